import PyProof.Rows.All
import Wide.All
import OpenK.AllK
import Wide.FinOn
import HandS.ForMost
import HandS.ForExc
import HandS.Defaults
import HandS.More
import HandS.Star
import HandS.Property
import HandS.IsInst
import HandS.OwnEq
import HandS.DictComp
import HandS.MakeKw
import HandS.NoneIn
import HandS.Conv
import HandS.Codes
import HandS.Evl
import KE.KStateDown
import PyProof.ReprReads
import PyProof.ReprRoads
import PyProof.StrLawsRepr
import HandS.HeadEnd
import HandS.DictEq
import HandS.Iter
import PyProof.DictUpdate
import HandS.HeadHook3
import HandS.Text
import HandS.Lambda
import HandS.ExcIs
import HandS.EndTab
import HandS.HeadHook4
import HandS.Style
import Wide.Once
import HandS.Head0
import HandS.Head1
import HandS.Head2
import HandS.HeadNt
import PySem.Challenge.RW_wholestory_k79_deeds_taken_back
set_option Elab.async false
set_option linter.all false
set_option maxRecDepth 100000
set_option maxHeartbeats 4000000
namespace Ws
open PySem PySem.Spec PyProof.Rows L2

/-! ### calls by a positional promise -/
def tCallR (sp : Sp) (E : XK) (t : TA) : TE := fun σ H Q => t σ H fun vs H1 => sp vs H1 Q E
def tMethR (C : Addr) (m : Str) (sp : Sp) (E : XK) (ta : TE) (t : TA) : TE := fun σ H Q => ta σ H fun x H1 =>
  ∃ a dx fs, x = .ref a ∧ H1 a = some (.ins C dx fs) ∧ fs.lookup m = none ∧ t σ H1 fun vs H2 => sp (.ref a :: vs) H2 Q E
section
variable {X : Cx} {CX : CXT} {k : Nat} {f C : Addr} {sp : Sp} {E : XK} {x m : Str} {e o : Expr} {es : List Expr} {ta : TE} {t : TA} {p pos apos : Pos}
theorem pe_callR (F : FnR X.prog X.w X.K X.mg X.base CX k f sp) (hr : Room k X.A) (hg : Gl X x) (hm : X.mg x = some (.ref f)) (hk : PySem.W.keepIn X.K (.ref f) = true) (hx : Passes CX X E) (ha : PA X (e :: es) t)
    (hd : (x == ("__debug__" : Str)) = false := by decide) (he : starEach (e :: es) X.env = (false, eval e X.env) :: starEach es X.env := by rfl)
    (hpl : (backTo pos (starEach es X.env)).any (·.1) = false := by rfl) : PE X (.Call (.Name x p) (e :: es) [] pos) (tCallR sp E t) := by
  constructor
  intro pins s σ H Q I h
  apply wpAny_Call_Name_kw (ld_glob I hg hm ?_ hd)
  apply PySem.W.callWith_K (h₀ := X.base) I.ok.mod.kin hk ?_ he hpl
  exact thn (ha.run pos pins s σ H _ I h) fun us s1 ⟨vs, H1, I1, r, q⟩ => ⟨I1.kIn, wpAny_call (run_fnR F hr hx I1 r q)⟩
theorem pe_callR0 (F : FnR X.prog X.w X.K X.mg X.base CX k f sp) (hr : Room k X.A) (hg : Gl X x) (hm : X.mg x = some (.ref f)) (hk : PySem.W.keepIn X.K (.ref f) = true) (hx : Passes CX X E)
    (hd : (x == ("__debug__" : Str)) = false := by decide) : PE X (.Call (.Name x p) [] [] pos) (tCallR sp E tNil) := by
  constructor
  intro pins s σ H Q I h
  apply wpAny_Call_Name_kw (ld_glob I hg hm ?_ hd)
  exact PySem.W.callWith_K0 I.kIn hk (wpAny_call (run_fnR (us := []) F hr hx I .nil h))
theorem pe_methR {pl : Sem Bool} (he : PE X o ta) (c : Cls X.K C) (hm : Meth X.K C m f) (F : FnR X.prog X.w X.K X.mg X.base CX k f sp) (hr : Room k X.A) (hx : Passes CX X E) (ha : PA X (e :: es) t)
    (hst : starEach (e :: es) X.env = (false, eval e X.env) :: starEach es X.env := by rfl) (hpl : (backTo pos (starEach es X.env)).any (·.1) = false := by rfl)
    (ht : eval (.Call (.Attribute o m apos) (e :: es) [] pos) X.env = (do
      let ov ← eval o X.env
      standAt apos.atName
      let (f, first) ← holding [ov] (getMethod ov m pl)
      callWith pos f first (backTo pos (starEach (e :: es) X.env)) (backToKw pos (keywordEach [] X.env))) := by rfl) :
    PE X (.Call (.Attribute o m apos) (e :: es) [] pos) (tMethR C m sp E ta t) := by
  constructor
  intro pins s σ H Q I h
  apply PySem.W.methodCall_KW (pl := pl) ?_ ht
  refine thn (he.run pins s σ H _ I h) fun u s1 ⟨x, H1, I1, rx, a, dx, fs, ex, ea, l, q⟩ => ?_
  subst ex
  cases (show u = Value.ref a from rx)
  refine getmeth_ok I1 ea c hm l ?_
  apply PySem.W.callWith_K (first := [.ref a]) (h₀ := X.base) I.ok.mod.kin hm.kp ?_ hst hpl
  exact thn (ha.run pos pins s1 σ H1 _ I1 q) fun us s2 ⟨vs, H2, I2, r, q2⟩ => ⟨I2.kIn, wpAny_call (run_fnR (us := .ref a :: us) (vs := .ref a :: vs) F hr hx I2 (.cons rfl r) q2)⟩
theorem pe_methR0 {pl : Sem Bool} (he : PE X o ta) (c : Cls X.K C) (hm : Meth X.K C m f) (F : FnR X.prog X.w X.K X.mg X.base CX k f sp) (hr : Room k X.A) (hx : Passes CX X E)
    (ht : eval (.Call (.Attribute o m apos) [] [] pos) X.env = (do
      let ov ← eval o X.env
      standAt apos.atName
      let (f, first) ← holding [ov] (getMethod ov m pl)
      callWith pos f first (backTo pos (starEach [] X.env)) (backToKw pos (keywordEach [] X.env))) := by rfl) :
    PE X (.Call (.Attribute o m apos) [] [] pos) (tMethR C m sp E ta tNil) := by
  constructor
  intro pins s σ H Q I h
  apply PySem.W.methodCall_KW (pl := pl) ?_ ht
  refine thn (he.run pins s σ H _ I h) fun u s1 ⟨x, H1, I1, rx, a, dx, fs, ex, ea, l, q⟩ => ?_
  subst ex
  cases (show u = Value.ref a from rx)
  refine getmeth_ok I1 ea c hm l ?_
  exact PySem.W.callWith_K0 (first := [.ref a]) I1.kIn hm.kp (wpAny_call (run_fnR (us := [.ref a]) (vs := [.ref a]) F hr hx I1 (.cons rfl .nil) q))
end
end Ws

set_option Elab.async false
set_option linter.all false
set_option maxRecDepth 100000
set_option maxHeartbeats 4000000
namespace Ws
open PySem PySem.Spec PyProof.Rows L2
theorem rr (a : Addr) : RelV (.ref a) (.ref a) := rfl
section
variable {X : Cx} {pins : List (Addr × Obj)} {σ : L2.St} {H : Hp} {s : Shared} {CX : CXT} {n : Nat} {g C : Addr} {sp : Sp} {E : XK}
/-- a def run from within a built-in -/
theorem run_sub {A : Around} {Q : VK} {us : List Value} {ws : List V} (F : FnR X.prog X.w X.K X.mg X.base CX n g sp) (hr : Room n A) (fr : A.frames = X.A.frames) (hx : Passes CX X E)
    (I : Inv X pins σ H s) (r : Vals ws us) (h : sp ws H Q E) : wpAny (model X.prog X.w) A (call (.ref g) us) (EP X pins σ Q) X.xe s := by
  have e := I.env0
  have e0 : Env0 X.prog X.w X.K X.mg X.base A X.stack s H := { frames := by rw [fr]; exact e.frames, mod := e.mod, bs := e.bs, bsz := e.bsz, funs := e.funs, frf := e.frf, hok := e.hok, bare := e.bare }
  apply wpAny_call
  refine codeAny_mono (F A X.stack s H us ws Q E hr e0 r h) fun r s' hq => ?_
  match r, hq with
  | .error e, hq => exact hx pins σ H s e s' I hq
  | .ok (.ret u), hq => exact I.after hq
  | .ok .next, hq => exact False.elim hq
  | .ok .brk, hq => exact False.elim hq
  | .ok .cont, hq => exact False.elim hq
/-- what stands at a tracked instance -/
theorem inst_of {a dx : Addr} {fs : List (Str × V)} (I : Inv X pins σ H s) (ha : H a = some (.ins C dx fs)) : ∃ od, PySem.W.InstAt s.heap a (PySem.W.instObj C dx) C (some od) := by
  obtain ⟨mA, O, _⟩ := ins_get I.hok ha
  obtain ⟨od, J, _⟩ := O.look
  exact ⟨od, J⟩
end

/-! ### o[i] -/
def tGetI (C : Addr) (sp : Sp) (E : XK) (ta tb : TE) : TE := fun σ H Q => ta σ H fun x H1 => tb σ H1 fun y H2 => ∃ a dx fs, x = .ref a ∧ H2 a = some (.ins C dx fs) ∧ sp [x, y] H2 Q E
section
variable {X : Cx} {CX : CXT} {n : Nat} {g C : Addr} {sp : Sp} {E : XK} {o i : PySem.Expr} {ta tb : TE} {pos : Pos}
theorem pe_getI (hs : PySem.W.findIn X.K (.ref C) "__getitem__" = some (some (.ref g))) (hf : PySem.W.fnIn X.K g = true) (hfn : PySem.W.isFn X.K (.ref g) = true)
    (F : FnR X.prog X.w X.K X.mg X.base CX n g sp) (hr : Room (n + 1) X.A) (hx : Passes CX X E) (ho : PE X o ta) (hi : PE X i tb)
    (hsl : ∀ a v, subscripted i true (.ref a) v = runValue (.builtin "lifetime.subscript" ⟨[.ref a, v], []⟩) := by intro _ _; with_unfolding_all rfl) :
    PE X (.Subscript o i pos) (tGetI C sp E ta tb) := by
  constructor
  intro pins s σ H Q I h
  refine Subscript_ (binT ho hi I h fun v u s2 x y H2 I2 rx ry q => ?_)
  obtain ⟨a, dx, fs, rfl, ha, q⟩ := q
  cases (show v = Value.ref a from rx)
  obtain ⟨od, J⟩ := inst_of I2 ha
  obtain ⟨m, hF⟩ := I2.fr
  exact PySem.W.sub_K hF I2.ok.mod.kin J hs hf hfn (run_sub F hr.in1 rfl hx I2 (.cons (rr a) (.cons ry .nil)) q) (hsl _ _)
end

/-! ### in, not in -/
def rInI (C : Addr) (sp : Sp) (E : XK) (neg : Bool) : R2 := fun x y H Q => ∃ a dx fs, y = .ref a ∧ H a = some (.ins C dx fs) ∧ sp [y, x] H (fun v H' => ∃ k, v = .bl k ∧ Q (.bl (if neg then !k else k)) H') E
section
variable {X : Cx} {CX : CXT} {n : Nat} {g C : Addr} {sp : Sp} {E : XK}
theorem op_inI (hs : PySem.W.findIn X.K (.ref C) "__contains__" = some (some (.ref g))) (hf : PySem.W.isFn X.K (.ref g) = true)
    (F : FnR X.prog X.w X.K X.mg X.base CX n g sp) (hr : Room n X.A) (hx : Passes CX X E) : OpR X (compareOp .In) (rInI C sp E false) := by
  intro pins s σ H x y v u Q I rx ry h
  obtain ⟨a, dx, fs, rfl, ha, q⟩ := h
  cases (show u = Value.ref a from ry)
  obtain ⟨od, J⟩ := inst_of I ha
  obtain ⟨m, hF⟩ := I.fr
  refine PySem.W.in_K hF I.ok.mod.kin J hs hf (wpAny_mono (run_sub F hr rfl hx I (.cons (rr a) (.cons rx .nil)) q) (fun r s' z => ?_) fun _ _ e => e)
  obtain ⟨z', H', I', rz, k, ek, q'⟩ := z
  subst ek
  cases (show r = Value.bool k from rz)
  exact wpAny_truthy_bool ⟨.bl k, H', I', rfl, q'⟩
theorem op_notInI (hs : PySem.W.findIn X.K (.ref C) "__contains__" = some (some (.ref g))) (hf : PySem.W.isFn X.K (.ref g) = true)
    (F : FnR X.prog X.w X.K X.mg X.base CX n g sp) (hr : Room n X.A) (hx : Passes CX X E) : OpR X (compareOp .NotIn) (rInI C sp E true) := by
  intro pins s σ H x y v u Q I rx ry h
  obtain ⟨a, dx, fs, rfl, ha, q⟩ := h
  cases (show u = Value.ref a from ry)
  obtain ⟨od, J⟩ := inst_of I ha
  obtain ⟨m, hF⟩ := I.fr
  refine PySem.W.notIn_K hF I.ok.mod.kin J hs hf (wpAny_mono (run_sub F hr rfl hx I (.cons (rr a) (.cons rx .nil)) q) (fun r s' z => ?_) fun _ _ e => e)
  obtain ⟨z', H', I', rz, k, ek, q'⟩ := z
  subst ek
  cases (show r = Value.bool k from rz)
  exact wpAny_truthy_bool ⟨.bl (!k), H', I', rfl, q'⟩
end

/-! ### != of an own class that has __eq__ alone -/
section
open PySem.Calls PySem.Builtin
variable {prog : Program} {w : World} {A : Around} {E : Value → Shared → Prop} {s : Shared} {K : PySem.W.Frag} {x C L f : Addr} {h₀ : Heap} {m : Str → Option Value} {ox : Obj} {od : Option Obj} {b tb : Value}
theorem ifBound_B {M : Model} {A : Around} {name : Str} {id : String} {args : List Value} {Q : Option Value → Shared → Prop} (KX : K.In s.heap) (I : PySem.W.InstAt s.heap x ox C od)
    (hs : PySem.W.findIn K (.ref C) name = some (some (.builtin id))) (hb : ∀ self, bindSpecial (.builtin id) self = pure (.builtin id, [self]))
    (h : wpAny M A (call (.builtin id) (.ref x :: args)) (fun v => Q (some v)) E s) : wpAny M A (callSpecialIfBound? (.ref x) name args) Q E s := by
  unfold callSpecialIfBound? bindSpecialIfBound?
  refine wpAny_holding (wpAny_bind (wpAny_bind (wpAny_bind (I.type.here ((PySem.W.looks_findIn KX hs).here ?_)))))
  have fin : wpAny M A (call (.builtin id) ([.ref x] ++ args) >>= fun v => pure (some v)) Q E s :=
    wpAny_bind (wpAny_mono h (fun v s' q => wpAny_pure q) fun _ _ q => q)
  refine wpAny_bind (wpAny_askSetting (wpAny_ite ?_))
  split
  · exact wpAny_bind ((PySem.W.Looks.of_pure (hb _)).here (wpAny_pure (by exact fin)))
  · exact wpAny_tryCatch (wpAny_bind ((PySem.W.Looks.of_pure (hb _)).here (wpAny_pure (by exact fin))))
theorem ne_call {Q : Value → Shared → Prop} (hu : A.in1.units < cLine) (KX : K.In s.heap) (I : PySem.W.InstAt s.heap x ox C od) (hm : PySem.W.mroIn K C (.type "object") = some true)
    (hq : PySem.W.findIn K (.ref C) "__eq__" = some (some (.ref f))) (hf : PySem.W.isFn K (.ref f) = true)
    (h : wpAny (model prog w) A.in1 (call (.ref f) [.ref x, b]) (fun r s' => ∃ k, r = .bool k ∧ Q (.bool (!k)) s') E s) : wpAny (model prog w) A (call (.builtin "object.__ne__") [.ref x, b]) Q E s := by
  apply wpAny_call
  apply codeAny_call_builtin PySem.F.slot_object_ne.plain PySem.F.entry_object_ne
  apply PySem.W.check_slot (i := "object.__ne__") (owner := "object") (n := "__ne__") (by decide +kernel) (by decide +kernel) (I.type.andThen (PySem.W.looks_mroIn KX hm)) (PySem.F.cmpArgs_ne _ _)
  unfold Builtin.«object.__ne__»
  refine wpAny_bind (m := slotArgs "__ne__" 1 _) (wpAny_pure ?_)
  refine wpAny_bind (m := cRoomFor _ _) (wpAny_cRoomFor hu ?_)
  refine wpAny_bind (m := callSpecialIfBound? (.ref x) (Str.ofString "__eq__") [b]) (PySem.W.ifBound_K KX I hq hf (wpAny_mono h (fun r s' z => ?_) fun _ _ y => y))
  obtain ⟨k, rfl, q⟩ := z
  exact wpAny_bind (wpAny_truthy_bool (wpAny_pure q))
theorem ne_K {Q : Value → Shared → Prop} (hu : A.in1.units < cLine) (F : Fr h₀ L s.heap m) (X₀ : K.In h₀) (I : PySem.W.InstAt s.heap x ox C od) (hb : PySem.W.Looks (model prog w) s.heap (typeOf b) tb)
    (hn : PySem.W.notFirst K C tb = true) (hne : PySem.W.findIn K (.ref C) "__ne__" = some (some (.builtin "object.__ne__"))) (hm : PySem.W.mroIn K C (.type "object") = some true)
    (hq : PySem.W.findIn K (.ref C) "__eq__" = some (some (.ref f))) (hf : PySem.W.isFn K (.ref f) = true)
    (h : wpAny (model prog w) A.in1 (call (.ref f) [.ref x, b]) (fun r s' => ∃ k, r = .bool k ∧ Q (.bool (!k)) s') E s) :
    wpAny (model prog w) A (richCompare .NotEq (.ref x) b) Q E s := by
  have KX := X₀.keeps F.keep
  have hu0 : A.units < cLine := Nat.lt_of_succ_lt hu
  have one : wpAny (model prog w) A (tryCompare (.ref x) (cmpInfo .NotEq).2.1 b) (fun r s' => ∃ k, r = some (Value.bool k) ∧ Q (.bool k) s') E s := by
    unfold tryCompare
    refine wpAny_bind (ifBound_B KX I hne PySem.F.slot_object_ne.bind (ne_call (Q := fun v s' => wpAny (model prog w) A (match some v with
      | some .notImplemented | none => pure none
      | some v => pure (some v)) (fun r s' => ∃ k, r = some (Value.bool k) ∧ Q (.bool k) s') E s') hu KX I hm hq hf (wpAny_mono h (fun r s' z => ?_) fun _ _ e => e)))
    obtain ⟨k, rfl, q⟩ := z
    exact ⟨k, rfl, wpAny_pure ⟨_, rfl, q⟩⟩
  unfold richCompare
  simp only [PySem.oneThing_ref]
  refine wpAny_holding (wpAny_bind (wpAny_cRoomFor hu0 ?_))
  refine wpAny_bind (I.type.here (wpAny_bind (hb.here ?_)))
  split
  · rename_i q
    have e : PySem.W.subIn K tb (.ref C) = some false := by
      rcases Bool.or_eq_true_iff.mp hn with e | e
      · rw [beq_iff_eq.mp e] at q; simp at q
      · exact beq_iff_eq.mp e
    refine wpAny_bind ((PySem.W.looks_subIn KX e).here ?_)
    simp only [Bool.false_eq_true, if_false]
    refine wpAny_bind (wpAny_mono one (fun r s' z => ?_) fun _ _ e => e)
    obtain ⟨k, rfl, hq⟩ := z
    exact wpAny_pure hq
  · refine wpAny_bind (wpAny_pure ?_)
    simp only [Bool.false_eq_true, if_false]
    refine wpAny_bind (wpAny_mono one (fun r s' z => ?_) fun _ _ e => e)
    obtain ⟨k, rfl, hq⟩ := z
    exact wpAny_pure hq
end

/-! ### ==, != of two instances -/
def rEqI (K : PySem.W.Frag) (C : Addr) (sp : Sp) (E : XK) (neg : Bool) : R2 := fun x y H Q => ∃ a dx fs b C' dy gs, x = .ref a ∧ y = .ref b ∧ H a = some (.ins C dx fs) ∧ H b = some (.ins C' dy gs) ∧
  PySem.W.notFirst K C (.ref C') = true ∧ sp [x, y] H (fun v H' => ∃ k, v = .bl k ∧ Q (.bl (if neg then !k else k)) H') E
section
variable {X : Cx} {CX : CXT} {n : Nat} {g C : Addr} {sp : Sp} {E : XK}
theorem op_eqI (hs : PySem.W.findIn X.K (.ref C) "__eq__" = some (some (.ref g))) (hf : PySem.W.isFn X.K (.ref g) = true)
    (F : FnR X.prog X.w X.K X.mg X.base CX n g sp) (hr : Room n X.A) (hx : Passes CX X E) : OpR X (compareOp .Eq) (rEqI X.K C sp E false) := by
  intro pins s σ H x y v u Q I rx ry h
  obtain ⟨a, dx, fs, b, C', dy, gs, rfl, rfl, ha, hb, hn, q⟩ := h
  cases (show v = Value.ref a from rx)
  cases (show u = Value.ref b from ry)
  obtain ⟨od, J⟩ := inst_of I ha
  obtain ⟨od', J'⟩ := inst_of I hb
  obtain ⟨m, hF⟩ := I.fr
  show wpAny _ _ (richCompare .Eq (.ref a) (.ref b)) _ _ _
  refine PySem.W.cmp_K (op := .Eq) (tb := .ref C') hr.units0 hF I.ok.mod.kin J J'.type hn hs hf (wpAny_mono (run_sub F hr rfl hx I (.cons (rr a) (.cons (rr b) .nil)) q) (fun r s' z => ?_) fun _ _ e => e)
  obtain ⟨z', H', I', rz, k, ek, q'⟩ := z
  subst ek
  cases (show r = Value.bool k from rz)
  exact ⟨.bl k, H', I', rfl, q'⟩
theorem op_neI (hne : PySem.W.findIn X.K (.ref C) "__ne__" = some (some (.builtin "object.__ne__"))) (hm : PySem.W.mroIn X.K C (.type "object") = some true)
    (hs : PySem.W.findIn X.K (.ref C) "__eq__" = some (some (.ref g))) (hf : PySem.W.isFn X.K (.ref g) = true)
    (F : FnR X.prog X.w X.K X.mg X.base CX n g sp) (hr : Room (n + 1) X.A) (hx : Passes CX X E) : OpR X (compareOp .NotEq) (rEqI X.K C sp E true) := by
  intro pins s σ H x y v u Q I rx ry h
  obtain ⟨a, dx, fs, b, C', dy, gs, rfl, rfl, ha, hb, hn, q⟩ := h
  cases (show v = Value.ref a from rx)
  cases (show u = Value.ref b from ry)
  obtain ⟨od, J⟩ := inst_of I ha
  obtain ⟨od', J'⟩ := inst_of I hb
  obtain ⟨m, hF⟩ := I.fr
  show wpAny _ _ (richCompare .NotEq (.ref a) (.ref b)) _ _ _
  refine ne_K (tb := .ref C') hr.in1.units0 hF I.ok.mod.kin J J'.type hn hne hm hs hf (wpAny_mono (run_sub F hr.in1 rfl hx I (.cons (rr a) (.cons (rr b) .nil)) q) (fun r s' z => ?_) fun _ _ e => e)
  obtain ⟨z', H', I', rz, k, ek, q'⟩ := z
  subst ek
  cases (show r = Value.bool k from rz)
  exact ⟨k, rfl, .bl (!k), H', I', rfl, q'⟩
end
end Ws

set_option Elab.async false
set_option linter.all false
set_option maxRecDepth 100000
set_option maxHeartbeats 4000000
namespace Ws
open PySem PySem.Spec PyProof.Rows L2

mutual
/-- no more signs than these in the text of data -/
def bD : PyData → Nat
  | .none => 4
  | .bool _ => 5
  | .int i => i.natAbs.log2 + 3
  | .str x => 10 * x.length + 2
  | .list xs => bDs xs + 3
  | .tuple xs => bDs xs + 3
  | .dict _ => 0
def bDs : List PyData → Nat
  | [] => 0
  | x :: xs => bD x + 2 + bDs xs
end
mutual
/-- data without dicts, its signs real ones, its numbers not too long -/
def okD : PyData → Bool
  | .none => true
  | .bool _ => true
  | .int i => decide (i.natAbs.log2 < 1920)
  | .str x => x.cps.toList.all fun c => decide (c < 16 ^ 8)
  | .list xs => okDs xs
  | .tuple xs => okDs xs
  | .dict _ => false
def okDs : List PyData → Bool
  | [] => true
  | x :: xs => okD x && okDs xs
end
theorem slen (a b : Str) : (a ++ b).length = a.length + b.length := strLen_append a b
theorem textFrom_le : ∀ (ts : List Str) (k : Nat) (acc : Str), (textFrom k acc ts).length ≤ acc.length + (ts.map fun t => t.length + 2).sum
  | [], k, acc => by simp [textFrom]
  | t :: ts, k, acc => by
    have ih := textFrom_le ts (k + 1) (acc ++ (if k > 0 then ", " else "" : String) ++ t)
    have e : (acc ++ (if k > 0 then ", " else "" : String) ++ t).length ≤ acc.length + 2 + t.length := by
      rw [slen, slen]
      have h2 : (((if k > 0 then ", " else "" : String)) : Str).length ≤ 2 := by
        split
        · exact Nat.le_refl 2
        · exact Nat.zero_le 2
      omega
    show (textFrom (k + 1) (acc ++ (if k > 0 then ", " else "" : String) ++ t) ts).length ≤ _
    simp only [List.map_cons, List.sum_cons]
    omega
theorem join_le : ∀ ts : List Str, (Str.join ", " ts).length ≤ (ts.map fun t => t.length + 2).sum
  | [] => Nat.zero_le _
  | [x] => by
    show x.length ≤ _
    simp
  | x :: y :: r => by
    have ih := join_le (y :: r)
    show (x ++ ", " ++ Str.join ", " (y :: r)).length ≤ _
    rw [slen, slen]
    have h2 : ((", " : String) : Str).length = 2 := rfl
    rw [List.map_cons, List.sum_cons, h2]
    omega
theorem natText_le (n : Nat) : (toString n).length ≤ n.log2 + 1 := by
  have h : n < 2 ^ (n.log2 + 1) := Nat.lt_log2_self
  exact nat_repr_length_le (by omega) h
theorem intText_le (i : Int) : ((toString i : String) : Str).length ≤ i.natAbs.log2 + 3 := by
  rw [PySem.ofString_length]
  cases i with
  | ofNat n =>
    have := natText_le n
    show (toString n).length ≤ n.log2 + 3
    omega
  | negSucc n =>
    have := natText_le (n + 1)
    show ("-" ++ toString (n + 1)).length ≤ (n + 1).log2 + 3
    rw [String.length_append]
    have h1 : ("-" : String).length = 1 := rfl
    omega
mutual
theorem shown_le : ∀ d : PyData, okD d = true → (PyData.shown d).length ≤ bD d
  | .none, _ => by
    show (("None" : String) : Str).length ≤ 4
    exact Nat.le_refl 4
  | .bool b, _ => by
    cases b
    · exact Nat.le_refl 5
    · exact Nat.le_succ 4
  | .int i, _ => intText_le i
  | .str x, h => by
    have h2 : ∀ c ∈ x.cps.toList, c < 16 ^ 8 := fun c hc => of_decide_eq_true (List.all_eq_true.mp (show (x.cps.toList.all fun c => decide (c < 16 ^ 8)) = true from h) c hc)
    exact StrLaws.reprText_len x h2
  | .list xs, h => by
    have ih := shownAll_le xs h
    show (textFrom 0 "[" (PyData.shownAll xs) ++ ("]" : String)).length ≤ bDs xs + 3
    rw [slen]
    have h1 := textFrom_le (PyData.shownAll xs) 0 "["
    have e1 : (("[" : String) : Str).length = 1 := rfl
    have e2 : (("]" : String) : Str).length = 1 := rfl
    omega
  | .tuple xs, h => by
    have ih := shownAll_le xs h
    show (("(" : Str) ++ Str.join ", " (PyData.shownAll xs) ++ (if (PyData.shownAll xs).length == 1 then ",)" else ")" : String)).length ≤ bDs xs + 3
    rw [slen, slen]
    have h1 := join_le (PyData.shownAll xs)
    have e1 : (("(" : String) : Str).length = 1 := rfl
    have e2 : ((if (PyData.shownAll xs).length == 1 then ",)" else ")" : String) : Str).length ≤ 2 := by
      split
      · exact Nat.le_refl 2
      · exact Nat.le_succ 1
    omega
  | .dict _, h => by cases h
theorem shownAll_le : ∀ xs : List PyData, okDs xs = true → ((PyData.shownAll xs).map fun t => t.length + 2).sum ≤ bDs xs
  | [], _ => Nat.le_refl _
  | x :: xs, h => by
    obtain ⟨h1, h2⟩ := Bool.and_eq_true_iff.mp (show (okD x && okDs xs) = true from h)
    have a := shown_le x h1
    have b := shownAll_le xs h2
    show ((PyData.shown x :: PyData.shownAll xs).map fun t => t.length + 2).sum ≤ bD x + 2 + bDs xs
    rw [List.map_cons, List.sum_cons]
    omega
end
mutual
theorem showable_of : ∀ d : PyData, okD d = true → PyData.showable d = true
  | .none, _ => rfl
  | .bool _, _ => rfl
  | .int _, h => h
  | .str _, _ => rfl
  | .list xs, h => showableAll_of xs h
  | .tuple xs, h => showableAll_of xs h
  | .dict _, h => by cases h
theorem showableAll_of : ∀ xs : List PyData, okDs xs = true → PyData.showableAll xs = true
  | [], _ => rfl
  | x :: xs, h => by
    obtain ⟨h1, h2⟩ := Bool.and_eq_true_iff.mp (show (okD x && okDs xs) = true from h)
    show (PyData.showable x && PyData.showableAll xs) = true
    rw [showable_of x h1, showableAll_of xs h2]
    rfl
end
mutual
theorem noDict_of : ∀ d : PyData, okD d = true → PyData.hasDict d = false
  | .none, _ => rfl
  | .bool _, _ => rfl
  | .int _, _ => rfl
  | .str _, _ => rfl
  | .list xs, h => noDictAll_of xs h
  | .tuple xs, h => noDictAll_of xs h
  | .dict _, h => by cases h
theorem noDictAll_of : ∀ xs : List PyData, okDs xs = true → PyData.hasDictAll xs = false
  | [], _ => rfl
  | x :: xs, h => by
    obtain ⟨h1, h2⟩ := Bool.and_eq_true_iff.mp (show (okD x && okDs xs) = true from h)
    show (PyData.hasDict x || PyData.hasDictAll xs) = false
    rw [noDict_of x h1, noDictAll_of xs h2]
    rfl
end

/-- repr(x), x data -/
def rRepr (K : PySem.W.Frag) : List V → Hp → VK → Prop := fun xs H Q => ∃ x d, xs = [x] ∧ Dp K H x d ∧ okD d = true ∧ bD d ≤ sizeLine ∧ d.depth ≤ 60 ∧ Q (.str d.shown) H
theorem call_reprD {X : Cx} (hg : X.A.guards = some []) (hu : X.A.units + 64 < cLine) : CallR X (.builtin "repr") (rRepr X.K) := by
  intro pins s σ H xs us Q I r h
  obtain ⟨x, d, rfl, hd, hk, hb, hp, q⟩ := h
  obtain ⟨u, rfl, ru⟩ := vals1 r
  obtain ⟨as, hr⟩ := Dp.reads I d x u hd ru
  have hz : d.shown.length ≤ sizeLine := Nat.le_trans (shown_le d hk) hb
  match x, d, hd, ru, hr, hk, hz, q with
  | .non, .none, .non, ru, hr, hk, hz, q =>
    cases (show u = Value.none from ru)
    exact P.repr_of_none ⟨.str _, H, I.tok _, ⟨_, rfl⟩, q⟩
  | .bl b, .bool _, .bl _, ru, hr, hk, hz, q =>
    cases (show u = Value.bool b from ru)
    exact P.repr_of_bool ⟨.str _, H, I.tok _, ⟨_, rfl⟩, q⟩
  | .int i, .int _, .int _, ru, hr, hk, hz, q =>
    obtain ⟨t, rfl⟩ := (show ∃ t, u = Value.int i t from ru)
    exact P.repr_of_int (of_decide_eq_true hk) ⟨.str _, H, I.tok _, ⟨_, rfl⟩, q⟩
  | .str z, .str _, .str _, ru, hr, hk, hz, q =>
    obtain ⟨t, rfl⟩ := (show ∃ t, u = Value.str z t from ru)
    exact P.repr_of_str ⟨.str _, H, I.tok _, ⟨_, rfl⟩, q⟩ hz
  | .ref a, d, hd, ru, hr, hk, hz, q =>
    cases (show u = Value.ref a from ru)
    exact repr_of_reads' hr (showable_of d hk) (PyData.noDict_hsm (noDict_of d hk)) hg (by omega) (fun _ _ e => e) (fun h' u tk k => ⟨.str _, H, I.kept k, ⟨_, rfl⟩, q⟩) hz
end Ws

set_option Elab.async false
set_option linter.all false
set_option maxRecDepth 100000
set_option maxHeartbeats 4000000
namespace Ws
open PySem PySem.Spec PyProof.Rows L2
/-- a positional promise, where no guard runs around -/
def FnRG (P : Program) (w : World) (K : PySem.W.Frag) (mg : Str → Option Value) (base : Heap) (CX : CXT) (k : Nat) (f : Addr) (sp : Sp) : Prop :=
  ∀ (A : Around) (outer : List Env) (s : Shared) (H : Hp) (us : List Value) (vs : List V) (Q : VK) (E : XK),
    A.guards = some [] → Room k A → Env0 P w K mg base A outer s H → Vals vs us → sp vs H Q E → codeAny (model P w) A (.call (.ref f) ⟨us, []⟩) (CR CX outer P w H s Q E) s
section
variable {P : Program} {w : World} {K : PySem.W.Frag} {mg : Str → Option Value} {base : Heap} {CX : CXT} {k : Nat} {f : Addr} {sp : Sp}
/-- such a def, by its body -/
theorem FunD.okG {x qual : Str} {params : Arguments} {body : List Stmt} {scope : Scope} {dvs : List V} {kws : List (Str × V)} {fd : FuncData} {N ps : List Str} {ds : List Value} {es : List V}
    (F : FunD K x qual params body scope dvs kws f fd) (S : FnScope N ps scope) (B : Binds K fd ps ds) (D : Vals es ds) (len : ∀ vs H Q E, sp vs H Q E → (vs ++ es).length = ps.length)
    (hbody : ∀ (cdv : Value) (A : Around) (outer : List Env) (s : Shared) (H : Hp) (vs : List V) (Q : VK) (E : XK), A.guards = some [] →
      Room k (A.deeper (envOfC qual scope s.heap.objs.size f cdv)) → sp vs H Q E →
      ∃ t, PSs (cxOf CX P w K mg base N qual scope f cdv A outer s H E) body t ∧ t { nx := fun _ H' => Q .non H', rt := Q } (start N (vs ++ es)) H) :
    FnRG P w K mg base CX (k + 1) f sp := by
  intro A outer s H us vs Q E hg hr e0 r hsp
  obtain ⟨oc, od, dV, kV, doc, pm, an, cdv, ct, osl, rfl, lk, hcd, _, _⟩ := F.ex
  have kin : K.In s.heap := e0.mod.kin.keeps fun b o e => (e0.bs b o e).1
  have nol : s.heap.NoLimit := e0.mod.nolimit.keeps fun b o e => (e0.bs b o e).1
  have r' : Vals (vs ++ es) (us ++ ds) := r.append D
  have hl : (vs ++ es).length = ps.length := len _ _ _ _ hsp
  have hl' : (us ++ ds).length = ps.length := r'.length ▸ hl
  have kinds : ∀ y ∈ ps.zip (us ++ ds), scope.names.lookup y.1 = some .local ∨
      (scope.names.lookup y.1 = some .cell ∧ ((cellsFrom (s.heap.objs.size + 1) scope.names []).lookup y.1).isSome = true) := by
    rintro ⟨n, v⟩ hy
    have hn := S.par n (List.of_mem_zip hy).1
    exact hn.imp id fun q => ⟨q, PySem.W.cellsFrom_some _ _ _ (.inl q)⟩
  apply codeAny_call_function hr.depth (kin _ _ lk) rfl S.co S.gen rfl (PySem.W.codeRec_of kin hcd) (B s us kin hl' _ _ _ _ ?_)
  refine wpAny_newFunctionEnv_cells S.kind kinds fun env he s1 x => ?_
  subst he
  refine ⟨nol.keeps x.toInCall.keep, codeAny_func ?_⟩
  obtain ⟨t, ht, hq⟩ := hbody cdv A outer s H vs Q E hg (hr.deeper _) hsp
  have J0 := inv_start (CX := CX) (P := P) (w := w) (K := K) (mg := mg) (base := base) (outer := outer) (E := E) S hr.hd e0 hl r' x
  refine wpAny_mono (ht.run [] s1 _ H _ J0 hq) (fun fl s' hs => ?_) fun _ _ z => z
  match fl, hs with
  | .ret u, hs => obtain ⟨v, σ', H', J, rv, q⟩ := hs; exact ⟨v, H', J.os, J.bare, J.base, J.hok, rv, q⟩
  | .next, hs => obtain ⟨σ', H', J, q⟩ := hs; exact ⟨V.non, H', J.os, J.bare, J.base, J.hok, rfl, q⟩
  | .brk, hs => obtain ⟨_, _, _, q⟩ := hs; exact False.elim q
  | .cont, hs => obtain ⟨_, _, _, q⟩ := hs; exact False.elim q
theorem FnRG.mono {j : Nat} (F : FnRG P w K mg base CX j f sp) (h : j ≤ k) : FnRG P w K mg base CX k f sp :=
  fun A outer s H us vs Q E hg hr => F A outer s H us vs Q E hg (hr.mono h)
theorem FnRG.of (F : FnR P w K mg base CX k f sp) : FnRG P w K mg base CX k f sp :=
  fun A outer s H us vs Q E _ hr => F A outer s H us vs Q E hr
end
section
variable {X : Cx} {CX : CXT} {k : Nat} {f : Addr} {sp : Sp} {E : XK} {x : Str} {e : PySem.Expr} {es : List PySem.Expr} {t : TA} {p pos : Pos}
theorem pe_callG (F : FnRG X.prog X.w X.K X.mg X.base CX k f sp) (gu : X.A.guards = some []) (hr : Room k X.A) (hg : Gl X x) (hm : X.mg x = some (.ref f)) (hk : PySem.W.keepIn X.K (.ref f) = true)
    (hx : Passes CX X E) (ha : PA X (e :: es) t) (hd : (x == ("__debug__" : Str)) = false := by decide) (he : starEach (e :: es) X.env = (false, eval e X.env) :: starEach es X.env := by rfl)
    (hpl : (backTo pos (starEach es X.env)).any (·.1) = false := by rfl) : PE X (.Call (.Name x p) (e :: es) [] pos) (tCallR sp E t) := by
  constructor
  intro pins s σ H Q I h
  apply wpAny_Call_Name_kw (ld_glob I hg hm ?_ hd)
  apply PySem.W.callWith_K (h₀ := X.base) I.ok.mod.kin hk ?_ he hpl
  refine thn (ha.run pos pins s σ H _ I h) fun us s1 ⟨vs, H1, I1, r, q⟩ => ⟨I1.kIn, ?_⟩
  apply wpAny_call
  refine codeAny_mono (F X.A X.stack s1 H1 us vs Q E gu hr I1.env0 r q) fun r s' hq => ?_
  match r, hq with
  | .error e, hq => exact hx pins σ H1 s1 e s' I1 hq
  | .ok (.ret u), hq => exact I1.after hq
  | .ok .next, hq => exact False.elim hq
  | .ok .brk, hq => exact False.elim hq
  | .ok .cont, hq => exact False.elim hq
end
/-- the script at a, as the law is handed it -/
def scrO (vs : List Value) : Obj := { cls := .type "list", data := .seq vs.toArray }
/-- the law's call at the heap behind the top -/
theorem law_callG {P : Program} {w : World} {K : PySem.W.Frag} {mg mb : Str → Option Value} {CX : CXT} {k : Nat} {fa a : Addr} {sp : Sp} {s₁ : Shared} {vs : List Value} {ns : List Int}
    (KX : K.In s₁.heap) (gl : s₁.heap.Ns mainGlobals mg) (bl : s₁.heap.Ns builtinsNs mb) (bb : ∀ x : Str, x ≠ "__name__" → mb x = bootBuiltins x) (lim : s₁.heap.NoLimit) (gens : s₁.gens = #[])
    (ha : s₁.heap.get? a = some (scrO vs)) (hi : IntsAre vs ns) (hl : ns.length ≤ sizeLine) (hr : Room k callerA)
    (F : ∀ base : Heap, K.In base → base.Ns mainGlobals mg → FnRG P w K mg base CX k fa sp)
    (hsp : ∀ H : Hp, Only H → SqL K H a (ns.map V.int) → sp [.ref a] H (fun v _ => v = .bl true) fun _ _ _ => False) (no : ∀ H e s', CX [] H s₁ (fun _ _ _ => False) e s' → False) :
    codeAny (model P w) callerA (.call (.ref fa) ⟨[.ref a], []⟩) (fun r s' => r = .ok (.ret (.bool true)) ∧ OldK s₁.heap s'.heap ∧ s'.os = s₁.os ∧ AllBare s'.gens) s₁ := by
  have rv := vals_ints hi
  -- H tracks at most the script
  suffices key : ∀ H : Hp, (∀ b u, H b = some u → b = a ∧ u = .frz (scrO vs) (.lst (ns.map V.int)) ∧ K.lookup a = none) → SqL K H a (ns.map V.int) →
      codeAny (model P w) callerA (.call (.ref fa) ⟨[.ref a], []⟩) (fun r s' => r = .ok (.ret (.bool true)) ∧ OldK s₁.heap s'.heap ∧ s'.os = s₁.os ∧ AllBare s'.gens) s₁ by
    cases hk : K.lookup a with
    | some o =>
      have e := KX a o hk
      rw [ha] at e
      cases e
      refine key (fun _ => none) (fun b u z => nomatch (show (none : Option HO) = some u from z)) (.inr ⟨_, vs.toArray, _, hk, rfl, rfl, rfl, ?_, by simpa using rv⟩)
      rw [List.size_toArray, hi.length]
      exact hl
    | none =>
      refine key (upd (fun _ => none) a (.frz (scrO vs) (.lst (ns.map V.int)))) (fun b u z => ?_) (.inl (.inr ⟨scrO vs, upd_same⟩))
      by_cases hb : b = a
      · subst hb
        rw [upd_same] at z
        exact ⟨rfl, (Option.some.inj z).symm, hk⟩
      · rw [upd_ne hb] at z
        exact nomatch (show (none : Option HO) = some u from z)
  intro H hH hS
  have free : ∀ {b : Addr}, b ≠ a → H b = none := fun {b} hb => by
    cases q : H b with
    | none => rfl
    | some u => exact absurd (hH b u q).1 hb
  have hok : HOk P w H s₁.heap := fun b u q => by
    obtain ⟨rfl, rfl, _⟩ := hH b u q
    exact ⟨ha, by rw [List.length_map]; exact hl, vs, _, rv, ha⟩
  have nd : ∀ {b : Addr} {o : Obj} {es : Array DictEntry} {ep : Nat}, s₁.heap.get? b = some o → o.data = .dict es ep → b ≠ a := fun {b o es ep} e d z => by
    subst z
    rw [ha] at e
    cases e
    exact nomatch (show Data.seq vs.toArray _ = Data.dict es ep from d)
  have nsK : ∀ {b : Addr} {m : Str → Option Value}, s₁.heap.Ns b m → (hidT s₁.heap H).Ns b m := fun {b m} z => by
    obtain ⟨o, es, ep, e, d, r⟩ := z
    exact ⟨o, es, ep, hidT_get e (free (nd e d)), d, r⟩
  have kb : K.In (hidT s₁.heap H) := fun b o e => by
    refine hidT_get (KX b o e) ?_
    cases q : H b with
    | none => rfl
    | some u =>
      obtain ⟨rfl, _, z⟩ := hH b u q
      rw [z] at e
      cases e
  have lim' : (hidT s₁.heap H).NoLimit := by
    obtain ⟨mc, h1, h2⟩ := lim
    exact ⟨mc, nsK h1, h2⟩
  have e0 : Env0 P w K mg (hidT s₁.heap H) callerA [] s₁ H :=
    ⟨rfl, ⟨kb, nsK gl, ⟨mb, nsK bl, bb⟩, lim'⟩, fun b o e => of_hidT e, Nat.le_of_eq (hidT_size _ _), trivial, fun b hb => (by cases (show b ∈ ([] : List Addr) from hb)), hok, .of_eq gens⟩
  have only : Only H := fun b => by
    cases q : H b with
    | none => exact .inl rfl
    | some u =>
      obtain ⟨_, rfl, _⟩ := hH b u q
      exact .inr ⟨_, _, rfl⟩
  refine codeAny_mono (F _ kb (nsK gl) callerA [] s₁ H [.ref a] [.ref a] _ _ rfl hr e0 (.cons (rr a) .nil) (hsp H only hS)) fun r s' h => ?_
  match r, h with
  | .error e, h => exact (no H e s' h).elim
  | .ok .next, h => exact False.elim h
  | .ok .brk, h => exact False.elim h
  | .ok .cont, h => exact False.elim h
  | .ok (.ret u), h =>
    obtain ⟨v, H', os, bare, un, hok', r', q⟩ := h
    cases (show v = .bl true from q)
    cases (show u = Value.bool true from r')
    refine ⟨rfl, OldK.of_keep fun b o e => ?_, os, bare⟩
    cases q : H b with
    | none => exact un.keep b o e q (fun z => nomatch (show b ∈ ([] : List Addr) from z)) (fun z => nomatch z)
    | some u =>
      obtain ⟨rfl, rfl, _⟩ := hH b u q
      obtain ⟨e2, _⟩ := hok' _ _ (un.frzs _ _ _ q)
      rw [ha] at e
      cases e
      exact e2
/-- the law's walk behind a head by facts -/
theorem walk_ofG {l : PySem.W.OpenLaw} {n k : Nat} {q : Program} {loose : List Str} {XP : (Str → Option Value) → Heap → Prop} {YP : World → Heap → Prop} {d : DefRec} {CX : CXT}
    (hn : l.most = some n) (hn2 : n ≤ sizeLine) (hdf : d.params.defaults = []) (hr : Room k callerA)
    (F : ∀ (w : World) (mg : Str → Option Value) (fa : Addr) (h : Heap), YP w h → h.Ns mainGlobals mg → mg d.name = some (.ref fa) →
      ∃ (K : PySem.W.Frag) (sp : Sp), K.In h ∧
        (∀ (H : Hp) (a : Addr) (ns : List Int), ns.length ≤ n → Only H → SqL K H a (ns.map V.int) → sp [.ref a] H (fun v _ => v = .bl true) fun _ _ _ => False) ∧
        ∀ base : Heap, K.In base → base.Ns mainGlobals mg → FnRG l.prog w K mg base CX k fa sp)
    (no : ∀ (H : Hp) (s : Shared) (e : Value) (s' : Shared), CX [] H s (fun _ _ _ => False) e s' → False) :
    PySem.W.WalkO q loose XP YP l.row.toRowW d [] (fun f vs => PySem.call f vs) := by
  apply Att.attach_call hn hdf
  intro w s₀ s₁ mg mb fa o pm cd doc a vs ns G Y ho hd hcd hmg hobj hints hlen hg
  obtain ⟨K, sp, KX, hsp, hF⟩ := F w mg fa _ Y G.T.g hmg
  exact law_callG KX G.T.g G.T.b G.T.builtins G.T.nolimit hg hobj hints (Nat.le_trans hlen hn2) hr hF (fun H hO hS => hsp H a ns hlen hO hS) fun H e s' => no H s₁ e s'
end Ws

set_option Elab.async false
set_option linter.all false
set_option maxRecDepth 100000
set_option maxHeartbeats 4000000
namespace Ws
open PySem PySem.Spec PyProof.Rows L2
abbrev Eqb := V → V → Bool → Hp → Prop
/-- everything but dicts stands as it did -/
def Nd (H H' : Hp) : Prop := ∀ c o, H c = some o → (∀ kvs, o ≠ .dK kvs) → H' c = some o
theorem Nd.of {H H' : Hp} (e : Ext H H') : Nd H H' := fun c o h _ => e c o h
theorem Nd.trans {H H1 H2 : Hp} (a : Nd H H1) (b : Nd H1 H2) : Nd H H2 := fun c o h n => b c o (a c o h n) n
theorem Nd.lock {H : Hp} {d : Addr} {kvs : List (Key × V)} {o : HO} (h : H d = some (.dK kvs)) : Nd H (upd H d o) := fun c u e n => by
  have hc : c ≠ d := fun z => by
    subst z
    rw [h] at e
    cases e
    exact n _ rfl
  rw [upd_ne hc]
  exact e
def MonN (D : Eqb) : Prop := ∀ x y b H H', Nd H H' → D x y b H → D x y b H'
/-- == as a list, a tuple or a dict asks it of its items -/
def EqB (X : Cx) (n : Nat) (D : Eqb) : Prop :=
  ∀ (A : Around) (pins : List (Addr × Obj)) (s : Shared) (σ : L2.St) (H : Hp) (x y : V) (b : Bool) (u v : Value), Sub X n A → Inv X pins σ H s → RelV x u → RelV y v → D x y b H →
    wpAny (model X.prog X.w) A (eqBool u v) (fun r s' => r = b ∧ ∃ H', Inv X pins σ H' s' ∧ Ext H H') X.xe s
/-- == as the operator -/
def RcB (X : Cx) (n : Nat) (D : Eqb) : Prop :=
  ∀ (A : Around) (pins : List (Addr × Obj)) (s : Shared) (σ : L2.St) (H : Hp) (x y : V) (b : Bool) (u v : Value), Sub X n A → Inv X pins σ H s → RelV x u → RelV y v → D x y b H →
    wpAny (model X.prog X.w) A (richCompare .Eq u v) (fun r s' => r = .bool b ∧ ∃ H', Inv X pins σ H' s' ∧ Ext H H') X.xe s
section
variable {X : Cx} {n m : Nat} {D : Eqb}
theorem RcB.mono (h : RcB X n D) (hn : n ≤ m) : RcB X m D := fun A pins s σ H x y b u v sb => h A pins s σ H x y b u v (sb.mono hn)
theorem EqB.mono (h : EqB X n D) (hn : n ≤ m) : EqB X m D := fun A pins s σ H x y b u v sb => h A pins s σ H x y b u v (sb.mono hn)
/-- the same object is equal to itself unasked -/
theorem RcB.eqB (h : RcB X n D) (hr : ∀ x y b H, D x y b H → ∃ p q, x = .ref p ∧ y = .ref q ∧ (p = q → b = true)) : EqB X n D := by
  intro A pins s σ H x y b u v sb I rx ry d
  obtain ⟨p, q, rfl, rfl, hs⟩ := hr _ _ _ _ d
  cases (show u = Value.ref p from rx)
  cases (show v = Value.ref q from ry)
  by_cases hab : p = q
  · subst hab
    cases hs rfl
    exact SeqAt.EqAt.same (A := A) (s := s) (.ref p) X.prog X.w X.xe _ ⟨rfl, H, I, Ext.rfl'⟩
  · refine GQ.eqBool_refG hab (wpAny_mono (h A pins s σ H (.ref p) (.ref q) b _ _ sb I rfl rfl d) (fun r s' z => ?_) fun _ _ z => z)
    obtain ⟨e, z⟩ := z
    exact ⟨b, e, rfl, z⟩
/-! ### own instances -/
def DIn (C : Addr) (R : Addr → Addr → Bool → Hp → Prop) : Eqb := fun x y b H =>
  ∃ p q dx dy fs gs, x = .ref p ∧ y = .ref q ∧ H p = some (.ins C dx fs) ∧ H q = some (.ins C dy gs) ∧ (p = q → b = true) ∧ R p q b H
theorem DIn.mon {C : Addr} {R : Addr → Addr → Bool → Hp → Prop} (hR : ∀ p q b H H', Nd H H' → R p q b H → R p q b H') : MonN (DIn C R) := fun x y b H H' e d => by
  obtain ⟨p, q, dx, dy, fs, gs, hx, hy, h1, h2, hs, r⟩ := d
  exact ⟨p, q, dx, dy, fs, gs, hx, hy, e _ _ h1 (fun _ z => nomatch z), e _ _ h2 (fun _ z => nomatch z), hs, hR p q b H H' e r⟩
def spEqb (R : Addr → Addr → Bool → Hp → Prop) : Sp := fun vs H Q _ => ∃ p q b, vs = [.ref p, .ref q] ∧ R p q b H ∧ ∀ H', Ext H H' → Q (.bl b) H'
theorem rcB_in {CX : CXT} {C f : Addr} {R : Addr → Addr → Bool → Hp → Prop} {E : XK} (F : FnR X.prog X.w X.K X.mg X.base CX n f (spEqb R))
    (hs : PySem.W.findIn X.K (.ref C) "__eq__" = some (some (.ref f))) (hf : PySem.W.isFn X.K (.ref f) = true) (hx : Passes CX X E) : RcB X n (DIn C R) := by
  intro A pins s σ H x y b u v sb I rx ry d
  obtain ⟨p, q, dx, dy, fs, gs, rfl, rfl, hp, hq, _, r⟩ := d
  cases (show u = Value.ref p from rx)
  cases (show v = Value.ref q from ry)
  obtain ⟨od, J⟩ := inst_of I hp
  obtain ⟨od', J'⟩ := inst_of I hq
  obtain ⟨m, hF⟩ := I.fr
  have hsp : spEqb R [.ref p, .ref q] H (fun v H' => v = .bl b ∧ Ext H H') E := ⟨p, q, b, rfl, r, fun H' e => ⟨rfl, e⟩⟩
  refine PySem.W.cmp_K (op := .Eq) (tb := .ref C) sb.room.units0 hF I.ok.mod.kin J J'.type (by simp [PySem.W.notFirst]) hs hf
    (wpAny_mono (run_sub F sb.room sb.fr hx I (.cons (rr p) (.cons (rr q) .nil)) hsp) (fun r s' z => ?_) fun _ _ e => e)
  obtain ⟨z', H', I', rz, e1, e2⟩ := z
  subst e1
  cases (show r = Value.bool b from rz)
  exact ⟨rfl, H', I', e2⟩
theorem eqB_in {CX : CXT} {C f : Addr} {R : Addr → Addr → Bool → Hp → Prop} {E : XK} (F : FnR X.prog X.w X.K X.mg X.base CX n f (spEqb R))
    (hs : PySem.W.findIn X.K (.ref C) "__eq__" = some (some (.ref f))) (hf : PySem.W.isFn X.K (.ref f) = true) (hx : Passes CX X E) : EqB X n (DIn C R) :=
  (rcB_in F hs hf hx).eqB fun x y b H d => by
    obtain ⟨p, q, _, _, _, _, h1, h2, _, _, h3, _⟩ := d
    exact ⟨p, q, h1, h2, h3⟩
/-! ### flat values -/
def DFl : Eqb := fun x y b _ => flatV x = true ∧ flatV y = true ∧ b = eqV x y
theorem eqB_fl : EqB X 0 DFl := by
  intro A pins s σ H x y b u v sb I rx ry d
  obtain ⟨fx, fy, rfl⟩ := d
  exact eqAt_V (A := A) (s := s) rx ry fx fy X.prog X.w X.xe _ ⟨rfl, H, I, Ext.rfl'⟩
end
/-! ### item by item -/
/-- the answer for two rows: all items equal, and as many -/
def Row (D : Eqb) : List V → List V → Bool → Hp → Prop
  | [], [], b, _ => b = true
  | x :: xs, y :: ys, b, H => ∃ c d, D x y c H ∧ Row D xs ys d H ∧ b = (c && d)
  | [], _ :: _, b, _ => b = false
  | _ :: _, [], b, _ => b = false
theorem Row.mon {D : Eqb} (hD : MonN D) {H H' : Hp} (e : Nd H H') : ∀ {xs ys : List V} {b : Bool}, Row D xs ys b H → Row D xs ys b H'
  | [], [], _, h => h
  | x :: xs, y :: ys, b, ⟨c, d, h1, h2, h3⟩ => ⟨c, d, hD _ _ _ _ _ e h1, Row.mon hD e h2, h3⟩
  | [], _ :: _, _, h => h
  | _ :: _, [], _, h => h
section
variable {prog : Program} {w : World} {A : Around} {R : Result → Shared → Prop}
/-- the tuple's own loop: J xs ys holds what is known when these items are left -/
theorem tup_loop (l b : Addr) (items items2 : Array Value) (n n2 : Nat) (dd dd2 : Option Addr) (sl sl2 : Array (Option Value)) (J : List Value → List Value → Shared → Prop)
    (turn : ∀ u us v vs s, J (u :: us) (v :: vs) s → wpAny (model prog w) A.in1 (eqBool u v) (fun r s' => if r = true then J us vs s' else R (.ok (.ret (.bool false))) s') (fun e s' => R (.error e) s') s)
    (fin0 : ∀ s, J [] [] s → R (.ok (.ret (.bool true))) s) (fin1 : ∀ u us s, J (u :: us) [] s → R (.ok (.ret (.bool false))) s) (fin2 : ∀ u us s, J [] (u :: us) s → R (.ok (.ret (.bool false))) s)
    {s : Shared} (hl1 : s.heap.get? l = some { cls := .type "tuple", dict := dd, data := .seq items n, slots := sl }) (hb1 : s.heap.get? b = some { cls := .type "tuple", dict := dd2, data := .seq items2 n2, slots := sl2 })
    (h : J items.toList items2.toList s) :
    wpAny (model prog w) A.in1 (Builtin.«tuple.__eq__» ⟨[.ref l, .ref b], []⟩) (GQ.FinOf prog w A R) (fun e s' => R (.error e) s') s := by
  have f2 := AutoSeq1.sub_tuple_tuple
  have h0 := h
  obtain ⟨hp, g, d, tk, os⟩ := s
  wp_walk using AutoSeq1.wpAny_loadPart' hl1, AutoSeq1.wpAny_loadPart' hb1, wpAny_forIn_list _ (fun rest q s' => q.1 = none ∧ ∃ us vs, rest = us.zip vs ∧ items.size - us.length = items2.size - vs.length ∧ us.length ≤ items.size ∧ vs.length ≤ items2.size ∧ J us vs s') _
  case turn =>
    rintro ⟨u, v⟩ rest q s' ⟨hq, us, vs, hz, hs, hu, hv, hJ⟩
    match us, vs, hz with
    | u' :: us, v' :: vs, hz =>
      injection hz with e1 e2
      injection e1 with e3 e4
      subst e3 e4 e2
      refine wpAny_bind (wpAny_mono (turn _ _ _ _ s' hJ) (fun r s2 z => ?_) fun _ _ x => x)
      simp only [List.length_cons] at hs hu hv
      cases r with
      | true =>
        wp_walk
        exact ⟨rfl, us, vs, rfl, by omega, by omega, by omega, z⟩
      | false =>
        wp_walk
        exact z
    | [], _, hz => exact nomatch hz
    | _ :: _, [], hz => exact nomatch hz
  case fin =>
    rintro ⟨b1, b2⟩ s' ⟨hq, us, vs, hz, hs, hu, hv, hJ⟩
    simp only at hq
    subst hq
    match us, vs, hz with
    | [], [], hz =>
      have e : items.size = items2.size := by simpa using hs
      have z := fin0 s' hJ
      wp_walk
      simpa [Builtin.Tuple.tupleCompareSizes, e] using z
    | u :: us, [], hz =>
      simp only [List.length_cons, List.length_nil] at hs hu
      have e : (items.size == items2.size) = false := by
        rw [beq_eq_false_iff_ne]
        omega
      have z := fin1 _ _ s' hJ
      wp_walk
      simpa [Builtin.Tuple.tupleCompareSizes, e] using z
    | [], v :: vs, hz =>
      simp only [List.length_cons, List.length_nil] at hs hv
      have e : (items.size == items2.size) = false := by
        rw [beq_eq_false_iff_ne]
        omega
      have z := fin2 _ _ s' hJ
      wp_walk
      simpa [Builtin.Tuple.tupleCompareSizes, e] using z
    | u :: us, v :: vs, hz => exact nomatch hz
  case h =>
    exact ⟨rfl, items.toList, items2.toList, rfl, by simp, by simp, by simp, h0⟩
end
section
variable {X : Cx} {n : Nat} {D : Eqb}
def DTu (K : PySem.W.Frag) (D : Eqb) : Eqb := fun x y b H => ∃ p q xs ys, x = .ref p ∧ y = .ref q ∧ SqT K H p xs ∧ SqT K H q ys ∧ (p = q → b = true) ∧ Row D xs ys b H
theorem SqT.nd {K : PySem.W.Frag} {H H' : Hp} {a : Addr} {xs : List V} (h : SqT K H a xs) (e : Nd H H') : SqT K H' a xs :=
  h.elim (fun h => .inl (h.elim (fun h => .inl (e _ _ h fun _ z => nomatch z)) fun ⟨o, h⟩ => .inr ⟨o, e _ _ h fun _ z => nomatch z⟩)) fun h => .inr h
theorem DTu.mon {K : PySem.W.Frag} (hD : MonN D) : MonN (DTu K D) := fun x y b H H' e d => by
  obtain ⟨p, q, xs, ys, hx, hy, h1, h2, hs, r⟩ := d
  exact ⟨p, q, xs, ys, hx, hy, SqT.nd h1 e, SqT.nd h2 e, hs, Row.mon hD e r⟩
theorem rcB_tu (hD : MonN D) (h : EqB X n D) : RcB X (n + 1) (DTu X.K D) := by
  intro A pins s σ H x y b u v sb I rx ry d
  obtain ⟨p, q, xs, ys, rfl, rfl, hp, hq, _, r⟩ := d
  cases (show u = Value.ref p from rx)
  cases (show v = Value.ref q from ry)
  obtain ⟨us, ru, ⟨⟨cls, dd, data, sl⟩, ho, hc, k, hd⟩, _⟩ := I.tuple hp
  obtain ⟨vs, rv, ⟨⟨cls2, dd2, data2, sl2⟩, ho2, hc2, k2, hd2⟩, _⟩ := I.tuple hq
  simp only at hc hd hc2 hd2
  subst hc hd hc2 hd2
  refine PySem.wpAny_richCompare_same_room (op := .Eq) ⟨_, ho, rfl⟩ ⟨_, ho2, rfl⟩ PySem.F.slot_tuple_eq
    (GQ.call_here PySem.F.slot_tuple_eq ⟨_, ho, rfl⟩ PySem.F.entry_tuple_eq (PySem.F.args_tuple_eq_2 _ _) ?_) sb.room.units0
  let Fin : Bool → Shared → Prop := fun c s' => c = b ∧ ∃ H', Inv X pins σ H' s' ∧ Ext H H'
  have key : ∀ c s', Fin c s' → wants (fun v s' => v ≠ .notImplemented ∧ (v = .bool b ∧ ∃ H', Inv X pins σ H' s' ∧ Ext H H')) X.xe (.ok (.ret (.bool c))) s' := fun c s' z => by
    obtain ⟨rfl, z⟩ := z
    exact ⟨(fun x => nomatch x), rfl, z⟩
  refine tup_loop p q _ _ k k2 dd dd2 sl sl2 (fun us' vs' s' => ∃ xs' ys' H', Vals xs' us' ∧ Vals ys' vs' ∧ Inv X pins σ H' s' ∧ Ext H H' ∧ Row D xs' ys' b H') ?_ ?_ ?_ ?_ ho ho2 ⟨xs, ys, H, by simpa using ru, by simpa using rv, I, Ext.rfl', r⟩
  · rintro u us' v vs' s' ⟨xs', ys', H', t1, t2, I', e, r⟩
    cases t1 with
    | cons r1 t1 =>
    cases t2 with
    | cons r2 t2 =>
    obtain ⟨c, d', h1, h2, h3⟩ := r
    refine wpAny_mono (h A.in1 pins s' σ H' _ _ c u v sb.in1 I' r1 r2 h1) (fun r s2 z => ?_) fun _ _ z => z
    obtain ⟨rfl, H2, I2, e2⟩ := z
    cases r with
    | true =>
      rw [if_pos rfl]
      rw [Bool.true_and] at h3
      subst h3
      exact ⟨_, _, H2, t1, t2, I2, e.trans e2, Row.mon hD (Nd.of e2) h2⟩
    | false =>
      rw [if_neg Bool.false_ne_true]
      rw [Bool.false_and] at h3
      exact key _ _ ⟨h3.symm, H2, I2, e.trans e2⟩
  · rintro s' ⟨xs', ys', H', t1, t2, I', e, r⟩
    cases t1
    cases t2
    exact key _ _ ⟨(show b = true from r).symm, H', I', e⟩
  · rintro u us' s' ⟨xs', ys', H', t1, t2, I', e, r⟩
    cases t1
    cases t2
    exact key _ _ ⟨(show b = false from r).symm, H', I', e⟩
  · rintro u us' s' ⟨xs', ys', H', t1, t2, I', e, r⟩
    cases t1
    cases t2
    exact key _ _ ⟨(show b = false from r).symm, H', I', e⟩
theorem eqB_tu (hD : MonN D) (h : EqB X n D) : EqB X (n + 1) (DTu X.K D) := (rcB_tu hD h).eqB fun x y b H d => by
  obtain ⟨p, q, _, _, h1, h2, _, _, h3, _⟩ := d
  exact ⟨p, q, h1, h2, h3⟩
/-- x == y as an operator -/
def rEqB (D : Eqb) : R2 := fun x y H Q => ∃ b, D x y b H ∧ ∀ H', Ext H H' → Q (.bl b) H'
theorem op_eqB (h : RcB X n D) (hr : Room n X.A) : OpR X (compareOp .Eq) (rEqB D) := by
  intro pins s σ H x y v u Q I rx ry hq
  obtain ⟨b, d, q⟩ := hq
  show wpAny (model X.prog X.w) X.A (richCompare .Eq v u) _ _ s
  refine wpAny_mono (h X.A pins s σ H x y b v u ⟨hr, rfl⟩ I rx ry d) (fun r s' z => ?_) fun _ _ z => z
  obtain ⟨rfl, H', I', e⟩ := z
  exact ⟨.bl b, H', I', rfl, q H' e⟩
end
end Ws

set_option Elab.async false
set_option linter.all false
set_option maxRecDepth 100000
set_option maxHeartbeats 4000000
namespace Ws
open PySem PySem.Spec PyProof.Rows L2
/-- what == of two dicts finds: the first one's pairs from the left -/
def Hits (D : Eqb) (kb : List (Key × V)) : List (Key × V) → Bool → Hp → Prop
  | [], b, _ => b = true
  | (k, v) :: r, b, H => (valV kb k = none ∧ b = false) ∨ ∃ y c d, valV kb k = some y ∧ D v y c H ∧ Hits D kb r d H ∧ b = (c && d)
theorem Hits.mon {D : Eqb} (hD : MonN D) {kb : List (Key × V)} {H H' : Hp} (e : Nd H H') : ∀ {ka : List (Key × V)} {b : Bool}, Hits D kb ka b H → Hits D kb ka b H'
  | [], _, h => h
  | (k, v) :: r, b, .inl h => .inl h
  | (k, v) :: r, b, .inr ⟨y, c, d, h1, h2, h3, h4⟩ => .inr ⟨y, c, d, h1, hD _ _ _ _ _ e h2, Hits.mon hD e h3, h4⟩
/-- a dict's pairs, looked up, as the layer and as the library see them -/
theorem kv_at : ∀ {kvs : List (Key × V)} {vs : List (Key × Value)}, KV kvs vs → ∀ k, (valV kvs k = none ∧ valueAt vs k = none) ∨ ∃ v u, valV kvs k = some v ∧ valueAt vs k = some u ∧ RelV v u
  | _, _, .nil, k => .inl ⟨rfl, rfl⟩
  | (k1, v1) :: r, (k2, u2) :: t, .cons ⟨e, q⟩ rest, k => by
    have e' : k1 = k2 := e
    subst e'
    by_cases hk : k1 = k
    · subst hk
      refine .inr ⟨v1, u2, ?_, ?_, q⟩
      · simp [valV]
      · simp [valueAt]
    · have ih := kv_at rest k
      have a1 : valV ((k1, v1) :: r) k = valV r k := by simp [valV, hk]
      have a2 : valueAt ((k1, u2) :: t) k = valueAt t k := by simp [valueAt, hk]
      rw [a1, a2]
      exact ih
section
variable {prog : Program} {w : World} {K : Type} [DecidableEq K] {knd : KeyKind prog w K} {A : Around} {E : Value → Shared → Prop} {s : Shared}
/-- the pairs of a dict that stands as it stood, compared one by one; J: what stands all the while -/
inductive HitsJ (prog : Program) (w : World) (A : Around) (E : Value → Shared → Prop) (kb : List (K × Value)) (Rf : Shared → Prop) : (Shared → Prop) → List (K × Value) → Prop
  | nil {J : Shared → Prop} : HitsJ prog w A E kb Rf J []
  | miss {J : Shared → Prop} {k : K} {v : Value} {r : List (K × Value)} : valueAt kb k = none → (∀ s, J s → Rf s) → HitsJ prog w A E kb Rf J ((k, v) :: r)
  | hit {J J' : Shared → Prop} {k : K} {v y : Value} {r : List (K × Value)} : valueAt kb k = some y →
      (∀ s, J s → wpAny (model prog w) A (eqBool v y) (fun c s' => if c = true then J' s' else Rf s') E s) → HitsJ prog w A E kb Rf J' r → HitsJ prog w A E kb Rf J ((k, v) :: r)
end
section
variable {X : Cx} {n : Nat} {D : Eqb}
/-- two dicts, their pairs' values by D -/
def DDi (D : Eqb) : Eqb := fun x y b H => ∃ p q ka kb, x = .ref p ∧ y = .ref q ∧ H p = some (.dK ka) ∧ H q = some (.dK kb) ∧
  ((ka.length ≠ kb.length ∧ b = false) ∨ (ka.length = kb.length ∧ Hits D kb ka b H))
/-- what is kept while two dicts are compared: both are locked -/
def Lk (X : Cx) (pins : List (Addr × Obj)) (σ : L2.St) (Hf : Hp) (s : Shared) : Prop := ∃ H', Inv X pins σ H' s ∧ Ext Hf H'
theorem same_pairs {nm : String} {A : Around} {pins : List (Addr × Obj)} {σ : L2.St} {Hf : Hp} {p q : Addr} {oa ob : Obj} {ka kb : List (Key × V)} {b : Bool} (hD : MonN D) (h : EqB X n D) (sb : Sub X n A)
    (fa : Hf p = some (.frz oa (.dK ka))) (fb : Hf q = some (.frz ob (.dK kb))) (hits : (ka.length ≠ kb.length ∧ b = false) ∨ (ka.length = kb.length ∧ Hits D kb ka b Hf)) {s : Shared} (l : Lk X pins σ Hf s)
    {Q : Bool → Shared → Prop} (k : ∀ s', Lk X pins σ Hf s' → Q b s') : wpAny (model X.prog X.w) A (Builtin.Dict.samePairs nm p q) Q X.xe s := by
  have at_ : ∀ s', Lk X pins σ Hf s' → s'.heap.get? p = some oa ∧ s'.heap.get? q = some ob := fun s' ⟨H', I', e⟩ =>
    ⟨(show ObjOk X.prog X.w H' s'.heap p (.frz oa (.dK ka)) from I'.hok p _ (e _ _ fa)).1, (show ObjOk X.prog X.w H' s'.heap q (.frz ob (.dK kb)) from I'.hok q _ (e _ _ fb)).1⟩
  obtain ⟨H0, I0, e0⟩ := id l
  obtain ⟨ga, _, sa, va, ra, oa', es, ep, ha1, hac, had, hka, hpa, hna⟩ := (show ObjOk X.prog X.w H0 s.heap p (.frz oa (.dK ka)) from I0.hok p _ (e0 _ _ fa))
  obtain ⟨gb, _, sb', vb, rb, ob', es', ep', hb1, hbc, hbd, hkb, hpb, hnb⟩ := (show ObjOk X.prog X.w H0 s.heap q (.frz ob (.dK kb)) from I0.hok q _ (e0 _ _ fb))
  cases ga.symm.trans ha1
  cases gb.symm.trans hb1
  have la : va.length = es.size := by rw [← hpa.length]; exact Array.length_toList
  have lb : vb.length = es'.size := by rw [← hpb.length]; exact Array.length_toList
  have la' : ka.length = va.length := Paired.length ra
  have lb' : kb.length = vb.length := Paired.length rb
  have look : ∀ k, findBy (mixKind X.prog X.w).is es' k = valueAt vb k := fun k => by
    rw [← hpb.find k]
    obtain ⟨t⟩ := es'
    simp [findBy]
  unfold Builtin.Dict.samePairs Builtin.Dict.showsAll
  rw [if_neg (by rw [sa]; exact Bool.false_ne_true), if_neg (by rw [sb']; exact Bool.false_ne_true)]
  refine wpAny_bind (wpAny_pure (wpAny_bind (wpAny_pure (wpAny_bind (wpAny_dictEntries ga had ?_)))))
  dsimp only
  refine wpAny_bind (wpAny_dictEntries gb hbd ?_)
  rcases hits with ⟨ne, rfl⟩ | ⟨eq, hits⟩
  · rw [if_pos (by simp; omega)]
    exact wpAny_bind (wpAny_rule (wpAny_pure (k s l)))
  have hsz : es.size = es'.size := by omega
  rw [if_neg (by rw [hsz]; simp)]
  refine wpAny_bind (wpAny_dictEpoch ga had (wpAny_bind ?_))
  rw [Std.Legacy.Range.forIn_eq_forIn_range']
  simp only [Std.Legacy.Range.size, Nat.sub_zero, Nat.add_sub_cancel, Nat.div_one]
  refine wpAny_forIn_list _ (fun rest r s' => r = (none, ()) ∧ Lk X pins σ Hf s' ∧ ∃ i, rest = List.range' i (es.size - i) ∧ i ≤ es.size ∧ Hits D kb (ka.drop i) b Hf) _ ?_ ?_ _ _ ⟨rfl, l, 0, by simp, Nat.zero_le _, hits⟩
  · rintro x rest r s' ⟨rfl, l', i, hr, hi, hh⟩
    obtain ⟨ga', gb'⟩ := at_ s' l'
    have hlt : i < es.size := by
      by_cases z : i < es.size
      · exact z
      · rw [Nat.sub_eq_zero_of_le (Nat.le_of_not_lt z)] at hr
        simp at hr
    have e : es.size - i = (es.size - (i + 1)) + 1 := by omega
    rw [e, List.range'_succ] at hr
    injection hr with h1 h2
    subst h1
    refine wpAny_bind (wpAny_dictEntries ga' had ?_)
    rw [Array.getElem?_eq_getElem hlt]
    have hlv : x < va.length := by omega
    have hlk : x < ka.length := by omega
    obtain ⟨ky, uy, hy⟩ : ∃ ky uy, va[x]? = some (ky, uy) := ⟨va[x].1, va[x].2, List.getElem?_eq_getElem hlv⟩
    obtain ⟨hkey, hval⟩ := hpa.get? (i := x) (e := es[x]) (k := ky) (v := uy) (by rw [Array.getElem?_toList]; exact Array.getElem?_eq_getElem hlt) hy
    obtain ⟨k', hk', hh'⟩ := hka es[x] (Array.getElem_mem hlt)
    cases (mixKind X.prog X.w).inj _ _ _ hk' hkey
    obtain ⟨kx, vx, hx, ekk, rvv⟩ : ∃ kx vx, ka[x]? = some (kx, vx) ∧ kx = ky ∧ RelV vx uy := by
      have z : ∀ {l1 : List (Key × V)} {l2 : List (Key × Value)}, KV l1 l2 → ∀ (i : Nat) (a : Key × Value), l2[i]? = some a → ∃ kx vx, l1[i]? = some (kx, vx) ∧ kx = a.1 ∧ RelV vx a.2 := by
        intro l1 l2 hh
        induction hh with
        | nil => intro i a e; simp at e
        | @cons a1 b1 _ _ r t ih =>
          intro i a e
          cases i with
          | zero => simp at e; subst e; exact ⟨a1.1, a1.2, rfl, r.1, r.2⟩
          | succ i => exact ih i a (by simpa using e)
      exact z ra x _ hy
    subst ekk
    have dr : ka.drop x = (kx, vx) :: ka.drop (x + 1) := by
      rw [List.drop_eq_getElem_cons hlk]
      rw [List.getElem?_eq_getElem hlk] at hx
      rw [Option.some.inj hx]
    rw [dr] at hh
    show wpAny _ _ (holding [es[x].key, es[x].val] _ >>= _) _ _ _
    rw [hh']
    refine wpAny_bind (wpAny_holding (wpAny_bind (wpAny_dictFind_of hkey gb' hbd hkb ?_)))
    have lk := kv_at rb kx
    cases hj : es'.findIdx? fun e => (mixKind X.prog X.w).is kx e.key with
    | none =>
      have hn : valueAt vb kx = none := by rw [← look, findBy_of_findIdx?, hj]
      have hb0 : b = false := by
        rcases lk with ⟨z, _⟩ | ⟨_, _, _, z, _⟩
        · rcases hh with ⟨_, z2⟩ | ⟨y, _, _, z2, _⟩
          · exact z2
          · rw [z] at z2
            cases z2
        · rw [hn] at z
          cases z
      subst hb0
      refine wpAny_pure ?_
      show wpAny _ _ (if (!false) = true then _ else _) _ _ _
      rw [if_pos (by decide)]
      exact wpAny_pure (wpAny_pure (k s' l'))
    | some j =>
      obtain ⟨jl, _, _⟩ := Array.findIdx?_eq_some_iff_getElem.mp hj
      have hv' : valueAt vb kx = some es'[j].val := by
        rw [← look, findBy_of_findIdx?, hj]
        simp [Array.getElem?_eq_getElem jl]
      refine wpAny_bind (wpAny_dictEntries gb' hbd ?_)
      rw [Array.getElem?_eq_getElem jl]
      rcases lk with ⟨_, z⟩ | ⟨y0, u0, z1, z2, z3⟩
      · rw [hv'] at z
        cases z
      rw [hv'] at z2
      cases z2
      rcases hh with ⟨z2, _⟩ | ⟨y, c, d, z2, hd, hrest, hbe⟩
      · rw [z1] at z2
        cases z2
      rw [z1] at z2
      cases z2
      obtain ⟨H', I', e'⟩ := l'
      rw [hval]
      refine wpAny_holding (wpAny_mono (h A pins s' σ H' _ _ c _ _ sb I' rvv z3 (hD _ _ _ _ _ (Nd.of e') hd)) (fun r' s2 z => ?_) fun _ _ z => z)
      obtain ⟨rfl, H2, I2, e2⟩ := z
      have l2 : Lk X pins σ Hf s2 := ⟨H2, I2, e'.trans e2⟩
      cases r' with
      | false =>
        rw [Bool.false_and] at hbe
        subst hbe
        show wpAny _ _ (if (!false) = true then _ else _) _ _ _
        rw [if_pos (by decide)]
        exact wpAny_pure (wpAny_pure (k s2 l2))
      | true =>
        rw [Bool.true_and] at hbe
        subst hbe
        show wpAny _ _ (if (!true) = true then _ else _) _ _ _
        rw [if_neg (by decide)]
        refine wpAny_bind (wpAny_dictEpoch (at_ s2 l2).1 had ?_)
        rw [if_neg (by simp)]
        exact wpAny_pure ⟨rfl, l2, x + 1, h2, hlt, hrest⟩
  · rintro r s' ⟨rfl, l', i, hr, hi, hh⟩
    have hin : i = es.size := by
      by_cases z : i < es.size
      · have e : es.size - i = (es.size - (i + 1)) + 1 := by omega
        rw [e, List.range'_succ] at hr
        exact nomatch hr
      · omega
    rw [hin, ← la, ← la', List.drop_length] at hh
    cases (show b = true from hh)
    exact wpAny_pure (k s' l')
theorem rcB_di (hD : MonN D) (h : EqB X n D) : RcB X (n + 1) (DDi D) := by
  intro A pins s σ H x y b u v sb I rx ry d
  obtain ⟨p, q, ka, kb, rfl, rfl, hp, hq, hits⟩ := d
  cases (show u = Value.ref p from rx)
  cases (show v = Value.ref q from ry)
  have ta : s.heap.DictOf (mixKind X.prog X.w) p _ := (show ObjOk X.prog X.w H s.heap p (.dK ka) from I.hok p _ hp).2.2.choose_spec.2
  have tb : s.heap.DictOf (mixKind X.prog X.w) q _ := (show ObjOk X.prog X.w H s.heap q (.dK kb) from I.hok q _ hq).2.2.choose_spec.2
  -- both locked
  obtain ⟨oa, I1⟩ := I.lock hp True.intro
  have core : ∀ (Hf : Hp) (ob : Obj), Inv X pins σ Hf s → Hf p = some (.frz oa (.dK ka)) → Hf q = some (.frz ob (.dK kb)) → Nd H Hf →
      (∀ s' H', Inv X pins σ H' s' → Ext Hf H' → ∃ H2, Inv X pins σ H2 s' ∧ Ext H H2) →
      wpAny (model X.prog X.w) A (richCompare .Eq (.ref p) (.ref q)) (fun r s' => r = .bool b ∧ ∃ H', Inv X pins σ H' s' ∧ Ext H H') X.xe s := by
    intro Hf ob If fa fb nd back
    refine PySem.wpAny_richCompare_same_room (op := .Eq) ta.typeIs tb.typeIs PySem.F.slot_dict_eq (PySem.wpAny_call_entry PySem.F.slot_dict_eq ta.typeIs PySem.F.entry_dict_eq ?_ (PySem.F.args_dict_eq_2 _ _)) sb.room.units0
    show wpAny _ _ (Builtin.Dict.dictSlotArgs "__eq__" ⟨[.ref p, .ref q], []⟩ >>= _) _ _ s
    unfold Builtin.Dict.dictSlotArgs
    refine wpAny_bind (wpAny_bind (PySem.wpAny_notOrdered_dict ta.typeIs ?_))
    show wpAny _ _ (pure (Value.ref p, Value.ref q)) _ _ s
    refine wpAny_pure (wpAny_bind (wpAny_isInstance (T := "dict") tb.typeIs PySem.F.sub_dict_dict ?_))
    simp only [Bool.not_true, Bool.false_eq_true, if_false]
    refine wpAny_bind (wpAny_pure (wpAny_bind (wpAny_pure (wpAny_bind ?_))))
    refine same_pairs hD h sb.in1 fa fb (hits.imp id fun z => ⟨z.1, Hits.mon hD nd z.2⟩) ⟨Hf, If, Ext.rfl'⟩ fun s' l => ?_
    obtain ⟨H', I', e⟩ := l
    refine wpAny_pure ⟨_, rfl, (fun x => nomatch x), ?_⟩
    obtain ⟨H2, I2, e2⟩ := back s' H' I' e
    exact ⟨by simp, H2, I2, e2⟩
  have npn : ∀ {c : Addr} {u : HO}, H c = some u → c ≠ p → (upd H p (.frz oa (.dK ka))) c = some u := fun {c u} e hc => by rw [upd_ne hc]; exact e
  by_cases hpq : p = q
  · subst hpq
    cases hp.symm.trans hq
    refine core _ oa I1 upd_same upd_same (Nd.lock hp) fun s' H' I' e => ?_
    refine ⟨_, I'.unlock (e _ _ upd_same) (I.nofrz hp True.intro), fun c u z => ?_⟩
    by_cases hc : c = p
    · subst hc
      rw [upd_same, ← z, hp]
    · rw [upd_ne hc]
      exact e _ _ (npn z hc)
  · have hq1 : (upd H p (.frz oa (.dK ka))) q = some (.dK kb) := by rw [upd_ne (Ne.symm hpq)]; exact hq
    obtain ⟨ob, I2⟩ := I1.lock hq1 True.intro
    refine core _ ob I2 (by rw [upd_ne hpq, upd_same]) upd_same ((Nd.lock hp).trans (Nd.lock hq1)) fun s' H' I' e => ?_
    have I3 := I'.unlock (e _ _ upd_same) (I.nofrz hq True.intro)
    have e3 : (upd H' q (.dK kb)) p = some (.frz oa (.dK ka)) := by
      rw [upd_ne hpq]
      exact e _ _ (by rw [upd_ne hpq, upd_same])
    refine ⟨_, I3.unlock e3 (I.nofrz hp True.intro), fun c u z => ?_⟩
    by_cases hc : c = p
    · subst hc
      rw [upd_same, ← z, hp]
    · rw [upd_ne hc]
      by_cases hd : c = q
      · subst hd
        rw [upd_same, ← z, hq]
      · rw [upd_ne hd]
        exact e _ _ (by rw [upd_ne hd]; exact npn z hc)
end
end Ws

set_option Elab.async false
set_option linter.all false
set_option maxRecDepth 100000
set_option maxHeartbeats 4000000
namespace Ws
open PySem PySem.Spec PyProof.Rows L2
section
variable {prog : Program} {w : World} {K : Type} [DecidableEq K] {knd : KeyKind prog w K} {A : Around} {E : Value → Shared → Prop} {s : Shared}
theorem put_pairs {d : Addr} {kvs : List (K × Value)} {k : K} {key v : Value} {Q : Unit → Shared → Prop} (hkey : knd.is k key = true) (hm : s.heap.DictOf knd d kvs) (hsz : kvs.length ≤ sizeLine)
    (hQ : ∀ h', h'.DictOf knd d (stored kvs k v) → Heap.SameBut d s.heap h' → Q () { s with heap := h' }) : wpAny (model prog w) A (dictPut d (knd.hash k) key v) Q E s := by
  obtain ⟨ob, es, ep, ho, hc, hd, hk, hp, hn⟩ := hm
  have len : es.size = kvs.length := by rw [← hp.length]; simp
  have hes : es.size ≤ sizeLine := by omega
  have ix : (es.findIdx? fun e => knd.is k e.key) = kvs.findIdx? fun kv => decide (kv.1 = k) := by
    rw [← hp.findIdx k]
    obtain ⟨t⟩ := es
    simp
  unfold dictPut
  refine wpAny_bind (wpAny_dictFind_of hkey ho hd hk ?_)
  cases hi : es.findIdx? fun e => knd.is k e.key with
  | some i =>
    have an : (kvs.any fun kv => decide (kv.1 = k)) = true := any_of_findIdx_some (ix ▸ hi)
    refine wpAny_updateDict ho hd (hQ _ ⟨_, _, ep, Heap.get?_update_self _ ho (Obj.isFreed_of_dict (Obj.data_mapDict hd _)), hc.mapDict _, Obj.data_mapDict hd _, hk.modify _ _, ?_, ?_⟩ (Heap.SameBut.update ..))
    · rw [stored, if_pos an]
      have hl : (es.toList.findIdx? fun e => knd.is k e.key) = some i := by rw [← hi]; obtain ⟨t⟩ := es; simp
      have z := hp.modify hn hl v
      obtain ⟨t⟩ := es
      simpa using z
    · rw [stored, if_pos an, keys_map_store]
      exact hn
  | none =>
    have nm : k ∉ kvs.map (·.1) := not_mem_of_findIdx_none (ix ▸ hi)
    have an : ¬ (kvs.any fun kv => decide (kv.1 = k)) = true := fun z => by
      obtain ⟨kv, h1, h2⟩ := List.any_eq_true.mp z
      exact nm (List.mem_map.mpr ⟨kv, h1, of_decide_eq_true h2⟩)
    refine wpAny_updateDictKeys (hz := hes) ho hd (hQ _ ⟨_, _, ep + 1, Heap.get?_update_self _ ho (Obj.isFreed_of_dict (Obj.data_mapDictKeys hd _)), hc.mapDictKeys _, Obj.data_mapDictKeys hd _, hk.push hkey _, ?_, ?_⟩ (Heap.SameBut.update ..))
    · rw [stored, if_neg an]
      have z := hp.append hkey (knd.hash k) v
      obtain ⟨t⟩ := es
      simpa using z
    · rw [stored, if_neg an, List.map_append, List.nodup_append]
      refine ⟨hn, by simp, fun a ha b hb e => ?_⟩
      simp only [List.map_cons, List.map_nil, List.mem_singleton] at hb
      subst hb
      exact nm (e ▸ ha)
/-- all pairs of a dict into another one -/
theorem merge_into {d o : Addr} {kvs more : List (K × Value)} {Q : Unit → Shared → Prop} (hdo : d ≠ o) (hoS : (o == sysModules) = false) (noref : ∀ k v, knd.is k v = true → ∀ a, v ≠ .ref a)
    (hd : s.heap.DictOf knd d kvs) (ho : s.heap.DictOf knd o more) (hsz : kvs.length + more.length ≤ sizeLine)
    (hQ : ∀ h', h'.DictOf knd d (merged kvs more) → Heap.SameBut d s.heap h' → Q () { s with heap := h' }) : wpAny (model prog w) A (mergeMapping d (.ref o) false) Q E s := by
  obtain ⟨od, esd, epd, hod, hcd, hdd, hkd, hpd, hnd⟩ := id hd
  obtain ⟨oo, eso, epo, hoo, hco, hdo', hko, hpo, hno⟩ := id ho
  have len : eso.size = more.length := by rw [← hpo.length]; simp
  unfold mergeMapping
  refine wpAny_bind (wpAny_isInstance (T := "dict") ho.typeIs PySem.F.sub_dict_dict ?_)
  rw [if_pos rfl]
  refine wpAny_bind (wpAny_specialOf ho.typeIs F.slot_dict_iter.lookup ?_)
  have et : ((some (Value.builtin "dict.__iter__") == some (Value.builtin "dict.__iter__")) : Bool) = true := by decide +kernel
  rw [et]
  refine wpAny_bind (wpAny_pure ?_)
  dsimp only
  rw [if_neg (by rw [hoS]; exact Bool.false_ne_true)]
  refine wpAny_bind (wpAny_dictEntries hod hdd ?_)
  split
  refine wpAny_bind (wpAny_dictEntries hoo hdo' ?_)
  refine wpAny_bind (wpAny_mono (Q := fun _ s' => s' = s) ?_ (fun _ s' z => ?_) fun _ _ z => z)
  · rw [← Array.forIn_toList]
    refine wpAny_forIn_list _ (fun r _ s' => s' = s ∧ ∀ e ∈ r, e ∈ eso.toList) _ ?_ (fun _ s' z => z.1) _ _ ⟨rfl, fun _ z => z⟩
    rintro x r u s' ⟨rfl, hm⟩
    obtain ⟨k, hk, _⟩ := hko x (Array.mem_toList_iff.mp (hm x List.mem_cons_self))
    have nr := noref k _ hk
    have step : wpAny (model prog w) A (pure (ForInStep.yield PUnit.unit) : Sem (ForInStep PUnit)) (fun r' s'' => match r' with
      | .yield b' => s'' = s' ∧ ∀ e ∈ r, e ∈ eso.toList
      | .done b' => s'' = s') E s' := wpAny_pure ⟨rfl, fun e he => hm e (List.mem_cons_of_mem _ he)⟩
    obtain ⟨xh, xk, xv⟩ := x
    cases xk <;> first | exact step | exact absurd rfl (nr _)
  rw [z]
  all_goals
    refine wpAny_bind (wpAny_dictEntries hoo hdo' ?_)
    refine wpAny_bind (wpAny_dictEpoch hoo hdo' ?_)
    refine wpAny_bind ?_
    refine wpAny_forIn_list _ (fun r _ s' => ∃ h' i, s' = { s with heap := h' } ∧ r = List.range' i (eso.size - i) ∧ i ≤ eso.size ∧ h'.DictOf knd d (merged kvs (more.take i)) ∧ h'.get? o = some oo ∧ Heap.SameBut d s.heap h') _ ?_ ?_ _ _
      ⟨s.heap, 0, rfl, by rw [List.range_eq_range']; simp, Nat.zero_le _, by simpa [merged] using hd, hoo, Heap.SameBut.refl _ _⟩
    · rintro x r u s' ⟨h', i, rfl, hr, hi, hd', hoo', sb⟩
      have hlt : i < eso.size := by
        by_cases z : i < eso.size
        · exact z
        · rw [Nat.sub_eq_zero_of_le (Nat.le_of_not_lt z)] at hr
          simp at hr
      have e : eso.size - i = (eso.size - (i + 1)) + 1 := by omega
      rw [e, List.range'_succ] at hr
      injection hr with h1 h2
      subst h1
      refine wpAny_bind (wpAny_dictEntries hoo' hdo' ?_)
      rw [Array.getElem?_eq_getElem hlt]
      obtain ⟨k, v, hkv⟩ : ∃ k v, more[x]? = some (k, v) := ⟨_, _, List.getElem?_eq_getElem (by omega)⟩
      obtain ⟨hkey, hval⟩ := hpo.get? (e := eso[x]) (by simp [hlt]) hkv
      obtain ⟨k', hkey', hh⟩ := hko eso[x] (Array.getElem_mem hlt)
      cases knd.inj _ _ _ hkey' hkey
      show wpAny _ _ (holding [eso[x].key, eso[x].val] (dictPut d eso[x].hash eso[x].key eso[x].val) >>= _) _ _ _
      rw [hh, hval]
      have lm : (merged kvs (more.take x)).length ≤ sizeLine := by
        have e1 := merged_length_le kvs (more.take x)
        have e2 : (more.take x).length ≤ more.length := by rw [List.length_take]; omega
        omega
      refine wpAny_bind (wpAny_holding (put_pairs hkey hd' lm fun h'' hd'' sb'' => ?_))
      have hoo'' : h''.get? o = some oo := (sb''.2 o (Ne.symm hdo)).trans hoo'
      refine wpAny_bind (wpAny_dictEpoch hoo'' hdo' ?_)
      rw [if_neg (by simp)]
      exact wpAny_pure ⟨h'', x + 1, rfl, h2, hlt, by rw [merged_take_succ kvs more x (k, v) hkv]; exact hd'', hoo'', sb.trans sb''⟩
    · rintro u s' ⟨h', i, rfl, hr, hi, hd', hoo', sb⟩
      have hin : i = eso.size := by
        by_cases z : i < eso.size
        · have e : eso.size - i = (eso.size - (i + 1)) + 1 := by omega
          rw [e, List.range'_succ] at hr
          exact nomatch hr
        · omega
      rw [hin, len, List.take_length] at hd'
      exact wpAny_pure (hQ h' hd' sb)
end
theorem mix_noref {P : Program} {w : World} (k : Key) (v : Value) (h : (mixKind P w).is k v = true) (a : Addr) : v ≠ .ref a := by
  rcases keyIs_shape (k := k) (v := v) h with ⟨i, t, _, rfl⟩ | ⟨x, t, _, rfl⟩
  · exact fun z => nomatch z
  · exact fun z => nomatch z
/-- {**d, k: v}: a new dict p with all pairs of d, then the one that is written -/
def tStarD (td tk tv : TE) : TE := fun σ H Q => ∀ p, H p = none → td σ (upd H p (.dK [])) fun x H1 => ∃ a kvs, x = .ref a ∧ a ≠ p ∧ H1 p = some (.dK []) ∧ H1 a = some (.dK kvs) ∧ kvs.length ≤ 1000 ∧
  ∀ q, H1 q = none → tk σ (upd (upd H1 p (.dK (mergeK [] kvs))) q (.dK [])) fun y H2 => tv σ H2 fun z H3 => ∃ k, y = kV k ∧ H3 q = some (.dK []) ∧ H3 p = some (.dK (mergeK [] kvs)) ∧
    Q (.ref p) (upd (upd H3 q (.dK [(k, z)])) p (.dK (putK (mergeK [] kvs) k z)))
section
variable {X : Cx} {d k v : PySem.Expr} {td tk tv : TE} {pos : Pos}
/-- a dict written by the library's rules -/
theorem dict_to {pins : List (Addr × Obj)} {σ : L2.St} {H : Hp} {s : Shared} {a : Addr} {h' : Heap} {t' : Nat} {kvs kvs' : List (Key × V)} {vs : List (Key × Value)} (I : Inv X pins σ H s) (ha : H a = some (.dK kvs))
    (hs : Heap.SameBut a s.heap h') (rel : KV kvs' vs) (len : kvs'.length ≤ sizeLine) (dd : h'.DictOf (mixKind X.prog X.w) a vs) : Inv X pins σ (upd H a (.dK kvs')) { s with heap := h', toks := t' } := by
  obtain ⟨_, hd, _⟩ := dk_of I.hok ha
  refine d_write I (by rw [ha]; exact True.intro) hs ?_ (dk_new len hd rel dd)
  obtain ⟨q, _, _, hq, _⟩ := dd
  exact ⟨q, hq⟩
theorem pe_dstar (hd : PE X d td) (hk : PE X k tk) (hv : PE X v tv) : PE X (.Dict [none, some k] [d, v] pos) (tStarD td tk tv) := by
  constructor
  intro pins s σ H Q I h
  rw [arm_eval_Dict]
  refine wpAny_bind (wpAny_standAt ?_)
  have shape : (evalEachOpt [none, some k] X.env).zip ((evalEach [d, v] X.env).map fun v => do let x ← v; standAt pos; pure x) =
      [(none, do let x ← eval d X.env; standAt pos; pure x), (some (eval k X.env), do let x ← eval v X.env; standAt pos; pure x)] := rfl
  rw [shape]
  unfold dictDisplay
  dsimp only
  rw [List.forIn_cons]
  refine wpAny_bind (wpAny_bind ?_)
  dsimp only
  refine wpAny_bind ?_
  rw [if_pos (show (([] : List (Sem Value × Sem Value)).isEmpty = true) from rfl)]
  refine wpAny_pure ?_
  dsimp only
  refine wpAny_bind (wpAny_alloc ?_)
  have hn : H s.heap.objs.size = none := I.hok.fresh (Nat.le_refl _)
  have I1 := I.laid (a := s.heap.objs.size) (o := .dK []) (h' := s.heap.push { cls := .type "dict", data := .dict #[] }) (t' := s.toks) (fun _ _ q => Heap.get?_push_of_some _ q) (Nat.le_refl _) (dk_empty s.heap I.big)
  have h1 := h s.heap.objs.size hn
  generalize s.heap.objs.size = p at *
  refine wpAny_bind (wpAny_holding (wpAny_bind (thn (hd.run pins _ σ _ _ I1 h1) fun u s1 ⟨x, H1, I1, rx, a, kvs, ex, nap, hp, ha, len, q⟩ => ?_)))
  subst ex
  cases (show u = Value.ref a from rx)
  refine wpAny_bind (wpAny_standAt (wpAny_pure ?_))
  obtain ⟨z1, sy1, vs1, r1, d1⟩ := dk_of I1.hok hp
  cases r1
  obtain ⟨z2, sy2, vs2, r2, d2⟩ := dk_of I1.hok ha
  have l2 : vs2.length = kvs.length := (Paired.length r2).symm
  have lk : (mergeK [] kvs).length ≤ 1000 := by
    have := length_mergeK kvs []
    simp at this
    omega
  have sl : (1001 : Nat) ≤ sizeLine := by rw [sizeLine_eq]; decide
  refine wpAny_bind (wpAny_onRaise (wpAny_tryCatch (wpAny_onRaise (wpAny_holding (merge_into (Ne.symm nap) sy2 mix_noref d1 d2 (by simp; omega) fun h' d' sb => ?_)))))
  have I2 := dict_to (t' := s1.toks) I1 hp sb (KV.merge r2 .nil) (by omega) d'
  refine wpAny_pure ?_
  dsimp only
  rw [List.forIn_cons]
  refine wpAny_bind ?_
  dsimp only
  refine wpAny_ite_split (fun z => absurd z (by simp)) (fun _ => ?_)
  refine wpAny_pure ?_
  dsimp only
  rw [List.forIn_nil]
  refine wpAny_pure ?_
  dsimp only
  refine wpAny_bind (wpAny_ite_split (fun z => absurd z (by simp)) (fun _ => ?_))
  refine wpAny_bind (wpAny_holding ?_)
  have pairsOk : PPs X pos [some k] [v] [(tk, tv)] := pps_cons hk hv pps_nil
  generalize hs2 : ({ heap := h', gens := s1.gens, drawn := s1.drawn, toks := s1.toks, os := s1.os } : Shared) = s2 at *
  have hq : (upd H1 p (.dK (mergeK [] kvs))) s2.heap.objs.size = none := I2.hok.fresh (Nat.le_refl _)
  have np : s2.heap.objs.size ≠ p := fun z => by
    rw [z, upd_same] at hq
    cases hq
  have hq1 : H1 s2.heap.objs.size = none := by
    rw [upd_ne np] at hq
    exact hq
  have I3 := I2.laid (a := s2.heap.objs.size) (o := .dK []) (h' := s2.heap.push { cls := .type "dict", data := .dict #[] }) (t' := s2.toks) (fun _ _ q => Heap.get?_push_of_some _ q) (Nat.le_refl _) (dk_empty s2.heap I2.big)
  have q3 := q s2.heap.objs.size hq1
  have run := pairsOk.run pins _ σ _ (fun ps H' => match ps with
    | [(y, z)] => ∃ k, y = kV k ∧ H' s2.heap.objs.size = some (.dK []) ∧ H' p = some (.dK (mergeK [] kvs)) ∧
      Q (.ref p) (upd (upd H' s2.heap.objs.size (.dK [(k, z)])) p (.dK (putK (mergeK [] kvs) k z)))
    | _ => False) I3 q3
  refine wpAny_subDict (knd := mixKind X.prog X.w) (show (1 : Nat) ≤ 15 by decide) (wpAny_mono run (fun vs s3 z => ?_) fun _ _ z => z)
  obtain ⟨ps, H3, I3, rel, z⟩ := z
  match ps, rel, z with
  | [(y, z)], rel, ⟨kk, ey, eq, ep, hQ⟩ =>
    subst ey
    cases rel with
    | @cons _ b _ bs r rs =>
    cases rs
    obtain ⟨b1, b2⟩ := b
    obtain ⟨zq, syq, vsq, rq, dq⟩ := dk_of I3.hok eq
    cases rq
    refine ⟨[(kk, b2)], ⟨kV_is r.1, rfl, True.intro⟩, dq, fun h4 d4 sb4 => ?_⟩
    have rel1 : KV [(kk, z)] (merged [] [(kk, b2)]) := .cons ⟨rfl, r.2⟩ .nil
    have I4 := dict_to (t' := s3.toks + 1) I3 eq sb4 rel1 (by simp [sizeLine_eq]) d4
    have epq : (upd H3 s2.heap.objs.size (.dK [(kk, z)])) p = some (.dK (mergeK [] kvs)) := by
      rw [upd_ne (Ne.symm np)]
      exact ep
    obtain ⟨zp, syp, vsp, rp, dp⟩ := dk_of I4.hok epq
    have lp : vsp.length = (mergeK [] kvs).length := (Paired.length rp).symm
    refine wpAny_bind (wpAny_onRaise (wpAny_holding (merge_into (Ne.symm np) syq mix_noref dp d4 (show vsp.length + 1 ≤ sizeLine by omega) fun h5 d5 sb5 => ?_)))
    have rel5 : KV (putK (mergeK [] kvs) kk z) (merged vsp (merged [] [(kk, b2)])) := KV.merge rel1 rp
    have l5 : (putK (mergeK [] kvs) kk z).length ≤ sizeLine := by
      have := length_putK (mergeK [] kvs) kk z
      omega
    have I5 := dict_to (t' := s3.toks + 1) I4 epq sb5 rel5 l5 d5
    exact wpAny_pure (wpAny_pure ⟨.ref p, _, I5, rfl, hQ⟩)
end
end Ws

set_option Elab.async false
set_option linter.all false
set_option maxRecDepth 100000
set_option maxHeartbeats 4000000
namespace Ws
open PySem PySem.Spec PyProof.Rows L2
section
variable {prog : Program} {w : World} {A : Around} {E : Value → Shared → Prop} {s : Shared}
/-- a tuple's items, gathered -/
theorem gather_tup {l : Addr} {vs : List Value} {Q : List Value → Shared → Prop} (hl : IsTup s.heap l vs.toArray)
    (h : Q vs { s with heap := (s.heap.push (seqObj "list" #[] 0)).update s.heap.objs.size (Obj.mapSeq (· ++ vs.toArray)) }) (hsz : vs.length ≤ sizeLine) : wpAny (model prog w) A (collect (.ref l)) Q E s := by
  obtain ⟨o, ho, hc, n, hd⟩ := hl
  unfold collect
  refine wpAny_bind (wpAny_runValue (codeAny_builtin entry_proto_collect' ?_))
  change wpAny _ _ (do again (.builtin "list.__iadd__" ⟨[← newList [], .ref l], []⟩)) _ _ s
  refine wpAny_bind (wpAny_newList (wpAny_pure ⟨Code.quiet_builtin _ (by decide +kernel), codeAny_builtin entry_list_iadd' ?_⟩))
  change wpAny _ _ (Builtin.List.listExtendWith (.ref s.heap.objs.size) (.ref l) (.ref s.heap.objs.size)) _ _ { s with heap := s.heap.push (seqObj "list" #[] 0) }
  unfold Builtin.List.listExtendWith
  have hp : (s.heap.push (seqObj "list" #[] 0)).get? l = some o := Heap.get?_push_of_some _ ho
  refine wpAny_bind (wpAny_typeOf (T := "tuple") ⟨o, hp, hc⟩ ?_)
  have ht : (Value.type "tuple" == Value.type "tuple") = true := by rfl
  rw [if_pos (by rw [ht, Bool.or_true])]
  refine wpAny_bind (listItems_at hp hd (wpAny_bind (listItems_at (xs := #[]) (n := 0) (Heap.get?_push_size _ rfl) rfl ?_)))
  rw [if_neg (by simp)]
  refine wpAny_bind (listUpdate_at (xs := #[]) (n := 0) (Heap.get?_push_size _ rfl) rfl ?_ (Nat.zero_le _) (by simp only [Array.size_append, List.size_toArray, List.length_nil]; omega))
  refine wpAny_pure ?_
  change wpAny (model prog w) A (do
      let o ← load s.heap.objs.size
      match o.data with
      | .seq ys _ => pure ys.toList
      | _ => unsupported "internal:collect") Q E { s with heap := (s.heap.push (seqObj "list" #[] 0)).update s.heap.objs.size (Obj.mapSeq (· ++ vs.toArray)) }
  refine wpAny_bind (wpAny_load (get?_update_seq (Heap.get?_push_size _ rfl) _) ?_)
  change wpAny _ _ (pure ((#[] : Array Value) ++ vs.toArray).toList) Q E _
  rw [show ((#[] : Array Value) ++ vs.toArray).toList = vs by simp]
  exact wpAny_pure h
theorem sorted_tup {l : Addr} {vs : List Value} {ss : List Str} {Q : Value → Shared → Prop} (hl : IsTup s.heap l vs.toArray) (hS : StrsAre vs ss) (h64 : vs.length < 64)
    (h : ∀ (out : Array Value) (zs : List Str), StrsAre out.toList zs → zs.Perm ss → sortedS zs = true → Q (.ref (s.heap.objs.size + 1)) { s with heap := sortedAll s.heap vs out }) :
    wpAny (model prog w) A (call (.builtin "sorted") [.ref l]) Q E s := by
  refine Calls.call_function_entry kind_sorted plain_sorted entry_sorted (args_sorted1 _) ?_
  unfold Builtin.«sorted»
  refine wpAny_bind (m := checkCount "sorted" 1 1 _) (wpAny_pure ?_)
  refine wpAny_bind (gather_tup hl (wpAny_bind (wpAny_newList ?_ (by rw [sizeLine_eq]; omega))) (by rw [sizeLine_eq]; omega))
  have sz : ((s.heap.push (seqObj "list" #[] 0)).update s.heap.objs.size (Obj.mapSeq (· ++ vs.toArray))).objs.size = s.heap.objs.size + 1 := by rw [Heap.size_update, size_push']
  have at_ : (((s.heap.push (seqObj "list" #[] 0)).update s.heap.objs.size (Obj.mapSeq (· ++ vs.toArray))).push (seqObj "list" vs.toArray 0)).get? (s.heap.objs.size + 1) = some (seqObj "list" vs.toArray 0) := by
    rw [← sz]; exact Heap.get?_push_size _ rfl
  change wpAny _ _ _ _ _ { s with heap := ((s.heap.push (seqObj "list" #[] 0)).update s.heap.objs.size (Obj.mapSeq (· ++ vs.toArray))).push (seqObj "list" vs.toArray 0) }
  rw [sz]
  refine wpAny_bind (wpAny_holding (wpAny_call_entry slot_list_sort ⟨_, at_, rfl⟩ entry_list_sort (list_sort_treeK strKind_oneLt at_ hS.keysOf (fun v₁ v₂ rest e => keyKind_strs (by rw [← e]; exact hS)) h64 fun st' hp hs => ⟨_, rfl, ?_⟩) (args_list_sort _)))
  obtain ⟨zs, h1, h2, h3⟩ := sorted_out_str hS hp hs
  exact wpAny_pure ⟨_, rfl, h _ zs h1 h2 h3⟩
end
section
variable {X : Cx}
/-- sorted(xs), xs a list or a tuple of fewer than 64 texts -/
def rSortS (K : PySem.W.Frag) : List V → Hp → VK → Prop := fun vs H Q => ∃ (a : Addr) (xs : List Str), vs = [V.ref a] ∧ (SqL K H a (xs.map V.str) ∨ SqT K H a (xs.map V.str)) ∧ xs.length < 64 ∧
  ∀ (ys : List Str) (p : Addr), ys.Perm xs → sortedS ys = true → H p = none → Q (.ref p) (upd H p (.lst (ys.map V.str)))
theorem call_sortS : CallR X (.builtin "sorted") (rSortS X.K) := by
  intro pins s σ H vs us Q I r h
  obtain ⟨a, xs, rfl, hs, h64, q⟩ := h
  rcases hs with hs | hs
  · exact cr_sortedS pins s σ H [V.ref a] us Q I r ⟨a, xs, rfl, hs, h64, q⟩
  · obtain ⟨its, rv, hl, _⟩ := I.tuple hs
    rw [Vals.ref1 r]
    have n0 := rv.length
    rw [List.length_map] at n0
    refine sorted_tup hl rv.strs (by omega) fun out ys h1 h2 h3 => ?_
    obtain ⟨ep, he⟩ := sortedAll_at s.heap its out
    have n1 : (ys.map V.str).length ≤ sizeLine := by
      rw [List.length_map, h2.length_eq, sizeLine_eq]
      omega
    exact ⟨.ref _, upd H (s.heap.objs.size + 1) (.lst (ys.map V.str)), I.laid (t' := s.toks) (fun _ _ => sortedAll_old) (Nat.le_succ _) ⟨n1, out.toList, ep, vals_of_strs h1, he⟩, rfl, q ys _ h2 h3 (I.hok.fresh (Nat.le_succ _))⟩
/-! ### D.get(k, e), D a dict of the top with text keys -/
def tKGet2 (K : PySem.W.Frag) (w : World) (td ty tx : TE) : TE := fun σ H Q => td σ H fun x H1 => ∃ d es n, x = .ref d ∧ KDict K w d es n ∧
  ty σ H1 fun y H2 => tx σ H2 fun z H3 => ∃ k r v, y = .str k ∧ PySem.W.nsIn K d k = some r ∧ (match r with | some u => RelV v u | none => v = z) ∧ Q v H3
theorem pe_kget2 {o e f : PySem.Expr} {apos cpos : Pos} {td ty tx : TE} (ho : PE X o td) (he : PE X e ty) (hf : PE X f tx) (m : M2 X o "get" apos e f cpos) :
    PE X (.Call (.Attribute o "get" apos) [e, f] [] cpos) (tKGet2 X.K X.w td ty tx) := by
  constructor
  intro pins s σ H Q I h
  refine wpAny_Call_method m.base m.few m.line PySem.F.plainAttrs_dict PySem.F.slot_dict_get PySem.F.type_dict_get (thn (ho.run pins s σ H _ I h) fun u s1 ⟨x, H1, I1, rx, d, es, n, ex, D, q1⟩ => ?_)
  subst ex
  obtain rfl : u = Value.ref d := rx
  refine ⟨kd_type D I1, ?_, ?_⟩
  · intro b eb
    cases eb
    exact ⟨_, I1.kIn _ _ D.at_, rfl⟩
  rw [m.trees]
  refine Calls.callWith_builtin rfl (Calls.evalArgs_plain (Calls.spliced_cons (thn (he.run pins s1 σ H1 _ I1 q1) fun iv s2 ⟨y, H2, I2, ry, q2⟩ =>
    Calls.spliced_cons (thn (hf.run pins s2 σ H2 _ I2 q2) fun fv s3 ⟨z, H3, I3, rz, k, r, v, ey, el, hr, q3⟩ => Calls.spliced_nil ?_))))
  subst ey
  obtain ⟨t, rfl⟩ := ry
  refine call_meetsIn PySem.F.slot_dict_get (kd_type D I3) PySem.F.entry_dict_get (PySem.F.args_dict_get_3 _ _ _) (meets_dict_get_default (PySem.strKind X.prog X.w) d (PySem.strKind_is X.prog X.w k t) D.low fv)
    ⟨_, PySem.W.mapOf_K (prog := X.prog) I3.kIn D.at_ D.lit, ?_⟩
  rw [PySem.W.find_K D.at_ el]
  refine ⟨v, H3, I3.tok _, ?_, q3⟩
  cases r with
  | some u => exact hr
  | none =>
    cases (show v = z from hr)
    exact rz
/-! ### constants of the top -/
theorem pe_gI {x : Str} {i : Int} {pos : Pos} (hm : ∃ t, X.mg x = some (.int i t)) (hg : Gl X x) (hd : (x == ("__debug__" : Str)) = false := by decide) : PE X (.Name x pos) (tC (.int i)) := by
  obtain ⟨t, e⟩ := hm
  exact pe_glob hg e ⟨t, rfl⟩ hd
theorem pe_gS {x z : Str} {pos : Pos} (hm : ∃ t, X.mg x = some (.str z t)) (hg : Gl X x) (hd : (x == ("__debug__" : Str)) = false := by decide) : PE X (.Name x pos) (tC (.str z)) := by
  obtain ⟨t, e⟩ := hm
  exact pe_glob hg e ⟨t, rfl⟩ hd
theorem pe_gR {x : Str} {a : Addr} {pos : Pos} (hm : X.mg x = some (.ref a)) (hg : Gl X x) (hd : (x == ("__debug__" : Str)) = false := by decide) : PE X (.Name x pos) (tC (.ref a)) := pe_glob hg hm rfl hd
theorem pe_gT {x : Str} {n : String} {pos : Pos} (hm : X.mg x = none) (hv : bootBuiltins x = some (.type n)) (hg : Gl X x) (hn : x ≠ "__name__" := by decide) (hd : (x == ("__debug__" : Str)) = false := by decide) : PE X (.Name x pos) (tC (.ty n)) :=
  pe_bltn hg hm hv rfl hn hd
end
/-! ### a def without defaults, as a positional promise -/
section
variable {P : Program} {w : World} {K : PySem.W.Frag} {mg : Str → Option Value} {base : Heap} {x qual : Str} {params : Arguments} {body : List Stmt} {scope : Scope} {f : Addr}
abbrev ArgsGo (x qual : Str) (params : Arguments) (body : List Stmt) (scope : Scope) (ps : List Str) : Prop :=
  ∀ (kV doc pm : Value) (an : Option Addr) (cdv ct : Value) (us : List Value), us.length = ps.length → bindArgs (PySem.W.fnOf x qual params body scope .none kV doc pm an cdv ct) ⟨us, []⟩ = pure (ps.zip us)
theorem okR {kws : List (Str × V)} {N ps : List Str} {k : Nat} {sp : Sp} (F : ∃ fd, FunD K x qual params body scope [] kws f fd) (S : FnScope N ps scope) (B : ArgsGo x qual params body scope ps)
    (len : ∀ vs H Q E, sp vs H Q E → vs.length = ps.length)
    (hbody : ∀ (cdv : Value) (A : Around) (outer : List Env) (s : Shared) (H : Hp) (vs : List V) (Q : VK) (E : XK), Room k (A.deeper (envOfC qual scope s.heap.objs.size f cdv)) → sp vs H Q E →
      ∃ t, PSs (cxOf CX0 P w K mg base N qual scope f cdv A outer s H E).nox body t ∧ t { nx := fun _ H' => Q .non H', rt := Q } (start N vs) H) : FnR P w K mg base CX0 (k + 1) f sp := by
  obtain ⟨fd, F⟩ := F
  refine FnR.imp ((F.ok S len fun cdv A outer s H vs Q E hr h => ?_).raw (F.bindsN B) .nil) fun vs H Q E h => by rwa [List.append_nil]
  obtain ⟨t, h1, h2⟩ := hbody cdv A outer s H vs Q E hr h
  exact ⟨t, h1.nox, h2⟩
end
end Ws

set_option Elab.async false
set_option linter.all false
set_option maxRecDepth 100000
set_option maxHeartbeats 4000000
namespace Ws
open PySem PySem.Spec PyProof.Rows L2
/-- e.f, a property whose getter keeps sp -/
def tPropR (C : Addr) (sp : Sp) (E : XK) (ta : TE) : TE := fun σ H Q => ta σ H fun x H1 => ∃ a dx fs, x = .ref a ∧ H1 a = some (.ins C dx fs) ∧ sp [.ref a] H1 Q E
section
variable {X : Cx} {CX : CXT} {k : Nat} {C p g : Addr} {f : Str} {sp : Sp} {E : XK} {e : PySem.Expr} {pos : Pos} {ta : TE}
theorem pe_propR (he : PE X e ta) (c : Cls X.K C) (hp : PropOf X.K C f p g) (F : FnR X.prog X.w X.K X.mg X.base CX k g sp) (hr : Room (k + 1) X.A) (hx : Passes CX X.nox E)
    (hab : attributeBase e f X.env (eval e X.env) = eval e X.env := by rfl) : PE X (.Attribute e f pos) (tPropR C sp E ta) := by
  constructor
  intro pins s σ H Q I h
  refine attr_of hab (thn (he.run pins s σ H _ I h) fun u s1 ⟨x, H1, I1, rx, a, dx, fs, ex, ea, q⟩ => ?_)
  subst ex
  cases (show u = Value.ref a from rx)
  obtain ⟨od, J⟩ := inst_of I1 ea
  obtain ⟨rest, hrec⟩ := hp.rec_
  have I2 := I1.tok (s1.toks + 1)
  have hc : (PySem.W.clsIn X.K C).isSome = true := by
    obtain ⟨cd, hc, _⟩ := PySem.W.any_some c.hd
    rw [hc]
    rfl
  refine PySem.W.get_bind I1.kIn J (PySem.W.plainGet_of (c.get f)).1 (PySem.W.findObj_data hc hp.at_ hp.get hp.tak) (PySem.W.plainGet_of (c.get f)).2 (wpAny_call (PySem.W.prop_get (s := { s1 with toks := s1.toks + 1 }) I1.kIn hrec ?_))
  refine codeAny_mono (F X.A.in1 X.stack { s1 with toks := s1.toks + 1 } H1 [.ref a] [.ref a] Q E hr.in1 I2.env0.in1 (.cons (rr a) .nil) q) fun r s' hq => ?_
  match r, hq with
  | .error er, hq => exact False.elim (hx pins σ H1 { s1 with toks := s1.toks + 1 } er s' (I2.wish _) hq)
  | .ok (.ret u), hq =>
    obtain ⟨v, H', I3, rv, q3⟩ := I2.after hq
    show wpAny _ _ (handedOut u) _ _ _
    rw [PySem.W.handedOut_of (handed_of rv)]
    exact wpAny_pure ⟨v, H', I3, rv, q3⟩
  | .ok .next, hq => exact False.elim hq
  | .ok .brk, hq => exact False.elim hq
  | .ok .cont, hq => exact False.elim hq
end
/-! ### all arguments written, where there are defaults -/
section
variable {P : Program} {w : World} {K : PySem.W.Frag} {mg : Str → Option Value} {base : Heap} {x qual : Str} {params : Arguments} {body : List Stmt} {scope : Scope} {f : Addr}
abbrev ArgsGoD (n : Nat) (x qual : Str) (params : Arguments) (body : List Stmt) (scope : Scope) (ps : List Str) : Prop :=
  ∀ (T : Addr) (kV doc pm : Value) (an : Option Addr) (cdv ct : Value) (us its : List Value), us.length = ps.length → its.length = n →
    ∃ k, bindArgs (PySem.W.fnOf x qual params body scope (.ref T) kV doc pm an cdv ct) ⟨us, []⟩ = seqItems? (.ref T) >>= k ∧ k (some its.toArray) = pure (ps.zip us)
theorem okFD {dvs : List V} {kws : List (Str × V)} {N ps : List Str} {k : Nat} {sp : Sp} {fd : FuncData} (F : FunD K x qual params body scope dvs kws f fd) (S : FnScope N ps scope)
    (len : ∀ vs H Q E, sp vs H Q E → vs.length = ps.length)
    (hbody : ∀ (cdv : Value) (A : Around) (outer : List Env) (s : Shared) (H : Hp) (vs : List V) (Q : VK) (E : XK), Room k (A.deeper (envOfC qual scope s.heap.objs.size f cdv)) → sp vs H Q E →
      ∃ t, PSs (cxOf CX0 P w K mg base N qual scope f cdv A outer s H E).nox body t ∧ t { nx := fun _ H' => Q .non H', rt := Q } (start N vs) H) : FnOk P w K mg base CX0 (k + 1) f fd ps sp :=
  F.ok S len fun cdv A outer s H vs Q E hr h => by
    obtain ⟨t, h1, h2⟩ := hbody cdv A outer s H vs Q E hr h
    exact ⟨t, h1.nox, h2⟩
theorem rawFD {dvs : List V} {kws : List (Str × V)} {ps : List Str} {k : Nat} {sp : Sp} {fd : FuncData} (F : FunD K x qual params body scope dvs kws f fd) (hd : dvs ≠ [])
    (G : FnOk P w K mg base CX0 k f fd ps sp) (B : ArgsGoD dvs.length x qual params body scope ps) : FnR P w K mg base CX0 k f sp := by
  obtain ⟨ds, h1, h2⟩ := F.binds1 (ps := ps) ps.length dvs.length hd (by omega) fun T kV doc pm an cdv ct us its hu hi => by
    obtain ⟨k, e1, e2⟩ := B T kV doc pm an cdv ct us its hu hi
    refine ⟨k, e1, ?_⟩
    rw [e2, List.drop_eq_nil_of_le (by omega), List.append_nil]
  rw [List.drop_length] at h1
  cases h1
  exact FnR.imp (G.raw h2 .nil) fun vs H Q E h => by rwa [List.append_nil]
end
/-! ### frames -/
/-- all that stands keeps standing as it is, but what is in S -/
structure Kp (S : Addr → Prop) (H H' : Hp) : Prop where
  keep : ∀ a o, H a = some o → ¬ S a → H' a = some o
  dom : ∀ a, H a ≠ none → H' a ≠ none
def no : Addr → Prop := fun _ => False
section
variable {S T : Addr → Prop} {H H1 H2 : Hp} {a p : Addr} {o : HO}
theorem Kp.refl : Kp S H H := ⟨fun _ _ h _ => h, fun _ h => h⟩
theorem Kp.trans (u : Kp S H H1) (v : Kp S H1 H2) : Kp S H H2 := ⟨fun a o h n => v.keep a o (u.keep a o h n) n, fun a h => v.dom a (u.dom a h)⟩
theorem Kp.mono (u : Kp S H H1) (h : ∀ a, S a → T a) : Kp T H H1 := ⟨fun a o e n => u.keep a o e fun z => n (h a z), u.dom⟩
theorem Kp.ext (e : Ext H H1) : Kp S H H1 := ⟨fun a o h _ => e a o h, fun a h => by
  cases q : H a with
  | none => exact absurd q h
  | some o => rw [e a o q]; exact fun z => nomatch z⟩
theorem Kp.to (u : Kp no H H1) : Ext H H1 := fun a o h => u.keep a o h fun z => z
theorem ext_new (hp : H p = none) : Ext H (upd H p o) := fun a u e => by rw [upd_ne (ne_of_none e hp)]; exact e
theorem Kp.new (hp : H p = none) : Kp S H (upd H p o) := .ext (ext_new hp)
theorem Kp.put (u : Kp S H H1) (hs : S a) : Kp S H (upd H1 a o) := ⟨fun b x e n => by
    by_cases z : b = a
    · exact absurd (z ▸ hs : S b) n
    · rw [upd_ne z]; exact u.keep b x e n, fun b hb => by
    by_cases z : b = a
    · subst z; rw [upd_same]; exact fun z => nomatch z
    · rw [upd_ne z]; exact u.dom b hb⟩
theorem Kp.add (u : Kp S H H1) (hp : H1 p = none) : Kp S H (upd H1 p o) := u.trans (.new hp)
/-- at a stands o, and a is not to change -/
def At (S : Addr → Prop) (H : Hp) (a : Addr) (o : HO) : Prop := H a = some o ∧ ¬ S a
theorem At.kp (h : At S H a o) (u : Kp S H H1) : At S H1 a o := ⟨u.keep a o h.1 h.2, h.2⟩
theorem At.new (hS : ∀ a, S a → H a ≠ none) (hp : H p = none) : At S (upd H p o) p o := ⟨upd_same, fun z => hS p z hp⟩
theorem ext_dom (e : Ext H H1) (h : H a ≠ none) : H1 a ≠ none := by
  cases q : H a with
  | none => exact absurd q h
  | some o => rw [e a o q]; exact fun z => nomatch z
end
end Ws

set_option Elab.async false
set_option linter.all false
set_option maxRecDepth 100000
set_option maxHeartbeats 4000000
namespace Ws
open PySem PySem.Spec PyProof.Rows L2
/-- the i-th statement of the text -/
def top (i : Nat) : Stmt := PySem.Challenge.pw_wholestory_k79_deeds_taken_back.main.body.getD i (.Pass ⟨0, 0, 0, 0⟩)
abbrev s_is_number : Stmt := top 17
abbrev s_is_name : Stmt := top 18
abbrev s_are_different : Stmt := top 19
abbrev s_are_names : Stmt := top 20
abbrev s_Rule_init : Stmt := inClass (top 21) 0
abbrev s_Rule_share : Stmt := inClass (top 21) 1
abbrev s_Rule_eq : Stmt := inClass (top 21) 5
abbrev s_are_rules : Stmt := top 22
abbrev s_House_init : Stmt := inClass (top 23) 0
abbrev s_House_rules : Stmt := inClass (top 23) 1
abbrev s_House_calls : Stmt := inClass (top 23) 2
abbrev s_House_lost : Stmt := inClass (top 23) 3
abbrev s_House_fails : Stmt := inClass (top 23) 4
abbrev s_House_with_rules : Stmt := inClass (top 23) 5
abbrev s_House_eq : Stmt := inClass (top 23) 6
abbrev s_are_named : Stmt := top 24
abbrev s_need_houses : Stmt := top 25
abbrev s_Net_init : Stmt := inClass (top 26) 0
abbrev s_Net_contains : Stmt := inClass (top 26) 5
abbrev s_Net_getitem : Stmt := inClass (top 26) 6
abbrev s_Net_eq : Stmt := inClass (top 26) 8
abbrev s_Net_with_house : Stmt := inClass (top 26) 12
abbrev s_Net_with_rules : Stmt := inClass (top 26) 13
abbrev s_need_net : Stmt := top 27
abbrev s_need_house : Stmt := top 28
abbrev s_Moment_init : Stmt := inClass (top 31) 0
abbrev s_need_form : Stmt := top 33
abbrev s_with_rule : Stmt := top 34
abbrev s_need_way : Stmt := top 35
abbrev s_with_way : Stmt := top 36
abbrev s_without_way : Stmt := top 37
abbrev s_changed : Stmt := top 38
abbrev s_Live_init : Stmt := inClass (top 39) 0
abbrev s_Live_net : Stmt := inClass (top 39) 1
abbrev s_Live_log : Stmt := inClass (top 39) 2
abbrev s_Live_eq : Stmt := inClass (top 39) 3
abbrev s_Live_do : Stmt := inClass (top 39) 6
abbrev s_Live_undo : Stmt := inClass (top 39) 7
abbrev s_Live_copy : Stmt := inClass (top 39) 10
abbrev s_l_begun : Stmt := top 41
abbrev s_l_mixed : Stmt := top 42
abbrev s_l_take : Stmt := top 43
abbrev s_l_pick : Stmt := top 44
abbrev s_l_names : Stmt := top 45
abbrev s_l_rule : Stmt := top 46
abbrev s_l_model : Stmt := top 47
abbrev s_l_rules_of : Stmt := top 48
abbrev s_l_net : Stmt := top 49
abbrev s_l_copied : Stmt := top 50
abbrev s_l_deed : Stmt := top 51
abbrev s_l_caught : Stmt := top 52
abbrev s_l_behind : Stmt := top 53
abbrev s_law : Stmt := top 54
section
variable (K : PySem.W.Frag)
/-- the getter of a property -/
def gA (C f : Str) : Addr := match PySem.W.recIn K (He.ma K (He.ga K C) f) "property" with
  | some (.ref g :: _) => g
  | _ => 0
abbrev c_Rule : Addr := He.ga K "Rule"
abbrev c_House : Addr := He.ga K "House"
abbrev c_Net : Addr := He.ga K "Net"
abbrev c_Moment : Addr := He.ga K "Moment"
abbrev c_Live : Addr := He.ga K "Live"
abbrev c_StoryError : Addr := He.ga K "StoryError"
abbrev c_NothingDone : Addr := He.ga K "NothingDone"
abbrev a_is_number : Addr := He.ga K "is_number"
abbrev a_is_name : Addr := He.ga K "is_name"
abbrev a_are_different : Addr := He.ga K "are_different"
abbrev a_are_names : Addr := He.ga K "are_names"
abbrev a_Rule_init : Addr := He.ma K (He.ga K "Rule") "__init__"
abbrev a_Rule_share : Addr := gA K "Rule" "share"
abbrev a_Rule_eq : Addr := He.ma K (He.ga K "Rule") "__eq__"
abbrev a_are_rules : Addr := He.ga K "are_rules"
abbrev a_House_init : Addr := He.ma K (He.ga K "House") "__init__"
abbrev a_House_rules : Addr := gA K "House" "rules"
abbrev a_House_calls : Addr := gA K "House" "calls"
abbrev a_House_lost : Addr := gA K "House" "lost"
abbrev a_House_fails : Addr := gA K "House" "fails"
abbrev a_House_with_rules : Addr := He.ma K (He.ga K "House") "with_rules"
abbrev a_House_eq : Addr := He.ma K (He.ga K "House") "__eq__"
abbrev a_are_named : Addr := He.ga K "are_named"
abbrev a_need_houses : Addr := He.ga K "need_houses"
abbrev a_Net_init : Addr := He.ma K (He.ga K "Net") "__init__"
abbrev a_Net_contains : Addr := He.ma K (He.ga K "Net") "__contains__"
abbrev a_Net_getitem : Addr := He.ma K (He.ga K "Net") "__getitem__"
abbrev a_Net_eq : Addr := He.ma K (He.ga K "Net") "__eq__"
abbrev a_Net_with_house : Addr := He.ma K (He.ga K "Net") "with_house"
abbrev a_Net_with_rules : Addr := He.ma K (He.ga K "Net") "with_rules"
abbrev a_need_net : Addr := He.ga K "need_net"
abbrev a_need_house : Addr := He.ga K "need_house"
abbrev a_Moment_init : Addr := He.ma K (He.ga K "Moment") "__init__"
abbrev a_need_form : Addr := He.ga K "need_form"
abbrev a_with_rule : Addr := He.ga K "with_rule"
abbrev a_need_way : Addr := He.ga K "need_way"
abbrev a_with_way : Addr := He.ga K "with_way"
abbrev a_without_way : Addr := He.ga K "without_way"
abbrev a_changed : Addr := He.ga K "changed"
abbrev a_Live_init : Addr := He.ma K (He.ga K "Live") "__init__"
abbrev a_Live_net : Addr := gA K "Live" "net"
abbrev a_Live_log : Addr := gA K "Live" "log"
abbrev a_Live_eq : Addr := He.ma K (He.ga K "Live") "__eq__"
abbrev a_Live_do : Addr := He.ma K (He.ga K "Live") "do"
abbrev a_Live_undo : Addr := He.ma K (He.ga K "Live") "undo"
abbrev a_Live_copy : Addr := He.ma K (He.ga K "Live") "copy"
abbrev a_l_begun : Addr := He.ga K "_law_begun"
abbrev a_l_mixed : Addr := He.ga K "_law_mixed"
abbrev a_l_take : Addr := He.ga K "_law_take"
abbrev a_l_pick : Addr := He.ga K "_law_pick"
abbrev a_l_names : Addr := He.ga K "_law_names"
abbrev a_l_rule : Addr := He.ga K "_law_rule"
abbrev a_l_model : Addr := He.ga K "_law_model"
abbrev a_l_rules_of : Addr := He.ga K "_law_rules_of"
abbrev a_l_net : Addr := He.ga K "_law_net"
abbrev a_l_copied : Addr := He.ga K "_law_copied"
abbrev a_l_deed : Addr := He.ga K "_law_deed"
abbrev a_l_caught : Addr := He.ga K "_law_caught"
abbrev a_l_behind : Addr := He.ga K "_law_behind"
abbrev a_law : Addr := He.ga K "law"
end
/-- what the top leaves -/
structure Fx (K : PySem.W.Frag) (mg : Str → Option Value) (w : World) : Prop where
  n_isinstance : mg "isinstance" = none
  n_int : mg "int" = none
  n_bool : mg "bool" = none
  n_str : mg "str" = none
  n_list : mg "list" = none
  n_tuple : mg "tuple" = none
  n_dict : mg "dict" = none
  n_len : mg "len" = none
  n_all : mg "all" = none
  n_any : mg "any" = none
  n_sorted : mg "sorted" = none
  n_range : mg "range" = none
  n_min : mg "min" = none
  n_abs : mg "abs" = none
  n_enumerate : mg "enumerate" = none
  n_repr : mg "repr" = none
  m_is_number : mg "is_number" = some (.ref (a_is_number K))
  F_is_number : ∃ fd, FunD K "is_number" "is_number" (defArgs s_is_number) (defBody s_is_number) (defScope s_is_number) [] [] (a_is_number K) fd
  m_is_name : mg "is_name" = some (.ref (a_is_name K))
  F_is_name : ∃ fd, FunD K "is_name" "is_name" (defArgs s_is_name) (defBody s_is_name) (defScope s_is_name) [] [] (a_is_name K) fd
  m_are_different : mg "are_different" = some (.ref (a_are_different K))
  F_are_different : ∃ fd, FunD K "are_different" "are_different" (defArgs s_are_different) (defBody s_are_different) (defScope s_are_different) [] [] (a_are_different K) fd
  m_are_names : mg "are_names" = some (.ref (a_are_names K))
  F_are_names : ∃ fd, FunD K "are_names" "are_names" (defArgs s_are_names) (defBody s_are_names) (defScope s_are_names) [] [] (a_are_names K) fd
  F_Rule_init : ∃ fd, FunD K "__init__" "Rule.__init__" (defArgs s_Rule_init) (defBody s_Rule_init) (defScope s_Rule_init) [.str "handed", .bl false, .bl false] [] (a_Rule_init K) fd
  p_Rule_share : PropOf K (c_Rule K) "share" (He.ma K (c_Rule K) "share") (a_Rule_share K)
  F_Rule_share : ∃ fd, FunD K "share" "Rule.share" (defArgs s_Rule_share) (defBody s_Rule_share) (defScope s_Rule_share) [] [] (a_Rule_share K) fd
  F_Rule_eq : ∃ fd, FunD K "__eq__" "Rule.__eq__" (defArgs s_Rule_eq) (defBody s_Rule_eq) (defScope s_Rule_eq) [] [] (a_Rule_eq K) fd
  m_are_rules : mg "are_rules" = some (.ref (a_are_rules K))
  F_are_rules : ∃ fd, FunD K "are_rules" "are_rules" (defArgs s_are_rules) (defBody s_are_rules) (defScope s_are_rules) [] [] (a_are_rules K) fd
  F_House_init : ∃ fd, FunD K "__init__" "House.__init__" (defArgs s_House_init) (defBody s_House_init) (defScope s_House_init) [.ref (He.dflAt ("House", some "__init__") 0 K), .ref (He.dflAt ("House", some "__init__") 1 K), .bl false] [] (a_House_init K) fd
  p_House_rules : PropOf K (c_House K) "rules" (He.ma K (c_House K) "rules") (a_House_rules K)
  F_House_rules : ∃ fd, FunD K "rules" "House.rules" (defArgs s_House_rules) (defBody s_House_rules) (defScope s_House_rules) [] [] (a_House_rules K) fd
  p_House_calls : PropOf K (c_House K) "calls" (He.ma K (c_House K) "calls") (a_House_calls K)
  F_House_calls : ∃ fd, FunD K "calls" "House.calls" (defArgs s_House_calls) (defBody s_House_calls) (defScope s_House_calls) [] [] (a_House_calls K) fd
  p_House_lost : PropOf K (c_House K) "lost" (He.ma K (c_House K) "lost") (a_House_lost K)
  F_House_lost : ∃ fd, FunD K "lost" "House.lost" (defArgs s_House_lost) (defBody s_House_lost) (defScope s_House_lost) [] [] (a_House_lost K) fd
  p_House_fails : PropOf K (c_House K) "fails" (He.ma K (c_House K) "fails") (a_House_fails K)
  F_House_fails : ∃ fd, FunD K "fails" "House.fails" (defArgs s_House_fails) (defBody s_House_fails) (defScope s_House_fails) [] [] (a_House_fails K) fd
  me_House_with_rules : Meth K (c_House K) "with_rules" (a_House_with_rules K)
  F_House_with_rules : ∃ fd, FunD K "with_rules" "House.with_rules" (defArgs s_House_with_rules) (defBody s_House_with_rules) (defScope s_House_with_rules) [] [] (a_House_with_rules K) fd
  F_House_eq : ∃ fd, FunD K "__eq__" "House.__eq__" (defArgs s_House_eq) (defBody s_House_eq) (defScope s_House_eq) [] [] (a_House_eq K) fd
  m_are_named : mg "are_named" = some (.ref (a_are_named K))
  F_are_named : ∃ fd, FunD K "are_named" "are_named" (defArgs s_are_named) (defBody s_are_named) (defScope s_are_named) [] [] (a_are_named K) fd
  m_need_houses : mg "need_houses" = some (.ref (a_need_houses K))
  F_need_houses : ∃ fd, FunD K "need_houses" "need_houses" (defArgs s_need_houses) (defBody s_need_houses) (defScope s_need_houses) [] [] (a_need_houses K) fd
  F_Net_init : ∃ fd, FunD K "__init__" "Net.__init__" (defArgs s_Net_init) (defBody s_Net_init) (defScope s_Net_init) [] [] (a_Net_init K) fd
  F_Net_contains : ∃ fd, FunD K "__contains__" "Net.__contains__" (defArgs s_Net_contains) (defBody s_Net_contains) (defScope s_Net_contains) [] [] (a_Net_contains K) fd
  F_Net_getitem : ∃ fd, FunD K "__getitem__" "Net.__getitem__" (defArgs s_Net_getitem) (defBody s_Net_getitem) (defScope s_Net_getitem) [] [] (a_Net_getitem K) fd
  F_Net_eq : ∃ fd, FunD K "__eq__" "Net.__eq__" (defArgs s_Net_eq) (defBody s_Net_eq) (defScope s_Net_eq) [] [] (a_Net_eq K) fd
  me_Net_with_house : Meth K (c_Net K) "with_house" (a_Net_with_house K)
  F_Net_with_house : ∃ fd, FunD K "with_house" "Net.with_house" (defArgs s_Net_with_house) (defBody s_Net_with_house) (defScope s_Net_with_house) [] [] (a_Net_with_house K) fd
  me_Net_with_rules : Meth K (c_Net K) "with_rules" (a_Net_with_rules K)
  F_Net_with_rules : ∃ fd, FunD K "with_rules" "Net.with_rules" (defArgs s_Net_with_rules) (defBody s_Net_with_rules) (defScope s_Net_with_rules) [] [] (a_Net_with_rules K) fd
  m_need_net : mg "need_net" = some (.ref (a_need_net K))
  F_need_net : ∃ fd, FunD K "need_net" "need_net" (defArgs s_need_net) (defBody s_need_net) (defScope s_need_net) [] [] (a_need_net K) fd
  m_need_house : mg "need_house" = some (.ref (a_need_house K))
  F_need_house : ∃ fd, FunD K "need_house" "need_house" (defArgs s_need_house) (defBody s_need_house) (defScope s_need_house) [] [] (a_need_house K) fd
  F_Moment_init : ∃ fd, FunD K "__init__" "Moment.__init__" (defArgs s_Moment_init) (defBody s_Moment_init) (defScope s_Moment_init) [] [] (a_Moment_init K) fd
  m_need_form : mg "need_form" = some (.ref (a_need_form K))
  F_need_form : ∃ fd, FunD K "need_form" "need_form" (defArgs s_need_form) (defBody s_need_form) (defScope s_need_form) [] [] (a_need_form K) fd
  m_with_rule : mg "with_rule" = some (.ref (a_with_rule K))
  F_with_rule : ∃ fd, FunD K "with_rule" "with_rule" (defArgs s_with_rule) (defBody s_with_rule) (defScope s_with_rule) [] [] (a_with_rule K) fd
  m_need_way : mg "need_way" = some (.ref (a_need_way K))
  F_need_way : ∃ fd, FunD K "need_way" "need_way" (defArgs s_need_way) (defBody s_need_way) (defScope s_need_way) [] [] (a_need_way K) fd
  m_with_way : mg "with_way" = some (.ref (a_with_way K))
  F_with_way : ∃ fd, FunD K "with_way" "with_way" (defArgs s_with_way) (defBody s_with_way) (defScope s_with_way) [] [] (a_with_way K) fd
  m_without_way : mg "without_way" = some (.ref (a_without_way K))
  F_without_way : ∃ fd, FunD K "without_way" "without_way" (defArgs s_without_way) (defBody s_without_way) (defScope s_without_way) [] [] (a_without_way K) fd
  m_changed : mg "changed" = some (.ref (a_changed K))
  F_changed : ∃ fd, FunD K "changed" "changed" (defArgs s_changed) (defBody s_changed) (defScope s_changed) [] [] (a_changed K) fd
  F_Live_init : ∃ fd, FunD K "__init__" "Live.__init__" (defArgs s_Live_init) (defBody s_Live_init) (defScope s_Live_init) [] [] (a_Live_init K) fd
  p_Live_net : PropOf K (c_Live K) "net" (He.ma K (c_Live K) "net") (a_Live_net K)
  F_Live_net : ∃ fd, FunD K "net" "Live.net" (defArgs s_Live_net) (defBody s_Live_net) (defScope s_Live_net) [] [] (a_Live_net K) fd
  p_Live_log : PropOf K (c_Live K) "log" (He.ma K (c_Live K) "log") (a_Live_log K)
  F_Live_log : ∃ fd, FunD K "log" "Live.log" (defArgs s_Live_log) (defBody s_Live_log) (defScope s_Live_log) [] [] (a_Live_log K) fd
  F_Live_eq : ∃ fd, FunD K "__eq__" "Live.__eq__" (defArgs s_Live_eq) (defBody s_Live_eq) (defScope s_Live_eq) [] [] (a_Live_eq K) fd
  me_Live_do : Meth K (c_Live K) "do" (a_Live_do K)
  F_Live_do : ∃ fd, FunD K "do" "Live.do" (defArgs s_Live_do) (defBody s_Live_do) (defScope s_Live_do) [] [] (a_Live_do K) fd
  me_Live_undo : Meth K (c_Live K) "undo" (a_Live_undo K)
  F_Live_undo : ∃ fd, FunD K "undo" "Live.undo" (defArgs s_Live_undo) (defBody s_Live_undo) (defScope s_Live_undo) [] [] (a_Live_undo K) fd
  me_Live_copy : Meth K (c_Live K) "copy" (a_Live_copy K)
  F_Live_copy : ∃ fd, FunD K "copy" "Live.copy" (defArgs s_Live_copy) (defBody s_Live_copy) (defScope s_Live_copy) [] [] (a_Live_copy K) fd
  m_l_begun : mg "_law_begun" = some (.ref (a_l_begun K))
  F_l_begun : ∃ fd, FunD K "_law_begun" "_law_begun" (defArgs s_l_begun) (defBody s_l_begun) (defScope s_l_begun) [] [] (a_l_begun K) fd
  m_l_mixed : mg "_law_mixed" = some (.ref (a_l_mixed K))
  F_l_mixed : ∃ fd, FunD K "_law_mixed" "_law_mixed" (defArgs s_l_mixed) (defBody s_l_mixed) (defScope s_l_mixed) [] [] (a_l_mixed K) fd
  m_l_take : mg "_law_take" = some (.ref (a_l_take K))
  F_l_take : ∃ fd, FunD K "_law_take" "_law_take" (defArgs s_l_take) (defBody s_l_take) (defScope s_l_take) [] [] (a_l_take K) fd
  m_l_pick : mg "_law_pick" = some (.ref (a_l_pick K))
  F_l_pick : ∃ fd, FunD K "_law_pick" "_law_pick" (defArgs s_l_pick) (defBody s_l_pick) (defScope s_l_pick) [] [] (a_l_pick K) fd
  m_l_names : mg "_law_names" = some (.ref (a_l_names K))
  F_l_names : ∃ fd, FunD K "_law_names" "_law_names" (defArgs s_l_names) (defBody s_l_names) (defScope s_l_names) [] [] (a_l_names K) fd
  m_l_rule : mg "_law_rule" = some (.ref (a_l_rule K))
  F_l_rule : ∃ fd, FunD K "_law_rule" "_law_rule" (defArgs s_l_rule) (defBody s_l_rule) (defScope s_l_rule) [] [] (a_l_rule K) fd
  m_l_model : mg "_law_model" = some (.ref (a_l_model K))
  F_l_model : ∃ fd, FunD K "_law_model" "_law_model" (defArgs s_l_model) (defBody s_l_model) (defScope s_l_model) [] [] (a_l_model K) fd
  m_l_rules_of : mg "_law_rules_of" = some (.ref (a_l_rules_of K))
  F_l_rules_of : ∃ fd, FunD K "_law_rules_of" "_law_rules_of" (defArgs s_l_rules_of) (defBody s_l_rules_of) (defScope s_l_rules_of) [] [] (a_l_rules_of K) fd
  m_l_net : mg "_law_net" = some (.ref (a_l_net K))
  F_l_net : ∃ fd, FunD K "_law_net" "_law_net" (defArgs s_l_net) (defBody s_l_net) (defScope s_l_net) [] [] (a_l_net K) fd
  m_l_copied : mg "_law_copied" = some (.ref (a_l_copied K))
  F_l_copied : ∃ fd, FunD K "_law_copied" "_law_copied" (defArgs s_l_copied) (defBody s_l_copied) (defScope s_l_copied) [] [] (a_l_copied K) fd
  m_l_deed : mg "_law_deed" = some (.ref (a_l_deed K))
  F_l_deed : ∃ fd, FunD K "_law_deed" "_law_deed" (defArgs s_l_deed) (defBody s_l_deed) (defScope s_l_deed) [] [] (a_l_deed K) fd
  m_l_caught : mg "_law_caught" = some (.ref (a_l_caught K))
  F_l_caught : ∃ fd, FunD K "_law_caught" "_law_caught" (defArgs s_l_caught) (defBody s_l_caught) (defScope s_l_caught) [] [] (a_l_caught K) fd
  m_l_behind : mg "_law_behind" = some (.ref (a_l_behind K))
  F_l_behind : ∃ fd, FunD K "_law_behind" "_law_behind" (defArgs s_l_behind) (defBody s_l_behind) (defScope s_l_behind) [] [] (a_l_behind K) fd
  F_law : ∃ fd, FunD K "law" "law" (defArgs s_law) (defBody s_law) (defScope s_law) [] [] (a_law K) fd
  m_Rule : mg "Rule" = some (.ref (c_Rule K))
  cl_Rule : Cls K (c_Rule K)
  mk_Rule : Mk K (c_Rule K) (a_Rule_init K)
  na_Rule_r_parts : NoAttr K (c_Rule K) "r_parts"
  mro_Rule : PySem.W.mroIn K (c_Rule K) (.type "object") = some true
  cc_Rule : PySem.W.findIn K (.ref (c_Rule K)) "__class__" = some (some (.builtin "object.__class__"))
  kit_Rule : PySem.W.kitOne K (.ref (c_Rule K)) (.ref (c_Rule K)) = some true
  sp_Rule_eq : PySem.W.findIn K (.ref (c_Rule K)) "__eq__" = some (some (.ref (a_Rule_eq K)))
  fn_Rule_eq : PySem.W.isFn K (.ref (a_Rule_eq K)) = true
  fi_Rule_eq : PySem.W.fnIn K (a_Rule_eq K) = true
  ne_Rule : PySem.W.findIn K (.ref (c_Rule K)) "__ne__" = some (some (.builtin "object.__ne__"))
  m_House : mg "House" = some (.ref (c_House K))
  cl_House : Cls K (c_House K)
  mk_House : Mk K (c_House K) (a_House_init K)
  na_House_h_rules : NoAttr K (c_House K) "h_rules"
  na_House_h_calls : NoAttr K (c_House K) "h_calls"
  na_House_h_lost : NoAttr K (c_House K) "h_lost"
  na_House_h_fails : NoAttr K (c_House K) "h_fails"
  mro_House : PySem.W.mroIn K (c_House K) (.type "object") = some true
  cc_House : PySem.W.findIn K (.ref (c_House K)) "__class__" = some (some (.builtin "object.__class__"))
  kit_House : PySem.W.kitOne K (.ref (c_House K)) (.ref (c_House K)) = some true
  sp_House_eq : PySem.W.findIn K (.ref (c_House K)) "__eq__" = some (some (.ref (a_House_eq K)))
  fn_House_eq : PySem.W.isFn K (.ref (a_House_eq K)) = true
  fi_House_eq : PySem.W.fnIn K (a_House_eq K) = true
  ne_House : PySem.W.findIn K (.ref (c_House K)) "__ne__" = some (some (.builtin "object.__ne__"))
  m_Net : mg "Net" = some (.ref (c_Net K))
  cl_Net : Cls K (c_Net K)
  mk_Net : Mk K (c_Net K) (a_Net_init K)
  na_Net_n_fine : NoAttr K (c_Net K) "n_fine"
  na_Net_n_houses : NoAttr K (c_Net K) "n_houses"
  na_Net_n_entries : NoAttr K (c_Net K) "n_entries"
  mro_Net : PySem.W.mroIn K (c_Net K) (.type "object") = some true
  cc_Net : PySem.W.findIn K (.ref (c_Net K)) "__class__" = some (some (.builtin "object.__class__"))
  kit_Net : PySem.W.kitOne K (.ref (c_Net K)) (.ref (c_Net K)) = some true
  sp_Net_eq : PySem.W.findIn K (.ref (c_Net K)) "__eq__" = some (some (.ref (a_Net_eq K)))
  fn_Net_eq : PySem.W.isFn K (.ref (a_Net_eq K)) = true
  fi_Net_eq : PySem.W.fnIn K (a_Net_eq K) = true
  sp_Net_contains : PySem.W.findIn K (.ref (c_Net K)) "__contains__" = some (some (.ref (a_Net_contains K)))
  fn_Net_contains : PySem.W.isFn K (.ref (a_Net_contains K)) = true
  fi_Net_contains : PySem.W.fnIn K (a_Net_contains K) = true
  sp_Net_getitem : PySem.W.findIn K (.ref (c_Net K)) "__getitem__" = some (some (.ref (a_Net_getitem K)))
  fn_Net_getitem : PySem.W.isFn K (.ref (a_Net_getitem K)) = true
  fi_Net_getitem : PySem.W.fnIn K (a_Net_getitem K) = true
  ne_Net : PySem.W.findIn K (.ref (c_Net K)) "__ne__" = some (some (.builtin "object.__ne__"))
  m_Moment : mg "Moment" = some (.ref (c_Moment K))
  cl_Moment : Cls K (c_Moment K)
  mk_Moment : Mk K (c_Moment K) (a_Moment_init K)
  na_Moment_whole : NoAttr K (c_Moment K) "whole"
  na_Moment_deed : NoAttr K (c_Moment K) "deed"
  na_Moment_ahead : NoAttr K (c_Moment K) "ahead"
  mro_Moment : PySem.W.mroIn K (c_Moment K) (.type "object") = some true
  cc_Moment : PySem.W.findIn K (.ref (c_Moment K)) "__class__" = some (some (.builtin "object.__class__"))
  kit_Moment : PySem.W.kitOne K (.ref (c_Moment K)) (.ref (c_Moment K)) = some true
  m_Live : mg "Live" = some (.ref (c_Live K))
  cl_Live : Cls K (c_Live K)
  mk_Live : Mk K (c_Live K) (a_Live_init K)
  na_Live_now : NoAttr K (c_Live K) "now"
  na_Live_block : NoAttr K (c_Live K) "block"
  mro_Live : PySem.W.mroIn K (c_Live K) (.type "object") = some true
  cc_Live : PySem.W.findIn K (.ref (c_Live K)) "__class__" = some (some (.builtin "object.__class__"))
  kit_Live : PySem.W.kitOne K (.ref (c_Live K)) (.ref (c_Live K)) = some true
  sp_Live_eq : PySem.W.findIn K (.ref (c_Live K)) "__eq__" = some (some (.ref (a_Live_eq K)))
  fn_Live_eq : PySem.W.isFn K (.ref (a_Live_eq K)) = true
  fi_Live_eq : PySem.W.fnIn K (a_Live_eq K) = true
  ne_Live : PySem.W.findIn K (.ref (c_Live K)) "__ne__" = some (some (.builtin "object.__ne__"))
  m_StoryError : mg "StoryError" = some (.ref (c_StoryError K))
  m_NothingDone : mg "NothingDone" = some (.ref (c_NothingDone K))
  x_NothingDone : PySem.W.excIn K (c_NothingDone K) He.veBase "ValueError.__new__" = true
  kp_NothingDone : PySem.W.keepIn K (.ref (c_NothingDone K)) = true
  sb_NothingDone : PySem.W.subIn K (.ref (c_NothingDone K)) (.type "BaseException") = some true
  ty_NothingDone : PySem.W.typeIn K (.ref (c_NothingDone K)) = some (.type "type")
  exm_NothingDone_StoryError : PySem.W.exmOne K (.ref (c_NothingDone K)) (.ref (c_StoryError K)) = some true
  ga_NothingDone : PySem.W.findIn K (.ref (c_NothingDone K)) "__getattribute__" = some (some (.builtin "BaseException.__getattribute__"))
  gg_NothingDone : PySem.W.findIn K (.ref (c_NothingDone K)) "__getattr__" = some none
  hd_NothingDone : PySem.W.hasDictIn K (c_NothingDone K) = true
  cc_NothingDone : PySem.W.findIn K (.ref (c_NothingDone K)) "__class__" = some (some (.builtin "object.__class__"))
  mro_NothingDone : PySem.W.mroIn K (c_NothingDone K) (.type "object") = some true
  kit_NothingDone : PySem.W.kitOne K (.ref (c_NothingDone K)) (.ref (c_NothingDone K)) = some true
  nf_Net : PySem.W.notFirst K (c_Live K) (.ref (c_Net K)) = true
  nf_list : PySem.W.notFirst K (c_Live K) (.type "list") = true
  nf_non : PySem.W.notFirst K (c_Live K) (.type "NoneType") = true
  kn_Net : PySem.W.kitOne K (.ref (c_Net K)) (.ref (c_Live K)) = some false
  kn_list : PySem.W.kitOne K (.type "list") (.ref (c_Live K)) = some false
  kn_non : PySem.W.kitOne K (.type "NoneType") (.ref (c_Live K)) = some false
  cget : PySem.W.specialIn K (.builtin "object.__class__") "__get__" = some (some (.builtin "getset_descriptor.__get__"))
  ctak : PySem.W.takesIn K (.builtin "object.__class__") = some true
  z_HANDED : ∃ t, mg "HANDED" = some (.str "handed" t)
  z_LETTERS : ∃ t, mg "LETTERS" = some (.str "abcdefghijklmnopqrstuvwxyz" t)
  i_LONGEST_NAME : ∃ t, mg "LONGEST_NAME" = some (.int 6 t)
  i_MOST_FINE : ∃ t, mg "MOST_FINE" = some (.int 1000 t)
  i_MOST_HOUSES : ∃ t, mg "MOST_HOUSES" = some (.int 8 t)
  m_SIZES : mg "SIZES" = some (.ref (He.ga K "SIZES"))
  t_SIZES : ∃ es n, KDict K w (He.ga K "SIZES") es n
  t_SIZES_rule : ∃ u, PySem.W.nsIn K (He.ga K "SIZES") "rule" = some (some u) ∧ RelV (.int 7) u
  t_SIZES_way : ∃ u, PySem.W.nsIn K (He.ga K "SIZES") "way" = some (some u) ∧ RelV (.int 4) u
  t_SIZES_cut : ∃ u, PySem.W.nsIn K (He.ga K "SIZES") "cut" = some (some u) ∧ RelV (.int 3) u
/-- the defs that make lambdas -/
def hlam : List (Str × Option Str) := [("law", none)]
theorem keep_of {K : PySem.W.Frag} {x q : Str} {ps : Arguments} {b : List Stmt} {sc : Scope} {dv : List V} {kw : List (Str × V)} {f : Addr} (h : ∃ fd, FunD K x q ps b sc dv kw f fd) : PySem.W.keepIn K (.ref f) = true := h.elim fun _ F => F.kp
theorem bb_isinstance : bootBuiltins "isinstance" = some (.builtin "isinstance") := by decide +kernel
theorem bb_int : bootBuiltins "int" = some (.type "int") := by decide +kernel
theorem bb_bool : bootBuiltins "bool" = some (.type "bool") := by decide +kernel
theorem bb_str : bootBuiltins "str" = some (.type "str") := by decide +kernel
theorem bb_list : bootBuiltins "list" = some (.type "list") := by decide +kernel
theorem bb_tuple : bootBuiltins "tuple" = some (.type "tuple") := by decide +kernel
theorem bb_dict : bootBuiltins "dict" = some (.type "dict") := by decide +kernel
theorem bb_len : bootBuiltins "len" = some (.builtin "len") := by decide +kernel
theorem bb_all : bootBuiltins "all" = some (.builtin "all") := by decide +kernel
theorem bb_any : bootBuiltins "any" = some (.builtin "any") := by decide +kernel
theorem bb_sorted : bootBuiltins "sorted" = some (.builtin "sorted") := by decide +kernel
theorem bb_min : bootBuiltins "min" = some (.builtin "min") := by decide +kernel
theorem bb_abs : bootBuiltins "abs" = some (.builtin "abs") := by decide +kernel
theorem bb_repr : bootBuiltins "repr" = some (.builtin "repr") := by decide +kernel
end Ws

set_option Elab.async false
set_option linter.all false
set_option maxRecDepth 100000
set_option maxHeartbeats 4000000
namespace Ws
open PySem PySem.Spec PyProof.Rows L2
/-- J yields the xs one behind another, as long as all but S stands -/
def Std (S : Addr → Prop) (J : It) (H : Hp) (xs : List V) : Prop :=
  ∀ H', Kp S H H' → ∀ i, (∀ v, xs[i]? = some v → J.go i H' ∧ ∀ x H2, J.yld i H' x H2 → H2 = H' ∧ x = v) ∧ (xs.length ≤ i → J.stop i H')
section
variable {S : Addr → Prop} {K : PySem.W.Frag} {H H1 : Hp} {a : Addr} {xs : List V} {J : It}
theorem sqL_kp (h : SqL K H a xs) (n : ¬ S a) (u : Kp S H H1) : SqL K H1 a xs := by
  rcases h with (h | ⟨o, h⟩) | h
  · exact .inl (.inl (u.keep _ _ h n))
  · exact .inl (.inr ⟨o, u.keep _ _ h n⟩)
  · exact .inr h
theorem sqT_kp (h : SqT K H a xs) (n : ¬ S a) (u : Kp S H H1) : SqT K H1 a xs := by
  rcases h with (h | ⟨o, h⟩) | h
  · exact .inl (.inl (u.keep _ _ h n))
  · exact .inl (.inr ⟨o, u.keep _ _ h n⟩)
  · exact .inr h
theorem sqL_ext (h : SqL K H a xs) (u : Ext H H1) : SqL K H1 a xs := sqL_kp (S := no) h (fun z => z) (.ext u)
theorem sqT_ext (h : SqT K H a xs) (u : Ext H H1) : SqT K H1 a xs := sqT_kp (S := no) h (fun z => z) (.ext u)
theorem Std.mono (st : Std S J H xs) (u : Kp S H H1) : Std S J H1 xs := fun H' v => st H' (u.trans v)
theorem std_list (h : SqL K H a xs) (n : ¬ S a) : Std S (Itl K a) H xs := fun H' u i => by
  have h' := sqL_kp h n u
  exact ⟨fun v e => ⟨⟨xs, v, h', e⟩, fun x H2 y => ⟨y.1, Option.some.inj ((y.2 xs h').symm.trans e)⟩⟩, fun le => ⟨xs, h', le⟩⟩
theorem std_tup (h : SqT K H a xs) (n : ¬ S a) : Std S (Itt K a) H xs := fun H' u i => by
  have h' := sqT_kp h n u
  exact ⟨fun v e => ⟨⟨xs, v, h', e⟩, fun x H2 y => ⟨y.1, Option.some.inj ((y.2 xs h').symm.trans e)⟩⟩, fun le => ⟨xs, h', le⟩⟩
theorem std_str {z : Str} : Std S (Its z) H (z.cps.toList.map fun c => V.str ⟨#[c]⟩) := fun H' u i => by
  refine ⟨fun v e => ?_, fun le => ?_⟩
  · rw [List.getElem?_map, Array.getElem?_toList] at e
    refine ⟨?_, fun x H2 y => ⟨y.1, ?_⟩⟩
    · show i < z.cps.size
      cases q : z.cps[i]? with
      | none => rw [q] at e; cases e
      | some c => exact (Array.getElem?_eq_some_iff.mp q).1
    · obtain ⟨_, c, q, rfl⟩ := y
      rw [q] at e
      exact Option.some.inj e
  · show z.cps.size ≤ i
    simpa using le
theorem std_range {lo : Int} {n : Nat} : Std S (Itr lo n) H ((List.range n).map fun i => V.int (lo + (i : Nat))) := fun H' u i => by
  refine ⟨fun v e => ?_, fun le => ?_⟩
  · rw [List.getElem?_map] at e
    cases q : (List.range n)[i]? with
    | none => rw [q] at e; cases e
    | some j =>
      rw [q] at e
      obtain ⟨h1, h2⟩ := List.getElem?_eq_some_iff.mp q
      rw [List.getElem_range] at h2
      subst h2
      exact ⟨(show i < n by simpa using h1), fun x H2 y => ⟨y.1, y.2.trans (Option.some.inj e)⟩⟩
  · show n ≤ i
    simpa using le
theorem std_keys {o : Obj} {kvs : List (Key × V)} (h : H a = some (.frz o (.dK kvs))) (n : ¬ S a) : Std S (Itk a o kvs) H (kvs.map fun kv => kV kv.1) := fun H' u i => by
  have h' := u.keep _ _ h n
  refine ⟨fun v e => ?_, fun le => ⟨h', by simpa using le⟩⟩
  rw [List.getElem?_map] at e
  cases q : kvs[i]? with
  | none => rw [q] at e; cases e
  | some p =>
    rw [q] at e
    refine ⟨⟨h', (List.getElem?_eq_some_iff.mp q).1⟩, fun x H2 y => ⟨y.1, ?_⟩⟩
    obtain ⟨_, k, w, e2, rfl⟩ := y
    rw [q] at e2
    cases e2
    exact Option.some.inj e
end
/-! ### comprehensions -/
theorem line1001 : (1001 : Nat) ≤ sizeLine := by rw [sizeLine_eq]; decide
section
variable {S : Addr → Prop} {J : It} {H0 H1 : Hp} {xs : List V} {g : TG} {tt : TT} {te tk : TE} {vs : List Nat} {σ : L2.St} {D : Addr} {Qd : Hp → Prop}
/-- Pv by the turn and the heap -/
theorem lc_std (st : Std S J H0 xs) (Pv : Nat → Hp → Prop) (h0 : Pv 0 (upd H1 D (.lst []))) (hk : ∀ i H, Pv i H → Kp S H0 H)
    (hs : ∀ i x H, xs[i]? = some x → Pv i H → g x (wipe σ vs) H fun σ2 H2 => wipe σ2 vs = wipe σ vs ∧ tt σ2 H2 fun b H3 =>
      if b = true then te σ2 H3 fun y H4 => ∃ acc, H4 D = some (.lst acc) ∧ acc.length < sizeLine ∧ Pv (i + 1) (upd H4 D (.lst (acc ++ [y]))) else Pv (i + 1) H3)
    (hd : ∀ H, Pv xs.length H → Qd H) :
    ∃ W : Nat → Nat → Hp → Prop, (∃ m, W 0 m (upd H1 D (.lst []))) ∧ ∀ i m H, W i m H →
      (J.stop i H ∧ Qd H) ∨ (J.go i H ∧ ∃ Nx : Hp → Prop, (∀ H', Nx H' → ∃ m', m' < m ∧ W (i + 1) m' H') ∧ ∀ x H', J.yld i H x H' → g x (wipe σ vs) H' fun σ2 H2 => wipe σ2 vs = wipe σ vs ∧ tt σ2 H2 fun b H3 =>
        if b = true then te σ2 H3 fun y H4 => ∃ acc, H4 D = some (.lst acc) ∧ acc.length < sizeLine ∧ Nx (upd H4 D (.lst (acc ++ [y]))) else Nx H3) := by
  refine ⟨fun i m H => m = xs.length - i ∧ i ≤ xs.length ∧ Pv i H, ⟨_, rfl, Nat.zero_le _, h0⟩, fun i m H ⟨em, le, h⟩ => ?_⟩
  obtain ⟨s1, s2⟩ := st H (hk _ _ h) i
  by_cases e : i = xs.length
  · exact .inl ⟨s2 (by omega), hd H (e ▸ h)⟩
  · have lt : i < xs.length := by omega
    obtain ⟨go, yl⟩ := s1 _ (List.getElem?_eq_getElem lt)
    refine .inr ⟨go, fun H' => Pv (i + 1) H', fun H' h' => ⟨_, by omega, rfl, by omega, h'⟩, fun x H' y => ?_⟩
    obtain ⟨rfl, rfl⟩ := yl x H' y
    exact hs i _ _ (List.getElem?_eq_getElem lt) h
/-- each item by itself, nothing changed: the block is handed what it may go on with -/
theorem lc_map (st : Std no J H1 xs) (hD : H1 D = none) (f : V → Option V) (hl : xs.length ≤ 1000)
    (hs : ∀ x H (Nx : Hp → Prop), x ∈ xs → Ext H1 H →
      (∀ y H4, Ext H H4 → f x = some y → ∃ acc, H4 D = some (.lst acc) ∧ acc.length < sizeLine ∧ Nx (upd H4 D (.lst (acc ++ [y])))) → (∀ H3, Ext H H3 → f x = none → Nx H3) →
      g x (wipe σ vs) H fun σ2 H2 => wipe σ2 vs = wipe σ vs ∧ tt σ2 H2 fun b H3 =>
        if b = true then te σ2 H3 fun y H4 => ∃ acc, H4 D = some (.lst acc) ∧ acc.length < sizeLine ∧ Nx (upd H4 D (.lst (acc ++ [y]))) else Nx H3)
    (hd : ∀ H, Ext H1 H → H D = some (.lst (xs.filterMap f)) → Qd H) :
    ∃ W : Nat → Nat → Hp → Prop, (∃ m, W 0 m (upd H1 D (.lst []))) ∧ ∀ i m H, W i m H →
      (J.stop i H ∧ Qd H) ∨ (J.go i H ∧ ∃ Nx : Hp → Prop, (∀ H', Nx H' → ∃ m', m' < m ∧ W (i + 1) m' H') ∧ ∀ x H', J.yld i H x H' → g x (wipe σ vs) H' fun σ2 H2 => wipe σ2 vs = wipe σ vs ∧ tt σ2 H2 fun b H3 =>
        if b = true then te σ2 H3 fun y H4 => ∃ acc, H4 D = some (.lst acc) ∧ acc.length < sizeLine ∧ Nx (upd H4 D (.lst (acc ++ [y]))) else Nx H3) := by
  refine lc_std st (fun i H => Ext H1 H ∧ H D = some (.lst ((xs.take i).filterMap f))) ⟨ext_new hD, upd_same⟩ (fun i H h => .ext h.1) (fun i x H e ⟨ex, eD⟩ => ?_) (fun H h => ?_)
  · have tk1 : xs.take (i + 1) = xs.take i ++ [x] := by rw [List.take_succ, e]; rfl
    refine hs x H _ (List.mem_of_getElem? e) ex (fun y H4 e4 hf => ?_) fun H3 e3 hf => ⟨ex.trans e3, ?_⟩
    · have len : ((xs.take i).filterMap f).length ≤ 1000 := Nat.le_trans (List.length_filterMap_le _ _) (Nat.le_trans (List.length_take_le' _ _) hl)
      refine ⟨_, e4 _ _ eD, Nat.lt_of_le_of_lt len line1001, fun a o ha => ?_, ?_⟩
      · have ne : a ≠ D := ne_of_none ha hD
        rw [upd_ne ne]
        exact e4 _ _ (ex _ _ ha)
      · rw [upd_same, tk1, List.filterMap_append]
        simp [hf]
    · rw [e3 _ _ eD, tk1, List.filterMap_append]
      simp [hf]
  · refine hd H h.1 ?_
    rw [h.2, List.take_length]
/-- the same with a dict that is made -/
theorem dc_std (st : Std S J H0 xs) (Pv : Nat → Hp → Prop) (h0 : Pv 0 (upd H1 D (.dK []))) (hk : ∀ i H, Pv i H → Kp S H0 H)
    (hs : ∀ i x H, xs[i]? = some x → Pv i H → g x (wipe σ vs) H fun σ2 H2 => wipe σ2 vs = wipe σ vs ∧ tt σ2 H2 fun b H3 =>
      if b = true then tk σ2 H3 fun y H4 => te σ2 H4 fun z H5 => ∃ kvs k, y = kV k ∧ H5 D = some (.dK kvs) ∧ kvs.length < sizeLine ∧ Pv (i + 1) (upd H5 D (.dK (putK kvs k z))) else Pv (i + 1) H3)
    (hd : ∀ H, Pv xs.length H → Qd H) :
    ∃ W : Nat → Nat → Hp → Prop, (∃ m, W 0 m (upd H1 D (.dK []))) ∧ ∀ i m H, W i m H →
      (J.stop i H ∧ Qd H) ∨ (J.go i H ∧ ∃ Nx : Hp → Prop, (∀ H', Nx H' → ∃ m', m' < m ∧ W (i + 1) m' H') ∧ ∀ x H', J.yld i H x H' → g x (wipe σ vs) H' fun σ2 H2 => wipe σ2 vs = wipe σ vs ∧ tt σ2 H2 fun b H3 =>
        if b = true then tk σ2 H3 fun y H4 => te σ2 H4 fun z H5 => ∃ kvs k, y = kV k ∧ H5 D = some (.dK kvs) ∧ kvs.length < sizeLine ∧ Nx (upd H5 D (.dK (putK kvs k z))) else Nx H3) := by
  refine ⟨fun i m H => m = xs.length - i ∧ i ≤ xs.length ∧ Pv i H, ⟨_, rfl, Nat.zero_le _, h0⟩, fun i m H ⟨em, le, h⟩ => ?_⟩
  obtain ⟨s1, s2⟩ := st H (hk _ _ h) i
  by_cases e : i = xs.length
  · exact .inl ⟨s2 (by omega), hd H (e ▸ h)⟩
  · have lt : i < xs.length := by omega
    obtain ⟨go, yl⟩ := s1 _ (List.getElem?_eq_getElem lt)
    refine .inr ⟨go, fun H' => Pv (i + 1) H', fun H' h' => ⟨_, by omega, rfl, by omega, h'⟩, fun x H' y => ?_⟩
    obtain ⟨rfl, rfl⟩ := yl x H' y
    exact hs i _ _ (List.getElem?_eq_getElem lt) h
/-- keys made so far, from pairs -/
def putAll (kvs : List (Key × V)) (ps : List (Key × V)) : List (Key × V) := ps.foldl (fun a p => putK a p.1 p.2) kvs
theorem dc_map (st : Std no J H1 xs) (hD : H1 D = none) (f : V → Key × V) (hl : xs.length ≤ 1000)
    (hs : ∀ x H (Nx : Hp → Prop), x ∈ xs → Ext H1 H →
      (∀ y z H5, Ext H H5 → y = kV (f x).1 → z = (f x).2 → ∃ kvs k, y = kV k ∧ H5 D = some (.dK kvs) ∧ kvs.length < sizeLine ∧ Nx (upd H5 D (.dK (putK kvs k z)))) →
      g x (wipe σ vs) H fun σ2 H2 => wipe σ2 vs = wipe σ vs ∧ tt σ2 H2 fun b H3 =>
        if b = true then tk σ2 H3 fun y H4 => te σ2 H4 fun z H5 => ∃ kvs k, y = kV k ∧ H5 D = some (.dK kvs) ∧ kvs.length < sizeLine ∧ Nx (upd H5 D (.dK (putK kvs k z))) else Nx H3)
    (hd : ∀ H, Ext H1 H → H D = some (.dK (putAll [] (xs.map f))) → Qd H) :
    ∃ W : Nat → Nat → Hp → Prop, (∃ m, W 0 m (upd H1 D (.dK []))) ∧ ∀ i m H, W i m H →
      (J.stop i H ∧ Qd H) ∨ (J.go i H ∧ ∃ Nx : Hp → Prop, (∀ H', Nx H' → ∃ m', m' < m ∧ W (i + 1) m' H') ∧ ∀ x H', J.yld i H x H' → g x (wipe σ vs) H' fun σ2 H2 => wipe σ2 vs = wipe σ vs ∧ tt σ2 H2 fun b H3 =>
        if b = true then tk σ2 H3 fun y H4 => te σ2 H4 fun z H5 => ∃ kvs k, y = kV k ∧ H5 D = some (.dK kvs) ∧ kvs.length < sizeLine ∧ Nx (upd H5 D (.dK (putK kvs k z))) else Nx H3) := by
  have len : ∀ (ps kvs : List (Key × V)), (putAll kvs ps).length ≤ kvs.length + ps.length := by
    intro ps
    induction ps with
    | nil => intro kvs; exact Nat.le_refl _
    | cons p r ih =>
      intro kvs
      have h1 := ih (putK kvs p.1 p.2)
      have h2 := length_putK kvs p.1 p.2
      show (putAll (putK kvs p.1 p.2) r).length ≤ _
      simp only [List.length_cons]
      omega
  refine dc_std st (fun i H => Ext H1 H ∧ H D = some (.dK (putAll [] ((xs.take i).map f)))) ⟨ext_new hD, upd_same⟩ (fun i H h => .ext h.1) (fun i x H e ⟨ex, eD⟩ => ?_) (fun H h => ?_)
  · have tk1 : xs.take (i + 1) = xs.take i ++ [x] := by rw [List.take_succ, e]; rfl
    refine hs x H _ (List.mem_of_getElem? e) ex (fun y z H5 e5 hy hz => ?_)
    have l1 := len ((xs.take i).map f) []
    rw [List.length_map, List.length_nil] at l1
    have l2 := List.length_take_le' i xs
    refine ⟨_, (f x).1, hy, e5 _ _ eD, Nat.lt_of_le_of_lt (show _ ≤ 1000 by omega) line1001, fun a o ha => ?_, ?_⟩
    · have ne : a ≠ D := ne_of_none ha hD
      rw [upd_ne ne]
      exact e5 _ _ (ex _ _ ha)
    · rw [upd_same, tk1, List.map_append, hz]
      simp [putAll, List.foldl_append]
  · refine hd H h.1 ?_
    rw [h.2, List.take_length]
end
/-! ### a list or a tuple -/
def iSeq (K : PySem.W.Frag) (tl : TE) : TI := fun σ H R => iList K tl σ H R ∨ iTup K tl σ H R
theorem pi_seq {X : Cx} {tg l : PySem.Expr} {tl : TE} (hl : PE X l tl) : PI X tg l (iSeq X.K tl) :=
  ⟨fun pins s σ H R I h => h.elim (fun h => (pi_list (tg := tg) hl).run pins s σ H R I h) fun h => (pi_tup (tg := tg) hl).run pins s σ H R I h⟩
/-- tracked, perhaps locked -/
def Sq (_ : PySem.W.Frag) (H : Hp) (a : Addr) (xs : List V) : Prop := Rd H a (.lst xs) ∨ Rd H a (.tup xs)
section
variable {S : Addr → Prop} {K : PySem.W.Frag} {H H1 : Hp} {a : Addr} {xs : List V} {i : Nat} {σ : L2.St} {R : It → Hp → Prop}
theorem rd_kp {o : HO} (h : Rd H a o) (n : ¬ S a) (u : Kp S H H1) : Rd H1 a o := h.imp (fun h => u.keep _ _ h n) fun ⟨b, h⟩ => ⟨b, u.keep _ _ h n⟩
theorem sq_s (h : Sq K H a xs) : SqL K H a xs ∨ SqT K H a xs := h.imp .inl .inl
theorem sq_kp (h : Sq K H a xs) (n : ¬ S a) (u : Kp S H H1) : Sq K H1 a xs := h.imp (fun h => rd_kp h n u) fun h => rd_kp h n u
theorem sq_ext (h : Sq K H a xs) (u : Ext H H1) : Sq K H1 a xs := sq_kp (S := no) h (fun z => z) (.ext u)
/-- no instance -/
theorem sq_ne {C dx o : Addr} {fs : List (Str × V)} (h : Sq K H a xs) (ho : H o = some (.ins C dx fs)) : a ≠ o := fun z => by
  subst z
  rcases h with (h | ⟨_, h⟩) | (h | ⟨_, h⟩) <;> (rw [ho] at h; cases h)
theorem seq_go (hv : σ[i]? = some (some (.ref a))) (h : Sq K H a xs) (n : ¬ S a) (go : ∀ J, Std S J H xs → R J H) : iSeq K (tVar i) σ H R := by
  rcases sq_s (K := K) h with h | h
  · exact .inl ⟨_, hv, a, rfl, ⟨xs, h⟩, go _ (std_list h n)⟩
  · exact .inr ⟨_, hv, a, rfl, ⟨xs, h⟩, go _ (std_tup h n)⟩
theorem sq_ty (h : Sq K H a xs) : TyX K H (.ref a) (.type "list") ∨ TyX K H (.ref a) (.type "tuple") := by
  rcases h with (h | ⟨o, h⟩) | (h | ⟨o, h⟩)
  · exact .inl (.base (.lst h))
  · exact .inl (.base (.frz h))
  · exact .inr (.base (.tup h))
  · exact .inr (.fTuple h)
/-- isinstance(x, (list, tuple)) of such a thing -/
theorem isi_seq {p : Addr} (h : Sq K H a xs) (hp : H p = none) : ∃ t us, Paired ClsV [.ty "list", .ty "tuple"] us ∧ TyX K (upd H p (.tup [.ty "list", .ty "tuple"])) (.ref a) t ∧ PySem.W.kitAny K t us = some true := by
  rcases sq_ty (sq_ext h (ext_new hp)) with t | t
  · exact ⟨_, [.type "list", .type "tuple"], .cons (.ty _) (.cons (.ty _) .nil), t, kitAny_cons (b := true) (kit_ty (by decide +kernel)) (fun z => nomatch z) fun _ => rfl⟩
  · exact ⟨_, [.type "list", .type "tuple"], .cons (.ty _) (.cons (.ty _) .nil), t, kitAny_cons (b := false) (kit_ty (by decide +kernel)) (fun _ => kitAny_cons (b := true) (kit_ty (by decide +kernel)) (fun z => nomatch z) fun _ => rfl) (fun z => nomatch z)⟩
theorem sq_lenV (h : Sq K H a xs) : LenV K (.ref a) H xs.length := by
  rcases sq_s (K := K) h with h | h
  · exact .inl ⟨_, h, rfl⟩
  · exact .inr ⟨_, h, rfl⟩
end
/-! ### loops -/
theorem for_std {S : Addr → Prop} {J : It} {H0 : Hp} {xs : List V} {g : TG} {tb : TS} {D : Ends} {σ : L2.St} {H : Hp} (st : Std S J H0 xs) (Pv : Nat → L2.St → Hp → Prop) (h0 : Pv 0 σ H) (hk : ∀ i σ H, Pv i σ H → Kp S H0 H)
    (hs : ∀ i x σ H, xs[i]? = some x → Pv i σ H → g x σ H fun σ2 H2 => tb { D with nx := Pv (i + 1), ct := Pv (i + 1), bk := D.nx } σ2 H2) (hd : ∀ σ H, Pv xs.length σ H → D.nx σ H) :
    ∃ W : Nat → Nat → L2.St → Hp → Prop, (∃ m, W 0 m σ H) ∧ ∀ i m σ H, W i m σ H →
      (J.stop i H ∧ D.nx σ H) ∨ (J.go i H ∧ ∃ N : L2.St → Hp → Prop, (∀ σ' H', N σ' H' → ∃ m', m' < m ∧ W (i + 1) m' σ' H') ∧ ∀ x H', J.yld i H x H' → g x σ H' fun σ2 H2 => tb { D with nx := N, ct := N, bk := D.nx } σ2 H2) := by
  refine ⟨fun i m σ H => m = xs.length - i ∧ i ≤ xs.length ∧ Pv i σ H, ⟨_, rfl, Nat.zero_le _, h0⟩, fun i m σ H ⟨em, le, h⟩ => ?_⟩
  obtain ⟨s1, s2⟩ := st H (hk _ _ _ h) i
  by_cases e : i = xs.length
  · exact .inl ⟨s2 (by omega), hd σ H (e ▸ h)⟩
  · have lt : i < xs.length := by omega
    obtain ⟨go, yl⟩ := s1 _ (List.getElem?_eq_getElem lt)
    refine .inr ⟨go, fun σ' H' => Pv (i + 1) σ' H', fun σ' H' h' => ⟨_, by omega, rfl, by omega, h'⟩, fun x H' y => ?_⟩
    obtain ⟨rfl, rfl⟩ := yl x H' y
    exact hs i _ σ _ (List.getElem?_eq_getElem lt) h
/-! ### the rules with the written part named -/
def rLenK (K : PySem.W.Frag) : List V → Hp → VK → Prop := fun xs H Q => ∃ x n, xs = [x] ∧ LenV K x H n ∧ Q (.int n) H
def rTupOf (K : PySem.W.Frag) : List V → Hp → VK → Prop := fun xs H Q => ∃ p ys, xs = [.ref p] ∧ ((SqL K H p ys ∧ ∀ l, H l = none → Q (.ref l) (upd H l (.tup ys))) ∨ (SqT K H p ys ∧ Q (.ref p) H))
def rLstOf (K : PySem.W.Frag) : List V → Hp → VK → Prop := fun xs H Q => ∃ p ys, xs = [.ref p] ∧ (SqL K H p ys ∨ SqT K H p ys) ∧ ∀ l, H l = none → Q (.ref l) (upd H l (.lst ys))
def rDctP (K : PySem.W.Frag) : List V → Hp → VK → Prop := fun xs H Q => ∃ (a : Addr) (ps : List Addr) (kvs : List (Key × V)), xs = [.ref a] ∧ SqL K H a (ps.map V.ref) ∧ Paired (fun p kv => SqT K H p [kV kv.1, kv.2]) ps kvs ∧
    ∀ p, H p = none → Q (.ref p) (upd H p (.dK (mergeK [] kvs)))
def rJoin (K : PySem.W.Frag) : V → List V → Hp → VK → Prop := fun x xs H Q => ∃ (a : Str) (p : Addr) (ys : List Str), x = .str a ∧ xs = [.ref p] ∧ (SqL K H p (ys.map V.str) ∨ SqT K H p (ys.map V.str)) ∧ (ys.map (·.length)).sum + ys.length * a.length ≤ 16777216 ∧ Q (.str (Txt.join a ys)) H
section
variable {X : Cx} {K : PySem.W.Frag} {o e l tg : PySem.Expr} {es : List PySem.Expr} {f name : Str} {ta te tl to : TE} {t : TA} {pos p apos cpos : Pos}
theorem call_lenK : CallR X (.builtin "len") (rLenK X.K) := call_len
theorem call_tupK : CallR X (.type "tuple") (rTupOf X.K) := call_tuple_of
theorem call_lstK : CallR X (.type "list") (rLstOf X.K) := call_list_of
theorem call_dctP (hc : X.calm = true) : CallR X (.type "dict") (rDctP X.K) := call_dictP hc
theorem pe_fldK (hK : X.K = K) (he : PE X e ta) (hb : attributeBase e f X.env (eval e X.env) = eval e X.env) : PE X (.Attribute e f pos) (tFld K ta f) := by subst hK; exact pe_fld he hb
theorem pi_listK (hK : X.K = K) (hl : PE X l tl) : PI X tg l (iList K tl) := by subst hK; exact pi_list hl
theorem pi_tupK (hK : X.K = K) (hl : PE X l tl) : PI X tg l (iTup K tl) := by subst hK; exact pi_tup hl
theorem pi_seqK (hK : X.K = K) (hl : PE X l tl) : PI X tg l (iSeq K tl) := by subst hK; exact pi_seq hl
theorem pg_tupK {k : Nat} {t : TGs} {n : Nat} (hK : X.K = K) (hc : X.calm = true) (h : PGs X es t) (hn : (assignEach es X.env).length = n := by rfl) (hst : (assignEach es X.env).findIdx? (·.1) = none := by rfl) : PG X (.Tuple es k pos) (gTup K n t) := by
  subst hK; exact pg_tup hc h hn hst
theorem pe_bmK {T id : String} {r : V → List V → Hp → VK → Prop} (hK : X.K = K) (pa : PlainAttrs T) (slot : Slot T name id) (hty : typeOf (.builtin id) = pure (.type "method_descriptor")) (hm : MtR X id r) (ho : PE X o to) (ha : PA X (e :: es) t)
    (hbase : attributeBase o name X.env (eval o X.env) = eval o X.env := by rfl)
    (hfew : ((backTo cpos (starEach (e :: es) X.env)).all (fun x => !x.1) && (backToKw cpos (keywordEach [] X.env)).all (fun x => x.1.isSome) && decide ((e :: es).length + ([] : List Keyword).length + (if ([] : List Keyword).isEmpty then 0 else 1) < 30)) = true := by rfl)
    (hline : (apos.endLine == cpos.line) = true := by rfl) (hs : starEach (e :: es) X.env = (false, eval e X.env) :: starEach es X.env := by rfl) (hplain : (backTo cpos (starEach es X.env)).any (·.1) = false := by rfl) :
    PE X (.Call (.Attribute o name apos) (e :: es) [] cpos) (tBM K T r to t) := by subst hK; exact pe_bm pa slot hty hm ho ha hbase hfew hline hs hplain
theorem pa_starK (hK : X.K = K) (he : PE X e te) (hr : PA X es t) (hs : starEach (.Starred e p :: es) X.env = (true, eval e X.env) :: starEach es X.env := by rfl) : PA X (.Starred e p :: es) (StX.tStar K te t) := by subst hK; exact StX.pa_star he hr hs
theorem pe_joinK (hK : X.K = K) (ho : PE X o to) (he : PE X e te) (hs : starEach [e] X.env = [(false, eval e X.env)] := by rfl) (hbase : attributeBase o "join" X.env (eval o X.env) = eval o X.env := by rfl) (hline : (apos.endLine == pos.line) = true := by rfl) :
    PE X (.Call (.Attribute o "join" apos) [e] [] pos) (tM1 (rJoin K) to te) := by
  subst hK
  exact pe_join ho he hs hbase hline
end
end Ws

set_option Elab.async false
set_option linter.all false
set_option maxRecDepth 100000
set_option maxHeartbeats 4000000
namespace Ws
open PySem PySem.Spec PyProof.Rows L2
/-- n values and the keywords ks bring the parameters in their order -/
def FnRK (P : Program) (w : World) (K : PySem.W.Frag) (mg : Str → Option Value) (base : Heap) (CX : CXT) (k : Nat) (f : Addr) (n : Nat) (ks : List Str) (sp : Sp) : Prop :=
  ∀ (A : Around) (outer : List Env) (s : Shared) (H : Hp) (us ws : List Value) (vs zs : List V) (Q : VK) (E : XK), Room k A → Env0 P w K mg base A outer s H → Vals vs us → Vals zs ws → vs.length = n → zs.length = ks.length → sp (vs ++ zs) H Q E →
    codeAny (model P w) A (.call (.ref f) ⟨us, ks.zip ws⟩) (CR CX outer P w H s Q E) s
section
variable {P : Program} {w : World} {K : PySem.W.Frag} {mg : Str → Option Value} {base : Heap} {CX : CXT} {k n : Nat} {f : Addr} {fd : FuncData} {ps ks : List Str} {sp : Sp} {x qual : Str} {params : Arguments} {body : List Stmt} {scope : Scope}
theorem rawK (F : FnOk P w K mg base CX k f fd ps sp) (B : ∀ (s : Shared) (us ws : List Value), K.In s.heap → us.length = n → ws.length = ks.length → BindsTo s fd ⟨us, ks.zip ws⟩ (ps.zip (us ++ ws))) : FnRK P w K mg base CX k f n ks sp := by
  intro A outer s H us ws vs zs Q E hr e0 r rz l1 l2 h
  exact F.run A outer s H ⟨us, ks.zip ws⟩ (us ++ ws) (vs ++ zs) Q E hr e0 (B s us ws (e0.mod.kin.keeps fun b o e => (e0.bs b o e).1) (r.length.symm.trans l1) (rz.length.symm.trans l2)) (r.append rz) h
/-- keywords for the parameters behind the first n, no defaults -/
theorem bindsK0 {kws : List (Str × V)} (F : FunD K x qual params body scope [] kws f fd)
    (h : ∀ (kV doc pm : Value) (an : Option Addr) (cdv ct : Value) (us ws : List Value), us.length = n → ws.length = ks.length → bindArgs (PySem.W.fnOf x qual params body scope .none kV doc pm an cdv ct) ⟨us, ks.zip ws⟩ = pure (ps.zip (us ++ ws)))
    (s : Shared) (us ws : List Value) (_ : K.In s.heap) (l1 : us.length = n) (l2 : ws.length = ks.length) : BindsTo s fd ⟨us, ks.zip ws⟩ (ps.zip (us ++ ws)) := by
  obtain ⟨oc, od, dV, kV, doc, pm, an, cdv, ct, osl, rfl, _, _, hd, _⟩ := F.ex
  rcases hd with ⟨_, rfl⟩ | ⟨z, _⟩
  · exact BindsTo.of_looks fun M => PySem.W.Looks.of_pure (h kV doc pm an cdv ct us ws l1 l2)
  · exact absurd rfl z
theorem bindsKD {dvs : List V} {kws : List (Str × V)} (F : FunD K x qual params body scope dvs kws f fd) (hd : dvs ≠ [])
    (h : ∀ (T : Addr) (kV doc pm : Value) (an : Option Addr) (cdv ct : Value) (us its ws : List Value), us.length = n → its.length = dvs.length → ws.length = ks.length →
      ∃ k, bindArgs (PySem.W.fnOf x qual params body scope (.ref T) kV doc pm an cdv ct) ⟨us, ks.zip ws⟩ = seqItems? (.ref T) >>= k ∧ k (some its.toArray) = pure (ps.zip (us ++ ws)))
    (s : Shared) (us ws : List Value) (X : K.In s.heap) (l1 : us.length = n) (l2 : ws.length = ks.length) : BindsTo s fd ⟨us, ks.zip ws⟩ (ps.zip (us ++ ws)) := by
  obtain ⟨its, B⟩ := F.kbindsD (ps := ps) n ks (fun us _ ws => us ++ ws) hd (fun r _ rz => r.append rz) h
  exact B.to s us ws X l1 l2
end
/-- C(e, .., k = v, ..) -/
def tMakeK (C : Addr) (n m : Nat) (sp : Sp) (E : XK) (t tk : TA) : TE := fun σ H Q => t σ H fun vs H1 => tk σ H1 fun zs H2 => vs.length = n ∧ zs.length = m ∧
  ∀ x dx, H2 x = none → H2 dx = none → dx ≠ x → sp (.ref x :: (vs ++ zs)) (upd (upd H2 dx (.own x)) x (.ins C dx [])) (fun v H3 => v = .non ∧ Q (.ref x) H3) E
/-- o.m(k = v, ..) -/
def tMethK (C : Addr) (m : Str) (l : Nat) (sp : Sp) (E : XK) (ta : TE) (tk : TA) : TE := fun σ H Q => ta σ H fun x H1 => ∃ a dx fs, x = .ref a ∧ H1 a = some (.ins C dx fs) ∧ fs.lookup m = none ∧
  tk σ H1 fun zs H2 => zs.length = l ∧ sp (.ref a :: zs) H2 Q E
section
variable {X : Cx} {CX : CXT} {k n : Nat} {f C : Addr} {ks : List Str} {sp : Sp} {E : XK} {x m : Str} {p pos apos : Pos} {e o : PySem.Expr} {es : List PySem.Expr} {kws : List Keyword} {ta : TE} {t tk : TA}
theorem run_makeK {pins : List (Addr × Obj)} {σ : L2.St} {H : Hp} {s : Shared} {Q : VK} {us ws : List Value} {vs zs : List V} (M : Mk X.K C f) (F : FnRK X.prog X.w X.K X.mg X.base CX k f (n + 1) ks sp) (hr : Room (k + 1) X.A)
    (hx : Passes CX X E) (I : Inv X pins σ H s) (r : Vals vs us) (rz : Vals zs ws) (l1 : vs.length = n) (l2 : zs.length = ks.length)
    (h : ∀ x dx, H x = none → H dx = none → dx ≠ x → sp (.ref x :: (vs ++ zs)) (upd (upd H dx (.own x)) x (.ins C dx [])) (fun v H2 => v = .non ∧ Q (.ref x) H2) E) :
    wpAny (model X.prog X.w) X.A (call (.ref C) us (ks.zip ws)) (EP X pins σ Q) X.xe s := by
  have hq := h (s.heap.objs.size + 1) s.heap.objs.size (I.hok.fresh (Nat.le_succ _)) (I.hok.fresh (Nat.le_refl _)) (Nat.ne_of_lt (Nat.lt_succ_self _))
  have I2 := Inv.made (C := C) I
  have q1 : Vals (V.ref (s.heap.objs.size + 1) :: vs) (Value.ref (s.heap.objs.size + 1) :: us) := .cons (rr _) r
  refine wpAny_call (make_map (f := f) I.kIn M.makes M.init (beq_iff_eq.mp M.fn) (codeAny_mono (F _ X.stack _ _ _ ws _ zs _ E (hr.make C us (ks.zip ws)) (I2.env0.make C us (ks.zip ws)) q1 rz (by simp [l1]) l2 hq) fun r s' hq' => ?_))
  match r, hq' with
  | .error e, hq' => exact hx pins σ _ _ e s' I2 hq'
  | .ok (.ret u), hq' =>
    obtain ⟨v, H', I3, rv, ev, q3⟩ := I2.after hq'
    subst ev
    exact ⟨rv, ⟨V.ref (s.heap.objs.size + 1), H', I3, rfl, q3⟩⟩
  | .ok .next, hq' => exact False.elim hq'
  | .ok .brk, hq' => exact False.elim hq'
  | .ok .cont, hq' => exact False.elim hq'
theorem pe_makeKw (M : Mk X.K C f) (F : FnRK X.prog X.w X.K X.mg X.base CX k f (n + 1) ks sp) (hr : Room (k + 1) X.A) (hg : Gl X x) (hm : X.mg x = some (.ref C)) (hx : Passes CX X E)
    (ha : PA X (e :: es) t) (hkw : PK X kws tk) (hall : (backToKw pos (keywordEach kws X.env)).all (·.1.isSome) = true := by rfl) (hks : (backToKw pos (keywordEach kws X.env)).filterMap (·.1) = ks := by rfl)
    (hdb : (x == ("__debug__" : Str)) = false := by decide) (he : starEach (e :: es) X.env = (false, eval e X.env) :: starEach es X.env := by rfl)
    (hpl : ((backTo pos (starEach (e :: es) X.env)).any (·.1) || (backToKw pos (keywordEach kws X.env)).any (·.1.isNone)) = false := by rfl) :
    PE X (.Call (.Name x p) (e :: es) kws pos) (tMakeK C n ks.length sp E t tk) := by
  constructor
  intro pins s σ H Q I h
  refine wpAny_Call_Name_kw (ld_glob I hg hm (PySem.W.callWith_KW (h₀ := X.base) I.ok.mod.kin M.kp hall (thn (ha.run pos pins s σ H _ I h) fun us s1 ⟨vs, H1, I1, r, q⟩ => ?_) hpl he) hdb)
  refine thn (hkw.run pos pins s1 σ H1 _ I1 q) fun ws s2 ⟨zs, H2, I2, rz, l1, l2, q2⟩ => ⟨I2.kIn, ?_⟩
  rw [hks]
  exact run_makeK M F hr hx I2 r rz l1 l2 q2
theorem pe_makeK0 (M : Mk X.K C f) (F : FnRK X.prog X.w X.K X.mg X.base CX k f 1 ks sp) (hr : Room (k + 1) X.A) (hg : Gl X x) (hm : X.mg x = some (.ref C)) (hx : Passes CX X E)
    (hkw : PK X kws tk) (hall : (backToKw pos (keywordEach kws X.env)).all (·.1.isSome) = true := by rfl) (hks : (backToKw pos (keywordEach kws X.env)).filterMap (·.1) = ks := by rfl)
    (hdb : (x == ("__debug__" : Str)) = false := by decide) (hpl : ((backTo pos (starEach [] X.env)).any (·.1) || (backToKw pos (keywordEach kws X.env)).any (·.1.isNone)) = false := by rfl) :
    PE X (.Call (.Name x p) [] kws pos) (tMakeK C 0 ks.length sp E tNil tk) := by
  constructor
  intro pins s σ H Q I h
  refine wpAny_Call_Name_kw (ld_glob I hg hm (PySem.W.callWith_KW0 (h₀ := X.base) I.ok.mod.kin M.kp hall ?_ hpl) hdb)
  refine thn (hkw.run pos pins s σ H _ I h) fun ws s2 ⟨zs, H2, I2, rz, l1, l2, q2⟩ => ⟨I2.kIn, ?_⟩
  rw [hks]
  exact run_makeK (us := []) (vs := []) M F hr hx I2 .nil rz rfl l2 q2
theorem pe_methK1 {pl : Sem Bool} (he : PE X o ta) (c : Cls X.K C) (hm : Meth X.K C m f) (F : FnRK X.prog X.w X.K X.mg X.base CX k f 1 ks sp) (hr : Room k X.A) (hx : Passes CX X E) (hkw : PK X kws tk)
    (hall : (backToKw pos (keywordEach kws X.env)).all (·.1.isSome) = true := by rfl) (hks : (backToKw pos (keywordEach kws X.env)).filterMap (·.1) = ks := by rfl)
    (hpl : ((backTo pos (starEach [] X.env)).any (·.1) || (backToKw pos (keywordEach kws X.env)).any (·.1.isNone)) = false := by rfl)
    (ht : eval (.Call (.Attribute o m apos) [] kws pos) X.env = (do
      let ov ← eval o X.env
      standAt apos.atName
      let (f, first) ← holding [ov] (getMethod ov m pl)
      callWith pos f first (backTo pos (starEach [] X.env)) (backToKw pos (keywordEach kws X.env))) := by rfl) :
    PE X (.Call (.Attribute o m apos) [] kws pos) (tMethK C m ks.length sp E ta tk) := by
  constructor
  intro pins s σ H Q I h
  apply PySem.W.methodCall_KW (pl := pl) ?_ ht
  refine thn (he.run pins s σ H _ I h) fun u s1 ⟨x, H1, I1, rx, a, dx, fs, ex, ea, l, q⟩ => ?_
  subst ex
  cases (show u = Value.ref a from rx)
  refine getmeth_ok I1 ea c hm l ?_
  refine PySem.W.callWith_KW0 (first := [.ref a]) (h₀ := X.base) I.ok.mod.kin hm.kp hall ?_ hpl
  refine thn (hkw.run pos pins s1 σ H1 _ I1 q) fun ws s2 ⟨zs, H2, I2, rz, l2, q2⟩ => ⟨I2.kIn, ?_⟩
  rw [hks]
  apply wpAny_call
  refine codeAny_mono (F X.A X.stack s2 H2 [.ref a] ws [.ref a] zs Q E hr I2.env0 (.cons (rr a) .nil) rz rfl l2 q2) fun r s' hq => ?_
  match r, hq with
  | .error e, hq => exact hx pins σ H2 s2 e s' I2 hq
  | .ok (.ret u), hq => exact I2.after hq
  | .ok .next, hq => exact False.elim hq
  | .ok .brk, hq => exact False.elim hq
  | .ok .cont, hq => exact False.elim hq
end
end Ws

set_option Elab.async false
set_option linter.all false
set_option maxRecDepth 100000
set_option maxHeartbeats 4000000
namespace Ws
open PySem PySem.Spec PyProof.Rows L2
/-- at a: an exception of the class cls, its dict d -/
def ExV (a : Addr) (cls : Value) (d : Option Addr) : HO := .ext fun h => ∃ (oe : Obj) (vs : Array Value), h.get? a = some oe ∧ Zc cls d oe ∧ oe.data = .fields vs
theorem exV_tbl {a : Addr} {cls : Value} {d : Option Addr} (ps : Array Value) : ExV a cls d ≠ .tbl ps := fun z => by
  unfold ExV at z
  cases z
section
variable {X : Cx} {pins : List (Addr × Obj)} {σ : L2.St} {H : Hp} {s : Shared}
/-- a pinned exception, new to the def, is tracked from now on -/
theorem track {a : Addr} {oe : Obj} {vs : Array Value} {cls : Value} {d : Option Addr} (I : Inv X ((a, oe) :: pins) σ H s) (hz : Zc cls d oe) (hv : oe.data = .fields vs)
    (new : X.s_0.heap.get? a = none) (hp : ∀ p ∈ X.pn ++ pins, p.1 ≠ a) : Inv X pins σ (upd H a (ExV a cls d)) s := by
  obtain ⟨at_, na, nl, nf, nc⟩ := I.pin (a, oe) (List.mem_append_right _ List.mem_cons_self)
  have far : ∀ {b u}, H b = some u → b ≠ a := fun e z => by rw [z, na] at e; cases e
  have old : ∀ {b o}, X.s_0.heap.get? b = some o → b ≠ a := fun e z => by rw [z, new] at e; cases e
  constructor
  · exact I.ok
  · exact I.os
  · exact I.bare
  · refine ⟨I.base.keep, I.base.slot, fun b o e n q => ?_, I.base.there, fun b xs e => ?_, fun b o u e => ?_, fun b ps e => ?_⟩
    · rw [upd_ne (old e)]; exact I.base.free b o e n q
    · have := I.base.tups b xs e
      rw [upd_ne (far this)]; exact this
    · have := I.base.frzs b o u e
      rw [upd_ne (far this)]; exact this
    · obtain ⟨m, q⟩ := I.base.tbls b ps e
      exact ⟨m, by rw [upd_ne (far q)]; exact q⟩
  · exact I.loc
  · exact I.cell
  · rw [upd_ne (Ne.symm nl)]; exact I.free
  · intro y c e
    obtain ⟨v, o, ho, hd⟩ := I.cell y c e
    have : c ≠ a := fun z => by
      rw [z] at ho
      have e2 : oe = o := Option.some.inj (at_.symm.trans ho)
      exact nc v (by rw [e2]; exact hd)
    rw [upd_ne this]; exact I.freeC y c e
  · intro p h
    obtain ⟨e, n, q⟩ := I.pin p (by
      rcases List.mem_append.mp h with h | h
      · exact List.mem_append_left _ h
      · exact List.mem_append_right _ (List.mem_cons_of_mem _ h))
    exact ⟨e, by rw [upd_ne (hp p h)]; exact n, q⟩
  · intro b u e
    by_cases z : b = a
    · subst z
      rw [upd_same] at e
      cases e
      exact ⟨⟨oe, vs, at_, hz, hv⟩, ⟨oe, at_⟩, fun h1 h2 ⟨o, v, g, r⟩ k => ⟨o, v, k o g, r⟩⟩
    · rw [upd_ne z] at e
      exact (I.hok b u e).stay (fun _ _ _ q => q) (fun c q => by rw [upd_ne (far q)]; exact q) fun c xs q => by rw [upd_ne (far q)]; exact q
  · exact I.len
/-- what the clause 'except x as n: y = n' wishes of an exception of the body (i: n's slot, j: y's) -/
def wKeep (K : PySem.W.Frag) (n : Nat) (c : Value) (i j : Nat) (D : Ends) : WX := fun cls d σ H => σ.length = n →
  PySem.W.exmOne K cls c = some true ∧ ∀ a, H a = none → D.nx (((σ.set i (some (.ref a))).set j (some (.ref a))).set i none) (upd H a (ExV a cls d))
/-- try: body / except x as n: y = n, where the body raises nothing else -/
theorem ps_try_keep {x n y : Str} {c : Value} {i j : Nat} {body : List Stmt} {np pos pos' p3 p4 p5 : Pos} {tb : WX → TS} (hs : X.stack = X.env :: X.outer) (hf : X.env.frame = some X.env.locals) (hN : X.N.Nodup)
    (hi : X.N[i]? = some n) (hln : X.env.kindOf n = some .local) (hj : X.N[j]? = some y) (hly : X.env.kindOf y = some .local) (hex : X.ex = []) (hc : Names X x c)
    (hb : ∀ (W : WX) (pn : List (Addr × Obj)) (xe : Value → Shared → Prop), Takes (X.tr pn xe) W → PassesOwn (model X.prog X.w) X.A X.env xe → PSs (X.tr pn xe) body (tb W))
    (hd1 : (n == ("__debug__" : Str)) = false := by decide) (hd2 : (n == ("__classdict__" : Str)) = false := by decide)
    (hsw : swapsWith (.Name n p4) (some (.Name y p3)) p5.line X.env = pure false := by rfl) :
    PS X (.Try body [.ExceptHandler (some (.Name x np)) (some n) [.Assign [.Name y p3] (.Name n p4) p5] pos'] [] [] pos) (fun D σ H => tb (wKeep X.K X.N.length c i j D) D σ H) := by
  constructor
  intro pins s σ H D I h
  have ok := I.ok
  have fr : X.A.frames = some (X.env :: X.outer) := by rw [ok.frames, hs]
  apply wpAny_Try_except
  have bd := (hb (wKeep X.K X.N.length c i j D) (X.pn ++ pins) (fun e s1 => wpAny (model X.prog X.w) X.A (noteFrame e X.env) (fun _ s2 => wpAny (model X.prog X.w) X.A (setFlight e none)
    (fun _ s3 => wpAny (model X.prog X.w) X.A (handleBy e X.env [.ExceptHandler (some (.Name x np)) (some n) [.Assign [.Name y p3] (.Name n p4) p5] pos']) (SP X pins D) X.xe s3) X.xe s2) X.xe s1) (fun u t xx => ?_) .looking).run [] s σ H D (I.toTry _) h
  · refine wpAny_mono bd (fun f t q => ?_) fun _ _ e => e
    cases f with
    | next => obtain ⟨σ1, H1, J, q⟩ := q; exact wpAny_execs_nil ⟨σ1, H1, J.ofTry ok, q⟩
    | ret v => obtain ⟨v1, σ1, H1, J, r, q⟩ := q; exact ⟨v1, σ1, H1, J.ofTry ok, r, q⟩
    | brk => obtain ⟨σ1, H1, J, q⟩ := q; exact ⟨σ1, H1, J.ofTry ok, q⟩
    | cont => obtain ⟨σ1, H1, J, q⟩ := q; exact ⟨σ1, H1, J.ofTry ok, q⟩
  · obtain ⟨a, B, sI, pins1, σ1, H1, cls, d, rfl, J1, nb, up, sky, na, os, ag, wish⟩ := xx
    have J := J1.ofTry ok
    obtain ⟨hm, go⟩ := wish J.len
    rw [show (X.tr (X.pn ++ pins) _).stack = X.env :: X.outer from hs] at sky
    apply Sky.land Zc.steady fr hf sky
    intro h3 f3 up3
    obtain ⟨o3, v3, a3, z3, d3⟩ := f3.there
    have nB : B.get? a = none := f3.2.1
    have nfr : a ∉ frs (X.env :: X.outer) := fun m => by
      obtain ⟨_, o, e, q⟩ := f3.2.2.1.mem m
      have : o3 = o := Option.some.inj (a3.symm.trans e)
      exact q _ (this ▸ d3)
    have nL : a ≠ X.env.locals := fun z => nfr (List.mem_filterMap.mpr ⟨_, List.mem_cons_self, by rw [hf, z]⟩)
    have nF : a ∉ X.fs := fun m => by
      obtain ⟨e, he, q⟩ := List.mem_filterMap.mp m
      exact nfr (List.mem_filterMap.mpr ⟨e, List.mem_cons_of_mem _ he, q⟩)
    have nI : sI.heap.get? a = none := by
      cases q : sI.heap.get? a with
      | none => rfl
      | some o => have := nb a o q (by rw [show (X.tr (X.pn ++ pins) _).stack = X.env :: X.outer from hs]; exact nfr); rw [nB] at this; cases this
    have n0 : X.s_0.heap.get? a = none := by
      cases q : X.s_0.heap.get? a with
      | none => rfl
      | some o => obtain ⟨o', e⟩ := J.base.there a o q (by rw [hex]; exact fun z => nomatch z); rw [nI] at e; cases e
    have J3 : Inv X pins σ1 H1 { t with heap := h3 } := J.landed nb f3.1 (up.trans up3) os ag
    have S3 := J3.suite a3 d3 na nL nF
    apply wpAny_handleBy_cons ?_ (by intro q; cases q)
    apply codeAny_handlers_test
    have LT : PySem.W.Looks (model X.prog X.w) h3 (typeOf (.ref a)) cls := fun _ _ _ _ k q => wpAny_typeOf_ref (k _ _ a3) (by rw [z3.1]; exact q)
    have LM := PySem.W.exm_one (M := model X.prog X.w) S3.kIn LT hm
    have test : ∀ {Q : Value → Shared → Prop} {E : Value → Shared → Prop}, Q c { t with heap := h3 } → wpAny (model X.prog X.w) (X.A.mark (some (.ref a))) (eval (.Name x np) X.env) Q E { t with heap := h3 } := by
      intro Q E q
      obtain ⟨g, gd, m | ⟨m, v, nn⟩⟩ := hc
      · exact ld_glob (X := X.suite a ((a, o3) :: (X.pn ++ pins))) S3 g m q gd
      · exact ld_blt (X := X.suite a ((a, o3) :: (X.pn ++ pins))) S3 g m v q nn gd
    refine test (LM.here ?_)
    apply codeAny_handlers_suite_as
    apply HandSPX.lands_againZ f3
    intro h4 f4 up4
    obtain ⟨o4, v4, a4, z4, d4⟩ := f4.there
    have J4 : Inv X pins σ1 H1 { t with heap := h4 } := J.landed nb f4.1 ((up.trans up3).trans up4) os ag
    have far : ∀ p ∈ X.pn ++ pins, p.1 ≠ a := fun p hp z => by
      have := (J.pin p hp).1
      rw [z, nI] at this
      cases this
    have S4 := J4.suite a4 d4 na nL nF
    refine store_ok (X := X.suite a ((a, o4) :: (X.pn ++ pins))) (v := .ref a) S4 hN hi (.inl hln) rfl (fun s5 S5 => ?_) (.inr hln)
    have st : PSs (X.suite a ((a, o4) :: (X.pn ++ pins))) [.Assign [.Name y p3] (.Name n p4) p5] _ := pss_one (ps_set (i := j) hN hj (.inl hly) (pe_var (i := i) hi (.inl hln) hd1 hd2) hsw (.inr hly))
    have hl : i < σ1.length := by rw [J.len]; exact (List.getElem?_eq_some_iff.mp hi).1
    refine wpAny_mono (st.run [] s5 _ H1 { nx := fun σ2 H2 => σ2 = (σ1.set i (some (.ref a))).set j (some (.ref a)) ∧ H2 = H1, rt := fun _ _ => False } S5 ⟨.ref a, by simp [hl], rfl, rfl⟩) (fun f s6 q => ?_) fun _ _ z => z.elim
    cases f with
    | ret v => obtain ⟨_, _, _, _, _, q⟩ := q; exact q.elim
    | brk => obtain ⟨_, _, _, q⟩ := q; exact q.elim
    | cont => obtain ⟨_, _, _, q⟩ := q; exact q.elim
    | next =>
      obtain ⟨σ2, H2, S6, e1, e2⟩ := q
      subst e1 e2
      have J6 : Inv X ((a, o4) :: pins) _ H2 s6 := ⟨ok, S6.os, S6.bare, S6.base, S6.loc, S6.cell, S6.free, S6.freeC, fun p hp => S6.pin p (by
        refine List.mem_append_left _ ?_
        rcases List.mem_append.mp hp with hp | hp
        · exact List.mem_cons_of_mem _ (List.mem_append_left _ hp)
        · rcases List.mem_cons.mp hp with hp | hp
          · rw [hp]; exact List.mem_cons_self
          · exact List.mem_cons_of_mem _ (List.mem_append_right _ hp)), S6.hok, S6.len⟩
      refine gone_ok (Q := fun _ s7 => SP X pins D .next s7) J6 hN hi hln fun s7 J7 => ?_
      exact ⟨_, _, track J7 z4 d4 n0 far, go a na⟩
end
/-! ### what passes -/
theorem passF {X : Cx} : Passes (L2.CX X.prog X.w) X E0 := fun _ _ _ _ _ _ _ z => by
  obtain ⟨_, _, _, _, _, _, _, _, _, _, _, _, z⟩ := z
  exact z.elim
/-! ### a def that raises, as a positional promise -/
section
variable {P : Program} {w : World} {K : PySem.W.Frag} {mg : Str → Option Value} {base : Heap} {x qual : Str} {params : Arguments} {body : List Stmt} {scope : Scope} {f : Addr}
theorem okRE {kws : List (Str × V)} {N ps : List Str} {k : Nat} {sp : Sp} (F : ∃ fd, FunD K x qual params body scope [] kws f fd) (S : FnScope N ps scope) (B : ArgsGo x qual params body scope ps)
    (len : ∀ vs H Q E, sp vs H Q E → vs.length = ps.length)
    (hbody : ∀ (cdv : Value) (A : Around) (outer : List Env) (s : Shared) (H : Hp) (vs : List V) (Q : VK) (E : XK), Room k (A.deeper (envOfC qual scope s.heap.objs.size f cdv)) → sp vs H Q E →
      ∃ t, PSs (cxOf (L2.CX P w) P w K mg base N qual scope f cdv A outer s H E) body t ∧ t { nx := fun _ H' => Q .non H', rt := Q } (start N vs) H) : FnR P w K mg base (L2.CX P w) (k + 1) f sp := by
  obtain ⟨fd, F⟩ := F
  exact FnR.imp ((F.ok S len fun cdv A outer s H vs Q E hr h => hbody cdv A outer s H vs Q E hr h).raw (F.bindsN B) .nil) fun vs H Q E h => by rwa [List.append_nil]
end
/-! ### isinstance of a kept exception that has no dict -/
def rIsEV (K : PySem.W.Frag) : List V → Hp → VK → Prop := fun xs H Q => ∃ (a D : Addr) (c : V) (cv : Value) (b : Bool), xs = [.ref a, c] ∧ H a = some (ExV a (.ref D) none) ∧ ExcC K D ∧ (∀ u, RelV c u → u = cv) ∧ PySem.W.kitOne K (.ref D) cv = some b ∧ Q (.bl b) H
theorem call_isEV {X : Cx} : CallR X (.builtin "isinstance") (rIsEV X.K) := by
  intro pins s σ H xs us Q I r h
  obtain ⟨a, D, c, cv, b, rfl, ha, C, hcv, e, q⟩ := h
  obtain ⟨⟨oe, vs, at_, hz, hv⟩, _, _⟩ := I.hok a _ ha
  match us, r with
  | [_, _], .cons r1 (.cons r2 .nil) =>
    cases (show _ = Value.ref a from r1)
    cases hcv _ r2
    have J : PySem.W.InstAt s.heap a oe D none := by
      obtain ⟨oc, od, oda, osl⟩ := oe
      obtain ⟨h1, h2⟩ := hz
      dsimp only at h1 h2 hv
      subst h1 h2 hv
      exact ⟨at_, rfl, rfl, trivial⟩
    exact PySem.W.kia_one (PySem.W.handS_kitx_exc C.hg C.hk C.hs C.hd C.ha C.hn C.ht C.hm) I.kIn J e (fun z => nomatch z) fun tk => ⟨.bl b, H, I.kept (t' := tk) fun _ _ z => z, rfl, q⟩
/-! ### == of an instance and any thing -/
/-- x == y (x != y), x an instance of the own class C -/
def rEqO (K : PySem.W.Frag) (C : Addr) (sp : Sp) (E : XK) (neg : Bool) : R2 := fun x y H Q => ∃ a dx fs t, x = .ref a ∧ H a = some (.ins C dx fs) ∧ TyX K H y t ∧ PySem.W.notFirst K C t = true ∧
  sp [x, y] H (fun v H' => ∃ k, v = .bl k ∧ Q (.bl (if neg then !k else k)) H') E
section
variable {X : Cx} {CX : CXT} {n : Nat} {g C : Addr} {sp : Sp} {E : XK}
theorem op_eqO (hs : PySem.W.findIn X.K (.ref C) "__eq__" = some (some (.ref g))) (hf : PySem.W.isFn X.K (.ref g) = true)
    (F : FnR X.prog X.w X.K X.mg X.base CX n g sp) (hr : Room n X.A) (hx : Passes CX X E) : OpR X (compareOp .Eq) (rEqO X.K C sp E false) := by
  intro pins s σ H x y v u Q I rx ry h
  obtain ⟨a, dx, fs, t, rfl, ha, ty, hn, q⟩ := h
  cases (show v = Value.ref a from rx)
  obtain ⟨od, J⟩ := inst_of I ha
  obtain ⟨Pk, kt, pk, _⟩ := kit_of I ry ty
  obtain ⟨m, hF⟩ := I.fr
  show wpAny _ _ (richCompare .Eq (.ref a) u) _ _ _
  refine PySem.W.cmp_K (op := .Eq) (tb := t) hr.units0 hF I.ok.mod.kin J (kt.ty _ _ I.kIn pk) hn hs hf (wpAny_mono (run_sub F hr rfl hx I (.cons (rr a) (.cons ry .nil)) q) (fun r s' z => ?_) fun _ _ e => e)
  obtain ⟨z', H', I', rz, k, ek, q'⟩ := z
  subst ek
  cases (show r = Value.bool k from rz)
  exact ⟨.bl k, H', I', rfl, q'⟩
theorem op_neO (hne : PySem.W.findIn X.K (.ref C) "__ne__" = some (some (.builtin "object.__ne__"))) (hm : PySem.W.mroIn X.K C (.type "object") = some true)
    (hs : PySem.W.findIn X.K (.ref C) "__eq__" = some (some (.ref g))) (hf : PySem.W.isFn X.K (.ref g) = true)
    (F : FnR X.prog X.w X.K X.mg X.base CX n g sp) (hr : Room (n + 1) X.A) (hx : Passes CX X E) : OpR X (compareOp .NotEq) (rEqO X.K C sp E true) := by
  intro pins s σ H x y v u Q I rx ry h
  obtain ⟨a, dx, fs, t, rfl, ha, ty, hn, q⟩ := h
  cases (show v = Value.ref a from rx)
  obtain ⟨od, J⟩ := inst_of I ha
  obtain ⟨Pk, kt, pk, _⟩ := kit_of I ry ty
  obtain ⟨m, hF⟩ := I.fr
  show wpAny _ _ (richCompare .NotEq (.ref a) u) _ _ _
  refine ne_K (tb := t) hr.in1.units0 hF I.ok.mod.kin J (kt.ty _ _ I.kIn pk) hn hne hm hs hf (wpAny_mono (run_sub F hr.in1 rfl hx I (.cons (rr a) (.cons ry .nil)) q) (fun r s' z => ?_) fun _ _ e => e)
  obtain ⟨z', H', I', rz, k, ek, q'⟩ := z
  subst ek
  cases (show r = Value.bool k from rz)
  exact ⟨k, rfl, .bl (!k), H', I', rfl, q'⟩
end
end Ws

set_option Elab.async false
set_option linter.all false
set_option maxRecDepth 100000
set_option maxHeartbeats 4000000
namespace Ws
open PySem PySem.Spec PyProof.Rows L2 LamX
section
variable {X : Cx} {pins : List (Addr × Obj)} {σ : L2.St} {H : Hp} {s : Shared}
theorem TabS.kp {S : Addr → Prop} {H H' : Hp} {P : Addr} {q : Str} (t : TabS H P q) (u : Kp S H H') (nP : ¬ S P) (nS : ∀ a, S a → ∃ o, H a = some o ∧ o ≠ CodeO a q) : TabS H' P q := by
  obtain ⟨ps, h1, h2, h3⟩ := t
  refine ⟨ps, u.keep _ _ h1 nP, h2, fun pos cv e => ?_⟩
  obtain ⟨c, e1, e2⟩ := h3 pos cv e
  refine ⟨c, e1, u.keep _ _ e2 fun z => ?_⟩
  obtain ⟨o, e3, ne⟩ := nS c z
  rw [e2] at e3
  exact ne (Option.some.inj e3).symm
theorem TabS.ext' {H H' : Hp} {P : Addr} {q : Str} (t : TabS H P q) (e : Ext H H') : TabS H' P q := LamX.TabS.ext t e
/-- a lambda is made: its code object is new in the table at P, or was there -/
theorem lam_made {c P : Addr} {params : Arguments} {body : PySem.Expr} {scope : Scope} {pos : Pos} {E : Value → Shared → Prop} {Q : Value → Shared → Prop} (I : Inv X pins σ H s) (TB : TabB X.base X.mg c P) (hcode : X.env.code = .ref c)
    (tb : TabS H P (X.env.qual ++ "<lambda>")) (hdef : defaultsOf params X.env = ([], [])) (hfree : ∀ y ∈ scope.names, y.2 = .free → ∃ c, X.env.cells.lookup y.1 = some c)
    (k : ∀ (f c' : Addr) (pm ctv : Value) (H1 : Hp) (s' : Shared), Inv X pins σ H1 s' → Kp (fun a => a = P) H H1 → TabS H1 P (X.env.qual ++ "<lambda>") →
      s'.heap.get? f = some (PySem.W.kla_obj "<lambda>" (X.env.qual ++ "<lambda>") params body scope (cloFrom X.env.cells scope.names []) pm c' ctv) → H1 f = none → f ∉ frs X.stack → H1 c' = some (CodeO c' (X.env.qual ++ "<lambda>")) → Q (.ref f) s') :
    wpAny (model X.prog X.w) X.A (eval (.Lambda params body scope pos) X.env) Q E s := by
  obtain ⟨ps, hP, triples, among⟩ := tb
  have atP : s.heap.get? P = some { cls := .none, data := .fields ps } := I.hok P _ hP
  have bP := TB.bm.keeps I.bk
  have below : ∀ f, s.heap.objs.size ≤ f → f ∉ frs X.stack := fun f hf z => by
    rcases List.mem_cons.mp (I.stkSub _ z) with e | e
    · subst e
      exact Nat.lt_irrefl _ (Nat.lt_of_lt_of_le I.lt hf)
    · exact I.nofs hf e
  apply PySem.W.kla_eval hdef
  cases look : codeAmong pos ps.toList with
  | some cv =>
    obtain ⟨c', rfl, hco⟩ := among pos cv look
    apply PySem.W.kla_makeFunctionHit (mg := X.mg) (c := c) (P := P) (ps := ps) (closure_ok hfree) I.ok.glob (I.mod.glob.keeps I.bk) hcode (TB.code.keeps I.bk) atP triples look bP
    intro ctv h' tk hx hsz
    refine k h'.objs.size c' _ ctv H _ (I.kept (t' := tk) fun b o e => Heap.get?_push_of_some _ (hx b o e)) .refl ⟨ps, hP, triples, among⟩ (Heap.get?_push_size _ rfl) (I.hok.fresh hsz) (below _ hsz) hco
  | none =>
    apply PySem.W.kla_makeFunction (mg := X.mg) (c := c) (P := P) (ps := ps) (closure_ok hfree) I.ok.glob (I.mod.glob.keeps I.bk) hcode (TB.code.keeps I.bk) atP triples look TB.gP bP
    intro c' ctv h' tk hx hge hlt hrec htb
    obtain ⟨c2, oc, vs, t, e2, hoc, hd, hv⟩ := hrec
    cases e2
    have sz : s.heap.objs.size ≤ h'.objs.size := Nat.le_trans hge (Nat.le_of_lt hlt)
    have nC : H c' = none := I.hok.fresh hge
    have PC : P ≠ c' := ne_of_none hP nC
    have tl : (ps ++ #[rawInt pos.line, rawInt pos.col, .ref c']).toList = ps.toList ++ [rawInt pos.line, rawInt pos.col, .ref c'] := by simp
    have keepO : ∀ b o, H b = some o → b ≠ P → (upd (upd H P (.tbl (ps ++ #[rawInt pos.line, rawInt pos.col, .ref c']))) c' (CodeO c' (X.env.qual ++ "<lambda>"))) b = some o := fun b o e n => by
      rw [upd_ne (ne_of_none e nC), upd_ne n]; exact e
    have I1 := inv_table (t' := tk) (more := #[rawInt pos.line, rawInt pos.col, .ref c']) (h' := h'.push (PySem.W.kla_obj "<lambda>" (X.env.qual ++ "<lambda>") params body scope (cloFrom X.env.cells scope.names []) ((X.mg "__name__").getD .none) c' ctv)) I hP
      (fun b o n e => Heap.get?_push_of_some _ (hx b o n e)) (Heap.get?_push_of_some _ htb) hge ⟨oc, vs, t, Heap.get?_push_of_some _ hoc, hd, hv⟩
    refine k h'.objs.size c' _ ctv _ _ I1 ⟨fun b o e n => keepO b o e n, fun b hb => ?_⟩ ⟨_, by rw [upd_ne PC, upd_same], by rw [tl]; exact PySem.TriplesOk_snoc _ _ _ _ triples, fun p cv e => ?_⟩ (Heap.get?_push_size _ rfl) ?_ (below _ sz) upd_same
    · by_cases z : b = P
      · rw [z, upd_ne PC, upd_same]; exact fun q => nomatch q
      · cases q : H b with
        | none => exact absurd q hb
        | some o => rw [keepO b o q z]; exact fun q => nomatch q
    · rw [tl] at e
      rcases among_app _ triples e with z | z
      · obtain ⟨c0, e1, e2⟩ := among p cv z
        exact ⟨c0, e1, keepO _ _ e2 fun q => codeO_ne ps (by rw [q, hP] at e2; exact (Option.some.inj e2).symm)⟩
      · exact ⟨c', z, upd_same⟩
    · rw [upd_ne (Nat.ne_of_gt hlt), upd_ne (Nat.ne_of_gt (Nat.lt_of_lt_of_le (Heap.lt_size atP) sz))]
      exact I.hok.fresh sz
end
/-! ### x(lambda: e) where x keeps what it raises -/
/-- what such a def makes of the lambda's reading -/
def TKeep (K : PySem.W.Frag) (CS : Addr) : (XK → Hp → VK → Prop) → Hp → VK → Prop := fun tl H Q =>
  tl (fun cls d H' => PySem.W.exmOne K cls (.ref CS) = some true ∧ ∀ a, H' a = none → Q (.ref a) (upd H' a (ExV a cls d))) H (fun _ H' => Q .non H')
def tKept (K : PySem.W.Frag) (CS P : Addr) (q : Str) (t : XK → TE) : TE := fun σ H Q => TabS H P q ∧ ∀ H1, Kp (fun a => a = P) H H1 → TabS H1 P q → TKeep K CS (fun E H' Q' => t E σ H' Q') H1 Q
/-- the def's body: y = None / try: a() / except e as n: y = n / return y -/
theorem keep_gives {X : Cx} {x a n y e q : Str} {sg : Scope} {g CS : Addr} {cdg : Value} {p1 p2 p3 p4 p5 p6 p7 p8 p9 p10 p11 p12 p13 p14 : Pos} (nd : [a, y, n].Nodup) (hn : sg.names.lookup n = some .local) (hy : sg.names.lookup y = some .local)
    (he : sg.names.lookup e = some .globalImplicit) (hm : X.mg e = some (.ref CS)) (hde : (e == ("__debug__" : Str)) = false) (h1 : (n == ("__debug__" : Str)) = false) (h2 : (n == ("__classdict__" : Str)) = false) (h3 : (y == ("__debug__" : Str)) = false) (h4 : (y == ("__classdict__" : Str)) = false)
    (sw : ∀ env, swapsWith (.Name n p9) (some (.Name y p8)) p10.line env = pure false) :
    GivesTo X [a, y, n] x sg g cdg [.Assign [.Name y p1] (.Constant .none 0 p2) p3, .Try [.Expr (.Call (.Name a p4) [] [] p5) p6] [.ExceptHandler (some (.Name e p7)) (some n) [.Assign [.Name y p8] (.Name n p9) p10] p11] [] [] p12, .Return (some (.Name y p13)) p14] a q (TKeep X.K CS) := by
  intro f c' s H Q tl act hc h
  refine ⟨_, pss_cons (ps_set (i := 1) nd rfl (.inl hy) pe_non) (pss_cons (ps_try_keep (i := 2) (j := 1) (c := .ref CS) rfl rfl nd rfl hn rfl hy rfl ⟨he, hde, .inl hm⟩
    (tb := fun W D σ H => ∃ Ech : XK, (∀ cls d σ' H', Ech cls d H' → W cls d σ' H') ∧ σ[0]? = some (some (.ref f)) ∧ H c' = some (CodeO c' q) ∧ tl Ech H (fun _ H' => D.nx σ H'))
    (fun W pn xe tk _ => ?_) h1 h2 (sw _)) (pss_one (ps_ret (pe_var (i := 1) rfl (.inl hy) h3 h4)))), ?_⟩
  · constructor
    intro pins s' σ H' D I hh
    obtain ⟨Ech, hW, g1, g2, g3⟩ := hh
    exact (pss_one (ps_expr (act W pn xe Ech p4 p5 tk hW))).run pins s' σ H' D I ⟨g1, g2, g3⟩
  · refine ⟨fun cls d H' => PySem.W.exmOne X.K cls (.ref CS) = some true ∧ ∀ b, H' b = none → Q (.ref b) (upd H' b (ExV b cls d)), fun cls d σ' H' ⟨z1, z2⟩ hl => ⟨z1, fun b nb => ?_⟩, rfl, hc, ?_⟩
    · match σ', hl with
      | [_, _, _], _ => exact ⟨_, rfl, z2 b nb⟩
    · have e1 : (fun (_ : V) (H' : Hp) => (tRet (tVar 1) { nx := fun _ H' => Q V.non H', rt := Q } ((L2.start [a, y, n] [V.ref f]).set 1 (some V.non)) H' : Prop)) = fun _ H' => Q .non H' := by
        funext v H'
        exact propext ⟨fun ⟨w, e1, z⟩ => by cases e1; exact z, fun z => ⟨_, rfl, z⟩⟩
      show tl _ H (fun (_ : V) (H' : Hp) => (tRet (tVar 1) { nx := fun _ H' => Q V.non H', rt := Q } ((L2.start [a, y, n] [V.ref f]).set 1 (some V.non)) H' : Prop))
      rw [e1]
      exact h
/-- x(lambda: e) -/
theorem pe_kept {X : Cx} {x a : Str} {g CS c P : Addr} {k : Nat} {pg : Arguments} {bg : List Stmt} {sg : Scope} {Ng : List Str} {params : Arguments} {body : PySem.Expr} {scope : Scope} {t : XK → TE} {p lpos pos : Pos}
    (F : ∃ fd, FunD X.K x x pg bg sg [] [] g fd) (hg : Gl X x) (hm : X.mg x = some (.ref g)) (B : ArgsGo x x pg bg sg [a]) (Sg : FnScope Ng [a] sg) (hN : Ng[0]? = some a) (hv : Vis sg a)
    (G : ∀ cdg, GivesTo X Ng x sg g cdg bg a (X.env.qual ++ "<lambda>") (TKeep X.K CS)) (TB : TabB X.base X.mg c P) (hcode : X.env.code = .ref c) (hr : Room (k + 2) X.A) (L : LamS X.env.scope scope) (hdef : defaultsOf params X.env = ([], []))
    (hbind : ∀ (q : Str) (cl : List (Str × Addr)) (pm cv ctv : Value), bindArgs (PySem.W.kla_fn "<lambda>" q params body scope cl pm cv ctv) ⟨[], []⟩ = pure [])
    (hbody : ∀ (A : Around) (outer : List Env) (s : Shared) (H : Hp) (E : XK) (f c' : Addr), Room k (A.deeper (lamEnv X scope s.heap.objs.size f c')) → PE (lamCx X A outer s H E scope f c') body (t E))
    (hdb : (x == ("__debug__" : Str)) = false := by decide) (hd : (a == ("__debug__" : Str)) = false := by decide) (hcd : (a == ("__classdict__" : Str)) = false := by decide) :
    PE X (.Call (.Name x p) [.Lambda params body scope lpos] [] pos) (tKept X.K CS P (X.env.qual ++ "<lambda>") t) := by
  obtain ⟨fd, F⟩ := F
  constructor
  intro pins s σ H Q I h
  obtain ⟨tb, h⟩ := h
  apply wpAny_Call_Name_kw (ld_glob I hg hm ?_ hdb)
  refine PySem.W.callWith_K (h₀ := X.base) I.ok.mod.kin F.kp ?_ (by rfl) (by rfl)
  show wpAny _ _ (spliced ((false, eval (.Lambda params body scope lpos) X.env) :: backTo pos (starEach [] X.env))) _ _ s
  apply Calls.spliced_cons
  refine lam_made I TB hcode tb hdef (L.has I.ok) fun f c' pm' ctv H1 s' I1 kp t1 hf hfn hfr hco => Calls.spliced_nil ⟨I1.kIn, wpAny_call ?_⟩
  obtain ⟨oc, od, dV, kV, doc, pm, an, cdv, ct, osl, rfl, lk, hco2, dfl, _⟩ := id F.ex
  have bs : L2.Binds X.K (PySem.W.fnOf x x pg bg sg dV kV doc pm an cdv ct) [a] [] := F.bindsN B
  have rc : codeAny (model X.prog X.w) X.A (.call (.ref g) ⟨[.ref f], []⟩) (CR C8.CX0 X.stack X.prog X.w H1 s' Q C8.E0) s' := by
    refine run_ofS (N := Ng) (ps := [a]) (us := [.ref f]) (vs := [.ref f]) lk hco2 Sg hr I1.env0 (bs s' [.ref f] I1.kIn rfl) (.cons rfl .nil) rfl fun hr' => ?_
    obtain ⟨t', ht', hq'⟩ := G cdv f c' s' H1 Q (fun E H' Q' => t E σ H' Q') (fun W pn xe E q1 q2 tk hW => pe_act (i := 0) I1 L hf hfn hfr (hbind _ _ _ _ _) tk hW hr' (fun A outer s H hr2 => hbody A outer s H E f c' hr2) hN hv hd hcd) hco (h H1 kp t1)
    exact ⟨t', ht'.nox, hq'⟩
  refine codeAny_mono rc fun r s2 hq => ?_
  match r, hq with
  | .error e, hq => exact (show False from hq).elim
  | .ok (.ret u), hq => exact I1.after hq
  | .ok .next, hq => exact False.elim hq
  | .ok .brk, hq => exact False.elim hq
  | .ok .cont, hq => exact False.elim hq
end Ws

set_option Elab.async false
set_option linter.all false
set_option maxRecDepth 100000
set_option maxHeartbeats 4000000
namespace Ws
open PySem PySem.Spec PyProof.Rows L2 LamX
abbrev tab0 : Obj := { cls := .none, data := .fields #[] }
/-- what is told of the law at the head's heap h: cs, code objects and their tables -/
structure TabsHere (K : PySem.W.Frag) (h : Heap) (cs : List (Addr × Addr)) : Prop where
  at_ : ∀ p ∈ cs, h.get? p.2 = some tab0
  out : ∀ p ∈ cs, K.lookup p.2 = none
  code : ∀ p ∈ cs, PySem.W.CodeHd h p.1 p.2
/-- the law's call at the heap behind the top, with tables -/
theorem law_callT {P : Program} {w : World} {K : PySem.W.Frag} {mg mb : Str → Option Value} {CX : CXT} {k : Nat} {fa a : Addr} {cs : List (Addr × Addr)} {sp : Sp} {s₁ : Shared} {vs : List Value} {ns : List Int}
    (KX : K.In s₁.heap) (gl : s₁.heap.Ns mainGlobals mg) (bl : s₁.heap.Ns builtinsNs mb) (bb : ∀ x : Str, x ≠ "__name__" → mb x = bootBuiltins x) (lim : s₁.heap.NoLimit) (gens : s₁.gens = #[]) (T : TabsHere K s₁.heap cs)
    (bm : ∃ (bm : Addr) (ob : Obj), mg "__builtins__" = some (.ref bm) ∧ bm ≠ builtinsNs ∧ s₁.heap.get? bm = some ob ∧ ob.cls = .type "module" ∧ ob.dict = some builtinsNs ∧ ob.data = .plain)
    (ha : s₁.heap.get? a = some (scrO vs)) (hi : IntsAre vs ns) (hl : ns.length ≤ sizeLine) (hr : Room k callerA)
    (F : ∀ base : Heap, K.In base → base.Ns mainGlobals mg → (∀ p ∈ cs, TabB base mg p.1 p.2) → FnRG P w K mg base CX k fa sp)
    (hsp : ∀ H : Hp, (∀ p ∈ cs, H p.2 = some (.tbl #[])) → SqL K H a (ns.map V.int) → sp [.ref a] H (fun v _ => v = .bl true) fun _ _ _ => False) (no : ∀ H e s', CX [] H s₁ (fun _ _ _ => False) e s' → False) :
    codeAny (model P w) callerA (.call (.ref fa) ⟨[.ref a], []⟩) (fun r s' => r = .ok (.ret (.bool true)) ∧ OldK s₁.heap s'.heap ∧ s'.os = s₁.os ∧ AllBare s'.gens) s₁ := by
  have rv := vals_ints hi
  obtain ⟨hT, nT, cT⟩ := T
  have inT : ∀ b, b ∈ cs.map (·.2) → s₁.heap.get? b = some tab0 ∧ K.lookup b = none := fun b m => by
    obtain ⟨p, hp, rfl⟩ := List.mem_map.mp m
    exact ⟨hT p hp, nT p hp⟩
  have aT : a ∉ cs.map (·.2) := fun m => by
    have := (inT a m).1
    rw [ha] at this
    exact nomatch (show Data.seq vs.toArray _ = Data.fields #[] from congrArg Obj.data (Option.some.inj this))
  -- H tracks the tables and at most the script
  suffices key : ∀ H : Hp, (∀ p ∈ cs, H p.2 = some (.tbl #[])) → (∀ b u, H b = some u → (b ∈ cs.map (·.2) ∧ u = .tbl #[]) ∨ (b = a ∧ u = .frz (scrO vs) (.lst (ns.map V.int)) ∧ K.lookup a = none)) → SqL K H a (ns.map V.int) →
      codeAny (model P w) callerA (.call (.ref fa) ⟨[.ref a], []⟩) (fun r s' => r = .ok (.ret (.bool true)) ∧ OldK s₁.heap s'.heap ∧ s'.os = s₁.os ∧ AllBare s'.gens) s₁ by
    have memT : ∀ p ∈ cs, p.2 ∈ cs.map (·.2) := fun p hp => List.mem_map.mpr ⟨p, hp, rfl⟩
    cases hk : K.lookup a with
    | some o =>
      have e := KX a o hk
      rw [ha] at e
      cases e
      refine key (fun b => if b ∈ cs.map (·.2) then some (.tbl #[]) else none) (fun p hp => if_pos (memT p hp)) (fun b u z => ?_) (.inr ⟨_, vs.toArray, _, hk, rfl, rfl, rfl, ?_, by simpa using rv⟩)
      · by_cases m : b ∈ cs.map (·.2)
        · rw [if_pos m] at z; exact .inl ⟨m, (Option.some.inj z).symm⟩
        · rw [if_neg m] at z; cases z
      · rw [List.size_toArray, hi.length]; exact hl
    | none =>
      refine key (upd (fun b => if b ∈ cs.map (·.2) then some (.tbl #[]) else none) a (.frz (scrO vs) (.lst (ns.map V.int)))) (fun p hp => ?_) (fun b u z => ?_) (.inl (.inr ⟨scrO vs, upd_same⟩))
      · rw [upd_ne (show p.2 ≠ a from fun z => aT (by rw [← z]; exact memT p hp))]; exact if_pos (memT p hp)
      · by_cases hb : b = a
        · subst hb
          rw [upd_same] at z
          exact .inr ⟨rfl, (Option.some.inj z).symm, hk⟩
        · rw [upd_ne hb] at z
          by_cases m : b ∈ cs.map (·.2)
          · rw [if_pos m] at z; exact .inl ⟨m, (Option.some.inj z).symm⟩
          · rw [if_neg m] at z; cases z
  intro H hTb hH hS
  -- what is no list and no empty record is not tracked
  have free : ∀ {b : Addr} {o : Obj}, s₁.heap.get? b = some o → (∀ xs n, o.data ≠ .seq xs n) → o.data ≠ .fields #[] → H b = none := fun {b o} e d1 d2 => by
    cases q : H b with
    | none => rfl
    | some u =>
      rcases hH b u q with ⟨m, _⟩ | ⟨rfl, _, _⟩
      · rw [(inT b m).1] at e
        cases e
        exact absurd rfl d2
      · rw [ha] at e
        cases e
        exact absurd rfl (d1 _ _)
  have hok : HOk P w H s₁.heap := fun b u q => by
    rcases hH b u q with ⟨m, rfl⟩ | ⟨rfl, rfl, _⟩
    · exact (inT b m).1
    · exact ⟨ha, by rw [List.length_map]; exact hl, vs, _, rv, ha⟩
  have nsK : ∀ {b : Addr} {m : Str → Option Value}, s₁.heap.Ns b m → (hidT s₁.heap H).Ns b m := fun {b m} z => by
    obtain ⟨o, es, ep, e, d, r⟩ := z
    exact ⟨o, es, ep, hidT_get e (free e (fun _ _ q => by rw [d] at q; cases q) (fun q => by rw [d] at q; cases q)), d, r⟩
  have kb : K.In (hidT s₁.heap H) := fun b o e => by
    refine hidT_get (KX b o e) ?_
    cases q : H b with
    | none => rfl
    | some u =>
      rcases hH b u q with ⟨m, _⟩ | ⟨rfl, _, z⟩
      · rw [(inT b m).2] at e; cases e
      · rw [z] at e; cases e
  have lim' : (hidT s₁.heap H).NoLimit := by
    obtain ⟨mc, h1, h2⟩ := lim
    exact ⟨mc, nsK h1, h2⟩
  obtain ⟨og, eg, epg, hog, hdg, _⟩ := id gl
  have TB : ∀ p ∈ cs, TabB (hidT s₁.heap H) mg p.1 p.2 := fun p hp => by
    refine ⟨?_, ?_, fun z => ?_⟩
    · obtain ⟨o, us, file, tf, flags, tg, inF, text, tt, e1, r1, r2, r3, rest⟩ := cT p hp
      refine ⟨o, us, file, tf, flags, tg, inF, text, tt, hidT_get e1 (free e1 (fun _ _ q => by rw [r2] at q; cases q) (fun q => ?_)), r1, r2, r3, rest⟩
      rw [r2] at q
      cases q
      simp at r3
    · obtain ⟨b, ob, b1, b2, b3, b4, b5, b6⟩ := bm
      refine ⟨b, ob, b1, b2, fun q => ?_, fun q => ?_, hidT_get b3 (free b3 (fun _ _ z => by rw [b6] at z; cases z) (fun z => by rw [b6] at z; cases z)), b4, b5, b6⟩
      · rw [q, hog] at b3; cases b3; rw [hdg] at b6; cases b6
      · rw [q, hT p hp] at b3; cases b3; cases b6
    · rw [z, hT p hp] at hog; cases hog; cases hdg
  have e0 : Env0 P w K mg (hidT s₁.heap H) callerA [] s₁ H :=
    ⟨rfl, ⟨kb, nsK gl, ⟨mb, nsK bl, bb⟩, lim'⟩, fun b o e => of_hidT e, Nat.le_of_eq (hidT_size _ _), trivial, fun b hb => (by cases (show b ∈ ([] : List Addr) from hb)), hok, .of_eq gens⟩
  refine codeAny_mono (F _ kb (nsK gl) TB callerA [] s₁ H [.ref a] [.ref a] _ _ rfl hr e0 (.cons (rr a) .nil) (hsp H hTb hS)) fun r s' h => ?_
  match r, h with
  | .error e, h => exact (no H e s' h).elim
  | .ok .next, h => exact False.elim h
  | .ok .brk, h => exact False.elim h
  | .ok .cont, h => exact False.elim h
  | .ok (.ret u), h =>
    obtain ⟨v, H', os, bare, un, hok', r', q⟩ := h
    cases (show v = .bl true from q)
    cases (show u = Value.bool true from r')
    have same : ∀ b o, b ∉ cs.map (·.2) → s₁.heap.get? b = some o → s'.heap.get? b = some o := fun b o m e => by
      cases q : H b with
      | none => exact un.keep b o e q (fun z => nomatch (show b ∈ ([] : List Addr) from z)) (fun z => nomatch z)
      | some u =>
        rcases hH b u q with ⟨m', _⟩ | ⟨rfl, rfl, _⟩
        · exact absurd m' m
        · obtain ⟨e2, _⟩ := hok' _ _ (un.frzs _ _ _ q)
          rw [ha] at e
          cases e
          exact e2
    have grown : ∀ p ∈ cs, ∃ more : Array Value, s'.heap.get? p.2 = some { cls := .none, data := .fields more } := fun p hp => by
      obtain ⟨more, z⟩ := un.tbls p.2 #[] (hTb p hp)
      exact ⟨_, hok' p.2 _ z⟩
    refine ⟨rfl, ⟨fun b o e => ?_, fun b o e => ?_⟩, os, bare⟩
    · by_cases m : b ∈ cs.map (·.2)
      · obtain ⟨p, hp, rfl⟩ := List.mem_map.mp m
        obtain ⟨more, hm⟩ := grown p hp
        rw [hT p hp] at e
        cases e
        exact .inr (.inl ⟨((cT p hp).tab (hT p hp)).isCodeTable, rfl, #[], more, rfl, by rw [Array.empty_append]; exact hm⟩)
      · exact .inl (same b o m e)
    · by_cases m : b ∈ cs.map (·.2)
      · obtain ⟨p, hp, rfl⟩ := List.mem_map.mp m
        obtain ⟨more, hm⟩ := grown p hp
        exact ⟨_, hm⟩
      · exact ⟨o, same b o m e⟩
/-- the law's walk behind a head by facts, with tables -/
theorem walk_ofT {l : PySem.W.OpenLaw} {n k : Nat} {q : Program} {loose : List Str} {XP : (Str → Option Value) → Heap → Prop} {YP : World → Heap → Prop} {d : DefRec} {CX : CXT}
    (hn : l.most = some n) (hn2 : n ≤ sizeLine) (hdf : d.params.defaults = []) (hr : Room k callerA)
    (F : ∀ (w : World) (mg : Str → Option Value) (fa : Addr) (h : Heap), YP w h → h.Ns mainGlobals mg → mg d.name = some (.ref fa) →
      ∃ (K : PySem.W.Frag) (cs : List (Addr × Addr)) (sp : Sp), K.In h ∧ TabsHere K h cs ∧
        (∀ (H : Hp) (a : Addr) (ns : List Int), ns.length ≤ n → (∀ p ∈ cs, H p.2 = some (.tbl #[])) → SqL K H a (ns.map V.int) → sp [.ref a] H (fun v _ => v = .bl true) fun _ _ _ => False) ∧
        ∀ base : Heap, K.In base → base.Ns mainGlobals mg → (∀ p ∈ cs, TabB base mg p.1 p.2) → FnRG l.prog w K mg base CX k fa sp)
    (no : ∀ (H : Hp) (s : Shared) (e : Value) (s' : Shared), CX [] H s (fun _ _ _ => False) e s' → False) :
    PySem.W.WalkO q loose XP YP l.row.toRowW d [] (fun f vs => PySem.call f vs) := by
  apply Att.attach_callB hn hdf
  intro w s₀ s₁ mg mb fa o pm cd doc a vs ns G Y ho hd hcd hmg hobj hints hlen hbits hg
  obtain ⟨K, cs, sp, KX, T, hsp, hF⟩ := F w mg fa _ Y G.T.g hmg
  exact law_callT KX G.T.g G.T.b G.T.builtins G.T.nolimit hg T G.T.bmain hobj hints (Nat.le_trans hlen hn2) hr hF (fun H hT hS => hsp H a ns hlen hT hS) fun H e s' => no H s₁ e s'
/-! ### defs that make lambdas: their code object is told -/
section
variable {P : Program} {w : World} {K : PySem.W.Frag} {mg : Str → Option Value} {base : Heap} {CX : CXT} {x qual : Str} {params : Arguments} {body : List Stmt} {scope : Scope}
theorem okGT {kws : List (Str × V)} {p : He.Defn} {N ps : List Str} {k : Nat} {sp : Sp} (F : ∃ fd, FunD K x qual params body scope [] kws (He.fAd K p) fd) (S : FnScope N ps scope) (B : ArgsGo x qual params body scope ps)
    (len : ∀ vs H Q E, sp vs H Q E → vs.length = ps.length)
    (hbody : ∀ (cdv : Value) (A : Around) (outer : List Env) (s : Shared) (H : Hp) (vs : List V) (Q : VK) (E : XK), cdv = .ref (He.cT K p).1 → A.guards = some [] →
      Room k (A.deeper (envOfC qual scope s.heap.objs.size (He.fAd K p) cdv)) → sp vs H Q E →
      ∃ t, PSs (cxOf CX0 P w K mg base N qual scope (He.fAd K p) cdv A outer s H E).nox body t ∧ t { nx := fun _ H' => Q .non H', rt := Q } (start N vs) H) : FnRG P w K mg base CX0 (k + 1) (He.fAd K p) sp := by
  obtain ⟨fd, F⟩ := F
  obtain ⟨oc, od, dV, kV, doc, pm, an, cdv0, ct, osl, e0, lk0, hcd0, _, _⟩ := id F.ex
  obtain ⟨c, ec⟩ := He.codeIn_ref hcd0
  have code : ∀ {oc' : Value} {od' : Option Addr} {osl' : Array (Option Value)} {fd' : FuncData}, K.lookup (He.fAd K p) = some ⟨oc', od', .func fd', osl'⟩ → fd'.code = cdv0 → cdv0 = .ref (He.cT K p).1 := by
    intro oc' od' osl' fd' l e
    show cdv0 = .ref (He.codeOf K p)
    rw [He.codeOf_eq l (e.trans ec), ec]
  have c0 : cdv0 = .ref (He.cT K p).1 := code lk0 (by rw [e0])
  intro A outer s H us vs Q E hg hr e1 r hsp
  have kin : K.In s.heap := e1.mod.kin.keeps fun b o e => (e1.bs b o e).1
  have nol : s.heap.NoLimit := e1.mod.nolimit.keeps fun b o e => (e1.bs b o e).1
  have hl : vs.length = ps.length := len _ _ _ _ hsp
  have hl' : us.length = ps.length := r.length ▸ hl
  have bs := F.bindsN B s us kin (by rw [List.append_nil]; exact hl')
  rw [List.append_nil] at bs
  subst e0
  have kinds : ∀ y ∈ ps.zip us, scope.names.lookup y.1 = some .local ∨
      (scope.names.lookup y.1 = some .cell ∧ ((cellsFrom (s.heap.objs.size + 1) scope.names []).lookup y.1).isSome = true) := by
    rintro ⟨n, v⟩ hy
    exact (S.par n (List.of_mem_zip hy).1).imp id fun q => ⟨q, PySem.W.cellsFrom_some _ _ _ (.inl q)⟩
  apply codeAny_call_function hr.depth (kin _ _ lk0) rfl S.co S.gen rfl (PySem.W.codeRec_of kin hcd0) (bs _ _ _ _ ?_)
  refine wpAny_newFunctionEnv_cells S.kind kinds fun env he s1 x1 => ?_
  subst he
  refine ⟨nol.keeps x1.toInCall.keep, codeAny_func ?_⟩
  obtain ⟨t, ht, hq⟩ := hbody cdv0 A outer s H vs Q E c0 hg (hr.deeper _) hsp
  have J0 := inv_start (CX := CX0) (P := P) (w := w) (K := K) (mg := mg) (base := base) (outer := outer) (E := E) S hr.hd e1 hl r x1
  refine wpAny_mono (ht.nox.run [] s1 _ H _ J0 hq) (fun fl s' hs => ?_) fun _ _ z => z
  match fl, hs with
  | .ret u, hs => obtain ⟨v, σ', H', J, rv, q⟩ := hs; exact ⟨v, H', J.os, J.bare, J.base, J.hok, rv, q⟩
  | .next, hs => obtain ⟨σ', H', J, q⟩ := hs; exact ⟨V.non, H', J.os, J.bare, J.base, J.hok, rfl, q⟩
  | .brk, hs => obtain ⟨_, _, _, q⟩ := hs; exact False.elim q
  | .cont, hs => obtain ⟨_, _, _, q⟩ := hs; exact False.elim q
end
end Ws

set_option Elab.async false
set_option linter.all false
set_option maxRecDepth 100000
set_option maxHeartbeats 4000000
namespace Ws
open PySem PySem.Spec PyProof.Rows L2
theorem ifb {c : Bool} {A B : Prop} (h1 : c = true → A) (h2 : c = false → B) : if c = true then A else B := by
  cases c with
  | true => exact iteT (h1 rfl)
  | false => exact iteF (h2 rfl)
theorem sz {n m : Nat} (h : n ≤ m) (hm : m ≤ 1000 := by decide) : n ≤ sizeLine := Nat.le_trans (Nat.le_trans h hm) (by rw [sizeLine_eq]; decide)
section
variable {P : Program} {w : World} {K : PySem.W.Frag} {mg : Str → Option Value} {base : Heap}
def sp_is_number : Sp := fun vs H Q _ => ∃ i, vs = [.int i] ∧ Q (.bl true) H
theorem sc_is_number : FnScope ["thing"] ["thing"] (defScope s_is_number) := ⟨rfl, rfl, rfl, by decide +kernel, rfl, by decide +kernel, by decide +kernel⟩
theorem ok_is_number (x : Fx K mg w) : FnR P w K mg base CX0 1 (a_is_number K) sp_is_number := by
  refine okR x.F_is_number sc_is_number (fun _ _ _ _ _ _ us hl => match us, hl with | [_], _ => rfl) (fun vs H Q E h => by obtain ⟨i, rfl, hQ⟩ := h; rfl) (fun cdv A outer s H vs Q E hr h => ?_)
  obtain ⟨i, rfl, hQ⟩ := h
  refine ⟨_, (pss_one (ps_ret (pe_and (pe_callB (r := rIsi K) call_isi rfl x.n_isinstance bb_isinstance (pa_cons (pv 0) (pa_cons (pe_gT x.n_int (by rfl) rfl) pa_nil))) (pe_one (pe_not (pe_callB (r := rIsi K) call_isi rfl x.n_isinstance bb_isinstance (pa_cons (pv 0) (pa_cons (pe_gT x.n_bool (by rfl) rfl) pa_nil)))))))), ?_⟩
  refine ⟨_, rfl, _, _, _, _, true, rfl, .ty _, .base (.int i), kit_ty (by decide +kernel), true, rfl, iteT ?_⟩
  exact ⟨_, rfl, _, _, _, _, false, rfl, .ty _, .base (.int i), kit_ty (by decide +kernel), false, rfl, hQ⟩
/-- a word of the text: 1 to 6 letters -/
def letters : Str := "abcdefghijklmnopqrstuvwxyz"
def isName (z : Str) : Bool := decide (1 ≤ z.length) && (decide (z.length ≤ 6) && z.cps.toList.all fun c => decide (c ∈ letters.cps.toList))
def sp_is_name : Sp := fun vs H Q _ => ∃ z, vs = [.str z] ∧ z.length ≤ 1000 ∧ ∀ H', Ext H H' → Q (.bl (isName z)) H'
theorem sc_is_name : FnScope ["thing", "letter"] ["thing"] (defScope s_is_name) := ⟨rfl, rfl, rfl, by decide +kernel, rfl, by decide +kernel, by decide +kernel⟩
theorem ok_is_name (x : Fx K mg w) : FnR P w K mg base CX0 1 (a_is_name K) sp_is_name := by
  refine okR x.F_is_name sc_is_name (fun _ _ _ _ _ _ us hl => match us, hl with | [_], _ => rfl) (fun vs H Q E h => by obtain ⟨z, rfl, hz, hQ⟩ := h; rfl) (fun cdv A outer s H vs Q E hr h => ?_)
  obtain ⟨z, rfl, hz, hQ⟩ := h
  refine ⟨_, (pss_cons (ps_if (PW.pt (pw_or (pt_not (pt_val (pe_callB (r := rIsi K) call_isi rfl x.n_isinstance bb_isinstance (pa_cons (pv 0) (pa_cons (pe_gT x.n_str (by rfl) rfl) pa_nil))))) (pw_or1 (pt_not (pt_chain op_le op_le pe_int (pe_callB call_len_str rfl x.n_len bb_len (pa_cons (pv 0) pa_nil)) (pe_gI x.i_LONGEST_NAME rfl))))))
 (pss_one (ps_ret pe_bl))
 pss_nil)
 (pss_one (ps_ret (pe_callB (r := rAll K) (cr_all rfl) rfl x.n_all bb_all (pa_cons (pe_lc (own := [("letter", 1)]) (tt := tYes) rfl sc_is_name.nd (pi_str (pv 0)) (blkOk_by (N := ["thing", "letter"]) (sc := defScope s_is_name) (by decide +kernel)) (fun _ _ _ _ _ => (pg_name (i := 1) sc_is_name.nd rfl (Or.inl rfl))) (fun _ _ _ _ _ => pts_nil) (fun _ _ _ _ _ => (pe_cmpR op_in_sign (pv 1) (pe_gS x.z_LETTERS rfl) rfl))) pa_nil))))), ?_⟩
  refine ⟨_, rfl, _, _, _, _, true, rfl, .ty _, .base (.str z), kit_ty (by decide +kernel), true, rfl, iteF ?_⟩
  refine ⟨_, rfl, z, rfl, sz hz, _, _, rfl, rfl, _, rfl, ifb (fun h1 => ?_) (fun h1 => ?_)⟩
  · refine ⟨_, _, rfl, rfl, _, rfl, ifb (fun h2 => ?_) (fun h2 => ?_)⟩
    · have e : isName z = false := by
        have n2 : decide (z.length ≤ 6) = false := decide_eq_false fun q => by simp at h2; omega
        rw [isName, n2]; simp
      have := hQ H Ext.rfl'
      rwa [e] at this
    · have n1 : decide (1 ≤ z.length) = true := decide_eq_true (by simp at h1; omega)
      have n2 : decide (z.length ≤ 6) = true := decide_eq_true (by simp at h2; omega)
      refine ⟨_, rfl, z, rfl, fun D hD => lc_map std_str hD (fun v => match v with | .str y => some (.bl (y.cps.toList.all fun c => decide (c ∈ letters.cps.toList))) | _ => none) ?_ (fun y H' Nx hy e c1 c2 => ?_) (fun H' e hD' => ?_)⟩
      · rw [List.length_map, Array.length_toList]; exact hz
      · obtain ⟨c, hc, rfl⟩ := List.mem_map.mp hy
        refine ⟨rfl, _, rfl, _, _, rfl, rfl, ?_⟩
        exact c1 _ _ Ext.rfl' (by simp [letters])
      · refine ⟨D, z.cps.toList.map fun c => decide (c ∈ letters.cps.toList), rfl, .of ?_, ?_⟩
        · rw [hD']
          congr 2
          rw [List.filterMap_map, List.map_map]
          simp [Function.comp_def]
        · have := hQ H' e
          rw [isName, n1, n2] at this
          simpa [List.all_map, Function.comp_def] using this
  · refine ⟨_, rfl, iteT ?_⟩
    have e : isName z = false := by
      have n1 : decide (1 ≤ z.length) = false := decide_eq_false fun q => by simp at h1; omega
      rw [isName, n1]; simp
    have := hQ H Ext.rfl'
    rwa [e] at this
/-! ### are_different -/
theorem put_len : ∀ (zs : List Str) (kvs : List (Key × V)), (putAll kvs (zs.map fun z => (Sum.inr z, V.bl true))).length ≤ kvs.length + zs.length ∧
    ((putAll kvs (zs.map fun z => (Sum.inr z, V.bl true))).length = kvs.length + zs.length ↔ zs.Nodup ∧ ∀ z ∈ zs, valV kvs (Sum.inr z) = none)
  | [], kvs => ⟨Nat.le_refl _, fun _ => ⟨List.nodup_nil, fun z h => by simp at h⟩, fun _ => rfl⟩
  | z :: zs, kvs => by
    have e : putAll kvs ((z :: zs).map fun z => (Sum.inr z, V.bl true)) = putAll (putK kvs (Sum.inr z) (.bl true)) (zs.map fun z => (Sum.inr z, V.bl true)) := rfl
    obtain ⟨ih1, ih2⟩ := put_len zs (putK kvs (Sum.inr z) (.bl true))
    have vp : ∀ k, valV (putK kvs (Sum.inr z) (.bl true)) k = if k = Sum.inr z then some (.bl true) else valV kvs k := fun k => valV_put kvs _ k _
    rw [e]
    cases hv : valV kvs (Sum.inr z) with
    | none =>
      have hl : (putK kvs (Sum.inr z) (.bl true)).length = kvs.length + 1 := by rw [putK_new _ hv]; simp
      rw [hl] at ih1 ih2
      simp only [List.length_cons]
      refine ⟨by omega, ?_⟩
      rw [show kvs.length + (zs.length + 1) = kvs.length + 1 + zs.length by omega, ih2, List.nodup_cons]
      constructor
      · rintro ⟨nd, h⟩
        refine ⟨⟨fun hz => ?_, nd⟩, fun y hy => ?_⟩
        · have := h z hz
          rw [vp, if_pos rfl] at this
          cases this
        · rcases List.mem_cons.mp hy with rfl | hy
          · exact hv
          · have := h y hy
            rw [vp] at this
            split at this
            · cases this
            · exact this
      · rintro ⟨⟨hz, nd⟩, h⟩
        refine ⟨nd, fun y hy => ?_⟩
        rw [vp, if_neg (fun q => hz (by cases q; exact hy))]
        exact h y (List.mem_cons_of_mem _ hy)
    | some v =>
      have hl : (putK kvs (Sum.inr z) (.bl true)).length = kvs.length := by
        unfold putK
        rw [if_pos (by rw [valV_any, hv]; rfl), List.length_map]
      rw [hl] at ih1 ih2
      simp only [List.length_cons]
      refine ⟨by omega, fun h => by omega, fun h => ?_⟩
      have := h.2 z List.mem_cons_self
      rw [hv] at this
      cases this
def sp_are_different (K : PySem.W.Frag) : Sp := fun vs H Q _ => ∃ (a : Addr) (zs : List Str), vs = [.ref a] ∧ Sq K H a (zs.map V.str) ∧ zs.length ≤ 1000 ∧ ∀ H', Ext H H' → Q (.bl (decide zs.Nodup)) H'
theorem sc_are_different : FnScope ["things", "thing"] ["things"] (defScope s_are_different) := ⟨rfl, rfl, rfl, by decide +kernel, rfl, by decide +kernel, by decide +kernel⟩
theorem ok_are_different (x : Fx K mg w) : FnR P w K mg base CX0 1 (a_are_different K) (sp_are_different K) := by
  refine okR x.F_are_different sc_are_different (fun _ _ _ _ _ _ us hl => match us, hl with | [_], _ => rfl) (fun vs H Q E h => by obtain ⟨a, zs, rfl, hs, hz, hQ⟩ := h; rfl) (fun cdv A outer s H vs Q E hr h => ?_)
  obtain ⟨a, zs, rfl, hs, hz, hQ⟩ := h
  refine ⟨_, (pss_one (ps_ret (pe_cmpR op_eq (pe_callB call_lenD rfl x.n_len bb_len (pa_cons (pe_dc (own := [("thing", 1)]) (tt := tYes) rfl sc_are_different.nd (pi_seqK (K := K) rfl (pv 0)) (blkOk_by (N := ["things", "thing"]) (sc := defScope s_are_different) (by decide +kernel)) (fun _ _ _ _ _ => (pg_name (i := 1) sc_are_different.nd rfl (Or.inl rfl))) (fun _ _ _ _ _ => pts_nil) (fun _ _ _ _ _ => (pv 1)) (fun _ _ _ _ _ => pe_bl)) pa_nil)) (pe_callB (r := rLenK K) call_lenK rfl x.n_len bb_len (pa_cons (pv 0) pa_nil)) (nomark _)))), ?_⟩
  refine seq_go rfl hs (fun z => z) fun J st D hD => dc_map st hD (fun v => (match v with | .str z => Sum.inr z | _ => Sum.inl 0, .bl true)) (by simpa using hz) (fun y H' Nx hy e c1 => ?_) (fun H' e hD' => ?_)
  · obtain ⟨z, hz, rfl⟩ := List.mem_map.mp hy
    exact ⟨rfl, _, rfl, c1 _ _ _ Ext.rfl' rfl rfl⟩
  · refine ⟨D, _, rfl, hD', _, rfl, _, _, rfl, sq_lenV (sq_ext hs e), rfl, ?_⟩
    rw [List.map_map]
    have h := hQ H' e
    obtain ⟨_, iff⟩ := put_len zs []
    have e1 : decide (V.int ↑(putAll [] (zs.map fun z => (Sum.inr z, V.bl true))).length = V.int ↑(zs.map V.str).length) = decide zs.Nodup := by
      rw [decide_eq_decide, List.length_map]
      constructor
      · intro q
        injection q with q
        exact (iff.mp (by simp; omega)).1
      · intro q
        have := iff.mpr ⟨q, fun z _ => rfl⟩
        congr 1
        simp at this
        omega
    show Q (.bl (decide (V.int ↑(putAll [] (zs.map fun z => (Sum.inr z, V.bl true))).length = V.int ↑(zs.map V.str).length))) H'
    rw [e1]
    exact h
def sp_are_names (K : PySem.W.Frag) : Sp := fun vs H Q _ => ∃ (a : Addr) (zs : List Str), vs = [.ref a] ∧ Sq K H a (zs.map V.str) ∧ zs.length ≤ 1000 ∧ (∀ z ∈ zs, z.length ≤ 1000) ∧ ∀ H', Ext H H' → Q (.bl (zs.all isName && decide zs.Nodup)) H'
theorem sc_are_names : FnScope ["thing", "name"] ["thing"] (defScope s_are_names) := ⟨rfl, rfl, rfl, by decide +kernel, rfl, by decide +kernel, by decide +kernel⟩
theorem ok_are_names (x : Fx K mg w) : FnR P w K mg base CX0 2 (a_are_names K) (sp_are_names K) := by
  refine okR x.F_are_names sc_are_names (fun _ _ _ _ _ _ us hl => match us, hl with | [_], _ => rfl) (fun vs H Q E h => by obtain ⟨a, zs, rfl, hs, hl, hz, hQ⟩ := h; rfl) (fun cdv A outer s H vs Q E hr h => ?_)
  obtain ⟨a, zs, rfl, hs, hl, hz, hQ⟩ := h
  refine ⟨_, (pss_one (ps_ret (pe_and (pe_callB (r := rIsiT K) call_isiT rfl x.n_isinstance bb_isinstance (pa_cons (pv 0) (pa_cons (pe_tup (pa_cons (pe_gT x.n_list (by rfl) rfl) (pa_cons (pe_gT x.n_tuple (by rfl) rfl) pa_nil))) pa_nil))) (pe_and (pe_callB (r := rAll K) (cr_all rfl) rfl x.n_all bb_all (pa_cons (pe_lc (own := [("name", 1)]) (tt := tYes) rfl sc_are_names.nd (pi_seqK (K := K) rfl (pv 0)) (blkOk_by (N := ["thing", "name"]) (sc := defScope s_are_names) (by decide +kernel)) (fun _ _ _ _ _ => (pg_name (i := 1) sc_are_names.nd rfl (Or.inl rfl))) (fun _ _ _ _ _ => pts_nil) (fun _ _ _ _ _ => (pe_callR (ok_is_name x) (hr.mono (by decide)) rfl x.m_is_name (keep_of x.F_is_name) pass0 (pa_cons (pv 1) pa_nil)))) pa_nil)) (pe_one (pe_callR (ok_are_different x) (hr.mono (by decide)) rfl x.m_are_different (keep_of x.F_are_different) pass0 (pa_cons (pv 0) pa_nil))))))), ?_⟩
  refine ⟨_, rfl, by simp [sizeLine_eq], fun p hp => ?_⟩
  obtain ⟨t, us, k1, k2, k3⟩ := isi_seq hs hp
  refine ⟨_, p, _, t, us, true, rfl, upd_same, k1, k2, k3, true, rfl, iteT ?_⟩
  clear k1 k2 k3
  have e0 : Ext H (upd H p (.tup [.ty "list", .ty "tuple"])) := ext_new hp
  generalize upd H p (.tup [.ty "list", .ty "tuple"]) = H1 at e0
  refine seq_go rfl (sq_ext hs e0) (fun z => z) fun J st D hD => lc_map st hD (fun v => match v with | .str z => some (.bl (isName z)) | _ => none) (by simpa using hl) (fun y H' Nx hy e c1 c2 => ?_) (fun H' e hD' => ?_)
  · obtain ⟨z, hm, rfl⟩ := List.mem_map.mp hy
    exact ⟨rfl, _, rfl, z, rfl, hz z hm, fun H4 e4 => c1 _ _ e4 rfl⟩
  · refine ⟨D, zs.map isName, rfl, .of ?_, ?_⟩
    · rw [hD']
      congr 2
      rw [List.filterMap_map, List.map_map]
      simp [Function.comp_def]
    · have hh : (zs.map isName).all id = zs.all isName := by simp [List.all_map, Function.comp_def]
      rw [hh]
      refine ⟨_, rfl, ifb (fun h1 => ?_) fun h1 => ?_⟩
      · refine ⟨_, rfl, a, zs, rfl, sq_ext hs (e0.trans e), hl, fun H4 e4 => ?_⟩
        have := hQ H4 ((e0.trans e).trans e4)
        rwa [h1, Bool.true_and] at this
      · have := hQ H' (e0.trans e)
        rwa [h1, Bool.false_and] at this
end
end Ws

set_option Elab.async false
set_option linter.all false
set_option maxRecDepth 100000
set_option maxHeartbeats 4000000
namespace Ws
open PySem PySem.Spec PyProof.Rows L2
theorem ifT {c : Bool} {A B : Prop} (h : c = true) (a : A) : if c = true then A else B := by rw [if_pos h]; exact a
theorem ifF {c : Bool} {A B : Prop} (h : c = false) (b : B) : if c = true then A else B := by rw [if_neg (by rw [h]; simp)]; exact b
structure RuleD where
  share : Int
  mark : Str
  always : Bool
  late : Bool
  deriving DecidableEq
def RuleD.vs (r : RuleD) : List V := [.int r.share, .str r.mark, .bl r.always, .bl r.late]
def RuleD.ok (r : RuleD) : Prop := 0 ≤ r.share ∧ r.share ≤ 1000 ∧ isName r.mark = true
theorem paired_mem {α β : Type} {R : α → β → Prop} : ∀ {xs : List α} {ys : List β} {a : α}, Paired R xs ys → a ∈ xs → ∃ b, b ∈ ys ∧ R a b
  | _, _, _, .nil, h => by simp at h
  | _, _, _, .cons r t, h => by
    rcases List.mem_cons.mp h with rfl | h
    · exact ⟨_, List.mem_cons_self, r⟩
    · obtain ⟨b, h1, h2⟩ := paired_mem t h
      exact ⟨b, List.mem_cons_of_mem _ h1, h2⟩
section
variable {S : Addr → Prop} {K : PySem.W.Frag} {H H1 : Hp} {a o q : Addr} {u : HO}
/-- all of S stands somewhere: what is new is not of S -/
def Dm (S : Addr → Prop) (H : Hp) : Prop := ∀ a, S a → H a ≠ none
theorem Dm.kp {T : Addr → Prop} (d : Dm S H) (u : Kp T H H1) : Dm S H1 := fun a h => u.dom a (d a h)
theorem Dm.ext (d : Dm S H) (u : Ext H H1) : Dm S H1 := d.kp (T := no) (.ext u)
theorem At.ext (h : At S H a u) (e : Ext H H1) : At S H1 a u := h.kp (.ext e)
theorem At.fresh (d : Dm S H) (h : H a = none) : At S (upd H a u) a u := .new d h
theorem At.free (h : At S H a u) : At no H a u := ⟨h.1, fun z => z⟩
/-- one more that may change -/
def more (S : Addr → Prop) (q : Addr) : Addr → Prop := fun a => S a ∨ a = q
theorem At.grow (h : At S H a u) (hq : H q = none) : At (more S q) H a u := ⟨h.1, fun z => z.elim h.2 fun z => by rw [← z, h.1] at hq; cases hq⟩
theorem At.ne (h : At S H a u) (hq : H q = none) : a ≠ q := ne_of_none h.1 hq
def RuleAt (S : Addr → Prop) (K : PySem.W.Frag) (H : Hp) (o : Addr) (r : RuleD) : Prop := r.ok ∧ ∃ dx p, At S H o (.ins (c_Rule K) dx [("r_parts", .ref p)]) ∧ At S H p (.tup r.vs)
theorem RuleAt.kp {r : RuleD} (h : RuleAt S K H o r) (e : Kp S H H1) : RuleAt S K H1 o r := by
  obtain ⟨g, dx, p, h1, h2⟩ := h
  exact ⟨g, dx, p, h1.kp e, h2.kp e⟩
theorem RuleAt.ext {r : RuleD} (h : RuleAt S K H o r) (e : Ext H H1) : RuleAt S K H1 o r := h.kp (.ext e)
theorem RuleAt.grow {r : RuleD} (h : RuleAt S K H o r) (hq : H q = none) : RuleAt (more S q) K H o r := by
  obtain ⟨g, dx, p, h1, h2⟩ := h
  exact ⟨g, dx, p, h1.grow hq, h2.grow hq⟩
theorem RuleAt.free {r : RuleD} (h : RuleAt S K H o r) : RuleAt no K H o r := by
  obtain ⟨g, dx, p, h1, h2⟩ := h
  exact ⟨g, dx, p, h1.free, h2.free⟩
abbrev RulesAt (S : Addr → Prop) (K : PySem.W.Frag) (H : Hp) : List Addr → List RuleD → Prop := Paired (RuleAt S K H)
/-- a list, or a tuple that is not to change -/
def SqA (S : Addr → Prop) (H : Hp) (a : Addr) (xs : List V) : Prop := H a = some (.lst xs) ∨ At S H a (.tup xs)
theorem SqA.sq {xs : List V} (h : SqA S H a xs) : Sq K H a xs := h.imp (fun h => .inl h) fun h => .inl h.1
theorem SqA.ext {xs : List V} (h : SqA S H a xs) (e : Ext H H1) : SqA S H1 a xs := h.imp (fun h => e _ _ h) fun h => h.ext e
end
theorem isName_len {z : Str} (h : isName z = true) : z.length ≤ 6 := by
  unfold isName at h
  simp at h
  exact h.2.1
/-- only o may change -/
abbrev one (o : Addr) : Addr → Prop := fun a => a = o
theorem made_ext {H H2 : Hp} {x dx : Addr} {C : Addr} (hx : H x = none) (hd : H dx = none) (u : Kp (one x) (upd (upd H dx (.own x)) x (.ins C dx [])) H2) : Ext H H2 := fun a o e => by
  have n1 : a ≠ x := ne_of_none e hx
  have n2 : a ≠ dx := ne_of_none e hd
  refine u.keep a o ?_ n1
  rw [upd_ne n1, upd_ne n2]
  exact e
section
variable {P : Program} {w : World} {K : PySem.W.Frag} {mg : Str → Option Value} {base : Heap}
def sp_Rule_init (K : PySem.W.Frag) : Sp := fun vs H Q _ => ∃ (S : Addr → Prop) (o dx : Addr) (r : RuleD), vs = [.ref o, .int r.share, .str r.mark, .bl r.always, .bl r.late] ∧ Dm S H ∧ At S H o (.ins (c_Rule K) dx []) ∧ r.ok ∧
  ∀ H', Kp (one o) H H' → RuleAt S K H' o r → Q .non H'
theorem sc_Rule_init : FnScope ["self", "share", "mark", "always", "late"] ["self", "share", "mark", "always", "late"] (defScope s_Rule_init) := ⟨rfl, rfl, rfl, by decide +kernel, rfl, by decide +kernel, by decide +kernel⟩
theorem okf_Rule_init {fd : FuncData} {dvs : List V} (F : FunD K "__init__" "Rule.__init__" (defArgs s_Rule_init) (defBody s_Rule_init) (defScope s_Rule_init) dvs [] (a_Rule_init K) fd) (x : Fx K mg w) : FnOk P w K mg base CX0 2 (a_Rule_init K) fd ["self", "share", "mark", "always", "late"] (sp_Rule_init K) := by
  refine okFD F sc_Rule_init (fun vs H Q E h => by obtain ⟨S, o, dx, r, rfl, dm, ho, ⟨g1, g2, g3⟩, hQ⟩ := h; rfl) (fun cdv A outer s H vs Q E hr h => ?_)
  obtain ⟨S, o, dx, r, rfl, dm, ho, ⟨g1, g2, g3⟩, hQ⟩ := h
  refine ⟨_, (pss_cons (ps_if (PW.pt (pw_or (pt_not (pt_val (pe_callR (ok_is_number x) (hr.mono (by decide)) rfl x.m_is_number (keep_of x.F_is_number) pass0 (pa_cons (pv 1) pa_nil)))) (pw_or1 (pt_not (pt_chain op_le op_le pe_int (pv 1) (pe_gI x.i_MOST_FINE rfl))))))
 (pss_one ps_never)
 pss_nil)
 (pss_cons (ps_if (pt_not (pt_val (pe_callR (ok_is_name x) (hr.mono (by decide)) rfl x.m_is_name (keep_of x.F_is_name) pass0 (pa_cons (pv 2) pa_nil))))
 (pss_one ps_never)
 pss_nil)
 (pss_cons (ps_if (pt_not (pt_val (pe_callB (r := rIsi K) call_isi rfl x.n_isinstance bb_isinstance (pa_cons (pv 3) (pa_cons (pe_gT x.n_bool (by rfl) rfl) pa_nil)))))
 (pss_one ps_never)
 pss_nil)
 (pss_cons (ps_if (pt_not (pt_val (pe_callB (r := rIsi K) call_isi rfl x.n_isinstance bb_isinstance (pa_cons (pv 4) (pa_cons (pe_gT x.n_bool (by rfl) rfl) pa_nil)))))
 (pss_one ps_never)
 pss_nil)
 (pss_one (ps_fld (pv 0) (pe_tup (pa_cons (pv 1) (pa_cons (pv 2) (pa_cons (pv 3) (pa_cons (pv 4) pa_nil))))) rfl)))))), ?_⟩
  refine ⟨_, rfl, _, rfl, true, rfl, ?_⟩
  refine ⟨_, rfl, _, _, rfl, rfl, _, rfl, ifT (decide_eq_true g1) ⟨_, _, rfl, rfl, _, rfl, ifF (by simp [g2]) ?_⟩⟩
  refine ⟨_, rfl, _, rfl, Nat.le_trans (isName_len g3) (by decide), fun H1 e1 => ⟨_, rfl, ifF (by simp [g3]) ?_⟩⟩
  refine ⟨_, rfl, _, _, _, _, true, rfl, .ty _, .base (.bl _), kit_ty (by decide +kernel), true, rfl, ?_⟩
  refine ⟨_, rfl, _, _, _, _, true, rfl, .ty _, .base (.bl _), kit_ty (by decide +kernel), true, rfl, ?_⟩
  refine ⟨_, rfl, _, rfl, _, rfl, _, rfl, by simp [sizeLine_eq], fun p hp => ⟨_, rfl, o, _, dx, [], rfl, ?_, x.cl_Rule, x.na_Rule_r_parts, by simp, ?_⟩⟩
  · exact ext_new hp _ _ (e1 _ _ ho.1)
  · have no : p ≠ o := fun z => by rw [z, e1 _ _ ho.1] at hp; cases hp
    exact hQ _ (((Kp.ext e1).add hp).put rfl) ⟨⟨g1, g2, g3⟩, dx, p, ⟨upd_same, ho.2⟩, by rw [upd_ne no, upd_same]; rfl, fun z => (dm.ext e1) p z hp⟩
theorem ok_Rule_init (x : Fx K mg w) : FnR P w K mg base CX0 2 (a_Rule_init K) (sp_Rule_init K) := by
  obtain ⟨fd, F⟩ := x.F_Rule_init
  exact rawFD F (by simp) (okf_Rule_init F x) (fun T kV doc pm an cdv ct us its hu hi => match us, hu, its, hi with | [_, _, _, _, _], _, [_, _, _], _ => ⟨_, rfl, rfl⟩)
def sp_Rule_share (S : Addr → Prop) (K : PySem.W.Frag) : Sp := fun vs H Q _ => ∃ (o : Addr) (r : RuleD), vs = [.ref o] ∧ RuleAt S K H o r ∧ Q (.int r.share) H
theorem sc_Rule_share : FnScope ["self"] ["self"] (defScope s_Rule_share) := ⟨rfl, rfl, rfl, by decide +kernel, rfl, by decide +kernel, by decide +kernel⟩
theorem ok_Rule_share (x : Fx K mg w) : FnR P w K mg base CX0 1 (a_Rule_share K) (sp_Rule_share no K) := by
  refine okR x.F_Rule_share sc_Rule_share (fun _ _ _ _ _ _ us hl => match us, hl with | [_], _ => rfl) (fun vs H Q E h => by obtain ⟨o, r, rfl, ⟨_, dx, p, h1, h2⟩, hQ⟩ := h; rfl) (fun cdv A outer s H vs Q E hr h => ?_)
  obtain ⟨o, r, rfl, ⟨_, dx, p, h1, h2⟩, hQ⟩ := h
  refine ⟨_, (pss_one (ps_ret (pe_ix (r := rIxT K) ix_tup (pe_fldK (K := K) rfl (pv 0) rfl) pe_int (fun _ _ => rfl)))), ?_⟩
  exact ⟨_, rfl, o, _, dx, _, _, rfl, h1.1, x.cl_Rule, x.na_Rule_r_parts, rfl, p, _, 0, _, rfl, rfl, SqT.of h2.1, atI_nat (j := 0) rfl, hQ⟩
/-- equal as two rules are -/
def RuleR (S : Addr → Prop) (K : PySem.W.Frag) (p q : Addr) (b : Bool) (H : Hp) : Prop := ∃ r r', RuleAt S K H p r ∧ RuleAt S K H q r' ∧ b = decide (r = r')
theorem isi_own {K : PySem.W.Frag} {H : Hp} {a C dx : Addr} {fs : List (Str × V)} (h : H a = some (.ins C dx fs)) (cl : Cls K C) (ha : PySem.W.findIn K (.ref C) "__class__" = some (some (.builtin "object.__class__")))
    (hn : PySem.W.specialIn K (.builtin "object.__class__") "__get__" = some (some (.builtin "getset_descriptor.__get__"))) (ht : PySem.W.takesIn K (.builtin "object.__class__") = some true)
    (hm : PySem.W.mroIn K C (.type "object") = some true) : TyX K H (.ref a) (.ref C) := .base (.ins h cl ha hn ht hm)
def RuleD.dat (r : RuleD) : PyData := .tuple [.int r.share, .str r.mark, .bool r.always, .bool r.late]
theorem rule_dp {K : PySem.W.Frag} {H : Hp} {p : Addr} {r : RuleD} (h : H p = some (.tup r.vs)) : Dp K H (.ref p) r.dat := .tup (SqT.of h) (.cons (.int _) (.cons (.str _) (.cons (.bl _) (.cons (.bl _) .nil))))
theorem isName_ok {z : Str} (h : isName z = true) : PyData.strOk z = true := by
  unfold isName at h
  simp only [Bool.and_eq_true, List.all_eq_true, decide_eq_true_eq] at h
  have key : ∀ c ∈ letters.cps.toList, c ∈ letters.cps.toList ∧ 97 ≤ c ∧ c ≤ 122 := by decide +kernel
  show z.cps.all (fun c => decide (c < 0x110000)) = true
  rw [← Array.all_toList, List.all_eq_true]
  intro c hc
  have := key c (h.2.2 c hc)
  exact decide_eq_true (by omega)
theorem rule_shaped {r : RuleD} (h : r.ok) : SeqAt.shaped r.dat = true := by
  unfold SeqAt.shaped RuleD.dat
  simp [PyData.canLay0, PyData.canLayAll0, PyData.depth, PyData.depthAll, isName_ok h.2.2]
theorem rule_eqv (r r' : RuleD) : PyData.eqv r.dat r'.dat = decide (r = r') := by
  obtain ⟨a, b, c, d⟩ := r
  obtain ⟨a', b', c', d'⟩ := r'
  simp only [RuleD.dat, PyData.eqv, PyData.eqvAll, RuleD.mk.injEq]
  rw [Bool.eq_iff_iff]
  simp
theorem sc_Rule_eq : FnScope ["self", "other"] ["self", "other"] (defScope s_Rule_eq) := ⟨rfl, rfl, rfl, by decide +kernel, rfl, by decide +kernel, by decide +kernel⟩
theorem ok_Rule_eq (x : Fx K mg w) : FnR P w K mg base CX0 1 (a_Rule_eq K) (spEqb (RuleR no K)) := by
  refine okR x.F_Rule_eq sc_Rule_eq (fun _ _ _ _ _ _ us hl => match us, hl with | [_, _], _ => rfl) (fun vs H Q E h => by obtain ⟨p, q, b, rfl, ⟨r, r', hp, hq, rfl⟩, hQ⟩ := h; rfl) (fun cdv A outer s H vs Q E hr h => ?_)
  obtain ⟨p, q, b, rfl, ⟨r, r', hp, hq, rfl⟩, hQ⟩ := h
  refine ⟨_, (pss_one (ps_ret (pe_and (pe_callB (r := rIsi K) call_isi rfl x.n_isinstance bb_isinstance (pa_cons (pv 1) (pa_cons (pe_gR x.m_Rule rfl) pa_nil))) (pe_one (pe_cmpR (show OpR _ _ (rEqD K) from op_eqD hr.units) (pe_fldK (K := K) rfl (pv 0) rfl) (pe_fldK (K := K) rfl (pv 1) rfl) (nomark _)))))), ?_⟩
  obtain ⟨g, dx, pp, h1, h2⟩ := hp
  obtain ⟨g', dy, pq, h3, h4⟩ := hq
  refine ⟨_, rfl, _, _, _, _, true, rfl, .own _, isi_own h3.1 x.cl_Rule x.cc_Rule x.cget x.ctak x.mro_Rule, x.kit_Rule, true, rfl, ?_⟩
  refine ⟨_, rfl, p, _, dx, _, _, rfl, h1.1, x.cl_Rule, x.na_Rule_r_parts, rfl, _, rfl, q, _, dy, _, _, rfl, h3.1, x.cl_Rule, x.na_Rule_r_parts, rfl, _, _, rule_dp h2.1, rule_dp h4.1, rule_shaped g, rule_shaped g', ?_⟩
  rw [rule_eqv]
  exact hQ H Ext.rfl'
def sp_are_rules (S : Addr → Prop) (K : PySem.W.Frag) : Sp := fun vs H Q _ => ∃ (a : Addr) (os : List Addr) (rs : List RuleD), vs = [.ref a] ∧ Sq K H a (os.map V.ref) ∧ RulesAt S K H os rs ∧ 1 ≤ rs.length ∧ rs.length ≤ 2 ∧ ∀ H', Ext H H' → Q (.bl true) H'
theorem sc_are_rules : FnScope ["thing", "rule"] ["thing"] (defScope s_are_rules) := ⟨rfl, rfl, rfl, by decide +kernel, rfl, by decide +kernel, by decide +kernel⟩
theorem ok_are_rules (x : Fx K mg w) : FnR P w K mg base CX0 1 (a_are_rules K) (sp_are_rules no K) := by
  refine okR x.F_are_rules sc_are_rules (fun _ _ _ _ _ _ us hl => match us, hl with | [_], _ => rfl) (fun vs H Q E h => by obtain ⟨a, os, rs, rfl, hs, hr2, l1, l2, hQ⟩ := h; rfl) (fun cdv A outer s H vs Q E hr h => ?_)
  obtain ⟨a, os, rs, rfl, hs, hr2, l1, l2, hQ⟩ := h
  refine ⟨_, (pss_cons (ps_if (PW.pt (pw_or (pt_not (pt_val (pe_callB (r := rIsiT K) call_isiT rfl x.n_isinstance bb_isinstance (pa_cons (pv 0) (pa_cons (pe_tup (pa_cons (pe_gT x.n_list (by rfl) rfl) (pa_cons (pe_gT x.n_tuple (by rfl) rfl) pa_nil))) pa_nil))))) (pw_or1 (pt_not (pt_chain op_le op_le pe_int (pe_callB (r := rLenK K) call_lenK rfl x.n_len bb_len (pa_cons (pv 0) pa_nil)) pe_int)))))
 (pss_one (ps_ret pe_bl))
 pss_nil)
 (pss_one (ps_ret (pe_callB (r := rAll K) (cr_all rfl) rfl x.n_all bb_all (pa_cons (pe_lc (own := [("rule", 1)]) (tt := tYes) rfl sc_are_rules.nd (pi_seqK (K := K) rfl (pv 0)) (blkOk_by (N := ["thing", "rule"]) (sc := defScope s_are_rules) (by decide +kernel)) (fun _ _ _ _ _ => (pg_name (i := 1) sc_are_rules.nd rfl (Or.inl rfl))) (fun _ _ _ _ _ => pts_nil) (fun _ _ _ _ _ => (pe_callB (r := rIsi K) call_isi rfl x.n_isinstance bb_isinstance (pa_cons (pv 1) (pa_cons (pe_gR x.m_Rule rfl) pa_nil))))) pa_nil))))), ?_⟩
  have hl := hr2.length
  refine ⟨_, rfl, by simp [sizeLine_eq], fun p hp => ?_⟩
  obtain ⟨t, us, k1, k2, k3⟩ := isi_seq hs hp
  refine ⟨_, p, _, t, us, true, rfl, upd_same, k1, k2, k3, true, rfl, ?_⟩
  clear k1 k2 k3
  have e0 : Ext H (upd H p (.tup [.ty "list", .ty "tuple"])) := ext_new hp
  generalize upd H p (.tup [.ty "list", .ty "tuple"]) = H1 at e0
  refine ⟨_, rfl, _, _, rfl, sq_lenV (sq_ext hs e0), _, _, rfl, rfl, _, rfl, ifT (decide_eq_true (by simp; omega)) ⟨_, _, rfl, rfl, _, rfl, ifF (by simp; omega) ?_⟩⟩
  refine seq_go rfl (sq_ext hs e0) (fun z => z) fun J st D hD => lc_map st hD (fun v => some (.bl true)) (by simp; omega) (fun y H' Nx hy e c1 c2 => ?_) (fun H' e hD' => ?_)
  · obtain ⟨z, hm, rfl⟩ := List.mem_map.mp hy
    obtain ⟨r, hr3⟩ := paired_mem hr2 hm
    obtain ⟨_, dx, pp, h1, h2⟩ := hr3.2.ext (e0.trans e)
    exact ⟨rfl, _, rfl, _, _, _, _, true, rfl, .own _, isi_own h1.1 x.cl_Rule x.cc_Rule x.cget x.ctak x.mro_Rule, x.kit_Rule, c1 _ _ Ext.rfl' rfl⟩
  · refine ⟨D, os.map fun _ => true, rfl, .of ?_, ?_⟩
    · rw [hD']
      congr 2
      rw [List.filterMap_map, List.map_map]
      simp [Function.comp_def]
    · have hh : (os.map fun _ => true).all id = true := by simp
      rw [hh]
      exact hQ H' (e0.trans e)
theorem inV_str (z : Str) (zs : List Str) : inV (.str z) (zs.map V.str) = decide (z ∈ zs) := by
  unfold inV
  rw [List.any_map, Bool.eq_iff_iff]
  simp only [List.any_eq_true, decide_eq_true_eq, Function.comp]
  constructor
  · rintro ⟨y, hy, e⟩
    have : y = z := by simpa [eqV] using e
    exact this ▸ hy
  · exact fun h => ⟨z, h, by simp [eqV]⟩
theorem flat_strs (zs : List Str) : (zs.map V.str).all flatV = true := by simp [flatV]
structure HouseD where
  rules : List RuleD
  calls : List Str
  lost : List Str
  fails : Bool
  deriving DecidableEq
/-- what a house may be made of -/
structure HouseD.Fit (m : HouseD) : Prop where
  r1 : 1 ≤ m.rules.length
  r2 : m.rules.length ≤ 2
  nm : ∀ z ∈ m.calls, isName z = true
  nd : m.calls.Nodup
  ln : m.calls.length < 64
  ndl : m.lost.Nodup
  sub : ∀ z ∈ m.lost, z ∈ m.calls
  lnl : m.lost.length < 64
/-- what is made of it -/
structure Made (m h : HouseD) : Prop where
  rules : h.rules = m.rules
  calls : h.calls.Perm m.calls
  sc : sortedS h.calls = true
  lost : h.lost.Perm m.lost
  sl : sortedS h.lost = true
  fails : h.fails = m.fails
theorem Made.fit {m h : HouseD} (d : Made m h) (f : m.Fit) : h.Fit := by
  refine ⟨by rw [d.rules]; exact f.r1, by rw [d.rules]; exact f.r2, fun z hz => f.nm z (d.calls.mem_iff.mp hz), d.calls.nodup_iff.mpr f.nd, by rw [d.calls.length_eq]; exact f.ln, d.lost.nodup_iff.mpr f.ndl, fun z hz => d.calls.mem_iff.mpr (f.sub z (d.lost.mem_iff.mp hz)), by rw [d.lost.length_eq]; exact f.lnl⟩
section
variable {S : Addr → Prop} {K : PySem.W.Frag} {H H1 : Hp} {a o q : Addr} {u v : HO}
def HouseAt (S : Addr → Prop) (K : PySem.W.Frag) (H : Hp) (o : Addr) (h : HouseD) : Prop := h.Fit ∧ sortedS h.calls = true ∧ sortedS h.lost = true ∧ ∃ dx pr pc pl os,
  At S H o (.ins (c_House K) dx [("h_rules", .ref pr), ("h_calls", .ref pc), ("h_lost", .ref pl), ("h_fails", .bl h.fails)]) ∧ At S H pr (.tup (os.map V.ref)) ∧ RulesAt S K H os h.rules ∧ At S H pc (.tup (h.calls.map V.str)) ∧ At S H pl (.tup (h.lost.map V.str))
theorem HouseAt.kp {h : HouseD} (t : HouseAt S K H o h) (e : Kp S H H1) : HouseAt S K H1 o h := by
  obtain ⟨f, s1, s2, dx, pr, pc, pl, os, h1, h2, h3, h4, h5⟩ := t
  exact ⟨f, s1, s2, dx, pr, pc, pl, os, h1.kp e, h2.kp e, Paired.mapP h3 fun _ _ z => z.kp e, h4.kp e, h5.kp e⟩
theorem HouseAt.ext {h : HouseD} (t : HouseAt S K H o h) (e : Ext H H1) : HouseAt S K H1 o h := t.kp (.ext e)
theorem HouseAt.grow {h : HouseD} (t : HouseAt S K H o h) (hq : H q = none) : HouseAt (more S q) K H o h := by
  obtain ⟨f, s1, s2, dx, pr, pc, pl, os, h1, h2, h3, h4, h5⟩ := t
  exact ⟨f, s1, s2, dx, pr, pc, pl, os, h1.grow hq, h2.grow hq, Paired.mapP h3 fun _ _ z => z.grow hq, h4.grow hq, h5.grow hq⟩
theorem HouseAt.free {h : HouseD} (t : HouseAt S K H o h) : HouseAt no K H o h := by
  obtain ⟨f, s1, s2, dx, pr, pc, pl, os, h1, h2, h3, h4, h5⟩ := t
  exact ⟨f, s1, s2, dx, pr, pc, pl, os, h1.free, h2.free, Paired.mapP h3 fun _ _ z => z.free, h4.free, h5.free⟩
/-- other things than the one at o -/
theorem At.off (h : At S H a u) (ho : H o = some v) (n : u ≠ v) (e : Kp (one o) H H1) : At S H1 a u := ⟨e.keep a u h.1 fun z => by
  have z : a = o := z
  have h1 := h.1
  rw [z, ho] at h1
  exact n (Option.some.inj h1).symm, h.2⟩
theorem RuleAt.off {r : RuleD} {C dx : Addr} (h : RuleAt S K H a r) (ho : H o = some (.ins C dx [])) (e : Kp (one o) H H1) : RuleAt S K H1 a r := by
  obtain ⟨g, dx', p, h1, h2⟩ := h
  exact ⟨g, dx', p, h1.off ho (by simp) e, h2.off ho (by simp) e⟩
end
/-- tuple(sorted(x)) -/
theorem srt_tup {i : Nat} {a : Addr} {σ : L2.St} {H : Hp} {zs : List Str} {Q : VK} (hv : σ[i]? = some (some (.ref a))) (h : Sq K H a (zs.map V.str)) (hl : zs.length < 64)
    (k : ∀ (ys : List Str) (p : Addr) (H' : Hp), ys.Perm zs → sortedS ys = true → Ext H H' → H p = none → H' p = some (.tup (ys.map V.str)) → Q (.ref p) H') :
    tCB (rTupOf K) (tCons (tCB (rSortS K) (tCons (tVar i) tNil)) tNil) σ H Q := by
  refine ⟨_, hv, a, zs, rfl, sq_s h, hl, fun ys p hp hs hn => ⟨p, _, rfl, .inl ⟨.of upd_same, fun l nl => ?_⟩⟩⟩
  have e1 : Ext H (upd H p (.lst (ys.map V.str))) := ext_new hn
  refine k ys l _ hp hs (e1.trans (ext_new nl)) ?_ upd_same
  cases q : H l with
  | none => rfl
  | some u => rw [e1 _ _ q] at nl; cases nl
/-- tuple(x) -/
theorem tup_of {i : Nat} {a : Addr} {S : Addr → Prop} {σ : L2.St} {H : Hp} {xs : List V} {Q : VK} (hv : σ[i]? = some (some (.ref a))) (h : SqA S H a xs) (dm : Dm S H)
    (k : ∀ (p : Addr) (H' : Hp), Ext H H' → At S H' p (.tup xs) → Q (.ref p) H') : tCB (rTupOf K) (tCons (tVar i) tNil) σ H Q := by
  rcases h with h | h
  · exact ⟨_, hv, a, xs, rfl, .inl ⟨.of h, fun l nl => k l _ (ext_new nl) (.fresh dm nl)⟩⟩
  · exact ⟨_, hv, a, xs, rfl, .inr ⟨.of h.1, k a H Ext.rfl' h⟩⟩
def sp_House_init (K : PySem.W.Frag) : Sp := fun vs H Q _ => ∃ (S : Addr → Prop) (o dx ar ac al : Addr) (os : List Addr) (m : HouseD), vs = [.ref o, .ref ar, .ref ac, .ref al, .bl m.fails] ∧ Dm S H ∧ At S H o (.ins (c_House K) dx []) ∧
  SqA S H ar (os.map V.ref) ∧ RulesAt S K H os m.rules ∧ Sq K H ac (m.calls.map V.str) ∧ Sq K H al (m.lost.map V.str) ∧ m.Fit ∧ ∀ H' h, Kp (one o) H H' → Made m h → HouseAt S K H' o h → Q .non H'
theorem sc_House_init : FnScope ["self", "rules", "calls", "lost", "fails", "name"] ["self", "rules", "calls", "lost", "fails"] (defScope s_House_init) := ⟨rfl, rfl, rfl, by decide +kernel, rfl, by decide +kernel, by decide +kernel⟩
theorem okf_House_init {fd : FuncData} {dvs : List V} (F : FunD K "__init__" "House.__init__" (defArgs s_House_init) (defBody s_House_init) (defScope s_House_init) dvs [] (a_House_init K) fd) (x : Fx K mg w) : FnOk P w K mg base CX0 3 (a_House_init K) fd ["self", "rules", "calls", "lost", "fails"] (sp_House_init K) := by
  refine okFD F sc_House_init (fun vs H Q E h => by obtain ⟨S, o, dx, ar, ac, al, os, m, rfl, dm, ho, hr1, hr2, hc, hl, f, hQ⟩ := h; rfl) (fun cdv A outer s H vs Q E hr h => ?_)
  obtain ⟨S, o, dx, ar, ac, al, os, m, rfl, dm, ho, hr1, hr2, hc, hl, f, hQ⟩ := h
  refine ⟨_, (pss_cons (ps_if (pt_not (pt_val (pe_callR (ok_are_rules x) (hr.mono (by decide)) rfl x.m_are_rules (keep_of x.F_are_rules) pass0 (pa_cons (pv 1) pa_nil))))
 (pss_one ps_never)
 pss_nil)
 (pss_cons (ps_if (pt_not (pt_val (pe_callR (ok_are_names x) (hr.mono (by decide)) rfl x.m_are_names (keep_of x.F_are_names) pass0 (pa_cons (pv 2) pa_nil))))
 (pss_one ps_never)
 pss_nil)
 (pss_cons (ps_if (PW.pt (pw_or (pt_not (pt_val (pe_callR (ok_are_names x) (hr.mono (by decide)) rfl x.m_are_names (keep_of x.F_are_names) pass0 (pa_cons (pv 3) pa_nil)))) (pw_or1 (pt_not (pt_val (pe_callB (r := rAll K) (cr_all rfl) rfl x.n_all bb_all (pa_cons (pe_lc (own := [("name", 5)]) (tt := tYes) rfl sc_House_init.nd (pi_seqK (K := K) rfl (pv 3)) (blkOk_by (N := ["self", "rules", "calls", "lost", "fails", "name"]) (sc := defScope s_House_init) (by decide +kernel)) (fun _ _ _ _ _ => (pg_name (i := 5) sc_House_init.nd rfl (Or.inl rfl))) (fun _ _ _ _ _ => pts_nil) (fun _ _ _ _ _ => (pe_cmpR (show OpR _ _ (rIn K false) from op_in_seq) (pv 5) (pv 2) rfl))) pa_nil)))))))
 (pss_one ps_never)
 pss_nil)
 (pss_cons (ps_if (pt_not (pt_val (pe_callB (r := rIsi K) call_isi rfl x.n_isinstance bb_isinstance (pa_cons (pv 4) (pa_cons (pe_gT x.n_bool (by rfl) rfl) pa_nil)))))
 (pss_one ps_never)
 pss_nil)
 (pss_cons (ps_fld (pv 0) (pe_callTy (r := rTupOf K) call_tupK rfl x.n_tuple bb_tuple (pa_cons (pv 1) pa_nil)) rfl)
 (pss_cons (ps_fld (pv 0) (pe_callTy (r := rTupOf K) call_tupK rfl x.n_tuple bb_tuple (pa_cons (pe_callB (r := rSortS K) call_sortS rfl x.n_sorted bb_sorted (pa_cons (pv 2) pa_nil)) pa_nil)) rfl)
 (pss_cons (ps_fld (pv 0) (pe_callTy (r := rTupOf K) call_tupK rfl x.n_tuple bb_tuple (pa_cons (pe_callB (r := rSortS K) call_sortS rfl x.n_sorted bb_sorted (pa_cons (pv 3) pa_nil)) pa_nil)) rfl)
 (pss_one (ps_fld (pv 0) (pv 4) rfl))))))))), ?_⟩
  have names6 : ∀ z ∈ m.calls, z.length ≤ 1000 := fun z hz => Nat.le_trans (isName_len (f.nm z hz)) (by decide)
  have nc : (m.calls.all isName && decide m.calls.Nodup) = true := by simp [f.nd]; exact f.nm
  have nl : (m.lost.all isName && decide m.lost.Nodup) = true := by simp [f.ndl]; exact fun z hz => f.nm z (f.sub z hz)
  have fl := f.ln
  have fl2 := f.lnl
  refine ⟨_, rfl, ar, os, m.rules, rfl, hr1.sq, Paired.mapP hr2 fun _ _ z => z.free, f.r1, f.r2, fun H1 e1 => ⟨true, rfl, ?_⟩⟩
  refine ⟨_, rfl, ac, m.calls, rfl, sq_ext hc e1, by omega, names6, fun H2 e2 => ⟨_, rfl, ifF (by simp [nc]) ?_⟩⟩
  refine ⟨_, rfl, al, m.lost, rfl, sq_ext hl (e1.trans e2), by omega, fun z hz => names6 z (f.sub z hz), fun H3 e3 => ⟨_, rfl, ifF (by simp [nl]) ?_⟩⟩
  have e13 := (e1.trans e2).trans e3
  refine seq_go rfl (sq_ext hl e13) (fun z => z) fun J st D hD => lc_map st hD (fun v => match v with | .str z => some (.bl (decide (z ∈ m.calls))) | _ => none) (by simp; omega) (fun y H' Nx hy e c1 c2 => ?_) (fun H4 e4 hD' => ?_)
  · obtain ⟨z, hm, rfl⟩ := List.mem_map.mp hy
    refine ⟨rfl, _, rfl, _, rfl, ac, _, rfl, sq_s (sq_ext hc (e13.trans e)), rfl, flat_strs _, ?_⟩
    exact c1 _ _ Ext.rfl' (by simp [inV_str])
  refine ⟨D, m.lost.map fun z => decide (z ∈ m.calls), rfl, .of ?_, ?_⟩
  · rw [hD']
    congr 2
    rw [List.filterMap_map, List.map_map]
    simp [Function.comp_def]
  have hh : (m.lost.map fun z => decide (z ∈ m.calls)).all id = true := by simp; exact f.sub
  rw [hh]
  refine ⟨true, rfl, ?_⟩
  refine ⟨_, rfl, _, _, _, _, true, rfl, .ty _, .base (.bl _), kit_ty (by decide +kernel), true, rfl, ?_⟩
  have e14 := e13.trans e4
  clear hD' hh st
  refine tup_of rfl (hr1.ext e14) (dm.ext e14) fun pr H5 e5 t5 => ?_
  have o5 : H5 o = some (.ins (c_House K) dx []) := e5 _ _ (e14 _ _ ho.1)
  refine ⟨_, rfl, o, _, dx, [], rfl, o5, x.cl_House, x.na_House_h_rules, by simp, ?_⟩
  have n5 : pr ≠ o := ne_of t5.1 o5 (by simp)
  have u6 : Kp (one o) H (upd H5 o (.ins (c_House K) dx [("h_rules", .ref pr)])) := (Kp.ext (e14.trans e5)).put rfl
  have r6 : (upd H5 o (.ins (c_House K) dx [("h_rules", .ref pr)])) pr = some (.tup (os.map V.ref)) := by rw [upd_ne n5]; exact t5.1
  have o6 : (upd H5 o (.ins (c_House K) dx [("h_rules", .ref pr)])) o = some (.ins (c_House K) dx [("h_rules", .ref pr)]) := upd_same
  show _
  change tSeq _ _ _ _ (upd H5 o (.ins (c_House K) dx [("h_rules", .ref pr)]))
  generalize upd H5 o (.ins (c_House K) dx [("h_rules", .ref pr)]) = H6 at u6 r6 o6
  refine srt_tup rfl (sq_kp (S := one o) hc (sq_ne hc ho.1) u6) fl fun ys pc H7 py sy e7 np7 t7 => ?_
  refine ⟨_, rfl, o, _, dx, _, rfl, e7 _ _ o6, x.cl_House, x.na_House_h_calls, by simp, ?_⟩
  have n7 : pc ≠ o := fun z => by rw [z, o6] at np7; cases np7
  have m7 : pc ≠ pr := fun z => by rw [z, r6] at np7; cases np7
  change tSeq _ _ _ _ (upd H7 o (.ins (c_House K) dx [("h_rules", .ref pr), ("h_calls", .ref pc)]))
  have u8 : Kp (one o) H (upd H7 o (.ins (c_House K) dx [("h_rules", .ref pr), ("h_calls", .ref pc)])) := (u6.trans (.ext e7)).put rfl
  have r8 : (upd H7 o (.ins (c_House K) dx [("h_rules", .ref pr), ("h_calls", .ref pc)])) pr = some (.tup (os.map V.ref)) := by rw [upd_ne n5]; exact e7 _ _ r6
  have t8 : (upd H7 o (.ins (c_House K) dx [("h_rules", .ref pr), ("h_calls", .ref pc)])) pc = some (.tup (ys.map V.str)) := by rw [upd_ne n7]; exact t7
  have o8 : (upd H7 o (.ins (c_House K) dx [("h_rules", .ref pr), ("h_calls", .ref pc)])) o = some (.ins (c_House K) dx [("h_rules", .ref pr), ("h_calls", .ref pc)]) := upd_same
  have s7 : ¬ S pc := fun z => dm.kp u6 pc z np7
  generalize upd H7 o (.ins (c_House K) dx [("h_rules", .ref pr), ("h_calls", .ref pc)]) = H8 at u8 r8 t8 o8
  refine srt_tup rfl (sq_kp (S := one o) hl (sq_ne hl ho.1) u8) fl2 fun zs pl H9 pz sz e9 np9 t9 => ?_
  have n9 : pl ≠ o := fun z => by rw [z, o8] at np9; cases np9
  have s9 : ¬ S pl := fun z => dm.kp u8 pl z np9
  refine ⟨_, rfl, o, _, dx, _, rfl, e9 _ _ o8, x.cl_House, x.na_House_h_lost, by simp, ?_⟩
  refine ⟨_, rfl, _, rfl, o, _, dx, _, rfl, upd_same, x.cl_House, x.na_House_h_fails, Nat.lt_of_le_of_lt (length_putF _ _ _) (by simp), ?_⟩
  have p4 : putF "h_fails" (.bl m.fails) (putF "h_lost" (.ref pl) [("h_rules", .ref pr), ("h_calls", .ref pc)]) = ([("h_rules", .ref pr), ("h_calls", .ref pc), ("h_lost", .ref pl), ("h_fails", .bl m.fails)] : List (Str × V)) := by rfl
  rw [upd_upd, p4]
  have u10 : Kp (one o) H (upd H9 o (.ins (c_House K) dx [("h_rules", .ref pr), ("h_calls", .ref pc), ("h_lost", .ref pl), ("h_fails", .bl m.fails)])) := (u8.trans (.ext e9)).put rfl
  have md : Made m ⟨m.rules, ys, zs, m.fails⟩ := ⟨rfl, py, sy, pz, sz, rfl⟩
  refine hQ _ ⟨m.rules, ys, zs, m.fails⟩ u10 md ⟨md.fit f, sy, sz, dx, pr, pc, pl, os, ⟨upd_same, ho.2⟩, ⟨by rw [upd_ne n5]; exact e9 _ _ r8, t5.2⟩, Paired.mapP hr2 fun _ _ z => z.off ho.1 u10, ⟨by rw [upd_ne n7]; exact e9 _ _ t8, s7⟩, ⟨by rw [upd_ne n9]; exact t9, s9⟩⟩
end
end Ws

set_option Elab.async false
set_option linter.all false
set_option maxRecDepth 100000
set_option maxHeartbeats 4000000
namespace Ws
open PySem PySem.Spec PyProof.Rows L2
/-! ### sorted rows of words -/
abbrev LeS (a b : Str) : Prop := a.cps.toList ≤ b.cps.toList
theorem le_of_cps {a b : Str} (h : (!PySem.Spec.ltCps b.cps.toList a.cps.toList) = true) : LeS a b := by
  rw [ltCps_eq] at h
  simpa using h
theorem rising_pw : ∀ {l : List Str} {p : Str}, risingS p l = true → (∀ z ∈ l, LeS p z) ∧ l.Pairwise LeS
  | [], _, _ => ⟨fun z h => by simp at h, .nil⟩
  | x :: r, p, h => by
    obtain ⟨h1, h2⟩ := Bool.and_eq_true_iff.mp (show ((!PySem.Spec.ltCps x.cps.toList p.cps.toList) && risingS x r) = true from h)
    obtain ⟨i1, i2⟩ := rising_pw h2
    have h3 := le_of_cps h1
    refine ⟨fun z hz => ?_, .cons i1 i2⟩
    rcases List.mem_cons.mp hz with rfl | hz
    · exact h3
    · exact List.le_trans h3 (i1 z hz)
theorem sorted_pw : ∀ {l : List Str}, sortedS l = true → l.Pairwise LeS
  | [], _ => .nil
  | x :: r, h => .cons (rising_pw h).1 (rising_pw h).2
theorem str_cps {a b : Str} (h : a.cps.toList = b.cps.toList) : a = b := by
  cases a; cases b
  congr 1
  exact Array.toList_inj.mp h
theorem sorted_eq {l m : List Str} (h : sortedS l = true) (h' : sortedS m = true) (p : l.Perm m) : l = m :=
  p.eq_of_pairwise (fun a b _ _ h1 h2 => str_cps (List.le_antisymm h1 h2)) (sorted_pw h) (sorted_pw h')
theorem made_eq {m h h' : HouseD} (d : Made m h) (d' : Made m h') : h = h' := by
  obtain ⟨a, b, c, e⟩ := h
  obtain ⟨a', b', c', e'⟩ := h'
  have h1 := d.rules.trans d'.rules.symm
  have h2 := sorted_eq d.sc d'.sc (d.calls.trans d'.calls.symm)
  have h3 := sorted_eq d.sl d'.sl (d.lost.trans d'.lost.symm)
  have h4 := d.fails.trans d'.fails.symm
  simp only at h1 h2 h3 h4
  rw [h1, h2, h3, h4]
section
variable {S : Addr → Prop} {K : PySem.W.Frag} {H H1 : Hp} {a o q : Addr}
theorem RuleAt.inj {r r' : RuleD} (h : RuleAt S K H o r) (h' : RuleAt S K H o r') : r = r' := by
  obtain ⟨_, dx, p, h1, h2⟩ := h
  obtain ⟨_, dx', p', h1', h2'⟩ := h'
  have e := h1.1.symm.trans h1'.1
  simp only [Option.some.injEq, HO.ins.injEq, List.cons.injEq, Prod.mk.injEq, V.ref.injEq, true_and, and_true] at e
  obtain ⟨_, rfl⟩ := e
  have e := h2.1.symm.trans h2'.1
  obtain ⟨a, b, c, d⟩ := r
  obtain ⟨a', b', c', d'⟩ := r'
  simpa [RuleD.vs] using e
theorem rules_inj : ∀ {os : List Addr} {rs rs' : List RuleD}, RulesAt S K H os rs → RulesAt S K H os rs' → rs = rs'
  | _, _, _, .nil, .nil => rfl
  | _, _, _, .cons h t, .cons h' t' => by rw [h.inj h', rules_inj t t']
theorem refs_inj : ∀ {os os' : List Addr}, os.map V.ref = os'.map V.ref → os = os'
  | [], [], _ => rfl
  | [], _ :: _, h => by simp at h
  | _ :: _, [], h => by simp at h
  | a :: os, b :: os', h => by
    simp only [List.map_cons, List.cons.injEq, V.ref.injEq] at h
    rw [h.1, refs_inj h.2]
theorem strs_inj : ∀ {os os' : List Str}, os.map V.str = os'.map V.str → os = os'
  | [], [], _ => rfl
  | [], _ :: _, h => by simp at h
  | _ :: _, [], h => by simp at h
  | a :: os, b :: os', h => by
    simp only [List.map_cons, List.cons.injEq, V.str.injEq] at h
    rw [h.1, strs_inj h.2]
theorem HouseAt.inj {h h' : HouseD} (t : HouseAt S K H o h) (t' : HouseAt S K H o h') : h = h' := by
  obtain ⟨_, _, _, dx, pr, pc, pl, os, h1, h2, h3, h4, h5⟩ := t
  obtain ⟨_, _, _, dx', pr', pc', pl', os', h1', h2', h3', h4', h5'⟩ := t'
  have e := h1.1.symm.trans h1'.1
  simp only [Option.some.injEq, HO.ins.injEq, List.cons.injEq, Prod.mk.injEq, V.ref.injEq, V.bl.injEq, true_and, and_true] at e
  obtain ⟨_, rfl, rfl, rfl, ef⟩ := e
  have e2 := h2.1.symm.trans h2'.1
  have e4 := h4.1.symm.trans h4'.1
  have e5 := h5.1.symm.trans h5'.1
  simp only [Option.some.injEq, HO.tup.injEq] at e2 e4 e5
  have e3 := refs_inj e2
  subst e3
  obtain ⟨a, b, c, d⟩ := h
  obtain ⟨a', b', c', d'⟩ := h'
  simp only at ef e4 e5 h3 h3'
  rw [ef, strs_inj e4, strs_inj e5, rules_inj h3 h3']
/-! ### under locks of dicts -/
theorem At.nd {u : HO} (h : At no H a u) (e : Nd H H1) (n : ∀ kvs, u ≠ .dK kvs) : At no H1 a u := ⟨e _ _ h.1 n, h.2⟩
theorem RuleAt.nd {r : RuleD} (h : RuleAt no K H o r) (e : Nd H H1) : RuleAt no K H1 o r := by
  obtain ⟨g, dx, p, h1, h2⟩ := h
  exact ⟨g, dx, p, h1.nd e (by simp), h2.nd e (by simp)⟩
theorem HouseAt.nd {h : HouseD} (t : HouseAt no K H o h) (e : Nd H H1) : HouseAt no K H1 o h := by
  obtain ⟨f, s1, s2, dx, pr, pc, pl, os, h1, h2, h3, h4, h5⟩ := t
  exact ⟨f, s1, s2, dx, pr, pc, pl, os, h1.nd e (by simp), h2.nd e (by simp), Paired.mapP h3 fun _ _ z => z.nd e, h4.nd e (by simp), h5.nd e (by simp)⟩
abbrev DRule (K : PySem.W.Frag) : Eqb := DIn (c_Rule K) (RuleR no K)
theorem mon_rule : MonN (DRule K) := DIn.mon fun p q b H H' e h => by
  obtain ⟨r, r', h1, h2, rfl⟩ := h
  exact ⟨r, r', h1.nd e, h2.nd e, rfl⟩
def HouseR (K : PySem.W.Frag) (p q : Addr) (b : Bool) (H : Hp) : Prop := ∃ h h', HouseAt no K H p h ∧ HouseAt no K H q h' ∧ b = decide (h = h')
abbrev DHouse (K : PySem.W.Frag) : Eqb := DIn (c_House K) (HouseR K)
theorem mon_house : MonN (DHouse K) := DIn.mon fun p q b H H' e h => by
  obtain ⟨r, r', h1, h2, rfl⟩ := h
  exact ⟨r, r', h1.nd e, h2.nd e, rfl⟩
theorem rules_row : ∀ {os os' : List Addr} {rs rs' : List RuleD}, RulesAt no K H os rs → RulesAt no K H os' rs' → Row (DRule K) (os.map V.ref) (os'.map V.ref) (decide (rs = rs')) H
  | _, _, _, _, .nil, .nil => by simp [Row]
  | _, _, _, _, .nil, .cons _ _ => by simp [Row]
  | _, _, _, _, .cons _ _, .nil => by simp [Row]
  | _, _, _, _, .cons (a := a) (b := r) h t, .cons (a := a') (b := r') h' t' => by
    refine ⟨decide (r = r'), _, ?_, rules_row t t', by simp⟩
    obtain ⟨_, dx, p, h1, h2⟩ := id h
    obtain ⟨_, dx', p', h1', h2'⟩ := id h'
    exact ⟨a, a', dx, dx', _, _, rfl, rfl, h1.1, h1'.1, fun z => by subst z; exact decide_eq_true (h.inj h'), r, r', h, h', rfl⟩
end
/-! ### words as data -/
theorem strs_dp {K : PySem.W.Frag} {H : Hp} : ∀ zs : List Str, DpAll K H (zs.map V.str) (zs.map PyData.str)
  | [] => .nil
  | z :: zs => .cons (.str z) (strs_dp zs)
theorem strs_eqv : ∀ zs zs' : List Str, PyData.eqvAll (zs.map PyData.str) (zs'.map PyData.str) = decide (zs = zs')
  | [], [] => by simp [PyData.eqvAll]
  | [], _ :: _ => by simp [PyData.eqvAll]
  | _ :: _, [] => by simp [PyData.eqvAll]
  | z :: zs, y :: ys => by
    simp only [List.map_cons, PyData.eqvAll, PyData.eqv, strs_eqv zs ys]
    rw [Bool.eq_iff_iff]
    simp
theorem strs_lay : ∀ {zs : List Str}, (∀ z ∈ zs, isName z = true) → PyData.canLayAll0 (zs.map PyData.str) = true
  | [], _ => rfl
  | z :: zs, h => by
    simp only [List.map_cons, PyData.canLayAll0, PyData.canLay0]
    rw [isName_ok (h z List.mem_cons_self), strs_lay fun y hy => h y (List.mem_cons_of_mem _ hy)]
    rfl
theorem strs_depth : ∀ zs : List Str, PyData.depthAll (zs.map PyData.str) = 0
  | [] => rfl
  | z :: zs => by
    simp only [List.map_cons, PyData.depthAll, PyData.depth, strs_depth zs]
    rfl
section
variable {P : Program} {w : World} {K : PySem.W.Frag} {mg : Str → Option Value} {base : Heap}
theorem ok_House_init (x : Fx K mg w) : FnR P w K mg base CX0 3 (a_House_init K) (sp_House_init K) := by
  obtain ⟨fd, F⟩ := x.F_House_init
  exact rawFD F (by simp) (okf_House_init F x) (fun T kV doc pm an cdv ct us its hu hi => match us, hu, its, hi with | [_, _, _, _, _], _, [_, _, _], _ => ⟨_, rfl, rfl⟩)
def sp_House_rules (K : PySem.W.Frag) : Sp := fun vs H Q _ => ∃ (S : Addr → Prop) (o : Addr) (h : HouseD), vs = [.ref o] ∧ HouseAt S K H o h ∧ ∀ p os, At S H p (.tup (os.map V.ref)) → RulesAt S K H os h.rules → Q (.ref p) H
theorem sc_House_rules : FnScope ["self"] ["self"] (defScope s_House_rules) := ⟨rfl, rfl, rfl, by decide +kernel, rfl, by decide +kernel, by decide +kernel⟩
theorem ok_House_rules (x : Fx K mg w) : FnR P w K mg base CX0 1 (a_House_rules K) (sp_House_rules K) := by
  refine okR x.F_House_rules sc_House_rules (fun _ _ _ _ _ _ us hl => match us, hl with | [_], _ => rfl) (fun vs H Q E h => by obtain ⟨S, o, h, rfl, ⟨_, _, _, dx, pr, pc, pl, os, h1, h2, h3, h4, h5⟩, hQ⟩ := h; rfl) (fun cdv A outer s H vs Q E hr h => ?_)
  obtain ⟨S, o, h, rfl, ⟨_, _, _, dx, pr, pc, pl, os, h1, h2, h3, h4, h5⟩, hQ⟩ := h
  refine ⟨_, (pss_one (ps_ret (pe_fldK (K := K) rfl (pv 0) rfl))), ?_⟩
  exact ⟨_, rfl, o, _, dx, _, _, rfl, h1.1, x.cl_House, x.na_House_h_rules, rfl, hQ _ _ h2 h3⟩
def sp_House_calls (K : PySem.W.Frag) : Sp := fun vs H Q _ => ∃ (S : Addr → Prop) (o : Addr) (h : HouseD), vs = [.ref o] ∧ HouseAt S K H o h ∧ ∀ p, At S H p (.tup (h.calls.map V.str)) → Q (.ref p) H
theorem sc_House_calls : FnScope ["self"] ["self"] (defScope s_House_calls) := ⟨rfl, rfl, rfl, by decide +kernel, rfl, by decide +kernel, by decide +kernel⟩
theorem ok_House_calls (x : Fx K mg w) : FnR P w K mg base CX0 1 (a_House_calls K) (sp_House_calls K) := by
  refine okR x.F_House_calls sc_House_calls (fun _ _ _ _ _ _ us hl => match us, hl with | [_], _ => rfl) (fun vs H Q E h => by obtain ⟨S, o, h, rfl, ⟨_, _, _, dx, pr, pc, pl, os, h1, h2, h3, h4, h5⟩, hQ⟩ := h; rfl) (fun cdv A outer s H vs Q E hr h => ?_)
  obtain ⟨S, o, h, rfl, ⟨_, _, _, dx, pr, pc, pl, os, h1, h2, h3, h4, h5⟩, hQ⟩ := h
  refine ⟨_, (pss_one (ps_ret (pe_fldK (K := K) rfl (pv 0) rfl))), ?_⟩
  exact ⟨_, rfl, o, _, dx, _, _, rfl, h1.1, x.cl_House, x.na_House_h_calls, rfl, hQ _ h4⟩
def sp_House_lost (K : PySem.W.Frag) : Sp := fun vs H Q _ => ∃ (S : Addr → Prop) (o : Addr) (h : HouseD), vs = [.ref o] ∧ HouseAt S K H o h ∧ ∀ p, At S H p (.tup (h.lost.map V.str)) → Q (.ref p) H
theorem sc_House_lost : FnScope ["self"] ["self"] (defScope s_House_lost) := ⟨rfl, rfl, rfl, by decide +kernel, rfl, by decide +kernel, by decide +kernel⟩
theorem ok_House_lost (x : Fx K mg w) : FnR P w K mg base CX0 1 (a_House_lost K) (sp_House_lost K) := by
  refine okR x.F_House_lost sc_House_lost (fun _ _ _ _ _ _ us hl => match us, hl with | [_], _ => rfl) (fun vs H Q E h => by obtain ⟨S, o, h, rfl, ⟨_, _, _, dx, pr, pc, pl, os, h1, h2, h3, h4, h5⟩, hQ⟩ := h; rfl) (fun cdv A outer s H vs Q E hr h => ?_)
  obtain ⟨S, o, h, rfl, ⟨_, _, _, dx, pr, pc, pl, os, h1, h2, h3, h4, h5⟩, hQ⟩ := h
  refine ⟨_, (pss_one (ps_ret (pe_fldK (K := K) rfl (pv 0) rfl))), ?_⟩
  exact ⟨_, rfl, o, _, dx, _, _, rfl, h1.1, x.cl_House, x.na_House_h_lost, rfl, hQ _ h5⟩
def sp_House_fails (K : PySem.W.Frag) : Sp := fun vs H Q _ => ∃ (S : Addr → Prop) (o : Addr) (h : HouseD), vs = [.ref o] ∧ HouseAt S K H o h ∧ Q (.bl h.fails) H
theorem sc_House_fails : FnScope ["self"] ["self"] (defScope s_House_fails) := ⟨rfl, rfl, rfl, by decide +kernel, rfl, by decide +kernel, by decide +kernel⟩
theorem ok_House_fails (x : Fx K mg w) : FnR P w K mg base CX0 1 (a_House_fails K) (sp_House_fails K) := by
  refine okR x.F_House_fails sc_House_fails (fun _ _ _ _ _ _ us hl => match us, hl with | [_], _ => rfl) (fun vs H Q E h => by obtain ⟨S, o, h, rfl, ⟨_, _, _, dx, pr, pc, pl, os, h1, h2, h3, h4, h5⟩, hQ⟩ := h; rfl) (fun cdv A outer s H vs Q E hr h => ?_)
  obtain ⟨S, o, h, rfl, ⟨_, _, _, dx, pr, pc, pl, os, h1, h2, h3, h4, h5⟩, hQ⟩ := h
  refine ⟨_, (pss_one (ps_ret (pe_fldK (K := K) rfl (pv 0) rfl))), ?_⟩
  exact ⟨_, rfl, o, _, dx, _, _, rfl, h1.1, x.cl_House, x.na_House_h_fails, rfl, hQ⟩
/-- a house is made -/
theorem make_house {S : Addr → Prop} {H1 : Hp} {ar ac al : Addr} {os : List Addr} {m : HouseD} {Q : Addr → Hp → Prop} {E : XK} (dm : Dm S H1) (h1 : SqA S H1 ar (os.map V.ref)) (h2 : RulesAt S K H1 os m.rules) (h3 : Sq K H1 ac (m.calls.map V.str)) (h4 : Sq K H1 al (m.lost.map V.str))
    (f : m.Fit) (k : ∀ r H' h, Ext H1 H' → Made m h → HouseAt S K H' r h → Q r H') :
    ∀ r dx, H1 r = none → H1 dx = none → dx ≠ r → sp_House_init K (.ref r :: [.ref ar, .ref ac, .ref al, .bl m.fails]) (upd (upd H1 dx (.own r)) r (.ins (c_House K) dx [])) (fun v H2 => v = .non ∧ Q r H2) E := by
  intro r dx hr hd ne
  have e0 : Ext H1 (upd (upd H1 dx (.own r)) r (.ins (c_House K) dx [])) := (ext_new hd).trans (ext_new (by rw [upd_ne (Ne.symm ne)]; exact hr))
  refine ⟨S, r, dx, ar, ac, al, os, m, rfl, dm.ext e0, ⟨upd_same, fun z => dm r z hr⟩, h1.ext e0, Paired.mapP h2 fun _ _ z => z.ext e0, sq_ext h3 e0, sq_ext h4 e0, f, fun H' h u md t => ⟨rfl, k r H' h (made_ext hr hd u) md t⟩⟩
def sp_House_with_rules (K : PySem.W.Frag) : Sp := fun vs H Q _ => ∃ (S : Addr → Prop) (o ar : Addr) (h : HouseD) (os : List Addr) (rs : List RuleD), vs = [.ref o, .ref ar] ∧ Dm S H ∧ HouseAt S K H o h ∧ SqA S H ar (os.map V.ref) ∧ RulesAt S K H os rs ∧
  1 ≤ rs.length ∧ rs.length ≤ 2 ∧ ∀ r H', Ext H H' → HouseAt S K H' r { h with rules := rs } → Q (.ref r) H'
theorem sc_House_with_rules : FnScope ["self", "rules"] ["self", "rules"] (defScope s_House_with_rules) := ⟨rfl, rfl, rfl, by decide +kernel, rfl, by decide +kernel, by decide +kernel⟩
theorem ok_House_with_rules (x : Fx K mg w) : FnR P w K mg base CX0 5 (a_House_with_rules K) (sp_House_with_rules K) := by
  refine okR x.F_House_with_rules sc_House_with_rules (fun _ _ _ _ _ _ us hl => match us, hl with | [_, _], _ => rfl) (fun vs H Q E h => by obtain ⟨S, o, ar, h, os, rs, rfl, dm, ht, hs, hr2, l1, l2, hQ⟩ := h; rfl) (fun cdv A outer s H vs Q E hr h => ?_)
  obtain ⟨S, o, ar, h, os, rs, rfl, dm, ht, hs, hr2, l1, l2, hQ⟩ := h
  refine ⟨_, (pss_one (ps_ret (StX.pe_makeR x.mk_House (ok_House_init x) (hr.mono (by decide)) rfl x.m_House pass0 (pa_cons (pv 1) (pa_cons (pe_fldK (K := K) rfl (pv 0) rfl) (pa_cons (pe_fldK (K := K) rfl (pv 0) rfl) (pa_cons (pe_fldK (K := K) rfl (pv 0) rfl) pa_nil))))))), ?_⟩
  obtain ⟨f, s1, s2, dx, pr, pc, pl, os', h1, h2, h3, h4, h5⟩ := id ht
  refine ⟨_, rfl, _, rfl, o, _, dx, _, _, rfl, h1.1, x.cl_House, x.na_House_h_calls, rfl, ?_⟩
  refine ⟨_, rfl, o, _, dx, _, _, rfl, h1.1, x.cl_House, x.na_House_h_lost, rfl, ?_⟩
  refine ⟨_, rfl, o, _, dx, _, _, rfl, h1.1, x.cl_House, x.na_House_h_fails, rfl, ?_⟩
  have f' : HouseD.Fit { h with rules := rs } := ⟨l1, l2, f.nm, f.nd, f.ln, f.ndl, f.sub, f.lnl⟩
  exact make_house (m := { h with rules := rs }) dm hs hr2 (.inr (.inl h4.1)) (.inr (.inl h5.1)) f' fun r H' h' e md t => by
    have : h' = { h with rules := rs } := made_eq md ⟨rfl, .refl _, s1, .refl _, s2, rfl⟩
    subst this
    exact hQ r H' e t
end
end Ws

set_option Elab.async false
set_option linter.all false
set_option maxRecDepth 100000
set_option maxHeartbeats 4000000
namespace Ws
open PySem PySem.Spec PyProof.Rows L2
def HouseD.dat (h : HouseD) : PyData := .tuple [.tuple (h.calls.map .str), .tuple (h.lost.map .str), .bool h.fails]
theorem house_shaped {h : HouseD} (f : h.Fit) : SeqAt.shaped h.dat = true := by
  unfold SeqAt.shaped HouseD.dat
  simp [PyData.canLay0, PyData.canLayAll0, PyData.depth, PyData.depthAll, strs_depth, strs_lay f.nm, strs_lay fun z hz => f.nm z (f.sub z hz)]
theorem house_eqv (h h' : HouseD) : PyData.eqv h.dat h'.dat = (decide (h.calls = h'.calls) && (decide (h.lost = h'.lost) && decide (h.fails = h'.fails))) := by
  simp only [HouseD.dat, PyData.eqv, PyData.eqvAll, strs_eqv]
  rw [Bool.eq_iff_iff]
  simp
section
variable {P : Program} {w : World} {K : PySem.W.Frag} {mg : Str → Option Value} {base : Heap}
theorem house_dp {H : Hp} {p pc pl : Addr} {h : HouseD} (hp : H p = some (.tup [.ref pc, .ref pl, .bl h.fails])) (h1 : H pc = some (.tup (h.calls.map V.str))) (h2 : H pl = some (.tup (h.lost.map V.str))) : Dp K H (.ref p) h.dat :=
  .tup (SqT.of hp) (.cons (.tup (SqT.of h1) (strs_dp _)) (.cons (.tup (SqT.of h2) (strs_dp _)) (.cons (.bl _) .nil)))
theorem sc_House_eq : FnScope ["self", "other", "mine"] ["self", "other"] (defScope s_House_eq) := ⟨rfl, rfl, rfl, by decide +kernel, rfl, by decide +kernel, by decide +kernel⟩
theorem ok_House_eq (x : Fx K mg w) : FnR P w K mg base CX0 3 (a_House_eq K) (spEqb (HouseR K)) := by
  refine okR x.F_House_eq sc_House_eq (fun _ _ _ _ _ _ us hl => match us, hl with | [_, _], _ => rfl) (fun vs H Q E h => by obtain ⟨p, q, b, rfl, ⟨h, h', hp, hq, rfl⟩, hQ⟩ := h; rfl) (fun cdv A outer s H vs Q E hr h => ?_)
  obtain ⟨p, q, b, rfl, ⟨h, h', hp, hq, rfl⟩, hQ⟩ := h
  refine ⟨_, (pss_cons (ps_if (pt_not (pt_val (pe_callB (r := rIsi K) call_isi rfl x.n_isinstance bb_isinstance (pa_cons (pv 1) (pa_cons (pe_gR x.m_House rfl) pa_nil)))))
 (pss_one (ps_ret pe_bl))
 pss_nil)
 (pss_cons (ps_set (i := 2) sc_House_eq.nd rfl (Or.inl rfl) (pe_tup (pa_cons (pe_fldK (K := K) rfl (pv 0) rfl) (pa_cons (pe_fldK (K := K) rfl (pv 0) rfl) (pa_cons (pe_fldK (K := K) rfl (pv 0) rfl) pa_nil)))))
 (pss_one (ps_ret (pe_and (pe_cmpR (show OpR _ _ (rEqB (DTu K (DRule K))) from op_eqB (rcB_tu mon_rule (eqB_in (ok_Rule_eq x) x.sp_Rule_eq x.fn_Rule_eq pass0)) (hr.mono (by decide))) (pe_fldK (K := K) rfl (pv 0) rfl) (pe_fldK (K := K) rfl (pv 1) rfl) (nomark _)) (pe_one (pe_cmpR (show OpR _ _ (rEqD K) from op_eqD hr.units) (pv 2) (pe_tup (pa_cons (pe_fldK (K := K) rfl (pv 1) rfl) (pa_cons (pe_fldK (K := K) rfl (pv 1) rfl) (pa_cons (pe_fldK (K := K) rfl (pv 1) rfl) pa_nil)))) (nomark _)))))))), ?_⟩
  obtain ⟨f, _, _, dx, pr, pc, pl, os, h1, h2, h3, h4, h5⟩ := id hp
  obtain ⟨f', _, _, dy, qr, qc, ql, os', g1, g2, g3, g4, g5⟩ := id hq
  refine ⟨_, rfl, _, _, _, _, true, rfl, .own _, isi_own g1.1 x.cl_House x.cc_House x.cget x.ctak x.mro_House, x.kit_House, true, rfl, ?_⟩
  refine ⟨_, rfl, p, _, dx, _, _, rfl, h1.1, x.cl_House, x.na_House_h_calls, rfl, _, rfl, p, _, dx, _, _, rfl, h1.1, x.cl_House, x.na_House_h_lost, rfl, _, rfl, p, _, dx, _, _, rfl, h1.1, x.cl_House, x.na_House_h_fails, rfl, by simp [sizeLine_eq], fun t nt => ?_⟩
  have e1 : Ext H (upd H t (.tup [.ref pc, .ref pl, .bl h.fails])) := ext_new nt
  have ht : (upd H t (.tup [.ref pc, .ref pl, .bl h.fails])) t = some (.tup [.ref pc, .ref pl, .bl h.fails]) := upd_same
  generalize upd H t (.tup [.ref pc, .ref pl, .bl h.fails]) = H1 at e1 ht
  have dec : decide (h = h') = (decide (h.rules = h'.rules) && (decide (h.calls = h'.calls) && (decide (h.lost = h'.lost) && decide (h.fails = h'.fails)))) := by
    obtain ⟨a, b, c, d⟩ := h
    obtain ⟨a', b', c', d'⟩ := h'
    rw [Bool.eq_iff_iff]
    simp
  refine ⟨_, rfl, p, _, dx, _, _, rfl, e1 _ _ h1.1, x.cl_House, x.na_House_h_rules, rfl, _, rfl, q, _, dy, _, _, rfl, e1 _ _ g1.1, x.cl_House, x.na_House_h_rules, rfl, decide (h.rules = h'.rules), ?_, fun H2 e2 => ⟨_, rfl, ifb (fun hb => ?_) (fun hb => ?_)⟩⟩
  · refine ⟨pr, qr, _, _, rfl, rfl, .of (e1 _ _ h2.1), .of (e1 _ _ g2.1), fun z => ?_, rules_row (Paired.mapP h3 fun _ _ z => z.ext e1) (Paired.mapP g3 fun _ _ z => z.ext e1)⟩
    subst z
    have e := h2.1.symm.trans g2.1
    simp only [Option.some.injEq, HO.tup.injEq] at e
    have e3 := refs_inj e
    subst e3
    exact decide_eq_true (rules_inj h3 g3)
  · have e12 := e1.trans e2
    refine ⟨_, rfl, _, rfl, q, _, dy, _, _, rfl, e12 _ _ g1.1, x.cl_House, x.na_House_h_calls, rfl, _, rfl, q, _, dy, _, _, rfl, e12 _ _ g1.1, x.cl_House, x.na_House_h_lost, rfl, _, rfl, q, _, dy, _, _, rfl, e12 _ _ g1.1, x.cl_House, x.na_House_h_fails, rfl, by simp [sizeLine_eq], fun t2 nt2 => ?_⟩
    have e3 := e12.trans (ext_new (o := .tup [.ref qc, .ref ql, .bl h'.fails]) nt2)
    refine ⟨h.dat, h'.dat, house_dp (ext_new nt2 _ _ (e2 _ _ ht)) (e3 _ _ h4.1) (e3 _ _ h5.1), house_dp upd_same (e3 _ _ g4.1) (e3 _ _ g5.1), house_shaped f, house_shaped f', ?_⟩
    rw [house_eqv]
    have := hQ _ e3
    rwa [dec, hb, Bool.true_and] at this
  · have := hQ _ (e1.trans e2)
    rwa [dec, hb, Bool.false_and] at this
end
end Ws

set_option Elab.async false
set_option linter.all false
set_option maxRecDepth 100000
set_option maxHeartbeats 4000000
namespace Ws
open PySem PySem.Spec PyProof.Rows L2
abbrev Hs := List (Str × HouseD)
def HousesAt (S : Addr → Prop) (K : PySem.W.Frag) (H : Hp) : List (Key × V) → Hs → Prop := Paired fun (kv : Key × V) (nh : Str × HouseD) => kv.1 = Sum.inr nh.1 ∧ ∃ a, kv.2 = .ref a ∧ HouseAt S K H a nh.2
def getH (hs : Hs) (n : Str) : HouseD := match hs.find? fun p => decide (p.1 = n) with
  | some p => p.2
  | none => ⟨[], [], [], false⟩
section
variable {S : Addr → Prop} {K : PySem.W.Frag} {H H1 : Hp} {a o q d : Addr} {kvs : List (Key × V)} {hs : Hs}
theorem HousesAt.kp (h : HousesAt S K H kvs hs) (e : Kp S H H1) : HousesAt S K H1 kvs hs := Paired.mapP h fun kv nh ⟨h1, a, h2, h3⟩ => ⟨h1, a, h2, h3.kp e⟩
theorem HousesAt.ext (h : HousesAt S K H kvs hs) (e : Ext H H1) : HousesAt S K H1 kvs hs := h.kp (.ext e)
theorem HousesAt.grow (h : HousesAt S K H kvs hs) (hq : H q = none) : HousesAt (more S q) K H kvs hs := Paired.mapP h fun kv nh ⟨h1, a, h2, h3⟩ => ⟨h1, a, h2, h3.grow hq⟩
theorem HousesAt.keys : ∀ {kvs : List (Key × V)} {hs : Hs}, HousesAt S K H kvs hs → kvs.map (·.1) = (hs.map (·.1)).map Sum.inr
  | _, _, .nil => rfl
  | _, _, .cons h t => by
    simp only [List.map_cons]
    rw [h.1, HousesAt.keys t]
theorem HousesAt.at_ : ∀ {kvs : List (Key × V)} {hs : Hs}, HousesAt S K H kvs hs → ∀ n ∈ hs.map (·.1), ∃ a, valV kvs (Sum.inr n) = some (.ref a) ∧ HouseAt S K H a (getH hs n)
  | _, _, .nil, n, h => by simp at h
  | kv :: kvs, nh :: hs, .cons ⟨h1, a, h2, h3⟩ t, n, hn => by
    by_cases e : nh.1 = n
    · refine ⟨a, ?_, ?_⟩
      · rw [valV_pos (by rw [h1, e]), h2]
      · unfold getH
        rw [List.find?_cons_of_pos (by simp [e])]
        exact h3
    · simp only [List.map_cons, List.mem_cons] at hn
      obtain ⟨b, i1, i2⟩ := HousesAt.at_ t n (hn.resolve_left fun z => e z.symm)
      refine ⟨b, ?_, ?_⟩
      · rw [valV_neg (by rw [h1]; intro z; injection z with z; exact e z)]
        exact i1
      · unfold getH
        rw [List.find?_cons_of_neg (by simp [e])]
        exact i2
theorem HousesAt.in_ (h : HousesAt S K H kvs hs) (n : Str) : (valV kvs (Sum.inr n)).isSome = decide (n ∈ hs.map (·.1)) := by
  rw [← valV_any, Bool.eq_iff_iff, List.any_eq_true]
  simp only [decide_eq_true_eq]
  have hk := h.keys
  constructor
  · rintro ⟨p, hp, e⟩
    have : Sum.inr n ∈ (hs.map (·.1)).map (Sum.inr : Str → Key) := by rw [← hk]; exact List.mem_map.mpr ⟨p, hp, e⟩
    obtain ⟨m, hm, e⟩ := List.mem_map.mp this
    injection e with e
    exact e ▸ hm
  · intro hn
    have : (Sum.inr n : Key) ∈ kvs.map (·.1) := by rw [hk]; exact List.mem_map.mpr ⟨n, hn, rfl⟩
    obtain ⟨p, hp, e⟩ := List.mem_map.mp this
    exact ⟨p, hp, e⟩
theorem getH_mem : ∀ {hs : Hs} {n : Str}, n ∈ hs.map (·.1) → (n, getH hs n) ∈ hs
  | [], n, h => by simp at h
  | p :: hs, n, h => by
    unfold getH
    by_cases e : p.1 = n
    · rw [List.find?_cons_of_pos (by simp [e])]
      exact List.mem_cons.mpr (.inl (by rw [← e]))
    · rw [List.find?_cons_of_neg (by simp [e])]
      simp only [List.map_cons, List.mem_cons] at h
      exact List.mem_cons_of_mem _ (getH_mem (h.resolve_left fun z => e z.symm))
theorem getH_of : ∀ {hs : Hs} {p : Str × HouseD}, (hs.map (·.1)).Nodup → p ∈ hs → getH hs p.1 = p.2
  | [], p, _, h => by simp at h
  | q :: hs, p, nd, h => by
    simp only [List.map_cons, List.nodup_cons] at nd
    unfold getH
    rcases List.mem_cons.mp h with rfl | h
    · rw [List.find?_cons_of_pos (by simp)]
    · have e : ¬ q.1 = p.1 := fun e => nd.1 (e ▸ List.mem_map.mpr ⟨p, h, rfl⟩)
      rw [List.find?_cons_of_neg (by simp [e])]
      exact getH_of nd.2 h
theorem dget_str {n : Str} {v : V} (e : H a = some (.dK kvs)) (hv : valV kvs (Sum.inr n) = some v) : DGet H a (.str n) (some v) := by
  have := DGet.k e (k := Sum.inr n)
  rw [hv] at this
  exact this
theorem dget_in {n : Str} (e : H a = some (.dK kvs)) (h : HousesAt S K H kvs hs) : ∃ o, DGet H a (.str n) o ∧ o.isSome = decide (n ∈ hs.map (·.1)) := ⟨_, DGet.k e (k := Sum.inr n), h.in_ n⟩
/-- locked and unlocked again -/
theorem unlock_ext {od : Obj} {u : HO} (hd : H d = some u) (e : Ext (upd H d (.frz od u)) H1) : Ext H (upd H1 d u) := fun c o hc => by
  by_cases z : c = d
  · subst z
    rw [hd] at hc
    rw [upd_same]
    exact hc
  · rw [upd_ne z]
    exact e c o (by rw [upd_ne z]; exact hc)
end
section
variable {P : Program} {w : World} {K : PySem.W.Frag} {mg : Str → Option Value} {base : Heap}
def sp_are_named : Sp := fun vs H Q _ => ∃ (d : Addr) (kvs : List (Key × V)) (ns : List Str), vs = [.ref d] ∧ H d = some (.dK kvs) ∧ kvs.map (·.1) = ns.map Sum.inr ∧ 1 ≤ ns.length ∧ ns.length ≤ 8 ∧ (∀ n ∈ ns, isName n = true) ∧ ∀ H', Ext H H' → Q (.bl true) H'
theorem sc_are_named : FnScope ["thing", "name"] ["thing"] (defScope s_are_named) := ⟨rfl, rfl, rfl, by decide +kernel, rfl, by decide +kernel, by decide +kernel⟩
theorem ok_are_named (x : Fx K mg w) : FnR P w K mg base CX0 2 (a_are_named K) sp_are_named := by
  refine okR x.F_are_named sc_are_named (fun _ _ _ _ _ _ us hl => match us, hl with | [_], _ => rfl) (fun vs H Q E h => by obtain ⟨d, kvs, ns, rfl, hd, hk, l1, l2, hn, hQ⟩ := h; rfl) (fun cdv A outer s H vs Q E hr h => ?_)
  obtain ⟨d, kvs, ns, rfl, hd, hk, l1, l2, hn, hQ⟩ := h
  refine ⟨_, (pss_one (ps_ret (pe_and (pe_callB (r := rIsi K) call_isi rfl x.n_isinstance bb_isinstance (pa_cons (pv 0) (pa_cons (pe_gT x.n_dict (by rfl) rfl) pa_nil))) (pe_and (pe_chain op_le op_le pe_int (pe_callB call_lenD rfl x.n_len bb_len (pa_cons (pv 0) pa_nil)) (pe_gI x.i_MOST_HOUSES rfl)) (pe_one (pe_callB (r := rAll K) (cr_all rfl) rfl x.n_all bb_all (pa_cons (pe_lock (pe_lc (own := [("name", 1)]) (tt := tYes) rfl sc_are_named.nd (pi_keys (pv 0)) (blkOk_by (N := ["thing", "name"]) (sc := defScope s_are_named) (by decide +kernel)) (fun _ _ _ _ _ => (pg_name (i := 1) sc_are_named.nd rfl (Or.inl rfl))) (fun _ _ _ _ _ => pts_nil) (fun _ _ _ _ _ => (pe_callR (ok_is_name x) (hr.mono (by decide)) rfl x.m_is_name (keep_of x.F_is_name) pass0 (pa_cons (pv 1) pa_nil))))) pa_nil))))))), ?_⟩
  have hl : kvs.length = ns.length := by have := congrArg List.length hk; simpa using this
  refine ⟨_, rfl, _, _, _, _, true, rfl, .ty _, .base (.dK hd), kit_ty (by decide +kernel), true, rfl, ?_⟩
  refine ⟨_, rfl, d, kvs, rfl, hd, _, _, rfl, rfl, _, rfl, ifT (decide_eq_true (by omega)) ⟨_, _, rfl, rfl, _, rfl, ifT (decide_eq_true (by omega)) ?_⟩⟩
  refine ⟨d, _, hd, True.intro, fun od => ⟨_, rfl, d, od, rfl, .inl ⟨kvs, upd_same, fun D hD => ?_⟩⟩⟩
  refine lc_map (std_keys upd_same (fun z => z)) hD (fun v => match v with | .str z => some (.bl (isName z)) | _ => none) (by simp; omega) (fun y H' Nx hy e c1 c2 => ?_) (fun H4 e4 hD' => ?_)
  · obtain ⟨kv, hm, rfl⟩ := List.mem_map.mp hy
    have : kv.1 ∈ ns.map (Sum.inr : Str → Key) := by rw [← hk]; exact List.mem_map.mpr ⟨kv, hm, rfl⟩
    obtain ⟨n, hn1, e1⟩ := List.mem_map.mp this
    rw [← e1]
    refine ⟨rfl, _, rfl, n, rfl, Nat.le_trans (isName_len (hn n hn1)) (by decide), fun H4 e4 => c1 _ _ e4 (by rw [← e1]; rfl)⟩
  · refine ⟨e4 _ _ upd_same, D, ns.map isName, rfl, .of ?_, ?_⟩
    · have nd : D ≠ d := fun z => by rw [z, upd_same] at hD; cases hD
      rw [upd_ne nd, hD']
      have e5 : (kvs.map fun kv => kV kv.1) = ns.map V.str := by
        rw [show (fun kv : Key × V => kV kv.1) = kV ∘ (·.1) from rfl, ← List.map_map, hk, List.map_map]
        rfl
      congr 2
      rw [e5, List.filterMap_map, List.map_map]
      simp [Function.comp_def]
    · have hh : (ns.map isName).all id = true := by simp; exact hn
      rw [hh]
      exact hQ _ (unlock_ext hd e4)
/-- what a net's houses must be -/
structure HsFit (fine : Int) (hs : Hs) : Prop where
  l1 : 1 ≤ hs.length
  l2 : hs.length ≤ 8
  nm : ∀ p ∈ hs, isName p.1 = true
  nd : (hs.map (·.1)).Nodup
  sh : ∀ p ∈ hs, ∀ r ∈ p.2.rules, r.share ≤ fine
  cl : ∀ p ∈ hs, ∀ z ∈ p.2.calls, z ∈ hs.map (·.1)
def sp_need_houses (K : PySem.W.Frag) : Sp := fun vs H Q _ => ∃ (fine : Int) (d : Addr) (kvs : List (Key × V)) (hs : Hs), vs = [.int fine, .ref d] ∧ H d = some (.dK kvs) ∧ HousesAt no K H kvs hs ∧ HsFit fine hs ∧ ∀ H', Ext H H' → Q .non H'
theorem sc_need_houses : FnScope ["fine", "houses", "names", "name", "rule", "other"] ["fine", "houses"] (defScope s_need_houses) := ⟨rfl, rfl, rfl, by decide +kernel, rfl, by decide +kernel, by decide +kernel⟩
theorem ok_need_houses (x : Fx K mg w) : FnR P w K mg base CX0 3 (a_need_houses K) (sp_need_houses K) := by
  refine okR x.F_need_houses sc_need_houses (fun _ _ _ _ _ _ us hl => match us, hl with | [_, _], _ => rfl) (fun vs H Q E h => by obtain ⟨fine, d, kvs, hs, rfl, hd, hh, f, hQ⟩ := h; rfl) (fun cdv A outer s H vs Q E hr h => ?_)
  obtain ⟨fine, d, kvs, hs, rfl, hd, hh, f, hQ⟩ := h
  refine ⟨_, (pss_cons (ps_if (pt_not (pt_val (pe_callR (ok_are_named x) (hr.mono (by decide)) rfl x.m_are_named (keep_of x.F_are_named) pass0 (pa_cons (pv 1) pa_nil))))
 (pss_one ps_never)
 pss_nil)
 (pss_cons (ps_set (i := 2) sc_need_houses.nd rfl (Or.inl rfl) (pe_callB (call_sortedD rfl) rfl x.n_sorted bb_sorted (pa_cons (pv 1) pa_nil)))
 (pss_cons (ps_for PassesOwn.never rfl (pi_listK (K := K) rfl (pv 2)) (pg_name (i := 3) sc_need_houses.nd rfl (Or.inl rfl))
 (pss_one (ps_if (pt_not (pt_val (pe_callB (r := rIsi K) call_isi rfl x.n_isinstance bb_isinstance (pa_cons (pe_dget (hu_of hr) (pv 1) (pv 3) (fun _ _ => rfl)) (pa_cons (pe_gR x.m_House rfl) pa_nil)))))
 (pss_one ps_never)
 pss_nil)))
 (pss_cons (ps_for PassesOwn.never rfl (pi_listK (K := K) rfl (pv 2)) (pg_name (i := 3) sc_need_houses.nd rfl (Or.inl rfl))
 (pss_one (ps_if (pt_val (pe_callB (r := rAny K) (cr_any rfl) rfl x.n_any bb_any (pa_cons (pe_lc (own := [("rule", 4)]) (tt := tYes) rfl sc_need_houses.nd (pi_tupK (K := K) rfl (pe_propR (pe_dget (hu_of hr) (pv 1) (pv 3) (fun _ _ => rfl)) x.cl_House x.p_House_rules (ok_House_rules x) (hr.mono (by decide)) pass0)) (blkOk_by (N := ["fine", "houses", "names", "name", "rule", "other"]) (sc := defScope s_need_houses) (by decide +kernel)) (fun _ _ _ _ _ => (pg_name (i := 4) sc_need_houses.nd rfl (Or.inl rfl))) (fun _ _ _ _ _ => pts_nil) (fun _ _ _ _ _ => (pe_cmpR op_gt (pe_propR (pv 4) x.cl_Rule x.p_Rule_share (ok_Rule_share x) (hr.mono (by decide)) pass0) (pv 0) (nomark _)))) pa_nil)))
 (pss_one ps_never)
 pss_nil)))
 (pss_one (ps_for PassesOwn.never rfl (pi_listK (K := K) rfl (pv 2)) (pg_name (i := 3) sc_need_houses.nd rfl (Or.inl rfl))
 (pss_one (ps_if (pt_not (pt_val (pe_callB (r := rAll K) (cr_all rfl) rfl x.n_all bb_all (pa_cons (pe_lc (own := [("other", 5)]) (tt := tYes) rfl sc_need_houses.nd (pi_tupK (K := K) rfl (pe_propR (pe_dget (hu_of hr) (pv 1) (pv 3) (fun _ _ => rfl)) x.cl_House x.p_House_calls (ok_House_calls x) (hr.mono (by decide)) pass0)) (blkOk_by (N := ["fine", "houses", "names", "name", "rule", "other"]) (sc := defScope s_need_houses) (by decide +kernel)) (fun _ _ _ _ _ => (pg_name (i := 5) sc_need_houses.nd rfl (Or.inl rfl))) (fun _ _ _ _ _ => pts_nil) (fun _ _ _ _ _ => (pe_cmp (pc_din (hu_of hr) (pv 5) (pv 1))))) pa_nil))))
 (pss_one ps_never)
 pss_nil)))))))), ?_⟩
  have hl : (hs.map (·.1)).length = hs.length := by simp
  have f1 := f.l1
  have f2 := f.l2
  refine ⟨_, rfl, d, kvs, hs.map (·.1), rfl, hd, hh.keys, by omega, by omega, fun n hn => ?_, fun H1 e1 => ⟨true, rfl, ?_⟩⟩
  · obtain ⟨p, hp, rfl⟩ := List.mem_map.mp hn
    exact f.nm p hp
  refine ⟨_, rfl, d, kvs, hs.map (·.1), rfl, .of (e1 _ _ hd), hh.keys, by omega, fun ys l py _ nl => ?_⟩
  have e2 : Ext H1 (upd H1 l (.lst (ys.map V.str))) := ext_new nl
  have hL : (upd H1 l (.lst (ys.map V.str))) l = some (.lst (ys.map V.str)) := upd_same
  generalize upd H1 l (.lst (ys.map V.str)) = H2 at e2 hL
  have e12 := e1.trans e2
  have walk : ∀ (i : Nat) (y : V), (ys.map V.str)[i]? = some y → ∃ n, y = V.str n ∧ n ∈ hs.map (·.1) := fun i y hy => by
    obtain ⟨n, hn, rfl⟩ := List.mem_map.mp (List.mem_of_getElem? hy)
    exact ⟨n, rfl, py.mem_iff.mp hn⟩
  refine ⟨_, rfl, l, rfl, ⟨_, .of hL⟩, for_std (std_list (.of hL) (S := no) (fun z => z)) (fun i σ H' => Ext H2 H' ∧ ∃ v, σ = [some (.int fine), some (.ref d), some (.ref l), v, none, none]) ⟨Ext.rfl', none, rfl⟩ (fun i σ H' h => .ext h.1) (fun i y σ H' hy ⟨e, v, hσ⟩ => ?_) (fun σ H3 ⟨e3, v, hσ⟩ => ?_)⟩
  · subst hσ
    obtain ⟨n, rfl, hn⟩ := walk i y hy
    have e' := e12.trans e
    obtain ⟨a, hv, ht⟩ := hh.at_ n hn
    obtain ⟨_, _, _, dx, pr, pc, pl, os, h1, _⟩ := ht.ext e'
    exact ⟨_, rfl, _, rfl, d, _, rfl, dget_str (e' _ _ hd) hv, _, _, _, _, true, rfl, .own _, isi_own h1.1 x.cl_House x.cc_House x.cget x.ctak x.mro_House, x.kit_House, true, rfl, e, _, rfl⟩
  subst hσ
  have e13 := e12.trans e3
  have hL3 := e3 _ _ hL
  clear e2 hL nl e12 e1 e3
  refine ⟨_, rfl, l, rfl, ⟨_, .of hL3⟩, for_std (std_list (.of hL3) (S := no) (fun z => z)) (fun i σ H' => Ext H3 H' ∧ ∃ v, σ = [some (.int fine), some (.ref d), some (.ref l), v, none, none]) ⟨Ext.rfl', v, rfl⟩ (fun i σ H' h => .ext h.1) (fun i y σ H' hy ⟨e, v, hσ⟩ => ?_) (fun σ H4 ⟨e4, v, hσ⟩ => ?_)⟩
  · subst hσ
    obtain ⟨n, rfl, hn⟩ := walk i y hy
    have e' := e13.trans e
    obtain ⟨a, hv, ht⟩ := hh.at_ n hn
    have ht' := ht.ext e'
    obtain ⟨_, _, _, dx, pr, pc, pl, os, h1, _⟩ := id ht'
    refine ⟨_, rfl, _, rfl, d, _, rfl, dget_str (e' _ _ hd) hv, a, dx, _, rfl, h1.1, no, a, _, rfl, ht', fun p os' hp hr2 => ?_⟩
    refine ⟨p, rfl, ⟨_, .of hp.1⟩, fun D hD => lc_map (std_tup (.of hp.1) (fun z => z)) hD (fun v => some (.bl false)) ?_ (fun y H5 Nx hy e5 c1 c2 => ?_) (fun H5 e5 hD' => ?_)⟩
    · have r2 := ht'.1.r2
      have := hr2.length
      simp
      omega
    · obtain ⟨o, ho, rfl⟩ := List.mem_map.mp hy
      obtain ⟨r, hr, hra⟩ := paired_mem hr2 ho
      have hra' := hra.ext e5
      obtain ⟨_, dx', p', g1, g2⟩ := id hra'
      have := f.sh _ (getH_mem hn) r hr
      exact ⟨rfl, _, rfl, o, dx', _, rfl, g1.1, o, r, rfl, hra', _, rfl, _, _, rfl, rfl, c1 _ _ Ext.rfl' (by simp; omega)⟩
    · refine ⟨D, os'.map fun _ => false, rfl, .of ?_, ?_⟩
      · rw [hD']
        congr 2
        rw [List.filterMap_map, List.map_map]
        simp [Function.comp_def]
      · have hb : (os'.map fun _ => false).any id = false := by simp
        rw [hb]
        exact ⟨false, rfl, e.trans e5, _, rfl⟩
  subst hσ
  have e14 := e13.trans e4
  have hL4 := e4 _ _ hL3
  clear e13 e4 hL3
  refine ⟨_, rfl, l, rfl, ⟨_, .of hL4⟩, for_std (std_list (.of hL4) (S := no) (fun z => z)) (fun i σ H' => Ext H4 H' ∧ ∃ v, σ = [some (.int fine), some (.ref d), some (.ref l), v, none, none]) ⟨Ext.rfl', v, rfl⟩ (fun i σ H' h => .ext h.1) (fun i y σ H' hy ⟨e, v, hσ⟩ => ?_) (fun σ H5 ⟨e5, v, hσ⟩ => ?_)⟩
  · subst hσ
    obtain ⟨n, rfl, hn⟩ := walk i y hy
    have e' := e14.trans e
    obtain ⟨a, hv, ht⟩ := hh.at_ n hn
    have ht' := ht.ext e'
    obtain ⟨_, _, _, dx, pr, pc, pl, os, h1, _⟩ := id ht'
    refine ⟨_, rfl, _, rfl, d, _, rfl, dget_str (e' _ _ hd) hv, a, dx, _, rfl, h1.1, no, a, _, rfl, ht', fun p hp => ?_⟩
    refine ⟨p, rfl, ⟨_, .of hp.1⟩, fun D hD => lc_map (std_tup (.of hp.1) (fun z => z)) hD (fun v => some (.bl true)) ?_ (fun y H5 Nx hy e5 c1 c2 => ?_) (fun H5 e5 hD' => ?_)⟩
    · have := ht'.1.ln
      simp
      omega
    · obtain ⟨o, ho, rfl⟩ := List.mem_map.mp hy
      have hm := f.cl _ (getH_mem hn) o ho
      have e6 := e'.trans e5
      obtain ⟨r, g1, g2⟩ := dget_in (n := o) (e6 _ _ hd) (hh.ext e6)
      exact ⟨rfl, _, rfl, _, rfl, d, r, rfl, g1, c1 _ _ Ext.rfl' (by rw [g2, decide_eq_true hm])⟩
    · refine ⟨D, (getH hs n).calls.map fun _ => true, rfl, .of ?_, ?_⟩
      · rw [hD']
        congr 2
        rw [List.filterMap_map, List.map_map]
        simp [Function.comp_def]
      · have hb : ((getH hs n).calls.map fun _ => true).all id = true := by simp
        rw [hb]
        exact ⟨true, rfl, e.trans e5, _, rfl⟩
  exact hQ _ (e14.trans e5)
end
end Ws

set_option Elab.async false
set_option linter.all false
set_option maxRecDepth 100000
set_option maxHeartbeats 4000000
namespace Ws
open PySem PySem.Spec PyProof.Rows L2
structure NetD where
  fine : Int
  houses : Hs
  entries : List Str
  deriving DecidableEq
structure NetD.Fit (m : NetD) : Prop where
  f1 : 1 ≤ m.fine
  f2 : m.fine ≤ 1000
  hs : HsFit m.fine m.houses
  e0 : m.entries ≠ []
  nd : m.entries.Nodup
  sub : ∀ z ∈ m.entries, z ∈ m.houses.map (·.1)
  ln : m.entries.length < 64
structure NetMade (m n : NetD) : Prop where
  fine : n.fine = m.fine
  houses : n.houses.Perm m.houses
  sh : sortedS (n.houses.map (·.1)) = true
  entries : n.entries.Perm m.entries
  se : sortedS n.entries = true
theorem NetMade.fit {m n : NetD} (d : NetMade m n) (f : m.Fit) : n.Fit := by
  have pk : (n.houses.map (·.1)).Perm (m.houses.map (·.1)) := d.houses.map _
  refine ⟨by rw [d.fine]; exact f.f1, by rw [d.fine]; exact f.f2, ⟨?_, ?_, fun p hp => ?_, ?_, fun p hp r hr => ?_, fun p hp z hz => ?_⟩, ?_, ?_, fun z hz => ?_, ?_⟩
  · rw [d.houses.length_eq]; exact f.hs.l1
  · rw [d.houses.length_eq]; exact f.hs.l2
  · exact f.hs.nm p (d.houses.mem_iff.mp hp)
  · exact pk.nodup_iff.mpr f.hs.nd
  · rw [d.fine]; exact f.hs.sh p (d.houses.mem_iff.mp hp) r hr
  · exact pk.mem_iff.mpr (f.hs.cl p (d.houses.mem_iff.mp hp) z hz)
  · exact fun z => f.e0 (by have := d.entries; rw [z] at this; exact this.symm.eq_nil)
  · exact d.entries.nodup_iff.mpr f.nd
  · exact pk.mem_iff.mpr (f.sub z (d.entries.mem_iff.mp hz))
  · rw [d.entries.length_eq]; exact f.ln
theorem hs_eq {l m r : Hs} (nd : (r.map (·.1)).Nodup) (h : sortedS (l.map (·.1)) = true) (h' : sortedS (m.map (·.1)) = true) (p : l.Perm r) (q : m.Perm r) : l = m := by
  have hp : ∀ {l : Hs}, sortedS (l.map (·.1)) = true → l.Pairwise fun a b => LeS a.1 b.1 := fun h => List.pairwise_map.mp (sorted_pw h)
  refine (p.trans q.symm).eq_of_pairwise (fun a b ha hb h1 h2 => ?_) (hp h) (hp h')
  have e : a.1 = b.1 := str_cps (List.le_antisymm h1 h2)
  have ea := getH_of nd (p.mem_iff.mp ha)
  have eb := getH_of nd (q.mem_iff.mp hb)
  rw [e] at ea
  exact Prod.ext e (ea.symm.trans eb)
theorem netMade_eq {m n n' : NetD} (f : m.Fit) (d : NetMade m n) (d' : NetMade m n') : n = n' := by
  obtain ⟨a, b, c⟩ := n
  obtain ⟨a', b', c'⟩ := n'
  have h1 := d.fine.trans d'.fine.symm
  have h2 := hs_eq f.hs.nd d.sh d'.sh d.houses d'.houses
  have h3 := sorted_eq d.se d'.se (d.entries.trans d'.entries.symm)
  simp only at h1 h2 h3
  rw [h1, h2, h3]
theorem putAll_new : ∀ (ps kvs : List (Key × V)), ((kvs ++ ps).map (·.1)).Nodup → putAll kvs ps = kvs ++ ps
  | [], kvs, _ => by simp [putAll]
  | p :: ps, kvs, nd => by
    have hn : valV kvs p.1 = none := by
      cases q : valV kvs p.1 with
      | none => rfl
      | some v =>
        have hm := valV_in q
        rw [List.map_append, List.nodup_append] at nd
        exact absurd rfl (nd.2.2 _ hm _ (by simp))
    show putAll (putK kvs p.1 p.2) ps = _
    rw [putK_new _ hn, putAll_new ps _ (by simpa using nd)]
    simp
section
variable {S : Addr → Prop} {K : PySem.W.Frag} {H H1 : Hp} {a o q d : Addr} {kvs : List (Key × V)} {hs : Hs}
theorem HouseAt.off {h : HouseD} {C dx : Addr} (t : HouseAt S K H a h) (ho : H o = some (.ins C dx [])) (e : Kp (one o) H H1) : HouseAt S K H1 a h := by
  obtain ⟨f, s1, s2, dx, pr, pc, pl, os, h1, h2, h3, h4, h5⟩ := t
  exact ⟨f, s1, s2, dx, pr, pc, pl, os, h1.off ho (by simp) e, h2.off ho (by simp) e, Paired.mapP h3 fun _ _ z => z.off ho e, h4.off ho (by simp) e, h5.off ho (by simp) e⟩
theorem HousesAt.off {C dx : Addr} (t : HousesAt S K H kvs hs) (ho : H o = some (.ins C dx [])) (e : Kp (one o) H H1) : HousesAt S K H1 kvs hs := Paired.mapP t fun kv nh ⟨h1, a, h2, h3⟩ => ⟨h1, a, h2, h3.off ho e⟩
def NetAt (S : Addr → Prop) (K : PySem.W.Frag) (H : Hp) (o : Addr) (n : NetD) : Prop := n.Fit ∧ sortedS (n.houses.map (·.1)) = true ∧ sortedS n.entries = true ∧ ∃ dx ph pe kvs,
  At S H o (.ins (c_Net K) dx [("n_fine", .int n.fine), ("n_houses", .ref ph), ("n_entries", .ref pe)]) ∧ At S H ph (.dK kvs) ∧ HousesAt S K H kvs n.houses ∧ At S H pe (.tup (n.entries.map V.str))
theorem NetAt.kp {n : NetD} (t : NetAt S K H o n) (e : Kp S H H1) : NetAt S K H1 o n := by
  obtain ⟨f, s1, s2, dx, ph, pe, kvs, h1, h2, h3, h4⟩ := t
  exact ⟨f, s1, s2, dx, ph, pe, kvs, h1.kp e, h2.kp e, h3.kp e, h4.kp e⟩
theorem NetAt.ext {n : NetD} (t : NetAt S K H o n) (e : Ext H H1) : NetAt S K H1 o n := t.kp (.ext e)
theorem NetAt.grow {n : NetD} (t : NetAt S K H o n) (hq : H q = none) : NetAt (more S q) K H o n := by
  obtain ⟨f, s1, s2, dx, ph, pe, kvs, h1, h2, h3, h4⟩ := t
  exact ⟨f, s1, s2, dx, ph, pe, kvs, h1.grow hq, h2.grow hq, h3.grow hq, h4.grow hq⟩
theorem HousesAt.free (t : HousesAt S K H kvs hs) : HousesAt no K H kvs hs := Paired.mapP t fun kv nh ⟨h1, a, h2, h3⟩ => ⟨h1, a, h2, h3.free⟩
theorem NetAt.free {n : NetD} (t : NetAt S K H o n) : NetAt no K H o n := by
  obtain ⟨f, s1, s2, dx, ph, pe, kvs, h1, h2, h3, h4⟩ := t
  exact ⟨f, s1, s2, dx, ph, pe, kvs, h1.free, h2.free, h3.free, h4.free⟩
/-- the houses in the order of the names ys -/
theorem houses_row (h : HousesAt S K H kvs hs) : ∀ ys : List Str, (∀ y ∈ ys, y ∈ hs.map (·.1)) → HousesAt S K H (ys.map fun n => (Sum.inr n, (valV kvs (Sum.inr n)).getD .non)) (ys.map fun n => (n, getH hs n))
  | [], _ => .nil
  | y :: ys, hy => by
    obtain ⟨a, h1, h2⟩ := h.at_ y (hy y List.mem_cons_self)
    exact .cons ⟨rfl, a, (by show (valV kvs (Sum.inr y)).getD .non = _; rw [h1]; rfl), h2⟩ (houses_row h ys fun z hz => hy z (List.mem_cons_of_mem _ hz))
theorem hs_names (nd : (hs.map (·.1)).Nodup) : (hs.map (·.1)).map (fun n => (n, getH hs n)) = hs := by
  rw [List.map_map]
  conv => rhs; rw [← List.map_id hs]
  refine List.map_congr_left fun p hp => ?_
  show (p.1, getH hs p.1) = p
  rw [getH_of nd hp]
end
section
variable {P : Program} {w : World} {K : PySem.W.Frag} {mg : Str → Option Value} {base : Heap}
def sp_Net_init (K : PySem.W.Frag) : Sp := fun vs H Q _ => ∃ (S : Addr → Prop) (o dx d ae : Addr) (kvs : List (Key × V)) (m : NetD), vs = [.ref o, .int m.fine, .ref d, .ref ae] ∧ Dm S H ∧ At S H o (.ins (c_Net K) dx []) ∧ H d = some (.dK kvs) ∧
  HousesAt S K H kvs m.houses ∧ Sq K H ae (m.entries.map V.str) ∧ m.Fit ∧ ∀ H' n, Kp (one o) H H' → NetMade m n → NetAt S K H' o n → Q .non H'
theorem sc_Net_init : FnScope ["self", "fine", "houses", "entries", "name"] ["self", "fine", "houses", "entries"] (defScope s_Net_init) := ⟨rfl, rfl, rfl, by decide +kernel, rfl, by decide +kernel, by decide +kernel⟩
theorem ok_Net_init (x : Fx K mg w) : FnR P w K mg base CX0 4 (a_Net_init K) (sp_Net_init K) := by
  refine okR x.F_Net_init sc_Net_init (fun _ _ _ _ _ _ us hl => match us, hl with | [_, _, _, _], _ => rfl) (fun vs H Q E h => by obtain ⟨S, o, dx, d, ae, kvs, m, rfl, dm, ho, hd, hh, he, f, hQ⟩ := h; rfl) (fun cdv A outer s H vs Q E hr h => ?_)
  obtain ⟨S, o, dx, d, ae, kvs, m, rfl, dm, ho, hd, hh, he, f, hQ⟩ := h
  refine ⟨_, (pss_cons (ps_if (PW.pt (pw_or (pt_not (pt_val (pe_callR (ok_is_number x) (hr.mono (by decide)) rfl x.m_is_number (keep_of x.F_is_number) pass0 (pa_cons (pv 1) pa_nil)))) (pw_or1 (pt_not (pt_chain op_le op_le pe_int (pv 1) (pe_gI x.i_MOST_FINE rfl))))))
 (pss_one ps_never)
 pss_nil)
 (pss_cons (ps_expr (pe_callR (ok_need_houses x) (hr.mono (by decide)) rfl x.m_need_houses (keep_of x.F_need_houses) pass0 (pa_cons (pv 1) (pa_cons (pv 2) pa_nil))))
 (pss_cons (ps_if (PW.pt (pw_or (pt_not (pt_val (pe_callR (ok_are_names x) (hr.mono (by decide)) rfl x.m_are_names (keep_of x.F_are_names) pass0 (pa_cons (pv 3) pa_nil)))) (pw_or (pt_cmpR op_eq (pe_callB (r := rLenK K) call_lenK rfl x.n_len bb_len (pa_cons (pv 3) pa_nil)) pe_int (nomark _)) (pw_or1 (pt_not (pt_val (pe_callB (r := rAll K) (cr_all rfl) rfl x.n_all bb_all (pa_cons (pe_lc (own := [("name", 4)]) (tt := tYes) rfl sc_Net_init.nd (pi_seqK (K := K) rfl (pv 3)) (blkOk_by (N := ["self", "fine", "houses", "entries", "name"]) (sc := defScope s_Net_init) (by decide +kernel)) (fun _ _ _ _ _ => (pg_name (i := 4) sc_Net_init.nd rfl (Or.inl rfl))) (fun _ _ _ _ _ => pts_nil) (fun _ _ _ _ _ => (pe_cmp (pc_din (hu_of hr) (pv 4) (pv 2))))) pa_nil))))))))
 (pss_one ps_never)
 pss_nil)
 (pss_cons (ps_fld (pv 0) (pv 1) rfl)
 (pss_cons (ps_fld (pv 0) (pe_dc (own := [("name", 4)]) (tt := tYes) rfl sc_Net_init.nd (pi_listK (K := K) rfl (pe_callB (call_sortedD rfl) rfl x.n_sorted bb_sorted (pa_cons (pv 2) pa_nil))) (blkOk_by (N := ["self", "fine", "houses", "entries", "name"]) (sc := defScope s_Net_init) (by decide +kernel)) (fun _ _ _ _ _ => (pg_name (i := 4) sc_Net_init.nd rfl (Or.inl rfl))) (fun _ _ _ _ _ => pts_nil) (fun _ _ _ _ _ => (pv 4)) (fun _ _ _ _ _ => (pe_dget (hu_of hr) (pv 2) (pv 4) (fun _ _ => rfl)))) rfl)
 (pss_one (ps_fld (pv 0) (pe_callTy (r := rTupOf K) call_tupK rfl x.n_tuple bb_tuple (pa_cons (pe_callB (r := rSortS K) call_sortS rfl x.n_sorted bb_sorted (pa_cons (pv 3) pa_nil)) pa_nil)) rfl))))))), ?_⟩
  have fl := f.ln
  have f8 := f.hs.l2
  have nml : (m.houses.map (·.1)).length = m.houses.length := by simp
  have nme : ∀ z ∈ m.entries, isName z = true := fun z hz => by
    obtain ⟨p, hp, rfl⟩ := List.mem_map.mp (f.sub z hz)
    exact f.hs.nm p hp
  have nc : (m.entries.all isName && decide m.entries.Nodup) = true := by simp [f.nd]; exact nme
  refine ⟨_, rfl, _, rfl, true, rfl, ?_⟩
  refine ⟨_, rfl, _, _, rfl, rfl, _, rfl, ifT (decide_eq_true f.f1) ⟨_, _, rfl, rfl, _, rfl, ifF (by simp [f.f2]) ?_⟩⟩
  refine ⟨_, rfl, _, rfl, m.fine, d, kvs, m.houses, rfl, hd, hh.free, f.hs, fun H1 e1 => ?_⟩
  refine ⟨_, rfl, ae, m.entries, rfl, sq_ext he e1, by omega, fun z hz => Nat.le_trans (isName_len (nme z hz)) (by decide), fun H2 e2 => ⟨_, rfl, ifF (by simp [nc]) ?_⟩⟩
  have e12 := e1.trans e2
  refine ⟨_, rfl, _, _, rfl, sq_lenV (sq_ext he e12), rfl, _, rfl, ifF ?_ ?_⟩
  · have := f.e0
    simp only [List.length_map, decide_eq_false_iff_not, V.int.injEq]
    intro z
    exact this (List.eq_nil_of_length_eq_zero (by omega))
  refine seq_go rfl (sq_ext he e12) (fun z => z) fun J st D hD => lc_map st hD (fun v => some (.bl true)) (by simp; omega) (fun y H' Nx hy e c1 c2 => ?_) (fun H3 e3 hD' => ?_)
  · obtain ⟨z, hm, rfl⟩ := List.mem_map.mp hy
    have e6 := e12.trans e
    obtain ⟨r, g1, g2⟩ := dget_in (n := z) (e6 _ _ hd) (hh.ext e6)
    exact ⟨rfl, _, rfl, _, rfl, d, r, rfl, g1, c1 _ _ Ext.rfl' (by rw [g2, decide_eq_true (f.sub z hm)])⟩
  refine ⟨D, m.entries.map fun _ => true, rfl, .of ?_, ?_⟩
  · rw [hD']
    congr 2
    rw [List.filterMap_map, List.map_map]
    simp [Function.comp_def]
  have hb : (m.entries.map fun _ => true).all id = true := by simp
  rw [hb]
  refine ⟨true, rfl, ?_⟩
  have e13 := e12.trans e3
  clear st hD' hD e12 e3 e2 e1 hb
  have o3 := e13 _ _ ho.1
  refine ⟨_, rfl, _, rfl, o, _, dx, [], rfl, o3, x.cl_Net, x.na_Net_n_fine, by simp, ?_⟩
  have u4 : Kp (one o) H (upd H3 o (.ins (c_Net K) dx [("n_fine", .int m.fine)])) := (Kp.ext e13).put rfl
  have o4 : (upd H3 o (.ins (c_Net K) dx [("n_fine", .int m.fine)])) o = some (.ins (c_Net K) dx [("n_fine", .int m.fine)]) := upd_same
  change tSeq _ _ _ _ (upd H3 o (.ins (c_Net K) dx [("n_fine", .int m.fine)]))
  generalize upd H3 o (.ins (c_Net K) dx [("n_fine", .int m.fine)]) = H4 at u4 o4
  have nd : d ≠ o := ne_of hd ho.1 (by simp)
  have hh4 := hh.off ho.1 u4
  refine ⟨_, rfl, d, kvs, m.houses.map (·.1), rfl, .of (u4.keep _ _ hd nd), hh4.keys, by omega, fun ys l py sy nl => ?_⟩
  have hn : ∀ y ∈ ys, y ∈ m.houses.map (·.1) := fun y hy => py.mem_iff.mp hy
  have ndy : ys.Nodup := py.nodup_iff.mpr f.hs.nd
  have lny := py.length_eq
  have e5 : Ext H4 (upd H4 l (.lst (ys.map V.str))) := ext_new nl
  have hL : (upd H4 l (.lst (ys.map V.str))) l = some (.lst (ys.map V.str)) := upd_same
  generalize upd H4 l (.lst (ys.map V.str)) = H5 at e5 hL
  have u5 := u4.trans (.ext e5)
  refine ⟨l, rfl, ⟨_, .of hL⟩, fun ph hph => ?_⟩
  refine dc_map (std_list (.of hL) (fun z => z)) hph (fun v => match v with | .str n => (Sum.inr n, (valV kvs (Sum.inr n)).getD .non) | _ => (Sum.inl 0, .non)) (by simp; omega) (fun y H6 Nx hy e6 c1 => ?_) (fun H6 e6 hP => ?_)
  · obtain ⟨z, hm, rfl⟩ := List.mem_map.mp hy
    obtain ⟨a, hv, ht⟩ := hh.at_ z (hn z hm)
    have hd6 : H6 d = some (.dK kvs) := e6 _ _ (u5.keep _ _ hd nd)
    exact ⟨rfl, _, rfl, _, rfl, _, rfl, d, _, rfl, dget_str hd6 hv, c1 _ _ _ Ext.rfl' rfl (by show V.ref a = (valV kvs (Sum.inr z)).getD .non; rw [hv]; rfl)⟩
  have np : ph ≠ o := fun z => by rw [z, e5 _ _ o4] at hph; cases hph
  have sp : ¬ S ph := fun z => dm.kp u5 ph z hph
  have rows : (ys.map V.str).map (fun v => match v with | .str n => ((Sum.inr n : Key), (valV kvs (Sum.inr n)).getD .non) | _ => (Sum.inl 0, .non)) = ys.map fun n => (Sum.inr n, (valV kvs (Sum.inr n)).getD .non) := by
    rw [List.map_map]
    rfl
  rw [rows, putAll_new _ [] (by
    simp only [List.nil_append, List.map_map]
    exact List.Pairwise.map _ (fun a b h z => h (by injection z)) ndy)] at hP
  have u6 := u5.trans (.ext e6)
  have o6 := e6 _ _ (e5 _ _ o4)
  refine ⟨_, rfl, o, _, dx, _, rfl, o6, x.cl_Net, x.na_Net_n_houses, by simp, ?_⟩
  have u7 : Kp (one o) H (upd H6 o (.ins (c_Net K) dx [("n_fine", .int m.fine), ("n_houses", .ref ph)])) := u6.put rfl
  have o7 : (upd H6 o (.ins (c_Net K) dx [("n_fine", .int m.fine), ("n_houses", .ref ph)])) o = some (.ins (c_Net K) dx [("n_fine", .int m.fine), ("n_houses", .ref ph)]) := upd_same
  have p7 : (upd H6 o (.ins (c_Net K) dx [("n_fine", .int m.fine), ("n_houses", .ref ph)])) ph = some (.dK (ys.map fun n => (Sum.inr n, (valV kvs (Sum.inr n)).getD .non))) := by rw [upd_ne np]; exact hP
  rw [show putF "n_houses" (.ref ph) [("n_fine", .int m.fine)] = ([("n_fine", .int m.fine), ("n_houses", .ref ph)] : List (Str × V)) from rfl]
  generalize upd H6 o (.ins (c_Net K) dx [("n_fine", .int m.fine), ("n_houses", .ref ph)]) = H7 at u7 o7 p7
  refine srt_tup rfl (sq_kp (S := one o) he (sq_ne he ho.1) u7) fl fun zs pe H8 pz sz e8 np8 t8 => ?_
  have n8 : pe ≠ o := fun z => by rw [z, o7] at np8; cases np8
  have s8 : ¬ S pe := fun z => dm.kp u7 pe z np8
  refine ⟨_, rfl, o, _, dx, _, rfl, e8 _ _ o7, x.cl_Net, x.na_Net_n_entries, by simp, ?_⟩
  have u9 : Kp (one o) H (upd H8 o (.ins (c_Net K) dx [("n_fine", .int m.fine), ("n_houses", .ref ph), ("n_entries", .ref pe)])) := (u7.trans (.ext e8)).put rfl
  change Q .non (upd H8 o (.ins (c_Net K) dx [("n_fine", .int m.fine), ("n_houses", .ref ph), ("n_entries", .ref pe)]))
  have pm : (ys.map fun n => (n, getH m.houses n)).Perm m.houses := by
    have := py.map fun n => (n, getH m.houses n)
    rwa [hs_names f.hs.nd] at this
  have ky : (ys.map fun n => (n, getH m.houses n)).map (·.1) = ys := by simp [Function.comp_def]
  have md : NetMade m ⟨m.fine, ys.map fun n => (n, getH m.houses n), zs⟩ := ⟨rfl, pm, by rw [ky]; exact sy, pz, sz⟩
  exact hQ _ _ u9 md ⟨md.fit f, by rw [ky]; exact sy, sz, dx, ph, pe, _, ⟨upd_same, ho.2⟩, ⟨by rw [upd_ne np]; exact e8 _ _ p7, sp⟩, houses_row (hh.off ho.1 u9) ys hn, ⟨by rw [upd_ne n8]; exact t8, s8⟩⟩
end
end Ws

set_option Elab.async false
set_option linter.all false
set_option maxRecDepth 100000
set_option maxHeartbeats 4000000
namespace Ws
open PySem PySem.Spec PyProof.Rows L2
def NetD.names (n : NetD) : List Str := n.houses.map (·.1)
def setH (hs : Hs) (z : Str) (h : HouseD) : Hs := hs.map fun p => if p.1 = z then (p.1, h) else p
theorem setH_keys (hs : Hs) (z : Str) (h : HouseD) : (setH hs z h).map (·.1) = hs.map (·.1) := by
  unfold setH
  rw [List.map_map]
  refine List.map_congr_left fun p _ => ?_
  show (if p.1 = z then (p.1, h) else p).1 = p.1
  split <;> rfl
theorem perm_of_sub {α : Type} [DecidableEq α] : ∀ {l m : List α}, l.Nodup → (∀ a ∈ l, a ∈ m) → m.length ≤ l.length → l.Perm m
  | [], m, _, _, hl => by
    have : m = [] := List.eq_nil_of_length_eq_zero (by simpa using hl)
    rw [this]
  | a :: l, m, nd, hs, hl => by
    obtain ⟨n1, n2⟩ := List.nodup_cons.mp nd
    have ha := hs a List.mem_cons_self
    have hm := List.perm_cons_erase ha
    have := perm_of_sub (l := l) (m := m.erase a) n2 (fun b hb => (List.mem_erase_of_ne fun z => n1 (by rw [← z]; exact hb)).mpr (hs b (List.mem_cons_of_mem _ hb))) (by
      rw [List.length_erase_of_mem ha]
      simp only [List.length_cons] at hl
      omega)
    exact (this.cons a).trans hm.symm
/-- what == of two dicts of houses tells -/
def hitB (ha hb : Hs) : Bool := ha.all fun p => decide (p.1 ∈ hb.map (·.1)) && decide (p.2 = getH hb p.1)
theorem hitB_eq {ha hb : Hs} (na : (ha.map (·.1)).Nodup) (nb : (hb.map (·.1)).Nodup) (sa : sortedS (ha.map (·.1)) = true) (sb : sortedS (hb.map (·.1)) = true) (l : ha.length = hb.length) : hitB ha hb = decide (ha = hb) := by
  rw [Bool.eq_iff_iff]
  unfold hitB
  simp only [List.all_eq_true, Bool.and_eq_true, decide_eq_true_eq]
  constructor
  · intro h
    have sub : ∀ p ∈ ha, p ∈ hb := fun p hp => by
      obtain ⟨h1, h2⟩ := h p hp
      have := getH_mem h1
      rwa [← h2] at this
    have ndp : ha.Nodup := by
      have := List.pairwise_map.mp na
      exact this.imp fun {a b} h e => h (by rw [e])
    exact hs_eq nb sa sb (perm_of_sub ndp sub (by omega)) (.refl _)
  · rintro rfl p hp
    exact ⟨List.mem_map.mpr ⟨p, hp, rfl⟩, (getH_of na hp).symm⟩
section
variable {S : Addr → Prop} {K : PySem.W.Frag} {H H1 : Hp} {a o q d : Addr} {kvs ka kb : List (Key × V)} {hs ha hb : Hs}
theorem houses_hits (hB : HousesAt no K H kb hb) : ∀ {ka : List (Key × V)} {ha : Hs}, HousesAt no K H ka ha → Hits (DHouse K) kb ka (hitB ha hb) H
  | _, _, .nil => rfl
  | (k, v) :: ka, (n, h) :: ha, .cons ⟨h1, a, h2, h3⟩ t => by
    have h1 : k = Sum.inr n := h1
    have h2 : v = .ref a := h2
    subst h1 h2
    have e : hitB ((n, h) :: ha) hb = ((decide (n ∈ hb.map (·.1)) && decide (h = getH hb n)) && hitB ha hb) := by
      unfold hitB
      rw [List.all_cons]
    rw [e]
    cases q : valV kb (Sum.inr n) with
    | none =>
      have := hB.in_ n
      rw [q] at this
      refine .inl ⟨q, ?_⟩
      rw [← this]
      rfl
    | some y =>
      have hn := hB.in_ n
      rw [q] at hn
      have hm : n ∈ hb.map (·.1) := of_decide_eq_true hn.symm
      obtain ⟨b, g1, g2⟩ := hB.at_ n hm
      rw [q] at g1
      cases g1
      refine .inr ⟨.ref b, decide (h = getH hb n), hitB ha hb, q, ?_, houses_hits hB t, by rw [decide_eq_true hm, Bool.true_and]⟩
      obtain ⟨_, _, _, dx, pr, pc, pl, os, k1, _⟩ := id h3
      obtain ⟨_, _, _, dy, pr', pc', pl', os', k2, _⟩ := id g2
      exact ⟨a, b, dx, dy, _, _, rfl, rfl, k1.1, k2.1, fun z => by subst z; exact decide_eq_true (h3.inj g2), h, _, h3, g2, rfl⟩
theorem HousesAt.len (h : HousesAt S K H kvs hs) : kvs.length = hs.length := Paired.length h
theorem houses_put {z : Str} {h' : HouseD} (ht : HouseAt S K H a h') : ∀ {kvs : List (Key × V)} {hs : Hs}, HousesAt S K H kvs hs → HousesAt S K H (kvs.map fun kv => if kv.1 = Sum.inr z then (kv.1, .ref a) else kv) (setH hs z h')
  | _, _, .nil => .nil
  | kv :: kvs, nh :: hs, .cons ⟨h1, b, h2, h3⟩ t => by
    refine .cons ?_ (houses_put ht t)
    by_cases e : nh.1 = z
    · have c : kv.1 = Sum.inr z := by rw [h1, e]
      dsimp only
      rw [if_pos c, if_pos e]
      exact ⟨h1, a, rfl, ht⟩
    · have c : ¬ kv.1 = Sum.inr z := by rw [h1]; intro q; injection q with q; exact e q
      dsimp only
      rw [if_neg c, if_neg e]
      exact ⟨h1, b, h2, h3⟩
end
theorem setH_mem {hs : Hs} {z : Str} {h : HouseD} {p : Str × HouseD} (hp : p ∈ setH hs z h) : (p = (z, h) ∨ p ∈ hs) := by
  obtain ⟨q, hq, e⟩ := List.mem_map.mp hp
  split at e
  · rename_i g
    exact .inl (by rw [← e, g])
  · exact .inr (e ▸ hq)
theorem set_fit {n : NetD} {z : Str} {h : HouseD} (f : n.Fit) (h1 : ∀ r ∈ h.rules, r.share ≤ n.fine) (h2 : ∀ y ∈ h.calls, y ∈ n.names) (hz : z ∈ n.names) : NetD.Fit { n with houses := setH n.houses z h } := by
  have k : (setH n.houses z h).map (·.1) = n.houses.map (·.1) := setH_keys _ _ _
  have l : (setH n.houses z h).length = n.houses.length := by simp [setH]
  refine ⟨f.f1, f.f2, ⟨by show 1 ≤ (setH n.houses z h).length; rw [l]; exact f.hs.l1, by show (setH n.houses z h).length ≤ 8; rw [l]; exact f.hs.l2, fun p hp => ?_, by show ((setH n.houses z h).map (·.1)).Nodup; rw [k]; exact f.hs.nd, fun p hp r hr => ?_, fun p hp y hy => ?_⟩, f.e0, f.nd, fun y hy => by show y ∈ (setH n.houses z h).map (·.1); rw [k]; exact f.sub y hy, f.ln⟩
  · rcases setH_mem hp with rfl | hp
    · obtain ⟨q, hq, e⟩ := List.mem_map.mp hz
      have := f.hs.nm q hq
      rwa [show q.1 = z from e] at this
    · exact f.hs.nm p hp
  · rcases setH_mem hp with rfl | hp
    · exact h1 r hr
    · exact f.hs.sh p hp r hr
  · show y ∈ (setH n.houses z h).map (·.1)
    rw [k]
    rcases setH_mem hp with rfl | hp
    · exact h2 y hy
    · exact f.hs.cl p hp y hy
section
variable {P : Program} {w : World} {K : PySem.W.Frag} {mg : Str → Option Value} {base : Heap}
def sp_Net_contains (K : PySem.W.Frag) : Sp := fun vs H Q _ => ∃ (S : Addr → Prop) (o : Addr) (n : NetD) (z : Str), vs = [.ref o, .str z] ∧ NetAt S K H o n ∧ Q (.bl (decide (z ∈ n.names))) H
theorem sc_Net_contains : FnScope ["self", "name"] ["self", "name"] (defScope s_Net_contains) := ⟨rfl, rfl, rfl, by decide +kernel, rfl, by decide +kernel, by decide +kernel⟩
theorem ok_Net_contains (x : Fx K mg w) : FnR P w K mg base CX0 1 (a_Net_contains K) (sp_Net_contains K) := by
  refine okR x.F_Net_contains sc_Net_contains (fun _ _ _ _ _ _ us hl => match us, hl with | [_, _], _ => rfl) (fun vs H Q E h => by obtain ⟨S, o, n, z, rfl, ⟨f, s1, s2, dx, ph, pe, kvs, h1, h2, h3, h4⟩, hQ⟩ := h; rfl) (fun cdv A outer s H vs Q E hr h => ?_)
  obtain ⟨S, o, n, z, rfl, ⟨f, s1, s2, dx, ph, pe, kvs, h1, h2, h3, h4⟩, hQ⟩ := h
  refine ⟨_, (pss_one (ps_ret (pe_and (pe_callB (r := rIsi K) call_isi rfl x.n_isinstance bb_isinstance (pa_cons (pv 1) (pa_cons (pe_gT x.n_str (by rfl) rfl) pa_nil))) (pe_one (pe_cmp (pc_din (hu_of hr) (pv 1) (pe_fldK (K := K) rfl (pv 0) rfl))))))), ?_⟩
  refine ⟨_, rfl, _, _, _, _, true, rfl, .ty _, .base (.str z), kit_ty (by decide +kernel), true, rfl, ?_⟩
  obtain ⟨r, g1, g2⟩ := dget_in (n := z) h2.1 h3
  refine ⟨_, rfl, _, rfl, o, _, dx, _, _, rfl, h1.1, x.cl_Net, x.na_Net_n_houses, rfl, ph, r, rfl, g1, ?_⟩
  rw [g2]
  exact hQ
def sp_need_house (K : PySem.W.Frag) : Sp := fun vs H Q _ => ∃ (S : Addr → Prop) (o : Addr) (n : NetD) (z : Str), vs = [.ref o, .str z] ∧ NetAt S K H o n ∧ z ∈ n.names ∧ Q .non H
theorem sc_need_house : FnScope ["net", "house"] ["net", "house"] (defScope s_need_house) := ⟨rfl, rfl, rfl, by decide +kernel, rfl, by decide +kernel, by decide +kernel⟩
theorem ok_need_house (x : Fx K mg w) : FnR P w K mg base CX0 2 (a_need_house K) (sp_need_house K) := by
  refine okR x.F_need_house sc_need_house (fun _ _ _ _ _ _ us hl => match us, hl with | [_, _], _ => rfl) (fun vs H Q E h => by obtain ⟨S, o, n, z, rfl, t, hz, hQ⟩ := h; rfl) (fun cdv A outer s H vs Q E hr h => ?_)
  obtain ⟨S, o, n, z, rfl, t, hz, hQ⟩ := h
  refine ⟨_, (pss_one (ps_if (pt_cmpR (op_notInI x.sp_Net_contains x.fn_Net_contains (ok_Net_contains x) (hr.mono (by decide)) pass0) (pv 1) (pv 0) rfl)
 (pss_one ps_never)
 pss_nil)), ?_⟩
  obtain ⟨f, s1, s2, dx, ph, pe, kvs, h1, h2, h3, h4⟩ := id t
  refine ⟨_, rfl, _, rfl, o, dx, _, rfl, h1.1, S, o, n, z, rfl, t, _, rfl, _, rfl, ifF (by simp [hz]) hQ⟩
def sp_Net_getitem (K : PySem.W.Frag) : Sp := fun vs H Q _ => ∃ (S : Addr → Prop) (o : Addr) (n : NetD) (z : Str), vs = [.ref o, .str z] ∧ NetAt S K H o n ∧ z ∈ n.names ∧ ∀ a, HouseAt S K H a (getH n.houses z) → Q (.ref a) H
theorem sc_Net_getitem : FnScope ["self", "house"] ["self", "house"] (defScope s_Net_getitem) := ⟨rfl, rfl, rfl, by decide +kernel, rfl, by decide +kernel, by decide +kernel⟩
theorem ok_Net_getitem (x : Fx K mg w) : FnR P w K mg base CX0 3 (a_Net_getitem K) (sp_Net_getitem K) := by
  refine okR x.F_Net_getitem sc_Net_getitem (fun _ _ _ _ _ _ us hl => match us, hl with | [_, _], _ => rfl) (fun vs H Q E h => by obtain ⟨S, o, n, z, rfl, t, hz, hQ⟩ := h; rfl) (fun cdv A outer s H vs Q E hr h => ?_)
  obtain ⟨S, o, n, z, rfl, t, hz, hQ⟩ := h
  refine ⟨_, (pss_cons (ps_expr (pe_callR (ok_need_house x) (hr.mono (by decide)) rfl x.m_need_house (keep_of x.F_need_house) pass0 (pa_cons (pv 0) (pa_cons (pv 1) pa_nil))))
 (pss_one (ps_ret (pe_dget (hu_of hr) (pe_fldK (K := K) rfl (pv 0) rfl) (pv 1) (fun _ _ => rfl))))), ?_⟩
  obtain ⟨f, s1, s2, dx, ph, pe, kvs, h1, h2, h3, h4⟩ := id t
  obtain ⟨a, hv, ht⟩ := h3.at_ z hz
  exact ⟨_, rfl, _, rfl, S, o, n, z, rfl, t, hz, _, rfl, o, _, dx, _, _, rfl, h1.1, x.cl_Net, x.na_Net_n_houses, rfl, _, rfl, ph, _, rfl, dget_str h2.1 hv, hQ a ht⟩
def sp_need_net (K : PySem.W.Frag) : Sp := fun vs H Q _ => ∃ (S : Addr → Prop) (o : Addr) (n : NetD), vs = [.ref o] ∧ NetAt S K H o n ∧ Q .non H
theorem sc_need_net : FnScope ["net"] ["net"] (defScope s_need_net) := ⟨rfl, rfl, rfl, by decide +kernel, rfl, by decide +kernel, by decide +kernel⟩
theorem ok_need_net (x : Fx K mg w) : FnR P w K mg base CX0 1 (a_need_net K) (sp_need_net K) := by
  refine okR x.F_need_net sc_need_net (fun _ _ _ _ _ _ us hl => match us, hl with | [_], _ => rfl) (fun vs H Q E h => by obtain ⟨S, o, n, rfl, ⟨f, s1, s2, dx, ph, pe, kvs, h1, h2, h3, h4⟩, hQ⟩ := h; rfl) (fun cdv A outer s H vs Q E hr h => ?_)
  obtain ⟨S, o, n, rfl, ⟨f, s1, s2, dx, ph, pe, kvs, h1, h2, h3, h4⟩, hQ⟩ := h
  refine ⟨_, (pss_one (ps_if (pt_not (pt_val (pe_callB (r := rIsi K) call_isi rfl x.n_isinstance bb_isinstance (pa_cons (pv 0) (pa_cons (pe_gR x.m_Net rfl) pa_nil)))))
 (pss_one ps_never)
 pss_nil)), ?_⟩
  exact ⟨_, rfl, _, _, _, _, true, rfl, .own _, isi_own h1.1 x.cl_Net x.cc_Net x.cget x.ctak x.mro_Net, x.kit_Net, true, rfl, hQ⟩
/-- equal as two nets are -/
def NetR (K : PySem.W.Frag) (p q : Addr) (b : Bool) (H : Hp) : Prop := ∃ n n', NetAt no K H p n ∧ NetAt no K H q n' ∧ b = decide (n = n')
def NetD.dat (n : NetD) : PyData := .tuple [.int n.fine, .tuple (n.entries.map .str)]
theorem NetD.Fit.nme {n : NetD} (f : n.Fit) : ∀ z ∈ n.entries, isName z = true := fun z hz => by
  obtain ⟨p, hp, rfl⟩ := List.mem_map.mp (f.sub z hz)
  exact f.hs.nm p hp
theorem net_shaped {n : NetD} (f : n.Fit) : SeqAt.shaped n.dat = true := by
  unfold SeqAt.shaped NetD.dat
  simp [PyData.canLay0, PyData.canLayAll0, PyData.depth, PyData.depthAll, strs_depth, strs_lay f.nme]
theorem net_eqv (n n' : NetD) : PyData.eqv n.dat n'.dat = (decide (n.fine = n'.fine) && decide (n.entries = n'.entries)) := by
  simp only [NetD.dat, PyData.eqv, PyData.eqvAll, strs_eqv]
  rw [Bool.eq_iff_iff]
  simp
theorem net_dp {H : Hp} {p pe : Addr} {n : NetD} (hp : H p = some (.tup [.int n.fine, .ref pe])) (h1 : H pe = some (.tup (n.entries.map V.str))) : Dp K H (.ref p) n.dat :=
  .tup (SqT.of hp) (.cons (.int _) (.cons (.tup (SqT.of h1) (strs_dp _)) .nil))
theorem sc_Net_eq : FnScope ["self", "other", "mine"] ["self", "other"] (defScope s_Net_eq) := ⟨rfl, rfl, rfl, by decide +kernel, rfl, by decide +kernel, by decide +kernel⟩
theorem ok_Net_eq (x : Fx K mg w) : FnR P w K mg base CX0 5 (a_Net_eq K) (spEqb (NetR K)) := by
  refine okR x.F_Net_eq sc_Net_eq (fun _ _ _ _ _ _ us hl => match us, hl with | [_, _], _ => rfl) (fun vs H Q E h => by obtain ⟨p, q, b, rfl, ⟨n, n', hp, hq, rfl⟩, hQ⟩ := h; rfl) (fun cdv A outer s H vs Q E hr h => ?_)
  obtain ⟨p, q, b, rfl, ⟨n, n', hp, hq, rfl⟩, hQ⟩ := h
  refine ⟨_, (pss_cons (ps_if (pt_not (pt_val (pe_callB (r := rIsi K) call_isi rfl x.n_isinstance bb_isinstance (pa_cons (pv 1) (pa_cons (pe_gR x.m_Net rfl) pa_nil)))))
 (pss_one (ps_ret pe_bl))
 pss_nil)
 (pss_cons (ps_set (i := 2) sc_Net_eq.nd rfl (Or.inl rfl) (pe_tup (pa_cons (pe_fldK (K := K) rfl (pv 0) rfl) (pa_cons (pe_fldK (K := K) rfl (pv 0) rfl) pa_nil))))
 (pss_one (ps_ret (pe_and (pe_cmpR (show OpR _ _ (rEqD K) from op_eqD hr.units) (pv 2) (pe_tup (pa_cons (pe_fldK (K := K) rfl (pv 1) rfl) (pa_cons (pe_fldK (K := K) rfl (pv 1) rfl) pa_nil))) (nomark _)) (pe_one (pe_cmpR (op_eqB (rcB_di mon_house (eqB_in (ok_House_eq x) x.sp_House_eq x.fn_House_eq pass0)) (hr.mono (by decide))) (pe_fldK (K := K) rfl (pv 0) rfl) (pe_fldK (K := K) rfl (pv 1) rfl) (nomark _)))))))), ?_⟩
  obtain ⟨f, s1, s2, dx, ph, pe, kvs, h1, h2, h3, h4⟩ := id hp
  obtain ⟨f', s1', s2', dy, qh, qe, kvs', g1, g2, g3, g4⟩ := id hq
  refine ⟨_, rfl, _, _, _, _, true, rfl, .own _, isi_own g1.1 x.cl_Net x.cc_Net x.cget x.ctak x.mro_Net, x.kit_Net, true, rfl, ?_⟩
  refine ⟨_, rfl, p, _, dx, _, _, rfl, h1.1, x.cl_Net, x.na_Net_n_fine, rfl, _, rfl, p, _, dx, _, _, rfl, h1.1, x.cl_Net, x.na_Net_n_entries, rfl, by simp [sizeLine_eq], fun t nt => ?_⟩
  have e1 : Ext H (upd H t (.tup [.int n.fine, .ref pe])) := ext_new nt
  have ht : (upd H t (.tup [.int n.fine, .ref pe])) t = some (.tup [.int n.fine, .ref pe]) := upd_same
  generalize upd H t (.tup [.int n.fine, .ref pe]) = H1 at e1 ht
  have dec : decide (n = n') = ((decide (n.fine = n'.fine) && decide (n.entries = n'.entries)) && decide (n.houses = n'.houses)) := by
    obtain ⟨a, b, c⟩ := n
    obtain ⟨a', b', c'⟩ := n'
    rw [Bool.eq_iff_iff]
    simp
    exact ⟨fun ⟨a, b, c⟩ => ⟨⟨a, c⟩, b⟩, fun ⟨⟨a, b⟩, c⟩ => ⟨a, c, b⟩⟩
  refine ⟨_, rfl, _, rfl, q, _, dy, _, _, rfl, e1 _ _ g1.1, x.cl_Net, x.na_Net_n_fine, rfl, _, rfl, q, _, dy, _, _, rfl, e1 _ _ g1.1, x.cl_Net, x.na_Net_n_entries, rfl, by simp [sizeLine_eq], fun t2 nt2 => ?_⟩
  have e2 := e1.trans (ext_new (o := .tup [.int n'.fine, .ref qe]) nt2)
  refine ⟨n.dat, n'.dat, net_dp (ext_new nt2 _ _ ht) (e2 _ _ h4.1), net_dp upd_same (e2 _ _ g4.1), net_shaped f, net_shaped f', ?_⟩
  rw [net_eqv]
  generalize upd H1 t2 (.tup [.int n'.fine, .ref qe]) = H2 at e2
  refine ⟨_, rfl, ifb (fun hb => ?_) fun hb => ?_⟩
  · refine ⟨_, rfl, p, _, dx, _, _, rfl, e2 _ _ h1.1, x.cl_Net, x.na_Net_n_houses, rfl, _, rfl, q, _, dy, _, _, rfl, e2 _ _ g1.1, x.cl_Net, x.na_Net_n_houses, rfl, decide (n.houses = n'.houses), ⟨ph, qh, kvs, kvs', rfl, rfl, e2 _ _ h2.1, e2 _ _ g2.1, ?_⟩, fun H3 e3 => ?_⟩
    · have l1 := h3.len
      have l2 := g3.len
      by_cases l : kvs.length = kvs'.length
      · refine .inr ⟨l, ?_⟩
        rw [← hitB_eq f.hs.nd f'.hs.nd s1 s1' (by omega)]
        exact houses_hits (g3.ext e2) (h3.ext e2)
      · refine .inl ⟨l, decide_eq_false fun z => l ?_⟩
        rw [l1, l2, z]
    · have := hQ _ (e2.trans e3)
      rwa [dec, hb, Bool.true_and] at this
  · have := hQ _ e2
    rwa [dec, hb, Bool.false_and] at this
theorem make_net {S : Addr → Prop} {H1 : Hp} {d ae : Addr} {kvs : List (Key × V)} {m : NetD} {Q : Addr → Hp → Prop} {E : XK} (dm : Dm S H1) (hd : H1 d = some (.dK kvs)) (hh : HousesAt S K H1 kvs m.houses) (he : Sq K H1 ae (m.entries.map V.str))
    (f : m.Fit) (k : ∀ r H' n, Ext H1 H' → NetMade m n → NetAt S K H' r n → Q r H') :
    ∀ r dx, H1 r = none → H1 dx = none → dx ≠ r → sp_Net_init K (.ref r :: [.int m.fine, .ref d, .ref ae]) (upd (upd H1 dx (.own r)) r (.ins (c_Net K) dx [])) (fun v H2 => v = .non ∧ Q r H2) E := by
  intro r dx hr hdx ne
  have e0 : Ext H1 (upd (upd H1 dx (.own r)) r (.ins (c_Net K) dx [])) := (ext_new hdx).trans (ext_new (by rw [upd_ne (Ne.symm ne)]; exact hr))
  exact ⟨S, r, dx, d, ae, kvs, m, rfl, dm.ext e0, ⟨upd_same, fun z => dm r z hr⟩, e0 _ _ hd, hh.ext e0, sq_ext he e0, f, fun H' n u md t => ⟨rfl, k r H' n (made_ext hr hdx u) md t⟩⟩
end
end Ws

set_option Elab.async false
set_option linter.all false
set_option maxRecDepth 100000
set_option maxHeartbeats 4000000
namespace Ws
open PySem PySem.Spec PyProof.Rows L2
section
variable {P : Program} {w : World} {K : PySem.W.Frag} {mg : Str → Option Value} {base : Heap}
theorem HousesAt.nodup {S : Addr → Prop} {H : Hp} {kvs : List (Key × V)} {hs : Hs} (h : HousesAt S K H kvs hs) (nd : (hs.map (·.1)).Nodup) : (kvs.map (·.1)).Nodup := by
  rw [h.keys]
  exact List.Pairwise.map _ (fun a b h z => h (by injection z)) nd
theorem with_made {n m : NetD} {z : Str} {h : HouseD} (sh : sortedS (n.houses.map (·.1)) = true) (se : sortedS n.entries = true) (f : NetD.Fit { n with houses := setH n.houses z h }) (md : NetMade { n with houses := setH n.houses z h } m) :
    m = { n with houses := setH n.houses z h } :=
  netMade_eq f md ⟨rfl, .refl _, by show sortedS ((setH n.houses z h).map (·.1)) = true; rw [setH_keys]; exact sh, .refl _, se⟩
def sp_Net_with_house (K : PySem.W.Frag) : Sp := fun vs H Q _ => ∃ (S : Addr → Prop) (o ah : Addr) (n : NetD) (z : Str) (h : HouseD), vs = [.ref o, .str z, .ref ah] ∧ Dm S H ∧ NetAt S K H o n ∧ HouseAt S K H ah h ∧ z ∈ n.names ∧
  (∀ r ∈ h.rules, r.share ≤ n.fine) ∧ (∀ y ∈ h.calls, y ∈ n.names) ∧ ∀ r H', Ext H H' → NetAt S K H' r { n with houses := setH n.houses z h } → Q (.ref r) H'
theorem sc_Net_with_house : FnScope ["self", "name", "house"] ["self", "name", "house"] (defScope s_Net_with_house) := ⟨rfl, rfl, rfl, by decide +kernel, rfl, by decide +kernel, by decide +kernel⟩
theorem ok_Net_with_house (x : Fx K mg w) : FnR P w K mg base CX0 6 (a_Net_with_house K) (sp_Net_with_house K) := by
  refine okR x.F_Net_with_house sc_Net_with_house (fun _ _ _ _ _ _ us hl => match us, hl with | [_, _, _], _ => rfl) (fun vs H Q E h => by obtain ⟨S, o, ah, n, z, h, rfl, dm, t, th, hz, c1, c2, hQ⟩ := h; rfl) (fun cdv A outer s H vs Q E hr h => ?_)
  obtain ⟨S, o, ah, n, z, h, rfl, dm, t, th, hz, c1, c2, hQ⟩ := h
  refine ⟨_, (pss_one (ps_ret (StX.pe_makeR x.mk_Net (ok_Net_init x) (hr.mono (by decide)) rfl x.m_Net pass0 (pa_cons (pe_fldK (K := K) rfl (pv 0) rfl) (pa_cons (pe_dstar (pe_fldK (K := K) rfl (pv 0) rfl) (pv 1) (pv 2)) (pa_cons (pe_fldK (K := K) rfl (pv 0) rfl) pa_nil)))))), ?_⟩
  obtain ⟨f, s1, s2, dx, ph, pe, kvs, h1, h2, h3, h4⟩ := id t
  have nd := h3.nodup f.hs.nd
  have l8 := f.hs.l2
  have lk := h3.len
  have mk : mergeK [] kvs = kvs := (putAll_new kvs [] (by simpa using nd)).trans (List.nil_append _)
  refine ⟨_, rfl, o, _, dx, _, _, rfl, h1.1, x.cl_Net, x.na_Net_n_fine, rfl, ?_⟩
  refine fun p hp => ⟨_, rfl, o, _, dx, _, _, rfl, ext_new hp _ _ h1.1, x.cl_Net, x.na_Net_n_houses, rfl, ph, kvs, rfl, ?_, upd_same, ext_new hp _ _ h2.1, by omega, fun q hq => ?_⟩
  · exact ne_of_none h2.1 hp
  have np : ph ≠ p := ne_of_none h2.1 hp
  rw [mk]
  have nq : p ≠ q := fun e => by rw [← e, upd_same] at hq; cases hq
  have hq0 : H q = none := by
    rw [upd_ne (Ne.symm nq)] at hq
    exact hq
  have e3 : Ext H (upd (upd (upd H p (.dK [])) p (.dK kvs)) q (.dK [])) := by
    rw [upd_upd]
    exact (ext_new hp).trans (ext_new (by rw [upd_ne (Ne.symm nq)]; exact hq0))
  refine ⟨_, rfl, _, rfl, Sum.inr z, rfl, upd_same, by rw [upd_ne nq, upd_same], ?_⟩
  have key : (kvs.any fun kv => decide (kv.1 = Sum.inr z)) = true := by
    rw [valV_any, h3.in_ z]
    exact decide_eq_true hz
  have e4 : Ext H (upd (upd (upd (upd (upd H p (.dK [])) p (.dK kvs)) q (.dK [])) q (.dK [(Sum.inr z, .ref ah)])) p (.dK (putK kvs (Sum.inr z) (.ref ah)))) := fun c u e => by
    have c1 : c ≠ p := ne_of_none e hp
    have c2 : c ≠ q := ne_of_none e hq0
    rw [upd_ne c1, upd_ne c2, upd_ne c2, upd_ne c1, upd_ne c1]
    exact e
  have hp4 : (upd (upd (upd (upd (upd H p (.dK [])) p (.dK kvs)) q (.dK [])) q (.dK [(Sum.inr z, .ref ah)])) p (.dK (putK kvs (Sum.inr z) (.ref ah)))) p = some (.dK (putK kvs (Sum.inr z) (.ref ah))) := upd_same
  generalize upd (upd (upd (upd (upd H p (.dK [])) p (.dK kvs)) q (.dK [])) q (.dK [(Sum.inr z, .ref ah)])) p (.dK (putK kvs (Sum.inr z) (.ref ah))) = H4 at e4 hp4
  refine ⟨_, rfl, o, _, dx, _, _, rfl, e4 _ _ h1.1, x.cl_Net, x.na_Net_n_entries, rfl, ?_⟩
  have f' := set_fit (h := h) f c1 c2 hz
  have hput : HousesAt S K H4 (putK kvs (Sum.inr z) (.ref ah)) (setH n.houses z h) := by
    unfold putK
    rw [if_pos key]
    exact houses_put (th.ext e4) (h3.ext e4)
  refine make_net (m := { n with houses := setH n.houses z h }) (dm.ext e4) hp4 hput (.inr (.inl (e4 _ _ h4.1))) f' fun r H' m e md tn => ?_
  have := with_made s1 s2 f' md
  subst this
  exact hQ r H' (e4.trans e) tn
def sp_Net_with_rules (K : PySem.W.Frag) : Sp := fun vs H Q _ => ∃ (S : Addr → Prop) (o ar : Addr) (n : NetD) (z : Str) (os : List Addr) (rs : List RuleD), vs = [.ref o, .str z, .ref ar] ∧ Dm S H ∧ NetAt S K H o n ∧ SqA S H ar (os.map V.ref) ∧ RulesAt S K H os rs ∧ z ∈ n.names ∧
  1 ≤ rs.length ∧ rs.length ≤ 2 ∧ (∀ r ∈ rs, r.share ≤ n.fine) ∧ ∀ r H', Ext H H' → NetAt S K H' r { n with houses := setH n.houses z { getH n.houses z with rules := rs } } → Q (.ref r) H'
theorem sc_Net_with_rules : FnScope ["self", "house", "rules"] ["self", "house", "rules"] (defScope s_Net_with_rules) := ⟨rfl, rfl, rfl, by decide +kernel, rfl, by decide +kernel, by decide +kernel⟩
theorem ok_Net_with_rules (x : Fx K mg w) : FnR P w K mg base CX0 7 (a_Net_with_rules K) (sp_Net_with_rules K) := by
  refine okR x.F_Net_with_rules sc_Net_with_rules (fun _ _ _ _ _ _ us hl => match us, hl with | [_, _, _], _ => rfl) (fun vs H Q E h => by obtain ⟨S, o, ar, n, z, os, rs, rfl, dm, t, hs, hr2, hz, l1, l2, c1, hQ⟩ := h; rfl) (fun cdv A outer s H vs Q E hr h => ?_)
  obtain ⟨S, o, ar, n, z, os, rs, rfl, dm, t, hs, hr2, hz, l1, l2, c1, hQ⟩ := h
  refine ⟨_, (pss_one (ps_ret (Ws.pe_methR (pv 0) x.cl_Net x.me_Net_with_house (ok_Net_with_house x) (hr.mono (by decide)) pass0 (pa_cons (pv 1) (pa_cons (Ws.pe_methR (pe_getI x.sp_Net_getitem x.fi_Net_getitem x.fn_Net_getitem (ok_Net_getitem x) (hr.mono (by decide)) pass0 (pv 0) (pv 1)) x.cl_House x.me_House_with_rules (ok_House_with_rules x) (hr.mono (by decide)) pass0 (pa_cons (pv 2) pa_nil)) pa_nil))))), ?_⟩
  obtain ⟨f, s1, s2, dx, ph, pe, kvs, h1, h2, h3, h4⟩ := id t
  refine ⟨_, rfl, o, dx, _, rfl, h1.1, rfl, _, rfl, ?_⟩
  refine ⟨_, rfl, _, rfl, o, dx, _, rfl, h1.1, S, o, n, z, rfl, t, hz, fun a th => ?_⟩
  obtain ⟨_, _, _, dxh, pr, pc, pl, os', k1, _⟩ := id th
  refine ⟨a, dxh, _, rfl, k1.1, rfl, _, rfl, S, a, ar, getH n.houses z, os, rs, rfl, dm, th, hs, hr2, l1, l2, fun r H' e tr => ?_⟩
  exact ⟨S, o, r, n, z, _, rfl, dm.ext e, t.ext e, tr, hz, c1, f.hs.cl _ (getH_mem hz), fun r' H'' e' tn => hQ r' H'' (e.trans e') tn⟩
def sp_Moment_init (K : PySem.W.Frag) : Sp := fun vs H Q _ => ∃ (o dx : Addr) (a b c : V), vs = [.ref o, a, b, c] ∧ H o = some (.ins (c_Moment K) dx []) ∧ Q .non (upd H o (.ins (c_Moment K) dx [("whole", a), ("deed", b), ("ahead", c)]))
theorem sc_Moment_init : FnScope ["self", "whole", "deed", "ahead"] ["self", "whole", "deed", "ahead"] (defScope s_Moment_init) := ⟨rfl, rfl, rfl, by decide +kernel, rfl, by decide +kernel, by decide +kernel⟩
theorem ok_Moment_init (x : Fx K mg w) : FnR P w K mg base CX0 1 (a_Moment_init K) (sp_Moment_init K) := by
  refine okR x.F_Moment_init sc_Moment_init (fun _ _ _ _ _ _ us hl => match us, hl with | [_, _, _, _], _ => rfl) (fun vs H Q E h => by obtain ⟨o, dx, a, b, c, rfl, ho, hQ⟩ := h; rfl) (fun cdv A outer s H vs Q E hr h => ?_)
  obtain ⟨o, dx, a, b, c, rfl, ho, hQ⟩ := h
  refine ⟨_, (pss_cons (ps_fld (pv 0) (pv 1) rfl)
 (pss_cons (ps_fld (pv 0) (pv 2) rfl)
 (pss_one (ps_fld (pv 0) (pv 3) rfl)))), ?_⟩
  refine ⟨_, rfl, _, rfl, o, _, dx, [], rfl, ho, x.cl_Moment, x.na_Moment_whole, by simp, ?_⟩
  refine ⟨_, rfl, _, rfl, o, _, dx, _, rfl, upd_same, x.cl_Moment, x.na_Moment_deed, Nat.lt_of_le_of_lt (length_putF _ _ _) (by simp), ?_⟩
  refine ⟨_, rfl, _, rfl, o, _, dx, _, rfl, upd_same, x.cl_Moment, x.na_Moment_ahead, Nat.lt_of_le_of_lt (length_putF _ _ _) (Nat.lt_of_le_of_lt (Nat.succ_le_succ (length_putF _ _ _)) (by simp)), ?_⟩
  rw [upd_upd, upd_upd]
  exact hQ
end
end Ws

set_option Elab.async false
set_option linter.all false
set_option maxRecDepth 100000
set_option maxHeartbeats 4000000
namespace Ws
open PySem PySem.Spec PyProof.Rows L2
inductive DeedD where
  | rule (h : Str) (k : Nat) (r : RuleD)
  | way (h o : Str) (lost : Bool)
  | cut (h o : Str)
  deriving DecidableEq
def DeedD.vs : DeedD → List V
  | .rule h k r => [.str "rule", .str h, .int (k : Nat), .int r.share, .str r.mark, .bl r.always, .bl r.late]
  | .way h o l => [.str "way", .str h, .str o, .bl l]
  | .cut h o => [.str "cut", .str h, .str o]
def DeedD.dat : DeedD → PyData
  | .rule h k r => .tuple [.str "rule", .str h, .int (k : Nat), .int r.share, .str r.mark, .bool r.always, .bool r.late]
  | .way h o l => .tuple [.str "way", .str h, .str o, .bool l]
  | .cut h o => .tuple [.str "cut", .str h, .str o]
/-- its words are words, its numbers small -/
def DeedD.Ok : DeedD → Prop
  | .rule h k r => isName h = true ∧ k < 2 ∧ r.ok
  | .way h o _ => isName h = true ∧ isName o = true
  | .cut h o => isName h = true ∧ isName o = true
def DeedD.house : DeedD → Str
  | .rule h _ _ => h
  | .way h _ _ => h
  | .cut h _ => h
/-- what becomes of the house -/
def DeedD.on (h : HouseD) : DeedD → HouseD
  | .rule _ k r => { h with rules := h.rules.set k r }
  | .way _ o l => { h with calls := h.calls ++ [o], lost := if l then h.lost ++ [o] else h.lost }
  | .cut _ o => { h with calls := h.calls.filter fun z => decide (z ≠ o), lost := h.lost.filter fun z => decide (z ≠ o) }
/-- it can be done -/
def DeedD.Can (n : NetD) : DeedD → Prop
  | .rule h k r => h ∈ n.names ∧ k < (getH n.houses h).rules.length ∧ r.ok ∧ r.share ≤ n.fine
  | .way h o _ => h ∈ n.names ∧ o ∈ n.names ∧ o ∉ (getH n.houses h).calls
  | .cut h o => h ∈ n.names ∧ o ∈ n.names ∧ o ∈ (getH n.houses h).calls
def Did (n : NetD) (d : DeedD) (m : NetD) : Prop := ∃ h, Made (d.on (getH n.houses d.house)) h ∧ m = { n with houses := setH n.houses d.house h }
theorem NetD.Fit.names {n : NetD} (f : n.Fit) {z : Str} (h : z ∈ n.names) : isName z = true := by
  obtain ⟨p, hp, rfl⟩ := List.mem_map.mp h
  exact f.hs.nm p hp
theorem len_sub {α : Type} [DecidableEq α] : ∀ {l m : List α}, l.Nodup → (∀ a ∈ l, a ∈ m) → l.length ≤ m.length
  | [], m, _, _ => Nat.zero_le _
  | a :: l, m, nd, hs => by
    obtain ⟨n1, n2⟩ := List.nodup_cons.mp nd
    have ha := hs a List.mem_cons_self
    have := len_sub (l := l) (m := m.erase a) n2 (fun b hb => (List.mem_erase_of_ne fun z => n1 (by rw [← z]; exact hb)).mpr (hs b (List.mem_cons_of_mem _ hb)))
    rw [List.length_erase_of_mem ha] at this
    have : 0 < m.length := List.length_pos_of_mem ha
    simp only [List.length_cons]
    omega
theorem Can.ok {n : NetD} {d : DeedD} (f : n.Fit) (hf : ∀ z ∈ n.names, (getH n.houses z).Fit) (c : d.Can n) : d.Ok := by
  cases d with
  | rule h k r => exact ⟨f.names c.1, Nat.lt_of_lt_of_le c.2.1 (hf h c.1).r2, c.2.2.1⟩
  | way h o l => exact ⟨f.names c.1, f.names c.2.1⟩
  | cut h o => exact ⟨f.names c.1, f.names c.2.1⟩
/-- the changed house may be made -/
theorem Can.fit {n : NetD} {d : DeedD} (f : n.Fit) (hf : ∀ z ∈ n.names, (getH n.houses z).Fit) (c : d.Can n) : (d.on (getH n.houses d.house)).Fit := by
  have l8 := f.hs.l2
  have nl : n.names.length = n.houses.length := by simp [NetD.names]
  cases d with
  | rule h k r =>
    obtain ⟨c1, c2, c3, c4⟩ := c
    obtain ⟨r1, r2, nm, nd, ln, ndl, sub, lnl⟩ := hf h c1
    exact ⟨by show 1 ≤ ((getH n.houses h).rules.set k r).length; rw [List.length_set]; exact r1, by show ((getH n.houses h).rules.set k r).length ≤ 2; rw [List.length_set]; exact r2, nm, nd, ln, ndl, sub, lnl⟩
  | way h o l =>
    obtain ⟨c1, c2, c3⟩ := c
    obtain ⟨r1, r2, nm, nd, ln, ndl, sub, lnl⟩ := hf h c1
    have cs : ∀ z ∈ (getH n.houses h).calls, z ∈ n.names := f.hs.cl _ (getH_mem c1)
    have lc := len_sub nd cs
    have ll := len_sub ndl sub
    have nd' : ((getH n.houses h).calls ++ [o]).Nodup := nd_snoc nd c3
    have lo : o ∉ (getH n.houses h).lost := fun z => c3 (sub o z)
    refine ⟨r1, r2, fun z hz => ?_, nd', ?_, ?_, fun z hz => ?_, ?_⟩
    · rcases List.mem_append.mp hz with hz | hz
      · exact nm z hz
      · rw [List.mem_singleton.mp hz]; exact f.names c2
    · show ((getH n.houses h).calls ++ [o]).length < 64
      simp; omega
    · show (if l = true then (getH n.houses h).lost ++ [o] else (getH n.houses h).lost).Nodup
      split
      · exact nd_snoc ndl lo
      · exact ndl
    · have hz : z ∈ (if l = true then (getH n.houses h).lost ++ [o] else (getH n.houses h).lost) := hz
      show z ∈ (getH n.houses h).calls ++ [o]
      split at hz
      · rcases List.mem_append.mp hz with hz | hz
        · exact List.mem_append.mpr (.inl (sub z hz))
        · exact List.mem_append.mpr (.inr hz)
      · exact List.mem_append.mpr (.inl (sub z hz))
    · show (if l = true then (getH n.houses h).lost ++ [o] else (getH n.houses h).lost).length < 64
      split
      · simp; omega
      · omega
  | cut h o =>
    obtain ⟨c1, c2, c3⟩ := c
    obtain ⟨r1, r2, nm, nd, ln, ndl, sub, lnl⟩ := hf h c1
    refine ⟨r1, r2, fun z hz => nm z (List.mem_filter.mp hz).1, nd.filter _, Nat.lt_of_le_of_lt (List.length_filter_le _ _) ln, ndl.filter _, fun z hz => ?_, Nat.lt_of_le_of_lt (List.length_filter_le _ _) lnl⟩
    obtain ⟨h1, h2⟩ := List.mem_filter.mp hz
    exact List.mem_filter.mpr ⟨sub z h1, h2⟩
theorem NetAt.fits {S : Addr → Prop} {K : PySem.W.Frag} {H : Hp} {o : Addr} {n : NetD} (t : NetAt S K H o n) : ∀ z ∈ n.names, (getH n.houses z).Fit := fun z hz => by
  obtain ⟨f, s1, s2, dx, ph, pe, kvs, h1, h2, h3, h4⟩ := t
  obtain ⟨a, _, ht⟩ := h3.at_ z hz
  exact ht.1
theorem NetAt.sorts {S : Addr → Prop} {K : PySem.W.Frag} {H : Hp} {o : Addr} {n : NetD} (t : NetAt S K H o n) : ∀ z ∈ n.names, sortedS (getH n.houses z).calls = true ∧ sortedS (getH n.houses z).lost = true := fun z hz => by
  obtain ⟨f, s1, s2, dx, ph, pe, kvs, h1, h2, h3, h4⟩ := t
  obtain ⟨a, _, ht⟩ := h3.at_ z hz
  exact ⟨ht.2.1, ht.2.2.1⟩
theorem deed_dp {K : PySem.W.Frag} {H : Hp} {p : Addr} {d : DeedD} (h : H p = some (.tup d.vs)) : Dp K H (.ref p) d.dat := by
  cases d with
  | rule z k r => exact .tup (SqT.of h) (.cons (.str _) (.cons (.str _) (.cons (.int _) (.cons (.int _) (.cons (.str _) (.cons (.bl _) (.cons (.bl _) .nil)))))))
  | way z o l => exact .tup (SqT.of h) (.cons (.str _) (.cons (.str _) (.cons (.str _) (.cons (.bl _) .nil))))
  | cut z o => exact .tup (SqT.of h) (.cons (.str _) (.cons (.str _) (.cons (.str _) .nil)))
theorem deed_shaped {d : DeedD} (h : d.Ok) : SeqAt.shaped d.dat = true := by
  have k1 : PyData.strOk "rule" = true := by decide +kernel
  have k2 : PyData.strOk "way" = true := by decide +kernel
  have k3 : PyData.strOk "cut" = true := by decide +kernel
  cases d with
  | rule z k r => unfold SeqAt.shaped DeedD.dat; simp [PyData.canLay0, PyData.canLayAll0, PyData.depth, PyData.depthAll, isName_ok h.1, isName_ok h.2.2.2.2, k1]
  | way z o l => unfold SeqAt.shaped DeedD.dat; simp [PyData.canLay0, PyData.canLayAll0, PyData.depth, PyData.depthAll, isName_ok h.1, isName_ok h.2, k2]
  | cut z o => unfold SeqAt.shaped DeedD.dat; simp [PyData.canLay0, PyData.canLayAll0, PyData.depth, PyData.depthAll, isName_ok h.1, isName_ok h.2, k3]
section
variable {P : Program} {w : World} {K : PySem.W.Frag} {mg : Str → Option Value} {base : Heap}
def sp_need_form : Sp := fun vs H Q _ => ∃ (o : Addr) (d : DeedD), vs = [.ref o] ∧ H o = some (.tup d.vs) ∧ d.Ok ∧ ∀ H', Ext H H' → Q .non H'
theorem sc_need_form : FnScope ["deed"] ["deed"] (defScope s_need_form) := ⟨rfl, rfl, rfl, by decide +kernel, rfl, by decide +kernel, by decide +kernel⟩
theorem ok_need_form (x : Fx K mg w) : FnR P w K mg base CX0 1 (a_need_form K) sp_need_form := by
  refine okR x.F_need_form sc_need_form (fun _ _ _ _ _ _ us hl => match us, hl with | [_], _ => rfl) (fun vs H Q E h => by obtain ⟨o, d, rfl, hd, ok, hQ⟩ := h; rfl) (fun cdv A outer s H vs Q E hr h => ?_)
  obtain ⟨o, d, rfl, hd, ok, hQ⟩ := h
  refine ⟨_, (pss_cons (ps_if (PW.pt (pw_or (pt_not (pt_val (pe_callB (r := rIsi K) call_isi rfl x.n_isinstance bb_isinstance (pa_cons (pv 0) (pa_cons (pe_gT x.n_tuple (by rfl) rfl) pa_nil))))) (pw_or (pt_cmpR (show OpR _ _ (rEqD K) from op_eqD hr.units) (pv 0) (pe_tup pa_nil) (nomark _)) (pw_or1 (pt_not (pt_val (pe_callB (r := rIsi K) call_isi rfl x.n_isinstance bb_isinstance (pa_cons (pe_ix (r := rIxT K) ix_tup (pv 0) pe_int (fun _ _ => rfl)) (pa_cons (pe_gT x.n_str (by rfl) rfl) pa_nil)))))))))
 (pss_one ps_never)
 pss_nil)
 (pss_one (ps_if (pt_cmpR op_ne (pe_callB (r := rLenK K) call_lenK rfl x.n_len bb_len (pa_cons (pv 0) pa_nil)) (pe_kget2 (pe_gR x.m_SIZES rfl) (pe_ix (r := rIxT K) ix_tup (pv 0) pe_int (fun _ _ => rfl)) pe_int ⟨rfl, rfl, rfl, rfl⟩) (nomark _))
 (pss_one ps_never)
 pss_nil))), ?_⟩
  refine ⟨_, rfl, _, _, _, _, true, rfl, .ty _, .base (.tup hd), kit_ty (by decide +kernel), true, rfl, ?_⟩
  refine ⟨_, rfl, by simp [sizeLine_eq], fun p hp => ⟨_, _, deed_dp (ext_new hp _ _ hd), .tup (SqT.of upd_same) .nil, deed_shaped ok, by decide +kernel, false, ?_, ?_⟩⟩
  · cases d <;> rfl
  have e1 : Ext H (upd H p (.tup [])) := ext_new hp
  generalize upd H p (.tup []) = H1 at e1
  have h1 := e1 _ _ hd
  obtain ⟨es, nn, kd⟩ := x.t_SIZES
  cases d with
  | rule h k r =>
    obtain ⟨u, hu, ru⟩ := x.t_SIZES_rule
    refine ⟨_, rfl, o, _, 0, _, rfl, rfl, .of h1, atI_nat (j := 0) rfl, _, _, _, _, true, rfl, .ty _, .base (.str _), kit_ty (by decide +kernel), true, rfl, ?_⟩
    refine ⟨_, rfl, _, _, rfl, .inr ⟨_, .of h1, rfl⟩, _, es, nn, rfl, kd, _, rfl, o, _, 0, _, rfl, rfl, .of h1, atI_nat (j := 0) rfl, _, some u, .int 7, rfl, hu, ru, rfl, false, rfl, hQ H1 e1⟩
  | way h k r =>
    obtain ⟨u, hu, ru⟩ := x.t_SIZES_way
    refine ⟨_, rfl, o, _, 0, _, rfl, rfl, .of h1, atI_nat (j := 0) rfl, _, _, _, _, true, rfl, .ty _, .base (.str _), kit_ty (by decide +kernel), true, rfl, ?_⟩
    refine ⟨_, rfl, _, _, rfl, .inr ⟨_, .of h1, rfl⟩, _, es, nn, rfl, kd, _, rfl, o, _, 0, _, rfl, rfl, .of h1, atI_nat (j := 0) rfl, _, some u, .int 4, rfl, hu, ru, rfl, false, rfl, hQ H1 e1⟩
  | cut h k =>
    obtain ⟨u, hu, ru⟩ := x.t_SIZES_cut
    refine ⟨_, rfl, o, _, 0, _, rfl, rfl, .of h1, atI_nat (j := 0) rfl, _, _, _, _, true, rfl, .ty _, .base (.str _), kit_ty (by decide +kernel), true, rfl, ?_⟩
    refine ⟨_, rfl, _, _, rfl, .inr ⟨_, .of h1, rfl⟩, _, es, nn, rfl, kd, _, rfl, o, _, 0, _, rfl, rfl, .of h1, atI_nat (j := 0) rfl, _, some u, .int 3, rfl, hu, ru, rfl, false, rfl, hQ H1 e1⟩
end
end Ws

set_option Elab.async false
set_option linter.all false
set_option maxRecDepth 100000
set_option maxHeartbeats 4000000
namespace Ws
open PySem PySem.Spec PyProof.Rows L2
theorem rules_set {S : Addr → Prop} {K : PySem.W.Frag} {H : Hp} {a : Addr} {r : RuleD} (h : RuleAt S K H a r) : ∀ {os : List Addr} {rs : List RuleD} (k : Nat), RulesAt S K H os rs → RulesAt S K H (os.set k a) (rs.set k r)
  | _, _, _, .nil => .nil
  | _, _, 0, .cons _ t => .cons h t
  | _, _, k + 1, .cons q t => .cons q (rules_set h k t)
theorem map_set {os : List Addr} {k : Nat} {a : Addr} : (os.map V.ref).set k (.ref a) = (os.set k a).map V.ref := by rw [List.map_set]
theorem ixN_nat {n k : Nat} (h : k < n) : ixN n (k : Int) = some k := by
  unfold ixN
  rw [if_pos (by omega), if_pos (by omega)]
  simp
section
variable {P : Program} {w : World} {K : PySem.W.Frag} {mg : Str → Option Value} {base : Heap}
/-- a rule is made -/
theorem make_rule {S : Addr → Prop} {H1 : Hp} {r : RuleD} {Q : Addr → Hp → Prop} {E : XK} (dm : Dm S H1) (ok : r.ok) (k : ∀ p H', Ext H1 H' → RuleAt S K H' p r → Q p H') :
    ∀ p dx, H1 p = none → H1 dx = none → dx ≠ p → sp_Rule_init K (.ref p :: [.int r.share, .str r.mark, .bl r.always, .bl r.late]) (upd (upd H1 dx (.own p)) p (.ins (c_Rule K) dx [])) (fun v H2 => v = .non ∧ Q p H2) E := by
  intro p dx hp hdx ne
  have e0 : Ext H1 (upd (upd H1 dx (.own p)) p (.ins (c_Rule K) dx [])) := (ext_new hdx).trans (ext_new (by rw [upd_ne (Ne.symm ne)]; exact hp))
  exact ⟨S, p, dx, r, rfl, dm.ext e0, ⟨upd_same, fun z => dm p z hp⟩, ok, fun H' u t => ⟨rfl, k p H' (made_ext hp hdx u) t⟩⟩
def sp_deed (K : PySem.W.Frag) (is : DeedD → Prop) : Sp := fun vs H Q _ => ∃ (S : Addr → Prop) (o od : Addr) (n : NetD) (d : DeedD), vs = [.ref o, .ref od] ∧ Dm S H ∧ NetAt S K H o n ∧ H od = some (.tup d.vs) ∧ d.Can n ∧ is d ∧
  ∀ r H' m, Ext H H' → Did n d m → NetAt S K H' r m → Q (.ref r) H'
abbrev isRule : DeedD → Prop := fun d => ∃ h k r, d = .rule h k r
abbrev isWay : DeedD → Prop := fun d => ∃ h o l, d = .way h o l
abbrev isCut : DeedD → Prop := fun d => ∃ h o, d = .cut h o
theorem sc_with_rule : FnScope ["net", "deed", "word", "house", "number", "share", "mark", "always", "late", "rules"] ["net", "deed"] (defScope s_with_rule) := ⟨rfl, rfl, rfl, by decide +kernel, rfl, by decide +kernel, by decide +kernel⟩
theorem ok_with_rule (x : Fx K mg w) : FnR P w K mg base CX0 8 (a_with_rule K) (sp_deed K isRule) := by
  refine okR x.F_with_rule sc_with_rule (fun _ _ _ _ _ _ us hl => match us, hl with | [_, _], _ => rfl) (fun vs H Q E h => by obtain ⟨S, o, od, n, _, rfl, dm, t, hd, can, ⟨h, k, r, rfl⟩, hQ⟩ := h; rfl) (fun cdv A outer s H vs Q E hr h => ?_)
  obtain ⟨S, o, od, n, _, rfl, dm, t, hd, can, ⟨h, k, r, rfl⟩, hQ⟩ := h
  refine ⟨_, (pss_cons (ps_asg (pv 1) (pg_tupK (K := K) (n := 7) rfl rfl (pgs_cons (pg_name (i := 2) sc_with_rule.nd rfl (Or.inl rfl)) (pgs_cons (pg_name (i := 3) sc_with_rule.nd rfl (Or.inl rfl)) (pgs_cons (pg_name (i := 4) sc_with_rule.nd rfl (Or.inl rfl)) (pgs_cons (pg_name (i := 5) sc_with_rule.nd rfl (Or.inl rfl)) (pgs_cons (pg_name (i := 6) sc_with_rule.nd rfl (Or.inl rfl)) (pgs_cons (pg_name (i := 7) sc_with_rule.nd rfl (Or.inl rfl)) (pgs_cons (pg_name (i := 8) sc_with_rule.nd rfl (Or.inl rfl)) pgs_nil)))))))))
 (pss_cons (ps_expr (pe_callR (ok_need_house x) (hr.mono (by decide)) rfl x.m_need_house (keep_of x.F_need_house) pass0 (pa_cons (pv 0) (pa_cons (pv 3) pa_nil))))
 (pss_cons (ps_set (i := 9) sc_with_rule.nd rfl (Or.inl rfl) (pe_callTy (r := rLstOf K) call_lstK rfl x.n_list bb_list (pa_cons (pe_propR (pe_getI x.sp_Net_getitem x.fi_Net_getitem x.fn_Net_getitem (ok_Net_getitem x) (hr.mono (by decide)) pass0 (pv 0) (pv 3)) x.cl_House x.p_House_rules (ok_House_rules x) (hr.mono (by decide)) pass0) pa_nil)))
 (pss_cons (ps_if (PW.pt (pw_or (pt_not (pt_val (pe_callR (ok_is_number x) (hr.mono (by decide)) rfl x.m_is_number (keep_of x.F_is_number) pass0 (pa_cons (pv 4) pa_nil)))) (pw_or1 (pt_not (pt_chain op_le op_lt pe_int (pv 4) (pe_callB (r := rLenK K) call_lenK rfl x.n_len bb_len (pa_cons (pv 9) pa_nil)))))))
 (pss_one ps_never)
 pss_nil)
 (pss_cons (ps_asg (StX.pe_makeR x.mk_Rule (ok_Rule_init x) (hr.mono (by decide)) rfl x.m_Rule pass0 (pa_cons (pv 5) (pa_cons (pv 6) (pa_cons (pv 7) (pa_cons (pv 8) pa_nil))))) (pg_sub (pv 9) (pv 4) set_list))
 (pss_one (ps_ret (Ws.pe_methR (pv 0) x.cl_Net x.me_Net_with_rules (ok_Net_with_rules x) (hr.mono (by decide)) pass0 (pa_cons (pv 3) (pa_cons (pv 9) pa_nil)))))))))), ?_⟩
  obtain ⟨f, s1, s2, dx, ph, pe, kvs, h1, h2, h3, h4⟩ := id t
  obtain ⟨c1, c2, c3, c4⟩ := id can
  refine ⟨_, rfl, od, _, rfl, .of hd, rfl, _, _, rfl, _, _, rfl, _, _, rfl, _, _, rfl, _, _, rfl, _, _, rfl, _, _, rfl, rfl, ?_⟩
  refine ⟨_, rfl, _, rfl, S, o, n, h, rfl, t, c1, ?_⟩
  refine ⟨_, rfl, _, rfl, o, dx, _, rfl, h1.1, S, o, n, h, rfl, t, c1, fun a th => ?_⟩
  obtain ⟨fh, sc, sl, dxh, pr, pc, pl, os0, k1, _⟩ := id th
  refine ⟨a, dxh, _, rfl, k1.1, S, a, _, rfl, th, fun p os hp hr2 => ?_⟩
  refine ⟨p, _, rfl, .inr (.of hp.1), fun l nl => ?_⟩
  have e1 : Ext H (upd H l (.lst (os.map V.ref))) := ext_new nl
  have hl : (upd H l (.lst (os.map V.ref))) l = some (.lst (os.map V.ref)) := upd_same
  have back : ∀ H', Kp (one l) (upd H l (.lst (os.map V.ref))) H' → Ext H H' := fun H' u c u' e => u.keep c u' (e1 c u' e) fun z => by
    have z : c = l := z
    rw [z, nl] at e
    cases e
  generalize upd H l (.lst (os.map V.ref)) = H1 at e1 hl back
  refine ⟨_, rfl, _, rfl, true, rfl, ?_⟩
  have len := hr2.length
  refine ⟨_, rfl, _, _, rfl, rfl, _, rfl, ifT (decide_eq_true (by omega)) ⟨_, rfl, _, _, rfl, .inl ⟨_, .of hl, rfl⟩, _, _, rfl, rfl, _, rfl, ifF (by simp; omega) ?_⟩⟩
  refine ⟨_, rfl, _, rfl, _, rfl, _, rfl, ?_⟩
  refine make_rule (K := K) (dm.ext e1) c3 fun q H2 e2 tq => ?_
  refine ⟨_, rfl, _, rfl, l, _, (k : Int), k, rfl, rfl, e2 _ _ hl, ixN_nat (by simp; omega), ?_⟩
  rw [map_set]
  have u3 : Kp (one l) H1 (upd H2 l (.lst ((os.set k q).map V.ref))) := (Kp.ext e2).put rfl
  have hl3 : (upd H2 l (.lst ((os.set k q).map V.ref))) l = some (.lst ((os.set k q).map V.ref)) := upd_same
  have tq3 : RuleAt S K (upd H2 l (.lst ((os.set k q).map V.ref))) q r := by
    obtain ⟨g, dq, pq, g1, g2⟩ := tq
    have hl2 := e2 _ _ hl
    exact ⟨g, dq, pq, ⟨by rw [upd_ne (ne_of g1.1 hl2 (by simp))]; exact g1.1, g1.2⟩, ⟨by rw [upd_ne (ne_of g2.1 hl2 (by simp))]; exact g2.1, g2.2⟩⟩
  generalize upd H2 l (.lst ((os.set k q).map V.ref)) = H3 at u3 hl3 tq3
  have e3 := back H3 u3
  have hr3 : RulesAt S K H3 (os.set k q) ((getH n.houses h).rules.set k r) := rules_set tq3 k (Paired.mapP hr2 fun _ _ z => z.ext e3)
  refine ⟨_, rfl, o, dx, _, rfl, e3 _ _ h1.1, rfl, _, rfl, _, rfl, S, o, l, n, h, _, _, rfl, dm.ext e3, t.ext e3, .inl hl3, hr3, c1, by rw [List.length_set]; exact fh.r1, by rw [List.length_set]; exact fh.r2, fun r' hr' => ?_, fun r' H' e4 tn => ?_⟩
  · rcases List.mem_or_eq_of_mem_set hr' with hr' | rfl
    · exact f.hs.sh _ (getH_mem c1) r' hr'
    · exact c4
  · exact hQ r' H' _ (e3.trans e4) ⟨_, ⟨rfl, .refl _, sc, .refl _, sl, rfl⟩, rfl⟩ tn
def sp_need_way (K : PySem.W.Frag) : Sp := fun vs H Q _ => ∃ (S : Addr → Prop) (o : Addr) (n : NetD) (z y : Str) (b : Bool), vs = [.ref o, .str z, .str y, .bl b] ∧ NetAt S K H o n ∧ z ∈ n.names ∧ y ∈ n.names ∧ b = decide (y ∈ (getH n.houses z).calls) ∧ Q .non H
theorem sc_need_way : FnScope ["net", "house", "other", "is_due"] ["net", "house", "other", "is_due"] (defScope s_need_way) := ⟨rfl, rfl, rfl, by decide +kernel, rfl, by decide +kernel, by decide +kernel⟩
theorem ok_need_way (x : Fx K mg w) : FnR P w K mg base CX0 5 (a_need_way K) (sp_need_way K) := by
  refine okR x.F_need_way sc_need_way (fun _ _ _ _ _ _ us hl => match us, hl with | [_, _, _, _], _ => rfl) (fun vs H Q E h => by obtain ⟨S, o, n, z, y, b, rfl, t, hz, hy, hb, hQ⟩ := h; rfl) (fun cdv A outer s H vs Q E hr h => ?_)
  obtain ⟨S, o, n, z, y, b, rfl, t, hz, hy, hb, hQ⟩ := h
  refine ⟨_, (pss_cons (ps_expr (pe_callR (ok_need_house x) (hr.mono (by decide)) rfl x.m_need_house (keep_of x.F_need_house) pass0 (pa_cons (pv 0) (pa_cons (pv 1) pa_nil))))
 (pss_cons (ps_expr (pe_callR (ok_need_house x) (hr.mono (by decide)) rfl x.m_need_house (keep_of x.F_need_house) pass0 (pa_cons (pv 0) (pa_cons (pv 2) pa_nil))))
 (pss_one (ps_if (pt_cmpR op_ne (pe_cmpR (show OpR _ _ (rIn K false) from op_in_seq) (pv 2) (pe_propR (pe_getI x.sp_Net_getitem x.fi_Net_getitem x.fn_Net_getitem (ok_Net_getitem x) (hr.mono (by decide)) pass0 (pv 0) (pv 1)) x.cl_House x.p_House_calls (ok_House_calls x) (hr.mono (by decide)) pass0) rfl) (pv 3) (nomark _))
 (pss_one ps_never)
 pss_nil)))), ?_⟩
  obtain ⟨f, s1, s2, dx, ph, pe, kvs, h1, h2, h3, h4⟩ := id t
  refine ⟨_, rfl, _, rfl, S, o, n, z, rfl, t, hz, ?_⟩
  refine ⟨_, rfl, _, rfl, S, o, n, y, rfl, t, hy, ?_⟩
  refine ⟨_, rfl, _, rfl, _, rfl, o, dx, _, rfl, h1.1, S, o, n, z, rfl, t, hz, fun a th => ?_⟩
  obtain ⟨fh, sc, sl, dxh, pr, pc, pl, os0, k1, _⟩ := id th
  refine ⟨a, dxh, _, rfl, k1.1, S, a, _, rfl, th, fun p hp => ?_⟩
  refine ⟨p, _, rfl, .inr (.of hp.1), rfl, flat_strs _, _, rfl, rfl, _, rfl, ifF ?_ hQ⟩
  rw [hb]
  simp [inV_str]
end
end Ws

set_option Elab.async false
set_option linter.all false
set_option maxRecDepth 100000
set_option maxHeartbeats 4000000
namespace Ws
open PySem PySem.Spec PyProof.Rows L2
section
variable {P : Program} {w : World} {K : PySem.W.Frag} {mg : Str → Option Value} {base : Heap}
theorem strs_snoc (zs : List Str) (z : Str) : zs.map V.str ++ [.str z] = (zs ++ [z]).map V.str := by simp
theorem sc_with_way : FnScope ["net", "deed", "word", "house", "other", "lost", "here", "fresh"] ["net", "deed"] (defScope s_with_way) := ⟨rfl, rfl, rfl, by decide +kernel, rfl, by decide +kernel, by decide +kernel⟩
theorem ok_with_way (x : Fx K mg w) : FnR P w K mg base CX0 7 (a_with_way K) (sp_deed K isWay) := by
  refine okR x.F_with_way sc_with_way (fun _ _ _ _ _ _ us hl => match us, hl with | [_, _], _ => rfl) (fun vs H Q E h => by obtain ⟨S, o, od, n, _, rfl, dm, t, hd, can, ⟨h, y, lo, rfl⟩, hQ⟩ := h; rfl) (fun cdv A outer s H vs Q E hr h => ?_)
  obtain ⟨S, o, od, n, _, rfl, dm, t, hd, can, ⟨h, y, lo, rfl⟩, hQ⟩ := h
  refine ⟨_, (pss_cons (ps_asg (pv 1) (pg_tupK (K := K) (n := 4) rfl rfl (pgs_cons (pg_name (i := 2) sc_with_way.nd rfl (Or.inl rfl)) (pgs_cons (pg_name (i := 3) sc_with_way.nd rfl (Or.inl rfl)) (pgs_cons (pg_name (i := 4) sc_with_way.nd rfl (Or.inl rfl)) (pgs_cons (pg_name (i := 5) sc_with_way.nd rfl (Or.inl rfl)) pgs_nil))))))
 (pss_cons (ps_expr (pe_callR (ok_need_way x) (hr.mono (by decide)) rfl x.m_need_way (keep_of x.F_need_way) pass0 (pa_cons (pv 0) (pa_cons (pv 3) (pa_cons (pv 4) (pa_cons pe_bl pa_nil))))))
 (pss_cons (ps_if (pt_not (pt_val (pe_callB (r := rIsi K) call_isi rfl x.n_isinstance bb_isinstance (pa_cons (pv 5) (pa_cons (pe_gT x.n_bool (by rfl) rfl) pa_nil)))))
 (pss_one ps_never)
 pss_nil)
 (pss_cons (ps_set (i := 6) sc_with_way.nd rfl (Or.inl rfl) (pe_getI x.sp_Net_getitem x.fi_Net_getitem x.fn_Net_getitem (ok_Net_getitem x) (hr.mono (by decide)) pass0 (pv 0) (pv 3)))
 (pss_cons (ps_set (i := 7) sc_with_way.nd rfl (Or.inl rfl) (StX.pe_makeR x.mk_House (ok_House_init x) (hr.mono (by decide)) rfl x.m_House pass0 (pa_cons (pe_propR (pv 6) x.cl_House x.p_House_rules (ok_House_rules x) (hr.mono (by decide)) pass0) (pa_cons (pe_lst (pa_starK (K := K) rfl (pe_propR (pv 6) x.cl_House x.p_House_calls (ok_House_calls x) (hr.mono (by decide)) pass0) (pa_cons (pv 4) pa_nil))) (pa_cons (pe_ifExp (pt_val (pv 5)) (pe_lst (pa_starK (K := K) rfl (pe_propR (pv 6) x.cl_House x.p_House_lost (ok_House_lost x) (hr.mono (by decide)) pass0) (pa_cons (pv 4) pa_nil))) (pe_propR (pv 6) x.cl_House x.p_House_lost (ok_House_lost x) (hr.mono (by decide)) pass0)) (pa_cons (pe_propR (pv 6) x.cl_House x.p_House_fails (ok_House_fails x) (hr.mono (by decide)) pass0) pa_nil))))))
 (pss_one (ps_ret (Ws.pe_methR (pv 0) x.cl_Net x.me_Net_with_house (ok_Net_with_house x) (hr.mono (by decide)) pass0 (pa_cons (pv 3) (pa_cons (pv 7) pa_nil)))))))))), ?_⟩
  obtain ⟨f, s1, s2, dx, ph, pe, kvs, h1, h2, h3, h4⟩ := id t
  have ft := Can.fit (d := .way h y lo) f t.fits can
  obtain ⟨c1, c2, c3⟩ := id can
  refine ⟨_, rfl, od, _, rfl, .of hd, rfl, _, _, rfl, _, _, rfl, _, _, rfl, _, _, rfl, rfl, ?_⟩
  refine ⟨_, rfl, _, rfl, _, rfl, S, o, n, h, y, _, rfl, t, c1, c2, (decide_eq_false c3).symm, ?_⟩
  refine ⟨_, rfl, _, _, _, _, true, rfl, .ty _, .base (.bl _), kit_ty (by decide +kernel), true, rfl, ?_⟩
  refine ⟨_, rfl, _, rfl, o, dx, _, rfl, h1.1, S, o, n, h, rfl, t, c1, fun a th => ?_⟩
  obtain ⟨fh, sc, sl, dxh, pr, pc, pl, os0, k1, k2, k3, k4, k5⟩ := id th
  refine ⟨_, rfl, a, dxh, _, rfl, k1.1, S, a, _, rfl, th, fun p os hp hr2 => ?_⟩
  refine ⟨_, rfl, a, dxh, _, rfl, k1.1, S, a, _, rfl, th, fun pc' hpc => ⟨pc', _, rfl, .inl (.of hpc.1), _, rfl, ?_, fun l nl => ?_⟩⟩
  · have := fh.ln
    exact sz (m := 1000) (by simp; omega)
  have e1 : Ext H (upd H l (.lst ((getH n.houses h).calls.map V.str ++ [.str y]))) := ext_new nl
  have hl : (upd H l (.lst ((getH n.houses h).calls.map V.str ++ [.str y]))) l = some (.lst (((getH n.houses h).calls ++ [y]).map V.str)) := by rw [upd_same, strs_snoc]
  generalize upd H l (.lst ((getH n.houses h).calls.map V.str ++ [.str y])) = H1 at e1 hl
  refine ⟨_, rfl, lo, rfl, ?_⟩
  have fin : ∀ (H2 : Hp) (pl2 : Addr), Ext H1 H2 → Sq K H2 pl2 (((DeedD.way h y lo).on (getH n.houses h)).lost.map V.str) → ∀ q : Addr → Hp → Prop,
      (∀ r H' h', Ext H H' → Made ((DeedD.way h y lo).on (getH n.houses h)) h' → HouseAt S K H' r h' → q r H') →
      ∀ r dx, H2 r = none → H2 dx = none → dx ≠ r → sp_House_init K (.ref r :: [.ref p, .ref l, .ref pl2, .bl (getH n.houses h).fails]) (upd (upd H2 dx (.own r)) r (.ins (c_House K) dx [])) (fun v H2 => v = .non ∧ q r H2) E0 := by
    intro H2 pl2 e2 hs q hq
    have e12 := e1.trans e2
    exact make_house (m := (DeedD.way h y lo).on (getH n.houses h)) (dm.ext e12) (.inr (hp.ext e12)) (Paired.mapP hr2 fun _ _ z => z.ext e12) (.inl (.inl (e2 _ _ hl))) hs ft fun r H' h' e md t => hq r H' h' (e12.trans e) md t
  have last : ∀ r H' h', Ext H H' → Made ((DeedD.way h y lo).on (getH n.houses h)) h' → HouseAt S K H' r h' → sp_Net_with_house K [.ref o, .str h, .ref r] H' Q E0 := by
    intro r H' h' e md tr
    refine ⟨S, o, r, n, h, h', rfl, dm.ext e, t.ext e, tr, c1, fun r' hr' => ?_, fun z hz => ?_, fun r' H2 e2 tn => hQ r' H2 _ (e.trans e2) ⟨h', md, rfl⟩ tn⟩
    · rw [md.rules] at hr'
      exact f.hs.sh _ (getH_mem c1) r' hr'
    · rcases List.mem_append.mp (md.calls.mem_iff.mp hz) with hz | hz
      · exact f.hs.cl _ (getH_mem c1) z hz
      · rw [List.mem_singleton.mp hz]; exact c2
  cases lo with
  | true =>
    refine ⟨_, rfl, a, dxh, _, rfl, e1 _ _ k1.1, S, a, _, rfl, th.ext e1, fun pl' hpl => ⟨pl', _, rfl, .inl (.of hpl.1), _, rfl, ?_, fun l2 nl2 => ?_⟩⟩
    · have := fh.lnl
      exact sz (m := 1000) (by simp; omega)
    have e2 : Ext H1 (upd H1 l2 (.lst ((getH n.houses h).lost.map V.str ++ [.str y]))) := ext_new nl2
    have hl2 : (upd H1 l2 (.lst ((getH n.houses h).lost.map V.str ++ [.str y]))) l2 = some (.lst (((getH n.houses h).lost ++ [y]).map V.str)) := by rw [upd_same, strs_snoc]
    generalize upd H1 l2 (.lst ((getH n.houses h).lost.map V.str ++ [.str y])) = H2 at e2 hl2
    have e12 := e1.trans e2
    refine ⟨_, rfl, a, dxh, _, rfl, e12 _ _ k1.1, S, a, _, rfl, th.ext e12, ?_⟩
    exact fin H2 l2 e2 (.inl (.inl hl2)) _ fun r H' h' e md tr => ⟨_, rfl, o, dx, _, rfl, e _ _ h1.1, rfl, _, rfl, _, rfl, last r H' h' e md tr⟩
  | false =>
    refine ⟨_, rfl, a, dxh, _, rfl, e1 _ _ k1.1, S, a, _, rfl, th.ext e1, fun pl' hpl => ?_⟩
    refine ⟨_, rfl, a, dxh, _, rfl, e1 _ _ k1.1, S, a, _, rfl, th.ext e1, ?_⟩
    exact fin H1 pl' Ext.rfl' (.inr (.inl hpl.1)) _ fun r H' h' e md tr => ⟨_, rfl, o, dx, _, rfl, e _ _ h1.1, rfl, _, rfl, _, rfl, last r H' h' e md tr⟩
end
end Ws

set_option Elab.async false
set_option linter.all false
set_option maxRecDepth 100000
set_option maxHeartbeats 4000000
namespace Ws
open PySem PySem.Spec PyProof.Rows L2
/-- the items but y -/
def butV (y : Str) : V → Option V := fun v => match v with
  | .str z => if z = y then none else some (.str z)
  | _ => none
theorem but_strs (y : Str) : ∀ zs : List Str, (zs.map V.str).filterMap (butV y) = (zs.filter fun z => decide (z ≠ y)).map V.str
  | [] => rfl
  | z :: zs => by
    rw [List.map_cons, List.filterMap_cons, but_strs y zs, List.filter_cons]
    by_cases h : z = y
    · simp [butV, h]
    · simp [butV, h]
section
variable {P : Program} {w : World} {K : PySem.W.Frag} {mg : Str → Option Value} {base : Heap}
theorem sc_without_way : FnScope ["net", "deed", "word", "house", "other", "here", "calls", "lost", "name"] ["net", "deed"] (defScope s_without_way) := ⟨rfl, rfl, rfl, by decide +kernel, rfl, by decide +kernel, by decide +kernel⟩
theorem ok_without_way (x : Fx K mg w) : FnR P w K mg base CX0 7 (a_without_way K) (sp_deed K isCut) := by
  refine okR x.F_without_way sc_without_way (fun _ _ _ _ _ _ us hl => match us, hl with | [_, _], _ => rfl) (fun vs H Q E h => by obtain ⟨S, o, od, n, _, rfl, dm, t, hd, can, ⟨h, y, rfl⟩, hQ⟩ := h; rfl) (fun cdv A outer s H vs Q E hr h => ?_)
  obtain ⟨S, o, od, n, _, rfl, dm, t, hd, can, ⟨h, y, rfl⟩, hQ⟩ := h
  refine ⟨_, (pss_cons (ps_asg (pv 1) (pg_tupK (K := K) (n := 3) rfl rfl (pgs_cons (pg_name (i := 2) sc_without_way.nd rfl (Or.inl rfl)) (pgs_cons (pg_name (i := 3) sc_without_way.nd rfl (Or.inl rfl)) (pgs_cons (pg_name (i := 4) sc_without_way.nd rfl (Or.inr rfl)) pgs_nil)))))
 (pss_cons (ps_expr (pe_callR (ok_need_way x) (hr.mono (by decide)) rfl x.m_need_way (keep_of x.F_need_way) pass0 (pa_cons (pv 0) (pa_cons (pv 3) (pa_cons (pv 4) (pa_cons pe_bl pa_nil))))))
 (pss_cons (ps_set (i := 5) sc_without_way.nd rfl (Or.inl rfl) (pe_getI x.sp_Net_getitem x.fi_Net_getitem x.fn_Net_getitem (ok_Net_getitem x) (hr.mono (by decide)) pass0 (pv 0) (pv 3)))
 (pss_cons (ps_par (i := 6) (j := 7) rfl sc_without_way.nd rfl rfl (by decide) rfl rfl (pa_cons (pe_lc (own := [("name", 8)]) rfl sc_without_way.nd (pi_tupK (K := K) rfl (pe_propR (pv 5) x.cl_House x.p_House_calls (ok_House_calls x) (hr.mono (by decide)) pass0)) (blkOk_by (N := ["net", "deed", "word", "house", "other", "here", "calls", "lost", "name"]) (sc := defScope s_without_way) (by decide +kernel)) (fun _ _ _ _ _ => (pg_name (i := 8) sc_without_way.nd rfl (Or.inl rfl))) (fun _ _ _ _ _ => (pts_one (pt_cmpR op_ne (pv 8) (pv 4) (nomark _)))) (fun _ _ _ _ _ => (pv 8))) (pa_cons (pe_lc (own := [("name", 8)]) rfl sc_without_way.nd (pi_tupK (K := K) rfl (pe_propR (pv 5) x.cl_House x.p_House_lost (ok_House_lost x) (hr.mono (by decide)) pass0)) (blkOk_by (N := ["net", "deed", "word", "house", "other", "here", "calls", "lost", "name"]) (sc := defScope s_without_way) (by decide +kernel)) (fun _ _ _ _ _ => (pg_name (i := 8) sc_without_way.nd rfl (Or.inl rfl))) (fun _ _ _ _ _ => (pts_one (pt_cmpR op_ne (pv 8) (pv 4) (nomark _)))) (fun _ _ _ _ _ => (pv 8))) pa_nil)) (by rfl))
 (pss_one (ps_ret (Ws.pe_methR (pv 0) x.cl_Net x.me_Net_with_house (ok_Net_with_house x) (hr.mono (by decide)) pass0 (pa_cons (pv 3) (pa_cons (StX.pe_makeR x.mk_House (ok_House_init x) (hr.mono (by decide)) rfl x.m_House pass0 (pa_cons (pe_propR (pv 5) x.cl_House x.p_House_rules (ok_House_rules x) (hr.mono (by decide)) pass0) (pa_cons (pv 6) (pa_cons (pv 7) (pa_cons (pe_propR (pv 5) x.cl_House x.p_House_fails (ok_House_fails x) (hr.mono (by decide)) pass0) pa_nil))))) pa_nil))))))))), ?_⟩
  obtain ⟨f, s1, s2, dx, ph, pe, kvs, h1, h2, h3, h4⟩ := id t
  have ft := Can.fit (d := .cut h y) f t.fits can
  obtain ⟨c1, c2, c3⟩ := id can
  refine ⟨_, rfl, od, _, rfl, .of hd, rfl, _, _, rfl, _, _, rfl, _, _, rfl, rfl, ?_⟩
  refine ⟨_, rfl, _, rfl, _, rfl, S, o, n, h, y, _, rfl, t, c1, c2, (decide_eq_true c3).symm, ?_⟩
  refine ⟨_, rfl, _, rfl, o, dx, _, rfl, h1.1, S, o, n, h, rfl, t, c1, fun a th => ?_⟩
  obtain ⟨fh, sc, sl, dxh, pr, pc, pl, os0, k1, k2, k3, k4, k5⟩ := id th
  have l1 := fh.ln
  have l2 := fh.lnl
  refine ⟨_, rfl, a, dxh, _, rfl, k1.1, S, a, _, rfl, th, fun p hp => ⟨p, rfl, ⟨_, .of hp.1⟩, fun D hD => lc_map (std_tup (.of hp.1) (fun z => z)) hD (butV y) (by simp; omega) (fun v H5 Nx hv e5 g1 g2 => ?_) (fun H5 e5 hD5 => ?_)⟩⟩
  · obtain ⟨z, hz, rfl⟩ := List.mem_map.mp hv
    refine ⟨rfl, _, rfl, _, rfl, rfl, _, rfl, ifb (fun hb => ?_) fun hb => ?_⟩
    · exact ⟨_, rfl, g1 _ _ Ext.rfl' (by have : z ≠ y := by simpa using hb
                                         simp [butV, this])⟩
    · exact g2 _ Ext.rfl' (by have : z = y := by simpa using hb
                              simp [butV, this])
  rw [but_strs] at hD5
  refine ⟨_, rfl, a, dxh, _, rfl, e5 _ _ k1.1, S, a, _, rfl, th.ext e5, fun p' hp' => ⟨p', rfl, ⟨_, .of hp'.1⟩, fun D' hD' => lc_map (std_tup (.of hp'.1) (fun z => z)) hD' (butV y) (by simp; omega) (fun v H6 Nx hv e6 g1 g2 => ?_) (fun H6 e6 hD6 => ?_)⟩⟩
  · obtain ⟨z, hz, rfl⟩ := List.mem_map.mp hv
    refine ⟨rfl, _, rfl, _, rfl, rfl, _, rfl, ifb (fun hb => ?_) fun hb => ?_⟩
    · exact ⟨_, rfl, g1 _ _ Ext.rfl' (by have : z ≠ y := by simpa using hb
                                         simp [butV, this])⟩
    · exact g2 _ Ext.rfl' (by have : z = y := by simpa using hb
                              simp [butV, this])
  rw [but_strs] at hD6
  have e56 := e5.trans e6
  refine ⟨_, _, rfl, ?_⟩
  refine ⟨_, rfl, o, dx, _, rfl, e56 _ _ h1.1, rfl, _, rfl, _, rfl, a, dxh, _, rfl, e56 _ _ k1.1, S, a, _, rfl, th.ext e56, fun pr' os hpr hr2 => ?_⟩
  refine ⟨_, rfl, _, rfl, _, rfl, a, dxh, _, rfl, e56 _ _ k1.1, S, a, _, rfl, th.ext e56, ?_⟩
  refine make_house (K := K) (m := (DeedD.cut h y).on (getH n.houses h)) (dm.ext e56) (.inr hpr) hr2 (.inl (.inl (e6 _ _ hD5))) (.inl (.inl hD6)) ft fun r H' h' e md tr => ?_
  have e' := e56.trans e
  refine ⟨S, o, r, n, h, h', rfl, dm.ext e', t.ext e', tr, c1, fun r' hr' => ?_, fun z hz => ?_, fun r' H2 e2 tn => hQ r' H2 _ (e'.trans e2) ⟨h', md, rfl⟩ tn⟩
  · rw [md.rules] at hr'
    exact f.hs.sh _ (getH_mem c1) r' hr'
  · exact f.hs.cl _ (getH_mem c1) z (List.mem_filter.mp (md.calls.mem_iff.mp hz)).1
theorem sc_changed : FnScope ["net", "deed"] ["net", "deed"] (defScope s_changed) := ⟨rfl, rfl, rfl, by decide +kernel, rfl, by decide +kernel, by decide +kernel⟩
theorem ok_changed (x : Fx K mg w) : FnR P w K mg base CX0 9 (a_changed K) (sp_deed K fun _ => True) := by
  refine okR x.F_changed sc_changed (fun _ _ _ _ _ _ us hl => match us, hl with | [_, _], _ => rfl) (fun vs H Q E h => by obtain ⟨S, o, od, n, d, rfl, dm, t, hd, can, _, hQ⟩ := h; rfl) (fun cdv A outer s H vs Q E hr h => ?_)
  obtain ⟨S, o, od, n, d, rfl, dm, t, hd, can, _, hQ⟩ := h
  refine ⟨_, (pss_cons (ps_expr (pe_callR (ok_need_form x) (hr.mono (by decide)) rfl x.m_need_form (keep_of x.F_need_form) pass0 (pa_cons (pv 1) pa_nil)))
 (pss_cons (ps_if (pt_cmpR op_eq (pe_ix (r := rIxT K) ix_tup (pv 1) pe_int (fun _ _ => rfl)) pe_str (nomark _))
 (pss_one (ps_ret (pe_callR (ok_with_rule x) (hr.mono (by decide)) rfl x.m_with_rule (keep_of x.F_with_rule) pass0 (pa_cons (pv 0) (pa_cons (pv 1) pa_nil)))))
 pss_nil)
 (pss_one (ps_ret (pe_ifExp (pt_cmpR op_eq (pe_ix (r := rIxT K) ix_tup (pv 1) pe_int (fun _ _ => rfl)) pe_str (nomark _)) (pe_callR (ok_with_way x) (hr.mono (by decide)) rfl x.m_with_way (keep_of x.F_with_way) pass0 (pa_cons (pv 0) (pa_cons (pv 1) pa_nil))) (pe_callR (ok_without_way x) (hr.mono (by decide)) rfl x.m_without_way (keep_of x.F_without_way) pass0 (pa_cons (pv 0) (pa_cons (pv 1) pa_nil)))))))), ?_⟩
  obtain ⟨f, s1, s2, dx, ph, pe, kvs, h1, h2, h3, h4⟩ := id t
  refine ⟨_, rfl, od, d, rfl, hd, Can.ok f t.fits can, fun H1 e1 => ?_⟩
  have hd1 := e1 _ _ hd
  have hQ1 : ∀ r H' m, Ext H1 H' → Did n d m → NetAt S K H' r m → Q (.ref r) H' := fun r H' m e => hQ r H' m (e1.trans e)
  cases d with
  | rule h k r =>
    refine ⟨_, rfl, od, _, 0, _, rfl, rfl, .of hd1, atI_nat (j := 0) rfl, rfl, true, by decide +kernel, ?_⟩
    exact ⟨_, rfl, _, rfl, S, o, od, n, _, rfl, dm.ext e1, t.ext e1, hd1, can, ⟨h, k, r, rfl⟩, hQ1⟩
  | way h y l =>
    refine ⟨_, rfl, od, _, 0, _, rfl, rfl, .of hd1, atI_nat (j := 0) rfl, rfl, false, by decide +kernel, ?_⟩
    refine ⟨_, rfl, od, _, 0, _, rfl, rfl, .of hd1, atI_nat (j := 0) rfl, rfl, true, by decide +kernel, ?_⟩
    exact ⟨_, rfl, _, rfl, S, o, od, n, _, rfl, dm.ext e1, t.ext e1, hd1, can, ⟨h, y, l, rfl⟩, hQ1⟩
  | cut h y =>
    refine ⟨_, rfl, od, _, 0, _, rfl, rfl, .of hd1, atI_nat (j := 0) rfl, rfl, false, by decide +kernel, ?_⟩
    refine ⟨_, rfl, od, _, 0, _, rfl, rfl, .of hd1, atI_nat (j := 0) rfl, rfl, false, by decide +kernel, ?_⟩
    exact ⟨_, rfl, _, rfl, S, o, od, n, _, rfl, dm.ext e1, t.ext e1, hd1, can, ⟨h, y, rfl⟩, hQ1⟩
end
end Ws

set_option Elab.async false
set_option linter.all false
set_option maxRecDepth 100000
set_option maxHeartbeats 4000000
namespace Ws
open PySem PySem.Spec PyProof.Rows L2
section
variable {S : Addr → Prop} {K : PySem.W.Frag} {H H1 : Hp} {a o q net : Addr}
abbrev mom (K : PySem.W.Frag) (dx : Addr) (a b c : V) : HO := .ins (c_Moment K) dx [("whole", a), ("deed", b), ("ahead", c)]
/-- the moments from o on, the latest first: the nets' addresses, the deeds' addresses -/
def Chain (S : Addr → Prop) (K : PySem.W.Frag) (H : Hp) : Addr → List Addr → List Addr → Prop
  | o, nets, [] => ∃ net dx, nets = [net] ∧ At S H o (mom K dx (.ref net) .non .non)
  | o, nets, d :: ds => ∃ net nets' dx o', nets = net :: nets' ∧ At S H o (mom K dx (.ref net) (.ref d) (.ref o')) ∧ Chain S K H o' nets' ds
theorem Chain.imp {T : Addr → Prop} (f : ∀ a dx x y z, At S H a (mom K dx x y z) → At T H1 a (mom K dx x y z)) : ∀ {ds nets : List Addr} {o : Addr}, Chain S K H o nets ds → Chain T K H1 o nets ds
  | [], _, _, ⟨net, dx, e, h⟩ => ⟨net, dx, e, f _ _ _ _ _ h⟩
  | _ :: _, _, _, ⟨net, nets', dx, o', e, h, t⟩ => ⟨net, nets', dx, o', e, f _ _ _ _ _ h, Chain.imp f t⟩
theorem Chain.kp {ds nets : List Addr} (h : Chain S K H o nets ds) (e : Kp S H H1) : Chain S K H1 o nets ds := h.imp fun _ _ _ _ _ z => z.kp e
theorem Chain.ext {ds nets : List Addr} (h : Chain S K H o nets ds) (e : Ext H H1) : Chain S K H1 o nets ds := h.kp (.ext e)
theorem Chain.grow {ds nets : List Addr} (h : Chain S K H o nets ds) (hq : H q = none) : Chain (more S q) K H o nets ds := h.imp fun _ _ _ _ _ z => z.grow hq
/-- the latest moment's net -/
theorem Chain.top : ∀ {ds nets : List Addr} {o : Addr}, Chain S K H o nets ds → ∃ net nets' dx b c, nets = net :: nets' ∧ At S H o (mom K dx (.ref net) b c)
  | [], _, _, ⟨net, dx, e, h⟩ => ⟨net, [], dx, _, _, e, h⟩
  | _ :: _, _, _, ⟨net, nets', dx, o', e, h, t⟩ => ⟨net, nets', dx, _, _, e, h⟩
abbrev liv (K : PySem.W.Frag) (dx mo : Addr) (blk : V) : HO := .ins (c_Live K) dx [("now", .ref mo), ("block", blk)]
/-- a live net at its moment mo, its block blk -/
def LiveAt (S : Addr → Prop) (K : PySem.W.Frag) (H : Hp) (o : Addr) (blk : V) (mo : Addr) (nets ds : List Addr) : Prop := (∃ dx, H o = some (liv K dx mo blk)) ∧ Chain S K H mo nets ds
theorem LiveAt.ext {blk : V} {mo : Addr} {nets ds : List Addr} (h : LiveAt S K H o blk mo nets ds) (e : Ext H H1) : LiveAt S K H1 o blk mo nets ds := by
  obtain ⟨⟨dx, h1⟩, h2⟩ := h
  exact ⟨⟨dx, e _ _ h1⟩, h2.ext e⟩
theorem LiveAt.grow {blk : V} {mo : Addr} {nets ds : List Addr} (h : LiveAt S K H o blk mo nets ds) (hq : H q = none) : LiveAt (more S q) K H o blk mo nets ds := ⟨h.1, h.2.grow hq⟩
theorem LiveAt.kp {T : Addr → Prop} {blk : V} {mo : Addr} {nets ds : List Addr} (h : LiveAt S K H o blk mo nets ds) (e : Kp T H H1) (no : ¬ T o) (sub : ∀ a, T a → S a) : LiveAt S K H1 o blk mo nets ds := by
  obtain ⟨⟨dx, h1⟩, h2⟩ := h
  exact ⟨⟨dx, e.keep _ _ h1 no⟩, h2.kp (e.mono sub)⟩
/-- deeds as they stand -/
def DeedsAt (S : Addr → Prop) (H : Hp) : List Addr → List DeedD → Prop := Paired fun a d => At S H a (.tup d.vs) ∧ d.Ok
theorem DeedsAt.kp {ds : List Addr} {es : List DeedD} (h : DeedsAt S H ds es) (e : Kp S H H1) : DeedsAt S H1 ds es := Paired.mapP h fun _ _ z => ⟨z.1.kp e, z.2⟩
theorem DeedsAt.ext {ds : List Addr} {es : List DeedD} (h : DeedsAt S H ds es) (e : Ext H H1) : DeedsAt S H1 ds es := h.kp (.ext e)
theorem DeedsAt.grow {ds : List Addr} {es : List DeedD} (h : DeedsAt S H ds es) (hq : H q = none) : DeedsAt (more S q) H ds es := Paired.mapP h fun _ _ z => ⟨z.1.grow hq, z.2⟩
theorem paired_app {α β : Type} {R : α → β → Prop} : ∀ {xs xs' : List α} {ys ys' : List β}, Paired R xs ys → Paired R xs' ys' → Paired R (xs ++ xs') (ys ++ ys')
  | _, _, _, _, .nil, h => h
  | _, _, _, _, .cons r t, h => .cons r (paired_app t h)
theorem paired_rev {α β : Type} {R : α → β → Prop} : ∀ {xs : List α} {ys : List β}, Paired R xs ys → Paired R xs.reverse ys.reverse
  | _, _, .nil => .nil
  | _, _, .cons r t => by
    rw [List.reverse_cons, List.reverse_cons]
    exact paired_app (paired_rev t) (.cons r .nil)
theorem deeds_dp : ∀ {ds : List Addr} {es : List DeedD}, DeedsAt S H ds es → DpAll K H (ds.map V.ref) (es.map DeedD.dat)
  | _, _, .nil => .nil
  | _, _, .cons r t => .cons (deed_dp r.1.1) (deeds_dp t)
theorem deeds_ok : ∀ {ds : List Addr} {es : List DeedD}, DeedsAt S H ds es → ∀ d ∈ es, d.Ok
  | _, _, .nil, d, h => by simp at h
  | _, _, .cons r t, d, h => by
    rcases List.mem_cons.mp h with rfl | h
    · exact r.2
    · exact deeds_ok t d h
end
theorem deed_depth (d : DeedD) : d.dat.depth = 1 := by cases d <;> rfl
theorem deeds_lay : ∀ {es : List DeedD}, (∀ d ∈ es, d.Ok) → PyData.canLayAll0 (es.map DeedD.dat) = true ∧ PyData.depthAll (es.map DeedD.dat) ≤ 1
  | [], _ => ⟨rfl, Nat.zero_le _⟩
  | d :: es, h => by
    obtain ⟨h1, h2⟩ := deeds_lay fun e he => h e (List.mem_cons_of_mem _ he)
    have h3 := deed_shaped (h d List.mem_cons_self)
    unfold SeqAt.shaped at h3
    have h4 := (Bool.and_eq_true_iff.mp h3).1
    have h5 := deed_depth d
    refine ⟨?_, ?_⟩
    · simp only [List.map_cons, PyData.canLayAll0, h4, h1, Bool.and_self]
    · simp only [List.map_cons, PyData.depthAll]
      omega
theorem deeds_shaped {es : List DeedD} (h : ∀ d ∈ es, d.Ok) : SeqAt.shaped (.list (es.map DeedD.dat)) = true := by
  obtain ⟨h1, h2⟩ := deeds_lay h
  unfold SeqAt.shaped
  have h3 : (PyData.list (es.map DeedD.dat)).depth ≤ 64 := by
    simp only [PyData.depth]
    omega
  simp only [PyData.canLay0, h1, Bool.true_and, decide_eq_true h3]
theorem deed_eqv (d e : DeedD) : PyData.eqv d.dat e.dat = decide (d = e) := by
  rw [Bool.eq_iff_iff, decide_eq_true_eq]
  have n1 : ("rule" : Str) ≠ "way" := by decide +kernel
  have n2 : ("rule" : Str) ≠ "cut" := by decide +kernel
  have n3 : ("way" : Str) ≠ "cut" := by decide +kernel
  cases d with
  | rule h k r =>
    obtain ⟨a, b, c, d⟩ := r
    cases e with
    | rule h' k' r' =>
      obtain ⟨a', b', c', d'⟩ := r'
      simp [DeedD.dat, PyData.eqv, PyData.eqvAll]
      exact fun _ _ _ _ _ => ⟨fun z => by omega, fun z => by omega⟩
    | way h' o' l' => simp [DeedD.dat, PyData.eqv, PyData.eqvAll]
    | cut h' o' => simp [DeedD.dat, PyData.eqv, PyData.eqvAll]
  | way h o l =>
    cases e with
    | rule h' k' r' => simp [DeedD.dat, PyData.eqv, PyData.eqvAll]
    | way h' o' l' => simp [DeedD.dat, PyData.eqv, PyData.eqvAll]
    | cut h' o' => simp [DeedD.dat, PyData.eqv, PyData.eqvAll]
  | cut h o =>
    cases e with
    | rule h' k' r' => simp [DeedD.dat, PyData.eqv, PyData.eqvAll]
    | way h' o' l' => simp [DeedD.dat, PyData.eqv, PyData.eqvAll]
    | cut h' o' => simp [DeedD.dat, PyData.eqv, PyData.eqvAll]
theorem deeds_eqv : ∀ ds es : List DeedD, PyData.eqv (.list (ds.map DeedD.dat)) (.list (es.map DeedD.dat)) = decide (ds = es)
  | [], [] => by simp [PyData.eqv, PyData.eqvAll]
  | [], _ :: _ => by simp [PyData.eqv, PyData.eqvAll]
  | _ :: _, [] => by simp [PyData.eqv, PyData.eqvAll]
  | d :: ds, e :: es => by
    have ih := deeds_eqv ds es
    simp only [PyData.eqv] at ih
    simp only [List.map_cons, PyData.eqv, PyData.eqvAll, deed_eqv, ih]
    rw [Bool.eq_iff_iff]
    simp
section
variable {P : Program} {w : World} {K : PySem.W.Frag} {mg : Str → Option Value} {base : Heap}
theorem make_moment {S : Addr → Prop} {H1 : Hp} {a b c : V} {Q : Addr → Hp → Prop} {E : XK} (dm : Dm S H1) (k : ∀ p H' dx, Ext H1 H' → At S H' p (mom K dx a b c) → Q p H') :
    ∀ p dx, H1 p = none → H1 dx = none → dx ≠ p → sp_Moment_init K (.ref p :: [a, b, c]) (upd (upd H1 dx (.own p)) p (.ins (c_Moment K) dx [])) (fun v H2 => v = .non ∧ Q p H2) E := by
  intro p dx hp hdx ne
  refine ⟨p, dx, a, b, c, rfl, upd_same, rfl, k p _ dx ?_ ⟨upd_same, fun z => dm p z hp⟩⟩
  rw [upd_upd]
  exact (ext_new hdx).trans (ext_new (by rw [upd_ne (Ne.symm ne)]; exact hp))
def sp_Live_init (K : PySem.W.Frag) : Sp := fun vs H Q _ => ∃ (S : Addr → Prop) (o dx net : Addr) (n : NetD), vs = [.ref o, .ref net] ∧ Dm S H ∧ H o = some (.ins (c_Live K) dx []) ∧ NetAt S K H net n ∧ ∀ H' mo, Kp (one o) H H' → LiveAt S K H' o .non mo [net] [] → Q .non H'
theorem sc_Live_init : FnScope ["self", "net"] ["self", "net"] (defScope s_Live_init) := ⟨rfl, rfl, rfl, by decide +kernel, rfl, by decide +kernel, by decide +kernel⟩
theorem okf_Live_init {fd : FuncData} {dvs : List V} (F : FunD K "__init__" "Live.__init__" (defArgs s_Live_init) (defBody s_Live_init) (defScope s_Live_init) dvs [] (a_Live_init K) fd) (x : Fx K mg w) : FnOk P w K mg base CX0 3 (a_Live_init K) fd ["self", "net"] (sp_Live_init K) := by
  refine okFD F sc_Live_init (fun vs H Q E h => by obtain ⟨S, o, dx, net, n, rfl, dm, ho, t, hQ⟩ := h; rfl) (fun cdv A outer s H vs Q E hr h => ?_)
  obtain ⟨S, o, dx, net, n, rfl, dm, ho, t, hQ⟩ := h
  refine ⟨_, (pss_cons (ps_expr (pe_callR (ok_need_net x) (hr.mono (by decide)) rfl x.m_need_net (keep_of x.F_need_net) pass0 (pa_cons (pv 1) pa_nil)))
 (pss_cons (ps_fld (pv 0) (StX.pe_makeR x.mk_Moment (ok_Moment_init x) (hr.mono (by decide)) rfl x.m_Moment pass0 (pa_cons (pv 1) (pa_cons pe_non (pa_cons pe_non pa_nil)))) rfl)
 (pss_one (ps_fld (pv 0) pe_non rfl)))), ?_⟩
  refine ⟨_, rfl, S, net, n, rfl, t, ?_⟩
  refine ⟨_, rfl, make_moment (K := K) dm fun p H1 dp e1 tp => ?_⟩
  have o1 := e1 _ _ ho
  refine ⟨_, rfl, o, _, dx, [], rfl, o1, x.cl_Live, x.na_Live_now, by simp, ?_⟩
  refine ⟨_, rfl, o, _, dx, _, rfl, upd_same, x.cl_Live, x.na_Live_block, Nat.lt_of_le_of_lt (length_putF _ _ _) (by simp), ?_⟩
  rw [upd_upd, show putF "block" .non (putF "now" (.ref p) []) = ([("now", .ref p), ("block", .non)] : List (Str × V)) from rfl]
  have np : p ≠ o := ne_of tp.1 o1 (by simp)
  exact hQ _ p ((Kp.ext e1).put rfl) ⟨⟨dx, upd_same⟩, net, dp, rfl, ⟨by rw [upd_ne np]; exact tp.1, tp.2⟩⟩
theorem ok_Live_init (x : Fx K mg w) : FnR P w K mg base CX0 3 (a_Live_init K) (sp_Live_init K) := by
  obtain ⟨fd, F⟩ := x.F_Live_init
  exact FnR.imp ((okf_Live_init F x).raw (F.bindsN fun _ _ _ _ _ _ us hl => match us, hl with | [_, _], _ => rfl) .nil) fun vs H Q E h => by rwa [List.append_nil]
theorem okk_Live_init (x : Fx K mg w) : FnRK P w K mg base CX0 3 (a_Live_init K) 1 ["net"] (sp_Live_init K) := by
  obtain ⟨fd, F⟩ := x.F_Live_init
  exact rawK (okf_Live_init F x) (bindsK0 F fun _ _ _ _ _ _ us ws h1 h2 => match us, ws, h1, h2 with | [_], [_], _, _ => rfl)
def sp_Live_net (K : PySem.W.Frag) : Sp := fun vs H Q _ => ∃ (S : Addr → Prop) (o : Addr) (blk : V) (mo net : Addr) (nets ds : List Addr), vs = [.ref o] ∧ LiveAt S K H o blk mo (net :: nets) ds ∧ Q (.ref net) H
theorem sc_Live_net : FnScope ["self"] ["self"] (defScope s_Live_net) := ⟨rfl, rfl, rfl, by decide +kernel, rfl, by decide +kernel, by decide +kernel⟩
theorem ok_Live_net (x : Fx K mg w) : FnR P w K mg base CX0 1 (a_Live_net K) (sp_Live_net K) := by
  refine okR x.F_Live_net sc_Live_net (fun _ _ _ _ _ _ us hl => match us, hl with | [_], _ => rfl) (fun vs H Q E h => by obtain ⟨S, o, blk, mo, net, nets, ds, rfl, ⟨⟨dx, h1⟩, h2⟩, hQ⟩ := h; rfl) (fun cdv A outer s H vs Q E hr h => ?_)
  obtain ⟨S, o, blk, mo, net, nets, ds, rfl, ⟨⟨dx, h1⟩, h2⟩, hQ⟩ := h
  refine ⟨_, (pss_one (ps_ret (pe_fldK (K := K) rfl (pe_fldK (K := K) rfl (pv 0) rfl) rfl))), ?_⟩
  obtain ⟨_, _, dm, b, c, e, h3⟩ := h2.top
  cases e
  exact ⟨_, rfl, o, _, dx, _, _, rfl, h1, x.cl_Live, x.na_Live_now, rfl, mo, _, dm, _, _, rfl, h3.1, x.cl_Moment, x.na_Moment_whole, rfl, hQ⟩
def sp_Live_log (K : PySem.W.Frag) : Sp := fun vs H Q _ => ∃ (S : Addr → Prop) (o : Addr) (blk : V) (mo : Addr) (nets ds : List Addr), vs = [.ref o] ∧ LiveAt S K H o blk mo nets ds ∧ ds.length ≤ 1000 ∧ ∀ l H', Ext H H' → H l = none → H' l = some (.lst (ds.reverse.map V.ref)) → Q (.ref l) H'
theorem sc_Live_log : FnScope ["self", "found", "at"] ["self"] (defScope s_Live_log) := ⟨rfl, rfl, rfl, by decide +kernel, rfl, by decide +kernel, by decide +kernel⟩
theorem ok_Live_log (x : Fx K mg w) : FnR P w K mg base CX0 1 (a_Live_log K) (sp_Live_log K) := by
  refine okR x.F_Live_log sc_Live_log (fun _ _ _ _ _ _ us hl => match us, hl with | [_], _ => rfl) (fun vs H Q E h => by obtain ⟨S, o, blk, mo, nets, ds, rfl, ⟨⟨dx, h1⟩, h2⟩, hl, hQ⟩ := h; rfl) (fun cdv A outer s H vs Q E hr h => ?_)
  obtain ⟨S, o, blk, mo, nets, ds, rfl, ⟨⟨dx, h1⟩, h2⟩, hl, hQ⟩ := h
  refine ⟨_, (pss_cons (ps_par (i := 1) (j := 2) rfl sc_Live_log.nd rfl rfl (by decide) rfl rfl (pa_cons (pe_lst pa_nil) (pa_cons (pe_fldK (K := K) rfl (pv 0) rfl) pa_nil)) (by rfl))
 (pss_cons (ps_while PassesOwn.never (pt_cmpR op_notN (pe_fldK (K := K) rfl (pv 2) rfl) pe_non (nomark _))
 (pss_cons (ps_set (i := 1) sc_Live_log.nd rfl (Or.inl rfl) (pe_lst (pa_cons (pe_fldK (K := K) rfl (pv 2) rfl) (pa_starK (K := K) rfl (pv 1) pa_nil))))
 (pss_one (ps_set (i := 2) sc_Live_log.nd rfl (Or.inl rfl) (pe_fldK (K := K) rfl (pv 2) rfl)))))
 (pss_one (ps_ret (pv 1))))), ?_⟩
  refine ⟨by simp [sizeLine_eq], fun l nl => ?_⟩
  have e1 : Ext H (upd H l (.lst [])) := ext_new nl
  have hL : (upd H l (.lst [])) l = some (.lst []) := upd_same
  generalize upd H l (.lst []) = H1 at e1 hL
  refine ⟨_, rfl, o, _, dx, _, _, rfl, e1 _ _ h1, x.cl_Live, x.na_Live_now, rfl, _, _, rfl, ?_⟩
  refine ⟨fun m σ H' => ∃ dn rs mo' nets' l', m = rs.length ∧ ds = dn ++ rs ∧ Ext H H' ∧ σ = [some (.ref o), some (.ref l'), some (.ref mo')] ∧ Chain S K H mo' nets' rs ∧ H l' = none ∧ H' l' = some (.lst (dn.reverse.map V.ref)), ⟨_, [], ds, mo, nets, l, rfl, rfl, e1, rfl, h2, nl, hL⟩, ?_⟩
  rintro m σ H' ⟨dn, rs, mo', nets', l', rfl, eds, e, rfl, ch, nl', hl'⟩
  cases rs with
  | nil =>
    obtain ⟨_, dm, _, g⟩ := ch
    refine ⟨_, rfl, mo', _, dm, _, _, rfl, e _ _ g.1, x.cl_Moment, x.na_Moment_ahead, rfl, rfl, _, rfl, ?_⟩
    rw [List.append_nil] at eds
    subst eds
    exact ⟨_, rfl, hQ l' H' e nl' hl'⟩
  | cons d rs =>
    obtain ⟨_, nets', dm, o', _, g, ch⟩ := ch
    have len : dn.length + (rs.length + 1) ≤ 1000 := by
      have := congrArg List.length eds
      simp at this
      omega
    refine ⟨_, rfl, mo', _, dm, _, _, rfl, e _ _ g.1, x.cl_Moment, x.na_Moment_ahead, rfl, rfl, _, rfl, ?_⟩
    refine ⟨fun σ' H2 => ∃ l2, σ' = [some (.ref o), some (.ref l2), some (.ref o')] ∧ Ext H H2 ∧ H l2 = none ∧ H2 l2 = some (.lst ((dn ++ [d]).reverse.map V.ref)), fun σ' H2 ⟨l2, hσ, e2, n2, h2⟩ => ⟨rs.length, by simp, dn ++ [d], rs, o', nets', l2, rfl, by rw [eds]; simp, e2, hσ, ch, n2, h2⟩, ?_⟩
    refine ⟨_, rfl, mo', _, dm, _, _, rfl, e _ _ g.1, x.cl_Moment, x.na_Moment_deed, rfl, _, rfl, l', _, rfl, .inr (.of hl'), sz (m := 1000) (by simp; omega), fun l2 nl2 => ?_⟩
    have e2 := e.trans (ext_new (o := .lst (V.ref d :: (dn.reverse.map V.ref ++ []))) nl2)
    have n2 : H l2 = none := by
      cases q : H l2 with
      | none => rfl
      | some u => rw [e _ _ q] at nl2; cases nl2
    refine ⟨_, rfl, mo', _, dm, _, _, rfl, e2 _ _ g.1, x.cl_Moment, x.na_Moment_ahead, rfl, l2, rfl, e2, n2, ?_⟩
    rw [upd_same]
    simp
/-- equal as two live nets are -/
def LiveR (K : PySem.W.Frag) (p q : Addr) (b : Bool) (H : Hp) : Prop := ∃ (S : Addr → Prop) (k k' : V) (mo mo' net net' : Addr) (nets nets' : List Addr) (n n' : NetD) (ds ds' : List Addr) (es es' : List DeedD), LiveAt S K H p k mo (net :: nets) ds ∧ LiveAt S K H q k' mo' (net' :: nets') ds' ∧ NetAt S K H net n ∧ NetAt S K H net' n' ∧
  DeedsAt S H ds es ∧ DeedsAt S H ds' es' ∧ ds.length ≤ 1000 ∧ ds'.length ≤ 1000 ∧ b = (decide (n = n') && decide (es = es'))
theorem sc_Live_eq : FnScope ["self", "other"] ["self", "other"] (defScope s_Live_eq) := ⟨rfl, rfl, rfl, by decide +kernel, rfl, by decide +kernel, by decide +kernel⟩
theorem ok_Live_eq (x : Fx K mg w) : FnR P w K mg base CX0 6 (a_Live_eq K) (spEqb (LiveR K)) := by
  refine okR x.F_Live_eq sc_Live_eq (fun _ _ _ _ _ _ us hl => match us, hl with | [_, _], _ => rfl) (fun vs H Q E h => by obtain ⟨p, q, b, rfl, ⟨S, k, k', mo, mo', net, net', nets, nets', n, n', ds, ds', es, es', l1, l2, t1, t2, d1, d2, k1, k2, rfl⟩, hQ⟩ := h; rfl) (fun cdv A outer s H vs Q E hr h => ?_)
  obtain ⟨p, q, b, rfl, ⟨S, k, k', mo, mo', net, net', nets, nets', n, n', ds, ds', es, es', l1, l2, t1, t2, d1, d2, k1, k2, rfl⟩, hQ⟩ := h
  refine ⟨_, (pss_one (ps_ret (pe_and (pe_callB (r := rIsi K) call_isi rfl x.n_isinstance bb_isinstance (pa_cons (pv 1) (pa_cons (pe_gR x.m_Live rfl) pa_nil))) (pe_and (pe_cmpR (show OpR _ _ (rEqI K _ _ _ false) from op_eqI x.sp_Net_eq x.fn_Net_eq (ok_Net_eq x) (hr.mono (by decide)) pass0) (pe_propR (pv 0) x.cl_Live x.p_Live_net (ok_Live_net x) (hr.mono (by decide)) pass0) (pe_propR (pv 1) x.cl_Live x.p_Live_net (ok_Live_net x) (hr.mono (by decide)) pass0) (nomark _)) (pe_one (pe_cmpR (show OpR _ _ (rEqD K) from op_eqD hr.units) (pe_propR (pv 0) x.cl_Live x.p_Live_log (ok_Live_log x) (hr.mono (by decide)) pass0) (pe_propR (pv 1) x.cl_Live x.p_Live_log (ok_Live_log x) (hr.mono (by decide)) pass0) (nomark _))))))), ?_⟩
  obtain ⟨⟨dx, g1⟩, _⟩ := id l1
  obtain ⟨⟨dy, g2⟩, _⟩ := id l2
  obtain ⟨_, _, _, dn, _, _, _, m1, _⟩ := id t1
  obtain ⟨_, _, _, dn', _, _, _, m2, _⟩ := id t2
  refine ⟨_, rfl, _, _, _, _, true, rfl, .own _, isi_own g2 x.cl_Live x.cc_Live x.cget x.ctak x.mro_Live, x.kit_Live, true, rfl, ?_⟩
  refine ⟨_, rfl, p, dx, _, rfl, g1, S, p, k, mo, net, nets, ds, rfl, l1, ?_⟩
  refine ⟨_, rfl, q, dy, _, rfl, g2, S, q, k', mo', net', nets', ds', rfl, l2, ?_⟩
  refine ⟨net, dn, _, net', _, dn', _, rfl, rfl, m1.1, m2.1, by simp [PySem.W.notFirst], net, net', decide (n = n'), rfl, ⟨n, n', t1.free, t2.free, rfl⟩, fun H1 e1 => ⟨_, rfl, _, rfl, ifb (fun hb => ?_) fun hb => ?_⟩⟩
  · refine ⟨_, rfl, p, dx, _, rfl, e1 _ _ g1, S, p, k, mo, net :: nets, ds, rfl, l1.ext e1, k1, fun l H2 e2 _ hl => ?_⟩
    have e12 := e1.trans e2
    refine ⟨_, rfl, q, dy, _, rfl, e12 _ _ g2, S, q, k', mo', net' :: nets', ds', rfl, l2.ext e12, k2, fun l' H3 e3 _ hl' => ?_⟩
    have e13 := e12.trans e3
    have r1 := paired_rev (d1.ext e13)
    have r2 := paired_rev (d2.ext e13)
    refine ⟨.list (es.reverse.map DeedD.dat), .list (es'.reverse.map DeedD.dat), .lst (.of (e3 _ _ hl)) (deeds_dp r1), .lst (.of hl') (deeds_dp r2), deeds_shaped (deeds_ok r1), deeds_shaped (deeds_ok r2), ?_⟩
    have := hQ H3 e13
    have hb : decide (n = n') = true := hb
    rw [hb, Bool.true_and] at this
    rw [deeds_eqv, show decide (es.reverse = es'.reverse) = decide (es = es') by rw [decide_eq_decide, List.reverse_inj]]
    exact this
  · have := hQ H1 e1
    have hb : decide (n = n') = false := hb
    rwa [hb, Bool.false_and] at this
def sp_Live_do (K : PySem.W.Frag) : Sp := fun vs H Q _ => ∃ (S : Addr → Prop) (o : Addr) (blk : V) (mo net od : Addr) (nets ds : List Addr) (n : NetD) (d : DeedD), vs = [.ref o, .ref od] ∧ Dm S H ∧ S o ∧ LiveAt S K H o blk mo (net :: nets) ds ∧ NetAt S K H net n ∧ At S H od (.tup d.vs) ∧ d.Can n ∧
  ∀ H' mo' net' m, Kp (one o) H H' → Did n d m → LiveAt S K H' o blk mo' (net' :: net :: nets) (od :: ds) → NetAt S K H' net' m → Q .non H'
theorem sc_Live_do : FnScope ["self", "deed"] ["self", "deed"] (defScope s_Live_do) := ⟨rfl, rfl, rfl, by decide +kernel, rfl, by decide +kernel, by decide +kernel⟩
theorem okf_Live_do {fd : FuncData} {dvs : List V} (F : FunD K "do" "Live.do" (defArgs s_Live_do) (defBody s_Live_do) (defScope s_Live_do) dvs [] (a_Live_do K) fd) (x : Fx K mg w) : FnOk P w K mg base CX0 10 (a_Live_do K) fd ["self", "deed"] (sp_Live_do K) := by
  refine okFD F sc_Live_do (fun vs H Q E h => by obtain ⟨S, o, blk, mo, net, od, nets, ds, n, d, rfl, dm, so, l, t, hd, can, hQ⟩ := h; rfl) (fun cdv A outer s H vs Q E hr h => ?_)
  obtain ⟨S, o, blk, mo, net, od, nets, ds, n, d, rfl, dm, so, l, t, hd, can, hQ⟩ := h
  refine ⟨_, (pss_one (ps_fld (pv 0) (StX.pe_makeR x.mk_Moment (ok_Moment_init x) (hr.mono (by decide)) rfl x.m_Moment pass0 (pa_cons (pe_callR (ok_changed x) (hr.mono (by decide)) rfl x.m_changed (keep_of x.F_changed) pass0 (pa_cons (pe_fldK (K := K) rfl (pe_fldK (K := K) rfl (pv 0) rfl) rfl) (pa_cons (pv 1) pa_nil))) (pa_cons (pv 1) (pa_cons (pe_fldK (K := K) rfl (pv 0) rfl) pa_nil)))) rfl)), ?_⟩
  obtain ⟨⟨dx, g1⟩, ch⟩ := id l
  obtain ⟨_, _, dm', b, c, e, w1⟩ := ch.top
  cases e
  refine ⟨_, rfl, o, _, dx, _, _, rfl, g1, x.cl_Live, x.na_Live_now, rfl, mo, _, dm', _, _, rfl, w1.1, x.cl_Moment, x.na_Moment_whole, rfl, ?_⟩
  refine ⟨_, rfl, S, net, od, n, d, rfl, dm, t, hd.1, can, True.intro, fun r H1 m e1 did tn => ?_⟩
  refine ⟨_, rfl, _, rfl, o, _, dx, _, _, rfl, e1 _ _ g1, x.cl_Live, x.na_Live_now, rfl, ?_⟩
  refine make_moment (K := K) (dm.ext e1) fun p H2 dp e2 tp => ?_
  have e12 := e1.trans e2
  have o2 := e12 _ _ g1
  refine ⟨_, rfl, o, _, dx, _, rfl, o2, x.cl_Live, x.na_Live_now, by simp, ?_⟩
  rw [show putF "now" (.ref p) [("now", .ref mo), ("block", blk)] = ([("now", .ref p), ("block", blk)] : List (Str × V)) from rfl]
  have np : p ≠ o := ne_of tp.1 o2 (by simp)
  have u : Kp S H2 (upd H2 o (liv K dx p blk)) := Kp.refl.put so
  exact hQ _ p r m ((Kp.ext e12).put rfl) did ⟨⟨dx, upd_same⟩, _, _, dp, mo, rfl, ⟨by rw [upd_ne np]; exact tp.1, tp.2⟩, (ch.ext e12).kp u⟩ ((tn.ext e2).kp u)
theorem ok_Live_do (x : Fx K mg w) : FnR P w K mg base CX0 10 (a_Live_do K) (sp_Live_do K) := by
  obtain ⟨fd, F⟩ := x.F_Live_do
  exact FnR.imp ((okf_Live_do F x).raw (F.bindsN fun _ _ _ _ _ _ us hl => match us, hl with | [_, _], _ => rfl) .nil) fun vs H Q E h => by rwa [List.append_nil]
end
end Ws

set_option Elab.async false
set_option linter.all false
set_option maxRecDepth 100000
set_option maxHeartbeats 4000000
namespace Ws
open PySem PySem.Spec PyProof.Rows L2
def drawK (w c : Addr) (rest turn : Int) : List (Key × V) := [(Sum.inr "wide", .ref w), (Sum.inr "cells", .ref c), (Sum.inr "rest", .int rest), (Sum.inr "turn", .int turn)]
/-- the draws at d (their wide list at w), at most n turns so far -/
def DrawAt (S : Addr → Prop) (H : Hp) (d w c : Addr) (n : Nat) : Prop := S d ∧ S w ∧ ∃ (ws cs : List Int) (rest turn : Int), H d = some (.dK (drawK w c rest turn)) ∧ H w = some (.lst (ws.map V.int)) ∧ At S H c (.lst (cs.map V.int)) ∧
  cs.length ≤ 63 ∧ 0 ≤ turn ∧ turn ≤ n
theorem DrawAt.more {S : Addr → Prop} {H : Hp} {d w c : Addr} {n m : Nat} (h : DrawAt S H d w c n) (le : n ≤ m) : DrawAt S H d w c m := by
  obtain ⟨a, b, ws, cs, rest, turn, h1, h2, h3, h4, h5, h6⟩ := h
  exact ⟨a, b, ws, cs, rest, turn, h1, h2, h3, h4, h5, by omega⟩
/-- under a change elsewhere -/
theorem DrawAt.kp {S T : Addr → Prop} {H H' : Hp} {d w c : Addr} {n : Nat} (h : DrawAt S H d w c n) (e : Kp T H H') (nd : ¬ T d) (nw : ¬ T w) (nc : ¬ T c) : DrawAt S H' d w c n := by
  obtain ⟨a, b, ws, cs, rest, turn, h1, h2, h3, h4, h5, h6⟩ := h
  exact ⟨a, b, ws, cs, rest, turn, e.keep _ _ h1 nd, e.keep _ _ h2 nw, ⟨e.keep _ _ h3.1 nc, h3.2⟩, h4, h5, h6⟩
theorem DrawAt.ext {S : Addr → Prop} {H H' : Hp} {d w c : Addr} {n : Nat} (h : DrawAt S H d w c n) (e : Ext H H') : DrawAt S H' d w c n := h.kp (T := no) (.ext e) (fun z => z) (fun z => z) fun z => z
theorem DrawAt.grow {S : Addr → Prop} {H : Hp} {d w c q : Addr} {n : Nat} (h : DrawAt S H d w c n) (hq : H q = none) : DrawAt (Ws.more S q) H d w c n := by
  obtain ⟨a, b, ws, cs, rest, turn, h1, h2, h3, h4, h5, h6⟩ := h
  exact ⟨.inl a, .inl b, ws, cs, rest, turn, h1, h2, h3.grow hq, h4, h5, h6⟩
/-- what is new is none of theirs -/
theorem DrawAt.ne {S : Addr → Prop} {H : Hp} {d w c q : Addr} {n : Nat} (h : DrawAt S H d w c n) (hq : H q = none) : d ≠ q ∧ w ≠ q ∧ c ≠ q := by
  obtain ⟨a, b, ws, cs, rest, turn, h1, h2, h3, h4, h5, h6⟩ := h
  exact ⟨ne_of_none h1 hq, ne_of_none h2 hq, ne_of_none h3.1 hq⟩
def big : Nat := 1099511627776
theorem draw_get {w c : Addr} {rest turn : Int} : valV (drawK w c rest turn) (Sum.inr "wide") = some (.ref w) ∧ valV (drawK w c rest turn) (Sum.inr "cells") = some (.ref c) ∧ valV (drawK w c rest turn) (Sum.inr "rest") = some (.int rest) ∧
    valV (drawK w c rest turn) (Sum.inr "turn") = some (.int turn) := ⟨rfl, rfl, rfl, rfl⟩
theorem dput_str {H : Hp} {a : Addr} {kvs : List (Key × V)} {z : Str} {v : V} (e : H a = some (.dK kvs)) (hl : kvs.length ≤ 1000) : DPut H a (.str z) v (upd H a (.dK (putK kvs (Sum.inr z) v))) := DPut.k e (k := Sum.inr z) (Nat.lt_of_le_of_lt hl line1001)
theorem put_turn {w c : Addr} {rest turn t : Int} : putK (drawK w c rest turn) (Sum.inr "turn") (.int t) = drawK w c rest t := rfl
theorem put_rest {w c : Addr} {rest turn t : Int} : putK (drawK w c rest turn) (Sum.inr "rest") (.int t) = drawK w c t turn := rfl
theorem pow5_small {b : Int} (h : b.natAbs < 2 ^ 60) : CPow b 5 := ⟨by decide, by decide, Nat.lt_trans h (by decide)⟩
section
variable {P : Program} {w : World} {K : PySem.W.Frag} {mg : Str → Option Value} {base : Heap}
def sp_l_mixed : Sp := fun vs H Q _ => ∃ (S : Addr → Prop) (d wd c : Addr) (n : Nat), vs = [.ref d] ∧ Dm S H ∧ DrawAt S H d wd c n ∧ n ≤ big ∧ ∀ i H', Kp S H H' → DrawAt S H' d wd c (n + 1) → Q (.int i) H'
theorem sc_l_mixed : FnScope ["_law_draw", "_law_turn", "_law_found", "_law_prime", "_law_blend", "_law_cell"] ["_law_draw"] (defScope s_l_mixed) := ⟨rfl, rfl, rfl, by decide +kernel, rfl, by decide +kernel, by decide +kernel⟩
theorem ok_l_mixed (x : Fx K mg w) : FnR P w K mg base CX0 1 (a_l_mixed K) sp_l_mixed := by
  refine okR x.F_l_mixed sc_l_mixed (fun _ _ _ _ _ _ us hl => match us, hl with | [_], _ => rfl) (fun vs H Q E h => by obtain ⟨S, d, wd, c, n, rfl, dm, ⟨sd, sw, ws, cs, rest, turn, h1, h2, h3, h4, h5, h6⟩, hn, hQ⟩ := h; rfl) (fun cdv A outer s H vs Q E hr h => ?_)
  obtain ⟨S, d, wd, c, n, rfl, dm, ⟨sd, sw, ws, cs, rest, turn, h1, h2, h3, h4, h5, h6⟩, hn, hQ⟩ := h
  refine ⟨_, (pss_cons (ps_par (i := 1) (j := 2) rfl sc_l_mixed.nd rfl rfl (by decide) rfl rfl (pa_cons (pe_op op_add (pe_dget (hu_of hr) (pv 0) pe_str (fun _ _ => rfl)) pe_int) (pa_cons pe_int pa_nil)) (by rfl))
 (pss_cons (ps_dput (hu_of hr) (pv 0) pe_str (pv 1) rfl)
 (pss_cons (ps_for PassesOwn.never rfl (pi_listK (K := K) rfl (pe_lst (pa_cons pe_int (pa_cons pe_int (pa_cons pe_int (pa_cons pe_int pa_nil)))))) (pg_name (i := 3) sc_l_mixed.nd rfl (Or.inl rfl))
 (pss_cons (ps_set (i := 4) sc_l_mixed.nd rfl (Or.inl rfl) (pe_op op_add (pe_op op_mul pe_int (pv 1)) (pe_op op_fdiv (pv 3) pe_int)))
 (pss_cons (ps_for PassesOwn.never rfl (pi_listK (K := K) rfl (pe_dget (hu_of hr) (pv 0) pe_str (fun _ _ => rfl))) (pg_name (i := 5) sc_l_mixed.nd rfl (Or.inl rfl))
 (pss_one (ps_set (i := 4) sc_l_mixed.nd rfl (Or.inl rfl) (pe_op op_mod (pe_callTy call_int1 rfl x.n_int bb_int (pa_cons (pe_op op_add (pe_op op_add (pe_op op_mul (pv 4) pe_int) (pv 5)) (pv 1)) pa_nil)) (pv 3)))))
 (pss_one (ps_set (i := 2) sc_l_mixed.nd rfl (Or.inl rfl) (pe_op op_add (pe_op op_mul (pv 2) pe_int) (pe_op op_mod (pe_callTy call_int1 rfl x.n_int bb_int (pa_cons (pe_op op_pow (pv 4) pe_int) pa_nil)) (pv 3))))))))
 (pss_one (ps_ret (pv 2)))))), ?_⟩
  have hb : n ≤ 1099511627776 := hn
  refine ⟨_, rfl, d, _, rfl, dget_str h1 draw_get.2.2.2, _, _, rfl, rfl, _, _, rfl, ?_⟩
  refine ⟨_, rfl, _, rfl, d, _, rfl, dput_str h1 (by simp [drawK]), ?_⟩
  rw [put_turn]
  have u1 : Kp S H (upd H d (.dK (drawK wd c rest (turn + 1)))) := Kp.refl.put sd
  have d1 : (upd H d (.dK (drawK wd c rest (turn + 1)))) d = some (.dK (drawK wd c rest (turn + 1))) := upd_same
  have w1 : (upd H d (.dK (drawK wd c rest (turn + 1)))) wd = some (.lst (ws.map V.int)) := by rw [upd_ne (ne_of h2 h1 (by simp))]; exact h2
  generalize upd H d (.dK (drawK wd c rest (turn + 1))) = H1 at u1 d1 w1
  refine ⟨by simp [sizeLine_eq], fun l nl => ?_⟩
  have e2 : Ext H1 (upd H1 l (.lst [.int 2147483629, .int 2147483587, .int 2147483579, .int 2147483563])) := ext_new nl
  have hl : (upd H1 l (.lst [.int 2147483629, .int 2147483587, .int 2147483579, .int 2147483563])) l = some (.lst [.int 2147483629, .int 2147483587, .int 2147483579, .int 2147483563]) := upd_same
  generalize upd H1 l (.lst [.int 2147483629, .int 2147483587, .int 2147483579, .int 2147483563]) = H2 at e2 hl
  have u2 := u1.trans (.ext e2)
  have c2 := h3.kp u2
  refine ⟨l, rfl, ⟨_, .of hl⟩, for_std (std_list (S := no) (.of hl) (fun z => z)) (fun i σ H' => H' = H2 ∧ ∃ f p b q, σ = [some (.ref d), some (.int (turn + 1)), some (.int f), p, b, q]) ⟨rfl, 0, none, none, none, rfl⟩ (fun i σ H' h => by rw [h.1]; exact Kp.refl) (fun i y σ H' hy ⟨e, f, p, b, q, hσ⟩ => ?_) (fun σ H' ⟨e, f, p, b, q, hσ⟩ => ?_)⟩
  · subst hσ; replace e := e.symm; subst e
    have hp : ∃ z : Int, y = .int z ∧ 0 < z ∧ z < 2147483648 := by
      have := List.mem_of_getElem? hy
      simp only [List.mem_cons, List.not_mem_nil, or_false] at this
      rcases this with rfl | rfl | rfl | rfl <;> exact ⟨_, rfl, by decide, by decide⟩
    obtain ⟨z, rfl, z1, z2⟩ := hp
    refine ⟨_, rfl, _, _, rfl, rfl, .inl ⟨by decide, by decide⟩, _, rfl, _, _, rfl, rfl, ⟨by decide, by decide⟩, _, _, rfl, rfl, ?_⟩
    refine ⟨_, rfl, d, _, rfl, dget_str (e2 _ _ d1) draw_get.2.1, c, rfl, ⟨_, .of c2.1⟩, for_std (std_list (S := no) (.of c2.1) (fun z => z)) (fun i σ H' => H' = H2 ∧ ∃ f q, ∃ b : Int, σ = [some (.ref d), some (.int (turn + 1)), some (.int f), some (.int z), some (.int b), q] ∧ b.natAbs < 2 ^ 60)
      ⟨rfl, f, q, _, rfl, ?_⟩ (fun i σ H' h => by rw [h.1]; exact Kp.refl) (fun i y σ H' hy ⟨e, f, q, b, hσ, hb⟩ => ?_) (fun σ H' ⟨e, f, q, b, hσ, hb⟩ => ?_)⟩
    · have : (z / 19 : Int) ≤ z := Int.ediv_le_self _ (by omega)
      have : 0 ≤ (z / 19 : Int) := Int.ediv_nonneg (by omega) (by decide)
      show (61441 * (turn + 1) + z / 19).natAbs < 1152921504606846976
      omega
    · subst hσ; replace e := e.symm; subst e
      obtain ⟨g, _, rfl⟩ := List.mem_map.mp (List.mem_of_getElem? hy)
      refine ⟨_, rfl, _, _, rfl, rfl, .inr ⟨by decide, by decide⟩, _, rfl, _, _, rfl, rfl, _, rfl, _, _, rfl, rfl, .inl ⟨_, rfl, _, rfl, _, _, rfl, rfl, z1, rfl, f, _, _, rfl, ?_⟩⟩
      have m1 := Int.emod_nonneg (b * 48271 + g + (turn + 1)) (show z ≠ 0 by omega)
      have m2 := Int.emod_lt_of_pos (b * 48271 + g + (turn + 1)) z1
      show ((b * 48271 + g + (turn + 1)) % z).natAbs < 1152921504606846976
      omega
    · subst hσ; replace e := e.symm; subst e
      refine ⟨_, rfl, _, _, rfl, rfl, .inr ⟨by decide, by decide⟩, _, rfl, _, _, rfl, rfl, pow5_small hb, .inl ⟨_, rfl, _, rfl, _, _, rfl, rfl, z1, _, _, rfl, rfl, rfl, _, _, _, _, rfl⟩⟩
  · subst hσ; replace e := e.symm; subst e
    exact ⟨_, rfl, hQ f H2 u2 ⟨sd, sw, ws, cs, rest, turn + 1, e2 _ _ d1, e2 _ _ w1, c2, h4, by omega, by omega⟩⟩
theorem ints_dp (H : Hp) : ∀ zs : List Int, DpAll K H (zs.map V.int) (zs.map PyData.int)
  | [] => .nil
  | z :: zs => .cons (.int z) (ints_dp H zs)
theorem ints_lay : ∀ zs : List Int, PyData.canLayAll0 (zs.map PyData.int) = true ∧ PyData.depthAll (zs.map PyData.int) = 0
  | [] => ⟨rfl, rfl⟩
  | z :: zs => by
    obtain ⟨h1, h2⟩ := ints_lay zs
    exact ⟨by simp [PyData.canLayAll0, PyData.canLay0, h1], by simp [PyData.depthAll, PyData.depth, h2]⟩
theorem ints_shaped (zs : List Int) : SeqAt.shaped (.list (zs.map PyData.int)) = true := by
  obtain ⟨h1, h2⟩ := ints_lay zs
  unfold SeqAt.shaped
  simp [PyData.canLay0, h1, PyData.depth, h2]
def sp_l_take : Sp := fun vs H Q _ => ∃ (S : Addr → Prop) (d wd c : Addr) (n : Nat) (size : Int), vs = [.ref d, .int size] ∧ Dm S H ∧ DrawAt S H d wd c n ∧ n ≤ big ∧ 1 ≤ size ∧ size < 1000000 ∧ ∀ (k : Int) (H' : Hp), 0 ≤ k → k < size → Kp S H H' → DrawAt S H' d wd c (n + 1) → Q (.int k) H'
theorem sc_l_take : FnScope ["_law_draw", "_law_size", "_law_found"] ["_law_draw", "_law_size"] (defScope s_l_take) := ⟨rfl, rfl, rfl, by decide +kernel, rfl, by decide +kernel, by decide +kernel⟩
theorem ok_l_take (x : Fx K mg w) : FnR P w K mg base CX0 2 (a_l_take K) sp_l_take := by
  refine okR x.F_l_take sc_l_take (fun _ _ _ _ _ _ us hl => match us, hl with | [_, _], _ => rfl) (fun vs H Q E h => by obtain ⟨S, d, wd, c, n, size, rfl, dm, da, hn, s1, s2, hQ⟩ := h; rfl) (fun cdv A outer s H vs Q E hr h => ?_)
  obtain ⟨S, d, wd, c, n, size, rfl, dm, da, hn, s1, s2, hQ⟩ := h
  refine ⟨_, (pss_cons (ps_if (pt_cmpR op_eq (pe_dget (hu_of hr) (pv 0) pe_str (fun _ _ => rfl)) pe_int (nomark _))
 (pss_one (ps_dput (hu_of hr) (pv 0) pe_str (pe_ifExp (pt_cmpR (show OpR _ _ (rNeD K) from op_neD hr.units) (pe_dget (hu_of hr) (pv 0) pe_str (fun _ _ => rfl)) (pe_lst pa_nil) (nomark _)) (pe_bmK (K := K) rfl PySem.F.plainAttrs_list PySem.F.slot_list_pop PySem.F.type_list_pop mt_popAt (pe_dget (hu_of hr) (pv 0) pe_str (fun _ _ => rfl)) (pa_cons pe_int pa_nil)) (pe_callR (ok_l_mixed x) (hr.mono (by decide)) rfl x.m_l_mixed (keep_of x.F_l_mixed) pass0 (pa_cons (pv 0) pa_nil))) rfl))
 pss_nil)
 (pss_cons (ps_set (i := 2) sc_l_take.nd rfl (Or.inl rfl) (pe_op op_mod (pe_callTy call_int1 rfl x.n_int bb_int (pa_cons (pe_dget (hu_of hr) (pv 0) pe_str (fun _ _ => rfl)) pa_nil)) (pv 1)))
 (pss_cons (ps_dput (hu_of hr) (pv 0) pe_str (pe_op op_fdiv (pe_dget (hu_of hr) (pv 0) pe_str (fun _ _ => rfl)) (pv 1)) rfl)
 (pss_one (ps_ret (pv 2)))))), ?_⟩
  obtain ⟨sd, sw, ws, cs, rest, turn, h1, h2, h3, h4, h5, h6⟩ := id da
  have wne : wd ≠ d := ne_of h2 h1 (by simp)
  refine ⟨_, rfl, d, _, rfl, dget_str h1 draw_get.2.2.1, rfl, _, rfl, ifb (fun hb => ?_) fun hb => ?_⟩
  · refine ⟨_, rfl, d, _, rfl, dget_str h1 draw_get.1, by simp [sizeLine_eq], fun l nl => ?_⟩
    have e1 : Ext H (upd H l (.lst [])) := ext_new nl
    have hl : (upd H l (.lst [])) l = some (.lst []) := upd_same
    generalize upd H l (.lst []) = H1 at e1 hl
    refine ⟨.list (ws.map PyData.int), .list [], .lst (.of (e1 _ _ h2)) (ints_dp H1 ws), .lst (.of hl) .nil, ints_shaped ws, by decide +kernel, _, rfl, ?_⟩
    cases ws with
    | nil =>
      refine ⟨_, rfl, S, d, wd, c, n, rfl, dm.ext e1, da.ext e1, hn, fun i H2 u2 da2 => ?_⟩
      obtain ⟨_, _, ws', cs', rest', turn', g1, g2, g3, g4, g5, g6⟩ := id da2
      refine ⟨_, rfl, d, _, rfl, dput_str g1 (by simp [drawK]), ?_⟩
      rw [put_rest]
      have u3 : Kp S H (upd H2 d (.dK (drawK wd c i turn'))) := (Kp.ext e1).trans (u2.trans (Kp.refl.put sd))
      refine ⟨_, rfl, d, _, rfl, dget_str upd_same draw_get.2.2.1, .inl ⟨_, rfl, _, rfl, _, _, rfl, rfl, by show (0 : Int) < size; omega, ?_⟩⟩
      refine ⟨_, rfl, d, _, rfl, dget_str upd_same draw_get.2.2.1, _, rfl, _, _, rfl, rfl, ⟨by omega, by omega⟩, _, rfl, d, _, rfl, dput_str upd_same (by simp [drawK]), ?_⟩
      rw [put_rest, upd_upd]
      refine ⟨_, rfl, hQ _ _ (Int.emod_nonneg _ (by omega)) (Int.emod_lt_of_pos _ (by omega)) ((Kp.ext e1).trans (u2.trans (Kp.refl.put sd))) ⟨sd, sw, ws', cs', _, turn', upd_same, by rw [upd_ne wne]; exact g2, ⟨by rw [upd_ne (ne_of g3.1 g1 (by simp))]; exact g3.1, g3.2⟩, g4, g5, g6⟩⟩
    | cons z ws =>
      refine ⟨_, rfl, d, _, rfl, dget_str (e1 _ _ h1) draw_get.1, .inl ⟨rfl, _, .of (e1 _ _ h2)⟩, wd, _, 0, 0, _, rfl, rfl, e1 _ _ h2, by decide, by decide, ?_, rfl, ?_⟩
      · simp [seqIndex?]
      refine ⟨_, rfl, d, _, rfl, dput_str (by rw [upd_ne (Ne.symm wne)]; exact e1 _ _ h1) (by simp [drawK]), ?_⟩
      rw [put_rest]
      refine ⟨_, rfl, d, _, rfl, dget_str upd_same draw_get.2.2.1, .inl ⟨_, rfl, _, rfl, _, _, rfl, rfl, by show (0 : Int) < size; omega, ?_⟩⟩
      refine ⟨_, rfl, d, _, rfl, dget_str upd_same draw_get.2.2.1, _, rfl, _, _, rfl, rfl, ⟨by omega, by omega⟩, _, rfl, d, _, rfl, dput_str upd_same (by simp [drawK]), ?_⟩
      rw [put_rest, upd_upd]
      refine ⟨_, rfl, hQ _ _ (Int.emod_nonneg _ (by omega)) (Int.emod_lt_of_pos _ (by omega)) (((Kp.ext e1).put sw).trans (Kp.refl.put sd)) ⟨sd, sw, ws, cs, _, turn, upd_same, by rw [upd_ne wne, upd_same]; rfl, ⟨?_, h3.2⟩, h4, h5, by omega⟩⟩
      rw [upd_ne (ne_of h3.1 h1 (by simp)), upd_ne (fun q : c = wd => h3.2 (by rw [q]; exact sw))]
      exact e1 _ _ h3.1
  · refine ⟨_, rfl, d, _, rfl, dget_str h1 draw_get.2.2.1, .inl ⟨_, rfl, _, rfl, _, _, rfl, rfl, by show (0 : Int) < size; omega, ?_⟩⟩
    refine ⟨_, rfl, d, _, rfl, dget_str h1 draw_get.2.2.1, _, rfl, _, _, rfl, rfl, ⟨by omega, by omega⟩, _, rfl, d, _, rfl, dput_str h1 (by simp [drawK]), ?_⟩
    rw [put_rest]
    refine ⟨_, rfl, hQ _ _ (Int.emod_nonneg _ (by omega)) (Int.emod_lt_of_pos _ (by omega)) (Kp.refl.put sd) ⟨sd, sw, ws, cs, _, turn, upd_same, by rw [upd_ne wne]; exact h2, ⟨by rw [upd_ne (ne_of h3.1 h1 (by simp))]; exact h3.1, h3.2⟩, h4, h5, by omega⟩⟩
end
end Ws

set_option Elab.async false
set_option linter.all false
set_option maxRecDepth 100000
set_option maxHeartbeats 4000000
namespace Ws
open PySem PySem.Spec PyProof.Rows L2
section
variable {P : Program} {w : World} {K : PySem.W.Frag} {mg : Str → Option Value} {base : Heap}
def sp_l_pick : Sp := fun vs H Q _ => ∃ (S : Addr → Prop) (d wd c : Addr) (n : Nat) (v : V), vs = [.ref d, v] ∧ Dm S H ∧ DrawAt S H d wd c n ∧ n ≤ big ∧
  ((∃ a xs, v = .ref a ∧ At S H a (.lst xs) ∧ xs ≠ [] ∧ xs.length ≤ 1000 ∧ ∀ y ∈ xs, ∀ H', Kp S H H' → DrawAt S H' d wd c (n + 1) → Q y H') ∨
   ∃ z : Str, v = .str z ∧ 1 ≤ z.length ∧ z.length ≤ 1000 ∧ ∀ g ∈ z.cps.toList, ∀ H', Kp S H H' → DrawAt S H' d wd c (n + 1) → Q (.str ⟨#[g]⟩) H')
theorem sc_l_pick : FnScope ["_law_draw", "_law_some"] ["_law_draw", "_law_some"] (defScope s_l_pick) := ⟨rfl, rfl, rfl, by decide +kernel, rfl, by decide +kernel, by decide +kernel⟩
theorem ok_l_pick (x : Fx K mg w) : FnR P w K mg base CX0 3 (a_l_pick K) sp_l_pick := by
  refine okR x.F_l_pick sc_l_pick (fun _ _ _ _ _ _ us hl => match us, hl with | [_, _], _ => rfl) (fun vs H Q E h => by obtain ⟨S, d, wd, c, n, v, rfl, dm, da, hn, hv⟩ := h; rfl) (fun cdv A outer s H vs Q E hr h => ?_)
  obtain ⟨S, d, wd, c, n, v, rfl, dm, da, hn, hv⟩ := h
  refine ⟨_, (pss_one (ps_ret (pe_ix (r := rIx K) ix_seq (pv 1) (pe_callR (ok_l_take x) (hr.mono (by decide)) rfl x.m_l_take (keep_of x.F_l_take) pass0 (pa_cons (pv 0) (pa_cons (pe_callB (r := rLenK K) call_lenK rfl x.n_len bb_len (pa_cons (pv 1) pa_nil)) pa_nil))) (fun _ _ => rfl)))), ?_⟩
  rcases hv with ⟨a, xs, rfl, ha, h0, hl, hQ⟩ | ⟨z, rfl, l1, l2, hQ⟩
  · have hp : 0 < xs.length := List.length_pos_iff.mpr h0
    refine ⟨_, rfl, _, rfl, _, rfl, _, _, rfl, .inl ⟨_, .of ha.1, rfl⟩, S, d, wd, c, n, _, rfl, dm, da, hn, by omega, by omega, fun k H' k0 k1 u da' => ?_⟩
    obtain ⟨j, rfl⟩ := Int.eq_ofNat_of_zero_le k0
    have hj : j < xs.length := by omega
    exact .inl ⟨a, xs, (j : Int), xs[j], rfl, rfl, .of (ha.kp u).1, atI_nat (List.getElem?_eq_getElem hj), hQ _ (List.getElem_mem hj) H' u da'⟩
  · refine ⟨_, rfl, _, rfl, _, rfl, _, _, rfl, ⟨sz l2, rfl⟩, S, d, wd, c, n, _, rfl, dm, da, hn, by omega, by omega, fun k H' k0 k1 u da' => ?_⟩
    obtain ⟨j, rfl⟩ := Int.eq_ofNat_of_zero_le k0
    have hj : j < z.cps.toList.length := by
      have : z.cps.toList.length = z.length := Array.length_toList
      omega
    exact .inr (.inr ⟨z, (j : Int), z.cps.toList[j], rfl, rfl, sz l2, atI_nat (List.getElem?_eq_getElem hj), hQ _ (List.getElem_mem hj) H' u da'⟩)
/-- the draws' own two -/
def two (a b : Addr) : Addr → Prop := fun x => x = a ∨ x = b
def sp_l_begun (K : PySem.W.Frag) : Sp := fun vs H Q _ => ∃ (a : Addr) (ns : List Int), vs = [.ref a] ∧ SqL K H a (ns.map V.int) ∧ ns.length ≤ 63 ∧ ∀ d wd c H', Ext H H' → H d = none → H wd = none → DrawAt (two d wd) H' d wd c 0 → Q (.ref d) H'
def absI (i : Int) : Int := if i < 0 then -i else i
def wideI (i : Int) : Option Int := if (1000000000000000000 : Int) ≤ absI i then some (absI i - 1000000000000000000) else none
def asInt (g : Int → Option Int) : V → Option V := fun v => match v with
  | .int i => (g i).map V.int
  | _ => none
theorem asInt_all (g : Int → Option Int) (ns : List Int) : (ns.map V.int).filterMap (asInt g) = (ns.filterMap g).map V.int := by
  rw [List.filterMap_map, List.map_filterMap]
  rfl
theorem sc_l_begun : FnScope ["_law_script", "_law_wide", "_law_cell"] ["_law_script"] (defScope s_l_begun) := ⟨rfl, rfl, rfl, by decide +kernel, rfl, by decide +kernel, by decide +kernel⟩
theorem ok_l_begun (x : Fx K mg w) : FnR P w K mg base CX0 1 (a_l_begun K) (sp_l_begun K) := by
  refine okR x.F_l_begun sc_l_begun (fun _ _ _ _ _ _ us hl => match us, hl with | [_], _ => rfl) (fun vs H Q E h => by obtain ⟨a, ns, rfl, hs, hl, hQ⟩ := h; rfl) (fun cdv A outer s H vs Q E hr h => ?_)
  obtain ⟨a, ns, rfl, hs, hl, hQ⟩ := h
  refine ⟨_, (pss_cons (ps_setLc (i := 1) (own := [("_law_cell", 2)]) rfl sc_l_begun.nd rfl rfl (sw_true rfl rfl rfl (by decide +kernel)) (pi_listK (K := K) rfl (pv 0)) (blkOk_by (N := ["_law_script", "_law_wide", "_law_cell"]) (sc := defScope s_l_begun) (by decide +kernel)) (fun _ _ _ _ _ => (pg_name (i := 2) sc_l_begun.nd rfl (Or.inl rfl))) (fun _ _ _ _ _ => (pts_one (pt_cmpR op_ge (pe_callB call_abs rfl x.n_abs bb_abs (pa_cons (pv 2) pa_nil)) (pe_op op_pow pe_int pe_int) (nomark _)))) (fun _ _ _ _ _ => (pe_op op_sub (pe_callB call_abs rfl x.n_abs bb_abs (pa_cons (pv 2) pa_nil)) (pe_op op_pow pe_int pe_int))))
 (pss_one (ps_ret (pe_disp (pps_cons pe_str (pv 1) (pps_cons pe_str (pe_lc (own := [("_law_cell", 2)]) (tt := tYes) rfl sc_l_begun.nd (pi_listK (K := K) rfl (pv 0)) (blkOk_by (N := ["_law_script", "_law_wide", "_law_cell"]) (sc := defScope s_l_begun) (by decide +kernel)) (fun _ _ _ _ _ => (pg_name (i := 2) sc_l_begun.nd rfl (Or.inl rfl))) (fun _ _ _ _ _ => pts_nil) (fun _ _ _ _ _ => (pe_op op_mod (pe_callTy call_int1 rfl x.n_int bb_int (pa_cons (pe_callB call_abs rfl x.n_abs bb_abs (pa_cons (pv 2) pa_nil)) pa_nil)) pe_int))) (pps_cons pe_str pe_int (pps_cons pe_str pe_int pps_nil)))) rfl rfl (by simp) (by decide))))), ?_⟩
  refine ⟨_, rfl, a, rfl, ⟨_, hs⟩, fun W hW => lc_map (std_list hs (fun z => z)) hW (asInt wideI) (by simp; omega) (fun y H' Nx hy e g1 g2 => ?_) (fun H1 e1 hW1 => ?_)⟩
  · obtain ⟨i, hi, rfl⟩ := List.mem_map.mp hy
    refine ⟨rfl, _, rfl, i, rfl, _, _, rfl, rfl, ⟨by decide, by decide, by decide⟩, _, _, rfl, rfl, _, rfl, ifb (fun hb => ?_) fun hb => ?_⟩
    · have hb : (1000000000000000000 : Int) ≤ absI i := of_decide_eq_true hb
      refine ⟨_, rfl, i, rfl, _, _, rfl, rfl, ⟨by decide, by decide, by decide⟩, _, _, rfl, rfl, g1 _ _ Ext.rfl' ?_⟩
      show (wideI i).map V.int = _
      rw [wideI, if_pos hb]
      rfl
    · have hb : ¬ (1000000000000000000 : Int) ≤ absI i := of_decide_eq_false hb
      refine g2 _ Ext.rfl' ?_
      show (wideI i).map V.int = none
      rw [wideI, if_neg hb]
      rfl
  rw [asInt_all] at hW1
  refine fun d hd => ?_
  have e2 : Ext H1 (upd H1 d (.dK [])) := ext_new hd
  have d2 : (upd H1 d (.dK [])) d = some (.dK []) := upd_same
  have nd : W ≠ d := ne_of_none hW1 hd
  generalize upd H1 d (.dK []) = H2 at e2 d2
  have e12 := e1.trans e2
  refine ⟨_, rfl, _, rfl, a, rfl, ⟨_, sqL_ext hs e12⟩, fun C hC => lc_map (std_list (sqL_ext hs e12) (fun z => z)) hC (asInt fun i => some (absI i % 2147483629)) (by simp; omega) (fun y H' Nx hy e g1 g2 => ?_) (fun H3 e3 hC3 => ?_)⟩
  · obtain ⟨i, hi, rfl⟩ := List.mem_map.mp hy
    exact ⟨rfl, _, rfl, i, rfl, .inl ⟨_, rfl, _, _, rfl, rfl, by show (0 : Int) < 2147483629; decide, g1 _ _ Ext.rfl' rfl⟩⟩
  rw [asInt_all] at hC3
  have hdn : H d = none := by
    cases q : H d with
    | none => rfl
    | some u => rw [e1 _ _ q] at hd; cases hd
  have cn : C ≠ d := fun z => by rw [z, d2] at hC; cases hC
  have cw : C ≠ W := fun z => by rw [z, e2 _ _ hW1] at hC; cases hC
  refine ⟨e3 _ _ d2, drawK W C 0 0, rfl, by simp [drawK], ?_⟩
  refine hQ d W C _ (fun c u h => ?_) hdn hW ⟨.inl rfl, .inr rfl, _, _, 0, 0, by rw [upd_same]; rfl, by rw [upd_ne nd]; exact e3 _ _ (e2 _ _ hW1), ⟨by rw [upd_ne cn]; exact hC3, fun z => z.elim cn cw⟩, ?_, by decide, by decide⟩
  · rw [upd_ne (ne_of_none h hdn)]
    exact (e12.trans e3) _ _ h
  · have := List.length_filterMap_le (fun i => some (absI i % 2147483629)) ns
    omega
end
end Ws

set_option Elab.async false
set_option linter.all false
set_option maxRecDepth 100000
set_option maxHeartbeats 4000000
namespace Ws
open PySem PySem.Spec PyProof.Rows L2
/-! ### signs and words -/
theorem isName_iff {z : Str} : isName z = true ↔ 1 ≤ z.cps.toList.length ∧ z.cps.toList.length ≤ 6 ∧ ∀ c ∈ z.cps.toList, c ∈ letters.cps.toList := by
  have e : z.length = z.cps.toList.length := by rw [Array.length_toList]; rfl
  unfold isName
  rw [e]
  simp only [Bool.and_eq_true, decide_eq_true_eq, List.all_eq_true]
theorem joinL_nil : ∀ ps : List (List Nat), TL.joinL [] ps = ps.flatten
  | [] => rfl
  | [p] => by simp [TL.joinL]
  | p :: q :: r => by
    have := joinL_nil (q :: r)
    simp only [TL.joinL, List.nil_append, this, List.flatten_cons]
theorem join_one (cs : List Nat) : (Txt.join "" (cs.map fun c => (⟨#[c]⟩ : Str))).cps.toList = cs := by
  rw [TL.join_eq]
  have h := TL.tl_join "" (cs.map fun c => (⟨#[c]⟩ : Str))
  have h2 : TL.joinL (TL.tl "") ((cs.map fun c => (⟨#[c]⟩ : Str)).map TL.tl) = cs := by
    rw [show TL.tl "" = [] from rfl, joinL_nil, List.map_map]
    induction cs with
    | nil => rfl
    | cons c cs ih =>
      rw [List.map_cons, List.flatten_cons]
      have := ih (TL.tl_join _ _)
      rw [this]
      rfl
  exact h.trans h2
theorem cut5 (z : Str) : (cutS z none (some 5)).cps.toList = z.cps.toList.take 5 := by
  unfold cutS
  rw [HT.sIx_none, show (some (5 : Int)) = some ((5 : Nat) : Int) from rfl, HT.sIx_nat]
  simp only [List.drop_zero, Nat.sub_zero]
  have e : z.length = z.cps.toList.length := by rw [Array.length_toList]; rfl
  rw [e, List.take_eq_take_iff]
  omega
theorem app_cps (a b : Str) : (a ++ b).cps.toList = a.cps.toList ++ b.cps.toList := by
  show (a.cps ++ b.cps).toList = _
  simp
/-- a word near to z -/
def near (z : Str) (c : Nat) : Str := cutS z none (some 5) ++ ⟨#[c]⟩
theorem near_cps (z : Str) (c : Nat) : (near z c).cps.toList = z.cps.toList.take 5 ++ [c] := by
  unfold near
  rw [app_cps, cut5]
theorem near_name {z : Str} {c : Nat} (h : isName z = true) (hc : c ∈ letters.cps.toList) : isName (near z c) = true := by
  rw [isName_iff] at h ⊢
  rw [near_cps]
  refine ⟨by simp, by simp; omega, fun x hx => ?_⟩
  rcases List.mem_append.mp hx with hx | hx
  · exact h.2.2 x (List.mem_of_mem_take hx)
  · rw [List.mem_singleton.mp hx]; exact hc
theorem letters_nodup : letters.cps.toList.Nodup := by decide +kernel
theorem letters_len : letters.cps.toList.length = 26 := by decide +kernel
theorem letters_size : letters.cps.size = 26 := by decide +kernel
/-- not all near words are taken -/
theorem near_free (z : Str) (zs : List Str) (h : zs.length < 26) : ∃ c ∈ letters.cps.toList, near z c ∉ zs := by
  refine Classical.byContradiction fun no => ?_
  have all : ∀ a ∈ letters.cps.toList.map (near z), a ∈ zs := fun a ha => by
    obtain ⟨c, hc, rfl⟩ := List.mem_map.mp ha
    exact Classical.byContradiction fun n => no ⟨c, hc, n⟩
  have nd : (letters.cps.toList.map (near z)).Nodup := List.Pairwise.map _ (fun a b n e => n (by
    have := congrArg (fun s : Str => s.cps.toList) e
    simp only [near_cps] at this
    simpa using this)) letters_nodup
  have := len_sub nd all
  rw [List.length_map, letters_len] at this
  omega
def words10 : List Str := ["a", "b", "ab", "aa", "house", "handed", "rule", "zzzzzz", "fails", "calls"]
theorem words10_ok : ∀ z ∈ words10, isName z = true := by decide +kernel
/-- the words but those of zs -/
def notIn (zs : List Str) : V → Option V := fun v => match v with
  | .str z => if z ∈ zs then none else some (.str z)
  | _ => none
theorem notIn_all (zs : List Str) : ∀ ys : List Str, (ys.map V.str).filterMap (notIn zs) = (ys.filter fun z => decide (z ∉ zs)).map V.str
  | [] => rfl
  | y :: ys => by
    rw [List.map_cons, List.filterMap_cons, notIn_all zs ys, List.filter_cons]
    by_cases h : y ∈ zs
    · simp [notIn, h]
    · simp [notIn, h]
section
variable {P : Program} {w : World} {K : PySem.W.Frag} {mg : Str → Option Value} {base : Heap}
/-- behind an if that has no else both ways go on alike -/
theorem seq_if {c : TT} {t u : TS} {D : Ends} {σ : L2.St} {H : Hp} (I : L2.St → Hp → Prop) (tail : ∀ σ' H', I σ' H' → u D σ' H')
    (h : (∀ σ' H', I σ' H' → u D σ' H') → c σ H fun b H1 => if b = true then t { D with nx := u D } σ H1 else u D σ H1) : tSeq (tIfS c t tNext) u D σ H := h tail
def sp_l_names : Sp := fun vs H Q _ => ∃ (S : Addr → Prop) (d wd c : Addr) (n many : Nat), vs = [.ref d, .int (many : Nat)] ∧ Dm S H ∧ DrawAt S H d wd c n ∧ n + 100 ≤ big ∧ many ≤ 8 ∧
  ∀ (l : Addr) (zs : List Str) (H' : Hp), Kp S H H' → DrawAt S H' d wd c (n + 6 * many) → At S H' l (.lst (zs.map V.str)) → H l = none → zs.Nodup → (∀ z ∈ zs, isName z = true) → zs.length = many → Q (.ref l) H'
theorem sc_l_names : FnScope ["_law_draw", "_law_many", "_law_letters", "_law_found", "_law_some", "_law_k", "_law_word", "_law_near", "_law_spot", "_law_letter", "_law_one"] ["_law_draw", "_law_many"] (defScope s_l_names) := ⟨rfl, rfl, rfl, by decide +kernel, rfl, by decide +kernel, by decide +kernel⟩
theorem ok_l_names (x : Fx K mg w) : FnR P w K mg base CX0 4 (a_l_names K) sp_l_names := by
  refine okR x.F_l_names sc_l_names (fun _ _ _ _ _ _ us hl => match us, hl with | [_, _], _ => rfl) (fun vs H Q E h => by obtain ⟨S, d, wd, c, n, many, rfl, dm, da, hn, hm, hQ⟩ := h; rfl) (fun cdv A outer s H vs Q E hr h => ?_)
  obtain ⟨S, d, wd, c, n, many, rfl, dm, da, hn, hm, hQ⟩ := h
  refine ⟨_, (pss_cons (ps_asg (pe_tup (pa_cons pe_str (pa_cons (pe_lst pa_nil) pa_nil))) (pg_tupK (K := K) (n := 2) rfl rfl (pgs_cons (pg_name (i := 2) sc_l_names.nd rfl (Or.inr rfl)) (pgs_cons (pg_name (i := 3) sc_l_names.nd rfl (Or.inr rfl)) pgs_nil))))
 (pss_cons (ps_set (i := 4) sc_l_names.nd rfl (Or.inl rfl) (pe_lst (pa_cons pe_str (pa_cons pe_str (pa_cons pe_str (pa_cons pe_str (pa_cons pe_str (pa_cons pe_str (pa_cons pe_str (pa_cons pe_str (pa_cons pe_str (pa_cons pe_str pa_nil))))))))))))
 (pss_cons (ps_for PassesOwn.never rfl (pi_range1 rfl x.n_range (pa_cons (pv 1) pa_nil)) (pg_name (i := 5) sc_l_names.nd rfl (Or.inl rfl))
 (pss_cons (ps_set (i := 6) sc_l_names.nd rfl (Or.inr rfl) (pe_callR (ok_l_pick x) (hr.mono (by decide)) rfl x.m_l_pick (keep_of x.F_l_pick) pass0 (pa_cons (pv 0) (pa_cons (pv 4) pa_nil))))
 (pss_cons (ps_if (pt_cmpR op_eq (pe_callR (ok_l_take x) (hr.mono (by decide)) rfl x.m_l_take (keep_of x.F_l_take) pass0 (pa_cons (pv 0) (pa_cons pe_int pa_nil))) pe_int (nomark _))
 (pss_one (ps_set (i := 6) sc_l_names.nd rfl (Or.inr rfl) (pe_joinK (K := K) rfl pe_str (pe_lc (own := [("_law_spot", 8)]) (tt := tYes) rfl sc_l_names.nd (pi_range1 rfl x.n_range (pa_cons (pe_op op_add pe_int (pe_callR (ok_l_take x) (hr.mono (by decide)) rfl x.m_l_take (keep_of x.F_l_take) pass0 (pa_cons (pv 0) (pa_cons pe_int pa_nil)))) pa_nil)) (blkOk_by (N := ["_law_draw", "_law_many", "_law_letters", "_law_found", "_law_some", "_law_k", "_law_word", "_law_near", "_law_spot", "_law_letter", "_law_one"]) (sc := defScope s_l_names) (by decide +kernel)) (fun _ _ _ _ _ => (pg_name (i := 8) sc_l_names.nd rfl (Or.inl rfl))) (fun _ _ _ _ _ => pts_nil) (fun _ _ _ _ _ => (pe_callR (ok_l_pick x) (hr.mono (by decide)) rfl x.m_l_pick (keep_of x.F_l_pick) pass0 (pa_cons (pv 0) (pa_cons (pv 2) pa_nil))))))))
 pss_nil)
 (pss_cons (ps_set (i := 7) sc_l_names.nd rfl (Or.inl rfl) (pe_op op_cat (pe_lst (pa_cons (pv 6) pa_nil)) (pe_lc (own := [("_law_letter", 9)]) (tt := tYes) rfl sc_l_names.nd (pi_str (pv 2)) (blkOk_by (N := ["_law_draw", "_law_many", "_law_letters", "_law_found", "_law_some", "_law_k", "_law_word", "_law_near", "_law_spot", "_law_letter", "_law_one"]) (sc := defScope s_l_names) (by decide +kernel)) (fun _ _ _ _ _ => (pg_name (i := 9) sc_l_names.nd rfl (Or.inl rfl))) (fun _ _ _ _ _ => pts_nil) (fun _ _ _ _ _ => (pe_op op_add_str (pe_slice sl_str (pv 6) po_none (po_some pe_int)) (pv 9))))))
 (pss_one (ps_expr (pe_bmK (K := K) rfl PySem.F.plainAttrs_list PySem.F.slot_list_append PySem.F.type_list_append mt_append (pv 3) (pa_cons (pe_ix (r := rIxL K) ix_list (pe_lc (own := [("_law_one", 10)]) rfl sc_l_names.nd (pi_listK (K := K) rfl (pv 7)) (blkOk_by (N := ["_law_draw", "_law_many", "_law_letters", "_law_found", "_law_some", "_law_k", "_law_word", "_law_near", "_law_spot", "_law_letter", "_law_one"]) (sc := defScope s_l_names) (by decide +kernel)) (fun _ _ _ _ _ => (pg_name (i := 10) sc_l_names.nd rfl (Or.inl rfl))) (fun _ _ _ _ _ => (pts_one (pt_cmpR (show OpR _ _ (rIn K true) from op_notIn_seq) (pv 10) (pv 3) rfl))) (fun _ _ _ _ _ => (pv 10))) pe_int (fun _ _ => rfl)) pa_nil))))))))
 (pss_one (ps_ret (pv 3)))))), ?_⟩
  have hb : n + 100 ≤ 1099511627776 := hn
  refine ⟨by simp [sizeLine_eq], fun f nf => ⟨by simp [sizeLine_eq], fun tp ntp => ?_⟩⟩
  have e1 : Ext H (upd H f (.lst [])) := ext_new nf
  have hf1 : (upd H f (.lst [])) f = some (.lst []) := upd_same
  generalize upd H f (.lst []) = H1 at e1 hf1 ntp
  have e2 : Ext H1 (upd H1 tp (.tup [.str "abcdefghijklmnopqrstuvwxyz", .ref f])) := ext_new ntp
  have ht2 : (upd H1 tp (.tup [.str "abcdefghijklmnopqrstuvwxyz", .ref f])) tp = some (.tup [.str "abcdefghijklmnopqrstuvwxyz", .ref f]) := upd_same
  generalize upd H1 tp (.tup [.str "abcdefghijklmnopqrstuvwxyz", .ref f]) = H2 at e2 ht2
  refine ⟨tp, _, rfl, .of ht2, rfl, _, _, rfl, _, _, rfl, rfl, ?_⟩
  refine ⟨by simp [sizeLine_eq], fun sm nsm => ?_⟩
  have e3 : Ext H2 (upd H2 sm (.lst (words10.map V.str))) := ext_new nsm
  have hs3 : (upd H2 sm (.lst (words10.map V.str))) sm = some (.lst (words10.map V.str)) := upd_same
  change tSeq _ _ _ _ (upd H2 sm (.lst (words10.map V.str)))
  generalize upd H2 sm (.lst (words10.map V.str)) = H3 at e3 hs3
  have e13 := (e1.trans e2).trans e3
  have hf3 := (e2.trans e3) _ _ hf1
  have fs : sm ≠ f := fun z => by rw [z, (e2 _ _ hf1)] at nsm; cases nsm
  have nsS : ¬ S sm := fun z => dm.ext (e1.trans e2) sm z nsm
  have nfS : ¬ S f := fun z => dm f z nf
  obtain ⟨fd, fw, fc⟩ := da.ne nf
  refine ⟨_, rfl, (many : Int), rfl, by omega, by omega, for_std (std_range (S := more S f)) (fun i σ H' => Kp (more S f) H3 H' ∧ DrawAt S H' d wd c (n + 6 * i) ∧ At S H' sm (.lst (words10.map V.str)) ∧ ∃ zs, H' f = some (.lst (zs.map V.str)) ∧ zs.Nodup ∧ (∀ z ∈ zs, isName z = true) ∧ zs.length = i ∧
    ∃ k wo ne, σ = [some (.ref d), some (.int many), some (.str letters), some (.ref f), some (.ref sm), k, wo, ne, none, none, none]) ⟨Kp.refl, da.ext e13, ⟨hs3, nsS⟩, [], hf3, .nil, fun z h => by simp at h, rfl, none, none, none, rfl⟩ (fun i σ H' h => h.1) (fun i y σ H4 hy ⟨u, da4, as4, zs, hf4, nd, nm, hl, k, wo, ne, hσ⟩ => ?_) (fun σ H4 ⟨u, da4, as4, zs, hf4, nd, nm, hl, k, wo, ne, hσ⟩ => ?_)⟩
  · subst hσ
    have hi : i < many := by
      have := (List.getElem?_eq_some_iff.mp hy).1
      simpa using this
    have hr : Kp (more S f) H H4 := (Kp.ext e13).trans u
    have dm4 : Dm S H4 := dm.kp hr
    refine ⟨_, rfl, _, rfl, S, d, wd, c, _, _, rfl, dm4, da4, by show n + 6 * i ≤ 1099511627776; omega, .inl ⟨sm, _, rfl, as4, by decide +kernel, by decide +kernel, fun y hy H5 u5 da5 => ?_⟩⟩
    obtain ⟨wd0, hw0, rfl⟩ := List.mem_map.mp hy
    have nw0 := words10_ok wd0 hw0
    have dm5 := dm4.kp u5
    dsimp only [gName]
    refine seq_if (fun σ' H' => ∃ z kk, isName z = true ∧ Kp S H4 H' ∧ DrawAt S H' d wd c (n + 6 * i + 6) ∧ σ' = [some (.ref d), some (.int many), some (.str letters), some (.ref f), some (.ref sm), kk, some (.str z), ne, none, none, none]) ?_ fun tail => ?_
    · rintro σ' H6 ⟨z, kk, nz, u6, da6, rfl⟩
      have hf6 := u6.keep _ _ hf4 nfS
      have as6 := as4.kp u6
      have lz : z.length ≤ 6 := isName_len nz
      refine ⟨_, rfl, by simp [sizeLine_eq], fun l1 nl1 => ?_⟩
      have e7 : Ext H6 (upd H6 l1 (.lst [.str z])) := ext_new nl1
      have h7 : (upd H6 l1 (.lst [.str z])) l1 = some (.lst [.str z]) := upd_same
      generalize upd H6 l1 (.lst [.str z]) = H7 at e7 h7
      refine ⟨_, rfl, letters, rfl, fun D hD => lc_map std_str hD (fun v => match v with | .str y => some (.str (cutS z none (some 5) ++ y)) | _ => none) (by simp [letters_size]) (fun y H8 Nx hy e8 g1 g2 => ?_) (fun H8 e8 hD8 => ?_)⟩
      · obtain ⟨c', hc, rfl⟩ := List.mem_map.mp hy
        refine ⟨rfl, _, rfl, _, rfl, z, rfl, sz (m := 6) lz, _, rfl, _, _, rfl, rfl, ?_, g1 _ _ Ext.rfl' rfl⟩
        have : (cutS z none (some 5)).length ≤ z.length := cutS_length _ _ _
        exact sz (m := 7) (by show (cutS z none (some 5)).length + 1 ≤ 7; omega)
      have row : (letters.cps.toList.map fun c => V.str ⟨#[c]⟩).filterMap (fun v => match v with | .str y => some (V.str (cutS z none (some 5) ++ y)) | _ => none) = (letters.cps.toList.map (near z)).map V.str := by
        rw [List.filterMap_map, List.map_map]
        simp [Function.comp_def, near]
      rw [row] at hD8
      refine ⟨l1, D, _, _, rfl, rfl, e8 _ _ h7, hD8, sz (m := 1000) (by simp [letters_size]), fun l2 nl2 => ?_⟩
      have e9 : Ext H8 (upd H8 l2 (.lst ([.str z] ++ (letters.cps.toList.map (near z)).map V.str))) := ext_new nl2
      have h9 : (upd H8 l2 (.lst ([.str z] ++ (letters.cps.toList.map (near z)).map V.str))) l2 = some (.lst ((z :: letters.cps.toList.map (near z)).map V.str)) := upd_same
      generalize upd H8 l2 (.lst ([.str z] ++ (letters.cps.toList.map (near z)).map V.str)) = H9 at e9 h9
      have e79 := (e7.trans e8).trans e9
      have hf9 := e79 _ _ hf6
      refine ⟨_, rfl, .inl ⟨rfl, _, .of hf9⟩, _, rfl, l2, rfl, ⟨_, .of h9⟩, fun D2 hD2 => lc_map (std_list (.of h9) (fun z => z)) hD2 (notIn zs) (by simp [letters_size]) (fun y H10 Nx hy e10 g1 g2 => ?_) (fun H10 e10 hD10 => ?_)⟩
      · obtain ⟨c', hc, rfl⟩ := List.mem_map.mp hy
        refine ⟨rfl, _, rfl, _, rfl, f, _, rfl, .inl (.of (e10 _ _ hf9)), rfl, flat_strs _, _, rfl, ifb (fun hb => ?_) fun hb => ?_⟩
        · exact ⟨_, rfl, g1 _ _ Ext.rfl' (by
            have : c' ∉ zs := by simpa [inV_str] using hb
            simp [notIn, this])⟩
        · exact g2 _ Ext.rfl' (by
            have : c' ∈ zs := by simpa [inV_str] using hb
            simp [notIn, this])
      rw [notIn_all] at hD10
      obtain ⟨c', hc, hcn⟩ := near_free z zs (by omega)
      obtain ⟨first, rs, hfil⟩ : ∃ first rs, (z :: letters.cps.toList.map (near z)).filter (fun y => decide (y ∉ zs)) = first :: rs := by
        cases q : (z :: letters.cps.toList.map (near z)).filter (fun y => decide (y ∉ zs)) with
        | nil =>
          have : near z c' ∈ (z :: letters.cps.toList.map (near z)).filter (fun y => decide (y ∉ zs)) := List.mem_filter.mpr ⟨List.mem_cons_of_mem _ (List.mem_map.mpr ⟨c', hc, rfl⟩), decide_eq_true hcn⟩
          rw [q] at this
          simp at this
        | cons a b => exact ⟨a, b, rfl⟩
      have hmem : first ∈ (z :: letters.cps.toList.map (near z)).filter (fun y => decide (y ∉ zs)) := by rw [hfil]; exact List.mem_cons_self
      obtain ⟨m1, m2⟩ := List.mem_filter.mp hmem
      have m2 : first ∉ zs := of_decide_eq_true m2
      have nfirst : isName first = true := by
        rcases List.mem_cons.mp m1 with rfl | m1
        · exact nz
        · obtain ⟨c', hc', rfl⟩ := List.mem_map.mp m1
          exact near_name nz hc'
      rw [hfil] at hD10
      have hf10 := e10 _ _ hf9
      have e610 := e79.trans e10
      refine ⟨D2, _, 0, _, rfl, rfl, .of hD10, atI_nat (j := 0) rfl, f, _, _, rfl, rfl, hf10, ?_, ?_⟩
      · have := line1001
        simp
        omega
      have uf : Kp (one f) H10 (upd H10 f (.lst (zs.map V.str ++ [.str first]))) := Kp.refl.put rfl
      have u10 : Kp (more S f) H3 (upd H10 f (.lst (zs.map V.str ++ [.str first]))) := (u.trans ((u6.mono fun a h => .inl h).trans (.ext e610))).trans (uf.mono fun a h => .inr h)
      refine ⟨u10, ((da6.ext e610).kp uf fd fw fc).more (by omega), ⟨by rw [upd_ne fs]; exact e610 _ _ as6.1, nsS⟩, zs ++ [first], by rw [upd_same, strs_snoc], nd_snoc nd m2, fun y hy => ?_, by simp [hl], _, _, _, rfl⟩
      rcases List.mem_append.mp hy with hy | hy
      · exact nm y hy
      · rw [List.mem_singleton.mp hy]; exact nfirst
    · refine ⟨_, rfl, S, d, wd, c, _, 2, rfl, dm5, da5, by show n + 6 * i + 1 ≤ 1099511627776; omega, by decide, by decide, fun k H6 k0 k1 u6 da6 => ⟨rfl, _, rfl, ifb (fun hb => ?_) fun hb => ?_⟩⟩
      · have dm6 := dm5.kp u6
        refine ⟨⟨_, rfl⟩, _, rfl, S, d, wd, c, _, 3, rfl, dm6, da6, by show n + 6 * i + 2 ≤ 1099511627776; omega, by decide, by decide, fun k H7 k0 k1 u7 da7 => ?_⟩
        have dm7 := dm6.kp u7
        obtain ⟨j, rfl⟩ := Int.eq_ofNat_of_zero_le k0
        refine ⟨_, _, rfl, rfl, (1 + j : Int), rfl, by omega, by omega, fun D hD => lc_std (S := S) std_range (fun t H' => Kp S H7 H' ∧ DrawAt S H' d wd c (n + 6 * i + 3 + t) ∧ ∃ cs, H' D = some (.lst ((cs.map fun c => (⟨#[c]⟩ : Str)).map V.str)) ∧ cs.length = t ∧ ∀ c ∈ cs, c ∈ letters.cps.toList) ⟨?_, ?_, [], upd_same, rfl, fun c h => by simp at h⟩ (fun t H h => h.1) (fun t y H8 hy ⟨u8, da8, cs, hD8, lc, hc⟩ => ?_) (fun H8 ⟨u8, da8, cs, hD8, lc, hc⟩ => ?_)⟩
        · exact .new hD
        · exact da7.ext (ext_new hD)
        · have ht : t < 1 + j := by
            have := (List.getElem?_eq_some_iff.mp hy).1
            simp only [List.length_map, List.length_range] at this
            omega
          have nD : ¬ S D := fun z => dm7 D z hD
          refine ⟨rfl, _, rfl, _, rfl, S, d, wd, c, _, _, rfl, dm7.kp u8, da8, by show n + 6 * i + 3 + t ≤ 1099511627776; omega, .inr ⟨letters, rfl, by decide +kernel, by decide +kernel, fun g hg H9 u9 da9 => ?_⟩⟩
          have hD9 := u9.keep _ _ hD8 nD
          obtain ⟨qd, qw, qc⟩ := da7.ne hD
          have uD : Kp (one D) H9 (upd H9 D (.lst ((cs.map fun c => (⟨#[c]⟩ : Str)).map V.str ++ [.str ⟨#[g]⟩]))) := Kp.refl.put rfl
          refine ⟨_, hD9, ?_, ⟨fun a o h ns => ?_, fun a h => ?_⟩, (da9.kp uD qd qw qc).more (by omega), cs ++ [g], by rw [upd_same]; simp, by simp [lc], fun x hx => ?_⟩
          · have := line1001
            simp
            omega
          · have na : a ≠ D := ne_of_none h hD
            rw [upd_ne na]
            exact (u8.trans u9).keep a o h ns
          · exact uD.dom a ((u8.trans u9).dom a h)
          · rcases List.mem_append.mp hx with hx | hx
            · exact hc x hx
            · rw [List.mem_singleton.mp hx]; exact hg
        · have lt : cs.length = 1 + j := by
            rw [lc]
            simp
            omega
          refine ⟨_, D, cs.map fun c => (⟨#[c]⟩ : Str), rfl, rfl, .inl (.of hD8), ?_, ?_⟩
          · have : ∀ l : List Nat, ((l.map fun c => (⟨#[c]⟩ : Str)).map (·.length)).sum = l.length := by
              intro l
              induction l with
              | nil => rfl
              | cons a l ih => simp only [List.map_cons, List.sum_cons, ih, List.length_cons]; show 1 + l.length = _; omega
            rw [this]
            show cs.length + (cs.map _).length * 0 ≤ _
            omega
          · refine tail _ _ ⟨_, _, ?_, (u5.trans u6).trans (u7.trans u8), da8.more (by simp; omega), rfl⟩
            rw [isName_iff, join_one]
            exact ⟨by omega, by omega, hc⟩
      · exact tail _ _ ⟨_, _, nw0, u5.trans u6, da6.more (by omega), rfl⟩
  · subst hσ
    have lm : zs.length = many := by rw [hl]; simp
    have kp : Kp S H H4 := ⟨fun a o h ns => u.keep a o (e13 a o h) fun z => z.elim ns fun z => (by rw [z, nf] at h; cases h), fun a h => u.dom a (ext_dom e13 h)⟩
    refine ⟨_, rfl, hQ f zs H4 kp (da4.more (by simp)) ⟨hf4, nfS⟩ nf nd nm lm⟩
end
end Ws

set_option Elab.async false
set_option linter.all false
set_option maxRecDepth 100000
set_option maxHeartbeats 4000000
namespace Ws
open PySem PySem.Spec PyProof.Rows L2
structure ModelD where
  fine : Int
  houses : Hs
  some_ : List Str
  odds : Int
  entries : List Str
/-- the net's part -/
def ModelD.net (m : ModelD) : NetD := ⟨m.fine, m.houses, m.entries⟩
/-- a word that is not this law's own -/
abbrev Tame (z : Str) : Prop := isName z = true ∧ z ≠ "qqq"
structure ModelD.Fit (m : ModelD) : Prop where
  net : m.net.Fit
  hs : ∀ p ∈ m.houses, p.2.Fit ∧ ∀ r ∈ p.2.rules, r.ok
  so : ∀ z ∈ m.some_, Tame z
  sl : m.some_.length ≤ 4
  o1 : 1 ≤ m.odds
  o2 : m.odds ≤ 1000
section
variable {S : Addr → Prop} {K : PySem.W.Frag} {H H1 : Hp} {a o q m : Addr} {kvs : List (Key × V)} {hs : Hs}
abbrev TupsAt (S : Addr → Prop) (H : Hp) : List Addr → List RuleD → Prop := Paired fun a r => At S H a (.tup r.vs)
def hdK (pr pc pl : Addr) (f : Bool) : List (Key × V) := [(Sum.inr "rules", .ref pr), (Sum.inr "calls", .ref pc), (Sum.inr "lost", .ref pl), (Sum.inr "fails", .bl f)]
/-- a model's house -/
def HdAt (S : Addr → Prop) (H : Hp) (a : Addr) (h : HouseD) : Prop := ∃ pr pc pl os, At S H a (.dK (hdK pr pc pl h.fails)) ∧ At S H pr (.lst (os.map V.ref)) ∧ TupsAt S H os h.rules ∧ At S H pc (.lst (h.calls.map V.str)) ∧ At S H pl (.lst (h.lost.map V.str))
theorem HdAt.kp {h : HouseD} (t : HdAt S H a h) (e : Kp S H H1) : HdAt S H1 a h := by
  obtain ⟨pr, pc, pl, os, h1, h2, h3, h4, h5⟩ := t
  exact ⟨pr, pc, pl, os, h1.kp e, h2.kp e, Paired.mapP h3 fun _ _ z => z.kp e, h4.kp e, h5.kp e⟩
theorem HdAt.ext {h : HouseD} (t : HdAt S H a h) (e : Ext H H1) : HdAt S H1 a h := t.kp (.ext e)
theorem HdAt.grow {h : HouseD} (t : HdAt S H a h) (hq : H q = none) : HdAt (more S q) H a h := by
  obtain ⟨pr, pc, pl, os, h1, h2, h3, h4, h5⟩ := t
  exact ⟨pr, pc, pl, os, h1.grow hq, h2.grow hq, Paired.mapP h3 fun _ _ z => z.grow hq, h4.grow hq, h5.grow hq⟩
def HdsAt (S : Addr → Prop) (H : Hp) : List (Key × V) → Hs → Prop := Paired fun (kv : Key × V) (nh : Str × HouseD) => kv.1 = Sum.inr nh.1 ∧ ∃ a, kv.2 = .ref a ∧ HdAt S H a nh.2
theorem HdsAt.kp (h : HdsAt S H kvs hs) (e : Kp S H H1) : HdsAt S H1 kvs hs := Paired.mapP h fun kv nh ⟨h1, a, h2, h3⟩ => ⟨h1, a, h2, h3.kp e⟩
theorem HdsAt.ext (h : HdsAt S H kvs hs) (e : Ext H H1) : HdsAt S H1 kvs hs := h.kp (.ext e)
theorem HdsAt.grow (h : HdsAt S H kvs hs) (hq : H q = none) : HdsAt (more S q) H kvs hs := Paired.mapP h fun kv nh ⟨h1, a, h2, h3⟩ => ⟨h1, a, h2, h3.grow hq⟩
theorem HdsAt.keys : ∀ {kvs : List (Key × V)} {hs : Hs}, HdsAt S H kvs hs → kvs.map (·.1) = (hs.map (·.1)).map Sum.inr
  | _, _, .nil => rfl
  | _, _, .cons h t => by
    simp only [List.map_cons]
    rw [h.1, HdsAt.keys t]
theorem HdsAt.at_ : ∀ {kvs : List (Key × V)} {hs : Hs}, HdsAt S H kvs hs → ∀ n ∈ hs.map (·.1), ∃ a, valV kvs (Sum.inr n) = some (.ref a) ∧ HdAt S H a (getH hs n)
  | _, _, .nil, n, h => by simp at h
  | kv :: kvs, nh :: hs, .cons ⟨h1, a, h2, h3⟩ t, n, hn => by
    by_cases e : nh.1 = n
    · refine ⟨a, ?_, ?_⟩
      · rw [valV_pos (by rw [h1, e]), h2]
      · unfold getH
        rw [List.find?_cons_of_pos (by simp [e])]
        exact h3
    · simp only [List.map_cons, List.mem_cons] at hn
      obtain ⟨b, i1, i2⟩ := HdsAt.at_ t n (hn.resolve_left fun z => e z.symm)
      refine ⟨b, ?_, ?_⟩
      · rw [valV_neg (by rw [h1]; intro z; injection z with z; exact e z)]
        exact i1
      · unfold getH
        rw [List.find?_cons_of_neg (by simp [e])]
        exact i2
def modK (f : Int) (ph ps : Addr) (od : Int) (pe : Addr) : List (Key × V) := [(Sum.inr "fine", .int f), (Sum.inr "houses", .ref ph), (Sum.inr "some", .ref ps), (Sum.inr "odds", .int od), (Sum.inr "entries", .ref pe)]
def ModelAt (S : Addr → Prop) (H : Hp) (m : Addr) (md : ModelD) : Prop := ∃ ph ps pe kvs, At S H m (.dK (modK md.fine ph ps md.odds pe)) ∧ At S H ph (.dK kvs) ∧ HdsAt S H kvs md.houses ∧ At S H ps (.lst (md.some_.map V.str)) ∧ At S H pe (.lst (md.entries.map V.str))
theorem ModelAt.kp {md : ModelD} (t : ModelAt S H m md) (e : Kp S H H1) : ModelAt S H1 m md := by
  obtain ⟨ph, ps, pe, kvs, h1, h2, h3, h4, h5⟩ := t
  exact ⟨ph, ps, pe, kvs, h1.kp e, h2.kp e, h3.kp e, h4.kp e, h5.kp e⟩
theorem ModelAt.ext {md : ModelD} (t : ModelAt S H m md) (e : Ext H H1) : ModelAt S H1 m md := t.kp (.ext e)
theorem ModelAt.grow {md : ModelD} (t : ModelAt S H m md) (hq : H q = none) : ModelAt (more S q) H m md := by
  obtain ⟨ph, ps, pe, kvs, h1, h2, h3, h4, h5⟩ := t
  exact ⟨ph, ps, pe, kvs, h1.grow hq, h2.grow hq, h3.grow hq, h4.grow hq, h5.grow hq⟩
end
section
variable {P : Program} {w : World} {K : PySem.W.Frag} {mg : Str → Option Value} {base : Heap}
/-- what of a model (perhaps not whole yet) a rule is drawn from -/
structure Src (S : Addr → Prop) (H : Hp) (m : Addr) (kvs : List (Key × V)) (fine odds : Int) (ps : Addr) (so : List Str) : Prop where
  at_ : At S H m (.dK kvs)
  kf : valV kvs (Sum.inr "fine") = some (.int fine)
  ks : valV kvs (Sum.inr "some") = some (.ref ps)
  ko : valV kvs (Sum.inr "odds") = some (.int odds)
  as_ : At S H ps (.lst (so.map V.str))
  nm : ∀ z ∈ so, Tame z
  sl : so.length ≤ 4
  f1 : 1 ≤ fine
  f2 : fine ≤ 1000
  o1 : 1 ≤ odds
  o2 : odds ≤ 1000
theorem Src.kp {S : Addr → Prop} {H H1 : Hp} {m ps : Addr} {kvs : List (Key × V)} {fine odds : Int} {so : List Str} (h : Src S H m kvs fine odds ps so) (e : Kp S H H1) : Src S H1 m kvs fine odds ps so :=
  ⟨h.at_.kp e, h.kf, h.ks, h.ko, h.as_.kp e, h.nm, h.sl, h.f1, h.f2, h.o1, h.o2⟩
def sp_l_rule : Sp := fun vs H Q _ => ∃ (S : Addr → Prop) (d wd c m sa ps : Addr) (n : Nat) (kvs : List (Key × V)) (fine odds : Int) (so : List Str) (sh : List Int), vs = [.ref d, .ref m, .ref sa] ∧ Dm S H ∧ DrawAt S H d wd c n ∧ n + 10 ≤ big ∧
  Src S H m kvs fine odds ps so ∧ At S H sa (.lst (sh.map V.int)) ∧ sh.length ≤ 10 ∧ (∀ s ∈ sh, 0 ≤ s ∧ s ≤ fine) ∧
  ∀ p r H', Kp S H H' → DrawAt S H' d wd c (n + 5) → At S H' p (.tup (RuleD.vs r)) → r.ok → r.share ≤ fine → r.mark ≠ "qqq" → Q (.ref p) H'
theorem sc_l_rule : FnScope ["_law_draw", "_law_model_here", "_law_shares", "_law_share", "_law_tag"] ["_law_draw", "_law_model_here", "_law_shares"] (defScope s_l_rule) := ⟨rfl, rfl, rfl, by decide +kernel, rfl, by decide +kernel, by decide +kernel⟩
theorem ok_l_rule (x : Fx K mg w) : FnR P w K mg base CX0 4 (a_l_rule K) sp_l_rule := by
  refine okR x.F_l_rule sc_l_rule (fun _ _ _ _ _ _ us hl => match us, hl with | [_, _, _], _ => rfl) (fun vs H Q E h => by obtain ⟨S, d, wd, c, m, sa, ps, n, kvs, fine, odds, so, sh, rfl, dm, da, hn, src, hsa, hsl, hsh, hQ⟩ := h; rfl) (fun cdv A outer s H vs Q E hr h => ?_)
  obtain ⟨S, d, wd, c, m, sa, ps, n, kvs, fine, odds, so, sh, rfl, dm, da, hn, src, hsa, hsl, hsh, hQ⟩ := h
  refine ⟨_, (pss_cons (ps_set (i := 3) sc_l_rule.nd rfl (Or.inl rfl) (pe_callR (ok_l_pick x) (hr.mono (by decide)) rfl x.m_l_pick (keep_of x.F_l_pick) pass0 (pa_cons (pv 0) (pa_cons (pe_op op_cat (pe_op op_cat (pv 2) (pv 2)) (pe_lst (pa_cons pe_int (pa_cons (pe_dget (hu_of hr) (pv 1) pe_str (fun _ _ => rfl)) (pa_cons (pe_callR (ok_l_take x) (hr.mono (by decide)) rfl x.m_l_take (keep_of x.F_l_take) pass0 (pa_cons (pv 0) (pa_cons (pe_op op_add (pe_dget (hu_of hr) (pv 1) pe_str (fun _ _ => rfl)) pe_int) pa_nil))) pa_nil))))) pa_nil))))
 (pss_cons (ps_set (i := 4) sc_l_rule.nd rfl (Or.inl rfl) (pe_callR (ok_l_pick x) (hr.mono (by decide)) rfl x.m_l_pick (keep_of x.F_l_pick) pass0 (pa_cons (pv 0) (pa_cons (pe_op op_cat (pe_lst (pa_cons pe_str (pa_cons pe_str (pa_cons pe_str pa_nil)))) (pe_dget (hu_of hr) (pv 1) pe_str (fun _ _ => rfl))) pa_nil))))
 (pss_one (ps_ret (pe_tup (pa_cons (pv 3) (pa_cons (pv 4) (pa_cons (pe_cmpR op_eq (pe_callR (ok_l_take x) (hr.mono (by decide)) rfl x.m_l_take (keep_of x.F_l_take) pass0 (pa_cons (pv 0) (pa_cons (pe_dget (hu_of hr) (pv 1) pe_str (fun _ _ => rfl)) pa_nil))) pe_int (nomark _)) (pa_cons (pe_cmpR op_eq (pe_callR (ok_l_take x) (hr.mono (by decide)) rfl x.m_l_take (keep_of x.F_l_take) pass0 (pa_cons (pv 0) (pa_cons (pe_dget (hu_of hr) (pv 1) pe_str (fun _ _ => rfl)) pa_nil))) pe_int (nomark _)) pa_nil))))))))), ?_⟩
  have hb : n + 10 ≤ 1099511627776 := hn
  have f1 := src.f1
  have f2 := src.f2
  have o1 := src.o1
  have o2 := src.o2
  refine ⟨_, rfl, _, rfl, _, rfl, sa, sa, _, _, rfl, rfl, hsa.1, hsa.1, sz (m := 1000) (by simp; omega), fun l1 nl1 => ?_⟩
  have e1 : Ext H (upd H l1 (.lst (sh.map V.int ++ sh.map V.int))) := ext_new nl1
  have h1 : (upd H l1 (.lst (sh.map V.int ++ sh.map V.int))) l1 = some (.lst ((sh ++ sh).map V.int)) := by rw [upd_same, List.map_append]
  have a1 : At S (upd H l1 (.lst (sh.map V.int ++ sh.map V.int))) l1 (.lst ((sh ++ sh).map V.int)) := ⟨h1, fun z => dm l1 z nl1⟩
  generalize upd H l1 (.lst (sh.map V.int ++ sh.map V.int)) = H1 at e1 h1 a1
  have s1 := src.kp (.ext e1)
  have dm1 := dm.ext e1
  refine ⟨_, rfl, m, _, rfl, dget_str s1.at_.1 src.kf, _, rfl, _, rfl, m, _, rfl, dget_str s1.at_.1 src.kf, _, _, rfl, rfl, S, d, wd, c, n, fine + 1, rfl, dm1, da.ext e1, by show n ≤ 1099511627776; omega, by omega, by omega, fun k H2 k0 k1 u2 da2 => ?_⟩
  have dm2 := dm1.kp u2
  refine ⟨by simp [sizeLine_eq], fun l2 nl2 => ?_⟩
  have a2 := a1.kp u2
  have e3 : Ext H2 (upd H2 l2 (.lst [.int 0, .int fine, .int k])) := ext_new nl2
  have h3 : (upd H2 l2 (.lst [.int 0, .int fine, .int k])) l2 = some (.lst ([0, fine, k].map V.int)) := upd_same
  generalize upd H2 l2 (.lst [.int 0, .int fine, .int k]) = H3 at e3 h3
  have a3 := a2.ext e3
  refine ⟨l1, l2, _, _, rfl, rfl, a3.1, h3, sz (m := 1000) (by simp; omega), fun l3 nl3 => ?_⟩
  have e4 : Ext H3 (upd H3 l3 (.lst ((sh ++ sh).map V.int ++ [0, fine, k].map V.int))) := ext_new nl3
  have a4 : At S (upd H3 l3 (.lst ((sh ++ sh).map V.int ++ [0, fine, k].map V.int))) l3 (.lst (((sh ++ sh) ++ [0, fine, k]).map V.int)) := ⟨by rw [upd_same]; simp, fun z => dm2.ext e3 l3 z nl3⟩
  generalize upd H3 l3 (.lst ((sh ++ sh).map V.int ++ [0, fine, k].map V.int)) = H4 at e4 a4
  have e24 := e3.trans e4
  have dm4 := dm2.ext e24
  refine ⟨S, d, wd, c, n + 1, _, rfl, dm4, da2.ext e24, by show n + 1 ≤ 1099511627776; omega, .inl ⟨l3, _, rfl, a4, by simp, by simp; omega, fun y hy H5 u5 da5 => ?_⟩⟩
  obtain ⟨s, hs, rfl⟩ := List.mem_map.mp hy
  have hs2 : 0 ≤ s ∧ s ≤ fine := by
    simp only [List.mem_append, List.mem_cons, List.not_mem_nil, or_false] at hs
    rcases hs with (hs | hs) | rfl | rfl | rfl
    · exact hsh s hs
    · exact hsh s hs
    · omega
    · omega
    · omega
  have kp5 : Kp S H H5 := ((Kp.ext e1).trans (u2.trans (.ext e24))).trans u5
  have dm5 := dm.kp kp5
  have s5 := src.kp kp5
  refine ⟨_, rfl, by simp [sizeLine_eq], fun l5 nl5 => ?_⟩
  have e6 : Ext H5 (upd H5 l5 (.lst [.str "handed", .str "handed", .str "handed"])) := ext_new nl5
  have h6 : (upd H5 l5 (.lst [.str "handed", .str "handed", .str "handed"])) l5 = some (.lst ((["handed", "handed", "handed"] : List Str).map V.str)) := upd_same
  generalize upd H5 l5 (.lst [.str "handed", .str "handed", .str "handed"]) = H6 at e6 h6
  have s6 := s5.kp (.ext e6)
  have sl := src.sl
  refine ⟨_, rfl, m, _, rfl, dget_str s6.at_.1 src.ks, l5, ps, _, _, rfl, rfl, h6, s6.as_.1, sz (m := 1000) (by simp; omega), fun l7 nl7 => ?_⟩
  have e7 : Ext H6 (upd H6 l7 (.lst ((["handed", "handed", "handed"] : List Str).map V.str ++ so.map V.str))) := ext_new nl7
  have a7 : At S (upd H6 l7 (.lst ((["handed", "handed", "handed"] : List Str).map V.str ++ so.map V.str))) l7 (.lst (((["handed", "handed", "handed"] : List Str) ++ so).map V.str)) := ⟨by rw [upd_same]; simp, fun z => dm5.ext e6 l7 z nl7⟩
  generalize upd H6 l7 (.lst ((["handed", "handed", "handed"] : List Str).map V.str ++ so.map V.str)) = H7 at e7 a7
  have e57 := e6.trans e7
  refine ⟨S, d, wd, c, n + 2, _, rfl, dm5.ext e57, da5.ext e57, by show n + 2 ≤ 1099511627776; omega, .inl ⟨l7, _, rfl, a7, by simp, by simp; omega, fun y hy H8 u8 da8 => ?_⟩⟩
  obtain ⟨t, ht, rfl⟩ := List.mem_map.mp hy
  have nt : Tame t := by
    rcases List.mem_append.mp ht with ht | ht
    · have : t = "handed" := by simpa using ht
      rw [this]
      exact ⟨by decide +kernel, by decide +kernel⟩
    · exact src.nm t ht
  have u58 := (Kp.ext (S := S) e57).trans u8
  have dm8 := dm5.kp u58
  have s8 := s5.kp u58
  refine ⟨_, rfl, _, rfl, _, rfl, _, rfl, m, _, rfl, dget_str s8.at_.1 src.ko, S, d, wd, c, n + 3, odds, rfl, dm8, da8, by show n + 3 ≤ 1099511627776; omega, o1, by omega, fun k1 H9 _ _ u9 da9 => ⟨rfl, ?_⟩⟩
  have s9 := s8.kp u9
  refine ⟨_, rfl, _, rfl, m, _, rfl, dget_str s9.at_.1 src.ko, S, d, wd, c, n + 4, odds, rfl, dm8.kp u9, da9, by show n + 4 ≤ 1099511627776; omega, o1, by omega, fun k2 H10 _ _ u10 da10 => ⟨rfl, ?_⟩⟩
  have kp10 : Kp S H H10 := kp5.trans (u58.trans (u9.trans u10))
  refine ⟨by simp [sizeLine_eq], fun p np => ?_⟩
  exact hQ p ⟨s, t, decide (V.int k1 = V.int 0), decide (V.int k2 = V.int 0)⟩ _ (kp10.add np) (da10.ext (ext_new np)) ⟨upd_same, fun z => dm.kp kp10 p z np⟩ ⟨hs2.1, by show s ≤ 1000; omega, nt.1⟩ hs2.2 nt.2
end
end Ws

set_option Elab.async false
set_option linter.all false
set_option maxRecDepth 100000
set_option maxHeartbeats 4000000
namespace Ws
open PySem PySem.Spec PyProof.Rows L2
theorem paired_at {α β : Type} {R : α → β → Prop} : ∀ {xs : List α} {ys : List β} {i : Nat} {x : α}, Paired R xs ys → xs[i]? = some x → ∃ y, ys[i]? = some y ∧ R x y
  | _, _, _, _, .nil, h => by simp at h
  | _, _, 0, _, .cons r t, h => by
    simp at h
    subst h
    exact ⟨_, by simp, r⟩
  | _, _, i + 1, _, .cons r t, h => by
    obtain ⟨y, h1, h2⟩ := paired_at (i := i) t (by simpa using h)
    exact ⟨y, by simpa using h1, h2⟩
theorem take_one {α : Type} {xs : List α} {i : Nat} {x : α} (h : xs[i]? = some x) : xs.take (i + 1) = xs.take i ++ [x] := by rw [List.take_succ, h]; rfl
section
variable {P : Program} {w : World} {K : PySem.W.Frag} {mg : Str → Option Value} {base : Heap}
theorem okk_Rule_init (x : Fx K mg w) : FnRK P w K mg base CX0 2 (a_Rule_init K) 2 ["mark", "always", "late"] (sp_Rule_init K) := by
  obtain ⟨fd, F⟩ := x.F_Rule_init
  exact rawK (okf_Rule_init F x) (bindsKD F (by simp) fun T kV doc pm an cdv ct us its ws h1 h2 h3 => match us, its, ws, h1, h2, h3 with | [_, _], [_, _, _], [_, _, _], _, _, _ => ⟨_, rfl, rfl⟩)
def sp_l_rules_of (K : PySem.W.Frag) : Sp := fun vs H Q _ => ∃ (S T : Addr → Prop) (a : Addr) (ps : List Addr) (rs : List RuleD), vs = [.ref a] ∧ Dm S H ∧ H a = some (.lst (ps.map V.ref)) ∧ TupsAt T H ps rs ∧ (∀ r ∈ rs, r.ok) ∧ rs.length ≤ 2 ∧
  ∀ l os H', Ext H H' → H l = none → H' l = some (.lst (os.map V.ref)) → RulesAt S K H' os rs → Q (.ref l) H'
theorem sc_l_rules_of : FnScope ["_law_rules", "_law_share", "_law_tag", "_law_each_time", "_law_behind_here"] ["_law_rules"] (defScope s_l_rules_of) := ⟨rfl, rfl, rfl, by decide +kernel, rfl, by decide +kernel, by decide +kernel⟩
theorem ok_l_rules_of (x : Fx K mg w) : FnR P w K mg base CX0 4 (a_l_rules_of K) (sp_l_rules_of K) := by
  refine okR x.F_l_rules_of sc_l_rules_of (fun _ _ _ _ _ _ us hl => match us, hl with | [_], _ => rfl) (fun vs H Q E h => by obtain ⟨S, T, a, ps, rs, rfl, dm, ha, ht, ok, hl, hQ⟩ := h; rfl) (fun cdv A outer s H vs Q E hr h => ?_)
  obtain ⟨S, T, a, ps, rs, rfl, dm, ha, ht, ok, hl, hQ⟩ := h
  refine ⟨_, (pss_one (ps_ret (pe_lc (own := [("_law_share", 1), ("_law_tag", 2), ("_law_each_time", 3), ("_law_behind_here", 4)]) (tt := tYes) rfl sc_l_rules_of.nd (pi_listK (K := K) rfl (pv 0)) (blkOk_by (N := ["_law_rules", "_law_share", "_law_tag", "_law_each_time", "_law_behind_here"]) (sc := defScope s_l_rules_of) (by decide +kernel)) (fun _ _ _ _ _ => (pg_tupK (K := K) (n := 4) rfl rfl (pgs_cons (pg_name (i := 1) sc_l_rules_of.nd rfl (Or.inl rfl)) (pgs_cons (pg_name (i := 2) sc_l_rules_of.nd rfl (Or.inl rfl)) (pgs_cons (pg_name (i := 3) sc_l_rules_of.nd rfl (Or.inl rfl)) (pgs_cons (pg_name (i := 4) sc_l_rules_of.nd rfl (Or.inl rfl)) pgs_nil)))))) (fun _ _ _ _ _ => pts_nil) (fun _ _ _ _ _ => (pe_makeKw x.mk_Rule (okk_Rule_init x) (hr.mono (by decide)) rfl x.m_Rule pass0 (pa_cons (pv 1) pa_nil) (pk_cons (pv 2) (pk_cons (pv 3) (pk_cons (pv 4) pk_nil)))))))), ?_⟩
  have lp := ht.length
  refine ⟨_, rfl, a, rfl, ⟨_, .of ha⟩, fun D hD => lc_std (S := no) (H0 := H) (std_list (.of ha) (fun z => z)) (fun i H' => Ext H H' ∧ ∃ os, H' D = some (.lst (os.map V.ref)) ∧ RulesAt S K H' os (rs.take i)) ⟨ext_new hD, [], upd_same, .nil⟩ (fun i H' h => .ext h.1) (fun i y H1 hy ⟨e1, os, hD1, ro⟩ => ?_) (fun H1 ⟨e1, os, hD1, ro⟩ => ?_)⟩
  · obtain ⟨p, hp, rfl⟩ : ∃ p, ps[i]? = some p ∧ y = .ref p := by
      rw [List.getElem?_map] at hy
      cases q : ps[i]? with
      | none => rw [q] at hy; cases hy
      | some p => rw [q] at hy; exact ⟨p, rfl, (Option.some.inj hy).symm⟩
    obtain ⟨r, hr1, hp2⟩ := paired_at ht hp
    refine ⟨p, _, rfl, .of (e1 _ _ hp2.1), rfl, _, _, rfl, _, _, rfl, _, _, rfl, _, _, rfl, rfl, rfl, ?_⟩
    refine ⟨_, rfl, _, rfl, _, rfl, _, rfl, rfl, rfl, make_rule (K := K) (dm.ext e1) (ok r (List.mem_of_getElem? hr1)) fun q H2 e2 tq => ?_⟩
    have lo := ro.length
    have lt := List.length_take_le i rs
    have e12 := e1.trans e2
    refine ⟨_, e2 _ _ hD1, ?_, fun c u h => ?_, os ++ [q], by rw [upd_same, List.map_append]; rfl, ?_⟩
    · have := line1001
      simp only [List.length_map]
      have : (rs.take i).length ≤ rs.length := List.length_take_le' _ _
      omega
    · rw [upd_ne (ne_of_none h hD)]
      exact e12 _ _ h
    · rw [take_one hr1]
      have uD : ∀ {b : Addr} {u : HO}, At S H2 b u → (∀ xs, u ≠ .lst xs) → At S (upd H2 D (.lst (os.map V.ref ++ [.ref q]))) b u := fun {b u} h n => ⟨by rw [upd_ne (ne_of h.1 (e2 _ _ hD1) (n _))]; exact h.1, h.2⟩
      have rD : ∀ {b : Addr} {r : RuleD}, RuleAt S K H2 b r → RuleAt S K (upd H2 D (.lst (os.map V.ref ++ [.ref q]))) b r := fun {b r} h => by
        obtain ⟨g, dx, pp, h1, h2⟩ := h
        exact ⟨g, dx, pp, uD h1 (by simp), uD h2 (by simp)⟩
      exact paired_app (Paired.mapP ro fun _ _ z => rD (z.ext e2)) (.cons (rD tq) .nil)
  · have e : rs.take (ps.map V.ref).length = rs := List.take_of_length_le (by rw [List.length_map]; omega)
    rw [e] at ro
    exact hQ D os H1 e1 hD hD1 ro
/-- what a model's net is -/
def NormN (md n : NetD) : Prop := ∃ hs : Hs, Paired (fun p q => q.1 = p.1 ∧ Made p.2 q.2) md.houses hs ∧ NetMade { md with houses := hs } n
theorem norm_rules {a b : Hs} (h : Paired (fun (p q : Str × HouseD) => q.1 = p.1 ∧ Made p.2 q.2) a b) : b.map (·.1) = a.map (·.1) := by
  induction h with
  | nil => rfl
  | cons r t ih => rw [List.map_cons, List.map_cons, r.1, ih]
theorem paired_memR {α β : Type} {R : α → β → Prop} : ∀ {xs : List α} {ys : List β} {b : β}, Paired R xs ys → b ∈ ys → ∃ a, a ∈ xs ∧ R a b
  | _, _, _, .nil, h => by simp at h
  | _, _, _, .cons r t, h => by
    rcases List.mem_cons.mp h with rfl | h
    · exact ⟨_, List.mem_cons_self, r⟩
    · obtain ⟨b, h1, h2⟩ := paired_memR t h
      exact ⟨b, List.mem_cons_of_mem _ h1, h2⟩
theorem norm_fit {md : NetD} {hs : Hs} (f : md.Fit) (h : Paired (fun (p q : Str × HouseD) => q.1 = p.1 ∧ Made p.2 q.2) md.houses hs) : NetD.Fit { md with houses := hs } := by
  have k := norm_rules h
  have l := Paired.length h
  refine ⟨f.f1, f.f2, ⟨by show 1 ≤ hs.length; rw [← l]; exact f.hs.l1, by show hs.length ≤ 8; rw [← l]; exact f.hs.l2, fun q hq => ?_, by show (hs.map (·.1)).Nodup; rw [k]; exact f.hs.nd, fun q hq r hr => ?_, fun q hq z hz => ?_⟩, f.e0, f.nd, fun z hz => by show z ∈ hs.map (·.1); rw [k]; exact f.sub z hz, f.ln⟩
  · obtain ⟨p, hp, e, m⟩ := paired_memR h hq
    rw [e]; exact f.hs.nm p hp
  · obtain ⟨p, hp, e, m⟩ := paired_memR h hq
    rw [m.rules] at hr
    exact f.hs.sh p hp r hr
  · obtain ⟨p, hp, e, m⟩ := paired_memR h hq
    show z ∈ hs.map (·.1)
    rw [k]
    exact f.hs.cl p hp z (m.calls.mem_iff.mp hz)
theorem mod_get {f od : Int} {ph ps pe : Addr} : valV (modK f ph ps od pe) (Sum.inr "fine") = some (.int f) ∧ valV (modK f ph ps od pe) (Sum.inr "houses") = some (.ref ph) ∧ valV (modK f ph ps od pe) (Sum.inr "some") = some (.ref ps) ∧
    valV (modK f ph ps od pe) (Sum.inr "odds") = some (.int od) ∧ valV (modK f ph ps od pe) (Sum.inr "entries") = some (.ref pe) := ⟨rfl, rfl, rfl, rfl, rfl⟩
theorem hd_get {pr pc pl : Addr} {f : Bool} : valV (hdK pr pc pl f) (Sum.inr "rules") = some (.ref pr) ∧ valV (hdK pr pc pl f) (Sum.inr "calls") = some (.ref pc) ∧ valV (hdK pr pc pl f) (Sum.inr "lost") = some (.ref pl) ∧ valV (hdK pr pc pl f) (Sum.inr "fails") = some (.bl f) := ⟨rfl, rfl, rfl, rfl⟩
theorem dget_rd {H : Hp} {a : Addr} {kvs : List (Key × V)} {n : Str} {v : V} (e : Rd H a (.dK kvs)) (hv : valV kvs (Sum.inr n) = some v) : DGet H a (.str n) (some v) := .inl ⟨kvs, Sum.inr n, e, rfl, hv.symm⟩
end
end Ws

set_option Elab.async false
set_option linter.all false
set_option maxRecDepth 100000
set_option maxHeartbeats 4000000
namespace Ws
open PySem PySem.Spec PyProof.Rows L2
section
variable {S : Addr → Prop} {K : PySem.W.Frag} {H H1 : Hp} {a o q m ph : Addr} {kvs : List (Key × V)} {hs : Hs} {od : Obj} {v : HO}
theorem hds_refs (h : HdsAt S H kvs hs) : ∀ kv ∈ kvs, ∃ a, kv.2 = .ref a := fun kv hk => by
  obtain ⟨nh, _, _, a, h2, _⟩ := paired_mem h hk
  exact ⟨a, h2⟩
theorem hds_ne_hd (h : HdsAt S H kvs hs) {pr pc pl : Addr} {f : Bool} : kvs ≠ hdK pr pc pl f := fun e => by
  obtain ⟨a, z⟩ := hds_refs h (Sum.inr "fails", .bl f) (by rw [e]; simp [hdK])
  cases z
theorem hds_ne_mod (h : HdsAt S H kvs hs) {f od : Int} {ph ps pe : Addr} : kvs ≠ modK f ph ps od pe := fun e => by
  obtain ⟨a, z⟩ := hds_refs h (Sum.inr "fine", .int f) (by rw [e]; simp [modK])
  cases z
/-- a model's house while the dict of the houses is locked, or anything else there is changed -/
theorem HdAt.lk {h : HouseD} (t : HdAt S H a h) (ho : H o = some v) (e : Kp (one o) H H1) (n1 : ∀ pr pc pl f, v ≠ .dK (hdK pr pc pl f)) (n2 : ∀ xs, v ≠ .lst xs) (n3 : ∀ xs, v ≠ .tup xs) : HdAt S H1 a h := by
  obtain ⟨pr, pc, pl, os, h1, h2, h3, h4, h5⟩ := t
  exact ⟨pr, pc, pl, os, h1.off ho (fun z => n1 _ _ _ _ z.symm) e, h2.off ho (fun z => n2 _ z.symm) e, Paired.mapP h3 fun _ _ z => z.off ho (fun z => n3 _ z.symm) e, h4.off ho (fun z => n2 _ z.symm) e, h5.off ho (fun z => n2 _ z.symm) e⟩
theorem RuleAt.lk {r : RuleD} (h : RuleAt S K H a r) (ho : H o = some v) (e : Kp (one o) H H1) (n1 : ∀ C dx fs, v ≠ .ins C dx fs) (n3 : ∀ xs, v ≠ .tup xs) : RuleAt S K H1 a r := by
  obtain ⟨g, dx, p, h1, h2⟩ := h
  exact ⟨g, dx, p, h1.off ho (fun z => n1 _ _ _ z.symm) e, h2.off ho (fun z => n3 _ z.symm) e⟩
theorem HouseAt.lk {h : HouseD} (t : HouseAt S K H a h) (ho : H o = some v) (e : Kp (one o) H H1) (n1 : ∀ C dx fs, v ≠ .ins C dx fs) (n3 : ∀ xs, v ≠ .tup xs) : HouseAt S K H1 a h := by
  obtain ⟨f, s1, s2, dx, pr, pc, pl, os, h1, h2, h3, h4, h5⟩ := t
  exact ⟨f, s1, s2, dx, pr, pc, pl, os, h1.off ho (fun z => n1 _ _ _ z.symm) e, h2.off ho (fun z => n3 _ z.symm) e, Paired.mapP h3 fun _ _ z => z.lk ho e n1 n3, h4.off ho (fun z => n3 _ z.symm) e, h5.off ho (fun z => n3 _ z.symm) e⟩
theorem HousesAt.lk {h : HouseD} (t : HousesAt S K H kvs hs) (ho : H o = some v) (e : Kp (one o) H H1) (n1 : ∀ C dx fs, v ≠ .ins C dx fs) (n3 : ∀ xs, v ≠ .tup xs) : HousesAt S K H1 kvs hs := Paired.mapP t fun kv nh ⟨h1, a, h2, h3⟩ => ⟨h1, a, h2, h3.lk ho e n1 n3⟩
end
section
variable {P : Program} {w : World} {K : PySem.W.Frag} {mg : Str → Option Value} {base : Heap}
def sp_l_net (K : PySem.W.Frag) : Sp := fun vs H Q _ => ∃ (S : Addr → Prop) (m : Addr) (md : ModelD), vs = [.ref m] ∧ Dm S H ∧ ModelAt S H m md ∧ md.Fit ∧ ∀ r n H', Ext H H' → NormN md.net n → NetAt S K H' r n → Q (.ref r) H'
theorem sc_l_net : FnScope ["_law_model_here", "_law_made", "_law_name", "_law_one"] ["_law_model_here"] (defScope s_l_net) := ⟨rfl, rfl, rfl, by decide +kernel, rfl, by decide +kernel, by decide +kernel⟩
theorem ok_l_net (x : Fx K mg w) : FnR P w K mg base CX0 6 (a_l_net K) (sp_l_net K) := by
  refine okR x.F_l_net sc_l_net (fun _ _ _ _ _ _ us hl => match us, hl with | [_], _ => rfl) (fun vs H Q E h => by obtain ⟨S, m, md, rfl, dm, ma, f, hQ⟩ := h; rfl) (fun cdv A outer s H vs Q E hr h => ?_)
  obtain ⟨S, m, md, rfl, dm, ma, f, hQ⟩ := h
  refine ⟨_, (pss_cons (ps_set (i := 1) sc_l_net.nd rfl (Or.inl rfl) pe_dnewK)
 (pss_cons (ps_lock (ps_for PassesOwn.never rfl (pi_keys (pe_dget (hu_of hr) (pv 0) pe_str (fun _ _ => rfl))) (pg_name (i := 2) sc_l_net.nd rfl (Or.inl rfl))
 (pss_cons (ps_set (i := 3) sc_l_net.nd rfl (Or.inl rfl) (pe_dget (hu_of hr) (pe_dget (hu_of hr) (pv 0) pe_str (fun _ _ => rfl)) (pv 2) (fun _ _ => rfl)))
 (pss_one (ps_dput (hu_of hr) (pv 1) (pv 2) (StX.pe_makeR x.mk_House (ok_House_init x) (hr.mono (by decide)) rfl x.m_House pass0 (pa_cons (pe_callR (ok_l_rules_of x) (hr.mono (by decide)) rfl x.m_l_rules_of (keep_of x.F_l_rules_of) pass0 (pa_cons (pe_dget (hu_of hr) (pv 3) pe_str (fun _ _ => rfl)) pa_nil)) (pa_cons (pe_dget (hu_of hr) (pv 3) pe_str (fun _ _ => rfl)) (pa_cons (pe_dget (hu_of hr) (pv 3) pe_str (fun _ _ => rfl)) (pa_cons (pe_dget (hu_of hr) (pv 3) pe_str (fun _ _ => rfl)) pa_nil))))) rfl)))))
 (pss_one (ps_ret (StX.pe_makeR x.mk_Net (ok_Net_init x) (hr.mono (by decide)) rfl x.m_Net pass0 (pa_cons (pe_dget (hu_of hr) (pv 0) pe_str (fun _ _ => rfl)) (pa_cons (pv 1) (pa_cons (pe_dget (hu_of hr) (pv 0) pe_str (fun _ _ => rfl)) pa_nil)))))))), ?_⟩
  obtain ⟨ph, ps, pe, kvs, m1, m2, m3, m4, m5⟩ := id ma
  refine fun D hD => ?_
  have e1 : Ext H (upd H D (.dK [])) := ext_new hD
  have d1 : (upd H D (.dK [])) D = some (.dK []) := upd_same
  dsimp only [gName]
  generalize upd H D (.dK []) = H1 at e1 d1
  have p1 := e1 _ _ m2.1
  have k1 : Kp (one D) H H1 := .ext e1
  have n1 : ph ≠ D := ne_of_none m2.1 hD
  refine ⟨ph, _, p1, True.intro, fun od => ?_⟩
  have lkd : Kp (one ph) H1 (upd H1 ph (.frz od (.dK kvs))) := Kp.refl.put rfl
  have pf : (upd H1 ph (.frz od (.dK kvs))) ph = some (.frz od (.dK kvs)) := upd_same
  have df : (upd H1 ph (.frz od (.dK kvs))) D = some (.dK []) := by rw [upd_ne (Ne.symm n1)]; exact d1
  have mf : (upd H1 ph (.frz od (.dK kvs))) m = some (.dK (modK md.fine ph ps md.odds pe)) := by
    rw [upd_ne (ne_of m1.1 m2.1 (by intro z; injection z with z; exact hds_ne_mod m3 z.symm))]
    exact e1 _ _ m1.1
  have hdf : ∀ n ∈ md.houses.map (·.1), ∃ a, valV kvs (Sum.inr n) = some (.ref a) ∧ HdAt S (upd H1 ph (.frz od (.dK kvs))) a (getH md.houses n) := fun n hn => by
    obtain ⟨a, h1, h2⟩ := m3.at_ n hn
    exact ⟨a, h1, (h2.ext e1).lk p1 lkd (fun pr pc pl f z => by injection z with z; exact hds_ne_hd m3 z) (by simp) (by simp)⟩
  have dmf : Dm S (upd H1 ph (.frz od (.dK kvs))) := (dm.ext e1).kp lkd
  have back : ∀ H', Kp (one D) (upd H1 ph (.frz od (.dK kvs))) H' → Ext H (upd H' ph (.dK kvs)) := fun H' u b x hb => by
    by_cases z : b = ph
    · subst z
      rw [m2.1] at hb
      rw [upd_same]; exact hb
    · rw [upd_ne z]
      refine u.keep b x ?_ (ne_of_none hb hD)
      rw [upd_ne z]
      exact e1 _ _ hb
  generalize upd H1 ph (.frz od (.dK kvs)) = Hf at pf df mf hdf dmf back lkd
  have lk := Paired.length m3
  refine ⟨_, rfl, m, _, rfl, dget_str mf mod_get.2.1, ph, od, rfl, .inl ⟨kvs, pf, for_std (S := one D) (std_keys pf n1) (fun i σ H' => Kp (one D) Hf H' ∧ ∃ mk hs, H' D = some (.dK mk) ∧ HousesAt S K H' mk hs ∧ Paired (fun (p q : Str × HouseD) => q.1 = p.1 ∧ Made p.2 q.2) (md.houses.take i) hs ∧ ∃ v1 v2, σ = [some (.ref m), some (.ref D), v1, v2])
    ⟨Kp.refl, [], [], df, .nil, .nil, none, none, rfl⟩ (fun i σ H' h => h.1) (fun i y σ H2 hy ⟨u, mk, hs, hD2, hh, pr, v1, v2, hσ⟩ => ?_) (fun σ H2 ⟨u, mk, hs, hD2, hh, pr, v1, v2, hσ⟩ => ?_)⟩⟩
  · subst hσ
    obtain ⟨p, hp, rfl⟩ : ∃ p, md.houses[i]? = some p ∧ y = .str p.1 := by
      rw [List.getElem?_map] at hy
      cases q : kvs[i]? with
      | none => rw [q] at hy; cases hy
      | some kv =>
        rw [q] at hy
        obtain ⟨p, hp, e, _⟩ := paired_at m3 q
        refine ⟨p, hp, ?_⟩
        rw [← Option.some.inj hy]
        show kV kv.1 = V.str p.1
        rw [e]
        rfl
    have pm := List.mem_of_getElem? hp
    have hn : p.1 ∈ md.houses.map (·.1) := List.mem_map.mpr ⟨p, pm, rfl⟩
    have eg : getH md.houses p.1 = p.2 := getH_of f.net.hs.nd pm
    obtain ⟨a, hv, ht⟩ := hdf p.1 hn
    rw [eg] at ht
    have ht2 : HdAt S H2 a p.2 := by
      obtain ⟨qr, qc, ql, os, h1, h2, h3, h4, h5⟩ := ht
      have nD : ∀ {b : Addr} {x : HO}, At S Hf b x → x ≠ .dK [] → At S H2 b x := fun {b x} h n => h.off df n u
      exact ⟨qr, qc, ql, os, nD h1 (by simp [hdK]), nD h2 (by simp), Paired.mapP h3 fun _ _ z => nD z (by simp), nD h4 (by simp), nD h5 (by simp)⟩
    obtain ⟨qr, qc, ql, os, h1, h2, h3, h4, h5⟩ := id ht2
    have pf2 := u.keep _ _ pf n1
    have mf2 : H2 m = some (.dK (modK md.fine ph ps md.odds pe)) := u.keep _ _ mf (ne_of mf df (by simp [modK]))
    have dm2 : Dm S H2 := dmf.kp u
    refine ⟨_, rfl, m, _, rfl, dget_str mf2 mod_get.2.1, _, rfl, ph, _, rfl, dget_rd (.inr ⟨od, pf2⟩) hv, ?_⟩
    refine ⟨_, rfl, a, _, rfl, dget_str h1.1 hd_get.1, S, S, qr, os, p.2.rules, rfl, dm2, h2.1, h3, (f.hs p pm).2, (f.hs p pm).1.r2, fun l os' H3 e3 nl hl ro => ?_⟩
    refine ⟨_, rfl, a, _, rfl, dget_str (e3 _ _ h1.1) hd_get.2.1, _, rfl, a, _, rfl, dget_str (e3 _ _ h1.1) hd_get.2.2.1, _, rfl, a, _, rfl, dget_str (e3 _ _ h1.1) hd_get.2.2.2, ?_⟩
    refine make_house (K := K) (m := p.2) (dm2.ext e3) (.inl hl) ro (.inl (.inl (e3 _ _ h4.1))) (.inl (.inl (e3 _ _ h5.1))) (f.hs p pm).1 fun r H4 h' e4 mdh tr => ?_
    have e24 := e3.trans e4
    have hD4 := e24 _ _ hD2
    have lm : mk.length = i := by
      have := Paired.length hh
      have := Paired.length pr
      have := (List.getElem?_eq_some_iff.mp hp).1
      simp only [List.length_take] at *
      omega
    have i8 : i < md.houses.length := (List.getElem?_eq_some_iff.mp hp).1
    have l8 := f.net.hs.l2
    have l8 : md.houses.length ≤ 8 := l8
    have newk : valV mk (Sum.inr p.1) = none := by
      cases q : valV mk (Sum.inr p.1) with
      | none => rfl
      | some v =>
        have hin := hh.in_ p.1
        rw [q] at hin
        have hmem : p.1 ∈ hs.map (·.1) := of_decide_eq_true hin.symm
        rw [norm_rules pr] at hmem
        have nd : (md.houses.map (·.1)).Nodup := f.net.hs.nd
        have tk := take_one hp
        have : ((md.houses.take (i + 1)).map (·.1)).Nodup := by
          rw [List.map_take]
          exact nd.sublist (List.take_sublist _ _)
        rw [tk, List.map_append, List.nodup_append] at this
        exact absurd rfl (this.2.2 _ hmem _ (by simp))
    refine ⟨_, rfl, _, rfl, D, _, rfl, dput_str hD4 (by omega), ?_⟩
    rw [putK_new _ newk]
    have uD : Kp (one D) H4 (upd H4 D (.dK (mk ++ [(Sum.inr p.1, .ref r)]))) := Kp.refl.put rfl
    refine ⟨(u.trans (.ext e24)).trans uD, _, hs ++ [(p.1, h')], upd_same, paired_app ((hh.ext e24).lk (h := h') hD4 uD (by simp) (by simp)) (.cons ⟨rfl, r, rfl, tr.lk hD4 uD (by simp) (by simp)⟩ .nil), ?_, _, _, rfl⟩
    rw [take_one hp]
    exact paired_app pr (.cons ⟨rfl, mdh⟩ .nil)
  · subst hσ
    have e : md.houses.take (kvs.map fun kv => kV kv.1).length = md.houses := List.take_of_length_le (by rw [List.length_map]; omega)
    rw [e] at pr
    have pf2 := u.keep _ _ pf n1
    refine ⟨pf2, ?_⟩
    have eb := back H2 u
    have uP : Kp (one ph) H2 (upd H2 ph (.dK kvs)) := Kp.refl.put rfl
    have hD3 : (upd H2 ph (.dK kvs)) D = some (.dK mk) := by rw [upd_ne (Ne.symm n1)]; exact hD2
    have hh3 := hh.lk (h := ⟨[], [], [], false⟩) pf2 uP (by simp) (by simp)
    have dm3 : Dm S (upd H2 ph (.dK kvs)) := dm.ext eb
    generalize upd H2 ph (.dK kvs) = H3 at eb uP hD3 hh3 dm3
    refine ⟨_, rfl, m, _, rfl, dget_str (eb _ _ m1.1) mod_get.1, _, rfl, _, rfl, m, _, rfl, dget_str (eb _ _ m1.1) mod_get.2.2.2.2, ?_⟩
    exact make_net (K := K) (m := { md.net with houses := hs }) dm3 hD3 hh3 (.inl (.inl (eb _ _ m5.1))) (norm_fit f.net pr) fun r H4 n e4 nm tn => hQ r n H4 (eb.trans e4) ⟨hs, pr, nm⟩ tn
end
end Ws

set_option Elab.async false
set_option linter.all false
set_option maxRecDepth 100000
set_option maxHeartbeats 4000000
namespace Ws
open PySem PySem.Spec PyProof.Rows L2
theorem kp_one_new {H H' : Hp} {D : Addr} {o : HO} {H0 : Hp} (e : Ext H H') (hD : H D = none) : Ext H (upd H' D o) := fun c u h => by
  rw [upd_ne (ne_of_none h hD)]
  exact e c u h
section
variable {P : Program} {w : World} {K : PySem.W.Frag} {mg : Str → Option Value} {base : Heap}
/-- the copies that are new: where they stand -/
structure Fresh (H : Hp) (nk : List (Key × V)) : Prop where
  new : ∀ kv ∈ nk, ∃ a, kv.2 = .ref a ∧ H a = none
  nd : (nk.map (·.2)).Nodup
def sp_l_copied : Sp := fun vs H Q _ => ∃ (S : Addr → Prop) (m : Addr) (md : ModelD), vs = [.ref m] ∧ Dm S H ∧ ModelAt S H m md ∧ md.Fit ∧ ∀ m' H' ph' ps pe nk, Ext H H' → At S H' m' (.dK (modK md.fine ph' ps md.odds pe)) → At S H' ph' (.dK nk) → HdsAt S H' nk md.houses →
  At S H' ps (.lst (md.some_.map V.str)) → At S H' pe (.lst (md.entries.map V.str)) → Fresh H nk → Q (.ref m') H'
theorem sc_l_copied : FnScope ["_law_model_here", "_law_found", "_law_name"] ["_law_model_here"] (defScope s_l_copied) := ⟨rfl, rfl, rfl, by decide +kernel, rfl, by decide +kernel, by decide +kernel⟩
theorem ok_l_copied (x : Fx K mg w) : FnR P w K mg base CX0 1 (a_l_copied K) sp_l_copied := by
  refine okR x.F_l_copied sc_l_copied (fun _ _ _ _ _ _ us hl => match us, hl with | [_], _ => rfl) (fun vs H Q E h => by obtain ⟨S, m, md, rfl, dm, ma, f, hQ⟩ := h; rfl) (fun cdv A outer s H vs Q E hr h => ?_)
  obtain ⟨S, m, md, rfl, dm, ma, f, hQ⟩ := h
  refine ⟨_, (pss_cons (ps_set (i := 1) sc_l_copied.nd rfl (Or.inl rfl) (pe_callTy call_dictD rfl x.n_dict bb_dict (pa_cons (pv 0) pa_nil)))
 (pss_cons (ps_dput (hu_of hr) (pv 1) pe_str (pe_callTy (r := rDctP K) (call_dctP rfl) rfl x.n_dict bb_dict (pa_cons (pe_lock (pe_lc (own := [("_law_name", 2)]) (tt := tYes) rfl sc_l_copied.nd (pi_keys (pe_dget (hu_of hr) (pv 0) pe_str (fun _ _ => rfl))) (blkOk_by (N := ["_law_model_here", "_law_found", "_law_name"]) (sc := defScope s_l_copied) (by decide +kernel)) (fun _ _ _ _ _ => (pg_name (i := 2) sc_l_copied.nd rfl (Or.inl rfl))) (fun _ _ _ _ _ => pts_nil) (fun _ _ _ _ _ => (pe_tup (pa_cons (pv 2) (pa_cons (pe_callTy call_dictD rfl x.n_dict bb_dict (pa_cons (pe_dget (hu_of hr) (pe_dget (hu_of hr) (pv 0) pe_str (fun _ _ => rfl)) (pv 2) (fun _ _ => rfl)) pa_nil)) pa_nil)))))) pa_nil)) rfl)
 (pss_one (ps_ret (pv 1))))), ?_⟩
  obtain ⟨ph, ps, pe, kvs, m1, m2, m3, m4, m5⟩ := id ma
  have l8 : md.houses.length ≤ 8 := f.net.hs.l2
  have lk := Paired.length m3
  refine ⟨_, rfl, m, _, rfl, .of m1.1, fun p0 np0 => ?_⟩
  dsimp only [gName]
  have e1 : Ext H (upd H p0 (.dK (modK md.fine ph ps md.odds pe))) := ext_new np0
  have h1 : (upd H p0 (.dK (modK md.fine ph ps md.odds pe))) p0 = some (.dK (modK md.fine ph ps md.odds pe)) := upd_same
  generalize upd H p0 (.dK (modK md.fine ph ps md.odds pe)) = H1 at e1 h1
  have p1 := e1 _ _ m2.1
  have n1 : ph ≠ p0 := ne_of_none m2.1 np0
  refine ⟨ph, _, p1, True.intro, fun od => ?_⟩
  have lkd : Kp (one ph) H1 (upd H1 ph (.frz od (.dK kvs))) := Kp.refl.put rfl
  have pf : (upd H1 ph (.frz od (.dK kvs))) ph = some (.frz od (.dK kvs)) := upd_same
  have mf : (upd H1 ph (.frz od (.dK kvs))) m = some (.dK (modK md.fine ph ps md.odds pe)) := by
    rw [upd_ne (ne_of m1.1 m2.1 (by intro z; injection z with z; exact hds_ne_mod m3 z.symm))]
    exact e1 _ _ m1.1
  have m0f : (upd H1 ph (.frz od (.dK kvs))) p0 = some (.dK (modK md.fine ph ps md.odds pe)) := by rw [upd_ne (Ne.symm n1)]; exact h1
  have hdf : ∀ n ∈ md.houses.map (·.1), ∃ a, valV kvs (Sum.inr n) = some (.ref a) ∧ HdAt S (upd H1 ph (.frz od (.dK kvs))) a (getH md.houses n) := fun n hn => by
    obtain ⟨a, g1, g2⟩ := m3.at_ n hn
    exact ⟨a, g1, (g2.ext e1).lk p1 lkd (fun pr pc pl f z => by injection z with z; exact hds_ne_hd m3 z) (by simp) (by simp)⟩
  have dmf : Dm S (upd H1 ph (.frz od (.dK kvs))) := (dm.ext e1).kp lkd
  have back : ∀ H', Ext (upd H1 ph (.frz od (.dK kvs))) H' → Ext H1 (upd H' ph (.dK kvs)) := fun H' u => unlock_ext p1 u
  have newf : ∀ a, (upd H1 ph (.frz od (.dK kvs))) a = none → H a = none := fun a h => by
    cases q : H a with
    | none => rfl
    | some x => exact absurd h (lkd.dom a (ext_dom e1 (by rw [q]; exact fun z => nomatch z)))
  generalize upd H1 ph (.frz od (.dK kvs)) = Hf at pf mf m0f hdf dmf back newf lkd
  refine ⟨_, rfl, m, _, rfl, dget_str mf mod_get.2.1, ph, od, rfl, .inl ⟨kvs, pf, fun D hD => ?_⟩⟩
  refine lc_std (S := no) (H0 := Hf) (std_keys pf (fun z => z)) (fun i H' => Ext Hf H' ∧ ∃ ps' nk, H' D = some (.lst (ps'.map V.ref)) ∧ Paired (fun (p : Addr) (kv : Key × V) => H' p = some (.tup [kV kv.1, kv.2])) ps' nk ∧
      Paired (fun (kv : Key × V) (nh : Str × HouseD) => kv.1 = Sum.inr nh.1 ∧ ∃ a pr pc pl os, kv.2 = .ref a ∧ Hf a = none ∧ At S H' a (.dK (hdK pr pc pl nh.2.fails)) ∧ At S Hf pr (.lst (os.map V.ref)) ∧ TupsAt S Hf os nh.2.rules ∧ At S Hf pc (.lst (nh.2.calls.map V.str)) ∧ At S Hf pl (.lst (nh.2.lost.map V.str))) nk (md.houses.take i) ∧
      (nk.map (·.2)).Nodup) ⟨ext_new hD, [], [], upd_same, .nil, .nil, .nil⟩ (fun i H' h => .ext h.1) (fun i y H2 hy ⟨e2, ps', nk, hD2, pt, pn, nd⟩ => ?_) (fun H2 ⟨e2, ps', nk, hD2, pt, pn, nd⟩ => ?_)
  · obtain ⟨p, hp, rfl⟩ : ∃ p, md.houses[i]? = some p ∧ y = .str p.1 := by
      rw [List.getElem?_map] at hy
      cases q : kvs[i]? with
      | none => rw [q] at hy; cases hy
      | some kv =>
        rw [q] at hy
        obtain ⟨p, hp, e, _⟩ := paired_at m3 q
        refine ⟨p, hp, ?_⟩
        rw [← Option.some.inj hy]
        show kV kv.1 = V.str p.1
        rw [e]
        rfl
    have pm := List.mem_of_getElem? hp
    have hn : p.1 ∈ md.houses.map (·.1) := List.mem_map.mpr ⟨p, pm, rfl⟩
    have eg : getH md.houses p.1 = p.2 := getH_of f.net.hs.nd pm
    obtain ⟨a, hv, ht⟩ := hdf p.1 hn
    rw [eg] at ht
    obtain ⟨qr, qc, ql, os, g1, g2, g3, g4, g5⟩ := id ht
    have pf2 := e2 _ _ pf
    refine ⟨rfl, _, rfl, _, rfl, m, _, rfl, dget_str (e2 _ _ mf) mod_get.2.1, _, rfl, ph, _, rfl, dget_rd (.inr ⟨od, pf2⟩) hv, a, _, rfl, .of (e2 _ _ g1.1), fun b nb => ⟨by simp [sizeLine_eq], fun t nt => ?_⟩⟩
    have e3 : Ext H2 (upd H2 b (.dK (hdK qr qc ql p.2.fails))) := ext_new nb
    have hb3 : (upd H2 b (.dK (hdK qr qc ql p.2.fails))) b = some (.dK (hdK qr qc ql p.2.fails)) := upd_same
    generalize upd H2 b (.dK (hdK qr qc ql p.2.fails)) = H3 at e3 hb3 nt
    have e4 : Ext H3 (upd H3 t (.tup [.str p.1, .ref b])) := ext_new nt
    have ht4 : (upd H3 t (.tup [.str p.1, .ref b])) t = some (.tup [.str p.1, .ref b]) := upd_same
    generalize upd H3 t (.tup [.str p.1, .ref b]) = H4 at e4 ht4
    have e24 := e3.trans e4
    have hD4 := e24 _ _ hD2
    have fb : Hf b = none := by
      cases q : Hf b with
      | none => rfl
      | some x => rw [e2 _ _ q] at nb; cases nb
    have l1 := Paired.length pt
    have l2 := Paired.length pn
    have l3 : (md.houses.take i).length ≤ md.houses.length := List.length_take_le' _ _
    have uD : ∀ {c : Addr} {x : HO}, H4 c = some x → (∀ xs, x ≠ .lst xs) → (upd H4 D (.lst (ps'.map V.ref ++ [.ref t]))) c = some x := fun {c x} h n => by rw [upd_ne (ne_of h hD4 (n _))]; exact h
    refine ⟨_, hD4, ?_, kp_one_new (H0 := H) (e2.trans e24) hD, ps' ++ [t], nk ++ [(Sum.inr p.1, .ref b)], by rw [upd_same, List.map_append]; rfl, paired_app (Paired.mapP pt fun _ _ z => uD (e24 _ _ z) (by simp)) (.cons (show (upd H4 D (.lst (ps'.map V.ref ++ [.ref t]))) t = some (.tup [kV (Sum.inr p.1), .ref b]) from uD ht4 (by simp)) .nil), ?_, ?_⟩
    · have := line1001
      simp only [List.length_map]
      omega
    · rw [take_one hp]
      refine paired_app (Paired.mapP pn fun kv nh ⟨k1, a', pr, pc, pl, os', k2, k3, k4, k5, k6, k7, k8⟩ => ⟨k1, a', pr, pc, pl, os', k2, k3, ⟨uD (e24 _ _ k4.1) (by simp), k4.2⟩, k5, k6, k7, k8⟩) (.cons ⟨rfl, b, qr, qc, ql, os, rfl, fb, ⟨uD (e4 _ _ hb3) (by simp), fun z => dmf b z fb⟩, g2, g3, g4, g5⟩ .nil)
    · rw [List.map_append]
      refine nd_snoc nd fun hm => ?_
      obtain ⟨kv, hk, ek⟩ := List.mem_map.mp hm
      obtain ⟨nh, _, _, a', _, _, _, _, k2, _, k4, _⟩ := paired_mem pn hk
      rw [k2] at ek
      injection ek with ek
      subst ek
      have := k4.1
      rw [nb] at this
      cases this
  · have e : md.houses.take (kvs.map fun kv => kV kv.1).length = md.houses := List.take_of_length_le (by rw [List.length_map]; omega)
    rw [e] at pn
    refine ⟨e2 _ _ pf, ?_⟩
    have e3 := back H2 e2
    have uP : Kp (one ph) H2 (upd H2 ph (.dK kvs)) := Kp.refl.put rfl
    have pf2 := e2 _ _ pf
    have nDp : D ≠ ph := fun z => by rw [z, pf] at hD; cases hD
    have keep : ∀ {c : Addr} {x : HO}, H2 c = some x → (∀ o u, x ≠ .frz o u) → (upd H2 ph (.dK kvs)) c = some x := fun {c x} h n => by rw [upd_ne (ne_of h pf2 (n _ _))]; exact h
    have keepF : ∀ {c : Addr} {x : HO}, At S Hf c x → (∀ o u, x ≠ .frz o u) → At S (upd H2 ph (.dK kvs)) c x := fun {c x} h n => ⟨keep (e2 _ _ h.1) n, h.2⟩
    have hD3 := keep hD2 (by simp)
    have hds : HdsAt S (upd H2 ph (.dK kvs)) nk md.houses := Paired.mapP pn fun kv nh ⟨k1, a', pr, pc, pl, os', k2, k3, k4, k5, k6, k7, k8⟩ => ⟨k1, a', k2, pr, pc, pl, os', ⟨keep k4.1 (by simp), k4.2⟩, keepF k5 (by simp), Paired.mapP k6 fun _ _ z => keepF z (by simp), keepF k7 (by simp), keepF k8 (by simp)⟩
    have tups := Paired.mapP pt fun (p : Addr) (kv : Key × V) (z : H2 p = some (.tup [kV kv.1, kv.2])) => (SqT.of (K := K) (keep z (by simp)) : SqT K (upd H2 ph (.dK kvs)) p [kV kv.1, kv.2])
    have fr : Fresh H nk := ⟨fun kv hk => by
      obtain ⟨nh, _, _, a', _, _, _, _, k2, k3, _⟩ := paired_mem pn hk
      exact ⟨a', k2, newf a' k3⟩, nd⟩
    have hdn : ∀ kv ∈ nk, ∃ a pr pc pl ff, kv.2 = .ref a ∧ (upd H2 ph (.dK kvs)) a = some (.dK (hdK pr pc pl ff)) := fun kv hk => by
      obtain ⟨nh, _, _, a', pr, pc, pl, _, k2, k3, k4, _⟩ := paired_mem pn hk
      exact ⟨a', pr, pc, pl, _, k2, keep k4.1 (by simp)⟩
    have dm3 : Dm S (upd H2 ph (.dK kvs)) := (dm.ext e1).ext e3
    generalize upd H2 ph (.dK kvs) = H3 at e3 hD3 hds tups hdn dm3
    have mk : mergeK [] nk = nk := by
      refine (putAll_new nk [] ?_).trans (List.nil_append _)
      rw [List.nil_append, hds.keys]
      exact List.Pairwise.map _ (fun a b h z => h (by injection z)) f.net.hs.nd
    refine ⟨D, ps', nk, rfl, .of hD3, tups, fun q nq => ?_⟩
    rw [mk]
    have e4 : Ext H3 (upd H3 q (.dK nk)) := ext_new nq
    have q4 : At S (upd H3 q (.dK nk)) q (.dK nk) := ⟨upd_same, fun z => dm3 q z nq⟩
    have nq0 : q ≠ p0 := fun z => by rw [z, e3 _ _ h1] at nq; cases nq
    generalize upd H3 q (.dK nk) = H4 at e4 q4
    have e14 := e3.trans e4
    refine ⟨_, rfl, p0, _, rfl, dput_str (e14 _ _ h1) (by simp [modK]), ?_⟩
    rw [show putK (modK md.fine ph ps md.odds pe) (Sum.inr "houses") (.ref q) = modK md.fine q ps md.odds pe from rfl]
    have u5 : Kp (one p0) H4 (upd H4 p0 (.dK (modK md.fine q ps md.odds pe))) := Kp.refl.put rfl
    have eb : Ext H (upd H4 p0 (.dK (modK md.fine q ps md.odds pe))) := kp_one_new (H0 := H) (e1.trans e14) np0
    have hds4 : HdsAt S (upd H4 p0 (.dK (modK md.fine q ps md.odds pe))) nk md.houses := Paired.mapP (hds.ext e4) fun kv nh ⟨k1, a', k2, k3⟩ => ⟨k1, a', k2, k3.lk (e14 _ _ h1) u5 (fun pr pc pl ff z => by simp [modK, hdK] at z) (by simp) (by simp)⟩
    exact ⟨_, rfl, hQ p0 _ q ps pe nk eb ⟨upd_same, fun z => dm p0 z np0⟩ ⟨by rw [upd_ne nq0]; exact q4.1, q4.2⟩ hds4 (m4.ext eb) (m5.ext eb) fr⟩
end
end Ws

set_option Elab.async false
set_option linter.all false
set_option maxRecDepth 100000
set_option maxHeartbeats 4000000
namespace Ws
open PySem PySem.Spec PyProof.Rows L2
def ModelD.behind (md : ModelD) (d : DeedD) : ModelD := { md with houses := setH md.houses d.house (d.on (getH md.houses d.house)) }
section
variable {S : Addr → Prop} {K : PySem.W.Frag} {H H1 H4 : Hp} {a a' b o q m ph : Addr} {kvs nk : List (Key × V)} {hs : Hs}
/-- a house's dict is written: another house stands as it did -/
theorem HdAt.off2 {h : HouseD} {x : List (Key × V)} (t : HdAt S H b h) (nb : b ≠ a') (ha : H a' = some (.dK x)) (e : Kp (one a') H H1) : HdAt S H1 b h := by
  obtain ⟨pr, pc, pl, os, h1, h2, h3, h4, h5⟩ := t
  exact ⟨pr, pc, pl, os, ⟨e.keep _ _ h1.1 nb, h1.2⟩, h2.off ha (by simp) e, Paired.mapP h3 fun _ _ z => z.off ha (by simp) e, h4.off ha (by simp) e, h5.off ha (by simp) e⟩
theorem hds_set {z : Str} {h' : HouseD} {x : List (Key × V)} (ha : H a' = some (.dK x)) (e : Kp (one a') H H1) (new : HdAt S H1 a' h') : ∀ {nk : List (Key × V)} {hs : Hs}, HdsAt S H nk hs → (nk.map (·.1)).Nodup → (nk.map (·.2)).Nodup →
    ((Sum.inr z, V.ref a') ∈ nk ∨ (V.ref a' ∉ nk.map (·.2) ∧ (Sum.inr z : Key) ∉ nk.map (·.1))) → HdsAt S H1 nk (setH hs z h')
  | _, _, .nil, _, _, _ => .nil
  | kv :: nk, nh :: hs, .cons ⟨h1, b, h2, h3⟩ t, n1, n2, hm => by
    simp only [List.map_cons, List.nodup_cons] at n1 n2
    by_cases ek : nh.1 = z
    · have hk : kv.1 = Sum.inr z := by rw [h1, ek]
      have hb : kv.2 = .ref a' := by
        rcases hm with hm | hm
        · rcases List.mem_cons.mp hm with q | q
          · rw [← q]
          · exact absurd (List.mem_map.mpr ⟨_, q, rfl⟩) (by rw [hk] at n1; exact n1.1)
        · exact absurd (by rw [List.map_cons]; exact List.mem_cons.mpr (.inl hk.symm)) hm.2
      have rest := hds_set ha e new t n1.2 n2.2 (.inr ⟨by rw [← hb]; exact n2.1, by rw [← hk]; exact n1.1⟩)
      refine .cons ⟨?_, a', hb, ?_⟩ rest
      · dsimp only
        rw [if_pos ek]
        exact h1
      · dsimp only
        rw [if_pos ek]
        exact new
    · have hk : ¬ kv.1 = Sum.inr z := by rw [h1]; intro q; injection q with q; exact ek q
      have hm' : (Sum.inr z, V.ref a') ∈ nk ∨ (V.ref a' ∉ nk.map (·.2) ∧ (Sum.inr z : Key) ∉ nk.map (·.1)) := by
        rcases hm with hm | hm
        · rcases List.mem_cons.mp hm with q | q
          · exact absurd (by rw [← q]) hk
          · exact .inl q
        · simp only [List.map_cons, List.mem_cons, not_or] at hm
          exact .inr ⟨hm.1.2, hm.2.2⟩
      have nb : b ≠ a' := fun q => by
        subst q
        rcases hm with hm | hm
        · rcases List.mem_cons.mp hm with q | q
          · exact hk (by rw [← q])
          · exact n2.1 (by rw [h2]; exact List.mem_map.mpr ⟨_, q, rfl⟩)
        · exact hm.1 (by rw [List.map_cons]; exact List.mem_cons.mpr (.inl h2.symm))
      refine .cons ⟨?_, b, h2, ?_⟩ (hds_set ha e new t n1.2 n2.2 hm')
      · dsimp only
        rw [if_neg ek]
        exact h1
      · dsimp only
        rw [if_neg ek]
        exact h3.off2 nb ha e
theorem val_mem {kvs : List (Key × V)} {k : Key} {v : V} (h : valV kvs k = some v) : (k, v) ∈ kvs := by
  unfold valV at h
  cases q : kvs.find? (fun kv => decide (kv.1 = k)) with
  | none => rw [q] at h; cases h
  | some p =>
    rw [q] at h
    have := List.find?_some q
    have e1 : p.1 = k := of_decide_eq_true this
    have e2 : p.2 = v := Option.some.inj h
    rw [← e1, ← e2]
    exact List.mem_of_find?_eq_some q
theorem behind_end {m' ph' ps pe pr pc pl : Addr} {os : List Addr} {md : ModelD} {z : Str} {h' : HouseD} {x : List (Key × V)} {H0 : Hp} (f : md.Fit) (e : Ext H H0) (m1 : At S H0 m' (.dK (modK md.fine ph' ps md.odds pe))) (m2 : At S H0 ph' (.dK nk)) (m3 : HdsAt S H0 nk md.houses)
    (m4 : At S H0 ps (.lst (md.some_.map V.str))) (m5 : At S H0 pe (.lst (md.entries.map V.str))) (fr : Fresh H nk) (hv : valV nk (Sum.inr z) = some (.ref a')) (ha : H0 a' = some (.dK x)) (hx : ∃ pr pc pl ff, x = hdK pr pc pl ff) (sa : ¬ S a') (e4 : Kp (one a') H0 H4)
    (p1 : At S H4 pr (.lst (os.map V.ref))) (p2 : TupsAt S H4 os h'.rules) (p3 : At S H4 pc (.lst (h'.calls.map V.str))) (p4 : At S H4 pl (.lst (h'.lost.map V.str))) (h4 : ∃ y, H4 a' = some (.dK y)) :
    Ext H (upd H4 a' (.dK (hdK pr pc pl h'.fails))) ∧ ModelAt S (upd H4 a' (.dK (hdK pr pc pl h'.fails))) m' { md with houses := setH md.houses z h' } := by
  obtain ⟨y, h4⟩ := h4
  obtain ⟨r1, r2, r3, r4, rfl⟩ := hx
  have u : Kp (one a') H4 (upd H4 a' (.dK (hdK pr pc pl h'.fails))) := Kp.refl.put rfl
  have u0 := e4.trans u
  obtain ⟨b, hb, fb⟩ := fr.new _ (val_mem hv)
  cases hb
  have new : HdAt S (upd H4 a' (.dK (hdK pr pc pl h'.fails))) a' h' := ⟨pr, pc, pl, os, ⟨upd_same, sa⟩, p1.off h4 (by simp) u, Paired.mapP p2 fun _ _ z => z.off h4 (by simp) u, p3.off h4 (by simp) u, p4.off h4 (by simp) u⟩
  have nk1 : (nk.map (·.1)).Nodup := by
    rw [m3.keys]
    exact List.Pairwise.map _ (fun a b h z => h (by injection z)) f.net.hs.nd
  refine ⟨fun c o h => u0.keep c o (e c o h) (ne_of_none h fb), ph', ps, pe, nk, m1.off ha (by simp [modK, hdK]) u0, m2.off ha (fun z => ?_) u0, hds_set ha u0 new m3 nk1 fr.nd (.inl (val_mem hv)), m4.off ha (by simp) u0, m5.off ha (by simp) u0⟩
  injection z with z
  exact hds_ne_hd m3 z
end
section
variable {P : Program} {w : World} {K : PySem.W.Frag} {mg : Str → Option Value} {base : Heap}
def sp_l_behind : Sp := fun vs H Q _ => ∃ (S : Addr → Prop) (m od : Addr) (md : ModelD) (d : DeedD), vs = [.ref m, .ref od] ∧ Dm S H ∧ ModelAt S H m md ∧ md.Fit ∧ H od = some (.tup d.vs) ∧ d.Can md.net ∧
  ∀ m' H', Ext H H' → ModelAt S H' m' (md.behind d) → Q (.ref m') H'
theorem sc_l_behind : FnScope ["_law_model_here", "_law_deed_here", "_law_found", "_law_one", "_law_edicts", "_law_name"] ["_law_model_here", "_law_deed_here"] (defScope s_l_behind) := ⟨rfl, rfl, rfl, by decide +kernel, rfl, by decide +kernel, by decide +kernel⟩
theorem ok_l_behind (x : Fx K mg w) : FnR P w K mg base CX0 2 (a_l_behind K) sp_l_behind := by
  refine okR x.F_l_behind sc_l_behind (fun _ _ _ _ _ _ us hl => match us, hl with | [_, _], _ => rfl) (fun vs H Q E h => by obtain ⟨S, m, od, md, d, rfl, dm, ma, f, hd, can, hQ⟩ := h; rfl) (fun cdv A outer s H vs Q E hr h => ?_)
  obtain ⟨S, m, od, md, d, rfl, dm, ma, f, hd, can, hQ⟩ := h
  refine ⟨_, (pss_cons (ps_set (i := 2) sc_l_behind.nd rfl (Or.inl rfl) (pe_callR (ok_l_copied x) (hr.mono (by decide)) rfl x.m_l_copied (keep_of x.F_l_copied) pass0 (pa_cons (pv 0) pa_nil)))
 (pss_cons (ps_set (i := 3) sc_l_behind.nd rfl (Or.inl rfl) (pe_dget (hu_of hr) (pe_dget (hu_of hr) (pv 2) pe_str (fun _ _ => rfl)) (pe_ix (r := rIxT K) ix_tup (pv 1) pe_int (fun _ _ => rfl)) (fun _ _ => rfl)))
 (pss_cons (ps_if (pt_cmpR op_eq (pe_ix (r := rIxT K) ix_tup (pv 1) pe_int (fun _ _ => rfl)) pe_str (nomark _))
 (pss_cons (ps_set (i := 4) sc_l_behind.nd rfl (Or.inl rfl) (pe_callTy (r := rLstOf K) call_lstK rfl x.n_list bb_list (pa_cons (pe_dget (hu_of hr) (pv 3) pe_str (fun _ _ => rfl)) pa_nil)))
 (pss_cons (ps_asg (pe_slice (r := rSlT K) sl_tup (pv 1) (po_some pe_int) po_none) (pg_sub (pv 4) (pe_ix (r := rIxT K) ix_tup (pv 1) pe_int (fun _ _ => rfl)) set_list))
 (pss_one (ps_dput (hu_of hr) (pv 3) pe_str (pv 4) rfl))))
 (pss_one (ps_if (pt_cmpR op_eq (pe_ix (r := rIxT K) ix_tup (pv 1) pe_int (fun _ _ => rfl)) pe_str (nomark _))
 (pss_cons (ps_dput (hu_of hr) (pv 3) pe_str (pe_op op_cat (pe_callTy (r := rLstOf K) call_lstK rfl x.n_list bb_list (pa_cons (pe_dget (hu_of hr) (pv 3) pe_str (fun _ _ => rfl)) pa_nil)) (pe_lst (pa_cons (pe_ix (r := rIxT K) ix_tup (pv 1) pe_int (fun _ _ => rfl)) pa_nil))) rfl)
 (pss_one (ps_dput (hu_of hr) (pv 3) pe_str (pe_op op_cat (pe_callTy (r := rLstOf K) call_lstK rfl x.n_list bb_list (pa_cons (pe_dget (hu_of hr) (pv 3) pe_str (fun _ _ => rfl)) pa_nil)) (pe_op op_rep (pe_lst (pa_cons (pe_ix (r := rIxT K) ix_tup (pv 1) pe_int (fun _ _ => rfl)) pa_nil)) (pe_callTy call_int1 rfl x.n_int bb_int (pa_cons (pe_ix (r := rIxT K) ix_tup (pv 1) pe_int (fun _ _ => rfl)) pa_nil)))) rfl)))
 (pss_cons (ps_dput (hu_of hr) (pv 3) pe_str (pe_lc (own := [("_law_name", 5)]) rfl sc_l_behind.nd (pi_listK (K := K) rfl (pe_dget (hu_of hr) (pv 3) pe_str (fun _ _ => rfl))) (blkOk_by (N := ["_law_model_here", "_law_deed_here", "_law_found", "_law_one", "_law_edicts", "_law_name"]) (sc := defScope s_l_behind) (by decide +kernel)) (fun _ _ _ _ _ => (pg_name (i := 5) sc_l_behind.nd rfl (Or.inl rfl))) (fun _ _ _ _ _ => (pts_one (pt_cmpR op_ne (pv 5) (pe_ix (r := rIxT K) ix_tup (pv 1) pe_int (fun _ _ => rfl)) (nomark _)))) (fun _ _ _ _ _ => (pv 5))) rfl)
 (pss_one (ps_dput (hu_of hr) (pv 3) pe_str (pe_lc (own := [("_law_name", 5)]) rfl sc_l_behind.nd (pi_listK (K := K) rfl (pe_dget (hu_of hr) (pv 3) pe_str (fun _ _ => rfl))) (blkOk_by (N := ["_law_model_here", "_law_deed_here", "_law_found", "_law_one", "_law_edicts", "_law_name"]) (sc := defScope s_l_behind) (by decide +kernel)) (fun _ _ _ _ _ => (pg_name (i := 5) sc_l_behind.nd rfl (Or.inl rfl))) (fun _ _ _ _ _ => (pts_one (pt_cmpR op_ne (pv 5) (pe_ix (r := rIxT K) ix_tup (pv 1) pe_int (fun _ _ => rfl)) (nomark _)))) (fun _ _ _ _ _ => (pv 5))) rfl))))))
 (pss_one (ps_ret (pv 2)))))), ?_⟩
  refine ⟨_, rfl, S, m, md, rfl, dm, ma, f, fun m' H1 ph' ps pe nk e1 m1 m2 m3 m4 m5 fr => ?_⟩
  have hd1 := e1 _ _ hd
  have hz : d.house ∈ md.houses.map (·.1) := by
    cases d with
    | rule h k r => exact can.1
    | way h o l => exact can.1
    | cut h o => exact can.1
  have at1 : atI d.vs 1 = some (.str d.house) := by cases d <;> rfl
  obtain ⟨a', hv, hda⟩ := m3.at_ _ hz
  obtain ⟨pr, pc, pl, os, g1, g2, g3, g4, g5⟩ := id hda
  have dm1 := dm.ext e1
  have sa := g1.2
  refine ⟨_, rfl, m', _, rfl, dget_str m1.1 mod_get.2.1, _, rfl, od, _, 1, _, rfl, rfl, .of hd1, at1, ph', _, rfl, dget_str m2.1 hv, ?_⟩
  have hf := f.hs _ (getH_mem hz)
  obtain ⟨X, hX⟩ : ∃ X, X = getH md.houses d.house := ⟨_, rfl⟩
  dsimp only at hf
  rw [← hX] at hf g1 g3 g4 g5
  have fin : ∀ (h' : HouseD) (H4 : Hp) (qr qc ql : Addr) (os' : List Addr), Kp (one a') H1 H4 → At S H4 qr (.lst (os'.map V.ref)) → TupsAt S H4 os' h'.rules → At S H4 qc (.lst (h'.calls.map V.str)) → At S H4 ql (.lst (h'.lost.map V.str)) → (∃ y, H4 a' = some (.dK y)) →
      h' = d.on X → Q (.ref m') (upd H4 a' (.dK (hdK qr qc ql h'.fails))) := by
    rintro h' H4 qr qc ql os' u p1 p2 p3 p4 hy rfl
    obtain ⟨q1, q2⟩ := behind_end f e1 m1 m2 m3 m4 m5 fr hv g1.1 ⟨_, _, _, _, rfl⟩ sa u p1 p2 p3 p4 hy
    exact hQ m' _ q1 (by unfold ModelD.behind; rw [← hX]; exact q2)
  have lc := hf.1.ln
  have ll := hf.1.lnl
  have l2 := hf.1.r2
  have lo := Paired.length g3
  cases d with
  | rule h k r =>
    obtain ⟨c1, c2, c3, c4⟩ := can
    have c2 : k < X.rules.length := by rw [hX]; exact c2
    have l2 : X.rules.length ≤ 2 := l2
    have lo : os.length = X.rules.length := lo
    refine ⟨_, rfl, od, _, 0, _, rfl, rfl, .of hd1, atI_nat (j := 0) rfl, rfl, true, by decide +kernel, ?_⟩
    refine ⟨_, rfl, a', _, rfl, dget_str g1.1 hd_get.1, pr, _, rfl, .inl (.of g2.1), fun l nl => ?_⟩
    have e2 : Ext H1 (upd H1 l (.lst (os.map V.ref))) := ext_new nl
    have h2 : (upd H1 l (.lst (os.map V.ref))) l = some (.lst (os.map V.ref)) := upd_same
    dsimp only [gName]
    generalize upd H1 l (.lst (os.map V.ref)) = H2 at e2 h2
    refine ⟨_, rfl, _, rfl, od, _, rfl, .of (e2 _ _ hd1), fun z => absurd z.1 (by show ¬ ((3:Nat) = 0); decide), fun p np => ?_⟩
    have e3 : Ext H2 (upd H2 p (.tup (cutV (DeedD.rule h k r).vs (some 3) none))) := ext_new np
    have h3 : (upd H2 p (.tup (cutV (DeedD.rule h k r).vs (some 3) none))) p = some (.tup r.vs) := upd_same
    generalize upd H2 p (.tup (cutV (DeedD.rule h k r).vs (some 3) none)) = H3 at e3 h3
    have e13 := e2.trans e3
    have h2' := e3 _ _ h2
    have nlp : p ≠ l := fun z => by rw [z, h2] at np; cases np
    refine ⟨_, rfl, _, rfl, od, _, 2, _, rfl, rfl, .of (e13 _ _ hd1), atI_nat (j := 2) rfl, l, _, (k : Int), k, rfl, rfl, h2', ixN_nat (by simp; omega), ?_⟩
    rw [map_set]
    have e4 : Ext H1 (upd H3 l (.lst ((os.set k p).map V.ref))) := kp_one_new (H0 := H) e13 nl
    have l4 : At S (upd H3 l (.lst ((os.set k p).map V.ref))) l (.lst ((os.set k p).map V.ref)) := ⟨upd_same, fun z => dm1 l z nl⟩
    have p4 : At S (upd H3 l (.lst ((os.set k p).map V.ref))) p (.tup r.vs) := ⟨by rw [upd_ne nlp]; exact h3, fun z => dm1.ext e2 p z np⟩
    generalize upd H3 l (.lst ((os.set k p).map V.ref)) = H4 at e4 l4 p4
    have tset : ∀ {os : List Addr} {rs : List RuleD} (k : Nat), TupsAt S H4 os rs → TupsAt S H4 (os.set k p) (rs.set k r) := by
      intro os rs k t
      induction t generalizing k with
      | nil => exact .nil
      | cons q t ih =>
        cases k with
        | zero => exact .cons p4 t
        | succ k => exact .cons q (ih k)
    refine ⟨_, rfl, _, rfl, a', _, rfl, dput_str (e4 _ _ g1.1) (by simp [hdK]), ?_⟩
    rw [show putK (hdK pr pc pl X.fails) (Sum.inr "rules") (.ref l) = hdK l pc pl X.fails from rfl]
    exact ⟨_, rfl, fin { X with rules := X.rules.set k r } H4 l pc pl (os.set k p) (.ext e4) l4 (tset k (Paired.mapP g3 fun _ _ z => z.ext e4)) (g4.ext e4) (g5.ext e4) ⟨_, e4 _ _ g1.1⟩ rfl⟩
  | way h y lo' =>
    refine ⟨_, rfl, od, _, 0, _, rfl, rfl, .of hd1, atI_nat (j := 0) rfl, rfl, false, by decide +kernel, ?_⟩
    refine ⟨_, rfl, od, _, 0, _, rfl, rfl, .of hd1, atI_nat (j := 0) rfl, rfl, true, by decide +kernel, ?_⟩
    refine ⟨_, rfl, a', _, rfl, dget_str g1.1 hd_get.2.1, pc, _, rfl, .inl (.of g4.1), fun l nl => ?_⟩
    have e2 : Ext H1 (upd H1 l (.lst (X.calls.map V.str))) := ext_new nl
    have h2 : (upd H1 l (.lst (X.calls.map V.str))) l = some (.lst (X.calls.map V.str)) := upd_same
    dsimp only [gName]
    generalize upd H1 l (.lst (X.calls.map V.str)) = H2 at e2 h2
    refine ⟨_, rfl, od, _, 2, _, rfl, rfl, .of (e2 _ _ hd1), atI_nat (j := 2) rfl, by simp [sizeLine_eq], fun l3 nl3 => ?_⟩
    have e3 : Ext H2 (upd H2 l3 (.lst [.str y])) := ext_new nl3
    have h3 : (upd H2 l3 (.lst [.str y])) l3 = some (.lst [.str y]) := upd_same
    generalize upd H2 l3 (.lst [.str y]) = H3 at e3 h3
    refine ⟨l, l3, _, _, rfl, rfl, e3 _ _ h2, h3, sz (m := 1000) (by simp; omega), fun l4 nl4 => ?_⟩
    have e14 : Ext H1 (upd H3 l4 (.lst (X.calls.map V.str ++ [.str y]))) := (e2.trans e3).trans (ext_new nl4)
    have c4 : At S (upd H3 l4 (.lst (X.calls.map V.str ++ [.str y]))) l4 (.lst ((X.calls ++ [y]).map V.str)) := ⟨by rw [upd_same, strs_snoc], fun z => (dm1.ext (e2.trans e3)) l4 z nl4⟩
    generalize upd H3 l4 (.lst (X.calls.map V.str ++ [.str y])) = H4 at e14 c4
    refine ⟨_, rfl, a', _, rfl, dput_str (e14 _ _ g1.1) (by simp [hdK]), ?_⟩
    rw [show putK (hdK pr pc pl X.fails) (Sum.inr "calls") (.ref l4) = hdK pr l4 pl X.fails from rfl]
    have u5 : Kp (one a') H1 (upd H4 a' (.dK (hdK pr l4 pl X.fails))) := (Kp.ext e14).put rfl
    have a5 : (upd H4 a' (.dK (hdK pr l4 pl X.fails))) a' = some (.dK (hdK pr l4 pl X.fails)) := upd_same
    have c5 : At S (upd H4 a' (.dK (hdK pr l4 pl X.fails))) l4 (.lst ((X.calls ++ [y]).map V.str)) := ⟨by rw [upd_ne (ne_of c4.1 (e14 _ _ g1.1) (by simp))]; exact c4.1, c4.2⟩
    generalize upd H4 a' (.dK (hdK pr l4 pl X.fails)) = H5 at u5 a5 c5
    have off : ∀ {b : Addr} {x : HO}, At S H1 b x → (∀ y, x ≠ .dK y) → At S H5 b x := fun h n => h.off g1.1 (n _) u5
    have hd5 : H5 od = some (.tup (DeedD.way h y lo').vs) := u5.keep _ _ hd1 (ne_of hd1 g1.1 (by simp))
    have dm5 := dm1.kp u5
    refine ⟨_, rfl, a', _, rfl, dget_str a5 hd_get.2.2.1, pl, _, rfl, .inl (.of (off g5 (by simp)).1), fun l6 nl6 => ?_⟩
    have e6 : Ext H5 (upd H5 l6 (.lst (X.lost.map V.str))) := ext_new nl6
    have h6 : (upd H5 l6 (.lst (X.lost.map V.str))) l6 = some (.lst (X.lost.map V.str)) := upd_same
    generalize upd H5 l6 (.lst (X.lost.map V.str)) = H6 at e6 h6
    refine ⟨_, rfl, od, _, 2, _, rfl, rfl, .of (e6 _ _ hd5), atI_nat (j := 2) rfl, by simp [sizeLine_eq], fun l7 nl7 => ?_⟩
    have e7 : Ext H6 (upd H6 l7 (.lst [.str y])) := ext_new nl7
    have h7 : (upd H6 l7 (.lst [.str y])) l7 = some (.lst [.str y]) := upd_same
    generalize upd H6 l7 (.lst [.str y]) = H7 at e7 h7
    refine ⟨_, rfl, od, _, 3, _, rfl, rfl, .of (e7 _ _ (e6 _ _ hd5)), atI_nat (j := 3) rfl, .inr ⟨lo', rfl, l7, _, _, rfl, rfl, h7, ?_, ?_, ?_, fun l8 nl8 => ?_⟩⟩
    · cases lo' <;> decide
    · cases lo' <;> decide
    · cases lo' <;> simp [sizeLine_eq]
    have rep : (List.replicate (if lo' = true then (1 : Int) else 0).toNat [V.str y]).flatten = (if lo' = true then [y] else []).map V.str := by cases lo' <;> rfl
    rw [rep]
    have e8 : Ext H7 (upd H7 l8 (.lst ((if lo' = true then [y] else []).map V.str))) := ext_new nl8
    have h8 : (upd H7 l8 (.lst ((if lo' = true then [y] else []).map V.str))) l8 = some (.lst ((if lo' = true then [y] else []).map V.str)) := upd_same
    generalize upd H7 l8 (.lst ((if lo' = true then [y] else []).map V.str)) = H8 at e8 h8
    refine ⟨l6, l8, _, _, rfl, rfl, e8 _ _ (e7 _ _ h6), h8, sz (m := 1000) (by cases lo' <;> simp <;> omega), fun l9 nl9 => ?_⟩
    have e58 := (e6.trans e7).trans e8
    have e59 : Ext H5 (upd H8 l9 (.lst (X.lost.map V.str ++ (if lo' = true then [y] else []).map V.str))) := e58.trans (ext_new nl9)
    have t9 : At S (upd H8 l9 (.lst (X.lost.map V.str ++ (if lo' = true then [y] else []).map V.str))) l9 (.lst ((if lo' then X.lost ++ [y] else X.lost).map V.str)) := ⟨by rw [upd_same]; cases lo' <;> simp, fun z => (dm5.ext e58) l9 z nl9⟩
    generalize upd H8 l9 (.lst (X.lost.map V.str ++ (if lo' = true then [y] else []).map V.str)) = H9 at e59 t9
    refine ⟨_, rfl, a', _, rfl, dput_str (e59 _ _ a5) (by simp [hdK]), ?_⟩
    rw [show putK (hdK pr l4 pl X.fails) (Sum.inr "lost") (.ref l9) = hdK pr l4 l9 X.fails from rfl]
    exact ⟨_, rfl, fin ((DeedD.way h y lo').on X) H9 pr l4 l9 os (u5.trans (.ext e59)) ((off g2 (by simp)).ext e59) (Paired.mapP g3 fun _ _ z => (off z (by simp)).ext e59) (c5.ext e59) t9 ⟨_, e59 _ _ a5⟩ rfl⟩
  | cut h y =>
    refine ⟨_, rfl, od, _, 0, _, rfl, rfl, .of hd1, atI_nat (j := 0) rfl, rfl, false, by decide +kernel, ?_⟩
    refine ⟨_, rfl, od, _, 0, _, rfl, rfl, .of hd1, atI_nat (j := 0) rfl, rfl, false, by decide +kernel, ?_⟩
    have lc : X.calls.length < 64 := lc
    have ll : X.lost.length < 64 := ll
    refine ⟨_, rfl, a', _, rfl, dget_str g1.1 hd_get.2.1, pc, rfl, ⟨_, .of g4.1⟩, fun D hD => lc_map (std_list (.of g4.1) (fun z => z)) hD (butV y) (by simp; omega) (fun v H5 Nx hv e5 q1 q2 => ?_) (fun H4 e4 hD4 => ?_)⟩
    · obtain ⟨z, hz, rfl⟩ := List.mem_map.mp hv
      refine ⟨rfl, _, rfl, _, rfl, od, _, 2, _, rfl, rfl, .of (e5 _ _ hd1), atI_nat (j := 2) rfl, rfl, _, rfl, ifb (fun hb => ?_) fun hb => ?_⟩
      · exact ⟨_, rfl, q1 _ _ Ext.rfl' (by have : z ≠ y := by simpa using hb
                                           simp [butV, this])⟩
      · exact q2 _ Ext.rfl' (by have : z = y := by simpa using hb
                                simp [butV, this])
    rw [but_strs] at hD4
    have c4 : At S H4 D (.lst ((X.calls.filter fun z => decide (z ≠ y)).map V.str)) := ⟨hD4, fun z => dm1 D z hD⟩
    refine ⟨_, rfl, a', _, rfl, dput_str (e4 _ _ g1.1) (by simp [hdK]), ?_⟩
    rw [show putK (hdK pr pc pl X.fails) (Sum.inr "calls") (.ref D) = hdK pr D pl X.fails from rfl]
    have u5 : Kp (one a') H1 (upd H4 a' (.dK (hdK pr D pl X.fails))) := (Kp.ext e4).put rfl
    have a5 : (upd H4 a' (.dK (hdK pr D pl X.fails))) a' = some (.dK (hdK pr D pl X.fails)) := upd_same
    have c5 : At S (upd H4 a' (.dK (hdK pr D pl X.fails))) D (.lst ((X.calls.filter fun z => decide (z ≠ y)).map V.str)) := ⟨by rw [upd_ne (ne_of c4.1 (e4 _ _ g1.1) (by simp))]; exact c4.1, c4.2⟩
    generalize upd H4 a' (.dK (hdK pr D pl X.fails)) = H5 at u5 a5 c5
    have off : ∀ {b : Addr} {x : HO}, At S H1 b x → (∀ y, x ≠ .dK y) → At S H5 b x := fun h n => h.off g1.1 (n _) u5
    have hd5 : H5 od = some (.tup (DeedD.cut h y).vs) := u5.keep _ _ hd1 (ne_of hd1 g1.1 (by simp))
    have dm5 := dm1.kp u5
    have g55 := off g5 (by simp)
    refine ⟨_, rfl, a', _, rfl, dget_str a5 hd_get.2.2.1, pl, rfl, ⟨_, .of g55.1⟩, fun D2 hD2 => lc_map (std_list (.of g55.1) (fun z => z)) hD2 (butV y) (by simp; omega) (fun v H6 Nx hv e6 q1 q2 => ?_) (fun H6 e6 hD6 => ?_)⟩
    · obtain ⟨z, hz, rfl⟩ := List.mem_map.mp hv
      refine ⟨rfl, _, rfl, _, rfl, od, _, 2, _, rfl, rfl, .of (e6 _ _ hd5), atI_nat (j := 2) rfl, rfl, _, rfl, ifb (fun hb => ?_) fun hb => ?_⟩
      · exact ⟨_, rfl, q1 _ _ Ext.rfl' (by have : z ≠ y := by simpa using hb
                                           simp [butV, this])⟩
      · exact q2 _ Ext.rfl' (by have : z = y := by simpa using hb
                                simp [butV, this])
    rw [but_strs] at hD6
    have t6 : At S H6 D2 (.lst ((X.lost.filter fun z => decide (z ≠ y)).map V.str)) := ⟨hD6, fun z => dm5 D2 z hD2⟩
    refine ⟨_, rfl, a', _, rfl, dput_str (e6 _ _ a5) (by simp [hdK]), ?_⟩
    rw [show putK (hdK pr D pl X.fails) (Sum.inr "lost") (.ref D2) = hdK pr D D2 X.fails from rfl]
    exact ⟨_, rfl, fin ((DeedD.cut h y).on X) H6 pr D D2 os (u5.trans (.ext e6)) ((off g2 (by simp)).ext e6) (Paired.mapP g3 fun _ _ z => (off z (by simp)).ext e6) (c5.ext e6) t6 ⟨_, e6 _ _ a5⟩ rfl⟩
end
end Ws

set_option Elab.async false
set_option linter.all false
set_option maxRecDepth 100000
set_option maxHeartbeats 4000000
namespace Ws
open PySem PySem.Spec PyProof.Rows L2
section
variable {P : Program} {w : World} {K : PySem.W.Frag} {mg : Str → Option Value} {base : Heap}
def sp_l_deed : Sp := fun vs H Q _ => ∃ (S : Addr → Prop) (d wd c m : Addr) (n : Nat) (md : ModelD), vs = [.ref d, .ref m] ∧ Dm S H ∧ DrawAt S H d wd c n ∧ n + 20 ≤ big ∧ ModelAt S H m md ∧ md.Fit ∧
  (∀ H', Kp S H H' → DrawAt S H' d wd c (n + 10) → Q .non H') ∧ ∀ (od : Addr) (dd : DeedD) (H' : Hp), Kp S H H' → DrawAt S H' d wd c (n + 10) → At S H' od (.tup dd.vs) → dd.Can md.net → Q (.ref od) H'
theorem sc_l_deed : FnScope ["_law_draw", "_law_model_here", "_law_name", "_law_other", "_law_one", "_law_way", "_law_rule_here"] ["_law_draw", "_law_model_here"] (defScope s_l_deed) := ⟨rfl, rfl, rfl, by decide +kernel, rfl, by decide +kernel, by decide +kernel⟩
theorem ok_l_deed (x : Fx K mg w) : FnR P w K mg base CX0 5 (a_l_deed K) sp_l_deed := by
  refine okR x.F_l_deed sc_l_deed (fun _ _ _ _ _ _ us hl => match us, hl with | [_, _], _ => rfl) (fun vs H Q E h => by obtain ⟨S, d, wd, c, m, n, md, rfl, dm, da, hn, ma, f, hN, hQ⟩ := h; rfl) (fun cdv A outer s H vs Q E hr h => ?_)
  obtain ⟨S, d, wd, c, m, n, md, rfl, dm, da, hn, ma, f, hN, hQ⟩ := h
  refine ⟨_, (pss_cons (ps_par (i := 2) (j := 3) rfl sc_l_deed.nd rfl rfl (by decide) rfl rfl (pa_cons (pe_callR (ok_l_pick x) (hr.mono (by decide)) rfl x.m_l_pick (keep_of x.F_l_pick) pass0 (pa_cons (pv 0) (pa_cons (pe_callB (call_sortedD rfl) rfl x.n_sorted bb_sorted (pa_cons (pe_dget (hu_of hr) (pv 1) pe_str (fun _ _ => rfl)) pa_nil)) pa_nil))) (pa_cons (pe_callR (ok_l_pick x) (hr.mono (by decide)) rfl x.m_l_pick (keep_of x.F_l_pick) pass0 (pa_cons (pv 0) (pa_cons (pe_callB (call_sortedD rfl) rfl x.n_sorted bb_sorted (pa_cons (pe_dget (hu_of hr) (pv 1) pe_str (fun _ _ => rfl)) pa_nil)) pa_nil))) pa_nil)) (by rfl))
 (pss_cons (ps_par (i := 4) (j := 5) rfl sc_l_deed.nd rfl rfl (by decide) rfl rfl (pa_cons (pe_dget (hu_of hr) (pe_dget (hu_of hr) (pv 1) pe_str (fun _ _ => rfl)) (pv 2) (fun _ _ => rfl)) (pa_cons (pe_callR (ok_l_take x) (hr.mono (by decide)) rfl x.m_l_take (keep_of x.F_l_take) pass0 (pa_cons (pv 0) (pa_cons pe_int pa_nil))) pa_nil)) (by rfl))
 (pss_cons (ps_if (pt_cmpR op_eq (pv 5) pe_int (nomark _))
 (pss_cons (ps_set (i := 6) sc_l_deed.nd rfl (Or.inl rfl) (pe_callR (ok_l_rule x) (hr.mono (by decide)) rfl x.m_l_rule (keep_of x.F_l_rule) pass0 (pa_cons (pv 0) (pa_cons (pv 1) (pa_cons (pe_lst (pa_cons (pe_callR (ok_l_take x) (hr.mono (by decide)) rfl x.m_l_take (keep_of x.F_l_take) pass0 (pa_cons (pv 0) (pa_cons (pe_op op_add (pe_dget (hu_of hr) (pv 1) pe_str (fun _ _ => rfl)) pe_int) pa_nil))) pa_nil)) pa_nil)))))
 (pss_one (ps_ret (pe_op (show OpR _ _ (rCatT K) from op_catT) (pe_tup (pa_cons pe_str (pa_cons (pv 2) (pa_cons (pe_callR (ok_l_take x) (hr.mono (by decide)) rfl x.m_l_take (keep_of x.F_l_take) pass0 (pa_cons (pv 0) (pa_cons (pe_callB (r := rLenK K) call_lenK rfl x.n_len bb_len (pa_cons (pe_dget (hu_of hr) (pv 4) pe_str (fun _ _ => rfl)) pa_nil)) pa_nil))) pa_nil)))) (pv 6)))))
 pss_nil)
 (pss_cons (ps_if (pt_cmpR op_eq (pv 5) pe_int (nomark _))
 (pss_one (ps_ret (pe_ifExp (pt_cmpR (show OpR _ _ (rIn K false) from op_in_seq) (pv 3) (pe_dget (hu_of hr) (pv 4) pe_str (fun _ _ => rfl)) rfl) pe_non (pe_tup (pa_cons pe_str (pa_cons (pv 2) (pa_cons (pv 3) (pa_cons (pe_cmpR op_eq (pe_callR (ok_l_take x) (hr.mono (by decide)) rfl x.m_l_take (keep_of x.F_l_take) pass0 (pa_cons (pv 0) (pa_cons pe_int pa_nil))) pe_int (nomark _)) pa_nil))))))))
 pss_nil)
 (pss_one (ps_ret (pe_ifExp (pt_cmpR (show OpR _ _ (rIn K false) from op_in_seq) (pv 3) (pe_dget (hu_of hr) (pv 4) pe_str (fun _ _ => rfl)) rfl) (pe_tup (pa_cons pe_str (pa_cons (pv 2) (pa_cons (pv 3) pa_nil)))) pe_non))))))), ?_⟩
  have hb : n + 20 ≤ 1099511627776 := hn
  obtain ⟨ph, ps, pe, kvs, m1, m2, m3, m4, m5⟩ := id ma
  have l1 : 1 ≤ md.houses.length := f.net.hs.l1
  have l8 : md.houses.length ≤ 8 := f.net.hs.l2
  have names : md.net.names = md.houses.map (·.1) := rfl
  refine ⟨_, rfl, _, rfl, m, _, rfl, dget_str m1.1 mod_get.2.1, ph, kvs, md.houses.map (·.1), rfl, .inl m2.1, m3.keys, by simp; omega, fun ys p py sy np => ?_⟩
  have e1 : Ext H (upd H p (.lst (ys.map V.str))) := ext_new np
  have a1 : At S (upd H p (.lst (ys.map V.str))) p (.lst (ys.map V.str)) := ⟨upd_same, fun z => dm p z np⟩
  generalize upd H p (.lst (ys.map V.str)) = H1 at e1 a1
  have ly : ys.length = md.houses.length := by rw [py.length_eq, List.length_map]
  have dm1 := dm.ext e1
  refine ⟨S, d, wd, c, n, _, rfl, dm1, da.ext e1, by show n ≤ 1099511627776; omega, .inl ⟨p, _, rfl, a1, fun z => by rw [List.map_eq_nil_iff] at z; rw [z] at ly; simp at ly; omega, by simp; omega, fun y hy H2 u2 da2 => ?_⟩⟩
  obtain ⟨h, hh, rfl⟩ := List.mem_map.mp hy
  have hh : h ∈ md.houses.map (·.1) := py.mem_iff.mp hh
  have dm2 := dm1.kp u2
  have u02 := (Kp.ext (S := S) e1).trans u2
  refine ⟨_, rfl, _, rfl, m, _, rfl, dget_str (m1.kp u02).1 mod_get.2.1, ph, kvs, md.houses.map (·.1), rfl, .inl (m2.kp u02).1, m3.keys, by simp; omega, fun zs q pz sz np2 => ?_⟩
  have e3 : Ext H2 (upd H2 q (.lst (zs.map V.str))) := ext_new np2
  have a3 : At S (upd H2 q (.lst (zs.map V.str))) q (.lst (zs.map V.str)) := ⟨upd_same, fun z => dm2 q z np2⟩
  generalize upd H2 q (.lst (zs.map V.str)) = H3 at e3 a3
  have lz : zs.length = md.houses.length := by rw [pz.length_eq, List.length_map]
  have dm3 := dm2.ext e3
  refine ⟨S, d, wd, c, n + 1, _, rfl, dm3, da2.ext e3, by show n + 1 ≤ 1099511627776; omega, .inl ⟨q, _, rfl, a3, fun z => by rw [List.map_eq_nil_iff] at z; rw [z] at lz; simp at lz; omega, by simp; omega, fun y hy H4 u4 da4 => ?_⟩⟩
  obtain ⟨o, ho, rfl⟩ := List.mem_map.mp hy
  have ho : o ∈ md.houses.map (·.1) := pz.mem_iff.mp ho
  have u04 := u02.trans ((Kp.ext e3).trans u4)
  have dm4 := dm.kp u04
  obtain ⟨a', hv, hda⟩ := (m3.kp u04).at_ _ hh
  obtain ⟨X, hX⟩ : ∃ X, X = getH md.houses h := ⟨_, rfl⟩
  have hX' : X = getH md.net.houses h := hX
  rw [← hX] at hda
  obtain ⟨pr, pc, pl, os, g1, g2, g3, g4, g5⟩ := id hda
  refine ⟨_, _, rfl, _, rfl, m, _, rfl, dget_str (m1.kp u04).1 mod_get.2.1, _, rfl, ph, _, rfl, dget_str (m2.kp u04).1 hv, _, rfl, S, d, wd, c, n + 2, 3, rfl, dm4, da4, by show n + 2 ≤ 1099511627776; omega, by decide, by decide, fun k H5 k0 k1 u5 da5 => ?_⟩
  have u05 := u04.trans u5
  have dm5 := dm4.kp u5
  have hf := f.hs _ (getH_mem hh)
  dsimp only at hf
  rw [← hX] at hf
  have lo := Paired.length g3
  dsimp only [gName]
  refine ⟨_, _, rfl, _, rfl, rfl, _, rfl, ifb (fun hw => ?_) fun hw => ?_⟩
  · have nf1 : 1 ≤ md.fine := f.net.f1
    have nf2 : md.fine ≤ 1000 := f.net.f2
    refine ⟨_, rfl, _, rfl, _, rfl, _, rfl, m, _, rfl, dget_str (m1.kp u05).1 mod_get.1, _, _, rfl, rfl, S, d, wd, c, n + 3, md.fine + 1, rfl, dm5, da5, by show n + 3 ≤ 1099511627776; omega, by omega, by omega, fun s H6 s0 s1 u6 da6 => ?_⟩
    refine ⟨by simp [sizeLine_eq], fun l7 nl7 => ?_⟩
    have dm6 := dm5.kp u6
    have e7 : Ext H6 (upd H6 l7 (.lst [.int s])) := ext_new nl7
    have a7 : At S (upd H6 l7 (.lst [.int s])) l7 (.lst ([s].map V.int)) := ⟨upd_same, fun z => dm6 l7 z nl7⟩
    generalize upd H6 l7 (.lst [.int s]) = H7 at e7 a7
    have u07 := (u05.trans u6).trans (.ext e7)
    have dm7 := dm.kp u07
    refine ⟨S, d, wd, c, m, l7, ps, n + 4, _, md.fine, md.odds, md.some_, [s], rfl, dm7, da6.ext e7, by show n + 4 + 10 ≤ 1099511627776; omega, ⟨m1.kp u07, mod_get.1, mod_get.2.2.1, mod_get.2.2.2.1, m4.kp u07, f.so, f.sl, f.net.f1, f.net.f2, f.o1, f.o2⟩, a7, by simp, fun t ht => by rw [List.mem_singleton.mp ht]; omega, fun q r H8 u8 da8 aq rok rsh _ => ?_⟩
    have u58 := (u6.trans (.ext e7)).trans u8
    have dm8 := dm5.kp u58
    have g18 := g1.kp (u5.trans u58)
    have l2 := hf.1.r2
    have hX1 := hf.1.r1
    refine ⟨_, rfl, _, rfl, _, rfl, a', _, rfl, dget_str g18.1 hd_get.1, _, _, rfl, .inl ⟨_, .of (g2.kp (u5.trans u58)).1, rfl⟩, S, d, wd, c, n + 4 + 5, _, rfl, dm8, da8, by show n + 4 + 5 ≤ 1099511627776; omega, by simp; omega, by simp; omega, fun t H9 t0 t1 u9 da9 => ?_⟩
    obtain ⟨j, rfl⟩ := Int.eq_ofNat_of_zero_le t0
    have u89 := u8.trans u9
    refine ⟨by simp [sizeLine_eq], fun p1 np1 => ?_⟩
    have dm9 := dm8.kp u9
    have e10 : Ext H9 (upd H9 p1 (.tup [.str "rule", .str h, .int (j : Nat)])) := ext_new np1
    have h10 : (upd H9 p1 (.tup [.str "rule", .str h, .int (j : Nat)])) p1 = some (.tup [.str "rule", .str h, .int (j : Nat)]) := upd_same
    generalize upd H9 p1 (.tup [.str "rule", .str h, .int (j : Nat)]) = H10 at e10 h10
    refine ⟨_, rfl, p1, q, _, _, rfl, rfl, .of h10, .of (e10 _ _ (aq.kp u9).1), by simp, by simp [RuleD.vs, sizeLine_eq], fun z => by simp [RuleD.vs] at z, fun _ p2 np2 => ?_⟩
    have u09 : Kp S H (upd H10 p2 (.tup (DeedD.rule h j r).vs)) := ((u05.trans (u58.trans u9)).trans (.ext e10)).add np2
    exact hQ p2 (.rule h j r) _ u09 ((da9.ext e10).ext (ext_new np2) |>.more (by omega)) ⟨upd_same, fun z => dm9.ext e10 p2 z np2⟩ ⟨hh, by rw [← hX']; rw [List.length_map] at t1; omega, rok, rsh⟩
  · refine ⟨_, rfl, rfl, _, rfl, ifb (fun hw2 => ?_) fun hw2 => ?_⟩
    · refine ⟨_, rfl, _, rfl, a', _, rfl, dget_str (g1.kp u5).1 hd_get.2.1, pc, _, rfl, .inl (.of (g4.kp u5).1), rfl, flat_strs _, _, rfl, ifb (fun hi => hN _ u05 (da5.more (by omega))) fun hi => ?_⟩
      have hi : o ∉ X.calls := by simpa [inV_str] using hi
      refine ⟨_, rfl, _, rfl, _, rfl, S, d, wd, c, n + 3, 3, rfl, dm5, da5, by show n + 3 ≤ 1099511627776; omega, by decide, by decide, fun t H6 t0 t1 u6 da6 => ⟨rfl, by simp [sizeLine_eq], fun p np => ?_⟩⟩
      exact hQ p (.way h o (decide (V.int t = V.int 0))) _ ((u05.trans u6).add np) ((da6.ext (ext_new np)).more (by omega)) ⟨upd_same, fun z => dm5.kp u6 p z np⟩ ⟨hh, ho, by rw [← hX']; exact hi⟩
    · refine ⟨_, rfl, _, rfl, a', _, rfl, dget_str (g1.kp u5).1 hd_get.2.1, pc, _, rfl, .inl (.of (g4.kp u5).1), rfl, flat_strs _, _, rfl, ifb (fun hi => ?_) fun hi => hN _ u05 (da5.more (by omega))⟩
      have hi : o ∈ X.calls := by simpa [inV_str] using hi
      refine ⟨_, rfl, _, rfl, by simp [sizeLine_eq], fun p np => ?_⟩
      exact hQ p (.cut h o) _ (u05.add np) ((da5.ext (ext_new np)).more (by omega)) ⟨upd_same, fun z => dm5 p z np⟩ ⟨hh, ho, by rw [← hX']; exact hi⟩
end
end Ws

set_option Elab.async false
set_option linter.all false
set_option maxRecDepth 100000
set_option maxHeartbeats 8000000
namespace Ws
open PySem PySem.Spec PyProof.Rows L2
theorem for_enum {S : Addr → Prop} {K : PySem.W.Frag} {a : Addr} {H0 : Hp} {xs : List V} {g : TG} {tb : TS} {D : Ends} {σ : L2.St} {H : Hp} (ha : SqL K H0 a xs) (na : ¬ S a) (Pv : Nat → L2.St → Hp → Prop) (h0 : Pv 0 σ H) (hk : ∀ i σ H, Pv i σ H → Kp S H0 H)
    (hs : ∀ i x σ H T, xs[i]? = some x → Pv i σ H → H T = none → g (.ref T) σ (upd H T (.tup [.int (i : Nat), x])) fun σ2 H2 => tb { D with nx := Pv (i + 1), ct := Pv (i + 1), bk := D.nx } σ2 H2) (hd : ∀ σ H, Pv xs.length σ H → D.nx σ H) :
    ∃ W : Nat → Nat → L2.St → Hp → Prop, (∃ m, W 0 m σ H) ∧ ∀ i m σ H, W i m σ H →
      ((Ite K a).stop i H ∧ D.nx σ H) ∨ ((Ite K a).go i H ∧ ∃ N : L2.St → Hp → Prop, (∀ σ' H', N σ' H' → ∃ m', m' < m ∧ W (i + 1) m' σ' H') ∧ ∀ x H', (Ite K a).yld i H x H' → g x σ H' fun σ2 H2 => tb { D with nx := N, ct := N, bk := D.nx } σ2 H2) := by
  refine ⟨fun i m σ H => m = xs.length - i ∧ i ≤ xs.length ∧ Pv i σ H, ⟨_, rfl, Nat.zero_le _, h0⟩, fun i m σ H ⟨em, le, h⟩ => ?_⟩
  have h' := sqL_kp ha na (hk _ _ _ h)
  by_cases e : i = xs.length
  · exact .inl ⟨⟨xs, h', by omega⟩, hd σ H (e ▸ h)⟩
  · have lt : i < xs.length := by omega
    have hx := List.getElem?_eq_getElem lt
    refine .inr ⟨⟨xs, _, h', hx⟩, fun σ' H' => Pv (i + 1) σ' H', fun σ' H' h' => ⟨_, by omega, rfl, by omega, h'⟩, fun x H' y => ?_⟩
    obtain ⟨T, z, rfl, nT, rfl, hz⟩ := y
    have := hz xs h'
    exact hs i z σ _ T this h nT
section
variable {S : Addr → Prop} {J : It} {H0 H1 : Hp} {g : TG} {tt : TT} {te : TE} {vs : List Nat} {σ : L2.St} {d wd c D : Addr} {n : Nat} {Qd : Hp → Prop}
/-- words kept as a draw says -/
theorem lc_drawn {ys : List Str} (st : Std S J H1 (ys.map V.str)) (dm : Dm S H1) (da : DrawAt S H1 d wd c n) (hD : H1 D = none) (hl : ys.length ≤ 64)
    (hs : ∀ y i H (Nx : Hp → Prop), y ∈ ys → i < ys.length → Kp S H1 H → Dm S H → DrawAt S H d wd c (n + i) →
      (∀ H3, Kp S H H3 → DrawAt S H3 d wd c (n + i + 1) → ∃ acc, H3 D = some (.lst acc) ∧ acc.length < sizeLine ∧ Nx (upd H3 D (.lst (acc ++ [.str y])))) → (∀ H3, Kp S H H3 → DrawAt S H3 d wd c (n + i + 1) → Nx H3) →
      g (.str y) (wipe σ vs) H fun σ2 H2 => wipe σ2 vs = wipe σ vs ∧ tt σ2 H2 fun b H3 =>
        if b = true then te σ2 H3 fun y H4 => ∃ acc, H4 D = some (.lst acc) ∧ acc.length < sizeLine ∧ Nx (upd H4 D (.lst (acc ++ [y]))) else Nx H3)
    (hd : ∀ H (zs : List Str), Kp S H1 H → DrawAt S H d wd c (n + ys.length) → At S H D (.lst (zs.map V.str)) → zs.Sublist ys → Qd H) :
    ∃ W : Nat → Nat → Hp → Prop, (∃ m, W 0 m (upd H1 D (.lst []))) ∧ ∀ i m H, W i m H →
      (J.stop i H ∧ Qd H) ∨ (J.go i H ∧ ∃ Nx : Hp → Prop, (∀ H', Nx H' → ∃ m', m' < m ∧ W (i + 1) m' H') ∧ ∀ x H', J.yld i H x H' → g x (wipe σ vs) H' fun σ2 H2 => wipe σ2 vs = wipe σ vs ∧ tt σ2 H2 fun b H3 =>
        if b = true then te σ2 H3 fun y H4 => ∃ acc, H4 D = some (.lst acc) ∧ acc.length < sizeLine ∧ Nx (upd H4 D (.lst (acc ++ [y]))) else Nx H3) := by
  have nD : ¬ S D := fun z => dm D z hD
  obtain ⟨qd, qw, qc⟩ := da.ne hD
  refine lc_std st (fun i H => Kp S H1 H ∧ DrawAt S H d wd c (n + i) ∧ ∃ zs : List Str, H D = some (.lst (zs.map V.str)) ∧ zs.Sublist (ys.take i)) ⟨.new hD, da.ext (ext_new hD), [], upd_same, by simp⟩ (fun i H h => h.1) (fun i x H e ⟨u, da', zs, hz, sub⟩ => ?_) (fun H ⟨u, da', zs, hz, sub⟩ => ?_)
  · obtain ⟨y, hy, rfl⟩ : ∃ y, ys[i]? = some y ∧ x = .str y := by
      rw [List.getElem?_map] at e
      cases q : ys[i]? with
      | none => rw [q] at e; cases e
      | some y => rw [q] at e; exact ⟨y, rfl, (Option.some.inj e).symm⟩
    have hi := (List.getElem?_eq_some_iff.mp hy).1
    have lz := sub.length_le
    have lt : (ys.take i).length ≤ ys.length := List.length_take_le' _ _
    refine hs y i H _ (List.mem_of_getElem? hy) hi u (dm.kp u) da' (fun H3 u3 da3 => ?_) fun H3 u3 da3 => ?_
    · have h3 := u3.keep _ _ hz nD
      have uD : Kp (one D) H3 (upd H3 D (.lst (zs.map V.str ++ [.str y]))) := Kp.refl.put rfl
      refine ⟨_, h3, ?_, ⟨fun a o h ns => ?_, fun a h => ?_⟩, da3.kp uD qd qw qc, zs ++ [y], by rw [upd_same]; simp, ?_⟩
      · have := line1001
        rw [List.length_map]
        omega
      · rw [upd_ne (ne_of_none h hD)]
        exact (u.trans u3).keep a o h ns
      · exact uD.dom a ((u.trans u3).dom a h)
      · rw [take_one hy]
        exact sub.append (List.Sublist.refl _)
    · refine ⟨u.trans u3, da3, zs, u3.keep _ _ hz nD, ?_⟩
      rw [take_one hy]
      exact sub.trans (List.sublist_append_left _ _)
  · rw [List.length_map] at da' sub
    rw [List.take_length] at sub
    exact hd H zs u da' ⟨hz, nD⟩ sub
end
section
variable {P : Program} {w : World} {K : PySem.W.Frag} {mg : Str → Option Value} {base : Heap}
theorem pick_new {S : Addr → Prop} {H : Hp} {d wd c : Addr} {n : Nat} {Q : VK} {E : XK} (xs : List V) (dm : Dm S H) (da : DrawAt S H d wd c n) (hn : n ≤ big) (h0 : xs ≠ []) (hl : xs.length ≤ 1000)
    (k : ∀ y ∈ xs, ∀ H', Kp S H H' → DrawAt S H' d wd c (n + 1) → Q y H') : xs.length ≤ sizeLine ∧ ∀ p, H p = none → sp_l_pick [.ref d, .ref p] (upd H p (.lst xs)) Q E :=
  ⟨Nat.le_trans hl (Nat.le_of_lt line1001), fun p np => ⟨S, d, wd, c, n, _, rfl, dm.ext (ext_new np), da.ext (ext_new np), hn, .inl ⟨p, xs, rfl, ⟨upd_same, fun z => dm p z np⟩, h0, hl, fun y hy H' u da' => k y hy H' ((Kp.ext (ext_new np)).trans u) da'⟩⟩⟩
theorem kp_put_new {S : Addr → Prop} {H H' : Hp} {a : Addr} {o : HO} (u : Kp S H H') (h : H a = none) : Kp S H (upd H' a o) := ⟨fun b x hb ns => by
  rw [upd_ne (ne_of_none hb h)]
  exact u.keep b x hb ns, fun b hb => by
  by_cases z : b = a
  · subst z; rw [upd_same]; exact fun z => nomatch z
  · rw [upd_ne z]; exact u.dom b hb⟩
theorem kp_none {S : Addr → Prop} {H H' : Hp} {a : Addr} (u : Kp S H H') (h : H' a = none) : H a = none := by
  cases q : H a with
  | none => rfl
  | some x => exact absurd h (u.dom a (by rw [q]; exact fun z => nomatch z))
/-- under a change of what was new -/
theorem DrawAt.putn {S : Addr → Prop} {H' : Hp} {d w c a : Addr} {n : Nat} {o : HO} (h : DrawAt S H' d w c n) (q : d ≠ a ∧ w ≠ a ∧ c ≠ a) : DrawAt S (upd H' a o) d w c n := h.kp (T := one a) (Kp.refl.put rfl) q.1 q.2.1 q.2.2
def modP (f : Int) (ph ps : Addr) : List (Key × V) := [(Sum.inr "fine", .int f), (Sum.inr "houses", .ref ph), (Sum.inr "some", .ref ps)]
def modO (f : Int) (ph ps : Addr) (od : Int) : List (Key × V) := [(Sum.inr "fine", .int f), (Sum.inr "houses", .ref ph), (Sum.inr "some", .ref ps), (Sum.inr "odds", .int od)]
theorem modO_get {f od : Int} {ph ps : Addr} : valV (modO f ph ps od) (Sum.inr "fine") = some (.int f) ∧ valV (modO f ph ps od) (Sum.inr "houses") = some (.ref ph) ∧ valV (modO f ph ps od) (Sum.inr "some") = some (.ref ps) ∧ valV (modO f ph ps od) (Sum.inr "odds") = some (.int od) := ⟨rfl, rfl, rfl, rfl⟩
theorem valV_none {kvs : List (Key × V)} {k : Key} (h : k ∉ kvs.map (·.1)) : valV kvs k = none := by
  unfold valV
  have : kvs.find? (fun kv => decide (kv.1 = k)) = none := List.find?_eq_none.mpr fun kv hk z => h (List.mem_map.mpr ⟨kv, hk, of_decide_eq_true z⟩)
  rw [this]
  rfl
theorem take_new {α : Type} {xs : List α} {i : Nat} {x : α} (nd : xs.Nodup) (h : xs[i]? = some x) : x ∉ xs.take i := fun hm => by
  have : (xs.take (i + 1)).Nodup := nd.sublist (List.take_sublist _ _)
  rw [take_one h, List.nodup_append] at this
  exact absurd rfl (this.2.2 _ hm _ (by simp))
/-- one of two ways, then on alike -/
theorem tif_go {t : TT} {ta tb : TE} {σ : L2.St} {H : Hp} {Q : VK} (I : V → Hp → Prop) (tail : ∀ v H', I v H' → Q v H') (h : (∀ v H', I v H' → Q v H') → t σ H fun c H1 => if c = true then ta σ H1 Q else tb σ H1 Q) : tIf t ta tb σ H Q := h tail
/-- a drawn house -/
structure Good (nms : List Str) (fine : Int) (h : HouseD) : Prop where
  fit : h.Fit
  ok : ∀ r ∈ h.rules, r.ok ∧ r.share ≤ fine ∧ r.mark ≠ "qqq"
  cl : ∀ z ∈ h.calls, z ∈ nms
theorem hdsat_lk {S : Addr → Prop} {H H1 : Hp} {kvs : List (Key × V)} {hs : Hs} {o : Addr} {v : HO} (t : HdsAt S H kvs hs) (ho : H o = some v) (e : Kp (one o) H H1) (n1 : ∀ pr pc pl f, v ≠ .dK (hdK pr pc pl f)) (n2 : ∀ xs, v ≠ .lst xs) (n3 : ∀ xs, v ≠ .tup xs) : HdsAt S H1 kvs hs := Paired.mapP t fun kv nh ⟨h1, a, h2, h3⟩ => ⟨h1, a, h2, h3.lk ho e n1 n2 n3⟩
theorem cut_from {xs : List V} {j : Nat} (h : j ≤ xs.length) : cutV xs (some (j : Int)) none = xs.drop j := by
  unfold cutV
  rw [HT.sIx_nat, show HT.sIx xs.length xs.length none = xs.length from rfl, Nat.min_eq_left h, List.take_of_length_le (by rw [List.length_drop]; exact Nat.le_refl _)]
def sp_l_model : Sp := fun vs H Q _ => ∃ (S : Addr → Prop) (d wd c : Addr) (n most : Nat), vs = [.ref d, .int (most : Nat)] ∧ Dm S H ∧ DrawAt S H d wd c n ∧ n + 400 ≤ big ∧ 1 ≤ most ∧ most ≤ 8 ∧
  ∀ (m : Addr) (md : ModelD) (H' : Hp), Kp S H H' → DrawAt S H' d wd c (n + 300) → ModelAt S H' m md → md.Fit → md.houses.length ≤ most → (∀ p ∈ md.houses, ∀ r ∈ p.2.rules, r.mark ≠ "qqq") → Q (.ref m) H'
theorem sc_l_model : FnScope ["_law_draw", "_law_most", "_law_names_here", "_law_fine", "_law_model_here", "_law_shares", "_law_houses", "_law_wide", "_law_rings", "_law_pairs", "_law_at", "_law_name", "_law_some", "_law_calls", "_law_lost", "_law_rules", "_law_k", "_law_other"] ["_law_draw", "_law_most"] (defScope s_l_model) := ⟨rfl, rfl, rfl, by decide +kernel, rfl, by decide +kernel, by decide +kernel⟩
theorem ok_l_model (x : Fx K mg w) : FnR P w K mg base CX0 5 (a_l_model K) sp_l_model := by
  refine okR x.F_l_model sc_l_model (fun _ _ _ _ _ _ us hl => match us, hl with | [_, _], _ => rfl) (fun vs H Q E h => by obtain ⟨S, d, wd, c, n, most, rfl, dm, da, hn, hm1, hm8, hQ⟩ := h; rfl) (fun cdv A outer s H vs Q E hr h => ?_)
  obtain ⟨S, d, wd, c, n, most, rfl, dm, da, hn, hm1, hm8, hQ⟩ := h
  refine ⟨_, (pss_cons (ps_asg (pe_tup (pa_cons (pe_callR (ok_l_names x) (hr.mono (by decide)) rfl x.m_l_names (keep_of x.F_l_names) pass0 (pa_cons (pv 0) (pa_cons (pe_op op_add pe_int (pe_callR (ok_l_take x) (hr.mono (by decide)) rfl x.m_l_take (keep_of x.F_l_take) pass0 (pa_cons (pv 0) (pa_cons (pv 1) pa_nil)))) pa_nil))) (pa_cons (pe_callR (ok_l_pick x) (hr.mono (by decide)) rfl x.m_l_pick (keep_of x.F_l_pick) pass0 (pa_cons (pv 0) (pa_cons (pe_lst (pa_cons pe_int (pa_cons pe_int (pa_cons pe_int (pa_cons pe_int (pa_cons pe_int (pa_cons pe_int (pa_cons pe_int pa_nil)))))))) pa_nil))) pa_nil))) (pg_tupK (K := K) (n := 2) rfl rfl (pgs_cons (pg_name (i := 2) sc_l_model.nd rfl (Or.inl rfl)) (pgs_cons (pg_name (i := 3) sc_l_model.nd rfl (Or.inr rfl)) pgs_nil))))
 (pss_cons (ps_set (i := 4) sc_l_model.nd rfl (Or.inr rfl) (pe_disp (pps_cons pe_str (pv 3) (pps_cons pe_str pe_dnewK (pps_cons pe_str (pe_callR (ok_l_pick x) (hr.mono (by decide)) rfl x.m_l_pick (keep_of x.F_l_pick) pass0 (pa_cons (pv 0) (pa_cons (pe_lst (pa_cons (pe_lst pa_nil) (pa_cons (pe_lst (pa_cons pe_str pa_nil)) (pa_cons (pe_lst (pa_cons pe_str (pa_cons pe_str pa_nil))) (pa_cons (pe_lst (pa_cons pe_str (pa_cons pe_str pa_nil))) pa_nil))))) pa_nil))) pps_nil))) rfl rfl (by simp) (by decide)))
 (pss_cons (ps_dput (hu_of hr) (pv 4) pe_str (pe_callR (ok_l_pick x) (hr.mono (by decide)) rfl x.m_l_pick (keep_of x.F_l_pick) pass0 (pa_cons (pv 0) (pa_cons (pe_lst (pa_cons pe_int (pa_cons pe_int (pa_cons pe_int pa_nil)))) pa_nil))) rfl)
 (pss_cons (ps_asg (pe_tup (pa_cons (pe_lc (own := [("_law_k", 16)]) (tt := tYes) rfl sc_l_model.nd (pi_range1 rfl x.n_range (pa_cons (pe_callR (ok_l_pick x) (hr.mono (by decide)) rfl x.m_l_pick (keep_of x.F_l_pick) pass0 (pa_cons (pv 0) (pa_cons (pe_lst (pa_cons pe_int (pa_cons pe_int (pa_cons pe_int pa_nil)))) pa_nil))) pa_nil)) (blkOk_by (N := ["_law_draw", "_law_most", "_law_names_here", "_law_fine", "_law_model_here", "_law_shares", "_law_houses", "_law_wide", "_law_rings", "_law_pairs", "_law_at", "_law_name", "_law_some", "_law_calls", "_law_lost", "_law_rules", "_law_k", "_law_other"]) (sc := defScope s_l_model) (by decide +kernel)) (fun _ _ _ _ _ => (pg_name (i := 16) sc_l_model.nd rfl (Or.inl rfl))) (fun _ _ _ _ _ => pts_nil) (fun _ _ _ _ _ => (pe_callR (ok_l_take x) (hr.mono (by decide)) rfl x.m_l_take (keep_of x.F_l_take) pass0 (pa_cons (pv 0) (pa_cons (pe_op op_add (pv 3) pe_int) pa_nil))))) (pa_cons (pe_dget (hu_of hr) (pv 4) pe_str (fun _ _ => rfl)) pa_nil))) (pg_tupK (K := K) (n := 2) rfl rfl (pgs_cons (pg_name (i := 5) sc_l_model.nd rfl (Or.inr rfl)) (pgs_cons (pg_name (i := 6) sc_l_model.nd rfl (Or.inl rfl)) pgs_nil))))
 (pss_cons (ps_asg (pe_tup (pa_cons (pe_callR (ok_l_pick x) (hr.mono (by decide)) rfl x.m_l_pick (keep_of x.F_l_pick) pass0 (pa_cons (pv 0) (pa_cons (pe_lst (pa_cons pe_int (pa_cons pe_int (pa_cons pe_int pa_nil)))) pa_nil))) (pa_cons (pe_cmpR op_eq (pe_callR (ok_l_take x) (hr.mono (by decide)) rfl x.m_l_take (keep_of x.F_l_take) pass0 (pa_cons (pv 0) (pa_cons pe_int pa_nil))) pe_int (nomark _)) (pa_cons (pe_callR (ok_l_pick x) (hr.mono (by decide)) rfl x.m_l_pick (keep_of x.F_l_pick) pass0 (pa_cons (pv 0) (pa_cons (pe_lst (pa_cons pe_int (pa_cons pe_int (pa_cons pe_int pa_nil)))) pa_nil))) pa_nil)))) (pg_tupK (K := K) (n := 3) rfl rfl (pgs_cons (pg_name (i := 7) sc_l_model.nd rfl (Or.inr rfl)) (pgs_cons (pg_name (i := 8) sc_l_model.nd rfl (Or.inl rfl)) (pgs_cons (pg_name (i := 9) sc_l_model.nd rfl (Or.inl rfl)) pgs_nil)))))
 (pss_cons (ps_for PassesOwn.never rfl (pi_enum rfl x.n_enumerate (pa_cons (pv 2) pa_nil)) (pg_tupK (K := K) (n := 2) rfl rfl (pgs_cons (pg_name (i := 10) sc_l_model.nd rfl (Or.inl rfl)) (pgs_cons (pg_name (i := 11) sc_l_model.nd rfl (Or.inl rfl)) pgs_nil)))
 (pss_cons (ps_set (i := 12) sc_l_model.nd rfl (Or.inl rfl) (pe_ifExp (pt_val (pv 8)) (pv 2) (pe_slice (r := rSlL K) sl_list (pv 2) (po_some (pe_op op_add (pv 10) pe_int)) po_none)))
 (pss_cons (ps_setLc (i := 13) (own := [("_law_other", 17)]) rfl sc_l_model.nd rfl rfl (sw_true rfl rfl rfl (by decide +kernel)) (pi_listK (K := K) rfl (pv 12)) (blkOk_by (N := ["_law_draw", "_law_most", "_law_names_here", "_law_fine", "_law_model_here", "_law_shares", "_law_houses", "_law_wide", "_law_rings", "_law_pairs", "_law_at", "_law_name", "_law_some", "_law_calls", "_law_lost", "_law_rules", "_law_k", "_law_other"]) (sc := defScope s_l_model) (by decide +kernel)) (fun _ _ _ _ _ => (pg_name (i := 17) sc_l_model.nd rfl (Or.inl rfl))) (fun _ _ _ _ _ => (pts_one (pt_cmpR op_eq (pe_callR (ok_l_take x) (hr.mono (by decide)) rfl x.m_l_take (keep_of x.F_l_take) pass0 (pa_cons (pv 0) (pa_cons (pv 7) pa_nil))) pe_int (nomark _)))) (fun _ _ _ _ _ => (pv 17)))
 (pss_cons (ps_setLc (i := 14) (own := [("_law_other", 17)]) rfl sc_l_model.nd rfl rfl (sw_true rfl rfl rfl (by decide +kernel)) (pi_listK (K := K) rfl (pv 13)) (blkOk_by (N := ["_law_draw", "_law_most", "_law_names_here", "_law_fine", "_law_model_here", "_law_shares", "_law_houses", "_law_wide", "_law_rings", "_law_pairs", "_law_at", "_law_name", "_law_some", "_law_calls", "_law_lost", "_law_rules", "_law_k", "_law_other"]) (sc := defScope s_l_model) (by decide +kernel)) (fun _ _ _ _ _ => (pg_name (i := 17) sc_l_model.nd rfl (Or.inl rfl))) (fun _ _ _ _ _ => (pts_one (pt_cmpR op_eq (pe_callR (ok_l_take x) (hr.mono (by decide)) rfl x.m_l_take (keep_of x.F_l_take) pass0 (pa_cons (pv 0) (pa_cons (pe_op op_add pe_int (pe_dget (hu_of hr) (pv 4) pe_str (fun _ _ => rfl))) pa_nil))) pe_int (nomark _)))) (fun _ _ _ _ _ => (pv 17)))
 (pss_cons (ps_setLc (i := 15) (own := [("_law_k", 16)]) (tt := tYes) rfl sc_l_model.nd rfl rfl (sw_true rfl rfl rfl (by decide +kernel)) (pi_range1 rfl x.n_range (pa_cons (pe_op op_add pe_int (pe_callTy call_int1 rfl x.n_int bb_int (pa_cons (pe_cmpR op_eq (pe_callR (ok_l_take x) (hr.mono (by decide)) rfl x.m_l_take (keep_of x.F_l_take) pass0 (pa_cons (pv 0) (pa_cons (pe_op op_add (pv 9) pe_int) pa_nil))) pe_int (nomark _)) pa_nil))) pa_nil)) (blkOk_by (N := ["_law_draw", "_law_most", "_law_names_here", "_law_fine", "_law_model_here", "_law_shares", "_law_houses", "_law_wide", "_law_rings", "_law_pairs", "_law_at", "_law_name", "_law_some", "_law_calls", "_law_lost", "_law_rules", "_law_k", "_law_other"]) (sc := defScope s_l_model) (by decide +kernel)) (fun _ _ _ _ _ => (pg_name (i := 16) sc_l_model.nd rfl (Or.inl rfl))) (fun _ _ _ _ _ => pts_nil) (fun _ _ _ _ _ => (pe_callR (ok_l_rule x) (hr.mono (by decide)) rfl x.m_l_rule (keep_of x.F_l_rule) pass0 (pa_cons (pv 0) (pa_cons (pv 4) (pa_cons (pv 5) pa_nil))))))
 (pss_one (ps_dput (hu_of hr) (pv 6) (pv 11) (pe_disp (pps_cons pe_str (pv 15) (pps_cons pe_str (pv 13) (pps_cons pe_str (pv 14) (pps_cons pe_str (pe_cmpR op_lt (pe_callR (ok_l_take x) (hr.mono (by decide)) rfl x.m_l_take (keep_of x.F_l_take) pass0 (pa_cons (pv 0) (pa_cons (pe_dget (hu_of hr) (pv 4) pe_str (fun _ _ => rfl)) pa_nil))) pe_int (nomark _)) pps_nil)))) rfl rfl (by simp) (by decide)) rfl)))))))
 (pss_cons (ps_dput (hu_of hr) (pv 4) pe_str (pe_op op_cat (pe_lst (pa_cons (pe_ix (r := rIxL K) ix_list (pv 2) pe_int (fun _ _ => rfl)) pa_nil)) (pe_lc (own := [("_law_name", 11)]) rfl sc_l_model.nd (pi_listK (K := K) rfl (pe_slice (r := rSlL K) sl_list (pv 2) (po_some pe_int) po_none)) (blkOk_by (N := ["_law_draw", "_law_most", "_law_names_here", "_law_fine", "_law_model_here", "_law_shares", "_law_houses", "_law_wide", "_law_rings", "_law_pairs", "_law_at", "_law_name", "_law_some", "_law_calls", "_law_lost", "_law_rules", "_law_k", "_law_other"]) (sc := defScope s_l_model) (by decide +kernel)) (fun _ _ _ _ _ => (pg_name (i := 11) sc_l_model.nd rfl (Or.inl rfl))) (fun _ _ _ _ _ => (pts_one (pt_cmpR op_eq (pe_callR (ok_l_take x) (hr.mono (by decide)) rfl x.m_l_take (keep_of x.F_l_take) pass0 (pa_cons (pv 0) (pa_cons pe_int pa_nil))) pe_int (nomark _)))) (fun _ _ _ _ _ => (pv 11)))) rfl)
 (pss_one (ps_ret (pv 4)))))))))), ?_⟩
  have hb : n + 400 ≤ 1099511627776 := hn
  refine ⟨_, rfl, _, rfl, _, rfl, S, d, wd, c, n, (most : Nat), rfl, dm, da, by show n ≤ 1099511627776; omega, by omega, by omega, fun k H1 k0 k1 u1 da1 => ⟨_, _, rfl, rfl, ?_⟩⟩
  obtain ⟨j, rfl⟩ := Int.eq_ofNat_of_zero_le k0
  have dm1 := dm.kp u1
  refine ⟨S, d, wd, c, n + 1, 1 + j, rfl, dm1, da1, by show n + 1 + 100 ≤ 1099511627776; omega, by omega, fun nl nms H2 u2 da2 an nn nd isn ln => ?_⟩
  have dm2 := dm1.kp u2
  have da2 := da2.more (show n + 1 + 6 * (1 + j) ≤ n + 49 by omega)
  refine ⟨_, rfl, pick_new (E := E0) [.int 1, .int 2, .int 3, .int 4, .int 10, .int 60, .int 1000] dm2 da2 (by show n + 49 ≤ 1099511627776; omega) (by simp) (by simp) fun fv hfv H3 u3 da3 => ?_⟩
  obtain ⟨fine, rfl, f1, f2⟩ : ∃ fine : Int, fv = .int fine ∧ 1 ≤ fine ∧ fine ≤ 1000 := by
    simp only [List.mem_cons, List.not_mem_nil, or_false] at hfv
    rcases hfv with rfl | rfl | rfl | rfl | rfl | rfl | rfl <;> exact ⟨_, rfl, by decide, by decide⟩
  have an3 := an.kp u3
  have dm3 := dm2.kp u3
  have u03 := (u1.trans u2).trans u3
  refine ⟨by simp [sizeLine_eq], fun t4 nt4 => ?_⟩
  have e4 : Ext H3 (upd H3 t4 (.tup [.ref nl, .int fine])) := ext_new nt4
  have ht4 : (upd H3 t4 (.tup [.ref nl, .int fine])) t4 = some (.tup [.ref nl, .int fine]) := upd_same
  generalize upd H3 t4 (.tup [.ref nl, .int fine]) = H4 at e4 ht4
  refine ⟨t4, _, rfl, .of ht4, rfl, _, _, rfl, _, _, rfl, rfl, ?_⟩
  dsimp only [gName]
  have an4 := an3.ext e4
  have dm4 := dm3.ext e4
  have da4 := da3.ext e4
  refine fun m nm => ?_
  have e5 : Ext H4 (upd H4 m (.dK [])) := ext_new nm
  have h5 : (upd H4 m (.dK [])) m = some (.dK []) := upd_same
  generalize upd H4 m (.dK []) = H5 at e5 h5
  refine ⟨_, rfl, fun ph nph => ?_⟩
  have e6 : Ext H5 (upd H5 ph (.dK [])) := ext_new nph
  have h6 : (upd H5 ph (.dK [])) ph = some (.dK []) := upd_same
  have npm : m ≠ ph := ne_of_none h5 nph
  generalize upd H5 ph (.dK []) = H6 at e6 h6
  have e46 := e5.trans e6
  have dm6 := dm4.ext e46
  refine ⟨_, rfl, by simp [sizeLine_eq], fun l1 nl1 => ?_⟩
  have ea : Ext H6 (upd H6 l1 (.lst [])) := ext_new nl1
  have ha : At S (upd H6 l1 (.lst [])) l1 (.lst (([] : List Str).map V.str)) := ⟨upd_same, fun z => dm6 l1 z nl1⟩
  generalize upd H6 l1 (.lst []) = Ha at ea ha
  refine ⟨by simp [sizeLine_eq], fun l2 nl2 => ?_⟩
  have eb : Ext Ha (upd Ha l2 (.lst [.str "m"])) := ext_new nl2
  have hb2 : At S (upd Ha l2 (.lst [.str "m"])) l2 (.lst ((["m"] : List Str).map V.str)) := ⟨upd_same, fun z => dm6.ext ea l2 z nl2⟩
  generalize upd Ha l2 (.lst [.str "m"]) = Hb at eb hb2
  refine ⟨by simp [sizeLine_eq], fun l3 nl3 => ?_⟩
  have ec : Ext Hb (upd Hb l3 (.lst [.str "m", .str "story"])) := ext_new nl3
  have hc : At S (upd Hb l3 (.lst [.str "m", .str "story"])) l3 (.lst ((["m", "story"] : List Str).map V.str)) := ⟨upd_same, fun z => dm6.ext (ea.trans eb) l3 z nl3⟩
  generalize upd Hb l3 (.lst [.str "m", .str "story"]) = Hc at ec hc
  refine ⟨by simp [sizeLine_eq], fun l4 nl4 => ?_⟩
  have ed : Ext Hc (upd Hc l4 (.lst [.str "ab", .str "aa"])) := ext_new nl4
  have hd : At S (upd Hc l4 (.lst [.str "ab", .str "aa"])) l4 (.lst ((["ab", "aa"] : List Str).map V.str)) := ⟨upd_same, fun z => dm6.ext ((ea.trans eb).trans ec) l4 z nl4⟩
  generalize upd Hc l4 (.lst [.str "ab", .str "aa"]) = Hd at ed hd
  have e6d := ((ea.trans eb).trans ec).trans ed
  have e4d := e46.trans e6d
  refine pick_new (E := E0) [.ref l1, .ref l2, .ref l3, .ref l4] (dm4.ext e4d) (da4.ext e4d) (by show n + 49 + 1 ≤ 1099511627776; omega) (by simp) (by simp) fun sv hsv H7 u7 da7 => ?_
  obtain ⟨ps, so, rfl, so1, so2, so3⟩ : ∃ (ps : Addr) (so : List Str), sv = .ref ps ∧ At S H7 ps (.lst (so.map V.str)) ∧ (∀ z ∈ so, Tame z) ∧ so.length ≤ 4 := by
    simp only [List.mem_cons, List.not_mem_nil, or_false] at hsv
    rcases hsv with rfl | rfl | rfl | rfl
    · exact ⟨_, _, rfl, (ha.ext ((eb.trans ec).trans ed)).kp u7, by simp, by simp⟩
    · exact ⟨_, _, rfl, (hb2.ext (ec.trans ed)).kp u7, by decide +kernel, by simp⟩
    · exact ⟨_, _, rfl, (hc.ext ed).kp u7, by decide +kernel, by simp⟩
    · exact ⟨_, _, rfl, hd.kp u7, by decide +kernel, by simp⟩
  have nmS : ¬ S m := fun z => dm4 m z nm
  have npS : ¬ S ph := fun z => dm4.ext e5 ph z nph
  have u47 : Kp S H4 H7 := (Kp.ext e4d).trans u7
  have h57 := u7.keep _ _ ((e6.trans e6d) _ _ h5) nmS
  have h67 := u7.keep _ _ (e6d _ _ h6) npS
  have dm7 := dm4.kp u47
  refine ⟨h57, modP fine ph ps, rfl, by simp [modP], ?_⟩
  rw [show mergeK [] (modP fine ph ps) = modP fine ph ps from rfl]
  have u04 := u03.trans (.ext e4)
  have u07 := u04.trans u47
  have an7 := an4.kp u47
  have nm0 : H m = none := kp_none u04 nm
  have np0 : H ph = none := kp_none (u04.trans (.ext e5)) nph
  have dnm := da4.ne nm
  have dnp : d ≠ ph ∧ wd ≠ ph ∧ c ≠ ph := (da4.ext e5).ne nph
  have nlm : nl ≠ m := ne_of_none an4.1 nm
  have nlp : nl ≠ ph := ne_of_none (e5 _ _ an4.1) nph
  have u8 : Kp S H (upd H7 m (.dK (modP fine ph ps))) := kp_put_new u07 nm0
  have m8 : At S (upd H7 m (.dK (modP fine ph ps))) m (.dK (modP fine ph ps)) := ⟨upd_same, nmS⟩
  have p8 : (upd H7 m (.dK (modP fine ph ps))) ph = some (.dK []) := by rw [upd_ne (Ne.symm npm)]; exact h67
  have an8 : At S (upd H7 m (.dK (modP fine ph ps))) nl (.lst (nms.map V.str)) := ⟨by rw [upd_ne nlm]; exact an7.1, an7.2⟩
  have psm : ps ≠ m := ne_of so1.1 h57 (by simp)
  have psp : ps ≠ ph := ne_of so1.1 h67 (by simp)
  have s8 : At S (upd H7 m (.dK (modP fine ph ps))) ps (.lst (so.map V.str)) := ⟨by rw [upd_ne psm]; exact so1.1, so1.2⟩
  have da8 : DrawAt S (upd H7 m (.dK (modP fine ph ps))) d wd c (n + 51) := da7.putn dnm
  generalize upd H7 m (.dK (modP fine ph ps)) = H8 at u8 m8 p8 an8 s8 da8
  refine ⟨_, rfl, pick_new (E := E0) [.int 2, .int 4, .int 9] (dm.kp u8) da8 (by show n + 51 ≤ 1099511627776; omega) (by simp) (by simp) fun ov hov H9 u9 da9 => ?_⟩
  obtain ⟨odds, rfl, o1, o2⟩ : ∃ odds : Int, ov = .int odds ∧ 1 ≤ odds ∧ odds ≤ 1000 := by
    simp only [List.mem_cons, List.not_mem_nil, or_false] at hov
    rcases hov with rfl | rfl | rfl <;> exact ⟨_, rfl, by decide, by decide⟩
  have m9 := m8.kp u9
  refine ⟨_, rfl, m, _, rfl, dput_str m9.1 (by simp [modP]), ?_⟩
  rw [show putK (modP fine ph ps) (Sum.inr "odds") (.int odds) = modO fine ph ps odds from rfl]
  have u10 : Kp S H (upd H9 m (.dK (modO fine ph ps odds))) := kp_put_new (u8.trans u9) nm0
  have m10 : At S (upd H9 m (.dK (modO fine ph ps odds))) m (.dK (modO fine ph ps odds)) := ⟨upd_same, nmS⟩
  have p10 : (upd H9 m (.dK (modO fine ph ps odds))) ph = some (.dK []) := by rw [upd_ne (Ne.symm npm)]; exact u9.keep _ _ p8 npS
  have an10 : At S (upd H9 m (.dK (modO fine ph ps odds))) nl (.lst (nms.map V.str)) := ⟨by rw [upd_ne nlm]; exact (an8.kp u9).1, an7.2⟩
  have s10 : At S (upd H9 m (.dK (modO fine ph ps odds))) ps (.lst (so.map V.str)) := ⟨by rw [upd_ne psm]; exact (s8.kp u9).1, so1.2⟩
  have da10 : DrawAt S (upd H9 m (.dK (modO fine ph ps odds))) d wd c (n + 52) := da9.putn dnm
  generalize upd H9 m (.dK (modO fine ph ps odds)) = H10 at u10 m10 p10 an10 s10 da10
  refine ⟨_, rfl, pick_new (E := E0) [.int 1, .int 2, .int 3] (dm.kp u10) da10 (by show n + 52 ≤ 1099511627776; omega) (by simp) (by simp) fun kv hkv H11 u11 da11 => ?_⟩
  obtain ⟨k, rfl, k1, k2⟩ : ∃ k : Nat, kv = .int k ∧ 1 ≤ k ∧ k ≤ 3 := by
    simp only [List.mem_cons, List.not_mem_nil, or_false] at hkv
    rcases hkv with rfl | rfl | rfl
    · exact ⟨1, rfl, by decide, by decide⟩
    · exact ⟨2, rfl, by decide, by decide⟩
    · exact ⟨3, rfl, by decide, by decide⟩
  have u011 := u10.trans u11
  have dm11 := dm.kp u011
  refine ⟨(k : Int), rfl, by omega, by omega, fun D hD => lc_std (S := S) (H0 := H11) std_range (fun t H' => Kp S H11 H' ∧ DrawAt S H' d wd c (n + 53 + t) ∧ ∃ cs : List Int, H' D = some (.lst (cs.map V.int)) ∧ cs.length = t ∧ ∀ s ∈ cs, 0 ≤ s ∧ s ≤ fine) ⟨.new hD, da11.ext (ext_new hD), [], upd_same, rfl, fun s h => by simp at h⟩ (fun t H h => h.1) (fun t y H12 hy ⟨u12, da12, cs, hD12, lc, hcs⟩ => ?_) (fun H12 ⟨u12, da12, cs, hD12, lc, hcs⟩ => ?_)⟩
  · have ht : t < k := by
      have := (List.getElem?_eq_some_iff.mp hy).1
      simp only [List.length_map, List.length_range] at this
      omega
    have nD : ¬ S D := fun z => dm11 D z hD
    refine ⟨rfl, _, rfl, _, rfl, _, _, rfl, rfl, S, d, wd, c, _, _, rfl, dm11.kp u12, da12, by show n + 53 + t ≤ 1099511627776; omega, by omega, by omega, fun s H13 s0 s1 u13 da13 => ?_⟩
    have hD13 := u13.keep _ _ hD12 nD
    have qd := da11.ne hD
    refine ⟨_, hD13, ?_, kp_put_new (u12.trans u13) hD, (da13.putn qd).more (by omega), cs ++ [s], by rw [upd_same]; simp, by simp [lc], fun x hx => ?_⟩
    · have := line1001
      simp
      omega
    · rcases List.mem_append.mp hx with hx | hx
      · exact hcs x hx
      · rw [List.mem_singleton.mp hx]; omega
  rw [List.length_map, List.length_range] at da12 lc
  have nDS : ¬ S D := fun z => dm11 D z hD
  have sh12 : At S H12 D (.lst (cs.map V.int)) := ⟨hD12, nDS⟩
  have lc3 : cs.length ≤ 10 := by omega
  have u112 := u11.trans u12
  have da12 := da12.more (show n + 53 + _ ≤ n + 56 by omega)
  have u012 := u10.trans u112
  have dm12 := dm.kp u012
  refine ⟨_, rfl, m, _, rfl, dget_str (m10.kp u112).1 modO_get.2.1, by simp [sizeLine_eq], fun t13 nt13 => ?_⟩
  have e13 : Ext H12 (upd H12 t13 (.tup [.ref D, .ref ph])) := ext_new nt13
  have ht13 : (upd H12 t13 (.tup [.ref D, .ref ph])) t13 = some (.tup [.ref D, .ref ph]) := upd_same
  generalize upd H12 t13 (.tup [.ref D, .ref ph]) = H13 at e13 ht13
  refine ⟨t13, _, rfl, .of ht13, rfl, _, _, rfl, _, _, rfl, rfl, ?_⟩
  refine ⟨_, rfl, pick_new (E := E0) [.int 2, .int 3, .int 4] (dm12.ext e13) (da12.ext e13) (by show n + 56 ≤ 1099511627776; omega) (by simp) (by simp) fun wv hwv H14 u14 da14 => ?_⟩
  obtain ⟨wide, rfl, w1, w2⟩ : ∃ k : Int, wv = .int k ∧ 1 ≤ k ∧ k ≤ 10 := by
    simp only [List.mem_cons, List.not_mem_nil, or_false] at hwv
    rcases hwv with rfl | rfl | rfl <;> exact ⟨_, rfl, by decide, by decide⟩
  have u1214 := (Kp.ext e13).trans u14
  refine ⟨_, rfl, S, d, wd, c, _, 3, rfl, dm12.kp u1214, da14, by show n + 57 ≤ 1099511627776; omega, by decide, by decide, fun r H15 r0 r1 u15 da15 => ⟨rfl, ?_⟩⟩
  refine ⟨_, rfl, pick_new (E := E0) [.int 1, .int 3, .int 9] (dm12.kp (u1214.trans u15)) da15 (by show n + 58 ≤ 1099511627776; omega) (by simp) (by simp) fun pv hpv H16 u16 da16 => ?_⟩
  obtain ⟨pairs, rfl, pa1, pa2⟩ : ∃ k : Int, pv = .int k ∧ 1 ≤ k ∧ k ≤ 10 := by
    simp only [List.mem_cons, List.not_mem_nil, or_false] at hpv
    rcases hpv with rfl | rfl | rfl <;> exact ⟨_, rfl, by decide, by decide⟩
  obtain ⟨rings, hrings⟩ : ∃ b, b = decide (V.int r = V.int 0) := ⟨_, rfl⟩
  refine ⟨by simp [sizeLine_eq], fun t17 nt17 => ?_⟩
  rw [← hrings]
  have e17 : Ext H16 (upd H16 t17 (.tup [.int wide, .bl rings, .int pairs])) := ext_new nt17
  have ht17 : (upd H16 t17 (.tup [.int wide, .bl rings, .int pairs])) t17 = some (.tup [.int wide, .bl rings, .int pairs]) := upd_same
  generalize upd H16 t17 (.tup [.int wide, .bl rings, .int pairs]) = H17 at e17 ht17
  refine ⟨t17, _, rfl, .of ht17, rfl, _, _, rfl, _, _, rfl, _, _, rfl, rfl, ?_⟩
  have u1217 := (u1214.trans u15).trans (u16.trans (.ext e17))
  have u1017 := u112.trans u1217
  have u017 := u10.trans u1017
  have m17 := m10.kp u1017
  have p17 := u1017.keep _ _ p10 npS
  have an17 := an10.kp u1017
  have s17 := s10.kp u1017
  have sh17 := sh12.kp u1217
  have da17 := da16.ext e17
  have dm17 := dm.kp u017
  dsimp only [gName]
  have lnn : nms.length ≤ 8 := by omega
  have nlT : ¬ more S ph nl := fun z => z.elim an.2 nlp
  refine ⟨_, rfl, nl, _, rfl, .of an17.1, for_enum (S := more S ph) (.of an17.1) nlT (fun i σ H' => Kp (more S ph) H17 H' ∧ DrawAt S H' d wd c (n + 60 + 28 * i) ∧ ∃ nk hs, H' ph = some (.dK nk) ∧ HdsAt S H' nk hs ∧ hs.map (·.1) = nms.take i ∧ (∀ p ∈ hs, Good nms fine p.2) ∧
      ∃ v10 v11 v12 v13 v14 v15, σ = [some (.ref d), some (.int most), some (.ref nl), some (.int fine), some (.ref m), some (.ref D), some (.ref ph), some (.int wide), some (.bl rings), some (.int pairs), v10, v11, v12, v13, v14, v15, none, none])
    ⟨Kp.refl, da17.more (by omega), [], [], p17, .nil, by simp, fun p h => by simp at h, none, none, none, none, none, none, rfl⟩ (fun i σ H' h => h.1) (fun i y σ H20 T hy ⟨u20, da20, nk, hs, hp20, hds20, hnm, hgood, v10, v11, v12, v13, v14, v15, hσ⟩ nT => ?_) (fun σ H20 ⟨u20, da20, nk, hs, hp20, hds20, hnm, hgood, v10, v11, v12, v13, v14, v15, hσ⟩ => ?_)⟩
  · subst hσ
    obtain ⟨name, hname, rfl⟩ : ∃ z, nms[i]? = some z ∧ y = .str z := by
      rw [List.getElem?_map] at hy
      cases q : nms[i]? with
      | none => rw [q] at hy; cases hy
      | some z => rw [q] at hy; exact ⟨z, rfl, (Option.some.inj hy).symm⟩
    have hi : i < nms.length := (List.getElem?_eq_some_iff.mp hname).1
    have keepP : ∀ {a : Addr} {o : HO} {H' : Hp}, At S H17 a o → a ≠ ph → Kp (more S ph) H17 H' → At S H' a o := fun {a o H'} h ne u => ⟨u.keep _ _ h.1 fun z => z.elim h.2 ne, h.2⟩
    have e21 : Ext H20 (upd H20 T (.tup [.int (i : Nat), .str name])) := ext_new nT
    have hT21 : (upd H20 T (.tup [.int (i : Nat), .str name])) T = some (.tup [.int (i : Nat), .str name]) := upd_same
    generalize upd H20 T (.tup [.int (i : Nat), .str name]) = H21 at e21 hT21
    have u21 := u20.trans (.ext e21)
    have dm21 : Dm S H21 := dm17.kp u21
    have an21 := keepP an17 nlp u21
    have m21 := keepP m17 npm u21
    have s21 := keepP s17 psp u21
    have Dp : D ≠ ph := ne_of sh17.1 p17 (by simp)
    have sh21 := keepP sh17 Dp u21
    have hp21 := e21 _ _ hp20
    have hds21 := hds20.ext e21
    have da21 := da20.ext e21
    refine ⟨T, _, rfl, .of hT21, rfl, _, _, rfl, _, _, rfl, rfl, ?_⟩
    refine tif_go (fun v H' => ∃ sa ss, v = .ref sa ∧ Ext H21 H' ∧ At S H' sa (.lst ((ss : List Str).map V.str)) ∧ ss.Sublist nms) ?_ fun tail => ?_
    · rintro v H22 ⟨sa, ss, rfl, e22, as22, sub⟩
      have lss := sub.length_le
      have dm22 := dm21.ext e22
      dsimp only [gName]
      have da22 := da21.ext e22
      have i8 : i < 8 := by omega
      refine ⟨_, rfl, sa, rfl, ⟨_, .of as22.1⟩, fun D1 hD1 => lc_drawn (std_list (.of as22.1) as22.2) dm22 da22 hD1 (by omega) (fun y i' H' Nx hy hi' u' dm' da' kT kF =>
        ⟨rfl, _, rfl, _, rfl, S, d, wd, c, _, wide, rfl, dm', da', by show n + 60 + 28 * i + i' ≤ 1099511627776; omega, by omega, by omega, fun t H3 t0 t1 u3 da3 => ⟨rfl, _, rfl, ifb (fun _ => ⟨_, rfl, kT H3 u3 da3⟩) fun _ => kF H3 u3 da3⟩⟩) (fun H23 cz u23 da23 ac subc => ?_)⟩
      have lcz := subc.length_le
      have dm23 := dm22.kp u23
      have m23 := (m21.ext e22).kp u23
      have da23 := da23.more (show n + 60 + 28 * i + ss.length ≤ n + 60 + 28 * i + 8 by omega)
      refine ⟨_, rfl, D1, rfl, ⟨_, .of ac.1⟩, fun D2 hD2 => lc_drawn (std_list (.of ac.1) ac.2) dm23 da23 hD2 (by omega) (fun y i' H' Nx hy hi' u' dm' da' kT kF =>
        ⟨rfl, _, rfl, _, rfl, m, _, rfl, dget_str (m23.kp u').1 modO_get.2.2.2, _, _, rfl, rfl, S, d, wd, c, _, 2 + odds, rfl, dm', da', by show n + 60 + 28 * i + 8 + i' ≤ 1099511627776; omega, by omega, by omega, fun t H3 t0 t1 u3 da3 => ⟨rfl, _, rfl, ifb (fun _ => ⟨_, rfl, kT H3 u3 da3⟩) fun _ => kF H3 u3 da3⟩⟩) (fun H24 lz u24 da24 al subl => ?_)⟩
      have llz := subl.length_le
      have dm24 := dm23.kp u24
      have ac24 := ac.kp u24
      have da24 := da24.more (show n + 60 + 28 * i + 8 + cz.length ≤ n + 60 + 28 * i + 16 by omega)
      have u2124 := ((Kp.ext e22).trans u23).trans u24
      refine ⟨_, rfl, _, rfl, _, _, rfl, rfl, S, d, wd, c, _, pairs + 1, rfl, dm24, da24, by show n + 60 + 28 * i + 16 ≤ 1099511627776; omega, by omega, by omega, fun t H25 t0 t1 u25 da25 => ⟨rfl, .inr ⟨_, rfl, ?_⟩⟩⟩
      have dm25 := dm24.kp u25
      obtain ⟨k, hk, hk1, hk2⟩ : ∃ k : Nat, (1 : Int) + (if decide (V.int t = V.int 0) = true then 1 else 0) = (k : Nat) ∧ 1 ≤ k ∧ k ≤ 2 := by
        by_cases z : decide (V.int t = V.int 0) = true
        · exact ⟨2, by rw [if_pos z]; rfl, by decide, by decide⟩
        · exact ⟨1, by rw [if_neg z]; rfl, by decide, by decide⟩
      refine ⟨_, _, rfl, rfl, ?_⟩
      have u2125 := u2124.trans u25
      refine ⟨(k : Int), congrArg (fun z => [V.int z]) hk, by omega, by omega, fun D3 hD3 => lc_std (S := S) (H0 := H25) std_range (fun t H' => Kp S H25 H' ∧ DrawAt S H' d wd c (n + 60 + 28 * i + 17 + 5 * t) ∧ ∃ os rs, H' D3 = some (.lst (os.map V.ref)) ∧ TupsAt S H' os rs ∧ rs.length = t ∧ ∀ r ∈ rs, r.ok ∧ r.share ≤ fine ∧ r.mark ≠ "qqq") ⟨.new hD3, da25.ext (ext_new hD3), [], [], upd_same, .nil, rfl, fun r h => by simp at h⟩ (fun t H h => h.1) (fun t y H26 hy ⟨u26, da26, os, rs, hD26, ht26, lr, hrs⟩ => ?_) (fun H26 ⟨u26, da26, os, rs, hD26, ht26, lr, hrs⟩ => ?_)⟩
      · have ht : t < k := by
          have := (List.getElem?_eq_some_iff.mp hy).1
          simp only [List.length_map, List.length_range] at this
          omega
        have nD : ¬ S D3 := fun z => dm25 D3 z hD3
        have u2126 := u2125.trans u26
        refine ⟨rfl, _, rfl, _, rfl, _, rfl, S, d, wd, c, m, D, ps, _, _, fine, odds, so, cs, rfl, dm25.kp u26, da26, by show n + 60 + 28 * i + 17 + 5 * t + 10 ≤ 1099511627776; omega,
          ⟨m21.kp u2126, modO_get.1, modO_get.2.2.1, modO_get.2.2.2, s21.kp u2126, so2, so3, f1, f2, o1, o2⟩, sh21.kp u2126, lc3, hcs, fun p r H27 u27 da27 tr rok rsh rt => ?_⟩
        have hD27 := u27.keep _ _ hD26 nD
        have qd := da25.ne hD3
        have lo := Paired.length ht26
        have uD : Kp (one D3) H27 (upd H27 D3 (.lst (os.map V.ref ++ [.ref p]))) := Kp.refl.put rfl
        refine ⟨_, hD27, ?_, kp_put_new (u26.trans u27) hD3, (da27.putn qd).more (by omega), os ++ [p], rs ++ [r], by rw [upd_same]; simp, paired_app (Paired.mapP ht26 fun _ _ z => (z.kp u27).off hD27 (by simp) uD) (.cons (tr.off hD27 (by simp) uD) .nil), by simp [lr], fun x hx => ?_⟩
        · have := line1001
          simp
          omega
        · rcases List.mem_append.mp hx with hx | hx
          · exact hrs x hx
          · rw [List.mem_singleton.mp hx]; exact ⟨rok, rsh, rt⟩
      rw [List.length_map, List.length_range] at da26 lr
      have nD3 : ¬ S D3 := fun z => dm25 D3 z hD3
      have ar26 : At S H26 D3 (.lst (os.map V.ref)) := ⟨hD26, nD3⟩
      have da26 := da26.more (show n + 60 + 28 * i + 17 + 5 * _ ≤ n + 60 + 28 * i + 27 by omega)
      have dm26 := dm25.kp u26
      have u2126 := u2125.trans u26
      refine fun a na => ?_
      have e27 : Ext H26 (upd H26 a (.dK [])) := ext_new na
      have h27 : (upd H26 a (.dK [])) a = some (.dK []) := upd_same
      generalize upd H26 a (.dK []) = H27 at e27 h27
      have u2127 := u2126.trans (.ext e27)
      have dm27 := dm26.ext e27
      have naS : ¬ S a := fun z => dm26 a z na
      have da27 := da26.ext e27
      refine ⟨_, rfl, _, rfl, _, rfl, _, rfl, _, rfl, m, _, rfl, dget_str (m21.kp u2127).1 modO_get.2.2.2, S, d, wd, c, _, odds, rfl, dm27, da27, by show n + 60 + 28 * i + 27 ≤ 1099511627776; omega, by omega, by omega, fun t H28 t0 t1 u28 da28 => ⟨_, _, rfl, rfl, ?_⟩⟩
      have h28 := u28.keep _ _ h27 naS
      refine ⟨h28, hdK D3 D1 D2 (decide (t < 2)), rfl, by simp [hdK], ?_⟩
      rw [show mergeK [] (hdK D3 D1 D2 (decide (t < 2))) = hdK D3 D1 D2 (decide (t < 2)) from rfl]
      have u2128 := u2127.trans u28
      have np21 : ph ≠ a := ne_of_none ((u2126.keep _ _ hp21 npS)) na
      have na21 : H21 a = none := kp_none u2126 na
      have ua : Kp (one a) H28 (upd H28 a (.dK (hdK D3 D1 D2 (decide (t < 2))))) := Kp.refl.put rfl
      have u2129 : Kp S H21 (upd H28 a (.dK (hdK D3 D1 D2 (decide (t < 2))))) := kp_put_new u2128 na21
      have a29 : At S (upd H28 a (.dK (hdK D3 D1 D2 (decide (t < 2))))) a (.dK (hdK D3 D1 D2 (decide (t < 2)))) := ⟨upd_same, naS⟩
      have u2628 := (Kp.ext (S := S) e27).trans u28
      have ar29 := (ar26.kp u2628).off h28 (by simp) ua
      have tr29 := Paired.mapP ht26 fun _ _ z => (z.kp u2628).off h28 (by simp) ua
      have ac29 := ((ac24.kp (u25.trans u26)).kp u2628).off h28 (by simp) ua
      have al29 := ((al.kp (u25.trans u26)).kp u2628).off h28 (by simp) ua
      have da29 : DrawAt S (upd H28 a (.dK (hdK D3 D1 D2 (decide (t < 2))))) d wd c (n + 60 + 28 * i + 28) := da28.putn (da26.ne na)
      generalize upd H28 a (.dK (hdK D3 D1 D2 (decide (t < 2)))) = H29 at u2129 a29 ar29 tr29 ac29 al29 da29
      have hp29 := u2129.keep _ _ hp21 npS
      have hds29 := hds21.kp u2129
      have lhs := Paired.length hds29
      have lh2 := congrArg List.length hnm
      rw [List.length_map, List.length_take] at lh2
      refine ⟨_, rfl, _, rfl, ph, _, rfl, dput_str hp29 (by omega), ?_⟩
      have nn : name ∉ nms.take i := take_new nd hname
      rw [putK_new _ (valV_none (by rw [hds29.keys, hnm]; intro z; obtain ⟨y, hy, e⟩ := List.mem_map.mp z; injection e with e; exact nn (e ▸ hy)))]
      have uP : Kp (one ph) H29 (upd H29 ph (.dK (nk ++ [(Sum.inr name, .ref a)]))) := Kp.refl.put rfl
      have new : HdAt S H29 a ⟨rs, cz, lz, decide (t < 2)⟩ := ⟨D3, D1, D2, os, a29, ar29, tr29, ac29, al29⟩
      have ndk : ∀ pr pc pl f, (HO.dK nk) ≠ .dK (hdK pr pc pl f) := fun pr pc pl f z => by injection z with z; exact hds_ne_hd hds29 z
      have dnp' : d ≠ ph ∧ wd ≠ ph ∧ c ≠ ph := dnp
      refine ⟨(u21.trans (u2129.mono fun a h => .inl h)).trans (uP.mono fun a h => .inr h), (da29.putn dnp).more (by omega), nk ++ [(Sum.inr name, .ref a)], hs ++ [(name, ⟨rs, cz, lz, decide (t < 2)⟩)], upd_same, ?_, ?_, fun p hp => ?_, _, _, _, _, _, _, rfl⟩
      · exact paired_app (hdsat_lk hds29 hp29 uP ndk (by simp) (by simp)) (.cons ⟨rfl, a, rfl, new.lk hp29 uP ndk (by simp) (by simp)⟩ .nil)
      · rw [List.map_append, hnm, take_one hname]
        rfl
      · rcases List.mem_append.mp hp with hp | hp
        · exact hgood p hp
        · rw [List.mem_singleton.mp hp]
          have sc := subc.trans sub
          exact ⟨⟨by show 1 ≤ rs.length; omega, by show rs.length ≤ 2; omega, fun z hz => isn z (sc.subset hz), nd.sublist sc, by show cz.length < 64; omega, (nd.sublist sc).sublist subl, fun z hz => subl.subset hz, by show lz.length < 64; omega⟩, hrs, fun z hz => sc.subset hz⟩
    · refine ⟨_, rfl, rings, rfl, ifb (fun _ => ?_) fun _ => ?_⟩
      · exact ⟨_, rfl, tail _ _ ⟨nl, nms, rfl, Ext.rfl', an21, List.Sublist.refl _⟩⟩
      · refine ⟨_, rfl, _, rfl, _, _, rfl, rfl, _, rfl, nl, _, rfl, .of an21.1, fun p np => tail _ _ ⟨p, nms.drop (i + 1), rfl, ext_new np, ⟨?_, fun z => dm21 p z np⟩, List.drop_sublist _ _⟩⟩
        rw [upd_same, show ((i : Nat) : Int) + 1 = ((i + 1 : Nat) : Int) from rfl, cut_from (by simp; omega), List.map_drop]
  · subst hσ
    rw [List.length_map] at da20 hnm
    rw [List.take_length] at hnm
    have da20 := da20.more (show n + 60 + 28 * nms.length ≤ n + 284 by omega)
    have keepP : ∀ {a : Addr} {o : HO} {H' : Hp}, At S H17 a o → a ≠ ph → Kp (more S ph) H17 H' → At S H' a o := fun {a o H'} h ne u => ⟨u.keep _ _ h.1 fun z => z.elim h.2 ne, h.2⟩
    have dm20 : Dm S H20 := dm17.kp u20
    have an20 := keepP an17 nlp u20
    have m20 := keepP m17 npm u20
    have s20 := keepP s17 psp u20
    obtain ⟨n0, rest, hnr⟩ : ∃ n0 rest, nms = n0 :: rest := by
      cases nms with
      | nil => simp at ln; omega
      | cons a b => exact ⟨a, b, rfl⟩
    refine ⟨_, rfl, nl, _, 0, _, rfl, rfl, .of an20.1, atI_nat (j := 0) (by rw [hnr]; rfl), by simp [sizeLine_eq], fun l1 nl1 => ?_⟩
    have e21 : Ext H20 (upd H20 l1 (.lst [.str n0])) := ext_new nl1
    have h21 : (upd H20 l1 (.lst [.str n0])) l1 = some (.lst [.str n0]) := upd_same
    have nl1S : ¬ S l1 := fun z => dm20 l1 z nl1
    generalize upd H20 l1 (.lst [.str n0]) = H21 at e21 h21
    refine ⟨_, rfl, _, rfl, nl, _, rfl, .of (e21 _ _ an20.1), fun p2 np2 => ?_⟩
    rw [show cutV (nms.map V.str) (some 1) none = rest.map V.str by
      rw [show (some (1 : Int)) = some ((1 : Nat) : Int) from rfl, cut_from (by rw [hnr]; simp), hnr]; rfl]
    have e22 : Ext H21 (upd H21 p2 (.lst (rest.map V.str))) := ext_new np2
    have dm21 := dm20.ext e21
    have a22 : At S (upd H21 p2 (.lst (rest.map V.str))) p2 (.lst (rest.map V.str)) := ⟨upd_same, fun z => dm21 p2 z np2⟩
    generalize upd H21 p2 (.lst (rest.map V.str)) = H22 at e22 a22
    have dm22 := dm21.ext e22
    have e2022 := e21.trans e22
    have lr8 : rest.length ≤ 7 := by rw [hnr] at lnn; simp at lnn; omega
    refine ⟨p2, rfl, ⟨_, .of a22.1⟩, fun D1 hD1 => lc_drawn (std_list (.of a22.1) a22.2) dm22 (da20.ext e2022) hD1 (by omega) (fun y i' H' Nx hy hi' u' dm' da' kT kF =>
        ⟨rfl, _, rfl, S, d, wd, c, _, 6, rfl, dm', da', by show n + 284 + i' ≤ 1099511627776; omega, by omega, by omega, fun t H3 t0 t1 u3 da3 => ⟨rfl, _, rfl, ifb (fun _ => ⟨_, rfl, kT H3 u3 da3⟩) fun _ => kF H3 u3 da3⟩⟩) (fun H23 ez u23 da23 ae sub => ?_)⟩
    have lez := sub.length_le
    have u2023 := (Kp.ext e2022).trans u23
    have h23 := u23.keep _ _ (e22 _ _ h21) nl1S
    have dm23 := dm20.kp u2023
    refine ⟨l1, D1, _, _, rfl, rfl, h23, ae.1, sz (m := 1000) (by simp; omega), fun pe npe => ?_⟩
    have e24 : Ext H23 (upd H23 pe (.lst ([.str n0] ++ ez.map V.str))) := ext_new npe
    have a24 : At S (upd H23 pe (.lst ([.str n0] ++ ez.map V.str))) pe (.lst ((n0 :: ez).map V.str)) := ⟨by rw [upd_same]; rfl, fun z => dm23 pe z npe⟩
    generalize upd H23 pe (.lst ([.str n0] ++ ez.map V.str)) = H24 at e24 a24
    have u2024 := u2023.trans (.ext e24)
    have m24 := m20.kp u2024
    refine ⟨_, rfl, m, _, rfl, dput_str m24.1 (by simp [modO]), ?_⟩
    rw [show putK (modO fine ph ps odds) (Sum.inr "entries") (.ref pe) = modK fine ph ps odds pe from rfl]
    have um : Kp (one m) H24 (upd H24 m (.dK (modK fine ph ps odds pe))) := Kp.refl.put rfl
    have hp24 := u2024.keep _ _ hp20 npS
    have hds24 := hds20.kp u2024
    have ndk : ∀ pr pc pl f, (HO.dK (modO fine ph ps odds)) ≠ .dK (hdK pr pc pl f) := fun pr pc pl f z => by simp [modO, hdK] at z
    have u1724 : Kp (more S ph) H17 H24 := u20.trans (u2024.mono fun a h => .inl h)
    have uH : Kp S H (upd H24 m (.dK (modK fine ph ps odds pe))) := ⟨fun b x hb ns => by
      rw [upd_ne (ne_of_none hb nm0)]
      exact u1724.keep b x (u017.keep b x hb ns) fun z => z.elim ns (ne_of_none hb np0), fun b hb => um.dom b (u1724.dom b (u017.dom b hb))⟩
    have lh := congrArg List.length hnm
    rw [List.length_map] at lh
    refine ⟨_, rfl, hQ m ⟨fine, hs, so, odds, n0 :: ez⟩ _ uH (((da23.ext e24).putn dnm).more (by omega)) ⟨ph, ps, pe, nk, ⟨upd_same, nmS⟩, ⟨by rw [upd_ne (Ne.symm npm)]; exact hp24, npS⟩, hdsat_lk hds24 m24.1 um ndk (by simp [modO]) (by simp [modO]), ⟨by rw [upd_ne psm]; exact (s20.kp u2024).1, so1.2⟩, a24.off m24.1 (by simp) um⟩ ⟨⟨f1, f2, ⟨?_, ?_, fun p hp => ?_, ?_, fun p hp r hr => ((hgood p hp).ok r hr).2.1, fun p hp z hz => ?_⟩, by simp [ModelD.net], ?_, fun z hz => ?_, ?_⟩, fun p hp => ⟨(hgood p hp).fit, fun r hr => ((hgood p hp).ok r hr).1⟩, so2, so3, o1, o2⟩ ?_ fun p hp r hr => ((hgood p hp).ok r hr).2.2⟩
    · show 1 ≤ hs.length
      omega
    · show hs.length ≤ 8
      omega
    · exact isn p.1 (hnm ▸ List.mem_map.mpr ⟨p, hp, rfl⟩)
    · show (hs.map (·.1)).Nodup
      rw [hnm]; exact nd
    · show z ∈ hs.map (·.1)
      rw [hnm]; exact (hgood p hp).cl z hz
    · show (n0 :: ez).Nodup
      rw [hnr] at nd
      exact nd.sublist (sub.cons₂ n0)
    · show z ∈ hs.map (·.1)
      rw [hnm, hnr]
      exact (sub.cons₂ n0).subset hz
    · show (n0 :: ez).length < 64
      simp
      omega
    · show hs.length ≤ most
      omega
end
end Ws

set_option Elab.async false
set_option linter.all false
set_option maxRecDepth 100000
set_option maxHeartbeats 4000000
namespace Ws
open PySem PySem.Spec PyProof.Rows L2
theorem made_on {a b h : HouseD} (d : DeedD) (ab : Made a b) (bh : Made (d.on b) h) : Made (d.on a) h := by
  cases d with
  | rule z k r =>
    refine ⟨?_, bh.calls.trans ab.calls, bh.sc, bh.lost.trans ab.lost, bh.sl, ?_⟩
    · rw [bh.rules]
      show b.rules.set k r = a.rules.set k r
      rw [ab.rules]
    · rw [bh.fails]; exact ab.fails
  | way z o l =>
    refine ⟨bh.rules.trans ab.rules, bh.calls.trans (ab.calls.append_right _), bh.sc, bh.lost.trans ?_, bh.sl, ?_⟩
    · show (if l = true then b.lost ++ [o] else b.lost).Perm (if l = true then a.lost ++ [o] else a.lost)
      split
      · exact ab.lost.append_right _
      · exact ab.lost
    · rw [bh.fails]; exact ab.fails
  | cut z o => exact ⟨bh.rules.trans ab.rules, bh.calls.trans (ab.calls.filter _), bh.sc, bh.lost.trans (ab.lost.filter _), bh.sl, bh.fails.trans ab.fails⟩
theorem norm_names {md n : NetD} (h : NormN md n) : n.names.Perm md.names := by
  obtain ⟨hs, pr, nm⟩ := h
  have := nm.houses.map (·.1)
  rw [show (({ md with houses := hs } : NetD).houses.map (·.1)) = md.houses.map (·.1) from norm_rules pr] at this
  exact this
theorem norm_house {md n : NetD} (f : md.Fit) (h : NormN md n) {z : Str} (hz : z ∈ md.names) : Made (getH md.houses z) (getH n.houses z) := by
  have hz2 := (norm_names h).mem_iff.mpr hz
  obtain ⟨hs, pr, nm⟩ := h
  have h1 := getH_mem hz2
  have h2 := nm.houses.mem_iff.mp h1
  obtain ⟨p, hp, e, m⟩ := paired_memR pr h2
  have := getH_of f.hs.nd hp
  rw [← e] at this
  rw [this]
  exact m
theorem norm_can {md n : NetD} (f : md.Fit) (h : NormN md n) {d : DeedD} (c : d.Can md) : d.Can n := by
  have pn := norm_names h
  have fi : n.fine = md.fine := by obtain ⟨hs, pr, nm⟩ := h; exact nm.fine
  cases d with
  | rule z k r =>
    obtain ⟨c1, c2, c3, c4⟩ := c
    have m := norm_house f h c1
    exact ⟨pn.mem_iff.mpr c1, by rw [m.rules]; exact c2, c3, by rw [fi]; exact c4⟩
  | way z o l =>
    obtain ⟨c1, c2, c3⟩ := c
    have m := norm_house f h c1
    exact ⟨pn.mem_iff.mpr c1, pn.mem_iff.mpr c2, fun q => c3 (m.calls.mem_iff.mp q)⟩
  | cut z o =>
    obtain ⟨c1, c2, c3⟩ := c
    have m := norm_house f h c1
    exact ⟨pn.mem_iff.mpr c1, pn.mem_iff.mpr c2, m.calls.mem_iff.mpr c3⟩
theorem can_house {n : NetD} {d : DeedD} (c : d.Can n) : d.house ∈ n.names := by cases d <;> exact c.1
theorem norm_do {md n m : NetD} (f : md.Fit) (h : NormN md n) {d : DeedD} (c : d.Can md) (did : Did n d m) : NormN { md with houses := setH md.houses d.house (d.on (getH md.houses d.house)) } m := by
  have mh := norm_house f h (can_house c)
  obtain ⟨x, hx, rfl⟩ := did
  obtain ⟨hs, pr, nm⟩ := h
  refine ⟨setH hs d.house x, ?_, ⟨nm.fine, ?_, ?_, nm.entries, nm.se⟩⟩
  · unfold setH
    have go : ∀ {as bs : Hs}, Paired (fun (p q : Str × HouseD) => q.1 = p.1 ∧ Made p.2 q.2) as bs → Paired (fun (p q : Str × HouseD) => q.1 = p.1 ∧ Made p.2 q.2) (as.map fun p => if p.1 = d.house then (p.1, d.on (getH md.houses d.house)) else p) (bs.map fun p => if p.1 = d.house then (p.1, x) else p) := by
      intro as bs t
      induction t with
      | nil => exact .nil
      | @cons p q _ _ r t ih =>
        refine .cons ?_ ih
        by_cases e : p.1 = d.house
        · have e2 : q.1 = d.house := r.1.trans e
          simp only [e, e2, if_true]
          exact ⟨trivial, made_on d mh hx⟩
        · have e2 : ¬ q.1 = d.house := fun z => e (r.1.symm.trans z)
          simp only [e, e2, if_false]
          exact r
    exact go pr
  · exact nm.houses.map _
  · show sortedS ((setH n.houses d.house x).map (·.1)) = true
    rw [setH_keys]
    exact nm.sh
theorem norm_eq {md n n' : NetD} (f : md.Fit) (h : NormN md n) (h' : NormN md n') : n = n' := by
  obtain ⟨hs, pr, nm⟩ := h
  obtain ⟨hs', pr', nm'⟩ := h'
  have e : hs = hs' := by
    have go : ∀ {as bs cs : Hs}, Paired (fun (p q : Str × HouseD) => q.1 = p.1 ∧ Made p.2 q.2) as bs → Paired (fun (p q : Str × HouseD) => q.1 = p.1 ∧ Made p.2 q.2) as cs → bs = cs := by
      intro as bs cs t
      induction t generalizing cs with
      | nil => intro u; cases u; rfl
      | @cons p q _ _ r t ih =>
        intro u
        cases u with
        | cons r' t' =>
          rw [ih t']
          congr 1
          exact Prod.ext (r.1.trans r'.1.symm) (made_eq r.2 r'.2)
    exact go pr pr'
  subst e
  exact netMade_eq (norm_fit f pr) nm nm'
theorem behind_fit {md : ModelD} {d : DeedD} (f : md.Fit) (c : d.Can md.net) : (md.behind d).Fit := by
  have fits : ∀ z ∈ md.net.names, (getH md.net.houses z).Fit := fun z hz => (f.hs _ (getH_mem hz)).1
  have cf := Can.fit f.net fits c
  have hz := can_house c
  have gm := getH_mem hz
  have hg := (f.hs _ gm).2
  have sg := f.net.hs.sh _ gm
  have cg := f.net.hs.cl _ gm
  have keys := setH_keys md.houses d.house (d.on (getH md.houses d.house))
  have ln : (setH md.houses d.house (d.on (getH md.houses d.house))).length = md.houses.length := by simp [setH]
  have rok : ∀ r ∈ (d.on (getH md.houses d.house)).rules, r.ok ∧ r.share ≤ md.fine := fun r hr => by
    cases d with
    | rule z k q =>
      rcases List.mem_or_eq_of_mem_set hr with hr | rfl
      · exact ⟨hg r hr, sg r hr⟩
      · exact ⟨c.2.2.1, c.2.2.2⟩
    | way z o l => exact ⟨hg r hr, sg r hr⟩
    | cut z o => exact ⟨hg r hr, sg r hr⟩
  have cok : ∀ y ∈ (d.on (getH md.houses d.house)).calls, y ∈ md.houses.map (·.1) := fun y hy => by
    cases d with
    | rule z k q => exact cg y hy
    | way z o l =>
      rcases List.mem_append.mp hy with hy | hy
      · exact cg y hy
      · rw [List.mem_singleton.mp hy]; exact c.2.1
    | cut z o => exact cg y (List.mem_filter.mp hy).1
  refine ⟨⟨f.net.f1, f.net.f2, ⟨?_, ?_, fun p hp => ?_, ?_, fun p hp r hr => ?_, fun p hp y hy => ?_⟩, f.net.e0, f.net.nd, fun y hy => ?_, f.net.ln⟩, fun p hp => ?_, f.so, f.sl, f.o1, f.o2⟩
  · show 1 ≤ (setH _ _ _).length; rw [ln]; exact f.net.hs.l1
  · show (setH _ _ _).length ≤ 8; rw [ln]; exact f.net.hs.l2
  · have : p.1 ∈ md.houses.map (·.1) := by rw [← keys]; exact List.mem_map.mpr ⟨p, hp, rfl⟩
    obtain ⟨q, hq, e⟩ := List.mem_map.mp this
    rw [← e]; exact f.net.hs.nm q hq
  · show ((setH _ _ _).map (·.1)).Nodup; rw [keys]; exact f.net.hs.nd
  · rcases setH_mem hp with rfl | hp
    · exact (rok r hr).2
    · exact f.net.hs.sh p hp r hr
  · show y ∈ (setH _ _ _).map (·.1)
    rw [keys]
    rcases setH_mem hp with rfl | hp
    · exact cok y hy
    · exact f.net.hs.cl p hp y hy
  · show y ∈ (setH _ _ _).map (·.1)
    rw [keys]; exact f.net.sub y hy
  · rcases setH_mem hp with rfl | hp
    · exact ⟨cf, fun r hr => (rok r hr).1⟩
    · exact f.hs p hp
end Ws

set_option Elab.async false
set_option linter.all false
set_option maxRecDepth 100000
set_option maxHeartbeats 4000000
namespace Ws
open PySem PySem.Spec PyProof.Rows L2
def NoTbl (o : HO) : Prop := ∀ ps, o ≠ .tbl ps
/-- all that stands (no tables) stands still, over another set of what may change -/
def Tr (S T : Addr → Prop) (H H1 : Hp) : Prop := ∀ a o, NoTbl o → At S H a o → At T H1 a o
section
variable {S T U : Addr → Prop} {K : PySem.W.Frag} {H H1 H2 : Hp} {a : Addr}
theorem noTbl_tup {xs : List V} : NoTbl (.tup xs) := fun _ z => nomatch z
theorem noTbl_lst {xs : List V} : NoTbl (.lst xs) := fun _ z => nomatch z
theorem noTbl_dK {xs : List (Key × V)} : NoTbl (.dK xs) := fun _ z => nomatch z
theorem noTbl_ins {C dx : Addr} {fs : List (Str × V)} : NoTbl (.ins C dx fs) := fun _ z => nomatch z
theorem Tr.kp (u : Kp S H H1) : Tr S S H H1 := fun _ _ _ h => h.kp u
theorem Tr.ext (e : Ext H H1) : Tr S S H H1 := .kp (.ext e)
theorem Tr.grow {q : Addr} (hq : H q = none) : Tr S (more S q) H H := fun _ _ _ h => h.grow hq
/-- a table among what may change -/
theorem Tr.tab {q : Addr} {ps : Array Value} (hq : H q = some (.tbl ps)) : Tr S (more S q) H H := fun b o n h => ⟨h.1, fun z => z.elim h.2 fun e => by
  have h1 := h.1
  rw [e, hq] at h1
  exact n ps (Option.some.inj h1).symm⟩
theorem Tr.sub (s : ∀ a, T a → S a) : Tr S T H H := fun _ _ _ h => ⟨h.1, fun z => h.2 (s _ z)⟩
theorem Tr.trans (f : Tr S T H H1) (g : Tr T U H1 H2) : Tr S U H H2 := fun a o n h => g a o n (f a o n h)
theorem At.tr {o : HO} (h : At S H a o) (f : Tr S T H H1) (n : NoTbl o) : At T H1 a o := f a o n h
theorem RuleAt.tr {r : RuleD} (h : RuleAt S K H a r) (f : Tr S T H H1) : RuleAt T K H1 a r := by
  obtain ⟨ok, dx, p, h1, h2⟩ := h
  exact ⟨ok, dx, p, h1.tr f noTbl_ins, h2.tr f noTbl_tup⟩
theorem HouseAt.tr {x : HouseD} (t : HouseAt S K H a x) (f : Tr S T H H1) : HouseAt T K H1 a x := by
  obtain ⟨ft, s1, s2, dx, pr, pc, pl, os, h1, h2, h3, h4, h5⟩ := t
  exact ⟨ft, s1, s2, dx, pr, pc, pl, os, h1.tr f noTbl_ins, h2.tr f noTbl_tup, Paired.mapP h3 fun _ _ z => z.tr f, h4.tr f noTbl_tup, h5.tr f noTbl_tup⟩
theorem NetAt.tr {n : NetD} (t : NetAt S K H a n) (f : Tr S T H H1) : NetAt T K H1 a n := by
  obtain ⟨ft, s1, s2, dx, ph, pe, kvs, h1, h2, h3, h4⟩ := t
  exact ⟨ft, s1, s2, dx, ph, pe, kvs, h1.tr f noTbl_ins, h2.tr f noTbl_dK, Paired.mapP h3 fun kv nh ⟨g1, b, g2, g3⟩ => ⟨g1, b, g2, g3.tr f⟩, h4.tr f noTbl_tup⟩
theorem HdAt.tr {x : HouseD} (t : HdAt S H a x) (f : Tr S T H H1) : HdAt T H1 a x := by
  obtain ⟨pr, pc, pl, os, h1, h2, h3, h4, h5⟩ := t
  exact ⟨pr, pc, pl, os, h1.tr f noTbl_dK, h2.tr f noTbl_lst, Paired.mapP h3 fun _ _ z => z.tr f noTbl_tup, h4.tr f noTbl_lst, h5.tr f noTbl_lst⟩
theorem ModelAt.tr {md : ModelD} (t : ModelAt S H a md) (f : Tr S T H H1) : ModelAt T H1 a md := by
  obtain ⟨ph, ps, pe, kvs, h1, h2, h3, h4, h5⟩ := t
  exact ⟨ph, ps, pe, kvs, h1.tr f noTbl_dK, h2.tr f noTbl_dK, Paired.mapP h3 fun kv nh ⟨g1, b, g2, g3⟩ => ⟨g1, b, g2, g3.tr f⟩, h4.tr f noTbl_lst, h5.tr f noTbl_lst⟩
theorem DrawAt.sub {d w c : Addr} {n : Nat} (h : DrawAt S H d w c n) (s : ∀ a, T a → S a) (sd : T d) (sw : T w) : DrawAt T H d w c n := by
  obtain ⟨_, _, ws, cs, rest, turn, h1, h2, h3, h4, h5, h6⟩ := h
  exact ⟨sd, sw, ws, cs, rest, turn, h1, h2, ⟨h3.1, fun z => h3.2 (s _ z)⟩, h4, h5, h6⟩
end
end Ws

set_option Elab.async false
set_option linter.all false
set_option maxRecDepth 100000
set_option maxHeartbeats 4000000
namespace Ws
open PySem PySem.Spec PyProof.Rows L2
section
variable {P : Program} {w : World} {K : PySem.W.Frag} {mg : Str → Option Value} {base : Heap}
theorem net_same {S T : Addr → Prop} {H : Hp} {p q : Addr} {n : NetD} {Q : VK} (t1 : NetAt S K H p n) (t2 : NetAt T K H q n) (k : ∀ H', Ext H H' → Q (.bl false) H') : rEqI K (c_Net K) (spEqb (NetR K)) E0 true (.ref p) (.ref q) H Q := by
  obtain ⟨_, _, _, dn, _, _, _, m1, _⟩ := id t1
  obtain ⟨_, _, _, dn', _, _, _, m2, _⟩ := id t2
  exact ⟨p, dn, _, q, _, dn', _, rfl, rfl, m1.1, m2.1, by simp [PySem.W.notFirst], p, q, true, rfl, ⟨n, n, t1.free, t2.free, (decide_eq_true rfl).symm⟩, fun H1 e1 => ⟨_, rfl, k H1 e1⟩⟩
theorem live_cmp {H : Hp} {p q : Addr} {b neg : Bool} {Q : VK} (r : LiveR K p q b H) (k : ∀ H', Ext H H' → Q (.bl (if neg then !b else b)) H') : rEqI K (c_Live K) (spEqb (LiveR K)) E0 neg (.ref p) (.ref q) H Q := by
  obtain ⟨S, z, z', mo, mo', net, net', nets, nets', n, n', ds, ds', es, es', ⟨⟨dx, g1⟩, _⟩, ⟨⟨dy, g2⟩, _⟩, _⟩ := id r
  exact ⟨p, dx, _, q, _, dy, _, rfl, rfl, g1, g2, by simp [PySem.W.notFirst], p, q, b, rfl, r, fun H1 e1 => ⟨_, rfl, k H1 e1⟩⟩
theorem bD_int {i : Int} (h : i.natAbs ≤ 1000) : okD (.int i) = true ∧ bD (.int i) ≤ 1003 := by
  have := Nat.log2_le_self i.natAbs
  refine ⟨?_, ?_⟩
  · unfold okD
    exact decide_eq_true (by omega)
  · unfold bD
    omega
theorem letters_small : ∀ c ∈ letters.cps.toList, c < 16 ^ 8 := by decide +kernel
theorem bD_name {z : Str} (h : isName z = true) : okD (.str z) = true ∧ bD (.str z) ≤ 1003 := by
  have hl := isName_len h
  have hc := (isName_iff.mp h).2.2
  refine ⟨?_, ?_⟩
  · unfold okD
    exact List.all_eq_true.mpr fun c hcm => decide_eq_true (letters_small c (hc c hcm))
  · unfold bD
    omega
theorem bD_bool (b : Bool) : okD (.bool b) = true ∧ bD (.bool b) ≤ 1003 := ⟨rfl, by show 5 ≤ 1003; decide⟩
theorem bD_word : (okD (.str "rule") = true ∧ bD (.str "rule") ≤ 1003) ∧ (okD (.str "way") = true ∧ bD (.str "way") ≤ 1003) ∧ okD (.str "cut") = true ∧ bD (.str "cut") ≤ 1003 := by decide +kernel
theorem deed_bd {d : DeedD} (h : d.Ok) : okD d.dat = true ∧ bD d.dat ≤ 7100 := by
  cases d with
  | rule z k r =>
    obtain ⟨h1, h2, h3⟩ := h
    obtain ⟨a1, a2⟩ := bD_word.1
    obtain ⟨b1, b2⟩ := bD_name h1
    obtain ⟨c1, c2⟩ := bD_int (i := (k : Nat)) (by omega)
    obtain ⟨d1, d2⟩ := bD_int (i := r.share) (by have := h3.1; have := h3.2.1; omega)
    obtain ⟨e1, e2⟩ := bD_name h3.2.2
    obtain ⟨f1, f2⟩ := bD_bool r.always
    obtain ⟨g1, g2⟩ := bD_bool r.late
    refine ⟨?_, ?_⟩
    · show (okD (.str "rule") && (okD (.str z) && (okD (.int (k : Nat)) && (okD (.int r.share) && (okD (.str r.mark) && (okD (.bool r.always) && (okD (.bool r.late) && true))))))) = true
      rw [a1, b1, c1, d1, e1, f1, g1]; rfl
    · show bD (.str "rule") + 2 + (bD (.str z) + 2 + (bD (.int (k : Nat)) + 2 + (bD (.int r.share) + 2 + (bD (.str r.mark) + 2 + (bD (.bool r.always) + 2 + (bD (.bool r.late) + 2 + 0)))))) + 3 ≤ 7100
      omega
  | way z o l =>
    obtain ⟨a1, a2⟩ := bD_word.2.1
    obtain ⟨b1, b2⟩ := bD_name h.1
    obtain ⟨c1, c2⟩ := bD_name h.2
    obtain ⟨f1, f2⟩ := bD_bool l
    refine ⟨?_, ?_⟩
    · show (okD (.str "way") && (okD (.str z) && (okD (.str o) && (okD (.bool l) && true)))) = true
      rw [a1, b1, c1, f1]; rfl
    · show bD (.str "way") + 2 + (bD (.str z) + 2 + (bD (.str o) + 2 + (bD (.bool l) + 2 + 0))) + 3 ≤ 7100
      omega
  | cut z o =>
    obtain ⟨a1, a2⟩ := bD_word.2.2
    obtain ⟨b1, b2⟩ := bD_name h.1
    obtain ⟨c1, c2⟩ := bD_name h.2
    refine ⟨?_, ?_⟩
    · show (okD (.str "cut") && (okD (.str z) && (okD (.str o) && true))) = true
      rw [a1, b1, c1]; rfl
    · show bD (.str "cut") + 2 + (bD (.str z) + 2 + (bD (.str o) + 2 + 0)) + 3 ≤ 7100
      omega
theorem deeds_bd : ∀ {es : List DeedD}, (∀ d ∈ es, d.Ok) → okDs (es.map DeedD.dat) = true ∧ bDs (es.map DeedD.dat) ≤ es.length * 7102
  | [], _ => ⟨rfl, by decide⟩
  | d :: es, h => by
    obtain ⟨h1, h2⟩ := deeds_bd fun e he => h e (List.mem_cons_of_mem _ he)
    obtain ⟨h3, h4⟩ := deed_bd (h d List.mem_cons_self)
    refine ⟨?_, ?_⟩
    · show (okD d.dat && okDs (es.map DeedD.dat)) = true
      rw [h1, h3]; rfl
    · show bD d.dat + 2 + bDs (es.map DeedD.dat) ≤ (es.length + 1) * 7102
      omega
end
end Ws

set_option Elab.async false
set_option linter.all false
set_option maxRecDepth 100000
set_option maxHeartbeats 4000000
namespace Ws
open PySem PySem.Spec PyProof.Rows L2
section
variable {P : Program} {w : World} {K : PySem.W.Frag} {mg : Str → Option Value} {base : Heap}
theorem excC_NothingDone (x : Fx K mg w) : ExcC K (c_NothingDone K) := ⟨x.ga_NothingDone, x.gg_NothingDone, x.sb_NothingDone, x.hd_NothingDone, x.cc_NothingDone, x.cget, x.ctak, x.mro_NothingDone⟩
theorem sc_l_caught : FnScope ["_law_work", "_law_caught_here", "_law_error"] ["_law_work"] (defScope s_l_caught) := ⟨rfl, rfl, rfl, by decide +kernel, rfl, by decide +kernel, by decide +kernel⟩
theorem gives_l_caught {X : Cx} {q : Str} (x : Fx K mg w) (hK : X.K = K) (hm : X.mg = mg) : ∀ cdg, LamX.GivesTo X ["_law_work", "_law_caught_here", "_law_error"] "_law_caught" (defScope s_l_caught) (a_l_caught K) cdg (defBody s_l_caught) "_law_work" q (TKeep X.K (c_StoryError K)) := fun cdg =>
  keep_gives (by decide) rfl rfl rfl (by rw [hm]; exact x.m_StoryError) (by decide) (by decide) (by decide) (by decide) (by decide) (fun _ => rfl)
def sp_Live_undo (K : PySem.W.Frag) : Sp := fun vs H Q E => ∃ (S : Addr → Prop) (o : Addr) (blk : V) (mo : Addr) (nets ds : List Addr), vs = [.ref o] ∧ S o ∧ LiveAt S K H o blk mo nets ds ∧ (ds = [] → E (.ref (c_NothingDone K)) none H) ∧
  ∀ net nets' d ds' mo' H', nets = net :: nets' → ds = d :: ds' → Kp (one o) H H' → LiveAt S K H' o blk mo' nets' ds' → Q .non H'
theorem sc_Live_undo : FnScope ["self"] ["self"] (defScope s_Live_undo) := ⟨rfl, rfl, rfl, by decide +kernel, rfl, by decide +kernel, by decide +kernel⟩
theorem ok_Live_undo (x : Fx K mg w) : FnR P w K mg base (L2.CX P w) 1 (a_Live_undo K) (sp_Live_undo K) := by
  refine okRE x.F_Live_undo sc_Live_undo (fun _ _ _ _ _ _ us hl => match us, hl with | [_], _ => rfl) (fun vs H Q E h => by obtain ⟨S, o, blk, mo, nets, ds, rfl, so, ⟨⟨dx, g1⟩, ch⟩, hE, hQ⟩ := h; rfl) (fun cdv A outer s H vs Q E hr h => ?_)
  obtain ⟨S, o, blk, mo, nets, ds, rfl, so, ⟨⟨dx, g1⟩, ch⟩, hE, hQ⟩ := h
  refine ⟨_, (pss_cons (ps_if (pt_cmpR op_isN (pe_fldK (K := K) rfl (pe_fldK (K := K) rfl (pv 0) rfl) rfl) pe_non (nomark _))
 (pss_one (ps_raise rfl (takes_of rfl rfl rfl rfl) (pmk_own PySem.F.excBase_ValueError x.x_NothingDone x.m_NothingDone x.kp_NothingDone (raises_own x.sb_NothingDone x.ty_NothingDone) rfl)))
 pss_nil)
 (pss_one (ps_fld (pv 0) (pe_fldK (K := K) rfl (pe_fldK (K := K) rfl (pv 0) rfl) rfl) rfl))), ?_⟩
  cases ds with
  | nil =>
    obtain ⟨net, dm, _, g⟩ := ch
    exact ⟨_, rfl, o, _, dx, _, _, rfl, g1, x.cl_Live, x.na_Live_now, rfl, mo, _, dm, _, _, rfl, g.1, x.cl_Moment, x.na_Moment_ahead, rfl, rfl, _, rfl, iteT (hE rfl)⟩
  | cons d ds =>
    obtain ⟨net, nets', dm, o', e, g, ch⟩ := ch
    refine ⟨_, rfl, o, _, dx, _, _, rfl, g1, x.cl_Live, x.na_Live_now, rfl, mo, _, dm, _, _, rfl, g.1, x.cl_Moment, x.na_Moment_ahead, rfl, rfl, _, rfl, iteF ?_⟩
    refine ⟨_, rfl, o, _, dx, _, _, rfl, g1, x.cl_Live, x.na_Live_now, rfl, mo, _, dm, _, _, rfl, g.1, x.cl_Moment, x.na_Moment_ahead, rfl, ?_⟩
    refine ⟨_, rfl, o, _, dx, _, rfl, g1, x.cl_Live, x.na_Live_now, by simp, ?_⟩
    rw [show putF "now" (.ref o') [("now", .ref mo), ("block", blk)] = ([("now", .ref o'), ("block", blk)] : List (Str × V)) from rfl]
    exact hQ net nets' d ds o' _ e rfl (Kp.refl.put rfl) ⟨⟨dx, upd_same⟩, ch.kp (Kp.refl.put so)⟩
/-- a live net is made, what may change does not hold it -/
theorem make_live {S : Addr → Prop} {H1 : Hp} {net : Addr} {n : NetD} {Q : Addr → Hp → Prop} {E : XK} (dm : Dm S H1) (t : NetAt S K H1 net n) (k : ∀ p mo H', Ext H1 H' → H1 p = none → LiveAt S K H' p .non mo [net] [] → Q p H') :
    ∀ p dx, H1 p = none → H1 dx = none → dx ≠ p → sp_Live_init K (.ref p :: [.ref net]) (upd (upd H1 dx (.own p)) p (.ins (c_Live K) dx [])) (fun v H2 => v = .non ∧ Q p H2) E := by
  intro p dx hp hdx ne
  have e1 : Ext H1 (upd (upd H1 dx (.own p)) p (.ins (c_Live K) dx [])) := (ext_new hdx).trans (ext_new (by rw [upd_ne (Ne.symm ne)]; exact hp))
  refine ⟨S, p, dx, net, n, rfl, dm.ext e1, upd_same, t.ext e1, fun H' mo u l => ⟨rfl, k p mo H' (fun a o h => ?_) hp l⟩⟩
  exact u.keep a o (e1 a o h) (ne_of_none h hp)
/-- a live net is made, to be changed -/
theorem make_liveM {S : Addr → Prop} {H1 : Hp} {net : Addr} {n : NetD} {Q : Addr → Hp → Prop} {E : XK} (dm : Dm S H1) (t : NetAt S K H1 net n) (k : ∀ p mo H', Ext H1 H' → H1 p = none → Dm (more S p) H' → LiveAt (more S p) K H' p .non mo [net] [] → Q p H') :
    ∀ p dx, H1 p = none → H1 dx = none → dx ≠ p → sp_Live_init K (.ref p :: [.ref net]) (upd (upd H1 dx (.own p)) p (.ins (c_Live K) dx [])) (fun v H2 => v = .non ∧ Q p H2) E := by
  intro p dx hp hdx ne
  have e1 : Ext H1 (upd (upd H1 dx (.own p)) p (.ins (c_Live K) dx [])) := (ext_new hdx).trans (ext_new (by rw [upd_ne (Ne.symm ne)]; exact hp))
  have dm2 : Dm (more S p) (upd (upd H1 dx (.own p)) p (.ins (c_Live K) dx [])) := fun a h => h.elim (fun h => (dm.ext e1) a h) fun h => by rw [h, upd_same]; exact fun z => nomatch z
  refine ⟨more S p, p, dx, net, n, rfl, dm2, upd_same, (t.grow hp).ext e1, fun H' mo u l => ⟨rfl, k p mo H' (fun a o h => ?_) hp (dm2.kp u) l⟩⟩
  exact u.keep a o (e1 a o h) (ne_of_none h hp)
def sp_Live_copy (K : PySem.W.Frag) : Sp := fun vs H Q _ => ∃ (S : Addr → Prop) (o : Addr) (blk : V) (mo net : Addr) (nets ds : List Addr) (n : NetD), vs = [.ref o] ∧ Dm S H ∧ LiveAt S K H o blk mo (net :: nets) ds ∧ NetAt S K H net n ∧
  ∀ p H', Ext H H' → H p = none → LiveAt S K H' p .non mo (net :: nets) ds → Q (.ref p) H'
theorem sc_Live_copy : FnScope ["self", "found"] ["self"] (defScope s_Live_copy) := ⟨rfl, rfl, rfl, by decide +kernel, rfl, by decide +kernel, by decide +kernel⟩
theorem ok_Live_copy (x : Fx K mg w) : FnR P w K mg base CX0 5 (a_Live_copy K) (sp_Live_copy K) := by
  refine okR x.F_Live_copy sc_Live_copy (fun _ _ _ _ _ _ us hl => match us, hl with | [_], _ => rfl) (fun vs H Q E h => by obtain ⟨S, o, blk, mo, net, nets, ds, n, rfl, dm, ⟨⟨dx, g1⟩, ch⟩, t, hQ⟩ := h; rfl) (fun cdv A outer s H vs Q E hr h => ?_)
  obtain ⟨S, o, blk, mo, net, nets, ds, n, rfl, dm, ⟨⟨dx, g1⟩, ch⟩, t, hQ⟩ := h
  refine ⟨_, (pss_cons (ps_set (i := 1) sc_Live_copy.nd rfl (Or.inl rfl) (StX.pe_makeR x.mk_Live (ok_Live_init x) (hr.mono (by decide)) rfl x.m_Live pass0 (pa_cons (pe_fldK (K := K) rfl (pe_fldK (K := K) rfl (pv 0) rfl) rfl) pa_nil)))
 (pss_cons (ps_fld (pv 1) (pe_fldK (K := K) rfl (pv 0) rfl) rfl)
 (pss_one (ps_ret (pv 1))))), ?_⟩
  obtain ⟨_, _, dm', b, c, e, w1⟩ := ch.top
  cases e
  refine ⟨_, rfl, o, _, dx, _, _, rfl, g1, x.cl_Live, x.na_Live_now, rfl, mo, _, dm', _, _, rfl, w1.1, x.cl_Moment, x.na_Moment_whole, rfl, ?_⟩
  refine make_live (K := K) dm t fun p mo' H1 e1 np l1 => ?_
  obtain ⟨⟨dp, g2⟩, _⟩ := l1
  refine ⟨_, rfl, o, _, dx, _, _, rfl, e1 _ _ g1, x.cl_Live, x.na_Live_now, rfl, ?_⟩
  refine ⟨_, rfl, p, _, dp, _, rfl, g2, x.cl_Live, x.na_Live_now, by simp, ?_⟩
  rw [show putF "now" (.ref mo) [("now", .ref mo'), ("block", .non)] = ([("now", .ref mo), ("block", .non)] : List (Str × V)) from rfl]
  have e2 : Ext H (upd H1 p (liv K dp mo .non)) := fun a u h => by rw [upd_ne (ne_of_none h np)]; exact e1 a u h
  exact ⟨_, rfl, hQ p _ e2 np ⟨⟨dp, upd_same⟩, ch.ext e2⟩⟩
def sp_Live_eqO (K : PySem.W.Frag) : Sp := fun vs H Q _ => ∃ (p : Addr) (y : V) (t : Value), vs = [.ref p, y] ∧ TyX K H y t ∧ PySem.W.kitOne K t (.ref (c_Live K)) = some false ∧ Q (.bl false) H
theorem ok_Live_eqO (x : Fx K mg w) : FnR P w K mg base CX0 6 (a_Live_eq K) (sp_Live_eqO K) := by
  refine okR x.F_Live_eq sc_Live_eq (fun _ _ _ _ _ _ us hl => match us, hl with | [_, _], _ => rfl) (fun vs H Q E h => by obtain ⟨p, y, t, rfl, ty, kn, hQ⟩ := h; rfl) (fun cdv A outer s H vs Q E hr h => ?_)
  obtain ⟨p, y, t, rfl, ty, kn, hQ⟩ := h
  refine ⟨_, (pss_one (ps_ret (pe_and (pe_callB (r := rIsi K) call_isi rfl x.n_isinstance bb_isinstance (pa_cons (pv 1) (pa_cons (pe_gR x.m_Live rfl) pa_nil))) (pe_and (pe_cmpR (show OpR _ _ (rEqI K _ _ _ false) from op_eqI x.sp_Net_eq x.fn_Net_eq (ok_Net_eq x) (hr.mono (by decide)) pass0) (pe_propR (pv 0) x.cl_Live x.p_Live_net (ok_Live_net x) (hr.mono (by decide)) pass0) (pe_propR (pv 1) x.cl_Live x.p_Live_net (ok_Live_net x) (hr.mono (by decide)) pass0) (nomark _)) (pe_one (pe_cmpR (show OpR _ _ (rEqD K) from op_eqD hr.units) (pe_propR (pv 0) x.cl_Live x.p_Live_log (ok_Live_log x) (hr.mono (by decide)) pass0) (pe_propR (pv 1) x.cl_Live x.p_Live_log (ok_Live_log x) (hr.mono (by decide)) pass0) (nomark _))))))), ?_⟩
  exact ⟨_, rfl, _, _, _, _, false, rfl, .own _, ty, kn, false, rfl, hQ⟩
/-- a live net beside what is none -/
theorem live_any {H : Hp} {p dx mo : Addr} {blk y : V} {t : Value} {neg : Bool} {Q : VK} (g : H p = some (liv K dx mo blk)) (ty : TyX K H y t) (nf : PySem.W.notFirst K (c_Live K) t = true) (kn : PySem.W.kitOne K t (.ref (c_Live K)) = some false) (k : Q (.bl neg) H) :
    rEqO K (c_Live K) (sp_Live_eqO K) E0 neg (.ref p) y H Q :=
  ⟨p, dx, _, t, rfl, g, ty, nf, p, y, t, rfl, ty, kn, false, rfl, by cases neg <;> exact k⟩
theorem net_ty (x : Fx K mg w) {S : Addr → Prop} {H : Hp} {net : Addr} {n : NetD} (t : NetAt S K H net n) : TyX K H (.ref net) (.ref (c_Net K)) := by
  obtain ⟨_, _, _, dn, _, _, _, m1, _⟩ := t
  exact isi_own m1.1 x.cl_Net x.cc_Net x.cget x.ctak x.mro_Net
/-- Rule(share, mark) -/
theorem ok2_Rule_init (x : Fx K mg w) : FnR P w K mg base CX0 2 (a_Rule_init K) (fun vs H Q E => sp_Rule_init K (vs ++ [.bl false, .bl false]) H Q E) := by
  obtain ⟨fd, F⟩ := x.F_Rule_init
  obtain ⟨ds, h1, h2⟩ := F.binds1 (ps := ["self", "share", "mark", "always", "late"]) 3 1 (by simp) rfl fun T kV doc pm an cdv ct us its hu hi => match us, hu, its, hi with | [_, _, _], _, [_, _, _], _ => ⟨_, rfl, rfl⟩
  exact (okf_Rule_init F x).raw h2 h1
end
end Ws

set_option Elab.async false
set_option linter.all false
set_option maxRecDepth 100000
set_option maxHeartbeats 4000000
namespace Ws
open PySem PySem.Spec PyProof.Rows L2
/-- the model behind deeds, the latest first -/
def mdR (md : ModelD) : List DeedD → ModelD
  | [] => md
  | e :: es => (mdR md es).behind e
section
variable {S T : Addr → Prop} {K : PySem.W.Frag} {H H1 : Hp} {md : ModelD}
def NetN (S : Addr → Prop) (K : PySem.W.Frag) (H : Hp) (md : ModelD) (net : Addr) : Prop := md.Fit ∧ ∃ n, NetAt S K H net n ∧ NormN md.net n
/-- the live net's past, the latest first -/
def PastR (S : Addr → Prop) (K : PySem.W.Frag) (H : Hp) (md : ModelD) : List Addr → List Addr → List DeedD → Prop
  | nets, ds, [] => ∃ net, nets = [net] ∧ ds = [] ∧ NetN S K H md net
  | nets, ds, e :: es => ∃ net nets' d ds', nets = net :: nets' ∧ ds = d :: ds' ∧ NetN S K H (mdR md (e :: es)) net ∧ At S H d (.tup e.vs) ∧ e.Ok ∧ PastR S K H md nets' ds' es
theorem PastR.mv (m : Tr S T H H1) : ∀ {es : List DeedD} {nets ds : List Addr}, PastR S K H md nets ds es → PastR T K H1 md nets ds es
  | [], _, _, ⟨net, e1, e2, f, n, h, nn⟩ => ⟨net, e1, e2, f, n, h.tr m, nn⟩
  | _ :: _, _, _, ⟨net, nets', d, ds', e1, e2, ⟨f, n, h, nn⟩, hd, ok, t⟩ => ⟨net, nets', d, ds', e1, e2, ⟨f, n, h.tr m, nn⟩, hd.tr m noTbl_tup, ok, PastR.mv m t⟩
theorem PastR.top : ∀ {es : List DeedD} {nets ds : List Addr}, PastR S K H md nets ds es → ∃ net nets' n, nets = net :: nets' ∧ NetAt S K H net n ∧ NormN (mdR md es).net n ∧ (mdR md es).Fit
  | [], _, _, ⟨net, e1, _, f, n, h, nn⟩ => ⟨net, [], n, e1, h, nn, f⟩
  | _ :: _, _, _, ⟨net, nets', _, _, e1, _, ⟨f, n, h, nn⟩, _⟩ => ⟨net, nets', n, e1, h, nn, f⟩
theorem PastR.deeds : ∀ {es : List DeedD} {nets ds : List Addr}, PastR S K H md nets ds es → DeedsAt S H ds es
  | [], _, _, ⟨_, _, e2, _⟩ => by rw [e2]; exact .nil
  | _ :: _, _, _, ⟨_, _, _, _, _, e2, _, hd, ok, t⟩ => by rw [e2]; exact .cons ⟨hd, ok⟩ t.deeds
/-- this law's notes, the latest first -/
def NotesR (S : Addr → Prop) (H : Hp) (md : ModelD) : List V → List DeedD → Prop
  | vs, [] => ∃ p m, vs = [.ref p] ∧ At S H p (.tup [.non, .ref m]) ∧ ModelAt S H m md
  | vs, e :: es => ∃ p m od vs', vs = .ref p :: vs' ∧ At S H p (.tup [.ref od, .ref m]) ∧ At S H od (.tup e.vs) ∧ e.Ok ∧ ModelAt S H m (mdR md (e :: es)) ∧ NotesR S H md vs' es
theorem NotesR.mv (m : Tr S T H H1) : ∀ {es : List DeedD} {vs : List V}, NotesR S H md vs es → NotesR T H1 md vs es
  | [], _, ⟨p, a, e, h1, h2⟩ => ⟨p, a, e, h1.tr m noTbl_tup, h2.tr m⟩
  | _ :: _, _, ⟨p, a, od, vs', e, h1, h2, ok, h3, t⟩ => ⟨p, a, od, vs', e, h1.tr m noTbl_tup, h2.tr m noTbl_tup, ok, h3.tr m, NotesR.mv m t⟩
theorem NotesR.top : ∀ {es : List DeedD} {vs : List V}, NotesR S H md vs es → ∃ p m dv vs', vs = .ref p :: vs' ∧ At S H p (.tup [dv, .ref m]) ∧ ModelAt S H m (mdR md es)
  | [], _, ⟨p, a, e, h1, h2⟩ => ⟨p, a, _, [], e, h1, h2⟩
  | _ :: _, _, ⟨p, a, od, vs', e, h1, h2, ok, h3, t⟩ => ⟨p, a, _, vs', e, h1, h3⟩
theorem NotesR.len : ∀ {es : List DeedD} {vs : List V}, NotesR S H md vs es → vs.length = es.length + 1
  | [], _, ⟨p, a, e, h1, h2⟩ => by rw [e]; rfl
  | _ :: _, _, ⟨p, a, od, vs', e, h1, h2, ok, h3, t⟩ => by rw [e, List.length_cons, t.len, List.length_cons]
/-- what the notes begin with: the deeds, and None at the end -/
theorem NotesR.firsts : ∀ {es : List DeedD} {vs : List V}, NotesR S H md vs es → ∃ ods, DeedsAt S H ods es ∧ Paired (fun v x => ∃ p y, v = .ref p ∧ At S H p (.tup [x, y])) vs (ods.map V.ref ++ [.non])
  | [], _, ⟨p, a, e, h1, h2⟩ => ⟨[], .nil, by rw [e]; exact .cons ⟨p, _, rfl, h1⟩ .nil⟩
  | _ :: _, _, ⟨p, a, od, vs', e, h1, h2, ok, h3, t⟩ => by
    obtain ⟨ods, d, f⟩ := t.firsts
    exact ⟨od :: ods, .cons ⟨h2, ok⟩ d, by rw [e]; exact .cons ⟨p, _, rfl, h1⟩ f⟩
/-- a live net at lv, its notes at nt, es the deeds that stand, the latest first -/
structure SideAt (S : Addr → Prop) (K : PySem.W.Frag) (H : Hp) (md : ModelD) (lv nt : Addr) (es : List DeedD) : Prop where
  sl : S lv
  sn : S nt
  ex : ∃ mo nets ds vs, LiveAt S K H lv .non mo nets ds ∧ PastR S K H md nets ds es ∧ H nt = some (.lst vs) ∧ NotesR S H md vs.reverse es
theorem SideAt.mv {lv nt : Addr} {es : List DeedD} (h : SideAt S K H md lv nt es) (m : Tr S T H H1) (sub : ∀ a, S a → T a) (k1 : ∀ o, H lv = some o → H1 lv = some o) (k2 : ∀ o, H nt = some o → H1 nt = some o) : SideAt T K H1 md lv nt es := by
  obtain ⟨sl, sn, mo, nets, ds, vs, ⟨⟨dx, g⟩, ch⟩, p, hn, nn⟩ := h
  exact ⟨sub _ sl, sub _ sn, mo, nets, ds, vs, ⟨⟨dx, k1 _ g⟩, ch.imp fun _ _ _ _ _ z => z.tr m noTbl_ins⟩, p.mv m, k2 _ hn, nn.mv m⟩
theorem SideAt.kp {U : Addr → Prop} {lv nt : Addr} {es : List DeedD} (h : SideAt S K H md lv nt es) (u : Kp U H H1) (sub : ∀ a, U a → S a) (n1 : ¬ U lv) (n2 : ¬ U nt) : SideAt S K H1 md lv nt es :=
  h.mv (.kp (u.mono sub)) (fun _ z => z) (fun o e => u.keep _ o e n1) fun o e => u.keep _ o e n2
abbrev Side := Addr × Addr × List DeedD
/-- the sides: tuples of a live net and a list of notes -/
structure SidesAt (S : Addr → Prop) (K : PySem.W.Frag) (H : Hp) (md : ModelD) (ts : List V) (xs : List Side) : Prop where
  len : ts.length = xs.length
  at_ : ∀ (i : Nat) (x : Side), xs[i]? = some x → ∃ t : Addr, ts[i]? = some (.ref t) ∧ At S H t (.tup [.ref x.1, .ref x.2.1]) ∧ SideAt S K H md x.1 x.2.1 x.2.2
  ne : ∀ (i j : Nat) (x y : Side), xs[i]? = some x → xs[j]? = some y → i ≠ j → x.1 ≠ y.1 ∧ x.2.1 ≠ y.2.1
theorem SidesAt.mv {ts : List V} {xs : List Side} (h : SidesAt S K H md ts xs) (m : Tr S T H H1) (sub : ∀ a, S a → T a) (k : ∀ x ∈ xs, (∀ o, H x.1 = some o → H1 x.1 = some o) ∧ ∀ o, H x.2.1 = some o → H1 x.2.1 = some o) : SidesAt T K H1 md ts xs := by
  refine ⟨h.len, fun i x e => ?_, h.ne⟩
  obtain ⟨t, e1, e2, e3⟩ := h.at_ i x e
  obtain ⟨k1, k2⟩ := k x (List.mem_of_getElem? e)
  exact ⟨t, e1, e2.tr m noTbl_tup, e3.mv m sub k1 k2⟩
theorem SidesAt.kp {U : Addr → Prop} {ts : List V} {xs : List Side} (h : SidesAt S K H md ts xs) (u : Kp U H H1) (sub : ∀ a, U a → S a) (n : ∀ x ∈ xs, ¬ U x.1 ∧ ¬ U x.2.1) : SidesAt S K H1 md ts xs :=
  h.mv (.kp (u.mono sub)) (fun _ z => z) fun x hx => ⟨fun o e => u.keep _ o e (n x hx).1, fun o e => u.keep _ o e (n x hx).2⟩
theorem SidesAt.ext {ts : List V} {xs : List Side} (h : SidesAt S K H md ts xs) (e : Ext H H1) : SidesAt S K H1 md ts xs := h.mv (.ext e) (fun _ z => z) fun _ _ => ⟨e _, e _⟩
/-- one side has moved on -/
theorem SidesAt.set {ts : List V} {xs : List Side} {k : Nat} {x : Side} {es : List DeedD} (h : SidesAt S K H md ts xs) (hx : xs[k]? = some x) (m : Tr S S H H1) (s : SideAt S K H1 md x.1 x.2.1 es)
    (n : ∀ a, a ≠ x.1 → a ≠ x.2.1 → (∃ y ∈ xs, a = y.1 ∨ a = y.2.1) → ∀ o, H a = some o → H1 a = some o) (df : ∀ y ∈ xs, y.1 ≠ x.2.1 ∧ y.2.1 ≠ x.1) : SidesAt S K H1 md ts (xs.set k (x.1, x.2.1, es)) := by
  have lt := (List.getElem?_eq_some_iff.mp hx).1
  refine ⟨by rw [List.length_set]; exact h.len, fun i y e => ?_, fun i j y z e1 e2 ij => ?_⟩
  · by_cases hi : i = k
    · subst hi
      rw [List.getElem?_set_self lt] at e
      cases e
      obtain ⟨t, e1, e2, _⟩ := h.at_ i x hx
      exact ⟨t, e1, e2.tr m noTbl_tup, s⟩
    · rw [List.getElem?_set_ne (Ne.symm hi)] at e
      obtain ⟨t, e1, e2, e3⟩ := h.at_ i y e
      obtain ⟨q1, q2⟩ := h.ne i k y x e hx hi
      have my := List.mem_of_getElem? e
      obtain ⟨d1, d2⟩ := df y my
      exact ⟨t, e1, e2.tr m noTbl_tup, e3.mv m (fun _ z => z) (n _ q1 d1 ⟨y, my, .inl rfl⟩) (n _ d2 q2 ⟨y, my, .inr rfl⟩)⟩
  · have old : ∀ {i : Nat} {y : Side}, (xs.set k (x.1, x.2.1, es))[i]? = some y → ∃ z : Side, xs[i]? = some z ∧ z.1 = y.1 ∧ z.2.1 = y.2.1 := fun {i y} e => by
      by_cases hi : i = k
      · subst hi
        rw [List.getElem?_set_self lt] at e
        cases e
        exact ⟨x, hx, rfl, rfl⟩
      · rw [List.getElem?_set_ne (Ne.symm hi)] at e
        exact ⟨y, e, rfl, rfl⟩
    obtain ⟨y', a1, a2, a3⟩ := old e1
    obtain ⟨z', b1, b2, b3⟩ := old e2
    rw [← a2, ← a3, ← b2, ← b3]
    exact h.ne i j _ _ a1 b1 ij
/-- one side more -/
theorem SidesAt.app {ts : List V} {xs : List Side} {t lv nt : Addr} {es : List DeedD} (h : SidesAt S K H md ts xs) (ht : At S H t (.tup [.ref lv, .ref nt])) (s : SideAt S K H md lv nt es) (n : ∀ y ∈ xs, y.1 ≠ lv ∧ y.2.1 ≠ nt) : SidesAt S K H md (ts ++ [.ref t]) (xs ++ [(lv, nt, es)]) := by
  have sp : ∀ {i y}, (xs ++ [(lv, nt, es)])[i]? = some y → (xs[i]? = some y) ∨ (i = xs.length ∧ y = (lv, nt, es)) := fun {i y} e => by
    by_cases hi : i < xs.length
    · rw [List.getElem?_append_left hi] at e; exact .inl e
    · rw [List.getElem?_append_right (by omega)] at e
      obtain ⟨l, e2⟩ := List.getElem?_eq_some_iff.mp e
      simp only [List.length_singleton] at l
      have : i = xs.length := by omega
      subst this
      simp at e2
      exact .inr ⟨rfl, e2.symm⟩
  refine ⟨by simp [h.len], fun i y e => ?_, fun i j y z e1 e2 ij => ?_⟩
  · rcases sp e with e | ⟨rfl, rfl⟩
    · obtain ⟨t', e1, e2, e3⟩ := h.at_ i y e
      exact ⟨t', by rw [List.getElem?_append_left (List.getElem?_eq_some_iff.mp e1).1]; exact e1, e2, e3⟩
    · exact ⟨t, by rw [← h.len, List.getElem?_append_right (Nat.le_refl _)]; simp, ht, s⟩
  · rcases sp e1 with e1 | ⟨rfl, rfl⟩ <;> rcases sp e2 with e2 | ⟨rfl, rfl⟩
    · exact h.ne i j y z e1 e2 ij
    · exact n y (List.mem_of_getElem? e1)
    · exact ⟨Ne.symm (n z (List.mem_of_getElem? e2)).1, Ne.symm (n z (List.mem_of_getElem? e2)).2⟩
    · exact absurd rfl ij
theorem SidesAt.pick {ts : List V} {xs : List Side} (h : SidesAt S K H md ts xs) {v : V} (hv : v ∈ ts) : ∃ (k : Nat) (x : Side) (t : Addr), xs[k]? = some x ∧ v = .ref t ∧ At S H t (.tup [.ref x.1, .ref x.2.1]) ∧ SideAt S K H md x.1 x.2.1 x.2.2 := by
  obtain ⟨k, hk⟩ := List.getElem?_of_mem hv
  have lt := (List.getElem?_eq_some_iff.mp hk).1
  rw [h.len] at lt
  obtain ⟨t, e1, e2, e3⟩ := h.at_ k _ (List.getElem?_eq_getElem lt)
  rw [hk] at e1
  cases e1
  exact ⟨k, _, t, List.getElem?_eq_getElem lt, rfl, e2, e3⟩
theorem SidesAt.get {ts : List V} {xs : List Side} (h : SidesAt S K H md ts xs) {k : Nat} {v : V} (hk : ts[k]? = some v) : ∃ (x : Side) (t : Addr), xs[k]? = some x ∧ v = .ref t ∧ At S H t (.tup [.ref x.1, .ref x.2.1]) ∧ SideAt S K H md x.1 x.2.1 x.2.2 := by
  have lt := (List.getElem?_eq_some_iff.mp hk).1
  rw [h.len] at lt
  obtain ⟨t, e1, e2, e3⟩ := h.at_ k _ (List.getElem?_eq_getElem lt)
  rw [hk] at e1
  cases e1
  exact ⟨_, t, List.getElem?_eq_getElem lt, rfl, e2, e3⟩
/-- lists of notes and live nets are unlike -/
theorem SideAt.df {lv nt lv' nt' : Addr} {es es' : List DeedD} (h : SideAt S K H md lv nt es) (h' : SideAt S K H md lv' nt' es') : lv ≠ nt' := by
  obtain ⟨_, _, _, _, _, _, ⟨⟨dx, g⟩, _⟩, _⟩ := h
  obtain ⟨_, _, _, _, _, _, _, _, g', _⟩ := h'
  exact ne_of g g' (by simp)
theorem SidesAt.df {ts : List V} {xs : List Side} (h : SidesAt S K H md ts xs) {x y : Side} (hx : x ∈ xs) (hy : y ∈ xs) : x.1 ≠ y.2.1 := by
  obtain ⟨i, hi⟩ := List.getElem?_of_mem hx
  obtain ⟨j, hj⟩ := List.getElem?_of_mem hy
  obtain ⟨_, _, _, s1⟩ := h.at_ i x hi
  obtain ⟨_, _, _, s2⟩ := h.at_ j y hj
  exact s1.df s2
end
/-- nets of the same model are one, of the same deeds -/
theorem side_eq {md : ModelD} {es es' : List DeedD} {n n' : NetD} (f : (mdR md es).Fit) (h : NormN (mdR md es).net n) (h' : NormN (mdR md es').net n') : (decide (n = n') && decide (es = es')) = decide (es = es') := by
  by_cases e : es = es'
  · subst e
    rw [decide_eq_true (norm_eq f.net h h'), Bool.true_and]
  · rw [decide_eq_false e, Bool.and_false]
/-- data of the notes' first parts -/
def firstD (es : List DeedD) : List PyData := .none :: es.reverse.map DeedD.dat
theorem none_dat (d : DeedD) : PyData.eqv .none d.dat = false ∧ PyData.eqv d.dat .none = false := by cases d <;> simp [DeedD.dat, PyData.eqv]
theorem first_eqv (es es' : List DeedD) : PyData.eqv (.list (firstD es)) (.list (firstD es')) = decide (es = es') := by
  have := deeds_eqv es.reverse es'.reverse
  simp only [PyData.eqv] at this
  simp only [firstD, PyData.eqv, PyData.eqvAll, this, Bool.true_and]
  rw [decide_eq_decide, List.reverse_inj]
theorem first_shaped {es : List DeedD} (h : ∀ d ∈ es, d.Ok) : SeqAt.shaped (.list (firstD es)) = true := by
  have := deeds_shaped (es := es.reverse) fun d hd => h d (List.mem_reverse.mp hd)
  unfold SeqAt.shaped at this ⊢
  obtain ⟨h1, h2⟩ := Bool.and_eq_true_iff.mp this
  have h3 := of_decide_eq_true h2
  refine Bool.and_eq_true_iff.mpr ⟨?_, decide_eq_true ?_⟩
  · simp only [PyData.canLay0, firstD, PyData.canLayAll0, Bool.true_and] at h1 ⊢
    exact h1
  · simp only [PyData.depth, firstD, PyData.depthAll] at h3 ⊢
    omega
theorem paired_tail {α β : Type} {R : α → β → Prop} {xs : List α} {ys : List β} (h : Paired R xs ys) : Paired R (xs.drop 1) (ys.drop 1) := by
  cases h with
  | nil => exact .nil
  | cons r t => exact t
/-- [x[0] for x in a], x a tuple of two -/
theorem lc_first {S : Addr → Prop} {K : PySem.W.Frag} {a D : Addr} {H : Hp} {vs xs : List V} {σ : L2.St} {j : Nat} {Qd : Hp → Prop} (ha : SqL K H a vs) (hD : H D = none) (pr : Paired (fun v x => ∃ p y, v = .ref p ∧ At S H p (.tup [x, y])) vs xs) (hl : xs.length ≤ 1000) (hj : j < σ.length)
    (hd : ∀ H', Ext H H' → H' D = some (.lst xs) → Qd H') :
    ∃ W : Nat → Nat → Hp → Prop, (∃ m, W 0 m (upd H D (.lst []))) ∧ ∀ i m H, W i m H →
      ((Itl K a).stop i H ∧ Qd H) ∨ ((Itl K a).go i H ∧ ∃ Nx : Hp → Prop, (∀ H', Nx H' → ∃ m', m' < m ∧ W (i + 1) m' H') ∧ ∀ x H', (Itl K a).yld i H x H' → gName j x (wipe σ [j]) H' fun σ2 H2 => wipe σ2 [j] = wipe σ [j] ∧ tYes σ2 H2 fun b H3 =>
        if b = true then tOp (rIxT K) (tVar j) (tC (.int 0)) σ2 H3 fun y H4 => ∃ acc, H4 D = some (.lst acc) ∧ acc.length < sizeLine ∧ Nx (upd H4 D (.lst (acc ++ [y]))) else Nx H3) := by
  have len := pr.length
  refine lc_std (S := no) (H0 := H) (std_list ha (fun z => z)) (fun i H' => Ext H H' ∧ H' D = some (.lst (xs.take i))) ⟨ext_new hD, by rw [upd_same]; simp⟩ (fun i H' h => .ext h.1) (fun i v H1 hv ⟨e1, hD1⟩ => ?_) (fun H1 ⟨e1, hD1⟩ => hd H1 e1 (by rw [hD1, len, List.take_length]))
  have lt := (List.getElem?_eq_some_iff.mp hv).1
  obtain ⟨x, hx, p, y, rfl, hp⟩ := paired_at pr hv
  dsimp only [gName]
  refine ⟨by simp [wipe], ?_⟩
  unfold tYes
  refine Eq.mpr (if_pos rfl) ?_
  refine ⟨_, by simp [wipe, hj], p, _, 0, _, rfl, rfl, SqT.of (e1 _ _ hp.1), atI_nat (j := 0) rfl, _, hD1, ?_, ?_, ?_⟩
  · have := line1001
    have := List.length_take_le' i xs
    omega
  · intro b o h
    rw [upd_ne (ne_of_none h hD)]
    exact e1 _ _ h
  · rw [upd_same, take_one hx]
end Ws

set_option Elab.async false
set_option linter.all false
set_option maxRecDepth 100000
set_option maxHeartbeats 4000000
namespace Ws
open PySem PySem.Spec PyProof.Rows L2 LamX
def three (a b c : Addr) : Addr → Prop := fun x => x = a ∨ x = b ∨ x = c
/-- between the laps: since H2 -/
structure LapAt (K : PySem.W.Frag) (H2 : Hp) (d wd c Pt m sd : Addr) (md : ModelD) (q : Str) (S : Addr → Prop) (n j : Nat) (H : Hp) (ts : List V) (xs : List Side) : Prop where
  u : Kp (three d wd Pt) H2 H
  old : ∀ a, S a → three d wd Pt a ∨ H2 a = none
  dm : Dm S H
  s3 : ∀ a, three d wd Pt a → S a
  ssd : S sd
  nsd : ¬ three d wd Pt sd
  ma : ModelAt S H m md
  da : DrawAt (two d wd) H d wd c n
  tb : TabS H Pt q
  pp : d ≠ Pt ∧ wd ≠ Pt ∧ c ≠ Pt
  cS : ¬ S c
  hsd : H sd = some (.lst ts)
  sides : SidesAt S K H md ts xs
  l1 : 1 ≤ xs.length
  l3 : xs.length ≤ 3
  far : ∀ x ∈ xs, (¬ three d wd Pt x.1 ∧ x.1 ≠ sd) ∧ ¬ three d wd Pt x.2.1 ∧ x.2.1 ≠ sd
  lens : ∀ x ∈ xs, x.2.2.length ≤ j
  ntup : ∀ a, S a → ∀ ys, H a ≠ some (.tup ys)
section
variable {K : PySem.W.Frag} {H2 H H1 : Hp} {d wd c Pt m sd : Addr} {md : ModelD} {q : Str} {S : Addr → Prop} {n n' j j' : Nat} {ts : List V} {xs : List Side}
theorem LapAt.tab (l : LapAt K H2 d wd c Pt m sd md q S n j H ts xs) : ∃ ps, H Pt = some (.tbl ps) := by
  obtain ⟨ps, h, _⟩ := l.tb
  exact ⟨ps, h⟩
/-- all goes on but what is of U -/
theorem LapAt.go {U : Addr → Prop} (l : LapAt K H2 d wd c Pt m sd md q S n j H ts xs) (u : Kp U H H1) (sub : ∀ a, U a → three d wd Pt a) (da : DrawAt (two d wd) H1 d wd c n') (tb : TabS H1 Pt q) (hj : j ≤ j') (hU : ∀ a, U a → ∀ ys, H1 a ≠ some (.tup ys)) : LapAt K H2 d wd c Pt m sd md q S n' j' H1 ts xs where
  u := l.u.trans (u.mono sub)
  old := l.old
  dm := fun a h => u.dom a (l.dm a h)
  s3 := l.s3
  ssd := l.ssd
  nsd := l.nsd
  ma := l.ma.kp (u.mono fun a h => l.s3 a (sub a h))
  da := da
  tb := tb
  pp := l.pp
  cS := l.cS
  hsd := u.keep _ _ l.hsd fun z => l.nsd (sub _ z)
  sides := l.sides.kp u (fun a h => l.s3 a (sub a h)) fun x hx => ⟨fun z => (l.far x hx).1.1 (sub _ z), fun z => (l.far x hx).2.1 (sub _ z)⟩
  l1 := l.l1
  l3 := l.l3
  far := l.far
  lens := fun x hx => Nat.le_trans (l.lens x hx) hj
  ntup := fun a h => by
    by_cases z : U a
    · exact hU a z
    · intro ys e
      cases g : H a with
      | none => exact l.dm a h g
      | some o =>
        have := u.keep a o g z
        rw [e] at this
        exact l.ntup a h ys (g.trans this.symm)
theorem tabS_draws {U : Addr → Prop} (t : TabS H Pt q) (da : DrawAt U H d wd c n) (h1 : d ≠ Pt) (h2 : wd ≠ Pt) (u : Kp (two d wd) H H1) : TabS H1 Pt q := by
  obtain ⟨_, _, ws, cs, rest, turn, g1, g2, _⟩ := da
  refine TabS.kp t u (fun z => z.elim (fun z => h1 z.symm) fun z => h2 z.symm) fun a z => ?_
  rcases z with rfl | rfl
  · exact ⟨_, g1, fun e => by unfold CodeO at e; cases e⟩
  · exact ⟨_, g2, fun e => by unfold CodeO at e; cases e⟩
theorem LapAt.draw (l : LapAt K H2 d wd c Pt m sd md q S n j H ts xs) (u : Kp (two d wd) H H1) (da : DrawAt (two d wd) H1 d wd c n') : LapAt K H2 d wd c Pt m sd md q S n' j H1 ts xs :=
  l.go u (fun a h => h.elim .inl fun h => .inr (.inl h)) da (tabS_draws l.tb l.da l.pp.1 l.pp.2.1 u) (Nat.le_refl _) fun a h ys e => by
    obtain ⟨_, _, ws, cs, rest, turn, g1, g2, _⟩ := da
    rcases h with rfl | rfl
    · rw [g1] at e; cases e
    · rw [g2] at e; cases e
theorem LapAt.ext (l : LapAt K H2 d wd c Pt m sd md q S n j H ts xs) (e : Ext H H1) : LapAt K H2 d wd c Pt m sd md q S n j H1 ts xs :=
  l.go (U := no) (.ext e) (fun a h => h.elim) (l.da.ext e) (LamX.TabS.ext l.tb e) (Nat.le_refl _) fun a h => h.elim
theorem LapAt.up (l : LapAt K H2 d wd c Pt m sd md q S n j H ts xs) (hn : n ≤ n') (hj : j ≤ j') : LapAt K H2 d wd c Pt m sd md q S n' j' H ts xs :=
  l.go (U := no) .refl (fun a h => h.elim) (l.da.more hn) l.tb hj fun a h => h.elim
theorem LapAt.lam (l : LapAt K H2 d wd c Pt m sd md q S n j H ts xs) (u : Kp (fun a => a = Pt) H H1) (tb : TabS H1 Pt q) : LapAt K H2 d wd c Pt m sd md q S n j H1 ts xs :=
  l.go u (fun a h => .inr (.inr h)) (l.da.kp u l.pp.1 l.pp.2.1 l.pp.2.2) tb (Nat.le_refl _) fun a h ys e => by
    obtain ⟨ps, g, _⟩ := tb
    rw [show a = Pt from h, g] at e
    cases e
theorem LapAt.dm2 (l : LapAt K H2 d wd c Pt m sd md q S n j H ts xs) : Dm (two d wd) H := fun a h => l.dm a (l.s3 a (h.elim .inl fun h => .inr (.inl h)))
theorem LapAt.sub2 (l : LapAt K H2 d wd c Pt m sd md q S n j H ts xs) : ∀ a, two d wd a → S a := fun a h => l.s3 a (h.elim .inl fun h => .inr (.inl h))
/-- a side has moved on: its live net and its notes have changed -/
theorem LapAt.side (l : LapAt K H2 d wd c Pt m sd md q S n j H ts xs) {k : Nat} {x : Side} {es : List DeedD} (hx : xs[k]? = some x) (u : Kp (fun b => b = x.1 ∨ b = x.2.1) H H1) (s : SideAt S K H1 md x.1 x.2.1 es) (hes : es.length ≤ j') (hj : j ≤ j') :
    LapAt K H2 d wd c Pt m sd md q S n j' H1 ts (xs.set k (x.1, x.2.1, es)) := by
  have mx := List.mem_of_getElem? hx
  have US : ∀ b, (b = x.1 ∨ b = x.2.1) → S b := fun b h => h.elim (fun e => by rw [e]; exact s.sl) fun e => by rw [e]; exact s.sn
  obtain ⟨⟨f1, f2⟩, f3, f4⟩ := l.far x mx
  have nt : ∀ b, (b = x.1 ∨ b = x.2.1) → ¬ three d wd Pt b := fun b h z => h.elim (fun e => f1 (e ▸ z)) fun e => f3 (e ▸ z)
  have nsd : ∀ b, (b = x.1 ∨ b = x.2.1) → b ≠ sd := fun b h z => h.elim (fun e => f2 (e ▸ z)) fun e => f4 (e ▸ z)
  have new : ∀ b, (b = x.1 ∨ b = x.2.1) → H2 b = none := fun b h => (l.old b (US b h)).elim (fun z => absurd z (nt b h)) id
  have uS : Kp S H H1 := u.mono US
  have df : ∀ y ∈ xs, y.1 ≠ x.2.1 ∧ y.2.1 ≠ x.1 := fun y hy => ⟨l.sides.df hy mx, Ne.symm (l.sides.df mx hy)⟩
  have mem : ∀ y ∈ xs.set k (x.1, x.2.1, es), ∃ z ∈ xs, z.1 = y.1 ∧ z.2.1 = y.2.1 := fun y hy => by
    rcases List.mem_or_eq_of_mem_set hy with hy | rfl
    · exact ⟨y, hy, rfl, rfl⟩
    · exact ⟨x, mx, rfl, rfl⟩
  have aC : ∀ b, (b = x.1 ∨ b = x.2.1) → ∃ o, H b = some o ∧ o ≠ CodeO b q := fun b h => by
    obtain ⟨_, _, s1⟩ : ∃ t : Addr, _ ∧ SideAt S K H md x.1 x.2.1 x.2.2 := by obtain ⟨t, e1, e2, e3⟩ := l.sides.at_ k x hx; exact ⟨t, e2, e3⟩
    obtain ⟨_, _, mo, nets, ds, vs, ⟨⟨dx, g⟩, _⟩, _, hn, _⟩ := s1
    rcases h with h | h
    · rw [h]; exact ⟨_, g, fun e => by unfold CodeO at e; cases e⟩
    · rw [h]; exact ⟨_, hn, fun e => by unfold CodeO at e; cases e⟩
  exact {
    u := ⟨fun b o h nb => u.keep b o (l.u.keep b o h nb) fun z => (by rw [new b z] at h; cases h), fun b h => u.dom b (l.u.dom b h)⟩
    old := l.old
    dm := fun b h => u.dom b (l.dm b h)
    s3 := l.s3
    ssd := l.ssd
    nsd := l.nsd
    ma := l.ma.kp uS
    da := l.da.kp u (fun z => nt _ z (.inl rfl)) (fun z => nt _ z (.inr (.inl rfl))) fun z => l.cS (US _ z)
    tb := TabS.kp l.tb u (fun z => nt _ z (.inr (.inr rfl))) aC
    pp := l.pp
    cS := l.cS
    hsd := u.keep _ _ l.hsd fun z => nsd _ z rfl
    sides := l.sides.set hx (.kp uS) s (fun b n1 n2 _ o h => u.keep b o h fun z => z.elim n1 n2) df
    l1 := by rw [List.length_set]; exact l.l1
    l3 := by rw [List.length_set]; exact l.l3
    far := fun y hy => by obtain ⟨z, hz, e1, e2⟩ := mem y hy; rw [← e1, ← e2]; exact l.far z hz
    lens := fun y hy => by
      rcases List.mem_or_eq_of_mem_set hy with hy | rfl
      · exact Nat.le_trans (l.lens y hy) hj
      · exact hes
    ntup := fun b h ys e => by
      by_cases z : b = x.1 ∨ b = x.2.1
      · obtain ⟨_, _, mo, nets, ds, vs, ⟨⟨dx, g⟩, _⟩, _, hn, _⟩ := s
        rcases z with h2 | h2
        · rw [h2, g] at e; cases e
        · rw [h2, hn] at e; cases e
      · cases g : H b with
        | none => exact l.dm b h g
        | some o =>
          have := u.keep b o g z
          rw [e] at this
          exact l.ntup b h ys (g.trans this.symm) }
/-- a side more: a copy of one -/
theorem LapAt.app (l : LapAt K H2 d wd c Pt m sd md q S n j H ts xs) {lv nt t : Addr} {es : List DeedD} (e : Ext H H1) (n1 : H lv = none) (n2 : H nt = none) (nn : lv ≠ nt) (d1 : H1 lv ≠ none) (d2 : H1 nt ≠ none) (hes : es.length ≤ j) (h3 : xs.length < 3)
    (ht : At S H1 t (.tup [.ref lv, .ref nt])) (tl : t ≠ lv) (tn : t ≠ nt) (nc : sd ≠ t)
    (s : SideAt (more (more S lv) nt) K H1 md lv nt es) : LapAt K H2 d wd c Pt m sd md q (more (more S lv) nt) n j (upd H1 sd (.lst (ts ++ [.ref t]))) (ts ++ [.ref t]) (xs ++ [(lv, nt, es)]) := by
  have l1 := l.ext e
  have new : ∀ b, H b = none → H2 b = none := fun b h => by
    cases g : H2 b with
    | none => rfl
    | some o => exact absurd h (l.u.dom b (by rw [g]; exact fun z => nomatch z))
  have notin : ∀ {b}, H b = none → ¬ S b := fun h z => l.dm _ z h
  have us : Kp (one sd) H1 (upd H1 sd (.lst (ts ++ [.ref t]))) := Kp.refl.put rfl
  have sn : H2 sd = none := (l.old sd l.ssd).elim (fun z => absurd z l.nsd) id
  have sf : sd ≠ lv ∧ sd ≠ nt := ⟨fun z => notin n1 (z ▸ l.ssd), fun z => notin n2 (z ▸ l.ssd)⟩
  -- what stood, over the grown set
  have grow : Tr S (more (more S lv) nt) H H := (Tr.grow n1).trans (Tr.grow n2)
  have tr : Tr S (more (more S lv) nt) H (upd H1 sd (.lst (ts ++ [.ref t]))) := grow.trans ((Tr.ext e).trans (.kp (us.mono fun b h => by rw [h]; exact .inl (.inl l.ssd))))
  have tr1 : Tr (more (more S lv) nt) (more (more S lv) nt) H1 (upd H1 sd (.lst (ts ++ [.ref t]))) := .kp (us.mono fun b h => by rw [h]; exact .inl (.inl l.ssd))
  have keep : ∀ b o, b ≠ sd → H1 b = some o → (upd H1 sd (.lst (ts ++ [.ref t]))) b = some o := fun b o h g => by rw [upd_ne h]; exact g
  have old1 : SidesAt (more (more S lv) nt) K (upd H1 sd (.lst (ts ++ [.ref t]))) md ts xs := l.sides.mv tr (fun a z => .inl (.inl z)) fun y hy => ⟨fun o g => keep _ _ (l.far y hy).1.2 (e _ _ g), fun o g => keep _ _ (l.far y hy).2.2 (e _ _ g)⟩
  have yn : ∀ y ∈ xs, y.1 ≠ lv ∧ y.2.1 ≠ nt := fun y hy => by
    obtain ⟨i, hi⟩ := List.getElem?_of_mem hy
    obtain ⟨_, _, _, s1⟩ := l.sides.at_ i y hi
    exact ⟨fun z => notin n1 (z ▸ s1.sl), fun z => notin n2 (z ▸ s1.sn)⟩
  have s' : SideAt (more (more S lv) nt) K (upd H1 sd (.lst (ts ++ [.ref t]))) md lv nt es := s.mv tr1 (fun _ z => z) (fun o g => keep _ _ sf.1.symm g) fun o g => keep _ _ sf.2.symm g
  have ht' : At (more (more S lv) nt) (upd H1 sd (.lst (ts ++ [.ref t]))) t (.tup [.ref lv, .ref nt]) := ⟨keep _ _ nc.symm ht.1, fun z => z.elim (fun z => z.elim ht.2 tl) tn⟩
  have n3 : ¬ three d wd Pt lv := fun z => notin n1 (l.s3 _ z)
  have n4 : ¬ three d wd Pt nt := fun z => notin n2 (l.s3 _ z)
  exact {
    u := ⟨fun b o h nb => by
      have g := e _ _ (l.u.keep b o h nb)
      exact keep b o (fun z => by rw [z, sn] at h; cases h) g, fun b h => us.dom b (l1.u.dom b h)⟩
    old := fun b h => h.elim (fun h => h.elim (l.old b) fun z => .inr (by rw [z]; exact new _ n1)) fun z => .inr (by rw [z]; exact new _ n2)
    dm := fun b h => us.dom b (h.elim (fun h => h.elim (fun h => l1.dm b h) fun z => by rw [z]; exact d1) fun z => by rw [z]; exact d2)
    s3 := fun b h => .inl (.inl (l.s3 b h))
    ssd := .inl (.inl l.ssd)
    nsd := l.nsd
    ma := l.ma.tr tr
    da := l1.da.kp us (fun z => l.nsd (.inl z.symm)) (fun z => l.nsd (.inr (.inl z.symm))) fun z => l.cS (by rw [show c = sd from z]; exact l.ssd)
    tb := TabS.kp l1.tb us (fun z => l.nsd (.inr (.inr z.symm))) fun b h => ⟨.lst ts, (show b = sd from h).symm ▸ l1.hsd, fun e => by unfold CodeO at e; cases e⟩
    pp := l.pp
    cS := fun z => by
      obtain ⟨_, _, ws, cs, rest, turn, _, _, g3, _⟩ := l.da
      rcases z with (z | z) | z
      · exact l.cS z
      · have g := g3.1
        rw [z, n1] at g
        cases g
      · have g := g3.1
        rw [z, n2] at g
        cases g
    hsd := upd_same
    sides := old1.app ht' s' yn
    l1 := by rw [List.length_append]; exact Nat.le_add_left _ _
    l3 := by rw [List.length_append]; exact h3
    far := fun y hy => by
      rcases List.mem_append.mp hy with hy | hy
      · exact l.far y hy
      · rw [List.mem_singleton.mp hy]; exact ⟨⟨n3, sf.1.symm⟩, n4, sf.2.symm⟩
    lens := fun y hy => by
      rcases List.mem_append.mp hy with hy | hy
      · exact l.lens y hy
      · rw [List.mem_singleton.mp hy]; exact hes
    ntup := fun b h ys g => by
      obtain ⟨_, _, mo, nets, ds, vs, ⟨⟨dx, g1⟩, _⟩, _, g2, _⟩ := s'
      rcases h with (h | h) | h
      · by_cases z : b = sd
        · rw [z, upd_same] at g; cases g
        · rw [upd_ne z] at g
          exact l1.ntup b h ys g
      · rw [h, g1] at g; cases g
      · rw [h, g2] at g; cases g }
end
end Ws

set_option Elab.async false
set_option linter.all false
set_option maxRecDepth 100000
set_option maxHeartbeats 8000000
set_option pp.deepTerms false
set_option pp.maxSteps 250
namespace Ws
open PySem PySem.Spec PyProof.Rows L2 LamX
section
variable {P : Program} {w : World} {K : PySem.W.Frag} {mg : Str → Option Value} {base : Heap}
/-- what stands behind a statement, said once -/
theorem seq_cut {t u : TS} {D : Ends} {σ : L2.St} {H : Hp} (I : L2.St → Hp → Prop) (tail : ∀ σ' H', I σ' H' → u D σ' H') (h : (∀ σ' H', I σ' H' → u D σ' H') → t { D with nx := u D } σ H) : tSeq t u D σ H := h tail
abbrev lawQ : Str := (("law" : Str) ++ ".<locals>.") ++ "<lambda>"
def sp_law (K : PySem.W.Frag) : Sp := fun vs H Q _ => ∃ (a : Addr) (ns : List Int), vs = [.ref a] ∧ SqL K H a (ns.map V.int) ∧ ns.length ≤ 63 ∧ (∀ p ∈ hlam.map (He.cT K), H p.2 = some (.tbl #[])) ∧ ∀ H', Q (.bl true) H'
theorem sc_law : FnScope ["_law_script", "_law_draw", "_law_turn", "_law_model_here", "_law_sides", "_law_lap", "_law_notes", "_law_deed_here", "_law_error", "_law_one", "_law_some", "_law_other", "_law_more_some", "_law_is_same", "_law_turn_back", "_law_lived", "_law_note"] ["_law_script"] (defScope s_law) := ⟨rfl, rfl, rfl, by decide +kernel, rfl, by decide +kernel, by decide +kernel⟩
theorem ok_law (x : Fx K mg w) (TB : ∀ p ∈ hlam.map (He.cT K), TabB base mg p.1 p.2) : FnRG P w K mg base CX0 11 (a_law K) (sp_law K) := by
  refine okGT (p := ("law", none)) x.F_law sc_law (fun _ _ _ _ _ _ us hl => match us, hl with | [_], _ => rfl) (fun vs H Q E h => by obtain ⟨a, ns, rfl, hs, hl, hT, hQ⟩ := h; rfl) (fun cdv A outer s H vs Q E hcode gu hr h => ?_)
  have TBx := TB _ (List.mem_map.mpr ⟨("law", none), by decide, rfl⟩)
  obtain ⟨a, ns, rfl, hs, hl, hT, hQ⟩ := h
  refine ⟨_, (pss_cons (ps_set (i := 1) sc_law.nd rfl (Or.inl rfl) (pe_callR (ok_l_begun x) (hr.mono (by decide)) rfl x.m_l_begun (keep_of x.F_l_begun) pass0 (pa_cons (pv 0) pa_nil)))
 (pss_cons (ps_for PassesOwn.never rfl (pi_range1 rfl x.n_range (pa_cons (pe_op op_add pe_int (pe_callB (call_min2 rfl) rfl x.n_min bb_min (pa_cons (pe_callB (r := rLenK K) call_lenK rfl x.n_len bb_len (pa_cons (pv 0) pa_nil)) (pa_cons pe_int pa_nil)))) pa_nil)) (pg_name (i := 2) sc_law.nd rfl (Or.inl rfl))
 (pss_cons (ps_set (i := 3) sc_law.nd rfl (Or.inl rfl) (pe_callR (ok_l_model x) (hr.mono (by decide)) rfl x.m_l_model (keep_of x.F_l_model) pass0 (pa_cons (pv 1) (pa_cons pe_int pa_nil))))
 (pss_cons (ps_set (i := 4) sc_law.nd rfl (Or.inl rfl) (pe_lst (pa_cons (pe_tup (pa_cons (StX.pe_makeR x.mk_Live (ok_Live_init x) (hr.mono (by decide)) rfl x.m_Live pass0 (pa_cons (pe_callR (ok_l_net x) (hr.mono (by decide)) rfl x.m_l_net (keep_of x.F_l_net) pass0 (pa_cons (pv 3) pa_nil)) pa_nil)) (pa_cons (pe_lst (pa_cons (pe_tup (pa_cons pe_non (pa_cons (pe_callR (ok_l_copied x) (hr.mono (by decide)) rfl x.m_l_copied (keep_of x.F_l_copied) pass0 (pa_cons (pv 3) pa_nil)) pa_nil))) pa_nil)) pa_nil))) pa_nil)))
 (pss_cons (ps_for PassesOwn.never rfl (pi_range1 rfl x.n_range (pa_cons pe_int pa_nil)) (pg_name (i := 5) sc_law.nd rfl (Or.inl rfl))
 (pss_cons (ps_asg (pe_callR (ok_l_pick x) (hr.mono (by decide)) rfl x.m_l_pick (keep_of x.F_l_pick) pass0 (pa_cons (pv 1) (pa_cons (pv 4) pa_nil))) (pg_tupK (K := K) (n := 2) rfl rfl (pgs_cons (pg_name (i := 15) sc_law.nd rfl (Or.inr rfl)) (pgs_cons (pg_name (i := 6) sc_law.nd rfl (Or.inl rfl)) pgs_nil))))
 (pss_cons (ps_if (PW.pt (pw_and (pt_cmpR op_eq (pe_callR (ok_l_take x) (hr.mono (by decide)) rfl x.m_l_take (keep_of x.F_l_take) pass0 (pa_cons (pv 1) (pa_cons pe_int pa_nil))) pe_int (nomark _)) (pw_and1 (pt_cmpR op_lt (pe_callB (r := rLenK K) call_lenK rfl x.n_len bb_len (pa_cons (pv 4) pa_nil)) pe_int (nomark _)))))
 (pss_one (ps_expr (pe_bmK (K := K) rfl PySem.F.plainAttrs_list PySem.F.slot_list_append PySem.F.type_list_append mt_append (pv 4) (pa_cons (pe_tup (pa_cons (Ws.pe_methR0 (pv 15) x.cl_Live x.me_Live_copy (ok_Live_copy x) (hr.mono (by decide)) pass0) (pa_cons (pe_callTy (r := rLstOf K) call_lstK rfl x.n_list bb_list (pa_cons (pv 6) pa_nil)) pa_nil))) pa_nil))))
 pss_nil)
 (pss_cons (ps_set (i := 7) sc_law.nd rfl (Or.inl rfl) (pe_callR (ok_l_deed x) (hr.mono (by decide)) rfl x.m_l_deed (keep_of x.F_l_deed) pass0 (pa_cons (pv 1) (pa_cons (pe_ix (r := rIxT K) ix_tup (pe_ix (r := rIxL K) ix_list (pv 6) (pe_un un_neg pe_int) (fun _ _ => rfl)) pe_int (fun _ _ => rfl)) pa_nil))))
 (pss_cons (ps_if (pt_cmpR op_eq (pe_callR (ok_l_take x) (hr.mono (by decide)) rfl x.m_l_take (keep_of x.F_l_take) pass0 (pa_cons (pv 1) (pa_cons pe_int pa_nil))) pe_int (nomark _))
 (pss_cons (ps_set (i := 8) sc_law.nd rfl (Or.inl rfl) (pe_kept (CS := c_StoryError K) (k := 1) x.F_l_caught rfl x.m_l_caught (fun _ _ _ _ _ _ us hl => match us, hl with | [_], _ => rfl) sc_l_caught rfl (Or.inl rfl) (gives_l_caught x rfl rfl) TBx hcode (hr.mono (by decide)) (lamS_by (sc := defScope s_law) (by decide +kernel)) rfl (fun _ _ _ _ _ => rfl) (fun A outer s H E f c hr => (Ws.pe_methR0 (pv 15) x.cl_Live x.me_Live_undo (ok_Live_undo x) (hr.mono (by decide)) (passes_call (takes_of rfl rfl rfl rfl) (fun _ _ _ _ h => h))))))
 (pss_cons (ps_if (PW.pt (pw_or (pt_cmpR op_ne (pe_cmpR op_isN (pv 8) pe_non (nomark _)) (pe_cmpR op_gt (pe_callB (r := rLenK K) call_lenK rfl x.n_len bb_len (pa_cons (pv 6) pa_nil)) pe_int (nomark _)) (nomark _)) (pw_or1 (PW.pt (pw_and (pt_cmpR op_notN (pv 8) pe_non (nomark _)) (pw_and1 (pt_not (pt_val (pe_callB (r := rIsEV K) call_isEV rfl x.n_isinstance bb_isinstance (pa_cons (pv 8) (pa_cons (pe_gR x.m_NothingDone rfl) pa_nil)))))))))))
 (pss_one (ps_ret pe_bl))
 pss_nil)
 (pss_one (ps_if (pt_cmpR op_isN (pv 8) pe_non (nomark _))
 (pss_one (ps_expr (pe_bm0 PySem.F.plainAttrs_list PySem.F.slot_list_pop PySem.F.type_list_pop mt_pop (pv 6))))
 pss_nil))))
 (pss_one (ps_if (pt_cmpR op_notN (pv 7) pe_non (nomark _))
 (pss_cons (ps_expr (Ws.pe_methR (pv 15) x.cl_Live x.me_Live_do (ok_Live_do x) (hr.mono (by decide)) pass0 (pa_cons (pv 7) pa_nil)))
 (pss_one (ps_expr (pe_bmK (K := K) rfl PySem.F.plainAttrs_list PySem.F.slot_list_append PySem.F.type_list_append mt_append (pv 6) (pa_cons (pe_tup (pa_cons (pv 7) (pa_cons (pe_callR (ok_l_behind x) (hr.mono (by decide)) rfl x.m_l_behind (keep_of x.F_l_behind) pass0 (pa_cons (pe_ix (r := rIxT K) ix_tup (pe_ix (r := rIxL K) ix_list (pv 6) (pe_un un_neg pe_int) (fun _ _ => rfl)) pe_int (fun _ _ => rfl)) (pa_cons (pv 7) pa_nil))) pa_nil))) pa_nil)))))
 pss_nil)))
 (pss_one (ps_for PassesOwn.never rfl (pi_listK (K := K) rfl (pv 4)) (pg_tupK (K := K) (n := 2) rfl rfl (pgs_cons (pg_name (i := 9) sc_law.nd rfl (Or.inl rfl)) (pgs_cons (pg_name (i := 10) sc_law.nd rfl (Or.inl rfl)) pgs_nil)))
 (pss_one (ps_if (PW.pt (pw_or (pt_cmpR (show OpR _ _ (rEqI K _ _ _ true) from op_neI x.ne_Net x.mro_Net x.sp_Net_eq x.fn_Net_eq (ok_Net_eq x) (hr.mono (by decide)) pass0) (pe_propR (pv 9) x.cl_Live x.p_Live_net (ok_Live_net x) (hr.mono (by decide)) pass0) (pe_callR (ok_l_net x) (hr.mono (by decide)) rfl x.m_l_net (keep_of x.F_l_net) pass0 (pa_cons (pe_ix (r := rIxT K) ix_tup (pe_ix (r := rIxL K) ix_list (pv 10) (pe_un un_neg pe_int) (fun _ _ => rfl)) pe_int (fun _ _ => rfl)) pa_nil)) (nomark _)) (pw_or1 (pt_cmpR op_ne (pe_callB (r := rRepr K) (call_reprD gu hr.units) rfl x.n_repr bb_repr (pa_cons (pe_propR (pv 9) x.cl_Live x.p_Live_log (ok_Live_log x) (hr.mono (by decide)) pass0) pa_nil)) (pe_callB (r := rRepr K) (call_reprD gu hr.units) rfl x.n_repr bb_repr (pa_cons (pe_lc (own := [("_law_note", 16)]) (tt := tYes) rfl sc_law.nd (pi_listK (K := K) rfl (pe_slice (r := rSlL K) sl_list (pv 10) (po_some pe_int) po_none)) (blkOk_by (N := ["_law_script", "_law_draw", "_law_turn", "_law_model_here", "_law_sides", "_law_lap", "_law_notes", "_law_deed_here", "_law_error", "_law_one", "_law_some", "_law_other", "_law_more_some", "_law_is_same", "_law_turn_back", "_law_lived", "_law_note"]) (sc := defScope s_law) (by decide +kernel)) (fun _ _ _ _ _ => (pg_name (i := 16) sc_law.nd rfl (Or.inl rfl))) (fun _ _ _ _ _ => pts_nil) (fun _ _ _ _ _ => (pe_ix (r := rIxT K) ix_tup (pv 16) pe_int (fun _ _ => rfl)))) pa_nil)) (nomark _)))))
 (pss_one (ps_ret pe_bl))
 pss_nil)))))))))
 (pss_cons (ps_for PassesOwn.never rfl (pi_listK (K := K) rfl (pv 4)) (pg_tupK (K := K) (n := 2) rfl rfl (pgs_cons (pg_name (i := 9) sc_law.nd rfl (Or.inl rfl)) (pgs_cons (pg_name (i := 10) sc_law.nd rfl (Or.inl rfl)) pgs_nil)))
 (pss_cons (ps_for PassesOwn.never rfl (pi_listK (K := K) rfl (pv 4)) (pg_tupK (K := K) (n := 2) rfl rfl (pgs_cons (pg_name (i := 11) sc_law.nd rfl (Or.inl rfl)) (pgs_cons (pg_name (i := 12) sc_law.nd rfl (Or.inl rfl)) pgs_nil)))
 (pss_cons (ps_set (i := 13) sc_law.nd rfl (Or.inl rfl) (pe_cmpR (show OpR _ _ (rEqD K) from op_eqD hr.units) (pe_lc (own := [("_law_note", 16)]) (tt := tYes) rfl sc_law.nd (pi_listK (K := K) rfl (pv 10)) (blkOk_by (N := ["_law_script", "_law_draw", "_law_turn", "_law_model_here", "_law_sides", "_law_lap", "_law_notes", "_law_deed_here", "_law_error", "_law_one", "_law_some", "_law_other", "_law_more_some", "_law_is_same", "_law_turn_back", "_law_lived", "_law_note"]) (sc := defScope s_law) (by decide +kernel)) (fun _ _ _ _ _ => (pg_name (i := 16) sc_law.nd rfl (Or.inl rfl))) (fun _ _ _ _ _ => pts_nil) (fun _ _ _ _ _ => (pe_ix (r := rIxT K) ix_tup (pv 16) pe_int (fun _ _ => rfl)))) (pe_lc (own := [("_law_note", 16)]) (tt := tYes) rfl sc_law.nd (pi_listK (K := K) rfl (pv 12)) (blkOk_by (N := ["_law_script", "_law_draw", "_law_turn", "_law_model_here", "_law_sides", "_law_lap", "_law_notes", "_law_deed_here", "_law_error", "_law_one", "_law_some", "_law_other", "_law_more_some", "_law_is_same", "_law_turn_back", "_law_lived", "_law_note"]) (sc := defScope s_law) (by decide +kernel)) (fun _ _ _ _ _ => (pg_name (i := 16) sc_law.nd rfl (Or.inl rfl))) (fun _ _ _ _ _ => pts_nil) (fun _ _ _ _ _ => (pe_ix (r := rIxT K) ix_tup (pv 16) pe_int (fun _ _ => rfl)))) (nomark _)))
 (pss_one (ps_if (PW.pt (pw_or (pt_cmpR op_ne (pe_cmpR (show OpR _ _ (rEqI K _ _ _ false) from op_eqI x.sp_Live_eq x.fn_Live_eq (ok_Live_eq x) (hr.mono (by decide)) pass0) (pv 9) (pv 11) (nomark _)) (pv 13) (nomark _)) (pw_or1 (pt_cmpR op_eq (pe_cmpR (show OpR _ _ (rEqI K _ _ _ true) from op_neI x.ne_Live x.mro_Live x.sp_Live_eq x.fn_Live_eq (ok_Live_eq x) (hr.mono (by decide)) pass0) (pv 9) (pv 11) (nomark _)) (pv 13) (nomark _)))))
 (pss_one (ps_ret pe_bl))
 pss_nil))))
 (pss_one (ps_if (PW.pt (pw_or (pt_cmpR (show OpR _ _ (rEqO K _ _ _ false) from op_eqO x.sp_Live_eq x.fn_Live_eq (ok_Live_eqO x) (hr.mono (by decide)) pass0) (pv 9) pe_non (nomark _)) (pw_or (pt_cmpR (show OpR _ _ (rEqO K _ _ _ false) from op_eqO x.sp_Live_eq x.fn_Live_eq (ok_Live_eqO x) (hr.mono (by decide)) pass0) (pv 9) (pe_propR (pv 9) x.cl_Live x.p_Live_net (ok_Live_net x) (hr.mono (by decide)) pass0) (nomark _)) (pw_or (pt_cmpR (show OpR _ _ (rEqO K _ _ _ false) from op_eqO x.sp_Live_eq x.fn_Live_eq (ok_Live_eqO x) (hr.mono (by decide)) pass0) (pv 9) (pe_propR (pv 9) x.cl_Live x.p_Live_log (ok_Live_log x) (hr.mono (by decide)) pass0) (nomark _)) (pw_or1 (pt_not (pt_cmpR (show OpR _ _ (rEqO K _ _ _ true) from op_neO x.ne_Live x.mro_Live x.sp_Live_eq x.fn_Live_eq (ok_Live_eqO x) (hr.mono (by decide)) pass0) (pv 9) (pv 10) (nomark _))))))))
 (pss_one (ps_ret pe_bl))
 pss_nil))))
 (pss_cons (ps_set (i := 11) sc_law.nd rfl (Or.inl rfl) (Ws.pe_methR (pe_callR (ok_l_net x) (hr.mono (by decide)) rfl x.m_l_net (keep_of x.F_l_net) pass0 (pa_cons (pv 3) pa_nil)) x.cl_Net x.me_Net_with_rules (ok_Net_with_rules x) (hr.mono (by decide)) pass0 (pa_cons (pe_ix (r := rIxL K) ix_list (pe_dget (hu_of hr) (pv 3) pe_str (fun _ _ => rfl)) pe_int (fun _ _ => rfl)) (pa_cons (pe_lst (pa_cons (StX.pe_makeR x.mk_Rule (ok2_Rule_init x) (hr.mono (by decide)) rfl x.m_Rule pass0 (pa_cons pe_int (pa_cons pe_str pa_nil))) pa_nil)) pa_nil))))
 (pss_cons (ps_if (PW.pt (pw_or (pt_cmpR (show OpR _ _ (rEqI K _ _ _ false) from op_eqI x.sp_Live_eq x.fn_Live_eq (ok_Live_eq x) (hr.mono (by decide)) pass0) (StX.pe_makeR x.mk_Live (ok_Live_init x) (hr.mono (by decide)) rfl x.m_Live pass0 (pa_cons (pv 11) pa_nil)) (StX.pe_makeR x.mk_Live (ok_Live_init x) (hr.mono (by decide)) rfl x.m_Live pass0 (pa_cons (pe_callR (ok_l_net x) (hr.mono (by decide)) rfl x.m_l_net (keep_of x.F_l_net) pass0 (pa_cons (pv 3) pa_nil)) pa_nil)) (nomark _)) (pw_or1 (pt_cmpR (show OpR _ _ (rEqI K _ _ _ true) from op_neI x.ne_Live x.mro_Live x.sp_Live_eq x.fn_Live_eq (ok_Live_eq x) (hr.mono (by decide)) pass0) (StX.pe_makeR x.mk_Live (ok_Live_init x) (hr.mono (by decide)) rfl x.m_Live pass0 (pa_cons (pv 11) pa_nil)) (StX.pe_makeR x.mk_Live (ok_Live_init x) (hr.mono (by decide)) rfl x.m_Live pass0 (pa_cons (pv 11) pa_nil)) (nomark _)))))
 (pss_one (ps_ret pe_bl))
 pss_nil)
 (pss_cons (ps_asg (pe_ix (r := rIxL K) ix_list (pv 4) pe_int (fun _ _ => rfl)) (pg_tupK (K := K) (n := 2) rfl rfl (pgs_cons (pg_name (i := 15) sc_law.nd rfl (Or.inr rfl)) (pgs_cons (pg_name (i := 6) sc_law.nd rfl (Or.inl rfl)) pgs_nil))))
 (pss_cons (ps_for PassesOwn.never rfl (pi_range1 rfl x.n_range (pa_cons (pe_op op_sub (pe_callB (r := rLenK K) call_lenK rfl x.n_len bb_len (pa_cons (pv 6) pa_nil)) pe_int) pa_nil)) (pg_name (i := 14) sc_law.nd rfl (Or.inl rfl))
 (pss_cons (ps_expr (pe_bm0 PySem.F.plainAttrs_list PySem.F.slot_list_pop PySem.F.type_list_pop mt_pop (pv 6)))
 (pss_one (ps_if (PW.pt (pw_or (pt_cmpR op_notN (Ws.pe_methR0 (pv 15) x.cl_Live x.me_Live_undo (ok_Live_undo x) (hr.mono (by decide)) passF) pe_non (nomark _)) (pw_or1 (pt_cmpR (show OpR _ _ (rEqI K _ _ _ true) from op_neI x.ne_Net x.mro_Net x.sp_Net_eq x.fn_Net_eq (ok_Net_eq x) (hr.mono (by decide)) pass0) (pe_propR (pv 15) x.cl_Live x.p_Live_net (ok_Live_net x) (hr.mono (by decide)) pass0) (pe_callR (ok_l_net x) (hr.mono (by decide)) rfl x.m_l_net (keep_of x.F_l_net) pass0 (pa_cons (pe_ix (r := rIxT K) ix_tup (pe_ix (r := rIxL K) ix_list (pv 6) (pe_un un_neg pe_int) (fun _ _ => rfl)) pe_int (fun _ _ => rfl)) pa_nil)) (nomark _)))))
 (pss_one (ps_ret pe_bl))
 pss_nil))))
 (pss_one (ps_if (PW.pt (pw_or (pt_not (pt_val (pe_callB (r := rIsEV K) call_isEV rfl x.n_isinstance bb_isinstance (pa_cons (pe_kept (CS := c_StoryError K) (k := 1) x.F_l_caught rfl x.m_l_caught (fun _ _ _ _ _ _ us hl => match us, hl with | [_], _ => rfl) sc_l_caught rfl (Or.inl rfl) (gives_l_caught x rfl rfl) TBx hcode (hr.mono (by decide)) (lamS_by (sc := defScope s_law) (by decide +kernel)) rfl (fun _ _ _ _ _ => rfl) (fun A outer s H E f c hr => (Ws.pe_methR0 (pv 15) x.cl_Live x.me_Live_undo (ok_Live_undo x) (hr.mono (by decide)) (passes_call (takes_of rfl rfl rfl rfl) (fun _ _ _ _ h => h))))) (pa_cons (pe_gR x.m_NothingDone rfl) pa_nil))))) (pw_or1 (pt_cmpR (show OpR _ _ (rEqI K _ _ _ true) from op_neI x.ne_Live x.mro_Live x.sp_Live_eq x.fn_Live_eq (ok_Live_eq x) (hr.mono (by decide)) pass0) (pv 15) (StX.pe_makeR x.mk_Live (ok_Live_init x) (hr.mono (by decide)) rfl x.m_Live pass0 (pa_cons (pe_callR (ok_l_net x) (hr.mono (by decide)) rfl x.m_l_net (keep_of x.F_l_net) pass0 (pa_cons (pv 3) pa_nil)) pa_nil)) (nomark _)))))
 (pss_one (ps_ret pe_bl))
 pss_nil)))))))))))
 (pss_one (ps_ret pe_bl)))), ?_⟩
  have xx := x
  have hP := hT _ (List.mem_map.mpr ⟨("law", none), by decide, rfl⟩)
  generalize hPt : (He.cT K ("law", none)).2 = Pt at hP
  refine ⟨_, rfl, a, ns, rfl, hs, hl, fun d wd c H1 e1 nd nwd da => ?_⟩
  have dP1 : Pt ≠ d := ne_of_none hP nd
  have dP2 : Pt ≠ wd := ne_of_none hP nwd
  have hP1 := e1 _ _ hP
  have dm1 : Dm (two d wd) H1 := by
    obtain ⟨_, _, ws, cs, rest, turn, g1, g2, _⟩ := id da
    rintro b (rfl | rfl)
    · rw [g1]; exact fun z => nomatch z
    · rw [g2]; exact fun z => nomatch z
  have dm3 : Dm (three d wd Pt) H1 := by
    rintro b (z | z | z)
    · exact dm1 b (.inl z)
    · exact dm1 b (.inr z)
    · rw [z, hP1]; exact fun z => nomatch z
  obtain ⟨k, hk, k12⟩ : ∃ k : Nat, (3 : Int) + (if (9 : Int) < ((ns.map V.int).length : Nat) then (9 : Int) else (((ns.map V.int).length : Nat) : Int)) = (k : Nat) ∧ k ≤ 12 := by
    rw [List.length_map]
    by_cases z : (9 : Int) < (ns.length : Nat)
    · exact ⟨12, by rw [if_pos z]; rfl, by omega⟩
    · exact ⟨3 + ns.length, by rw [if_neg z]; omega, by omega⟩
  refine ⟨_, rfl, _, _, rfl, .inl ⟨_, sqL_ext hs e1, rfl⟩, _, _, rfl, _, _, rfl, rfl, (k : Int), congrArg (fun z => [V.int z]) hk, by omega, by omega, ?_⟩
  refine for_std (S := three d wd Pt) (H0 := H1) std_range (fun i σ H' => Kp (three d wd Pt) H1 H' ∧ DrawAt (two d wd) H' d wd c (600 * i) ∧ TabS H' Pt lawQ ∧ ∃ v2 v3 v4 v5 v6 v7 v8 v9 v10 v11 v12 v13 v14 v15 v16, σ = [some (.ref a), some (.ref d), v2, v3, v4, v5, v6, v7, v8, v9, v10, v11, v12, v13, v14, v15, v16])
    ⟨Kp.refl, da, LamX.TabS.nil hP1, none, none, none, none, none, none, none, none, none, none, none, none, none, none, none, rfl⟩ (fun i σ H' h => h.1) (fun i y σ H2 hy ⟨u2, da2, tb2, v2, v3, v4, v5, v6, v7, v8, v9, v10, v11, v12, v13, v14, v15, v16, hσ⟩ => ?_) (fun σ H2 ⟨u2, da2, tb2, v2, v3, v4, v5, v6, v7, v8, v9, v10, v11, v12, v13, v14, v15, v16, hσ⟩ => ?_)
  · subst hσ
    have hi : i < k := by
      have := (List.getElem?_eq_some_iff.mp hy).1
      simpa using this
    have dm2 : Dm (two d wd) H2 := fun a h => u2.dom a (dm1 a h)
    refine ⟨_, rfl, two d wd, d, wd, c, _, 6, rfl, dm2, da2, by show 600 * i + 400 ≤ 1099511627776; omega, by decide, by decide, fun m md H3 u3 da3 ma3 f _ qq => ?_⟩
    dsimp only [gName]
    have dm3 := dm2.kp u3
    refine ⟨_, rfl, two d wd, m, md, rfl, dm3, ma3, f, fun fa n H4 e4 nn tn => ?_⟩
    have dm4 := dm3.ext e4
    refine make_liveM (K := K) dm4 tn fun lv mo H5 e5 nlv dm5 l5 => ?_
    have ma5 := ((ma3.ext e4).grow nlv).ext e5
    refine ⟨_, rfl, more (two d wd) lv, m, md, rfl, dm5, ma5, f, fun m' H6 ph' ps pe nk e6 c1 c2 c3 c4 c5 fr => ?_⟩
    have mb6 : ModelAt (more (two d wd) lv) H6 m' md := ⟨ph', ps, pe, nk, c1, c2, c3, c4, c5⟩
    have dm6 := dm5.ext e6
    refine ⟨by simp [sizeLine_eq], fun t0 nt0 => ?_⟩
    have i7 := ext_new (o := .tup [.non, .ref m']) nt0
    have a7 : At (more (two d wd) lv) (upd H6 t0 (.tup [.non, .ref m'])) t0 (.tup [.non, .ref m']) := .fresh dm6 nt0
    generalize upd H6 t0 (.tup [.non, .ref m']) = H7 at i7 a7 ⊢
    refine ⟨by simp [sizeLine_eq], fun nt nnt => ?_⟩
    have i8 := ext_new (o := .lst [.ref t0]) nnt
    have h8 : (upd H7 nt (.lst [.ref t0])) nt = some (.lst [.ref t0]) := upd_same
    have dm8 : Dm (more (more (two d wd) lv) nt) (upd H7 nt (.lst [.ref t0])) := fun b h => h.elim (fun h => ((dm6.ext i7).ext i8) b h) fun h => by rw [h, h8]; exact fun z => nomatch z
    generalize upd H7 nt (.lst [.ref t0]) = H8 at i8 h8 dm8 ⊢
    refine ⟨by simp [sizeLine_eq], fun t1 nt1 => ?_⟩
    have i9 := ext_new (o := .tup [.ref lv, .ref nt]) nt1
    have a9 : At (more (more (two d wd) lv) nt) (upd H8 t1 (.tup [.ref lv, .ref nt])) t1 (.tup [.ref lv, .ref nt]) := .fresh dm8 nt1
    generalize upd H8 t1 (.tup [.ref lv, .ref nt]) = H9 at i9 a9 ⊢
    refine ⟨by simp [sizeLine_eq], fun sd nsd => ?_⟩
    have i10 := ext_new (o := .lst [.ref t1]) nsd
    have h10 : (upd H9 sd (.lst [.ref t1])) sd = some (.lst [.ref t1]) := upd_same
    generalize upd H9 sd (.lst [.ref t1]) = H10 at i10 h10 ⊢
    dsimp only [gName]
    have e310 : Ext H3 H10 := ((e4.trans e5).trans (e6.trans i7)).trans ((i8.trans i9).trans i10)
    have e610 : Ext H6 H10 := (i7.trans i8).trans (i9.trans i10)
    have e710 : Ext H7 H10 := i8.trans (i9.trans i10)
    have none_of : ∀ {Ha Hb : Hp} {z : Addr}, Ext Ha Hb → Hb z = none → Ha z = none := fun {Ha Hb z} e h => by
      cases g : Ha z with
      | none => rfl
      | some o => rw [e _ _ g] at h; cases h
    have n4 : H3 lv = none := none_of e4 nlv
    have n5 : H6 nt = none := none_of i7 nnt
    have n5' : H3 nt = none := none_of ((e4.trans e5).trans e6) n5
    have n6' : H7 sd = none := none_of (i8.trans i9) nsd
    have n6 : H6 sd = none := none_of i7 n6'
    have n6'' : H3 sd = none := none_of ((e4.trans e5).trans e6) n6
    have old2 : ∀ {z : Addr}, H3 z = none → H2 z = none := fun {z} h => by
      cases g : H2 z with
      | none => rfl
      | some o => exact absurd h (u3.dom z (by rw [g]; exact fun q => nomatch q))
    obtain ⟨⟨dxl, gl⟩, chl⟩ := id l5
    have gl10 : H10 lv = some (liv K dxl mo .non) := (e6.trans e610) _ _ gl
    have gn10 : H10 nt = some (.lst [.ref t0]) := (i9.trans i10) _ _ h8
    have lvnt : lv ≠ nt := ne_of gl10 gn10 (by simp)
    have lvsd : lv ≠ sd := ne_of gl10 h10 (by simp)
    have ntsd : nt ≠ sd := ne_of_none (i9 _ _ h8) nsd
    obtain ⟨ps2, hP2, _⟩ := id tb2
    have hP3 : H3 Pt = some (.tbl ps2) := u3.keep _ _ hP2 fun z => z.elim dP1 dP2
    have hP10 := e310 _ _ hP3
    have tb3 : TabS H3 Pt lawQ := tabS_draws tb2 da2 (Ne.symm dP1) (Ne.symm dP2) u3
    have da10 := da3.ext e310
    have cP : c ≠ Pt := by
      obtain ⟨_, _, ws, cs, rest, turn, g1, g2, g3, _⟩ := id da10
      exact ne_of g3.1 hP10 (by simp)
    have nd3 : ∀ {z : Addr}, H3 z = none → ¬ three d wd Pt z ∧ c ≠ z := fun {z} h => by
      obtain ⟨_, _, ws', cs', rest', turn', f1, f2, f3, _⟩ := id da3
      refine ⟨fun t => ?_, ne_of_none f3.1 h⟩
      rcases t with t | t | t
      · rw [t, f1] at h; cases h
      · rw [t, f2] at h; cases h
      · rw [t, hP3] at h; cases h
    have trA : Tr (two d wd) (more (more (more (more (two d wd) lv) nt) sd) Pt) H3 H10 := ((Tr.grow n4).trans (Tr.grow n5')).trans ((Tr.grow n6'').trans ((Tr.ext e310).trans (Tr.tab hP10)))
    have trB : Tr (more (two d wd) lv) (more (more (more (more (two d wd) lv) nt) sd) Pt) H6 H10 := (Tr.grow n5).trans ((Tr.grow n6).trans ((Tr.ext e610).trans (Tr.tab hP10)))
    have trC : Tr (more (two d wd) lv) (more (more (more (more (two d wd) lv) nt) sd) Pt) H7 H10 := (Tr.grow nnt).trans ((Tr.grow n6').trans ((Tr.ext e710).trans (Tr.tab hP10)))
    have trD : Tr (more (more (two d wd) lv) nt) (more (more (more (more (two d wd) lv) nt) sd) Pt) H9 H10 := (Tr.grow nsd).trans ((Tr.ext i10).trans (Tr.tab hP10))
    have L : LapAt K H2 d wd c Pt m sd md lawQ (more (more (more (more (two d wd) lv) nt) sd) Pt) (600 * i + 300) 0 H10 [.ref t1] [(lv, nt, [])] := {
      u := ⟨fun b o h nb => e310 _ _ (u3.keep _ _ h fun z => nb (z.elim .inl fun z => .inr (.inl z))), fun b h => ext_dom e310 (u3.dom b h)⟩
      old := fun b h => by
        rcases h with (((h | h) | h) | h) | h
        · exact .inl (h.elim .inl fun z => .inr (.inl z))
        · rw [h]; exact .inr (old2 n4)
        · rw [h]; exact .inr (old2 n5')
        · rw [h]; exact .inr (old2 n6'')
        · exact .inl (.inr (.inr h))
      dm := fun b h => by
        rcases h with (((h | h) | h) | h) | h
        · exact ext_dom e310 (dm3 b h)
        · rw [h, gl10]; exact fun z => nomatch z
        · rw [h, gn10]; exact fun z => nomatch z
        · rw [h, h10]; exact fun z => nomatch z
        · rw [h, hP10]; exact fun z => nomatch z
      s3 := fun b h => by
        rcases h with h | h | h
        · exact .inl (.inl (.inl (.inl (.inl h))))
        · exact .inl (.inl (.inl (.inl (.inr h))))
        · exact .inr h
      ssd := .inl (.inr rfl)
      nsd := (nd3 n6'').1
      ma := ma3.tr trA
      da := da10
      tb := LamX.TabS.ext tb3 e310
      pp := ⟨Ne.symm dP1, Ne.symm dP2, cP⟩
      cS := fun z => by
        obtain ⟨_, _, ws', cs', rest', turn', f1, f2, f3, _⟩ := id da3
        rcases z with (((z | z) | z) | z) | z
        · exact f3.2 z
        · exact (nd3 n4).2 z
        · exact (nd3 n5').2 z
        · exact (nd3 n6'').2 z
        · exact cP z
      hsd := h10
      sides := ⟨rfl, fun k y e => by
        match k, e with
        | 0, e =>
          cases e
          refine ⟨t1, rfl, a9.tr trD noTbl_tup, .inl (.inl (.inl (.inr rfl))), .inl (.inl (.inr rfl)), mo, [fa], [], [.ref t0], ⟨⟨dxl, gl10⟩, ((chl.ext e6).imp fun _ _ _ _ _ z => z.tr trB noTbl_ins)⟩, ⟨fa, rfl, rfl, f, n, ?_, nn⟩, gn10, ⟨t0, m', rfl, a7.tr trC noTbl_tup, mb6.tr trB⟩⟩
          exact ((tn.grow nlv).ext (e5.trans e6)).tr trB
        | k + 1, e => simp at e, fun k k' y y' e1 e2 kk => by
        have h1 := (List.getElem?_eq_some_iff.mp e1).1
        have h2 := (List.getElem?_eq_some_iff.mp e2).1
        simp at h1 h2
        omega⟩
      l1 := Nat.le_refl _
      l3 := by simp
      far := fun y hy => by rw [List.mem_singleton.mp hy]; exact ⟨⟨(nd3 n4).1, lvsd⟩, (nd3 n5').1, ntsd⟩
      lens := fun y hy => by rw [List.mem_singleton.mp hy]; exact Nat.le_refl _
      ntup := fun b h ys e => by
        obtain ⟨_, _, ws', cs', rest', turn', f1, f2, f3, _⟩ := id da10
        rcases h with (((h | h) | h) | h) | h
        · rcases h with h | h
          · rw [h, f1] at e; cases e
          · rw [h, f2] at e; cases e
        · rw [h, gl10] at e; cases e
        · rw [h, gn10] at e; cases e
        · rw [h, h10] at e; cases e
        · rw [h, hP10] at e; cases e }
    refine ⟨(16 : Int), rfl, by decide, by decide, ?_⟩
    refine for_std (S := no) (H0 := fun _ => none) std_range (fun j σ H' => ∃ S ts xs, LapAt K H2 d wd c Pt m sd md lawQ S (600 * i + 300 + 13 * j) j H' ts xs ∧ ∃ v5 v6 v7 v8 v9 v10 v11 v12 v13 v14 v15 v16, σ = [some (.ref a), some (.ref d), some y, some (.ref m), some (.ref sd), v5, v6, v7, v8, v9, v10, v11, v12, v13, v14, v15, v16])
      ⟨_, _, _, L, v5, v6, v7, v8, v9, v10, v11, v12, v13, v14, v15, v16, rfl⟩ (fun _ _ _ _ => ⟨fun _ _ h => (nomatch h), fun _ h => absurd rfl h⟩) (fun j z σ H11 hz ⟨S, ts, xs, L, v5, v6, v7, v8, v9, v10, v11, v12, v13, v14, v15, v16, hσ⟩ => ?_) (fun σ H11 ⟨S, ts, xs, L, v5, v6, v7, v8, v9, v10, v11, v12, v13, v14, v15, v16, hσ⟩ => ?_)
    · subst hσ
      have hj : j < 16 := by
        have := (List.getElem?_eq_some_iff.mp hz).1
        simpa using this
      have hts : ts.length = xs.length := L.sides.len
      have l1 := L.l1
      have l3 := L.l3
      refine ⟨_, rfl, _, rfl, two d wd, d, wd, c, _, _, rfl, L.dm2, L.da, by show 600 * i + 300 + 13 * j ≤ 1099511627776; omega, .inl ⟨sd, ts, rfl, ⟨L.hsd, fun h => L.nsd (h.elim .inl fun h => .inr (.inl h))⟩, fun h => by rw [h] at hts; simp at hts; omega, by omega, fun v hv H12 u12 da12 => ?_⟩⟩
      have L12 := L.draw u12 da12
      obtain ⟨k, x, t, hx, rfl, ht, sx⟩ := L12.sides.pick hv
      refine ⟨t, _, rfl, SqT.of ht.1, rfl, _, _, rfl, _, _, rfl, rfl, ?_⟩
      dsimp only
      refine seq_cut (fun σ' H' => ∃ S ts xs, LapAt K H2 d wd c Pt m sd md lawQ S (600 * i + 300 + 13 * j + 2) j H' ts xs ∧ xs[k]? = some x ∧ σ' = [some (.ref a), some (.ref d), some y, some (.ref m), some (.ref sd), some z, some (.ref x.2.1), v7, v8, v9, v10, v11, v12, v13, v14, some (.ref x.1), v16]) (fun σ' H13 ⟨S, ts, xs, L13, hx, hσ⟩ => ?_) fun tail => ?_
      · subst hσ
        obtain ⟨t', ht', hat', s13⟩ := L13.sides.at_ k x hx
        obtain ⟨sl, sn, mo', netsA, ds, vs, lvv, past, hn, notes⟩ := id s13
        obtain ⟨net, nets', n', rfl, tn', nn', ff⟩ := past.top
        obtain ⟨p0, m0, dv0, vs', ev, at0, ma0⟩ := notes.top
        have evs : vs = vs'.reverse ++ [V.ref p0] := by rw [← List.reverse_reverse vs, ev, List.reverse_cons]
        refine seq_cut (fun σ' H' => ∃ v7, LapAt K H2 d wd c Pt m sd md lawQ S (600 * i + 300 + 13 * j + 12) j H' ts xs ∧ (v7 = .non ∨ ∃ (od : Addr) (dd : DeedD), v7 = .ref od ∧ At S H' od (.tup dd.vs) ∧ dd.Can (mdR md x.2.2).net) ∧ σ' = [some (.ref a), some (.ref d), some y, some (.ref m), some (.ref sd), some z, some (.ref x.2.1), some v7, v8, v9, v10, v11, v12, v13, v14, some (.ref x.1), v16]) (fun σ' H14 ⟨v7, L14, hv7, hσ⟩ => ?_) fun tail => ?_
        · subst hσ
          refine seq_cut (fun σ' H' => ∃ xs v7 v8, LapAt K H2 d wd c Pt m sd md lawQ S (600 * i + 300 + 13 * j + 13) (j + 1) H' ts xs ∧ σ' = [some (.ref a), some (.ref d), some y, some (.ref m), some (.ref sd), some z, some (.ref x.2.1), v7, v8, v9, v10, v11, v12, v13, v14, some (.ref x.1), v16]) (fun σ' H15 ⟨xs', w7, w8, L15, hσ⟩ => ?_) fun tail => ?_
          · subst hσ
            have none_no : ∀ z : Addr, ¬ no z := fun z h => h
            refine ⟨_, rfl, sd, rfl, ⟨_, .of L15.hsd⟩, ?_⟩
            refine for_std (S := no) (H0 := H15) (std_list (.of L15.hsd) (none_no sd)) (fun i σ H' => Ext H15 H' ∧ ∃ v9 v10 v16, σ = [some (.ref a), some (.ref d), some y, some (.ref m), some (.ref sd), some z, some (.ref x.2.1), w7, w8, v9, v10, v11, v12, v13, v14, some (.ref x.1), v16])
              ⟨fun _ _ h => h, v9, v10, v16, rfl⟩ (fun _ _ _ h => .ext h.1) (fun i v σ H16 hv ⟨e16, v9, v10, v16, hσ⟩ => ?_) (fun σ H16 ⟨e16, v9, v10, v16, hσ⟩ => ?_)
            · subst hσ
              have L16 := L15.ext e16
              obtain ⟨o, t, ho, rfl, hto, so⟩ := L16.sides.get hv
              refine ⟨t, _, rfl, SqT.of hto.1, rfl, _, _, rfl, _, _, rfl, rfl, ?_⟩
              obtain ⟨sl, sn, mo', netsA, ds, vs, lvv, past, hn, notes⟩ := id so
              obtain ⟨net, nets', n', rfl, tn', nn', ff⟩ := past.top
              obtain ⟨⟨dx, g16⟩, _⟩ := id lvv
              obtain ⟨p0, m0, dv0, vs', ev, at0, ma0⟩ := notes.top
              have evs : vs = vs'.reverse ++ [V.ref p0] := by rw [← List.reverse_reverse vs, ev, List.reverse_cons]
              have lo := L16.lens o (List.mem_of_getElem? ho)
              dsimp only
              refine ⟨_, rfl, o.1, dx, _, rfl, g16, S, o.1, .non, mo', net, nets', ds, rfl, lvv, ?_⟩
              refine ⟨_, rfl, 1, rfl, o.2.1, _, -1, _, rfl, rfl, SqL.of hn, by rw [evs]; exact atI_last _ _, p0, _, 1, _, rfl, rfl, SqT.of at0.1, atI_nat (j := 1) rfl, S, m0, _, rfl, L16.dm, ma0, ff, fun r nr H17 e17 nnr tr => ?_⟩
              have en : n' = nr := norm_eq ff.net nn' nnr
              subst en
              refine net_same (tn'.ext e17) tr fun H18 e18 => ⟨_, rfl, iteF ?_⟩
              have e1618 := e17.trans e18
              have past18 := past.mv (Tr.ext e1618)
              have des := past18.deeds
              have led := des.length
              refine ⟨_, rfl, o.1, dx, _, rfl, e1618 _ _ g16, S, o.1, .non, mo', net :: nets', ds, rfl, lvv.ext e1618, by omega, fun lg H19 e19 nlg hlg => ?_⟩
              have e1619 := e1618.trans e19
              have desr := paired_rev (des.ext e19)
              have oks := deeds_ok desr
              have bds := deeds_bd oks
              have dep := (deeds_lay oks).2
              have size : bD (.list (o.2.2.reverse.map DeedD.dat)) ≤ sizeLine := Nat.le_trans (m := 200000) (by
                show bDs (o.2.2.reverse.map DeedD.dat) + 3 ≤ 200000
                have := bds.2
                rw [List.length_reverse] at this
                omega) (by rw [sizeLine_eq]; decide)
              have depth : (PyData.list (o.2.2.reverse.map DeedD.dat)).depth ≤ 60 := by
                simp only [PyData.depth]
                omega
              refine ⟨_, .list (o.2.2.reverse.map DeedD.dat), rfl, .lst (.of hlg) (deeds_dp desr), bds.1, size, depth, ?_⟩
              obtain ⟨ods, dods, firsts⟩ := (notes.mv (Tr.ext e1619)).firsts
              have frev := paired_rev firsts
              rw [List.reverse_reverse, List.reverse_append] at frev
              refine ⟨_, rfl, 1, rfl, o.2.1, vs, rfl, .of (e1619 _ _ hn), fun sl1 nsl1 => ?_⟩
              have lns := notes.len
              rw [List.length_reverse] at lns
              have ec : cutV vs (some 1) none = vs.drop 1 := cut_from (j := 1) (by omega)
              have e20 := ext_new (o := .lst (cutV vs (some 1) none)) nsl1
              have h20 : (upd H19 sl1 (.lst (cutV vs (some 1) none))) sl1 = some (.lst (vs.drop 1)) := by rw [upd_same, ec]
              generalize upd H19 sl1 (.lst (cutV vs (some 1) none)) = H20 at e20 h20 ⊢
              have pr : Paired (fun v x => ∃ p y, v = V.ref p ∧ At S H20 p (.tup [x, y])) (vs.drop 1) (ods.reverse.map V.ref) := by
                have := paired_tail frev
                rw [← List.map_reverse] at this
                exact Paired.mapP this fun v x ⟨p, y, e1, e2⟩ => ⟨p, y, e1, e2.ext e20⟩
              have lod := dods.length
              refine ⟨sl1, rfl, ⟨_, .of h20⟩, fun D hD => lc_first (S := S) (.of h20) hD pr (by simp; omega) (by simp) fun H21 e21 hD21 => ?_⟩
              have desr2 := paired_rev (dods.ext (e20.trans e21))
              refine ⟨_, .list (o.2.2.reverse.map DeedD.dat), rfl, .lst (.of hD21) (deeds_dp desr2), bds.1, size, depth, rfl, _, rfl, ifb (fun hb => absurd hb (by simp)) fun _ => ?_⟩
              exact ⟨e16.trans (e1619.trans (e20.trans e21)), _, _, _, rfl⟩
            · subst hσ
              exact ⟨S, ts, xs', L15.ext e16, _, _, _, _, _, _, _, _, _, _, _, _, rfl⟩
          · refine ⟨_, rfl, two d wd, d, wd, c, _, 3, rfl, L14.dm2, L14.da, by show 600 * i + 300 + 13 * j + 12 ≤ 1099511627776; omega, by decide, by decide, fun k1 H15 k10 k11 u15 da15 => ?_⟩
            have L15 := L14.draw u15 da15
            have mx := List.mem_of_getElem? hx
            have lx := L15.lens x mx
            refine ⟨rfl, _, rfl, ifb (fun h0 => ?_) fun h0 => ?_⟩
            · refine ⟨L15.tb, fun H16 u16 tb16 => ?_⟩
              have L16 := L15.lam u16 tb16
              obtain ⟨t', ht', hat', s16⟩ := L16.sides.at_ k x hx
              obtain ⟨sl, sn, mo', netsA, ds, vs, lvv, past, hn, notes⟩ := id s16
              obtain ⟨⟨dx, g16⟩, _⟩ := id lvv
              have lds := past.deeds.length
              have lns := notes.len
              rw [List.length_reverse] at lns
              refine ⟨_, rfl, x.1, dx, _, rfl, g16, rfl, S, x.1, .non, mo', netsA, ds, rfl, sl, lvv, fun ed => ⟨xx.exm_NothingDone_StoryError, fun b nb => ?_⟩, fun net nets2 d0 ds2 mo2 H17 en ed u17 l17 => ?_⟩
              · have e17 := ext_new (o := ExV b (.ref (c_NothingDone K)) none) nb
                have h17 : (upd H16 b (ExV b (.ref (c_NothingDone K)) none)) b = some (ExV b (.ref (c_NothingDone K)) none) := upd_same
                generalize upd H16 b (ExV b (.ref (c_NothingDone K)) none) = H17 at e17 h17 ⊢
                have L17 := L16.ext e17
                rw [ed] at lds
                dsimp only [gName]
                refine ⟨_, rfl, rfl, _, rfl, _, _, rfl, .inl ⟨_, .of (e17 _ _ hn), rfl⟩, _, _, rfl, rfl, rfl, _, rfl, ?_⟩
                have l0 : x.2.2.length = 0 := lds.symm
                have v1 : vs.length = 1 := by omega
                rw [v1]
                refine ifb (fun hb => absurd hb (by simp)) fun _ => ?_
                refine ⟨_, rfl, rfl, _, rfl, iteT ?_⟩
                refine ⟨_, rfl, b, c_NothingDone K, _, _, true, rfl, h17, excC_NothingDone xx, fun u h => h, xx.kit_NothingDone, _, rfl, iteF ?_⟩
                refine ⟨_, rfl, rfl, _, rfl, iteF ?_⟩
                exact tail _ _ ⟨xs, _, _, L17.up (by omega) (by omega), rfl⟩
              · obtain ⟨e0, es', he⟩ : ∃ e0 es', x.2.2 = e0 :: es' := by
                  cases g : x.2.2 with
                  | nil => rw [g, ed] at lds; simp at lds
                  | cons e0 es' => exact ⟨_, _, rfl⟩
                rw [he] at past notes lns
                simp only [List.length_cons] at lns
                obtain ⟨_, nets3, _, ds3, en3, ed3, _, _, _, past'⟩ := past
                rw [en] at en3
                rw [ed] at ed3
                cases en3
                cases ed3
                obtain ⟨p0, m0, od0, vs', ev, _, _, _, _, notes'⟩ := notes
                have evs : vs = vs'.reverse ++ [V.ref p0] := by rw [← List.reverse_reverse vs, ev, List.reverse_cons]
                have lvnt' : x.1 ≠ x.2.1 := L16.sides.df mx mx
                have hn17 := u17.keep _ _ hn (Ne.symm lvnt')
                have u18 : Kp (one x.2.1) H17 (upd H17 x.2.1 (.lst vs.dropLast)) := Kp.refl.put rfl
                have uU : Kp (fun b => b = x.1 ∨ b = x.2.1) H16 (upd H17 x.2.1 (.lst vs.dropLast)) := (u17.mono fun b h => .inl h).trans (u18.mono fun b h => .inr h)
                have uS : Kp S H16 (upd H17 x.2.1 (.lst vs.dropLast)) := uU.mono fun b h => h.elim (fun z => by rw [z]; exact sl) fun z => by rw [z]; exact sn
                have side : SideAt S K (upd H17 x.2.1 (.lst vs.dropLast)) md x.1 x.2.1 es' := ⟨sl, sn, mo2, nets2, ds2, vs.dropLast, l17.kp u18 (fun z => lvnt' z) (fun b h => by rw [h]; exact sn), past'.mv (.kp uS), upd_same, by
                  have er : vs.dropLast.reverse = vs' := by rw [evs, List.dropLast_concat, List.reverse_reverse]
                  rw [er]
                  exact notes'.mv (.kp uS)⟩
                have L18 := L16.side (j' := j + 1) hx uU side (by rw [he] at lx; simp at lx; omega) (by omega)
                dsimp only [gName]
                refine ⟨_, rfl, rfl, _, rfl, _, _, rfl, .inl ⟨_, .of hn17, rfl⟩, _, _, rfl, rfl, rfl, _, rfl, ?_⟩
                refine ifb (fun hb => absurd hb (by simp; omega)) fun _ => ?_
                refine ⟨_, rfl, rfl, _, rfl, iteF (iteF ?_)⟩
                refine ⟨_, rfl, rfl, _, rfl, iteT ?_⟩
                refine ⟨_, rfl, .inl ⟨rfl, _, .of hn17⟩, x.2.1, vs, V.ref p0, rfl, rfl, hn17, by rw [evs]; simp, ?_⟩
                exact tail _ _ ⟨_, _, _, L18.up (by omega) (Nat.le_refl _), rfl⟩
            · rcases hv7 with rfl | ⟨od, dd, rfl, aod, can⟩
              · exact ⟨_, rfl, rfl, _, rfl, iteF (tail _ _ ⟨xs, _, _, L15.up (by omega) (by omega), rfl⟩)⟩
              · refine ⟨_, rfl, rfl, _, rfl, iteT ?_⟩
                have aod15 := aod.kp (u15.mono L14.sub2)
                obtain ⟨t', ht', hat', s15⟩ := L15.sides.at_ k x hx
                obtain ⟨sl, sn, mo', netsA, ds, vs, lvv, past, hn, notes⟩ := id s15
                obtain ⟨net, nets', n', rfl, tn', nn', ff⟩ := past.top
                obtain ⟨⟨dx, g15⟩, _⟩ := id lvv
                obtain ⟨p0, m0, dv0, vs', ev, at0, ma0⟩ := notes.top
                have evs : vs = vs'.reverse ++ [V.ref p0] := by rw [← List.reverse_reverse vs, ev, List.reverse_cons]
                have lvnt' : x.1 ≠ x.2.1 := L15.sides.df mx mx
                have lns := notes.len
                rw [List.length_reverse] at lns
                have ok : dd.Ok := Can.ok ff.net (fun z hz => (ff.hs _ (getH_mem hz)).1) can
                refine ⟨_, rfl, x.1, dx, _, rfl, g15, rfl, _, rfl, S, x.1, .non, mo', net, od, nets', ds, n', dd, rfl, L15.dm, sl, lvv, tn', aod15, norm_can ff.net nn' can, fun H16 mo2 net2 n2 u16 did l16 t16 => ?_⟩
                have uS16 : Kp S H15 H16 := u16.mono fun b h => by rw [h]; exact sl
                have dm16 : Dm S H16 := fun b h => u16.dom b (L15.dm b h)
                have hn16 := u16.keep _ _ hn (Ne.symm lvnt')
                refine ⟨_, rfl, .inl ⟨rfl, _, .of hn16⟩, ?_⟩
                refine ⟨_, rfl, _, rfl, 1, rfl, x.2.1, _, -1, _, rfl, rfl, SqL.of hn16, by rw [evs]; exact atI_last _ _, p0, _, 1, _, rfl, rfl, SqT.of (at0.kp uS16).1, atI_nat (j := 1) rfl, _, rfl, S, m0, od, _, dd, rfl, dm16, ma0.kp uS16, ff, (aod15.kp uS16).1, can, fun m2 H17 e17 mb17 => ?_⟩
                refine ⟨by simp [sizeLine_eq], fun p np => ?_⟩
                have e18 := ext_new (o := .tup [.ref od, .ref m2]) np
                have h18 : At S (upd H17 p (.tup [.ref od, .ref m2])) p (.tup [.ref od, .ref m2]) := .fresh (dm16.ext e17) np
                generalize upd H17 p (.tup [.ref od, .ref m2]) = H18 at e18 h18 ⊢
                have e1618 := e17.trans e18
                have hn18 := e1618 _ _ hn16
                refine ⟨x.2.1, _, _, rfl, rfl, hn18, by have := line1001; omega, ?_⟩
                have u19 : Kp (one x.2.1) H18 (upd H18 x.2.1 (.lst (vs ++ [.ref p]))) := Kp.refl.put rfl
                have uU : Kp (fun b => b = x.1 ∨ b = x.2.1) H15 (upd H18 x.2.1 (.lst (vs ++ [.ref p]))) := (u16.mono fun b h => .inl h).trans ((Kp.ext e1618).trans (u19.mono fun b h => .inr h))
                have uS19 : Kp S H18 (upd H18 x.2.1 (.lst (vs ++ [.ref p]))) := u19.mono fun b h => by rw [h]; exact sn
                have uS : Kp S H15 (upd H18 x.2.1 (.lst (vs ++ [.ref p]))) := uS16.trans ((Kp.ext e1618).trans uS19)
                have side : SideAt S K (upd H18 x.2.1 (.lst (vs ++ [.ref p]))) md x.1 x.2.1 (dd :: x.2.2) := by
                  refine ⟨sl, sn, mo2, _, _, vs ++ [.ref p], (l16.ext e1618).kp u19 (fun z => lvnt' z) (fun b h => by rw [h]; exact sn), ⟨net2, net :: nets', od, ds, rfl, rfl, ⟨behind_fit ff can, n2, (t16.ext e1618).kp uS19, norm_do ff.net nn' can did⟩, aod15.kp uS, ok, past.mv (.kp uS)⟩, upd_same, ?_⟩
                  rw [List.reverse_append]
                  exact ⟨p, m2, od, vs.reverse, rfl, h18.kp uS19, aod15.kp uS, ok, (mb17.ext e18).kp uS19, notes.mv (.kp uS)⟩
                have L19 := L15.side (j' := j + 1) hx uU side (by simp; omega) (by omega)
                exact tail _ _ ⟨_, _, _, L19.up (by omega) (Nat.le_refl _), rfl⟩
        · refine ⟨_, rfl, _, rfl, 1, rfl, x.2.1, _, -1, _, rfl, rfl, SqL.of hn, by rw [evs]; exact atI_last _ _, p0, _, 1, _, rfl, rfl, SqT.of at0.1, atI_nat (j := 1) rfl, ?_⟩
          refine ⟨two d wd, d, wd, c, m0, _, _, rfl, L13.dm2, L13.da, by show 600 * i + 300 + 13 * j + 2 + 20 ≤ 1099511627776; omega, ma0.tr (.sub L13.sub2), ff, fun H14 u14 da14 => ?_, fun od dd H14 u14 da14 aod can => ?_⟩
          · exact tail _ _ ⟨.non, L13.draw u14 da14, .inl rfl, rfl⟩
          · have L14 := L13.draw u14 da14
            exact tail _ _ ⟨.ref od, L14, .inr ⟨od, dd, rfl, ⟨aod.1, fun z => L14.ntup od z _ aod.1⟩, can⟩, rfl⟩
      · refine ⟨_, rfl, two d wd, d, wd, c, _, 6, rfl, L12.dm2, L12.da, by show 600 * i + 300 + 13 * j + 1 ≤ 1099511627776; omega, by decide, by decide, fun k0 H13 k00 k01 u13 da13 => ?_⟩
        have L13 := L12.draw u13 da13
        refine ⟨rfl, _, rfl, ifb (fun h0 => ?_) fun h0 => iteF (tail _ _ ⟨_, _, _, L13, hx, rfl⟩)⟩
        refine ⟨_, rfl, _, _, rfl, .inl ⟨_, .of L13.hsd, rfl⟩, _, _, rfl, rfl, _, rfl, ifb (fun h1 => ?_) fun h1 => tail _ _ ⟨_, _, _, L13, hx, rfl⟩⟩
        obtain ⟨t', ht', hat', s13⟩ := L13.sides.at_ k x hx
        obtain ⟨sl, sn, mo', netsA, ds, vs, lvv, past, hn, notes⟩ := id s13
        obtain ⟨net, nets', n', rfl, tn', nn', ff⟩ := past.top
        obtain ⟨⟨dx, g13⟩, _⟩ := id lvv
        refine ⟨_, rfl, .inl ⟨rfl, _, .of L13.hsd⟩, ?_⟩
        refine ⟨_, rfl, x.1, dx, _, rfl, g13, rfl, S, x.1, .non, mo', net, nets', ds, n', rfl, L13.dm, lvv, tn', fun p H14 e14 np lp => ?_⟩
        refine ⟨_, rfl, x.2.1, _, rfl, .inl (.of (e14 _ _ hn)), fun l nl => ?_⟩
        have e15 := ext_new (o := .lst vs) nl
        have h15 : (upd H14 l (.lst vs)) l = some (.lst vs) := upd_same
        generalize upd H14 l (.lst vs) = H15 at e15 h15 ⊢
        refine ⟨by simp [sizeLine_eq], fun t2 nt2 => ?_⟩
        have e16 := ext_new (o := .tup [.ref p, .ref l]) nt2
        have h16 : (upd H15 t2 (.tup [.ref p, .ref l])) t2 = some (.tup [.ref p, .ref l]) := upd_same
        generalize upd H15 t2 (.tup [.ref p, .ref l]) = H16 at e16 h16 ⊢
        have e1316 := (e14.trans e15).trans e16
        refine ⟨sd, _, _, rfl, rfl, e1316 _ _ L13.hsd, by have := line1001; omega, ?_⟩
        obtain ⟨⟨dxp, gp⟩, chp⟩ := id lp
        have gp16 := (e15.trans e16) _ _ gp
        have gl16 := e16 _ _ h15
        have nl13 : H13 l = none := none_of e14 nl
        have nt13 : H13 t2 = none := none_of (e14.trans e15) nt2
        have pl : p ≠ l := ne_of gp16 gl16 (by simp)
        have tp : t2 ≠ p := ne_of h16 gp16 (by simp)
        have tl : t2 ≠ l := ne_of h16 gl16 (by simp)
        have lx3 : xs.length < 3 := by
          have e3 := L13.sides.len
          have h3 : (ts.length : Int) < 3 := by simpa using h1
          omega
        have gr : Tr S (more (more S p) l) H13 H16 := ((Tr.grow np).trans (Tr.grow nl13)).trans (.ext e1316)
        refine tail _ _ ⟨_, _, _, L13.app (lv := p) (nt := l) (t := t2) (es := x.2.2) e1316 np nl13 pl (by rw [gp16]; exact fun z => nomatch z) (by rw [gl16]; exact fun z => nomatch z) (L13.lens x (List.mem_of_getElem? hx)) lx3 ⟨h16, fun z => L13.dm _ z nt13⟩ tp tl (fun z => L13.dm _ L13.ssd (by rw [z]; exact nt13)) ?_, ?_, rfl⟩
        · refine ⟨.inl (.inr rfl), .inr rfl, mo', net :: nets', ds, vs, ⟨⟨dxp, gp16⟩, ?_⟩, past.mv gr, gl16, notes.mv gr⟩
          exact lvv.2.imp fun _ _ _ _ _ z => z.tr gr noTbl_ins
        · rw [List.getElem?_append_left (List.getElem?_eq_some_iff.mp hx).1]; exact hx
    · subst hσ
      have L := L.up (n' := 600 * i + 550) (j' := 16) (by simp) (by simp)
      refine ⟨_, rfl, sd, rfl, ⟨_, .of L.hsd⟩, ?_⟩
      refine for_std (S := no) (H0 := H11) (std_list (.of L.hsd) (fun z => z)) (fun i σ H' => Ext H11 H' ∧ ∃ v9 v10 v11 v12 v13 v16, σ = [some (.ref a), some (.ref d), some y, some (.ref m), some (.ref sd), v5, v6, v7, v8, v9, v10, v11, v12, v13, v14, v15, v16])
        ⟨fun _ _ h => h, v9, v10, v11, v12, v13, v16, rfl⟩ (fun _ _ _ h => .ext h.1) (fun i1 v σ H12 hv ⟨e12, v9, v10, v11, v12, v13, v16, hσ⟩ => ?_) (fun σ H12 ⟨e12, v9, v10, v11, v12, v13, v16, hσ⟩ => ?_)
      · subst hσ
        have L12 := L.ext e12
        obtain ⟨o, t, ho, rfl, hto, so⟩ := L12.sides.get hv
        refine ⟨t, _, rfl, SqT.of hto.1, rfl, _, _, rfl, _, _, rfl, rfl, ?_⟩
        dsimp only
        refine ⟨_, rfl, sd, rfl, ⟨_, .of L12.hsd⟩, ?_⟩
        refine for_std (S := no) (H0 := H12) (std_list (.of L12.hsd) (fun z => z)) (fun i σ H' => Ext H12 H' ∧ ∃ v11 v12 v13 v16, σ = [some (.ref a), some (.ref d), some y, some (.ref m), some (.ref sd), v5, v6, v7, v8, some (.ref o.1), some (.ref o.2.1), v11, v12, v13, v14, v15, v16])
          ⟨fun _ _ h => h, v11, v12, v13, v16, rfl⟩ (fun _ _ _ h => .ext h.1) (fun i2 v σ H13 hv2 ⟨e13, v11, v12, v13, v16, hσ⟩ => ?_) (fun σ H13 ⟨e13, v11, v12, v13, v16, hσ⟩ => ?_)
        · subst hσ
          have L13 := L12.ext e13
          obtain ⟨o2, t2, ho2, rfl, hto2, so2⟩ := L13.sides.get hv2
          refine ⟨t2, _, rfl, SqT.of hto2.1, rfl, _, _, rfl, _, _, rfl, rfl, ?_⟩
          dsimp only
          obtain ⟨_, _, mo1, nets1, ds1, vs1, lv1, past1, hn1, notes1⟩ := so.mv (Tr.ext e13) (fun _ z => z) (fun _ h => e13 _ _ h) fun _ h => e13 _ _ h
          obtain ⟨_, _, mo2, nets2, ds2, vs2, lv2, past2, hn2, notes2⟩ := id so2
          obtain ⟨net1, nets1', n1, rfl, tn1, nn1, ff1⟩ := past1.top
          obtain ⟨net2, nets2', n2, rfl, tn2, nn2, ff2⟩ := past2.top
          obtain ⟨ods1, dods1, firsts1⟩ := notes1.firsts
          obtain ⟨ods2, dods2, firsts2⟩ := notes2.firsts
          have fr1 := paired_rev firsts1
          have fr2 := paired_rev firsts2
          rw [List.reverse_reverse, List.reverse_append, ← List.map_reverse] at fr1 fr2
          have lo1 := L12.lens o (List.mem_of_getElem? ho)
          have lo2 := L13.lens o2 (List.mem_of_getElem? ho2)
          have ld1 := dods1.length
          have ld2 := dods2.length
          refine ⟨_, rfl, o.2.1, rfl, ⟨_, .of hn1⟩, fun D1 hD1 => lc_first (S := S) (.of hn1) hD1 fr1 (by simp; omega) (by simp) fun H14 e14 h14 => ?_⟩
          have fr2' : Paired (fun v x => ∃ p y, v = V.ref p ∧ At S H14 p (.tup [x, y])) vs2 ([V.non].reverse ++ ods2.reverse.map V.ref) := Paired.mapP fr2 fun v x ⟨p, y, e1, e2⟩ => ⟨p, y, e1, e2.ext e14⟩
          refine ⟨_, rfl, o2.2.1, rfl, ⟨_, .of (e14 _ _ hn2)⟩, fun D2 hD2 => lc_first (S := S) (.of (e14 _ _ hn2)) hD2 fr2' (by simp; omega) (by simp) fun H15 e15 h15 => ?_⟩
          have e1315 := e14.trans e15
          have r1 := paired_rev (dods1.ext e1315)
          have r2 := paired_rev (dods2.ext e1315)
          refine ⟨.list (firstD o.2.2), .list (firstD o2.2.2), .lst (.of (e15 _ _ h14)) (.cons .non (deeds_dp r1)), .lst (.of h15) (.cons .non (deeds_dp r2)), first_shaped (fun d hd => deeds_ok dods1 d hd), first_shaped (fun d hd => deeds_ok dods2 d hd), ?_⟩
          rw [first_eqv]
          dsimp only [gName]
          have R : LiveR K o.1 o2.1 (decide (o.2.2 = o2.2.2)) H15 := ⟨S, .non, .non, mo1, mo2, net1, net2, nets1', nets2', n1, n2, ds1, ds2, o.2.2, o2.2.2, lv1.ext e1315, lv2.ext e1315, tn1.ext e1315, tn2.ext e1315, past1.deeds.ext e1315, past2.deeds.ext e1315, by have := past1.deeds.length; omega, by have := past2.deeds.length; omega, (side_eq ff1 nn1 nn2).symm⟩
          refine ⟨_, rfl, _, rfl, live_cmp R fun H16 e16 => ?_⟩
          refine ⟨_, rfl, rfl, _, rfl, ifb (fun hb => absurd hb (by simp)) fun _ => ?_⟩
          have R16 : LiveR K o.1 o2.1 (decide (o.2.2 = o2.2.2)) H16 := by
            have e1316 := e1315.trans e16
            exact ⟨S, .non, .non, mo1, mo2, net1, net2, nets1', nets2', n1, n2, ds1, ds2, o.2.2, o2.2.2, lv1.ext e1316, lv2.ext e1316, tn1.ext e1316, tn2.ext e1316, past1.deeds.ext e1316, past2.deeds.ext e1316, by have := past1.deeds.length; omega, by have := past2.deeds.length; omega, (side_eq ff1 nn1 nn2).symm⟩
          refine ⟨_, rfl, _, rfl, live_cmp R16 fun H17 e17 => ?_⟩
          refine ⟨_, rfl, rfl, _, rfl, ifb (fun hb => absurd hb (by simp)) fun _ => ?_⟩
          exact ⟨e13.trans (e1315.trans (e16.trans e17)), _, _, _, _, rfl⟩
        · subst hσ
          have L13 := L12.ext e13
          obtain ⟨_, _, mo1, nets1, ds1, vs1, lv1, past1, hn1, notes1⟩ := so.mv (Tr.ext e13) (fun _ z => z) (fun _ h => e13 _ _ h) fun _ h => e13 _ _ h
          obtain ⟨net1, nets1', n1, rfl, tn1, nn1, ff1⟩ := past1.top
          obtain ⟨⟨dx1, g1⟩, _⟩ := id lv1
          have lo1 := L12.lens o (List.mem_of_getElem? ho)
          have lds1 := past1.deeds.length
          refine ⟨_, rfl, ?_⟩
          dsimp only [tC]
          refine live_any g1 (.base .non) xx.nf_non xx.kn_non ⟨_, rfl, iteF ?_⟩
          refine ⟨_, rfl, _, rfl, o.1, dx1, _, rfl, g1, S, o.1, .non, mo1, net1, nets1', ds1, rfl, lv1, ?_⟩
          refine live_any g1 (net_ty xx tn1) xx.nf_Net xx.kn_Net ⟨_, rfl, iteF ?_⟩
          refine ⟨_, rfl, _, rfl, o.1, dx1, _, rfl, g1, S, o.1, .non, mo1, net1 :: nets1', ds1, rfl, lv1, by omega, fun lg H14 e14 nlg hlg => ?_⟩
          refine live_any (e14 _ _ g1) (.base (.lst hlg)) xx.nf_list xx.kn_list ⟨_, rfl, iteF ?_⟩
          refine ⟨_, rfl, _, rfl, ?_⟩
          refine live_any (e14 _ _ g1) (.base (.lst (e14 _ _ hn1))) xx.nf_list xx.kn_list ⟨_, rfl, iteF ?_⟩
          exact ⟨e12.trans (e13.trans e14), _, _, _, _, _, _, rfl⟩
      · subst hσ
        have L12 := L.ext e12
        have dm12 := L12.dm
        refine ⟨_, rfl, S, m, md, rfl, dm12, L12.ma, f, fun r1 n1 H13 e13 nn1 tn1 => ?_⟩
        obtain ⟨_, _, _, dn1, _, _, _, g1, _⟩ := id tn1
        have ma13 := L12.ma.ext e13
        have dm13 := dm12.ext e13
        obtain ⟨ph1, ps1, pe1, kvs1, q1, q2, q3, q4, q5⟩ := id ma13
        obtain ⟨z0, zs, hz0⟩ : ∃ z0 zs, md.entries = z0 :: zs := by
          cases g : md.entries with
          | nil => exact absurd g f.net.e0
          | cons z0 zs => exact ⟨_, _, rfl⟩
        refine ⟨r1, dn1, _, rfl, g1.1, rfl, ?_⟩
        refine ⟨_, rfl, m, _, rfl, dget_str q1.1 mod_get.2.2.2.2, pe1, _, 0, _, rfl, rfl, SqL.of q5.1, by rw [hz0]; exact atI_nat (j := 0) rfl, ?_⟩
        refine make_rule (K := K) (r := ⟨0, "qqq", false, false⟩) dm13 ⟨by decide, by decide, by decide +kernel⟩ fun rq H14 e14 tq => ?_
        refine ⟨by simp [sizeLine_eq], fun l nl => ?_⟩
        have e15 := ext_new (o := .lst [.ref rq]) nl
        have h15 : (upd H14 l (.lst [.ref rq])) l = some (.lst [.ref rq]) := upd_same
        generalize upd H14 l (.lst [.ref rq]) = H15 at e15 h15 ⊢
        have e1315 := e14.trans e15
        have hz1 : z0 ∈ md.net.names := f.net.sub z0 (by show z0 ∈ md.entries; rw [hz0]; exact List.mem_cons_self)
        have hz2 : z0 ∈ n1.names := (norm_names nn1).mem_iff.mpr hz1
        refine ⟨S, r1, l, n1, z0, [rq], [⟨0, "qqq", false, false⟩], rfl, dm13.ext e1315, tn1.ext e1315, .inl h15, .cons (tq.ext e15) .nil, hz2, by simp, by simp, fun r hr => by rw [List.mem_singleton.mp hr]; exact Int.le_trans (by decide) tn1.1.f1, fun r2 H16 e16 tn2 => ?_⟩
        obtain ⟨n2, hn2⟩ : ∃ n2 : NetD, n2 = { n1 with houses := setH n1.houses z0 { getH n1.houses z0 with rules := [⟨0, "qqq", false, false⟩] } } := ⟨_, rfl⟩
        rw [← hn2] at tn2
        have n12 : n2 ≠ n1 := fun z => by
          have g1 := norm_house f.net nn1 hz1
          have g2 : (getH n2.houses z0).rules = [⟨0, "qqq", false, false⟩] := by
            have mem : (z0, ({ getH n1.houses z0 with rules := [⟨0, "qqq", false, false⟩] } : HouseD)) ∈ setH n1.houses z0 { getH n1.houses z0 with rules := [⟨0, "qqq", false, false⟩] } := by
              obtain ⟨p, hp, e⟩ := List.mem_map.mp hz2
              exact List.mem_map.mpr ⟨p, hp, by rw [if_pos e, e]⟩
            have := getH_of (by rw [setH_keys]; exact tn1.1.hs.nd) mem
            rw [hn2]
            show (getH (setH n1.houses z0 _) z0).rules = _
            rw [this]
          rw [z, g1.rules] at g2
          exact qq _ (getH_mem hz1) ⟨0, "qqq", false, false⟩ (by rw [show (getH md.houses z0).rules = _ from g2]; exact List.mem_cons_self) rfl
        dsimp only [gName]
        have e1216 := (e13.trans e1315).trans e16
        have dm16 := dm12.ext e1216
        refine ⟨_, rfl, make_live (K := K) dm16 tn2 fun p1 mo1 H17 e17 np1 lp1 => ?_⟩
        have dm17 := dm16.ext e17
        have ma17 := L12.ma.ext (e1216.trans e17)
        refine ⟨_, rfl, S, m, md, rfl, dm17, ma17, f, fun r3 n3 H18 e18 nn3 tn3 => ?_⟩
        refine make_live (K := K) (dm17.ext e18) tn3 fun p2 mo2 H19 e19 np2 lp2 => ?_
        have en : n1 = n3 := norm_eq f.net nn1 nn3
        subst en
        have e1719 := e18.trans e19
        refine live_cmp (b := false) ⟨S, .non, .non, mo1, mo2, r2, r3, [], [], n2, n1, [], [], [], [], lp1.ext e1719, lp2, tn2.ext (e17.trans e1719), tn3.ext e19, .nil, .nil, by simp, by simp, by rw [decide_eq_false n12]; rfl⟩ fun H20 e20 => ⟨_, rfl, iteF ?_⟩
        have e1620 := e17.trans (e1719.trans e20)
        have dm20 := dm16.ext e1620
        refine ⟨_, rfl, make_live (K := K) dm20 (tn2.ext e1620) fun p3 mo3 H21 e21 np3 lp3 => ?_⟩
        refine ⟨_, rfl, make_live (K := K) (dm20.ext e21) (tn2.ext (e1620.trans e21)) fun p4 mo4 H22 e22 np4 lp4 => ?_⟩
        refine live_cmp (b := true) ⟨S, .non, .non, mo3, mo4, r2, r2, [], [], n2, n2, [], [], [], [], lp3.ext e22, lp4, tn2.ext (e1620.trans (e21.trans e22)), tn2.ext (e1620.trans (e21.trans e22)), .nil, .nil, by simp, by simp, by simp⟩ fun H23 e23 => ⟨_, rfl, iteF ?_⟩
        have e1223 := e1216.trans (e1620.trans (e21.trans (e22.trans e23)))
        have L23 := L12.ext e1223
        obtain ⟨v0, hv0⟩ : ∃ v0, ts[0]? = some v0 := by
          have h1 := L23.l1
          rw [← L23.sides.len] at h1
          exact ⟨_, List.getElem?_eq_getElem h1⟩
        obtain ⟨o, t, ho, rfl, hto, so⟩ := L23.sides.get hv0
        refine ⟨_, rfl, sd, _, 0, _, rfl, rfl, SqL.of L23.hsd, atI_nat (j := 0) hv0, t, _, rfl, SqT.of hto.1, rfl, _, _, rfl, _, _, rfl, rfl, ?_⟩
        dsimp only
        have lo := L23.lens o (List.mem_of_getElem? ho)
        obtain ⟨_, _, _, _, _, vs, _, _, hn, notes⟩ := id so
        have lns := notes.len
        rw [List.length_reverse] at lns
        refine ⟨_, rfl, _, _, rfl, .inl ⟨_, .of hn, rfl⟩, _, _, rfl, rfl, (o.2.2.length : Nat), by rw [lns]; simp, by omega, by omega, ?_⟩
        refine for_std (S := no) (H0 := fun _ => none) std_range (fun jj σ H' => ∃ xs', LapAt K H2 d wd c Pt m sd md lawQ S (600 * i + 550) 16 H' ts xs' ∧ xs'[0]? = some (o.1, o.2.1, o.2.2.drop jj) ∧ ∃ v14, σ = [some (.ref a), some (.ref d), some y, some (.ref m), some (.ref sd), v5, some (.ref o.2.1), v7, v8, v9, v10, some (.ref r2), v12, v13, v14, some (.ref o.1), v16])
          ⟨xs, L23, ho, v14, rfl⟩ (fun _ _ _ _ => ⟨fun _ _ h => (nomatch h), fun _ h => absurd rfl h⟩) (fun jj z σ H24 hz ⟨xs', L24, ho', v14, hσ⟩ => ?_) (fun σ H24 ⟨xs', L24, ho', v14, hσ⟩ => ?_)
        · subst hσ
          have hj : jj < o.2.2.length := by
            have := (List.getElem?_eq_some_iff.mp hz).1
            simpa using this
          obtain ⟨e0, es', he⟩ : ∃ e0 es', o.2.2.drop jj = e0 :: es' := ⟨_, _, List.drop_eq_getElem_cons hj⟩
          have he' : o.2.2.drop (jj + 1) = es' := by rw [← List.drop_drop, he]; rfl
          rw [he] at ho'
          have mx := List.mem_of_getElem? ho'
          have lx := L24.lens _ mx
          obtain ⟨t', ht', hat', s24⟩ := L24.sides.at_ 0 _ ho'
          obtain ⟨sl, sn, mo', netsA, ds, vs, lvv, past, hn, notes⟩ := id s24
          have lds := past.deeds.length
          obtain ⟨_, nets3, d3, ds3, en3, ed3, _, _, _, past'⟩ := past
          subst en3
          subst ed3
          obtain ⟨p0, m0, od0, vs', ev, _, _, _, _, notes'⟩ := notes
          have evs : vs = vs'.reverse ++ [V.ref p0] := by rw [← List.reverse_reverse vs, ev, List.reverse_cons]
          have lvnt' : o.1 ≠ o.2.1 := L24.sides.df (x := (o.1, o.2.1, e0 :: es')) (y := (o.1, o.2.1, e0 :: es')) mx mx
          refine ⟨_, rfl, .inl ⟨rfl, _, .of hn⟩, o.2.1, vs, V.ref p0, rfl, rfl, hn, by rw [evs]; simp, ?_⟩
          have u25 : Kp (one o.2.1) H24 (upd H24 o.2.1 (.lst vs.dropLast)) := Kp.refl.put rfl
          have h25 : (upd H24 o.2.1 (.lst vs.dropLast)) o.2.1 = some (.lst vs.dropLast) := upd_same
          generalize upd H24 o.2.1 (.lst vs.dropLast) = H25 at u25 h25 ⊢
          have lvv25 := lvv.kp u25 (fun z => lvnt' z) (fun b h => by rw [h]; exact sn)
          obtain ⟨⟨dx, g25⟩, _⟩ := id lvv25
          refine ⟨_, rfl, o.1, dx, _, rfl, g25, rfl, S, o.1, .non, mo', _, _, rfl, sl, lvv25, fun ed => (nomatch ed), fun net nets2 d0 ds2 mo2 H26 en ed u26 l26 => ?_⟩
          cases en
          cases ed
          have uU : Kp (fun b => b = o.1 ∨ b = o.2.1) H24 H26 := (u25.mono fun b h => .inr h).trans (u26.mono fun b h => .inl h)
          have uS : Kp S H24 H26 := uU.mono fun b h => h.elim (fun z => by rw [z]; exact sl) fun z => by rw [z]; exact sn
          have side : SideAt S K H26 md o.1 o.2.1 es' := ⟨sl, sn, mo2, nets3, ds3, vs.dropLast, l26, past'.mv (.kp uS), u26.keep _ _ h25 (Ne.symm lvnt'), by
            have er : vs.dropLast.reverse = vs' := by rw [evs, List.dropLast_concat, List.reverse_reverse]
            rw [er]
            exact notes'.mv (.kp uS)⟩
          have L26 := L24.side (j' := 16) ho' uU side (by simp at lx; omega) (Nat.le_refl _)
          obtain ⟨_, _, mo3, nets3, ds4, vs4, lv4, past4, hn4, notes4⟩ := id side
          obtain ⟨net4, nets4', n4, rfl, tn4, nn4, ff4⟩ := past4.top
          obtain ⟨⟨dx4, g4⟩, _⟩ := id lv4
          obtain ⟨p4, m4, dv4, vs5, ev4, at4, ma4⟩ := notes4.top
          have evs4 : vs4 = vs5.reverse ++ [V.ref p4] := by rw [← List.reverse_reverse vs4, ev4, List.reverse_cons]
          refine ⟨rfl, _, rfl, iteF ?_⟩
          refine ⟨_, rfl, o.1, dx4, _, rfl, g4, S, o.1, .non, mo3, net4, nets4', ds4, rfl, lv4, ?_⟩
          refine ⟨_, rfl, 1, rfl, o.2.1, _, -1, _, rfl, rfl, SqL.of hn4, by rw [evs4]; exact atI_last _ _, p4, _, 1, _, rfl, rfl, SqT.of at4.1, atI_nat (j := 1) rfl, S, m4, _, rfl, L26.dm, ma4, ff4, fun r nr H27 e27 nnr tr => ?_⟩
          have en : n4 = nr := norm_eq ff4.net nn4 nnr
          subst en
          refine net_same (tn4.ext e27) tr fun H28 e28 => ⟨_, rfl, iteF ?_⟩
          refine ⟨_, L26.ext (e27.trans e28), ?_, _, rfl⟩
          rw [he', List.getElem?_set_self (List.getElem?_eq_some_iff.mp ho').1]
        · subst hσ
          rw [List.length_map, List.length_range, Int.toNat_natCast, List.drop_length] at ho'
          refine ⟨L24.tb, fun H25 u25 tb25 => ?_⟩
          have L25 := L24.lam u25 tb25
          obtain ⟨t', ht', hat', s25⟩ := L25.sides.at_ 0 _ ho'
          obtain ⟨sl, sn, mo', netsA, ds, vs, lvv, past, hn, notes⟩ := id s25
          obtain ⟨⟨dx, g25⟩, _⟩ := id lvv
          obtain ⟨net, en, ed, ff, n4, tn4, nn4⟩ := id past
          refine ⟨_, rfl, o.1, dx, _, rfl, g25, rfl, S, o.1, .non, mo', netsA, ds, rfl, sl, lvv, fun _ => ⟨xx.exm_NothingDone_StoryError, fun b nb => ?_⟩, fun _ _ _ _ _ _ _ ed2 => by rw [ed] at ed2; cases ed2⟩
          have e26 := ext_new (o := ExV b (.ref (c_NothingDone K)) none) nb
          have h26 : (upd H25 b (ExV b (.ref (c_NothingDone K)) none)) b = some (ExV b (.ref (c_NothingDone K)) none) := upd_same
          generalize upd H25 b (ExV b (.ref (c_NothingDone K)) none) = H26 at e26 h26 ⊢
          have L26 := L25.ext e26
          refine ⟨b, c_NothingDone K, _, _, true, rfl, h26, excC_NothingDone xx, fun u h => h, xx.kit_NothingDone, _, rfl, iteF ?_⟩
          refine ⟨_, rfl, _, rfl, S, m, md, rfl, L26.dm, L26.ma, f, fun r5 n5 H27 e27 nn5 tn5 => ?_⟩
          refine make_live (K := K) (L26.dm.ext e27) tn5 fun p5 mo5 H28 e28 np5 lp5 => ?_
          have en5 : n4 = n5 := norm_eq f.net nn4 nn5
          subst en5
          have e2628 := e27.trans e28
          rw [en, ed] at lvv
          refine live_cmp (b := true) ⟨S, .non, .non, mo', mo5, net, r5, [], [], n4, n4, [], [], [], [], (lvv.ext e26).ext e2628, lp5, (tn4.ext e26).ext e2628, tn5.ext e28, .nil, .nil, by simp, by simp, by simp⟩ fun H29 e29 => ⟨_, rfl, iteF ?_⟩
          have L29 := L26.ext (e2628.trans e29)
          exact ⟨u2.trans L29.u, L29.da.more (by omega), L29.tb, _, _, _, _, _, _, _, _, _, _, _, _, _, _, _, rfl⟩
  · subst hσ
    exact hQ _
end
end Ws

set_option Elab.async false
set_option linter.all false
set_option maxRecDepth 100000
set_option maxHeartbeats 0
namespace Ws
open PySem PySem.Spec PyProof.Rows L2
def d_is_number : He5.DefA := ⟨fun K => a_is_number K, "is_number", "is_number", defArgs s_is_number, defBody s_is_number, defScope s_is_number, [], []⟩
def d_is_name : He5.DefA := ⟨fun K => a_is_name K, "is_name", "is_name", defArgs s_is_name, defBody s_is_name, defScope s_is_name, [], []⟩
def d_are_different : He5.DefA := ⟨fun K => a_are_different K, "are_different", "are_different", defArgs s_are_different, defBody s_are_different, defScope s_are_different, [], []⟩
def d_are_names : He5.DefA := ⟨fun K => a_are_names K, "are_names", "are_names", defArgs s_are_names, defBody s_are_names, defScope s_are_names, [], []⟩
def d_Rule_init : He5.DefA := ⟨fun K => a_Rule_init K, "__init__", "Rule.__init__", defArgs s_Rule_init, defBody s_Rule_init, defScope s_Rule_init, [.str "handed", .bl false, .bl false], []⟩
def d_Rule_share : He5.DefA := ⟨fun K => a_Rule_share K, "share", "Rule.share", defArgs s_Rule_share, defBody s_Rule_share, defScope s_Rule_share, [], []⟩
def d_Rule_eq : He5.DefA := ⟨fun K => a_Rule_eq K, "__eq__", "Rule.__eq__", defArgs s_Rule_eq, defBody s_Rule_eq, defScope s_Rule_eq, [], []⟩
def d_are_rules : He5.DefA := ⟨fun K => a_are_rules K, "are_rules", "are_rules", defArgs s_are_rules, defBody s_are_rules, defScope s_are_rules, [], []⟩
def d_House_init : He5.DefA := ⟨fun K => a_House_init K, "__init__", "House.__init__", defArgs s_House_init, defBody s_House_init, defScope s_House_init, [.adr (He.dflAt ("House", some "__init__") 0), .adr (He.dflAt ("House", some "__init__") 1), .bl false], []⟩
def d_House_rules : He5.DefA := ⟨fun K => a_House_rules K, "rules", "House.rules", defArgs s_House_rules, defBody s_House_rules, defScope s_House_rules, [], []⟩
def d_House_calls : He5.DefA := ⟨fun K => a_House_calls K, "calls", "House.calls", defArgs s_House_calls, defBody s_House_calls, defScope s_House_calls, [], []⟩
def d_House_lost : He5.DefA := ⟨fun K => a_House_lost K, "lost", "House.lost", defArgs s_House_lost, defBody s_House_lost, defScope s_House_lost, [], []⟩
def d_House_fails : He5.DefA := ⟨fun K => a_House_fails K, "fails", "House.fails", defArgs s_House_fails, defBody s_House_fails, defScope s_House_fails, [], []⟩
def d_House_with_rules : He5.DefA := ⟨fun K => a_House_with_rules K, "with_rules", "House.with_rules", defArgs s_House_with_rules, defBody s_House_with_rules, defScope s_House_with_rules, [], []⟩
def d_House_eq : He5.DefA := ⟨fun K => a_House_eq K, "__eq__", "House.__eq__", defArgs s_House_eq, defBody s_House_eq, defScope s_House_eq, [], []⟩
def d_are_named : He5.DefA := ⟨fun K => a_are_named K, "are_named", "are_named", defArgs s_are_named, defBody s_are_named, defScope s_are_named, [], []⟩
def d_need_houses : He5.DefA := ⟨fun K => a_need_houses K, "need_houses", "need_houses", defArgs s_need_houses, defBody s_need_houses, defScope s_need_houses, [], []⟩
def d_Net_init : He5.DefA := ⟨fun K => a_Net_init K, "__init__", "Net.__init__", defArgs s_Net_init, defBody s_Net_init, defScope s_Net_init, [], []⟩
def d_Net_contains : He5.DefA := ⟨fun K => a_Net_contains K, "__contains__", "Net.__contains__", defArgs s_Net_contains, defBody s_Net_contains, defScope s_Net_contains, [], []⟩
def d_Net_getitem : He5.DefA := ⟨fun K => a_Net_getitem K, "__getitem__", "Net.__getitem__", defArgs s_Net_getitem, defBody s_Net_getitem, defScope s_Net_getitem, [], []⟩
def d_Net_eq : He5.DefA := ⟨fun K => a_Net_eq K, "__eq__", "Net.__eq__", defArgs s_Net_eq, defBody s_Net_eq, defScope s_Net_eq, [], []⟩
def d_Net_with_house : He5.DefA := ⟨fun K => a_Net_with_house K, "with_house", "Net.with_house", defArgs s_Net_with_house, defBody s_Net_with_house, defScope s_Net_with_house, [], []⟩
def d_Net_with_rules : He5.DefA := ⟨fun K => a_Net_with_rules K, "with_rules", "Net.with_rules", defArgs s_Net_with_rules, defBody s_Net_with_rules, defScope s_Net_with_rules, [], []⟩
def d_need_net : He5.DefA := ⟨fun K => a_need_net K, "need_net", "need_net", defArgs s_need_net, defBody s_need_net, defScope s_need_net, [], []⟩
def d_need_house : He5.DefA := ⟨fun K => a_need_house K, "need_house", "need_house", defArgs s_need_house, defBody s_need_house, defScope s_need_house, [], []⟩
def d_Moment_init : He5.DefA := ⟨fun K => a_Moment_init K, "__init__", "Moment.__init__", defArgs s_Moment_init, defBody s_Moment_init, defScope s_Moment_init, [], []⟩
def d_need_form : He5.DefA := ⟨fun K => a_need_form K, "need_form", "need_form", defArgs s_need_form, defBody s_need_form, defScope s_need_form, [], []⟩
def d_with_rule : He5.DefA := ⟨fun K => a_with_rule K, "with_rule", "with_rule", defArgs s_with_rule, defBody s_with_rule, defScope s_with_rule, [], []⟩
def d_need_way : He5.DefA := ⟨fun K => a_need_way K, "need_way", "need_way", defArgs s_need_way, defBody s_need_way, defScope s_need_way, [], []⟩
def d_with_way : He5.DefA := ⟨fun K => a_with_way K, "with_way", "with_way", defArgs s_with_way, defBody s_with_way, defScope s_with_way, [], []⟩
def d_without_way : He5.DefA := ⟨fun K => a_without_way K, "without_way", "without_way", defArgs s_without_way, defBody s_without_way, defScope s_without_way, [], []⟩
def d_changed : He5.DefA := ⟨fun K => a_changed K, "changed", "changed", defArgs s_changed, defBody s_changed, defScope s_changed, [], []⟩
def d_Live_init : He5.DefA := ⟨fun K => a_Live_init K, "__init__", "Live.__init__", defArgs s_Live_init, defBody s_Live_init, defScope s_Live_init, [], []⟩
def d_Live_net : He5.DefA := ⟨fun K => a_Live_net K, "net", "Live.net", defArgs s_Live_net, defBody s_Live_net, defScope s_Live_net, [], []⟩
def d_Live_log : He5.DefA := ⟨fun K => a_Live_log K, "log", "Live.log", defArgs s_Live_log, defBody s_Live_log, defScope s_Live_log, [], []⟩
def d_Live_eq : He5.DefA := ⟨fun K => a_Live_eq K, "__eq__", "Live.__eq__", defArgs s_Live_eq, defBody s_Live_eq, defScope s_Live_eq, [], []⟩
def d_Live_do : He5.DefA := ⟨fun K => a_Live_do K, "do", "Live.do", defArgs s_Live_do, defBody s_Live_do, defScope s_Live_do, [], []⟩
def d_Live_undo : He5.DefA := ⟨fun K => a_Live_undo K, "undo", "Live.undo", defArgs s_Live_undo, defBody s_Live_undo, defScope s_Live_undo, [], []⟩
def d_Live_copy : He5.DefA := ⟨fun K => a_Live_copy K, "copy", "Live.copy", defArgs s_Live_copy, defBody s_Live_copy, defScope s_Live_copy, [], []⟩
def d_l_begun : He5.DefA := ⟨fun K => a_l_begun K, "_law_begun", "_law_begun", defArgs s_l_begun, defBody s_l_begun, defScope s_l_begun, [], []⟩
def d_l_mixed : He5.DefA := ⟨fun K => a_l_mixed K, "_law_mixed", "_law_mixed", defArgs s_l_mixed, defBody s_l_mixed, defScope s_l_mixed, [], []⟩
def d_l_take : He5.DefA := ⟨fun K => a_l_take K, "_law_take", "_law_take", defArgs s_l_take, defBody s_l_take, defScope s_l_take, [], []⟩
def d_l_pick : He5.DefA := ⟨fun K => a_l_pick K, "_law_pick", "_law_pick", defArgs s_l_pick, defBody s_l_pick, defScope s_l_pick, [], []⟩
def d_l_names : He5.DefA := ⟨fun K => a_l_names K, "_law_names", "_law_names", defArgs s_l_names, defBody s_l_names, defScope s_l_names, [], []⟩
def d_l_rule : He5.DefA := ⟨fun K => a_l_rule K, "_law_rule", "_law_rule", defArgs s_l_rule, defBody s_l_rule, defScope s_l_rule, [], []⟩
def d_l_model : He5.DefA := ⟨fun K => a_l_model K, "_law_model", "_law_model", defArgs s_l_model, defBody s_l_model, defScope s_l_model, [], []⟩
def d_l_rules_of : He5.DefA := ⟨fun K => a_l_rules_of K, "_law_rules_of", "_law_rules_of", defArgs s_l_rules_of, defBody s_l_rules_of, defScope s_l_rules_of, [], []⟩
def d_l_net : He5.DefA := ⟨fun K => a_l_net K, "_law_net", "_law_net", defArgs s_l_net, defBody s_l_net, defScope s_l_net, [], []⟩
def d_l_copied : He5.DefA := ⟨fun K => a_l_copied K, "_law_copied", "_law_copied", defArgs s_l_copied, defBody s_l_copied, defScope s_l_copied, [], []⟩
def d_l_deed : He5.DefA := ⟨fun K => a_l_deed K, "_law_deed", "_law_deed", defArgs s_l_deed, defBody s_l_deed, defScope s_l_deed, [], []⟩
def d_l_caught : He5.DefA := ⟨fun K => a_l_caught K, "_law_caught", "_law_caught", defArgs s_l_caught, defBody s_l_caught, defScope s_l_caught, [], []⟩
def d_l_behind : He5.DefA := ⟨fun K => a_l_behind K, "_law_behind", "_law_behind", defArgs s_l_behind, defBody s_l_behind, defScope s_l_behind, [], []⟩
def d_law : He5.DefA := ⟨fun K => a_law K, "law", "law", defArgs s_law, defBody s_law, defScope s_law, [], []⟩
def propB (K : PySem.W.Frag) (C f : Str) : Bool := He.eqO (PySem.W.findIn K (.ref (He.ga K C)) f) (some (some (.ref (He.ma K (He.ga K C) f)))) && (He.eqO (PySem.W.specialIn K (.ref (He.ma K (He.ga K C) f)) "__get__") (some (some (.builtin "property.__get__"))) &&
  (decide (PySem.W.takesIn K (.ref (He.ma K (He.ga K C) f)) = some true) && (match PySem.W.recIn K (He.ma K (He.ga K C) f) "property" with
    | some (.ref _ :: _) => true
    | _ => false)))
theorem propB_ok {K : PySem.W.Frag} {C f : Str} (h : propB K C f = true) : PropOf K (He.ga K C) f (He.ma K (He.ga K C) f) (gA K C f) := by
  obtain ⟨h1, h⟩ := He.ba h
  obtain ⟨h2, h⟩ := He.ba h
  obtain ⟨h3, h4⟩ := He.ba h
  refine ⟨He.eqO_ok h1, He.eqO_ok h2, of_decide_eq_true h3, ?_⟩
  unfold gA
  split at h4
  · rename_i f r e
    exact ⟨r, by rw [e]⟩
  · cases h4
def hfa0 : List He.Fa := [.free "isinstance", .free "int", .free "bool", .free "str", .free "list", .free "tuple", .free "dict", .free "len", .free "all", .free "any", .free "sorted", .free "range", .free "min", .free "abs", .free "enumerate", .free "repr", .glo "is_number", .glo "is_name", .glo "are_different", .glo "are_names", .glo "are_rules", .meth "House" "with_rules", .glo "are_named", .glo "need_houses", .meth "Net" "with_house", .meth "Net" "with_rules", .glo "need_net", .glo "need_house", .glo "need_form", .glo "with_rule"]
def hfa1 : List He.Fa := [.glo "need_way", .glo "with_way", .glo "without_way", .glo "changed", .meth "Live" "do", .meth "Live" "undo", .meth "Live" "copy", .glo "_law_begun", .glo "_law_mixed", .glo "_law_take", .glo "_law_pick", .glo "_law_names", .glo "_law_rule", .glo "_law_model", .glo "_law_rules_of", .glo "_law_net", .glo "_law_copied", .glo "_law_deed", .glo "_law_caught", .glo "_law_behind", .glo "Rule", .cls "Rule", .mkr "Rule", .noat "Rule" "r_parts", .glo "House", .cls "House", .mkr "House", .noat "House" "h_rules", .noat "House" "h_calls", .noat "House" "h_lost"]
def hfa2 : List He.Fa := [.noat "House" "h_fails", .glo "Net", .cls "Net", .mkr "Net", .noat "Net" "n_fine", .noat "Net" "n_houses", .noat "Net" "n_entries", .glo "Moment", .cls "Moment", .mkr "Moment", .noat "Moment" "whole", .noat "Moment" "deed", .noat "Moment" "ahead", .glo "Live", .cls "Live", .mkr "Live", .noat "Live" "now", .noat "Live" "block", .glo "StoryError", .glo "NothingDone", .str "HANDED" "handed", .str "LETTERS" "abcdefghijklmnopqrstuvwxyz", .int "LONGEST_NAME" 6, .int "MOST_FINE" 1000, .int "MOST_HOUSES" 8, .glo "SIZES", .glo "law"]
def hfa : List He.Fa := hfa0 ++ (hfa1 ++ (hfa2))
def hfn0 : List He5.DefA := [d_is_number, d_is_name, d_are_different, d_are_names, d_Rule_init, d_Rule_share, d_Rule_eq, d_are_rules, d_House_init, d_House_rules, d_House_calls, d_House_lost, d_House_fails, d_House_with_rules, d_House_eq, d_are_named, d_need_houses, d_Net_init, d_Net_contains, d_Net_getitem, d_Net_eq, d_Net_with_house, d_Net_with_rules, d_need_net, d_need_house, d_Moment_init, d_need_form, d_with_rule, d_need_way, d_with_way]
def hfn1 : List He5.DefA := [d_without_way, d_changed, d_Live_init, d_Live_net, d_Live_log, d_Live_eq, d_Live_do, d_Live_undo, d_Live_copy, d_l_begun, d_l_mixed, d_l_take, d_l_pick, d_l_names, d_l_rule, d_l_model, d_l_rules_of, d_l_net, d_l_copied, d_l_deed, d_l_caught, d_l_behind, d_law]
def hfn : List He5.DefA := hfn0 ++ (hfn1)
def hex0 : List (PySem.W.Frag → Bool) := [fun K => propB K "Rule" "share", fun K => propB K "House" "rules", fun K => propB K "House" "calls", fun K => propB K "House" "lost", fun K => propB K "House" "fails", fun K => propB K "Live" "net", fun K => propB K "Live" "log", fun K => decide (PySem.W.mroIn K (c_Rule K) (.type "object") = some true), fun K => He.eqO (PySem.W.findIn K (.ref (c_Rule K)) "__class__") (some (some (.builtin "object.__class__"))), fun K => decide (PySem.W.kitOne K (.ref (c_Rule K)) (.ref (c_Rule K)) = some true), fun K => He.eqO (PySem.W.findIn K (.ref (c_Rule K)) "__eq__") (some (some (.ref (a_Rule_eq K)))), fun K => PySem.W.isFn K (.ref (a_Rule_eq K)), fun K => PySem.W.fnIn K (a_Rule_eq K), fun K => He.eqO (PySem.W.findIn K (.ref (c_Rule K)) "__ne__") (some (some (.builtin "object.__ne__"))), fun K => decide (PySem.W.mroIn K (c_House K) (.type "object") = some true), fun K => He.eqO (PySem.W.findIn K (.ref (c_House K)) "__class__") (some (some (.builtin "object.__class__"))), fun K => decide (PySem.W.kitOne K (.ref (c_House K)) (.ref (c_House K)) = some true), fun K => He.eqO (PySem.W.findIn K (.ref (c_House K)) "__eq__") (some (some (.ref (a_House_eq K)))), fun K => PySem.W.isFn K (.ref (a_House_eq K)), fun K => PySem.W.fnIn K (a_House_eq K), fun K => He.eqO (PySem.W.findIn K (.ref (c_House K)) "__ne__") (some (some (.builtin "object.__ne__"))), fun K => decide (PySem.W.mroIn K (c_Net K) (.type "object") = some true), fun K => He.eqO (PySem.W.findIn K (.ref (c_Net K)) "__class__") (some (some (.builtin "object.__class__"))), fun K => decide (PySem.W.kitOne K (.ref (c_Net K)) (.ref (c_Net K)) = some true), fun K => He.eqO (PySem.W.findIn K (.ref (c_Net K)) "__eq__") (some (some (.ref (a_Net_eq K)))), fun K => PySem.W.isFn K (.ref (a_Net_eq K)), fun K => PySem.W.fnIn K (a_Net_eq K), fun K => He.eqO (PySem.W.findIn K (.ref (c_Net K)) "__contains__") (some (some (.ref (a_Net_contains K)))), fun K => PySem.W.isFn K (.ref (a_Net_contains K)), fun K => PySem.W.fnIn K (a_Net_contains K)]
def hex1 : List (PySem.W.Frag → Bool) := [fun K => He.eqO (PySem.W.findIn K (.ref (c_Net K)) "__getitem__") (some (some (.ref (a_Net_getitem K)))), fun K => PySem.W.isFn K (.ref (a_Net_getitem K)), fun K => PySem.W.fnIn K (a_Net_getitem K), fun K => He.eqO (PySem.W.findIn K (.ref (c_Net K)) "__ne__") (some (some (.builtin "object.__ne__"))), fun K => decide (PySem.W.mroIn K (c_Moment K) (.type "object") = some true), fun K => He.eqO (PySem.W.findIn K (.ref (c_Moment K)) "__class__") (some (some (.builtin "object.__class__"))), fun K => decide (PySem.W.kitOne K (.ref (c_Moment K)) (.ref (c_Moment K)) = some true), fun K => decide (PySem.W.mroIn K (c_Live K) (.type "object") = some true), fun K => He.eqO (PySem.W.findIn K (.ref (c_Live K)) "__class__") (some (some (.builtin "object.__class__"))), fun K => decide (PySem.W.kitOne K (.ref (c_Live K)) (.ref (c_Live K)) = some true), fun K => He.eqO (PySem.W.findIn K (.ref (c_Live K)) "__eq__") (some (some (.ref (a_Live_eq K)))), fun K => PySem.W.isFn K (.ref (a_Live_eq K)), fun K => PySem.W.fnIn K (a_Live_eq K), fun K => He.eqO (PySem.W.findIn K (.ref (c_Live K)) "__ne__") (some (some (.builtin "object.__ne__"))), fun K => PySem.W.excIn K (c_NothingDone K) He.veBase "ValueError.__new__", fun K => PySem.W.keepIn K (.ref (c_NothingDone K)), fun K => decide (PySem.W.subIn K (.ref (c_NothingDone K)) (.type "BaseException") = some true), fun K => decide (PySem.W.typeIn K (.ref (c_NothingDone K)) = some (.type "type")), fun K => decide (PySem.W.exmOne K (.ref (c_NothingDone K)) (.ref (c_StoryError K)) = some true), fun K => He.eqO (PySem.W.findIn K (.ref (c_NothingDone K)) "__getattribute__") (some (some (.builtin "BaseException.__getattribute__"))), fun K => He.eqO (PySem.W.findIn K (.ref (c_NothingDone K)) "__getattr__") (some none), fun K => PySem.W.hasDictIn K (c_NothingDone K), fun K => He.eqO (PySem.W.findIn K (.ref (c_NothingDone K)) "__class__") (some (some (.builtin "object.__class__"))), fun K => decide (PySem.W.mroIn K (c_NothingDone K) (.type "object") = some true), fun K => decide (PySem.W.kitOne K (.ref (c_NothingDone K)) (.ref (c_NothingDone K)) = some true), fun K => PySem.W.notFirst K (c_Live K) (.ref (c_Net K)), fun K => PySem.W.notFirst K (c_Live K) (.type "list"), fun K => PySem.W.notFirst K (c_Live K) (.type "NoneType"), fun K => decide (PySem.W.kitOne K (.ref (c_Net K)) (.ref (c_Live K)) = some false), fun K => decide (PySem.W.kitOne K (.type "list") (.ref (c_Live K)) = some false)]
def hex2 : List (PySem.W.Frag → Bool) := [fun K => decide (PySem.W.kitOne K (.type "NoneType") (.ref (c_Live K)) = some false), fun K => He.eqO (PySem.W.specialIn K (.builtin "object.__class__") "__get__") (some (some (.builtin "getset_descriptor.__get__"))), fun K => decide (PySem.W.takesIn K (.builtin "object.__class__") = some true), fun K => He.valsB K (He.ga K "SIZES") [("rule", .int 7)], fun K => He.valsB K (He.ga K "SIZES") [("way", .int 4)], fun K => He.valsB K (He.ga K "SIZES") [("cut", .int 3)]]
def hex : List (PySem.W.Frag → Bool) := hex0 ++ (hex1 ++ (hex2))
def htabs : List He.Tab := [(fun K => He.ga K "SIZES", ["rule", "way", "cut"])]
/-! ### the Hook -/
abbrev AlW : Type := Bool × List He5.FnW × List (Option (List (Option (Str × Int))))
def obsW (K : PySem.W.Frag) : AlW := ((hfa.all fun f => f.ok K) && ((hex.all fun f => f K) && hfn.all fun d => d.ok K), hfn.map fun d => He5.fnA K (d.at_ K), htabs.map fun t => He.dicW K (t.1 K))
def valW (w : World) : AlW := (true, hfn.map He5.DefA.val, htabs.map fun t => some (He.keysIn w.params t.2))
def SaysW (w : World) (K : PySem.W.Frag) : Prop := obsW K = valW w
/-- the tables of the defs that make lambdas -/
def lamW (g : Addr → Option Obj) (K : PySem.W.Frag) : Bool := hlam.all fun p => PySem.W.codeHdIn K (He.cT K p).1 (He.cT K p).2 && ((K.lookup (He.cT K p).2).isNone && (match g (He.cT K p).2 with
  | some o => He.emptyTab o
  | none => false))
theorem lamW_ok {h : Heap} {K : PySem.W.Frag} (X : K.In h) (e : lamW h.get? K = true) : TabsHere K h (hlam.map (He.cT K)) := by
  have one : ∀ p ∈ hlam, PySem.W.codeHdIn K (He.cT K p).1 (He.cT K p).2 = true ∧ K.lookup (He.cT K p).2 = none ∧ h.get? (He.cT K p).2 = some tab0 := fun p hp => by
    obtain ⟨h1, h2⟩ := He.ba (List.all_eq_true.mp e p hp)
    obtain ⟨h3, h4⟩ := He.ba h2
    refine ⟨h1, Option.isNone_iff_eq_none.mp h3, ?_⟩
    cases q : h.get? (He.cT K p).2 with
    | none => rw [q] at h4; cases h4
    | some o => rw [q] at h4; rw [He.emptyTab_eq h4]
  refine ⟨fun q hq => ?_, fun q hq => ?_, fun q hq => ?_⟩ <;> obtain ⟨p, hp, rfl⟩ := List.mem_map.mp hq
  · exact (one p hp).2.2
  · exact (one p hp).2.1
  · exact PySem.W.codeHd_of_K X (one p hp).1
abbrev AlL : Type := AlW × Bool
/-- what an object of the top names: a table's values, a function's code and defaults, a class's names, a property's getter -/
def refsW (o : Obj) : List Addr := match o.data with
  | .dict es _ => es.toList.flatMap fun e => He.refV e.val
  | .func fd => He.refV fd.code ++ He.refV fd.defaults
  | .cls cd => [cd.ns]
  | .fields vs => (match o.cls with
    | .type "property" => vs.toList.flatMap He.refV
    | _ => [])
  | _ => []
def layW (g : Addr → Option Obj) (as : List Addr) : List Addr := as.flatMap fun a => match g a with
  | some o => refsW o
  | none => []
/-- the addresses as they are, for the kernel -/
def frA {α : Type} : List Nat → (List Nat → α) → α
  | [], k => k []
  | a :: r, k => HandSHeadRun.frNat a fun a => frA r fun r => k (a :: r)
theorem frA_eq {α : Type} : ∀ (l : List Nat) (k : List Nat → α), frA l k = k l
  | [], _ => rfl
  | a :: r, k => by
    show HandSHeadRun.frNat a (fun a => frA r fun r => k (a :: r)) = _
    rw [HandSHeadRun.frNat_eq, frA_eq r]
def asW (g : Addr → Option Obj) : Nat → List Addr → List Addr → List Addr
  | 0, as, l => as ++ l
  | n + 1, as, l => asW g n (as ++ l) (layW g l)
def asWf {α : Type} (g : Addr → Option Obj) : Nat → List Addr → List Addr → (List Addr → α) → α
  | 0, as, l, k => frA (as ++ l) k
  | n + 1, as, l, k => frA (layW g l) fun l' => asWf g n (as ++ l) l' k
theorem asWf_eq {α : Type} {g : Addr → Option Obj} : ∀ (n : Nat) (as l : List Addr) (k : List Addr → α), asWf g n as l k = k (asW g n as l)
  | 0, _, _, k => frA_eq _ k
  | n + 1, as, l, k => by
    show frA (layW g l) (fun l' => asWf g n (as ++ l) l' k) = _
    rw [frA_eq, asWf_eq n]
    rfl
def obsWG (n : Nat) (g : Addr → Option Obj) : AlL := asWf g n [] [mainGlobals] fun as => (obsW (He.frG g as), lamW g (He.frG g as))
def hookW (n : Nat) : PySem.W.Hook where
  α := AlL
  obs := fun s => obsWG n s.heap.get?
  val := fun w => (valW w, true)
  says := fun w h => ∃ K : PySem.W.Frag, K.In h ∧ SaysW w K ∧ TabsHere K h (hlam.map (He.cT K))
  of := fun w s e => by
    have e2 := (asWf_eq (α := AlL) _ _ _ _).symm.trans e
    exact ⟨_, He.frG_in, congrArg (fun z : AlL => z.1) e2, lamW_ok He.frG_in (congrArg (fun z : AlL => z.2) e2)⟩
  keeps := fun _ _ _ ⟨K, hK, c, t⟩ k => ⟨K, PySem.W.Frag.In.keeps hK k, c, ⟨fun p hp => k _ _ (t.at_ p hp), t.out, fun p hp => (t.code p hp).keeps k⟩⟩
theorem obsWG_eq {n : Nat} {g : Addr → Option Obj} {s : Shared} (h : ∀ a, g a = s.heap.get? a) : obsWG n g = (hookW n).obs s := by
  have e : g = s.heap.get? := funext h
  rw [e] <;> rfl
section
variable {K : PySem.W.Frag} {w : World}
theorem SaysW.one (c : SaysW w K) : (hfa.all fun f => f.ok K) = true ∧ (hex.all fun f => f K) = true ∧ (hfn.all fun d => d.ok K) = true := by
  have c1 : ((hfa.all fun f => f.ok K) && ((hex.all fun f => f K) && hfn.all fun d => d.ok K)) = true := congrArg (fun z : AlW => z.1) c
  obtain ⟨h1, h⟩ := He.ba c1
  obtain ⟨h2, h3⟩ := He.ba h
  exact ⟨h1, h2, h3⟩
theorem SaysW.fact (c : SaysW w K) (i : Nat) {f : He.Fa} (h : hfa[i]? = some f) : f.ok K = true := List.all_eq_true.mp c.one.1 f (List.mem_of_getElem? h)
theorem SaysW.ex_ (c : SaysW w K) (i : Nat) {f : PySem.W.Frag → Bool} (h : hex[i]? = some f) : f K = true := List.all_eq_true.mp c.one.2.1 f (List.mem_of_getElem? h)
theorem SaysW.def_ (c : SaysW w K) (i : Nat) {d : He5.DefA} (h : hfn[i]? = some d) : ∃ fd, FunD K d.name d.qual d.params d.body d.scope (d.dvs K) (d.kws K) (d.at_ K) fd := by
  have e : hfn.map (fun d => He5.fnA K (d.at_ K)) = hfn.map He5.DefA.val := congrArg (fun z : AlW => z.2.1) c
  have e2 : (hfn.map fun d => He5.fnA K (d.at_ K))[i]? = (hfn.map He5.DefA.val)[i]? := by rw [e]
  rw [List.getElem?_map, List.getElem?_map, h] at e2
  exact He5.DefA.funD (Option.some.inj e2) (List.all_eq_true.mp c.one.2.2 d (List.mem_of_getElem? h))
theorem SaysW.tab (c : SaysW w K) (i : Nat) {t : He.Tab} (h : htabs[i]? = some t) : ∃ es n, KDict K w (t.1 K) es n := by
  have e : htabs.map (fun t => He.dicW K (t.1 K)) = htabs.map fun t => some (He.keysIn w.params t.2) := congrArg (fun z : AlW => z.2.2) c
  have e2 : (htabs.map fun t => He.dicW K (t.1 K))[i]? = (htabs.map fun t => some (He.keysIn w.params t.2))[i]? := by rw [e]
  rw [List.getElem?_map, List.getElem?_map, h] at e2
  exact He.dicW_ok (Option.some.inj e2)
end
theorem fx_of {h : Heap} {mg : Str → Option Value} {w : World} {K : PySem.W.Frag} (X : K.In h) (G : h.Ns mainGlobals mg) (c : SaysW w K) : Fx K mg w :=
  { n_isinstance := He.free_ok X G (c.fact 0 rfl)
    n_int := He.free_ok X G (c.fact 1 rfl)
    n_bool := He.free_ok X G (c.fact 2 rfl)
    n_str := He.free_ok X G (c.fact 3 rfl)
    n_list := He.free_ok X G (c.fact 4 rfl)
    n_tuple := He.free_ok X G (c.fact 5 rfl)
    n_dict := He.free_ok X G (c.fact 6 rfl)
    n_len := He.free_ok X G (c.fact 7 rfl)
    n_all := He.free_ok X G (c.fact 8 rfl)
    n_any := He.free_ok X G (c.fact 9 rfl)
    n_sorted := He.free_ok X G (c.fact 10 rfl)
    n_range := He.free_ok X G (c.fact 11 rfl)
    n_min := He.free_ok X G (c.fact 12 rfl)
    n_abs := He.free_ok X G (c.fact 13 rfl)
    n_enumerate := He.free_ok X G (c.fact 14 rfl)
    n_repr := He.free_ok X G (c.fact 15 rfl)
    m_is_number := He.glo_ok X G (c.fact 16 rfl)
    F_is_number := c.def_ 0 (d := d_is_number) rfl
    m_is_name := He.glo_ok X G (c.fact 17 rfl)
    F_is_name := c.def_ 1 (d := d_is_name) rfl
    m_are_different := He.glo_ok X G (c.fact 18 rfl)
    F_are_different := c.def_ 2 (d := d_are_different) rfl
    m_are_names := He.glo_ok X G (c.fact 19 rfl)
    F_are_names := c.def_ 3 (d := d_are_names) rfl
    F_Rule_init := c.def_ 4 (d := d_Rule_init) rfl
    p_Rule_share := propB_ok (c.ex_ 0 rfl)
    F_Rule_share := c.def_ 5 (d := d_Rule_share) rfl
    F_Rule_eq := c.def_ 6 (d := d_Rule_eq) rfl
    m_are_rules := He.glo_ok X G (c.fact 20 rfl)
    F_are_rules := c.def_ 7 (d := d_are_rules) rfl
    F_House_init := c.def_ 8 (d := d_House_init) rfl
    p_House_rules := propB_ok (c.ex_ 1 rfl)
    F_House_rules := c.def_ 9 (d := d_House_rules) rfl
    p_House_calls := propB_ok (c.ex_ 2 rfl)
    F_House_calls := c.def_ 10 (d := d_House_calls) rfl
    p_House_lost := propB_ok (c.ex_ 3 rfl)
    F_House_lost := c.def_ 11 (d := d_House_lost) rfl
    p_House_fails := propB_ok (c.ex_ 4 rfl)
    F_House_fails := c.def_ 12 (d := d_House_fails) rfl
    me_House_with_rules := He.meth_ok (c.fact 21 rfl)
    F_House_with_rules := c.def_ 13 (d := d_House_with_rules) rfl
    F_House_eq := c.def_ 14 (d := d_House_eq) rfl
    m_are_named := He.glo_ok X G (c.fact 22 rfl)
    F_are_named := c.def_ 15 (d := d_are_named) rfl
    m_need_houses := He.glo_ok X G (c.fact 23 rfl)
    F_need_houses := c.def_ 16 (d := d_need_houses) rfl
    F_Net_init := c.def_ 17 (d := d_Net_init) rfl
    F_Net_contains := c.def_ 18 (d := d_Net_contains) rfl
    F_Net_getitem := c.def_ 19 (d := d_Net_getitem) rfl
    F_Net_eq := c.def_ 20 (d := d_Net_eq) rfl
    me_Net_with_house := He.meth_ok (c.fact 24 rfl)
    F_Net_with_house := c.def_ 21 (d := d_Net_with_house) rfl
    me_Net_with_rules := He.meth_ok (c.fact 25 rfl)
    F_Net_with_rules := c.def_ 22 (d := d_Net_with_rules) rfl
    m_need_net := He.glo_ok X G (c.fact 26 rfl)
    F_need_net := c.def_ 23 (d := d_need_net) rfl
    m_need_house := He.glo_ok X G (c.fact 27 rfl)
    F_need_house := c.def_ 24 (d := d_need_house) rfl
    F_Moment_init := c.def_ 25 (d := d_Moment_init) rfl
    m_need_form := He.glo_ok X G (c.fact 28 rfl)
    F_need_form := c.def_ 26 (d := d_need_form) rfl
    m_with_rule := He.glo_ok X G (c.fact 29 rfl)
    F_with_rule := c.def_ 27 (d := d_with_rule) rfl
    m_need_way := He.glo_ok X G (c.fact 30 rfl)
    F_need_way := c.def_ 28 (d := d_need_way) rfl
    m_with_way := He.glo_ok X G (c.fact 31 rfl)
    F_with_way := c.def_ 29 (d := d_with_way) rfl
    m_without_way := He.glo_ok X G (c.fact 32 rfl)
    F_without_way := c.def_ 30 (d := d_without_way) rfl
    m_changed := He.glo_ok X G (c.fact 33 rfl)
    F_changed := c.def_ 31 (d := d_changed) rfl
    F_Live_init := c.def_ 32 (d := d_Live_init) rfl
    p_Live_net := propB_ok (c.ex_ 5 rfl)
    F_Live_net := c.def_ 33 (d := d_Live_net) rfl
    p_Live_log := propB_ok (c.ex_ 6 rfl)
    F_Live_log := c.def_ 34 (d := d_Live_log) rfl
    F_Live_eq := c.def_ 35 (d := d_Live_eq) rfl
    me_Live_do := He.meth_ok (c.fact 34 rfl)
    F_Live_do := c.def_ 36 (d := d_Live_do) rfl
    me_Live_undo := He.meth_ok (c.fact 35 rfl)
    F_Live_undo := c.def_ 37 (d := d_Live_undo) rfl
    me_Live_copy := He.meth_ok (c.fact 36 rfl)
    F_Live_copy := c.def_ 38 (d := d_Live_copy) rfl
    m_l_begun := He.glo_ok X G (c.fact 37 rfl)
    F_l_begun := c.def_ 39 (d := d_l_begun) rfl
    m_l_mixed := He.glo_ok X G (c.fact 38 rfl)
    F_l_mixed := c.def_ 40 (d := d_l_mixed) rfl
    m_l_take := He.glo_ok X G (c.fact 39 rfl)
    F_l_take := c.def_ 41 (d := d_l_take) rfl
    m_l_pick := He.glo_ok X G (c.fact 40 rfl)
    F_l_pick := c.def_ 42 (d := d_l_pick) rfl
    m_l_names := He.glo_ok X G (c.fact 41 rfl)
    F_l_names := c.def_ 43 (d := d_l_names) rfl
    m_l_rule := He.glo_ok X G (c.fact 42 rfl)
    F_l_rule := c.def_ 44 (d := d_l_rule) rfl
    m_l_model := He.glo_ok X G (c.fact 43 rfl)
    F_l_model := c.def_ 45 (d := d_l_model) rfl
    m_l_rules_of := He.glo_ok X G (c.fact 44 rfl)
    F_l_rules_of := c.def_ 46 (d := d_l_rules_of) rfl
    m_l_net := He.glo_ok X G (c.fact 45 rfl)
    F_l_net := c.def_ 47 (d := d_l_net) rfl
    m_l_copied := He.glo_ok X G (c.fact 46 rfl)
    F_l_copied := c.def_ 48 (d := d_l_copied) rfl
    m_l_deed := He.glo_ok X G (c.fact 47 rfl)
    F_l_deed := c.def_ 49 (d := d_l_deed) rfl
    m_l_caught := He.glo_ok X G (c.fact 48 rfl)
    F_l_caught := c.def_ 50 (d := d_l_caught) rfl
    m_l_behind := He.glo_ok X G (c.fact 49 rfl)
    F_l_behind := c.def_ 51 (d := d_l_behind) rfl
    F_law := c.def_ 52 (d := d_law) rfl
    m_Rule := He.glo_ok X G (c.fact 50 rfl)
    cl_Rule := He.cls_ok (c.fact 51 rfl)
    mk_Rule := He.mkr_ok (c.fact 52 rfl)
    na_Rule_r_parts := He.noat_ok (c.fact 53 rfl)
    mro_Rule := of_decide_eq_true (c.ex_ 7 rfl)
    cc_Rule := He.eqO_ok (c.ex_ 8 rfl)
    kit_Rule := of_decide_eq_true (c.ex_ 9 rfl)
    sp_Rule_eq := He.eqO_ok (c.ex_ 10 rfl)
    fn_Rule_eq := c.ex_ 11 rfl
    fi_Rule_eq := c.ex_ 12 rfl
    ne_Rule := He.eqO_ok (c.ex_ 13 rfl)
    m_House := He.glo_ok X G (c.fact 54 rfl)
    cl_House := He.cls_ok (c.fact 55 rfl)
    mk_House := He.mkr_ok (c.fact 56 rfl)
    na_House_h_rules := He.noat_ok (c.fact 57 rfl)
    na_House_h_calls := He.noat_ok (c.fact 58 rfl)
    na_House_h_lost := He.noat_ok (c.fact 59 rfl)
    na_House_h_fails := He.noat_ok (c.fact 60 rfl)
    mro_House := of_decide_eq_true (c.ex_ 14 rfl)
    cc_House := He.eqO_ok (c.ex_ 15 rfl)
    kit_House := of_decide_eq_true (c.ex_ 16 rfl)
    sp_House_eq := He.eqO_ok (c.ex_ 17 rfl)
    fn_House_eq := c.ex_ 18 rfl
    fi_House_eq := c.ex_ 19 rfl
    ne_House := He.eqO_ok (c.ex_ 20 rfl)
    m_Net := He.glo_ok X G (c.fact 61 rfl)
    cl_Net := He.cls_ok (c.fact 62 rfl)
    mk_Net := He.mkr_ok (c.fact 63 rfl)
    na_Net_n_fine := He.noat_ok (c.fact 64 rfl)
    na_Net_n_houses := He.noat_ok (c.fact 65 rfl)
    na_Net_n_entries := He.noat_ok (c.fact 66 rfl)
    mro_Net := of_decide_eq_true (c.ex_ 21 rfl)
    cc_Net := He.eqO_ok (c.ex_ 22 rfl)
    kit_Net := of_decide_eq_true (c.ex_ 23 rfl)
    sp_Net_eq := He.eqO_ok (c.ex_ 24 rfl)
    fn_Net_eq := c.ex_ 25 rfl
    fi_Net_eq := c.ex_ 26 rfl
    sp_Net_contains := He.eqO_ok (c.ex_ 27 rfl)
    fn_Net_contains := c.ex_ 28 rfl
    fi_Net_contains := c.ex_ 29 rfl
    sp_Net_getitem := He.eqO_ok (c.ex_ 30 rfl)
    fn_Net_getitem := c.ex_ 31 rfl
    fi_Net_getitem := c.ex_ 32 rfl
    ne_Net := He.eqO_ok (c.ex_ 33 rfl)
    m_Moment := He.glo_ok X G (c.fact 67 rfl)
    cl_Moment := He.cls_ok (c.fact 68 rfl)
    mk_Moment := He.mkr_ok (c.fact 69 rfl)
    na_Moment_whole := He.noat_ok (c.fact 70 rfl)
    na_Moment_deed := He.noat_ok (c.fact 71 rfl)
    na_Moment_ahead := He.noat_ok (c.fact 72 rfl)
    mro_Moment := of_decide_eq_true (c.ex_ 34 rfl)
    cc_Moment := He.eqO_ok (c.ex_ 35 rfl)
    kit_Moment := of_decide_eq_true (c.ex_ 36 rfl)
    m_Live := He.glo_ok X G (c.fact 73 rfl)
    cl_Live := He.cls_ok (c.fact 74 rfl)
    mk_Live := He.mkr_ok (c.fact 75 rfl)
    na_Live_now := He.noat_ok (c.fact 76 rfl)
    na_Live_block := He.noat_ok (c.fact 77 rfl)
    mro_Live := of_decide_eq_true (c.ex_ 37 rfl)
    cc_Live := He.eqO_ok (c.ex_ 38 rfl)
    kit_Live := of_decide_eq_true (c.ex_ 39 rfl)
    sp_Live_eq := He.eqO_ok (c.ex_ 40 rfl)
    fn_Live_eq := c.ex_ 41 rfl
    fi_Live_eq := c.ex_ 42 rfl
    ne_Live := He.eqO_ok (c.ex_ 43 rfl)
    m_StoryError := He.glo_ok X G (c.fact 78 rfl)
    m_NothingDone := He.glo_ok X G (c.fact 79 rfl)
    x_NothingDone := c.ex_ 44 rfl
    kp_NothingDone := c.ex_ 45 rfl
    sb_NothingDone := of_decide_eq_true (c.ex_ 46 rfl)
    ty_NothingDone := of_decide_eq_true (c.ex_ 47 rfl)
    exm_NothingDone_StoryError := of_decide_eq_true (c.ex_ 48 rfl)
    ga_NothingDone := He.eqO_ok (c.ex_ 49 rfl)
    gg_NothingDone := He.eqO_ok (c.ex_ 50 rfl)
    hd_NothingDone := c.ex_ 51 rfl
    cc_NothingDone := He.eqO_ok (c.ex_ 52 rfl)
    mro_NothingDone := of_decide_eq_true (c.ex_ 53 rfl)
    kit_NothingDone := of_decide_eq_true (c.ex_ 54 rfl)
    nf_Net := c.ex_ 55 rfl
    nf_list := c.ex_ 56 rfl
    nf_non := c.ex_ 57 rfl
    kn_Net := of_decide_eq_true (c.ex_ 58 rfl)
    kn_list := of_decide_eq_true (c.ex_ 59 rfl)
    kn_non := of_decide_eq_true (c.ex_ 60 rfl)
    cget := He.eqO_ok (c.ex_ 61 rfl)
    ctak := of_decide_eq_true (c.ex_ 62 rfl)
    z_HANDED := He.str_ok X G (c.fact 80 rfl)
    z_LETTERS := He.str_ok X G (c.fact 81 rfl)
    i_LONGEST_NAME := He.int_ok X G (c.fact 82 rfl)
    i_MOST_FINE := He.int_ok X G (c.fact 83 rfl)
    i_MOST_HOUSES := He.int_ok X G (c.fact 84 rfl)
    m_SIZES := He.glo_ok X G (c.fact 85 rfl)
    t_SIZES := c.tab 0 rfl
    t_SIZES_rule := He.valsB_ok (c.ex_ 63 rfl) (q := ("rule", .int 7)) (by simp)
    t_SIZES_way := He.valsB_ok (c.ex_ 64 rfl) (q := ("way", .int 4)) (by simp)
    t_SIZES_cut := He.valsB_ok (c.ex_ 65 rfl) (q := ("cut", .int 3)) (by simp) }
theorem m_law {h : Heap} {mg : Str → Option Value} {w : World} {K : PySem.W.Frag} (X : K.In h) (G : h.Ns mainGlobals mg) (c : SaysW w K) : mg "law" = some (.ref (a_law K)) := He.glo_ok X G (c.fact 86 rfl)
/-! ### the run -/
def loose0 : List Str := ["_wall", "__name__", "StoryError", "BadRule", "BadHouse", "BadNet", "NoHouse", "BadNumber", "NoWay", "NothingDone", "BadDeed", "HANDED", "LETTERS", "LONGEST_NAME", "MOST_FINE", "MOST_HOUSES", "is_number", "is_name", "are_different", "are_names", "Rule", "are_rules", "House", "are_named", "need_houses", "Net", "need_net", "need_house", "SIZES", "Moment"]
def loose1 : List Str := ["Block", "need_form", "with_rule", "need_way", "with_way", "without_way", "changed", "Live", "_law_begun", "_law_mixed", "_law_take", "_law_pick", "_law_names", "_law_rule", "_law_model", "_law_rules_of", "_law_net", "_law_copied", "_law_deed", "_law_caught", "_law_behind"]
def loose : List Str := loose0 ++ (loose1)
abbrev rowR : PySem.W.OpenRow := PySem.W.OpenLaw.row PySem.Challenge.rw_wholestory_k79_deeds_taken_back
abbrev rowQ : Program := PySem.W.view rowR.prog [54]
abbrev hk : PySem.W.Hook := hookW 5
def ob (s : PySem.W.SharedT) : AlL := obsWG 5 (HandSHeadRun.getT s)
theorem ob_eq (s : PySem.W.SharedT) : ob s = hk.obs s.abs := obsWG_eq (HandSHeadRun.getT_eq s)
theorem run (w : World) : HandSHeadRun.RunEq rowR rowQ hk ob 30000 loose w := by
  refine PySem.W.byRow2 "special-get-raises" (P := fun w => HandSHeadRun.RunEq rowR rowQ hk ob 30000 loose w) (fun w => ?_) (fun w => ?_) w
  · intro os
    kernel_rfl
  · intro os
    kernel_rfl
end Ws

set_option Elab.async false
set_option linter.all false
open PySem PySem.W PySem.Calls PyProof.Rows
set_option maxRecDepth 100000 in
set_option maxHeartbeats 0 in
theorem PySem.Challenge.cw_wholestory_k79_deeds_taken_back_holds : PySem.Challenge.rw_wholestory_k79_deeds_taken_back.Holds := by
  w_on; o_law
  refine HandSHeadRun.head_any (r := OpenLaw.row PySem.Challenge.rw_wholestory_k79_deeds_taken_back) (q := Ws.rowQ) (H := Ws.hk) (ob := Ws.ob) (M := 30000) (loose := Ws.loose) (d := HandSHeadRun.topDef (OpenLaw.row PySem.Challenge.rw_wholestory_k79_deeds_taken_back).prog 54) (kwd := []) Ws.ob_eq
    (by kernel_rfl) (fun s => by kernel_rfl) Ws.run (by kernel_rfl) (by kernel_rfl) (by kernel_rfl) (by rfl) (by first | assumption | decide +kernel) (by decide +kernel) ⟨rfl, rfl, rfl, rfl, rfl, by decide +kernel⟩ ?hw ?hc
  case hw => w_witness2
  case hc =>
    refine Ws.walk_ofT (l := PySem.Challenge.rw_wholestory_k79_deeds_taken_back) (n := 63) (k := 11) (CX := L2.CX0) rfl (by decide) (by kernel_rfl) ⟨rfl, by decide, by decide⟩ ?F (fun _ _ _ _ z => z)
    intro w mg fa h Y G hmg0
    obtain ⟨K, KX, c, tabs⟩ := Y
    have hmg : mg ("law" : PySem.Str) = some (.ref fa) := by
      have e : (HandSHeadRun.topDef (OpenLaw.row PySem.Challenge.rw_wholestory_k79_deeds_taken_back).prog 54).name = ("law" : PySem.Str) := by kernel_rfl
      rw [← e]
      exact hmg0
    have x := Ws.fx_of KX G c
    have e := hmg.symm.trans (Ws.m_law KX G c)
    cases e
    exact ⟨K, Ws.hlam.map (He.cT K), Ws.sp_law K, KX, tabs, fun H a ns hl hT hS => ⟨a, ns, rfl, hS, hl, hT, fun _ => rfl⟩, fun base _ _ TB => Ws.ok_law x TB⟩

