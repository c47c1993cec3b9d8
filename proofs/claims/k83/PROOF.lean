import PyProof.Rows.All
import Wide.All
import OpenK.AllK
import Wide.FinOn
import HandS.ForMost
import HandS.ForExc
import HandS.Defaults
import HandS.More
import HandS.Star
import HandS.Property
import HandS.IsInst
import HandS.OwnEq
import HandS.DictComp
import HandS.MakeKw
import HandS.NoneIn
import HandS.Conv
import HandS.Codes
import HandS.Evl
import KE.KStateDown
import PyProof.ReprReads
import PyProof.ReprRoads
import PyProof.StrLawsRepr
import HandS.HeadEnd
import HandS.DictEq
import HandS.Iter
import PyProof.DictUpdate
import HandS.HeadHook2
import HandS.HeadHook3
import HandS.Text
import HandS.Lambda
import HandS.ExcIs
import HandS.EndTab
import HandS.HeadHook4
import KE.KDictSum
import HandS.FStr
import HandS.ListEq
import PyProof.EqLayable
import PyProof.NeKinds
import HandS.TryMany
import HandS.TryOnly
import HandS.Style
import Wide.Once
import HandS.Head0
import HandS.Head1
import HandS.Head2
import HandS.HeadNt
import PySem.Challenge.RW_wholestory_k83_texts_of_nets
set_option Elab.async false
set_option linter.all false
set_option maxRecDepth 100000
set_option maxHeartbeats 4000000
namespace Ws
open PySem PySem.Spec PyProof.Rows L2

/-! ### calls by a positional promise -/
def tCallR (sp : Sp) (E : XK) (t : TA) : TE := fun σ H Q => t σ H fun vs H1 => sp vs H1 Q E
def tMethR (C : Addr) (m : Str) (sp : Sp) (E : XK) (ta : TE) (t : TA) : TE := fun σ H Q => ta σ H fun x H1 =>
  ∃ a dx fs, x = .ref a ∧ H1 a = some (.ins C dx fs) ∧ fs.lookup m = none ∧ t σ H1 fun vs H2 => sp (.ref a :: vs) H2 Q E
section
variable {X : Cx} {CX : CXT} {k : Nat} {f C : Addr} {sp : Sp} {E : XK} {x m : Str} {e o : Expr} {es : List Expr} {ta : TE} {t : TA} {p pos apos : Pos}
theorem pe_callR (F : FnR X.prog X.w X.K X.mg X.base CX k f sp) (hr : Room k X.A) (hg : Gl X x) (hm : X.mg x = some (.ref f)) (hk : PySem.W.keepIn X.K (.ref f) = true) (hx : Passes CX X E) (ha : PA X (e :: es) t)
    (hd : (x == ("__debug__" : Str)) = false := by decide) (he : starEach (e :: es) X.env = (false, eval e X.env) :: starEach es X.env := by rfl)
    (hpl : (backTo pos (starEach es X.env)).any (·.1) = false := by rfl) : PE X (.Call (.Name x p) (e :: es) [] pos) (tCallR sp E t) := by
  constructor
  intro pins s σ H Q I h
  apply wpAny_Call_Name_kw (ld_glob I hg hm ?_ hd)
  apply PySem.W.callWith_K (h₀ := X.base) I.ok.mod.kin hk ?_ he hpl
  exact thn (ha.run pos pins s σ H _ I h) fun us s1 ⟨vs, H1, I1, r, q⟩ => ⟨I1.kIn, wpAny_call (run_fnR F hr hx I1 r q)⟩
theorem pe_callR0 (F : FnR X.prog X.w X.K X.mg X.base CX k f sp) (hr : Room k X.A) (hg : Gl X x) (hm : X.mg x = some (.ref f)) (hk : PySem.W.keepIn X.K (.ref f) = true) (hx : Passes CX X E)
    (hd : (x == ("__debug__" : Str)) = false := by decide) : PE X (.Call (.Name x p) [] [] pos) (tCallR sp E tNil) := by
  constructor
  intro pins s σ H Q I h
  apply wpAny_Call_Name_kw (ld_glob I hg hm ?_ hd)
  exact PySem.W.callWith_K0 I.kIn hk (wpAny_call (run_fnR (us := []) F hr hx I .nil h))
theorem pe_methR {pl : Sem Bool} (he : PE X o ta) (c : Cls X.K C) (hm : Meth X.K C m f) (F : FnR X.prog X.w X.K X.mg X.base CX k f sp) (hr : Room k X.A) (hx : Passes CX X E) (ha : PA X (e :: es) t)
    (hst : starEach (e :: es) X.env = (false, eval e X.env) :: starEach es X.env := by rfl) (hpl : (backTo pos (starEach es X.env)).any (·.1) = false := by rfl)
    (ht : eval (.Call (.Attribute o m apos) (e :: es) [] pos) X.env = (do
      let ov ← eval o X.env
      standAt apos.atName
      let (f, first) ← holding [ov] (getMethod ov m pl)
      callWith pos f first (backTo pos (starEach (e :: es) X.env)) (backToKw pos (keywordEach [] X.env))) := by rfl) :
    PE X (.Call (.Attribute o m apos) (e :: es) [] pos) (tMethR C m sp E ta t) := by
  constructor
  intro pins s σ H Q I h
  apply PySem.W.methodCall_KW (pl := pl) ?_ ht
  refine thn (he.run pins s σ H _ I h) fun u s1 ⟨x, H1, I1, rx, a, dx, fs, ex, ea, l, q⟩ => ?_
  subst ex
  cases (show u = Value.ref a from rx)
  refine getmeth_ok I1 ea c hm l ?_
  apply PySem.W.callWith_K (first := [.ref a]) (h₀ := X.base) I.ok.mod.kin hm.kp ?_ hst hpl
  exact thn (ha.run pos pins s1 σ H1 _ I1 q) fun us s2 ⟨vs, H2, I2, r, q2⟩ => ⟨I2.kIn, wpAny_call (run_fnR (us := .ref a :: us) (vs := .ref a :: vs) F hr hx I2 (.cons rfl r) q2)⟩
theorem pe_methR0 {pl : Sem Bool} (he : PE X o ta) (c : Cls X.K C) (hm : Meth X.K C m f) (F : FnR X.prog X.w X.K X.mg X.base CX k f sp) (hr : Room k X.A) (hx : Passes CX X E)
    (ht : eval (.Call (.Attribute o m apos) [] [] pos) X.env = (do
      let ov ← eval o X.env
      standAt apos.atName
      let (f, first) ← holding [ov] (getMethod ov m pl)
      callWith pos f first (backTo pos (starEach [] X.env)) (backToKw pos (keywordEach [] X.env))) := by rfl) :
    PE X (.Call (.Attribute o m apos) [] [] pos) (tMethR C m sp E ta tNil) := by
  constructor
  intro pins s σ H Q I h
  apply PySem.W.methodCall_KW (pl := pl) ?_ ht
  refine thn (he.run pins s σ H _ I h) fun u s1 ⟨x, H1, I1, rx, a, dx, fs, ex, ea, l, q⟩ => ?_
  subst ex
  cases (show u = Value.ref a from rx)
  refine getmeth_ok I1 ea c hm l ?_
  exact PySem.W.callWith_K0 (first := [.ref a]) I1.kIn hm.kp (wpAny_call (run_fnR (us := [.ref a]) (vs := [.ref a]) F hr hx I1 (.cons rfl .nil) q))
end
end Ws

set_option Elab.async false
set_option linter.all false
set_option maxRecDepth 100000
set_option maxHeartbeats 4000000
namespace Ws
open PySem PySem.Spec PyProof.Rows L2
theorem rr (a : Addr) : RelV (.ref a) (.ref a) := rfl
section
variable {X : Cx} {pins : List (Addr × Obj)} {σ : L2.St} {H : Hp} {s : Shared} {CX : CXT} {n : Nat} {g C : Addr} {sp : Sp} {E : XK}
/-- a def run from within a built-in -/
theorem run_sub {A : Around} {Q : VK} {us : List Value} {ws : List V} (F : FnR X.prog X.w X.K X.mg X.base CX n g sp) (hr : Room n A) (fr : A.frames = X.A.frames) (hx : Passes CX X E)
    (I : Inv X pins σ H s) (r : Vals ws us) (h : sp ws H Q E) : wpAny (model X.prog X.w) A (call (.ref g) us) (EP X pins σ Q) X.xe s := by
  have e := I.env0
  have e0 : Env0 X.prog X.w X.K X.mg X.base A X.stack s H := { frames := by rw [fr]; exact e.frames, mod := e.mod, bs := e.bs, bsz := e.bsz, funs := e.funs, frf := e.frf, hok := e.hok, bare := e.bare }
  apply wpAny_call
  refine codeAny_mono (F A X.stack s H us ws Q E hr e0 r h) fun r s' hq => ?_
  match r, hq with
  | .error e, hq => exact hx pins σ H s e s' I hq
  | .ok (.ret u), hq => exact I.after hq
  | .ok .next, hq => exact False.elim hq
  | .ok .brk, hq => exact False.elim hq
  | .ok .cont, hq => exact False.elim hq
/-- what stands at a tracked instance -/
theorem inst_of {a dx : Addr} {fs : List (Str × V)} (I : Inv X pins σ H s) (ha : H a = some (.ins C dx fs)) : ∃ od, PySem.W.InstAt s.heap a (PySem.W.instObj C dx) C (some od) := by
  obtain ⟨mA, O, _⟩ := ins_get I.hok ha
  obtain ⟨od, J, _⟩ := O.look
  exact ⟨od, J⟩
end

/-! ### o[i] -/
def tGetI (C : Addr) (sp : Sp) (E : XK) (ta tb : TE) : TE := fun σ H Q => ta σ H fun x H1 => tb σ H1 fun y H2 => ∃ a dx fs, x = .ref a ∧ H2 a = some (.ins C dx fs) ∧ sp [x, y] H2 Q E
section
variable {X : Cx} {CX : CXT} {n : Nat} {g C : Addr} {sp : Sp} {E : XK} {o i : PySem.Expr} {ta tb : TE} {pos : Pos}
theorem pe_getI (hs : PySem.W.findIn X.K (.ref C) "__getitem__" = some (some (.ref g))) (hf : PySem.W.fnIn X.K g = true) (hfn : PySem.W.isFn X.K (.ref g) = true)
    (F : FnR X.prog X.w X.K X.mg X.base CX n g sp) (hr : Room (n + 1) X.A) (hx : Passes CX X E) (ho : PE X o ta) (hi : PE X i tb)
    (hsl : ∀ a v, subscripted i true (.ref a) v = runValue (.builtin "lifetime.subscript" ⟨[.ref a, v], []⟩) := by intro _ _; with_unfolding_all rfl) :
    PE X (.Subscript o i pos) (tGetI C sp E ta tb) := by
  constructor
  intro pins s σ H Q I h
  refine Subscript_ (binT ho hi I h fun v u s2 x y H2 I2 rx ry q => ?_)
  obtain ⟨a, dx, fs, rfl, ha, q⟩ := q
  cases (show v = Value.ref a from rx)
  obtain ⟨od, J⟩ := inst_of I2 ha
  obtain ⟨m, hF⟩ := I2.fr
  exact PySem.W.sub_K hF I2.ok.mod.kin J hs hf hfn (run_sub F hr.in1 rfl hx I2 (.cons (rr a) (.cons ry .nil)) q) (hsl _ _)
end

/-! ### in, not in -/
def rInI (C : Addr) (sp : Sp) (E : XK) (neg : Bool) : R2 := fun x y H Q => ∃ a dx fs, y = .ref a ∧ H a = some (.ins C dx fs) ∧ sp [y, x] H (fun v H' => ∃ k, v = .bl k ∧ Q (.bl (if neg then !k else k)) H') E
section
variable {X : Cx} {CX : CXT} {n : Nat} {g C : Addr} {sp : Sp} {E : XK}
theorem op_inI (hs : PySem.W.findIn X.K (.ref C) "__contains__" = some (some (.ref g))) (hf : PySem.W.isFn X.K (.ref g) = true)
    (F : FnR X.prog X.w X.K X.mg X.base CX n g sp) (hr : Room n X.A) (hx : Passes CX X E) : OpR X (compareOp .In) (rInI C sp E false) := by
  intro pins s σ H x y v u Q I rx ry h
  obtain ⟨a, dx, fs, rfl, ha, q⟩ := h
  cases (show u = Value.ref a from ry)
  obtain ⟨od, J⟩ := inst_of I ha
  obtain ⟨m, hF⟩ := I.fr
  refine PySem.W.in_K hF I.ok.mod.kin J hs hf (wpAny_mono (run_sub F hr rfl hx I (.cons (rr a) (.cons rx .nil)) q) (fun r s' z => ?_) fun _ _ e => e)
  obtain ⟨z', H', I', rz, k, ek, q'⟩ := z
  subst ek
  cases (show r = Value.bool k from rz)
  exact wpAny_truthy_bool ⟨.bl k, H', I', rfl, q'⟩
theorem op_notInI (hs : PySem.W.findIn X.K (.ref C) "__contains__" = some (some (.ref g))) (hf : PySem.W.isFn X.K (.ref g) = true)
    (F : FnR X.prog X.w X.K X.mg X.base CX n g sp) (hr : Room n X.A) (hx : Passes CX X E) : OpR X (compareOp .NotIn) (rInI C sp E true) := by
  intro pins s σ H x y v u Q I rx ry h
  obtain ⟨a, dx, fs, rfl, ha, q⟩ := h
  cases (show u = Value.ref a from ry)
  obtain ⟨od, J⟩ := inst_of I ha
  obtain ⟨m, hF⟩ := I.fr
  refine PySem.W.notIn_K hF I.ok.mod.kin J hs hf (wpAny_mono (run_sub F hr rfl hx I (.cons (rr a) (.cons rx .nil)) q) (fun r s' z => ?_) fun _ _ e => e)
  obtain ⟨z', H', I', rz, k, ek, q'⟩ := z
  subst ek
  cases (show r = Value.bool k from rz)
  exact wpAny_truthy_bool ⟨.bl (!k), H', I', rfl, q'⟩
end

/-! ### != of an own class that has __eq__ alone -/
section
open PySem.Calls PySem.Builtin
variable {prog : Program} {w : World} {A : Around} {E : Value → Shared → Prop} {s : Shared} {K : PySem.W.Frag} {x C L f : Addr} {h₀ : Heap} {m : Str → Option Value} {ox : Obj} {od : Option Obj} {b tb : Value}
theorem ifBound_B {M : Model} {A : Around} {name : Str} {id : String} {args : List Value} {Q : Option Value → Shared → Prop} (KX : K.In s.heap) (I : PySem.W.InstAt s.heap x ox C od)
    (hs : PySem.W.findIn K (.ref C) name = some (some (.builtin id))) (hb : ∀ self, bindSpecial (.builtin id) self = pure (.builtin id, [self]))
    (h : wpAny M A (call (.builtin id) (.ref x :: args)) (fun v => Q (some v)) E s) : wpAny M A (callSpecialIfBound? (.ref x) name args) Q E s := by
  unfold callSpecialIfBound? bindSpecialIfBound?
  refine wpAny_holding (wpAny_bind (wpAny_bind (wpAny_bind (I.type.here ((PySem.W.looks_findIn KX hs).here ?_)))))
  have fin : wpAny M A (call (.builtin id) ([.ref x] ++ args) >>= fun v => pure (some v)) Q E s :=
    wpAny_bind (wpAny_mono h (fun v s' q => wpAny_pure q) fun _ _ q => q)
  refine wpAny_bind (wpAny_askSetting (wpAny_ite ?_))
  split
  · exact wpAny_bind ((PySem.W.Looks.of_pure (hb _)).here (wpAny_pure (by exact fin)))
  · exact wpAny_tryCatch (wpAny_bind ((PySem.W.Looks.of_pure (hb _)).here (wpAny_pure (by exact fin))))
theorem ne_call {Q : Value → Shared → Prop} (hu : A.in1.units < cLine) (KX : K.In s.heap) (I : PySem.W.InstAt s.heap x ox C od) (hm : PySem.W.mroIn K C (.type "object") = some true)
    (hq : PySem.W.findIn K (.ref C) "__eq__" = some (some (.ref f))) (hf : PySem.W.isFn K (.ref f) = true)
    (h : wpAny (model prog w) A.in1 (call (.ref f) [.ref x, b]) (fun r s' => ∃ k, r = .bool k ∧ Q (.bool (!k)) s') E s) : wpAny (model prog w) A (call (.builtin "object.__ne__") [.ref x, b]) Q E s := by
  apply wpAny_call
  apply codeAny_call_builtin PySem.F.slot_object_ne.plain PySem.F.entry_object_ne
  apply PySem.W.check_slot (i := "object.__ne__") (owner := "object") (n := "__ne__") (by decide +kernel) (by decide +kernel) (I.type.andThen (PySem.W.looks_mroIn KX hm)) (PySem.F.cmpArgs_ne _ _)
  unfold Builtin.«object.__ne__»
  refine wpAny_bind (m := slotArgs "__ne__" 1 _) (wpAny_pure ?_)
  refine wpAny_bind (m := cRoomFor _ _) (wpAny_cRoomFor hu ?_)
  refine wpAny_bind (m := callSpecialIfBound? (.ref x) (Str.ofString "__eq__") [b]) (PySem.W.ifBound_K KX I hq hf (wpAny_mono h (fun r s' z => ?_) fun _ _ y => y))
  obtain ⟨k, rfl, q⟩ := z
  exact wpAny_bind (wpAny_truthy_bool (wpAny_pure q))
theorem ne_K {Q : Value → Shared → Prop} (hu : A.in1.units < cLine) (F : Fr h₀ L s.heap m) (X₀ : K.In h₀) (I : PySem.W.InstAt s.heap x ox C od) (hb : PySem.W.Looks (model prog w) s.heap (typeOf b) tb)
    (hn : PySem.W.notFirst K C tb = true) (hne : PySem.W.findIn K (.ref C) "__ne__" = some (some (.builtin "object.__ne__"))) (hm : PySem.W.mroIn K C (.type "object") = some true)
    (hq : PySem.W.findIn K (.ref C) "__eq__" = some (some (.ref f))) (hf : PySem.W.isFn K (.ref f) = true)
    (h : wpAny (model prog w) A.in1 (call (.ref f) [.ref x, b]) (fun r s' => ∃ k, r = .bool k ∧ Q (.bool (!k)) s') E s) :
    wpAny (model prog w) A (richCompare .NotEq (.ref x) b) Q E s := by
  have KX := X₀.keeps F.keep
  have hu0 : A.units < cLine := Nat.lt_of_succ_lt hu
  have one : wpAny (model prog w) A (tryCompare (.ref x) (cmpInfo .NotEq).2.1 b) (fun r s' => ∃ k, r = some (Value.bool k) ∧ Q (.bool k) s') E s := by
    unfold tryCompare
    refine wpAny_bind (ifBound_B KX I hne PySem.F.slot_object_ne.bind (ne_call (Q := fun v s' => wpAny (model prog w) A (match some v with
      | some .notImplemented | none => pure none
      | some v => pure (some v)) (fun r s' => ∃ k, r = some (Value.bool k) ∧ Q (.bool k) s') E s') hu KX I hm hq hf (wpAny_mono h (fun r s' z => ?_) fun _ _ e => e)))
    obtain ⟨k, rfl, q⟩ := z
    exact ⟨k, rfl, wpAny_pure ⟨_, rfl, q⟩⟩
  unfold richCompare
  simp only [PySem.oneThing_ref]
  refine wpAny_holding (wpAny_bind (wpAny_cRoomFor hu0 ?_))
  refine wpAny_bind (I.type.here (wpAny_bind (hb.here ?_)))
  split
  · rename_i q
    have e : PySem.W.subIn K tb (.ref C) = some false := by
      rcases Bool.or_eq_true_iff.mp hn with e | e
      · rw [beq_iff_eq.mp e] at q; simp at q
      · exact beq_iff_eq.mp e
    refine wpAny_bind ((PySem.W.looks_subIn KX e).here ?_)
    simp only [Bool.false_eq_true, if_false]
    refine wpAny_bind (wpAny_mono one (fun r s' z => ?_) fun _ _ e => e)
    obtain ⟨k, rfl, hq⟩ := z
    exact wpAny_pure hq
  · refine wpAny_bind (wpAny_pure ?_)
    simp only [Bool.false_eq_true, if_false]
    refine wpAny_bind (wpAny_mono one (fun r s' z => ?_) fun _ _ e => e)
    obtain ⟨k, rfl, hq⟩ := z
    exact wpAny_pure hq
end

/-! ### ==, != of two instances -/
def rEqI (K : PySem.W.Frag) (C : Addr) (sp : Sp) (E : XK) (neg : Bool) : R2 := fun x y H Q => ∃ a dx fs b C' dy gs, x = .ref a ∧ y = .ref b ∧ H a = some (.ins C dx fs) ∧ H b = some (.ins C' dy gs) ∧
  PySem.W.notFirst K C (.ref C') = true ∧ sp [x, y] H (fun v H' => ∃ k, v = .bl k ∧ Q (.bl (if neg then !k else k)) H') E
section
variable {X : Cx} {CX : CXT} {n : Nat} {g C : Addr} {sp : Sp} {E : XK}
theorem op_eqI (hs : PySem.W.findIn X.K (.ref C) "__eq__" = some (some (.ref g))) (hf : PySem.W.isFn X.K (.ref g) = true)
    (F : FnR X.prog X.w X.K X.mg X.base CX n g sp) (hr : Room n X.A) (hx : Passes CX X E) : OpR X (compareOp .Eq) (rEqI X.K C sp E false) := by
  intro pins s σ H x y v u Q I rx ry h
  obtain ⟨a, dx, fs, b, C', dy, gs, rfl, rfl, ha, hb, hn, q⟩ := h
  cases (show v = Value.ref a from rx)
  cases (show u = Value.ref b from ry)
  obtain ⟨od, J⟩ := inst_of I ha
  obtain ⟨od', J'⟩ := inst_of I hb
  obtain ⟨m, hF⟩ := I.fr
  show wpAny _ _ (richCompare .Eq (.ref a) (.ref b)) _ _ _
  refine PySem.W.cmp_K (op := .Eq) (tb := .ref C') hr.units0 hF I.ok.mod.kin J J'.type hn hs hf (wpAny_mono (run_sub F hr rfl hx I (.cons (rr a) (.cons (rr b) .nil)) q) (fun r s' z => ?_) fun _ _ e => e)
  obtain ⟨z', H', I', rz, k, ek, q'⟩ := z
  subst ek
  cases (show r = Value.bool k from rz)
  exact ⟨.bl k, H', I', rfl, q'⟩
theorem op_neI (hne : PySem.W.findIn X.K (.ref C) "__ne__" = some (some (.builtin "object.__ne__"))) (hm : PySem.W.mroIn X.K C (.type "object") = some true)
    (hs : PySem.W.findIn X.K (.ref C) "__eq__" = some (some (.ref g))) (hf : PySem.W.isFn X.K (.ref g) = true)
    (F : FnR X.prog X.w X.K X.mg X.base CX n g sp) (hr : Room (n + 1) X.A) (hx : Passes CX X E) : OpR X (compareOp .NotEq) (rEqI X.K C sp E true) := by
  intro pins s σ H x y v u Q I rx ry h
  obtain ⟨a, dx, fs, b, C', dy, gs, rfl, rfl, ha, hb, hn, q⟩ := h
  cases (show v = Value.ref a from rx)
  cases (show u = Value.ref b from ry)
  obtain ⟨od, J⟩ := inst_of I ha
  obtain ⟨od', J'⟩ := inst_of I hb
  obtain ⟨m, hF⟩ := I.fr
  show wpAny _ _ (richCompare .NotEq (.ref a) (.ref b)) _ _ _
  refine ne_K (tb := .ref C') hr.in1.units0 hF I.ok.mod.kin J J'.type hn hne hm hs hf (wpAny_mono (run_sub F hr.in1 rfl hx I (.cons (rr a) (.cons (rr b) .nil)) q) (fun r s' z => ?_) fun _ _ e => e)
  obtain ⟨z', H', I', rz, k, ek, q'⟩ := z
  subst ek
  cases (show r = Value.bool k from rz)
  exact ⟨k, rfl, .bl (!k), H', I', rfl, q'⟩
end
end Ws

set_option Elab.async false
set_option linter.all false
set_option maxRecDepth 100000
set_option maxHeartbeats 4000000
namespace Ws
open PySem PySem.Spec PyProof.Rows L2

mutual
/-- no more signs than these in the text of data -/
def bD : PyData → Nat
  | .none => 4
  | .bool _ => 5
  | .int i => i.natAbs.log2 + 3
  | .str x => 10 * x.length + 2
  | .list xs => bDs xs + 3
  | .tuple xs => bDs xs + 3
  | .dict _ => 0
def bDs : List PyData → Nat
  | [] => 0
  | x :: xs => bD x + 2 + bDs xs
end
mutual
/-- data without dicts, its signs real ones, its numbers not too long -/
def okD : PyData → Bool
  | .none => true
  | .bool _ => true
  | .int i => decide (i.natAbs.log2 < 1920)
  | .str x => x.cps.toList.all fun c => decide (c < 16 ^ 8)
  | .list xs => okDs xs
  | .tuple xs => okDs xs
  | .dict _ => false
def okDs : List PyData → Bool
  | [] => true
  | x :: xs => okD x && okDs xs
end
theorem slen (a b : Str) : (a ++ b).length = a.length + b.length := strLen_append a b
theorem textFrom_le : ∀ (ts : List Str) (k : Nat) (acc : Str), (textFrom k acc ts).length ≤ acc.length + (ts.map fun t => t.length + 2).sum
  | [], k, acc => by simp [textFrom]
  | t :: ts, k, acc => by
    have ih := textFrom_le ts (k + 1) (acc ++ (if k > 0 then ", " else "" : String) ++ t)
    have e : (acc ++ (if k > 0 then ", " else "" : String) ++ t).length ≤ acc.length + 2 + t.length := by
      rw [slen, slen]
      have h2 : (((if k > 0 then ", " else "" : String)) : Str).length ≤ 2 := by
        split
        · exact Nat.le_refl 2
        · exact Nat.zero_le 2
      omega
    show (textFrom (k + 1) (acc ++ (if k > 0 then ", " else "" : String) ++ t) ts).length ≤ _
    simp only [List.map_cons, List.sum_cons]
    omega
theorem join_le : ∀ ts : List Str, (Str.join ", " ts).length ≤ (ts.map fun t => t.length + 2).sum
  | [] => Nat.zero_le _
  | [x] => by
    show x.length ≤ _
    simp
  | x :: y :: r => by
    have ih := join_le (y :: r)
    show (x ++ ", " ++ Str.join ", " (y :: r)).length ≤ _
    rw [slen, slen]
    have h2 : ((", " : String) : Str).length = 2 := rfl
    rw [List.map_cons, List.sum_cons, h2]
    omega
theorem natText_le (n : Nat) : (toString n).length ≤ n.log2 + 1 := by
  have h : n < 2 ^ (n.log2 + 1) := Nat.lt_log2_self
  exact nat_repr_length_le (by omega) h
theorem intText_le (i : Int) : ((toString i : String) : Str).length ≤ i.natAbs.log2 + 3 := by
  rw [PySem.ofString_length]
  cases i with
  | ofNat n =>
    have := natText_le n
    show (toString n).length ≤ n.log2 + 3
    omega
  | negSucc n =>
    have := natText_le (n + 1)
    show ("-" ++ toString (n + 1)).length ≤ (n + 1).log2 + 3
    rw [String.length_append]
    have h1 : ("-" : String).length = 1 := rfl
    omega
mutual
theorem shown_le : ∀ d : PyData, okD d = true → (PyData.shown d).length ≤ bD d
  | .none, _ => by
    show (("None" : String) : Str).length ≤ 4
    exact Nat.le_refl 4
  | .bool b, _ => by
    cases b
    · exact Nat.le_refl 5
    · exact Nat.le_succ 4
  | .int i, _ => intText_le i
  | .str x, h => by
    have h2 : ∀ c ∈ x.cps.toList, c < 16 ^ 8 := fun c hc => of_decide_eq_true (List.all_eq_true.mp (show (x.cps.toList.all fun c => decide (c < 16 ^ 8)) = true from h) c hc)
    exact StrLaws.reprText_len x h2
  | .list xs, h => by
    have ih := shownAll_le xs h
    show (textFrom 0 "[" (PyData.shownAll xs) ++ ("]" : String)).length ≤ bDs xs + 3
    rw [slen]
    have h1 := textFrom_le (PyData.shownAll xs) 0 "["
    have e1 : (("[" : String) : Str).length = 1 := rfl
    have e2 : (("]" : String) : Str).length = 1 := rfl
    omega
  | .tuple xs, h => by
    have ih := shownAll_le xs h
    show (("(" : Str) ++ Str.join ", " (PyData.shownAll xs) ++ (if (PyData.shownAll xs).length == 1 then ",)" else ")" : String)).length ≤ bDs xs + 3
    rw [slen, slen]
    have h1 := join_le (PyData.shownAll xs)
    have e1 : (("(" : String) : Str).length = 1 := rfl
    have e2 : ((if (PyData.shownAll xs).length == 1 then ",)" else ")" : String) : Str).length ≤ 2 := by
      split
      · exact Nat.le_refl 2
      · exact Nat.le_succ 1
    omega
  | .dict _, h => by cases h
theorem shownAll_le : ∀ xs : List PyData, okDs xs = true → ((PyData.shownAll xs).map fun t => t.length + 2).sum ≤ bDs xs
  | [], _ => Nat.le_refl _
  | x :: xs, h => by
    obtain ⟨h1, h2⟩ := Bool.and_eq_true_iff.mp (show (okD x && okDs xs) = true from h)
    have a := shown_le x h1
    have b := shownAll_le xs h2
    show ((PyData.shown x :: PyData.shownAll xs).map fun t => t.length + 2).sum ≤ bD x + 2 + bDs xs
    rw [List.map_cons, List.sum_cons]
    omega
end
mutual
theorem showable_of : ∀ d : PyData, okD d = true → PyData.showable d = true
  | .none, _ => rfl
  | .bool _, _ => rfl
  | .int _, h => h
  | .str _, _ => rfl
  | .list xs, h => showableAll_of xs h
  | .tuple xs, h => showableAll_of xs h
  | .dict _, h => by cases h
theorem showableAll_of : ∀ xs : List PyData, okDs xs = true → PyData.showableAll xs = true
  | [], _ => rfl
  | x :: xs, h => by
    obtain ⟨h1, h2⟩ := Bool.and_eq_true_iff.mp (show (okD x && okDs xs) = true from h)
    show (PyData.showable x && PyData.showableAll xs) = true
    rw [showable_of x h1, showableAll_of xs h2]
    rfl
end
mutual
theorem noDict_of : ∀ d : PyData, okD d = true → PyData.hasDict d = false
  | .none, _ => rfl
  | .bool _, _ => rfl
  | .int _, _ => rfl
  | .str _, _ => rfl
  | .list xs, h => noDictAll_of xs h
  | .tuple xs, h => noDictAll_of xs h
  | .dict _, h => by cases h
theorem noDictAll_of : ∀ xs : List PyData, okDs xs = true → PyData.hasDictAll xs = false
  | [], _ => rfl
  | x :: xs, h => by
    obtain ⟨h1, h2⟩ := Bool.and_eq_true_iff.mp (show (okD x && okDs xs) = true from h)
    show (PyData.hasDict x || PyData.hasDictAll xs) = false
    rw [noDict_of x h1, noDictAll_of xs h2]
    rfl
end

/-- repr(x), x data -/
def rRepr (K : PySem.W.Frag) : List V → Hp → VK → Prop := fun xs H Q => ∃ x d, xs = [x] ∧ Dp K H x d ∧ okD d = true ∧ bD d ≤ sizeLine ∧ d.depth ≤ 60 ∧ Q (.str d.shown) H
theorem call_reprD {X : Cx} (hg : X.A.guards = some []) (hu : X.A.units + 64 < cLine) : CallR X (.builtin "repr") (rRepr X.K) := by
  intro pins s σ H xs us Q I r h
  obtain ⟨x, d, rfl, hd, hk, hb, hp, q⟩ := h
  obtain ⟨u, rfl, ru⟩ := vals1 r
  obtain ⟨as, hr⟩ := Dp.reads I d x u hd ru
  have hz : d.shown.length ≤ sizeLine := Nat.le_trans (shown_le d hk) hb
  match x, d, hd, ru, hr, hk, hz, q with
  | .non, .none, .non, ru, hr, hk, hz, q =>
    cases (show u = Value.none from ru)
    exact P.repr_of_none ⟨.str _, H, I.tok _, ⟨_, rfl⟩, q⟩
  | .bl b, .bool _, .bl _, ru, hr, hk, hz, q =>
    cases (show u = Value.bool b from ru)
    exact P.repr_of_bool ⟨.str _, H, I.tok _, ⟨_, rfl⟩, q⟩
  | .int i, .int _, .int _, ru, hr, hk, hz, q =>
    obtain ⟨t, rfl⟩ := (show ∃ t, u = Value.int i t from ru)
    exact P.repr_of_int (of_decide_eq_true hk) ⟨.str _, H, I.tok _, ⟨_, rfl⟩, q⟩
  | .str z, .str _, .str _, ru, hr, hk, hz, q =>
    obtain ⟨t, rfl⟩ := (show ∃ t, u = Value.str z t from ru)
    exact P.repr_of_str ⟨.str _, H, I.tok _, ⟨_, rfl⟩, q⟩ hz
  | .ref a, d, hd, ru, hr, hk, hz, q =>
    cases (show u = Value.ref a from ru)
    exact repr_of_reads' hr (showable_of d hk) (PyData.noDict_hsm (noDict_of d hk)) hg (by omega) (fun _ _ e => e) (fun h' u tk k => ⟨.str _, H, I.kept k, ⟨_, rfl⟩, q⟩) hz
end Ws

set_option Elab.async false
set_option linter.all false
set_option maxRecDepth 100000
set_option maxHeartbeats 4000000
namespace Ws
open PySem PySem.Spec PyProof.Rows L2
/-- a positional promise, where no guard runs around -/
def FnRG (P : Program) (w : World) (K : PySem.W.Frag) (mg : Str → Option Value) (base : Heap) (CX : CXT) (k : Nat) (f : Addr) (sp : Sp) : Prop :=
  ∀ (A : Around) (outer : List Env) (s : Shared) (H : Hp) (us : List Value) (vs : List V) (Q : VK) (E : XK),
    A.guards = some [] → Room k A → Env0 P w K mg base A outer s H → Vals vs us → sp vs H Q E → codeAny (model P w) A (.call (.ref f) ⟨us, []⟩) (CR CX outer P w H s Q E) s
section
variable {P : Program} {w : World} {K : PySem.W.Frag} {mg : Str → Option Value} {base : Heap} {CX : CXT} {k : Nat} {f : Addr} {sp : Sp}
/-- such a def, by its body -/
theorem FunD.okG {x qual : Str} {params : Arguments} {body : List Stmt} {scope : Scope} {dvs : List V} {kws : List (Str × V)} {fd : FuncData} {N ps : List Str} {ds : List Value} {es : List V}
    (F : FunD K x qual params body scope dvs kws f fd) (S : FnScope N ps scope) (B : Binds K fd ps ds) (D : Vals es ds) (len : ∀ vs H Q E, sp vs H Q E → (vs ++ es).length = ps.length)
    (hbody : ∀ (cdv : Value) (A : Around) (outer : List Env) (s : Shared) (H : Hp) (vs : List V) (Q : VK) (E : XK), A.guards = some [] →
      Room k (A.deeper (envOfC qual scope s.heap.objs.size f cdv)) → sp vs H Q E →
      ∃ t, PSs (cxOf CX P w K mg base N qual scope f cdv A outer s H E) body t ∧ t { nx := fun _ H' => Q .non H', rt := Q } (start N (vs ++ es)) H) :
    FnRG P w K mg base CX (k + 1) f sp := by
  intro A outer s H us vs Q E hg hr e0 r hsp
  obtain ⟨oc, od, dV, kV, doc, pm, an, cdv, ct, osl, rfl, lk, hcd, _, _⟩ := F.ex
  have kin : K.In s.heap := e0.mod.kin.keeps fun b o e => (e0.bs b o e).1
  have nol : s.heap.NoLimit := e0.mod.nolimit.keeps fun b o e => (e0.bs b o e).1
  have r' : Vals (vs ++ es) (us ++ ds) := r.append D
  have hl : (vs ++ es).length = ps.length := len _ _ _ _ hsp
  have hl' : (us ++ ds).length = ps.length := r'.length ▸ hl
  have kinds : ∀ y ∈ ps.zip (us ++ ds), scope.names.lookup y.1 = some .local ∨
      (scope.names.lookup y.1 = some .cell ∧ ((cellsFrom (s.heap.objs.size + 1) scope.names []).lookup y.1).isSome = true) := by
    rintro ⟨n, v⟩ hy
    have hn := S.par n (List.of_mem_zip hy).1
    exact hn.imp id fun q => ⟨q, PySem.W.cellsFrom_some _ _ _ (.inl q)⟩
  apply codeAny_call_function hr.depth (kin _ _ lk) rfl S.co S.gen rfl (PySem.W.codeRec_of kin hcd) (B s us kin hl' _ _ _ _ ?_)
  refine wpAny_newFunctionEnv_cells S.kind kinds fun env he s1 x => ?_
  subst he
  refine ⟨nol.keeps x.toInCall.keep, codeAny_func ?_⟩
  obtain ⟨t, ht, hq⟩ := hbody cdv A outer s H vs Q E hg (hr.deeper _) hsp
  have J0 := inv_start (CX := CX) (P := P) (w := w) (K := K) (mg := mg) (base := base) (outer := outer) (E := E) S hr.hd e0 hl r' x
  refine wpAny_mono (ht.run [] s1 _ H _ J0 hq) (fun fl s' hs => ?_) fun _ _ z => z
  match fl, hs with
  | .ret u, hs => obtain ⟨v, σ', H', J, rv, q⟩ := hs; exact ⟨v, H', J.os, J.bare, J.base, J.hok, rv, q⟩
  | .next, hs => obtain ⟨σ', H', J, q⟩ := hs; exact ⟨V.non, H', J.os, J.bare, J.base, J.hok, rfl, q⟩
  | .brk, hs => obtain ⟨_, _, _, q⟩ := hs; exact False.elim q
  | .cont, hs => obtain ⟨_, _, _, q⟩ := hs; exact False.elim q
theorem FnRG.mono {j : Nat} (F : FnRG P w K mg base CX j f sp) (h : j ≤ k) : FnRG P w K mg base CX k f sp :=
  fun A outer s H us vs Q E hg hr => F A outer s H us vs Q E hg (hr.mono h)
theorem FnRG.of (F : FnR P w K mg base CX k f sp) : FnRG P w K mg base CX k f sp :=
  fun A outer s H us vs Q E _ hr => F A outer s H us vs Q E hr
end
section
variable {X : Cx} {CX : CXT} {k : Nat} {f : Addr} {sp : Sp} {E : XK} {x : Str} {e : PySem.Expr} {es : List PySem.Expr} {t : TA} {p pos : Pos}
theorem pe_callG (F : FnRG X.prog X.w X.K X.mg X.base CX k f sp) (gu : X.A.guards = some []) (hr : Room k X.A) (hg : Gl X x) (hm : X.mg x = some (.ref f)) (hk : PySem.W.keepIn X.K (.ref f) = true)
    (hx : Passes CX X E) (ha : PA X (e :: es) t) (hd : (x == ("__debug__" : Str)) = false := by decide) (he : starEach (e :: es) X.env = (false, eval e X.env) :: starEach es X.env := by rfl)
    (hpl : (backTo pos (starEach es X.env)).any (·.1) = false := by rfl) : PE X (.Call (.Name x p) (e :: es) [] pos) (tCallR sp E t) := by
  constructor
  intro pins s σ H Q I h
  apply wpAny_Call_Name_kw (ld_glob I hg hm ?_ hd)
  apply PySem.W.callWith_K (h₀ := X.base) I.ok.mod.kin hk ?_ he hpl
  refine thn (ha.run pos pins s σ H _ I h) fun us s1 ⟨vs, H1, I1, r, q⟩ => ⟨I1.kIn, ?_⟩
  apply wpAny_call
  refine codeAny_mono (F X.A X.stack s1 H1 us vs Q E gu hr I1.env0 r q) fun r s' hq => ?_
  match r, hq with
  | .error e, hq => exact hx pins σ H1 s1 e s' I1 hq
  | .ok (.ret u), hq => exact I1.after hq
  | .ok .next, hq => exact False.elim hq
  | .ok .brk, hq => exact False.elim hq
  | .ok .cont, hq => exact False.elim hq
end
/-- the script at a, as the law is handed it -/
def scrO (vs : List Value) : Obj := { cls := .type "list", data := .seq vs.toArray }
/-- the law's call at the heap behind the top -/
theorem law_callG {P : Program} {w : World} {K : PySem.W.Frag} {mg mb : Str → Option Value} {CX : CXT} {k : Nat} {fa a : Addr} {sp : Sp} {s₁ : Shared} {vs : List Value} {ns : List Int}
    (KX : K.In s₁.heap) (gl : s₁.heap.Ns mainGlobals mg) (bl : s₁.heap.Ns builtinsNs mb) (bb : ∀ x : Str, x ≠ "__name__" → mb x = bootBuiltins x) (lim : s₁.heap.NoLimit) (gens : s₁.gens = #[])
    (ha : s₁.heap.get? a = some (scrO vs)) (hi : IntsAre vs ns) (hl : ns.length ≤ sizeLine) (hr : Room k callerA)
    (F : ∀ base : Heap, K.In base → base.Ns mainGlobals mg → FnRG P w K mg base CX k fa sp)
    (hsp : ∀ H : Hp, Only H → SqL K H a (ns.map V.int) → sp [.ref a] H (fun v _ => v = .bl true) fun _ _ _ => False) (no : ∀ H e s', CX [] H s₁ (fun _ _ _ => False) e s' → False) :
    codeAny (model P w) callerA (.call (.ref fa) ⟨[.ref a], []⟩) (fun r s' => r = .ok (.ret (.bool true)) ∧ OldK s₁.heap s'.heap ∧ s'.os = s₁.os ∧ AllBare s'.gens) s₁ := by
  have rv := vals_ints hi
  -- H tracks at most the script
  suffices key : ∀ H : Hp, (∀ b u, H b = some u → b = a ∧ u = .frz (scrO vs) (.lst (ns.map V.int)) ∧ K.lookup a = none) → SqL K H a (ns.map V.int) →
      codeAny (model P w) callerA (.call (.ref fa) ⟨[.ref a], []⟩) (fun r s' => r = .ok (.ret (.bool true)) ∧ OldK s₁.heap s'.heap ∧ s'.os = s₁.os ∧ AllBare s'.gens) s₁ by
    cases hk : K.lookup a with
    | some o =>
      have e := KX a o hk
      rw [ha] at e
      cases e
      refine key (fun _ => none) (fun b u z => nomatch (show (none : Option HO) = some u from z)) (.inr ⟨_, vs.toArray, _, hk, rfl, rfl, rfl, ?_, by simpa using rv⟩)
      rw [List.size_toArray, hi.length]
      exact hl
    | none =>
      refine key (upd (fun _ => none) a (.frz (scrO vs) (.lst (ns.map V.int)))) (fun b u z => ?_) (.inl (.inr ⟨scrO vs, upd_same⟩))
      by_cases hb : b = a
      · subst hb
        rw [upd_same] at z
        exact ⟨rfl, (Option.some.inj z).symm, hk⟩
      · rw [upd_ne hb] at z
        exact nomatch (show (none : Option HO) = some u from z)
  intro H hH hS
  have free : ∀ {b : Addr}, b ≠ a → H b = none := fun {b} hb => by
    cases q : H b with
    | none => rfl
    | some u => exact absurd (hH b u q).1 hb
  have hok : HOk P w H s₁.heap := fun b u q => by
    obtain ⟨rfl, rfl, _⟩ := hH b u q
    exact ⟨ha, by rw [List.length_map]; exact hl, vs, _, rv, ha⟩
  have nd : ∀ {b : Addr} {o : Obj} {es : Array DictEntry} {ep : Nat}, s₁.heap.get? b = some o → o.data = .dict es ep → b ≠ a := fun {b o es ep} e d z => by
    subst z
    rw [ha] at e
    cases e
    exact nomatch (show Data.seq vs.toArray _ = Data.dict es ep from d)
  have nsK : ∀ {b : Addr} {m : Str → Option Value}, s₁.heap.Ns b m → (hidT s₁.heap H).Ns b m := fun {b m} z => by
    obtain ⟨o, es, ep, e, d, r⟩ := z
    exact ⟨o, es, ep, hidT_get e (free (nd e d)), d, r⟩
  have kb : K.In (hidT s₁.heap H) := fun b o e => by
    refine hidT_get (KX b o e) ?_
    cases q : H b with
    | none => rfl
    | some u =>
      obtain ⟨rfl, _, z⟩ := hH b u q
      rw [z] at e
      cases e
  have lim' : (hidT s₁.heap H).NoLimit := by
    obtain ⟨mc, h1, h2⟩ := lim
    exact ⟨mc, nsK h1, h2⟩
  have e0 : Env0 P w K mg (hidT s₁.heap H) callerA [] s₁ H :=
    ⟨rfl, ⟨kb, nsK gl, ⟨mb, nsK bl, bb⟩, lim'⟩, fun b o e => of_hidT e, Nat.le_of_eq (hidT_size _ _), trivial, fun b hb => (by cases (show b ∈ ([] : List Addr) from hb)), hok, .of_eq gens⟩
  have only : Only H := fun b => by
    cases q : H b with
    | none => exact .inl rfl
    | some u =>
      obtain ⟨_, rfl, _⟩ := hH b u q
      exact .inr ⟨_, _, rfl⟩
  refine codeAny_mono (F _ kb (nsK gl) callerA [] s₁ H [.ref a] [.ref a] _ _ rfl hr e0 (.cons (rr a) .nil) (hsp H only hS)) fun r s' h => ?_
  match r, h with
  | .error e, h => exact (no H e s' h).elim
  | .ok .next, h => exact False.elim h
  | .ok .brk, h => exact False.elim h
  | .ok .cont, h => exact False.elim h
  | .ok (.ret u), h =>
    obtain ⟨v, H', os, bare, un, hok', r', q⟩ := h
    cases (show v = .bl true from q)
    cases (show u = Value.bool true from r')
    refine ⟨rfl, OldK.of_keep fun b o e => ?_, os, bare⟩
    cases q : H b with
    | none => exact un.keep b o e q (fun z => nomatch (show b ∈ ([] : List Addr) from z)) (fun z => nomatch z)
    | some u =>
      obtain ⟨rfl, rfl, _⟩ := hH b u q
      obtain ⟨e2, _⟩ := hok' _ _ (un.frzs _ _ _ q)
      rw [ha] at e
      cases e
      exact e2
/-- the law's walk behind a head by facts -/
theorem walk_ofG {l : PySem.W.OpenLaw} {n k : Nat} {q : Program} {loose : List Str} {XP : (Str → Option Value) → Heap → Prop} {YP : World → Heap → Prop} {d : DefRec} {CX : CXT}
    (hn : l.most = some n) (hn2 : n ≤ sizeLine) (hdf : d.params.defaults = []) (hr : Room k callerA)
    (F : ∀ (w : World) (mg : Str → Option Value) (fa : Addr) (h : Heap), YP w h → h.Ns mainGlobals mg → mg d.name = some (.ref fa) →
      ∃ (K : PySem.W.Frag) (sp : Sp), K.In h ∧
        (∀ (H : Hp) (a : Addr) (ns : List Int), ns.length ≤ n → Only H → SqL K H a (ns.map V.int) → sp [.ref a] H (fun v _ => v = .bl true) fun _ _ _ => False) ∧
        ∀ base : Heap, K.In base → base.Ns mainGlobals mg → FnRG l.prog w K mg base CX k fa sp)
    (no : ∀ (H : Hp) (s : Shared) (e : Value) (s' : Shared), CX [] H s (fun _ _ _ => False) e s' → False) :
    PySem.W.WalkO q loose XP YP l.row.toRowW d [] (fun f vs => PySem.call f vs) := by
  apply Att.attach_call hn hdf
  intro w s₀ s₁ mg mb fa o pm cd doc a vs ns G Y ho hd hcd hmg hobj hints hlen hg
  obtain ⟨K, sp, KX, hsp, hF⟩ := F w mg fa _ Y G.T.g hmg
  exact law_callG KX G.T.g G.T.b G.T.builtins G.T.nolimit hg hobj hints (Nat.le_trans hlen hn2) hr hF (fun H hO hS => hsp H a ns hlen hO hS) fun H e s' => no H s₁ e s'
end Ws

set_option Elab.async false
set_option linter.all false
set_option maxRecDepth 100000
set_option maxHeartbeats 4000000
namespace Ws
open PySem PySem.Spec PyProof.Rows L2
abbrev Eqb := V → V → Bool → Hp → Prop
/-- everything but dicts stands as it did -/
def Nd (H H' : Hp) : Prop := ∀ c o, H c = some o → (∀ kvs, o ≠ .dK kvs) → H' c = some o
theorem Nd.of {H H' : Hp} (e : Ext H H') : Nd H H' := fun c o h _ => e c o h
theorem Nd.trans {H H1 H2 : Hp} (a : Nd H H1) (b : Nd H1 H2) : Nd H H2 := fun c o h n => b c o (a c o h n) n
theorem Nd.lock {H : Hp} {d : Addr} {kvs : List (Key × V)} {o : HO} (h : H d = some (.dK kvs)) : Nd H (upd H d o) := fun c u e n => by
  have hc : c ≠ d := fun z => by
    subst z
    rw [h] at e
    cases e
    exact n _ rfl
  rw [upd_ne hc]
  exact e
def MonN (D : Eqb) : Prop := ∀ x y b H H', Nd H H' → D x y b H → D x y b H'
/-- == as a list, a tuple or a dict asks it of its items -/
def EqB (X : Cx) (n : Nat) (D : Eqb) : Prop :=
  ∀ (A : Around) (pins : List (Addr × Obj)) (s : Shared) (σ : L2.St) (H : Hp) (x y : V) (b : Bool) (u v : Value), Sub X n A → Inv X pins σ H s → RelV x u → RelV y v → D x y b H →
    wpAny (model X.prog X.w) A (eqBool u v) (fun r s' => r = b ∧ ∃ H', Inv X pins σ H' s' ∧ Ext H H') X.xe s
/-- == as the operator -/
def RcB (X : Cx) (n : Nat) (D : Eqb) : Prop :=
  ∀ (A : Around) (pins : List (Addr × Obj)) (s : Shared) (σ : L2.St) (H : Hp) (x y : V) (b : Bool) (u v : Value), Sub X n A → Inv X pins σ H s → RelV x u → RelV y v → D x y b H →
    wpAny (model X.prog X.w) A (richCompare .Eq u v) (fun r s' => r = .bool b ∧ ∃ H', Inv X pins σ H' s' ∧ Ext H H') X.xe s
section
variable {X : Cx} {n m : Nat} {D : Eqb}
theorem RcB.mono (h : RcB X n D) (hn : n ≤ m) : RcB X m D := fun A pins s σ H x y b u v sb => h A pins s σ H x y b u v (sb.mono hn)
theorem EqB.mono (h : EqB X n D) (hn : n ≤ m) : EqB X m D := fun A pins s σ H x y b u v sb => h A pins s σ H x y b u v (sb.mono hn)
/-- the same object is equal to itself unasked -/
theorem RcB.eqB (h : RcB X n D) (hr : ∀ x y b H, D x y b H → ∃ p q, x = .ref p ∧ y = .ref q ∧ (p = q → b = true)) : EqB X n D := by
  intro A pins s σ H x y b u v sb I rx ry d
  obtain ⟨p, q, rfl, rfl, hs⟩ := hr _ _ _ _ d
  cases (show u = Value.ref p from rx)
  cases (show v = Value.ref q from ry)
  by_cases hab : p = q
  · subst hab
    cases hs rfl
    exact SeqAt.EqAt.same (A := A) (s := s) (.ref p) X.prog X.w X.xe _ ⟨rfl, H, I, Ext.rfl'⟩
  · refine GQ.eqBool_refG hab (wpAny_mono (h A pins s σ H (.ref p) (.ref q) b _ _ sb I rfl rfl d) (fun r s' z => ?_) fun _ _ z => z)
    obtain ⟨e, z⟩ := z
    exact ⟨b, e, rfl, z⟩
/-! ### own instances -/
def DIn (C : Addr) (R : Addr → Addr → Bool → Hp → Prop) : Eqb := fun x y b H =>
  ∃ p q dx dy fs gs, x = .ref p ∧ y = .ref q ∧ H p = some (.ins C dx fs) ∧ H q = some (.ins C dy gs) ∧ (p = q → b = true) ∧ R p q b H
theorem DIn.mon {C : Addr} {R : Addr → Addr → Bool → Hp → Prop} (hR : ∀ p q b H H', Nd H H' → R p q b H → R p q b H') : MonN (DIn C R) := fun x y b H H' e d => by
  obtain ⟨p, q, dx, dy, fs, gs, hx, hy, h1, h2, hs, r⟩ := d
  exact ⟨p, q, dx, dy, fs, gs, hx, hy, e _ _ h1 (fun _ z => nomatch z), e _ _ h2 (fun _ z => nomatch z), hs, hR p q b H H' e r⟩
def spEqb (R : Addr → Addr → Bool → Hp → Prop) : Sp := fun vs H Q _ => ∃ p q b, vs = [.ref p, .ref q] ∧ R p q b H ∧ ∀ H', Ext H H' → Q (.bl b) H'
theorem rcB_in {CX : CXT} {C f : Addr} {R : Addr → Addr → Bool → Hp → Prop} {E : XK} (F : FnR X.prog X.w X.K X.mg X.base CX n f (spEqb R))
    (hs : PySem.W.findIn X.K (.ref C) "__eq__" = some (some (.ref f))) (hf : PySem.W.isFn X.K (.ref f) = true) (hx : Passes CX X E) : RcB X n (DIn C R) := by
  intro A pins s σ H x y b u v sb I rx ry d
  obtain ⟨p, q, dx, dy, fs, gs, rfl, rfl, hp, hq, _, r⟩ := d
  cases (show u = Value.ref p from rx)
  cases (show v = Value.ref q from ry)
  obtain ⟨od, J⟩ := inst_of I hp
  obtain ⟨od', J'⟩ := inst_of I hq
  obtain ⟨m, hF⟩ := I.fr
  have hsp : spEqb R [.ref p, .ref q] H (fun v H' => v = .bl b ∧ Ext H H') E := ⟨p, q, b, rfl, r, fun H' e => ⟨rfl, e⟩⟩
  refine PySem.W.cmp_K (op := .Eq) (tb := .ref C) sb.room.units0 hF I.ok.mod.kin J J'.type (by simp [PySem.W.notFirst]) hs hf
    (wpAny_mono (run_sub F sb.room sb.fr hx I (.cons (rr p) (.cons (rr q) .nil)) hsp) (fun r s' z => ?_) fun _ _ e => e)
  obtain ⟨z', H', I', rz, e1, e2⟩ := z
  subst e1
  cases (show r = Value.bool b from rz)
  exact ⟨rfl, H', I', e2⟩
theorem eqB_in {CX : CXT} {C f : Addr} {R : Addr → Addr → Bool → Hp → Prop} {E : XK} (F : FnR X.prog X.w X.K X.mg X.base CX n f (spEqb R))
    (hs : PySem.W.findIn X.K (.ref C) "__eq__" = some (some (.ref f))) (hf : PySem.W.isFn X.K (.ref f) = true) (hx : Passes CX X E) : EqB X n (DIn C R) :=
  (rcB_in F hs hf hx).eqB fun x y b H d => by
    obtain ⟨p, q, _, _, _, _, h1, h2, _, _, h3, _⟩ := d
    exact ⟨p, q, h1, h2, h3⟩
/-! ### flat values -/
def DFl : Eqb := fun x y b _ => flatV x = true ∧ flatV y = true ∧ b = eqV x y
theorem eqB_fl : EqB X 0 DFl := by
  intro A pins s σ H x y b u v sb I rx ry d
  obtain ⟨fx, fy, rfl⟩ := d
  exact eqAt_V (A := A) (s := s) rx ry fx fy X.prog X.w X.xe _ ⟨rfl, H, I, Ext.rfl'⟩
end
/-! ### item by item -/
/-- the answer for two rows: all items equal, and as many -/
def Row (D : Eqb) : List V → List V → Bool → Hp → Prop
  | [], [], b, _ => b = true
  | x :: xs, y :: ys, b, H => ∃ c d, D x y c H ∧ Row D xs ys d H ∧ b = (c && d)
  | [], _ :: _, b, _ => b = false
  | _ :: _, [], b, _ => b = false
theorem Row.mon {D : Eqb} (hD : MonN D) {H H' : Hp} (e : Nd H H') : ∀ {xs ys : List V} {b : Bool}, Row D xs ys b H → Row D xs ys b H'
  | [], [], _, h => h
  | x :: xs, y :: ys, b, ⟨c, d, h1, h2, h3⟩ => ⟨c, d, hD _ _ _ _ _ e h1, Row.mon hD e h2, h3⟩
  | [], _ :: _, _, h => h
  | _ :: _, [], _, h => h
section
variable {prog : Program} {w : World} {A : Around} {R : Result → Shared → Prop}
/-- the tuple's own loop: J xs ys holds what is known when these items are left -/
theorem tup_loop (l b : Addr) (items items2 : Array Value) (n n2 : Nat) (dd dd2 : Option Addr) (sl sl2 : Array (Option Value)) (J : List Value → List Value → Shared → Prop)
    (turn : ∀ u us v vs s, J (u :: us) (v :: vs) s → wpAny (model prog w) A.in1 (eqBool u v) (fun r s' => if r = true then J us vs s' else R (.ok (.ret (.bool false))) s') (fun e s' => R (.error e) s') s)
    (fin0 : ∀ s, J [] [] s → R (.ok (.ret (.bool true))) s) (fin1 : ∀ u us s, J (u :: us) [] s → R (.ok (.ret (.bool false))) s) (fin2 : ∀ u us s, J [] (u :: us) s → R (.ok (.ret (.bool false))) s)
    {s : Shared} (hl1 : s.heap.get? l = some { cls := .type "tuple", dict := dd, data := .seq items n, slots := sl }) (hb1 : s.heap.get? b = some { cls := .type "tuple", dict := dd2, data := .seq items2 n2, slots := sl2 })
    (h : J items.toList items2.toList s) :
    wpAny (model prog w) A.in1 (Builtin.«tuple.__eq__» ⟨[.ref l, .ref b], []⟩) (GQ.FinOf prog w A R) (fun e s' => R (.error e) s') s := by
  have f2 := AutoSeq1.sub_tuple_tuple
  have h0 := h
  obtain ⟨hp, g, d, tk, os⟩ := s
  wp_walk using AutoSeq1.wpAny_loadPart' hl1, AutoSeq1.wpAny_loadPart' hb1, wpAny_forIn_list _ (fun rest q s' => q.1 = none ∧ ∃ us vs, rest = us.zip vs ∧ items.size - us.length = items2.size - vs.length ∧ us.length ≤ items.size ∧ vs.length ≤ items2.size ∧ J us vs s') _
  case turn =>
    rintro ⟨u, v⟩ rest q s' ⟨hq, us, vs, hz, hs, hu, hv, hJ⟩
    match us, vs, hz with
    | u' :: us, v' :: vs, hz =>
      injection hz with e1 e2
      injection e1 with e3 e4
      subst e3 e4 e2
      refine wpAny_bind (wpAny_mono (turn _ _ _ _ s' hJ) (fun r s2 z => ?_) fun _ _ x => x)
      simp only [List.length_cons] at hs hu hv
      cases r with
      | true =>
        wp_walk
        exact ⟨rfl, us, vs, rfl, by omega, by omega, by omega, z⟩
      | false =>
        wp_walk
        exact z
    | [], _, hz => exact nomatch hz
    | _ :: _, [], hz => exact nomatch hz
  case fin =>
    rintro ⟨b1, b2⟩ s' ⟨hq, us, vs, hz, hs, hu, hv, hJ⟩
    simp only at hq
    subst hq
    match us, vs, hz with
    | [], [], hz =>
      have e : items.size = items2.size := by simpa using hs
      have z := fin0 s' hJ
      wp_walk
      simpa [Builtin.Tuple.tupleCompareSizes, e] using z
    | u :: us, [], hz =>
      simp only [List.length_cons, List.length_nil] at hs hu
      have e : (items.size == items2.size) = false := by
        rw [beq_eq_false_iff_ne]
        omega
      have z := fin1 _ _ s' hJ
      wp_walk
      simpa [Builtin.Tuple.tupleCompareSizes, e] using z
    | [], v :: vs, hz =>
      simp only [List.length_cons, List.length_nil] at hs hv
      have e : (items.size == items2.size) = false := by
        rw [beq_eq_false_iff_ne]
        omega
      have z := fin2 _ _ s' hJ
      wp_walk
      simpa [Builtin.Tuple.tupleCompareSizes, e] using z
    | u :: us, v :: vs, hz => exact nomatch hz
  case h =>
    exact ⟨rfl, items.toList, items2.toList, rfl, by simp, by simp, by simp, h0⟩
end
section
variable {X : Cx} {n : Nat} {D : Eqb}
def DTu (K : PySem.W.Frag) (D : Eqb) : Eqb := fun x y b H => ∃ p q xs ys, x = .ref p ∧ y = .ref q ∧ SqT K H p xs ∧ SqT K H q ys ∧ (p = q → b = true) ∧ Row D xs ys b H
theorem SqT.nd {K : PySem.W.Frag} {H H' : Hp} {a : Addr} {xs : List V} (h : SqT K H a xs) (e : Nd H H') : SqT K H' a xs :=
  h.elim (fun h => .inl (h.elim (fun h => .inl (e _ _ h fun _ z => nomatch z)) fun ⟨o, h⟩ => .inr ⟨o, e _ _ h fun _ z => nomatch z⟩)) fun h => .inr h
theorem DTu.mon {K : PySem.W.Frag} (hD : MonN D) : MonN (DTu K D) := fun x y b H H' e d => by
  obtain ⟨p, q, xs, ys, hx, hy, h1, h2, hs, r⟩ := d
  exact ⟨p, q, xs, ys, hx, hy, SqT.nd h1 e, SqT.nd h2 e, hs, Row.mon hD e r⟩
theorem rcB_tu (hD : MonN D) (h : EqB X n D) : RcB X (n + 1) (DTu X.K D) := by
  intro A pins s σ H x y b u v sb I rx ry d
  obtain ⟨p, q, xs, ys, rfl, rfl, hp, hq, _, r⟩ := d
  cases (show u = Value.ref p from rx)
  cases (show v = Value.ref q from ry)
  obtain ⟨us, ru, ⟨⟨cls, dd, data, sl⟩, ho, hc, k, hd⟩, _⟩ := I.tuple hp
  obtain ⟨vs, rv, ⟨⟨cls2, dd2, data2, sl2⟩, ho2, hc2, k2, hd2⟩, _⟩ := I.tuple hq
  simp only at hc hd hc2 hd2
  subst hc hd hc2 hd2
  refine PySem.wpAny_richCompare_same_room (op := .Eq) ⟨_, ho, rfl⟩ ⟨_, ho2, rfl⟩ PySem.F.slot_tuple_eq
    (GQ.call_here PySem.F.slot_tuple_eq ⟨_, ho, rfl⟩ PySem.F.entry_tuple_eq (PySem.F.args_tuple_eq_2 _ _) ?_) sb.room.units0
  let Fin : Bool → Shared → Prop := fun c s' => c = b ∧ ∃ H', Inv X pins σ H' s' ∧ Ext H H'
  have key : ∀ c s', Fin c s' → wants (fun v s' => v ≠ .notImplemented ∧ (v = .bool b ∧ ∃ H', Inv X pins σ H' s' ∧ Ext H H')) X.xe (.ok (.ret (.bool c))) s' := fun c s' z => by
    obtain ⟨rfl, z⟩ := z
    exact ⟨(fun x => nomatch x), rfl, z⟩
  refine tup_loop p q _ _ k k2 dd dd2 sl sl2 (fun us' vs' s' => ∃ xs' ys' H', Vals xs' us' ∧ Vals ys' vs' ∧ Inv X pins σ H' s' ∧ Ext H H' ∧ Row D xs' ys' b H') ?_ ?_ ?_ ?_ ho ho2 ⟨xs, ys, H, by simpa using ru, by simpa using rv, I, Ext.rfl', r⟩
  · rintro u us' v vs' s' ⟨xs', ys', H', t1, t2, I', e, r⟩
    cases t1 with
    | cons r1 t1 =>
    cases t2 with
    | cons r2 t2 =>
    obtain ⟨c, d', h1, h2, h3⟩ := r
    refine wpAny_mono (h A.in1 pins s' σ H' _ _ c u v sb.in1 I' r1 r2 h1) (fun r s2 z => ?_) fun _ _ z => z
    obtain ⟨rfl, H2, I2, e2⟩ := z
    cases r with
    | true =>
      rw [if_pos rfl]
      rw [Bool.true_and] at h3
      subst h3
      exact ⟨_, _, H2, t1, t2, I2, e.trans e2, Row.mon hD (Nd.of e2) h2⟩
    | false =>
      rw [if_neg Bool.false_ne_true]
      rw [Bool.false_and] at h3
      exact key _ _ ⟨h3.symm, H2, I2, e.trans e2⟩
  · rintro s' ⟨xs', ys', H', t1, t2, I', e, r⟩
    cases t1
    cases t2
    exact key _ _ ⟨(show b = true from r).symm, H', I', e⟩
  · rintro u us' s' ⟨xs', ys', H', t1, t2, I', e, r⟩
    cases t1
    cases t2
    exact key _ _ ⟨(show b = false from r).symm, H', I', e⟩
  · rintro u us' s' ⟨xs', ys', H', t1, t2, I', e, r⟩
    cases t1
    cases t2
    exact key _ _ ⟨(show b = false from r).symm, H', I', e⟩
theorem eqB_tu (hD : MonN D) (h : EqB X n D) : EqB X (n + 1) (DTu X.K D) := (rcB_tu hD h).eqB fun x y b H d => by
  obtain ⟨p, q, _, _, h1, h2, _, _, h3, _⟩ := d
  exact ⟨p, q, h1, h2, h3⟩
/-- x == y as an operator -/
def rEqB (D : Eqb) : R2 := fun x y H Q => ∃ b, D x y b H ∧ ∀ H', Ext H H' → Q (.bl b) H'
theorem op_eqB (h : RcB X n D) (hr : Room n X.A) : OpR X (compareOp .Eq) (rEqB D) := by
  intro pins s σ H x y v u Q I rx ry hq
  obtain ⟨b, d, q⟩ := hq
  show wpAny (model X.prog X.w) X.A (richCompare .Eq v u) _ _ s
  refine wpAny_mono (h X.A pins s σ H x y b v u ⟨hr, rfl⟩ I rx ry d) (fun r s' z => ?_) fun _ _ z => z
  obtain ⟨rfl, H', I', e⟩ := z
  exact ⟨.bl b, H', I', rfl, q H' e⟩
end
end Ws

set_option Elab.async false
set_option linter.all false
set_option maxRecDepth 100000
set_option maxHeartbeats 4000000
namespace Ws
open PySem PySem.Spec PyProof.Rows L2
/-- what == of two dicts finds: the first one's pairs from the left -/
def Hits (D : Eqb) (kb : List (Key × V)) : List (Key × V) → Bool → Hp → Prop
  | [], b, _ => b = true
  | (k, v) :: r, b, H => (valV kb k = none ∧ b = false) ∨ ∃ y c d, valV kb k = some y ∧ D v y c H ∧ Hits D kb r d H ∧ b = (c && d)
theorem Hits.mon {D : Eqb} (hD : MonN D) {kb : List (Key × V)} {H H' : Hp} (e : Nd H H') : ∀ {ka : List (Key × V)} {b : Bool}, Hits D kb ka b H → Hits D kb ka b H'
  | [], _, h => h
  | (k, v) :: r, b, .inl h => .inl h
  | (k, v) :: r, b, .inr ⟨y, c, d, h1, h2, h3, h4⟩ => .inr ⟨y, c, d, h1, hD _ _ _ _ _ e h2, Hits.mon hD e h3, h4⟩
/-- a dict's pairs, looked up, as the layer and as the library see them -/
theorem kv_at : ∀ {kvs : List (Key × V)} {vs : List (Key × Value)}, KV kvs vs → ∀ k, (valV kvs k = none ∧ valueAt vs k = none) ∨ ∃ v u, valV kvs k = some v ∧ valueAt vs k = some u ∧ RelV v u
  | _, _, .nil, k => .inl ⟨rfl, rfl⟩
  | (k1, v1) :: r, (k2, u2) :: t, .cons ⟨e, q⟩ rest, k => by
    have e' : k1 = k2 := e
    subst e'
    by_cases hk : k1 = k
    · subst hk
      refine .inr ⟨v1, u2, ?_, ?_, q⟩
      · simp [valV]
      · simp [valueAt]
    · have ih := kv_at rest k
      have a1 : valV ((k1, v1) :: r) k = valV r k := by simp [valV, hk]
      have a2 : valueAt ((k1, u2) :: t) k = valueAt t k := by simp [valueAt, hk]
      rw [a1, a2]
      exact ih
section
variable {prog : Program} {w : World} {K : Type} [DecidableEq K] {knd : KeyKind prog w K} {A : Around} {E : Value → Shared → Prop} {s : Shared}
/-- the pairs of a dict that stands as it stood, compared one by one; J: what stands all the while -/
inductive HitsJ (prog : Program) (w : World) (A : Around) (E : Value → Shared → Prop) (kb : List (K × Value)) (Rf : Shared → Prop) : (Shared → Prop) → List (K × Value) → Prop
  | nil {J : Shared → Prop} : HitsJ prog w A E kb Rf J []
  | miss {J : Shared → Prop} {k : K} {v : Value} {r : List (K × Value)} : valueAt kb k = none → (∀ s, J s → Rf s) → HitsJ prog w A E kb Rf J ((k, v) :: r)
  | hit {J J' : Shared → Prop} {k : K} {v y : Value} {r : List (K × Value)} : valueAt kb k = some y →
      (∀ s, J s → wpAny (model prog w) A (eqBool v y) (fun c s' => if c = true then J' s' else Rf s') E s) → HitsJ prog w A E kb Rf J' r → HitsJ prog w A E kb Rf J ((k, v) :: r)
end
section
variable {X : Cx} {n : Nat} {D : Eqb}
/-- two dicts, their pairs' values by D -/
def DDi (D : Eqb) : Eqb := fun x y b H => ∃ p q ka kb, x = .ref p ∧ y = .ref q ∧ H p = some (.dK ka) ∧ H q = some (.dK kb) ∧
  ((ka.length ≠ kb.length ∧ b = false) ∨ (ka.length = kb.length ∧ Hits D kb ka b H))
/-- what is kept while two dicts are compared: both are locked -/
def Lk (X : Cx) (pins : List (Addr × Obj)) (σ : L2.St) (Hf : Hp) (s : Shared) : Prop := ∃ H', Inv X pins σ H' s ∧ Ext Hf H'
theorem same_pairs {nm : String} {A : Around} {pins : List (Addr × Obj)} {σ : L2.St} {Hf : Hp} {p q : Addr} {oa ob : Obj} {ka kb : List (Key × V)} {b : Bool} (hD : MonN D) (h : EqB X n D) (sb : Sub X n A)
    (fa : Hf p = some (.frz oa (.dK ka))) (fb : Hf q = some (.frz ob (.dK kb))) (hits : (ka.length ≠ kb.length ∧ b = false) ∨ (ka.length = kb.length ∧ Hits D kb ka b Hf)) {s : Shared} (l : Lk X pins σ Hf s)
    {Q : Bool → Shared → Prop} (k : ∀ s', Lk X pins σ Hf s' → Q b s') : wpAny (model X.prog X.w) A (Builtin.Dict.samePairs nm p q) Q X.xe s := by
  have at_ : ∀ s', Lk X pins σ Hf s' → s'.heap.get? p = some oa ∧ s'.heap.get? q = some ob := fun s' ⟨H', I', e⟩ =>
    ⟨(show ObjOk X.prog X.w H' s'.heap p (.frz oa (.dK ka)) from I'.hok p _ (e _ _ fa)).1, (show ObjOk X.prog X.w H' s'.heap q (.frz ob (.dK kb)) from I'.hok q _ (e _ _ fb)).1⟩
  obtain ⟨H0, I0, e0⟩ := id l
  obtain ⟨ga, _, sa, va, ra, oa', es, ep, ha1, hac, had, hka, hpa, hna⟩ := (show ObjOk X.prog X.w H0 s.heap p (.frz oa (.dK ka)) from I0.hok p _ (e0 _ _ fa))
  obtain ⟨gb, _, sb', vb, rb, ob', es', ep', hb1, hbc, hbd, hkb, hpb, hnb⟩ := (show ObjOk X.prog X.w H0 s.heap q (.frz ob (.dK kb)) from I0.hok q _ (e0 _ _ fb))
  cases ga.symm.trans ha1
  cases gb.symm.trans hb1
  have la : va.length = es.size := by rw [← hpa.length]; exact Array.length_toList
  have lb : vb.length = es'.size := by rw [← hpb.length]; exact Array.length_toList
  have la' : ka.length = va.length := Paired.length ra
  have lb' : kb.length = vb.length := Paired.length rb
  have look : ∀ k, findBy (mixKind X.prog X.w).is es' k = valueAt vb k := fun k => by
    rw [← hpb.find k]
    obtain ⟨t⟩ := es'
    simp [findBy]
  unfold Builtin.Dict.samePairs Builtin.Dict.showsAll
  rw [if_neg (by rw [sa]; exact Bool.false_ne_true), if_neg (by rw [sb']; exact Bool.false_ne_true)]
  refine wpAny_bind (wpAny_pure (wpAny_bind (wpAny_pure (wpAny_bind (wpAny_dictEntries ga had ?_)))))
  dsimp only
  refine wpAny_bind (wpAny_dictEntries gb hbd ?_)
  rcases hits with ⟨ne, rfl⟩ | ⟨eq, hits⟩
  · rw [if_pos (by simp; omega)]
    exact wpAny_bind (wpAny_rule (wpAny_pure (k s l)))
  have hsz : es.size = es'.size := by omega
  rw [if_neg (by rw [hsz]; simp)]
  refine wpAny_bind (wpAny_dictEpoch ga had (wpAny_bind ?_))
  rw [Std.Legacy.Range.forIn_eq_forIn_range']
  simp only [Std.Legacy.Range.size, Nat.sub_zero, Nat.add_sub_cancel, Nat.div_one]
  refine wpAny_forIn_list _ (fun rest r s' => r = (none, ()) ∧ Lk X pins σ Hf s' ∧ ∃ i, rest = List.range' i (es.size - i) ∧ i ≤ es.size ∧ Hits D kb (ka.drop i) b Hf) _ ?_ ?_ _ _ ⟨rfl, l, 0, by simp, Nat.zero_le _, hits⟩
  · rintro x rest r s' ⟨rfl, l', i, hr, hi, hh⟩
    obtain ⟨ga', gb'⟩ := at_ s' l'
    have hlt : i < es.size := by
      by_cases z : i < es.size
      · exact z
      · rw [Nat.sub_eq_zero_of_le (Nat.le_of_not_lt z)] at hr
        simp at hr
    have e : es.size - i = (es.size - (i + 1)) + 1 := by omega
    rw [e, List.range'_succ] at hr
    injection hr with h1 h2
    subst h1
    refine wpAny_bind (wpAny_dictEntries ga' had ?_)
    rw [Array.getElem?_eq_getElem hlt]
    have hlv : x < va.length := by omega
    have hlk : x < ka.length := by omega
    obtain ⟨ky, uy, hy⟩ : ∃ ky uy, va[x]? = some (ky, uy) := ⟨va[x].1, va[x].2, List.getElem?_eq_getElem hlv⟩
    obtain ⟨hkey, hval⟩ := hpa.get? (i := x) (e := es[x]) (k := ky) (v := uy) (by rw [Array.getElem?_toList]; exact Array.getElem?_eq_getElem hlt) hy
    obtain ⟨k', hk', hh'⟩ := hka es[x] (Array.getElem_mem hlt)
    cases (mixKind X.prog X.w).inj _ _ _ hk' hkey
    obtain ⟨kx, vx, hx, ekk, rvv⟩ : ∃ kx vx, ka[x]? = some (kx, vx) ∧ kx = ky ∧ RelV vx uy := by
      have z : ∀ {l1 : List (Key × V)} {l2 : List (Key × Value)}, KV l1 l2 → ∀ (i : Nat) (a : Key × Value), l2[i]? = some a → ∃ kx vx, l1[i]? = some (kx, vx) ∧ kx = a.1 ∧ RelV vx a.2 := by
        intro l1 l2 hh
        induction hh with
        | nil => intro i a e; simp at e
        | @cons a1 b1 _ _ r t ih =>
          intro i a e
          cases i with
          | zero => simp at e; subst e; exact ⟨a1.1, a1.2, rfl, r.1, r.2⟩
          | succ i => exact ih i a (by simpa using e)
      exact z ra x _ hy
    subst ekk
    have dr : ka.drop x = (kx, vx) :: ka.drop (x + 1) := by
      rw [List.drop_eq_getElem_cons hlk]
      rw [List.getElem?_eq_getElem hlk] at hx
      rw [Option.some.inj hx]
    rw [dr] at hh
    show wpAny _ _ (holding [es[x].key, es[x].val] _ >>= _) _ _ _
    rw [hh']
    refine wpAny_bind (wpAny_holding (wpAny_bind (wpAny_dictFind_of hkey gb' hbd hkb ?_)))
    have lk := kv_at rb kx
    cases hj : es'.findIdx? fun e => (mixKind X.prog X.w).is kx e.key with
    | none =>
      have hn : valueAt vb kx = none := by rw [← look, findBy_of_findIdx?, hj]
      have hb0 : b = false := by
        rcases lk with ⟨z, _⟩ | ⟨_, _, _, z, _⟩
        · rcases hh with ⟨_, z2⟩ | ⟨y, _, _, z2, _⟩
          · exact z2
          · rw [z] at z2
            cases z2
        · rw [hn] at z
          cases z
      subst hb0
      refine wpAny_pure ?_
      show wpAny _ _ (if (!false) = true then _ else _) _ _ _
      rw [if_pos (by decide)]
      exact wpAny_pure (wpAny_pure (k s' l'))
    | some j =>
      obtain ⟨jl, _, _⟩ := Array.findIdx?_eq_some_iff_getElem.mp hj
      have hv' : valueAt vb kx = some es'[j].val := by
        rw [← look, findBy_of_findIdx?, hj]
        simp [Array.getElem?_eq_getElem jl]
      refine wpAny_bind (wpAny_dictEntries gb' hbd ?_)
      rw [Array.getElem?_eq_getElem jl]
      rcases lk with ⟨_, z⟩ | ⟨y0, u0, z1, z2, z3⟩
      · rw [hv'] at z
        cases z
      rw [hv'] at z2
      cases z2
      rcases hh with ⟨z2, _⟩ | ⟨y, c, d, z2, hd, hrest, hbe⟩
      · rw [z1] at z2
        cases z2
      rw [z1] at z2
      cases z2
      obtain ⟨H', I', e'⟩ := l'
      rw [hval]
      refine wpAny_holding (wpAny_mono (h A pins s' σ H' _ _ c _ _ sb I' rvv z3 (hD _ _ _ _ _ (Nd.of e') hd)) (fun r' s2 z => ?_) fun _ _ z => z)
      obtain ⟨rfl, H2, I2, e2⟩ := z
      have l2 : Lk X pins σ Hf s2 := ⟨H2, I2, e'.trans e2⟩
      cases r' with
      | false =>
        rw [Bool.false_and] at hbe
        subst hbe
        show wpAny _ _ (if (!false) = true then _ else _) _ _ _
        rw [if_pos (by decide)]
        exact wpAny_pure (wpAny_pure (k s2 l2))
      | true =>
        rw [Bool.true_and] at hbe
        subst hbe
        show wpAny _ _ (if (!true) = true then _ else _) _ _ _
        rw [if_neg (by decide)]
        refine wpAny_bind (wpAny_dictEpoch (at_ s2 l2).1 had ?_)
        rw [if_neg (by simp)]
        exact wpAny_pure ⟨rfl, l2, x + 1, h2, hlt, hrest⟩
  · rintro r s' ⟨rfl, l', i, hr, hi, hh⟩
    have hin : i = es.size := by
      by_cases z : i < es.size
      · have e : es.size - i = (es.size - (i + 1)) + 1 := by omega
        rw [e, List.range'_succ] at hr
        exact nomatch hr
      · omega
    rw [hin, ← la, ← la', List.drop_length] at hh
    cases (show b = true from hh)
    exact wpAny_pure (k s' l')
theorem rcB_di (hD : MonN D) (h : EqB X n D) : RcB X (n + 1) (DDi D) := by
  intro A pins s σ H x y b u v sb I rx ry d
  obtain ⟨p, q, ka, kb, rfl, rfl, hp, hq, hits⟩ := d
  cases (show u = Value.ref p from rx)
  cases (show v = Value.ref q from ry)
  have ta : s.heap.DictOf (mixKind X.prog X.w) p _ := (show ObjOk X.prog X.w H s.heap p (.dK ka) from I.hok p _ hp).2.2.choose_spec.2
  have tb : s.heap.DictOf (mixKind X.prog X.w) q _ := (show ObjOk X.prog X.w H s.heap q (.dK kb) from I.hok q _ hq).2.2.choose_spec.2
  -- both locked
  obtain ⟨oa, I1⟩ := I.lock hp True.intro
  have core : ∀ (Hf : Hp) (ob : Obj), Inv X pins σ Hf s → Hf p = some (.frz oa (.dK ka)) → Hf q = some (.frz ob (.dK kb)) → Nd H Hf →
      (∀ s' H', Inv X pins σ H' s' → Ext Hf H' → ∃ H2, Inv X pins σ H2 s' ∧ Ext H H2) →
      wpAny (model X.prog X.w) A (richCompare .Eq (.ref p) (.ref q)) (fun r s' => r = .bool b ∧ ∃ H', Inv X pins σ H' s' ∧ Ext H H') X.xe s := by
    intro Hf ob If fa fb nd back
    refine PySem.wpAny_richCompare_same_room (op := .Eq) ta.typeIs tb.typeIs PySem.F.slot_dict_eq (PySem.wpAny_call_entry PySem.F.slot_dict_eq ta.typeIs PySem.F.entry_dict_eq ?_ (PySem.F.args_dict_eq_2 _ _)) sb.room.units0
    show wpAny _ _ (Builtin.Dict.dictSlotArgs "__eq__" ⟨[.ref p, .ref q], []⟩ >>= _) _ _ s
    unfold Builtin.Dict.dictSlotArgs
    refine wpAny_bind (wpAny_bind (PySem.wpAny_notOrdered_dict ta.typeIs ?_))
    show wpAny _ _ (pure (Value.ref p, Value.ref q)) _ _ s
    refine wpAny_pure (wpAny_bind (wpAny_isInstance (T := "dict") tb.typeIs PySem.F.sub_dict_dict ?_))
    simp only [Bool.not_true, Bool.false_eq_true, if_false]
    refine wpAny_bind (wpAny_pure (wpAny_bind (wpAny_pure (wpAny_bind ?_))))
    refine same_pairs hD h sb.in1 fa fb (hits.imp id fun z => ⟨z.1, Hits.mon hD nd z.2⟩) ⟨Hf, If, Ext.rfl'⟩ fun s' l => ?_
    obtain ⟨H', I', e⟩ := l
    refine wpAny_pure ⟨_, rfl, (fun x => nomatch x), ?_⟩
    obtain ⟨H2, I2, e2⟩ := back s' H' I' e
    exact ⟨by simp, H2, I2, e2⟩
  have npn : ∀ {c : Addr} {u : HO}, H c = some u → c ≠ p → (upd H p (.frz oa (.dK ka))) c = some u := fun {c u} e hc => by rw [upd_ne hc]; exact e
  by_cases hpq : p = q
  · subst hpq
    cases hp.symm.trans hq
    refine core _ oa I1 upd_same upd_same (Nd.lock hp) fun s' H' I' e => ?_
    refine ⟨_, I'.unlock (e _ _ upd_same) (I.nofrz hp True.intro), fun c u z => ?_⟩
    by_cases hc : c = p
    · subst hc
      rw [upd_same, ← z, hp]
    · rw [upd_ne hc]
      exact e _ _ (npn z hc)
  · have hq1 : (upd H p (.frz oa (.dK ka))) q = some (.dK kb) := by rw [upd_ne (Ne.symm hpq)]; exact hq
    obtain ⟨ob, I2⟩ := I1.lock hq1 True.intro
    refine core _ ob I2 (by rw [upd_ne hpq, upd_same]) upd_same ((Nd.lock hp).trans (Nd.lock hq1)) fun s' H' I' e => ?_
    have I3 := I'.unlock (e _ _ upd_same) (I.nofrz hq True.intro)
    have e3 : (upd H' q (.dK kb)) p = some (.frz oa (.dK ka)) := by
      rw [upd_ne hpq]
      exact e _ _ (by rw [upd_ne hpq, upd_same])
    refine ⟨_, I3.unlock e3 (I.nofrz hp True.intro), fun c u z => ?_⟩
    by_cases hc : c = p
    · subst hc
      rw [upd_same, ← z, hp]
    · rw [upd_ne hc]
      by_cases hd : c = q
      · subst hd
        rw [upd_same, ← z, hq]
      · rw [upd_ne hd]
        exact e _ _ (by rw [upd_ne hd]; exact npn z hc)
end
end Ws

set_option Elab.async false
set_option linter.all false
set_option maxRecDepth 100000
set_option maxHeartbeats 4000000
namespace Ws
open PySem PySem.Spec PyProof.Rows L2
section
variable {prog : Program} {w : World} {K : Type} [DecidableEq K] {knd : KeyKind prog w K} {A : Around} {E : Value → Shared → Prop} {s : Shared}
theorem put_pairs {d : Addr} {kvs : List (K × Value)} {k : K} {key v : Value} {Q : Unit → Shared → Prop} (hkey : knd.is k key = true) (hm : s.heap.DictOf knd d kvs) (hsz : kvs.length ≤ sizeLine)
    (hQ : ∀ h', h'.DictOf knd d (stored kvs k v) → Heap.SameBut d s.heap h' → Q () { s with heap := h' }) : wpAny (model prog w) A (dictPut d (knd.hash k) key v) Q E s := by
  obtain ⟨ob, es, ep, ho, hc, hd, hk, hp, hn⟩ := hm
  have len : es.size = kvs.length := by rw [← hp.length]; simp
  have hes : es.size ≤ sizeLine := by omega
  have ix : (es.findIdx? fun e => knd.is k e.key) = kvs.findIdx? fun kv => decide (kv.1 = k) := by
    rw [← hp.findIdx k]
    obtain ⟨t⟩ := es
    simp
  unfold dictPut
  refine wpAny_bind (wpAny_dictFind_of hkey ho hd hk ?_)
  cases hi : es.findIdx? fun e => knd.is k e.key with
  | some i =>
    have an : (kvs.any fun kv => decide (kv.1 = k)) = true := any_of_findIdx_some (ix ▸ hi)
    refine wpAny_updateDict ho hd (hQ _ ⟨_, _, ep, Heap.get?_update_self _ ho (Obj.isFreed_of_dict (Obj.data_mapDict hd _)), hc.mapDict _, Obj.data_mapDict hd _, hk.modify _ _, ?_, ?_⟩ (Heap.SameBut.update ..))
    · rw [stored, if_pos an]
      have hl : (es.toList.findIdx? fun e => knd.is k e.key) = some i := by rw [← hi]; obtain ⟨t⟩ := es; simp
      have z := hp.modify hn hl v
      obtain ⟨t⟩ := es
      simpa using z
    · rw [stored, if_pos an, keys_map_store]
      exact hn
  | none =>
    have nm : k ∉ kvs.map (·.1) := not_mem_of_findIdx_none (ix ▸ hi)
    have an : ¬ (kvs.any fun kv => decide (kv.1 = k)) = true := fun z => by
      obtain ⟨kv, h1, h2⟩ := List.any_eq_true.mp z
      exact nm (List.mem_map.mpr ⟨kv, h1, of_decide_eq_true h2⟩)
    refine wpAny_updateDictKeys (hz := hes) ho hd (hQ _ ⟨_, _, ep + 1, Heap.get?_update_self _ ho (Obj.isFreed_of_dict (Obj.data_mapDictKeys hd _)), hc.mapDictKeys _, Obj.data_mapDictKeys hd _, hk.push hkey _, ?_, ?_⟩ (Heap.SameBut.update ..))
    · rw [stored, if_neg an]
      have z := hp.append hkey (knd.hash k) v
      obtain ⟨t⟩ := es
      simpa using z
    · rw [stored, if_neg an, List.map_append, List.nodup_append]
      refine ⟨hn, by simp, fun a ha b hb e => ?_⟩
      simp only [List.map_cons, List.map_nil, List.mem_singleton] at hb
      subst hb
      exact nm (e ▸ ha)
/-- all pairs of a dict into another one -/
theorem merge_into {d o : Addr} {kvs more : List (K × Value)} {Q : Unit → Shared → Prop} (hdo : d ≠ o) (hoS : (o == sysModules) = false) (noref : ∀ k v, knd.is k v = true → ∀ a, v ≠ .ref a)
    (hd : s.heap.DictOf knd d kvs) (ho : s.heap.DictOf knd o more) (hsz : kvs.length + more.length ≤ sizeLine)
    (hQ : ∀ h', h'.DictOf knd d (merged kvs more) → Heap.SameBut d s.heap h' → Q () { s with heap := h' }) : wpAny (model prog w) A (mergeMapping d (.ref o) false) Q E s := by
  obtain ⟨od, esd, epd, hod, hcd, hdd, hkd, hpd, hnd⟩ := id hd
  obtain ⟨oo, eso, epo, hoo, hco, hdo', hko, hpo, hno⟩ := id ho
  have len : eso.size = more.length := by rw [← hpo.length]; simp
  unfold mergeMapping
  refine wpAny_bind (wpAny_isInstance (T := "dict") ho.typeIs PySem.F.sub_dict_dict ?_)
  rw [if_pos rfl]
  refine wpAny_bind (wpAny_specialOf ho.typeIs F.slot_dict_iter.lookup ?_)
  have et : ((some (Value.builtin "dict.__iter__") == some (Value.builtin "dict.__iter__")) : Bool) = true := by decide +kernel
  rw [et]
  refine wpAny_bind (wpAny_pure ?_)
  dsimp only
  rw [if_neg (by rw [hoS]; exact Bool.false_ne_true)]
  refine wpAny_bind (wpAny_dictEntries hod hdd ?_)
  split
  refine wpAny_bind (wpAny_dictEntries hoo hdo' ?_)
  refine wpAny_bind (wpAny_mono (Q := fun _ s' => s' = s) ?_ (fun _ s' z => ?_) fun _ _ z => z)
  · rw [← Array.forIn_toList]
    refine wpAny_forIn_list _ (fun r _ s' => s' = s ∧ ∀ e ∈ r, e ∈ eso.toList) _ ?_ (fun _ s' z => z.1) _ _ ⟨rfl, fun _ z => z⟩
    rintro x r u s' ⟨rfl, hm⟩
    obtain ⟨k, hk, _⟩ := hko x (Array.mem_toList_iff.mp (hm x List.mem_cons_self))
    have nr := noref k _ hk
    have step : wpAny (model prog w) A (pure (ForInStep.yield PUnit.unit) : Sem (ForInStep PUnit)) (fun r' s'' => match r' with
      | .yield b' => s'' = s' ∧ ∀ e ∈ r, e ∈ eso.toList
      | .done b' => s'' = s') E s' := wpAny_pure ⟨rfl, fun e he => hm e (List.mem_cons_of_mem _ he)⟩
    obtain ⟨xh, xk, xv⟩ := x
    cases xk <;> first | exact step | exact absurd rfl (nr _)
  rw [z]
  all_goals
    refine wpAny_bind (wpAny_dictEntries hoo hdo' ?_)
    refine wpAny_bind (wpAny_dictEpoch hoo hdo' ?_)
    refine wpAny_bind ?_
    refine wpAny_forIn_list _ (fun r _ s' => ∃ h' i, s' = { s with heap := h' } ∧ r = List.range' i (eso.size - i) ∧ i ≤ eso.size ∧ h'.DictOf knd d (merged kvs (more.take i)) ∧ h'.get? o = some oo ∧ Heap.SameBut d s.heap h') _ ?_ ?_ _ _
      ⟨s.heap, 0, rfl, by rw [List.range_eq_range']; simp, Nat.zero_le _, by simpa [merged] using hd, hoo, Heap.SameBut.refl _ _⟩
    · rintro x r u s' ⟨h', i, rfl, hr, hi, hd', hoo', sb⟩
      have hlt : i < eso.size := by
        by_cases z : i < eso.size
        · exact z
        · rw [Nat.sub_eq_zero_of_le (Nat.le_of_not_lt z)] at hr
          simp at hr
      have e : eso.size - i = (eso.size - (i + 1)) + 1 := by omega
      rw [e, List.range'_succ] at hr
      injection hr with h1 h2
      subst h1
      refine wpAny_bind (wpAny_dictEntries hoo' hdo' ?_)
      rw [Array.getElem?_eq_getElem hlt]
      obtain ⟨k, v, hkv⟩ : ∃ k v, more[x]? = some (k, v) := ⟨_, _, List.getElem?_eq_getElem (by omega)⟩
      obtain ⟨hkey, hval⟩ := hpo.get? (e := eso[x]) (by simp [hlt]) hkv
      obtain ⟨k', hkey', hh⟩ := hko eso[x] (Array.getElem_mem hlt)
      cases knd.inj _ _ _ hkey' hkey
      show wpAny _ _ (holding [eso[x].key, eso[x].val] (dictPut d eso[x].hash eso[x].key eso[x].val) >>= _) _ _ _
      rw [hh, hval]
      have lm : (merged kvs (more.take x)).length ≤ sizeLine := by
        have e1 := merged_length_le kvs (more.take x)
        have e2 : (more.take x).length ≤ more.length := by rw [List.length_take]; omega
        omega
      refine wpAny_bind (wpAny_holding (put_pairs hkey hd' lm fun h'' hd'' sb'' => ?_))
      have hoo'' : h''.get? o = some oo := (sb''.2 o (Ne.symm hdo)).trans hoo'
      refine wpAny_bind (wpAny_dictEpoch hoo'' hdo' ?_)
      rw [if_neg (by simp)]
      exact wpAny_pure ⟨h'', x + 1, rfl, h2, hlt, by rw [merged_take_succ kvs more x (k, v) hkv]; exact hd'', hoo'', sb.trans sb''⟩
    · rintro u s' ⟨h', i, rfl, hr, hi, hd', hoo', sb⟩
      have hin : i = eso.size := by
        by_cases z : i < eso.size
        · have e : eso.size - i = (eso.size - (i + 1)) + 1 := by omega
          rw [e, List.range'_succ] at hr
          exact nomatch hr
        · omega
      rw [hin, len, List.take_length] at hd'
      exact wpAny_pure (hQ h' hd' sb)
end
theorem mix_noref {P : Program} {w : World} (k : Key) (v : Value) (h : (mixKind P w).is k v = true) (a : Addr) : v ≠ .ref a := by
  rcases keyIs_shape (k := k) (v := v) h with ⟨i, t, _, rfl⟩ | ⟨x, t, _, rfl⟩
  · exact fun z => nomatch z
  · exact fun z => nomatch z
/-- {**d, k: v}: a new dict p with all pairs of d, then the one that is written -/
def tStarD (td tk tv : TE) : TE := fun σ H Q => ∀ p, H p = none → td σ (upd H p (.dK [])) fun x H1 => ∃ a kvs, x = .ref a ∧ a ≠ p ∧ H1 p = some (.dK []) ∧ H1 a = some (.dK kvs) ∧ kvs.length ≤ 1000 ∧
  ∀ q, H1 q = none → tk σ (upd (upd H1 p (.dK (mergeK [] kvs))) q (.dK [])) fun y H2 => tv σ H2 fun z H3 => ∃ k, y = kV k ∧ H3 q = some (.dK []) ∧ H3 p = some (.dK (mergeK [] kvs)) ∧
    Q (.ref p) (upd (upd H3 q (.dK [(k, z)])) p (.dK (putK (mergeK [] kvs) k z)))
section
variable {X : Cx} {d k v : PySem.Expr} {td tk tv : TE} {pos : Pos}
/-- a dict written by the library's rules -/
theorem dict_to {pins : List (Addr × Obj)} {σ : L2.St} {H : Hp} {s : Shared} {a : Addr} {h' : Heap} {t' : Nat} {kvs kvs' : List (Key × V)} {vs : List (Key × Value)} (I : Inv X pins σ H s) (ha : H a = some (.dK kvs))
    (hs : Heap.SameBut a s.heap h') (rel : KV kvs' vs) (len : kvs'.length ≤ sizeLine) (dd : h'.DictOf (mixKind X.prog X.w) a vs) : Inv X pins σ (upd H a (.dK kvs')) { s with heap := h', toks := t' } := by
  obtain ⟨_, hd, _⟩ := dk_of I.hok ha
  refine d_write I (by rw [ha]; exact True.intro) hs ?_ (dk_new len hd rel dd)
  obtain ⟨q, _, _, hq, _⟩ := dd
  exact ⟨q, hq⟩
theorem pe_dstar (hd : PE X d td) (hk : PE X k tk) (hv : PE X v tv) : PE X (.Dict [none, some k] [d, v] pos) (tStarD td tk tv) := by
  constructor
  intro pins s σ H Q I h
  rw [arm_eval_Dict]
  refine wpAny_bind (wpAny_standAt ?_)
  have shape : (evalEachOpt [none, some k] X.env).zip ((evalEach [d, v] X.env).map fun v => do let x ← v; standAt pos; pure x) =
      [(none, do let x ← eval d X.env; standAt pos; pure x), (some (eval k X.env), do let x ← eval v X.env; standAt pos; pure x)] := rfl
  rw [shape]
  unfold dictDisplay
  dsimp only
  rw [List.forIn_cons]
  refine wpAny_bind (wpAny_bind ?_)
  dsimp only
  refine wpAny_bind ?_
  rw [if_pos (show (([] : List (Sem Value × Sem Value)).isEmpty = true) from rfl)]
  refine wpAny_pure ?_
  dsimp only
  refine wpAny_bind (wpAny_alloc ?_)
  have hn : H s.heap.objs.size = none := I.hok.fresh (Nat.le_refl _)
  have I1 := I.laid (a := s.heap.objs.size) (o := .dK []) (h' := s.heap.push { cls := .type "dict", data := .dict #[] }) (t' := s.toks) (fun _ _ q => Heap.get?_push_of_some _ q) (Nat.le_refl _) (dk_empty s.heap I.big)
  have h1 := h s.heap.objs.size hn
  generalize s.heap.objs.size = p at *
  refine wpAny_bind (wpAny_holding (wpAny_bind (thn (hd.run pins _ σ _ _ I1 h1) fun u s1 ⟨x, H1, I1, rx, a, kvs, ex, nap, hp, ha, len, q⟩ => ?_)))
  subst ex
  cases (show u = Value.ref a from rx)
  refine wpAny_bind (wpAny_standAt (wpAny_pure ?_))
  obtain ⟨z1, sy1, vs1, r1, d1⟩ := dk_of I1.hok hp
  cases r1
  obtain ⟨z2, sy2, vs2, r2, d2⟩ := dk_of I1.hok ha
  have l2 : vs2.length = kvs.length := (Paired.length r2).symm
  have lk : (mergeK [] kvs).length ≤ 1000 := by
    have := length_mergeK kvs []
    simp at this
    omega
  have sl : (1001 : Nat) ≤ sizeLine := by rw [sizeLine_eq]; decide
  refine wpAny_bind (wpAny_onRaise (wpAny_tryCatch (wpAny_onRaise (wpAny_holding (merge_into (Ne.symm nap) sy2 mix_noref d1 d2 (by simp; omega) fun h' d' sb => ?_)))))
  have I2 := dict_to (t' := s1.toks) I1 hp sb (KV.merge r2 .nil) (by omega) d'
  refine wpAny_pure ?_
  dsimp only
  rw [List.forIn_cons]
  refine wpAny_bind ?_
  dsimp only
  refine wpAny_ite_split (fun z => absurd z (by simp)) (fun _ => ?_)
  refine wpAny_pure ?_
  dsimp only
  rw [List.forIn_nil]
  refine wpAny_pure ?_
  dsimp only
  refine wpAny_bind (wpAny_ite_split (fun z => absurd z (by simp)) (fun _ => ?_))
  refine wpAny_bind (wpAny_holding ?_)
  have pairsOk : PPs X pos [some k] [v] [(tk, tv)] := pps_cons hk hv pps_nil
  generalize hs2 : ({ heap := h', gens := s1.gens, drawn := s1.drawn, toks := s1.toks, os := s1.os } : Shared) = s2 at *
  have hq : (upd H1 p (.dK (mergeK [] kvs))) s2.heap.objs.size = none := I2.hok.fresh (Nat.le_refl _)
  have np : s2.heap.objs.size ≠ p := fun z => by
    rw [z, upd_same] at hq
    cases hq
  have hq1 : H1 s2.heap.objs.size = none := by
    rw [upd_ne np] at hq
    exact hq
  have I3 := I2.laid (a := s2.heap.objs.size) (o := .dK []) (h' := s2.heap.push { cls := .type "dict", data := .dict #[] }) (t' := s2.toks) (fun _ _ q => Heap.get?_push_of_some _ q) (Nat.le_refl _) (dk_empty s2.heap I2.big)
  have q3 := q s2.heap.objs.size hq1
  have run := pairsOk.run pins _ σ _ (fun ps H' => match ps with
    | [(y, z)] => ∃ k, y = kV k ∧ H' s2.heap.objs.size = some (.dK []) ∧ H' p = some (.dK (mergeK [] kvs)) ∧
      Q (.ref p) (upd (upd H' s2.heap.objs.size (.dK [(k, z)])) p (.dK (putK (mergeK [] kvs) k z)))
    | _ => False) I3 q3
  refine wpAny_subDict (knd := mixKind X.prog X.w) (show (1 : Nat) ≤ 15 by decide) (wpAny_mono run (fun vs s3 z => ?_) fun _ _ z => z)
  obtain ⟨ps, H3, I3, rel, z⟩ := z
  match ps, rel, z with
  | [(y, z)], rel, ⟨kk, ey, eq, ep, hQ⟩ =>
    subst ey
    cases rel with
    | @cons _ b _ bs r rs =>
    cases rs
    obtain ⟨b1, b2⟩ := b
    obtain ⟨zq, syq, vsq, rq, dq⟩ := dk_of I3.hok eq
    cases rq
    refine ⟨[(kk, b2)], ⟨kV_is r.1, rfl, True.intro⟩, dq, fun h4 d4 sb4 => ?_⟩
    have rel1 : KV [(kk, z)] (merged [] [(kk, b2)]) := .cons ⟨rfl, r.2⟩ .nil
    have I4 := dict_to (t' := s3.toks + 1) I3 eq sb4 rel1 (by simp [sizeLine_eq]) d4
    have epq : (upd H3 s2.heap.objs.size (.dK [(kk, z)])) p = some (.dK (mergeK [] kvs)) := by
      rw [upd_ne (Ne.symm np)]
      exact ep
    obtain ⟨zp, syp, vsp, rp, dp⟩ := dk_of I4.hok epq
    have lp : vsp.length = (mergeK [] kvs).length := (Paired.length rp).symm
    refine wpAny_bind (wpAny_onRaise (wpAny_holding (merge_into (Ne.symm np) syq mix_noref dp d4 (show vsp.length + 1 ≤ sizeLine by omega) fun h5 d5 sb5 => ?_)))
    have rel5 : KV (putK (mergeK [] kvs) kk z) (merged vsp (merged [] [(kk, b2)])) := KV.merge rel1 rp
    have l5 : (putK (mergeK [] kvs) kk z).length ≤ sizeLine := by
      have := length_putK (mergeK [] kvs) kk z
      omega
    have I5 := dict_to (t' := s3.toks + 1) I4 epq sb5 rel5 l5 d5
    exact wpAny_pure (wpAny_pure ⟨.ref p, _, I5, rfl, hQ⟩)
end
end Ws

set_option Elab.async false
set_option linter.all false
set_option maxRecDepth 100000
set_option maxHeartbeats 4000000
namespace Ws
open PySem PySem.Spec PyProof.Rows L2
section
variable {prog : Program} {w : World} {A : Around} {E : Value → Shared → Prop} {s : Shared}
/-- a tuple's items, gathered -/
theorem gather_tup {l : Addr} {vs : List Value} {Q : List Value → Shared → Prop} (hl : IsTup s.heap l vs.toArray)
    (h : Q vs { s with heap := (s.heap.push (seqObj "list" #[] 0)).update s.heap.objs.size (Obj.mapSeq (· ++ vs.toArray)) }) (hsz : vs.length ≤ sizeLine) : wpAny (model prog w) A (collect (.ref l)) Q E s := by
  obtain ⟨o, ho, hc, n, hd⟩ := hl
  unfold collect
  refine wpAny_bind (wpAny_runValue (codeAny_builtin entry_proto_collect' ?_))
  change wpAny _ _ (do again (.builtin "list.__iadd__" ⟨[← newList [], .ref l], []⟩)) _ _ s
  refine wpAny_bind (wpAny_newList (wpAny_pure ⟨Code.quiet_builtin _ (by decide +kernel), codeAny_builtin entry_list_iadd' ?_⟩))
  change wpAny _ _ (Builtin.List.listExtendWith (.ref s.heap.objs.size) (.ref l) (.ref s.heap.objs.size)) _ _ { s with heap := s.heap.push (seqObj "list" #[] 0) }
  unfold Builtin.List.listExtendWith
  have hp : (s.heap.push (seqObj "list" #[] 0)).get? l = some o := Heap.get?_push_of_some _ ho
  refine wpAny_bind (wpAny_typeOf (T := "tuple") ⟨o, hp, hc⟩ ?_)
  have ht : (Value.type "tuple" == Value.type "tuple") = true := by rfl
  rw [if_pos (by rw [ht, Bool.or_true])]
  refine wpAny_bind (listItems_at hp hd (wpAny_bind (listItems_at (xs := #[]) (n := 0) (Heap.get?_push_size _ rfl) rfl ?_)))
  rw [if_neg (by simp)]
  refine wpAny_bind (listUpdate_at (xs := #[]) (n := 0) (Heap.get?_push_size _ rfl) rfl ?_ (Nat.zero_le _) (by simp only [Array.size_append, List.size_toArray, List.length_nil]; omega))
  refine wpAny_pure ?_
  change wpAny (model prog w) A (do
      let o ← load s.heap.objs.size
      match o.data with
      | .seq ys _ => pure ys.toList
      | _ => unsupported "internal:collect") Q E { s with heap := (s.heap.push (seqObj "list" #[] 0)).update s.heap.objs.size (Obj.mapSeq (· ++ vs.toArray)) }
  refine wpAny_bind (wpAny_load (get?_update_seq (Heap.get?_push_size _ rfl) _) ?_)
  change wpAny _ _ (pure ((#[] : Array Value) ++ vs.toArray).toList) Q E _
  rw [show ((#[] : Array Value) ++ vs.toArray).toList = vs by simp]
  exact wpAny_pure h
theorem sorted_tup {l : Addr} {vs : List Value} {ss : List Str} {Q : Value → Shared → Prop} (hl : IsTup s.heap l vs.toArray) (hS : StrsAre vs ss) (h64 : vs.length < 64)
    (h : ∀ (out : Array Value) (zs : List Str), StrsAre out.toList zs → zs.Perm ss → sortedS zs = true → Q (.ref (s.heap.objs.size + 1)) { s with heap := sortedAll s.heap vs out }) :
    wpAny (model prog w) A (call (.builtin "sorted") [.ref l]) Q E s := by
  refine Calls.call_function_entry kind_sorted plain_sorted entry_sorted (args_sorted1 _) ?_
  unfold Builtin.«sorted»
  refine wpAny_bind (m := checkCount "sorted" 1 1 _) (wpAny_pure ?_)
  refine wpAny_bind (gather_tup hl (wpAny_bind (wpAny_newList ?_ (by rw [sizeLine_eq]; omega))) (by rw [sizeLine_eq]; omega))
  have sz : ((s.heap.push (seqObj "list" #[] 0)).update s.heap.objs.size (Obj.mapSeq (· ++ vs.toArray))).objs.size = s.heap.objs.size + 1 := by rw [Heap.size_update, size_push']
  have at_ : (((s.heap.push (seqObj "list" #[] 0)).update s.heap.objs.size (Obj.mapSeq (· ++ vs.toArray))).push (seqObj "list" vs.toArray 0)).get? (s.heap.objs.size + 1) = some (seqObj "list" vs.toArray 0) := by
    rw [← sz]; exact Heap.get?_push_size _ rfl
  change wpAny _ _ _ _ _ { s with heap := ((s.heap.push (seqObj "list" #[] 0)).update s.heap.objs.size (Obj.mapSeq (· ++ vs.toArray))).push (seqObj "list" vs.toArray 0) }
  rw [sz]
  refine wpAny_bind (wpAny_holding (wpAny_call_entry slot_list_sort ⟨_, at_, rfl⟩ entry_list_sort (list_sort_treeK strKind_oneLt at_ hS.keysOf (fun v₁ v₂ rest e => keyKind_strs (by rw [← e]; exact hS)) h64 fun st' hp hs => ⟨_, rfl, ?_⟩) (args_list_sort _)))
  obtain ⟨zs, h1, h2, h3⟩ := sorted_out_str hS hp hs
  exact wpAny_pure ⟨_, rfl, h _ zs h1 h2 h3⟩
end
section
variable {X : Cx}
/-- sorted(xs), xs a list or a tuple of fewer than 64 texts -/
def rSortS (K : PySem.W.Frag) : List V → Hp → VK → Prop := fun vs H Q => ∃ (a : Addr) (xs : List Str), vs = [V.ref a] ∧ (SqL K H a (xs.map V.str) ∨ SqT K H a (xs.map V.str)) ∧ xs.length < 64 ∧
  ∀ (ys : List Str) (p : Addr), ys.Perm xs → sortedS ys = true → H p = none → Q (.ref p) (upd H p (.lst (ys.map V.str)))
theorem call_sortS : CallR X (.builtin "sorted") (rSortS X.K) := by
  intro pins s σ H vs us Q I r h
  obtain ⟨a, xs, rfl, hs, h64, q⟩ := h
  rcases hs with hs | hs
  · exact cr_sortedS pins s σ H [V.ref a] us Q I r ⟨a, xs, rfl, hs, h64, q⟩
  · obtain ⟨its, rv, hl, _⟩ := I.tuple hs
    rw [Vals.ref1 r]
    have n0 := rv.length
    rw [List.length_map] at n0
    refine sorted_tup hl rv.strs (by omega) fun out ys h1 h2 h3 => ?_
    obtain ⟨ep, he⟩ := sortedAll_at s.heap its out
    have n1 : (ys.map V.str).length ≤ sizeLine := by
      rw [List.length_map, h2.length_eq, sizeLine_eq]
      omega
    exact ⟨.ref _, upd H (s.heap.objs.size + 1) (.lst (ys.map V.str)), I.laid (t' := s.toks) (fun _ _ => sortedAll_old) (Nat.le_succ _) ⟨n1, out.toList, ep, vals_of_strs h1, he⟩, rfl, q ys _ h2 h3 (I.hok.fresh (Nat.le_succ _))⟩
/-! ### D.get(k, e), D a dict of the top with text keys -/
def tKGet2 (K : PySem.W.Frag) (w : World) (td ty tx : TE) : TE := fun σ H Q => td σ H fun x H1 => ∃ d es n, x = .ref d ∧ KDict K w d es n ∧
  ty σ H1 fun y H2 => tx σ H2 fun z H3 => ∃ k r v, y = .str k ∧ PySem.W.nsIn K d k = some r ∧ (match r with | some u => RelV v u | none => v = z) ∧ Q v H3
theorem pe_kget2 {o e f : PySem.Expr} {apos cpos : Pos} {td ty tx : TE} (ho : PE X o td) (he : PE X e ty) (hf : PE X f tx) (m : M2 X o "get" apos e f cpos) :
    PE X (.Call (.Attribute o "get" apos) [e, f] [] cpos) (tKGet2 X.K X.w td ty tx) := by
  constructor
  intro pins s σ H Q I h
  refine wpAny_Call_method m.base m.few m.line PySem.F.plainAttrs_dict PySem.F.slot_dict_get PySem.F.type_dict_get (thn (ho.run pins s σ H _ I h) fun u s1 ⟨x, H1, I1, rx, d, es, n, ex, D, q1⟩ => ?_)
  subst ex
  obtain rfl : u = Value.ref d := rx
  refine ⟨kd_type D I1, ?_, ?_⟩
  · intro b eb
    cases eb
    exact ⟨_, I1.kIn _ _ D.at_, rfl⟩
  rw [m.trees]
  refine Calls.callWith_builtin rfl (Calls.evalArgs_plain (Calls.spliced_cons (thn (he.run pins s1 σ H1 _ I1 q1) fun iv s2 ⟨y, H2, I2, ry, q2⟩ =>
    Calls.spliced_cons (thn (hf.run pins s2 σ H2 _ I2 q2) fun fv s3 ⟨z, H3, I3, rz, k, r, v, ey, el, hr, q3⟩ => Calls.spliced_nil ?_))))
  subst ey
  obtain ⟨t, rfl⟩ := ry
  refine call_meetsIn PySem.F.slot_dict_get (kd_type D I3) PySem.F.entry_dict_get (PySem.F.args_dict_get_3 _ _ _) (meets_dict_get_default (PySem.strKind X.prog X.w) d (PySem.strKind_is X.prog X.w k t) D.low fv)
    ⟨_, PySem.W.mapOf_K (prog := X.prog) I3.kIn D.at_ D.lit, ?_⟩
  rw [PySem.W.find_K D.at_ el]
  refine ⟨v, H3, I3.tok _, ?_, q3⟩
  cases r with
  | some u => exact hr
  | none =>
    cases (show v = z from hr)
    exact rz
/-! ### constants of the top -/
theorem pe_gI {x : Str} {i : Int} {pos : Pos} (hm : ∃ t, X.mg x = some (.int i t)) (hg : Gl X x) (hd : (x == ("__debug__" : Str)) = false := by decide) : PE X (.Name x pos) (tC (.int i)) := by
  obtain ⟨t, e⟩ := hm
  exact pe_glob hg e ⟨t, rfl⟩ hd
theorem pe_gS {x z : Str} {pos : Pos} (hm : ∃ t, X.mg x = some (.str z t)) (hg : Gl X x) (hd : (x == ("__debug__" : Str)) = false := by decide) : PE X (.Name x pos) (tC (.str z)) := by
  obtain ⟨t, e⟩ := hm
  exact pe_glob hg e ⟨t, rfl⟩ hd
theorem pe_gR {x : Str} {a : Addr} {pos : Pos} (hm : X.mg x = some (.ref a)) (hg : Gl X x) (hd : (x == ("__debug__" : Str)) = false := by decide) : PE X (.Name x pos) (tC (.ref a)) := pe_glob hg hm rfl hd
theorem pe_gT {x : Str} {n : String} {pos : Pos} (hm : X.mg x = none) (hv : bootBuiltins x = some (.type n)) (hg : Gl X x) (hn : x ≠ "__name__" := by decide) (hd : (x == ("__debug__" : Str)) = false := by decide) : PE X (.Name x pos) (tC (.ty n)) :=
  pe_bltn hg hm hv rfl hn hd
end
/-! ### a def without defaults, as a positional promise -/
section
variable {P : Program} {w : World} {K : PySem.W.Frag} {mg : Str → Option Value} {base : Heap} {x qual : Str} {params : Arguments} {body : List Stmt} {scope : Scope} {f : Addr}
abbrev ArgsGo (x qual : Str) (params : Arguments) (body : List Stmt) (scope : Scope) (ps : List Str) : Prop :=
  ∀ (kV doc pm : Value) (an : Option Addr) (cdv ct : Value) (us : List Value), us.length = ps.length → bindArgs (PySem.W.fnOf x qual params body scope .none kV doc pm an cdv ct) ⟨us, []⟩ = pure (ps.zip us)
theorem okR {kws : List (Str × V)} {N ps : List Str} {k : Nat} {sp : Sp} (F : ∃ fd, FunD K x qual params body scope [] kws f fd) (S : FnScope N ps scope) (B : ArgsGo x qual params body scope ps)
    (len : ∀ vs H Q E, sp vs H Q E → vs.length = ps.length)
    (hbody : ∀ (cdv : Value) (A : Around) (outer : List Env) (s : Shared) (H : Hp) (vs : List V) (Q : VK) (E : XK), Room k (A.deeper (envOfC qual scope s.heap.objs.size f cdv)) → sp vs H Q E →
      ∃ t, PSs (cxOf CX0 P w K mg base N qual scope f cdv A outer s H E).nox body t ∧ t { nx := fun _ H' => Q .non H', rt := Q } (start N vs) H) : FnR P w K mg base CX0 (k + 1) f sp := by
  obtain ⟨fd, F⟩ := F
  refine FnR.imp ((F.ok S len fun cdv A outer s H vs Q E hr h => ?_).raw (F.bindsN B) .nil) fun vs H Q E h => by rwa [List.append_nil]
  obtain ⟨t, h1, h2⟩ := hbody cdv A outer s H vs Q E hr h
  exact ⟨t, h1.nox, h2⟩
end
end Ws

set_option Elab.async false
set_option linter.all false
set_option maxRecDepth 100000
set_option maxHeartbeats 4000000
namespace Ws
open PySem PySem.Spec PyProof.Rows L2
/-- e.f, a property whose getter keeps sp -/
def tPropR (C : Addr) (sp : Sp) (E : XK) (ta : TE) : TE := fun σ H Q => ta σ H fun x H1 => ∃ a dx fs, x = .ref a ∧ H1 a = some (.ins C dx fs) ∧ sp [.ref a] H1 Q E
section
variable {X : Cx} {CX : CXT} {k : Nat} {C p g : Addr} {f : Str} {sp : Sp} {E : XK} {e : PySem.Expr} {pos : Pos} {ta : TE}
theorem pe_propR (he : PE X e ta) (c : Cls X.K C) (hp : PropOf X.K C f p g) (F : FnR X.prog X.w X.K X.mg X.base CX k g sp) (hr : Room (k + 1) X.A) (hx : Passes CX X.nox E)
    (hab : attributeBase e f X.env (eval e X.env) = eval e X.env := by rfl) : PE X (.Attribute e f pos) (tPropR C sp E ta) := by
  constructor
  intro pins s σ H Q I h
  refine attr_of hab (thn (he.run pins s σ H _ I h) fun u s1 ⟨x, H1, I1, rx, a, dx, fs, ex, ea, q⟩ => ?_)
  subst ex
  cases (show u = Value.ref a from rx)
  obtain ⟨od, J⟩ := inst_of I1 ea
  obtain ⟨rest, hrec⟩ := hp.rec_
  have I2 := I1.tok (s1.toks + 1)
  have hc : (PySem.W.clsIn X.K C).isSome = true := by
    obtain ⟨cd, hc, _⟩ := PySem.W.any_some c.hd
    rw [hc]
    rfl
  refine PySem.W.get_bind I1.kIn J (PySem.W.plainGet_of (c.get f)).1 (PySem.W.findObj_data hc hp.at_ hp.get hp.tak) (PySem.W.plainGet_of (c.get f)).2 (wpAny_call (PySem.W.prop_get (s := { s1 with toks := s1.toks + 1 }) I1.kIn hrec ?_))
  refine codeAny_mono (F X.A.in1 X.stack { s1 with toks := s1.toks + 1 } H1 [.ref a] [.ref a] Q E hr.in1 I2.env0.in1 (.cons (rr a) .nil) q) fun r s' hq => ?_
  match r, hq with
  | .error er, hq => exact False.elim (hx pins σ H1 { s1 with toks := s1.toks + 1 } er s' (I2.wish _) hq)
  | .ok (.ret u), hq =>
    obtain ⟨v, H', I3, rv, q3⟩ := I2.after hq
    show wpAny _ _ (handedOut u) _ _ _
    rw [PySem.W.handedOut_of (handed_of rv)]
    exact wpAny_pure ⟨v, H', I3, rv, q3⟩
  | .ok .next, hq => exact False.elim hq
  | .ok .brk, hq => exact False.elim hq
  | .ok .cont, hq => exact False.elim hq
end
/-! ### all arguments written, where there are defaults -/
section
variable {P : Program} {w : World} {K : PySem.W.Frag} {mg : Str → Option Value} {base : Heap} {x qual : Str} {params : Arguments} {body : List Stmt} {scope : Scope} {f : Addr}
abbrev ArgsGoD (n : Nat) (x qual : Str) (params : Arguments) (body : List Stmt) (scope : Scope) (ps : List Str) : Prop :=
  ∀ (T : Addr) (kV doc pm : Value) (an : Option Addr) (cdv ct : Value) (us its : List Value), us.length = ps.length → its.length = n →
    ∃ k, bindArgs (PySem.W.fnOf x qual params body scope (.ref T) kV doc pm an cdv ct) ⟨us, []⟩ = seqItems? (.ref T) >>= k ∧ k (some its.toArray) = pure (ps.zip us)
theorem okFD {dvs : List V} {kws : List (Str × V)} {N ps : List Str} {k : Nat} {sp : Sp} {fd : FuncData} (F : FunD K x qual params body scope dvs kws f fd) (S : FnScope N ps scope)
    (len : ∀ vs H Q E, sp vs H Q E → vs.length = ps.length)
    (hbody : ∀ (cdv : Value) (A : Around) (outer : List Env) (s : Shared) (H : Hp) (vs : List V) (Q : VK) (E : XK), Room k (A.deeper (envOfC qual scope s.heap.objs.size f cdv)) → sp vs H Q E →
      ∃ t, PSs (cxOf CX0 P w K mg base N qual scope f cdv A outer s H E).nox body t ∧ t { nx := fun _ H' => Q .non H', rt := Q } (start N vs) H) : FnOk P w K mg base CX0 (k + 1) f fd ps sp :=
  F.ok S len fun cdv A outer s H vs Q E hr h => by
    obtain ⟨t, h1, h2⟩ := hbody cdv A outer s H vs Q E hr h
    exact ⟨t, h1.nox, h2⟩
theorem rawFD {dvs : List V} {kws : List (Str × V)} {ps : List Str} {k : Nat} {sp : Sp} {fd : FuncData} (F : FunD K x qual params body scope dvs kws f fd) (hd : dvs ≠ [])
    (G : FnOk P w K mg base CX0 k f fd ps sp) (B : ArgsGoD dvs.length x qual params body scope ps) : FnR P w K mg base CX0 k f sp := by
  obtain ⟨ds, h1, h2⟩ := F.binds1 (ps := ps) ps.length dvs.length hd (by omega) fun T kV doc pm an cdv ct us its hu hi => by
    obtain ⟨k, e1, e2⟩ := B T kV doc pm an cdv ct us its hu hi
    refine ⟨k, e1, ?_⟩
    rw [e2, List.drop_eq_nil_of_le (by omega), List.append_nil]
  rw [List.drop_length] at h1
  cases h1
  exact FnR.imp (G.raw h2 .nil) fun vs H Q E h => by rwa [List.append_nil]
end
/-! ### frames -/
/-- all that stands keeps standing as it is, but what is in S -/
structure Kp (S : Addr → Prop) (H H' : Hp) : Prop where
  keep : ∀ a o, H a = some o → ¬ S a → H' a = some o
  dom : ∀ a, H a ≠ none → H' a ≠ none
def no : Addr → Prop := fun _ => False
section
variable {S T : Addr → Prop} {H H1 H2 : Hp} {a p : Addr} {o : HO}
theorem Kp.refl : Kp S H H := ⟨fun _ _ h _ => h, fun _ h => h⟩
theorem Kp.trans (u : Kp S H H1) (v : Kp S H1 H2) : Kp S H H2 := ⟨fun a o h n => v.keep a o (u.keep a o h n) n, fun a h => v.dom a (u.dom a h)⟩
theorem Kp.mono (u : Kp S H H1) (h : ∀ a, S a → T a) : Kp T H H1 := ⟨fun a o e n => u.keep a o e fun z => n (h a z), u.dom⟩
theorem Kp.ext (e : Ext H H1) : Kp S H H1 := ⟨fun a o h _ => e a o h, fun a h => by
  cases q : H a with
  | none => exact absurd q h
  | some o => rw [e a o q]; exact fun z => nomatch z⟩
theorem Kp.to (u : Kp no H H1) : Ext H H1 := fun a o h => u.keep a o h fun z => z
theorem ext_new (hp : H p = none) : Ext H (upd H p o) := fun a u e => by rw [upd_ne (ne_of_none e hp)]; exact e
theorem Kp.new (hp : H p = none) : Kp S H (upd H p o) := .ext (ext_new hp)
theorem Kp.put (u : Kp S H H1) (hs : S a) : Kp S H (upd H1 a o) := ⟨fun b x e n => by
    by_cases z : b = a
    · exact absurd (z ▸ hs : S b) n
    · rw [upd_ne z]; exact u.keep b x e n, fun b hb => by
    by_cases z : b = a
    · subst z; rw [upd_same]; exact fun z => nomatch z
    · rw [upd_ne z]; exact u.dom b hb⟩
theorem Kp.add (u : Kp S H H1) (hp : H1 p = none) : Kp S H (upd H1 p o) := u.trans (.new hp)
/-- at a stands o, and a is not to change -/
def At (S : Addr → Prop) (H : Hp) (a : Addr) (o : HO) : Prop := H a = some o ∧ ¬ S a
theorem At.kp (h : At S H a o) (u : Kp S H H1) : At S H1 a o := ⟨u.keep a o h.1 h.2, h.2⟩
theorem At.new (hS : ∀ a, S a → H a ≠ none) (hp : H p = none) : At S (upd H p o) p o := ⟨upd_same, fun z => hS p z hp⟩
theorem ext_dom (e : Ext H H1) (h : H a ≠ none) : H1 a ≠ none := by
  cases q : H a with
  | none => exact absurd q h
  | some o => rw [e a o q]; exact fun z => nomatch z
end
end Ws

set_option Elab.async false
set_option linter.all false
set_option maxRecDepth 100000
set_option maxHeartbeats 4000000
namespace Ws
open PySem PySem.Spec PyProof.Rows L2
/-- where the i-th item of the tuple at a stands -/
def tupIt (K : PySem.W.Frag) (a : Addr) (i : Nat) : Addr := ((K.lookup a).bind fun o => match o.data with
  | .seq its _ => (its.toList[i]?).bind fun u => match u with
    | .ref b => some b
    | _ => none
  | _ => none).getD 0
def tupAB (K : PySem.W.Frag) (a : Addr) (vs : List V) : Bool := (K.lookup a).any fun o => match o.data with
  | .seq its _ => He.eqO (some (some o.cls)) (some (some (.type "tuple"))) && (decide (its.size ≤ sizeLine) && He.relAll vs its.toList)
  | _ => false
theorem tupAB_ok {K : PySem.W.Frag} {a : Addr} {vs : List V} (h : tupAB K a vs = true) (H : Hp) : SqT K H a vs := by
  unfold tupAB at h
  cases q : K.lookup a with
  | none =>
    rw [q] at h
    cases h
  | some o =>
    rw [q] at h
    replace h : (match o.data with
      | .seq its _ => He.eqO (some (some o.cls)) (some (some (.type "tuple"))) && (decide (its.size ≤ sizeLine) && He.relAll vs its.toList)
      | _ => false) = true := h
    split at h
    · rename_i its n e
      obtain ⟨h1, h2⟩ := He.ba h
      obtain ⟨h3, h4⟩ := He.ba h2
      exact .inr ⟨o, its, n, q, Option.some.inj (Option.some.inj (He.eqO_ok h1)), e, of_decide_eq_true h3, He.relAll_ok h4⟩
    · cases h
end Ws

set_option Elab.async false
set_option linter.all false
set_option maxRecDepth 100000
set_option maxHeartbeats 4000000
namespace Ws
open PySem PySem.Spec PyProof.Rows L2
/-- the i-th statement of the text -/
def top (i : Nat) : Stmt := PySem.Challenge.pw_wholestory_k83_texts_of_nets.main.body.getD i (.Pass ⟨0, 0, 0, 0⟩)
abbrev s_is_number : Stmt := top 14
abbrev s_is_name : Stmt := top 15
abbrev s_are_different : Stmt := top 16
abbrev s_are_names : Stmt := top 17
abbrev s_Rule_init : Stmt := inClass (top 18) 0
abbrev s_Rule_share : Stmt := inClass (top 18) 1
abbrev s_Rule_mark : Stmt := inClass (top 18) 2
abbrev s_Rule_always : Stmt := inClass (top 18) 3
abbrev s_Rule_late : Stmt := inClass (top 18) 4
abbrev s_Rule_eq : Stmt := inClass (top 18) 5
abbrev s_are_rules : Stmt := top 19
abbrev s_House_init : Stmt := inClass (top 20) 0
abbrev s_House_rules : Stmt := inClass (top 20) 1
abbrev s_House_calls : Stmt := inClass (top 20) 2
abbrev s_House_lost : Stmt := inClass (top 20) 3
abbrev s_House_fails : Stmt := inClass (top 20) 4
abbrev s_House_eq : Stmt := inClass (top 20) 6
abbrev s_are_named : Stmt := top 21
abbrev s_need_houses : Stmt := top 22
abbrev s_Net_init : Stmt := inClass (top 23) 0
abbrev s_Net_fine : Stmt := inClass (top 23) 1
abbrev s_Net_entries : Stmt := inClass (top 23) 2
abbrev s_Net_names : Stmt := inClass (top 23) 3
abbrev s_Net_contains : Stmt := inClass (top 23) 5
abbrev s_Net_getitem : Stmt := inClass (top 23) 6
abbrev s_Net_eq : Stmt := inClass (top 23) 8
abbrev s_need_net : Stmt := top 24
abbrev s_need_house : Stmt := top 25
abbrev s_house_lines : Stmt := top 31
abbrev s_net_lines : Stmt := top 32
abbrev s_net_text : Stmt := top 33
abbrev s_is_numeral : Stmt := top 34
abbrev s_are_ascending : Stmt := top 35
abbrev s_Reader_init : Stmt := inClass (top 36) 0
abbrev s_Reader_is_between : Stmt := inClass (top 36) 1
abbrev s_Reader_take_fine : Stmt := inClass (top 36) 2
abbrev s_Reader_take_house : Stmt := inClass (top 36) 3
abbrev s_Reader_take_rule : Stmt := inClass (top 36) 4
abbrev s_Reader_take_calls : Stmt := inClass (top 36) 5
abbrev s_Reader_take_entries : Stmt := inClass (top 36) 6
abbrev s_Reader_take : Stmt := inClass (top 36) 7
abbrev s_Reader_made : Stmt := inClass (top 36) 8
abbrev s_read_net : Stmt := top 37
abbrev s_l_begun : Stmt := top 39
abbrev s_l_mixed : Stmt := top 40
abbrev s_l_take : Stmt := top 41
abbrev s_l_pick : Stmt := top 42
abbrev s_l_rule : Stmt := top 43
abbrev s_l_model : Stmt := top 44
abbrev s_l_rules_of : Stmt := top 45
abbrev s_l_net : Stmt := top 46
abbrev s_l_net_lines : Stmt := top 47
abbrev s_l_net_text : Stmt := top 48
abbrev s_l_seen_net : Stmt := top 49
abbrev s_l_due_net : Stmt := top 50
abbrev s_l_names : Stmt := top 51
abbrev s_l_tagged : Stmt := top 52
abbrev s_law : Stmt := top 53
section
variable (K : PySem.W.Frag)
/-- the getter of a property -/
def gA (C f : Str) : Addr := match PySem.W.recIn K (He.ma K (He.ga K C) f) "property" with
  | some (.ref g :: _) => g
  | _ => 0
abbrev c_Rule : Addr := He.ga K "Rule"
abbrev c_House : Addr := He.ga K "House"
abbrev c_Net : Addr := He.ga K "Net"
abbrev c_Reader : Addr := He.ga K "Reader"
abbrev c_BadNet : Addr := He.ga K "BadNet"
abbrev a_is_number : Addr := He.ga K "is_number"
abbrev a_is_name : Addr := He.ga K "is_name"
abbrev a_are_different : Addr := He.ga K "are_different"
abbrev a_are_names : Addr := He.ga K "are_names"
abbrev a_Rule_init : Addr := He.ma K (He.ga K "Rule") "__init__"
abbrev a_Rule_share : Addr := gA K "Rule" "share"
abbrev a_Rule_mark : Addr := gA K "Rule" "mark"
abbrev a_Rule_always : Addr := gA K "Rule" "always"
abbrev a_Rule_late : Addr := gA K "Rule" "late"
abbrev a_Rule_eq : Addr := He.ma K (He.ga K "Rule") "__eq__"
abbrev a_are_rules : Addr := He.ga K "are_rules"
abbrev a_House_init : Addr := He.ma K (He.ga K "House") "__init__"
abbrev a_House_rules : Addr := gA K "House" "rules"
abbrev a_House_calls : Addr := gA K "House" "calls"
abbrev a_House_lost : Addr := gA K "House" "lost"
abbrev a_House_fails : Addr := gA K "House" "fails"
abbrev a_House_eq : Addr := He.ma K (He.ga K "House") "__eq__"
abbrev a_are_named : Addr := He.ga K "are_named"
abbrev a_need_houses : Addr := He.ga K "need_houses"
abbrev a_Net_init : Addr := He.ma K (He.ga K "Net") "__init__"
abbrev a_Net_fine : Addr := gA K "Net" "fine"
abbrev a_Net_entries : Addr := gA K "Net" "entries"
abbrev a_Net_names : Addr := He.ma K (He.ga K "Net") "names"
abbrev a_Net_contains : Addr := He.ma K (He.ga K "Net") "__contains__"
abbrev a_Net_getitem : Addr := He.ma K (He.ga K "Net") "__getitem__"
abbrev a_Net_eq : Addr := He.ma K (He.ga K "Net") "__eq__"
abbrev a_need_net : Addr := He.ga K "need_net"
abbrev a_need_house : Addr := He.ga K "need_house"
abbrev a_house_lines : Addr := He.ga K "house_lines"
abbrev a_net_lines : Addr := He.ga K "net_lines"
abbrev a_net_text : Addr := He.ga K "net_text"
abbrev a_is_numeral : Addr := He.ga K "is_numeral"
abbrev a_are_ascending : Addr := He.ga K "are_ascending"
abbrev a_Reader_init : Addr := He.ma K (He.ga K "Reader") "__init__"
abbrev a_Reader_is_between : Addr := He.ma K (He.ga K "Reader") "is_between"
abbrev a_Reader_take_fine : Addr := He.ma K (He.ga K "Reader") "take_fine"
abbrev a_Reader_take_house : Addr := He.ma K (He.ga K "Reader") "take_house"
abbrev a_Reader_take_rule : Addr := He.ma K (He.ga K "Reader") "take_rule"
abbrev a_Reader_take_calls : Addr := He.ma K (He.ga K "Reader") "take_calls"
abbrev a_Reader_take_entries : Addr := He.ma K (He.ga K "Reader") "take_entries"
abbrev a_Reader_take : Addr := He.ma K (He.ga K "Reader") "take"
abbrev a_Reader_made : Addr := He.ma K (He.ga K "Reader") "made"
abbrev a_read_net : Addr := He.ga K "read_net"
abbrev a_l_begun : Addr := He.ga K "_law_begun"
abbrev a_l_mixed : Addr := He.ga K "_law_mixed"
abbrev a_l_take : Addr := He.ga K "_law_take"
abbrev a_l_pick : Addr := He.ga K "_law_pick"
abbrev a_l_rule : Addr := He.ga K "_law_rule"
abbrev a_l_model : Addr := He.ga K "_law_model"
abbrev a_l_rules_of : Addr := He.ga K "_law_rules_of"
abbrev a_l_net : Addr := He.ga K "_law_net"
abbrev a_l_net_lines : Addr := He.ga K "_law_net_lines"
abbrev a_l_net_text : Addr := He.ga K "_law_net_text"
abbrev a_l_seen_net : Addr := He.ga K "_law_seen_net"
abbrev a_l_due_net : Addr := He.ga K "_law_due_net"
abbrev a_l_names : Addr := He.ga K "_law_names"
abbrev a_l_tagged : Addr := He.ga K "_law_tagged"
abbrev a_law : Addr := He.ga K "law"
end
/-- what the top leaves -/
structure Fx (K : PySem.W.Frag) (mg : Str → Option Value) (w : World) : Prop where
  n_isinstance : mg "isinstance" = none
  n_int : mg "int" = none
  n_bool : mg "bool" = none
  n_str : mg "str" = none
  n_list : mg "list" = none
  n_tuple : mg "tuple" = none
  n_dict : mg "dict" = none
  n_len : mg "len" = none
  n_all : mg "all" = none
  n_any : mg "any" = none
  n_sorted : mg "sorted" = none
  n_range : mg "range" = none
  n_min : mg "min" = none
  n_abs : mg "abs" = none
  n_enumerate : mg "enumerate" = none
  n_repr : mg "repr" = none
  m_is_number : mg "is_number" = some (.ref (a_is_number K))
  F_is_number : ∃ fd, FunD K "is_number" "is_number" (defArgs s_is_number) (defBody s_is_number) (defScope s_is_number) [] [] (a_is_number K) fd
  m_is_name : mg "is_name" = some (.ref (a_is_name K))
  F_is_name : ∃ fd, FunD K "is_name" "is_name" (defArgs s_is_name) (defBody s_is_name) (defScope s_is_name) [] [] (a_is_name K) fd
  m_are_different : mg "are_different" = some (.ref (a_are_different K))
  F_are_different : ∃ fd, FunD K "are_different" "are_different" (defArgs s_are_different) (defBody s_are_different) (defScope s_are_different) [] [] (a_are_different K) fd
  m_are_names : mg "are_names" = some (.ref (a_are_names K))
  F_are_names : ∃ fd, FunD K "are_names" "are_names" (defArgs s_are_names) (defBody s_are_names) (defScope s_are_names) [] [] (a_are_names K) fd
  F_Rule_init : ∃ fd, FunD K "__init__" "Rule.__init__" (defArgs s_Rule_init) (defBody s_Rule_init) (defScope s_Rule_init) [.str "handed", .bl false, .bl false] [] (a_Rule_init K) fd
  p_Rule_share : PropOf K (c_Rule K) "share" (He.ma K (c_Rule K) "share") (a_Rule_share K)
  F_Rule_share : ∃ fd, FunD K "share" "Rule.share" (defArgs s_Rule_share) (defBody s_Rule_share) (defScope s_Rule_share) [] [] (a_Rule_share K) fd
  p_Rule_mark : PropOf K (c_Rule K) "mark" (He.ma K (c_Rule K) "mark") (a_Rule_mark K)
  F_Rule_mark : ∃ fd, FunD K "mark" "Rule.mark" (defArgs s_Rule_mark) (defBody s_Rule_mark) (defScope s_Rule_mark) [] [] (a_Rule_mark K) fd
  p_Rule_always : PropOf K (c_Rule K) "always" (He.ma K (c_Rule K) "always") (a_Rule_always K)
  F_Rule_always : ∃ fd, FunD K "always" "Rule.always" (defArgs s_Rule_always) (defBody s_Rule_always) (defScope s_Rule_always) [] [] (a_Rule_always K) fd
  p_Rule_late : PropOf K (c_Rule K) "late" (He.ma K (c_Rule K) "late") (a_Rule_late K)
  F_Rule_late : ∃ fd, FunD K "late" "Rule.late" (defArgs s_Rule_late) (defBody s_Rule_late) (defScope s_Rule_late) [] [] (a_Rule_late K) fd
  F_Rule_eq : ∃ fd, FunD K "__eq__" "Rule.__eq__" (defArgs s_Rule_eq) (defBody s_Rule_eq) (defScope s_Rule_eq) [] [] (a_Rule_eq K) fd
  m_are_rules : mg "are_rules" = some (.ref (a_are_rules K))
  F_are_rules : ∃ fd, FunD K "are_rules" "are_rules" (defArgs s_are_rules) (defBody s_are_rules) (defScope s_are_rules) [] [] (a_are_rules K) fd
  F_House_init : ∃ fd, FunD K "__init__" "House.__init__" (defArgs s_House_init) (defBody s_House_init) (defScope s_House_init) [.ref (He.dflAt ("House", some "__init__") 0 K), .ref (He.dflAt ("House", some "__init__") 1 K), .bl false] [] (a_House_init K) fd
  p_House_rules : PropOf K (c_House K) "rules" (He.ma K (c_House K) "rules") (a_House_rules K)
  F_House_rules : ∃ fd, FunD K "rules" "House.rules" (defArgs s_House_rules) (defBody s_House_rules) (defScope s_House_rules) [] [] (a_House_rules K) fd
  p_House_calls : PropOf K (c_House K) "calls" (He.ma K (c_House K) "calls") (a_House_calls K)
  F_House_calls : ∃ fd, FunD K "calls" "House.calls" (defArgs s_House_calls) (defBody s_House_calls) (defScope s_House_calls) [] [] (a_House_calls K) fd
  p_House_lost : PropOf K (c_House K) "lost" (He.ma K (c_House K) "lost") (a_House_lost K)
  F_House_lost : ∃ fd, FunD K "lost" "House.lost" (defArgs s_House_lost) (defBody s_House_lost) (defScope s_House_lost) [] [] (a_House_lost K) fd
  p_House_fails : PropOf K (c_House K) "fails" (He.ma K (c_House K) "fails") (a_House_fails K)
  F_House_fails : ∃ fd, FunD K "fails" "House.fails" (defArgs s_House_fails) (defBody s_House_fails) (defScope s_House_fails) [] [] (a_House_fails K) fd
  F_House_eq : ∃ fd, FunD K "__eq__" "House.__eq__" (defArgs s_House_eq) (defBody s_House_eq) (defScope s_House_eq) [] [] (a_House_eq K) fd
  m_are_named : mg "are_named" = some (.ref (a_are_named K))
  F_are_named : ∃ fd, FunD K "are_named" "are_named" (defArgs s_are_named) (defBody s_are_named) (defScope s_are_named) [] [] (a_are_named K) fd
  m_need_houses : mg "need_houses" = some (.ref (a_need_houses K))
  F_need_houses : ∃ fd, FunD K "need_houses" "need_houses" (defArgs s_need_houses) (defBody s_need_houses) (defScope s_need_houses) [] [] (a_need_houses K) fd
  F_Net_init : ∃ fd, FunD K "__init__" "Net.__init__" (defArgs s_Net_init) (defBody s_Net_init) (defScope s_Net_init) [] [] (a_Net_init K) fd
  p_Net_fine : PropOf K (c_Net K) "fine" (He.ma K (c_Net K) "fine") (a_Net_fine K)
  F_Net_fine : ∃ fd, FunD K "fine" "Net.fine" (defArgs s_Net_fine) (defBody s_Net_fine) (defScope s_Net_fine) [] [] (a_Net_fine K) fd
  p_Net_entries : PropOf K (c_Net K) "entries" (He.ma K (c_Net K) "entries") (a_Net_entries K)
  F_Net_entries : ∃ fd, FunD K "entries" "Net.entries" (defArgs s_Net_entries) (defBody s_Net_entries) (defScope s_Net_entries) [] [] (a_Net_entries K) fd
  me_Net_names : Meth K (c_Net K) "names" (a_Net_names K)
  F_Net_names : ∃ fd, FunD K "names" "Net.names" (defArgs s_Net_names) (defBody s_Net_names) (defScope s_Net_names) [] [] (a_Net_names K) fd
  F_Net_contains : ∃ fd, FunD K "__contains__" "Net.__contains__" (defArgs s_Net_contains) (defBody s_Net_contains) (defScope s_Net_contains) [] [] (a_Net_contains K) fd
  F_Net_getitem : ∃ fd, FunD K "__getitem__" "Net.__getitem__" (defArgs s_Net_getitem) (defBody s_Net_getitem) (defScope s_Net_getitem) [] [] (a_Net_getitem K) fd
  F_Net_eq : ∃ fd, FunD K "__eq__" "Net.__eq__" (defArgs s_Net_eq) (defBody s_Net_eq) (defScope s_Net_eq) [] [] (a_Net_eq K) fd
  m_need_net : mg "need_net" = some (.ref (a_need_net K))
  F_need_net : ∃ fd, FunD K "need_net" "need_net" (defArgs s_need_net) (defBody s_need_net) (defScope s_need_net) [] [] (a_need_net K) fd
  m_need_house : mg "need_house" = some (.ref (a_need_house K))
  F_need_house : ∃ fd, FunD K "need_house" "need_house" (defArgs s_need_house) (defBody s_need_house) (defScope s_need_house) [] [] (a_need_house K) fd
  m_house_lines : mg "house_lines" = some (.ref (a_house_lines K))
  F_house_lines : ∃ fd, FunD K "house_lines" "house_lines" (defArgs s_house_lines) (defBody s_house_lines) (defScope s_house_lines) [] [] (a_house_lines K) fd
  m_net_lines : mg "net_lines" = some (.ref (a_net_lines K))
  F_net_lines : ∃ fd, FunD K "net_lines" "net_lines" (defArgs s_net_lines) (defBody s_net_lines) (defScope s_net_lines) [] [] (a_net_lines K) fd
  m_net_text : mg "net_text" = some (.ref (a_net_text K))
  F_net_text : ∃ fd, FunD K "net_text" "net_text" (defArgs s_net_text) (defBody s_net_text) (defScope s_net_text) [] [] (a_net_text K) fd
  m_is_numeral : mg "is_numeral" = some (.ref (a_is_numeral K))
  F_is_numeral : ∃ fd, FunD K "is_numeral" "is_numeral" (defArgs s_is_numeral) (defBody s_is_numeral) (defScope s_is_numeral) [] [] (a_is_numeral K) fd
  m_are_ascending : mg "are_ascending" = some (.ref (a_are_ascending K))
  F_are_ascending : ∃ fd, FunD K "are_ascending" "are_ascending" (defArgs s_are_ascending) (defBody s_are_ascending) (defScope s_are_ascending) [] [] (a_are_ascending K) fd
  F_Reader_init : ∃ fd, FunD K "__init__" "Reader.__init__" (defArgs s_Reader_init) (defBody s_Reader_init) (defScope s_Reader_init) [] [] (a_Reader_init K) fd
  me_Reader_is_between : Meth K (c_Reader K) "is_between" (a_Reader_is_between K)
  F_Reader_is_between : ∃ fd, FunD K "is_between" "Reader.is_between" (defArgs s_Reader_is_between) (defBody s_Reader_is_between) (defScope s_Reader_is_between) [] [] (a_Reader_is_between K) fd
  me_Reader_take_fine : Meth K (c_Reader K) "take_fine" (a_Reader_take_fine K)
  F_Reader_take_fine : ∃ fd, FunD K "take_fine" "Reader.take_fine" (defArgs s_Reader_take_fine) (defBody s_Reader_take_fine) (defScope s_Reader_take_fine) [] [] (a_Reader_take_fine K) fd
  me_Reader_take_house : Meth K (c_Reader K) "take_house" (a_Reader_take_house K)
  F_Reader_take_house : ∃ fd, FunD K "take_house" "Reader.take_house" (defArgs s_Reader_take_house) (defBody s_Reader_take_house) (defScope s_Reader_take_house) [] [] (a_Reader_take_house K) fd
  me_Reader_take_rule : Meth K (c_Reader K) "take_rule" (a_Reader_take_rule K)
  F_Reader_take_rule : ∃ fd, FunD K "take_rule" "Reader.take_rule" (defArgs s_Reader_take_rule) (defBody s_Reader_take_rule) (defScope s_Reader_take_rule) [] [] (a_Reader_take_rule K) fd
  me_Reader_take_calls : Meth K (c_Reader K) "take_calls" (a_Reader_take_calls K)
  F_Reader_take_calls : ∃ fd, FunD K "take_calls" "Reader.take_calls" (defArgs s_Reader_take_calls) (defBody s_Reader_take_calls) (defScope s_Reader_take_calls) [] [] (a_Reader_take_calls K) fd
  me_Reader_take_entries : Meth K (c_Reader K) "take_entries" (a_Reader_take_entries K)
  F_Reader_take_entries : ∃ fd, FunD K "take_entries" "Reader.take_entries" (defArgs s_Reader_take_entries) (defBody s_Reader_take_entries) (defScope s_Reader_take_entries) [] [] (a_Reader_take_entries K) fd
  me_Reader_take : Meth K (c_Reader K) "take" (a_Reader_take K)
  F_Reader_take : ∃ fd, FunD K "take" "Reader.take" (defArgs s_Reader_take) (defBody s_Reader_take) (defScope s_Reader_take) [] [] (a_Reader_take K) fd
  me_Reader_made : Meth K (c_Reader K) "made" (a_Reader_made K)
  F_Reader_made : ∃ fd, FunD K "made" "Reader.made" (defArgs s_Reader_made) (defBody s_Reader_made) (defScope s_Reader_made) [] [] (a_Reader_made K) fd
  m_read_net : mg "read_net" = some (.ref (a_read_net K))
  F_read_net : ∃ fd, FunD K "read_net" "read_net" (defArgs s_read_net) (defBody s_read_net) (defScope s_read_net) [] [] (a_read_net K) fd
  m_l_begun : mg "_law_begun" = some (.ref (a_l_begun K))
  F_l_begun : ∃ fd, FunD K "_law_begun" "_law_begun" (defArgs s_l_begun) (defBody s_l_begun) (defScope s_l_begun) [] [] (a_l_begun K) fd
  m_l_mixed : mg "_law_mixed" = some (.ref (a_l_mixed K))
  F_l_mixed : ∃ fd, FunD K "_law_mixed" "_law_mixed" (defArgs s_l_mixed) (defBody s_l_mixed) (defScope s_l_mixed) [] [] (a_l_mixed K) fd
  m_l_take : mg "_law_take" = some (.ref (a_l_take K))
  F_l_take : ∃ fd, FunD K "_law_take" "_law_take" (defArgs s_l_take) (defBody s_l_take) (defScope s_l_take) [] [] (a_l_take K) fd
  m_l_pick : mg "_law_pick" = some (.ref (a_l_pick K))
  F_l_pick : ∃ fd, FunD K "_law_pick" "_law_pick" (defArgs s_l_pick) (defBody s_l_pick) (defScope s_l_pick) [] [] (a_l_pick K) fd
  m_l_rule : mg "_law_rule" = some (.ref (a_l_rule K))
  F_l_rule : ∃ fd, FunD K "_law_rule" "_law_rule" (defArgs s_l_rule) (defBody s_l_rule) (defScope s_l_rule) [] [] (a_l_rule K) fd
  m_l_model : mg "_law_model" = some (.ref (a_l_model K))
  F_l_model : ∃ fd, FunD K "_law_model" "_law_model" (defArgs s_l_model) (defBody s_l_model) (defScope s_l_model) [] [] (a_l_model K) fd
  m_l_rules_of : mg "_law_rules_of" = some (.ref (a_l_rules_of K))
  F_l_rules_of : ∃ fd, FunD K "_law_rules_of" "_law_rules_of" (defArgs s_l_rules_of) (defBody s_l_rules_of) (defScope s_l_rules_of) [] [] (a_l_rules_of K) fd
  m_l_net : mg "_law_net" = some (.ref (a_l_net K))
  F_l_net : ∃ fd, FunD K "_law_net" "_law_net" (defArgs s_l_net) (defBody s_l_net) (defScope s_l_net) [] [] (a_l_net K) fd
  m_l_net_lines : mg "_law_net_lines" = some (.ref (a_l_net_lines K))
  F_l_net_lines : ∃ fd, FunD K "_law_net_lines" "_law_net_lines" (defArgs s_l_net_lines) (defBody s_l_net_lines) (defScope s_l_net_lines) [] [] (a_l_net_lines K) fd
  m_l_net_text : mg "_law_net_text" = some (.ref (a_l_net_text K))
  F_l_net_text : ∃ fd, FunD K "_law_net_text" "_law_net_text" (defArgs s_l_net_text) (defBody s_l_net_text) (defScope s_l_net_text) [] [] (a_l_net_text K) fd
  m_l_seen_net : mg "_law_seen_net" = some (.ref (a_l_seen_net K))
  F_l_seen_net : ∃ fd, FunD K "_law_seen_net" "_law_seen_net" (defArgs s_l_seen_net) (defBody s_l_seen_net) (defScope s_l_seen_net) [] [] (a_l_seen_net K) fd
  m_l_due_net : mg "_law_due_net" = some (.ref (a_l_due_net K))
  F_l_due_net : ∃ fd, FunD K "_law_due_net" "_law_due_net" (defArgs s_l_due_net) (defBody s_l_due_net) (defScope s_l_due_net) [] [] (a_l_due_net K) fd
  m_l_names : mg "_law_names" = some (.ref (a_l_names K))
  F_l_names : ∃ fd, FunD K "_law_names" "_law_names" (defArgs s_l_names) (defBody s_l_names) (defScope s_l_names) [] [] (a_l_names K) fd
  m_l_tagged : mg "_law_tagged" = some (.ref (a_l_tagged K))
  F_l_tagged : ∃ fd, FunD K "_law_tagged" "_law_tagged" (defArgs s_l_tagged) (defBody s_l_tagged) (defScope s_l_tagged) [] [] (a_l_tagged K) fd
  F_law : ∃ fd, FunD K "law" "law" (defArgs s_law) (defBody s_law) (defScope s_law) [] [] (a_law K) fd
  m_Rule : mg "Rule" = some (.ref (c_Rule K))
  cl_Rule : Cls K (c_Rule K)
  mk_Rule : Mk K (c_Rule K) (a_Rule_init K)
  na_Rule_r_parts : NoAttr K (c_Rule K) "r_parts"
  mro_Rule : PySem.W.mroIn K (c_Rule K) (.type "object") = some true
  cc_Rule : PySem.W.findIn K (.ref (c_Rule K)) "__class__" = some (some (.builtin "object.__class__"))
  kit_Rule : PySem.W.kitOne K (.ref (c_Rule K)) (.ref (c_Rule K)) = some true
  sp_Rule_eq : PySem.W.findIn K (.ref (c_Rule K)) "__eq__" = some (some (.ref (a_Rule_eq K)))
  fn_Rule_eq : PySem.W.isFn K (.ref (a_Rule_eq K)) = true
  fi_Rule_eq : PySem.W.fnIn K (a_Rule_eq K) = true
  ne_Rule : PySem.W.findIn K (.ref (c_Rule K)) "__ne__" = some (some (.builtin "object.__ne__"))
  m_House : mg "House" = some (.ref (c_House K))
  cl_House : Cls K (c_House K)
  mk_House : Mk K (c_House K) (a_House_init K)
  na_House_h_rules : NoAttr K (c_House K) "h_rules"
  na_House_h_calls : NoAttr K (c_House K) "h_calls"
  na_House_h_lost : NoAttr K (c_House K) "h_lost"
  na_House_h_fails : NoAttr K (c_House K) "h_fails"
  mro_House : PySem.W.mroIn K (c_House K) (.type "object") = some true
  cc_House : PySem.W.findIn K (.ref (c_House K)) "__class__" = some (some (.builtin "object.__class__"))
  kit_House : PySem.W.kitOne K (.ref (c_House K)) (.ref (c_House K)) = some true
  sp_House_eq : PySem.W.findIn K (.ref (c_House K)) "__eq__" = some (some (.ref (a_House_eq K)))
  fn_House_eq : PySem.W.isFn K (.ref (a_House_eq K)) = true
  fi_House_eq : PySem.W.fnIn K (a_House_eq K) = true
  ne_House : PySem.W.findIn K (.ref (c_House K)) "__ne__" = some (some (.builtin "object.__ne__"))
  m_Net : mg "Net" = some (.ref (c_Net K))
  cl_Net : Cls K (c_Net K)
  mk_Net : Mk K (c_Net K) (a_Net_init K)
  na_Net_n_fine : NoAttr K (c_Net K) "n_fine"
  na_Net_n_houses : NoAttr K (c_Net K) "n_houses"
  na_Net_n_entries : NoAttr K (c_Net K) "n_entries"
  mro_Net : PySem.W.mroIn K (c_Net K) (.type "object") = some true
  cc_Net : PySem.W.findIn K (.ref (c_Net K)) "__class__" = some (some (.builtin "object.__class__"))
  kit_Net : PySem.W.kitOne K (.ref (c_Net K)) (.ref (c_Net K)) = some true
  sp_Net_eq : PySem.W.findIn K (.ref (c_Net K)) "__eq__" = some (some (.ref (a_Net_eq K)))
  fn_Net_eq : PySem.W.isFn K (.ref (a_Net_eq K)) = true
  fi_Net_eq : PySem.W.fnIn K (a_Net_eq K) = true
  sp_Net_contains : PySem.W.findIn K (.ref (c_Net K)) "__contains__" = some (some (.ref (a_Net_contains K)))
  fn_Net_contains : PySem.W.isFn K (.ref (a_Net_contains K)) = true
  fi_Net_contains : PySem.W.fnIn K (a_Net_contains K) = true
  sp_Net_getitem : PySem.W.findIn K (.ref (c_Net K)) "__getitem__" = some (some (.ref (a_Net_getitem K)))
  fn_Net_getitem : PySem.W.isFn K (.ref (a_Net_getitem K)) = true
  fi_Net_getitem : PySem.W.fnIn K (a_Net_getitem K) = true
  ne_Net : PySem.W.findIn K (.ref (c_Net K)) "__ne__" = some (some (.builtin "object.__ne__"))
  m_Reader : mg "Reader" = some (.ref (c_Reader K))
  cl_Reader : Cls K (c_Reader K)
  mk_Reader : Mk K (c_Reader K) (a_Reader_init K)
  na_Reader_x_fine : NoAttr K (c_Reader K) "x_fine"
  na_Reader_x_names : NoAttr K (c_Reader K) "x_names"
  na_Reader_x_fails : NoAttr K (c_Reader K) "x_fails"
  na_Reader_x_rules : NoAttr K (c_Reader K) "x_rules"
  na_Reader_x_ways : NoAttr K (c_Reader K) "x_ways"
  na_Reader_x_entries : NoAttr K (c_Reader K) "x_entries"
  mro_Reader : PySem.W.mroIn K (c_Reader K) (.type "object") = some true
  cc_Reader : PySem.W.findIn K (.ref (c_Reader K)) "__class__" = some (some (.builtin "object.__class__"))
  kit_Reader : PySem.W.kitOne K (.ref (c_Reader K)) (.ref (c_Reader K)) = some true
  m_BadNet : mg "BadNet" = some (.ref (c_BadNet K))
  cget : PySem.W.specialIn K (.builtin "object.__class__") "__get__" = some (some (.builtin "getset_descriptor.__get__"))
  ctak : PySem.W.takesIn K (.builtin "object.__class__") = some true
  z_HANDED : ∃ t, mg "HANDED" = some (.str "handed" t)
  z_LETTERS : ∃ t, mg "LETTERS" = some (.str "abcdefghijklmnopqrstuvwxyz" t)
  i_LONGEST_NAME : ∃ t, mg "LONGEST_NAME" = some (.int 6 t)
  i_MOST_FINE : ∃ t, mg "MOST_FINE" = some (.int 1000 t)
  i_MOST_HOUSES : ∃ t, mg "MOST_HOUSES" = some (.int 8 t)
  z_DIGITS : ∃ t, mg "DIGITS" = some (.str "0123456789" t)
  z_FAILS : ∃ t, mg "FAILS" = some (.str "fails" t)
  m_KEEPS : mg "KEEPS" = some (.ref (He.ga K "KEEPS"))
  u_KEEPS_0 : ∀ H : Hp, SqT K H (tupIt K (He.ga K "KEEPS") 0) [.str "always", .str "late"]
  u_KEEPS_1 : ∀ H : Hp, SqT K H (tupIt K (He.ga K "KEEPS") 1) [.str "always"]
  u_KEEPS_2 : ∀ H : Hp, SqT K H (tupIt K (He.ga K "KEEPS") 2) [.str "late"]
  u_KEEPS_3 : ∀ H : Hp, SqT K H (tupIt K (He.ga K "KEEPS") 3) []
  u_KEEPS : ∀ H : Hp, SqT K H (He.ga K "KEEPS") [.ref (tupIt K (He.ga K "KEEPS") 0), .ref (tupIt K (He.ga K "KEEPS") 1), .ref (tupIt K (He.ga K "KEEPS") 2), .ref (tupIt K (He.ga K "KEEPS") 3)]
  i_MOST_DIGITS : ∃ t, mg "MOST_DIGITS" = some (.int 4 t)
/-- the defs that make lambdas -/
def hlam : List (Str × Option Str) := []
theorem keep_of {K : PySem.W.Frag} {x q : Str} {ps : Arguments} {b : List Stmt} {sc : Scope} {dv : List V} {kw : List (Str × V)} {f : Addr} (h : ∃ fd, FunD K x q ps b sc dv kw f fd) : PySem.W.keepIn K (.ref f) = true := h.elim fun _ F => F.kp
theorem bb_isinstance : bootBuiltins "isinstance" = some (.builtin "isinstance") := by decide +kernel
theorem bb_int : bootBuiltins "int" = some (.type "int") := by decide +kernel
theorem bb_bool : bootBuiltins "bool" = some (.type "bool") := by decide +kernel
theorem bb_str : bootBuiltins "str" = some (.type "str") := by decide +kernel
theorem bb_list : bootBuiltins "list" = some (.type "list") := by decide +kernel
theorem bb_tuple : bootBuiltins "tuple" = some (.type "tuple") := by decide +kernel
theorem bb_dict : bootBuiltins "dict" = some (.type "dict") := by decide +kernel
theorem bb_len : bootBuiltins "len" = some (.builtin "len") := by decide +kernel
theorem bb_all : bootBuiltins "all" = some (.builtin "all") := by decide +kernel
theorem bb_any : bootBuiltins "any" = some (.builtin "any") := by decide +kernel
theorem bb_sorted : bootBuiltins "sorted" = some (.builtin "sorted") := by decide +kernel
theorem bb_min : bootBuiltins "min" = some (.builtin "min") := by decide +kernel
theorem bb_abs : bootBuiltins "abs" = some (.builtin "abs") := by decide +kernel
theorem bb_repr : bootBuiltins "repr" = some (.builtin "repr") := by decide +kernel
end Ws

set_option Elab.async false
set_option linter.all false
set_option maxRecDepth 100000
set_option maxHeartbeats 4000000
namespace Ws
open PySem PySem.Spec PyProof.Rows L2
/-- J yields the xs one behind another, as long as all but S stands -/
def Std (S : Addr → Prop) (J : It) (H : Hp) (xs : List V) : Prop :=
  ∀ H', Kp S H H' → ∀ i, (∀ v, xs[i]? = some v → J.go i H' ∧ ∀ x H2, J.yld i H' x H2 → H2 = H' ∧ x = v) ∧ (xs.length ≤ i → J.stop i H')
section
variable {S : Addr → Prop} {K : PySem.W.Frag} {H H1 : Hp} {a : Addr} {xs : List V} {J : It}
theorem sqL_kp (h : SqL K H a xs) (n : ¬ S a) (u : Kp S H H1) : SqL K H1 a xs := by
  rcases h with (h | ⟨o, h⟩) | h
  · exact .inl (.inl (u.keep _ _ h n))
  · exact .inl (.inr ⟨o, u.keep _ _ h n⟩)
  · exact .inr h
theorem sqT_kp (h : SqT K H a xs) (n : ¬ S a) (u : Kp S H H1) : SqT K H1 a xs := by
  rcases h with (h | ⟨o, h⟩) | h
  · exact .inl (.inl (u.keep _ _ h n))
  · exact .inl (.inr ⟨o, u.keep _ _ h n⟩)
  · exact .inr h
theorem sqL_ext (h : SqL K H a xs) (u : Ext H H1) : SqL K H1 a xs := sqL_kp (S := no) h (fun z => z) (.ext u)
theorem sqT_ext (h : SqT K H a xs) (u : Ext H H1) : SqT K H1 a xs := sqT_kp (S := no) h (fun z => z) (.ext u)
theorem Std.mono (st : Std S J H xs) (u : Kp S H H1) : Std S J H1 xs := fun H' v => st H' (u.trans v)
theorem std_list (h : SqL K H a xs) (n : ¬ S a) : Std S (Itl K a) H xs := fun H' u i => by
  have h' := sqL_kp h n u
  exact ⟨fun v e => ⟨⟨xs, v, h', e⟩, fun x H2 y => ⟨y.1, Option.some.inj ((y.2 xs h').symm.trans e)⟩⟩, fun le => ⟨xs, h', le⟩⟩
theorem std_tup (h : SqT K H a xs) (n : ¬ S a) : Std S (Itt K a) H xs := fun H' u i => by
  have h' := sqT_kp h n u
  exact ⟨fun v e => ⟨⟨xs, v, h', e⟩, fun x H2 y => ⟨y.1, Option.some.inj ((y.2 xs h').symm.trans e)⟩⟩, fun le => ⟨xs, h', le⟩⟩
theorem std_str {z : Str} : Std S (Its z) H (z.cps.toList.map fun c => V.str ⟨#[c]⟩) := fun H' u i => by
  refine ⟨fun v e => ?_, fun le => ?_⟩
  · rw [List.getElem?_map, Array.getElem?_toList] at e
    refine ⟨?_, fun x H2 y => ⟨y.1, ?_⟩⟩
    · show i < z.cps.size
      cases q : z.cps[i]? with
      | none => rw [q] at e; cases e
      | some c => exact (Array.getElem?_eq_some_iff.mp q).1
    · obtain ⟨_, c, q, rfl⟩ := y
      rw [q] at e
      exact Option.some.inj e
  · show z.cps.size ≤ i
    simpa using le
theorem std_range {lo : Int} {n : Nat} : Std S (Itr lo n) H ((List.range n).map fun i => V.int (lo + (i : Nat))) := fun H' u i => by
  refine ⟨fun v e => ?_, fun le => ?_⟩
  · rw [List.getElem?_map] at e
    cases q : (List.range n)[i]? with
    | none => rw [q] at e; cases e
    | some j =>
      rw [q] at e
      obtain ⟨h1, h2⟩ := List.getElem?_eq_some_iff.mp q
      rw [List.getElem_range] at h2
      subst h2
      exact ⟨(show i < n by simpa using h1), fun x H2 y => ⟨y.1, y.2.trans (Option.some.inj e)⟩⟩
  · show n ≤ i
    simpa using le
theorem std_keys {o : Obj} {kvs : List (Key × V)} (h : H a = some (.frz o (.dK kvs))) (n : ¬ S a) : Std S (Itk a o kvs) H (kvs.map fun kv => kV kv.1) := fun H' u i => by
  have h' := u.keep _ _ h n
  refine ⟨fun v e => ?_, fun le => ⟨h', by simpa using le⟩⟩
  rw [List.getElem?_map] at e
  cases q : kvs[i]? with
  | none => rw [q] at e; cases e
  | some p =>
    rw [q] at e
    refine ⟨⟨h', (List.getElem?_eq_some_iff.mp q).1⟩, fun x H2 y => ⟨y.1, ?_⟩⟩
    obtain ⟨_, k, w, e2, rfl⟩ := y
    rw [q] at e2
    cases e2
    exact Option.some.inj e
end
/-! ### comprehensions -/
theorem line1001 : (1001 : Nat) ≤ sizeLine := by rw [sizeLine_eq]; decide
section
variable {S : Addr → Prop} {J : It} {H0 H1 : Hp} {xs : List V} {g : TG} {tt : TT} {te tk : TE} {vs : List Nat} {σ : L2.St} {D : Addr} {Qd : Hp → Prop}
/-- Pv by the turn and the heap -/
theorem lc_std (st : Std S J H0 xs) (Pv : Nat → Hp → Prop) (h0 : Pv 0 (upd H1 D (.lst []))) (hk : ∀ i H, Pv i H → Kp S H0 H)
    (hs : ∀ i x H, xs[i]? = some x → Pv i H → g x (wipe σ vs) H fun σ2 H2 => wipe σ2 vs = wipe σ vs ∧ tt σ2 H2 fun b H3 =>
      if b = true then te σ2 H3 fun y H4 => ∃ acc, H4 D = some (.lst acc) ∧ acc.length < sizeLine ∧ Pv (i + 1) (upd H4 D (.lst (acc ++ [y]))) else Pv (i + 1) H3)
    (hd : ∀ H, Pv xs.length H → Qd H) :
    ∃ W : Nat → Nat → Hp → Prop, (∃ m, W 0 m (upd H1 D (.lst []))) ∧ ∀ i m H, W i m H →
      (J.stop i H ∧ Qd H) ∨ (J.go i H ∧ ∃ Nx : Hp → Prop, (∀ H', Nx H' → ∃ m', m' < m ∧ W (i + 1) m' H') ∧ ∀ x H', J.yld i H x H' → g x (wipe σ vs) H' fun σ2 H2 => wipe σ2 vs = wipe σ vs ∧ tt σ2 H2 fun b H3 =>
        if b = true then te σ2 H3 fun y H4 => ∃ acc, H4 D = some (.lst acc) ∧ acc.length < sizeLine ∧ Nx (upd H4 D (.lst (acc ++ [y]))) else Nx H3) := by
  refine ⟨fun i m H => m = xs.length - i ∧ i ≤ xs.length ∧ Pv i H, ⟨_, rfl, Nat.zero_le _, h0⟩, fun i m H ⟨em, le, h⟩ => ?_⟩
  obtain ⟨s1, s2⟩ := st H (hk _ _ h) i
  by_cases e : i = xs.length
  · exact .inl ⟨s2 (by omega), hd H (e ▸ h)⟩
  · have lt : i < xs.length := by omega
    obtain ⟨go, yl⟩ := s1 _ (List.getElem?_eq_getElem lt)
    refine .inr ⟨go, fun H' => Pv (i + 1) H', fun H' h' => ⟨_, by omega, rfl, by omega, h'⟩, fun x H' y => ?_⟩
    obtain ⟨rfl, rfl⟩ := yl x H' y
    exact hs i _ _ (List.getElem?_eq_getElem lt) h
/-- each item by itself, nothing changed: the block is handed what it may go on with -/
theorem lc_map (st : Std no J H1 xs) (hD : H1 D = none) (f : V → Option V) (hl : xs.length ≤ 1000)
    (hs : ∀ x H (Nx : Hp → Prop), x ∈ xs → Ext H1 H →
      (∀ y H4, Ext H H4 → f x = some y → ∃ acc, H4 D = some (.lst acc) ∧ acc.length < sizeLine ∧ Nx (upd H4 D (.lst (acc ++ [y])))) → (∀ H3, Ext H H3 → f x = none → Nx H3) →
      g x (wipe σ vs) H fun σ2 H2 => wipe σ2 vs = wipe σ vs ∧ tt σ2 H2 fun b H3 =>
        if b = true then te σ2 H3 fun y H4 => ∃ acc, H4 D = some (.lst acc) ∧ acc.length < sizeLine ∧ Nx (upd H4 D (.lst (acc ++ [y]))) else Nx H3)
    (hd : ∀ H, Ext H1 H → H D = some (.lst (xs.filterMap f)) → Qd H) :
    ∃ W : Nat → Nat → Hp → Prop, (∃ m, W 0 m (upd H1 D (.lst []))) ∧ ∀ i m H, W i m H →
      (J.stop i H ∧ Qd H) ∨ (J.go i H ∧ ∃ Nx : Hp → Prop, (∀ H', Nx H' → ∃ m', m' < m ∧ W (i + 1) m' H') ∧ ∀ x H', J.yld i H x H' → g x (wipe σ vs) H' fun σ2 H2 => wipe σ2 vs = wipe σ vs ∧ tt σ2 H2 fun b H3 =>
        if b = true then te σ2 H3 fun y H4 => ∃ acc, H4 D = some (.lst acc) ∧ acc.length < sizeLine ∧ Nx (upd H4 D (.lst (acc ++ [y]))) else Nx H3) := by
  refine lc_std st (fun i H => Ext H1 H ∧ H D = some (.lst ((xs.take i).filterMap f))) ⟨ext_new hD, upd_same⟩ (fun i H h => .ext h.1) (fun i x H e ⟨ex, eD⟩ => ?_) (fun H h => ?_)
  · have tk1 : xs.take (i + 1) = xs.take i ++ [x] := by rw [List.take_succ, e]; rfl
    refine hs x H _ (List.mem_of_getElem? e) ex (fun y H4 e4 hf => ?_) fun H3 e3 hf => ⟨ex.trans e3, ?_⟩
    · have len : ((xs.take i).filterMap f).length ≤ 1000 := Nat.le_trans (List.length_filterMap_le _ _) (Nat.le_trans (List.length_take_le' _ _) hl)
      refine ⟨_, e4 _ _ eD, Nat.lt_of_le_of_lt len line1001, fun a o ha => ?_, ?_⟩
      · have ne : a ≠ D := ne_of_none ha hD
        rw [upd_ne ne]
        exact e4 _ _ (ex _ _ ha)
      · rw [upd_same, tk1, List.filterMap_append]
        simp [hf]
    · rw [e3 _ _ eD, tk1, List.filterMap_append]
      simp [hf]
  · refine hd H h.1 ?_
    rw [h.2, List.take_length]
/-- the same with a dict that is made -/
theorem dc_std (st : Std S J H0 xs) (Pv : Nat → Hp → Prop) (h0 : Pv 0 (upd H1 D (.dK []))) (hk : ∀ i H, Pv i H → Kp S H0 H)
    (hs : ∀ i x H, xs[i]? = some x → Pv i H → g x (wipe σ vs) H fun σ2 H2 => wipe σ2 vs = wipe σ vs ∧ tt σ2 H2 fun b H3 =>
      if b = true then tk σ2 H3 fun y H4 => te σ2 H4 fun z H5 => ∃ kvs k, y = kV k ∧ H5 D = some (.dK kvs) ∧ kvs.length < sizeLine ∧ Pv (i + 1) (upd H5 D (.dK (putK kvs k z))) else Pv (i + 1) H3)
    (hd : ∀ H, Pv xs.length H → Qd H) :
    ∃ W : Nat → Nat → Hp → Prop, (∃ m, W 0 m (upd H1 D (.dK []))) ∧ ∀ i m H, W i m H →
      (J.stop i H ∧ Qd H) ∨ (J.go i H ∧ ∃ Nx : Hp → Prop, (∀ H', Nx H' → ∃ m', m' < m ∧ W (i + 1) m' H') ∧ ∀ x H', J.yld i H x H' → g x (wipe σ vs) H' fun σ2 H2 => wipe σ2 vs = wipe σ vs ∧ tt σ2 H2 fun b H3 =>
        if b = true then tk σ2 H3 fun y H4 => te σ2 H4 fun z H5 => ∃ kvs k, y = kV k ∧ H5 D = some (.dK kvs) ∧ kvs.length < sizeLine ∧ Nx (upd H5 D (.dK (putK kvs k z))) else Nx H3) := by
  refine ⟨fun i m H => m = xs.length - i ∧ i ≤ xs.length ∧ Pv i H, ⟨_, rfl, Nat.zero_le _, h0⟩, fun i m H ⟨em, le, h⟩ => ?_⟩
  obtain ⟨s1, s2⟩ := st H (hk _ _ h) i
  by_cases e : i = xs.length
  · exact .inl ⟨s2 (by omega), hd H (e ▸ h)⟩
  · have lt : i < xs.length := by omega
    obtain ⟨go, yl⟩ := s1 _ (List.getElem?_eq_getElem lt)
    refine .inr ⟨go, fun H' => Pv (i + 1) H', fun H' h' => ⟨_, by omega, rfl, by omega, h'⟩, fun x H' y => ?_⟩
    obtain ⟨rfl, rfl⟩ := yl x H' y
    exact hs i _ _ (List.getElem?_eq_getElem lt) h
/-- keys made so far, from pairs -/
def putAll (kvs : List (Key × V)) (ps : List (Key × V)) : List (Key × V) := ps.foldl (fun a p => putK a p.1 p.2) kvs
theorem dc_map (st : Std no J H1 xs) (hD : H1 D = none) (f : V → Key × V) (hl : xs.length ≤ 1000)
    (hs : ∀ x H (Nx : Hp → Prop), x ∈ xs → Ext H1 H →
      (∀ y z H5, Ext H H5 → y = kV (f x).1 → z = (f x).2 → ∃ kvs k, y = kV k ∧ H5 D = some (.dK kvs) ∧ kvs.length < sizeLine ∧ Nx (upd H5 D (.dK (putK kvs k z)))) →
      g x (wipe σ vs) H fun σ2 H2 => wipe σ2 vs = wipe σ vs ∧ tt σ2 H2 fun b H3 =>
        if b = true then tk σ2 H3 fun y H4 => te σ2 H4 fun z H5 => ∃ kvs k, y = kV k ∧ H5 D = some (.dK kvs) ∧ kvs.length < sizeLine ∧ Nx (upd H5 D (.dK (putK kvs k z))) else Nx H3)
    (hd : ∀ H, Ext H1 H → H D = some (.dK (putAll [] (xs.map f))) → Qd H) :
    ∃ W : Nat → Nat → Hp → Prop, (∃ m, W 0 m (upd H1 D (.dK []))) ∧ ∀ i m H, W i m H →
      (J.stop i H ∧ Qd H) ∨ (J.go i H ∧ ∃ Nx : Hp → Prop, (∀ H', Nx H' → ∃ m', m' < m ∧ W (i + 1) m' H') ∧ ∀ x H', J.yld i H x H' → g x (wipe σ vs) H' fun σ2 H2 => wipe σ2 vs = wipe σ vs ∧ tt σ2 H2 fun b H3 =>
        if b = true then tk σ2 H3 fun y H4 => te σ2 H4 fun z H5 => ∃ kvs k, y = kV k ∧ H5 D = some (.dK kvs) ∧ kvs.length < sizeLine ∧ Nx (upd H5 D (.dK (putK kvs k z))) else Nx H3) := by
  have len : ∀ (ps kvs : List (Key × V)), (putAll kvs ps).length ≤ kvs.length + ps.length := by
    intro ps
    induction ps with
    | nil => intro kvs; exact Nat.le_refl _
    | cons p r ih =>
      intro kvs
      have h1 := ih (putK kvs p.1 p.2)
      have h2 := length_putK kvs p.1 p.2
      show (putAll (putK kvs p.1 p.2) r).length ≤ _
      simp only [List.length_cons]
      omega
  refine dc_std st (fun i H => Ext H1 H ∧ H D = some (.dK (putAll [] ((xs.take i).map f)))) ⟨ext_new hD, upd_same⟩ (fun i H h => .ext h.1) (fun i x H e ⟨ex, eD⟩ => ?_) (fun H h => ?_)
  · have tk1 : xs.take (i + 1) = xs.take i ++ [x] := by rw [List.take_succ, e]; rfl
    refine hs x H _ (List.mem_of_getElem? e) ex (fun y z H5 e5 hy hz => ?_)
    have l1 := len ((xs.take i).map f) []
    rw [List.length_map, List.length_nil] at l1
    have l2 := List.length_take_le' i xs
    refine ⟨_, (f x).1, hy, e5 _ _ eD, Nat.lt_of_le_of_lt (show _ ≤ 1000 by omega) line1001, fun a o ha => ?_, ?_⟩
    · have ne : a ≠ D := ne_of_none ha hD
      rw [upd_ne ne]
      exact e5 _ _ (ex _ _ ha)
    · rw [upd_same, tk1, List.map_append, hz]
      simp [putAll, List.foldl_append]
  · refine hd H h.1 ?_
    rw [h.2, List.take_length]
end
/-! ### a list or a tuple -/
def iSeq (K : PySem.W.Frag) (tl : TE) : TI := fun σ H R => iList K tl σ H R ∨ iTup K tl σ H R
theorem pi_seq {X : Cx} {tg l : PySem.Expr} {tl : TE} (hl : PE X l tl) : PI X tg l (iSeq X.K tl) :=
  ⟨fun pins s σ H R I h => h.elim (fun h => (pi_list (tg := tg) hl).run pins s σ H R I h) fun h => (pi_tup (tg := tg) hl).run pins s σ H R I h⟩
/-- tracked, perhaps locked -/
def Sq (_ : PySem.W.Frag) (H : Hp) (a : Addr) (xs : List V) : Prop := Rd H a (.lst xs) ∨ Rd H a (.tup xs)
section
variable {S : Addr → Prop} {K : PySem.W.Frag} {H H1 : Hp} {a : Addr} {xs : List V} {i : Nat} {σ : L2.St} {R : It → Hp → Prop}
theorem rd_kp {o : HO} (h : Rd H a o) (n : ¬ S a) (u : Kp S H H1) : Rd H1 a o := h.imp (fun h => u.keep _ _ h n) fun ⟨b, h⟩ => ⟨b, u.keep _ _ h n⟩
theorem sq_s (h : Sq K H a xs) : SqL K H a xs ∨ SqT K H a xs := h.imp .inl .inl
theorem sq_kp (h : Sq K H a xs) (n : ¬ S a) (u : Kp S H H1) : Sq K H1 a xs := h.imp (fun h => rd_kp h n u) fun h => rd_kp h n u
theorem sq_ext (h : Sq K H a xs) (u : Ext H H1) : Sq K H1 a xs := sq_kp (S := no) h (fun z => z) (.ext u)
/-- no instance -/
theorem sq_ne {C dx o : Addr} {fs : List (Str × V)} (h : Sq K H a xs) (ho : H o = some (.ins C dx fs)) : a ≠ o := fun z => by
  subst z
  rcases h with (h | ⟨_, h⟩) | (h | ⟨_, h⟩) <;> (rw [ho] at h; cases h)
theorem seq_go (hv : σ[i]? = some (some (.ref a))) (h : Sq K H a xs) (n : ¬ S a) (go : ∀ J, Std S J H xs → R J H) : iSeq K (tVar i) σ H R := by
  rcases sq_s (K := K) h with h | h
  · exact .inl ⟨_, hv, a, rfl, ⟨xs, h⟩, go _ (std_list h n)⟩
  · exact .inr ⟨_, hv, a, rfl, ⟨xs, h⟩, go _ (std_tup h n)⟩
theorem sq_ty (h : Sq K H a xs) : TyX K H (.ref a) (.type "list") ∨ TyX K H (.ref a) (.type "tuple") := by
  rcases h with (h | ⟨o, h⟩) | (h | ⟨o, h⟩)
  · exact .inl (.base (.lst h))
  · exact .inl (.base (.frz h))
  · exact .inr (.base (.tup h))
  · exact .inr (.fTuple h)
/-- isinstance(x, (list, tuple)) of such a thing -/
theorem isi_seq {p : Addr} (h : Sq K H a xs) (hp : H p = none) : ∃ t us, Paired ClsV [.ty "list", .ty "tuple"] us ∧ TyX K (upd H p (.tup [.ty "list", .ty "tuple"])) (.ref a) t ∧ PySem.W.kitAny K t us = some true := by
  rcases sq_ty (sq_ext h (ext_new hp)) with t | t
  · exact ⟨_, [.type "list", .type "tuple"], .cons (.ty _) (.cons (.ty _) .nil), t, kitAny_cons (b := true) (kit_ty (by decide +kernel)) (fun z => nomatch z) fun _ => rfl⟩
  · exact ⟨_, [.type "list", .type "tuple"], .cons (.ty _) (.cons (.ty _) .nil), t, kitAny_cons (b := false) (kit_ty (by decide +kernel)) (fun _ => kitAny_cons (b := true) (kit_ty (by decide +kernel)) (fun z => nomatch z) fun _ => rfl) (fun z => nomatch z)⟩
theorem sq_lenV (h : Sq K H a xs) : LenV K (.ref a) H xs.length := by
  rcases sq_s (K := K) h with h | h
  · exact .inl ⟨_, h, rfl⟩
  · exact .inr ⟨_, h, rfl⟩
end
/-! ### loops -/
theorem for_std {S : Addr → Prop} {J : It} {H0 : Hp} {xs : List V} {g : TG} {tb : TS} {D : Ends} {σ : L2.St} {H : Hp} (st : Std S J H0 xs) (Pv : Nat → L2.St → Hp → Prop) (h0 : Pv 0 σ H) (hk : ∀ i σ H, Pv i σ H → Kp S H0 H)
    (hs : ∀ i x σ H, xs[i]? = some x → Pv i σ H → g x σ H fun σ2 H2 => tb { D with nx := Pv (i + 1), ct := Pv (i + 1), bk := D.nx } σ2 H2) (hd : ∀ σ H, Pv xs.length σ H → D.nx σ H) :
    ∃ W : Nat → Nat → L2.St → Hp → Prop, (∃ m, W 0 m σ H) ∧ ∀ i m σ H, W i m σ H →
      (J.stop i H ∧ D.nx σ H) ∨ (J.go i H ∧ ∃ N : L2.St → Hp → Prop, (∀ σ' H', N σ' H' → ∃ m', m' < m ∧ W (i + 1) m' σ' H') ∧ ∀ x H', J.yld i H x H' → g x σ H' fun σ2 H2 => tb { D with nx := N, ct := N, bk := D.nx } σ2 H2) := by
  refine ⟨fun i m σ H => m = xs.length - i ∧ i ≤ xs.length ∧ Pv i σ H, ⟨_, rfl, Nat.zero_le _, h0⟩, fun i m σ H ⟨em, le, h⟩ => ?_⟩
  obtain ⟨s1, s2⟩ := st H (hk _ _ _ h) i
  by_cases e : i = xs.length
  · exact .inl ⟨s2 (by omega), hd σ H (e ▸ h)⟩
  · have lt : i < xs.length := by omega
    obtain ⟨go, yl⟩ := s1 _ (List.getElem?_eq_getElem lt)
    refine .inr ⟨go, fun σ' H' => Pv (i + 1) σ' H', fun σ' H' h' => ⟨_, by omega, rfl, by omega, h'⟩, fun x H' y => ?_⟩
    obtain ⟨rfl, rfl⟩ := yl x H' y
    exact hs i _ σ _ (List.getElem?_eq_getElem lt) h
/-! ### the rules with the written part named -/
def rLenK (K : PySem.W.Frag) : List V → Hp → VK → Prop := fun xs H Q => ∃ x n, xs = [x] ∧ LenV K x H n ∧ Q (.int n) H
def rTupOf (K : PySem.W.Frag) : List V → Hp → VK → Prop := fun xs H Q => ∃ p ys, xs = [.ref p] ∧ ((SqL K H p ys ∧ ∀ l, H l = none → Q (.ref l) (upd H l (.tup ys))) ∨ (SqT K H p ys ∧ Q (.ref p) H))
def rLstOf (K : PySem.W.Frag) : List V → Hp → VK → Prop := fun xs H Q => ∃ p ys, xs = [.ref p] ∧ (SqL K H p ys ∨ SqT K H p ys) ∧ ∀ l, H l = none → Q (.ref l) (upd H l (.lst ys))
def rDctP (K : PySem.W.Frag) : List V → Hp → VK → Prop := fun xs H Q => ∃ (a : Addr) (ps : List Addr) (kvs : List (Key × V)), xs = [.ref a] ∧ SqL K H a (ps.map V.ref) ∧ Paired (fun p kv => SqT K H p [kV kv.1, kv.2]) ps kvs ∧
    ∀ p, H p = none → Q (.ref p) (upd H p (.dK (mergeK [] kvs)))
def rJoin (K : PySem.W.Frag) : V → List V → Hp → VK → Prop := fun x xs H Q => ∃ (a : Str) (p : Addr) (ys : List Str), x = .str a ∧ xs = [.ref p] ∧ (SqL K H p (ys.map V.str) ∨ SqT K H p (ys.map V.str)) ∧ (ys.map (·.length)).sum + ys.length * a.length ≤ 16777216 ∧ Q (.str (Txt.join a ys)) H
section
variable {X : Cx} {K : PySem.W.Frag} {o e l tg : PySem.Expr} {es : List PySem.Expr} {f name : Str} {ta te tl to : TE} {t : TA} {pos p apos cpos : Pos}
theorem call_lenK : CallR X (.builtin "len") (rLenK X.K) := call_len
theorem call_tupK : CallR X (.type "tuple") (rTupOf X.K) := call_tuple_of
theorem call_lstK : CallR X (.type "list") (rLstOf X.K) := call_list_of
theorem call_dctP (hc : X.calm = true) : CallR X (.type "dict") (rDctP X.K) := call_dictP hc
theorem pe_fldK (hK : X.K = K) (he : PE X e ta) (hb : attributeBase e f X.env (eval e X.env) = eval e X.env) : PE X (.Attribute e f pos) (tFld K ta f) := by subst hK; exact pe_fld he hb
theorem pi_listK (hK : X.K = K) (hl : PE X l tl) : PI X tg l (iList K tl) := by subst hK; exact pi_list hl
theorem pi_tupK (hK : X.K = K) (hl : PE X l tl) : PI X tg l (iTup K tl) := by subst hK; exact pi_tup hl
theorem pi_seqK (hK : X.K = K) (hl : PE X l tl) : PI X tg l (iSeq K tl) := by subst hK; exact pi_seq hl
theorem pg_tupK {k : Nat} {t : TGs} {n : Nat} (hK : X.K = K) (hc : X.calm = true) (h : PGs X es t) (hn : (assignEach es X.env).length = n := by rfl) (hst : (assignEach es X.env).findIdx? (·.1) = none := by rfl) : PG X (.Tuple es k pos) (gTup K n t) := by
  subst hK; exact pg_tup hc h hn hst
theorem pe_bmK {T id : String} {r : V → List V → Hp → VK → Prop} (hK : X.K = K) (pa : PlainAttrs T) (slot : Slot T name id) (hty : typeOf (.builtin id) = pure (.type "method_descriptor")) (hm : MtR X id r) (ho : PE X o to) (ha : PA X (e :: es) t)
    (hbase : attributeBase o name X.env (eval o X.env) = eval o X.env := by rfl)
    (hfew : ((backTo cpos (starEach (e :: es) X.env)).all (fun x => !x.1) && (backToKw cpos (keywordEach [] X.env)).all (fun x => x.1.isSome) && decide ((e :: es).length + ([] : List Keyword).length + (if ([] : List Keyword).isEmpty then 0 else 1) < 30)) = true := by rfl)
    (hline : (apos.endLine == cpos.line) = true := by rfl) (hs : starEach (e :: es) X.env = (false, eval e X.env) :: starEach es X.env := by rfl) (hplain : (backTo cpos (starEach es X.env)).any (·.1) = false := by rfl) :
    PE X (.Call (.Attribute o name apos) (e :: es) [] cpos) (tBM K T r to t) := by subst hK; exact pe_bm pa slot hty hm ho ha hbase hfew hline hs hplain
theorem pa_starK (hK : X.K = K) (he : PE X e te) (hr : PA X es t) (hs : starEach (.Starred e p :: es) X.env = (true, eval e X.env) :: starEach es X.env := by rfl) : PA X (.Starred e p :: es) (StX.tStar K te t) := by subst hK; exact StX.pa_star he hr hs
theorem pe_joinK (hK : X.K = K) (ho : PE X o to) (he : PE X e te) (hs : starEach [e] X.env = [(false, eval e X.env)] := by rfl) (hbase : attributeBase o "join" X.env (eval o X.env) = eval o X.env := by rfl) (hline : (apos.endLine == pos.line) = true := by rfl) :
    PE X (.Call (.Attribute o "join" apos) [e] [] pos) (tM1 (rJoin K) to te) := by
  subst hK
  exact pe_join ho he hs hbase hline
end
end Ws

set_option Elab.async false
set_option linter.all false
set_option maxRecDepth 100000
set_option maxHeartbeats 4000000
namespace Ws
open PySem PySem.Spec PyProof.Rows L2
/-- n values and the keywords ks bring the parameters in their order -/
def FnRK (P : Program) (w : World) (K : PySem.W.Frag) (mg : Str → Option Value) (base : Heap) (CX : CXT) (k : Nat) (f : Addr) (n : Nat) (ks : List Str) (sp : Sp) : Prop :=
  ∀ (A : Around) (outer : List Env) (s : Shared) (H : Hp) (us ws : List Value) (vs zs : List V) (Q : VK) (E : XK), Room k A → Env0 P w K mg base A outer s H → Vals vs us → Vals zs ws → vs.length = n → zs.length = ks.length → sp (vs ++ zs) H Q E →
    codeAny (model P w) A (.call (.ref f) ⟨us, ks.zip ws⟩) (CR CX outer P w H s Q E) s
section
variable {P : Program} {w : World} {K : PySem.W.Frag} {mg : Str → Option Value} {base : Heap} {CX : CXT} {k n : Nat} {f : Addr} {fd : FuncData} {ps ks : List Str} {sp : Sp} {x qual : Str} {params : Arguments} {body : List Stmt} {scope : Scope}
theorem rawK (F : FnOk P w K mg base CX k f fd ps sp) (B : ∀ (s : Shared) (us ws : List Value), K.In s.heap → us.length = n → ws.length = ks.length → BindsTo s fd ⟨us, ks.zip ws⟩ (ps.zip (us ++ ws))) : FnRK P w K mg base CX k f n ks sp := by
  intro A outer s H us ws vs zs Q E hr e0 r rz l1 l2 h
  exact F.run A outer s H ⟨us, ks.zip ws⟩ (us ++ ws) (vs ++ zs) Q E hr e0 (B s us ws (e0.mod.kin.keeps fun b o e => (e0.bs b o e).1) (r.length.symm.trans l1) (rz.length.symm.trans l2)) (r.append rz) h
/-- keywords for the parameters behind the first n, no defaults -/
theorem bindsK0 {kws : List (Str × V)} (F : FunD K x qual params body scope [] kws f fd)
    (h : ∀ (kV doc pm : Value) (an : Option Addr) (cdv ct : Value) (us ws : List Value), us.length = n → ws.length = ks.length → bindArgs (PySem.W.fnOf x qual params body scope .none kV doc pm an cdv ct) ⟨us, ks.zip ws⟩ = pure (ps.zip (us ++ ws)))
    (s : Shared) (us ws : List Value) (_ : K.In s.heap) (l1 : us.length = n) (l2 : ws.length = ks.length) : BindsTo s fd ⟨us, ks.zip ws⟩ (ps.zip (us ++ ws)) := by
  obtain ⟨oc, od, dV, kV, doc, pm, an, cdv, ct, osl, rfl, _, _, hd, _⟩ := F.ex
  rcases hd with ⟨_, rfl⟩ | ⟨z, _⟩
  · exact BindsTo.of_looks fun M => PySem.W.Looks.of_pure (h kV doc pm an cdv ct us ws l1 l2)
  · exact absurd rfl z
theorem bindsKD {dvs : List V} {kws : List (Str × V)} (F : FunD K x qual params body scope dvs kws f fd) (hd : dvs ≠ [])
    (h : ∀ (T : Addr) (kV doc pm : Value) (an : Option Addr) (cdv ct : Value) (us its ws : List Value), us.length = n → its.length = dvs.length → ws.length = ks.length →
      ∃ k, bindArgs (PySem.W.fnOf x qual params body scope (.ref T) kV doc pm an cdv ct) ⟨us, ks.zip ws⟩ = seqItems? (.ref T) >>= k ∧ k (some its.toArray) = pure (ps.zip (us ++ ws)))
    (s : Shared) (us ws : List Value) (X : K.In s.heap) (l1 : us.length = n) (l2 : ws.length = ks.length) : BindsTo s fd ⟨us, ks.zip ws⟩ (ps.zip (us ++ ws)) := by
  obtain ⟨its, B⟩ := F.kbindsD (ps := ps) n ks (fun us _ ws => us ++ ws) hd (fun r _ rz => r.append rz) h
  exact B.to s us ws X l1 l2
end
/-- C(e, .., k = v, ..) -/
def tMakeK (C : Addr) (n m : Nat) (sp : Sp) (E : XK) (t tk : TA) : TE := fun σ H Q => t σ H fun vs H1 => tk σ H1 fun zs H2 => vs.length = n ∧ zs.length = m ∧
  ∀ x dx, H2 x = none → H2 dx = none → dx ≠ x → sp (.ref x :: (vs ++ zs)) (upd (upd H2 dx (.own x)) x (.ins C dx [])) (fun v H3 => v = .non ∧ Q (.ref x) H3) E
/-- o.m(k = v, ..) -/
def tMethK (C : Addr) (m : Str) (l : Nat) (sp : Sp) (E : XK) (ta : TE) (tk : TA) : TE := fun σ H Q => ta σ H fun x H1 => ∃ a dx fs, x = .ref a ∧ H1 a = some (.ins C dx fs) ∧ fs.lookup m = none ∧
  tk σ H1 fun zs H2 => zs.length = l ∧ sp (.ref a :: zs) H2 Q E
section
variable {X : Cx} {CX : CXT} {k n : Nat} {f C : Addr} {ks : List Str} {sp : Sp} {E : XK} {x m : Str} {p pos apos : Pos} {e o : PySem.Expr} {es : List PySem.Expr} {kws : List Keyword} {ta : TE} {t tk : TA}
theorem run_makeK {pins : List (Addr × Obj)} {σ : L2.St} {H : Hp} {s : Shared} {Q : VK} {us ws : List Value} {vs zs : List V} (M : Mk X.K C f) (F : FnRK X.prog X.w X.K X.mg X.base CX k f (n + 1) ks sp) (hr : Room (k + 1) X.A)
    (hx : Passes CX X E) (I : Inv X pins σ H s) (r : Vals vs us) (rz : Vals zs ws) (l1 : vs.length = n) (l2 : zs.length = ks.length)
    (h : ∀ x dx, H x = none → H dx = none → dx ≠ x → sp (.ref x :: (vs ++ zs)) (upd (upd H dx (.own x)) x (.ins C dx [])) (fun v H2 => v = .non ∧ Q (.ref x) H2) E) :
    wpAny (model X.prog X.w) X.A (call (.ref C) us (ks.zip ws)) (EP X pins σ Q) X.xe s := by
  have hq := h (s.heap.objs.size + 1) s.heap.objs.size (I.hok.fresh (Nat.le_succ _)) (I.hok.fresh (Nat.le_refl _)) (Nat.ne_of_lt (Nat.lt_succ_self _))
  have I2 := Inv.made (C := C) I
  have q1 : Vals (V.ref (s.heap.objs.size + 1) :: vs) (Value.ref (s.heap.objs.size + 1) :: us) := .cons (rr _) r
  refine wpAny_call (make_map (f := f) I.kIn M.makes M.init (beq_iff_eq.mp M.fn) (codeAny_mono (F _ X.stack _ _ _ ws _ zs _ E (hr.make C us (ks.zip ws)) (I2.env0.make C us (ks.zip ws)) q1 rz (by simp [l1]) l2 hq) fun r s' hq' => ?_))
  match r, hq' with
  | .error e, hq' => exact hx pins σ _ _ e s' I2 hq'
  | .ok (.ret u), hq' =>
    obtain ⟨v, H', I3, rv, ev, q3⟩ := I2.after hq'
    subst ev
    exact ⟨rv, ⟨V.ref (s.heap.objs.size + 1), H', I3, rfl, q3⟩⟩
  | .ok .next, hq' => exact False.elim hq'
  | .ok .brk, hq' => exact False.elim hq'
  | .ok .cont, hq' => exact False.elim hq'
theorem pe_makeKw (M : Mk X.K C f) (F : FnRK X.prog X.w X.K X.mg X.base CX k f (n + 1) ks sp) (hr : Room (k + 1) X.A) (hg : Gl X x) (hm : X.mg x = some (.ref C)) (hx : Passes CX X E)
    (ha : PA X (e :: es) t) (hkw : PK X kws tk) (hall : (backToKw pos (keywordEach kws X.env)).all (·.1.isSome) = true := by rfl) (hks : (backToKw pos (keywordEach kws X.env)).filterMap (·.1) = ks := by rfl)
    (hdb : (x == ("__debug__" : Str)) = false := by decide) (he : starEach (e :: es) X.env = (false, eval e X.env) :: starEach es X.env := by rfl)
    (hpl : ((backTo pos (starEach (e :: es) X.env)).any (·.1) || (backToKw pos (keywordEach kws X.env)).any (·.1.isNone)) = false := by rfl) :
    PE X (.Call (.Name x p) (e :: es) kws pos) (tMakeK C n ks.length sp E t tk) := by
  constructor
  intro pins s σ H Q I h
  refine wpAny_Call_Name_kw (ld_glob I hg hm (PySem.W.callWith_KW (h₀ := X.base) I.ok.mod.kin M.kp hall (thn (ha.run pos pins s σ H _ I h) fun us s1 ⟨vs, H1, I1, r, q⟩ => ?_) hpl he) hdb)
  refine thn (hkw.run pos pins s1 σ H1 _ I1 q) fun ws s2 ⟨zs, H2, I2, rz, l1, l2, q2⟩ => ⟨I2.kIn, ?_⟩
  rw [hks]
  exact run_makeK M F hr hx I2 r rz l1 l2 q2
theorem pe_makeK0 (M : Mk X.K C f) (F : FnRK X.prog X.w X.K X.mg X.base CX k f 1 ks sp) (hr : Room (k + 1) X.A) (hg : Gl X x) (hm : X.mg x = some (.ref C)) (hx : Passes CX X E)
    (hkw : PK X kws tk) (hall : (backToKw pos (keywordEach kws X.env)).all (·.1.isSome) = true := by rfl) (hks : (backToKw pos (keywordEach kws X.env)).filterMap (·.1) = ks := by rfl)
    (hdb : (x == ("__debug__" : Str)) = false := by decide) (hpl : ((backTo pos (starEach [] X.env)).any (·.1) || (backToKw pos (keywordEach kws X.env)).any (·.1.isNone)) = false := by rfl) :
    PE X (.Call (.Name x p) [] kws pos) (tMakeK C 0 ks.length sp E tNil tk) := by
  constructor
  intro pins s σ H Q I h
  refine wpAny_Call_Name_kw (ld_glob I hg hm (PySem.W.callWith_KW0 (h₀ := X.base) I.ok.mod.kin M.kp hall ?_ hpl) hdb)
  refine thn (hkw.run pos pins s σ H _ I h) fun ws s2 ⟨zs, H2, I2, rz, l1, l2, q2⟩ => ⟨I2.kIn, ?_⟩
  rw [hks]
  exact run_makeK (us := []) (vs := []) M F hr hx I2 .nil rz rfl l2 q2
theorem pe_methK1 {pl : Sem Bool} (he : PE X o ta) (c : Cls X.K C) (hm : Meth X.K C m f) (F : FnRK X.prog X.w X.K X.mg X.base CX k f 1 ks sp) (hr : Room k X.A) (hx : Passes CX X E) (hkw : PK X kws tk)
    (hall : (backToKw pos (keywordEach kws X.env)).all (·.1.isSome) = true := by rfl) (hks : (backToKw pos (keywordEach kws X.env)).filterMap (·.1) = ks := by rfl)
    (hpl : ((backTo pos (starEach [] X.env)).any (·.1) || (backToKw pos (keywordEach kws X.env)).any (·.1.isNone)) = false := by rfl)
    (ht : eval (.Call (.Attribute o m apos) [] kws pos) X.env = (do
      let ov ← eval o X.env
      standAt apos.atName
      let (f, first) ← holding [ov] (getMethod ov m pl)
      callWith pos f first (backTo pos (starEach [] X.env)) (backToKw pos (keywordEach kws X.env))) := by rfl) :
    PE X (.Call (.Attribute o m apos) [] kws pos) (tMethK C m ks.length sp E ta tk) := by
  constructor
  intro pins s σ H Q I h
  apply PySem.W.methodCall_KW (pl := pl) ?_ ht
  refine thn (he.run pins s σ H _ I h) fun u s1 ⟨x, H1, I1, rx, a, dx, fs, ex, ea, l, q⟩ => ?_
  subst ex
  cases (show u = Value.ref a from rx)
  refine getmeth_ok I1 ea c hm l ?_
  refine PySem.W.callWith_KW0 (first := [.ref a]) (h₀ := X.base) I.ok.mod.kin hm.kp hall ?_ hpl
  refine thn (hkw.run pos pins s1 σ H1 _ I1 q) fun ws s2 ⟨zs, H2, I2, rz, l2, q2⟩ => ⟨I2.kIn, ?_⟩
  rw [hks]
  apply wpAny_call
  refine codeAny_mono (F X.A X.stack s2 H2 [.ref a] ws [.ref a] zs Q E hr I2.env0 (.cons (rr a) .nil) rz rfl l2 q2) fun r s' hq => ?_
  match r, hq with
  | .error e, hq => exact hx pins σ H2 s2 e s' I2 hq
  | .ok (.ret u), hq => exact I2.after hq
  | .ok .next, hq => exact False.elim hq
  | .ok .brk, hq => exact False.elim hq
  | .ok .cont, hq => exact False.elim hq
end
end Ws

set_option Elab.async false
set_option linter.all false
set_option maxRecDepth 100000
set_option maxHeartbeats 4000000
namespace Ws
open PySem PySem.Spec PyProof.Rows L2
/-- at a: an exception of the class cls, its dict d -/
def ExV (a : Addr) (cls : Value) (d : Option Addr) : HO := .ext fun h => ∃ (oe : Obj) (vs : Array Value), h.get? a = some oe ∧ Zc cls d oe ∧ oe.data = .fields vs
theorem exV_tbl {a : Addr} {cls : Value} {d : Option Addr} (ps : Array Value) : ExV a cls d ≠ .tbl ps := fun z => by
  unfold ExV at z
  cases z
section
variable {X : Cx} {pins : List (Addr × Obj)} {σ : L2.St} {H : Hp} {s : Shared}
/-- a pinned exception, new to the def, is tracked from now on -/
theorem track {a : Addr} {oe : Obj} {vs : Array Value} {cls : Value} {d : Option Addr} (I : Inv X ((a, oe) :: pins) σ H s) (hz : Zc cls d oe) (hv : oe.data = .fields vs)
    (new : X.s_0.heap.get? a = none) (hp : ∀ p ∈ X.pn ++ pins, p.1 ≠ a) : Inv X pins σ (upd H a (ExV a cls d)) s := by
  obtain ⟨at_, na, nl, nf, nc⟩ := I.pin (a, oe) (List.mem_append_right _ List.mem_cons_self)
  have far : ∀ {b u}, H b = some u → b ≠ a := fun e z => by rw [z, na] at e; cases e
  have old : ∀ {b o}, X.s_0.heap.get? b = some o → b ≠ a := fun e z => by rw [z, new] at e; cases e
  constructor
  · exact I.ok
  · exact I.os
  · exact I.bare
  · refine ⟨I.base.keep, I.base.slot, fun b o e n q => ?_, I.base.there, fun b xs e => ?_, fun b o u e => ?_, fun b ps e => ?_⟩
    · rw [upd_ne (old e)]; exact I.base.free b o e n q
    · have := I.base.tups b xs e
      rw [upd_ne (far this)]; exact this
    · have := I.base.frzs b o u e
      rw [upd_ne (far this)]; exact this
    · obtain ⟨m, q⟩ := I.base.tbls b ps e
      exact ⟨m, by rw [upd_ne (far q)]; exact q⟩
  · exact I.loc
  · exact I.cell
  · rw [upd_ne (Ne.symm nl)]; exact I.free
  · intro y c e
    obtain ⟨v, o, ho, hd⟩ := I.cell y c e
    have : c ≠ a := fun z => by
      rw [z] at ho
      have e2 : oe = o := Option.some.inj (at_.symm.trans ho)
      exact nc v (by rw [e2]; exact hd)
    rw [upd_ne this]; exact I.freeC y c e
  · intro p h
    obtain ⟨e, n, q⟩ := I.pin p (by
      rcases List.mem_append.mp h with h | h
      · exact List.mem_append_left _ h
      · exact List.mem_append_right _ (List.mem_cons_of_mem _ h))
    exact ⟨e, by rw [upd_ne (hp p h)]; exact n, q⟩
  · intro b u e
    by_cases z : b = a
    · subst z
      rw [upd_same] at e
      cases e
      exact ⟨⟨oe, vs, at_, hz, hv⟩, ⟨oe, at_⟩, fun h1 h2 ⟨o, v, g, r⟩ k => ⟨o, v, k o g, r⟩⟩
    · rw [upd_ne z] at e
      exact (I.hok b u e).stay (fun _ _ _ q => q) (fun c q => by rw [upd_ne (far q)]; exact q) fun c xs q => by rw [upd_ne (far q)]; exact q
  · exact I.len
/-- what the clause 'except x as n: y = n' wishes of an exception of the body (i: n's slot, j: y's) -/
def wKeep (K : PySem.W.Frag) (n : Nat) (c : Value) (i j : Nat) (D : Ends) : WX := fun cls d σ H => σ.length = n →
  PySem.W.exmOne K cls c = some true ∧ ∀ a, H a = none → D.nx (((σ.set i (some (.ref a))).set j (some (.ref a))).set i none) (upd H a (ExV a cls d))
/-- try: body / except x as n: y = n, where the body raises nothing else -/
theorem ps_try_keep {x n y : Str} {c : Value} {i j : Nat} {body : List Stmt} {np pos pos' p3 p4 p5 : Pos} {tb : WX → TS} (hs : X.stack = X.env :: X.outer) (hf : X.env.frame = some X.env.locals) (hN : X.N.Nodup)
    (hi : X.N[i]? = some n) (hln : X.env.kindOf n = some .local) (hj : X.N[j]? = some y) (hly : X.env.kindOf y = some .local) (hex : X.ex = []) (hc : Names X x c)
    (hb : ∀ (W : WX) (pn : List (Addr × Obj)) (xe : Value → Shared → Prop), Takes (X.tr pn xe) W → PassesOwn (model X.prog X.w) X.A X.env xe → PSs (X.tr pn xe) body (tb W))
    (hd1 : (n == ("__debug__" : Str)) = false := by decide) (hd2 : (n == ("__classdict__" : Str)) = false := by decide)
    (hsw : swapsWith (.Name n p4) (some (.Name y p3)) p5.line X.env = pure false := by rfl) :
    PS X (.Try body [.ExceptHandler (some (.Name x np)) (some n) [.Assign [.Name y p3] (.Name n p4) p5] pos'] [] [] pos) (fun D σ H => tb (wKeep X.K X.N.length c i j D) D σ H) := by
  constructor
  intro pins s σ H D I h
  have ok := I.ok
  have fr : X.A.frames = some (X.env :: X.outer) := by rw [ok.frames, hs]
  apply wpAny_Try_except
  have bd := (hb (wKeep X.K X.N.length c i j D) (X.pn ++ pins) (fun e s1 => wpAny (model X.prog X.w) X.A (noteFrame e X.env) (fun _ s2 => wpAny (model X.prog X.w) X.A (setFlight e none)
    (fun _ s3 => wpAny (model X.prog X.w) X.A (handleBy e X.env [.ExceptHandler (some (.Name x np)) (some n) [.Assign [.Name y p3] (.Name n p4) p5] pos']) (SP X pins D) X.xe s3) X.xe s2) X.xe s1) (fun u t xx => ?_) .looking).run [] s σ H D (I.toTry _) h
  · refine wpAny_mono bd (fun f t q => ?_) fun _ _ e => e
    cases f with
    | next => obtain ⟨σ1, H1, J, q⟩ := q; exact wpAny_execs_nil ⟨σ1, H1, J.ofTry ok, q⟩
    | ret v => obtain ⟨v1, σ1, H1, J, r, q⟩ := q; exact ⟨v1, σ1, H1, J.ofTry ok, r, q⟩
    | brk => obtain ⟨σ1, H1, J, q⟩ := q; exact ⟨σ1, H1, J.ofTry ok, q⟩
    | cont => obtain ⟨σ1, H1, J, q⟩ := q; exact ⟨σ1, H1, J.ofTry ok, q⟩
  · obtain ⟨a, B, sI, pins1, σ1, H1, cls, d, rfl, J1, nb, up, sky, na, os, ag, wish⟩ := xx
    have J := J1.ofTry ok
    obtain ⟨hm, go⟩ := wish J.len
    rw [show (X.tr (X.pn ++ pins) _).stack = X.env :: X.outer from hs] at sky
    apply Sky.land Zc.steady fr hf sky
    intro h3 f3 up3
    obtain ⟨o3, v3, a3, z3, d3⟩ := f3.there
    have nB : B.get? a = none := f3.2.1
    have nfr : a ∉ frs (X.env :: X.outer) := fun m => by
      obtain ⟨_, o, e, q⟩ := f3.2.2.1.mem m
      have : o3 = o := Option.some.inj (a3.symm.trans e)
      exact q _ (this ▸ d3)
    have nL : a ≠ X.env.locals := fun z => nfr (List.mem_filterMap.mpr ⟨_, List.mem_cons_self, by rw [hf, z]⟩)
    have nF : a ∉ X.fs := fun m => by
      obtain ⟨e, he, q⟩ := List.mem_filterMap.mp m
      exact nfr (List.mem_filterMap.mpr ⟨e, List.mem_cons_of_mem _ he, q⟩)
    have nI : sI.heap.get? a = none := by
      cases q : sI.heap.get? a with
      | none => rfl
      | some o => have := nb a o q (by rw [show (X.tr (X.pn ++ pins) _).stack = X.env :: X.outer from hs]; exact nfr); rw [nB] at this; cases this
    have n0 : X.s_0.heap.get? a = none := by
      cases q : X.s_0.heap.get? a with
      | none => rfl
      | some o => obtain ⟨o', e⟩ := J.base.there a o q (by rw [hex]; exact fun z => nomatch z); rw [nI] at e; cases e
    have J3 : Inv X pins σ1 H1 { t with heap := h3 } := J.landed nb f3.1 (up.trans up3) os ag
    have S3 := J3.suite a3 d3 na nL nF
    apply wpAny_handleBy_cons ?_ (by intro q; cases q)
    apply codeAny_handlers_test
    have LT : PySem.W.Looks (model X.prog X.w) h3 (typeOf (.ref a)) cls := fun _ _ _ _ k q => wpAny_typeOf_ref (k _ _ a3) (by rw [z3.1]; exact q)
    have LM := PySem.W.exm_one (M := model X.prog X.w) S3.kIn LT hm
    have test : ∀ {Q : Value → Shared → Prop} {E : Value → Shared → Prop}, Q c { t with heap := h3 } → wpAny (model X.prog X.w) (X.A.mark (some (.ref a))) (eval (.Name x np) X.env) Q E { t with heap := h3 } := by
      intro Q E q
      obtain ⟨g, gd, m | ⟨m, v, nn⟩⟩ := hc
      · exact ld_glob (X := X.suite a ((a, o3) :: (X.pn ++ pins))) S3 g m q gd
      · exact ld_blt (X := X.suite a ((a, o3) :: (X.pn ++ pins))) S3 g m v q nn gd
    refine test (LM.here ?_)
    apply codeAny_handlers_suite_as
    apply HandSPX.lands_againZ f3
    intro h4 f4 up4
    obtain ⟨o4, v4, a4, z4, d4⟩ := f4.there
    have J4 : Inv X pins σ1 H1 { t with heap := h4 } := J.landed nb f4.1 ((up.trans up3).trans up4) os ag
    have far : ∀ p ∈ X.pn ++ pins, p.1 ≠ a := fun p hp z => by
      have := (J.pin p hp).1
      rw [z, nI] at this
      cases this
    have S4 := J4.suite a4 d4 na nL nF
    refine store_ok (X := X.suite a ((a, o4) :: (X.pn ++ pins))) (v := .ref a) S4 hN hi (.inl hln) rfl (fun s5 S5 => ?_) (.inr hln)
    have st : PSs (X.suite a ((a, o4) :: (X.pn ++ pins))) [.Assign [.Name y p3] (.Name n p4) p5] _ := pss_one (ps_set (i := j) hN hj (.inl hly) (pe_var (i := i) hi (.inl hln) hd1 hd2) hsw (.inr hly))
    have hl : i < σ1.length := by rw [J.len]; exact (List.getElem?_eq_some_iff.mp hi).1
    refine wpAny_mono (st.run [] s5 _ H1 { nx := fun σ2 H2 => σ2 = (σ1.set i (some (.ref a))).set j (some (.ref a)) ∧ H2 = H1, rt := fun _ _ => False } S5 ⟨.ref a, by simp [hl], rfl, rfl⟩) (fun f s6 q => ?_) fun _ _ z => z.elim
    cases f with
    | ret v => obtain ⟨_, _, _, _, _, q⟩ := q; exact q.elim
    | brk => obtain ⟨_, _, _, q⟩ := q; exact q.elim
    | cont => obtain ⟨_, _, _, q⟩ := q; exact q.elim
    | next =>
      obtain ⟨σ2, H2, S6, e1, e2⟩ := q
      subst e1 e2
      have J6 : Inv X ((a, o4) :: pins) _ H2 s6 := ⟨ok, S6.os, S6.bare, S6.base, S6.loc, S6.cell, S6.free, S6.freeC, fun p hp => S6.pin p (by
        refine List.mem_append_left _ ?_
        rcases List.mem_append.mp hp with hp | hp
        · exact List.mem_cons_of_mem _ (List.mem_append_left _ hp)
        · rcases List.mem_cons.mp hp with hp | hp
          · rw [hp]; exact List.mem_cons_self
          · exact List.mem_cons_of_mem _ (List.mem_append_right _ hp)), S6.hok, S6.len⟩
      refine gone_ok (Q := fun _ s7 => SP X pins D .next s7) J6 hN hi hln fun s7 J7 => ?_
      exact ⟨_, _, track J7 z4 d4 n0 far, go a na⟩
end
/-! ### what passes -/
theorem passF {X : Cx} : Passes (L2.CX X.prog X.w) X E0 := fun _ _ _ _ _ _ _ z => by
  obtain ⟨_, _, _, _, _, _, _, _, _, _, _, _, z⟩ := z
  exact z.elim
/-! ### a def that raises, as a positional promise -/
section
variable {P : Program} {w : World} {K : PySem.W.Frag} {mg : Str → Option Value} {base : Heap} {x qual : Str} {params : Arguments} {body : List Stmt} {scope : Scope} {f : Addr}
theorem okRE {kws : List (Str × V)} {N ps : List Str} {k : Nat} {sp : Sp} (F : ∃ fd, FunD K x qual params body scope [] kws f fd) (S : FnScope N ps scope) (B : ArgsGo x qual params body scope ps)
    (len : ∀ vs H Q E, sp vs H Q E → vs.length = ps.length)
    (hbody : ∀ (cdv : Value) (A : Around) (outer : List Env) (s : Shared) (H : Hp) (vs : List V) (Q : VK) (E : XK), Room k (A.deeper (envOfC qual scope s.heap.objs.size f cdv)) → sp vs H Q E →
      ∃ t, PSs (cxOf (L2.CX P w) P w K mg base N qual scope f cdv A outer s H E) body t ∧ t { nx := fun _ H' => Q .non H', rt := Q } (start N vs) H) : FnR P w K mg base (L2.CX P w) (k + 1) f sp := by
  obtain ⟨fd, F⟩ := F
  exact FnR.imp ((F.ok S len fun cdv A outer s H vs Q E hr h => hbody cdv A outer s H vs Q E hr h).raw (F.bindsN B) .nil) fun vs H Q E h => by rwa [List.append_nil]
end
/-! ### isinstance of a kept exception that has no dict -/
def rIsEV (K : PySem.W.Frag) : List V → Hp → VK → Prop := fun xs H Q => ∃ (a D : Addr) (c : V) (cv : Value) (b : Bool), xs = [.ref a, c] ∧ H a = some (ExV a (.ref D) none) ∧ ExcC K D ∧ (∀ u, RelV c u → u = cv) ∧ PySem.W.kitOne K (.ref D) cv = some b ∧ Q (.bl b) H
theorem call_isEV {X : Cx} : CallR X (.builtin "isinstance") (rIsEV X.K) := by
  intro pins s σ H xs us Q I r h
  obtain ⟨a, D, c, cv, b, rfl, ha, C, hcv, e, q⟩ := h
  obtain ⟨⟨oe, vs, at_, hz, hv⟩, _, _⟩ := I.hok a _ ha
  match us, r with
  | [_, _], .cons r1 (.cons r2 .nil) =>
    cases (show _ = Value.ref a from r1)
    cases hcv _ r2
    have J : PySem.W.InstAt s.heap a oe D none := by
      obtain ⟨oc, od, oda, osl⟩ := oe
      obtain ⟨h1, h2⟩ := hz
      dsimp only at h1 h2 hv
      subst h1 h2 hv
      exact ⟨at_, rfl, rfl, trivial⟩
    exact PySem.W.kia_one (PySem.W.handS_kitx_exc C.hg C.hk C.hs C.hd C.ha C.hn C.ht C.hm) I.kIn J e (fun z => nomatch z) fun tk => ⟨.bl b, H, I.kept (t' := tk) fun _ _ z => z, rfl, q⟩
/-! ### == of an instance and any thing -/
/-- x == y (x != y), x an instance of the own class C -/
def rEqO (K : PySem.W.Frag) (C : Addr) (sp : Sp) (E : XK) (neg : Bool) : R2 := fun x y H Q => ∃ a dx fs t, x = .ref a ∧ H a = some (.ins C dx fs) ∧ TyX K H y t ∧ PySem.W.notFirst K C t = true ∧
  sp [x, y] H (fun v H' => ∃ k, v = .bl k ∧ Q (.bl (if neg then !k else k)) H') E
section
variable {X : Cx} {CX : CXT} {n : Nat} {g C : Addr} {sp : Sp} {E : XK}
theorem op_eqO (hs : PySem.W.findIn X.K (.ref C) "__eq__" = some (some (.ref g))) (hf : PySem.W.isFn X.K (.ref g) = true)
    (F : FnR X.prog X.w X.K X.mg X.base CX n g sp) (hr : Room n X.A) (hx : Passes CX X E) : OpR X (compareOp .Eq) (rEqO X.K C sp E false) := by
  intro pins s σ H x y v u Q I rx ry h
  obtain ⟨a, dx, fs, t, rfl, ha, ty, hn, q⟩ := h
  cases (show v = Value.ref a from rx)
  obtain ⟨od, J⟩ := inst_of I ha
  obtain ⟨Pk, kt, pk, _⟩ := kit_of I ry ty
  obtain ⟨m, hF⟩ := I.fr
  show wpAny _ _ (richCompare .Eq (.ref a) u) _ _ _
  refine PySem.W.cmp_K (op := .Eq) (tb := t) hr.units0 hF I.ok.mod.kin J (kt.ty _ _ I.kIn pk) hn hs hf (wpAny_mono (run_sub F hr rfl hx I (.cons (rr a) (.cons ry .nil)) q) (fun r s' z => ?_) fun _ _ e => e)
  obtain ⟨z', H', I', rz, k, ek, q'⟩ := z
  subst ek
  cases (show r = Value.bool k from rz)
  exact ⟨.bl k, H', I', rfl, q'⟩
theorem op_neO (hne : PySem.W.findIn X.K (.ref C) "__ne__" = some (some (.builtin "object.__ne__"))) (hm : PySem.W.mroIn X.K C (.type "object") = some true)
    (hs : PySem.W.findIn X.K (.ref C) "__eq__" = some (some (.ref g))) (hf : PySem.W.isFn X.K (.ref g) = true)
    (F : FnR X.prog X.w X.K X.mg X.base CX n g sp) (hr : Room (n + 1) X.A) (hx : Passes CX X E) : OpR X (compareOp .NotEq) (rEqO X.K C sp E true) := by
  intro pins s σ H x y v u Q I rx ry h
  obtain ⟨a, dx, fs, t, rfl, ha, ty, hn, q⟩ := h
  cases (show v = Value.ref a from rx)
  obtain ⟨od, J⟩ := inst_of I ha
  obtain ⟨Pk, kt, pk, _⟩ := kit_of I ry ty
  obtain ⟨m, hF⟩ := I.fr
  show wpAny _ _ (richCompare .NotEq (.ref a) u) _ _ _
  refine ne_K (tb := t) hr.in1.units0 hF I.ok.mod.kin J (kt.ty _ _ I.kIn pk) hn hne hm hs hf (wpAny_mono (run_sub F hr.in1 rfl hx I (.cons (rr a) (.cons ry .nil)) q) (fun r s' z => ?_) fun _ _ e => e)
  obtain ⟨z', H', I', rz, k, ek, q'⟩ := z
  subst ek
  cases (show r = Value.bool k from rz)
  exact ⟨k, rfl, .bl (!k), H', I', rfl, q'⟩
end
end Ws

set_option Elab.async false
set_option linter.all false
set_option maxRecDepth 100000
set_option maxHeartbeats 4000000
namespace Ws
open PySem PySem.Spec PyProof.Rows L2 LamX
section
variable {X : Cx} {pins : List (Addr × Obj)} {σ : L2.St} {H : Hp} {s : Shared}
theorem TabS.kp {S : Addr → Prop} {H H' : Hp} {P : Addr} {q : Str} (t : TabS H P q) (u : Kp S H H') (nP : ¬ S P) (nS : ∀ a, S a → ∃ o, H a = some o ∧ o ≠ CodeO a q) : TabS H' P q := by
  obtain ⟨ps, h1, h2, h3⟩ := t
  refine ⟨ps, u.keep _ _ h1 nP, h2, fun pos cv e => ?_⟩
  obtain ⟨c, e1, e2⟩ := h3 pos cv e
  refine ⟨c, e1, u.keep _ _ e2 fun z => ?_⟩
  obtain ⟨o, e3, ne⟩ := nS c z
  rw [e2] at e3
  exact ne (Option.some.inj e3).symm
theorem TabS.ext' {H H' : Hp} {P : Addr} {q : Str} (t : TabS H P q) (e : Ext H H') : TabS H' P q := LamX.TabS.ext t e
/-- a lambda is made: its code object is new in the table at P, or was there -/
theorem lam_made {c P : Addr} {params : Arguments} {body : PySem.Expr} {scope : Scope} {pos : Pos} {E : Value → Shared → Prop} {Q : Value → Shared → Prop} (I : Inv X pins σ H s) (TB : TabB X.base X.mg c P) (hcode : X.env.code = .ref c)
    (tb : TabS H P (X.env.qual ++ "<lambda>")) (hdef : defaultsOf params X.env = ([], [])) (hfree : ∀ y ∈ scope.names, y.2 = .free → ∃ c, X.env.cells.lookup y.1 = some c)
    (k : ∀ (f c' : Addr) (pm ctv : Value) (H1 : Hp) (s' : Shared), Inv X pins σ H1 s' → Kp (fun a => a = P) H H1 → TabS H1 P (X.env.qual ++ "<lambda>") →
      s'.heap.get? f = some (PySem.W.kla_obj "<lambda>" (X.env.qual ++ "<lambda>") params body scope (cloFrom X.env.cells scope.names []) pm c' ctv) → H1 f = none → f ∉ frs X.stack → H1 c' = some (CodeO c' (X.env.qual ++ "<lambda>")) → Q (.ref f) s') :
    wpAny (model X.prog X.w) X.A (eval (.Lambda params body scope pos) X.env) Q E s := by
  obtain ⟨ps, hP, triples, among⟩ := tb
  have atP : s.heap.get? P = some { cls := .none, data := .fields ps } := I.hok P _ hP
  have bP := TB.bm.keeps I.bk
  have below : ∀ f, s.heap.objs.size ≤ f → f ∉ frs X.stack := fun f hf z => by
    rcases List.mem_cons.mp (I.stkSub _ z) with e | e
    · subst e
      exact Nat.lt_irrefl _ (Nat.lt_of_lt_of_le I.lt hf)
    · exact I.nofs hf e
  apply PySem.W.kla_eval hdef
  cases look : codeAmong pos ps.toList with
  | some cv =>
    obtain ⟨c', rfl, hco⟩ := among pos cv look
    apply PySem.W.kla_makeFunctionHit (mg := X.mg) (c := c) (P := P) (ps := ps) (closure_ok hfree) I.ok.glob (I.mod.glob.keeps I.bk) hcode (TB.code.keeps I.bk) atP triples look bP
    intro ctv h' tk hx hsz
    refine k h'.objs.size c' _ ctv H _ (I.kept (t' := tk) fun b o e => Heap.get?_push_of_some _ (hx b o e)) .refl ⟨ps, hP, triples, among⟩ (Heap.get?_push_size _ rfl) (I.hok.fresh hsz) (below _ hsz) hco
  | none =>
    apply PySem.W.kla_makeFunction (mg := X.mg) (c := c) (P := P) (ps := ps) (closure_ok hfree) I.ok.glob (I.mod.glob.keeps I.bk) hcode (TB.code.keeps I.bk) atP triples look TB.gP bP
    intro c' ctv h' tk hx hge hlt hrec htb
    obtain ⟨c2, oc, vs, t, e2, hoc, hd, hv⟩ := hrec
    cases e2
    have sz : s.heap.objs.size ≤ h'.objs.size := Nat.le_trans hge (Nat.le_of_lt hlt)
    have nC : H c' = none := I.hok.fresh hge
    have PC : P ≠ c' := ne_of_none hP nC
    have tl : (ps ++ #[rawInt pos.line, rawInt pos.col, .ref c']).toList = ps.toList ++ [rawInt pos.line, rawInt pos.col, .ref c'] := by simp
    have keepO : ∀ b o, H b = some o → b ≠ P → (upd (upd H P (.tbl (ps ++ #[rawInt pos.line, rawInt pos.col, .ref c']))) c' (CodeO c' (X.env.qual ++ "<lambda>"))) b = some o := fun b o e n => by
      rw [upd_ne (ne_of_none e nC), upd_ne n]; exact e
    have I1 := inv_table (t' := tk) (more := #[rawInt pos.line, rawInt pos.col, .ref c']) (h' := h'.push (PySem.W.kla_obj "<lambda>" (X.env.qual ++ "<lambda>") params body scope (cloFrom X.env.cells scope.names []) ((X.mg "__name__").getD .none) c' ctv)) I hP
      (fun b o n e => Heap.get?_push_of_some _ (hx b o n e)) (Heap.get?_push_of_some _ htb) hge ⟨oc, vs, t, Heap.get?_push_of_some _ hoc, hd, hv⟩
    refine k h'.objs.size c' _ ctv _ _ I1 ⟨fun b o e n => keepO b o e n, fun b hb => ?_⟩ ⟨_, by rw [upd_ne PC, upd_same], by rw [tl]; exact PySem.TriplesOk_snoc _ _ _ _ triples, fun p cv e => ?_⟩ (Heap.get?_push_size _ rfl) ?_ (below _ sz) upd_same
    · by_cases z : b = P
      · rw [z, upd_ne PC, upd_same]; exact fun q => nomatch q
      · cases q : H b with
        | none => exact absurd q hb
        | some o => rw [keepO b o q z]; exact fun q => nomatch q
    · rw [tl] at e
      rcases among_app _ triples e with z | z
      · obtain ⟨c0, e1, e2⟩ := among p cv z
        exact ⟨c0, e1, keepO _ _ e2 fun q => codeO_ne ps (by rw [q, hP] at e2; exact (Option.some.inj e2).symm)⟩
      · exact ⟨c', z, upd_same⟩
    · rw [upd_ne (Nat.ne_of_gt hlt), upd_ne (Nat.ne_of_gt (Nat.lt_of_lt_of_le (Heap.lt_size atP) sz))]
      exact I.hok.fresh sz
end
/-! ### x(lambda: e) where x keeps what it raises -/
/-- what such a def makes of the lambda's reading -/
def TKeep (K : PySem.W.Frag) (CS : Addr) : (XK → Hp → VK → Prop) → Hp → VK → Prop := fun tl H Q =>
  tl (fun cls d H' => PySem.W.exmOne K cls (.ref CS) = some true ∧ ∀ a, H' a = none → Q (.ref a) (upd H' a (ExV a cls d))) H (fun _ H' => Q .non H')
def tKept (K : PySem.W.Frag) (CS P : Addr) (q : Str) (t : XK → TE) : TE := fun σ H Q => TabS H P q ∧ ∀ H1, Kp (fun a => a = P) H H1 → TabS H1 P q → TKeep K CS (fun E H' Q' => t E σ H' Q') H1 Q
/-- the def's body: y = None / try: a() / except e as n: y = n / return y -/
theorem keep_gives {X : Cx} {x a n y e q : Str} {sg : Scope} {g CS : Addr} {cdg : Value} {p1 p2 p3 p4 p5 p6 p7 p8 p9 p10 p11 p12 p13 p14 : Pos} (nd : [a, y, n].Nodup) (hn : sg.names.lookup n = some .local) (hy : sg.names.lookup y = some .local)
    (he : sg.names.lookup e = some .globalImplicit) (hm : X.mg e = some (.ref CS)) (hde : (e == ("__debug__" : Str)) = false) (h1 : (n == ("__debug__" : Str)) = false) (h2 : (n == ("__classdict__" : Str)) = false) (h3 : (y == ("__debug__" : Str)) = false) (h4 : (y == ("__classdict__" : Str)) = false)
    (sw : ∀ env, swapsWith (.Name n p9) (some (.Name y p8)) p10.line env = pure false) :
    GivesTo X [a, y, n] x sg g cdg [.Assign [.Name y p1] (.Constant .none 0 p2) p3, .Try [.Expr (.Call (.Name a p4) [] [] p5) p6] [.ExceptHandler (some (.Name e p7)) (some n) [.Assign [.Name y p8] (.Name n p9) p10] p11] [] [] p12, .Return (some (.Name y p13)) p14] a q (TKeep X.K CS) := by
  intro f c' s H Q tl act hc h
  refine ⟨_, pss_cons (ps_set (i := 1) nd rfl (.inl hy) pe_non) (pss_cons (ps_try_keep (i := 2) (j := 1) (c := .ref CS) rfl rfl nd rfl hn rfl hy rfl ⟨he, hde, .inl hm⟩
    (tb := fun W D σ H => ∃ Ech : XK, (∀ cls d σ' H', Ech cls d H' → W cls d σ' H') ∧ σ[0]? = some (some (.ref f)) ∧ H c' = some (CodeO c' q) ∧ tl Ech H (fun _ H' => D.nx σ H'))
    (fun W pn xe tk _ => ?_) h1 h2 (sw _)) (pss_one (ps_ret (pe_var (i := 1) rfl (.inl hy) h3 h4)))), ?_⟩
  · constructor
    intro pins s' σ H' D I hh
    obtain ⟨Ech, hW, g1, g2, g3⟩ := hh
    exact (pss_one (ps_expr (act W pn xe Ech p4 p5 tk hW))).run pins s' σ H' D I ⟨g1, g2, g3⟩
  · refine ⟨fun cls d H' => PySem.W.exmOne X.K cls (.ref CS) = some true ∧ ∀ b, H' b = none → Q (.ref b) (upd H' b (ExV b cls d)), fun cls d σ' H' ⟨z1, z2⟩ hl => ⟨z1, fun b nb => ?_⟩, rfl, hc, ?_⟩
    · match σ', hl with
      | [_, _, _], _ => exact ⟨_, rfl, z2 b nb⟩
    · have e1 : (fun (_ : V) (H' : Hp) => (tRet (tVar 1) { nx := fun _ H' => Q V.non H', rt := Q } ((L2.start [a, y, n] [V.ref f]).set 1 (some V.non)) H' : Prop)) = fun _ H' => Q .non H' := by
        funext v H'
        exact propext ⟨fun ⟨w, e1, z⟩ => by cases e1; exact z, fun z => ⟨_, rfl, z⟩⟩
      show tl _ H (fun (_ : V) (H' : Hp) => (tRet (tVar 1) { nx := fun _ H' => Q V.non H', rt := Q } ((L2.start [a, y, n] [V.ref f]).set 1 (some V.non)) H' : Prop))
      rw [e1]
      exact h
/-- x(lambda: e) -/
theorem pe_kept {X : Cx} {x a : Str} {g CS c P : Addr} {k : Nat} {pg : Arguments} {bg : List Stmt} {sg : Scope} {Ng : List Str} {params : Arguments} {body : PySem.Expr} {scope : Scope} {t : XK → TE} {p lpos pos : Pos}
    (F : ∃ fd, FunD X.K x x pg bg sg [] [] g fd) (hg : Gl X x) (hm : X.mg x = some (.ref g)) (B : ArgsGo x x pg bg sg [a]) (Sg : FnScope Ng [a] sg) (hN : Ng[0]? = some a) (hv : Vis sg a)
    (G : ∀ cdg, GivesTo X Ng x sg g cdg bg a (X.env.qual ++ "<lambda>") (TKeep X.K CS)) (TB : TabB X.base X.mg c P) (hcode : X.env.code = .ref c) (hr : Room (k + 2) X.A) (L : LamS X.env.scope scope) (hdef : defaultsOf params X.env = ([], []))
    (hbind : ∀ (q : Str) (cl : List (Str × Addr)) (pm cv ctv : Value), bindArgs (PySem.W.kla_fn "<lambda>" q params body scope cl pm cv ctv) ⟨[], []⟩ = pure [])
    (hbody : ∀ (A : Around) (outer : List Env) (s : Shared) (H : Hp) (E : XK) (f c' : Addr), Room k (A.deeper (lamEnv X scope s.heap.objs.size f c')) → PE (lamCx X A outer s H E scope f c') body (t E))
    (hdb : (x == ("__debug__" : Str)) = false := by decide) (hd : (a == ("__debug__" : Str)) = false := by decide) (hcd : (a == ("__classdict__" : Str)) = false := by decide) :
    PE X (.Call (.Name x p) [.Lambda params body scope lpos] [] pos) (tKept X.K CS P (X.env.qual ++ "<lambda>") t) := by
  obtain ⟨fd, F⟩ := F
  constructor
  intro pins s σ H Q I h
  obtain ⟨tb, h⟩ := h
  apply wpAny_Call_Name_kw (ld_glob I hg hm ?_ hdb)
  refine PySem.W.callWith_K (h₀ := X.base) I.ok.mod.kin F.kp ?_ (by rfl) (by rfl)
  show wpAny _ _ (spliced ((false, eval (.Lambda params body scope lpos) X.env) :: backTo pos (starEach [] X.env))) _ _ s
  apply Calls.spliced_cons
  refine lam_made I TB hcode tb hdef (L.has I.ok) fun f c' pm' ctv H1 s' I1 kp t1 hf hfn hfr hco => Calls.spliced_nil ⟨I1.kIn, wpAny_call ?_⟩
  obtain ⟨oc, od, dV, kV, doc, pm, an, cdv, ct, osl, rfl, lk, hco2, dfl, _⟩ := id F.ex
  have bs : L2.Binds X.K (PySem.W.fnOf x x pg bg sg dV kV doc pm an cdv ct) [a] [] := F.bindsN B
  have rc : codeAny (model X.prog X.w) X.A (.call (.ref g) ⟨[.ref f], []⟩) (CR C8.CX0 X.stack X.prog X.w H1 s' Q C8.E0) s' := by
    refine run_ofS (N := Ng) (ps := [a]) (us := [.ref f]) (vs := [.ref f]) lk hco2 Sg hr I1.env0 (bs s' [.ref f] I1.kIn rfl) (.cons rfl .nil) rfl fun hr' => ?_
    obtain ⟨t', ht', hq'⟩ := G cdv f c' s' H1 Q (fun E H' Q' => t E σ H' Q') (fun W pn xe E q1 q2 tk hW => pe_act (i := 0) I1 L hf hfn hfr (hbind _ _ _ _ _) tk hW hr' (fun A outer s H hr2 => hbody A outer s H E f c' hr2) hN hv hd hcd) hco (h H1 kp t1)
    exact ⟨t', ht'.nox, hq'⟩
  refine codeAny_mono rc fun r s2 hq => ?_
  match r, hq with
  | .error e, hq => exact (show False from hq).elim
  | .ok (.ret u), hq => exact I1.after hq
  | .ok .next, hq => exact False.elim hq
  | .ok .brk, hq => exact False.elim hq
  | .ok .cont, hq => exact False.elim hq
end Ws

set_option Elab.async false
set_option linter.all false
set_option maxRecDepth 100000
set_option maxHeartbeats 4000000
namespace Ws
open PySem PySem.Spec PyProof.Rows L2 LamX
abbrev tab0 : Obj := { cls := .none, data := .fields #[] }
/-- what is told of the law at the head's heap h: cs, code objects and their tables -/
structure TabsHere (K : PySem.W.Frag) (h : Heap) (cs : List (Addr × Addr)) : Prop where
  at_ : ∀ p ∈ cs, h.get? p.2 = some tab0
  out : ∀ p ∈ cs, K.lookup p.2 = none
  code : ∀ p ∈ cs, PySem.W.CodeHd h p.1 p.2
/-- the law's call at the heap behind the top, with tables -/
theorem law_callT {P : Program} {w : World} {K : PySem.W.Frag} {mg mb : Str → Option Value} {CX : CXT} {k : Nat} {fa a : Addr} {cs : List (Addr × Addr)} {sp : Sp} {s₁ : Shared} {vs : List Value} {ns : List Int}
    (KX : K.In s₁.heap) (gl : s₁.heap.Ns mainGlobals mg) (bl : s₁.heap.Ns builtinsNs mb) (bb : ∀ x : Str, x ≠ "__name__" → mb x = bootBuiltins x) (lim : s₁.heap.NoLimit) (gens : s₁.gens = #[]) (T : TabsHere K s₁.heap cs)
    (bm : ∃ (bm : Addr) (ob : Obj), mg "__builtins__" = some (.ref bm) ∧ bm ≠ builtinsNs ∧ s₁.heap.get? bm = some ob ∧ ob.cls = .type "module" ∧ ob.dict = some builtinsNs ∧ ob.data = .plain)
    (ha : s₁.heap.get? a = some (scrO vs)) (hi : IntsAre vs ns) (hl : ns.length ≤ sizeLine) (hr : Room k callerA)
    (F : ∀ base : Heap, K.In base → base.Ns mainGlobals mg → (∀ p ∈ cs, TabB base mg p.1 p.2) → FnRG P w K mg base CX k fa sp)
    (hsp : ∀ H : Hp, (∀ p ∈ cs, H p.2 = some (.tbl #[])) → SqL K H a (ns.map V.int) → sp [.ref a] H (fun v _ => v = .bl true) fun _ _ _ => False) (no : ∀ H e s', CX [] H s₁ (fun _ _ _ => False) e s' → False) :
    codeAny (model P w) callerA (.call (.ref fa) ⟨[.ref a], []⟩) (fun r s' => r = .ok (.ret (.bool true)) ∧ OldK s₁.heap s'.heap ∧ s'.os = s₁.os ∧ AllBare s'.gens) s₁ := by
  have rv := vals_ints hi
  obtain ⟨hT, nT, cT⟩ := T
  have inT : ∀ b, b ∈ cs.map (·.2) → s₁.heap.get? b = some tab0 ∧ K.lookup b = none := fun b m => by
    obtain ⟨p, hp, rfl⟩ := List.mem_map.mp m
    exact ⟨hT p hp, nT p hp⟩
  have aT : a ∉ cs.map (·.2) := fun m => by
    have := (inT a m).1
    rw [ha] at this
    exact nomatch (show Data.seq vs.toArray _ = Data.fields #[] from congrArg Obj.data (Option.some.inj this))
  -- H tracks the tables and at most the script
  suffices key : ∀ H : Hp, (∀ p ∈ cs, H p.2 = some (.tbl #[])) → (∀ b u, H b = some u → (b ∈ cs.map (·.2) ∧ u = .tbl #[]) ∨ (b = a ∧ u = .frz (scrO vs) (.lst (ns.map V.int)) ∧ K.lookup a = none)) → SqL K H a (ns.map V.int) →
      codeAny (model P w) callerA (.call (.ref fa) ⟨[.ref a], []⟩) (fun r s' => r = .ok (.ret (.bool true)) ∧ OldK s₁.heap s'.heap ∧ s'.os = s₁.os ∧ AllBare s'.gens) s₁ by
    have memT : ∀ p ∈ cs, p.2 ∈ cs.map (·.2) := fun p hp => List.mem_map.mpr ⟨p, hp, rfl⟩
    cases hk : K.lookup a with
    | some o =>
      have e := KX a o hk
      rw [ha] at e
      cases e
      refine key (fun b => if b ∈ cs.map (·.2) then some (.tbl #[]) else none) (fun p hp => if_pos (memT p hp)) (fun b u z => ?_) (.inr ⟨_, vs.toArray, _, hk, rfl, rfl, rfl, ?_, by simpa using rv⟩)
      · by_cases m : b ∈ cs.map (·.2)
        · rw [if_pos m] at z; exact .inl ⟨m, (Option.some.inj z).symm⟩
        · rw [if_neg m] at z; cases z
      · rw [List.size_toArray, hi.length]; exact hl
    | none =>
      refine key (upd (fun b => if b ∈ cs.map (·.2) then some (.tbl #[]) else none) a (.frz (scrO vs) (.lst (ns.map V.int)))) (fun p hp => ?_) (fun b u z => ?_) (.inl (.inr ⟨scrO vs, upd_same⟩))
      · rw [upd_ne (show p.2 ≠ a from fun z => aT (by rw [← z]; exact memT p hp))]; exact if_pos (memT p hp)
      · by_cases hb : b = a
        · subst hb
          rw [upd_same] at z
          exact .inr ⟨rfl, (Option.some.inj z).symm, hk⟩
        · rw [upd_ne hb] at z
          by_cases m : b ∈ cs.map (·.2)
          · rw [if_pos m] at z; exact .inl ⟨m, (Option.some.inj z).symm⟩
          · rw [if_neg m] at z; cases z
  intro H hTb hH hS
  -- what is no list and no empty record is not tracked
  have free : ∀ {b : Addr} {o : Obj}, s₁.heap.get? b = some o → (∀ xs n, o.data ≠ .seq xs n) → o.data ≠ .fields #[] → H b = none := fun {b o} e d1 d2 => by
    cases q : H b with
    | none => rfl
    | some u =>
      rcases hH b u q with ⟨m, _⟩ | ⟨rfl, _, _⟩
      · rw [(inT b m).1] at e
        cases e
        exact absurd rfl d2
      · rw [ha] at e
        cases e
        exact absurd rfl (d1 _ _)
  have hok : HOk P w H s₁.heap := fun b u q => by
    rcases hH b u q with ⟨m, rfl⟩ | ⟨rfl, rfl, _⟩
    · exact (inT b m).1
    · exact ⟨ha, by rw [List.length_map]; exact hl, vs, _, rv, ha⟩
  have nsK : ∀ {b : Addr} {m : Str → Option Value}, s₁.heap.Ns b m → (hidT s₁.heap H).Ns b m := fun {b m} z => by
    obtain ⟨o, es, ep, e, d, r⟩ := z
    exact ⟨o, es, ep, hidT_get e (free e (fun _ _ q => by rw [d] at q; cases q) (fun q => by rw [d] at q; cases q)), d, r⟩
  have kb : K.In (hidT s₁.heap H) := fun b o e => by
    refine hidT_get (KX b o e) ?_
    cases q : H b with
    | none => rfl
    | some u =>
      rcases hH b u q with ⟨m, _⟩ | ⟨rfl, _, z⟩
      · rw [(inT b m).2] at e; cases e
      · rw [z] at e; cases e
  have lim' : (hidT s₁.heap H).NoLimit := by
    obtain ⟨mc, h1, h2⟩ := lim
    exact ⟨mc, nsK h1, h2⟩
  obtain ⟨og, eg, epg, hog, hdg, _⟩ := id gl
  have TB : ∀ p ∈ cs, TabB (hidT s₁.heap H) mg p.1 p.2 := fun p hp => by
    refine ⟨?_, ?_, fun z => ?_⟩
    · obtain ⟨o, us, file, tf, flags, tg, inF, text, tt, e1, r1, r2, r3, rest⟩ := cT p hp
      refine ⟨o, us, file, tf, flags, tg, inF, text, tt, hidT_get e1 (free e1 (fun _ _ q => by rw [r2] at q; cases q) (fun q => ?_)), r1, r2, r3, rest⟩
      rw [r2] at q
      cases q
      simp at r3
    · obtain ⟨b, ob, b1, b2, b3, b4, b5, b6⟩ := bm
      refine ⟨b, ob, b1, b2, fun q => ?_, fun q => ?_, hidT_get b3 (free b3 (fun _ _ z => by rw [b6] at z; cases z) (fun z => by rw [b6] at z; cases z)), b4, b5, b6⟩
      · rw [q, hog] at b3; cases b3; rw [hdg] at b6; cases b6
      · rw [q, hT p hp] at b3; cases b3; cases b6
    · rw [z, hT p hp] at hog; cases hog; cases hdg
  have e0 : Env0 P w K mg (hidT s₁.heap H) callerA [] s₁ H :=
    ⟨rfl, ⟨kb, nsK gl, ⟨mb, nsK bl, bb⟩, lim'⟩, fun b o e => of_hidT e, Nat.le_of_eq (hidT_size _ _), trivial, fun b hb => (by cases (show b ∈ ([] : List Addr) from hb)), hok, .of_eq gens⟩
  refine codeAny_mono (F _ kb (nsK gl) TB callerA [] s₁ H [.ref a] [.ref a] _ _ rfl hr e0 (.cons (rr a) .nil) (hsp H hTb hS)) fun r s' h => ?_
  match r, h with
  | .error e, h => exact (no H e s' h).elim
  | .ok .next, h => exact False.elim h
  | .ok .brk, h => exact False.elim h
  | .ok .cont, h => exact False.elim h
  | .ok (.ret u), h =>
    obtain ⟨v, H', os, bare, un, hok', r', q⟩ := h
    cases (show v = .bl true from q)
    cases (show u = Value.bool true from r')
    have same : ∀ b o, b ∉ cs.map (·.2) → s₁.heap.get? b = some o → s'.heap.get? b = some o := fun b o m e => by
      cases q : H b with
      | none => exact un.keep b o e q (fun z => nomatch (show b ∈ ([] : List Addr) from z)) (fun z => nomatch z)
      | some u =>
        rcases hH b u q with ⟨m', _⟩ | ⟨rfl, rfl, _⟩
        · exact absurd m' m
        · obtain ⟨e2, _⟩ := hok' _ _ (un.frzs _ _ _ q)
          rw [ha] at e
          cases e
          exact e2
    have grown : ∀ p ∈ cs, ∃ more : Array Value, s'.heap.get? p.2 = some { cls := .none, data := .fields more } := fun p hp => by
      obtain ⟨more, z⟩ := un.tbls p.2 #[] (hTb p hp)
      exact ⟨_, hok' p.2 _ z⟩
    refine ⟨rfl, ⟨fun b o e => ?_, fun b o e => ?_⟩, os, bare⟩
    · by_cases m : b ∈ cs.map (·.2)
      · obtain ⟨p, hp, rfl⟩ := List.mem_map.mp m
        obtain ⟨more, hm⟩ := grown p hp
        rw [hT p hp] at e
        cases e
        exact .inr (.inl ⟨((cT p hp).tab (hT p hp)).isCodeTable, rfl, #[], more, rfl, by rw [Array.empty_append]; exact hm⟩)
      · exact .inl (same b o m e)
    · by_cases m : b ∈ cs.map (·.2)
      · obtain ⟨p, hp, rfl⟩ := List.mem_map.mp m
        obtain ⟨more, hm⟩ := grown p hp
        exact ⟨_, hm⟩
      · exact ⟨o, same b o m e⟩
/-- the law's walk behind a head by facts, with tables -/
theorem walk_ofT {l : PySem.W.OpenLaw} {n k : Nat} {q : Program} {loose : List Str} {XP : (Str → Option Value) → Heap → Prop} {YP : World → Heap → Prop} {d : DefRec} {CX : CXT}
    (hn : l.most = some n) (hn2 : n ≤ sizeLine) (hdf : d.params.defaults = []) (hr : Room k callerA)
    (F : ∀ (w : World) (mg : Str → Option Value) (fa : Addr) (h : Heap), YP w h → h.Ns mainGlobals mg → mg d.name = some (.ref fa) →
      ∃ (K : PySem.W.Frag) (cs : List (Addr × Addr)) (sp : Sp), K.In h ∧ TabsHere K h cs ∧
        (∀ (H : Hp) (a : Addr) (ns : List Int), ns.length ≤ n → (∀ p ∈ cs, H p.2 = some (.tbl #[])) → SqL K H a (ns.map V.int) → sp [.ref a] H (fun v _ => v = .bl true) fun _ _ _ => False) ∧
        ∀ base : Heap, K.In base → base.Ns mainGlobals mg → (∀ p ∈ cs, TabB base mg p.1 p.2) → FnRG l.prog w K mg base CX k fa sp)
    (no : ∀ (H : Hp) (s : Shared) (e : Value) (s' : Shared), CX [] H s (fun _ _ _ => False) e s' → False) :
    PySem.W.WalkO q loose XP YP l.row.toRowW d [] (fun f vs => PySem.call f vs) := by
  apply Att.attach_callB hn hdf
  intro w s₀ s₁ mg mb fa o pm cd doc a vs ns G Y ho hd hcd hmg hobj hints hlen hbits hg
  obtain ⟨K, cs, sp, KX, T, hsp, hF⟩ := F w mg fa _ Y G.T.g hmg
  exact law_callT KX G.T.g G.T.b G.T.builtins G.T.nolimit hg T G.T.bmain hobj hints (Nat.le_trans hlen hn2) hr hF (fun H hT hS => hsp H a ns hlen hT hS) fun H e s' => no H s₁ e s'
/-! ### defs that make lambdas: their code object is told -/
section
variable {P : Program} {w : World} {K : PySem.W.Frag} {mg : Str → Option Value} {base : Heap} {CX : CXT} {x qual : Str} {params : Arguments} {body : List Stmt} {scope : Scope}
theorem okGT {kws : List (Str × V)} {p : He.Defn} {N ps : List Str} {k : Nat} {sp : Sp} (F : ∃ fd, FunD K x qual params body scope [] kws (He.fAd K p) fd) (S : FnScope N ps scope) (B : ArgsGo x qual params body scope ps)
    (len : ∀ vs H Q E, sp vs H Q E → vs.length = ps.length)
    (hbody : ∀ (cdv : Value) (A : Around) (outer : List Env) (s : Shared) (H : Hp) (vs : List V) (Q : VK) (E : XK), cdv = .ref (He.cT K p).1 → A.guards = some [] →
      Room k (A.deeper (envOfC qual scope s.heap.objs.size (He.fAd K p) cdv)) → sp vs H Q E →
      ∃ t, PSs (cxOf CX0 P w K mg base N qual scope (He.fAd K p) cdv A outer s H E).nox body t ∧ t { nx := fun _ H' => Q .non H', rt := Q } (start N vs) H) : FnRG P w K mg base CX0 (k + 1) (He.fAd K p) sp := by
  obtain ⟨fd, F⟩ := F
  obtain ⟨oc, od, dV, kV, doc, pm, an, cdv0, ct, osl, e0, lk0, hcd0, _, _⟩ := id F.ex
  obtain ⟨c, ec⟩ := He.codeIn_ref hcd0
  have code : ∀ {oc' : Value} {od' : Option Addr} {osl' : Array (Option Value)} {fd' : FuncData}, K.lookup (He.fAd K p) = some ⟨oc', od', .func fd', osl'⟩ → fd'.code = cdv0 → cdv0 = .ref (He.cT K p).1 := by
    intro oc' od' osl' fd' l e
    show cdv0 = .ref (He.codeOf K p)
    rw [He.codeOf_eq l (e.trans ec), ec]
  have c0 : cdv0 = .ref (He.cT K p).1 := code lk0 (by rw [e0])
  intro A outer s H us vs Q E hg hr e1 r hsp
  have kin : K.In s.heap := e1.mod.kin.keeps fun b o e => (e1.bs b o e).1
  have nol : s.heap.NoLimit := e1.mod.nolimit.keeps fun b o e => (e1.bs b o e).1
  have hl : vs.length = ps.length := len _ _ _ _ hsp
  have hl' : us.length = ps.length := r.length ▸ hl
  have bs := F.bindsN B s us kin (by rw [List.append_nil]; exact hl')
  rw [List.append_nil] at bs
  subst e0
  have kinds : ∀ y ∈ ps.zip us, scope.names.lookup y.1 = some .local ∨
      (scope.names.lookup y.1 = some .cell ∧ ((cellsFrom (s.heap.objs.size + 1) scope.names []).lookup y.1).isSome = true) := by
    rintro ⟨n, v⟩ hy
    exact (S.par n (List.of_mem_zip hy).1).imp id fun q => ⟨q, PySem.W.cellsFrom_some _ _ _ (.inl q)⟩
  apply codeAny_call_function hr.depth (kin _ _ lk0) rfl S.co S.gen rfl (PySem.W.codeRec_of kin hcd0) (bs _ _ _ _ ?_)
  refine wpAny_newFunctionEnv_cells S.kind kinds fun env he s1 x1 => ?_
  subst he
  refine ⟨nol.keeps x1.toInCall.keep, codeAny_func ?_⟩
  obtain ⟨t, ht, hq⟩ := hbody cdv0 A outer s H vs Q E c0 hg (hr.deeper _) hsp
  have J0 := inv_start (CX := CX0) (P := P) (w := w) (K := K) (mg := mg) (base := base) (outer := outer) (E := E) S hr.hd e1 hl r x1
  refine wpAny_mono (ht.nox.run [] s1 _ H _ J0 hq) (fun fl s' hs => ?_) fun _ _ z => z
  match fl, hs with
  | .ret u, hs => obtain ⟨v, σ', H', J, rv, q⟩ := hs; exact ⟨v, H', J.os, J.bare, J.base, J.hok, rv, q⟩
  | .next, hs => obtain ⟨σ', H', J, q⟩ := hs; exact ⟨V.non, H', J.os, J.bare, J.base, J.hok, rfl, q⟩
  | .brk, hs => obtain ⟨_, _, _, q⟩ := hs; exact False.elim q
  | .cont, hs => obtain ⟨_, _, _, q⟩ := hs; exact False.elim q
end
end Ws

set_option Elab.async false
set_option linter.all false
set_option maxRecDepth 100000
set_option maxHeartbeats 4000000
namespace Ws
open PySem PySem.Spec PyProof.Rows PySem.W L2
section
variable {prog : Program} {w : World} {A : Around} {E : Value → Shared → Prop} {s : Shared} {T : String} {r d : Addr} {n : Nat} {Pk : Nat → Value → Prop} {OK : Heap → Prop}
/-- tuple(r), r walked as KdlSrc tells: the tuple of what the walk meets -/
theorem tuple_code {Q₁ : Value → Shared → Prop} (S : KdlSrc prog w T r d n Pk OK) (hh : A.handled = none) (hok : OK s.heap) (hn : n ≤ sizeLine)
    (h : ∀ (h' : Heap) (tk : Nat) (acc : Array Value), (∀ b o, s.heap.get? b = some o → h'.get? b = some o) → ItemsOf Pk acc n →
      Q₁ (.ref h'.objs.size) { s with heap := h'.push { cls := .type "tuple", data := .seq acc }, toks := tk }) :
    codeAny (model prog w) A (.call (.builtin "tuple.__new__") ⟨[.type "tuple", .ref r], []⟩) (wants Q₁ E) s := by
  refine codeAny_of_tree ?_
  refine wpAny_bind (wpAny_of_eq (PySem.F.newCall_tuple_1 _) (wpAny_pure ⟨plainId_quiet PySem.F.plain_tuple_new _, codeAny_builtin PySem.F.entry_tuple_new ?_⟩))
  rw [Around.under_plainId PySem.F.plain_tuple_new _]
  have q1 := PySem.sub_tuple_self
  have q2 := PySem.init_tuple_lookup
  have q3 := PySem.madeHere_tuple
  have ty : s.TypeIs (.ref r) T := S.type s hok
  have nt := S.notTuple
  have hd : A.in1.handled = none := hh
  wp_walk using wpAny_typeOf ty, kdu_collect (A := A.in1) S hd hok hn
  intro h1 t1 its kp ok1
  have sz : its.size ≤ sizeLine := by rw [ok1.1]; exact hn
  have tr : its.toList.toArray = its := Array.toArray_toList
  show wpAny _ _ (Builtin.Tuple.tupleExact its.toList.toArray >>= fun x => ret x) _ _ _
  unfold Builtin.Tuple.tupleExact
  rw [tr]
  exact wpAny_bind (wpAny_newObj_type (wpAny_pure (h h1 t1 its kp ok1)) sz)
theorem tuple_call {Q : Value → Shared → Prop} (S : KdlSrc prog w T r d n Pk OK) (hh : A.handled = none) (hok : OK s.heap) (hn : n ≤ sizeLine)
    (hQ : ∀ (h' : Heap) (tk : Nat) (acc : Array Value), (∀ b o, s.heap.get? b = some o → h'.get? b = some o) → ItemsOf Pk acc n →
      Q (.ref h'.objs.size) { s with heap := h'.push { cls := .type "tuple", data := .seq acc }, toks := tk }) :
    wpAny (model prog w) A (call (.type "tuple") [.ref r]) Q E s := by
  refine callType_codes (Q₁ := fun x s1 => s1.TypeIs x "tuple" ∧ Q x s1) PySem.F.called_tuple (PySem.F.typeCall_tuple_1 _) PySem.F.entry_object_init
    (tuple_code (A := A.in1) S hh hok hn fun h' tk acc hk hacc => ⟨⟨_, Heap.get?_push_size _ rfl, rfl⟩, hQ h' tk acc hk hacc⟩) fun x s1 q => ?_
  exact ⟨q.1, PySem.F.args_object_init_2 x _, object_init_meets PySem.F.called_tuple.init.lookup PySem.F.called_tuple.made (by decide) prog w A.in1 _ s1 ⟨q.1, rfl, q.2⟩⟩
end
/-- tuple(a dict) -/
def rTupD : List V → Hp → VK → Prop := fun xs H Q => ∃ p kvs, xs = [.ref p] ∧ H p = some (.dK kvs) ∧ kvs.length ≤ 1000 ∧ ∀ q, H q = none → Q (.ref q) (upd H q (.tup (kvs.map fun kv => kV kv.1)))
theorem call_tupD {X : Cx} (hc : X.calm = true) : CallR X (.type "tuple") rTupD := by
  intro pins s σ H xs us Q I r h
  obtain ⟨p, kvs, e, hk, hz, q⟩ := h
  subst e
  obtain ⟨u, eu, rx⟩ := vals1 r
  subst eu
  obtain rfl : u = Value.ref p := rx
  obtain ⟨z, lo, vs, rk, hd⟩ := (show ObjOk X.prog X.w H s.heap p (.dK kvs) from I.hok p _ hk)
  obtain ⟨ep, hat⟩ := hd.dictAt
  have hl : kvs.length = vs.length := Paired.length rk
  refine tuple_call (kdl_dict (knd := mixKind X.prog X.w) (kvs := vs) (ep := ep) lo) (I.ok.hd hc) hat (by rw [← hl]; exact z) fun h' tk acc hkeep hacc => ?_
  have I2 : Inv X pins σ H { s with heap := h', toks := tk } := I.kept hkeep
  refine ⟨.ref h'.objs.size, upd H h'.objs.size (.tup (kvs.map fun kv => kV kv.1)), I2.laid (fun _ _ e => Heap.get?_push_of_some _ e) (Nat.le_refl _) ⟨?_, acc.toList, ?_, ?_⟩, rfl, q _ (I2.hok.fresh (Nat.le_refl _))⟩
  · rw [List.length_map]; exact z
  · have el : acc.toList.length = acc.size := Array.length_toList
    refine vals_of_at (by rw [List.length_map, el, hacc.1, hl]) fun j x u h1 h2 => ?_
    obtain ⟨k, y, hky, hi⟩ := hacc.2 j u (by rw [← Array.getElem?_toList]; exact h2)
    have e1 : (kvs.map (·.1))[j]? = some k := by rw [KV.keys rk, List.getElem?_map, hky]; rfl
    rw [List.getElem?_map] at h1 e1
    cases g : kvs[j]? with
    | none => rw [g] at h1; cases h1
    | some kv =>
      rw [g] at h1 e1
      cases h1
      cases e1
      exact keyIs_rel hi
  · rw [Array.toArray_toList]; exact IsTup.new _ _
end Ws

set_option Elab.async false
set_option linter.all false
set_option maxRecDepth 100000
set_option maxHeartbeats 4000000
namespace Ws
open PySem PySem.Spec PyProof.Rows L2
theorem pr_at {α β : Type} {R : α → β → Prop} : ∀ {xs : List α} {ys : List β} {i : Nat} {x : α}, Paired R xs ys → xs[i]? = some x → ∃ y, ys[i]? = some y ∧ R x y
  | _, _, _, _, .nil, h => by simp at h
  | _, _, 0, _, .cons r _, h => by cases h; exact ⟨_, rfl, r⟩
  | _, _, i + 1, _, .cons _ p, h => pr_at (i := i) p h
theorem pr_atR {α β : Type} {R : α → β → Prop} : ∀ {xs : List α} {ys : List β} {i : Nat} {y : β}, Paired R xs ys → ys[i]? = some y → ∃ x, xs[i]? = some x ∧ R x y
  | _, _, _, _, .nil, h => by simp at h
  | _, _, 0, _, .cons r _, h => by cases h; exact ⟨_, rfl, r⟩
  | _, _, i + 1, _, .cons _ p, h => pr_atR (i := i) p h
theorem pr_both {α β : Type} {R : α → β → Prop} {xs : List α} {ys : List β} {i : Nat} {x : α} {y : β} (p : Paired R xs ys) (h : xs[i]? = some x) (g : ys[i]? = some y) : R x y := by
  obtain ⟨z, hz, r⟩ := pr_at p h
  rw [g] at hz
  cases hz
  exact r
section
variable {X : Cx}
/-- x in, x not in a tuple of data at any depth -/
def rInD (K : PySem.W.Frag) (neg : Bool) : R2 := fun x y H Q => ∃ a p xs d es, x = .ref a ∧ y = .ref p ∧ SqT K H p xs ∧ Dp K H x d ∧ SeqAt.shaped d = true ∧ Paired (fun (v : V) (e : PyData) => Dp K H v e ∧ SeqAt.shaped e = true ∧ ∃ b, v = .ref b) xs es ∧
  Q (.bl (if neg then !es.any (fun e => PyData.eqv e d) else es.any fun e => PyData.eqv e d)) H
theorem inD_run {pins : List (Addr × Obj)} {σ : L2.St} {H : Hp} {s : Shared} {A : Around} (I : Inv X pins σ H s) (hu : A.units + 64 < cLine) {a : Addr} {d : PyData} (hd : Dp X.K H (.ref a) d) (sd : SeqAt.shaped d = true) :
    ∀ {xs : List V} {us : List Value} {es : List PyData}, Vals xs us → Paired (fun (v : V) (e : PyData) => Dp X.K H v e ∧ SeqAt.shaped e = true ∧ ∃ b, v = .ref b) xs es →
      Paired (fun (u : Value) (e : PyData) => SeqAt.EqAt A s u (.ref a) (PyData.eqv e d)) us es
  | _, _, _, .nil, .nil => .nil
  | _, _, _, .cons r t, .cons ⟨h1, h2, b, hb⟩ p => by
    refine .cons ?_ (inD_run I hu hd sd t p)
    obtain ⟨as, r1⟩ := Dp.reads I _ _ _ hd (rfl : RelV (V.ref a) (Value.ref a))
    obtain ⟨bs, r2⟩ := Dp.reads I _ _ _ h1 r
    subst hb
    cases r
    by_cases ne : b = a
    · subst ne
      have cl := SeqAt.canLay_of_shaped sd
      have e := SeqAt.Reads.unique _ _ _ _ _ cl r1 r2
      rw [← e, SeqAt.eqv_refl _ cl]
      exact SeqAt.EqAt.same _
    exact fun prog w => SeqAt.eqP_refs ne fun E' Q' q => SeqAt.compareEq_shaped r2 r1 h2 sd hu q
theorem any_paired {A : Around} {s : Shared} {x : Value} {d : PyData} : ∀ {us : List Value} {es : List PyData}, Paired (fun (u : Value) (e : PyData) => SeqAt.EqAt A s u x (PyData.eqv e d)) us es →
    ∃ f : Value → Bool, (∀ u ∈ us, SeqAt.EqAt A s u x (f u)) ∧ us.any f = es.any fun e => PyData.eqv e d := fun {us es} p => by
  classical
  refine ⟨fun u => decide (∃ (i : Nat) (e : PyData), us[i]? = some u ∧ es[i]? = some e ∧ PyData.eqv e d = true), fun u hu => ?_, ?_⟩
  · by_cases h : ∃ (i : Nat) (e : PyData), us[i]? = some u ∧ es[i]? = some e ∧ PyData.eqv e d = true
    · obtain ⟨i, e, h1, h2, h3⟩ := id h
      have q := pr_both p h1 h2
      rw [h3] at q
      dsimp only
      rw [decide_eq_true h]
      exact q
    · obtain ⟨i, hi⟩ := List.getElem?_of_mem hu
      obtain ⟨e, he, q⟩ := pr_at p hi
      have z : PyData.eqv e d = false := by
        cases y : PyData.eqv e d with
        | false => rfl
        | true => exact absurd ⟨i, e, hi, he, y⟩ h
      rw [z] at q
      dsimp only
      rw [decide_eq_false h]
      exact q
  · rw [Bool.eq_iff_iff, List.any_eq_true, List.any_eq_true]
    constructor
    · rintro ⟨u, hu, h⟩
      obtain ⟨i, e, h1, h2, h3⟩ := of_decide_eq_true h
      exact ⟨e, List.mem_of_getElem? h2, h3⟩
    · rintro ⟨e, he, h⟩
      obtain ⟨i, hi⟩ := List.getElem?_of_mem he
      obtain ⟨u, hu, q⟩ := pr_atR p hi
      exact ⟨u, List.mem_of_getElem? hu, decide_eq_true ⟨i, e, hu, hi, h⟩⟩
theorem op_inD {n : Nat} (hr : Room n X.A) : OpR X (compareOp .In) (rInD X.K false) := by
  intro pins s σ H x y v u Q I rx ry h
  obtain ⟨a, p, xs, d, es, rfl, rfl, hp, hd, sd, pr, q⟩ := h
  cases rx
  cases ry
  obtain ⟨its, r, pl, hz⟩ := I.tuple hp
  obtain ⟨f, f1, f2⟩ := any_paired (inD_run (A := X.A.in1) I (by have := hr.un; show X.A.units + 1 + 64 < cLine; omega) hd sd r pr)
  refine SeqAt.in_tupleAt f pl (fun w hw => f1 w (by simpa using hw)) ⟨.bl _, H, I, rfl, ?_⟩
  rw [show its.toArray.any f = its.any f by simp, f2]
  exact q
theorem op_notInD {n : Nat} (hr : Room n X.A) : OpR X (compareOp .NotIn) (rInD X.K true) := by
  intro pins s σ H x y v u Q I rx ry h
  obtain ⟨a, p, xs, d, es, rfl, rfl, hp, hd, sd, pr, q⟩ := h
  cases rx
  cases ry
  obtain ⟨its, r, pl, hz⟩ := I.tuple hp
  obtain ⟨f, f1, f2⟩ := any_paired (inD_run (A := X.A.in1) I (by have := hr.un; show X.A.units + 1 + 64 < cLine; omega) hd sd r pr)
  refine SeqAt.notIn_tupleAt f pl (fun w hw => f1 w (by simpa using hw)) ⟨.bl _, H, I, rfl, ?_⟩
  rw [show its.toArray.any f = its.any f by simp, f2]
  exact q
/-- a list == [], a list != [] -/
def rEqNil (K : PySem.W.Frag) (neg : Bool) : R2 := fun x y H Q => ∃ p q xs, x = .ref p ∧ y = .ref q ∧ SqL K H p xs ∧ SqL K H q [] ∧ Q (.bl (if neg then !xs.isEmpty else xs.isEmpty)) H
theorem nil_sizes {xs : List V} {us vs : List Value} (r : Vals xs us) (r2 : Vals ([] : List V) vs) : (us.toArray.size = vs.toArray.size ∧ xs.isEmpty = true ∧ us.toArray.size = 0) ∨ ((us.toArray.size != vs.toArray.size) = true ∧ xs.isEmpty = false) := by
  cases r2
  cases r with
  | nil => exact .inl ⟨rfl, rfl, rfl⟩
  | cons _ _ => exact .inr ⟨by simp, rfl⟩
theorem op_eqNil {n : Nat} (hr : Room n X.A) : OpR X (compareOp .Eq) (rEqNil X.K false) := by
  intro pins s σ H x y v u Q I rx ry h
  obtain ⟨p, q, xs, rfl, rfl, hp, hq, hQ⟩ := h
  cases rx
  cases ry
  have hu : X.A.units < cLine := by have := hr.un; omega
  obtain ⟨us, r, l1, _⟩ := I.list hp
  obtain ⟨vs, r2, l2, _⟩ := I.list hq
  rcases nil_sizes r r2 with ⟨e1, e2, e3⟩ | ⟨e1, e2⟩
  · rw [e2] at hQ
    refine SeqAt.RcAt.lists (e := fun _ => true) l1.isList l2.isList e1 hu (fun j h1 => by omega) _ _ _ _ ⟨.bl true, H, I, ?_, hQ⟩
    rw [e3]
    rfl
  · rw [e2] at hQ
    exact SeqAt.RcAt.lists_lengths l1.isList l2.isList e1 hu _ _ _ _ ⟨.bl false, H, I, rfl, hQ⟩
theorem op_neNil {n : Nat} (hr : Room n X.A) : OpR X (compareOp .NotEq) (rEqNil X.K true) := by
  intro pins s σ H x y v u Q I rx ry h
  obtain ⟨p, q, xs, rfl, rfl, hp, hq, hQ⟩ := h
  cases rx
  cases ry
  have hu : X.A.units < cLine := by have := hr.un; omega
  obtain ⟨us, r, l1, _⟩ := I.list hp
  obtain ⟨vs, r2, l2, _⟩ := I.list hq
  rcases nil_sizes r r2 with ⟨e1, e2, e3⟩ | ⟨e1, e2⟩
  · rw [e2] at hQ
    refine SeqAt.RcNeAt.lists (e := fun _ => true) l1.isList l2.isList e1 hu (fun j h1 => by omega) _ _ _ _ ⟨.bl false, H, I, ?_, hQ⟩
    rw [e3]
    rfl
  · rw [e2] at hQ
    exact SeqAt.RcNeAt.lists_lengths l1.isList l2.isList e1 hu _ _ _ _ ⟨.bl true, H, I, rfl, hQ⟩
end
end Ws

set_option Elab.async false
set_option linter.all false
set_option maxRecDepth 100000
set_option maxHeartbeats 4000000
namespace Ws
open PySem PySem.Spec PyProof.Rows L2
/-- f(k = v, ..) -/
def tCallKw (l : Nat) (sp : Sp) (E : XK) (tk : TA) : TE := fun σ H Q => tk σ H fun zs H2 => zs.length = l ∧ sp zs H2 Q E
section
variable {X : Cx} {CX : CXT} {k : Nat} {f C : Addr} {ks : List Str} {sp : Sp} {E : XK} {x : Str} {p pos : Pos} {kws : List Keyword} {tk : TA}
theorem pe_callKw0 (F : FnRK X.prog X.w X.K X.mg X.base CX k f 0 ks sp) (hr : Room k X.A) (hg : Gl X x) (hm : X.mg x = some (.ref f)) (hk : PySem.W.keepIn X.K (.ref f) = true) (hx : Passes CX X E)
    (hkw : PK X kws tk) (hall : (backToKw pos (keywordEach kws X.env)).all (·.1.isSome) = true := by rfl) (hks : (backToKw pos (keywordEach kws X.env)).filterMap (·.1) = ks := by rfl)
    (hdb : (x == ("__debug__" : Str)) = false := by decide) (hpl : ((backTo pos (starEach [] X.env)).any (·.1) || (backToKw pos (keywordEach kws X.env)).any (·.1.isNone)) = false := by rfl) :
    PE X (.Call (.Name x p) [] kws pos) (tCallKw ks.length sp E tk) := by
  constructor
  intro pins s σ H Q I h
  refine wpAny_Call_Name_kw (ld_glob I hg hm (PySem.W.callWith_KW0 (h₀ := X.base) I.ok.mod.kin hk hall ?_ hpl) hdb)
  refine thn (hkw.run pos pins s σ H _ I h) fun ws s2 ⟨zs, H2, I2, rz, l2, q2⟩ => ⟨I2.kIn, ?_⟩
  rw [hks]
  apply wpAny_call
  refine codeAny_mono (F X.A X.stack s2 H2 [] ws [] zs Q E hr I2.env0 .nil rz rfl l2 q2) fun r s' hq => ?_
  match r, hq with
  | .error e, hq => exact hx pins σ H2 s2 e s' I2 hq
  | .ok (.ret u), hq => exact I2.after hq
  | .ok .next, hq => exact False.elim hq
  | .ok .brk, hq => exact False.elim hq
  | .ok .cont, hq => exact False.elim hq
/-- C() -/
theorem pe_makeR0 (M : Mk X.K C f) (F : FnR X.prog X.w X.K X.mg X.base CX k f sp) (hr : Room (k + 1) X.A) (hg : Gl X x) (hm : X.mg x = some (.ref C)) (hx : Passes CX X E) (hdb : (x == ("__debug__" : Str)) = false := by decide) :
    PE X (.Call (.Name x p) [] [] pos) (StX.tMakeR C sp E tNil) := by
  refine ⟨fun pins s σ H Q I h => ?_⟩
  refine wpAny_Call_Name_kw (ld_glob I hg hm ?_ hdb)
  exact PySem.W.callWith_K0 I.kIn M.kp (StX.run_makeR (us := []) (vs := []) M F hr hx I .nil h)
end
end Ws

set_option Elab.async false
set_option linter.all false
set_option maxRecDepth 100000
set_option maxHeartbeats 4000000
namespace Ws
open PySem PySem.Spec PyProof.Rows L2
theorem ifb {c : Bool} {A B : Prop} (h1 : c = true → A) (h2 : c = false → B) : if c = true then A else B := by
  cases c with
  | true => exact iteT (h1 rfl)
  | false => exact iteF (h2 rfl)
theorem sz {n m : Nat} (h : n ≤ m) (hm : m ≤ 1000 := by decide) : n ≤ sizeLine := Nat.le_trans (Nat.le_trans h hm) (by rw [sizeLine_eq]; decide)
section
variable {P : Program} {w : World} {K : PySem.W.Frag} {mg : Str → Option Value} {base : Heap}
def sp_is_number : Sp := fun vs H Q _ => ∃ i, vs = [.int i] ∧ Q (.bl true) H
theorem sc_is_number : FnScope ["thing"] ["thing"] (defScope s_is_number) := ⟨rfl, rfl, rfl, by decide +kernel, rfl, by decide +kernel, by decide +kernel⟩
theorem ok_is_number (x : Fx K mg w) : FnR P w K mg base CX0 1 (a_is_number K) sp_is_number := by
  refine okR x.F_is_number sc_is_number (fun _ _ _ _ _ _ us hl => match us, hl with | [_], _ => rfl) (fun vs H Q E h => by obtain ⟨i, rfl, hQ⟩ := h; rfl) (fun cdv A outer s H vs Q E hr h => ?_)
  obtain ⟨i, rfl, hQ⟩ := h
  refine ⟨_, (pss_one (ps_ret (pe_and (pe_callB (r := rIsi K) call_isi rfl x.n_isinstance bb_isinstance (pa_cons (pv 0) (pa_cons (pe_gT x.n_int (by rfl) rfl) pa_nil))) (pe_one (pe_not (pe_callB (r := rIsi K) call_isi rfl x.n_isinstance bb_isinstance (pa_cons (pv 0) (pa_cons (pe_gT x.n_bool (by rfl) rfl) pa_nil)))))))), ?_⟩
  refine ⟨_, rfl, _, _, _, _, true, rfl, .ty _, .base (.int i), kit_ty (by decide +kernel), true, rfl, iteT ?_⟩
  exact ⟨_, rfl, _, _, _, _, false, rfl, .ty _, .base (.int i), kit_ty (by decide +kernel), false, rfl, hQ⟩
/-- a word of the text: 1 to 6 letters -/
def letters : Str := "abcdefghijklmnopqrstuvwxyz"
def isName (z : Str) : Bool := decide (1 ≤ z.length) && (decide (z.length ≤ 6) && z.cps.toList.all fun c => decide (c ∈ letters.cps.toList))
def sp_is_name : Sp := fun vs H Q _ => ∃ z, vs = [.str z] ∧ z.length ≤ 1000 ∧ ∀ H', Ext H H' → Q (.bl (isName z)) H'
theorem sc_is_name : FnScope ["thing", "letter"] ["thing"] (defScope s_is_name) := ⟨rfl, rfl, rfl, by decide +kernel, rfl, by decide +kernel, by decide +kernel⟩
theorem ok_is_name (x : Fx K mg w) : FnR P w K mg base CX0 1 (a_is_name K) sp_is_name := by
  refine okR x.F_is_name sc_is_name (fun _ _ _ _ _ _ us hl => match us, hl with | [_], _ => rfl) (fun vs H Q E h => by obtain ⟨z, rfl, hz, hQ⟩ := h; rfl) (fun cdv A outer s H vs Q E hr h => ?_)
  obtain ⟨z, rfl, hz, hQ⟩ := h
  refine ⟨_, (pss_cons (ps_if (PW.pt (pw_or (pt_not (pt_val (pe_callB (r := rIsi K) call_isi rfl x.n_isinstance bb_isinstance (pa_cons (pv 0) (pa_cons (pe_gT x.n_str (by rfl) rfl) pa_nil))))) (pw_or1 (pt_not (pt_chain op_le op_le pe_int (pe_callB call_len_str rfl x.n_len bb_len (pa_cons (pv 0) pa_nil)) (pe_gI x.i_LONGEST_NAME rfl))))))
 (pss_one (ps_ret pe_bl))
 pss_nil)
 (pss_one (ps_ret (pe_callB (r := rAll K) (cr_all rfl) rfl x.n_all bb_all (pa_cons (pe_lc (own := [("letter", 1)]) (tt := tYes) rfl sc_is_name.nd (pi_str (pv 0)) (blkOk_by (N := ["thing", "letter"]) (sc := defScope s_is_name) (by decide +kernel)) (fun _ _ _ _ _ => (pg_name (i := 1) sc_is_name.nd rfl (Or.inl rfl))) (fun _ _ _ _ _ => pts_nil) (fun _ _ _ _ _ => (pe_cmpR op_in_sign (pv 1) (pe_gS x.z_LETTERS rfl) rfl))) pa_nil))))), ?_⟩
  refine ⟨_, rfl, _, _, _, _, true, rfl, .ty _, .base (.str z), kit_ty (by decide +kernel), true, rfl, iteF ?_⟩
  refine ⟨_, rfl, z, rfl, sz hz, _, _, rfl, rfl, _, rfl, ifb (fun h1 => ?_) (fun h1 => ?_)⟩
  · refine ⟨_, _, rfl, rfl, _, rfl, ifb (fun h2 => ?_) (fun h2 => ?_)⟩
    · have e : isName z = false := by
        have n2 : decide (z.length ≤ 6) = false := decide_eq_false fun q => by simp at h2; omega
        rw [isName, n2]; simp
      have := hQ H Ext.rfl'
      rwa [e] at this
    · have n1 : decide (1 ≤ z.length) = true := decide_eq_true (by simp at h1; omega)
      have n2 : decide (z.length ≤ 6) = true := decide_eq_true (by simp at h2; omega)
      refine ⟨_, rfl, z, rfl, fun D hD => lc_map std_str hD (fun v => match v with | .str y => some (.bl (y.cps.toList.all fun c => decide (c ∈ letters.cps.toList))) | _ => none) ?_ (fun y H' Nx hy e c1 c2 => ?_) (fun H' e hD' => ?_)⟩
      · rw [List.length_map, Array.length_toList]; exact hz
      · obtain ⟨c, hc, rfl⟩ := List.mem_map.mp hy
        refine ⟨rfl, _, rfl, _, _, rfl, rfl, ?_⟩
        exact c1 _ _ Ext.rfl' (by simp [letters])
      · refine ⟨D, z.cps.toList.map fun c => decide (c ∈ letters.cps.toList), rfl, .of ?_, ?_⟩
        · rw [hD']
          congr 2
          rw [List.filterMap_map, List.map_map]
          simp [Function.comp_def]
        · have := hQ H' e
          rw [isName, n1, n2] at this
          simpa [List.all_map, Function.comp_def] using this
  · refine ⟨_, rfl, iteT ?_⟩
    have e : isName z = false := by
      have n1 : decide (1 ≤ z.length) = false := decide_eq_false fun q => by simp at h1; omega
      rw [isName, n1]; simp
    have := hQ H Ext.rfl'
    rwa [e] at this
/-! ### are_different -/
theorem put_len : ∀ (zs : List Str) (kvs : List (Key × V)), (putAll kvs (zs.map fun z => (Sum.inr z, V.bl true))).length ≤ kvs.length + zs.length ∧
    ((putAll kvs (zs.map fun z => (Sum.inr z, V.bl true))).length = kvs.length + zs.length ↔ zs.Nodup ∧ ∀ z ∈ zs, valV kvs (Sum.inr z) = none)
  | [], kvs => ⟨Nat.le_refl _, fun _ => ⟨List.nodup_nil, fun z h => by simp at h⟩, fun _ => rfl⟩
  | z :: zs, kvs => by
    have e : putAll kvs ((z :: zs).map fun z => (Sum.inr z, V.bl true)) = putAll (putK kvs (Sum.inr z) (.bl true)) (zs.map fun z => (Sum.inr z, V.bl true)) := rfl
    obtain ⟨ih1, ih2⟩ := put_len zs (putK kvs (Sum.inr z) (.bl true))
    have vp : ∀ k, valV (putK kvs (Sum.inr z) (.bl true)) k = if k = Sum.inr z then some (.bl true) else valV kvs k := fun k => valV_put kvs _ k _
    rw [e]
    cases hv : valV kvs (Sum.inr z) with
    | none =>
      have hl : (putK kvs (Sum.inr z) (.bl true)).length = kvs.length + 1 := by rw [putK_new _ hv]; simp
      rw [hl] at ih1 ih2
      simp only [List.length_cons]
      refine ⟨by omega, ?_⟩
      rw [show kvs.length + (zs.length + 1) = kvs.length + 1 + zs.length by omega, ih2, List.nodup_cons]
      constructor
      · rintro ⟨nd, h⟩
        refine ⟨⟨fun hz => ?_, nd⟩, fun y hy => ?_⟩
        · have := h z hz
          rw [vp, if_pos rfl] at this
          cases this
        · rcases List.mem_cons.mp hy with rfl | hy
          · exact hv
          · have := h y hy
            rw [vp] at this
            split at this
            · cases this
            · exact this
      · rintro ⟨⟨hz, nd⟩, h⟩
        refine ⟨nd, fun y hy => ?_⟩
        rw [vp, if_neg (fun q => hz (by cases q; exact hy))]
        exact h y (List.mem_cons_of_mem _ hy)
    | some v =>
      have hl : (putK kvs (Sum.inr z) (.bl true)).length = kvs.length := by
        unfold putK
        rw [if_pos (by rw [valV_any, hv]; rfl), List.length_map]
      rw [hl] at ih1 ih2
      simp only [List.length_cons]
      refine ⟨by omega, fun h => by omega, fun h => ?_⟩
      have := h.2 z List.mem_cons_self
      rw [hv] at this
      cases this
def sp_are_different (K : PySem.W.Frag) : Sp := fun vs H Q _ => ∃ (a : Addr) (zs : List Str), vs = [.ref a] ∧ Sq K H a (zs.map V.str) ∧ zs.length ≤ 1000 ∧ ∀ H', Ext H H' → Q (.bl (decide zs.Nodup)) H'
theorem sc_are_different : FnScope ["things", "thing"] ["things"] (defScope s_are_different) := ⟨rfl, rfl, rfl, by decide +kernel, rfl, by decide +kernel, by decide +kernel⟩
theorem ok_are_different (x : Fx K mg w) : FnR P w K mg base CX0 1 (a_are_different K) (sp_are_different K) := by
  refine okR x.F_are_different sc_are_different (fun _ _ _ _ _ _ us hl => match us, hl with | [_], _ => rfl) (fun vs H Q E h => by obtain ⟨a, zs, rfl, hs, hz, hQ⟩ := h; rfl) (fun cdv A outer s H vs Q E hr h => ?_)
  obtain ⟨a, zs, rfl, hs, hz, hQ⟩ := h
  refine ⟨_, (pss_one (ps_ret (pe_cmpR op_eq (pe_callB call_lenD rfl x.n_len bb_len (pa_cons (pe_dc (own := [("thing", 1)]) (tt := tYes) rfl sc_are_different.nd (pi_seqK (K := K) rfl (pv 0)) (blkOk_by (N := ["things", "thing"]) (sc := defScope s_are_different) (by decide +kernel)) (fun _ _ _ _ _ => (pg_name (i := 1) sc_are_different.nd rfl (Or.inl rfl))) (fun _ _ _ _ _ => pts_nil) (fun _ _ _ _ _ => (pv 1)) (fun _ _ _ _ _ => pe_bl)) pa_nil)) (pe_callB (r := rLenK K) call_lenK rfl x.n_len bb_len (pa_cons (pv 0) pa_nil)) (nomark _)))), ?_⟩
  refine seq_go rfl hs (fun z => z) fun J st D hD => dc_map st hD (fun v => (match v with | .str z => Sum.inr z | _ => Sum.inl 0, .bl true)) (by simpa using hz) (fun y H' Nx hy e c1 => ?_) (fun H' e hD' => ?_)
  · obtain ⟨z, hz, rfl⟩ := List.mem_map.mp hy
    exact ⟨rfl, _, rfl, c1 _ _ _ Ext.rfl' rfl rfl⟩
  · refine ⟨D, _, rfl, hD', _, rfl, _, _, rfl, sq_lenV (sq_ext hs e), rfl, ?_⟩
    rw [List.map_map]
    have h := hQ H' e
    obtain ⟨_, iff⟩ := put_len zs []
    have e1 : decide (V.int ↑(putAll [] (zs.map fun z => (Sum.inr z, V.bl true))).length = V.int ↑(zs.map V.str).length) = decide zs.Nodup := by
      rw [decide_eq_decide, List.length_map]
      constructor
      · intro q
        injection q with q
        exact (iff.mp (by simp; omega)).1
      · intro q
        have := iff.mpr ⟨q, fun z _ => rfl⟩
        congr 1
        simp at this
        omega
    show Q (.bl (decide (V.int ↑(putAll [] (zs.map fun z => (Sum.inr z, V.bl true))).length = V.int ↑(zs.map V.str).length))) H'
    rw [e1]
    exact h
def sp_are_names (K : PySem.W.Frag) : Sp := fun vs H Q _ => ∃ (a : Addr) (zs : List Str), vs = [.ref a] ∧ Sq K H a (zs.map V.str) ∧ zs.length ≤ 1000 ∧ (∀ z ∈ zs, z.length ≤ 1000) ∧ ∀ H', Ext H H' → Q (.bl (zs.all isName && decide zs.Nodup)) H'
theorem sc_are_names : FnScope ["thing", "name"] ["thing"] (defScope s_are_names) := ⟨rfl, rfl, rfl, by decide +kernel, rfl, by decide +kernel, by decide +kernel⟩
theorem ok_are_names (x : Fx K mg w) : FnR P w K mg base CX0 2 (a_are_names K) (sp_are_names K) := by
  refine okR x.F_are_names sc_are_names (fun _ _ _ _ _ _ us hl => match us, hl with | [_], _ => rfl) (fun vs H Q E h => by obtain ⟨a, zs, rfl, hs, hl, hz, hQ⟩ := h; rfl) (fun cdv A outer s H vs Q E hr h => ?_)
  obtain ⟨a, zs, rfl, hs, hl, hz, hQ⟩ := h
  refine ⟨_, (pss_one (ps_ret (pe_and (pe_callB (r := rIsiT K) call_isiT rfl x.n_isinstance bb_isinstance (pa_cons (pv 0) (pa_cons (pe_tup (pa_cons (pe_gT x.n_list (by rfl) rfl) (pa_cons (pe_gT x.n_tuple (by rfl) rfl) pa_nil))) pa_nil))) (pe_and (pe_callB (r := rAll K) (cr_all rfl) rfl x.n_all bb_all (pa_cons (pe_lc (own := [("name", 1)]) (tt := tYes) rfl sc_are_names.nd (pi_seqK (K := K) rfl (pv 0)) (blkOk_by (N := ["thing", "name"]) (sc := defScope s_are_names) (by decide +kernel)) (fun _ _ _ _ _ => (pg_name (i := 1) sc_are_names.nd rfl (Or.inl rfl))) (fun _ _ _ _ _ => pts_nil) (fun _ _ _ _ _ => (pe_callR (ok_is_name x) (hr.mono (by decide)) rfl x.m_is_name (keep_of x.F_is_name) pass0 (pa_cons (pv 1) pa_nil)))) pa_nil)) (pe_one (pe_callR (ok_are_different x) (hr.mono (by decide)) rfl x.m_are_different (keep_of x.F_are_different) pass0 (pa_cons (pv 0) pa_nil))))))), ?_⟩
  refine ⟨_, rfl, by simp [sizeLine_eq], fun p hp => ?_⟩
  obtain ⟨t, us, k1, k2, k3⟩ := isi_seq hs hp
  refine ⟨_, p, _, t, us, true, rfl, upd_same, k1, k2, k3, true, rfl, iteT ?_⟩
  clear k1 k2 k3
  have e0 : Ext H (upd H p (.tup [.ty "list", .ty "tuple"])) := ext_new hp
  generalize upd H p (.tup [.ty "list", .ty "tuple"]) = H1 at e0
  refine seq_go rfl (sq_ext hs e0) (fun z => z) fun J st D hD => lc_map st hD (fun v => match v with | .str z => some (.bl (isName z)) | _ => none) (by simpa using hl) (fun y H' Nx hy e c1 c2 => ?_) (fun H' e hD' => ?_)
  · obtain ⟨z, hm, rfl⟩ := List.mem_map.mp hy
    exact ⟨rfl, _, rfl, z, rfl, hz z hm, fun H4 e4 => c1 _ _ e4 rfl⟩
  · refine ⟨D, zs.map isName, rfl, .of ?_, ?_⟩
    · rw [hD']
      congr 2
      rw [List.filterMap_map, List.map_map]
      simp [Function.comp_def]
    · have hh : (zs.map isName).all id = zs.all isName := by simp [List.all_map, Function.comp_def]
      rw [hh]
      refine ⟨_, rfl, ifb (fun h1 => ?_) fun h1 => ?_⟩
      · refine ⟨_, rfl, a, zs, rfl, sq_ext hs (e0.trans e), hl, fun H4 e4 => ?_⟩
        have := hQ H4 ((e0.trans e).trans e4)
        rwa [h1, Bool.true_and] at this
      · have := hQ H' (e0.trans e)
        rwa [h1, Bool.false_and] at this
end
end Ws

set_option Elab.async false
set_option linter.all false
set_option maxRecDepth 100000
set_option maxHeartbeats 4000000
namespace Ws
open PySem PySem.Spec PyProof.Rows L2
theorem ifT {c : Bool} {A B : Prop} (h : c = true) (a : A) : if c = true then A else B := by rw [if_pos h]; exact a
theorem ifF {c : Bool} {A B : Prop} (h : c = false) (b : B) : if c = true then A else B := by rw [if_neg (by rw [h]; simp)]; exact b
structure RuleD where
  share : Int
  mark : Str
  always : Bool
  late : Bool
  deriving DecidableEq
def RuleD.vs (r : RuleD) : List V := [.int r.share, .str r.mark, .bl r.always, .bl r.late]
def RuleD.ok (r : RuleD) : Prop := 0 ≤ r.share ∧ r.share ≤ 1000 ∧ isName r.mark = true
theorem paired_mem {α β : Type} {R : α → β → Prop} : ∀ {xs : List α} {ys : List β} {a : α}, Paired R xs ys → a ∈ xs → ∃ b, b ∈ ys ∧ R a b
  | _, _, _, .nil, h => by simp at h
  | _, _, _, .cons r t, h => by
    rcases List.mem_cons.mp h with rfl | h
    · exact ⟨_, List.mem_cons_self, r⟩
    · obtain ⟨b, h1, h2⟩ := paired_mem t h
      exact ⟨b, List.mem_cons_of_mem _ h1, h2⟩
section
variable {S : Addr → Prop} {K : PySem.W.Frag} {H H1 : Hp} {a o q : Addr} {u : HO}
/-- all of S stands somewhere: what is new is not of S -/
def Dm (S : Addr → Prop) (H : Hp) : Prop := ∀ a, S a → H a ≠ none
theorem Dm.kp {T : Addr → Prop} (d : Dm S H) (u : Kp T H H1) : Dm S H1 := fun a h => u.dom a (d a h)
theorem Dm.ext (d : Dm S H) (u : Ext H H1) : Dm S H1 := d.kp (T := no) (.ext u)
theorem At.ext (h : At S H a u) (e : Ext H H1) : At S H1 a u := h.kp (.ext e)
theorem At.fresh (d : Dm S H) (h : H a = none) : At S (upd H a u) a u := .new d h
theorem At.free (h : At S H a u) : At no H a u := ⟨h.1, fun z => z⟩
/-- one more that may change -/
def more (S : Addr → Prop) (q : Addr) : Addr → Prop := fun a => S a ∨ a = q
theorem At.grow (h : At S H a u) (hq : H q = none) : At (more S q) H a u := ⟨h.1, fun z => z.elim h.2 fun z => by rw [← z, h.1] at hq; cases hq⟩
theorem At.ne (h : At S H a u) (hq : H q = none) : a ≠ q := ne_of_none h.1 hq
def RuleAt (S : Addr → Prop) (K : PySem.W.Frag) (H : Hp) (o : Addr) (r : RuleD) : Prop := r.ok ∧ ∃ dx p, At S H o (.ins (c_Rule K) dx [("r_parts", .ref p)]) ∧ At S H p (.tup r.vs)
theorem RuleAt.kp {r : RuleD} (h : RuleAt S K H o r) (e : Kp S H H1) : RuleAt S K H1 o r := by
  obtain ⟨g, dx, p, h1, h2⟩ := h
  exact ⟨g, dx, p, h1.kp e, h2.kp e⟩
theorem RuleAt.ext {r : RuleD} (h : RuleAt S K H o r) (e : Ext H H1) : RuleAt S K H1 o r := h.kp (.ext e)
theorem RuleAt.grow {r : RuleD} (h : RuleAt S K H o r) (hq : H q = none) : RuleAt (more S q) K H o r := by
  obtain ⟨g, dx, p, h1, h2⟩ := h
  exact ⟨g, dx, p, h1.grow hq, h2.grow hq⟩
theorem RuleAt.free {r : RuleD} (h : RuleAt S K H o r) : RuleAt no K H o r := by
  obtain ⟨g, dx, p, h1, h2⟩ := h
  exact ⟨g, dx, p, h1.free, h2.free⟩
abbrev RulesAt (S : Addr → Prop) (K : PySem.W.Frag) (H : Hp) : List Addr → List RuleD → Prop := Paired (RuleAt S K H)
/-- a list, or a tuple that is not to change -/
def SqA (S : Addr → Prop) (H : Hp) (a : Addr) (xs : List V) : Prop := H a = some (.lst xs) ∨ At S H a (.tup xs)
theorem SqA.sq {xs : List V} (h : SqA S H a xs) : Sq K H a xs := h.imp (fun h => .inl h) fun h => .inl h.1
theorem SqA.ext {xs : List V} (h : SqA S H a xs) (e : Ext H H1) : SqA S H1 a xs := h.imp (fun h => e _ _ h) fun h => h.ext e
end
theorem isName_len {z : Str} (h : isName z = true) : z.length ≤ 6 := by
  unfold isName at h
  simp at h
  exact h.2.1
/-- only o may change -/
abbrev one (o : Addr) : Addr → Prop := fun a => a = o
theorem made_ext {H H2 : Hp} {x dx : Addr} {C : Addr} (hx : H x = none) (hd : H dx = none) (u : Kp (one x) (upd (upd H dx (.own x)) x (.ins C dx [])) H2) : Ext H H2 := fun a o e => by
  have n1 : a ≠ x := ne_of_none e hx
  have n2 : a ≠ dx := ne_of_none e hd
  refine u.keep a o ?_ n1
  rw [upd_ne n1, upd_ne n2]
  exact e
section
variable {P : Program} {w : World} {K : PySem.W.Frag} {mg : Str → Option Value} {base : Heap}
def sp_Rule_init (K : PySem.W.Frag) : Sp := fun vs H Q _ => ∃ (S : Addr → Prop) (o dx : Addr) (r : RuleD), vs = [.ref o, .int r.share, .str r.mark, .bl r.always, .bl r.late] ∧ Dm S H ∧ At S H o (.ins (c_Rule K) dx []) ∧ r.ok ∧
  ∀ H', Kp (one o) H H' → RuleAt S K H' o r → Q .non H'
theorem sc_Rule_init : FnScope ["self", "share", "mark", "always", "late"] ["self", "share", "mark", "always", "late"] (defScope s_Rule_init) := ⟨rfl, rfl, rfl, by decide +kernel, rfl, by decide +kernel, by decide +kernel⟩
theorem okf_Rule_init {fd : FuncData} {dvs : List V} (F : FunD K "__init__" "Rule.__init__" (defArgs s_Rule_init) (defBody s_Rule_init) (defScope s_Rule_init) dvs [] (a_Rule_init K) fd) (x : Fx K mg w) : FnOk P w K mg base CX0 2 (a_Rule_init K) fd ["self", "share", "mark", "always", "late"] (sp_Rule_init K) := by
  refine okFD F sc_Rule_init (fun vs H Q E h => by obtain ⟨S, o, dx, r, rfl, dm, ho, ⟨g1, g2, g3⟩, hQ⟩ := h; rfl) (fun cdv A outer s H vs Q E hr h => ?_)
  obtain ⟨S, o, dx, r, rfl, dm, ho, ⟨g1, g2, g3⟩, hQ⟩ := h
  refine ⟨_, (pss_cons (ps_if (PW.pt (pw_or (pt_not (pt_val (pe_callR (ok_is_number x) (hr.mono (by decide)) rfl x.m_is_number (keep_of x.F_is_number) pass0 (pa_cons (pv 1) pa_nil)))) (pw_or1 (pt_not (pt_chain op_le op_le pe_int (pv 1) (pe_gI x.i_MOST_FINE rfl))))))
 (pss_one ps_never)
 pss_nil)
 (pss_cons (ps_if (pt_not (pt_val (pe_callR (ok_is_name x) (hr.mono (by decide)) rfl x.m_is_name (keep_of x.F_is_name) pass0 (pa_cons (pv 2) pa_nil))))
 (pss_one ps_never)
 pss_nil)
 (pss_cons (ps_if (pt_not (pt_val (pe_callB (r := rIsi K) call_isi rfl x.n_isinstance bb_isinstance (pa_cons (pv 3) (pa_cons (pe_gT x.n_bool (by rfl) rfl) pa_nil)))))
 (pss_one ps_never)
 pss_nil)
 (pss_cons (ps_if (pt_not (pt_val (pe_callB (r := rIsi K) call_isi rfl x.n_isinstance bb_isinstance (pa_cons (pv 4) (pa_cons (pe_gT x.n_bool (by rfl) rfl) pa_nil)))))
 (pss_one ps_never)
 pss_nil)
 (pss_one (ps_fld (pv 0) (pe_tup (pa_cons (pv 1) (pa_cons (pv 2) (pa_cons (pv 3) (pa_cons (pv 4) pa_nil))))) rfl)))))), ?_⟩
  refine ⟨_, rfl, _, rfl, true, rfl, ?_⟩
  refine ⟨_, rfl, _, _, rfl, rfl, _, rfl, ifT (decide_eq_true g1) ⟨_, _, rfl, rfl, _, rfl, ifF (by simp [g2]) ?_⟩⟩
  refine ⟨_, rfl, _, rfl, Nat.le_trans (isName_len g3) (by decide), fun H1 e1 => ⟨_, rfl, ifF (by simp [g3]) ?_⟩⟩
  refine ⟨_, rfl, _, _, _, _, true, rfl, .ty _, .base (.bl _), kit_ty (by decide +kernel), true, rfl, ?_⟩
  refine ⟨_, rfl, _, _, _, _, true, rfl, .ty _, .base (.bl _), kit_ty (by decide +kernel), true, rfl, ?_⟩
  refine ⟨_, rfl, _, rfl, _, rfl, _, rfl, by simp [sizeLine_eq], fun p hp => ⟨_, rfl, o, _, dx, [], rfl, ?_, x.cl_Rule, x.na_Rule_r_parts, by simp, ?_⟩⟩
  · exact ext_new hp _ _ (e1 _ _ ho.1)
  · have no : p ≠ o := fun z => by rw [z, e1 _ _ ho.1] at hp; cases hp
    exact hQ _ (((Kp.ext e1).add hp).put rfl) ⟨⟨g1, g2, g3⟩, dx, p, ⟨upd_same, ho.2⟩, by rw [upd_ne no, upd_same]; rfl, fun z => (dm.ext e1) p z hp⟩
theorem ok_Rule_init (x : Fx K mg w) : FnR P w K mg base CX0 2 (a_Rule_init K) (sp_Rule_init K) := by
  obtain ⟨fd, F⟩ := x.F_Rule_init
  exact rawFD F (by simp) (okf_Rule_init F x) (fun T kV doc pm an cdv ct us its hu hi => match us, hu, its, hi with | [_, _, _, _, _], _, [_, _, _], _ => ⟨_, rfl, rfl⟩)
def sp_Rule_share (S : Addr → Prop) (K : PySem.W.Frag) : Sp := fun vs H Q _ => ∃ (o : Addr) (r : RuleD), vs = [.ref o] ∧ RuleAt S K H o r ∧ Q (.int r.share) H
theorem sc_Rule_share : FnScope ["self"] ["self"] (defScope s_Rule_share) := ⟨rfl, rfl, rfl, by decide +kernel, rfl, by decide +kernel, by decide +kernel⟩
theorem ok_Rule_share (x : Fx K mg w) : FnR P w K mg base CX0 1 (a_Rule_share K) (sp_Rule_share no K) := by
  refine okR x.F_Rule_share sc_Rule_share (fun _ _ _ _ _ _ us hl => match us, hl with | [_], _ => rfl) (fun vs H Q E h => by obtain ⟨o, r, rfl, ⟨_, dx, p, h1, h2⟩, hQ⟩ := h; rfl) (fun cdv A outer s H vs Q E hr h => ?_)
  obtain ⟨o, r, rfl, ⟨_, dx, p, h1, h2⟩, hQ⟩ := h
  refine ⟨_, (pss_one (ps_ret (pe_ix (r := rIxT K) ix_tup (pe_fldK (K := K) rfl (pv 0) rfl) pe_int (fun _ _ => rfl)))), ?_⟩
  exact ⟨_, rfl, o, _, dx, _, _, rfl, h1.1, x.cl_Rule, x.na_Rule_r_parts, rfl, p, _, 0, _, rfl, rfl, SqT.of h2.1, atI_nat (j := 0) rfl, hQ⟩
/-- equal as two rules are -/
def RuleR (S : Addr → Prop) (K : PySem.W.Frag) (p q : Addr) (b : Bool) (H : Hp) : Prop := ∃ r r', RuleAt S K H p r ∧ RuleAt S K H q r' ∧ b = decide (r = r')
theorem isi_own {K : PySem.W.Frag} {H : Hp} {a C dx : Addr} {fs : List (Str × V)} (h : H a = some (.ins C dx fs)) (cl : Cls K C) (ha : PySem.W.findIn K (.ref C) "__class__" = some (some (.builtin "object.__class__")))
    (hn : PySem.W.specialIn K (.builtin "object.__class__") "__get__" = some (some (.builtin "getset_descriptor.__get__"))) (ht : PySem.W.takesIn K (.builtin "object.__class__") = some true)
    (hm : PySem.W.mroIn K C (.type "object") = some true) : TyX K H (.ref a) (.ref C) := .base (.ins h cl ha hn ht hm)
def RuleD.dat (r : RuleD) : PyData := .tuple [.int r.share, .str r.mark, .bool r.always, .bool r.late]
theorem rule_dp {K : PySem.W.Frag} {H : Hp} {p : Addr} {r : RuleD} (h : H p = some (.tup r.vs)) : Dp K H (.ref p) r.dat := .tup (SqT.of h) (.cons (.int _) (.cons (.str _) (.cons (.bl _) (.cons (.bl _) .nil))))
theorem isName_ok {z : Str} (h : isName z = true) : PyData.strOk z = true := by
  unfold isName at h
  simp only [Bool.and_eq_true, List.all_eq_true, decide_eq_true_eq] at h
  have key : ∀ c ∈ letters.cps.toList, c ∈ letters.cps.toList ∧ 97 ≤ c ∧ c ≤ 122 := by decide +kernel
  show z.cps.all (fun c => decide (c < 0x110000)) = true
  rw [← Array.all_toList, List.all_eq_true]
  intro c hc
  have := key c (h.2.2 c hc)
  exact decide_eq_true (by omega)
theorem rule_shaped {r : RuleD} (h : r.ok) : SeqAt.shaped r.dat = true := by
  unfold SeqAt.shaped RuleD.dat
  simp [PyData.canLay0, PyData.canLayAll0, PyData.depth, PyData.depthAll, isName_ok h.2.2]
theorem rule_eqv (r r' : RuleD) : PyData.eqv r.dat r'.dat = decide (r = r') := by
  obtain ⟨a, b, c, d⟩ := r
  obtain ⟨a', b', c', d'⟩ := r'
  simp only [RuleD.dat, PyData.eqv, PyData.eqvAll, RuleD.mk.injEq]
  rw [Bool.eq_iff_iff]
  simp
theorem sc_Rule_eq : FnScope ["self", "other"] ["self", "other"] (defScope s_Rule_eq) := ⟨rfl, rfl, rfl, by decide +kernel, rfl, by decide +kernel, by decide +kernel⟩
theorem ok_Rule_eq (x : Fx K mg w) : FnR P w K mg base CX0 1 (a_Rule_eq K) (spEqb (RuleR no K)) := by
  refine okR x.F_Rule_eq sc_Rule_eq (fun _ _ _ _ _ _ us hl => match us, hl with | [_, _], _ => rfl) (fun vs H Q E h => by obtain ⟨p, q, b, rfl, ⟨r, r', hp, hq, rfl⟩, hQ⟩ := h; rfl) (fun cdv A outer s H vs Q E hr h => ?_)
  obtain ⟨p, q, b, rfl, ⟨r, r', hp, hq, rfl⟩, hQ⟩ := h
  refine ⟨_, (pss_one (ps_ret (pe_and (pe_callB (r := rIsi K) call_isi rfl x.n_isinstance bb_isinstance (pa_cons (pv 1) (pa_cons (pe_gR x.m_Rule rfl) pa_nil))) (pe_one (pe_cmpR (show OpR _ _ (rEqD K) from op_eqD hr.units) (pe_fldK (K := K) rfl (pv 0) rfl) (pe_fldK (K := K) rfl (pv 1) rfl) (nomark _)))))), ?_⟩
  obtain ⟨g, dx, pp, h1, h2⟩ := hp
  obtain ⟨g', dy, pq, h3, h4⟩ := hq
  refine ⟨_, rfl, _, _, _, _, true, rfl, .own _, isi_own h3.1 x.cl_Rule x.cc_Rule x.cget x.ctak x.mro_Rule, x.kit_Rule, true, rfl, ?_⟩
  refine ⟨_, rfl, p, _, dx, _, _, rfl, h1.1, x.cl_Rule, x.na_Rule_r_parts, rfl, _, rfl, q, _, dy, _, _, rfl, h3.1, x.cl_Rule, x.na_Rule_r_parts, rfl, _, _, rule_dp h2.1, rule_dp h4.1, rule_shaped g, rule_shaped g', ?_⟩
  rw [rule_eqv]
  exact hQ H Ext.rfl'
def sp_are_rules (S : Addr → Prop) (K : PySem.W.Frag) : Sp := fun vs H Q _ => ∃ (a : Addr) (os : List Addr) (rs : List RuleD), vs = [.ref a] ∧ Sq K H a (os.map V.ref) ∧ RulesAt S K H os rs ∧ 1 ≤ rs.length ∧ rs.length ≤ 2 ∧ ∀ H', Ext H H' → Q (.bl true) H'
theorem sc_are_rules : FnScope ["thing", "rule"] ["thing"] (defScope s_are_rules) := ⟨rfl, rfl, rfl, by decide +kernel, rfl, by decide +kernel, by decide +kernel⟩
theorem ok_are_rules (x : Fx K mg w) : FnR P w K mg base CX0 1 (a_are_rules K) (sp_are_rules no K) := by
  refine okR x.F_are_rules sc_are_rules (fun _ _ _ _ _ _ us hl => match us, hl with | [_], _ => rfl) (fun vs H Q E h => by obtain ⟨a, os, rs, rfl, hs, hr2, l1, l2, hQ⟩ := h; rfl) (fun cdv A outer s H vs Q E hr h => ?_)
  obtain ⟨a, os, rs, rfl, hs, hr2, l1, l2, hQ⟩ := h
  refine ⟨_, (pss_cons (ps_if (PW.pt (pw_or (pt_not (pt_val (pe_callB (r := rIsiT K) call_isiT rfl x.n_isinstance bb_isinstance (pa_cons (pv 0) (pa_cons (pe_tup (pa_cons (pe_gT x.n_list (by rfl) rfl) (pa_cons (pe_gT x.n_tuple (by rfl) rfl) pa_nil))) pa_nil))))) (pw_or1 (pt_not (pt_chain op_le op_le pe_int (pe_callB (r := rLenK K) call_lenK rfl x.n_len bb_len (pa_cons (pv 0) pa_nil)) pe_int)))))
 (pss_one (ps_ret pe_bl))
 pss_nil)
 (pss_one (ps_ret (pe_callB (r := rAll K) (cr_all rfl) rfl x.n_all bb_all (pa_cons (pe_lc (own := [("rule", 1)]) (tt := tYes) rfl sc_are_rules.nd (pi_seqK (K := K) rfl (pv 0)) (blkOk_by (N := ["thing", "rule"]) (sc := defScope s_are_rules) (by decide +kernel)) (fun _ _ _ _ _ => (pg_name (i := 1) sc_are_rules.nd rfl (Or.inl rfl))) (fun _ _ _ _ _ => pts_nil) (fun _ _ _ _ _ => (pe_callB (r := rIsi K) call_isi rfl x.n_isinstance bb_isinstance (pa_cons (pv 1) (pa_cons (pe_gR x.m_Rule rfl) pa_nil))))) pa_nil))))), ?_⟩
  have hl := hr2.length
  refine ⟨_, rfl, by simp [sizeLine_eq], fun p hp => ?_⟩
  obtain ⟨t, us, k1, k2, k3⟩ := isi_seq hs hp
  refine ⟨_, p, _, t, us, true, rfl, upd_same, k1, k2, k3, true, rfl, ?_⟩
  clear k1 k2 k3
  have e0 : Ext H (upd H p (.tup [.ty "list", .ty "tuple"])) := ext_new hp
  generalize upd H p (.tup [.ty "list", .ty "tuple"]) = H1 at e0
  refine ⟨_, rfl, _, _, rfl, sq_lenV (sq_ext hs e0), _, _, rfl, rfl, _, rfl, ifT (decide_eq_true (by simp; omega)) ⟨_, _, rfl, rfl, _, rfl, ifF (by simp; omega) ?_⟩⟩
  refine seq_go rfl (sq_ext hs e0) (fun z => z) fun J st D hD => lc_map st hD (fun v => some (.bl true)) (by simp; omega) (fun y H' Nx hy e c1 c2 => ?_) (fun H' e hD' => ?_)
  · obtain ⟨z, hm, rfl⟩ := List.mem_map.mp hy
    obtain ⟨r, hr3⟩ := paired_mem hr2 hm
    obtain ⟨_, dx, pp, h1, h2⟩ := hr3.2.ext (e0.trans e)
    exact ⟨rfl, _, rfl, _, _, _, _, true, rfl, .own _, isi_own h1.1 x.cl_Rule x.cc_Rule x.cget x.ctak x.mro_Rule, x.kit_Rule, c1 _ _ Ext.rfl' rfl⟩
  · refine ⟨D, os.map fun _ => true, rfl, .of ?_, ?_⟩
    · rw [hD']
      congr 2
      rw [List.filterMap_map, List.map_map]
      simp [Function.comp_def]
    · have hh : (os.map fun _ => true).all id = true := by simp
      rw [hh]
      exact hQ H' (e0.trans e)
theorem inV_str (z : Str) (zs : List Str) : inV (.str z) (zs.map V.str) = decide (z ∈ zs) := by
  unfold inV
  rw [List.any_map, Bool.eq_iff_iff]
  simp only [List.any_eq_true, decide_eq_true_eq, Function.comp]
  constructor
  · rintro ⟨y, hy, e⟩
    have : y = z := by simpa [eqV] using e
    exact this ▸ hy
  · exact fun h => ⟨z, h, by simp [eqV]⟩
theorem flat_strs (zs : List Str) : (zs.map V.str).all flatV = true := by simp [flatV]
structure HouseD where
  rules : List RuleD
  calls : List Str
  lost : List Str
  fails : Bool
  deriving DecidableEq
/-- what a house may be made of -/
structure HouseD.Fit (m : HouseD) : Prop where
  r1 : 1 ≤ m.rules.length
  r2 : m.rules.length ≤ 2
  nm : ∀ z ∈ m.calls, isName z = true
  nd : m.calls.Nodup
  ln : m.calls.length < 64
  ndl : m.lost.Nodup
  sub : ∀ z ∈ m.lost, z ∈ m.calls
  lnl : m.lost.length < 64
/-- what is made of it -/
structure Made (m h : HouseD) : Prop where
  rules : h.rules = m.rules
  calls : h.calls.Perm m.calls
  sc : sortedS h.calls = true
  lost : h.lost.Perm m.lost
  sl : sortedS h.lost = true
  fails : h.fails = m.fails
theorem Made.fit {m h : HouseD} (d : Made m h) (f : m.Fit) : h.Fit := by
  refine ⟨by rw [d.rules]; exact f.r1, by rw [d.rules]; exact f.r2, fun z hz => f.nm z (d.calls.mem_iff.mp hz), d.calls.nodup_iff.mpr f.nd, by rw [d.calls.length_eq]; exact f.ln, d.lost.nodup_iff.mpr f.ndl, fun z hz => d.calls.mem_iff.mpr (f.sub z (d.lost.mem_iff.mp hz)), by rw [d.lost.length_eq]; exact f.lnl⟩
section
variable {S : Addr → Prop} {K : PySem.W.Frag} {H H1 : Hp} {a o q : Addr} {u v : HO}
def HouseAt (S : Addr → Prop) (K : PySem.W.Frag) (H : Hp) (o : Addr) (h : HouseD) : Prop := h.Fit ∧ sortedS h.calls = true ∧ sortedS h.lost = true ∧ ∃ dx pr pc pl os,
  At S H o (.ins (c_House K) dx [("h_rules", .ref pr), ("h_calls", .ref pc), ("h_lost", .ref pl), ("h_fails", .bl h.fails)]) ∧ At S H pr (.tup (os.map V.ref)) ∧ RulesAt S K H os h.rules ∧ At S H pc (.tup (h.calls.map V.str)) ∧ At S H pl (.tup (h.lost.map V.str))
theorem HouseAt.kp {h : HouseD} (t : HouseAt S K H o h) (e : Kp S H H1) : HouseAt S K H1 o h := by
  obtain ⟨f, s1, s2, dx, pr, pc, pl, os, h1, h2, h3, h4, h5⟩ := t
  exact ⟨f, s1, s2, dx, pr, pc, pl, os, h1.kp e, h2.kp e, Paired.mapP h3 fun _ _ z => z.kp e, h4.kp e, h5.kp e⟩
theorem HouseAt.ext {h : HouseD} (t : HouseAt S K H o h) (e : Ext H H1) : HouseAt S K H1 o h := t.kp (.ext e)
theorem HouseAt.grow {h : HouseD} (t : HouseAt S K H o h) (hq : H q = none) : HouseAt (more S q) K H o h := by
  obtain ⟨f, s1, s2, dx, pr, pc, pl, os, h1, h2, h3, h4, h5⟩ := t
  exact ⟨f, s1, s2, dx, pr, pc, pl, os, h1.grow hq, h2.grow hq, Paired.mapP h3 fun _ _ z => z.grow hq, h4.grow hq, h5.grow hq⟩
theorem HouseAt.free {h : HouseD} (t : HouseAt S K H o h) : HouseAt no K H o h := by
  obtain ⟨f, s1, s2, dx, pr, pc, pl, os, h1, h2, h3, h4, h5⟩ := t
  exact ⟨f, s1, s2, dx, pr, pc, pl, os, h1.free, h2.free, Paired.mapP h3 fun _ _ z => z.free, h4.free, h5.free⟩
/-- other things than the one at o -/
theorem At.off (h : At S H a u) (ho : H o = some v) (n : u ≠ v) (e : Kp (one o) H H1) : At S H1 a u := ⟨e.keep a u h.1 fun z => by
  have z : a = o := z
  have h1 := h.1
  rw [z, ho] at h1
  exact n (Option.some.inj h1).symm, h.2⟩
theorem RuleAt.off {r : RuleD} {C dx : Addr} (h : RuleAt S K H a r) (ho : H o = some (.ins C dx [])) (e : Kp (one o) H H1) : RuleAt S K H1 a r := by
  obtain ⟨g, dx', p, h1, h2⟩ := h
  exact ⟨g, dx', p, h1.off ho (by simp) e, h2.off ho (by simp) e⟩
end
/-- tuple(sorted(x)) -/
theorem srt_tup {i : Nat} {a : Addr} {σ : L2.St} {H : Hp} {zs : List Str} {Q : VK} (hv : σ[i]? = some (some (.ref a))) (h : Sq K H a (zs.map V.str)) (hl : zs.length < 64)
    (k : ∀ (ys : List Str) (p : Addr) (H' : Hp), ys.Perm zs → sortedS ys = true → Ext H H' → H p = none → H' p = some (.tup (ys.map V.str)) → Q (.ref p) H') :
    tCB (rTupOf K) (tCons (tCB (rSortS K) (tCons (tVar i) tNil)) tNil) σ H Q := by
  refine ⟨_, hv, a, zs, rfl, sq_s h, hl, fun ys p hp hs hn => ⟨p, _, rfl, .inl ⟨.of upd_same, fun l nl => ?_⟩⟩⟩
  have e1 : Ext H (upd H p (.lst (ys.map V.str))) := ext_new hn
  refine k ys l _ hp hs (e1.trans (ext_new nl)) ?_ upd_same
  cases q : H l with
  | none => rfl
  | some u => rw [e1 _ _ q] at nl; cases nl
/-- tuple(x) -/
theorem tup_of {i : Nat} {a : Addr} {S : Addr → Prop} {σ : L2.St} {H : Hp} {xs : List V} {Q : VK} (hv : σ[i]? = some (some (.ref a))) (h : SqA S H a xs) (dm : Dm S H)
    (k : ∀ (p : Addr) (H' : Hp), Ext H H' → At S H' p (.tup xs) → Q (.ref p) H') : tCB (rTupOf K) (tCons (tVar i) tNil) σ H Q := by
  rcases h with h | h
  · exact ⟨_, hv, a, xs, rfl, .inl ⟨.of h, fun l nl => k l _ (ext_new nl) (.fresh dm nl)⟩⟩
  · exact ⟨_, hv, a, xs, rfl, .inr ⟨.of h.1, k a H Ext.rfl' h⟩⟩
def sp_House_init (K : PySem.W.Frag) : Sp := fun vs H Q _ => ∃ (S : Addr → Prop) (o dx ar ac al : Addr) (os : List Addr) (m : HouseD), vs = [.ref o, .ref ar, .ref ac, .ref al, .bl m.fails] ∧ Dm S H ∧ At S H o (.ins (c_House K) dx []) ∧
  SqA S H ar (os.map V.ref) ∧ RulesAt S K H os m.rules ∧ Sq K H ac (m.calls.map V.str) ∧ Sq K H al (m.lost.map V.str) ∧ m.Fit ∧ ∀ H' h, Kp (one o) H H' → Made m h → HouseAt S K H' o h → Q .non H'
theorem sc_House_init : FnScope ["self", "rules", "calls", "lost", "fails", "name"] ["self", "rules", "calls", "lost", "fails"] (defScope s_House_init) := ⟨rfl, rfl, rfl, by decide +kernel, rfl, by decide +kernel, by decide +kernel⟩
theorem okf_House_init {fd : FuncData} {dvs : List V} (F : FunD K "__init__" "House.__init__" (defArgs s_House_init) (defBody s_House_init) (defScope s_House_init) dvs [] (a_House_init K) fd) (x : Fx K mg w) : FnOk P w K mg base CX0 3 (a_House_init K) fd ["self", "rules", "calls", "lost", "fails"] (sp_House_init K) := by
  refine okFD F sc_House_init (fun vs H Q E h => by obtain ⟨S, o, dx, ar, ac, al, os, m, rfl, dm, ho, hr1, hr2, hc, hl, f, hQ⟩ := h; rfl) (fun cdv A outer s H vs Q E hr h => ?_)
  obtain ⟨S, o, dx, ar, ac, al, os, m, rfl, dm, ho, hr1, hr2, hc, hl, f, hQ⟩ := h
  refine ⟨_, (pss_cons (ps_if (pt_not (pt_val (pe_callR (ok_are_rules x) (hr.mono (by decide)) rfl x.m_are_rules (keep_of x.F_are_rules) pass0 (pa_cons (pv 1) pa_nil))))
 (pss_one ps_never)
 pss_nil)
 (pss_cons (ps_if (pt_not (pt_val (pe_callR (ok_are_names x) (hr.mono (by decide)) rfl x.m_are_names (keep_of x.F_are_names) pass0 (pa_cons (pv 2) pa_nil))))
 (pss_one ps_never)
 pss_nil)
 (pss_cons (ps_if (PW.pt (pw_or (pt_not (pt_val (pe_callR (ok_are_names x) (hr.mono (by decide)) rfl x.m_are_names (keep_of x.F_are_names) pass0 (pa_cons (pv 3) pa_nil)))) (pw_or1 (pt_not (pt_val (pe_callB (r := rAll K) (cr_all rfl) rfl x.n_all bb_all (pa_cons (pe_lc (own := [("name", 5)]) (tt := tYes) rfl sc_House_init.nd (pi_seqK (K := K) rfl (pv 3)) (blkOk_by (N := ["self", "rules", "calls", "lost", "fails", "name"]) (sc := defScope s_House_init) (by decide +kernel)) (fun _ _ _ _ _ => (pg_name (i := 5) sc_House_init.nd rfl (Or.inl rfl))) (fun _ _ _ _ _ => pts_nil) (fun _ _ _ _ _ => (pe_cmpR (show OpR _ _ (rIn K false) from op_in_seq) (pv 5) (pv 2) rfl))) pa_nil)))))))
 (pss_one ps_never)
 pss_nil)
 (pss_cons (ps_if (pt_not (pt_val (pe_callB (r := rIsi K) call_isi rfl x.n_isinstance bb_isinstance (pa_cons (pv 4) (pa_cons (pe_gT x.n_bool (by rfl) rfl) pa_nil)))))
 (pss_one ps_never)
 pss_nil)
 (pss_cons (ps_fld (pv 0) (pe_callTy (r := rTupOf K) call_tupK rfl x.n_tuple bb_tuple (pa_cons (pv 1) pa_nil)) rfl)
 (pss_cons (ps_fld (pv 0) (pe_callTy (r := rTupOf K) call_tupK rfl x.n_tuple bb_tuple (pa_cons (pe_callB (r := rSortS K) call_sortS rfl x.n_sorted bb_sorted (pa_cons (pv 2) pa_nil)) pa_nil)) rfl)
 (pss_cons (ps_fld (pv 0) (pe_callTy (r := rTupOf K) call_tupK rfl x.n_tuple bb_tuple (pa_cons (pe_callB (r := rSortS K) call_sortS rfl x.n_sorted bb_sorted (pa_cons (pv 3) pa_nil)) pa_nil)) rfl)
 (pss_one (ps_fld (pv 0) (pv 4) rfl))))))))), ?_⟩
  have names6 : ∀ z ∈ m.calls, z.length ≤ 1000 := fun z hz => Nat.le_trans (isName_len (f.nm z hz)) (by decide)
  have nc : (m.calls.all isName && decide m.calls.Nodup) = true := by simp [f.nd]; exact f.nm
  have nl : (m.lost.all isName && decide m.lost.Nodup) = true := by simp [f.ndl]; exact fun z hz => f.nm z (f.sub z hz)
  have fl := f.ln
  have fl2 := f.lnl
  refine ⟨_, rfl, ar, os, m.rules, rfl, hr1.sq, Paired.mapP hr2 fun _ _ z => z.free, f.r1, f.r2, fun H1 e1 => ⟨true, rfl, ?_⟩⟩
  refine ⟨_, rfl, ac, m.calls, rfl, sq_ext hc e1, by omega, names6, fun H2 e2 => ⟨_, rfl, ifF (by simp [nc]) ?_⟩⟩
  refine ⟨_, rfl, al, m.lost, rfl, sq_ext hl (e1.trans e2), by omega, fun z hz => names6 z (f.sub z hz), fun H3 e3 => ⟨_, rfl, ifF (by simp [nl]) ?_⟩⟩
  have e13 := (e1.trans e2).trans e3
  refine seq_go rfl (sq_ext hl e13) (fun z => z) fun J st D hD => lc_map st hD (fun v => match v with | .str z => some (.bl (decide (z ∈ m.calls))) | _ => none) (by simp; omega) (fun y H' Nx hy e c1 c2 => ?_) (fun H4 e4 hD' => ?_)
  · obtain ⟨z, hm, rfl⟩ := List.mem_map.mp hy
    refine ⟨rfl, _, rfl, _, rfl, ac, _, rfl, sq_s (sq_ext hc (e13.trans e)), rfl, flat_strs _, ?_⟩
    exact c1 _ _ Ext.rfl' (by simp [inV_str])
  refine ⟨D, m.lost.map fun z => decide (z ∈ m.calls), rfl, .of ?_, ?_⟩
  · rw [hD']
    congr 2
    rw [List.filterMap_map, List.map_map]
    simp [Function.comp_def]
  have hh : (m.lost.map fun z => decide (z ∈ m.calls)).all id = true := by simp; exact f.sub
  rw [hh]
  refine ⟨true, rfl, ?_⟩
  refine ⟨_, rfl, _, _, _, _, true, rfl, .ty _, .base (.bl _), kit_ty (by decide +kernel), true, rfl, ?_⟩
  have e14 := e13.trans e4
  clear hD' hh st
  refine tup_of rfl (hr1.ext e14) (dm.ext e14) fun pr H5 e5 t5 => ?_
  have o5 : H5 o = some (.ins (c_House K) dx []) := e5 _ _ (e14 _ _ ho.1)
  refine ⟨_, rfl, o, _, dx, [], rfl, o5, x.cl_House, x.na_House_h_rules, by simp, ?_⟩
  have n5 : pr ≠ o := ne_of t5.1 o5 (by simp)
  have u6 : Kp (one o) H (upd H5 o (.ins (c_House K) dx [("h_rules", .ref pr)])) := (Kp.ext (e14.trans e5)).put rfl
  have r6 : (upd H5 o (.ins (c_House K) dx [("h_rules", .ref pr)])) pr = some (.tup (os.map V.ref)) := by rw [upd_ne n5]; exact t5.1
  have o6 : (upd H5 o (.ins (c_House K) dx [("h_rules", .ref pr)])) o = some (.ins (c_House K) dx [("h_rules", .ref pr)]) := upd_same
  show _
  change tSeq _ _ _ _ (upd H5 o (.ins (c_House K) dx [("h_rules", .ref pr)]))
  generalize upd H5 o (.ins (c_House K) dx [("h_rules", .ref pr)]) = H6 at u6 r6 o6
  refine srt_tup rfl (sq_kp (S := one o) hc (sq_ne hc ho.1) u6) fl fun ys pc H7 py sy e7 np7 t7 => ?_
  refine ⟨_, rfl, o, _, dx, _, rfl, e7 _ _ o6, x.cl_House, x.na_House_h_calls, by simp, ?_⟩
  have n7 : pc ≠ o := fun z => by rw [z, o6] at np7; cases np7
  have m7 : pc ≠ pr := fun z => by rw [z, r6] at np7; cases np7
  change tSeq _ _ _ _ (upd H7 o (.ins (c_House K) dx [("h_rules", .ref pr), ("h_calls", .ref pc)]))
  have u8 : Kp (one o) H (upd H7 o (.ins (c_House K) dx [("h_rules", .ref pr), ("h_calls", .ref pc)])) := (u6.trans (.ext e7)).put rfl
  have r8 : (upd H7 o (.ins (c_House K) dx [("h_rules", .ref pr), ("h_calls", .ref pc)])) pr = some (.tup (os.map V.ref)) := by rw [upd_ne n5]; exact e7 _ _ r6
  have t8 : (upd H7 o (.ins (c_House K) dx [("h_rules", .ref pr), ("h_calls", .ref pc)])) pc = some (.tup (ys.map V.str)) := by rw [upd_ne n7]; exact t7
  have o8 : (upd H7 o (.ins (c_House K) dx [("h_rules", .ref pr), ("h_calls", .ref pc)])) o = some (.ins (c_House K) dx [("h_rules", .ref pr), ("h_calls", .ref pc)]) := upd_same
  have s7 : ¬ S pc := fun z => dm.kp u6 pc z np7
  generalize upd H7 o (.ins (c_House K) dx [("h_rules", .ref pr), ("h_calls", .ref pc)]) = H8 at u8 r8 t8 o8
  refine srt_tup rfl (sq_kp (S := one o) hl (sq_ne hl ho.1) u8) fl2 fun zs pl H9 pz sz e9 np9 t9 => ?_
  have n9 : pl ≠ o := fun z => by rw [z, o8] at np9; cases np9
  have s9 : ¬ S pl := fun z => dm.kp u8 pl z np9
  refine ⟨_, rfl, o, _, dx, _, rfl, e9 _ _ o8, x.cl_House, x.na_House_h_lost, by simp, ?_⟩
  refine ⟨_, rfl, _, rfl, o, _, dx, _, rfl, upd_same, x.cl_House, x.na_House_h_fails, Nat.lt_of_le_of_lt (length_putF _ _ _) (by simp), ?_⟩
  have p4 : putF "h_fails" (.bl m.fails) (putF "h_lost" (.ref pl) [("h_rules", .ref pr), ("h_calls", .ref pc)]) = ([("h_rules", .ref pr), ("h_calls", .ref pc), ("h_lost", .ref pl), ("h_fails", .bl m.fails)] : List (Str × V)) := by rfl
  rw [upd_upd, p4]
  have u10 : Kp (one o) H (upd H9 o (.ins (c_House K) dx [("h_rules", .ref pr), ("h_calls", .ref pc), ("h_lost", .ref pl), ("h_fails", .bl m.fails)])) := (u8.trans (.ext e9)).put rfl
  have md : Made m ⟨m.rules, ys, zs, m.fails⟩ := ⟨rfl, py, sy, pz, sz, rfl⟩
  refine hQ _ ⟨m.rules, ys, zs, m.fails⟩ u10 md ⟨md.fit f, sy, sz, dx, pr, pc, pl, os, ⟨upd_same, ho.2⟩, ⟨by rw [upd_ne n5]; exact e9 _ _ r8, t5.2⟩, Paired.mapP hr2 fun _ _ z => z.off ho.1 u10, ⟨by rw [upd_ne n7]; exact e9 _ _ t8, s7⟩, ⟨by rw [upd_ne n9]; exact t9, s9⟩⟩
end
end Ws

set_option Elab.async false
set_option linter.all false
set_option maxRecDepth 100000
set_option maxHeartbeats 4000000
namespace Ws
open PySem PySem.Spec PyProof.Rows L2
/-! ### sorted rows of words -/
abbrev LeS (a b : Str) : Prop := a.cps.toList ≤ b.cps.toList
theorem le_of_cps {a b : Str} (h : (!PySem.Spec.ltCps b.cps.toList a.cps.toList) = true) : LeS a b := by
  rw [ltCps_eq] at h
  simpa using h
theorem rising_pw : ∀ {l : List Str} {p : Str}, risingS p l = true → (∀ z ∈ l, LeS p z) ∧ l.Pairwise LeS
  | [], _, _ => ⟨fun z h => by simp at h, .nil⟩
  | x :: r, p, h => by
    obtain ⟨h1, h2⟩ := Bool.and_eq_true_iff.mp (show ((!PySem.Spec.ltCps x.cps.toList p.cps.toList) && risingS x r) = true from h)
    obtain ⟨i1, i2⟩ := rising_pw h2
    have h3 := le_of_cps h1
    refine ⟨fun z hz => ?_, .cons i1 i2⟩
    rcases List.mem_cons.mp hz with rfl | hz
    · exact h3
    · exact List.le_trans h3 (i1 z hz)
theorem sorted_pw : ∀ {l : List Str}, sortedS l = true → l.Pairwise LeS
  | [], _ => .nil
  | x :: r, h => .cons (rising_pw h).1 (rising_pw h).2
theorem str_cps {a b : Str} (h : a.cps.toList = b.cps.toList) : a = b := by
  cases a; cases b
  congr 1
  exact Array.toList_inj.mp h
theorem sorted_eq {l m : List Str} (h : sortedS l = true) (h' : sortedS m = true) (p : l.Perm m) : l = m :=
  p.eq_of_pairwise (fun a b _ _ h1 h2 => str_cps (List.le_antisymm h1 h2)) (sorted_pw h) (sorted_pw h')
theorem made_eq {m h h' : HouseD} (d : Made m h) (d' : Made m h') : h = h' := by
  obtain ⟨a, b, c, e⟩ := h
  obtain ⟨a', b', c', e'⟩ := h'
  have h1 := d.rules.trans d'.rules.symm
  have h2 := sorted_eq d.sc d'.sc (d.calls.trans d'.calls.symm)
  have h3 := sorted_eq d.sl d'.sl (d.lost.trans d'.lost.symm)
  have h4 := d.fails.trans d'.fails.symm
  simp only at h1 h2 h3 h4
  rw [h1, h2, h3, h4]
section
variable {S : Addr → Prop} {K : PySem.W.Frag} {H H1 : Hp} {a o q : Addr}
theorem RuleAt.inj {r r' : RuleD} (h : RuleAt S K H o r) (h' : RuleAt S K H o r') : r = r' := by
  obtain ⟨_, dx, p, h1, h2⟩ := h
  obtain ⟨_, dx', p', h1', h2'⟩ := h'
  have e := h1.1.symm.trans h1'.1
  simp only [Option.some.injEq, HO.ins.injEq, List.cons.injEq, Prod.mk.injEq, V.ref.injEq, true_and, and_true] at e
  obtain ⟨_, rfl⟩ := e
  have e := h2.1.symm.trans h2'.1
  obtain ⟨a, b, c, d⟩ := r
  obtain ⟨a', b', c', d'⟩ := r'
  simpa [RuleD.vs] using e
theorem rules_inj : ∀ {os : List Addr} {rs rs' : List RuleD}, RulesAt S K H os rs → RulesAt S K H os rs' → rs = rs'
  | _, _, _, .nil, .nil => rfl
  | _, _, _, .cons h t, .cons h' t' => by rw [h.inj h', rules_inj t t']
theorem refs_inj : ∀ {os os' : List Addr}, os.map V.ref = os'.map V.ref → os = os'
  | [], [], _ => rfl
  | [], _ :: _, h => by simp at h
  | _ :: _, [], h => by simp at h
  | a :: os, b :: os', h => by
    simp only [List.map_cons, List.cons.injEq, V.ref.injEq] at h
    rw [h.1, refs_inj h.2]
theorem strs_inj : ∀ {os os' : List Str}, os.map V.str = os'.map V.str → os = os'
  | [], [], _ => rfl
  | [], _ :: _, h => by simp at h
  | _ :: _, [], h => by simp at h
  | a :: os, b :: os', h => by
    simp only [List.map_cons, List.cons.injEq, V.str.injEq] at h
    rw [h.1, strs_inj h.2]
theorem HouseAt.inj {h h' : HouseD} (t : HouseAt S K H o h) (t' : HouseAt S K H o h') : h = h' := by
  obtain ⟨_, _, _, dx, pr, pc, pl, os, h1, h2, h3, h4, h5⟩ := t
  obtain ⟨_, _, _, dx', pr', pc', pl', os', h1', h2', h3', h4', h5'⟩ := t'
  have e := h1.1.symm.trans h1'.1
  simp only [Option.some.injEq, HO.ins.injEq, List.cons.injEq, Prod.mk.injEq, V.ref.injEq, V.bl.injEq, true_and, and_true] at e
  obtain ⟨_, rfl, rfl, rfl, ef⟩ := e
  have e2 := h2.1.symm.trans h2'.1
  have e4 := h4.1.symm.trans h4'.1
  have e5 := h5.1.symm.trans h5'.1
  simp only [Option.some.injEq, HO.tup.injEq] at e2 e4 e5
  have e3 := refs_inj e2
  subst e3
  obtain ⟨a, b, c, d⟩ := h
  obtain ⟨a', b', c', d'⟩ := h'
  simp only at ef e4 e5 h3 h3'
  rw [ef, strs_inj e4, strs_inj e5, rules_inj h3 h3']
/-! ### under locks of dicts -/
theorem At.nd {u : HO} (h : At no H a u) (e : Nd H H1) (n : ∀ kvs, u ≠ .dK kvs) : At no H1 a u := ⟨e _ _ h.1 n, h.2⟩
theorem RuleAt.nd {r : RuleD} (h : RuleAt no K H o r) (e : Nd H H1) : RuleAt no K H1 o r := by
  obtain ⟨g, dx, p, h1, h2⟩ := h
  exact ⟨g, dx, p, h1.nd e (by simp), h2.nd e (by simp)⟩
theorem HouseAt.nd {h : HouseD} (t : HouseAt no K H o h) (e : Nd H H1) : HouseAt no K H1 o h := by
  obtain ⟨f, s1, s2, dx, pr, pc, pl, os, h1, h2, h3, h4, h5⟩ := t
  exact ⟨f, s1, s2, dx, pr, pc, pl, os, h1.nd e (by simp), h2.nd e (by simp), Paired.mapP h3 fun _ _ z => z.nd e, h4.nd e (by simp), h5.nd e (by simp)⟩
abbrev DRule (K : PySem.W.Frag) : Eqb := DIn (c_Rule K) (RuleR no K)
theorem mon_rule : MonN (DRule K) := DIn.mon fun p q b H H' e h => by
  obtain ⟨r, r', h1, h2, rfl⟩ := h
  exact ⟨r, r', h1.nd e, h2.nd e, rfl⟩
def HouseR (K : PySem.W.Frag) (p q : Addr) (b : Bool) (H : Hp) : Prop := ∃ h h', HouseAt no K H p h ∧ HouseAt no K H q h' ∧ b = decide (h = h')
abbrev DHouse (K : PySem.W.Frag) : Eqb := DIn (c_House K) (HouseR K)
theorem mon_house : MonN (DHouse K) := DIn.mon fun p q b H H' e h => by
  obtain ⟨r, r', h1, h2, rfl⟩ := h
  exact ⟨r, r', h1.nd e, h2.nd e, rfl⟩
theorem rules_row : ∀ {os os' : List Addr} {rs rs' : List RuleD}, RulesAt no K H os rs → RulesAt no K H os' rs' → Row (DRule K) (os.map V.ref) (os'.map V.ref) (decide (rs = rs')) H
  | _, _, _, _, .nil, .nil => by simp [Row]
  | _, _, _, _, .nil, .cons _ _ => by simp [Row]
  | _, _, _, _, .cons _ _, .nil => by simp [Row]
  | _, _, _, _, .cons (a := a) (b := r) h t, .cons (a := a') (b := r') h' t' => by
    refine ⟨decide (r = r'), _, ?_, rules_row t t', by simp⟩
    obtain ⟨_, dx, p, h1, h2⟩ := id h
    obtain ⟨_, dx', p', h1', h2'⟩ := id h'
    exact ⟨a, a', dx, dx', _, _, rfl, rfl, h1.1, h1'.1, fun z => by subst z; exact decide_eq_true (h.inj h'), r, r', h, h', rfl⟩
end
/-! ### words as data -/
theorem strs_dp {K : PySem.W.Frag} {H : Hp} : ∀ zs : List Str, DpAll K H (zs.map V.str) (zs.map PyData.str)
  | [] => .nil
  | z :: zs => .cons (.str z) (strs_dp zs)
theorem strs_eqv : ∀ zs zs' : List Str, PyData.eqvAll (zs.map PyData.str) (zs'.map PyData.str) = decide (zs = zs')
  | [], [] => by simp [PyData.eqvAll]
  | [], _ :: _ => by simp [PyData.eqvAll]
  | _ :: _, [] => by simp [PyData.eqvAll]
  | z :: zs, y :: ys => by
    simp only [List.map_cons, PyData.eqvAll, PyData.eqv, strs_eqv zs ys]
    rw [Bool.eq_iff_iff]
    simp
theorem strs_lay : ∀ {zs : List Str}, (∀ z ∈ zs, isName z = true) → PyData.canLayAll0 (zs.map PyData.str) = true
  | [], _ => rfl
  | z :: zs, h => by
    simp only [List.map_cons, PyData.canLayAll0, PyData.canLay0]
    rw [isName_ok (h z List.mem_cons_self), strs_lay fun y hy => h y (List.mem_cons_of_mem _ hy)]
    rfl
theorem strs_depth : ∀ zs : List Str, PyData.depthAll (zs.map PyData.str) = 0
  | [] => rfl
  | z :: zs => by
    simp only [List.map_cons, PyData.depthAll, PyData.depth, strs_depth zs]
    rfl
section
variable {P : Program} {w : World} {K : PySem.W.Frag} {mg : Str → Option Value} {base : Heap}
theorem ok_House_init (x : Fx K mg w) : FnR P w K mg base CX0 3 (a_House_init K) (sp_House_init K) := by
  obtain ⟨fd, F⟩ := x.F_House_init
  exact rawFD F (by simp) (okf_House_init F x) (fun T kV doc pm an cdv ct us its hu hi => match us, hu, its, hi with | [_, _, _, _, _], _, [_, _, _], _ => ⟨_, rfl, rfl⟩)
def sp_House_rules (K : PySem.W.Frag) : Sp := fun vs H Q _ => ∃ (S : Addr → Prop) (o : Addr) (h : HouseD), vs = [.ref o] ∧ HouseAt S K H o h ∧ ∀ p os, At S H p (.tup (os.map V.ref)) → RulesAt S K H os h.rules → Q (.ref p) H
theorem sc_House_rules : FnScope ["self"] ["self"] (defScope s_House_rules) := ⟨rfl, rfl, rfl, by decide +kernel, rfl, by decide +kernel, by decide +kernel⟩
theorem ok_House_rules (x : Fx K mg w) : FnR P w K mg base CX0 1 (a_House_rules K) (sp_House_rules K) := by
  refine okR x.F_House_rules sc_House_rules (fun _ _ _ _ _ _ us hl => match us, hl with | [_], _ => rfl) (fun vs H Q E h => by obtain ⟨S, o, h, rfl, ⟨_, _, _, dx, pr, pc, pl, os, h1, h2, h3, h4, h5⟩, hQ⟩ := h; rfl) (fun cdv A outer s H vs Q E hr h => ?_)
  obtain ⟨S, o, h, rfl, ⟨_, _, _, dx, pr, pc, pl, os, h1, h2, h3, h4, h5⟩, hQ⟩ := h
  refine ⟨_, (pss_one (ps_ret (pe_fldK (K := K) rfl (pv 0) rfl))), ?_⟩
  exact ⟨_, rfl, o, _, dx, _, _, rfl, h1.1, x.cl_House, x.na_House_h_rules, rfl, hQ _ _ h2 h3⟩
def sp_House_calls (K : PySem.W.Frag) : Sp := fun vs H Q _ => ∃ (S : Addr → Prop) (o : Addr) (h : HouseD), vs = [.ref o] ∧ HouseAt S K H o h ∧ ∀ p, At S H p (.tup (h.calls.map V.str)) → Q (.ref p) H
theorem sc_House_calls : FnScope ["self"] ["self"] (defScope s_House_calls) := ⟨rfl, rfl, rfl, by decide +kernel, rfl, by decide +kernel, by decide +kernel⟩
theorem ok_House_calls (x : Fx K mg w) : FnR P w K mg base CX0 1 (a_House_calls K) (sp_House_calls K) := by
  refine okR x.F_House_calls sc_House_calls (fun _ _ _ _ _ _ us hl => match us, hl with | [_], _ => rfl) (fun vs H Q E h => by obtain ⟨S, o, h, rfl, ⟨_, _, _, dx, pr, pc, pl, os, h1, h2, h3, h4, h5⟩, hQ⟩ := h; rfl) (fun cdv A outer s H vs Q E hr h => ?_)
  obtain ⟨S, o, h, rfl, ⟨_, _, _, dx, pr, pc, pl, os, h1, h2, h3, h4, h5⟩, hQ⟩ := h
  refine ⟨_, (pss_one (ps_ret (pe_fldK (K := K) rfl (pv 0) rfl))), ?_⟩
  exact ⟨_, rfl, o, _, dx, _, _, rfl, h1.1, x.cl_House, x.na_House_h_calls, rfl, hQ _ h4⟩
def sp_House_lost (K : PySem.W.Frag) : Sp := fun vs H Q _ => ∃ (S : Addr → Prop) (o : Addr) (h : HouseD), vs = [.ref o] ∧ HouseAt S K H o h ∧ ∀ p, At S H p (.tup (h.lost.map V.str)) → Q (.ref p) H
theorem sc_House_lost : FnScope ["self"] ["self"] (defScope s_House_lost) := ⟨rfl, rfl, rfl, by decide +kernel, rfl, by decide +kernel, by decide +kernel⟩
theorem ok_House_lost (x : Fx K mg w) : FnR P w K mg base CX0 1 (a_House_lost K) (sp_House_lost K) := by
  refine okR x.F_House_lost sc_House_lost (fun _ _ _ _ _ _ us hl => match us, hl with | [_], _ => rfl) (fun vs H Q E h => by obtain ⟨S, o, h, rfl, ⟨_, _, _, dx, pr, pc, pl, os, h1, h2, h3, h4, h5⟩, hQ⟩ := h; rfl) (fun cdv A outer s H vs Q E hr h => ?_)
  obtain ⟨S, o, h, rfl, ⟨_, _, _, dx, pr, pc, pl, os, h1, h2, h3, h4, h5⟩, hQ⟩ := h
  refine ⟨_, (pss_one (ps_ret (pe_fldK (K := K) rfl (pv 0) rfl))), ?_⟩
  exact ⟨_, rfl, o, _, dx, _, _, rfl, h1.1, x.cl_House, x.na_House_h_lost, rfl, hQ _ h5⟩
def sp_House_fails (K : PySem.W.Frag) : Sp := fun vs H Q _ => ∃ (S : Addr → Prop) (o : Addr) (h : HouseD), vs = [.ref o] ∧ HouseAt S K H o h ∧ Q (.bl h.fails) H
theorem sc_House_fails : FnScope ["self"] ["self"] (defScope s_House_fails) := ⟨rfl, rfl, rfl, by decide +kernel, rfl, by decide +kernel, by decide +kernel⟩
theorem ok_House_fails (x : Fx K mg w) : FnR P w K mg base CX0 1 (a_House_fails K) (sp_House_fails K) := by
  refine okR x.F_House_fails sc_House_fails (fun _ _ _ _ _ _ us hl => match us, hl with | [_], _ => rfl) (fun vs H Q E h => by obtain ⟨S, o, h, rfl, ⟨_, _, _, dx, pr, pc, pl, os, h1, h2, h3, h4, h5⟩, hQ⟩ := h; rfl) (fun cdv A outer s H vs Q E hr h => ?_)
  obtain ⟨S, o, h, rfl, ⟨_, _, _, dx, pr, pc, pl, os, h1, h2, h3, h4, h5⟩, hQ⟩ := h
  refine ⟨_, (pss_one (ps_ret (pe_fldK (K := K) rfl (pv 0) rfl))), ?_⟩
  exact ⟨_, rfl, o, _, dx, _, _, rfl, h1.1, x.cl_House, x.na_House_h_fails, rfl, hQ⟩
/-- a house is made -/
theorem make_house {S : Addr → Prop} {H1 : Hp} {ar ac al : Addr} {os : List Addr} {m : HouseD} {Q : Addr → Hp → Prop} {E : XK} (dm : Dm S H1) (h1 : SqA S H1 ar (os.map V.ref)) (h2 : RulesAt S K H1 os m.rules) (h3 : Sq K H1 ac (m.calls.map V.str)) (h4 : Sq K H1 al (m.lost.map V.str))
    (f : m.Fit) (k : ∀ r H' h, Ext H1 H' → Made m h → HouseAt S K H' r h → Q r H') :
    ∀ r dx, H1 r = none → H1 dx = none → dx ≠ r → sp_House_init K (.ref r :: [.ref ar, .ref ac, .ref al, .bl m.fails]) (upd (upd H1 dx (.own r)) r (.ins (c_House K) dx [])) (fun v H2 => v = .non ∧ Q r H2) E := by
  intro r dx hr hd ne
  have e0 : Ext H1 (upd (upd H1 dx (.own r)) r (.ins (c_House K) dx [])) := (ext_new hd).trans (ext_new (by rw [upd_ne (Ne.symm ne)]; exact hr))
  refine ⟨S, r, dx, ar, ac, al, os, m, rfl, dm.ext e0, ⟨upd_same, fun z => dm r z hr⟩, h1.ext e0, Paired.mapP h2 fun _ _ z => z.ext e0, sq_ext h3 e0, sq_ext h4 e0, f, fun H' h u md t => ⟨rfl, k r H' h (made_ext hr hd u) md t⟩⟩
def sp_House_with_rules (K : PySem.W.Frag) : Sp := fun vs H Q _ => ∃ (S : Addr → Prop) (o ar : Addr) (h : HouseD) (os : List Addr) (rs : List RuleD), vs = [.ref o, .ref ar] ∧ Dm S H ∧ HouseAt S K H o h ∧ SqA S H ar (os.map V.ref) ∧ RulesAt S K H os rs ∧
  1 ≤ rs.length ∧ rs.length ≤ 2 ∧ ∀ r H', Ext H H' → HouseAt S K H' r { h with rules := rs } → Q (.ref r) H'
end
end Ws

set_option Elab.async false
set_option linter.all false
set_option maxRecDepth 100000
set_option maxHeartbeats 4000000
namespace Ws
open PySem PySem.Spec PyProof.Rows L2
def HouseD.dat (h : HouseD) : PyData := .tuple [.tuple (h.calls.map .str), .tuple (h.lost.map .str), .bool h.fails]
theorem house_shaped {h : HouseD} (f : h.Fit) : SeqAt.shaped h.dat = true := by
  unfold SeqAt.shaped HouseD.dat
  simp [PyData.canLay0, PyData.canLayAll0, PyData.depth, PyData.depthAll, strs_depth, strs_lay f.nm, strs_lay fun z hz => f.nm z (f.sub z hz)]
theorem house_eqv (h h' : HouseD) : PyData.eqv h.dat h'.dat = (decide (h.calls = h'.calls) && (decide (h.lost = h'.lost) && decide (h.fails = h'.fails))) := by
  simp only [HouseD.dat, PyData.eqv, PyData.eqvAll, strs_eqv]
  rw [Bool.eq_iff_iff]
  simp
section
variable {P : Program} {w : World} {K : PySem.W.Frag} {mg : Str → Option Value} {base : Heap}
theorem house_dp {H : Hp} {p pc pl : Addr} {h : HouseD} (hp : H p = some (.tup [.ref pc, .ref pl, .bl h.fails])) (h1 : H pc = some (.tup (h.calls.map V.str))) (h2 : H pl = some (.tup (h.lost.map V.str))) : Dp K H (.ref p) h.dat :=
  .tup (SqT.of hp) (.cons (.tup (SqT.of h1) (strs_dp _)) (.cons (.tup (SqT.of h2) (strs_dp _)) (.cons (.bl _) .nil)))
theorem sc_House_eq : FnScope ["self", "other", "mine"] ["self", "other"] (defScope s_House_eq) := ⟨rfl, rfl, rfl, by decide +kernel, rfl, by decide +kernel, by decide +kernel⟩
theorem ok_House_eq (x : Fx K mg w) : FnR P w K mg base CX0 3 (a_House_eq K) (spEqb (HouseR K)) := by
  refine okR x.F_House_eq sc_House_eq (fun _ _ _ _ _ _ us hl => match us, hl with | [_, _], _ => rfl) (fun vs H Q E h => by obtain ⟨p, q, b, rfl, ⟨h, h', hp, hq, rfl⟩, hQ⟩ := h; rfl) (fun cdv A outer s H vs Q E hr h => ?_)
  obtain ⟨p, q, b, rfl, ⟨h, h', hp, hq, rfl⟩, hQ⟩ := h
  refine ⟨_, (pss_cons (ps_if (pt_not (pt_val (pe_callB (r := rIsi K) call_isi rfl x.n_isinstance bb_isinstance (pa_cons (pv 1) (pa_cons (pe_gR x.m_House rfl) pa_nil)))))
 (pss_one (ps_ret pe_bl))
 pss_nil)
 (pss_cons (ps_set (i := 2) sc_House_eq.nd rfl (Or.inl rfl) (pe_tup (pa_cons (pe_fldK (K := K) rfl (pv 0) rfl) (pa_cons (pe_fldK (K := K) rfl (pv 0) rfl) (pa_cons (pe_fldK (K := K) rfl (pv 0) rfl) pa_nil)))))
 (pss_one (ps_ret (pe_and (pe_cmpR (show OpR _ _ (rEqB (DTu K (DRule K))) from op_eqB (rcB_tu mon_rule (eqB_in (ok_Rule_eq x) x.sp_Rule_eq x.fn_Rule_eq pass0)) (hr.mono (by decide))) (pe_fldK (K := K) rfl (pv 0) rfl) (pe_fldK (K := K) rfl (pv 1) rfl) (nomark _)) (pe_one (pe_cmpR (show OpR _ _ (rEqD K) from op_eqD hr.units) (pv 2) (pe_tup (pa_cons (pe_fldK (K := K) rfl (pv 1) rfl) (pa_cons (pe_fldK (K := K) rfl (pv 1) rfl) (pa_cons (pe_fldK (K := K) rfl (pv 1) rfl) pa_nil)))) (nomark _)))))))), ?_⟩
  obtain ⟨f, _, _, dx, pr, pc, pl, os, h1, h2, h3, h4, h5⟩ := id hp
  obtain ⟨f', _, _, dy, qr, qc, ql, os', g1, g2, g3, g4, g5⟩ := id hq
  refine ⟨_, rfl, _, _, _, _, true, rfl, .own _, isi_own g1.1 x.cl_House x.cc_House x.cget x.ctak x.mro_House, x.kit_House, true, rfl, ?_⟩
  refine ⟨_, rfl, p, _, dx, _, _, rfl, h1.1, x.cl_House, x.na_House_h_calls, rfl, _, rfl, p, _, dx, _, _, rfl, h1.1, x.cl_House, x.na_House_h_lost, rfl, _, rfl, p, _, dx, _, _, rfl, h1.1, x.cl_House, x.na_House_h_fails, rfl, by simp [sizeLine_eq], fun t nt => ?_⟩
  have e1 : Ext H (upd H t (.tup [.ref pc, .ref pl, .bl h.fails])) := ext_new nt
  have ht : (upd H t (.tup [.ref pc, .ref pl, .bl h.fails])) t = some (.tup [.ref pc, .ref pl, .bl h.fails]) := upd_same
  generalize upd H t (.tup [.ref pc, .ref pl, .bl h.fails]) = H1 at e1 ht
  have dec : decide (h = h') = (decide (h.rules = h'.rules) && (decide (h.calls = h'.calls) && (decide (h.lost = h'.lost) && decide (h.fails = h'.fails)))) := by
    obtain ⟨a, b, c, d⟩ := h
    obtain ⟨a', b', c', d'⟩ := h'
    rw [Bool.eq_iff_iff]
    simp
  refine ⟨_, rfl, p, _, dx, _, _, rfl, e1 _ _ h1.1, x.cl_House, x.na_House_h_rules, rfl, _, rfl, q, _, dy, _, _, rfl, e1 _ _ g1.1, x.cl_House, x.na_House_h_rules, rfl, decide (h.rules = h'.rules), ?_, fun H2 e2 => ⟨_, rfl, ifb (fun hb => ?_) (fun hb => ?_)⟩⟩
  · refine ⟨pr, qr, _, _, rfl, rfl, .of (e1 _ _ h2.1), .of (e1 _ _ g2.1), fun z => ?_, rules_row (Paired.mapP h3 fun _ _ z => z.ext e1) (Paired.mapP g3 fun _ _ z => z.ext e1)⟩
    subst z
    have e := h2.1.symm.trans g2.1
    simp only [Option.some.injEq, HO.tup.injEq] at e
    have e3 := refs_inj e
    subst e3
    exact decide_eq_true (rules_inj h3 g3)
  · have e12 := e1.trans e2
    refine ⟨_, rfl, _, rfl, q, _, dy, _, _, rfl, e12 _ _ g1.1, x.cl_House, x.na_House_h_calls, rfl, _, rfl, q, _, dy, _, _, rfl, e12 _ _ g1.1, x.cl_House, x.na_House_h_lost, rfl, _, rfl, q, _, dy, _, _, rfl, e12 _ _ g1.1, x.cl_House, x.na_House_h_fails, rfl, by simp [sizeLine_eq], fun t2 nt2 => ?_⟩
    have e3 := e12.trans (ext_new (o := .tup [.ref qc, .ref ql, .bl h'.fails]) nt2)
    refine ⟨h.dat, h'.dat, house_dp (ext_new nt2 _ _ (e2 _ _ ht)) (e3 _ _ h4.1) (e3 _ _ h5.1), house_dp upd_same (e3 _ _ g4.1) (e3 _ _ g5.1), house_shaped f, house_shaped f', ?_⟩
    rw [house_eqv]
    have := hQ _ e3
    rwa [dec, hb, Bool.true_and] at this
  · have := hQ _ (e1.trans e2)
    rwa [dec, hb, Bool.false_and] at this
end
end Ws

set_option Elab.async false
set_option linter.all false
set_option maxRecDepth 100000
set_option maxHeartbeats 4000000
namespace Ws
open PySem PySem.Spec PyProof.Rows L2
abbrev Hs := List (Str × HouseD)
def HousesAt (S : Addr → Prop) (K : PySem.W.Frag) (H : Hp) : List (Key × V) → Hs → Prop := Paired fun (kv : Key × V) (nh : Str × HouseD) => kv.1 = Sum.inr nh.1 ∧ ∃ a, kv.2 = .ref a ∧ HouseAt S K H a nh.2
def getH (hs : Hs) (n : Str) : HouseD := match hs.find? fun p => decide (p.1 = n) with
  | some p => p.2
  | none => ⟨[], [], [], false⟩
section
variable {S : Addr → Prop} {K : PySem.W.Frag} {H H1 : Hp} {a o q d : Addr} {kvs : List (Key × V)} {hs : Hs}
theorem HousesAt.kp (h : HousesAt S K H kvs hs) (e : Kp S H H1) : HousesAt S K H1 kvs hs := Paired.mapP h fun kv nh ⟨h1, a, h2, h3⟩ => ⟨h1, a, h2, h3.kp e⟩
theorem HousesAt.ext (h : HousesAt S K H kvs hs) (e : Ext H H1) : HousesAt S K H1 kvs hs := h.kp (.ext e)
theorem HousesAt.grow (h : HousesAt S K H kvs hs) (hq : H q = none) : HousesAt (more S q) K H kvs hs := Paired.mapP h fun kv nh ⟨h1, a, h2, h3⟩ => ⟨h1, a, h2, h3.grow hq⟩
theorem HousesAt.keys : ∀ {kvs : List (Key × V)} {hs : Hs}, HousesAt S K H kvs hs → kvs.map (·.1) = (hs.map (·.1)).map Sum.inr
  | _, _, .nil => rfl
  | _, _, .cons h t => by
    simp only [List.map_cons]
    rw [h.1, HousesAt.keys t]
theorem HousesAt.at_ : ∀ {kvs : List (Key × V)} {hs : Hs}, HousesAt S K H kvs hs → ∀ n ∈ hs.map (·.1), ∃ a, valV kvs (Sum.inr n) = some (.ref a) ∧ HouseAt S K H a (getH hs n)
  | _, _, .nil, n, h => by simp at h
  | kv :: kvs, nh :: hs, .cons ⟨h1, a, h2, h3⟩ t, n, hn => by
    by_cases e : nh.1 = n
    · refine ⟨a, ?_, ?_⟩
      · rw [valV_pos (by rw [h1, e]), h2]
      · unfold getH
        rw [List.find?_cons_of_pos (by simp [e])]
        exact h3
    · simp only [List.map_cons, List.mem_cons] at hn
      obtain ⟨b, i1, i2⟩ := HousesAt.at_ t n (hn.resolve_left fun z => e z.symm)
      refine ⟨b, ?_, ?_⟩
      · rw [valV_neg (by rw [h1]; intro z; injection z with z; exact e z)]
        exact i1
      · unfold getH
        rw [List.find?_cons_of_neg (by simp [e])]
        exact i2
theorem HousesAt.in_ (h : HousesAt S K H kvs hs) (n : Str) : (valV kvs (Sum.inr n)).isSome = decide (n ∈ hs.map (·.1)) := by
  rw [← valV_any, Bool.eq_iff_iff, List.any_eq_true]
  simp only [decide_eq_true_eq]
  have hk := h.keys
  constructor
  · rintro ⟨p, hp, e⟩
    have : Sum.inr n ∈ (hs.map (·.1)).map (Sum.inr : Str → Key) := by rw [← hk]; exact List.mem_map.mpr ⟨p, hp, e⟩
    obtain ⟨m, hm, e⟩ := List.mem_map.mp this
    injection e with e
    exact e ▸ hm
  · intro hn
    have : (Sum.inr n : Key) ∈ kvs.map (·.1) := by rw [hk]; exact List.mem_map.mpr ⟨n, hn, rfl⟩
    obtain ⟨p, hp, e⟩ := List.mem_map.mp this
    exact ⟨p, hp, e⟩
theorem getH_mem : ∀ {hs : Hs} {n : Str}, n ∈ hs.map (·.1) → (n, getH hs n) ∈ hs
  | [], n, h => by simp at h
  | p :: hs, n, h => by
    unfold getH
    by_cases e : p.1 = n
    · rw [List.find?_cons_of_pos (by simp [e])]
      exact List.mem_cons.mpr (.inl (by rw [← e]))
    · rw [List.find?_cons_of_neg (by simp [e])]
      simp only [List.map_cons, List.mem_cons] at h
      exact List.mem_cons_of_mem _ (getH_mem (h.resolve_left fun z => e z.symm))
theorem getH_of : ∀ {hs : Hs} {p : Str × HouseD}, (hs.map (·.1)).Nodup → p ∈ hs → getH hs p.1 = p.2
  | [], p, _, h => by simp at h
  | q :: hs, p, nd, h => by
    simp only [List.map_cons, List.nodup_cons] at nd
    unfold getH
    rcases List.mem_cons.mp h with rfl | h
    · rw [List.find?_cons_of_pos (by simp)]
    · have e : ¬ q.1 = p.1 := fun e => nd.1 (e ▸ List.mem_map.mpr ⟨p, h, rfl⟩)
      rw [List.find?_cons_of_neg (by simp [e])]
      exact getH_of nd.2 h
theorem dget_str {n : Str} {v : V} (e : H a = some (.dK kvs)) (hv : valV kvs (Sum.inr n) = some v) : DGet H a (.str n) (some v) := by
  have := DGet.k e (k := Sum.inr n)
  rw [hv] at this
  exact this
theorem dget_in {n : Str} (e : H a = some (.dK kvs)) (h : HousesAt S K H kvs hs) : ∃ o, DGet H a (.str n) o ∧ o.isSome = decide (n ∈ hs.map (·.1)) := ⟨_, DGet.k e (k := Sum.inr n), h.in_ n⟩
/-- locked and unlocked again -/
theorem unlock_ext {od : Obj} {u : HO} (hd : H d = some u) (e : Ext (upd H d (.frz od u)) H1) : Ext H (upd H1 d u) := fun c o hc => by
  by_cases z : c = d
  · subst z
    rw [hd] at hc
    rw [upd_same]
    exact hc
  · rw [upd_ne z]
    exact e c o (by rw [upd_ne z]; exact hc)
end
section
variable {P : Program} {w : World} {K : PySem.W.Frag} {mg : Str → Option Value} {base : Heap}
def sp_are_named : Sp := fun vs H Q _ => ∃ (d : Addr) (kvs : List (Key × V)) (ns : List Str), vs = [.ref d] ∧ H d = some (.dK kvs) ∧ kvs.map (·.1) = ns.map Sum.inr ∧ 1 ≤ ns.length ∧ ns.length ≤ 8 ∧ (∀ n ∈ ns, isName n = true) ∧ ∀ H', Ext H H' → Q (.bl true) H'
theorem sc_are_named : FnScope ["thing", "name"] ["thing"] (defScope s_are_named) := ⟨rfl, rfl, rfl, by decide +kernel, rfl, by decide +kernel, by decide +kernel⟩
theorem ok_are_named (x : Fx K mg w) : FnR P w K mg base CX0 2 (a_are_named K) sp_are_named := by
  refine okR x.F_are_named sc_are_named (fun _ _ _ _ _ _ us hl => match us, hl with | [_], _ => rfl) (fun vs H Q E h => by obtain ⟨d, kvs, ns, rfl, hd, hk, l1, l2, hn, hQ⟩ := h; rfl) (fun cdv A outer s H vs Q E hr h => ?_)
  obtain ⟨d, kvs, ns, rfl, hd, hk, l1, l2, hn, hQ⟩ := h
  refine ⟨_, (pss_one (ps_ret (pe_and (pe_callB (r := rIsi K) call_isi rfl x.n_isinstance bb_isinstance (pa_cons (pv 0) (pa_cons (pe_gT x.n_dict (by rfl) rfl) pa_nil))) (pe_and (pe_chain op_le op_le pe_int (pe_callB call_lenD rfl x.n_len bb_len (pa_cons (pv 0) pa_nil)) (pe_gI x.i_MOST_HOUSES rfl)) (pe_one (pe_callB (r := rAll K) (cr_all rfl) rfl x.n_all bb_all (pa_cons (pe_lock (pe_lc (own := [("name", 1)]) (tt := tYes) rfl sc_are_named.nd (pi_keys (pv 0)) (blkOk_by (N := ["thing", "name"]) (sc := defScope s_are_named) (by decide +kernel)) (fun _ _ _ _ _ => (pg_name (i := 1) sc_are_named.nd rfl (Or.inl rfl))) (fun _ _ _ _ _ => pts_nil) (fun _ _ _ _ _ => (pe_callR (ok_is_name x) (hr.mono (by decide)) rfl x.m_is_name (keep_of x.F_is_name) pass0 (pa_cons (pv 1) pa_nil))))) pa_nil))))))), ?_⟩
  have hl : kvs.length = ns.length := by have := congrArg List.length hk; simpa using this
  refine ⟨_, rfl, _, _, _, _, true, rfl, .ty _, .base (.dK hd), kit_ty (by decide +kernel), true, rfl, ?_⟩
  refine ⟨_, rfl, d, kvs, rfl, hd, _, _, rfl, rfl, _, rfl, ifT (decide_eq_true (by omega)) ⟨_, _, rfl, rfl, _, rfl, ifT (decide_eq_true (by omega)) ?_⟩⟩
  refine ⟨d, _, hd, True.intro, fun od => ⟨_, rfl, d, od, rfl, .inl ⟨kvs, upd_same, fun D hD => ?_⟩⟩⟩
  refine lc_map (std_keys upd_same (fun z => z)) hD (fun v => match v with | .str z => some (.bl (isName z)) | _ => none) (by simp; omega) (fun y H' Nx hy e c1 c2 => ?_) (fun H4 e4 hD' => ?_)
  · obtain ⟨kv, hm, rfl⟩ := List.mem_map.mp hy
    have : kv.1 ∈ ns.map (Sum.inr : Str → Key) := by rw [← hk]; exact List.mem_map.mpr ⟨kv, hm, rfl⟩
    obtain ⟨n, hn1, e1⟩ := List.mem_map.mp this
    rw [← e1]
    refine ⟨rfl, _, rfl, n, rfl, Nat.le_trans (isName_len (hn n hn1)) (by decide), fun H4 e4 => c1 _ _ e4 (by rw [← e1]; rfl)⟩
  · refine ⟨e4 _ _ upd_same, D, ns.map isName, rfl, .of ?_, ?_⟩
    · have nd : D ≠ d := fun z => by rw [z, upd_same] at hD; cases hD
      rw [upd_ne nd, hD']
      have e5 : (kvs.map fun kv => kV kv.1) = ns.map V.str := by
        rw [show (fun kv : Key × V => kV kv.1) = kV ∘ (·.1) from rfl, ← List.map_map, hk, List.map_map]
        rfl
      congr 2
      rw [e5, List.filterMap_map, List.map_map]
      simp [Function.comp_def]
    · have hh : (ns.map isName).all id = true := by simp; exact hn
      rw [hh]
      exact hQ _ (unlock_ext hd e4)
/-- what a net's houses must be -/
structure HsFit (fine : Int) (hs : Hs) : Prop where
  l1 : 1 ≤ hs.length
  l2 : hs.length ≤ 8
  nm : ∀ p ∈ hs, isName p.1 = true
  nd : (hs.map (·.1)).Nodup
  sh : ∀ p ∈ hs, ∀ r ∈ p.2.rules, r.share ≤ fine
  cl : ∀ p ∈ hs, ∀ z ∈ p.2.calls, z ∈ hs.map (·.1)
def sp_need_houses (K : PySem.W.Frag) : Sp := fun vs H Q _ => ∃ (fine : Int) (d : Addr) (kvs : List (Key × V)) (hs : Hs), vs = [.int fine, .ref d] ∧ H d = some (.dK kvs) ∧ HousesAt no K H kvs hs ∧ HsFit fine hs ∧ ∀ H', Ext H H' → Q .non H'
theorem sc_need_houses : FnScope ["fine", "houses", "names", "name", "rule", "other"] ["fine", "houses"] (defScope s_need_houses) := ⟨rfl, rfl, rfl, by decide +kernel, rfl, by decide +kernel, by decide +kernel⟩
theorem ok_need_houses (x : Fx K mg w) : FnR P w K mg base CX0 3 (a_need_houses K) (sp_need_houses K) := by
  refine okR x.F_need_houses sc_need_houses (fun _ _ _ _ _ _ us hl => match us, hl with | [_, _], _ => rfl) (fun vs H Q E h => by obtain ⟨fine, d, kvs, hs, rfl, hd, hh, f, hQ⟩ := h; rfl) (fun cdv A outer s H vs Q E hr h => ?_)
  obtain ⟨fine, d, kvs, hs, rfl, hd, hh, f, hQ⟩ := h
  refine ⟨_, (pss_cons (ps_if (pt_not (pt_val (pe_callR (ok_are_named x) (hr.mono (by decide)) rfl x.m_are_named (keep_of x.F_are_named) pass0 (pa_cons (pv 1) pa_nil))))
 (pss_one ps_never)
 pss_nil)
 (pss_cons (ps_set (i := 2) sc_need_houses.nd rfl (Or.inl rfl) (pe_callB (call_sortedD rfl) rfl x.n_sorted bb_sorted (pa_cons (pv 1) pa_nil)))
 (pss_cons (ps_for PassesOwn.never rfl (pi_listK (K := K) rfl (pv 2)) (pg_name (i := 3) sc_need_houses.nd rfl (Or.inl rfl))
 (pss_one (ps_if (pt_not (pt_val (pe_callB (r := rIsi K) call_isi rfl x.n_isinstance bb_isinstance (pa_cons (pe_dget (hu_of hr) (pv 1) (pv 3) (fun _ _ => rfl)) (pa_cons (pe_gR x.m_House rfl) pa_nil)))))
 (pss_one ps_never)
 pss_nil)))
 (pss_cons (ps_for PassesOwn.never rfl (pi_listK (K := K) rfl (pv 2)) (pg_name (i := 3) sc_need_houses.nd rfl (Or.inl rfl))
 (pss_one (ps_if (pt_val (pe_callB (r := rAny K) (cr_any rfl) rfl x.n_any bb_any (pa_cons (pe_lc (own := [("rule", 4)]) (tt := tYes) rfl sc_need_houses.nd (pi_tupK (K := K) rfl (pe_propR (pe_dget (hu_of hr) (pv 1) (pv 3) (fun _ _ => rfl)) x.cl_House x.p_House_rules (ok_House_rules x) (hr.mono (by decide)) pass0)) (blkOk_by (N := ["fine", "houses", "names", "name", "rule", "other"]) (sc := defScope s_need_houses) (by decide +kernel)) (fun _ _ _ _ _ => (pg_name (i := 4) sc_need_houses.nd rfl (Or.inl rfl))) (fun _ _ _ _ _ => pts_nil) (fun _ _ _ _ _ => (pe_cmpR op_gt (pe_propR (pv 4) x.cl_Rule x.p_Rule_share (ok_Rule_share x) (hr.mono (by decide)) pass0) (pv 0) (nomark _)))) pa_nil)))
 (pss_one ps_never)
 pss_nil)))
 (pss_one (ps_for PassesOwn.never rfl (pi_listK (K := K) rfl (pv 2)) (pg_name (i := 3) sc_need_houses.nd rfl (Or.inl rfl))
 (pss_one (ps_if (pt_not (pt_val (pe_callB (r := rAll K) (cr_all rfl) rfl x.n_all bb_all (pa_cons (pe_lc (own := [("other", 5)]) (tt := tYes) rfl sc_need_houses.nd (pi_tupK (K := K) rfl (pe_propR (pe_dget (hu_of hr) (pv 1) (pv 3) (fun _ _ => rfl)) x.cl_House x.p_House_calls (ok_House_calls x) (hr.mono (by decide)) pass0)) (blkOk_by (N := ["fine", "houses", "names", "name", "rule", "other"]) (sc := defScope s_need_houses) (by decide +kernel)) (fun _ _ _ _ _ => (pg_name (i := 5) sc_need_houses.nd rfl (Or.inl rfl))) (fun _ _ _ _ _ => pts_nil) (fun _ _ _ _ _ => (pe_cmp (pc_din (hu_of hr) (pv 5) (pv 1))))) pa_nil))))
 (pss_one ps_never)
 pss_nil)))))))), ?_⟩
  have hl : (hs.map (·.1)).length = hs.length := by simp
  have f1 := f.l1
  have f2 := f.l2
  refine ⟨_, rfl, d, kvs, hs.map (·.1), rfl, hd, hh.keys, by omega, by omega, fun n hn => ?_, fun H1 e1 => ⟨true, rfl, ?_⟩⟩
  · obtain ⟨p, hp, rfl⟩ := List.mem_map.mp hn
    exact f.nm p hp
  refine ⟨_, rfl, d, kvs, hs.map (·.1), rfl, .of (e1 _ _ hd), hh.keys, by omega, fun ys l py _ nl => ?_⟩
  have e2 : Ext H1 (upd H1 l (.lst (ys.map V.str))) := ext_new nl
  have hL : (upd H1 l (.lst (ys.map V.str))) l = some (.lst (ys.map V.str)) := upd_same
  generalize upd H1 l (.lst (ys.map V.str)) = H2 at e2 hL
  have e12 := e1.trans e2
  have walk : ∀ (i : Nat) (y : V), (ys.map V.str)[i]? = some y → ∃ n, y = V.str n ∧ n ∈ hs.map (·.1) := fun i y hy => by
    obtain ⟨n, hn, rfl⟩ := List.mem_map.mp (List.mem_of_getElem? hy)
    exact ⟨n, rfl, py.mem_iff.mp hn⟩
  refine ⟨_, rfl, l, rfl, ⟨_, .of hL⟩, for_std (std_list (.of hL) (S := no) (fun z => z)) (fun i σ H' => Ext H2 H' ∧ ∃ v, σ = [some (.int fine), some (.ref d), some (.ref l), v, none, none]) ⟨Ext.rfl', none, rfl⟩ (fun i σ H' h => .ext h.1) (fun i y σ H' hy ⟨e, v, hσ⟩ => ?_) (fun σ H3 ⟨e3, v, hσ⟩ => ?_)⟩
  · subst hσ
    obtain ⟨n, rfl, hn⟩ := walk i y hy
    have e' := e12.trans e
    obtain ⟨a, hv, ht⟩ := hh.at_ n hn
    obtain ⟨_, _, _, dx, pr, pc, pl, os, h1, _⟩ := ht.ext e'
    exact ⟨_, rfl, _, rfl, d, _, rfl, dget_str (e' _ _ hd) hv, _, _, _, _, true, rfl, .own _, isi_own h1.1 x.cl_House x.cc_House x.cget x.ctak x.mro_House, x.kit_House, true, rfl, e, _, rfl⟩
  subst hσ
  have e13 := e12.trans e3
  have hL3 := e3 _ _ hL
  clear e2 hL nl e12 e1 e3
  refine ⟨_, rfl, l, rfl, ⟨_, .of hL3⟩, for_std (std_list (.of hL3) (S := no) (fun z => z)) (fun i σ H' => Ext H3 H' ∧ ∃ v, σ = [some (.int fine), some (.ref d), some (.ref l), v, none, none]) ⟨Ext.rfl', v, rfl⟩ (fun i σ H' h => .ext h.1) (fun i y σ H' hy ⟨e, v, hσ⟩ => ?_) (fun σ H4 ⟨e4, v, hσ⟩ => ?_)⟩
  · subst hσ
    obtain ⟨n, rfl, hn⟩ := walk i y hy
    have e' := e13.trans e
    obtain ⟨a, hv, ht⟩ := hh.at_ n hn
    have ht' := ht.ext e'
    obtain ⟨_, _, _, dx, pr, pc, pl, os, h1, _⟩ := id ht'
    refine ⟨_, rfl, _, rfl, d, _, rfl, dget_str (e' _ _ hd) hv, a, dx, _, rfl, h1.1, no, a, _, rfl, ht', fun p os' hp hr2 => ?_⟩
    refine ⟨p, rfl, ⟨_, .of hp.1⟩, fun D hD => lc_map (std_tup (.of hp.1) (fun z => z)) hD (fun v => some (.bl false)) ?_ (fun y H5 Nx hy e5 c1 c2 => ?_) (fun H5 e5 hD' => ?_)⟩
    · have r2 := ht'.1.r2
      have := hr2.length
      simp
      omega
    · obtain ⟨o, ho, rfl⟩ := List.mem_map.mp hy
      obtain ⟨r, hr, hra⟩ := paired_mem hr2 ho
      have hra' := hra.ext e5
      obtain ⟨_, dx', p', g1, g2⟩ := id hra'
      have := f.sh _ (getH_mem hn) r hr
      exact ⟨rfl, _, rfl, o, dx', _, rfl, g1.1, o, r, rfl, hra', _, rfl, _, _, rfl, rfl, c1 _ _ Ext.rfl' (by simp; omega)⟩
    · refine ⟨D, os'.map fun _ => false, rfl, .of ?_, ?_⟩
      · rw [hD']
        congr 2
        rw [List.filterMap_map, List.map_map]
        simp [Function.comp_def]
      · have hb : (os'.map fun _ => false).any id = false := by simp
        rw [hb]
        exact ⟨false, rfl, e.trans e5, _, rfl⟩
  subst hσ
  have e14 := e13.trans e4
  have hL4 := e4 _ _ hL3
  clear e13 e4 hL3
  refine ⟨_, rfl, l, rfl, ⟨_, .of hL4⟩, for_std (std_list (.of hL4) (S := no) (fun z => z)) (fun i σ H' => Ext H4 H' ∧ ∃ v, σ = [some (.int fine), some (.ref d), some (.ref l), v, none, none]) ⟨Ext.rfl', v, rfl⟩ (fun i σ H' h => .ext h.1) (fun i y σ H' hy ⟨e, v, hσ⟩ => ?_) (fun σ H5 ⟨e5, v, hσ⟩ => ?_)⟩
  · subst hσ
    obtain ⟨n, rfl, hn⟩ := walk i y hy
    have e' := e14.trans e
    obtain ⟨a, hv, ht⟩ := hh.at_ n hn
    have ht' := ht.ext e'
    obtain ⟨_, _, _, dx, pr, pc, pl, os, h1, _⟩ := id ht'
    refine ⟨_, rfl, _, rfl, d, _, rfl, dget_str (e' _ _ hd) hv, a, dx, _, rfl, h1.1, no, a, _, rfl, ht', fun p hp => ?_⟩
    refine ⟨p, rfl, ⟨_, .of hp.1⟩, fun D hD => lc_map (std_tup (.of hp.1) (fun z => z)) hD (fun v => some (.bl true)) ?_ (fun y H5 Nx hy e5 c1 c2 => ?_) (fun H5 e5 hD' => ?_)⟩
    · have := ht'.1.ln
      simp
      omega
    · obtain ⟨o, ho, rfl⟩ := List.mem_map.mp hy
      have hm := f.cl _ (getH_mem hn) o ho
      have e6 := e'.trans e5
      obtain ⟨r, g1, g2⟩ := dget_in (n := o) (e6 _ _ hd) (hh.ext e6)
      exact ⟨rfl, _, rfl, _, rfl, d, r, rfl, g1, c1 _ _ Ext.rfl' (by rw [g2, decide_eq_true hm])⟩
    · refine ⟨D, (getH hs n).calls.map fun _ => true, rfl, .of ?_, ?_⟩
      · rw [hD']
        congr 2
        rw [List.filterMap_map, List.map_map]
        simp [Function.comp_def]
      · have hb : ((getH hs n).calls.map fun _ => true).all id = true := by simp
        rw [hb]
        exact ⟨true, rfl, e.trans e5, _, rfl⟩
  exact hQ _ (e14.trans e5)
end
end Ws

set_option Elab.async false
set_option linter.all false
set_option maxRecDepth 100000
set_option maxHeartbeats 4000000
namespace Ws
open PySem PySem.Spec PyProof.Rows L2
structure NetD where
  fine : Int
  houses : Hs
  entries : List Str
  deriving DecidableEq
structure NetD.Fit (m : NetD) : Prop where
  f1 : 1 ≤ m.fine
  f2 : m.fine ≤ 1000
  hs : HsFit m.fine m.houses
  e0 : m.entries ≠ []
  nd : m.entries.Nodup
  sub : ∀ z ∈ m.entries, z ∈ m.houses.map (·.1)
  ln : m.entries.length < 64
structure NetMade (m n : NetD) : Prop where
  fine : n.fine = m.fine
  houses : n.houses.Perm m.houses
  sh : sortedS (n.houses.map (·.1)) = true
  entries : n.entries.Perm m.entries
  se : sortedS n.entries = true
theorem NetMade.fit {m n : NetD} (d : NetMade m n) (f : m.Fit) : n.Fit := by
  have pk : (n.houses.map (·.1)).Perm (m.houses.map (·.1)) := d.houses.map _
  refine ⟨by rw [d.fine]; exact f.f1, by rw [d.fine]; exact f.f2, ⟨?_, ?_, fun p hp => ?_, ?_, fun p hp r hr => ?_, fun p hp z hz => ?_⟩, ?_, ?_, fun z hz => ?_, ?_⟩
  · rw [d.houses.length_eq]; exact f.hs.l1
  · rw [d.houses.length_eq]; exact f.hs.l2
  · exact f.hs.nm p (d.houses.mem_iff.mp hp)
  · exact pk.nodup_iff.mpr f.hs.nd
  · rw [d.fine]; exact f.hs.sh p (d.houses.mem_iff.mp hp) r hr
  · exact pk.mem_iff.mpr (f.hs.cl p (d.houses.mem_iff.mp hp) z hz)
  · exact fun z => f.e0 (by have := d.entries; rw [z] at this; exact this.symm.eq_nil)
  · exact d.entries.nodup_iff.mpr f.nd
  · exact pk.mem_iff.mpr (f.sub z (d.entries.mem_iff.mp hz))
  · rw [d.entries.length_eq]; exact f.ln
theorem hs_eq {l m r : Hs} (nd : (r.map (·.1)).Nodup) (h : sortedS (l.map (·.1)) = true) (h' : sortedS (m.map (·.1)) = true) (p : l.Perm r) (q : m.Perm r) : l = m := by
  have hp : ∀ {l : Hs}, sortedS (l.map (·.1)) = true → l.Pairwise fun a b => LeS a.1 b.1 := fun h => List.pairwise_map.mp (sorted_pw h)
  refine (p.trans q.symm).eq_of_pairwise (fun a b ha hb h1 h2 => ?_) (hp h) (hp h')
  have e : a.1 = b.1 := str_cps (List.le_antisymm h1 h2)
  have ea := getH_of nd (p.mem_iff.mp ha)
  have eb := getH_of nd (q.mem_iff.mp hb)
  rw [e] at ea
  exact Prod.ext e (ea.symm.trans eb)
theorem netMade_eq {m n n' : NetD} (f : m.Fit) (d : NetMade m n) (d' : NetMade m n') : n = n' := by
  obtain ⟨a, b, c⟩ := n
  obtain ⟨a', b', c'⟩ := n'
  have h1 := d.fine.trans d'.fine.symm
  have h2 := hs_eq f.hs.nd d.sh d'.sh d.houses d'.houses
  have h3 := sorted_eq d.se d'.se (d.entries.trans d'.entries.symm)
  simp only at h1 h2 h3
  rw [h1, h2, h3]
theorem putAll_new : ∀ (ps kvs : List (Key × V)), ((kvs ++ ps).map (·.1)).Nodup → putAll kvs ps = kvs ++ ps
  | [], kvs, _ => by simp [putAll]
  | p :: ps, kvs, nd => by
    have hn : valV kvs p.1 = none := by
      cases q : valV kvs p.1 with
      | none => rfl
      | some v =>
        have hm := valV_in q
        rw [List.map_append, List.nodup_append] at nd
        exact absurd rfl (nd.2.2 _ hm _ (by simp))
    show putAll (putK kvs p.1 p.2) ps = _
    rw [putK_new _ hn, putAll_new ps _ (by simpa using nd)]
    simp
section
variable {S : Addr → Prop} {K : PySem.W.Frag} {H H1 : Hp} {a o q d : Addr} {kvs : List (Key × V)} {hs : Hs}
theorem HouseAt.off {h : HouseD} {C dx : Addr} (t : HouseAt S K H a h) (ho : H o = some (.ins C dx [])) (e : Kp (one o) H H1) : HouseAt S K H1 a h := by
  obtain ⟨f, s1, s2, dx, pr, pc, pl, os, h1, h2, h3, h4, h5⟩ := t
  exact ⟨f, s1, s2, dx, pr, pc, pl, os, h1.off ho (by simp) e, h2.off ho (by simp) e, Paired.mapP h3 fun _ _ z => z.off ho e, h4.off ho (by simp) e, h5.off ho (by simp) e⟩
theorem HousesAt.off {C dx : Addr} (t : HousesAt S K H kvs hs) (ho : H o = some (.ins C dx [])) (e : Kp (one o) H H1) : HousesAt S K H1 kvs hs := Paired.mapP t fun kv nh ⟨h1, a, h2, h3⟩ => ⟨h1, a, h2, h3.off ho e⟩
def NetAt (S : Addr → Prop) (K : PySem.W.Frag) (H : Hp) (o : Addr) (n : NetD) : Prop := n.Fit ∧ sortedS (n.houses.map (·.1)) = true ∧ sortedS n.entries = true ∧ ∃ dx ph pe kvs,
  At S H o (.ins (c_Net K) dx [("n_fine", .int n.fine), ("n_houses", .ref ph), ("n_entries", .ref pe)]) ∧ At S H ph (.dK kvs) ∧ HousesAt S K H kvs n.houses ∧ At S H pe (.tup (n.entries.map V.str))
theorem NetAt.kp {n : NetD} (t : NetAt S K H o n) (e : Kp S H H1) : NetAt S K H1 o n := by
  obtain ⟨f, s1, s2, dx, ph, pe, kvs, h1, h2, h3, h4⟩ := t
  exact ⟨f, s1, s2, dx, ph, pe, kvs, h1.kp e, h2.kp e, h3.kp e, h4.kp e⟩
theorem NetAt.ext {n : NetD} (t : NetAt S K H o n) (e : Ext H H1) : NetAt S K H1 o n := t.kp (.ext e)
theorem NetAt.grow {n : NetD} (t : NetAt S K H o n) (hq : H q = none) : NetAt (more S q) K H o n := by
  obtain ⟨f, s1, s2, dx, ph, pe, kvs, h1, h2, h3, h4⟩ := t
  exact ⟨f, s1, s2, dx, ph, pe, kvs, h1.grow hq, h2.grow hq, h3.grow hq, h4.grow hq⟩
theorem HousesAt.free (t : HousesAt S K H kvs hs) : HousesAt no K H kvs hs := Paired.mapP t fun kv nh ⟨h1, a, h2, h3⟩ => ⟨h1, a, h2, h3.free⟩
theorem NetAt.free {n : NetD} (t : NetAt S K H o n) : NetAt no K H o n := by
  obtain ⟨f, s1, s2, dx, ph, pe, kvs, h1, h2, h3, h4⟩ := t
  exact ⟨f, s1, s2, dx, ph, pe, kvs, h1.free, h2.free, h3.free, h4.free⟩
/-- the houses in the order of the names ys -/
theorem houses_row (h : HousesAt S K H kvs hs) : ∀ ys : List Str, (∀ y ∈ ys, y ∈ hs.map (·.1)) → HousesAt S K H (ys.map fun n => (Sum.inr n, (valV kvs (Sum.inr n)).getD .non)) (ys.map fun n => (n, getH hs n))
  | [], _ => .nil
  | y :: ys, hy => by
    obtain ⟨a, h1, h2⟩ := h.at_ y (hy y List.mem_cons_self)
    exact .cons ⟨rfl, a, (by show (valV kvs (Sum.inr y)).getD .non = _; rw [h1]; rfl), h2⟩ (houses_row h ys fun z hz => hy z (List.mem_cons_of_mem _ hz))
theorem hs_names (nd : (hs.map (·.1)).Nodup) : (hs.map (·.1)).map (fun n => (n, getH hs n)) = hs := by
  rw [List.map_map]
  conv => rhs; rw [← List.map_id hs]
  refine List.map_congr_left fun p hp => ?_
  show (p.1, getH hs p.1) = p
  rw [getH_of nd hp]
end
section
variable {P : Program} {w : World} {K : PySem.W.Frag} {mg : Str → Option Value} {base : Heap}
def sp_Net_init (K : PySem.W.Frag) : Sp := fun vs H Q _ => ∃ (S : Addr → Prop) (o dx d ae : Addr) (kvs : List (Key × V)) (m : NetD), vs = [.ref o, .int m.fine, .ref d, .ref ae] ∧ Dm S H ∧ At S H o (.ins (c_Net K) dx []) ∧ H d = some (.dK kvs) ∧
  HousesAt S K H kvs m.houses ∧ Sq K H ae (m.entries.map V.str) ∧ m.Fit ∧ ∀ H' n, Kp (one o) H H' → NetMade m n → NetAt S K H' o n → Q .non H'
theorem sc_Net_init : FnScope ["self", "fine", "houses", "entries", "name"] ["self", "fine", "houses", "entries"] (defScope s_Net_init) := ⟨rfl, rfl, rfl, by decide +kernel, rfl, by decide +kernel, by decide +kernel⟩
theorem ok_Net_init (x : Fx K mg w) : FnR P w K mg base CX0 4 (a_Net_init K) (sp_Net_init K) := by
  refine okR x.F_Net_init sc_Net_init (fun _ _ _ _ _ _ us hl => match us, hl with | [_, _, _, _], _ => rfl) (fun vs H Q E h => by obtain ⟨S, o, dx, d, ae, kvs, m, rfl, dm, ho, hd, hh, he, f, hQ⟩ := h; rfl) (fun cdv A outer s H vs Q E hr h => ?_)
  obtain ⟨S, o, dx, d, ae, kvs, m, rfl, dm, ho, hd, hh, he, f, hQ⟩ := h
  refine ⟨_, (pss_cons (ps_if (PW.pt (pw_or (pt_not (pt_val (pe_callR (ok_is_number x) (hr.mono (by decide)) rfl x.m_is_number (keep_of x.F_is_number) pass0 (pa_cons (pv 1) pa_nil)))) (pw_or1 (pt_not (pt_chain op_le op_le pe_int (pv 1) (pe_gI x.i_MOST_FINE rfl))))))
 (pss_one ps_never)
 pss_nil)
 (pss_cons (ps_expr (pe_callR (ok_need_houses x) (hr.mono (by decide)) rfl x.m_need_houses (keep_of x.F_need_houses) pass0 (pa_cons (pv 1) (pa_cons (pv 2) pa_nil))))
 (pss_cons (ps_if (PW.pt (pw_or (pt_not (pt_val (pe_callR (ok_are_names x) (hr.mono (by decide)) rfl x.m_are_names (keep_of x.F_are_names) pass0 (pa_cons (pv 3) pa_nil)))) (pw_or (pt_cmpR op_eq (pe_callB (r := rLenK K) call_lenK rfl x.n_len bb_len (pa_cons (pv 3) pa_nil)) pe_int (nomark _)) (pw_or1 (pt_not (pt_val (pe_callB (r := rAll K) (cr_all rfl) rfl x.n_all bb_all (pa_cons (pe_lc (own := [("name", 4)]) (tt := tYes) rfl sc_Net_init.nd (pi_seqK (K := K) rfl (pv 3)) (blkOk_by (N := ["self", "fine", "houses", "entries", "name"]) (sc := defScope s_Net_init) (by decide +kernel)) (fun _ _ _ _ _ => (pg_name (i := 4) sc_Net_init.nd rfl (Or.inl rfl))) (fun _ _ _ _ _ => pts_nil) (fun _ _ _ _ _ => (pe_cmp (pc_din (hu_of hr) (pv 4) (pv 2))))) pa_nil))))))))
 (pss_one ps_never)
 pss_nil)
 (pss_cons (ps_fld (pv 0) (pv 1) rfl)
 (pss_cons (ps_fld (pv 0) (pe_dc (own := [("name", 4)]) (tt := tYes) rfl sc_Net_init.nd (pi_listK (K := K) rfl (pe_callB (call_sortedD rfl) rfl x.n_sorted bb_sorted (pa_cons (pv 2) pa_nil))) (blkOk_by (N := ["self", "fine", "houses", "entries", "name"]) (sc := defScope s_Net_init) (by decide +kernel)) (fun _ _ _ _ _ => (pg_name (i := 4) sc_Net_init.nd rfl (Or.inl rfl))) (fun _ _ _ _ _ => pts_nil) (fun _ _ _ _ _ => (pv 4)) (fun _ _ _ _ _ => (pe_dget (hu_of hr) (pv 2) (pv 4) (fun _ _ => rfl)))) rfl)
 (pss_one (ps_fld (pv 0) (pe_callTy (r := rTupOf K) call_tupK rfl x.n_tuple bb_tuple (pa_cons (pe_callB (r := rSortS K) call_sortS rfl x.n_sorted bb_sorted (pa_cons (pv 3) pa_nil)) pa_nil)) rfl))))))), ?_⟩
  have fl := f.ln
  have f8 := f.hs.l2
  have nml : (m.houses.map (·.1)).length = m.houses.length := by simp
  have nme : ∀ z ∈ m.entries, isName z = true := fun z hz => by
    obtain ⟨p, hp, rfl⟩ := List.mem_map.mp (f.sub z hz)
    exact f.hs.nm p hp
  have nc : (m.entries.all isName && decide m.entries.Nodup) = true := by simp [f.nd]; exact nme
  refine ⟨_, rfl, _, rfl, true, rfl, ?_⟩
  refine ⟨_, rfl, _, _, rfl, rfl, _, rfl, ifT (decide_eq_true f.f1) ⟨_, _, rfl, rfl, _, rfl, ifF (by simp [f.f2]) ?_⟩⟩
  refine ⟨_, rfl, _, rfl, m.fine, d, kvs, m.houses, rfl, hd, hh.free, f.hs, fun H1 e1 => ?_⟩
  refine ⟨_, rfl, ae, m.entries, rfl, sq_ext he e1, by omega, fun z hz => Nat.le_trans (isName_len (nme z hz)) (by decide), fun H2 e2 => ⟨_, rfl, ifF (by simp [nc]) ?_⟩⟩
  have e12 := e1.trans e2
  refine ⟨_, rfl, _, _, rfl, sq_lenV (sq_ext he e12), rfl, _, rfl, ifF ?_ ?_⟩
  · have := f.e0
    simp only [List.length_map, decide_eq_false_iff_not, V.int.injEq]
    intro z
    exact this (List.eq_nil_of_length_eq_zero (by omega))
  refine seq_go rfl (sq_ext he e12) (fun z => z) fun J st D hD => lc_map st hD (fun v => some (.bl true)) (by simp; omega) (fun y H' Nx hy e c1 c2 => ?_) (fun H3 e3 hD' => ?_)
  · obtain ⟨z, hm, rfl⟩ := List.mem_map.mp hy
    have e6 := e12.trans e
    obtain ⟨r, g1, g2⟩ := dget_in (n := z) (e6 _ _ hd) (hh.ext e6)
    exact ⟨rfl, _, rfl, _, rfl, d, r, rfl, g1, c1 _ _ Ext.rfl' (by rw [g2, decide_eq_true (f.sub z hm)])⟩
  refine ⟨D, m.entries.map fun _ => true, rfl, .of ?_, ?_⟩
  · rw [hD']
    congr 2
    rw [List.filterMap_map, List.map_map]
    simp [Function.comp_def]
  have hb : (m.entries.map fun _ => true).all id = true := by simp
  rw [hb]
  refine ⟨true, rfl, ?_⟩
  have e13 := e12.trans e3
  clear st hD' hD e12 e3 e2 e1 hb
  have o3 := e13 _ _ ho.1
  refine ⟨_, rfl, _, rfl, o, _, dx, [], rfl, o3, x.cl_Net, x.na_Net_n_fine, by simp, ?_⟩
  have u4 : Kp (one o) H (upd H3 o (.ins (c_Net K) dx [("n_fine", .int m.fine)])) := (Kp.ext e13).put rfl
  have o4 : (upd H3 o (.ins (c_Net K) dx [("n_fine", .int m.fine)])) o = some (.ins (c_Net K) dx [("n_fine", .int m.fine)]) := upd_same
  change tSeq _ _ _ _ (upd H3 o (.ins (c_Net K) dx [("n_fine", .int m.fine)]))
  generalize upd H3 o (.ins (c_Net K) dx [("n_fine", .int m.fine)]) = H4 at u4 o4
  have nd : d ≠ o := ne_of hd ho.1 (by simp)
  have hh4 := hh.off ho.1 u4
  refine ⟨_, rfl, d, kvs, m.houses.map (·.1), rfl, .of (u4.keep _ _ hd nd), hh4.keys, by omega, fun ys l py sy nl => ?_⟩
  have hn : ∀ y ∈ ys, y ∈ m.houses.map (·.1) := fun y hy => py.mem_iff.mp hy
  have ndy : ys.Nodup := py.nodup_iff.mpr f.hs.nd
  have lny := py.length_eq
  have e5 : Ext H4 (upd H4 l (.lst (ys.map V.str))) := ext_new nl
  have hL : (upd H4 l (.lst (ys.map V.str))) l = some (.lst (ys.map V.str)) := upd_same
  generalize upd H4 l (.lst (ys.map V.str)) = H5 at e5 hL
  have u5 := u4.trans (.ext e5)
  refine ⟨l, rfl, ⟨_, .of hL⟩, fun ph hph => ?_⟩
  refine dc_map (std_list (.of hL) (fun z => z)) hph (fun v => match v with | .str n => (Sum.inr n, (valV kvs (Sum.inr n)).getD .non) | _ => (Sum.inl 0, .non)) (by simp; omega) (fun y H6 Nx hy e6 c1 => ?_) (fun H6 e6 hP => ?_)
  · obtain ⟨z, hm, rfl⟩ := List.mem_map.mp hy
    obtain ⟨a, hv, ht⟩ := hh.at_ z (hn z hm)
    have hd6 : H6 d = some (.dK kvs) := e6 _ _ (u5.keep _ _ hd nd)
    exact ⟨rfl, _, rfl, _, rfl, _, rfl, d, _, rfl, dget_str hd6 hv, c1 _ _ _ Ext.rfl' rfl (by show V.ref a = (valV kvs (Sum.inr z)).getD .non; rw [hv]; rfl)⟩
  have np : ph ≠ o := fun z => by rw [z, e5 _ _ o4] at hph; cases hph
  have sp : ¬ S ph := fun z => dm.kp u5 ph z hph
  have rows : (ys.map V.str).map (fun v => match v with | .str n => ((Sum.inr n : Key), (valV kvs (Sum.inr n)).getD .non) | _ => (Sum.inl 0, .non)) = ys.map fun n => (Sum.inr n, (valV kvs (Sum.inr n)).getD .non) := by
    rw [List.map_map]
    rfl
  rw [rows, putAll_new _ [] (by
    simp only [List.nil_append, List.map_map]
    exact List.Pairwise.map _ (fun a b h z => h (by injection z)) ndy)] at hP
  have u6 := u5.trans (.ext e6)
  have o6 := e6 _ _ (e5 _ _ o4)
  refine ⟨_, rfl, o, _, dx, _, rfl, o6, x.cl_Net, x.na_Net_n_houses, by simp, ?_⟩
  have u7 : Kp (one o) H (upd H6 o (.ins (c_Net K) dx [("n_fine", .int m.fine), ("n_houses", .ref ph)])) := u6.put rfl
  have o7 : (upd H6 o (.ins (c_Net K) dx [("n_fine", .int m.fine), ("n_houses", .ref ph)])) o = some (.ins (c_Net K) dx [("n_fine", .int m.fine), ("n_houses", .ref ph)]) := upd_same
  have p7 : (upd H6 o (.ins (c_Net K) dx [("n_fine", .int m.fine), ("n_houses", .ref ph)])) ph = some (.dK (ys.map fun n => (Sum.inr n, (valV kvs (Sum.inr n)).getD .non))) := by rw [upd_ne np]; exact hP
  rw [show putF "n_houses" (.ref ph) [("n_fine", .int m.fine)] = ([("n_fine", .int m.fine), ("n_houses", .ref ph)] : List (Str × V)) from rfl]
  generalize upd H6 o (.ins (c_Net K) dx [("n_fine", .int m.fine), ("n_houses", .ref ph)]) = H7 at u7 o7 p7
  refine srt_tup rfl (sq_kp (S := one o) he (sq_ne he ho.1) u7) fl fun zs pe H8 pz sz e8 np8 t8 => ?_
  have n8 : pe ≠ o := fun z => by rw [z, o7] at np8; cases np8
  have s8 : ¬ S pe := fun z => dm.kp u7 pe z np8
  refine ⟨_, rfl, o, _, dx, _, rfl, e8 _ _ o7, x.cl_Net, x.na_Net_n_entries, by simp, ?_⟩
  have u9 : Kp (one o) H (upd H8 o (.ins (c_Net K) dx [("n_fine", .int m.fine), ("n_houses", .ref ph), ("n_entries", .ref pe)])) := (u7.trans (.ext e8)).put rfl
  change Q .non (upd H8 o (.ins (c_Net K) dx [("n_fine", .int m.fine), ("n_houses", .ref ph), ("n_entries", .ref pe)]))
  have pm : (ys.map fun n => (n, getH m.houses n)).Perm m.houses := by
    have := py.map fun n => (n, getH m.houses n)
    rwa [hs_names f.hs.nd] at this
  have ky : (ys.map fun n => (n, getH m.houses n)).map (·.1) = ys := by simp [Function.comp_def]
  have md : NetMade m ⟨m.fine, ys.map fun n => (n, getH m.houses n), zs⟩ := ⟨rfl, pm, by rw [ky]; exact sy, pz, sz⟩
  exact hQ _ _ u9 md ⟨md.fit f, by rw [ky]; exact sy, sz, dx, ph, pe, _, ⟨upd_same, ho.2⟩, ⟨by rw [upd_ne np]; exact e8 _ _ p7, sp⟩, houses_row (hh.off ho.1 u9) ys hn, ⟨by rw [upd_ne n8]; exact t8, s8⟩⟩
end
end Ws

set_option Elab.async false
set_option linter.all false
set_option maxRecDepth 100000
set_option maxHeartbeats 4000000
namespace Ws
open PySem PySem.Spec PyProof.Rows L2
def NetD.names (n : NetD) : List Str := n.houses.map (·.1)
def setH (hs : Hs) (z : Str) (h : HouseD) : Hs := hs.map fun p => if p.1 = z then (p.1, h) else p
theorem setH_keys (hs : Hs) (z : Str) (h : HouseD) : (setH hs z h).map (·.1) = hs.map (·.1) := by
  unfold setH
  rw [List.map_map]
  refine List.map_congr_left fun p _ => ?_
  show (if p.1 = z then (p.1, h) else p).1 = p.1
  split <;> rfl
theorem perm_of_sub {α : Type} [DecidableEq α] : ∀ {l m : List α}, l.Nodup → (∀ a ∈ l, a ∈ m) → m.length ≤ l.length → l.Perm m
  | [], m, _, _, hl => by
    have : m = [] := List.eq_nil_of_length_eq_zero (by simpa using hl)
    rw [this]
  | a :: l, m, nd, hs, hl => by
    obtain ⟨n1, n2⟩ := List.nodup_cons.mp nd
    have ha := hs a List.mem_cons_self
    have hm := List.perm_cons_erase ha
    have := perm_of_sub (l := l) (m := m.erase a) n2 (fun b hb => (List.mem_erase_of_ne fun z => n1 (by rw [← z]; exact hb)).mpr (hs b (List.mem_cons_of_mem _ hb))) (by
      rw [List.length_erase_of_mem ha]
      simp only [List.length_cons] at hl
      omega)
    exact (this.cons a).trans hm.symm
/-- what == of two dicts of houses tells -/
def hitB (ha hb : Hs) : Bool := ha.all fun p => decide (p.1 ∈ hb.map (·.1)) && decide (p.2 = getH hb p.1)
theorem hitB_eq {ha hb : Hs} (na : (ha.map (·.1)).Nodup) (nb : (hb.map (·.1)).Nodup) (sa : sortedS (ha.map (·.1)) = true) (sb : sortedS (hb.map (·.1)) = true) (l : ha.length = hb.length) : hitB ha hb = decide (ha = hb) := by
  rw [Bool.eq_iff_iff]
  unfold hitB
  simp only [List.all_eq_true, Bool.and_eq_true, decide_eq_true_eq]
  constructor
  · intro h
    have sub : ∀ p ∈ ha, p ∈ hb := fun p hp => by
      obtain ⟨h1, h2⟩ := h p hp
      have := getH_mem h1
      rwa [← h2] at this
    have ndp : ha.Nodup := by
      have := List.pairwise_map.mp na
      exact this.imp fun {a b} h e => h (by rw [e])
    exact hs_eq nb sa sb (perm_of_sub ndp sub (by omega)) (.refl _)
  · rintro rfl p hp
    exact ⟨List.mem_map.mpr ⟨p, hp, rfl⟩, (getH_of na hp).symm⟩
section
variable {S : Addr → Prop} {K : PySem.W.Frag} {H H1 : Hp} {a o q d : Addr} {kvs ka kb : List (Key × V)} {hs ha hb : Hs}
theorem houses_hits (hB : HousesAt no K H kb hb) : ∀ {ka : List (Key × V)} {ha : Hs}, HousesAt no K H ka ha → Hits (DHouse K) kb ka (hitB ha hb) H
  | _, _, .nil => rfl
  | (k, v) :: ka, (n, h) :: ha, .cons ⟨h1, a, h2, h3⟩ t => by
    have h1 : k = Sum.inr n := h1
    have h2 : v = .ref a := h2
    subst h1 h2
    have e : hitB ((n, h) :: ha) hb = ((decide (n ∈ hb.map (·.1)) && decide (h = getH hb n)) && hitB ha hb) := by
      unfold hitB
      rw [List.all_cons]
    rw [e]
    cases q : valV kb (Sum.inr n) with
    | none =>
      have := hB.in_ n
      rw [q] at this
      refine .inl ⟨q, ?_⟩
      rw [← this]
      rfl
    | some y =>
      have hn := hB.in_ n
      rw [q] at hn
      have hm : n ∈ hb.map (·.1) := of_decide_eq_true hn.symm
      obtain ⟨b, g1, g2⟩ := hB.at_ n hm
      rw [q] at g1
      cases g1
      refine .inr ⟨.ref b, decide (h = getH hb n), hitB ha hb, q, ?_, houses_hits hB t, by rw [decide_eq_true hm, Bool.true_and]⟩
      obtain ⟨_, _, _, dx, pr, pc, pl, os, k1, _⟩ := id h3
      obtain ⟨_, _, _, dy, pr', pc', pl', os', k2, _⟩ := id g2
      exact ⟨a, b, dx, dy, _, _, rfl, rfl, k1.1, k2.1, fun z => by subst z; exact decide_eq_true (h3.inj g2), h, _, h3, g2, rfl⟩
theorem HousesAt.len (h : HousesAt S K H kvs hs) : kvs.length = hs.length := Paired.length h
theorem houses_put {z : Str} {h' : HouseD} (ht : HouseAt S K H a h') : ∀ {kvs : List (Key × V)} {hs : Hs}, HousesAt S K H kvs hs → HousesAt S K H (kvs.map fun kv => if kv.1 = Sum.inr z then (kv.1, .ref a) else kv) (setH hs z h')
  | _, _, .nil => .nil
  | kv :: kvs, nh :: hs, .cons ⟨h1, b, h2, h3⟩ t => by
    refine .cons ?_ (houses_put ht t)
    by_cases e : nh.1 = z
    · have c : kv.1 = Sum.inr z := by rw [h1, e]
      dsimp only
      rw [if_pos c, if_pos e]
      exact ⟨h1, a, rfl, ht⟩
    · have c : ¬ kv.1 = Sum.inr z := by rw [h1]; intro q; injection q with q; exact e q
      dsimp only
      rw [if_neg c, if_neg e]
      exact ⟨h1, b, h2, h3⟩
end
theorem setH_mem {hs : Hs} {z : Str} {h : HouseD} {p : Str × HouseD} (hp : p ∈ setH hs z h) : (p = (z, h) ∨ p ∈ hs) := by
  obtain ⟨q, hq, e⟩ := List.mem_map.mp hp
  split at e
  · rename_i g
    exact .inl (by rw [← e, g])
  · exact .inr (e ▸ hq)
theorem set_fit {n : NetD} {z : Str} {h : HouseD} (f : n.Fit) (h1 : ∀ r ∈ h.rules, r.share ≤ n.fine) (h2 : ∀ y ∈ h.calls, y ∈ n.names) (hz : z ∈ n.names) : NetD.Fit { n with houses := setH n.houses z h } := by
  have k : (setH n.houses z h).map (·.1) = n.houses.map (·.1) := setH_keys _ _ _
  have l : (setH n.houses z h).length = n.houses.length := by simp [setH]
  refine ⟨f.f1, f.f2, ⟨by show 1 ≤ (setH n.houses z h).length; rw [l]; exact f.hs.l1, by show (setH n.houses z h).length ≤ 8; rw [l]; exact f.hs.l2, fun p hp => ?_, by show ((setH n.houses z h).map (·.1)).Nodup; rw [k]; exact f.hs.nd, fun p hp r hr => ?_, fun p hp y hy => ?_⟩, f.e0, f.nd, fun y hy => by show y ∈ (setH n.houses z h).map (·.1); rw [k]; exact f.sub y hy, f.ln⟩
  · rcases setH_mem hp with rfl | hp
    · obtain ⟨q, hq, e⟩ := List.mem_map.mp hz
      have := f.hs.nm q hq
      rwa [show q.1 = z from e] at this
    · exact f.hs.nm p hp
  · rcases setH_mem hp with rfl | hp
    · exact h1 r hr
    · exact f.hs.sh p hp r hr
  · show y ∈ (setH n.houses z h).map (·.1)
    rw [k]
    rcases setH_mem hp with rfl | hp
    · exact h2 y hy
    · exact f.hs.cl p hp y hy
theorem NetD.Fit.names {n : NetD} (f : n.Fit) {z : Str} (h : z ∈ n.names) : isName z = true := by
  obtain ⟨p, hp, rfl⟩ := List.mem_map.mp h
  exact f.hs.nm p hp
theorem len_sub {α : Type} [DecidableEq α] : ∀ {l m : List α}, l.Nodup → (∀ a ∈ l, a ∈ m) → l.length ≤ m.length
  | [], m, _, _ => Nat.zero_le _
  | a :: l, m, nd, hs => by
    obtain ⟨n1, n2⟩ := List.nodup_cons.mp nd
    have ha := hs a List.mem_cons_self
    have := len_sub (l := l) (m := m.erase a) n2 (fun b hb => (List.mem_erase_of_ne fun z => n1 (by rw [← z]; exact hb)).mpr (hs b (List.mem_cons_of_mem _ hb)))
    rw [List.length_erase_of_mem ha] at this
    have : 0 < m.length := List.length_pos_of_mem ha
    simp only [List.length_cons]
    omega
theorem strs_snoc (zs : List Str) (z : Str) : zs.map V.str ++ [.str z] = (zs ++ [z]).map V.str := by simp
theorem paired_app {α β : Type} {R : α → β → Prop} : ∀ {xs xs' : List α} {ys ys' : List β}, Paired R xs ys → Paired R xs' ys' → Paired R (xs ++ xs') (ys ++ ys')
  | _, _, _, _, .nil, h => h
  | _, _, _, _, .cons r t, h => .cons r (paired_app t h)
section
variable {P : Program} {w : World} {K : PySem.W.Frag} {mg : Str → Option Value} {base : Heap}
def sp_Net_contains (K : PySem.W.Frag) : Sp := fun vs H Q _ => ∃ (S : Addr → Prop) (o : Addr) (n : NetD) (z : Str), vs = [.ref o, .str z] ∧ NetAt S K H o n ∧ Q (.bl (decide (z ∈ n.names))) H
theorem sc_Net_contains : FnScope ["self", "name"] ["self", "name"] (defScope s_Net_contains) := ⟨rfl, rfl, rfl, by decide +kernel, rfl, by decide +kernel, by decide +kernel⟩
theorem ok_Net_contains (x : Fx K mg w) : FnR P w K mg base CX0 1 (a_Net_contains K) (sp_Net_contains K) := by
  refine okR x.F_Net_contains sc_Net_contains (fun _ _ _ _ _ _ us hl => match us, hl with | [_, _], _ => rfl) (fun vs H Q E h => by obtain ⟨S, o, n, z, rfl, ⟨f, s1, s2, dx, ph, pe, kvs, h1, h2, h3, h4⟩, hQ⟩ := h; rfl) (fun cdv A outer s H vs Q E hr h => ?_)
  obtain ⟨S, o, n, z, rfl, ⟨f, s1, s2, dx, ph, pe, kvs, h1, h2, h3, h4⟩, hQ⟩ := h
  refine ⟨_, (pss_one (ps_ret (pe_and (pe_callB (r := rIsi K) call_isi rfl x.n_isinstance bb_isinstance (pa_cons (pv 1) (pa_cons (pe_gT x.n_str (by rfl) rfl) pa_nil))) (pe_one (pe_cmp (pc_din (hu_of hr) (pv 1) (pe_fldK (K := K) rfl (pv 0) rfl))))))), ?_⟩
  refine ⟨_, rfl, _, _, _, _, true, rfl, .ty _, .base (.str z), kit_ty (by decide +kernel), true, rfl, ?_⟩
  obtain ⟨r, g1, g2⟩ := dget_in (n := z) h2.1 h3
  refine ⟨_, rfl, _, rfl, o, _, dx, _, _, rfl, h1.1, x.cl_Net, x.na_Net_n_houses, rfl, ph, r, rfl, g1, ?_⟩
  rw [g2]
  exact hQ
def sp_need_house (K : PySem.W.Frag) : Sp := fun vs H Q _ => ∃ (S : Addr → Prop) (o : Addr) (n : NetD) (z : Str), vs = [.ref o, .str z] ∧ NetAt S K H o n ∧ z ∈ n.names ∧ Q .non H
theorem sc_need_house : FnScope ["net", "house"] ["net", "house"] (defScope s_need_house) := ⟨rfl, rfl, rfl, by decide +kernel, rfl, by decide +kernel, by decide +kernel⟩
theorem ok_need_house (x : Fx K mg w) : FnR P w K mg base CX0 2 (a_need_house K) (sp_need_house K) := by
  refine okR x.F_need_house sc_need_house (fun _ _ _ _ _ _ us hl => match us, hl with | [_, _], _ => rfl) (fun vs H Q E h => by obtain ⟨S, o, n, z, rfl, t, hz, hQ⟩ := h; rfl) (fun cdv A outer s H vs Q E hr h => ?_)
  obtain ⟨S, o, n, z, rfl, t, hz, hQ⟩ := h
  refine ⟨_, (pss_one (ps_if (pt_cmpR (op_notInI x.sp_Net_contains x.fn_Net_contains (ok_Net_contains x) (hr.mono (by decide)) pass0) (pv 1) (pv 0) rfl)
 (pss_one ps_never)
 pss_nil)), ?_⟩
  obtain ⟨f, s1, s2, dx, ph, pe, kvs, h1, h2, h3, h4⟩ := id t
  refine ⟨_, rfl, _, rfl, o, dx, _, rfl, h1.1, S, o, n, z, rfl, t, _, rfl, _, rfl, ifF (by simp [hz]) hQ⟩
def sp_Net_getitem (K : PySem.W.Frag) : Sp := fun vs H Q _ => ∃ (S : Addr → Prop) (o : Addr) (n : NetD) (z : Str), vs = [.ref o, .str z] ∧ NetAt S K H o n ∧ z ∈ n.names ∧ ∀ a, HouseAt S K H a (getH n.houses z) → Q (.ref a) H
theorem sc_Net_getitem : FnScope ["self", "house"] ["self", "house"] (defScope s_Net_getitem) := ⟨rfl, rfl, rfl, by decide +kernel, rfl, by decide +kernel, by decide +kernel⟩
theorem ok_Net_getitem (x : Fx K mg w) : FnR P w K mg base CX0 3 (a_Net_getitem K) (sp_Net_getitem K) := by
  refine okR x.F_Net_getitem sc_Net_getitem (fun _ _ _ _ _ _ us hl => match us, hl with | [_, _], _ => rfl) (fun vs H Q E h => by obtain ⟨S, o, n, z, rfl, t, hz, hQ⟩ := h; rfl) (fun cdv A outer s H vs Q E hr h => ?_)
  obtain ⟨S, o, n, z, rfl, t, hz, hQ⟩ := h
  refine ⟨_, (pss_cons (ps_expr (pe_callR (ok_need_house x) (hr.mono (by decide)) rfl x.m_need_house (keep_of x.F_need_house) pass0 (pa_cons (pv 0) (pa_cons (pv 1) pa_nil))))
 (pss_one (ps_ret (pe_dget (hu_of hr) (pe_fldK (K := K) rfl (pv 0) rfl) (pv 1) (fun _ _ => rfl))))), ?_⟩
  obtain ⟨f, s1, s2, dx, ph, pe, kvs, h1, h2, h3, h4⟩ := id t
  obtain ⟨a, hv, ht⟩ := h3.at_ z hz
  exact ⟨_, rfl, _, rfl, S, o, n, z, rfl, t, hz, _, rfl, o, _, dx, _, _, rfl, h1.1, x.cl_Net, x.na_Net_n_houses, rfl, _, rfl, ph, _, rfl, dget_str h2.1 hv, hQ a ht⟩
def sp_need_net (K : PySem.W.Frag) : Sp := fun vs H Q _ => ∃ (S : Addr → Prop) (o : Addr) (n : NetD), vs = [.ref o] ∧ NetAt S K H o n ∧ Q .non H
theorem sc_need_net : FnScope ["net"] ["net"] (defScope s_need_net) := ⟨rfl, rfl, rfl, by decide +kernel, rfl, by decide +kernel, by decide +kernel⟩
theorem ok_need_net (x : Fx K mg w) : FnR P w K mg base CX0 1 (a_need_net K) (sp_need_net K) := by
  refine okR x.F_need_net sc_need_net (fun _ _ _ _ _ _ us hl => match us, hl with | [_], _ => rfl) (fun vs H Q E h => by obtain ⟨S, o, n, rfl, ⟨f, s1, s2, dx, ph, pe, kvs, h1, h2, h3, h4⟩, hQ⟩ := h; rfl) (fun cdv A outer s H vs Q E hr h => ?_)
  obtain ⟨S, o, n, rfl, ⟨f, s1, s2, dx, ph, pe, kvs, h1, h2, h3, h4⟩, hQ⟩ := h
  refine ⟨_, (pss_one (ps_if (pt_not (pt_val (pe_callB (r := rIsi K) call_isi rfl x.n_isinstance bb_isinstance (pa_cons (pv 0) (pa_cons (pe_gR x.m_Net rfl) pa_nil)))))
 (pss_one ps_never)
 pss_nil)), ?_⟩
  exact ⟨_, rfl, _, _, _, _, true, rfl, .own _, isi_own h1.1 x.cl_Net x.cc_Net x.cget x.ctak x.mro_Net, x.kit_Net, true, rfl, hQ⟩
theorem make_rule {S : Addr → Prop} {H1 : Hp} {r : RuleD} {Q : Addr → Hp → Prop} {E : XK} (dm : Dm S H1) (ok : r.ok) (k : ∀ p H', Ext H1 H' → RuleAt S K H' p r → Q p H') :
    ∀ p dx, H1 p = none → H1 dx = none → dx ≠ p → sp_Rule_init K (.ref p :: [.int r.share, .str r.mark, .bl r.always, .bl r.late]) (upd (upd H1 dx (.own p)) p (.ins (c_Rule K) dx [])) (fun v H2 => v = .non ∧ Q p H2) E := by
  intro p dx hp hdx ne
  have e0 : Ext H1 (upd (upd H1 dx (.own p)) p (.ins (c_Rule K) dx [])) := (ext_new hdx).trans (ext_new (by rw [upd_ne (Ne.symm ne)]; exact hp))
  exact ⟨S, p, dx, r, rfl, dm.ext e0, ⟨upd_same, fun z => dm p z hp⟩, ok, fun H' u t => ⟨rfl, k p H' (made_ext hp hdx u) t⟩⟩
/-- equal as two nets are -/
def NetR (K : PySem.W.Frag) (p q : Addr) (b : Bool) (H : Hp) : Prop := ∃ n n', NetAt no K H p n ∧ NetAt no K H q n' ∧ b = decide (n = n')
def NetD.dat (n : NetD) : PyData := .tuple [.int n.fine, .tuple (n.entries.map .str)]
theorem NetD.Fit.nme {n : NetD} (f : n.Fit) : ∀ z ∈ n.entries, isName z = true := fun z hz => by
  obtain ⟨p, hp, rfl⟩ := List.mem_map.mp (f.sub z hz)
  exact f.hs.nm p hp
theorem net_shaped {n : NetD} (f : n.Fit) : SeqAt.shaped n.dat = true := by
  unfold SeqAt.shaped NetD.dat
  simp [PyData.canLay0, PyData.canLayAll0, PyData.depth, PyData.depthAll, strs_depth, strs_lay f.nme]
theorem net_eqv (n n' : NetD) : PyData.eqv n.dat n'.dat = (decide (n.fine = n'.fine) && decide (n.entries = n'.entries)) := by
  simp only [NetD.dat, PyData.eqv, PyData.eqvAll, strs_eqv]
  rw [Bool.eq_iff_iff]
  simp
theorem net_dp {H : Hp} {p pe : Addr} {n : NetD} (hp : H p = some (.tup [.int n.fine, .ref pe])) (h1 : H pe = some (.tup (n.entries.map V.str))) : Dp K H (.ref p) n.dat :=
  .tup (SqT.of hp) (.cons (.int _) (.cons (.tup (SqT.of h1) (strs_dp _)) .nil))
theorem sc_Net_eq : FnScope ["self", "other", "mine"] ["self", "other"] (defScope s_Net_eq) := ⟨rfl, rfl, rfl, by decide +kernel, rfl, by decide +kernel, by decide +kernel⟩
theorem ok_Net_eq (x : Fx K mg w) : FnR P w K mg base CX0 5 (a_Net_eq K) (spEqb (NetR K)) := by
  refine okR x.F_Net_eq sc_Net_eq (fun _ _ _ _ _ _ us hl => match us, hl with | [_, _], _ => rfl) (fun vs H Q E h => by obtain ⟨p, q, b, rfl, ⟨n, n', hp, hq, rfl⟩, hQ⟩ := h; rfl) (fun cdv A outer s H vs Q E hr h => ?_)
  obtain ⟨p, q, b, rfl, ⟨n, n', hp, hq, rfl⟩, hQ⟩ := h
  refine ⟨_, (pss_cons (ps_if (pt_not (pt_val (pe_callB (r := rIsi K) call_isi rfl x.n_isinstance bb_isinstance (pa_cons (pv 1) (pa_cons (pe_gR x.m_Net rfl) pa_nil)))))
 (pss_one (ps_ret pe_bl))
 pss_nil)
 (pss_cons (ps_set (i := 2) sc_Net_eq.nd rfl (Or.inl rfl) (pe_tup (pa_cons (pe_fldK (K := K) rfl (pv 0) rfl) (pa_cons (pe_fldK (K := K) rfl (pv 0) rfl) pa_nil))))
 (pss_one (ps_ret (pe_and (pe_cmpR (show OpR _ _ (rEqD K) from op_eqD hr.units) (pv 2) (pe_tup (pa_cons (pe_fldK (K := K) rfl (pv 1) rfl) (pa_cons (pe_fldK (K := K) rfl (pv 1) rfl) pa_nil))) (nomark _)) (pe_one (pe_cmpR (op_eqB (rcB_di mon_house (eqB_in (ok_House_eq x) x.sp_House_eq x.fn_House_eq pass0)) (hr.mono (by decide))) (pe_fldK (K := K) rfl (pv 0) rfl) (pe_fldK (K := K) rfl (pv 1) rfl) (nomark _)))))))), ?_⟩
  obtain ⟨f, s1, s2, dx, ph, pe, kvs, h1, h2, h3, h4⟩ := id hp
  obtain ⟨f', s1', s2', dy, qh, qe, kvs', g1, g2, g3, g4⟩ := id hq
  refine ⟨_, rfl, _, _, _, _, true, rfl, .own _, isi_own g1.1 x.cl_Net x.cc_Net x.cget x.ctak x.mro_Net, x.kit_Net, true, rfl, ?_⟩
  refine ⟨_, rfl, p, _, dx, _, _, rfl, h1.1, x.cl_Net, x.na_Net_n_fine, rfl, _, rfl, p, _, dx, _, _, rfl, h1.1, x.cl_Net, x.na_Net_n_entries, rfl, by simp [sizeLine_eq], fun t nt => ?_⟩
  have e1 : Ext H (upd H t (.tup [.int n.fine, .ref pe])) := ext_new nt
  have ht : (upd H t (.tup [.int n.fine, .ref pe])) t = some (.tup [.int n.fine, .ref pe]) := upd_same
  generalize upd H t (.tup [.int n.fine, .ref pe]) = H1 at e1 ht
  have dec : decide (n = n') = ((decide (n.fine = n'.fine) && decide (n.entries = n'.entries)) && decide (n.houses = n'.houses)) := by
    obtain ⟨a, b, c⟩ := n
    obtain ⟨a', b', c'⟩ := n'
    rw [Bool.eq_iff_iff]
    simp
    exact ⟨fun ⟨a, b, c⟩ => ⟨⟨a, c⟩, b⟩, fun ⟨⟨a, b⟩, c⟩ => ⟨a, c, b⟩⟩
  refine ⟨_, rfl, _, rfl, q, _, dy, _, _, rfl, e1 _ _ g1.1, x.cl_Net, x.na_Net_n_fine, rfl, _, rfl, q, _, dy, _, _, rfl, e1 _ _ g1.1, x.cl_Net, x.na_Net_n_entries, rfl, by simp [sizeLine_eq], fun t2 nt2 => ?_⟩
  have e2 := e1.trans (ext_new (o := .tup [.int n'.fine, .ref qe]) nt2)
  refine ⟨n.dat, n'.dat, net_dp (ext_new nt2 _ _ ht) (e2 _ _ h4.1), net_dp upd_same (e2 _ _ g4.1), net_shaped f, net_shaped f', ?_⟩
  rw [net_eqv]
  generalize upd H1 t2 (.tup [.int n'.fine, .ref qe]) = H2 at e2
  refine ⟨_, rfl, ifb (fun hb => ?_) fun hb => ?_⟩
  · refine ⟨_, rfl, p, _, dx, _, _, rfl, e2 _ _ h1.1, x.cl_Net, x.na_Net_n_houses, rfl, _, rfl, q, _, dy, _, _, rfl, e2 _ _ g1.1, x.cl_Net, x.na_Net_n_houses, rfl, decide (n.houses = n'.houses), ⟨ph, qh, kvs, kvs', rfl, rfl, e2 _ _ h2.1, e2 _ _ g2.1, ?_⟩, fun H3 e3 => ?_⟩
    · have l1 := h3.len
      have l2 := g3.len
      by_cases l : kvs.length = kvs'.length
      · refine .inr ⟨l, ?_⟩
        rw [← hitB_eq f.hs.nd f'.hs.nd s1 s1' (by omega)]
        exact houses_hits (g3.ext e2) (h3.ext e2)
      · refine .inl ⟨l, decide_eq_false fun z => l ?_⟩
        rw [l1, l2, z]
    · have := hQ _ (e2.trans e3)
      rwa [dec, hb, Bool.true_and] at this
  · have := hQ _ e2
    rwa [dec, hb, Bool.false_and] at this
theorem make_net {S : Addr → Prop} {H1 : Hp} {d ae : Addr} {kvs : List (Key × V)} {m : NetD} {Q : Addr → Hp → Prop} {E : XK} (dm : Dm S H1) (hd : H1 d = some (.dK kvs)) (hh : HousesAt S K H1 kvs m.houses) (he : Sq K H1 ae (m.entries.map V.str))
    (f : m.Fit) (k : ∀ r H' n, Ext H1 H' → NetMade m n → NetAt S K H' r n → Q r H') :
    ∀ r dx, H1 r = none → H1 dx = none → dx ≠ r → sp_Net_init K (.ref r :: [.int m.fine, .ref d, .ref ae]) (upd (upd H1 dx (.own r)) r (.ins (c_Net K) dx [])) (fun v H2 => v = .non ∧ Q r H2) E := by
  intro r dx hr hdx ne
  have e0 : Ext H1 (upd (upd H1 dx (.own r)) r (.ins (c_Net K) dx [])) := (ext_new hdx).trans (ext_new (by rw [upd_ne (Ne.symm ne)]; exact hr))
  exact ⟨S, r, dx, d, ae, kvs, m, rfl, dm.ext e0, ⟨upd_same, fun z => dm r z hr⟩, e0 _ _ hd, hh.ext e0, sq_ext he e0, f, fun H' n u md t => ⟨rfl, k r H' n (made_ext hr hdx u) md t⟩⟩
end
end Ws

set_option Elab.async false
set_option linter.all false
set_option maxRecDepth 100000
set_option maxHeartbeats 4000000
namespace Ws
open PySem PySem.Spec PyProof.Rows L2
def drawK (w c : Addr) (rest turn : Int) : List (Key × V) := [(Sum.inr "wide", .ref w), (Sum.inr "cells", .ref c), (Sum.inr "rest", .int rest), (Sum.inr "turn", .int turn)]
/-- the draws at d (their wide list at w), at most n turns so far -/
def DrawAt (S : Addr → Prop) (H : Hp) (d w c : Addr) (n : Nat) : Prop := S d ∧ S w ∧ ∃ (ws cs : List Int) (rest turn : Int), H d = some (.dK (drawK w c rest turn)) ∧ H w = some (.lst (ws.map V.int)) ∧ At S H c (.lst (cs.map V.int)) ∧
  cs.length ≤ 63 ∧ 0 ≤ turn ∧ turn ≤ n
theorem DrawAt.more {S : Addr → Prop} {H : Hp} {d w c : Addr} {n m : Nat} (h : DrawAt S H d w c n) (le : n ≤ m) : DrawAt S H d w c m := by
  obtain ⟨a, b, ws, cs, rest, turn, h1, h2, h3, h4, h5, h6⟩ := h
  exact ⟨a, b, ws, cs, rest, turn, h1, h2, h3, h4, h5, by omega⟩
/-- under a change elsewhere -/
theorem DrawAt.kp {S T : Addr → Prop} {H H' : Hp} {d w c : Addr} {n : Nat} (h : DrawAt S H d w c n) (e : Kp T H H') (nd : ¬ T d) (nw : ¬ T w) (nc : ¬ T c) : DrawAt S H' d w c n := by
  obtain ⟨a, b, ws, cs, rest, turn, h1, h2, h3, h4, h5, h6⟩ := h
  exact ⟨a, b, ws, cs, rest, turn, e.keep _ _ h1 nd, e.keep _ _ h2 nw, ⟨e.keep _ _ h3.1 nc, h3.2⟩, h4, h5, h6⟩
theorem DrawAt.ext {S : Addr → Prop} {H H' : Hp} {d w c : Addr} {n : Nat} (h : DrawAt S H d w c n) (e : Ext H H') : DrawAt S H' d w c n := h.kp (T := no) (.ext e) (fun z => z) (fun z => z) fun z => z
theorem DrawAt.grow {S : Addr → Prop} {H : Hp} {d w c q : Addr} {n : Nat} (h : DrawAt S H d w c n) (hq : H q = none) : DrawAt (Ws.more S q) H d w c n := by
  obtain ⟨a, b, ws, cs, rest, turn, h1, h2, h3, h4, h5, h6⟩ := h
  exact ⟨.inl a, .inl b, ws, cs, rest, turn, h1, h2, h3.grow hq, h4, h5, h6⟩
/-- what is new is none of theirs -/
theorem DrawAt.ne {S : Addr → Prop} {H : Hp} {d w c q : Addr} {n : Nat} (h : DrawAt S H d w c n) (hq : H q = none) : d ≠ q ∧ w ≠ q ∧ c ≠ q := by
  obtain ⟨a, b, ws, cs, rest, turn, h1, h2, h3, h4, h5, h6⟩ := h
  exact ⟨ne_of_none h1 hq, ne_of_none h2 hq, ne_of_none h3.1 hq⟩
def big : Nat := 1099511627776
theorem draw_get {w c : Addr} {rest turn : Int} : valV (drawK w c rest turn) (Sum.inr "wide") = some (.ref w) ∧ valV (drawK w c rest turn) (Sum.inr "cells") = some (.ref c) ∧ valV (drawK w c rest turn) (Sum.inr "rest") = some (.int rest) ∧
    valV (drawK w c rest turn) (Sum.inr "turn") = some (.int turn) := ⟨rfl, rfl, rfl, rfl⟩
theorem dput_str {H : Hp} {a : Addr} {kvs : List (Key × V)} {z : Str} {v : V} (e : H a = some (.dK kvs)) (hl : kvs.length ≤ 1000) : DPut H a (.str z) v (upd H a (.dK (putK kvs (Sum.inr z) v))) := DPut.k e (k := Sum.inr z) (Nat.lt_of_le_of_lt hl line1001)
theorem put_turn {w c : Addr} {rest turn t : Int} : putK (drawK w c rest turn) (Sum.inr "turn") (.int t) = drawK w c rest t := rfl
theorem put_rest {w c : Addr} {rest turn t : Int} : putK (drawK w c rest turn) (Sum.inr "rest") (.int t) = drawK w c t turn := rfl
theorem pow5_small {b : Int} (h : b.natAbs < 2 ^ 60) : CPow b 5 := ⟨by decide, by decide, Nat.lt_trans h (by decide)⟩
section
variable {P : Program} {w : World} {K : PySem.W.Frag} {mg : Str → Option Value} {base : Heap}
def sp_l_mixed : Sp := fun vs H Q _ => ∃ (S : Addr → Prop) (d wd c : Addr) (n : Nat), vs = [.ref d] ∧ Dm S H ∧ DrawAt S H d wd c n ∧ n ≤ big ∧ ∀ i H', Kp S H H' → DrawAt S H' d wd c (n + 1) → Q (.int i) H'
theorem sc_l_mixed : FnScope ["_law_draw", "_law_turn", "_law_found", "_law_prime", "_law_blend", "_law_cell"] ["_law_draw"] (defScope s_l_mixed) := ⟨rfl, rfl, rfl, by decide +kernel, rfl, by decide +kernel, by decide +kernel⟩
theorem ok_l_mixed (x : Fx K mg w) : FnR P w K mg base CX0 1 (a_l_mixed K) sp_l_mixed := by
  refine okR x.F_l_mixed sc_l_mixed (fun _ _ _ _ _ _ us hl => match us, hl with | [_], _ => rfl) (fun vs H Q E h => by obtain ⟨S, d, wd, c, n, rfl, dm, ⟨sd, sw, ws, cs, rest, turn, h1, h2, h3, h4, h5, h6⟩, hn, hQ⟩ := h; rfl) (fun cdv A outer s H vs Q E hr h => ?_)
  obtain ⟨S, d, wd, c, n, rfl, dm, ⟨sd, sw, ws, cs, rest, turn, h1, h2, h3, h4, h5, h6⟩, hn, hQ⟩ := h
  refine ⟨_, (pss_cons (ps_par (i := 1) (j := 2) rfl sc_l_mixed.nd rfl rfl (by decide) rfl rfl (pa_cons (pe_op op_add (pe_dget (hu_of hr) (pv 0) pe_str (fun _ _ => rfl)) pe_int) (pa_cons pe_int pa_nil)) (by rfl))
 (pss_cons (ps_dput (hu_of hr) (pv 0) pe_str (pv 1) rfl)
 (pss_cons (ps_for PassesOwn.never rfl (pi_listK (K := K) rfl (pe_lst (pa_cons pe_int (pa_cons pe_int (pa_cons pe_int (pa_cons pe_int pa_nil)))))) (pg_name (i := 3) sc_l_mixed.nd rfl (Or.inl rfl))
 (pss_cons (ps_set (i := 4) sc_l_mixed.nd rfl (Or.inl rfl) (pe_op op_add (pe_op op_mul pe_int (pv 1)) (pe_op op_fdiv (pv 3) pe_int)))
 (pss_cons (ps_for PassesOwn.never rfl (pi_listK (K := K) rfl (pe_dget (hu_of hr) (pv 0) pe_str (fun _ _ => rfl))) (pg_name (i := 5) sc_l_mixed.nd rfl (Or.inl rfl))
 (pss_one (ps_set (i := 4) sc_l_mixed.nd rfl (Or.inl rfl) (pe_op op_mod (pe_callTy call_int1 rfl x.n_int bb_int (pa_cons (pe_op op_add (pe_op op_add (pe_op op_mul (pv 4) pe_int) (pv 5)) (pv 1)) pa_nil)) (pv 3)))))
 (pss_one (ps_set (i := 2) sc_l_mixed.nd rfl (Or.inl rfl) (pe_op op_add (pe_op op_mul (pv 2) pe_int) (pe_op op_mod (pe_callTy call_int1 rfl x.n_int bb_int (pa_cons (pe_op op_pow (pv 4) pe_int) pa_nil)) (pv 3))))))))
 (pss_one (ps_ret (pv 2)))))), ?_⟩
  have hb : n ≤ 1099511627776 := hn
  refine ⟨_, rfl, d, _, rfl, dget_str h1 draw_get.2.2.2, _, _, rfl, rfl, _, _, rfl, ?_⟩
  refine ⟨_, rfl, _, rfl, d, _, rfl, dput_str h1 (by simp [drawK]), ?_⟩
  rw [put_turn]
  have u1 : Kp S H (upd H d (.dK (drawK wd c rest (turn + 1)))) := Kp.refl.put sd
  have d1 : (upd H d (.dK (drawK wd c rest (turn + 1)))) d = some (.dK (drawK wd c rest (turn + 1))) := upd_same
  have w1 : (upd H d (.dK (drawK wd c rest (turn + 1)))) wd = some (.lst (ws.map V.int)) := by rw [upd_ne (ne_of h2 h1 (by simp))]; exact h2
  generalize upd H d (.dK (drawK wd c rest (turn + 1))) = H1 at u1 d1 w1
  refine ⟨by simp [sizeLine_eq], fun l nl => ?_⟩
  have e2 : Ext H1 (upd H1 l (.lst [.int 2147483629, .int 2147483587, .int 2147483579, .int 2147483563])) := ext_new nl
  have hl : (upd H1 l (.lst [.int 2147483629, .int 2147483587, .int 2147483579, .int 2147483563])) l = some (.lst [.int 2147483629, .int 2147483587, .int 2147483579, .int 2147483563]) := upd_same
  generalize upd H1 l (.lst [.int 2147483629, .int 2147483587, .int 2147483579, .int 2147483563]) = H2 at e2 hl
  have u2 := u1.trans (.ext e2)
  have c2 := h3.kp u2
  refine ⟨l, rfl, ⟨_, .of hl⟩, for_std (std_list (S := no) (.of hl) (fun z => z)) (fun i σ H' => H' = H2 ∧ ∃ f p b q, σ = [some (.ref d), some (.int (turn + 1)), some (.int f), p, b, q]) ⟨rfl, 0, none, none, none, rfl⟩ (fun i σ H' h => by rw [h.1]; exact Kp.refl) (fun i y σ H' hy ⟨e, f, p, b, q, hσ⟩ => ?_) (fun σ H' ⟨e, f, p, b, q, hσ⟩ => ?_)⟩
  · subst hσ; replace e := e.symm; subst e
    have hp : ∃ z : Int, y = .int z ∧ 0 < z ∧ z < 2147483648 := by
      have := List.mem_of_getElem? hy
      simp only [List.mem_cons, List.not_mem_nil, or_false] at this
      rcases this with rfl | rfl | rfl | rfl <;> exact ⟨_, rfl, by decide, by decide⟩
    obtain ⟨z, rfl, z1, z2⟩ := hp
    refine ⟨_, rfl, _, _, rfl, rfl, .inl ⟨by decide, by decide⟩, _, rfl, _, _, rfl, rfl, ⟨by decide, by decide⟩, _, _, rfl, rfl, ?_⟩
    refine ⟨_, rfl, d, _, rfl, dget_str (e2 _ _ d1) draw_get.2.1, c, rfl, ⟨_, .of c2.1⟩, for_std (std_list (S := no) (.of c2.1) (fun z => z)) (fun i σ H' => H' = H2 ∧ ∃ f q, ∃ b : Int, σ = [some (.ref d), some (.int (turn + 1)), some (.int f), some (.int z), some (.int b), q] ∧ b.natAbs < 2 ^ 60)
      ⟨rfl, f, q, _, rfl, ?_⟩ (fun i σ H' h => by rw [h.1]; exact Kp.refl) (fun i y σ H' hy ⟨e, f, q, b, hσ, hb⟩ => ?_) (fun σ H' ⟨e, f, q, b, hσ, hb⟩ => ?_)⟩
    · have : (z / 19 : Int) ≤ z := Int.ediv_le_self _ (by omega)
      have : 0 ≤ (z / 19 : Int) := Int.ediv_nonneg (by omega) (by decide)
      show (61441 * (turn + 1) + z / 19).natAbs < 1152921504606846976
      omega
    · subst hσ; replace e := e.symm; subst e
      obtain ⟨g, _, rfl⟩ := List.mem_map.mp (List.mem_of_getElem? hy)
      refine ⟨_, rfl, _, _, rfl, rfl, .inr ⟨by decide, by decide⟩, _, rfl, _, _, rfl, rfl, _, rfl, _, _, rfl, rfl, .inl ⟨_, rfl, _, rfl, _, _, rfl, rfl, z1, rfl, f, _, _, rfl, ?_⟩⟩
      have m1 := Int.emod_nonneg (b * 48271 + g + (turn + 1)) (show z ≠ 0 by omega)
      have m2 := Int.emod_lt_of_pos (b * 48271 + g + (turn + 1)) z1
      show ((b * 48271 + g + (turn + 1)) % z).natAbs < 1152921504606846976
      omega
    · subst hσ; replace e := e.symm; subst e
      refine ⟨_, rfl, _, _, rfl, rfl, .inr ⟨by decide, by decide⟩, _, rfl, _, _, rfl, rfl, pow5_small hb, .inl ⟨_, rfl, _, rfl, _, _, rfl, rfl, z1, _, _, rfl, rfl, rfl, _, _, _, _, rfl⟩⟩
  · subst hσ; replace e := e.symm; subst e
    exact ⟨_, rfl, hQ f H2 u2 ⟨sd, sw, ws, cs, rest, turn + 1, e2 _ _ d1, e2 _ _ w1, c2, h4, by omega, by omega⟩⟩
theorem ints_dp (H : Hp) : ∀ zs : List Int, DpAll K H (zs.map V.int) (zs.map PyData.int)
  | [] => .nil
  | z :: zs => .cons (.int z) (ints_dp H zs)
theorem ints_lay : ∀ zs : List Int, PyData.canLayAll0 (zs.map PyData.int) = true ∧ PyData.depthAll (zs.map PyData.int) = 0
  | [] => ⟨rfl, rfl⟩
  | z :: zs => by
    obtain ⟨h1, h2⟩ := ints_lay zs
    exact ⟨by simp [PyData.canLayAll0, PyData.canLay0, h1], by simp [PyData.depthAll, PyData.depth, h2]⟩
theorem ints_shaped (zs : List Int) : SeqAt.shaped (.list (zs.map PyData.int)) = true := by
  obtain ⟨h1, h2⟩ := ints_lay zs
  unfold SeqAt.shaped
  simp [PyData.canLay0, h1, PyData.depth, h2]
def sp_l_take : Sp := fun vs H Q _ => ∃ (S : Addr → Prop) (d wd c : Addr) (n : Nat) (size : Int), vs = [.ref d, .int size] ∧ Dm S H ∧ DrawAt S H d wd c n ∧ n ≤ big ∧ 1 ≤ size ∧ size < 1000000 ∧ ∀ (k : Int) (H' : Hp), 0 ≤ k → k < size → Kp S H H' → DrawAt S H' d wd c (n + 1) → Q (.int k) H'
theorem sc_l_take : FnScope ["_law_draw", "_law_size", "_law_found"] ["_law_draw", "_law_size"] (defScope s_l_take) := ⟨rfl, rfl, rfl, by decide +kernel, rfl, by decide +kernel, by decide +kernel⟩
theorem ok_l_take (x : Fx K mg w) : FnR P w K mg base CX0 2 (a_l_take K) sp_l_take := by
  refine okR x.F_l_take sc_l_take (fun _ _ _ _ _ _ us hl => match us, hl with | [_, _], _ => rfl) (fun vs H Q E h => by obtain ⟨S, d, wd, c, n, size, rfl, dm, da, hn, s1, s2, hQ⟩ := h; rfl) (fun cdv A outer s H vs Q E hr h => ?_)
  obtain ⟨S, d, wd, c, n, size, rfl, dm, da, hn, s1, s2, hQ⟩ := h
  refine ⟨_, (pss_cons (ps_if (pt_cmpR op_eq (pe_dget (hu_of hr) (pv 0) pe_str (fun _ _ => rfl)) pe_int (nomark _))
 (pss_one (ps_dput (hu_of hr) (pv 0) pe_str (pe_ifExp (pt_cmpR (show OpR _ _ (rNeD K) from op_neD hr.units) (pe_dget (hu_of hr) (pv 0) pe_str (fun _ _ => rfl)) (pe_lst pa_nil) (nomark _)) (pe_bmK (K := K) rfl PySem.F.plainAttrs_list PySem.F.slot_list_pop PySem.F.type_list_pop mt_popAt (pe_dget (hu_of hr) (pv 0) pe_str (fun _ _ => rfl)) (pa_cons pe_int pa_nil)) (pe_callR (ok_l_mixed x) (hr.mono (by decide)) rfl x.m_l_mixed (keep_of x.F_l_mixed) pass0 (pa_cons (pv 0) pa_nil))) rfl))
 pss_nil)
 (pss_cons (ps_set (i := 2) sc_l_take.nd rfl (Or.inl rfl) (pe_op op_mod (pe_callTy call_int1 rfl x.n_int bb_int (pa_cons (pe_dget (hu_of hr) (pv 0) pe_str (fun _ _ => rfl)) pa_nil)) (pv 1)))
 (pss_cons (ps_dput (hu_of hr) (pv 0) pe_str (pe_op op_fdiv (pe_dget (hu_of hr) (pv 0) pe_str (fun _ _ => rfl)) (pv 1)) rfl)
 (pss_one (ps_ret (pv 2)))))), ?_⟩
  obtain ⟨sd, sw, ws, cs, rest, turn, h1, h2, h3, h4, h5, h6⟩ := id da
  have wne : wd ≠ d := ne_of h2 h1 (by simp)
  refine ⟨_, rfl, d, _, rfl, dget_str h1 draw_get.2.2.1, rfl, _, rfl, ifb (fun hb => ?_) fun hb => ?_⟩
  · refine ⟨_, rfl, d, _, rfl, dget_str h1 draw_get.1, by simp [sizeLine_eq], fun l nl => ?_⟩
    have e1 : Ext H (upd H l (.lst [])) := ext_new nl
    have hl : (upd H l (.lst [])) l = some (.lst []) := upd_same
    generalize upd H l (.lst []) = H1 at e1 hl
    refine ⟨.list (ws.map PyData.int), .list [], .lst (.of (e1 _ _ h2)) (ints_dp H1 ws), .lst (.of hl) .nil, ints_shaped ws, by decide +kernel, _, rfl, ?_⟩
    cases ws with
    | nil =>
      refine ⟨_, rfl, S, d, wd, c, n, rfl, dm.ext e1, da.ext e1, hn, fun i H2 u2 da2 => ?_⟩
      obtain ⟨_, _, ws', cs', rest', turn', g1, g2, g3, g4, g5, g6⟩ := id da2
      refine ⟨_, rfl, d, _, rfl, dput_str g1 (by simp [drawK]), ?_⟩
      rw [put_rest]
      have u3 : Kp S H (upd H2 d (.dK (drawK wd c i turn'))) := (Kp.ext e1).trans (u2.trans (Kp.refl.put sd))
      refine ⟨_, rfl, d, _, rfl, dget_str upd_same draw_get.2.2.1, .inl ⟨_, rfl, _, rfl, _, _, rfl, rfl, by show (0 : Int) < size; omega, ?_⟩⟩
      refine ⟨_, rfl, d, _, rfl, dget_str upd_same draw_get.2.2.1, _, rfl, _, _, rfl, rfl, ⟨by omega, by omega⟩, _, rfl, d, _, rfl, dput_str upd_same (by simp [drawK]), ?_⟩
      rw [put_rest, upd_upd]
      refine ⟨_, rfl, hQ _ _ (Int.emod_nonneg _ (by omega)) (Int.emod_lt_of_pos _ (by omega)) ((Kp.ext e1).trans (u2.trans (Kp.refl.put sd))) ⟨sd, sw, ws', cs', _, turn', upd_same, by rw [upd_ne wne]; exact g2, ⟨by rw [upd_ne (ne_of g3.1 g1 (by simp))]; exact g3.1, g3.2⟩, g4, g5, g6⟩⟩
    | cons z ws =>
      refine ⟨_, rfl, d, _, rfl, dget_str (e1 _ _ h1) draw_get.1, .inl ⟨rfl, _, .of (e1 _ _ h2)⟩, wd, _, 0, 0, _, rfl, rfl, e1 _ _ h2, by decide, by decide, ?_, rfl, ?_⟩
      · simp [seqIndex?]
      refine ⟨_, rfl, d, _, rfl, dput_str (by rw [upd_ne (Ne.symm wne)]; exact e1 _ _ h1) (by simp [drawK]), ?_⟩
      rw [put_rest]
      refine ⟨_, rfl, d, _, rfl, dget_str upd_same draw_get.2.2.1, .inl ⟨_, rfl, _, rfl, _, _, rfl, rfl, by show (0 : Int) < size; omega, ?_⟩⟩
      refine ⟨_, rfl, d, _, rfl, dget_str upd_same draw_get.2.2.1, _, rfl, _, _, rfl, rfl, ⟨by omega, by omega⟩, _, rfl, d, _, rfl, dput_str upd_same (by simp [drawK]), ?_⟩
      rw [put_rest, upd_upd]
      refine ⟨_, rfl, hQ _ _ (Int.emod_nonneg _ (by omega)) (Int.emod_lt_of_pos _ (by omega)) (((Kp.ext e1).put sw).trans (Kp.refl.put sd)) ⟨sd, sw, ws, cs, _, turn, upd_same, by rw [upd_ne wne, upd_same]; rfl, ⟨?_, h3.2⟩, h4, h5, by omega⟩⟩
      rw [upd_ne (ne_of h3.1 h1 (by simp)), upd_ne (fun q : c = wd => h3.2 (by rw [q]; exact sw))]
      exact e1 _ _ h3.1
  · refine ⟨_, rfl, d, _, rfl, dget_str h1 draw_get.2.2.1, .inl ⟨_, rfl, _, rfl, _, _, rfl, rfl, by show (0 : Int) < size; omega, ?_⟩⟩
    refine ⟨_, rfl, d, _, rfl, dget_str h1 draw_get.2.2.1, _, rfl, _, _, rfl, rfl, ⟨by omega, by omega⟩, _, rfl, d, _, rfl, dput_str h1 (by simp [drawK]), ?_⟩
    rw [put_rest]
    refine ⟨_, rfl, hQ _ _ (Int.emod_nonneg _ (by omega)) (Int.emod_lt_of_pos _ (by omega)) (Kp.refl.put sd) ⟨sd, sw, ws, cs, _, turn, upd_same, by rw [upd_ne wne]; exact h2, ⟨by rw [upd_ne (ne_of h3.1 h1 (by simp))]; exact h3.1, h3.2⟩, h4, h5, by omega⟩⟩
end
end Ws

set_option Elab.async false
set_option linter.all false
set_option maxRecDepth 100000
set_option maxHeartbeats 4000000
namespace Ws
open PySem PySem.Spec PyProof.Rows L2
section
variable {P : Program} {w : World} {K : PySem.W.Frag} {mg : Str → Option Value} {base : Heap}
def sp_l_pick : Sp := fun vs H Q _ => ∃ (S : Addr → Prop) (d wd c : Addr) (n : Nat) (v : V), vs = [.ref d, v] ∧ Dm S H ∧ DrawAt S H d wd c n ∧ n ≤ big ∧
  ((∃ a xs, v = .ref a ∧ At S H a (.lst xs) ∧ xs ≠ [] ∧ xs.length ≤ 1000 ∧ ∀ y ∈ xs, ∀ H', Kp S H H' → DrawAt S H' d wd c (n + 1) → Q y H') ∨
   ∃ z : Str, v = .str z ∧ 1 ≤ z.length ∧ z.length ≤ 1000 ∧ ∀ g ∈ z.cps.toList, ∀ H', Kp S H H' → DrawAt S H' d wd c (n + 1) → Q (.str ⟨#[g]⟩) H')
theorem sc_l_pick : FnScope ["_law_draw", "_law_some"] ["_law_draw", "_law_some"] (defScope s_l_pick) := ⟨rfl, rfl, rfl, by decide +kernel, rfl, by decide +kernel, by decide +kernel⟩
theorem ok_l_pick (x : Fx K mg w) : FnR P w K mg base CX0 3 (a_l_pick K) sp_l_pick := by
  refine okR x.F_l_pick sc_l_pick (fun _ _ _ _ _ _ us hl => match us, hl with | [_, _], _ => rfl) (fun vs H Q E h => by obtain ⟨S, d, wd, c, n, v, rfl, dm, da, hn, hv⟩ := h; rfl) (fun cdv A outer s H vs Q E hr h => ?_)
  obtain ⟨S, d, wd, c, n, v, rfl, dm, da, hn, hv⟩ := h
  refine ⟨_, (pss_one (ps_ret (pe_ix (r := rIx K) ix_seq (pv 1) (pe_callR (ok_l_take x) (hr.mono (by decide)) rfl x.m_l_take (keep_of x.F_l_take) pass0 (pa_cons (pv 0) (pa_cons (pe_callB (r := rLenK K) call_lenK rfl x.n_len bb_len (pa_cons (pv 1) pa_nil)) pa_nil))) (fun _ _ => rfl)))), ?_⟩
  rcases hv with ⟨a, xs, rfl, ha, h0, hl, hQ⟩ | ⟨z, rfl, l1, l2, hQ⟩
  · have hp : 0 < xs.length := List.length_pos_iff.mpr h0
    refine ⟨_, rfl, _, rfl, _, rfl, _, _, rfl, .inl ⟨_, .of ha.1, rfl⟩, S, d, wd, c, n, _, rfl, dm, da, hn, by omega, by omega, fun k H' k0 k1 u da' => ?_⟩
    obtain ⟨j, rfl⟩ := Int.eq_ofNat_of_zero_le k0
    have hj : j < xs.length := by omega
    exact .inl ⟨a, xs, (j : Int), xs[j], rfl, rfl, .of (ha.kp u).1, atI_nat (List.getElem?_eq_getElem hj), hQ _ (List.getElem_mem hj) H' u da'⟩
  · refine ⟨_, rfl, _, rfl, _, rfl, _, _, rfl, ⟨sz l2, rfl⟩, S, d, wd, c, n, _, rfl, dm, da, hn, by omega, by omega, fun k H' k0 k1 u da' => ?_⟩
    obtain ⟨j, rfl⟩ := Int.eq_ofNat_of_zero_le k0
    have hj : j < z.cps.toList.length := by
      have : z.cps.toList.length = z.length := Array.length_toList
      omega
    exact .inr (.inr ⟨z, (j : Int), z.cps.toList[j], rfl, rfl, sz l2, atI_nat (List.getElem?_eq_getElem hj), hQ _ (List.getElem_mem hj) H' u da'⟩)
/-- the draws' own two -/
def two (a b : Addr) : Addr → Prop := fun x => x = a ∨ x = b
def sp_l_begun (K : PySem.W.Frag) : Sp := fun vs H Q _ => ∃ (a : Addr) (ns : List Int), vs = [.ref a] ∧ SqL K H a (ns.map V.int) ∧ ns.length ≤ 63 ∧ ∀ d wd c H', Ext H H' → H d = none → H wd = none → DrawAt (two d wd) H' d wd c 0 → Q (.ref d) H'
def absI (i : Int) : Int := if i < 0 then -i else i
def wideI (i : Int) : Option Int := if (1000000000000000000 : Int) ≤ absI i then some (absI i - 1000000000000000000) else none
def asInt (g : Int → Option Int) : V → Option V := fun v => match v with
  | .int i => (g i).map V.int
  | _ => none
theorem asInt_all (g : Int → Option Int) (ns : List Int) : (ns.map V.int).filterMap (asInt g) = (ns.filterMap g).map V.int := by
  rw [List.filterMap_map, List.map_filterMap]
  rfl
theorem sc_l_begun : FnScope ["_law_script", "_law_wide", "_law_cell"] ["_law_script"] (defScope s_l_begun) := ⟨rfl, rfl, rfl, by decide +kernel, rfl, by decide +kernel, by decide +kernel⟩
theorem ok_l_begun (x : Fx K mg w) : FnR P w K mg base CX0 1 (a_l_begun K) (sp_l_begun K) := by
  refine okR x.F_l_begun sc_l_begun (fun _ _ _ _ _ _ us hl => match us, hl with | [_], _ => rfl) (fun vs H Q E h => by obtain ⟨a, ns, rfl, hs, hl, hQ⟩ := h; rfl) (fun cdv A outer s H vs Q E hr h => ?_)
  obtain ⟨a, ns, rfl, hs, hl, hQ⟩ := h
  refine ⟨_, (pss_cons (ps_setLc (i := 1) (own := [("_law_cell", 2)]) rfl sc_l_begun.nd rfl rfl (sw_true rfl rfl rfl (by decide +kernel)) (pi_listK (K := K) rfl (pv 0)) (blkOk_by (N := ["_law_script", "_law_wide", "_law_cell"]) (sc := defScope s_l_begun) (by decide +kernel)) (fun _ _ _ _ _ => (pg_name (i := 2) sc_l_begun.nd rfl (Or.inl rfl))) (fun _ _ _ _ _ => (pts_one (pt_cmpR op_ge (pe_callB call_abs rfl x.n_abs bb_abs (pa_cons (pv 2) pa_nil)) (pe_op op_pow pe_int pe_int) (nomark _)))) (fun _ _ _ _ _ => (pe_op op_sub (pe_callB call_abs rfl x.n_abs bb_abs (pa_cons (pv 2) pa_nil)) (pe_op op_pow pe_int pe_int))))
 (pss_one (ps_ret (pe_disp (pps_cons pe_str (pv 1) (pps_cons pe_str (pe_lc (own := [("_law_cell", 2)]) (tt := tYes) rfl sc_l_begun.nd (pi_listK (K := K) rfl (pv 0)) (blkOk_by (N := ["_law_script", "_law_wide", "_law_cell"]) (sc := defScope s_l_begun) (by decide +kernel)) (fun _ _ _ _ _ => (pg_name (i := 2) sc_l_begun.nd rfl (Or.inl rfl))) (fun _ _ _ _ _ => pts_nil) (fun _ _ _ _ _ => (pe_op op_mod (pe_callTy call_int1 rfl x.n_int bb_int (pa_cons (pe_callB call_abs rfl x.n_abs bb_abs (pa_cons (pv 2) pa_nil)) pa_nil)) pe_int))) (pps_cons pe_str pe_int (pps_cons pe_str pe_int pps_nil)))) rfl rfl (by simp) (by decide))))), ?_⟩
  refine ⟨_, rfl, a, rfl, ⟨_, hs⟩, fun W hW => lc_map (std_list hs (fun z => z)) hW (asInt wideI) (by simp; omega) (fun y H' Nx hy e g1 g2 => ?_) (fun H1 e1 hW1 => ?_)⟩
  · obtain ⟨i, hi, rfl⟩ := List.mem_map.mp hy
    refine ⟨rfl, _, rfl, i, rfl, _, _, rfl, rfl, ⟨by decide, by decide, by decide⟩, _, _, rfl, rfl, _, rfl, ifb (fun hb => ?_) fun hb => ?_⟩
    · have hb : (1000000000000000000 : Int) ≤ absI i := of_decide_eq_true hb
      refine ⟨_, rfl, i, rfl, _, _, rfl, rfl, ⟨by decide, by decide, by decide⟩, _, _, rfl, rfl, g1 _ _ Ext.rfl' ?_⟩
      show (wideI i).map V.int = _
      rw [wideI, if_pos hb]
      rfl
    · have hb : ¬ (1000000000000000000 : Int) ≤ absI i := of_decide_eq_false hb
      refine g2 _ Ext.rfl' ?_
      show (wideI i).map V.int = none
      rw [wideI, if_neg hb]
      rfl
  rw [asInt_all] at hW1
  refine fun d hd => ?_
  have e2 : Ext H1 (upd H1 d (.dK [])) := ext_new hd
  have d2 : (upd H1 d (.dK [])) d = some (.dK []) := upd_same
  have nd : W ≠ d := ne_of_none hW1 hd
  generalize upd H1 d (.dK []) = H2 at e2 d2
  have e12 := e1.trans e2
  refine ⟨_, rfl, _, rfl, a, rfl, ⟨_, sqL_ext hs e12⟩, fun C hC => lc_map (std_list (sqL_ext hs e12) (fun z => z)) hC (asInt fun i => some (absI i % 2147483629)) (by simp; omega) (fun y H' Nx hy e g1 g2 => ?_) (fun H3 e3 hC3 => ?_)⟩
  · obtain ⟨i, hi, rfl⟩ := List.mem_map.mp hy
    exact ⟨rfl, _, rfl, i, rfl, .inl ⟨_, rfl, _, _, rfl, rfl, by show (0 : Int) < 2147483629; decide, g1 _ _ Ext.rfl' rfl⟩⟩
  rw [asInt_all] at hC3
  have hdn : H d = none := by
    cases q : H d with
    | none => rfl
    | some u => rw [e1 _ _ q] at hd; cases hd
  have cn : C ≠ d := fun z => by rw [z, d2] at hC; cases hC
  have cw : C ≠ W := fun z => by rw [z, e2 _ _ hW1] at hC; cases hC
  refine ⟨e3 _ _ d2, drawK W C 0 0, rfl, by simp [drawK], ?_⟩
  refine hQ d W C _ (fun c u h => ?_) hdn hW ⟨.inl rfl, .inr rfl, _, _, 0, 0, by rw [upd_same]; rfl, by rw [upd_ne nd]; exact e3 _ _ (e2 _ _ hW1), ⟨by rw [upd_ne cn]; exact hC3, fun z => z.elim cn cw⟩, ?_, by decide, by decide⟩
  · rw [upd_ne (ne_of_none h hdn)]
    exact (e12.trans e3) _ _ h
  · have := List.length_filterMap_le (fun i => some (absI i % 2147483629)) ns
    omega
end
end Ws

set_option Elab.async false
set_option linter.all false
set_option maxRecDepth 100000
set_option maxHeartbeats 4000000
namespace Ws
open PySem PySem.Spec PyProof.Rows L2
/-! ### signs and words -/
theorem isName_iff {z : Str} : isName z = true ↔ 1 ≤ z.cps.toList.length ∧ z.cps.toList.length ≤ 6 ∧ ∀ c ∈ z.cps.toList, c ∈ letters.cps.toList := by
  have e : z.length = z.cps.toList.length := by rw [Array.length_toList]; rfl
  unfold isName
  rw [e]
  simp only [Bool.and_eq_true, decide_eq_true_eq, List.all_eq_true]
theorem joinL_nil : ∀ ps : List (List Nat), TL.joinL [] ps = ps.flatten
  | [] => rfl
  | [p] => by simp [TL.joinL]
  | p :: q :: r => by
    have := joinL_nil (q :: r)
    simp only [TL.joinL, List.nil_append, this, List.flatten_cons]
theorem join_one (cs : List Nat) : (Txt.join "" (cs.map fun c => (⟨#[c]⟩ : Str))).cps.toList = cs := by
  rw [TL.join_eq]
  have h := TL.tl_join "" (cs.map fun c => (⟨#[c]⟩ : Str))
  have h2 : TL.joinL (TL.tl "") ((cs.map fun c => (⟨#[c]⟩ : Str)).map TL.tl) = cs := by
    rw [show TL.tl "" = [] from rfl, joinL_nil, List.map_map]
    induction cs with
    | nil => rfl
    | cons c cs ih =>
      rw [List.map_cons, List.flatten_cons]
      have := ih (TL.tl_join _ _)
      rw [this]
      rfl
  exact h.trans h2
theorem cut5 (z : Str) : (cutS z none (some 5)).cps.toList = z.cps.toList.take 5 := by
  unfold cutS
  rw [HT.sIx_none, show (some (5 : Int)) = some ((5 : Nat) : Int) from rfl, HT.sIx_nat]
  simp only [List.drop_zero, Nat.sub_zero]
  have e : z.length = z.cps.toList.length := by rw [Array.length_toList]; rfl
  rw [e, List.take_eq_take_iff]
  omega
theorem app_cps (a b : Str) : (a ++ b).cps.toList = a.cps.toList ++ b.cps.toList := by
  show (a.cps ++ b.cps).toList = _
  simp
/-- a word near to z -/
def near (z : Str) (c : Nat) : Str := cutS z none (some 5) ++ ⟨#[c]⟩
theorem near_cps (z : Str) (c : Nat) : (near z c).cps.toList = z.cps.toList.take 5 ++ [c] := by
  unfold near
  rw [app_cps, cut5]
theorem near_name {z : Str} {c : Nat} (h : isName z = true) (hc : c ∈ letters.cps.toList) : isName (near z c) = true := by
  rw [isName_iff] at h ⊢
  rw [near_cps]
  refine ⟨by simp, by simp; omega, fun x hx => ?_⟩
  rcases List.mem_append.mp hx with hx | hx
  · exact h.2.2 x (List.mem_of_mem_take hx)
  · rw [List.mem_singleton.mp hx]; exact hc
theorem letters_nodup : letters.cps.toList.Nodup := by decide +kernel
theorem letters_len : letters.cps.toList.length = 26 := by decide +kernel
theorem letters_size : letters.cps.size = 26 := by decide +kernel
/-- not all near words are taken -/
theorem near_free (z : Str) (zs : List Str) (h : zs.length < 26) : ∃ c ∈ letters.cps.toList, near z c ∉ zs := by
  refine Classical.byContradiction fun no => ?_
  have all : ∀ a ∈ letters.cps.toList.map (near z), a ∈ zs := fun a ha => by
    obtain ⟨c, hc, rfl⟩ := List.mem_map.mp ha
    exact Classical.byContradiction fun n => no ⟨c, hc, n⟩
  have nd : (letters.cps.toList.map (near z)).Nodup := List.Pairwise.map _ (fun a b n e => n (by
    have := congrArg (fun s : Str => s.cps.toList) e
    simp only [near_cps] at this
    simpa using this)) letters_nodup
  have := len_sub nd all
  rw [List.length_map, letters_len] at this
  omega
def words10 : List Str := ["a", "b", "ab", "aa", "house", "handed", "rule", "fine", "fails", "calls", "late"]
theorem words10_ok : ∀ z ∈ words10, isName z = true := by decide +kernel
/-- the words but those of zs -/
def notIn (zs : List Str) : V → Option V := fun v => match v with
  | .str z => if z ∈ zs then none else some (.str z)
  | _ => none
theorem notIn_all (zs : List Str) : ∀ ys : List Str, (ys.map V.str).filterMap (notIn zs) = (ys.filter fun z => decide (z ∉ zs)).map V.str
  | [] => rfl
  | y :: ys => by
    rw [List.map_cons, List.filterMap_cons, notIn_all zs ys, List.filter_cons]
    by_cases h : y ∈ zs
    · simp [notIn, h]
    · simp [notIn, h]
section
variable {P : Program} {w : World} {K : PySem.W.Frag} {mg : Str → Option Value} {base : Heap}
/-- behind an if that has no else both ways go on alike -/
theorem seq_if {c : TT} {t u : TS} {D : Ends} {σ : L2.St} {H : Hp} (I : L2.St → Hp → Prop) (tail : ∀ σ' H', I σ' H' → u D σ' H')
    (h : (∀ σ' H', I σ' H' → u D σ' H') → c σ H fun b H1 => if b = true then t { D with nx := u D } σ H1 else u D σ H1) : tSeq (tIfS c t tNext) u D σ H := h tail
def sp_l_names : Sp := fun vs H Q _ => ∃ (S : Addr → Prop) (d wd c : Addr) (n many : Nat), vs = [.ref d, .int (many : Nat)] ∧ Dm S H ∧ DrawAt S H d wd c n ∧ n + 100 ≤ big ∧ many ≤ 8 ∧
  ∀ (l : Addr) (zs : List Str) (H' : Hp), Kp S H H' → DrawAt S H' d wd c (n + 6 * many) → At S H' l (.lst (zs.map V.str)) → H l = none → zs.Nodup → (∀ z ∈ zs, isName z = true) → zs.length = many → Q (.ref l) H'
theorem sc_l_names : FnScope ["_law_draw", "_law_many", "_law_letters", "_law_found", "_law_some", "_law_k", "_law_word", "_law_near", "_law_spot", "_law_letter", "_law_one"] ["_law_draw", "_law_many"] (defScope s_l_names) := ⟨rfl, rfl, rfl, by decide +kernel, rfl, by decide +kernel, by decide +kernel⟩
theorem ok_l_names (x : Fx K mg w) : FnR P w K mg base CX0 4 (a_l_names K) sp_l_names := by
  refine okR x.F_l_names sc_l_names (fun _ _ _ _ _ _ us hl => match us, hl with | [_, _], _ => rfl) (fun vs H Q E h => by obtain ⟨S, d, wd, c, n, many, rfl, dm, da, hn, hm, hQ⟩ := h; rfl) (fun cdv A outer s H vs Q E hr h => ?_)
  obtain ⟨S, d, wd, c, n, many, rfl, dm, da, hn, hm, hQ⟩ := h
  refine ⟨_, (pss_cons (ps_asg (pe_tup (pa_cons pe_str (pa_cons (pe_lst pa_nil) pa_nil))) (pg_tupK (K := K) (n := 2) rfl rfl (pgs_cons (pg_name (i := 2) sc_l_names.nd rfl (Or.inr rfl)) (pgs_cons (pg_name (i := 3) sc_l_names.nd rfl (Or.inr rfl)) pgs_nil))))
 (pss_cons (ps_set (i := 4) sc_l_names.nd rfl (Or.inl rfl) (pe_lst (pa_cons pe_str (pa_cons pe_str (pa_cons pe_str (pa_cons pe_str (pa_cons pe_str (pa_cons pe_str (pa_cons pe_str (pa_cons pe_str (pa_cons pe_str (pa_cons pe_str (pa_cons pe_str pa_nil)))))))))))))
 (pss_cons (ps_for PassesOwn.never rfl (pi_range1 rfl x.n_range (pa_cons (pv 1) pa_nil)) (pg_name (i := 5) sc_l_names.nd rfl (Or.inl rfl))
 (pss_cons (ps_set (i := 6) sc_l_names.nd rfl (Or.inr rfl) (pe_callR (ok_l_pick x) (hr.mono (by decide)) rfl x.m_l_pick (keep_of x.F_l_pick) pass0 (pa_cons (pv 0) (pa_cons (pv 4) pa_nil))))
 (pss_cons (ps_if (pt_cmpR op_eq (pe_callR (ok_l_take x) (hr.mono (by decide)) rfl x.m_l_take (keep_of x.F_l_take) pass0 (pa_cons (pv 0) (pa_cons pe_int pa_nil))) pe_int (nomark _))
 (pss_one (ps_set (i := 6) sc_l_names.nd rfl (Or.inr rfl) (pe_joinK (K := K) rfl pe_str (pe_lc (own := [("_law_spot", 8)]) (tt := tYes) rfl sc_l_names.nd (pi_range1 rfl x.n_range (pa_cons (pe_op op_add pe_int (pe_callR (ok_l_take x) (hr.mono (by decide)) rfl x.m_l_take (keep_of x.F_l_take) pass0 (pa_cons (pv 0) (pa_cons pe_int pa_nil)))) pa_nil)) (blkOk_by (N := ["_law_draw", "_law_many", "_law_letters", "_law_found", "_law_some", "_law_k", "_law_word", "_law_near", "_law_spot", "_law_letter", "_law_one"]) (sc := defScope s_l_names) (by decide +kernel)) (fun _ _ _ _ _ => (pg_name (i := 8) sc_l_names.nd rfl (Or.inl rfl))) (fun _ _ _ _ _ => pts_nil) (fun _ _ _ _ _ => (pe_callR (ok_l_pick x) (hr.mono (by decide)) rfl x.m_l_pick (keep_of x.F_l_pick) pass0 (pa_cons (pv 0) (pa_cons (pv 2) pa_nil))))))))
 pss_nil)
 (pss_cons (ps_set (i := 7) sc_l_names.nd rfl (Or.inl rfl) (pe_op op_cat (pe_lst (pa_cons (pv 6) pa_nil)) (pe_lc (own := [("_law_letter", 9)]) (tt := tYes) rfl sc_l_names.nd (pi_str (pv 2)) (blkOk_by (N := ["_law_draw", "_law_many", "_law_letters", "_law_found", "_law_some", "_law_k", "_law_word", "_law_near", "_law_spot", "_law_letter", "_law_one"]) (sc := defScope s_l_names) (by decide +kernel)) (fun _ _ _ _ _ => (pg_name (i := 9) sc_l_names.nd rfl (Or.inl rfl))) (fun _ _ _ _ _ => pts_nil) (fun _ _ _ _ _ => (pe_op op_add_str (pe_slice sl_str (pv 6) po_none (po_some pe_int)) (pv 9))))))
 (pss_one (ps_expr (pe_bmK (K := K) rfl PySem.F.plainAttrs_list PySem.F.slot_list_append PySem.F.type_list_append mt_append (pv 3) (pa_cons (pe_ix (r := rIxL K) ix_list (pe_lc (own := [("_law_one", 10)]) rfl sc_l_names.nd (pi_listK (K := K) rfl (pv 7)) (blkOk_by (N := ["_law_draw", "_law_many", "_law_letters", "_law_found", "_law_some", "_law_k", "_law_word", "_law_near", "_law_spot", "_law_letter", "_law_one"]) (sc := defScope s_l_names) (by decide +kernel)) (fun _ _ _ _ _ => (pg_name (i := 10) sc_l_names.nd rfl (Or.inl rfl))) (fun _ _ _ _ _ => (pts_one (pt_cmpR (show OpR _ _ (rIn K true) from op_notIn_seq) (pv 10) (pv 3) rfl))) (fun _ _ _ _ _ => (pv 10))) pe_int (fun _ _ => rfl)) pa_nil))))))))
 (pss_one (ps_ret (pv 3)))))), ?_⟩
  have hb : n + 100 ≤ 1099511627776 := hn
  refine ⟨by simp [sizeLine_eq], fun f nf => ⟨by simp [sizeLine_eq], fun tp ntp => ?_⟩⟩
  have e1 : Ext H (upd H f (.lst [])) := ext_new nf
  have hf1 : (upd H f (.lst [])) f = some (.lst []) := upd_same
  generalize upd H f (.lst []) = H1 at e1 hf1 ntp
  have e2 : Ext H1 (upd H1 tp (.tup [.str "abcdefghijklmnopqrstuvwxyz", .ref f])) := ext_new ntp
  have ht2 : (upd H1 tp (.tup [.str "abcdefghijklmnopqrstuvwxyz", .ref f])) tp = some (.tup [.str "abcdefghijklmnopqrstuvwxyz", .ref f]) := upd_same
  generalize upd H1 tp (.tup [.str "abcdefghijklmnopqrstuvwxyz", .ref f]) = H2 at e2 ht2
  refine ⟨tp, _, rfl, .of ht2, rfl, _, _, rfl, _, _, rfl, rfl, ?_⟩
  refine ⟨by simp [sizeLine_eq], fun sm nsm => ?_⟩
  have e3 : Ext H2 (upd H2 sm (.lst (words10.map V.str))) := ext_new nsm
  have hs3 : (upd H2 sm (.lst (words10.map V.str))) sm = some (.lst (words10.map V.str)) := upd_same
  change tSeq _ _ _ _ (upd H2 sm (.lst (words10.map V.str)))
  generalize upd H2 sm (.lst (words10.map V.str)) = H3 at e3 hs3
  have e13 := (e1.trans e2).trans e3
  have hf3 := (e2.trans e3) _ _ hf1
  have fs : sm ≠ f := fun z => by rw [z, (e2 _ _ hf1)] at nsm; cases nsm
  have nsS : ¬ S sm := fun z => dm.ext (e1.trans e2) sm z nsm
  have nfS : ¬ S f := fun z => dm f z nf
  obtain ⟨fd, fw, fc⟩ := da.ne nf
  refine ⟨_, rfl, (many : Int), rfl, by omega, by omega, for_std (std_range (S := more S f)) (fun i σ H' => Kp (more S f) H3 H' ∧ DrawAt S H' d wd c (n + 6 * i) ∧ At S H' sm (.lst (words10.map V.str)) ∧ ∃ zs, H' f = some (.lst (zs.map V.str)) ∧ zs.Nodup ∧ (∀ z ∈ zs, isName z = true) ∧ zs.length = i ∧
    ∃ k wo ne, σ = [some (.ref d), some (.int many), some (.str letters), some (.ref f), some (.ref sm), k, wo, ne, none, none, none]) ⟨Kp.refl, da.ext e13, ⟨hs3, nsS⟩, [], hf3, .nil, fun z h => by simp at h, rfl, none, none, none, rfl⟩ (fun i σ H' h => h.1) (fun i y σ H4 hy ⟨u, da4, as4, zs, hf4, nd, nm, hl, k, wo, ne, hσ⟩ => ?_) (fun σ H4 ⟨u, da4, as4, zs, hf4, nd, nm, hl, k, wo, ne, hσ⟩ => ?_)⟩
  · subst hσ
    have hi : i < many := by
      have := (List.getElem?_eq_some_iff.mp hy).1
      simpa using this
    have hr : Kp (more S f) H H4 := (Kp.ext e13).trans u
    have dm4 : Dm S H4 := dm.kp hr
    refine ⟨_, rfl, _, rfl, S, d, wd, c, _, _, rfl, dm4, da4, by show n + 6 * i ≤ 1099511627776; omega, .inl ⟨sm, _, rfl, as4, by decide +kernel, by decide +kernel, fun y hy H5 u5 da5 => ?_⟩⟩
    obtain ⟨wd0, hw0, rfl⟩ := List.mem_map.mp hy
    have nw0 := words10_ok wd0 hw0
    have dm5 := dm4.kp u5
    dsimp only [gName]
    refine seq_if (fun σ' H' => ∃ z kk, isName z = true ∧ Kp S H4 H' ∧ DrawAt S H' d wd c (n + 6 * i + 6) ∧ σ' = [some (.ref d), some (.int many), some (.str letters), some (.ref f), some (.ref sm), kk, some (.str z), ne, none, none, none]) ?_ fun tail => ?_
    · rintro σ' H6 ⟨z, kk, nz, u6, da6, rfl⟩
      have hf6 := u6.keep _ _ hf4 nfS
      have as6 := as4.kp u6
      have lz : z.length ≤ 6 := isName_len nz
      refine ⟨_, rfl, by simp [sizeLine_eq], fun l1 nl1 => ?_⟩
      have e7 : Ext H6 (upd H6 l1 (.lst [.str z])) := ext_new nl1
      have h7 : (upd H6 l1 (.lst [.str z])) l1 = some (.lst [.str z]) := upd_same
      generalize upd H6 l1 (.lst [.str z]) = H7 at e7 h7
      refine ⟨_, rfl, letters, rfl, fun D hD => lc_map std_str hD (fun v => match v with | .str y => some (.str (cutS z none (some 5) ++ y)) | _ => none) (by simp [letters_size]) (fun y H8 Nx hy e8 g1 g2 => ?_) (fun H8 e8 hD8 => ?_)⟩
      · obtain ⟨c', hc, rfl⟩ := List.mem_map.mp hy
        refine ⟨rfl, _, rfl, _, rfl, z, rfl, sz (m := 6) lz, _, rfl, _, _, rfl, rfl, ?_, g1 _ _ Ext.rfl' rfl⟩
        have : (cutS z none (some 5)).length ≤ z.length := cutS_length _ _ _
        exact sz (m := 7) (by show (cutS z none (some 5)).length + 1 ≤ 7; omega)
      have row : (letters.cps.toList.map fun c => V.str ⟨#[c]⟩).filterMap (fun v => match v with | .str y => some (V.str (cutS z none (some 5) ++ y)) | _ => none) = (letters.cps.toList.map (near z)).map V.str := by
        rw [List.filterMap_map, List.map_map]
        simp [Function.comp_def, near]
      rw [row] at hD8
      refine ⟨l1, D, _, _, rfl, rfl, e8 _ _ h7, hD8, sz (m := 1000) (by simp [letters_size]), fun l2 nl2 => ?_⟩
      have e9 : Ext H8 (upd H8 l2 (.lst ([.str z] ++ (letters.cps.toList.map (near z)).map V.str))) := ext_new nl2
      have h9 : (upd H8 l2 (.lst ([.str z] ++ (letters.cps.toList.map (near z)).map V.str))) l2 = some (.lst ((z :: letters.cps.toList.map (near z)).map V.str)) := upd_same
      generalize upd H8 l2 (.lst ([.str z] ++ (letters.cps.toList.map (near z)).map V.str)) = H9 at e9 h9
      have e79 := (e7.trans e8).trans e9
      have hf9 := e79 _ _ hf6
      refine ⟨_, rfl, .inl ⟨rfl, _, .of hf9⟩, _, rfl, l2, rfl, ⟨_, .of h9⟩, fun D2 hD2 => lc_map (std_list (.of h9) (fun z => z)) hD2 (notIn zs) (by simp [letters_size]) (fun y H10 Nx hy e10 g1 g2 => ?_) (fun H10 e10 hD10 => ?_)⟩
      · obtain ⟨c', hc, rfl⟩ := List.mem_map.mp hy
        refine ⟨rfl, _, rfl, _, rfl, f, _, rfl, .inl (.of (e10 _ _ hf9)), rfl, flat_strs _, _, rfl, ifb (fun hb => ?_) fun hb => ?_⟩
        · exact ⟨_, rfl, g1 _ _ Ext.rfl' (by
            have : c' ∉ zs := by simpa [inV_str] using hb
            simp [notIn, this])⟩
        · exact g2 _ Ext.rfl' (by
            have : c' ∈ zs := by simpa [inV_str] using hb
            simp [notIn, this])
      rw [notIn_all] at hD10
      obtain ⟨c', hc, hcn⟩ := near_free z zs (by omega)
      obtain ⟨first, rs, hfil⟩ : ∃ first rs, (z :: letters.cps.toList.map (near z)).filter (fun y => decide (y ∉ zs)) = first :: rs := by
        cases q : (z :: letters.cps.toList.map (near z)).filter (fun y => decide (y ∉ zs)) with
        | nil =>
          have : near z c' ∈ (z :: letters.cps.toList.map (near z)).filter (fun y => decide (y ∉ zs)) := List.mem_filter.mpr ⟨List.mem_cons_of_mem _ (List.mem_map.mpr ⟨c', hc, rfl⟩), decide_eq_true hcn⟩
          rw [q] at this
          simp at this
        | cons a b => exact ⟨a, b, rfl⟩
      have hmem : first ∈ (z :: letters.cps.toList.map (near z)).filter (fun y => decide (y ∉ zs)) := by rw [hfil]; exact List.mem_cons_self
      obtain ⟨m1, m2⟩ := List.mem_filter.mp hmem
      have m2 : first ∉ zs := of_decide_eq_true m2
      have nfirst : isName first = true := by
        rcases List.mem_cons.mp m1 with rfl | m1
        · exact nz
        · obtain ⟨c', hc', rfl⟩ := List.mem_map.mp m1
          exact near_name nz hc'
      rw [hfil] at hD10
      have hf10 := e10 _ _ hf9
      have e610 := e79.trans e10
      refine ⟨D2, _, 0, _, rfl, rfl, .of hD10, atI_nat (j := 0) rfl, f, _, _, rfl, rfl, hf10, ?_, ?_⟩
      · have := line1001
        simp
        omega
      have uf : Kp (one f) H10 (upd H10 f (.lst (zs.map V.str ++ [.str first]))) := Kp.refl.put rfl
      have u10 : Kp (more S f) H3 (upd H10 f (.lst (zs.map V.str ++ [.str first]))) := (u.trans ((u6.mono fun a h => .inl h).trans (.ext e610))).trans (uf.mono fun a h => .inr h)
      refine ⟨u10, ((da6.ext e610).kp uf fd fw fc).more (by omega), ⟨by rw [upd_ne fs]; exact e610 _ _ as6.1, nsS⟩, zs ++ [first], by rw [upd_same, strs_snoc], nd_snoc nd m2, fun y hy => ?_, by simp [hl], _, _, _, rfl⟩
      rcases List.mem_append.mp hy with hy | hy
      · exact nm y hy
      · rw [List.mem_singleton.mp hy]; exact nfirst
    · refine ⟨_, rfl, S, d, wd, c, _, 2, rfl, dm5, da5, by show n + 6 * i + 1 ≤ 1099511627776; omega, by decide, by decide, fun k H6 k0 k1 u6 da6 => ⟨rfl, _, rfl, ifb (fun hb => ?_) fun hb => ?_⟩⟩
      · have dm6 := dm5.kp u6
        refine ⟨⟨_, rfl⟩, _, rfl, S, d, wd, c, _, 3, rfl, dm6, da6, by show n + 6 * i + 2 ≤ 1099511627776; omega, by decide, by decide, fun k H7 k0 k1 u7 da7 => ?_⟩
        have dm7 := dm6.kp u7
        obtain ⟨j, rfl⟩ := Int.eq_ofNat_of_zero_le k0
        refine ⟨_, _, rfl, rfl, (1 + j : Int), rfl, by omega, by omega, fun D hD => lc_std (S := S) std_range (fun t H' => Kp S H7 H' ∧ DrawAt S H' d wd c (n + 6 * i + 3 + t) ∧ ∃ cs, H' D = some (.lst ((cs.map fun c => (⟨#[c]⟩ : Str)).map V.str)) ∧ cs.length = t ∧ ∀ c ∈ cs, c ∈ letters.cps.toList) ⟨?_, ?_, [], upd_same, rfl, fun c h => by simp at h⟩ (fun t H h => h.1) (fun t y H8 hy ⟨u8, da8, cs, hD8, lc, hc⟩ => ?_) (fun H8 ⟨u8, da8, cs, hD8, lc, hc⟩ => ?_)⟩
        · exact .new hD
        · exact da7.ext (ext_new hD)
        · have ht : t < 1 + j := by
            have := (List.getElem?_eq_some_iff.mp hy).1
            simp only [List.length_map, List.length_range] at this
            omega
          have nD : ¬ S D := fun z => dm7 D z hD
          refine ⟨rfl, _, rfl, _, rfl, S, d, wd, c, _, _, rfl, dm7.kp u8, da8, by show n + 6 * i + 3 + t ≤ 1099511627776; omega, .inr ⟨letters, rfl, by decide +kernel, by decide +kernel, fun g hg H9 u9 da9 => ?_⟩⟩
          have hD9 := u9.keep _ _ hD8 nD
          obtain ⟨qd, qw, qc⟩ := da7.ne hD
          have uD : Kp (one D) H9 (upd H9 D (.lst ((cs.map fun c => (⟨#[c]⟩ : Str)).map V.str ++ [.str ⟨#[g]⟩]))) := Kp.refl.put rfl
          refine ⟨_, hD9, ?_, ⟨fun a o h ns => ?_, fun a h => ?_⟩, (da9.kp uD qd qw qc).more (by omega), cs ++ [g], by rw [upd_same]; simp, by simp [lc], fun x hx => ?_⟩
          · have := line1001
            simp
            omega
          · have na : a ≠ D := ne_of_none h hD
            rw [upd_ne na]
            exact (u8.trans u9).keep a o h ns
          · exact uD.dom a ((u8.trans u9).dom a h)
          · rcases List.mem_append.mp hx with hx | hx
            · exact hc x hx
            · rw [List.mem_singleton.mp hx]; exact hg
        · have lt : cs.length = 1 + j := by
            rw [lc]
            simp
            omega
          refine ⟨_, D, cs.map fun c => (⟨#[c]⟩ : Str), rfl, rfl, .inl (.of hD8), ?_, ?_⟩
          · have : ∀ l : List Nat, ((l.map fun c => (⟨#[c]⟩ : Str)).map (·.length)).sum = l.length := by
              intro l
              induction l with
              | nil => rfl
              | cons a l ih => simp only [List.map_cons, List.sum_cons, ih, List.length_cons]; show 1 + l.length = _; omega
            rw [this]
            show cs.length + (cs.map _).length * 0 ≤ _
            omega
          · refine tail _ _ ⟨_, _, ?_, (u5.trans u6).trans (u7.trans u8), da8.more (by simp; omega), rfl⟩
            rw [isName_iff, join_one]
            exact ⟨by omega, by omega, hc⟩
      · exact tail _ _ ⟨_, _, nw0, u5.trans u6, da6.more (by omega), rfl⟩
  · subst hσ
    have lm : zs.length = many := by rw [hl]; simp
    have kp : Kp S H H4 := ⟨fun a o h ns => u.keep a o (e13 a o h) fun z => z.elim ns fun z => (by rw [z, nf] at h; cases h), fun a h => u.dom a (ext_dom e13 h)⟩
    refine ⟨_, rfl, hQ f zs H4 kp (da4.more (by simp)) ⟨hf4, nfS⟩ nf nd nm lm⟩
end
end Ws

set_option Elab.async false
set_option linter.all false
set_option maxRecDepth 100000
set_option maxHeartbeats 4000000
namespace Ws
open PySem PySem.Spec PyProof.Rows L2
structure ModelD where
  fine : Int
  houses : Hs
  some_ : List Str
  odds : Int
  entries : List Str
/-- the net's part -/
def ModelD.net (m : ModelD) : NetD := ⟨m.fine, m.houses, m.entries⟩
/-- a word that is not this law's own -/
abbrev Tame (z : Str) : Prop := isName z = true ∧ z ≠ "qqq"
structure ModelD.Fit (m : ModelD) : Prop where
  net : m.net.Fit
  hs : ∀ p ∈ m.houses, p.2.Fit ∧ ∀ r ∈ p.2.rules, r.ok
  so : ∀ z ∈ m.some_, Tame z
  sl : m.some_.length ≤ 4
  o1 : 1 ≤ m.odds
  o2 : m.odds ≤ 1000
section
variable {S : Addr → Prop} {K : PySem.W.Frag} {H H1 : Hp} {a o q m : Addr} {kvs : List (Key × V)} {hs : Hs}
abbrev TupsAt (S : Addr → Prop) (H : Hp) : List Addr → List RuleD → Prop := Paired fun a r => At S H a (.tup r.vs)
def hdK (pr pc pl : Addr) (f : Bool) : List (Key × V) := [(Sum.inr "rules", .ref pr), (Sum.inr "calls", .ref pc), (Sum.inr "lost", .ref pl), (Sum.inr "fails", .bl f)]
/-- a model's house -/
def HdAt (S : Addr → Prop) (H : Hp) (a : Addr) (h : HouseD) : Prop := ∃ pr pc pl os, At S H a (.dK (hdK pr pc pl h.fails)) ∧ At S H pr (.lst (os.map V.ref)) ∧ TupsAt S H os h.rules ∧ At S H pc (.lst (h.calls.map V.str)) ∧ At S H pl (.lst (h.lost.map V.str))
theorem HdAt.kp {h : HouseD} (t : HdAt S H a h) (e : Kp S H H1) : HdAt S H1 a h := by
  obtain ⟨pr, pc, pl, os, h1, h2, h3, h4, h5⟩ := t
  exact ⟨pr, pc, pl, os, h1.kp e, h2.kp e, Paired.mapP h3 fun _ _ z => z.kp e, h4.kp e, h5.kp e⟩
theorem HdAt.ext {h : HouseD} (t : HdAt S H a h) (e : Ext H H1) : HdAt S H1 a h := t.kp (.ext e)
theorem HdAt.grow {h : HouseD} (t : HdAt S H a h) (hq : H q = none) : HdAt (more S q) H a h := by
  obtain ⟨pr, pc, pl, os, h1, h2, h3, h4, h5⟩ := t
  exact ⟨pr, pc, pl, os, h1.grow hq, h2.grow hq, Paired.mapP h3 fun _ _ z => z.grow hq, h4.grow hq, h5.grow hq⟩
def HdsAt (S : Addr → Prop) (H : Hp) : List (Key × V) → Hs → Prop := Paired fun (kv : Key × V) (nh : Str × HouseD) => kv.1 = Sum.inr nh.1 ∧ ∃ a, kv.2 = .ref a ∧ HdAt S H a nh.2
theorem HdsAt.kp (h : HdsAt S H kvs hs) (e : Kp S H H1) : HdsAt S H1 kvs hs := Paired.mapP h fun kv nh ⟨h1, a, h2, h3⟩ => ⟨h1, a, h2, h3.kp e⟩
theorem HdsAt.ext (h : HdsAt S H kvs hs) (e : Ext H H1) : HdsAt S H1 kvs hs := h.kp (.ext e)
theorem HdsAt.grow (h : HdsAt S H kvs hs) (hq : H q = none) : HdsAt (more S q) H kvs hs := Paired.mapP h fun kv nh ⟨h1, a, h2, h3⟩ => ⟨h1, a, h2, h3.grow hq⟩
theorem HdsAt.keys : ∀ {kvs : List (Key × V)} {hs : Hs}, HdsAt S H kvs hs → kvs.map (·.1) = (hs.map (·.1)).map Sum.inr
  | _, _, .nil => rfl
  | _, _, .cons h t => by
    simp only [List.map_cons]
    rw [h.1, HdsAt.keys t]
theorem HdsAt.at_ : ∀ {kvs : List (Key × V)} {hs : Hs}, HdsAt S H kvs hs → ∀ n ∈ hs.map (·.1), ∃ a, valV kvs (Sum.inr n) = some (.ref a) ∧ HdAt S H a (getH hs n)
  | _, _, .nil, n, h => by simp at h
  | kv :: kvs, nh :: hs, .cons ⟨h1, a, h2, h3⟩ t, n, hn => by
    by_cases e : nh.1 = n
    · refine ⟨a, ?_, ?_⟩
      · rw [valV_pos (by rw [h1, e]), h2]
      · unfold getH
        rw [List.find?_cons_of_pos (by simp [e])]
        exact h3
    · simp only [List.map_cons, List.mem_cons] at hn
      obtain ⟨b, i1, i2⟩ := HdsAt.at_ t n (hn.resolve_left fun z => e z.symm)
      refine ⟨b, ?_, ?_⟩
      · rw [valV_neg (by rw [h1]; intro z; injection z with z; exact e z)]
        exact i1
      · unfold getH
        rw [List.find?_cons_of_neg (by simp [e])]
        exact i2
def modK (f : Int) (ph ps : Addr) (od : Int) (pe : Addr) : List (Key × V) := [(Sum.inr "fine", .int f), (Sum.inr "houses", .ref ph), (Sum.inr "some", .ref ps), (Sum.inr "odds", .int od), (Sum.inr "entries", .ref pe)]
def ModelAt (S : Addr → Prop) (H : Hp) (m : Addr) (md : ModelD) : Prop := ∃ ph ps pe kvs, At S H m (.dK (modK md.fine ph ps md.odds pe)) ∧ At S H ph (.dK kvs) ∧ HdsAt S H kvs md.houses ∧ At S H ps (.lst (md.some_.map V.str)) ∧ At S H pe (.lst (md.entries.map V.str))
theorem ModelAt.kp {md : ModelD} (t : ModelAt S H m md) (e : Kp S H H1) : ModelAt S H1 m md := by
  obtain ⟨ph, ps, pe, kvs, h1, h2, h3, h4, h5⟩ := t
  exact ⟨ph, ps, pe, kvs, h1.kp e, h2.kp e, h3.kp e, h4.kp e, h5.kp e⟩
theorem ModelAt.ext {md : ModelD} (t : ModelAt S H m md) (e : Ext H H1) : ModelAt S H1 m md := t.kp (.ext e)
theorem ModelAt.grow {md : ModelD} (t : ModelAt S H m md) (hq : H q = none) : ModelAt (more S q) H m md := by
  obtain ⟨ph, ps, pe, kvs, h1, h2, h3, h4, h5⟩ := t
  exact ⟨ph, ps, pe, kvs, h1.grow hq, h2.grow hq, h3.grow hq, h4.grow hq, h5.grow hq⟩
end
section
variable {P : Program} {w : World} {K : PySem.W.Frag} {mg : Str → Option Value} {base : Heap}
/-- what of a model (perhaps not whole yet) a rule is drawn from -/
structure Src (S : Addr → Prop) (H : Hp) (m : Addr) (kvs : List (Key × V)) (fine odds : Int) (ps : Addr) (so : List Str) : Prop where
  at_ : At S H m (.dK kvs)
  kf : valV kvs (Sum.inr "fine") = some (.int fine)
  ks : valV kvs (Sum.inr "some") = some (.ref ps)
  ko : valV kvs (Sum.inr "odds") = some (.int odds)
  as_ : At S H ps (.lst (so.map V.str))
  nm : ∀ z ∈ so, Tame z
  sl : so.length ≤ 4
  f1 : 1 ≤ fine
  f2 : fine ≤ 1000
  o1 : 1 ≤ odds
  o2 : odds ≤ 1000
theorem Src.kp {S : Addr → Prop} {H H1 : Hp} {m ps : Addr} {kvs : List (Key × V)} {fine odds : Int} {so : List Str} (h : Src S H m kvs fine odds ps so) (e : Kp S H H1) : Src S H1 m kvs fine odds ps so :=
  ⟨h.at_.kp e, h.kf, h.ks, h.ko, h.as_.kp e, h.nm, h.sl, h.f1, h.f2, h.o1, h.o2⟩
def sp_l_rule : Sp := fun vs H Q _ => ∃ (S : Addr → Prop) (d wd c m sa ps : Addr) (n : Nat) (kvs : List (Key × V)) (fine odds : Int) (so : List Str) (sh : List Int), vs = [.ref d, .ref m, .ref sa] ∧ Dm S H ∧ DrawAt S H d wd c n ∧ n + 10 ≤ big ∧
  Src S H m kvs fine odds ps so ∧ At S H sa (.lst (sh.map V.int)) ∧ sh.length ≤ 10 ∧ (∀ s ∈ sh, 0 ≤ s ∧ s ≤ fine) ∧
  ∀ p r H', Kp S H H' → DrawAt S H' d wd c (n + 5) → At S H' p (.tup (RuleD.vs r)) → r.ok → r.share ≤ fine → r.mark ≠ "qqq" → Q (.ref p) H'
theorem sc_l_rule : FnScope ["_law_draw", "_law_model_here", "_law_shares", "_law_share_own", "_law_tag"] ["_law_draw", "_law_model_here", "_law_shares"] (defScope s_l_rule) := ⟨rfl, rfl, rfl, by decide +kernel, rfl, by decide +kernel, by decide +kernel⟩
theorem ok_l_rule (x : Fx K mg w) : FnR P w K mg base CX0 4 (a_l_rule K) sp_l_rule := by
  refine okR x.F_l_rule sc_l_rule (fun _ _ _ _ _ _ us hl => match us, hl with | [_, _, _], _ => rfl) (fun vs H Q E h => by obtain ⟨S, d, wd, c, m, sa, ps, n, kvs, fine, odds, so, sh, rfl, dm, da, hn, src, hsa, hsl, hsh, hQ⟩ := h; rfl) (fun cdv A outer s H vs Q E hr h => ?_)
  obtain ⟨S, d, wd, c, m, sa, ps, n, kvs, fine, odds, so, sh, rfl, dm, da, hn, src, hsa, hsl, hsh, hQ⟩ := h
  refine ⟨_, (pss_cons (ps_set (i := 3) sc_l_rule.nd rfl (Or.inl rfl) (pe_callR (ok_l_pick x) (hr.mono (by decide)) rfl x.m_l_pick (keep_of x.F_l_pick) pass0 (pa_cons (pv 0) (pa_cons (pe_op op_cat (pe_op op_cat (pv 2) (pv 2)) (pe_lst (pa_cons pe_int (pa_cons (pe_dget (hu_of hr) (pv 1) pe_str (fun _ _ => rfl)) (pa_cons (pe_callR (ok_l_take x) (hr.mono (by decide)) rfl x.m_l_take (keep_of x.F_l_take) pass0 (pa_cons (pv 0) (pa_cons (pe_op op_add (pe_dget (hu_of hr) (pv 1) pe_str (fun _ _ => rfl)) pe_int) pa_nil))) pa_nil))))) pa_nil))))
 (pss_cons (ps_set (i := 4) sc_l_rule.nd rfl (Or.inl rfl) (pe_callR (ok_l_pick x) (hr.mono (by decide)) rfl x.m_l_pick (keep_of x.F_l_pick) pass0 (pa_cons (pv 0) (pa_cons (pe_op op_cat (pe_lst (pa_cons pe_str (pa_cons pe_str (pa_cons pe_str pa_nil)))) (pe_dget (hu_of hr) (pv 1) pe_str (fun _ _ => rfl))) pa_nil))))
 (pss_one (ps_ret (pe_tup (pa_cons (pv 3) (pa_cons (pv 4) (pa_cons (pe_cmpR op_eq (pe_callR (ok_l_take x) (hr.mono (by decide)) rfl x.m_l_take (keep_of x.F_l_take) pass0 (pa_cons (pv 0) (pa_cons (pe_dget (hu_of hr) (pv 1) pe_str (fun _ _ => rfl)) pa_nil))) pe_int (nomark _)) (pa_cons (pe_cmpR op_eq (pe_callR (ok_l_take x) (hr.mono (by decide)) rfl x.m_l_take (keep_of x.F_l_take) pass0 (pa_cons (pv 0) (pa_cons (pe_dget (hu_of hr) (pv 1) pe_str (fun _ _ => rfl)) pa_nil))) pe_int (nomark _)) pa_nil))))))))), ?_⟩
  have hb : n + 10 ≤ 1099511627776 := hn
  have f1 := src.f1
  have f2 := src.f2
  have o1 := src.o1
  have o2 := src.o2
  refine ⟨_, rfl, _, rfl, _, rfl, sa, sa, _, _, rfl, rfl, hsa.1, hsa.1, sz (m := 1000) (by simp; omega), fun l1 nl1 => ?_⟩
  have e1 : Ext H (upd H l1 (.lst (sh.map V.int ++ sh.map V.int))) := ext_new nl1
  have h1 : (upd H l1 (.lst (sh.map V.int ++ sh.map V.int))) l1 = some (.lst ((sh ++ sh).map V.int)) := by rw [upd_same, List.map_append]
  have a1 : At S (upd H l1 (.lst (sh.map V.int ++ sh.map V.int))) l1 (.lst ((sh ++ sh).map V.int)) := ⟨h1, fun z => dm l1 z nl1⟩
  generalize upd H l1 (.lst (sh.map V.int ++ sh.map V.int)) = H1 at e1 h1 a1
  have s1 := src.kp (.ext e1)
  have dm1 := dm.ext e1
  refine ⟨_, rfl, m, _, rfl, dget_str s1.at_.1 src.kf, _, rfl, _, rfl, m, _, rfl, dget_str s1.at_.1 src.kf, _, _, rfl, rfl, S, d, wd, c, n, fine + 1, rfl, dm1, da.ext e1, by show n ≤ 1099511627776; omega, by omega, by omega, fun k H2 k0 k1 u2 da2 => ?_⟩
  have dm2 := dm1.kp u2
  refine ⟨by simp [sizeLine_eq], fun l2 nl2 => ?_⟩
  have a2 := a1.kp u2
  have e3 : Ext H2 (upd H2 l2 (.lst [.int 0, .int fine, .int k])) := ext_new nl2
  have h3 : (upd H2 l2 (.lst [.int 0, .int fine, .int k])) l2 = some (.lst ([0, fine, k].map V.int)) := upd_same
  generalize upd H2 l2 (.lst [.int 0, .int fine, .int k]) = H3 at e3 h3
  have a3 := a2.ext e3
  refine ⟨l1, l2, _, _, rfl, rfl, a3.1, h3, sz (m := 1000) (by simp; omega), fun l3 nl3 => ?_⟩
  have e4 : Ext H3 (upd H3 l3 (.lst ((sh ++ sh).map V.int ++ [0, fine, k].map V.int))) := ext_new nl3
  have a4 : At S (upd H3 l3 (.lst ((sh ++ sh).map V.int ++ [0, fine, k].map V.int))) l3 (.lst (((sh ++ sh) ++ [0, fine, k]).map V.int)) := ⟨by rw [upd_same]; simp, fun z => dm2.ext e3 l3 z nl3⟩
  generalize upd H3 l3 (.lst ((sh ++ sh).map V.int ++ [0, fine, k].map V.int)) = H4 at e4 a4
  have e24 := e3.trans e4
  have dm4 := dm2.ext e24
  refine ⟨S, d, wd, c, n + 1, _, rfl, dm4, da2.ext e24, by show n + 1 ≤ 1099511627776; omega, .inl ⟨l3, _, rfl, a4, by simp, by simp; omega, fun y hy H5 u5 da5 => ?_⟩⟩
  obtain ⟨s, hs, rfl⟩ := List.mem_map.mp hy
  have hs2 : 0 ≤ s ∧ s ≤ fine := by
    simp only [List.mem_append, List.mem_cons, List.not_mem_nil, or_false] at hs
    rcases hs with (hs | hs) | rfl | rfl | rfl
    · exact hsh s hs
    · exact hsh s hs
    · omega
    · omega
    · omega
  have kp5 : Kp S H H5 := ((Kp.ext e1).trans (u2.trans (.ext e24))).trans u5
  have dm5 := dm.kp kp5
  have s5 := src.kp kp5
  refine ⟨_, rfl, by simp [sizeLine_eq], fun l5 nl5 => ?_⟩
  have e6 : Ext H5 (upd H5 l5 (.lst [.str "handed", .str "handed", .str "handed"])) := ext_new nl5
  have h6 : (upd H5 l5 (.lst [.str "handed", .str "handed", .str "handed"])) l5 = some (.lst ((["handed", "handed", "handed"] : List Str).map V.str)) := upd_same
  generalize upd H5 l5 (.lst [.str "handed", .str "handed", .str "handed"]) = H6 at e6 h6
  have s6 := s5.kp (.ext e6)
  have sl := src.sl
  refine ⟨_, rfl, m, _, rfl, dget_str s6.at_.1 src.ks, l5, ps, _, _, rfl, rfl, h6, s6.as_.1, sz (m := 1000) (by simp; omega), fun l7 nl7 => ?_⟩
  have e7 : Ext H6 (upd H6 l7 (.lst ((["handed", "handed", "handed"] : List Str).map V.str ++ so.map V.str))) := ext_new nl7
  have a7 : At S (upd H6 l7 (.lst ((["handed", "handed", "handed"] : List Str).map V.str ++ so.map V.str))) l7 (.lst (((["handed", "handed", "handed"] : List Str) ++ so).map V.str)) := ⟨by rw [upd_same]; simp, fun z => dm5.ext e6 l7 z nl7⟩
  generalize upd H6 l7 (.lst ((["handed", "handed", "handed"] : List Str).map V.str ++ so.map V.str)) = H7 at e7 a7
  have e57 := e6.trans e7
  refine ⟨S, d, wd, c, n + 2, _, rfl, dm5.ext e57, da5.ext e57, by show n + 2 ≤ 1099511627776; omega, .inl ⟨l7, _, rfl, a7, by simp, by simp; omega, fun y hy H8 u8 da8 => ?_⟩⟩
  obtain ⟨t, ht, rfl⟩ := List.mem_map.mp hy
  have nt : Tame t := by
    rcases List.mem_append.mp ht with ht | ht
    · have : t = "handed" := by simpa using ht
      rw [this]
      exact ⟨by decide +kernel, by decide +kernel⟩
    · exact src.nm t ht
  have u58 := (Kp.ext (S := S) e57).trans u8
  have dm8 := dm5.kp u58
  have s8 := s5.kp u58
  refine ⟨_, rfl, _, rfl, _, rfl, _, rfl, m, _, rfl, dget_str s8.at_.1 src.ko, S, d, wd, c, n + 3, odds, rfl, dm8, da8, by show n + 3 ≤ 1099511627776; omega, o1, by omega, fun k1 H9 _ _ u9 da9 => ⟨rfl, ?_⟩⟩
  have s9 := s8.kp u9
  refine ⟨_, rfl, _, rfl, m, _, rfl, dget_str s9.at_.1 src.ko, S, d, wd, c, n + 4, odds, rfl, dm8.kp u9, da9, by show n + 4 ≤ 1099511627776; omega, o1, by omega, fun k2 H10 _ _ u10 da10 => ⟨rfl, ?_⟩⟩
  have kp10 : Kp S H H10 := kp5.trans (u58.trans (u9.trans u10))
  refine ⟨by simp [sizeLine_eq], fun p np => ?_⟩
  exact hQ p ⟨s, t, decide (V.int k1 = V.int 0), decide (V.int k2 = V.int 0)⟩ _ (kp10.add np) (da10.ext (ext_new np)) ⟨upd_same, fun z => dm.kp kp10 p z np⟩ ⟨hs2.1, by show s ≤ 1000; omega, nt.1⟩ hs2.2 nt.2
end
end Ws

set_option Elab.async false
set_option linter.all false
set_option maxRecDepth 100000
set_option maxHeartbeats 4000000
namespace Ws
open PySem PySem.Spec PyProof.Rows L2
theorem paired_at {α β : Type} {R : α → β → Prop} : ∀ {xs : List α} {ys : List β} {i : Nat} {x : α}, Paired R xs ys → xs[i]? = some x → ∃ y, ys[i]? = some y ∧ R x y
  | _, _, _, _, .nil, h => by simp at h
  | _, _, 0, _, .cons r t, h => by
    simp at h
    subst h
    exact ⟨_, by simp, r⟩
  | _, _, i + 1, _, .cons r t, h => by
    obtain ⟨y, h1, h2⟩ := paired_at (i := i) t (by simpa using h)
    exact ⟨y, by simpa using h1, h2⟩
theorem take_one {α : Type} {xs : List α} {i : Nat} {x : α} (h : xs[i]? = some x) : xs.take (i + 1) = xs.take i ++ [x] := by rw [List.take_succ, h]; rfl
section
variable {P : Program} {w : World} {K : PySem.W.Frag} {mg : Str → Option Value} {base : Heap}
theorem okk_Rule_init (x : Fx K mg w) : FnRK P w K mg base CX0 2 (a_Rule_init K) 2 ["mark", "always", "late"] (sp_Rule_init K) := by
  obtain ⟨fd, F⟩ := x.F_Rule_init
  exact rawK (okf_Rule_init F x) (bindsKD F (by simp) fun T kV doc pm an cdv ct us its ws h1 h2 h3 => match us, its, ws, h1, h2, h3 with | [_, _], [_, _, _], [_, _, _], _, _, _ => ⟨_, rfl, rfl⟩)
def sp_l_rules_of (K : PySem.W.Frag) : Sp := fun vs H Q _ => ∃ (S T : Addr → Prop) (a : Addr) (ps : List Addr) (rs : List RuleD), vs = [.ref a] ∧ Dm S H ∧ H a = some (.lst (ps.map V.ref)) ∧ TupsAt T H ps rs ∧ (∀ r ∈ rs, r.ok) ∧ rs.length ≤ 2 ∧
  ∀ l os H', Ext H H' → H l = none → H' l = some (.lst (os.map V.ref)) → RulesAt S K H' os rs → Q (.ref l) H'
theorem sc_l_rules_of : FnScope ["_law_rules_own", "_law_share_own", "_law_tag", "_law_sure", "_law_after"] ["_law_rules_own"] (defScope s_l_rules_of) := ⟨rfl, rfl, rfl, by decide +kernel, rfl, by decide +kernel, by decide +kernel⟩
theorem ok_l_rules_of (x : Fx K mg w) : FnR P w K mg base CX0 4 (a_l_rules_of K) (sp_l_rules_of K) := by
  refine okR x.F_l_rules_of sc_l_rules_of (fun _ _ _ _ _ _ us hl => match us, hl with | [_], _ => rfl) (fun vs H Q E h => by obtain ⟨S, T, a, ps, rs, rfl, dm, ha, ht, ok, hl, hQ⟩ := h; rfl) (fun cdv A outer s H vs Q E hr h => ?_)
  obtain ⟨S, T, a, ps, rs, rfl, dm, ha, ht, ok, hl, hQ⟩ := h
  refine ⟨_, (pss_one (ps_ret (pe_lc (own := [("_law_share_own", 1), ("_law_tag", 2), ("_law_sure", 3), ("_law_after", 4)]) (tt := tYes) rfl sc_l_rules_of.nd (pi_listK (K := K) rfl (pv 0)) (blkOk_by (N := ["_law_rules_own", "_law_share_own", "_law_tag", "_law_sure", "_law_after"]) (sc := defScope s_l_rules_of) (by decide +kernel)) (fun _ _ _ _ _ => (pg_tupK (K := K) (n := 4) rfl rfl (pgs_cons (pg_name (i := 1) sc_l_rules_of.nd rfl (Or.inl rfl)) (pgs_cons (pg_name (i := 2) sc_l_rules_of.nd rfl (Or.inl rfl)) (pgs_cons (pg_name (i := 3) sc_l_rules_of.nd rfl (Or.inl rfl)) (pgs_cons (pg_name (i := 4) sc_l_rules_of.nd rfl (Or.inl rfl)) pgs_nil)))))) (fun _ _ _ _ _ => pts_nil) (fun _ _ _ _ _ => (pe_makeKw x.mk_Rule (okk_Rule_init x) (hr.mono (by decide)) rfl x.m_Rule pass0 (pa_cons (pv 1) pa_nil) (pk_cons (pv 2) (pk_cons (pv 3) (pk_cons (pv 4) pk_nil)))))))), ?_⟩
  have lp := ht.length
  refine ⟨_, rfl, a, rfl, ⟨_, .of ha⟩, fun D hD => lc_std (S := no) (H0 := H) (std_list (.of ha) (fun z => z)) (fun i H' => Ext H H' ∧ ∃ os, H' D = some (.lst (os.map V.ref)) ∧ RulesAt S K H' os (rs.take i)) ⟨ext_new hD, [], upd_same, .nil⟩ (fun i H' h => .ext h.1) (fun i y H1 hy ⟨e1, os, hD1, ro⟩ => ?_) (fun H1 ⟨e1, os, hD1, ro⟩ => ?_)⟩
  · obtain ⟨p, hp, rfl⟩ : ∃ p, ps[i]? = some p ∧ y = .ref p := by
      rw [List.getElem?_map] at hy
      cases q : ps[i]? with
      | none => rw [q] at hy; cases hy
      | some p => rw [q] at hy; exact ⟨p, rfl, (Option.some.inj hy).symm⟩
    obtain ⟨r, hr1, hp2⟩ := paired_at ht hp
    refine ⟨p, _, rfl, .of (e1 _ _ hp2.1), rfl, _, _, rfl, _, _, rfl, _, _, rfl, _, _, rfl, rfl, rfl, ?_⟩
    refine ⟨_, rfl, _, rfl, _, rfl, _, rfl, rfl, rfl, make_rule (K := K) (dm.ext e1) (ok r (List.mem_of_getElem? hr1)) fun q H2 e2 tq => ?_⟩
    have lo := ro.length
    have lt := List.length_take_le i rs
    have e12 := e1.trans e2
    refine ⟨_, e2 _ _ hD1, ?_, fun c u h => ?_, os ++ [q], by rw [upd_same, List.map_append]; rfl, ?_⟩
    · have := line1001
      simp only [List.length_map]
      have : (rs.take i).length ≤ rs.length := List.length_take_le' _ _
      omega
    · rw [upd_ne (ne_of_none h hD)]
      exact e12 _ _ h
    · rw [take_one hr1]
      have uD : ∀ {b : Addr} {u : HO}, At S H2 b u → (∀ xs, u ≠ .lst xs) → At S (upd H2 D (.lst (os.map V.ref ++ [.ref q]))) b u := fun {b u} h n => ⟨by rw [upd_ne (ne_of h.1 (e2 _ _ hD1) (n _))]; exact h.1, h.2⟩
      have rD : ∀ {b : Addr} {r : RuleD}, RuleAt S K H2 b r → RuleAt S K (upd H2 D (.lst (os.map V.ref ++ [.ref q]))) b r := fun {b r} h => by
        obtain ⟨g, dx, pp, h1, h2⟩ := h
        exact ⟨g, dx, pp, uD h1 (by simp), uD h2 (by simp)⟩
      exact paired_app (Paired.mapP ro fun _ _ z => rD (z.ext e2)) (.cons (rD tq) .nil)
  · have e : rs.take (ps.map V.ref).length = rs := List.take_of_length_le (by rw [List.length_map]; omega)
    rw [e] at ro
    exact hQ D os H1 e1 hD hD1 ro
/-- what a model's net is -/
def NormN (md n : NetD) : Prop := ∃ hs : Hs, Paired (fun p q => q.1 = p.1 ∧ Made p.2 q.2) md.houses hs ∧ NetMade { md with houses := hs } n
theorem norm_rules {a b : Hs} (h : Paired (fun (p q : Str × HouseD) => q.1 = p.1 ∧ Made p.2 q.2) a b) : b.map (·.1) = a.map (·.1) := by
  induction h with
  | nil => rfl
  | cons r t ih => rw [List.map_cons, List.map_cons, r.1, ih]
theorem paired_memR {α β : Type} {R : α → β → Prop} : ∀ {xs : List α} {ys : List β} {b : β}, Paired R xs ys → b ∈ ys → ∃ a, a ∈ xs ∧ R a b
  | _, _, _, .nil, h => by simp at h
  | _, _, _, .cons r t, h => by
    rcases List.mem_cons.mp h with rfl | h
    · exact ⟨_, List.mem_cons_self, r⟩
    · obtain ⟨b, h1, h2⟩ := paired_memR t h
      exact ⟨b, List.mem_cons_of_mem _ h1, h2⟩
theorem norm_fit {md : NetD} {hs : Hs} (f : md.Fit) (h : Paired (fun (p q : Str × HouseD) => q.1 = p.1 ∧ Made p.2 q.2) md.houses hs) : NetD.Fit { md with houses := hs } := by
  have k := norm_rules h
  have l := Paired.length h
  refine ⟨f.f1, f.f2, ⟨by show 1 ≤ hs.length; rw [← l]; exact f.hs.l1, by show hs.length ≤ 8; rw [← l]; exact f.hs.l2, fun q hq => ?_, by show (hs.map (·.1)).Nodup; rw [k]; exact f.hs.nd, fun q hq r hr => ?_, fun q hq z hz => ?_⟩, f.e0, f.nd, fun z hz => by show z ∈ hs.map (·.1); rw [k]; exact f.sub z hz, f.ln⟩
  · obtain ⟨p, hp, e, m⟩ := paired_memR h hq
    rw [e]; exact f.hs.nm p hp
  · obtain ⟨p, hp, e, m⟩ := paired_memR h hq
    rw [m.rules] at hr
    exact f.hs.sh p hp r hr
  · obtain ⟨p, hp, e, m⟩ := paired_memR h hq
    show z ∈ hs.map (·.1)
    rw [k]
    exact f.hs.cl p hp z (m.calls.mem_iff.mp hz)
theorem mod_get {f od : Int} {ph ps pe : Addr} : valV (modK f ph ps od pe) (Sum.inr "fine") = some (.int f) ∧ valV (modK f ph ps od pe) (Sum.inr "houses") = some (.ref ph) ∧ valV (modK f ph ps od pe) (Sum.inr "some") = some (.ref ps) ∧
    valV (modK f ph ps od pe) (Sum.inr "odds") = some (.int od) ∧ valV (modK f ph ps od pe) (Sum.inr "entries") = some (.ref pe) := ⟨rfl, rfl, rfl, rfl, rfl⟩
theorem hd_get {pr pc pl : Addr} {f : Bool} : valV (hdK pr pc pl f) (Sum.inr "rules") = some (.ref pr) ∧ valV (hdK pr pc pl f) (Sum.inr "calls") = some (.ref pc) ∧ valV (hdK pr pc pl f) (Sum.inr "lost") = some (.ref pl) ∧ valV (hdK pr pc pl f) (Sum.inr "fails") = some (.bl f) := ⟨rfl, rfl, rfl, rfl⟩
theorem dget_rd {H : Hp} {a : Addr} {kvs : List (Key × V)} {n : Str} {v : V} (e : Rd H a (.dK kvs)) (hv : valV kvs (Sum.inr n) = some v) : DGet H a (.str n) (some v) := .inl ⟨kvs, Sum.inr n, e, rfl, hv.symm⟩
end
end Ws

set_option Elab.async false
set_option linter.all false
set_option maxRecDepth 100000
set_option maxHeartbeats 4000000
namespace Ws
open PySem PySem.Spec PyProof.Rows L2
section
variable {S : Addr → Prop} {K : PySem.W.Frag} {H H1 : Hp} {a o q m ph : Addr} {kvs : List (Key × V)} {hs : Hs} {od : Obj} {v : HO}
theorem hds_refs (h : HdsAt S H kvs hs) : ∀ kv ∈ kvs, ∃ a, kv.2 = .ref a := fun kv hk => by
  obtain ⟨nh, _, _, a, h2, _⟩ := paired_mem h hk
  exact ⟨a, h2⟩
theorem hds_ne_hd (h : HdsAt S H kvs hs) {pr pc pl : Addr} {f : Bool} : kvs ≠ hdK pr pc pl f := fun e => by
  obtain ⟨a, z⟩ := hds_refs h (Sum.inr "fails", .bl f) (by rw [e]; simp [hdK])
  cases z
theorem hds_ne_mod (h : HdsAt S H kvs hs) {f od : Int} {ph ps pe : Addr} : kvs ≠ modK f ph ps od pe := fun e => by
  obtain ⟨a, z⟩ := hds_refs h (Sum.inr "fine", .int f) (by rw [e]; simp [modK])
  cases z
/-- a model's house while the dict of the houses is locked, or anything else there is changed -/
theorem HdAt.lk {h : HouseD} (t : HdAt S H a h) (ho : H o = some v) (e : Kp (one o) H H1) (n1 : ∀ pr pc pl f, v ≠ .dK (hdK pr pc pl f)) (n2 : ∀ xs, v ≠ .lst xs) (n3 : ∀ xs, v ≠ .tup xs) : HdAt S H1 a h := by
  obtain ⟨pr, pc, pl, os, h1, h2, h3, h4, h5⟩ := t
  exact ⟨pr, pc, pl, os, h1.off ho (fun z => n1 _ _ _ _ z.symm) e, h2.off ho (fun z => n2 _ z.symm) e, Paired.mapP h3 fun _ _ z => z.off ho (fun z => n3 _ z.symm) e, h4.off ho (fun z => n2 _ z.symm) e, h5.off ho (fun z => n2 _ z.symm) e⟩
theorem RuleAt.lk {r : RuleD} (h : RuleAt S K H a r) (ho : H o = some v) (e : Kp (one o) H H1) (n1 : ∀ C dx fs, v ≠ .ins C dx fs) (n3 : ∀ xs, v ≠ .tup xs) : RuleAt S K H1 a r := by
  obtain ⟨g, dx, p, h1, h2⟩ := h
  exact ⟨g, dx, p, h1.off ho (fun z => n1 _ _ _ z.symm) e, h2.off ho (fun z => n3 _ z.symm) e⟩
theorem HouseAt.lk {h : HouseD} (t : HouseAt S K H a h) (ho : H o = some v) (e : Kp (one o) H H1) (n1 : ∀ C dx fs, v ≠ .ins C dx fs) (n3 : ∀ xs, v ≠ .tup xs) : HouseAt S K H1 a h := by
  obtain ⟨f, s1, s2, dx, pr, pc, pl, os, h1, h2, h3, h4, h5⟩ := t
  exact ⟨f, s1, s2, dx, pr, pc, pl, os, h1.off ho (fun z => n1 _ _ _ z.symm) e, h2.off ho (fun z => n3 _ z.symm) e, Paired.mapP h3 fun _ _ z => z.lk ho e n1 n3, h4.off ho (fun z => n3 _ z.symm) e, h5.off ho (fun z => n3 _ z.symm) e⟩
theorem HousesAt.lk {h : HouseD} (t : HousesAt S K H kvs hs) (ho : H o = some v) (e : Kp (one o) H H1) (n1 : ∀ C dx fs, v ≠ .ins C dx fs) (n3 : ∀ xs, v ≠ .tup xs) : HousesAt S K H1 kvs hs := Paired.mapP t fun kv nh ⟨h1, a, h2, h3⟩ => ⟨h1, a, h2, h3.lk ho e n1 n3⟩
end
section
variable {P : Program} {w : World} {K : PySem.W.Frag} {mg : Str → Option Value} {base : Heap}
def sp_l_net (K : PySem.W.Frag) : Sp := fun vs H Q _ => ∃ (S : Addr → Prop) (m : Addr) (md : ModelD), vs = [.ref m] ∧ Dm S H ∧ ModelAt S H m md ∧ md.Fit ∧ ∀ r n H', Ext H H' → NormN md.net n → NetAt S K H' r n → Q (.ref r) H'
theorem sc_l_net : FnScope ["_law_model_here", "_law_made", "_law_name", "_law_one"] ["_law_model_here"] (defScope s_l_net) := ⟨rfl, rfl, rfl, by decide +kernel, rfl, by decide +kernel, by decide +kernel⟩
theorem ok_l_net (x : Fx K mg w) : FnR P w K mg base CX0 6 (a_l_net K) (sp_l_net K) := by
  refine okR x.F_l_net sc_l_net (fun _ _ _ _ _ _ us hl => match us, hl with | [_], _ => rfl) (fun vs H Q E h => by obtain ⟨S, m, md, rfl, dm, ma, f, hQ⟩ := h; rfl) (fun cdv A outer s H vs Q E hr h => ?_)
  obtain ⟨S, m, md, rfl, dm, ma, f, hQ⟩ := h
  refine ⟨_, (pss_cons (ps_set (i := 1) sc_l_net.nd rfl (Or.inl rfl) pe_dnewK)
 (pss_cons (ps_lock (ps_for PassesOwn.never rfl (pi_keys (pe_dget (hu_of hr) (pv 0) pe_str (fun _ _ => rfl))) (pg_name (i := 2) sc_l_net.nd rfl (Or.inl rfl))
 (pss_cons (ps_set (i := 3) sc_l_net.nd rfl (Or.inl rfl) (pe_dget (hu_of hr) (pe_dget (hu_of hr) (pv 0) pe_str (fun _ _ => rfl)) (pv 2) (fun _ _ => rfl)))
 (pss_one (ps_dput (hu_of hr) (pv 1) (pv 2) (StX.pe_makeR x.mk_House (ok_House_init x) (hr.mono (by decide)) rfl x.m_House pass0 (pa_cons (pe_callR (ok_l_rules_of x) (hr.mono (by decide)) rfl x.m_l_rules_of (keep_of x.F_l_rules_of) pass0 (pa_cons (pe_dget (hu_of hr) (pv 3) pe_str (fun _ _ => rfl)) pa_nil)) (pa_cons (pe_dget (hu_of hr) (pv 3) pe_str (fun _ _ => rfl)) (pa_cons (pe_dget (hu_of hr) (pv 3) pe_str (fun _ _ => rfl)) (pa_cons (pe_dget (hu_of hr) (pv 3) pe_str (fun _ _ => rfl)) pa_nil))))) rfl)))))
 (pss_one (ps_ret (StX.pe_makeR x.mk_Net (ok_Net_init x) (hr.mono (by decide)) rfl x.m_Net pass0 (pa_cons (pe_dget (hu_of hr) (pv 0) pe_str (fun _ _ => rfl)) (pa_cons (pv 1) (pa_cons (pe_dget (hu_of hr) (pv 0) pe_str (fun _ _ => rfl)) pa_nil)))))))), ?_⟩
  obtain ⟨ph, ps, pe, kvs, m1, m2, m3, m4, m5⟩ := id ma
  refine fun D hD => ?_
  have e1 : Ext H (upd H D (.dK [])) := ext_new hD
  have d1 : (upd H D (.dK [])) D = some (.dK []) := upd_same
  dsimp only [gName]
  generalize upd H D (.dK []) = H1 at e1 d1
  have p1 := e1 _ _ m2.1
  have k1 : Kp (one D) H H1 := .ext e1
  have n1 : ph ≠ D := ne_of_none m2.1 hD
  refine ⟨ph, _, p1, True.intro, fun od => ?_⟩
  have lkd : Kp (one ph) H1 (upd H1 ph (.frz od (.dK kvs))) := Kp.refl.put rfl
  have pf : (upd H1 ph (.frz od (.dK kvs))) ph = some (.frz od (.dK kvs)) := upd_same
  have df : (upd H1 ph (.frz od (.dK kvs))) D = some (.dK []) := by rw [upd_ne (Ne.symm n1)]; exact d1
  have mf : (upd H1 ph (.frz od (.dK kvs))) m = some (.dK (modK md.fine ph ps md.odds pe)) := by
    rw [upd_ne (ne_of m1.1 m2.1 (by intro z; injection z with z; exact hds_ne_mod m3 z.symm))]
    exact e1 _ _ m1.1
  have hdf : ∀ n ∈ md.houses.map (·.1), ∃ a, valV kvs (Sum.inr n) = some (.ref a) ∧ HdAt S (upd H1 ph (.frz od (.dK kvs))) a (getH md.houses n) := fun n hn => by
    obtain ⟨a, h1, h2⟩ := m3.at_ n hn
    exact ⟨a, h1, (h2.ext e1).lk p1 lkd (fun pr pc pl f z => by injection z with z; exact hds_ne_hd m3 z) (by simp) (by simp)⟩
  have dmf : Dm S (upd H1 ph (.frz od (.dK kvs))) := (dm.ext e1).kp lkd
  have back : ∀ H', Kp (one D) (upd H1 ph (.frz od (.dK kvs))) H' → Ext H (upd H' ph (.dK kvs)) := fun H' u b x hb => by
    by_cases z : b = ph
    · subst z
      rw [m2.1] at hb
      rw [upd_same]; exact hb
    · rw [upd_ne z]
      refine u.keep b x ?_ (ne_of_none hb hD)
      rw [upd_ne z]
      exact e1 _ _ hb
  generalize upd H1 ph (.frz od (.dK kvs)) = Hf at pf df mf hdf dmf back lkd
  have lk := Paired.length m3
  refine ⟨_, rfl, m, _, rfl, dget_str mf mod_get.2.1, ph, od, rfl, .inl ⟨kvs, pf, for_std (S := one D) (std_keys pf n1) (fun i σ H' => Kp (one D) Hf H' ∧ ∃ mk hs, H' D = some (.dK mk) ∧ HousesAt S K H' mk hs ∧ Paired (fun (p q : Str × HouseD) => q.1 = p.1 ∧ Made p.2 q.2) (md.houses.take i) hs ∧ ∃ v1 v2, σ = [some (.ref m), some (.ref D), v1, v2])
    ⟨Kp.refl, [], [], df, .nil, .nil, none, none, rfl⟩ (fun i σ H' h => h.1) (fun i y σ H2 hy ⟨u, mk, hs, hD2, hh, pr, v1, v2, hσ⟩ => ?_) (fun σ H2 ⟨u, mk, hs, hD2, hh, pr, v1, v2, hσ⟩ => ?_)⟩⟩
  · subst hσ
    obtain ⟨p, hp, rfl⟩ : ∃ p, md.houses[i]? = some p ∧ y = .str p.1 := by
      rw [List.getElem?_map] at hy
      cases q : kvs[i]? with
      | none => rw [q] at hy; cases hy
      | some kv =>
        rw [q] at hy
        obtain ⟨p, hp, e, _⟩ := paired_at m3 q
        refine ⟨p, hp, ?_⟩
        rw [← Option.some.inj hy]
        show kV kv.1 = V.str p.1
        rw [e]
        rfl
    have pm := List.mem_of_getElem? hp
    have hn : p.1 ∈ md.houses.map (·.1) := List.mem_map.mpr ⟨p, pm, rfl⟩
    have eg : getH md.houses p.1 = p.2 := getH_of f.net.hs.nd pm
    obtain ⟨a, hv, ht⟩ := hdf p.1 hn
    rw [eg] at ht
    have ht2 : HdAt S H2 a p.2 := by
      obtain ⟨qr, qc, ql, os, h1, h2, h3, h4, h5⟩ := ht
      have nD : ∀ {b : Addr} {x : HO}, At S Hf b x → x ≠ .dK [] → At S H2 b x := fun {b x} h n => h.off df n u
      exact ⟨qr, qc, ql, os, nD h1 (by simp [hdK]), nD h2 (by simp), Paired.mapP h3 fun _ _ z => nD z (by simp), nD h4 (by simp), nD h5 (by simp)⟩
    obtain ⟨qr, qc, ql, os, h1, h2, h3, h4, h5⟩ := id ht2
    have pf2 := u.keep _ _ pf n1
    have mf2 : H2 m = some (.dK (modK md.fine ph ps md.odds pe)) := u.keep _ _ mf (ne_of mf df (by simp [modK]))
    have dm2 : Dm S H2 := dmf.kp u
    refine ⟨_, rfl, m, _, rfl, dget_str mf2 mod_get.2.1, _, rfl, ph, _, rfl, dget_rd (.inr ⟨od, pf2⟩) hv, ?_⟩
    refine ⟨_, rfl, a, _, rfl, dget_str h1.1 hd_get.1, S, S, qr, os, p.2.rules, rfl, dm2, h2.1, h3, (f.hs p pm).2, (f.hs p pm).1.r2, fun l os' H3 e3 nl hl ro => ?_⟩
    refine ⟨_, rfl, a, _, rfl, dget_str (e3 _ _ h1.1) hd_get.2.1, _, rfl, a, _, rfl, dget_str (e3 _ _ h1.1) hd_get.2.2.1, _, rfl, a, _, rfl, dget_str (e3 _ _ h1.1) hd_get.2.2.2, ?_⟩
    refine make_house (K := K) (m := p.2) (dm2.ext e3) (.inl hl) ro (.inl (.inl (e3 _ _ h4.1))) (.inl (.inl (e3 _ _ h5.1))) (f.hs p pm).1 fun r H4 h' e4 mdh tr => ?_
    have e24 := e3.trans e4
    have hD4 := e24 _ _ hD2
    have lm : mk.length = i := by
      have := Paired.length hh
      have := Paired.length pr
      have := (List.getElem?_eq_some_iff.mp hp).1
      simp only [List.length_take] at *
      omega
    have i8 : i < md.houses.length := (List.getElem?_eq_some_iff.mp hp).1
    have l8 := f.net.hs.l2
    have l8 : md.houses.length ≤ 8 := l8
    have newk : valV mk (Sum.inr p.1) = none := by
      cases q : valV mk (Sum.inr p.1) with
      | none => rfl
      | some v =>
        have hin := hh.in_ p.1
        rw [q] at hin
        have hmem : p.1 ∈ hs.map (·.1) := of_decide_eq_true hin.symm
        rw [norm_rules pr] at hmem
        have nd : (md.houses.map (·.1)).Nodup := f.net.hs.nd
        have tk := take_one hp
        have : ((md.houses.take (i + 1)).map (·.1)).Nodup := by
          rw [List.map_take]
          exact nd.sublist (List.take_sublist _ _)
        rw [tk, List.map_append, List.nodup_append] at this
        exact absurd rfl (this.2.2 _ hmem _ (by simp))
    refine ⟨_, rfl, _, rfl, D, _, rfl, dput_str hD4 (by omega), ?_⟩
    rw [putK_new _ newk]
    have uD : Kp (one D) H4 (upd H4 D (.dK (mk ++ [(Sum.inr p.1, .ref r)]))) := Kp.refl.put rfl
    refine ⟨(u.trans (.ext e24)).trans uD, _, hs ++ [(p.1, h')], upd_same, paired_app ((hh.ext e24).lk (h := h') hD4 uD (by simp) (by simp)) (.cons ⟨rfl, r, rfl, tr.lk hD4 uD (by simp) (by simp)⟩ .nil), ?_, _, _, rfl⟩
    rw [take_one hp]
    exact paired_app pr (.cons ⟨rfl, mdh⟩ .nil)
  · subst hσ
    have e : md.houses.take (kvs.map fun kv => kV kv.1).length = md.houses := List.take_of_length_le (by rw [List.length_map]; omega)
    rw [e] at pr
    have pf2 := u.keep _ _ pf n1
    refine ⟨pf2, ?_⟩
    have eb := back H2 u
    have uP : Kp (one ph) H2 (upd H2 ph (.dK kvs)) := Kp.refl.put rfl
    have hD3 : (upd H2 ph (.dK kvs)) D = some (.dK mk) := by rw [upd_ne (Ne.symm n1)]; exact hD2
    have hh3 := hh.lk (h := ⟨[], [], [], false⟩) pf2 uP (by simp) (by simp)
    have dm3 : Dm S (upd H2 ph (.dK kvs)) := dm.ext eb
    generalize upd H2 ph (.dK kvs) = H3 at eb uP hD3 hh3 dm3
    refine ⟨_, rfl, m, _, rfl, dget_str (eb _ _ m1.1) mod_get.1, _, rfl, _, rfl, m, _, rfl, dget_str (eb _ _ m1.1) mod_get.2.2.2.2, ?_⟩
    exact make_net (K := K) (m := { md.net with houses := hs }) dm3 hD3 hh3 (.inl (.inl (eb _ _ m5.1))) (norm_fit f.net pr) fun r H4 n e4 nm tn => hQ r n H4 (eb.trans e4) ⟨hs, pr, nm⟩ tn
end
end Ws

set_option Elab.async false
set_option linter.all false
set_option maxRecDepth 100000
set_option maxHeartbeats 8000000
namespace Ws
open PySem PySem.Spec PyProof.Rows L2
theorem for_enum {S : Addr → Prop} {K : PySem.W.Frag} {a : Addr} {H0 : Hp} {xs : List V} {g : TG} {tb : TS} {D : Ends} {σ : L2.St} {H : Hp} (ha : SqL K H0 a xs) (na : ¬ S a) (Pv : Nat → L2.St → Hp → Prop) (h0 : Pv 0 σ H) (hk : ∀ i σ H, Pv i σ H → Kp S H0 H)
    (hs : ∀ i x σ H T, xs[i]? = some x → Pv i σ H → H T = none → g (.ref T) σ (upd H T (.tup [.int (i : Nat), x])) fun σ2 H2 => tb { D with nx := Pv (i + 1), ct := Pv (i + 1), bk := D.nx } σ2 H2) (hd : ∀ σ H, Pv xs.length σ H → D.nx σ H) :
    ∃ W : Nat → Nat → L2.St → Hp → Prop, (∃ m, W 0 m σ H) ∧ ∀ i m σ H, W i m σ H →
      ((Ite K a).stop i H ∧ D.nx σ H) ∨ ((Ite K a).go i H ∧ ∃ N : L2.St → Hp → Prop, (∀ σ' H', N σ' H' → ∃ m', m' < m ∧ W (i + 1) m' σ' H') ∧ ∀ x H', (Ite K a).yld i H x H' → g x σ H' fun σ2 H2 => tb { D with nx := N, ct := N, bk := D.nx } σ2 H2) := by
  refine ⟨fun i m σ H => m = xs.length - i ∧ i ≤ xs.length ∧ Pv i σ H, ⟨_, rfl, Nat.zero_le _, h0⟩, fun i m σ H ⟨em, le, h⟩ => ?_⟩
  have h' := sqL_kp ha na (hk _ _ _ h)
  by_cases e : i = xs.length
  · exact .inl ⟨⟨xs, h', by omega⟩, hd σ H (e ▸ h)⟩
  · have lt : i < xs.length := by omega
    have hx := List.getElem?_eq_getElem lt
    refine .inr ⟨⟨xs, _, h', hx⟩, fun σ' H' => Pv (i + 1) σ' H', fun σ' H' h' => ⟨_, by omega, rfl, by omega, h'⟩, fun x H' y => ?_⟩
    obtain ⟨T, z, rfl, nT, rfl, hz⟩ := y
    have := hz xs h'
    exact hs i z σ _ T this h nT
section
variable {S : Addr → Prop} {J : It} {H0 H1 : Hp} {g : TG} {tt : TT} {te : TE} {vs : List Nat} {σ : L2.St} {d wd c D : Addr} {n : Nat} {Qd : Hp → Prop}
/-- words kept as a draw says -/
theorem lc_drawn {ys : List Str} (st : Std S J H1 (ys.map V.str)) (dm : Dm S H1) (da : DrawAt S H1 d wd c n) (hD : H1 D = none) (hl : ys.length ≤ 64)
    (hs : ∀ y i H (Nx : Hp → Prop), y ∈ ys → i < ys.length → Kp S H1 H → Dm S H → DrawAt S H d wd c (n + i) →
      (∀ H3, Kp S H H3 → DrawAt S H3 d wd c (n + i + 1) → ∃ acc, H3 D = some (.lst acc) ∧ acc.length < sizeLine ∧ Nx (upd H3 D (.lst (acc ++ [.str y])))) → (∀ H3, Kp S H H3 → DrawAt S H3 d wd c (n + i + 1) → Nx H3) →
      g (.str y) (wipe σ vs) H fun σ2 H2 => wipe σ2 vs = wipe σ vs ∧ tt σ2 H2 fun b H3 =>
        if b = true then te σ2 H3 fun y H4 => ∃ acc, H4 D = some (.lst acc) ∧ acc.length < sizeLine ∧ Nx (upd H4 D (.lst (acc ++ [y]))) else Nx H3)
    (hd : ∀ H (zs : List Str), Kp S H1 H → DrawAt S H d wd c (n + ys.length) → At S H D (.lst (zs.map V.str)) → zs.Sublist ys → Qd H) :
    ∃ W : Nat → Nat → Hp → Prop, (∃ m, W 0 m (upd H1 D (.lst []))) ∧ ∀ i m H, W i m H →
      (J.stop i H ∧ Qd H) ∨ (J.go i H ∧ ∃ Nx : Hp → Prop, (∀ H', Nx H' → ∃ m', m' < m ∧ W (i + 1) m' H') ∧ ∀ x H', J.yld i H x H' → g x (wipe σ vs) H' fun σ2 H2 => wipe σ2 vs = wipe σ vs ∧ tt σ2 H2 fun b H3 =>
        if b = true then te σ2 H3 fun y H4 => ∃ acc, H4 D = some (.lst acc) ∧ acc.length < sizeLine ∧ Nx (upd H4 D (.lst (acc ++ [y]))) else Nx H3) := by
  have nD : ¬ S D := fun z => dm D z hD
  obtain ⟨qd, qw, qc⟩ := da.ne hD
  refine lc_std st (fun i H => Kp S H1 H ∧ DrawAt S H d wd c (n + i) ∧ ∃ zs : List Str, H D = some (.lst (zs.map V.str)) ∧ zs.Sublist (ys.take i)) ⟨.new hD, da.ext (ext_new hD), [], upd_same, by simp⟩ (fun i H h => h.1) (fun i x H e ⟨u, da', zs, hz, sub⟩ => ?_) (fun H ⟨u, da', zs, hz, sub⟩ => ?_)
  · obtain ⟨y, hy, rfl⟩ : ∃ y, ys[i]? = some y ∧ x = .str y := by
      rw [List.getElem?_map] at e
      cases q : ys[i]? with
      | none => rw [q] at e; cases e
      | some y => rw [q] at e; exact ⟨y, rfl, (Option.some.inj e).symm⟩
    have hi := (List.getElem?_eq_some_iff.mp hy).1
    have lz := sub.length_le
    have lt : (ys.take i).length ≤ ys.length := List.length_take_le' _ _
    refine hs y i H _ (List.mem_of_getElem? hy) hi u (dm.kp u) da' (fun H3 u3 da3 => ?_) fun H3 u3 da3 => ?_
    · have h3 := u3.keep _ _ hz nD
      have uD : Kp (one D) H3 (upd H3 D (.lst (zs.map V.str ++ [.str y]))) := Kp.refl.put rfl
      refine ⟨_, h3, ?_, ⟨fun a o h ns => ?_, fun a h => ?_⟩, da3.kp uD qd qw qc, zs ++ [y], by rw [upd_same]; simp, ?_⟩
      · have := line1001
        rw [List.length_map]
        omega
      · rw [upd_ne (ne_of_none h hD)]
        exact (u.trans u3).keep a o h ns
      · exact uD.dom a ((u.trans u3).dom a h)
      · rw [take_one hy]
        exact sub.append (List.Sublist.refl _)
    · refine ⟨u.trans u3, da3, zs, u3.keep _ _ hz nD, ?_⟩
      rw [take_one hy]
      exact sub.trans (List.sublist_append_left _ _)
  · rw [List.length_map] at da' sub
    rw [List.take_length] at sub
    exact hd H zs u da' ⟨hz, nD⟩ sub
end
section
variable {P : Program} {w : World} {K : PySem.W.Frag} {mg : Str → Option Value} {base : Heap}
theorem pick_new {S : Addr → Prop} {H : Hp} {d wd c : Addr} {n : Nat} {Q : VK} {E : XK} (xs : List V) (dm : Dm S H) (da : DrawAt S H d wd c n) (hn : n ≤ big) (h0 : xs ≠ []) (hl : xs.length ≤ 1000)
    (k : ∀ y ∈ xs, ∀ H', Kp S H H' → DrawAt S H' d wd c (n + 1) → Q y H') : xs.length ≤ sizeLine ∧ ∀ p, H p = none → sp_l_pick [.ref d, .ref p] (upd H p (.lst xs)) Q E :=
  ⟨Nat.le_trans hl (Nat.le_of_lt line1001), fun p np => ⟨S, d, wd, c, n, _, rfl, dm.ext (ext_new np), da.ext (ext_new np), hn, .inl ⟨p, xs, rfl, ⟨upd_same, fun z => dm p z np⟩, h0, hl, fun y hy H' u da' => k y hy H' ((Kp.ext (ext_new np)).trans u) da'⟩⟩⟩
theorem kp_put_new {S : Addr → Prop} {H H' : Hp} {a : Addr} {o : HO} (u : Kp S H H') (h : H a = none) : Kp S H (upd H' a o) := ⟨fun b x hb ns => by
  rw [upd_ne (ne_of_none hb h)]
  exact u.keep b x hb ns, fun b hb => by
  by_cases z : b = a
  · subst z; rw [upd_same]; exact fun z => nomatch z
  · rw [upd_ne z]; exact u.dom b hb⟩
theorem kp_none {S : Addr → Prop} {H H' : Hp} {a : Addr} (u : Kp S H H') (h : H' a = none) : H a = none := by
  cases q : H a with
  | none => rfl
  | some x => exact absurd h (u.dom a (by rw [q]; exact fun z => nomatch z))
/-- under a change of what was new -/
theorem DrawAt.putn {S : Addr → Prop} {H' : Hp} {d w c a : Addr} {n : Nat} {o : HO} (h : DrawAt S H' d w c n) (q : d ≠ a ∧ w ≠ a ∧ c ≠ a) : DrawAt S (upd H' a o) d w c n := h.kp (T := one a) (Kp.refl.put rfl) q.1 q.2.1 q.2.2
def modP (f : Int) (ph ps : Addr) : List (Key × V) := [(Sum.inr "fine", .int f), (Sum.inr "houses", .ref ph), (Sum.inr "some", .ref ps)]
def modO (f : Int) (ph ps : Addr) (od : Int) : List (Key × V) := [(Sum.inr "fine", .int f), (Sum.inr "houses", .ref ph), (Sum.inr "some", .ref ps), (Sum.inr "odds", .int od)]
theorem modO_get {f od : Int} {ph ps : Addr} : valV (modO f ph ps od) (Sum.inr "fine") = some (.int f) ∧ valV (modO f ph ps od) (Sum.inr "houses") = some (.ref ph) ∧ valV (modO f ph ps od) (Sum.inr "some") = some (.ref ps) ∧ valV (modO f ph ps od) (Sum.inr "odds") = some (.int od) := ⟨rfl, rfl, rfl, rfl⟩
theorem valV_none {kvs : List (Key × V)} {k : Key} (h : k ∉ kvs.map (·.1)) : valV kvs k = none := by
  unfold valV
  have : kvs.find? (fun kv => decide (kv.1 = k)) = none := List.find?_eq_none.mpr fun kv hk z => h (List.mem_map.mpr ⟨kv, hk, of_decide_eq_true z⟩)
  rw [this]
  rfl
theorem take_new {α : Type} {xs : List α} {i : Nat} {x : α} (nd : xs.Nodup) (h : xs[i]? = some x) : x ∉ xs.take i := fun hm => by
  have : (xs.take (i + 1)).Nodup := nd.sublist (List.take_sublist _ _)
  rw [take_one h, List.nodup_append] at this
  exact absurd rfl (this.2.2 _ hm _ (by simp))
/-- one of two ways, then on alike -/
theorem tif_go {t : TT} {ta tb : TE} {σ : L2.St} {H : Hp} {Q : VK} (I : V → Hp → Prop) (tail : ∀ v H', I v H' → Q v H') (h : (∀ v H', I v H' → Q v H') → t σ H fun c H1 => if c = true then ta σ H1 Q else tb σ H1 Q) : tIf t ta tb σ H Q := h tail
/-- a drawn house -/
structure Good (nms : List Str) (fine : Int) (h : HouseD) : Prop where
  fit : h.Fit
  ok : ∀ r ∈ h.rules, r.ok ∧ r.share ≤ fine ∧ r.mark ≠ "qqq"
  cl : ∀ z ∈ h.calls, z ∈ nms
theorem hdsat_lk {S : Addr → Prop} {H H1 : Hp} {kvs : List (Key × V)} {hs : Hs} {o : Addr} {v : HO} (t : HdsAt S H kvs hs) (ho : H o = some v) (e : Kp (one o) H H1) (n1 : ∀ pr pc pl f, v ≠ .dK (hdK pr pc pl f)) (n2 : ∀ xs, v ≠ .lst xs) (n3 : ∀ xs, v ≠ .tup xs) : HdsAt S H1 kvs hs := Paired.mapP t fun kv nh ⟨h1, a, h2, h3⟩ => ⟨h1, a, h2, h3.lk ho e n1 n2 n3⟩
theorem cut_from {xs : List V} {j : Nat} (h : j ≤ xs.length) : cutV xs (some (j : Int)) none = xs.drop j := by
  unfold cutV
  rw [HT.sIx_nat, show HT.sIx xs.length xs.length none = xs.length from rfl, Nat.min_eq_left h, List.take_of_length_le (by rw [List.length_drop]; exact Nat.le_refl _)]
def sp_l_model : Sp := fun vs H Q _ => ∃ (S : Addr → Prop) (d wd c : Addr) (n most : Nat), vs = [.ref d, .int (most : Nat)] ∧ Dm S H ∧ DrawAt S H d wd c n ∧ n + 400 ≤ big ∧ 1 ≤ most ∧ most ≤ 8 ∧
  ∀ (m : Addr) (md : ModelD) (H' : Hp), Kp S H H' → DrawAt S H' d wd c (n + 300) → ModelAt S H' m md → md.Fit → md.houses.length ≤ most → (∀ p ∈ md.houses, ∀ r ∈ p.2.rules, r.mark ≠ "qqq") → Q (.ref m) H'
theorem sc_l_model : FnScope ["_law_draw", "_law_most", "_law_names_own", "_law_fine_own", "_law_model_here", "_law_shares", "_law_houses", "_law_wide", "_law_rings", "_law_pairs", "_law_at", "_law_name", "_law_some", "_law_calls_own", "_law_lost_own", "_law_rules_own", "_law_k", "_law_other"] ["_law_draw", "_law_most"] (defScope s_l_model) := ⟨rfl, rfl, rfl, by decide +kernel, rfl, by decide +kernel, by decide +kernel⟩
theorem ok_l_model (x : Fx K mg w) : FnR P w K mg base CX0 5 (a_l_model K) sp_l_model := by
  refine okR x.F_l_model sc_l_model (fun _ _ _ _ _ _ us hl => match us, hl with | [_, _], _ => rfl) (fun vs H Q E h => by obtain ⟨S, d, wd, c, n, most, rfl, dm, da, hn, hm1, hm8, hQ⟩ := h; rfl) (fun cdv A outer s H vs Q E hr h => ?_)
  obtain ⟨S, d, wd, c, n, most, rfl, dm, da, hn, hm1, hm8, hQ⟩ := h
  refine ⟨_, (pss_cons (ps_asg (pe_tup (pa_cons (pe_callR (ok_l_names x) (hr.mono (by decide)) rfl x.m_l_names (keep_of x.F_l_names) pass0 (pa_cons (pv 0) (pa_cons (pe_op op_add pe_int (pe_callR (ok_l_take x) (hr.mono (by decide)) rfl x.m_l_take (keep_of x.F_l_take) pass0 (pa_cons (pv 0) (pa_cons (pv 1) pa_nil)))) pa_nil))) (pa_cons (pe_callR (ok_l_pick x) (hr.mono (by decide)) rfl x.m_l_pick (keep_of x.F_l_pick) pass0 (pa_cons (pv 0) (pa_cons (pe_lst (pa_cons pe_int (pa_cons pe_int (pa_cons pe_int (pa_cons pe_int (pa_cons pe_int (pa_cons pe_int (pa_cons pe_int pa_nil)))))))) pa_nil))) pa_nil))) (pg_tupK (K := K) (n := 2) rfl rfl (pgs_cons (pg_name (i := 2) sc_l_model.nd rfl (Or.inl rfl)) (pgs_cons (pg_name (i := 3) sc_l_model.nd rfl (Or.inr rfl)) pgs_nil))))
 (pss_cons (ps_set (i := 4) sc_l_model.nd rfl (Or.inr rfl) (pe_disp (pps_cons pe_str (pv 3) (pps_cons pe_str pe_dnewK (pps_cons pe_str (pe_callR (ok_l_pick x) (hr.mono (by decide)) rfl x.m_l_pick (keep_of x.F_l_pick) pass0 (pa_cons (pv 0) (pa_cons (pe_lst (pa_cons (pe_lst pa_nil) (pa_cons (pe_lst (pa_cons pe_str pa_nil)) (pa_cons (pe_lst (pa_cons pe_str (pa_cons pe_str pa_nil))) (pa_cons (pe_lst (pa_cons pe_str (pa_cons pe_str pa_nil))) pa_nil))))) pa_nil))) pps_nil))) rfl rfl (by simp) (by decide)))
 (pss_cons (ps_dput (hu_of hr) (pv 4) pe_str (pe_callR (ok_l_pick x) (hr.mono (by decide)) rfl x.m_l_pick (keep_of x.F_l_pick) pass0 (pa_cons (pv 0) (pa_cons (pe_lst (pa_cons pe_int (pa_cons pe_int (pa_cons pe_int pa_nil)))) pa_nil))) rfl)
 (pss_cons (ps_asg (pe_tup (pa_cons (pe_lc (own := [("_law_k", 16)]) (tt := tYes) rfl sc_l_model.nd (pi_range1 rfl x.n_range (pa_cons (pe_callR (ok_l_pick x) (hr.mono (by decide)) rfl x.m_l_pick (keep_of x.F_l_pick) pass0 (pa_cons (pv 0) (pa_cons (pe_lst (pa_cons pe_int (pa_cons pe_int (pa_cons pe_int pa_nil)))) pa_nil))) pa_nil)) (blkOk_by (N := ["_law_draw", "_law_most", "_law_names_own", "_law_fine_own", "_law_model_here", "_law_shares", "_law_houses", "_law_wide", "_law_rings", "_law_pairs", "_law_at", "_law_name", "_law_some", "_law_calls_own", "_law_lost_own", "_law_rules_own", "_law_k", "_law_other"]) (sc := defScope s_l_model) (by decide +kernel)) (fun _ _ _ _ _ => (pg_name (i := 16) sc_l_model.nd rfl (Or.inl rfl))) (fun _ _ _ _ _ => pts_nil) (fun _ _ _ _ _ => (pe_callR (ok_l_take x) (hr.mono (by decide)) rfl x.m_l_take (keep_of x.F_l_take) pass0 (pa_cons (pv 0) (pa_cons (pe_op op_add (pv 3) pe_int) pa_nil))))) (pa_cons (pe_dget (hu_of hr) (pv 4) pe_str (fun _ _ => rfl)) pa_nil))) (pg_tupK (K := K) (n := 2) rfl rfl (pgs_cons (pg_name (i := 5) sc_l_model.nd rfl (Or.inr rfl)) (pgs_cons (pg_name (i := 6) sc_l_model.nd rfl (Or.inl rfl)) pgs_nil))))
 (pss_cons (ps_asg (pe_tup (pa_cons (pe_callR (ok_l_pick x) (hr.mono (by decide)) rfl x.m_l_pick (keep_of x.F_l_pick) pass0 (pa_cons (pv 0) (pa_cons (pe_lst (pa_cons pe_int (pa_cons pe_int (pa_cons pe_int pa_nil)))) pa_nil))) (pa_cons (pe_cmpR op_eq (pe_callR (ok_l_take x) (hr.mono (by decide)) rfl x.m_l_take (keep_of x.F_l_take) pass0 (pa_cons (pv 0) (pa_cons pe_int pa_nil))) pe_int (nomark _)) (pa_cons (pe_callR (ok_l_pick x) (hr.mono (by decide)) rfl x.m_l_pick (keep_of x.F_l_pick) pass0 (pa_cons (pv 0) (pa_cons (pe_lst (pa_cons pe_int (pa_cons pe_int (pa_cons pe_int pa_nil)))) pa_nil))) pa_nil)))) (pg_tupK (K := K) (n := 3) rfl rfl (pgs_cons (pg_name (i := 7) sc_l_model.nd rfl (Or.inr rfl)) (pgs_cons (pg_name (i := 8) sc_l_model.nd rfl (Or.inl rfl)) (pgs_cons (pg_name (i := 9) sc_l_model.nd rfl (Or.inl rfl)) pgs_nil)))))
 (pss_cons (ps_for PassesOwn.never rfl (pi_enum rfl x.n_enumerate (pa_cons (pv 2) pa_nil)) (pg_tupK (K := K) (n := 2) rfl rfl (pgs_cons (pg_name (i := 10) sc_l_model.nd rfl (Or.inl rfl)) (pgs_cons (pg_name (i := 11) sc_l_model.nd rfl (Or.inl rfl)) pgs_nil)))
 (pss_cons (ps_set (i := 12) sc_l_model.nd rfl (Or.inl rfl) (pe_ifExp (pt_val (pv 8)) (pv 2) (pe_slice (r := rSlL K) sl_list (pv 2) (po_some (pe_op op_add (pv 10) pe_int)) po_none)))
 (pss_cons (ps_setLc (i := 13) (own := [("_law_other", 17)]) rfl sc_l_model.nd rfl rfl (sw_true rfl rfl rfl (by decide +kernel)) (pi_listK (K := K) rfl (pv 12)) (blkOk_by (N := ["_law_draw", "_law_most", "_law_names_own", "_law_fine_own", "_law_model_here", "_law_shares", "_law_houses", "_law_wide", "_law_rings", "_law_pairs", "_law_at", "_law_name", "_law_some", "_law_calls_own", "_law_lost_own", "_law_rules_own", "_law_k", "_law_other"]) (sc := defScope s_l_model) (by decide +kernel)) (fun _ _ _ _ _ => (pg_name (i := 17) sc_l_model.nd rfl (Or.inl rfl))) (fun _ _ _ _ _ => (pts_one (pt_cmpR op_eq (pe_callR (ok_l_take x) (hr.mono (by decide)) rfl x.m_l_take (keep_of x.F_l_take) pass0 (pa_cons (pv 0) (pa_cons (pv 7) pa_nil))) pe_int (nomark _)))) (fun _ _ _ _ _ => (pv 17)))
 (pss_cons (ps_setLc (i := 14) (own := [("_law_other", 17)]) rfl sc_l_model.nd rfl rfl (sw_true rfl rfl rfl (by decide +kernel)) (pi_listK (K := K) rfl (pv 13)) (blkOk_by (N := ["_law_draw", "_law_most", "_law_names_own", "_law_fine_own", "_law_model_here", "_law_shares", "_law_houses", "_law_wide", "_law_rings", "_law_pairs", "_law_at", "_law_name", "_law_some", "_law_calls_own", "_law_lost_own", "_law_rules_own", "_law_k", "_law_other"]) (sc := defScope s_l_model) (by decide +kernel)) (fun _ _ _ _ _ => (pg_name (i := 17) sc_l_model.nd rfl (Or.inl rfl))) (fun _ _ _ _ _ => (pts_one (pt_cmpR op_eq (pe_callR (ok_l_take x) (hr.mono (by decide)) rfl x.m_l_take (keep_of x.F_l_take) pass0 (pa_cons (pv 0) (pa_cons (pe_op op_add pe_int (pe_dget (hu_of hr) (pv 4) pe_str (fun _ _ => rfl))) pa_nil))) pe_int (nomark _)))) (fun _ _ _ _ _ => (pv 17)))
 (pss_cons (ps_setLc (i := 15) (own := [("_law_k", 16)]) (tt := tYes) rfl sc_l_model.nd rfl rfl (sw_true rfl rfl rfl (by decide +kernel)) (pi_range1 rfl x.n_range (pa_cons (pe_op op_add pe_int (pe_callTy call_int1 rfl x.n_int bb_int (pa_cons (pe_cmpR op_eq (pe_callR (ok_l_take x) (hr.mono (by decide)) rfl x.m_l_take (keep_of x.F_l_take) pass0 (pa_cons (pv 0) (pa_cons (pe_op op_add (pv 9) pe_int) pa_nil))) pe_int (nomark _)) pa_nil))) pa_nil)) (blkOk_by (N := ["_law_draw", "_law_most", "_law_names_own", "_law_fine_own", "_law_model_here", "_law_shares", "_law_houses", "_law_wide", "_law_rings", "_law_pairs", "_law_at", "_law_name", "_law_some", "_law_calls_own", "_law_lost_own", "_law_rules_own", "_law_k", "_law_other"]) (sc := defScope s_l_model) (by decide +kernel)) (fun _ _ _ _ _ => (pg_name (i := 16) sc_l_model.nd rfl (Or.inl rfl))) (fun _ _ _ _ _ => pts_nil) (fun _ _ _ _ _ => (pe_callR (ok_l_rule x) (hr.mono (by decide)) rfl x.m_l_rule (keep_of x.F_l_rule) pass0 (pa_cons (pv 0) (pa_cons (pv 4) (pa_cons (pv 5) pa_nil))))))
 (pss_one (ps_dput (hu_of hr) (pv 6) (pv 11) (pe_disp (pps_cons pe_str (pv 15) (pps_cons pe_str (pv 13) (pps_cons pe_str (pv 14) (pps_cons pe_str (pe_cmpR op_lt (pe_callR (ok_l_take x) (hr.mono (by decide)) rfl x.m_l_take (keep_of x.F_l_take) pass0 (pa_cons (pv 0) (pa_cons (pe_dget (hu_of hr) (pv 4) pe_str (fun _ _ => rfl)) pa_nil))) pe_int (nomark _)) pps_nil)))) rfl rfl (by simp) (by decide)) rfl)))))))
 (pss_cons (ps_dput (hu_of hr) (pv 4) pe_str (pe_op op_cat (pe_lst (pa_cons (pe_ix (r := rIxL K) ix_list (pv 2) pe_int (fun _ _ => rfl)) pa_nil)) (pe_lc (own := [("_law_name", 11)]) rfl sc_l_model.nd (pi_listK (K := K) rfl (pe_slice (r := rSlL K) sl_list (pv 2) (po_some pe_int) po_none)) (blkOk_by (N := ["_law_draw", "_law_most", "_law_names_own", "_law_fine_own", "_law_model_here", "_law_shares", "_law_houses", "_law_wide", "_law_rings", "_law_pairs", "_law_at", "_law_name", "_law_some", "_law_calls_own", "_law_lost_own", "_law_rules_own", "_law_k", "_law_other"]) (sc := defScope s_l_model) (by decide +kernel)) (fun _ _ _ _ _ => (pg_name (i := 11) sc_l_model.nd rfl (Or.inl rfl))) (fun _ _ _ _ _ => (pts_one (pt_cmpR op_eq (pe_callR (ok_l_take x) (hr.mono (by decide)) rfl x.m_l_take (keep_of x.F_l_take) pass0 (pa_cons (pv 0) (pa_cons pe_int pa_nil))) pe_int (nomark _)))) (fun _ _ _ _ _ => (pv 11)))) rfl)
 (pss_one (ps_ret (pv 4)))))))))), ?_⟩
  have hb : n + 400 ≤ 1099511627776 := hn
  refine ⟨_, rfl, _, rfl, _, rfl, S, d, wd, c, n, (most : Nat), rfl, dm, da, by show n ≤ 1099511627776; omega, by omega, by omega, fun k H1 k0 k1 u1 da1 => ⟨_, _, rfl, rfl, ?_⟩⟩
  obtain ⟨j, rfl⟩ := Int.eq_ofNat_of_zero_le k0
  have dm1 := dm.kp u1
  refine ⟨S, d, wd, c, n + 1, 1 + j, rfl, dm1, da1, by show n + 1 + 100 ≤ 1099511627776; omega, by omega, fun nl nms H2 u2 da2 an nn nd isn ln => ?_⟩
  have dm2 := dm1.kp u2
  have da2 := da2.more (show n + 1 + 6 * (1 + j) ≤ n + 49 by omega)
  refine ⟨_, rfl, pick_new (E := E0) [.int 1, .int 2, .int 3, .int 4, .int 10, .int 60, .int 1000] dm2 da2 (by show n + 49 ≤ 1099511627776; omega) (by simp) (by simp) fun fv hfv H3 u3 da3 => ?_⟩
  obtain ⟨fine, rfl, f1, f2⟩ : ∃ fine : Int, fv = .int fine ∧ 1 ≤ fine ∧ fine ≤ 1000 := by
    simp only [List.mem_cons, List.not_mem_nil, or_false] at hfv
    rcases hfv with rfl | rfl | rfl | rfl | rfl | rfl | rfl <;> exact ⟨_, rfl, by decide, by decide⟩
  have an3 := an.kp u3
  have dm3 := dm2.kp u3
  have u03 := (u1.trans u2).trans u3
  refine ⟨by simp [sizeLine_eq], fun t4 nt4 => ?_⟩
  have e4 : Ext H3 (upd H3 t4 (.tup [.ref nl, .int fine])) := ext_new nt4
  have ht4 : (upd H3 t4 (.tup [.ref nl, .int fine])) t4 = some (.tup [.ref nl, .int fine]) := upd_same
  generalize upd H3 t4 (.tup [.ref nl, .int fine]) = H4 at e4 ht4
  refine ⟨t4, _, rfl, .of ht4, rfl, _, _, rfl, _, _, rfl, rfl, ?_⟩
  dsimp only [gName]
  have an4 := an3.ext e4
  have dm4 := dm3.ext e4
  have da4 := da3.ext e4
  refine fun m nm => ?_
  have e5 : Ext H4 (upd H4 m (.dK [])) := ext_new nm
  have h5 : (upd H4 m (.dK [])) m = some (.dK []) := upd_same
  generalize upd H4 m (.dK []) = H5 at e5 h5
  refine ⟨_, rfl, fun ph nph => ?_⟩
  have e6 : Ext H5 (upd H5 ph (.dK [])) := ext_new nph
  have h6 : (upd H5 ph (.dK [])) ph = some (.dK []) := upd_same
  have npm : m ≠ ph := ne_of_none h5 nph
  generalize upd H5 ph (.dK []) = H6 at e6 h6
  have e46 := e5.trans e6
  have dm6 := dm4.ext e46
  refine ⟨_, rfl, by simp [sizeLine_eq], fun l1 nl1 => ?_⟩
  have ea : Ext H6 (upd H6 l1 (.lst [])) := ext_new nl1
  have ha : At S (upd H6 l1 (.lst [])) l1 (.lst (([] : List Str).map V.str)) := ⟨upd_same, fun z => dm6 l1 z nl1⟩
  generalize upd H6 l1 (.lst []) = Ha at ea ha
  refine ⟨by simp [sizeLine_eq], fun l2 nl2 => ?_⟩
  have eb : Ext Ha (upd Ha l2 (.lst [.str "m"])) := ext_new nl2
  have hb2 : At S (upd Ha l2 (.lst [.str "m"])) l2 (.lst ((["m"] : List Str).map V.str)) := ⟨upd_same, fun z => dm6.ext ea l2 z nl2⟩
  generalize upd Ha l2 (.lst [.str "m"]) = Hb at eb hb2
  refine ⟨by simp [sizeLine_eq], fun l3 nl3 => ?_⟩
  have ec : Ext Hb (upd Hb l3 (.lst [.str "m", .str "story"])) := ext_new nl3
  have hc : At S (upd Hb l3 (.lst [.str "m", .str "story"])) l3 (.lst ((["m", "story"] : List Str).map V.str)) := ⟨upd_same, fun z => dm6.ext (ea.trans eb) l3 z nl3⟩
  generalize upd Hb l3 (.lst [.str "m", .str "story"]) = Hc at ec hc
  refine ⟨by simp [sizeLine_eq], fun l4 nl4 => ?_⟩
  have ed : Ext Hc (upd Hc l4 (.lst [.str "ab", .str "aa"])) := ext_new nl4
  have hd : At S (upd Hc l4 (.lst [.str "ab", .str "aa"])) l4 (.lst ((["ab", "aa"] : List Str).map V.str)) := ⟨upd_same, fun z => dm6.ext ((ea.trans eb).trans ec) l4 z nl4⟩
  generalize upd Hc l4 (.lst [.str "ab", .str "aa"]) = Hd at ed hd
  have e6d := ((ea.trans eb).trans ec).trans ed
  have e4d := e46.trans e6d
  refine pick_new (E := E0) [.ref l1, .ref l2, .ref l3, .ref l4] (dm4.ext e4d) (da4.ext e4d) (by show n + 49 + 1 ≤ 1099511627776; omega) (by simp) (by simp) fun sv hsv H7 u7 da7 => ?_
  obtain ⟨ps, so, rfl, so1, so2, so3⟩ : ∃ (ps : Addr) (so : List Str), sv = .ref ps ∧ At S H7 ps (.lst (so.map V.str)) ∧ (∀ z ∈ so, Tame z) ∧ so.length ≤ 4 := by
    simp only [List.mem_cons, List.not_mem_nil, or_false] at hsv
    rcases hsv with rfl | rfl | rfl | rfl
    · exact ⟨_, _, rfl, (ha.ext ((eb.trans ec).trans ed)).kp u7, by simp, by simp⟩
    · exact ⟨_, _, rfl, (hb2.ext (ec.trans ed)).kp u7, by decide +kernel, by simp⟩
    · exact ⟨_, _, rfl, (hc.ext ed).kp u7, by decide +kernel, by simp⟩
    · exact ⟨_, _, rfl, hd.kp u7, by decide +kernel, by simp⟩
  have nmS : ¬ S m := fun z => dm4 m z nm
  have npS : ¬ S ph := fun z => dm4.ext e5 ph z nph
  have u47 : Kp S H4 H7 := (Kp.ext e4d).trans u7
  have h57 := u7.keep _ _ ((e6.trans e6d) _ _ h5) nmS
  have h67 := u7.keep _ _ (e6d _ _ h6) npS
  have dm7 := dm4.kp u47
  refine ⟨h57, modP fine ph ps, rfl, by simp [modP], ?_⟩
  rw [show mergeK [] (modP fine ph ps) = modP fine ph ps from rfl]
  have u04 := u03.trans (.ext e4)
  have u07 := u04.trans u47
  have an7 := an4.kp u47
  have nm0 : H m = none := kp_none u04 nm
  have np0 : H ph = none := kp_none (u04.trans (.ext e5)) nph
  have dnm := da4.ne nm
  have dnp : d ≠ ph ∧ wd ≠ ph ∧ c ≠ ph := (da4.ext e5).ne nph
  have nlm : nl ≠ m := ne_of_none an4.1 nm
  have nlp : nl ≠ ph := ne_of_none (e5 _ _ an4.1) nph
  have u8 : Kp S H (upd H7 m (.dK (modP fine ph ps))) := kp_put_new u07 nm0
  have m8 : At S (upd H7 m (.dK (modP fine ph ps))) m (.dK (modP fine ph ps)) := ⟨upd_same, nmS⟩
  have p8 : (upd H7 m (.dK (modP fine ph ps))) ph = some (.dK []) := by rw [upd_ne (Ne.symm npm)]; exact h67
  have an8 : At S (upd H7 m (.dK (modP fine ph ps))) nl (.lst (nms.map V.str)) := ⟨by rw [upd_ne nlm]; exact an7.1, an7.2⟩
  have psm : ps ≠ m := ne_of so1.1 h57 (by simp)
  have psp : ps ≠ ph := ne_of so1.1 h67 (by simp)
  have s8 : At S (upd H7 m (.dK (modP fine ph ps))) ps (.lst (so.map V.str)) := ⟨by rw [upd_ne psm]; exact so1.1, so1.2⟩
  have da8 : DrawAt S (upd H7 m (.dK (modP fine ph ps))) d wd c (n + 51) := da7.putn dnm
  generalize upd H7 m (.dK (modP fine ph ps)) = H8 at u8 m8 p8 an8 s8 da8
  refine ⟨_, rfl, pick_new (E := E0) [.int 2, .int 4, .int 9] (dm.kp u8) da8 (by show n + 51 ≤ 1099511627776; omega) (by simp) (by simp) fun ov hov H9 u9 da9 => ?_⟩
  obtain ⟨odds, rfl, o1, o2⟩ : ∃ odds : Int, ov = .int odds ∧ 1 ≤ odds ∧ odds ≤ 1000 := by
    simp only [List.mem_cons, List.not_mem_nil, or_false] at hov
    rcases hov with rfl | rfl | rfl <;> exact ⟨_, rfl, by decide, by decide⟩
  have m9 := m8.kp u9
  refine ⟨_, rfl, m, _, rfl, dput_str m9.1 (by simp [modP]), ?_⟩
  rw [show putK (modP fine ph ps) (Sum.inr "odds") (.int odds) = modO fine ph ps odds from rfl]
  have u10 : Kp S H (upd H9 m (.dK (modO fine ph ps odds))) := kp_put_new (u8.trans u9) nm0
  have m10 : At S (upd H9 m (.dK (modO fine ph ps odds))) m (.dK (modO fine ph ps odds)) := ⟨upd_same, nmS⟩
  have p10 : (upd H9 m (.dK (modO fine ph ps odds))) ph = some (.dK []) := by rw [upd_ne (Ne.symm npm)]; exact u9.keep _ _ p8 npS
  have an10 : At S (upd H9 m (.dK (modO fine ph ps odds))) nl (.lst (nms.map V.str)) := ⟨by rw [upd_ne nlm]; exact (an8.kp u9).1, an7.2⟩
  have s10 : At S (upd H9 m (.dK (modO fine ph ps odds))) ps (.lst (so.map V.str)) := ⟨by rw [upd_ne psm]; exact (s8.kp u9).1, so1.2⟩
  have da10 : DrawAt S (upd H9 m (.dK (modO fine ph ps odds))) d wd c (n + 52) := da9.putn dnm
  generalize upd H9 m (.dK (modO fine ph ps odds)) = H10 at u10 m10 p10 an10 s10 da10
  refine ⟨_, rfl, pick_new (E := E0) [.int 1, .int 2, .int 3] (dm.kp u10) da10 (by show n + 52 ≤ 1099511627776; omega) (by simp) (by simp) fun kv hkv H11 u11 da11 => ?_⟩
  obtain ⟨k, rfl, k1, k2⟩ : ∃ k : Nat, kv = .int k ∧ 1 ≤ k ∧ k ≤ 3 := by
    simp only [List.mem_cons, List.not_mem_nil, or_false] at hkv
    rcases hkv with rfl | rfl | rfl
    · exact ⟨1, rfl, by decide, by decide⟩
    · exact ⟨2, rfl, by decide, by decide⟩
    · exact ⟨3, rfl, by decide, by decide⟩
  have u011 := u10.trans u11
  have dm11 := dm.kp u011
  refine ⟨(k : Int), rfl, by omega, by omega, fun D hD => lc_std (S := S) (H0 := H11) std_range (fun t H' => Kp S H11 H' ∧ DrawAt S H' d wd c (n + 53 + t) ∧ ∃ cs : List Int, H' D = some (.lst (cs.map V.int)) ∧ cs.length = t ∧ ∀ s ∈ cs, 0 ≤ s ∧ s ≤ fine) ⟨.new hD, da11.ext (ext_new hD), [], upd_same, rfl, fun s h => by simp at h⟩ (fun t H h => h.1) (fun t y H12 hy ⟨u12, da12, cs, hD12, lc, hcs⟩ => ?_) (fun H12 ⟨u12, da12, cs, hD12, lc, hcs⟩ => ?_)⟩
  · have ht : t < k := by
      have := (List.getElem?_eq_some_iff.mp hy).1
      simp only [List.length_map, List.length_range] at this
      omega
    have nD : ¬ S D := fun z => dm11 D z hD
    refine ⟨rfl, _, rfl, _, rfl, _, _, rfl, rfl, S, d, wd, c, _, _, rfl, dm11.kp u12, da12, by show n + 53 + t ≤ 1099511627776; omega, by omega, by omega, fun s H13 s0 s1 u13 da13 => ?_⟩
    have hD13 := u13.keep _ _ hD12 nD
    have qd := da11.ne hD
    refine ⟨_, hD13, ?_, kp_put_new (u12.trans u13) hD, (da13.putn qd).more (by omega), cs ++ [s], by rw [upd_same]; simp, by simp [lc], fun x hx => ?_⟩
    · have := line1001
      simp
      omega
    · rcases List.mem_append.mp hx with hx | hx
      · exact hcs x hx
      · rw [List.mem_singleton.mp hx]; omega
  rw [List.length_map, List.length_range] at da12 lc
  have nDS : ¬ S D := fun z => dm11 D z hD
  have sh12 : At S H12 D (.lst (cs.map V.int)) := ⟨hD12, nDS⟩
  have lc3 : cs.length ≤ 10 := by omega
  have u112 := u11.trans u12
  have da12 := da12.more (show n + 53 + _ ≤ n + 56 by omega)
  have u012 := u10.trans u112
  have dm12 := dm.kp u012
  refine ⟨_, rfl, m, _, rfl, dget_str (m10.kp u112).1 modO_get.2.1, by simp [sizeLine_eq], fun t13 nt13 => ?_⟩
  have e13 : Ext H12 (upd H12 t13 (.tup [.ref D, .ref ph])) := ext_new nt13
  have ht13 : (upd H12 t13 (.tup [.ref D, .ref ph])) t13 = some (.tup [.ref D, .ref ph]) := upd_same
  generalize upd H12 t13 (.tup [.ref D, .ref ph]) = H13 at e13 ht13
  refine ⟨t13, _, rfl, .of ht13, rfl, _, _, rfl, _, _, rfl, rfl, ?_⟩
  refine ⟨_, rfl, pick_new (E := E0) [.int 2, .int 3, .int 4] (dm12.ext e13) (da12.ext e13) (by show n + 56 ≤ 1099511627776; omega) (by simp) (by simp) fun wv hwv H14 u14 da14 => ?_⟩
  obtain ⟨wide, rfl, w1, w2⟩ : ∃ k : Int, wv = .int k ∧ 1 ≤ k ∧ k ≤ 10 := by
    simp only [List.mem_cons, List.not_mem_nil, or_false] at hwv
    rcases hwv with rfl | rfl | rfl <;> exact ⟨_, rfl, by decide, by decide⟩
  have u1214 := (Kp.ext e13).trans u14
  refine ⟨_, rfl, S, d, wd, c, _, 3, rfl, dm12.kp u1214, da14, by show n + 57 ≤ 1099511627776; omega, by decide, by decide, fun r H15 r0 r1 u15 da15 => ⟨rfl, ?_⟩⟩
  refine ⟨_, rfl, pick_new (E := E0) [.int 1, .int 3, .int 9] (dm12.kp (u1214.trans u15)) da15 (by show n + 58 ≤ 1099511627776; omega) (by simp) (by simp) fun pv hpv H16 u16 da16 => ?_⟩
  obtain ⟨pairs, rfl, pa1, pa2⟩ : ∃ k : Int, pv = .int k ∧ 1 ≤ k ∧ k ≤ 10 := by
    simp only [List.mem_cons, List.not_mem_nil, or_false] at hpv
    rcases hpv with rfl | rfl | rfl <;> exact ⟨_, rfl, by decide, by decide⟩
  obtain ⟨rings, hrings⟩ : ∃ b, b = decide (V.int r = V.int 0) := ⟨_, rfl⟩
  refine ⟨by simp [sizeLine_eq], fun t17 nt17 => ?_⟩
  rw [← hrings]
  have e17 : Ext H16 (upd H16 t17 (.tup [.int wide, .bl rings, .int pairs])) := ext_new nt17
  have ht17 : (upd H16 t17 (.tup [.int wide, .bl rings, .int pairs])) t17 = some (.tup [.int wide, .bl rings, .int pairs]) := upd_same
  generalize upd H16 t17 (.tup [.int wide, .bl rings, .int pairs]) = H17 at e17 ht17
  refine ⟨t17, _, rfl, .of ht17, rfl, _, _, rfl, _, _, rfl, _, _, rfl, rfl, ?_⟩
  have u1217 := (u1214.trans u15).trans (u16.trans (.ext e17))
  have u1017 := u112.trans u1217
  have u017 := u10.trans u1017
  have m17 := m10.kp u1017
  have p17 := u1017.keep _ _ p10 npS
  have an17 := an10.kp u1017
  have s17 := s10.kp u1017
  have sh17 := sh12.kp u1217
  have da17 := da16.ext e17
  have dm17 := dm.kp u017
  dsimp only [gName]
  have lnn : nms.length ≤ 8 := by omega
  have nlT : ¬ more S ph nl := fun z => z.elim an.2 nlp
  refine ⟨_, rfl, nl, _, rfl, .of an17.1, for_enum (S := more S ph) (.of an17.1) nlT (fun i σ H' => Kp (more S ph) H17 H' ∧ DrawAt S H' d wd c (n + 60 + 28 * i) ∧ ∃ nk hs, H' ph = some (.dK nk) ∧ HdsAt S H' nk hs ∧ hs.map (·.1) = nms.take i ∧ (∀ p ∈ hs, Good nms fine p.2) ∧
      ∃ v10 v11 v12 v13 v14 v15, σ = [some (.ref d), some (.int most), some (.ref nl), some (.int fine), some (.ref m), some (.ref D), some (.ref ph), some (.int wide), some (.bl rings), some (.int pairs), v10, v11, v12, v13, v14, v15, none, none])
    ⟨Kp.refl, da17.more (by omega), [], [], p17, .nil, by simp, fun p h => by simp at h, none, none, none, none, none, none, rfl⟩ (fun i σ H' h => h.1) (fun i y σ H20 T hy ⟨u20, da20, nk, hs, hp20, hds20, hnm, hgood, v10, v11, v12, v13, v14, v15, hσ⟩ nT => ?_) (fun σ H20 ⟨u20, da20, nk, hs, hp20, hds20, hnm, hgood, v10, v11, v12, v13, v14, v15, hσ⟩ => ?_)⟩
  · subst hσ
    obtain ⟨name, hname, rfl⟩ : ∃ z, nms[i]? = some z ∧ y = .str z := by
      rw [List.getElem?_map] at hy
      cases q : nms[i]? with
      | none => rw [q] at hy; cases hy
      | some z => rw [q] at hy; exact ⟨z, rfl, (Option.some.inj hy).symm⟩
    have hi : i < nms.length := (List.getElem?_eq_some_iff.mp hname).1
    have keepP : ∀ {a : Addr} {o : HO} {H' : Hp}, At S H17 a o → a ≠ ph → Kp (more S ph) H17 H' → At S H' a o := fun {a o H'} h ne u => ⟨u.keep _ _ h.1 fun z => z.elim h.2 ne, h.2⟩
    have e21 : Ext H20 (upd H20 T (.tup [.int (i : Nat), .str name])) := ext_new nT
    have hT21 : (upd H20 T (.tup [.int (i : Nat), .str name])) T = some (.tup [.int (i : Nat), .str name]) := upd_same
    generalize upd H20 T (.tup [.int (i : Nat), .str name]) = H21 at e21 hT21
    have u21 := u20.trans (.ext e21)
    have dm21 : Dm S H21 := dm17.kp u21
    have an21 := keepP an17 nlp u21
    have m21 := keepP m17 npm u21
    have s21 := keepP s17 psp u21
    have Dp : D ≠ ph := ne_of sh17.1 p17 (by simp)
    have sh21 := keepP sh17 Dp u21
    have hp21 := e21 _ _ hp20
    have hds21 := hds20.ext e21
    have da21 := da20.ext e21
    refine ⟨T, _, rfl, .of hT21, rfl, _, _, rfl, _, _, rfl, rfl, ?_⟩
    refine tif_go (fun v H' => ∃ sa ss, v = .ref sa ∧ Ext H21 H' ∧ At S H' sa (.lst ((ss : List Str).map V.str)) ∧ ss.Sublist nms) ?_ fun tail => ?_
    · rintro v H22 ⟨sa, ss, rfl, e22, as22, sub⟩
      have lss := sub.length_le
      have dm22 := dm21.ext e22
      dsimp only [gName]
      have da22 := da21.ext e22
      have i8 : i < 8 := by omega
      refine ⟨_, rfl, sa, rfl, ⟨_, .of as22.1⟩, fun D1 hD1 => lc_drawn (std_list (.of as22.1) as22.2) dm22 da22 hD1 (by omega) (fun y i' H' Nx hy hi' u' dm' da' kT kF =>
        ⟨rfl, _, rfl, _, rfl, S, d, wd, c, _, wide, rfl, dm', da', by show n + 60 + 28 * i + i' ≤ 1099511627776; omega, by omega, by omega, fun t H3 t0 t1 u3 da3 => ⟨rfl, _, rfl, ifb (fun _ => ⟨_, rfl, kT H3 u3 da3⟩) fun _ => kF H3 u3 da3⟩⟩) (fun H23 cz u23 da23 ac subc => ?_)⟩
      have lcz := subc.length_le
      have dm23 := dm22.kp u23
      have m23 := (m21.ext e22).kp u23
      have da23 := da23.more (show n + 60 + 28 * i + ss.length ≤ n + 60 + 28 * i + 8 by omega)
      refine ⟨_, rfl, D1, rfl, ⟨_, .of ac.1⟩, fun D2 hD2 => lc_drawn (std_list (.of ac.1) ac.2) dm23 da23 hD2 (by omega) (fun y i' H' Nx hy hi' u' dm' da' kT kF =>
        ⟨rfl, _, rfl, _, rfl, m, _, rfl, dget_str (m23.kp u').1 modO_get.2.2.2, _, _, rfl, rfl, S, d, wd, c, _, 2 + odds, rfl, dm', da', by show n + 60 + 28 * i + 8 + i' ≤ 1099511627776; omega, by omega, by omega, fun t H3 t0 t1 u3 da3 => ⟨rfl, _, rfl, ifb (fun _ => ⟨_, rfl, kT H3 u3 da3⟩) fun _ => kF H3 u3 da3⟩⟩) (fun H24 lz u24 da24 al subl => ?_)⟩
      have llz := subl.length_le
      have dm24 := dm23.kp u24
      have ac24 := ac.kp u24
      have da24 := da24.more (show n + 60 + 28 * i + 8 + cz.length ≤ n + 60 + 28 * i + 16 by omega)
      have u2124 := ((Kp.ext e22).trans u23).trans u24
      refine ⟨_, rfl, _, rfl, _, _, rfl, rfl, S, d, wd, c, _, pairs + 1, rfl, dm24, da24, by show n + 60 + 28 * i + 16 ≤ 1099511627776; omega, by omega, by omega, fun t H25 t0 t1 u25 da25 => ⟨rfl, .inr ⟨_, rfl, ?_⟩⟩⟩
      have dm25 := dm24.kp u25
      obtain ⟨k, hk, hk1, hk2⟩ : ∃ k : Nat, (1 : Int) + (if decide (V.int t = V.int 0) = true then 1 else 0) = (k : Nat) ∧ 1 ≤ k ∧ k ≤ 2 := by
        by_cases z : decide (V.int t = V.int 0) = true
        · exact ⟨2, by rw [if_pos z]; rfl, by decide, by decide⟩
        · exact ⟨1, by rw [if_neg z]; rfl, by decide, by decide⟩
      refine ⟨_, _, rfl, rfl, ?_⟩
      have u2125 := u2124.trans u25
      refine ⟨(k : Int), congrArg (fun z => [V.int z]) hk, by omega, by omega, fun D3 hD3 => lc_std (S := S) (H0 := H25) std_range (fun t H' => Kp S H25 H' ∧ DrawAt S H' d wd c (n + 60 + 28 * i + 17 + 5 * t) ∧ ∃ os rs, H' D3 = some (.lst (os.map V.ref)) ∧ TupsAt S H' os rs ∧ rs.length = t ∧ ∀ r ∈ rs, r.ok ∧ r.share ≤ fine ∧ r.mark ≠ "qqq") ⟨.new hD3, da25.ext (ext_new hD3), [], [], upd_same, .nil, rfl, fun r h => by simp at h⟩ (fun t H h => h.1) (fun t y H26 hy ⟨u26, da26, os, rs, hD26, ht26, lr, hrs⟩ => ?_) (fun H26 ⟨u26, da26, os, rs, hD26, ht26, lr, hrs⟩ => ?_)⟩
      · have ht : t < k := by
          have := (List.getElem?_eq_some_iff.mp hy).1
          simp only [List.length_map, List.length_range] at this
          omega
        have nD : ¬ S D3 := fun z => dm25 D3 z hD3
        have u2126 := u2125.trans u26
        refine ⟨rfl, _, rfl, _, rfl, _, rfl, S, d, wd, c, m, D, ps, _, _, fine, odds, so, cs, rfl, dm25.kp u26, da26, by show n + 60 + 28 * i + 17 + 5 * t + 10 ≤ 1099511627776; omega,
          ⟨m21.kp u2126, modO_get.1, modO_get.2.2.1, modO_get.2.2.2, s21.kp u2126, so2, so3, f1, f2, o1, o2⟩, sh21.kp u2126, lc3, hcs, fun p r H27 u27 da27 tr rok rsh rt => ?_⟩
        have hD27 := u27.keep _ _ hD26 nD
        have qd := da25.ne hD3
        have lo := Paired.length ht26
        have uD : Kp (one D3) H27 (upd H27 D3 (.lst (os.map V.ref ++ [.ref p]))) := Kp.refl.put rfl
        refine ⟨_, hD27, ?_, kp_put_new (u26.trans u27) hD3, (da27.putn qd).more (by omega), os ++ [p], rs ++ [r], by rw [upd_same]; simp, paired_app (Paired.mapP ht26 fun _ _ z => (z.kp u27).off hD27 (by simp) uD) (.cons (tr.off hD27 (by simp) uD) .nil), by simp [lr], fun x hx => ?_⟩
        · have := line1001
          simp
          omega
        · rcases List.mem_append.mp hx with hx | hx
          · exact hrs x hx
          · rw [List.mem_singleton.mp hx]; exact ⟨rok, rsh, rt⟩
      rw [List.length_map, List.length_range] at da26 lr
      have nD3 : ¬ S D3 := fun z => dm25 D3 z hD3
      have ar26 : At S H26 D3 (.lst (os.map V.ref)) := ⟨hD26, nD3⟩
      have da26 := da26.more (show n + 60 + 28 * i + 17 + 5 * _ ≤ n + 60 + 28 * i + 27 by omega)
      have dm26 := dm25.kp u26
      have u2126 := u2125.trans u26
      refine fun a na => ?_
      have e27 : Ext H26 (upd H26 a (.dK [])) := ext_new na
      have h27 : (upd H26 a (.dK [])) a = some (.dK []) := upd_same
      generalize upd H26 a (.dK []) = H27 at e27 h27
      have u2127 := u2126.trans (.ext e27)
      have dm27 := dm26.ext e27
      have naS : ¬ S a := fun z => dm26 a z na
      have da27 := da26.ext e27
      refine ⟨_, rfl, _, rfl, _, rfl, _, rfl, _, rfl, m, _, rfl, dget_str (m21.kp u2127).1 modO_get.2.2.2, S, d, wd, c, _, odds, rfl, dm27, da27, by show n + 60 + 28 * i + 27 ≤ 1099511627776; omega, by omega, by omega, fun t H28 t0 t1 u28 da28 => ⟨_, _, rfl, rfl, ?_⟩⟩
      have h28 := u28.keep _ _ h27 naS
      refine ⟨h28, hdK D3 D1 D2 (decide (t < 2)), rfl, by simp [hdK], ?_⟩
      rw [show mergeK [] (hdK D3 D1 D2 (decide (t < 2))) = hdK D3 D1 D2 (decide (t < 2)) from rfl]
      have u2128 := u2127.trans u28
      have np21 : ph ≠ a := ne_of_none ((u2126.keep _ _ hp21 npS)) na
      have na21 : H21 a = none := kp_none u2126 na
      have ua : Kp (one a) H28 (upd H28 a (.dK (hdK D3 D1 D2 (decide (t < 2))))) := Kp.refl.put rfl
      have u2129 : Kp S H21 (upd H28 a (.dK (hdK D3 D1 D2 (decide (t < 2))))) := kp_put_new u2128 na21
      have a29 : At S (upd H28 a (.dK (hdK D3 D1 D2 (decide (t < 2))))) a (.dK (hdK D3 D1 D2 (decide (t < 2)))) := ⟨upd_same, naS⟩
      have u2628 := (Kp.ext (S := S) e27).trans u28
      have ar29 := (ar26.kp u2628).off h28 (by simp) ua
      have tr29 := Paired.mapP ht26 fun _ _ z => (z.kp u2628).off h28 (by simp) ua
      have ac29 := ((ac24.kp (u25.trans u26)).kp u2628).off h28 (by simp) ua
      have al29 := ((al.kp (u25.trans u26)).kp u2628).off h28 (by simp) ua
      have da29 : DrawAt S (upd H28 a (.dK (hdK D3 D1 D2 (decide (t < 2))))) d wd c (n + 60 + 28 * i + 28) := da28.putn (da26.ne na)
      generalize upd H28 a (.dK (hdK D3 D1 D2 (decide (t < 2)))) = H29 at u2129 a29 ar29 tr29 ac29 al29 da29
      have hp29 := u2129.keep _ _ hp21 npS
      have hds29 := hds21.kp u2129
      have lhs := Paired.length hds29
      have lh2 := congrArg List.length hnm
      rw [List.length_map, List.length_take] at lh2
      refine ⟨_, rfl, _, rfl, ph, _, rfl, dput_str hp29 (by omega), ?_⟩
      have nn : name ∉ nms.take i := take_new nd hname
      rw [putK_new _ (valV_none (by rw [hds29.keys, hnm]; intro z; obtain ⟨y, hy, e⟩ := List.mem_map.mp z; injection e with e; exact nn (e ▸ hy)))]
      have uP : Kp (one ph) H29 (upd H29 ph (.dK (nk ++ [(Sum.inr name, .ref a)]))) := Kp.refl.put rfl
      have new : HdAt S H29 a ⟨rs, cz, lz, decide (t < 2)⟩ := ⟨D3, D1, D2, os, a29, ar29, tr29, ac29, al29⟩
      have ndk : ∀ pr pc pl f, (HO.dK nk) ≠ .dK (hdK pr pc pl f) := fun pr pc pl f z => by injection z with z; exact hds_ne_hd hds29 z
      have dnp' : d ≠ ph ∧ wd ≠ ph ∧ c ≠ ph := dnp
      refine ⟨(u21.trans (u2129.mono fun a h => .inl h)).trans (uP.mono fun a h => .inr h), (da29.putn dnp).more (by omega), nk ++ [(Sum.inr name, .ref a)], hs ++ [(name, ⟨rs, cz, lz, decide (t < 2)⟩)], upd_same, ?_, ?_, fun p hp => ?_, _, _, _, _, _, _, rfl⟩
      · exact paired_app (hdsat_lk hds29 hp29 uP ndk (by simp) (by simp)) (.cons ⟨rfl, a, rfl, new.lk hp29 uP ndk (by simp) (by simp)⟩ .nil)
      · rw [List.map_append, hnm, take_one hname]
        rfl
      · rcases List.mem_append.mp hp with hp | hp
        · exact hgood p hp
        · rw [List.mem_singleton.mp hp]
          have sc := subc.trans sub
          exact ⟨⟨by show 1 ≤ rs.length; omega, by show rs.length ≤ 2; omega, fun z hz => isn z (sc.subset hz), nd.sublist sc, by show cz.length < 64; omega, (nd.sublist sc).sublist subl, fun z hz => subl.subset hz, by show lz.length < 64; omega⟩, hrs, fun z hz => sc.subset hz⟩
    · refine ⟨_, rfl, rings, rfl, ifb (fun _ => ?_) fun _ => ?_⟩
      · exact ⟨_, rfl, tail _ _ ⟨nl, nms, rfl, Ext.rfl', an21, List.Sublist.refl _⟩⟩
      · refine ⟨_, rfl, _, rfl, _, _, rfl, rfl, _, rfl, nl, _, rfl, .of an21.1, fun p np => tail _ _ ⟨p, nms.drop (i + 1), rfl, ext_new np, ⟨?_, fun z => dm21 p z np⟩, List.drop_sublist _ _⟩⟩
        rw [upd_same, show ((i : Nat) : Int) + 1 = ((i + 1 : Nat) : Int) from rfl, cut_from (by simp; omega), List.map_drop]
  · subst hσ
    rw [List.length_map] at da20 hnm
    rw [List.take_length] at hnm
    have da20 := da20.more (show n + 60 + 28 * nms.length ≤ n + 284 by omega)
    have keepP : ∀ {a : Addr} {o : HO} {H' : Hp}, At S H17 a o → a ≠ ph → Kp (more S ph) H17 H' → At S H' a o := fun {a o H'} h ne u => ⟨u.keep _ _ h.1 fun z => z.elim h.2 ne, h.2⟩
    have dm20 : Dm S H20 := dm17.kp u20
    have an20 := keepP an17 nlp u20
    have m20 := keepP m17 npm u20
    have s20 := keepP s17 psp u20
    obtain ⟨n0, rest, hnr⟩ : ∃ n0 rest, nms = n0 :: rest := by
      cases nms with
      | nil => simp at ln; omega
      | cons a b => exact ⟨a, b, rfl⟩
    refine ⟨_, rfl, nl, _, 0, _, rfl, rfl, .of an20.1, atI_nat (j := 0) (by rw [hnr]; rfl), by simp [sizeLine_eq], fun l1 nl1 => ?_⟩
    have e21 : Ext H20 (upd H20 l1 (.lst [.str n0])) := ext_new nl1
    have h21 : (upd H20 l1 (.lst [.str n0])) l1 = some (.lst [.str n0]) := upd_same
    have nl1S : ¬ S l1 := fun z => dm20 l1 z nl1
    generalize upd H20 l1 (.lst [.str n0]) = H21 at e21 h21
    refine ⟨_, rfl, _, rfl, nl, _, rfl, .of (e21 _ _ an20.1), fun p2 np2 => ?_⟩
    rw [show cutV (nms.map V.str) (some 1) none = rest.map V.str by
      rw [show (some (1 : Int)) = some ((1 : Nat) : Int) from rfl, cut_from (by rw [hnr]; simp), hnr]; rfl]
    have e22 : Ext H21 (upd H21 p2 (.lst (rest.map V.str))) := ext_new np2
    have dm21 := dm20.ext e21
    have a22 : At S (upd H21 p2 (.lst (rest.map V.str))) p2 (.lst (rest.map V.str)) := ⟨upd_same, fun z => dm21 p2 z np2⟩
    generalize upd H21 p2 (.lst (rest.map V.str)) = H22 at e22 a22
    have dm22 := dm21.ext e22
    have e2022 := e21.trans e22
    have lr8 : rest.length ≤ 7 := by rw [hnr] at lnn; simp at lnn; omega
    refine ⟨p2, rfl, ⟨_, .of a22.1⟩, fun D1 hD1 => lc_drawn (std_list (.of a22.1) a22.2) dm22 (da20.ext e2022) hD1 (by omega) (fun y i' H' Nx hy hi' u' dm' da' kT kF =>
        ⟨rfl, _, rfl, S, d, wd, c, _, 6, rfl, dm', da', by show n + 284 + i' ≤ 1099511627776; omega, by omega, by omega, fun t H3 t0 t1 u3 da3 => ⟨rfl, _, rfl, ifb (fun _ => ⟨_, rfl, kT H3 u3 da3⟩) fun _ => kF H3 u3 da3⟩⟩) (fun H23 ez u23 da23 ae sub => ?_)⟩
    have lez := sub.length_le
    have u2023 := (Kp.ext e2022).trans u23
    have h23 := u23.keep _ _ (e22 _ _ h21) nl1S
    have dm23 := dm20.kp u2023
    refine ⟨l1, D1, _, _, rfl, rfl, h23, ae.1, sz (m := 1000) (by simp; omega), fun pe npe => ?_⟩
    have e24 : Ext H23 (upd H23 pe (.lst ([.str n0] ++ ez.map V.str))) := ext_new npe
    have a24 : At S (upd H23 pe (.lst ([.str n0] ++ ez.map V.str))) pe (.lst ((n0 :: ez).map V.str)) := ⟨by rw [upd_same]; rfl, fun z => dm23 pe z npe⟩
    generalize upd H23 pe (.lst ([.str n0] ++ ez.map V.str)) = H24 at e24 a24
    have u2024 := u2023.trans (.ext e24)
    have m24 := m20.kp u2024
    refine ⟨_, rfl, m, _, rfl, dput_str m24.1 (by simp [modO]), ?_⟩
    rw [show putK (modO fine ph ps odds) (Sum.inr "entries") (.ref pe) = modK fine ph ps odds pe from rfl]
    have um : Kp (one m) H24 (upd H24 m (.dK (modK fine ph ps odds pe))) := Kp.refl.put rfl
    have hp24 := u2024.keep _ _ hp20 npS
    have hds24 := hds20.kp u2024
    have ndk : ∀ pr pc pl f, (HO.dK (modO fine ph ps odds)) ≠ .dK (hdK pr pc pl f) := fun pr pc pl f z => by simp [modO, hdK] at z
    have u1724 : Kp (more S ph) H17 H24 := u20.trans (u2024.mono fun a h => .inl h)
    have uH : Kp S H (upd H24 m (.dK (modK fine ph ps odds pe))) := ⟨fun b x hb ns => by
      rw [upd_ne (ne_of_none hb nm0)]
      exact u1724.keep b x (u017.keep b x hb ns) fun z => z.elim ns (ne_of_none hb np0), fun b hb => um.dom b (u1724.dom b (u017.dom b hb))⟩
    have lh := congrArg List.length hnm
    rw [List.length_map] at lh
    refine ⟨_, rfl, hQ m ⟨fine, hs, so, odds, n0 :: ez⟩ _ uH (((da23.ext e24).putn dnm).more (by omega)) ⟨ph, ps, pe, nk, ⟨upd_same, nmS⟩, ⟨by rw [upd_ne (Ne.symm npm)]; exact hp24, npS⟩, hdsat_lk hds24 m24.1 um ndk (by simp [modO]) (by simp [modO]), ⟨by rw [upd_ne psm]; exact (s20.kp u2024).1, so1.2⟩, a24.off m24.1 (by simp) um⟩ ⟨⟨f1, f2, ⟨?_, ?_, fun p hp => ?_, ?_, fun p hp r hr => ((hgood p hp).ok r hr).2.1, fun p hp z hz => ?_⟩, by simp [ModelD.net], ?_, fun z hz => ?_, ?_⟩, fun p hp => ⟨(hgood p hp).fit, fun r hr => ((hgood p hp).ok r hr).1⟩, so2, so3, o1, o2⟩ ?_ fun p hp r hr => ((hgood p hp).ok r hr).2.2⟩
    · show 1 ≤ hs.length
      omega
    · show hs.length ≤ 8
      omega
    · exact isn p.1 (hnm ▸ List.mem_map.mpr ⟨p, hp, rfl⟩)
    · show (hs.map (·.1)).Nodup
      rw [hnm]; exact nd
    · show z ∈ hs.map (·.1)
      rw [hnm]; exact (hgood p hp).cl z hz
    · show (n0 :: ez).Nodup
      rw [hnr] at nd
      exact nd.sublist (sub.cons₂ n0)
    · show z ∈ hs.map (·.1)
      rw [hnm, hnr]
      exact (sub.cons₂ n0).subset hz
    · show (n0 :: ez).length < 64
      simp
      omega
    · show hs.length ≤ most
      omega
end
end Ws

set_option Elab.async false
set_option linter.all false
set_option maxRecDepth 100000
set_option maxHeartbeats 4000000
namespace Ws
open PySem PySem.Spec PyProof.Rows L2
def NoTbl (o : HO) : Prop := ∀ ps, o ≠ .tbl ps
/-- all that stands (no tables) stands still, over another set of what may change -/
def Tr (S T : Addr → Prop) (H H1 : Hp) : Prop := ∀ a o, NoTbl o → At S H a o → At T H1 a o
section
variable {S T U : Addr → Prop} {K : PySem.W.Frag} {H H1 H2 : Hp} {a : Addr}
theorem noTbl_tup {xs : List V} : NoTbl (.tup xs) := fun _ z => nomatch z
theorem noTbl_lst {xs : List V} : NoTbl (.lst xs) := fun _ z => nomatch z
theorem noTbl_dK {xs : List (Key × V)} : NoTbl (.dK xs) := fun _ z => nomatch z
theorem noTbl_ins {C dx : Addr} {fs : List (Str × V)} : NoTbl (.ins C dx fs) := fun _ z => nomatch z
theorem Tr.kp (u : Kp S H H1) : Tr S S H H1 := fun _ _ _ h => h.kp u
theorem Tr.ext (e : Ext H H1) : Tr S S H H1 := .kp (.ext e)
theorem Tr.grow {q : Addr} (hq : H q = none) : Tr S (more S q) H H := fun _ _ _ h => h.grow hq
/-- a table among what may change -/
theorem Tr.tab {q : Addr} {ps : Array Value} (hq : H q = some (.tbl ps)) : Tr S (more S q) H H := fun b o n h => ⟨h.1, fun z => z.elim h.2 fun e => by
  have h1 := h.1
  rw [e, hq] at h1
  exact n ps (Option.some.inj h1).symm⟩
theorem Tr.sub (s : ∀ a, T a → S a) : Tr S T H H := fun _ _ _ h => ⟨h.1, fun z => h.2 (s _ z)⟩
theorem Tr.trans (f : Tr S T H H1) (g : Tr T U H1 H2) : Tr S U H H2 := fun a o n h => g a o n (f a o n h)
theorem At.tr {o : HO} (h : At S H a o) (f : Tr S T H H1) (n : NoTbl o) : At T H1 a o := f a o n h
theorem RuleAt.tr {r : RuleD} (h : RuleAt S K H a r) (f : Tr S T H H1) : RuleAt T K H1 a r := by
  obtain ⟨ok, dx, p, h1, h2⟩ := h
  exact ⟨ok, dx, p, h1.tr f noTbl_ins, h2.tr f noTbl_tup⟩
theorem HouseAt.tr {x : HouseD} (t : HouseAt S K H a x) (f : Tr S T H H1) : HouseAt T K H1 a x := by
  obtain ⟨ft, s1, s2, dx, pr, pc, pl, os, h1, h2, h3, h4, h5⟩ := t
  exact ⟨ft, s1, s2, dx, pr, pc, pl, os, h1.tr f noTbl_ins, h2.tr f noTbl_tup, Paired.mapP h3 fun _ _ z => z.tr f, h4.tr f noTbl_tup, h5.tr f noTbl_tup⟩
theorem NetAt.tr {n : NetD} (t : NetAt S K H a n) (f : Tr S T H H1) : NetAt T K H1 a n := by
  obtain ⟨ft, s1, s2, dx, ph, pe, kvs, h1, h2, h3, h4⟩ := t
  exact ⟨ft, s1, s2, dx, ph, pe, kvs, h1.tr f noTbl_ins, h2.tr f noTbl_dK, Paired.mapP h3 fun kv nh ⟨g1, b, g2, g3⟩ => ⟨g1, b, g2, g3.tr f⟩, h4.tr f noTbl_tup⟩
theorem HdAt.tr {x : HouseD} (t : HdAt S H a x) (f : Tr S T H H1) : HdAt T H1 a x := by
  obtain ⟨pr, pc, pl, os, h1, h2, h3, h4, h5⟩ := t
  exact ⟨pr, pc, pl, os, h1.tr f noTbl_dK, h2.tr f noTbl_lst, Paired.mapP h3 fun _ _ z => z.tr f noTbl_tup, h4.tr f noTbl_lst, h5.tr f noTbl_lst⟩
theorem ModelAt.tr {md : ModelD} (t : ModelAt S H a md) (f : Tr S T H H1) : ModelAt T H1 a md := by
  obtain ⟨ph, ps, pe, kvs, h1, h2, h3, h4, h5⟩ := t
  exact ⟨ph, ps, pe, kvs, h1.tr f noTbl_dK, h2.tr f noTbl_dK, Paired.mapP h3 fun kv nh ⟨g1, b, g2, g3⟩ => ⟨g1, b, g2, g3.tr f⟩, h4.tr f noTbl_lst, h5.tr f noTbl_lst⟩
theorem DrawAt.sub {d w c : Addr} {n : Nat} (h : DrawAt S H d w c n) (s : ∀ a, T a → S a) (sd : T d) (sw : T w) : DrawAt T H d w c n := by
  obtain ⟨_, _, ws, cs, rest, turn, h1, h2, h3, h4, h5, h6⟩ := h
  exact ⟨sd, sw, ws, cs, rest, turn, h1, h2, ⟨h3.1, fun z => h3.2 (s _ z)⟩, h4, h5, h6⟩
end
end Ws

set_option Elab.async false
set_option linter.all false
set_option maxRecDepth 100000
set_option maxHeartbeats 4000000
namespace Ws
open PySem PySem.Spec PyProof.Rows L2
theorem seq_cut {t u : TS} {D : Ends} {σ : L2.St} {H : Hp} (I : L2.St → Hp → Prop) (tail : ∀ σ' H', I σ' H' → u D σ' H') (h : (∀ σ' H', I σ' H' → u D σ' H') → t { D with nx := u D } σ H) : tSeq t u D σ H := h tail
/-- what stood keeps standing when one thing that is new changes -/
theorem ext_more {H H1 H2 : Hp} {l : Addr} (e : Ext H H1) (nl : H l = none) (u : Kp (more no l) H1 H2) : Ext H H2 := fun a o h => u.keep a o (e a o h) fun z => z.elim (fun z => z) fun z => by rw [z, nl] at h; cases h
theorem ext_none {H H1 : Hp} {p : Addr} (e : Ext H H1) (h : H1 p = none) : H p = none := by
  cases q : H p with
  | none => rfl
  | some o => rw [e p o q] at h; cases h
theorem houses_kV {S : Addr → Prop} {K : PySem.W.Frag} {H : Hp} {kvs : List (Key × V)} {hs : Hs} (h : HousesAt S K H kvs hs) : (kvs.map fun kv => kV kv.1) = (hs.map (·.1)).map V.str := by
  have e2 : (kvs.map fun kv => kV kv.1) = (kvs.map (·.1)).map kV := by rw [List.map_map]; rfl
  rw [e2, h.keys, List.map_map]
  rfl
section
variable {P : Program} {w : World} {K : PySem.W.Frag} {mg : Str → Option Value} {base : Heap}
def sp_Rule_mark (K : PySem.W.Frag) : Sp := fun vs H Q _ => ∃ (S : Addr → Prop) (o : Addr) (r : RuleD), vs = [.ref o] ∧ RuleAt S K H o r ∧ Q (.str r.mark) H
theorem sc_Rule_mark : FnScope ["self"] ["self"] (defScope s_Rule_mark) := ⟨rfl, rfl, rfl, by decide +kernel, rfl, by decide +kernel, by decide +kernel⟩
theorem ok_Rule_mark (x : Fx K mg w) : FnR P w K mg base CX0 1 (a_Rule_mark K) (sp_Rule_mark K) := by
  refine okR x.F_Rule_mark sc_Rule_mark (fun _ _ _ _ _ _ us hl => match us, hl with | [_], _ => rfl) (fun vs H Q E h => by obtain ⟨S, o, r, rfl, ⟨_, dx, p, h1, h2⟩, hQ⟩ := h; rfl) (fun cdv A outer s H vs Q E hr h => ?_)
  obtain ⟨S, o, r, rfl, ⟨_, dx, p, h1, h2⟩, hQ⟩ := h
  refine ⟨_, (pss_one (ps_ret (pe_ix (r := rIxT K) ix_tup (pe_fldK (K := K) rfl (pv 0) rfl) pe_int (fun _ _ => rfl)))), ?_⟩
  exact ⟨_, rfl, o, _, dx, _, _, rfl, h1.1, x.cl_Rule, x.na_Rule_r_parts, rfl, p, _, 1, _, rfl, rfl, SqT.of h2.1, atI_nat (j := 1) rfl, hQ⟩
def sp_Rule_always (K : PySem.W.Frag) : Sp := fun vs H Q _ => ∃ (S : Addr → Prop) (o : Addr) (r : RuleD), vs = [.ref o] ∧ RuleAt S K H o r ∧ Q (.bl r.always) H
theorem sc_Rule_always : FnScope ["self"] ["self"] (defScope s_Rule_always) := ⟨rfl, rfl, rfl, by decide +kernel, rfl, by decide +kernel, by decide +kernel⟩
theorem ok_Rule_always (x : Fx K mg w) : FnR P w K mg base CX0 1 (a_Rule_always K) (sp_Rule_always K) := by
  refine okR x.F_Rule_always sc_Rule_always (fun _ _ _ _ _ _ us hl => match us, hl with | [_], _ => rfl) (fun vs H Q E h => by obtain ⟨S, o, r, rfl, ⟨_, dx, p, h1, h2⟩, hQ⟩ := h; rfl) (fun cdv A outer s H vs Q E hr h => ?_)
  obtain ⟨S, o, r, rfl, ⟨_, dx, p, h1, h2⟩, hQ⟩ := h
  refine ⟨_, (pss_one (ps_ret (pe_ix (r := rIxT K) ix_tup (pe_fldK (K := K) rfl (pv 0) rfl) pe_int (fun _ _ => rfl)))), ?_⟩
  exact ⟨_, rfl, o, _, dx, _, _, rfl, h1.1, x.cl_Rule, x.na_Rule_r_parts, rfl, p, _, 2, _, rfl, rfl, SqT.of h2.1, atI_nat (j := 2) rfl, hQ⟩
def sp_Rule_late (K : PySem.W.Frag) : Sp := fun vs H Q _ => ∃ (S : Addr → Prop) (o : Addr) (r : RuleD), vs = [.ref o] ∧ RuleAt S K H o r ∧ Q (.bl r.late) H
theorem sc_Rule_late : FnScope ["self"] ["self"] (defScope s_Rule_late) := ⟨rfl, rfl, rfl, by decide +kernel, rfl, by decide +kernel, by decide +kernel⟩
theorem ok_Rule_late (x : Fx K mg w) : FnR P w K mg base CX0 1 (a_Rule_late K) (sp_Rule_late K) := by
  refine okR x.F_Rule_late sc_Rule_late (fun _ _ _ _ _ _ us hl => match us, hl with | [_], _ => rfl) (fun vs H Q E h => by obtain ⟨S, o, r, rfl, ⟨_, dx, p, h1, h2⟩, hQ⟩ := h; rfl) (fun cdv A outer s H vs Q E hr h => ?_)
  obtain ⟨S, o, r, rfl, ⟨_, dx, p, h1, h2⟩, hQ⟩ := h
  refine ⟨_, (pss_one (ps_ret (pe_ix (r := rIxT K) ix_tup (pe_fldK (K := K) rfl (pv 0) rfl) pe_int (fun _ _ => rfl)))), ?_⟩
  exact ⟨_, rfl, o, _, dx, _, _, rfl, h1.1, x.cl_Rule, x.na_Rule_r_parts, rfl, p, _, 3, _, rfl, rfl, SqT.of h2.1, atI_nat (j := 3) rfl, hQ⟩
def sp_Net_fine (K : PySem.W.Frag) : Sp := fun vs H Q _ => ∃ (S : Addr → Prop) (o : Addr) (n : NetD), vs = [.ref o] ∧ NetAt S K H o n ∧ Q (.int n.fine) H
theorem sc_Net_fine : FnScope ["self"] ["self"] (defScope s_Net_fine) := ⟨rfl, rfl, rfl, by decide +kernel, rfl, by decide +kernel, by decide +kernel⟩
theorem ok_Net_fine (x : Fx K mg w) : FnR P w K mg base CX0 1 (a_Net_fine K) (sp_Net_fine K) := by
  refine okR x.F_Net_fine sc_Net_fine (fun _ _ _ _ _ _ us hl => match us, hl with | [_], _ => rfl) (fun vs H Q E h => by obtain ⟨S, o, n, rfl, ⟨f, s1, s2, dx, ph, pe, kvs, h1, h2, h3, h4⟩, hQ⟩ := h; rfl) (fun cdv A outer s H vs Q E hr h => ?_)
  obtain ⟨S, o, n, rfl, ⟨f, s1, s2, dx, ph, pe, kvs, h1, h2, h3, h4⟩, hQ⟩ := h
  refine ⟨_, (pss_one (ps_ret (pe_fldK (K := K) rfl (pv 0) rfl))), ?_⟩
  exact ⟨_, rfl, o, _, dx, _, _, rfl, h1.1, x.cl_Net, x.na_Net_n_fine, rfl, hQ⟩
def sp_Net_entries (K : PySem.W.Frag) : Sp := fun vs H Q _ => ∃ (S : Addr → Prop) (o : Addr) (n : NetD), vs = [.ref o] ∧ NetAt S K H o n ∧ ∀ p, At S H p (.tup (n.entries.map V.str)) → Q (.ref p) H
theorem sc_Net_entries : FnScope ["self"] ["self"] (defScope s_Net_entries) := ⟨rfl, rfl, rfl, by decide +kernel, rfl, by decide +kernel, by decide +kernel⟩
theorem ok_Net_entries (x : Fx K mg w) : FnR P w K mg base CX0 1 (a_Net_entries K) (sp_Net_entries K) := by
  refine okR x.F_Net_entries sc_Net_entries (fun _ _ _ _ _ _ us hl => match us, hl with | [_], _ => rfl) (fun vs H Q E h => by obtain ⟨S, o, n, rfl, ⟨f, s1, s2, dx, ph, pe, kvs, h1, h2, h3, h4⟩, hQ⟩ := h; rfl) (fun cdv A outer s H vs Q E hr h => ?_)
  obtain ⟨S, o, n, rfl, ⟨f, s1, s2, dx, ph, pe, kvs, h1, h2, h3, h4⟩, hQ⟩ := h
  refine ⟨_, (pss_one (ps_ret (pe_fldK (K := K) rfl (pv 0) rfl))), ?_⟩
  exact ⟨_, rfl, o, _, dx, _, _, rfl, h1.1, x.cl_Net, x.na_Net_n_entries, rfl, hQ _ h4⟩
def sp_Net_names (K : PySem.W.Frag) : Sp := fun vs H Q _ => ∃ (S : Addr → Prop) (o : Addr) (n : NetD), vs = [.ref o] ∧ NetAt S K H o n ∧ ∀ p, H p = none → Q (.ref p) (upd H p (.tup (n.names.map V.str)))
theorem sc_Net_names : FnScope ["self"] ["self"] (defScope s_Net_names) := ⟨rfl, rfl, rfl, by decide +kernel, rfl, by decide +kernel, by decide +kernel⟩
theorem ok_Net_names (x : Fx K mg w) : FnR P w K mg base CX0 1 (a_Net_names K) (sp_Net_names K) := by
  refine okR x.F_Net_names sc_Net_names (fun _ _ _ _ _ _ us hl => match us, hl with | [_], _ => rfl) (fun vs H Q E h => by obtain ⟨S, o, n, rfl, ⟨f, s1, s2, dx, ph, pe, kvs, h1, h2, h3, h4⟩, hQ⟩ := h; rfl) (fun cdv A outer s H vs Q E hr h => ?_)
  obtain ⟨S, o, n, rfl, ⟨f, s1, s2, dx, ph, pe, kvs, h1, h2, h3, h4⟩, hQ⟩ := h
  refine ⟨_, (pss_one (ps_ret (pe_callTy (r := rTupD) (call_tupD rfl) rfl x.n_tuple bb_tuple (pa_cons (pe_fldK (K := K) rfl (pv 0) rfl) pa_nil)))), ?_⟩
  refine ⟨_, rfl, o, _, dx, _, _, rfl, h1.1, x.cl_Net, x.na_Net_n_houses, rfl, ph, kvs, rfl, h2.1, ?_, fun p np => ?_⟩
  · have := h3.len
    have := f.hs.l2
    omega
  · rw [houses_kV h3]
    exact hQ p np
end
end Ws

set_option Elab.async false
set_option linter.all false
set_option maxRecDepth 100000
set_option maxHeartbeats 4000000
namespace Ws
open PySem PySem.Spec PyProof.Rows L2
def numS (i : Int) : Str := toString i
/-- what a rule keeps -/
def keepW (r : RuleD) : List Str := (if r.always then ["always"] else [] : List Str) ++ (if r.late then ["late"] else [] : List Str)
def ruleW (r : RuleD) : List Str := "rule" :: numS r.share :: r.mark :: keepW r
def headW (z : Str) (h : HouseD) : List Str := "house" :: z :: (if h.fails then ["fails"] else [])
def callS (h : HouseD) (o : Str) : Str := if o ∈ h.lost then o ++ "*" else o
def callsW (h : HouseD) : List Str := "calls" :: h.calls.map (callS h)
def houseW (z : Str) (h : HouseD) : List (List Str) := (headW z h :: h.rules.map ruleW) ++ (if h.calls = [] then [] else [callsW h])
def netW (n : NetD) : List (List Str) := ((["fine", numS n.fine] : List Str) :: (n.houses.map fun p => houseW p.1 p.2).flatten) ++ [(("entries" : Str) :: n.entries : List Str)]
def lineS (ws : List Str) : Str := Txt.join " " ws
def netText (n : NetD) : Str := Txt.join "" ((netW n).map fun ws => lineS ws ++ "\n")
theorem numS_nat (n : Nat) : numS (n : Nat) = ⟨(TL.numL n).toArray⟩ := TL.ext_tl (TL.tl_num n)
theorem numS_len {i : Int} (h0 : 0 ≤ i) (h1 : i ≤ 1000) : (numS i).length ≤ 4 := by
  obtain ⟨n, rfl⟩ := Int.eq_ofNat_of_zero_le h0
  show (numS (n : Nat)).length ≤ 4
  rw [numS_nat, TL.len_tl]
  exact TL.numL_len (by decide) (by have : (n : Int) ≤ 1000 := h1; omega)
theorem log_small {i : Int} (h0 : 0 ≤ i) (h1 : i ≤ 1000) : i.natAbs.log2 < 1920 := Nat.lt_of_le_of_lt (Nat.log2_le_self _) (by omega)
theorem sum_lens {m : Nat} : ∀ {ys : List Str}, (∀ y ∈ ys, y.length ≤ m) → (ys.map (·.length)).sum ≤ m * ys.length
  | [], _ => Nat.zero_le _
  | y :: ys, h => by
    have h1 := h y List.mem_cons_self
    have h2 := sum_lens (m := m) (ys := ys) fun z hz => h z (List.mem_cons_of_mem _ hz)
    rw [List.map_cons, List.sum_cons, List.length_cons, Nat.mul_succ]
    omega
theorem tl_line (ws : List Str) : TL.tl (lineS ws) = TL.joinL [32] (ws.map TL.tl) := by
  unfold lineS
  rw [TL.join_eq, TL.tl_join]
  rfl
theorem tl_e : TL.tl Str.empty = [] := rfl
theorem tl_sp : TL.tl (" " : Str) = [32] := rfl
theorem tl_house : TL.tl ("house " : Str) = TL.tl "house" ++ [32] := by decide +kernel
theorem tl_rule : TL.tl ("rule " : Str) = TL.tl "rule" ++ [32] := by decide +kernel
theorem tl_fine : TL.tl ("fine " : Str) = TL.tl "fine" ++ [32] := by decide +kernel
theorem tl_calls : TL.tl ("calls " : Str) = TL.tl "calls" ++ [32] := by decide +kernel
theorem tl_entries : TL.tl ("entries " : Str) = TL.tl "entries" ++ [32] := by decide +kernel
theorem tl_sfails : TL.tl (" fails" : Str) = 32 :: TL.tl "fails" := by decide +kernel
theorem tl_salways : TL.tl (" always" : Str) = 32 :: TL.tl "always" := by decide +kernel
theorem tl_slate : TL.tl (" late" : Str) = 32 :: TL.tl "late" := by decide +kernel
theorem tl_no : TL.tl ("" : Str) = [] := rfl
theorem joinL_cons (S p : List Nat) : ∀ (ps : List (List Nat)), ps ≠ [] → TL.joinL S (p :: ps) = p ++ (S ++ TL.joinL S ps)
  | [], h => absurd rfl h
  | q :: r, _ => by simp [TL.joinL]
/-- the head of a house as the program makes it -/
theorem head_t {z : Str} {h : HouseD} (f : h.fails = true) : (((Str.empty ++ "house ") ++ z) ++ " ") ++ "fails" = lineS (headW z h) := by
  refine TL.ext_tl ?_
  simp [TL.tl_append, tl_line, headW, f, TL.joinL, tl_e, tl_sp, tl_house]
theorem head_f {z : Str} {h : HouseD} (f : h.fails = false) : (Str.empty ++ "house ") ++ z = lineS (headW z h) := by
  refine TL.ext_tl ?_
  simp [TL.tl_append, tl_line, headW, f, TL.joinL, tl_e, tl_house]
def alwS (b : Bool) : Str := if b = true then " always" else ""
def latS (b : Bool) : Str := if b = true then " late" else ""
theorem rule_line {r : RuleD} : (((((Str.empty ++ "rule ") ++ numS r.share) ++ " ") ++ r.mark) ++ alwS r.always) ++ latS r.late = lineS (ruleW r) := by
  refine TL.ext_tl ?_
  cases h1 : r.always <;> cases h2 : r.late <;> simp [TL.tl_append, tl_line, ruleW, keepW, h1, h2, TL.joinL, tl_e, tl_sp, tl_rule, alwS, latS, tl_no, tl_salways, tl_slate]
theorem call_t {h : HouseD} {o : Str} (m : o ∈ h.lost) : (Str.empty ++ o) ++ "*" = callS h o := by
  unfold callS
  rw [if_pos m]
  refine TL.ext_tl ?_
  simp [TL.tl_append, tl_e]
theorem callS_len {h : HouseD} {o : Str} (n : isName o = true) : (callS h o).length ≤ 7 := by
  have := isName_len n
  unfold callS
  split
  · rw [slen, show ("*" : Str).length = 1 from rfl]
    omega
  · omega
theorem houseW_len {z : Str} {h : HouseD} (f : h.Fit) : (houseW z h).length ≤ 4 := by
  have r2 := f.r2
  unfold houseW
  split <;> simp <;> omega
theorem flat_len {α : Type} (g : α → List (List Str)) (m : Nat) : ∀ {l : List α}, (∀ p ∈ l, (g p).length ≤ m) → (l.map g).flatten.length ≤ m * l.length
  | [], _ => Nat.zero_le _
  | p :: l, h => by
    have h1 := h p List.mem_cons_self
    have h2 := flat_len g m (l := l) fun q hq => h q (List.mem_cons_of_mem _ hq)
    rw [List.map_cons, List.flatten_cons, List.length_append, List.length_cons, Nat.mul_succ]
    omega
theorem houses_fit {S : Addr → Prop} {K : PySem.W.Frag} {H : Hp} : ∀ {kvs : List (Key × V)} {hs : Hs}, HousesAt S K H kvs hs → ∀ p ∈ hs, p.2.Fit ∧ sortedS p.2.calls = true ∧ sortedS p.2.lost = true ∧ ∀ r ∈ p.2.rules, r.ok
  | _, _, .nil, p, hp => by simp at hp
  | _, _, .cons ⟨_, a, _, t⟩ r, p, hp => by
    rcases List.mem_cons.mp hp with rfl | hp
    · obtain ⟨f, s1, s2, dx, pr, pc, pl, os, h1, h2, h3, h4, h5⟩ := t
      refine ⟨f, s1, s2, fun r hr => ?_⟩
      obtain ⟨i, hi⟩ := List.getElem?_of_mem hr
      obtain ⟨o, _, ho⟩ := pr_atR h3 hi
      exact ho.1
    · exact houses_fit r p hp
/-- the law's own rows -/
theorem law_head {z : Str} {h : HouseD} : ("house " ++ z) ++ (if h.fails = true then (" fails" : Str) else "") = lineS (headW z h) := by
  refine TL.ext_tl ?_
  cases f : h.fails <;> simp [TL.tl_append, tl_line, headW, f, TL.joinL, tl_house, tl_no, tl_sfails]
theorem law_rule {r : RuleD} : ((("rule " ++ numS r.share) ++ " ") ++ r.mark) ++ (alwS r.always ++ latS r.late) = lineS (ruleW r) := by
  refine TL.ext_tl ?_
  cases h1 : r.always <;> cases h2 : r.late <;> simp [TL.tl_append, tl_line, ruleW, keepW, h1, h2, TL.joinL, tl_sp, tl_rule, alwS, latS, tl_no, tl_salways, tl_slate]
theorem law_calls {w : Str} {ws : List Str} (hw : ws ≠ []) {w' : Str} (e : TL.tl w' = TL.tl w ++ [32]) : w' ++ lineS ws = lineS (w :: ws) := by
  refine TL.ext_tl ?_
  rw [TL.tl_append, tl_line, tl_line, List.map_cons, joinL_cons _ _ _ (by simpa using hw), e]
  simp
theorem fine_line {i : Int} : (Str.empty ++ "fine ") ++ numS i = lineS ["fine", numS i] := by
  refine TL.ext_tl ?_
  simp [TL.tl_append, tl_line, TL.joinL, tl_e, tl_fine]
theorem law_fine {i : Int} : "fine " ++ numS i = lineS ["fine", numS i] := by
  refine TL.ext_tl ?_
  simp [TL.tl_append, tl_line, TL.joinL, tl_fine]
/-- lines, each ended, are the lines joined and the last ended -/
theorem joinL_ends (s : Nat) : ∀ (ps : List (List Nat)), ps ≠ [] → (ps.map fun p => p ++ [s]).flatten = TL.joinL [s] ps ++ [s]
  | [], h => absurd rfl h
  | [p], _ => by simp [TL.joinL]
  | p :: q :: r, _ => by
    have := joinL_ends s (q :: r) (by simp)
    rw [List.map_cons, List.flatten_cons, this, joinL_cons [s] p (q :: r) (by simp)]
    simp
theorem text_law {ls : List Str} (h : ls ≠ []) : Txt.join "\n" ls ++ "\n" = Txt.join "" (ls.map fun l => l ++ "\n") := by
  refine TL.ext_tl ?_
  rw [TL.tl_append, TL.join_eq, TL.join_eq, TL.tl_join, TL.tl_join, show TL.tl ("" : Str) = [] from rfl, show TL.tl ("\n" : Str) = [10] from rfl, joinL_nil, List.map_map]
  have := joinL_ends 10 (ls.map TL.tl) (by simpa using h)
  rw [← this, List.map_map]
  congr 1
  refine List.map_congr_left fun l _ => ?_
  show TL.tl l ++ [10] = TL.tl (l ++ "\n")
  rw [TL.tl_append]
  rfl
theorem joinL_len (s : Nat) : ∀ (ps : List (List Nat)), (TL.joinL [s] ps).length ≤ (ps.map (·.length)).sum + ps.length
  | [] => Nat.zero_le _
  | [p] => by simp [TL.joinL]
  | p :: q :: r => by
    have := joinL_len s (q :: r)
    rw [joinL_cons [s] p (q :: r) (by simp), List.map_cons, List.sum_cons, List.length_append, List.length_append, List.length_cons (a := p), List.length_singleton]
    omega
/-- a word of a line -/
def Wd (w : Str) : Prop := w.length ≤ 10 ∧ ∀ c ∈ TL.tl w, 33 ≤ c ∧ c ≤ 126
theorem wd_name {z : Str} (h : isName z = true) : Wd z := by
  refine ⟨by have := isName_len h; omega, fun c hc => ?_⟩
  have := (isName_iff.mp h).2.2 c hc
  have all : ∀ c ∈ letters.cps.toList, 33 ≤ c ∧ c ≤ 126 := by decide +kernel
  exact all c this
theorem wd_num {i : Int} (h0 : 0 ≤ i) (h1 : i ≤ 1000) : Wd (numS i) := by
  refine ⟨by have := numS_len h0 h1; omega, fun c hc => ?_⟩
  obtain ⟨n, rfl⟩ := Int.eq_ofNat_of_zero_le h0
  have e : TL.tl (numS (n : Nat)) = TL.numL n := by rw [numS_nat]
  have hc : c ∈ TL.numL n := e ▸ hc
  refine Classical.byContradiction fun z => TL.numL_free (n := n) (s := c) (by omega) hc
theorem wd_call {h : HouseD} {o : Str} (n : isName o = true) : Wd (callS h o) := by
  refine ⟨by have := callS_len (h := h) n; omega, fun c hc => ?_⟩
  unfold callS at hc
  split at hc
  · rw [TL.tl_append] at hc
    rcases List.mem_append.mp hc with hc | hc
    · exact (wd_name n).2 c hc
    · have : c = 42 := by simpa using (show c ∈ [42] from hc)
      omega
  · exact (wd_name n).2 c hc
theorem wd_of {w : Str} (h : (decide (w.length ≤ 10) && (TL.tl w).all fun c => decide (33 ≤ c) && decide (c ≤ 126)) = true) : Wd w := by
  simp only [Bool.and_eq_true, decide_eq_true_eq, List.all_eq_true] at h
  exact h
/-- a line by its words -/
def Ln (ws : List Str) : Prop := ws ≠ [] ∧ ws.length ≤ 66 ∧ ∀ w ∈ ws, Wd w
theorem keepW_mem {r : RuleD} {w : Str} (h : w ∈ keepW r) : w = "always" ∨ w = "late" := by
  unfold keepW at h
  rcases List.mem_append.mp h with h | h <;> split at h <;> simp at h
  · exact .inl h
  · exact .inr h
theorem ln_rule {r : RuleD} (ok : r.ok) : Ln (ruleW r) := by
  refine ⟨by simp [ruleW], ?_, fun w hw => ?_⟩
  · unfold ruleW keepW
    split <;> split <;> simp
  · simp only [ruleW, List.mem_cons] at hw
    rcases hw with rfl | rfl | rfl | hw
    · exact wd_of (by decide)
    · exact wd_num ok.1 ok.2.1
    · exact wd_name ok.2.2
    · rcases keepW_mem hw with rfl | rfl
      · exact wd_of (by decide)
      · exact wd_of (by decide)
theorem ln_house {z : Str} {h : HouseD} (f : h.Fit) (hz : isName z = true) (hr : ∀ r ∈ h.rules, r.ok) : ∀ ws ∈ houseW z h, Ln ws := fun ws hw => by
  unfold houseW at hw
  rcases List.mem_append.mp hw with hw | hw
  · rcases List.mem_cons.mp hw with rfl | hw
    · refine ⟨by simp [headW], by unfold headW; split <;> simp, fun w hw => ?_⟩
      simp only [headW, List.mem_cons] at hw
      rcases hw with rfl | rfl | hw
      · exact wd_of (by decide)
      · exact wd_name hz
      · split at hw
        · rw [List.mem_singleton.mp hw]
          exact wd_of (by decide)
        · simp at hw
    · obtain ⟨r, hm, rfl⟩ := List.mem_map.mp hw
      exact ln_rule (hr r hm)
  · split at hw
    · simp at hw
    · rw [List.mem_singleton.mp hw]
      have := f.ln
      refine ⟨by simp [callsW], by simp [callsW]; omega, fun w hw => ?_⟩
      rcases List.mem_cons.mp hw with rfl | hw
      · exact wd_of (by decide)
      · obtain ⟨o, ho, rfl⟩ := List.mem_map.mp hw
        exact wd_call (f.nm o ho)
/-- the net's houses are such as constructors leave -/
def GoodN (n : NetD) : Prop := n.Fit ∧ sortedS (n.houses.map (·.1)) = true ∧ sortedS n.entries = true ∧ ∀ p ∈ n.houses, p.2.Fit ∧ sortedS p.2.calls = true ∧ sortedS p.2.lost = true ∧ ∀ r ∈ p.2.rules, r.ok
theorem NetAt.good {S : Addr → Prop} {K : PySem.W.Frag} {H : Hp} {o : Addr} {n : NetD} (t : NetAt S K H o n) : GoodN n := by
  obtain ⟨f, s1, s2, dx, ph, pe, kvs, h1, h2, h3, h4⟩ := t
  exact ⟨f, s1, s2, houses_fit h3⟩
theorem ln_net {n : NetD} (g : GoodN n) : ∀ ws ∈ netW n, Ln ws := fun ws hw => by
  obtain ⟨f, _, _, hf⟩ := g
  unfold netW at hw
  rcases List.mem_append.mp hw with hw | hw
  · rcases List.mem_cons.mp hw with rfl | hw
    · refine ⟨by simp, by simp, fun w hw => ?_⟩
      simp only [List.mem_cons, List.not_mem_nil, or_false] at hw
      have f1 := f.f1
      rcases hw with rfl | rfl
      · exact wd_of (by decide)
      · exact wd_num (by omega) f.f2
    · obtain ⟨l, hl, hw⟩ := List.mem_flatten.mp hw
      obtain ⟨p, hp, rfl⟩ := List.mem_map.mp hl
      exact ln_house (hf p hp).1 (f.hs.nm p hp) (hf p hp).2.2.2 ws hw
  · rw [List.mem_singleton.mp hw]
    have := f.ln
    refine ⟨by simp, by simp; omega, fun w hw => ?_⟩
    rcases List.mem_cons.mp hw with rfl | hw
    · exact wd_of (by decide)
    · exact wd_name (f.nme w hw)
theorem netW_len {n : NetD} (g : GoodN n) : (netW n).length ≤ 34 := by
  have b1 := flat_len (fun p : Str × HouseD => houseW p.1 p.2) 4 (l := n.houses) fun p hp => houseW_len (g.2.2.2 p hp).1
  have := g.1.hs.l2
  unfold netW
  simp only [List.length_append, List.length_cons, List.length_nil]
  omega
theorem line_len {ws : List Str} (h : Ln ws) : (lineS ws).length ≤ 726 := by
  rw [TL.len_tl, tl_line]
  have h1 := joinL_len 32 (ws.map TL.tl)
  have h2 := sum_lens (m := 10) (ys := ws) fun y hy => (h.2.2 y hy).1
  have h3 : (ws.map TL.tl).map (·.length) = ws.map (·.length) := by
    rw [List.map_map]
    exact List.map_congr_left fun w _ => (TL.len_tl w).symm
  rw [h3, List.length_map] at h1
  have := h.2.1
  omega
end Ws

set_option Elab.async false
set_option linter.all false
set_option maxRecDepth 100000
set_option maxHeartbeats 4000000
namespace Ws
open PySem PySem.Spec PyProof.Rows L2
section
variable {P : Program} {w : World} {K : PySem.W.Frag} {mg : Str → Option Value} {base : Heap}
def sp_house_lines (K : PySem.W.Frag) : Sp := fun vs H Q _ => ∃ (S : Addr → Prop) (a : Addr) (z : Str) (h : HouseD), vs = [.str z, .ref a] ∧ HouseAt S K H a h ∧ isName z = true ∧
  ∀ p H', Ext H H' → H p = none → H' p = some (.lst ((houseW z h).map fun ws => .str (lineS ws))) → Q (.ref p) H'
theorem sc_house_lines : FnScope ["name", "house", "lines", "rule", "always", "late", "calls", "other"] ["name", "house"] (defScope s_house_lines) := ⟨rfl, rfl, rfl, by decide +kernel, rfl, by decide +kernel, by decide +kernel⟩
theorem ok_house_lines (x : Fx K mg w) : FnR P w K mg base CX0 3 (a_house_lines K) (sp_house_lines K) := by
  refine okR x.F_house_lines sc_house_lines (fun _ _ _ _ _ _ us hl => match us, hl with | [_, _], _ => rfl) (fun vs H Q E h => by obtain ⟨S, a, z, h, rfl, t, nz, hQ⟩ := h; rfl) (fun cdv A outer s H vs Q E hr h => ?_)
  obtain ⟨S, a, z, h, rfl, t, nz, hQ⟩ := h
  refine ⟨_, (pss_cons (ps_set (i := 2) sc_house_lines.nd rfl (Or.inl rfl) (pe_lst (pa_cons (pe_ifExp (pt_val (pe_propR (pv 1) x.cl_House x.p_House_fails (ok_House_fails x) (hr.mono (by decide)) pass0)) (pe_joined (PJ.cons pe_str (PJ.cons (pe_fmt (pv 0)) (PJ.cons pe_str (PJ.cons (pe_fmt (pe_gS x.z_FAILS rfl)) PJ.nil))))) (pe_joined (PJ.cons pe_str (PJ.cons (pe_fmt (pv 0)) PJ.nil)))) pa_nil)))
 (pss_cons (ps_for PassesOwn.never rfl (pi_tupK (K := K) rfl (pe_propR (pv 1) x.cl_House x.p_House_rules (ok_House_rules x) (hr.mono (by decide)) pass0)) (pg_name (i := 3) sc_house_lines.nd rfl (Or.inl rfl))
 (pss_cons (ps_par (i := 4) (j := 5) rfl sc_house_lines.nd rfl rfl (by decide) rfl rfl (pa_cons (pe_ifExp (pt_val (pe_propR (pv 3) x.cl_Rule x.p_Rule_always (ok_Rule_always x) (hr.mono (by decide)) pass0)) pe_str pe_str) (pa_cons (pe_ifExp (pt_val (pe_propR (pv 3) x.cl_Rule x.p_Rule_late (ok_Rule_late x) (hr.mono (by decide)) pass0)) pe_str pe_str) pa_nil)) (by rfl))
 (pss_one (ps_expr (pe_bmK (K := K) rfl PySem.F.plainAttrs_list PySem.F.slot_list_append PySem.F.type_list_append mt_append (pv 2) (pa_cons (pe_joined (PJ.cons pe_str (PJ.cons (pe_fmt (pe_propR (pv 3) x.cl_Rule x.p_Rule_share (ok_Rule_share x) (hr.mono (by decide)) pass0)) (PJ.cons pe_str (PJ.cons (pe_fmt (pe_propR (pv 3) x.cl_Rule x.p_Rule_mark (ok_Rule_mark x) (hr.mono (by decide)) pass0)) (PJ.cons (pe_fmt (pv 4)) (PJ.cons (pe_fmt (pv 5)) PJ.nil))))))) pa_nil))))))
 (pss_cons (ps_setLc (i := 6) (own := [("other", 7)]) (tt := tYes) rfl sc_house_lines.nd rfl rfl (sw_true rfl rfl rfl (by decide +kernel)) (pi_tupK (K := K) rfl (pe_propR (pv 1) x.cl_House x.p_House_calls (ok_House_calls x) (hr.mono (by decide)) pass0)) (blkOk_by (N := ["name", "house", "lines", "rule", "always", "late", "calls", "other"]) (sc := defScope s_house_lines) (by decide +kernel)) (fun _ _ _ _ _ => (pg_name (i := 7) sc_house_lines.nd rfl (Or.inl rfl))) (fun _ _ _ _ _ => pts_nil) (fun _ _ _ _ _ => (pe_ifExp (pt_cmpR (show OpR _ _ (rIn K false) from op_in_seq) (pv 7) (pe_propR (pv 1) x.cl_House x.p_House_lost (ok_House_lost x) (hr.mono (by decide)) pass0) rfl) (pe_joined (PJ.cons (pe_fmt (pv 7)) (PJ.cons pe_str PJ.nil))) (pv 7))))
 (pss_one (ps_ret (pe_ifExp (pt_cmpR (show OpR _ _ (rEqNil K true) from op_neNil hr) (pv 6) (pe_lst pa_nil) (nomark _)) (pe_lst (pa_starK (K := K) rfl (pv 2) (pa_cons (pe_joinK (K := K) rfl pe_str (pe_lst (pa_cons pe_str (pa_starK (K := K) rfl (pv 6) pa_nil)))) pa_nil))) (pv 2))))))), ?_⟩
  obtain ⟨f, s1, s2, dx, pr, pc, pl, os, h1, h2, h3, h4, h5⟩ := id t
  have lz := isName_len nz
  have lH : ("house " : Str).length = 6 := rfl
  have lF : ("fails" : Str).length = 5 := rfl
  have l1 : (" " : Str).length = 1 := rfl
  have l0 : Str.empty.length = 0 := rfl
  have lS : ("*" : Str).length = 1 := rfl
  refine seq_cut (fun σ' H' => ∃ l, Ext H H' ∧ H l = none ∧ H' l = some (.lst [.str (lineS (headW z h))]) ∧ σ' = [some (.str z), some (.ref a), some (.ref l), none, none, none, none, none]) ?_ fun tail => ?_
  · rintro σ' H1 ⟨l, e1, nl, hl, rfl⟩
    have th : HouseAt (more no l) K H1 a h := (t.free.grow nl).ext e1
    have ha1 := e1 _ _ h1.1
    dsimp only [gName]
    refine seq_cut (fun σ' H' => Kp (more no l) H1 H' ∧ H' l = some (.lst ((headW z h :: h.rules.map ruleW).map fun ws => .str (lineS ws))) ∧ ∃ ru al la, σ' = [some (.str z), some (.ref a), some (.ref l), ru, al, la, none, none]) ?_ fun tail => ?_
    · rintro σ' H2 ⟨u2, hl2, ru, al, la, rfl⟩
      have e2 : Ext H H2 := ext_more e1 nl u2
      have t2 := t.free.ext e2
      refine ⟨_, rfl, a, dx, _, rfl, e2 _ _ h1.1, no, a, h, rfl, t2, fun p hp => ⟨p, rfl, ⟨_, .of hp.1⟩, fun D hD => lc_map (std_tup (.of hp.1) fun z => z) hD (fun v => match v with | .str o => some (.str (callS h o)) | _ => none) (by have := f.ln; simp; omega) (fun y H3 Nx hy e3 g1 g2 => ?_) (fun H3 e3 hD3 => ?_)⟩⟩
      · obtain ⟨o, ho, rfl⟩ := List.mem_map.mp hy
        have lo := isName_len (f.nm o ho)
        refine ⟨rfl, _, rfl, _, rfl, a, dx, _, rfl, (e2.trans e3) _ _ h1.1, no, a, h, rfl, t2.ext e3, fun pl' hpl => ⟨pl', _, rfl, .inr (.of hpl.1), rfl, flat_strs _, _, rfl, ifb (fun m => ?_) fun m => ?_⟩⟩
        · rw [if_neg (by decide), inV_str] at m
          refine ⟨_, rfl, .inl ⟨o, rfl, sz (m := 1000) (by first | omega | (simp only [slen]; omega)), _, rfl, sz (m := 1000) (by first | omega | (simp only [slen]; omega)), _, rfl, sz (m := 1000) (by first | omega | (simp only [slen]; omega)), ?_⟩⟩
          rw [call_t (of_decide_eq_true m)]
          exact g1 _ _ Ext.rfl' rfl
        · rw [if_neg (by decide), inV_str] at m
          refine ⟨_, rfl, g1 _ _ Ext.rfl' ?_⟩
          show some (V.str (callS h o)) = _
          unfold callS
          rw [if_neg (of_decide_eq_false m)]
      · dsimp only [gName]
        have row : (h.calls.map V.str).filterMap (fun v => match v with | .str o => some (V.str (callS h o)) | _ => none) = (h.calls.map (callS h)).map V.str := by
          rw [List.filterMap_map, List.map_map]
          simp [Function.comp_def]
        rw [row] at hD3
        have hl3 := e3 _ _ hl2
        have e03 := e2.trans e3
        refine ⟨_, rfl, by simp [sizeLine_eq], fun e ne => ⟨D, e, _, rfl, rfl, .of (ext_new ne _ _ hD3), .of upd_same, _, rfl, ?_⟩⟩
        have e4 : Ext H3 (upd H3 e (.lst [])) := ext_new ne
        generalize upd H3 e (.lst []) = H4 at e4
        refine ifb (fun q => ?_) fun q => ?_
        · have nc : h.calls ≠ [] := fun z => by rw [z] at q; simp at q
          have hw : houseW z h = (headW z h :: h.rules.map ruleW) ++ [callsW h] := by
            unfold houseW
            rw [if_neg nc]
          have hlen := f.ln
          refine ⟨_, rfl, l, _, rfl, .inr (.of (e4 _ _ hl3)), ⟨_, rfl⟩, _, rfl, D, _, rfl, .inr (.of (e4 _ _ hD3)), ?_, fun c nc => ?_⟩
          · exact sz (m := 100) (by simp; omega)
          · have ec : (HO.lst (V.str "calls" :: ((h.calls.map (callS h)).map V.str ++ []))) = .lst ((callsW h).map V.str) := by rw [List.append_nil]; rfl
            rw [ec]
            have e5 : Ext H4 (upd H4 c (.lst ((callsW h).map V.str))) := ext_new nc
            have hc5 : (upd H4 c (.lst ((callsW h).map V.str))) c = some (.lst ((callsW h).map V.str)) := upd_same
            generalize upd H4 c (.lst ((callsW h).map V.str)) = H5 at e5 hc5
            have e05 := (e03.trans e4).trans e5
            refine ⟨" ", c, callsW h, rfl, rfl, .inl (.of hc5), ?_, ?_, fun p np => ?_⟩
            · have lb : ∀ y ∈ callsW h, y.length ≤ 7 := fun y hy => by
                rcases List.mem_cons.mp hy with rfl | hy
                · decide
                · obtain ⟨o, ho, rfl⟩ := List.mem_map.mp hy
                  exact callS_len (f.nm o ho)
              have := sum_lens lb
              have ln : (callsW h).length = h.calls.length + 1 := by simp [callsW]
              rw [l1]
              omega
            · have r2 := f.r2
              exact sz (m := 100) (by simp; omega)
            · refine hQ p _ (e05.trans (ext_new np)) (ext_none e05 np) ?_
              rw [upd_same, hw, List.map_append]
              rfl
        · have nc : h.calls = [] := by simpa using q
          have hw : houseW z h = headW z h :: h.rules.map ruleW := by
            unfold houseW
            rw [if_pos nc, List.append_nil]
          exact ⟨_, rfl, hQ l _ (e03.trans e4) nl (by rw [hw]; exact e4 _ _ hl3)⟩
    · refine ⟨_, rfl, a, dx, _, rfl, ha1, more no l, a, h, rfl, th, fun p os' hp hr => ⟨p, rfl, ⟨_, .of hp.1⟩, for_std (std_tup (S := more no l) (.of hp.1) hp.2) (fun i σ' H' => Kp (more no l) H1 H' ∧ H' l = some (.lst ((headW z h :: (h.rules.take i).map ruleW).map fun ws => .str (lineS ws))) ∧ ∃ ru al la, σ' = [some (.str z), some (.ref a), some (.ref l), ru, al, la, none, none]) ⟨Kp.refl, by simpa using hl, none, none, none, rfl⟩ (fun i σ H h => h.1) (fun i y σ H3 hy ⟨u3, hl3, ru, al, la, hσ⟩ => ?_) (fun σ H3 ⟨u3, hl3, ru, al, la, hσ⟩ => tail _ _ ⟨u3, ?_, ru, al, la, hσ⟩)⟩⟩
      · subst hσ
        rw [List.getElem?_map] at hy
        cases q : os'[i]? with
        | none => rw [q] at hy; cases hy
        | some o =>
          rw [q] at hy
          cases hy
          obtain ⟨r, hr1, hr2⟩ := paired_at hr q
          have tr := hr2.kp u3
          obtain ⟨⟨g1, g2, g3⟩, dr, pp, r1, r2⟩ := id tr
          dsimp only [gName]
          refine seq_cut (fun σ' H' => H' = H3 ∧ σ' = [some (.str z), some (.ref a), some (.ref l), some (.ref o), some (.str (alwS r.always)), some (.str (latS r.late)), none, none]) ?_ fun tail2 => ?_
          · rintro σ' H' ⟨rfl, rfl⟩
            have n4 := numS_len g1 g2
            have n6 := isName_len g3
            have na : (alwS r.always).length ≤ 7 := by cases r.always <;> decide
            have nb : (latS r.late).length ≤ 5 := by cases r.late <;> decide
            have lR : ("rule " : Str).length = 5 := rfl
            have rl := rule_line (r := r)
            simp only [numS] at rl n4
            refine ⟨_, rfl, .inl ⟨rfl, _, .of hl3⟩, _, rfl, sz (m := 1000) (by first | omega | (simp only [slen]; omega)), _, rfl, o, dr, _, rfl, r1.1, o, r, rfl, tr.free, .inr ⟨_, rfl, log_small g1 g2, _, rfl, sz (m := 1000) (by first | omega | (simp only [slen]; omega)), _, rfl, sz (m := 1000) (by first | omega | (simp only [slen]; omega)), _, rfl, o, dr, _, rfl, r1.1, _, o, r, rfl, tr, .inl ⟨_, rfl, sz (m := 1000) (by first | omega | (simp only [slen]; omega)), _, rfl, sz (m := 1000) (by first | omega | (simp only [slen]; omega)), _, rfl, .inl ⟨_, rfl, sz (m := 1000) (by first | omega | (simp only [slen]; omega)), _, rfl, sz (m := 1000) (by first | omega | (simp only [slen]; omega)), _, rfl, .inl ⟨_, rfl, sz (m := 1000) (by first | omega | (simp only [slen]; omega)), _, rfl, sz (m := 1000) (by first | omega | (simp only [slen]; omega)), ?_⟩⟩⟩⟩⟩
            rw [rl]
            refine ⟨l, _, _, rfl, rfl, hl3, ?_, ?_⟩
            · have r2 := f.r2
              have := line1001
              simp only [List.length_map, List.length_cons, List.length_take]
              omega
            · refine ⟨u3.put (.inr rfl), ?_, _, _, _, rfl⟩
              rw [upd_same, List.take_add_one, hr1]
              simp
          · refine ⟨_, rfl, o, dr, _, rfl, r1.1, _, o, r, rfl, tr, _, rfl, ifb (fun qa => ?_) fun qa => ?_⟩
            · refine ⟨_, rfl, o, dr, _, rfl, r1.1, _, o, r, rfl, tr, _, rfl, ifb (fun ql => ?_) fun ql => ?_⟩
              · exact ⟨_, _, rfl, tail2 _ _ ⟨rfl, by rw [alwS, latS, qa, ql]; rfl⟩⟩
              · exact ⟨_, _, rfl, tail2 _ _ ⟨rfl, by rw [alwS, latS, qa, ql]; rfl⟩⟩
            · refine ⟨_, rfl, o, dr, _, rfl, r1.1, _, o, r, rfl, tr, _, rfl, ifb (fun ql => ?_) fun ql => ?_⟩
              · exact ⟨_, _, rfl, tail2 _ _ ⟨rfl, by rw [alwS, latS, qa, ql]; rfl⟩⟩
              · exact ⟨_, _, rfl, tail2 _ _ ⟨rfl, by rw [alwS, latS, qa, ql]; rfl⟩⟩
      · rw [hl3]
        have : os'.length = h.rules.length := Paired.length hr
        simp only [List.length_map, this, List.take_length]
  · refine ⟨_, rfl, a, dx, _, rfl, h1.1, S, a, h, rfl, t, _, rfl, ifb (fun q => ?_) fun q => ?_⟩
    · refine ⟨_, rfl, sz (m := 1000) (by first | omega | (simp only [slen]; omega)), _, rfl, .inl ⟨z, rfl, sz (m := 1000) (by first | omega | (simp only [slen]; omega)), _, rfl, sz (m := 1000) (by first | omega | (simp only [slen]; omega)), _, rfl, sz (m := 1000) (by first | omega | (simp only [slen]; omega)), .inl ⟨_, rfl, sz (m := 1000) (by first | omega | (simp only [slen]; omega)), _, rfl, sz (m := 1000) (by first | omega | (simp only [slen]; omega)), ?_⟩⟩⟩
      rw [head_t q]
      exact ⟨by simp [sizeLine_eq], fun l nl => tail _ _ ⟨l, ext_new nl, nl, upd_same, rfl⟩⟩
    · refine ⟨_, rfl, sz (m := 1000) (by first | omega | (simp only [slen]; omega)), _, rfl, .inl ⟨z, rfl, sz (m := 1000) (by first | omega | (simp only [slen]; omega)), _, rfl, sz (m := 1000) (by first | omega | (simp only [slen]; omega)), ?_⟩⟩
      rw [head_f q]
      exact ⟨by simp [sizeLine_eq], fun l nl => tail _ _ ⟨l, ext_new nl, nl, upd_same, rfl⟩⟩
def sp_net_lines (K : PySem.W.Frag) : Sp := fun vs H Q _ => ∃ (S : Addr → Prop) (o : Addr) (n : NetD), vs = [.ref o] ∧ NetAt S K H o n ∧
  ∀ p H', Ext H H' → H p = none → H' p = some (.lst ((netW n).map fun ws => .str (lineS ws))) → Q (.ref p) H'
theorem sc_net_lines : FnScope ["net", "lines", "name"] ["net"] (defScope s_net_lines) := ⟨rfl, rfl, rfl, by decide +kernel, rfl, by decide +kernel, by decide +kernel⟩
theorem ok_net_lines (x : Fx K mg w) : FnR P w K mg base CX0 5 (a_net_lines K) (sp_net_lines K) := by
  refine okR x.F_net_lines sc_net_lines (fun _ _ _ _ _ _ us hl => match us, hl with | [_], _ => rfl) (fun vs H Q E h => by obtain ⟨S, o, n, rfl, t, hQ⟩ := h; rfl) (fun cdv A outer s H vs Q E hr h => ?_)
  obtain ⟨S, o, n, rfl, t, hQ⟩ := h
  refine ⟨_, (pss_cons (ps_set (i := 1) sc_net_lines.nd rfl (Or.inl rfl) (pe_lst (pa_cons (pe_joined (PJ.cons pe_str (PJ.cons (pe_fmt (pe_propR (pv 0) x.cl_Net x.p_Net_fine (ok_Net_fine x) (hr.mono (by decide)) pass0)) PJ.nil))) pa_nil)))
 (pss_cons (ps_for PassesOwn.never rfl (pi_tupK (K := K) rfl (Ws.pe_methR0 (pv 0) x.cl_Net x.me_Net_names (ok_Net_names x) (hr.mono (by decide)) pass0)) (pg_name (i := 2) sc_net_lines.nd rfl (Or.inl rfl))
 (pss_one (ps_set (i := 1) sc_net_lines.nd rfl (Or.inl rfl) (pe_op op_cat (pv 1) (pe_callR (ok_house_lines x) (hr.mono (by decide)) rfl x.m_house_lines (keep_of x.F_house_lines) pass0 (pa_cons (pv 2) (pa_cons (pe_getI x.sp_Net_getitem x.fi_Net_getitem x.fn_Net_getitem (ok_Net_getitem x) (hr.mono (by decide)) pass0 (pv 0) (pv 2)) pa_nil)))))))
 (pss_one (ps_ret (pe_lst (pa_starK (K := K) rfl (pv 1) (pa_cons (pe_joinK (K := K) rfl pe_str (pe_lst (pa_cons pe_str (pa_starK (K := K) rfl (pe_propR (pv 0) x.cl_Net x.p_Net_entries (ok_Net_entries x) (hr.mono (by decide)) pass0) pa_nil)))) pa_nil))))))), ?_⟩
  have tf := t.free
  obtain ⟨f, s1, s2, dx, ph, pe, kvs, h1, h2, h3, h4⟩ := id t
  have lF : ("fine " : Str).length = 5 := rfl
  have l1 : (" " : Str).length = 1 := rfl
  have l0 : Str.empty.length = 0 := rfl
  have f1 := f.f1
  have f2 := f.f2
  have hf := houses_fit h3
  have h8 := f.hs.l2
  have hel := f.ln
  have n4 := numS_len (by omega) f2
  have fl := fine_line (i := n.fine)
  simp only [numS] at n4 fl
  refine ⟨_, rfl, sz (m := 1000) (by first | omega | (simp only [slen]; omega)), _, rfl, o, dx, _, rfl, h1.1, S, o, n, rfl, t, .inr ⟨_, rfl, log_small (by omega) f2, _, rfl, sz (m := 1000) (by first | omega | (simp only [slen]; omega)), ?_⟩⟩
  rw [fl]
  refine ⟨by simp [sizeLine_eq], fun l nl => ?_⟩
  have e1 : Ext H (upd H l (.lst [.str (lineS ["fine", toString n.fine])])) := ext_new nl
  have hl : (upd H l (.lst [.str (lineS ["fine", toString n.fine])])) l = some (.lst (((["fine", numS n.fine] : List Str) :: ((n.houses.take 0).map fun p => houseW p.1 p.2).flatten).map fun ws => .str (lineS ws))) := upd_same
  change tSeq _ _ _ _ (upd H l (.lst [.str (lineS ["fine", toString n.fine])]))
  generalize upd H l (.lst [.str (lineS ["fine", toString n.fine])]) = H1 at e1 hl
  refine ⟨_, rfl, o, dx, _, rfl, e1 _ _ h1.1, rfl, no, o, n, rfl, tf.ext e1, fun p np => ?_⟩
  have e2 : Ext H1 (upd H1 p (.tup (n.names.map V.str))) := ext_new np
  have hp : (upd H1 p (.tup (n.names.map V.str))) p = some (.tup (n.names.map V.str)) := upd_same
  generalize upd H1 p (.tup (n.names.map V.str)) = H2 at e2 hp
  have e02 := e1.trans e2
  refine ⟨p, rfl, ⟨_, .of hp⟩, for_std (std_tup (S := no) (.of hp) (fun z => z)) (fun i σ' H' => Ext H2 H' ∧ ∃ l' nm, H l' = none ∧ H' l' = some (.lst (((["fine", numS n.fine] : List Str) :: ((n.houses.take i).map fun p => houseW p.1 p.2).flatten).map fun ws => .str (lineS ws))) ∧ σ' = [some (.ref o), some (.ref l'), nm]) ⟨Ext.rfl', l, none, nl, e2 _ _ hl, rfl⟩ (fun i σ H h => .ext h.1) (fun i y σ H3 hy ⟨e3, l', nm, nl', hl', hσ⟩ => ?_) (fun σ H3 ⟨e3, l', nm, nl', hl', hσ⟩ => ?_)⟩
  · subst hσ
    obtain ⟨pr, hpr, rfl⟩ : ∃ pr, n.houses[i]? = some pr ∧ y = .str pr.1 := by
      rw [NetD.names, List.map_map, List.getElem?_map] at hy
      cases q : n.houses[i]? with
      | none => rw [q] at hy; cases hy
      | some pr => rw [q] at hy; exact ⟨pr, rfl, (Option.some.inj hy).symm⟩
    have hm := List.mem_of_getElem? hpr
    have hn : pr.1 ∈ n.names := List.mem_map.mpr ⟨pr, hm, rfl⟩
    have gh := getH_of f.hs.nd hm
    have e03 := e02.trans e3
    dsimp only [gName]
    refine ⟨_, rfl, _, rfl, _, rfl, _, rfl, o, dx, _, rfl, e03 _ _ h1.1, no, o, n, pr.1, rfl, tf.ext e03, hn, fun a ha => ⟨no, a, pr.1, _, rfl, ha, f.names hn, fun q H4 e4 nq hq => ⟨l', q, _, _, rfl, rfl, e4 _ _ hl', hq, ?_, fun l3 nl3 => ⟨e3.trans (e4.trans (ext_new nl3)), l3, _, ext_none (e03.trans e4) nl3, ?_, rfl⟩⟩⟩⟩
    · have b1 := flat_len (fun p : Str × HouseD => houseW p.1 p.2) 4 (l := n.houses.take i) fun p hp => houseW_len (hf p (List.mem_of_mem_take hp)).1
      have b2 := houseW_len (z := pr.1) (hf pr hm).1
      have b3 : (n.houses.take i).length ≤ n.houses.length := by rw [List.length_take]; omega
      rw [gh]
      refine sz (m := 200) ?_
      simp only [List.length_map, List.length_cons]
      omega
    · rw [upd_same, gh, List.take_add_one, hpr]
      simp
  · subst hσ
    have e03 := e02.trans e3
    refine ⟨_, rfl, l', _, rfl, .inr (.of hl'), ⟨_, rfl⟩, _, rfl, o, dx, _, rfl, e03 _ _ h1.1, no, o, n, rfl, tf.ext e03, fun p' hp' => ⟨p', _, rfl, .inl (.of hp'.1), ?_, fun c nc => ?_⟩⟩
    · exact sz (m := 100) (by simp; omega)
    · have ec : (HO.lst (V.str "entries" :: (n.entries.map V.str ++ []))) = .lst ((("entries" :: n.entries : List Str)).map V.str) := by rw [List.append_nil]; rfl
      rw [ec]
      have e4 : Ext H3 (upd H3 c (.lst ((("entries" :: n.entries : List Str)).map V.str))) := ext_new nc
      have hc4 : (upd H3 c (.lst ((("entries" :: n.entries : List Str)).map V.str))) c = some (.lst ((("entries" :: n.entries : List Str)).map V.str)) := upd_same
      generalize upd H3 c (.lst ((("entries" :: n.entries : List Str)).map V.str)) = H4 at e4 hc4
      have e04 := e03.trans e4
      have tk : n.houses.take (n.names.map V.str).length = n.houses := by
        rw [List.length_map, NetD.names, List.length_map, List.take_length]
      rw [tk]
      refine ⟨" ", c, _, rfl, rfl, .inl (.of hc4), ?_, ?_, fun p2 np2 => ?_⟩
      · have lb : ∀ y ∈ ("entries" :: n.entries : List Str), y.length ≤ 7 := fun y hy => by
          rcases List.mem_cons.mp hy with rfl | hy
          · decide
          · have := isName_len (f.nme y hy)
            omega
        have := sum_lens lb
        have ln : ("entries" :: n.entries : List Str).length = n.entries.length + 1 := by simp
        rw [l1]
        omega
      · have b1 := flat_len (fun p : Str × HouseD => houseW p.1 p.2) 4 (l := n.houses) fun p hp => houseW_len (hf p hp).1
        refine sz (m := 200) ?_
        simp only [List.length_map, List.length_cons, List.length_append, List.length_nil]
        omega
      · refine hQ p2 _ (e04.trans (ext_new np2)) (ext_none e04 np2) ?_
        rw [upd_same]
        unfold netW
        rw [List.map_append]
        rfl
def sp_net_text (K : PySem.W.Frag) : Sp := fun vs H Q _ => ∃ (S : Addr → Prop) (o : Addr) (n : NetD), vs = [.ref o] ∧ NetAt S K H o n ∧ ∀ H', Ext H H' → Q (.str (netText n)) H'
theorem sc_net_text : FnScope ["net", "line"] ["net"] (defScope s_net_text) := ⟨rfl, rfl, rfl, by decide +kernel, rfl, by decide +kernel, by decide +kernel⟩
theorem okf_net_text {fd : FuncData} {dvs : List V} (F : FunD K "net_text" "net_text" (defArgs s_net_text) (defBody s_net_text) (defScope s_net_text) dvs [] (a_net_text K) fd) (x : Fx K mg w) : FnOk P w K mg base CX0 6 (a_net_text K) fd ["net"] (sp_net_text K) := by
  refine okFD F sc_net_text (fun vs H Q E h => by obtain ⟨S, o, n, rfl, t, hQ⟩ := h; rfl) (fun cdv A outer s H vs Q E hr h => ?_)
  obtain ⟨S, o, n, rfl, t, hQ⟩ := h
  refine ⟨_, (pss_cons (ps_expr (pe_callR (ok_need_net x) (hr.mono (by decide)) rfl x.m_need_net (keep_of x.F_need_net) pass0 (pa_cons (pv 0) pa_nil)))
 (pss_one (ps_ret (pe_joinK (K := K) rfl pe_str (pe_lc (own := [("line", 1)]) (tt := tYes) rfl sc_net_text.nd (pi_listK (K := K) rfl (pe_callR (ok_net_lines x) (hr.mono (by decide)) rfl x.m_net_lines (keep_of x.F_net_lines) pass0 (pa_cons (pv 0) pa_nil))) (blkOk_by (N := ["net", "line"]) (sc := defScope s_net_text) (by decide +kernel)) (fun _ _ _ _ _ => (pg_name (i := 1) sc_net_text.nd rfl (Or.inl rfl))) (fun _ _ _ _ _ => pts_nil) (fun _ _ _ _ _ => (pe_joined (PJ.cons (pe_fmt (pv 1)) (PJ.cons pe_str PJ.nil))))))))), ?_⟩
  have g := t.good
  have gl := netW_len g
  refine ⟨_, rfl, S, o, n, rfl, t, ⟨_, rfl⟩, _, rfl, S, o, n, rfl, t, fun p H1 e1 np hp => ⟨p, rfl, ⟨_, .of hp⟩, fun D hD => ?_⟩⟩
  dsimp only
  refine lc_map (te := fun σ H Q => tJs [tFmt (tVar 1), tC (.str "\n")] Str.empty σ H fun out H1 => Q (.str out) H1) (std_list (.of hp) fun z => z) hD (fun v => match v with | .str y => some (.str ((Str.empty ++ y) ++ "\n")) | _ => none) (by simp; omega) (fun y H2 Nx hy e2 g1 g2 => ?_) (fun H2 e2 hD2 => ?_)
  · obtain ⟨ws, hw, rfl⟩ := List.mem_map.mp hy
    have ll := line_len (ln_net g ws hw)
    have l1 : ("\n" : Str).length = 1 := rfl
    have l0 : Str.empty.length = 0 := rfl
    refine ⟨rfl, _, rfl, .inl ⟨_, rfl, sz (m := 1000) (by first | omega | (simp only [slen]; omega)), _, rfl, sz (m := 1000) (by first | omega | (simp only [slen]; omega)), _, rfl, sz (m := 1000) (by first | omega | (simp only [slen]; omega)), g1 _ _ Ext.rfl' rfl⟩⟩
  · have row : ((netW n).map fun ws => V.str (lineS ws)).filterMap (fun v => match v with | .str y => some (V.str ((Str.empty ++ y) ++ "\n")) | _ => none) = ((netW n).map fun ws => lineS ws ++ "\n").map V.str := by
      rw [List.filterMap_map, List.map_map]
      have : ∀ y : Str, (Str.empty ++ y) ++ ("\n" : Str) = y ++ "\n" := fun y => TL.ext_tl (by simp [TL.tl_append, tl_e])
      simp [Function.comp_def, this]
    rw [row] at hD2
    refine ⟨"", D, _, rfl, rfl, .inl (.of hD2), ?_, hQ _ (e1.trans e2)⟩
    have := sum_lens (m := 727) (ys := (netW n).map fun ws => lineS ws ++ "\n") fun y hy => by
      obtain ⟨ws, hw, rfl⟩ := List.mem_map.mp hy
      have ll := line_len (ln_net g ws hw)
      rw [slen, show ("\n" : Str).length = 1 from rfl]
      omega
    rw [show ("" : Str).length = 0 from rfl]
    rw [List.length_map] at this ⊢
    omega
theorem ok_net_text (x : Fx K mg w) : FnR P w K mg base CX0 6 (a_net_text K) (sp_net_text K) := by
  obtain ⟨fd, F⟩ := x.F_net_text
  exact FnR.imp ((okf_net_text F x).raw (F.bindsN fun _ _ _ _ _ _ us hl => match us, hl with | [_], _ => rfl) .nil) fun vs H Q E h => by rwa [List.append_nil]
theorem okk_net_text (x : Fx K mg w) : FnRK P w K mg base CX0 6 (a_net_text K) 0 ["net"] (sp_net_text K) := by
  obtain ⟨fd, F⟩ := x.F_net_text
  exact rawK (okf_net_text F x) (bindsK0 F fun _ _ _ _ _ _ us ws h1 h2 => match us, ws, h1, h2 with | [], [_], _, _ => rfl)
end
end Ws

set_option Elab.async false
set_option linter.all false
set_option maxRecDepth 100000
set_option maxHeartbeats 4000000
set_option pp.deepTerms false
set_option pp.maxSteps 400
namespace Ws
open PySem PySem.Spec PyProof.Rows L2
def digits : Str := "0123456789"
def isNumeral (z : Str) : Bool := decide (1 ≤ z.length) && (decide (z.length ≤ 4) && ((z.cps.toList.all fun c => decide (c ∈ digits.cps.toList)) && (decide (z = "0") || decide (z.cps.toList.head? ≠ some 48))))
/-- the number of a numeral -/
def numOf (z : Str) : Int := (NumText.digitsVal z.cps.toList : Nat)
def ascending (zs : List Str) : Bool := !zs.isEmpty && (zs.all isName && (List.range (zs.length - 1)).all fun k => decide ((zs.getD k "").cps.toList < (zs.getD (k + 1) "").cps.toList))
section
variable {P : Program} {w : World} {K : PySem.W.Frag} {mg : Str → Option Value} {base : Heap}
def sp_is_numeral : Sp := fun vs H Q _ => ∃ z, vs = [.str z] ∧ z.length ≤ 1000 ∧ ∀ H', Ext H H' → Q (.bl (isNumeral z)) H'
theorem sc_is_numeral : FnScope ["word", "letter"] ["word"] (defScope s_is_numeral) := ⟨rfl, rfl, rfl, by decide +kernel, rfl, by decide +kernel, by decide +kernel⟩
theorem ok_is_numeral (x : Fx K mg w) : FnR P w K mg base CX0 1 (a_is_numeral K) sp_is_numeral := by
  refine okR x.F_is_numeral sc_is_numeral (fun _ _ _ _ _ _ us hl => match us, hl with | [_], _ => rfl) (fun vs H Q E h => by obtain ⟨z, rfl, hz, hQ⟩ := h; rfl) (fun cdv A outer s H vs Q E hr h => ?_)
  obtain ⟨z, rfl, hz, hQ⟩ := h
  refine ⟨_, (pss_cons (ps_if (PW.pt (pw_or (pt_not (pt_chain op_le op_le pe_int (pe_callB call_len_str rfl x.n_len bb_len (pa_cons (pv 0) pa_nil)) (pe_gI x.i_MOST_DIGITS rfl))) (pw_or1 (pt_not (pt_val (pe_callB (r := rAll K) (cr_all rfl) rfl x.n_all bb_all (pa_cons (pe_lc (own := [("letter", 1)]) (tt := tYes) rfl sc_is_numeral.nd (pi_str (pv 0)) (blkOk_by (N := ["word", "letter"]) (sc := defScope s_is_numeral) (by decide +kernel)) (fun _ _ _ _ _ => (pg_name (i := 1) sc_is_numeral.nd rfl (Or.inl rfl))) (fun _ _ _ _ _ => pts_nil) (fun _ _ _ _ _ => (pe_cmpR op_in_sign (pv 1) (pe_gS x.z_DIGITS rfl) rfl))) pa_nil)))))))
 (pss_one (ps_ret pe_bl))
 pss_nil)
 (pss_one (ps_ret (pe_or (pe_cmpR op_eq (pv 0) pe_str (nomark _)) (pe_one (pe_cmpR op_ne (pe_ix ix_str (pv 0) pe_int (fun _ _ => rfl)) pe_str (nomark _))))))), ?_⟩
  refine ⟨_, rfl, z, rfl, sz hz, _, _, rfl, rfl, _, rfl, ifb (fun h1 => ?_) (fun h1 => ?_)⟩
  · have n1 : 1 ≤ z.length := by simp at h1; omega
    refine ⟨_, _, rfl, rfl, _, rfl, ifb (fun h2 => ?_) (fun h2 => ?_)⟩
    · have n2 : ¬ z.length ≤ 4 := by simp at h2; omega
      have e : isNumeral z = false := by simp [isNumeral, n2]
      have := hQ H Ext.rfl'
      rwa [e] at this
    · have n2 : z.length ≤ 4 := by simp at h2; omega
      refine ⟨_, rfl, z, rfl, fun D hD => lc_map std_str hD (fun v => match v with | .str y => some (.bl (y.cps.toList.all fun c => decide (c ∈ digits.cps.toList))) | _ => none) ?_ (fun y H' Nx hy e c1 c2 => ?_) (fun H1 e1 hD' => ?_)⟩
      · rw [List.length_map, Array.length_toList]; exact hz
      · obtain ⟨c, hc, rfl⟩ := List.mem_map.mp hy
        refine ⟨rfl, _, rfl, _, _, rfl, rfl, ?_⟩
        exact c1 _ _ Ext.rfl' (by simp [digits])
      · refine ⟨D, z.cps.toList.map fun c => decide (c ∈ digits.cps.toList), rfl, .of ?_, _, rfl, ?_⟩
        · rw [hD']
          congr 2
          rw [List.filterMap_map, List.map_map]
          simp [Function.comp_def]
        · have el : (z.cps.toList.map fun c => decide (c ∈ digits.cps.toList)).all id = z.cps.toList.all fun c => decide (c ∈ digits.cps.toList) := by rw [List.all_map]; rfl
          rw [el]
          refine ifb (fun q => ?_) fun q => ?_
          · have e : isNumeral z = false := by
              have q : (z.cps.toList.all fun c => decide (c ∈ digits.cps.toList)) = false := by simpa using q
              rw [isNumeral, q]
              simp
            have := hQ H1 e1
            rwa [e] at this
          · have q : (z.cps.toList.all fun c => decide (c ∈ digits.cps.toList)) = true := by simpa using q
            have e : isNumeral z = (decide (z = "0") || decide (z.cps.toList.head? ≠ some 48)) := by
              rw [isNumeral, q]
              simp [n1, n2]
            refine ⟨_, rfl, rfl, _, rfl, ifb (fun q0 => ?_) fun q0 => ?_⟩
            · have z0 : z = "0" := by simpa using q0
              have := hQ H1 e1
              rw [e, decide_eq_true z0, Bool.true_or] at this
              exact this
            · have z0 : z ≠ "0" := by simpa using q0
              have zl : z.length = z.cps.toList.length := TL.len_tl z
              cases hc : z.cps.toList with
              | nil => rw [hc] at zl; simp at zl; omega
              | cons c cs =>
                refine ⟨_, rfl, z, 0, c, rfl, rfl, sz hz, by rw [hc]; exact atI_nat (j := 0) rfl, rfl, ?_⟩
                have := hQ H1 e1
                rw [e, decide_eq_false z0, Bool.false_or, hc] at this
                have b : (!decide (V.str ⟨#[c]⟩ = V.str "0")) = decide ((c :: cs).head? ≠ some 48) := by
                  have e0 : (V.str ⟨#[c]⟩ = V.str "0") ↔ c = 48 := by
                    constructor
                    · intro h
                      injection h with h
                      have := congrArg (fun s : Str => s.cps.toList) h
                      simpa using (show [c] = [48] from this)
                    · rintro rfl
                      rfl
                  rw [Bool.eq_iff_iff]
                  simp [e0]
                rw [b]
                exact this
  · have n1 : ¬ 1 ≤ z.length := by simp at h1; omega
    have e : isNumeral z = false := by simp [isNumeral, n1]
    have := hQ H Ext.rfl'
    rw [e] at this
    exact ⟨_, rfl, iteT (iteT this)⟩
def sp_are_ascending (K : PySem.W.Frag) : Sp := fun vs H Q _ => ∃ (a : Addr) (zs : List Str), vs = [.ref a] ∧ H a = some (.lst (zs.map V.str)) ∧ zs.length ≤ 1000 ∧ (∀ z ∈ zs, z.length ≤ 1000) ∧ ∀ H', Ext H H' → Q (.bl (ascending zs)) H'
theorem sc_are_ascending : FnScope ["names", "name", "k"] ["names"] (defScope s_are_ascending) := ⟨rfl, rfl, rfl, by decide +kernel, rfl, by decide +kernel, by decide +kernel⟩
theorem ok_are_ascending (x : Fx K mg w) : FnR P w K mg base CX0 2 (a_are_ascending K) (sp_are_ascending K) := by
  refine okR x.F_are_ascending sc_are_ascending (fun _ _ _ _ _ _ us hl => match us, hl with | [_], _ => rfl) (fun vs H Q E h => by obtain ⟨a, zs, rfl, ha, hl, hz, hQ⟩ := h; rfl) (fun cdv A outer s H vs Q E hr h => ?_)
  obtain ⟨a, zs, rfl, ha, hl, hz, hQ⟩ := h
  refine ⟨_, (pss_cons (ps_if (PW.pt (pw_or (pt_cmpR (show OpR _ _ (rEqNil K false) from op_eqNil hr) (pv 0) (pe_lst pa_nil) (nomark _)) (pw_or1 (pt_not (pt_val (pe_callB (r := rAll K) (cr_all rfl) rfl x.n_all bb_all (pa_cons (pe_lc (own := [("name", 1)]) (tt := tYes) rfl sc_are_ascending.nd (pi_listK (K := K) rfl (pv 0)) (blkOk_by (N := ["names", "name", "k"]) (sc := defScope s_are_ascending) (by decide +kernel)) (fun _ _ _ _ _ => (pg_name (i := 1) sc_are_ascending.nd rfl (Or.inl rfl))) (fun _ _ _ _ _ => pts_nil) (fun _ _ _ _ _ => (pe_callR (ok_is_name x) (hr.mono (by decide)) rfl x.m_is_name (keep_of x.F_is_name) pass0 (pa_cons (pv 1) pa_nil)))) pa_nil)))))))
 (pss_one (ps_ret pe_bl))
 pss_nil)
 (pss_one (ps_ret (pe_callB (r := rAll K) (cr_all rfl) rfl x.n_all bb_all (pa_cons (pe_lc (own := [("k", 2)]) (tt := tYes) rfl sc_are_ascending.nd (pi_range1 rfl x.n_range (pa_cons (pe_op op_sub (pe_callB (r := rLenK K) call_lenK rfl x.n_len bb_len (pa_cons (pv 0) pa_nil)) pe_int) pa_nil)) (blkOk_by (N := ["names", "name", "k"]) (sc := defScope s_are_ascending) (by decide +kernel)) (fun _ _ _ _ _ => (pg_name (i := 2) sc_are_ascending.nd rfl (Or.inl rfl))) (fun _ _ _ _ _ => pts_nil) (fun _ _ _ _ _ => (pe_cmpR op_lt_str (pe_ix (r := rIxL K) ix_list (pv 0) (pv 2) (fun _ _ => rfl)) (pe_ix (r := rIxL K) ix_list (pv 0) (pe_op op_add (pv 2) pe_int) (fun _ _ => rfl)) (nomark _)))) pa_nil))))), ?_⟩
  refine ⟨_, rfl, by simp [sizeLine_eq], fun e ne => ⟨a, e, _, rfl, rfl, .of (ext_new ne _ _ ha), .of upd_same, _, rfl, ?_⟩⟩
  have e1 : Ext H (upd H e (.lst [])) := ext_new ne
  generalize upd H e (.lst []) = H1 at e1
  have a1 := e1 _ _ ha
  refine ifb (fun q => ?_) fun q => ?_
  · have z0 : zs = [] := by simpa using q
    have e : ascending zs = false := by simp [ascending, z0]
    have := hQ _ e1
    rwa [e] at this
  · refine ⟨_, rfl, a, rfl, ⟨_, .of a1⟩, fun D hD => lc_map (std_list (.of a1) fun z => z) hD (fun v => match v with | .str y => some (.bl (isName y)) | _ => none) (by simpa using hl) (fun y H2 Nx hy e2 c1 c2 => ?_) (fun H2 e2 hD2 => ?_)⟩
    · obtain ⟨y, hm, rfl⟩ := List.mem_map.mp hy
      refine ⟨rfl, _, rfl, y, rfl, hz y hm, fun H3 e3 => c1 _ _ e3 rfl⟩
    · have row : (zs.map V.str).filterMap (fun v => match v with | .str y => some (V.bl (isName y)) | _ => none) = (zs.map isName).map V.bl := by
        rw [List.filterMap_map, List.map_map]
        simp [Function.comp_def]
      rw [row] at hD2
      refine ⟨D, _, rfl, .of hD2, _, rfl, ifb (fun q2 => ?_) fun q2 => ?_⟩
      · have e : ascending zs = false := by
          have q2 : zs.all isName = false := by simpa [List.all_map, Function.comp_def] using q2
          rw [ascending, q2]
          simp
        have := hQ _ (e1.trans e2)
        rwa [e] at this
      · have q2 : zs.all isName = true := by simpa [List.all_map, Function.comp_def] using q2
        have ne : zs ≠ [] := fun z => by rw [z] at q; simp at q
        have a2 := e2 _ _ a1
        have lp : 1 ≤ zs.length := List.length_pos_iff.mpr ne
        have e : ascending zs = (List.range (zs.length - 1)).all fun k => decide ((zs.getD k "").cps.toList < (zs.getD (k + 1) "").cps.toList) := by
          rw [ascending, q2]
          cases zs with
          | nil => exact absurd rfl ne
          | cons => simp
        refine ⟨_, rfl, _, _, rfl, sq_lenV (.inl (.of a2)), _, _, rfl, rfl, ((zs.map V.str).length : Int) - 1, rfl, by simp; omega, by simp; omega, fun D2 hD2 => ?_⟩
        have et : (((zs.map V.str).length : Int) - 1).toNat = zs.length - 1 := by rw [List.length_map]; omega
        rw [et]
        refine lc_map std_range hD2 (fun v => match v with | .int i => some (.bl (decide ((zs.getD i.toNat "").cps.toList < (zs.getD (i.toNat + 1) "").cps.toList))) | _ => none) (by simp; omega) (fun y H3 Nx hy e3 c1 c2 => ?_) (fun H3 e3 hD3 => ?_)
        · obtain ⟨k, hk, rfl⟩ := List.mem_map.mp hy
          have hk := List.mem_range.mp hk
          have a3 := e3 _ _ a2
          have g : ∀ m, m < zs.length → (zs.map V.str)[m]? = some (.str (zs.getD m "")) := fun m hm => by
            rw [List.getElem?_map, List.getElem?_eq_getElem hm, List.getD_eq_getElem?_getD, List.getElem?_eq_getElem hm]
            rfl
          refine ⟨rfl, _, rfl, _, rfl, a, _, (0 + (k : Int)), .str (zs.getD k ""), rfl, rfl, .of a3, ?_, _, rfl, _, rfl, _, _, rfl, rfl, a, _, _, .str (zs.getD (k + 1) ""), rfl, rfl, .of a3, ?_, _, _, rfl, rfl, c1 _ _ Ext.rfl' ?_⟩
          · rw [Int.zero_add]
            exact atI_nat (g k (by omega))
          · rw [show (0 + (k : Int)) + 1 = ((k + 1 : Nat) : Int) from by omega]
            exact atI_nat (g (k + 1) (by omega))
          · rw [Int.zero_add]
            rfl
        · refine ⟨D2, (List.range (zs.length - 1)).map fun k => decide ((zs.getD k "").cps.toList < (zs.getD (k + 1) "").cps.toList), rfl, .of ?_, ?_⟩
          · rw [hD3]
            congr 2
            rw [List.filterMap_map, List.map_map]
            simp [Function.comp_def]
          · have := hQ _ ((e1.trans e2).trans e3)
            rw [e] at this
            rw [List.all_map]
            exact this
end
end Ws

set_option Elab.async false
set_option linter.all false
set_option maxRecDepth 100000
set_option maxHeartbeats 4000000
namespace Ws
open PySem PySem.Spec PyProof.Rows L2
/-- a house as read so far -/
structure RdH where
  fails : Bool
  rules : List RuleD
  ways : Option (List Str × List Str)
structure RdD where
  fine : Option Int
  hs : List (Str × RdH)
  ents : Option (List Str)
def RdD.names (d : RdD) : List Str := d.hs.map (·.1)
def RdD.ways (d : RdD) : List (Str × (List Str × List Str)) := d.hs.filterMap fun p => p.2.ways.map fun w => (p.1, w)
abbrev LtS (a b : Str) : Prop := a.cps.toList < b.cps.toList
structure RdD.Ok (d : RdD) : Prop where
  f : ∀ i, d.fine = some i → 1 ≤ i ∧ i ≤ 1000
  fs : d.hs ≠ [] → d.fine.isSome = true
  asc : d.names.Pairwise LtS
  ln : d.hs.length ≤ 900
  nm : ∀ z ∈ d.names, isName z = true
  r2 : ∀ p ∈ d.hs, p.2.rules.length ≤ 2
theorem ltS_ne {a b : Str} (h : LtS a b) : a ≠ b := fun e => by
  rw [e] at h
  exact List.lt_irrefl _ h
theorem RdD.Ok.nd {d : RdD} (o : d.Ok) : d.names.Nodup := o.asc.imp fun h => ltS_ne h
/-- may a new house or the end come? -/
def betweenP (d : RdD) : Bool := d.fine.isSome && (match d.hs.getLast? with
  | none => true
  | some p => !p.2.rules.isEmpty)
def wd (ws : List Str) (i : Nat) : Str := ws.getD i ""
def takeFine (d : RdD) (ws : List Str) : Option RdD :=
  if d.fine.isSome = true ∨ ws.length ≠ 2 ∨ isNumeral (wd ws 1) = false then none
  else if 1 ≤ numOf (wd ws 1) ∧ numOf (wd ws 1) ≤ 1000 then some { d with fine := some (numOf (wd ws 1)) } else none
/-- is z behind all names so far? -/
def behindP (d : RdD) (z : Str) : Bool := match d.hs.getLast? with
  | none => true
  | some p => decide (p.1.cps.toList < z.cps.toList)
def takeHouse (d : RdD) (ws : List Str) : Option RdD :=
  if betweenP d = false ∨ ¬ (ws.drop 2 = [] ∨ ws.drop 2 = (["fails"] : List Str)) ∨ isName (wd ws 1) = false then none
  else if behindP d (wd ws 1) = false then none
  else some { d with hs := d.hs ++ [(wd ws 1, ⟨decide (ws.length = 3), [], none⟩)] }
def KEEPW : List (List Str) := [["always", "late"], ["always"], ["late"], []]
def setLast (d : RdD) (h : RdH) : RdD := { d with hs := d.hs.dropLast ++ [((d.hs.getLast?.map (·.1)).getD Str.empty, h)] }
def ruleOf (ws : List Str) : RuleD := ⟨numOf (wd ws 1), wd ws 2, decide (("always" : Str) ∈ ws.drop 3), decide (("late" : Str) ∈ ws.drop 3)⟩
def takeRule (d : RdD) (ws : List Str) : Option RdD := match d.hs.getLast? with
  | none => none
  | some (_, h) =>
    if ws.length < 3 ∨ isNumeral (wd ws 1) = false ∨ isName (wd ws 2) = false then none
    else if h.ways.isSome = true ∨ h.rules.length = 2 ∨ d.fine.getD 0 < numOf (wd ws 1) ∨ ws.drop 3 ∉ KEEPW then none
    else some (setLast d { h with rules := h.rules ++ [ruleOf ws] })
def isStar (w : Str) : Bool := Txt.endswith w "*"
def unstar (w : Str) : Str := if isStar w = true then cutS w none (some (-1)) else w
def takeCalls (d : RdD) (ws : List Str) : Option RdD := match d.hs.getLast? with
  | none => none
  | some (_, h) =>
    if h.rules = [] ∨ h.ways.isSome = true then none
    else if ascending ((ws.drop 1).map unstar) = false then none
    else some (setLast d { h with ways := some ((ws.drop 1).map unstar, ((ws.drop 1).filter isStar).map fun w => cutS w none (some (-1))) })
def takeEntries (d : RdD) (ws : List Str) : Option RdD :=
  if betweenP d = false ∨ d.hs = [] ∨ ascending (ws.drop 1) = false then none else some { d with ents := some (ws.drop 1) }
def takeP (d : RdD) (ws : List Str) : Option RdD :=
  if d.ents.isSome = true then none
  else if wd ws 0 = "fine" then takeFine d ws
  else if wd ws 0 = "house" then takeHouse d ws
  else if wd ws 0 = "rule" then takeRule d ws
  else if wd ws 0 = "calls" then takeCalls d ws
  else if wd ws 0 = "entries" then takeEntries d ws
  else none
def optV : Option Int → V
  | none => .non
  | some i => .int i
def rdF (vf : V) (an af ar aw : Addr) (ve : V) : List (Str × V) := [("x_fine", vf), ("x_names", .ref an), ("x_fails", .ref af), ("x_rules", .ref ar), ("x_ways", .ref aw), ("x_entries", ve)]
def failsK (hs : List (Str × RdH)) : List (Key × V) := hs.map fun p => (Sum.inr p.1, .bl p.2.fails)
def rlsK : List Addr → List (Str × RdH) → List (Key × V)
  | l :: ls, p :: hs => (Sum.inr p.1, .ref l) :: rlsK ls hs
  | _, _ => []
section
variable {S T : Addr → Prop} {K : PySem.W.Frag} {H H1 : Hp} {a r q : Addr}
abbrev RlsAt (S : Addr → Prop) (K : PySem.W.Frag) (H : Hp) : List Addr → List (Str × RdH) → Prop := Paired fun l p => S l ∧ ∃ os, H l = some (.lst (os.map V.ref)) ∧ RulesAt S K H os p.2.rules
abbrev WysAt (S : Addr → Prop) (H : Hp) : List (Key × V) → List (Str × (List Str × List Str)) → Prop := Paired fun kv nw => kv.1 = Sum.inr nw.1 ∧ ∃ t l1 l2, kv.2 = .ref t ∧ At S H t (.tup [.ref l1, .ref l2]) ∧ At S H l1 (.lst (nw.2.1.map V.str)) ∧ At S H l2 (.lst (nw.2.2.map V.str))
def EntAt (S : Addr → Prop) (H : Hp) (v : V) : Option (List Str) → Prop
  | none => v = .non
  | some es => ∃ l, v = .ref l ∧ At S H l (.lst (es.map V.str))
/-- the reader at r has read d -/
def RdAt (S : Addr → Prop) (K : PySem.W.Frag) (H : Hp) (r : Addr) (d : RdD) : Prop := ∃ dx an af ar aw ve ls kw, (S r ∧ S an ∧ S af ∧ S ar ∧ S aw) ∧
  H r = some (.ins (c_Reader K) dx (rdF (optV d.fine) an af ar aw ve)) ∧ H an = some (.lst (d.names.map V.str)) ∧ H af = some (.dK (failsK d.hs)) ∧ H ar = some (.dK (rlsK ls d.hs)) ∧ H aw = some (.dK kw) ∧
  RlsAt S K H ls d.hs ∧ (an :: ls).Nodup ∧ [af, ar, aw].Nodup ∧ WysAt S H kw d.ways ∧ EntAt S H ve d.ents
theorem RlsAt.ext {ls : List Addr} {hs : List (Str × RdH)} (h : RlsAt S K H ls hs) (e : Ext H H1) : RlsAt S K H1 ls hs := Paired.mapP h fun _ _ ⟨s, os, h1, h2⟩ => ⟨s, os, e _ _ h1, Paired.mapP h2 fun _ _ z => z.ext e⟩
theorem WysAt.kp {kw : List (Key × V)} {ws : List (Str × (List Str × List Str))} (h : WysAt S H kw ws) (e : Kp S H H1) : WysAt S H1 kw ws := Paired.mapP h fun _ _ ⟨g, t, l1, l2, h1, h2, h3, h4⟩ => ⟨g, t, l1, l2, h1, h2.kp e, h3.kp e, h4.kp e⟩
theorem EntAt.kp {v : V} : ∀ {es : Option (List Str)}, EntAt S H v es → Kp S H H1 → EntAt S H1 v es
  | none, h, _ => h
  | some _, ⟨l, h1, h2⟩, e => ⟨l, h1, h2.kp e⟩
theorem RdAt.ext {d : RdD} (h : RdAt S K H r d) (e : Ext H H1) : RdAt S K H1 r d := by
  obtain ⟨dx, an, af, ar, aw, ve, ls, kw, s, h1, h2, h3, h4, h5, h6, h7, h8, h9, h10⟩ := h
  exact ⟨dx, an, af, ar, aw, ve, ls, kw, s, e _ _ h1, e _ _ h2, e _ _ h3, e _ _ h4, e _ _ h5, h6.ext e, h7, h8, h9.kp (.ext e), h10.kp (.ext e)⟩
/-- one more address may change: what is new -/
theorem WysAt.grow {kw : List (Key × V)} {ws : List (Str × (List Str × List Str))} (h : WysAt S H kw ws) (hq : H q = none) : WysAt (more S q) H kw ws := Paired.mapP h fun _ _ ⟨g, t, l1, l2, h1, h2, h3, h4⟩ => ⟨g, t, l1, l2, h1, h2.grow hq, h3.grow hq, h4.grow hq⟩
theorem EntAt.grow {v : V} : ∀ {es : Option (List Str)}, EntAt S H v es → H q = none → EntAt (more S q) H v es
  | none, h, _ => h
  | some _, ⟨l, h1, h2⟩, e => ⟨l, h1, h2.grow e⟩
theorem rls_len : ∀ {ls : List Addr} {hs : List (Str × RdH)}, ls.length = hs.length → (rlsK ls hs).length = hs.length
  | [], [], _ => rfl
  | l :: ls, p :: hs, h => by
    show (rlsK ls hs).length + 1 = hs.length + 1
    rw [rls_len (by simpa using h)]
theorem rls_keys : ∀ {ls : List Addr} {hs : List (Str × RdH)}, ls.length = hs.length → (rlsK ls hs).map (·.1) = (hs.map (·.1)).map Sum.inr
  | [], [], _ => rfl
  | l :: ls, p :: hs, h => by
    show Sum.inr p.1 :: (rlsK ls hs).map (·.1) = Sum.inr p.1 :: (hs.map (·.1)).map Sum.inr
    rw [rls_keys (by simpa using h)]
theorem rls_app : ∀ {ls ls' : List Addr} {hs hs' : List (Str × RdH)}, ls.length = hs.length → rlsK (ls ++ ls') (hs ++ hs') = rlsK ls hs ++ rlsK ls' hs'
  | [], _, [], _, _ => rfl
  | l :: ls, _, p :: hs, _, h => by
    show (_, _) :: rlsK (ls ++ _) (hs ++ _) = (_, _) :: (rlsK ls hs ++ _)
    rw [rls_app (by simpa using h)]
end
theorem valV_app {a b : List (Key × V)} {k : Key} (h : valV a k = none) : valV (a ++ b) k = valV b k := by
  induction a with
  | nil => rfl
  | cons kv a ih =>
    by_cases e : kv.1 = k
    · rw [valV_pos e] at h
      cases h
    · rw [valV_neg e] at h
      rw [List.cons_append, valV_neg e]
      exact ih h
theorem valV_out {a : List (Key × V)} {k : Key} (h : k ∉ a.map (·.1)) : valV a k = none := by
  cases q : valV a k with
  | none => rfl
  | some v => exact absurd (valV_in q) h
/-- the last house -/
theorem last_cases {α : Type} (l : List α) : l = [] ∨ ∃ pre x, l = pre ++ [x] := by
  rcases List.eq_nil_or_concat l with h | ⟨pre, x, h⟩
  · exact .inl h
  · exact .inr ⟨pre, x, by rw [h, List.concat_eq_append]⟩
theorem RlsAt.last {S : Addr → Prop} {K : PySem.W.Frag} {H : Hp} {ls : List Addr} {pre : List (Str × RdH)} {p : Str × RdH} (h : RlsAt S K H ls (pre ++ [p])) :
    ∃ lp l, ls = lp ++ [l] ∧ RlsAt S K H lp pre ∧ S l ∧ ∃ os, H l = some (.lst (os.map V.ref)) ∧ RulesAt S K H os p.2.rules := by
  rcases last_cases ls with rfl | ⟨lp, l, rfl⟩
  · have := Paired.length h
    simp at this
  · have hl : lp.length = pre.length := by
      have := Paired.length h
      simpa using this
    have g : ∀ {xs : List Addr} {ys : List (Str × RdH)} {x : Addr} {y : Str × RdH}, xs.length = ys.length → RlsAt S K H (xs ++ [x]) (ys ++ [y]) → RlsAt S K H xs ys ∧ (S x ∧ ∃ os, H x = some (.lst (os.map V.ref)) ∧ RulesAt S K H os y.2.rules) := by
      intro xs
      induction xs with
      | nil =>
        intro ys x y hl h
        cases ys with
        | nil => cases h with | cons r t => exact ⟨.nil, r⟩
        | cons => simp at hl
      | cons a xs ih =>
        intro ys x y hl h
        cases ys with
        | nil => simp at hl
        | cons b ys =>
          cases h with
          | cons r t =>
            obtain ⟨h1, h2⟩ := ih (by simpa using hl) t
            exact ⟨.cons r h1, h2⟩
    obtain ⟨h1, h2⟩ := g hl h
    exact ⟨lp, l, rfl, h1, h2⟩
/-- the last name's list of rules -/
theorem rls_last {lp : List Addr} {l : Addr} {pre : List (Str × RdH)} {p : Str × RdH} (hl : lp.length = pre.length) (nd : p.1 ∉ pre.map (·.1)) : valV (rlsK (lp ++ [l]) (pre ++ [p])) (Sum.inr p.1) = some (.ref l) := by
  rw [rls_app hl, valV_app (valV_out ?_)]
  · exact valV_pos rfl
  · rw [rls_keys hl]
    intro h
    obtain ⟨z, hz, e⟩ := List.mem_map.mp h
    injection e with e
    exact nd (e ▸ hz)
theorem RdD.Ok.fresh {d : RdD} (o : d.Ok) {pre : List (Str × RdH)} {p : Str × RdH} (e : d.hs = pre ++ [p]) : p.1 ∉ pre.map (·.1) := by
  have := o.nd
  unfold RdD.names at this
  rw [e, List.map_append, List.nodup_append] at this
  exact fun h => this.2.2 _ h _ (by simp) rfl
theorem atI_end {xs : List V} {x : V} : atI (xs ++ [x]) (-1) = some x := by
  have e : ixN (xs.length + 1) (-1) = some xs.length := by
    unfold ixN
    simp
    omega
  unfold atI
  simp [e]
end Ws

set_option Elab.async false
set_option linter.all false
set_option maxRecDepth 100000
set_option maxHeartbeats 4000000
set_option pp.deepTerms false
set_option pp.maxSteps 400
namespace Ws
open PySem PySem.Spec PyProof.Rows L2
section
variable {P : Program} {w : World} {K : PySem.W.Frag} {mg : Str → Option Value} {base : Heap}
def rd0 : RdD := ⟨none, [], none⟩
def sp_Reader_init (K : PySem.W.Frag) : Sp := fun vs H Q _ => ∃ (o dx : Addr), vs = [.ref o] ∧ H o = some (.ins (c_Reader K) dx []) ∧
  ∀ H' S, Kp (one o) H H' → (∀ x, S x → x = o ∨ H x = none) → Dm S H' → RdAt S K H' o rd0 → Q .non H'
theorem sc_Reader_init : FnScope ["self"] ["self"] (defScope s_Reader_init) := ⟨rfl, rfl, rfl, by decide +kernel, rfl, by decide +kernel, by decide +kernel⟩
theorem ok_Reader_init (x : Fx K mg w) : FnR P w K mg base CX0 1 (a_Reader_init K) (sp_Reader_init K) := by
  refine okR x.F_Reader_init sc_Reader_init (fun _ _ _ _ _ _ us hl => match us, hl with | [_], _ => rfl) (fun vs H Q E h => by obtain ⟨o, dx, rfl, ho, hQ⟩ := h; rfl) (fun cdv A outer s H vs Q E hr h => ?_)
  obtain ⟨o, dx, rfl, ho, hQ⟩ := h
  refine ⟨_, (pss_cons (ps_fld (pv 0) pe_non rfl)
 (pss_cons (ps_fld (pv 0) (pe_lst pa_nil) rfl)
 (pss_cons (ps_fld (pv 0) pe_dnewK rfl)
 (pss_cons (ps_fld (pv 0) pe_dnewK rfl)
 (pss_cons (ps_fld (pv 0) pe_dnewK rfl)
 (pss_one (ps_fld (pv 0) pe_non rfl))))))), ?_⟩
  refine ⟨_, rfl, o, _, dx, [], rfl, ho, x.cl_Reader, x.na_Reader_x_fine, by simp, ?_⟩
  have o0 := ho
  have u0 : Kp (one o) H H := Kp.refl
  change tSeq _ _ _ _ (upd H o (.ins (c_Reader K) dx [("x_fine", .non)]))
  have u1 : Kp (one o) H (upd H o (.ins (c_Reader K) dx [("x_fine", .non)])) := u0.put rfl
  have o1 : (upd H o (.ins (c_Reader K) dx [("x_fine", .non)])) o = some (.ins (c_Reader K) dx [("x_fine", .non)]) := upd_same
  generalize upd H o (.ins (c_Reader K) dx [("x_fine", .non)]) = H1 at u1 o1
  refine ⟨by simp [sizeLine_eq], fun an nan => ⟨_, rfl, o, _, dx, _, rfl, ext_new nan _ _ o1, x.cl_Reader, x.na_Reader_x_names, by simp, ?_⟩⟩
  have man : an ≠ o := fun z => by rw [z, o1] at nan; cases nan
  change tSeq _ _ _ _ (upd (upd H1 an (.lst [])) o (.ins (c_Reader K) dx [("x_fine", .non), ("x_names", .ref an)]))
  have wan : H an = none := by
    cases q : H an with
    | none => rfl
    | some y => exact absurd nan (u1.dom _ (by rw [q]; exact fun z => nomatch z))
  have u2 : Kp (one o) H (upd (upd H1 an (.lst [])) o (.ins (c_Reader K) dx [("x_fine", .non), ("x_names", .ref an)])) := (u1.trans (.ext (ext_new nan))).put rfl
  have o2 : (upd (upd H1 an (.lst [])) o (.ins (c_Reader K) dx [("x_fine", .non), ("x_names", .ref an)])) o = some (.ins (c_Reader K) dx [("x_fine", .non), ("x_names", .ref an)]) := upd_same
  have pan_2 : (upd (upd H1 an (.lst [])) o (.ins (c_Reader K) dx [("x_fine", .non), ("x_names", .ref an)])) an = some (.lst []) := by rw [upd_ne man, upd_same]
  generalize upd (upd H1 an (.lst [])) o (.ins (c_Reader K) dx [("x_fine", .non), ("x_names", .ref an)]) = H2 at u2 o2 pan_2
  refine fun af naf => ⟨_, rfl, o, _, dx, _, rfl, ext_new naf _ _ o2, x.cl_Reader, x.na_Reader_x_fails, by simp, ?_⟩
  have maf : af ≠ o := fun z => by rw [z, o2] at naf; cases naf
  change tSeq _ _ _ _ (upd (upd H2 af (.dK [])) o (.ins (c_Reader K) dx [("x_fine", .non), ("x_names", .ref an), ("x_fails", .ref af)]))
  have waf : H af = none := by
    cases q : H af with
    | none => rfl
    | some y => exact absurd naf (u2.dom _ (by rw [q]; exact fun z => nomatch z))
  have u3 : Kp (one o) H (upd (upd H2 af (.dK [])) o (.ins (c_Reader K) dx [("x_fine", .non), ("x_names", .ref an), ("x_fails", .ref af)])) := (u2.trans (.ext (ext_new naf))).put rfl
  have o3 : (upd (upd H2 af (.dK [])) o (.ins (c_Reader K) dx [("x_fine", .non), ("x_names", .ref an), ("x_fails", .ref af)])) o = some (.ins (c_Reader K) dx [("x_fine", .non), ("x_names", .ref an), ("x_fails", .ref af)]) := upd_same
  have paf_3 : (upd (upd H2 af (.dK [])) o (.ins (c_Reader K) dx [("x_fine", .non), ("x_names", .ref an), ("x_fails", .ref af)])) af = some (.dK []) := by rw [upd_ne maf, upd_same]
  have danaf : an ≠ af := ne_of_none pan_2 naf
  have pan_3 : (upd (upd H2 af (.dK [])) o (.ins (c_Reader K) dx [("x_fine", .non), ("x_names", .ref an), ("x_fails", .ref af)])) an = some (.lst []) := by rw [upd_ne man, upd_ne danaf]; exact pan_2
  generalize upd (upd H2 af (.dK [])) o (.ins (c_Reader K) dx [("x_fine", .non), ("x_names", .ref an), ("x_fails", .ref af)]) = H3 at u3 o3 paf_3 pan_3
  refine fun ar nar => ⟨_, rfl, o, _, dx, _, rfl, ext_new nar _ _ o3, x.cl_Reader, x.na_Reader_x_rules, by simp, ?_⟩
  have mar : ar ≠ o := fun z => by rw [z, o3] at nar; cases nar
  change tSeq _ _ _ _ (upd (upd H3 ar (.dK [])) o (.ins (c_Reader K) dx [("x_fine", .non), ("x_names", .ref an), ("x_fails", .ref af), ("x_rules", .ref ar)]))
  have war : H ar = none := by
    cases q : H ar with
    | none => rfl
    | some y => exact absurd nar (u3.dom _ (by rw [q]; exact fun z => nomatch z))
  have u4 : Kp (one o) H (upd (upd H3 ar (.dK [])) o (.ins (c_Reader K) dx [("x_fine", .non), ("x_names", .ref an), ("x_fails", .ref af), ("x_rules", .ref ar)])) := (u3.trans (.ext (ext_new nar))).put rfl
  have o4 : (upd (upd H3 ar (.dK [])) o (.ins (c_Reader K) dx [("x_fine", .non), ("x_names", .ref an), ("x_fails", .ref af), ("x_rules", .ref ar)])) o = some (.ins (c_Reader K) dx [("x_fine", .non), ("x_names", .ref an), ("x_fails", .ref af), ("x_rules", .ref ar)]) := upd_same
  have par_4 : (upd (upd H3 ar (.dK [])) o (.ins (c_Reader K) dx [("x_fine", .non), ("x_names", .ref an), ("x_fails", .ref af), ("x_rules", .ref ar)])) ar = some (.dK []) := by rw [upd_ne mar, upd_same]
  have danar : an ≠ ar := ne_of_none pan_3 nar
  have pan_4 : (upd (upd H3 ar (.dK [])) o (.ins (c_Reader K) dx [("x_fine", .non), ("x_names", .ref an), ("x_fails", .ref af), ("x_rules", .ref ar)])) an = some (.lst []) := by rw [upd_ne man, upd_ne danar]; exact pan_3
  have dafar : af ≠ ar := ne_of_none paf_3 nar
  have paf_4 : (upd (upd H3 ar (.dK [])) o (.ins (c_Reader K) dx [("x_fine", .non), ("x_names", .ref an), ("x_fails", .ref af), ("x_rules", .ref ar)])) af = some (.dK []) := by rw [upd_ne maf, upd_ne dafar]; exact paf_3
  generalize upd (upd H3 ar (.dK [])) o (.ins (c_Reader K) dx [("x_fine", .non), ("x_names", .ref an), ("x_fails", .ref af), ("x_rules", .ref ar)]) = H4 at u4 o4 par_4 pan_4 paf_4
  refine fun aw naw => ⟨_, rfl, o, _, dx, _, rfl, ext_new naw _ _ o4, x.cl_Reader, x.na_Reader_x_ways, by simp, ?_⟩
  have maw : aw ≠ o := fun z => by rw [z, o4] at naw; cases naw
  rw [show putF "x_ways" (.ref aw) ([("x_fine", .non), ("x_names", .ref an), ("x_fails", .ref af), ("x_rules", .ref ar)] : List (Str × V)) = ([("x_fine", .non), ("x_names", .ref an), ("x_fails", .ref af), ("x_rules", .ref ar), ("x_ways", .ref aw)] : List (Str × V)) from rfl]
  have waw : H aw = none := by
    cases q : H aw with
    | none => rfl
    | some y => exact absurd naw (u4.dom _ (by rw [q]; exact fun z => nomatch z))
  have u5 : Kp (one o) H (upd (upd H4 aw (.dK [])) o (.ins (c_Reader K) dx [("x_fine", .non), ("x_names", .ref an), ("x_fails", .ref af), ("x_rules", .ref ar), ("x_ways", .ref aw)])) := (u4.trans (.ext (ext_new naw))).put rfl
  have o5 : (upd (upd H4 aw (.dK [])) o (.ins (c_Reader K) dx [("x_fine", .non), ("x_names", .ref an), ("x_fails", .ref af), ("x_rules", .ref ar), ("x_ways", .ref aw)])) o = some (.ins (c_Reader K) dx [("x_fine", .non), ("x_names", .ref an), ("x_fails", .ref af), ("x_rules", .ref ar), ("x_ways", .ref aw)]) := upd_same
  have paw_5 : (upd (upd H4 aw (.dK [])) o (.ins (c_Reader K) dx [("x_fine", .non), ("x_names", .ref an), ("x_fails", .ref af), ("x_rules", .ref ar), ("x_ways", .ref aw)])) aw = some (.dK []) := by rw [upd_ne maw, upd_same]
  have danaw : an ≠ aw := ne_of_none pan_4 naw
  have pan_5 : (upd (upd H4 aw (.dK [])) o (.ins (c_Reader K) dx [("x_fine", .non), ("x_names", .ref an), ("x_fails", .ref af), ("x_rules", .ref ar), ("x_ways", .ref aw)])) an = some (.lst []) := by rw [upd_ne man, upd_ne danaw]; exact pan_4
  have dafaw : af ≠ aw := ne_of_none paf_4 naw
  have paf_5 : (upd (upd H4 aw (.dK [])) o (.ins (c_Reader K) dx [("x_fine", .non), ("x_names", .ref an), ("x_fails", .ref af), ("x_rules", .ref ar), ("x_ways", .ref aw)])) af = some (.dK []) := by rw [upd_ne maf, upd_ne dafaw]; exact paf_4
  have daraw : ar ≠ aw := ne_of_none par_4 naw
  have par_5 : (upd (upd H4 aw (.dK [])) o (.ins (c_Reader K) dx [("x_fine", .non), ("x_names", .ref an), ("x_fails", .ref af), ("x_rules", .ref ar), ("x_ways", .ref aw)])) ar = some (.dK []) := by rw [upd_ne mar, upd_ne daraw]; exact par_4
  generalize upd (upd H4 aw (.dK [])) o (.ins (c_Reader K) dx [("x_fine", .non), ("x_names", .ref an), ("x_fails", .ref af), ("x_rules", .ref ar), ("x_ways", .ref aw)]) = H5 at u5 o5 paw_5 pan_5 paf_5 par_5
  refine ⟨_, rfl, o, _, dx, _, rfl, o5, x.cl_Reader, x.na_Reader_x_entries, by simp, ?_⟩
  change Q .non (upd H5 o (.ins (c_Reader K) dx [("x_fine", .non), ("x_names", .ref an), ("x_fails", .ref af), ("x_rules", .ref ar), ("x_ways", .ref aw), ("x_entries", .non)]))
  have u6 : Kp (one o) H (upd H5 o (.ins (c_Reader K) dx [("x_fine", .non), ("x_names", .ref an), ("x_fails", .ref af), ("x_rules", .ref ar), ("x_ways", .ref aw), ("x_entries", .non)])) := u5.put rfl
  refine hQ _ (fun y => y = o ∨ y = an ∨ y = af ∨ y = ar ∨ y = aw) u6 (fun y h => ?_) (fun y h => ?_) ⟨dx, an, af, ar, aw, .non, [], [], ⟨.inl rfl, .inr (.inl rfl), .inr (.inr (.inl rfl)), .inr (.inr (.inr (.inl rfl))), .inr (.inr (.inr (.inr rfl)))⟩, upd_same, ?_, ?_, ?_, ?_, .nil, by simp, ?_, .nil, rfl⟩
  · rcases h with rfl | rfl | rfl | rfl | rfl
    · exact .inl rfl
    · exact .inr wan
    · exact .inr waf
    · exact .inr war
    · exact .inr waw
  · have t : ∀ {b : Addr} {u : HO}, b ≠ o → H5 b = some u → (upd H5 o (.ins (c_Reader K) dx [("x_fine", .non), ("x_names", .ref an), ("x_fails", .ref af), ("x_rules", .ref ar), ("x_ways", .ref aw), ("x_entries", .non)])) b ≠ none := fun ne e => by rw [upd_ne ne, e]; exact fun z => nomatch z
    rcases h with rfl | rfl | rfl | rfl | rfl
    · rw [upd_same]; exact fun z => nomatch z
    · exact t man pan_5
    · exact t maf paf_5
    · exact t mar par_5
    · exact t maw paw_5
  · rw [upd_ne man]; exact pan_5
  · rw [upd_ne maf]; exact paf_5
  · rw [upd_ne mar]; exact par_5
  · rw [upd_ne maw]; exact paw_5
  · simp [dafar, dafaw, daraw]
def sp_Reader_is_between (K : PySem.W.Frag) : Sp := fun vs H Q _ => ∃ (S : Addr → Prop) (o : Addr) (d : RdD), vs = [.ref o] ∧ RdAt S K H o d ∧ d.Ok ∧ ∀ H', Ext H H' → Q (.bl (betweenP d)) H'
theorem sc_Reader_is_between : FnScope ["self"] ["self"] (defScope s_Reader_is_between) := ⟨rfl, rfl, rfl, by decide +kernel, rfl, by decide +kernel, by decide +kernel⟩
theorem ok_Reader_is_between (x : Fx K mg w) : FnR P w K mg base CX0 1 (a_Reader_is_between K) (sp_Reader_is_between K) := by
  refine okR x.F_Reader_is_between sc_Reader_is_between (fun _ _ _ _ _ _ us hl => match us, hl with | [_], _ => rfl) (fun vs H Q E h => by obtain ⟨S, o, d, rfl, t, ok, hQ⟩ := h; rfl) (fun cdv A outer s H vs Q E hr h => ?_)
  obtain ⟨S, o, d, rfl, t, ok, hQ⟩ := h
  refine ⟨_, (pss_one (ps_ret (pe_and (pe_cmpR op_notN (pe_fldK (K := K) rfl (pv 0) rfl) pe_non (nomark _)) (pe_one (pe_or (pe_cmpR (show OpR _ _ (rEqNil K false) from op_eqNil hr) (pe_fldK (K := K) rfl (pv 0) rfl) (pe_lst pa_nil) (nomark _)) (pe_one (pe_cmpR (show OpR _ _ (rEqNil K true) from op_neNil hr) (pe_dget (hu_of hr) (pe_fldK (K := K) rfl (pv 0) rfl) (pe_ix (r := rIxL K) ix_list (pe_fldK (K := K) rfl (pv 0) rfl) (pe_un un_neg pe_int) (fun _ _ => rfl)) (fun _ _ => rfl)) (pe_lst pa_nil) (nomark _)))))))), ?_⟩
  obtain ⟨dx, an, af, ar, aw, ve, ls, kw, s, h1, h2, h3, h4, h5, h6, h7, h8, h9, h10⟩ := id t
  refine ⟨_, rfl, o, _, dx, _, _, rfl, h1, x.cl_Reader, x.na_Reader_x_fine, rfl, ?_⟩
  refine ⟨rfl, _, rfl, ifb (fun q => ?_) fun q => ?_⟩
  · have fs : d.fine.isSome = true := by
      cases g : d.fine with
      | none => rw [g] at q; simp [optV] at q
      | some i => rfl
    refine ⟨_, rfl, o, _, dx, _, _, rfl, h1, x.cl_Reader, x.na_Reader_x_names, rfl, by simp [sizeLine_eq], fun e ne => ⟨an, e, _, rfl, rfl, .of (ext_new ne _ _ h2), .of upd_same, _, rfl, ?_⟩⟩
    have e1 : Ext H (upd H e (.lst [])) := ext_new ne
    generalize upd H e (.lst []) = H1 at e1
    rcases last_cases d.hs with g | ⟨pre, p, g⟩
    · refine ifT (by simp [RdD.names, g]) ?_
      have b : betweenP d = true := by simp [betweenP, fs, g]
      have := hQ _ e1
      rwa [b] at this
    · refine ifF (by simp [RdD.names, g]) ?_
      have fr := ok.fresh g
      have hn : d.names.map V.str = (pre.map (·.1)).map V.str ++ [.str p.1] := by simp [RdD.names, g]
      rw [g] at h6
      obtain ⟨lp, l, rfl, g1, g2, os, g3, g4⟩ := h6.last
      have hl : lp.length = pre.length := Paired.length g1
      have t1 := e1 _ _ h1
      have t2 := e1 _ _ h2
      have t4 := e1 _ _ h4
      rw [hn] at t2
      rw [g] at t4
      refine ⟨_, rfl, o, _, dx, _, _, rfl, t1, x.cl_Reader, x.na_Reader_x_rules, rfl, _, rfl, o, _, dx, _, _, rfl, t1, x.cl_Reader, x.na_Reader_x_names, rfl, 1, rfl, an, _, -1, .str p.1, rfl, rfl, .of t2, atI_end, ar, _, rfl, dget_str t4 (rls_last hl fr), by simp [sizeLine_eq], fun e2 ne2 => ⟨l, e2, _, rfl, rfl, .of (ext_new ne2 _ _ (e1 _ _ g3)), .of upd_same, ?_⟩⟩
      have b : betweenP d = !(os.map V.ref).isEmpty := by
        have lr := Paired.length g4
        rw [betweenP, fs, g]
        simp only [List.getLast?_append, List.getLast?_singleton, Option.some_or, Bool.true_and]
        congr 1
        rw [Bool.eq_iff_iff, List.isEmpty_iff_length_eq_zero, List.isEmpty_iff_length_eq_zero, List.length_map, lr]
      have := hQ _ (e1.trans (ext_new (o := .lst []) ne2))
      rwa [b] at this
  · have fs : d.fine.isSome = false := by
      cases g : d.fine with
      | none => rfl
      | some i => rw [g] at q; simp [optV] at q
    have b : betweenP d = false := by simp [betweenP, fs]
    have := hQ _ Ext.rfl'
    rwa [b] at this
end
section
variable {S : Addr → Prop} {K : PySem.W.Frag} {H H1 : Hp} {o q : Addr}
theorem RlsAt.put {u : HO} (sq : S q) : ∀ {ls : List Addr} {hs : List (Str × RdH)}, RlsAt S K H ls hs → q ∉ ls → RlsAt S K (upd H q u) ls hs
  | _, _, .nil, _ => .nil
  | l :: ls, _, .cons ⟨s, os, h1, h2⟩ t, n => by
    have n1 : l ≠ q := fun z => n (by rw [z]; exact List.mem_cons_self)
    have n2 : q ∉ ls := fun z => n (List.mem_cons_of_mem _ z)
    exact .cons ⟨s, os, by rw [upd_ne n1]; exact h1, Paired.mapP h2 fun _ _ z => z.kp (Kp.refl.put sq)⟩ (RlsAt.put sq t n2)
theorem RlsAt.lists : ∀ {ls : List Addr} {hs : List (Str × RdH)}, RlsAt S K H ls hs → ∀ l ∈ ls, ∃ xs, H l = some (.lst xs)
  | _, _, .nil, l, hl => by simp at hl
  | _, _, .cons ⟨s, os, h1, h2⟩ t, l, hl => by
    rcases List.mem_cons.mp hl with rfl | hl
    · exact ⟨_, h1⟩
    · exact RlsAt.lists t l hl
/-- the reader's own fields written -/
theorem rd_fields {d : RdD} {dx an af ar aw : Addr} {vf ve ve' : V} {ls : List Addr} {kw : List (Key × V)} {f' : Option Int} {e' : Option (List Str)} (s : S o ∧ S an ∧ S af ∧ S ar ∧ S aw) (h1 : H o = some (.ins (c_Reader K) dx (rdF vf an af ar aw ve)))
    (h2 : H an = some (.lst (d.names.map V.str))) (h3 : H af = some (.dK (failsK d.hs))) (h4 : H ar = some (.dK (rlsK ls d.hs))) (h5 : H aw = some (.dK kw)) (h6 : RlsAt S K H ls d.hs) (h7 : (an :: ls).Nodup) (h8 : [af, ar, aw].Nodup) (h9 : WysAt S H kw d.ways)
    (h10 : EntAt S H ve' e') : RdAt S K (upd H o (.ins (c_Reader K) dx (rdF (optV f') an af ar aw ve'))) o { d with fine := f', ents := e' } := by
  have u : Kp S H (upd H o (.ins (c_Reader K) dx (rdF (optV f') an af ar aw ve'))) := Kp.refl.put s.1
  have n : ∀ {b : Addr} {y : HO}, H b = some y → (∀ C e fs, y ≠ .ins C e fs) → b ≠ o := fun hb hy z => by
    rw [z, h1] at hb
    exact hy _ _ _ (Option.some.inj hb).symm
  refine ⟨dx, an, af, ar, aw, ve', ls, kw, s, upd_same, ?_, ?_, ?_, ?_, h6.put s.1 (fun z => ?_), h7, h8, h9.kp u, h10.kp u⟩
  · rw [upd_ne (n h2 fun _ _ _ z => nomatch z)]; exact h2
  · rw [upd_ne (n h3 fun _ _ _ z => nomatch z)]; exact h3
  · rw [upd_ne (n h4 fun _ _ _ z => nomatch z)]; exact h4
  · rw [upd_ne (n h5 fun _ _ _ z => nomatch z)]; exact h5
  · obtain ⟨xs, hx⟩ := h6.lists o z
    rw [h1] at hx
    cases hx
end
theorem cut_drop {xs : List V} {j : Nat} : cutV xs (some (j : Int)) none = xs.drop j := by
  unfold cutV
  rw [HT.sIx_nat, HT.sIx_none]
  rcases Nat.le_total j xs.length with h | h
  · rw [Nat.min_eq_left h, List.take_of_length_le (by rw [List.length_drop]; omega)]
  · rw [Nat.min_eq_right h, List.drop_of_length_le h]
    simp
theorem at_wd {ws : List Str} {i : Nat} (h : i < ws.length) : (ws.map V.str)[i]? = some (.str (wd ws i)) := by
  unfold wd
  rw [List.getElem?_map, List.getD_eq_getElem?_getD, List.getElem?_eq_getElem h]
  rfl
theorem wd_mem {ws : List Str} {i : Nat} (h : i < ws.length) : wd ws i ∈ ws := by
  unfold wd
  rw [List.getD_eq_getElem?_getD, List.getElem?_eq_getElem h]
  exact List.getElem_mem h
theorem num_int {z : Str} (h : isNumeral z = true) : intText? z = some (numOf z) ∧ z.length ≤ 4 := by
  unfold isNumeral at h
  simp only [Bool.and_eq_true, decide_eq_true_eq, List.all_eq_true] at h
  obtain ⟨l1, l4, hd, _⟩ := h
  have e : z.length = z.cps.toList.length := TL.len_tl z
  refine ⟨?_, l4⟩
  have := SX.int_S (a := z.cps.toList) (by
    rw [List.all_eq_true]
    intro c hc
    have all : ∀ c ∈ digits.cps.toList, (decide (48 ≤ c) && decide (c ≤ 57)) = true := by decide +kernel
    exact all c (hd c hc)) (fun z => by rw [z] at e; simp at e; omega) (by omega)
  rwa [SX.S_tl] at this
theorem numOf_nn {z : Str} : 0 ≤ numOf z := Int.natCast_nonneg _
section
variable {P : Program} {w : World} {K : PySem.W.Frag} {mg : Str → Option Value} {base : Heap}
/-- a word that may be asked -/
abbrev Wk (w : Str) : Prop := w.length ≤ 1000 ∧ PyData.strOk w = true
/-- what reading one line does -/
def spTake (K : PySem.W.Frag) (f : RdD → List Str → Option RdD) : Sp := fun vs H Q _ => ∃ (S : Addr → Prop) (o a : Addr) (d : RdD) (ws : List Str), vs = [.ref o, .ref a] ∧ Dm S H ∧ RdAt S K H o d ∧ d.Ok ∧ d.hs.length < 900 ∧ At S H a (.lst (ws.map V.str)) ∧ ws.length ≤ 1000 ∧ (∀ w ∈ ws, Wk w) ∧
  (f d ws = none → ∀ H', Kp S H H' → Q (.bl false) H') ∧ ∀ d' S' H', f d ws = some d' → Kp S H H' → (∀ x, S' x → S x ∨ H x = none) → Dm S' H' → RdAt S' K H' o d' → Q (.bl true) H'
theorem sc_Reader_take_fine : FnScope ["self", "words"] ["self", "words"] (defScope s_Reader_take_fine) := ⟨rfl, rfl, rfl, by decide +kernel, rfl, by decide +kernel, by decide +kernel⟩
theorem ok_Reader_take_fine (x : Fx K mg w) : FnR P w K mg base CX0 2 (a_Reader_take_fine K) (spTake K takeFine) := by
  refine okR x.F_Reader_take_fine sc_Reader_take_fine (fun _ _ _ _ _ _ us hl => match us, hl with | [_, _], _ => rfl) (fun vs H Q E h => by obtain ⟨S, o, a, d, ws, rfl, dm, t, ok, hl, ha, wl, ww, hN, hY⟩ := h; rfl) (fun cdv A outer s H vs Q E hr h => ?_)
  obtain ⟨S, o, a, d, ws, rfl, dm, t, ok, hl, ha, wl, ww, hN, hY⟩ := h
  refine ⟨_, (pss_cons (ps_if (PW.pt (pw_or (pt_cmpR op_notN (pe_fldK (K := K) rfl (pv 0) rfl) pe_non (nomark _)) (pw_or (pt_cmpR op_ne (pe_callB (r := rLenK K) call_lenK rfl x.n_len bb_len (pa_cons (pv 1) pa_nil)) pe_int (nomark _)) (pw_or1 (pt_not (pt_val (pe_callR (ok_is_numeral x) (hr.mono (by decide)) rfl x.m_is_numeral (keep_of x.F_is_numeral) pass0 (pa_cons (pe_ix (r := rIxL K) ix_list (pv 1) pe_int (fun _ _ => rfl)) pa_nil))))))))
 (pss_one (ps_ret pe_bl))
 pss_nil)
 (pss_cons (ps_fld (pv 0) (pe_callTy call_int_str rfl x.n_int bb_int (pa_cons (pe_ix (r := rIxL K) ix_list (pv 1) pe_int (fun _ _ => rfl)) pa_nil)) rfl)
 (pss_one (ps_ret (pe_chain op_le op_le pe_int (pe_fldK (K := K) rfl (pv 0) rfl) (pe_gI x.i_MOST_FINE rfl)))))), ?_⟩
  obtain ⟨dx, an, af, ar, aw, ve, ls, kw, s, h1, h2, h3, h4, h5, h6, h7, h8, h9, h10⟩ := id t
  refine ⟨_, rfl, o, _, dx, _, _, rfl, h1, x.cl_Reader, x.na_Reader_x_fine, rfl, rfl, _, rfl, ifb (fun q1 => ?_) fun q1 => ?_⟩
  · have fs : d.fine.isSome = true := by
      cases g : d.fine with
      | none => rw [g] at q1; simp [optV] at q1
      | some i => rfl
    exact hN (by simp [takeFine, fs]) _ Kp.refl
  · have fs : d.fine.isSome = false := by
      cases g : d.fine with
      | none => rfl
      | some i => rw [g] at q1; simp [optV] at q1
    refine ⟨_, rfl, _, _, rfl, sq_lenV (.inl (.of ha.1)), rfl, _, rfl, ifb (fun q2 => ?_) fun q2 => ?_⟩
    · have l2 : ws.length ≠ 2 := by simp at q2; omega
      exact hN (by simp [takeFine, l2]) _ Kp.refl
    · have l2 : ws.length = 2 := by simp at q2; omega
      have i1 : 1 < ws.length := by omega
      refine ⟨_, rfl, a, _, 1, .str (wd ws 1), rfl, rfl, .of ha.1, atI_nat (at_wd i1), wd ws 1, rfl, (ww _ (wd_mem i1)).1, fun H1 e1 => ⟨_, rfl, ifb (fun q3 => ?_) fun q3 => ?_⟩⟩
      · have n1 : isNumeral (wd ws 1) = false := by simpa using q3
        exact hN (by simp [takeFine, n1]) _ (.ext e1)
      · have n1 : isNumeral (wd ws 1) = true := by simpa using q3
        obtain ⟨n2, n3⟩ := num_int n1
        refine ⟨_, rfl, a, _, 1, .str (wd ws 1), rfl, rfl, .of (e1 _ _ ha.1), atI_nat (at_wd i1), wd ws 1, _, rfl, n2, by omega, _, rfl, o, _, dx, _, rfl, e1 _ _ h1, x.cl_Reader, x.na_Reader_x_fine, by simp [rdF], ?_⟩
        rw [show putF "x_fine" (.int (numOf (wd ws 1))) (rdF (optV d.fine) an af ar aw ve) = rdF (optV (some (numOf (wd ws 1)))) an af ar aw ve from rfl]
        dsimp only
        have tR := rd_fields (f' := some (numOf (wd ws 1))) (e' := d.ents) s (e1 _ _ h1) (e1 _ _ h2) (e1 _ _ h3) (e1 _ _ h4) (e1 _ _ h5) (h6.ext e1) h7 h8 (h9.kp (.ext e1)) (h10.kp (.ext e1))
        have oR : (upd H1 o (.ins (c_Reader K) dx (rdF (optV (some (numOf (wd ws 1)))) an af ar aw ve))) o = some (.ins (c_Reader K) dx (rdF (optV (some (numOf (wd ws 1)))) an af ar aw ve)) := upd_same
        have uR : Kp S H (upd H1 o (.ins (c_Reader K) dx (rdF (optV (some (numOf (wd ws 1)))) an af ar aw ve))) := (Kp.ext e1).put s.1
        generalize upd H1 o (.ins (c_Reader K) dx (rdF (optV (some (numOf (wd ws 1)))) an af ar aw ve)) = H2 at tR oR uR
        refine ⟨_, rfl, o, _, dx, _, _, rfl, oR, x.cl_Reader, x.na_Reader_x_fine, rfl, _, _, rfl, rfl, _, rfl, ifb (fun q4 => ?_) fun q4 => ?_⟩
        · have q4 : 1 ≤ numOf (wd ws 1) := by simpa using q4
          refine ⟨_, _, rfl, rfl, ?_⟩
          dsimp only
          by_cases q5 : numOf (wd ws 1) ≤ 1000
          · rw [decide_eq_true q5]
            exact hY _ S H2 (by simp [takeFine, fs, l2, n1, q4, q5]) uR (fun _ h => .inl h) (dm.kp uR) tR
          · rw [decide_eq_false q5]
            exact hN (by simp [takeFine, fs, l2, n1, q5]) _ uR
        · have q4 : ¬ 1 ≤ numOf (wd ws 1) := by simpa using q4
          exact hN (by simp [takeFine, fs, l2, n1, q4]) _ uR
theorem sc_Reader_take_entries : FnScope ["self", "words"] ["self", "words"] (defScope s_Reader_take_entries) := ⟨rfl, rfl, rfl, by decide +kernel, rfl, by decide +kernel, by decide +kernel⟩
theorem ok_Reader_take_entries (x : Fx K mg w) : FnR P w K mg base CX0 3 (a_Reader_take_entries K) (spTake K takeEntries) := by
  refine okR x.F_Reader_take_entries sc_Reader_take_entries (fun _ _ _ _ _ _ us hl => match us, hl with | [_, _], _ => rfl) (fun vs H Q E h => by obtain ⟨S, o, a, d, ws, rfl, dm, t, ok, hl, ha, wl, ww, hN, hY⟩ := h; rfl) (fun cdv A outer s H vs Q E hr h => ?_)
  obtain ⟨S, o, a, d, ws, rfl, dm, t, ok, hl, ha, wl, ww, hN, hY⟩ := h
  refine ⟨_, (pss_cons (ps_if (PW.pt (pw_or (pt_not (pt_val (Ws.pe_methR0 (pv 0) x.cl_Reader x.me_Reader_is_between (ok_Reader_is_between x) (hr.mono (by decide)) pass0))) (pw_or (pt_cmpR (show OpR _ _ (rEqNil K false) from op_eqNil hr) (pe_fldK (K := K) rfl (pv 0) rfl) (pe_lst pa_nil) (nomark _)) (pw_or1 (pt_not (pt_val (pe_callR (ok_are_ascending x) (hr.mono (by decide)) rfl x.m_are_ascending (keep_of x.F_are_ascending) pass0 (pa_cons (pe_slice (r := rSlL K) sl_list (pv 1) (po_some pe_int) po_none) pa_nil))))))))
 (pss_one (ps_ret pe_bl))
 pss_nil)
 (pss_cons (ps_fld (pv 0) (pe_slice (r := rSlL K) sl_list (pv 1) (po_some pe_int) po_none) rfl)
 (pss_one (ps_ret pe_bl)))), ?_⟩
  obtain ⟨dx, an, af, ar, aw, ve, ls, kw, s, h1, h2, h3, h4, h5, h6, h7, h8, h9, h10⟩ := id t
  refine ⟨_, rfl, o, dx, _, rfl, h1, rfl, S, o, d, rfl, t, ok, fun H1 e1 => ⟨_, rfl, ifb (fun q1 => ?_) fun q1 => ?_⟩⟩
  · have b : betweenP d = false := by simpa using q1
    exact hN (by simp [takeEntries, b]) _ (.ext e1)
  · have b : betweenP d = true := by simpa using q1
    refine ⟨_, rfl, o, _, dx, _, _, rfl, e1 _ _ h1, x.cl_Reader, x.na_Reader_x_names, rfl, by simp [sizeLine_eq], fun e ne => ⟨an, e, _, rfl, rfl, .of (ext_new ne _ _ (e1 _ _ h2)), .of upd_same, _, rfl, ?_⟩⟩
    have e2 : Ext H (upd H1 e (.lst [])) := e1.trans (ext_new ne)
    generalize upd H1 e (.lst []) = H2 at e2
    refine ifb (fun q2 => ?_) fun q2 => ?_
    · have n0 : d.hs = [] := by simpa [RdD.names] using q2
      exact hN (by simp [takeEntries, n0]) _ (.ext e2)
    · have n0 : d.hs ≠ [] := by simpa [RdD.names] using q2
      have ha2 := e2 _ _ ha.1
      have row : cutV (ws.map V.str) (some 1) none = (ws.drop 1).map V.str := by
        rw [show (some (1 : Int)) = some ((1 : Nat) : Int) from rfl, cut_drop, List.map_drop]
      refine ⟨_, rfl, 1, rfl, a, _, rfl, .of ha2, fun p np => ?_⟩
      rw [row]
      have e3 : Ext H (upd H2 p (.lst ((ws.drop 1).map V.str))) := e2.trans (ext_new np)
      have hp3 : (upd H2 p (.lst ((ws.drop 1).map V.str))) p = some (.lst ((ws.drop 1).map V.str)) := upd_same
      generalize upd H2 p (.lst ((ws.drop 1).map V.str)) = H3 at e3 hp3
      refine ⟨p, ws.drop 1, rfl, hp3, by rw [List.length_drop]; omega, fun w hw => (ww w (List.mem_of_mem_drop hw)).1, fun H4 e4 => ⟨_, rfl, ifb (fun q3 => ?_) fun q3 => ?_⟩⟩
      · have c : ascending (ws.drop 1) = false := by simpa using q3
        exact hN (if_pos (.inr (.inr c))) _ (.ext (e3.trans e4))
      · have c : ascending (ws.drop 1) = true := by simpa using q3
        have e04 := e3.trans e4
        refine ⟨_, rfl, 1, rfl, a, _, rfl, .of (e04 _ _ ha.1), fun l nl => ⟨_, rfl, o, _, dx, _, rfl, ext_new nl _ _ (e04 _ _ h1), x.cl_Reader, x.na_Reader_x_entries, by simp [rdF], ?_⟩⟩
        rw [row, show putF "x_entries" (.ref l) (rdF (optV d.fine) an af ar aw ve) = rdF (optV d.fine) an af ar aw (.ref l) from rfl]
        have e5 : Ext H (upd H4 l (.lst ((ws.drop 1).map V.str))) := e04.trans (ext_new nl)
        have hl5 : At S (upd H4 l (.lst ((ws.drop 1).map V.str))) l (.lst ((ws.drop 1).map V.str)) := ⟨upd_same, fun z => dm.ext e04 l z nl⟩
        generalize upd H4 l (.lst ((ws.drop 1).map V.str)) = H5 at e5 hl5
        have tR := rd_fields (f' := d.fine) (e' := some (ws.drop 1)) s (e5 _ _ h1) (e5 _ _ h2) (e5 _ _ h3) (e5 _ _ h4) (e5 _ _ h5) (h6.ext e5) h7 h8 (h9.kp (.ext e5)) ⟨l, rfl, hl5⟩
        have uR : Kp S H (upd H5 o (.ins (c_Reader K) dx (rdF (optV d.fine) an af ar aw (.ref l)))) := (Kp.ext e5).put s.1
        exact hY _ S _ (if_neg fun z => by rcases z with z | z | z <;> simp_all) uR (fun _ h => .inl h) (dm.kp uR) tR
end
end Ws

set_option Elab.async false
set_option linter.all false
set_option maxRecDepth 100000
set_option maxHeartbeats 4000000
set_option pp.deepTerms false
set_option pp.maxSteps 400
namespace Ws
open PySem PySem.Spec PyProof.Rows L2
theorem strs_layA : ∀ {zs : List Str}, (∀ z ∈ zs, Wk z) → PyData.canLayAll0 (zs.map PyData.str) = true
  | [], _ => rfl
  | z :: zs, h => by
    simp only [List.map_cons, PyData.canLayAll0, PyData.canLay0]
    rw [strs_layA fun y hy => h y (List.mem_cons_of_mem _ hy), (h z List.mem_cons_self).2]
    rfl
theorem strs_shaped {zs : List Str} (h : ∀ z ∈ zs, Wk z) : SeqAt.shaped (.list (zs.map PyData.str)) = true ∧ SeqAt.shaped (.tuple (zs.map PyData.str)) = true := by
  unfold SeqAt.shaped
  simp [PyData.canLay0, PyData.depth, strs_depth, strs_layA h]
theorem cut_take {xs : List V} {i j : Nat} : cutV xs (some (i : Int)) (some (j : Int)) = (xs.drop i).take (j - i) := by
  unfold cutV
  rw [HT.sIx_nat, HT.sIx_nat]
  rcases Nat.le_total i xs.length with h | h
  · rw [Nat.min_eq_left h]
    rcases Nat.le_total j xs.length with g | g
    · rw [Nat.min_eq_left g]
    · rw [Nat.min_eq_right g, List.take_of_length_le (by rw [List.length_drop]; omega), List.take_of_length_le (by rw [List.length_drop]; omega)]
  · rw [Nat.min_eq_right h, List.drop_of_length_le h, List.drop_of_length_le (Nat.le_refl _)]
    simp
theorem RlsAt.grow {S : Addr → Prop} {K : PySem.W.Frag} {H : Hp} {q : Addr} {ls : List Addr} {hs : List (Str × RdH)} (h : RlsAt S K H ls hs) (hq : H q = none) : RlsAt (more S q) K H ls hs := Paired.mapP h fun _ _ ⟨s, os, h1, h2⟩ => ⟨.inl s, os, h1, Paired.mapP h2 fun _ _ z => z.grow hq⟩
theorem fails_keys (hs : List (Str × RdH)) : (failsK hs).map (·.1) = (hs.map (·.1)).map Sum.inr := by
  unfold failsK
  rw [List.map_map, List.map_map]
  rfl
theorem key_out {zs : List Str} {z : Str} (h : z ∉ zs) : (Sum.inr z : Key) ∉ zs.map Sum.inr := fun g => by
  obtain ⟨y, hy, e⟩ := List.mem_map.mp g
  injection e with e
  exact h (e ▸ hy)
/-- a name behind the last is new -/
theorem behind_new {d : RdD} {z : Str} (ok : d.Ok) (b : behindP d z = true) : (∀ y ∈ d.names, LtS y z) ∧ z ∉ d.names := by
  have all : ∀ y ∈ d.names, LtS y z := fun y hy => by
    rcases last_cases d.hs with g | ⟨pre, p, g⟩
    · rw [RdD.names, g] at hy; simp at hy
    · have hl : LtS p.1 z := by simpa [behindP, g] using b
      have asc := ok.asc
      rw [RdD.names, g, List.map_append] at hy asc
      rcases List.mem_append.mp hy with hy | hy
      · exact List.lt_trans ((List.pairwise_append.mp asc).2.2 y hy p.1 (by simp)) hl
      · have : y = p.1 := by simpa using hy
        rw [this]; exact hl
  exact ⟨all, fun h => ltS_ne (all z h) rfl⟩
theorem ways_keys {S : Addr → Prop} {H : Hp} : ∀ {kw : List (Key × V)} {ws : List (Str × (List Str × List Str))}, WysAt S H kw ws → kw.map (·.1) = (ws.map (·.1)).map Sum.inr
  | _, _, .nil => rfl
  | _, _, .cons h t => by rw [List.map_cons, List.map_cons, List.map_cons, h.1, ways_keys t]
/-- has the last house its ways? -/
theorem ways_last {S : Addr → Prop} {H : Hp} {kw : List (Key × V)} {d : RdD} {pre : List (Str × RdH)} {z : Str} {h : RdH} (w : WysAt S H kw d.ways) (g : d.hs = pre ++ [(z, h)]) (fr : z ∉ pre.map (·.1)) : (valV kw (Sum.inr z)).isSome = h.ways.isSome := by
  have e : z ∈ d.ways.map (·.1) ↔ h.ways.isSome = true := by
    have sub : ∀ y, y ∈ (pre.filterMap fun p => p.2.ways.map fun w => (p.1, w)).map (·.1) → y ∈ pre.map (·.1) := fun y hy => by
      obtain ⟨q, hq, rfl⟩ := List.mem_map.mp hy
      obtain ⟨p, hp, e⟩ := List.mem_filterMap.mp hq
      cases c : p.2.ways with
      | none => rw [c] at e; cases e
      | some w => rw [c] at e; cases e; exact List.mem_map.mpr ⟨p, hp, rfl⟩
    unfold RdD.ways
    rw [g, List.filterMap_append, List.map_append, List.mem_append]
    constructor
    · rintro (q | q)
      · exact absurd (sub z q) fr
      · cases c : h.ways with
        | none => rw [List.filterMap_cons] at q; simp [c] at q
        | some w => rfl
    · intro q
      cases c : h.ways with
      | none => rw [c] at q; cases q
      | some w => exact .inr (by simp [c])
  cases q : valV kw (Sum.inr z) with
  | none =>
    have : ¬ z ∈ d.ways.map (·.1) := fun hz => by
      have hk : (Sum.inr z : Key) ∈ kw.map (·.1) := by rw [ways_keys w]; exact List.mem_map.mpr ⟨z, hz, rfl⟩
      exact valV_not q hk
    cases c : h.ways with
    | none => rfl
    | some w => exact absurd (e.mpr (by rw [c]; rfl)) this
  | some v =>
    have hk := valV_in q
    rw [ways_keys w] at hk
    obtain ⟨y, hy, ey⟩ := List.mem_map.mp hk
    injection ey with ey
    rw [ey] at hy
    rw [e.mp hy]
    rfl
/-- the last house is another one, of the same name: what does not change -/
theorem set_last {d : RdD} {pre : List (Str × RdH)} {z : Str} {h h' : RdH} (g : d.hs = pre ++ [(z, h)]) : setLast d h' = { d with hs := pre ++ [(z, h')] } := by
  unfold setLast
  rw [g]
  simp
theorem rls_same {lp : List Addr} {l : Addr} {pre : List (Str × RdH)} {z : Str} {h h' : RdH} (hl : lp.length = pre.length) : rlsK (lp ++ [l]) (pre ++ [(z, h')]) = rlsK (lp ++ [l]) (pre ++ [(z, h)]) := by
  rw [rls_app hl, rls_app hl]
  rfl
theorem join_wd {ws : List Str} : Txt.join "" ((ws.drop 1).take 1) = wd ws 1 := by
  rw [TL.join_eq]
  unfold wd
  match ws with
  | [] => rfl
  | [_] => rfl
  | _ :: z :: r => simp [Str.join]
theorem name_len {ws : List Str} (h : isName (wd ws 1) = true) : 1 < ws.length := by
  refine Classical.byContradiction fun z => ?_
  have e : wd ws 1 = "" := by
    unfold wd
    rw [List.getD_eq_getElem?_getD, List.getElem?_eq_none (by omega)]
    rfl
  rw [e] at h
  exact absurd h (by decide +kernel)
section
variable {P : Program} {w : World} {K : PySem.W.Frag} {mg : Str → Option Value} {base : Heap}
theorem sc_Reader_take_house : FnScope ["self", "words"] ["self", "words"] (defScope s_Reader_take_house) := ⟨rfl, rfl, rfl, by decide +kernel, rfl, by decide +kernel, by decide +kernel⟩
theorem ok_Reader_take_house (x : Fx K mg w) : FnR P w K mg base CX0 2 (a_Reader_take_house K) (spTake K takeHouse) := by
  refine okR x.F_Reader_take_house sc_Reader_take_house (fun _ _ _ _ _ _ us hl => match us, hl with | [_, _], _ => rfl) (fun vs H Q E h => by obtain ⟨S, o, a, d, ws, rfl, dm, t, ok, hl, ha, wl, ww, hN, hY⟩ := h; rfl) (fun cdv A outer s H vs Q E hr h => ?_)
  obtain ⟨S, o, a, d, ws, rfl, dm, t, ok, hl, ha, wl, ww, hN, hY⟩ := h
  refine ⟨_, (pss_cons (ps_if (PW.pt (pw_or (pt_not (pt_val (Ws.pe_methR0 (pv 0) x.cl_Reader x.me_Reader_is_between (ok_Reader_is_between x) (hr.mono (by decide)) pass0))) (pw_or (pt_cmpR (show OpR _ _ (rInD K true) from op_notInD hr) (pe_slice (r := rSlL K) sl_list (pv 1) (po_some pe_int) po_none) (pe_tup (pa_cons (pe_lst pa_nil) (pa_cons (pe_lst (pa_cons (pe_gS x.z_FAILS rfl) pa_nil)) pa_nil))) rfl) (pw_or1 (pt_not (pt_val (pe_callR (ok_is_name x) (hr.mono (by decide)) rfl x.m_is_name (keep_of x.F_is_name) pass0 (pa_cons (pe_joinK (K := K) rfl pe_str (pe_slice (r := rSlL K) sl_list (pv 1) (po_some pe_int) (po_some pe_int))) pa_nil))))))))
 (pss_one (ps_ret pe_bl))
 pss_nil)
 (pss_cons (ps_if (PW.pt (pw_and (pt_cmpR (show OpR _ _ (rEqNil K true) from op_neNil hr) (pe_fldK (K := K) rfl (pv 0) rfl) (pe_lst pa_nil) (nomark _)) (pw_and1 (pt_cmpR op_le_str (pe_ix (r := rIxL K) ix_list (pv 1) pe_int (fun _ _ => rfl)) (pe_ix (r := rIxL K) ix_list (pe_fldK (K := K) rfl (pv 0) rfl) (pe_un un_neg pe_int) (fun _ _ => rfl)) (nomark _)))))
 (pss_one (ps_ret pe_bl))
 pss_nil)
 (pss_cons (ps_expr (pe_bmK (K := K) rfl PySem.F.plainAttrs_list PySem.F.slot_list_append PySem.F.type_list_append mt_append (pe_fldK (K := K) rfl (pv 0) rfl) (pa_cons (pe_ix (r := rIxL K) ix_list (pv 1) pe_int (fun _ _ => rfl)) pa_nil)))
 (pss_cons (ps_dput (hu_of hr) (pe_fldK (K := K) rfl (pv 0) rfl) (pe_ix (r := rIxL K) ix_list (pv 1) pe_int (fun _ _ => rfl)) (pe_cmpR op_eq (pe_callB (r := rLenK K) call_lenK rfl x.n_len bb_len (pa_cons (pv 1) pa_nil)) pe_int (nomark _)) rfl)
 (pss_cons (ps_dput (hu_of hr) (pe_fldK (K := K) rfl (pv 0) rfl) (pe_ix (r := rIxL K) ix_list (pv 1) pe_int (fun _ _ => rfl)) (pe_lst pa_nil) rfl)
 (pss_one (ps_ret pe_bl))))))), ?_⟩
  obtain ⟨dx, an, af, ar, aw, ve, ls, kw, s, h1, h2, h3, h4, h5, h6, h7, h8, h9, h10⟩ := id t
  refine ⟨_, rfl, o, dx, _, rfl, h1, rfl, S, o, d, rfl, t, ok, fun H1 e1 => ⟨_, rfl, ifb (fun q1 => ?_) fun q1 => ?_⟩⟩
  · have b : betweenP d = false := by simpa using q1
    exact hN (by simp [takeHouse, b]) _ (.ext e1)
  · have b : betweenP d = true := by simpa using q1
    have row : cutV (ws.map V.str) (some 2) none = (ws.drop 2).map V.str := by
      rw [show (some (2 : Int)) = some ((2 : Nat) : Int) from rfl, cut_drop, List.map_drop]
    refine ⟨_, rfl, 2, rfl, a, _, rfl, .of (e1 _ _ ha.1), fun p np => ?_⟩
    rw [row]
    have e2 : Ext H (upd H1 p (.lst ((ws.drop 2).map V.str))) := e1.trans (ext_new np)
    have hp2 : (upd H1 p (.lst ((ws.drop 2).map V.str))) p = some (.lst ((ws.drop 2).map V.str)) := upd_same
    generalize upd H1 p (.lst ((ws.drop 2).map V.str)) = H2 at e2 hp2
    refine ⟨by simp [sizeLine_eq], fun c1 nc1 => ?_⟩
    have e3 : Ext H2 (upd H2 c1 (.lst [])) := ext_new nc1
    have hc3 : (upd H2 c1 (.lst [])) c1 = some (.lst []) := upd_same
    have m1 : p ≠ c1 := ne_of_none hp2 nc1
    generalize upd H2 c1 (.lst []) = H3 at e3 hc3
    refine ⟨by simp [sizeLine_eq], fun c2 nc2 => ?_⟩
    have e4 : Ext H3 (upd H3 c2 (.lst [.str "fails"])) := ext_new nc2
    have hc4 : (upd H3 c2 (.lst [.str "fails"])) c2 = some (.lst ((["fails"] : List Str).map V.str)) := upd_same
    have m2 : p ≠ c2 := ne_of_none (e3 _ _ hp2) nc2
    generalize upd H3 c2 (.lst [.str "fails"]) = H4 at e4 hc4
    refine ⟨by simp [sizeLine_eq], fun tt ntt => ?_⟩
    have e5 : Ext H4 (upd H4 tt (.tup [.ref c1, .ref c2])) := ext_new ntt
    have ht5 : (upd H4 tt (.tup [.ref c1, .ref c2])) tt = some (.tup [.ref c1, .ref c2]) := upd_same
    generalize upd H4 tt (.tup [.ref c1, .ref c2]) = H5 at e5 ht5
    have e25 := (e3.trans e4).trans e5
    have e05 := e2.trans e25
    have wk : ∀ z ∈ ws.drop 2, Wk z := fun z hz => ww z (List.mem_of_mem_drop hz)
    refine ⟨p, tt, [.ref c1, .ref c2], .list ((ws.drop 2).map PyData.str), [.list (([] : List Str).map PyData.str), .list ((["fails"] : List Str).map PyData.str)], rfl, rfl, .of ht5, .lst (.of (e25 _ _ hp2)) (strs_dp _), (strs_shaped wk).1, ?_, _, rfl, ?_⟩
    · refine .cons ⟨.lst (xs := ([] : List Str).map V.str) (.of ((e4.trans e5) _ _ hc3)) (strs_dp []), (strs_shaped fun z hz => by simp at hz).1, c1, rfl⟩ (.cons ⟨.lst (xs := (["fails"] : List Str).map V.str) (.of (e5 _ _ hc4)) (strs_dp _), (strs_shaped fun z hz => ?_).1, c2, rfl⟩ .nil)
      rw [List.mem_singleton.mp hz]
      exact ⟨by decide, by decide +kernel⟩
    · have eq : ([PyData.list (([] : List Str).map PyData.str), .list ((["fails"] : List Str).map PyData.str)].any fun e => PyData.eqv e (.list ((ws.drop 2).map PyData.str))) = decide (ws.drop 2 = [] ∨ ws.drop 2 = (["fails"] : List Str)) := by
        simp only [List.any_cons, List.any_nil, Bool.or_false, PyData.eqv]
        rw [strs_eqv, strs_eqv, Bool.eq_iff_iff]
        simp only [Bool.or_eq_true, decide_eq_true_eq]
        exact ⟨fun h => h.imp Eq.symm Eq.symm, fun h => h.imp Eq.symm Eq.symm⟩
      rw [eq]
      refine ifb (fun q2 => ?_) fun q2 => ?_
      · have n2 : ¬ (ws.drop 2 = [] ∨ ws.drop 2 = (["fails"] : List Str)) := by
          intro z
          rw [decide_eq_true z] at q2
          simp at q2
        exact hN (if_pos (.inr (.inl n2))) _ (.ext e05)
      · have n2 : ws.drop 2 = [] ∨ ws.drop 2 = (["fails"] : List Str) := by
          refine Classical.byContradiction fun z => ?_
          rw [decide_eq_false z] at q2
          simp at q2
        refine ⟨⟨_, rfl⟩, _, rfl, 1, rfl, 2, rfl, a, _, rfl, .of (e05 _ _ ha.1), fun p2 np2 => ?_⟩
        have row2 : cutV (ws.map V.str) (some 1) (some 2) = ((ws.drop 1).take 1).map V.str := by
          rw [show (some (1 : Int)) = some ((1 : Nat) : Int) from rfl, show (some (2 : Int)) = some ((2 : Nat) : Int) from rfl, cut_take, List.map_take, List.map_drop]
        rw [row2]
        have e6 : Ext H (upd H5 p2 (.lst (((ws.drop 1).take 1).map V.str))) := e05.trans (ext_new np2)
        have hp6 : (upd H5 p2 (.lst (((ws.drop 1).take 1).map V.str))) p2 = some (.lst (((ws.drop 1).take 1).map V.str)) := upd_same
        generalize upd H5 p2 (.lst (((ws.drop 1).take 1).map V.str)) = H6 at e6 hp6
        have lw : (wd ws 1).length ≤ 1000 := by
          by_cases g : 1 < ws.length
          · exact (ww _ (wd_mem g)).1
          · unfold wd
            rw [List.getD_eq_getElem?_getD, List.getElem?_eq_none (by omega)]
            decide
        refine ⟨"", p2, (ws.drop 1).take 1, rfl, rfl, .inl (.of hp6), ?_, ?_⟩
        · have := sum_lens (m := 1000) (ys := (ws.drop 1).take 1) fun y hy => (ww y (List.mem_of_mem_drop (List.mem_of_mem_take hy))).1
          have l1 : ((ws.drop 1).take 1).length ≤ 1 := by rw [List.length_take]; omega
          rw [show ("" : Str).length = 0 from rfl]
          omega
        rw [join_wd]
        refine ⟨wd ws 1, rfl, lw, fun H7 e7 => ⟨_, rfl, ifb (fun q3 => ?_) fun q3 => ?_⟩⟩
        · have n3 : isName (wd ws 1) = false := by simpa using q3
          exact hN (if_pos (.inr (.inr n3))) _ (.ext (e6.trans e7))
        · have n3 : isName (wd ws 1) = true := by simpa using q3
          have i1 := name_len n3
          have e07 := e6.trans e7
          have c0 : takeHouse d ws = if behindP d (wd ws 1) = false then none else some { d with hs := d.hs ++ [(wd ws 1, ⟨decide (ws.length = 3), [], none⟩)] } := if_neg fun z => by
            rcases z with z | z | z
            · rw [b] at z; cases z
            · exact z n2
            · rw [n3] at z; cases z
          dsimp only [tNext]
          refine seq_cut (fun σ' H' => Ext H H' ∧ behindP d (wd ws 1) = true ∧ σ' = [some (.ref o), some (.ref a)]) ?_ fun tail => ?_
          · rintro σ' H8 ⟨e8, bh, rfl⟩
            obtain ⟨z, hz⟩ : ∃ z, z = wd ws 1 := ⟨_, rfl⟩
            rw [← hz] at c0 bh n3
            have hai : atI (ws.map V.str) 1 = some (.str z) := by rw [hz]; exact atI_nat (j := 1) (at_wd i1)
            obtain ⟨bh1, bh2⟩ := behind_new ok bh
            have ln := ok.ln
            have lnn : d.names.length = d.hs.length := by simp [RdD.names]
            have na := (List.nodup_cons.mp h7).1
            have nls := (List.nodup_cons.mp h7).2
            refine ⟨_, rfl, o, _, dx, _, _, rfl, e8 _ _ h1, x.cl_Reader, x.na_Reader_x_names, rfl, .inl ⟨rfl, _, .of (e8 _ _ h2)⟩, _, rfl, a, _, 1, .str z, rfl, rfl, .of (e8 _ _ ha.1), hai, an, _, _, rfl, rfl, e8 _ _ h2, ?_, ?_⟩
            · have := line1001
              rw [List.length_map]
              omega
            have u9 : Kp S H (upd H8 an (.lst (d.names.map V.str ++ [.str z]))) := (Kp.ext e8).put s.2.1
            have x1 : (upd H8 an (.lst (d.names.map V.str ++ [.str z]))) o = some (.ins (c_Reader K) dx (rdF (optV d.fine) an af ar aw ve)) := by rw [upd_ne (ne_of h1 h2 (by simp))]; exact e8 _ _ h1
            have x2 : (upd H8 an (.lst (d.names.map V.str ++ [.str z]))) an = some (.lst ((d.names ++ [z]).map V.str)) := by rw [upd_same, List.map_append]; rfl
            have x3 : (upd H8 an (.lst (d.names.map V.str ++ [.str z]))) af = some (.dK (failsK d.hs)) := by rw [upd_ne (ne_of h3 h2 (by simp))]; exact e8 _ _ h3
            have x4 : (upd H8 an (.lst (d.names.map V.str ++ [.str z]))) ar = some (.dK (rlsK ls d.hs)) := by rw [upd_ne (ne_of h4 h2 (by simp))]; exact e8 _ _ h4
            have x5 : (upd H8 an (.lst (d.names.map V.str ++ [.str z]))) aw = some (.dK kw) := by rw [upd_ne (ne_of h5 h2 (by simp))]; exact e8 _ _ h5
            have x6 := (h6.ext e8).put (u := .lst (d.names.map V.str ++ [.str z])) s.2.1 na
            change tSeq _ _ _ _ (upd H8 an (.lst (d.names.map V.str ++ [.str z])))
            generalize upd H8 an (.lst (d.names.map V.str ++ [.str z])) = H9 at u9 x1 x2 x3 x4 x5 x6
            have ha9 := (ha.kp u9).1
            have vf : valV (failsK d.hs) (Sum.inr z) = none := valV_out (by rw [fails_keys]; exact key_out bh2)
            have lls : ls.length = d.hs.length := Paired.length h6
            have vr : valV (rlsK ls d.hs) (Sum.inr z) = none := valV_out (by rw [rls_keys lls]; exact key_out bh2)
            refine ⟨_, rfl, _, _, rfl, sq_lenV (.inl (.of ha9)), rfl, _, rfl, o, _, dx, _, _, rfl, x1, x.cl_Reader, x.na_Reader_x_fails, rfl, _, rfl, a, _, 1, .str z, rfl, rfl, .of ha9, hai, af, _, rfl, dput_str x3 (by simp [failsK]; omega), ?_⟩
            rw [putK_new _ vf]
            have fl : failsK d.hs ++ [(Sum.inr z, V.bl (decide (V.int (ws.map V.str).length = V.int 3)))] = failsK (d.hs ++ [(z, (⟨decide (ws.length = 3), [], none⟩ : RdH))]) := by
              unfold failsK
              rw [List.map_append, List.length_map]
              congr 3
              simp
              omega
            rw [fl]
            obtain ⟨nh, hnh⟩ : ∃ nh : RdH, nh = ⟨decide (ws.length = 3), [], none⟩ := ⟨_, rfl⟩
            rw [← hnh] at c0 ⊢
            dsimp only
            have nd3 : af ≠ ar ∧ af ≠ aw ∧ ar ≠ aw := by
              simp only [List.nodup_cons, List.mem_cons, List.not_mem_nil, or_false, not_or, not_false_eq_true, List.nodup_nil, and_true] at h8
              exact ⟨h8.1.1, h8.1.2, h8.2⟩
            have u10 : Kp S H (upd H9 af (.dK (failsK (d.hs ++ [(z, nh)])))) := u9.put s.2.2.1
            have y1 : (upd H9 af (.dK (failsK (d.hs ++ [(z, nh)])))) o = some (.ins (c_Reader K) dx (rdF (optV d.fine) an af ar aw ve)) := by rw [upd_ne (ne_of x1 x3 (by simp))]; exact x1
            have y2 : (upd H9 af (.dK (failsK (d.hs ++ [(z, nh)])))) an = some (.lst ((d.names ++ [z]).map V.str)) := by rw [upd_ne (ne_of x2 x3 (by simp))]; exact x2
            have y3 : (upd H9 af (.dK (failsK (d.hs ++ [(z, nh)])))) af = some (.dK (failsK (d.hs ++ [(z, nh)]))) := upd_same
            have y4 : (upd H9 af (.dK (failsK (d.hs ++ [(z, nh)])))) ar = some (.dK (rlsK ls d.hs)) := by rw [upd_ne nd3.1.symm]; exact x4
            have y5 : (upd H9 af (.dK (failsK (d.hs ++ [(z, nh)])))) aw = some (.dK kw) := by rw [upd_ne nd3.2.1.symm]; exact x5
            have naf : af ∉ ls := fun q => by
              obtain ⟨xs, hx⟩ := x6.lists af q
              rw [x3] at hx
              cases hx
            have y6 := x6.put (u := .dK (failsK (d.hs ++ [(z, nh)]))) s.2.2.1 naf
            generalize upd H9 af (.dK (failsK (d.hs ++ [(z, nh)]))) = H10 at u10 y1 y2 y3 y4 y5 y6
            refine ⟨by simp [sizeLine_eq], fun lr nlr => ⟨_, rfl, o, _, dx, _, _, rfl, ext_new nlr _ _ y1, x.cl_Reader, x.na_Reader_x_rules, rfl, _, rfl, a, _, 1, .str z, rfl, rfl, .of (ext_new nlr _ _ (ha.kp u10).1), hai, ar, _, rfl, dput_str (ext_new nlr _ _ y4) (by rw [rls_len lls]; omega), ?_⟩⟩
            rw [putK_new _ vr]
            have rl : rlsK ls d.hs ++ [(Sum.inr z, V.ref lr)] = rlsK (ls ++ [lr]) (d.hs ++ [(z, nh)]) := by rw [rls_app lls]; rfl
            rw [rl]
            have H0lr : H lr = none := by
              cases q : H lr with
              | none => rfl
              | some y => exact absurd nlr (u10.dom _ (by rw [q]; exact fun z => nomatch z))
            have e11 : Ext H10 (upd H10 lr (.lst [])) := ext_new nlr
            have z0 : (upd H10 lr (.lst [])) lr = some (.lst []) := upd_same
            have g6 := (y6.grow nlr).ext e11
            have g9 : WysAt (more S lr) (upd H10 lr (.lst [])) kw d.ways := ((h9.kp u10).grow nlr).kp (.ext e11)
            have g10 : EntAt (more S lr) (upd H10 lr (.lst [])) ve d.ents := ((h10.kp u10).grow nlr).kp (.ext e11)
            have dmm : Dm (more S lr) (upd H10 lr (.lst [])) := fun y hy => hy.elim (fun hy => ext_dom e11 (dm.kp u10 y hy)) fun e => by rw [e, z0]; exact fun z => nomatch z
            have nlan : lr ≠ an := (ne_of_none y2 nlr).symm
            have nlls : lr ∉ ls := fun q => by
              obtain ⟨xs, hx⟩ := y6.lists lr q
              rw [nlr] at hx
              cases hx
            have nar : ar ∉ ls := fun q => by
              obtain ⟨xs, hx⟩ := y6.lists ar q
              rw [y4] at hx
              cases hx
            have k1 := e11 _ _ y1
            have k2 := e11 _ _ y2
            have k3 := e11 _ _ y3
            have k4 := e11 _ _ y4
            have k5 := e11 _ _ y5
            generalize upd H10 lr (.lst []) = H11 at e11 z0 g6 g9 g10 dmm k1 k2 k3 k4 k5
            have u12 : Kp (more S lr) H11 (upd H11 ar (.dK (rlsK (ls ++ [lr]) (d.hs ++ [(z, nh)])))) := Kp.refl.put (.inl s.2.2.2.1)
            refine hY _ (more S lr) _ (by rw [c0, bh]; exact if_neg (by simp)) ((u10.trans (.ext e11)).put s.2.2.2.1) (fun y hy => hy.imp id fun e => by rw [e]; exact H0lr) (dmm.kp u12) ?_
            have nlr' : lr ≠ ar := (ne_of_none y4 nlr).symm
            have wy : RdD.ways { d with hs := d.hs ++ [(z, nh)] } = d.ways := by
              unfold RdD.ways
              rw [List.filterMap_append, hnh]
              simp
            refine ⟨dx, an, af, ar, aw, ve, ls ++ [lr], kw, ⟨.inl s.1, .inl s.2.1, .inl s.2.2.1, .inl s.2.2.2.1, .inl s.2.2.2.2⟩, ?_, ?_, ?_, upd_same, ?_, ?_, ?_, h8, by rw [wy]; exact g9.kp u12, g10.kp u12⟩
            · rw [upd_ne (ne_of k1 k4 (by simp))]; exact k1
            · rw [upd_ne (ne_of k2 k4 (by simp))]
              rw [k2]
              simp [RdD.names]
            · rw [upd_ne nd3.1]; exact k3
            · rw [upd_ne nd3.2.2.symm]; exact k5
            · refine paired_app (g6.put (.inl s.2.2.2.1) nar) (.cons ⟨.inr rfl, [], ?_, ?_⟩ .nil)
              · rw [upd_ne nlr']; exact z0
              · rw [hnh]; exact .nil
            · rw [← List.cons_append, List.nodup_append]
              refine ⟨h7, by simp, fun y hy w hw => ?_⟩
              rw [List.mem_singleton.mp hw]
              rcases List.mem_cons.mp hy with rfl | hy
              · exact nlan.symm
              · exact fun e => nlls (e ▸ hy)
          · refine ⟨_, rfl, o, _, dx, _, _, rfl, e07 _ _ h1, x.cl_Reader, x.na_Reader_x_names, rfl, by simp [sizeLine_eq], fun e ne => ⟨an, e, _, rfl, rfl, .of (ext_new ne _ _ (e07 _ _ h2)), .of upd_same, _, rfl, ?_⟩⟩
            have e8 : Ext H (upd H7 e (.lst [])) := e07.trans (ext_new ne)
            generalize upd H7 e (.lst []) = H8 at e8
            rcases last_cases d.hs with g | ⟨pre, p, g⟩
            · refine ifF (by simp [RdD.names, g]) ?_
              exact tail _ _ ⟨e8, by simp [behindP, g], rfl⟩
            · refine ifT (by simp [RdD.names, g]) ?_
              have hn : d.names.map V.str = (pre.map (·.1)).map V.str ++ [.str p.1] := by simp [RdD.names, g]
              have t2 := e8 _ _ h2
              rw [hn] at t2
              refine ⟨_, rfl, a, _, 1, .str (wd ws 1), rfl, rfl, .of (e8 _ _ ha.1), atI_nat (at_wd i1), _, rfl, o, _, dx, _, _, rfl, e8 _ _ h1, x.cl_Reader, x.na_Reader_x_names, rfl, 1, rfl, an, _, -1, .str p.1, rfl, rfl, .of t2, atI_end, _, _, rfl, rfl, _, rfl, ifb (fun q4 => ?_) fun q4 => ?_⟩
              · have bh : behindP d (wd ws 1) = false := by
                  simp only [Bool.not_eq_true'] at q4
                  simp [behindP, g]
                  simpa using q4
                exact hN (by rw [c0, if_pos bh]) _ (.ext e8)
              · have bh : behindP d (wd ws 1) = true := by
                  simp [behindP, g]
                  simpa using q4
                exact tail _ _ ⟨e8, bh, rfl⟩
theorem sc_Reader_take_rule : FnScope ["self", "words", "name", "share"] ["self", "words"] (defScope s_Reader_take_rule) := ⟨rfl, rfl, rfl, by decide +kernel, rfl, by decide +kernel, by decide +kernel⟩
theorem ok_Reader_take_rule (x : Fx K mg w) : FnR P w K mg base CX0 4 (a_Reader_take_rule K) (spTake K takeRule) := by
  refine okR x.F_Reader_take_rule sc_Reader_take_rule (fun _ _ _ _ _ _ us hl => match us, hl with | [_, _], _ => rfl) (fun vs H Q E h => by obtain ⟨S, o, a, d, ws, rfl, dm, t, ok, hl, ha, wl, ww, hN, hY⟩ := h; rfl) (fun cdv A outer s H vs Q E hr h => ?_)
  obtain ⟨S, o, a, d, ws, rfl, dm, t, ok, hl, ha, wl, ww, hN, hY⟩ := h
  refine ⟨_, (pss_cons (ps_if (PW.pt (pw_or (pt_cmpR (show OpR _ _ (rEqNil K false) from op_eqNil hr) (pe_fldK (K := K) rfl (pv 0) rfl) (pe_lst pa_nil) (nomark _)) (pw_or (pt_cmpR op_lt (pe_callB (r := rLenK K) call_lenK rfl x.n_len bb_len (pa_cons (pv 1) pa_nil)) pe_int (nomark _)) (pw_or (pt_not (pt_val (pe_callR (ok_is_numeral x) (hr.mono (by decide)) rfl x.m_is_numeral (keep_of x.F_is_numeral) pass0 (pa_cons (pe_ix (r := rIxL K) ix_list (pv 1) pe_int (fun _ _ => rfl)) pa_nil)))) (pw_or1 (pt_not (pt_val (pe_callR (ok_is_name x) (hr.mono (by decide)) rfl x.m_is_name (keep_of x.F_is_name) pass0 (pa_cons (pe_ix (r := rIxL K) ix_list (pv 1) pe_int (fun _ _ => rfl)) pa_nil)))))))))
 (pss_one (ps_ret pe_bl))
 pss_nil)
 (pss_cons (ps_par (i := 2) (j := 3) rfl sc_Reader_take_rule.nd rfl rfl (by decide) rfl rfl (pa_cons (pe_ix (r := rIxL K) ix_list (pe_fldK (K := K) rfl (pv 0) rfl) (pe_un un_neg pe_int) (fun _ _ => rfl)) (pa_cons (pe_callTy call_int_str rfl x.n_int bb_int (pa_cons (pe_ix (r := rIxL K) ix_list (pv 1) pe_int (fun _ _ => rfl)) pa_nil)) pa_nil)) (by rfl))
 (pss_cons (ps_if (PW.pt (pw_or (pt_cmp (pc_din (hu_of hr) (pv 2) (pe_fldK (K := K) rfl (pv 0) rfl))) (pw_or (pt_cmpR op_eq (pe_callB (r := rLenK K) call_lenK rfl x.n_len bb_len (pa_cons (pe_dget (hu_of hr) (pe_fldK (K := K) rfl (pv 0) rfl) (pv 2) (fun _ _ => rfl)) pa_nil)) pe_int (nomark _)) (pw_or (pt_cmpR op_gt (pv 3) (pe_fldK (K := K) rfl (pv 0) rfl) (nomark _)) (pw_or1 (pt_cmpR (show OpR _ _ (rInD K true) from op_notInD hr) (pe_callTy (r := rTupOf K) call_tupK rfl x.n_tuple bb_tuple (pa_cons (pe_slice (r := rSlL K) sl_list (pv 1) (po_some pe_int) po_none) pa_nil)) (pe_gR x.m_KEEPS rfl) rfl))))))
 (pss_one (ps_ret pe_bl))
 pss_nil)
 (pss_cons (ps_expr (pe_bmK (K := K) rfl PySem.F.plainAttrs_list PySem.F.slot_list_append PySem.F.type_list_append mt_append (pe_dget (hu_of hr) (pe_fldK (K := K) rfl (pv 0) rfl) (pv 2) (fun _ _ => rfl)) (pa_cons (StX.pe_makeR x.mk_Rule (ok_Rule_init x) (hr.mono (by decide)) rfl x.m_Rule pass0 (pa_cons (pv 3) (pa_cons (pe_ix (r := rIxL K) ix_list (pv 1) pe_int (fun _ _ => rfl)) (pa_cons (pe_cmpR (show OpR _ _ (rIn K false) from op_in_seq) pe_str (pe_slice (r := rSlL K) sl_list (pv 1) (po_some pe_int) po_none) rfl) (pa_cons (pe_cmpR (show OpR _ _ (rIn K false) from op_in_seq) pe_str (pe_slice (r := rSlL K) sl_list (pv 1) (po_some pe_int) po_none) rfl) pa_nil))))) pa_nil)))
 (pss_one (ps_ret pe_bl)))))), ?_⟩
  obtain ⟨dx, an, af, ar, aw, ve, ls, kw, s, h1, h2, h3, h4, h5, h6, h7, h8, h9, h10⟩ := id t
  refine ⟨_, rfl, o, _, dx, _, _, rfl, h1, x.cl_Reader, x.na_Reader_x_names, rfl, by simp [sizeLine_eq], fun e ne => ⟨an, e, _, rfl, rfl, .of (ext_new ne _ _ h2), .of upd_same, _, rfl, ?_⟩⟩
  have e1 : Ext H (upd H e (.lst [])) := ext_new ne
  generalize upd H e (.lst []) = H1 at e1
  rcases last_cases d.hs with g | ⟨pre, ⟨nm, h⟩, g⟩
  · refine ifT (by simp [RdD.names, g]) ?_
    exact hN (by simp [takeRule, g]) _ (.ext e1)
  · refine ifF (by simp [RdD.names, g]) ?_
    have gl : d.hs.getLast? = some (nm, h) := by rw [g]; simp
    have tR : takeRule d ws = (if ws.length < 3 ∨ isNumeral (wd ws 1) = false ∨ isName (wd ws 2) = false then none
      else if h.ways.isSome = true ∨ h.rules.length = 2 ∨ d.fine.getD 0 < numOf (wd ws 1) ∨ ws.drop 3 ∉ KEEPW then none
      else some (setLast d { h with rules := h.rules ++ [ruleOf ws] })) := by simp only [takeRule, gl]
    refine ⟨_, rfl, _, _, rfl, sq_lenV (.inl (.of (e1 _ _ ha.1))), _, _, rfl, rfl, _, rfl, ifb (fun q1 => ?_) fun q1 => ?_⟩
    · have n1 : ws.length < 3 := by simp at q1; omega
      exact hN (by rw [tR, if_pos (.inl n1)]) _ (.ext e1)
    · have n1 : ¬ ws.length < 3 := by simp at q1; omega
      refine ⟨_, rfl, a, _, 1, .str (wd ws 1), rfl, rfl, .of (e1 _ _ ha.1), atI_nat (j := 1) (at_wd (by omega)), wd ws 1, rfl, (ww _ (wd_mem (by omega))).1, fun H2 e2 => ⟨_, rfl, ifb (fun q2 => ?_) fun q2 => ?_⟩⟩
      · have n2 : isNumeral (wd ws 1) = false := by simpa using q2
        exact hN (by rw [tR, if_pos (.inr (.inl n2))]) _ (.ext (e1.trans e2))
      · have n2 : isNumeral (wd ws 1) = true := by simpa using q2
        have e02 := e1.trans e2
        refine ⟨_, rfl, a, _, 2, .str (wd ws 2), rfl, rfl, .of (e02 _ _ ha.1), atI_nat (j := 2) (at_wd (by omega)), wd ws 2, rfl, (ww _ (wd_mem (by omega))).1, fun H3 e3 => ⟨_, rfl, ifb (fun q3 => ?_) fun q3 => ?_⟩⟩
        · have n3 : isName (wd ws 2) = false := by simpa using q3
          exact hN (by rw [tR, if_pos (.inr (.inr n3))]) _ (.ext (e02.trans e3))
        · have n3 : isName (wd ws 2) = true := by simpa using q3
          have e03 := e02.trans e3
          have tR2 : takeRule d ws = (if h.ways.isSome = true ∨ h.rules.length = 2 ∨ d.fine.getD 0 < numOf (wd ws 1) ∨ ws.drop 3 ∉ KEEPW then none
            else some (setLast d { h with rules := h.rules ++ [ruleOf ws] })) := by
            rw [tR]
            exact if_neg fun z => by
              rcases z with z | z | z
              · exact n1 z
              · rw [n2] at z; cases z
              · rw [n3] at z; cases z
          obtain ⟨m1, m2⟩ := num_int n2
          have hn : d.names.map V.str = (pre.map (·.1)).map V.str ++ [.str nm] := by simp [RdD.names, g]
          have t2 := e03 _ _ h2
          rw [hn] at t2
          refine ⟨_, rfl, o, _, dx, _, _, rfl, e03 _ _ h1, x.cl_Reader, x.na_Reader_x_names, rfl, 1, rfl, an, _, -1, .str nm, rfl, rfl, .of t2, atI_end, _, rfl, a, _, 1, .str (wd ws 1), rfl, rfl, .of (e03 _ _ ha.1), atI_nat (j := 1) (at_wd (by omega)), wd ws 1, _, rfl, m1, by omega, _, _, rfl, ?_⟩
          dsimp only
          have fr := ok.fresh g
          have t1 := e03 _ _ h1
          have t4 := e03 _ _ h4
          have t5 := e03 _ _ h5
          have h6' := h6
          rw [g] at h6' t4
          obtain ⟨lp, l, rfl, g1, g2, os, g3, g4⟩ := h6'.last
          have hl2 : lp.length = pre.length := Paired.length g1
          have lr : os.length = h.rules.length := Paired.length g4
          obtain ⟨f, hf⟩ : ∃ f, d.fine = some f := Option.isSome_iff_exists.mp (ok.fs (by rw [g]; simp))
          have hr2 := ok.r2 (nm, h) (by rw [g]; simp)
          refine ⟨_, rfl, _, rfl, o, _, dx, _, _, rfl, t1, x.cl_Reader, x.na_Reader_x_ways, rfl, aw, _, rfl, DGet.k (k := Sum.inr nm) t5, ?_⟩
          refine ⟨_, rfl, ifb (fun q4 => ?_) fun q4 => ?_⟩
          · rw [ways_last h9 g fr] at q4
            exact hN (by rw [tR2, if_pos (.inl q4)]) _ (.ext e03)
          rw [ways_last h9 g fr] at q4
          refine ⟨_, rfl, o, _, dx, _, _, rfl, t1, x.cl_Reader, x.na_Reader_x_rules, rfl, _, rfl, ar, _, rfl, dget_str t4 (rls_last hl2 fr), _, _, rfl, sq_lenV (.inl (.of (e03 _ _ g3))), rfl, _, rfl, ifb (fun q5 => ?_) fun q5 => ?_⟩
          · have n5 : h.rules.length = 2 := by
              have q5 := of_decide_eq_true q5
              injection q5 with q5
              rw [List.length_map, lr] at q5
              omega
            exact hN (by rw [tR2, if_pos (.inr (.inl n5))]) _ (.ext e03)
          have n5 : h.rules.length ≠ 2 := fun z => by
            refine of_decide_eq_false q5 ?_
            rw [List.length_map, lr, z]
            rfl
          refine ⟨_, rfl, _, rfl, o, _, dx, _, _, rfl, t1, x.cl_Reader, x.na_Reader_x_fine, rfl, numOf (wd ws 1), f, rfl, by rw [hf]; rfl, _, rfl, ifb (fun q6 => ?_) fun q6 => ?_⟩
          · have n6 : d.fine.getD 0 < numOf (wd ws 1) := by rw [hf]; simpa using q6
            exact hN (by rw [tR2, if_pos (.inr (.inr (.inl n6)))]) _ (.ext e03)
          have n6 : ¬ d.fine.getD 0 < numOf (wd ws 1) := by rw [hf]; simpa using q6
          have row : cutV (ws.map V.str) (some 3) none = (ws.drop 3).map V.str := by
            rw [show (some (3 : Int)) = some ((3 : Nat) : Int) from rfl, cut_drop, List.map_drop]
          have wk : ∀ z ∈ ws.drop 3, Wk z := fun z hz => ww z (List.mem_of_mem_drop hz)
          refine ⟨_, rfl, 3, rfl, a, _, rfl, .of (e03 _ _ ha.1), fun p np => ?_⟩
          rw [row]
          refine ⟨p, _, rfl, .inl ⟨.of upd_same, fun tt ntt => ?_⟩⟩
          have e4 : Ext H3 (upd (upd H3 p (.lst ((ws.drop 3).map V.str))) tt (.tup ((ws.drop 3).map V.str))) := (ext_new np).trans (ext_new ntt)
          have ht4 : (upd (upd H3 p (.lst ((ws.drop 3).map V.str))) tt (.tup ((ws.drop 3).map V.str))) tt = some (.tup ((ws.drop 3).map V.str)) := upd_same
          generalize upd (upd H3 p (.lst ((ws.drop 3).map V.str))) tt (.tup ((ws.drop 3).map V.str)) = H4 at e4 ht4
          have e04 := e03.trans e4
          refine ⟨tt, _, _, .tuple ((ws.drop 3).map PyData.str), KEEPW.map fun l => .tuple (l.map PyData.str), rfl, rfl, x.u_KEEPS H4, .tup (.of ht4) (strs_dp _), (strs_shaped wk).2, ?_, _, rfl, ?_⟩
          · have sh : ∀ l ∈ KEEPW, ∀ z ∈ l, Wk z := by
              intro l hl z hz
              have : z = "always" ∨ z = "late" := by
                simp only [KEEPW, List.mem_cons, List.not_mem_nil, or_false] at hl
                rcases hl with rfl | rfl | rfl | rfl <;> simp at hz
                · exact hz
                · exact .inl hz
                · exact .inr hz
              rcases this with rfl | rfl
              · exact ⟨by decide, by decide +kernel⟩
              · exact ⟨by decide, by decide +kernel⟩
            exact .cons ⟨.tup (x.u_KEEPS_0 H4) (strs_dp ["always", "late"]), (strs_shaped (sh _ (by simp [KEEPW]))).2, _, rfl⟩ (.cons ⟨.tup (x.u_KEEPS_1 H4) (strs_dp ["always"]), (strs_shaped (sh _ (by simp [KEEPW]))).2, _, rfl⟩
              (.cons ⟨.tup (x.u_KEEPS_2 H4) (strs_dp ["late"]), (strs_shaped (sh _ (by simp [KEEPW]))).2, _, rfl⟩ (.cons ⟨.tup (x.u_KEEPS_3 H4) (strs_dp []), (strs_shaped (sh _ (by simp [KEEPW]))).2, _, rfl⟩ .nil)))
          · have eq : ((KEEPW.map fun l => PyData.tuple (l.map PyData.str)).any fun e => PyData.eqv e (.tuple ((ws.drop 3).map PyData.str))) = decide (ws.drop 3 ∈ KEEPW) := by
              rw [List.any_map, Bool.eq_iff_iff, List.any_eq_true, decide_eq_true_eq]
              simp only [Function.comp_def, PyData.eqv, strs_eqv, decide_eq_true_eq]
              exact ⟨fun ⟨l, h1, h2⟩ => h2 ▸ h1, fun h => ⟨_, h, rfl⟩⟩
            rw [eq]
            refine ifb (fun q7 => ?_) fun q7 => ?_
            · have n7 : ws.drop 3 ∉ KEEPW := fun z => by rw [decide_eq_true z] at q7; simp at q7
              exact hN (by rw [tR2, if_pos (.inr (.inr (.inr n7)))]) _ (.ext e04)
            have n7 : ws.drop 3 ∈ KEEPW := Classical.byContradiction fun z => by rw [decide_eq_false z] at q7; simp at q7
            have tR3 : takeRule d ws = some (setLast d { h with rules := h.rules ++ [ruleOf ws] }) := by
              rw [tR2]
              exact if_neg fun z => by
                rcases z with z | z | z | z
                · rw [q4] at z; cases z
                · exact n5 z
                · exact n6 z
                · exact z n7
            have s4 := e04 _ _ h4
            rw [g] at s4
            have hl4 := e04 _ _ g3
            refine ⟨_, rfl, o, _, dx, _, _, rfl, e04 _ _ h1, x.cl_Reader, x.na_Reader_x_rules, rfl, _, rfl, ar, _, rfl, dget_str s4 (rls_last hl2 fr), .inl ⟨rfl, _, .of hl4⟩, _, rfl, _, rfl, a, _, 2, .str (wd ws 2), rfl, rfl, .of (e04 _ _ ha.1), atI_nat (j := 2) (at_wd (by omega)), _, rfl, 3, rfl, a, _, rfl, .of (e04 _ _ ha.1), fun p1 np1 => ?_⟩
            rw [row]
            have e5 : Ext H (upd H4 p1 (.lst ((ws.drop 3).map V.str))) := e04.trans (ext_new np1)
            have hp5 : (upd H4 p1 (.lst ((ws.drop 3).map V.str))) p1 = some (.lst ((ws.drop 3).map V.str)) := upd_same
            generalize upd H4 p1 (.lst ((ws.drop 3).map V.str)) = H5 at e5 hp5
            refine ⟨p1, _, rfl, .inl (.of hp5), rfl, flat_strs _, ?_⟩
            rw [if_neg (by decide), inV_str]
            refine ⟨_, rfl, 3, rfl, a, _, rfl, .of (e5 _ _ ha.1), fun p2 np2 => ?_⟩
            rw [row]
            have e6 : Ext H (upd H5 p2 (.lst ((ws.drop 3).map V.str))) := e5.trans (ext_new np2)
            have hp6 : (upd H5 p2 (.lst ((ws.drop 3).map V.str))) p2 = some (.lst ((ws.drop 3).map V.str)) := upd_same
            generalize upd H5 p2 (.lst ((ws.drop 3).map V.str)) = H6 at e6 hp6
            refine ⟨p2, _, rfl, .inl (.of hp6), rfl, flat_strs _, ?_⟩
            rw [if_neg (by decide), inV_str]
            have f1000 := (ok.f f hf).2
            have rok : (ruleOf ws).ok := ⟨numOf_nn, by
              have : numOf (wd ws 1) ≤ d.fine.getD 0 := Int.not_lt.mp n6
              rw [hf] at this
              exact Int.le_trans this f1000, n3⟩
            refine make_rule (K := K) (r := ruleOf ws) (dm.ext e6) rok fun q H7 e7 tq => ?_
            have e07 := e6.trans e7
            have nls : l ∉ lp ∧ an ≠ l ∧ an ∉ lp := by
              rw [List.nodup_cons, List.nodup_append] at h7
              exact ⟨fun z => h7.2.2.2 l z l (by simp) rfl, fun z => h7.1 (by simp [z]), fun z => h7.1 (by simp [z])⟩
            refine ⟨l, _, _, rfl, rfl, e07 _ _ g3, ?_, ?_⟩
            · rw [List.length_map, lr]
              have := line1001
              have : h.rules.length ≤ 2 := hr2
              omega
            have ev : os.map V.ref ++ [V.ref q] = (os ++ [q]).map V.ref := by simp
            rw [ev]
            have uR : Kp S H (upd H7 l (.lst ((os ++ [q]).map V.ref))) := (Kp.ext e07).put g2
            have u7 : Kp S H7 (upd H7 l (.lst ((os ++ [q]).map V.ref))) := Kp.refl.put g2
            refine hY _ S _ tR3 uR (fun _ h => .inl h) (dm.kp uR) ?_
            rw [set_last g]
            have k1 := e07 _ _ h1
            have k2 := e07 _ _ h2
            have k3 := e07 _ _ h3
            have k4 := e07 _ _ h4
            have k5 := e07 _ _ h5
            have kl := e07 _ _ g3
            refine ⟨dx, an, af, ar, aw, ve, lp ++ [l], kw, s, ?_, ?_, ?_, ?_, ?_, ?_, h7, h8, ?_, h10.kp uR⟩
            · rw [upd_ne (ne_of k1 kl (by simp))]; exact k1
            · rw [upd_ne nls.2.1, k2]
              simp [RdD.names, g]
            · rw [upd_ne (ne_of k3 kl (by simp)), k3, g]
              simp [failsK]
            · rw [upd_ne (ne_of k4 kl (by simp)), k4, g, rls_same hl2]
            · rw [upd_ne (ne_of k5 kl (by simp))]; exact k5
            · exact paired_app ((RlsAt.ext g1 e07).put g2 nls.1) (.cons ⟨g2, os ++ [q], upd_same, paired_app (Paired.mapP g4 fun _ _ z => z.kp uR) (.cons (tq.kp u7) .nil)⟩ .nil)
            · have wy : RdD.ways { d with hs := pre ++ [(nm, { h with rules := h.rules ++ [ruleOf ws] })] } = d.ways := by
                unfold RdD.ways
                rw [g, List.filterMap_append, List.filterMap_append]
                rfl
              rw [wy]
              exact h9.kp uR
end
end Ws

set_option Elab.async false
set_option linter.all false
set_option maxRecDepth 100000
set_option maxHeartbeats 4000000
set_option pp.deepTerms false
set_option pp.maxSteps 400
namespace Ws
open PySem PySem.Spec PyProof.Rows L2
section
variable {P : Program} {w : World} {K : PySem.W.Frag} {mg : Str → Option Value} {base : Heap}
theorem sc_Reader_take_calls : FnScope ["self", "words", "bare", "word"] ["self", "words"] (defScope s_Reader_take_calls) := ⟨rfl, rfl, rfl, by decide +kernel, rfl, by decide +kernel, by decide +kernel⟩
theorem ok_Reader_take_calls (x : Fx K mg w) : FnR P w K mg base CX0 3 (a_Reader_take_calls K) (spTake K takeCalls) := by
  refine okR x.F_Reader_take_calls sc_Reader_take_calls (fun _ _ _ _ _ _ us hl => match us, hl with | [_, _], _ => rfl) (fun vs H Q E h => by obtain ⟨S, o, a, d, ws, rfl, dm, t, ok, hl, ha, wl, ww, hN, hY⟩ := h; rfl) (fun cdv A outer s H vs Q E hr h => ?_)
  obtain ⟨S, o, a, d, ws, rfl, dm, t, ok, hl, ha, wl, ww, hN, hY⟩ := h
  refine ⟨_, (pss_cons (ps_if (PW.pt (pw_or (pt_cmpR (show OpR _ _ (rEqNil K false) from op_eqNil hr) (pe_fldK (K := K) rfl (pv 0) rfl) (pe_lst pa_nil) (nomark _)) (pw_or (pt_cmpR (show OpR _ _ (rEqNil K false) from op_eqNil hr) (pe_dget (hu_of hr) (pe_fldK (K := K) rfl (pv 0) rfl) (pe_ix (r := rIxL K) ix_list (pe_fldK (K := K) rfl (pv 0) rfl) (pe_un un_neg pe_int) (fun _ _ => rfl)) (fun _ _ => rfl)) (pe_lst pa_nil) (nomark _)) (pw_or1 (pt_cmp (pc_din (hu_of hr) (pe_ix (r := rIxL K) ix_list (pe_fldK (K := K) rfl (pv 0) rfl) (pe_un un_neg pe_int) (fun _ _ => rfl)) (pe_fldK (K := K) rfl (pv 0) rfl)))))))
 (pss_one (ps_ret pe_bl))
 pss_nil)
 (pss_cons (ps_setLc (i := 2) (own := [("word", 3)]) (tt := tYes) rfl sc_Reader_take_calls.nd rfl rfl (sw_true rfl rfl rfl (by decide +kernel)) (pi_listK (K := K) rfl (pe_slice (r := rSlL K) sl_list (pv 1) (po_some pe_int) po_none)) (blkOk_by (N := ["self", "words", "bare", "word"]) (sc := defScope s_Reader_take_calls) (by decide +kernel)) (fun _ _ _ _ _ => (pg_name (i := 3) sc_Reader_take_calls.nd rfl (Or.inl rfl))) (fun _ _ _ _ _ => pts_nil) (fun _ _ _ _ _ => (pe_ifExp (pt_val (pe_m1 PySem.F.slot_str_endswith PySem.F.type_str_endswith mt_endswith (pv 3) pe_str)) (pe_slice sl_str (pv 3) po_none (po_some (pe_un un_neg pe_int))) (pv 3))))
 (pss_cons (ps_if (pt_not (pt_val (pe_callR (ok_are_ascending x) (hr.mono (by decide)) rfl x.m_are_ascending (keep_of x.F_are_ascending) pass0 (pa_cons (pv 2) pa_nil))))
 (pss_one (ps_ret pe_bl))
 pss_nil)
 (pss_cons (ps_dput (hu_of hr) (pe_fldK (K := K) rfl (pv 0) rfl) (pe_ix (r := rIxL K) ix_list (pe_fldK (K := K) rfl (pv 0) rfl) (pe_un un_neg pe_int) (fun _ _ => rfl)) (pe_tup (pa_cons (pv 2) (pa_cons (pe_lc (own := [("word", 3)]) rfl sc_Reader_take_calls.nd (pi_listK (K := K) rfl (pe_slice (r := rSlL K) sl_list (pv 1) (po_some pe_int) po_none)) (blkOk_by (N := ["self", "words", "bare", "word"]) (sc := defScope s_Reader_take_calls) (by decide +kernel)) (fun _ _ _ _ _ => (pg_name (i := 3) sc_Reader_take_calls.nd rfl (Or.inl rfl))) (fun _ _ _ _ _ => (pts_one (pt_val (pe_m1 PySem.F.slot_str_endswith PySem.F.type_str_endswith mt_endswith (pv 3) pe_str)))) (fun _ _ _ _ _ => (pe_slice sl_str (pv 3) po_none (po_some (pe_un un_neg pe_int))))) pa_nil))) rfl)
 (pss_one (ps_ret pe_bl)))))), ?_⟩
  obtain ⟨dx, an, af, ar, aw, ve, ls, kw, s, h1, h2, h3, h4, h5, h6, h7, h8, h9, h10⟩ := id t
  refine ⟨_, rfl, o, _, dx, _, _, rfl, h1, x.cl_Reader, x.na_Reader_x_names, rfl, by simp [sizeLine_eq], fun e ne => ⟨an, e, _, rfl, rfl, .of (ext_new ne _ _ h2), .of upd_same, _, rfl, ?_⟩⟩
  have e1 : Ext H (upd H e (.lst [])) := ext_new ne
  generalize upd H e (.lst []) = H1 at e1
  rcases last_cases d.hs with g | ⟨pre, ⟨nm, h⟩, g⟩
  · refine ifT (by simp [RdD.names, g]) ?_
    exact hN (by simp [takeCalls, g]) _ (.ext e1)
  · refine ifF (by simp [RdD.names, g]) ?_
    have gl : d.hs.getLast? = some (nm, h) := by rw [g]; simp
    have tR : takeCalls d ws = (if h.rules = [] ∨ h.ways.isSome = true then none
      else if ascending ((ws.drop 1).map unstar) = false then none
      else some (setLast d { h with ways := some ((ws.drop 1).map unstar, ((ws.drop 1).filter isStar).map fun w => cutS w none (some (-1))) })) := by simp only [takeCalls, gl]
    have hn : d.names.map V.str = (pre.map (·.1)).map V.str ++ [.str nm] := by simp [RdD.names, g]
    have fr := ok.fresh g
    have t1 := e1 _ _ h1
    have t2 := e1 _ _ h2
    have t4 := e1 _ _ h4
    have h6' := h6
    rw [hn] at t2
    rw [g] at h6' t4
    obtain ⟨lp, l, rfl, g1, g2, os, g3, g4⟩ := h6'.last
    have hl2 : lp.length = pre.length := Paired.length g1
    have lr : os.length = h.rules.length := Paired.length g4
    refine ⟨_, rfl, o, _, dx, _, _, rfl, t1, x.cl_Reader, x.na_Reader_x_rules, rfl, _, rfl, o, _, dx, _, _, rfl, t1, x.cl_Reader, x.na_Reader_x_names, rfl, 1, rfl, an, _, -1, .str nm, rfl, rfl, .of t2, atI_end, ar, _, rfl, dget_str t4 (rls_last hl2 fr), by simp [sizeLine_eq], fun e2 ne2 => ⟨l, e2, _, rfl, rfl, .of (ext_new ne2 _ _ (e1 _ _ g3)), .of upd_same, _, rfl, ?_⟩⟩
    have u2 : Ext H (upd H1 e2 (.lst [])) := e1.trans (ext_new ne2)
    generalize upd H1 e2 (.lst []) = H2 at u2
    refine ifb (fun q1 => ?_) fun q1 => ?_
    · have n1 : h.rules = [] := by
        have : os = [] := by simpa using q1
        exact List.eq_nil_of_length_eq_zero (by rw [← lr, this]; rfl)
      exact hN (by rw [tR, if_pos (.inl n1)]) _ (.ext u2)
    have n1 : h.rules ≠ [] := fun z => by
      have : os = [] := List.eq_nil_of_length_eq_zero (by rw [lr, z]; rfl)
      rw [this] at q1
      simp at q1
    have v1 := u2 _ _ h1
    have v2 := u2 _ _ h2
    rw [hn] at v2
    refine ⟨_, rfl, o, _, dx, _, _, rfl, v1, x.cl_Reader, x.na_Reader_x_names, rfl, 1, rfl, an, _, -1, .str nm, rfl, rfl, .of v2, atI_end, _, rfl, o, _, dx, _, _, rfl, v1, x.cl_Reader, x.na_Reader_x_ways, rfl, aw, _, rfl, DGet.k (k := Sum.inr nm) (u2 _ _ h5), _, rfl, ifb (fun q2 => ?_) fun q2 => ?_⟩
    · rw [ways_last h9 g fr] at q2
      exact hN (by rw [tR, if_pos (.inr q2)]) _ (.ext u2)
    rw [ways_last h9 g fr] at q2
    have tR2 : takeCalls d ws = (if ascending ((ws.drop 1).map unstar) = false then none
      else some (setLast d { h with ways := some ((ws.drop 1).map unstar, ((ws.drop 1).filter isStar).map fun w => cutS w none (some (-1))) })) := by
      rw [tR]
      exact if_neg fun z => by
        rcases z with z | z
        · exact n1 z
        · rw [q2] at z; cases z
    have row : cutV (ws.map V.str) (some 1) none = (ws.drop 1).map V.str := by
      rw [show (some (1 : Int)) = some ((1 : Nat) : Int) from rfl, cut_drop, List.map_drop]
    refine ⟨_, rfl, 1, rfl, a, _, rfl, .of (u2 _ _ ha.1), fun p np => ?_⟩
    rw [row]
    have e3 : Ext H (upd H2 p (.lst ((ws.drop 1).map V.str))) := u2.trans (ext_new np)
    have hp3 : (upd H2 p (.lst ((ws.drop 1).map V.str))) p = some (.lst ((ws.drop 1).map V.str)) := upd_same
    generalize upd H2 p (.lst ((ws.drop 1).map V.str)) = H3 at e3 hp3
    refine ⟨p, rfl, ⟨_, .of hp3⟩, fun D hD => lc_map (std_list (.of hp3) fun z => z) hD (fun v => match v with | .str y => some (.str (unstar y)) | _ => none) (by simp; omega) (fun y H4 Nx hy e4 c1 c2 => ?_) (fun H4 e4 hD4 => ?_)⟩
    · obtain ⟨y, hm, rfl⟩ := List.mem_map.mp hy
      refine ⟨rfl, _, rfl, ⟨_, rfl⟩, _, _, rfl, rfl, _, rfl, ifb (fun q3 => ?_) fun q3 => ?_⟩
      · have us : unstar y = cutS y none (some (-1)) := if_pos q3
        exact ⟨_, rfl, 1, rfl, _, rfl, y, rfl, sz (ww y (List.mem_of_mem_drop hm)).1, c1 _ _ Ext.rfl' (by show some (V.str (unstar y)) = _; rw [us])⟩
      · have us : unstar y = y := if_neg (by
          show ¬ Txt.endswith y "*" = true
          rw [q3]; simp)
        exact ⟨_, rfl, c1 _ _ Ext.rfl' (by show some (V.str (unstar y)) = _; rw [us])⟩
    · dsimp only [gName]
      have row2 : ((ws.drop 1).map V.str).filterMap (fun v => match v with | .str y => some (V.str (unstar y)) | _ => none) = ((ws.drop 1).map unstar).map V.str := by
        rw [List.filterMap_map, List.map_map]
        simp [Function.comp_def]
      rw [row2] at hD4
      have e04 := e3.trans e4
      have ul : ∀ y ∈ (ws.drop 1).map unstar, y.length ≤ 1000 := fun y hy => by
        obtain ⟨z, hz, rfl⟩ := List.mem_map.mp hy
        have := (ww z (List.mem_of_mem_drop hz)).1
        unfold unstar
        split
        · exact Nat.le_trans (cutS_length _ _ _) this
        · exact this
      have ll : ((ws.drop 1).map unstar).length ≤ 1000 := by rw [List.length_map, List.length_drop]; omega
      refine ⟨_, rfl, D, _, rfl, hD4, ll, ul, fun H5 e5 => ⟨_, rfl, ifb (fun q4 => ?_) fun q4 => ?_⟩⟩
      · have n4 : ascending ((ws.drop 1).map unstar) = false := by simpa using q4
        exact hN (by rw [tR2, if_pos n4]) _ (.ext (e04.trans e5))
      have n4 : ascending ((ws.drop 1).map unstar) = true := by simpa using q4
      have e05 := e04.trans e5
      have tR3 : takeCalls d ws = some (setLast d { h with ways := some ((ws.drop 1).map unstar, ((ws.drop 1).filter isStar).map fun w => cutS w none (some (-1))) }) := by
        rw [tR2, n4]
        exact if_neg (by simp)
      refine ⟨_, rfl, _, rfl, 1, rfl, a, _, rfl, .of (e05 _ _ ha.1), fun p2 np2 => ?_⟩
      rw [row]
      have e6 : Ext H5 (upd H5 p2 (.lst ((ws.drop 1).map V.str))) := ext_new np2
      have hp6 : (upd H5 p2 (.lst ((ws.drop 1).map V.str))) p2 = some (.lst ((ws.drop 1).map V.str)) := upd_same
      generalize upd H5 p2 (.lst ((ws.drop 1).map V.str)) = H6 at e6 hp6
      refine ⟨p2, rfl, ⟨_, .of hp6⟩, fun D2 hD2 => lc_map (std_list (.of hp6) fun z => z) hD2 (fun v => match v with | .str y => if isStar y = true then some (.str (cutS y none (some (-1)))) else none | _ => none) (by simp; omega) (fun y H7 Nx hy e7 c1 c2 => ?_) (fun H7 e7 hD7 => ?_)⟩
      · obtain ⟨y, hm, rfl⟩ := List.mem_map.mp hy
        refine ⟨rfl, _, rfl, ⟨_, rfl⟩, _, _, rfl, rfl, _, rfl, ifb (fun q5 => ?_) fun q5 => ?_⟩
        · exact ⟨_, rfl, 1, rfl, _, rfl, y, rfl, sz (ww y (List.mem_of_mem_drop hm)).1, c1 _ _ Ext.rfl' (if_pos q5)⟩
        · exact c2 _ Ext.rfl' (if_neg (by
            show ¬ Txt.endswith y "*" = true
            rw [q5]; simp))
      · have row3 : ((ws.drop 1).map V.str).filterMap (fun v => match v with | .str y => if isStar y = true then some (V.str (cutS y none (some (-1)))) else none | _ => none) = (((ws.drop 1).filter isStar).map fun w => cutS w none (some (-1))).map V.str := by
          generalize ws.drop 1 = zs
          induction zs with
          | nil => rfl
          | cons z zs ih =>
            rw [List.map_cons, List.filterMap_cons, ih, List.filter_cons]
            by_cases q : isStar z = true
            · simp [q]
            · simp [q]
        rw [row3] at hD7
        refine ⟨by simp [sizeLine_eq], fun tt ntt => ?_⟩
        have e57 := e6.trans e7
        have nD : H D = none := ext_none e3 hD
        have nD2 : H D2 = none := ext_none (e05.trans e6) hD2
        have nt : H tt = none := ext_none (e05.trans e57) ntt
        have e8 : Ext H7 (upd H7 tt (.tup [.ref D, .ref D2])) := ext_new ntt
        have ht8 : (upd H7 tt (.tup [.ref D, .ref D2])) tt = some (.tup [.ref D, .ref D2]) := upd_same
        generalize upd H7 tt (.tup [.ref D, .ref D2]) = H8 at e8 ht8
        have e08 := (e05.trans e57).trans e8
        have w2 := e08 _ _ h2
        rw [hn] at w2
        have kl : kw.length ≤ 1000 := by
          have k1 := Paired.length h9
          have k2 : d.ways.length ≤ d.hs.length := List.length_filterMap_le _ _
          omega
        have vn : valV kw (Sum.inr nm) = none := by
          have := ways_last h9 g fr
          rw [q2] at this
          exact Option.isSome_eq_false_iff.mp this |> Option.isNone_iff_eq_none.mp
        refine ⟨_, rfl, o, _, dx, _, _, rfl, e08 _ _ h1, x.cl_Reader, x.na_Reader_x_ways, rfl, _, rfl, o, _, dx, _, _, rfl, e08 _ _ h1, x.cl_Reader, x.na_Reader_x_names, rfl, 1, rfl, an, _, -1, .str nm, rfl, rfl, .of w2, atI_end, aw, _, rfl, dput_str (e08 _ _ h5) kl, ?_⟩
        rw [putK_new _ vn]
        have uR : Kp S H (upd H8 aw (.dK (kw ++ [(Sum.inr nm, .ref tt)]))) := (Kp.ext e08).put s.2.2.2.2
        have u8 : Kp S H8 (upd H8 aw (.dK (kw ++ [(Sum.inr nm, .ref tt)]))) := Kp.refl.put s.2.2.2.2
        refine hY _ S _ tR3 uR (fun _ h => .inl h) (dm.kp uR) ?_
        rw [set_last g]
        have k1 := e08 _ _ h1
        have k2 := e08 _ _ h2
        have k3 := e08 _ _ h3
        have k4 := e08 _ _ h4
        have k5 := e08 _ _ h5
        have nd3 : af ≠ ar ∧ af ≠ aw ∧ ar ≠ aw := by
          simp only [List.nodup_cons, List.mem_cons, List.not_mem_nil, or_false, not_or, not_false_eq_true, List.nodup_nil, and_true] at h8
          exact ⟨h8.1.1, h8.1.2, h8.2⟩
        have naw : aw ∉ lp ++ [l] := fun q => by
          obtain ⟨xs, hx⟩ := h6.lists aw q
          rw [h5] at hx
          cases hx
        have wy : RdD.ways { d with hs := pre ++ [(nm, { h with ways := some ((ws.drop 1).map unstar, ((ws.drop 1).filter isStar).map fun w => cutS w none (some (-1))) })] } = d.ways ++ [(nm, ((ws.drop 1).map unstar, ((ws.drop 1).filter isStar).map fun w => cutS w none (some (-1))))] := by
          have hw : h.ways = none := by
            cases c : h.ways with
            | none => rfl
            | some y => rw [c] at q2; cases q2
          unfold RdD.ways
          rw [g, List.filterMap_append, List.filterMap_append]
          simp [hw]
        have h6R : RlsAt S K H8 (lp ++ [l]) (pre ++ [(nm, { h with ways := some ((ws.drop 1).map unstar, ((ws.drop 1).filter isStar).map fun w => cutS w none (some (-1))) })]) :=
          paired_app (RlsAt.ext g1 e08) (.cons ⟨g2, os, e08 _ _ g3, Paired.mapP g4 fun _ _ z => z.ext e08⟩ .nil)
        refine ⟨dx, an, af, ar, aw, ve, lp ++ [l], _, s, ?_, ?_, ?_, ?_, upd_same, h6R.put s.2.2.2.2 naw, h7, h8, ?_, h10.kp uR⟩
        · rw [upd_ne (ne_of k1 k5 (by simp))]; exact k1
        · rw [upd_ne (ne_of k2 k5 (by simp)), k2]
          simp [RdD.names, g]
        · rw [upd_ne nd3.2.1, k3, g]
          simp [failsK]
        · rw [upd_ne nd3.2.2, k4, g, rls_same hl2]
        · rw [wy]
          have at8 : ∀ {b : Addr} {y : HO}, H b = none → H8 b = some y → At S H8 b y := fun nb hb => ⟨hb, fun z => dm _ z nb⟩
          refine paired_app (h9.kp uR) (.cons ⟨rfl, tt, D, D2, rfl, (at8 nt ht8).kp u8, (at8 nD ((e5.trans (e57.trans e8)) _ _ hD4)).kp u8, (at8 nD2 (e8 _ _ hD7)).kp u8⟩ .nil)
end
end Ws

set_option Elab.async false
set_option linter.all false
set_option maxRecDepth 100000
set_option maxHeartbeats 4000000
set_option pp.deepTerms false
set_option pp.maxSteps 400
namespace Ws
open PySem PySem.Spec PyProof.Rows L2
section
variable {P : Program} {w : World} {K : PySem.W.Frag} {mg : Str → Option Value} {base : Heap}
def sp_Reader_take (K : PySem.W.Frag) : Sp := fun vs H Q _ => ∃ (S : Addr → Prop) (o : Addr) (d : RdD) (z : Str) (ws : List Str), vs = [.ref o, .str z] ∧ Dm S H ∧ RdAt S K H o d ∧ d.Ok ∧ d.hs.length < 900 ∧ z.length ≤ 100000 ∧ Txt.split z " " = ws ∧ ws ≠ [] ∧ ws.length ≤ 1000 ∧ (∀ w ∈ ws, Wk w) ∧
  (takeP d ws = none → ∀ H', Kp S H H' → Q (.bl false) H') ∧ ∀ d' S' H', takeP d ws = some d' → Kp S H H' → (∀ x, S' x → S x ∨ H x = none) → Dm S' H' → RdAt S' K H' o d' → Q (.bl true) H'
theorem sc_Reader_take : FnScope ["self", "line", "words"] ["self", "line"] (defScope s_Reader_take) := ⟨rfl, rfl, rfl, by decide +kernel, rfl, by decide +kernel, by decide +kernel⟩
theorem ok_Reader_take (x : Fx K mg w) : FnR P w K mg base CX0 5 (a_Reader_take K) (sp_Reader_take K) := by
  refine okR x.F_Reader_take sc_Reader_take (fun _ _ _ _ _ _ us hl => match us, hl with | [_, _], _ => rfl) (fun vs H Q E h => by obtain ⟨S, o, d, z, ws, rfl, dm, t, ok, hl, zl, hw, w0, wl, ww, hN, hY⟩ := h; rfl) (fun cdv A outer s H vs Q E hr h => ?_)
  obtain ⟨S, o, d, z, ws, rfl, dm, t, ok, hl, zl, hw, w0, wl, ww, hN, hY⟩ := h
  refine ⟨_, (pss_cons (ps_set (i := 2) sc_Reader_take.nd rfl (Or.inl rfl) (pe_split (pv 1) pe_str))
 (pss_cons (ps_if (pt_cmpR op_notN (pe_fldK (K := K) rfl (pv 0) rfl) pe_non (nomark _))
 (pss_one (ps_ret pe_bl))
 pss_nil)
 (pss_cons (ps_if (pt_cmpR op_eq (pe_ix (r := rIxL K) ix_list (pv 2) pe_int (fun _ _ => rfl)) pe_str (nomark _))
 (pss_one (ps_ret (Ws.pe_methR (pv 0) x.cl_Reader x.me_Reader_take_fine (ok_Reader_take_fine x) (hr.mono (by decide)) pass0 (pa_cons (pv 2) pa_nil))))
 pss_nil)
 (pss_cons (ps_if (pt_cmpR op_eq (pe_ix (r := rIxL K) ix_list (pv 2) pe_int (fun _ _ => rfl)) pe_str (nomark _))
 (pss_one (ps_ret (Ws.pe_methR (pv 0) x.cl_Reader x.me_Reader_take_house (ok_Reader_take_house x) (hr.mono (by decide)) pass0 (pa_cons (pv 2) pa_nil))))
 pss_nil)
 (pss_cons (ps_if (pt_cmpR op_eq (pe_ix (r := rIxL K) ix_list (pv 2) pe_int (fun _ _ => rfl)) pe_str (nomark _))
 (pss_one (ps_ret (Ws.pe_methR (pv 0) x.cl_Reader x.me_Reader_take_rule (ok_Reader_take_rule x) (hr.mono (by decide)) pass0 (pa_cons (pv 2) pa_nil))))
 pss_nil)
 (pss_cons (ps_if (pt_cmpR op_eq (pe_ix (r := rIxL K) ix_list (pv 2) pe_int (fun _ _ => rfl)) pe_str (nomark _))
 (pss_one (ps_ret (Ws.pe_methR (pv 0) x.cl_Reader x.me_Reader_take_calls (ok_Reader_take_calls x) (hr.mono (by decide)) pass0 (pa_cons (pv 2) pa_nil))))
 pss_nil)
 (pss_one (ps_ret (pe_and (pe_cmpR op_eq (pe_ix (r := rIxL K) ix_list (pv 2) pe_int (fun _ _ => rfl)) pe_str (nomark _)) (pe_one (Ws.pe_methR (pv 0) x.cl_Reader x.me_Reader_take_entries (ok_Reader_take_entries x) (hr.mono (by decide)) pass0 (pa_cons (pv 2) pa_nil)))))))))))), ?_⟩
  have big1 : z.length + 2 ≤ sizeLine := by rw [sizeLine_eq]; omega
  refine ⟨_, rfl, ⟨_, rfl⟩, z, " ", rfl, rfl, by decide, big1, fun a na => ?_⟩
  rw [hw]
  have e1 : Ext H (upd H a (.lst (ws.map V.str))) := ext_new na
  have ha : At S (upd H a (.lst (ws.map V.str))) a (.lst (ws.map V.str)) := ⟨upd_same, fun z => dm a z na⟩
  dsimp only [gName]
  generalize upd H a (.lst (ws.map V.str)) = H1 at e1 ha
  have t1 := t.ext e1
  have dm1 := dm.ext e1
  obtain ⟨dx, an, af, ar, aw, ve, ls, kw, s, h1, h2, h3, h4, h5, h6, h7, h8, h9, h10⟩ := id t1
  have i0 : 0 < ws.length := List.length_pos_iff.mpr w0
  refine ⟨_, rfl, o, _, dx, _, _, rfl, h1, x.cl_Reader, x.na_Reader_x_entries, rfl, rfl, _, rfl, ifb (fun q1 => ?_) fun q1 => ?_⟩
  · have n1 : d.ents.isSome = true := by
      cases g : d.ents with
      | none =>
        rw [g] at h10
        rw [show ve = .non from h10] at q1
        simp at q1
      | some y => rfl
    exact hN (if_pos n1) _ (.ext e1)
  have n1 : ¬ d.ents.isSome = true := by
    cases g : d.ents with
    | none => simp
    | some y =>
      rw [g] at h10
      obtain ⟨l, rfl, _⟩ := h10
      simp at q1
  have c1 : takeP d ws = _ := if_neg n1
  have go : ∀ (f : RdD → List Str → Option RdD) (Q' : VK) (E' : XK), takeP d ws = f d ws → Q' = Q → spTake K f [.ref o, .ref a] H1 Q' E' := fun f Q' E' e eq => by
    subst eq
    exact ⟨S, o, a, d, ws, rfl, dm1, t1, ok, hl, ha, wl, ww, fun g H' u => hN (by rw [e, g]) H' ((Kp.ext e1).trans u), fun d' S' H' g u sb dm' t' => hY d' S' H' (by rw [e, g]) ((Kp.ext e1).trans u) (fun y hy => (sb y hy).imp id fun n => ext_none e1 n) dm' t'⟩
  refine ⟨_, rfl, a, _, 0, .str (wd ws 0), rfl, rfl, .of ha.1, atI_nat (j := 0) (at_wd i0), rfl, _, rfl, ifb (fun q2 => ?_) fun q2 => ?_⟩
  · have n2 : wd ws 0 = "fine" := by simpa using q2
    exact ⟨_, rfl, o, dx, _, rfl, h1, rfl, _, rfl, go takeFine _ (fun _ _ _ => False) (by rw [takeP, if_neg n1, if_pos n2]) rfl⟩
  have n2 : ¬ wd ws 0 = "fine" := by simpa using q2
  refine ⟨_, rfl, a, _, 0, .str (wd ws 0), rfl, rfl, .of ha.1, atI_nat (j := 0) (at_wd i0), rfl, _, rfl, ifb (fun q3 => ?_) fun q3 => ?_⟩
  · have n3 : wd ws 0 = "house" := by simpa using q3
    exact ⟨_, rfl, o, dx, _, rfl, h1, rfl, _, rfl, go takeHouse _ (fun _ _ _ => False) (by rw [takeP, if_neg n1, if_neg n2, if_pos n3]) rfl⟩
  have n3 : ¬ wd ws 0 = "house" := by simpa using q3
  refine ⟨_, rfl, a, _, 0, .str (wd ws 0), rfl, rfl, .of ha.1, atI_nat (j := 0) (at_wd i0), rfl, _, rfl, ifb (fun q4 => ?_) fun q4 => ?_⟩
  · have n4 : wd ws 0 = "rule" := by simpa using q4
    exact ⟨_, rfl, o, dx, _, rfl, h1, rfl, _, rfl, go takeRule _ (fun _ _ _ => False) (by rw [takeP, if_neg n1, if_neg n2, if_neg n3, if_pos n4]) rfl⟩
  have n4 : ¬ wd ws 0 = "rule" := by simpa using q4
  refine ⟨_, rfl, a, _, 0, .str (wd ws 0), rfl, rfl, .of ha.1, atI_nat (j := 0) (at_wd i0), rfl, _, rfl, ifb (fun q5 => ?_) fun q5 => ?_⟩
  · have n5 : wd ws 0 = "calls" := by simpa using q5
    exact ⟨_, rfl, o, dx, _, rfl, h1, rfl, _, rfl, go takeCalls _ (fun _ _ _ => False) (by rw [takeP, if_neg n1, if_neg n2, if_neg n3, if_neg n4, if_pos n5]) rfl⟩
  have n5 : ¬ wd ws 0 = "calls" := by simpa using q5
  refine ⟨_, rfl, a, _, 0, .str (wd ws 0), rfl, rfl, .of ha.1, atI_nat (j := 0) (at_wd i0), rfl, _, rfl, ifb (fun q6 => ?_) fun q6 => ?_⟩
  · have n6 : wd ws 0 = "entries" := by simpa using q6
    exact ⟨_, rfl, o, dx, _, rfl, h1, rfl, _, rfl, go takeEntries _ (fun _ _ _ => False) (by rw [takeP, if_neg n1, if_neg n2, if_neg n3, if_neg n4, if_neg n5, if_pos n6]) rfl⟩
  · have n6 : ¬ wd ws 0 = "entries" := by simpa using q6
    exact hN (by rw [takeP, if_neg n1, if_neg n2, if_neg n3, if_neg n4, if_neg n5, if_neg n6]) _ (.ext e1)
end
end Ws

set_option Elab.async false
set_option linter.all false
set_option maxRecDepth 100000
set_option maxHeartbeats 4000000
set_option pp.deepTerms false
set_option pp.maxSteps 400
namespace Ws
open PySem PySem.Spec PyProof.Rows L2
theorem num_all : ((List.range 1001).all fun n => isNumeral (numS (n : Nat)) && decide (numOf (numS (n : Nat)) = (n : Nat))) = true := by decide +kernel
theorem num_back {i : Int} (h0 : 0 ≤ i) (h1 : i ≤ 1000) : isNumeral (numS i) = true ∧ numOf (numS i) = i := by
  obtain ⟨n, rfl⟩ := Int.eq_ofNat_of_zero_le h0
  have := List.all_eq_true.mp num_all n (List.mem_range.mpr (by omega))
  simpa using this
/-- the lines one after the other -/
def takeAll : RdD → List (List Str) → Option RdD
  | d, [] => some d
  | d, ws :: r => (takeP d ws).bind fun d' => takeAll d' r
theorem takeAll_app (ls : List (List Str)) : ∀ {d d' : RdD} {ws : List (List Str)}, takeAll d ws = some d' → takeAll d (ws ++ ls) = takeAll d' ls
  | d, d', [], h => by cases h; rfl
  | d, d', w :: ws, h => by
    show (takeP d w).bind _ = _
    unfold takeAll at h
    cases c : takeP d w with
    | none => rw [c] at h; cases h
    | some e =>
      rw [c] at h
      exact takeAll_app ls h
def rdOfH (h : HouseD) : RdH := ⟨h.fails, h.rules, if h.calls = [] then none else some (h.calls, h.lost)⟩
def rdOf (n : NetD) : RdD := ⟨some n.fine, n.houses.map fun p => (p.1, rdOfH p.2), some n.entries⟩
/-- stars put on are taken off again -/
theorem isStar_eq (w : Str) : isStar w = (decide (1 ≤ w.cps.toList.length) && ((w.cps.toList.drop (w.cps.toList.length - 1)).take 1 == [42])) := by
  have e : w.length = w.cps.toList.length := TL.len_tl w
  unfold isStar Txt.endswith
  rw [StrLaws.subAt_eq, e, show ("*" : Str).length = 1 from rfl, Nat.zero_add]
  rfl
theorem star_name {z : Str} (h : isName z = true) : isStar z = false ∧ unstar z = z := by
  have e : isStar z = false := by
    rw [isStar_eq]
    obtain ⟨h1, h2, h3⟩ := isName_iff.mp h
    have : ((z.cps.toList.drop (z.cps.toList.length - 1)).take 1 == [42]) = false := by
      cases q : ((z.cps.toList.drop (z.cps.toList.length - 1)).take 1 == [42]) with
      | false => rfl
      | true =>
        have q := eq_of_beq q
        have m : 42 ∈ z.cps.toList := List.mem_of_mem_drop (List.mem_of_mem_take (by rw [q]; simp))
        exact absurd (h3 42 m) (by decide +kernel)
    rw [this, Bool.and_false]
  exact ⟨e, if_neg (by rw [e]; simp)⟩
theorem star_star {z : Str} : isStar (z ++ "*") = true ∧ cutS (z ++ "*") none (some (-1)) = z := by
  have e : (z ++ ("*" : Str)).cps.toList = z.cps.toList ++ [42] := app_cps z "*"
  constructor
  · rw [isStar_eq, e]
    simp
  · refine TL.ext_tl ?_
    show (cutS (z ++ "*") none (some (-1))).cps.toList = z.cps.toList
    have l : (z ++ ("*" : Str)).length = z.cps.toList.length + 1 := by
      rw [TL.len_tl]
      show (z ++ ("*" : Str)).cps.toList.length = _
      rw [e]; simp
    have ix : HT.sIx (z.cps.toList.length + 1) (z.cps.toList.length + 1) (some (-1)) = z.cps.toList.length := by
      show (if (-1 : Int) < 0 then ((-1 : Int) + ((z.cps.toList.length + 1 : Nat) : Int)).toNat else min (-1 : Int).toNat (z.cps.toList.length + 1)) = _
      rw [if_pos (by decide)]
      omega
    unfold cutS
    rw [HT.sIx_none, l, ix]
    show (((z ++ ("*" : Str)).cps.toList.drop 0).take (z.cps.toList.length - 0)) = z.cps.toList
    rw [e]
    simp
theorem callS_back {h : HouseD} {o : Str} (n : isName o = true) : unstar (callS h o) = o ∧ isStar (callS h o) = decide (o ∈ h.lost) ∧ (o ∈ h.lost → cutS (callS h o) none (some (-1)) = o) := by
  unfold callS
  by_cases m : o ∈ h.lost
  · rw [if_pos m]
    obtain ⟨s1, s2⟩ := star_star (z := o)
    exact ⟨(if_pos s1).trans s2, by rw [s1, decide_eq_true m], fun _ => s2⟩
  · rw [if_neg m]
    obtain ⟨s1, s2⟩ := star_name n
    exact ⟨s2, by rw [s1, decide_eq_false m], fun z => absurd z m⟩
theorem bare_back {h : HouseD} : ∀ {os : List Str}, (∀ o ∈ os, isName o = true) → (os.map (callS h)).map unstar = os
  | [], _ => rfl
  | o :: os, n => by
    rw [List.map_cons, List.map_cons, (callS_back (n o List.mem_cons_self)).1, bare_back fun y hy => n y (List.mem_cons_of_mem _ hy)]
theorem lost_back {h : HouseD} : ∀ {os : List Str}, (∀ o ∈ os, isName o = true) → (((os.map (callS h)).filter isStar).map fun w => cutS w none (some (-1))) = os.filter fun o => decide (o ∈ h.lost)
  | [], _ => rfl
  | o :: os, n => by
    obtain ⟨c1, c2, c3⟩ := callS_back (h := h) (n o List.mem_cons_self)
    have ih := lost_back (h := h) (os := os) fun y hy => n y (List.mem_cons_of_mem _ hy)
    rw [List.map_cons, List.filter_cons, List.filter_cons, c2]
    by_cases m : o ∈ h.lost
    · rw [if_pos (decide_eq_true m), if_pos (decide_eq_true m), List.map_cons, ih, c3 m]
    · rw [if_neg (by simp [m]), if_neg (by simp [m]), ih]
theorem lost_eq {h : HouseD} (f : h.Fit) (s1 : sortedS h.calls = true) (s2 : sortedS h.lost = true) : (h.calls.filter fun o => decide (o ∈ h.lost)) = h.lost := by
  have p : (h.calls.filter fun o => decide (o ∈ h.lost)).Perm h.lost := by
    refine (List.perm_ext_iff_of_nodup (f.nd.filter _) f.ndl).mpr fun y => ?_
    rw [List.mem_filter, decide_eq_true_eq]
    exact ⟨fun z => z.2, fun z => ⟨f.sub y z, z⟩⟩
  exact p.eq_of_pairwise (fun a b _ _ h1 h2 => str_cps (List.le_antisymm h1 h2)) ((sorted_pw s1).filter _) (sorted_pw s2)
theorem lt_of_le_ne {a b : Str} (h : LeS a b) (n : a ≠ b) : LtS a b := by
  rcases List.le_iff_lt_or_eq.mp h with h | h
  · exact h
  · exact absurd (str_cps h) n
theorem pw_lt {zs : List Str} (s : sortedS zs = true) (nd : zs.Nodup) : zs.Pairwise LtS := (sorted_pw s).imp₂ (fun _ _ h n => lt_of_le_ne h n) nd
theorem asc_ok {zs : List Str} (h0 : zs ≠ []) (nm : ∀ z ∈ zs, isName z = true) (pw : zs.Pairwise LtS) : ascending zs = true := by
  unfold ascending
  have e : zs.isEmpty = false := by
    cases zs with
    | nil => exact absurd rfl h0
    | cons => rfl
  rw [e, List.all_eq_true.mpr nm]
  simp only [Bool.not_false, Bool.true_and, List.all_eq_true, List.mem_range, decide_eq_true_eq]
  intro k hk
  have h1 : k + 1 < zs.length := by omega
  have := List.pairwise_iff_getElem.mp pw k (k + 1) (by omega) h1 (by omega)
  rw [List.getD_eq_getElem?_getD, List.getD_eq_getElem?_getD, List.getElem?_eq_getElem (by omega), List.getElem?_eq_getElem h1]
  exact this
theorem rule_back {r : RuleD} (ok : r.ok) : ruleOf (ruleW r) = r ∧ (ruleW r).drop 3 ∈ KEEPW ∧ 3 ≤ (ruleW r).length := by
  obtain ⟨sh, mk, al, la⟩ := r
  have nb := (num_back ok.1 ok.2.1).2
  cases al <;> cases la <;> simp [ruleOf, ruleW, keepW, wd, KEEPW] <;> first | exact nb | (refine ⟨nb, ?_⟩; decide) | (refine ⟨nb, ?_, ?_⟩ <;> decide)
theorem take_rule_ok {d : RdD} {pre : List (Str × RdH)} {z : Str} {h : RdH} {r : RuleD} {f : Int} (g : d.hs = pre ++ [(z, h)]) (e : d.ents = none) (hf : d.fine = some f) (ok : r.ok) (le : r.share ≤ f) (nw : h.ways = none) (n2 : h.rules.length ≠ 2) :
    takeP d (ruleW r) = some { d with hs := pre ++ [(z, { h with rules := h.rules ++ [r] })] } := by
  obtain ⟨r1, r2, r3⟩ := rule_back ok
  have gl : d.hs.getLast? = some (z, h) := by rw [g]; simp
  have w0 : wd (ruleW r) 0 = "rule" := rfl
  have w1 : wd (ruleW r) 1 = numS r.share := rfl
  have w2 : wd (ruleW r) 2 = r.mark := rfl
  obtain ⟨m1, m2⟩ := num_back ok.1 ok.2.1
  have t : takeP d (ruleW r) = takeRule d (ruleW r) := by
    rw [takeP, if_neg (by rw [e]; simp), w0, if_neg (by decide), if_neg (by decide), if_pos rfl]
  rw [t]
  unfold takeRule
  rw [gl]
  simp only
  have c1 : ¬ ((ruleW r).length < 3 ∨ isNumeral (wd (ruleW r) 1) = false ∨ isName (wd (ruleW r) 2) = false) := by
    rw [w1, w2, m1, ok.2.2]
    simp
    omega
  have c2 : ¬ (h.ways.isSome = true ∨ h.rules.length = 2 ∨ d.fine.getD 0 < numOf (wd (ruleW r) 1) ∨ (ruleW r).drop 3 ∉ KEEPW) := by
    rw [w1, m2, hf, nw]
    intro q
    rcases q with q | q | q | q
    · cases q
    · exact n2 q
    · exact absurd le (Int.not_le.mpr q)
    · exact q r2
  rw [if_neg c1, if_neg c2, set_last g, r1]
theorem take_house_ok {d : RdD} {z : Str} {h : HouseD} (e : d.ents = none) (bt : betweenP d = true) (bh : behindP d z = true) (nz : isName z = true) :
    takeP d (headW z h) = some { d with hs := d.hs ++ [(z, ⟨h.fails, [], none⟩)] } := by
  have w0 : wd (headW z h) 0 = "house" := rfl
  have w1 : wd (headW z h) 1 = z := rfl
  have t : takeP d (headW z h) = takeHouse d (headW z h) := by
    rw [takeP, if_neg (by rw [e]; simp), w0, if_neg (by decide), if_pos rfl]
  have dr : (headW z h).drop 2 = [] ∨ (headW z h).drop 2 = (["fails"] : List Str) := by
    unfold headW
    cases h.fails
    · exact .inl rfl
    · exact .inr rfl
  have ln : decide ((headW z h).length = 3) = h.fails := by
    unfold headW
    cases h.fails <;> rfl
  have c1 : ¬ (betweenP d = false ∨ ¬ ((headW z h).drop 2 = [] ∨ (headW z h).drop 2 = (["fails"] : List Str)) ∨ isName (wd (headW z h) 1) = false) := by
    rw [w1, bt, nz]
    intro q
    rcases q with q | q | q
    · cases q
    · exact q dr
    · cases q
  rw [t]
  unfold takeHouse
  rw [if_neg c1, w1, if_neg (by rw [bh]; simp), ln]
theorem take_calls_ok {d : RdD} {pre : List (Str × RdH)} {z : Str} {hh : RdH} {h : HouseD} (g : d.hs = pre ++ [(z, hh)]) (e : d.ents = none) (r0 : hh.rules ≠ []) (nw : hh.ways = none) (f : h.Fit) (s1 : sortedS h.calls = true) (s2 : sortedS h.lost = true) (c0 : h.calls ≠ []) :
    takeP d (callsW h) = some { d with hs := pre ++ [(z, { hh with ways := some (h.calls, h.lost) })] } := by
  have gl : d.hs.getLast? = some (z, hh) := by rw [g]; simp
  have w0 : wd (callsW h) 0 = "calls" := rfl
  have t : takeP d (callsW h) = takeCalls d (callsW h) := by
    rw [takeP, if_neg (by rw [e]; simp), w0, if_neg (by decide), if_neg (by decide), if_neg (by decide), if_pos rfl]
  have dr : (callsW h).drop 1 = h.calls.map (callS h) := rfl
  have asc := asc_ok c0 f.nm (pw_lt s1 f.nd)
  have c1 : ¬ (hh.rules = [] ∨ hh.ways.isSome = true) := by
    rw [nw]
    intro q
    rcases q with q | q
    · exact r0 q
    · cases q
  rw [t]
  unfold takeCalls
  rw [gl]
  simp only
  rw [if_neg c1, dr, bare_back f.nm, lost_back f.nm, lost_eq f s1 s2, asc, if_neg (by simp), set_last g]
theorem rules_back {f : Int} {en : Option (List Str)} {pre : List (Str × RdH)} {z : Str} {fl : Bool} (e : en = none) : ∀ (rs rs0 : List RuleD), rs0.length + rs.length ≤ 2 → (∀ r ∈ rs, r.ok ∧ r.share ≤ f) →
    takeAll ⟨some f, pre ++ [(z, ⟨fl, rs0, none⟩)], en⟩ (rs.map ruleW) = some ⟨some f, pre ++ [(z, ⟨fl, rs0 ++ rs, none⟩)], en⟩
  | [], rs0, _, _ => by rw [List.append_nil]; rfl
  | r :: rs, rs0, hl, hr => by
    obtain ⟨ok, le⟩ := hr r List.mem_cons_self
    rw [List.length_cons] at hl
    have st := take_rule_ok (d := ⟨some f, pre ++ [(z, ⟨fl, rs0, none⟩)], en⟩) (h := ⟨fl, rs0, none⟩) rfl e rfl ok le rfl (by show rs0.length ≠ 2; omega)
    rw [List.map_cons]
    unfold takeAll
    rw [st]
    have ih := rules_back (f := f) (pre := pre) (z := z) (fl := fl) e rs (rs0 ++ [r]) (by simp; omega) fun y hy => hr y (List.mem_cons_of_mem _ hy)
    rw [List.append_assoc] at ih
    exact ih
/-- a house's lines -/
theorem house_back {f : Int} {pre : List (Str × RdH)} {z : Str} {h : HouseD} (bt : betweenP ⟨some f, pre, none⟩ = true) (bh : behindP ⟨some f, pre, none⟩ z = true) (nz : isName z = true) (ft : h.Fit) (s1 : sortedS h.calls = true) (s2 : sortedS h.lost = true) (hr : ∀ r ∈ h.rules, r.ok ∧ r.share ≤ f) :
    takeAll ⟨some f, pre, none⟩ (houseW z h) = some ⟨some f, pre ++ [(z, rdOfH h)], none⟩ := by
  have hd := take_house_ok (d := ⟨some f, pre, none⟩) (h := h) rfl bt bh nz
  have rb := rules_back (f := f) (pre := pre) (z := z) (fl := h.fails) rfl h.rules [] (by have := ft.r2; simp; omega) hr
  rw [List.nil_append] at rb
  have first : takeAll ⟨some f, pre, none⟩ (headW z h :: h.rules.map ruleW) = some ⟨some f, pre ++ [(z, ⟨h.fails, h.rules, none⟩)], none⟩ := by
    unfold takeAll
    rw [hd]
    exact rb
  unfold houseW
  rw [takeAll_app _ first]
  by_cases c0 : h.calls = []
  · rw [if_pos c0]
    unfold rdOfH
    rw [if_pos c0]
    rfl
  · rw [if_neg c0]
    have r0 : h.rules ≠ [] := fun q => by have := ft.r1; rw [q] at this; simp at this
    have st := take_calls_ok (d := ⟨some f, pre ++ [(z, ⟨h.fails, h.rules, none⟩)], none⟩) (hh := ⟨h.fails, h.rules, none⟩) rfl rfl r0 rfl ft s1 s2 c0
    unfold takeAll
    rw [st]
    unfold rdOfH
    rw [if_neg c0]
    rfl
theorem houses_back {f : Int} : ∀ (hs : Hs) (pre : List (Str × RdH)), betweenP ⟨some f, pre, none⟩ = true → (pre.map (·.1) ++ hs.map (·.1)).Pairwise LtS → (∀ p ∈ hs, isName p.1 = true ∧ p.2.Fit ∧ sortedS p.2.calls = true ∧ sortedS p.2.lost = true ∧ ∀ r ∈ p.2.rules, r.ok ∧ r.share ≤ f) →
    takeAll ⟨some f, pre, none⟩ (hs.map fun p => houseW p.1 p.2).flatten = some ⟨some f, pre ++ hs.map fun p => (p.1, rdOfH p.2), none⟩
  | [], pre, _, _, _ => by rw [List.map_nil, List.map_nil, List.append_nil]; rfl
  | p :: hs, pre, bt, pw, hp => by
    obtain ⟨nz, ft, s1, s2, hr⟩ := hp p List.mem_cons_self
    have bh : behindP ⟨some f, pre, none⟩ p.1 = true := by
      rcases last_cases pre with g | ⟨pr, q, g⟩
      · simp [behindP, g]
      · have : LtS q.1 p.1 := (List.pairwise_append.mp pw).2.2 q.1 (by rw [g]; simp) p.1 (by simp)
        simpa [behindP, g] using this
    have hb := house_back (f := f) (pre := pre) bt bh nz ft s1 s2 hr
    have r0 : p.2.rules ≠ [] := fun q => by have := ft.r1; rw [q] at this; simp at this
    have bt2 : betweenP ⟨some f, pre ++ [(p.1, rdOfH p.2)], none⟩ = true := by
      have : p.2.rules.isEmpty = false := by
        cases c : p.2.rules with
        | nil => exact absurd c r0
        | cons => rfl
      simp [betweenP, rdOfH, this]
    have ih := houses_back hs (pre ++ [(p.1, rdOfH p.2)]) bt2 (by simpa using pw) fun y hy => hp y (List.mem_cons_of_mem _ hy)
    rw [List.map_cons, List.flatten_cons, takeAll_app _ hb, ih, List.map_cons, List.append_assoc]
    rfl
theorem net_back {n : NetD} (g : GoodN n) : takeAll rd0 (netW n) = some (rdOf n) := by
  obtain ⟨f, sh, se, hf⟩ := g
  have f1 := f.f1
  obtain ⟨m1, m2⟩ := num_back (i := n.fine) (by omega) f.f2
  have fine : takeP rd0 ["fine", numS n.fine] = some ⟨some n.fine, [], none⟩ := by
    have w0 : wd (["fine", numS n.fine] : List Str) 0 = "fine" := rfl
    have w1 : wd (["fine", numS n.fine] : List Str) 1 = numS n.fine := rfl
    rw [takeP, if_neg (by simp [rd0]), w0, if_pos rfl, takeFine, if_neg (by rw [w1, m1]; simp [rd0]), if_pos (by rw [w1, m2]; exact ⟨f1, f.f2⟩), w1, m2]
    rfl
  have nmh : (n.houses.map (·.1)).Pairwise LtS := pw_lt sh f.hs.nd
  have hb := houses_back (f := n.fine) n.houses [] (by simp [betweenP]) (by simpa using nmh) fun p hp => ⟨f.hs.nm p hp, (hf p hp).1, (hf p hp).2.1, (hf p hp).2.2.1, fun r hr => ⟨(hf p hp).2.2.2 r hr, f.hs.sh p hp r hr⟩⟩
  have first : takeAll rd0 ((["fine", numS n.fine] : List Str) :: (n.houses.map fun p => houseW p.1 p.2).flatten) = some ⟨some n.fine, n.houses.map fun p => (p.1, rdOfH p.2), none⟩ := by
    unfold takeAll
    rw [fine]
    exact hb
  unfold netW
  rw [takeAll_app _ first]
  have h0 : n.houses ≠ [] := fun q => by have := f.hs.l1; rw [q] at this; simp at this
  have ent : takeP ⟨some n.fine, n.houses.map fun p => (p.1, rdOfH p.2), none⟩ ("entries" :: n.entries) = some (rdOf n) := by
    have w0 : wd (("entries" : Str) :: n.entries) 0 = "entries" := rfl
    have dr : (("entries" : Str) :: n.entries).drop 1 = n.entries := rfl
    have asc := asc_ok f.e0 f.nme (pw_lt se f.nd)
    have bt : betweenP ⟨some n.fine, n.houses.map fun p => (p.1, rdOfH p.2), none⟩ = true := by
      rcases last_cases n.houses with q | ⟨pr, y, q⟩
      · exact absurd q h0
      · have ry : y.2.rules.isEmpty = false := by
          have := (hf y (by rw [q]; simp)).1.r1
          cases c : y.2.rules with
          | nil => rw [c] at this; simp at this
          | cons => rfl
        simp [betweenP, q, rdOfH, ry]
    have c1 : ¬ (betweenP ⟨some n.fine, n.houses.map fun p => (p.1, rdOfH p.2), none⟩ = false ∨ (n.houses.map fun p => (p.1, rdOfH p.2)) = [] ∨ ascending ((("entries" : Str) :: n.entries).drop 1) = false) := by
      rw [bt, dr, asc]
      intro q
      rcases q with q | q | q
      · cases q
      · exact h0 (List.map_eq_nil_iff.mp q)
      · cases q
    rw [takeP, if_neg (by simp), w0, if_neg (by decide), if_neg (by decide), if_neg (by decide), if_neg (by decide), if_pos rfl, takeEntries, if_neg c1, dr]
    rfl
  unfold takeAll
  rw [ent]
  rfl
theorem take_len {d d' : RdD} {ws : List Str} (h : takeP d ws = some d') : d'.hs.length ≤ d.hs.length + 1 := by
  have sl : ∀ x, (setLast d x).hs.length ≤ d.hs.length + 1 := fun x => by
    unfold setLast
    simp only [List.length_append, List.length_dropLast, List.length_cons, List.length_nil]
    omega
  unfold takeP takeFine takeHouse takeCalls takeRule takeEntries at h
  repeat' split at h
  all_goals first | (cases h; done) | (cases h; simp; done) | (cases h; exact sl _)
end Ws

set_option Elab.async false
set_option linter.all false
set_option maxRecDepth 100000
set_option maxHeartbeats 4000000
set_option pp.deepTerms false
set_option pp.maxSteps 400
namespace Ws
open PySem PySem.Spec PyProof.Rows L2
/-- a house as it is made -/
def RdH.hd (h : RdH) : HouseD := ⟨h.rules, (h.ways.getD ([], [])).1, (h.ways.getD ([], [])).2, h.fails⟩
def RdD.net (d : RdD) (f : Int) (es : List Str) : NetD := ⟨f, d.hs.map fun p => (p.1, p.2.hd), es⟩
section
variable {S : Addr → Prop} {K : PySem.W.Frag} {H H1 : Hp} {a o q : Addr}
theorem rls_at : ∀ {ls : List Addr} {hs : List (Str × RdH)} {p : Str × RdH}, RlsAt S K H ls hs → (hs.map (·.1)).Nodup → p ∈ hs → ∃ l os, valV (rlsK ls hs) (Sum.inr p.1) = some (.ref l) ∧ H l = some (.lst (os.map V.ref)) ∧ RulesAt S K H os p.2.rules
  | _, _, p, .nil, _, hp => by simp at hp
  | l :: ls, q :: hs, p, .cons ⟨s, os, h1, h2⟩ t, nd, hp => by
    rw [List.map_cons, List.nodup_cons] at nd
    rcases List.mem_cons.mp hp with rfl | hp
    · exact ⟨l, os, valV_pos rfl, h1, h2⟩
    · obtain ⟨l', os', g1, g2, g3⟩ := rls_at t nd.2 hp
      refine ⟨l', os', ?_, g2, g3⟩
      show valV ((Sum.inr q.1, .ref l) :: rlsK ls hs) _ = _
      rw [valV_neg (fun z => nd.1 (by injection z with z; rw [z]; exact List.mem_map.mpr ⟨p, hp, rfl⟩))]
      exact g1
theorem fails_at : ∀ {hs : List (Str × RdH)} {p : Str × RdH}, (hs.map (·.1)).Nodup → p ∈ hs → valV (failsK hs) (Sum.inr p.1) = some (.bl p.2.fails)
  | q :: hs, p, nd, hp => by
    rw [List.map_cons, List.nodup_cons] at nd
    rcases List.mem_cons.mp hp with rfl | hp
    · exact valV_pos rfl
    · show valV ((Sum.inr q.1, .bl q.2.fails) :: failsK hs) _ = _
      rw [valV_neg (fun z => nd.1 (by injection z with z; rw [z]; exact List.mem_map.mpr ⟨p, hp, rfl⟩))]
      exact fails_at nd.2 hp
theorem wys_at : ∀ {kw : List (Key × V)} {hs : List (Str × RdH)} {p : Str × RdH}, WysAt S H kw (hs.filterMap fun p => p.2.ways.map fun w => (p.1, w)) → (hs.map (·.1)).Nodup → p ∈ hs →
    (p.2.ways = none ∧ valV kw (Sum.inr p.1) = none) ∨ ∃ w t l1 l2, p.2.ways = some w ∧ valV kw (Sum.inr p.1) = some (.ref t) ∧ At S H t (.tup [.ref l1, .ref l2]) ∧ At S H l1 (.lst (w.1.map V.str)) ∧ At S H l2 (.lst (w.2.map V.str))
  | kw, q :: hs, p, h, nd, hp => by
    have keys : ∀ {kw : List (Key × V)} {hs : List (Str × RdH)}, WysAt S H kw (hs.filterMap fun p => p.2.ways.map fun w => (p.1, w)) → ∀ z, z ∉ hs.map (·.1) → valV kw (Sum.inr z) = none := fun {kw hs} h z hz => by
      refine valV_out fun hk => ?_
      rw [ways_keys h] at hk
      obtain ⟨y, hy, ey⟩ := List.mem_map.mp hk
      injection ey with ey
      obtain ⟨w, hw, e⟩ := List.mem_map.mp hy
      obtain ⟨r, hr, er⟩ := List.mem_filterMap.mp hw
      cases c : r.2.ways with
      | none => rw [c] at er; cases er
      | some v =>
        rw [c] at er
        cases er
        exact hz (ey ▸ e ▸ List.mem_map.mpr ⟨r, hr, rfl⟩)
    rw [List.map_cons, List.nodup_cons] at nd
    rw [List.filterMap_cons] at h
    cases c : q.2.ways with
    | none =>
      rw [c] at h
      rcases List.mem_cons.mp hp with rfl | hp
      · exact .inl ⟨c, keys h _ nd.1⟩
      · exact wys_at h nd.2 hp
    | some w =>
      rw [c] at h
      cases h with
      | cons r t =>
        rename_i kv kw
        obtain ⟨k, v⟩ := kv
        obtain ⟨e1, tt, l1, l2, e2, a1, a2, a3⟩ := r
        dsimp only at e1 e2
        subst e1 e2
        rcases List.mem_cons.mp hp with rfl | hp
        · exact .inr ⟨w, tt, l1, l2, c, valV_pos rfl, a1, a2, a3⟩
        · have : valV ((Sum.inr q.1, V.ref tt) :: kw) (Sum.inr p.1) = valV kw (Sum.inr p.1) := valV_neg (fun z => nd.1 (by injection z with z; rw [z]; exact List.mem_map.mpr ⟨p, hp, rfl⟩))
          rw [this]
          exact wys_at t nd.2 hp
end
section
variable {P : Program} {w : World} {K : PySem.W.Frag} {mg : Str → Option Value} {base : Heap}
def sp_Reader_made (K : PySem.W.Frag) : Sp := fun vs H Q _ => ∃ (S : Addr → Prop) (o : Addr) (d : RdD) (f : Int) (es : List Str), vs = [.ref o] ∧ Dm S H ∧ RdAt S K H o d ∧ d.fine = some f ∧ d.ents = some es ∧ (d.net f es).Fit ∧ (∀ p ∈ d.hs, p.2.hd.Fit) ∧
  ∀ r n H', Ext H H' → NormN (d.net f es) n → NetAt S K H' r n → Q (.ref r) H'
theorem sc_Reader_made : FnScope ["self", "houses", "name", "calls", "lost"] ["self"] (defScope s_Reader_made) := ⟨rfl, rfl, rfl, by decide +kernel, rfl, by decide +kernel, by decide +kernel⟩
theorem ok_Reader_made (x : Fx K mg w) : FnR P w K mg base CX0 6 (a_Reader_made K) (sp_Reader_made K) := by
  refine okR x.F_Reader_made sc_Reader_made (fun _ _ _ _ _ _ us hl => match us, hl with | [_], _ => rfl) (fun vs H Q E h => by obtain ⟨S, o, d, f, es, rfl, dm, t, hf, hes, ft, fh, hQ⟩ := h; rfl) (fun cdv A outer s H vs Q E hr h => ?_)
  obtain ⟨S, o, d, f, es, rfl, dm, t, hf, hes, ft, fh, hQ⟩ := h
  refine ⟨_, (pss_cons (ps_set (i := 1) sc_Reader_made.nd rfl (Or.inl rfl) pe_dnewK)
 (pss_cons (ps_for PassesOwn.never rfl (pi_listK (K := K) rfl (pe_fldK (K := K) rfl (pv 0) rfl)) (pg_name (i := 2) sc_Reader_made.nd rfl (Or.inl rfl))
 (pss_cons (ps_asg (pe_dget2 (hu_of hr) (pe_fldK (K := K) rfl (pv 0) rfl) (pv 2) (pe_tup (pa_cons (pe_tup pa_nil) (pa_cons (pe_tup pa_nil) pa_nil))) ⟨rfl, rfl, rfl, rfl⟩) (pg_tupK (K := K) (n := 2) rfl rfl (pgs_cons (pg_name (i := 3) sc_Reader_made.nd rfl (Or.inl rfl)) (pgs_cons (pg_name (i := 4) sc_Reader_made.nd rfl (Or.inl rfl)) pgs_nil))))
 (pss_one (ps_dput (hu_of hr) (pv 1) (pv 2) (StX.pe_makeR x.mk_House (ok_House_init x) (hr.mono (by decide)) rfl x.m_House pass0 (pa_cons (pe_dget (hu_of hr) (pe_fldK (K := K) rfl (pv 0) rfl) (pv 2) (fun _ _ => rfl)) (pa_cons (pv 3) (pa_cons (pv 4) (pa_cons (pe_dget (hu_of hr) (pe_fldK (K := K) rfl (pv 0) rfl) (pv 2) (fun _ _ => rfl)) pa_nil))))) rfl))))
 (pss_one (ps_ret (StX.pe_makeR x.mk_Net (ok_Net_init x) (hr.mono (by decide)) rfl x.m_Net pass0 (pa_cons (pe_fldK (K := K) rfl (pv 0) rfl) (pa_cons (pv 1) (pa_cons (pe_fldK (K := K) rfl (pv 0) rfl) pa_nil)))))))), ?_⟩
  obtain ⟨dx, an, af, ar, aw, ve, ls, kw, s, h1, h2, h3, h4, h5, h6, h7, h8, h9, h10⟩ := id t
  rw [hes] at h10
  obtain ⟨le, rfl, hle⟩ := h10
  have nd : (d.hs.map (·.1)).Nodup := by
    have := ft.hs.nd
    rwa [show ((d.net f es).houses.map (·.1)) = d.hs.map (·.1) by simp [RdD.net, Function.comp_def]] at this
  have l8 : d.hs.length ≤ 8 := by
    have := ft.hs.l2
    rwa [show (d.net f es).houses.length = d.hs.length by simp [RdD.net]] at this
  refine fun D hD => ?_
  have e1 : Ext H (upd H D (.dK [])) := ext_new hD
  have d1 : (upd H D (.dK [])) D = some (.dK []) := upd_same
  dsimp only [gName]
  generalize upd H D (.dK []) = H1 at e1 d1
  have nan : an ≠ D := ne_of_none h2 hD
  refine ⟨_, rfl, o, _, dx, _, _, rfl, e1 _ _ h1, x.cl_Reader, x.na_Reader_x_names, rfl, an, rfl, ⟨_, .of (e1 _ _ h2)⟩, for_std (S := one D) (std_list (.of (e1 _ _ h2)) nan) (fun i σ H' => Kp (one D) H1 H' ∧ ∃ mk hs, H' D = some (.dK mk) ∧ HousesAt S K H' mk hs ∧ Paired (fun (p q : Str × HouseD) => q.1 = p.1 ∧ Made p.2 q.2) ((d.net f es).houses.take i) hs ∧ ∃ v1 v2 v3, σ = [some (.ref o), some (.ref D), v1, v2, v3])
    ⟨Kp.refl, [], [], d1, .nil, .nil, none, none, none, rfl⟩ (fun i σ H' h => h.1) (fun i y σ H2 hy ⟨u, mk, hs, hD2, hh, pr, v1, v2, v3, hσ⟩ => ?_) (fun σ H2 ⟨u, mk, hs, hD2, hh, pr, v1, v2, v3, hσ⟩ => ?_)⟩
  · subst hσ
    obtain ⟨p, hp, rfl⟩ : ∃ p, d.hs[i]? = some p ∧ y = .str p.1 := by
      rw [RdD.names, List.map_map, List.getElem?_map] at hy
      cases q : d.hs[i]? with
      | none => rw [q] at hy; cases hy
      | some p => rw [q] at hy; exact ⟨p, rfl, (Option.some.inj hy).symm⟩
    have pm := List.mem_of_getElem? hp
    have hp' : (d.net f es).houses[i]? = some (p.1, p.2.hd) := by simp [RdD.net, hp]
    have eH : ∀ {b : Addr} {u' : HO}, H b = some u' → H2 b = some u' := fun {b u'} hb => u.keep _ _ (e1 _ _ hb) (ne_of_none hb hD)
    have e02 : Ext H H2 := fun b u' hb => eH hb
    have dm2 := dm.ext e02
    obtain ⟨lr, os, g1, g2, g3⟩ := rls_at h6 nd pm
    have gf := fails_at nd pm
    have wa := wys_at h9 nd pm
    dsimp only [gName]
    refine ⟨_, rfl, o, _, dx, _, _, rfl, eH h1, x.cl_Reader, x.na_Reader_x_ways, rfl, aw, rfl, .inl ⟨_, .of (eH h5)⟩, _, rfl, by simp [sizeLine_eq], fun c1 nc1 => ⟨by simp [sizeLine_eq], fun c2 nc2 => ⟨by simp [sizeLine_eq], fun c3 nc3 => ?_⟩⟩⟩
    have i1 : Ext H2 (upd H2 c1 (.tup [])) := ext_new nc1
    have t1 : (upd H2 c1 (.tup [])) c1 = some (.tup []) := upd_same
    generalize upd H2 c1 (.tup []) = Ha at i1 t1 nc2 nc3 ⊢
    have i2 : Ext Ha (upd Ha c2 (.tup [])) := ext_new nc2
    have t2 : (upd Ha c2 (.tup [])) c2 = some (.tup []) := upd_same
    generalize upd Ha c2 (.tup []) = Hb at i2 t2 nc3 ⊢
    have i3 : Ext Hb (upd Hb c3 (.tup [.ref c1, .ref c2])) := ext_new nc3
    have t3 : (upd Hb c3 (.tup [.ref c1, .ref c2])) c3 = some (.tup [.ref c1, .ref c2]) := upd_same
    generalize upd Hb c3 (.tup [.ref c1, .ref c2]) = Hc at i3 t3 ⊢
    have e2c := (i1.trans i2).trans i3
    have e0c := e02.trans e2c
    refine ⟨_, DGet.k (k := Sum.inr p.1) (e0c _ _ h5), ?_⟩
    have lm : mk.length = i := by
      have a1 := Paired.length hh
      have a2 := Paired.length pr
      have a3 := (List.getElem?_eq_some_iff.mp hp').1
      rw [List.length_take] at a2
      omega
    have i8 : i < d.hs.length := (List.getElem?_eq_some_iff.mp hp).1
    have newk : valV mk (Sum.inr p.1) = none := by
      cases q : valV mk (Sum.inr p.1) with
      | none => rfl
      | some v =>
        have hin := hh.in_ p.1
        rw [q] at hin
        have hmem : p.1 ∈ hs.map (·.1) := of_decide_eq_true hin.symm
        rw [norm_rules pr] at hmem
        have nd' : ((d.net f es).houses.map (·.1)).Nodup := ft.hs.nd
        have tk := take_one hp'
        have : (((d.net f es).houses.take (i + 1)).map (·.1)).Nodup := by
          rw [List.map_take]
          exact nd'.sublist (List.take_sublist _ _)
        rw [tk, List.map_append, List.nodup_append] at this
        exact absurd rfl (this.2.2 _ hmem _ (by simp))
    have both : ∀ (cc cl : Addr), Sq K Hc cc (p.2.hd.calls.map V.str) → Sq K Hc cl (p.2.hd.lost.map V.str) → ∃ (a : Addr) (xs : List V), (valV kw (Sum.inr p.1)).getD (.ref c3) = .ref a ∧ True := fun _ _ _ _ => by
      rcases wa with ⟨_, z⟩ | ⟨_, t', _, _, _, z, _⟩
      · rw [z]; exact ⟨c3, [], rfl, trivial⟩
      · rw [z]; exact ⟨t', [], rfl, trivial⟩
    clear both
    have both : ∃ (a cc cl : Addr), (valV kw (Sum.inr p.1)).getD (.ref c3) = .ref a ∧ Hc a = some (.tup [.ref cc, .ref cl]) ∧ Sq K Hc cc (p.2.hd.calls.map V.str) ∧ Sq K Hc cl (p.2.hd.lost.map V.str) := by
      rcases wa with ⟨z1, z2⟩ | ⟨w', t', q1, q2, z1, z2, z3, z4, z5⟩
      · rw [z2]
        refine ⟨c3, c1, c2, rfl, t3, .inr (.of ?_), .inr (.of ?_)⟩
        · rw [show p.2.hd.calls = [] by simp [RdH.hd, z1]]; exact (i2.trans i3) _ _ t1
        · rw [show p.2.hd.lost = [] by simp [RdH.hd, z1]]; exact i3 _ _ t2
      · rw [z2]
        refine ⟨t', q1, q2, rfl, e0c _ _ z3.1, .inl (.of ?_), .inl (.of ?_)⟩
        · rw [show p.2.hd.calls = w'.1 by simp [RdH.hd, z1]]; exact e0c _ _ z4.1
        · rw [show p.2.hd.lost = w'.2 by simp [RdH.hd, z1]]; exact e0c _ _ z5.1
    obtain ⟨ta, cc, cl, ea, hta, hcc, hcl⟩ := both
    rw [ea]
    refine ⟨ta, _, rfl, SqT.of hta, rfl, _, _, rfl, _, _, rfl, rfl, ?_⟩
    refine ⟨_, rfl, o, _, dx, _, _, rfl, e0c _ _ h1, x.cl_Reader, x.na_Reader_x_rules, rfl, _, rfl, ar, _, rfl, dget_str (e0c _ _ h4) g1, _, rfl, _, rfl, _, rfl, o, _, dx, _, _, rfl, e0c _ _ h1, x.cl_Reader, x.na_Reader_x_fails, rfl, _, rfl, af, _, rfl, dget_str (e0c _ _ h3) gf, ?_⟩
    refine make_house (K := K) (m := p.2.hd) (dm.ext e0c) (.inl (e0c _ _ g2)) (Paired.mapP g3 fun _ _ z => z.ext e0c) hcc hcl (fh p pm) fun r H4 h' e4 mdh tr => ?_
    have e24 := e2c.trans e4
    have hD4 := e24 _ _ hD2
    refine ⟨_, rfl, _, rfl, D, _, rfl, dput_str hD4 (by omega), ?_⟩
    rw [putK_new _ newk]
    have uD : Kp (one D) H4 (upd H4 D (.dK (mk ++ [(Sum.inr p.1, .ref r)]))) := Kp.refl.put rfl
    refine ⟨(u.trans (.ext e24)).trans uD, _, hs ++ [(p.1, h')], upd_same, paired_app ((hh.ext e24).lk (h := h') hD4 uD (by simp) (by simp)) (.cons ⟨rfl, r, rfl, tr.lk hD4 uD (by simp) (by simp)⟩ .nil), ?_, _, _, _, rfl⟩
    rw [take_one hp']
    exact paired_app pr (.cons ⟨rfl, mdh⟩ .nil)
  · subst hσ
    have e : (d.net f es).houses.take (d.names.map V.str).length = (d.net f es).houses := List.take_of_length_le (by simp [RdD.net, RdD.names])
    rw [e] at pr
    have e02 : Ext H H2 := fun b u' hb => u.keep _ _ (e1 _ _ hb) (ne_of_none hb hD)
    refine ⟨_, rfl, o, _, dx, _, _, rfl, e02 _ _ h1, x.cl_Reader, x.na_Reader_x_fine, rfl, _, rfl, _, rfl, o, _, dx, _, _, rfl, e02 _ _ h1, x.cl_Reader, x.na_Reader_x_entries, rfl, ?_⟩
    rw [show optV d.fine = .int f by rw [hf]; rfl]
    exact make_net (K := K) (m := { d.net f es with houses := hs }) (dm.ext e02) hD2 hh (.inl (.of (e02 _ _ hle.1))) (norm_fit ft pr) fun r H4 n e4 nm tn => hQ r n H4 (e02.trans e4) ⟨hs, pr, nm⟩ tn
end
end Ws

set_option Elab.async false
set_option linter.all false
set_option maxRecDepth 100000
set_option maxHeartbeats 4000000
set_option pp.deepTerms false
set_option pp.maxSteps 400
namespace Ws
open PySem PySem.Spec PyProof.Rows L2
theorem fine_ok {d d' : RdD} {ws : List Str} (ok : d.Ok) (h : takeFine d ws = some d') : d'.Ok := by
  unfold takeFine at h
  split at h
  · cases h
  · split at h
    · rename_i g
      cases h
      exact ⟨fun i e => by cases e; exact g, fun _ => rfl, ok.asc, ok.ln, ok.nm, ok.r2⟩
    · cases h
theorem house_ok {d d' : RdD} {ws : List Str} (ok : d.Ok) (h : takeHouse d ws = some d') (l : d'.hs.length ≤ 900) : d'.Ok := by
  unfold takeHouse at h
  split at h
  · cases h
  · rename_i g1
    split at h
    · cases h
    · rename_i g2
      cases h
      have b : betweenP d = true := by
        cases q : betweenP d with
        | true => rfl
        | false => exact absurd (.inl q) g1
      have nz : isName (wd ws 1) = true := by
        cases q : isName (wd ws 1) with
        | true => rfl
        | false => exact absurd (.inr (.inr q)) g1
      have bh : behindP d (wd ws 1) = true := by
        cases q : behindP d (wd ws 1) with
        | true => rfl
        | false => exact absurd q g2
      have fs : d.fine.isSome = true := by
        unfold betweenP at b
        exact (Bool.and_eq_true_iff.mp b).1
      obtain ⟨all, _⟩ := behind_new ok bh
      refine ⟨ok.f, fun _ => fs, ?_, l, fun z hz => ?_, fun p hp => ?_⟩
      · show (List.map _ (_ ++ _)).Pairwise LtS
        rw [List.map_append, List.pairwise_append]
        refine ⟨ok.asc, by simp, fun a ha b hb => ?_⟩
        have : b = wd ws 1 := by simpa using hb
        rw [this]; exact all a ha
      · have hz : z ∈ List.map (·.1) (d.hs ++ [(wd ws 1, (⟨decide (ws.length = 3), [], none⟩ : RdH))]) := hz
        rw [List.map_append, List.mem_append] at hz
        rcases hz with hz | hz
        · exact ok.nm z hz
        · have : z = wd ws 1 := by simpa using hz
          rw [this]; exact nz
      · rcases List.mem_append.mp hp with hp | hp
        · exact ok.r2 p hp
        · rw [List.mem_singleton.mp hp]; exact Nat.zero_le _
theorem last_ok {d : RdD} {z : Str} {h h' : RdH} (ok : d.Ok) (e : d.hs.getLast? = some (z, h)) (r : h'.rules.length ≤ 2) : (setLast d h').Ok := by
  rcases last_cases d.hs with g | ⟨pre, p, g⟩
  · rw [g] at e; cases e
  · have : p = (z, h) := by
      rw [g] at e
      simpa using e
    subst this
    rw [set_last g]
    have nm : (pre ++ [(z, h')]).map (·.1) = d.names := by rw [RdD.names, g]; simp
    refine ⟨ok.f, fun _ => ok.fs (by rw [g]; simp), ?_, ?_, fun y hy => ?_, fun p hp => ?_⟩
    · show (List.map _ _).Pairwise LtS
      rw [nm]; exact ok.asc
    · have := ok.ln
      rw [g] at this
      simpa using this
    · have hy : y ∈ (pre ++ [(z, h')]).map (·.1) := hy
      rw [nm] at hy
      exact ok.nm y hy
    · rcases List.mem_append.mp hp with hp | hp
      · exact ok.r2 p (by rw [g]; exact List.mem_append_left _ hp)
      · rw [List.mem_singleton.mp hp]; exact r
theorem rule_ok {d d' : RdD} {ws : List Str} (ok : d.Ok) (h : takeRule d ws = some d') : d'.Ok := by
  unfold takeRule at h
  split at h
  · cases h
  · rename_i z hh e
    split at h
    · cases h
    · split at h
      · cases h
      · rename_i g
        cases h
        refine last_ok ok e ?_
        have n2 : hh.rules.length ≠ 2 := fun q => g (.inr (.inl q))
        have m := ok.r2 (z, hh) (List.mem_of_getLast? e)
        have m : hh.rules.length ≤ 2 := m
        simp only [List.length_append, List.length_cons, List.length_nil]
        omega
theorem calls_ok {d d' : RdD} {ws : List Str} (ok : d.Ok) (h : takeCalls d ws = some d') : d'.Ok := by
  unfold takeCalls at h
  split at h
  · cases h
  · rename_i z hh e
    split at h
    · cases h
    · split at h
      · cases h
      · cases h
        exact last_ok ok e (ok.r2 (z, hh) (List.mem_of_getLast? e))
theorem take_ok {d d' : RdD} {ws : List Str} (ok : d.Ok) (h : takeP d ws = some d') (l : d'.hs.length ≤ 900) : d'.Ok := by
  unfold takeP at h
  split at h
  · cases h
  · split at h
    · exact fine_ok ok h
    · split at h
      · exact house_ok ok h l
      · split at h
        · exact rule_ok ok h
        · split at h
          · exact calls_ok ok h
          · split at h
            · unfold takeEntries at h
              split at h
              · cases h
              · cases h
                exact ⟨ok.f, ok.fs, ok.asc, ok.ln, ok.nm, ok.r2⟩
            · cases h
theorem rd0_ok : rd0.Ok := ⟨fun i e => (by cases e), fun e => absurd rfl e, .nil, Nat.zero_le _, fun z hz => by simp [rd0, RdD.names] at hz, fun p hp => by simp [rd0] at hp⟩
/-- lines taken one by one: the state ahead of each -/
theorem takeAll_split {d e : RdD} : ∀ {ls : List (List Str)} {i : Nat} {ws : List Str}, takeAll d ls = some e → ls[i]? = some ws → ∃ d1 d2, takeAll d (ls.take i) = some d1 ∧ takeP d1 ws = some d2 ∧ takeAll d (ls.take (i + 1)) = some d2 := by
  intro ls
  induction ls generalizing d with
  | nil => intro i ws _ h; simp at h
  | cons l ls ih =>
    intro i ws h hi
    unfold takeAll at h
    cases c : takeP d l with
    | none => rw [c] at h; cases h
    | some d' =>
      rw [c] at h
      match i with
      | 0 =>
        have : l = ws := by simpa using hi
        subst this
        refine ⟨d, d', rfl, c, ?_⟩
        show (takeP d l).bind _ = _
        rw [c]
        rfl
      | i + 1 =>
        obtain ⟨d1, d2, h1, h2, h3⟩ := ih (d := d') h (by simpa using hi)
        refine ⟨d1, d2, ?_, h2, ?_⟩
        · show (takeP d l).bind _ = _
          rw [c]
          exact h1
        · show (takeP d l).bind _ = _
          rw [c]
          exact h3
theorem takeAll_len : ∀ {ls : List (List Str)} {d e : RdD}, takeAll d ls = some e → e.hs.length ≤ d.hs.length + ls.length
  | [], d, e, h => by cases h; exact Nat.le_refl _
  | l :: ls, d, e, h => by
    unfold takeAll at h
    cases c : takeP d l with
    | none => rw [c] at h; cases h
    | some d' =>
      rw [c] at h
      have h1 := take_len c
      have h2 := takeAll_len (ls := ls) h
      rw [List.length_cons]
      omega
theorem takeAll_ok : ∀ {ls : List (List Str)} {d e : RdD}, d.Ok → takeAll d ls = some e → d.hs.length + ls.length ≤ 900 → e.Ok
  | [], d, e, ok, h, _ => by cases h; exact ok
  | l :: ls, d, e, ok, h, le => by
    unfold takeAll at h
    cases c : takeP d l with
    | none => rw [c] at h; cases h
    | some d' =>
      rw [c] at h
      have h1 := take_len c
      rw [List.length_cons] at le
      exact takeAll_ok (ls := ls) (take_ok ok c (by omega)) h (by omega)
/-! ### a text cut -/
theorem wd_wk {w : Str} (h : Wd w) : Wk w := by
  refine ⟨by have := h.1; omega, ?_⟩
  show w.cps.all (fun c => decide (c < 0x110000)) = true
  rw [← Array.all_toList, List.all_eq_true]
  intro c hc
  have := h.2 c hc
  exact decide_eq_true (by omega)
theorem mem_joinL {s c : Nat} : ∀ {ps : List (List Nat)}, c ∈ TL.joinL [s] ps → c = s ∨ ∃ p ∈ ps, c ∈ p
  | [], h => by simp [TL.joinL] at h
  | [p], h => .inr ⟨p, List.mem_cons_self, by simpa [TL.joinL] using h⟩
  | p :: q :: r, h => by
    rw [joinL_cons [s] p (q :: r) (by simp)] at h
    rcases List.mem_append.mp h with h | h
    · exact .inr ⟨p, List.mem_cons_self, h⟩
    · rcases List.mem_append.mp h with h | h
      · exact .inl (by simpa using h)
      · rcases mem_joinL h with h | ⟨z, hz, h⟩
        · exact .inl h
        · exact .inr ⟨z, List.mem_cons_of_mem _ hz, h⟩
theorem line_cps {ws : List Str} (h : Ln ws) : ∀ c ∈ TL.tl (lineS ws), 32 ≤ c ∧ c ≤ 126 := fun c hc => by
  rw [tl_line] at hc
  rcases mem_joinL hc with rfl | ⟨p, hp, hc⟩
  · omega
  · obtain ⟨w, hw, rfl⟩ := List.mem_map.mp hp
    have := (h.2.2 w hw).2 c hc
    omega
theorem line_back {ws : List Str} (h : Ln ws) : Txt.split (lineS ws) " " = ws := by
  unfold lineS
  refine TL.split_join (s := 32) (S := []) rfl (by decide +kernel) h.1 fun p hp z => ?_
  have := (h.2.2 p hp).2 32 z
  omega
theorem text_eq (n : NetD) : netText n = Txt.join "\n" ((netW n).map lineS ++ ([""] : List Str)) := by
  have h0 : (netW n).map lineS ≠ [] := by simp [netW]
  unfold netText
  have := text_law h0
  rw [List.map_map] at this
  show Txt.join "" ((netW n).map ((fun l => l ++ "\n") ∘ lineS)) = _
  rw [← this]
  refine TL.ext_tl ?_
  rw [TL.tl_append, TL.join_eq, TL.join_eq, TL.tl_join, TL.tl_join, List.map_append]
  have key : ∀ ps : List (List Nat), ps ≠ [] → TL.joinL [10] (ps ++ [[]]) = TL.joinL [10] ps ++ [10] := by
    intro ps
    induction ps with
    | nil => intro h; exact absurd rfl h
    | cons p r ih =>
      intro _
      cases r with
      | nil => simp [TL.joinL]
      | cons q r =>
        rw [List.cons_append, joinL_cons [10] p _ (by simp), joinL_cons [10] p _ (by simp), ih (by simp)]
        simp
  exact (key _ (by simpa using h0)).symm
theorem text_back {n : NetD} (g : GoodN n) : Txt.split (netText n) "\n" = (netW n).map lineS ++ ([""] : List Str) := by
  rw [text_eq]
  refine TL.split_join (s := 10) (S := []) rfl (by decide +kernel) (by simp) fun p hp z => ?_
  rcases List.mem_append.mp hp with hp | hp
  · obtain ⟨ws, hw, rfl⟩ := List.mem_map.mp hp
    have := (line_cps (ln_net g ws hw) 10 z).1
    omega
  · rw [List.mem_singleton.mp hp] at z
    exact absurd z (by simp [TL.tl, show ("" : Str).cps.toList = [] from rfl])
theorem text_len {n : NetD} (g : GoodN n) : (netText n).length ≤ 25000 := by
  rw [TL.len_tl]
  unfold netText
  rw [TL.join_eq, TL.tl_join, show TL.tl ("" : Str) = [] from rfl, joinL_nil, List.length_flatten, List.map_map, List.map_map]
  have l34 := netW_len g
  have : ((netW n).map ((List.length ∘ TL.tl) ∘ fun ws => lineS ws ++ "\n")).sum ≤ 727 * (netW n).length := by
    have h : ∀ ws ∈ netW n, (lineS ws ++ "\n").length ≤ 727 := fun ws hw => by
      have := line_len (ln_net g ws hw)
      rw [slen, show ("\n" : Str).length = 1 from rfl]
      omega
    have := sum_lens (m := 727) (ys := (netW n).map fun ws => lineS ws ++ "\n") fun y hy => by
      obtain ⟨ws, hw, rfl⟩ := List.mem_map.mp hy
      exact h ws hw
    rw [List.length_map, List.map_map] at this
    refine Nat.le_trans (Nat.le_of_eq ?_) this
    congr 1
  have : ((netW n).map (List.length ∘ (TL.tl ∘ fun ws => lineS ws ++ "\n"))).sum ≤ 727 * (netW n).length := this
  omega
theorem text_ok {n : NetD} (g : GoodN n) : ∀ c ∈ TL.tl (netText n), c ≤ 126 := fun c hc => by
  rw [text_eq, TL.join_eq, TL.tl_join] at hc
  rcases mem_joinL (s := 10) hc with rfl | ⟨p, hp, hc⟩
  · omega
  · obtain ⟨l, hl, rfl⟩ := List.mem_map.mp hp
    rcases List.mem_append.mp hl with hl | hl
    · obtain ⟨ws, hw, rfl⟩ := List.mem_map.mp hl
      exact (line_cps (ln_net g ws hw) c hc).2
    · rw [List.mem_singleton.mp hl] at hc
      exact absurd hc (by simp [TL.tl, show ("" : Str).cps.toList = [] from rfl])
/-! ### what is read is the net -/
theorem hd_of {h : HouseD} (f : h.Fit) : (rdOfH h).hd = h := by
  unfold rdOfH RdH.hd
  by_cases c : h.calls = []
  · have l : h.lost = [] := by
      cases q : h.lost with
      | nil => rfl
      | cons z r => have := f.sub z (by rw [q]; exact List.mem_cons_self); rw [c] at this; simp at this
    obtain ⟨a, b, e, g⟩ := h
    simp only at c l
    subst c l
    rfl
  · simp only [if_neg c]
    rfl
theorem net_of {n : NetD} (g : GoodN n) : (rdOf n).net n.fine n.entries = n := by
  obtain ⟨f, sh, se, hf⟩ := g
  unfold RdD.net rdOf
  obtain ⟨a, b, c⟩ := n
  simp only
  congr 1
  rw [List.map_map]
  conv => rhs; rw [← List.map_id b]
  refine List.map_congr_left fun p hp => ?_
  show (p.1, (rdOfH p.2).hd) = p
  rw [hd_of (hf p hp).1]
theorem norm_self {n m : NetD} (g : GoodN n) (h : NormN n m) : m = n := by
  obtain ⟨f, sh, se, hf⟩ := g
  obtain ⟨hs, pr, nm⟩ := h
  have e : hs = n.houses := by
    have : ∀ {xs ys : Hs}, Paired (fun (p q : Str × HouseD) => q.1 = p.1 ∧ Made p.2 q.2) xs ys → (∀ p ∈ xs, sortedS p.2.calls = true ∧ sortedS p.2.lost = true) → ys = xs := by
      intro xs ys h
      induction h with
      | nil => intro _; rfl
      | @cons a b _ _ r t ih =>
        intro hs
        obtain ⟨s1, s2⟩ := hs a List.mem_cons_self
        rw [ih fun p hp => hs p (List.mem_cons_of_mem _ hp)]
        congr 1
        have : b.2 = a.2 := made_eq r.2 ⟨rfl, .refl _, s1, .refl _, s2, rfl⟩
        exact Prod.ext r.1 this
    exact this pr fun p hp => ⟨(hf p hp).2.1, (hf p hp).2.2.1⟩
  subst e
  exact netMade_eq f nm ⟨rfl, .refl _, sh, .refl _, se⟩
end Ws

set_option Elab.async false
set_option linter.all false
set_option maxRecDepth 100000
set_option maxHeartbeats 4000000
set_option pp.deepTerms false
set_option pp.maxSteps 400
namespace Ws
open PySem PySem.Spec PyProof.Rows L2
theorem kp_more {S0 S : Addr → Prop} {H0 H1 H2 : Hp} (u : Kp S0 H0 H1) (s : ∀ x, S x → S0 x ∨ H0 x = none) (v : Kp S H1 H2) : Kp S0 H0 H2 :=
  ⟨fun a o h n => v.keep a o (u.keep a o h n) fun z => (s a z).elim n fun q => (by rw [h] at q; cases q), fun a h => v.dom a (u.dom a h)⟩
section
variable {P : Program} {w : World} {K : PySem.W.Frag} {mg : Str → Option Value} {base : Heap}
def sp_read_net (K : PySem.W.Frag) : Sp := fun vs H Q _ => ∃ n, vs = [.str (netText n)] ∧ GoodN n ∧ ∀ r H', Ext H H' → NetAt no K H' r n → Q (.ref r) H'
theorem sc_read_net : FnScope ["text", "lines", "reader", "rest", "at", "line"] ["text"] (defScope s_read_net) := ⟨rfl, rfl, rfl, by decide +kernel, rfl, by decide +kernel, by decide +kernel⟩
theorem okf_read_net {fd : FuncData} {dvs : List V} (F : FunD K "read_net" "read_net" (defArgs s_read_net) (defBody s_read_net) (defScope s_read_net) dvs [] (a_read_net K) fd) (x : Fx K mg w) : FnOk P w K mg base CX0 7 (a_read_net K) fd ["text"] (sp_read_net K) := by
  refine okFD F sc_read_net (fun vs H Q E h => by obtain ⟨n, rfl, g, hQ⟩ := h; rfl) (fun cdv A outer s H vs Q E hr h => ?_)
  obtain ⟨n, rfl, g, hQ⟩ := h
  refine ⟨_, (pss_cons (ps_if (pt_not (pt_val (pe_callB (r := rIsi K) call_isi rfl x.n_isinstance bb_isinstance (pa_cons (pv 0) (pa_cons (pe_gT x.n_str (by rfl) rfl) pa_nil)))))
 (pss_one ps_never)
 pss_nil)
 (pss_cons (ps_par (i := 1) (j := 2) rfl sc_read_net.nd rfl rfl (by decide) rfl rfl (pa_cons (pe_split (pv 0) pe_str) (pa_cons (pe_makeR0 x.mk_Reader (ok_Reader_init x) (hr.mono (by decide)) rfl x.m_Reader pass0) pa_nil)) (by rfl))
 (pss_cons (ps_set (i := 3) sc_read_net.nd rfl (Or.inl rfl) (pe_bm0 PySem.F.plainAttrs_list PySem.F.slot_list_pop PySem.F.type_list_pop mt_pop (pv 1)))
 (pss_cons (ps_if (pt_cmpR op_ne (pv 3) pe_str (nomark _))
 (pss_one (ps_expr (pe_bmK (K := K) rfl PySem.F.plainAttrs_list PySem.F.slot_list_append PySem.F.type_list_append mt_append (pv 1) (pa_cons (pv 3) pa_nil))))
 pss_nil)
 (pss_cons (ps_for PassesOwn.never rfl (pi_enum rfl x.n_enumerate (pa_cons (pv 1) pa_nil)) (pg_tupK (K := K) (n := 2) rfl rfl (pgs_cons (pg_name (i := 4) sc_read_net.nd rfl (Or.inl rfl)) (pgs_cons (pg_name (i := 5) sc_read_net.nd rfl (Or.inl rfl)) pgs_nil)))
 (pss_one (ps_if (pt_not (pt_val (Ws.pe_methR (pv 2) x.cl_Reader x.me_Reader_take (ok_Reader_take x) (hr.mono (by decide)) pass0 (pa_cons (pv 5) pa_nil))))
 (pss_one ps_never)
 pss_nil)))
 (pss_cons (ps_if (PW.pt (pw_or (pt_cmpR op_ne (pv 3) pe_str (nomark _)) (pw_or1 (pt_cmpR op_isN (pe_fldK (K := K) rfl (pv 2) rfl) pe_non (nomark _)))))
 (pss_one ps_never)
 pss_nil)
 (pss_one (ps_try_only rfl rfl ⟨rfl, rfl, .inl x.m_BadNet⟩ takes_none5 (fun W pn xe tk po => (pss_one (ps_ret (Ws.pe_methR0 (pv 2) x.cl_Reader x.me_Reader_made (ok_Reader_made x) (hr.mono (by decide)) pass0)))) (fun a oe cls d pn _ _ => (pss_one ps_never)))))))))), ?_⟩
  have tl := text_len g
  have big1 : (netText n).length + 2 ≤ sizeLine := by rw [sizeLine_eq]; omega
  refine ⟨_, rfl, _, _, _, _, true, rfl, .ty _, .base (.str _), kit_ty (by decide +kernel), true, rfl, iteF ?_⟩
  refine ⟨_, rfl, ⟨_, rfl⟩, _, "\n", rfl, rfl, by decide, big1, fun a na => ?_⟩
  rw [text_back g]
  have hx : ((netW n).map lineS ++ ([""] : List Str)).map V.str = ((netW n).map fun ws => V.str (lineS ws)) ++ [.str ""] := by simp
  rw [hx]
  have e1 : Ext H (upd H a (.lst (((netW n).map fun ws => V.str (lineS ws)) ++ [.str ""]))) := ext_new na
  have a1 : (upd H a (.lst (((netW n).map fun ws => V.str (lineS ws)) ++ [.str ""]))) a = some (.lst (((netW n).map fun ws => V.str (lineS ws)) ++ [.str ""])) := upd_same
  generalize upd H a (.lst (((netW n).map fun ws => V.str (lineS ws)) ++ [.str ""])) = H1 at e1 a1
  refine fun o dx ho hd ne => ⟨o, dx, rfl, upd_same, fun H2 S0 u2 s0 dm0 t0 => ⟨rfl, ?_⟩⟩
  have e2 : Ext H1 (upd (upd H1 dx (.own o)) o (.ins (c_Reader K) dx [])) := (ext_new hd).trans (ext_new (by rw [upd_ne (Ne.symm ne)]; exact ho))
  generalize upd (upd H1 dx (.own o)) o (.ins (c_Reader K) dx []) = Hi at e2 u2 s0
  have nao : a ≠ o := ne_of_none a1 ho
  have ns : ∀ {b : Addr} {u : HO}, H1 b = some u → ¬ S0 b := fun {b u} hb z => (s0 b z).elim (fun q => by rw [q, ho] at hb; cases hb) fun q => by rw [e2 _ _ hb] at q; cases q
  have keep : ∀ {b : Addr} {u : HO}, H1 b = some u → H2 b = some u := fun {b u} hb => u2.keep _ _ (e2 _ _ hb) fun z => by rw [show b = o from z, ho] at hb; cases hb
  have a2 := keep a1
  dsimp only [gName]
  refine ⟨_, _, rfl, ?_⟩
  refine ⟨_, rfl, .inl ⟨rfl, _, .of a2⟩, a, _, .str "", rfl, rfl, a2, by simp, ?_⟩
  rw [List.dropLast_concat]
  have a3 : (upd H2 a (.lst ((netW n).map fun ws => V.str (lineS ws)))) a = some (.lst ((netW n).map fun ws => V.str (lineS ws))) := upd_same
  have nsa := ns a1
  have dm3 : Dm S0 (upd H2 a (.lst ((netW n).map fun ws => V.str (lineS ws)))) := fun b hb => by
    rw [upd_ne (show b ≠ a from fun z => nsa (by rw [← z]; exact hb))]
    exact dm0 b hb
  have u3 : Kp (one a) H2 (upd H2 a (.lst ((netW n).map fun ws => V.str (lineS ws)))) := Kp.refl.put rfl
  have t3 : RdAt S0 K (upd H2 a (.lst ((netW n).map fun ws => V.str (lineS ws)))) o rd0 := by
    obtain ⟨dx', an, af, ar, aw, ve, ls, kw, s, h1, h2, h3, h4, h5, h6, h7, h8, h9, h10⟩ := t0
    have nn : ∀ {b : Addr}, S0 b → b ≠ a := fun {b} hb z => nsa (by rw [← z]; exact hb)
    have l0 : ls = [] := List.eq_nil_of_length_eq_zero (Paired.length h6)
    have k0 : kw = [] := List.eq_nil_of_length_eq_zero (Paired.length h9)
    subst l0 k0
    have v0 : ve = .non := h10
    subst v0
    refine ⟨dx', an, af, ar, aw, .non, [], [], s, ?_, ?_, ?_, ?_, ?_, .nil, h7, h8, .nil, rfl⟩
    · rw [upd_ne (nn s.1)]; exact h1
    · rw [upd_ne (nn s.2.1)]; exact h2
    · rw [upd_ne (nn s.2.2.1)]; exact h3
    · rw [upd_ne (nn s.2.2.2.1)]; exact h4
    · rw [upd_ne (nn s.2.2.2.2)]; exact h5
  have e3 : Ext H (upd H2 a (.lst ((netW n).map fun ws => V.str (lineS ws)))) := fun b u hb => by
    rw [upd_ne (ne_of_none hb na)]
    exact keep (e1 _ _ hb)
  have ns3 : ∀ {b : Addr} {u : HO}, H b = some u → ¬ S0 b := fun hb => ns (e1 _ _ hb)
  generalize upd H2 a (.lst ((netW n).map fun ws => V.str (lineS ws))) = H3 at a3 dm3 u3 t3 e3
  refine ⟨_, rfl, rfl, _, rfl, iteF ?_⟩
  refine ⟨_, rfl, a, _, rfl, .of a3, for_enum (S := S0) (.of a3) nsa (fun i σ H' => Kp S0 H3 H' ∧ ∃ S d, (∀ x, S x → S0 x ∨ H3 x = none) ∧ Dm S H' ∧ RdAt S K H' o d ∧ takeAll rd0 ((netW n).take i) = some d ∧ ∃ v4 v5, σ = [some (.str (netText n)), some (.ref a), some (.ref o), some (.str ""), v4, v5])
    ⟨Kp.refl, S0, rd0, fun x h => .inl h, dm3, t3, rfl, none, none, rfl⟩ (fun i σ H' h => h.1) (fun i y σ H4 T hy ⟨u4, S, d, sb, dm4, t4, td, v4, v5, hσ⟩ nT => ?_) (fun σ H4 ⟨u4, S, d, sb, dm4, t4, td, v4, v5, hσ⟩ => ?_)⟩
  · subst hσ
    obtain ⟨ws, hw, rfl⟩ : ∃ ws, (netW n)[i]? = some ws ∧ y = .str (lineS ws) := by
      rw [List.getElem?_map] at hy
      cases q : (netW n)[i]? with
      | none => rw [q] at hy; cases hy
      | some ws => rw [q] at hy; exact ⟨ws, rfl, (Option.some.inj hy).symm⟩
    have hm := List.mem_of_getElem? hw
    have ln := ln_net g ws hm
    have i5 : Ext H4 (upd H4 T (.tup [.int (i : Nat), .str (lineS ws)])) := ext_new nT
    have hT : (upd H4 T (.tup [.int (i : Nat), .str (lineS ws)])) T = some (.tup [.int (i : Nat), .str (lineS ws)]) := upd_same
    generalize upd H4 T (.tup [.int (i : Nat), .str (lineS ws)]) = H5 at i5 hT
    have t5 := t4.ext i5
    have dm5 := dm4.ext i5
    obtain ⟨d1, d2, q1, q2, q3⟩ := takeAll_split (net_back g) hw
    have : d1 = d := by rw [td] at q1; exact (Option.some.inj q1).symm
    subst this
    have lt := List.length_take_le i (netW n)
    have ll := netW_len g
    have le : (rd0.hs.length + ((netW n).take i).length) ≤ 34 := by
      have : ((netW n).take i).length ≤ (netW n).length := List.length_take_le' _ _
      show 0 + _ ≤ 34
      omega
    have ok := takeAll_ok rd0_ok td (by omega)
    have hl := takeAll_len td
    refine ⟨T, _, rfl, SqT.of hT, rfl, _, _, rfl, _, _, rfl, rfl, ?_⟩
    obtain ⟨dx', an, af, ar, aw, ve, ls, kw, s, h1, hrest⟩ := id t5
    dsimp only [gName]
    refine ⟨_, rfl, o, dx', _, rfl, h1, rfl, _, rfl, S, o, d1, lineS ws, ws, rfl, dm5, t5, ok, by omega, Nat.le_trans (line_len ln) (by decide), line_back ln, ln.1, by have := ln.2.1; omega, fun w hw => wd_wk (ln.2.2 w hw), fun q => ?_, fun d' S' H6 q u6 sb6 dm6 t6 => ?_⟩
    · rw [q2] at q; cases q
    · rw [q2] at q
      cases q
      refine ⟨true, rfl, iteF ?_⟩
      have u5 : Kp S0 H3 H5 := u4.trans (.ext i5)
      refine ⟨kp_more u5 sb u6, S', d2, fun z hz => ?_, dm6, t6, q3, _, _, rfl⟩
      rcases sb6 z hz with q | q
      · exact sb z q
      · refine .inr ?_
        cases c : H3 z with
        | none => rfl
        | some u => exact absurd q (u5.dom z (by rw [c]; exact fun z => nomatch z))
  · subst hσ
    have tk : (netW n).take ((netW n).map fun ws => V.str (lineS ws)).length = netW n := by rw [List.length_map, List.take_length]
    rw [tk] at td
    have : d = rdOf n := by rw [net_back g] at td; exact (Option.some.inj td).symm
    subst this
    obtain ⟨dx', an, af, ar, aw, ve, ls, kw, s, h1, h2, h3, h4, h5, h6, h7, h8, h9, h10⟩ := id t4
    obtain ⟨le, rfl, hle⟩ : ∃ l, ve = .ref l ∧ At S H4 l (.lst (n.entries.map V.str)) := h10
    refine ⟨_, rfl, rfl, _, rfl, iteF ?_⟩
    refine ⟨_, rfl, o, _, dx', _, _, rfl, h1, x.cl_Reader, x.na_Reader_x_entries, rfl, rfl, _, rfl, iteF ?_⟩
    have nf := net_of g
    have gf : ((rdOf n).net n.fine n.entries).Fit := by rw [nf]; exact g.1
    have e4 : Ext H H4 := fun b u hb => u4.keep _ _ (e3 _ _ hb) (ns3 hb)
    refine ⟨_, rfl, o, dx', _, rfl, h1, rfl, S, o, rdOf n, n.fine, n.entries, rfl, dm4, t4, rfl, rfl, gf, fun p hp => ?_, fun r m H5 e5 nm tn => ?_⟩
    · obtain ⟨q, hq, rfl⟩ := List.mem_map.mp hp
      rw [hd_of (g.2.2.2 q hq).1]
      exact (g.2.2.2 q hq).1
    · rw [nf] at nm
      have := norm_self g nm
      subst this
      exact hQ r H5 (e4.trans e5) tn.free
theorem ok_read_net (x : Fx K mg w) : FnR P w K mg base CX0 7 (a_read_net K) (sp_read_net K) := by
  obtain ⟨fd, F⟩ := x.F_read_net
  exact FnR.imp ((okf_read_net F x).raw (F.bindsN fun _ _ _ _ _ _ us hl => match us, hl with | [_], _ => rfl) .nil) fun vs H Q E h => by rwa [List.append_nil]
theorem okk_read_net (x : Fx K mg w) : FnRK P w K mg base CX0 7 (a_read_net K) 0 ["text"] (sp_read_net K) := by
  obtain ⟨fd, F⟩ := x.F_read_net
  exact rawK (okf_read_net F x) (bindsK0 F fun _ _ _ _ _ _ us ws h1 h2 => match us, ws, h1, h2 with | [], [_], _, _ => rfl)
end
end Ws

set_option Elab.async false
set_option linter.all false
set_option maxRecDepth 100000
set_option maxHeartbeats 4000000
set_option pp.deepTerms false
set_option pp.maxSteps 400
namespace Ws
open PySem PySem.Spec PyProof.Rows L2
/-- what a model's net is, house by house -/
structure NormH (md n : NetD) : Prop where
  fine : n.fine = md.fine
  names : (n.houses.map (·.1)).Perm (md.houses.map (·.1))
  sn : sortedS (n.houses.map (·.1)) = true
  ent : n.entries.Perm md.entries
  se : sortedS n.entries = true
  at_ : ∀ p ∈ n.houses, p.1 ∈ md.houses.map (·.1) ∧ Made (getH md.houses p.1) p.2
theorem norm_h {md n : NetD} (f : md.Fit) (h : NormN md n) : NormH md n := by
  obtain ⟨hs, pr, nm⟩ := h
  have nr := norm_rules pr
  refine ⟨nm.fine, by rw [← nr]; exact nm.houses.map _, nm.sh, nm.entries, nm.se, fun p hp => ?_⟩
  have hp : p ∈ hs := nm.houses.mem_iff.mp hp
  obtain ⟨q, hq, e, m⟩ := paired_memR pr hp
  have : getH md.houses p.1 = q.2 := by rw [e]; exact getH_of f.hs.nd hq
  exact ⟨by rw [e]; exact List.mem_map.mpr ⟨q, hq, rfl⟩, by rw [this]; exact m⟩
theorem app_none (z : Str) : z ++ ("" : Str) = z := TL.ext_tl (by rw [TL.tl_append]; simp [TL.tl, show ("" : Str).cps.toList = [] from rfl])
theorem callS_made {m h : HouseD} {o : Str} (d : Made m h) : (o ++ (if o ∈ m.lost then ("*" : Str) else "")) = callS h o := by
  unfold callS
  by_cases c : o ∈ m.lost
  · rw [if_pos c, if_pos (d.lost.mem_iff.mpr c)]
  · rw [if_neg c, if_neg (fun z => c (d.lost.mem_iff.mp z)), app_none]
section
variable {P : Program} {w : World} {K : PySem.W.Frag} {mg : Str → Option Value} {base : Heap}
def sp_l_net_lines (K : PySem.W.Frag) : Sp := fun vs H Q _ => ∃ (S : Addr → Prop) (m : Addr) (md : ModelD) (n : NetD), vs = [.ref m] ∧ Dm S H ∧ ModelAt S H m md ∧ md.Fit ∧ NormN md.net n ∧ GoodN n ∧
  ∀ p H', Ext H H' → H p = none → H' p = some (.lst ((netW n).map fun ws => .str (lineS ws))) → Q (.ref p) H'
theorem sc_l_net_lines : FnScope ["_law_model_here", "_law_found", "_law_name", "_law_one", "_law_share_own", "_law_word", "_law_each", "_law_behind", "_law_tail", "_law_calls_own", "_law_other"] ["_law_model_here"] (defScope s_l_net_lines) := ⟨rfl, rfl, rfl, by decide +kernel, rfl, by decide +kernel, by decide +kernel⟩
theorem ok_l_net_lines (x : Fx K mg w) : FnR P w K mg base CX0 1 (a_l_net_lines K) (sp_l_net_lines K) := by
  refine okR x.F_l_net_lines sc_l_net_lines (fun _ _ _ _ _ _ us hl => match us, hl with | [_], _ => rfl) (fun vs H Q E h => by obtain ⟨S, m, md, n, rfl, dm, ma, f, nn, g, hQ⟩ := h; rfl) (fun cdv A outer s H vs Q E hr h => ?_)
  obtain ⟨S, m, md, n, rfl, dm, ma, f, nn, g, hQ⟩ := h
  refine ⟨_, (pss_cons (ps_set (i := 1) sc_l_net_lines.nd rfl (Or.inl rfl) (pe_lst (pa_cons (pe_op op_add_str pe_str (pe_callTy call_str_int rfl x.n_str bb_str (pa_cons (pe_dget (hu_of hr) (pv 0) pe_str (fun _ _ => rfl)) pa_nil))) pa_nil)))
 (pss_cons (ps_for PassesOwn.never rfl (pi_listK (K := K) rfl (pe_callB (call_sortedD rfl) rfl x.n_sorted bb_sorted (pa_cons (pe_dget (hu_of hr) (pv 0) pe_str (fun _ _ => rfl)) pa_nil))) (pg_name (i := 2) sc_l_net_lines.nd rfl (Or.inl rfl))
 (pss_cons (ps_set (i := 3) sc_l_net_lines.nd rfl (Or.inr rfl) (pe_dget (hu_of hr) (pe_dget (hu_of hr) (pv 0) pe_str (fun _ _ => rfl)) (pv 2) (fun _ _ => rfl)))
 (pss_cons (ps_expr (pe_bmK (K := K) rfl PySem.F.plainAttrs_list PySem.F.slot_list_append PySem.F.type_list_append mt_append (pv 1) (pa_cons (pe_op op_add_str (pe_op op_add_str pe_str (pv 2)) (pe_ifExp (pt_val (pe_dget (hu_of hr) (pv 3) pe_str (fun _ _ => rfl))) pe_str pe_str)) pa_nil)))
 (pss_cons (ps_for PassesOwn.never rfl (pi_listK (K := K) rfl (pe_dget (hu_of hr) (pv 3) pe_str (fun _ _ => rfl))) (pg_tupK (K := K) (n := 4) rfl rfl (pgs_cons (pg_name (i := 4) sc_l_net_lines.nd rfl (Or.inl rfl)) (pgs_cons (pg_name (i := 5) sc_l_net_lines.nd rfl (Or.inl rfl)) (pgs_cons (pg_name (i := 6) sc_l_net_lines.nd rfl (Or.inl rfl)) (pgs_cons (pg_name (i := 7) sc_l_net_lines.nd rfl (Or.inl rfl)) pgs_nil)))))
 (pss_cons (ps_set (i := 8) sc_l_net_lines.nd rfl (Or.inl rfl) (pe_op op_add_str (pe_ifExp (pt_val (pv 6)) pe_str pe_str) (pe_ifExp (pt_val (pv 7)) pe_str pe_str)))
 (pss_one (ps_expr (pe_bmK (K := K) rfl PySem.F.plainAttrs_list PySem.F.slot_list_append PySem.F.type_list_append mt_append (pv 1) (pa_cons (pe_op op_add_str (pe_op op_add_str (pe_op op_add_str (pe_op op_add_str pe_str (pe_callTy call_str_int rfl x.n_str bb_str (pa_cons (pv 4) pa_nil))) pe_str) (pv 5)) (pv 8)) pa_nil))))))
 (pss_one (ps_if (pt_cmpR (show OpR _ _ (rEqNil K true) from op_neNil hr) (pe_dget (hu_of hr) (pv 3) pe_str (fun _ _ => rfl)) (pe_lst pa_nil) (nomark _))
 (pss_cons (ps_setLc (i := 9) (own := [("_law_other", 10)]) (tt := tYes) rfl sc_l_net_lines.nd rfl rfl (sw_true rfl rfl rfl (by decide +kernel)) (pi_listK (K := K) rfl (pe_callB (r := rSortS K) call_sortS rfl x.n_sorted bb_sorted (pa_cons (pe_dget (hu_of hr) (pv 3) pe_str (fun _ _ => rfl)) pa_nil))) (blkOk_by (N := ["_law_model_here", "_law_found", "_law_name", "_law_one", "_law_share_own", "_law_word", "_law_each", "_law_behind", "_law_tail", "_law_calls_own", "_law_other"]) (sc := defScope s_l_net_lines) (by decide +kernel)) (fun _ _ _ _ _ => (pg_name (i := 10) sc_l_net_lines.nd rfl (Or.inl rfl))) (fun _ _ _ _ _ => pts_nil) (fun _ _ _ _ _ => (pe_op op_add_str (pv 10) (pe_ifExp (pt_cmpR (show OpR _ _ (rIn K false) from op_in_seq) (pv 10) (pe_dget (hu_of hr) (pv 3) pe_str (fun _ _ => rfl)) rfl) pe_str pe_str))))
 (pss_one (ps_expr (pe_bmK (K := K) rfl PySem.F.plainAttrs_list PySem.F.slot_list_append PySem.F.type_list_append mt_append (pv 1) (pa_cons (pe_op op_add_str pe_str (pe_joinK (K := K) rfl pe_str (pv 9))) pa_nil)))))
 pss_nil))))))
 (pss_one (ps_ret (pe_op op_cat (pv 1) (pe_lst (pa_cons (pe_op op_add_str pe_str (pe_joinK (K := K) rfl pe_str (pe_callB (r := rSortS K) call_sortS rfl x.n_sorted bb_sorted (pa_cons (pe_dget (hu_of hr) (pv 0) pe_str (fun _ _ => rfl)) pa_nil)))) pa_nil))))))), ?_⟩
  have nh := norm_h f.net nn
  obtain ⟨gf, g1, g2, g3⟩ := id g
  obtain ⟨ph, ps, pe, kvs, m1, m2, m3, m4, m5⟩ := id ma
  have h8 := gf.hs.l2
  have hel := gf.ln
  have f1 := gf.f1
  have f2 := gf.f2
  have lF : ("fine " : Str).length = 5 := rfl
  have l1 : (" " : Str).length = 1 := rfl
  have lH : ("house " : Str).length = 6 := rfl
  have lR : ("rule " : Str).length = 5 := rfl
  have lC : ("calls " : Str).length = 6 := rfl
  have lE : ("entries " : Str).length = 8 := rfl
  have l0 : ("" : Str).length = 0 := rfl
  have lfa : (" fails" : Str).length = 6 := rfl
  have ls : ("*" : Str).length = 1 := rfl
  have n4 := numS_len (by omega) f2
  have fl := law_fine (i := n.fine)
  simp only [numS] at n4 fl
  rw [nh.fine] at n4 fl f1 f2
  have nf : md.net.fine = md.fine := rfl
  rw [nf] at n4 fl f1 f2
  have l8m : md.houses.length ≤ 8 := f.net.hs.l2
  refine ⟨_, rfl, m, _, rfl, dget_str m1.1 mod_get.1, _, rfl, log_small (by omega) f2, _, _, rfl, rfl, sz (m := 1000) (by first | omega | (simp only [slen]; omega)), ?_⟩
  rw [fl]
  refine ⟨by simp [sizeLine_eq], fun l nl => ?_⟩
  have e1 : Ext H (upd H l (.lst [.str (lineS ["fine", toString md.fine])])) := ext_new nl
  have hl : (upd H l (.lst [.str (lineS ["fine", toString md.fine])])) l = some (.lst (((["fine", numS n.fine] : List Str) :: ((n.houses.take 0).map fun p => houseW p.1 p.2).flatten).map fun ws => .str (lineS ws))) := by
    rw [upd_same, nh.fine]
    rfl
  dsimp only [gName]
  generalize upd H l (.lst [.str (lineS ["fine", toString md.fine])]) = H1 at e1 hl
  refine ⟨_, rfl, m, _, rfl, dget_str (e1 _ _ m1.1) mod_get.2.1, ph, kvs, md.houses.map (·.1), rfl, .inl (e1 _ _ m2.1), m3.keys, by simp; omega, fun ys p py sy np => ?_⟩
  have ys_eq : ys = n.houses.map (·.1) := sorted_eq sy nh.sn (py.trans nh.names.symm)
  subst ys_eq
  have e2 : Ext H1 (upd H1 p (.lst ((n.houses.map (·.1)).map V.str))) := ext_new np
  have hp : (upd H1 p (.lst ((n.houses.map (·.1)).map V.str))) p = some (.lst ((n.houses.map (·.1)).map V.str)) := upd_same
  have npl : p ≠ l := fun z => by rw [z, hl] at np; cases np
  have hl2 := e2 _ _ hl
  generalize upd H1 p (.lst ((n.houses.map (·.1)).map V.str)) = H2 at e2 hp hl2
  have e02 := e1.trans e2
  have lns : ∀ i, (((["fine", numS n.fine] : List Str) :: ((n.houses.take i).map fun p => houseW p.1 p.2).flatten).length) ≤ 33 := fun i => by
    have b1 := flat_len (fun p : Str × HouseD => houseW p.1 p.2) 4 (l := n.houses.take i) fun p hp => houseW_len (g3 p (List.mem_of_mem_take hp)).1
    have b3 : (n.houses.take i).length ≤ n.houses.length := List.length_take_le' _ _
    rw [List.length_cons]
    omega
  refine ⟨p, rfl, ⟨_, .of hp⟩, for_std (S := one l) (std_list (.of hp) npl) (fun i σ' H' => Kp (one l) H2 H' ∧ H' l = some (.lst (((["fine", numS n.fine] : List Str) :: ((n.houses.take i).map fun p => houseW p.1 p.2).flatten).map fun ws => .str (lineS ws))) ∧ ∃ v2 v3 v4 v5 v6 v7 v8 v9, σ' = [some (.ref m), some (.ref l), v2, v3, v4, v5, v6, v7, v8, v9, none]) ⟨Kp.refl, hl2, none, none, none, none, none, none, none, none, rfl⟩ (fun i σ H h => h.1) (fun i y σ H3 hy ⟨u3, hl3, v2, v3, v4, v5, v6, v7, v8, v9, hσ⟩ => ?_) (fun σ H3 ⟨u3, hl3, v2, v3, v4, v5, v6, v7, v8, v9, hσ⟩ => ?_)⟩
  · subst hσ
    obtain ⟨pr, hpr, rfl⟩ : ∃ pr, n.houses[i]? = some pr ∧ y = .str pr.1 := by
      rw [List.map_map, List.getElem?_map] at hy
      cases q : n.houses[i]? with
      | none => rw [q] at hy; cases hy
      | some pr => rw [q] at hy; exact ⟨pr, rfl, (Option.some.inj hy).symm⟩
    have hm := List.mem_of_getElem? hpr
    obtain ⟨nmem, made⟩ : pr.1 ∈ md.houses.map (·.1) ∧ Made (getH md.houses pr.1) pr.2 := nh.at_ pr hm
    obtain ⟨a, hv, hda⟩ := m3.at_ _ nmem
    generalize hX : getH md.houses pr.1 = X at made hda
    obtain ⟨qr, qc, ql, os, q1, q2, q3, q4, q5⟩ := id hda
    obtain ⟨fp, sc, sl, rok⟩ := g3 pr hm
    have n6 := isName_len (gf.hs.nm pr hm)
    have eK : ∀ {H' : Hp} {b : Addr} {o : HO}, Kp (one l) H2 H' → H b = some o → H' b = some o := fun {H' b o} u hb => u.keep _ _ (e02 _ _ hb) (ne_of_none hb nl)
    dsimp only [gName]
    refine ⟨_, rfl, m, _, rfl, dget_str (eK u3 m1.1) mod_get.2.1, _, rfl, ph, _, rfl, dget_str (eK u3 m2.1) hv, ?_⟩
    dsimp only [gName]
    refine seq_cut (fun σ' H' => Kp (one l) H2 H' ∧ H' l = some (.lst ((((["fine", numS n.fine] : List Str) :: ((n.houses.take i).map fun p => houseW p.1 p.2).flatten) ++ [headW pr.1 pr.2]).map fun ws => .str (lineS ws))) ∧ σ' = [some (.ref m), some (.ref l), some (.str pr.1), some (.ref a), v4, v5, v6, v7, v8, v9, none]) ?_ fun tail => ?_
    · rintro σ' H4 ⟨u4, hl4, rfl⟩
      refine seq_cut (fun σ' H' => Kp (one l) H2 H' ∧ H' l = some (.lst ((((["fine", numS n.fine] : List Str) :: ((n.houses.take i).map fun p => houseW p.1 p.2).flatten) ++ (headW pr.1 pr.2 :: pr.2.rules.map ruleW)).map fun ws => .str (lineS ws))) ∧ ∃ v4 v5 v6 v7 v8, σ' = [some (.ref m), some (.ref l), some (.str pr.1), some (.ref a), v4, v5, v6, v7, v8, v9, none]) ?_ fun tail2 => ?_
      · rintro σ' H5 ⟨u5, hl5, w4, w5, w6, w7, w8, rfl⟩
        have nxt : ((n.houses.take (i + 1)).map fun p => houseW p.1 p.2).flatten = ((n.houses.take i).map fun p => houseW p.1 p.2).flatten ++ houseW pr.1 pr.2 := by
          rw [take_one hpr]
          simp
        refine ⟨_, rfl, a, _, rfl, dget_str (eK u5 q1.1) hd_get.2.1, by simp [sizeLine_eq], fun e ne => ⟨qc, e, _, rfl, rfl, .of (ext_new ne _ _ (eK u5 q4.1)), .of upd_same, _, rfl, ?_⟩⟩
        have e6 : Ext H5 (upd H5 e (.lst [])) := ext_new ne
        have u6 : Kp (one l) H2 (upd H5 e (.lst [])) := u5.trans (.ext e6)
        have hl6 := e6 _ _ hl5
        generalize upd H5 e (.lst []) = H6 at e6 u6 hl6
        have emp : X.calls = [] ↔ pr.2.calls = [] := by
          constructor
          · intro z
            have := made.calls
            rw [z] at this
            exact this.eq_nil
          · intro z
            have := made.calls
            rw [z] at this
            exact this.symm.eq_nil
        refine ifb (fun q => ?_) fun q => ?_
        · have nc : pr.2.calls ≠ [] := fun z => by rw [emp.mpr z] at q; simp at q
          have hw : houseW pr.1 pr.2 = (headW pr.1 pr.2 :: pr.2.rules.map ruleW) ++ [callsW pr.2] := by
            unfold houseW
            rw [if_neg nc]
          have lx : X.calls.length < 64 := by rw [← made.calls.length_eq]; exact fp.ln
          refine ⟨_, rfl, a, _, rfl, dget_str (eK u6 q1.1) hd_get.2.1, qc, X.calls, rfl, .inl (.of (eK u6 q4.1)), lx, fun cs c pc' sc' nc' => ?_⟩
          have cs_eq : cs = pr.2.calls := sorted_eq sc' sc (pc'.trans made.calls.symm)
          subst cs_eq
          have e7 : Ext H6 (upd H6 c (.lst (pr.2.calls.map V.str))) := ext_new nc'
          have hc7 : (upd H6 c (.lst (pr.2.calls.map V.str))) c = some (.lst (pr.2.calls.map V.str)) := upd_same
          have u7 : Kp (one l) H2 (upd H6 c (.lst (pr.2.calls.map V.str))) := u6.trans (.ext e7)
          have hl7 := e7 _ _ hl6
          generalize upd H6 c (.lst (pr.2.calls.map V.str)) = H7 at e7 hc7 u7 hl7
          refine ⟨c, rfl, ⟨_, .of hc7⟩, fun D hD => lc_map (std_list (.of hc7) fun z => z) hD (fun v => match v with | .str o => some (.str (callS pr.2 o)) | _ => none) (by have := fp.ln; simp; omega) (fun y H8 Nx hy e8 k1 k2 => ?_) (fun H8 e8 hD8 => ?_)⟩
          · obtain ⟨o, ho, rfl⟩ := List.mem_map.mp hy
            have lo := isName_len (fp.nm o ho)
            have u8 := u7.trans (.ext e8)
            have cm := callS_made (o := o) made
            refine ⟨rfl, _, rfl, _, rfl, _, rfl, a, _, rfl, dget_str (eK u8 q1.1) hd_get.2.2.1, ql, _, rfl, .inl (.of (eK u8 q5.1)), rfl, flat_strs _, _, rfl, ifb (fun mm => ?_) fun mm => ?_⟩
            · rw [if_neg (by decide), inV_str] at mm
              rw [if_pos (of_decide_eq_true mm)] at cm
              exact ⟨_, _, rfl, rfl, sz (m := 1000) (by first | omega | (simp only [slen]; omega)), k1 _ _ Ext.rfl' (by rw [cm])⟩
            · rw [if_neg (by decide), inV_str] at mm
              rw [if_neg (of_decide_eq_false mm)] at cm
              exact ⟨_, _, rfl, rfl, sz (m := 1000) (by first | omega | (simp only [slen]; omega)), k1 _ _ Ext.rfl' (by rw [cm])⟩
          · dsimp only [gName]
            have row : (pr.2.calls.map V.str).filterMap (fun v => match v with | .str o => some (V.str (callS pr.2 o)) | _ => none) = (pr.2.calls.map (callS pr.2)).map V.str := by
              rw [List.filterMap_map, List.map_map]
              simp [Function.comp_def]
            rw [row] at hD8
            have hl8 := e8 _ _ hl7
            have lb : ∀ y ∈ pr.2.calls.map (callS pr.2), y.length ≤ 7 := fun y hy => by
              obtain ⟨o, ho, rfl⟩ := List.mem_map.mp hy
              exact callS_len (fp.nm o ho)
            have sm := sum_lens lb
            have ln := fp.ln
            have cl := law_calls (w := "calls") (ws := pr.2.calls.map (callS pr.2)) (by simpa using nc) (w' := "calls ") tl_calls
            have jl : (lineS (pr.2.calls.map (callS pr.2))).length ≤ 600 := by
              rw [TL.len_tl, tl_line]
              have h1 := joinL_len 32 ((pr.2.calls.map (callS pr.2)).map TL.tl)
              have h3 : ((pr.2.calls.map (callS pr.2)).map TL.tl).map (·.length) = (pr.2.calls.map (callS pr.2)).map (·.length) := by
                rw [List.map_map]
                exact List.map_congr_left fun w _ => (TL.len_tl w).symm
              rw [h3, List.length_map] at h1
              rw [List.length_map] at sm h1
              omega
            rw [List.length_map] at sm
            refine ⟨_, rfl, .inl ⟨rfl, _, .of hl8⟩, ⟨_, rfl⟩, _, rfl, " ", D, _, rfl, rfl, .inl (.of hD8), ?_, _, _, rfl, rfl, ?_, ?_⟩
            · rw [List.length_map, l1]
              omega
            · have : ("calls " ++ Txt.join " " (pr.2.calls.map (callS pr.2))).length ≤ 1000 := by rw [slen, lC]; unfold lineS at jl; omega
              rw [slen] at this
              exact Nat.le_trans this (Nat.le_of_lt line1001)
            · unfold lineS at cl
              rw [cl]
              refine ⟨l, _, _, rfl, rfl, hl8, ?_, ?_⟩
              · have := lns i
                have := line1001
                have r2 := fp.r2
                simp only [List.length_map, List.length_append, List.length_cons] at *
                omega
              · refine ⟨(u7.trans (.ext e8)).put rfl, ?_, _, _, _, _, _, _, _, _, rfl⟩
                rw [upd_same, nxt, hw]
                simp [lineS, callsW]
        · have nc : pr.2.calls = [] := emp.mp (by simpa using q)
          have hw : houseW pr.1 pr.2 = headW pr.1 pr.2 :: pr.2.rules.map ruleW := by
            unfold houseW
            rw [if_pos nc, List.append_nil]
          refine ⟨u6, ?_, _, _, _, _, _, _, _, _, rfl⟩
          rw [hl6, nxt, hw]
          simp
      · have nql : qr ≠ l := ne_of_none q2.1 nl
        have nla : ∀ {b : Addr} {o : HO}, H b = some o → b ≠ l := fun hb => ne_of_none hb nl
        refine ⟨_, rfl, a, _, rfl, dget_str (eK u4 q1.1) hd_get.1, qr, rfl, ⟨_, .of (eK u4 q2.1)⟩, for_std (S := one l) (std_list (.of (eK u4 q2.1)) nql) (fun j σ' H' => Kp (one l) H4 H' ∧ H' l = some (.lst ((((["fine", numS n.fine] : List Str) :: ((n.houses.take i).map fun p => houseW p.1 p.2).flatten) ++ (headW pr.1 pr.2 :: (pr.2.rules.take j).map ruleW)).map fun ws => .str (lineS ws))) ∧ ∃ v4 v5 v6 v7 v8, σ' = [some (.ref m), some (.ref l), some (.str pr.1), some (.ref a), v4, v5, v6, v7, v8, v9, none])
          ⟨Kp.refl, by simpa using hl4, v4, v5, v6, v7, v8, rfl⟩ (fun i σ H h => h.1) (fun j y σ H5 hy ⟨u5, hl5, w4, w5, w6, w7, w8, hσ⟩ => ?_) (fun σ H5 ⟨u5, hl5, w4, w5, w6, w7, w8, hσ⟩ => tail2 _ _ ⟨u4.trans u5, ?_, w4, w5, w6, w7, w8, hσ⟩)⟩
        · subst hσ
          obtain ⟨o, ho, rfl⟩ : ∃ o, os[j]? = some o ∧ y = .ref o := by
            rw [List.getElem?_map] at hy
            cases q : os[j]? with
            | none => rw [q] at hy; cases hy
            | some o => rw [q] at hy; exact ⟨o, rfl, (Option.some.inj hy).symm⟩
          obtain ⟨r, hr1, hr2⟩ := paired_at q3 ho
          have hr1' : pr.2.rules[j]? = some r := by rw [made.rules]; exact hr1
          have u25 := u4.trans u5
          obtain ⟨b1, b2, b3⟩ := rok r (List.mem_of_getElem? hr1')
          have n4r := numS_len b1 b2
          have n6r := isName_len b3
          have na : (alwS r.always).length ≤ 7 := by cases r.always <;> decide
          have nb : (latS r.late).length ≤ 5 := by cases r.late <;> decide
          have lw := law_rule (r := r)
          simp only [numS] at n4r lw
          refine ⟨o, _, rfl, SqT.of (eK u25 hr2.1), rfl, _, _, rfl, _, _, rfl, _, _, rfl, _, _, rfl, rfl, ?_⟩
          dsimp only [gName]
          refine seq_cut (fun σ' H' => H' = H5 ∧ σ' = [some (.ref m), some (.ref l), some (.str pr.1), some (.ref a), some (.int r.share), some (.str r.mark), some (.bl r.always), some (.bl r.late), some (.str (alwS r.always ++ latS r.late)), v9, none]) ?_ fun tail3 => ?_
          · rintro σ' H6 ⟨rfl, rfl⟩
            refine ⟨_, rfl, .inl ⟨rfl, _, .of hl5⟩, _, rfl, _, rfl, log_small b1 b2, _, _, rfl, rfl, sz (m := 1000) (by first | omega | (simp only [slen]; omega)), _, _, rfl, rfl, sz (m := 1000) (by first | omega | (simp only [slen]; omega)), _, rfl, _, _, rfl, rfl, sz (m := 1000) (by first | omega | (simp only [slen]; omega)), _, rfl, _, _, rfl, rfl, sz (m := 1000) (by first | omega | (simp only [slen]; omega)), ?_⟩
            rw [lw]
            refine ⟨l, _, _, rfl, rfl, hl5, ?_, ?_⟩
            · have := lns i
              have := line1001
              have r2 := fp.r2
              simp only [List.length_map, List.length_append, List.length_cons, List.length_take] at *
              omega
            · refine ⟨u5.put rfl, ?_, _, _, _, _, _, rfl⟩
              rw [upd_same, List.take_add_one, hr1']
              simp
          · refine ⟨_, rfl, _, rfl, ifb (fun qa => ?_) fun qa => ?_⟩
            · refine ⟨_, rfl, _, rfl, ifb (fun ql => ?_) fun ql => ?_⟩
              · exact ⟨_, _, rfl, rfl, by decide, tail3 _ _ ⟨rfl, by rw [alwS, latS, qa, ql]; rfl⟩⟩
              · exact ⟨_, _, rfl, rfl, by decide, tail3 _ _ ⟨rfl, by rw [alwS, latS, qa, ql]; rfl⟩⟩
            · refine ⟨_, rfl, _, rfl, ifb (fun ql => ?_) fun ql => ?_⟩
              · exact ⟨_, _, rfl, rfl, by decide, tail3 _ _ ⟨rfl, by rw [alwS, latS, qa, ql]; rfl⟩⟩
              · exact ⟨_, _, rfl, rfl, by decide, tail3 _ _ ⟨rfl, by rw [alwS, latS, qa, ql]; rfl⟩⟩
        · rw [hl5]
          have e1 : (os.map V.ref).length = pr.2.rules.length := by rw [List.length_map, made.rules]; exact Paired.length q3
          rw [e1, List.take_length]
    · have lh := law_head (z := pr.1) (h := pr.2)
      rw [made.fails] at lh
      have big : ∀ zs : List (List Str), zs.length ≤ 33 → (zs.map fun ws => V.str (lineS ws)).length < sizeLine := fun zs h => by
        have := line1001
        rw [List.length_map]
        omega
      refine ⟨_, rfl, .inl ⟨rfl, _, .of hl3⟩, _, rfl, _, _, rfl, rfl, sz (m := 1000) (by first | omega | (simp only [slen]; omega)), _, rfl, a, _, rfl, dget_str (eK u3 q1.1) hd_get.2.2.2, _, rfl, ifb (fun q => ?_) fun q => ?_⟩
      · refine ⟨_, _, rfl, rfl, sz (m := 1000) (by first | omega | (simp only [slen]; omega)), l, _, _, rfl, rfl, hl3, big _ (lns i), tail _ _ ⟨u3.put rfl, ?_, rfl⟩⟩
        rw [if_pos q] at lh
        rw [upd_same, lh]
        simp
      · refine ⟨_, _, rfl, rfl, sz (m := 1000) (by first | omega | (simp only [slen]; omega)), l, _, _, rfl, rfl, hl3, big _ (lns i), tail _ _ ⟨u3.put rfl, ?_, rfl⟩⟩
        rw [if_neg (by rw [q]; simp)] at lh
        rw [upd_same, lh]
        simp
  · subst hσ
    have tk : n.houses.take ((n.houses.map (·.1)).map V.str).length = n.houses := by
      rw [List.length_map, List.length_map, List.take_length]
    rw [tk] at hl3
    have eK : ∀ {b : Addr} {o : HO}, H b = some o → H3 b = some o := fun {b o} hb => u3.keep _ _ (e02 _ _ hb) (ne_of_none hb nl)
    have e03 : Ext H H3 := fun b o hb => eK hb
    have lx : md.entries.length < 64 := by have := f.net.ln; exact this
    refine ⟨_, rfl, ⟨_, rfl⟩, _, rfl, m, _, rfl, dget_str (eK m1.1) mod_get.2.2.2.2, pe, md.entries, rfl, .inl (.of (eK m5.1)), lx, fun es c pc' sc' nc' => ?_⟩
    have es_eq : es = n.entries := sorted_eq sc' nh.se (pc'.trans nh.ent.symm)
    subst es_eq
    have e4 : Ext H3 (upd H3 c (.lst (n.entries.map V.str))) := ext_new nc'
    have hc4 : (upd H3 c (.lst (n.entries.map V.str))) c = some (.lst (n.entries.map V.str)) := upd_same
    generalize upd H3 c (.lst (n.entries.map V.str)) = H4 at e4 hc4
    have lb : ∀ y ∈ n.entries, y.length ≤ 6 := fun y hy => isName_len (gf.nme y hy)
    have sm := sum_lens lb
    have cl := law_calls (w := "entries") (ws := n.entries) gf.e0 (w' := "entries ") tl_entries
    have jl : (lineS n.entries).length ≤ 600 := by
      rw [TL.len_tl, tl_line]
      have h1 := joinL_len 32 (n.entries.map TL.tl)
      have h3 : (n.entries.map TL.tl).map (·.length) = n.entries.map (·.length) := by
        rw [List.map_map]
        exact List.map_congr_left fun w _ => (TL.len_tl w).symm
      rw [h3, List.length_map] at h1
      omega
    refine ⟨" ", c, _, rfl, rfl, .inl (.of hc4), ?_, _, _, rfl, rfl, ?_, ?_⟩
    · rw [l1]
      omega
    · have : ("entries " ++ Txt.join " " n.entries).length ≤ 1000 := by rw [slen, lE]; unfold lineS at jl; omega
      rw [slen] at this
      exact Nat.le_trans this (Nat.le_of_lt line1001)
    · unfold lineS at cl
      rw [cl]
      refine ⟨by simp [sizeLine_eq], fun d nd => ?_⟩
      have e5 : Ext H4 (upd H4 d (.lst [.str (Txt.join " " ("entries" :: n.entries))])) := ext_new nd
      have hd5 : (upd H4 d (.lst [.str (Txt.join " " ("entries" :: n.entries))])) d = some (.lst [.str (Txt.join " " ("entries" :: n.entries))]) := upd_same
      generalize upd H4 d (.lst [.str (Txt.join " " ("entries" :: n.entries))]) = H5 at e5 hd5
      refine ⟨l, d, _, _, rfl, rfl, (e4.trans e5) _ _ hl3, hd5, ?_, fun z nz => ?_⟩
      · have := flat_len (fun p : Str × HouseD => houseW p.1 p.2) 4 (l := n.houses) fun p hp => houseW_len (g3 p hp).1
        refine sz (m := 200) ?_
        simp only [List.length_map, List.length_cons, List.length_append, List.length_nil]
        omega
      · have e05 := (e03.trans e4).trans e5
        refine hQ z _ (e05.trans (ext_new nz)) (ext_none e05 nz) ?_
        rw [upd_same]
        unfold netW
        rw [List.map_append]
        rfl
def sp_l_net_text (K : PySem.W.Frag) : Sp := fun vs H Q _ => ∃ (S : Addr → Prop) (m : Addr) (md : ModelD) (n : NetD), vs = [.ref m] ∧ Dm S H ∧ ModelAt S H m md ∧ md.Fit ∧ NormN md.net n ∧ GoodN n ∧ ∀ H', Ext H H' → Q (.str (netText n)) H'
theorem sc_l_net_text : FnScope ["_law_model_here"] ["_law_model_here"] (defScope s_l_net_text) := ⟨rfl, rfl, rfl, by decide +kernel, rfl, by decide +kernel, by decide +kernel⟩
theorem ok_l_net_text (x : Fx K mg w) : FnR P w K mg base CX0 2 (a_l_net_text K) (sp_l_net_text K) := by
  refine okR x.F_l_net_text sc_l_net_text (fun _ _ _ _ _ _ us hl => match us, hl with | [_], _ => rfl) (fun vs H Q E h => by obtain ⟨S, m, md, n, rfl, dm, ma, f, nn, g, hQ⟩ := h; rfl) (fun cdv A outer s H vs Q E hr h => ?_)
  obtain ⟨S, m, md, n, rfl, dm, ma, f, nn, g, hQ⟩ := h
  refine ⟨_, (pss_one (ps_ret (pe_op op_add_str (pe_joinK (K := K) rfl pe_str (pe_callR (ok_l_net_lines x) (hr.mono (by decide)) rfl x.m_l_net_lines (keep_of x.F_l_net_lines) pass0 (pa_cons (pv 0) pa_nil))) pe_str))), ?_⟩
  refine ⟨⟨_, rfl⟩, _, rfl, S, m, md, n, rfl, dm, ma, f, nn, g, fun p H1 e1 np hp => ⟨"\n", p, (netW n).map lineS, rfl, rfl, .inl (.of ?_), ?_, _, _, rfl, rfl, ?_, ?_⟩⟩
  · rw [hp, List.map_map]; rfl
  · have h := sum_lens (m := 726) (ys := (netW n).map lineS) fun y hy => by
      obtain ⟨ws, hw, rfl⟩ := List.mem_map.mp hy
      exact line_len (ln_net g ws hw)
    have := netW_len g
    rw [show ("\n" : Str).length = 1 from rfl]
    rw [List.length_map] at h ⊢
    omega
  · have := text_len g
    have e : Txt.join "\n" ((netW n).map lineS) ++ "\n" = netText n := by
      rw [text_law (by simp [netW]), List.map_map]
      rfl
    rw [← e, slen] at this
    rw [sizeLine_eq]
    omega
  · have e : Txt.join "\n" ((netW n).map lineS) ++ "\n" = netText n := by
      rw [text_law (by simp [netW]), List.map_map]
      rfl
    have := hQ H1 e1
    rwa [← e] at this
end
end Ws

set_option Elab.async false
set_option linter.all false
set_option maxRecDepth 100000
set_option maxHeartbeats 4000000
set_option pp.deepTerms false
set_option pp.maxSteps 400
namespace Ws
open PySem PySem.Spec PyProof.Rows L2
/-- what is told of a house -/
def toldH (p : Str × HouseD) : PyData := .list [.str p.1, .list (p.2.rules.map RuleD.dat), .tuple (p.2.calls.map .str), .tuple (p.2.lost.map .str), .bool p.2.fails]
def toldN (n : NetD) : PyData := .list ([.int n.fine, .tuple (n.entries.map .str), .tuple (n.names.map .str)] ++ n.houses.map toldH)
section
variable {S : Addr → Prop} {K : PySem.W.Frag} {H H1 : Hp} {a l : Addr}
def ToldAt (S : Addr → Prop) (H : Hp) (a : Addr) (p : Str × HouseD) : Prop := ∃ lr pc pl os, At S H a (.lst [.str p.1, .ref lr, .ref pc, .ref pl, .bl p.2.fails]) ∧ At S H lr (.lst (os.map V.ref)) ∧ TupsAt S H os p.2.rules ∧ At S H pc (.tup (p.2.calls.map V.str)) ∧ At S H pl (.tup (p.2.lost.map V.str))
theorem ToldAt.kp {p : Str × HouseD} (t : ToldAt S H a p) (e : Kp S H H1) : ToldAt S H1 a p := by
  obtain ⟨lr, pc, pl, os, h1, h2, h3, h4, h5⟩ := t
  exact ⟨lr, pc, pl, os, h1.kp e, h2.kp e, Paired.mapP h3 fun _ _ z => z.kp e, h4.kp e, h5.kp e⟩
theorem tups_dp : ∀ {os : List Addr} {rs : List RuleD}, TupsAt S H os rs → DpAll K H (os.map V.ref) (rs.map RuleD.dat)
  | _, _, .nil => .nil
  | _, _, .cons h t => .cons (rule_dp h.1) (tups_dp t)
theorem ToldAt.dp {p : Str × HouseD} (t : ToldAt S H a p) : Dp K H (.ref a) (toldH p) := by
  obtain ⟨lr, pc, pl, os, h1, h2, h3, h4, h5⟩ := t
  exact .lst (.of h1.1) (.cons (.str _) (.cons (.lst (.of h2.1) (tups_dp h3)) (.cons (.tup (SqT.of h4.1) (strs_dp _)) (.cons (.tup (SqT.of h5.1) (strs_dp _)) (.cons (.bl _) .nil)))))
theorem tolds_dp : ∀ {as : List Addr} {hs : Hs}, Paired (ToldAt S H) as hs → DpAll K H (as.map V.ref) (hs.map toldH)
  | _, _, .nil => .nil
  | _, _, .cons h t => .cons h.dp (tolds_dp t)
theorem told_dp {as : List Addr} {n : NetD} {pe pn : Addr} (hl : H l = some (.lst ([.int n.fine, .ref pe, .ref pn] ++ as.map V.ref))) (h1 : H pe = some (.tup (n.entries.map V.str))) (h2 : H pn = some (.tup (n.names.map V.str))) (h3 : Paired (ToldAt S H) as n.houses) :
    Dp K H (.ref l) (toldN n) := .lst (.of hl) (.cons (.int _) (.cons (.tup (SqT.of h1) (strs_dp _)) (.cons (.tup (SqT.of h2) (strs_dp _)) (tolds_dp h3))))
end
theorem ext_putn {H H' : Hp} {D : Addr} {o : HO} (e : Ext H H') (hD : H D = none) : Ext H (upd H' D o) := fun c u h => by
  rw [upd_ne (ne_of_none h hD)]
  exact e c u h
/-! ### its size -/
theorem bN {z : Str} (h : isName z = true) : okD (.str z) = true ∧ bD (.str z) ≤ 62 := by
  have hc := (isName_iff.mp h).2.2
  have small : ∀ c ∈ letters.cps.toList, c < 16 ^ 8 := by decide +kernel
  refine ⟨List.all_eq_true.mpr fun c hcm => decide_eq_true (small c (hc c hcm)), ?_⟩
  have := isName_len h
  show 10 * z.length + 2 ≤ 62
  omega
theorem bB (b : Bool) : okD (.bool b) = true ∧ bD (.bool b) ≤ 5 := ⟨rfl, Nat.le_refl 5⟩
theorem strs_bd : ∀ {zs : List Str}, (∀ z ∈ zs, isName z = true) → okDs (zs.map PyData.str) = true ∧ bDs (zs.map PyData.str) ≤ zs.length * 64
  | [], _ => ⟨rfl, by decide⟩
  | z :: zs, h => by
    obtain ⟨h1, h2⟩ := strs_bd fun y hy => h y (List.mem_cons_of_mem _ hy)
    obtain ⟨h3, h4⟩ := bN (h z List.mem_cons_self)
    refine ⟨?_, ?_⟩
    · show (okD (.str z) && okDs (zs.map PyData.str)) = true
      rw [h1, h3]; rfl
    · show bD (.str z) + 2 + bDs (zs.map PyData.str) ≤ (zs.length + 1) * 64
      omega
theorem rule_bd {r : RuleD} (h : r.ok) : okD r.dat = true ∧ bD r.dat ≤ 1200 := by
  obtain ⟨f1, f2⟩ := bB r.always
  obtain ⟨g1, g2⟩ := bB r.late
  obtain ⟨e1, e2⟩ := bN h.2.2
  have lg := Nat.log2_le_self r.share.natAbs
  have h1 := h.1
  have h2 := h.2.1
  refine ⟨?_, ?_⟩
  · show (okD (.int r.share) && (okD (.str r.mark) && (okD (.bool r.always) && (okD (.bool r.late) && true)))) = true
    rw [e1, f1, g1, show okD (.int r.share) = true from decide_eq_true (log_small h1 h2)]; rfl
  · show bD (.int r.share) + 2 + (bD (.str r.mark) + 2 + (bD (.bool r.always) + 2 + (bD (.bool r.late) + 2 + 0))) + 3 ≤ 1200
    have : bD (.int r.share) = r.share.natAbs.log2 + 3 := rfl
    omega
theorem rules_bd : ∀ {rs : List RuleD}, (∀ r ∈ rs, r.ok) → okDs (rs.map RuleD.dat) = true ∧ bDs (rs.map RuleD.dat) ≤ rs.length * 1202
  | [], _ => ⟨rfl, by decide⟩
  | z :: zs, h => by
    obtain ⟨h1, h2⟩ := rules_bd fun y hy => h y (List.mem_cons_of_mem _ hy)
    obtain ⟨h3, h4⟩ := rule_bd (h z List.mem_cons_self)
    refine ⟨?_, ?_⟩
    · show (okD z.dat && okDs (zs.map RuleD.dat)) = true
      rw [h1, h3]; rfl
    · show bD z.dat + 2 + bDs (zs.map RuleD.dat) ≤ (zs.length + 1) * 1202
      omega
theorem toldH_bd {p : Str × HouseD} (nz : isName p.1 = true) (f : p.2.Fit) (ok : ∀ r ∈ p.2.rules, r.ok) : okD (toldH p) = true ∧ bD (toldH p) ≤ 20000 := by
  obtain ⟨a1, a2⟩ := bN nz
  obtain ⟨b1, b2⟩ := rules_bd ok
  obtain ⟨c1, c2⟩ := strs_bd f.nm
  obtain ⟨d1, d2⟩ := strs_bd fun z hz => f.nm z (f.sub z hz)
  obtain ⟨e1, e2⟩ := bB p.2.fails
  have r2 := f.r2
  have ln := f.ln
  have lnl := f.lnl
  refine ⟨?_, ?_⟩
  · show (okD (.str p.1) && (okDs (p.2.rules.map RuleD.dat) && (okDs (p.2.calls.map PyData.str) && (okDs (p.2.lost.map PyData.str) && (okD (.bool p.2.fails) && true))))) = true
    rw [a1, b1, c1, d1, e1]; rfl
  · show bD (.str p.1) + 2 + (bDs (p.2.rules.map RuleD.dat) + 3 + 2 + (bDs (p.2.calls.map PyData.str) + 3 + 2 + (bDs (p.2.lost.map PyData.str) + 3 + 2 + (bD (.bool p.2.fails) + 2 + 0)))) + 3 ≤ 20000
    omega
theorem toldHs_bd : ∀ {hs : Hs}, (∀ p ∈ hs, isName p.1 = true ∧ p.2.Fit ∧ ∀ r ∈ p.2.rules, r.ok) → okDs (hs.map toldH) = true ∧ bDs (hs.map toldH) ≤ hs.length * 20002
  | [], _ => ⟨rfl, by decide⟩
  | z :: zs, h => by
    obtain ⟨h1, h2⟩ := toldHs_bd fun y hy => h y (List.mem_cons_of_mem _ hy)
    obtain ⟨i1, i2, i3⟩ := h z List.mem_cons_self
    obtain ⟨h3, h4⟩ := toldH_bd i1 i2 i3
    refine ⟨?_, ?_⟩
    · show (okD (toldH z) && okDs (zs.map toldH)) = true
      rw [h1, h3]; rfl
    · show bD (toldH z) + 2 + bDs (zs.map toldH) ≤ (zs.length + 1) * 20002
      omega
theorem rules_depth : ∀ rs : List RuleD, PyData.depthAll (rs.map RuleD.dat) ≤ 1
  | [] => Nat.zero_le _
  | r :: rs => by
    have := rules_depth rs
    simp only [List.map_cons, PyData.depthAll, RuleD.dat, PyData.depth]
    omega
theorem toldHs_depth : ∀ hs : Hs, PyData.depthAll (hs.map toldH) ≤ 10
  | [] => Nat.zero_le _
  | p :: hs => by
    have h1 := toldHs_depth hs
    have h2 := rules_depth p.2.rules
    simp only [List.map_cons, PyData.depthAll, toldH, PyData.depth, strs_depth]
    omega
theorem told_bd {n : NetD} (g : GoodN n) : okD (toldN n) = true ∧ bD (toldN n) ≤ sizeLine ∧ (toldN n).depth ≤ 60 := by
  obtain ⟨f, sh, se, hf⟩ := g
  have f1 := f.f1
  have f2 := f.f2
  obtain ⟨a1, a2⟩ := strs_bd (zs := n.entries) f.nme
  obtain ⟨b1, b2⟩ := strs_bd (zs := n.names) fun z hz => f.names hz
  obtain ⟨c1, c2⟩ := toldHs_bd (hs := n.houses) fun p hp => ⟨f.hs.nm p hp, (hf p hp).1, (hf p hp).2.2.2⟩
  have l8 := f.hs.l2
  have lnn : n.names.length = n.houses.length := by simp [NetD.names]
  have le := f.ln
  have lg := Nat.log2_le_self n.fine.natAbs
  refine ⟨?_, ?_, ?_⟩
  · show (okD (.int n.fine) && (okDs (n.entries.map PyData.str) && (okDs (n.names.map PyData.str) && okDs (n.houses.map toldH)))) = true
    rw [a1, b1, c1, show okD (.int n.fine) = true from decide_eq_true (log_small (by omega) f2)]; rfl
  · rw [sizeLine_eq]
    show bD (.int n.fine) + 2 + (bDs (n.entries.map PyData.str) + 3 + 2 + (bDs (n.names.map PyData.str) + 3 + 2 + bDs (n.houses.map toldH))) + 3 ≤ _
    have : bD (.int n.fine) = n.fine.natAbs.log2 + 3 := rfl
    omega
  · have := toldHs_depth n.houses
    simp only [toldN, PyData.depth, PyData.depthAll, List.cons_append, List.nil_append, strs_depth]
    omega
section
variable {P : Program} {w : World} {K : PySem.W.Frag} {mg : Str → Option Value} {base : Heap}
def sp_l_seen_net (K : PySem.W.Frag) : Sp := fun vs H Q _ => ∃ (S : Addr → Prop) (o : Addr) (n : NetD), vs = [.ref o] ∧ NetAt S K H o n ∧ ∀ l H', Ext H H' → Dp K H' (.ref l) (toldN n) → Q (.ref l) H'
theorem sc_l_seen_net : FnScope ["_law_web", "_law_found", "_law_name", "_law_one", "_law_rules_own", "_law_rule_here"] ["_law_web"] (defScope s_l_seen_net) := ⟨rfl, rfl, rfl, by decide +kernel, rfl, by decide +kernel, by decide +kernel⟩
theorem ok_l_seen_net (x : Fx K mg w) : FnR P w K mg base CX0 5 (a_l_seen_net K) (sp_l_seen_net K) := by
  refine okR x.F_l_seen_net sc_l_seen_net (fun _ _ _ _ _ _ us hl => match us, hl with | [_], _ => rfl) (fun vs H Q E h => by obtain ⟨S, o, n, rfl, t0, hQ⟩ := h; rfl) (fun cdv A outer s H vs Q E hr h => ?_)
  obtain ⟨S, o, n, rfl, t0, hQ⟩ := h
  refine ⟨_, (pss_cons (ps_set (i := 1) sc_l_seen_net.nd rfl (Or.inl rfl) (pe_lst (pa_cons (pe_propR (pv 0) x.cl_Net x.p_Net_fine (ok_Net_fine x) (hr.mono (by decide)) pass0) (pa_cons (pe_propR (pv 0) x.cl_Net x.p_Net_entries (ok_Net_entries x) (hr.mono (by decide)) pass0) (pa_cons (Ws.pe_methR0 (pv 0) x.cl_Net x.me_Net_names (ok_Net_names x) (hr.mono (by decide)) pass0) pa_nil)))))
 (pss_cons (ps_for PassesOwn.never rfl (pi_tupK (K := K) rfl (Ws.pe_methR0 (pv 0) x.cl_Net x.me_Net_names (ok_Net_names x) (hr.mono (by decide)) pass0)) (pg_name (i := 2) sc_l_seen_net.nd rfl (Or.inl rfl))
 (pss_cons (ps_set (i := 3) sc_l_seen_net.nd rfl (Or.inl rfl) (pe_getI x.sp_Net_getitem x.fi_Net_getitem x.fn_Net_getitem (ok_Net_getitem x) (hr.mono (by decide)) pass0 (pv 0) (pv 2)))
 (pss_cons (ps_setLc (i := 4) (own := [("_law_rule_here", 5)]) (tt := tYes) rfl sc_l_seen_net.nd rfl rfl (sw_true rfl rfl rfl (by decide +kernel)) (pi_tupK (K := K) rfl (pe_propR (pv 3) x.cl_House x.p_House_rules (ok_House_rules x) (hr.mono (by decide)) pass0)) (blkOk_by (N := ["_law_web", "_law_found", "_law_name", "_law_one", "_law_rules_own", "_law_rule_here"]) (sc := defScope s_l_seen_net) (by decide +kernel)) (fun _ _ _ _ _ => (pg_name (i := 5) sc_l_seen_net.nd rfl (Or.inl rfl))) (fun _ _ _ _ _ => pts_nil) (fun _ _ _ _ _ => (pe_tup (pa_cons (pe_propR (pv 5) x.cl_Rule x.p_Rule_share (ok_Rule_share x) (hr.mono (by decide)) pass0) (pa_cons (pe_propR (pv 5) x.cl_Rule x.p_Rule_mark (ok_Rule_mark x) (hr.mono (by decide)) pass0) (pa_cons (pe_propR (pv 5) x.cl_Rule x.p_Rule_always (ok_Rule_always x) (hr.mono (by decide)) pass0) (pa_cons (pe_propR (pv 5) x.cl_Rule x.p_Rule_late (ok_Rule_late x) (hr.mono (by decide)) pass0) pa_nil)))))))
 (pss_one (ps_expr (pe_bmK (K := K) rfl PySem.F.plainAttrs_list PySem.F.slot_list_append PySem.F.type_list_append mt_append (pv 1) (pa_cons (pe_lst (pa_cons (pv 2) (pa_cons (pv 4) (pa_cons (pe_propR (pv 3) x.cl_House x.p_House_calls (ok_House_calls x) (hr.mono (by decide)) pass0) (pa_cons (pe_propR (pv 3) x.cl_House x.p_House_lost (ok_House_lost x) (hr.mono (by decide)) pass0) (pa_cons (pe_propR (pv 3) x.cl_House x.p_House_fails (ok_House_fails x) (hr.mono (by decide)) pass0) pa_nil)))))) pa_nil)))))))
 (pss_one (ps_ret (pv 1))))), ?_⟩
  have g := t0.good
  have t := t0.free
  obtain ⟨f, s1, s2, dx, ph, pe, kvs, h1, h2, h3, h4⟩ := id t
  have h8 := f.hs.l2
  refine ⟨_, rfl, o, dx, _, rfl, h1.1, no, o, n, rfl, t, _, rfl, o, dx, _, rfl, h1.1, no, o, n, rfl, t, fun pe' hpe => ⟨_, rfl, o, dx, _, rfl, h1.1, rfl, no, o, n, rfl, t, fun pn npn => ?_⟩⟩
  have e1 : Ext H (upd H pn (.tup (n.names.map V.str))) := ext_new npn
  have hpn : (upd H pn (.tup (n.names.map V.str))) pn = some (.tup (n.names.map V.str)) := upd_same
  generalize upd H pn (.tup (n.names.map V.str)) = H1 at e1 hpn
  refine ⟨by simp [sizeLine_eq], fun l nl => ?_⟩
  have e2 : Ext H1 (upd H1 l (.lst [.int n.fine, .ref pe', .ref pn])) := ext_new nl
  have hl : (upd H1 l (.lst [.int n.fine, .ref pe', .ref pn])) l = some (.lst ([.int n.fine, .ref pe', .ref pn] ++ ([] : List Addr).map V.ref)) := upd_same
  have npl : pn ≠ l := ne_of_none hpn nl
  have hpn2 := e2 _ _ hpn
  dsimp only [gName]
  generalize upd H1 l (.lst [.int n.fine, .ref pe', .ref pn]) = H2 at e2 hl hpn2
  have e02 := e1.trans e2
  have nlH : H l = none := ext_none e1 nl
  have n1l : ∀ {b : Addr} {u : HO}, H b = some u → b ≠ l := fun hb => ne_of_none hb nlH
  refine ⟨_, rfl, o, dx, _, rfl, e02 _ _ h1.1, rfl, no, o, n, rfl, t.ext e02, fun p np => ?_⟩
  have e3 : Ext H2 (upd H2 p (.tup (n.names.map V.str))) := ext_new np
  have hp : (upd H2 p (.tup (n.names.map V.str))) p = some (.tup (n.names.map V.str)) := upd_same
  have ppl : p ≠ l := fun z => by rw [z, hl] at np; cases np
  have hl3 := e3 _ _ hl
  have hpn3 := e3 _ _ hpn2
  generalize upd H2 p (.tup (n.names.map V.str)) = H3 at e3 hp hl3 hpn3
  have e03 := e02.trans e3
  refine ⟨p, rfl, ⟨_, .of hp⟩, for_std (S := one l) (std_tup (.of hp) ppl) (fun i σ' H' => Kp (one l) H3 H' ∧ ∃ as, H' l = some (.lst ([.int n.fine, .ref pe', .ref pn] ++ as.map V.ref)) ∧ Paired (ToldAt (one l) H') as (n.houses.take i) ∧ ∃ v2 v3 v4, σ' = [some (.ref o), some (.ref l), v2, v3, v4, none]) ⟨Kp.refl, [], hl3, .nil, none, none, none, rfl⟩ (fun i σ H h => h.1) (fun i y σ H4 hy ⟨u4, as, hl4, ta, v2, v3, v4, hσ⟩ => ?_) (fun σ H4 ⟨u4, as, hl4, ta, v2, v3, v4, hσ⟩ => ?_)⟩
  · subst hσ
    obtain ⟨pr, hpr, rfl⟩ : ∃ pr, n.houses[i]? = some pr ∧ y = .str pr.1 := by
      rw [NetD.names, List.map_map, List.getElem?_map] at hy
      cases q : n.houses[i]? with
      | none => rw [q] at hy; cases hy
      | some pr => rw [q] at hy; exact ⟨pr, rfl, (Option.some.inj hy).symm⟩
    have hm := List.mem_of_getElem? hpr
    have hn : pr.1 ∈ n.names := List.mem_map.mpr ⟨pr, hm, rfl⟩
    have gh := getH_of f.hs.nd hm
    have eK : ∀ {H' : Hp} {b : Addr} {u : HO}, Kp (one l) H3 H' → H b = some u → H' b = some u := fun {H' b u} v hb => v.keep _ _ (e03 _ _ hb) (n1l hb)
    have e04 : Ext H H4 := fun b u hb => eK u4 hb
    have t4 := t.ext e04
    dsimp only [gName]
    refine ⟨_, rfl, _, rfl, o, dx, _, rfl, e04 _ _ h1.1, no, o, n, pr.1, rfl, t4, hn, fun a ha => ?_⟩
    rw [gh] at ha
    obtain ⟨fh, c1, c2, dh, qr, qc, ql, os, q1, q2, q3, q4, q5⟩ := id ha
    refine ⟨_, rfl, a, dh, _, rfl, q1.1, no, a, pr.2, rfl, ha, fun p' os' hp' hr' => ⟨p', rfl, ⟨_, .of hp'.1⟩, fun D hD => ?_⟩⟩
    refine lc_std (S := no) (H0 := H4) (std_tup (.of hp'.1) (fun z => z)) (fun j H' => Ext H4 H' ∧ ∃ ts, H' D = some (.lst (ts.map V.ref)) ∧ TupsAt (one D) H' ts (pr.2.rules.take j)) ⟨ext_new hD, [], upd_same, .nil⟩ (fun i H' h => .ext h.1) (fun j y H5 hy ⟨e5, ts, hD5, tt⟩ => ?_) (fun H5 ⟨e5, ts, hD5, tt⟩ => ?_)
    · obtain ⟨q, hq, rfl⟩ : ∃ q, os'[j]? = some q ∧ y = .ref q := by
        rw [List.getElem?_map] at hy
        cases qq : os'[j]? with
        | none => rw [qq] at hy; cases hy
        | some q => rw [qq] at hy; exact ⟨q, rfl, (Option.some.inj hy).symm⟩
      obtain ⟨r, hr1, hr2⟩ := paired_at hr' hq
      have r5 := hr2.ext e5
      obtain ⟨_, dr, pp, w1, w2⟩ := id r5
      refine ⟨rfl, _, rfl, q, dr, _, rfl, w1.1, q, r, rfl, r5, _, rfl, q, dr, _, rfl, w1.1, no, q, r, rfl, r5, _, rfl, q, dr, _, rfl, w1.1, no, q, r, rfl, r5, _, rfl, q, dr, _, rfl, w1.1, no, q, r, rfl, r5, by simp [sizeLine_eq], fun tp ntp => ?_⟩
      have e6 : Ext H5 (upd H5 tp (.tup [.int r.share, .str r.mark, .bl r.always, .bl r.late])) := ext_new ntp
      have hD6 := e6 _ _ hD5
      have ntD : tp ≠ D := fun z => by rw [z, hD5] at ntp; cases ntp
      have ht6 : At (one D) (upd H5 tp (.tup [.int r.share, .str r.mark, .bl r.always, .bl r.late])) tp (.tup r.vs) := ⟨upd_same, ntD⟩
      generalize upd H5 tp (.tup [.int r.share, .str r.mark, .bl r.always, .bl r.late]) = H6 at e6 hD6 ht6 ⊢
      have lt := Paired.length tt
      have l2 := fh.r2
      have uD : Kp (one D) H6 (upd H6 D (.lst (ts.map V.ref ++ [.ref tp]))) := Kp.refl.put rfl
      refine ⟨_, hD6, ?_, ext_putn (e5.trans e6) hD, ts ++ [tp], by rw [upd_same, List.map_append]; rfl, ?_⟩
      · have := line1001
        have := List.length_take_le' j pr.2.rules
        rw [List.length_map]
        omega
      · rw [take_one hr1]
        exact paired_app (Paired.mapP tt fun _ _ z => (z.ext e6).kp uD) (.cons (ht6.kp uD) .nil)
    · have lo := Paired.length hr'
      rw [List.length_map, lo, List.take_length] at tt
      have DnH : D ≠ l := ne_of_none hl4 hD |> Ne.symm
      have u5 : Kp (one l) H3 H5 := u4.trans (.ext e5)
      have e05 : Ext H H5 := fun b u hb => eK u5 hb
      have ha5 := ha.ext e5
      have tts : TupsAt (one l) H5 ts pr.2.rules := Paired.mapP tt fun b r z => ⟨z.1, fun q => by
        have q : b = l := q
        have w := z.1
        rw [q, e5 _ _ hl4] at w
        cases w⟩
      have hl5 := e5 _ _ hl4
      have ta5 : Paired (ToldAt (one l) H5) as (n.houses.take i) := Paired.mapP ta fun _ _ z => z.kp (.ext e5)
      dsimp only [gName]
      refine ⟨_, rfl, .inl ⟨rfl, _, .of hl5⟩, _, rfl, _, rfl, _, rfl, a, dh, _, rfl, e5 _ _ q1.1, no, a, pr.2, rfl, ha5, fun pc' hpc => ⟨_, rfl, a, dh, _, rfl, e5 _ _ q1.1, no, a, pr.2, rfl, ha5, fun pl' hpl => ⟨_, rfl, a, dh, _, rfl, e5 _ _ q1.1, no, a, pr.2, rfl, ha5, by simp [sizeLine_eq], fun b nb => ?_⟩⟩⟩
      have e6 : Ext H5 (upd H5 b (.lst [.str pr.1, .ref D, .ref pc', .ref pl', .bl pr.2.fails])) := ext_new nb
      have nbl : b ≠ l := fun z => by rw [z, hl5] at nb; cases nb
      have hb6 : At (one l) (upd H5 b (.lst [.str pr.1, .ref D, .ref pc', .ref pl', .bl pr.2.fails])) b (.lst [.str pr.1, .ref D, .ref pc', .ref pl', .bl pr.2.fails]) := ⟨upd_same, nbl⟩
      generalize upd H5 b (.lst [.str pr.1, .ref D, .ref pc', .ref pl', .bl pr.2.fails]) = H6 at e6 hb6
      have new : ToldAt (one l) H6 b pr := ⟨D, pc', pl', ts, hb6, ⟨e6 _ _ hD5, DnH⟩, Paired.mapP tts fun _ _ z => z.ext e6, ⟨e6 _ _ hpc.1, ne_of hpc.1 hl5 (by simp)⟩, ⟨e6 _ _ hpl.1, ne_of hpl.1 hl5 (by simp)⟩⟩
      have la := Paired.length ta
      have uL : Kp (one l) H6 (upd H6 l (.lst (([.int n.fine, .ref pe', .ref pn] ++ as.map V.ref) ++ [.ref b]))) := Kp.refl.put rfl
      refine ⟨l, _, _, rfl, rfl, e6 _ _ hl5, ?_, (u5.trans (.ext e6)).trans uL, as ++ [b], by rw [upd_same]; simp, ?_, _, _, _, rfl⟩
      · have := line1001
        have := List.length_take_le' i n.houses
        simp only [List.length_append, List.length_map, List.length_cons, List.length_nil]
        omega
      · rw [take_one hpr]
        exact paired_app (Paired.mapP ta5 fun _ _ z => (z.kp (.ext e6)).kp uL) (.cons (new.kp uL) .nil)
  · subst hσ
    have tk : n.houses.take (n.names.map V.str).length = n.houses := by
      rw [List.length_map, NetD.names, List.length_map, List.take_length]
    rw [tk] at ta
    have eK : ∀ {b : Addr} {u : HO}, H b = some u → H4 b = some u := fun {b u} hb => u4.keep _ _ (e03 _ _ hb) (n1l hb)
    exact ⟨_, rfl, hQ l H4 (fun b u hb => eK hb) (told_dp hl4 (eK hpe.1) (u4.keep _ _ hpn3 npl) ta)⟩
def sp_l_due_net (K : PySem.W.Frag) : Sp := fun vs H Q _ => ∃ (S : Addr → Prop) (m : Addr) (md : ModelD) (n : NetD), vs = [.ref m] ∧ Dm S H ∧ ModelAt S H m md ∧ md.Fit ∧ NormN md.net n ∧ GoodN n ∧ ∀ l H', Ext H H' → Dp K H' (.ref l) (toldN n) → Q (.ref l) H'
theorem sc_l_due_net : FnScope ["_law_model_here", "_law_found", "_law_name", "_law_one"] ["_law_model_here"] (defScope s_l_due_net) := ⟨rfl, rfl, rfl, by decide +kernel, rfl, by decide +kernel, by decide +kernel⟩
theorem ok_l_due_net (x : Fx K mg w) : FnR P w K mg base CX0 1 (a_l_due_net K) (sp_l_due_net K) := by
  refine okR x.F_l_due_net sc_l_due_net (fun _ _ _ _ _ _ us hl => match us, hl with | [_], _ => rfl) (fun vs H Q E h => by obtain ⟨S, m, md, n, rfl, dm, ma, ft, nn, g, hQ⟩ := h; rfl) (fun cdv A outer s H vs Q E hr h => ?_)
  obtain ⟨S, m, md, n, rfl, dm, ma, ft, nn, g, hQ⟩ := h
  refine ⟨_, (pss_cons (ps_set (i := 1) sc_l_due_net.nd rfl (Or.inl rfl) (pe_lst (pa_cons (pe_dget (hu_of hr) (pv 0) pe_str (fun _ _ => rfl)) (pa_cons (pe_callTy (r := rTupOf K) call_tupK rfl x.n_tuple bb_tuple (pa_cons (pe_callB (r := rSortS K) call_sortS rfl x.n_sorted bb_sorted (pa_cons (pe_dget (hu_of hr) (pv 0) pe_str (fun _ _ => rfl)) pa_nil)) pa_nil)) (pa_cons (pe_callTy (r := rTupOf K) call_tupK rfl x.n_tuple bb_tuple (pa_cons (pe_callB (call_sortedD rfl) rfl x.n_sorted bb_sorted (pa_cons (pe_dget (hu_of hr) (pv 0) pe_str (fun _ _ => rfl)) pa_nil)) pa_nil)) pa_nil)))))
 (pss_cons (ps_for PassesOwn.never rfl (pi_listK (K := K) rfl (pe_callB (call_sortedD rfl) rfl x.n_sorted bb_sorted (pa_cons (pe_dget (hu_of hr) (pv 0) pe_str (fun _ _ => rfl)) pa_nil))) (pg_name (i := 2) sc_l_due_net.nd rfl (Or.inl rfl))
 (pss_cons (ps_set (i := 3) sc_l_due_net.nd rfl (Or.inl rfl) (pe_dget (hu_of hr) (pe_dget (hu_of hr) (pv 0) pe_str (fun _ _ => rfl)) (pv 2) (fun _ _ => rfl)))
 (pss_one (ps_expr (pe_bmK (K := K) rfl PySem.F.plainAttrs_list PySem.F.slot_list_append PySem.F.type_list_append mt_append (pv 1) (pa_cons (pe_lst (pa_cons (pv 2) (pa_cons (pe_callTy (r := rLstOf K) call_lstK rfl x.n_list bb_list (pa_cons (pe_dget (hu_of hr) (pv 3) pe_str (fun _ _ => rfl)) pa_nil)) (pa_cons (pe_callTy (r := rTupOf K) call_tupK rfl x.n_tuple bb_tuple (pa_cons (pe_callB (r := rSortS K) call_sortS rfl x.n_sorted bb_sorted (pa_cons (pe_dget (hu_of hr) (pv 3) pe_str (fun _ _ => rfl)) pa_nil)) pa_nil)) (pa_cons (pe_callTy (r := rTupOf K) call_tupK rfl x.n_tuple bb_tuple (pa_cons (pe_callB (r := rSortS K) call_sortS rfl x.n_sorted bb_sorted (pa_cons (pe_dget (hu_of hr) (pv 3) pe_str (fun _ _ => rfl)) pa_nil)) pa_nil)) (pa_cons (pe_dget (hu_of hr) (pv 3) pe_str (fun _ _ => rfl)) pa_nil)))))) pa_nil))))))
 (pss_one (ps_ret (pv 1))))), ?_⟩
  have nh := norm_h ft.net nn
  obtain ⟨gf, g1, g2, g3⟩ := id g
  obtain ⟨ph, ps, pe, kvs, m1, m2, m3, m4, m5⟩ := id ma
  have h8 := gf.hs.l2
  have l8m : md.houses.length ≤ 8 := ft.net.hs.l2
  have lx : md.entries.length < 64 := by have := ft.net.ln; exact this
  refine ⟨_, rfl, m, _, rfl, dget_str m1.1 mod_get.1, _, rfl, m, _, rfl, dget_str m1.1 mod_get.2.2.2.2, pe, md.entries, rfl, .inl (.of m5.1), lx, fun es c pc' sc' nc' => ?_⟩
  have es_eq : es = n.entries := sorted_eq sc' nh.se (pc'.trans nh.ent.symm)
  subst es_eq
  have e1 : Ext H (upd H c (.lst (n.entries.map V.str))) := ext_new nc'
  have hc1 : (upd H c (.lst (n.entries.map V.str))) c = some (.lst (n.entries.map V.str)) := upd_same
  generalize upd H c (.lst (n.entries.map V.str)) = H1 at e1 hc1
  refine ⟨c, _, rfl, .inl ⟨.of hc1, fun te nte => ?_⟩⟩
  have e2 : Ext H1 (upd H1 te (.tup (n.entries.map V.str))) := ext_new nte
  have ht2 : (upd H1 te (.tup (n.entries.map V.str))) te = some (.tup (n.entries.map V.str)) := upd_same
  generalize upd H1 te (.tup (n.entries.map V.str)) = H2 at e2 ht2
  have e02 := e1.trans e2
  refine ⟨_, rfl, m, _, rfl, dget_str (e02 _ _ m1.1) mod_get.2.1, ph, kvs, md.houses.map (·.1), rfl, .inl (e02 _ _ m2.1), m3.keys, by simp; omega, fun ys p py sy np => ?_⟩
  have ys_eq : ys = n.houses.map (·.1) := sorted_eq sy nh.sn (py.trans nh.names.symm)
  subst ys_eq
  have e3 : Ext H2 (upd H2 p (.lst ((n.houses.map (·.1)).map V.str))) := ext_new np
  have hp3 : (upd H2 p (.lst ((n.houses.map (·.1)).map V.str))) p = some (.lst ((n.houses.map (·.1)).map V.str)) := upd_same
  generalize upd H2 p (.lst ((n.houses.map (·.1)).map V.str)) = H3 at e3 hp3
  refine ⟨p, _, rfl, .inl ⟨.of hp3, fun pn npn => ?_⟩⟩
  have e4 : Ext H3 (upd H3 pn (.tup ((n.houses.map (·.1)).map V.str))) := ext_new npn
  have hpn : (upd H3 pn (.tup ((n.houses.map (·.1)).map V.str))) pn = some (.tup (n.names.map V.str)) := upd_same
  generalize upd H3 pn (.tup ((n.houses.map (·.1)).map V.str)) = H4 at e4 hpn
  have e04 := e02.trans (e3.trans e4)
  have hte := (e3.trans e4) _ _ ht2
  refine ⟨by simp [sizeLine_eq], fun l nl => ?_⟩
  have e5 : Ext H4 (upd H4 l (.lst [.int md.fine, .ref te, .ref pn])) := ext_new nl
  have hl : (upd H4 l (.lst [.int md.fine, .ref te, .ref pn])) l = some (.lst ([.int n.fine, .ref te, .ref pn] ++ ([] : List Addr).map V.ref)) := by
    rw [upd_same, nh.fine]
    rfl
  have npl : pn ≠ l := ne_of_none hpn nl
  have ntl : te ≠ l := ne_of_none hte nl
  have hpn5 := e5 _ _ hpn
  have hte5 := e5 _ _ hte
  dsimp only [gName]
  generalize upd H4 l (.lst [.int md.fine, .ref te, .ref pn]) = H5 at e5 hl hpn5 hte5
  have e05 := e04.trans e5
  have nlH : H l = none := ext_none e04 nl
  have n1l : ∀ {b : Addr} {u : HO}, H b = some u → b ≠ l := fun hb => ne_of_none hb nlH
  refine ⟨_, rfl, m, _, rfl, dget_str (e05 _ _ m1.1) mod_get.2.1, ph, kvs, md.houses.map (·.1), rfl, .inl (e05 _ _ m2.1), m3.keys, by simp; omega, fun ys q qy sy nq => ?_⟩
  have ys_eq : ys = n.houses.map (·.1) := sorted_eq sy nh.sn (qy.trans nh.names.symm)
  subst ys_eq
  have e6 : Ext H5 (upd H5 q (.lst ((n.houses.map (·.1)).map V.str))) := ext_new nq
  have hq : (upd H5 q (.lst ((n.houses.map (·.1)).map V.str))) q = some (.lst ((n.houses.map (·.1)).map V.str)) := upd_same
  have nql : q ≠ l := fun z => by rw [z, hl] at nq; cases nq
  have hl6 := e6 _ _ hl
  have hpn6 := e6 _ _ hpn5
  have hte6 := e6 _ _ hte5
  generalize upd H5 q (.lst ((n.houses.map (·.1)).map V.str)) = H6 at e6 hq hl6 hpn6 hte6
  have e06 := e05.trans e6
  refine ⟨q, rfl, ⟨_, .of hq⟩, for_std (S := one l) (std_list (.of hq) nql) (fun i σ' H' => Kp (one l) H6 H' ∧ ∃ as, H' l = some (.lst ([.int n.fine, .ref te, .ref pn] ++ as.map V.ref)) ∧ Paired (ToldAt (one l) H') as (n.houses.take i) ∧ ∃ v2 v3, σ' = [some (.ref m), some (.ref l), v2, v3]) ⟨Kp.refl, [], hl6, .nil, none, none, rfl⟩ (fun i σ H h => h.1) (fun i y σ H7 hy ⟨u7, as, hl7, ta, v2, v3, hσ⟩ => ?_) (fun σ H7 ⟨u7, as, hl7, ta, v2, v3, hσ⟩ => ?_)⟩
  · subst hσ
    obtain ⟨pr, hpr, rfl⟩ : ∃ pr, n.houses[i]? = some pr ∧ y = .str pr.1 := by
      rw [List.map_map, List.getElem?_map] at hy
      cases q : n.houses[i]? with
      | none => rw [q] at hy; cases hy
      | some pr => rw [q] at hy; exact ⟨pr, rfl, (Option.some.inj hy).symm⟩
    have hm := List.mem_of_getElem? hpr
    obtain ⟨nmem, made⟩ : pr.1 ∈ md.houses.map (·.1) ∧ Made (getH md.houses pr.1) pr.2 := nh.at_ pr hm
    obtain ⟨a, hv, hda⟩ := m3.at_ _ nmem
    generalize hX : getH md.houses pr.1 = X at made hda
    obtain ⟨qr, qc, ql, os, q1, q2, q3, q4, q5⟩ := id hda
    obtain ⟨fp, sc, sl, rok⟩ := g3 pr hm
    have lxc : X.calls.length < 64 := by rw [← made.calls.length_eq]; exact fp.ln
    have lxl : X.lost.length < 64 := by rw [← made.lost.length_eq]; exact fp.lnl
    have eK : ∀ {b : Addr} {u : HO}, H b = some u → H7 b = some u := fun {b u} hb => u7.keep _ _ (e06 _ _ hb) (n1l hb)
    have e07 : Ext H H7 := fun b u hb => eK hb
    dsimp only [gName]
    refine ⟨_, rfl, m, _, rfl, dget_str (eK m1.1) mod_get.2.1, _, rfl, ph, _, rfl, dget_str (eK m2.1) hv, ?_⟩
    refine ⟨_, rfl, .inl ⟨rfl, _, .of hl7⟩, _, rfl, _, rfl, a, _, rfl, dget_str (eK q1.1) hd_get.1, qr, _, rfl, .inl (.of (eK q2.1)), fun D hD => ?_⟩
    have e8 : Ext H7 (upd H7 D (.lst (os.map V.ref))) := ext_new hD
    have hD8 : (upd H7 D (.lst (os.map V.ref))) D = some (.lst (os.map V.ref)) := upd_same
    have nDl : D ≠ l := fun z => by rw [z, hl7] at hD; cases hD
    generalize upd H7 D (.lst (os.map V.ref)) = H8 at e8 hD8
    have e08 := e07.trans e8
    refine ⟨_, rfl, a, _, rfl, dget_str (e08 _ _ q1.1) hd_get.2.1, qc, X.calls, rfl, .inl (.of (e08 _ _ q4.1)), lxc, fun cs c1 pc1 sc1 nc1 => ?_⟩
    have cs_eq : cs = pr.2.calls := sorted_eq sc1 sc (pc1.trans made.calls.symm)
    subst cs_eq
    have e9 : Ext H8 (upd H8 c1 (.lst (pr.2.calls.map V.str))) := ext_new nc1
    have hc9 : (upd H8 c1 (.lst (pr.2.calls.map V.str))) c1 = some (.lst (pr.2.calls.map V.str)) := upd_same
    generalize upd H8 c1 (.lst (pr.2.calls.map V.str)) = H9 at e9 hc9
    refine ⟨c1, _, rfl, .inl ⟨.of hc9, fun tc ntc => ?_⟩⟩
    have e10 : Ext H9 (upd H9 tc (.tup (pr.2.calls.map V.str))) := ext_new ntc
    have h10 : (upd H9 tc (.tup (pr.2.calls.map V.str))) tc = some (.tup (pr.2.calls.map V.str)) := upd_same
    generalize upd H9 tc (.tup (pr.2.calls.map V.str)) = H10 at e10 h10
    have e810 := e9.trans e10
    have e010 := e08.trans e810
    refine ⟨_, rfl, a, _, rfl, dget_str (e010 _ _ q1.1) hd_get.2.2.1, ql, X.lost, rfl, .inl (.of (e010 _ _ q5.1)), lxl, fun cs c2 pc2 sc2 nc2 => ?_⟩
    have cs_eq : cs = pr.2.lost := sorted_eq sc2 sl (pc2.trans made.lost.symm)
    subst cs_eq
    have e11 : Ext H10 (upd H10 c2 (.lst (pr.2.lost.map V.str))) := ext_new nc2
    have hc11 : (upd H10 c2 (.lst (pr.2.lost.map V.str))) c2 = some (.lst (pr.2.lost.map V.str)) := upd_same
    generalize upd H10 c2 (.lst (pr.2.lost.map V.str)) = H11 at e11 hc11
    refine ⟨c2, _, rfl, .inl ⟨.of hc11, fun tl ntl => ?_⟩⟩
    have e12 : Ext H11 (upd H11 tl (.tup (pr.2.lost.map V.str))) := ext_new ntl
    have h12 : (upd H11 tl (.tup (pr.2.lost.map V.str))) tl = some (.tup (pr.2.lost.map V.str)) := upd_same
    generalize upd H11 tl (.tup (pr.2.lost.map V.str)) = H12 at e12 h12
    have e1012 := e11.trans e12
    have e812 := e810.trans e1012
    have e712 := e8.trans e812
    have e012 := e010.trans e1012
    refine ⟨_, rfl, a, _, rfl, dget_str (e012 _ _ q1.1) hd_get.2.2.2, by simp [sizeLine_eq], fun b nb => ?_⟩
    have e13 : Ext H12 (upd H12 b (.lst [.str pr.1, .ref D, .ref tc, .ref tl, .bl X.fails])) := ext_new nb
    have hl12 := e712 _ _ hl7
    have nbl : b ≠ l := fun z => by rw [z, hl12] at nb; cases nb
    have hb13 : At (one l) (upd H12 b (.lst [.str pr.1, .ref D, .ref tc, .ref tl, .bl X.fails])) b (.lst [.str pr.1, .ref D, .ref tc, .ref tl, .bl pr.2.fails]) := ⟨by rw [upd_same, made.fails], nbl⟩
    generalize upd H12 b (.lst [.str pr.1, .ref D, .ref tc, .ref tl, .bl X.fails]) = H13 at e13 hb13
    have e713 := e712.trans e13
    have e1013 := e1012.trans e13
    have hl13 := e13 _ _ hl12
    have e013 := e012.trans e13
    have new : ToldAt (one l) H13 b pr := ⟨D, tc, tl, os, hb13, ⟨(e812.trans e13) _ _ hD8, nDl⟩, by rw [made.rules]; exact Paired.mapP q3 fun _ _ z => ⟨e013 _ _ z.1, n1l z.1⟩, ⟨e1013 _ _ h10, ne_of (e1013 _ _ h10) hl13 (by simp)⟩, ⟨e13 _ _ h12, ne_of h12 hl12 (by simp)⟩⟩
    have la := Paired.length ta
    have uL : Kp (one l) H13 (upd H13 l (.lst (([.int n.fine, .ref te, .ref pn] ++ as.map V.ref) ++ [.ref b]))) := Kp.refl.put rfl
    refine ⟨l, _, _, rfl, rfl, hl13, ?_, (u7.trans (.ext e713)).trans uL, as ++ [b], by rw [upd_same]; simp, ?_, _, _, rfl⟩
    · have := line1001
      have := List.length_take_le' i n.houses
      simp only [List.length_append, List.length_map, List.length_cons, List.length_nil]
      omega
    · rw [take_one hpr]
      exact paired_app (Paired.mapP ta fun _ _ z => (z.kp (.ext e713)).kp uL) (.cons (new.kp uL) .nil)
  · subst hσ
    have tk : n.houses.take ((n.houses.map (·.1)).map V.str).length = n.houses := by
      rw [List.length_map, List.length_map, List.take_length]
    rw [tk] at ta
    have eK : ∀ {b : Addr} {u : HO}, H b = some u → H7 b = some u := fun {b u} hb => u7.keep _ _ (e06 _ _ hb) (n1l hb)
    exact ⟨_, rfl, hQ l H7 (fun b u hb => eK hb) (told_dp hl7 (u7.keep _ _ hte6 ntl) (u7.keep _ _ hpn6 npl) ta)⟩
end
end Ws

set_option Elab.async false
set_option linter.all false
set_option maxRecDepth 100000
set_option maxHeartbeats 4000000
set_option pp.deepTerms false
set_option pp.maxSteps 400
namespace Ws
open PySem PySem.Spec PyProof.Rows L2
def RTag (r r' : RuleD) : Prop := r'.share = r.share ∧ r'.always = r.always ∧ r'.late = r.late ∧ isName r'.mark = true
def Tag (p q : Str × HouseD) : Prop := q.1 = p.1 ∧ q.2.calls = p.2.calls ∧ q.2.lost = p.2.lost ∧ q.2.fails = p.2.fails ∧ Paired RTag p.2.rules q.2.rules
theorem tag_names {a b : Hs} (h : Paired Tag a b) : b.map (·.1) = a.map (·.1) := by
  induction h with
  | nil => rfl
  | cons r t ih => rw [List.map_cons, List.map_cons, r.1, ih]
theorem tag_fit {md : ModelD} {hs : Hs} (f : md.Fit) (h : Paired Tag md.houses hs) : ModelD.Fit { md with houses := hs } := by
  have k := tag_names h
  have l := Paired.length h
  have fn := f.net
  have rk : ∀ q ∈ hs, ∃ p ∈ md.houses, Tag p q := fun q hq => by
    obtain ⟨p, hp, t⟩ := paired_memR h hq
    exact ⟨p, hp, t⟩
  refine ⟨⟨fn.f1, fn.f2, ⟨?_, ?_, fun q hq => ?_, ?_, fun q hq r hr => ?_, fun q hq z hz => ?_⟩, fn.e0, fn.nd, fun z hz => ?_, fn.ln⟩, fun q hq => ⟨?_, fun r hr => ?_⟩, f.so, f.sl, f.o1, f.o2⟩
  · show 1 ≤ hs.length
    rw [← l]; exact fn.hs.l1
  · show hs.length ≤ 8
    rw [← l]; exact fn.hs.l2
  · obtain ⟨p, hp, t⟩ := rk q hq
    rw [t.1]; exact fn.hs.nm p hp
  · show (hs.map (·.1)).Nodup
    rw [k]; exact fn.hs.nd
  · obtain ⟨p, hp, t⟩ := rk q hq
    obtain ⟨r0, hr0, e1, _⟩ := paired_memR t.2.2.2.2 hr
    rw [e1]; exact fn.hs.sh p hp r0 hr0
  · obtain ⟨p, hp, t⟩ := rk q hq
    rw [t.2.1] at hz
    show z ∈ hs.map (·.1)
    rw [k]; exact fn.hs.cl p hp z hz
  · show z ∈ hs.map (·.1)
    rw [k]; exact fn.sub z hz
  · obtain ⟨p, hp, t⟩ := rk q hq
    obtain ⟨r1, r2, nm, nd, ln, ndl, sub, lnl⟩ := (f.hs p hp).1
    have e := Paired.length t.2.2.2.2
    exact ⟨by rw [← e]; exact r1, by rw [← e]; exact r2, by rw [t.2.1]; exact nm, by rw [t.2.1]; exact nd, by rw [t.2.1]; exact ln, by rw [t.2.2.1]; exact ndl, by rw [t.2.1, t.2.2.1]; exact sub, by rw [t.2.2.1]; exact lnl⟩
  · obtain ⟨p, hp, t⟩ := rk q hq
    obtain ⟨r0, hr0, e1, e2, e3, e4⟩ := paired_memR t.2.2.2.2 hr
    obtain ⟨o1, o2, o3⟩ := (f.hs p hp).2 r0 hr0
    exact ⟨by rw [e1]; exact o1, by rw [e1]; exact o2, e4⟩
section
variable {P : Program} {w : World} {K : PySem.W.Frag} {mg : Str → Option Value} {base : Heap}
def sp_l_tagged : Sp := fun vs H Q _ => ∃ (S : Addr → Prop) (d wd c m : Addr) (n : Nat) (md : ModelD), vs = [.ref d, .ref m] ∧ Dm S H ∧ DrawAt S H d wd c n ∧ n + 100 ≤ big ∧ ModelAt S H m md ∧ md.Fit ∧
  ∀ m' md' H', Kp S H H' → DrawAt S H' d wd c (n + 20) → ModelAt S H' m' md' → md'.Fit → Q (.ref m') H'
theorem sc_l_tagged : FnScope ["_law_draw", "_law_model_here", "_law_found", "_law_name", "_law_one", "_law_rules_own", "_law_rule_here", "_law_word"] ["_law_draw", "_law_model_here"] (defScope s_l_tagged) := ⟨rfl, rfl, rfl, by decide +kernel, rfl, by decide +kernel, by decide +kernel⟩
theorem ok_l_tagged (x : Fx K mg w) : FnR P w K mg base CX0 4 (a_l_tagged K) sp_l_tagged := by
  refine okR x.F_l_tagged sc_l_tagged (fun _ _ _ _ _ _ us hl => match us, hl with | [_, _], _ => rfl) (fun vs H Q E h => by obtain ⟨S, d, wd, c, m, n, md, rfl, dm, da, hn, ma, f, hQ⟩ := h; rfl) (fun cdv A outer s H vs Q E hr h => ?_)
  obtain ⟨S, d, wd, c, m, n, md, rfl, dm, da, hn, ma, f, hQ⟩ := h
  refine ⟨_, (pss_cons (ps_set (i := 2) sc_l_tagged.nd rfl (Or.inl rfl) (pe_callTy call_dictD rfl x.n_dict bb_dict (pa_cons (pv 1) pa_nil)))
 (pss_cons (ps_dput (hu_of hr) (pv 2) pe_str pe_dnewK rfl)
 (pss_cons (ps_lock (ps_for PassesOwn.never rfl (pi_keys (pe_dget (hu_of hr) (pv 1) pe_str (fun _ _ => rfl))) (pg_name (i := 3) sc_l_tagged.nd rfl (Or.inl rfl))
 (pss_cons (ps_par (i := 4) (j := 5) rfl sc_l_tagged.nd rfl rfl (by decide) rfl rfl (pa_cons (pe_callTy call_dictD rfl x.n_dict bb_dict (pa_cons (pe_dget (hu_of hr) (pe_dget (hu_of hr) (pv 1) pe_str (fun _ _ => rfl)) (pv 3) (fun _ _ => rfl)) pa_nil)) (pa_cons (pe_lst pa_nil) pa_nil)) (by rfl))
 (pss_cons (ps_for PassesOwn.never rfl (pi_listK (K := K) rfl (pe_dget (hu_of hr) (pv 4) pe_str (fun _ _ => rfl))) (pg_name (i := 6) sc_l_tagged.nd rfl (Or.inl rfl))
 (pss_cons (ps_set (i := 7) sc_l_tagged.nd rfl (Or.inl rfl) (pe_callR (ok_l_pick x) (hr.mono (by decide)) rfl x.m_l_pick (keep_of x.F_l_pick) pass0 (pa_cons (pv 0) (pa_cons (pe_lst (pa_cons (pe_ix (r := rIxT K) ix_tup (pv 6) pe_int (fun _ _ => rfl)) (pa_cons (pe_ix (r := rIxT K) ix_tup (pv 6) pe_int (fun _ _ => rfl)) (pa_cons pe_str (pa_cons pe_str (pa_cons pe_str (pa_cons pe_str pa_nil))))))) pa_nil))))
 (pss_one (ps_expr (pe_bmK (K := K) rfl PySem.F.plainAttrs_list PySem.F.slot_list_append PySem.F.type_list_append mt_append (pv 5) (pa_cons (pe_tup (pa_cons (pe_ix (r := rIxT K) ix_tup (pv 6) pe_int (fun _ _ => rfl)) (pa_cons (pv 7) (pa_cons (pe_ix (r := rIxT K) ix_tup (pv 6) pe_int (fun _ _ => rfl)) (pa_cons (pe_ix (r := rIxT K) ix_tup (pv 6) pe_int (fun _ _ => rfl)) pa_nil))))) pa_nil))))))
 (pss_cons (ps_dput (hu_of hr) (pv 4) pe_str (pv 5) rfl)
 (pss_one (ps_dput (hu_of hr) (pe_dget (hu_of hr) (pv 2) pe_str (fun _ _ => rfl)) (pv 3) (pv 4) rfl)))))))
 (pss_one (ps_ret (pv 2)))))), ?_⟩
  have hb : n + 100 ≤ 1099511627776 := hn
  obtain ⟨ph, ps, pe, kvs, m1, m2, m3, m4, m5⟩ := id ma
  have l8 : md.houses.length ≤ 8 := f.net.hs.l2
  have lk := Paired.length m3
  refine ⟨_, rfl, m, _, rfl, .of m1.1, fun p0 np0 => ?_⟩
  dsimp only [gName]
  have e1 : Ext H (upd H p0 (.dK (modK md.fine ph ps md.odds pe))) := ext_new np0
  have h1 : (upd H p0 (.dK (modK md.fine ph ps md.odds pe))) p0 = some (.dK (modK md.fine ph ps md.odds pe)) := upd_same
  generalize upd H p0 (.dK (modK md.fine ph ps md.odds pe)) = H1 at e1 h1
  refine fun q nq => ?_
  have nqH : H q = none := ext_none e1 nq
  have e2 : Ext H1 (upd H1 q (.dK [])) := ext_new nq
  have hq2 : (upd H1 q (.dK [])) q = some (.dK []) := upd_same
  have h2 := e2 _ _ h1
  have p0q : p0 ≠ q := ne_of_none h1 nq
  generalize upd H1 q (.dK []) = H2 at e2 hq2 h2
  refine ⟨_, rfl, p0, _, rfl, dput_str h2 (by simp [modK]), ?_⟩
  rw [show putK (modK md.fine ph ps md.odds pe) (Sum.inr "houses") (.ref q) = modK md.fine q ps md.odds pe from rfl]
  have e3 : Ext H (upd H2 p0 (.dK (modK md.fine q ps md.odds pe))) := ext_putn (e1.trans e2) np0
  have h3 : (upd H2 p0 (.dK (modK md.fine q ps md.odds pe))) p0 = some (.dK (modK md.fine q ps md.odds pe)) := upd_same
  have hq3 : (upd H2 p0 (.dK (modK md.fine q ps md.odds pe))) q = some (.dK []) := by rw [upd_ne (Ne.symm p0q)]; exact hq2
  generalize upd H2 p0 (.dK (modK md.fine q ps md.odds pe)) = H3 at e3 h3 hq3
  have p3 := e3 _ _ m2.1
  have nq1 : ph ≠ q := ne_of_none m2.1 nqH
  have np1 : ph ≠ p0 := ne_of_none m2.1 np0
  have da3 := da.ext e3
  have dphS := m2.2
  have dph : d ≠ ph ∧ wd ≠ ph ∧ c ≠ ph := by
    obtain ⟨sd, sw, ws, cs, rest, turn, g1, g2, g3, _⟩ := id da
    exact ⟨fun z => m2.2 (z ▸ sd), fun z => m2.2 (z ▸ sw), ne_of g3.1 m2.1 (by simp)⟩
  refine ⟨ph, _, p3, True.intro, fun od => ?_⟩
  have lkd : Kp (one ph) H3 (upd H3 ph (.frz od (.dK kvs))) := Kp.refl.put rfl
  have pf : (upd H3 ph (.frz od (.dK kvs))) ph = some (.frz od (.dK kvs)) := upd_same
  have mf : (upd H3 ph (.frz od (.dK kvs))) m = some (.dK (modK md.fine ph ps md.odds pe)) := by
    rw [upd_ne (ne_of m1.1 m2.1 (by intro z; injection z with z; exact hds_ne_mod m3 z.symm))]
    exact e3 _ _ m1.1
  have m0f : (upd H3 ph (.frz od (.dK kvs))) p0 = some (.dK (modK md.fine q ps md.odds pe)) := by rw [upd_ne (Ne.symm np1)]; exact h3
  have qf : (upd H3 ph (.frz od (.dK kvs))) q = some (.dK []) := by rw [upd_ne (Ne.symm nq1)]; exact hq3
  have hdf : ∀ n ∈ md.houses.map (·.1), ∃ a, valV kvs (Sum.inr n) = some (.ref a) ∧ HdAt S (upd H3 ph (.frz od (.dK kvs))) a (getH md.houses n) := fun n hn => by
    obtain ⟨a, g1, g2⟩ := m3.at_ n hn
    exact ⟨a, g1, (g2.ext e3).lk p3 lkd (fun pr pc pl f z => by injection z with z; exact hds_ne_hd m3 z) (by simp) (by simp)⟩
  have dmf : Dm S (upd H3 ph (.frz od (.dK kvs))) := (dm.ext e3).kp lkd
  have daf : DrawAt S (upd H3 ph (.frz od (.dK kvs))) d wd c n := da3.kp lkd dph.1 dph.2.1 dph.2.2
  have back : ∀ {b : Addr} {u : HO}, H b = some u → b = ph ∨ (upd H3 ph (.frz od (.dK kvs))) b = some u := fun {b u} h => by
    by_cases z : b = ph
    · exact .inl z
    · exact .inr (by rw [upd_ne z]; exact e3 _ _ h)
  have domf : ∀ b, H b ≠ none → (upd H3 ph (.frz od (.dK kvs))) b ≠ none := fun b h => lkd.dom b (ext_dom e3 h)
  generalize upd H3 ph (.frz od (.dK kvs)) = Hf at pf mf m0f qf hdf dmf daf back domf
  have nqS : ¬ S q := fun z => dm q z nqH
  have nphS : ¬ more S q ph := fun z => z.elim m2.2 nq1
  refine ⟨_, rfl, m, _, rfl, dget_str mf mod_get.2.1, ph, od, rfl, .inl ⟨kvs, pf, for_std (S := more S q) (std_keys pf nphS) (fun i σ H' => Kp (more S q) Hf H' ∧ DrawAt S H' d wd c (n + 2 * i) ∧ ∃ nk hs, H' q = some (.dK nk) ∧ HdsAt S H' nk hs ∧ Paired Tag (md.houses.take i) hs ∧ ∃ v3 v4 v5 v6 v7, σ = [some (.ref d), some (.ref m), some (.ref p0), v3, v4, v5, v6, v7])
    ⟨Kp.refl, daf, [], [], qf, .nil, .nil, none, none, none, none, none, rfl⟩ (fun i σ H' h => h.1) (fun i y σ H4 hy ⟨u4, da4, nk, hs, hq4, hds4, tg, v3, v4, v5, v6, v7, hσ⟩ => ?_) (fun σ H4 ⟨u4, da4, nk, hs, hq4, hds4, tg, v3, v4, v5, v6, v7, hσ⟩ => ?_)⟩⟩
  · subst hσ
    obtain ⟨p, hp, rfl⟩ : ∃ p, md.houses[i]? = some p ∧ y = .str p.1 := by
      rw [List.getElem?_map] at hy
      cases q : kvs[i]? with
      | none => rw [q] at hy; cases hy
      | some kv =>
        rw [q] at hy
        obtain ⟨p, hp, e, _⟩ := paired_at m3 q
        refine ⟨p, hp, ?_⟩
        rw [← Option.some.inj hy]
        show kV kv.1 = V.str p.1
        rw [e]
        rfl
    have pm := List.mem_of_getElem? hp
    have hn' : p.1 ∈ md.houses.map (·.1) := List.mem_map.mpr ⟨p, pm, rfl⟩
    have eg : getH md.houses p.1 = p.2 := getH_of f.net.hs.nd pm
    obtain ⟨a, hv, ht⟩ := hdf p.1 hn'
    rw [eg] at ht
    have fp := (f.hs p pm).1
    have rok := (f.hs p pm).2
    have r2 := fp.r2
    have i8 : i < 8 := by have := (List.getElem?_eq_some_iff.mp hp).1; omega
    have dm4 : Dm S H4 := fun b hb => u4.dom b (dmf b hb)
    have kQ : ∀ {b : Addr} {u : HO}, At S Hf b u → u ≠ .dK [] → At S H4 b u := fun {b u} h nu => ⟨u4.keep _ _ h.1 fun z => z.elim h.2 (ne_of h.1 qf nu), h.2⟩
    have ht4 : HdAt S H4 a p.2 := by
      obtain ⟨qr, qc, ql, os, g1, g2, g3, g4, g5⟩ := ht
      exact ⟨qr, qc, ql, os, kQ g1 (by simp [hdK]), kQ g2 (by simp), Paired.mapP g3 fun _ _ z => kQ z (by simp), kQ g4 (by simp), kQ g5 (by simp)⟩
    obtain ⟨qr, qc, ql, os, g1, g2, g3, g4, g5⟩ := id ht4
    have pf4 := u4.keep _ _ pf nphS
    have mS : ¬ more S q m := fun z => z.elim m1.2 (ne_of_none m1.1 nqH)
    have mf4 := u4.keep _ _ mf mS
    have p0S : ¬ more S q p0 := fun z => z.elim (fun z => dm p0 z np0) p0q
    have m04 := u4.keep _ _ m0f p0S
    dsimp only [gName]
    refine ⟨_, rfl, m, _, rfl, dget_str mf4 mod_get.2.1, _, rfl, ph, _, rfl, dget_rd (.inr ⟨od, pf4⟩) hv, a, _, rfl, .of g1.1, fun b nb => ⟨by simp [sizeLine_eq], fun l nl => ⟨_, _, rfl, ?_⟩⟩⟩
    have e5 : Ext H4 (upd H4 b (.dK (hdK qr qc ql p.2.fails))) := ext_new nb
    have hb5 : (upd H4 b (.dK (hdK qr qc ql p.2.fails))) b = some (.dK (hdK qr qc ql p.2.fails)) := upd_same
    generalize upd H4 b (.dK (hdK qr qc ql p.2.fails)) = H5 at e5 hb5 nl ⊢
    have e6 : Ext H5 (upd H5 l (.lst [])) := ext_new nl
    have hl6 : (upd H5 l (.lst [])) l = some (.lst []) := upd_same
    have hb6 := e6 _ _ hb5
    have nbl : b ≠ l := ne_of_none hb5 nl
    generalize upd H5 l (.lst []) = H6 at e6 hl6 hb6
    have e46 := e5.trans e6
    have nl4 : H4 l = none := ext_none e5 nl
    have dm6 := dm4.ext e46
    have lS : ¬ S l := fun z => dm4 l z nl4
    have bS : ¬ S b := fun z => dm4 b z nb
    have g26 := g2.ext e46
    have nqr : qr ≠ l := ne_of_none g2.1 nl4
    have da6 := da4.ext e46
    have dl := da4.ne nl4
    have db := da4.ne nb
    refine ⟨_, rfl, b, _, rfl, dget_str hb6 hd_get.1, qr, rfl, ⟨_, .of g26.1⟩, for_std (S := more S l) (std_list (.of g26.1) fun z => z.elim g2.2 nqr) (fun j σ H' => Kp (more S l) H6 H' ∧ DrawAt S H' d wd c (n + 2 * i + j) ∧ ∃ os' rs', H' l = some (.lst (os'.map V.ref)) ∧ TupsAt S H' os' rs' ∧ Paired RTag (p.2.rules.take j) rs' ∧ ∃ v6 v7, σ = [some (.ref d), some (.ref m), some (.ref p0), some (.str p.1), some (.ref b), some (.ref l), v6, v7])
      ⟨Kp.refl, da6, [], [], hl6, .nil, .nil, v6, v7, rfl⟩ (fun j σ H' h => h.1) (fun j y σ H7 hy ⟨u7, da7, os', rs', hl7, ht7, tr, v6, v7, hσ⟩ => ?_) (fun σ H7 ⟨u7, da7, os', rs', hl7, ht7, tr, v6, v7, hσ⟩ => ?_)⟩
    · subst hσ
      obtain ⟨o, ho, rfl⟩ : ∃ o, os[j]? = some o ∧ y = .ref o := by
        rw [List.getElem?_map] at hy
        cases qq : os[j]? with
        | none => rw [qq] at hy; cases hy
        | some o => rw [qq] at hy; exact ⟨o, rfl, (Option.some.inj hy).symm⟩
      obtain ⟨r, hr1, hr2⟩ := paired_at g3 ho
      have hj : j < p.2.rules.length := (List.getElem?_eq_some_iff.mp hr1).1
      have rk := rok r (List.mem_of_getElem? hr1)
      have dm7 : Dm S H7 := fun x hx => u7.dom x (dm6 x hx)
      have o6 := hr2.ext e46
      have o7 : At S H7 o (.tup r.vs) := ⟨u7.keep _ _ o6.1 fun z => z.elim o6.2 (ne_of o6.1 hl6 (by simp)), o6.2⟩
      refine ⟨_, rfl, _, rfl, o, _, 1, _, rfl, rfl, SqT.of o7.1, atI_nat (j := 1) rfl, _, rfl, o, _, 1, _, rfl, rfl, SqT.of o7.1, atI_nat (j := 1) rfl, pick_new (E := E0) [.str r.mark, .str r.mark, .str "late", .str "always", .str "fails", .str "rule"] dm7 da7 (by show n + 2 * i + j ≤ 1099511627776; omega) (by simp) (by simp) fun y hy H8 u8 da8 => ?_⟩
      obtain ⟨wo, rfl, nwo⟩ : ∃ z : Str, y = .str z ∧ isName z = true := by
        simp only [List.mem_cons, List.not_mem_nil, or_false] at hy
        rcases hy with rfl | rfl | rfl | rfl | rfl | rfl
        · exact ⟨_, rfl, rk.2.2⟩
        · exact ⟨_, rfl, rk.2.2⟩
        · exact ⟨_, rfl, by decide +kernel⟩
        · exact ⟨_, rfl, by decide +kernel⟩
        · exact ⟨_, rfl, by decide +kernel⟩
        · exact ⟨_, rfl, by decide +kernel⟩
      have o8 := o7.kp u8
      have hl8 := u8.keep _ _ hl7 lS
      have dm8 := dm7.kp u8
      dsimp only [gName]
      refine ⟨_, rfl, .inl ⟨rfl, _, .of hl8⟩, _, rfl, o, _, 0, _, rfl, rfl, SqT.of o8.1, atI_nat (j := 0) rfl, _, rfl, _, rfl, o, _, 2, _, rfl, rfl, SqT.of o8.1, atI_nat (j := 2) rfl, _, rfl, o, _, 3, _, rfl, rfl, SqT.of o8.1, atI_nat (j := 3) rfl, by simp [sizeLine_eq], fun t nt => ?_⟩
      have e9 : Ext H8 (upd H8 t (.tup [.int r.share, .str wo, .bl r.always, .bl r.late])) := ext_new nt
      have ht9 : At S (upd H8 t (.tup [.int r.share, .str wo, .bl r.always, .bl r.late])) t (.tup (RuleD.mk r.share wo r.always r.late).vs) := ⟨upd_same, fun z => dm8 t z nt⟩
      have hl9 := e9 _ _ hl8
      generalize upd H8 t (.tup [.int r.share, .str wo, .bl r.always, .bl r.late]) = H9 at e9 ht9 hl9 ⊢
      have lo := Paired.length ht7
      have lt := Paired.length tr
      have uL : Kp (one l) H9 (upd H9 l (.lst (os'.map V.ref ++ [.ref t]))) := Kp.refl.put rfl
      have w9 : Kp (more S l) H6 H9 := (u7.trans (u8.mono fun _ z => .inl z)).trans (.ext e9)
      refine ⟨l, _, _, rfl, rfl, hl9, ?_, w9.trans (uL.mono fun _ z => .inr z), ((da8.ext e9).putn dl).more (by omega), os' ++ [t], rs' ++ [⟨r.share, wo, r.always, r.late⟩], by rw [upd_same]; simp, ?_, ?_, _, _, rfl⟩
      · have := line1001
        have := List.length_take_le' j p.2.rules
        rw [List.length_map]
        omega
      · exact paired_app (Paired.mapP ht7 fun _ _ z => ((z.kp u8).ext e9).off hl9 (by simp) uL) (.cons (ht9.off hl9 (by simp) uL) .nil)
      · rw [take_one hr1]
        exact paired_app tr (.cons ⟨rfl, rfl, rfl, nwo⟩ .nil)
    · subst hσ
      have lo := Paired.length g3
      rw [List.length_map, lo, List.take_length] at tr
      rw [List.length_map, lo] at da7
      have da7 := da7.more (show n + 2 * i + p.2.rules.length ≤ n + 2 * (i + 1) by omega)
      have kl : Kp S H4 H7 := ⟨fun x o h ns => u7.keep x o (e46 _ _ h) fun z => z.elim ns (ne_of_none h nl4), fun x h => u7.dom x (ext_dom e46 h)⟩
      have hb7 := u7.keep _ _ hb6 fun z => z.elim bS nbl
      refine ⟨_, rfl, _, rfl, b, _, rfl, dput_str hb7 (by simp [hdK]), ?_⟩
      rw [show putK (hdK qr qc ql p.2.fails) (Sum.inr "rules") (.ref l) = hdK l qc ql p.2.fails from rfl]
      have uB : Kp (one b) H7 (upd H7 b (.dK (hdK l qc ql p.2.fails))) := Kp.refl.put rfl
      have kb : Kp S H4 (upd H7 b (.dK (hdK l qc ql p.2.fails))) := kp_put_new kl nb
      have hb8 : At S (upd H7 b (.dK (hdK l qc ql p.2.fails))) b (.dK (hdK l qc ql p.2.fails)) := ⟨upd_same, bS⟩
      have hl8 : At S (upd H7 b (.dK (hdK l qc ql p.2.fails))) l (.lst (os'.map V.ref)) := ⟨by rw [upd_ne (Ne.symm nbl)]; exact hl7, lS⟩
      have ht8 : TupsAt S (upd H7 b (.dK (hdK l qc ql p.2.fails))) os' rs' := Paired.mapP ht7 fun _ _ z => z.off hb7 (by simp) uB
      have da8 : DrawAt S (upd H7 b (.dK (hdK l qc ql p.2.fails))) d wd c (n + 2 * (i + 1)) := da7.putn db
      generalize upd H7 b (.dK (hdK l qc ql p.2.fails)) = H8 at kb hb8 hl8 ht8 da8
      have u8 : Kp (more S q) Hf H8 := u4.trans (kb.mono fun _ z => .inl z)
      have m08 := u8.keep _ _ m0f p0S
      have hq8 := kb.keep _ _ hq4 nqS
      have hds8 := hds4.kp kb
      have new : HdAt S H8 b ⟨rs', p.2.calls, p.2.lost, p.2.fails⟩ := ⟨l, qc, ql, os', hb8, hl8, ht8, g4.kp kb, g5.kp kb⟩
      have lhs := Paired.length hds8
      have ltg := Paired.length tg
      have tgn := tag_names tg
      have nn : p.1 ∉ hs.map (·.1) := by
        rw [tgn, List.map_take]
        exact take_new f.net.hs.nd (by rw [List.getElem?_map, hp]; rfl)
      refine ⟨_, rfl, _, rfl, p0, _, rfl, dget_str m08 mod_get.2.1, _, rfl, q, _, rfl, dput_str hq8 (by have := List.length_take_le' i md.houses; omega), ?_⟩
      rw [putK_new _ (valV_none (by rw [hds8.keys]; intro z; obtain ⟨y, hy, e⟩ := List.mem_map.mp z; injection e with e; exact nn (e ▸ hy)))]
      have uQ : Kp (one q) H8 (upd H8 q (.dK (nk ++ [(Sum.inr p.1, .ref b)]))) := Kp.refl.put rfl
      have ndk : ∀ pr pc pl f, (HO.dK nk) ≠ .dK (hdK pr pc pl f) := fun pr pc pl f z => by injection z with z; exact hds_ne_hd hds8 z
      have dq := da.ne nqH
      refine ⟨u8.trans (uQ.mono fun _ z => .inr z), da8.putn dq, nk ++ [(Sum.inr p.1, .ref b)], hs ++ [(p.1, ⟨rs', p.2.calls, p.2.lost, p.2.fails⟩)], upd_same, paired_app (hdsat_lk hds8 hq8 uQ ndk (by simp) (by simp)) (.cons ⟨rfl, b, rfl, new.lk hq8 uQ ndk (by simp) (by simp)⟩ .nil), ?_, _, _, _, _, _, rfl⟩
      rw [take_one hp]
      exact paired_app tg (.cons ⟨rfl, rfl, rfl, rfl, tr⟩ .nil)
  · subst hσ
    have e : md.houses.take (kvs.map fun kv => kV kv.1).length = md.houses := List.take_of_length_le (by rw [List.length_map]; omega)
    rw [e] at tg
    rw [List.length_map] at da4
    have da4 := da4.more (show n + 2 * kvs.length ≤ n + 20 by omega)
    have pf4 := u4.keep _ _ pf nphS
    refine ⟨pf4, ?_⟩
    have uP : Kp (one ph) H4 (upd H4 ph (.dK kvs)) := Kp.refl.put rfl
    have p0S : ¬ more S q p0 := fun z => z.elim (fun z => dm p0 z np0) p0q
    have m04 := u4.keep _ _ m0f p0S
    have uH : Kp S H (upd H4 ph (.dK kvs)) := ⟨fun b u h ns => by
      by_cases z : b = ph
      · subst z
        rw [upd_same, ← h, m2.1]
      · rw [upd_ne z]
        exact u4.keep b u ((back h).resolve_left z) fun y => y.elim ns (ne_of_none h nqH), fun b h => uP.dom b (u4.dom b (domf b h))⟩
    refine ⟨_, rfl, hQ p0 { md with houses := hs } _ uH (da4.kp uP dph.1 dph.2.1 dph.2.2) ⟨q, ps, pe, nk, ⟨by rw [upd_ne (Ne.symm np1)]; exact m04, fun z => dm p0 z np0⟩, ⟨by rw [upd_ne (Ne.symm nq1)]; exact hq4, nqS⟩, hdsat_lk hds4 pf4 uP (by simp) (by simp) (by simp), m4.kp uH, m5.kp uH⟩ (tag_fit f tg)⟩
end
end Ws

set_option Elab.async false
set_option linter.all false
set_option maxRecDepth 100000
set_option maxHeartbeats 8000000
set_option pp.deepTerms false
set_option pp.maxSteps 250
namespace Ws
open PySem PySem.Spec PyProof.Rows L2
theorem okGx {P : Program} {w : World} {K : PySem.W.Frag} {mg : Str → Option Value} {base : Heap} {k : Nat} {f : Addr} {sp : Sp} {x qual : Str} {params : Arguments} {body : List Stmt} {scope : Scope} {kws : List (Str × V)} {N ps : List Str} (F : ∃ fd, FunD K x qual params body scope [] kws f fd) (S : FnScope N ps scope) (B : ArgsGo x qual params body scope ps)
    (len : ∀ vs H Q E, sp vs H Q E → vs.length = ps.length)
    (hbody : ∀ (cdv : Value) (A : Around) (outer : List Env) (s : Shared) (H : Hp) (vs : List V) (Q : VK) (E : XK), A.guards = some [] → Room k (A.deeper (envOfC qual scope s.heap.objs.size f cdv)) → sp vs H Q E →
      ∃ t, PSs (cxOf CX0 P w K mg base N qual scope f cdv A outer s H E).nox body t ∧ t { nx := fun _ H' => Q .non H', rt := Q } (start N vs) H) : FnRG P w K mg base CX0 (k + 1) f sp := by
  obtain ⟨fd, F⟩ := F
  refine FunD.okG F S (F.bindsN B) .nil (fun vs H Q E h => by rw [List.append_nil]; exact len vs H Q E h) fun cdv A outer s H vs Q E hg hr h => ?_
  obtain ⟨t, h1, h2⟩ := hbody cdv A outer s H vs Q E hg hr h
  exact ⟨t, h1.nox, by rw [List.append_nil]; exact h2⟩
theorem text_bd {n : NetD} (g : GoodN n) : okD (.str (netText n)) = true ∧ bD (.str (netText n)) ≤ sizeLine ∧ (PyData.str (netText n)).depth ≤ 60 := by
  refine ⟨List.all_eq_true.mpr fun c hc => decide_eq_true ?_, ?_, Nat.zero_le _⟩
  · have := text_ok g c hc
    omega
  · have := text_len g
    rw [sizeLine_eq]
    show 10 * (netText n).length + 2 ≤ _
    omega
section
variable {P : Program} {w : World} {K : PySem.W.Frag} {mg : Str → Option Value} {base : Heap}
theorem net_eqs {S T : Addr → Prop} {H : Hp} {p q : Addr} {n : NetD} {Q : VK} (t1 : NetAt S K H p n) (t2 : NetAt T K H q n) (k : ∀ H', Ext H H' → Q (.bl true) H') : rEqI K (c_Net K) (spEqb (NetR K)) E0 false (.ref p) (.ref q) H Q := by
  obtain ⟨_, _, _, dn, _, _, _, m1, _⟩ := id t1
  obtain ⟨_, _, _, dn', _, _, _, m2, _⟩ := id t2
  exact ⟨p, dn, _, q, _, dn', _, rfl, rfl, m1.1, m2.1, by simp [PySem.W.notFirst], p, q, true, rfl, ⟨n, n, t1.free, t2.free, (decide_eq_true rfl).symm⟩, fun H1 e1 => ⟨_, rfl, k H1 e1⟩⟩
def sp_law (K : PySem.W.Frag) : Sp := fun vs H Q _ => ∃ (a : Addr) (ns : List Int), vs = [.ref a] ∧ SqL K H a (ns.map V.int) ∧ ns.length ≤ 63 ∧ ∀ H', Q (.bl true) H'
theorem sc_law : FnScope ["_law_script", "_law_draw", "_law_turn", "_law_model_here", "_law_web", "_law_due", "_law_other"] ["_law_script"] (defScope s_law) := ⟨rfl, rfl, rfl, by decide +kernel, rfl, by decide +kernel, by decide +kernel⟩
theorem ok_law (x : Fx K mg w) : FnRG P w K mg base CX0 8 (a_law K) (sp_law K) := by
  refine okGx x.F_law sc_law (fun _ _ _ _ _ _ us hl => match us, hl with | [_], _ => rfl) (fun vs H Q E h => by obtain ⟨a, ns, rfl, hs, hl, hQ⟩ := h; rfl) (fun cdv A outer s H vs Q E gu hr h => ?_)
  obtain ⟨a, ns, rfl, hs, hl, hQ⟩ := h
  refine ⟨_, (pss_cons (ps_set (i := 1) sc_law.nd rfl (Or.inl rfl) (pe_callR (ok_l_begun x) (hr.mono (by decide)) rfl x.m_l_begun (keep_of x.F_l_begun) pass0 (pa_cons (pv 0) pa_nil)))
 (pss_cons (ps_for PassesOwn.never rfl (pi_range1 rfl x.n_range (pa_cons (pe_op op_add pe_int (pe_callB (call_min2 rfl) rfl x.n_min bb_min (pa_cons (pe_callB (r := rLenK K) call_lenK rfl x.n_len bb_len (pa_cons (pv 0) pa_nil)) (pa_cons pe_int pa_nil)))) pa_nil)) (pg_name (i := 2) sc_law.nd rfl (Or.inl rfl))
 (pss_cons (ps_set (i := 3) sc_law.nd rfl (Or.inl rfl) (pe_callR (ok_l_tagged x) (hr.mono (by decide)) rfl x.m_l_tagged (keep_of x.F_l_tagged) pass0 (pa_cons (pv 1) (pa_cons (pe_callR (ok_l_model x) (hr.mono (by decide)) rfl x.m_l_model (keep_of x.F_l_model) pass0 (pa_cons (pv 1) (pa_cons pe_int pa_nil))) pa_nil))))
 (pss_cons (ps_par (i := 4) (j := 5) rfl sc_law.nd rfl rfl (by decide) rfl rfl (pa_cons (pe_callR (ok_l_net x) (hr.mono (by decide)) rfl x.m_l_net (keep_of x.F_l_net) pass0 (pa_cons (pv 3) pa_nil)) (pa_cons (pe_callR (ok_l_net_text x) (hr.mono (by decide)) rfl x.m_l_net_text (keep_of x.F_l_net_text) pass0 (pa_cons (pv 3) pa_nil)) pa_nil)) (by rfl))
 (pss_cons (ps_if (PW.pt (pw_or (pt_cmpR op_ne (pe_callB (r := rRepr K) (call_reprD gu hr.units) rfl x.n_repr bb_repr (pa_cons (pe_callR (ok_net_text x) (hr.mono (by decide)) rfl x.m_net_text (keep_of x.F_net_text) pass0 (pa_cons (pv 4) pa_nil)) pa_nil)) (pe_callB (r := rRepr K) (call_reprD gu hr.units) rfl x.n_repr bb_repr (pa_cons (pv 5) pa_nil)) (nomark _)) (pw_or1 (pt_cmpR op_ne (pe_callB (r := rRepr K) (call_reprD gu hr.units) rfl x.n_repr bb_repr (pa_cons (pe_callKw0 (okk_net_text x) (hr.mono (by decide)) rfl x.m_net_text (keep_of x.F_net_text) pass0 (pk_cons (pv 4) pk_nil)) pa_nil)) (pe_callB (r := rRepr K) (call_reprD gu hr.units) rfl x.n_repr bb_repr (pa_cons (pv 5) pa_nil)) (nomark _)))))
 (pss_one (ps_ret pe_bl))
 pss_nil)
 (pss_one (ps_for PassesOwn.never rfl (pi_listK (K := K) rfl (pe_lst (pa_cons (pe_callR (ok_read_net x) (hr.mono (by decide)) rfl x.m_read_net (keep_of x.F_read_net) pass0 (pa_cons (pv 5) pa_nil)) (pa_cons (pe_callKw0 (okk_read_net x) (hr.mono (by decide)) rfl x.m_read_net (keep_of x.F_read_net) pass0 (pk_cons (pv 5) pk_nil)) pa_nil)))) (pg_name (i := 6) sc_law.nd rfl (Or.inl rfl))
 (pss_cons (ps_if (PW.pt (pw_or (pt_cmpR op_ne (pe_callB (r := rRepr K) (call_reprD gu hr.units) rfl x.n_repr bb_repr (pa_cons (pe_callR (ok_l_seen_net x) (hr.mono (by decide)) rfl x.m_l_seen_net (keep_of x.F_l_seen_net) pass0 (pa_cons (pv 6) pa_nil)) pa_nil)) (pe_callB (r := rRepr K) (call_reprD gu hr.units) rfl x.n_repr bb_repr (pa_cons (pe_callR (ok_l_due_net x) (hr.mono (by decide)) rfl x.m_l_due_net (keep_of x.F_l_due_net) pass0 (pa_cons (pv 3) pa_nil)) pa_nil)) (nomark _)) (pw_or1 (pt_cmpR op_ne (pe_callB (r := rRepr K) (call_reprD gu hr.units) rfl x.n_repr bb_repr (pa_cons (pe_callR (ok_net_text x) (hr.mono (by decide)) rfl x.m_net_text (keep_of x.F_net_text) pass0 (pa_cons (pv 6) pa_nil)) pa_nil)) (pe_callB (r := rRepr K) (call_reprD gu hr.units) rfl x.n_repr bb_repr (pa_cons (pv 5) pa_nil)) (nomark _)))))
 (pss_one (ps_ret pe_bl))
 pss_nil)
 (pss_one (ps_if (pt_not (pt_cmpR (show OpR _ _ (rEqI K _ _ _ false) from op_eqI x.sp_Net_eq x.fn_Net_eq (ok_Net_eq x) (hr.mono (by decide)) pass0) (pv 6) (pv 4) (nomark _)))
 (pss_one (ps_ret pe_bl))
 pss_nil)))))))))
 (pss_one (ps_ret pe_bl)))), ?_⟩
  refine ⟨_, rfl, a, ns, rfl, hs, hl, fun d wd c H1 e1 nd nwd da => ?_⟩
  have dm1 : Dm (two d wd) H1 := by
    obtain ⟨_, _, ws, cs, rest, turn, g1, g2, _⟩ := id da
    rintro b (rfl | rfl)
    · rw [g1]; exact fun z => nomatch z
    · rw [g2]; exact fun z => nomatch z
  obtain ⟨k, hk, k12⟩ : ∃ k : Nat, (4 : Int) + (if (16 : Int) < ((ns.map V.int).length : Nat) then (16 : Int) else (((ns.map V.int).length : Nat) : Int)) = (k : Nat) ∧ k ≤ 20 := by
    rw [List.length_map]
    by_cases z : (16 : Int) < (ns.length : Nat)
    · exact ⟨20, by rw [if_pos z]; rfl, by omega⟩
    · exact ⟨4 + ns.length, by rw [if_neg z]; omega, by omega⟩
  refine ⟨_, rfl, _, _, rfl, .inl ⟨_, sqL_ext hs e1, rfl⟩, _, _, rfl, _, _, rfl, rfl, (k : Int), congrArg (fun z => [V.int z]) hk, by omega, by omega, ?_⟩
  refine for_std (S := two d wd) (H0 := H1) std_range (fun i σ H' => Kp (two d wd) H1 H' ∧ DrawAt (two d wd) H' d wd c (400 * i) ∧ ∃ v2 v3 v4 v5 v6, σ = [some (.ref a), some (.ref d), v2, v3, v4, v5, v6])
    ⟨Kp.refl, da, none, none, none, none, none, rfl⟩ (fun i σ H' h => h.1) (fun i y σ H2 hy ⟨u2, da2, v2, v3, v4, v5, v6, hσ⟩ => ?_) (fun σ H2 ⟨u2, da2, v2, v3, v4, v5, v6, hσ⟩ => ?_)
  · subst hσ
    have hi : i < k := by
      have := (List.getElem?_eq_some_iff.mp hy).1
      simpa using this
    have dm2 : Dm (two d wd) H2 := fun a h => u2.dom a (dm1 a h)
    refine ⟨_, rfl, _, rfl, two d wd, d, wd, c, _, 8, rfl, dm2, da2, by show 400 * i + 400 ≤ 1099511627776; omega, by decide, by decide, fun m0 md0 H3 u3 da3 ma3 f0 _ _ => ?_⟩
    have dm3 := dm2.kp u3
    refine ⟨two d wd, d, wd, c, m0, _, md0, rfl, dm3, da3, by show 400 * i + 300 + 100 ≤ 1099511627776; omega, ma3, f0, fun m md H4 u4 da4 ma4 f => ?_⟩
    have dm4 := dm3.kp u4
    dsimp only [gName]
    refine ⟨_, rfl, two d wd, m, md, rfl, dm4, ma4, f, fun wb n H5 e5 nn tn => ?_⟩
    have g := tn.good
    obtain ⟨b1, b2, b3⟩ := text_bd g
    obtain ⟨c1, c2, c3⟩ := told_bd g
    refine ⟨_, rfl, two d wd, m, md, n, rfl, dm4.ext e5, ma4.ext e5, f, nn, g, fun H6 e6 => ⟨_, _, rfl, ?_⟩⟩
    have e46 := e5.trans e6
    have tn6 := tn.ext e6
    refine ⟨_, rfl, two d wd, wb, n, rfl, tn6, fun H7 e7 => ⟨_, .str (netText n), rfl, .str _, b1, b2, b3, _, rfl, _, .str (netText n), rfl, .str _, b1, b2, b3, rfl, _, rfl, ifF (by simp) ?_⟩⟩
    refine ⟨_, rfl, rfl, two d wd, wb, n, rfl, tn6.ext e7, fun H8 e8 => ⟨_, .str (netText n), rfl, .str _, b1, b2, b3, _, rfl, _, .str (netText n), rfl, .str _, b1, b2, b3, rfl, _, rfl, ifF (by simp) ?_⟩⟩
    have e48 := e46.trans (e7.trans e8)
    have tn8 := tn6.ext (e7.trans e8)
    refine ⟨_, rfl, n, rfl, g, fun r1 H9 e9 t1 => ⟨_, rfl, rfl, n, rfl, g, fun r2 H10 e10 t2 => ⟨by simp [sizeLine_eq], fun l nl => ?_⟩⟩⟩
    have e11 : Ext H10 (upd H10 l (.lst [.ref r1, .ref r2])) := ext_new nl
    have hl11 : (upd H10 l (.lst [.ref r1, .ref r2])) l = some (.lst [.ref r1, .ref r2]) := upd_same
    generalize upd H10 l (.lst [.ref r1, .ref r2]) = H11 at e11 hl11 ⊢
    have t1' := t1.ext (e10.trans e11)
    have t2' := t2.ext e11
    have e811 := e9.trans (e10.trans e11)
    have e411 := e48.trans e811
    have tn11 := tn8.ext e811
    refine ⟨l, rfl, ⟨_, .of hl11⟩, for_std (S := no) (H0 := H11) (std_list (.of hl11) fun z => z) (fun j σ H' => Ext H11 H' ∧ ∃ v6, σ = [some (.ref a), some (.ref d), some y, some (.ref m), some (.ref wb), some (.str (netText n)), v6]) ⟨Ext.rfl', v6, rfl⟩ (fun j σ H' h => .ext h.1) (fun j z σ H12 hz ⟨e12, w6, hσ⟩ => ?_) (fun σ H12 ⟨e12, w6, hσ⟩ => ?_)⟩
    · subst hσ
      obtain ⟨r, rfl, tr⟩ : ∃ r, z = .ref r ∧ NetAt no K H12 r n := by
        match j, hz with
        | 0, hz => exact ⟨r1, (Option.some.inj hz).symm, t1'.ext e12⟩
        | 1, hz => exact ⟨r2, (Option.some.inj hz).symm, t2'.ext e12⟩
        | j + 2, hz => simp at hz
      have e412 := e411.trans e12
      dsimp only [gName]
      refine ⟨_, rfl, no, r, n, rfl, tr, fun l1 H13 e13 d1 => ⟨_, toldN n, rfl, d1, c1, c2, c3, _, rfl, two d wd, m, md, n, rfl, dm4.ext (e412.trans e13), ma4.ext (e412.trans e13), f, nn, g, fun l2 H14 e14 d2 => ⟨_, toldN n, rfl, d2, c1, c2, c3, rfl, _, rfl, ifF (by simp) ?_⟩⟩⟩
      have e1214 := e13.trans e14
      refine ⟨_, rfl, no, r, n, rfl, tr.ext e1214, fun H15 e15 => ⟨_, .str (netText n), rfl, .str _, b1, b2, b3, _, rfl, _, .str (netText n), rfl, .str _, b1, b2, b3, rfl, _, rfl, ifF (by simp) ?_⟩⟩
      have e1215 := e1214.trans e15
      refine ⟨_, rfl, _, rfl, net_eqs (tr.ext e1215) (tn11.ext (e12.trans e1215)) fun H16 e16 => ⟨_, rfl, iteF ?_⟩⟩
      exact ⟨e12.trans (e1215.trans e16), _, rfl⟩
    · subst hσ
      have e412 := e411.trans e12
      exact ⟨((u2.trans u3).trans u4).trans (.ext e412), (da4.ext e412).more (by omega), _, _, _, _, _, rfl⟩
  · subst hσ
    exact hQ _
end
end Ws

set_option Elab.async false
set_option linter.all false
set_option maxRecDepth 100000
set_option maxHeartbeats 0
namespace Ws
open PySem PySem.Spec PyProof.Rows L2
def d_is_number : He5.DefA := ⟨fun K => a_is_number K, "is_number", "is_number", defArgs s_is_number, defBody s_is_number, defScope s_is_number, [], []⟩
def d_is_name : He5.DefA := ⟨fun K => a_is_name K, "is_name", "is_name", defArgs s_is_name, defBody s_is_name, defScope s_is_name, [], []⟩
def d_are_different : He5.DefA := ⟨fun K => a_are_different K, "are_different", "are_different", defArgs s_are_different, defBody s_are_different, defScope s_are_different, [], []⟩
def d_are_names : He5.DefA := ⟨fun K => a_are_names K, "are_names", "are_names", defArgs s_are_names, defBody s_are_names, defScope s_are_names, [], []⟩
def d_Rule_init : He5.DefA := ⟨fun K => a_Rule_init K, "__init__", "Rule.__init__", defArgs s_Rule_init, defBody s_Rule_init, defScope s_Rule_init, [.str "handed", .bl false, .bl false], []⟩
def d_Rule_share : He5.DefA := ⟨fun K => a_Rule_share K, "share", "Rule.share", defArgs s_Rule_share, defBody s_Rule_share, defScope s_Rule_share, [], []⟩
def d_Rule_mark : He5.DefA := ⟨fun K => a_Rule_mark K, "mark", "Rule.mark", defArgs s_Rule_mark, defBody s_Rule_mark, defScope s_Rule_mark, [], []⟩
def d_Rule_always : He5.DefA := ⟨fun K => a_Rule_always K, "always", "Rule.always", defArgs s_Rule_always, defBody s_Rule_always, defScope s_Rule_always, [], []⟩
def d_Rule_late : He5.DefA := ⟨fun K => a_Rule_late K, "late", "Rule.late", defArgs s_Rule_late, defBody s_Rule_late, defScope s_Rule_late, [], []⟩
def d_Rule_eq : He5.DefA := ⟨fun K => a_Rule_eq K, "__eq__", "Rule.__eq__", defArgs s_Rule_eq, defBody s_Rule_eq, defScope s_Rule_eq, [], []⟩
def d_are_rules : He5.DefA := ⟨fun K => a_are_rules K, "are_rules", "are_rules", defArgs s_are_rules, defBody s_are_rules, defScope s_are_rules, [], []⟩
def d_House_init : He5.DefA := ⟨fun K => a_House_init K, "__init__", "House.__init__", defArgs s_House_init, defBody s_House_init, defScope s_House_init, [.adr (He.dflAt ("House", some "__init__") 0), .adr (He.dflAt ("House", some "__init__") 1), .bl false], []⟩
def d_House_rules : He5.DefA := ⟨fun K => a_House_rules K, "rules", "House.rules", defArgs s_House_rules, defBody s_House_rules, defScope s_House_rules, [], []⟩
def d_House_calls : He5.DefA := ⟨fun K => a_House_calls K, "calls", "House.calls", defArgs s_House_calls, defBody s_House_calls, defScope s_House_calls, [], []⟩
def d_House_lost : He5.DefA := ⟨fun K => a_House_lost K, "lost", "House.lost", defArgs s_House_lost, defBody s_House_lost, defScope s_House_lost, [], []⟩
def d_House_fails : He5.DefA := ⟨fun K => a_House_fails K, "fails", "House.fails", defArgs s_House_fails, defBody s_House_fails, defScope s_House_fails, [], []⟩
def d_House_eq : He5.DefA := ⟨fun K => a_House_eq K, "__eq__", "House.__eq__", defArgs s_House_eq, defBody s_House_eq, defScope s_House_eq, [], []⟩
def d_are_named : He5.DefA := ⟨fun K => a_are_named K, "are_named", "are_named", defArgs s_are_named, defBody s_are_named, defScope s_are_named, [], []⟩
def d_need_houses : He5.DefA := ⟨fun K => a_need_houses K, "need_houses", "need_houses", defArgs s_need_houses, defBody s_need_houses, defScope s_need_houses, [], []⟩
def d_Net_init : He5.DefA := ⟨fun K => a_Net_init K, "__init__", "Net.__init__", defArgs s_Net_init, defBody s_Net_init, defScope s_Net_init, [], []⟩
def d_Net_fine : He5.DefA := ⟨fun K => a_Net_fine K, "fine", "Net.fine", defArgs s_Net_fine, defBody s_Net_fine, defScope s_Net_fine, [], []⟩
def d_Net_entries : He5.DefA := ⟨fun K => a_Net_entries K, "entries", "Net.entries", defArgs s_Net_entries, defBody s_Net_entries, defScope s_Net_entries, [], []⟩
def d_Net_names : He5.DefA := ⟨fun K => a_Net_names K, "names", "Net.names", defArgs s_Net_names, defBody s_Net_names, defScope s_Net_names, [], []⟩
def d_Net_contains : He5.DefA := ⟨fun K => a_Net_contains K, "__contains__", "Net.__contains__", defArgs s_Net_contains, defBody s_Net_contains, defScope s_Net_contains, [], []⟩
def d_Net_getitem : He5.DefA := ⟨fun K => a_Net_getitem K, "__getitem__", "Net.__getitem__", defArgs s_Net_getitem, defBody s_Net_getitem, defScope s_Net_getitem, [], []⟩
def d_Net_eq : He5.DefA := ⟨fun K => a_Net_eq K, "__eq__", "Net.__eq__", defArgs s_Net_eq, defBody s_Net_eq, defScope s_Net_eq, [], []⟩
def d_need_net : He5.DefA := ⟨fun K => a_need_net K, "need_net", "need_net", defArgs s_need_net, defBody s_need_net, defScope s_need_net, [], []⟩
def d_need_house : He5.DefA := ⟨fun K => a_need_house K, "need_house", "need_house", defArgs s_need_house, defBody s_need_house, defScope s_need_house, [], []⟩
def d_house_lines : He5.DefA := ⟨fun K => a_house_lines K, "house_lines", "house_lines", defArgs s_house_lines, defBody s_house_lines, defScope s_house_lines, [], []⟩
def d_net_lines : He5.DefA := ⟨fun K => a_net_lines K, "net_lines", "net_lines", defArgs s_net_lines, defBody s_net_lines, defScope s_net_lines, [], []⟩
def d_net_text : He5.DefA := ⟨fun K => a_net_text K, "net_text", "net_text", defArgs s_net_text, defBody s_net_text, defScope s_net_text, [], []⟩
def d_is_numeral : He5.DefA := ⟨fun K => a_is_numeral K, "is_numeral", "is_numeral", defArgs s_is_numeral, defBody s_is_numeral, defScope s_is_numeral, [], []⟩
def d_are_ascending : He5.DefA := ⟨fun K => a_are_ascending K, "are_ascending", "are_ascending", defArgs s_are_ascending, defBody s_are_ascending, defScope s_are_ascending, [], []⟩
def d_Reader_init : He5.DefA := ⟨fun K => a_Reader_init K, "__init__", "Reader.__init__", defArgs s_Reader_init, defBody s_Reader_init, defScope s_Reader_init, [], []⟩
def d_Reader_is_between : He5.DefA := ⟨fun K => a_Reader_is_between K, "is_between", "Reader.is_between", defArgs s_Reader_is_between, defBody s_Reader_is_between, defScope s_Reader_is_between, [], []⟩
def d_Reader_take_fine : He5.DefA := ⟨fun K => a_Reader_take_fine K, "take_fine", "Reader.take_fine", defArgs s_Reader_take_fine, defBody s_Reader_take_fine, defScope s_Reader_take_fine, [], []⟩
def d_Reader_take_house : He5.DefA := ⟨fun K => a_Reader_take_house K, "take_house", "Reader.take_house", defArgs s_Reader_take_house, defBody s_Reader_take_house, defScope s_Reader_take_house, [], []⟩
def d_Reader_take_rule : He5.DefA := ⟨fun K => a_Reader_take_rule K, "take_rule", "Reader.take_rule", defArgs s_Reader_take_rule, defBody s_Reader_take_rule, defScope s_Reader_take_rule, [], []⟩
def d_Reader_take_calls : He5.DefA := ⟨fun K => a_Reader_take_calls K, "take_calls", "Reader.take_calls", defArgs s_Reader_take_calls, defBody s_Reader_take_calls, defScope s_Reader_take_calls, [], []⟩
def d_Reader_take_entries : He5.DefA := ⟨fun K => a_Reader_take_entries K, "take_entries", "Reader.take_entries", defArgs s_Reader_take_entries, defBody s_Reader_take_entries, defScope s_Reader_take_entries, [], []⟩
def d_Reader_take : He5.DefA := ⟨fun K => a_Reader_take K, "take", "Reader.take", defArgs s_Reader_take, defBody s_Reader_take, defScope s_Reader_take, [], []⟩
def d_Reader_made : He5.DefA := ⟨fun K => a_Reader_made K, "made", "Reader.made", defArgs s_Reader_made, defBody s_Reader_made, defScope s_Reader_made, [], []⟩
def d_read_net : He5.DefA := ⟨fun K => a_read_net K, "read_net", "read_net", defArgs s_read_net, defBody s_read_net, defScope s_read_net, [], []⟩
def d_l_begun : He5.DefA := ⟨fun K => a_l_begun K, "_law_begun", "_law_begun", defArgs s_l_begun, defBody s_l_begun, defScope s_l_begun, [], []⟩
def d_l_mixed : He5.DefA := ⟨fun K => a_l_mixed K, "_law_mixed", "_law_mixed", defArgs s_l_mixed, defBody s_l_mixed, defScope s_l_mixed, [], []⟩
def d_l_take : He5.DefA := ⟨fun K => a_l_take K, "_law_take", "_law_take", defArgs s_l_take, defBody s_l_take, defScope s_l_take, [], []⟩
def d_l_pick : He5.DefA := ⟨fun K => a_l_pick K, "_law_pick", "_law_pick", defArgs s_l_pick, defBody s_l_pick, defScope s_l_pick, [], []⟩
def d_l_rule : He5.DefA := ⟨fun K => a_l_rule K, "_law_rule", "_law_rule", defArgs s_l_rule, defBody s_l_rule, defScope s_l_rule, [], []⟩
def d_l_model : He5.DefA := ⟨fun K => a_l_model K, "_law_model", "_law_model", defArgs s_l_model, defBody s_l_model, defScope s_l_model, [], []⟩
def d_l_rules_of : He5.DefA := ⟨fun K => a_l_rules_of K, "_law_rules_of", "_law_rules_of", defArgs s_l_rules_of, defBody s_l_rules_of, defScope s_l_rules_of, [], []⟩
def d_l_net : He5.DefA := ⟨fun K => a_l_net K, "_law_net", "_law_net", defArgs s_l_net, defBody s_l_net, defScope s_l_net, [], []⟩
def d_l_net_lines : He5.DefA := ⟨fun K => a_l_net_lines K, "_law_net_lines", "_law_net_lines", defArgs s_l_net_lines, defBody s_l_net_lines, defScope s_l_net_lines, [], []⟩
def d_l_net_text : He5.DefA := ⟨fun K => a_l_net_text K, "_law_net_text", "_law_net_text", defArgs s_l_net_text, defBody s_l_net_text, defScope s_l_net_text, [], []⟩
def d_l_seen_net : He5.DefA := ⟨fun K => a_l_seen_net K, "_law_seen_net", "_law_seen_net", defArgs s_l_seen_net, defBody s_l_seen_net, defScope s_l_seen_net, [], []⟩
def d_l_due_net : He5.DefA := ⟨fun K => a_l_due_net K, "_law_due_net", "_law_due_net", defArgs s_l_due_net, defBody s_l_due_net, defScope s_l_due_net, [], []⟩
def d_l_names : He5.DefA := ⟨fun K => a_l_names K, "_law_names", "_law_names", defArgs s_l_names, defBody s_l_names, defScope s_l_names, [], []⟩
def d_l_tagged : He5.DefA := ⟨fun K => a_l_tagged K, "_law_tagged", "_law_tagged", defArgs s_l_tagged, defBody s_l_tagged, defScope s_l_tagged, [], []⟩
def d_law : He5.DefA := ⟨fun K => a_law K, "law", "law", defArgs s_law, defBody s_law, defScope s_law, [], []⟩
def propB (K : PySem.W.Frag) (C f : Str) : Bool := He.eqO (PySem.W.findIn K (.ref (He.ga K C)) f) (some (some (.ref (He.ma K (He.ga K C) f)))) && (He.eqO (PySem.W.specialIn K (.ref (He.ma K (He.ga K C) f)) "__get__") (some (some (.builtin "property.__get__"))) &&
  (decide (PySem.W.takesIn K (.ref (He.ma K (He.ga K C) f)) = some true) && (match PySem.W.recIn K (He.ma K (He.ga K C) f) "property" with
    | some (.ref _ :: _) => true
    | _ => false)))
theorem propB_ok {K : PySem.W.Frag} {C f : Str} (h : propB K C f = true) : PropOf K (He.ga K C) f (He.ma K (He.ga K C) f) (gA K C f) := by
  obtain ⟨h1, h⟩ := He.ba h
  obtain ⟨h2, h⟩ := He.ba h
  obtain ⟨h3, h4⟩ := He.ba h
  refine ⟨He.eqO_ok h1, He.eqO_ok h2, of_decide_eq_true h3, ?_⟩
  unfold gA
  split at h4
  · rename_i f r e
    exact ⟨r, by rw [e]⟩
  · cases h4
def hfa0 : List He.Fa := [.free "isinstance", .free "int", .free "bool", .free "str", .free "list", .free "tuple", .free "dict", .free "len", .free "all", .free "any", .free "sorted", .free "range", .free "min", .free "abs", .free "enumerate", .free "repr", .glo "is_number", .glo "is_name", .glo "are_different", .glo "are_names", .glo "are_rules", .glo "are_named", .glo "need_houses", .meth "Net" "names", .glo "need_net", .glo "need_house", .glo "house_lines", .glo "net_lines", .glo "net_text", .glo "is_numeral"]
def hfa1 : List He.Fa := [.glo "are_ascending", .meth "Reader" "is_between", .meth "Reader" "take_fine", .meth "Reader" "take_house", .meth "Reader" "take_rule", .meth "Reader" "take_calls", .meth "Reader" "take_entries", .meth "Reader" "take", .meth "Reader" "made", .glo "read_net", .glo "_law_begun", .glo "_law_mixed", .glo "_law_take", .glo "_law_pick", .glo "_law_rule", .glo "_law_model", .glo "_law_rules_of", .glo "_law_net", .glo "_law_net_lines", .glo "_law_net_text", .glo "_law_seen_net", .glo "_law_due_net", .glo "_law_names", .glo "_law_tagged", .glo "Rule", .cls "Rule", .mkr "Rule", .noat "Rule" "r_parts", .glo "House", .cls "House"]
def hfa2 : List He.Fa := [.mkr "House", .noat "House" "h_rules", .noat "House" "h_calls", .noat "House" "h_lost", .noat "House" "h_fails", .glo "Net", .cls "Net", .mkr "Net", .noat "Net" "n_fine", .noat "Net" "n_houses", .noat "Net" "n_entries", .glo "Reader", .cls "Reader", .mkr "Reader", .noat "Reader" "x_fine", .noat "Reader" "x_names", .noat "Reader" "x_fails", .noat "Reader" "x_rules", .noat "Reader" "x_ways", .noat "Reader" "x_entries", .glo "BadNet", .str "HANDED" "handed", .str "LETTERS" "abcdefghijklmnopqrstuvwxyz", .int "LONGEST_NAME" 6, .int "MOST_FINE" 1000, .int "MOST_HOUSES" 8, .str "DIGITS" "0123456789", .str "FAILS" "fails", .glo "KEEPS", .int "MOST_DIGITS" 4]
def hfa3 : List He.Fa := [.glo "law"]
def hfa : List He.Fa := hfa0 ++ (hfa1 ++ (hfa2 ++ (hfa3)))
def hfn0 : List He5.DefA := [d_is_number, d_is_name, d_are_different, d_are_names, d_Rule_init, d_Rule_share, d_Rule_mark, d_Rule_always, d_Rule_late, d_Rule_eq, d_are_rules, d_House_init, d_House_rules, d_House_calls, d_House_lost, d_House_fails, d_House_eq, d_are_named, d_need_houses, d_Net_init, d_Net_fine, d_Net_entries, d_Net_names, d_Net_contains, d_Net_getitem, d_Net_eq, d_need_net, d_need_house, d_house_lines, d_net_lines]
def hfn1 : List He5.DefA := [d_net_text, d_is_numeral, d_are_ascending, d_Reader_init, d_Reader_is_between, d_Reader_take_fine, d_Reader_take_house, d_Reader_take_rule, d_Reader_take_calls, d_Reader_take_entries, d_Reader_take, d_Reader_made, d_read_net, d_l_begun, d_l_mixed, d_l_take, d_l_pick, d_l_rule, d_l_model, d_l_rules_of, d_l_net, d_l_net_lines, d_l_net_text, d_l_seen_net, d_l_due_net, d_l_names, d_l_tagged, d_law]
def hfn : List He5.DefA := hfn0 ++ (hfn1)
def hex0 : List (PySem.W.Frag → Bool) := [fun K => propB K "Rule" "share", fun K => propB K "Rule" "mark", fun K => propB K "Rule" "always", fun K => propB K "Rule" "late", fun K => propB K "House" "rules", fun K => propB K "House" "calls", fun K => propB K "House" "lost", fun K => propB K "House" "fails", fun K => propB K "Net" "fine", fun K => propB K "Net" "entries", fun K => decide (PySem.W.mroIn K (c_Rule K) (.type "object") = some true), fun K => He.eqO (PySem.W.findIn K (.ref (c_Rule K)) "__class__") (some (some (.builtin "object.__class__"))), fun K => decide (PySem.W.kitOne K (.ref (c_Rule K)) (.ref (c_Rule K)) = some true), fun K => He.eqO (PySem.W.findIn K (.ref (c_Rule K)) "__eq__") (some (some (.ref (a_Rule_eq K)))), fun K => PySem.W.isFn K (.ref (a_Rule_eq K)), fun K => PySem.W.fnIn K (a_Rule_eq K), fun K => He.eqO (PySem.W.findIn K (.ref (c_Rule K)) "__ne__") (some (some (.builtin "object.__ne__"))), fun K => decide (PySem.W.mroIn K (c_House K) (.type "object") = some true), fun K => He.eqO (PySem.W.findIn K (.ref (c_House K)) "__class__") (some (some (.builtin "object.__class__"))), fun K => decide (PySem.W.kitOne K (.ref (c_House K)) (.ref (c_House K)) = some true), fun K => He.eqO (PySem.W.findIn K (.ref (c_House K)) "__eq__") (some (some (.ref (a_House_eq K)))), fun K => PySem.W.isFn K (.ref (a_House_eq K)), fun K => PySem.W.fnIn K (a_House_eq K), fun K => He.eqO (PySem.W.findIn K (.ref (c_House K)) "__ne__") (some (some (.builtin "object.__ne__"))), fun K => decide (PySem.W.mroIn K (c_Net K) (.type "object") = some true), fun K => He.eqO (PySem.W.findIn K (.ref (c_Net K)) "__class__") (some (some (.builtin "object.__class__"))), fun K => decide (PySem.W.kitOne K (.ref (c_Net K)) (.ref (c_Net K)) = some true), fun K => He.eqO (PySem.W.findIn K (.ref (c_Net K)) "__eq__") (some (some (.ref (a_Net_eq K)))), fun K => PySem.W.isFn K (.ref (a_Net_eq K)), fun K => PySem.W.fnIn K (a_Net_eq K)]
def hex1 : List (PySem.W.Frag → Bool) := [fun K => He.eqO (PySem.W.findIn K (.ref (c_Net K)) "__contains__") (some (some (.ref (a_Net_contains K)))), fun K => PySem.W.isFn K (.ref (a_Net_contains K)), fun K => PySem.W.fnIn K (a_Net_contains K), fun K => He.eqO (PySem.W.findIn K (.ref (c_Net K)) "__getitem__") (some (some (.ref (a_Net_getitem K)))), fun K => PySem.W.isFn K (.ref (a_Net_getitem K)), fun K => PySem.W.fnIn K (a_Net_getitem K), fun K => He.eqO (PySem.W.findIn K (.ref (c_Net K)) "__ne__") (some (some (.builtin "object.__ne__"))), fun K => decide (PySem.W.mroIn K (c_Reader K) (.type "object") = some true), fun K => He.eqO (PySem.W.findIn K (.ref (c_Reader K)) "__class__") (some (some (.builtin "object.__class__"))), fun K => decide (PySem.W.kitOne K (.ref (c_Reader K)) (.ref (c_Reader K)) = some true), fun K => He.eqO (PySem.W.specialIn K (.builtin "object.__class__") "__get__") (some (some (.builtin "getset_descriptor.__get__"))), fun K => decide (PySem.W.takesIn K (.builtin "object.__class__") = some true), fun K => tupAB K (tupIt K (He.ga K "KEEPS") 0) [.str "always", .str "late"], fun K => tupAB K (tupIt K (He.ga K "KEEPS") 1) [.str "always"], fun K => tupAB K (tupIt K (He.ga K "KEEPS") 2) [.str "late"], fun K => tupAB K (tupIt K (He.ga K "KEEPS") 3) [], fun K => tupAB K (He.ga K "KEEPS") [.ref (tupIt K (He.ga K "KEEPS") 0), .ref (tupIt K (He.ga K "KEEPS") 1), .ref (tupIt K (He.ga K "KEEPS") 2), .ref (tupIt K (He.ga K "KEEPS") 3)]]
def hex : List (PySem.W.Frag → Bool) := hex0 ++ (hex1)
def htabs : List He.Tab := []
/-! ### the Hook -/
abbrev AlW : Type := Bool × List He5.FnW × List (Option (List (Option (Str × Int))))
def obsW (K : PySem.W.Frag) : AlW := ((hfa.all fun f => f.ok K) && ((hex.all fun f => f K) && hfn.all fun d => d.ok K), hfn.map fun d => He5.fnA K (d.at_ K), htabs.map fun t => He.dicW K (t.1 K))
def valW (w : World) : AlW := (true, hfn.map He5.DefA.val, htabs.map fun t => some (He.keysIn w.params t.2))
def SaysW (w : World) (K : PySem.W.Frag) : Prop := obsW K = valW w
/-- the tables of the defs that make lambdas -/
def lamW (g : Addr → Option Obj) (K : PySem.W.Frag) : Bool := hlam.all fun p => PySem.W.codeHdIn K (He.cT K p).1 (He.cT K p).2 && ((K.lookup (He.cT K p).2).isNone && (match g (He.cT K p).2 with
  | some o => He.emptyTab o
  | none => false))
theorem lamW_ok {h : Heap} {K : PySem.W.Frag} (X : K.In h) (e : lamW h.get? K = true) : TabsHere K h (hlam.map (He.cT K)) := by
  have one : ∀ p ∈ hlam, PySem.W.codeHdIn K (He.cT K p).1 (He.cT K p).2 = true ∧ K.lookup (He.cT K p).2 = none ∧ h.get? (He.cT K p).2 = some tab0 := fun p hp => by
    obtain ⟨h1, h2⟩ := He.ba (List.all_eq_true.mp e p hp)
    obtain ⟨h3, h4⟩ := He.ba h2
    refine ⟨h1, Option.isNone_iff_eq_none.mp h3, ?_⟩
    cases q : h.get? (He.cT K p).2 with
    | none => rw [q] at h4; cases h4
    | some o => rw [q] at h4; rw [He.emptyTab_eq h4]
  refine ⟨fun q hq => ?_, fun q hq => ?_, fun q hq => ?_⟩ <;> obtain ⟨p, hp, rfl⟩ := List.mem_map.mp hq
  · exact (one p hp).2.2
  · exact (one p hp).2.1
  · exact PySem.W.codeHd_of_K X (one p hp).1
abbrev AlL : Type := AlW × Bool
/-- what an object of the top names: a table's values, a function's code and defaults, a class's names, a property's getter -/
def refsW (o : Obj) : List Addr := match o.data with
  | .dict es _ => es.toList.flatMap fun e => He.refV e.val
  | .func fd => He.refV fd.code ++ He.refV fd.defaults
  | .cls cd => [cd.ns]
  | .fields vs => (match o.cls with
    | .type "property" => vs.toList.flatMap He.refV
    | _ => [])
  | .seq vs _ => (match o.cls with
    | .type "tuple" => vs.toList.flatMap He.refV
    | _ => [])
  | _ => []
def layW (g : Addr → Option Obj) (as : List Addr) : List Addr := as.flatMap fun a => match g a with
  | some o => refsW o
  | none => []
/-- the addresses as they are, for the kernel -/
def frA {α : Type} : List Nat → (List Nat → α) → α
  | [], k => k []
  | a :: r, k => HandSHeadRun.frNat a fun a => frA r fun r => k (a :: r)
theorem frA_eq {α : Type} : ∀ (l : List Nat) (k : List Nat → α), frA l k = k l
  | [], _ => rfl
  | a :: r, k => by
    show HandSHeadRun.frNat a (fun a => frA r fun r => k (a :: r)) = _
    rw [HandSHeadRun.frNat_eq, frA_eq r]
def asW (g : Addr → Option Obj) : Nat → List Addr → List Addr → List Addr
  | 0, as, l => as ++ l
  | n + 1, as, l => asW g n (as ++ l) (layW g l)
def asWf {α : Type} (g : Addr → Option Obj) : Nat → List Addr → List Addr → (List Addr → α) → α
  | 0, as, l, k => frA (as ++ l) k
  | n + 1, as, l, k => frA (layW g l) fun l' => asWf g n (as ++ l) l' k
theorem asWf_eq {α : Type} {g : Addr → Option Obj} : ∀ (n : Nat) (as l : List Addr) (k : List Addr → α), asWf g n as l k = k (asW g n as l)
  | 0, _, _, k => frA_eq _ k
  | n + 1, as, l, k => by
    show frA (layW g l) (fun l' => asWf g n (as ++ l) l' k) = _
    rw [frA_eq, asWf_eq n]
    rfl
def obsWG (n : Nat) (g : Addr → Option Obj) : AlL := asWf g n [] [mainGlobals] fun as => (obsW (He.frG g as), lamW g (He.frG g as))
def hookW (n : Nat) : PySem.W.Hook where
  α := AlL
  obs := fun s => obsWG n s.heap.get?
  val := fun w => (valW w, true)
  says := fun w h => ∃ K : PySem.W.Frag, K.In h ∧ SaysW w K ∧ TabsHere K h (hlam.map (He.cT K))
  of := fun w s e => by
    have e2 := (asWf_eq (α := AlL) _ _ _ _).symm.trans e
    exact ⟨_, He.frG_in, congrArg (fun z : AlL => z.1) e2, lamW_ok He.frG_in (congrArg (fun z : AlL => z.2) e2)⟩
  keeps := fun _ _ _ ⟨K, hK, c, t⟩ k => ⟨K, PySem.W.Frag.In.keeps hK k, c, ⟨fun p hp => k _ _ (t.at_ p hp), t.out, fun p hp => (t.code p hp).keeps k⟩⟩
theorem obsWG_eq {n : Nat} {g : Addr → Option Obj} {s : Shared} (h : ∀ a, g a = s.heap.get? a) : obsWG n g = (hookW n).obs s := by
  have e : g = s.heap.get? := funext h
  rw [e] <;> rfl
section
variable {K : PySem.W.Frag} {w : World}
theorem SaysW.one (c : SaysW w K) : (hfa.all fun f => f.ok K) = true ∧ (hex.all fun f => f K) = true ∧ (hfn.all fun d => d.ok K) = true := by
  have c1 : ((hfa.all fun f => f.ok K) && ((hex.all fun f => f K) && hfn.all fun d => d.ok K)) = true := congrArg (fun z : AlW => z.1) c
  obtain ⟨h1, h⟩ := He.ba c1
  obtain ⟨h2, h3⟩ := He.ba h
  exact ⟨h1, h2, h3⟩
theorem SaysW.fact (c : SaysW w K) (i : Nat) {f : He.Fa} (h : hfa[i]? = some f) : f.ok K = true := List.all_eq_true.mp c.one.1 f (List.mem_of_getElem? h)
theorem SaysW.ex_ (c : SaysW w K) (i : Nat) {f : PySem.W.Frag → Bool} (h : hex[i]? = some f) : f K = true := List.all_eq_true.mp c.one.2.1 f (List.mem_of_getElem? h)
theorem SaysW.def_ (c : SaysW w K) (i : Nat) {d : He5.DefA} (h : hfn[i]? = some d) : ∃ fd, FunD K d.name d.qual d.params d.body d.scope (d.dvs K) (d.kws K) (d.at_ K) fd := by
  have e : hfn.map (fun d => He5.fnA K (d.at_ K)) = hfn.map He5.DefA.val := congrArg (fun z : AlW => z.2.1) c
  have e2 : (hfn.map fun d => He5.fnA K (d.at_ K))[i]? = (hfn.map He5.DefA.val)[i]? := by rw [e]
  rw [List.getElem?_map, List.getElem?_map, h] at e2
  exact He5.DefA.funD (Option.some.inj e2) (List.all_eq_true.mp c.one.2.2 d (List.mem_of_getElem? h))
theorem SaysW.tab (c : SaysW w K) (i : Nat) {t : He.Tab} (h : htabs[i]? = some t) : ∃ es n, KDict K w (t.1 K) es n := by
  have e : htabs.map (fun t => He.dicW K (t.1 K)) = htabs.map fun t => some (He.keysIn w.params t.2) := congrArg (fun z : AlW => z.2.2) c
  have e2 : (htabs.map fun t => He.dicW K (t.1 K))[i]? = (htabs.map fun t => some (He.keysIn w.params t.2))[i]? := by rw [e]
  rw [List.getElem?_map, List.getElem?_map, h] at e2
  exact He.dicW_ok (Option.some.inj e2)
end
theorem fx_of {h : Heap} {mg : Str → Option Value} {w : World} {K : PySem.W.Frag} (X : K.In h) (G : h.Ns mainGlobals mg) (c : SaysW w K) : Fx K mg w :=
  { n_isinstance := He.free_ok X G (c.fact 0 rfl)
    n_int := He.free_ok X G (c.fact 1 rfl)
    n_bool := He.free_ok X G (c.fact 2 rfl)
    n_str := He.free_ok X G (c.fact 3 rfl)
    n_list := He.free_ok X G (c.fact 4 rfl)
    n_tuple := He.free_ok X G (c.fact 5 rfl)
    n_dict := He.free_ok X G (c.fact 6 rfl)
    n_len := He.free_ok X G (c.fact 7 rfl)
    n_all := He.free_ok X G (c.fact 8 rfl)
    n_any := He.free_ok X G (c.fact 9 rfl)
    n_sorted := He.free_ok X G (c.fact 10 rfl)
    n_range := He.free_ok X G (c.fact 11 rfl)
    n_min := He.free_ok X G (c.fact 12 rfl)
    n_abs := He.free_ok X G (c.fact 13 rfl)
    n_enumerate := He.free_ok X G (c.fact 14 rfl)
    n_repr := He.free_ok X G (c.fact 15 rfl)
    m_is_number := He.glo_ok X G (c.fact 16 rfl)
    F_is_number := c.def_ 0 (d := d_is_number) rfl
    m_is_name := He.glo_ok X G (c.fact 17 rfl)
    F_is_name := c.def_ 1 (d := d_is_name) rfl
    m_are_different := He.glo_ok X G (c.fact 18 rfl)
    F_are_different := c.def_ 2 (d := d_are_different) rfl
    m_are_names := He.glo_ok X G (c.fact 19 rfl)
    F_are_names := c.def_ 3 (d := d_are_names) rfl
    F_Rule_init := c.def_ 4 (d := d_Rule_init) rfl
    p_Rule_share := propB_ok (c.ex_ 0 rfl)
    F_Rule_share := c.def_ 5 (d := d_Rule_share) rfl
    p_Rule_mark := propB_ok (c.ex_ 1 rfl)
    F_Rule_mark := c.def_ 6 (d := d_Rule_mark) rfl
    p_Rule_always := propB_ok (c.ex_ 2 rfl)
    F_Rule_always := c.def_ 7 (d := d_Rule_always) rfl
    p_Rule_late := propB_ok (c.ex_ 3 rfl)
    F_Rule_late := c.def_ 8 (d := d_Rule_late) rfl
    F_Rule_eq := c.def_ 9 (d := d_Rule_eq) rfl
    m_are_rules := He.glo_ok X G (c.fact 20 rfl)
    F_are_rules := c.def_ 10 (d := d_are_rules) rfl
    F_House_init := c.def_ 11 (d := d_House_init) rfl
    p_House_rules := propB_ok (c.ex_ 4 rfl)
    F_House_rules := c.def_ 12 (d := d_House_rules) rfl
    p_House_calls := propB_ok (c.ex_ 5 rfl)
    F_House_calls := c.def_ 13 (d := d_House_calls) rfl
    p_House_lost := propB_ok (c.ex_ 6 rfl)
    F_House_lost := c.def_ 14 (d := d_House_lost) rfl
    p_House_fails := propB_ok (c.ex_ 7 rfl)
    F_House_fails := c.def_ 15 (d := d_House_fails) rfl
    F_House_eq := c.def_ 16 (d := d_House_eq) rfl
    m_are_named := He.glo_ok X G (c.fact 21 rfl)
    F_are_named := c.def_ 17 (d := d_are_named) rfl
    m_need_houses := He.glo_ok X G (c.fact 22 rfl)
    F_need_houses := c.def_ 18 (d := d_need_houses) rfl
    F_Net_init := c.def_ 19 (d := d_Net_init) rfl
    p_Net_fine := propB_ok (c.ex_ 8 rfl)
    F_Net_fine := c.def_ 20 (d := d_Net_fine) rfl
    p_Net_entries := propB_ok (c.ex_ 9 rfl)
    F_Net_entries := c.def_ 21 (d := d_Net_entries) rfl
    me_Net_names := He.meth_ok (c.fact 23 rfl)
    F_Net_names := c.def_ 22 (d := d_Net_names) rfl
    F_Net_contains := c.def_ 23 (d := d_Net_contains) rfl
    F_Net_getitem := c.def_ 24 (d := d_Net_getitem) rfl
    F_Net_eq := c.def_ 25 (d := d_Net_eq) rfl
    m_need_net := He.glo_ok X G (c.fact 24 rfl)
    F_need_net := c.def_ 26 (d := d_need_net) rfl
    m_need_house := He.glo_ok X G (c.fact 25 rfl)
    F_need_house := c.def_ 27 (d := d_need_house) rfl
    m_house_lines := He.glo_ok X G (c.fact 26 rfl)
    F_house_lines := c.def_ 28 (d := d_house_lines) rfl
    m_net_lines := He.glo_ok X G (c.fact 27 rfl)
    F_net_lines := c.def_ 29 (d := d_net_lines) rfl
    m_net_text := He.glo_ok X G (c.fact 28 rfl)
    F_net_text := c.def_ 30 (d := d_net_text) rfl
    m_is_numeral := He.glo_ok X G (c.fact 29 rfl)
    F_is_numeral := c.def_ 31 (d := d_is_numeral) rfl
    m_are_ascending := He.glo_ok X G (c.fact 30 rfl)
    F_are_ascending := c.def_ 32 (d := d_are_ascending) rfl
    F_Reader_init := c.def_ 33 (d := d_Reader_init) rfl
    me_Reader_is_between := He.meth_ok (c.fact 31 rfl)
    F_Reader_is_between := c.def_ 34 (d := d_Reader_is_between) rfl
    me_Reader_take_fine := He.meth_ok (c.fact 32 rfl)
    F_Reader_take_fine := c.def_ 35 (d := d_Reader_take_fine) rfl
    me_Reader_take_house := He.meth_ok (c.fact 33 rfl)
    F_Reader_take_house := c.def_ 36 (d := d_Reader_take_house) rfl
    me_Reader_take_rule := He.meth_ok (c.fact 34 rfl)
    F_Reader_take_rule := c.def_ 37 (d := d_Reader_take_rule) rfl
    me_Reader_take_calls := He.meth_ok (c.fact 35 rfl)
    F_Reader_take_calls := c.def_ 38 (d := d_Reader_take_calls) rfl
    me_Reader_take_entries := He.meth_ok (c.fact 36 rfl)
    F_Reader_take_entries := c.def_ 39 (d := d_Reader_take_entries) rfl
    me_Reader_take := He.meth_ok (c.fact 37 rfl)
    F_Reader_take := c.def_ 40 (d := d_Reader_take) rfl
    me_Reader_made := He.meth_ok (c.fact 38 rfl)
    F_Reader_made := c.def_ 41 (d := d_Reader_made) rfl
    m_read_net := He.glo_ok X G (c.fact 39 rfl)
    F_read_net := c.def_ 42 (d := d_read_net) rfl
    m_l_begun := He.glo_ok X G (c.fact 40 rfl)
    F_l_begun := c.def_ 43 (d := d_l_begun) rfl
    m_l_mixed := He.glo_ok X G (c.fact 41 rfl)
    F_l_mixed := c.def_ 44 (d := d_l_mixed) rfl
    m_l_take := He.glo_ok X G (c.fact 42 rfl)
    F_l_take := c.def_ 45 (d := d_l_take) rfl
    m_l_pick := He.glo_ok X G (c.fact 43 rfl)
    F_l_pick := c.def_ 46 (d := d_l_pick) rfl
    m_l_rule := He.glo_ok X G (c.fact 44 rfl)
    F_l_rule := c.def_ 47 (d := d_l_rule) rfl
    m_l_model := He.glo_ok X G (c.fact 45 rfl)
    F_l_model := c.def_ 48 (d := d_l_model) rfl
    m_l_rules_of := He.glo_ok X G (c.fact 46 rfl)
    F_l_rules_of := c.def_ 49 (d := d_l_rules_of) rfl
    m_l_net := He.glo_ok X G (c.fact 47 rfl)
    F_l_net := c.def_ 50 (d := d_l_net) rfl
    m_l_net_lines := He.glo_ok X G (c.fact 48 rfl)
    F_l_net_lines := c.def_ 51 (d := d_l_net_lines) rfl
    m_l_net_text := He.glo_ok X G (c.fact 49 rfl)
    F_l_net_text := c.def_ 52 (d := d_l_net_text) rfl
    m_l_seen_net := He.glo_ok X G (c.fact 50 rfl)
    F_l_seen_net := c.def_ 53 (d := d_l_seen_net) rfl
    m_l_due_net := He.glo_ok X G (c.fact 51 rfl)
    F_l_due_net := c.def_ 54 (d := d_l_due_net) rfl
    m_l_names := He.glo_ok X G (c.fact 52 rfl)
    F_l_names := c.def_ 55 (d := d_l_names) rfl
    m_l_tagged := He.glo_ok X G (c.fact 53 rfl)
    F_l_tagged := c.def_ 56 (d := d_l_tagged) rfl
    F_law := c.def_ 57 (d := d_law) rfl
    m_Rule := He.glo_ok X G (c.fact 54 rfl)
    cl_Rule := He.cls_ok (c.fact 55 rfl)
    mk_Rule := He.mkr_ok (c.fact 56 rfl)
    na_Rule_r_parts := He.noat_ok (c.fact 57 rfl)
    mro_Rule := of_decide_eq_true (c.ex_ 10 rfl)
    cc_Rule := He.eqO_ok (c.ex_ 11 rfl)
    kit_Rule := of_decide_eq_true (c.ex_ 12 rfl)
    sp_Rule_eq := He.eqO_ok (c.ex_ 13 rfl)
    fn_Rule_eq := c.ex_ 14 rfl
    fi_Rule_eq := c.ex_ 15 rfl
    ne_Rule := He.eqO_ok (c.ex_ 16 rfl)
    m_House := He.glo_ok X G (c.fact 58 rfl)
    cl_House := He.cls_ok (c.fact 59 rfl)
    mk_House := He.mkr_ok (c.fact 60 rfl)
    na_House_h_rules := He.noat_ok (c.fact 61 rfl)
    na_House_h_calls := He.noat_ok (c.fact 62 rfl)
    na_House_h_lost := He.noat_ok (c.fact 63 rfl)
    na_House_h_fails := He.noat_ok (c.fact 64 rfl)
    mro_House := of_decide_eq_true (c.ex_ 17 rfl)
    cc_House := He.eqO_ok (c.ex_ 18 rfl)
    kit_House := of_decide_eq_true (c.ex_ 19 rfl)
    sp_House_eq := He.eqO_ok (c.ex_ 20 rfl)
    fn_House_eq := c.ex_ 21 rfl
    fi_House_eq := c.ex_ 22 rfl
    ne_House := He.eqO_ok (c.ex_ 23 rfl)
    m_Net := He.glo_ok X G (c.fact 65 rfl)
    cl_Net := He.cls_ok (c.fact 66 rfl)
    mk_Net := He.mkr_ok (c.fact 67 rfl)
    na_Net_n_fine := He.noat_ok (c.fact 68 rfl)
    na_Net_n_houses := He.noat_ok (c.fact 69 rfl)
    na_Net_n_entries := He.noat_ok (c.fact 70 rfl)
    mro_Net := of_decide_eq_true (c.ex_ 24 rfl)
    cc_Net := He.eqO_ok (c.ex_ 25 rfl)
    kit_Net := of_decide_eq_true (c.ex_ 26 rfl)
    sp_Net_eq := He.eqO_ok (c.ex_ 27 rfl)
    fn_Net_eq := c.ex_ 28 rfl
    fi_Net_eq := c.ex_ 29 rfl
    sp_Net_contains := He.eqO_ok (c.ex_ 30 rfl)
    fn_Net_contains := c.ex_ 31 rfl
    fi_Net_contains := c.ex_ 32 rfl
    sp_Net_getitem := He.eqO_ok (c.ex_ 33 rfl)
    fn_Net_getitem := c.ex_ 34 rfl
    fi_Net_getitem := c.ex_ 35 rfl
    ne_Net := He.eqO_ok (c.ex_ 36 rfl)
    m_Reader := He.glo_ok X G (c.fact 71 rfl)
    cl_Reader := He.cls_ok (c.fact 72 rfl)
    mk_Reader := He.mkr_ok (c.fact 73 rfl)
    na_Reader_x_fine := He.noat_ok (c.fact 74 rfl)
    na_Reader_x_names := He.noat_ok (c.fact 75 rfl)
    na_Reader_x_fails := He.noat_ok (c.fact 76 rfl)
    na_Reader_x_rules := He.noat_ok (c.fact 77 rfl)
    na_Reader_x_ways := He.noat_ok (c.fact 78 rfl)
    na_Reader_x_entries := He.noat_ok (c.fact 79 rfl)
    mro_Reader := of_decide_eq_true (c.ex_ 37 rfl)
    cc_Reader := He.eqO_ok (c.ex_ 38 rfl)
    kit_Reader := of_decide_eq_true (c.ex_ 39 rfl)
    m_BadNet := He.glo_ok X G (c.fact 80 rfl)
    cget := He.eqO_ok (c.ex_ 40 rfl)
    ctak := of_decide_eq_true (c.ex_ 41 rfl)
    z_HANDED := He.str_ok X G (c.fact 81 rfl)
    z_LETTERS := He.str_ok X G (c.fact 82 rfl)
    i_LONGEST_NAME := He.int_ok X G (c.fact 83 rfl)
    i_MOST_FINE := He.int_ok X G (c.fact 84 rfl)
    i_MOST_HOUSES := He.int_ok X G (c.fact 85 rfl)
    z_DIGITS := He.str_ok X G (c.fact 86 rfl)
    z_FAILS := He.str_ok X G (c.fact 87 rfl)
    m_KEEPS := He.glo_ok X G (c.fact 88 rfl)
    u_KEEPS_0 := tupAB_ok (c.ex_ 42 rfl)
    u_KEEPS_1 := tupAB_ok (c.ex_ 43 rfl)
    u_KEEPS_2 := tupAB_ok (c.ex_ 44 rfl)
    u_KEEPS_3 := tupAB_ok (c.ex_ 45 rfl)
    u_KEEPS := tupAB_ok (c.ex_ 46 rfl)
    i_MOST_DIGITS := He.int_ok X G (c.fact 89 rfl) }
theorem m_law {h : Heap} {mg : Str → Option Value} {w : World} {K : PySem.W.Frag} (X : K.In h) (G : h.Ns mainGlobals mg) (c : SaysW w K) : mg "law" = some (.ref (a_law K)) := He.glo_ok X G (c.fact 90 rfl)
/-! ### the run -/
def loose0 : List Str := ["_wall", "__name__", "StoryError", "BadRule", "BadHouse", "BadNet", "NoHouse", "BadText", "HANDED", "LETTERS", "LONGEST_NAME", "MOST_FINE", "MOST_HOUSES", "is_number", "is_name", "are_different", "are_names", "Rule", "are_rules", "House", "are_named", "need_houses", "Net", "need_net", "need_house", "DIGITS", "FAILS", "KEEPS", "MOST_DIGITS", "house_lines"]
def loose1 : List Str := ["net_lines", "net_text", "is_numeral", "are_ascending", "Reader", "read_net", "_law_begun", "_law_mixed", "_law_take", "_law_pick", "_law_rule", "_law_model", "_law_rules_of", "_law_net", "_law_net_lines", "_law_net_text", "_law_seen_net", "_law_due_net", "_law_names", "_law_tagged"]
def loose : List Str := loose0 ++ (loose1)
abbrev rowR : PySem.W.OpenRow := PySem.W.OpenLaw.row PySem.Challenge.rw_wholestory_k83_texts_of_nets
abbrev rowQ : Program := PySem.W.view rowR.prog [53]
abbrev hk : PySem.W.Hook := hookW 5
def ob (s : PySem.W.SharedT) : AlL := obsWG 5 (HandSHeadRun.getT s)
theorem ob_eq (s : PySem.W.SharedT) : ob s = hk.obs s.abs := obsWG_eq (HandSHeadRun.getT_eq s)
theorem run (w : World) : HandSHeadRun.RunEq rowR rowQ hk ob 30000 loose w := by
  refine PySem.W.byRow2 "special-get-raises" (P := fun w => HandSHeadRun.RunEq rowR rowQ hk ob 30000 loose w) (fun w => ?_) (fun w => ?_) w
  · intro os
    kernel_rfl
  · intro os
    kernel_rfl
end Ws

set_option Elab.async false
set_option linter.all false
open PySem PySem.W PySem.Calls PyProof.Rows
set_option maxRecDepth 100000 in
set_option maxHeartbeats 0 in
theorem PySem.Challenge.cw_wholestory_k83_texts_of_nets_holds : PySem.Challenge.rw_wholestory_k83_texts_of_nets.Holds := by
  w_on; o_law
  refine HandSHeadRun.head_any (r := OpenLaw.row PySem.Challenge.rw_wholestory_k83_texts_of_nets) (q := Ws.rowQ) (H := Ws.hk) (ob := Ws.ob) (M := 30000) (loose := Ws.loose) (d := HandSHeadRun.topDef (OpenLaw.row PySem.Challenge.rw_wholestory_k83_texts_of_nets).prog 53) (kwd := []) Ws.ob_eq
    (by kernel_rfl) (fun s => by kernel_rfl) Ws.run (by kernel_rfl) (by kernel_rfl) (by kernel_rfl) (by rfl) (by first | assumption | decide +kernel) (by decide +kernel) ⟨rfl, rfl, rfl, rfl, rfl, by decide +kernel⟩ ?hw ?hc
  case hw => w_witness2
  case hc =>
    refine Ws.walk_ofG (l := PySem.Challenge.rw_wholestory_k83_texts_of_nets) (n := 63) (k := 8) (CX := L2.CX0) rfl (by decide) (by kernel_rfl) ⟨rfl, by decide, by decide⟩ ?F (fun _ _ _ _ z => z)
    intro w mg fa h Y G hmg0
    obtain ⟨K, KX, c, tabs⟩ := Y
    have hmg : mg ("law" : PySem.Str) = some (.ref fa) := by
      have e : (HandSHeadRun.topDef (OpenLaw.row PySem.Challenge.rw_wholestory_k83_texts_of_nets).prog 53).name = ("law" : PySem.Str) := by kernel_rfl
      rw [← e]
      exact hmg0
    have x := Ws.fx_of KX G c
    have e := hmg.symm.trans (Ws.m_law KX G c)
    cases e
    exact ⟨K, Ws.sp_law K, KX, fun H a ns hl _ hS => ⟨a, ns, rfl, hS, hl, fun _ => rfl⟩, fun base _ _ => Ws.ok_law x⟩

