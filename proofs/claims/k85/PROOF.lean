import PyProof.Rows.All
import Wide.All
import OpenK.AllK
import Wide.FinOn
import HandS.ForMost
import HandS.ForExc
import HandS.Defaults
import HandS.More
import HandS.Star
import HandS.Property
import HandS.IsInst
import HandS.OwnEq
import HandS.DictComp
import HandS.MakeKw
import HandS.NoneIn
import HandS.Conv
import HandS.Codes
import HandS.Evl
import KE.KStateDown
import PyProof.ReprReads
import PyProof.ReprRoads
import PyProof.StrLawsRepr
import HandS.HeadEnd
import HandS.DictEq
import HandS.Iter
import PyProof.DictUpdate
import HandS.HeadHook2
import HandS.HeadHook3
import HandS.Text
import HandS.Lambda
import HandS.ExcIs
import HandS.EndTab
import HandS.HeadHook4
import KE.KDictSum
import HandS.FStr
import HandS.ListEq
import PyProof.EqLayable
import PyProof.NeKinds
import KE.SortCalls
import KE.DataCmp
import PyProof.EnumMake
import PyProof.Draws
import KE.GoesMore
import HandS.TupAny
import HandS.TupMul
import KE.KDictDisplayH
import KE.KDictPairs
import KE.SortData
import HandS.TryMany
import HandS.TryOnly
import HandS.Style
import Wide.Once
import HandS.Head0
import HandS.Head1
import HandS.Head2
import HandS.HeadNt
import PySem.Challenge.RW_wholestory_k85_texts_of_stories
set_option Elab.async false
set_option linter.all false
set_option maxRecDepth 100000
set_option maxHeartbeats 4000000
namespace Ws
open PySem PySem.Spec PyProof.Rows L2

/-! ### calls by a positional promise -/
def tCallR (sp : Sp) (E : XK) (t : TA) : TE := fun σ H Q => t σ H fun vs H1 => sp vs H1 Q E
def tMethR (C : Addr) (m : Str) (sp : Sp) (E : XK) (ta : TE) (t : TA) : TE := fun σ H Q => ta σ H fun x H1 =>
  ∃ a dx fs, x = .ref a ∧ H1 a = some (.ins C dx fs) ∧ fs.lookup m = none ∧ t σ H1 fun vs H2 => sp (.ref a :: vs) H2 Q E
section
variable {X : Cx} {CX : CXT} {k : Nat} {f C : Addr} {sp : Sp} {E : XK} {x m : Str} {e o : Expr} {es : List Expr} {ta : TE} {t : TA} {p pos apos : Pos}
theorem pe_callR (F : FnR X.prog X.w X.K X.mg X.base CX k f sp) (hr : Room k X.A) (hg : Gl X x) (hm : X.mg x = some (.ref f)) (hk : PySem.W.keepIn X.K (.ref f) = true) (hx : Passes CX X E) (ha : PA X (e :: es) t)
    (hd : (x == ("__debug__" : Str)) = false := by decide) (he : starEach (e :: es) X.env = (false, eval e X.env) :: starEach es X.env := by rfl)
    (hpl : (backTo pos (starEach es X.env)).any (·.1) = false := by rfl) : PE X (.Call (.Name x p) (e :: es) [] pos) (tCallR sp E t) := by
  constructor
  intro pins s σ H Q I h
  apply wpAny_Call_Name_kw (ld_glob I hg hm ?_ hd)
  apply PySem.W.callWith_K (h₀ := X.base) I.ok.mod.kin hk ?_ he hpl
  exact thn (ha.run pos pins s σ H _ I h) fun us s1 ⟨vs, H1, I1, r, q⟩ => ⟨I1.kIn, wpAny_call (run_fnR F hr hx I1 r q)⟩
theorem pe_callR0 (F : FnR X.prog X.w X.K X.mg X.base CX k f sp) (hr : Room k X.A) (hg : Gl X x) (hm : X.mg x = some (.ref f)) (hk : PySem.W.keepIn X.K (.ref f) = true) (hx : Passes CX X E)
    (hd : (x == ("__debug__" : Str)) = false := by decide) : PE X (.Call (.Name x p) [] [] pos) (tCallR sp E tNil) := by
  constructor
  intro pins s σ H Q I h
  apply wpAny_Call_Name_kw (ld_glob I hg hm ?_ hd)
  exact PySem.W.callWith_K0 I.kIn hk (wpAny_call (run_fnR (us := []) F hr hx I .nil h))
theorem pe_methR {pl : Sem Bool} (he : PE X o ta) (c : Cls X.K C) (hm : Meth X.K C m f) (F : FnR X.prog X.w X.K X.mg X.base CX k f sp) (hr : Room k X.A) (hx : Passes CX X E) (ha : PA X (e :: es) t)
    (hst : starEach (e :: es) X.env = (false, eval e X.env) :: starEach es X.env := by rfl) (hpl : (backTo pos (starEach es X.env)).any (·.1) = false := by rfl)
    (ht : eval (.Call (.Attribute o m apos) (e :: es) [] pos) X.env = (do
      let ov ← eval o X.env
      standAt apos.atName
      let (f, first) ← holding [ov] (getMethod ov m pl)
      callWith pos f first (backTo pos (starEach (e :: es) X.env)) (backToKw pos (keywordEach [] X.env))) := by rfl) :
    PE X (.Call (.Attribute o m apos) (e :: es) [] pos) (tMethR C m sp E ta t) := by
  constructor
  intro pins s σ H Q I h
  apply PySem.W.methodCall_KW (pl := pl) ?_ ht
  refine thn (he.run pins s σ H _ I h) fun u s1 ⟨x, H1, I1, rx, a, dx, fs, ex, ea, l, q⟩ => ?_
  subst ex
  cases (show u = Value.ref a from rx)
  refine getmeth_ok I1 ea c hm l ?_
  apply PySem.W.callWith_K (first := [.ref a]) (h₀ := X.base) I.ok.mod.kin hm.kp ?_ hst hpl
  exact thn (ha.run pos pins s1 σ H1 _ I1 q) fun us s2 ⟨vs, H2, I2, r, q2⟩ => ⟨I2.kIn, wpAny_call (run_fnR (us := .ref a :: us) (vs := .ref a :: vs) F hr hx I2 (.cons rfl r) q2)⟩
theorem pe_methR0 {pl : Sem Bool} (he : PE X o ta) (c : Cls X.K C) (hm : Meth X.K C m f) (F : FnR X.prog X.w X.K X.mg X.base CX k f sp) (hr : Room k X.A) (hx : Passes CX X E)
    (ht : eval (.Call (.Attribute o m apos) [] [] pos) X.env = (do
      let ov ← eval o X.env
      standAt apos.atName
      let (f, first) ← holding [ov] (getMethod ov m pl)
      callWith pos f first (backTo pos (starEach [] X.env)) (backToKw pos (keywordEach [] X.env))) := by rfl) :
    PE X (.Call (.Attribute o m apos) [] [] pos) (tMethR C m sp E ta tNil) := by
  constructor
  intro pins s σ H Q I h
  apply PySem.W.methodCall_KW (pl := pl) ?_ ht
  refine thn (he.run pins s σ H _ I h) fun u s1 ⟨x, H1, I1, rx, a, dx, fs, ex, ea, l, q⟩ => ?_
  subst ex
  cases (show u = Value.ref a from rx)
  refine getmeth_ok I1 ea c hm l ?_
  exact PySem.W.callWith_K0 (first := [.ref a]) I1.kIn hm.kp (wpAny_call (run_fnR (us := [.ref a]) (vs := [.ref a]) F hr hx I1 (.cons rfl .nil) q))
end
end Ws

set_option Elab.async false
set_option linter.all false
set_option maxRecDepth 100000
set_option maxHeartbeats 4000000
namespace Ws
open PySem PySem.Spec PyProof.Rows L2
theorem rr (a : Addr) : RelV (.ref a) (.ref a) := rfl
section
variable {X : Cx} {pins : List (Addr × Obj)} {σ : L2.St} {H : Hp} {s : Shared} {CX : CXT} {n : Nat} {g C : Addr} {sp : Sp} {E : XK}
/-- a def run from within a built-in -/
theorem run_sub {A : Around} {Q : VK} {us : List Value} {ws : List V} (F : FnR X.prog X.w X.K X.mg X.base CX n g sp) (hr : Room n A) (fr : A.frames = X.A.frames) (hx : Passes CX X E)
    (I : Inv X pins σ H s) (r : Vals ws us) (h : sp ws H Q E) : wpAny (model X.prog X.w) A (call (.ref g) us) (EP X pins σ Q) X.xe s := by
  have e := I.env0
  have e0 : Env0 X.prog X.w X.K X.mg X.base A X.stack s H := { frames := by rw [fr]; exact e.frames, mod := e.mod, bs := e.bs, bsz := e.bsz, funs := e.funs, frf := e.frf, hok := e.hok, bare := e.bare }
  apply wpAny_call
  refine codeAny_mono (F A X.stack s H us ws Q E hr e0 r h) fun r s' hq => ?_
  match r, hq with
  | .error e, hq => exact hx pins σ H s e s' I hq
  | .ok (.ret u), hq => exact I.after hq
  | .ok .next, hq => exact False.elim hq
  | .ok .brk, hq => exact False.elim hq
  | .ok .cont, hq => exact False.elim hq
/-- what stands at a tracked instance -/
theorem inst_of {a dx : Addr} {fs : List (Str × V)} (I : Inv X pins σ H s) (ha : H a = some (.ins C dx fs)) : ∃ od, PySem.W.InstAt s.heap a (PySem.W.instObj C dx) C (some od) := by
  obtain ⟨mA, O, _⟩ := ins_get I.hok ha
  obtain ⟨od, J, _⟩ := O.look
  exact ⟨od, J⟩
end

/-! ### o[i] -/
def tGetI (C : Addr) (sp : Sp) (E : XK) (ta tb : TE) : TE := fun σ H Q => ta σ H fun x H1 => tb σ H1 fun y H2 => ∃ a dx fs, x = .ref a ∧ H2 a = some (.ins C dx fs) ∧ sp [x, y] H2 Q E
section
variable {X : Cx} {CX : CXT} {n : Nat} {g C : Addr} {sp : Sp} {E : XK} {o i : PySem.Expr} {ta tb : TE} {pos : Pos}
theorem pe_getI (hs : PySem.W.findIn X.K (.ref C) "__getitem__" = some (some (.ref g))) (hf : PySem.W.fnIn X.K g = true) (hfn : PySem.W.isFn X.K (.ref g) = true)
    (F : FnR X.prog X.w X.K X.mg X.base CX n g sp) (hr : Room (n + 1) X.A) (hx : Passes CX X E) (ho : PE X o ta) (hi : PE X i tb)
    (hsl : ∀ a v, subscripted i true (.ref a) v = runValue (.builtin "lifetime.subscript" ⟨[.ref a, v], []⟩) := by intro _ _; with_unfolding_all rfl) :
    PE X (.Subscript o i pos) (tGetI C sp E ta tb) := by
  constructor
  intro pins s σ H Q I h
  refine Subscript_ (binT ho hi I h fun v u s2 x y H2 I2 rx ry q => ?_)
  obtain ⟨a, dx, fs, rfl, ha, q⟩ := q
  cases (show v = Value.ref a from rx)
  obtain ⟨od, J⟩ := inst_of I2 ha
  obtain ⟨m, hF⟩ := I2.fr
  exact PySem.W.sub_K hF I2.ok.mod.kin J hs hf hfn (run_sub F hr.in1 rfl hx I2 (.cons (rr a) (.cons ry .nil)) q) (hsl _ _)
end

/-! ### in, not in -/
def rInI (C : Addr) (sp : Sp) (E : XK) (neg : Bool) : R2 := fun x y H Q => ∃ a dx fs, y = .ref a ∧ H a = some (.ins C dx fs) ∧ sp [y, x] H (fun v H' => ∃ k, v = .bl k ∧ Q (.bl (if neg then !k else k)) H') E
section
variable {X : Cx} {CX : CXT} {n : Nat} {g C : Addr} {sp : Sp} {E : XK}
theorem op_inI (hs : PySem.W.findIn X.K (.ref C) "__contains__" = some (some (.ref g))) (hf : PySem.W.isFn X.K (.ref g) = true)
    (F : FnR X.prog X.w X.K X.mg X.base CX n g sp) (hr : Room n X.A) (hx : Passes CX X E) : OpR X (compareOp .In) (rInI C sp E false) := by
  intro pins s σ H x y v u Q I rx ry h
  obtain ⟨a, dx, fs, rfl, ha, q⟩ := h
  cases (show u = Value.ref a from ry)
  obtain ⟨od, J⟩ := inst_of I ha
  obtain ⟨m, hF⟩ := I.fr
  refine PySem.W.in_K hF I.ok.mod.kin J hs hf (wpAny_mono (run_sub F hr rfl hx I (.cons (rr a) (.cons rx .nil)) q) (fun r s' z => ?_) fun _ _ e => e)
  obtain ⟨z', H', I', rz, k, ek, q'⟩ := z
  subst ek
  cases (show r = Value.bool k from rz)
  exact wpAny_truthy_bool ⟨.bl k, H', I', rfl, q'⟩
theorem op_notInI (hs : PySem.W.findIn X.K (.ref C) "__contains__" = some (some (.ref g))) (hf : PySem.W.isFn X.K (.ref g) = true)
    (F : FnR X.prog X.w X.K X.mg X.base CX n g sp) (hr : Room n X.A) (hx : Passes CX X E) : OpR X (compareOp .NotIn) (rInI C sp E true) := by
  intro pins s σ H x y v u Q I rx ry h
  obtain ⟨a, dx, fs, rfl, ha, q⟩ := h
  cases (show u = Value.ref a from ry)
  obtain ⟨od, J⟩ := inst_of I ha
  obtain ⟨m, hF⟩ := I.fr
  refine PySem.W.notIn_K hF I.ok.mod.kin J hs hf (wpAny_mono (run_sub F hr rfl hx I (.cons (rr a) (.cons rx .nil)) q) (fun r s' z => ?_) fun _ _ e => e)
  obtain ⟨z', H', I', rz, k, ek, q'⟩ := z
  subst ek
  cases (show r = Value.bool k from rz)
  exact wpAny_truthy_bool ⟨.bl (!k), H', I', rfl, q'⟩
end

/-! ### != of an own class that has __eq__ alone -/
section
open PySem.Calls PySem.Builtin
variable {prog : Program} {w : World} {A : Around} {E : Value → Shared → Prop} {s : Shared} {K : PySem.W.Frag} {x C L f : Addr} {h₀ : Heap} {m : Str → Option Value} {ox : Obj} {od : Option Obj} {b tb : Value}
theorem ifBound_B {M : Model} {A : Around} {name : Str} {id : String} {args : List Value} {Q : Option Value → Shared → Prop} (KX : K.In s.heap) (I : PySem.W.InstAt s.heap x ox C od)
    (hs : PySem.W.findIn K (.ref C) name = some (some (.builtin id))) (hb : ∀ self, bindSpecial (.builtin id) self = pure (.builtin id, [self]))
    (h : wpAny M A (call (.builtin id) (.ref x :: args)) (fun v => Q (some v)) E s) : wpAny M A (callSpecialIfBound? (.ref x) name args) Q E s := by
  unfold callSpecialIfBound? bindSpecialIfBound?
  refine wpAny_holding (wpAny_bind (wpAny_bind (wpAny_bind (I.type.here ((PySem.W.looks_findIn KX hs).here ?_)))))
  have fin : wpAny M A (call (.builtin id) ([.ref x] ++ args) >>= fun v => pure (some v)) Q E s :=
    wpAny_bind (wpAny_mono h (fun v s' q => wpAny_pure q) fun _ _ q => q)
  refine wpAny_bind (wpAny_askSetting (wpAny_ite ?_))
  split
  · exact wpAny_bind ((PySem.W.Looks.of_pure (hb _)).here (wpAny_pure (by exact fin)))
  · exact wpAny_tryCatch (wpAny_bind ((PySem.W.Looks.of_pure (hb _)).here (wpAny_pure (by exact fin))))
theorem ne_call {Q : Value → Shared → Prop} (hu : A.in1.units < cLine) (KX : K.In s.heap) (I : PySem.W.InstAt s.heap x ox C od) (hm : PySem.W.mroIn K C (.type "object") = some true)
    (hq : PySem.W.findIn K (.ref C) "__eq__" = some (some (.ref f))) (hf : PySem.W.isFn K (.ref f) = true)
    (h : wpAny (model prog w) A.in1 (call (.ref f) [.ref x, b]) (fun r s' => ∃ k, r = .bool k ∧ Q (.bool (!k)) s') E s) : wpAny (model prog w) A (call (.builtin "object.__ne__") [.ref x, b]) Q E s := by
  apply wpAny_call
  apply codeAny_call_builtin PySem.F.slot_object_ne.plain PySem.F.entry_object_ne
  apply PySem.W.check_slot (i := "object.__ne__") (owner := "object") (n := "__ne__") (by decide +kernel) (by decide +kernel) (I.type.andThen (PySem.W.looks_mroIn KX hm)) (PySem.F.cmpArgs_ne _ _)
  unfold Builtin.«object.__ne__»
  refine wpAny_bind (m := slotArgs "__ne__" 1 _) (wpAny_pure ?_)
  refine wpAny_bind (m := cRoomFor _ _) (wpAny_cRoomFor hu ?_)
  refine wpAny_bind (m := callSpecialIfBound? (.ref x) (Str.ofString "__eq__") [b]) (PySem.W.ifBound_K KX I hq hf (wpAny_mono h (fun r s' z => ?_) fun _ _ y => y))
  obtain ⟨k, rfl, q⟩ := z
  exact wpAny_bind (wpAny_truthy_bool (wpAny_pure q))
theorem ne_K {Q : Value → Shared → Prop} (hu : A.in1.units < cLine) (F : Fr h₀ L s.heap m) (X₀ : K.In h₀) (I : PySem.W.InstAt s.heap x ox C od) (hb : PySem.W.Looks (model prog w) s.heap (typeOf b) tb)
    (hn : PySem.W.notFirst K C tb = true) (hne : PySem.W.findIn K (.ref C) "__ne__" = some (some (.builtin "object.__ne__"))) (hm : PySem.W.mroIn K C (.type "object") = some true)
    (hq : PySem.W.findIn K (.ref C) "__eq__" = some (some (.ref f))) (hf : PySem.W.isFn K (.ref f) = true)
    (h : wpAny (model prog w) A.in1 (call (.ref f) [.ref x, b]) (fun r s' => ∃ k, r = .bool k ∧ Q (.bool (!k)) s') E s) :
    wpAny (model prog w) A (richCompare .NotEq (.ref x) b) Q E s := by
  have KX := X₀.keeps F.keep
  have hu0 : A.units < cLine := Nat.lt_of_succ_lt hu
  have one : wpAny (model prog w) A (tryCompare (.ref x) (cmpInfo .NotEq).2.1 b) (fun r s' => ∃ k, r = some (Value.bool k) ∧ Q (.bool k) s') E s := by
    unfold tryCompare
    refine wpAny_bind (ifBound_B KX I hne PySem.F.slot_object_ne.bind (ne_call (Q := fun v s' => wpAny (model prog w) A (match some v with
      | some .notImplemented | none => pure none
      | some v => pure (some v)) (fun r s' => ∃ k, r = some (Value.bool k) ∧ Q (.bool k) s') E s') hu KX I hm hq hf (wpAny_mono h (fun r s' z => ?_) fun _ _ e => e)))
    obtain ⟨k, rfl, q⟩ := z
    exact ⟨k, rfl, wpAny_pure ⟨_, rfl, q⟩⟩
  unfold richCompare
  simp only [PySem.oneThing_ref]
  refine wpAny_holding (wpAny_bind (wpAny_cRoomFor hu0 ?_))
  refine wpAny_bind (I.type.here (wpAny_bind (hb.here ?_)))
  split
  · rename_i q
    have e : PySem.W.subIn K tb (.ref C) = some false := by
      rcases Bool.or_eq_true_iff.mp hn with e | e
      · rw [beq_iff_eq.mp e] at q; simp at q
      · exact beq_iff_eq.mp e
    refine wpAny_bind ((PySem.W.looks_subIn KX e).here ?_)
    simp only [Bool.false_eq_true, if_false]
    refine wpAny_bind (wpAny_mono one (fun r s' z => ?_) fun _ _ e => e)
    obtain ⟨k, rfl, hq⟩ := z
    exact wpAny_pure hq
  · refine wpAny_bind (wpAny_pure ?_)
    simp only [Bool.false_eq_true, if_false]
    refine wpAny_bind (wpAny_mono one (fun r s' z => ?_) fun _ _ e => e)
    obtain ⟨k, rfl, hq⟩ := z
    exact wpAny_pure hq
end

/-! ### ==, != of two instances -/
def rEqI (K : PySem.W.Frag) (C : Addr) (sp : Sp) (E : XK) (neg : Bool) : R2 := fun x y H Q => ∃ a dx fs b C' dy gs, x = .ref a ∧ y = .ref b ∧ H a = some (.ins C dx fs) ∧ H b = some (.ins C' dy gs) ∧
  PySem.W.notFirst K C (.ref C') = true ∧ sp [x, y] H (fun v H' => ∃ k, v = .bl k ∧ Q (.bl (if neg then !k else k)) H') E
section
variable {X : Cx} {CX : CXT} {n : Nat} {g C : Addr} {sp : Sp} {E : XK}
theorem op_eqI (hs : PySem.W.findIn X.K (.ref C) "__eq__" = some (some (.ref g))) (hf : PySem.W.isFn X.K (.ref g) = true)
    (F : FnR X.prog X.w X.K X.mg X.base CX n g sp) (hr : Room n X.A) (hx : Passes CX X E) : OpR X (compareOp .Eq) (rEqI X.K C sp E false) := by
  intro pins s σ H x y v u Q I rx ry h
  obtain ⟨a, dx, fs, b, C', dy, gs, rfl, rfl, ha, hb, hn, q⟩ := h
  cases (show v = Value.ref a from rx)
  cases (show u = Value.ref b from ry)
  obtain ⟨od, J⟩ := inst_of I ha
  obtain ⟨od', J'⟩ := inst_of I hb
  obtain ⟨m, hF⟩ := I.fr
  show wpAny _ _ (richCompare .Eq (.ref a) (.ref b)) _ _ _
  refine PySem.W.cmp_K (op := .Eq) (tb := .ref C') hr.units0 hF I.ok.mod.kin J J'.type hn hs hf (wpAny_mono (run_sub F hr rfl hx I (.cons (rr a) (.cons (rr b) .nil)) q) (fun r s' z => ?_) fun _ _ e => e)
  obtain ⟨z', H', I', rz, k, ek, q'⟩ := z
  subst ek
  cases (show r = Value.bool k from rz)
  exact ⟨.bl k, H', I', rfl, q'⟩
theorem op_neI (hne : PySem.W.findIn X.K (.ref C) "__ne__" = some (some (.builtin "object.__ne__"))) (hm : PySem.W.mroIn X.K C (.type "object") = some true)
    (hs : PySem.W.findIn X.K (.ref C) "__eq__" = some (some (.ref g))) (hf : PySem.W.isFn X.K (.ref g) = true)
    (F : FnR X.prog X.w X.K X.mg X.base CX n g sp) (hr : Room (n + 1) X.A) (hx : Passes CX X E) : OpR X (compareOp .NotEq) (rEqI X.K C sp E true) := by
  intro pins s σ H x y v u Q I rx ry h
  obtain ⟨a, dx, fs, b, C', dy, gs, rfl, rfl, ha, hb, hn, q⟩ := h
  cases (show v = Value.ref a from rx)
  cases (show u = Value.ref b from ry)
  obtain ⟨od, J⟩ := inst_of I ha
  obtain ⟨od', J'⟩ := inst_of I hb
  obtain ⟨m, hF⟩ := I.fr
  show wpAny _ _ (richCompare .NotEq (.ref a) (.ref b)) _ _ _
  refine ne_K (tb := .ref C') hr.in1.units0 hF I.ok.mod.kin J J'.type hn hne hm hs hf (wpAny_mono (run_sub F hr.in1 rfl hx I (.cons (rr a) (.cons (rr b) .nil)) q) (fun r s' z => ?_) fun _ _ e => e)
  obtain ⟨z', H', I', rz, k, ek, q'⟩ := z
  subst ek
  cases (show r = Value.bool k from rz)
  exact ⟨k, rfl, .bl (!k), H', I', rfl, q'⟩
end
end Ws

set_option Elab.async false
set_option linter.all false
set_option maxRecDepth 100000
set_option maxHeartbeats 4000000
namespace Ws
open PySem PySem.Spec PyProof.Rows L2

mutual
/-- no more signs than these in the text of data -/
def bD : PyData → Nat
  | .none => 4
  | .bool _ => 5
  | .int i => i.natAbs.log2 + 3
  | .str x => 10 * x.length + 2
  | .list xs => bDs xs + 3
  | .tuple xs => bDs xs + 3
  | .dict _ => 0
def bDs : List PyData → Nat
  | [] => 0
  | x :: xs => bD x + 2 + bDs xs
end
mutual
/-- data without dicts, its signs real ones, its numbers not too long -/
def okD : PyData → Bool
  | .none => true
  | .bool _ => true
  | .int i => decide (i.natAbs.log2 < 1920)
  | .str x => x.cps.toList.all fun c => decide (c < 16 ^ 8)
  | .list xs => okDs xs
  | .tuple xs => okDs xs
  | .dict _ => false
def okDs : List PyData → Bool
  | [] => true
  | x :: xs => okD x && okDs xs
end
theorem slen (a b : Str) : (a ++ b).length = a.length + b.length := strLen_append a b
theorem textFrom_le : ∀ (ts : List Str) (k : Nat) (acc : Str), (textFrom k acc ts).length ≤ acc.length + (ts.map fun t => t.length + 2).sum
  | [], k, acc => by simp [textFrom]
  | t :: ts, k, acc => by
    have ih := textFrom_le ts (k + 1) (acc ++ (if k > 0 then ", " else "" : String) ++ t)
    have e : (acc ++ (if k > 0 then ", " else "" : String) ++ t).length ≤ acc.length + 2 + t.length := by
      rw [slen, slen]
      have h2 : (((if k > 0 then ", " else "" : String)) : Str).length ≤ 2 := by
        split
        · exact Nat.le_refl 2
        · exact Nat.zero_le 2
      omega
    show (textFrom (k + 1) (acc ++ (if k > 0 then ", " else "" : String) ++ t) ts).length ≤ _
    simp only [List.map_cons, List.sum_cons]
    omega
theorem join_le : ∀ ts : List Str, (Str.join ", " ts).length ≤ (ts.map fun t => t.length + 2).sum
  | [] => Nat.zero_le _
  | [x] => by
    show x.length ≤ _
    simp
  | x :: y :: r => by
    have ih := join_le (y :: r)
    show (x ++ ", " ++ Str.join ", " (y :: r)).length ≤ _
    rw [slen, slen]
    have h2 : ((", " : String) : Str).length = 2 := rfl
    rw [List.map_cons, List.sum_cons, h2]
    omega
theorem natText_le (n : Nat) : (toString n).length ≤ n.log2 + 1 := by
  have h : n < 2 ^ (n.log2 + 1) := Nat.lt_log2_self
  exact nat_repr_length_le (by omega) h
theorem intText_le (i : Int) : ((toString i : String) : Str).length ≤ i.natAbs.log2 + 3 := by
  rw [PySem.ofString_length]
  cases i with
  | ofNat n =>
    have := natText_le n
    show (toString n).length ≤ n.log2 + 3
    omega
  | negSucc n =>
    have := natText_le (n + 1)
    show ("-" ++ toString (n + 1)).length ≤ (n + 1).log2 + 3
    rw [String.length_append]
    have h1 : ("-" : String).length = 1 := rfl
    omega
mutual
theorem shown_le : ∀ d : PyData, okD d = true → (PyData.shown d).length ≤ bD d
  | .none, _ => by
    show (("None" : String) : Str).length ≤ 4
    exact Nat.le_refl 4
  | .bool b, _ => by
    cases b
    · exact Nat.le_refl 5
    · exact Nat.le_succ 4
  | .int i, _ => intText_le i
  | .str x, h => by
    have h2 : ∀ c ∈ x.cps.toList, c < 16 ^ 8 := fun c hc => of_decide_eq_true (List.all_eq_true.mp (show (x.cps.toList.all fun c => decide (c < 16 ^ 8)) = true from h) c hc)
    exact StrLaws.reprText_len x h2
  | .list xs, h => by
    have ih := shownAll_le xs h
    show (textFrom 0 "[" (PyData.shownAll xs) ++ ("]" : String)).length ≤ bDs xs + 3
    rw [slen]
    have h1 := textFrom_le (PyData.shownAll xs) 0 "["
    have e1 : (("[" : String) : Str).length = 1 := rfl
    have e2 : (("]" : String) : Str).length = 1 := rfl
    omega
  | .tuple xs, h => by
    have ih := shownAll_le xs h
    show (("(" : Str) ++ Str.join ", " (PyData.shownAll xs) ++ (if (PyData.shownAll xs).length == 1 then ",)" else ")" : String)).length ≤ bDs xs + 3
    rw [slen, slen]
    have h1 := join_le (PyData.shownAll xs)
    have e1 : (("(" : String) : Str).length = 1 := rfl
    have e2 : ((if (PyData.shownAll xs).length == 1 then ",)" else ")" : String) : Str).length ≤ 2 := by
      split
      · exact Nat.le_refl 2
      · exact Nat.le_succ 1
    omega
  | .dict _, h => by cases h
theorem shownAll_le : ∀ xs : List PyData, okDs xs = true → ((PyData.shownAll xs).map fun t => t.length + 2).sum ≤ bDs xs
  | [], _ => Nat.le_refl _
  | x :: xs, h => by
    obtain ⟨h1, h2⟩ := Bool.and_eq_true_iff.mp (show (okD x && okDs xs) = true from h)
    have a := shown_le x h1
    have b := shownAll_le xs h2
    show ((PyData.shown x :: PyData.shownAll xs).map fun t => t.length + 2).sum ≤ bD x + 2 + bDs xs
    rw [List.map_cons, List.sum_cons]
    omega
end
mutual
theorem showable_of : ∀ d : PyData, okD d = true → PyData.showable d = true
  | .none, _ => rfl
  | .bool _, _ => rfl
  | .int _, h => h
  | .str _, _ => rfl
  | .list xs, h => showableAll_of xs h
  | .tuple xs, h => showableAll_of xs h
  | .dict _, h => by cases h
theorem showableAll_of : ∀ xs : List PyData, okDs xs = true → PyData.showableAll xs = true
  | [], _ => rfl
  | x :: xs, h => by
    obtain ⟨h1, h2⟩ := Bool.and_eq_true_iff.mp (show (okD x && okDs xs) = true from h)
    show (PyData.showable x && PyData.showableAll xs) = true
    rw [showable_of x h1, showableAll_of xs h2]
    rfl
end
mutual
theorem noDict_of : ∀ d : PyData, okD d = true → PyData.hasDict d = false
  | .none, _ => rfl
  | .bool _, _ => rfl
  | .int _, _ => rfl
  | .str _, _ => rfl
  | .list xs, h => noDictAll_of xs h
  | .tuple xs, h => noDictAll_of xs h
  | .dict _, h => by cases h
theorem noDictAll_of : ∀ xs : List PyData, okDs xs = true → PyData.hasDictAll xs = false
  | [], _ => rfl
  | x :: xs, h => by
    obtain ⟨h1, h2⟩ := Bool.and_eq_true_iff.mp (show (okD x && okDs xs) = true from h)
    show (PyData.hasDict x || PyData.hasDictAll xs) = false
    rw [noDict_of x h1, noDictAll_of xs h2]
    rfl
end

/-- repr(x), x data -/
def rRepr (K : PySem.W.Frag) : List V → Hp → VK → Prop := fun xs H Q => ∃ x d, xs = [x] ∧ Dp K H x d ∧ okD d = true ∧ bD d ≤ sizeLine ∧ d.depth ≤ 60 ∧ Q (.str d.shown) H
theorem call_reprD {X : Cx} (hg : X.A.guards = some []) (hu : X.A.units + 64 < cLine) : CallR X (.builtin "repr") (rRepr X.K) := by
  intro pins s σ H xs us Q I r h
  obtain ⟨x, d, rfl, hd, hk, hb, hp, q⟩ := h
  obtain ⟨u, rfl, ru⟩ := vals1 r
  obtain ⟨as, hr⟩ := Dp.reads I d x u hd ru
  have hz : d.shown.length ≤ sizeLine := Nat.le_trans (shown_le d hk) hb
  match x, d, hd, ru, hr, hk, hz, q with
  | .non, .none, .non, ru, hr, hk, hz, q =>
    cases (show u = Value.none from ru)
    exact P.repr_of_none ⟨.str _, H, I.tok _, ⟨_, rfl⟩, q⟩
  | .bl b, .bool _, .bl _, ru, hr, hk, hz, q =>
    cases (show u = Value.bool b from ru)
    exact P.repr_of_bool ⟨.str _, H, I.tok _, ⟨_, rfl⟩, q⟩
  | .int i, .int _, .int _, ru, hr, hk, hz, q =>
    obtain ⟨t, rfl⟩ := (show ∃ t, u = Value.int i t from ru)
    exact P.repr_of_int (of_decide_eq_true hk) ⟨.str _, H, I.tok _, ⟨_, rfl⟩, q⟩
  | .str z, .str _, .str _, ru, hr, hk, hz, q =>
    obtain ⟨t, rfl⟩ := (show ∃ t, u = Value.str z t from ru)
    exact P.repr_of_str ⟨.str _, H, I.tok _, ⟨_, rfl⟩, q⟩ hz
  | .ref a, d, hd, ru, hr, hk, hz, q =>
    cases (show u = Value.ref a from ru)
    exact repr_of_reads' hr (showable_of d hk) (PyData.noDict_hsm (noDict_of d hk)) hg (by omega) (fun _ _ e => e) (fun h' u tk k => ⟨.str _, H, I.kept k, ⟨_, rfl⟩, q⟩) hz
end Ws

set_option Elab.async false
set_option linter.all false
set_option maxRecDepth 100000
set_option maxHeartbeats 4000000
namespace Ws
open PySem PySem.Spec PyProof.Rows L2
/-- a positional promise, where no guard runs around -/
def FnRG (P : Program) (w : World) (K : PySem.W.Frag) (mg : Str → Option Value) (base : Heap) (CX : CXT) (k : Nat) (f : Addr) (sp : Sp) : Prop :=
  ∀ (A : Around) (outer : List Env) (s : Shared) (H : Hp) (us : List Value) (vs : List V) (Q : VK) (E : XK),
    A.guards = some [] → Room k A → Env0 P w K mg base A outer s H → Vals vs us → sp vs H Q E → codeAny (model P w) A (.call (.ref f) ⟨us, []⟩) (CR CX outer P w H s Q E) s
section
variable {P : Program} {w : World} {K : PySem.W.Frag} {mg : Str → Option Value} {base : Heap} {CX : CXT} {k : Nat} {f : Addr} {sp : Sp}
/-- such a def, by its body -/
theorem FunD.okG {x qual : Str} {params : Arguments} {body : List Stmt} {scope : Scope} {dvs : List V} {kws : List (Str × V)} {fd : FuncData} {N ps : List Str} {ds : List Value} {es : List V}
    (F : FunD K x qual params body scope dvs kws f fd) (S : FnScope N ps scope) (B : Binds K fd ps ds) (D : Vals es ds) (len : ∀ vs H Q E, sp vs H Q E → (vs ++ es).length = ps.length)
    (hbody : ∀ (cdv : Value) (A : Around) (outer : List Env) (s : Shared) (H : Hp) (vs : List V) (Q : VK) (E : XK), A.guards = some [] →
      Room k (A.deeper (envOfC qual scope s.heap.objs.size f cdv)) → sp vs H Q E →
      ∃ t, PSs (cxOf CX P w K mg base N qual scope f cdv A outer s H E) body t ∧ t { nx := fun _ H' => Q .non H', rt := Q } (start N (vs ++ es)) H) :
    FnRG P w K mg base CX (k + 1) f sp := by
  intro A outer s H us vs Q E hg hr e0 r hsp
  obtain ⟨oc, od, dV, kV, doc, pm, an, cdv, ct, osl, rfl, lk, hcd, _, _⟩ := F.ex
  have kin : K.In s.heap := e0.mod.kin.keeps fun b o e => (e0.bs b o e).1
  have nol : s.heap.NoLimit := e0.mod.nolimit.keeps fun b o e => (e0.bs b o e).1
  have r' : Vals (vs ++ es) (us ++ ds) := r.append D
  have hl : (vs ++ es).length = ps.length := len _ _ _ _ hsp
  have hl' : (us ++ ds).length = ps.length := r'.length ▸ hl
  have kinds : ∀ y ∈ ps.zip (us ++ ds), scope.names.lookup y.1 = some .local ∨
      (scope.names.lookup y.1 = some .cell ∧ ((cellsFrom (s.heap.objs.size + 1) scope.names []).lookup y.1).isSome = true) := by
    rintro ⟨n, v⟩ hy
    have hn := S.par n (List.of_mem_zip hy).1
    exact hn.imp id fun q => ⟨q, PySem.W.cellsFrom_some _ _ _ (.inl q)⟩
  apply codeAny_call_function hr.depth (kin _ _ lk) rfl S.co S.gen rfl (PySem.W.codeRec_of kin hcd) (B s us kin hl' _ _ _ _ ?_)
  refine wpAny_newFunctionEnv_cells S.kind kinds fun env he s1 x => ?_
  subst he
  refine ⟨nol.keeps x.toInCall.keep, codeAny_func ?_⟩
  obtain ⟨t, ht, hq⟩ := hbody cdv A outer s H vs Q E hg (hr.deeper _) hsp
  have J0 := inv_start (CX := CX) (P := P) (w := w) (K := K) (mg := mg) (base := base) (outer := outer) (E := E) S hr.hd e0 hl r' x
  refine wpAny_mono (ht.run [] s1 _ H _ J0 hq) (fun fl s' hs => ?_) fun _ _ z => z
  match fl, hs with
  | .ret u, hs => obtain ⟨v, σ', H', J, rv, q⟩ := hs; exact ⟨v, H', J.os, J.bare, J.base, J.hok, rv, q⟩
  | .next, hs => obtain ⟨σ', H', J, q⟩ := hs; exact ⟨V.non, H', J.os, J.bare, J.base, J.hok, rfl, q⟩
  | .brk, hs => obtain ⟨_, _, _, q⟩ := hs; exact False.elim q
  | .cont, hs => obtain ⟨_, _, _, q⟩ := hs; exact False.elim q
theorem FnRG.mono {j : Nat} (F : FnRG P w K mg base CX j f sp) (h : j ≤ k) : FnRG P w K mg base CX k f sp :=
  fun A outer s H us vs Q E hg hr => F A outer s H us vs Q E hg (hr.mono h)
theorem FnRG.of (F : FnR P w K mg base CX k f sp) : FnRG P w K mg base CX k f sp :=
  fun A outer s H us vs Q E _ hr => F A outer s H us vs Q E hr
end
section
variable {X : Cx} {CX : CXT} {k : Nat} {f : Addr} {sp : Sp} {E : XK} {x : Str} {e : PySem.Expr} {es : List PySem.Expr} {t : TA} {p pos : Pos}
theorem pe_callG (F : FnRG X.prog X.w X.K X.mg X.base CX k f sp) (gu : X.A.guards = some []) (hr : Room k X.A) (hg : Gl X x) (hm : X.mg x = some (.ref f)) (hk : PySem.W.keepIn X.K (.ref f) = true)
    (hx : Passes CX X E) (ha : PA X (e :: es) t) (hd : (x == ("__debug__" : Str)) = false := by decide) (he : starEach (e :: es) X.env = (false, eval e X.env) :: starEach es X.env := by rfl)
    (hpl : (backTo pos (starEach es X.env)).any (·.1) = false := by rfl) : PE X (.Call (.Name x p) (e :: es) [] pos) (tCallR sp E t) := by
  constructor
  intro pins s σ H Q I h
  apply wpAny_Call_Name_kw (ld_glob I hg hm ?_ hd)
  apply PySem.W.callWith_K (h₀ := X.base) I.ok.mod.kin hk ?_ he hpl
  refine thn (ha.run pos pins s σ H _ I h) fun us s1 ⟨vs, H1, I1, r, q⟩ => ⟨I1.kIn, ?_⟩
  apply wpAny_call
  refine codeAny_mono (F X.A X.stack s1 H1 us vs Q E gu hr I1.env0 r q) fun r s' hq => ?_
  match r, hq with
  | .error e, hq => exact hx pins σ H1 s1 e s' I1 hq
  | .ok (.ret u), hq => exact I1.after hq
  | .ok .next, hq => exact False.elim hq
  | .ok .brk, hq => exact False.elim hq
  | .ok .cont, hq => exact False.elim hq
end
/-- the script at a, as the law is handed it -/
def scrO (vs : List Value) : Obj := { cls := .type "list", data := .seq vs.toArray }
/-- the law's call at the heap behind the top -/
theorem law_callG {P : Program} {w : World} {K : PySem.W.Frag} {mg mb : Str → Option Value} {CX : CXT} {k : Nat} {fa a : Addr} {sp : Sp} {s₁ : Shared} {vs : List Value} {ns : List Int}
    (KX : K.In s₁.heap) (gl : s₁.heap.Ns mainGlobals mg) (bl : s₁.heap.Ns builtinsNs mb) (bb : ∀ x : Str, x ≠ "__name__" → mb x = bootBuiltins x) (lim : s₁.heap.NoLimit) (gens : s₁.gens = #[])
    (ha : s₁.heap.get? a = some (scrO vs)) (hi : IntsAre vs ns) (hl : ns.length ≤ sizeLine) (hr : Room k callerA)
    (F : ∀ base : Heap, K.In base → base.Ns mainGlobals mg → FnRG P w K mg base CX k fa sp)
    (hsp : ∀ H : Hp, Only H → SqL K H a (ns.map V.int) → sp [.ref a] H (fun v _ => v = .bl true) fun _ _ _ => False) (no : ∀ H e s', CX [] H s₁ (fun _ _ _ => False) e s' → False) :
    codeAny (model P w) callerA (.call (.ref fa) ⟨[.ref a], []⟩) (fun r s' => r = .ok (.ret (.bool true)) ∧ OldK s₁.heap s'.heap ∧ s'.os = s₁.os ∧ AllBare s'.gens) s₁ := by
  have rv := vals_ints hi
  -- H tracks at most the script
  suffices key : ∀ H : Hp, (∀ b u, H b = some u → b = a ∧ u = .frz (scrO vs) (.lst (ns.map V.int)) ∧ K.lookup a = none) → SqL K H a (ns.map V.int) →
      codeAny (model P w) callerA (.call (.ref fa) ⟨[.ref a], []⟩) (fun r s' => r = .ok (.ret (.bool true)) ∧ OldK s₁.heap s'.heap ∧ s'.os = s₁.os ∧ AllBare s'.gens) s₁ by
    cases hk : K.lookup a with
    | some o =>
      have e := KX a o hk
      rw [ha] at e
      cases e
      refine key (fun _ => none) (fun b u z => nomatch (show (none : Option HO) = some u from z)) (.inr ⟨_, vs.toArray, _, hk, rfl, rfl, rfl, ?_, by simpa using rv⟩)
      rw [List.size_toArray, hi.length]
      exact hl
    | none =>
      refine key (upd (fun _ => none) a (.frz (scrO vs) (.lst (ns.map V.int)))) (fun b u z => ?_) (.inl (.inr ⟨scrO vs, upd_same⟩))
      by_cases hb : b = a
      · subst hb
        rw [upd_same] at z
        exact ⟨rfl, (Option.some.inj z).symm, hk⟩
      · rw [upd_ne hb] at z
        exact nomatch (show (none : Option HO) = some u from z)
  intro H hH hS
  have free : ∀ {b : Addr}, b ≠ a → H b = none := fun {b} hb => by
    cases q : H b with
    | none => rfl
    | some u => exact absurd (hH b u q).1 hb
  have hok : HOk P w H s₁.heap := fun b u q => by
    obtain ⟨rfl, rfl, _⟩ := hH b u q
    exact ⟨ha, by rw [List.length_map]; exact hl, vs, _, rv, ha⟩
  have nd : ∀ {b : Addr} {o : Obj} {es : Array DictEntry} {ep : Nat}, s₁.heap.get? b = some o → o.data = .dict es ep → b ≠ a := fun {b o es ep} e d z => by
    subst z
    rw [ha] at e
    cases e
    exact nomatch (show Data.seq vs.toArray _ = Data.dict es ep from d)
  have nsK : ∀ {b : Addr} {m : Str → Option Value}, s₁.heap.Ns b m → (hidT s₁.heap H).Ns b m := fun {b m} z => by
    obtain ⟨o, es, ep, e, d, r⟩ := z
    exact ⟨o, es, ep, hidT_get e (free (nd e d)), d, r⟩
  have kb : K.In (hidT s₁.heap H) := fun b o e => by
    refine hidT_get (KX b o e) ?_
    cases q : H b with
    | none => rfl
    | some u =>
      obtain ⟨rfl, _, z⟩ := hH b u q
      rw [z] at e
      cases e
  have lim' : (hidT s₁.heap H).NoLimit := by
    obtain ⟨mc, h1, h2⟩ := lim
    exact ⟨mc, nsK h1, h2⟩
  have e0 : Env0 P w K mg (hidT s₁.heap H) callerA [] s₁ H :=
    ⟨rfl, ⟨kb, nsK gl, ⟨mb, nsK bl, bb⟩, lim'⟩, fun b o e => of_hidT e, Nat.le_of_eq (hidT_size _ _), trivial, fun b hb => (by cases (show b ∈ ([] : List Addr) from hb)), hok, .of_eq gens⟩
  have only : Only H := fun b => by
    cases q : H b with
    | none => exact .inl rfl
    | some u =>
      obtain ⟨_, rfl, _⟩ := hH b u q
      exact .inr ⟨_, _, rfl⟩
  refine codeAny_mono (F _ kb (nsK gl) callerA [] s₁ H [.ref a] [.ref a] _ _ rfl hr e0 (.cons (rr a) .nil) (hsp H only hS)) fun r s' h => ?_
  match r, h with
  | .error e, h => exact (no H e s' h).elim
  | .ok .next, h => exact False.elim h
  | .ok .brk, h => exact False.elim h
  | .ok .cont, h => exact False.elim h
  | .ok (.ret u), h =>
    obtain ⟨v, H', os, bare, un, hok', r', q⟩ := h
    cases (show v = .bl true from q)
    cases (show u = Value.bool true from r')
    refine ⟨rfl, OldK.of_keep fun b o e => ?_, os, bare⟩
    cases q : H b with
    | none => exact un.keep b o e q (fun z => nomatch (show b ∈ ([] : List Addr) from z)) (fun z => nomatch z)
    | some u =>
      obtain ⟨rfl, rfl, _⟩ := hH b u q
      obtain ⟨e2, _⟩ := hok' _ _ (un.frzs _ _ _ q)
      rw [ha] at e
      cases e
      exact e2
/-- the law's walk behind a head by facts -/
theorem walk_ofG {l : PySem.W.OpenLaw} {n k : Nat} {q : Program} {loose : List Str} {XP : (Str → Option Value) → Heap → Prop} {YP : World → Heap → Prop} {d : DefRec} {CX : CXT}
    (hn : l.most = some n) (hn2 : n ≤ sizeLine) (hdf : d.params.defaults = []) (hr : Room k callerA)
    (F : ∀ (w : World) (mg : Str → Option Value) (fa : Addr) (h : Heap), YP w h → h.Ns mainGlobals mg → mg d.name = some (.ref fa) →
      ∃ (K : PySem.W.Frag) (sp : Sp), K.In h ∧
        (∀ (H : Hp) (a : Addr) (ns : List Int), ns.length ≤ n → Only H → SqL K H a (ns.map V.int) → sp [.ref a] H (fun v _ => v = .bl true) fun _ _ _ => False) ∧
        ∀ base : Heap, K.In base → base.Ns mainGlobals mg → FnRG l.prog w K mg base CX k fa sp)
    (no : ∀ (H : Hp) (s : Shared) (e : Value) (s' : Shared), CX [] H s (fun _ _ _ => False) e s' → False) :
    PySem.W.WalkO q loose XP YP l.row.toRowW d [] (fun f vs => PySem.call f vs) := by
  apply Att.attach_call hn hdf
  intro w s₀ s₁ mg mb fa o pm cd doc a vs ns G Y ho hd hcd hmg hobj hints hlen hg
  obtain ⟨K, sp, KX, hsp, hF⟩ := F w mg fa _ Y G.T.g hmg
  exact law_callG KX G.T.g G.T.b G.T.builtins G.T.nolimit hg hobj hints (Nat.le_trans hlen hn2) hr hF (fun H hO hS => hsp H a ns hlen hO hS) fun H e s' => no H s₁ e s'
end Ws

set_option Elab.async false
set_option linter.all false
set_option maxRecDepth 100000
set_option maxHeartbeats 4000000
namespace Ws
open PySem PySem.Spec PyProof.Rows L2
abbrev Eqb := V → V → Bool → Hp → Prop
/-- everything but dicts stands as it did -/
def Nd (H H' : Hp) : Prop := ∀ c o, H c = some o → (∀ kvs, o ≠ .dK kvs) → H' c = some o
theorem Nd.of {H H' : Hp} (e : Ext H H') : Nd H H' := fun c o h _ => e c o h
theorem Nd.trans {H H1 H2 : Hp} (a : Nd H H1) (b : Nd H1 H2) : Nd H H2 := fun c o h n => b c o (a c o h n) n
theorem Nd.lock {H : Hp} {d : Addr} {kvs : List (Key × V)} {o : HO} (h : H d = some (.dK kvs)) : Nd H (upd H d o) := fun c u e n => by
  have hc : c ≠ d := fun z => by
    subst z
    rw [h] at e
    cases e
    exact n _ rfl
  rw [upd_ne hc]
  exact e
def MonN (D : Eqb) : Prop := ∀ x y b H H', Nd H H' → D x y b H → D x y b H'
/-- == as a list, a tuple or a dict asks it of its items -/
def EqB (X : Cx) (n : Nat) (D : Eqb) : Prop :=
  ∀ (A : Around) (pins : List (Addr × Obj)) (s : Shared) (σ : L2.St) (H : Hp) (x y : V) (b : Bool) (u v : Value), Sub X n A → Inv X pins σ H s → RelV x u → RelV y v → D x y b H →
    wpAny (model X.prog X.w) A (eqBool u v) (fun r s' => r = b ∧ ∃ H', Inv X pins σ H' s' ∧ Ext H H') X.xe s
/-- == as the operator -/
def RcB (X : Cx) (n : Nat) (D : Eqb) : Prop :=
  ∀ (A : Around) (pins : List (Addr × Obj)) (s : Shared) (σ : L2.St) (H : Hp) (x y : V) (b : Bool) (u v : Value), Sub X n A → Inv X pins σ H s → RelV x u → RelV y v → D x y b H →
    wpAny (model X.prog X.w) A (richCompare .Eq u v) (fun r s' => r = .bool b ∧ ∃ H', Inv X pins σ H' s' ∧ Ext H H') X.xe s
section
variable {X : Cx} {n m : Nat} {D : Eqb}
theorem RcB.mono (h : RcB X n D) (hn : n ≤ m) : RcB X m D := fun A pins s σ H x y b u v sb => h A pins s σ H x y b u v (sb.mono hn)
theorem EqB.mono (h : EqB X n D) (hn : n ≤ m) : EqB X m D := fun A pins s σ H x y b u v sb => h A pins s σ H x y b u v (sb.mono hn)
/-- the same object is equal to itself unasked -/
theorem RcB.eqB (h : RcB X n D) (hr : ∀ x y b H, D x y b H → ∃ p q, x = .ref p ∧ y = .ref q ∧ (p = q → b = true)) : EqB X n D := by
  intro A pins s σ H x y b u v sb I rx ry d
  obtain ⟨p, q, rfl, rfl, hs⟩ := hr _ _ _ _ d
  cases (show u = Value.ref p from rx)
  cases (show v = Value.ref q from ry)
  by_cases hab : p = q
  · subst hab
    cases hs rfl
    exact SeqAt.EqAt.same (A := A) (s := s) (.ref p) X.prog X.w X.xe _ ⟨rfl, H, I, Ext.rfl'⟩
  · refine GQ.eqBool_refG hab (wpAny_mono (h A pins s σ H (.ref p) (.ref q) b _ _ sb I rfl rfl d) (fun r s' z => ?_) fun _ _ z => z)
    obtain ⟨e, z⟩ := z
    exact ⟨b, e, rfl, z⟩
/-! ### own instances -/
def DIn (C : Addr) (R : Addr → Addr → Bool → Hp → Prop) : Eqb := fun x y b H =>
  ∃ p q dx dy fs gs, x = .ref p ∧ y = .ref q ∧ H p = some (.ins C dx fs) ∧ H q = some (.ins C dy gs) ∧ (p = q → b = true) ∧ R p q b H
theorem DIn.mon {C : Addr} {R : Addr → Addr → Bool → Hp → Prop} (hR : ∀ p q b H H', Nd H H' → R p q b H → R p q b H') : MonN (DIn C R) := fun x y b H H' e d => by
  obtain ⟨p, q, dx, dy, fs, gs, hx, hy, h1, h2, hs, r⟩ := d
  exact ⟨p, q, dx, dy, fs, gs, hx, hy, e _ _ h1 (fun _ z => nomatch z), e _ _ h2 (fun _ z => nomatch z), hs, hR p q b H H' e r⟩
def spEqb (R : Addr → Addr → Bool → Hp → Prop) : Sp := fun vs H Q _ => ∃ p q b, vs = [.ref p, .ref q] ∧ R p q b H ∧ ∀ H', Ext H H' → Q (.bl b) H'
theorem rcB_in {CX : CXT} {C f : Addr} {R : Addr → Addr → Bool → Hp → Prop} {E : XK} (F : FnR X.prog X.w X.K X.mg X.base CX n f (spEqb R))
    (hs : PySem.W.findIn X.K (.ref C) "__eq__" = some (some (.ref f))) (hf : PySem.W.isFn X.K (.ref f) = true) (hx : Passes CX X E) : RcB X n (DIn C R) := by
  intro A pins s σ H x y b u v sb I rx ry d
  obtain ⟨p, q, dx, dy, fs, gs, rfl, rfl, hp, hq, _, r⟩ := d
  cases (show u = Value.ref p from rx)
  cases (show v = Value.ref q from ry)
  obtain ⟨od, J⟩ := inst_of I hp
  obtain ⟨od', J'⟩ := inst_of I hq
  obtain ⟨m, hF⟩ := I.fr
  have hsp : spEqb R [.ref p, .ref q] H (fun v H' => v = .bl b ∧ Ext H H') E := ⟨p, q, b, rfl, r, fun H' e => ⟨rfl, e⟩⟩
  refine PySem.W.cmp_K (op := .Eq) (tb := .ref C) sb.room.units0 hF I.ok.mod.kin J J'.type (by simp [PySem.W.notFirst]) hs hf
    (wpAny_mono (run_sub F sb.room sb.fr hx I (.cons (rr p) (.cons (rr q) .nil)) hsp) (fun r s' z => ?_) fun _ _ e => e)
  obtain ⟨z', H', I', rz, e1, e2⟩ := z
  subst e1
  cases (show r = Value.bool b from rz)
  exact ⟨rfl, H', I', e2⟩
theorem eqB_in {CX : CXT} {C f : Addr} {R : Addr → Addr → Bool → Hp → Prop} {E : XK} (F : FnR X.prog X.w X.K X.mg X.base CX n f (spEqb R))
    (hs : PySem.W.findIn X.K (.ref C) "__eq__" = some (some (.ref f))) (hf : PySem.W.isFn X.K (.ref f) = true) (hx : Passes CX X E) : EqB X n (DIn C R) :=
  (rcB_in F hs hf hx).eqB fun x y b H d => by
    obtain ⟨p, q, _, _, _, _, h1, h2, _, _, h3, _⟩ := d
    exact ⟨p, q, h1, h2, h3⟩
/-! ### flat values -/
def DFl : Eqb := fun x y b _ => flatV x = true ∧ flatV y = true ∧ b = eqV x y
theorem eqB_fl : EqB X 0 DFl := by
  intro A pins s σ H x y b u v sb I rx ry d
  obtain ⟨fx, fy, rfl⟩ := d
  exact eqAt_V (A := A) (s := s) rx ry fx fy X.prog X.w X.xe _ ⟨rfl, H, I, Ext.rfl'⟩
end
/-! ### item by item -/
/-- the answer for two rows: all items equal, and as many -/
def Row (D : Eqb) : List V → List V → Bool → Hp → Prop
  | [], [], b, _ => b = true
  | x :: xs, y :: ys, b, H => ∃ c d, D x y c H ∧ Row D xs ys d H ∧ b = (c && d)
  | [], _ :: _, b, _ => b = false
  | _ :: _, [], b, _ => b = false
theorem Row.mon {D : Eqb} (hD : MonN D) {H H' : Hp} (e : Nd H H') : ∀ {xs ys : List V} {b : Bool}, Row D xs ys b H → Row D xs ys b H'
  | [], [], _, h => h
  | x :: xs, y :: ys, b, ⟨c, d, h1, h2, h3⟩ => ⟨c, d, hD _ _ _ _ _ e h1, Row.mon hD e h2, h3⟩
  | [], _ :: _, _, h => h
  | _ :: _, [], _, h => h
section
variable {prog : Program} {w : World} {A : Around} {R : Result → Shared → Prop}
/-- the tuple's own loop: J xs ys holds what is known when these items are left -/
theorem tup_loop (l b : Addr) (items items2 : Array Value) (n n2 : Nat) (dd dd2 : Option Addr) (sl sl2 : Array (Option Value)) (J : List Value → List Value → Shared → Prop)
    (turn : ∀ u us v vs s, J (u :: us) (v :: vs) s → wpAny (model prog w) A.in1 (eqBool u v) (fun r s' => if r = true then J us vs s' else R (.ok (.ret (.bool false))) s') (fun e s' => R (.error e) s') s)
    (fin0 : ∀ s, J [] [] s → R (.ok (.ret (.bool true))) s) (fin1 : ∀ u us s, J (u :: us) [] s → R (.ok (.ret (.bool false))) s) (fin2 : ∀ u us s, J [] (u :: us) s → R (.ok (.ret (.bool false))) s)
    {s : Shared} (hl1 : s.heap.get? l = some { cls := .type "tuple", dict := dd, data := .seq items n, slots := sl }) (hb1 : s.heap.get? b = some { cls := .type "tuple", dict := dd2, data := .seq items2 n2, slots := sl2 })
    (h : J items.toList items2.toList s) :
    wpAny (model prog w) A.in1 (Builtin.«tuple.__eq__» ⟨[.ref l, .ref b], []⟩) (GQ.FinOf prog w A R) (fun e s' => R (.error e) s') s := by
  have f2 := AutoSeq1.sub_tuple_tuple
  have h0 := h
  obtain ⟨hp, g, d, tk, os⟩ := s
  wp_walk using AutoSeq1.wpAny_loadPart' hl1, AutoSeq1.wpAny_loadPart' hb1, wpAny_forIn_list _ (fun rest q s' => q.1 = none ∧ ∃ us vs, rest = us.zip vs ∧ items.size - us.length = items2.size - vs.length ∧ us.length ≤ items.size ∧ vs.length ≤ items2.size ∧ J us vs s') _
  case turn =>
    rintro ⟨u, v⟩ rest q s' ⟨hq, us, vs, hz, hs, hu, hv, hJ⟩
    match us, vs, hz with
    | u' :: us, v' :: vs, hz =>
      injection hz with e1 e2
      injection e1 with e3 e4
      subst e3 e4 e2
      refine wpAny_bind (wpAny_mono (turn _ _ _ _ s' hJ) (fun r s2 z => ?_) fun _ _ x => x)
      simp only [List.length_cons] at hs hu hv
      cases r with
      | true =>
        wp_walk
        exact ⟨rfl, us, vs, rfl, by omega, by omega, by omega, z⟩
      | false =>
        wp_walk
        exact z
    | [], _, hz => exact nomatch hz
    | _ :: _, [], hz => exact nomatch hz
  case fin =>
    rintro ⟨b1, b2⟩ s' ⟨hq, us, vs, hz, hs, hu, hv, hJ⟩
    simp only at hq
    subst hq
    match us, vs, hz with
    | [], [], hz =>
      have e : items.size = items2.size := by simpa using hs
      have z := fin0 s' hJ
      wp_walk
      simpa [Builtin.Tuple.tupleCompareSizes, e] using z
    | u :: us, [], hz =>
      simp only [List.length_cons, List.length_nil] at hs hu
      have e : (items.size == items2.size) = false := by
        rw [beq_eq_false_iff_ne]
        omega
      have z := fin1 _ _ s' hJ
      wp_walk
      simpa [Builtin.Tuple.tupleCompareSizes, e] using z
    | [], v :: vs, hz =>
      simp only [List.length_cons, List.length_nil] at hs hv
      have e : (items.size == items2.size) = false := by
        rw [beq_eq_false_iff_ne]
        omega
      have z := fin2 _ _ s' hJ
      wp_walk
      simpa [Builtin.Tuple.tupleCompareSizes, e] using z
    | u :: us, v :: vs, hz => exact nomatch hz
  case h =>
    exact ⟨rfl, items.toList, items2.toList, rfl, by simp, by simp, by simp, h0⟩
end
section
variable {X : Cx} {n : Nat} {D : Eqb}
def DTu (K : PySem.W.Frag) (D : Eqb) : Eqb := fun x y b H => ∃ p q xs ys, x = .ref p ∧ y = .ref q ∧ SqT K H p xs ∧ SqT K H q ys ∧ (p = q → b = true) ∧ Row D xs ys b H
theorem SqT.nd {K : PySem.W.Frag} {H H' : Hp} {a : Addr} {xs : List V} (h : SqT K H a xs) (e : Nd H H') : SqT K H' a xs :=
  h.elim (fun h => .inl (h.elim (fun h => .inl (e _ _ h fun _ z => nomatch z)) fun ⟨o, h⟩ => .inr ⟨o, e _ _ h fun _ z => nomatch z⟩)) fun h => .inr h
theorem DTu.mon {K : PySem.W.Frag} (hD : MonN D) : MonN (DTu K D) := fun x y b H H' e d => by
  obtain ⟨p, q, xs, ys, hx, hy, h1, h2, hs, r⟩ := d
  exact ⟨p, q, xs, ys, hx, hy, SqT.nd h1 e, SqT.nd h2 e, hs, Row.mon hD e r⟩
theorem rcB_tu (hD : MonN D) (h : EqB X n D) : RcB X (n + 1) (DTu X.K D) := by
  intro A pins s σ H x y b u v sb I rx ry d
  obtain ⟨p, q, xs, ys, rfl, rfl, hp, hq, _, r⟩ := d
  cases (show u = Value.ref p from rx)
  cases (show v = Value.ref q from ry)
  obtain ⟨us, ru, ⟨⟨cls, dd, data, sl⟩, ho, hc, k, hd⟩, _⟩ := I.tuple hp
  obtain ⟨vs, rv, ⟨⟨cls2, dd2, data2, sl2⟩, ho2, hc2, k2, hd2⟩, _⟩ := I.tuple hq
  simp only at hc hd hc2 hd2
  subst hc hd hc2 hd2
  refine PySem.wpAny_richCompare_same_room (op := .Eq) ⟨_, ho, rfl⟩ ⟨_, ho2, rfl⟩ PySem.F.slot_tuple_eq
    (GQ.call_here PySem.F.slot_tuple_eq ⟨_, ho, rfl⟩ PySem.F.entry_tuple_eq (PySem.F.args_tuple_eq_2 _ _) ?_) sb.room.units0
  let Fin : Bool → Shared → Prop := fun c s' => c = b ∧ ∃ H', Inv X pins σ H' s' ∧ Ext H H'
  have key : ∀ c s', Fin c s' → wants (fun v s' => v ≠ .notImplemented ∧ (v = .bool b ∧ ∃ H', Inv X pins σ H' s' ∧ Ext H H')) X.xe (.ok (.ret (.bool c))) s' := fun c s' z => by
    obtain ⟨rfl, z⟩ := z
    exact ⟨(fun x => nomatch x), rfl, z⟩
  refine tup_loop p q _ _ k k2 dd dd2 sl sl2 (fun us' vs' s' => ∃ xs' ys' H', Vals xs' us' ∧ Vals ys' vs' ∧ Inv X pins σ H' s' ∧ Ext H H' ∧ Row D xs' ys' b H') ?_ ?_ ?_ ?_ ho ho2 ⟨xs, ys, H, by simpa using ru, by simpa using rv, I, Ext.rfl', r⟩
  · rintro u us' v vs' s' ⟨xs', ys', H', t1, t2, I', e, r⟩
    cases t1 with
    | cons r1 t1 =>
    cases t2 with
    | cons r2 t2 =>
    obtain ⟨c, d', h1, h2, h3⟩ := r
    refine wpAny_mono (h A.in1 pins s' σ H' _ _ c u v sb.in1 I' r1 r2 h1) (fun r s2 z => ?_) fun _ _ z => z
    obtain ⟨rfl, H2, I2, e2⟩ := z
    cases r with
    | true =>
      rw [if_pos rfl]
      rw [Bool.true_and] at h3
      subst h3
      exact ⟨_, _, H2, t1, t2, I2, e.trans e2, Row.mon hD (Nd.of e2) h2⟩
    | false =>
      rw [if_neg Bool.false_ne_true]
      rw [Bool.false_and] at h3
      exact key _ _ ⟨h3.symm, H2, I2, e.trans e2⟩
  · rintro s' ⟨xs', ys', H', t1, t2, I', e, r⟩
    cases t1
    cases t2
    exact key _ _ ⟨(show b = true from r).symm, H', I', e⟩
  · rintro u us' s' ⟨xs', ys', H', t1, t2, I', e, r⟩
    cases t1
    cases t2
    exact key _ _ ⟨(show b = false from r).symm, H', I', e⟩
  · rintro u us' s' ⟨xs', ys', H', t1, t2, I', e, r⟩
    cases t1
    cases t2
    exact key _ _ ⟨(show b = false from r).symm, H', I', e⟩
theorem eqB_tu (hD : MonN D) (h : EqB X n D) : EqB X (n + 1) (DTu X.K D) := (rcB_tu hD h).eqB fun x y b H d => by
  obtain ⟨p, q, _, _, h1, h2, _, _, h3, _⟩ := d
  exact ⟨p, q, h1, h2, h3⟩
/-- x == y as an operator -/
def rEqB (D : Eqb) : R2 := fun x y H Q => ∃ b, D x y b H ∧ ∀ H', Ext H H' → Q (.bl b) H'
theorem op_eqB (h : RcB X n D) (hr : Room n X.A) : OpR X (compareOp .Eq) (rEqB D) := by
  intro pins s σ H x y v u Q I rx ry hq
  obtain ⟨b, d, q⟩ := hq
  show wpAny (model X.prog X.w) X.A (richCompare .Eq v u) _ _ s
  refine wpAny_mono (h X.A pins s σ H x y b v u ⟨hr, rfl⟩ I rx ry d) (fun r s' z => ?_) fun _ _ z => z
  obtain ⟨rfl, H', I', e⟩ := z
  exact ⟨.bl b, H', I', rfl, q H' e⟩
end
end Ws

set_option Elab.async false
set_option linter.all false
set_option maxRecDepth 100000
set_option maxHeartbeats 4000000
namespace Ws
open PySem PySem.Spec PyProof.Rows L2
/-- what == of two dicts finds: the first one's pairs from the left -/
def Hits (D : Eqb) (kb : List (Key × V)) : List (Key × V) → Bool → Hp → Prop
  | [], b, _ => b = true
  | (k, v) :: r, b, H => (valV kb k = none ∧ b = false) ∨ ∃ y c d, valV kb k = some y ∧ D v y c H ∧ Hits D kb r d H ∧ b = (c && d)
theorem Hits.mon {D : Eqb} (hD : MonN D) {kb : List (Key × V)} {H H' : Hp} (e : Nd H H') : ∀ {ka : List (Key × V)} {b : Bool}, Hits D kb ka b H → Hits D kb ka b H'
  | [], _, h => h
  | (k, v) :: r, b, .inl h => .inl h
  | (k, v) :: r, b, .inr ⟨y, c, d, h1, h2, h3, h4⟩ => .inr ⟨y, c, d, h1, hD _ _ _ _ _ e h2, Hits.mon hD e h3, h4⟩
/-- a dict's pairs, looked up, as the layer and as the library see them -/
theorem kv_at : ∀ {kvs : List (Key × V)} {vs : List (Key × Value)}, KV kvs vs → ∀ k, (valV kvs k = none ∧ valueAt vs k = none) ∨ ∃ v u, valV kvs k = some v ∧ valueAt vs k = some u ∧ RelV v u
  | _, _, .nil, k => .inl ⟨rfl, rfl⟩
  | (k1, v1) :: r, (k2, u2) :: t, .cons ⟨e, q⟩ rest, k => by
    have e' : k1 = k2 := e
    subst e'
    by_cases hk : k1 = k
    · subst hk
      refine .inr ⟨v1, u2, ?_, ?_, q⟩
      · simp [valV]
      · simp [valueAt]
    · have ih := kv_at rest k
      have a1 : valV ((k1, v1) :: r) k = valV r k := by simp [valV, hk]
      have a2 : valueAt ((k1, u2) :: t) k = valueAt t k := by simp [valueAt, hk]
      rw [a1, a2]
      exact ih
section
variable {prog : Program} {w : World} {K : Type} [DecidableEq K] {knd : KeyKind prog w K} {A : Around} {E : Value → Shared → Prop} {s : Shared}
/-- the pairs of a dict that stands as it stood, compared one by one; J: what stands all the while -/
inductive HitsJ (prog : Program) (w : World) (A : Around) (E : Value → Shared → Prop) (kb : List (K × Value)) (Rf : Shared → Prop) : (Shared → Prop) → List (K × Value) → Prop
  | nil {J : Shared → Prop} : HitsJ prog w A E kb Rf J []
  | miss {J : Shared → Prop} {k : K} {v : Value} {r : List (K × Value)} : valueAt kb k = none → (∀ s, J s → Rf s) → HitsJ prog w A E kb Rf J ((k, v) :: r)
  | hit {J J' : Shared → Prop} {k : K} {v y : Value} {r : List (K × Value)} : valueAt kb k = some y →
      (∀ s, J s → wpAny (model prog w) A (eqBool v y) (fun c s' => if c = true then J' s' else Rf s') E s) → HitsJ prog w A E kb Rf J' r → HitsJ prog w A E kb Rf J ((k, v) :: r)
end
section
variable {X : Cx} {n : Nat} {D : Eqb}
/-- two dicts, their pairs' values by D -/
def DDi (D : Eqb) : Eqb := fun x y b H => ∃ p q ka kb, x = .ref p ∧ y = .ref q ∧ H p = some (.dK ka) ∧ H q = some (.dK kb) ∧
  ((ka.length ≠ kb.length ∧ b = false) ∨ (ka.length = kb.length ∧ Hits D kb ka b H))
/-- what is kept while two dicts are compared: both are locked -/
def Lk (X : Cx) (pins : List (Addr × Obj)) (σ : L2.St) (Hf : Hp) (s : Shared) : Prop := ∃ H', Inv X pins σ H' s ∧ Ext Hf H'
theorem same_pairs {nm : String} {A : Around} {pins : List (Addr × Obj)} {σ : L2.St} {Hf : Hp} {p q : Addr} {oa ob : Obj} {ka kb : List (Key × V)} {b : Bool} (hD : MonN D) (h : EqB X n D) (sb : Sub X n A)
    (fa : Hf p = some (.frz oa (.dK ka))) (fb : Hf q = some (.frz ob (.dK kb))) (hits : (ka.length ≠ kb.length ∧ b = false) ∨ (ka.length = kb.length ∧ Hits D kb ka b Hf)) {s : Shared} (l : Lk X pins σ Hf s)
    {Q : Bool → Shared → Prop} (k : ∀ s', Lk X pins σ Hf s' → Q b s') : wpAny (model X.prog X.w) A (Builtin.Dict.samePairs nm p q) Q X.xe s := by
  have at_ : ∀ s', Lk X pins σ Hf s' → s'.heap.get? p = some oa ∧ s'.heap.get? q = some ob := fun s' ⟨H', I', e⟩ =>
    ⟨(show ObjOk X.prog X.w H' s'.heap p (.frz oa (.dK ka)) from I'.hok p _ (e _ _ fa)).1, (show ObjOk X.prog X.w H' s'.heap q (.frz ob (.dK kb)) from I'.hok q _ (e _ _ fb)).1⟩
  obtain ⟨H0, I0, e0⟩ := id l
  obtain ⟨ga, _, sa, va, ra, oa', es, ep, ha1, hac, had, hka, hpa, hna⟩ := (show ObjOk X.prog X.w H0 s.heap p (.frz oa (.dK ka)) from I0.hok p _ (e0 _ _ fa))
  obtain ⟨gb, _, sb', vb, rb, ob', es', ep', hb1, hbc, hbd, hkb, hpb, hnb⟩ := (show ObjOk X.prog X.w H0 s.heap q (.frz ob (.dK kb)) from I0.hok q _ (e0 _ _ fb))
  cases ga.symm.trans ha1
  cases gb.symm.trans hb1
  have la : va.length = es.size := by rw [← hpa.length]; exact Array.length_toList
  have lb : vb.length = es'.size := by rw [← hpb.length]; exact Array.length_toList
  have la' : ka.length = va.length := Paired.length ra
  have lb' : kb.length = vb.length := Paired.length rb
  have look : ∀ k, findBy (mixKind X.prog X.w).is es' k = valueAt vb k := fun k => by
    rw [← hpb.find k]
    obtain ⟨t⟩ := es'
    simp [findBy]
  unfold Builtin.Dict.samePairs Builtin.Dict.showsAll
  rw [if_neg (by rw [sa]; exact Bool.false_ne_true), if_neg (by rw [sb']; exact Bool.false_ne_true)]
  refine wpAny_bind (wpAny_pure (wpAny_bind (wpAny_pure (wpAny_bind (wpAny_dictEntries ga had ?_)))))
  dsimp only
  refine wpAny_bind (wpAny_dictEntries gb hbd ?_)
  rcases hits with ⟨ne, rfl⟩ | ⟨eq, hits⟩
  · rw [if_pos (by simp; omega)]
    exact wpAny_bind (wpAny_rule (wpAny_pure (k s l)))
  have hsz : es.size = es'.size := by omega
  rw [if_neg (by rw [hsz]; simp)]
  refine wpAny_bind (wpAny_dictEpoch ga had (wpAny_bind ?_))
  rw [Std.Legacy.Range.forIn_eq_forIn_range']
  simp only [Std.Legacy.Range.size, Nat.sub_zero, Nat.add_sub_cancel, Nat.div_one]
  refine wpAny_forIn_list _ (fun rest r s' => r = (none, ()) ∧ Lk X pins σ Hf s' ∧ ∃ i, rest = List.range' i (es.size - i) ∧ i ≤ es.size ∧ Hits D kb (ka.drop i) b Hf) _ ?_ ?_ _ _ ⟨rfl, l, 0, by simp, Nat.zero_le _, hits⟩
  · rintro x rest r s' ⟨rfl, l', i, hr, hi, hh⟩
    obtain ⟨ga', gb'⟩ := at_ s' l'
    have hlt : i < es.size := by
      by_cases z : i < es.size
      · exact z
      · rw [Nat.sub_eq_zero_of_le (Nat.le_of_not_lt z)] at hr
        simp at hr
    have e : es.size - i = (es.size - (i + 1)) + 1 := by omega
    rw [e, List.range'_succ] at hr
    injection hr with h1 h2
    subst h1
    refine wpAny_bind (wpAny_dictEntries ga' had ?_)
    rw [Array.getElem?_eq_getElem hlt]
    have hlv : x < va.length := by omega
    have hlk : x < ka.length := by omega
    obtain ⟨ky, uy, hy⟩ : ∃ ky uy, va[x]? = some (ky, uy) := ⟨va[x].1, va[x].2, List.getElem?_eq_getElem hlv⟩
    obtain ⟨hkey, hval⟩ := hpa.get? (i := x) (e := es[x]) (k := ky) (v := uy) (by rw [Array.getElem?_toList]; exact Array.getElem?_eq_getElem hlt) hy
    obtain ⟨k', hk', hh'⟩ := hka es[x] (Array.getElem_mem hlt)
    cases (mixKind X.prog X.w).inj _ _ _ hk' hkey
    obtain ⟨kx, vx, hx, ekk, rvv⟩ : ∃ kx vx, ka[x]? = some (kx, vx) ∧ kx = ky ∧ RelV vx uy := by
      have z : ∀ {l1 : List (Key × V)} {l2 : List (Key × Value)}, KV l1 l2 → ∀ (i : Nat) (a : Key × Value), l2[i]? = some a → ∃ kx vx, l1[i]? = some (kx, vx) ∧ kx = a.1 ∧ RelV vx a.2 := by
        intro l1 l2 hh
        induction hh with
        | nil => intro i a e; simp at e
        | @cons a1 b1 _ _ r t ih =>
          intro i a e
          cases i with
          | zero => simp at e; subst e; exact ⟨a1.1, a1.2, rfl, r.1, r.2⟩
          | succ i => exact ih i a (by simpa using e)
      exact z ra x _ hy
    subst ekk
    have dr : ka.drop x = (kx, vx) :: ka.drop (x + 1) := by
      rw [List.drop_eq_getElem_cons hlk]
      rw [List.getElem?_eq_getElem hlk] at hx
      rw [Option.some.inj hx]
    rw [dr] at hh
    show wpAny _ _ (holding [es[x].key, es[x].val] _ >>= _) _ _ _
    rw [hh']
    refine wpAny_bind (wpAny_holding (wpAny_bind (wpAny_dictFind_of hkey gb' hbd hkb ?_)))
    have lk := kv_at rb kx
    cases hj : es'.findIdx? fun e => (mixKind X.prog X.w).is kx e.key with
    | none =>
      have hn : valueAt vb kx = none := by rw [← look, findBy_of_findIdx?, hj]
      have hb0 : b = false := by
        rcases lk with ⟨z, _⟩ | ⟨_, _, _, z, _⟩
        · rcases hh with ⟨_, z2⟩ | ⟨y, _, _, z2, _⟩
          · exact z2
          · rw [z] at z2
            cases z2
        · rw [hn] at z
          cases z
      subst hb0
      refine wpAny_pure ?_
      show wpAny _ _ (if (!false) = true then _ else _) _ _ _
      rw [if_pos (by decide)]
      exact wpAny_pure (wpAny_pure (k s' l'))
    | some j =>
      obtain ⟨jl, _, _⟩ := Array.findIdx?_eq_some_iff_getElem.mp hj
      have hv' : valueAt vb kx = some es'[j].val := by
        rw [← look, findBy_of_findIdx?, hj]
        simp [Array.getElem?_eq_getElem jl]
      refine wpAny_bind (wpAny_dictEntries gb' hbd ?_)
      rw [Array.getElem?_eq_getElem jl]
      rcases lk with ⟨_, z⟩ | ⟨y0, u0, z1, z2, z3⟩
      · rw [hv'] at z
        cases z
      rw [hv'] at z2
      cases z2
      rcases hh with ⟨z2, _⟩ | ⟨y, c, d, z2, hd, hrest, hbe⟩
      · rw [z1] at z2
        cases z2
      rw [z1] at z2
      cases z2
      obtain ⟨H', I', e'⟩ := l'
      rw [hval]
      refine wpAny_holding (wpAny_mono (h A pins s' σ H' _ _ c _ _ sb I' rvv z3 (hD _ _ _ _ _ (Nd.of e') hd)) (fun r' s2 z => ?_) fun _ _ z => z)
      obtain ⟨rfl, H2, I2, e2⟩ := z
      have l2 : Lk X pins σ Hf s2 := ⟨H2, I2, e'.trans e2⟩
      cases r' with
      | false =>
        rw [Bool.false_and] at hbe
        subst hbe
        show wpAny _ _ (if (!false) = true then _ else _) _ _ _
        rw [if_pos (by decide)]
        exact wpAny_pure (wpAny_pure (k s2 l2))
      | true =>
        rw [Bool.true_and] at hbe
        subst hbe
        show wpAny _ _ (if (!true) = true then _ else _) _ _ _
        rw [if_neg (by decide)]
        refine wpAny_bind (wpAny_dictEpoch (at_ s2 l2).1 had ?_)
        rw [if_neg (by simp)]
        exact wpAny_pure ⟨rfl, l2, x + 1, h2, hlt, hrest⟩
  · rintro r s' ⟨rfl, l', i, hr, hi, hh⟩
    have hin : i = es.size := by
      by_cases z : i < es.size
      · have e : es.size - i = (es.size - (i + 1)) + 1 := by omega
        rw [e, List.range'_succ] at hr
        exact nomatch hr
      · omega
    rw [hin, ← la, ← la', List.drop_length] at hh
    cases (show b = true from hh)
    exact wpAny_pure (k s' l')
theorem rcB_di (hD : MonN D) (h : EqB X n D) : RcB X (n + 1) (DDi D) := by
  intro A pins s σ H x y b u v sb I rx ry d
  obtain ⟨p, q, ka, kb, rfl, rfl, hp, hq, hits⟩ := d
  cases (show u = Value.ref p from rx)
  cases (show v = Value.ref q from ry)
  have ta : s.heap.DictOf (mixKind X.prog X.w) p _ := (show ObjOk X.prog X.w H s.heap p (.dK ka) from I.hok p _ hp).2.2.choose_spec.2
  have tb : s.heap.DictOf (mixKind X.prog X.w) q _ := (show ObjOk X.prog X.w H s.heap q (.dK kb) from I.hok q _ hq).2.2.choose_spec.2
  -- both locked
  obtain ⟨oa, I1⟩ := I.lock hp True.intro
  have core : ∀ (Hf : Hp) (ob : Obj), Inv X pins σ Hf s → Hf p = some (.frz oa (.dK ka)) → Hf q = some (.frz ob (.dK kb)) → Nd H Hf →
      (∀ s' H', Inv X pins σ H' s' → Ext Hf H' → ∃ H2, Inv X pins σ H2 s' ∧ Ext H H2) →
      wpAny (model X.prog X.w) A (richCompare .Eq (.ref p) (.ref q)) (fun r s' => r = .bool b ∧ ∃ H', Inv X pins σ H' s' ∧ Ext H H') X.xe s := by
    intro Hf ob If fa fb nd back
    refine PySem.wpAny_richCompare_same_room (op := .Eq) ta.typeIs tb.typeIs PySem.F.slot_dict_eq (PySem.wpAny_call_entry PySem.F.slot_dict_eq ta.typeIs PySem.F.entry_dict_eq ?_ (PySem.F.args_dict_eq_2 _ _)) sb.room.units0
    show wpAny _ _ (Builtin.Dict.dictSlotArgs "__eq__" ⟨[.ref p, .ref q], []⟩ >>= _) _ _ s
    unfold Builtin.Dict.dictSlotArgs
    refine wpAny_bind (wpAny_bind (PySem.wpAny_notOrdered_dict ta.typeIs ?_))
    show wpAny _ _ (pure (Value.ref p, Value.ref q)) _ _ s
    refine wpAny_pure (wpAny_bind (wpAny_isInstance (T := "dict") tb.typeIs PySem.F.sub_dict_dict ?_))
    simp only [Bool.not_true, Bool.false_eq_true, if_false]
    refine wpAny_bind (wpAny_pure (wpAny_bind (wpAny_pure (wpAny_bind ?_))))
    refine same_pairs hD h sb.in1 fa fb (hits.imp id fun z => ⟨z.1, Hits.mon hD nd z.2⟩) ⟨Hf, If, Ext.rfl'⟩ fun s' l => ?_
    obtain ⟨H', I', e⟩ := l
    refine wpAny_pure ⟨_, rfl, (fun x => nomatch x), ?_⟩
    obtain ⟨H2, I2, e2⟩ := back s' H' I' e
    exact ⟨by simp, H2, I2, e2⟩
  have npn : ∀ {c : Addr} {u : HO}, H c = some u → c ≠ p → (upd H p (.frz oa (.dK ka))) c = some u := fun {c u} e hc => by rw [upd_ne hc]; exact e
  by_cases hpq : p = q
  · subst hpq
    cases hp.symm.trans hq
    refine core _ oa I1 upd_same upd_same (Nd.lock hp) fun s' H' I' e => ?_
    refine ⟨_, I'.unlock (e _ _ upd_same) (I.nofrz hp True.intro), fun c u z => ?_⟩
    by_cases hc : c = p
    · subst hc
      rw [upd_same, ← z, hp]
    · rw [upd_ne hc]
      exact e _ _ (npn z hc)
  · have hq1 : (upd H p (.frz oa (.dK ka))) q = some (.dK kb) := by rw [upd_ne (Ne.symm hpq)]; exact hq
    obtain ⟨ob, I2⟩ := I1.lock hq1 True.intro
    refine core _ ob I2 (by rw [upd_ne hpq, upd_same]) upd_same ((Nd.lock hp).trans (Nd.lock hq1)) fun s' H' I' e => ?_
    have I3 := I'.unlock (e _ _ upd_same) (I.nofrz hq True.intro)
    have e3 : (upd H' q (.dK kb)) p = some (.frz oa (.dK ka)) := by
      rw [upd_ne hpq]
      exact e _ _ (by rw [upd_ne hpq, upd_same])
    refine ⟨_, I3.unlock e3 (I.nofrz hp True.intro), fun c u z => ?_⟩
    by_cases hc : c = p
    · subst hc
      rw [upd_same, ← z, hp]
    · rw [upd_ne hc]
      by_cases hd : c = q
      · subst hd
        rw [upd_same, ← z, hq]
      · rw [upd_ne hd]
        exact e _ _ (by rw [upd_ne hd]; exact npn z hc)
end
end Ws

set_option Elab.async false
set_option linter.all false
set_option maxRecDepth 100000
set_option maxHeartbeats 4000000
namespace Ws
open PySem PySem.Spec PyProof.Rows L2
section
variable {prog : Program} {w : World} {K : Type} [DecidableEq K] {knd : KeyKind prog w K} {A : Around} {E : Value → Shared → Prop} {s : Shared}
theorem put_pairs {d : Addr} {kvs : List (K × Value)} {k : K} {key v : Value} {Q : Unit → Shared → Prop} (hkey : knd.is k key = true) (hm : s.heap.DictOf knd d kvs) (hsz : kvs.length ≤ sizeLine)
    (hQ : ∀ h', h'.DictOf knd d (stored kvs k v) → Heap.SameBut d s.heap h' → Q () { s with heap := h' }) : wpAny (model prog w) A (dictPut d (knd.hash k) key v) Q E s := by
  obtain ⟨ob, es, ep, ho, hc, hd, hk, hp, hn⟩ := hm
  have len : es.size = kvs.length := by rw [← hp.length]; simp
  have hes : es.size ≤ sizeLine := by omega
  have ix : (es.findIdx? fun e => knd.is k e.key) = kvs.findIdx? fun kv => decide (kv.1 = k) := by
    rw [← hp.findIdx k]
    obtain ⟨t⟩ := es
    simp
  unfold dictPut
  refine wpAny_bind (wpAny_dictFind_of hkey ho hd hk ?_)
  cases hi : es.findIdx? fun e => knd.is k e.key with
  | some i =>
    have an : (kvs.any fun kv => decide (kv.1 = k)) = true := any_of_findIdx_some (ix ▸ hi)
    refine wpAny_updateDict ho hd (hQ _ ⟨_, _, ep, Heap.get?_update_self _ ho (Obj.isFreed_of_dict (Obj.data_mapDict hd _)), hc.mapDict _, Obj.data_mapDict hd _, hk.modify _ _, ?_, ?_⟩ (Heap.SameBut.update ..))
    · rw [stored, if_pos an]
      have hl : (es.toList.findIdx? fun e => knd.is k e.key) = some i := by rw [← hi]; obtain ⟨t⟩ := es; simp
      have z := hp.modify hn hl v
      obtain ⟨t⟩ := es
      simpa using z
    · rw [stored, if_pos an, keys_map_store]
      exact hn
  | none =>
    have nm : k ∉ kvs.map (·.1) := not_mem_of_findIdx_none (ix ▸ hi)
    have an : ¬ (kvs.any fun kv => decide (kv.1 = k)) = true := fun z => by
      obtain ⟨kv, h1, h2⟩ := List.any_eq_true.mp z
      exact nm (List.mem_map.mpr ⟨kv, h1, of_decide_eq_true h2⟩)
    refine wpAny_updateDictKeys (hz := hes) ho hd (hQ _ ⟨_, _, ep + 1, Heap.get?_update_self _ ho (Obj.isFreed_of_dict (Obj.data_mapDictKeys hd _)), hc.mapDictKeys _, Obj.data_mapDictKeys hd _, hk.push hkey _, ?_, ?_⟩ (Heap.SameBut.update ..))
    · rw [stored, if_neg an]
      have z := hp.append hkey (knd.hash k) v
      obtain ⟨t⟩ := es
      simpa using z
    · rw [stored, if_neg an, List.map_append, List.nodup_append]
      refine ⟨hn, by simp, fun a ha b hb e => ?_⟩
      simp only [List.map_cons, List.map_nil, List.mem_singleton] at hb
      subst hb
      exact nm (e ▸ ha)
/-- all pairs of a dict into another one -/
theorem merge_into {d o : Addr} {kvs more : List (K × Value)} {Q : Unit → Shared → Prop} (hdo : d ≠ o) (hoS : (o == sysModules) = false) (noref : ∀ k v, knd.is k v = true → ∀ a, v ≠ .ref a)
    (hd : s.heap.DictOf knd d kvs) (ho : s.heap.DictOf knd o more) (hsz : kvs.length + more.length ≤ sizeLine)
    (hQ : ∀ h', h'.DictOf knd d (merged kvs more) → Heap.SameBut d s.heap h' → Q () { s with heap := h' }) : wpAny (model prog w) A (mergeMapping d (.ref o) false) Q E s := by
  obtain ⟨od, esd, epd, hod, hcd, hdd, hkd, hpd, hnd⟩ := id hd
  obtain ⟨oo, eso, epo, hoo, hco, hdo', hko, hpo, hno⟩ := id ho
  have len : eso.size = more.length := by rw [← hpo.length]; simp
  unfold mergeMapping
  refine wpAny_bind (wpAny_isInstance (T := "dict") ho.typeIs PySem.F.sub_dict_dict ?_)
  rw [if_pos rfl]
  refine wpAny_bind (wpAny_specialOf ho.typeIs F.slot_dict_iter.lookup ?_)
  have et : ((some (Value.builtin "dict.__iter__") == some (Value.builtin "dict.__iter__")) : Bool) = true := by decide +kernel
  rw [et]
  refine wpAny_bind (wpAny_pure ?_)
  dsimp only
  rw [if_neg (by rw [hoS]; exact Bool.false_ne_true)]
  refine wpAny_bind (wpAny_dictEntries hod hdd ?_)
  split
  refine wpAny_bind (wpAny_dictEntries hoo hdo' ?_)
  refine wpAny_bind (wpAny_mono (Q := fun _ s' => s' = s) ?_ (fun _ s' z => ?_) fun _ _ z => z)
  · rw [← Array.forIn_toList]
    refine wpAny_forIn_list _ (fun r _ s' => s' = s ∧ ∀ e ∈ r, e ∈ eso.toList) _ ?_ (fun _ s' z => z.1) _ _ ⟨rfl, fun _ z => z⟩
    rintro x r u s' ⟨rfl, hm⟩
    obtain ⟨k, hk, _⟩ := hko x (Array.mem_toList_iff.mp (hm x List.mem_cons_self))
    have nr := noref k _ hk
    have step : wpAny (model prog w) A (pure (ForInStep.yield PUnit.unit) : Sem (ForInStep PUnit)) (fun r' s'' => match r' with
      | .yield b' => s'' = s' ∧ ∀ e ∈ r, e ∈ eso.toList
      | .done b' => s'' = s') E s' := wpAny_pure ⟨rfl, fun e he => hm e (List.mem_cons_of_mem _ he)⟩
    obtain ⟨xh, xk, xv⟩ := x
    cases xk <;> first | exact step | exact absurd rfl (nr _)
  rw [z]
  all_goals
    refine wpAny_bind (wpAny_dictEntries hoo hdo' ?_)
    refine wpAny_bind (wpAny_dictEpoch hoo hdo' ?_)
    refine wpAny_bind ?_
    refine wpAny_forIn_list _ (fun r _ s' => ∃ h' i, s' = { s with heap := h' } ∧ r = List.range' i (eso.size - i) ∧ i ≤ eso.size ∧ h'.DictOf knd d (merged kvs (more.take i)) ∧ h'.get? o = some oo ∧ Heap.SameBut d s.heap h') _ ?_ ?_ _ _
      ⟨s.heap, 0, rfl, by rw [List.range_eq_range']; simp, Nat.zero_le _, by simpa [merged] using hd, hoo, Heap.SameBut.refl _ _⟩
    · rintro x r u s' ⟨h', i, rfl, hr, hi, hd', hoo', sb⟩
      have hlt : i < eso.size := by
        by_cases z : i < eso.size
        · exact z
        · rw [Nat.sub_eq_zero_of_le (Nat.le_of_not_lt z)] at hr
          simp at hr
      have e : eso.size - i = (eso.size - (i + 1)) + 1 := by omega
      rw [e, List.range'_succ] at hr
      injection hr with h1 h2
      subst h1
      refine wpAny_bind (wpAny_dictEntries hoo' hdo' ?_)
      rw [Array.getElem?_eq_getElem hlt]
      obtain ⟨k, v, hkv⟩ : ∃ k v, more[x]? = some (k, v) := ⟨_, _, List.getElem?_eq_getElem (by omega)⟩
      obtain ⟨hkey, hval⟩ := hpo.get? (e := eso[x]) (by simp [hlt]) hkv
      obtain ⟨k', hkey', hh⟩ := hko eso[x] (Array.getElem_mem hlt)
      cases knd.inj _ _ _ hkey' hkey
      show wpAny _ _ (holding [eso[x].key, eso[x].val] (dictPut d eso[x].hash eso[x].key eso[x].val) >>= _) _ _ _
      rw [hh, hval]
      have lm : (merged kvs (more.take x)).length ≤ sizeLine := by
        have e1 := merged_length_le kvs (more.take x)
        have e2 : (more.take x).length ≤ more.length := by rw [List.length_take]; omega
        omega
      refine wpAny_bind (wpAny_holding (put_pairs hkey hd' lm fun h'' hd'' sb'' => ?_))
      have hoo'' : h''.get? o = some oo := (sb''.2 o (Ne.symm hdo)).trans hoo'
      refine wpAny_bind (wpAny_dictEpoch hoo'' hdo' ?_)
      rw [if_neg (by simp)]
      exact wpAny_pure ⟨h'', x + 1, rfl, h2, hlt, by rw [merged_take_succ kvs more x (k, v) hkv]; exact hd'', hoo'', sb.trans sb''⟩
    · rintro u s' ⟨h', i, rfl, hr, hi, hd', hoo', sb⟩
      have hin : i = eso.size := by
        by_cases z : i < eso.size
        · have e : eso.size - i = (eso.size - (i + 1)) + 1 := by omega
          rw [e, List.range'_succ] at hr
          exact nomatch hr
        · omega
      rw [hin, len, List.take_length] at hd'
      exact wpAny_pure (hQ h' hd' sb)
end
theorem mix_noref {P : Program} {w : World} (k : Key) (v : Value) (h : (mixKind P w).is k v = true) (a : Addr) : v ≠ .ref a := by
  rcases keyIs_shape (k := k) (v := v) h with ⟨i, t, _, rfl⟩ | ⟨x, t, _, rfl⟩
  · exact fun z => nomatch z
  · exact fun z => nomatch z
/-- {**d, k: v}: a new dict p with all pairs of d, then the one that is written -/
def tStarD (td tk tv : TE) : TE := fun σ H Q => ∀ p, H p = none → td σ (upd H p (.dK [])) fun x H1 => ∃ a kvs, x = .ref a ∧ a ≠ p ∧ H1 p = some (.dK []) ∧ H1 a = some (.dK kvs) ∧ kvs.length ≤ 1000 ∧
  ∀ q, H1 q = none → tk σ (upd (upd H1 p (.dK (mergeK [] kvs))) q (.dK [])) fun y H2 => tv σ H2 fun z H3 => ∃ k, y = kV k ∧ H3 q = some (.dK []) ∧ H3 p = some (.dK (mergeK [] kvs)) ∧
    Q (.ref p) (upd (upd H3 q (.dK [(k, z)])) p (.dK (putK (mergeK [] kvs) k z)))
section
variable {X : Cx} {d k v : PySem.Expr} {td tk tv : TE} {pos : Pos}
/-- a dict written by the library's rules -/
theorem dict_to {pins : List (Addr × Obj)} {σ : L2.St} {H : Hp} {s : Shared} {a : Addr} {h' : Heap} {t' : Nat} {kvs kvs' : List (Key × V)} {vs : List (Key × Value)} (I : Inv X pins σ H s) (ha : H a = some (.dK kvs))
    (hs : Heap.SameBut a s.heap h') (rel : KV kvs' vs) (len : kvs'.length ≤ sizeLine) (dd : h'.DictOf (mixKind X.prog X.w) a vs) : Inv X pins σ (upd H a (.dK kvs')) { s with heap := h', toks := t' } := by
  obtain ⟨_, hd, _⟩ := dk_of I.hok ha
  refine d_write I (by rw [ha]; exact True.intro) hs ?_ (dk_new len hd rel dd)
  obtain ⟨q, _, _, hq, _⟩ := dd
  exact ⟨q, hq⟩
theorem pe_dstar (hd : PE X d td) (hk : PE X k tk) (hv : PE X v tv) : PE X (.Dict [none, some k] [d, v] pos) (tStarD td tk tv) := by
  constructor
  intro pins s σ H Q I h
  rw [arm_eval_Dict]
  refine wpAny_bind (wpAny_standAt ?_)
  have shape : (evalEachOpt [none, some k] X.env).zip ((evalEach [d, v] X.env).map fun v => do let x ← v; standAt pos; pure x) =
      [(none, do let x ← eval d X.env; standAt pos; pure x), (some (eval k X.env), do let x ← eval v X.env; standAt pos; pure x)] := rfl
  rw [shape]
  unfold dictDisplay
  dsimp only
  rw [List.forIn_cons]
  refine wpAny_bind (wpAny_bind ?_)
  dsimp only
  refine wpAny_bind ?_
  rw [if_pos (show (([] : List (Sem Value × Sem Value)).isEmpty = true) from rfl)]
  refine wpAny_pure ?_
  dsimp only
  refine wpAny_bind (wpAny_alloc ?_)
  have hn : H s.heap.objs.size = none := I.hok.fresh (Nat.le_refl _)
  have I1 := I.laid (a := s.heap.objs.size) (o := .dK []) (h' := s.heap.push { cls := .type "dict", data := .dict #[] }) (t' := s.toks) (fun _ _ q => Heap.get?_push_of_some _ q) (Nat.le_refl _) (dk_empty s.heap I.big)
  have h1 := h s.heap.objs.size hn
  generalize s.heap.objs.size = p at *
  refine wpAny_bind (wpAny_holding (wpAny_bind (thn (hd.run pins _ σ _ _ I1 h1) fun u s1 ⟨x, H1, I1, rx, a, kvs, ex, nap, hp, ha, len, q⟩ => ?_)))
  subst ex
  cases (show u = Value.ref a from rx)
  refine wpAny_bind (wpAny_standAt (wpAny_pure ?_))
  obtain ⟨z1, sy1, vs1, r1, d1⟩ := dk_of I1.hok hp
  cases r1
  obtain ⟨z2, sy2, vs2, r2, d2⟩ := dk_of I1.hok ha
  have l2 : vs2.length = kvs.length := (Paired.length r2).symm
  have lk : (mergeK [] kvs).length ≤ 1000 := by
    have := length_mergeK kvs []
    simp at this
    omega
  have sl : (1001 : Nat) ≤ sizeLine := by rw [sizeLine_eq]; decide
  refine wpAny_bind (wpAny_onRaise (wpAny_tryCatch (wpAny_onRaise (wpAny_holding (merge_into (Ne.symm nap) sy2 mix_noref d1 d2 (by simp; omega) fun h' d' sb => ?_)))))
  have I2 := dict_to (t' := s1.toks) I1 hp sb (KV.merge r2 .nil) (by omega) d'
  refine wpAny_pure ?_
  dsimp only
  rw [List.forIn_cons]
  refine wpAny_bind ?_
  dsimp only
  refine wpAny_ite_split (fun z => absurd z (by simp)) (fun _ => ?_)
  refine wpAny_pure ?_
  dsimp only
  rw [List.forIn_nil]
  refine wpAny_pure ?_
  dsimp only
  refine wpAny_bind (wpAny_ite_split (fun z => absurd z (by simp)) (fun _ => ?_))
  refine wpAny_bind (wpAny_holding ?_)
  have pairsOk : PPs X pos [some k] [v] [(tk, tv)] := pps_cons hk hv pps_nil
  generalize hs2 : ({ heap := h', gens := s1.gens, drawn := s1.drawn, toks := s1.toks, os := s1.os } : Shared) = s2 at *
  have hq : (upd H1 p (.dK (mergeK [] kvs))) s2.heap.objs.size = none := I2.hok.fresh (Nat.le_refl _)
  have np : s2.heap.objs.size ≠ p := fun z => by
    rw [z, upd_same] at hq
    cases hq
  have hq1 : H1 s2.heap.objs.size = none := by
    rw [upd_ne np] at hq
    exact hq
  have I3 := I2.laid (a := s2.heap.objs.size) (o := .dK []) (h' := s2.heap.push { cls := .type "dict", data := .dict #[] }) (t' := s2.toks) (fun _ _ q => Heap.get?_push_of_some _ q) (Nat.le_refl _) (dk_empty s2.heap I2.big)
  have q3 := q s2.heap.objs.size hq1
  have run := pairsOk.run pins _ σ _ (fun ps H' => match ps with
    | [(y, z)] => ∃ k, y = kV k ∧ H' s2.heap.objs.size = some (.dK []) ∧ H' p = some (.dK (mergeK [] kvs)) ∧
      Q (.ref p) (upd (upd H' s2.heap.objs.size (.dK [(k, z)])) p (.dK (putK (mergeK [] kvs) k z)))
    | _ => False) I3 q3
  refine wpAny_subDict (knd := mixKind X.prog X.w) (show (1 : Nat) ≤ 15 by decide) (wpAny_mono run (fun vs s3 z => ?_) fun _ _ z => z)
  obtain ⟨ps, H3, I3, rel, z⟩ := z
  match ps, rel, z with
  | [(y, z)], rel, ⟨kk, ey, eq, ep, hQ⟩ =>
    subst ey
    cases rel with
    | @cons _ b _ bs r rs =>
    cases rs
    obtain ⟨b1, b2⟩ := b
    obtain ⟨zq, syq, vsq, rq, dq⟩ := dk_of I3.hok eq
    cases rq
    refine ⟨[(kk, b2)], ⟨kV_is r.1, rfl, True.intro⟩, dq, fun h4 d4 sb4 => ?_⟩
    have rel1 : KV [(kk, z)] (merged [] [(kk, b2)]) := .cons ⟨rfl, r.2⟩ .nil
    have I4 := dict_to (t' := s3.toks + 1) I3 eq sb4 rel1 (by simp [sizeLine_eq]) d4
    have epq : (upd H3 s2.heap.objs.size (.dK [(kk, z)])) p = some (.dK (mergeK [] kvs)) := by
      rw [upd_ne (Ne.symm np)]
      exact ep
    obtain ⟨zp, syp, vsp, rp, dp⟩ := dk_of I4.hok epq
    have lp : vsp.length = (mergeK [] kvs).length := (Paired.length rp).symm
    refine wpAny_bind (wpAny_onRaise (wpAny_holding (merge_into (Ne.symm np) syq mix_noref dp d4 (show vsp.length + 1 ≤ sizeLine by omega) fun h5 d5 sb5 => ?_)))
    have rel5 : KV (putK (mergeK [] kvs) kk z) (merged vsp (merged [] [(kk, b2)])) := KV.merge rel1 rp
    have l5 : (putK (mergeK [] kvs) kk z).length ≤ sizeLine := by
      have := length_putK (mergeK [] kvs) kk z
      omega
    have I5 := dict_to (t' := s3.toks + 1) I4 epq sb5 rel5 l5 d5
    exact wpAny_pure (wpAny_pure ⟨.ref p, _, I5, rfl, hQ⟩)
end
end Ws

set_option Elab.async false
set_option linter.all false
set_option maxRecDepth 100000
set_option maxHeartbeats 4000000
namespace Ws
open PySem PySem.Spec PyProof.Rows L2
section
variable {prog : Program} {w : World} {A : Around} {E : Value → Shared → Prop} {s : Shared}
/-- a tuple's items, gathered -/
theorem gather_tup {l : Addr} {vs : List Value} {Q : List Value → Shared → Prop} (hl : IsTup s.heap l vs.toArray)
    (h : Q vs { s with heap := (s.heap.push (seqObj "list" #[] 0)).update s.heap.objs.size (Obj.mapSeq (· ++ vs.toArray)) }) (hsz : vs.length ≤ sizeLine) : wpAny (model prog w) A (collect (.ref l)) Q E s := by
  obtain ⟨o, ho, hc, n, hd⟩ := hl
  unfold collect
  refine wpAny_bind (wpAny_runValue (codeAny_builtin entry_proto_collect' ?_))
  change wpAny _ _ (do again (.builtin "list.__iadd__" ⟨[← newList [], .ref l], []⟩)) _ _ s
  refine wpAny_bind (wpAny_newList (wpAny_pure ⟨Code.quiet_builtin _ (by decide +kernel), codeAny_builtin entry_list_iadd' ?_⟩))
  change wpAny _ _ (Builtin.List.listExtendWith (.ref s.heap.objs.size) (.ref l) (.ref s.heap.objs.size)) _ _ { s with heap := s.heap.push (seqObj "list" #[] 0) }
  unfold Builtin.List.listExtendWith
  have hp : (s.heap.push (seqObj "list" #[] 0)).get? l = some o := Heap.get?_push_of_some _ ho
  refine wpAny_bind (wpAny_typeOf (T := "tuple") ⟨o, hp, hc⟩ ?_)
  have ht : (Value.type "tuple" == Value.type "tuple") = true := by rfl
  rw [if_pos (by rw [ht, Bool.or_true])]
  refine wpAny_bind (listItems_at hp hd (wpAny_bind (listItems_at (xs := #[]) (n := 0) (Heap.get?_push_size _ rfl) rfl ?_)))
  rw [if_neg (by simp)]
  refine wpAny_bind (listUpdate_at (xs := #[]) (n := 0) (Heap.get?_push_size _ rfl) rfl ?_ (Nat.zero_le _) (by simp only [Array.size_append, List.size_toArray, List.length_nil]; omega))
  refine wpAny_pure ?_
  change wpAny (model prog w) A (do
      let o ← load s.heap.objs.size
      match o.data with
      | .seq ys _ => pure ys.toList
      | _ => unsupported "internal:collect") Q E { s with heap := (s.heap.push (seqObj "list" #[] 0)).update s.heap.objs.size (Obj.mapSeq (· ++ vs.toArray)) }
  refine wpAny_bind (wpAny_load (get?_update_seq (Heap.get?_push_size _ rfl) _) ?_)
  change wpAny _ _ (pure ((#[] : Array Value) ++ vs.toArray).toList) Q E _
  rw [show ((#[] : Array Value) ++ vs.toArray).toList = vs by simp]
  exact wpAny_pure h
theorem sorted_tup {l : Addr} {vs : List Value} {ss : List Str} {Q : Value → Shared → Prop} (hl : IsTup s.heap l vs.toArray) (hS : StrsAre vs ss) (h64 : vs.length < 64)
    (h : ∀ (out : Array Value) (zs : List Str), StrsAre out.toList zs → zs.Perm ss → sortedS zs = true → Q (.ref (s.heap.objs.size + 1)) { s with heap := sortedAll s.heap vs out }) :
    wpAny (model prog w) A (call (.builtin "sorted") [.ref l]) Q E s := by
  refine Calls.call_function_entry kind_sorted plain_sorted entry_sorted (args_sorted1 _) ?_
  unfold Builtin.«sorted»
  refine wpAny_bind (m := checkCount "sorted" 1 1 _) (wpAny_pure ?_)
  refine wpAny_bind (gather_tup hl (wpAny_bind (wpAny_newList ?_ (by rw [sizeLine_eq]; omega))) (by rw [sizeLine_eq]; omega))
  have sz : ((s.heap.push (seqObj "list" #[] 0)).update s.heap.objs.size (Obj.mapSeq (· ++ vs.toArray))).objs.size = s.heap.objs.size + 1 := by rw [Heap.size_update, size_push']
  have at_ : (((s.heap.push (seqObj "list" #[] 0)).update s.heap.objs.size (Obj.mapSeq (· ++ vs.toArray))).push (seqObj "list" vs.toArray 0)).get? (s.heap.objs.size + 1) = some (seqObj "list" vs.toArray 0) := by
    rw [← sz]; exact Heap.get?_push_size _ rfl
  change wpAny _ _ _ _ _ { s with heap := ((s.heap.push (seqObj "list" #[] 0)).update s.heap.objs.size (Obj.mapSeq (· ++ vs.toArray))).push (seqObj "list" vs.toArray 0) }
  rw [sz]
  refine wpAny_bind (wpAny_holding (wpAny_call_entry slot_list_sort ⟨_, at_, rfl⟩ entry_list_sort (list_sort_treeK strKind_oneLt at_ hS.keysOf (fun v₁ v₂ rest e => keyKind_strs (by rw [← e]; exact hS)) h64 fun st' hp hs => ⟨_, rfl, ?_⟩) (args_list_sort _)))
  obtain ⟨zs, h1, h2, h3⟩ := sorted_out_str hS hp hs
  exact wpAny_pure ⟨_, rfl, h _ zs h1 h2 h3⟩
end
section
variable {X : Cx}
/-- sorted(xs), xs a list or a tuple of fewer than 64 texts -/
def rSortS (K : PySem.W.Frag) : List V → Hp → VK → Prop := fun vs H Q => ∃ (a : Addr) (xs : List Str), vs = [V.ref a] ∧ (SqL K H a (xs.map V.str) ∨ SqT K H a (xs.map V.str)) ∧ xs.length < 64 ∧
  ∀ (ys : List Str) (p : Addr), ys.Perm xs → sortedS ys = true → H p = none → Q (.ref p) (upd H p (.lst (ys.map V.str)))
theorem call_sortS : CallR X (.builtin "sorted") (rSortS X.K) := by
  intro pins s σ H vs us Q I r h
  obtain ⟨a, xs, rfl, hs, h64, q⟩ := h
  rcases hs with hs | hs
  · exact cr_sortedS pins s σ H [V.ref a] us Q I r ⟨a, xs, rfl, hs, h64, q⟩
  · obtain ⟨its, rv, hl, _⟩ := I.tuple hs
    rw [Vals.ref1 r]
    have n0 := rv.length
    rw [List.length_map] at n0
    refine sorted_tup hl rv.strs (by omega) fun out ys h1 h2 h3 => ?_
    obtain ⟨ep, he⟩ := sortedAll_at s.heap its out
    have n1 : (ys.map V.str).length ≤ sizeLine := by
      rw [List.length_map, h2.length_eq, sizeLine_eq]
      omega
    exact ⟨.ref _, upd H (s.heap.objs.size + 1) (.lst (ys.map V.str)), I.laid (t' := s.toks) (fun _ _ => sortedAll_old) (Nat.le_succ _) ⟨n1, out.toList, ep, vals_of_strs h1, he⟩, rfl, q ys _ h2 h3 (I.hok.fresh (Nat.le_succ _))⟩
/-! ### D.get(k, e), D a dict of the top with text keys -/
def tKGet2 (K : PySem.W.Frag) (w : World) (td ty tx : TE) : TE := fun σ H Q => td σ H fun x H1 => ∃ d es n, x = .ref d ∧ KDict K w d es n ∧
  ty σ H1 fun y H2 => tx σ H2 fun z H3 => ∃ k r v, y = .str k ∧ PySem.W.nsIn K d k = some r ∧ (match r with | some u => RelV v u | none => v = z) ∧ Q v H3
theorem pe_kget2 {o e f : PySem.Expr} {apos cpos : Pos} {td ty tx : TE} (ho : PE X o td) (he : PE X e ty) (hf : PE X f tx) (m : M2 X o "get" apos e f cpos) :
    PE X (.Call (.Attribute o "get" apos) [e, f] [] cpos) (tKGet2 X.K X.w td ty tx) := by
  constructor
  intro pins s σ H Q I h
  refine wpAny_Call_method m.base m.few m.line PySem.F.plainAttrs_dict PySem.F.slot_dict_get PySem.F.type_dict_get (thn (ho.run pins s σ H _ I h) fun u s1 ⟨x, H1, I1, rx, d, es, n, ex, D, q1⟩ => ?_)
  subst ex
  obtain rfl : u = Value.ref d := rx
  refine ⟨kd_type D I1, ?_, ?_⟩
  · intro b eb
    cases eb
    exact ⟨_, I1.kIn _ _ D.at_, rfl⟩
  rw [m.trees]
  refine Calls.callWith_builtin rfl (Calls.evalArgs_plain (Calls.spliced_cons (thn (he.run pins s1 σ H1 _ I1 q1) fun iv s2 ⟨y, H2, I2, ry, q2⟩ =>
    Calls.spliced_cons (thn (hf.run pins s2 σ H2 _ I2 q2) fun fv s3 ⟨z, H3, I3, rz, k, r, v, ey, el, hr, q3⟩ => Calls.spliced_nil ?_))))
  subst ey
  obtain ⟨t, rfl⟩ := ry
  refine call_meetsIn PySem.F.slot_dict_get (kd_type D I3) PySem.F.entry_dict_get (PySem.F.args_dict_get_3 _ _ _) (meets_dict_get_default (PySem.strKind X.prog X.w) d (PySem.strKind_is X.prog X.w k t) D.low fv)
    ⟨_, PySem.W.mapOf_K (prog := X.prog) I3.kIn D.at_ D.lit, ?_⟩
  rw [PySem.W.find_K D.at_ el]
  refine ⟨v, H3, I3.tok _, ?_, q3⟩
  cases r with
  | some u => exact hr
  | none =>
    cases (show v = z from hr)
    exact rz
/-! ### constants of the top -/
theorem pe_gI {x : Str} {i : Int} {pos : Pos} (hm : ∃ t, X.mg x = some (.int i t)) (hg : Gl X x) (hd : (x == ("__debug__" : Str)) = false := by decide) : PE X (.Name x pos) (tC (.int i)) := by
  obtain ⟨t, e⟩ := hm
  exact pe_glob hg e ⟨t, rfl⟩ hd
theorem pe_gS {x z : Str} {pos : Pos} (hm : ∃ t, X.mg x = some (.str z t)) (hg : Gl X x) (hd : (x == ("__debug__" : Str)) = false := by decide) : PE X (.Name x pos) (tC (.str z)) := by
  obtain ⟨t, e⟩ := hm
  exact pe_glob hg e ⟨t, rfl⟩ hd
theorem pe_gR {x : Str} {a : Addr} {pos : Pos} (hm : X.mg x = some (.ref a)) (hg : Gl X x) (hd : (x == ("__debug__" : Str)) = false := by decide) : PE X (.Name x pos) (tC (.ref a)) := pe_glob hg hm rfl hd
theorem pe_gT {x : Str} {n : String} {pos : Pos} (hm : X.mg x = none) (hv : bootBuiltins x = some (.type n)) (hg : Gl X x) (hn : x ≠ "__name__" := by decide) (hd : (x == ("__debug__" : Str)) = false := by decide) : PE X (.Name x pos) (tC (.ty n)) :=
  pe_bltn hg hm hv rfl hn hd
end
/-! ### a def without defaults, as a positional promise -/
section
variable {P : Program} {w : World} {K : PySem.W.Frag} {mg : Str → Option Value} {base : Heap} {x qual : Str} {params : Arguments} {body : List Stmt} {scope : Scope} {f : Addr}
abbrev ArgsGo (x qual : Str) (params : Arguments) (body : List Stmt) (scope : Scope) (ps : List Str) : Prop :=
  ∀ (kV doc pm : Value) (an : Option Addr) (cdv ct : Value) (us : List Value), us.length = ps.length → bindArgs (PySem.W.fnOf x qual params body scope .none kV doc pm an cdv ct) ⟨us, []⟩ = pure (ps.zip us)
theorem okR {kws : List (Str × V)} {N ps : List Str} {k : Nat} {sp : Sp} (F : ∃ fd, FunD K x qual params body scope [] kws f fd) (S : FnScope N ps scope) (B : ArgsGo x qual params body scope ps)
    (len : ∀ vs H Q E, sp vs H Q E → vs.length = ps.length)
    (hbody : ∀ (cdv : Value) (A : Around) (outer : List Env) (s : Shared) (H : Hp) (vs : List V) (Q : VK) (E : XK), Room k (A.deeper (envOfC qual scope s.heap.objs.size f cdv)) → sp vs H Q E →
      ∃ t, PSs (cxOf CX0 P w K mg base N qual scope f cdv A outer s H E).nox body t ∧ t { nx := fun _ H' => Q .non H', rt := Q } (start N vs) H) : FnR P w K mg base CX0 (k + 1) f sp := by
  obtain ⟨fd, F⟩ := F
  refine FnR.imp ((F.ok S len fun cdv A outer s H vs Q E hr h => ?_).raw (F.bindsN B) .nil) fun vs H Q E h => by rwa [List.append_nil]
  obtain ⟨t, h1, h2⟩ := hbody cdv A outer s H vs Q E hr h
  exact ⟨t, h1.nox, h2⟩
end
end Ws

set_option Elab.async false
set_option linter.all false
set_option maxRecDepth 100000
set_option maxHeartbeats 4000000
namespace Ws
open PySem PySem.Spec PyProof.Rows L2
/-- e.f, a property whose getter keeps sp -/
def tPropR (C : Addr) (sp : Sp) (E : XK) (ta : TE) : TE := fun σ H Q => ta σ H fun x H1 => ∃ a dx fs, x = .ref a ∧ H1 a = some (.ins C dx fs) ∧ sp [.ref a] H1 Q E
section
variable {X : Cx} {CX : CXT} {k : Nat} {C p g : Addr} {f : Str} {sp : Sp} {E : XK} {e : PySem.Expr} {pos : Pos} {ta : TE}
theorem pe_propR (he : PE X e ta) (c : Cls X.K C) (hp : PropOf X.K C f p g) (F : FnR X.prog X.w X.K X.mg X.base CX k g sp) (hr : Room (k + 1) X.A) (hx : Passes CX X.nox E)
    (hab : attributeBase e f X.env (eval e X.env) = eval e X.env := by rfl) : PE X (.Attribute e f pos) (tPropR C sp E ta) := by
  constructor
  intro pins s σ H Q I h
  refine attr_of hab (thn (he.run pins s σ H _ I h) fun u s1 ⟨x, H1, I1, rx, a, dx, fs, ex, ea, q⟩ => ?_)
  subst ex
  cases (show u = Value.ref a from rx)
  obtain ⟨od, J⟩ := inst_of I1 ea
  obtain ⟨rest, hrec⟩ := hp.rec_
  have I2 := I1.tok (s1.toks + 1)
  have hc : (PySem.W.clsIn X.K C).isSome = true := by
    obtain ⟨cd, hc, _⟩ := PySem.W.any_some c.hd
    rw [hc]
    rfl
  refine PySem.W.get_bind I1.kIn J (PySem.W.plainGet_of (c.get f)).1 (PySem.W.findObj_data hc hp.at_ hp.get hp.tak) (PySem.W.plainGet_of (c.get f)).2 (wpAny_call (PySem.W.prop_get (s := { s1 with toks := s1.toks + 1 }) I1.kIn hrec ?_))
  refine codeAny_mono (F X.A.in1 X.stack { s1 with toks := s1.toks + 1 } H1 [.ref a] [.ref a] Q E hr.in1 I2.env0.in1 (.cons (rr a) .nil) q) fun r s' hq => ?_
  match r, hq with
  | .error er, hq => exact False.elim (hx pins σ H1 { s1 with toks := s1.toks + 1 } er s' (I2.wish _) hq)
  | .ok (.ret u), hq =>
    obtain ⟨v, H', I3, rv, q3⟩ := I2.after hq
    show wpAny _ _ (handedOut u) _ _ _
    rw [PySem.W.handedOut_of (handed_of rv)]
    exact wpAny_pure ⟨v, H', I3, rv, q3⟩
  | .ok .next, hq => exact False.elim hq
  | .ok .brk, hq => exact False.elim hq
  | .ok .cont, hq => exact False.elim hq
end
/-! ### all arguments written, where there are defaults -/
section
variable {P : Program} {w : World} {K : PySem.W.Frag} {mg : Str → Option Value} {base : Heap} {x qual : Str} {params : Arguments} {body : List Stmt} {scope : Scope} {f : Addr}
abbrev ArgsGoD (n : Nat) (x qual : Str) (params : Arguments) (body : List Stmt) (scope : Scope) (ps : List Str) : Prop :=
  ∀ (T : Addr) (kV doc pm : Value) (an : Option Addr) (cdv ct : Value) (us its : List Value), us.length = ps.length → its.length = n →
    ∃ k, bindArgs (PySem.W.fnOf x qual params body scope (.ref T) kV doc pm an cdv ct) ⟨us, []⟩ = seqItems? (.ref T) >>= k ∧ k (some its.toArray) = pure (ps.zip us)
theorem okFD {dvs : List V} {kws : List (Str × V)} {N ps : List Str} {k : Nat} {sp : Sp} {fd : FuncData} (F : FunD K x qual params body scope dvs kws f fd) (S : FnScope N ps scope)
    (len : ∀ vs H Q E, sp vs H Q E → vs.length = ps.length)
    (hbody : ∀ (cdv : Value) (A : Around) (outer : List Env) (s : Shared) (H : Hp) (vs : List V) (Q : VK) (E : XK), Room k (A.deeper (envOfC qual scope s.heap.objs.size f cdv)) → sp vs H Q E →
      ∃ t, PSs (cxOf CX0 P w K mg base N qual scope f cdv A outer s H E).nox body t ∧ t { nx := fun _ H' => Q .non H', rt := Q } (start N vs) H) : FnOk P w K mg base CX0 (k + 1) f fd ps sp :=
  F.ok S len fun cdv A outer s H vs Q E hr h => by
    obtain ⟨t, h1, h2⟩ := hbody cdv A outer s H vs Q E hr h
    exact ⟨t, h1.nox, h2⟩
theorem rawFD {dvs : List V} {kws : List (Str × V)} {ps : List Str} {k : Nat} {sp : Sp} {fd : FuncData} (F : FunD K x qual params body scope dvs kws f fd) (hd : dvs ≠ [])
    (G : FnOk P w K mg base CX0 k f fd ps sp) (B : ArgsGoD dvs.length x qual params body scope ps) : FnR P w K mg base CX0 k f sp := by
  obtain ⟨ds, h1, h2⟩ := F.binds1 (ps := ps) ps.length dvs.length hd (by omega) fun T kV doc pm an cdv ct us its hu hi => by
    obtain ⟨k, e1, e2⟩ := B T kV doc pm an cdv ct us its hu hi
    refine ⟨k, e1, ?_⟩
    rw [e2, List.drop_eq_nil_of_le (by omega), List.append_nil]
  rw [List.drop_length] at h1
  cases h1
  exact FnR.imp (G.raw h2 .nil) fun vs H Q E h => by rwa [List.append_nil]
end
/-! ### frames -/
/-- all that stands keeps standing as it is, but what is in S -/
structure Kp (S : Addr → Prop) (H H' : Hp) : Prop where
  keep : ∀ a o, H a = some o → ¬ S a → H' a = some o
  dom : ∀ a, H a ≠ none → H' a ≠ none
def no : Addr → Prop := fun _ => False
section
variable {S T : Addr → Prop} {H H1 H2 : Hp} {a p : Addr} {o : HO}
theorem Kp.refl : Kp S H H := ⟨fun _ _ h _ => h, fun _ h => h⟩
theorem Kp.trans (u : Kp S H H1) (v : Kp S H1 H2) : Kp S H H2 := ⟨fun a o h n => v.keep a o (u.keep a o h n) n, fun a h => v.dom a (u.dom a h)⟩
theorem Kp.mono (u : Kp S H H1) (h : ∀ a, S a → T a) : Kp T H H1 := ⟨fun a o e n => u.keep a o e fun z => n (h a z), u.dom⟩
theorem Kp.ext (e : Ext H H1) : Kp S H H1 := ⟨fun a o h _ => e a o h, fun a h => by
  cases q : H a with
  | none => exact absurd q h
  | some o => rw [e a o q]; exact fun z => nomatch z⟩
theorem Kp.to (u : Kp no H H1) : Ext H H1 := fun a o h => u.keep a o h fun z => z
theorem ext_new (hp : H p = none) : Ext H (upd H p o) := fun a u e => by rw [upd_ne (ne_of_none e hp)]; exact e
theorem Kp.new (hp : H p = none) : Kp S H (upd H p o) := .ext (ext_new hp)
theorem Kp.put (u : Kp S H H1) (hs : S a) : Kp S H (upd H1 a o) := ⟨fun b x e n => by
    by_cases z : b = a
    · exact absurd (z ▸ hs : S b) n
    · rw [upd_ne z]; exact u.keep b x e n, fun b hb => by
    by_cases z : b = a
    · subst z; rw [upd_same]; exact fun z => nomatch z
    · rw [upd_ne z]; exact u.dom b hb⟩
theorem Kp.add (u : Kp S H H1) (hp : H1 p = none) : Kp S H (upd H1 p o) := u.trans (.new hp)
/-- at a stands o, and a is not to change -/
def At (S : Addr → Prop) (H : Hp) (a : Addr) (o : HO) : Prop := H a = some o ∧ ¬ S a
theorem At.kp (h : At S H a o) (u : Kp S H H1) : At S H1 a o := ⟨u.keep a o h.1 h.2, h.2⟩
theorem At.new (hS : ∀ a, S a → H a ≠ none) (hp : H p = none) : At S (upd H p o) p o := ⟨upd_same, fun z => hS p z hp⟩
theorem ext_dom (e : Ext H H1) (h : H a ≠ none) : H1 a ≠ none := by
  cases q : H a with
  | none => exact absurd q h
  | some o => rw [e a o q]; exact fun z => nomatch z
end
end Ws

set_option Elab.async false
set_option linter.all false
set_option maxRecDepth 100000
set_option maxHeartbeats 4000000
namespace Ws
open PySem PySem.Spec PyProof.Rows L2
/-- where the i-th item of the tuple at a stands -/
def tupIt (K : PySem.W.Frag) (a : Addr) (i : Nat) : Addr := ((K.lookup a).bind fun o => match o.data with
  | .seq its _ => (its.toList[i]?).bind fun u => match u with
    | .ref b => some b
    | _ => none
  | _ => none).getD 0
def tupAB (K : PySem.W.Frag) (a : Addr) (vs : List V) : Bool := (K.lookup a).any fun o => match o.data with
  | .seq its _ => He.eqO (some (some o.cls)) (some (some (.type "tuple"))) && (decide (its.size ≤ sizeLine) && He.relAll vs its.toList)
  | _ => false
theorem tupAB_ok {K : PySem.W.Frag} {a : Addr} {vs : List V} (h : tupAB K a vs = true) (H : Hp) : SqT K H a vs := by
  unfold tupAB at h
  cases q : K.lookup a with
  | none =>
    rw [q] at h
    cases h
  | some o =>
    rw [q] at h
    replace h : (match o.data with
      | .seq its _ => He.eqO (some (some o.cls)) (some (some (.type "tuple"))) && (decide (its.size ≤ sizeLine) && He.relAll vs its.toList)
      | _ => false) = true := h
    split at h
    · rename_i its n e
      obtain ⟨h1, h2⟩ := He.ba h
      obtain ⟨h3, h4⟩ := He.ba h2
      exact .inr ⟨o, its, n, q, Option.some.inj (Option.some.inj (He.eqO_ok h1)), e, of_decide_eq_true h3, He.relAll_ok h4⟩
    · cases h
end Ws

set_option Elab.async false
set_option linter.all false
set_option maxRecDepth 100000
set_option maxHeartbeats 4000000
namespace Ws
open PySem PySem.Spec PyProof.Rows L2
/-- the i-th statement of the text -/
def top (i : Nat) : Stmt := PySem.Challenge.pw_wholestory_k85_texts_of_stories.main.body.getD i (.Pass ⟨0, 0, 0, 0⟩)
abbrev s_is_number : Stmt := top 15
abbrev s_is_name : Stmt := top 16
abbrev s_are_different : Stmt := top 17
abbrev s_are_names : Stmt := top 18
abbrev s_Rule_init : Stmt := inClass (top 19) 0
abbrev s_Rule_share : Stmt := inClass (top 19) 1
abbrev s_Rule_eq : Stmt := inClass (top 19) 5
abbrev s_are_rules : Stmt := top 20
abbrev s_House_init : Stmt := inClass (top 21) 0
abbrev s_House_rules : Stmt := inClass (top 21) 1
abbrev s_House_calls : Stmt := inClass (top 21) 2
abbrev s_House_lost : Stmt := inClass (top 21) 3
abbrev s_House_fails : Stmt := inClass (top 21) 4
abbrev s_House_eq : Stmt := inClass (top 21) 6
abbrev s_are_named : Stmt := top 22
abbrev s_need_houses : Stmt := top 23
abbrev s_Net_init : Stmt := inClass (top 24) 0
abbrev s_Net_entries : Stmt := inClass (top 24) 2
abbrev s_Net_contains : Stmt := inClass (top 24) 5
abbrev s_Net_getitem : Stmt := inClass (top 24) 6
abbrev s_Net_eq : Stmt := inClass (top 24) 8
abbrev s_need_net : Stmt := top 25
abbrev s_need_house : Stmt := top 26
abbrev s_is_call : Stmt := top 28
abbrev s_wrong_call : Stmt := top 29
abbrev s_need_story : Stmt := top 30
abbrev s_calls_in : Stmt := top 31
abbrev s_call_text : Stmt := top 35
abbrev s_story_text : Stmt := top 36
abbrev s_read_head : Stmt := top 37
abbrev s_read_call : Stmt := top 38
abbrev s_read_story : Stmt := top 39
abbrev s_l_begun : Stmt := top 41
abbrev s_l_mixed : Stmt := top 42
abbrev s_l_take : Stmt := top 43
abbrev s_l_pick : Stmt := top 44
abbrev s_l_names : Stmt := top 45
abbrev s_l_rule : Stmt := top 46
abbrev s_l_model : Stmt := top 47
abbrev s_l_rules_of : Stmt := top 48
abbrev s_l_net : Stmt := top 49
abbrev s_l_some_call : Stmt := top 50
abbrev s_l_drawn_calls : Stmt := top 51
abbrev s_l_story : Stmt := top 52
abbrev s_l_call_text : Stmt := top 53
abbrev s_l_is_right : Stmt := top 54
abbrev s_l_steep : Stmt := top 55
abbrev s_law : Stmt := top 56
section
variable (K : PySem.W.Frag)
/-- the getter of a property -/
def gA (C f : Str) : Addr := match PySem.W.recIn K (He.ma K (He.ga K C) f) "property" with
  | some (.ref g :: _) => g
  | _ => 0
abbrev c_Rule : Addr := He.ga K "Rule"
abbrev c_House : Addr := He.ga K "House"
abbrev c_Net : Addr := He.ga K "Net"
abbrev c_StoryError : Addr := He.ga K "StoryError"
abbrev a_is_number : Addr := He.ga K "is_number"
abbrev a_is_name : Addr := He.ga K "is_name"
abbrev a_are_different : Addr := He.ga K "are_different"
abbrev a_are_names : Addr := He.ga K "are_names"
abbrev a_Rule_init : Addr := He.ma K (He.ga K "Rule") "__init__"
abbrev a_Rule_share : Addr := gA K "Rule" "share"
abbrev a_Rule_eq : Addr := He.ma K (He.ga K "Rule") "__eq__"
abbrev a_are_rules : Addr := He.ga K "are_rules"
abbrev a_House_init : Addr := He.ma K (He.ga K "House") "__init__"
abbrev a_House_rules : Addr := gA K "House" "rules"
abbrev a_House_calls : Addr := gA K "House" "calls"
abbrev a_House_lost : Addr := gA K "House" "lost"
abbrev a_House_fails : Addr := gA K "House" "fails"
abbrev a_House_eq : Addr := He.ma K (He.ga K "House") "__eq__"
abbrev a_are_named : Addr := He.ga K "are_named"
abbrev a_need_houses : Addr := He.ga K "need_houses"
abbrev a_Net_init : Addr := He.ma K (He.ga K "Net") "__init__"
abbrev a_Net_entries : Addr := gA K "Net" "entries"
abbrev a_Net_contains : Addr := He.ma K (He.ga K "Net") "__contains__"
abbrev a_Net_getitem : Addr := He.ma K (He.ga K "Net") "__getitem__"
abbrev a_Net_eq : Addr := He.ma K (He.ga K "Net") "__eq__"
abbrev a_need_net : Addr := He.ga K "need_net"
abbrev a_need_house : Addr := He.ga K "need_house"
abbrev a_is_call : Addr := He.ga K "is_call"
abbrev a_wrong_call : Addr := He.ga K "wrong_call"
abbrev a_need_story : Addr := He.ga K "need_story"
abbrev a_calls_in : Addr := He.ga K "calls_in"
abbrev a_call_text : Addr := He.ga K "call_text"
abbrev a_story_text : Addr := He.ga K "story_text"
abbrev a_read_head : Addr := He.ga K "read_head"
abbrev a_read_call : Addr := He.ga K "read_call"
abbrev a_read_story : Addr := He.ga K "read_story"
abbrev a_l_begun : Addr := He.ga K "_law_begun"
abbrev a_l_mixed : Addr := He.ga K "_law_mixed"
abbrev a_l_take : Addr := He.ga K "_law_take"
abbrev a_l_pick : Addr := He.ga K "_law_pick"
abbrev a_l_names : Addr := He.ga K "_law_names"
abbrev a_l_rule : Addr := He.ga K "_law_rule"
abbrev a_l_model : Addr := He.ga K "_law_model"
abbrev a_l_rules_of : Addr := He.ga K "_law_rules_of"
abbrev a_l_net : Addr := He.ga K "_law_net"
abbrev a_l_some_call : Addr := He.ga K "_law_some_call"
abbrev a_l_drawn_calls : Addr := He.ga K "_law_drawn_calls"
abbrev a_l_story : Addr := He.ga K "_law_story"
abbrev a_l_call_text : Addr := He.ga K "_law_call_text"
abbrev a_l_is_right : Addr := He.ga K "_law_is_right"
abbrev a_l_steep : Addr := He.ga K "_law_steep"
abbrev a_law : Addr := He.ga K "law"
end
/-- what the top leaves -/
structure Fx (K : PySem.W.Frag) (mg : Str → Option Value) (w : World) : Prop where
  n_isinstance : mg "isinstance" = none
  n_int : mg "int" = none
  n_bool : mg "bool" = none
  n_str : mg "str" = none
  n_list : mg "list" = none
  n_tuple : mg "tuple" = none
  n_dict : mg "dict" = none
  n_len : mg "len" = none
  n_all : mg "all" = none
  n_any : mg "any" = none
  n_sorted : mg "sorted" = none
  n_range : mg "range" = none
  n_min : mg "min" = none
  n_abs : mg "abs" = none
  n_enumerate : mg "enumerate" = none
  n_repr : mg "repr" = none
  m_is_number : mg "is_number" = some (.ref (a_is_number K))
  F_is_number : ∃ fd, FunD K "is_number" "is_number" (defArgs s_is_number) (defBody s_is_number) (defScope s_is_number) [] [] (a_is_number K) fd
  m_is_name : mg "is_name" = some (.ref (a_is_name K))
  F_is_name : ∃ fd, FunD K "is_name" "is_name" (defArgs s_is_name) (defBody s_is_name) (defScope s_is_name) [] [] (a_is_name K) fd
  m_are_different : mg "are_different" = some (.ref (a_are_different K))
  F_are_different : ∃ fd, FunD K "are_different" "are_different" (defArgs s_are_different) (defBody s_are_different) (defScope s_are_different) [] [] (a_are_different K) fd
  m_are_names : mg "are_names" = some (.ref (a_are_names K))
  F_are_names : ∃ fd, FunD K "are_names" "are_names" (defArgs s_are_names) (defBody s_are_names) (defScope s_are_names) [] [] (a_are_names K) fd
  F_Rule_init : ∃ fd, FunD K "__init__" "Rule.__init__" (defArgs s_Rule_init) (defBody s_Rule_init) (defScope s_Rule_init) [.str "handed", .bl false, .bl false] [] (a_Rule_init K) fd
  p_Rule_share : PropOf K (c_Rule K) "share" (He.ma K (c_Rule K) "share") (a_Rule_share K)
  F_Rule_share : ∃ fd, FunD K "share" "Rule.share" (defArgs s_Rule_share) (defBody s_Rule_share) (defScope s_Rule_share) [] [] (a_Rule_share K) fd
  F_Rule_eq : ∃ fd, FunD K "__eq__" "Rule.__eq__" (defArgs s_Rule_eq) (defBody s_Rule_eq) (defScope s_Rule_eq) [] [] (a_Rule_eq K) fd
  m_are_rules : mg "are_rules" = some (.ref (a_are_rules K))
  F_are_rules : ∃ fd, FunD K "are_rules" "are_rules" (defArgs s_are_rules) (defBody s_are_rules) (defScope s_are_rules) [] [] (a_are_rules K) fd
  F_House_init : ∃ fd, FunD K "__init__" "House.__init__" (defArgs s_House_init) (defBody s_House_init) (defScope s_House_init) [.ref (He.dflAt ("House", some "__init__") 0 K), .ref (He.dflAt ("House", some "__init__") 1 K), .bl false] [] (a_House_init K) fd
  p_House_rules : PropOf K (c_House K) "rules" (He.ma K (c_House K) "rules") (a_House_rules K)
  F_House_rules : ∃ fd, FunD K "rules" "House.rules" (defArgs s_House_rules) (defBody s_House_rules) (defScope s_House_rules) [] [] (a_House_rules K) fd
  p_House_calls : PropOf K (c_House K) "calls" (He.ma K (c_House K) "calls") (a_House_calls K)
  F_House_calls : ∃ fd, FunD K "calls" "House.calls" (defArgs s_House_calls) (defBody s_House_calls) (defScope s_House_calls) [] [] (a_House_calls K) fd
  p_House_lost : PropOf K (c_House K) "lost" (He.ma K (c_House K) "lost") (a_House_lost K)
  F_House_lost : ∃ fd, FunD K "lost" "House.lost" (defArgs s_House_lost) (defBody s_House_lost) (defScope s_House_lost) [] [] (a_House_lost K) fd
  p_House_fails : PropOf K (c_House K) "fails" (He.ma K (c_House K) "fails") (a_House_fails K)
  F_House_fails : ∃ fd, FunD K "fails" "House.fails" (defArgs s_House_fails) (defBody s_House_fails) (defScope s_House_fails) [] [] (a_House_fails K) fd
  F_House_eq : ∃ fd, FunD K "__eq__" "House.__eq__" (defArgs s_House_eq) (defBody s_House_eq) (defScope s_House_eq) [] [] (a_House_eq K) fd
  m_are_named : mg "are_named" = some (.ref (a_are_named K))
  F_are_named : ∃ fd, FunD K "are_named" "are_named" (defArgs s_are_named) (defBody s_are_named) (defScope s_are_named) [] [] (a_are_named K) fd
  m_need_houses : mg "need_houses" = some (.ref (a_need_houses K))
  F_need_houses : ∃ fd, FunD K "need_houses" "need_houses" (defArgs s_need_houses) (defBody s_need_houses) (defScope s_need_houses) [] [] (a_need_houses K) fd
  F_Net_init : ∃ fd, FunD K "__init__" "Net.__init__" (defArgs s_Net_init) (defBody s_Net_init) (defScope s_Net_init) [] [] (a_Net_init K) fd
  p_Net_entries : PropOf K (c_Net K) "entries" (He.ma K (c_Net K) "entries") (a_Net_entries K)
  F_Net_entries : ∃ fd, FunD K "entries" "Net.entries" (defArgs s_Net_entries) (defBody s_Net_entries) (defScope s_Net_entries) [] [] (a_Net_entries K) fd
  F_Net_contains : ∃ fd, FunD K "__contains__" "Net.__contains__" (defArgs s_Net_contains) (defBody s_Net_contains) (defScope s_Net_contains) [] [] (a_Net_contains K) fd
  F_Net_getitem : ∃ fd, FunD K "__getitem__" "Net.__getitem__" (defArgs s_Net_getitem) (defBody s_Net_getitem) (defScope s_Net_getitem) [] [] (a_Net_getitem K) fd
  F_Net_eq : ∃ fd, FunD K "__eq__" "Net.__eq__" (defArgs s_Net_eq) (defBody s_Net_eq) (defScope s_Net_eq) [] [] (a_Net_eq K) fd
  m_need_net : mg "need_net" = some (.ref (a_need_net K))
  F_need_net : ∃ fd, FunD K "need_net" "need_net" (defArgs s_need_net) (defBody s_need_net) (defScope s_need_net) [] [] (a_need_net K) fd
  m_need_house : mg "need_house" = some (.ref (a_need_house K))
  F_need_house : ∃ fd, FunD K "need_house" "need_house" (defArgs s_need_house) (defBody s_need_house) (defScope s_need_house) [] [] (a_need_house K) fd
  m_is_call : mg "is_call" = some (.ref (a_is_call K))
  F_is_call : ∃ fd, FunD K "is_call" "is_call" (defArgs s_is_call) (defBody s_is_call) (defScope s_is_call) [] [] (a_is_call K) fd
  m_wrong_call : mg "wrong_call" = some (.ref (a_wrong_call K))
  F_wrong_call : ∃ fd, FunD K "wrong_call" "wrong_call" (defArgs s_wrong_call) (defBody s_wrong_call) (defScope s_wrong_call) [] [] (a_wrong_call K) fd
  m_need_story : mg "need_story" = some (.ref (a_need_story K))
  F_need_story : ∃ fd, FunD K "need_story" "need_story" (defArgs s_need_story) (defBody s_need_story) (defScope s_need_story) [] [] (a_need_story K) fd
  m_calls_in : mg "calls_in" = some (.ref (a_calls_in K))
  F_calls_in : ∃ fd, FunD K "calls_in" "calls_in" (defArgs s_calls_in) (defBody s_calls_in) (defScope s_calls_in) [] [] (a_calls_in K) fd
  m_call_text : mg "call_text" = some (.ref (a_call_text K))
  F_call_text : ∃ fd, FunD K "call_text" "call_text" (defArgs s_call_text) (defBody s_call_text) (defScope s_call_text) [] [] (a_call_text K) fd
  m_story_text : mg "story_text" = some (.ref (a_story_text K))
  F_story_text : ∃ fd, FunD K "story_text" "story_text" (defArgs s_story_text) (defBody s_story_text) (defScope s_story_text) [] [] (a_story_text K) fd
  m_read_head : mg "read_head" = some (.ref (a_read_head K))
  F_read_head : ∃ fd, FunD K "read_head" "read_head" (defArgs s_read_head) (defBody s_read_head) (defScope s_read_head) [] [] (a_read_head K) fd
  m_read_call : mg "read_call" = some (.ref (a_read_call K))
  F_read_call : ∃ fd, FunD K "read_call" "read_call" (defArgs s_read_call) (defBody s_read_call) (defScope s_read_call) [] [] (a_read_call K) fd
  m_read_story : mg "read_story" = some (.ref (a_read_story K))
  F_read_story : ∃ fd, FunD K "read_story" "read_story" (defArgs s_read_story) (defBody s_read_story) (defScope s_read_story) [] [] (a_read_story K) fd
  m_l_begun : mg "_law_begun" = some (.ref (a_l_begun K))
  F_l_begun : ∃ fd, FunD K "_law_begun" "_law_begun" (defArgs s_l_begun) (defBody s_l_begun) (defScope s_l_begun) [] [] (a_l_begun K) fd
  m_l_mixed : mg "_law_mixed" = some (.ref (a_l_mixed K))
  F_l_mixed : ∃ fd, FunD K "_law_mixed" "_law_mixed" (defArgs s_l_mixed) (defBody s_l_mixed) (defScope s_l_mixed) [] [] (a_l_mixed K) fd
  m_l_take : mg "_law_take" = some (.ref (a_l_take K))
  F_l_take : ∃ fd, FunD K "_law_take" "_law_take" (defArgs s_l_take) (defBody s_l_take) (defScope s_l_take) [] [] (a_l_take K) fd
  m_l_pick : mg "_law_pick" = some (.ref (a_l_pick K))
  F_l_pick : ∃ fd, FunD K "_law_pick" "_law_pick" (defArgs s_l_pick) (defBody s_l_pick) (defScope s_l_pick) [] [] (a_l_pick K) fd
  m_l_names : mg "_law_names" = some (.ref (a_l_names K))
  F_l_names : ∃ fd, FunD K "_law_names" "_law_names" (defArgs s_l_names) (defBody s_l_names) (defScope s_l_names) [] [] (a_l_names K) fd
  m_l_rule : mg "_law_rule" = some (.ref (a_l_rule K))
  F_l_rule : ∃ fd, FunD K "_law_rule" "_law_rule" (defArgs s_l_rule) (defBody s_l_rule) (defScope s_l_rule) [] [] (a_l_rule K) fd
  m_l_model : mg "_law_model" = some (.ref (a_l_model K))
  F_l_model : ∃ fd, FunD K "_law_model" "_law_model" (defArgs s_l_model) (defBody s_l_model) (defScope s_l_model) [] [] (a_l_model K) fd
  m_l_rules_of : mg "_law_rules_of" = some (.ref (a_l_rules_of K))
  F_l_rules_of : ∃ fd, FunD K "_law_rules_of" "_law_rules_of" (defArgs s_l_rules_of) (defBody s_l_rules_of) (defScope s_l_rules_of) [] [] (a_l_rules_of K) fd
  m_l_net : mg "_law_net" = some (.ref (a_l_net K))
  F_l_net : ∃ fd, FunD K "_law_net" "_law_net" (defArgs s_l_net) (defBody s_l_net) (defScope s_l_net) [] [] (a_l_net K) fd
  m_l_some_call : mg "_law_some_call" = some (.ref (a_l_some_call K))
  F_l_some_call : ∃ fd, FunD K "_law_some_call" "_law_some_call" (defArgs s_l_some_call) (defBody s_l_some_call) (defScope s_l_some_call) [] [] (a_l_some_call K) fd
  m_l_drawn_calls : mg "_law_drawn_calls" = some (.ref (a_l_drawn_calls K))
  F_l_drawn_calls : ∃ fd, FunD K "_law_drawn_calls" "_law_drawn_calls" (defArgs s_l_drawn_calls) (defBody s_l_drawn_calls) (defScope s_l_drawn_calls) [] [] (a_l_drawn_calls K) fd
  m_l_story : mg "_law_story" = some (.ref (a_l_story K))
  F_l_story : ∃ fd, FunD K "_law_story" "_law_story" (defArgs s_l_story) (defBody s_l_story) (defScope s_l_story) [] [] (a_l_story K) fd
  m_l_call_text : mg "_law_call_text" = some (.ref (a_l_call_text K))
  F_l_call_text : ∃ fd, FunD K "_law_call_text" "_law_call_text" (defArgs s_l_call_text) (defBody s_l_call_text) (defScope s_l_call_text) [] [] (a_l_call_text K) fd
  m_l_is_right : mg "_law_is_right" = some (.ref (a_l_is_right K))
  F_l_is_right : ∃ fd, FunD K "_law_is_right" "_law_is_right" (defArgs s_l_is_right) (defBody s_l_is_right) (defScope s_l_is_right) [] [] (a_l_is_right K) fd
  m_l_steep : mg "_law_steep" = some (.ref (a_l_steep K))
  F_l_steep : ∃ fd, FunD K "_law_steep" "_law_steep" (defArgs s_l_steep) (defBody s_l_steep) (defScope s_l_steep) [] [] (a_l_steep K) fd
  F_law : ∃ fd, FunD K "law" "law" (defArgs s_law) (defBody s_law) (defScope s_law) [] [] (a_law K) fd
  m_Rule : mg "Rule" = some (.ref (c_Rule K))
  cl_Rule : Cls K (c_Rule K)
  mk_Rule : Mk K (c_Rule K) (a_Rule_init K)
  na_Rule_r_parts : NoAttr K (c_Rule K) "r_parts"
  mro_Rule : PySem.W.mroIn K (c_Rule K) (.type "object") = some true
  cc_Rule : PySem.W.findIn K (.ref (c_Rule K)) "__class__" = some (some (.builtin "object.__class__"))
  kit_Rule : PySem.W.kitOne K (.ref (c_Rule K)) (.ref (c_Rule K)) = some true
  sp_Rule_eq : PySem.W.findIn K (.ref (c_Rule K)) "__eq__" = some (some (.ref (a_Rule_eq K)))
  fn_Rule_eq : PySem.W.isFn K (.ref (a_Rule_eq K)) = true
  fi_Rule_eq : PySem.W.fnIn K (a_Rule_eq K) = true
  ne_Rule : PySem.W.findIn K (.ref (c_Rule K)) "__ne__" = some (some (.builtin "object.__ne__"))
  m_House : mg "House" = some (.ref (c_House K))
  cl_House : Cls K (c_House K)
  mk_House : Mk K (c_House K) (a_House_init K)
  na_House_h_rules : NoAttr K (c_House K) "h_rules"
  na_House_h_calls : NoAttr K (c_House K) "h_calls"
  na_House_h_lost : NoAttr K (c_House K) "h_lost"
  na_House_h_fails : NoAttr K (c_House K) "h_fails"
  mro_House : PySem.W.mroIn K (c_House K) (.type "object") = some true
  cc_House : PySem.W.findIn K (.ref (c_House K)) "__class__" = some (some (.builtin "object.__class__"))
  kit_House : PySem.W.kitOne K (.ref (c_House K)) (.ref (c_House K)) = some true
  sp_House_eq : PySem.W.findIn K (.ref (c_House K)) "__eq__" = some (some (.ref (a_House_eq K)))
  fn_House_eq : PySem.W.isFn K (.ref (a_House_eq K)) = true
  fi_House_eq : PySem.W.fnIn K (a_House_eq K) = true
  ne_House : PySem.W.findIn K (.ref (c_House K)) "__ne__" = some (some (.builtin "object.__ne__"))
  m_Net : mg "Net" = some (.ref (c_Net K))
  cl_Net : Cls K (c_Net K)
  mk_Net : Mk K (c_Net K) (a_Net_init K)
  na_Net_n_fine : NoAttr K (c_Net K) "n_fine"
  na_Net_n_houses : NoAttr K (c_Net K) "n_houses"
  na_Net_n_entries : NoAttr K (c_Net K) "n_entries"
  mro_Net : PySem.W.mroIn K (c_Net K) (.type "object") = some true
  cc_Net : PySem.W.findIn K (.ref (c_Net K)) "__class__" = some (some (.builtin "object.__class__"))
  kit_Net : PySem.W.kitOne K (.ref (c_Net K)) (.ref (c_Net K)) = some true
  sp_Net_eq : PySem.W.findIn K (.ref (c_Net K)) "__eq__" = some (some (.ref (a_Net_eq K)))
  fn_Net_eq : PySem.W.isFn K (.ref (a_Net_eq K)) = true
  fi_Net_eq : PySem.W.fnIn K (a_Net_eq K) = true
  sp_Net_contains : PySem.W.findIn K (.ref (c_Net K)) "__contains__" = some (some (.ref (a_Net_contains K)))
  fn_Net_contains : PySem.W.isFn K (.ref (a_Net_contains K)) = true
  fi_Net_contains : PySem.W.fnIn K (a_Net_contains K) = true
  sp_Net_getitem : PySem.W.findIn K (.ref (c_Net K)) "__getitem__" = some (some (.ref (a_Net_getitem K)))
  fn_Net_getitem : PySem.W.isFn K (.ref (a_Net_getitem K)) = true
  fi_Net_getitem : PySem.W.fnIn K (a_Net_getitem K) = true
  ne_Net : PySem.W.findIn K (.ref (c_Net K)) "__ne__" = some (some (.builtin "object.__ne__"))
  m_StoryError : mg "StoryError" = some (.ref (c_StoryError K))
  cget : PySem.W.specialIn K (.builtin "object.__class__") "__get__" = some (some (.builtin "getset_descriptor.__get__"))
  ctak : PySem.W.takesIn K (.builtin "object.__class__") = some true
  z_HANDED : ∃ t, mg "HANDED" = some (.str "handed" t)
  z_LETTERS : ∃ t, mg "LETTERS" = some (.str "abcdefghijklmnopqrstuvwxyz" t)
  i_LONGEST_NAME : ∃ t, mg "LONGEST_NAME" = some (.int 6 t)
  i_MOST_FINE : ∃ t, mg "MOST_FINE" = some (.int 1000 t)
  i_MOST_HOUSES : ∃ t, mg "MOST_HOUSES" = some (.int 8 t)
  i_MOST_CALLS : ∃ t, mg "MOST_CALLS" = some (.int 60 t)
  i_MOST_DEPTH : ∃ t, mg "MOST_DEPTH" = some (.int 30 t)
/-- the defs that make lambdas -/
def hlam : List (Str × Option Str) := []
theorem keep_of {K : PySem.W.Frag} {x q : Str} {ps : Arguments} {b : List Stmt} {sc : Scope} {dv : List V} {kw : List (Str × V)} {f : Addr} (h : ∃ fd, FunD K x q ps b sc dv kw f fd) : PySem.W.keepIn K (.ref f) = true := h.elim fun _ F => F.kp
theorem bb_isinstance : bootBuiltins "isinstance" = some (.builtin "isinstance") := by decide +kernel
theorem bb_int : bootBuiltins "int" = some (.type "int") := by decide +kernel
theorem bb_bool : bootBuiltins "bool" = some (.type "bool") := by decide +kernel
theorem bb_str : bootBuiltins "str" = some (.type "str") := by decide +kernel
theorem bb_list : bootBuiltins "list" = some (.type "list") := by decide +kernel
theorem bb_tuple : bootBuiltins "tuple" = some (.type "tuple") := by decide +kernel
theorem bb_dict : bootBuiltins "dict" = some (.type "dict") := by decide +kernel
theorem bb_len : bootBuiltins "len" = some (.builtin "len") := by decide +kernel
theorem bb_all : bootBuiltins "all" = some (.builtin "all") := by decide +kernel
theorem bb_any : bootBuiltins "any" = some (.builtin "any") := by decide +kernel
theorem bb_sorted : bootBuiltins "sorted" = some (.builtin "sorted") := by decide +kernel
theorem bb_min : bootBuiltins "min" = some (.builtin "min") := by decide +kernel
theorem bb_abs : bootBuiltins "abs" = some (.builtin "abs") := by decide +kernel
theorem bb_repr : bootBuiltins "repr" = some (.builtin "repr") := by decide +kernel
end Ws

set_option Elab.async false
set_option linter.all false
set_option maxRecDepth 100000
set_option maxHeartbeats 4000000
namespace Ws
open PySem PySem.Spec PyProof.Rows L2
/-- J yields the xs one behind another, as long as all but S stands -/
def Std (S : Addr → Prop) (J : It) (H : Hp) (xs : List V) : Prop :=
  ∀ H', Kp S H H' → ∀ i, (∀ v, xs[i]? = some v → J.go i H' ∧ ∀ x H2, J.yld i H' x H2 → H2 = H' ∧ x = v) ∧ (xs.length ≤ i → J.stop i H')
section
variable {S : Addr → Prop} {K : PySem.W.Frag} {H H1 : Hp} {a : Addr} {xs : List V} {J : It}
theorem sqL_kp (h : SqL K H a xs) (n : ¬ S a) (u : Kp S H H1) : SqL K H1 a xs := by
  rcases h with (h | ⟨o, h⟩) | h
  · exact .inl (.inl (u.keep _ _ h n))
  · exact .inl (.inr ⟨o, u.keep _ _ h n⟩)
  · exact .inr h
theorem sqT_kp (h : SqT K H a xs) (n : ¬ S a) (u : Kp S H H1) : SqT K H1 a xs := by
  rcases h with (h | ⟨o, h⟩) | h
  · exact .inl (.inl (u.keep _ _ h n))
  · exact .inl (.inr ⟨o, u.keep _ _ h n⟩)
  · exact .inr h
theorem sqL_ext (h : SqL K H a xs) (u : Ext H H1) : SqL K H1 a xs := sqL_kp (S := no) h (fun z => z) (.ext u)
theorem sqT_ext (h : SqT K H a xs) (u : Ext H H1) : SqT K H1 a xs := sqT_kp (S := no) h (fun z => z) (.ext u)
theorem Std.mono (st : Std S J H xs) (u : Kp S H H1) : Std S J H1 xs := fun H' v => st H' (u.trans v)
theorem std_list (h : SqL K H a xs) (n : ¬ S a) : Std S (Itl K a) H xs := fun H' u i => by
  have h' := sqL_kp h n u
  exact ⟨fun v e => ⟨⟨xs, v, h', e⟩, fun x H2 y => ⟨y.1, Option.some.inj ((y.2 xs h').symm.trans e)⟩⟩, fun le => ⟨xs, h', le⟩⟩
theorem std_tup (h : SqT K H a xs) (n : ¬ S a) : Std S (Itt K a) H xs := fun H' u i => by
  have h' := sqT_kp h n u
  exact ⟨fun v e => ⟨⟨xs, v, h', e⟩, fun x H2 y => ⟨y.1, Option.some.inj ((y.2 xs h').symm.trans e)⟩⟩, fun le => ⟨xs, h', le⟩⟩
theorem std_str {z : Str} : Std S (Its z) H (z.cps.toList.map fun c => V.str ⟨#[c]⟩) := fun H' u i => by
  refine ⟨fun v e => ?_, fun le => ?_⟩
  · rw [List.getElem?_map, Array.getElem?_toList] at e
    refine ⟨?_, fun x H2 y => ⟨y.1, ?_⟩⟩
    · show i < z.cps.size
      cases q : z.cps[i]? with
      | none => rw [q] at e; cases e
      | some c => exact (Array.getElem?_eq_some_iff.mp q).1
    · obtain ⟨_, c, q, rfl⟩ := y
      rw [q] at e
      exact Option.some.inj e
  · show z.cps.size ≤ i
    simpa using le
theorem std_range {lo : Int} {n : Nat} : Std S (Itr lo n) H ((List.range n).map fun i => V.int (lo + (i : Nat))) := fun H' u i => by
  refine ⟨fun v e => ?_, fun le => ?_⟩
  · rw [List.getElem?_map] at e
    cases q : (List.range n)[i]? with
    | none => rw [q] at e; cases e
    | some j =>
      rw [q] at e
      obtain ⟨h1, h2⟩ := List.getElem?_eq_some_iff.mp q
      rw [List.getElem_range] at h2
      subst h2
      exact ⟨(show i < n by simpa using h1), fun x H2 y => ⟨y.1, y.2.trans (Option.some.inj e)⟩⟩
  · show n ≤ i
    simpa using le
theorem std_keys {o : Obj} {kvs : List (Key × V)} (h : H a = some (.frz o (.dK kvs))) (n : ¬ S a) : Std S (Itk a o kvs) H (kvs.map fun kv => kV kv.1) := fun H' u i => by
  have h' := u.keep _ _ h n
  refine ⟨fun v e => ?_, fun le => ⟨h', by simpa using le⟩⟩
  rw [List.getElem?_map] at e
  cases q : kvs[i]? with
  | none => rw [q] at e; cases e
  | some p =>
    rw [q] at e
    refine ⟨⟨h', (List.getElem?_eq_some_iff.mp q).1⟩, fun x H2 y => ⟨y.1, ?_⟩⟩
    obtain ⟨_, k, w, e2, rfl⟩ := y
    rw [q] at e2
    cases e2
    exact Option.some.inj e
end
/-! ### comprehensions -/
theorem line1001 : (1001 : Nat) ≤ sizeLine := by rw [sizeLine_eq]; decide
section
variable {S : Addr → Prop} {J : It} {H0 H1 : Hp} {xs : List V} {g : TG} {tt : TT} {te tk : TE} {vs : List Nat} {σ : L2.St} {D : Addr} {Qd : Hp → Prop}
/-- Pv by the turn and the heap -/
theorem lc_std (st : Std S J H0 xs) (Pv : Nat → Hp → Prop) (h0 : Pv 0 (upd H1 D (.lst []))) (hk : ∀ i H, Pv i H → Kp S H0 H)
    (hs : ∀ i x H, xs[i]? = some x → Pv i H → g x (wipe σ vs) H fun σ2 H2 => wipe σ2 vs = wipe σ vs ∧ tt σ2 H2 fun b H3 =>
      if b = true then te σ2 H3 fun y H4 => ∃ acc, H4 D = some (.lst acc) ∧ acc.length < sizeLine ∧ Pv (i + 1) (upd H4 D (.lst (acc ++ [y]))) else Pv (i + 1) H3)
    (hd : ∀ H, Pv xs.length H → Qd H) :
    ∃ W : Nat → Nat → Hp → Prop, (∃ m, W 0 m (upd H1 D (.lst []))) ∧ ∀ i m H, W i m H →
      (J.stop i H ∧ Qd H) ∨ (J.go i H ∧ ∃ Nx : Hp → Prop, (∀ H', Nx H' → ∃ m', m' < m ∧ W (i + 1) m' H') ∧ ∀ x H', J.yld i H x H' → g x (wipe σ vs) H' fun σ2 H2 => wipe σ2 vs = wipe σ vs ∧ tt σ2 H2 fun b H3 =>
        if b = true then te σ2 H3 fun y H4 => ∃ acc, H4 D = some (.lst acc) ∧ acc.length < sizeLine ∧ Nx (upd H4 D (.lst (acc ++ [y]))) else Nx H3) := by
  refine ⟨fun i m H => m = xs.length - i ∧ i ≤ xs.length ∧ Pv i H, ⟨_, rfl, Nat.zero_le _, h0⟩, fun i m H ⟨em, le, h⟩ => ?_⟩
  obtain ⟨s1, s2⟩ := st H (hk _ _ h) i
  by_cases e : i = xs.length
  · exact .inl ⟨s2 (by omega), hd H (e ▸ h)⟩
  · have lt : i < xs.length := by omega
    obtain ⟨go, yl⟩ := s1 _ (List.getElem?_eq_getElem lt)
    refine .inr ⟨go, fun H' => Pv (i + 1) H', fun H' h' => ⟨_, by omega, rfl, by omega, h'⟩, fun x H' y => ?_⟩
    obtain ⟨rfl, rfl⟩ := yl x H' y
    exact hs i _ _ (List.getElem?_eq_getElem lt) h
/-- each item by itself, nothing changed: the block is handed what it may go on with -/
theorem lc_map (st : Std no J H1 xs) (hD : H1 D = none) (f : V → Option V) (hl : xs.length ≤ 1000)
    (hs : ∀ x H (Nx : Hp → Prop), x ∈ xs → Ext H1 H →
      (∀ y H4, Ext H H4 → f x = some y → ∃ acc, H4 D = some (.lst acc) ∧ acc.length < sizeLine ∧ Nx (upd H4 D (.lst (acc ++ [y])))) → (∀ H3, Ext H H3 → f x = none → Nx H3) →
      g x (wipe σ vs) H fun σ2 H2 => wipe σ2 vs = wipe σ vs ∧ tt σ2 H2 fun b H3 =>
        if b = true then te σ2 H3 fun y H4 => ∃ acc, H4 D = some (.lst acc) ∧ acc.length < sizeLine ∧ Nx (upd H4 D (.lst (acc ++ [y]))) else Nx H3)
    (hd : ∀ H, Ext H1 H → H D = some (.lst (xs.filterMap f)) → Qd H) :
    ∃ W : Nat → Nat → Hp → Prop, (∃ m, W 0 m (upd H1 D (.lst []))) ∧ ∀ i m H, W i m H →
      (J.stop i H ∧ Qd H) ∨ (J.go i H ∧ ∃ Nx : Hp → Prop, (∀ H', Nx H' → ∃ m', m' < m ∧ W (i + 1) m' H') ∧ ∀ x H', J.yld i H x H' → g x (wipe σ vs) H' fun σ2 H2 => wipe σ2 vs = wipe σ vs ∧ tt σ2 H2 fun b H3 =>
        if b = true then te σ2 H3 fun y H4 => ∃ acc, H4 D = some (.lst acc) ∧ acc.length < sizeLine ∧ Nx (upd H4 D (.lst (acc ++ [y]))) else Nx H3) := by
  refine lc_std st (fun i H => Ext H1 H ∧ H D = some (.lst ((xs.take i).filterMap f))) ⟨ext_new hD, upd_same⟩ (fun i H h => .ext h.1) (fun i x H e ⟨ex, eD⟩ => ?_) (fun H h => ?_)
  · have tk1 : xs.take (i + 1) = xs.take i ++ [x] := by rw [List.take_succ, e]; rfl
    refine hs x H _ (List.mem_of_getElem? e) ex (fun y H4 e4 hf => ?_) fun H3 e3 hf => ⟨ex.trans e3, ?_⟩
    · have len : ((xs.take i).filterMap f).length ≤ 1000 := Nat.le_trans (List.length_filterMap_le _ _) (Nat.le_trans (List.length_take_le' _ _) hl)
      refine ⟨_, e4 _ _ eD, Nat.lt_of_le_of_lt len line1001, fun a o ha => ?_, ?_⟩
      · have ne : a ≠ D := ne_of_none ha hD
        rw [upd_ne ne]
        exact e4 _ _ (ex _ _ ha)
      · rw [upd_same, tk1, List.filterMap_append]
        simp [hf]
    · rw [e3 _ _ eD, tk1, List.filterMap_append]
      simp [hf]
  · refine hd H h.1 ?_
    rw [h.2, List.take_length]
/-- the same with a dict that is made -/
theorem dc_std (st : Std S J H0 xs) (Pv : Nat → Hp → Prop) (h0 : Pv 0 (upd H1 D (.dK []))) (hk : ∀ i H, Pv i H → Kp S H0 H)
    (hs : ∀ i x H, xs[i]? = some x → Pv i H → g x (wipe σ vs) H fun σ2 H2 => wipe σ2 vs = wipe σ vs ∧ tt σ2 H2 fun b H3 =>
      if b = true then tk σ2 H3 fun y H4 => te σ2 H4 fun z H5 => ∃ kvs k, y = kV k ∧ H5 D = some (.dK kvs) ∧ kvs.length < sizeLine ∧ Pv (i + 1) (upd H5 D (.dK (putK kvs k z))) else Pv (i + 1) H3)
    (hd : ∀ H, Pv xs.length H → Qd H) :
    ∃ W : Nat → Nat → Hp → Prop, (∃ m, W 0 m (upd H1 D (.dK []))) ∧ ∀ i m H, W i m H →
      (J.stop i H ∧ Qd H) ∨ (J.go i H ∧ ∃ Nx : Hp → Prop, (∀ H', Nx H' → ∃ m', m' < m ∧ W (i + 1) m' H') ∧ ∀ x H', J.yld i H x H' → g x (wipe σ vs) H' fun σ2 H2 => wipe σ2 vs = wipe σ vs ∧ tt σ2 H2 fun b H3 =>
        if b = true then tk σ2 H3 fun y H4 => te σ2 H4 fun z H5 => ∃ kvs k, y = kV k ∧ H5 D = some (.dK kvs) ∧ kvs.length < sizeLine ∧ Nx (upd H5 D (.dK (putK kvs k z))) else Nx H3) := by
  refine ⟨fun i m H => m = xs.length - i ∧ i ≤ xs.length ∧ Pv i H, ⟨_, rfl, Nat.zero_le _, h0⟩, fun i m H ⟨em, le, h⟩ => ?_⟩
  obtain ⟨s1, s2⟩ := st H (hk _ _ h) i
  by_cases e : i = xs.length
  · exact .inl ⟨s2 (by omega), hd H (e ▸ h)⟩
  · have lt : i < xs.length := by omega
    obtain ⟨go, yl⟩ := s1 _ (List.getElem?_eq_getElem lt)
    refine .inr ⟨go, fun H' => Pv (i + 1) H', fun H' h' => ⟨_, by omega, rfl, by omega, h'⟩, fun x H' y => ?_⟩
    obtain ⟨rfl, rfl⟩ := yl x H' y
    exact hs i _ _ (List.getElem?_eq_getElem lt) h
/-- keys made so far, from pairs -/
def putAll (kvs : List (Key × V)) (ps : List (Key × V)) : List (Key × V) := ps.foldl (fun a p => putK a p.1 p.2) kvs
theorem dc_map (st : Std no J H1 xs) (hD : H1 D = none) (f : V → Key × V) (hl : xs.length ≤ 1000)
    (hs : ∀ x H (Nx : Hp → Prop), x ∈ xs → Ext H1 H →
      (∀ y z H5, Ext H H5 → y = kV (f x).1 → z = (f x).2 → ∃ kvs k, y = kV k ∧ H5 D = some (.dK kvs) ∧ kvs.length < sizeLine ∧ Nx (upd H5 D (.dK (putK kvs k z)))) →
      g x (wipe σ vs) H fun σ2 H2 => wipe σ2 vs = wipe σ vs ∧ tt σ2 H2 fun b H3 =>
        if b = true then tk σ2 H3 fun y H4 => te σ2 H4 fun z H5 => ∃ kvs k, y = kV k ∧ H5 D = some (.dK kvs) ∧ kvs.length < sizeLine ∧ Nx (upd H5 D (.dK (putK kvs k z))) else Nx H3)
    (hd : ∀ H, Ext H1 H → H D = some (.dK (putAll [] (xs.map f))) → Qd H) :
    ∃ W : Nat → Nat → Hp → Prop, (∃ m, W 0 m (upd H1 D (.dK []))) ∧ ∀ i m H, W i m H →
      (J.stop i H ∧ Qd H) ∨ (J.go i H ∧ ∃ Nx : Hp → Prop, (∀ H', Nx H' → ∃ m', m' < m ∧ W (i + 1) m' H') ∧ ∀ x H', J.yld i H x H' → g x (wipe σ vs) H' fun σ2 H2 => wipe σ2 vs = wipe σ vs ∧ tt σ2 H2 fun b H3 =>
        if b = true then tk σ2 H3 fun y H4 => te σ2 H4 fun z H5 => ∃ kvs k, y = kV k ∧ H5 D = some (.dK kvs) ∧ kvs.length < sizeLine ∧ Nx (upd H5 D (.dK (putK kvs k z))) else Nx H3) := by
  have len : ∀ (ps kvs : List (Key × V)), (putAll kvs ps).length ≤ kvs.length + ps.length := by
    intro ps
    induction ps with
    | nil => intro kvs; exact Nat.le_refl _
    | cons p r ih =>
      intro kvs
      have h1 := ih (putK kvs p.1 p.2)
      have h2 := length_putK kvs p.1 p.2
      show (putAll (putK kvs p.1 p.2) r).length ≤ _
      simp only [List.length_cons]
      omega
  refine dc_std st (fun i H => Ext H1 H ∧ H D = some (.dK (putAll [] ((xs.take i).map f)))) ⟨ext_new hD, upd_same⟩ (fun i H h => .ext h.1) (fun i x H e ⟨ex, eD⟩ => ?_) (fun H h => ?_)
  · have tk1 : xs.take (i + 1) = xs.take i ++ [x] := by rw [List.take_succ, e]; rfl
    refine hs x H _ (List.mem_of_getElem? e) ex (fun y z H5 e5 hy hz => ?_)
    have l1 := len ((xs.take i).map f) []
    rw [List.length_map, List.length_nil] at l1
    have l2 := List.length_take_le' i xs
    refine ⟨_, (f x).1, hy, e5 _ _ eD, Nat.lt_of_le_of_lt (show _ ≤ 1000 by omega) line1001, fun a o ha => ?_, ?_⟩
    · have ne : a ≠ D := ne_of_none ha hD
      rw [upd_ne ne]
      exact e5 _ _ (ex _ _ ha)
    · rw [upd_same, tk1, List.map_append, hz]
      simp [putAll, List.foldl_append]
  · refine hd H h.1 ?_
    rw [h.2, List.take_length]
end
/-! ### a list or a tuple -/
def iSeq (K : PySem.W.Frag) (tl : TE) : TI := fun σ H R => iList K tl σ H R ∨ iTup K tl σ H R
theorem pi_seq {X : Cx} {tg l : PySem.Expr} {tl : TE} (hl : PE X l tl) : PI X tg l (iSeq X.K tl) :=
  ⟨fun pins s σ H R I h => h.elim (fun h => (pi_list (tg := tg) hl).run pins s σ H R I h) fun h => (pi_tup (tg := tg) hl).run pins s σ H R I h⟩
/-- tracked, perhaps locked -/
def Sq (_ : PySem.W.Frag) (H : Hp) (a : Addr) (xs : List V) : Prop := Rd H a (.lst xs) ∨ Rd H a (.tup xs)
section
variable {S : Addr → Prop} {K : PySem.W.Frag} {H H1 : Hp} {a : Addr} {xs : List V} {i : Nat} {σ : L2.St} {R : It → Hp → Prop}
theorem rd_kp {o : HO} (h : Rd H a o) (n : ¬ S a) (u : Kp S H H1) : Rd H1 a o := h.imp (fun h => u.keep _ _ h n) fun ⟨b, h⟩ => ⟨b, u.keep _ _ h n⟩
theorem sq_s (h : Sq K H a xs) : SqL K H a xs ∨ SqT K H a xs := h.imp .inl .inl
theorem sq_kp (h : Sq K H a xs) (n : ¬ S a) (u : Kp S H H1) : Sq K H1 a xs := h.imp (fun h => rd_kp h n u) fun h => rd_kp h n u
theorem sq_ext (h : Sq K H a xs) (u : Ext H H1) : Sq K H1 a xs := sq_kp (S := no) h (fun z => z) (.ext u)
/-- no instance -/
theorem sq_ne {C dx o : Addr} {fs : List (Str × V)} (h : Sq K H a xs) (ho : H o = some (.ins C dx fs)) : a ≠ o := fun z => by
  subst z
  rcases h with (h | ⟨_, h⟩) | (h | ⟨_, h⟩) <;> (rw [ho] at h; cases h)
theorem seq_go (hv : σ[i]? = some (some (.ref a))) (h : Sq K H a xs) (n : ¬ S a) (go : ∀ J, Std S J H xs → R J H) : iSeq K (tVar i) σ H R := by
  rcases sq_s (K := K) h with h | h
  · exact .inl ⟨_, hv, a, rfl, ⟨xs, h⟩, go _ (std_list h n)⟩
  · exact .inr ⟨_, hv, a, rfl, ⟨xs, h⟩, go _ (std_tup h n)⟩
theorem sq_ty (h : Sq K H a xs) : TyX K H (.ref a) (.type "list") ∨ TyX K H (.ref a) (.type "tuple") := by
  rcases h with (h | ⟨o, h⟩) | (h | ⟨o, h⟩)
  · exact .inl (.base (.lst h))
  · exact .inl (.base (.frz h))
  · exact .inr (.base (.tup h))
  · exact .inr (.fTuple h)
/-- isinstance(x, (list, tuple)) of such a thing -/
theorem isi_seq {p : Addr} (h : Sq K H a xs) (hp : H p = none) : ∃ t us, Paired ClsV [.ty "list", .ty "tuple"] us ∧ TyX K (upd H p (.tup [.ty "list", .ty "tuple"])) (.ref a) t ∧ PySem.W.kitAny K t us = some true := by
  rcases sq_ty (sq_ext h (ext_new hp)) with t | t
  · exact ⟨_, [.type "list", .type "tuple"], .cons (.ty _) (.cons (.ty _) .nil), t, kitAny_cons (b := true) (kit_ty (by decide +kernel)) (fun z => nomatch z) fun _ => rfl⟩
  · exact ⟨_, [.type "list", .type "tuple"], .cons (.ty _) (.cons (.ty _) .nil), t, kitAny_cons (b := false) (kit_ty (by decide +kernel)) (fun _ => kitAny_cons (b := true) (kit_ty (by decide +kernel)) (fun z => nomatch z) fun _ => rfl) (fun z => nomatch z)⟩
theorem sq_lenV (h : Sq K H a xs) : LenV K (.ref a) H xs.length := by
  rcases sq_s (K := K) h with h | h
  · exact .inl ⟨_, h, rfl⟩
  · exact .inr ⟨_, h, rfl⟩
end
/-! ### loops -/
theorem for_std {S : Addr → Prop} {J : It} {H0 : Hp} {xs : List V} {g : TG} {tb : TS} {D : Ends} {σ : L2.St} {H : Hp} (st : Std S J H0 xs) (Pv : Nat → L2.St → Hp → Prop) (h0 : Pv 0 σ H) (hk : ∀ i σ H, Pv i σ H → Kp S H0 H)
    (hs : ∀ i x σ H, xs[i]? = some x → Pv i σ H → g x σ H fun σ2 H2 => tb { D with nx := Pv (i + 1), ct := Pv (i + 1), bk := D.nx } σ2 H2) (hd : ∀ σ H, Pv xs.length σ H → D.nx σ H) :
    ∃ W : Nat → Nat → L2.St → Hp → Prop, (∃ m, W 0 m σ H) ∧ ∀ i m σ H, W i m σ H →
      (J.stop i H ∧ D.nx σ H) ∨ (J.go i H ∧ ∃ N : L2.St → Hp → Prop, (∀ σ' H', N σ' H' → ∃ m', m' < m ∧ W (i + 1) m' σ' H') ∧ ∀ x H', J.yld i H x H' → g x σ H' fun σ2 H2 => tb { D with nx := N, ct := N, bk := D.nx } σ2 H2) := by
  refine ⟨fun i m σ H => m = xs.length - i ∧ i ≤ xs.length ∧ Pv i σ H, ⟨_, rfl, Nat.zero_le _, h0⟩, fun i m σ H ⟨em, le, h⟩ => ?_⟩
  obtain ⟨s1, s2⟩ := st H (hk _ _ _ h) i
  by_cases e : i = xs.length
  · exact .inl ⟨s2 (by omega), hd σ H (e ▸ h)⟩
  · have lt : i < xs.length := by omega
    obtain ⟨go, yl⟩ := s1 _ (List.getElem?_eq_getElem lt)
    refine .inr ⟨go, fun σ' H' => Pv (i + 1) σ' H', fun σ' H' h' => ⟨_, by omega, rfl, by omega, h'⟩, fun x H' y => ?_⟩
    obtain ⟨rfl, rfl⟩ := yl x H' y
    exact hs i _ σ _ (List.getElem?_eq_getElem lt) h
/-! ### the rules with the written part named -/
def rLenK (K : PySem.W.Frag) : List V → Hp → VK → Prop := fun xs H Q => ∃ x n, xs = [x] ∧ LenV K x H n ∧ Q (.int n) H
def rTupOf (K : PySem.W.Frag) : List V → Hp → VK → Prop := fun xs H Q => ∃ p ys, xs = [.ref p] ∧ ((SqL K H p ys ∧ ∀ l, H l = none → Q (.ref l) (upd H l (.tup ys))) ∨ (SqT K H p ys ∧ Q (.ref p) H))
def rLstOf (K : PySem.W.Frag) : List V → Hp → VK → Prop := fun xs H Q => ∃ p ys, xs = [.ref p] ∧ (SqL K H p ys ∨ SqT K H p ys) ∧ ∀ l, H l = none → Q (.ref l) (upd H l (.lst ys))
def rDctP (K : PySem.W.Frag) : List V → Hp → VK → Prop := fun xs H Q => ∃ (a : Addr) (ps : List Addr) (kvs : List (Key × V)), xs = [.ref a] ∧ SqL K H a (ps.map V.ref) ∧ Paired (fun p kv => SqT K H p [kV kv.1, kv.2]) ps kvs ∧
    ∀ p, H p = none → Q (.ref p) (upd H p (.dK (mergeK [] kvs)))
def rJoin (K : PySem.W.Frag) : V → List V → Hp → VK → Prop := fun x xs H Q => ∃ (a : Str) (p : Addr) (ys : List Str), x = .str a ∧ xs = [.ref p] ∧ (SqL K H p (ys.map V.str) ∨ SqT K H p (ys.map V.str)) ∧ (ys.map (·.length)).sum + ys.length * a.length ≤ 16777216 ∧ Q (.str (Txt.join a ys)) H
section
variable {X : Cx} {K : PySem.W.Frag} {o e l tg : PySem.Expr} {es : List PySem.Expr} {f name : Str} {ta te tl to : TE} {t : TA} {pos p apos cpos : Pos}
theorem call_lenK : CallR X (.builtin "len") (rLenK X.K) := call_len
theorem call_tupK : CallR X (.type "tuple") (rTupOf X.K) := call_tuple_of
theorem call_lstK : CallR X (.type "list") (rLstOf X.K) := call_list_of
theorem call_dctP (hc : X.calm = true) : CallR X (.type "dict") (rDctP X.K) := call_dictP hc
theorem pe_fldK (hK : X.K = K) (he : PE X e ta) (hb : attributeBase e f X.env (eval e X.env) = eval e X.env) : PE X (.Attribute e f pos) (tFld K ta f) := by subst hK; exact pe_fld he hb
theorem pi_listK (hK : X.K = K) (hl : PE X l tl) : PI X tg l (iList K tl) := by subst hK; exact pi_list hl
theorem pi_tupK (hK : X.K = K) (hl : PE X l tl) : PI X tg l (iTup K tl) := by subst hK; exact pi_tup hl
theorem pi_seqK (hK : X.K = K) (hl : PE X l tl) : PI X tg l (iSeq K tl) := by subst hK; exact pi_seq hl
theorem pg_tupK {k : Nat} {t : TGs} {n : Nat} (hK : X.K = K) (hc : X.calm = true) (h : PGs X es t) (hn : (assignEach es X.env).length = n := by rfl) (hst : (assignEach es X.env).findIdx? (·.1) = none := by rfl) : PG X (.Tuple es k pos) (gTup K n t) := by
  subst hK; exact pg_tup hc h hn hst
theorem pe_bmK {T id : String} {r : V → List V → Hp → VK → Prop} (hK : X.K = K) (pa : PlainAttrs T) (slot : Slot T name id) (hty : typeOf (.builtin id) = pure (.type "method_descriptor")) (hm : MtR X id r) (ho : PE X o to) (ha : PA X (e :: es) t)
    (hbase : attributeBase o name X.env (eval o X.env) = eval o X.env := by rfl)
    (hfew : ((backTo cpos (starEach (e :: es) X.env)).all (fun x => !x.1) && (backToKw cpos (keywordEach [] X.env)).all (fun x => x.1.isSome) && decide ((e :: es).length + ([] : List Keyword).length + (if ([] : List Keyword).isEmpty then 0 else 1) < 30)) = true := by rfl)
    (hline : (apos.endLine == cpos.line) = true := by rfl) (hs : starEach (e :: es) X.env = (false, eval e X.env) :: starEach es X.env := by rfl) (hplain : (backTo cpos (starEach es X.env)).any (·.1) = false := by rfl) :
    PE X (.Call (.Attribute o name apos) (e :: es) [] cpos) (tBM K T r to t) := by subst hK; exact pe_bm pa slot hty hm ho ha hbase hfew hline hs hplain
theorem pa_starK (hK : X.K = K) (he : PE X e te) (hr : PA X es t) (hs : starEach (.Starred e p :: es) X.env = (true, eval e X.env) :: starEach es X.env := by rfl) : PA X (.Starred e p :: es) (StX.tStar K te t) := by subst hK; exact StX.pa_star he hr hs
theorem pe_joinK (hK : X.K = K) (ho : PE X o to) (he : PE X e te) (hs : starEach [e] X.env = [(false, eval e X.env)] := by rfl) (hbase : attributeBase o "join" X.env (eval o X.env) = eval o X.env := by rfl) (hline : (apos.endLine == pos.line) = true := by rfl) :
    PE X (.Call (.Attribute o "join" apos) [e] [] pos) (tM1 (rJoin K) to te) := by
  subst hK
  exact pe_join ho he hs hbase hline
end
end Ws

set_option Elab.async false
set_option linter.all false
set_option maxRecDepth 100000
set_option maxHeartbeats 4000000
namespace Ws
open PySem PySem.Spec PyProof.Rows L2
/-- n values and the keywords ks bring the parameters in their order -/
def FnRK (P : Program) (w : World) (K : PySem.W.Frag) (mg : Str → Option Value) (base : Heap) (CX : CXT) (k : Nat) (f : Addr) (n : Nat) (ks : List Str) (sp : Sp) : Prop :=
  ∀ (A : Around) (outer : List Env) (s : Shared) (H : Hp) (us ws : List Value) (vs zs : List V) (Q : VK) (E : XK), Room k A → Env0 P w K mg base A outer s H → Vals vs us → Vals zs ws → vs.length = n → zs.length = ks.length → sp (vs ++ zs) H Q E →
    codeAny (model P w) A (.call (.ref f) ⟨us, ks.zip ws⟩) (CR CX outer P w H s Q E) s
section
variable {P : Program} {w : World} {K : PySem.W.Frag} {mg : Str → Option Value} {base : Heap} {CX : CXT} {k n : Nat} {f : Addr} {fd : FuncData} {ps ks : List Str} {sp : Sp} {x qual : Str} {params : Arguments} {body : List Stmt} {scope : Scope}
theorem rawK (F : FnOk P w K mg base CX k f fd ps sp) (B : ∀ (s : Shared) (us ws : List Value), K.In s.heap → us.length = n → ws.length = ks.length → BindsTo s fd ⟨us, ks.zip ws⟩ (ps.zip (us ++ ws))) : FnRK P w K mg base CX k f n ks sp := by
  intro A outer s H us ws vs zs Q E hr e0 r rz l1 l2 h
  exact F.run A outer s H ⟨us, ks.zip ws⟩ (us ++ ws) (vs ++ zs) Q E hr e0 (B s us ws (e0.mod.kin.keeps fun b o e => (e0.bs b o e).1) (r.length.symm.trans l1) (rz.length.symm.trans l2)) (r.append rz) h
/-- keywords for the parameters behind the first n, no defaults -/
theorem bindsK0 {kws : List (Str × V)} (F : FunD K x qual params body scope [] kws f fd)
    (h : ∀ (kV doc pm : Value) (an : Option Addr) (cdv ct : Value) (us ws : List Value), us.length = n → ws.length = ks.length → bindArgs (PySem.W.fnOf x qual params body scope .none kV doc pm an cdv ct) ⟨us, ks.zip ws⟩ = pure (ps.zip (us ++ ws)))
    (s : Shared) (us ws : List Value) (_ : K.In s.heap) (l1 : us.length = n) (l2 : ws.length = ks.length) : BindsTo s fd ⟨us, ks.zip ws⟩ (ps.zip (us ++ ws)) := by
  obtain ⟨oc, od, dV, kV, doc, pm, an, cdv, ct, osl, rfl, _, _, hd, _⟩ := F.ex
  rcases hd with ⟨_, rfl⟩ | ⟨z, _⟩
  · exact BindsTo.of_looks fun M => PySem.W.Looks.of_pure (h kV doc pm an cdv ct us ws l1 l2)
  · exact absurd rfl z
theorem bindsKD {dvs : List V} {kws : List (Str × V)} (F : FunD K x qual params body scope dvs kws f fd) (hd : dvs ≠ [])
    (h : ∀ (T : Addr) (kV doc pm : Value) (an : Option Addr) (cdv ct : Value) (us its ws : List Value), us.length = n → its.length = dvs.length → ws.length = ks.length →
      ∃ k, bindArgs (PySem.W.fnOf x qual params body scope (.ref T) kV doc pm an cdv ct) ⟨us, ks.zip ws⟩ = seqItems? (.ref T) >>= k ∧ k (some its.toArray) = pure (ps.zip (us ++ ws)))
    (s : Shared) (us ws : List Value) (X : K.In s.heap) (l1 : us.length = n) (l2 : ws.length = ks.length) : BindsTo s fd ⟨us, ks.zip ws⟩ (ps.zip (us ++ ws)) := by
  obtain ⟨its, B⟩ := F.kbindsD (ps := ps) n ks (fun us _ ws => us ++ ws) hd (fun r _ rz => r.append rz) h
  exact B.to s us ws X l1 l2
end
/-- C(e, .., k = v, ..) -/
def tMakeK (C : Addr) (n m : Nat) (sp : Sp) (E : XK) (t tk : TA) : TE := fun σ H Q => t σ H fun vs H1 => tk σ H1 fun zs H2 => vs.length = n ∧ zs.length = m ∧
  ∀ x dx, H2 x = none → H2 dx = none → dx ≠ x → sp (.ref x :: (vs ++ zs)) (upd (upd H2 dx (.own x)) x (.ins C dx [])) (fun v H3 => v = .non ∧ Q (.ref x) H3) E
/-- o.m(k = v, ..) -/
def tMethK (C : Addr) (m : Str) (l : Nat) (sp : Sp) (E : XK) (ta : TE) (tk : TA) : TE := fun σ H Q => ta σ H fun x H1 => ∃ a dx fs, x = .ref a ∧ H1 a = some (.ins C dx fs) ∧ fs.lookup m = none ∧
  tk σ H1 fun zs H2 => zs.length = l ∧ sp (.ref a :: zs) H2 Q E
section
variable {X : Cx} {CX : CXT} {k n : Nat} {f C : Addr} {ks : List Str} {sp : Sp} {E : XK} {x m : Str} {p pos apos : Pos} {e o : PySem.Expr} {es : List PySem.Expr} {kws : List Keyword} {ta : TE} {t tk : TA}
theorem run_makeK {pins : List (Addr × Obj)} {σ : L2.St} {H : Hp} {s : Shared} {Q : VK} {us ws : List Value} {vs zs : List V} (M : Mk X.K C f) (F : FnRK X.prog X.w X.K X.mg X.base CX k f (n + 1) ks sp) (hr : Room (k + 1) X.A)
    (hx : Passes CX X E) (I : Inv X pins σ H s) (r : Vals vs us) (rz : Vals zs ws) (l1 : vs.length = n) (l2 : zs.length = ks.length)
    (h : ∀ x dx, H x = none → H dx = none → dx ≠ x → sp (.ref x :: (vs ++ zs)) (upd (upd H dx (.own x)) x (.ins C dx [])) (fun v H2 => v = .non ∧ Q (.ref x) H2) E) :
    wpAny (model X.prog X.w) X.A (call (.ref C) us (ks.zip ws)) (EP X pins σ Q) X.xe s := by
  have hq := h (s.heap.objs.size + 1) s.heap.objs.size (I.hok.fresh (Nat.le_succ _)) (I.hok.fresh (Nat.le_refl _)) (Nat.ne_of_lt (Nat.lt_succ_self _))
  have I2 := Inv.made (C := C) I
  have q1 : Vals (V.ref (s.heap.objs.size + 1) :: vs) (Value.ref (s.heap.objs.size + 1) :: us) := .cons (rr _) r
  refine wpAny_call (make_map (f := f) I.kIn M.makes M.init (beq_iff_eq.mp M.fn) (codeAny_mono (F _ X.stack _ _ _ ws _ zs _ E (hr.make C us (ks.zip ws)) (I2.env0.make C us (ks.zip ws)) q1 rz (by simp [l1]) l2 hq) fun r s' hq' => ?_))
  match r, hq' with
  | .error e, hq' => exact hx pins σ _ _ e s' I2 hq'
  | .ok (.ret u), hq' =>
    obtain ⟨v, H', I3, rv, ev, q3⟩ := I2.after hq'
    subst ev
    exact ⟨rv, ⟨V.ref (s.heap.objs.size + 1), H', I3, rfl, q3⟩⟩
  | .ok .next, hq' => exact False.elim hq'
  | .ok .brk, hq' => exact False.elim hq'
  | .ok .cont, hq' => exact False.elim hq'
theorem pe_makeKw (M : Mk X.K C f) (F : FnRK X.prog X.w X.K X.mg X.base CX k f (n + 1) ks sp) (hr : Room (k + 1) X.A) (hg : Gl X x) (hm : X.mg x = some (.ref C)) (hx : Passes CX X E)
    (ha : PA X (e :: es) t) (hkw : PK X kws tk) (hall : (backToKw pos (keywordEach kws X.env)).all (·.1.isSome) = true := by rfl) (hks : (backToKw pos (keywordEach kws X.env)).filterMap (·.1) = ks := by rfl)
    (hdb : (x == ("__debug__" : Str)) = false := by decide) (he : starEach (e :: es) X.env = (false, eval e X.env) :: starEach es X.env := by rfl)
    (hpl : ((backTo pos (starEach (e :: es) X.env)).any (·.1) || (backToKw pos (keywordEach kws X.env)).any (·.1.isNone)) = false := by rfl) :
    PE X (.Call (.Name x p) (e :: es) kws pos) (tMakeK C n ks.length sp E t tk) := by
  constructor
  intro pins s σ H Q I h
  refine wpAny_Call_Name_kw (ld_glob I hg hm (PySem.W.callWith_KW (h₀ := X.base) I.ok.mod.kin M.kp hall (thn (ha.run pos pins s σ H _ I h) fun us s1 ⟨vs, H1, I1, r, q⟩ => ?_) hpl he) hdb)
  refine thn (hkw.run pos pins s1 σ H1 _ I1 q) fun ws s2 ⟨zs, H2, I2, rz, l1, l2, q2⟩ => ⟨I2.kIn, ?_⟩
  rw [hks]
  exact run_makeK M F hr hx I2 r rz l1 l2 q2
theorem pe_makeK0 (M : Mk X.K C f) (F : FnRK X.prog X.w X.K X.mg X.base CX k f 1 ks sp) (hr : Room (k + 1) X.A) (hg : Gl X x) (hm : X.mg x = some (.ref C)) (hx : Passes CX X E)
    (hkw : PK X kws tk) (hall : (backToKw pos (keywordEach kws X.env)).all (·.1.isSome) = true := by rfl) (hks : (backToKw pos (keywordEach kws X.env)).filterMap (·.1) = ks := by rfl)
    (hdb : (x == ("__debug__" : Str)) = false := by decide) (hpl : ((backTo pos (starEach [] X.env)).any (·.1) || (backToKw pos (keywordEach kws X.env)).any (·.1.isNone)) = false := by rfl) :
    PE X (.Call (.Name x p) [] kws pos) (tMakeK C 0 ks.length sp E tNil tk) := by
  constructor
  intro pins s σ H Q I h
  refine wpAny_Call_Name_kw (ld_glob I hg hm (PySem.W.callWith_KW0 (h₀ := X.base) I.ok.mod.kin M.kp hall ?_ hpl) hdb)
  refine thn (hkw.run pos pins s σ H _ I h) fun ws s2 ⟨zs, H2, I2, rz, l1, l2, q2⟩ => ⟨I2.kIn, ?_⟩
  rw [hks]
  exact run_makeK (us := []) (vs := []) M F hr hx I2 .nil rz rfl l2 q2
theorem pe_methK1 {pl : Sem Bool} (he : PE X o ta) (c : Cls X.K C) (hm : Meth X.K C m f) (F : FnRK X.prog X.w X.K X.mg X.base CX k f 1 ks sp) (hr : Room k X.A) (hx : Passes CX X E) (hkw : PK X kws tk)
    (hall : (backToKw pos (keywordEach kws X.env)).all (·.1.isSome) = true := by rfl) (hks : (backToKw pos (keywordEach kws X.env)).filterMap (·.1) = ks := by rfl)
    (hpl : ((backTo pos (starEach [] X.env)).any (·.1) || (backToKw pos (keywordEach kws X.env)).any (·.1.isNone)) = false := by rfl)
    (ht : eval (.Call (.Attribute o m apos) [] kws pos) X.env = (do
      let ov ← eval o X.env
      standAt apos.atName
      let (f, first) ← holding [ov] (getMethod ov m pl)
      callWith pos f first (backTo pos (starEach [] X.env)) (backToKw pos (keywordEach kws X.env))) := by rfl) :
    PE X (.Call (.Attribute o m apos) [] kws pos) (tMethK C m ks.length sp E ta tk) := by
  constructor
  intro pins s σ H Q I h
  apply PySem.W.methodCall_KW (pl := pl) ?_ ht
  refine thn (he.run pins s σ H _ I h) fun u s1 ⟨x, H1, I1, rx, a, dx, fs, ex, ea, l, q⟩ => ?_
  subst ex
  cases (show u = Value.ref a from rx)
  refine getmeth_ok I1 ea c hm l ?_
  refine PySem.W.callWith_KW0 (first := [.ref a]) (h₀ := X.base) I.ok.mod.kin hm.kp hall ?_ hpl
  refine thn (hkw.run pos pins s1 σ H1 _ I1 q) fun ws s2 ⟨zs, H2, I2, rz, l2, q2⟩ => ⟨I2.kIn, ?_⟩
  rw [hks]
  apply wpAny_call
  refine codeAny_mono (F X.A X.stack s2 H2 [.ref a] ws [.ref a] zs Q E hr I2.env0 (.cons (rr a) .nil) rz rfl l2 q2) fun r s' hq => ?_
  match r, hq with
  | .error e, hq => exact hx pins σ H2 s2 e s' I2 hq
  | .ok (.ret u), hq => exact I2.after hq
  | .ok .next, hq => exact False.elim hq
  | .ok .brk, hq => exact False.elim hq
  | .ok .cont, hq => exact False.elim hq
end
end Ws

set_option Elab.async false
set_option linter.all false
set_option maxRecDepth 100000
set_option maxHeartbeats 4000000
namespace Ws
open PySem PySem.Spec PyProof.Rows L2
/-- at a: an exception of the class cls, its dict d -/
def ExV (a : Addr) (cls : Value) (d : Option Addr) : HO := .ext fun h => ∃ (oe : Obj) (vs : Array Value), h.get? a = some oe ∧ Zc cls d oe ∧ oe.data = .fields vs
theorem exV_tbl {a : Addr} {cls : Value} {d : Option Addr} (ps : Array Value) : ExV a cls d ≠ .tbl ps := fun z => by
  unfold ExV at z
  cases z
section
variable {X : Cx} {pins : List (Addr × Obj)} {σ : L2.St} {H : Hp} {s : Shared}
/-- a pinned exception, new to the def, is tracked from now on -/
theorem track {a : Addr} {oe : Obj} {vs : Array Value} {cls : Value} {d : Option Addr} (I : Inv X ((a, oe) :: pins) σ H s) (hz : Zc cls d oe) (hv : oe.data = .fields vs)
    (new : X.s_0.heap.get? a = none) (hp : ∀ p ∈ X.pn ++ pins, p.1 ≠ a) : Inv X pins σ (upd H a (ExV a cls d)) s := by
  obtain ⟨at_, na, nl, nf, nc⟩ := I.pin (a, oe) (List.mem_append_right _ List.mem_cons_self)
  have far : ∀ {b u}, H b = some u → b ≠ a := fun e z => by rw [z, na] at e; cases e
  have old : ∀ {b o}, X.s_0.heap.get? b = some o → b ≠ a := fun e z => by rw [z, new] at e; cases e
  constructor
  · exact I.ok
  · exact I.os
  · exact I.bare
  · refine ⟨I.base.keep, I.base.slot, fun b o e n q => ?_, I.base.there, fun b xs e => ?_, fun b o u e => ?_, fun b ps e => ?_⟩
    · rw [upd_ne (old e)]; exact I.base.free b o e n q
    · have := I.base.tups b xs e
      rw [upd_ne (far this)]; exact this
    · have := I.base.frzs b o u e
      rw [upd_ne (far this)]; exact this
    · obtain ⟨m, q⟩ := I.base.tbls b ps e
      exact ⟨m, by rw [upd_ne (far q)]; exact q⟩
  · exact I.loc
  · exact I.cell
  · rw [upd_ne (Ne.symm nl)]; exact I.free
  · intro y c e
    obtain ⟨v, o, ho, hd⟩ := I.cell y c e
    have : c ≠ a := fun z => by
      rw [z] at ho
      have e2 : oe = o := Option.some.inj (at_.symm.trans ho)
      exact nc v (by rw [e2]; exact hd)
    rw [upd_ne this]; exact I.freeC y c e
  · intro p h
    obtain ⟨e, n, q⟩ := I.pin p (by
      rcases List.mem_append.mp h with h | h
      · exact List.mem_append_left _ h
      · exact List.mem_append_right _ (List.mem_cons_of_mem _ h))
    exact ⟨e, by rw [upd_ne (hp p h)]; exact n, q⟩
  · intro b u e
    by_cases z : b = a
    · subst z
      rw [upd_same] at e
      cases e
      exact ⟨⟨oe, vs, at_, hz, hv⟩, ⟨oe, at_⟩, fun h1 h2 ⟨o, v, g, r⟩ k => ⟨o, v, k o g, r⟩⟩
    · rw [upd_ne z] at e
      exact (I.hok b u e).stay (fun _ _ _ q => q) (fun c q => by rw [upd_ne (far q)]; exact q) fun c xs q => by rw [upd_ne (far q)]; exact q
  · exact I.len
/-- what the clause 'except x as n: y = n' wishes of an exception of the body (i: n's slot, j: y's) -/
def wKeep (K : PySem.W.Frag) (n : Nat) (c : Value) (i j : Nat) (D : Ends) : WX := fun cls d σ H => σ.length = n →
  PySem.W.exmOne K cls c = some true ∧ ∀ a, H a = none → D.nx (((σ.set i (some (.ref a))).set j (some (.ref a))).set i none) (upd H a (ExV a cls d))
/-- try: body / except x as n: y = n, where the body raises nothing else -/
theorem ps_try_keep {x n y : Str} {c : Value} {i j : Nat} {body : List Stmt} {np pos pos' p3 p4 p5 : Pos} {tb : WX → TS} (hs : X.stack = X.env :: X.outer) (hf : X.env.frame = some X.env.locals) (hN : X.N.Nodup)
    (hi : X.N[i]? = some n) (hln : X.env.kindOf n = some .local) (hj : X.N[j]? = some y) (hly : X.env.kindOf y = some .local) (hex : X.ex = []) (hc : Names X x c)
    (hb : ∀ (W : WX) (pn : List (Addr × Obj)) (xe : Value → Shared → Prop), Takes (X.tr pn xe) W → PassesOwn (model X.prog X.w) X.A X.env xe → PSs (X.tr pn xe) body (tb W))
    (hd1 : (n == ("__debug__" : Str)) = false := by decide) (hd2 : (n == ("__classdict__" : Str)) = false := by decide)
    (hsw : swapsWith (.Name n p4) (some (.Name y p3)) p5.line X.env = pure false := by rfl) :
    PS X (.Try body [.ExceptHandler (some (.Name x np)) (some n) [.Assign [.Name y p3] (.Name n p4) p5] pos'] [] [] pos) (fun D σ H => tb (wKeep X.K X.N.length c i j D) D σ H) := by
  constructor
  intro pins s σ H D I h
  have ok := I.ok
  have fr : X.A.frames = some (X.env :: X.outer) := by rw [ok.frames, hs]
  apply wpAny_Try_except
  have bd := (hb (wKeep X.K X.N.length c i j D) (X.pn ++ pins) (fun e s1 => wpAny (model X.prog X.w) X.A (noteFrame e X.env) (fun _ s2 => wpAny (model X.prog X.w) X.A (setFlight e none)
    (fun _ s3 => wpAny (model X.prog X.w) X.A (handleBy e X.env [.ExceptHandler (some (.Name x np)) (some n) [.Assign [.Name y p3] (.Name n p4) p5] pos']) (SP X pins D) X.xe s3) X.xe s2) X.xe s1) (fun u t xx => ?_) .looking).run [] s σ H D (I.toTry _) h
  · refine wpAny_mono bd (fun f t q => ?_) fun _ _ e => e
    cases f with
    | next => obtain ⟨σ1, H1, J, q⟩ := q; exact wpAny_execs_nil ⟨σ1, H1, J.ofTry ok, q⟩
    | ret v => obtain ⟨v1, σ1, H1, J, r, q⟩ := q; exact ⟨v1, σ1, H1, J.ofTry ok, r, q⟩
    | brk => obtain ⟨σ1, H1, J, q⟩ := q; exact ⟨σ1, H1, J.ofTry ok, q⟩
    | cont => obtain ⟨σ1, H1, J, q⟩ := q; exact ⟨σ1, H1, J.ofTry ok, q⟩
  · obtain ⟨a, B, sI, pins1, σ1, H1, cls, d, rfl, J1, nb, up, sky, na, os, ag, wish⟩ := xx
    have J := J1.ofTry ok
    obtain ⟨hm, go⟩ := wish J.len
    rw [show (X.tr (X.pn ++ pins) _).stack = X.env :: X.outer from hs] at sky
    apply Sky.land Zc.steady fr hf sky
    intro h3 f3 up3
    obtain ⟨o3, v3, a3, z3, d3⟩ := f3.there
    have nB : B.get? a = none := f3.2.1
    have nfr : a ∉ frs (X.env :: X.outer) := fun m => by
      obtain ⟨_, o, e, q⟩ := f3.2.2.1.mem m
      have : o3 = o := Option.some.inj (a3.symm.trans e)
      exact q _ (this ▸ d3)
    have nL : a ≠ X.env.locals := fun z => nfr (List.mem_filterMap.mpr ⟨_, List.mem_cons_self, by rw [hf, z]⟩)
    have nF : a ∉ X.fs := fun m => by
      obtain ⟨e, he, q⟩ := List.mem_filterMap.mp m
      exact nfr (List.mem_filterMap.mpr ⟨e, List.mem_cons_of_mem _ he, q⟩)
    have nI : sI.heap.get? a = none := by
      cases q : sI.heap.get? a with
      | none => rfl
      | some o => have := nb a o q (by rw [show (X.tr (X.pn ++ pins) _).stack = X.env :: X.outer from hs]; exact nfr); rw [nB] at this; cases this
    have n0 : X.s_0.heap.get? a = none := by
      cases q : X.s_0.heap.get? a with
      | none => rfl
      | some o => obtain ⟨o', e⟩ := J.base.there a o q (by rw [hex]; exact fun z => nomatch z); rw [nI] at e; cases e
    have J3 : Inv X pins σ1 H1 { t with heap := h3 } := J.landed nb f3.1 (up.trans up3) os ag
    have S3 := J3.suite a3 d3 na nL nF
    apply wpAny_handleBy_cons ?_ (by intro q; cases q)
    apply codeAny_handlers_test
    have LT : PySem.W.Looks (model X.prog X.w) h3 (typeOf (.ref a)) cls := fun _ _ _ _ k q => wpAny_typeOf_ref (k _ _ a3) (by rw [z3.1]; exact q)
    have LM := PySem.W.exm_one (M := model X.prog X.w) S3.kIn LT hm
    have test : ∀ {Q : Value → Shared → Prop} {E : Value → Shared → Prop}, Q c { t with heap := h3 } → wpAny (model X.prog X.w) (X.A.mark (some (.ref a))) (eval (.Name x np) X.env) Q E { t with heap := h3 } := by
      intro Q E q
      obtain ⟨g, gd, m | ⟨m, v, nn⟩⟩ := hc
      · exact ld_glob (X := X.suite a ((a, o3) :: (X.pn ++ pins))) S3 g m q gd
      · exact ld_blt (X := X.suite a ((a, o3) :: (X.pn ++ pins))) S3 g m v q nn gd
    refine test (LM.here ?_)
    apply codeAny_handlers_suite_as
    apply HandSPX.lands_againZ f3
    intro h4 f4 up4
    obtain ⟨o4, v4, a4, z4, d4⟩ := f4.there
    have J4 : Inv X pins σ1 H1 { t with heap := h4 } := J.landed nb f4.1 ((up.trans up3).trans up4) os ag
    have far : ∀ p ∈ X.pn ++ pins, p.1 ≠ a := fun p hp z => by
      have := (J.pin p hp).1
      rw [z, nI] at this
      cases this
    have S4 := J4.suite a4 d4 na nL nF
    refine store_ok (X := X.suite a ((a, o4) :: (X.pn ++ pins))) (v := .ref a) S4 hN hi (.inl hln) rfl (fun s5 S5 => ?_) (.inr hln)
    have st : PSs (X.suite a ((a, o4) :: (X.pn ++ pins))) [.Assign [.Name y p3] (.Name n p4) p5] _ := pss_one (ps_set (i := j) hN hj (.inl hly) (pe_var (i := i) hi (.inl hln) hd1 hd2) hsw (.inr hly))
    have hl : i < σ1.length := by rw [J.len]; exact (List.getElem?_eq_some_iff.mp hi).1
    refine wpAny_mono (st.run [] s5 _ H1 { nx := fun σ2 H2 => σ2 = (σ1.set i (some (.ref a))).set j (some (.ref a)) ∧ H2 = H1, rt := fun _ _ => False } S5 ⟨.ref a, by simp [hl], rfl, rfl⟩) (fun f s6 q => ?_) fun _ _ z => z.elim
    cases f with
    | ret v => obtain ⟨_, _, _, _, _, q⟩ := q; exact q.elim
    | brk => obtain ⟨_, _, _, q⟩ := q; exact q.elim
    | cont => obtain ⟨_, _, _, q⟩ := q; exact q.elim
    | next =>
      obtain ⟨σ2, H2, S6, e1, e2⟩ := q
      subst e1 e2
      have J6 : Inv X ((a, o4) :: pins) _ H2 s6 := ⟨ok, S6.os, S6.bare, S6.base, S6.loc, S6.cell, S6.free, S6.freeC, fun p hp => S6.pin p (by
        refine List.mem_append_left _ ?_
        rcases List.mem_append.mp hp with hp | hp
        · exact List.mem_cons_of_mem _ (List.mem_append_left _ hp)
        · rcases List.mem_cons.mp hp with hp | hp
          · rw [hp]; exact List.mem_cons_self
          · exact List.mem_cons_of_mem _ (List.mem_append_right _ hp)), S6.hok, S6.len⟩
      refine gone_ok (Q := fun _ s7 => SP X pins D .next s7) J6 hN hi hln fun s7 J7 => ?_
      exact ⟨_, _, track J7 z4 d4 n0 far, go a na⟩
end
/-! ### what passes -/
theorem passF {X : Cx} : Passes (L2.CX X.prog X.w) X E0 := fun _ _ _ _ _ _ _ z => by
  obtain ⟨_, _, _, _, _, _, _, _, _, _, _, _, z⟩ := z
  exact z.elim
/-! ### a def that raises, as a positional promise -/
section
variable {P : Program} {w : World} {K : PySem.W.Frag} {mg : Str → Option Value} {base : Heap} {x qual : Str} {params : Arguments} {body : List Stmt} {scope : Scope} {f : Addr}
theorem okRE {kws : List (Str × V)} {N ps : List Str} {k : Nat} {sp : Sp} (F : ∃ fd, FunD K x qual params body scope [] kws f fd) (S : FnScope N ps scope) (B : ArgsGo x qual params body scope ps)
    (len : ∀ vs H Q E, sp vs H Q E → vs.length = ps.length)
    (hbody : ∀ (cdv : Value) (A : Around) (outer : List Env) (s : Shared) (H : Hp) (vs : List V) (Q : VK) (E : XK), Room k (A.deeper (envOfC qual scope s.heap.objs.size f cdv)) → sp vs H Q E →
      ∃ t, PSs (cxOf (L2.CX P w) P w K mg base N qual scope f cdv A outer s H E) body t ∧ t { nx := fun _ H' => Q .non H', rt := Q } (start N vs) H) : FnR P w K mg base (L2.CX P w) (k + 1) f sp := by
  obtain ⟨fd, F⟩ := F
  exact FnR.imp ((F.ok S len fun cdv A outer s H vs Q E hr h => hbody cdv A outer s H vs Q E hr h).raw (F.bindsN B) .nil) fun vs H Q E h => by rwa [List.append_nil]
end
/-! ### isinstance of a kept exception that has no dict -/
def rIsEV (K : PySem.W.Frag) : List V → Hp → VK → Prop := fun xs H Q => ∃ (a D : Addr) (c : V) (cv : Value) (b : Bool), xs = [.ref a, c] ∧ H a = some (ExV a (.ref D) none) ∧ ExcC K D ∧ (∀ u, RelV c u → u = cv) ∧ PySem.W.kitOne K (.ref D) cv = some b ∧ Q (.bl b) H
theorem call_isEV {X : Cx} : CallR X (.builtin "isinstance") (rIsEV X.K) := by
  intro pins s σ H xs us Q I r h
  obtain ⟨a, D, c, cv, b, rfl, ha, C, hcv, e, q⟩ := h
  obtain ⟨⟨oe, vs, at_, hz, hv⟩, _, _⟩ := I.hok a _ ha
  match us, r with
  | [_, _], .cons r1 (.cons r2 .nil) =>
    cases (show _ = Value.ref a from r1)
    cases hcv _ r2
    have J : PySem.W.InstAt s.heap a oe D none := by
      obtain ⟨oc, od, oda, osl⟩ := oe
      obtain ⟨h1, h2⟩ := hz
      dsimp only at h1 h2 hv
      subst h1 h2 hv
      exact ⟨at_, rfl, rfl, trivial⟩
    exact PySem.W.kia_one (PySem.W.handS_kitx_exc C.hg C.hk C.hs C.hd C.ha C.hn C.ht C.hm) I.kIn J e (fun z => nomatch z) fun tk => ⟨.bl b, H, I.kept (t' := tk) fun _ _ z => z, rfl, q⟩
/-! ### == of an instance and any thing -/
/-- x == y (x != y), x an instance of the own class C -/
def rEqO (K : PySem.W.Frag) (C : Addr) (sp : Sp) (E : XK) (neg : Bool) : R2 := fun x y H Q => ∃ a dx fs t, x = .ref a ∧ H a = some (.ins C dx fs) ∧ TyX K H y t ∧ PySem.W.notFirst K C t = true ∧
  sp [x, y] H (fun v H' => ∃ k, v = .bl k ∧ Q (.bl (if neg then !k else k)) H') E
section
variable {X : Cx} {CX : CXT} {n : Nat} {g C : Addr} {sp : Sp} {E : XK}
theorem op_eqO (hs : PySem.W.findIn X.K (.ref C) "__eq__" = some (some (.ref g))) (hf : PySem.W.isFn X.K (.ref g) = true)
    (F : FnR X.prog X.w X.K X.mg X.base CX n g sp) (hr : Room n X.A) (hx : Passes CX X E) : OpR X (compareOp .Eq) (rEqO X.K C sp E false) := by
  intro pins s σ H x y v u Q I rx ry h
  obtain ⟨a, dx, fs, t, rfl, ha, ty, hn, q⟩ := h
  cases (show v = Value.ref a from rx)
  obtain ⟨od, J⟩ := inst_of I ha
  obtain ⟨Pk, kt, pk, _⟩ := kit_of I ry ty
  obtain ⟨m, hF⟩ := I.fr
  show wpAny _ _ (richCompare .Eq (.ref a) u) _ _ _
  refine PySem.W.cmp_K (op := .Eq) (tb := t) hr.units0 hF I.ok.mod.kin J (kt.ty _ _ I.kIn pk) hn hs hf (wpAny_mono (run_sub F hr rfl hx I (.cons (rr a) (.cons ry .nil)) q) (fun r s' z => ?_) fun _ _ e => e)
  obtain ⟨z', H', I', rz, k, ek, q'⟩ := z
  subst ek
  cases (show r = Value.bool k from rz)
  exact ⟨.bl k, H', I', rfl, q'⟩
theorem op_neO (hne : PySem.W.findIn X.K (.ref C) "__ne__" = some (some (.builtin "object.__ne__"))) (hm : PySem.W.mroIn X.K C (.type "object") = some true)
    (hs : PySem.W.findIn X.K (.ref C) "__eq__" = some (some (.ref g))) (hf : PySem.W.isFn X.K (.ref g) = true)
    (F : FnR X.prog X.w X.K X.mg X.base CX n g sp) (hr : Room (n + 1) X.A) (hx : Passes CX X E) : OpR X (compareOp .NotEq) (rEqO X.K C sp E true) := by
  intro pins s σ H x y v u Q I rx ry h
  obtain ⟨a, dx, fs, t, rfl, ha, ty, hn, q⟩ := h
  cases (show v = Value.ref a from rx)
  obtain ⟨od, J⟩ := inst_of I ha
  obtain ⟨Pk, kt, pk, _⟩ := kit_of I ry ty
  obtain ⟨m, hF⟩ := I.fr
  show wpAny _ _ (richCompare .NotEq (.ref a) u) _ _ _
  refine ne_K (tb := t) hr.in1.units0 hF I.ok.mod.kin J (kt.ty _ _ I.kIn pk) hn hne hm hs hf (wpAny_mono (run_sub F hr.in1 rfl hx I (.cons (rr a) (.cons ry .nil)) q) (fun r s' z => ?_) fun _ _ e => e)
  obtain ⟨z', H', I', rz, k, ek, q'⟩ := z
  subst ek
  cases (show r = Value.bool k from rz)
  exact ⟨k, rfl, .bl (!k), H', I', rfl, q'⟩
end
end Ws

set_option Elab.async false
set_option linter.all false
set_option maxRecDepth 100000
set_option maxHeartbeats 4000000
namespace Ws
open PySem PySem.Spec PyProof.Rows L2 LamX
section
variable {X : Cx} {pins : List (Addr × Obj)} {σ : L2.St} {H : Hp} {s : Shared}
theorem TabS.kp {S : Addr → Prop} {H H' : Hp} {P : Addr} {q : Str} (t : TabS H P q) (u : Kp S H H') (nP : ¬ S P) (nS : ∀ a, S a → ∃ o, H a = some o ∧ o ≠ CodeO a q) : TabS H' P q := by
  obtain ⟨ps, h1, h2, h3⟩ := t
  refine ⟨ps, u.keep _ _ h1 nP, h2, fun pos cv e => ?_⟩
  obtain ⟨c, e1, e2⟩ := h3 pos cv e
  refine ⟨c, e1, u.keep _ _ e2 fun z => ?_⟩
  obtain ⟨o, e3, ne⟩ := nS c z
  rw [e2] at e3
  exact ne (Option.some.inj e3).symm
theorem TabS.ext' {H H' : Hp} {P : Addr} {q : Str} (t : TabS H P q) (e : Ext H H') : TabS H' P q := LamX.TabS.ext t e
/-- a lambda is made: its code object is new in the table at P, or was there -/
theorem lam_made {c P : Addr} {params : Arguments} {body : PySem.Expr} {scope : Scope} {pos : Pos} {E : Value → Shared → Prop} {Q : Value → Shared → Prop} (I : Inv X pins σ H s) (TB : TabB X.base X.mg c P) (hcode : X.env.code = .ref c)
    (tb : TabS H P (X.env.qual ++ "<lambda>")) (hdef : defaultsOf params X.env = ([], [])) (hfree : ∀ y ∈ scope.names, y.2 = .free → ∃ c, X.env.cells.lookup y.1 = some c)
    (k : ∀ (f c' : Addr) (pm ctv : Value) (H1 : Hp) (s' : Shared), Inv X pins σ H1 s' → Kp (fun a => a = P) H H1 → TabS H1 P (X.env.qual ++ "<lambda>") →
      s'.heap.get? f = some (PySem.W.kla_obj "<lambda>" (X.env.qual ++ "<lambda>") params body scope (cloFrom X.env.cells scope.names []) pm c' ctv) → H1 f = none → f ∉ frs X.stack → H1 c' = some (CodeO c' (X.env.qual ++ "<lambda>")) → Q (.ref f) s') :
    wpAny (model X.prog X.w) X.A (eval (.Lambda params body scope pos) X.env) Q E s := by
  obtain ⟨ps, hP, triples, among⟩ := tb
  have atP : s.heap.get? P = some { cls := .none, data := .fields ps } := I.hok P _ hP
  have bP := TB.bm.keeps I.bk
  have below : ∀ f, s.heap.objs.size ≤ f → f ∉ frs X.stack := fun f hf z => by
    rcases List.mem_cons.mp (I.stkSub _ z) with e | e
    · subst e
      exact Nat.lt_irrefl _ (Nat.lt_of_lt_of_le I.lt hf)
    · exact I.nofs hf e
  apply PySem.W.kla_eval hdef
  cases look : codeAmong pos ps.toList with
  | some cv =>
    obtain ⟨c', rfl, hco⟩ := among pos cv look
    apply PySem.W.kla_makeFunctionHit (mg := X.mg) (c := c) (P := P) (ps := ps) (closure_ok hfree) I.ok.glob (I.mod.glob.keeps I.bk) hcode (TB.code.keeps I.bk) atP triples look bP
    intro ctv h' tk hx hsz
    refine k h'.objs.size c' _ ctv H _ (I.kept (t' := tk) fun b o e => Heap.get?_push_of_some _ (hx b o e)) .refl ⟨ps, hP, triples, among⟩ (Heap.get?_push_size _ rfl) (I.hok.fresh hsz) (below _ hsz) hco
  | none =>
    apply PySem.W.kla_makeFunction (mg := X.mg) (c := c) (P := P) (ps := ps) (closure_ok hfree) I.ok.glob (I.mod.glob.keeps I.bk) hcode (TB.code.keeps I.bk) atP triples look TB.gP bP
    intro c' ctv h' tk hx hge hlt hrec htb
    obtain ⟨c2, oc, vs, t, e2, hoc, hd, hv⟩ := hrec
    cases e2
    have sz : s.heap.objs.size ≤ h'.objs.size := Nat.le_trans hge (Nat.le_of_lt hlt)
    have nC : H c' = none := I.hok.fresh hge
    have PC : P ≠ c' := ne_of_none hP nC
    have tl : (ps ++ #[rawInt pos.line, rawInt pos.col, .ref c']).toList = ps.toList ++ [rawInt pos.line, rawInt pos.col, .ref c'] := by simp
    have keepO : ∀ b o, H b = some o → b ≠ P → (upd (upd H P (.tbl (ps ++ #[rawInt pos.line, rawInt pos.col, .ref c']))) c' (CodeO c' (X.env.qual ++ "<lambda>"))) b = some o := fun b o e n => by
      rw [upd_ne (ne_of_none e nC), upd_ne n]; exact e
    have I1 := inv_table (t' := tk) (more := #[rawInt pos.line, rawInt pos.col, .ref c']) (h' := h'.push (PySem.W.kla_obj "<lambda>" (X.env.qual ++ "<lambda>") params body scope (cloFrom X.env.cells scope.names []) ((X.mg "__name__").getD .none) c' ctv)) I hP
      (fun b o n e => Heap.get?_push_of_some _ (hx b o n e)) (Heap.get?_push_of_some _ htb) hge ⟨oc, vs, t, Heap.get?_push_of_some _ hoc, hd, hv⟩
    refine k h'.objs.size c' _ ctv _ _ I1 ⟨fun b o e n => keepO b o e n, fun b hb => ?_⟩ ⟨_, by rw [upd_ne PC, upd_same], by rw [tl]; exact PySem.TriplesOk_snoc _ _ _ _ triples, fun p cv e => ?_⟩ (Heap.get?_push_size _ rfl) ?_ (below _ sz) upd_same
    · by_cases z : b = P
      · rw [z, upd_ne PC, upd_same]; exact fun q => nomatch q
      · cases q : H b with
        | none => exact absurd q hb
        | some o => rw [keepO b o q z]; exact fun q => nomatch q
    · rw [tl] at e
      rcases among_app _ triples e with z | z
      · obtain ⟨c0, e1, e2⟩ := among p cv z
        exact ⟨c0, e1, keepO _ _ e2 fun q => codeO_ne ps (by rw [q, hP] at e2; exact (Option.some.inj e2).symm)⟩
      · exact ⟨c', z, upd_same⟩
    · rw [upd_ne (Nat.ne_of_gt hlt), upd_ne (Nat.ne_of_gt (Nat.lt_of_lt_of_le (Heap.lt_size atP) sz))]
      exact I.hok.fresh sz
end
/-! ### x(lambda: e) where x keeps what it raises -/
/-- what such a def makes of the lambda's reading -/
def TKeep (K : PySem.W.Frag) (CS : Addr) : (XK → Hp → VK → Prop) → Hp → VK → Prop := fun tl H Q =>
  tl (fun cls d H' => PySem.W.exmOne K cls (.ref CS) = some true ∧ ∀ a, H' a = none → Q (.ref a) (upd H' a (ExV a cls d))) H (fun _ H' => Q .non H')
def tKept (K : PySem.W.Frag) (CS P : Addr) (q : Str) (t : XK → TE) : TE := fun σ H Q => TabS H P q ∧ ∀ H1, Kp (fun a => a = P) H H1 → TabS H1 P q → TKeep K CS (fun E H' Q' => t E σ H' Q') H1 Q
/-- the def's body: y = None / try: a() / except e as n: y = n / return y -/
theorem keep_gives {X : Cx} {x a n y e q : Str} {sg : Scope} {g CS : Addr} {cdg : Value} {p1 p2 p3 p4 p5 p6 p7 p8 p9 p10 p11 p12 p13 p14 : Pos} (nd : [a, y, n].Nodup) (hn : sg.names.lookup n = some .local) (hy : sg.names.lookup y = some .local)
    (he : sg.names.lookup e = some .globalImplicit) (hm : X.mg e = some (.ref CS)) (hde : (e == ("__debug__" : Str)) = false) (h1 : (n == ("__debug__" : Str)) = false) (h2 : (n == ("__classdict__" : Str)) = false) (h3 : (y == ("__debug__" : Str)) = false) (h4 : (y == ("__classdict__" : Str)) = false)
    (sw : ∀ env, swapsWith (.Name n p9) (some (.Name y p8)) p10.line env = pure false) :
    GivesTo X [a, y, n] x sg g cdg [.Assign [.Name y p1] (.Constant .none 0 p2) p3, .Try [.Expr (.Call (.Name a p4) [] [] p5) p6] [.ExceptHandler (some (.Name e p7)) (some n) [.Assign [.Name y p8] (.Name n p9) p10] p11] [] [] p12, .Return (some (.Name y p13)) p14] a q (TKeep X.K CS) := by
  intro f c' s H Q tl act hc h
  refine ⟨_, pss_cons (ps_set (i := 1) nd rfl (.inl hy) pe_non) (pss_cons (ps_try_keep (i := 2) (j := 1) (c := .ref CS) rfl rfl nd rfl hn rfl hy rfl ⟨he, hde, .inl hm⟩
    (tb := fun W D σ H => ∃ Ech : XK, (∀ cls d σ' H', Ech cls d H' → W cls d σ' H') ∧ σ[0]? = some (some (.ref f)) ∧ H c' = some (CodeO c' q) ∧ tl Ech H (fun _ H' => D.nx σ H'))
    (fun W pn xe tk _ => ?_) h1 h2 (sw _)) (pss_one (ps_ret (pe_var (i := 1) rfl (.inl hy) h3 h4)))), ?_⟩
  · constructor
    intro pins s' σ H' D I hh
    obtain ⟨Ech, hW, g1, g2, g3⟩ := hh
    exact (pss_one (ps_expr (act W pn xe Ech p4 p5 tk hW))).run pins s' σ H' D I ⟨g1, g2, g3⟩
  · refine ⟨fun cls d H' => PySem.W.exmOne X.K cls (.ref CS) = some true ∧ ∀ b, H' b = none → Q (.ref b) (upd H' b (ExV b cls d)), fun cls d σ' H' ⟨z1, z2⟩ hl => ⟨z1, fun b nb => ?_⟩, rfl, hc, ?_⟩
    · match σ', hl with
      | [_, _, _], _ => exact ⟨_, rfl, z2 b nb⟩
    · have e1 : (fun (_ : V) (H' : Hp) => (tRet (tVar 1) { nx := fun _ H' => Q V.non H', rt := Q } ((L2.start [a, y, n] [V.ref f]).set 1 (some V.non)) H' : Prop)) = fun _ H' => Q .non H' := by
        funext v H'
        exact propext ⟨fun ⟨w, e1, z⟩ => by cases e1; exact z, fun z => ⟨_, rfl, z⟩⟩
      show tl _ H (fun (_ : V) (H' : Hp) => (tRet (tVar 1) { nx := fun _ H' => Q V.non H', rt := Q } ((L2.start [a, y, n] [V.ref f]).set 1 (some V.non)) H' : Prop))
      rw [e1]
      exact h
/-- x(lambda: e) -/
theorem pe_kept {X : Cx} {x a : Str} {g CS c P : Addr} {k : Nat} {pg : Arguments} {bg : List Stmt} {sg : Scope} {Ng : List Str} {params : Arguments} {body : PySem.Expr} {scope : Scope} {t : XK → TE} {p lpos pos : Pos}
    (F : ∃ fd, FunD X.K x x pg bg sg [] [] g fd) (hg : Gl X x) (hm : X.mg x = some (.ref g)) (B : ArgsGo x x pg bg sg [a]) (Sg : FnScope Ng [a] sg) (hN : Ng[0]? = some a) (hv : Vis sg a)
    (G : ∀ cdg, GivesTo X Ng x sg g cdg bg a (X.env.qual ++ "<lambda>") (TKeep X.K CS)) (TB : TabB X.base X.mg c P) (hcode : X.env.code = .ref c) (hr : Room (k + 2) X.A) (L : LamS X.env.scope scope) (hdef : defaultsOf params X.env = ([], []))
    (hbind : ∀ (q : Str) (cl : List (Str × Addr)) (pm cv ctv : Value), bindArgs (PySem.W.kla_fn "<lambda>" q params body scope cl pm cv ctv) ⟨[], []⟩ = pure [])
    (hbody : ∀ (A : Around) (outer : List Env) (s : Shared) (H : Hp) (E : XK) (f c' : Addr), Room k (A.deeper (lamEnv X scope s.heap.objs.size f c')) → PE (lamCx X A outer s H E scope f c') body (t E))
    (hdb : (x == ("__debug__" : Str)) = false := by decide) (hd : (a == ("__debug__" : Str)) = false := by decide) (hcd : (a == ("__classdict__" : Str)) = false := by decide) :
    PE X (.Call (.Name x p) [.Lambda params body scope lpos] [] pos) (tKept X.K CS P (X.env.qual ++ "<lambda>") t) := by
  obtain ⟨fd, F⟩ := F
  constructor
  intro pins s σ H Q I h
  obtain ⟨tb, h⟩ := h
  apply wpAny_Call_Name_kw (ld_glob I hg hm ?_ hdb)
  refine PySem.W.callWith_K (h₀ := X.base) I.ok.mod.kin F.kp ?_ (by rfl) (by rfl)
  show wpAny _ _ (spliced ((false, eval (.Lambda params body scope lpos) X.env) :: backTo pos (starEach [] X.env))) _ _ s
  apply Calls.spliced_cons
  refine lam_made I TB hcode tb hdef (L.has I.ok) fun f c' pm' ctv H1 s' I1 kp t1 hf hfn hfr hco => Calls.spliced_nil ⟨I1.kIn, wpAny_call ?_⟩
  obtain ⟨oc, od, dV, kV, doc, pm, an, cdv, ct, osl, rfl, lk, hco2, dfl, _⟩ := id F.ex
  have bs : L2.Binds X.K (PySem.W.fnOf x x pg bg sg dV kV doc pm an cdv ct) [a] [] := F.bindsN B
  have rc : codeAny (model X.prog X.w) X.A (.call (.ref g) ⟨[.ref f], []⟩) (CR C8.CX0 X.stack X.prog X.w H1 s' Q C8.E0) s' := by
    refine run_ofS (N := Ng) (ps := [a]) (us := [.ref f]) (vs := [.ref f]) lk hco2 Sg hr I1.env0 (bs s' [.ref f] I1.kIn rfl) (.cons rfl .nil) rfl fun hr' => ?_
    obtain ⟨t', ht', hq'⟩ := G cdv f c' s' H1 Q (fun E H' Q' => t E σ H' Q') (fun W pn xe E q1 q2 tk hW => pe_act (i := 0) I1 L hf hfn hfr (hbind _ _ _ _ _) tk hW hr' (fun A outer s H hr2 => hbody A outer s H E f c' hr2) hN hv hd hcd) hco (h H1 kp t1)
    exact ⟨t', ht'.nox, hq'⟩
  refine codeAny_mono rc fun r s2 hq => ?_
  match r, hq with
  | .error e, hq => exact (show False from hq).elim
  | .ok (.ret u), hq => exact I1.after hq
  | .ok .next, hq => exact False.elim hq
  | .ok .brk, hq => exact False.elim hq
  | .ok .cont, hq => exact False.elim hq
end Ws

set_option Elab.async false
set_option linter.all false
set_option maxRecDepth 100000
set_option maxHeartbeats 4000000
namespace Ws
open PySem PySem.Spec PyProof.Rows L2 LamX
abbrev tab0 : Obj := { cls := .none, data := .fields #[] }
/-- what is told of the law at the head's heap h: cs, code objects and their tables -/
structure TabsHere (K : PySem.W.Frag) (h : Heap) (cs : List (Addr × Addr)) : Prop where
  at_ : ∀ p ∈ cs, h.get? p.2 = some tab0
  out : ∀ p ∈ cs, K.lookup p.2 = none
  code : ∀ p ∈ cs, PySem.W.CodeHd h p.1 p.2
/-- the law's call at the heap behind the top, with tables -/
theorem law_callT {P : Program} {w : World} {K : PySem.W.Frag} {mg mb : Str → Option Value} {CX : CXT} {k : Nat} {fa a : Addr} {cs : List (Addr × Addr)} {sp : Sp} {s₁ : Shared} {vs : List Value} {ns : List Int}
    (KX : K.In s₁.heap) (gl : s₁.heap.Ns mainGlobals mg) (bl : s₁.heap.Ns builtinsNs mb) (bb : ∀ x : Str, x ≠ "__name__" → mb x = bootBuiltins x) (lim : s₁.heap.NoLimit) (gens : s₁.gens = #[]) (T : TabsHere K s₁.heap cs)
    (bm : ∃ (bm : Addr) (ob : Obj), mg "__builtins__" = some (.ref bm) ∧ bm ≠ builtinsNs ∧ s₁.heap.get? bm = some ob ∧ ob.cls = .type "module" ∧ ob.dict = some builtinsNs ∧ ob.data = .plain)
    (ha : s₁.heap.get? a = some (scrO vs)) (hi : IntsAre vs ns) (hl : ns.length ≤ sizeLine) (hr : Room k callerA)
    (F : ∀ base : Heap, K.In base → base.Ns mainGlobals mg → (∀ p ∈ cs, TabB base mg p.1 p.2) → FnRG P w K mg base CX k fa sp)
    (hsp : ∀ H : Hp, (∀ p ∈ cs, H p.2 = some (.tbl #[])) → SqL K H a (ns.map V.int) → sp [.ref a] H (fun v _ => v = .bl true) fun _ _ _ => False) (no : ∀ H e s', CX [] H s₁ (fun _ _ _ => False) e s' → False) :
    codeAny (model P w) callerA (.call (.ref fa) ⟨[.ref a], []⟩) (fun r s' => r = .ok (.ret (.bool true)) ∧ OldK s₁.heap s'.heap ∧ s'.os = s₁.os ∧ AllBare s'.gens) s₁ := by
  have rv := vals_ints hi
  obtain ⟨hT, nT, cT⟩ := T
  have inT : ∀ b, b ∈ cs.map (·.2) → s₁.heap.get? b = some tab0 ∧ K.lookup b = none := fun b m => by
    obtain ⟨p, hp, rfl⟩ := List.mem_map.mp m
    exact ⟨hT p hp, nT p hp⟩
  have aT : a ∉ cs.map (·.2) := fun m => by
    have := (inT a m).1
    rw [ha] at this
    exact nomatch (show Data.seq vs.toArray _ = Data.fields #[] from congrArg Obj.data (Option.some.inj this))
  -- H tracks the tables and at most the script
  suffices key : ∀ H : Hp, (∀ p ∈ cs, H p.2 = some (.tbl #[])) → (∀ b u, H b = some u → (b ∈ cs.map (·.2) ∧ u = .tbl #[]) ∨ (b = a ∧ u = .frz (scrO vs) (.lst (ns.map V.int)) ∧ K.lookup a = none)) → SqL K H a (ns.map V.int) →
      codeAny (model P w) callerA (.call (.ref fa) ⟨[.ref a], []⟩) (fun r s' => r = .ok (.ret (.bool true)) ∧ OldK s₁.heap s'.heap ∧ s'.os = s₁.os ∧ AllBare s'.gens) s₁ by
    have memT : ∀ p ∈ cs, p.2 ∈ cs.map (·.2) := fun p hp => List.mem_map.mpr ⟨p, hp, rfl⟩
    cases hk : K.lookup a with
    | some o =>
      have e := KX a o hk
      rw [ha] at e
      cases e
      refine key (fun b => if b ∈ cs.map (·.2) then some (.tbl #[]) else none) (fun p hp => if_pos (memT p hp)) (fun b u z => ?_) (.inr ⟨_, vs.toArray, _, hk, rfl, rfl, rfl, ?_, by simpa using rv⟩)
      · by_cases m : b ∈ cs.map (·.2)
        · rw [if_pos m] at z; exact .inl ⟨m, (Option.some.inj z).symm⟩
        · rw [if_neg m] at z; cases z
      · rw [List.size_toArray, hi.length]; exact hl
    | none =>
      refine key (upd (fun b => if b ∈ cs.map (·.2) then some (.tbl #[]) else none) a (.frz (scrO vs) (.lst (ns.map V.int)))) (fun p hp => ?_) (fun b u z => ?_) (.inl (.inr ⟨scrO vs, upd_same⟩))
      · rw [upd_ne (show p.2 ≠ a from fun z => aT (by rw [← z]; exact memT p hp))]; exact if_pos (memT p hp)
      · by_cases hb : b = a
        · subst hb
          rw [upd_same] at z
          exact .inr ⟨rfl, (Option.some.inj z).symm, hk⟩
        · rw [upd_ne hb] at z
          by_cases m : b ∈ cs.map (·.2)
          · rw [if_pos m] at z; exact .inl ⟨m, (Option.some.inj z).symm⟩
          · rw [if_neg m] at z; cases z
  intro H hTb hH hS
  -- what is no list and no empty record is not tracked
  have free : ∀ {b : Addr} {o : Obj}, s₁.heap.get? b = some o → (∀ xs n, o.data ≠ .seq xs n) → o.data ≠ .fields #[] → H b = none := fun {b o} e d1 d2 => by
    cases q : H b with
    | none => rfl
    | some u =>
      rcases hH b u q with ⟨m, _⟩ | ⟨rfl, _, _⟩
      · rw [(inT b m).1] at e
        cases e
        exact absurd rfl d2
      · rw [ha] at e
        cases e
        exact absurd rfl (d1 _ _)
  have hok : HOk P w H s₁.heap := fun b u q => by
    rcases hH b u q with ⟨m, rfl⟩ | ⟨rfl, rfl, _⟩
    · exact (inT b m).1
    · exact ⟨ha, by rw [List.length_map]; exact hl, vs, _, rv, ha⟩
  have nsK : ∀ {b : Addr} {m : Str → Option Value}, s₁.heap.Ns b m → (hidT s₁.heap H).Ns b m := fun {b m} z => by
    obtain ⟨o, es, ep, e, d, r⟩ := z
    exact ⟨o, es, ep, hidT_get e (free e (fun _ _ q => by rw [d] at q; cases q) (fun q => by rw [d] at q; cases q)), d, r⟩
  have kb : K.In (hidT s₁.heap H) := fun b o e => by
    refine hidT_get (KX b o e) ?_
    cases q : H b with
    | none => rfl
    | some u =>
      rcases hH b u q with ⟨m, _⟩ | ⟨rfl, _, z⟩
      · rw [(inT b m).2] at e; cases e
      · rw [z] at e; cases e
  have lim' : (hidT s₁.heap H).NoLimit := by
    obtain ⟨mc, h1, h2⟩ := lim
    exact ⟨mc, nsK h1, h2⟩
  obtain ⟨og, eg, epg, hog, hdg, _⟩ := id gl
  have TB : ∀ p ∈ cs, TabB (hidT s₁.heap H) mg p.1 p.2 := fun p hp => by
    refine ⟨?_, ?_, fun z => ?_⟩
    · obtain ⟨o, us, file, tf, flags, tg, inF, text, tt, e1, r1, r2, r3, rest⟩ := cT p hp
      refine ⟨o, us, file, tf, flags, tg, inF, text, tt, hidT_get e1 (free e1 (fun _ _ q => by rw [r2] at q; cases q) (fun q => ?_)), r1, r2, r3, rest⟩
      rw [r2] at q
      cases q
      simp at r3
    · obtain ⟨b, ob, b1, b2, b3, b4, b5, b6⟩ := bm
      refine ⟨b, ob, b1, b2, fun q => ?_, fun q => ?_, hidT_get b3 (free b3 (fun _ _ z => by rw [b6] at z; cases z) (fun z => by rw [b6] at z; cases z)), b4, b5, b6⟩
      · rw [q, hog] at b3; cases b3; rw [hdg] at b6; cases b6
      · rw [q, hT p hp] at b3; cases b3; cases b6
    · rw [z, hT p hp] at hog; cases hog; cases hdg
  have e0 : Env0 P w K mg (hidT s₁.heap H) callerA [] s₁ H :=
    ⟨rfl, ⟨kb, nsK gl, ⟨mb, nsK bl, bb⟩, lim'⟩, fun b o e => of_hidT e, Nat.le_of_eq (hidT_size _ _), trivial, fun b hb => (by cases (show b ∈ ([] : List Addr) from hb)), hok, .of_eq gens⟩
  refine codeAny_mono (F _ kb (nsK gl) TB callerA [] s₁ H [.ref a] [.ref a] _ _ rfl hr e0 (.cons (rr a) .nil) (hsp H hTb hS)) fun r s' h => ?_
  match r, h with
  | .error e, h => exact (no H e s' h).elim
  | .ok .next, h => exact False.elim h
  | .ok .brk, h => exact False.elim h
  | .ok .cont, h => exact False.elim h
  | .ok (.ret u), h =>
    obtain ⟨v, H', os, bare, un, hok', r', q⟩ := h
    cases (show v = .bl true from q)
    cases (show u = Value.bool true from r')
    have same : ∀ b o, b ∉ cs.map (·.2) → s₁.heap.get? b = some o → s'.heap.get? b = some o := fun b o m e => by
      cases q : H b with
      | none => exact un.keep b o e q (fun z => nomatch (show b ∈ ([] : List Addr) from z)) (fun z => nomatch z)
      | some u =>
        rcases hH b u q with ⟨m', _⟩ | ⟨rfl, rfl, _⟩
        · exact absurd m' m
        · obtain ⟨e2, _⟩ := hok' _ _ (un.frzs _ _ _ q)
          rw [ha] at e
          cases e
          exact e2
    have grown : ∀ p ∈ cs, ∃ more : Array Value, s'.heap.get? p.2 = some { cls := .none, data := .fields more } := fun p hp => by
      obtain ⟨more, z⟩ := un.tbls p.2 #[] (hTb p hp)
      exact ⟨_, hok' p.2 _ z⟩
    refine ⟨rfl, ⟨fun b o e => ?_, fun b o e => ?_⟩, os, bare⟩
    · by_cases m : b ∈ cs.map (·.2)
      · obtain ⟨p, hp, rfl⟩ := List.mem_map.mp m
        obtain ⟨more, hm⟩ := grown p hp
        rw [hT p hp] at e
        cases e
        exact .inr (.inl ⟨((cT p hp).tab (hT p hp)).isCodeTable, rfl, #[], more, rfl, by rw [Array.empty_append]; exact hm⟩)
      · exact .inl (same b o m e)
    · by_cases m : b ∈ cs.map (·.2)
      · obtain ⟨p, hp, rfl⟩ := List.mem_map.mp m
        obtain ⟨more, hm⟩ := grown p hp
        exact ⟨_, hm⟩
      · exact ⟨o, same b o m e⟩
/-- the law's walk behind a head by facts, with tables -/
theorem walk_ofT {l : PySem.W.OpenLaw} {n k : Nat} {q : Program} {loose : List Str} {XP : (Str → Option Value) → Heap → Prop} {YP : World → Heap → Prop} {d : DefRec} {CX : CXT}
    (hn : l.most = some n) (hn2 : n ≤ sizeLine) (hdf : d.params.defaults = []) (hr : Room k callerA)
    (F : ∀ (w : World) (mg : Str → Option Value) (fa : Addr) (h : Heap), YP w h → h.Ns mainGlobals mg → mg d.name = some (.ref fa) →
      ∃ (K : PySem.W.Frag) (cs : List (Addr × Addr)) (sp : Sp), K.In h ∧ TabsHere K h cs ∧
        (∀ (H : Hp) (a : Addr) (ns : List Int), ns.length ≤ n → (∀ p ∈ cs, H p.2 = some (.tbl #[])) → SqL K H a (ns.map V.int) → sp [.ref a] H (fun v _ => v = .bl true) fun _ _ _ => False) ∧
        ∀ base : Heap, K.In base → base.Ns mainGlobals mg → (∀ p ∈ cs, TabB base mg p.1 p.2) → FnRG l.prog w K mg base CX k fa sp)
    (no : ∀ (H : Hp) (s : Shared) (e : Value) (s' : Shared), CX [] H s (fun _ _ _ => False) e s' → False) :
    PySem.W.WalkO q loose XP YP l.row.toRowW d [] (fun f vs => PySem.call f vs) := by
  apply Att.attach_callB hn hdf
  intro w s₀ s₁ mg mb fa o pm cd doc a vs ns G Y ho hd hcd hmg hobj hints hlen hbits hg
  obtain ⟨K, cs, sp, KX, T, hsp, hF⟩ := F w mg fa _ Y G.T.g hmg
  exact law_callT KX G.T.g G.T.b G.T.builtins G.T.nolimit hg T G.T.bmain hobj hints (Nat.le_trans hlen hn2) hr hF (fun H hT hS => hsp H a ns hlen hT hS) fun H e s' => no H s₁ e s'
/-! ### defs that make lambdas: their code object is told -/
section
variable {P : Program} {w : World} {K : PySem.W.Frag} {mg : Str → Option Value} {base : Heap} {CX : CXT} {x qual : Str} {params : Arguments} {body : List Stmt} {scope : Scope}
theorem okGT {kws : List (Str × V)} {p : He.Defn} {N ps : List Str} {k : Nat} {sp : Sp} (F : ∃ fd, FunD K x qual params body scope [] kws (He.fAd K p) fd) (S : FnScope N ps scope) (B : ArgsGo x qual params body scope ps)
    (len : ∀ vs H Q E, sp vs H Q E → vs.length = ps.length)
    (hbody : ∀ (cdv : Value) (A : Around) (outer : List Env) (s : Shared) (H : Hp) (vs : List V) (Q : VK) (E : XK), cdv = .ref (He.cT K p).1 → A.guards = some [] →
      Room k (A.deeper (envOfC qual scope s.heap.objs.size (He.fAd K p) cdv)) → sp vs H Q E →
      ∃ t, PSs (cxOf CX0 P w K mg base N qual scope (He.fAd K p) cdv A outer s H E).nox body t ∧ t { nx := fun _ H' => Q .non H', rt := Q } (start N vs) H) : FnRG P w K mg base CX0 (k + 1) (He.fAd K p) sp := by
  obtain ⟨fd, F⟩ := F
  obtain ⟨oc, od, dV, kV, doc, pm, an, cdv0, ct, osl, e0, lk0, hcd0, _, _⟩ := id F.ex
  obtain ⟨c, ec⟩ := He.codeIn_ref hcd0
  have code : ∀ {oc' : Value} {od' : Option Addr} {osl' : Array (Option Value)} {fd' : FuncData}, K.lookup (He.fAd K p) = some ⟨oc', od', .func fd', osl'⟩ → fd'.code = cdv0 → cdv0 = .ref (He.cT K p).1 := by
    intro oc' od' osl' fd' l e
    show cdv0 = .ref (He.codeOf K p)
    rw [He.codeOf_eq l (e.trans ec), ec]
  have c0 : cdv0 = .ref (He.cT K p).1 := code lk0 (by rw [e0])
  intro A outer s H us vs Q E hg hr e1 r hsp
  have kin : K.In s.heap := e1.mod.kin.keeps fun b o e => (e1.bs b o e).1
  have nol : s.heap.NoLimit := e1.mod.nolimit.keeps fun b o e => (e1.bs b o e).1
  have hl : vs.length = ps.length := len _ _ _ _ hsp
  have hl' : us.length = ps.length := r.length ▸ hl
  have bs := F.bindsN B s us kin (by rw [List.append_nil]; exact hl')
  rw [List.append_nil] at bs
  subst e0
  have kinds : ∀ y ∈ ps.zip us, scope.names.lookup y.1 = some .local ∨
      (scope.names.lookup y.1 = some .cell ∧ ((cellsFrom (s.heap.objs.size + 1) scope.names []).lookup y.1).isSome = true) := by
    rintro ⟨n, v⟩ hy
    exact (S.par n (List.of_mem_zip hy).1).imp id fun q => ⟨q, PySem.W.cellsFrom_some _ _ _ (.inl q)⟩
  apply codeAny_call_function hr.depth (kin _ _ lk0) rfl S.co S.gen rfl (PySem.W.codeRec_of kin hcd0) (bs _ _ _ _ ?_)
  refine wpAny_newFunctionEnv_cells S.kind kinds fun env he s1 x1 => ?_
  subst he
  refine ⟨nol.keeps x1.toInCall.keep, codeAny_func ?_⟩
  obtain ⟨t, ht, hq⟩ := hbody cdv0 A outer s H vs Q E c0 hg (hr.deeper _) hsp
  have J0 := inv_start (CX := CX0) (P := P) (w := w) (K := K) (mg := mg) (base := base) (outer := outer) (E := E) S hr.hd e1 hl r x1
  refine wpAny_mono (ht.nox.run [] s1 _ H _ J0 hq) (fun fl s' hs => ?_) fun _ _ z => z
  match fl, hs with
  | .ret u, hs => obtain ⟨v, σ', H', J, rv, q⟩ := hs; exact ⟨v, H', J.os, J.bare, J.base, J.hok, rv, q⟩
  | .next, hs => obtain ⟨σ', H', J, q⟩ := hs; exact ⟨V.non, H', J.os, J.bare, J.base, J.hok, rfl, q⟩
  | .brk, hs => obtain ⟨_, _, _, q⟩ := hs; exact False.elim q
  | .cont, hs => obtain ⟨_, _, _, q⟩ := hs; exact False.elim q
end
end Ws

set_option Elab.async false
set_option linter.all false
set_option maxRecDepth 100000
set_option maxHeartbeats 4000000
namespace Ws
open PySem PySem.Spec PyProof.Rows PySem.W L2
section
variable {prog : Program} {w : World} {A : Around} {E : Value → Shared → Prop} {s : Shared} {T : String} {r d : Addr} {n : Nat} {Pk : Nat → Value → Prop} {OK : Heap → Prop}
/-- tuple(r), r walked as KdlSrc tells: the tuple of what the walk meets -/
theorem tuple_code {Q₁ : Value → Shared → Prop} (S : KdlSrc prog w T r d n Pk OK) (hh : A.handled = none) (hok : OK s.heap) (hn : n ≤ sizeLine)
    (h : ∀ (h' : Heap) (tk : Nat) (acc : Array Value), (∀ b o, s.heap.get? b = some o → h'.get? b = some o) → ItemsOf Pk acc n →
      Q₁ (.ref h'.objs.size) { s with heap := h'.push { cls := .type "tuple", data := .seq acc }, toks := tk }) :
    codeAny (model prog w) A (.call (.builtin "tuple.__new__") ⟨[.type "tuple", .ref r], []⟩) (wants Q₁ E) s := by
  refine codeAny_of_tree ?_
  refine wpAny_bind (wpAny_of_eq (PySem.F.newCall_tuple_1 _) (wpAny_pure ⟨plainId_quiet PySem.F.plain_tuple_new _, codeAny_builtin PySem.F.entry_tuple_new ?_⟩))
  rw [Around.under_plainId PySem.F.plain_tuple_new _]
  have q1 := PySem.sub_tuple_self
  have q2 := PySem.init_tuple_lookup
  have q3 := PySem.madeHere_tuple
  have ty : s.TypeIs (.ref r) T := S.type s hok
  have nt := S.notTuple
  have hd : A.in1.handled = none := hh
  wp_walk using wpAny_typeOf ty, kdu_collect (A := A.in1) S hd hok hn
  intro h1 t1 its kp ok1
  have sz : its.size ≤ sizeLine := by rw [ok1.1]; exact hn
  have tr : its.toList.toArray = its := Array.toArray_toList
  show wpAny _ _ (Builtin.Tuple.tupleExact its.toList.toArray >>= fun x => ret x) _ _ _
  unfold Builtin.Tuple.tupleExact
  rw [tr]
  exact wpAny_bind (wpAny_newObj_type (wpAny_pure (h h1 t1 its kp ok1)) sz)
theorem tuple_call {Q : Value → Shared → Prop} (S : KdlSrc prog w T r d n Pk OK) (hh : A.handled = none) (hok : OK s.heap) (hn : n ≤ sizeLine)
    (hQ : ∀ (h' : Heap) (tk : Nat) (acc : Array Value), (∀ b o, s.heap.get? b = some o → h'.get? b = some o) → ItemsOf Pk acc n →
      Q (.ref h'.objs.size) { s with heap := h'.push { cls := .type "tuple", data := .seq acc }, toks := tk }) :
    wpAny (model prog w) A (call (.type "tuple") [.ref r]) Q E s := by
  refine callType_codes (Q₁ := fun x s1 => s1.TypeIs x "tuple" ∧ Q x s1) PySem.F.called_tuple (PySem.F.typeCall_tuple_1 _) PySem.F.entry_object_init
    (tuple_code (A := A.in1) S hh hok hn fun h' tk acc hk hacc => ⟨⟨_, Heap.get?_push_size _ rfl, rfl⟩, hQ h' tk acc hk hacc⟩) fun x s1 q => ?_
  exact ⟨q.1, PySem.F.args_object_init_2 x _, object_init_meets PySem.F.called_tuple.init.lookup PySem.F.called_tuple.made (by decide) prog w A.in1 _ s1 ⟨q.1, rfl, q.2⟩⟩
end
/-- tuple(a dict) -/
def rTupD : List V → Hp → VK → Prop := fun xs H Q => ∃ p kvs, xs = [.ref p] ∧ H p = some (.dK kvs) ∧ kvs.length ≤ 1000 ∧ ∀ q, H q = none → Q (.ref q) (upd H q (.tup (kvs.map fun kv => kV kv.1)))
theorem call_tupD {X : Cx} (hc : X.calm = true) : CallR X (.type "tuple") rTupD := by
  intro pins s σ H xs us Q I r h
  obtain ⟨p, kvs, e, hk, hz, q⟩ := h
  subst e
  obtain ⟨u, eu, rx⟩ := vals1 r
  subst eu
  obtain rfl : u = Value.ref p := rx
  obtain ⟨z, lo, vs, rk, hd⟩ := (show ObjOk X.prog X.w H s.heap p (.dK kvs) from I.hok p _ hk)
  obtain ⟨ep, hat⟩ := hd.dictAt
  have hl : kvs.length = vs.length := Paired.length rk
  refine tuple_call (kdl_dict (knd := mixKind X.prog X.w) (kvs := vs) (ep := ep) lo) (I.ok.hd hc) hat (by rw [← hl]; exact z) fun h' tk acc hkeep hacc => ?_
  have I2 : Inv X pins σ H { s with heap := h', toks := tk } := I.kept hkeep
  refine ⟨.ref h'.objs.size, upd H h'.objs.size (.tup (kvs.map fun kv => kV kv.1)), I2.laid (fun _ _ e => Heap.get?_push_of_some _ e) (Nat.le_refl _) ⟨?_, acc.toList, ?_, ?_⟩, rfl, q _ (I2.hok.fresh (Nat.le_refl _))⟩
  · rw [List.length_map]; exact z
  · have el : acc.toList.length = acc.size := Array.length_toList
    refine vals_of_at (by rw [List.length_map, el, hacc.1, hl]) fun j x u h1 h2 => ?_
    obtain ⟨k, y, hky, hi⟩ := hacc.2 j u (by rw [← Array.getElem?_toList]; exact h2)
    have e1 : (kvs.map (·.1))[j]? = some k := by rw [KV.keys rk, List.getElem?_map, hky]; rfl
    rw [List.getElem?_map] at h1 e1
    cases g : kvs[j]? with
    | none => rw [g] at h1; cases h1
    | some kv =>
      rw [g] at h1 e1
      cases h1
      cases e1
      exact keyIs_rel hi
  · rw [Array.toArray_toList]; exact IsTup.new _ _
end Ws

set_option Elab.async false
set_option linter.all false
set_option maxRecDepth 100000
set_option maxHeartbeats 4000000
namespace Ws
open PySem PySem.Spec PyProof.Rows L2
theorem pr_at {α β : Type} {R : α → β → Prop} : ∀ {xs : List α} {ys : List β} {i : Nat} {x : α}, Paired R xs ys → xs[i]? = some x → ∃ y, ys[i]? = some y ∧ R x y
  | _, _, _, _, .nil, h => by simp at h
  | _, _, 0, _, .cons r _, h => by cases h; exact ⟨_, rfl, r⟩
  | _, _, i + 1, _, .cons _ p, h => pr_at (i := i) p h
theorem pr_atR {α β : Type} {R : α → β → Prop} : ∀ {xs : List α} {ys : List β} {i : Nat} {y : β}, Paired R xs ys → ys[i]? = some y → ∃ x, xs[i]? = some x ∧ R x y
  | _, _, _, _, .nil, h => by simp at h
  | _, _, 0, _, .cons r _, h => by cases h; exact ⟨_, rfl, r⟩
  | _, _, i + 1, _, .cons _ p, h => pr_atR (i := i) p h
theorem pr_both {α β : Type} {R : α → β → Prop} {xs : List α} {ys : List β} {i : Nat} {x : α} {y : β} (p : Paired R xs ys) (h : xs[i]? = some x) (g : ys[i]? = some y) : R x y := by
  obtain ⟨z, hz, r⟩ := pr_at p h
  rw [g] at hz
  cases hz
  exact r
section
variable {X : Cx}
/-- x in, x not in a tuple of data at any depth -/
def rInD (K : PySem.W.Frag) (neg : Bool) : R2 := fun x y H Q => ∃ a p xs d es, x = .ref a ∧ y = .ref p ∧ SqT K H p xs ∧ Dp K H x d ∧ SeqAt.shaped d = true ∧ Paired (fun (v : V) (e : PyData) => Dp K H v e ∧ SeqAt.shaped e = true ∧ ∃ b, v = .ref b) xs es ∧
  Q (.bl (if neg then !es.any (fun e => PyData.eqv e d) else es.any fun e => PyData.eqv e d)) H
theorem inD_run {pins : List (Addr × Obj)} {σ : L2.St} {H : Hp} {s : Shared} {A : Around} (I : Inv X pins σ H s) (hu : A.units + 64 < cLine) {a : Addr} {d : PyData} (hd : Dp X.K H (.ref a) d) (sd : SeqAt.shaped d = true) :
    ∀ {xs : List V} {us : List Value} {es : List PyData}, Vals xs us → Paired (fun (v : V) (e : PyData) => Dp X.K H v e ∧ SeqAt.shaped e = true ∧ ∃ b, v = .ref b) xs es →
      Paired (fun (u : Value) (e : PyData) => SeqAt.EqAt A s u (.ref a) (PyData.eqv e d)) us es
  | _, _, _, .nil, .nil => .nil
  | _, _, _, .cons r t, .cons ⟨h1, h2, b, hb⟩ p => by
    refine .cons ?_ (inD_run I hu hd sd t p)
    obtain ⟨as, r1⟩ := Dp.reads I _ _ _ hd (rfl : RelV (V.ref a) (Value.ref a))
    obtain ⟨bs, r2⟩ := Dp.reads I _ _ _ h1 r
    subst hb
    cases r
    by_cases ne : b = a
    · subst ne
      have cl := SeqAt.canLay_of_shaped sd
      have e := SeqAt.Reads.unique _ _ _ _ _ cl r1 r2
      rw [← e, SeqAt.eqv_refl _ cl]
      exact SeqAt.EqAt.same _
    exact fun prog w => SeqAt.eqP_refs ne fun E' Q' q => SeqAt.compareEq_shaped r2 r1 h2 sd hu q
theorem any_paired {A : Around} {s : Shared} {x : Value} {d : PyData} : ∀ {us : List Value} {es : List PyData}, Paired (fun (u : Value) (e : PyData) => SeqAt.EqAt A s u x (PyData.eqv e d)) us es →
    ∃ f : Value → Bool, (∀ u ∈ us, SeqAt.EqAt A s u x (f u)) ∧ us.any f = es.any fun e => PyData.eqv e d := fun {us es} p => by
  classical
  refine ⟨fun u => decide (∃ (i : Nat) (e : PyData), us[i]? = some u ∧ es[i]? = some e ∧ PyData.eqv e d = true), fun u hu => ?_, ?_⟩
  · by_cases h : ∃ (i : Nat) (e : PyData), us[i]? = some u ∧ es[i]? = some e ∧ PyData.eqv e d = true
    · obtain ⟨i, e, h1, h2, h3⟩ := id h
      have q := pr_both p h1 h2
      rw [h3] at q
      dsimp only
      rw [decide_eq_true h]
      exact q
    · obtain ⟨i, hi⟩ := List.getElem?_of_mem hu
      obtain ⟨e, he, q⟩ := pr_at p hi
      have z : PyData.eqv e d = false := by
        cases y : PyData.eqv e d with
        | false => rfl
        | true => exact absurd ⟨i, e, hi, he, y⟩ h
      rw [z] at q
      dsimp only
      rw [decide_eq_false h]
      exact q
  · rw [Bool.eq_iff_iff, List.any_eq_true, List.any_eq_true]
    constructor
    · rintro ⟨u, hu, h⟩
      obtain ⟨i, e, h1, h2, h3⟩ := of_decide_eq_true h
      exact ⟨e, List.mem_of_getElem? h2, h3⟩
    · rintro ⟨e, he, h⟩
      obtain ⟨i, hi⟩ := List.getElem?_of_mem he
      obtain ⟨u, hu, q⟩ := pr_atR p hi
      exact ⟨u, List.mem_of_getElem? hu, decide_eq_true ⟨i, e, hu, hi, h⟩⟩
theorem op_inD {n : Nat} (hr : Room n X.A) : OpR X (compareOp .In) (rInD X.K false) := by
  intro pins s σ H x y v u Q I rx ry h
  obtain ⟨a, p, xs, d, es, rfl, rfl, hp, hd, sd, pr, q⟩ := h
  cases rx
  cases ry
  obtain ⟨its, r, pl, hz⟩ := I.tuple hp
  obtain ⟨f, f1, f2⟩ := any_paired (inD_run (A := X.A.in1) I (by have := hr.un; show X.A.units + 1 + 64 < cLine; omega) hd sd r pr)
  refine SeqAt.in_tupleAt f pl (fun w hw => f1 w (by simpa using hw)) ⟨.bl _, H, I, rfl, ?_⟩
  rw [show its.toArray.any f = its.any f by simp, f2]
  exact q
theorem op_notInD {n : Nat} (hr : Room n X.A) : OpR X (compareOp .NotIn) (rInD X.K true) := by
  intro pins s σ H x y v u Q I rx ry h
  obtain ⟨a, p, xs, d, es, rfl, rfl, hp, hd, sd, pr, q⟩ := h
  cases rx
  cases ry
  obtain ⟨its, r, pl, hz⟩ := I.tuple hp
  obtain ⟨f, f1, f2⟩ := any_paired (inD_run (A := X.A.in1) I (by have := hr.un; show X.A.units + 1 + 64 < cLine; omega) hd sd r pr)
  refine SeqAt.notIn_tupleAt f pl (fun w hw => f1 w (by simpa using hw)) ⟨.bl _, H, I, rfl, ?_⟩
  rw [show its.toArray.any f = its.any f by simp, f2]
  exact q
/-- a list == [], a list != [] -/
def rEqNil (K : PySem.W.Frag) (neg : Bool) : R2 := fun x y H Q => ∃ p q xs, x = .ref p ∧ y = .ref q ∧ SqL K H p xs ∧ SqL K H q [] ∧ Q (.bl (if neg then !xs.isEmpty else xs.isEmpty)) H
theorem nil_sizes {xs : List V} {us vs : List Value} (r : Vals xs us) (r2 : Vals ([] : List V) vs) : (us.toArray.size = vs.toArray.size ∧ xs.isEmpty = true ∧ us.toArray.size = 0) ∨ ((us.toArray.size != vs.toArray.size) = true ∧ xs.isEmpty = false) := by
  cases r2
  cases r with
  | nil => exact .inl ⟨rfl, rfl, rfl⟩
  | cons _ _ => exact .inr ⟨by simp, rfl⟩
theorem op_eqNil {n : Nat} (hr : Room n X.A) : OpR X (compareOp .Eq) (rEqNil X.K false) := by
  intro pins s σ H x y v u Q I rx ry h
  obtain ⟨p, q, xs, rfl, rfl, hp, hq, hQ⟩ := h
  cases rx
  cases ry
  have hu : X.A.units < cLine := by have := hr.un; omega
  obtain ⟨us, r, l1, _⟩ := I.list hp
  obtain ⟨vs, r2, l2, _⟩ := I.list hq
  rcases nil_sizes r r2 with ⟨e1, e2, e3⟩ | ⟨e1, e2⟩
  · rw [e2] at hQ
    refine SeqAt.RcAt.lists (e := fun _ => true) l1.isList l2.isList e1 hu (fun j h1 => by omega) _ _ _ _ ⟨.bl true, H, I, ?_, hQ⟩
    rw [e3]
    rfl
  · rw [e2] at hQ
    exact SeqAt.RcAt.lists_lengths l1.isList l2.isList e1 hu _ _ _ _ ⟨.bl false, H, I, rfl, hQ⟩
theorem op_neNil {n : Nat} (hr : Room n X.A) : OpR X (compareOp .NotEq) (rEqNil X.K true) := by
  intro pins s σ H x y v u Q I rx ry h
  obtain ⟨p, q, xs, rfl, rfl, hp, hq, hQ⟩ := h
  cases rx
  cases ry
  have hu : X.A.units < cLine := by have := hr.un; omega
  obtain ⟨us, r, l1, _⟩ := I.list hp
  obtain ⟨vs, r2, l2, _⟩ := I.list hq
  rcases nil_sizes r r2 with ⟨e1, e2, e3⟩ | ⟨e1, e2⟩
  · rw [e2] at hQ
    refine SeqAt.RcNeAt.lists (e := fun _ => true) l1.isList l2.isList e1 hu (fun j h1 => by omega) _ _ _ _ ⟨.bl false, H, I, ?_, hQ⟩
    rw [e3]
    rfl
  · rw [e2] at hQ
    exact SeqAt.RcNeAt.lists_lengths l1.isList l2.isList e1 hu _ _ _ _ ⟨.bl true, H, I, rfl, hQ⟩
end
end Ws

set_option Elab.async false
set_option linter.all false
set_option maxRecDepth 100000
set_option maxHeartbeats 4000000
namespace Ws
open PySem PySem.Spec PyProof.Rows L2
/-- f(k = v, ..) -/
def tCallKw (l : Nat) (sp : Sp) (E : XK) (tk : TA) : TE := fun σ H Q => tk σ H fun zs H2 => zs.length = l ∧ sp zs H2 Q E
section
variable {X : Cx} {CX : CXT} {k : Nat} {f C : Addr} {ks : List Str} {sp : Sp} {E : XK} {x : Str} {p pos : Pos} {kws : List Keyword} {tk : TA}
theorem pe_callKw0 (F : FnRK X.prog X.w X.K X.mg X.base CX k f 0 ks sp) (hr : Room k X.A) (hg : Gl X x) (hm : X.mg x = some (.ref f)) (hk : PySem.W.keepIn X.K (.ref f) = true) (hx : Passes CX X E)
    (hkw : PK X kws tk) (hall : (backToKw pos (keywordEach kws X.env)).all (·.1.isSome) = true := by rfl) (hks : (backToKw pos (keywordEach kws X.env)).filterMap (·.1) = ks := by rfl)
    (hdb : (x == ("__debug__" : Str)) = false := by decide) (hpl : ((backTo pos (starEach [] X.env)).any (·.1) || (backToKw pos (keywordEach kws X.env)).any (·.1.isNone)) = false := by rfl) :
    PE X (.Call (.Name x p) [] kws pos) (tCallKw ks.length sp E tk) := by
  constructor
  intro pins s σ H Q I h
  refine wpAny_Call_Name_kw (ld_glob I hg hm (PySem.W.callWith_KW0 (h₀ := X.base) I.ok.mod.kin hk hall ?_ hpl) hdb)
  refine thn (hkw.run pos pins s σ H _ I h) fun ws s2 ⟨zs, H2, I2, rz, l2, q2⟩ => ⟨I2.kIn, ?_⟩
  rw [hks]
  apply wpAny_call
  refine codeAny_mono (F X.A X.stack s2 H2 [] ws [] zs Q E hr I2.env0 .nil rz rfl l2 q2) fun r s' hq => ?_
  match r, hq with
  | .error e, hq => exact hx pins σ H2 s2 e s' I2 hq
  | .ok (.ret u), hq => exact I2.after hq
  | .ok .next, hq => exact False.elim hq
  | .ok .brk, hq => exact False.elim hq
  | .ok .cont, hq => exact False.elim hq
/-- C() -/
theorem pe_makeR0 (M : Mk X.K C f) (F : FnR X.prog X.w X.K X.mg X.base CX k f sp) (hr : Room (k + 1) X.A) (hg : Gl X x) (hm : X.mg x = some (.ref C)) (hx : Passes CX X E) (hdb : (x == ("__debug__" : Str)) = false := by decide) :
    PE X (.Call (.Name x p) [] [] pos) (StX.tMakeR C sp E tNil) := by
  refine ⟨fun pins s σ H Q I h => ?_⟩
  refine wpAny_Call_Name_kw (ld_glob I hg hm ?_ hdb)
  exact PySem.W.callWith_K0 I.kIn M.kp (StX.run_makeR (us := []) (vs := []) M F hr hx I .nil h)
end
end Ws

set_option Elab.async false
set_option linter.all false
set_option maxRecDepth 100000
set_option maxHeartbeats 4000000
namespace Ws
open PySem PySem.Spec PyProof.Rows L2 PySem.W
section
variable {prog : Program} {w : World} {A : Around} {s : Shared}
/-- two tuples of alike data, as the plain sort compares them -/
theorem oneLt_tup {xs ys : List PyData} {a b : Value} {as bs : List Addr} {Q : Bool → Shared → Prop} {E : Value → Shared → Prop} (ra : PySem.Reads s.heap a (.tuple xs) as) (rb : PySem.Reads s.heap b (.tuple ys) bs) (h : alike (.tuple xs) (.tuple ys) = true)
    (hu : A.units + min (PyData.tuple xs).depth (PyData.tuple ys).depth < cLine) (hq : Q (dataLt (.tuple xs) (.tuple ys)) s) : wpAny (model prog w) A (oneLt' true a b) Q E s := by
  have hal : alikeAll xs ys = true := by simpa [alike] using h
  cases ra with
  | @tuple l o vs n _ _ h1 h2 h3 h4 =>
  cases rb with
  | @tuple l' o' vs' n' _ _ k1 k2 k3 k4 =>
  obtain ⟨cls, dd, data, sl⟩ := o
  obtain ⟨cls', dd', data', sl'⟩ := o'
  simp only at h2 h3 k2 k3
  subst h2 h3 k2 k3
  have n1 : vs.size = xs.length := by simpa using PySem.SeqAt.ReadsAll.length _ _ _ h4
  have n2 : vs'.size = ys.length := by simpa using PySem.SeqAt.ReadsAll.length _ _ _ k4
  rw [dataLt_tuple, ← firstLt_toks xs ys hal, ← n1, ← n2] at hq
  rw [oneLt'_eq]
  simp only [if_true]
  refine wpAny_bind (wpAny_cRoomFor (by omega) (wpAny_bind (wpAny_callSpecialIfBound?_slot (T := "tuple") ⟨_, h1, rfl⟩ F.slot_tuple_lt
    (call_meets F.slot_tuple_lt ⟨_, h1, rfl⟩ F.entry_tuple_lt (F.args_tuple_lt_2 _ _) (PySem.SeqAt.tuple_ltAt l l' vs vs' n n' dd dd' sl sl' (PySem.SeqAt.pairEq xs ys) fun j => dataLt (xs.getD j .none) (ys.getD j .none)) ⟨h1, k1, fun j j1 j2 => ?_, fun j j1 j2 hj => ?_, ?_⟩))))
  · exact eqAt_alikeAll xs ys A.in1 s vs.toList vs'.toList _ _ h4 k4 hal (PySem.SeqAt.room_in hu) j (by simpa using j1) (by simpa using j2)
  · exact rcLt_alikeAll xs ys A.in1 s vs.toList vs'.toList _ _ h4 k4 hal (PySem.SeqAt.room_in hu) j (by simpa using j1) (by simpa using j2) hj
  · exact wpAny_truthy_bool hq
/-- tuples, the first of them empty -/
def EmptyFirst (ds : List PyData) : Prop := (∃ r, ds = .tuple [] :: r) ∧ ∀ d ∈ ds, ∃ xs, d = .tuple xs
theorem first_run {M : Model} {E : Value → Shared → Prop} : ∀ {vs : List Value} {ds : List PyData}, EachIs (fun v d => ∃ as, PySem.Reads s.heap v d as) vs ds → (∀ d ∈ ds, ∃ xs, d = .tuple xs) →
    ∃ fs : List (Option Value), (∀ r, ds = .tuple [] :: r → ∃ r', fs = none :: r') ∧ ∀ {Q : List (Option Value) → Shared → Prop}, Q fs s → wpAny M A (vs.mapM firstOfTuple') Q E s
  | _, _, .nil, _ => ⟨[], fun r e => (by cases e), fun {Q} q => by rw [List.mapM_nil]; exact wpAny_pure q⟩
  | _, _, .cons (b := d) ⟨as, r⟩ t, ht => by
    obtain ⟨xs, rfl⟩ := ht d List.mem_cons_self
    obtain ⟨fs, _, run⟩ := first_run t fun d hd => ht d (List.mem_cons_of_mem _ hd)
    cases r with
    | @tuple a o vs n _ _ ho hc hd hr =>
      refine ⟨vs[0]? :: fs, fun r e => ?_, fun {Q} q => ?_⟩
      · have e1 : xs = [] := by injection e with e; injection e
        subst e1
        refine ⟨fs, ?_⟩
        have : vs.toList = [] := List.eq_nil_of_length_eq_zero (by simpa using PySem.SeqAt.ReadsAll.length _ _ _ hr)
        have e2 : vs[0]? = none := by rw [← Array.getElem?_toList, this]; rfl
        rw [e2]
      · rw [List.mapM_cons, kas_first_eq]
        refine wpAny_bind (wpAny_bind (Looks.here (show Looks M s.heap (typeOf (.ref a)) o.cls from (Looks.ld ho).andThen .now) ?_))
        rw [hc, if_neg (by simp)]
        exact wpAny_bind (listItems_at ho hd (wpAny_pure (wpAny_bind (run (wpAny_pure q)))))
theorem sorts_empty {vs : List Value} {ds : List PyData} (e : EachIs (fun v d => ∃ as, PySem.Reads s.heap v d as) vs ds) (hal : AllAlike ds) (hk : EmptyFirst ds) (hu : ∀ d, d ∈ ds → A.units + d.depth < cLine) : SortsAt prog w A s (dataKind s.heap ds) vs := by
  refine ⟨fun v hv => ?_, oneType', fun E x y a b Q ha hb hq => ?_, fun h2 E Q hq => ?_⟩
  · obtain ⟨d, hd, as, r⟩ := e.left v hv
    exact ⟨_, dataKind_some hal hd r⟩
  · obtain ⟨d, as, hd, ra, rfl⟩ := dataKind_inv ha
    obtain ⟨d', bs, hd', rb, rfl⟩ := dataKind_inv hb
    obtain ⟨xs, rfl⟩ := hk.2 d hd
    obtain ⟨ys, rfl⟩ := hk.2 d' hd'
    rw [keyLt'_oneType]
    exact oneLt_tup ra rb (hal _ hd _ hd') (Nat.lt_of_le_of_lt (Nat.add_le_add_left (Nat.min_le_left _ _) _) (hu _ hd)) hq
  · obtain ⟨⟨r, rfl⟩, ht⟩ := hk
    obtain ⟨fs, f1, f2⟩ := first_run (M := model prog w) (A := A) (E := E) e ht
    obtain ⟨r', rfl⟩ := f1 _ rfl
    rw [kat_kind_eq, List.mapM_toArray, map_eq_pure_bind]
    refine wpAny_bind (wpAny_bind (f2 (wpAny_pure ?_)))
    rw [if_neg (by simp), if_neg (by simp), oneTypeOnly'_eq, List.mapM_toArray, map_eq_pure_bind]
    have ty : ∀ v ∈ vs, Looks (model prog w) s.heap (typeOf v) (.type "tuple") := fun v hv => by
      obtain ⟨d, hd, as, q⟩ := e.left v hv
      obtain ⟨xs, rfl⟩ := ht d hd
      exact looks_reads q
    refine wpAny_bind (wpAny_bind (wpAny_bind (kas_mapM (r := Value.type "tuple") _ (fun v hv Q' q => (ty v hv).here q) (wpAny_pure ?_))))
    have all : ((vs.map fun _ => Value.type "tuple").toArray.all fun x => x == Value.type "tuple") = true := by simp
    have h0 : (vs.map fun _ => Value.type "tuple").toArray[0]? = some (Value.type "tuple") := by
      cases vs with
      | nil => simp at h2
      | cons v vs => simp
    rw [h0]
    simp only [all, if_true]
    exact wpAny_pure (wpAny_pure hq)
def SortX (ds : List PyData) : Prop := Sortable ds ∨ EmptyFirst ds
theorem sorts_x {vs : List Value} {ds : List PyData} (e : EachIs (fun v d => ∃ as, PySem.Reads s.heap v d as) vs ds) (hal : AllAlike ds) (hk : SortX ds) (hu : ∀ d, d ∈ ds → A.units + d.depth < cLine) : SortsAt prog w A s (dataKind s.heap ds) vs :=
  hk.elim (fun h => SortsAt.data e hal h hu) fun h => sorts_empty e hal h hu
end
/-- by the order of the data -/
def DUp (p q : V × PyData) : Prop := dataLt q.2 p.2 = false
section
variable {K : PySem.W.Frag} {H : Hp}
theorem dpAll_zip : ∀ {xs : List V} {ds : List PyData}, DpAll K H xs ds → xs.length = ds.length ∧ ∀ p ∈ xs.zip ds, Dp K H p.1 p.2
  | _, _, .nil => ⟨rfl, fun p hp => by simp at hp⟩
  | _, _, .cons h t => by
    obtain ⟨h1, h2⟩ := dpAll_zip t
    refine ⟨by simp [h1], fun p hp => ?_⟩
    rw [List.zip_cons_cons] at hp
    rcases List.mem_cons.mp hp with rfl | hp
    · exact h
    · exact h2 p hp
end
section
variable {X : Cx} {pins : List (Addr × Obj)} {σ : L2.St} {H : Hp} {s : Shared}
/-- values and their data -/
theorem each_vd (I : Inv X pins σ H s) : ∀ {xs : List V} {its : List Value} {ds : List PyData}, Vals xs its → DpAll X.K H xs ds → EachIs (fun v d => ∃ as, PySem.Reads s.heap v d as) its ds ∧ EachIs (fun v (b : V × PyData) => RelV b.1 v) its (xs.zip ds)
  | _, _, _, .nil, .nil => ⟨.nil, .nil⟩
  | _, _, _, .cons r t, .cons h q => by
    obtain ⟨h1, h2⟩ := each_vd I t q
    exact ⟨.cons (Dp.reads I _ _ _ h r) h1, .cons r h2⟩
theorem each_kd {h : Heap} {ds0 : List PyData} (hal : AllAlike ds0) : ∀ {its : List Value} {ds : List PyData} {xs : List V}, EachIs (fun v d => ∃ as, PySem.Reads h v d as) its ds → (∀ d ∈ ds, d ∈ ds0) → xs.length = ds.length →
    EachIs (fun v (b : V × PyData) => (dataKind h ds0).keyOf v = some (keyToks b.2)) its (xs.zip ds)
  | _, _, xs, .nil, _, hl => by
    cases xs with
    | nil => exact .nil
    | cons => simp at hl
  | _, _, xs, .cons (b := d) ⟨as, r⟩ t, hm, hl => by
    cases xs with
    | nil => simp at hl
    | cons x xs => exact .cons (dataKind_some hal (hm d List.mem_cons_self) r) (each_kd hal t (fun d hd => hm d (List.mem_cons_of_mem _ hd)) (by simpa using hl))
theorem each_vals : ∀ {out : List Value} {es : List (V × PyData)}, EachIs (fun v (b : V × PyData) => RelV b.1 v) out es → Vals (es.map (·.1)) out
  | _, _, .nil => .nil
  | _, _, .cons r t => .cons r (each_vals t)
/-- what sorting leaves -/
theorem sort_out {h : Heap} {xs : List V} {its : List Value} {ds : List PyData} (hal : AllAlike ds) (hl : xs.length = ds.length) (e1 : EachIs (fun v (b : V × PyData) => RelV b.1 v) its (xs.zip ds)) (e2 : EachIs (fun v d => ∃ as, PySem.Reads h v d as) its ds) :
    ∃ es : List (V × PyData), Vals (es.map (·.1)) (sortVals (dataKind h ds) false its its) ∧ es.Perm (xs.zip ds) ∧ es.Pairwise DUp := by
  have k := each_kd hal e2 (fun d hd => hd) hl
  have out := sortVals_each (rev := false) (κ := dataKind h ds) (fun b : V × PyData => keyToks b.2) e1 k
  have T := sortLe_total (dataKind h ds).toKeyOrd false fun b : V × PyData => keyToks b.2
  refine ⟨_, each_vals out, List.mergeSort_perm _ _, ?_⟩
  refine (List.pairwise_mergeSort (fun a b c h1 h2 => T.trans a b c h1 h2) (fun a b => by rcases T.total a b with q | q <;> simp [q]) (xs.zip ds)).imp fun {a b} q => ?_
  have q : (!PyProof.Rows.lexLt itemOrd (keyToks b.2) (keyToks a.2)) = true := q
  show PyProof.Rows.lexLt itemOrd (keyToks b.2) (keyToks a.2) = false
  simpa using q
end
section
variable {X : Cx}
/-- sorted(xs), xs a list of alike data -/
def rSortDat (K : PySem.W.Frag) : List V → Hp → VK → Prop := fun vs H Q => ∃ (a : Addr) (xs : List V) (ds : List PyData), vs = [V.ref a] ∧ SqL K H a xs ∧ DpAll K H xs ds ∧ AllAlike ds ∧ SortX ds ∧ (∀ d ∈ ds, d.depth ≤ 50) ∧
  ∀ (es : List (V × PyData)) (p : Addr), es.Perm (xs.zip ds) → es.Pairwise DUp → H p = none → Q (.ref p) (upd H p (.lst (es.map (·.1))))
theorem call_sortDat {n : Nat} (hr : Room n X.A) : CallR X (.builtin "sorted") (rSortDat X.K) := by
  intro pins s σ H vs us Q I r h
  obtain ⟨a, xs, ds, rfl, hs, hd, hal, hk, hdp, q⟩ := h
  obtain ⟨its, rv, hl, hz⟩ := I.list hs
  rw [Vals.ref1 r]
  have un := hr.units
  obtain ⟨e1, e2⟩ := each_vd I rv hd
  have lz := (dpAll_zip hd).1
  have li : its.length ≤ sizeLine := by rw [← rv.length]; exact hz
  have up : ∀ b o, s.heap.get? b = some o → (PySem.W.sortingHeap (PySem.W.copyHeap s.heap its) (s.heap.objs.size + 1) its).get? b = some o := fun b o e => sorting_copy_old e
  have e1' := e1.mono fun v d ⟨as, q⟩ => (⟨as, PyProof.Rows.Reads.keeps up q⟩ : ∃ as, PySem.Reads _ v d as)
  refine PySem.W.sorted_vals hl.isList (sorts_x e1' hal hk fun d hd => ?_) li ?_
  · have := hdp d hd
    show X.A.units + 1 + 1 + d.depth < cLine
    omega
  · obtain ⟨es, g1, g2, g3⟩ := sort_out hal lz e2 e1'
    obtain ⟨ep, he⟩ := sortedAll_at s.heap its (sortVals (dataKind (PySem.W.sortingHeap (PySem.W.copyHeap s.heap its) (s.heap.objs.size + 1) its) ds) false its its).toArray
    have n1 : (es.map (·.1)).length ≤ sizeLine := by
      rw [List.length_map, g2.length_eq, List.length_zip]
      omega
    exact ⟨.ref _, upd H (s.heap.objs.size + 1) (.lst (es.map (·.1))), I.laid (t' := s.toks) (fun _ _ => sortedAll_old) (Nat.le_succ _) ⟨n1, _, ep, g1, he⟩, rfl, q es _ g2 g3 (I.hok.fresh (Nat.le_succ _))⟩
end
end Ws

set_option Elab.async false
set_option linter.all false
set_option maxRecDepth 100000
set_option maxHeartbeats 4000000
namespace Ws
open PySem PySem.Spec PyProof.Rows L2 PySem.W
/-- a key as data -/
def keyD : L2.Key → PyData
  | .inl i => .int i
  | .inr x => .str x
def keyTD (k : List L2.Key) : PyData := .tuple (k.map keyD)
section
variable {K : PySem.W.Frag} {H : Hp}
theorem keys_dp : ∀ k : List L2.Key, DpAll K H (k.map kV) (k.map keyD)
  | [] => .nil
  | .inl i :: k => .cons (.int i) (keys_dp k)
  | .inr x :: k => .cons (.str x) (keys_dp k)
theorem isKeys_dp : ∀ {kvs : List (List L2.Key × V)} {bs : List Addr}, IsKeys H kvs bs → DpAll K H (bs.map V.ref) (kvs.map fun p => keyTD p.1)
  | _, _, .nil => .nil
  | _, _, .cons h t => .cons (.tup (SqT.of h) (keys_dp _)) (isKeys_dp t)
theorem keys_depth : ∀ k : List L2.Key, PyData.depthAll (k.map keyD) = 0
  | [] => rfl
  | .inl i :: k => by
    simp only [List.map_cons, PyData.depthAll, keyD, PyData.depth, keys_depth k]
    rfl
  | .inr x :: k => by
    simp only [List.map_cons, PyData.depthAll, keyD, PyData.depth, keys_depth k]
    rfl
end
theorem refs_vals : ∀ bs : List Addr, Vals (bs.map V.ref) (bs.map Value.ref)
  | [] => .nil
  | _ :: bs => .cons rfl (refs_vals bs)
section
variable {X : Cx}
/-- sorted(d), d's keys alike tuples -/
def rSortDT : List V → Hp → VK → Prop := fun vs H Q => ∃ (d : Addr) (kvs : List (List L2.Key × V)), vs = [V.ref d] ∧ Rd H d (.dT kvs) ∧ AllAlike (kvs.map fun p => keyTD p.1) ∧ SortX (kvs.map fun p => keyTD p.1) ∧
  ∀ (bs : List Addr) (es : List (V × PyData)) (p : Addr), IsKeys H kvs bs → es.Perm ((bs.map V.ref).zip (kvs.map fun p => keyTD p.1)) → es.Pairwise DUp → H p = none → Q (.ref p) (upd H p (.lst (es.map (·.1))))
theorem call_sortDT (hc : X.calm = true) {n : Nat} (hr : Room n X.A) : CallR X (.builtin "sorted") rSortDT := by
  intro pins s σ H vs us Q I r h
  obtain ⟨d, kvs, rfl, hd, hal, hk, q⟩ := h
  rw [Vals.ref1 r]
  have un := hr.units
  obtain ⟨z, hs, ks, pr, o, es, ep, ho, hx, hdt, he, hn⟩ := (show ObjOk X.prog X.w H s.heap d (.dT kvs) from hd.ok I.hok)
  have l1 : es.size = ks.length := by rw [← Array.length_toList, he, List.length_map]
  have l2 : kvs.length = ks.length := Paired.length pr
  refine Calls.call_function_entry kind_sorted plain_sorted entry_sorted (args_sorted1 _) ?_
  unfold Builtin.«sorted»
  refine wpAny_bind (m := checkCount "sorted" 1 1 _) (wpAny_pure (wpAny_bind (PySem.W.kdu_collect (A := X.A.in1) (kdl_raw hs hx hdt) (I.ok.hd hc) ho (by omega) fun h' tk acc kp items => ?_)))
  have ea : acc.toList = (ks.map fun x => x.2.1).map Value.ref := by
    refine List.ext_getElem? fun j => ?_
    have hz : acc.toList.length = ks.length := by rw [Array.length_toList, items.1, l1]
    rw [List.getElem?_map, List.getElem?_map]
    cases hj : acc.toList[j]? with
    | none =>
      rw [List.getElem?_eq_none (by have := List.getElem?_eq_none_iff.mp hj; omega)]
      rfl
    | some v =>
      obtain ⟨en, hen, hv⟩ := items.2 j v (by rw [← Array.getElem?_toList]; exact hj)
      have e2 : (ks.map (entryOfKey (tupleKind (mixKind X.prog X.w))))[j]? = some en := by rw [← he, Array.getElem?_toList]; exact hen
      rw [List.getElem?_map] at e2
      cases hb : ks[j]? with
      | none => rw [hb] at e2; cases e2
      | some b =>
        rw [hb] at e2
        rw [hv, ← Option.some.inj e2]
        rfl
  have I1 : L2.Inv X pins σ H { s with heap := h', toks := tk } := I.kept kp
  have ik : IsKeys H kvs (ks.map fun x => x.2.1) := isKeys_of pr
  have rv : Vals ((ks.map fun x => x.2.1).map V.ref) acc.toList := by rw [ea]; exact refs_vals _
  obtain ⟨e1, e2⟩ := each_vd I1 rv (isKeys_dp ik)
  have la : acc.toList.length = ks.length := by rw [ea, List.length_map, List.length_map]
  refine wpAny_bind (wpAny_newList ?_ (by rw [la]; omega))
  have hoL : (h'.push (seqObj "list" acc.toList.toArray 0)).get? h'.objs.size = some (seqObj "list" acc.toList.toArray 0) := Heap.get?_push_size _ rfl
  have up : ∀ b o, h'.get? b = some o → (PySem.W.sortingHeap (h'.push (seqObj "list" acc.toList.toArray 0)) h'.objs.size acc.toList).get? b = some o := fun b o e => sortingHeap_old (Nat.ne_of_lt (Heap.lt_size e)) (Heap.get?_push_of_some _ e)
  have e1' := e1.mono fun v d ⟨as, q⟩ => (⟨as, PyProof.Rows.Reads.keeps up q⟩ : ∃ as, PySem.Reads _ v d as)
  obtain ⟨zs, g1, g2, g3⟩ := sort_out hal (by rw [List.length_map, List.length_map, List.length_map]; omega) e2 e1'
  show wpAny _ _ _ _ _ { s with heap := h'.push (seqObj "list" acc.toList.toArray 0), toks := tk }
  refine wpAny_bind (wpAny_holding (wpAny_call_entry slot_list_sort ⟨_, hoL, rfl⟩ entry_list_sort
    (PySem.W.list_sort_vals (s := { s with heap := h'.push (seqObj "list" acc.toList.toArray 0), toks := tk }) hoL (sorts_x e1' hal hk fun d hd => ?_) (by rw [la]; omega) ⟨_, rfl, ?_⟩) (args_list_sort _)))
  · obtain ⟨p, _, rfl⟩ := List.mem_map.mp hd
    have : (keyTD p.1).depth ≤ 1 := by simp only [keyTD, PyData.depth, keys_depth]; omega
    show X.A.units + 1 + 1 + (keyTD p.1).depth < cLine
    omega
  · obtain ⟨e', he'⟩ := PyProof.Rows.sortedHeap_at (vs := acc.toList) (out := (sortVals (dataKind (PySem.W.sortingHeap (h'.push (seqObj "list" acc.toList.toArray 0)) h'.objs.size acc.toList) (kvs.map fun p => keyTD p.1)) false acc.toList acc.toList).toArray) hoL
    have n1 : (zs.map (·.1)).length ≤ sizeLine := by
      rw [List.length_map, g2.length_eq, List.length_zip]
      simp only [List.length_map]
      omega
    refine wpAny_pure ⟨_, rfl, .ref h'.objs.size, upd H h'.objs.size (.lst (zs.map (·.1))), I1.laid (t' := tk) (fun b u e => ?_) (Nat.le_refl _) ⟨n1, _, e', g1, he'⟩, rfl, q _ zs _ ik g2 g3 (I1.hok.fresh (Nat.le_refl _))⟩
    have hb : b < h'.objs.size := Heap.lt_size e
    rw [PyProof.Rows.sortedHeap_old (Nat.ne_of_lt hb) (by rw [size_push']; exact Nat.lt_succ_of_lt hb)]
    exact Heap.get?_push_of_some _ e
end
end Ws

set_option Elab.async false
set_option linter.all false
set_option maxRecDepth 100000
set_option maxHeartbeats 4000000
namespace Ws
open PySem PySem.Spec PyProof.Rows L2
open AutoSeq1 (wpAny_loadPart')
theorem meets_enumT (t : Addr) (o : Obj) (items : Array Value) :
    Meets (Builtin.«enumerate.__new__» ⟨[.type "enumerate", .ref t], []⟩) (fun _ R s => s.heap.get? t = some o ∧ s.heap.IsTuple t items ∧
      R (.ok (.ret (.ref (s.heap.push { cls := .type "tuple_iterator", data := .fields #[.ref t, .int 0 0] }).objs.size)))
        { s with heap := (s.heap.push { cls := .type "tuple_iterator", data := .fields #[.ref t, .int 0 0] }).push { cls := .type "enumerate", data := .fields #[.none, .bool false, .ref s.heap.objs.size, rawInt 0, .none, .none] } }) :=
  .of_wp fun prog w A R s h => by
    obtain ⟨hp, g, d, tk, os⟩ := s
    obtain ⟨ho, hT, h⟩ := h
    have hsub := sub_enumerate
    wp_walk using wpAny_loadPart' ho
    refine wpAny_stack_any fun st => wpAny_pure ?_
    split
    · rename_i c _ _ _ _ _
      cases (c == Value.type "enumerate")
      · wp_walk using wpAny_loadPart' ho, wpAny_pyIter_tuple hT
        exact ⟨_, rfl, h⟩
      · wp_walk using wpAny_loadPart' ho, wpAny_pyIter_tuple hT
        exact ⟨_, rfl, h⟩
    · wp_walk using wpAny_loadPart' ho, wpAny_pyIter_tuple hT
      exact ⟨_, rfl, h⟩
theorem call_enumT {prog : Program} {w : World} {A : Around} {E : Value → Shared → Prop} {s : Shared} {t : Addr} {items : Array Value} {Q : Value → Shared → Prop} (hT : s.heap.IsTuple t items)
    (h : ∀ h', IsEnum h' (s.heap.objs.size + 1) s.heap.objs.size 0 .none → h'.IsTupleIter s.heap.objs.size t 0 → h'.objs.size = s.heap.objs.size + 2 →
      (∀ b o, s.heap.get? b = some o → h'.get? b = some o) → Q (.ref (s.heap.objs.size + 1)) { s with heap := h' }) :
    wpAny (model prog w) A (call (.type "enumerate") [.ref t]) Q E s := by
  obtain ⟨o, ho, _⟩ := id hT
  refine callType_new F.called_enumerate (by decide) (F.typeCall_enumerate_1 _) (F.newCall_enumerate_1 _) (fun obj => F.args_object_init_2 obj _) F.entry_enumerate_new (meets_enumT t o items) ⟨ho, hT, ?_⟩
  have z : ∀ q : Obj, (s.heap.push q).objs.size = s.heap.objs.size + 1 := fun q => Heap.size_push ..
  rw [z]
  generalize hq : ({ cls := .type "tuple_iterator", data := .fields #[.ref t, .int 0 0] } : Obj) = q
  have g : (s.heap.push q).get? s.heap.objs.size = some q := Heap.get?_push_size _ (by rw [← hq]; rfl)
  have e := Heap.get?_push_size (s.heap.push q) (o := { cls := .type "enumerate", data := .fields #[.none, .bool false, .ref s.heap.objs.size, rawInt 0, .none, .none] }) rfl
  rw [z] at e
  exact ⟨⟨_, e, rfl⟩, h _ e ⟨q, Heap.get?_push_of_some _ g, by subst hq; rfl, by subst hq; rfl⟩ (by rw [Heap.size_push, z]) fun b o x => Heap.get?_push_of_some _ (Heap.get?_push_of_some _ x)⟩
/-- the items of the tuple at a with their numbers -/
def IteT (K : PySem.W.Frag) (a : Addr) : It :=
  ⟨fun i H => ∃ (xs : List V) (x : V), SqT K H a xs ∧ xs[i]? = some x, fun i H v H' => ∃ T x, v = .ref T ∧ H T = none ∧ H' = upd H T (.tup [.int (i : Nat), x]) ∧ ∀ xs, SqT K H a xs → xs[i]? = some x, fun i H => ∃ xs : List V, SqT K H a xs ∧ xs.length ≤ i⟩
theorem turn_enumT {P : Program} {w : World} {K : PySem.W.Frag} {elts : List Expr} {kk : Nat} {tpos : Pos} (a e it : Addr) (its : List Value) (hai : a ≠ it) (hea : e ≠ a) :
    Turn P w K (.Tuple elts kk tpos) (IteT K a) [e, it] e (fun i h => (∃ old, IsEnum h e it ((i : Nat) : Int) old) ∧ h.IsTupleIter it a i ∧ e ≠ it) where
  mem := by simp
  obj := fun i h st b hb => by
    obtain ⟨⟨was, he⟩, ⟨q, hq, _, hd⟩, _⟩ := st
    rcases (by simpa using hb : b = e ∨ b = it) with z | z
    · exact ⟨_, by rw [z]; exact he, fun v y => by cases y⟩
    · exact ⟨q, by rw [z]; exact hq, fun v y => by rw [hd] at y; cases y⟩
  keep := fun i h h' ⟨⟨old, he⟩, hi, hne⟩ k => ⟨⟨old, k e (by simp) _ he⟩, hi.at fun o q => k it (by simp) o q, hne⟩
  item := by
    intro X hP hw hK hc i pins s σ H E I hf st hg
    subst hP hw hK
    obtain ⟨⟨was, he⟩, hit, hne⟩ := st
    obtain ⟨xs, x, hq, hx⟩ := hg
    obtain ⟨its, rv, tp, _⟩ := I.tuple hq
    obtain ⟨u, hu, rel⟩ := rv.get hx
    have lte : e < s.heap.objs.size := Heap.lt_size he
    have lti : it < s.heap.objs.size := by obtain ⟨_, q, _⟩ := hit; exact Heap.lt_size q
    have hlt : i < its.toArray.size := by
      have := (List.getElem?_eq_some_iff.mp hu).1
      simpa using this
    refine wpAny_pyNext_enum_itemD (Draws.tuple (A := X.A.in1) (I.ok.hd hc) it a hai its.toArray) he ⟨hit, tp⟩ hlt hne (by simp [hne, hea]) fun y h' tk hy ho hit' hT hsz hk => ?_
    have hy : y = u := by
      have : its[i]? = some y := by simpa using hy
      rw [hu] at this
      exact (Option.some.inj this).symm
    subst hy
    refine ⟨_, rfl, wpAny_letOwnedTupleGo_enum (s := { s with heap := h', toks := tk + 1 }) ho fun h'' he' sb => ?_⟩
    have hT2 : h''.get? s.heap.objs.size = some { cls := .type "tuple", data := .seq #[.int i tk, y] } := (sb.2 _ (Nat.ne_of_gt lte)).trans hT
    have obj : ObjOk X.prog X.w (upd H s.heap.objs.size (.tup [.int (i : Nat), x])) h'' s.heap.objs.size (.tup [.int (i : Nat), x]) :=
      ⟨by show 2 ≤ sizeLine; decide, [.int i tk, y], .cons ⟨_, rfl⟩ (.cons rel .nil), ⟨_, hT2, rfl, _, rfl⟩⟩
    have I1 : L2.Inv X pins σ (upd H s.heap.objs.size (.tup [.int (i : Nat), x])) { s with heap := h'', toks := tk + 1 } :=
      I.turnedNew (ch := [e, it]) (fun c oc nc y => (sb.2 c fun z => nc (by simp [z])).trans (hk c oc (fun z => nc (by simp [z])) (fun z => nc (by simp [z])) y)) hf (Nat.le_refl _) obj
    refine ⟨.ref s.heap.objs.size, _, I1, rfl, ⟨_, x, rfl, I.hok.fresh (Nat.le_refl _), rfl, fun ys hy => by rw [I.tuple_inj hy hq]; exact hx⟩, ⟨⟨y, ?_⟩, hit'.1.at fun o q => (sb.2 it (Ne.symm hne)).trans q, hne⟩, fun b hb => ?_⟩
    · rw [show ((i + 1 : Nat) : Int) = (i : Int) + 1 by omega]
      exact he'
    · have blt : b < s.heap.objs.size := by
        rcases (by simpa using hb : b = e ∨ b = it) with z | z
        · rw [z]; exact lte
        · rw [z]; exact lti
      rw [upd_ne (Nat.ne_of_lt blt)]
      exact (hf b hb).1
  done := by
    intro X hP hw hK hc i pins s σ H E I hf st hg
    subst hP hw hK
    obtain ⟨⟨was, he⟩, hit, hne⟩ := st
    obtain ⟨xs, hq, hx⟩ := hg
    obtain ⟨its, rv, tp, _⟩ := I.tuple hq
    obtain ⟨a0, a1, a2, a3, a4, a5⟩ := hf it (by simp)
    have hl := rv.length
    have hge : its.toArray.size ≤ i := by simp; omega
    refine wpAny_pyNext_enum_endD (n := i) (fp := [it, a]) (P := fun _ _ => True) (St := fun j h => j = i ∧ h.IsTupleIter it a i ∧ h.IsTuple a its.toArray) ⟨fun j h st => ?_, fun j h h' st k => ?_, fun j s Q E hj st hQ => ?_, fun s Q E st hE => ?_⟩ he ⟨rfl, hit, tp⟩ fun h' eb => ⟨rfl, I.turned (t' := s.toks) (fun b o hb q => eb b o hb q) a0 a1 a3 a4 a5⟩
    · obtain ⟨o, ho, _⟩ := st.2.1
      exact ⟨o, ho⟩
    · exact ⟨st.1, st.2.1.at fun o q => k it (by simp) o q, st.2.2.at fun o q => k a (by simp) o q⟩
    · exact absurd st.1 (Nat.ne_of_lt hj)
    · exact wpAny_nextOf_tuple_end (I.ok.hd hc) st.2.1 st.2.2 (Array.getElem?_eq_none hge) hE
  self := fun _ _ _ _ _ ⟨⟨_, he⟩, _⟩ h => wpAny_pyIter_enum he h
def iEnumT (K : PySem.W.Frag) (ta : TA) : TI := fun σ H R => ta σ H fun vs H1 => ∃ a xs, vs = [.ref a] ∧ SqT K H1 a xs ∧ R (IteT K a) H1
theorem pi_enumT {X : Cx} {e : Expr} {ta : TA} {p pos tpos : Pos} {elts : List Expr} {kk : Nat} (hg : Gl X "enumerate") (hm : X.mg "enumerate" = none) (ha : PA X [e] ta) (hs : starEach [e] X.env = [(false, eval e X.env)] := by rfl) :
    PI X (.Tuple elts kk tpos) (.Call (.Name "enumerate" p) [e] [] pos) (iEnumT X.K ta) := by
  refine ⟨fun pins s σ H R I h => ?_⟩
  refine Call_ (ld_blt I hg hm boot_enumerate (PyProof.Rows.callWith_type1 (thn (ha.run pos pins s σ H _ I h) fun us s1 ⟨vs, H1, I1, r1, a, xs, ex, hq, q⟩ => ?_) hs rfl))
  subst ex
  cases r1 with
  | cons r rr =>
    cases rr
    cases r
    obtain ⟨its, rv, p', hz⟩ := I1.tuple hq
    have hlt : a < s1.heap.objs.size := by
      obtain ⟨o, ho, _⟩ := p'
      exact Heap.lt_size ho
    refine call_enumT p' fun h' he hit hsz hk => wpAny_pyIter_enum he ?_
    refine ⟨s1.heap.objs.size + 1, [s1.heap.objs.size + 1, s1.heap.objs.size], _, _, H1, rfl, I1.kept (t' := s1.toks) hk, turn_enumT a (s1.heap.objs.size + 1) s1.heap.objs.size its (Nat.ne_of_lt hlt) (Nat.ne_of_gt (Nat.lt_succ_of_lt hlt)), ⟨⟨.none, he⟩, hit, Nat.succ_ne_self _⟩, fun b hb => ?_, q⟩
    have ge : s1.heap.objs.size ≤ b := by
      rcases (by simpa using hb : b = s1.heap.objs.size + 1 ∨ b = s1.heap.objs.size) with z | z
      · rw [z]; exact Nat.le_succ _
      · exact Nat.le_of_eq z.symm
    exact I1.fpOk ge (I1.hok.fresh ge)
end Ws

set_option Elab.async false
set_option linter.all false
set_option maxRecDepth 100000
set_option maxHeartbeats 4000000
namespace Ws
open PySem PySem.Spec PyProof.Rows L2
open AutoSeq1 (wpAny_loadPart')
section
variable {X : Cx}
/-- a tuple == (), a tuple != () -/
def rEqTN (K : PySem.W.Frag) (neg : Bool) : R2 := fun x y H Q => ∃ p q xs, x = .ref p ∧ y = .ref q ∧ SqT K H p xs ∧ SqT K H q [] ∧ Q (.bl (if neg then !xs.isEmpty else xs.isEmpty)) H
theorem tn_size {xs : List V} {us : List Value} (r : Vals xs us) : (us.toArray.size == (#[] : Array Value).size) = xs.isEmpty := by
  cases r with
  | nil => rfl
  | cons _ _ => simp
theorem op_eqTN {n : Nat} (hr : Room n X.A) : OpR X (compareOp .Eq) (rEqTN X.K false) := by
  intro pins s σ H x y v u Q I rx ry ⟨p, q, xs, e1, e2, hp, hq, hQ⟩
  subst e1 e2
  cases rx
  cases ry
  obtain ⟨us, r, l1, _⟩ := I.tuple hp
  obtain ⟨vs, r2, l2, _⟩ := I.tuple hq
  cases r2
  refine SeqAt.RcAt.tuples (e := fun _ => true) l1 l2 hr.units0 (fun j h1 h2 => absurd h2 (Nat.not_lt_zero j)) _ _ _ _ ⟨.bl xs.isEmpty, H, I, ?_, hQ⟩
  show _ = Value.bool _
  rw [← tn_size r]
  simp
theorem op_neTN {n : Nat} (hr : Room n X.A) : OpR X (compareOp .NotEq) (rEqTN X.K true) := by
  intro pins s σ H x y v u Q I rx ry ⟨p, q, xs, e1, e2, hp, hq, hQ⟩
  subst e1 e2
  cases rx
  cases ry
  obtain ⟨us, r, l1, _⟩ := I.tuple hp
  obtain ⟨vs, r2, l2, _⟩ := I.tuple hq
  cases r2
  refine SeqAt.RcNeAt.tuples (e := fun _ => true) l1 l2 hr.units0 (fun j h1 h2 => absurd h2 (Nat.not_lt_zero j)) _ _ _ _ ⟨.bl (!xs.isEmpty), H, I, ?_, hQ⟩
  show _ = Value.bool _
  rw [← tn_size r]
  simp
end
theorem tmul_none (l : Addr) (items : Array Value) (n : Nat) (dd : Option Addr) (sl : Array (Option Value)) (x : Int) (u : Tok) (b0 : (decide (x < -(2 ^ 63)) || decide (x ≥ 2 ^ 63)) = false) (b1 : (items.isEmpty || x == 1) = false) (b2 : (decide (x ≤ 0) || items.isEmpty) = true) :
    Meets (Builtin.«tuple.__mul__» ⟨[.ref l, .int x u], []⟩) (fun _ R s => s.heap.get? l = some { cls := .type "tuple", dict := dd, data := .seq items n, slots := sl } ∧
      R (.ok (.ret (Value.ref s.heap.objs.size))) { s with heap := s.heap.push { cls := Value.type "tuple", data := Data.seq #[] }, toks := s.toks }) :=
  .of_wp fun prog w A R s h => by
    obtain ⟨hp, g, d, tk, os⟩ := s
    obtain ⟨hl, h⟩ := h
    have f1 := AutoSeq1.idx_int
    wp_walk using wpAny_loadPart' hl
    repeat (first
      | (refine wpAny_ite_false (decide_eq_false (by rw [b0]; exact Bool.false_ne_true)) ?_; wp_walk using wpAny_loadPart' hl)
      | (refine wpAny_ite_false (decide_eq_false (by rw [b1]; exact Bool.false_ne_true)) ?_; wp_walk using wpAny_loadPart' hl)
      | (refine wpAny_ite_true (decide_eq_true (by rw [b2])) ?_; wp_walk using wpAny_loadPart' hl))
    exact ⟨_, rfl, h⟩
theorem tmul_one (l : Addr) (items : Array Value) (n : Nat) (dd : Option Addr) (sl : Array (Option Value)) (x : Int) (u : Tok) (b0 : (decide (x < -(2 ^ 63)) || decide (x ≥ 2 ^ 63)) = false) (b1 : (items.isEmpty || x == 1) = true) :
    Meets (Builtin.«tuple.__mul__» ⟨[.ref l, .int x u], []⟩) (fun _ R s => s.heap.get? l = some { cls := .type "tuple", dict := dd, data := .seq items n, slots := sl } ∧
      R (.ok (.ret (Value.ref l))) s) :=
  .of_wp fun prog w A R s h => by
    obtain ⟨hp, g, d, tk, os⟩ := s
    obtain ⟨hl, h⟩ := h
    have f1 := AutoSeq1.idx_int
    wp_walk using wpAny_loadPart' hl
    repeat (first
      | (refine wpAny_ite_false (decide_eq_false (by rw [b0]; exact Bool.false_ne_true)) ?_; wp_walk using wpAny_loadPart' hl)
      | (refine wpAny_ite_true (decide_eq_true (by rw [b1])) ?_; wp_walk using wpAny_loadPart' hl))
    exact ⟨_, rfl, h⟩
/-- a tuple of one item * k, k not negative -/
def rRepT1 (K : PySem.W.Frag) : R2 := fun x y H Q => ∃ (l : Addr) (k : Nat) (z : V), x = .ref l ∧ y = .int (k : Nat) ∧ SqT K H l [z] ∧ k ≤ 1000 ∧ (k = 1 → Q (.ref l) H) ∧ (k ≠ 1 → ∀ p, H p = none → Q (.ref p) (upd H p (.tup (List.replicate k z))))
section
variable {X : Cx}
theorem rep_flat {α : Type} (z : α) : ∀ k : Nat, (List.replicate k [z]).flatten = List.replicate k z
  | 0 => rfl
  | k + 1 => by rw [List.replicate_succ, List.flatten_cons, rep_flat z k]; rfl
theorem op_repT1 : OpR X (binaryOp .Mult) (rRepT1 X.K) := by
  intro pins s σ H x y v u Q I rx ry ⟨l, k, z, e1, e2, hT, hk, q1, q2⟩
  by_cases h2 : 2 ≤ k
  · refine op_repT pins s σ H x y v u Q I rx ry ⟨l, (k : Int), [z], e1, e2, hT, by simp, by omega, by omega, by simp, fun p hp => ?_⟩
    rw [show ((k : Nat) : Int).toNat = k from rfl, rep_flat]
    exact q2 (by omega) p hp
  · subst e1 e2
    cases rx
    obtain ⟨t, rfl⟩ := ry
    obtain ⟨its, r, ⟨⟨cls, dd, data, sl⟩, ho, hc, n, hd⟩, hs⟩ := I.tuple hT
    simp only at hc hd
    subst hc hd
    have he : its.toArray.isEmpty = false := by
      cases r with
      | cons _ t => rfl
    have b0 : (decide (((k : Nat) : Int) < -(2 ^ 63)) || decide (((k : Nat) : Int) ≥ 2 ^ 63)) = false := by
      rw [decide_eq_false (by omega), decide_eq_false (by omega)] <;> rfl
    by_cases h1 : k = 1
    · subst h1
      exact wpAny_binaryOp_repeat_ref (T := "tuple") (U := "int") (by decide) ⟨_, ho, rfl⟩ (fun s' => typeIs_int s' _ t) noFill_tuple_mul F.fills_int_mul F.slot_int_rmul repeat_tuple F.slot_int_index.lookup
        (call_meets F.slot_int_rmul (typeIs_int s _ t) F.entry_int_rmul (F.args_int_rmul_2 _ _) (int_rmul_tuple _ t l its.toArray n dd sl)
          ⟨ho, rfl, ⟨_, ho, rfl⟩, call_meets F.slot_tuple_mul ⟨_, ho, rfl⟩ F.entry_tuple_mul (F.args_tuple_mul_2 _ _) (tmul_one l its.toArray n dd sl _ t b0 (by rw [he]; rfl)) ⟨ho, .ref l, H, I, rfl, q1 rfl⟩⟩)
    · have hz : k = 0 := by omega
      subst hz
      refine wpAny_binaryOp_repeat_ref (T := "tuple") (U := "int") (by decide) ⟨_, ho, rfl⟩ (fun s' => typeIs_int s' _ t) noFill_tuple_mul F.fills_int_mul F.slot_int_rmul repeat_tuple F.slot_int_index.lookup
        (call_meets F.slot_int_rmul (typeIs_int s _ t) F.entry_int_rmul (F.args_int_rmul_2 _ _) (int_rmul_tuple _ t l its.toArray n dd sl)
          ⟨ho, rfl, ⟨_, ho, rfl⟩, call_meets F.slot_tuple_mul ⟨_, ho, rfl⟩ F.entry_tuple_mul (F.args_tuple_mul_2 _ _) (tmul_none l its.toArray n dd sl _ t b0 (by rw [he]; rfl) (by rw [he]; rfl)) ⟨ho, ?_⟩⟩)
      exact ⟨.ref s.heap.objs.size, _, I.laid (t' := s.toks) (o := .tup []) (fun b ob q => Heap.get?_push_of_some _ q) (Nat.le_refl _) ⟨Nat.zero_le _, [], .nil, IsTup.new _ _⟩, rfl, q2 h1 _ (I.hok.fresh (Nat.le_refl _))⟩
end
end Ws

set_option Elab.async false
set_option linter.all false
set_option maxRecDepth 100000
set_option maxHeartbeats 4000000
namespace Ws
open PySem PySem.Spec PyProof.Rows L2
/-- the pairs of more, stored one behind the other -/
def putT (kvs more : List (List L2.Key × V)) : List (List L2.Key × V) := more.foldl (fun a p => putK a p.1 p.2) kvs
theorem putT_len : ∀ (more kvs : List (List L2.Key × V)), (putT kvs more).length ≤ kvs.length + more.length
  | [], kvs => Nat.le_refl _
  | p :: r, kvs => by
    have h1 := putT_len r (putK kvs p.1 p.2)
    have h2 := length_putK kvs p.1 p.2
    show (putT (putK kvs p.1 p.2) r).length ≤ _
    simp only [List.length_cons]
    omega
theorem kt_put {H : Hp} : ∀ {more : List (List L2.Key × V)} {qs : List (List L2.Key × Addr × Value)} {kvs : List (List L2.Key × V)} {xs : List (List L2.Key × Addr × Value)}, KT H more qs → KT H kvs xs → KT H (putT kvs more) (storedAllH xs qs)
  | _, _, _, _, .nil, r => r
  | _, _, _, _, .cons (a := p) (b := q) h t, r => by
    have := r.put p.1 h.2.1 h.2.2
    have z := kt_put t this
    rw [h.1] at z
    show KT H (putT (putK _ p.1 p.2) _) (storedAllH (storedH _ q.1 q.2.1 q.2.2) _)
    rw [h.1]
    exact z
section
variable {X : Cx} {pins : List (Addr × Obj)} {σ : L2.St} {H : Hp} {s : Shared}
theorem dt_kept {s' : Heap} {t' : Nat} {D : Addr} {kvs : List (List L2.Key × V)} {xs : List (List L2.Key × Addr × Value)} (I : L2.Inv X pins σ H s) (hD : ∃ us, H D = some (.dT us)) (hd : (D == sysModules) = false) (hl : kvs.length ≤ sizeLine)
    (r : KT H kvs xs) (dd : s'.DictOfH (tupleKind (mixKind X.prog X.w)) D xs) (hs : Heap.SameBut D s.heap s') : L2.Inv X pins σ (upd H D (.dT kvs)) { s with heap := s', toks := t' } := by
  obtain ⟨us, hD⟩ := hD
  obtain ⟨o, es, ep, h1, h2, h3, h4, _, h5⟩ := dd
  refine d_write I (by rw [hD]; exact True.intro) hs ⟨o, h1⟩ ⟨hl, hd, xs, r.keeps fun c ys ec => ?_, o, es, ep, h1, h2, h3, h4, h5⟩
  rw [upd_ne (ne_of ec hD (fun z => nomatch z))]
  exact ec
end
/-! ### {k: v, ..} -/
def KeyedBy (H : Hp) (q : V × V) (kv : List L2.Key × V) : Prop := ∃ b, q.1 = .ref b ∧ H b = some (.tup (kv.1.map kV)) ∧ q.2 = kv.2
theorem carriesT {P : Program} {w : World} {H : Hp} {h : Heap} (ok : HOk P w H h) : ∀ {ps : List (V × V)} {kvs : List (List L2.Key × V)} {vs : List (Value × Value)}, Paired (KeyedBy H) ps kvs → VV ps vs →
    ∃ qs, CarriesH (tupleKind (mixKind P w)) h vs qs ∧ KT H kvs qs
  | _, _, _, .nil, .nil => ⟨[], True.intro, .nil⟩
  | _, _, _, .cons (a := p) (b := kv) ⟨b, e1, e2, e3⟩ t, .cons (b := v) r t2 => by
    obtain ⟨qs, c, k⟩ := carriesT ok t t2
    obtain ⟨v1, v2⟩ := v
    rw [e1] at r
    obtain ⟨r1, r2⟩ := r
    obtain rfl : v1 = Value.ref b := r1
    rw [e3] at r2
    exact ⟨(kv.1, b, v2) :: qs, ⟨rfl, rfl, key_of ok e2, c⟩, .cons ⟨rfl, e2, r2⟩ k⟩
def tDispT (trs : List (TE × TE)) : TE := fun σ H Q => ∀ p, H p = none → tPairs trs σ (upd H p (.dT [])) fun ps H2 => H2 p = some (.dT []) ∧ ∃ kvs : List (List L2.Key × V), Paired (KeyedBy H2) ps kvs ∧ kvs.length ≤ 15 ∧ Q (.ref p) (upd H2 p (.dT (putT [] kvs)))
theorem pe_dispT {X : Cx} {pos : Pos} {keys : List (Option Expr)} {values : List Expr} {trs : List (TE × TE)} (hu : X.A.units < cLine) (h : PPs X pos keys values trs) (hall : keys.all (·.isSome) = true) (hl : keys.length = values.length) (h0 : keys ≠ [])
    (h15 : keys.length ≤ 15) : PE X (.Dict keys values pos) (tDispT trs) := by
  refine ⟨fun pins s σ H Q I q => ?_⟩
  have hn := I.hok.fresh (Nat.le_refl s.heap.objs.size)
  have I1 := I.laid (a := s.heap.objs.size) (o := .dT []) (h' := s.heap.push { cls := .type "dict", data := .dict #[] }) (t' := s.toks) (fun _ _ q => Heap.get?_push_of_some _ q) (Nat.le_refl _) (dt_empty s.heap I.big)
  have len := pairTrees_length keys values X.env pos hall hl
  rw [arm_eval_Dict, zip_pairTrees keys values X.env pos hall hl, dictDisplay_pairs (pairTrees keys values X.env pos) (fun z => h0 (List.length_eq_zero_iff.mp (by rw [z] at len; exact len.symm))) (by omega)]
  refine wpAny_bind (wpAny_standAt (wpAny_bind (wpAny_subDictH (knd := tupleKind (mixKind X.prog X.w)) hu (by omega) (thn (h.run pins _ σ _ _ I1 (q _ hn)) fun ws s2 ⟨ps, H2, I2, rel, e, kvs, pk, lk, q2⟩ => ?_))))
  obtain ⟨qs, c, kt⟩ := carriesT I2.hok pk rel
  obtain ⟨_, hd, xs, r0, dd⟩ := dt_of I2.hok e
  cases r0
  refine ⟨qs, c, dd, fun h' tk dd' hs => wpAny_pure ⟨.ref s.heap.objs.size, _, dt_kept I2 ⟨_, e⟩ hd ?_ (kt_put kt .nil) dd' hs, rfl, q2⟩⟩
  have := putT_len kvs []
  rw [sizeLine_eq]
  simp only [List.length_nil] at this
  omega
/-! ### dict(pairs) -/
def PairT (K : PySem.W.Frag) (H : Hp) (p : Addr) (kv : List L2.Key × V) : Prop := ∃ b, SqT K H p [.ref b, kv.2] ∧ H b = some (.tup (kv.1.map kV))
def rDctT (K : PySem.W.Frag) : List V → Hp → VK → Prop := fun xs H Q => ∃ (a : Addr) (ps : List Addr) (kvs : List (List L2.Key × V)), xs = [.ref a] ∧ SqL K H a (ps.map V.ref) ∧ Paired (PairT K H) ps kvs ∧
  ∀ p, H p = none → Q (.ref p) (upd H p (.dT (putT [] kvs)))
section
variable {X : Cx} {pins : List (Addr × Obj)} {σ : L2.St} {H : Hp} {s : Shared}
theorem pairsT_of (I : L2.Inv X pins σ H s) : ∀ {ps : List Addr} {kvs : List (List L2.Key × V)}, Paired (PairT X.K H) ps kvs →
    ∃ qs : List (List L2.Key × Addr × Value), KT H kvs qs ∧ qs.length = ps.length ∧ ∀ (j : Nat) (q : List L2.Key × Addr × Value), qs[j]? = some q → ∃ b : Addr, ps[j]? = some b ∧ IsTup s.heap b #[.ref q.2.1, q.2.2]
  | _, _, .nil => ⟨[], .nil, rfl, fun j q e => by simp at e⟩
  | _, _, .cons (a := p) (b := kv) ⟨b, h1, h2⟩ t => by
    obtain ⟨qs, k, hl, hp⟩ := pairsT_of I t
    obtain ⟨its, rv, ht, _⟩ := I.tuple h1
    obtain ⟨u, y, rfl, ru, ry⟩ := vals2 rv
    obtain rfl : u = Value.ref b := ru
    refine ⟨(kv.1, b, y) :: qs, .cons ⟨rfl, h2, ry⟩ k, by simp [hl], fun j q e => ?_⟩
    cases j with
    | zero =>
      obtain rfl := Option.some.inj e
      exact ⟨p, rfl, ht⟩
    | succ j => exact hp j q e
theorem call_dctT (hc : X.calm = true) {n : Nat} (hr : Room n X.A) : CallR X (.type "dict") (rDctT X.K) := by
  intro pins s σ H xs us Q I r ⟨a, ps, kvs, ex, hq, hp, q⟩
  subst ex
  rw [Vals.ref1 r]
  have un := hr.units
  obtain ⟨its, rv, pl, hz⟩ := I.list hq
  have ei := refs_at rv
  subst ei
  rw [List.length_map] at hz
  obtain ⟨qs, kt, hl, hqs⟩ := pairsT_of I hp
  obtain ⟨o, n, ho, hco, hd, hdat⟩ := pl
  have hm : (s.heap.objs.size == sysModules) = false := beq_eq_false_iff_ne.mpr (Nat.ne_of_gt I.big)
  have PA := PairArg.list (prog := X.prog) (w := X.w) a ((ps.map Value.ref).toArray) (fun j => (ps[j]?).getD 0) (qs.map fun q => (Value.ref q.2.1, q.2.2))
  refine call_dict_pairsH (knd := tupleKind (mixKind X.prog X.w)) (ps := qs) PA (I.ok.hd hc) (show X.A.units + 2 < cLine by omega) ⟨⟨o, n, ho, hco, hd, hdat⟩, by simp [hl], fun j k v e => ?_⟩ ⟨by simp, fun i key v e => ?_⟩ (fun h' hk x hx => ?_) (by rw [List.length_map, hl]; exact hz) fun h' tk dd k => ?_
  · rw [List.getElem?_map] at e
    obtain ⟨q, hj, e⟩ := Option.map_eq_some_iff.mp e
    injection e with e1 e2
    obtain ⟨b, hb, ht⟩ := hqs j q hj
    refine ⟨by simp [hb], .inl ?_⟩
    rw [← e1, ← e2]
    show s.heap.IsTuple ((ps[j]?).getD 0) _
    rw [hb]
    exact ht
  · have e : (qs.map fun q => (Value.ref q.2.1, q.2.2))[i]? = some (key, v) := e
    rw [List.getElem?_map] at e
    obtain ⟨q, hj, e⟩ := Option.map_eq_some_iff.mp e
    injection e with e1 e2
    exact ⟨q.1, q.2.1, by rw [hj, ← e2], e1.symm⟩
  · obtain ⟨i, hi⟩ := List.getElem?_of_mem hx
    obtain ⟨kv, hkv, e1, e2, _⟩ := pr_atR kt hi
    have z : (tupleKind (mixKind X.prog X.w)).is s.heap x.1 x.2.1 := by
      rw [← e1]
      exact key_of I.hok e2
    obtain ⟨ob, its, m, g1, g2, g3, g4⟩ := z
    exact ⟨ob, its, m, hk _ _ (Nat.ne_of_lt (Heap.lt_size g1)) (by simp) g1, g2, g3, g4⟩
  · have hlen : (putT [] kvs).length ≤ sizeLine := by
      have h1 := putT_len kvs []
      have h2 := Paired.length kt
      simp only [List.length_nil] at h1
      omega
    have hn := I.hok.fresh (Nat.le_refl s.heap.objs.size)
    obtain ⟨o, es, ep, h1, h2, h3, h4, _, h5⟩ := dd
    refine ⟨.ref s.heap.objs.size, _, I.laid (t' := tk) (o := .dT (putT [] kvs)) (fun b o e => k b o (by simp) e) (Nat.le_refl _) ⟨hlen, hm, _, (kt_put kt .nil).keeps fun c ys ec => ?_, o, es, ep, h1, h2, h3, h4, h5⟩, rfl, q _ hn⟩
    rw [upd_ne (ne_of_none ec hn)]
    exact ec
end
/-! ### {k: v for ..} -/
/-- D the new dict, its keys tuples -/
def tDcT (wi : TI) (g : TG) (tt : TT) (tk tv : TE) (vs : List Nat) : TE := fun σ H Q => wi σ H fun J H1 => ∀ D, H1 D = none → ∃ W : Nat → Nat → Hp → Prop, (∃ m, W 0 m (upd H1 D (.dT []))) ∧ ∀ i m H, W i m H →
  (J.stop i H ∧ Q (.ref D) H) ∨ (J.go i H ∧ ∃ Nx : Hp → Prop, (∀ G, Nx G → ∃ l, l < m ∧ W (i + 1) l G) ∧ ∀ x H', J.yld i H x H' → g x (wipe σ vs) H' fun σ2 H2 => wipe σ2 vs = wipe σ vs ∧ tt σ2 H2 fun b H3 =>
    if b = true then tk σ2 H3 fun y H4 => tv σ2 H4 fun z H5 => ∃ kvs k b, y = .ref b ∧ H5 b = some (.tup (k.map kV)) ∧ H5 D = some (.dT kvs) ∧ kvs.length < sizeLine ∧ Nx (upd H5 D (.dT (putK kvs k z))) else Nx H3)
section
variable {X : Cx}
theorem put_dT {pins : List (Addr × Obj)} {σ : L2.St} {H : Hp} {s : Shared} {E : Value → Shared → Prop} {D b : Addr} {kvs : List (List L2.Key × V)} {k : List L2.Key} {v : V} {r : Value} {Q : Unit → Shared → Prop} (hu : X.A.units < cLine) (I : L2.Inv X pins σ H s) (hD : H D = some (.dT kvs)) (hb : H b = some (.tup (k.map kV)))
    (hz : kvs.length < sizeLine) (rv : RelV v r) (h : ∀ s', L2.Inv X pins σ (upd H D (.dT (putK kvs k v))) s' → Q () s') : wpAny (model X.prog X.w) X.A (dictSet D (.ref b) r) Q E s := by
  obtain ⟨z, hd, xs, rel, dd⟩ := dt_of I.hok hD
  have hl : (putK kvs k v).length ≤ sizeLine := Nat.le_trans (length_putK kvs k v) (by omega)
  have hx : xs.length ≤ sizeLine := by rw [← Paired.length rel]; exact z
  exact wpAny_dictSet_heap (hsz := hx) (show (tupleKind (mixKind X.prog X.w)).room X.A from hu) (key_of I.hok hb) dd fun h' dd' hs => h _ (dt_kept I ⟨_, hD⟩ hd hl (rel.put k hb rv) dd' hs)
variable {kx vx tg iter : Expr} {ifs : List Expr} {scope : Scope} {own : List (Str × Nat)} {pos : Pos} {wi : TI} {g : TG} {tt : TT} {tk tv : TE}
/-- one turn behind the item: the parts are read in the block's context Y, and what is behind stands again -/
theorem dcT_turn {Y : Cx} {pn : List (Addr × Obj)} {σw : L2.St} {H : Hp} {s : Shared} {E : Value → Shared → Prop} {D : Addr} {x : V} {u : Value} {vs : List Nat} {Nx : Hp → Prop} {Fin : Shared → Prop} (hu : Y.A.units < cLine) (hE : Y.xe = fun _ _ => False) (I : L2.Inv Y pn σw H s) (r : RelV x u)
    (pg : PG Y tg g) (pt : PTs Y ifs tt) (pk : PE Y kx tk) (pe : PE Y vx tv)
    (q : g x σw H fun σ2 H2 => wipe σ2 vs = σw ∧ tt σ2 H2 fun b H3 => if b = true then tk σ2 H3 fun y H4 => tv σ2 H4 fun z H5 => ∃ kvs k b, y = .ref b ∧ H5 b = some (.tup (k.map kV)) ∧ H5 D = some (.dT kvs) ∧ kvs.length < sizeLine ∧ Nx (upd H5 D (.dT (putK kvs k z))) else Nx H3)
    (fin : ∀ σ2 H2 s2, wipe σ2 vs = σw → L2.Inv Y pn σ2 H2 s2 → Nx H2 → Fin s2) :
    wpAny (model Y.prog Y.w) Y.A (assign tg Y.env u) (fun _ s₂ => wpAny (model Y.prog Y.w) Y.A (forIn ifs true fun c r => if r = true then do let ok ← isTrue c Y.env (eval c Y.env); pure (ForInStep.yield ok) else pure (ForInStep.yield r)) (fun ok s₃ =>
      if ok = true then wpAny (model Y.prog Y.w) Y.A (eval kx Y.env) (fun kv s₄ => wpAny (model Y.prog Y.w) Y.A (eval vx Y.env) (fun vv s₅ => wpAny (model Y.prog Y.w) Y.A (dictSet D kv vv) (fun _ s₆ => Fin s₆) E s₅) E s₄) E s₃ else Fin s₃) E s₂) E s := by
  refine thnF (hE ▸ pg.run pn s σw H x u _ I r q) fun _ s2 ⟨σ2, H2, I2, w2, q2⟩ => ?_
  refine thnF (hE ▸ pt.run pn s2 σ2 H2 _ I2 q2) fun b s3 ⟨H3, I3, q3⟩ => ?_
  cases b with
  | false => exact fin _ _ _ w2 I3 (by simpa using q3)
  | true =>
    simp only [if_true] at q3 ⊢
    refine thnF (hE ▸ pk.run pn s3 σ2 H3 _ I3 q3) fun kv s4 ⟨y, H4, I4, r4, q4⟩ => ?_
    refine thnF (hE ▸ pe.run pn s4 σ2 H4 _ I4 q4) fun vv s5 ⟨z, H5, I5, r5, kvs, k, b, ey, hb, hD, hz, nx⟩ => ?_
    subst ey
    obtain rfl : kv = Value.ref b := r4
    exact put_dT hu I5 hD hb hz r5 fun s6 I6 => fin _ _ _ w2 I6 nx
theorem pe_dcT (hu : X.A.units + 64 < cLine) (hc : X.calm = true) (hN : X.N.Nodup) (hi : PI X tg iter wi) (ok : BlkOk X.N X.env.scope scope own)
    (hg : ∀ (s0 : Shared) (G : Hp) (L : Addr) (cl : List (Str × Addr)) (bs : List Addr), PG (X.blk s0 G scope (compEnvC scope cl L X.env) bs) tg g) (ht : ∀ (s0 : Shared) (G : Hp) (L : Addr) (cl : List (Str × Addr)) (bs : List Addr), PTs (X.blk s0 G scope (compEnvC scope cl L X.env) bs) ifs tt)
    (hk : ∀ (s0 : Shared) (G : Hp) (L : Addr) (cl : List (Str × Addr)) (bs : List Addr), PE (X.blk s0 G scope (compEnvC scope cl L X.env) bs) kx tk)
    (he : ∀ (s0 : Shared) (G : Hp) (L : Addr) (cl : List (Str × Addr)) (bs : List Addr), PE (X.blk s0 G scope (compEnvC scope cl L X.env) bs) vx tv) (hs : ∀ x, foldedSetIterable iter X.env x = pure x := by intro _; rfl) :
    PE X (.DictComp kx vx [⟨tg, iter, ifs, 0⟩] scope pos) (tDcT wi g tt tk tv (own.map (·.2))) := by
  refine ⟨fun pins s σ H Q I h => ?_⟩
  rw [arm_eval_DictComp]
  have cells : ∀ y ∈ scope.names, y.2 = .free → ∃ c, X.env.cells.lookup y.1 = some c := fun y hy e => (ok.free y hy e).elim (fun k => I.ok.has _ (.inl k)) fun k => I.ok.has _ (.inr k)
  refine wpAny_comprehension_free (use := none) rfl hs (closure_ok cells) ok.kind (fun y hy e => by rw [ok.uniq y hy, e]) (thn (hi.run pins s σ H _ I h) fun xv s1 h1 => thn h1 fun itv s2 ⟨it, fp, tn, J, H2, e, I2, T, st2, f2, q⟩ => ?_)
  subst e
  refine wpAny_newObj_type (newEnv_comp ?_)
  have hD : H2 s2.heap.objs.size = none := I2.hok.fresh (Nat.le_refl _)
  obtain ⟨W, ⟨m0, w0⟩, turn⟩ := q _ hD
  -- the new dict stands
  have I3 : L2.Inv X pins σ (upd H2 s2.heap.objs.size (.dT [])) { s2 with heap := s2.heap.push { cls := .type "dict", data := .dict #[] } } :=
    I2.laid (t' := s2.toks) (fun b o e => Heap.get?_push_of_some _ e) (Nat.le_refl _) (dt_empty s2.heap I2.big)
  have below : ∀ b ∈ fp, b < s2.heap.objs.size := fun b hb => let ⟨o, e, _⟩ := T.obj _ _ st2 b hb; Heap.lt_size e
  generalize s2.heap.objs.size = D at hD w0 turn I3 below ⊢
  generalize e3 : ({ s2 with heap := s2.heap.push { cls := .type "dict", data := .dict #[] } } : Shared) = s3 at I3 ⊢
  generalize e4 : upd H2 D (.dT []) = H3 at I3 w0
  have h3 : s3.heap = s2.heap.push { cls := .type "dict", data := .dict #[] } := by rw [← e3]
  have mine : ∀ b ∈ fp, FpOk X pins H3 b ∧ b < s3.heap.objs.size := fun b hb => by
    have lt := below b hb
    refine ⟨⟨?_, (f2 b hb).2⟩, ?_⟩
    · rw [← e4, upd_ne (Nat.ne_of_lt lt)]
      exact (f2 b hb).1
    · obtain ⟨o, e, _⟩ := T.obj _ _ st2 b hb
      rw [h3]
      exact Heap.lt_size (Heap.get?_push_of_some _ e)
  have at3 : tn 0 s3.heap := T.keep _ _ _ st2 fun b _ o e => by rw [h3]; exact Heap.get?_push_of_some _ e
  have B0 := block_start I3 ok hN mine
  have pg := hg s3 H3 s3.heap.objs.size (cellsFrom (s3.heap.objs.size + 1) scope.names (cloFrom X.env.cells scope.names [])) fp
  have pt := ht s3 H3 s3.heap.objs.size (cellsFrom (s3.heap.objs.size + 1) scope.names (cloFrom X.env.cells scope.names [])) fp
  have pk := hk s3 H3 s3.heap.objs.size (cellsFrom (s3.heap.objs.size + 1) scope.names (cloFrom X.env.cells scope.names [])) fp
  have pe := he s3 H3 s3.heap.objs.size (cellsFrom (s3.heap.objs.size + 1) scope.names (cloFrom X.env.cells scope.names [])) fp
  show codeAny _ _ (.compStart (.DictComp kx vx [⟨tg, iter, ifs, 0⟩] scope pos) 0 (.ref it) (.ref D) (compEnvC scope (cellsFrom (s3.heap.objs.size + 1) scope.names (cloFrom X.env.cells scope.names [])) s3.heap.objs.size X.env)) (compPost (model X.prog X.w) X.A X.xe none (EP X pins σ Q) (.ref D) s3.heap.objs.size) { s3 with heap := pushCells (s3.heap.push { cls := .type "dict", data := .dict #[] }) scope.names }
  generalize ec : compEnvC scope (cellsFrom (s3.heap.objs.size + 1) scope.names (cloFrom X.env.cells scope.names [])) s3.heap.objs.size X.env = ce at B0 pg pt pk pe ⊢
  have cl : ce.locals = s3.heap.objs.size := by rw [← ec]; rfl
  generalize e5 : ({ s3 with heap := pushCells (s3.heap.push { cls := .type "dict", data := .dict #[] }) scope.names } : Shared) = s4 at B0 ⊢
  have at4 : tn 0 s4.heap := T.keep _ _ _ at3 fun b _ o e => by rw [← e5]; exact pushCells_keeps _ _ _ _ (Heap.get?_push_of_some _ e)
  have n3 : ∀ b ∈ fp, H3 b = none := fun b hb => (mine b hb).1.1
  -- what the block's walker asks of its own things, at each turn
  have own' : ∀ {σ' : L2.St} {H' : Hp} {s' : Shared}, L2.Inv (X.blk s3 H3 scope ce fp) [] σ' H' s' → (∀ b ∈ fp, H' b = none) → ∀ b ∈ fp, FpOk (X.blk s3 H3 scope ce fp) [] H' b := fun {σ' H' s'} I' hn b hb =>
    have z := I'.ok.exf b hb
    ⟨hn b hb, z.1, I'.ok.exfs b hb, .inl hb, z.2, fun p hp => nomatch (show p ∈ ([] : List (Addr × Obj)) from hp)⟩
  have loop : codeAny (model X.prog X.w) X.A (.compLoop (.DictComp kx vx [⟨tg, iter, ifs, 0⟩] scope pos) 0 (.ref it) (.ref D) ce) (compPost (model X.prog X.w) X.A X.xe none (EP X pins σ Q) (.ref D) s3.heap.objs.size) s4 := by
    refine compLoop_anyD (fun n s' => ∃ i H', L2.Inv (X.blk s3 H3 scope ce fp) [] (wipe σ (own.map (·.2))) H' s' ∧ tn i s'.heap ∧ (∀ b ∈ fp, H' b = none) ∧ W i n H') (fun n s5 ⟨i, H5, I5, st5, n5, w5⟩ => ?_) m0 ⟨0, H3, B0, at4, n3, w0⟩
    rcases turn i n H5 w5 with ⟨stop, fin⟩ | ⟨go, Nx, hN', step⟩
    · refine thnF (T.done (X.blk s3 H3 scope ce fp) rfl rfl rfl hc i [] s5 _ H5 (fun _ _ => False) I5 (own' I5 n5) st5 stop) fun r s6 ⟨hr, I6⟩ => ?_
      subst hr
      have I7 : L2.Inv X pins σ H5 s6 := I3.call' (ch := fp) I6.os I6.base I6.hok I6.bare fun b hb => ⟨(mine b hb).1.2.2.2.1, (mine b hb).1.2.1, (mine b hb).1.2.2.2.2.1, (mine b hb).1.2.2.2.2.2⟩
      have nC : H5 s3.heap.objs.size = none := by rw [← cl]; exact I6.free
      obtain ⟨m, hn, _⟩ := I6.loc
      have hn : s6.heap.Ns s3.heap.objs.size m := by rw [← cl]; exact hn
      refine ⟨m, hn, fun h'' sb => ?_⟩
      obtain ⟨f0, f1, f2', f3', f4, f5⟩ := I3.fpOk (Nat.le_refl _) nC
      exact ⟨.ref D, H5, I7.turned (t' := s6.toks) (fun b o hb e => (sb.2 b hb).trans e) f0 f1 f3' f4 f5, rfl, fin⟩
    · refine thnF (T.item (X.blk s3 H3 scope ce fp) rfl rfl rfl hc i [] s5 _ H5 (fun _ _ => False) I5 (own' I5 n5) st5 go) fun r s6 ⟨u, hr, h6⟩ => ?_
      subst hr
      refine thnF h6 fun _ s7 ⟨x, H7, I7, v7, g7, at7, m7⟩ => ?_
      refine dcT_turn (Y := X.blk s3 H3 scope ce fp) (Nx := Nx) (Fin := fun s' => ∃ m, m < n ∧ ∃ i H', L2.Inv (X.blk s3 H3 scope ce fp) [] (wipe σ (own.map (·.2))) H' s' ∧ tn i s'.heap ∧ (∀ b ∈ fp, H' b = none) ∧ W i m H') (show X.A.units < cLine by omega) rfl (I7.pinned (own' I7 m7) (T.obj _ _ at7)) v7 pg pt pk pe (step x H7 g7) fun σ8 H8 s8 w8 I8 nx => ?_
      obtain ⟨m', hm, w'⟩ := hN' H8 nx
      have pin : ∀ b ∈ fp, ∀ o, s7.heap.get? b = some o → s8.heap.get? b = some o ∧ H8 b = none := fun b hb o e =>
        let z := I8.pin (b, o) (List.mem_append_right _ (List.mem_append_right _ (mem_pinsAt hb e)))
        ⟨z.1, z.2.1⟩
      refine ⟨m', hm, i + 1, H8, (I8.unpinned (pins := [])).weak (by rw [← w8, wipe_length]) (fun j v e => ?_), T.keep _ _ _ at7 fun b hb o e => (pin b hb o e).1, fun b hb => ?_, w'⟩
      · rw [← w8] at e
        exact (wipe_some e).1
      · obtain ⟨q, z, _⟩ := T.obj _ _ at7 b hb
        exact (pin b hb q z).2
  exact codeAny_compStart_dict loop (T.self X.A 0 _ _ _ at4 loop)
/-- len of such a dict -/
def rLenT : List V → Hp → VK → Prop := fun xs H Q => ∃ a kvs, xs = [V.ref a] ∧ Rd H a (.dT kvs) ∧ Q (.int (kvs.length : Nat)) H
theorem call_lenT : CallR X (.builtin "len") rLenT := by
  intro pins s σ H xs us Q I r ⟨a, kvs, e, ha, q⟩
  subst e
  rw [Vals.ref1 r]
  obtain ⟨z, hd, ys, rel, dd⟩ := dt_rd I.hok ha
  obtain ⟨es, ep, hr, hs, _⟩ := dd.raw
  have hl : es.size = kvs.length := by rw [hs]; exact (Paired.length rel).symm
  refine PyProof.Rows.call_len_slot (n := (es.size : Nat)) dd.typeIs F.slot_dict_len (fun Q' hq => call_len_raw hd hr hq) (by omega) (by rw [sizeLine_eq] at z; omega) ?_
  exact ⟨.int (kvs.length : Nat), H, I.tok _, ⟨_, by rw [hl]⟩, q⟩
end
section
variable {S : Addr → Prop} {J : It} {H0 H1 : Hp} {xs : List V} {D : Addr} {g : TG} {tt : TT} {tk te : TE} {vs : List Nat} {σ : L2.St} {Qd : Hp → Prop}
theorem dcT_std (st : Std S J H0 xs) (Pv : Nat → Hp → Prop) (h0 : Pv 0 (upd H1 D (.dT []))) (hk : ∀ i H, Pv i H → Kp S H0 H)
    (hs : ∀ j y H, xs[j]? = some y → Pv j H → g y (wipe σ vs) H fun σ2 H2 => wipe σ2 vs = wipe σ vs ∧ tt σ2 H2 fun b H3 =>
      if b = true then tk σ2 H3 fun q H4 => te σ2 H4 fun z H5 => ∃ kvs k b, q = .ref b ∧ H5 b = some (.tup (k.map kV)) ∧ H5 D = some (.dT kvs) ∧ kvs.length < sizeLine ∧ Pv (j + 1) (upd H5 D (.dT (putK kvs k z))) else Pv (j + 1) H3)
    (hd : ∀ H, Pv xs.length H → Qd H) :
    ∃ W : Nat → Nat → Hp → Prop, (∃ m, W 0 m (upd H1 D (.dT []))) ∧ ∀ i m H, W i m H →
      (J.stop i H ∧ Qd H) ∨ (J.go i H ∧ ∃ Nx : Hp → Prop, (∀ H', Nx H' → ∃ m', m' < m ∧ W (i + 1) m' H') ∧ ∀ x H', J.yld i H x H' → g x (wipe σ vs) H' fun σ2 H2 => wipe σ2 vs = wipe σ vs ∧ tt σ2 H2 fun b H3 =>
        if b = true then tk σ2 H3 fun q H4 => te σ2 H4 fun z H5 => ∃ kvs k b, q = .ref b ∧ H5 b = some (.tup (k.map kV)) ∧ H5 D = some (.dT kvs) ∧ kvs.length < sizeLine ∧ Nx (upd H5 D (.dT (putK kvs k z))) else Nx H3) := by
  refine ⟨fun i m H => m = xs.length - i ∧ i ≤ xs.length ∧ Pv i H, ⟨_, rfl, Nat.zero_le _, h0⟩, fun i m H ⟨em, le, h⟩ => ?_⟩
  obtain ⟨s1, s2⟩ := st H (hk _ _ h) i
  by_cases e : i = xs.length
  · exact .inl ⟨s2 (by omega), hd H (e ▸ h)⟩
  · have lt : i < xs.length := by omega
    obtain ⟨go, yl⟩ := s1 _ (List.getElem?_eq_getElem lt)
    refine .inr ⟨go, fun H' => Pv (i + 1) H', fun H' h' => ⟨_, by omega, rfl, by omega, h'⟩, fun x H' y => ?_⟩
    obtain ⟨rfl, rfl⟩ := yl x H' y
    exact hs i _ _ (List.getElem?_eq_getElem lt) h
end
end Ws

set_option Elab.async false
set_option linter.all false
set_option maxRecDepth 100000
set_option maxHeartbeats 4000000
namespace Ws
open PySem PySem.Spec PyProof.Rows L2
/-- the same promise, the two values told the other way about -/
def swapSp (sp : Sp) : Sp := fun vs H Q E => ∃ a b, vs = [a, b] ∧ sp [b, a] H Q E
section
variable {P : Program} {w : World} {K : PySem.W.Frag} {mg : Str → Option Value} {base : Heap} {CX : CXT} {k : Nat} {f : Addr} {fd : FuncData} {p q : Str} {sp : Sp} {x qual : Str} {params : Arguments} {body : List Stmt} {scope : Scope}
theorem rawKs (F : FnOk P w K mg base CX k f fd [p, q] sp) (B : ∀ (s : Shared) (u v : Value), K.In s.heap → BindsTo s fd ⟨[], [q, p].zip [u, v]⟩ ([p, q].zip [v, u])) : FnRK P w K mg base CX k f 0 [q, p] (swapSp sp) := by
  intro A outer s H us ws vs zs Q E hr e0 r rz l1 l2 ⟨a, b, e, h⟩
  cases vs with
  | cons _ _ => cases l1
  | nil =>
    cases r
    rw [List.nil_append] at e
    subst e
    cases rz with
    | cons r1 rz =>
      cases rz with
      | cons r2 rz =>
        cases rz
        exact F.run A outer s H ⟨[], [q, p].zip [_, _]⟩ [_, _] [b, a] Q E hr e0 (B s _ _ (e0.mod.kin.keeps fun b o e => (e0.bs b o e).1)) (.cons r2 (.cons r1 .nil)) h
theorem bindsKs {kws : List (Str × V)} (F : FunD K x qual params body scope [] kws f fd)
    (h : ∀ (kV doc pm : Value) (an : Option Addr) (cdv ct : Value) (u v : Value), bindArgs (PySem.W.fnOf x qual params body scope .none kV doc pm an cdv ct) ⟨[], [q, p].zip [u, v]⟩ = pure ([p, q].zip [v, u]))
    (s : Shared) (u v : Value) (_ : K.In s.heap) : BindsTo s fd ⟨[], [q, p].zip [u, v]⟩ ([p, q].zip [v, u]) := by
  obtain ⟨oc, od, dV, kV, doc, pm, an, cdv, ct, osl, rfl, _, _, hd, _⟩ := F.ex
  rcases hd with ⟨_, rfl⟩ | ⟨z, _⟩
  · exact BindsTo.of_looks fun M => PySem.W.Looks.of_pure (h kV doc pm an cdv ct u v)
  · exact absurd rfl z
end
end Ws

set_option Elab.async false
set_option linter.all false
set_option maxRecDepth 100000
set_option maxHeartbeats 4000000
namespace Ws
open PySem PySem.Spec PyProof.Rows L2
theorem ifb {c : Bool} {A B : Prop} (h1 : c = true → A) (h2 : c = false → B) : if c = true then A else B := by
  cases c with
  | true => exact iteT (h1 rfl)
  | false => exact iteF (h2 rfl)
theorem sz {n m : Nat} (h : n ≤ m) (hm : m ≤ 1000 := by decide) : n ≤ sizeLine := Nat.le_trans (Nat.le_trans h hm) (by rw [sizeLine_eq]; decide)
section
variable {P : Program} {w : World} {K : PySem.W.Frag} {mg : Str → Option Value} {base : Heap}
def sp_is_number : Sp := fun vs H Q _ => ∃ i, vs = [.int i] ∧ Q (.bl true) H
theorem sc_is_number : FnScope ["thing"] ["thing"] (defScope s_is_number) := ⟨rfl, rfl, rfl, by decide +kernel, rfl, by decide +kernel, by decide +kernel⟩
theorem ok_is_number (x : Fx K mg w) : FnR P w K mg base CX0 1 (a_is_number K) sp_is_number := by
  refine okR x.F_is_number sc_is_number (fun _ _ _ _ _ _ us hl => match us, hl with | [_], _ => rfl) (fun vs H Q E h => by obtain ⟨i, rfl, hQ⟩ := h; rfl) (fun cdv A outer s H vs Q E hr h => ?_)
  obtain ⟨i, rfl, hQ⟩ := h
  refine ⟨_, (pss_one (ps_ret (pe_and (pe_callB (r := rIsi K) call_isi rfl x.n_isinstance bb_isinstance (pa_cons (pv 0) (pa_cons (pe_gT x.n_int (by rfl) rfl) pa_nil))) (pe_one (pe_not (pe_callB (r := rIsi K) call_isi rfl x.n_isinstance bb_isinstance (pa_cons (pv 0) (pa_cons (pe_gT x.n_bool (by rfl) rfl) pa_nil)))))))), ?_⟩
  refine ⟨_, rfl, _, _, _, _, true, rfl, .ty _, .base (.int i), kit_ty (by decide +kernel), true, rfl, iteT ?_⟩
  exact ⟨_, rfl, _, _, _, _, false, rfl, .ty _, .base (.int i), kit_ty (by decide +kernel), false, rfl, hQ⟩
/-- a word of the text: 1 to 6 letters -/
def letters : Str := "abcdefghijklmnopqrstuvwxyz"
def isName (z : Str) : Bool := decide (1 ≤ z.length) && (decide (z.length ≤ 6) && z.cps.toList.all fun c => decide (c ∈ letters.cps.toList))
def sp_is_name : Sp := fun vs H Q _ => ∃ z, vs = [.str z] ∧ z.length ≤ 1000 ∧ ∀ H', Ext H H' → Q (.bl (isName z)) H'
theorem sc_is_name : FnScope ["thing", "letter"] ["thing"] (defScope s_is_name) := ⟨rfl, rfl, rfl, by decide +kernel, rfl, by decide +kernel, by decide +kernel⟩
theorem ok_is_name (x : Fx K mg w) : FnR P w K mg base CX0 1 (a_is_name K) sp_is_name := by
  refine okR x.F_is_name sc_is_name (fun _ _ _ _ _ _ us hl => match us, hl with | [_], _ => rfl) (fun vs H Q E h => by obtain ⟨z, rfl, hz, hQ⟩ := h; rfl) (fun cdv A outer s H vs Q E hr h => ?_)
  obtain ⟨z, rfl, hz, hQ⟩ := h
  refine ⟨_, (pss_cons (ps_if (PW.pt (pw_or (pt_not (pt_val (pe_callB (r := rIsi K) call_isi rfl x.n_isinstance bb_isinstance (pa_cons (pv 0) (pa_cons (pe_gT x.n_str (by rfl) rfl) pa_nil))))) (pw_or1 (pt_not (pt_chain op_le op_le pe_int (pe_callB call_len_str rfl x.n_len bb_len (pa_cons (pv 0) pa_nil)) (pe_gI x.i_LONGEST_NAME rfl))))))
 (pss_one (ps_ret pe_bl))
 pss_nil)
 (pss_one (ps_ret (pe_callB (r := rAll K) (cr_all rfl) rfl x.n_all bb_all (pa_cons (pe_lc (own := [("letter", 1)]) (tt := tYes) rfl sc_is_name.nd (pi_str (pv 0)) (blkOk_by (N := ["thing", "letter"]) (sc := defScope s_is_name) (by decide +kernel)) (fun _ _ _ _ _ => (pg_name (i := 1) sc_is_name.nd rfl (Or.inl rfl))) (fun _ _ _ _ _ => pts_nil) (fun _ _ _ _ _ => (pe_cmpR op_in_sign (pv 1) (pe_gS x.z_LETTERS rfl) rfl))) pa_nil))))), ?_⟩
  refine ⟨_, rfl, _, _, _, _, true, rfl, .ty _, .base (.str z), kit_ty (by decide +kernel), true, rfl, iteF ?_⟩
  refine ⟨_, rfl, z, rfl, sz hz, _, _, rfl, rfl, _, rfl, ifb (fun h1 => ?_) (fun h1 => ?_)⟩
  · refine ⟨_, _, rfl, rfl, _, rfl, ifb (fun h2 => ?_) (fun h2 => ?_)⟩
    · have e : isName z = false := by
        have n2 : decide (z.length ≤ 6) = false := decide_eq_false fun q => by simp at h2; omega
        rw [isName, n2]; simp
      have := hQ H Ext.rfl'
      rwa [e] at this
    · have n1 : decide (1 ≤ z.length) = true := decide_eq_true (by simp at h1; omega)
      have n2 : decide (z.length ≤ 6) = true := decide_eq_true (by simp at h2; omega)
      refine ⟨_, rfl, z, rfl, fun D hD => lc_map std_str hD (fun v => match v with | .str y => some (.bl (y.cps.toList.all fun c => decide (c ∈ letters.cps.toList))) | _ => none) ?_ (fun y H' Nx hy e c1 c2 => ?_) (fun H' e hD' => ?_)⟩
      · rw [List.length_map, Array.length_toList]; exact hz
      · obtain ⟨c, hc, rfl⟩ := List.mem_map.mp hy
        refine ⟨rfl, _, rfl, _, _, rfl, rfl, ?_⟩
        exact c1 _ _ Ext.rfl' (by simp [letters])
      · refine ⟨D, z.cps.toList.map fun c => decide (c ∈ letters.cps.toList), rfl, .of ?_, ?_⟩
        · rw [hD']
          congr 2
          rw [List.filterMap_map, List.map_map]
          simp [Function.comp_def]
        · have := hQ H' e
          rw [isName, n1, n2] at this
          simpa [List.all_map, Function.comp_def] using this
  · refine ⟨_, rfl, iteT ?_⟩
    have e : isName z = false := by
      have n1 : decide (1 ≤ z.length) = false := decide_eq_false fun q => by simp at h1; omega
      rw [isName, n1]; simp
    have := hQ H Ext.rfl'
    rwa [e] at this
/-! ### are_different -/
theorem put_len : ∀ (zs : List Str) (kvs : List (Key × V)), (putAll kvs (zs.map fun z => (Sum.inr z, V.bl true))).length ≤ kvs.length + zs.length ∧
    ((putAll kvs (zs.map fun z => (Sum.inr z, V.bl true))).length = kvs.length + zs.length ↔ zs.Nodup ∧ ∀ z ∈ zs, valV kvs (Sum.inr z) = none)
  | [], kvs => ⟨Nat.le_refl _, fun _ => ⟨List.nodup_nil, fun z h => by simp at h⟩, fun _ => rfl⟩
  | z :: zs, kvs => by
    have e : putAll kvs ((z :: zs).map fun z => (Sum.inr z, V.bl true)) = putAll (putK kvs (Sum.inr z) (.bl true)) (zs.map fun z => (Sum.inr z, V.bl true)) := rfl
    obtain ⟨ih1, ih2⟩ := put_len zs (putK kvs (Sum.inr z) (.bl true))
    have vp : ∀ k, valV (putK kvs (Sum.inr z) (.bl true)) k = if k = Sum.inr z then some (.bl true) else valV kvs k := fun k => valV_put kvs _ k _
    rw [e]
    cases hv : valV kvs (Sum.inr z) with
    | none =>
      have hl : (putK kvs (Sum.inr z) (.bl true)).length = kvs.length + 1 := by rw [putK_new _ hv]; simp
      rw [hl] at ih1 ih2
      simp only [List.length_cons]
      refine ⟨by omega, ?_⟩
      rw [show kvs.length + (zs.length + 1) = kvs.length + 1 + zs.length by omega, ih2, List.nodup_cons]
      constructor
      · rintro ⟨nd, h⟩
        refine ⟨⟨fun hz => ?_, nd⟩, fun y hy => ?_⟩
        · have := h z hz
          rw [vp, if_pos rfl] at this
          cases this
        · rcases List.mem_cons.mp hy with rfl | hy
          · exact hv
          · have := h y hy
            rw [vp] at this
            split at this
            · cases this
            · exact this
      · rintro ⟨⟨hz, nd⟩, h⟩
        refine ⟨nd, fun y hy => ?_⟩
        rw [vp, if_neg (fun q => hz (by cases q; exact hy))]
        exact h y (List.mem_cons_of_mem _ hy)
    | some v =>
      have hl : (putK kvs (Sum.inr z) (.bl true)).length = kvs.length := by
        unfold putK
        rw [if_pos (by rw [valV_any, hv]; rfl), List.length_map]
      rw [hl] at ih1 ih2
      simp only [List.length_cons]
      refine ⟨by omega, fun h => by omega, fun h => ?_⟩
      have := h.2 z List.mem_cons_self
      rw [hv] at this
      cases this
def sp_are_different (K : PySem.W.Frag) : Sp := fun vs H Q _ => ∃ (a : Addr) (zs : List Str), vs = [.ref a] ∧ Sq K H a (zs.map V.str) ∧ zs.length ≤ 1000 ∧ ∀ H', Ext H H' → Q (.bl (decide zs.Nodup)) H'
theorem sc_are_different : FnScope ["things", "thing"] ["things"] (defScope s_are_different) := ⟨rfl, rfl, rfl, by decide +kernel, rfl, by decide +kernel, by decide +kernel⟩
theorem ok_are_different (x : Fx K mg w) : FnR P w K mg base CX0 1 (a_are_different K) (sp_are_different K) := by
  refine okR x.F_are_different sc_are_different (fun _ _ _ _ _ _ us hl => match us, hl with | [_], _ => rfl) (fun vs H Q E h => by obtain ⟨a, zs, rfl, hs, hz, hQ⟩ := h; rfl) (fun cdv A outer s H vs Q E hr h => ?_)
  obtain ⟨a, zs, rfl, hs, hz, hQ⟩ := h
  refine ⟨_, (pss_one (ps_ret (pe_cmpR op_eq (pe_callB call_lenD rfl x.n_len bb_len (pa_cons (pe_dc (own := [("thing", 1)]) (tt := tYes) rfl sc_are_different.nd (pi_seqK (K := K) rfl (pv 0)) (blkOk_by (N := ["things", "thing"]) (sc := defScope s_are_different) (by decide +kernel)) (fun _ _ _ _ _ => (pg_name (i := 1) sc_are_different.nd rfl (Or.inl rfl))) (fun _ _ _ _ _ => pts_nil) (fun _ _ _ _ _ => (pv 1)) (fun _ _ _ _ _ => pe_bl)) pa_nil)) (pe_callB (r := rLenK K) call_lenK rfl x.n_len bb_len (pa_cons (pv 0) pa_nil)) (nomark _)))), ?_⟩
  refine seq_go rfl hs (fun z => z) fun J st D hD => dc_map st hD (fun v => (match v with | .str z => Sum.inr z | _ => Sum.inl 0, .bl true)) (by simpa using hz) (fun y H' Nx hy e c1 => ?_) (fun H' e hD' => ?_)
  · obtain ⟨z, hz, rfl⟩ := List.mem_map.mp hy
    exact ⟨rfl, _, rfl, c1 _ _ _ Ext.rfl' rfl rfl⟩
  · refine ⟨D, _, rfl, hD', _, rfl, _, _, rfl, sq_lenV (sq_ext hs e), rfl, ?_⟩
    rw [List.map_map]
    have h := hQ H' e
    obtain ⟨_, iff⟩ := put_len zs []
    have e1 : decide (V.int ↑(putAll [] (zs.map fun z => (Sum.inr z, V.bl true))).length = V.int ↑(zs.map V.str).length) = decide zs.Nodup := by
      rw [decide_eq_decide, List.length_map]
      constructor
      · intro q
        injection q with q
        exact (iff.mp (by simp; omega)).1
      · intro q
        have := iff.mpr ⟨q, fun z _ => rfl⟩
        congr 1
        simp at this
        omega
    show Q (.bl (decide (V.int ↑(putAll [] (zs.map fun z => (Sum.inr z, V.bl true))).length = V.int ↑(zs.map V.str).length))) H'
    rw [e1]
    exact h
def sp_are_names (K : PySem.W.Frag) : Sp := fun vs H Q _ => ∃ (a : Addr) (zs : List Str), vs = [.ref a] ∧ Sq K H a (zs.map V.str) ∧ zs.length ≤ 1000 ∧ (∀ z ∈ zs, z.length ≤ 1000) ∧ ∀ H', Ext H H' → Q (.bl (zs.all isName && decide zs.Nodup)) H'
theorem sc_are_names : FnScope ["thing", "name"] ["thing"] (defScope s_are_names) := ⟨rfl, rfl, rfl, by decide +kernel, rfl, by decide +kernel, by decide +kernel⟩
theorem ok_are_names (x : Fx K mg w) : FnR P w K mg base CX0 2 (a_are_names K) (sp_are_names K) := by
  refine okR x.F_are_names sc_are_names (fun _ _ _ _ _ _ us hl => match us, hl with | [_], _ => rfl) (fun vs H Q E h => by obtain ⟨a, zs, rfl, hs, hl, hz, hQ⟩ := h; rfl) (fun cdv A outer s H vs Q E hr h => ?_)
  obtain ⟨a, zs, rfl, hs, hl, hz, hQ⟩ := h
  refine ⟨_, (pss_one (ps_ret (pe_and (pe_callB (r := rIsiT K) call_isiT rfl x.n_isinstance bb_isinstance (pa_cons (pv 0) (pa_cons (pe_tup (pa_cons (pe_gT x.n_list (by rfl) rfl) (pa_cons (pe_gT x.n_tuple (by rfl) rfl) pa_nil))) pa_nil))) (pe_and (pe_callB (r := rAll K) (cr_all rfl) rfl x.n_all bb_all (pa_cons (pe_lc (own := [("name", 1)]) (tt := tYes) rfl sc_are_names.nd (pi_seqK (K := K) rfl (pv 0)) (blkOk_by (N := ["thing", "name"]) (sc := defScope s_are_names) (by decide +kernel)) (fun _ _ _ _ _ => (pg_name (i := 1) sc_are_names.nd rfl (Or.inl rfl))) (fun _ _ _ _ _ => pts_nil) (fun _ _ _ _ _ => (pe_callR (ok_is_name x) (hr.mono (by decide)) rfl x.m_is_name (keep_of x.F_is_name) pass0 (pa_cons (pv 1) pa_nil)))) pa_nil)) (pe_one (pe_callR (ok_are_different x) (hr.mono (by decide)) rfl x.m_are_different (keep_of x.F_are_different) pass0 (pa_cons (pv 0) pa_nil))))))), ?_⟩
  refine ⟨_, rfl, by simp [sizeLine_eq], fun p hp => ?_⟩
  obtain ⟨t, us, k1, k2, k3⟩ := isi_seq hs hp
  refine ⟨_, p, _, t, us, true, rfl, upd_same, k1, k2, k3, true, rfl, iteT ?_⟩
  clear k1 k2 k3
  have e0 : Ext H (upd H p (.tup [.ty "list", .ty "tuple"])) := ext_new hp
  generalize upd H p (.tup [.ty "list", .ty "tuple"]) = H1 at e0
  refine seq_go rfl (sq_ext hs e0) (fun z => z) fun J st D hD => lc_map st hD (fun v => match v with | .str z => some (.bl (isName z)) | _ => none) (by simpa using hl) (fun y H' Nx hy e c1 c2 => ?_) (fun H' e hD' => ?_)
  · obtain ⟨z, hm, rfl⟩ := List.mem_map.mp hy
    exact ⟨rfl, _, rfl, z, rfl, hz z hm, fun H4 e4 => c1 _ _ e4 rfl⟩
  · refine ⟨D, zs.map isName, rfl, .of ?_, ?_⟩
    · rw [hD']
      congr 2
      rw [List.filterMap_map, List.map_map]
      simp [Function.comp_def]
    · have hh : (zs.map isName).all id = zs.all isName := by simp [List.all_map, Function.comp_def]
      rw [hh]
      refine ⟨_, rfl, ifb (fun h1 => ?_) fun h1 => ?_⟩
      · refine ⟨_, rfl, a, zs, rfl, sq_ext hs (e0.trans e), hl, fun H4 e4 => ?_⟩
        have := hQ H4 ((e0.trans e).trans e4)
        rwa [h1, Bool.true_and] at this
      · have := hQ H' (e0.trans e)
        rwa [h1, Bool.false_and] at this
end
end Ws

set_option Elab.async false
set_option linter.all false
set_option maxRecDepth 100000
set_option maxHeartbeats 4000000
namespace Ws
open PySem PySem.Spec PyProof.Rows L2
theorem ifT {c : Bool} {A B : Prop} (h : c = true) (a : A) : if c = true then A else B := by rw [if_pos h]; exact a
theorem ifF {c : Bool} {A B : Prop} (h : c = false) (b : B) : if c = true then A else B := by rw [if_neg (by rw [h]; simp)]; exact b
structure RuleD where
  share : Int
  mark : Str
  always : Bool
  late : Bool
  deriving DecidableEq
def RuleD.vs (r : RuleD) : List V := [.int r.share, .str r.mark, .bl r.always, .bl r.late]
def RuleD.ok (r : RuleD) : Prop := 0 ≤ r.share ∧ r.share ≤ 1000 ∧ isName r.mark = true
theorem paired_mem {α β : Type} {R : α → β → Prop} : ∀ {xs : List α} {ys : List β} {a : α}, Paired R xs ys → a ∈ xs → ∃ b, b ∈ ys ∧ R a b
  | _, _, _, .nil, h => by simp at h
  | _, _, _, .cons r t, h => by
    rcases List.mem_cons.mp h with rfl | h
    · exact ⟨_, List.mem_cons_self, r⟩
    · obtain ⟨b, h1, h2⟩ := paired_mem t h
      exact ⟨b, List.mem_cons_of_mem _ h1, h2⟩
section
variable {S : Addr → Prop} {K : PySem.W.Frag} {H H1 : Hp} {a o q : Addr} {u : HO}
/-- all of S stands somewhere: what is new is not of S -/
def Dm (S : Addr → Prop) (H : Hp) : Prop := ∀ a, S a → H a ≠ none
theorem Dm.kp {T : Addr → Prop} (d : Dm S H) (u : Kp T H H1) : Dm S H1 := fun a h => u.dom a (d a h)
theorem Dm.ext (d : Dm S H) (u : Ext H H1) : Dm S H1 := d.kp (T := no) (.ext u)
theorem At.ext (h : At S H a u) (e : Ext H H1) : At S H1 a u := h.kp (.ext e)
theorem At.fresh (d : Dm S H) (h : H a = none) : At S (upd H a u) a u := .new d h
theorem At.free (h : At S H a u) : At no H a u := ⟨h.1, fun z => z⟩
/-- one more that may change -/
def more (S : Addr → Prop) (q : Addr) : Addr → Prop := fun a => S a ∨ a = q
theorem At.grow (h : At S H a u) (hq : H q = none) : At (more S q) H a u := ⟨h.1, fun z => z.elim h.2 fun z => by rw [← z, h.1] at hq; cases hq⟩
theorem At.ne (h : At S H a u) (hq : H q = none) : a ≠ q := ne_of_none h.1 hq
def RuleAt (S : Addr → Prop) (K : PySem.W.Frag) (H : Hp) (o : Addr) (r : RuleD) : Prop := r.ok ∧ ∃ dx p, At S H o (.ins (c_Rule K) dx [("r_parts", .ref p)]) ∧ At S H p (.tup r.vs)
theorem RuleAt.kp {r : RuleD} (h : RuleAt S K H o r) (e : Kp S H H1) : RuleAt S K H1 o r := by
  obtain ⟨g, dx, p, h1, h2⟩ := h
  exact ⟨g, dx, p, h1.kp e, h2.kp e⟩
theorem RuleAt.ext {r : RuleD} (h : RuleAt S K H o r) (e : Ext H H1) : RuleAt S K H1 o r := h.kp (.ext e)
theorem RuleAt.grow {r : RuleD} (h : RuleAt S K H o r) (hq : H q = none) : RuleAt (more S q) K H o r := by
  obtain ⟨g, dx, p, h1, h2⟩ := h
  exact ⟨g, dx, p, h1.grow hq, h2.grow hq⟩
theorem RuleAt.free {r : RuleD} (h : RuleAt S K H o r) : RuleAt no K H o r := by
  obtain ⟨g, dx, p, h1, h2⟩ := h
  exact ⟨g, dx, p, h1.free, h2.free⟩
abbrev RulesAt (S : Addr → Prop) (K : PySem.W.Frag) (H : Hp) : List Addr → List RuleD → Prop := Paired (RuleAt S K H)
/-- a list, or a tuple that is not to change -/
def SqA (S : Addr → Prop) (H : Hp) (a : Addr) (xs : List V) : Prop := H a = some (.lst xs) ∨ At S H a (.tup xs)
theorem SqA.sq {xs : List V} (h : SqA S H a xs) : Sq K H a xs := h.imp (fun h => .inl h) fun h => .inl h.1
theorem SqA.ext {xs : List V} (h : SqA S H a xs) (e : Ext H H1) : SqA S H1 a xs := h.imp (fun h => e _ _ h) fun h => h.ext e
end
theorem isName_len {z : Str} (h : isName z = true) : z.length ≤ 6 := by
  unfold isName at h
  simp at h
  exact h.2.1
/-- only o may change -/
abbrev one (o : Addr) : Addr → Prop := fun a => a = o
theorem made_ext {H H2 : Hp} {x dx : Addr} {C : Addr} (hx : H x = none) (hd : H dx = none) (u : Kp (one x) (upd (upd H dx (.own x)) x (.ins C dx [])) H2) : Ext H H2 := fun a o e => by
  have n1 : a ≠ x := ne_of_none e hx
  have n2 : a ≠ dx := ne_of_none e hd
  refine u.keep a o ?_ n1
  rw [upd_ne n1, upd_ne n2]
  exact e
section
variable {P : Program} {w : World} {K : PySem.W.Frag} {mg : Str → Option Value} {base : Heap}
def sp_Rule_init (K : PySem.W.Frag) : Sp := fun vs H Q _ => ∃ (S : Addr → Prop) (o dx : Addr) (r : RuleD), vs = [.ref o, .int r.share, .str r.mark, .bl r.always, .bl r.late] ∧ Dm S H ∧ At S H o (.ins (c_Rule K) dx []) ∧ r.ok ∧
  ∀ H', Kp (one o) H H' → RuleAt S K H' o r → Q .non H'
theorem sc_Rule_init : FnScope ["self", "share", "mark", "always", "late"] ["self", "share", "mark", "always", "late"] (defScope s_Rule_init) := ⟨rfl, rfl, rfl, by decide +kernel, rfl, by decide +kernel, by decide +kernel⟩
theorem okf_Rule_init {fd : FuncData} {dvs : List V} (F : FunD K "__init__" "Rule.__init__" (defArgs s_Rule_init) (defBody s_Rule_init) (defScope s_Rule_init) dvs [] (a_Rule_init K) fd) (x : Fx K mg w) : FnOk P w K mg base CX0 2 (a_Rule_init K) fd ["self", "share", "mark", "always", "late"] (sp_Rule_init K) := by
  refine okFD F sc_Rule_init (fun vs H Q E h => by obtain ⟨S, o, dx, r, rfl, dm, ho, ⟨g1, g2, g3⟩, hQ⟩ := h; rfl) (fun cdv A outer s H vs Q E hr h => ?_)
  obtain ⟨S, o, dx, r, rfl, dm, ho, ⟨g1, g2, g3⟩, hQ⟩ := h
  refine ⟨_, (pss_cons (ps_if (PW.pt (pw_or (pt_not (pt_val (pe_callR (ok_is_number x) (hr.mono (by decide)) rfl x.m_is_number (keep_of x.F_is_number) pass0 (pa_cons (pv 1) pa_nil)))) (pw_or1 (pt_not (pt_chain op_le op_le pe_int (pv 1) (pe_gI x.i_MOST_FINE rfl))))))
 (pss_one ps_never)
 pss_nil)
 (pss_cons (ps_if (pt_not (pt_val (pe_callR (ok_is_name x) (hr.mono (by decide)) rfl x.m_is_name (keep_of x.F_is_name) pass0 (pa_cons (pv 2) pa_nil))))
 (pss_one ps_never)
 pss_nil)
 (pss_cons (ps_if (pt_not (pt_val (pe_callB (r := rIsi K) call_isi rfl x.n_isinstance bb_isinstance (pa_cons (pv 3) (pa_cons (pe_gT x.n_bool (by rfl) rfl) pa_nil)))))
 (pss_one ps_never)
 pss_nil)
 (pss_cons (ps_if (pt_not (pt_val (pe_callB (r := rIsi K) call_isi rfl x.n_isinstance bb_isinstance (pa_cons (pv 4) (pa_cons (pe_gT x.n_bool (by rfl) rfl) pa_nil)))))
 (pss_one ps_never)
 pss_nil)
 (pss_one (ps_fld (pv 0) (pe_tup (pa_cons (pv 1) (pa_cons (pv 2) (pa_cons (pv 3) (pa_cons (pv 4) pa_nil))))) rfl)))))), ?_⟩
  refine ⟨_, rfl, _, rfl, true, rfl, ?_⟩
  refine ⟨_, rfl, _, _, rfl, rfl, _, rfl, ifT (decide_eq_true g1) ⟨_, _, rfl, rfl, _, rfl, ifF (by simp [g2]) ?_⟩⟩
  refine ⟨_, rfl, _, rfl, Nat.le_trans (isName_len g3) (by decide), fun H1 e1 => ⟨_, rfl, ifF (by simp [g3]) ?_⟩⟩
  refine ⟨_, rfl, _, _, _, _, true, rfl, .ty _, .base (.bl _), kit_ty (by decide +kernel), true, rfl, ?_⟩
  refine ⟨_, rfl, _, _, _, _, true, rfl, .ty _, .base (.bl _), kit_ty (by decide +kernel), true, rfl, ?_⟩
  refine ⟨_, rfl, _, rfl, _, rfl, _, rfl, by simp [sizeLine_eq], fun p hp => ⟨_, rfl, o, _, dx, [], rfl, ?_, x.cl_Rule, x.na_Rule_r_parts, by simp, ?_⟩⟩
  · exact ext_new hp _ _ (e1 _ _ ho.1)
  · have no : p ≠ o := fun z => by rw [z, e1 _ _ ho.1] at hp; cases hp
    exact hQ _ (((Kp.ext e1).add hp).put rfl) ⟨⟨g1, g2, g3⟩, dx, p, ⟨upd_same, ho.2⟩, by rw [upd_ne no, upd_same]; rfl, fun z => (dm.ext e1) p z hp⟩
theorem ok_Rule_init (x : Fx K mg w) : FnR P w K mg base CX0 2 (a_Rule_init K) (sp_Rule_init K) := by
  obtain ⟨fd, F⟩ := x.F_Rule_init
  exact rawFD F (by simp) (okf_Rule_init F x) (fun T kV doc pm an cdv ct us its hu hi => match us, hu, its, hi with | [_, _, _, _, _], _, [_, _, _], _ => ⟨_, rfl, rfl⟩)
def sp_Rule_share (S : Addr → Prop) (K : PySem.W.Frag) : Sp := fun vs H Q _ => ∃ (o : Addr) (r : RuleD), vs = [.ref o] ∧ RuleAt S K H o r ∧ Q (.int r.share) H
theorem sc_Rule_share : FnScope ["self"] ["self"] (defScope s_Rule_share) := ⟨rfl, rfl, rfl, by decide +kernel, rfl, by decide +kernel, by decide +kernel⟩
theorem ok_Rule_share (x : Fx K mg w) : FnR P w K mg base CX0 1 (a_Rule_share K) (sp_Rule_share no K) := by
  refine okR x.F_Rule_share sc_Rule_share (fun _ _ _ _ _ _ us hl => match us, hl with | [_], _ => rfl) (fun vs H Q E h => by obtain ⟨o, r, rfl, ⟨_, dx, p, h1, h2⟩, hQ⟩ := h; rfl) (fun cdv A outer s H vs Q E hr h => ?_)
  obtain ⟨o, r, rfl, ⟨_, dx, p, h1, h2⟩, hQ⟩ := h
  refine ⟨_, (pss_one (ps_ret (pe_ix (r := rIxT K) ix_tup (pe_fldK (K := K) rfl (pv 0) rfl) pe_int (fun _ _ => rfl)))), ?_⟩
  exact ⟨_, rfl, o, _, dx, _, _, rfl, h1.1, x.cl_Rule, x.na_Rule_r_parts, rfl, p, _, 0, _, rfl, rfl, SqT.of h2.1, atI_nat (j := 0) rfl, hQ⟩
/-- equal as two rules are -/
def RuleR (S : Addr → Prop) (K : PySem.W.Frag) (p q : Addr) (b : Bool) (H : Hp) : Prop := ∃ r r', RuleAt S K H p r ∧ RuleAt S K H q r' ∧ b = decide (r = r')
theorem isi_own {K : PySem.W.Frag} {H : Hp} {a C dx : Addr} {fs : List (Str × V)} (h : H a = some (.ins C dx fs)) (cl : Cls K C) (ha : PySem.W.findIn K (.ref C) "__class__" = some (some (.builtin "object.__class__")))
    (hn : PySem.W.specialIn K (.builtin "object.__class__") "__get__" = some (some (.builtin "getset_descriptor.__get__"))) (ht : PySem.W.takesIn K (.builtin "object.__class__") = some true)
    (hm : PySem.W.mroIn K C (.type "object") = some true) : TyX K H (.ref a) (.ref C) := .base (.ins h cl ha hn ht hm)
def RuleD.dat (r : RuleD) : PyData := .tuple [.int r.share, .str r.mark, .bool r.always, .bool r.late]
theorem rule_dp {K : PySem.W.Frag} {H : Hp} {p : Addr} {r : RuleD} (h : H p = some (.tup r.vs)) : Dp K H (.ref p) r.dat := .tup (SqT.of h) (.cons (.int _) (.cons (.str _) (.cons (.bl _) (.cons (.bl _) .nil))))
theorem isName_ok {z : Str} (h : isName z = true) : PyData.strOk z = true := by
  unfold isName at h
  simp only [Bool.and_eq_true, List.all_eq_true, decide_eq_true_eq] at h
  have key : ∀ c ∈ letters.cps.toList, c ∈ letters.cps.toList ∧ 97 ≤ c ∧ c ≤ 122 := by decide +kernel
  show z.cps.all (fun c => decide (c < 0x110000)) = true
  rw [← Array.all_toList, List.all_eq_true]
  intro c hc
  have := key c (h.2.2 c hc)
  exact decide_eq_true (by omega)
theorem rule_shaped {r : RuleD} (h : r.ok) : SeqAt.shaped r.dat = true := by
  unfold SeqAt.shaped RuleD.dat
  simp [PyData.canLay0, PyData.canLayAll0, PyData.depth, PyData.depthAll, isName_ok h.2.2]
theorem rule_eqv (r r' : RuleD) : PyData.eqv r.dat r'.dat = decide (r = r') := by
  obtain ⟨a, b, c, d⟩ := r
  obtain ⟨a', b', c', d'⟩ := r'
  simp only [RuleD.dat, PyData.eqv, PyData.eqvAll, RuleD.mk.injEq]
  rw [Bool.eq_iff_iff]
  simp
theorem sc_Rule_eq : FnScope ["self", "other"] ["self", "other"] (defScope s_Rule_eq) := ⟨rfl, rfl, rfl, by decide +kernel, rfl, by decide +kernel, by decide +kernel⟩
theorem ok_Rule_eq (x : Fx K mg w) : FnR P w K mg base CX0 1 (a_Rule_eq K) (spEqb (RuleR no K)) := by
  refine okR x.F_Rule_eq sc_Rule_eq (fun _ _ _ _ _ _ us hl => match us, hl with | [_, _], _ => rfl) (fun vs H Q E h => by obtain ⟨p, q, b, rfl, ⟨r, r', hp, hq, rfl⟩, hQ⟩ := h; rfl) (fun cdv A outer s H vs Q E hr h => ?_)
  obtain ⟨p, q, b, rfl, ⟨r, r', hp, hq, rfl⟩, hQ⟩ := h
  refine ⟨_, (pss_one (ps_ret (pe_and (pe_callB (r := rIsi K) call_isi rfl x.n_isinstance bb_isinstance (pa_cons (pv 1) (pa_cons (pe_gR x.m_Rule rfl) pa_nil))) (pe_one (pe_cmpR (show OpR _ _ (rEqD K) from op_eqD hr.units) (pe_fldK (K := K) rfl (pv 0) rfl) (pe_fldK (K := K) rfl (pv 1) rfl) (nomark _)))))), ?_⟩
  obtain ⟨g, dx, pp, h1, h2⟩ := hp
  obtain ⟨g', dy, pq, h3, h4⟩ := hq
  refine ⟨_, rfl, _, _, _, _, true, rfl, .own _, isi_own h3.1 x.cl_Rule x.cc_Rule x.cget x.ctak x.mro_Rule, x.kit_Rule, true, rfl, ?_⟩
  refine ⟨_, rfl, p, _, dx, _, _, rfl, h1.1, x.cl_Rule, x.na_Rule_r_parts, rfl, _, rfl, q, _, dy, _, _, rfl, h3.1, x.cl_Rule, x.na_Rule_r_parts, rfl, _, _, rule_dp h2.1, rule_dp h4.1, rule_shaped g, rule_shaped g', ?_⟩
  rw [rule_eqv]
  exact hQ H Ext.rfl'
def sp_are_rules (S : Addr → Prop) (K : PySem.W.Frag) : Sp := fun vs H Q _ => ∃ (a : Addr) (os : List Addr) (rs : List RuleD), vs = [.ref a] ∧ Sq K H a (os.map V.ref) ∧ RulesAt S K H os rs ∧ 1 ≤ rs.length ∧ rs.length ≤ 2 ∧ ∀ H', Ext H H' → Q (.bl true) H'
theorem sc_are_rules : FnScope ["thing", "rule"] ["thing"] (defScope s_are_rules) := ⟨rfl, rfl, rfl, by decide +kernel, rfl, by decide +kernel, by decide +kernel⟩
theorem ok_are_rules (x : Fx K mg w) : FnR P w K mg base CX0 1 (a_are_rules K) (sp_are_rules no K) := by
  refine okR x.F_are_rules sc_are_rules (fun _ _ _ _ _ _ us hl => match us, hl with | [_], _ => rfl) (fun vs H Q E h => by obtain ⟨a, os, rs, rfl, hs, hr2, l1, l2, hQ⟩ := h; rfl) (fun cdv A outer s H vs Q E hr h => ?_)
  obtain ⟨a, os, rs, rfl, hs, hr2, l1, l2, hQ⟩ := h
  refine ⟨_, (pss_cons (ps_if (PW.pt (pw_or (pt_not (pt_val (pe_callB (r := rIsiT K) call_isiT rfl x.n_isinstance bb_isinstance (pa_cons (pv 0) (pa_cons (pe_tup (pa_cons (pe_gT x.n_list (by rfl) rfl) (pa_cons (pe_gT x.n_tuple (by rfl) rfl) pa_nil))) pa_nil))))) (pw_or1 (pt_not (pt_chain op_le op_le pe_int (pe_callB (r := rLenK K) call_lenK rfl x.n_len bb_len (pa_cons (pv 0) pa_nil)) pe_int)))))
 (pss_one (ps_ret pe_bl))
 pss_nil)
 (pss_one (ps_ret (pe_callB (r := rAll K) (cr_all rfl) rfl x.n_all bb_all (pa_cons (pe_lc (own := [("rule", 1)]) (tt := tYes) rfl sc_are_rules.nd (pi_seqK (K := K) rfl (pv 0)) (blkOk_by (N := ["thing", "rule"]) (sc := defScope s_are_rules) (by decide +kernel)) (fun _ _ _ _ _ => (pg_name (i := 1) sc_are_rules.nd rfl (Or.inl rfl))) (fun _ _ _ _ _ => pts_nil) (fun _ _ _ _ _ => (pe_callB (r := rIsi K) call_isi rfl x.n_isinstance bb_isinstance (pa_cons (pv 1) (pa_cons (pe_gR x.m_Rule rfl) pa_nil))))) pa_nil))))), ?_⟩
  have hl := hr2.length
  refine ⟨_, rfl, by simp [sizeLine_eq], fun p hp => ?_⟩
  obtain ⟨t, us, k1, k2, k3⟩ := isi_seq hs hp
  refine ⟨_, p, _, t, us, true, rfl, upd_same, k1, k2, k3, true, rfl, ?_⟩
  clear k1 k2 k3
  have e0 : Ext H (upd H p (.tup [.ty "list", .ty "tuple"])) := ext_new hp
  generalize upd H p (.tup [.ty "list", .ty "tuple"]) = H1 at e0
  refine ⟨_, rfl, _, _, rfl, sq_lenV (sq_ext hs e0), _, _, rfl, rfl, _, rfl, ifT (decide_eq_true (by simp; omega)) ⟨_, _, rfl, rfl, _, rfl, ifF (by simp; omega) ?_⟩⟩
  refine seq_go rfl (sq_ext hs e0) (fun z => z) fun J st D hD => lc_map st hD (fun v => some (.bl true)) (by simp; omega) (fun y H' Nx hy e c1 c2 => ?_) (fun H' e hD' => ?_)
  · obtain ⟨z, hm, rfl⟩ := List.mem_map.mp hy
    obtain ⟨r, hr3⟩ := paired_mem hr2 hm
    obtain ⟨_, dx, pp, h1, h2⟩ := hr3.2.ext (e0.trans e)
    exact ⟨rfl, _, rfl, _, _, _, _, true, rfl, .own _, isi_own h1.1 x.cl_Rule x.cc_Rule x.cget x.ctak x.mro_Rule, x.kit_Rule, c1 _ _ Ext.rfl' rfl⟩
  · refine ⟨D, os.map fun _ => true, rfl, .of ?_, ?_⟩
    · rw [hD']
      congr 2
      rw [List.filterMap_map, List.map_map]
      simp [Function.comp_def]
    · have hh : (os.map fun _ => true).all id = true := by simp
      rw [hh]
      exact hQ H' (e0.trans e)
theorem inV_str (z : Str) (zs : List Str) : inV (.str z) (zs.map V.str) = decide (z ∈ zs) := by
  unfold inV
  rw [List.any_map, Bool.eq_iff_iff]
  simp only [List.any_eq_true, decide_eq_true_eq, Function.comp]
  constructor
  · rintro ⟨y, hy, e⟩
    have : y = z := by simpa [eqV] using e
    exact this ▸ hy
  · exact fun h => ⟨z, h, by simp [eqV]⟩
theorem flat_strs (zs : List Str) : (zs.map V.str).all flatV = true := by simp [flatV]
structure HouseD where
  rules : List RuleD
  calls : List Str
  lost : List Str
  fails : Bool
  deriving DecidableEq
/-- what a house may be made of -/
structure HouseD.Fit (m : HouseD) : Prop where
  r1 : 1 ≤ m.rules.length
  r2 : m.rules.length ≤ 2
  nm : ∀ z ∈ m.calls, isName z = true
  nd : m.calls.Nodup
  ln : m.calls.length < 64
  ndl : m.lost.Nodup
  sub : ∀ z ∈ m.lost, z ∈ m.calls
  lnl : m.lost.length < 64
/-- what is made of it -/
structure Made (m h : HouseD) : Prop where
  rules : h.rules = m.rules
  calls : h.calls.Perm m.calls
  sc : sortedS h.calls = true
  lost : h.lost.Perm m.lost
  sl : sortedS h.lost = true
  fails : h.fails = m.fails
theorem Made.fit {m h : HouseD} (d : Made m h) (f : m.Fit) : h.Fit := by
  refine ⟨by rw [d.rules]; exact f.r1, by rw [d.rules]; exact f.r2, fun z hz => f.nm z (d.calls.mem_iff.mp hz), d.calls.nodup_iff.mpr f.nd, by rw [d.calls.length_eq]; exact f.ln, d.lost.nodup_iff.mpr f.ndl, fun z hz => d.calls.mem_iff.mpr (f.sub z (d.lost.mem_iff.mp hz)), by rw [d.lost.length_eq]; exact f.lnl⟩
section
variable {S : Addr → Prop} {K : PySem.W.Frag} {H H1 : Hp} {a o q : Addr} {u v : HO}
def HouseAt (S : Addr → Prop) (K : PySem.W.Frag) (H : Hp) (o : Addr) (h : HouseD) : Prop := h.Fit ∧ sortedS h.calls = true ∧ sortedS h.lost = true ∧ ∃ dx pr pc pl os,
  At S H o (.ins (c_House K) dx [("h_rules", .ref pr), ("h_calls", .ref pc), ("h_lost", .ref pl), ("h_fails", .bl h.fails)]) ∧ At S H pr (.tup (os.map V.ref)) ∧ RulesAt S K H os h.rules ∧ At S H pc (.tup (h.calls.map V.str)) ∧ At S H pl (.tup (h.lost.map V.str))
theorem HouseAt.kp {h : HouseD} (t : HouseAt S K H o h) (e : Kp S H H1) : HouseAt S K H1 o h := by
  obtain ⟨f, s1, s2, dx, pr, pc, pl, os, h1, h2, h3, h4, h5⟩ := t
  exact ⟨f, s1, s2, dx, pr, pc, pl, os, h1.kp e, h2.kp e, Paired.mapP h3 fun _ _ z => z.kp e, h4.kp e, h5.kp e⟩
theorem HouseAt.ext {h : HouseD} (t : HouseAt S K H o h) (e : Ext H H1) : HouseAt S K H1 o h := t.kp (.ext e)
theorem HouseAt.grow {h : HouseD} (t : HouseAt S K H o h) (hq : H q = none) : HouseAt (more S q) K H o h := by
  obtain ⟨f, s1, s2, dx, pr, pc, pl, os, h1, h2, h3, h4, h5⟩ := t
  exact ⟨f, s1, s2, dx, pr, pc, pl, os, h1.grow hq, h2.grow hq, Paired.mapP h3 fun _ _ z => z.grow hq, h4.grow hq, h5.grow hq⟩
theorem HouseAt.free {h : HouseD} (t : HouseAt S K H o h) : HouseAt no K H o h := by
  obtain ⟨f, s1, s2, dx, pr, pc, pl, os, h1, h2, h3, h4, h5⟩ := t
  exact ⟨f, s1, s2, dx, pr, pc, pl, os, h1.free, h2.free, Paired.mapP h3 fun _ _ z => z.free, h4.free, h5.free⟩
/-- other things than the one at o -/
theorem At.off (h : At S H a u) (ho : H o = some v) (n : u ≠ v) (e : Kp (one o) H H1) : At S H1 a u := ⟨e.keep a u h.1 fun z => by
  have z : a = o := z
  have h1 := h.1
  rw [z, ho] at h1
  exact n (Option.some.inj h1).symm, h.2⟩
theorem RuleAt.off {r : RuleD} {C dx : Addr} (h : RuleAt S K H a r) (ho : H o = some (.ins C dx [])) (e : Kp (one o) H H1) : RuleAt S K H1 a r := by
  obtain ⟨g, dx', p, h1, h2⟩ := h
  exact ⟨g, dx', p, h1.off ho (by simp) e, h2.off ho (by simp) e⟩
end
/-- tuple(sorted(x)) -/
theorem srt_tup {i : Nat} {a : Addr} {σ : L2.St} {H : Hp} {zs : List Str} {Q : VK} (hv : σ[i]? = some (some (.ref a))) (h : Sq K H a (zs.map V.str)) (hl : zs.length < 64)
    (k : ∀ (ys : List Str) (p : Addr) (H' : Hp), ys.Perm zs → sortedS ys = true → Ext H H' → H p = none → H' p = some (.tup (ys.map V.str)) → Q (.ref p) H') :
    tCB (rTupOf K) (tCons (tCB (rSortS K) (tCons (tVar i) tNil)) tNil) σ H Q := by
  refine ⟨_, hv, a, zs, rfl, sq_s h, hl, fun ys p hp hs hn => ⟨p, _, rfl, .inl ⟨.of upd_same, fun l nl => ?_⟩⟩⟩
  have e1 : Ext H (upd H p (.lst (ys.map V.str))) := ext_new hn
  refine k ys l _ hp hs (e1.trans (ext_new nl)) ?_ upd_same
  cases q : H l with
  | none => rfl
  | some u => rw [e1 _ _ q] at nl; cases nl
/-- tuple(x) -/
theorem tup_of {i : Nat} {a : Addr} {S : Addr → Prop} {σ : L2.St} {H : Hp} {xs : List V} {Q : VK} (hv : σ[i]? = some (some (.ref a))) (h : SqA S H a xs) (dm : Dm S H)
    (k : ∀ (p : Addr) (H' : Hp), Ext H H' → At S H' p (.tup xs) → Q (.ref p) H') : tCB (rTupOf K) (tCons (tVar i) tNil) σ H Q := by
  rcases h with h | h
  · exact ⟨_, hv, a, xs, rfl, .inl ⟨.of h, fun l nl => k l _ (ext_new nl) (.fresh dm nl)⟩⟩
  · exact ⟨_, hv, a, xs, rfl, .inr ⟨.of h.1, k a H Ext.rfl' h⟩⟩
def sp_House_init (K : PySem.W.Frag) : Sp := fun vs H Q _ => ∃ (S : Addr → Prop) (o dx ar ac al : Addr) (os : List Addr) (m : HouseD), vs = [.ref o, .ref ar, .ref ac, .ref al, .bl m.fails] ∧ Dm S H ∧ At S H o (.ins (c_House K) dx []) ∧
  SqA S H ar (os.map V.ref) ∧ RulesAt S K H os m.rules ∧ Sq K H ac (m.calls.map V.str) ∧ Sq K H al (m.lost.map V.str) ∧ m.Fit ∧ ∀ H' h, Kp (one o) H H' → Made m h → HouseAt S K H' o h → Q .non H'
theorem sc_House_init : FnScope ["self", "rules", "calls", "lost", "fails", "name"] ["self", "rules", "calls", "lost", "fails"] (defScope s_House_init) := ⟨rfl, rfl, rfl, by decide +kernel, rfl, by decide +kernel, by decide +kernel⟩
theorem okf_House_init {fd : FuncData} {dvs : List V} (F : FunD K "__init__" "House.__init__" (defArgs s_House_init) (defBody s_House_init) (defScope s_House_init) dvs [] (a_House_init K) fd) (x : Fx K mg w) : FnOk P w K mg base CX0 3 (a_House_init K) fd ["self", "rules", "calls", "lost", "fails"] (sp_House_init K) := by
  refine okFD F sc_House_init (fun vs H Q E h => by obtain ⟨S, o, dx, ar, ac, al, os, m, rfl, dm, ho, hr1, hr2, hc, hl, f, hQ⟩ := h; rfl) (fun cdv A outer s H vs Q E hr h => ?_)
  obtain ⟨S, o, dx, ar, ac, al, os, m, rfl, dm, ho, hr1, hr2, hc, hl, f, hQ⟩ := h
  refine ⟨_, (pss_cons (ps_if (pt_not (pt_val (pe_callR (ok_are_rules x) (hr.mono (by decide)) rfl x.m_are_rules (keep_of x.F_are_rules) pass0 (pa_cons (pv 1) pa_nil))))
 (pss_one ps_never)
 pss_nil)
 (pss_cons (ps_if (pt_not (pt_val (pe_callR (ok_are_names x) (hr.mono (by decide)) rfl x.m_are_names (keep_of x.F_are_names) pass0 (pa_cons (pv 2) pa_nil))))
 (pss_one ps_never)
 pss_nil)
 (pss_cons (ps_if (PW.pt (pw_or (pt_not (pt_val (pe_callR (ok_are_names x) (hr.mono (by decide)) rfl x.m_are_names (keep_of x.F_are_names) pass0 (pa_cons (pv 3) pa_nil)))) (pw_or1 (pt_not (pt_val (pe_callB (r := rAll K) (cr_all rfl) rfl x.n_all bb_all (pa_cons (pe_lc (own := [("name", 5)]) (tt := tYes) rfl sc_House_init.nd (pi_seqK (K := K) rfl (pv 3)) (blkOk_by (N := ["self", "rules", "calls", "lost", "fails", "name"]) (sc := defScope s_House_init) (by decide +kernel)) (fun _ _ _ _ _ => (pg_name (i := 5) sc_House_init.nd rfl (Or.inl rfl))) (fun _ _ _ _ _ => pts_nil) (fun _ _ _ _ _ => (pe_cmpR (show OpR _ _ (rIn K false) from op_in_seq) (pv 5) (pv 2) rfl))) pa_nil)))))))
 (pss_one ps_never)
 pss_nil)
 (pss_cons (ps_if (pt_not (pt_val (pe_callB (r := rIsi K) call_isi rfl x.n_isinstance bb_isinstance (pa_cons (pv 4) (pa_cons (pe_gT x.n_bool (by rfl) rfl) pa_nil)))))
 (pss_one ps_never)
 pss_nil)
 (pss_cons (ps_fld (pv 0) (pe_callTy (r := rTupOf K) call_tupK rfl x.n_tuple bb_tuple (pa_cons (pv 1) pa_nil)) rfl)
 (pss_cons (ps_fld (pv 0) (pe_callTy (r := rTupOf K) call_tupK rfl x.n_tuple bb_tuple (pa_cons (pe_callB (r := rSortS K) call_sortS rfl x.n_sorted bb_sorted (pa_cons (pv 2) pa_nil)) pa_nil)) rfl)
 (pss_cons (ps_fld (pv 0) (pe_callTy (r := rTupOf K) call_tupK rfl x.n_tuple bb_tuple (pa_cons (pe_callB (r := rSortS K) call_sortS rfl x.n_sorted bb_sorted (pa_cons (pv 3) pa_nil)) pa_nil)) rfl)
 (pss_one (ps_fld (pv 0) (pv 4) rfl))))))))), ?_⟩
  have names6 : ∀ z ∈ m.calls, z.length ≤ 1000 := fun z hz => Nat.le_trans (isName_len (f.nm z hz)) (by decide)
  have nc : (m.calls.all isName && decide m.calls.Nodup) = true := by simp [f.nd]; exact f.nm
  have nl : (m.lost.all isName && decide m.lost.Nodup) = true := by simp [f.ndl]; exact fun z hz => f.nm z (f.sub z hz)
  have fl := f.ln
  have fl2 := f.lnl
  refine ⟨_, rfl, ar, os, m.rules, rfl, hr1.sq, Paired.mapP hr2 fun _ _ z => z.free, f.r1, f.r2, fun H1 e1 => ⟨true, rfl, ?_⟩⟩
  refine ⟨_, rfl, ac, m.calls, rfl, sq_ext hc e1, by omega, names6, fun H2 e2 => ⟨_, rfl, ifF (by simp [nc]) ?_⟩⟩
  refine ⟨_, rfl, al, m.lost, rfl, sq_ext hl (e1.trans e2), by omega, fun z hz => names6 z (f.sub z hz), fun H3 e3 => ⟨_, rfl, ifF (by simp [nl]) ?_⟩⟩
  have e13 := (e1.trans e2).trans e3
  refine seq_go rfl (sq_ext hl e13) (fun z => z) fun J st D hD => lc_map st hD (fun v => match v with | .str z => some (.bl (decide (z ∈ m.calls))) | _ => none) (by simp; omega) (fun y H' Nx hy e c1 c2 => ?_) (fun H4 e4 hD' => ?_)
  · obtain ⟨z, hm, rfl⟩ := List.mem_map.mp hy
    refine ⟨rfl, _, rfl, _, rfl, ac, _, rfl, sq_s (sq_ext hc (e13.trans e)), rfl, flat_strs _, ?_⟩
    exact c1 _ _ Ext.rfl' (by simp [inV_str])
  refine ⟨D, m.lost.map fun z => decide (z ∈ m.calls), rfl, .of ?_, ?_⟩
  · rw [hD']
    congr 2
    rw [List.filterMap_map, List.map_map]
    simp [Function.comp_def]
  have hh : (m.lost.map fun z => decide (z ∈ m.calls)).all id = true := by simp; exact f.sub
  rw [hh]
  refine ⟨true, rfl, ?_⟩
  refine ⟨_, rfl, _, _, _, _, true, rfl, .ty _, .base (.bl _), kit_ty (by decide +kernel), true, rfl, ?_⟩
  have e14 := e13.trans e4
  clear hD' hh st
  refine tup_of rfl (hr1.ext e14) (dm.ext e14) fun pr H5 e5 t5 => ?_
  have o5 : H5 o = some (.ins (c_House K) dx []) := e5 _ _ (e14 _ _ ho.1)
  refine ⟨_, rfl, o, _, dx, [], rfl, o5, x.cl_House, x.na_House_h_rules, by simp, ?_⟩
  have n5 : pr ≠ o := ne_of t5.1 o5 (by simp)
  have u6 : Kp (one o) H (upd H5 o (.ins (c_House K) dx [("h_rules", .ref pr)])) := (Kp.ext (e14.trans e5)).put rfl
  have r6 : (upd H5 o (.ins (c_House K) dx [("h_rules", .ref pr)])) pr = some (.tup (os.map V.ref)) := by rw [upd_ne n5]; exact t5.1
  have o6 : (upd H5 o (.ins (c_House K) dx [("h_rules", .ref pr)])) o = some (.ins (c_House K) dx [("h_rules", .ref pr)]) := upd_same
  show _
  change tSeq _ _ _ _ (upd H5 o (.ins (c_House K) dx [("h_rules", .ref pr)]))
  generalize upd H5 o (.ins (c_House K) dx [("h_rules", .ref pr)]) = H6 at u6 r6 o6
  refine srt_tup rfl (sq_kp (S := one o) hc (sq_ne hc ho.1) u6) fl fun ys pc H7 py sy e7 np7 t7 => ?_
  refine ⟨_, rfl, o, _, dx, _, rfl, e7 _ _ o6, x.cl_House, x.na_House_h_calls, by simp, ?_⟩
  have n7 : pc ≠ o := fun z => by rw [z, o6] at np7; cases np7
  have m7 : pc ≠ pr := fun z => by rw [z, r6] at np7; cases np7
  change tSeq _ _ _ _ (upd H7 o (.ins (c_House K) dx [("h_rules", .ref pr), ("h_calls", .ref pc)]))
  have u8 : Kp (one o) H (upd H7 o (.ins (c_House K) dx [("h_rules", .ref pr), ("h_calls", .ref pc)])) := (u6.trans (.ext e7)).put rfl
  have r8 : (upd H7 o (.ins (c_House K) dx [("h_rules", .ref pr), ("h_calls", .ref pc)])) pr = some (.tup (os.map V.ref)) := by rw [upd_ne n5]; exact e7 _ _ r6
  have t8 : (upd H7 o (.ins (c_House K) dx [("h_rules", .ref pr), ("h_calls", .ref pc)])) pc = some (.tup (ys.map V.str)) := by rw [upd_ne n7]; exact t7
  have o8 : (upd H7 o (.ins (c_House K) dx [("h_rules", .ref pr), ("h_calls", .ref pc)])) o = some (.ins (c_House K) dx [("h_rules", .ref pr), ("h_calls", .ref pc)]) := upd_same
  have s7 : ¬ S pc := fun z => dm.kp u6 pc z np7
  generalize upd H7 o (.ins (c_House K) dx [("h_rules", .ref pr), ("h_calls", .ref pc)]) = H8 at u8 r8 t8 o8
  refine srt_tup rfl (sq_kp (S := one o) hl (sq_ne hl ho.1) u8) fl2 fun zs pl H9 pz sz e9 np9 t9 => ?_
  have n9 : pl ≠ o := fun z => by rw [z, o8] at np9; cases np9
  have s9 : ¬ S pl := fun z => dm.kp u8 pl z np9
  refine ⟨_, rfl, o, _, dx, _, rfl, e9 _ _ o8, x.cl_House, x.na_House_h_lost, by simp, ?_⟩
  refine ⟨_, rfl, _, rfl, o, _, dx, _, rfl, upd_same, x.cl_House, x.na_House_h_fails, Nat.lt_of_le_of_lt (length_putF _ _ _) (by simp), ?_⟩
  have p4 : putF "h_fails" (.bl m.fails) (putF "h_lost" (.ref pl) [("h_rules", .ref pr), ("h_calls", .ref pc)]) = ([("h_rules", .ref pr), ("h_calls", .ref pc), ("h_lost", .ref pl), ("h_fails", .bl m.fails)] : List (Str × V)) := by rfl
  rw [upd_upd, p4]
  have u10 : Kp (one o) H (upd H9 o (.ins (c_House K) dx [("h_rules", .ref pr), ("h_calls", .ref pc), ("h_lost", .ref pl), ("h_fails", .bl m.fails)])) := (u8.trans (.ext e9)).put rfl
  have md : Made m ⟨m.rules, ys, zs, m.fails⟩ := ⟨rfl, py, sy, pz, sz, rfl⟩
  refine hQ _ ⟨m.rules, ys, zs, m.fails⟩ u10 md ⟨md.fit f, sy, sz, dx, pr, pc, pl, os, ⟨upd_same, ho.2⟩, ⟨by rw [upd_ne n5]; exact e9 _ _ r8, t5.2⟩, Paired.mapP hr2 fun _ _ z => z.off ho.1 u10, ⟨by rw [upd_ne n7]; exact e9 _ _ t8, s7⟩, ⟨by rw [upd_ne n9]; exact t9, s9⟩⟩
end
end Ws

set_option Elab.async false
set_option linter.all false
set_option maxRecDepth 100000
set_option maxHeartbeats 4000000
namespace Ws
open PySem PySem.Spec PyProof.Rows L2
/-! ### sorted rows of words -/
abbrev LeS (a b : Str) : Prop := a.cps.toList ≤ b.cps.toList
theorem le_of_cps {a b : Str} (h : (!PySem.Spec.ltCps b.cps.toList a.cps.toList) = true) : LeS a b := by
  rw [ltCps_eq] at h
  simpa using h
theorem rising_pw : ∀ {l : List Str} {p : Str}, risingS p l = true → (∀ z ∈ l, LeS p z) ∧ l.Pairwise LeS
  | [], _, _ => ⟨fun z h => by simp at h, .nil⟩
  | x :: r, p, h => by
    obtain ⟨h1, h2⟩ := Bool.and_eq_true_iff.mp (show ((!PySem.Spec.ltCps x.cps.toList p.cps.toList) && risingS x r) = true from h)
    obtain ⟨i1, i2⟩ := rising_pw h2
    have h3 := le_of_cps h1
    refine ⟨fun z hz => ?_, .cons i1 i2⟩
    rcases List.mem_cons.mp hz with rfl | hz
    · exact h3
    · exact List.le_trans h3 (i1 z hz)
theorem sorted_pw : ∀ {l : List Str}, sortedS l = true → l.Pairwise LeS
  | [], _ => .nil
  | x :: r, h => .cons (rising_pw h).1 (rising_pw h).2
theorem str_cps {a b : Str} (h : a.cps.toList = b.cps.toList) : a = b := by
  cases a; cases b
  congr 1
  exact Array.toList_inj.mp h
theorem sorted_eq {l m : List Str} (h : sortedS l = true) (h' : sortedS m = true) (p : l.Perm m) : l = m :=
  p.eq_of_pairwise (fun a b _ _ h1 h2 => str_cps (List.le_antisymm h1 h2)) (sorted_pw h) (sorted_pw h')
theorem made_eq {m h h' : HouseD} (d : Made m h) (d' : Made m h') : h = h' := by
  obtain ⟨a, b, c, e⟩ := h
  obtain ⟨a', b', c', e'⟩ := h'
  have h1 := d.rules.trans d'.rules.symm
  have h2 := sorted_eq d.sc d'.sc (d.calls.trans d'.calls.symm)
  have h3 := sorted_eq d.sl d'.sl (d.lost.trans d'.lost.symm)
  have h4 := d.fails.trans d'.fails.symm
  simp only at h1 h2 h3 h4
  rw [h1, h2, h3, h4]
section
variable {S : Addr → Prop} {K : PySem.W.Frag} {H H1 : Hp} {a o q : Addr}
theorem RuleAt.inj {r r' : RuleD} (h : RuleAt S K H o r) (h' : RuleAt S K H o r') : r = r' := by
  obtain ⟨_, dx, p, h1, h2⟩ := h
  obtain ⟨_, dx', p', h1', h2'⟩ := h'
  have e := h1.1.symm.trans h1'.1
  simp only [Option.some.injEq, HO.ins.injEq, List.cons.injEq, Prod.mk.injEq, V.ref.injEq, true_and, and_true] at e
  obtain ⟨_, rfl⟩ := e
  have e := h2.1.symm.trans h2'.1
  obtain ⟨a, b, c, d⟩ := r
  obtain ⟨a', b', c', d'⟩ := r'
  simpa [RuleD.vs] using e
theorem rules_inj : ∀ {os : List Addr} {rs rs' : List RuleD}, RulesAt S K H os rs → RulesAt S K H os rs' → rs = rs'
  | _, _, _, .nil, .nil => rfl
  | _, _, _, .cons h t, .cons h' t' => by rw [h.inj h', rules_inj t t']
theorem refs_inj : ∀ {os os' : List Addr}, os.map V.ref = os'.map V.ref → os = os'
  | [], [], _ => rfl
  | [], _ :: _, h => by simp at h
  | _ :: _, [], h => by simp at h
  | a :: os, b :: os', h => by
    simp only [List.map_cons, List.cons.injEq, V.ref.injEq] at h
    rw [h.1, refs_inj h.2]
theorem strs_inj : ∀ {os os' : List Str}, os.map V.str = os'.map V.str → os = os'
  | [], [], _ => rfl
  | [], _ :: _, h => by simp at h
  | _ :: _, [], h => by simp at h
  | a :: os, b :: os', h => by
    simp only [List.map_cons, List.cons.injEq, V.str.injEq] at h
    rw [h.1, strs_inj h.2]
theorem HouseAt.inj {h h' : HouseD} (t : HouseAt S K H o h) (t' : HouseAt S K H o h') : h = h' := by
  obtain ⟨_, _, _, dx, pr, pc, pl, os, h1, h2, h3, h4, h5⟩ := t
  obtain ⟨_, _, _, dx', pr', pc', pl', os', h1', h2', h3', h4', h5'⟩ := t'
  have e := h1.1.symm.trans h1'.1
  simp only [Option.some.injEq, HO.ins.injEq, List.cons.injEq, Prod.mk.injEq, V.ref.injEq, V.bl.injEq, true_and, and_true] at e
  obtain ⟨_, rfl, rfl, rfl, ef⟩ := e
  have e2 := h2.1.symm.trans h2'.1
  have e4 := h4.1.symm.trans h4'.1
  have e5 := h5.1.symm.trans h5'.1
  simp only [Option.some.injEq, HO.tup.injEq] at e2 e4 e5
  have e3 := refs_inj e2
  subst e3
  obtain ⟨a, b, c, d⟩ := h
  obtain ⟨a', b', c', d'⟩ := h'
  simp only at ef e4 e5 h3 h3'
  rw [ef, strs_inj e4, strs_inj e5, rules_inj h3 h3']
/-! ### under locks of dicts -/
theorem At.nd {u : HO} (h : At no H a u) (e : Nd H H1) (n : ∀ kvs, u ≠ .dK kvs) : At no H1 a u := ⟨e _ _ h.1 n, h.2⟩
theorem RuleAt.nd {r : RuleD} (h : RuleAt no K H o r) (e : Nd H H1) : RuleAt no K H1 o r := by
  obtain ⟨g, dx, p, h1, h2⟩ := h
  exact ⟨g, dx, p, h1.nd e (by simp), h2.nd e (by simp)⟩
theorem HouseAt.nd {h : HouseD} (t : HouseAt no K H o h) (e : Nd H H1) : HouseAt no K H1 o h := by
  obtain ⟨f, s1, s2, dx, pr, pc, pl, os, h1, h2, h3, h4, h5⟩ := t
  exact ⟨f, s1, s2, dx, pr, pc, pl, os, h1.nd e (by simp), h2.nd e (by simp), Paired.mapP h3 fun _ _ z => z.nd e, h4.nd e (by simp), h5.nd e (by simp)⟩
abbrev DRule (K : PySem.W.Frag) : Eqb := DIn (c_Rule K) (RuleR no K)
theorem mon_rule : MonN (DRule K) := DIn.mon fun p q b H H' e h => by
  obtain ⟨r, r', h1, h2, rfl⟩ := h
  exact ⟨r, r', h1.nd e, h2.nd e, rfl⟩
def HouseR (K : PySem.W.Frag) (p q : Addr) (b : Bool) (H : Hp) : Prop := ∃ h h', HouseAt no K H p h ∧ HouseAt no K H q h' ∧ b = decide (h = h')
abbrev DHouse (K : PySem.W.Frag) : Eqb := DIn (c_House K) (HouseR K)
theorem mon_house : MonN (DHouse K) := DIn.mon fun p q b H H' e h => by
  obtain ⟨r, r', h1, h2, rfl⟩ := h
  exact ⟨r, r', h1.nd e, h2.nd e, rfl⟩
theorem rules_row : ∀ {os os' : List Addr} {rs rs' : List RuleD}, RulesAt no K H os rs → RulesAt no K H os' rs' → Row (DRule K) (os.map V.ref) (os'.map V.ref) (decide (rs = rs')) H
  | _, _, _, _, .nil, .nil => by simp [Row]
  | _, _, _, _, .nil, .cons _ _ => by simp [Row]
  | _, _, _, _, .cons _ _, .nil => by simp [Row]
  | _, _, _, _, .cons (a := a) (b := r) h t, .cons (a := a') (b := r') h' t' => by
    refine ⟨decide (r = r'), _, ?_, rules_row t t', by simp⟩
    obtain ⟨_, dx, p, h1, h2⟩ := id h
    obtain ⟨_, dx', p', h1', h2'⟩ := id h'
    exact ⟨a, a', dx, dx', _, _, rfl, rfl, h1.1, h1'.1, fun z => by subst z; exact decide_eq_true (h.inj h'), r, r', h, h', rfl⟩
end
/-! ### words as data -/
theorem strs_dp {K : PySem.W.Frag} {H : Hp} : ∀ zs : List Str, DpAll K H (zs.map V.str) (zs.map PyData.str)
  | [] => .nil
  | z :: zs => .cons (.str z) (strs_dp zs)
theorem strs_eqv : ∀ zs zs' : List Str, PyData.eqvAll (zs.map PyData.str) (zs'.map PyData.str) = decide (zs = zs')
  | [], [] => by simp [PyData.eqvAll]
  | [], _ :: _ => by simp [PyData.eqvAll]
  | _ :: _, [] => by simp [PyData.eqvAll]
  | z :: zs, y :: ys => by
    simp only [List.map_cons, PyData.eqvAll, PyData.eqv, strs_eqv zs ys]
    rw [Bool.eq_iff_iff]
    simp
theorem strs_lay : ∀ {zs : List Str}, (∀ z ∈ zs, isName z = true) → PyData.canLayAll0 (zs.map PyData.str) = true
  | [], _ => rfl
  | z :: zs, h => by
    simp only [List.map_cons, PyData.canLayAll0, PyData.canLay0]
    rw [isName_ok (h z List.mem_cons_self), strs_lay fun y hy => h y (List.mem_cons_of_mem _ hy)]
    rfl
theorem strs_depth : ∀ zs : List Str, PyData.depthAll (zs.map PyData.str) = 0
  | [] => rfl
  | z :: zs => by
    simp only [List.map_cons, PyData.depthAll, PyData.depth, strs_depth zs]
    rfl
section
variable {P : Program} {w : World} {K : PySem.W.Frag} {mg : Str → Option Value} {base : Heap}
theorem ok_House_init (x : Fx K mg w) : FnR P w K mg base CX0 3 (a_House_init K) (sp_House_init K) := by
  obtain ⟨fd, F⟩ := x.F_House_init
  exact rawFD F (by simp) (okf_House_init F x) (fun T kV doc pm an cdv ct us its hu hi => match us, hu, its, hi with | [_, _, _, _, _], _, [_, _, _], _ => ⟨_, rfl, rfl⟩)
def sp_House_rules (K : PySem.W.Frag) : Sp := fun vs H Q _ => ∃ (S : Addr → Prop) (o : Addr) (h : HouseD), vs = [.ref o] ∧ HouseAt S K H o h ∧ ∀ p os, At S H p (.tup (os.map V.ref)) → RulesAt S K H os h.rules → Q (.ref p) H
theorem sc_House_rules : FnScope ["self"] ["self"] (defScope s_House_rules) := ⟨rfl, rfl, rfl, by decide +kernel, rfl, by decide +kernel, by decide +kernel⟩
theorem ok_House_rules (x : Fx K mg w) : FnR P w K mg base CX0 1 (a_House_rules K) (sp_House_rules K) := by
  refine okR x.F_House_rules sc_House_rules (fun _ _ _ _ _ _ us hl => match us, hl with | [_], _ => rfl) (fun vs H Q E h => by obtain ⟨S, o, h, rfl, ⟨_, _, _, dx, pr, pc, pl, os, h1, h2, h3, h4, h5⟩, hQ⟩ := h; rfl) (fun cdv A outer s H vs Q E hr h => ?_)
  obtain ⟨S, o, h, rfl, ⟨_, _, _, dx, pr, pc, pl, os, h1, h2, h3, h4, h5⟩, hQ⟩ := h
  refine ⟨_, (pss_one (ps_ret (pe_fldK (K := K) rfl (pv 0) rfl))), ?_⟩
  exact ⟨_, rfl, o, _, dx, _, _, rfl, h1.1, x.cl_House, x.na_House_h_rules, rfl, hQ _ _ h2 h3⟩
def sp_House_calls (K : PySem.W.Frag) : Sp := fun vs H Q _ => ∃ (S : Addr → Prop) (o : Addr) (h : HouseD), vs = [.ref o] ∧ HouseAt S K H o h ∧ ∀ p, At S H p (.tup (h.calls.map V.str)) → Q (.ref p) H
theorem sc_House_calls : FnScope ["self"] ["self"] (defScope s_House_calls) := ⟨rfl, rfl, rfl, by decide +kernel, rfl, by decide +kernel, by decide +kernel⟩
theorem ok_House_calls (x : Fx K mg w) : FnR P w K mg base CX0 1 (a_House_calls K) (sp_House_calls K) := by
  refine okR x.F_House_calls sc_House_calls (fun _ _ _ _ _ _ us hl => match us, hl with | [_], _ => rfl) (fun vs H Q E h => by obtain ⟨S, o, h, rfl, ⟨_, _, _, dx, pr, pc, pl, os, h1, h2, h3, h4, h5⟩, hQ⟩ := h; rfl) (fun cdv A outer s H vs Q E hr h => ?_)
  obtain ⟨S, o, h, rfl, ⟨_, _, _, dx, pr, pc, pl, os, h1, h2, h3, h4, h5⟩, hQ⟩ := h
  refine ⟨_, (pss_one (ps_ret (pe_fldK (K := K) rfl (pv 0) rfl))), ?_⟩
  exact ⟨_, rfl, o, _, dx, _, _, rfl, h1.1, x.cl_House, x.na_House_h_calls, rfl, hQ _ h4⟩
def sp_House_lost (K : PySem.W.Frag) : Sp := fun vs H Q _ => ∃ (S : Addr → Prop) (o : Addr) (h : HouseD), vs = [.ref o] ∧ HouseAt S K H o h ∧ ∀ p, At S H p (.tup (h.lost.map V.str)) → Q (.ref p) H
theorem sc_House_lost : FnScope ["self"] ["self"] (defScope s_House_lost) := ⟨rfl, rfl, rfl, by decide +kernel, rfl, by decide +kernel, by decide +kernel⟩
theorem ok_House_lost (x : Fx K mg w) : FnR P w K mg base CX0 1 (a_House_lost K) (sp_House_lost K) := by
  refine okR x.F_House_lost sc_House_lost (fun _ _ _ _ _ _ us hl => match us, hl with | [_], _ => rfl) (fun vs H Q E h => by obtain ⟨S, o, h, rfl, ⟨_, _, _, dx, pr, pc, pl, os, h1, h2, h3, h4, h5⟩, hQ⟩ := h; rfl) (fun cdv A outer s H vs Q E hr h => ?_)
  obtain ⟨S, o, h, rfl, ⟨_, _, _, dx, pr, pc, pl, os, h1, h2, h3, h4, h5⟩, hQ⟩ := h
  refine ⟨_, (pss_one (ps_ret (pe_fldK (K := K) rfl (pv 0) rfl))), ?_⟩
  exact ⟨_, rfl, o, _, dx, _, _, rfl, h1.1, x.cl_House, x.na_House_h_lost, rfl, hQ _ h5⟩
def sp_House_fails (K : PySem.W.Frag) : Sp := fun vs H Q _ => ∃ (S : Addr → Prop) (o : Addr) (h : HouseD), vs = [.ref o] ∧ HouseAt S K H o h ∧ Q (.bl h.fails) H
theorem sc_House_fails : FnScope ["self"] ["self"] (defScope s_House_fails) := ⟨rfl, rfl, rfl, by decide +kernel, rfl, by decide +kernel, by decide +kernel⟩
theorem ok_House_fails (x : Fx K mg w) : FnR P w K mg base CX0 1 (a_House_fails K) (sp_House_fails K) := by
  refine okR x.F_House_fails sc_House_fails (fun _ _ _ _ _ _ us hl => match us, hl with | [_], _ => rfl) (fun vs H Q E h => by obtain ⟨S, o, h, rfl, ⟨_, _, _, dx, pr, pc, pl, os, h1, h2, h3, h4, h5⟩, hQ⟩ := h; rfl) (fun cdv A outer s H vs Q E hr h => ?_)
  obtain ⟨S, o, h, rfl, ⟨_, _, _, dx, pr, pc, pl, os, h1, h2, h3, h4, h5⟩, hQ⟩ := h
  refine ⟨_, (pss_one (ps_ret (pe_fldK (K := K) rfl (pv 0) rfl))), ?_⟩
  exact ⟨_, rfl, o, _, dx, _, _, rfl, h1.1, x.cl_House, x.na_House_h_fails, rfl, hQ⟩
/-- a house is made -/
theorem make_house {S : Addr → Prop} {H1 : Hp} {ar ac al : Addr} {os : List Addr} {m : HouseD} {Q : Addr → Hp → Prop} {E : XK} (dm : Dm S H1) (h1 : SqA S H1 ar (os.map V.ref)) (h2 : RulesAt S K H1 os m.rules) (h3 : Sq K H1 ac (m.calls.map V.str)) (h4 : Sq K H1 al (m.lost.map V.str))
    (f : m.Fit) (k : ∀ r H' h, Ext H1 H' → Made m h → HouseAt S K H' r h → Q r H') :
    ∀ r dx, H1 r = none → H1 dx = none → dx ≠ r → sp_House_init K (.ref r :: [.ref ar, .ref ac, .ref al, .bl m.fails]) (upd (upd H1 dx (.own r)) r (.ins (c_House K) dx [])) (fun v H2 => v = .non ∧ Q r H2) E := by
  intro r dx hr hd ne
  have e0 : Ext H1 (upd (upd H1 dx (.own r)) r (.ins (c_House K) dx [])) := (ext_new hd).trans (ext_new (by rw [upd_ne (Ne.symm ne)]; exact hr))
  refine ⟨S, r, dx, ar, ac, al, os, m, rfl, dm.ext e0, ⟨upd_same, fun z => dm r z hr⟩, h1.ext e0, Paired.mapP h2 fun _ _ z => z.ext e0, sq_ext h3 e0, sq_ext h4 e0, f, fun H' h u md t => ⟨rfl, k r H' h (made_ext hr hd u) md t⟩⟩
def sp_House_with_rules (K : PySem.W.Frag) : Sp := fun vs H Q _ => ∃ (S : Addr → Prop) (o ar : Addr) (h : HouseD) (os : List Addr) (rs : List RuleD), vs = [.ref o, .ref ar] ∧ Dm S H ∧ HouseAt S K H o h ∧ SqA S H ar (os.map V.ref) ∧ RulesAt S K H os rs ∧
  1 ≤ rs.length ∧ rs.length ≤ 2 ∧ ∀ r H', Ext H H' → HouseAt S K H' r { h with rules := rs } → Q (.ref r) H'
end
end Ws

set_option Elab.async false
set_option linter.all false
set_option maxRecDepth 100000
set_option maxHeartbeats 4000000
namespace Ws
open PySem PySem.Spec PyProof.Rows L2
def HouseD.dat (h : HouseD) : PyData := .tuple [.tuple (h.calls.map .str), .tuple (h.lost.map .str), .bool h.fails]
theorem house_shaped {h : HouseD} (f : h.Fit) : SeqAt.shaped h.dat = true := by
  unfold SeqAt.shaped HouseD.dat
  simp [PyData.canLay0, PyData.canLayAll0, PyData.depth, PyData.depthAll, strs_depth, strs_lay f.nm, strs_lay fun z hz => f.nm z (f.sub z hz)]
theorem house_eqv (h h' : HouseD) : PyData.eqv h.dat h'.dat = (decide (h.calls = h'.calls) && (decide (h.lost = h'.lost) && decide (h.fails = h'.fails))) := by
  simp only [HouseD.dat, PyData.eqv, PyData.eqvAll, strs_eqv]
  rw [Bool.eq_iff_iff]
  simp
section
variable {P : Program} {w : World} {K : PySem.W.Frag} {mg : Str → Option Value} {base : Heap}
theorem house_dp {H : Hp} {p pc pl : Addr} {h : HouseD} (hp : H p = some (.tup [.ref pc, .ref pl, .bl h.fails])) (h1 : H pc = some (.tup (h.calls.map V.str))) (h2 : H pl = some (.tup (h.lost.map V.str))) : Dp K H (.ref p) h.dat :=
  .tup (SqT.of hp) (.cons (.tup (SqT.of h1) (strs_dp _)) (.cons (.tup (SqT.of h2) (strs_dp _)) (.cons (.bl _) .nil)))
theorem sc_House_eq : FnScope ["self", "other", "mine"] ["self", "other"] (defScope s_House_eq) := ⟨rfl, rfl, rfl, by decide +kernel, rfl, by decide +kernel, by decide +kernel⟩
theorem ok_House_eq (x : Fx K mg w) : FnR P w K mg base CX0 3 (a_House_eq K) (spEqb (HouseR K)) := by
  refine okR x.F_House_eq sc_House_eq (fun _ _ _ _ _ _ us hl => match us, hl with | [_, _], _ => rfl) (fun vs H Q E h => by obtain ⟨p, q, b, rfl, ⟨h, h', hp, hq, rfl⟩, hQ⟩ := h; rfl) (fun cdv A outer s H vs Q E hr h => ?_)
  obtain ⟨p, q, b, rfl, ⟨h, h', hp, hq, rfl⟩, hQ⟩ := h
  refine ⟨_, (pss_cons (ps_if (pt_not (pt_val (pe_callB (r := rIsi K) call_isi rfl x.n_isinstance bb_isinstance (pa_cons (pv 1) (pa_cons (pe_gR x.m_House rfl) pa_nil)))))
 (pss_one (ps_ret pe_bl))
 pss_nil)
 (pss_cons (ps_set (i := 2) sc_House_eq.nd rfl (Or.inl rfl) (pe_tup (pa_cons (pe_fldK (K := K) rfl (pv 0) rfl) (pa_cons (pe_fldK (K := K) rfl (pv 0) rfl) (pa_cons (pe_fldK (K := K) rfl (pv 0) rfl) pa_nil)))))
 (pss_one (ps_ret (pe_and (pe_cmpR (show OpR _ _ (rEqB (DTu K (DRule K))) from op_eqB (rcB_tu mon_rule (eqB_in (ok_Rule_eq x) x.sp_Rule_eq x.fn_Rule_eq pass0)) (hr.mono (by decide))) (pe_fldK (K := K) rfl (pv 0) rfl) (pe_fldK (K := K) rfl (pv 1) rfl) (nomark _)) (pe_one (pe_cmpR (show OpR _ _ (rEqD K) from op_eqD hr.units) (pv 2) (pe_tup (pa_cons (pe_fldK (K := K) rfl (pv 1) rfl) (pa_cons (pe_fldK (K := K) rfl (pv 1) rfl) (pa_cons (pe_fldK (K := K) rfl (pv 1) rfl) pa_nil)))) (nomark _)))))))), ?_⟩
  obtain ⟨f, _, _, dx, pr, pc, pl, os, h1, h2, h3, h4, h5⟩ := id hp
  obtain ⟨f', _, _, dy, qr, qc, ql, os', g1, g2, g3, g4, g5⟩ := id hq
  refine ⟨_, rfl, _, _, _, _, true, rfl, .own _, isi_own g1.1 x.cl_House x.cc_House x.cget x.ctak x.mro_House, x.kit_House, true, rfl, ?_⟩
  refine ⟨_, rfl, p, _, dx, _, _, rfl, h1.1, x.cl_House, x.na_House_h_calls, rfl, _, rfl, p, _, dx, _, _, rfl, h1.1, x.cl_House, x.na_House_h_lost, rfl, _, rfl, p, _, dx, _, _, rfl, h1.1, x.cl_House, x.na_House_h_fails, rfl, by simp [sizeLine_eq], fun t nt => ?_⟩
  have e1 : Ext H (upd H t (.tup [.ref pc, .ref pl, .bl h.fails])) := ext_new nt
  have ht : (upd H t (.tup [.ref pc, .ref pl, .bl h.fails])) t = some (.tup [.ref pc, .ref pl, .bl h.fails]) := upd_same
  generalize upd H t (.tup [.ref pc, .ref pl, .bl h.fails]) = H1 at e1 ht
  have dec : decide (h = h') = (decide (h.rules = h'.rules) && (decide (h.calls = h'.calls) && (decide (h.lost = h'.lost) && decide (h.fails = h'.fails)))) := by
    obtain ⟨a, b, c, d⟩ := h
    obtain ⟨a', b', c', d'⟩ := h'
    rw [Bool.eq_iff_iff]
    simp
  refine ⟨_, rfl, p, _, dx, _, _, rfl, e1 _ _ h1.1, x.cl_House, x.na_House_h_rules, rfl, _, rfl, q, _, dy, _, _, rfl, e1 _ _ g1.1, x.cl_House, x.na_House_h_rules, rfl, decide (h.rules = h'.rules), ?_, fun H2 e2 => ⟨_, rfl, ifb (fun hb => ?_) (fun hb => ?_)⟩⟩
  · refine ⟨pr, qr, _, _, rfl, rfl, .of (e1 _ _ h2.1), .of (e1 _ _ g2.1), fun z => ?_, rules_row (Paired.mapP h3 fun _ _ z => z.ext e1) (Paired.mapP g3 fun _ _ z => z.ext e1)⟩
    subst z
    have e := h2.1.symm.trans g2.1
    simp only [Option.some.injEq, HO.tup.injEq] at e
    have e3 := refs_inj e
    subst e3
    exact decide_eq_true (rules_inj h3 g3)
  · have e12 := e1.trans e2
    refine ⟨_, rfl, _, rfl, q, _, dy, _, _, rfl, e12 _ _ g1.1, x.cl_House, x.na_House_h_calls, rfl, _, rfl, q, _, dy, _, _, rfl, e12 _ _ g1.1, x.cl_House, x.na_House_h_lost, rfl, _, rfl, q, _, dy, _, _, rfl, e12 _ _ g1.1, x.cl_House, x.na_House_h_fails, rfl, by simp [sizeLine_eq], fun t2 nt2 => ?_⟩
    have e3 := e12.trans (ext_new (o := .tup [.ref qc, .ref ql, .bl h'.fails]) nt2)
    refine ⟨h.dat, h'.dat, house_dp (ext_new nt2 _ _ (e2 _ _ ht)) (e3 _ _ h4.1) (e3 _ _ h5.1), house_dp upd_same (e3 _ _ g4.1) (e3 _ _ g5.1), house_shaped f, house_shaped f', ?_⟩
    rw [house_eqv]
    have := hQ _ e3
    rwa [dec, hb, Bool.true_and] at this
  · have := hQ _ (e1.trans e2)
    rwa [dec, hb, Bool.false_and] at this
end
end Ws

set_option Elab.async false
set_option linter.all false
set_option maxRecDepth 100000
set_option maxHeartbeats 4000000
namespace Ws
open PySem PySem.Spec PyProof.Rows L2
abbrev Hs := List (Str × HouseD)
def HousesAt (S : Addr → Prop) (K : PySem.W.Frag) (H : Hp) : List (Key × V) → Hs → Prop := Paired fun (kv : Key × V) (nh : Str × HouseD) => kv.1 = Sum.inr nh.1 ∧ ∃ a, kv.2 = .ref a ∧ HouseAt S K H a nh.2
def getH (hs : Hs) (n : Str) : HouseD := match hs.find? fun p => decide (p.1 = n) with
  | some p => p.2
  | none => ⟨[], [], [], false⟩
section
variable {S : Addr → Prop} {K : PySem.W.Frag} {H H1 : Hp} {a o q d : Addr} {kvs : List (Key × V)} {hs : Hs}
theorem HousesAt.kp (h : HousesAt S K H kvs hs) (e : Kp S H H1) : HousesAt S K H1 kvs hs := Paired.mapP h fun kv nh ⟨h1, a, h2, h3⟩ => ⟨h1, a, h2, h3.kp e⟩
theorem HousesAt.ext (h : HousesAt S K H kvs hs) (e : Ext H H1) : HousesAt S K H1 kvs hs := h.kp (.ext e)
theorem HousesAt.grow (h : HousesAt S K H kvs hs) (hq : H q = none) : HousesAt (more S q) K H kvs hs := Paired.mapP h fun kv nh ⟨h1, a, h2, h3⟩ => ⟨h1, a, h2, h3.grow hq⟩
theorem HousesAt.keys : ∀ {kvs : List (Key × V)} {hs : Hs}, HousesAt S K H kvs hs → kvs.map (·.1) = (hs.map (·.1)).map Sum.inr
  | _, _, .nil => rfl
  | _, _, .cons h t => by
    simp only [List.map_cons]
    rw [h.1, HousesAt.keys t]
theorem HousesAt.at_ : ∀ {kvs : List (Key × V)} {hs : Hs}, HousesAt S K H kvs hs → ∀ n ∈ hs.map (·.1), ∃ a, valV kvs (Sum.inr n) = some (.ref a) ∧ HouseAt S K H a (getH hs n)
  | _, _, .nil, n, h => by simp at h
  | kv :: kvs, nh :: hs, .cons ⟨h1, a, h2, h3⟩ t, n, hn => by
    by_cases e : nh.1 = n
    · refine ⟨a, ?_, ?_⟩
      · rw [valV_pos (by rw [h1, e]), h2]
      · unfold getH
        rw [List.find?_cons_of_pos (by simp [e])]
        exact h3
    · simp only [List.map_cons, List.mem_cons] at hn
      obtain ⟨b, i1, i2⟩ := HousesAt.at_ t n (hn.resolve_left fun z => e z.symm)
      refine ⟨b, ?_, ?_⟩
      · rw [valV_neg (by rw [h1]; intro z; injection z with z; exact e z)]
        exact i1
      · unfold getH
        rw [List.find?_cons_of_neg (by simp [e])]
        exact i2
theorem HousesAt.in_ (h : HousesAt S K H kvs hs) (n : Str) : (valV kvs (Sum.inr n)).isSome = decide (n ∈ hs.map (·.1)) := by
  rw [← valV_any, Bool.eq_iff_iff, List.any_eq_true]
  simp only [decide_eq_true_eq]
  have hk := h.keys
  constructor
  · rintro ⟨p, hp, e⟩
    have : Sum.inr n ∈ (hs.map (·.1)).map (Sum.inr : Str → Key) := by rw [← hk]; exact List.mem_map.mpr ⟨p, hp, e⟩
    obtain ⟨m, hm, e⟩ := List.mem_map.mp this
    injection e with e
    exact e ▸ hm
  · intro hn
    have : (Sum.inr n : Key) ∈ kvs.map (·.1) := by rw [hk]; exact List.mem_map.mpr ⟨n, hn, rfl⟩
    obtain ⟨p, hp, e⟩ := List.mem_map.mp this
    exact ⟨p, hp, e⟩
theorem getH_mem : ∀ {hs : Hs} {n : Str}, n ∈ hs.map (·.1) → (n, getH hs n) ∈ hs
  | [], n, h => by simp at h
  | p :: hs, n, h => by
    unfold getH
    by_cases e : p.1 = n
    · rw [List.find?_cons_of_pos (by simp [e])]
      exact List.mem_cons.mpr (.inl (by rw [← e]))
    · rw [List.find?_cons_of_neg (by simp [e])]
      simp only [List.map_cons, List.mem_cons] at h
      exact List.mem_cons_of_mem _ (getH_mem (h.resolve_left fun z => e z.symm))
theorem getH_of : ∀ {hs : Hs} {p : Str × HouseD}, (hs.map (·.1)).Nodup → p ∈ hs → getH hs p.1 = p.2
  | [], p, _, h => by simp at h
  | q :: hs, p, nd, h => by
    simp only [List.map_cons, List.nodup_cons] at nd
    unfold getH
    rcases List.mem_cons.mp h with rfl | h
    · rw [List.find?_cons_of_pos (by simp)]
    · have e : ¬ q.1 = p.1 := fun e => nd.1 (e ▸ List.mem_map.mpr ⟨p, h, rfl⟩)
      rw [List.find?_cons_of_neg (by simp [e])]
      exact getH_of nd.2 h
theorem dget_str {n : Str} {v : V} (e : H a = some (.dK kvs)) (hv : valV kvs (Sum.inr n) = some v) : DGet H a (.str n) (some v) := by
  have := DGet.k e (k := Sum.inr n)
  rw [hv] at this
  exact this
theorem dget_in {n : Str} (e : H a = some (.dK kvs)) (h : HousesAt S K H kvs hs) : ∃ o, DGet H a (.str n) o ∧ o.isSome = decide (n ∈ hs.map (·.1)) := ⟨_, DGet.k e (k := Sum.inr n), h.in_ n⟩
/-- locked and unlocked again -/
theorem unlock_ext {od : Obj} {u : HO} (hd : H d = some u) (e : Ext (upd H d (.frz od u)) H1) : Ext H (upd H1 d u) := fun c o hc => by
  by_cases z : c = d
  · subst z
    rw [hd] at hc
    rw [upd_same]
    exact hc
  · rw [upd_ne z]
    exact e c o (by rw [upd_ne z]; exact hc)
end
section
variable {P : Program} {w : World} {K : PySem.W.Frag} {mg : Str → Option Value} {base : Heap}
def sp_are_named : Sp := fun vs H Q _ => ∃ (d : Addr) (kvs : List (Key × V)) (ns : List Str), vs = [.ref d] ∧ H d = some (.dK kvs) ∧ kvs.map (·.1) = ns.map Sum.inr ∧ 1 ≤ ns.length ∧ ns.length ≤ 8 ∧ (∀ n ∈ ns, isName n = true) ∧ ∀ H', Ext H H' → Q (.bl true) H'
theorem sc_are_named : FnScope ["thing", "name"] ["thing"] (defScope s_are_named) := ⟨rfl, rfl, rfl, by decide +kernel, rfl, by decide +kernel, by decide +kernel⟩
theorem ok_are_named (x : Fx K mg w) : FnR P w K mg base CX0 2 (a_are_named K) sp_are_named := by
  refine okR x.F_are_named sc_are_named (fun _ _ _ _ _ _ us hl => match us, hl with | [_], _ => rfl) (fun vs H Q E h => by obtain ⟨d, kvs, ns, rfl, hd, hk, l1, l2, hn, hQ⟩ := h; rfl) (fun cdv A outer s H vs Q E hr h => ?_)
  obtain ⟨d, kvs, ns, rfl, hd, hk, l1, l2, hn, hQ⟩ := h
  refine ⟨_, (pss_one (ps_ret (pe_and (pe_callB (r := rIsi K) call_isi rfl x.n_isinstance bb_isinstance (pa_cons (pv 0) (pa_cons (pe_gT x.n_dict (by rfl) rfl) pa_nil))) (pe_and (pe_chain op_le op_le pe_int (pe_callB call_lenD rfl x.n_len bb_len (pa_cons (pv 0) pa_nil)) (pe_gI x.i_MOST_HOUSES rfl)) (pe_one (pe_callB (r := rAll K) (cr_all rfl) rfl x.n_all bb_all (pa_cons (pe_lock (pe_lc (own := [("name", 1)]) (tt := tYes) rfl sc_are_named.nd (pi_keys (pv 0)) (blkOk_by (N := ["thing", "name"]) (sc := defScope s_are_named) (by decide +kernel)) (fun _ _ _ _ _ => (pg_name (i := 1) sc_are_named.nd rfl (Or.inl rfl))) (fun _ _ _ _ _ => pts_nil) (fun _ _ _ _ _ => (pe_callR (ok_is_name x) (hr.mono (by decide)) rfl x.m_is_name (keep_of x.F_is_name) pass0 (pa_cons (pv 1) pa_nil))))) pa_nil))))))), ?_⟩
  have hl : kvs.length = ns.length := by have := congrArg List.length hk; simpa using this
  refine ⟨_, rfl, _, _, _, _, true, rfl, .ty _, .base (.dK hd), kit_ty (by decide +kernel), true, rfl, ?_⟩
  refine ⟨_, rfl, d, kvs, rfl, hd, _, _, rfl, rfl, _, rfl, ifT (decide_eq_true (by omega)) ⟨_, _, rfl, rfl, _, rfl, ifT (decide_eq_true (by omega)) ?_⟩⟩
  refine ⟨d, _, hd, True.intro, fun od => ⟨_, rfl, d, od, rfl, .inl ⟨kvs, upd_same, fun D hD => ?_⟩⟩⟩
  refine lc_map (std_keys upd_same (fun z => z)) hD (fun v => match v with | .str z => some (.bl (isName z)) | _ => none) (by simp; omega) (fun y H' Nx hy e c1 c2 => ?_) (fun H4 e4 hD' => ?_)
  · obtain ⟨kv, hm, rfl⟩ := List.mem_map.mp hy
    have : kv.1 ∈ ns.map (Sum.inr : Str → Key) := by rw [← hk]; exact List.mem_map.mpr ⟨kv, hm, rfl⟩
    obtain ⟨n, hn1, e1⟩ := List.mem_map.mp this
    rw [← e1]
    refine ⟨rfl, _, rfl, n, rfl, Nat.le_trans (isName_len (hn n hn1)) (by decide), fun H4 e4 => c1 _ _ e4 (by rw [← e1]; rfl)⟩
  · refine ⟨e4 _ _ upd_same, D, ns.map isName, rfl, .of ?_, ?_⟩
    · have nd : D ≠ d := fun z => by rw [z, upd_same] at hD; cases hD
      rw [upd_ne nd, hD']
      have e5 : (kvs.map fun kv => kV kv.1) = ns.map V.str := by
        rw [show (fun kv : Key × V => kV kv.1) = kV ∘ (·.1) from rfl, ← List.map_map, hk, List.map_map]
        rfl
      congr 2
      rw [e5, List.filterMap_map, List.map_map]
      simp [Function.comp_def]
    · have hh : (ns.map isName).all id = true := by simp; exact hn
      rw [hh]
      exact hQ _ (unlock_ext hd e4)
/-- what a net's houses must be -/
structure HsFit (fine : Int) (hs : Hs) : Prop where
  l1 : 1 ≤ hs.length
  l2 : hs.length ≤ 8
  nm : ∀ p ∈ hs, isName p.1 = true
  nd : (hs.map (·.1)).Nodup
  sh : ∀ p ∈ hs, ∀ r ∈ p.2.rules, r.share ≤ fine
  cl : ∀ p ∈ hs, ∀ z ∈ p.2.calls, z ∈ hs.map (·.1)
def sp_need_houses (K : PySem.W.Frag) : Sp := fun vs H Q _ => ∃ (fine : Int) (d : Addr) (kvs : List (Key × V)) (hs : Hs), vs = [.int fine, .ref d] ∧ H d = some (.dK kvs) ∧ HousesAt no K H kvs hs ∧ HsFit fine hs ∧ ∀ H', Ext H H' → Q .non H'
theorem sc_need_houses : FnScope ["fine", "houses", "names", "name", "rule", "other"] ["fine", "houses"] (defScope s_need_houses) := ⟨rfl, rfl, rfl, by decide +kernel, rfl, by decide +kernel, by decide +kernel⟩
theorem ok_need_houses (x : Fx K mg w) : FnR P w K mg base CX0 3 (a_need_houses K) (sp_need_houses K) := by
  refine okR x.F_need_houses sc_need_houses (fun _ _ _ _ _ _ us hl => match us, hl with | [_, _], _ => rfl) (fun vs H Q E h => by obtain ⟨fine, d, kvs, hs, rfl, hd, hh, f, hQ⟩ := h; rfl) (fun cdv A outer s H vs Q E hr h => ?_)
  obtain ⟨fine, d, kvs, hs, rfl, hd, hh, f, hQ⟩ := h
  refine ⟨_, (pss_cons (ps_if (pt_not (pt_val (pe_callR (ok_are_named x) (hr.mono (by decide)) rfl x.m_are_named (keep_of x.F_are_named) pass0 (pa_cons (pv 1) pa_nil))))
 (pss_one ps_never)
 pss_nil)
 (pss_cons (ps_set (i := 2) sc_need_houses.nd rfl (Or.inl rfl) (pe_callB (call_sortedD rfl) rfl x.n_sorted bb_sorted (pa_cons (pv 1) pa_nil)))
 (pss_cons (ps_for PassesOwn.never rfl (pi_listK (K := K) rfl (pv 2)) (pg_name (i := 3) sc_need_houses.nd rfl (Or.inl rfl))
 (pss_one (ps_if (pt_not (pt_val (pe_callB (r := rIsi K) call_isi rfl x.n_isinstance bb_isinstance (pa_cons (pe_dget (hu_of hr) (pv 1) (pv 3) (fun _ _ => rfl)) (pa_cons (pe_gR x.m_House rfl) pa_nil)))))
 (pss_one ps_never)
 pss_nil)))
 (pss_cons (ps_for PassesOwn.never rfl (pi_listK (K := K) rfl (pv 2)) (pg_name (i := 3) sc_need_houses.nd rfl (Or.inl rfl))
 (pss_one (ps_if (pt_val (pe_callB (r := rAny K) (cr_any rfl) rfl x.n_any bb_any (pa_cons (pe_lc (own := [("rule", 4)]) (tt := tYes) rfl sc_need_houses.nd (pi_tupK (K := K) rfl (pe_propR (pe_dget (hu_of hr) (pv 1) (pv 3) (fun _ _ => rfl)) x.cl_House x.p_House_rules (ok_House_rules x) (hr.mono (by decide)) pass0)) (blkOk_by (N := ["fine", "houses", "names", "name", "rule", "other"]) (sc := defScope s_need_houses) (by decide +kernel)) (fun _ _ _ _ _ => (pg_name (i := 4) sc_need_houses.nd rfl (Or.inl rfl))) (fun _ _ _ _ _ => pts_nil) (fun _ _ _ _ _ => (pe_cmpR op_gt (pe_propR (pv 4) x.cl_Rule x.p_Rule_share (ok_Rule_share x) (hr.mono (by decide)) pass0) (pv 0) (nomark _)))) pa_nil)))
 (pss_one ps_never)
 pss_nil)))
 (pss_one (ps_for PassesOwn.never rfl (pi_listK (K := K) rfl (pv 2)) (pg_name (i := 3) sc_need_houses.nd rfl (Or.inl rfl))
 (pss_one (ps_if (pt_not (pt_val (pe_callB (r := rAll K) (cr_all rfl) rfl x.n_all bb_all (pa_cons (pe_lc (own := [("other", 5)]) (tt := tYes) rfl sc_need_houses.nd (pi_tupK (K := K) rfl (pe_propR (pe_dget (hu_of hr) (pv 1) (pv 3) (fun _ _ => rfl)) x.cl_House x.p_House_calls (ok_House_calls x) (hr.mono (by decide)) pass0)) (blkOk_by (N := ["fine", "houses", "names", "name", "rule", "other"]) (sc := defScope s_need_houses) (by decide +kernel)) (fun _ _ _ _ _ => (pg_name (i := 5) sc_need_houses.nd rfl (Or.inl rfl))) (fun _ _ _ _ _ => pts_nil) (fun _ _ _ _ _ => (pe_cmp (pc_din (hu_of hr) (pv 5) (pv 1))))) pa_nil))))
 (pss_one ps_never)
 pss_nil)))))))), ?_⟩
  have hl : (hs.map (·.1)).length = hs.length := by simp
  have f1 := f.l1
  have f2 := f.l2
  refine ⟨_, rfl, d, kvs, hs.map (·.1), rfl, hd, hh.keys, by omega, by omega, fun n hn => ?_, fun H1 e1 => ⟨true, rfl, ?_⟩⟩
  · obtain ⟨p, hp, rfl⟩ := List.mem_map.mp hn
    exact f.nm p hp
  refine ⟨_, rfl, d, kvs, hs.map (·.1), rfl, .of (e1 _ _ hd), hh.keys, by omega, fun ys l py _ nl => ?_⟩
  have e2 : Ext H1 (upd H1 l (.lst (ys.map V.str))) := ext_new nl
  have hL : (upd H1 l (.lst (ys.map V.str))) l = some (.lst (ys.map V.str)) := upd_same
  generalize upd H1 l (.lst (ys.map V.str)) = H2 at e2 hL
  have e12 := e1.trans e2
  have walk : ∀ (i : Nat) (y : V), (ys.map V.str)[i]? = some y → ∃ n, y = V.str n ∧ n ∈ hs.map (·.1) := fun i y hy => by
    obtain ⟨n, hn, rfl⟩ := List.mem_map.mp (List.mem_of_getElem? hy)
    exact ⟨n, rfl, py.mem_iff.mp hn⟩
  refine ⟨_, rfl, l, rfl, ⟨_, .of hL⟩, for_std (std_list (.of hL) (S := no) (fun z => z)) (fun i σ H' => Ext H2 H' ∧ ∃ v, σ = [some (.int fine), some (.ref d), some (.ref l), v, none, none]) ⟨Ext.rfl', none, rfl⟩ (fun i σ H' h => .ext h.1) (fun i y σ H' hy ⟨e, v, hσ⟩ => ?_) (fun σ H3 ⟨e3, v, hσ⟩ => ?_)⟩
  · subst hσ
    obtain ⟨n, rfl, hn⟩ := walk i y hy
    have e' := e12.trans e
    obtain ⟨a, hv, ht⟩ := hh.at_ n hn
    obtain ⟨_, _, _, dx, pr, pc, pl, os, h1, _⟩ := ht.ext e'
    exact ⟨_, rfl, _, rfl, d, _, rfl, dget_str (e' _ _ hd) hv, _, _, _, _, true, rfl, .own _, isi_own h1.1 x.cl_House x.cc_House x.cget x.ctak x.mro_House, x.kit_House, true, rfl, e, _, rfl⟩
  subst hσ
  have e13 := e12.trans e3
  have hL3 := e3 _ _ hL
  clear e2 hL nl e12 e1 e3
  refine ⟨_, rfl, l, rfl, ⟨_, .of hL3⟩, for_std (std_list (.of hL3) (S := no) (fun z => z)) (fun i σ H' => Ext H3 H' ∧ ∃ v, σ = [some (.int fine), some (.ref d), some (.ref l), v, none, none]) ⟨Ext.rfl', v, rfl⟩ (fun i σ H' h => .ext h.1) (fun i y σ H' hy ⟨e, v, hσ⟩ => ?_) (fun σ H4 ⟨e4, v, hσ⟩ => ?_)⟩
  · subst hσ
    obtain ⟨n, rfl, hn⟩ := walk i y hy
    have e' := e13.trans e
    obtain ⟨a, hv, ht⟩ := hh.at_ n hn
    have ht' := ht.ext e'
    obtain ⟨_, _, _, dx, pr, pc, pl, os, h1, _⟩ := id ht'
    refine ⟨_, rfl, _, rfl, d, _, rfl, dget_str (e' _ _ hd) hv, a, dx, _, rfl, h1.1, no, a, _, rfl, ht', fun p os' hp hr2 => ?_⟩
    refine ⟨p, rfl, ⟨_, .of hp.1⟩, fun D hD => lc_map (std_tup (.of hp.1) (fun z => z)) hD (fun v => some (.bl false)) ?_ (fun y H5 Nx hy e5 c1 c2 => ?_) (fun H5 e5 hD' => ?_)⟩
    · have r2 := ht'.1.r2
      have := hr2.length
      simp
      omega
    · obtain ⟨o, ho, rfl⟩ := List.mem_map.mp hy
      obtain ⟨r, hr, hra⟩ := paired_mem hr2 ho
      have hra' := hra.ext e5
      obtain ⟨_, dx', p', g1, g2⟩ := id hra'
      have := f.sh _ (getH_mem hn) r hr
      exact ⟨rfl, _, rfl, o, dx', _, rfl, g1.1, o, r, rfl, hra', _, rfl, _, _, rfl, rfl, c1 _ _ Ext.rfl' (by simp; omega)⟩
    · refine ⟨D, os'.map fun _ => false, rfl, .of ?_, ?_⟩
      · rw [hD']
        congr 2
        rw [List.filterMap_map, List.map_map]
        simp [Function.comp_def]
      · have hb : (os'.map fun _ => false).any id = false := by simp
        rw [hb]
        exact ⟨false, rfl, e.trans e5, _, rfl⟩
  subst hσ
  have e14 := e13.trans e4
  have hL4 := e4 _ _ hL3
  clear e13 e4 hL3
  refine ⟨_, rfl, l, rfl, ⟨_, .of hL4⟩, for_std (std_list (.of hL4) (S := no) (fun z => z)) (fun i σ H' => Ext H4 H' ∧ ∃ v, σ = [some (.int fine), some (.ref d), some (.ref l), v, none, none]) ⟨Ext.rfl', v, rfl⟩ (fun i σ H' h => .ext h.1) (fun i y σ H' hy ⟨e, v, hσ⟩ => ?_) (fun σ H5 ⟨e5, v, hσ⟩ => ?_)⟩
  · subst hσ
    obtain ⟨n, rfl, hn⟩ := walk i y hy
    have e' := e14.trans e
    obtain ⟨a, hv, ht⟩ := hh.at_ n hn
    have ht' := ht.ext e'
    obtain ⟨_, _, _, dx, pr, pc, pl, os, h1, _⟩ := id ht'
    refine ⟨_, rfl, _, rfl, d, _, rfl, dget_str (e' _ _ hd) hv, a, dx, _, rfl, h1.1, no, a, _, rfl, ht', fun p hp => ?_⟩
    refine ⟨p, rfl, ⟨_, .of hp.1⟩, fun D hD => lc_map (std_tup (.of hp.1) (fun z => z)) hD (fun v => some (.bl true)) ?_ (fun y H5 Nx hy e5 c1 c2 => ?_) (fun H5 e5 hD' => ?_)⟩
    · have := ht'.1.ln
      simp
      omega
    · obtain ⟨o, ho, rfl⟩ := List.mem_map.mp hy
      have hm := f.cl _ (getH_mem hn) o ho
      have e6 := e'.trans e5
      obtain ⟨r, g1, g2⟩ := dget_in (n := o) (e6 _ _ hd) (hh.ext e6)
      exact ⟨rfl, _, rfl, _, rfl, d, r, rfl, g1, c1 _ _ Ext.rfl' (by rw [g2, decide_eq_true hm])⟩
    · refine ⟨D, (getH hs n).calls.map fun _ => true, rfl, .of ?_, ?_⟩
      · rw [hD']
        congr 2
        rw [List.filterMap_map, List.map_map]
        simp [Function.comp_def]
      · have hb : ((getH hs n).calls.map fun _ => true).all id = true := by simp
        rw [hb]
        exact ⟨true, rfl, e.trans e5, _, rfl⟩
  exact hQ _ (e14.trans e5)
end
end Ws

set_option Elab.async false
set_option linter.all false
set_option maxRecDepth 100000
set_option maxHeartbeats 4000000
namespace Ws
open PySem PySem.Spec PyProof.Rows L2
structure NetD where
  fine : Int
  houses : Hs
  entries : List Str
  deriving DecidableEq
structure NetD.Fit (m : NetD) : Prop where
  f1 : 1 ≤ m.fine
  f2 : m.fine ≤ 1000
  hs : HsFit m.fine m.houses
  e0 : m.entries ≠ []
  nd : m.entries.Nodup
  sub : ∀ z ∈ m.entries, z ∈ m.houses.map (·.1)
  ln : m.entries.length < 64
structure NetMade (m n : NetD) : Prop where
  fine : n.fine = m.fine
  houses : n.houses.Perm m.houses
  sh : sortedS (n.houses.map (·.1)) = true
  entries : n.entries.Perm m.entries
  se : sortedS n.entries = true
theorem NetMade.fit {m n : NetD} (d : NetMade m n) (f : m.Fit) : n.Fit := by
  have pk : (n.houses.map (·.1)).Perm (m.houses.map (·.1)) := d.houses.map _
  refine ⟨by rw [d.fine]; exact f.f1, by rw [d.fine]; exact f.f2, ⟨?_, ?_, fun p hp => ?_, ?_, fun p hp r hr => ?_, fun p hp z hz => ?_⟩, ?_, ?_, fun z hz => ?_, ?_⟩
  · rw [d.houses.length_eq]; exact f.hs.l1
  · rw [d.houses.length_eq]; exact f.hs.l2
  · exact f.hs.nm p (d.houses.mem_iff.mp hp)
  · exact pk.nodup_iff.mpr f.hs.nd
  · rw [d.fine]; exact f.hs.sh p (d.houses.mem_iff.mp hp) r hr
  · exact pk.mem_iff.mpr (f.hs.cl p (d.houses.mem_iff.mp hp) z hz)
  · exact fun z => f.e0 (by have := d.entries; rw [z] at this; exact this.symm.eq_nil)
  · exact d.entries.nodup_iff.mpr f.nd
  · exact pk.mem_iff.mpr (f.sub z (d.entries.mem_iff.mp hz))
  · rw [d.entries.length_eq]; exact f.ln
theorem hs_eq {l m r : Hs} (nd : (r.map (·.1)).Nodup) (h : sortedS (l.map (·.1)) = true) (h' : sortedS (m.map (·.1)) = true) (p : l.Perm r) (q : m.Perm r) : l = m := by
  have hp : ∀ {l : Hs}, sortedS (l.map (·.1)) = true → l.Pairwise fun a b => LeS a.1 b.1 := fun h => List.pairwise_map.mp (sorted_pw h)
  refine (p.trans q.symm).eq_of_pairwise (fun a b ha hb h1 h2 => ?_) (hp h) (hp h')
  have e : a.1 = b.1 := str_cps (List.le_antisymm h1 h2)
  have ea := getH_of nd (p.mem_iff.mp ha)
  have eb := getH_of nd (q.mem_iff.mp hb)
  rw [e] at ea
  exact Prod.ext e (ea.symm.trans eb)
theorem netMade_eq {m n n' : NetD} (f : m.Fit) (d : NetMade m n) (d' : NetMade m n') : n = n' := by
  obtain ⟨a, b, c⟩ := n
  obtain ⟨a', b', c'⟩ := n'
  have h1 := d.fine.trans d'.fine.symm
  have h2 := hs_eq f.hs.nd d.sh d'.sh d.houses d'.houses
  have h3 := sorted_eq d.se d'.se (d.entries.trans d'.entries.symm)
  simp only at h1 h2 h3
  rw [h1, h2, h3]
theorem putAll_new : ∀ (ps kvs : List (Key × V)), ((kvs ++ ps).map (·.1)).Nodup → putAll kvs ps = kvs ++ ps
  | [], kvs, _ => by simp [putAll]
  | p :: ps, kvs, nd => by
    have hn : valV kvs p.1 = none := by
      cases q : valV kvs p.1 with
      | none => rfl
      | some v =>
        have hm := valV_in q
        rw [List.map_append, List.nodup_append] at nd
        exact absurd rfl (nd.2.2 _ hm _ (by simp))
    show putAll (putK kvs p.1 p.2) ps = _
    rw [putK_new _ hn, putAll_new ps _ (by simpa using nd)]
    simp
section
variable {S : Addr → Prop} {K : PySem.W.Frag} {H H1 : Hp} {a o q d : Addr} {kvs : List (Key × V)} {hs : Hs}
theorem HouseAt.off {h : HouseD} {C dx : Addr} (t : HouseAt S K H a h) (ho : H o = some (.ins C dx [])) (e : Kp (one o) H H1) : HouseAt S K H1 a h := by
  obtain ⟨f, s1, s2, dx, pr, pc, pl, os, h1, h2, h3, h4, h5⟩ := t
  exact ⟨f, s1, s2, dx, pr, pc, pl, os, h1.off ho (by simp) e, h2.off ho (by simp) e, Paired.mapP h3 fun _ _ z => z.off ho e, h4.off ho (by simp) e, h5.off ho (by simp) e⟩
theorem HousesAt.off {C dx : Addr} (t : HousesAt S K H kvs hs) (ho : H o = some (.ins C dx [])) (e : Kp (one o) H H1) : HousesAt S K H1 kvs hs := Paired.mapP t fun kv nh ⟨h1, a, h2, h3⟩ => ⟨h1, a, h2, h3.off ho e⟩
def NetAt (S : Addr → Prop) (K : PySem.W.Frag) (H : Hp) (o : Addr) (n : NetD) : Prop := n.Fit ∧ sortedS (n.houses.map (·.1)) = true ∧ sortedS n.entries = true ∧ ∃ dx ph pe kvs,
  At S H o (.ins (c_Net K) dx [("n_fine", .int n.fine), ("n_houses", .ref ph), ("n_entries", .ref pe)]) ∧ At S H ph (.dK kvs) ∧ HousesAt S K H kvs n.houses ∧ At S H pe (.tup (n.entries.map V.str))
theorem NetAt.kp {n : NetD} (t : NetAt S K H o n) (e : Kp S H H1) : NetAt S K H1 o n := by
  obtain ⟨f, s1, s2, dx, ph, pe, kvs, h1, h2, h3, h4⟩ := t
  exact ⟨f, s1, s2, dx, ph, pe, kvs, h1.kp e, h2.kp e, h3.kp e, h4.kp e⟩
theorem NetAt.ext {n : NetD} (t : NetAt S K H o n) (e : Ext H H1) : NetAt S K H1 o n := t.kp (.ext e)
theorem NetAt.grow {n : NetD} (t : NetAt S K H o n) (hq : H q = none) : NetAt (more S q) K H o n := by
  obtain ⟨f, s1, s2, dx, ph, pe, kvs, h1, h2, h3, h4⟩ := t
  exact ⟨f, s1, s2, dx, ph, pe, kvs, h1.grow hq, h2.grow hq, h3.grow hq, h4.grow hq⟩
theorem HousesAt.free (t : HousesAt S K H kvs hs) : HousesAt no K H kvs hs := Paired.mapP t fun kv nh ⟨h1, a, h2, h3⟩ => ⟨h1, a, h2, h3.free⟩
theorem NetAt.free {n : NetD} (t : NetAt S K H o n) : NetAt no K H o n := by
  obtain ⟨f, s1, s2, dx, ph, pe, kvs, h1, h2, h3, h4⟩ := t
  exact ⟨f, s1, s2, dx, ph, pe, kvs, h1.free, h2.free, h3.free, h4.free⟩
/-- the houses in the order of the names ys -/
theorem houses_row (h : HousesAt S K H kvs hs) : ∀ ys : List Str, (∀ y ∈ ys, y ∈ hs.map (·.1)) → HousesAt S K H (ys.map fun n => (Sum.inr n, (valV kvs (Sum.inr n)).getD .non)) (ys.map fun n => (n, getH hs n))
  | [], _ => .nil
  | y :: ys, hy => by
    obtain ⟨a, h1, h2⟩ := h.at_ y (hy y List.mem_cons_self)
    exact .cons ⟨rfl, a, (by show (valV kvs (Sum.inr y)).getD .non = _; rw [h1]; rfl), h2⟩ (houses_row h ys fun z hz => hy z (List.mem_cons_of_mem _ hz))
theorem hs_names (nd : (hs.map (·.1)).Nodup) : (hs.map (·.1)).map (fun n => (n, getH hs n)) = hs := by
  rw [List.map_map]
  conv => rhs; rw [← List.map_id hs]
  refine List.map_congr_left fun p hp => ?_
  show (p.1, getH hs p.1) = p
  rw [getH_of nd hp]
end
section
variable {P : Program} {w : World} {K : PySem.W.Frag} {mg : Str → Option Value} {base : Heap}
def sp_Net_init (K : PySem.W.Frag) : Sp := fun vs H Q _ => ∃ (S : Addr → Prop) (o dx d ae : Addr) (kvs : List (Key × V)) (m : NetD), vs = [.ref o, .int m.fine, .ref d, .ref ae] ∧ Dm S H ∧ At S H o (.ins (c_Net K) dx []) ∧ H d = some (.dK kvs) ∧
  HousesAt S K H kvs m.houses ∧ Sq K H ae (m.entries.map V.str) ∧ m.Fit ∧ ∀ H' n, Kp (one o) H H' → NetMade m n → NetAt S K H' o n → Q .non H'
theorem sc_Net_init : FnScope ["self", "fine", "houses", "entries", "name"] ["self", "fine", "houses", "entries"] (defScope s_Net_init) := ⟨rfl, rfl, rfl, by decide +kernel, rfl, by decide +kernel, by decide +kernel⟩
theorem ok_Net_init (x : Fx K mg w) : FnR P w K mg base CX0 4 (a_Net_init K) (sp_Net_init K) := by
  refine okR x.F_Net_init sc_Net_init (fun _ _ _ _ _ _ us hl => match us, hl with | [_, _, _, _], _ => rfl) (fun vs H Q E h => by obtain ⟨S, o, dx, d, ae, kvs, m, rfl, dm, ho, hd, hh, he, f, hQ⟩ := h; rfl) (fun cdv A outer s H vs Q E hr h => ?_)
  obtain ⟨S, o, dx, d, ae, kvs, m, rfl, dm, ho, hd, hh, he, f, hQ⟩ := h
  refine ⟨_, (pss_cons (ps_if (PW.pt (pw_or (pt_not (pt_val (pe_callR (ok_is_number x) (hr.mono (by decide)) rfl x.m_is_number (keep_of x.F_is_number) pass0 (pa_cons (pv 1) pa_nil)))) (pw_or1 (pt_not (pt_chain op_le op_le pe_int (pv 1) (pe_gI x.i_MOST_FINE rfl))))))
 (pss_one ps_never)
 pss_nil)
 (pss_cons (ps_expr (pe_callR (ok_need_houses x) (hr.mono (by decide)) rfl x.m_need_houses (keep_of x.F_need_houses) pass0 (pa_cons (pv 1) (pa_cons (pv 2) pa_nil))))
 (pss_cons (ps_if (PW.pt (pw_or (pt_not (pt_val (pe_callR (ok_are_names x) (hr.mono (by decide)) rfl x.m_are_names (keep_of x.F_are_names) pass0 (pa_cons (pv 3) pa_nil)))) (pw_or (pt_cmpR op_eq (pe_callB (r := rLenK K) call_lenK rfl x.n_len bb_len (pa_cons (pv 3) pa_nil)) pe_int (nomark _)) (pw_or1 (pt_not (pt_val (pe_callB (r := rAll K) (cr_all rfl) rfl x.n_all bb_all (pa_cons (pe_lc (own := [("name", 4)]) (tt := tYes) rfl sc_Net_init.nd (pi_seqK (K := K) rfl (pv 3)) (blkOk_by (N := ["self", "fine", "houses", "entries", "name"]) (sc := defScope s_Net_init) (by decide +kernel)) (fun _ _ _ _ _ => (pg_name (i := 4) sc_Net_init.nd rfl (Or.inl rfl))) (fun _ _ _ _ _ => pts_nil) (fun _ _ _ _ _ => (pe_cmp (pc_din (hu_of hr) (pv 4) (pv 2))))) pa_nil))))))))
 (pss_one ps_never)
 pss_nil)
 (pss_cons (ps_fld (pv 0) (pv 1) rfl)
 (pss_cons (ps_fld (pv 0) (pe_dc (own := [("name", 4)]) (tt := tYes) rfl sc_Net_init.nd (pi_listK (K := K) rfl (pe_callB (call_sortedD rfl) rfl x.n_sorted bb_sorted (pa_cons (pv 2) pa_nil))) (blkOk_by (N := ["self", "fine", "houses", "entries", "name"]) (sc := defScope s_Net_init) (by decide +kernel)) (fun _ _ _ _ _ => (pg_name (i := 4) sc_Net_init.nd rfl (Or.inl rfl))) (fun _ _ _ _ _ => pts_nil) (fun _ _ _ _ _ => (pv 4)) (fun _ _ _ _ _ => (pe_dget (hu_of hr) (pv 2) (pv 4) (fun _ _ => rfl)))) rfl)
 (pss_one (ps_fld (pv 0) (pe_callTy (r := rTupOf K) call_tupK rfl x.n_tuple bb_tuple (pa_cons (pe_callB (r := rSortS K) call_sortS rfl x.n_sorted bb_sorted (pa_cons (pv 3) pa_nil)) pa_nil)) rfl))))))), ?_⟩
  have fl := f.ln
  have f8 := f.hs.l2
  have nml : (m.houses.map (·.1)).length = m.houses.length := by simp
  have nme : ∀ z ∈ m.entries, isName z = true := fun z hz => by
    obtain ⟨p, hp, rfl⟩ := List.mem_map.mp (f.sub z hz)
    exact f.hs.nm p hp
  have nc : (m.entries.all isName && decide m.entries.Nodup) = true := by simp [f.nd]; exact nme
  refine ⟨_, rfl, _, rfl, true, rfl, ?_⟩
  refine ⟨_, rfl, _, _, rfl, rfl, _, rfl, ifT (decide_eq_true f.f1) ⟨_, _, rfl, rfl, _, rfl, ifF (by simp [f.f2]) ?_⟩⟩
  refine ⟨_, rfl, _, rfl, m.fine, d, kvs, m.houses, rfl, hd, hh.free, f.hs, fun H1 e1 => ?_⟩
  refine ⟨_, rfl, ae, m.entries, rfl, sq_ext he e1, by omega, fun z hz => Nat.le_trans (isName_len (nme z hz)) (by decide), fun H2 e2 => ⟨_, rfl, ifF (by simp [nc]) ?_⟩⟩
  have e12 := e1.trans e2
  refine ⟨_, rfl, _, _, rfl, sq_lenV (sq_ext he e12), rfl, _, rfl, ifF ?_ ?_⟩
  · have := f.e0
    simp only [List.length_map, decide_eq_false_iff_not, V.int.injEq]
    intro z
    exact this (List.eq_nil_of_length_eq_zero (by omega))
  refine seq_go rfl (sq_ext he e12) (fun z => z) fun J st D hD => lc_map st hD (fun v => some (.bl true)) (by simp; omega) (fun y H' Nx hy e c1 c2 => ?_) (fun H3 e3 hD' => ?_)
  · obtain ⟨z, hm, rfl⟩ := List.mem_map.mp hy
    have e6 := e12.trans e
    obtain ⟨r, g1, g2⟩ := dget_in (n := z) (e6 _ _ hd) (hh.ext e6)
    exact ⟨rfl, _, rfl, _, rfl, d, r, rfl, g1, c1 _ _ Ext.rfl' (by rw [g2, decide_eq_true (f.sub z hm)])⟩
  refine ⟨D, m.entries.map fun _ => true, rfl, .of ?_, ?_⟩
  · rw [hD']
    congr 2
    rw [List.filterMap_map, List.map_map]
    simp [Function.comp_def]
  have hb : (m.entries.map fun _ => true).all id = true := by simp
  rw [hb]
  refine ⟨true, rfl, ?_⟩
  have e13 := e12.trans e3
  clear st hD' hD e12 e3 e2 e1 hb
  have o3 := e13 _ _ ho.1
  refine ⟨_, rfl, _, rfl, o, _, dx, [], rfl, o3, x.cl_Net, x.na_Net_n_fine, by simp, ?_⟩
  have u4 : Kp (one o) H (upd H3 o (.ins (c_Net K) dx [("n_fine", .int m.fine)])) := (Kp.ext e13).put rfl
  have o4 : (upd H3 o (.ins (c_Net K) dx [("n_fine", .int m.fine)])) o = some (.ins (c_Net K) dx [("n_fine", .int m.fine)]) := upd_same
  change tSeq _ _ _ _ (upd H3 o (.ins (c_Net K) dx [("n_fine", .int m.fine)]))
  generalize upd H3 o (.ins (c_Net K) dx [("n_fine", .int m.fine)]) = H4 at u4 o4
  have nd : d ≠ o := ne_of hd ho.1 (by simp)
  have hh4 := hh.off ho.1 u4
  refine ⟨_, rfl, d, kvs, m.houses.map (·.1), rfl, .of (u4.keep _ _ hd nd), hh4.keys, by omega, fun ys l py sy nl => ?_⟩
  have hn : ∀ y ∈ ys, y ∈ m.houses.map (·.1) := fun y hy => py.mem_iff.mp hy
  have ndy : ys.Nodup := py.nodup_iff.mpr f.hs.nd
  have lny := py.length_eq
  have e5 : Ext H4 (upd H4 l (.lst (ys.map V.str))) := ext_new nl
  have hL : (upd H4 l (.lst (ys.map V.str))) l = some (.lst (ys.map V.str)) := upd_same
  generalize upd H4 l (.lst (ys.map V.str)) = H5 at e5 hL
  have u5 := u4.trans (.ext e5)
  refine ⟨l, rfl, ⟨_, .of hL⟩, fun ph hph => ?_⟩
  refine dc_map (std_list (.of hL) (fun z => z)) hph (fun v => match v with | .str n => (Sum.inr n, (valV kvs (Sum.inr n)).getD .non) | _ => (Sum.inl 0, .non)) (by simp; omega) (fun y H6 Nx hy e6 c1 => ?_) (fun H6 e6 hP => ?_)
  · obtain ⟨z, hm, rfl⟩ := List.mem_map.mp hy
    obtain ⟨a, hv, ht⟩ := hh.at_ z (hn z hm)
    have hd6 : H6 d = some (.dK kvs) := e6 _ _ (u5.keep _ _ hd nd)
    exact ⟨rfl, _, rfl, _, rfl, _, rfl, d, _, rfl, dget_str hd6 hv, c1 _ _ _ Ext.rfl' rfl (by show V.ref a = (valV kvs (Sum.inr z)).getD .non; rw [hv]; rfl)⟩
  have np : ph ≠ o := fun z => by rw [z, e5 _ _ o4] at hph; cases hph
  have sp : ¬ S ph := fun z => dm.kp u5 ph z hph
  have rows : (ys.map V.str).map (fun v => match v with | .str n => ((Sum.inr n : Key), (valV kvs (Sum.inr n)).getD .non) | _ => (Sum.inl 0, .non)) = ys.map fun n => (Sum.inr n, (valV kvs (Sum.inr n)).getD .non) := by
    rw [List.map_map]
    rfl
  rw [rows, putAll_new _ [] (by
    simp only [List.nil_append, List.map_map]
    exact List.Pairwise.map _ (fun a b h z => h (by injection z)) ndy)] at hP
  have u6 := u5.trans (.ext e6)
  have o6 := e6 _ _ (e5 _ _ o4)
  refine ⟨_, rfl, o, _, dx, _, rfl, o6, x.cl_Net, x.na_Net_n_houses, by simp, ?_⟩
  have u7 : Kp (one o) H (upd H6 o (.ins (c_Net K) dx [("n_fine", .int m.fine), ("n_houses", .ref ph)])) := u6.put rfl
  have o7 : (upd H6 o (.ins (c_Net K) dx [("n_fine", .int m.fine), ("n_houses", .ref ph)])) o = some (.ins (c_Net K) dx [("n_fine", .int m.fine), ("n_houses", .ref ph)]) := upd_same
  have p7 : (upd H6 o (.ins (c_Net K) dx [("n_fine", .int m.fine), ("n_houses", .ref ph)])) ph = some (.dK (ys.map fun n => (Sum.inr n, (valV kvs (Sum.inr n)).getD .non))) := by rw [upd_ne np]; exact hP
  rw [show putF "n_houses" (.ref ph) [("n_fine", .int m.fine)] = ([("n_fine", .int m.fine), ("n_houses", .ref ph)] : List (Str × V)) from rfl]
  generalize upd H6 o (.ins (c_Net K) dx [("n_fine", .int m.fine), ("n_houses", .ref ph)]) = H7 at u7 o7 p7
  refine srt_tup rfl (sq_kp (S := one o) he (sq_ne he ho.1) u7) fl fun zs pe H8 pz sz e8 np8 t8 => ?_
  have n8 : pe ≠ o := fun z => by rw [z, o7] at np8; cases np8
  have s8 : ¬ S pe := fun z => dm.kp u7 pe z np8
  refine ⟨_, rfl, o, _, dx, _, rfl, e8 _ _ o7, x.cl_Net, x.na_Net_n_entries, by simp, ?_⟩
  have u9 : Kp (one o) H (upd H8 o (.ins (c_Net K) dx [("n_fine", .int m.fine), ("n_houses", .ref ph), ("n_entries", .ref pe)])) := (u7.trans (.ext e8)).put rfl
  change Q .non (upd H8 o (.ins (c_Net K) dx [("n_fine", .int m.fine), ("n_houses", .ref ph), ("n_entries", .ref pe)]))
  have pm : (ys.map fun n => (n, getH m.houses n)).Perm m.houses := by
    have := py.map fun n => (n, getH m.houses n)
    rwa [hs_names f.hs.nd] at this
  have ky : (ys.map fun n => (n, getH m.houses n)).map (·.1) = ys := by simp [Function.comp_def]
  have md : NetMade m ⟨m.fine, ys.map fun n => (n, getH m.houses n), zs⟩ := ⟨rfl, pm, by rw [ky]; exact sy, pz, sz⟩
  exact hQ _ _ u9 md ⟨md.fit f, by rw [ky]; exact sy, sz, dx, ph, pe, _, ⟨upd_same, ho.2⟩, ⟨by rw [upd_ne np]; exact e8 _ _ p7, sp⟩, houses_row (hh.off ho.1 u9) ys hn, ⟨by rw [upd_ne n8]; exact t8, s8⟩⟩
end
end Ws

set_option Elab.async false
set_option linter.all false
set_option maxRecDepth 100000
set_option maxHeartbeats 4000000
namespace Ws
open PySem PySem.Spec PyProof.Rows L2
def NetD.names (n : NetD) : List Str := n.houses.map (·.1)
def setH (hs : Hs) (z : Str) (h : HouseD) : Hs := hs.map fun p => if p.1 = z then (p.1, h) else p
theorem setH_keys (hs : Hs) (z : Str) (h : HouseD) : (setH hs z h).map (·.1) = hs.map (·.1) := by
  unfold setH
  rw [List.map_map]
  refine List.map_congr_left fun p _ => ?_
  show (if p.1 = z then (p.1, h) else p).1 = p.1
  split <;> rfl
theorem perm_of_sub {α : Type} [DecidableEq α] : ∀ {l m : List α}, l.Nodup → (∀ a ∈ l, a ∈ m) → m.length ≤ l.length → l.Perm m
  | [], m, _, _, hl => by
    have : m = [] := List.eq_nil_of_length_eq_zero (by simpa using hl)
    rw [this]
  | a :: l, m, nd, hs, hl => by
    obtain ⟨n1, n2⟩ := List.nodup_cons.mp nd
    have ha := hs a List.mem_cons_self
    have hm := List.perm_cons_erase ha
    have := perm_of_sub (l := l) (m := m.erase a) n2 (fun b hb => (List.mem_erase_of_ne fun z => n1 (by rw [← z]; exact hb)).mpr (hs b (List.mem_cons_of_mem _ hb))) (by
      rw [List.length_erase_of_mem ha]
      simp only [List.length_cons] at hl
      omega)
    exact (this.cons a).trans hm.symm
/-- what == of two dicts of houses tells -/
def hitB (ha hb : Hs) : Bool := ha.all fun p => decide (p.1 ∈ hb.map (·.1)) && decide (p.2 = getH hb p.1)
theorem hitB_eq {ha hb : Hs} (na : (ha.map (·.1)).Nodup) (nb : (hb.map (·.1)).Nodup) (sa : sortedS (ha.map (·.1)) = true) (sb : sortedS (hb.map (·.1)) = true) (l : ha.length = hb.length) : hitB ha hb = decide (ha = hb) := by
  rw [Bool.eq_iff_iff]
  unfold hitB
  simp only [List.all_eq_true, Bool.and_eq_true, decide_eq_true_eq]
  constructor
  · intro h
    have sub : ∀ p ∈ ha, p ∈ hb := fun p hp => by
      obtain ⟨h1, h2⟩ := h p hp
      have := getH_mem h1
      rwa [← h2] at this
    have ndp : ha.Nodup := by
      have := List.pairwise_map.mp na
      exact this.imp fun {a b} h e => h (by rw [e])
    exact hs_eq nb sa sb (perm_of_sub ndp sub (by omega)) (.refl _)
  · rintro rfl p hp
    exact ⟨List.mem_map.mpr ⟨p, hp, rfl⟩, (getH_of na hp).symm⟩
section
variable {S : Addr → Prop} {K : PySem.W.Frag} {H H1 : Hp} {a o q d : Addr} {kvs ka kb : List (Key × V)} {hs ha hb : Hs}
theorem houses_hits (hB : HousesAt no K H kb hb) : ∀ {ka : List (Key × V)} {ha : Hs}, HousesAt no K H ka ha → Hits (DHouse K) kb ka (hitB ha hb) H
  | _, _, .nil => rfl
  | (k, v) :: ka, (n, h) :: ha, .cons ⟨h1, a, h2, h3⟩ t => by
    have h1 : k = Sum.inr n := h1
    have h2 : v = .ref a := h2
    subst h1 h2
    have e : hitB ((n, h) :: ha) hb = ((decide (n ∈ hb.map (·.1)) && decide (h = getH hb n)) && hitB ha hb) := by
      unfold hitB
      rw [List.all_cons]
    rw [e]
    cases q : valV kb (Sum.inr n) with
    | none =>
      have := hB.in_ n
      rw [q] at this
      refine .inl ⟨q, ?_⟩
      rw [← this]
      rfl
    | some y =>
      have hn := hB.in_ n
      rw [q] at hn
      have hm : n ∈ hb.map (·.1) := of_decide_eq_true hn.symm
      obtain ⟨b, g1, g2⟩ := hB.at_ n hm
      rw [q] at g1
      cases g1
      refine .inr ⟨.ref b, decide (h = getH hb n), hitB ha hb, q, ?_, houses_hits hB t, by rw [decide_eq_true hm, Bool.true_and]⟩
      obtain ⟨_, _, _, dx, pr, pc, pl, os, k1, _⟩ := id h3
      obtain ⟨_, _, _, dy, pr', pc', pl', os', k2, _⟩ := id g2
      exact ⟨a, b, dx, dy, _, _, rfl, rfl, k1.1, k2.1, fun z => by subst z; exact decide_eq_true (h3.inj g2), h, _, h3, g2, rfl⟩
theorem HousesAt.len (h : HousesAt S K H kvs hs) : kvs.length = hs.length := Paired.length h
theorem houses_put {z : Str} {h' : HouseD} (ht : HouseAt S K H a h') : ∀ {kvs : List (Key × V)} {hs : Hs}, HousesAt S K H kvs hs → HousesAt S K H (kvs.map fun kv => if kv.1 = Sum.inr z then (kv.1, .ref a) else kv) (setH hs z h')
  | _, _, .nil => .nil
  | kv :: kvs, nh :: hs, .cons ⟨h1, b, h2, h3⟩ t => by
    refine .cons ?_ (houses_put ht t)
    by_cases e : nh.1 = z
    · have c : kv.1 = Sum.inr z := by rw [h1, e]
      dsimp only
      rw [if_pos c, if_pos e]
      exact ⟨h1, a, rfl, ht⟩
    · have c : ¬ kv.1 = Sum.inr z := by rw [h1]; intro q; injection q with q; exact e q
      dsimp only
      rw [if_neg c, if_neg e]
      exact ⟨h1, b, h2, h3⟩
end
theorem setH_mem {hs : Hs} {z : Str} {h : HouseD} {p : Str × HouseD} (hp : p ∈ setH hs z h) : (p = (z, h) ∨ p ∈ hs) := by
  obtain ⟨q, hq, e⟩ := List.mem_map.mp hp
  split at e
  · rename_i g
    exact .inl (by rw [← e, g])
  · exact .inr (e ▸ hq)
theorem set_fit {n : NetD} {z : Str} {h : HouseD} (f : n.Fit) (h1 : ∀ r ∈ h.rules, r.share ≤ n.fine) (h2 : ∀ y ∈ h.calls, y ∈ n.names) (hz : z ∈ n.names) : NetD.Fit { n with houses := setH n.houses z h } := by
  have k : (setH n.houses z h).map (·.1) = n.houses.map (·.1) := setH_keys _ _ _
  have l : (setH n.houses z h).length = n.houses.length := by simp [setH]
  refine ⟨f.f1, f.f2, ⟨by show 1 ≤ (setH n.houses z h).length; rw [l]; exact f.hs.l1, by show (setH n.houses z h).length ≤ 8; rw [l]; exact f.hs.l2, fun p hp => ?_, by show ((setH n.houses z h).map (·.1)).Nodup; rw [k]; exact f.hs.nd, fun p hp r hr => ?_, fun p hp y hy => ?_⟩, f.e0, f.nd, fun y hy => by show y ∈ (setH n.houses z h).map (·.1); rw [k]; exact f.sub y hy, f.ln⟩
  · rcases setH_mem hp with rfl | hp
    · obtain ⟨q, hq, e⟩ := List.mem_map.mp hz
      have := f.hs.nm q hq
      rwa [show q.1 = z from e] at this
    · exact f.hs.nm p hp
  · rcases setH_mem hp with rfl | hp
    · exact h1 r hr
    · exact f.hs.sh p hp r hr
  · show y ∈ (setH n.houses z h).map (·.1)
    rw [k]
    rcases setH_mem hp with rfl | hp
    · exact h2 y hy
    · exact f.hs.cl p hp y hy
theorem NetD.Fit.names {n : NetD} (f : n.Fit) {z : Str} (h : z ∈ n.names) : isName z = true := by
  obtain ⟨p, hp, rfl⟩ := List.mem_map.mp h
  exact f.hs.nm p hp
theorem len_sub {α : Type} [DecidableEq α] : ∀ {l m : List α}, l.Nodup → (∀ a ∈ l, a ∈ m) → l.length ≤ m.length
  | [], m, _, _ => Nat.zero_le _
  | a :: l, m, nd, hs => by
    obtain ⟨n1, n2⟩ := List.nodup_cons.mp nd
    have ha := hs a List.mem_cons_self
    have := len_sub (l := l) (m := m.erase a) n2 (fun b hb => (List.mem_erase_of_ne fun z => n1 (by rw [← z]; exact hb)).mpr (hs b (List.mem_cons_of_mem _ hb)))
    rw [List.length_erase_of_mem ha] at this
    have : 0 < m.length := List.length_pos_of_mem ha
    simp only [List.length_cons]
    omega
theorem strs_snoc (zs : List Str) (z : Str) : zs.map V.str ++ [.str z] = (zs ++ [z]).map V.str := by simp
theorem paired_app {α β : Type} {R : α → β → Prop} : ∀ {xs xs' : List α} {ys ys' : List β}, Paired R xs ys → Paired R xs' ys' → Paired R (xs ++ xs') (ys ++ ys')
  | _, _, _, _, .nil, h => h
  | _, _, _, _, .cons r t, h => .cons r (paired_app t h)
section
variable {P : Program} {w : World} {K : PySem.W.Frag} {mg : Str → Option Value} {base : Heap}
def sp_Net_contains (K : PySem.W.Frag) : Sp := fun vs H Q _ => ∃ (S : Addr → Prop) (o : Addr) (n : NetD) (z : Str), vs = [.ref o, .str z] ∧ NetAt S K H o n ∧ Q (.bl (decide (z ∈ n.names))) H
theorem sc_Net_contains : FnScope ["self", "name"] ["self", "name"] (defScope s_Net_contains) := ⟨rfl, rfl, rfl, by decide +kernel, rfl, by decide +kernel, by decide +kernel⟩
theorem ok_Net_contains (x : Fx K mg w) : FnR P w K mg base CX0 1 (a_Net_contains K) (sp_Net_contains K) := by
  refine okR x.F_Net_contains sc_Net_contains (fun _ _ _ _ _ _ us hl => match us, hl with | [_, _], _ => rfl) (fun vs H Q E h => by obtain ⟨S, o, n, z, rfl, ⟨f, s1, s2, dx, ph, pe, kvs, h1, h2, h3, h4⟩, hQ⟩ := h; rfl) (fun cdv A outer s H vs Q E hr h => ?_)
  obtain ⟨S, o, n, z, rfl, ⟨f, s1, s2, dx, ph, pe, kvs, h1, h2, h3, h4⟩, hQ⟩ := h
  refine ⟨_, (pss_one (ps_ret (pe_and (pe_callB (r := rIsi K) call_isi rfl x.n_isinstance bb_isinstance (pa_cons (pv 1) (pa_cons (pe_gT x.n_str (by rfl) rfl) pa_nil))) (pe_one (pe_cmp (pc_din (hu_of hr) (pv 1) (pe_fldK (K := K) rfl (pv 0) rfl))))))), ?_⟩
  refine ⟨_, rfl, _, _, _, _, true, rfl, .ty _, .base (.str z), kit_ty (by decide +kernel), true, rfl, ?_⟩
  obtain ⟨r, g1, g2⟩ := dget_in (n := z) h2.1 h3
  refine ⟨_, rfl, _, rfl, o, _, dx, _, _, rfl, h1.1, x.cl_Net, x.na_Net_n_houses, rfl, ph, r, rfl, g1, ?_⟩
  rw [g2]
  exact hQ
def sp_need_house (K : PySem.W.Frag) : Sp := fun vs H Q _ => ∃ (S : Addr → Prop) (o : Addr) (n : NetD) (z : Str), vs = [.ref o, .str z] ∧ NetAt S K H o n ∧ z ∈ n.names ∧ Q .non H
theorem sc_need_house : FnScope ["net", "house"] ["net", "house"] (defScope s_need_house) := ⟨rfl, rfl, rfl, by decide +kernel, rfl, by decide +kernel, by decide +kernel⟩
theorem ok_need_house (x : Fx K mg w) : FnR P w K mg base CX0 2 (a_need_house K) (sp_need_house K) := by
  refine okR x.F_need_house sc_need_house (fun _ _ _ _ _ _ us hl => match us, hl with | [_, _], _ => rfl) (fun vs H Q E h => by obtain ⟨S, o, n, z, rfl, t, hz, hQ⟩ := h; rfl) (fun cdv A outer s H vs Q E hr h => ?_)
  obtain ⟨S, o, n, z, rfl, t, hz, hQ⟩ := h
  refine ⟨_, (pss_one (ps_if (pt_cmpR (op_notInI x.sp_Net_contains x.fn_Net_contains (ok_Net_contains x) (hr.mono (by decide)) pass0) (pv 1) (pv 0) rfl)
 (pss_one ps_never)
 pss_nil)), ?_⟩
  obtain ⟨f, s1, s2, dx, ph, pe, kvs, h1, h2, h3, h4⟩ := id t
  refine ⟨_, rfl, _, rfl, o, dx, _, rfl, h1.1, S, o, n, z, rfl, t, _, rfl, _, rfl, ifF (by simp [hz]) hQ⟩
def sp_Net_getitem (K : PySem.W.Frag) : Sp := fun vs H Q _ => ∃ (S : Addr → Prop) (o : Addr) (n : NetD) (z : Str), vs = [.ref o, .str z] ∧ NetAt S K H o n ∧ z ∈ n.names ∧ ∀ a, HouseAt S K H a (getH n.houses z) → Q (.ref a) H
theorem sc_Net_getitem : FnScope ["self", "house"] ["self", "house"] (defScope s_Net_getitem) := ⟨rfl, rfl, rfl, by decide +kernel, rfl, by decide +kernel, by decide +kernel⟩
theorem ok_Net_getitem (x : Fx K mg w) : FnR P w K mg base CX0 3 (a_Net_getitem K) (sp_Net_getitem K) := by
  refine okR x.F_Net_getitem sc_Net_getitem (fun _ _ _ _ _ _ us hl => match us, hl with | [_, _], _ => rfl) (fun vs H Q E h => by obtain ⟨S, o, n, z, rfl, t, hz, hQ⟩ := h; rfl) (fun cdv A outer s H vs Q E hr h => ?_)
  obtain ⟨S, o, n, z, rfl, t, hz, hQ⟩ := h
  refine ⟨_, (pss_cons (ps_expr (pe_callR (ok_need_house x) (hr.mono (by decide)) rfl x.m_need_house (keep_of x.F_need_house) pass0 (pa_cons (pv 0) (pa_cons (pv 1) pa_nil))))
 (pss_one (ps_ret (pe_dget (hu_of hr) (pe_fldK (K := K) rfl (pv 0) rfl) (pv 1) (fun _ _ => rfl))))), ?_⟩
  obtain ⟨f, s1, s2, dx, ph, pe, kvs, h1, h2, h3, h4⟩ := id t
  obtain ⟨a, hv, ht⟩ := h3.at_ z hz
  exact ⟨_, rfl, _, rfl, S, o, n, z, rfl, t, hz, _, rfl, o, _, dx, _, _, rfl, h1.1, x.cl_Net, x.na_Net_n_houses, rfl, _, rfl, ph, _, rfl, dget_str h2.1 hv, hQ a ht⟩
def sp_need_net (K : PySem.W.Frag) : Sp := fun vs H Q _ => ∃ (S : Addr → Prop) (o : Addr) (n : NetD), vs = [.ref o] ∧ NetAt S K H o n ∧ Q .non H
theorem sc_need_net : FnScope ["net"] ["net"] (defScope s_need_net) := ⟨rfl, rfl, rfl, by decide +kernel, rfl, by decide +kernel, by decide +kernel⟩
theorem ok_need_net (x : Fx K mg w) : FnR P w K mg base CX0 1 (a_need_net K) (sp_need_net K) := by
  refine okR x.F_need_net sc_need_net (fun _ _ _ _ _ _ us hl => match us, hl with | [_], _ => rfl) (fun vs H Q E h => by obtain ⟨S, o, n, rfl, ⟨f, s1, s2, dx, ph, pe, kvs, h1, h2, h3, h4⟩, hQ⟩ := h; rfl) (fun cdv A outer s H vs Q E hr h => ?_)
  obtain ⟨S, o, n, rfl, ⟨f, s1, s2, dx, ph, pe, kvs, h1, h2, h3, h4⟩, hQ⟩ := h
  refine ⟨_, (pss_one (ps_if (pt_not (pt_val (pe_callB (r := rIsi K) call_isi rfl x.n_isinstance bb_isinstance (pa_cons (pv 0) (pa_cons (pe_gR x.m_Net rfl) pa_nil)))))
 (pss_one ps_never)
 pss_nil)), ?_⟩
  exact ⟨_, rfl, _, _, _, _, true, rfl, .own _, isi_own h1.1 x.cl_Net x.cc_Net x.cget x.ctak x.mro_Net, x.kit_Net, true, rfl, hQ⟩
theorem make_rule {S : Addr → Prop} {H1 : Hp} {r : RuleD} {Q : Addr → Hp → Prop} {E : XK} (dm : Dm S H1) (ok : r.ok) (k : ∀ p H', Ext H1 H' → RuleAt S K H' p r → Q p H') :
    ∀ p dx, H1 p = none → H1 dx = none → dx ≠ p → sp_Rule_init K (.ref p :: [.int r.share, .str r.mark, .bl r.always, .bl r.late]) (upd (upd H1 dx (.own p)) p (.ins (c_Rule K) dx [])) (fun v H2 => v = .non ∧ Q p H2) E := by
  intro p dx hp hdx ne
  have e0 : Ext H1 (upd (upd H1 dx (.own p)) p (.ins (c_Rule K) dx [])) := (ext_new hdx).trans (ext_new (by rw [upd_ne (Ne.symm ne)]; exact hp))
  exact ⟨S, p, dx, r, rfl, dm.ext e0, ⟨upd_same, fun z => dm p z hp⟩, ok, fun H' u t => ⟨rfl, k p H' (made_ext hp hdx u) t⟩⟩
/-- equal as two nets are -/
def NetR (K : PySem.W.Frag) (p q : Addr) (b : Bool) (H : Hp) : Prop := ∃ n n', NetAt no K H p n ∧ NetAt no K H q n' ∧ b = decide (n = n')
def NetD.dat (n : NetD) : PyData := .tuple [.int n.fine, .tuple (n.entries.map .str)]
theorem NetD.Fit.nme {n : NetD} (f : n.Fit) : ∀ z ∈ n.entries, isName z = true := fun z hz => by
  obtain ⟨p, hp, rfl⟩ := List.mem_map.mp (f.sub z hz)
  exact f.hs.nm p hp
theorem net_shaped {n : NetD} (f : n.Fit) : SeqAt.shaped n.dat = true := by
  unfold SeqAt.shaped NetD.dat
  simp [PyData.canLay0, PyData.canLayAll0, PyData.depth, PyData.depthAll, strs_depth, strs_lay f.nme]
theorem net_eqv (n n' : NetD) : PyData.eqv n.dat n'.dat = (decide (n.fine = n'.fine) && decide (n.entries = n'.entries)) := by
  simp only [NetD.dat, PyData.eqv, PyData.eqvAll, strs_eqv]
  rw [Bool.eq_iff_iff]
  simp
theorem net_dp {H : Hp} {p pe : Addr} {n : NetD} (hp : H p = some (.tup [.int n.fine, .ref pe])) (h1 : H pe = some (.tup (n.entries.map V.str))) : Dp K H (.ref p) n.dat :=
  .tup (SqT.of hp) (.cons (.int _) (.cons (.tup (SqT.of h1) (strs_dp _)) .nil))
theorem sc_Net_eq : FnScope ["self", "other", "mine"] ["self", "other"] (defScope s_Net_eq) := ⟨rfl, rfl, rfl, by decide +kernel, rfl, by decide +kernel, by decide +kernel⟩
theorem ok_Net_eq (x : Fx K mg w) : FnR P w K mg base CX0 5 (a_Net_eq K) (spEqb (NetR K)) := by
  refine okR x.F_Net_eq sc_Net_eq (fun _ _ _ _ _ _ us hl => match us, hl with | [_, _], _ => rfl) (fun vs H Q E h => by obtain ⟨p, q, b, rfl, ⟨n, n', hp, hq, rfl⟩, hQ⟩ := h; rfl) (fun cdv A outer s H vs Q E hr h => ?_)
  obtain ⟨p, q, b, rfl, ⟨n, n', hp, hq, rfl⟩, hQ⟩ := h
  refine ⟨_, (pss_cons (ps_if (pt_not (pt_val (pe_callB (r := rIsi K) call_isi rfl x.n_isinstance bb_isinstance (pa_cons (pv 1) (pa_cons (pe_gR x.m_Net rfl) pa_nil)))))
 (pss_one (ps_ret pe_bl))
 pss_nil)
 (pss_cons (ps_set (i := 2) sc_Net_eq.nd rfl (Or.inl rfl) (pe_tup (pa_cons (pe_fldK (K := K) rfl (pv 0) rfl) (pa_cons (pe_fldK (K := K) rfl (pv 0) rfl) pa_nil))))
 (pss_one (ps_ret (pe_and (pe_cmpR (show OpR _ _ (rEqD K) from op_eqD hr.units) (pv 2) (pe_tup (pa_cons (pe_fldK (K := K) rfl (pv 1) rfl) (pa_cons (pe_fldK (K := K) rfl (pv 1) rfl) pa_nil))) (nomark _)) (pe_one (pe_cmpR (op_eqB (rcB_di mon_house (eqB_in (ok_House_eq x) x.sp_House_eq x.fn_House_eq pass0)) (hr.mono (by decide))) (pe_fldK (K := K) rfl (pv 0) rfl) (pe_fldK (K := K) rfl (pv 1) rfl) (nomark _)))))))), ?_⟩
  obtain ⟨f, s1, s2, dx, ph, pe, kvs, h1, h2, h3, h4⟩ := id hp
  obtain ⟨f', s1', s2', dy, qh, qe, kvs', g1, g2, g3, g4⟩ := id hq
  refine ⟨_, rfl, _, _, _, _, true, rfl, .own _, isi_own g1.1 x.cl_Net x.cc_Net x.cget x.ctak x.mro_Net, x.kit_Net, true, rfl, ?_⟩
  refine ⟨_, rfl, p, _, dx, _, _, rfl, h1.1, x.cl_Net, x.na_Net_n_fine, rfl, _, rfl, p, _, dx, _, _, rfl, h1.1, x.cl_Net, x.na_Net_n_entries, rfl, by simp [sizeLine_eq], fun t nt => ?_⟩
  have e1 : Ext H (upd H t (.tup [.int n.fine, .ref pe])) := ext_new nt
  have ht : (upd H t (.tup [.int n.fine, .ref pe])) t = some (.tup [.int n.fine, .ref pe]) := upd_same
  generalize upd H t (.tup [.int n.fine, .ref pe]) = H1 at e1 ht
  have dec : decide (n = n') = ((decide (n.fine = n'.fine) && decide (n.entries = n'.entries)) && decide (n.houses = n'.houses)) := by
    obtain ⟨a, b, c⟩ := n
    obtain ⟨a', b', c'⟩ := n'
    rw [Bool.eq_iff_iff]
    simp
    exact ⟨fun ⟨a, b, c⟩ => ⟨⟨a, c⟩, b⟩, fun ⟨⟨a, b⟩, c⟩ => ⟨a, c, b⟩⟩
  refine ⟨_, rfl, _, rfl, q, _, dy, _, _, rfl, e1 _ _ g1.1, x.cl_Net, x.na_Net_n_fine, rfl, _, rfl, q, _, dy, _, _, rfl, e1 _ _ g1.1, x.cl_Net, x.na_Net_n_entries, rfl, by simp [sizeLine_eq], fun t2 nt2 => ?_⟩
  have e2 := e1.trans (ext_new (o := .tup [.int n'.fine, .ref qe]) nt2)
  refine ⟨n.dat, n'.dat, net_dp (ext_new nt2 _ _ ht) (e2 _ _ h4.1), net_dp upd_same (e2 _ _ g4.1), net_shaped f, net_shaped f', ?_⟩
  rw [net_eqv]
  generalize upd H1 t2 (.tup [.int n'.fine, .ref qe]) = H2 at e2
  refine ⟨_, rfl, ifb (fun hb => ?_) fun hb => ?_⟩
  · refine ⟨_, rfl, p, _, dx, _, _, rfl, e2 _ _ h1.1, x.cl_Net, x.na_Net_n_houses, rfl, _, rfl, q, _, dy, _, _, rfl, e2 _ _ g1.1, x.cl_Net, x.na_Net_n_houses, rfl, decide (n.houses = n'.houses), ⟨ph, qh, kvs, kvs', rfl, rfl, e2 _ _ h2.1, e2 _ _ g2.1, ?_⟩, fun H3 e3 => ?_⟩
    · have l1 := h3.len
      have l2 := g3.len
      by_cases l : kvs.length = kvs'.length
      · refine .inr ⟨l, ?_⟩
        rw [← hitB_eq f.hs.nd f'.hs.nd s1 s1' (by omega)]
        exact houses_hits (g3.ext e2) (h3.ext e2)
      · refine .inl ⟨l, decide_eq_false fun z => l ?_⟩
        rw [l1, l2, z]
    · have := hQ _ (e2.trans e3)
      rwa [dec, hb, Bool.true_and] at this
  · have := hQ _ e2
    rwa [dec, hb, Bool.false_and] at this
theorem make_net {S : Addr → Prop} {H1 : Hp} {d ae : Addr} {kvs : List (Key × V)} {m : NetD} {Q : Addr → Hp → Prop} {E : XK} (dm : Dm S H1) (hd : H1 d = some (.dK kvs)) (hh : HousesAt S K H1 kvs m.houses) (he : Sq K H1 ae (m.entries.map V.str))
    (f : m.Fit) (k : ∀ r H' n, Ext H1 H' → NetMade m n → NetAt S K H' r n → Q r H') :
    ∀ r dx, H1 r = none → H1 dx = none → dx ≠ r → sp_Net_init K (.ref r :: [.int m.fine, .ref d, .ref ae]) (upd (upd H1 dx (.own r)) r (.ins (c_Net K) dx [])) (fun v H2 => v = .non ∧ Q r H2) E := by
  intro r dx hr hdx ne
  have e0 : Ext H1 (upd (upd H1 dx (.own r)) r (.ins (c_Net K) dx [])) := (ext_new hdx).trans (ext_new (by rw [upd_ne (Ne.symm ne)]; exact hr))
  exact ⟨S, r, dx, d, ae, kvs, m, rfl, dm.ext e0, ⟨upd_same, fun z => dm r z hr⟩, e0 _ _ hd, hh.ext e0, sq_ext he e0, f, fun H' n u md t => ⟨rfl, k r H' n (made_ext hr hdx u) md t⟩⟩
end
end Ws

set_option Elab.async false
set_option linter.all false
set_option maxRecDepth 100000
set_option maxHeartbeats 4000000
namespace Ws
open PySem PySem.Spec PyProof.Rows L2
def drawK (w c : Addr) (rest turn : Int) : List (Key × V) := [(Sum.inr "wide", .ref w), (Sum.inr "cells", .ref c), (Sum.inr "rest", .int rest), (Sum.inr "turn", .int turn)]
/-- the draws at d (their wide list at w), at most n turns so far -/
def DrawAt (S : Addr → Prop) (H : Hp) (d w c : Addr) (n : Nat) : Prop := S d ∧ S w ∧ ∃ (ws cs : List Int) (rest turn : Int), H d = some (.dK (drawK w c rest turn)) ∧ H w = some (.lst (ws.map V.int)) ∧ At S H c (.lst (cs.map V.int)) ∧
  cs.length ≤ 63 ∧ 0 ≤ turn ∧ turn ≤ n
theorem DrawAt.more {S : Addr → Prop} {H : Hp} {d w c : Addr} {n m : Nat} (h : DrawAt S H d w c n) (le : n ≤ m) : DrawAt S H d w c m := by
  obtain ⟨a, b, ws, cs, rest, turn, h1, h2, h3, h4, h5, h6⟩ := h
  exact ⟨a, b, ws, cs, rest, turn, h1, h2, h3, h4, h5, by omega⟩
/-- under a change elsewhere -/
theorem DrawAt.kp {S T : Addr → Prop} {H H' : Hp} {d w c : Addr} {n : Nat} (h : DrawAt S H d w c n) (e : Kp T H H') (nd : ¬ T d) (nw : ¬ T w) (nc : ¬ T c) : DrawAt S H' d w c n := by
  obtain ⟨a, b, ws, cs, rest, turn, h1, h2, h3, h4, h5, h6⟩ := h
  exact ⟨a, b, ws, cs, rest, turn, e.keep _ _ h1 nd, e.keep _ _ h2 nw, ⟨e.keep _ _ h3.1 nc, h3.2⟩, h4, h5, h6⟩
theorem DrawAt.ext {S : Addr → Prop} {H H' : Hp} {d w c : Addr} {n : Nat} (h : DrawAt S H d w c n) (e : Ext H H') : DrawAt S H' d w c n := h.kp (T := no) (.ext e) (fun z => z) (fun z => z) fun z => z
theorem DrawAt.grow {S : Addr → Prop} {H : Hp} {d w c q : Addr} {n : Nat} (h : DrawAt S H d w c n) (hq : H q = none) : DrawAt (Ws.more S q) H d w c n := by
  obtain ⟨a, b, ws, cs, rest, turn, h1, h2, h3, h4, h5, h6⟩ := h
  exact ⟨.inl a, .inl b, ws, cs, rest, turn, h1, h2, h3.grow hq, h4, h5, h6⟩
/-- what is new is none of theirs -/
theorem DrawAt.ne {S : Addr → Prop} {H : Hp} {d w c q : Addr} {n : Nat} (h : DrawAt S H d w c n) (hq : H q = none) : d ≠ q ∧ w ≠ q ∧ c ≠ q := by
  obtain ⟨a, b, ws, cs, rest, turn, h1, h2, h3, h4, h5, h6⟩ := h
  exact ⟨ne_of_none h1 hq, ne_of_none h2 hq, ne_of_none h3.1 hq⟩
def big : Nat := 1099511627776
theorem draw_get {w c : Addr} {rest turn : Int} : valV (drawK w c rest turn) (Sum.inr "wide") = some (.ref w) ∧ valV (drawK w c rest turn) (Sum.inr "cells") = some (.ref c) ∧ valV (drawK w c rest turn) (Sum.inr "rest") = some (.int rest) ∧
    valV (drawK w c rest turn) (Sum.inr "turn") = some (.int turn) := ⟨rfl, rfl, rfl, rfl⟩
theorem dput_str {H : Hp} {a : Addr} {kvs : List (Key × V)} {z : Str} {v : V} (e : H a = some (.dK kvs)) (hl : kvs.length ≤ 1000) : DPut H a (.str z) v (upd H a (.dK (putK kvs (Sum.inr z) v))) := DPut.k e (k := Sum.inr z) (Nat.lt_of_le_of_lt hl line1001)
theorem put_turn {w c : Addr} {rest turn t : Int} : putK (drawK w c rest turn) (Sum.inr "turn") (.int t) = drawK w c rest t := rfl
theorem put_rest {w c : Addr} {rest turn t : Int} : putK (drawK w c rest turn) (Sum.inr "rest") (.int t) = drawK w c t turn := rfl
theorem pow5_small {b : Int} (h : b.natAbs < 2 ^ 60) : CPow b 5 := ⟨by decide, by decide, Nat.lt_trans h (by decide)⟩
section
variable {P : Program} {w : World} {K : PySem.W.Frag} {mg : Str → Option Value} {base : Heap}
def sp_l_mixed : Sp := fun vs H Q _ => ∃ (S : Addr → Prop) (d wd c : Addr) (n : Nat), vs = [.ref d] ∧ Dm S H ∧ DrawAt S H d wd c n ∧ n ≤ big ∧ ∀ i H', Kp S H H' → DrawAt S H' d wd c (n + 1) → Q (.int i) H'
theorem sc_l_mixed : FnScope ["_law_draw", "_law_turn", "_law_found", "_law_prime", "_law_blend", "_law_cell"] ["_law_draw"] (defScope s_l_mixed) := ⟨rfl, rfl, rfl, by decide +kernel, rfl, by decide +kernel, by decide +kernel⟩
theorem ok_l_mixed (x : Fx K mg w) : FnR P w K mg base CX0 1 (a_l_mixed K) sp_l_mixed := by
  refine okR x.F_l_mixed sc_l_mixed (fun _ _ _ _ _ _ us hl => match us, hl with | [_], _ => rfl) (fun vs H Q E h => by obtain ⟨S, d, wd, c, n, rfl, dm, ⟨sd, sw, ws, cs, rest, turn, h1, h2, h3, h4, h5, h6⟩, hn, hQ⟩ := h; rfl) (fun cdv A outer s H vs Q E hr h => ?_)
  obtain ⟨S, d, wd, c, n, rfl, dm, ⟨sd, sw, ws, cs, rest, turn, h1, h2, h3, h4, h5, h6⟩, hn, hQ⟩ := h
  refine ⟨_, (pss_cons (ps_par (i := 1) (j := 2) rfl sc_l_mixed.nd rfl rfl (by decide) rfl rfl (pa_cons (pe_op op_add (pe_dget (hu_of hr) (pv 0) pe_str (fun _ _ => rfl)) pe_int) (pa_cons pe_int pa_nil)) (by rfl))
 (pss_cons (ps_dput (hu_of hr) (pv 0) pe_str (pv 1) rfl)
 (pss_cons (ps_for PassesOwn.never rfl (pi_listK (K := K) rfl (pe_lst (pa_cons pe_int (pa_cons pe_int (pa_cons pe_int (pa_cons pe_int pa_nil)))))) (pg_name (i := 3) sc_l_mixed.nd rfl (Or.inl rfl))
 (pss_cons (ps_set (i := 4) sc_l_mixed.nd rfl (Or.inl rfl) (pe_op op_add (pe_op op_mul pe_int (pv 1)) (pe_op op_fdiv (pv 3) pe_int)))
 (pss_cons (ps_for PassesOwn.never rfl (pi_listK (K := K) rfl (pe_dget (hu_of hr) (pv 0) pe_str (fun _ _ => rfl))) (pg_name (i := 5) sc_l_mixed.nd rfl (Or.inl rfl))
 (pss_one (ps_set (i := 4) sc_l_mixed.nd rfl (Or.inl rfl) (pe_op op_mod (pe_callTy call_int1 rfl x.n_int bb_int (pa_cons (pe_op op_add (pe_op op_add (pe_op op_mul (pv 4) pe_int) (pv 5)) (pv 1)) pa_nil)) (pv 3)))))
 (pss_one (ps_set (i := 2) sc_l_mixed.nd rfl (Or.inl rfl) (pe_op op_add (pe_op op_mul (pv 2) pe_int) (pe_op op_mod (pe_callTy call_int1 rfl x.n_int bb_int (pa_cons (pe_op op_pow (pv 4) pe_int) pa_nil)) (pv 3))))))))
 (pss_one (ps_ret (pv 2)))))), ?_⟩
  have hb : n ≤ 1099511627776 := hn
  refine ⟨_, rfl, d, _, rfl, dget_str h1 draw_get.2.2.2, _, _, rfl, rfl, _, _, rfl, ?_⟩
  refine ⟨_, rfl, _, rfl, d, _, rfl, dput_str h1 (by simp [drawK]), ?_⟩
  rw [put_turn]
  have u1 : Kp S H (upd H d (.dK (drawK wd c rest (turn + 1)))) := Kp.refl.put sd
  have d1 : (upd H d (.dK (drawK wd c rest (turn + 1)))) d = some (.dK (drawK wd c rest (turn + 1))) := upd_same
  have w1 : (upd H d (.dK (drawK wd c rest (turn + 1)))) wd = some (.lst (ws.map V.int)) := by rw [upd_ne (ne_of h2 h1 (by simp))]; exact h2
  generalize upd H d (.dK (drawK wd c rest (turn + 1))) = H1 at u1 d1 w1
  refine ⟨by simp [sizeLine_eq], fun l nl => ?_⟩
  have e2 : Ext H1 (upd H1 l (.lst [.int 2147483629, .int 2147483587, .int 2147483579, .int 2147483563])) := ext_new nl
  have hl : (upd H1 l (.lst [.int 2147483629, .int 2147483587, .int 2147483579, .int 2147483563])) l = some (.lst [.int 2147483629, .int 2147483587, .int 2147483579, .int 2147483563]) := upd_same
  generalize upd H1 l (.lst [.int 2147483629, .int 2147483587, .int 2147483579, .int 2147483563]) = H2 at e2 hl
  have u2 := u1.trans (.ext e2)
  have c2 := h3.kp u2
  refine ⟨l, rfl, ⟨_, .of hl⟩, for_std (std_list (S := no) (.of hl) (fun z => z)) (fun i σ H' => H' = H2 ∧ ∃ f p b q, σ = [some (.ref d), some (.int (turn + 1)), some (.int f), p, b, q]) ⟨rfl, 0, none, none, none, rfl⟩ (fun i σ H' h => by rw [h.1]; exact Kp.refl) (fun i y σ H' hy ⟨e, f, p, b, q, hσ⟩ => ?_) (fun σ H' ⟨e, f, p, b, q, hσ⟩ => ?_)⟩
  · subst hσ; replace e := e.symm; subst e
    have hp : ∃ z : Int, y = .int z ∧ 0 < z ∧ z < 2147483648 := by
      have := List.mem_of_getElem? hy
      simp only [List.mem_cons, List.not_mem_nil, or_false] at this
      rcases this with rfl | rfl | rfl | rfl <;> exact ⟨_, rfl, by decide, by decide⟩
    obtain ⟨z, rfl, z1, z2⟩ := hp
    refine ⟨_, rfl, _, _, rfl, rfl, .inl ⟨by decide, by decide⟩, _, rfl, _, _, rfl, rfl, ⟨by decide, by decide⟩, _, _, rfl, rfl, ?_⟩
    refine ⟨_, rfl, d, _, rfl, dget_str (e2 _ _ d1) draw_get.2.1, c, rfl, ⟨_, .of c2.1⟩, for_std (std_list (S := no) (.of c2.1) (fun z => z)) (fun i σ H' => H' = H2 ∧ ∃ f q, ∃ b : Int, σ = [some (.ref d), some (.int (turn + 1)), some (.int f), some (.int z), some (.int b), q] ∧ b.natAbs < 2 ^ 60)
      ⟨rfl, f, q, _, rfl, ?_⟩ (fun i σ H' h => by rw [h.1]; exact Kp.refl) (fun i y σ H' hy ⟨e, f, q, b, hσ, hb⟩ => ?_) (fun σ H' ⟨e, f, q, b, hσ, hb⟩ => ?_)⟩
    · have : (z / 19 : Int) ≤ z := Int.ediv_le_self _ (by omega)
      have : 0 ≤ (z / 19 : Int) := Int.ediv_nonneg (by omega) (by decide)
      show (61441 * (turn + 1) + z / 19).natAbs < 1152921504606846976
      omega
    · subst hσ; replace e := e.symm; subst e
      obtain ⟨g, _, rfl⟩ := List.mem_map.mp (List.mem_of_getElem? hy)
      refine ⟨_, rfl, _, _, rfl, rfl, .inr ⟨by decide, by decide⟩, _, rfl, _, _, rfl, rfl, _, rfl, _, _, rfl, rfl, .inl ⟨_, rfl, _, rfl, _, _, rfl, rfl, z1, rfl, f, _, _, rfl, ?_⟩⟩
      have m1 := Int.emod_nonneg (b * 48271 + g + (turn + 1)) (show z ≠ 0 by omega)
      have m2 := Int.emod_lt_of_pos (b * 48271 + g + (turn + 1)) z1
      show ((b * 48271 + g + (turn + 1)) % z).natAbs < 1152921504606846976
      omega
    · subst hσ; replace e := e.symm; subst e
      refine ⟨_, rfl, _, _, rfl, rfl, .inr ⟨by decide, by decide⟩, _, rfl, _, _, rfl, rfl, pow5_small hb, .inl ⟨_, rfl, _, rfl, _, _, rfl, rfl, z1, _, _, rfl, rfl, rfl, _, _, _, _, rfl⟩⟩
  · subst hσ; replace e := e.symm; subst e
    exact ⟨_, rfl, hQ f H2 u2 ⟨sd, sw, ws, cs, rest, turn + 1, e2 _ _ d1, e2 _ _ w1, c2, h4, by omega, by omega⟩⟩
theorem ints_dp (H : Hp) : ∀ zs : List Int, DpAll K H (zs.map V.int) (zs.map PyData.int)
  | [] => .nil
  | z :: zs => .cons (.int z) (ints_dp H zs)
theorem ints_lay : ∀ zs : List Int, PyData.canLayAll0 (zs.map PyData.int) = true ∧ PyData.depthAll (zs.map PyData.int) = 0
  | [] => ⟨rfl, rfl⟩
  | z :: zs => by
    obtain ⟨h1, h2⟩ := ints_lay zs
    exact ⟨by simp [PyData.canLayAll0, PyData.canLay0, h1], by simp [PyData.depthAll, PyData.depth, h2]⟩
theorem ints_shaped (zs : List Int) : SeqAt.shaped (.list (zs.map PyData.int)) = true := by
  obtain ⟨h1, h2⟩ := ints_lay zs
  unfold SeqAt.shaped
  simp [PyData.canLay0, h1, PyData.depth, h2]
def sp_l_take : Sp := fun vs H Q _ => ∃ (S : Addr → Prop) (d wd c : Addr) (n : Nat) (size : Int), vs = [.ref d, .int size] ∧ Dm S H ∧ DrawAt S H d wd c n ∧ n ≤ big ∧ 1 ≤ size ∧ size < 1000000 ∧ ∀ (k : Int) (H' : Hp), 0 ≤ k → k < size → Kp S H H' → DrawAt S H' d wd c (n + 1) → Q (.int k) H'
theorem sc_l_take : FnScope ["_law_draw", "_law_size", "_law_found"] ["_law_draw", "_law_size"] (defScope s_l_take) := ⟨rfl, rfl, rfl, by decide +kernel, rfl, by decide +kernel, by decide +kernel⟩
theorem ok_l_take (x : Fx K mg w) : FnR P w K mg base CX0 2 (a_l_take K) sp_l_take := by
  refine okR x.F_l_take sc_l_take (fun _ _ _ _ _ _ us hl => match us, hl with | [_, _], _ => rfl) (fun vs H Q E h => by obtain ⟨S, d, wd, c, n, size, rfl, dm, da, hn, s1, s2, hQ⟩ := h; rfl) (fun cdv A outer s H vs Q E hr h => ?_)
  obtain ⟨S, d, wd, c, n, size, rfl, dm, da, hn, s1, s2, hQ⟩ := h
  refine ⟨_, (pss_cons (ps_if (pt_cmpR op_eq (pe_dget (hu_of hr) (pv 0) pe_str (fun _ _ => rfl)) pe_int (nomark _))
 (pss_one (ps_dput (hu_of hr) (pv 0) pe_str (pe_ifExp (pt_cmpR (show OpR _ _ (rNeD K) from op_neD hr.units) (pe_dget (hu_of hr) (pv 0) pe_str (fun _ _ => rfl)) (pe_lst pa_nil) (nomark _)) (pe_bmK (K := K) rfl PySem.F.plainAttrs_list PySem.F.slot_list_pop PySem.F.type_list_pop mt_popAt (pe_dget (hu_of hr) (pv 0) pe_str (fun _ _ => rfl)) (pa_cons pe_int pa_nil)) (pe_callR (ok_l_mixed x) (hr.mono (by decide)) rfl x.m_l_mixed (keep_of x.F_l_mixed) pass0 (pa_cons (pv 0) pa_nil))) rfl))
 pss_nil)
 (pss_cons (ps_set (i := 2) sc_l_take.nd rfl (Or.inl rfl) (pe_op op_mod (pe_callTy call_int1 rfl x.n_int bb_int (pa_cons (pe_dget (hu_of hr) (pv 0) pe_str (fun _ _ => rfl)) pa_nil)) (pv 1)))
 (pss_cons (ps_dput (hu_of hr) (pv 0) pe_str (pe_op op_fdiv (pe_dget (hu_of hr) (pv 0) pe_str (fun _ _ => rfl)) (pv 1)) rfl)
 (pss_one (ps_ret (pv 2)))))), ?_⟩
  obtain ⟨sd, sw, ws, cs, rest, turn, h1, h2, h3, h4, h5, h6⟩ := id da
  have wne : wd ≠ d := ne_of h2 h1 (by simp)
  refine ⟨_, rfl, d, _, rfl, dget_str h1 draw_get.2.2.1, rfl, _, rfl, ifb (fun hb => ?_) fun hb => ?_⟩
  · refine ⟨_, rfl, d, _, rfl, dget_str h1 draw_get.1, by simp [sizeLine_eq], fun l nl => ?_⟩
    have e1 : Ext H (upd H l (.lst [])) := ext_new nl
    have hl : (upd H l (.lst [])) l = some (.lst []) := upd_same
    generalize upd H l (.lst []) = H1 at e1 hl
    refine ⟨.list (ws.map PyData.int), .list [], .lst (.of (e1 _ _ h2)) (ints_dp H1 ws), .lst (.of hl) .nil, ints_shaped ws, by decide +kernel, _, rfl, ?_⟩
    cases ws with
    | nil =>
      refine ⟨_, rfl, S, d, wd, c, n, rfl, dm.ext e1, da.ext e1, hn, fun i H2 u2 da2 => ?_⟩
      obtain ⟨_, _, ws', cs', rest', turn', g1, g2, g3, g4, g5, g6⟩ := id da2
      refine ⟨_, rfl, d, _, rfl, dput_str g1 (by simp [drawK]), ?_⟩
      rw [put_rest]
      have u3 : Kp S H (upd H2 d (.dK (drawK wd c i turn'))) := (Kp.ext e1).trans (u2.trans (Kp.refl.put sd))
      refine ⟨_, rfl, d, _, rfl, dget_str upd_same draw_get.2.2.1, .inl ⟨_, rfl, _, rfl, _, _, rfl, rfl, by show (0 : Int) < size; omega, ?_⟩⟩
      refine ⟨_, rfl, d, _, rfl, dget_str upd_same draw_get.2.2.1, _, rfl, _, _, rfl, rfl, ⟨by omega, by omega⟩, _, rfl, d, _, rfl, dput_str upd_same (by simp [drawK]), ?_⟩
      rw [put_rest, upd_upd]
      refine ⟨_, rfl, hQ _ _ (Int.emod_nonneg _ (by omega)) (Int.emod_lt_of_pos _ (by omega)) ((Kp.ext e1).trans (u2.trans (Kp.refl.put sd))) ⟨sd, sw, ws', cs', _, turn', upd_same, by rw [upd_ne wne]; exact g2, ⟨by rw [upd_ne (ne_of g3.1 g1 (by simp))]; exact g3.1, g3.2⟩, g4, g5, g6⟩⟩
    | cons z ws =>
      refine ⟨_, rfl, d, _, rfl, dget_str (e1 _ _ h1) draw_get.1, .inl ⟨rfl, _, .of (e1 _ _ h2)⟩, wd, _, 0, 0, _, rfl, rfl, e1 _ _ h2, by decide, by decide, ?_, rfl, ?_⟩
      · simp [seqIndex?]
      refine ⟨_, rfl, d, _, rfl, dput_str (by rw [upd_ne (Ne.symm wne)]; exact e1 _ _ h1) (by simp [drawK]), ?_⟩
      rw [put_rest]
      refine ⟨_, rfl, d, _, rfl, dget_str upd_same draw_get.2.2.1, .inl ⟨_, rfl, _, rfl, _, _, rfl, rfl, by show (0 : Int) < size; omega, ?_⟩⟩
      refine ⟨_, rfl, d, _, rfl, dget_str upd_same draw_get.2.2.1, _, rfl, _, _, rfl, rfl, ⟨by omega, by omega⟩, _, rfl, d, _, rfl, dput_str upd_same (by simp [drawK]), ?_⟩
      rw [put_rest, upd_upd]
      refine ⟨_, rfl, hQ _ _ (Int.emod_nonneg _ (by omega)) (Int.emod_lt_of_pos _ (by omega)) (((Kp.ext e1).put sw).trans (Kp.refl.put sd)) ⟨sd, sw, ws, cs, _, turn, upd_same, by rw [upd_ne wne, upd_same]; rfl, ⟨?_, h3.2⟩, h4, h5, by omega⟩⟩
      rw [upd_ne (ne_of h3.1 h1 (by simp)), upd_ne (fun q : c = wd => h3.2 (by rw [q]; exact sw))]
      exact e1 _ _ h3.1
  · refine ⟨_, rfl, d, _, rfl, dget_str h1 draw_get.2.2.1, .inl ⟨_, rfl, _, rfl, _, _, rfl, rfl, by show (0 : Int) < size; omega, ?_⟩⟩
    refine ⟨_, rfl, d, _, rfl, dget_str h1 draw_get.2.2.1, _, rfl, _, _, rfl, rfl, ⟨by omega, by omega⟩, _, rfl, d, _, rfl, dput_str h1 (by simp [drawK]), ?_⟩
    rw [put_rest]
    refine ⟨_, rfl, hQ _ _ (Int.emod_nonneg _ (by omega)) (Int.emod_lt_of_pos _ (by omega)) (Kp.refl.put sd) ⟨sd, sw, ws, cs, _, turn, upd_same, by rw [upd_ne wne]; exact h2, ⟨by rw [upd_ne (ne_of h3.1 h1 (by simp))]; exact h3.1, h3.2⟩, h4, h5, by omega⟩⟩
end
end Ws

set_option Elab.async false
set_option linter.all false
set_option maxRecDepth 100000
set_option maxHeartbeats 4000000
namespace Ws
open PySem PySem.Spec PyProof.Rows L2
section
variable {P : Program} {w : World} {K : PySem.W.Frag} {mg : Str → Option Value} {base : Heap}
def sp_l_pick : Sp := fun vs H Q _ => ∃ (S : Addr → Prop) (d wd c : Addr) (n : Nat) (v : V), vs = [.ref d, v] ∧ Dm S H ∧ DrawAt S H d wd c n ∧ n ≤ big ∧
  ((∃ a xs, v = .ref a ∧ At S H a (.lst xs) ∧ xs ≠ [] ∧ xs.length ≤ 1000 ∧ ∀ y ∈ xs, ∀ H', Kp S H H' → DrawAt S H' d wd c (n + 1) → Q y H') ∨
   ∃ z : Str, v = .str z ∧ 1 ≤ z.length ∧ z.length ≤ 1000 ∧ ∀ g ∈ z.cps.toList, ∀ H', Kp S H H' → DrawAt S H' d wd c (n + 1) → Q (.str ⟨#[g]⟩) H')
theorem sc_l_pick : FnScope ["_law_draw", "_law_some"] ["_law_draw", "_law_some"] (defScope s_l_pick) := ⟨rfl, rfl, rfl, by decide +kernel, rfl, by decide +kernel, by decide +kernel⟩
theorem ok_l_pick (x : Fx K mg w) : FnR P w K mg base CX0 3 (a_l_pick K) sp_l_pick := by
  refine okR x.F_l_pick sc_l_pick (fun _ _ _ _ _ _ us hl => match us, hl with | [_, _], _ => rfl) (fun vs H Q E h => by obtain ⟨S, d, wd, c, n, v, rfl, dm, da, hn, hv⟩ := h; rfl) (fun cdv A outer s H vs Q E hr h => ?_)
  obtain ⟨S, d, wd, c, n, v, rfl, dm, da, hn, hv⟩ := h
  refine ⟨_, (pss_one (ps_ret (pe_ix (r := rIx K) ix_seq (pv 1) (pe_callR (ok_l_take x) (hr.mono (by decide)) rfl x.m_l_take (keep_of x.F_l_take) pass0 (pa_cons (pv 0) (pa_cons (pe_callB (r := rLenK K) call_lenK rfl x.n_len bb_len (pa_cons (pv 1) pa_nil)) pa_nil))) (fun _ _ => rfl)))), ?_⟩
  rcases hv with ⟨a, xs, rfl, ha, h0, hl, hQ⟩ | ⟨z, rfl, l1, l2, hQ⟩
  · have hp : 0 < xs.length := List.length_pos_iff.mpr h0
    refine ⟨_, rfl, _, rfl, _, rfl, _, _, rfl, .inl ⟨_, .of ha.1, rfl⟩, S, d, wd, c, n, _, rfl, dm, da, hn, by omega, by omega, fun k H' k0 k1 u da' => ?_⟩
    obtain ⟨j, rfl⟩ := Int.eq_ofNat_of_zero_le k0
    have hj : j < xs.length := by omega
    exact .inl ⟨a, xs, (j : Int), xs[j], rfl, rfl, .of (ha.kp u).1, atI_nat (List.getElem?_eq_getElem hj), hQ _ (List.getElem_mem hj) H' u da'⟩
  · refine ⟨_, rfl, _, rfl, _, rfl, _, _, rfl, ⟨sz l2, rfl⟩, S, d, wd, c, n, _, rfl, dm, da, hn, by omega, by omega, fun k H' k0 k1 u da' => ?_⟩
    obtain ⟨j, rfl⟩ := Int.eq_ofNat_of_zero_le k0
    have hj : j < z.cps.toList.length := by
      have : z.cps.toList.length = z.length := Array.length_toList
      omega
    exact .inr (.inr ⟨z, (j : Int), z.cps.toList[j], rfl, rfl, sz l2, atI_nat (List.getElem?_eq_getElem hj), hQ _ (List.getElem_mem hj) H' u da'⟩)
/-- the draws' own two -/
def two (a b : Addr) : Addr → Prop := fun x => x = a ∨ x = b
def sp_l_begun (K : PySem.W.Frag) : Sp := fun vs H Q _ => ∃ (a : Addr) (ns : List Int), vs = [.ref a] ∧ SqL K H a (ns.map V.int) ∧ ns.length ≤ 63 ∧ ∀ d wd c H', Ext H H' → H d = none → H wd = none → DrawAt (two d wd) H' d wd c 0 → Q (.ref d) H'
def absI (i : Int) : Int := if i < 0 then -i else i
def wideI (i : Int) : Option Int := if (1000000000000000000 : Int) ≤ absI i then some (absI i - 1000000000000000000) else none
def asInt (g : Int → Option Int) : V → Option V := fun v => match v with
  | .int i => (g i).map V.int
  | _ => none
theorem asInt_all (g : Int → Option Int) (ns : List Int) : (ns.map V.int).filterMap (asInt g) = (ns.filterMap g).map V.int := by
  rw [List.filterMap_map, List.map_filterMap]
  rfl
theorem sc_l_begun : FnScope ["_law_script", "_law_wide", "_law_cell"] ["_law_script"] (defScope s_l_begun) := ⟨rfl, rfl, rfl, by decide +kernel, rfl, by decide +kernel, by decide +kernel⟩
theorem ok_l_begun (x : Fx K mg w) : FnR P w K mg base CX0 1 (a_l_begun K) (sp_l_begun K) := by
  refine okR x.F_l_begun sc_l_begun (fun _ _ _ _ _ _ us hl => match us, hl with | [_], _ => rfl) (fun vs H Q E h => by obtain ⟨a, ns, rfl, hs, hl, hQ⟩ := h; rfl) (fun cdv A outer s H vs Q E hr h => ?_)
  obtain ⟨a, ns, rfl, hs, hl, hQ⟩ := h
  refine ⟨_, (pss_cons (ps_setLc (i := 1) (own := [("_law_cell", 2)]) rfl sc_l_begun.nd rfl rfl (sw_true rfl rfl rfl (by decide +kernel)) (pi_listK (K := K) rfl (pv 0)) (blkOk_by (N := ["_law_script", "_law_wide", "_law_cell"]) (sc := defScope s_l_begun) (by decide +kernel)) (fun _ _ _ _ _ => (pg_name (i := 2) sc_l_begun.nd rfl (Or.inl rfl))) (fun _ _ _ _ _ => (pts_one (pt_cmpR op_ge (pe_callB call_abs rfl x.n_abs bb_abs (pa_cons (pv 2) pa_nil)) (pe_op op_pow pe_int pe_int) (nomark _)))) (fun _ _ _ _ _ => (pe_op op_sub (pe_callB call_abs rfl x.n_abs bb_abs (pa_cons (pv 2) pa_nil)) (pe_op op_pow pe_int pe_int))))
 (pss_one (ps_ret (pe_disp (pps_cons pe_str (pv 1) (pps_cons pe_str (pe_lc (own := [("_law_cell", 2)]) (tt := tYes) rfl sc_l_begun.nd (pi_listK (K := K) rfl (pv 0)) (blkOk_by (N := ["_law_script", "_law_wide", "_law_cell"]) (sc := defScope s_l_begun) (by decide +kernel)) (fun _ _ _ _ _ => (pg_name (i := 2) sc_l_begun.nd rfl (Or.inl rfl))) (fun _ _ _ _ _ => pts_nil) (fun _ _ _ _ _ => (pe_op op_mod (pe_callTy call_int1 rfl x.n_int bb_int (pa_cons (pe_callB call_abs rfl x.n_abs bb_abs (pa_cons (pv 2) pa_nil)) pa_nil)) pe_int))) (pps_cons pe_str pe_int (pps_cons pe_str pe_int pps_nil)))) rfl rfl (by simp) (by decide))))), ?_⟩
  refine ⟨_, rfl, a, rfl, ⟨_, hs⟩, fun W hW => lc_map (std_list hs (fun z => z)) hW (asInt wideI) (by simp; omega) (fun y H' Nx hy e g1 g2 => ?_) (fun H1 e1 hW1 => ?_)⟩
  · obtain ⟨i, hi, rfl⟩ := List.mem_map.mp hy
    refine ⟨rfl, _, rfl, i, rfl, _, _, rfl, rfl, ⟨by decide, by decide, by decide⟩, _, _, rfl, rfl, _, rfl, ifb (fun hb => ?_) fun hb => ?_⟩
    · have hb : (1000000000000000000 : Int) ≤ absI i := of_decide_eq_true hb
      refine ⟨_, rfl, i, rfl, _, _, rfl, rfl, ⟨by decide, by decide, by decide⟩, _, _, rfl, rfl, g1 _ _ Ext.rfl' ?_⟩
      show (wideI i).map V.int = _
      rw [wideI, if_pos hb]
      rfl
    · have hb : ¬ (1000000000000000000 : Int) ≤ absI i := of_decide_eq_false hb
      refine g2 _ Ext.rfl' ?_
      show (wideI i).map V.int = none
      rw [wideI, if_neg hb]
      rfl
  rw [asInt_all] at hW1
  refine fun d hd => ?_
  have e2 : Ext H1 (upd H1 d (.dK [])) := ext_new hd
  have d2 : (upd H1 d (.dK [])) d = some (.dK []) := upd_same
  have nd : W ≠ d := ne_of_none hW1 hd
  generalize upd H1 d (.dK []) = H2 at e2 d2
  have e12 := e1.trans e2
  refine ⟨_, rfl, _, rfl, a, rfl, ⟨_, sqL_ext hs e12⟩, fun C hC => lc_map (std_list (sqL_ext hs e12) (fun z => z)) hC (asInt fun i => some (absI i % 2147483629)) (by simp; omega) (fun y H' Nx hy e g1 g2 => ?_) (fun H3 e3 hC3 => ?_)⟩
  · obtain ⟨i, hi, rfl⟩ := List.mem_map.mp hy
    exact ⟨rfl, _, rfl, i, rfl, .inl ⟨_, rfl, _, _, rfl, rfl, by show (0 : Int) < 2147483629; decide, g1 _ _ Ext.rfl' rfl⟩⟩
  rw [asInt_all] at hC3
  have hdn : H d = none := by
    cases q : H d with
    | none => rfl
    | some u => rw [e1 _ _ q] at hd; cases hd
  have cn : C ≠ d := fun z => by rw [z, d2] at hC; cases hC
  have cw : C ≠ W := fun z => by rw [z, e2 _ _ hW1] at hC; cases hC
  refine ⟨e3 _ _ d2, drawK W C 0 0, rfl, by simp [drawK], ?_⟩
  refine hQ d W C _ (fun c u h => ?_) hdn hW ⟨.inl rfl, .inr rfl, _, _, 0, 0, by rw [upd_same]; rfl, by rw [upd_ne nd]; exact e3 _ _ (e2 _ _ hW1), ⟨by rw [upd_ne cn]; exact hC3, fun z => z.elim cn cw⟩, ?_, by decide, by decide⟩
  · rw [upd_ne (ne_of_none h hdn)]
    exact (e12.trans e3) _ _ h
  · have := List.length_filterMap_le (fun i => some (absI i % 2147483629)) ns
    omega
end
end Ws

set_option Elab.async false
set_option linter.all false
set_option maxRecDepth 100000
set_option maxHeartbeats 4000000
namespace Ws
open PySem PySem.Spec PyProof.Rows L2
/-! ### signs and words -/
theorem isName_iff {z : Str} : isName z = true ↔ 1 ≤ z.cps.toList.length ∧ z.cps.toList.length ≤ 6 ∧ ∀ c ∈ z.cps.toList, c ∈ letters.cps.toList := by
  have e : z.length = z.cps.toList.length := by rw [Array.length_toList]; rfl
  unfold isName
  rw [e]
  simp only [Bool.and_eq_true, decide_eq_true_eq, List.all_eq_true]
theorem joinL_nil : ∀ ps : List (List Nat), TL.joinL [] ps = ps.flatten
  | [] => rfl
  | [p] => by simp [TL.joinL]
  | p :: q :: r => by
    have := joinL_nil (q :: r)
    simp only [TL.joinL, List.nil_append, this, List.flatten_cons]
theorem join_one (cs : List Nat) : (Txt.join "" (cs.map fun c => (⟨#[c]⟩ : Str))).cps.toList = cs := by
  rw [TL.join_eq]
  have h := TL.tl_join "" (cs.map fun c => (⟨#[c]⟩ : Str))
  have h2 : TL.joinL (TL.tl "") ((cs.map fun c => (⟨#[c]⟩ : Str)).map TL.tl) = cs := by
    rw [show TL.tl "" = [] from rfl, joinL_nil, List.map_map]
    induction cs with
    | nil => rfl
    | cons c cs ih =>
      rw [List.map_cons, List.flatten_cons]
      have := ih (TL.tl_join _ _)
      rw [this]
      rfl
  exact h.trans h2
theorem cut5 (z : Str) : (cutS z none (some 5)).cps.toList = z.cps.toList.take 5 := by
  unfold cutS
  rw [HT.sIx_none, show (some (5 : Int)) = some ((5 : Nat) : Int) from rfl, HT.sIx_nat]
  simp only [List.drop_zero, Nat.sub_zero]
  have e : z.length = z.cps.toList.length := by rw [Array.length_toList]; rfl
  rw [e, List.take_eq_take_iff]
  omega
theorem app_cps (a b : Str) : (a ++ b).cps.toList = a.cps.toList ++ b.cps.toList := by
  show (a.cps ++ b.cps).toList = _
  simp
/-- a word near to z -/
def near (z : Str) (c : Nat) : Str := cutS z none (some 5) ++ ⟨#[c]⟩
theorem near_cps (z : Str) (c : Nat) : (near z c).cps.toList = z.cps.toList.take 5 ++ [c] := by
  unfold near
  rw [app_cps, cut5]
theorem near_name {z : Str} {c : Nat} (h : isName z = true) (hc : c ∈ letters.cps.toList) : isName (near z c) = true := by
  rw [isName_iff] at h ⊢
  rw [near_cps]
  refine ⟨by simp, by simp; omega, fun x hx => ?_⟩
  rcases List.mem_append.mp hx with hx | hx
  · exact h.2.2 x (List.mem_of_mem_take hx)
  · rw [List.mem_singleton.mp hx]; exact hc
theorem letters_nodup : letters.cps.toList.Nodup := by decide +kernel
theorem letters_len : letters.cps.toList.length = 26 := by decide +kernel
theorem letters_size : letters.cps.size = 26 := by decide +kernel
/-- not all near words are taken -/
theorem near_free (z : Str) (zs : List Str) (h : zs.length < 26) : ∃ c ∈ letters.cps.toList, near z c ∉ zs := by
  refine Classical.byContradiction fun no => ?_
  have all : ∀ a ∈ letters.cps.toList.map (near z), a ∈ zs := fun a ha => by
    obtain ⟨c, hc, rfl⟩ := List.mem_map.mp ha
    exact Classical.byContradiction fun n => no ⟨c, hc, n⟩
  have nd : (letters.cps.toList.map (near z)).Nodup := List.Pairwise.map _ (fun a b n e => n (by
    have := congrArg (fun s : Str => s.cps.toList) e
    simp only [near_cps] at this
    simpa using this)) letters_nodup
  have := len_sub nd all
  rw [List.length_map, letters_len] at this
  omega
def words10 : List Str := ["a", "b", "ab", "aa", "house", "handed", "rule", "zzzzzz", "fails", "calls"]
theorem words10_ok : ∀ z ∈ words10, isName z = true := by decide +kernel
/-- the words but those of zs -/
def notIn (zs : List Str) : V → Option V := fun v => match v with
  | .str z => if z ∈ zs then none else some (.str z)
  | _ => none
theorem notIn_all (zs : List Str) : ∀ ys : List Str, (ys.map V.str).filterMap (notIn zs) = (ys.filter fun z => decide (z ∉ zs)).map V.str
  | [] => rfl
  | y :: ys => by
    rw [List.map_cons, List.filterMap_cons, notIn_all zs ys, List.filter_cons]
    by_cases h : y ∈ zs
    · simp [notIn, h]
    · simp [notIn, h]
section
variable {P : Program} {w : World} {K : PySem.W.Frag} {mg : Str → Option Value} {base : Heap}
/-- behind an if that has no else both ways go on alike -/
theorem seq_if {c : TT} {t u : TS} {D : Ends} {σ : L2.St} {H : Hp} (I : L2.St → Hp → Prop) (tail : ∀ σ' H', I σ' H' → u D σ' H')
    (h : (∀ σ' H', I σ' H' → u D σ' H') → c σ H fun b H1 => if b = true then t { D with nx := u D } σ H1 else u D σ H1) : tSeq (tIfS c t tNext) u D σ H := h tail
def sp_l_names : Sp := fun vs H Q _ => ∃ (S : Addr → Prop) (d wd c : Addr) (n many : Nat), vs = [.ref d, .int (many : Nat)] ∧ Dm S H ∧ DrawAt S H d wd c n ∧ n + 100 ≤ big ∧ many ≤ 8 ∧
  ∀ (l : Addr) (zs : List Str) (H' : Hp), Kp S H H' → DrawAt S H' d wd c (n + 6 * many) → At S H' l (.lst (zs.map V.str)) → H l = none → zs.Nodup → (∀ z ∈ zs, isName z = true) → zs.length = many → Q (.ref l) H'
theorem sc_l_names : FnScope ["_law_draw", "_law_many", "_law_letters", "_law_found", "_law_some", "_law_k", "_law_word", "_law_near", "_law_spot", "_law_letter", "_law_one"] ["_law_draw", "_law_many"] (defScope s_l_names) := ⟨rfl, rfl, rfl, by decide +kernel, rfl, by decide +kernel, by decide +kernel⟩
theorem ok_l_names (x : Fx K mg w) : FnR P w K mg base CX0 4 (a_l_names K) sp_l_names := by
  refine okR x.F_l_names sc_l_names (fun _ _ _ _ _ _ us hl => match us, hl with | [_, _], _ => rfl) (fun vs H Q E h => by obtain ⟨S, d, wd, c, n, many, rfl, dm, da, hn, hm, hQ⟩ := h; rfl) (fun cdv A outer s H vs Q E hr h => ?_)
  obtain ⟨S, d, wd, c, n, many, rfl, dm, da, hn, hm, hQ⟩ := h
  refine ⟨_, (pss_cons (ps_asg (pe_tup (pa_cons pe_str (pa_cons (pe_lst pa_nil) pa_nil))) (pg_tupK (K := K) (n := 2) rfl rfl (pgs_cons (pg_name (i := 2) sc_l_names.nd rfl (Or.inr rfl)) (pgs_cons (pg_name (i := 3) sc_l_names.nd rfl (Or.inr rfl)) pgs_nil))))
 (pss_cons (ps_set (i := 4) sc_l_names.nd rfl (Or.inl rfl) (pe_lst (pa_cons pe_str (pa_cons pe_str (pa_cons pe_str (pa_cons pe_str (pa_cons pe_str (pa_cons pe_str (pa_cons pe_str (pa_cons pe_str (pa_cons pe_str (pa_cons pe_str pa_nil))))))))))))
 (pss_cons (ps_for PassesOwn.never rfl (pi_range1 rfl x.n_range (pa_cons (pv 1) pa_nil)) (pg_name (i := 5) sc_l_names.nd rfl (Or.inl rfl))
 (pss_cons (ps_set (i := 6) sc_l_names.nd rfl (Or.inr rfl) (pe_callR (ok_l_pick x) (hr.mono (by decide)) rfl x.m_l_pick (keep_of x.F_l_pick) pass0 (pa_cons (pv 0) (pa_cons (pv 4) pa_nil))))
 (pss_cons (ps_if (pt_cmpR op_eq (pe_callR (ok_l_take x) (hr.mono (by decide)) rfl x.m_l_take (keep_of x.F_l_take) pass0 (pa_cons (pv 0) (pa_cons pe_int pa_nil))) pe_int (nomark _))
 (pss_one (ps_set (i := 6) sc_l_names.nd rfl (Or.inr rfl) (pe_joinK (K := K) rfl pe_str (pe_lc (own := [("_law_spot", 8)]) (tt := tYes) rfl sc_l_names.nd (pi_range1 rfl x.n_range (pa_cons (pe_op op_add pe_int (pe_callR (ok_l_take x) (hr.mono (by decide)) rfl x.m_l_take (keep_of x.F_l_take) pass0 (pa_cons (pv 0) (pa_cons pe_int pa_nil)))) pa_nil)) (blkOk_by (N := ["_law_draw", "_law_many", "_law_letters", "_law_found", "_law_some", "_law_k", "_law_word", "_law_near", "_law_spot", "_law_letter", "_law_one"]) (sc := defScope s_l_names) (by decide +kernel)) (fun _ _ _ _ _ => (pg_name (i := 8) sc_l_names.nd rfl (Or.inl rfl))) (fun _ _ _ _ _ => pts_nil) (fun _ _ _ _ _ => (pe_callR (ok_l_pick x) (hr.mono (by decide)) rfl x.m_l_pick (keep_of x.F_l_pick) pass0 (pa_cons (pv 0) (pa_cons (pv 2) pa_nil))))))))
 pss_nil)
 (pss_cons (ps_set (i := 7) sc_l_names.nd rfl (Or.inl rfl) (pe_op op_cat (pe_lst (pa_cons (pv 6) pa_nil)) (pe_lc (own := [("_law_letter", 9)]) (tt := tYes) rfl sc_l_names.nd (pi_str (pv 2)) (blkOk_by (N := ["_law_draw", "_law_many", "_law_letters", "_law_found", "_law_some", "_law_k", "_law_word", "_law_near", "_law_spot", "_law_letter", "_law_one"]) (sc := defScope s_l_names) (by decide +kernel)) (fun _ _ _ _ _ => (pg_name (i := 9) sc_l_names.nd rfl (Or.inl rfl))) (fun _ _ _ _ _ => pts_nil) (fun _ _ _ _ _ => (pe_op op_add_str (pe_slice sl_str (pv 6) po_none (po_some pe_int)) (pv 9))))))
 (pss_one (ps_expr (pe_bmK (K := K) rfl PySem.F.plainAttrs_list PySem.F.slot_list_append PySem.F.type_list_append mt_append (pv 3) (pa_cons (pe_ix (r := rIxL K) ix_list (pe_lc (own := [("_law_one", 10)]) rfl sc_l_names.nd (pi_listK (K := K) rfl (pv 7)) (blkOk_by (N := ["_law_draw", "_law_many", "_law_letters", "_law_found", "_law_some", "_law_k", "_law_word", "_law_near", "_law_spot", "_law_letter", "_law_one"]) (sc := defScope s_l_names) (by decide +kernel)) (fun _ _ _ _ _ => (pg_name (i := 10) sc_l_names.nd rfl (Or.inl rfl))) (fun _ _ _ _ _ => (pts_one (pt_cmpR (show OpR _ _ (rIn K true) from op_notIn_seq) (pv 10) (pv 3) rfl))) (fun _ _ _ _ _ => (pv 10))) pe_int (fun _ _ => rfl)) pa_nil))))))))
 (pss_one (ps_ret (pv 3)))))), ?_⟩
  have hb : n + 100 ≤ 1099511627776 := hn
  refine ⟨by simp [sizeLine_eq], fun f nf => ⟨by simp [sizeLine_eq], fun tp ntp => ?_⟩⟩
  have e1 : Ext H (upd H f (.lst [])) := ext_new nf
  have hf1 : (upd H f (.lst [])) f = some (.lst []) := upd_same
  generalize upd H f (.lst []) = H1 at e1 hf1 ntp
  have e2 : Ext H1 (upd H1 tp (.tup [.str "abcdefghijklmnopqrstuvwxyz", .ref f])) := ext_new ntp
  have ht2 : (upd H1 tp (.tup [.str "abcdefghijklmnopqrstuvwxyz", .ref f])) tp = some (.tup [.str "abcdefghijklmnopqrstuvwxyz", .ref f]) := upd_same
  generalize upd H1 tp (.tup [.str "abcdefghijklmnopqrstuvwxyz", .ref f]) = H2 at e2 ht2
  refine ⟨tp, _, rfl, .of ht2, rfl, _, _, rfl, _, _, rfl, rfl, ?_⟩
  refine ⟨by simp [sizeLine_eq], fun sm nsm => ?_⟩
  have e3 : Ext H2 (upd H2 sm (.lst (words10.map V.str))) := ext_new nsm
  have hs3 : (upd H2 sm (.lst (words10.map V.str))) sm = some (.lst (words10.map V.str)) := upd_same
  change tSeq _ _ _ _ (upd H2 sm (.lst (words10.map V.str)))
  generalize upd H2 sm (.lst (words10.map V.str)) = H3 at e3 hs3
  have e13 := (e1.trans e2).trans e3
  have hf3 := (e2.trans e3) _ _ hf1
  have fs : sm ≠ f := fun z => by rw [z, (e2 _ _ hf1)] at nsm; cases nsm
  have nsS : ¬ S sm := fun z => dm.ext (e1.trans e2) sm z nsm
  have nfS : ¬ S f := fun z => dm f z nf
  obtain ⟨fd, fw, fc⟩ := da.ne nf
  refine ⟨_, rfl, (many : Int), rfl, by omega, by omega, for_std (std_range (S := more S f)) (fun i σ H' => Kp (more S f) H3 H' ∧ DrawAt S H' d wd c (n + 6 * i) ∧ At S H' sm (.lst (words10.map V.str)) ∧ ∃ zs, H' f = some (.lst (zs.map V.str)) ∧ zs.Nodup ∧ (∀ z ∈ zs, isName z = true) ∧ zs.length = i ∧
    ∃ k wo ne, σ = [some (.ref d), some (.int many), some (.str letters), some (.ref f), some (.ref sm), k, wo, ne, none, none, none]) ⟨Kp.refl, da.ext e13, ⟨hs3, nsS⟩, [], hf3, .nil, fun z h => by simp at h, rfl, none, none, none, rfl⟩ (fun i σ H' h => h.1) (fun i y σ H4 hy ⟨u, da4, as4, zs, hf4, nd, nm, hl, k, wo, ne, hσ⟩ => ?_) (fun σ H4 ⟨u, da4, as4, zs, hf4, nd, nm, hl, k, wo, ne, hσ⟩ => ?_)⟩
  · subst hσ
    have hi : i < many := by
      have := (List.getElem?_eq_some_iff.mp hy).1
      simpa using this
    have hr : Kp (more S f) H H4 := (Kp.ext e13).trans u
    have dm4 : Dm S H4 := dm.kp hr
    refine ⟨_, rfl, _, rfl, S, d, wd, c, _, _, rfl, dm4, da4, by show n + 6 * i ≤ 1099511627776; omega, .inl ⟨sm, _, rfl, as4, by decide +kernel, by decide +kernel, fun y hy H5 u5 da5 => ?_⟩⟩
    obtain ⟨wd0, hw0, rfl⟩ := List.mem_map.mp hy
    have nw0 := words10_ok wd0 hw0
    have dm5 := dm4.kp u5
    dsimp only [gName]
    refine seq_if (fun σ' H' => ∃ z kk, isName z = true ∧ Kp S H4 H' ∧ DrawAt S H' d wd c (n + 6 * i + 6) ∧ σ' = [some (.ref d), some (.int many), some (.str letters), some (.ref f), some (.ref sm), kk, some (.str z), ne, none, none, none]) ?_ fun tail => ?_
    · rintro σ' H6 ⟨z, kk, nz, u6, da6, rfl⟩
      have hf6 := u6.keep _ _ hf4 nfS
      have as6 := as4.kp u6
      have lz : z.length ≤ 6 := isName_len nz
      refine ⟨_, rfl, by simp [sizeLine_eq], fun l1 nl1 => ?_⟩
      have e7 : Ext H6 (upd H6 l1 (.lst [.str z])) := ext_new nl1
      have h7 : (upd H6 l1 (.lst [.str z])) l1 = some (.lst [.str z]) := upd_same
      generalize upd H6 l1 (.lst [.str z]) = H7 at e7 h7
      refine ⟨_, rfl, letters, rfl, fun D hD => lc_map std_str hD (fun v => match v with | .str y => some (.str (cutS z none (some 5) ++ y)) | _ => none) (by simp [letters_size]) (fun y H8 Nx hy e8 g1 g2 => ?_) (fun H8 e8 hD8 => ?_)⟩
      · obtain ⟨c', hc, rfl⟩ := List.mem_map.mp hy
        refine ⟨rfl, _, rfl, _, rfl, z, rfl, sz (m := 6) lz, _, rfl, _, _, rfl, rfl, ?_, g1 _ _ Ext.rfl' rfl⟩
        have : (cutS z none (some 5)).length ≤ z.length := cutS_length _ _ _
        exact sz (m := 7) (by show (cutS z none (some 5)).length + 1 ≤ 7; omega)
      have row : (letters.cps.toList.map fun c => V.str ⟨#[c]⟩).filterMap (fun v => match v with | .str y => some (V.str (cutS z none (some 5) ++ y)) | _ => none) = (letters.cps.toList.map (near z)).map V.str := by
        rw [List.filterMap_map, List.map_map]
        simp [Function.comp_def, near]
      rw [row] at hD8
      refine ⟨l1, D, _, _, rfl, rfl, e8 _ _ h7, hD8, sz (m := 1000) (by simp [letters_size]), fun l2 nl2 => ?_⟩
      have e9 : Ext H8 (upd H8 l2 (.lst ([.str z] ++ (letters.cps.toList.map (near z)).map V.str))) := ext_new nl2
      have h9 : (upd H8 l2 (.lst ([.str z] ++ (letters.cps.toList.map (near z)).map V.str))) l2 = some (.lst ((z :: letters.cps.toList.map (near z)).map V.str)) := upd_same
      generalize upd H8 l2 (.lst ([.str z] ++ (letters.cps.toList.map (near z)).map V.str)) = H9 at e9 h9
      have e79 := (e7.trans e8).trans e9
      have hf9 := e79 _ _ hf6
      refine ⟨_, rfl, .inl ⟨rfl, _, .of hf9⟩, _, rfl, l2, rfl, ⟨_, .of h9⟩, fun D2 hD2 => lc_map (std_list (.of h9) (fun z => z)) hD2 (notIn zs) (by simp [letters_size]) (fun y H10 Nx hy e10 g1 g2 => ?_) (fun H10 e10 hD10 => ?_)⟩
      · obtain ⟨c', hc, rfl⟩ := List.mem_map.mp hy
        refine ⟨rfl, _, rfl, _, rfl, f, _, rfl, .inl (.of (e10 _ _ hf9)), rfl, flat_strs _, _, rfl, ifb (fun hb => ?_) fun hb => ?_⟩
        · exact ⟨_, rfl, g1 _ _ Ext.rfl' (by
            have : c' ∉ zs := by simpa [inV_str] using hb
            simp [notIn, this])⟩
        · exact g2 _ Ext.rfl' (by
            have : c' ∈ zs := by simpa [inV_str] using hb
            simp [notIn, this])
      rw [notIn_all] at hD10
      obtain ⟨c', hc, hcn⟩ := near_free z zs (by omega)
      obtain ⟨first, rs, hfil⟩ : ∃ first rs, (z :: letters.cps.toList.map (near z)).filter (fun y => decide (y ∉ zs)) = first :: rs := by
        cases q : (z :: letters.cps.toList.map (near z)).filter (fun y => decide (y ∉ zs)) with
        | nil =>
          have : near z c' ∈ (z :: letters.cps.toList.map (near z)).filter (fun y => decide (y ∉ zs)) := List.mem_filter.mpr ⟨List.mem_cons_of_mem _ (List.mem_map.mpr ⟨c', hc, rfl⟩), decide_eq_true hcn⟩
          rw [q] at this
          simp at this
        | cons a b => exact ⟨a, b, rfl⟩
      have hmem : first ∈ (z :: letters.cps.toList.map (near z)).filter (fun y => decide (y ∉ zs)) := by rw [hfil]; exact List.mem_cons_self
      obtain ⟨m1, m2⟩ := List.mem_filter.mp hmem
      have m2 : first ∉ zs := of_decide_eq_true m2
      have nfirst : isName first = true := by
        rcases List.mem_cons.mp m1 with rfl | m1
        · exact nz
        · obtain ⟨c', hc', rfl⟩ := List.mem_map.mp m1
          exact near_name nz hc'
      rw [hfil] at hD10
      have hf10 := e10 _ _ hf9
      have e610 := e79.trans e10
      refine ⟨D2, _, 0, _, rfl, rfl, .of hD10, atI_nat (j := 0) rfl, f, _, _, rfl, rfl, hf10, ?_, ?_⟩
      · have := line1001
        simp
        omega
      have uf : Kp (one f) H10 (upd H10 f (.lst (zs.map V.str ++ [.str first]))) := Kp.refl.put rfl
      have u10 : Kp (more S f) H3 (upd H10 f (.lst (zs.map V.str ++ [.str first]))) := (u.trans ((u6.mono fun a h => .inl h).trans (.ext e610))).trans (uf.mono fun a h => .inr h)
      refine ⟨u10, ((da6.ext e610).kp uf fd fw fc).more (by omega), ⟨by rw [upd_ne fs]; exact e610 _ _ as6.1, nsS⟩, zs ++ [first], by rw [upd_same, strs_snoc], nd_snoc nd m2, fun y hy => ?_, by simp [hl], _, _, _, rfl⟩
      rcases List.mem_append.mp hy with hy | hy
      · exact nm y hy
      · rw [List.mem_singleton.mp hy]; exact nfirst
    · refine ⟨_, rfl, S, d, wd, c, _, 2, rfl, dm5, da5, by show n + 6 * i + 1 ≤ 1099511627776; omega, by decide, by decide, fun k H6 k0 k1 u6 da6 => ⟨rfl, _, rfl, ifb (fun hb => ?_) fun hb => ?_⟩⟩
      · have dm6 := dm5.kp u6
        refine ⟨⟨_, rfl⟩, _, rfl, S, d, wd, c, _, 3, rfl, dm6, da6, by show n + 6 * i + 2 ≤ 1099511627776; omega, by decide, by decide, fun k H7 k0 k1 u7 da7 => ?_⟩
        have dm7 := dm6.kp u7
        obtain ⟨j, rfl⟩ := Int.eq_ofNat_of_zero_le k0
        refine ⟨_, _, rfl, rfl, (1 + j : Int), rfl, by omega, by omega, fun D hD => lc_std (S := S) std_range (fun t H' => Kp S H7 H' ∧ DrawAt S H' d wd c (n + 6 * i + 3 + t) ∧ ∃ cs, H' D = some (.lst ((cs.map fun c => (⟨#[c]⟩ : Str)).map V.str)) ∧ cs.length = t ∧ ∀ c ∈ cs, c ∈ letters.cps.toList) ⟨?_, ?_, [], upd_same, rfl, fun c h => by simp at h⟩ (fun t H h => h.1) (fun t y H8 hy ⟨u8, da8, cs, hD8, lc, hc⟩ => ?_) (fun H8 ⟨u8, da8, cs, hD8, lc, hc⟩ => ?_)⟩
        · exact .new hD
        · exact da7.ext (ext_new hD)
        · have ht : t < 1 + j := by
            have := (List.getElem?_eq_some_iff.mp hy).1
            simp only [List.length_map, List.length_range] at this
            omega
          have nD : ¬ S D := fun z => dm7 D z hD
          refine ⟨rfl, _, rfl, _, rfl, S, d, wd, c, _, _, rfl, dm7.kp u8, da8, by show n + 6 * i + 3 + t ≤ 1099511627776; omega, .inr ⟨letters, rfl, by decide +kernel, by decide +kernel, fun g hg H9 u9 da9 => ?_⟩⟩
          have hD9 := u9.keep _ _ hD8 nD
          obtain ⟨qd, qw, qc⟩ := da7.ne hD
          have uD : Kp (one D) H9 (upd H9 D (.lst ((cs.map fun c => (⟨#[c]⟩ : Str)).map V.str ++ [.str ⟨#[g]⟩]))) := Kp.refl.put rfl
          refine ⟨_, hD9, ?_, ⟨fun a o h ns => ?_, fun a h => ?_⟩, (da9.kp uD qd qw qc).more (by omega), cs ++ [g], by rw [upd_same]; simp, by simp [lc], fun x hx => ?_⟩
          · have := line1001
            simp
            omega
          · have na : a ≠ D := ne_of_none h hD
            rw [upd_ne na]
            exact (u8.trans u9).keep a o h ns
          · exact uD.dom a ((u8.trans u9).dom a h)
          · rcases List.mem_append.mp hx with hx | hx
            · exact hc x hx
            · rw [List.mem_singleton.mp hx]; exact hg
        · have lt : cs.length = 1 + j := by
            rw [lc]
            simp
            omega
          refine ⟨_, D, cs.map fun c => (⟨#[c]⟩ : Str), rfl, rfl, .inl (.of hD8), ?_, ?_⟩
          · have : ∀ l : List Nat, ((l.map fun c => (⟨#[c]⟩ : Str)).map (·.length)).sum = l.length := by
              intro l
              induction l with
              | nil => rfl
              | cons a l ih => simp only [List.map_cons, List.sum_cons, ih, List.length_cons]; show 1 + l.length = _; omega
            rw [this]
            show cs.length + (cs.map _).length * 0 ≤ _
            omega
          · refine tail _ _ ⟨_, _, ?_, (u5.trans u6).trans (u7.trans u8), da8.more (by simp; omega), rfl⟩
            rw [isName_iff, join_one]
            exact ⟨by omega, by omega, hc⟩
      · exact tail _ _ ⟨_, _, nw0, u5.trans u6, da6.more (by omega), rfl⟩
  · subst hσ
    have lm : zs.length = many := by rw [hl]; simp
    have kp : Kp S H H4 := ⟨fun a o h ns => u.keep a o (e13 a o h) fun z => z.elim ns fun z => (by rw [z, nf] at h; cases h), fun a h => u.dom a (ext_dom e13 h)⟩
    refine ⟨_, rfl, hQ f zs H4 kp (da4.more (by simp)) ⟨hf4, nfS⟩ nf nd nm lm⟩
end
end Ws

set_option Elab.async false
set_option linter.all false
set_option maxRecDepth 100000
set_option maxHeartbeats 4000000
namespace Ws
open PySem PySem.Spec PyProof.Rows L2
structure ModelD where
  fine : Int
  houses : Hs
  some_ : List Str
  odds : Int
  entries : List Str
/-- the net's part -/
def ModelD.net (m : ModelD) : NetD := ⟨m.fine, m.houses, m.entries⟩
/-- a word that is not this law's own -/
abbrev Tame (z : Str) : Prop := isName z = true ∧ z ≠ "qqq"
structure ModelD.Fit (m : ModelD) : Prop where
  net : m.net.Fit
  hs : ∀ p ∈ m.houses, p.2.Fit ∧ ∀ r ∈ p.2.rules, r.ok
  so : ∀ z ∈ m.some_, Tame z
  sl : m.some_.length ≤ 4
  o1 : 1 ≤ m.odds
  o2 : m.odds ≤ 1000
section
variable {S : Addr → Prop} {K : PySem.W.Frag} {H H1 : Hp} {a o q m : Addr} {kvs : List (Key × V)} {hs : Hs}
abbrev TupsAt (S : Addr → Prop) (H : Hp) : List Addr → List RuleD → Prop := Paired fun a r => At S H a (.tup r.vs)
def hdK (pr pc pl : Addr) (f : Bool) : List (Key × V) := [(Sum.inr "rules", .ref pr), (Sum.inr "calls", .ref pc), (Sum.inr "lost", .ref pl), (Sum.inr "fails", .bl f)]
/-- a model's house -/
def HdAt (S : Addr → Prop) (H : Hp) (a : Addr) (h : HouseD) : Prop := ∃ pr pc pl os, At S H a (.dK (hdK pr pc pl h.fails)) ∧ At S H pr (.lst (os.map V.ref)) ∧ TupsAt S H os h.rules ∧ At S H pc (.lst (h.calls.map V.str)) ∧ At S H pl (.lst (h.lost.map V.str))
theorem HdAt.kp {h : HouseD} (t : HdAt S H a h) (e : Kp S H H1) : HdAt S H1 a h := by
  obtain ⟨pr, pc, pl, os, h1, h2, h3, h4, h5⟩ := t
  exact ⟨pr, pc, pl, os, h1.kp e, h2.kp e, Paired.mapP h3 fun _ _ z => z.kp e, h4.kp e, h5.kp e⟩
theorem HdAt.ext {h : HouseD} (t : HdAt S H a h) (e : Ext H H1) : HdAt S H1 a h := t.kp (.ext e)
theorem HdAt.grow {h : HouseD} (t : HdAt S H a h) (hq : H q = none) : HdAt (more S q) H a h := by
  obtain ⟨pr, pc, pl, os, h1, h2, h3, h4, h5⟩ := t
  exact ⟨pr, pc, pl, os, h1.grow hq, h2.grow hq, Paired.mapP h3 fun _ _ z => z.grow hq, h4.grow hq, h5.grow hq⟩
def HdsAt (S : Addr → Prop) (H : Hp) : List (Key × V) → Hs → Prop := Paired fun (kv : Key × V) (nh : Str × HouseD) => kv.1 = Sum.inr nh.1 ∧ ∃ a, kv.2 = .ref a ∧ HdAt S H a nh.2
theorem HdsAt.kp (h : HdsAt S H kvs hs) (e : Kp S H H1) : HdsAt S H1 kvs hs := Paired.mapP h fun kv nh ⟨h1, a, h2, h3⟩ => ⟨h1, a, h2, h3.kp e⟩
theorem HdsAt.ext (h : HdsAt S H kvs hs) (e : Ext H H1) : HdsAt S H1 kvs hs := h.kp (.ext e)
theorem HdsAt.grow (h : HdsAt S H kvs hs) (hq : H q = none) : HdsAt (more S q) H kvs hs := Paired.mapP h fun kv nh ⟨h1, a, h2, h3⟩ => ⟨h1, a, h2, h3.grow hq⟩
theorem HdsAt.keys : ∀ {kvs : List (Key × V)} {hs : Hs}, HdsAt S H kvs hs → kvs.map (·.1) = (hs.map (·.1)).map Sum.inr
  | _, _, .nil => rfl
  | _, _, .cons h t => by
    simp only [List.map_cons]
    rw [h.1, HdsAt.keys t]
theorem HdsAt.at_ : ∀ {kvs : List (Key × V)} {hs : Hs}, HdsAt S H kvs hs → ∀ n ∈ hs.map (·.1), ∃ a, valV kvs (Sum.inr n) = some (.ref a) ∧ HdAt S H a (getH hs n)
  | _, _, .nil, n, h => by simp at h
  | kv :: kvs, nh :: hs, .cons ⟨h1, a, h2, h3⟩ t, n, hn => by
    by_cases e : nh.1 = n
    · refine ⟨a, ?_, ?_⟩
      · rw [valV_pos (by rw [h1, e]), h2]
      · unfold getH
        rw [List.find?_cons_of_pos (by simp [e])]
        exact h3
    · simp only [List.map_cons, List.mem_cons] at hn
      obtain ⟨b, i1, i2⟩ := HdsAt.at_ t n (hn.resolve_left fun z => e z.symm)
      refine ⟨b, ?_, ?_⟩
      · rw [valV_neg (by rw [h1]; intro z; injection z with z; exact e z)]
        exact i1
      · unfold getH
        rw [List.find?_cons_of_neg (by simp [e])]
        exact i2
def modK (f : Int) (ph ps : Addr) (od : Int) (pe : Addr) : List (Key × V) := [(Sum.inr "fine", .int f), (Sum.inr "houses", .ref ph), (Sum.inr "some", .ref ps), (Sum.inr "odds", .int od), (Sum.inr "entries", .ref pe)]
def ModelAt (S : Addr → Prop) (H : Hp) (m : Addr) (md : ModelD) : Prop := ∃ ph ps pe kvs, At S H m (.dK (modK md.fine ph ps md.odds pe)) ∧ At S H ph (.dK kvs) ∧ HdsAt S H kvs md.houses ∧ At S H ps (.lst (md.some_.map V.str)) ∧ At S H pe (.lst (md.entries.map V.str))
theorem ModelAt.kp {md : ModelD} (t : ModelAt S H m md) (e : Kp S H H1) : ModelAt S H1 m md := by
  obtain ⟨ph, ps, pe, kvs, h1, h2, h3, h4, h5⟩ := t
  exact ⟨ph, ps, pe, kvs, h1.kp e, h2.kp e, h3.kp e, h4.kp e, h5.kp e⟩
theorem ModelAt.ext {md : ModelD} (t : ModelAt S H m md) (e : Ext H H1) : ModelAt S H1 m md := t.kp (.ext e)
theorem ModelAt.grow {md : ModelD} (t : ModelAt S H m md) (hq : H q = none) : ModelAt (more S q) H m md := by
  obtain ⟨ph, ps, pe, kvs, h1, h2, h3, h4, h5⟩ := t
  exact ⟨ph, ps, pe, kvs, h1.grow hq, h2.grow hq, h3.grow hq, h4.grow hq, h5.grow hq⟩
end
section
variable {P : Program} {w : World} {K : PySem.W.Frag} {mg : Str → Option Value} {base : Heap}
/-- what of a model (perhaps not whole yet) a rule is drawn from -/
structure Src (S : Addr → Prop) (H : Hp) (m : Addr) (kvs : List (Key × V)) (fine odds : Int) (ps : Addr) (so : List Str) : Prop where
  at_ : At S H m (.dK kvs)
  kf : valV kvs (Sum.inr "fine") = some (.int fine)
  ks : valV kvs (Sum.inr "some") = some (.ref ps)
  ko : valV kvs (Sum.inr "odds") = some (.int odds)
  as_ : At S H ps (.lst (so.map V.str))
  nm : ∀ z ∈ so, Tame z
  sl : so.length ≤ 4
  f1 : 1 ≤ fine
  f2 : fine ≤ 1000
  o1 : 1 ≤ odds
  o2 : odds ≤ 1000
theorem Src.kp {S : Addr → Prop} {H H1 : Hp} {m ps : Addr} {kvs : List (Key × V)} {fine odds : Int} {so : List Str} (h : Src S H m kvs fine odds ps so) (e : Kp S H H1) : Src S H1 m kvs fine odds ps so :=
  ⟨h.at_.kp e, h.kf, h.ks, h.ko, h.as_.kp e, h.nm, h.sl, h.f1, h.f2, h.o1, h.o2⟩
def sp_l_rule : Sp := fun vs H Q _ => ∃ (S : Addr → Prop) (d wd c m sa ps : Addr) (n : Nat) (kvs : List (Key × V)) (fine odds : Int) (so : List Str) (sh : List Int), vs = [.ref d, .ref m, .ref sa] ∧ Dm S H ∧ DrawAt S H d wd c n ∧ n + 10 ≤ big ∧
  Src S H m kvs fine odds ps so ∧ At S H sa (.lst (sh.map V.int)) ∧ sh.length ≤ 10 ∧ (∀ s ∈ sh, 0 ≤ s ∧ s ≤ fine) ∧
  ∀ p r H', Kp S H H' → DrawAt S H' d wd c (n + 5) → At S H' p (.tup (RuleD.vs r)) → r.ok → r.share ≤ fine → r.mark ≠ "qqq" → Q (.ref p) H'
theorem sc_l_rule : FnScope ["_law_draw", "_law_model_here", "_law_shares", "_law_share", "_law_tag"] ["_law_draw", "_law_model_here", "_law_shares"] (defScope s_l_rule) := ⟨rfl, rfl, rfl, by decide +kernel, rfl, by decide +kernel, by decide +kernel⟩
theorem ok_l_rule (x : Fx K mg w) : FnR P w K mg base CX0 4 (a_l_rule K) sp_l_rule := by
  refine okR x.F_l_rule sc_l_rule (fun _ _ _ _ _ _ us hl => match us, hl with | [_, _, _], _ => rfl) (fun vs H Q E h => by obtain ⟨S, d, wd, c, m, sa, ps, n, kvs, fine, odds, so, sh, rfl, dm, da, hn, src, hsa, hsl, hsh, hQ⟩ := h; rfl) (fun cdv A outer s H vs Q E hr h => ?_)
  obtain ⟨S, d, wd, c, m, sa, ps, n, kvs, fine, odds, so, sh, rfl, dm, da, hn, src, hsa, hsl, hsh, hQ⟩ := h
  refine ⟨_, (pss_cons (ps_set (i := 3) sc_l_rule.nd rfl (Or.inl rfl) (pe_callR (ok_l_pick x) (hr.mono (by decide)) rfl x.m_l_pick (keep_of x.F_l_pick) pass0 (pa_cons (pv 0) (pa_cons (pe_op op_cat (pe_op op_cat (pv 2) (pv 2)) (pe_lst (pa_cons pe_int (pa_cons (pe_dget (hu_of hr) (pv 1) pe_str (fun _ _ => rfl)) (pa_cons (pe_callR (ok_l_take x) (hr.mono (by decide)) rfl x.m_l_take (keep_of x.F_l_take) pass0 (pa_cons (pv 0) (pa_cons (pe_op op_add (pe_dget (hu_of hr) (pv 1) pe_str (fun _ _ => rfl)) pe_int) pa_nil))) pa_nil))))) pa_nil))))
 (pss_cons (ps_set (i := 4) sc_l_rule.nd rfl (Or.inl rfl) (pe_callR (ok_l_pick x) (hr.mono (by decide)) rfl x.m_l_pick (keep_of x.F_l_pick) pass0 (pa_cons (pv 0) (pa_cons (pe_op op_cat (pe_lst (pa_cons pe_str (pa_cons pe_str (pa_cons pe_str pa_nil)))) (pe_dget (hu_of hr) (pv 1) pe_str (fun _ _ => rfl))) pa_nil))))
 (pss_one (ps_ret (pe_tup (pa_cons (pv 3) (pa_cons (pv 4) (pa_cons (pe_cmpR op_eq (pe_callR (ok_l_take x) (hr.mono (by decide)) rfl x.m_l_take (keep_of x.F_l_take) pass0 (pa_cons (pv 0) (pa_cons (pe_dget (hu_of hr) (pv 1) pe_str (fun _ _ => rfl)) pa_nil))) pe_int (nomark _)) (pa_cons (pe_cmpR op_eq (pe_callR (ok_l_take x) (hr.mono (by decide)) rfl x.m_l_take (keep_of x.F_l_take) pass0 (pa_cons (pv 0) (pa_cons (pe_dget (hu_of hr) (pv 1) pe_str (fun _ _ => rfl)) pa_nil))) pe_int (nomark _)) pa_nil))))))))), ?_⟩
  have hb : n + 10 ≤ 1099511627776 := hn
  have f1 := src.f1
  have f2 := src.f2
  have o1 := src.o1
  have o2 := src.o2
  refine ⟨_, rfl, _, rfl, _, rfl, sa, sa, _, _, rfl, rfl, hsa.1, hsa.1, sz (m := 1000) (by simp; omega), fun l1 nl1 => ?_⟩
  have e1 : Ext H (upd H l1 (.lst (sh.map V.int ++ sh.map V.int))) := ext_new nl1
  have h1 : (upd H l1 (.lst (sh.map V.int ++ sh.map V.int))) l1 = some (.lst ((sh ++ sh).map V.int)) := by rw [upd_same, List.map_append]
  have a1 : At S (upd H l1 (.lst (sh.map V.int ++ sh.map V.int))) l1 (.lst ((sh ++ sh).map V.int)) := ⟨h1, fun z => dm l1 z nl1⟩
  generalize upd H l1 (.lst (sh.map V.int ++ sh.map V.int)) = H1 at e1 h1 a1
  have s1 := src.kp (.ext e1)
  have dm1 := dm.ext e1
  refine ⟨_, rfl, m, _, rfl, dget_str s1.at_.1 src.kf, _, rfl, _, rfl, m, _, rfl, dget_str s1.at_.1 src.kf, _, _, rfl, rfl, S, d, wd, c, n, fine + 1, rfl, dm1, da.ext e1, by show n ≤ 1099511627776; omega, by omega, by omega, fun k H2 k0 k1 u2 da2 => ?_⟩
  have dm2 := dm1.kp u2
  refine ⟨by simp [sizeLine_eq], fun l2 nl2 => ?_⟩
  have a2 := a1.kp u2
  have e3 : Ext H2 (upd H2 l2 (.lst [.int 0, .int fine, .int k])) := ext_new nl2
  have h3 : (upd H2 l2 (.lst [.int 0, .int fine, .int k])) l2 = some (.lst ([0, fine, k].map V.int)) := upd_same
  generalize upd H2 l2 (.lst [.int 0, .int fine, .int k]) = H3 at e3 h3
  have a3 := a2.ext e3
  refine ⟨l1, l2, _, _, rfl, rfl, a3.1, h3, sz (m := 1000) (by simp; omega), fun l3 nl3 => ?_⟩
  have e4 : Ext H3 (upd H3 l3 (.lst ((sh ++ sh).map V.int ++ [0, fine, k].map V.int))) := ext_new nl3
  have a4 : At S (upd H3 l3 (.lst ((sh ++ sh).map V.int ++ [0, fine, k].map V.int))) l3 (.lst (((sh ++ sh) ++ [0, fine, k]).map V.int)) := ⟨by rw [upd_same]; simp, fun z => dm2.ext e3 l3 z nl3⟩
  generalize upd H3 l3 (.lst ((sh ++ sh).map V.int ++ [0, fine, k].map V.int)) = H4 at e4 a4
  have e24 := e3.trans e4
  have dm4 := dm2.ext e24
  refine ⟨S, d, wd, c, n + 1, _, rfl, dm4, da2.ext e24, by show n + 1 ≤ 1099511627776; omega, .inl ⟨l3, _, rfl, a4, by simp, by simp; omega, fun y hy H5 u5 da5 => ?_⟩⟩
  obtain ⟨s, hs, rfl⟩ := List.mem_map.mp hy
  have hs2 : 0 ≤ s ∧ s ≤ fine := by
    simp only [List.mem_append, List.mem_cons, List.not_mem_nil, or_false] at hs
    rcases hs with (hs | hs) | rfl | rfl | rfl
    · exact hsh s hs
    · exact hsh s hs
    · omega
    · omega
    · omega
  have kp5 : Kp S H H5 := ((Kp.ext e1).trans (u2.trans (.ext e24))).trans u5
  have dm5 := dm.kp kp5
  have s5 := src.kp kp5
  refine ⟨_, rfl, by simp [sizeLine_eq], fun l5 nl5 => ?_⟩
  have e6 : Ext H5 (upd H5 l5 (.lst [.str "handed", .str "handed", .str "handed"])) := ext_new nl5
  have h6 : (upd H5 l5 (.lst [.str "handed", .str "handed", .str "handed"])) l5 = some (.lst ((["handed", "handed", "handed"] : List Str).map V.str)) := upd_same
  generalize upd H5 l5 (.lst [.str "handed", .str "handed", .str "handed"]) = H6 at e6 h6
  have s6 := s5.kp (.ext e6)
  have sl := src.sl
  refine ⟨_, rfl, m, _, rfl, dget_str s6.at_.1 src.ks, l5, ps, _, _, rfl, rfl, h6, s6.as_.1, sz (m := 1000) (by simp; omega), fun l7 nl7 => ?_⟩
  have e7 : Ext H6 (upd H6 l7 (.lst ((["handed", "handed", "handed"] : List Str).map V.str ++ so.map V.str))) := ext_new nl7
  have a7 : At S (upd H6 l7 (.lst ((["handed", "handed", "handed"] : List Str).map V.str ++ so.map V.str))) l7 (.lst (((["handed", "handed", "handed"] : List Str) ++ so).map V.str)) := ⟨by rw [upd_same]; simp, fun z => dm5.ext e6 l7 z nl7⟩
  generalize upd H6 l7 (.lst ((["handed", "handed", "handed"] : List Str).map V.str ++ so.map V.str)) = H7 at e7 a7
  have e57 := e6.trans e7
  refine ⟨S, d, wd, c, n + 2, _, rfl, dm5.ext e57, da5.ext e57, by show n + 2 ≤ 1099511627776; omega, .inl ⟨l7, _, rfl, a7, by simp, by simp; omega, fun y hy H8 u8 da8 => ?_⟩⟩
  obtain ⟨t, ht, rfl⟩ := List.mem_map.mp hy
  have nt : Tame t := by
    rcases List.mem_append.mp ht with ht | ht
    · have : t = "handed" := by simpa using ht
      rw [this]
      exact ⟨by decide +kernel, by decide +kernel⟩
    · exact src.nm t ht
  have u58 := (Kp.ext (S := S) e57).trans u8
  have dm8 := dm5.kp u58
  have s8 := s5.kp u58
  refine ⟨_, rfl, _, rfl, _, rfl, _, rfl, m, _, rfl, dget_str s8.at_.1 src.ko, S, d, wd, c, n + 3, odds, rfl, dm8, da8, by show n + 3 ≤ 1099511627776; omega, o1, by omega, fun k1 H9 _ _ u9 da9 => ⟨rfl, ?_⟩⟩
  have s9 := s8.kp u9
  refine ⟨_, rfl, _, rfl, m, _, rfl, dget_str s9.at_.1 src.ko, S, d, wd, c, n + 4, odds, rfl, dm8.kp u9, da9, by show n + 4 ≤ 1099511627776; omega, o1, by omega, fun k2 H10 _ _ u10 da10 => ⟨rfl, ?_⟩⟩
  have kp10 : Kp S H H10 := kp5.trans (u58.trans (u9.trans u10))
  refine ⟨by simp [sizeLine_eq], fun p np => ?_⟩
  exact hQ p ⟨s, t, decide (V.int k1 = V.int 0), decide (V.int k2 = V.int 0)⟩ _ (kp10.add np) (da10.ext (ext_new np)) ⟨upd_same, fun z => dm.kp kp10 p z np⟩ ⟨hs2.1, by show s ≤ 1000; omega, nt.1⟩ hs2.2 nt.2
end
end Ws

set_option Elab.async false
set_option linter.all false
set_option maxRecDepth 100000
set_option maxHeartbeats 4000000
namespace Ws
open PySem PySem.Spec PyProof.Rows L2
theorem paired_at {α β : Type} {R : α → β → Prop} : ∀ {xs : List α} {ys : List β} {i : Nat} {x : α}, Paired R xs ys → xs[i]? = some x → ∃ y, ys[i]? = some y ∧ R x y
  | _, _, _, _, .nil, h => by simp at h
  | _, _, 0, _, .cons r t, h => by
    simp at h
    subst h
    exact ⟨_, by simp, r⟩
  | _, _, i + 1, _, .cons r t, h => by
    obtain ⟨y, h1, h2⟩ := paired_at (i := i) t (by simpa using h)
    exact ⟨y, by simpa using h1, h2⟩
theorem take_one {α : Type} {xs : List α} {i : Nat} {x : α} (h : xs[i]? = some x) : xs.take (i + 1) = xs.take i ++ [x] := by rw [List.take_succ, h]; rfl
section
variable {P : Program} {w : World} {K : PySem.W.Frag} {mg : Str → Option Value} {base : Heap}
theorem okk_Rule_init (x : Fx K mg w) : FnRK P w K mg base CX0 2 (a_Rule_init K) 2 ["mark", "always", "late"] (sp_Rule_init K) := by
  obtain ⟨fd, F⟩ := x.F_Rule_init
  exact rawK (okf_Rule_init F x) (bindsKD F (by simp) fun T kV doc pm an cdv ct us its ws h1 h2 h3 => match us, its, ws, h1, h2, h3 with | [_, _], [_, _, _], [_, _, _], _, _, _ => ⟨_, rfl, rfl⟩)
def sp_l_rules_of (K : PySem.W.Frag) : Sp := fun vs H Q _ => ∃ (S T : Addr → Prop) (a : Addr) (ps : List Addr) (rs : List RuleD), vs = [.ref a] ∧ Dm S H ∧ H a = some (.lst (ps.map V.ref)) ∧ TupsAt T H ps rs ∧ (∀ r ∈ rs, r.ok) ∧ rs.length ≤ 2 ∧
  ∀ l os H', Ext H H' → H l = none → H' l = some (.lst (os.map V.ref)) → RulesAt S K H' os rs → Q (.ref l) H'
theorem sc_l_rules_of : FnScope ["_law_rules", "_law_share", "_law_tag", "_law_sure", "_law_after"] ["_law_rules"] (defScope s_l_rules_of) := ⟨rfl, rfl, rfl, by decide +kernel, rfl, by decide +kernel, by decide +kernel⟩
theorem ok_l_rules_of (x : Fx K mg w) : FnR P w K mg base CX0 4 (a_l_rules_of K) (sp_l_rules_of K) := by
  refine okR x.F_l_rules_of sc_l_rules_of (fun _ _ _ _ _ _ us hl => match us, hl with | [_], _ => rfl) (fun vs H Q E h => by obtain ⟨S, T, a, ps, rs, rfl, dm, ha, ht, ok, hl, hQ⟩ := h; rfl) (fun cdv A outer s H vs Q E hr h => ?_)
  obtain ⟨S, T, a, ps, rs, rfl, dm, ha, ht, ok, hl, hQ⟩ := h
  refine ⟨_, (pss_one (ps_ret (pe_lc (own := [("_law_share", 1), ("_law_tag", 2), ("_law_sure", 3), ("_law_after", 4)]) (tt := tYes) rfl sc_l_rules_of.nd (pi_listK (K := K) rfl (pv 0)) (blkOk_by (N := ["_law_rules", "_law_share", "_law_tag", "_law_sure", "_law_after"]) (sc := defScope s_l_rules_of) (by decide +kernel)) (fun _ _ _ _ _ => (pg_tupK (K := K) (n := 4) rfl rfl (pgs_cons (pg_name (i := 1) sc_l_rules_of.nd rfl (Or.inl rfl)) (pgs_cons (pg_name (i := 2) sc_l_rules_of.nd rfl (Or.inl rfl)) (pgs_cons (pg_name (i := 3) sc_l_rules_of.nd rfl (Or.inl rfl)) (pgs_cons (pg_name (i := 4) sc_l_rules_of.nd rfl (Or.inl rfl)) pgs_nil)))))) (fun _ _ _ _ _ => pts_nil) (fun _ _ _ _ _ => (pe_makeKw x.mk_Rule (okk_Rule_init x) (hr.mono (by decide)) rfl x.m_Rule pass0 (pa_cons (pv 1) pa_nil) (pk_cons (pv 2) (pk_cons (pv 3) (pk_cons (pv 4) pk_nil)))))))), ?_⟩
  have lp := ht.length
  refine ⟨_, rfl, a, rfl, ⟨_, .of ha⟩, fun D hD => lc_std (S := no) (H0 := H) (std_list (.of ha) (fun z => z)) (fun i H' => Ext H H' ∧ ∃ os, H' D = some (.lst (os.map V.ref)) ∧ RulesAt S K H' os (rs.take i)) ⟨ext_new hD, [], upd_same, .nil⟩ (fun i H' h => .ext h.1) (fun i y H1 hy ⟨e1, os, hD1, ro⟩ => ?_) (fun H1 ⟨e1, os, hD1, ro⟩ => ?_)⟩
  · obtain ⟨p, hp, rfl⟩ : ∃ p, ps[i]? = some p ∧ y = .ref p := by
      rw [List.getElem?_map] at hy
      cases q : ps[i]? with
      | none => rw [q] at hy; cases hy
      | some p => rw [q] at hy; exact ⟨p, rfl, (Option.some.inj hy).symm⟩
    obtain ⟨r, hr1, hp2⟩ := paired_at ht hp
    refine ⟨p, _, rfl, .of (e1 _ _ hp2.1), rfl, _, _, rfl, _, _, rfl, _, _, rfl, _, _, rfl, rfl, rfl, ?_⟩
    refine ⟨_, rfl, _, rfl, _, rfl, _, rfl, rfl, rfl, make_rule (K := K) (dm.ext e1) (ok r (List.mem_of_getElem? hr1)) fun q H2 e2 tq => ?_⟩
    have lo := ro.length
    have lt := List.length_take_le i rs
    have e12 := e1.trans e2
    refine ⟨_, e2 _ _ hD1, ?_, fun c u h => ?_, os ++ [q], by rw [upd_same, List.map_append]; rfl, ?_⟩
    · have := line1001
      simp only [List.length_map]
      have : (rs.take i).length ≤ rs.length := List.length_take_le' _ _
      omega
    · rw [upd_ne (ne_of_none h hD)]
      exact e12 _ _ h
    · rw [take_one hr1]
      have uD : ∀ {b : Addr} {u : HO}, At S H2 b u → (∀ xs, u ≠ .lst xs) → At S (upd H2 D (.lst (os.map V.ref ++ [.ref q]))) b u := fun {b u} h n => ⟨by rw [upd_ne (ne_of h.1 (e2 _ _ hD1) (n _))]; exact h.1, h.2⟩
      have rD : ∀ {b : Addr} {r : RuleD}, RuleAt S K H2 b r → RuleAt S K (upd H2 D (.lst (os.map V.ref ++ [.ref q]))) b r := fun {b r} h => by
        obtain ⟨g, dx, pp, h1, h2⟩ := h
        exact ⟨g, dx, pp, uD h1 (by simp), uD h2 (by simp)⟩
      exact paired_app (Paired.mapP ro fun _ _ z => rD (z.ext e2)) (.cons (rD tq) .nil)
  · have e : rs.take (ps.map V.ref).length = rs := List.take_of_length_le (by rw [List.length_map]; omega)
    rw [e] at ro
    exact hQ D os H1 e1 hD hD1 ro
/-- what a model's net is -/
def NormN (md n : NetD) : Prop := ∃ hs : Hs, Paired (fun p q => q.1 = p.1 ∧ Made p.2 q.2) md.houses hs ∧ NetMade { md with houses := hs } n
theorem norm_rules {a b : Hs} (h : Paired (fun (p q : Str × HouseD) => q.1 = p.1 ∧ Made p.2 q.2) a b) : b.map (·.1) = a.map (·.1) := by
  induction h with
  | nil => rfl
  | cons r t ih => rw [List.map_cons, List.map_cons, r.1, ih]
theorem paired_memR {α β : Type} {R : α → β → Prop} : ∀ {xs : List α} {ys : List β} {b : β}, Paired R xs ys → b ∈ ys → ∃ a, a ∈ xs ∧ R a b
  | _, _, _, .nil, h => by simp at h
  | _, _, _, .cons r t, h => by
    rcases List.mem_cons.mp h with rfl | h
    · exact ⟨_, List.mem_cons_self, r⟩
    · obtain ⟨b, h1, h2⟩ := paired_memR t h
      exact ⟨b, List.mem_cons_of_mem _ h1, h2⟩
theorem norm_fit {md : NetD} {hs : Hs} (f : md.Fit) (h : Paired (fun (p q : Str × HouseD) => q.1 = p.1 ∧ Made p.2 q.2) md.houses hs) : NetD.Fit { md with houses := hs } := by
  have k := norm_rules h
  have l := Paired.length h
  refine ⟨f.f1, f.f2, ⟨by show 1 ≤ hs.length; rw [← l]; exact f.hs.l1, by show hs.length ≤ 8; rw [← l]; exact f.hs.l2, fun q hq => ?_, by show (hs.map (·.1)).Nodup; rw [k]; exact f.hs.nd, fun q hq r hr => ?_, fun q hq z hz => ?_⟩, f.e0, f.nd, fun z hz => by show z ∈ hs.map (·.1); rw [k]; exact f.sub z hz, f.ln⟩
  · obtain ⟨p, hp, e, m⟩ := paired_memR h hq
    rw [e]; exact f.hs.nm p hp
  · obtain ⟨p, hp, e, m⟩ := paired_memR h hq
    rw [m.rules] at hr
    exact f.hs.sh p hp r hr
  · obtain ⟨p, hp, e, m⟩ := paired_memR h hq
    show z ∈ hs.map (·.1)
    rw [k]
    exact f.hs.cl p hp z (m.calls.mem_iff.mp hz)
theorem mod_get {f od : Int} {ph ps pe : Addr} : valV (modK f ph ps od pe) (Sum.inr "fine") = some (.int f) ∧ valV (modK f ph ps od pe) (Sum.inr "houses") = some (.ref ph) ∧ valV (modK f ph ps od pe) (Sum.inr "some") = some (.ref ps) ∧
    valV (modK f ph ps od pe) (Sum.inr "odds") = some (.int od) ∧ valV (modK f ph ps od pe) (Sum.inr "entries") = some (.ref pe) := ⟨rfl, rfl, rfl, rfl, rfl⟩
theorem hd_get {pr pc pl : Addr} {f : Bool} : valV (hdK pr pc pl f) (Sum.inr "rules") = some (.ref pr) ∧ valV (hdK pr pc pl f) (Sum.inr "calls") = some (.ref pc) ∧ valV (hdK pr pc pl f) (Sum.inr "lost") = some (.ref pl) ∧ valV (hdK pr pc pl f) (Sum.inr "fails") = some (.bl f) := ⟨rfl, rfl, rfl, rfl⟩
theorem dget_rd {H : Hp} {a : Addr} {kvs : List (Key × V)} {n : Str} {v : V} (e : Rd H a (.dK kvs)) (hv : valV kvs (Sum.inr n) = some v) : DGet H a (.str n) (some v) := .inl ⟨kvs, Sum.inr n, e, rfl, hv.symm⟩
end
end Ws

set_option Elab.async false
set_option linter.all false
set_option maxRecDepth 100000
set_option maxHeartbeats 4000000
namespace Ws
open PySem PySem.Spec PyProof.Rows L2
section
variable {S : Addr → Prop} {K : PySem.W.Frag} {H H1 : Hp} {a o q m ph : Addr} {kvs : List (Key × V)} {hs : Hs} {od : Obj} {v : HO}
theorem hds_refs (h : HdsAt S H kvs hs) : ∀ kv ∈ kvs, ∃ a, kv.2 = .ref a := fun kv hk => by
  obtain ⟨nh, _, _, a, h2, _⟩ := paired_mem h hk
  exact ⟨a, h2⟩
theorem hds_ne_hd (h : HdsAt S H kvs hs) {pr pc pl : Addr} {f : Bool} : kvs ≠ hdK pr pc pl f := fun e => by
  obtain ⟨a, z⟩ := hds_refs h (Sum.inr "fails", .bl f) (by rw [e]; simp [hdK])
  cases z
theorem hds_ne_mod (h : HdsAt S H kvs hs) {f od : Int} {ph ps pe : Addr} : kvs ≠ modK f ph ps od pe := fun e => by
  obtain ⟨a, z⟩ := hds_refs h (Sum.inr "fine", .int f) (by rw [e]; simp [modK])
  cases z
/-- a model's house while the dict of the houses is locked, or anything else there is changed -/
theorem HdAt.lk {h : HouseD} (t : HdAt S H a h) (ho : H o = some v) (e : Kp (one o) H H1) (n1 : ∀ pr pc pl f, v ≠ .dK (hdK pr pc pl f)) (n2 : ∀ xs, v ≠ .lst xs) (n3 : ∀ xs, v ≠ .tup xs) : HdAt S H1 a h := by
  obtain ⟨pr, pc, pl, os, h1, h2, h3, h4, h5⟩ := t
  exact ⟨pr, pc, pl, os, h1.off ho (fun z => n1 _ _ _ _ z.symm) e, h2.off ho (fun z => n2 _ z.symm) e, Paired.mapP h3 fun _ _ z => z.off ho (fun z => n3 _ z.symm) e, h4.off ho (fun z => n2 _ z.symm) e, h5.off ho (fun z => n2 _ z.symm) e⟩
theorem RuleAt.lk {r : RuleD} (h : RuleAt S K H a r) (ho : H o = some v) (e : Kp (one o) H H1) (n1 : ∀ C dx fs, v ≠ .ins C dx fs) (n3 : ∀ xs, v ≠ .tup xs) : RuleAt S K H1 a r := by
  obtain ⟨g, dx, p, h1, h2⟩ := h
  exact ⟨g, dx, p, h1.off ho (fun z => n1 _ _ _ z.symm) e, h2.off ho (fun z => n3 _ z.symm) e⟩
theorem HouseAt.lk {h : HouseD} (t : HouseAt S K H a h) (ho : H o = some v) (e : Kp (one o) H H1) (n1 : ∀ C dx fs, v ≠ .ins C dx fs) (n3 : ∀ xs, v ≠ .tup xs) : HouseAt S K H1 a h := by
  obtain ⟨f, s1, s2, dx, pr, pc, pl, os, h1, h2, h3, h4, h5⟩ := t
  exact ⟨f, s1, s2, dx, pr, pc, pl, os, h1.off ho (fun z => n1 _ _ _ z.symm) e, h2.off ho (fun z => n3 _ z.symm) e, Paired.mapP h3 fun _ _ z => z.lk ho e n1 n3, h4.off ho (fun z => n3 _ z.symm) e, h5.off ho (fun z => n3 _ z.symm) e⟩
theorem HousesAt.lk {h : HouseD} (t : HousesAt S K H kvs hs) (ho : H o = some v) (e : Kp (one o) H H1) (n1 : ∀ C dx fs, v ≠ .ins C dx fs) (n3 : ∀ xs, v ≠ .tup xs) : HousesAt S K H1 kvs hs := Paired.mapP t fun kv nh ⟨h1, a, h2, h3⟩ => ⟨h1, a, h2, h3.lk ho e n1 n3⟩
end
section
variable {P : Program} {w : World} {K : PySem.W.Frag} {mg : Str → Option Value} {base : Heap}
def sp_l_net (K : PySem.W.Frag) : Sp := fun vs H Q _ => ∃ (S : Addr → Prop) (m : Addr) (md : ModelD), vs = [.ref m] ∧ Dm S H ∧ ModelAt S H m md ∧ md.Fit ∧ ∀ r n H', Ext H H' → NormN md.net n → NetAt S K H' r n → Q (.ref r) H'
theorem sc_l_net : FnScope ["_law_model_here", "_law_made", "_law_name", "_law_one"] ["_law_model_here"] (defScope s_l_net) := ⟨rfl, rfl, rfl, by decide +kernel, rfl, by decide +kernel, by decide +kernel⟩
theorem ok_l_net (x : Fx K mg w) : FnR P w K mg base CX0 6 (a_l_net K) (sp_l_net K) := by
  refine okR x.F_l_net sc_l_net (fun _ _ _ _ _ _ us hl => match us, hl with | [_], _ => rfl) (fun vs H Q E h => by obtain ⟨S, m, md, rfl, dm, ma, f, hQ⟩ := h; rfl) (fun cdv A outer s H vs Q E hr h => ?_)
  obtain ⟨S, m, md, rfl, dm, ma, f, hQ⟩ := h
  refine ⟨_, (pss_cons (ps_set (i := 1) sc_l_net.nd rfl (Or.inl rfl) pe_dnewK)
 (pss_cons (ps_lock (ps_for PassesOwn.never rfl (pi_keys (pe_dget (hu_of hr) (pv 0) pe_str (fun _ _ => rfl))) (pg_name (i := 2) sc_l_net.nd rfl (Or.inl rfl))
 (pss_cons (ps_set (i := 3) sc_l_net.nd rfl (Or.inl rfl) (pe_dget (hu_of hr) (pe_dget (hu_of hr) (pv 0) pe_str (fun _ _ => rfl)) (pv 2) (fun _ _ => rfl)))
 (pss_one (ps_dput (hu_of hr) (pv 1) (pv 2) (StX.pe_makeR x.mk_House (ok_House_init x) (hr.mono (by decide)) rfl x.m_House pass0 (pa_cons (pe_callR (ok_l_rules_of x) (hr.mono (by decide)) rfl x.m_l_rules_of (keep_of x.F_l_rules_of) pass0 (pa_cons (pe_dget (hu_of hr) (pv 3) pe_str (fun _ _ => rfl)) pa_nil)) (pa_cons (pe_dget (hu_of hr) (pv 3) pe_str (fun _ _ => rfl)) (pa_cons (pe_dget (hu_of hr) (pv 3) pe_str (fun _ _ => rfl)) (pa_cons (pe_dget (hu_of hr) (pv 3) pe_str (fun _ _ => rfl)) pa_nil))))) rfl)))))
 (pss_one (ps_ret (StX.pe_makeR x.mk_Net (ok_Net_init x) (hr.mono (by decide)) rfl x.m_Net pass0 (pa_cons (pe_dget (hu_of hr) (pv 0) pe_str (fun _ _ => rfl)) (pa_cons (pv 1) (pa_cons (pe_dget (hu_of hr) (pv 0) pe_str (fun _ _ => rfl)) pa_nil)))))))), ?_⟩
  obtain ⟨ph, ps, pe, kvs, m1, m2, m3, m4, m5⟩ := id ma
  refine fun D hD => ?_
  have e1 : Ext H (upd H D (.dK [])) := ext_new hD
  have d1 : (upd H D (.dK [])) D = some (.dK []) := upd_same
  dsimp only [gName]
  generalize upd H D (.dK []) = H1 at e1 d1
  have p1 := e1 _ _ m2.1
  have k1 : Kp (one D) H H1 := .ext e1
  have n1 : ph ≠ D := ne_of_none m2.1 hD
  refine ⟨ph, _, p1, True.intro, fun od => ?_⟩
  have lkd : Kp (one ph) H1 (upd H1 ph (.frz od (.dK kvs))) := Kp.refl.put rfl
  have pf : (upd H1 ph (.frz od (.dK kvs))) ph = some (.frz od (.dK kvs)) := upd_same
  have df : (upd H1 ph (.frz od (.dK kvs))) D = some (.dK []) := by rw [upd_ne (Ne.symm n1)]; exact d1
  have mf : (upd H1 ph (.frz od (.dK kvs))) m = some (.dK (modK md.fine ph ps md.odds pe)) := by
    rw [upd_ne (ne_of m1.1 m2.1 (by intro z; injection z with z; exact hds_ne_mod m3 z.symm))]
    exact e1 _ _ m1.1
  have hdf : ∀ n ∈ md.houses.map (·.1), ∃ a, valV kvs (Sum.inr n) = some (.ref a) ∧ HdAt S (upd H1 ph (.frz od (.dK kvs))) a (getH md.houses n) := fun n hn => by
    obtain ⟨a, h1, h2⟩ := m3.at_ n hn
    exact ⟨a, h1, (h2.ext e1).lk p1 lkd (fun pr pc pl f z => by injection z with z; exact hds_ne_hd m3 z) (by simp) (by simp)⟩
  have dmf : Dm S (upd H1 ph (.frz od (.dK kvs))) := (dm.ext e1).kp lkd
  have back : ∀ H', Kp (one D) (upd H1 ph (.frz od (.dK kvs))) H' → Ext H (upd H' ph (.dK kvs)) := fun H' u b x hb => by
    by_cases z : b = ph
    · subst z
      rw [m2.1] at hb
      rw [upd_same]; exact hb
    · rw [upd_ne z]
      refine u.keep b x ?_ (ne_of_none hb hD)
      rw [upd_ne z]
      exact e1 _ _ hb
  generalize upd H1 ph (.frz od (.dK kvs)) = Hf at pf df mf hdf dmf back lkd
  have lk := Paired.length m3
  refine ⟨_, rfl, m, _, rfl, dget_str mf mod_get.2.1, ph, od, rfl, .inl ⟨kvs, pf, for_std (S := one D) (std_keys pf n1) (fun i σ H' => Kp (one D) Hf H' ∧ ∃ mk hs, H' D = some (.dK mk) ∧ HousesAt S K H' mk hs ∧ Paired (fun (p q : Str × HouseD) => q.1 = p.1 ∧ Made p.2 q.2) (md.houses.take i) hs ∧ ∃ v1 v2, σ = [some (.ref m), some (.ref D), v1, v2])
    ⟨Kp.refl, [], [], df, .nil, .nil, none, none, rfl⟩ (fun i σ H' h => h.1) (fun i y σ H2 hy ⟨u, mk, hs, hD2, hh, pr, v1, v2, hσ⟩ => ?_) (fun σ H2 ⟨u, mk, hs, hD2, hh, pr, v1, v2, hσ⟩ => ?_)⟩⟩
  · subst hσ
    obtain ⟨p, hp, rfl⟩ : ∃ p, md.houses[i]? = some p ∧ y = .str p.1 := by
      rw [List.getElem?_map] at hy
      cases q : kvs[i]? with
      | none => rw [q] at hy; cases hy
      | some kv =>
        rw [q] at hy
        obtain ⟨p, hp, e, _⟩ := paired_at m3 q
        refine ⟨p, hp, ?_⟩
        rw [← Option.some.inj hy]
        show kV kv.1 = V.str p.1
        rw [e]
        rfl
    have pm := List.mem_of_getElem? hp
    have hn : p.1 ∈ md.houses.map (·.1) := List.mem_map.mpr ⟨p, pm, rfl⟩
    have eg : getH md.houses p.1 = p.2 := getH_of f.net.hs.nd pm
    obtain ⟨a, hv, ht⟩ := hdf p.1 hn
    rw [eg] at ht
    have ht2 : HdAt S H2 a p.2 := by
      obtain ⟨qr, qc, ql, os, h1, h2, h3, h4, h5⟩ := ht
      have nD : ∀ {b : Addr} {x : HO}, At S Hf b x → x ≠ .dK [] → At S H2 b x := fun {b x} h n => h.off df n u
      exact ⟨qr, qc, ql, os, nD h1 (by simp [hdK]), nD h2 (by simp), Paired.mapP h3 fun _ _ z => nD z (by simp), nD h4 (by simp), nD h5 (by simp)⟩
    obtain ⟨qr, qc, ql, os, h1, h2, h3, h4, h5⟩ := id ht2
    have pf2 := u.keep _ _ pf n1
    have mf2 : H2 m = some (.dK (modK md.fine ph ps md.odds pe)) := u.keep _ _ mf (ne_of mf df (by simp [modK]))
    have dm2 : Dm S H2 := dmf.kp u
    refine ⟨_, rfl, m, _, rfl, dget_str mf2 mod_get.2.1, _, rfl, ph, _, rfl, dget_rd (.inr ⟨od, pf2⟩) hv, ?_⟩
    refine ⟨_, rfl, a, _, rfl, dget_str h1.1 hd_get.1, S, S, qr, os, p.2.rules, rfl, dm2, h2.1, h3, (f.hs p pm).2, (f.hs p pm).1.r2, fun l os' H3 e3 nl hl ro => ?_⟩
    refine ⟨_, rfl, a, _, rfl, dget_str (e3 _ _ h1.1) hd_get.2.1, _, rfl, a, _, rfl, dget_str (e3 _ _ h1.1) hd_get.2.2.1, _, rfl, a, _, rfl, dget_str (e3 _ _ h1.1) hd_get.2.2.2, ?_⟩
    refine make_house (K := K) (m := p.2) (dm2.ext e3) (.inl hl) ro (.inl (.inl (e3 _ _ h4.1))) (.inl (.inl (e3 _ _ h5.1))) (f.hs p pm).1 fun r H4 h' e4 mdh tr => ?_
    have e24 := e3.trans e4
    have hD4 := e24 _ _ hD2
    have lm : mk.length = i := by
      have := Paired.length hh
      have := Paired.length pr
      have := (List.getElem?_eq_some_iff.mp hp).1
      simp only [List.length_take] at *
      omega
    have i8 : i < md.houses.length := (List.getElem?_eq_some_iff.mp hp).1
    have l8 := f.net.hs.l2
    have l8 : md.houses.length ≤ 8 := l8
    have newk : valV mk (Sum.inr p.1) = none := by
      cases q : valV mk (Sum.inr p.1) with
      | none => rfl
      | some v =>
        have hin := hh.in_ p.1
        rw [q] at hin
        have hmem : p.1 ∈ hs.map (·.1) := of_decide_eq_true hin.symm
        rw [norm_rules pr] at hmem
        have nd : (md.houses.map (·.1)).Nodup := f.net.hs.nd
        have tk := take_one hp
        have : ((md.houses.take (i + 1)).map (·.1)).Nodup := by
          rw [List.map_take]
          exact nd.sublist (List.take_sublist _ _)
        rw [tk, List.map_append, List.nodup_append] at this
        exact absurd rfl (this.2.2 _ hmem _ (by simp))
    refine ⟨_, rfl, _, rfl, D, _, rfl, dput_str hD4 (by omega), ?_⟩
    rw [putK_new _ newk]
    have uD : Kp (one D) H4 (upd H4 D (.dK (mk ++ [(Sum.inr p.1, .ref r)]))) := Kp.refl.put rfl
    refine ⟨(u.trans (.ext e24)).trans uD, _, hs ++ [(p.1, h')], upd_same, paired_app ((hh.ext e24).lk (h := h') hD4 uD (by simp) (by simp)) (.cons ⟨rfl, r, rfl, tr.lk hD4 uD (by simp) (by simp)⟩ .nil), ?_, _, _, rfl⟩
    rw [take_one hp]
    exact paired_app pr (.cons ⟨rfl, mdh⟩ .nil)
  · subst hσ
    have e : md.houses.take (kvs.map fun kv => kV kv.1).length = md.houses := List.take_of_length_le (by rw [List.length_map]; omega)
    rw [e] at pr
    have pf2 := u.keep _ _ pf n1
    refine ⟨pf2, ?_⟩
    have eb := back H2 u
    have uP : Kp (one ph) H2 (upd H2 ph (.dK kvs)) := Kp.refl.put rfl
    have hD3 : (upd H2 ph (.dK kvs)) D = some (.dK mk) := by rw [upd_ne (Ne.symm n1)]; exact hD2
    have hh3 := hh.lk (h := ⟨[], [], [], false⟩) pf2 uP (by simp) (by simp)
    have dm3 : Dm S (upd H2 ph (.dK kvs)) := dm.ext eb
    generalize upd H2 ph (.dK kvs) = H3 at eb uP hD3 hh3 dm3
    refine ⟨_, rfl, m, _, rfl, dget_str (eb _ _ m1.1) mod_get.1, _, rfl, _, rfl, m, _, rfl, dget_str (eb _ _ m1.1) mod_get.2.2.2.2, ?_⟩
    exact make_net (K := K) (m := { md.net with houses := hs }) dm3 hD3 hh3 (.inl (.inl (eb _ _ m5.1))) (norm_fit f.net pr) fun r H4 n e4 nm tn => hQ r n H4 (eb.trans e4) ⟨hs, pr, nm⟩ tn
end
end Ws

set_option Elab.async false
set_option linter.all false
set_option maxRecDepth 100000
set_option maxHeartbeats 8000000
namespace Ws
open PySem PySem.Spec PyProof.Rows L2
theorem for_enum {S : Addr → Prop} {K : PySem.W.Frag} {a : Addr} {H0 : Hp} {xs : List V} {g : TG} {tb : TS} {D : Ends} {σ : L2.St} {H : Hp} (ha : SqL K H0 a xs) (na : ¬ S a) (Pv : Nat → L2.St → Hp → Prop) (h0 : Pv 0 σ H) (hk : ∀ i σ H, Pv i σ H → Kp S H0 H)
    (hs : ∀ i x σ H T, xs[i]? = some x → Pv i σ H → H T = none → g (.ref T) σ (upd H T (.tup [.int (i : Nat), x])) fun σ2 H2 => tb { D with nx := Pv (i + 1), ct := Pv (i + 1), bk := D.nx } σ2 H2) (hd : ∀ σ H, Pv xs.length σ H → D.nx σ H) :
    ∃ W : Nat → Nat → L2.St → Hp → Prop, (∃ m, W 0 m σ H) ∧ ∀ i m σ H, W i m σ H →
      ((Ite K a).stop i H ∧ D.nx σ H) ∨ ((Ite K a).go i H ∧ ∃ N : L2.St → Hp → Prop, (∀ σ' H', N σ' H' → ∃ m', m' < m ∧ W (i + 1) m' σ' H') ∧ ∀ x H', (Ite K a).yld i H x H' → g x σ H' fun σ2 H2 => tb { D with nx := N, ct := N, bk := D.nx } σ2 H2) := by
  refine ⟨fun i m σ H => m = xs.length - i ∧ i ≤ xs.length ∧ Pv i σ H, ⟨_, rfl, Nat.zero_le _, h0⟩, fun i m σ H ⟨em, le, h⟩ => ?_⟩
  have h' := sqL_kp ha na (hk _ _ _ h)
  by_cases e : i = xs.length
  · exact .inl ⟨⟨xs, h', by omega⟩, hd σ H (e ▸ h)⟩
  · have lt : i < xs.length := by omega
    have hx := List.getElem?_eq_getElem lt
    refine .inr ⟨⟨xs, _, h', hx⟩, fun σ' H' => Pv (i + 1) σ' H', fun σ' H' h' => ⟨_, by omega, rfl, by omega, h'⟩, fun x H' y => ?_⟩
    obtain ⟨T, z, rfl, nT, rfl, hz⟩ := y
    have := hz xs h'
    exact hs i z σ _ T this h nT
section
variable {S : Addr → Prop} {J : It} {H0 H1 : Hp} {g : TG} {tt : TT} {te : TE} {vs : List Nat} {σ : L2.St} {d wd c D : Addr} {n : Nat} {Qd : Hp → Prop}
/-- words kept as a draw says -/
theorem lc_drawn {ys : List Str} (st : Std S J H1 (ys.map V.str)) (dm : Dm S H1) (da : DrawAt S H1 d wd c n) (hD : H1 D = none) (hl : ys.length ≤ 64)
    (hs : ∀ y i H (Nx : Hp → Prop), y ∈ ys → i < ys.length → Kp S H1 H → Dm S H → DrawAt S H d wd c (n + i) →
      (∀ H3, Kp S H H3 → DrawAt S H3 d wd c (n + i + 1) → ∃ acc, H3 D = some (.lst acc) ∧ acc.length < sizeLine ∧ Nx (upd H3 D (.lst (acc ++ [.str y])))) → (∀ H3, Kp S H H3 → DrawAt S H3 d wd c (n + i + 1) → Nx H3) →
      g (.str y) (wipe σ vs) H fun σ2 H2 => wipe σ2 vs = wipe σ vs ∧ tt σ2 H2 fun b H3 =>
        if b = true then te σ2 H3 fun y H4 => ∃ acc, H4 D = some (.lst acc) ∧ acc.length < sizeLine ∧ Nx (upd H4 D (.lst (acc ++ [y]))) else Nx H3)
    (hd : ∀ H (zs : List Str), Kp S H1 H → DrawAt S H d wd c (n + ys.length) → At S H D (.lst (zs.map V.str)) → zs.Sublist ys → Qd H) :
    ∃ W : Nat → Nat → Hp → Prop, (∃ m, W 0 m (upd H1 D (.lst []))) ∧ ∀ i m H, W i m H →
      (J.stop i H ∧ Qd H) ∨ (J.go i H ∧ ∃ Nx : Hp → Prop, (∀ H', Nx H' → ∃ m', m' < m ∧ W (i + 1) m' H') ∧ ∀ x H', J.yld i H x H' → g x (wipe σ vs) H' fun σ2 H2 => wipe σ2 vs = wipe σ vs ∧ tt σ2 H2 fun b H3 =>
        if b = true then te σ2 H3 fun y H4 => ∃ acc, H4 D = some (.lst acc) ∧ acc.length < sizeLine ∧ Nx (upd H4 D (.lst (acc ++ [y]))) else Nx H3) := by
  have nD : ¬ S D := fun z => dm D z hD
  obtain ⟨qd, qw, qc⟩ := da.ne hD
  refine lc_std st (fun i H => Kp S H1 H ∧ DrawAt S H d wd c (n + i) ∧ ∃ zs : List Str, H D = some (.lst (zs.map V.str)) ∧ zs.Sublist (ys.take i)) ⟨.new hD, da.ext (ext_new hD), [], upd_same, by simp⟩ (fun i H h => h.1) (fun i x H e ⟨u, da', zs, hz, sub⟩ => ?_) (fun H ⟨u, da', zs, hz, sub⟩ => ?_)
  · obtain ⟨y, hy, rfl⟩ : ∃ y, ys[i]? = some y ∧ x = .str y := by
      rw [List.getElem?_map] at e
      cases q : ys[i]? with
      | none => rw [q] at e; cases e
      | some y => rw [q] at e; exact ⟨y, rfl, (Option.some.inj e).symm⟩
    have hi := (List.getElem?_eq_some_iff.mp hy).1
    have lz := sub.length_le
    have lt : (ys.take i).length ≤ ys.length := List.length_take_le' _ _
    refine hs y i H _ (List.mem_of_getElem? hy) hi u (dm.kp u) da' (fun H3 u3 da3 => ?_) fun H3 u3 da3 => ?_
    · have h3 := u3.keep _ _ hz nD
      have uD : Kp (one D) H3 (upd H3 D (.lst (zs.map V.str ++ [.str y]))) := Kp.refl.put rfl
      refine ⟨_, h3, ?_, ⟨fun a o h ns => ?_, fun a h => ?_⟩, da3.kp uD qd qw qc, zs ++ [y], by rw [upd_same]; simp, ?_⟩
      · have := line1001
        rw [List.length_map]
        omega
      · rw [upd_ne (ne_of_none h hD)]
        exact (u.trans u3).keep a o h ns
      · exact uD.dom a ((u.trans u3).dom a h)
      · rw [take_one hy]
        exact sub.append (List.Sublist.refl _)
    · refine ⟨u.trans u3, da3, zs, u3.keep _ _ hz nD, ?_⟩
      rw [take_one hy]
      exact sub.trans (List.sublist_append_left _ _)
  · rw [List.length_map] at da' sub
    rw [List.take_length] at sub
    exact hd H zs u da' ⟨hz, nD⟩ sub
end
section
variable {P : Program} {w : World} {K : PySem.W.Frag} {mg : Str → Option Value} {base : Heap}
theorem pick_new {S : Addr → Prop} {H : Hp} {d wd c : Addr} {n : Nat} {Q : VK} {E : XK} (xs : List V) (dm : Dm S H) (da : DrawAt S H d wd c n) (hn : n ≤ big) (h0 : xs ≠ []) (hl : xs.length ≤ 1000)
    (k : ∀ y ∈ xs, ∀ H', Kp S H H' → DrawAt S H' d wd c (n + 1) → Q y H') : xs.length ≤ sizeLine ∧ ∀ p, H p = none → sp_l_pick [.ref d, .ref p] (upd H p (.lst xs)) Q E :=
  ⟨Nat.le_trans hl (Nat.le_of_lt line1001), fun p np => ⟨S, d, wd, c, n, _, rfl, dm.ext (ext_new np), da.ext (ext_new np), hn, .inl ⟨p, xs, rfl, ⟨upd_same, fun z => dm p z np⟩, h0, hl, fun y hy H' u da' => k y hy H' ((Kp.ext (ext_new np)).trans u) da'⟩⟩⟩
theorem kp_put_new {S : Addr → Prop} {H H' : Hp} {a : Addr} {o : HO} (u : Kp S H H') (h : H a = none) : Kp S H (upd H' a o) := ⟨fun b x hb ns => by
  rw [upd_ne (ne_of_none hb h)]
  exact u.keep b x hb ns, fun b hb => by
  by_cases z : b = a
  · subst z; rw [upd_same]; exact fun z => nomatch z
  · rw [upd_ne z]; exact u.dom b hb⟩
theorem kp_none {S : Addr → Prop} {H H' : Hp} {a : Addr} (u : Kp S H H') (h : H' a = none) : H a = none := by
  cases q : H a with
  | none => rfl
  | some x => exact absurd h (u.dom a (by rw [q]; exact fun z => nomatch z))
/-- under a change of what was new -/
theorem DrawAt.putn {S : Addr → Prop} {H' : Hp} {d w c a : Addr} {n : Nat} {o : HO} (h : DrawAt S H' d w c n) (q : d ≠ a ∧ w ≠ a ∧ c ≠ a) : DrawAt S (upd H' a o) d w c n := h.kp (T := one a) (Kp.refl.put rfl) q.1 q.2.1 q.2.2
def modP (f : Int) (ph ps : Addr) : List (Key × V) := [(Sum.inr "fine", .int f), (Sum.inr "houses", .ref ph), (Sum.inr "some", .ref ps)]
def modO (f : Int) (ph ps : Addr) (od : Int) : List (Key × V) := [(Sum.inr "fine", .int f), (Sum.inr "houses", .ref ph), (Sum.inr "some", .ref ps), (Sum.inr "odds", .int od)]
theorem modO_get {f od : Int} {ph ps : Addr} : valV (modO f ph ps od) (Sum.inr "fine") = some (.int f) ∧ valV (modO f ph ps od) (Sum.inr "houses") = some (.ref ph) ∧ valV (modO f ph ps od) (Sum.inr "some") = some (.ref ps) ∧ valV (modO f ph ps od) (Sum.inr "odds") = some (.int od) := ⟨rfl, rfl, rfl, rfl⟩
theorem valV_none {kvs : List (Key × V)} {k : Key} (h : k ∉ kvs.map (·.1)) : valV kvs k = none := by
  unfold valV
  have : kvs.find? (fun kv => decide (kv.1 = k)) = none := List.find?_eq_none.mpr fun kv hk z => h (List.mem_map.mpr ⟨kv, hk, of_decide_eq_true z⟩)
  rw [this]
  rfl
theorem take_new {α : Type} {xs : List α} {i : Nat} {x : α} (nd : xs.Nodup) (h : xs[i]? = some x) : x ∉ xs.take i := fun hm => by
  have : (xs.take (i + 1)).Nodup := nd.sublist (List.take_sublist _ _)
  rw [take_one h, List.nodup_append] at this
  exact absurd rfl (this.2.2 _ hm _ (by simp))
/-- one of two ways, then on alike -/
theorem tif_go {t : TT} {ta tb : TE} {σ : L2.St} {H : Hp} {Q : VK} (I : V → Hp → Prop) (tail : ∀ v H', I v H' → Q v H') (h : (∀ v H', I v H' → Q v H') → t σ H fun c H1 => if c = true then ta σ H1 Q else tb σ H1 Q) : tIf t ta tb σ H Q := h tail
/-- a drawn house -/
structure Good (nms : List Str) (fine : Int) (h : HouseD) : Prop where
  fit : h.Fit
  ok : ∀ r ∈ h.rules, r.ok ∧ r.share ≤ fine ∧ r.mark ≠ "qqq"
  cl : ∀ z ∈ h.calls, z ∈ nms
theorem hdsat_lk {S : Addr → Prop} {H H1 : Hp} {kvs : List (Key × V)} {hs : Hs} {o : Addr} {v : HO} (t : HdsAt S H kvs hs) (ho : H o = some v) (e : Kp (one o) H H1) (n1 : ∀ pr pc pl f, v ≠ .dK (hdK pr pc pl f)) (n2 : ∀ xs, v ≠ .lst xs) (n3 : ∀ xs, v ≠ .tup xs) : HdsAt S H1 kvs hs := Paired.mapP t fun kv nh ⟨h1, a, h2, h3⟩ => ⟨h1, a, h2, h3.lk ho e n1 n2 n3⟩
theorem cut_from {xs : List V} {j : Nat} (h : j ≤ xs.length) : cutV xs (some (j : Int)) none = xs.drop j := by
  unfold cutV
  rw [HT.sIx_nat, show HT.sIx xs.length xs.length none = xs.length from rfl, Nat.min_eq_left h, List.take_of_length_le (by rw [List.length_drop]; exact Nat.le_refl _)]
def sp_l_model : Sp := fun vs H Q _ => ∃ (S : Addr → Prop) (d wd c : Addr) (n most : Nat), vs = [.ref d, .int (most : Nat)] ∧ Dm S H ∧ DrawAt S H d wd c n ∧ n + 400 ≤ big ∧ 1 ≤ most ∧ most ≤ 8 ∧
  ∀ (m : Addr) (md : ModelD) (H' : Hp), Kp S H H' → DrawAt S H' d wd c (n + 300) → ModelAt S H' m md → md.Fit → md.houses.length ≤ most → (∀ p ∈ md.houses, ∀ r ∈ p.2.rules, r.mark ≠ "qqq") → Q (.ref m) H'
theorem sc_l_model : FnScope ["_law_draw", "_law_most", "_law_names_here", "_law_fine", "_law_model_here", "_law_shares", "_law_houses", "_law_wide", "_law_rings", "_law_pairs", "_law_at", "_law_name", "_law_some", "_law_calls", "_law_lost", "_law_rules", "_law_k", "_law_other"] ["_law_draw", "_law_most"] (defScope s_l_model) := ⟨rfl, rfl, rfl, by decide +kernel, rfl, by decide +kernel, by decide +kernel⟩
theorem ok_l_model (x : Fx K mg w) : FnR P w K mg base CX0 5 (a_l_model K) sp_l_model := by
  refine okR x.F_l_model sc_l_model (fun _ _ _ _ _ _ us hl => match us, hl with | [_, _], _ => rfl) (fun vs H Q E h => by obtain ⟨S, d, wd, c, n, most, rfl, dm, da, hn, hm1, hm8, hQ⟩ := h; rfl) (fun cdv A outer s H vs Q E hr h => ?_)
  obtain ⟨S, d, wd, c, n, most, rfl, dm, da, hn, hm1, hm8, hQ⟩ := h
  refine ⟨_, (pss_cons (ps_asg (pe_tup (pa_cons (pe_callR (ok_l_names x) (hr.mono (by decide)) rfl x.m_l_names (keep_of x.F_l_names) pass0 (pa_cons (pv 0) (pa_cons (pe_op op_add pe_int (pe_callR (ok_l_take x) (hr.mono (by decide)) rfl x.m_l_take (keep_of x.F_l_take) pass0 (pa_cons (pv 0) (pa_cons (pv 1) pa_nil)))) pa_nil))) (pa_cons (pe_callR (ok_l_pick x) (hr.mono (by decide)) rfl x.m_l_pick (keep_of x.F_l_pick) pass0 (pa_cons (pv 0) (pa_cons (pe_lst (pa_cons pe_int (pa_cons pe_int (pa_cons pe_int (pa_cons pe_int (pa_cons pe_int (pa_cons pe_int (pa_cons pe_int pa_nil)))))))) pa_nil))) pa_nil))) (pg_tupK (K := K) (n := 2) rfl rfl (pgs_cons (pg_name (i := 2) sc_l_model.nd rfl (Or.inl rfl)) (pgs_cons (pg_name (i := 3) sc_l_model.nd rfl (Or.inr rfl)) pgs_nil))))
 (pss_cons (ps_set (i := 4) sc_l_model.nd rfl (Or.inr rfl) (pe_disp (pps_cons pe_str (pv 3) (pps_cons pe_str pe_dnewK (pps_cons pe_str (pe_callR (ok_l_pick x) (hr.mono (by decide)) rfl x.m_l_pick (keep_of x.F_l_pick) pass0 (pa_cons (pv 0) (pa_cons (pe_lst (pa_cons (pe_lst pa_nil) (pa_cons (pe_lst (pa_cons pe_str pa_nil)) (pa_cons (pe_lst (pa_cons pe_str (pa_cons pe_str pa_nil))) (pa_cons (pe_lst (pa_cons pe_str (pa_cons pe_str pa_nil))) pa_nil))))) pa_nil))) pps_nil))) rfl rfl (by simp) (by decide)))
 (pss_cons (ps_dput (hu_of hr) (pv 4) pe_str (pe_callR (ok_l_pick x) (hr.mono (by decide)) rfl x.m_l_pick (keep_of x.F_l_pick) pass0 (pa_cons (pv 0) (pa_cons (pe_lst (pa_cons pe_int (pa_cons pe_int (pa_cons pe_int pa_nil)))) pa_nil))) rfl)
 (pss_cons (ps_asg (pe_tup (pa_cons (pe_lc (own := [("_law_k", 16)]) (tt := tYes) rfl sc_l_model.nd (pi_range1 rfl x.n_range (pa_cons (pe_callR (ok_l_pick x) (hr.mono (by decide)) rfl x.m_l_pick (keep_of x.F_l_pick) pass0 (pa_cons (pv 0) (pa_cons (pe_lst (pa_cons pe_int (pa_cons pe_int (pa_cons pe_int pa_nil)))) pa_nil))) pa_nil)) (blkOk_by (N := ["_law_draw", "_law_most", "_law_names_here", "_law_fine", "_law_model_here", "_law_shares", "_law_houses", "_law_wide", "_law_rings", "_law_pairs", "_law_at", "_law_name", "_law_some", "_law_calls", "_law_lost", "_law_rules", "_law_k", "_law_other"]) (sc := defScope s_l_model) (by decide +kernel)) (fun _ _ _ _ _ => (pg_name (i := 16) sc_l_model.nd rfl (Or.inl rfl))) (fun _ _ _ _ _ => pts_nil) (fun _ _ _ _ _ => (pe_callR (ok_l_take x) (hr.mono (by decide)) rfl x.m_l_take (keep_of x.F_l_take) pass0 (pa_cons (pv 0) (pa_cons (pe_op op_add (pv 3) pe_int) pa_nil))))) (pa_cons (pe_dget (hu_of hr) (pv 4) pe_str (fun _ _ => rfl)) pa_nil))) (pg_tupK (K := K) (n := 2) rfl rfl (pgs_cons (pg_name (i := 5) sc_l_model.nd rfl (Or.inr rfl)) (pgs_cons (pg_name (i := 6) sc_l_model.nd rfl (Or.inl rfl)) pgs_nil))))
 (pss_cons (ps_asg (pe_tup (pa_cons (pe_callR (ok_l_pick x) (hr.mono (by decide)) rfl x.m_l_pick (keep_of x.F_l_pick) pass0 (pa_cons (pv 0) (pa_cons (pe_lst (pa_cons pe_int (pa_cons pe_int (pa_cons pe_int pa_nil)))) pa_nil))) (pa_cons (pe_cmpR op_eq (pe_callR (ok_l_take x) (hr.mono (by decide)) rfl x.m_l_take (keep_of x.F_l_take) pass0 (pa_cons (pv 0) (pa_cons pe_int pa_nil))) pe_int (nomark _)) (pa_cons (pe_callR (ok_l_pick x) (hr.mono (by decide)) rfl x.m_l_pick (keep_of x.F_l_pick) pass0 (pa_cons (pv 0) (pa_cons (pe_lst (pa_cons pe_int (pa_cons pe_int (pa_cons pe_int pa_nil)))) pa_nil))) pa_nil)))) (pg_tupK (K := K) (n := 3) rfl rfl (pgs_cons (pg_name (i := 7) sc_l_model.nd rfl (Or.inr rfl)) (pgs_cons (pg_name (i := 8) sc_l_model.nd rfl (Or.inl rfl)) (pgs_cons (pg_name (i := 9) sc_l_model.nd rfl (Or.inl rfl)) pgs_nil)))))
 (pss_cons (ps_for PassesOwn.never rfl (pi_enum rfl x.n_enumerate (pa_cons (pv 2) pa_nil)) (pg_tupK (K := K) (n := 2) rfl rfl (pgs_cons (pg_name (i := 10) sc_l_model.nd rfl (Or.inl rfl)) (pgs_cons (pg_name (i := 11) sc_l_model.nd rfl (Or.inl rfl)) pgs_nil)))
 (pss_cons (ps_set (i := 12) sc_l_model.nd rfl (Or.inl rfl) (pe_ifExp (pt_val (pv 8)) (pv 2) (pe_slice (r := rSlL K) sl_list (pv 2) (po_some (pe_op op_add (pv 10) pe_int)) po_none)))
 (pss_cons (ps_setLc (i := 13) (own := [("_law_other", 17)]) rfl sc_l_model.nd rfl rfl (sw_true rfl rfl rfl (by decide +kernel)) (pi_listK (K := K) rfl (pv 12)) (blkOk_by (N := ["_law_draw", "_law_most", "_law_names_here", "_law_fine", "_law_model_here", "_law_shares", "_law_houses", "_law_wide", "_law_rings", "_law_pairs", "_law_at", "_law_name", "_law_some", "_law_calls", "_law_lost", "_law_rules", "_law_k", "_law_other"]) (sc := defScope s_l_model) (by decide +kernel)) (fun _ _ _ _ _ => (pg_name (i := 17) sc_l_model.nd rfl (Or.inl rfl))) (fun _ _ _ _ _ => (pts_one (pt_cmpR op_eq (pe_callR (ok_l_take x) (hr.mono (by decide)) rfl x.m_l_take (keep_of x.F_l_take) pass0 (pa_cons (pv 0) (pa_cons (pv 7) pa_nil))) pe_int (nomark _)))) (fun _ _ _ _ _ => (pv 17)))
 (pss_cons (ps_setLc (i := 14) (own := [("_law_other", 17)]) rfl sc_l_model.nd rfl rfl (sw_true rfl rfl rfl (by decide +kernel)) (pi_listK (K := K) rfl (pv 13)) (blkOk_by (N := ["_law_draw", "_law_most", "_law_names_here", "_law_fine", "_law_model_here", "_law_shares", "_law_houses", "_law_wide", "_law_rings", "_law_pairs", "_law_at", "_law_name", "_law_some", "_law_calls", "_law_lost", "_law_rules", "_law_k", "_law_other"]) (sc := defScope s_l_model) (by decide +kernel)) (fun _ _ _ _ _ => (pg_name (i := 17) sc_l_model.nd rfl (Or.inl rfl))) (fun _ _ _ _ _ => (pts_one (pt_cmpR op_eq (pe_callR (ok_l_take x) (hr.mono (by decide)) rfl x.m_l_take (keep_of x.F_l_take) pass0 (pa_cons (pv 0) (pa_cons (pe_op op_add pe_int (pe_dget (hu_of hr) (pv 4) pe_str (fun _ _ => rfl))) pa_nil))) pe_int (nomark _)))) (fun _ _ _ _ _ => (pv 17)))
 (pss_cons (ps_setLc (i := 15) (own := [("_law_k", 16)]) (tt := tYes) rfl sc_l_model.nd rfl rfl (sw_true rfl rfl rfl (by decide +kernel)) (pi_range1 rfl x.n_range (pa_cons (pe_op op_add pe_int (pe_callTy call_int1 rfl x.n_int bb_int (pa_cons (pe_cmpR op_eq (pe_callR (ok_l_take x) (hr.mono (by decide)) rfl x.m_l_take (keep_of x.F_l_take) pass0 (pa_cons (pv 0) (pa_cons (pe_op op_add (pv 9) pe_int) pa_nil))) pe_int (nomark _)) pa_nil))) pa_nil)) (blkOk_by (N := ["_law_draw", "_law_most", "_law_names_here", "_law_fine", "_law_model_here", "_law_shares", "_law_houses", "_law_wide", "_law_rings", "_law_pairs", "_law_at", "_law_name", "_law_some", "_law_calls", "_law_lost", "_law_rules", "_law_k", "_law_other"]) (sc := defScope s_l_model) (by decide +kernel)) (fun _ _ _ _ _ => (pg_name (i := 16) sc_l_model.nd rfl (Or.inl rfl))) (fun _ _ _ _ _ => pts_nil) (fun _ _ _ _ _ => (pe_callR (ok_l_rule x) (hr.mono (by decide)) rfl x.m_l_rule (keep_of x.F_l_rule) pass0 (pa_cons (pv 0) (pa_cons (pv 4) (pa_cons (pv 5) pa_nil))))))
 (pss_one (ps_dput (hu_of hr) (pv 6) (pv 11) (pe_disp (pps_cons pe_str (pv 15) (pps_cons pe_str (pv 13) (pps_cons pe_str (pv 14) (pps_cons pe_str (pe_cmpR op_lt (pe_callR (ok_l_take x) (hr.mono (by decide)) rfl x.m_l_take (keep_of x.F_l_take) pass0 (pa_cons (pv 0) (pa_cons (pe_dget (hu_of hr) (pv 4) pe_str (fun _ _ => rfl)) pa_nil))) pe_int (nomark _)) pps_nil)))) rfl rfl (by simp) (by decide)) rfl)))))))
 (pss_cons (ps_dput (hu_of hr) (pv 4) pe_str (pe_op op_cat (pe_lst (pa_cons (pe_ix (r := rIxL K) ix_list (pv 2) pe_int (fun _ _ => rfl)) pa_nil)) (pe_lc (own := [("_law_name", 11)]) rfl sc_l_model.nd (pi_listK (K := K) rfl (pe_slice (r := rSlL K) sl_list (pv 2) (po_some pe_int) po_none)) (blkOk_by (N := ["_law_draw", "_law_most", "_law_names_here", "_law_fine", "_law_model_here", "_law_shares", "_law_houses", "_law_wide", "_law_rings", "_law_pairs", "_law_at", "_law_name", "_law_some", "_law_calls", "_law_lost", "_law_rules", "_law_k", "_law_other"]) (sc := defScope s_l_model) (by decide +kernel)) (fun _ _ _ _ _ => (pg_name (i := 11) sc_l_model.nd rfl (Or.inl rfl))) (fun _ _ _ _ _ => (pts_one (pt_cmpR op_eq (pe_callR (ok_l_take x) (hr.mono (by decide)) rfl x.m_l_take (keep_of x.F_l_take) pass0 (pa_cons (pv 0) (pa_cons pe_int pa_nil))) pe_int (nomark _)))) (fun _ _ _ _ _ => (pv 11)))) rfl)
 (pss_one (ps_ret (pv 4)))))))))), ?_⟩
  have hb : n + 400 ≤ 1099511627776 := hn
  refine ⟨_, rfl, _, rfl, _, rfl, S, d, wd, c, n, (most : Nat), rfl, dm, da, by show n ≤ 1099511627776; omega, by omega, by omega, fun k H1 k0 k1 u1 da1 => ⟨_, _, rfl, rfl, ?_⟩⟩
  obtain ⟨j, rfl⟩ := Int.eq_ofNat_of_zero_le k0
  have dm1 := dm.kp u1
  refine ⟨S, d, wd, c, n + 1, 1 + j, rfl, dm1, da1, by show n + 1 + 100 ≤ 1099511627776; omega, by omega, fun nl nms H2 u2 da2 an nn nd isn ln => ?_⟩
  have dm2 := dm1.kp u2
  have da2 := da2.more (show n + 1 + 6 * (1 + j) ≤ n + 49 by omega)
  refine ⟨_, rfl, pick_new (E := E0) [.int 1, .int 2, .int 3, .int 4, .int 10, .int 60, .int 1000] dm2 da2 (by show n + 49 ≤ 1099511627776; omega) (by simp) (by simp) fun fv hfv H3 u3 da3 => ?_⟩
  obtain ⟨fine, rfl, f1, f2⟩ : ∃ fine : Int, fv = .int fine ∧ 1 ≤ fine ∧ fine ≤ 1000 := by
    simp only [List.mem_cons, List.not_mem_nil, or_false] at hfv
    rcases hfv with rfl | rfl | rfl | rfl | rfl | rfl | rfl <;> exact ⟨_, rfl, by decide, by decide⟩
  have an3 := an.kp u3
  have dm3 := dm2.kp u3
  have u03 := (u1.trans u2).trans u3
  refine ⟨by simp [sizeLine_eq], fun t4 nt4 => ?_⟩
  have e4 : Ext H3 (upd H3 t4 (.tup [.ref nl, .int fine])) := ext_new nt4
  have ht4 : (upd H3 t4 (.tup [.ref nl, .int fine])) t4 = some (.tup [.ref nl, .int fine]) := upd_same
  generalize upd H3 t4 (.tup [.ref nl, .int fine]) = H4 at e4 ht4
  refine ⟨t4, _, rfl, .of ht4, rfl, _, _, rfl, _, _, rfl, rfl, ?_⟩
  dsimp only [gName]
  have an4 := an3.ext e4
  have dm4 := dm3.ext e4
  have da4 := da3.ext e4
  refine fun m nm => ?_
  have e5 : Ext H4 (upd H4 m (.dK [])) := ext_new nm
  have h5 : (upd H4 m (.dK [])) m = some (.dK []) := upd_same
  generalize upd H4 m (.dK []) = H5 at e5 h5
  refine ⟨_, rfl, fun ph nph => ?_⟩
  have e6 : Ext H5 (upd H5 ph (.dK [])) := ext_new nph
  have h6 : (upd H5 ph (.dK [])) ph = some (.dK []) := upd_same
  have npm : m ≠ ph := ne_of_none h5 nph
  generalize upd H5 ph (.dK []) = H6 at e6 h6
  have e46 := e5.trans e6
  have dm6 := dm4.ext e46
  refine ⟨_, rfl, by simp [sizeLine_eq], fun l1 nl1 => ?_⟩
  have ea : Ext H6 (upd H6 l1 (.lst [])) := ext_new nl1
  have ha : At S (upd H6 l1 (.lst [])) l1 (.lst (([] : List Str).map V.str)) := ⟨upd_same, fun z => dm6 l1 z nl1⟩
  generalize upd H6 l1 (.lst []) = Ha at ea ha
  refine ⟨by simp [sizeLine_eq], fun l2 nl2 => ?_⟩
  have eb : Ext Ha (upd Ha l2 (.lst [.str "m"])) := ext_new nl2
  have hb2 : At S (upd Ha l2 (.lst [.str "m"])) l2 (.lst ((["m"] : List Str).map V.str)) := ⟨upd_same, fun z => dm6.ext ea l2 z nl2⟩
  generalize upd Ha l2 (.lst [.str "m"]) = Hb at eb hb2
  refine ⟨by simp [sizeLine_eq], fun l3 nl3 => ?_⟩
  have ec : Ext Hb (upd Hb l3 (.lst [.str "m", .str "story"])) := ext_new nl3
  have hc : At S (upd Hb l3 (.lst [.str "m", .str "story"])) l3 (.lst ((["m", "story"] : List Str).map V.str)) := ⟨upd_same, fun z => dm6.ext (ea.trans eb) l3 z nl3⟩
  generalize upd Hb l3 (.lst [.str "m", .str "story"]) = Hc at ec hc
  refine ⟨by simp [sizeLine_eq], fun l4 nl4 => ?_⟩
  have ed : Ext Hc (upd Hc l4 (.lst [.str "ab", .str "aa"])) := ext_new nl4
  have hd : At S (upd Hc l4 (.lst [.str "ab", .str "aa"])) l4 (.lst ((["ab", "aa"] : List Str).map V.str)) := ⟨upd_same, fun z => dm6.ext ((ea.trans eb).trans ec) l4 z nl4⟩
  generalize upd Hc l4 (.lst [.str "ab", .str "aa"]) = Hd at ed hd
  have e6d := ((ea.trans eb).trans ec).trans ed
  have e4d := e46.trans e6d
  refine pick_new (E := E0) [.ref l1, .ref l2, .ref l3, .ref l4] (dm4.ext e4d) (da4.ext e4d) (by show n + 49 + 1 ≤ 1099511627776; omega) (by simp) (by simp) fun sv hsv H7 u7 da7 => ?_
  obtain ⟨ps, so, rfl, so1, so2, so3⟩ : ∃ (ps : Addr) (so : List Str), sv = .ref ps ∧ At S H7 ps (.lst (so.map V.str)) ∧ (∀ z ∈ so, Tame z) ∧ so.length ≤ 4 := by
    simp only [List.mem_cons, List.not_mem_nil, or_false] at hsv
    rcases hsv with rfl | rfl | rfl | rfl
    · exact ⟨_, _, rfl, (ha.ext ((eb.trans ec).trans ed)).kp u7, by simp, by simp⟩
    · exact ⟨_, _, rfl, (hb2.ext (ec.trans ed)).kp u7, by decide +kernel, by simp⟩
    · exact ⟨_, _, rfl, (hc.ext ed).kp u7, by decide +kernel, by simp⟩
    · exact ⟨_, _, rfl, hd.kp u7, by decide +kernel, by simp⟩
  have nmS : ¬ S m := fun z => dm4 m z nm
  have npS : ¬ S ph := fun z => dm4.ext e5 ph z nph
  have u47 : Kp S H4 H7 := (Kp.ext e4d).trans u7
  have h57 := u7.keep _ _ ((e6.trans e6d) _ _ h5) nmS
  have h67 := u7.keep _ _ (e6d _ _ h6) npS
  have dm7 := dm4.kp u47
  refine ⟨h57, modP fine ph ps, rfl, by simp [modP], ?_⟩
  rw [show mergeK [] (modP fine ph ps) = modP fine ph ps from rfl]
  have u04 := u03.trans (.ext e4)
  have u07 := u04.trans u47
  have an7 := an4.kp u47
  have nm0 : H m = none := kp_none u04 nm
  have np0 : H ph = none := kp_none (u04.trans (.ext e5)) nph
  have dnm := da4.ne nm
  have dnp : d ≠ ph ∧ wd ≠ ph ∧ c ≠ ph := (da4.ext e5).ne nph
  have nlm : nl ≠ m := ne_of_none an4.1 nm
  have nlp : nl ≠ ph := ne_of_none (e5 _ _ an4.1) nph
  have u8 : Kp S H (upd H7 m (.dK (modP fine ph ps))) := kp_put_new u07 nm0
  have m8 : At S (upd H7 m (.dK (modP fine ph ps))) m (.dK (modP fine ph ps)) := ⟨upd_same, nmS⟩
  have p8 : (upd H7 m (.dK (modP fine ph ps))) ph = some (.dK []) := by rw [upd_ne (Ne.symm npm)]; exact h67
  have an8 : At S (upd H7 m (.dK (modP fine ph ps))) nl (.lst (nms.map V.str)) := ⟨by rw [upd_ne nlm]; exact an7.1, an7.2⟩
  have psm : ps ≠ m := ne_of so1.1 h57 (by simp)
  have psp : ps ≠ ph := ne_of so1.1 h67 (by simp)
  have s8 : At S (upd H7 m (.dK (modP fine ph ps))) ps (.lst (so.map V.str)) := ⟨by rw [upd_ne psm]; exact so1.1, so1.2⟩
  have da8 : DrawAt S (upd H7 m (.dK (modP fine ph ps))) d wd c (n + 51) := da7.putn dnm
  generalize upd H7 m (.dK (modP fine ph ps)) = H8 at u8 m8 p8 an8 s8 da8
  refine ⟨_, rfl, pick_new (E := E0) [.int 2, .int 4, .int 9] (dm.kp u8) da8 (by show n + 51 ≤ 1099511627776; omega) (by simp) (by simp) fun ov hov H9 u9 da9 => ?_⟩
  obtain ⟨odds, rfl, o1, o2⟩ : ∃ odds : Int, ov = .int odds ∧ 1 ≤ odds ∧ odds ≤ 1000 := by
    simp only [List.mem_cons, List.not_mem_nil, or_false] at hov
    rcases hov with rfl | rfl | rfl <;> exact ⟨_, rfl, by decide, by decide⟩
  have m9 := m8.kp u9
  refine ⟨_, rfl, m, _, rfl, dput_str m9.1 (by simp [modP]), ?_⟩
  rw [show putK (modP fine ph ps) (Sum.inr "odds") (.int odds) = modO fine ph ps odds from rfl]
  have u10 : Kp S H (upd H9 m (.dK (modO fine ph ps odds))) := kp_put_new (u8.trans u9) nm0
  have m10 : At S (upd H9 m (.dK (modO fine ph ps odds))) m (.dK (modO fine ph ps odds)) := ⟨upd_same, nmS⟩
  have p10 : (upd H9 m (.dK (modO fine ph ps odds))) ph = some (.dK []) := by rw [upd_ne (Ne.symm npm)]; exact u9.keep _ _ p8 npS
  have an10 : At S (upd H9 m (.dK (modO fine ph ps odds))) nl (.lst (nms.map V.str)) := ⟨by rw [upd_ne nlm]; exact (an8.kp u9).1, an7.2⟩
  have s10 : At S (upd H9 m (.dK (modO fine ph ps odds))) ps (.lst (so.map V.str)) := ⟨by rw [upd_ne psm]; exact (s8.kp u9).1, so1.2⟩
  have da10 : DrawAt S (upd H9 m (.dK (modO fine ph ps odds))) d wd c (n + 52) := da9.putn dnm
  generalize upd H9 m (.dK (modO fine ph ps odds)) = H10 at u10 m10 p10 an10 s10 da10
  refine ⟨_, rfl, pick_new (E := E0) [.int 1, .int 2, .int 3] (dm.kp u10) da10 (by show n + 52 ≤ 1099511627776; omega) (by simp) (by simp) fun kv hkv H11 u11 da11 => ?_⟩
  obtain ⟨k, rfl, k1, k2⟩ : ∃ k : Nat, kv = .int k ∧ 1 ≤ k ∧ k ≤ 3 := by
    simp only [List.mem_cons, List.not_mem_nil, or_false] at hkv
    rcases hkv with rfl | rfl | rfl
    · exact ⟨1, rfl, by decide, by decide⟩
    · exact ⟨2, rfl, by decide, by decide⟩
    · exact ⟨3, rfl, by decide, by decide⟩
  have u011 := u10.trans u11
  have dm11 := dm.kp u011
  refine ⟨(k : Int), rfl, by omega, by omega, fun D hD => lc_std (S := S) (H0 := H11) std_range (fun t H' => Kp S H11 H' ∧ DrawAt S H' d wd c (n + 53 + t) ∧ ∃ cs : List Int, H' D = some (.lst (cs.map V.int)) ∧ cs.length = t ∧ ∀ s ∈ cs, 0 ≤ s ∧ s ≤ fine) ⟨.new hD, da11.ext (ext_new hD), [], upd_same, rfl, fun s h => by simp at h⟩ (fun t H h => h.1) (fun t y H12 hy ⟨u12, da12, cs, hD12, lc, hcs⟩ => ?_) (fun H12 ⟨u12, da12, cs, hD12, lc, hcs⟩ => ?_)⟩
  · have ht : t < k := by
      have := (List.getElem?_eq_some_iff.mp hy).1
      simp only [List.length_map, List.length_range] at this
      omega
    have nD : ¬ S D := fun z => dm11 D z hD
    refine ⟨rfl, _, rfl, _, rfl, _, _, rfl, rfl, S, d, wd, c, _, _, rfl, dm11.kp u12, da12, by show n + 53 + t ≤ 1099511627776; omega, by omega, by omega, fun s H13 s0 s1 u13 da13 => ?_⟩
    have hD13 := u13.keep _ _ hD12 nD
    have qd := da11.ne hD
    refine ⟨_, hD13, ?_, kp_put_new (u12.trans u13) hD, (da13.putn qd).more (by omega), cs ++ [s], by rw [upd_same]; simp, by simp [lc], fun x hx => ?_⟩
    · have := line1001
      simp
      omega
    · rcases List.mem_append.mp hx with hx | hx
      · exact hcs x hx
      · rw [List.mem_singleton.mp hx]; omega
  rw [List.length_map, List.length_range] at da12 lc
  have nDS : ¬ S D := fun z => dm11 D z hD
  have sh12 : At S H12 D (.lst (cs.map V.int)) := ⟨hD12, nDS⟩
  have lc3 : cs.length ≤ 10 := by omega
  have u112 := u11.trans u12
  have da12 := da12.more (show n + 53 + _ ≤ n + 56 by omega)
  have u012 := u10.trans u112
  have dm12 := dm.kp u012
  refine ⟨_, rfl, m, _, rfl, dget_str (m10.kp u112).1 modO_get.2.1, by simp [sizeLine_eq], fun t13 nt13 => ?_⟩
  have e13 : Ext H12 (upd H12 t13 (.tup [.ref D, .ref ph])) := ext_new nt13
  have ht13 : (upd H12 t13 (.tup [.ref D, .ref ph])) t13 = some (.tup [.ref D, .ref ph]) := upd_same
  generalize upd H12 t13 (.tup [.ref D, .ref ph]) = H13 at e13 ht13
  refine ⟨t13, _, rfl, .of ht13, rfl, _, _, rfl, _, _, rfl, rfl, ?_⟩
  refine ⟨_, rfl, pick_new (E := E0) [.int 2, .int 3, .int 4] (dm12.ext e13) (da12.ext e13) (by show n + 56 ≤ 1099511627776; omega) (by simp) (by simp) fun wv hwv H14 u14 da14 => ?_⟩
  obtain ⟨wide, rfl, w1, w2⟩ : ∃ k : Int, wv = .int k ∧ 1 ≤ k ∧ k ≤ 10 := by
    simp only [List.mem_cons, List.not_mem_nil, or_false] at hwv
    rcases hwv with rfl | rfl | rfl <;> exact ⟨_, rfl, by decide, by decide⟩
  have u1214 := (Kp.ext e13).trans u14
  refine ⟨_, rfl, S, d, wd, c, _, 3, rfl, dm12.kp u1214, da14, by show n + 57 ≤ 1099511627776; omega, by decide, by decide, fun r H15 r0 r1 u15 da15 => ⟨rfl, ?_⟩⟩
  refine ⟨_, rfl, pick_new (E := E0) [.int 1, .int 3, .int 9] (dm12.kp (u1214.trans u15)) da15 (by show n + 58 ≤ 1099511627776; omega) (by simp) (by simp) fun pv hpv H16 u16 da16 => ?_⟩
  obtain ⟨pairs, rfl, pa1, pa2⟩ : ∃ k : Int, pv = .int k ∧ 1 ≤ k ∧ k ≤ 10 := by
    simp only [List.mem_cons, List.not_mem_nil, or_false] at hpv
    rcases hpv with rfl | rfl | rfl <;> exact ⟨_, rfl, by decide, by decide⟩
  obtain ⟨rings, hrings⟩ : ∃ b, b = decide (V.int r = V.int 0) := ⟨_, rfl⟩
  refine ⟨by simp [sizeLine_eq], fun t17 nt17 => ?_⟩
  rw [← hrings]
  have e17 : Ext H16 (upd H16 t17 (.tup [.int wide, .bl rings, .int pairs])) := ext_new nt17
  have ht17 : (upd H16 t17 (.tup [.int wide, .bl rings, .int pairs])) t17 = some (.tup [.int wide, .bl rings, .int pairs]) := upd_same
  generalize upd H16 t17 (.tup [.int wide, .bl rings, .int pairs]) = H17 at e17 ht17
  refine ⟨t17, _, rfl, .of ht17, rfl, _, _, rfl, _, _, rfl, _, _, rfl, rfl, ?_⟩
  have u1217 := (u1214.trans u15).trans (u16.trans (.ext e17))
  have u1017 := u112.trans u1217
  have u017 := u10.trans u1017
  have m17 := m10.kp u1017
  have p17 := u1017.keep _ _ p10 npS
  have an17 := an10.kp u1017
  have s17 := s10.kp u1017
  have sh17 := sh12.kp u1217
  have da17 := da16.ext e17
  have dm17 := dm.kp u017
  dsimp only [gName]
  have lnn : nms.length ≤ 8 := by omega
  have nlT : ¬ more S ph nl := fun z => z.elim an.2 nlp
  refine ⟨_, rfl, nl, _, rfl, .of an17.1, for_enum (S := more S ph) (.of an17.1) nlT (fun i σ H' => Kp (more S ph) H17 H' ∧ DrawAt S H' d wd c (n + 60 + 28 * i) ∧ ∃ nk hs, H' ph = some (.dK nk) ∧ HdsAt S H' nk hs ∧ hs.map (·.1) = nms.take i ∧ (∀ p ∈ hs, Good nms fine p.2) ∧
      ∃ v10 v11 v12 v13 v14 v15, σ = [some (.ref d), some (.int most), some (.ref nl), some (.int fine), some (.ref m), some (.ref D), some (.ref ph), some (.int wide), some (.bl rings), some (.int pairs), v10, v11, v12, v13, v14, v15, none, none])
    ⟨Kp.refl, da17.more (by omega), [], [], p17, .nil, by simp, fun p h => by simp at h, none, none, none, none, none, none, rfl⟩ (fun i σ H' h => h.1) (fun i y σ H20 T hy ⟨u20, da20, nk, hs, hp20, hds20, hnm, hgood, v10, v11, v12, v13, v14, v15, hσ⟩ nT => ?_) (fun σ H20 ⟨u20, da20, nk, hs, hp20, hds20, hnm, hgood, v10, v11, v12, v13, v14, v15, hσ⟩ => ?_)⟩
  · subst hσ
    obtain ⟨name, hname, rfl⟩ : ∃ z, nms[i]? = some z ∧ y = .str z := by
      rw [List.getElem?_map] at hy
      cases q : nms[i]? with
      | none => rw [q] at hy; cases hy
      | some z => rw [q] at hy; exact ⟨z, rfl, (Option.some.inj hy).symm⟩
    have hi : i < nms.length := (List.getElem?_eq_some_iff.mp hname).1
    have keepP : ∀ {a : Addr} {o : HO} {H' : Hp}, At S H17 a o → a ≠ ph → Kp (more S ph) H17 H' → At S H' a o := fun {a o H'} h ne u => ⟨u.keep _ _ h.1 fun z => z.elim h.2 ne, h.2⟩
    have e21 : Ext H20 (upd H20 T (.tup [.int (i : Nat), .str name])) := ext_new nT
    have hT21 : (upd H20 T (.tup [.int (i : Nat), .str name])) T = some (.tup [.int (i : Nat), .str name]) := upd_same
    generalize upd H20 T (.tup [.int (i : Nat), .str name]) = H21 at e21 hT21
    have u21 := u20.trans (.ext e21)
    have dm21 : Dm S H21 := dm17.kp u21
    have an21 := keepP an17 nlp u21
    have m21 := keepP m17 npm u21
    have s21 := keepP s17 psp u21
    have Dp : D ≠ ph := ne_of sh17.1 p17 (by simp)
    have sh21 := keepP sh17 Dp u21
    have hp21 := e21 _ _ hp20
    have hds21 := hds20.ext e21
    have da21 := da20.ext e21
    refine ⟨T, _, rfl, .of hT21, rfl, _, _, rfl, _, _, rfl, rfl, ?_⟩
    refine tif_go (fun v H' => ∃ sa ss, v = .ref sa ∧ Ext H21 H' ∧ At S H' sa (.lst ((ss : List Str).map V.str)) ∧ ss.Sublist nms) ?_ fun tail => ?_
    · rintro v H22 ⟨sa, ss, rfl, e22, as22, sub⟩
      have lss := sub.length_le
      have dm22 := dm21.ext e22
      dsimp only [gName]
      have da22 := da21.ext e22
      have i8 : i < 8 := by omega
      refine ⟨_, rfl, sa, rfl, ⟨_, .of as22.1⟩, fun D1 hD1 => lc_drawn (std_list (.of as22.1) as22.2) dm22 da22 hD1 (by omega) (fun y i' H' Nx hy hi' u' dm' da' kT kF =>
        ⟨rfl, _, rfl, _, rfl, S, d, wd, c, _, wide, rfl, dm', da', by show n + 60 + 28 * i + i' ≤ 1099511627776; omega, by omega, by omega, fun t H3 t0 t1 u3 da3 => ⟨rfl, _, rfl, ifb (fun _ => ⟨_, rfl, kT H3 u3 da3⟩) fun _ => kF H3 u3 da3⟩⟩) (fun H23 cz u23 da23 ac subc => ?_)⟩
      have lcz := subc.length_le
      have dm23 := dm22.kp u23
      have m23 := (m21.ext e22).kp u23
      have da23 := da23.more (show n + 60 + 28 * i + ss.length ≤ n + 60 + 28 * i + 8 by omega)
      refine ⟨_, rfl, D1, rfl, ⟨_, .of ac.1⟩, fun D2 hD2 => lc_drawn (std_list (.of ac.1) ac.2) dm23 da23 hD2 (by omega) (fun y i' H' Nx hy hi' u' dm' da' kT kF =>
        ⟨rfl, _, rfl, _, rfl, m, _, rfl, dget_str (m23.kp u').1 modO_get.2.2.2, _, _, rfl, rfl, S, d, wd, c, _, 2 + odds, rfl, dm', da', by show n + 60 + 28 * i + 8 + i' ≤ 1099511627776; omega, by omega, by omega, fun t H3 t0 t1 u3 da3 => ⟨rfl, _, rfl, ifb (fun _ => ⟨_, rfl, kT H3 u3 da3⟩) fun _ => kF H3 u3 da3⟩⟩) (fun H24 lz u24 da24 al subl => ?_)⟩
      have llz := subl.length_le
      have dm24 := dm23.kp u24
      have ac24 := ac.kp u24
      have da24 := da24.more (show n + 60 + 28 * i + 8 + cz.length ≤ n + 60 + 28 * i + 16 by omega)
      have u2124 := ((Kp.ext e22).trans u23).trans u24
      refine ⟨_, rfl, _, rfl, _, _, rfl, rfl, S, d, wd, c, _, pairs + 1, rfl, dm24, da24, by show n + 60 + 28 * i + 16 ≤ 1099511627776; omega, by omega, by omega, fun t H25 t0 t1 u25 da25 => ⟨rfl, .inr ⟨_, rfl, ?_⟩⟩⟩
      have dm25 := dm24.kp u25
      obtain ⟨k, hk, hk1, hk2⟩ : ∃ k : Nat, (1 : Int) + (if decide (V.int t = V.int 0) = true then 1 else 0) = (k : Nat) ∧ 1 ≤ k ∧ k ≤ 2 := by
        by_cases z : decide (V.int t = V.int 0) = true
        · exact ⟨2, by rw [if_pos z]; rfl, by decide, by decide⟩
        · exact ⟨1, by rw [if_neg z]; rfl, by decide, by decide⟩
      refine ⟨_, _, rfl, rfl, ?_⟩
      have u2125 := u2124.trans u25
      refine ⟨(k : Int), congrArg (fun z => [V.int z]) hk, by omega, by omega, fun D3 hD3 => lc_std (S := S) (H0 := H25) std_range (fun t H' => Kp S H25 H' ∧ DrawAt S H' d wd c (n + 60 + 28 * i + 17 + 5 * t) ∧ ∃ os rs, H' D3 = some (.lst (os.map V.ref)) ∧ TupsAt S H' os rs ∧ rs.length = t ∧ ∀ r ∈ rs, r.ok ∧ r.share ≤ fine ∧ r.mark ≠ "qqq") ⟨.new hD3, da25.ext (ext_new hD3), [], [], upd_same, .nil, rfl, fun r h => by simp at h⟩ (fun t H h => h.1) (fun t y H26 hy ⟨u26, da26, os, rs, hD26, ht26, lr, hrs⟩ => ?_) (fun H26 ⟨u26, da26, os, rs, hD26, ht26, lr, hrs⟩ => ?_)⟩
      · have ht : t < k := by
          have := (List.getElem?_eq_some_iff.mp hy).1
          simp only [List.length_map, List.length_range] at this
          omega
        have nD : ¬ S D3 := fun z => dm25 D3 z hD3
        have u2126 := u2125.trans u26
        refine ⟨rfl, _, rfl, _, rfl, _, rfl, S, d, wd, c, m, D, ps, _, _, fine, odds, so, cs, rfl, dm25.kp u26, da26, by show n + 60 + 28 * i + 17 + 5 * t + 10 ≤ 1099511627776; omega,
          ⟨m21.kp u2126, modO_get.1, modO_get.2.2.1, modO_get.2.2.2, s21.kp u2126, so2, so3, f1, f2, o1, o2⟩, sh21.kp u2126, lc3, hcs, fun p r H27 u27 da27 tr rok rsh rt => ?_⟩
        have hD27 := u27.keep _ _ hD26 nD
        have qd := da25.ne hD3
        have lo := Paired.length ht26
        have uD : Kp (one D3) H27 (upd H27 D3 (.lst (os.map V.ref ++ [.ref p]))) := Kp.refl.put rfl
        refine ⟨_, hD27, ?_, kp_put_new (u26.trans u27) hD3, (da27.putn qd).more (by omega), os ++ [p], rs ++ [r], by rw [upd_same]; simp, paired_app (Paired.mapP ht26 fun _ _ z => (z.kp u27).off hD27 (by simp) uD) (.cons (tr.off hD27 (by simp) uD) .nil), by simp [lr], fun x hx => ?_⟩
        · have := line1001
          simp
          omega
        · rcases List.mem_append.mp hx with hx | hx
          · exact hrs x hx
          · rw [List.mem_singleton.mp hx]; exact ⟨rok, rsh, rt⟩
      rw [List.length_map, List.length_range] at da26 lr
      have nD3 : ¬ S D3 := fun z => dm25 D3 z hD3
      have ar26 : At S H26 D3 (.lst (os.map V.ref)) := ⟨hD26, nD3⟩
      have da26 := da26.more (show n + 60 + 28 * i + 17 + 5 * _ ≤ n + 60 + 28 * i + 27 by omega)
      have dm26 := dm25.kp u26
      have u2126 := u2125.trans u26
      refine fun a na => ?_
      have e27 : Ext H26 (upd H26 a (.dK [])) := ext_new na
      have h27 : (upd H26 a (.dK [])) a = some (.dK []) := upd_same
      generalize upd H26 a (.dK []) = H27 at e27 h27
      have u2127 := u2126.trans (.ext e27)
      have dm27 := dm26.ext e27
      have naS : ¬ S a := fun z => dm26 a z na
      have da27 := da26.ext e27
      refine ⟨_, rfl, _, rfl, _, rfl, _, rfl, _, rfl, m, _, rfl, dget_str (m21.kp u2127).1 modO_get.2.2.2, S, d, wd, c, _, odds, rfl, dm27, da27, by show n + 60 + 28 * i + 27 ≤ 1099511627776; omega, by omega, by omega, fun t H28 t0 t1 u28 da28 => ⟨_, _, rfl, rfl, ?_⟩⟩
      have h28 := u28.keep _ _ h27 naS
      refine ⟨h28, hdK D3 D1 D2 (decide (t < 2)), rfl, by simp [hdK], ?_⟩
      rw [show mergeK [] (hdK D3 D1 D2 (decide (t < 2))) = hdK D3 D1 D2 (decide (t < 2)) from rfl]
      have u2128 := u2127.trans u28
      have np21 : ph ≠ a := ne_of_none ((u2126.keep _ _ hp21 npS)) na
      have na21 : H21 a = none := kp_none u2126 na
      have ua : Kp (one a) H28 (upd H28 a (.dK (hdK D3 D1 D2 (decide (t < 2))))) := Kp.refl.put rfl
      have u2129 : Kp S H21 (upd H28 a (.dK (hdK D3 D1 D2 (decide (t < 2))))) := kp_put_new u2128 na21
      have a29 : At S (upd H28 a (.dK (hdK D3 D1 D2 (decide (t < 2))))) a (.dK (hdK D3 D1 D2 (decide (t < 2)))) := ⟨upd_same, naS⟩
      have u2628 := (Kp.ext (S := S) e27).trans u28
      have ar29 := (ar26.kp u2628).off h28 (by simp) ua
      have tr29 := Paired.mapP ht26 fun _ _ z => (z.kp u2628).off h28 (by simp) ua
      have ac29 := ((ac24.kp (u25.trans u26)).kp u2628).off h28 (by simp) ua
      have al29 := ((al.kp (u25.trans u26)).kp u2628).off h28 (by simp) ua
      have da29 : DrawAt S (upd H28 a (.dK (hdK D3 D1 D2 (decide (t < 2))))) d wd c (n + 60 + 28 * i + 28) := da28.putn (da26.ne na)
      generalize upd H28 a (.dK (hdK D3 D1 D2 (decide (t < 2)))) = H29 at u2129 a29 ar29 tr29 ac29 al29 da29
      have hp29 := u2129.keep _ _ hp21 npS
      have hds29 := hds21.kp u2129
      have lhs := Paired.length hds29
      have lh2 := congrArg List.length hnm
      rw [List.length_map, List.length_take] at lh2
      refine ⟨_, rfl, _, rfl, ph, _, rfl, dput_str hp29 (by omega), ?_⟩
      have nn : name ∉ nms.take i := take_new nd hname
      rw [putK_new _ (valV_none (by rw [hds29.keys, hnm]; intro z; obtain ⟨y, hy, e⟩ := List.mem_map.mp z; injection e with e; exact nn (e ▸ hy)))]
      have uP : Kp (one ph) H29 (upd H29 ph (.dK (nk ++ [(Sum.inr name, .ref a)]))) := Kp.refl.put rfl
      have new : HdAt S H29 a ⟨rs, cz, lz, decide (t < 2)⟩ := ⟨D3, D1, D2, os, a29, ar29, tr29, ac29, al29⟩
      have ndk : ∀ pr pc pl f, (HO.dK nk) ≠ .dK (hdK pr pc pl f) := fun pr pc pl f z => by injection z with z; exact hds_ne_hd hds29 z
      have dnp' : d ≠ ph ∧ wd ≠ ph ∧ c ≠ ph := dnp
      refine ⟨(u21.trans (u2129.mono fun a h => .inl h)).trans (uP.mono fun a h => .inr h), (da29.putn dnp).more (by omega), nk ++ [(Sum.inr name, .ref a)], hs ++ [(name, ⟨rs, cz, lz, decide (t < 2)⟩)], upd_same, ?_, ?_, fun p hp => ?_, _, _, _, _, _, _, rfl⟩
      · exact paired_app (hdsat_lk hds29 hp29 uP ndk (by simp) (by simp)) (.cons ⟨rfl, a, rfl, new.lk hp29 uP ndk (by simp) (by simp)⟩ .nil)
      · rw [List.map_append, hnm, take_one hname]
        rfl
      · rcases List.mem_append.mp hp with hp | hp
        · exact hgood p hp
        · rw [List.mem_singleton.mp hp]
          have sc := subc.trans sub
          exact ⟨⟨by show 1 ≤ rs.length; omega, by show rs.length ≤ 2; omega, fun z hz => isn z (sc.subset hz), nd.sublist sc, by show cz.length < 64; omega, (nd.sublist sc).sublist subl, fun z hz => subl.subset hz, by show lz.length < 64; omega⟩, hrs, fun z hz => sc.subset hz⟩
    · refine ⟨_, rfl, rings, rfl, ifb (fun _ => ?_) fun _ => ?_⟩
      · exact ⟨_, rfl, tail _ _ ⟨nl, nms, rfl, Ext.rfl', an21, List.Sublist.refl _⟩⟩
      · refine ⟨_, rfl, _, rfl, _, _, rfl, rfl, _, rfl, nl, _, rfl, .of an21.1, fun p np => tail _ _ ⟨p, nms.drop (i + 1), rfl, ext_new np, ⟨?_, fun z => dm21 p z np⟩, List.drop_sublist _ _⟩⟩
        rw [upd_same, show ((i : Nat) : Int) + 1 = ((i + 1 : Nat) : Int) from rfl, cut_from (by simp; omega), List.map_drop]
  · subst hσ
    rw [List.length_map] at da20 hnm
    rw [List.take_length] at hnm
    have da20 := da20.more (show n + 60 + 28 * nms.length ≤ n + 284 by omega)
    have keepP : ∀ {a : Addr} {o : HO} {H' : Hp}, At S H17 a o → a ≠ ph → Kp (more S ph) H17 H' → At S H' a o := fun {a o H'} h ne u => ⟨u.keep _ _ h.1 fun z => z.elim h.2 ne, h.2⟩
    have dm20 : Dm S H20 := dm17.kp u20
    have an20 := keepP an17 nlp u20
    have m20 := keepP m17 npm u20
    have s20 := keepP s17 psp u20
    obtain ⟨n0, rest, hnr⟩ : ∃ n0 rest, nms = n0 :: rest := by
      cases nms with
      | nil => simp at ln; omega
      | cons a b => exact ⟨a, b, rfl⟩
    refine ⟨_, rfl, nl, _, 0, _, rfl, rfl, .of an20.1, atI_nat (j := 0) (by rw [hnr]; rfl), by simp [sizeLine_eq], fun l1 nl1 => ?_⟩
    have e21 : Ext H20 (upd H20 l1 (.lst [.str n0])) := ext_new nl1
    have h21 : (upd H20 l1 (.lst [.str n0])) l1 = some (.lst [.str n0]) := upd_same
    have nl1S : ¬ S l1 := fun z => dm20 l1 z nl1
    generalize upd H20 l1 (.lst [.str n0]) = H21 at e21 h21
    refine ⟨_, rfl, _, rfl, nl, _, rfl, .of (e21 _ _ an20.1), fun p2 np2 => ?_⟩
    rw [show cutV (nms.map V.str) (some 1) none = rest.map V.str by
      rw [show (some (1 : Int)) = some ((1 : Nat) : Int) from rfl, cut_from (by rw [hnr]; simp), hnr]; rfl]
    have e22 : Ext H21 (upd H21 p2 (.lst (rest.map V.str))) := ext_new np2
    have dm21 := dm20.ext e21
    have a22 : At S (upd H21 p2 (.lst (rest.map V.str))) p2 (.lst (rest.map V.str)) := ⟨upd_same, fun z => dm21 p2 z np2⟩
    generalize upd H21 p2 (.lst (rest.map V.str)) = H22 at e22 a22
    have dm22 := dm21.ext e22
    have e2022 := e21.trans e22
    have lr8 : rest.length ≤ 7 := by rw [hnr] at lnn; simp at lnn; omega
    refine ⟨p2, rfl, ⟨_, .of a22.1⟩, fun D1 hD1 => lc_drawn (std_list (.of a22.1) a22.2) dm22 (da20.ext e2022) hD1 (by omega) (fun y i' H' Nx hy hi' u' dm' da' kT kF =>
        ⟨rfl, _, rfl, S, d, wd, c, _, 6, rfl, dm', da', by show n + 284 + i' ≤ 1099511627776; omega, by omega, by omega, fun t H3 t0 t1 u3 da3 => ⟨rfl, _, rfl, ifb (fun _ => ⟨_, rfl, kT H3 u3 da3⟩) fun _ => kF H3 u3 da3⟩⟩) (fun H23 ez u23 da23 ae sub => ?_)⟩
    have lez := sub.length_le
    have u2023 := (Kp.ext e2022).trans u23
    have h23 := u23.keep _ _ (e22 _ _ h21) nl1S
    have dm23 := dm20.kp u2023
    refine ⟨l1, D1, _, _, rfl, rfl, h23, ae.1, sz (m := 1000) (by simp; omega), fun pe npe => ?_⟩
    have e24 : Ext H23 (upd H23 pe (.lst ([.str n0] ++ ez.map V.str))) := ext_new npe
    have a24 : At S (upd H23 pe (.lst ([.str n0] ++ ez.map V.str))) pe (.lst ((n0 :: ez).map V.str)) := ⟨by rw [upd_same]; rfl, fun z => dm23 pe z npe⟩
    generalize upd H23 pe (.lst ([.str n0] ++ ez.map V.str)) = H24 at e24 a24
    have u2024 := u2023.trans (.ext e24)
    have m24 := m20.kp u2024
    refine ⟨_, rfl, m, _, rfl, dput_str m24.1 (by simp [modO]), ?_⟩
    rw [show putK (modO fine ph ps odds) (Sum.inr "entries") (.ref pe) = modK fine ph ps odds pe from rfl]
    have um : Kp (one m) H24 (upd H24 m (.dK (modK fine ph ps odds pe))) := Kp.refl.put rfl
    have hp24 := u2024.keep _ _ hp20 npS
    have hds24 := hds20.kp u2024
    have ndk : ∀ pr pc pl f, (HO.dK (modO fine ph ps odds)) ≠ .dK (hdK pr pc pl f) := fun pr pc pl f z => by simp [modO, hdK] at z
    have u1724 : Kp (more S ph) H17 H24 := u20.trans (u2024.mono fun a h => .inl h)
    have uH : Kp S H (upd H24 m (.dK (modK fine ph ps odds pe))) := ⟨fun b x hb ns => by
      rw [upd_ne (ne_of_none hb nm0)]
      exact u1724.keep b x (u017.keep b x hb ns) fun z => z.elim ns (ne_of_none hb np0), fun b hb => um.dom b (u1724.dom b (u017.dom b hb))⟩
    have lh := congrArg List.length hnm
    rw [List.length_map] at lh
    refine ⟨_, rfl, hQ m ⟨fine, hs, so, odds, n0 :: ez⟩ _ uH (((da23.ext e24).putn dnm).more (by omega)) ⟨ph, ps, pe, nk, ⟨upd_same, nmS⟩, ⟨by rw [upd_ne (Ne.symm npm)]; exact hp24, npS⟩, hdsat_lk hds24 m24.1 um ndk (by simp [modO]) (by simp [modO]), ⟨by rw [upd_ne psm]; exact (s20.kp u2024).1, so1.2⟩, a24.off m24.1 (by simp) um⟩ ⟨⟨f1, f2, ⟨?_, ?_, fun p hp => ?_, ?_, fun p hp r hr => ((hgood p hp).ok r hr).2.1, fun p hp z hz => ?_⟩, by simp [ModelD.net], ?_, fun z hz => ?_, ?_⟩, fun p hp => ⟨(hgood p hp).fit, fun r hr => ((hgood p hp).ok r hr).1⟩, so2, so3, o1, o2⟩ ?_ fun p hp r hr => ((hgood p hp).ok r hr).2.2⟩
    · show 1 ≤ hs.length
      omega
    · show hs.length ≤ 8
      omega
    · exact isn p.1 (hnm ▸ List.mem_map.mpr ⟨p, hp, rfl⟩)
    · show (hs.map (·.1)).Nodup
      rw [hnm]; exact nd
    · show z ∈ hs.map (·.1)
      rw [hnm]; exact (hgood p hp).cl z hz
    · show (n0 :: ez).Nodup
      rw [hnr] at nd
      exact nd.sublist (sub.cons₂ n0)
    · show z ∈ hs.map (·.1)
      rw [hnm, hnr]
      exact (sub.cons₂ n0).subset hz
    · show (n0 :: ez).length < 64
      simp
      omega
    · show hs.length ≤ most
      omega
end
end Ws

set_option Elab.async false
set_option linter.all false
set_option maxRecDepth 100000
set_option maxHeartbeats 4000000
namespace Ws
open PySem PySem.Spec PyProof.Rows L2
def NoTbl (o : HO) : Prop := ∀ ps, o ≠ .tbl ps
/-- all that stands (no tables) stands still, over another set of what may change -/
def Tr (S T : Addr → Prop) (H H1 : Hp) : Prop := ∀ a o, NoTbl o → At S H a o → At T H1 a o
section
variable {S T U : Addr → Prop} {K : PySem.W.Frag} {H H1 H2 : Hp} {a : Addr}
theorem noTbl_tup {xs : List V} : NoTbl (.tup xs) := fun _ z => nomatch z
theorem noTbl_lst {xs : List V} : NoTbl (.lst xs) := fun _ z => nomatch z
theorem noTbl_dK {xs : List (Key × V)} : NoTbl (.dK xs) := fun _ z => nomatch z
theorem noTbl_ins {C dx : Addr} {fs : List (Str × V)} : NoTbl (.ins C dx fs) := fun _ z => nomatch z
theorem Tr.kp (u : Kp S H H1) : Tr S S H H1 := fun _ _ _ h => h.kp u
theorem Tr.ext (e : Ext H H1) : Tr S S H H1 := .kp (.ext e)
theorem Tr.grow {q : Addr} (hq : H q = none) : Tr S (more S q) H H := fun _ _ _ h => h.grow hq
/-- a table among what may change -/
theorem Tr.tab {q : Addr} {ps : Array Value} (hq : H q = some (.tbl ps)) : Tr S (more S q) H H := fun b o n h => ⟨h.1, fun z => z.elim h.2 fun e => by
  have h1 := h.1
  rw [e, hq] at h1
  exact n ps (Option.some.inj h1).symm⟩
theorem Tr.sub (s : ∀ a, T a → S a) : Tr S T H H := fun _ _ _ h => ⟨h.1, fun z => h.2 (s _ z)⟩
theorem Tr.trans (f : Tr S T H H1) (g : Tr T U H1 H2) : Tr S U H H2 := fun a o n h => g a o n (f a o n h)
theorem At.tr {o : HO} (h : At S H a o) (f : Tr S T H H1) (n : NoTbl o) : At T H1 a o := f a o n h
theorem RuleAt.tr {r : RuleD} (h : RuleAt S K H a r) (f : Tr S T H H1) : RuleAt T K H1 a r := by
  obtain ⟨ok, dx, p, h1, h2⟩ := h
  exact ⟨ok, dx, p, h1.tr f noTbl_ins, h2.tr f noTbl_tup⟩
theorem HouseAt.tr {x : HouseD} (t : HouseAt S K H a x) (f : Tr S T H H1) : HouseAt T K H1 a x := by
  obtain ⟨ft, s1, s2, dx, pr, pc, pl, os, h1, h2, h3, h4, h5⟩ := t
  exact ⟨ft, s1, s2, dx, pr, pc, pl, os, h1.tr f noTbl_ins, h2.tr f noTbl_tup, Paired.mapP h3 fun _ _ z => z.tr f, h4.tr f noTbl_tup, h5.tr f noTbl_tup⟩
theorem NetAt.tr {n : NetD} (t : NetAt S K H a n) (f : Tr S T H H1) : NetAt T K H1 a n := by
  obtain ⟨ft, s1, s2, dx, ph, pe, kvs, h1, h2, h3, h4⟩ := t
  exact ⟨ft, s1, s2, dx, ph, pe, kvs, h1.tr f noTbl_ins, h2.tr f noTbl_dK, Paired.mapP h3 fun kv nh ⟨g1, b, g2, g3⟩ => ⟨g1, b, g2, g3.tr f⟩, h4.tr f noTbl_tup⟩
theorem HdAt.tr {x : HouseD} (t : HdAt S H a x) (f : Tr S T H H1) : HdAt T H1 a x := by
  obtain ⟨pr, pc, pl, os, h1, h2, h3, h4, h5⟩ := t
  exact ⟨pr, pc, pl, os, h1.tr f noTbl_dK, h2.tr f noTbl_lst, Paired.mapP h3 fun _ _ z => z.tr f noTbl_tup, h4.tr f noTbl_lst, h5.tr f noTbl_lst⟩
theorem ModelAt.tr {md : ModelD} (t : ModelAt S H a md) (f : Tr S T H H1) : ModelAt T H1 a md := by
  obtain ⟨ph, ps, pe, kvs, h1, h2, h3, h4, h5⟩ := t
  exact ⟨ph, ps, pe, kvs, h1.tr f noTbl_dK, h2.tr f noTbl_dK, Paired.mapP h3 fun kv nh ⟨g1, b, g2, g3⟩ => ⟨g1, b, g2, g3.tr f⟩, h4.tr f noTbl_lst, h5.tr f noTbl_lst⟩
theorem DrawAt.sub {d w c : Addr} {n : Nat} (h : DrawAt S H d w c n) (s : ∀ a, T a → S a) (sd : T d) (sw : T w) : DrawAt T H d w c n := by
  obtain ⟨_, _, ws, cs, rest, turn, h1, h2, h3, h4, h5, h6⟩ := h
  exact ⟨sd, sw, ws, cs, rest, turn, h1, h2, ⟨h3.1, fun z => h3.2 (s _ z)⟩, h4, h5, h6⟩
end
end Ws

set_option Elab.async false
set_option linter.all false
set_option maxRecDepth 100000
set_option maxHeartbeats 4000000
namespace Ws
open PySem PySem.Spec PyProof.Rows L2
theorem seq_cut {t u : TS} {D : Ends} {σ : L2.St} {H : Hp} (I : L2.St → Hp → Prop) (tail : ∀ σ' H', I σ' H' → u D σ' H') (h : (∀ σ' H', I σ' H' → u D σ' H') → t { D with nx := u D } σ H) : tSeq t u D σ H := h tail
/-- what stood keeps standing when one thing that is new changes -/
theorem ext_more {H H1 H2 : Hp} {l : Addr} (e : Ext H H1) (nl : H l = none) (u : Kp (more no l) H1 H2) : Ext H H2 := fun a o h => u.keep a o (e a o h) fun z => z.elim (fun z => z) fun z => by rw [z, nl] at h; cases h
theorem ext_none {H H1 : Hp} {p : Addr} (e : Ext H H1) (h : H1 p = none) : H p = none := by
  cases q : H p with
  | none => rfl
  | some o => rw [e p o q] at h; cases h
theorem houses_kV {S : Addr → Prop} {K : PySem.W.Frag} {H : Hp} {kvs : List (Key × V)} {hs : Hs} (h : HousesAt S K H kvs hs) : (kvs.map fun kv => kV kv.1) = (hs.map (·.1)).map V.str := by
  have e2 : (kvs.map fun kv => kV kv.1) = (kvs.map (·.1)).map kV := by rw [List.map_map]; rfl
  rw [e2, h.keys, List.map_map]
  rfl
section
variable {P : Program} {w : World} {K : PySem.W.Frag} {mg : Str → Option Value} {base : Heap}
def sp_Rule_mark (K : PySem.W.Frag) : Sp := fun vs H Q _ => ∃ (S : Addr → Prop) (o : Addr) (r : RuleD), vs = [.ref o] ∧ RuleAt S K H o r ∧ Q (.str r.mark) H
def sp_Rule_always (K : PySem.W.Frag) : Sp := fun vs H Q _ => ∃ (S : Addr → Prop) (o : Addr) (r : RuleD), vs = [.ref o] ∧ RuleAt S K H o r ∧ Q (.bl r.always) H
def sp_Rule_late (K : PySem.W.Frag) : Sp := fun vs H Q _ => ∃ (S : Addr → Prop) (o : Addr) (r : RuleD), vs = [.ref o] ∧ RuleAt S K H o r ∧ Q (.bl r.late) H
def sp_Net_fine (K : PySem.W.Frag) : Sp := fun vs H Q _ => ∃ (S : Addr → Prop) (o : Addr) (n : NetD), vs = [.ref o] ∧ NetAt S K H o n ∧ Q (.int n.fine) H
def sp_Net_entries (K : PySem.W.Frag) : Sp := fun vs H Q _ => ∃ (S : Addr → Prop) (o : Addr) (n : NetD), vs = [.ref o] ∧ NetAt S K H o n ∧ ∀ p, At S H p (.tup (n.entries.map V.str)) → Q (.ref p) H
theorem sc_Net_entries : FnScope ["self"] ["self"] (defScope s_Net_entries) := ⟨rfl, rfl, rfl, by decide +kernel, rfl, by decide +kernel, by decide +kernel⟩
theorem ok_Net_entries (x : Fx K mg w) : FnR P w K mg base CX0 1 (a_Net_entries K) (sp_Net_entries K) := by
  refine okR x.F_Net_entries sc_Net_entries (fun _ _ _ _ _ _ us hl => match us, hl with | [_], _ => rfl) (fun vs H Q E h => by obtain ⟨S, o, n, rfl, ⟨f, s1, s2, dx, ph, pe, kvs, h1, h2, h3, h4⟩, hQ⟩ := h; rfl) (fun cdv A outer s H vs Q E hr h => ?_)
  obtain ⟨S, o, n, rfl, ⟨f, s1, s2, dx, ph, pe, kvs, h1, h2, h3, h4⟩, hQ⟩ := h
  refine ⟨_, (pss_one (ps_ret (pe_fldK (K := K) rfl (pv 0) rfl))), ?_⟩
  exact ⟨_, rfl, o, _, dx, _, _, rfl, h1.1, x.cl_Net, x.na_Net_n_entries, rfl, hQ _ h4⟩
def sp_Net_names (K : PySem.W.Frag) : Sp := fun vs H Q _ => ∃ (S : Addr → Prop) (o : Addr) (n : NetD), vs = [.ref o] ∧ NetAt S K H o n ∧ ∀ p, H p = none → Q (.ref p) (upd H p (.tup (n.names.map V.str)))
end
end Ws

set_option Elab.async false
set_option linter.all false
set_option maxRecDepth 100000
set_option maxHeartbeats 4000000
namespace Ws
open PySem PySem.Spec PyProof.Rows L2
inductive TaleD where
  | mk (house : Str) (number : Nat) (faulty : Bool) (calls : List TaleD)
def TaleD.house : TaleD → Str | .mk h _ _ _ => h
def TaleD.number : TaleD → Nat | .mk _ k _ _ => k
def TaleD.faulty : TaleD → Bool | .mk _ _ f _ => f
def TaleD.calls : TaleD → List TaleD | .mk _ _ _ cs => cs
mutual
def TaleD.depth : TaleD → Nat
  | .mk _ _ _ cs => deeps cs + 1
def deeps : List TaleD → Nat
  | [] => 0
  | c :: cs => max c.depth (deeps cs)
end
mutual
def TaleD.count : TaleD → Nat
  | .mk _ _ _ cs => counts cs + 1
def counts : List TaleD → Nat
  | [] => 0
  | c :: cs => c.count + counts cs
end
mutual
def TaleD.dat : TaleD → PyData
  | .mk h k f cs => .tuple [.str h, .int (k : Nat), .bool f, .tuple (dats cs)]
def dats : List TaleD → List PyData
  | [] => []
  | c :: cs => c.dat :: dats cs
end
mutual
/-- the story stands at a -/
def TaleAt (S : Addr → Prop) (H : Hp) : TaleD → Addr → Prop
  | .mk h k f cs, a => ∃ b bs, At S H a (.tup [.str h, .int (k : Nat), .bl f, .ref b]) ∧ At S H b (.tup (bs.map V.ref)) ∧ TalesAt S H cs bs
def TalesAt (S : Addr → Prop) (H : Hp) : List TaleD → List Addr → Prop
  | [], bs => bs = []
  | c :: cs, bs => ∃ b r, bs = b :: r ∧ TaleAt S H c b ∧ TalesAt S H cs r
end
mutual
/-- a call of one of the houses hs, and so on -/
def TaleD.Of (n : NetD) : TaleD → List Str → Prop
  | .mk h k f cs, hs => h ∈ hs ∧ h ∈ n.names ∧ k < (getH n.houses h).rules.length ∧ (f = true → (getH n.houses h).fails = true) ∧ OfAll n cs (getH n.houses h).calls
def OfAll (n : NetD) : List TaleD → List Str → Prop
  | [], _ => True
  | c :: cs, hs => c.Of n hs ∧ OfAll n cs hs
end
def headS (h : Str) (k : Nat) (f : Bool) : Str := if f = true then ((h ++ ".") ++ (toString (k : Int) : Str)) ++ "!" else (h ++ ".") ++ (toString (k : Int) : Str)
mutual
def TaleD.text : TaleD → Str
  | .mk h k f cs => if cs.isEmpty = true then headS h k f else ((headS h k f ++ "(") ++ Txt.join " " (texts cs)) ++ ")"
def texts : List TaleD → List Str
  | [] => []
  | c :: cs => c.text :: texts cs
end
mutual
/-- the names are names, the numbers small -/
def TaleD.Ok : TaleD → Prop
  | .mk h k _ cs => isName h = true ∧ k ≤ 1 ∧ Oks cs
def Oks : List TaleD → Prop
  | [] => True
  | c :: cs => c.Ok ∧ Oks cs
end
theorem talesAt_paired {S : Addr → Prop} {H : Hp} : ∀ {cs : List TaleD} {bs : List Addr}, TalesAt S H cs bs ↔ Paired (fun b c => TaleAt S H c b) bs cs
  | [], bs => ⟨fun h => by rw [TalesAt] at h; subst h; exact .nil, fun h => by cases h; rw [TalesAt]⟩
  | c :: cs, bs => ⟨fun h => by
      rw [TalesAt] at h
      obtain ⟨b, r, rfl, h1, h2⟩ := h
      exact .cons h1 (talesAt_paired.mp h2), fun h => by
      cases h with
      | cons h1 h2 =>
        rw [TalesAt]
        exact ⟨_, _, rfl, h1, talesAt_paired.mpr h2⟩⟩
mutual
theorem TaleAt.tr {S T : Addr → Prop} {H H1 : Hp} (f : ∀ a xs, At S H a (.tup xs) → At T H1 a (.tup xs)) : ∀ (t : TaleD) (a : Addr), TaleAt S H t a → TaleAt T H1 t a
  | .mk h k fl cs, a, g => by
    rw [TaleAt] at g ⊢
    obtain ⟨b, bs, h1, h2, h3⟩ := g
    exact ⟨b, bs, f _ _ h1, f _ _ h2, TalesAt.tr f cs bs h3⟩
theorem TalesAt.tr {S T : Addr → Prop} {H H1 : Hp} (f : ∀ a xs, At S H a (.tup xs) → At T H1 a (.tup xs)) : ∀ (cs : List TaleD) (bs : List Addr), TalesAt S H cs bs → TalesAt T H1 cs bs
  | [], bs, g => by rw [TalesAt] at g ⊢; exact g
  | c :: cs, bs, g => by
    rw [TalesAt] at g ⊢
    obtain ⟨b, r, e, h1, h2⟩ := g
    exact ⟨b, r, e, TaleAt.tr f c b h1, TalesAt.tr f cs r h2⟩
end
section
variable {S : Addr → Prop} {H H1 : Hp} {t : TaleD} {a : Addr}
theorem TaleAt.kp (g : TaleAt S H t a) (u : Kp S H H1) : TaleAt S H1 t a := TaleAt.tr (fun _ _ z => z.kp u) t a g
theorem TaleAt.ext (g : TaleAt S H t a) (e : Ext H H1) : TaleAt S H1 t a := g.kp (.ext e)
theorem TaleAt.free (g : TaleAt S H t a) : TaleAt no H t a := TaleAt.tr (fun _ _ z => z.free) t a g
/-- what is no tuple may change -/
theorem TaleAt.lk {T : Addr → Prop} (g : TaleAt S H t a) (k : ∀ b xs, H b = some (.tup xs) → H1 b = some (.tup xs)) (s : ∀ b xs, H b = some (.tup xs) → ¬ T b) : TaleAt T H1 t a := TaleAt.tr (fun _ _ z => ⟨k _ _ z.1, s _ _ z.1⟩) t a g
end
mutual
theorem TaleAt.dp {K : PySem.W.Frag} {S : Addr → Prop} {H : Hp} : ∀ (t : TaleD) (a : Addr), TaleAt S H t a → Dp K H (.ref a) t.dat
  | .mk h k fl cs, a, g => by
    rw [TaleAt] at g
    obtain ⟨b, bs, h1, h2, h3⟩ := g
    rw [TaleD.dat]
    exact .tup (.of h1.1) (.cons (.str _) (.cons (.int _) (.cons (.bl _) (.cons (.tup (.of h2.1) (TalesAt.dp cs bs h3)) .nil))))
theorem TalesAt.dp {K : PySem.W.Frag} {S : Addr → Prop} {H : Hp} : ∀ (cs : List TaleD) (bs : List Addr), TalesAt S H cs bs → DpAll K H (bs.map V.ref) (dats cs)
  | [], bs, g => by rw [TalesAt] at g; subst g; rw [dats]; exact .nil
  | c :: cs, bs, g => by
    rw [TalesAt] at g
    obtain ⟨b, r, rfl, h1, h2⟩ := g
    rw [dats]
    exact .cons (TaleAt.dp c b h1) (TalesAt.dp cs r h2)
end
theorem ofAll_iff {n : NetD} {hs : List Str} : ∀ {cs : List TaleD}, OfAll n cs hs ↔ ∀ c ∈ cs, c.Of n hs
  | [] => by simp [OfAll]
  | c :: cs => by
    rw [OfAll, ofAll_iff]
    simp
theorem oks_iff : ∀ {cs : List TaleD}, Oks cs ↔ ∀ c ∈ cs, c.Ok
  | [] => by simp [Oks]
  | c :: cs => by
    rw [Oks, oks_iff]
    simp
theorem deeps_le {d : Nat} : ∀ {cs : List TaleD}, deeps cs ≤ d ↔ ∀ c ∈ cs, c.depth ≤ d
  | [] => by simp [deeps]
  | c :: cs => by
    have := deeps_le (d := d) (cs := cs)
    rw [deeps]
    simp only [List.forall_mem_cons, ← this]
    omega
theorem texts_map : ∀ {cs : List TaleD}, texts cs = cs.map TaleD.text
  | [] => by simp [texts]
  | c :: cs => by rw [texts, texts_map]; rfl
theorem counts_sum : ∀ {cs : List TaleD}, counts cs = (cs.map TaleD.count).sum
  | [] => by simp [counts]
  | c :: cs => by rw [counts, counts_sum]; rfl
theorem count_pos : ∀ t : TaleD, 1 ≤ t.count
  | .mk _ _ _ cs => by rw [TaleD.count]; omega
theorem depth_pos : ∀ t : TaleD, 1 ≤ t.depth
  | .mk _ _ _ cs => by rw [TaleD.depth]; omega
mutual
theorem depth_count : ∀ t : TaleD, t.depth ≤ t.count
  | .mk _ _ _ cs => by
    rw [TaleD.depth, TaleD.count]
    have := deeps_counts cs
    omega
theorem deeps_counts : ∀ cs : List TaleD, deeps cs ≤ counts cs
  | [] => by simp [deeps]
  | c :: cs => by
    rw [deeps, counts]
    have := depth_count c
    have := deeps_counts cs
    omega
end
theorem counts_len : ∀ cs : List TaleD, cs.length ≤ counts cs
  | [] => Nat.zero_le _
  | c :: cs => by
    rw [counts, List.length_cons]
    have := count_pos c
    have := counts_len cs
    omega
theorem count_mem : ∀ {cs : List TaleD} {c : TaleD}, c ∈ cs → c.count ≤ counts cs
  | c :: cs, x, h => by
    rw [counts]
    rcases List.mem_cons.mp h with rfl | h
    · omega
    · have := count_mem h
      omega
/-! ### how long -/
theorem digit_len {k : Nat} (h : k ≤ 1) : (toString ((k : Nat) : Int) : Str).length = 1 := by
  obtain rfl | rfl : k = 0 ∨ k = 1 := by omega
  · decide +kernel
  · decide +kernel
theorem headS_len {h : Str} {k : Nat} {f : Bool} (nh : isName h = true) (hk : k ≤ 1) : (headS h k f).length ≤ 9 := by
  have h6 := isName_len nh
  have h1 := digit_len hk
  have l1 : ("." : Str).length = 1 := rfl
  have l2 : ("!" : Str).length = 1 := rfl
  unfold headS
  split <;> (simp only [slen]; omega)
theorem join_len (ys : List Str) : (Txt.join " " ys).length ≤ (ys.map fun z => z.length + 1).sum := by
  have e : ∀ zs : List Str, (zs.map fun z => z.length + 1).sum = (zs.map (·.length)).sum + zs.length := by
    intro zs
    induction zs with
    | nil => rfl
    | cons z zs ih => simp only [List.map_cons, List.sum_cons, ih, List.length_cons]; omega
  have h := StrLaws.join_length_le " " ys
  have l1 : (" " : Str).length = 1 := rfl
  rw [TL.join_eq, e]
  rw [l1, Nat.mul_one] at h
  exact h
mutual
theorem text_le : ∀ t : TaleD, t.Ok → t.text.length + 1 ≤ 12 * t.count
  | .mk h k f cs, g => by
    rw [TaleD.Ok] at g
    have hl := headS_len (f := f) g.1 g.2.1
    have ht := texts_le cs g.2.2
    have l1 : ("(" : Str).length = 1 := rfl
    have l2 : (")" : Str).length = 1 := rfl
    rw [TaleD.text, TaleD.count]
    split
    · omega
    · simp only [slen]
      have := join_len (texts cs)
      omega
theorem texts_le : ∀ cs : List TaleD, Oks cs → ((texts cs).map fun z => z.length + 1).sum ≤ 12 * counts cs
  | [], _ => by simp [texts]
  | c :: cs, g => by
    rw [Oks] at g
    rw [texts, counts]
    have h1 := text_le c g.1
    have h2 := texts_le cs g.2
    simp only [List.map_cons, List.sum_cons]
    omega
end
section
variable {J : It} {H1 : Hp} {g : TG} {tt : TT} {te : TE} {vs : List Nat} {σ : L2.St} {D : Addr} {Qd : Hp → Prop}
/-- things that stand for data, each by itself -/
theorem lc_row {α : Type} {ds : List α} {os : List Addr} (st : Std no J H1 (os.map V.ref)) (hD : H1 D = none) (f : α → V) (len : os.length = ds.length) (hl : ds.length ≤ 1000)
    (hs : ∀ (i : Nat) (o : Addr) (a : α) (H : Hp) (Nx : Hp → Prop), os[i]? = some o → ds[i]? = some a → Ext H1 H → (∀ H4, Ext H H4 → ∃ acc, H4 D = some (.lst acc) ∧ acc.length < sizeLine ∧ Nx (upd H4 D (.lst (acc ++ [f a])))) →
      g (.ref o) (wipe σ vs) H fun σ2 H2 => wipe σ2 vs = wipe σ vs ∧ tt σ2 H2 fun b H3 =>
        if b = true then te σ2 H3 fun y H4 => ∃ acc, H4 D = some (.lst acc) ∧ acc.length < sizeLine ∧ Nx (upd H4 D (.lst (acc ++ [y]))) else Nx H3)
    (hd : ∀ H, Ext H1 H → H D = some (.lst (ds.map f)) → Qd H) :
    ∃ W : Nat → Nat → Hp → Prop, (∃ m, W 0 m (upd H1 D (.lst []))) ∧ ∀ i m H, W i m H →
      (J.stop i H ∧ Qd H) ∨ (J.go i H ∧ ∃ Nx : Hp → Prop, (∀ H', Nx H' → ∃ m', m' < m ∧ W (i + 1) m' H') ∧ ∀ x H', J.yld i H x H' → g x (wipe σ vs) H' fun σ2 H2 => wipe σ2 vs = wipe σ vs ∧ tt σ2 H2 fun b H3 =>
        if b = true then te σ2 H3 fun y H4 => ∃ acc, H4 D = some (.lst acc) ∧ acc.length < sizeLine ∧ Nx (upd H4 D (.lst (acc ++ [y]))) else Nx H3) := by
  refine lc_std st (fun i H => Ext H1 H ∧ H D = some (.lst ((ds.take i).map f))) ⟨ext_new hD, upd_same⟩ (fun i H h => .ext h.1) (fun i x H e ⟨ex, eD⟩ => ?_) (fun H h => ?_)
  · rw [List.getElem?_map] at e
    cases ho : os[i]? with
    | none => rw [ho] at e; cases e
    | some o =>
      rw [ho] at e
      obtain rfl : V.ref o = x := Option.some.inj e
      have hi : i < ds.length := by have := (List.getElem?_eq_some_iff.mp ho).1; omega
      have ha := List.getElem?_eq_getElem hi
      refine hs i o _ H _ ho ha ex (fun H4 e4 => ⟨_, e4 _ _ eD, ?_, fun a u h => ?_, ?_⟩)
      · have := List.length_take_le' i ds
        have := line1001
        rw [List.length_map]
        omega
      · rw [upd_ne (ne_of_none h hD)]
        exact e4 _ _ (ex _ _ h)
      · rw [upd_same, List.take_add_one, ha, List.map_append]
        rfl
  · refine hd H h.1 ?_
    rw [h.2, List.length_map, len, List.take_length]
end
theorem szB {n : Nat} (h : n ≤ 1000000) : n ≤ sizeLine := Nat.le_trans h (by rw [sizeLine_eq]; decide)
theorem emp_app (z : Str) : Str.empty ++ z = z := TL.ext_tl (by rw [TL.tl_append]; rfl)
theorem app_emp (z : Str) : z ++ ("" : Str) = z := TL.ext_tl (by rw [TL.tl_append]; exact List.append_nil _)
end Ws

set_option Elab.async false
set_option linter.all false
set_option maxRecDepth 100000
set_option maxHeartbeats 4000000
namespace Ws
open PySem PySem.Spec PyProof.Rows L2
theorem for_enumT {S : Addr → Prop} {K : PySem.W.Frag} {a : Addr} {H0 : Hp} {xs : List V} {g : TG} {tb : TS} {D : Ends} {σ : L2.St} {H : Hp} (ha : H0 a = some (.tup xs)) (na : ¬ S a) (Pv : Nat → L2.St → Hp → Prop) (h0 : Pv 0 σ H) (hk : ∀ i σ H, Pv i σ H → Kp S H0 H)
    (hs : ∀ i x σ H T, xs[i]? = some x → Pv i σ H → H T = none → g (.ref T) σ (upd H T (.tup [.int (i : Nat), x])) fun σ2 H2 => tb { D with nx := Pv (i + 1), ct := Pv (i + 1), bk := D.nx } σ2 H2) (hd : ∀ σ H, Pv xs.length σ H → D.nx σ H) :
    ∃ W : Nat → Nat → L2.St → Hp → Prop, (∃ m, W 0 m σ H) ∧ ∀ i m σ H, W i m σ H →
      ((IteT K a).stop i H ∧ D.nx σ H) ∨ ((IteT K a).go i H ∧ ∃ N : L2.St → Hp → Prop, (∀ σ' H', N σ' H' → ∃ m', m' < m ∧ W (i + 1) m' σ' H') ∧ ∀ x H', (IteT K a).yld i H x H' → g x σ H' fun σ2 H2 => tb { D with nx := N, ct := N, bk := D.nx } σ2 H2) := by
  refine ⟨fun i m σ H => m = xs.length - i ∧ i ≤ xs.length ∧ Pv i σ H, ⟨_, rfl, Nat.zero_le _, h0⟩, fun i m σ H ⟨em, le, h⟩ => ?_⟩
  have at' : SqT K H a xs := .of ((hk _ _ _ h).keep _ _ ha na)
  by_cases e : i = xs.length
  · exact .inl ⟨⟨xs, at', by omega⟩, hd σ H (e ▸ h)⟩
  · have hx := List.getElem?_eq_getElem (show i < xs.length by omega)
    refine .inr ⟨⟨xs, _, at', hx⟩, fun σ' H' => Pv (i + 1) σ' H', fun σ' H' h' => ⟨_, by omega, rfl, by omega, h'⟩, fun x H' ⟨T, z, e1, nT, e2, hz⟩ => ?_⟩
    subst e1 e2
    exact hs i z σ _ T (hz xs at') h nT
section
variable {P : Program} {w : World} {K : PySem.W.Frag} {mg : Str → Option Value} {base : Heap}
def sp_is_call (K : PySem.W.Frag) : Sp := fun vs H Q _ => ∃ (S : Addr → Prop) (o a b : Addr) (n : NetD) (h : Str) (k : Nat) (f : Bool) (bs : List V), vs = [.ref o, .ref a] ∧ NetAt S K H o n ∧ H a = some (.tup [.str h, .int (k : Nat), .bl f, .ref b]) ∧ H b = some (.tup bs) ∧
  h ∈ n.names ∧ k < (getH n.houses h).rules.length ∧ (f = true → (getH n.houses h).fails = true) ∧ ∀ H', Ext H H' → Q (.bl true) H'
theorem sc_is_call : FnScope ["net", "thing", "house", "rule", "faulty", "calls"] ["net", "thing"] (defScope s_is_call) := ⟨rfl, rfl, rfl, by decide +kernel, rfl, by decide +kernel, by decide +kernel⟩
theorem ok_is_call (x : Fx K mg w) : FnR P w K mg base CX0 5 (a_is_call K) (sp_is_call K) := by
  refine okR x.F_is_call sc_is_call (fun _ _ _ _ _ _ us hl => match us, hl with | [_, _], _ => rfl) (fun vs H Q E h => by obtain ⟨S, o, a, b, n, h, k, f, bs, rfl, t, ha, hb, hn, hk, hf, hQ⟩ := h; rfl) (fun cdv A outer s H vs Q E hr h => ?_)
  obtain ⟨S, o, a, b, n, h, k, f, bs, rfl, t, ha, hb, hn, hk, hf, hQ⟩ := h
  refine ⟨_, (pss_cons (ps_if (PW.pt (pw_or (pt_not (pt_val (pe_callB (r := rIsi K) call_isi rfl x.n_isinstance bb_isinstance (pa_cons (pv 1) (pa_cons (pe_gT x.n_tuple (by rfl) rfl) pa_nil))))) (pw_or (pt_cmpR op_ne (pe_callB (r := rLenK K) call_lenK rfl x.n_len bb_len (pa_cons (pv 1) pa_nil)) pe_int (nomark _)) (pw_or1 (pt_cmpR (op_notInI x.sp_Net_contains x.fn_Net_contains (ok_Net_contains x) (hr.mono (by decide)) pass0) (pe_ix (r := rIxT K) ix_tup (pv 1) pe_int (fun _ _ => rfl)) (pv 0) rfl)))))
 (pss_one (ps_ret pe_bl))
 pss_nil)
 (pss_cons (ps_asg (pv 1) (pg_tupK (K := K) (n := 4) rfl rfl (pgs_cons (pg_name (i := 2) sc_is_call.nd rfl (Or.inl rfl)) (pgs_cons (pg_name (i := 3) sc_is_call.nd rfl (Or.inl rfl)) (pgs_cons (pg_name (i := 4) sc_is_call.nd rfl (Or.inl rfl)) (pgs_cons (pg_name (i := 5) sc_is_call.nd rfl (Or.inl rfl)) pgs_nil))))))
 (pss_cons (ps_if (PW.pt (pw_or (pt_not (pt_val (pe_callR (ok_is_number x) (hr.mono (by decide)) rfl x.m_is_number (keep_of x.F_is_number) pass0 (pa_cons (pv 3) pa_nil)))) (pw_or1 (pt_not (pt_chain op_le op_lt pe_int (pv 3) (pe_callB (r := rLenK K) call_lenK rfl x.n_len bb_len (pa_cons (pe_propR (pe_getI x.sp_Net_getitem x.fi_Net_getitem x.fn_Net_getitem (ok_Net_getitem x) (hr.mono (by decide)) pass0 (pv 0) (pv 2)) x.cl_House x.p_House_rules (ok_House_rules x) (hr.mono (by decide)) pass0) pa_nil)))))))
 (pss_one (ps_ret pe_bl))
 pss_nil)
 (pss_one (ps_ret (pe_and (pe_callB (r := rIsi K) call_isi rfl x.n_isinstance bb_isinstance (pa_cons (pv 4) (pa_cons (pe_gT x.n_bool (by rfl) rfl) pa_nil))) (pe_and (pe_or (pe_propR (pe_getI x.sp_Net_getitem x.fi_Net_getitem x.fn_Net_getitem (ok_Net_getitem x) (hr.mono (by decide)) pass0 (pv 0) (pv 2)) x.cl_House x.p_House_fails (ok_House_fails x) (hr.mono (by decide)) pass0) (pe_one (pe_not (pv 4)))) (pe_one (pe_callB (r := rIsi K) call_isi rfl x.n_isinstance bb_isinstance (pa_cons (pv 5) (pa_cons (pe_gT x.n_tuple (by rfl) rfl) pa_nil))))))))))), ?_⟩
  obtain ⟨fit, s1, s2, dx, ph, pe, kvs, g1, g2, g3, g4⟩ := id t
  refine ⟨_, rfl, _, _, _, _, true, rfl, .ty _, .base (.tup ha), kit_ty (by decide +kernel), true, rfl, ifF rfl ?_⟩
  refine ⟨_, rfl, _, 4, rfl, .inr ⟨_, .of ha, rfl⟩, rfl, _, rfl, ifF (by simp) ?_⟩
  refine ⟨_, rfl, a, _, 0, _, rfl, rfl, SqT.of ha, atI_nat (j := 0) rfl, _, rfl, o, dx, _, rfl, g1.1, S, o, n, h, rfl, t, _, rfl, _, rfl, ifF (by simp [hn]) ?_⟩
  refine ⟨_, rfl, a, _, rfl, SqT.of ha, rfl, _, _, rfl, _, _, rfl, _, _, rfl, _, _, rfl, rfl, ?_⟩
  dsimp only [gName]
  refine ⟨_, rfl, _, rfl, true, rfl, ifF rfl ?_⟩
  refine ⟨_, rfl, _, _, rfl, rfl, true, by simp, ifT rfl ⟨_, rfl, _, rfl, o, dx, _, rfl, g1.1, S, o, n, h, rfl, t, hn, fun ho th => ?_⟩⟩
  obtain ⟨hfit, t1, t2, hdx, pr, pc, pl, os, q1, q2, q3, q4, q5⟩ := id th
  refine ⟨ho, hdx, _, rfl, q1.1, S, ho, _, rfl, th, fun p os hp hr => ⟨_, _, rfl, .inr ⟨_, .of hp.1, rfl⟩, _, _, rfl, rfl, _, rfl, ifF ?_ ?_⟩⟩
  · rw [List.length_map, Paired.length hr]
    simp [hk]
  refine ⟨_, rfl, _, _, _, _, true, rfl, .ty _, .base (.bl f), kit_ty (by decide +kernel), true, rfl, ifT rfl ?_⟩
  refine ⟨_, rfl, _, rfl, o, dx, _, rfl, g1.1, S, o, n, h, rfl, t, hn, fun ho' th' => ?_⟩
  obtain ⟨_, _, _, hdx', _, _, _, _, q1', _⟩ := id th'
  refine ⟨ho', hdx', _, rfl, q1'.1, S, ho', _, rfl, th', _, rfl, ifb (fun hff => ?_) fun hff => ?_⟩
  · exact ⟨true, rfl, ifT rfl ⟨_, rfl, _, _, _, _, true, rfl, .ty _, .base (.tup hb), kit_ty (by decide +kernel), hQ H Ext.rfl'⟩⟩
  · have ff : f = false := by
      cases f with
      | false => rfl
      | true => rw [hf rfl] at hff; cases hff
    subst ff
    exact ⟨_, rfl, _, rfl, true, rfl, ifT rfl ⟨_, rfl, _, _, _, _, true, rfl, .ty _, .base (.tup hb), kit_ty (by decide +kernel), hQ H Ext.rfl'⟩⟩
def pathV (p : List Nat) : List V := p.map fun i => V.int (i : Nat)
def sp_wrong_call (K : PySem.W.Frag) (d : Nat) : Sp := fun vs H Q _ => ∃ (S : Addr → Prop) (o p a q : Addr) (n : NetD) (hs : List Str) (t : TaleD) (path : List Nat), vs = [.ref o, .ref p, .ref a, .ref q] ∧ NetAt S K H o n ∧ H p = some (.tup (pathV path)) ∧ path.length + d ≤ 1000 ∧
  H q = some (.tup (hs.map V.str)) ∧ TaleAt S H t a ∧ t.Of n hs ∧ t.depth ≤ d ∧ t.count ≤ 1000 ∧ ∀ l H', Ext H H' → H' l = some (.lst []) → Q (.ref l) H'
theorem z_wrong_call {vs : List V} {H : Hp} {Q : VK} {E : XK} (h : sp_wrong_call K 0 vs H Q E) : False := by
  obtain ⟨_, _, _, _, _, _, _, t, _, _, _, _, _, _, _, _, hd, _⟩ := h
  have := depth_pos t
  omega
theorem sc_wrong_call : FnScope ["net", "path", "thing", "houses", "at", "call", "found"] ["net", "path", "thing", "houses"] (defScope s_wrong_call) := ⟨rfl, rfl, rfl, by decide +kernel, rfl, by decide +kernel, by decide +kernel⟩
theorem st_wrong_call (x : Fx K mg w) (d : Nat) (ih : FnR P w K mg base CX0 (5 + d) (a_wrong_call K) (sp_wrong_call K d)) : FnR P w K mg base CX0 (5 + d + 1) (a_wrong_call K) (sp_wrong_call K (d + 1)) := by
  refine okR x.F_wrong_call sc_wrong_call (fun _ _ _ _ _ _ us hl => match us, hl with | [_, _, _, _], _ => rfl) (fun vs H Q E h => by obtain ⟨S, o, p, a, q, n, hs, t, path, rfl, tn, hp, hl, hq, ta, tof, td, tc, hQ⟩ := h; rfl) (fun cdv A outer s H vs Q E hr h => ?_)
  obtain ⟨S, o, p, a, q, n, hs, t, path, rfl, tn, hp, hl, hq, ta, tof, td, tc, hQ⟩ := h
  refine ⟨_, (pss_cons (ps_if (PW.pt (pw_or (pt_not (pt_val (pe_callR (ok_is_call x) (hr.mono (by omega)) rfl x.m_is_call (keep_of x.F_is_call) pass0 (pa_cons (pv 0) (pa_cons (pv 2) pa_nil))))) (pw_or1 (pt_cmpR (show OpR _ _ (rIn K true) from op_notIn_seq) (pe_ix (r := rIxT K) ix_tup (pv 2) pe_int (fun _ _ => rfl)) (pv 3) rfl))))
 (pss_one (ps_ret (pe_lst (pa_cons (pv 1) pa_nil))))
 pss_nil)
 (pss_cons (ps_for PassesOwn.never rfl (pi_enumT rfl x.n_enumerate (pa_cons (pe_ix (r := rIxT K) ix_tup (pv 2) pe_int (fun _ _ => rfl)) pa_nil)) (pg_tupK (K := K) (n := 2) rfl rfl (pgs_cons (pg_name (i := 4) sc_wrong_call.nd rfl (Or.inl rfl)) (pgs_cons (pg_name (i := 5) sc_wrong_call.nd rfl (Or.inl rfl)) pgs_nil)))
 (pss_cons (ps_set (i := 6) sc_wrong_call.nd rfl (Or.inl rfl) (pe_callR ih (hr.mono (by omega)) rfl x.m_wrong_call (keep_of x.F_wrong_call) pass0 (pa_cons (pv 0) (pa_cons (pe_tup (pa_starK (K := K) rfl (pv 1) (pa_cons (pv 4) pa_nil))) (pa_cons (pv 5) (pa_cons (pe_propR (pe_getI x.sp_Net_getitem x.fi_Net_getitem x.fn_Net_getitem (ok_Net_getitem x) (hr.mono (by omega)) pass0 (pv 0) (pe_ix (r := rIxT K) ix_tup (pv 2) pe_int (fun _ _ => rfl))) x.cl_House x.p_House_calls (ok_House_calls x) (hr.mono (by omega)) pass0) pa_nil))))))
 (pss_one (ps_if (pt_cmpR (show OpR _ _ (rEqNil K true) from op_neNil hr) (pv 6) (pe_lst pa_nil) (nomark _))
 (pss_one (ps_ret (pv 6)))
 pss_nil))))
 (pss_one (ps_ret (pe_lst pa_nil))))), ?_⟩
  obtain ⟨h, k, f, cs⟩ := t
  obtain ⟨b, bs, ha, hb, hcs⟩ := id ta
  obtain ⟨o1, o2, o3, o4, o5⟩ := id tof
  rw [TaleD.depth] at td
  rw [TaleD.count] at tc
  refine ⟨_, rfl, _, rfl, S, o, a, b, n, h, k, f, _, rfl, tn, ha.1, hb.1, o2, o3, o4, fun H1 e1 => ⟨true, rfl, ifF rfl ?_⟩⟩
  refine ⟨_, rfl, a, _, 0, _, rfl, rfl, SqT.of (e1 _ _ ha.1), atI_nat (j := 0) rfl, _, rfl, q, _, rfl, .inr (.of (e1 _ _ hq)), rfl, flat_strs _, _, rfl, ?_⟩
  refine ifF (by rw [inV_str]; simp [o1]) ?_
  have lcs : bs.length = cs.length := Paired.length (talesAt_paired.mp hcs)
  refine ⟨_, rfl, a, _, 3, _, rfl, rfl, SqT.of (e1 _ _ ha.1), atI_nat (j := 3) rfl, b, _, rfl, SqT.of (e1 _ _ hb.1), for_enumT (S := no) (e1 _ _ hb.1) (fun z => z)
    (fun i σ H' => Ext H1 H' ∧ ∃ v4 v5 v6, σ = [some (.ref o), some (.ref p), some (.ref a), some (.ref q), v4, v5, v6]) ⟨Ext.rfl', none, none, none, rfl⟩ (fun i σ H h => .ext h.1) (fun i y σ H2 T hy ⟨e2, v4, v5, v6, hσ⟩ nT => ?_) (fun σ H2 ⟨e2, v4, v5, v6, hσ⟩ => ?_)⟩
  · subst hσ
    obtain ⟨c, hc, rfl⟩ : ∃ c, bs[i]? = some c ∧ y = .ref c := by
      rw [List.getElem?_map] at hy
      cases z : bs[i]? with
      | none => rw [z] at hy; cases hy
      | some c => rw [z] at hy; exact ⟨c, rfl, (Option.some.inj hy).symm⟩
    obtain ⟨u, hu1, hu2⟩ := paired_at (talesAt_paired.mp hcs) hc
    have um := List.mem_of_getElem? hu1
    have il : i < cs.length := (List.getElem?_eq_some_iff.mp hu1).1
    have lcn := counts_len cs
    have e3 : Ext H2 (upd H2 T (.tup [.int (i : Nat), .ref c])) := ext_new nT
    have hT : (upd H2 T (.tup [.int (i : Nat), .ref c])) T = some (.tup [.int (i : Nat), .ref c]) := upd_same
    generalize upd H2 T (.tup [.int (i : Nat), .ref c]) = H3 at e3 hT
    have e03 : Ext H H3 := (e1.trans e2).trans e3
    refine ⟨T, _, rfl, SqT.of hT, rfl, _, _, rfl, _, _, rfl, rfl, ?_⟩
    dsimp only [gName]
    refine ⟨_, rfl, _, rfl, p, _, rfl, .inl (.of (e03 _ _ hp)), _, rfl, sz (m := 1000) (by simp [pathV]; omega), fun pn npn => ?_⟩
    have e4 : Ext H3 (upd H3 pn (.tup (pathV (path ++ [i])))) := ext_new npn
    have hpn : (upd H3 pn (.tup (pathV (path ++ [i])))) pn = some (.tup (pathV (path ++ [i]))) := upd_same
    have ep : pathV path ++ [V.int (i : Nat)] = pathV (path ++ [i]) := by simp [pathV]
    rw [ep]
    generalize upd H3 pn (.tup (pathV (path ++ [i]))) = H4 at e4 hpn ⊢
    have e04 := e03.trans e4
    obtain ⟨_, _, _, dx, _, _, _, g1, _⟩ := id (tn.ext e04)
    refine ⟨_, rfl, _, rfl, _, rfl, a, _, 0, _, rfl, rfl, SqT.of (e04 _ _ ha.1), atI_nat (j := 0) rfl, o, dx, _, rfl, g1.1, S, o, n, h, rfl, tn.ext e04, o2, fun ho th => ?_⟩
    obtain ⟨_, _, _, hdx, _, _, _, _, q1, _⟩ := id th
    refine ⟨ho, hdx, _, rfl, q1.1, S, ho, _, rfl, th, fun pc hpc => ?_⟩
    refine ⟨S, o, pn, c, pc, n, (getH n.houses h).calls, u, path ++ [i], rfl, tn.ext e04, hpn, by simp; omega, hpc.1, hu2.ext e04, ofAll_iff.mp o5 u um, deeps_le.mp (by omega) u um, by have := count_mem um; omega, fun l H5 e5 hl => ?_⟩
    dsimp only [gName]
    refine ⟨_, rfl, by simp [sizeLine_eq], fun l2 n2 => ⟨l, l2, [], rfl, rfl, .of (ext_new n2 _ _ hl), .of upd_same, _, rfl, ifF rfl ?_⟩⟩
    exact ⟨e2.trans (e3.trans (e4.trans (e5.trans (ext_new n2)))), _, _, _, rfl⟩
  · subst hσ
    exact ⟨by simp [sizeLine_eq], fun l nl => hQ l _ ((e1.trans e2).trans (ext_new nl)) upd_same⟩
theorem ok_wrong_call (x : Fx K mg w) : ∀ d : Nat, FnR P w K mg base CX0 (5 + d) (a_wrong_call K) (sp_wrong_call K d)
  | 0 => fun _ _ _ _ _ _ _ _ _ _ _ h => (z_wrong_call h).elim
  | d + 1 => st_wrong_call x d (ok_wrong_call x d)
def sp_need_story (K : PySem.W.Frag) : Sp := fun vs H Q _ => ∃ (S : Addr → Prop) (o a : Addr) (n : NetD) (t : TaleD), vs = [.ref o, .ref a] ∧ NetAt S K H o n ∧ TaleAt S H t a ∧ t.Of n n.entries ∧ t.depth ≤ 31 ∧ t.count ≤ 1000 ∧ ∀ H', Ext H H' → Q .non H'
theorem sc_need_story : FnScope ["net", "story", "found"] ["net", "story"] (defScope s_need_story) := ⟨rfl, rfl, rfl, by decide +kernel, rfl, by decide +kernel, by decide +kernel⟩
theorem ok_need_story (x : Fx K mg w) : FnR P w K mg base CX0 37 (a_need_story K) (sp_need_story K) := by
  refine okR x.F_need_story sc_need_story (fun _ _ _ _ _ _ us hl => match us, hl with | [_, _], _ => rfl) (fun vs H Q E h => by obtain ⟨S, o, a, n, t, rfl, tn, ta, tof, td, tc, hQ⟩ := h; rfl) (fun cdv A outer s H vs Q E hr h => ?_)
  obtain ⟨S, o, a, n, t, rfl, tn, ta, tof, td, tc, hQ⟩ := h
  refine ⟨_, (pss_cons (ps_set (i := 2) sc_need_story.nd rfl (Or.inl rfl) (pe_callR (ok_wrong_call x 31) (hr.mono (by decide)) rfl x.m_wrong_call (keep_of x.F_wrong_call) pass0 (pa_cons (pv 0) (pa_cons (pe_tup pa_nil) (pa_cons (pv 1) (pa_cons (pe_propR (pv 0) x.cl_Net x.p_Net_entries (ok_Net_entries x) (hr.mono (by decide)) pass0) pa_nil))))))
 (pss_one (ps_if (pt_cmpR (show OpR _ _ (rEqNil K true) from op_neNil hr) (pv 2) (pe_lst pa_nil) (nomark _))
 (pss_one ps_never)
 pss_nil))), ?_⟩
  obtain ⟨fit, s1, s2, dx, ph, pe, kvs, g1, g2, g3, g4⟩ := id tn
  refine ⟨_, rfl, by simp [sizeLine_eq], fun p np => ?_⟩
  have e1 : Ext H (upd H p (.tup [])) := ext_new np
  have hp : (upd H p (.tup [])) p = some (.tup []) := upd_same
  generalize upd H p (.tup []) = H1 at e1 hp ⊢
  refine ⟨_, rfl, _, rfl, o, dx, _, rfl, e1 _ _ g1.1, S, o, n, rfl, tn.ext e1, fun pe' hpe => ?_⟩
  refine ⟨S, o, p, a, pe', n, n.entries, t, [], rfl, tn.ext e1, hp, by decide, hpe.1, ta.ext e1, tof, td, tc, fun l H2 e2 hl => ?_⟩
  refine ⟨_, rfl, by simp [sizeLine_eq], fun l2 n2 => ⟨l, l2, [], rfl, rfl, .of (ext_new n2 _ _ hl), .of upd_same, _, rfl, ifF rfl ?_⟩⟩
  exact hQ _ (e1.trans (e2.trans (ext_new n2)))
end
end Ws

set_option Elab.async false
set_option linter.all false
set_option maxRecDepth 100000
set_option maxHeartbeats 4000000
namespace Ws
open PySem PySem.Spec PyProof.Rows L2
section
variable {P : Program} {w : World} {K : PySem.W.Frag} {mg : Str → Option Value} {base : Heap}
def sp_call_text (K : PySem.W.Frag) (d : Nat) : Sp := fun vs H Q _ => ∃ (S : Addr → Prop) (a : Addr) (t : TaleD), vs = [.ref a] ∧ TaleAt S H t a ∧ t.Ok ∧ t.depth ≤ d ∧ t.count ≤ 1000 ∧ ∀ H', Ext H H' → Q (.str t.text) H'
theorem z_call_text {K : PySem.W.Frag} {vs : List V} {H : Hp} {Q : VK} {E : XK} (h : sp_call_text K 0 vs H Q E) : False := by
  obtain ⟨_, _, t, _, _, _, hd, _⟩ := h
  have := depth_pos t
  omega
theorem sc_call_text : FnScope ["call", "house", "number", "faulty", "calls", "head", "inner", "one"] ["call"] (defScope s_call_text) := ⟨rfl, rfl, rfl, by decide +kernel, rfl, by decide +kernel, by decide +kernel⟩
theorem st_call_text (x : Fx K mg w) (d : Nat) (ih : FnR P w K mg base CX0 (0 + d) (a_call_text K) (sp_call_text K d)) : FnR P w K mg base CX0 (0 + d + 1) (a_call_text K) (sp_call_text K (d + 1)) := by
  refine okR x.F_call_text sc_call_text (fun _ _ _ _ _ _ us hl => match us, hl with | [_], _ => rfl) (fun vs H Q E h => by obtain ⟨S, a, t, rfl, ta, ok, td, tc, hQ⟩ := h; rfl) (fun cdv A outer s H vs Q E hr h => ?_)
  obtain ⟨S, a, t, rfl, ta, ok, td, tc, hQ⟩ := h
  refine ⟨_, (pss_cons (ps_asg (pv 0) (pg_tupK (K := K) (n := 4) rfl rfl (pgs_cons (pg_name (i := 1) sc_call_text.nd rfl (Or.inl rfl)) (pgs_cons (pg_name (i := 2) sc_call_text.nd rfl (Or.inl rfl)) (pgs_cons (pg_name (i := 3) sc_call_text.nd rfl (Or.inl rfl)) (pgs_cons (pg_name (i := 4) sc_call_text.nd rfl (Or.inl rfl)) pgs_nil))))))
 (pss_cons (ps_set (i := 5) sc_call_text.nd rfl (Or.inl rfl) (pe_ifExp (pt_val (pv 3)) (pe_joined (PJ.cons (pe_fmt (pv 1)) (PJ.cons pe_str (PJ.cons (pe_fmt (pv 2)) (PJ.cons pe_str PJ.nil))))) (pe_joined (PJ.cons (pe_fmt (pv 1)) (PJ.cons pe_str (PJ.cons (pe_fmt (pv 2)) PJ.nil))))))
 (pss_cons (ps_if (pt_cmpR (show OpR _ _ (rEqTN K false) from op_eqTN hr) (pv 4) (pe_tup pa_nil) (nomark _))
 (pss_one (ps_ret (pv 5)))
 pss_nil)
 (pss_cons (ps_set (i := 6) sc_call_text.nd rfl (Or.inl rfl) (pe_joinK (K := K) rfl pe_str (pe_lc (own := [("one", 7)]) (tt := tYes) rfl sc_call_text.nd (pi_tupK (K := K) rfl (pv 4)) (blkOk_by (N := ["call", "house", "number", "faulty", "calls", "head", "inner", "one"]) (sc := defScope s_call_text) (by decide +kernel)) (fun _ _ _ _ _ => (pg_name (i := 7) sc_call_text.nd rfl (Or.inl rfl))) (fun _ _ _ _ _ => pts_nil) (fun _ _ _ _ _ => (pe_callR ih (hr.mono (by omega)) rfl x.m_call_text (keep_of x.F_call_text) pass0 (pa_cons (pv 7) pa_nil))))))
 (pss_one (ps_ret (pe_joined (PJ.cons (pe_fmt (pv 5)) (PJ.cons pe_str (PJ.cons (pe_fmt (pv 6)) (PJ.cons pe_str PJ.nil))))))))))), ?_⟩
  obtain ⟨h, k, f, cs⟩ := t
  obtain ⟨b, bs, ha, hb, hcs⟩ := id ta
  have okc := ok
  rw [TaleD.Ok] at okc
  obtain ⟨o1, o2, o3⟩ := okc
  have okt := text_le _ ok
  rw [TaleD.depth] at td
  have tcc := tc
  rw [TaleD.count] at tcc
  have tx : (TaleD.mk h k f cs).text = if cs.isEmpty = true then headS h k f else ((headS h k f ++ "(") ++ Txt.join " " (texts cs)) ++ ")" := by rw [TaleD.text]
  have hl := headS_len (f := f) o1 o2
  have h6 := isName_len o1
  have d1 := digit_len o2
  have lD : ("." : Str).length = 1 := rfl
  have lX : ("!" : Str).length = 1 := rfl
  have l0 : Str.empty.length = 0 := rfl
  have log_k : ((k : Nat) : Int).natAbs.log2 < 1920 := Nat.lt_of_le_of_lt (Nat.log2_le_self _) (by omega)
  refine ⟨_, rfl, a, _, rfl, SqT.of ha.1, rfl, _, _, rfl, _, _, rfl, _, _, rfl, _, _, rfl, rfl, ?_⟩
  dsimp only [gName]
  refine seq_cut (fun σ' H' => H = H' ∧ σ' = [some (.ref a), some (.str h), some (.int (k : Nat)), some (.bl f), some (.ref b), some (.str (headS h k f)), none, none]) ?_ fun tail => ?_
  · rintro σ' H' ⟨rfl, rfl⟩
    have lcs : bs.length = cs.length := Paired.length (talesAt_paired.mp hcs)
    refine ⟨_, rfl, by simp [sizeLine_eq], fun l2 n2 => ?_⟩
    have e2 : Ext H (upd H l2 (.tup [])) := ext_new n2
    refine ⟨b, l2, _, rfl, rfl, .of (e2 _ _ hb.1), .of upd_same, _, rfl, ?_⟩
    generalize upd H l2 (.tup []) = H1 at e2
    refine ifb (fun q => ?_) fun q => ?_
    · have hc : cs = [] := by
        cases cs with
        | nil => rfl
        | cons c cs => cases bs with
          | nil => cases lcs
          | cons b bs => cases q
      refine ⟨_, rfl, ?_⟩
      have := hQ H1 e2
      rw [tx, hc] at this
      exact this
    · have hc : cs.isEmpty = false := by
        cases cs with
        | nil => cases bs with
          | nil => cases q
          | cons b bs => cases lcs
        | cons c cs => rfl
      rw [if_neg (by rw [hc]; simp)] at tx
      have hb1 := e2 _ _ hb.1
      have lcn := counts_len cs
      have lt := texts_le cs o3
      have lj := join_len (texts cs)
      refine ⟨⟨_, rfl⟩, _, rfl, b, rfl, ⟨_, .of hb1⟩, fun D hD => lc_row (std_tup (.of hb1) fun z => z) hD (fun c : TaleD => V.str c.text) lcs (by omega) (fun i o' u H2 Nx ho hu e3 go => ?_) (fun H2 e3 hD2 => ?_)⟩
      · have um := List.mem_of_getElem? hu
        obtain ⟨u', hu', tu⟩ := paired_at (talesAt_paired.mp hcs) ho
        rw [hu] at hu'
        cases hu'
        refine ⟨rfl, _, rfl, S, o', u, rfl, tu.ext (e2.trans e3), oks_iff.mp o3 u um, deeps_le.mp (by omega) u um, by have := count_mem um; omega, fun H3 e4 => go H3 e4⟩
      · have et : (cs.map fun c : TaleD => V.str c.text) = (texts cs).map V.str := by rw [texts_map, List.map_map]; rfl
        rw [et] at hD2
        have sl : ((texts cs).map (·.length)).sum + (texts cs).length = ((texts cs).map fun z => z.length + 1).sum := by
          generalize texts cs = zs
          induction zs with
          | nil => rfl
          | cons z zs ih => simp only [List.map_cons, List.sum_cons, List.length_cons]; omega
        have lS : (" " : Str).length = 1 := rfl
        refine ⟨" ", D, texts cs, rfl, rfl, .inl (.of hD2), by rw [lS]; omega, ?_⟩
        dsimp only [gName]
        have lO : ("(" : Str).length = 1 := rfl
        have lC : (")" : Str).length = 1 := rfl
        have e : (((Str.empty ++ headS h k f) ++ "(") ++ Txt.join " " (texts cs)) ++ ")" = (TaleD.mk h k f cs).text := by rw [emp_app, tx]
        refine ⟨_, rfl, .inl ⟨_, rfl, szB (by first | omega | (simp only [slen]; omega)), _, rfl, szB (by first | omega | (simp only [slen]; omega)), _, rfl, szB (by first | omega | (simp only [slen]; omega)), _, rfl, .inl ⟨_, rfl, szB (by first | omega | (simp only [slen]; omega)), _, rfl, szB (by first | omega | (simp only [slen]; omega)), _, rfl, szB (by first | omega | (simp only [slen]; omega)), ?_⟩⟩⟩
        rw [e]
        exact hQ _ (e2.trans e3)
  · refine ⟨_, rfl, _, rfl, ifb (fun hf => ?_) fun hf => ?_⟩
    · subst hf
      have e : ((((Str.empty ++ h) ++ ".") ++ (toString ((k : Nat) : Int) : Str)) ++ "!") = headS h k true := by rw [emp_app]; rfl
      refine ⟨_, rfl, .inl ⟨h, rfl, sz (m := 1000) (by first | omega | (simp only [slen]; omega)), _, rfl, sz (m := 1000) (by first | omega | (simp only [slen]; omega)), _, rfl, sz (m := 1000) (by first | omega | (simp only [slen]; omega)), _, rfl, .inr ⟨(k : Nat), rfl, log_k, _, rfl, sz (m := 1000) (by first | omega | (simp only [slen]; omega)), _, rfl, sz (m := 1000) (by first | omega | (simp only [slen]; omega)), ?_⟩⟩⟩
      rw [e]
      exact tail _ _ ⟨rfl, rfl⟩
    · subst hf
      have e : (((Str.empty ++ h) ++ ".") ++ (toString ((k : Nat) : Int) : Str)) = headS h k false := by rw [emp_app]; rfl
      refine ⟨_, rfl, .inl ⟨h, rfl, sz (m := 1000) (by first | omega | (simp only [slen]; omega)), _, rfl, sz (m := 1000) (by first | omega | (simp only [slen]; omega)), _, rfl, sz (m := 1000) (by first | omega | (simp only [slen]; omega)), _, rfl, .inr ⟨(k : Nat), rfl, log_k, _, rfl, sz (m := 1000) (by first | omega | (simp only [slen]; omega)), ?_⟩⟩⟩
      rw [e]
      exact tail _ _ ⟨rfl, rfl⟩
theorem ok_call_text (x : Fx K mg w) : ∀ d : Nat, FnR P w K mg base CX0 (0 + d) (a_call_text K) (sp_call_text K d)
  | 0 => fun _ _ _ _ _ _ _ _ _ _ _ h => (z_call_text h).elim
  | d + 1 => st_call_text x d (ok_call_text x d)
def sp_story_text (K : PySem.W.Frag) : Sp := fun vs H Q _ => ∃ (S : Addr → Prop) (o a : Addr) (n : NetD) (t : TaleD), vs = [.ref o, .ref a] ∧ NetAt S K H o n ∧ TaleAt S H t a ∧ t.Of n n.entries ∧ t.Ok ∧ t.depth ≤ 31 ∧ t.count ≤ 1000 ∧ ∀ H', Ext H H' → Q (.str t.text) H'
theorem sc_story_text : FnScope ["net", "story"] ["net", "story"] (defScope s_story_text) := ⟨rfl, rfl, rfl, by decide +kernel, rfl, by decide +kernel, by decide +kernel⟩
theorem okf_story_text {fd : FuncData} {dvs : List V} (F : FunD K "story_text" "story_text" (defArgs s_story_text) (defBody s_story_text) (defScope s_story_text) dvs [] (a_story_text K) fd) (x : Fx K mg w) : FnOk P w K mg base CX0 38 (a_story_text K) fd ["net", "story"] (sp_story_text K) := by
  refine okFD F sc_story_text (fun vs H Q E h => by obtain ⟨S, o, a, n, t, rfl, tn, ta, tof, ok, td, tc, hQ⟩ := h; rfl) (fun cdv A outer s H vs Q E hr h => ?_)
  obtain ⟨S, o, a, n, t, rfl, tn, ta, tof, ok, td, tc, hQ⟩ := h
  refine ⟨_, (pss_cons (ps_expr (pe_callR (ok_need_net x) (hr.mono (by decide)) rfl x.m_need_net (keep_of x.F_need_net) pass0 (pa_cons (pv 0) pa_nil)))
 (pss_cons (ps_expr (pe_callR (ok_need_story x) (hr.mono (by decide)) rfl x.m_need_story (keep_of x.F_need_story) pass0 (pa_cons (pv 0) (pa_cons (pv 1) pa_nil))))
 (pss_one (ps_ret (pe_callR (ok_call_text x 31) (hr.mono (by decide)) rfl x.m_call_text (keep_of x.F_call_text) pass0 (pa_cons (pv 1) pa_nil)))))), ?_⟩
  refine ⟨_, rfl, S, o, n, rfl, tn, ?_⟩
  refine ⟨_, rfl, _, rfl, S, o, a, n, t, rfl, tn, ta, tof, td, tc, fun H1 e1 => ?_⟩
  exact ⟨_, rfl, S, a, t, rfl, ta.ext e1, ok, td, tc, fun H2 e2 => hQ H2 (e1.trans e2)⟩
theorem ok_story_text (x : Fx K mg w) : FnR P w K mg base CX0 38 (a_story_text K) (sp_story_text K) := by
  obtain ⟨fd, F⟩ := x.F_story_text
  exact FnR.imp ((okf_story_text F x).raw (F.bindsN fun _ _ _ _ _ _ us hl => match us, hl with | [_, _], _ => rfl) .nil) fun vs H Q E h => by rwa [List.append_nil]
theorem okk_story_text (x : Fx K mg w) : FnRK P w K mg base CX0 38 (a_story_text K) 0 ["net", "story"] (sp_story_text K) := by
  obtain ⟨fd, F⟩ := x.F_story_text
  exact rawK (okf_story_text F x) (bindsK0 F fun _ _ _ _ _ _ us ws h1 h2 => match us, ws, h1, h2 with | [], [_, _], _, _ => rfl)
theorem okq_story_text (x : Fx K mg w) : FnRK P w K mg base CX0 38 (a_story_text K) 0 ["story", "net"] (swapSp (sp_story_text K)) := by
  obtain ⟨fd, F⟩ := x.F_story_text
  exact rawKs (okf_story_text F x) (bindsKs F fun _ _ _ _ _ _ _ _ => rfl)
end
end Ws

set_option Elab.async false
set_option linter.all false
set_option maxRecDepth 100000
set_option maxHeartbeats 4000000
namespace Ws
open PySem PySem.Spec PyProof.Rows L2 PySem.W
def pathK (p : List Nat) : List L2.Key := p.map fun i => Sum.inl ((i : Nat) : Int)
def pathD (p : List Nat) : PyData := .tuple (p.map fun i => .int (i : Nat))
theorem pathK_V (p : List Nat) : (pathK p).map kV = pathV p := by unfold pathK pathV; rw [List.map_map]; rfl
theorem pathK_D (p : List Nat) : keyTD (pathK p) = pathD p := by unfold keyTD pathK pathD; rw [List.map_map]; rfl
theorem pathK_inj : ∀ {p q : List Nat}, pathK p = pathK q → p = q
  | [], [], _ => rfl
  | [], _ :: _, h => by simp [pathK] at h
  | _ :: _, [], h => by simp [pathK] at h
  | x :: p, y :: q, h => by
    have h : Sum.inl ((x : Nat) : Int) :: pathK p = Sum.inl ((y : Nat) : Int) :: pathK q := h
    injection h with h1 h2
    injection h1 with h1
    rw [pathK_inj h2, Int.ofNat_inj.mp h1]
def pLt : List Nat → List Nat → Bool
  | [], [] => false
  | [], _ :: _ => true
  | _ :: _, [] => false
  | x :: p, y :: q => if x = y then pLt p q else decide (x < y)
theorem lt_path : ∀ p q : List Nat, PyProof.Rows.lexLt itemOrd (keyToksAll (p.map fun i => .int ((i : Nat) : Int))) (keyToksAll (q.map fun i => .int ((i : Nat) : Int))) = pLt p q
  | [], [] => lex_irrefl _
  | [], y :: q => by
    rw [List.map_nil, List.map_cons, keyToksAll, keyToksAll, lex_atom (by decide)]
    rfl
  | x :: p, [] => by
    rw [List.map_nil, List.map_cons, keyToksAll, keyToksAll, lex_atom (by decide)]
    rfl
  | x :: p, y :: q => by
    rw [List.map_cons, List.map_cons, dataLt_cons (by rw [alike]), lt_path p q, dataLt_int, pLt]
    by_cases e : x = y
    · subst e
      rw [if_pos rfl, if_pos (by rw [PyData.eqv]; exact beq_self_eq_true _)]
    · rw [if_neg e, if_neg (by rw [PyData.eqv]; simp; omega)]
      simp
theorem dataLt_path (p q : List Nat) : dataLt (pathD p) (pathD q) = pLt p q := by
  unfold pathD
  rw [dataLt_tuple, lt_path]
theorem alike_ints : ∀ p q : List Nat, alikeAll (p.map fun i => .int ((i : Nat) : Int)) (q.map fun i => .int ((i : Nat) : Int)) = true
  | [], _ => by rw [List.map_nil, alikeAll]
  | _ :: _, [] => by rw [List.map_nil, List.map_cons, alikeAll]
  | x :: p, y :: q => by rw [List.map_cons, List.map_cons, alikeAll, alike_ints p q, alike]; rfl
theorem alike_path (p q : List Nat) : alike (pathD p) (pathD q) = true := by unfold pathD; rw [alike]; exact alike_ints p q
theorem pLt_irr : ∀ p, pLt p p = false
  | [] => rfl
  | x :: p => by rw [pLt, if_pos rfl, pLt_irr p]
theorem pLt_tot : ∀ {p q : List Nat}, pLt p q = false → pLt q p = false → p = q
  | [], [], _, _ => rfl
  | [], _ :: _, h, _ => by simp [pLt] at h
  | _ :: _, [], _, h => by simp [pLt] at h
  | x :: p, y :: q, h, g => by
    rw [pLt] at h g
    by_cases e : x = y
    · subst e
      rw [if_pos rfl] at h g
      rw [pLt_tot h g]
    · rw [if_neg e] at h
      rw [if_neg (Ne.symm e)] at g
      have := of_decide_eq_false h
      have := of_decide_eq_false g
      omega
theorem pLt_asy : ∀ {p q : List Nat}, pLt p q = true → pLt q p = false
  | [], [], h => by simp [pLt] at h
  | [], _ :: _, _ => rfl
  | _ :: _, [], h => by simp [pLt] at h
  | x :: p, y :: q, h => by
    rw [pLt] at h ⊢
    by_cases e : x = y
    · subst e
      rw [if_pos rfl] at h ⊢
      exact pLt_asy h
    · rw [if_neg e] at h
      rw [if_neg (Ne.symm e)]
      have := of_decide_eq_true h
      exact decide_eq_false (by omega)
theorem pLt_pre : ∀ (p a b : List Nat), pLt (p ++ a) (p ++ b) = pLt a b
  | [], _, _ => rfl
  | x :: p, a, b => by rw [List.cons_append, List.cons_append, pLt, if_pos rfl, pLt_pre p a b]
mutual
/-- all calls with their paths, ascending -/
def TaleD.row : TaleD → List Nat → List (List Nat × TaleD)
  | .mk h k f cs, p => (p, .mk h k f cs) :: rowFrom cs p 0
def rowFrom : List TaleD → List Nat → Nat → List (List Nat × TaleD)
  | [], _, _ => []
  | c :: cs, p, i => c.row (p ++ [i]) ++ rowFrom cs p (i + 1)
end
mutual
theorem row_len : ∀ (t : TaleD) (p : List Nat), (t.row p).length = t.count
  | .mk h k f cs, p => by rw [TaleD.row, TaleD.count, List.length_cons, rowFrom_len cs p 0]
theorem rowFrom_len : ∀ (cs : List TaleD) (p : List Nat) (i : Nat), (rowFrom cs p i).length = counts cs
  | [], _, _ => by rw [rowFrom, counts]; rfl
  | c :: cs, p, i => by rw [rowFrom, counts, List.length_append, row_len c, rowFrom_len cs]
end
mutual
theorem row_pre : ∀ (t : TaleD) (p : List Nat), ∀ e ∈ t.row p, ∃ r, e.1 = p ++ r
  | .mk h k f cs, p => by
    rw [TaleD.row]
    intro e he
    rcases List.mem_cons.mp he with rfl | he
    · exact ⟨[], (List.append_nil _).symm⟩
    · obtain ⟨j, r, _, h⟩ := rowFrom_pre cs p 0 e he
      exact ⟨j :: r, h⟩
theorem rowFrom_pre : ∀ (cs : List TaleD) (p : List Nat) (i : Nat), ∀ e ∈ rowFrom cs p i, ∃ (j : Nat) (r : List Nat), i ≤ j ∧ e.1 = p ++ (j :: r)
  | [], _, _ => by rw [rowFrom]; intro e he; cases he
  | c :: cs, p, i => by
    rw [rowFrom]
    intro e he
    rcases List.mem_append.mp he with he | he
    · obtain ⟨r, h⟩ := row_pre c (p ++ [i]) e he
      exact ⟨i, r, Nat.le_refl _, by rw [h]; simp⟩
    · obtain ⟨j, r, h1, h2⟩ := rowFrom_pre cs p (i + 1) e he
      exact ⟨j, r, by omega, h2⟩
end
mutual
theorem row_short : ∀ (t : TaleD) (p : List Nat), ∀ e ∈ t.row p, e.1.length + 1 ≤ p.length + t.depth
  | .mk h k f cs, p => by
    rw [TaleD.row, TaleD.depth]
    intro e he
    rcases List.mem_cons.mp he with rfl | he
    · show p.length + 1 ≤ _
      omega
    · have := rowFrom_short cs p 0 e he
      omega
theorem rowFrom_short : ∀ (cs : List TaleD) (p : List Nat) (i : Nat), ∀ e ∈ rowFrom cs p i, e.1.length + 1 ≤ p.length + 1 + deeps cs
  | [], _, _ => by rw [rowFrom]; intro e he; cases he
  | c :: cs, p, i => by
    rw [rowFrom, deeps]
    intro e he
    rcases List.mem_append.mp he with he | he
    · have := row_short c (p ++ [i]) e he
      rw [List.length_append, List.length_singleton] at this
      omega
    · have := rowFrom_short cs p (i + 1) e he
      omega
end
mutual
theorem row_sorted : ∀ (t : TaleD) (p : List Nat), (t.row p).Pairwise fun a b => pLt a.1 b.1 = true
  | .mk h k f cs, p => by
    rw [TaleD.row]
    refine List.pairwise_cons.mpr ⟨fun e he => ?_, rowFrom_sorted cs p 0⟩
    obtain ⟨j, r, _, h⟩ := rowFrom_pre cs p 0 e he
    show pLt p e.1 = true
    have : pLt (p ++ []) (p ++ (j :: r)) = true := by rw [pLt_pre]; rfl
    rwa [List.append_nil, ← h] at this
theorem rowFrom_sorted : ∀ (cs : List TaleD) (p : List Nat) (i : Nat), (rowFrom cs p i).Pairwise fun a b => pLt a.1 b.1 = true
  | [], _, _ => by rw [rowFrom]; exact .nil
  | c :: cs, p, i => by
    rw [rowFrom]
    refine List.pairwise_append.mpr ⟨row_sorted c _, rowFrom_sorted cs p (i + 1), fun a ha b hb => ?_⟩
    obtain ⟨r, h1⟩ := row_pre c (p ++ [i]) a ha
    obtain ⟨j, r2, h2, h3⟩ := rowFrom_pre cs p (i + 1) b hb
    have e : a.1 = p ++ (i :: r) := by rw [h1]; simp
    rw [e, h3, pLt_pre, pLt, if_neg (by omega)]
    exact decide_eq_true (by omega)
end
theorem inj_of_nodup {α β : Type} {f : α → β} : ∀ {xs : List α} {a b : α}, (xs.map f).Nodup → a ∈ xs → b ∈ xs → f a = f b → a = b
  | x :: xs, a, b, nd, ha, hb, e => by
    rw [List.map_cons, List.nodup_cons] at nd
    rcases List.mem_cons.mp ha with h1 | h1
    · rcases List.mem_cons.mp hb with h2 | h2
      · rw [h1, h2]
      · refine absurd ?_ nd.1
        rw [← h1, e]
        exact List.mem_map_of_mem h2
    · rcases List.mem_cons.mp hb with h2 | h2
      · refine absurd ?_ nd.1
        rw [← h2, ← e]
        exact List.mem_map_of_mem h1
      · exact inj_of_nodup nd.2 h1 h2 e
theorem row_nodup (t : TaleD) (p : List Nat) : ((t.row p).map (·.1)).Nodup := by
  refine List.pairwise_map.mpr ((row_sorted t p).imp fun {a b} h e => ?_)
  rw [e, pLt_irr] at h
  cases h
/-- a story's calls in any order, sorted, are its calls ascending -/
theorem row_unique {t : TaleD} {p : List Nat} {es : List (List Nat × TaleD)} (h : es.Perm (t.row p)) (s : es.Pairwise fun a b => pLt b.1 a.1 = false) : es = t.row p := by
  refine List.Perm.eq_of_pairwise (le := fun a b => pLt b.1 a.1 = false) (fun a b ha hb h1 h2 => ?_) s ((row_sorted t p).imp fun h => pLt_asy h) h
  have e : a.1 = b.1 := pLt_tot h2 h1
  exact inj_of_nodup (row_nodup t p) (h.mem_iff.mp ha) hb e
def RowAt (S : Addr → Prop) (H : Hp) : List (List L2.Key × V) → List (List Nat × TaleD) → Prop := Paired fun kv e => kv.1 = pathK e.1 ∧ ∃ a, kv.2 = .ref a ∧ TaleAt S H e.2 a
end Ws

set_option Elab.async false
set_option linter.all false
set_option maxRecDepth 100000
set_option maxHeartbeats 4000000
namespace Ws
open PySem PySem.Spec PyProof.Rows L2 PySem.W
/-- a call that waits, with its path; the story stands in H0 -/
def WaitAt (H0 H : Hp) (a : Addr) (e : List Nat × TaleD) : Prop := ∃ p c, H a = some (.tup [.ref p, .ref c]) ∧ H p = some (.tup (pathV e.1)) ∧ TaleAt no H0 e.2 c
def WaitsAt (H0 H : Hp) : List Addr → List (List Nat × TaleD) → Prop := Paired (WaitAt H0 H)
def kids (p : List Nat) (cs : List TaleD) (i : Nat) : List (List Nat × TaleD) := (cs.zipIdx i).map fun c => (p ++ [c.2], c.1)
theorem kids_row (p : List Nat) : ∀ (cs : List TaleD) (i : Nat), (kids p cs i).flatMap (fun e => e.2.row e.1) = rowFrom cs p i
  | [], i => by rw [rowFrom]; rfl
  | c :: cs, i => by
    rw [rowFrom, ← kids_row p cs (i + 1)]
    rfl
def loads (es : List (List Nat × TaleD)) : Nat := (es.map fun e => e.2.count).sum
theorem loads_app (es fs : List (List Nat × TaleD)) : loads (es ++ fs) = loads es + loads fs := by unfold loads; rw [List.map_append, List.sum_append]
theorem kids_loads (p : List Nat) : ∀ (cs : List TaleD) (i : Nat), loads (kids p cs i) = counts cs
  | [], i => by rw [counts]; rfl
  | c :: cs, i => by
    rw [counts, ← kids_loads p cs (i + 1)]
    rfl
theorem kids_at {p : List Nat} {cs : List TaleD} {i : Nat} {c : TaleD} (h : cs[i]? = some c) : (kids p cs 0)[i]? = some (p ++ [i], c) := by
  unfold kids
  rw [List.getElem?_map, List.getElem?_zipIdx, h]
  simp
theorem kids_len (p : List Nat) (cs : List TaleD) : (kids p cs 0).length = cs.length := by simp [kids]
theorem loads_len : ∀ es : List (List Nat × TaleD), es.length ≤ loads es
  | [] => Nat.zero_le _
  | e :: es => by
    have h1 := loads_len es
    have h2 := count_pos e.2
    have : loads (e :: es) = e.2.count + loads es := rfl
    rw [List.length_cons]
    omega
theorem flat_len : ∀ es : List (List Nat × TaleD), (es.flatMap fun e => e.2.row e.1).length = loads es
  | [] => rfl
  | e :: es => by
    rw [List.flatMap_cons, List.length_append, flat_len es, row_len]
    rfl
section
variable {H0 H H1 : Hp} {a : Addr} {e : List Nat × TaleD}
/-- tuples stand still -/
def Tk (H H1 : Hp) : Prop := ∀ b xs, H b = some (.tup xs) → H1 b = some (.tup xs)
theorem Tk.ext (x : Ext H H1) : Tk H H1 := fun _ _ h => x _ _ h
theorem Tk.put {o u : HO} (h : H a = some o) (n : ∀ xs, o ≠ .tup xs) : Tk H (upd H a u) := fun b xs q => by rw [upd_ne (ne_of q h (fun z => n xs z.symm))]; exact q
theorem Tk.trans {H2 : Hp} (f : Tk H H1) (g : Tk H1 H2) : Tk H H2 := fun b xs q => g b xs (f b xs q)
theorem WaitAt.tk (w : WaitAt H0 H a e) (k : Tk H H1) : WaitAt H0 H1 a e := by
  obtain ⟨p, c, h1, h2, h3⟩ := w
  exact ⟨p, c, k _ _ h1, k _ _ h2, h3⟩
theorem WaitsAt.tk {as : List Addr} {es : List (List Nat × TaleD)} (w : WaitsAt H0 H as es) (k : Tk H H1) : WaitsAt H0 H1 as es := Paired.mapP w fun _ _ z => z.tk k
end
theorem perm_back {α β : Type} {f : α → β} : ∀ {es ms : List β}, es.Perm ms → ∀ {zs : List α}, ms = zs.map f → ∃ ys : List α, es = ys.map f ∧ ys.Perm zs := by
  intro es ms h
  induction h with
  | nil => intro zs e; exact ⟨zs, e, .refl _⟩
  | cons x _ ih =>
    intro zs e
    cases zs with
    | nil => cases e
    | cons z zs =>
      rw [List.map_cons] at e
      injection e with e1 e2
      obtain ⟨ys, h1, h2⟩ := ih e2
      exact ⟨z :: ys, by rw [List.map_cons, ← h1, e1], h2.cons z⟩
  | swap x y l =>
    intro zs e
    match zs, e with
    | a :: b :: zs, e =>
      simp only [List.map_cons] at e
      injection e with e1 e2
      injection e2 with e2 e3
      exact ⟨b :: a :: zs, by simp only [List.map_cons]; rw [e1, e2, e3], .swap a b zs⟩
  | trans _ _ ih1 ih2 =>
    intro zs e
    obtain ⟨ys, h1, h2⟩ := ih2 e
    obtain ⟨xs, h3, h4⟩ := ih1 h1
    exact ⟨xs, h3, h4.trans h2⟩
theorem rowAt_get {S : Addr → Prop} {H : Hp} : ∀ {kvs : List (List L2.Key × V)} {es : List (List Nat × TaleD)} {e : List Nat × TaleD}, RowAt S H kvs es → (es.map (·.1)).Nodup → e ∈ es → ∃ a, valV kvs (pathK e.1) = some (.ref a) ∧ TaleAt S H e.2 a
  | _, _, e, .nil, _, h => nomatch h
  | _, _, e, .cons (a := kv) (b := f) ⟨h1, a, h2, h3⟩ t, nd, h => by
    rw [List.map_cons, List.nodup_cons] at nd
    rcases List.mem_cons.mp h with rfl | h
    · exact ⟨a, by rw [valV_pos h1, h2], h3⟩
    · obtain ⟨b, g1, g2⟩ := rowAt_get t nd.2 h
      refine ⟨b, ?_, g2⟩
      rw [valV_neg, g1]
      intro z
      rw [h1] at z
      exact nd.1 (pathK_inj z ▸ List.mem_map_of_mem h)
theorem paired_snoc {α β : Type} {R : α → β → Prop} : ∀ {xs : List α} {ys : List β} {x : α} {y : β}, Paired R (xs ++ [x]) (ys ++ [y]) → Paired R xs ys ∧ R x y
  | [], [], _, _, .cons r .nil => ⟨.nil, r⟩
  | [], y :: ys, _, _, .cons _ t => by
    have := Paired.length t
    simp at this
  | x :: xs, [], _, _, .cons _ t => by
    have := Paired.length t
    simp at this
  | x :: xs, y :: ys, _, _, .cons r t => let ⟨h1, h2⟩ := paired_snoc t; ⟨.cons r h1, h2⟩
theorem paired_zip {α β : Type} {R : α → β → Prop} : ∀ {xs : List α} {ys : List β} {x : α} {y : β}, Paired R xs ys → (x, y) ∈ xs.zip ys → R x y
  | _, _, _, _, .nil, h => by simp at h
  | _, _, x, y, .cons r t, h => by
    rw [List.zip_cons_cons] at h
    rcases List.mem_cons.mp h with e | h
    · injection e with e1 e2
      rw [e1, e2]
      exact r
    · exact paired_zip t h
theorem keys_join {S : Addr → Prop} {H H1 : Hp} : ∀ {kvs : List (List L2.Key × V)} {bs : List Addr} {es : List (List Nat × TaleD)}, IsKeys H1 kvs bs → RowAt S H kvs es → Paired (fun b (e : List Nat × TaleD) => H1 b = some (.tup (pathV e.1))) bs es
  | _, _, _, .nil, .nil => .nil
  | _, _, _, .cons h t, .cons ⟨g, _⟩ t2 => .cons (by rw [← pathK_V, ← g]; exact h) (keys_join t t2)
theorem nodup_idx {α : Type} {xs : List α} (nd : xs.Nodup) {i j : Nat} {x : α} (h : xs[i]? = some x) (g : xs[j]? = some x) : i = j := by
  obtain ⟨hi, h⟩ := List.getElem?_eq_some_iff.mp h
  obtain ⟨hj, g⟩ := List.getElem?_eq_some_iff.mp g
  rcases Nat.lt_trichotomy i j with l | l | l
  · exact absurd (h.trans g.symm) (List.pairwise_iff_getElem.mp nd i j hi hj l)
  · exact l
  · exact absurd (g.trans h.symm) (List.pairwise_iff_getElem.mp nd j i hj hi l)
theorem valV_noneT {kvs : List (List L2.Key × V)} {k : List L2.Key} (h : k ∉ kvs.map (·.1)) : valV kvs k = none := by
  unfold valV
  rw [List.find?_eq_none.mpr fun kv hk z => h (List.mem_map.mpr ⟨kv, hk, of_decide_eq_true z⟩)]
  rfl
theorem rowAt_keys {S : Addr → Prop} {H : Hp} : ∀ {kvs : List (List L2.Key × V)} {es : List (List Nat × TaleD)}, RowAt S H kvs es → kvs.map (·.1) = es.map fun e => pathK e.1
  | _, _, .nil => rfl
  | _, _, .cons ⟨h1, _⟩ t => by rw [List.map_cons, List.map_cons, h1, rowAt_keys t]
/-- what the loop keeps: es are told, L wait -/
def CiI (H : Hp) (a df : Addr) (t : TaleD) (m : Nat) (σ : L2.St) (H' : Hp) : Prop := ∃ (es L : List (List Nat × TaleD)) (kvs : List (List L2.Key × V)) (prs : List Addr) (l : Addr) (v3 v4 v5 : Option V), m = loads L ∧ σ = [some (.ref a), some (.ref df), some (.ref l), v3, v4, v5] ∧ Ext H H' ∧ H l = none ∧
  H' df = some (.dT kvs) ∧ RowAt no H kvs es ∧ H' l = some (.lst (prs.map V.ref)) ∧ WaitsAt H H' prs L ∧ (es ++ L.flatMap fun e => e.2.row e.1).Perm (t.row []) ∧ ((es = [] ∧ L = [([], t)]) ∨ ∃ r, es = ([], t) :: r)
section
variable {P : Program} {w : World} {K : PySem.W.Frag} {mg : Str → Option Value} {base : Heap}
def sp_calls_in : Sp := fun vs H Q _ => ∃ (S : Addr → Prop) (a : Addr) (t : TaleD), vs = [.ref a] ∧ TaleAt S H t a ∧ t.count ≤ 900 ∧ ∀ d H' kvs, Ext H H' → H d = none → H' d = some (.dT kvs) → RowAt no H' kvs (t.row []) → Q (.ref d) H'
theorem sc_calls_in : FnScope ["story", "found", "left", "path", "call", "at"] ["story"] (defScope s_calls_in) := ⟨rfl, rfl, rfl, by decide +kernel, rfl, by decide +kernel, by decide +kernel⟩
theorem ok_calls_in (x : Fx K mg w) : FnR P w K mg base CX0 1 (a_calls_in K) sp_calls_in := by
  refine okR x.F_calls_in sc_calls_in (fun _ _ _ _ _ _ us hl => match us, hl with | [_], _ => rfl) (fun vs H Q E h => by obtain ⟨S, a, t, rfl, ta, tc, hQ⟩ := h; rfl) (fun cdv A outer s H vs Q E hr h => ?_)
  obtain ⟨S, a, t, rfl, ta, tc, hQ⟩ := h
  refine ⟨_, (pss_cons (ps_asg (pe_tup (pa_cons pe_dnewT (pa_cons (pe_lst (pa_cons (pe_tup (pa_cons (pe_tup pa_nil) (pa_cons (pv 0) pa_nil))) pa_nil)) pa_nil))) (pg_tupK (K := K) (n := 2) rfl rfl (pgs_cons (pg_name (i := 1) sc_calls_in.nd rfl (Or.inr rfl)) (pgs_cons (pg_name (i := 2) sc_calls_in.nd rfl (Or.inl rfl)) pgs_nil))))
 (pss_cons (ps_while PassesOwn.never (pt_cmpR (show OpR _ _ (rEqNil K true) from op_neNil hr) (pv 2) (pe_lst pa_nil) (nomark _))
 (pss_cons (ps_asg (pe_bm0 PySem.F.plainAttrs_list PySem.F.slot_list_pop PySem.F.type_list_pop mt_pop (pv 2)) (pg_tupK (K := K) (n := 2) rfl rfl (pgs_cons (pg_name (i := 3) sc_calls_in.nd rfl (Or.inr rfl)) (pgs_cons (pg_name (i := 4) sc_calls_in.nd rfl (Or.inr rfl)) pgs_nil))))
 (pss_cons (ps_dput (hu_of hr) (pv 1) (pv 3) (pv 4) rfl)
 (pss_one (ps_set (i := 2) sc_calls_in.nd rfl (Or.inl rfl) (pe_op op_cat (pv 2) (pe_lc (own := [("at", 5)]) (tt := tYes) rfl sc_calls_in.nd (pi_range1 rfl x.n_range (pa_cons (pe_callB (r := rLenK K) call_lenK rfl x.n_len bb_len (pa_cons (pe_ix (r := rIxT K) ix_tup (pv 4) pe_int (fun _ _ => rfl)) pa_nil)) pa_nil)) (blkOk_by (N := ["story", "found", "left", "path", "call", "at"]) (sc := defScope s_calls_in) (by decide +kernel)) (fun _ _ _ _ _ => (pg_name (i := 5) sc_calls_in.nd rfl (Or.inl rfl))) (fun _ _ _ _ _ => pts_nil) (fun _ _ _ _ _ => (pe_tup (pa_cons (pe_tup (pa_starK (K := K) rfl (pv 3) (pa_cons (pv 5) pa_nil))) (pa_cons (pe_ix (r := rIxT K) ix_tup (pe_ix (r := rIxT K) ix_tup (pv 4) pe_int (fun _ _ => rfl)) (pv 5) (fun _ _ => rfl)) pa_nil)))))))))))
 (pss_one (ps_ret (pe_dcT hr.units (own := [("path", 3)]) (tt := tYes) rfl sc_calls_in.nd (pi_listK (K := K) rfl (pe_callB (r := rSortDT) (call_sortDT rfl hr) rfl x.n_sorted bb_sorted (pa_cons (pv 1) pa_nil))) (blkOk_by (N := ["story", "found", "left", "path", "call", "at"]) (sc := defScope s_calls_in) (by decide +kernel)) (fun _ _ _ _ _ => (pg_name (i := 3) sc_calls_in.nd rfl (Or.inl rfl))) (fun _ _ _ _ _ => pts_nil) (fun _ _ _ _ _ => (pv 3)) (fun _ _ _ _ _ => (pe_dget (hu_of hr) (pv 1) (pv 3) (fun _ _ => rfl)))))))), ?_⟩
  have tf := ta.free
  have nd := row_nodup t []
  have rl := row_len t []
  intro df ndf
  have e1 : Ext H (upd H df (.dT [])) := ext_new ndf
  have hf : (upd H df (.dT [])) df = some (.dT []) := upd_same
  generalize upd H df (.dT []) = H1 at e1 hf
  refine ⟨by simp [sizeLine_eq], fun e0 ne0 => ?_⟩
  have e2 : Ext H1 (upd H1 e0 (.tup [])) := ext_new ne0
  have h0 : (upd H1 e0 (.tup [])) e0 = some (.tup []) := upd_same
  generalize upd H1 e0 (.tup []) = H2 at e2 h0
  refine ⟨_, rfl, by simp [sizeLine_eq], fun pr npr => ?_⟩
  have e3 : Ext H2 (upd H2 pr (.tup [.ref e0, .ref a])) := ext_new npr
  have hpr : (upd H2 pr (.tup [.ref e0, .ref a])) pr = some (.tup [.ref e0, .ref a]) := upd_same
  generalize upd H2 pr (.tup [.ref e0, .ref a]) = H3 at e3 hpr
  refine ⟨by simp [sizeLine_eq], fun l nl => ?_⟩
  have e4 : Ext H3 (upd H3 l (.lst [.ref pr])) := ext_new nl
  have hl : (upd H3 l (.lst [.ref pr])) l = some (.lst [.ref pr]) := upd_same
  generalize upd H3 l (.lst [.ref pr]) = H4 at e4 hl
  refine ⟨by simp [sizeLine_eq], fun tp ntp => ?_⟩
  have e5 : Ext H4 (upd H4 tp (.tup [.ref df, .ref l])) := ext_new ntp
  have htp : (upd H4 tp (.tup [.ref df, .ref l])) tp = some (.tup [.ref df, .ref l]) := upd_same
  generalize upd H4 tp (.tup [.ref df, .ref l]) = H5 at e5 htp
  refine ⟨tp, _, rfl, SqT.of htp, rfl, _, _, rfl, _, _, rfl, rfl, ?_⟩
  dsimp only [gName]
  have nlH : H l = none := ext_none (e1.trans (e2.trans e3)) nl
  have e05 : Ext H H5 := e1.trans (e2.trans (e3.trans (e4.trans e5)))
  refine ⟨CiI H a df t,
    ⟨_, [], [([], t)], [], [pr], l, none, none, none, rfl, rfl, e05, nlH, (e2.trans (e3.trans (e4.trans e5))) _ _ hf, .nil, e5 _ _ hl, .cons ⟨e0, a, (e4.trans e5) _ _ hpr, (e3.trans (e4.trans e5)) _ _ h0, tf⟩ .nil, by simp, .inl ⟨rfl, rfl⟩⟩, ?_⟩
  clear hl htp hf hpr h0 nlH nl npr ne0 ntp e1 e2 e3 e4 e5 e05
  rintro m σ H6 ⟨es, L, kvs, prs, l, v3, v4, v5, rfl, rfl, e6, nl, hf, hr, hl, hw, hp, hst⟩
  have lp := hp.length_eq
  rw [List.length_append, flat_len, rl] at lp
  have lL := loads_len L
  have lK := Paired.length hr
  have lw := Paired.length hw
  refine ⟨_, rfl, by simp [sizeLine_eq], fun l2 n2 => ⟨l, l2, _, rfl, rfl, .of ((ext_new n2) _ _ hl), .of upd_same, _, rfl, ?_⟩⟩
  have e7 : Ext H6 (upd H6 l2 (.lst [])) := ext_new n2
  generalize upd H6 l2 (.lst []) = H7 at e7
  have hw7 := hw.tk (.ext e7)
  have hl7 := e7 _ _ hl
  have hf7 := e7 _ _ hf
  have e07 := e6.trans e7
  rcases List.eq_nil_or_concat L with rfl | ⟨L', x, rfl⟩
  · cases hw
    refine ifF rfl ?_
    rw [List.flatMap_nil, List.append_nil] at hp
    obtain ⟨r, rfl⟩ : ∃ r, es = ([], t) :: r := by
      rcases hst with ⟨_, z⟩ | z
      · cases z
      · exact z
    generalize he : (([], t) :: r : List (List Nat × TaleD)) = es at hp hr lp
    have kd : (kvs.map fun p => keyTD p.1) = es.map fun e => pathD e.1 := by
      have := congrArg (List.map keyTD) (rowAt_keys hr)
      rw [List.map_map, List.map_map] at this
      refine this.trans (List.map_congr_left fun e _ => ?_)
      exact pathK_D e.1
    have lc := depth_count t
    refine ⟨_, rfl, df, kvs, rfl, .inl hf7, ?_, ?_, fun bs es2 lp hk perm pw nlp => ?_⟩
    · rw [kd]
      intro d hd d' hd'
      obtain ⟨e, _, rfl⟩ := List.mem_map.mp hd
      obtain ⟨e', _, rfl⟩ := List.mem_map.mp hd'
      exact alike_path _ _
    · rw [kd, ← he]
      exact .inr ⟨⟨_, rfl⟩, fun d hd => by
        obtain ⟨e, _, rfl⟩ := List.mem_map.mp hd
        exact ⟨_, rfl⟩⟩
    · have kb : Paired (fun b (e : List Nat × TaleD) => H7 b = some (.tup (pathV e.1))) bs es := keys_join hk hr
      have lbe := Paired.length kb
      rw [kd, List.zip_map] at perm
      obtain ⟨M, rfl, pM⟩ := perm_back perm rfl
      have pE : (M.map Prod.snd).Perm (t.row []) := by
        refine (pM.map Prod.snd).trans ?_
        rw [List.map_snd_zip (by omega)]
        exact hp
      have sE : (M.map Prod.snd).Pairwise fun a b => pLt b.1 a.1 = false := by
        rw [List.pairwise_map] at pw ⊢
        refine pw.imp fun {m m'} z => ?_
        have z : dataLt (pathD m'.2.1) (pathD m.2.1) = false := z
        rwa [dataLt_path] at z
      have eR := row_unique pE sE
      have eL : (M.map (Prod.map V.ref fun e => pathD e.1)).map (·.1) = (M.map Prod.fst).map V.ref := by rw [List.map_map, List.map_map]; rfl
      rw [eL]
      have e8 : Ext H7 (upd H7 lp (.lst ((M.map Prod.fst).map V.ref))) := ext_new nlp
      have hlp : (upd H7 lp (.lst ((M.map Prod.fst).map V.ref))) lp = some (.lst ((M.map Prod.fst).map V.ref)) := upd_same
      generalize upd H7 lp (.lst ((M.map Prod.fst).map V.ref)) = H8 at e8 hlp
      have hf8 := e8 _ _ hf7
      have e08 := e07.trans e8
      have ndE : (es.map (·.1)).Nodup := (hp.map _).nodup_iff.mpr nd
      refine ⟨lp, rfl, ⟨_, .of hlp⟩, fun D hD => ?_⟩
      refine dcT_std (S := no) (H0 := H8) (std_list (.of hlp) fun z => z) (fun i H' => Ext H8 H' ∧ ∃ kvs2, H' D = some (.dT kvs2) ∧ RowAt no H kvs2 ((t.row []).take i)) ⟨ext_new hD, [], upd_same, .nil⟩ (fun i H' h => .ext h.1) (fun i x H9 hx ⟨e9, kvs2, hD9, hr9⟩ => ?_) (fun H9 ⟨e9, kvs2, hD9, hr9⟩ => ?_)
      · rw [List.getElem?_map, List.getElem?_map] at hx
        cases hm : M[i]? with
        | none => rw [hm] at hx; cases hx
        | some m =>
          rw [hm] at hx
          obtain rfl : V.ref m.1 = x := Option.some.inj hx
          obtain ⟨b, e⟩ := m
          have hR : (t.row [])[i]? = some e := by rw [← eR, List.getElem?_map, hm]; rfl
          have me : (b, e) ∈ bs.zip es := pM.mem_iff.mp (List.mem_of_getElem? hm)
          have hb7 := paired_zip kb me
          have hb9 : H9 b = some (.tup ((pathK e.1).map kV)) := by rw [pathK_V]; exact e9 _ _ (e8 _ _ hb7)
          obtain ⟨c, hv, hc⟩ := rowAt_get hr ndE (List.of_mem_zip me).2
          have dg := DGet.t (k := pathK e.1) (e9 _ _ hf8) hb9
          rw [hv] at dg
          have l2 := Paired.length hr9
          have l3 := List.length_take_le' i (t.row [])
          have line := line1001
          have knew : valV kvs2 (pathK e.1) = none := valV_noneT (by
            rw [rowAt_keys hr9]
            intro z
            obtain ⟨e', he', z⟩ := List.mem_map.mp z
            have z := pathK_inj z
            obtain ⟨j, hj⟩ := List.getElem?_of_mem he'
            rw [List.getElem?_take] at hj
            by_cases ji : j < i
            · rw [if_pos ji] at hj
              have h1 : ((t.row []).map (·.1))[j]? = some e.1 := by rw [List.getElem?_map, hj]; exact congrArg some z
              have h2 : ((t.row []).map (·.1))[i]? = some e.1 := by rw [List.getElem?_map, hR]; rfl
              have := nodup_idx nd h1 h2
              omega
            · rw [if_neg ji] at hj
              cases hj)
          refine ⟨rfl, _, rfl, _, rfl, _, rfl, df, _, rfl, dg, kvs2, pathK e.1, b, rfl, hb9, hD9, by omega, fun a o z => ?_, _, upd_same, ?_⟩
          · rw [upd_ne (ne_of_none z hD)]
            exact e9 _ _ z
          · rw [putK_new _ knew, List.take_add_one, hR]
            exact paired_app hr9 (.cons ⟨rfl, c, rfl, hc⟩ .nil)
      · have lM : M.length = (t.row []).length := by rw [← eR, List.length_map]
        rw [List.length_map, List.length_map, lM, List.take_length] at hr9
        exact hQ D H9 kvs2 (e08.trans e9) (ext_none e08 hD) hD9 (Paired.mapP hr9 fun kv e ⟨z1, a, z2, z3⟩ => ⟨z1, a, z2, z3.ext (e08.trans e9)⟩)
  · obtain ⟨q, u⟩ := x
    obtain ⟨h, k, f, cs⟩ := u
    obtain ⟨prs', pr, rfl⟩ : ∃ prs' pr, prs = prs' ++ [pr] := by
      rcases List.eq_nil_or_concat prs with rfl | ⟨a, b, rfl⟩
      · simp at lw
      · exact ⟨a, b, by simp⟩
    rw [List.concat_eq_append] at hw7 hp lp lL
    obtain ⟨hwa, hwb⟩ := paired_snoc hw7
    obtain ⟨p, c, g1, g2, g3⟩ := hwb
    rw [loads_app] at lp lL
    have lone : loads [(q, TaleD.mk h k f cs)] = counts cs + 1 := by
      show (TaleD.mk h k f cs).count + 0 = _
      rw [TaleD.count]
    rw [lone] at lp lL
    refine ifT (by simp) ?_
    refine ⟨CiI H a df t (loads L' + counts cs), fun σ H' h => ⟨_, by rw [List.concat_eq_append, loads_app, lone]; omega, h⟩, ?_⟩
    -- the last one is taken
    have tk8 : Tk H7 (upd H7 l (.lst (prs'.map V.ref))) := Tk.put hl7 fun _ z => nomatch z
    have hl8 : (upd H7 l (.lst (prs'.map V.ref))) l = some (.lst (prs'.map V.ref)) := upd_same
    have nfl : df ≠ l := ne_of hf7 hl7 (fun z => nomatch z)
    have hf8 : (upd H7 l (.lst (prs'.map V.ref))) df = some (.dT kvs) := by rw [upd_ne nfl]; exact hf7
    have e08 : Ext H (upd H7 l (.lst (prs'.map V.ref))) := fun b o z => by rw [upd_ne (ne_of_none z nl)]; exact e07 _ _ z
    have dl : ((prs' ++ [pr]).map V.ref).dropLast = prs'.map V.ref := by simp
    refine ⟨_, rfl, .inl ⟨rfl, _, .of hl7⟩, l, _, .ref pr, rfl, rfl, hl7, by simp, ?_⟩
    rw [dl]
    generalize upd H7 l (.lst (prs'.map V.ref)) = H8 at tk8 hl8 hf8 e08
    have hwa8 : WaitsAt H H8 prs' L' := WaitsAt.tk hwa tk8
    have g1 := tk8 _ _ g1
    have g2 := tk8 _ _ g2
    refine ⟨pr, _, rfl, SqT.of g1, rfl, _, _, rfl, _, _, rfl, rfl, ?_⟩
    dsimp only [gName]
    -- it is told
    have g3' := g3
    rw [TaleAt] at g3'
    obtain ⟨b, bs, c1, c2, c3⟩ := g3'
    have lcs : bs.length = cs.length := Paired.length (talesAt_paired.mp c3)
    have lcc := counts_len cs
    have perm : ((es ++ [(q, TaleD.mk h k f cs)]) ++ ((L' ++ kids q cs 0).flatMap fun e => e.2.row e.1)).Perm (t.row []) := by
      refine List.Perm.trans ?_ hp
      rw [List.flatMap_append, List.flatMap_append, kids_row, List.flatMap_cons, List.flatMap_nil, List.append_nil, TaleD.row, List.append_assoc]
      refine List.Perm.append_left _ ?_
      rw [List.singleton_append]
      exact List.perm_middle.symm
    have new : q ∉ es.map (·.1) := by
      have nd' : ((es ++ [(q, TaleD.mk h k f cs)]) ++ ((L' ++ kids q cs 0).flatMap fun e => e.2.row e.1)).map (·.1) |>.Nodup := (perm.map _).nodup_iff.mpr nd
      rw [List.map_append, List.map_append] at nd'
      intro z
      exact (List.nodup_append.mp (List.nodup_append.mp nd').1).2.2 q z q (by simp) rfl
    have ql : q.length ≤ 900 := by
      have h1 := row_short t [] (q, TaleD.mk h k f cs) (perm.mem_iff.mp (by simp))
      have h2 := depth_count t
      have h1 : q.length + 1 ≤ 0 + t.depth := h1
      omega
    have knew : valV kvs (pathK q) = none := valV_noneT (by
      rw [rowAt_keys hr]
      intro z
      obtain ⟨e, he, z⟩ := List.mem_map.mp z
      exact new (pathK_inj z ▸ List.mem_map_of_mem he))
    have line := line1001
    have lwa := Paired.length hwa
    have lL' := loads_len L'
    refine ⟨_, rfl, _, rfl, _, rfl, df, _, rfl, DPut.t (k := pathK q) hf8 (by rw [pathK_V]; exact g2) (by omega), ?_⟩
    rw [putK_new _ knew]
    have tk9 : Tk H8 (upd H8 df (.dT (kvs ++ [(pathK q, .ref c)]))) := Tk.put hf8 fun _ z => nomatch z
    have hf9 : (upd H8 df (.dT (kvs ++ [(pathK q, .ref c)]))) df = some (.dT (kvs ++ [(pathK q, .ref c)])) := upd_same
    have hl9 : (upd H8 df (.dT (kvs ++ [(pathK q, .ref c)]))) l = some (.lst (prs'.map V.ref)) := by rw [upd_ne (Ne.symm nfl)]; exact hl8
    have e09 : Ext H (upd H8 df (.dT (kvs ++ [(pathK q, .ref c)]))) := fun b o z => by rw [upd_ne (ne_of_none z ndf)]; exact e08 _ _ z
    generalize upd H8 df (.dT (kvs ++ [(pathK q, .ref c)])) = H9 at tk9 hf9 hl9 e09
    have hwa9 := hwa8.tk tk9
    have g1 := tk9 _ _ g1
    have g2 := tk9 _ _ g2
    have c1 := e09 _ _ c1.1
    have c2 := e09 _ _ c2.1
    have hr9 : RowAt no H (kvs ++ [(pathK q, .ref c)]) (es ++ [(q, TaleD.mk h k f cs)]) := paired_app hr (.cons ⟨rfl, c, rfl, g3⟩ .nil)
    have klen := kids_len q cs
    refine ⟨_, rfl, _, rfl, c, _, 3, _, rfl, rfl, SqT.of c1, atI_nat (j := 3) rfl, _, _, rfl, .inr ⟨_, .of c2, rfl⟩, ((bs.map V.ref).length : Nat), rfl, by omega, by rw [List.length_map]; omega, fun D hD => ?_⟩
    refine lc_std (S := no) (H0 := H9) std_range (fun i H' => Ext H9 H' ∧ ∃ ps : List Addr, H' D = some (.lst (ps.map V.ref)) ∧ WaitsAt H H' ps ((kids q cs 0).take i)) ⟨ext_new hD, [], upd_same, .nil⟩ (fun i H' h => .ext h.1) (fun i x H10 hx ⟨e10, ps, hD10, hw10⟩ => ?_) (fun H10 ⟨e10, ps, hD10, hw10⟩ => ?_)
    · obtain ⟨hi, hx⟩ := List.getElem?_eq_some_iff.mp hx
      have hi : i < bs.length := by simpa using hi
      obtain rfl : V.int (i : Nat) = x := by rw [← hx]; simp
      have hb' := List.getElem?_eq_getElem hi
      obtain ⟨u', hu1, hu2⟩ := paired_at (talesAt_paired.mp c3) hb'
      have ka := kids_at (p := q) hu1
      have hk' : (kids q cs 0).take (i + 1) = (kids q cs 0).take i ++ [(q ++ [i], u')] := by rw [List.take_add_one, ka]; rfl
      refine ⟨rfl, _, rfl, p, _, rfl, .inl (.of (e10 _ _ g2)), _, rfl, sz (m := 1000) (by simp [pathV]; omega), fun pn npn => ?_⟩
      have ep : pathV q ++ [V.int (i : Nat)] = pathV (q ++ [i]) := by simp [pathV]
      rw [ep]
      have e11 : Ext H10 (upd H10 pn (.tup (pathV (q ++ [i])))) := ext_new npn
      have hpn : (upd H10 pn (.tup (pathV (q ++ [i])))) pn = some (.tup (pathV (q ++ [i]))) := upd_same
      generalize upd H10 pn (.tup (pathV (q ++ [i]))) = H11 at e11 hpn ⊢
      have e911 := e10.trans e11
      refine ⟨_, rfl, c, _, 3, _, rfl, rfl, SqT.of (e911 _ _ c1), atI_nat (j := 3) rfl, _, rfl, b, _, (i : Nat), _, rfl, rfl, SqT.of (e911 _ _ c2), atI_nat (j := i) (by rw [List.getElem?_map, hb']; rfl), by simp [sizeLine_eq], fun pr2 npr2 => ?_⟩
      have e12 : Ext H11 (upd H11 pr2 (.tup [.ref pn, .ref bs[i]])) := ext_new npr2
      have hpr2 : (upd H11 pr2 (.tup [.ref pn, .ref bs[i]])) pr2 = some (.tup [.ref pn, .ref bs[i]]) := upd_same
      generalize upd H11 pr2 (.tup [.ref pn, .ref bs[i]]) = H12 at e12 hpr2 ⊢
      have hD12 := e12 _ _ (e11 _ _ hD10)
      have lp10 := Paired.length hw10
      have lt10 := List.length_take_le' i (kids q cs 0)
      refine ⟨_, hD12, by rw [List.length_map]; omega, fun a o z => ?_, ps ++ [pr2], by rw [upd_same]; simp, ?_⟩
      · rw [upd_ne (ne_of_none z hD)]
        exact e12 _ _ (e911 _ _ z)
      · have tk : Tk H12 (upd H12 D (.lst (ps.map V.ref ++ [.ref pr2]))) := Tk.put hD12 fun _ z => nomatch z
        rw [hk']
        refine paired_app (WaitsAt.tk hw10 ((Tk.ext (e11.trans e12)).trans tk)) (.cons ⟨pn, bs[i], tk _ _ hpr2, tk _ _ (e12 _ _ hpn), hu2⟩ .nil)
    · rw [List.length_map, List.length_range, Int.toNat_natCast, List.length_map, lcs, ← klen, List.take_length] at hw10
      have lk10 := Paired.length hw10
      refine ⟨l, D, _, _, rfl, rfl, e10 _ _ hl9, hD10, by simp only [List.length_map]; omega, fun l3 n3 => ?_⟩
      dsimp only [gName]
      have e11 : Ext H10 (upd H10 l3 (.lst (prs'.map V.ref ++ ps.map V.ref))) := ext_new n3
      refine ⟨es ++ [(q, TaleD.mk h k f cs)], L' ++ kids q cs 0, _, prs' ++ ps, l3, _, _, _, ?_, rfl, e09.trans (e10.trans e11), ext_none (e09.trans e10) n3, e11 _ _ (e10 _ _ hf9), hr9, by rw [upd_same, List.map_append], ?_, perm, ?_⟩
      · rw [loads_app, kids_loads]
      · exact paired_app (WaitsAt.tk hwa9 (.ext (e10.trans e11))) (WaitsAt.tk hw10 (.ext e11))
      · rcases hst with ⟨rfl, h2⟩ | ⟨r, rfl⟩
        · right
          have h3 : L' = [] ∧ (q, TaleD.mk h k f cs) = ([], t) := by
            rw [List.concat_eq_append] at h2
            have hl2 := congrArg List.length h2
            rw [List.length_append] at hl2
            have : L' = [] := List.eq_nil_of_length_eq_zero (by simpa using hl2)
            subst this
            exact ⟨rfl, by simpa using h2⟩
          exact ⟨[], by rw [← h3.2]; rfl⟩
        · exact .inr ⟨r ++ [(q, TaleD.mk h k f cs)], rfl⟩
end
end Ws

set_option Elab.async false
set_option linter.all false
set_option maxRecDepth 100000
set_option maxHeartbeats 4000000
namespace Ws
open PySem PySem.Spec PyProof.Rows L2
def isLet (c : Nat) : Bool := decide (c ∈ letters.cps.toList)
/-- behind the letters that stand at i -/
def spotOf (s : List Nat) (i : Nat) : Nat := i + ((s.drop i).takeWhile isLet).length
theorem spot_go {s : List Nat} {j c : Nat} (h : s[j]? = some c) (l : isLet c = true) : spotOf s (j + 1) = spotOf s j := by
  obtain ⟨hj, h⟩ := List.getElem?_eq_some_iff.mp h
  unfold spotOf
  rw [List.drop_eq_getElem_cons hj, h, List.takeWhile_cons, if_pos l, List.length_cons]
  omega
theorem spot_not {s : List Nat} {j c : Nat} (h : s[j]? = some c) (l : isLet c = false) : spotOf s j = j := by
  obtain ⟨hj, h⟩ := List.getElem?_eq_some_iff.mp h
  unfold spotOf
  rw [List.drop_eq_getElem_cons hj, h, List.takeWhile_cons, if_neg (by rw [l]; simp)]
  rfl
theorem spot_end {s : List Nat} {j : Nat} (h : s.length ≤ j) : spotOf s j = j := by
  unfold spotOf
  rw [List.drop_eq_nil_of_le h]
  rfl
theorem spot_ge (s : List Nat) (i : Nat) : i ≤ spotOf s i := Nat.le_add_right _ _
def pieceOf (s : List Nat) (i j : Nat) : Str := ⟨((s.drop i).take (j - i)).toArray⟩
theorem cut_piece (z : Str) {i j : Nat} (h : i ≤ j) : cutS z (some (i : Int)) (some (j : Int)) = pieceOf z.cps.toList i j := by
  have hl : z.length = z.cps.toList.length := by rw [Array.length_toList]; rfl
  unfold cutS pieceOf
  rw [HT.sIx_nat, HT.sIx_nat, hl]
  congr 2
  refine List.ext_getElem? fun k => ?_
  rw [List.getElem?_take, List.getElem?_take, List.getElem?_drop, List.getElem?_drop]
  generalize z.cps.toList = s
  by_cases a : i ≤ s.length
  · rw [Nat.min_eq_left a]
    by_cases b : k < min j s.length - i
    · rw [if_pos b, if_pos (by omega)]
    · rw [if_neg b]
      split
      · rw [List.getElem?_eq_none (by omega)]
      · rfl
  · rw [if_neg (by omega)]
    split
    · rw [List.getElem?_eq_none (by omega)]
    · rfl
theorem piece_one (s : List Nat) (i : Nat) : pieceOf s i (i + 1) = ⟨(s[i]?.toList).toArray⟩ := by
  unfold pieceOf
  rw [show i + 1 - i = 1 by omega]
  by_cases h : i < s.length
  · rw [List.drop_eq_getElem_cons h, List.getElem?_eq_getElem h]
    rfl
  · rw [List.drop_eq_nil_of_le (by omega), List.getElem?_eq_none (by omega)]
    rfl
theorem one_eq (s : List Nat) (i c : Nat) : decide (V.str (pieceOf s i (i + 1)) = V.str ⟨#[c]⟩) = decide (s[i]? = some c) := by
  rw [piece_one]
  cases h : s[i]? with
  | none => simp
  | some d => simp
def digitOf : Option Nat → Option Nat
  | some 48 => some 0
  | some 49 => some 1
  | _ => none
/-- the house, the rule, whether it is faulty, the index behind -/
def headOf (n : NetD) (s : List Nat) (i : Nat) : Option (Str × Nat × Bool × Nat) :=
  if pieceOf s i (spotOf s i) ∈ n.names ∧ s[spotOf s i]? = some 46 then
    match digitOf s[spotOf s i + 1]? with
    | none => none
    | some k =>
      if k < (getH n.houses (pieceOf s i (spotOf s i))).rules.length ∧ (s[spotOf s i + 2]? = some 33 → (getH n.houses (pieceOf s i (spotOf s i))).fails = true) then
        some (pieceOf s i (spotOf s i), k, decide (s[spotOf s i + 2]? = some 33), if s[spotOf s i + 2]? = some 33 then spotOf s i + 3 else spotOf s i + 2)
      else none
  else none
def HeadAt (H : Hp) (r : Addr) : Option (Str × Nat × Bool × Nat) → Prop
  | none => H r = some (.tup [])
  | some (h, k, f, j) => H r = some (.tup [.str h, .int (k : Nat), .bl f, .int (j : Nat)])
theorem digit_in (o : Option Nat) : inV (.str ⟨(o.toList).toArray⟩) [.str "0", .str "1"] = (digitOf o).isSome := by
  unfold digitOf
  split
  · decide +kernel
  · decide +kernel
  · rename_i h1 h2
    cases o with
    | none => decide +kernel
    | some c =>
      have e0 : c ≠ 48 := fun z => h1 (by rw [z])
      have e1 : c ≠ 49 := fun z => h2 (by rw [z])
      have a : (⟨#[c]⟩ : Str) ≠ "0" := fun z => e0 (by
        have := congrArg (fun y : Str => y.cps.toList) z
        exact (List.cons.inj this).1)
      have b : (⟨#[c]⟩ : Str) ≠ "1" := fun z => e1 (by
        have := congrArg (fun y : Str => y.cps.toList) z
        exact (List.cons.inj this).1)
      rw [show ([.str "0", .str "1"] : List V) = (["0", "1"] : List Str).map V.str from rfl, inV_str]
      simp [a, b]
theorem digit_int {o : Option Nat} {k : Nat} (h : digitOf o = some k) : PySem.intText? ⟨(o.toList).toArray⟩ = some (k : Int) ∧ k ≤ 1 := by
  unfold digitOf at h
  split at h
  · cases h
    exact ⟨by decide +kernel, by omega⟩
  · cases h
    exact ⟨by decide +kernel, by omega⟩
  · cases h
theorem dot_eq (s : List Nat) (i : Nat) : decide (V.str (pieceOf s i (i + 1)) = V.str ".") = decide (s[i]? = some 46) := by
  rw [show ("." : Str) = ⟨#[46]⟩ by decide +kernel]
  exact one_eq s i 46
theorem bang_eq (s : List Nat) (i : Nat) : decide (V.str (pieceOf s i (i + 1)) = V.str "!") = decide (s[i]? = some 33) := by
  rw [show ("!" : Str) = ⟨#[33]⟩ by decide +kernel]
  exact one_eq s i 33
theorem open_eq (s : List Nat) (i : Nat) : decide (V.str (pieceOf s i (i + 1)) = V.str "(") = decide (s[i]? = some 40) := by
  rw [show ("(" : Str) = ⟨#[40]⟩ by decide +kernel]
  exact one_eq s i 40
theorem shut_eq (s : List Nat) (i : Nat) : decide (V.str (pieceOf s i (i + 1)) = V.str ")") = decide (s[i]? = some 41) := by
  rw [show (")" : Str) = ⟨#[41]⟩ by decide +kernel]
  exact one_eq s i 41
theorem blank_eq (s : List Nat) (i : Nat) : decide (V.str (pieceOf s i (i + 1)) = V.str " ") = decide (s[i]? = some 32) := by
  rw [show (" " : Str) = ⟨#[32]⟩ by decide +kernel]
  exact one_eq s i 32
/-- the calls that stand behind an open bracket or a blank -/
def tailOf (step : Nat → Option (TaleD × Nat)) (hs : List Str) (s : List Nat) : Nat → Nat → List TaleD → Bool → Option (List TaleD × Nat)
  | _, spot, acc, false => some (acc, spot)
  | 0, _, _, true => none
  | m + 1, spot, acc, true =>
    match step (spot + 1) with
    | none => none
    | some (t, e) => if t.house ∈ hs then tailOf step hs s m e (acc ++ [t]) (decide (s[e]? = some 32)) else none
/-- the call that stands at i, at most so deep, and the index behind it -/
def callOf (n : NetD) (s : List Nat) : Nat → Nat → Option (TaleD × Nat)
  | 0, _ => none
  | d + 1, i =>
    match headOf n s i with
    | none => none
    | some (h, k, f, j) =>
      match tailOf (callOf n s d) (getH n.houses h).calls s (s.length + 1) j [] (decide (s[j]? = some 40)) with
      | none => none
      | some ([], e) => some (.mk h k f [], e)
      | some (c :: cs, e) => if s[e]? = some 41 then some (.mk h k f (c :: cs), e + 1) else none
def RetAt (H : Hp) (r : Addr) : Option (TaleD × Nat) → Prop
  | none => H r = some (.tup [])
  | some (t, e) => ∃ a, H r = some (.tup [.ref a, .int (e : Nat)]) ∧ TaleAt no H t a
theorem head_some {n : NetD} {s : List Nat} {i : Nat} {h : Str} {k : Nat} {f : Bool} {j : Nat} (e : headOf n s i = some (h, k, f, j)) : h ∈ n.names ∧ i < j ∧ j ≤ s.length ∧ k < (getH n.houses h).rules.length ∧ k ≤ 1 ∧ (f = true → (getH n.houses h).fails = true) := by
  unfold headOf at e
  have ge := spot_ge s i
  split at e
  · rename_i a
    split at e
    · cases e
    · rename_i k' hk
      split at e
      · rename_i b
        injection e with e
        injection e with e1 e
        injection e with e2 e
        injection e with e3 e4
        subst e1 e2 e3 e4
        have lt : spotOf s i + 1 < s.length := by
          cases g : s[spotOf s i + 1]? with
          | none => rw [g] at hk; cases hk
          | some c => exact (List.getElem?_eq_some_iff.mp g).1
        refine ⟨a.1, ?_, ?_, b.1, (digit_int hk).2, fun z => b.2 (of_decide_eq_true z)⟩
        · split <;> omega
        · split
          · rename_i z
            have := (List.getElem?_eq_some_iff.mp z).1
            omega
          · omega
      · cases e
  · cases e
theorem tail_some {step : Nat → Option (TaleD × Nat)} {hs : List Str} {s : List Nat} (st : ∀ i t e, step i = some (t, e) → i < e ∧ e ≤ s.length) : ∀ {m spot : Nat} {acc : List TaleD} {b : Bool} {cs : List TaleD} {e : Nat}, spot ≤ s.length → tailOf step hs s m spot acc b = some (cs, e) → spot ≤ e ∧ e ≤ s.length
  | m, spot, acc, false, cs, e, hl, h => by
    rw [tailOf] at h
    injection h with h
    injection h with h1 h2
    subst h2
    exact ⟨Nat.le_refl _, hl⟩
  | 0, spot, acc, true, cs, e, hl, h => by
    rw [tailOf] at h
    cases h
  | m + 1, spot, acc, true, cs, e, hl, h => by
    rw [tailOf] at h
    split at h
    · cases h
    · rename_i t e' hs'
      have := st _ _ _ hs'
      split at h
      · have := tail_some st this.2 h
        omega
      · cases h
theorem call_some {n : NetD} {s : List Nat} : ∀ {d i : Nat} {t : TaleD} {e : Nat}, callOf n s d i = some (t, e) → i < e ∧ e ≤ s.length
  | 0, i, t, e, h => by rw [callOf] at h; cases h
  | d + 1, i, t, e, h => by
    rw [callOf] at h
    split at h
    · cases h
    · rename_i hh k f j hd
      obtain ⟨_, h1, h2, _⟩ := head_some hd
      split at h
      · cases h
      · rename_i e' ht
        have := tail_some (fun _ _ _ => call_some) h2 ht
        injection h with h
        injection h with _ h
        subst h
        omega
      · rename_i c cs e' ht
        have := tail_some (fun _ _ _ => call_some) h2 ht
        split at h
        · rename_i hc
          have := (List.getElem?_eq_some_iff.mp hc).1
          injection h with h
          injection h with _ h
          subst h
          omega
        · cases h
end Ws

set_option Elab.async false
set_option linter.all false
set_option maxRecDepth 100000
set_option maxHeartbeats 4000000
namespace Ws
open PySem PySem.Spec PyProof.Rows L2
section
variable {P : Program} {w : World} {K : PySem.W.Frag} {mg : Str → Option Value} {base : Heap}
def sp_read_head (K : PySem.W.Frag) : Sp := fun vs H Q _ => ∃ (S : Addr → Prop) (o : Addr) (n : NetD) (z : Str) (i : Nat), vs = [.ref o, .str z, .int (i : Nat)] ∧ NetAt S K H o n ∧ z.length ≤ 1000000 ∧ ∀ r H', Ext H H' → HeadAt H' r (headOf n z.cps.toList i) → Q (.ref r) H'
theorem sc_read_head : FnScope ["net", "text", "at", "spot", "house", "number", "faulty"] ["net", "text", "at"] (defScope s_read_head) := ⟨rfl, rfl, rfl, by decide +kernel, rfl, by decide +kernel, by decide +kernel⟩
theorem ok_read_head (x : Fx K mg w) : FnR P w K mg base CX0 5 (a_read_head K) (sp_read_head K) := by
  refine okR x.F_read_head sc_read_head (fun _ _ _ _ _ _ us hl => match us, hl with | [_, _, _], _ => rfl) (fun vs H Q E h => by obtain ⟨S, o, n, z, i, rfl, tn, zl, hQ⟩ := h; rfl) (fun cdv A outer s H vs Q E hr h => ?_)
  obtain ⟨S, o, n, z, i, rfl, tn, zl, hQ⟩ := h
  refine ⟨_, (pss_cons (ps_set (i := 3) sc_read_head.nd rfl (Or.inl rfl) (pv 2))
 (pss_cons (ps_while PassesOwn.never (PW.pt (pw_and (pt_cmpR op_lt (pv 3) (pe_callB call_len_str rfl x.n_len bb_len (pa_cons (pv 1) pa_nil)) (nomark _)) (pw_and1 (pt_cmpR op_in_sign (pe_ix ix_str (pv 1) (pv 3) (fun _ _ => rfl)) (pe_gS x.z_LETTERS rfl) rfl))))
 (pss_one (ps_aug (i := 3) sc_read_head.nd rfl (Or.inl rfl) pe_int ip_add)))
 (pss_cons (ps_par (i := 4) (j := 5) rfl sc_read_head.nd rfl rfl (by decide) rfl rfl (pa_cons (pe_slice sl_str (pv 1) (po_some (pv 2)) (po_some (pv 3))) (pa_cons (pe_slice sl_str (pv 1) (po_some (pe_op op_add (pv 3) pe_int)) (po_some (pe_op op_add (pv 3) pe_int))) pa_nil)) (by rfl))
 (pss_cons (ps_if (PW.pt (pw_or (pt_cmpR (op_notInI x.sp_Net_contains x.fn_Net_contains (ok_Net_contains x) (hr.mono (by decide)) pass0) (pv 4) (pv 0) rfl) (pw_or (pt_cmpR op_ne (pe_slice sl_str (pv 1) (po_some (pv 3)) (po_some (pe_op op_add (pv 3) pe_int))) pe_str (nomark _)) (pw_or1 (pt_cmpR (show OpR _ _ (rIn K true) from op_notIn_seq) (pv 5) (pe_tup (pa_cons pe_str (pa_cons pe_str pa_nil))) rfl)))))
 (pss_one (ps_ret (pe_tup pa_nil)))
 pss_nil)
 (pss_cons (ps_set (i := 6) sc_read_head.nd rfl (Or.inl rfl) (pe_cmpR op_eq (pe_slice sl_str (pv 1) (po_some (pe_op op_add (pv 3) pe_int)) (po_some (pe_op op_add (pv 3) pe_int))) pe_str (nomark _)))
 (pss_cons (ps_if (PW.pt (pw_or (pt_cmpR op_ge (pe_callTy call_int_str rfl x.n_int bb_int (pa_cons (pv 5) pa_nil)) (pe_callB (r := rLenK K) call_lenK rfl x.n_len bb_len (pa_cons (pe_propR (pe_getI x.sp_Net_getitem x.fi_Net_getitem x.fn_Net_getitem (ok_Net_getitem x) (hr.mono (by decide)) pass0 (pv 0) (pv 4)) x.cl_House x.p_House_rules (ok_House_rules x) (hr.mono (by decide)) pass0) pa_nil)) (nomark _)) (pw_or1 (PW.pt (pw_and (pt_val (pv 6)) (pw_and1 (pt_not (pt_val (pe_propR (pe_getI x.sp_Net_getitem x.fi_Net_getitem x.fn_Net_getitem (ok_Net_getitem x) (hr.mono (by decide)) pass0 (pv 0) (pv 4)) x.cl_House x.p_House_fails (ok_House_fails x) (hr.mono (by decide)) pass0)))))))))
 (pss_one (ps_ret (pe_tup pa_nil)))
 pss_nil)
 (pss_one (ps_ret (pe_tup (pa_cons (pv 4) (pa_cons (pe_callTy call_int_str rfl x.n_int bb_int (pa_cons (pv 5) pa_nil)) (pa_cons (pv 6) (pa_cons (pe_ifExp (pt_val (pv 6)) (pe_op op_add (pv 3) pe_int) (pe_op op_add (pv 3) pe_int)) pa_nil))))))))))))), ?_⟩
  have hz : z.length = z.cps.toList.length := by rw [Array.length_toList]; rfl
  have zs : z.length ≤ sizeLine := szB zl
  generalize es : z.cps.toList = s at hz hQ
  obtain ⟨_, _, _, dx, _, _, _, g1, _⟩ := id tn
  refine ⟨_, rfl, ?_⟩
  dsimp only [gName]
  refine seq_cut (fun σ' H' => H = H' ∧ σ' = [some (.ref o), some (.str z), some (.int (i : Nat)), some (.int (spotOf s i : Nat)), none, none, none]) ?_ fun tail => ?_
  · rintro σ' H' ⟨rfl, rfl⟩
    have jge := spot_ge s i
    generalize ej : spotOf s i = j at jge
    have cp : cutS z (some (i : Int)) (some (j : Int)) = pieceOf s i j := by rw [cut_piece z jge, es]
    have c1 : cutS z (some ((j : Int) + 1)) (some ((j : Int) + 2)) = pieceOf s (j + 1) (j + 1 + 1) := by
      have := cut_piece z (show j + 1 ≤ j + 1 + 1 by omega)
      rw [es] at this
      exact this
    have c0 : cutS z (some (j : Int)) (some ((j : Int) + 1)) = pieceOf s j (j + 1) := by
      have := cut_piece z (show j ≤ j + 1 by omega)
      rw [es] at this
      exact this
    have c2 : cutS z (some ((j : Int) + 2)) (some ((j : Int) + 3)) = pieceOf s (j + 2) (j + 2 + 1) := by
      have := cut_piece z (show j + 2 ≤ j + 2 + 1 by omega)
      rw [es] at this
      exact this
    have hh : headOf n s i = if pieceOf s i j ∈ n.names ∧ s[j]? = some 46 then
        match digitOf s[j + 1]? with
        | none => none
        | some k => if k < (getH n.houses (pieceOf s i j)).rules.length ∧ (s[j + 2]? = some 33 → (getH n.houses (pieceOf s i j)).fails = true) then
            some (pieceOf s i j, k, decide (s[j + 2]? = some 33), if s[j + 2]? = some 33 then j + 3 else j + 2) else none
      else none := by unfold headOf; rw [ej]; rfl
    refine seq_cut (fun σ' H' => H = H' ∧ σ' = [some (.ref o), some (.str z), some (.int (i : Nat)), some (.int (j : Nat)), some (.str (pieceOf s i j)), some (.str (pieceOf s (j + 1) (j + 1 + 1))), none]) ?_ fun tail => ?_
    · rintro σ' H' ⟨rfl, rfl⟩
      refine ⟨_, rfl, _, rfl, o, dx, _, rfl, g1.1, S, o, n, _, rfl, tn, _, rfl, _, rfl, ifb (fun q => ?_) fun q => ?_⟩
      · have q : pieceOf s i j ∉ n.names := by simpa using q
        exact ⟨by simp, fun r nr => hQ r _ (ext_new nr) (by rw [hh, if_neg (fun z => q z.1)]; exact upd_same)⟩
      have q1 : pieceOf s i j ∈ n.names := by simpa using q
      refine ⟨_, rfl, _, rfl, _, rfl, _, rfl, _, _, rfl, rfl, _, rfl, z, rfl, zs, rfl, _, rfl, ?_⟩
      rw [c0, dot_eq]
      refine ifb (fun q => ?_) fun q => ?_
      · have q : ¬ s[j]? = some 46 := by simpa using q
        exact ⟨by simp, fun r nr => hQ r _ (ext_new nr) (by rw [hh, if_neg (fun z => q z.2)]; exact upd_same)⟩
      have q2 : s[j]? = some 46 := by simpa using q
      rw [if_pos ⟨q1, q2⟩] at hh
      refine ⟨_, rfl, by simp [sizeLine_eq], fun p np => ⟨p, _, rfl, .inr (.of upd_same), rfl, rfl, _, rfl, ?_⟩⟩
      have e1 : Ext H (upd H p (.tup [.str "0", .str "1"])) := ext_new np
      generalize upd H p (.tup [.str "0", .str "1"]) = H1 at e1
      rw [if_pos rfl, piece_one, digit_in]
      cases hd : digitOf s[j + 1]? with
      | none =>
        rw [hd] at hh
        exact ifT rfl ⟨by simp, fun r nr => hQ r _ (e1.trans (ext_new nr)) (by rw [hh]; exact upd_same)⟩
      | some k =>
        rw [hd] at hh
        dsimp only at hh
        obtain ⟨hk, k1⟩ := digit_int hd
        refine ifF rfl ?_
        have l640 : (⟨(s[j + 1]?.toList).toArray⟩ : Str).length ≤ 640 := by
          cases s[j + 1]? with
          | none => exact Nat.zero_le _
          | some c => exact (by decide : 1 ≤ 640)
        refine ⟨_, rfl, _, rfl, _, _, rfl, rfl, _, rfl, _, rfl, _, _, rfl, rfl, _, rfl, z, rfl, zs, rfl, ?_⟩
        rw [c2, bang_eq]
        dsimp only [gName]
        have tn1 := tn.ext e1
        have g11 := e1 _ _ g1.1
        refine ⟨_, rfl, _, _, rfl, hk, l640, _, rfl, _, rfl, o, dx, _, rfl, g11, S, o, n, _, rfl, tn1, q1, fun ho th => ?_⟩
        obtain ⟨hfit, _, _, hdx, _, _, _, _, qh, _⟩ := id th
        refine ⟨ho, hdx, _, rfl, qh.1, S, ho, _, rfl, th, fun pp os hp hr => ⟨_, _, rfl, .inr ⟨_, .of hp.1, rfl⟩, _, _, rfl, rfl, _, rfl, ifb (fun q => ?_) fun q => ?_⟩⟩
        · rw [List.length_map, Paired.length hr] at q
          have q := of_decide_eq_true q
          exact ⟨by simp, fun r nr => hQ r _ (e1.trans (ext_new nr)) (by rw [hh.trans (if_neg (fun z => by omega))]; exact upd_same)⟩
        rw [List.length_map, Paired.length hr] at q
        have q3 : k < (getH n.houses (pieceOf s i j)).rules.length := by
          have := of_decide_eq_false q
          omega
        have done : (s[j + 2]? = some 33 → (getH n.houses (pieceOf s i j)).fails = true) → ∀ H1', Ext H H1' → ∀ r, H1' r = none → Q (.ref r) (upd H1' r (.tup [.str (pieceOf s i j), .int (k : Nat), .bl (decide (s[j + 2]? = some 33)), .int ((if s[j + 2]? = some 33 then j + 3 else j + 2 : Nat) : Int)])) := fun q4 H1' e r nr =>
          hQ r _ (e.trans (ext_new nr)) (by rw [hh.trans (if_pos ⟨q3, q4⟩)]; exact upd_same)
        refine ⟨_, rfl, _, rfl, ifb (fun q => ?_) fun q => ?_⟩
        · have qb := of_decide_eq_true q
          refine ⟨_, rfl, _, rfl, o, dx, _, rfl, g11, S, o, n, _, rfl, tn1, q1, fun ho' th' => ?_⟩
          obtain ⟨_, _, _, hdx', _, _, _, _, qh', _⟩ := id th'
          refine ⟨ho', hdx', _, rfl, qh'.1, S, ho', _, rfl, th', _, rfl, ifb (fun q => ?_) fun q => ?_⟩
          · have qf : (getH n.houses (pieceOf s i j)).fails = false := by simpa using q
            exact ⟨by simp, fun r nr => hQ r _ (e1.trans (ext_new nr)) (by rw [hh.trans (if_neg (fun z => by rw [z.2 qb] at qf; cases qf))]; exact upd_same)⟩
          · have qf : (getH n.houses (pieceOf s i j)).fails = true := by simpa using q
            refine ⟨_, rfl, _, rfl, _, _, rfl, hk, l640, _, rfl, _, rfl, _, rfl, ?_⟩
            refine ifT (decide_eq_true qb) ⟨_, rfl, _, _, rfl, rfl, by simp [sizeLine_eq], fun r nr => ?_⟩
            have := done (fun _ => qf) H1 e1 r nr
            rw [if_pos qb] at this
            exact this
        · have qb := of_decide_eq_false q
          refine ⟨_, rfl, _, rfl, _, _, rfl, hk, l640, _, rfl, _, rfl, _, rfl, ?_⟩
          refine ifF (decide_eq_false qb) ⟨_, rfl, _, _, rfl, rfl, by simp [sizeLine_eq], fun r nr => ?_⟩
          have := done (fun z => absurd z qb) H1 e1 r nr
          rw [if_neg qb] at this
          exact this
    · refine ⟨_, rfl, _, rfl, _, rfl, _, rfl, _, rfl, z, rfl, zs, _, rfl, _, rfl, _, _, rfl, rfl, _, rfl, _, rfl, _, _, rfl, rfl, _, rfl, z, rfl, zs, _, _, rfl, ?_⟩
      rw [cp, c1]
      exact tail _ _ ⟨rfl, rfl⟩
  · refine ⟨fun m σ H' => ∃ j : Nat, m = s.length - j ∧ spotOf s j = spotOf s i ∧ H = H' ∧ σ = [some (.ref o), some (.str z), some (.int (i : Nat)), some (.int (j : Nat)), none, none, none], ⟨_, i, rfl, rfl, rfl, rfl⟩, ?_⟩
    rintro m σ H' ⟨j, rfl, hj, rfl, rfl⟩
    refine ⟨_, rfl, _, rfl, z, rfl, zs, _, _, rfl, rfl, _, rfl, ifb (fun lt => ?_) fun ge => ?_⟩
    · have lt : j < s.length := by rw [← hz]; exact Int.ofNat_lt.mp (of_decide_eq_true lt)
      have hc := List.getElem?_eq_getElem lt
      refine ⟨_, rfl, _, rfl, z, _, _, rfl, rfl, zs, by rw [es]; exact atI_nat hc, _, letters, rfl, rfl, _, rfl, ifb (fun l => ?_) fun l => ?_⟩
      · refine ⟨fun σ' H' => ∃ j' : Nat, s.length - (j + 1) = s.length - j' ∧ spotOf s j' = spotOf s i ∧ H = H' ∧ σ' = [some (.ref o), some (.str z), some (.int (i : Nat)), some (.int (j' : Nat)), none, none, none], fun σ' H' h => ⟨_, by omega, h⟩, ?_⟩
        exact ⟨_, rfl, _, _, rfl, rfl, j + 1, rfl, by rw [spot_go hc l, hj], rfl, rfl⟩
      · have := spot_not hc l
        exact tail _ _ ⟨rfl, by rw [← hj, this]⟩
    · have ge : s.length ≤ j := by
        have := of_decide_eq_false ge
        rw [hz] at this
        omega
      have := spot_end ge
      exact tail _ _ ⟨rfl, by rw [← hj, this]⟩
end
end Ws

set_option Elab.async false
set_option linter.all false
set_option maxRecDepth 100000
set_option maxHeartbeats 4000000
namespace Ws
open PySem PySem.Spec PyProof.Rows L2
theorem RetAt.ext {H H1 : Hp} {r : Addr} {o : Option (TaleD × Nat)} (h : RetAt H r o) (e : Ext H H1) : RetAt H1 r o := by
  cases o with
  | none => exact e _ _ h
  | some p =>
    obtain ⟨t, j⟩ := p
    obtain ⟨a, h1, h2⟩ := h
    exact ⟨a, e _ _ h1, h2.ext e⟩
/-- what the loop keeps -/
def RcI (H : Hp) (o hd cl : Addr) (z : Str) (i D' : Nat) (h : Str) (k : Nat) (f : Bool) (s : List Nat) (step : Nat → Option (TaleD × Nat)) (hs : List Str) (R : Option (List TaleD × Nat)) (m : Nat) (σ : L2.St) (H' : Hp) : Prop := ∃ (spot : Nat) (acc : List TaleD) (b : Bool) (bs : List Addr) (v : Option V), s.length + 1 ≤ spot + m ∧ spot ≤ s.length ∧ (b = true → spot < s.length) ∧ tailOf step hs s m spot acc b = R ∧ Ext H H' ∧ H' cl = some (.lst (bs.map V.ref)) ∧ TalesAt no H' acc bs ∧ acc.length + m ≤ s.length + 1 ∧
  σ = [some (.ref o), some (.str z), some (.int (i : Nat)), some (.int (D' + 1 : Nat)), some (.ref hd), some (.str h), some (.int (k : Nat)), some (.bl f), some (.int (spot : Nat)), some (.ref cl), some (.bl b), v]
section
variable {P : Program} {w : World} {K : PySem.W.Frag} {mg : Str → Option Value} {base : Heap}
def sp_read_call (K : PySem.W.Frag) (d : Nat) : Sp := fun vs H Q _ => ∃ (S : Addr → Prop) (o : Addr) (n : NetD) (z : Str) (i D : Nat), vs = [.ref o, .str z, .int (i : Nat), .int (D : Nat)] ∧ D < d ∧ NetAt S K H o n ∧ z.length ≤ 1000000 ∧ ∀ r H', Ext H H' → RetAt H' r (callOf n z.cps.toList D i) → Q (.ref r) H'
theorem z_read_call {K : PySem.W.Frag} {vs : List V} {H : Hp} {Q : VK} {E : XK} (h : sp_read_call K 0 vs H Q E) : False := by
  obtain ⟨_, _, _, _, _, D, _, hd, _⟩ := h
  omega
theorem sc_read_call : FnScope ["net", "text", "at", "depth", "head", "house", "number", "faulty", "spot", "calls", "is_open", "found"] ["net", "text", "at", "depth"] (defScope s_read_call) := ⟨rfl, rfl, rfl, by decide +kernel, rfl, by decide +kernel, by decide +kernel⟩
theorem st_read_call (x : Fx K mg w) (d : Nat) (ih : FnR P w K mg base CX0 (5 + d) (a_read_call K) (sp_read_call K d)) : FnR P w K mg base CX0 (5 + d + 1) (a_read_call K) (sp_read_call K (d + 1)) := by
  refine okR x.F_read_call sc_read_call (fun _ _ _ _ _ _ us hl => match us, hl with | [_, _, _, _], _ => rfl) (fun vs H Q E h => by obtain ⟨S, o, n, z, i, D, rfl, Dd, tn, zl, hQ⟩ := h; rfl) (fun cdv A outer s H vs Q E hr h => ?_)
  obtain ⟨S, o, n, z, i, D, rfl, Dd, tn, zl, hQ⟩ := h
  refine ⟨_, (pss_cons (ps_set (i := 4) sc_read_call.nd rfl (Or.inl rfl) (pe_callR (ok_read_head x) (hr.mono (by omega)) rfl x.m_read_head (keep_of x.F_read_head) pass0 (pa_cons (pv 0) (pa_cons (pv 1) (pa_cons (pv 2) pa_nil)))))
 (pss_cons (ps_if (PW.pt (pw_or (pt_cmpR (show OpR _ _ (rEqTN K false) from op_eqTN hr) (pv 4) (pe_tup pa_nil) (nomark _)) (pw_or1 (pt_cmpR op_eq (pv 3) pe_int (nomark _)))))
 (pss_one (ps_ret (pe_tup pa_nil)))
 pss_nil)
 (pss_cons (ps_asg (pv 4) (pg_tupK (K := K) (n := 4) rfl rfl (pgs_cons (pg_name (i := 5) sc_read_call.nd rfl (Or.inl rfl)) (pgs_cons (pg_name (i := 6) sc_read_call.nd rfl (Or.inl rfl)) (pgs_cons (pg_name (i := 7) sc_read_call.nd rfl (Or.inl rfl)) (pgs_cons (pg_name (i := 8) sc_read_call.nd rfl (Or.inl rfl)) pgs_nil))))))
 (pss_cons (ps_par (i := 9) (j := 10) rfl sc_read_call.nd rfl rfl (by decide) rfl rfl (pa_cons (pe_lst pa_nil) (pa_cons (pe_cmpR op_eq (pe_slice sl_str (pv 1) (po_some (pv 8)) (po_some (pe_op op_add (pv 8) pe_int))) pe_str (nomark _)) pa_nil)) (by rfl))
 (pss_cons (ps_while PassesOwn.never (pt_val (pv 10))
 (pss_cons (ps_set (i := 11) sc_read_call.nd rfl (Or.inl rfl) (pe_callR ih (hr.mono (by omega)) rfl x.m_read_call (keep_of x.F_read_call) pass0 (pa_cons (pv 0) (pa_cons (pv 1) (pa_cons (pe_op op_add (pv 8) pe_int) (pa_cons (pe_op op_sub (pv 3) pe_int) pa_nil))))))
 (pss_cons (ps_if (PW.pt (pw_or (pt_cmpR (show OpR _ _ (rEqTN K false) from op_eqTN hr) (pv 11) (pe_tup pa_nil) (nomark _)) (pw_or1 (pt_cmpR (show OpR _ _ (rIn K true) from op_notIn_seq) (pe_ix (r := rIxT K) ix_tup (pe_ix (r := rIxT K) ix_tup (pv 11) pe_int (fun _ _ => rfl)) pe_int (fun _ _ => rfl)) (pe_propR (pe_getI x.sp_Net_getitem x.fi_Net_getitem x.fn_Net_getitem (ok_Net_getitem x) (hr.mono (by omega)) pass0 (pv 0) (pv 5)) x.cl_House x.p_House_calls (ok_House_calls x) (hr.mono (by omega)) pass0) rfl))))
 (pss_one (ps_ret (pe_tup pa_nil)))
 pss_nil)
 (pss_cons (ps_expr (pe_bmK (K := K) rfl PySem.F.plainAttrs_list PySem.F.slot_list_append PySem.F.type_list_append mt_append (pv 9) (pa_cons (pe_ix (r := rIxT K) ix_tup (pv 11) pe_int (fun _ _ => rfl)) pa_nil)))
 (pss_cons (ps_set (i := 8) sc_read_call.nd rfl (Or.inl rfl) (pe_ix (r := rIxT K) ix_tup (pv 11) pe_int (fun _ _ => rfl)))
 (pss_one (ps_set (i := 10) sc_read_call.nd rfl (Or.inl rfl) (pe_cmpR op_eq (pe_slice sl_str (pv 1) (po_some (pv 8)) (po_some (pe_op op_add (pv 8) pe_int))) pe_str (nomark _)))))))))
 (pss_cons (ps_if (pt_cmpR (show OpR _ _ (rEqNil K false) from op_eqNil hr) (pv 9) (pe_lst pa_nil) (nomark _))
 (pss_one (ps_ret (pe_tup (pa_cons (pe_tup (pa_cons (pv 5) (pa_cons (pv 6) (pa_cons (pv 7) (pa_cons (pe_tup pa_nil) pa_nil))))) (pa_cons (pv 8) pa_nil)))))
 pss_nil)
 (pss_cons (ps_if (pt_cmpR op_ne (pe_slice sl_str (pv 1) (po_some (pv 8)) (po_some (pe_op op_add (pv 8) pe_int))) pe_str (nomark _))
 (pss_one (ps_ret (pe_tup pa_nil)))
 pss_nil)
 (pss_one (ps_ret (pe_tup (pa_cons (pe_tup (pa_cons (pv 5) (pa_cons (pv 6) (pa_cons (pv 7) (pa_cons (pe_callTy (r := rTupOf K) call_tupK rfl x.n_tuple bb_tuple (pa_cons (pv 9) pa_nil)) pa_nil))))) (pa_cons (pe_op op_add (pv 8) pe_int) pa_nil)))))))))))), ?_⟩
  have hz : z.length = z.cps.toList.length := by rw [Array.length_toList]; rfl
  have zs : z.length ≤ sizeLine := szB zl
  refine ⟨_, rfl, _, rfl, _, rfl, S, o, n, z, i, rfl, tn, zl, fun hd H1 e1 hh => ?_⟩
  dsimp only [gName]
  generalize es : z.cps.toList = s at hz hQ hh
  have tn1 := tn.ext e1
  cases hd' : headOf n s i with
  | none =>
    rw [hd'] at hh
    have ho : callOf n s D i = none := by
      cases D with
      | zero => rw [callOf]
      | succ D => rw [callOf, hd']
    rw [ho] at hQ
    refine ⟨_, rfl, by simp, fun l2 n2 => ⟨hd, l2, [], rfl, rfl, .of (ext_new n2 _ _ hh), .of upd_same, _, rfl, ifT rfl ?_⟩⟩
    exact ⟨by simp, fun r nr => hQ r _ (e1.trans ((ext_new n2).trans (ext_new nr))) upd_same⟩
  | some q =>
    obtain ⟨h, k, f, j⟩ := q
    rw [hd'] at hh
    have hh : H1 hd = some (.tup [.str h, .int (k : Nat), .bl f, .int (j : Nat)]) := hh
    obtain ⟨hn, ij, jl, hk, k1, hf⟩ := head_some hd'
    refine ⟨_, rfl, by simp, fun l2 n2 => ⟨hd, l2, _, rfl, rfl, .of (ext_new n2 _ _ hh), .of upd_same, _, rfl, ifF rfl ?_⟩⟩
    have e2 : Ext H1 (upd H1 l2 (.tup [])) := ext_new n2
    generalize upd H1 l2 (.tup []) = H2 at e2
    have hh2 := e2 _ _ hh
    refine ⟨_, rfl, rfl, _, rfl, ifb (fun z0 => ?_) fun z0 => ?_⟩
    · have : D = 0 := by
        have := of_decide_eq_true z0
        injection this with this
        omega
      subst this
      rw [callOf] at hQ
      exact ⟨by simp, fun r nr => hQ r _ (e1.trans (e2.trans (ext_new nr))) upd_same⟩
    obtain ⟨D', rfl⟩ : ∃ D', D = D' + 1 := by
      refine ⟨D - 1, ?_⟩
      have := of_decide_eq_false z0
      have : D ≠ 0 := fun z => this (by rw [z]; rfl)
      omega
    have c0 : ∀ j : Nat, cutS z (some (j : Int)) (some ((j : Int) + 1)) = pieceOf s j (j + 1) := fun j => by
      have := cut_piece z (show j ≤ j + 1 by omega)
      rw [es] at this
      exact this
    refine ⟨_, rfl, hd, _, rfl, SqT.of hh2, rfl, _, _, rfl, _, _, rfl, _, _, rfl, _, _, rfl, rfl, ?_⟩
    dsimp only [gName]
    have hco : callOf n s (D' + 1) i = match tailOf (callOf n s D') (getH n.houses h).calls s (s.length + 1) j [] (decide (s[j]? = some 40)) with
      | none => none
      | some ([], e) => some (.mk h k f [], e)
      | some (c :: cs, e) => if s[e]? = some 41 then some (.mk h k f (c :: cs), e + 1) else none := by
      rw [callOf, hd']
      rfl
    generalize eR : tailOf (callOf n s D') (getH n.houses h).calls s (s.length + 1) j [] (decide (s[j]? = some 40)) = R at hco
    refine ⟨by simp, fun cl ncl => ?_⟩
    have e3 : Ext H2 (upd H2 cl (.lst [])) := ext_new ncl
    have hcl : (upd H2 cl (.lst [])) cl = some (.lst []) := upd_same
    generalize upd H2 cl (.lst []) = H3 at e3 hcl
    have e03 := e1.trans (e2.trans e3)
    have nH : H cl = none := ext_none (e1.trans e2) ncl
    refine ⟨_, rfl, _, rfl, _, rfl, _, rfl, _, _, rfl, rfl, _, rfl, z, rfl, zs, rfl, _, _, rfl, ?_⟩
    rw [c0, open_eq]
    dsimp only
    refine seq_cut (fun σ' H' => ∃ (cs : List TaleD) (e : Nat) (bs : List Addr) (v : Option V), R = some (cs, e) ∧ e ≤ s.length ∧ Ext H H' ∧ H' cl = some (.lst (bs.map V.ref)) ∧ TalesAt no H' cs bs ∧ σ' = [some (.ref o), some (.str z), some (.int (i : Nat)), some (.int (D' + 1 : Nat)), some (.ref hd), some (.str h), some (.int (k : Nat)), some (.bl f), some (.int (e : Nat)), some (.ref cl), some (.bl false), v]) ?_ fun tail => ?_
    · rintro σ' H4 ⟨cs, e, bs, v, rfl, el, e4, hcl4, ht4, rfl⟩
      have lb := Paired.length (talesAt_paired.mp ht4)
      refine ⟨_, rfl, by simp, fun l3 n3 => ⟨cl, l3, _, rfl, rfl, .of (ext_new n3 _ _ hcl4), .of upd_same, _, rfl, ?_⟩⟩
      have e5 : Ext H4 (upd H4 l3 (.lst [])) := ext_new n3
      generalize upd H4 l3 (.lst []) = H5 at e5
      have hcl5 := e5 _ _ hcl4
      have e05 := e4.trans e5
      have ht5 : TalesAt no H5 cs bs := TalesAt.tr (fun a xs w => ⟨e5 _ _ w.1, w.2⟩) cs bs ht4
      refine ifb (fun q => ?_) fun q => ?_
      · have hc : cs = [] := by
          cases cs with
          | nil => rfl
          | cons c cs => cases bs with
            | nil => cases lb
            | cons b bs => cases q
        subst hc
        dsimp only at hco
        rw [hco] at hQ
        refine ⟨_, rfl, _, rfl, _, rfl, by simp, fun p0 np0 => ⟨by simp [sizeLine_eq], fun pt npt => ⟨_, rfl, by simp [sizeLine_eq], fun r nr => ?_⟩⟩⟩
        have x1 : Ext H5 (upd H5 p0 (.tup [])) := ext_new np0
        have y1 : (upd H5 p0 (.tup [])) p0 = some (.tup []) := upd_same
        generalize upd H5 p0 (.tup []) = H6 at x1 y1 npt nr ⊢
        have x2 : Ext H6 (upd H6 pt (.tup [.str h, .int (k : Nat), .bl f, .ref p0])) := ext_new npt
        have y2 : (upd H6 pt (.tup [.str h, .int (k : Nat), .bl f, .ref p0])) pt = some (.tup [.str h, .int (k : Nat), .bl f, .ref p0]) := upd_same
        generalize upd H6 pt (.tup [.str h, .int (k : Nat), .bl f, .ref p0]) = H7 at x2 y2 nr ⊢
        have x3 : Ext H7 (upd H7 r (.tup [.ref pt, .int (e : Nat)])) := ext_new nr
        exact hQ r _ (e05.trans (x1.trans (x2.trans x3))) ⟨pt, upd_same, by rw [TaleAt]; exact ⟨p0, [], ⟨x3 _ _ y2, fun z => z⟩, ⟨x3 _ _ (x2 _ _ y1), fun z => z⟩, by rw [TalesAt]⟩⟩
      · obtain ⟨c, cs', rfl⟩ : ∃ c cs', cs = c :: cs' := by
          cases cs with
          | nil => cases bs with
            | nil => cases q
            | cons b bs => cases lb
          | cons c cs => exact ⟨c, cs, rfl⟩
        dsimp only at hco
        refine ⟨_, rfl, _, rfl, _, rfl, _, rfl, _, _, rfl, rfl, _, rfl, z, rfl, zs, rfl, _, rfl, ?_⟩
        rw [c0, shut_eq]
        refine ifb (fun q2 => ?_) fun q2 => ?_
        · have q2 : ¬ s[e]? = some 41 := by simpa using q2
          rw [if_neg q2] at hco
          rw [hco] at hQ
          exact ⟨by simp, fun r' nr => hQ r' _ (e05.trans (ext_new nr)) upd_same⟩
        · have q2 : s[e]? = some 41 := by simpa using q2
          rw [if_pos q2] at hco
          rw [hco] at hQ
          refine ⟨_, rfl, _, rfl, _, rfl, _, rfl, cl, _, rfl, .inl ⟨.of hcl5, fun p0 np0 => ⟨by simp [sizeLine_eq], fun pt npt => ⟨_, rfl, _, _, rfl, rfl, by simp [sizeLine_eq], fun r nr => ?_⟩⟩⟩⟩
          have x1 : Ext H5 (upd H5 p0 (.tup (bs.map V.ref))) := ext_new np0
          have y1 : (upd H5 p0 (.tup (bs.map V.ref))) p0 = some (.tup (bs.map V.ref)) := upd_same
          generalize upd H5 p0 (.tup (bs.map V.ref)) = H6 at x1 y1 npt nr ⊢
          have x2 : Ext H6 (upd H6 pt (.tup [.str h, .int (k : Nat), .bl f, .ref p0])) := ext_new npt
          have y2 : (upd H6 pt (.tup [.str h, .int (k : Nat), .bl f, .ref p0])) pt = some (.tup [.str h, .int (k : Nat), .bl f, .ref p0]) := upd_same
          generalize upd H6 pt (.tup [.str h, .int (k : Nat), .bl f, .ref p0]) = H7 at x2 y2 nr ⊢
          have x3 : Ext H7 (upd H7 r (.tup [.ref pt, .int ((e : Nat) + 1 : Int)])) := ext_new nr
          have x57 := x1.trans (x2.trans x3)
          exact hQ r _ (e05.trans x57) ⟨pt, upd_same, by rw [TaleAt]; exact ⟨p0, bs, ⟨x3 _ _ y2, fun z => z⟩, ⟨x3 _ _ (x2 _ _ y1), fun z => z⟩, TalesAt.tr (fun a xs w => ⟨x57 _ _ w.1, w.2⟩) _ bs ht5⟩⟩
    · refine ⟨RcI H o hd cl z i D' h k f s (callOf n s D') (getH n.houses h).calls R,
        ⟨s.length + 1, j, [], _, [], _, by omega, jl, fun b => (List.getElem?_eq_some_iff.mp (of_decide_eq_true b)).1, eR, e03, hcl, by rw [TalesAt], by simp, rfl⟩, ?_⟩
      rintro m σ H4 ⟨spot, acc, b, bs, v, hm, hs, hb, hR, e4, hcl4, ht4, hl4, rfl⟩
      refine ⟨_, rfl, _, rfl, ?_⟩
      cases b with
      | false =>
        rw [tailOf] at hR
        exact ifF rfl (tail _ _ ⟨acc, spot, bs, v, hR.symm, hs, e4, hcl4, ht4, rfl⟩)
      | true =>
        refine ifT rfl ?_
        have lt := hb rfl
        obtain ⟨m', rfl⟩ : ∃ m', m = m' + 1 := ⟨m - 1, by omega⟩
        rw [tailOf] at hR
        refine ⟨RcI H o hd cl z i D' h k f s (callOf n s D') (getH n.houses h).calls R m', fun σ' H' w => ⟨m', Nat.lt_succ_self _, w⟩, ?_⟩
        refine ⟨_, rfl, _, rfl, _, rfl, _, _, rfl, rfl, _, rfl, _, _, rfl, rfl, S, o, n, z, spot + 1, D', by simp, by omega, tn.ext e4, zl, fun r H5 e5 hr5 => ?_⟩
        rw [es] at hr5
        dsimp only [gName]
        have e05 := e4.trans e5
        cases hc : callOf n s D' (spot + 1) with
        | none =>
          rw [hc] at hR hr5
          subst hR
          have hr5 : H5 r = some (.tup []) := hr5
          refine ⟨_, rfl, by simp, fun l3 n3 => ⟨r, l3, [], rfl, rfl, .of (ext_new n3 _ _ hr5), .of upd_same, _, rfl, ifT rfl ?_⟩⟩
          rw [hco] at hQ
          exact ⟨by simp, fun r' nr => hQ r' _ (e05.trans ((ext_new n3).trans (ext_new nr))) upd_same⟩
        | some q =>
          obtain ⟨t, e⟩ := q
          rw [hc] at hR hr5
          dsimp only at hR
          obtain ⟨ta, hr5, tt5⟩ := hr5
          obtain ⟨se, el⟩ := call_some hc
          refine ⟨_, rfl, by simp, fun l3 n3 => ⟨r, l3, _, rfl, rfl, .of (ext_new n3 _ _ hr5), .of upd_same, _, rfl, ifF rfl ?_⟩⟩
          have e6 : Ext H5 (upd H5 l3 (.tup [])) := ext_new n3
          generalize upd H5 l3 (.tup []) = H6 at e6
          have e06 := e05.trans e6
          have hr6 := e6 _ _ hr5
          have tt6 := tt5.ext e6
          have hcl6 := e6 _ _ (e5 _ _ hcl4)
          obtain ⟨th, tk, tf, tcs⟩ := t
          have tt6' := tt6
          rw [TaleAt] at tt6'
          obtain ⟨tb, tbs, t1, t2, t3⟩ := tt6'
          have tn6 := tn.ext e06
          obtain ⟨_, _, _, dx, _, _, _, g1, _⟩ := id tn6
          refine ⟨_, rfl, r, _, 0, _, rfl, rfl, SqT.of hr6, atI_nat (j := 0) rfl, ta, _, 0, _, rfl, rfl, SqT.of t1.1, atI_nat (j := 0) rfl, _, rfl, _, rfl, o, dx, _, rfl, g1.1, S, o, n, h, rfl, tn6, hn, fun ho th' => ?_⟩
          obtain ⟨hfit, _, _, hdx, _, _, _, _, qh, _⟩ := id th'
          refine ⟨ho, hdx, _, rfl, qh.1, S, ho, _, rfl, th', fun pc hpc => ⟨pc, _, rfl, .inr (.of hpc.1), rfl, flat_strs _, _, rfl, ?_⟩⟩
          rw [if_pos rfl, inV_str]
          refine ifb (fun q => ?_) fun q => ?_
          · have q : ¬ (TaleD.mk th tk tf tcs).house ∈ (getH n.houses h).calls := show ¬ th ∈ (getH n.houses h).calls by simpa using q
            rw [if_neg q] at hR
            subst hR
            rw [hco] at hQ
            exact ⟨by simp, fun r' nr => hQ r' _ (e06.trans (ext_new nr)) upd_same⟩
          have q : (TaleD.mk th tk tf tcs).house ∈ (getH n.houses h).calls := show th ∈ (getH n.houses h).calls by simpa using q
          rw [if_pos q] at hR
          have lb := Paired.length (talesAt_paired.mp ht4)
          refine ⟨_, rfl, .inl ⟨rfl, _, .of hcl6⟩, _, rfl, r, _, 0, _, rfl, rfl, SqT.of hr6, atI_nat (j := 0) rfl, cl, _, _, rfl, rfl, hcl6, ?_, ?_⟩
          · rw [List.length_map, lb, sizeLine_eq]
            omega
          have tk7 : Tk H6 (upd H6 cl (.lst (bs.map V.ref ++ [.ref ta]))) := Tk.put hcl6 fun _ z => nomatch z
          have hcl7 : (upd H6 cl (.lst (bs.map V.ref ++ [.ref ta]))) cl = some (.lst ((bs ++ [ta]).map V.ref)) := by rw [upd_same]; simp
          have e07 : Ext H (upd H6 cl (.lst (bs.map V.ref ++ [.ref ta]))) := fun b o z => by rw [upd_ne (ne_of_none z nH)]; exact e06 _ _ z
          generalize upd H6 cl (.lst (bs.map V.ref ++ [.ref ta])) = H7 at tk7 hcl7 e07
          have hr7 := tk7 _ _ hr6
          have ht7 : TalesAt no H7 acc bs := TalesAt.tr (fun a xs w => ⟨tk7 _ _ (e6 _ _ (e5 _ _ w.1)), w.2⟩) acc bs ht4
          have tt7 : TaleAt no H7 (TaleD.mk th tk tf tcs) ta := tt6.lk tk7 fun _ _ _ z => z
          refine ⟨_, rfl, r, _, 1, _, rfl, rfl, SqT.of hr7, atI_nat (j := 1) rfl, ?_⟩
          dsimp only [gName]
          refine ⟨_, rfl, _, rfl, _, rfl, _, rfl, _, _, rfl, rfl, _, rfl, z, rfl, zs, rfl, ?_⟩
          rw [c0, blank_eq]
          exact ⟨e, acc ++ [TaleD.mk th tk tf tcs], _, bs ++ [ta], _, by omega, el, fun b => (List.getElem?_eq_some_iff.mp (of_decide_eq_true b)).1, hR, e07, hcl7, talesAt_paired.mpr (paired_app (talesAt_paired.mp ht7) (.cons tt7 .nil)), by rw [List.length_append, List.length_singleton]; omega, rfl⟩
theorem ok_read_call (x : Fx K mg w) : ∀ d : Nat, FnR P w K mg base CX0 (5 + d) (a_read_call K) (sp_read_call K d)
  | 0 => fun _ _ _ _ _ _ _ _ _ _ _ h => (z_read_call h).elim
  | d + 1 => st_read_call x d (ok_read_call x d)
/-- the text of a story -/
def sp_read_story (K : PySem.W.Frag) : Sp := fun vs H Q _ => ∃ (S : Addr → Prop) (o : Addr) (n : NetD) (z : Str) (t : TaleD), vs = [.ref o, .str z] ∧ NetAt S K H o n ∧ z.length ≤ 1000000 ∧ callOf n z.cps.toList 30 0 = some (t, z.length) ∧ t.house ∈ n.entries ∧ t.count ≤ 60 ∧ ∀ a H', Ext H H' → TaleAt no H' t a → Q (.ref a) H'
theorem sc_read_story : FnScope ["net", "text", "found"] ["net", "text"] (defScope s_read_story) := ⟨rfl, rfl, rfl, by decide +kernel, rfl, by decide +kernel, by decide +kernel⟩
theorem okf_read_story {fd : FuncData} {dvs : List V} (F : FunD K "read_story" "read_story" (defArgs s_read_story) (defBody s_read_story) (defScope s_read_story) dvs [] (a_read_story K) fd) (x : Fx K mg w) : FnOk P w K mg base CX0 37 (a_read_story K) fd ["net", "text"] (sp_read_story K) := by
  refine okFD F sc_read_story (fun vs H Q E h => by obtain ⟨S, o, n, z, t, rfl, tn, zl, hc, he, tc, hQ⟩ := h; rfl) (fun cdv A outer s H vs Q E hr h => ?_)
  obtain ⟨S, o, n, z, t, rfl, tn, zl, hc, he, tc, hQ⟩ := h
  refine ⟨_, (pss_cons (ps_expr (pe_callR (ok_need_net x) (hr.mono (by decide)) rfl x.m_need_net (keep_of x.F_need_net) pass0 (pa_cons (pv 0) pa_nil)))
 (pss_cons (ps_set (i := 2) sc_read_story.nd rfl (Or.inl rfl) (pe_ifExp (pt_val (pe_callB (r := rIsi K) call_isi rfl x.n_isinstance bb_isinstance (pa_cons (pv 1) (pa_cons (pe_gT x.n_str (by rfl) rfl) pa_nil)))) (pe_callR (ok_read_call x 31) (hr.mono (by decide)) rfl x.m_read_call (keep_of x.F_read_call) pass0 (pa_cons (pv 0) (pa_cons (pv 1) (pa_cons pe_int (pa_cons (pe_gI x.i_MOST_DEPTH rfl) pa_nil))))) (pe_tup pa_nil)))
 (pss_cons (ps_if (PW.pt (pw_or (pt_cmpR (show OpR _ _ (rEqTN K false) from op_eqTN hr) (pv 2) (pe_tup pa_nil) (nomark _)) (pw_or (pt_cmpR op_ne (pe_ix (r := rIxT K) ix_tup (pv 2) pe_int (fun _ _ => rfl)) (pe_callB call_len_str rfl x.n_len bb_len (pa_cons (pv 1) pa_nil)) (nomark _)) (pw_or1 (pt_cmpR (show OpR _ _ (rIn K true) from op_notIn_seq) (pe_ix (r := rIxT K) ix_tup (pe_ix (r := rIxT K) ix_tup (pv 2) pe_int (fun _ _ => rfl)) pe_int (fun _ _ => rfl)) (pe_propR (pv 0) x.cl_Net x.p_Net_entries (ok_Net_entries x) (hr.mono (by decide)) pass0) rfl)))))
 (pss_one ps_never)
 pss_nil)
 (pss_cons (ps_if (pt_cmpR op_gt (pe_callB call_lenT rfl x.n_len bb_len (pa_cons (pe_callR (ok_calls_in x) (hr.mono (by decide)) rfl x.m_calls_in (keep_of x.F_calls_in) pass0 (pa_cons (pe_ix (r := rIxT K) ix_tup (pv 2) pe_int (fun _ _ => rfl)) pa_nil)) pa_nil)) (pe_gI x.i_MOST_CALLS rfl) (nomark _))
 (pss_one ps_never)
 pss_nil)
 (pss_one (ps_ret (pe_ix (r := rIxT K) ix_tup (pv 2) pe_int (fun _ _ => rfl)))))))), ?_⟩
  have zs : z.length ≤ sizeLine := szB zl
  refine ⟨_, rfl, S, o, n, rfl, tn, ?_⟩
  refine ⟨_, rfl, _, _, _, _, true, rfl, .ty _, .base (.str z), kit_ty (by decide +kernel), true, rfl, ifT rfl ?_⟩
  refine ⟨_, rfl, _, rfl, S, o, n, z, 0, 30, rfl, by omega, tn, zl, fun r H1 e1 hr => ?_⟩
  rw [hc] at hr
  obtain ⟨a, hr, ta⟩ := hr
  dsimp only [gName]
  refine ⟨_, rfl, by simp, fun l2 n2 => ⟨r, l2, _, rfl, rfl, .of (ext_new n2 _ _ hr), .of upd_same, _, rfl, ifF rfl ?_⟩⟩
  have e2 : Ext H1 (upd H1 l2 (.tup [])) := ext_new n2
  generalize upd H1 l2 (.tup []) = H2 at e2
  have hr := e2 _ _ hr
  have ta := ta.ext e2
  have e02 := e1.trans e2
  refine ⟨_, rfl, r, _, 1, _, rfl, rfl, SqT.of hr, atI_nat (j := 1) rfl, _, rfl, z, rfl, zs, rfl, _, rfl, ifF (by simp) ?_⟩
  obtain ⟨h, k, f, cs⟩ := t
  have ta' := ta
  rw [TaleAt] at ta'
  obtain ⟨b, bs, t1, t2, t3⟩ := ta'
  have tn2 := tn.ext e02
  obtain ⟨_, _, _, dx, _, _, _, g1, _⟩ := id tn2
  have he : h ∈ n.entries := he
  refine ⟨_, rfl, r, _, 0, _, rfl, rfl, SqT.of hr, atI_nat (j := 0) rfl, a, _, 0, _, rfl, rfl, SqT.of t1.1, atI_nat (j := 0) rfl, _, rfl, o, dx, _, rfl, g1.1, S, o, n, rfl, tn2, fun pe hpe => ⟨pe, _, rfl, .inr (.of hpe.1), rfl, flat_strs _, _, rfl, ifF (by rw [if_pos rfl, inV_str]; simp [he]) ?_⟩⟩
  refine ⟨_, rfl, r, _, 0, _, rfl, rfl, SqT.of hr, atI_nat (j := 0) rfl, no, a, _, rfl, ta, by omega, fun d H3 kvs e3 nd hd hrow => ⟨d, kvs, rfl, .inl hd, ?_⟩⟩
  have lr := Paired.length hrow
  rw [row_len] at lr
  refine ⟨_, _, rfl, rfl, _, rfl, ifF (by rw [lr]; simp; omega) ?_⟩
  exact ⟨_, rfl, r, _, 0, _, rfl, rfl, SqT.of (e3 _ _ hr), atI_nat (j := 0) rfl, hQ a H3 (e02.trans e3) (ta.ext e3)⟩
theorem ok_read_story (x : Fx K mg w) : FnR P w K mg base CX0 37 (a_read_story K) (sp_read_story K) := by
  obtain ⟨fd, F⟩ := x.F_read_story
  exact FnR.imp ((okf_read_story F x).raw (F.bindsN fun _ _ _ _ _ _ us hl => match us, hl with | [_, _], _ => rfl) .nil) fun vs H Q E h => by rwa [List.append_nil]
theorem okk_read_story (x : Fx K mg w) : FnRK P w K mg base CX0 37 (a_read_story K) 0 ["net", "text"] (sp_read_story K) := by
  obtain ⟨fd, F⟩ := x.F_read_story
  exact rawK (okf_read_story F x) (bindsK0 F fun _ _ _ _ _ _ us ws h1 h2 => match us, ws, h1, h2 with | [], [_, _], _, _ => rfl)
theorem okq_read_story (x : Fx K mg w) : FnRK P w K mg base CX0 37 (a_read_story K) 0 ["text", "net"] (swapSp (sp_read_story K)) := by
  obtain ⟨fd, F⟩ := x.F_read_story
  exact rawKs (okf_read_story F x) (bindsKs F fun _ _ _ _ _ _ _ _ => rfl)
end
end Ws

set_option Elab.async false
set_option linter.all false
set_option maxRecDepth 100000
set_option maxHeartbeats 4000000
namespace Ws
open PySem PySem.Spec PyProof.Rows L2
structure CallD where
  house : Str
  number : Nat
  faulty : Bool
def CallD.vs (c : CallD) : List V := [.str c.house, .int (c.number : Nat), .bl c.faulty]
abbrev Cds := List (List Nat × CallD)
def getC (cs : Cds) (p : List Nat) : CallD := match cs.find? fun e => decide (e.1 = p) with
  | some e => e.2
  | none => ⟨"", 0, false⟩
theorem getC_of : ∀ {cs : Cds} {p : List Nat} {c : CallD}, (cs.map (·.1)).Nodup → (p, c) ∈ cs → getC cs p = c
  | e :: cs, p, c, nd, h => by
    rw [List.map_cons, List.nodup_cons] at nd
    unfold getC
    by_cases x : e.1 = p
    · rw [List.find?_cons_of_pos (by simp [x])]
      rcases List.mem_cons.mp h with rfl | h
      · rfl
      · exact absurd (List.mem_map.mpr ⟨_, h, x.symm⟩) nd.1
    · rw [List.find?_cons_of_neg (by simp [x])]
      rcases List.mem_cons.mp h with rfl | h
      · exact absurd rfl x
      · exact getC_of nd.2 h
def isKid (p q : List Nat) : Bool := decide (q.length = p.length + 1) && decide (q.dropLast = p)
theorem isKid_iff {p q : List Nat} : isKid p q = true ↔ ∃ j, q = p ++ [j] := by
  unfold isKid
  constructor
  · intro h
    rw [Bool.and_eq_true] at h
    have h1 := of_decide_eq_true h.1
    have h2 := of_decide_eq_true h.2
    have ne : q ≠ [] := fun z => by rw [z] at h1; simp at h1
    refine ⟨q.getLast ne, ?_⟩
    rw [← h2]
    exact (List.dropLast_concat_getLast ne).symm
  · rintro ⟨j, rfl⟩
    simp
def pLe (a b : List Nat) : Bool := !pLt b a
theorem pLe_trans : ∀ (a b c : List Nat), pLe a b = true → pLe b c = true → pLe a c = true
  | [], b, c, _, _ => by
    cases c with
    | nil => rfl
    | cons z c => rfl
  | x :: a, [], c, h, _ => by simp [pLe, pLt] at h
  | x :: a, y :: b, [], _, h => by simp [pLe, pLt] at h
  | x :: a, y :: b, z :: c, h, g => by
    unfold pLe at h g ⊢
    rw [pLt] at h g ⊢
    by_cases e1 : y = x
    · subst e1
      rw [if_pos rfl] at h
      by_cases e2 : z = y
      · subst e2
        rw [if_pos rfl] at g ⊢
        exact pLe_trans a b c h g
      · rw [if_neg e2] at g ⊢
        exact g
    · rw [if_neg e1] at h
      have h' : ¬ y < x := by simpa using h
      by_cases e2 : z = y
      · subst e2
        rw [if_neg e1]
        simpa using h'
      · rw [if_neg e2] at g
        have g' : ¬ z < y := by simpa using g
        rw [if_neg (by omega)]
        simp
        omega
theorem pLe_total (a b : List Nat) : (pLe a b || pLe b a) = true := by
  unfold pLe
  cases h : pLt b a with
  | false => rfl
  | true => rw [pLt_asy h]; rfl
/-- the calls of the call at p, ascending -/
def kidsS (cs : Cds) (p : List Nat) : List (List Nat) := ((cs.map (·.1)).filter (isKid p)).mergeSort pLe
theorem kidsS_perm (cs : Cds) (p : List Nat) : (kidsS cs p).Perm ((cs.map (·.1)).filter (isKid p)) := List.mergeSort_perm _ _
theorem kidsS_of {cs : Cds} {p : List Nat} {ks : List (List Nat)} (h : ks.Perm ((cs.map (·.1)).filter (isKid p))) (s : ks.Pairwise fun a b => pLt b a = false) : ks = kidsS cs p := by
  refine List.Perm.eq_of_pairwise (le := fun a b => pLt b a = false) (fun a b _ _ h1 h2 => pLt_tot h2 h1) s ?_ (h.trans (kidsS_perm cs p).symm)
  refine (List.pairwise_mergeSort pLe_trans pLe_total _).imp fun {a b} z => ?_
  unfold pLe at z
  simpa using z
theorem kidsS_mem {cs : Cds} {p q : List Nat} (h : q ∈ kidsS cs p) : q ∈ cs.map (·.1) ∧ ∃ j, q = p ++ [j] := by
  have := List.mem_filter.mp ((kidsS_perm cs p).mem_iff.mp h)
  exact ⟨this.1, isKid_iff.mp this.2⟩
theorem kidsS_len (cs : Cds) (p : List Nat) : (kidsS cs p).length ≤ cs.length := by
  rw [(kidsS_perm cs p).length_eq]
  refine Nat.le_trans (List.length_filter_le _ _) ?_
  rw [List.length_map]
  exact Nat.le_refl _
def treeOf (cs : Cds) : Nat → List Nat → TaleD
  | 0, p => .mk (getC cs p).house (getC cs p).number (getC cs p).faulty []
  | d + 1, p => .mk (getC cs p).house (getC cs p).number (getC cs p).faulty ((kidsS cs p).map (treeOf cs d))
/-- the dict of the calls stands at d -/
def CallsAt (S : Addr → Prop) (H : Hp) (kvs : List (List L2.Key × V)) (cs : Cds) : Prop := Paired (fun kv e => kv.1 = pathK e.1 ∧ ∃ a, kv.2 = .ref a ∧ At S H a (.tup e.2.vs)) kvs cs
section
variable {S : Addr → Prop} {H H1 : Hp} {kvs : List (List L2.Key × V)} {cs : Cds}
theorem CallsAt.kp (h : CallsAt S H kvs cs) (u : Kp S H H1) : CallsAt S H1 kvs cs := Paired.mapP h fun _ _ ⟨h1, a, h2, h3⟩ => ⟨h1, a, h2, h3.kp u⟩
theorem CallsAt.ext (h : CallsAt S H kvs cs) (u : Ext H H1) : CallsAt S H1 kvs cs := h.kp (.ext u)
theorem CallsAt.free (h : CallsAt S H kvs cs) : CallsAt no H kvs cs := Paired.mapP h fun _ _ ⟨h1, a, h2, h3⟩ => ⟨h1, a, h2, h3.free⟩
theorem CallsAt.keys : ∀ {kvs : List (List L2.Key × V)} {cs : Cds}, CallsAt S H kvs cs → kvs.map (·.1) = cs.map fun e => pathK e.1
  | _, _, .nil => rfl
  | _, _, .cons ⟨h1, _⟩ t => by rw [List.map_cons, List.map_cons, h1, CallsAt.keys t]
theorem CallsAt.get : ∀ {kvs : List (List L2.Key × V)} {cs : Cds} {p : List Nat}, CallsAt S H kvs cs → p ∈ cs.map (·.1) → ∃ a, valV kvs (pathK p) = some (.ref a) ∧ At S H a (.tup (getC cs p).vs)
  | _, _, p, .nil, h => by simp at h
  | kv :: kvs, e :: cs, p, .cons ⟨h1, a, h2, h3⟩ t, h => by
    by_cases x : e.1 = p
    · refine ⟨a, by rw [valV_pos (by rw [h1, x]), h2], ?_⟩
      unfold getC
      rw [List.find?_cons_of_pos (by simp [x])]
      exact h3
    · rw [List.map_cons] at h
      obtain ⟨b, g1, g2⟩ := CallsAt.get t ((List.mem_cons.mp h).resolve_left fun z => x z.symm)
      refine ⟨b, ?_, ?_⟩
      · rw [valV_neg, g1]
        intro z
        rw [h1] at z
        exact x (pathK_inj z)
      · unfold getC
        rw [List.find?_cons_of_neg (by simp [x])]
        exact g2
end
end Ws

set_option Elab.async false
set_option linter.all false
set_option maxRecDepth 100000
set_option maxHeartbeats 4000000
namespace Ws
open PySem PySem.Spec PyProof.Rows L2 PySem.W
abbrev PathAt (H : Hp) (b : Addr) (p : List Nat) : Prop := H b = some (.tup (pathV p))
theorem path_dps {K : PySem.W.Frag} {H : Hp} : ∀ p : List Nat, DpAll K H (pathV p) (p.map fun i => PyData.int (i : Nat))
  | [] => .nil
  | i :: p => .cons (.int _) (path_dps p)
theorem path_dp {K : PySem.W.Frag} {H : Hp} {b : Addr} {p : List Nat} (h : PathAt H b p) : Dp K H (.ref b) (pathD p) := .tup (SqT.of h) (path_dps p)
theorem paths_dp {K : PySem.W.Frag} {H : Hp} : ∀ {bs : List Addr} {ps : List (List Nat)}, Paired (PathAt H) bs ps → DpAll K H (bs.map V.ref) (ps.map pathD)
  | _, _, .nil => .nil
  | _, _, .cons h t => .cons (path_dp h) (paths_dp t)
theorem ints_depth0 : ∀ p : List Nat, PyData.depthAll (p.map fun i => PyData.int ((i : Nat) : Int)) = 0
  | [] => rfl
  | i :: p => by rw [List.map_cons, PyData.depthAll, ints_depth0 p]; rfl
theorem path_depth (p : List Nat) : (pathD p).depth ≤ 1 := by
  unfold pathD
  rw [PyData.depth, ints_depth0]
  exact Nat.le_refl _
theorem path_shaped (p : List Nat) : SeqAt.shaped (pathD p) = true := by
  have h := ints_shaped (p.map fun i => ((i : Nat) : Int))
  unfold SeqAt.shaped at h ⊢
  unfold pathD
  rw [List.map_map] at h
  simpa [PyData.canLay0, PyData.depth, Function.comp_def] using h
theorem path_eqv : ∀ p q : List Nat, PyData.eqvAll (p.map fun i => PyData.int ((i : Nat) : Int)) (q.map fun i => PyData.int ((i : Nat) : Int)) = decide (p = q)
  | [], [] => rfl
  | [], _ :: _ => rfl
  | _ :: _, [] => rfl
  | x :: p, y :: q => by
    rw [List.map_cons, List.map_cons, PyData.eqvAll, path_eqv p q, PyData.eqv]
    by_cases h : x = y
    · subst h
      simp
    · have : ((x : Int) == (y : Int)) = false := by simp; omega
      rw [this]
      simp [h]
theorem path_eq (p q : List Nat) : PyData.eqv (pathD p) (pathD q) = decide (p = q) := by
  unfold pathD
  rw [PyData.eqv]
  exact path_eqv p q
/-- what sorted gives of paths -/
theorem sorted_paths {H : Hp} {bs : List Addr} {ps : List (List Nat)} (h : Paired (PathAt H) bs ps) {es : List (V × PyData)} (pm : es.Perm ((bs.map V.ref).zip (ps.map pathD))) (pw : es.Pairwise DUp) :
    ∃ (cs : List Addr) (qs : List (List Nat)), es.map (·.1) = cs.map V.ref ∧ Paired (PathAt H) cs qs ∧ qs.Perm ps ∧ qs.Pairwise fun a b => pLt b a = false := by
  rw [List.zip_map] at pm
  obtain ⟨M, rfl, pM⟩ := perm_back pm rfl
  have all : ∀ m ∈ M, PathAt H m.1 m.2 := fun m hm => paired_zip h (pM.mem_iff.mp hm)
  refine ⟨M.map Prod.fst, M.map Prod.snd, by rw [List.map_map, List.map_map]; rfl, ?_, ?_, ?_⟩
  · clear pM pw pm
    induction M with
    | nil => exact .nil
    | cons m M ih => exact .cons (all m List.mem_cons_self) (ih fun x hx => all x (List.mem_cons_of_mem _ hx))
  · refine (pM.map Prod.snd).trans ?_
    rw [List.map_snd_zip (by rw [Paired.length h]; exact Nat.le_refl _)]
  · rw [List.pairwise_map] at pw ⊢
    refine pw.imp fun {m m'} z => ?_
    have z : dataLt (pathD m'.2) (pathD m.2) = false := z
    rwa [dataLt_path] at z
section
variable {d : Addr} {od : Obj} {kvs : List (List L2.Key × V)} {H1 : Hp} {g : TG} {tt : TT} {te : TE} {vs : List Nat} {σ : L2.St} {D : Addr} {Qd : Hp → Prop} {ks : List (List Nat)}
/-- the paths of a dict that keep a test -/
theorem lc_keys (hd : H1 d = some (.frz od (.dT kvs))) (hk : kvs.map (·.1) = ks.map pathK) (hD : H1 D = none) (f : List Nat → Bool) (hl : kvs.length ≤ 1000)
    (hs : ∀ (p : List Nat) (q : Addr) (H : Hp) (Nx : Hp → Prop), p ∈ ks → PathAt H q p → Ext H1 H → (∀ H4, Ext H H4 → f p = true → ∃ acc, H4 D = some (.lst acc) ∧ acc.length < sizeLine ∧ Nx (upd H4 D (.lst (acc ++ [.ref q])))) → (∀ H3, Ext H H3 → f p = false → Nx H3) →
      g (.ref q) (wipe σ vs) H fun σ2 H2 => wipe σ2 vs = wipe σ vs ∧ tt σ2 H2 fun b H3 =>
        if b = true then te σ2 H3 fun y H4 => ∃ acc, H4 D = some (.lst acc) ∧ acc.length < sizeLine ∧ Nx (upd H4 D (.lst (acc ++ [y]))) else Nx H3)
    (hd' : ∀ (H : Hp) (qs : List Addr), Ext H1 H → H D = some (.lst (qs.map V.ref)) → Paired (PathAt H) qs (ks.filter f) → Qd H) :
    ∃ W : Nat → Nat → Hp → Prop, (∃ m, W 0 m (upd H1 D (.lst []))) ∧ ∀ i m H, W i m H →
      ((Itkt d od kvs).stop i H ∧ Qd H) ∨ ((Itkt d od kvs).go i H ∧ ∃ Nx : Hp → Prop, (∀ H', Nx H' → ∃ m', m' < m ∧ W (i + 1) m' H') ∧ ∀ x H', (Itkt d od kvs).yld i H x H' → g x (wipe σ vs) H' fun σ2 H2 => wipe σ2 vs = wipe σ vs ∧ tt σ2 H2 fun b H3 =>
        if b = true then te σ2 H3 fun y H4 => ∃ acc, H4 D = some (.lst acc) ∧ acc.length < sizeLine ∧ Nx (upd H4 D (.lst (acc ++ [y]))) else Nx H3) := by
  have lk : kvs.length = ks.length := by have := congrArg List.length hk; simpa using this
  refine ⟨fun i m H => m = kvs.length - i ∧ i ≤ kvs.length ∧ Ext H1 H ∧ ∃ qs : List Addr, H D = some (.lst (qs.map V.ref)) ∧ Paired (PathAt H) qs ((ks.take i).filter f), ⟨_, rfl, Nat.zero_le _, ext_new hD, [], upd_same, .nil⟩, fun i m H ⟨em, le, e1, qs, hq, hp⟩ => ?_⟩
  have hd1 := e1 _ _ hd
  by_cases e : i = kvs.length
  · refine .inl ⟨⟨hd1, by omega⟩, hd' H qs e1 hq ?_⟩
    rwa [e, lk, List.take_length] at hp
  · have lt : i < kvs.length := by omega
    refine .inr ⟨⟨hd1, lt⟩, fun H' => Ext H1 H' ∧ ∃ qs : List Addr, H' D = some (.lst (qs.map V.ref)) ∧ Paired (PathAt H') qs ((ks.take (i + 1)).filter f), fun H' h' => ⟨_, by omega, rfl, by omega, h'⟩, fun x H' ⟨eH, k, v, q, hkv, ex, hb⟩ => ?_⟩
    subst eH ex
    obtain ⟨p, hp1, hp2⟩ : ∃ p, ks[i]? = some p ∧ k = pathK p := by
      have : (kvs.map (·.1))[i]? = (ks.map pathK)[i]? := by rw [hk]
      rw [List.getElem?_map, List.getElem?_map, hkv] at this
      cases z : ks[i]? with
      | none => rw [z] at this; cases this
      | some p => rw [z] at this; exact ⟨p, rfl, Option.some.inj this⟩
    subst hp2
    rw [pathK_V] at hb
    have tk1 : ks.take (i + 1) = ks.take i ++ [p] := by rw [List.take_add_one, hp1]; rfl
    refine hs p q _ _ (List.mem_of_getElem? hp1) hb e1 (fun H4 e4 hf => ?_) fun H3 e3 hf => ⟨e1.trans e3, qs, e3 _ _ hq, ?_⟩
    · have l1 := Paired.length hp
      have l2 : ((ks.take i).filter f).length ≤ 1000 := Nat.le_trans (List.length_filter_le _ _) (Nat.le_trans (List.length_take_le' _ _) (by omega))
      have line := line1001
      have hq4 := e4 _ _ hq
      refine ⟨_, hq4, by rw [List.length_map]; omega, fun b o z => ?_, qs ++ [q], by rw [upd_same]; simp, ?_⟩
      · rw [upd_ne (ne_of_none z hD)]
        exact e4 _ _ (e1 _ _ z)
      · have tk : Tk _ (upd H4 D (.lst (qs.map V.ref ++ [.ref q]))) := (Tk.ext e4).trans (Tk.put hq4 fun _ z => nomatch z)
        rw [tk1, List.filter_append]
        refine paired_app (Paired.mapP hp fun _ _ z => tk _ _ z) ?_
        rw [List.filter_cons_of_pos hf]
        exact .cons (tk _ _ hb) .nil
    · rw [tk1, List.filter_append, List.filter_cons_of_neg (by rw [hf]; simp), List.filter_nil, List.append_nil]
      exact Paired.mapP hp fun _ _ z => e3 _ _ z
end
theorem cut_last {q : List Nat} (h : q ≠ []) : cutV (pathV q) none (some (-1)) = pathV q.dropLast ∧ ¬ (HT.sIx (pathV q).length 0 none = 0 ∧ HT.sIx (pathV q).length (pathV q).length (some (-1)) = (pathV q).length) := by
  have hp : 0 < q.length := List.length_pos_iff.mpr h
  have l : (pathV q).length = q.length := by simp [pathV]
  have e : HT.sIx (pathV q).length (pathV q).length (some (-1)) = q.length - 1 := by
    rw [l]
    show (if (-1 : Int) < 0 then ((-1 : Int) + (q.length : Int)).toNat else min (-1 : Int).toNat q.length) = _
    rw [if_pos (by omega)]
    omega
  refine ⟨?_, fun z => by rw [e, l] at z; omega⟩
  unfold cutV
  rw [e]
  show ((pathV q).drop 0).take (q.length - 1 - 0) = _
  rw [List.drop_zero, Nat.sub_zero]
  unfold pathV
  rw [← List.map_take, List.dropLast_eq_take]
/-- len(one) == len(path) + 1 and one[:-1] == path -/
theorem kid_test {K : PySem.W.Frag} {σ : L2.St} {i : Nat} {H : Hp} {a b : Addr} {p q : List Nat} {Q : Bool → Hp → Prop} (hi : σ[i]? = some (some (.ref b))) (hb : PathAt H b q) (h1 : σ[1]? = some (some (.ref a))) (ha : PathAt H a p) (k : ∀ H', Ext H H' → Q (isKid p q) H') :
    tAnd (tTest (tOp rEq (tCB (rLenK K) (tCons (tVar i) tNil)) (tOp (rI0 fun i j => V.int (i + j)) (tCB (rLenK K) (tCons (tVar 1) tNil)) (tC (V.int 1)))))
      (tTest (tOp (rEqD K) (tSl (rSlT K) (tVar i) tNoPart (tPart (tUn (rU fun i => V.int (-i)) (tC (V.int 1))))) (tVar 1))) σ H Q := by
  have lp : (pathV p).length = p.length := by simp [pathV]
  have lq : (pathV q).length = q.length := by simp [pathV]
  refine ⟨_, hi, _, _, rfl, .inr ⟨_, .of hb, rfl⟩, _, h1, _, _, rfl, .inr ⟨_, .of ha, rfl⟩, _, _, rfl, rfl, rfl, _, rfl, ?_⟩
  rw [lp, lq]
  refine ifb (fun z => ?_) fun z => ?_
  · have z : q.length = p.length + 1 := by
      have := of_decide_eq_true z
      injection this with this
      omega
    have ne : q ≠ [] := fun y => by rw [y] at z; simp at z
    obtain ⟨c1, c2⟩ := cut_last ne
    refine ⟨_, hi, _, rfl, _, rfl, b, _, rfl, .of hb, c2, fun pn npn => ?_⟩
    rw [c1]
    have e1 : Ext H (upd H pn (.tup (pathV q.dropLast))) := ext_new npn
    have hpn : PathAt (upd H pn (.tup (pathV q.dropLast))) pn q.dropLast := upd_same
    generalize upd H pn (.tup (pathV q.dropLast)) = H1 at e1 hpn ⊢
    refine ⟨_, h1, pathD q.dropLast, pathD p, path_dp hpn, path_dp (e1 _ _ ha), path_shaped _, path_shaped _, _, rfl, ?_⟩
    rw [path_eq]
    have := k H1 e1
    unfold isKid at this
    rw [decide_eq_true z, Bool.true_and] at this
    exact this
  · have z : q.length ≠ p.length + 1 := fun y => by
      have := of_decide_eq_false z
      exact this (by rw [y]; simp)
    have := k H Ext.rfl'
    unfold isKid at this
    rw [decide_eq_false z, Bool.false_and] at this
    exact this
section
variable {P : Program} {w : World} {K : PySem.W.Frag} {mg : Str → Option Value} {base : Heap}
def sp_l_story (K : PySem.W.Frag) (d : Nat) : Sp := fun vs H Q _ => ∃ (dc a : Addr) (kvs : List (List L2.Key × V)) (cs : Cds) (p : List Nat), vs = [.ref dc, .ref a] ∧ H dc = some (.dT kvs) ∧ CallsAt no H kvs cs ∧ PathAt H a p ∧ p ∈ cs.map (·.1) ∧ cs.length ≤ 1000 ∧ p.length ≤ 500 ∧
  (∀ q ∈ cs.map (·.1), q.length < p.length + d ∧ q.length ≤ 500) ∧ ∀ r H', Ext H H' → TaleAt no H' (treeOf cs d p) r → Q (.ref r) H'
theorem z_l_story {K : PySem.W.Frag} {vs : List V} {H : Hp} {Q : VK} {E : XK} (h : sp_l_story K 0 vs H Q E) : False := by
  obtain ⟨_, _, _, _, p, _, _, _, _, hp, _, _, hl, _⟩ := h
  have := (hl p hp).1
  omega
theorem sc_l_story : FnScope ["_law_calls", "_law_path", "_law_inner", "_law_one"] ["_law_calls", "_law_path"] (defScope s_l_story) := ⟨rfl, rfl, rfl, by decide +kernel, rfl, by decide +kernel, by decide +kernel⟩
theorem st_l_story (x : Fx K mg w) (d : Nat) (ih : FnR P w K mg base CX0 (0 + d) (a_l_story K) (sp_l_story K d)) : FnR P w K mg base CX0 (0 + d + 1) (a_l_story K) (sp_l_story K (d + 1)) := by
  refine okR x.F_l_story sc_l_story (fun _ _ _ _ _ _ us hl => match us, hl with | [_, _], _ => rfl) (fun vs H Q E h => by obtain ⟨dc, a, kvs, cs, p, rfl, hd, hc, ha, hp, cl, pl, hl, hQ⟩ := h; rfl) (fun cdv A outer s H vs Q E hr h => ?_)
  obtain ⟨dc, a, kvs, cs, p, rfl, hd, hc, ha, hp, cl, pl, hl, hQ⟩ := h
  refine ⟨_, (pss_cons (ps_lock (ps_setLc (i := 2) (own := [("_law_one", 3)]) rfl sc_l_story.nd rfl rfl (sw_true rfl rfl rfl (by decide +kernel)) (pi_keys (pv 0)) (blkOk_by (N := ["_law_calls", "_law_path", "_law_inner", "_law_one"]) (sc := defScope s_l_story) (by decide +kernel)) (fun _ _ _ _ _ => (pg_name (i := 3) sc_l_story.nd rfl (Or.inl rfl))) (fun _ _ _ _ _ => (pts_one (PW.pt (pw_and (pt_cmpR op_eq (pe_callB (r := rLenK K) call_lenK rfl x.n_len bb_len (pa_cons (pv 3) pa_nil)) (pe_op op_add (pe_callB (r := rLenK K) call_lenK rfl x.n_len bb_len (pa_cons (pv 1) pa_nil)) pe_int) (nomark _)) (pw_and1 (pt_cmpR (show OpR _ _ (rEqD K) from op_eqD hr.units) (pe_slice (r := rSlT K) sl_tup (pv 3) po_none (po_some (pe_un un_neg pe_int))) (pv 1) (nomark _))))))) (fun _ _ _ _ _ => (pv 3))))
 (pss_one (ps_ret (pe_op (show OpR _ _ (rCatA K) from op_catA) (pe_dget (hu_of hr) (pv 0) (pv 1) (fun _ _ => rfl)) (pe_tup (pa_cons (pe_callTy (r := rTupOf K) call_tupK rfl x.n_tuple bb_tuple (pa_cons (pe_lc (own := [("_law_one", 3)]) (tt := tYes) rfl sc_l_story.nd (pi_listK (K := K) rfl (pe_callB (r := rSortDat K) (call_sortDat hr) rfl x.n_sorted bb_sorted (pa_cons (pv 2) pa_nil))) (blkOk_by (N := ["_law_calls", "_law_path", "_law_inner", "_law_one"]) (sc := defScope s_l_story) (by decide +kernel)) (fun _ _ _ _ _ => (pg_name (i := 3) sc_l_story.nd rfl (Or.inl rfl))) (fun _ _ _ _ _ => pts_nil) (fun _ _ _ _ _ => (pe_callR ih (hr.mono (by omega)) rfl x.m_l_story (keep_of x.F_l_story) pass0 (pa_cons (pv 0) (pa_cons (pv 3) pa_nil))))) pa_nil)) pa_nil)))))), ?_⟩
  have lk := Paired.length hc
  refine ⟨dc, _, hd, True.intro, fun od => ?_⟩
  have hf : (upd H dc (.frz od (.dT kvs))) dc = some (.frz od (.dT kvs)) := upd_same
  have back : ∀ H', Ext (upd H dc (.frz od (.dT kvs))) H' → Ext H (upd H' dc (.dT kvs)) := fun H' u => unlock_ext hd u
  have tkf : Tk H (upd H dc (.frz od (.dT kvs))) := Tk.put hd fun _ z => nomatch z
  have haf := tkf _ _ ha
  have nof : ∀ b, (upd H dc (.frz od (.dT kvs))) b = none → b ≠ dc ∧ H b = none := fun b h => by
    have n : b ≠ dc := fun z => by rw [z, upd_same] at h; cases h
    exact ⟨n, by rwa [upd_ne n] at h⟩
  generalize upd H dc (.frz od (.dT kvs)) = Hf at hf back tkf haf nof ⊢
  refine ⟨_, rfl, dc, od, rfl, .inr ⟨kvs, hf, fun D hD => lc_keys hf (ks := cs.map (·.1)) (by rw [hc.keys, List.map_map]; rfl) hD (isKid p) (by omega) (fun q b H1 Nx hq hb e1 yes no' => ?_) (fun H1 bs e1 hD1 hbs => ?_)⟩⟩
  · refine ⟨rfl, kid_test rfl hb rfl (e1 _ _ haf) fun H2 e2 => ifb (fun z => ?_) fun z => ?_⟩
    · exact ⟨_, rfl, yes H2 e2 z⟩
    · exact no' H2 e2 z
  · have hfd := e1 _ _ hf
    obtain ⟨nDd, nD⟩ := nof D hD
    refine ⟨hfd, ?_⟩
    have e2 : Ext H (upd H1 dc (.dT kvs)) := back H1 e1
    have hD2 : (upd H1 dc (.dT kvs)) D = some (.lst (bs.map V.ref)) := by rw [upd_ne nDd]; exact hD1
    have hbs2 : Paired (PathAt (upd H1 dc (.dT kvs))) bs ((cs.map (·.1)).filter (isKid p)) := Paired.mapP hbs fun b q z => by
      show (upd H1 dc (.dT kvs)) b = _
      rw [upd_ne (ne_of z hfd fun z => nomatch z)]
      exact z
    generalize upd H1 dc (.dT kvs) = H2 at e2 hD2 hbs2
    have hd2 := e2 _ _ hd
    have hc2 := hc.ext e2
    have ha2 := e2 _ _ ha
    obtain ⟨ca, hv, hca⟩ := hc2.get hp
    have dg := DGet.t (k := pathK p) hd2 (by rw [pathK_V]; exact ha2)
    rw [hv] at dg
    refine ⟨_, rfl, _, rfl, dc, _, rfl, dg, _, rfl, D, _, _, rfl, .of hD2, paths_dp hbs2, ?_, ?_, ?_, fun es lp pm pw nlp => ?_⟩
    · intro d hd d' hd'
      obtain ⟨q, _, rfl⟩ := List.mem_map.mp hd
      obtain ⟨q', _, rfl⟩ := List.mem_map.mp hd'
      exact alike_path _ _
    · refine .inl (.inl fun d hd => ?_)
      obtain ⟨q, hq, rfl⟩ := List.mem_map.mp hd
      obtain ⟨j, rfl⟩ := isKid_iff.mp (List.mem_filter.mp hq).2
      unfold pathD
      cases p with
      | nil => exact ⟨_, _, rfl⟩
      | cons x p => exact ⟨_, _, rfl⟩
    · intro d hd
      obtain ⟨q, _, rfl⟩ := List.mem_map.mp hd
      exact Nat.le_trans (path_depth q) (by decide)
    · obtain ⟨ds, qs, he, hq, pq, sq⟩ := sorted_paths hbs2 pm pw
      have hqs := kidsS_of pq sq
      subst hqs
      rw [he]
      have e3 : Ext H2 (upd H2 lp (.lst (ds.map V.ref))) := ext_new nlp
      have hlp : (upd H2 lp (.lst (ds.map V.ref))) lp = some (.lst (ds.map V.ref)) := upd_same
      generalize upd H2 lp (.lst (ds.map V.ref)) = H3 at e3 hlp
      have e03 := e2.trans e3
      have kl := kidsS_len cs p
      have lds := Paired.length hq
      refine ⟨lp, rfl, ⟨_, .of hlp⟩, fun D2 hD2 => lc_std (S := no) (H0 := H3) (std_list (.of hlp) fun z => z) (fun i H' => Ext H3 H' ∧ ∃ rs : List Addr, H' D2 = some (.lst (rs.map V.ref)) ∧ TalesAt no H' (((kidsS cs p).take i).map (treeOf cs d)) rs) ⟨ext_new hD2, [], upd_same, by rw [List.take_zero, List.map_nil, TalesAt]⟩ (fun i H' h => .ext h.1) (fun i x H4 hx ⟨e4, rs, hD4, ht4⟩ => ?_) (fun H4 ⟨e4, rs, hD4, ht4⟩ => ?_)⟩
      · rw [List.getElem?_map] at hx
        cases hb : ds[i]? with
        | none => rw [hb] at hx; cases hx
        | some b =>
          rw [hb] at hx
          obtain rfl : V.ref b = x := Option.some.inj hx
          obtain ⟨q, hq1, hq2⟩ := paired_at hq hb
          obtain ⟨qm, j, qe⟩ := kidsS_mem (List.mem_of_getElem? hq1)
          have tk1 : (kidsS cs p).take (i + 1) = (kidsS cs p).take i ++ [q] := by rw [List.take_add_one, hq1]; rfl
          have e24 := e3.trans e4
          have e04 := e2.trans e24
          refine ⟨rfl, _, rfl, _, rfl, dc, b, kvs, cs, q, rfl, e04 _ _ hd, hc.ext e04, e24 _ _ hq2, qm, cl, (hl q qm).2, fun q' hq' => ⟨?_, (hl q' hq').2⟩, fun r H5 e5 ht5 => ?_⟩
          · have := (hl q' hq').1
            rw [qe, List.length_append, List.length_singleton]
            omega
          · have hD5 := e5 _ _ hD4
            have l1 := Paired.length (talesAt_paired.mp ht4)
            rw [List.length_map, List.length_take] at l1
            have line := line1001
            refine ⟨_, hD5, by rw [List.length_map]; omega, fun x o z => ?_, rs ++ [r], by rw [upd_same]; simp, ?_⟩
            · rw [upd_ne (ne_of_none z hD2)]
              exact e5 _ _ (e4 _ _ z)
            · have tk : Tk H5 (upd H5 D2 (.lst (rs.map V.ref ++ [.ref r]))) := Tk.put hD5 fun _ z => nomatch z
              rw [tk1, List.map_append]
              exact talesAt_paired.mpr (paired_app (Paired.mapP (talesAt_paired.mp ht4) fun _ _ z => z.lk ((Tk.ext e5).trans tk) fun _ _ _ z => z) (.cons (ht5.lk tk fun _ _ _ z => z) .nil))
      · rw [List.length_map, lds, List.take_length] at ht4
        have lr := Paired.length (talesAt_paired.mp ht4)
        refine ⟨D2, _, rfl, .inl ⟨.of hD4, fun tp ntp => ⟨by simp [sizeLine_eq], fun t1 nt1 => ?_⟩⟩⟩
        have e5 : Ext H4 (upd H4 tp (.tup (rs.map V.ref))) := ext_new ntp
        have htp : (upd H4 tp (.tup (rs.map V.ref))) tp = some (.tup (rs.map V.ref)) := upd_same
        generalize upd H4 tp (.tup (rs.map V.ref)) = H5 at e5 htp nt1 ⊢
        have e6 : Ext H5 (upd H5 t1 (.tup [.ref tp])) := ext_new nt1
        have ht1 : (upd H5 t1 (.tup [.ref tp])) t1 = some (.tup [.ref tp]) := upd_same
        generalize upd H5 t1 (.tup [.ref tp]) = H6 at e6 ht1 ⊢
        have e26 := e3.trans (e4.trans (e5.trans e6))
        refine ⟨ca, t1, (getC cs p).vs, [.ref tp], rfl, rfl, .of (e26 _ _ hca.1), .of ht1, sz (m := 10) (by simp [CallD.vs]), fun z => by simp [CallD.vs] at z, fun _ z => by simp at z, fun _ _ r nr => ?_⟩
        have e7 : Ext H6 (upd H6 r (.tup ((getC cs p).vs ++ [.ref tp]))) := ext_new nr
        have e47 := e5.trans (e6.trans e7)
        refine hQ r _ (e2.trans (e26.trans e7)) ?_
        rw [treeOf, TaleAt]
        exact ⟨tp, rs, ⟨upd_same, fun z => z⟩, ⟨e7 _ _ (e6 _ _ htp), fun z => z⟩, TalesAt.tr (fun a xs w => ⟨e47 _ _ w.1, w.2⟩) _ rs ht4⟩
theorem ok_l_story (x : Fx K mg w) : ∀ d : Nat, FnR P w K mg base CX0 (0 + d) (a_l_story K) (sp_l_story K d)
  | 0 => fun _ _ _ _ _ _ _ _ _ _ _ h => (z_l_story h).elim
  | d + 1 => st_l_story x d (ok_l_story x d)
def sp_l_call_text (K : PySem.W.Frag) (d : Nat) : Sp := fun vs H Q _ => ∃ (dc a : Addr) (kvs : List (List L2.Key × V)) (cs : Cds) (p : List Nat), vs = [.ref dc, .ref a] ∧ H dc = some (.dT kvs) ∧ CallsAt no H kvs cs ∧ PathAt H a p ∧ p ∈ cs.map (·.1) ∧ cs.length ≤ 1000 ∧ p.length ≤ 500 ∧
  (∀ q ∈ cs.map (·.1), q.length < p.length + d ∧ q.length ≤ 500) ∧ (treeOf cs d p).Ok ∧ (treeOf cs d p).count ≤ 1000 ∧ ∀ H', Ext H H' → Q (.str (treeOf cs d p).text) H'
theorem z_l_call_text {K : PySem.W.Frag} {vs : List V} {H : Hp} {Q : VK} {E : XK} (h : sp_l_call_text K 0 vs H Q E) : False := by
  obtain ⟨_, _, _, _, p, _, _, _, _, hp, _, _, hl, _⟩ := h
  have := (hl p hp).1
  omega
theorem sc_l_call_text : FnScope ["_law_calls", "_law_path", "_law_house", "_law_number", "_law_faulty", "_law_inner", "_law_word", "_law_one"] ["_law_calls", "_law_path"] (defScope s_l_call_text) := ⟨rfl, rfl, rfl, by decide +kernel, rfl, by decide +kernel, by decide +kernel⟩
theorem st_l_call_text (x : Fx K mg w) (d : Nat) (ih : FnR P w K mg base CX0 (0 + d) (a_l_call_text K) (sp_l_call_text K d)) : FnR P w K mg base CX0 (0 + d + 1) (a_l_call_text K) (sp_l_call_text K (d + 1)) := by
  refine okR x.F_l_call_text sc_l_call_text (fun _ _ _ _ _ _ us hl => match us, hl with | [_, _], _ => rfl) (fun vs H Q E h => by obtain ⟨dc, a, kvs, cs, p, rfl, hd, hc, ha, hp, cl, pl, hl, ok, cnt, hQ⟩ := h; rfl) (fun cdv A outer s H vs Q E hr h => ?_)
  obtain ⟨dc, a, kvs, cs, p, rfl, hd, hc, ha, hp, cl, pl, hl, ok, cnt, hQ⟩ := h
  refine ⟨_, (pss_cons (ps_asg (pe_dget (hu_of hr) (pv 0) (pv 1) (fun _ _ => rfl)) (pg_tupK (K := K) (n := 3) rfl rfl (pgs_cons (pg_name (i := 2) sc_l_call_text.nd rfl (Or.inl rfl)) (pgs_cons (pg_name (i := 3) sc_l_call_text.nd rfl (Or.inl rfl)) (pgs_cons (pg_name (i := 4) sc_l_call_text.nd rfl (Or.inl rfl)) pgs_nil)))))
 (pss_cons (ps_lock (ps_setLc (i := 5) (own := [("_law_one", 7)]) rfl sc_l_call_text.nd rfl rfl (sw_true rfl rfl rfl (by decide +kernel)) (pi_keys (pv 0)) (blkOk_by (N := ["_law_calls", "_law_path", "_law_house", "_law_number", "_law_faulty", "_law_inner", "_law_word", "_law_one"]) (sc := defScope s_l_call_text) (by decide +kernel)) (fun _ _ _ _ _ => (pg_name (i := 7) sc_l_call_text.nd rfl (Or.inl rfl))) (fun _ _ _ _ _ => (pts_one (PW.pt (pw_and (pt_cmpR op_eq (pe_callB (r := rLenK K) call_lenK rfl x.n_len bb_len (pa_cons (pv 7) pa_nil)) (pe_op op_add (pe_callB (r := rLenK K) call_lenK rfl x.n_len bb_len (pa_cons (pv 1) pa_nil)) pe_int) (nomark _)) (pw_and1 (pt_cmpR (show OpR _ _ (rEqD K) from op_eqD hr.units) (pe_slice (r := rSlT K) sl_tup (pv 7) po_none (po_some (pe_un un_neg pe_int))) (pv 1) (nomark _))))))) (fun _ _ _ _ _ => (pv 7))))
 (pss_cons (ps_set (i := 6) sc_l_call_text.nd rfl (Or.inl rfl) (pe_op op_add_str (pe_op op_add_str (pe_op op_add_str (pv 2) pe_str) (pe_callTy call_str_int rfl x.n_str bb_str (pa_cons (pv 3) pa_nil))) (pe_ifExp (pt_val (pv 4)) pe_str pe_str)))
 (pss_cons (ps_if (pt_cmpR (show OpR _ _ (rEqNil K false) from op_eqNil hr) (pv 5) (pe_lst pa_nil) (nomark _))
 (pss_one (ps_ret (pv 6)))
 pss_nil)
 (pss_one (ps_ret (pe_op op_add_str (pe_op op_add_str (pe_op op_add_str (pv 6) pe_str) (pe_joinK (K := K) rfl pe_str (pe_lc (own := [("_law_one", 7)]) (tt := tYes) rfl sc_l_call_text.nd (pi_listK (K := K) rfl (pe_callB (r := rSortDat K) (call_sortDat hr) rfl x.n_sorted bb_sorted (pa_cons (pv 5) pa_nil))) (blkOk_by (N := ["_law_calls", "_law_path", "_law_house", "_law_number", "_law_faulty", "_law_inner", "_law_word", "_law_one"]) (sc := defScope s_l_call_text) (by decide +kernel)) (fun _ _ _ _ _ => (pg_name (i := 7) sc_l_call_text.nd rfl (Or.inl rfl))) (fun _ _ _ _ _ => pts_nil) (fun _ _ _ _ _ => (pe_callR ih (hr.mono (by omega)) rfl x.m_l_call_text (keep_of x.F_l_call_text) pass0 (pa_cons (pv 0) (pa_cons (pv 7) pa_nil))))))) pe_str))))))), ?_⟩
  have lk := Paired.length hc
  obtain ⟨ca, hv, hca⟩ := hc.get hp
  have dg := DGet.t (k := pathK p) hd (by rw [pathK_V]; exact ha)
  rw [hv] at dg
  generalize eh : (getC cs p).house = h
  generalize ek : (getC cs p).number = k
  generalize ef : (getC cs p).faulty = f
  have hca : H ca = some (.tup [.str h, .int (k : Nat), .bl f]) := by rw [← eh, ← ek, ← ef]; exact hca.1
  have et : treeOf cs (d + 1) p = .mk h k f ((kidsS cs p).map (treeOf cs d)) := by rw [treeOf, eh, ek, ef]
  rw [et] at ok cnt hQ
  have okc := ok
  rw [TaleD.Ok] at okc
  obtain ⟨o1, o2, o3⟩ := okc
  have okt := text_le _ ok
  have cc := cnt
  rw [TaleD.count] at cc
  have hlen := headS_len (f := f) o1 o2
  have h6 := isName_len o1
  have d1 := digit_len o2
  have lD : ("." : Str).length = 1 := rfl
  have lX : ("!" : Str).length = 1 := rfl
  have lE : ("" : Str).length = 0 := rfl
  have lO : ("(" : Str).length = 1 := rfl
  have lC : (")" : Str).length = 1 := rfl
  have lt := texts_le _ o3
  have lj := join_len (texts ((kidsS cs p).map (treeOf cs d)))
  have log_k : ((k : Nat) : Int).natAbs.log2 < 1920 := Nat.lt_of_le_of_lt (Nat.log2_le_self _) (by omega)
  have tx : (TaleD.mk h k f ((kidsS cs p).map (treeOf cs d))).text = if ((kidsS cs p).map (treeOf cs d)).isEmpty = true then headS h k f else ((headS h k f ++ "(") ++ Txt.join " " (texts ((kidsS cs p).map (treeOf cs d)))) ++ ")" := by rw [TaleD.text]
  refine ⟨_, rfl, _, rfl, dc, _, rfl, dg, ca, _, rfl, SqT.of hca, rfl, _, _, rfl, _, _, rfl, _, _, rfl, rfl, ?_⟩
  dsimp only [gName]
  refine ⟨dc, _, hd, True.intro, fun od => ?_⟩
  have hf : (upd H dc (.frz od (.dT kvs))) dc = some (.frz od (.dT kvs)) := upd_same
  have back : ∀ H', Ext (upd H dc (.frz od (.dT kvs))) H' → Ext H (upd H' dc (.dT kvs)) := fun H' u => unlock_ext hd u
  have tkf : Tk H (upd H dc (.frz od (.dT kvs))) := Tk.put hd fun _ z => nomatch z
  have haf := tkf _ _ ha
  have nof : ∀ b, (upd H dc (.frz od (.dT kvs))) b = none → b ≠ dc ∧ H b = none := fun b h => by
    have n : b ≠ dc := fun z => by rw [z, upd_same] at h; cases h
    exact ⟨n, by rwa [upd_ne n] at h⟩
  generalize upd H dc (.frz od (.dT kvs)) = Hf at hf back tkf haf nof ⊢
  refine ⟨_, rfl, dc, od, rfl, .inr ⟨kvs, hf, fun D hD => lc_keys hf (ks := cs.map (·.1)) (by rw [hc.keys, List.map_map]; rfl) hD (isKid p) (by omega) (fun q b H1 Nx hq hb e1 yes no' => ?_) (fun H1 bs e1 hD1 hbs => ?_)⟩⟩
  · refine ⟨rfl, kid_test rfl hb rfl (e1 _ _ haf) fun H2 e2 => ifb (fun z => ?_) fun z => ?_⟩
    · exact ⟨_, rfl, yes H2 e2 z⟩
    · exact no' H2 e2 z
  · have hfd := e1 _ _ hf
    obtain ⟨nDd, nD⟩ := nof D hD
    refine ⟨hfd, ?_⟩
    have e2 : Ext H (upd H1 dc (.dT kvs)) := back H1 e1
    have hD2 : (upd H1 dc (.dT kvs)) D = some (.lst (bs.map V.ref)) := by rw [upd_ne nDd]; exact hD1
    have hbs2 : Paired (PathAt (upd H1 dc (.dT kvs))) bs ((cs.map (·.1)).filter (isKid p)) := Paired.mapP hbs fun b q z => by
      show (upd H1 dc (.dT kvs)) b = _
      rw [upd_ne (ne_of z hfd fun z => nomatch z)]
      exact z
    generalize upd H1 dc (.dT kvs) = H2 at e2 hD2 hbs2
    dsimp only [gName]
    refine seq_cut (fun σ' H' => H2 = H' ∧ σ' = [some (.ref dc), some (.ref a), some (.str h), some (.int (k : Nat)), some (.bl f), some (.ref D), some (.str (headS h k f)), none]) ?_ fun tail => ?_
    · rintro σ' H' ⟨rfl, rfl⟩
      have lb := Paired.length hbs2
      have kl := kidsS_len cs p
      have kp := (kidsS_perm cs p).length_eq
      refine ⟨_, rfl, by simp, fun l3 n3 => ⟨D, l3, _, rfl, rfl, .of (ext_new n3 _ _ hD2), .of upd_same, _, rfl, ?_⟩⟩
      have e3 : Ext H2 (upd H2 l3 (.lst [])) := ext_new n3
      generalize upd H2 l3 (.lst []) = H3 at e3
      have hD3 := e3 _ _ hD2
      have hbs3 : Paired (PathAt H3) bs ((cs.map (·.1)).filter (isKid p)) := Paired.mapP hbs2 fun _ _ z => e3 _ _ z
      have e03 := e2.trans e3
      refine ifb (fun q => ?_) fun q => ?_
      · have hb : bs = [] := by
          cases bs with
          | nil => rfl
          | cons b bs => cases q
        subst hb
        have hk : kidsS cs p = [] := List.eq_nil_of_length_eq_zero (by rw [kp, ← lb]; rfl)
        refine ⟨_, rfl, ?_⟩
        have := hQ H3 e03
        rw [tx, hk] at this
        exact this
      · have hk : ((kidsS cs p).map (treeOf cs d)).isEmpty = false := by
          cases z : kidsS cs p with
          | nil =>
            rw [z] at kp
            cases bs with
            | nil => cases q
            | cons b bs => rw [← kp] at lb; cases lb
          | cons y ys => rfl
        rw [if_neg (by rw [hk]; simp)] at tx
        refine ⟨_, rfl, _, _, rfl, rfl, sz (m := 1000) (by first | omega | (simp only [slen]; omega)), ⟨_, rfl⟩, _, rfl, D, _, _, rfl, .of hD3, paths_dp hbs3, ?_, ?_, ?_, fun es lp pm pw nlp => ?_⟩
        · intro d hd d' hd'
          obtain ⟨q, _, rfl⟩ := List.mem_map.mp hd
          obtain ⟨q', _, rfl⟩ := List.mem_map.mp hd'
          exact alike_path _ _
        · refine .inl (.inl fun d hd => ?_)
          obtain ⟨q, hq, rfl⟩ := List.mem_map.mp hd
          obtain ⟨j, rfl⟩ := isKid_iff.mp (List.mem_filter.mp hq).2
          unfold pathD
          cases p with
          | nil => exact ⟨_, _, rfl⟩
          | cons x p => exact ⟨_, _, rfl⟩
        · intro d hd
          obtain ⟨q, _, rfl⟩ := List.mem_map.mp hd
          exact Nat.le_trans (path_depth q) (by decide)
        · obtain ⟨ds, qs, he, hq, pq, sq⟩ := sorted_paths hbs3 pm pw
          have hqs := kidsS_of pq sq
          subst hqs
          rw [he]
          have e4 : Ext H3 (upd H3 lp (.lst (ds.map V.ref))) := ext_new nlp
          have hlp : (upd H3 lp (.lst (ds.map V.ref))) lp = some (.lst (ds.map V.ref)) := upd_same
          generalize upd H3 lp (.lst (ds.map V.ref)) = H4 at e4 hlp
          have e04 := e03.trans e4
          have lds := Paired.length hq
          refine ⟨lp, rfl, ⟨_, .of hlp⟩, fun D2 hD2' => lc_row (std_list (.of hlp) fun z => z) hD2' (fun q : List Nat => V.str (treeOf cs d q).text) lds (by omega) (fun i b q H5 Nx hb hq1 e5 go => ?_) (fun H5 e5 hD5 => ?_)⟩
          · obtain ⟨q', hq1', hq2⟩ := paired_at hq hb
            rw [hq1] at hq1'
            cases hq1'
            have qi := List.mem_of_getElem? hq1
            obtain ⟨qm, j, qe⟩ := kidsS_mem qi
            have ti : treeOf cs d q ∈ (kidsS cs p).map (treeOf cs d) := List.mem_map_of_mem qi
            have e05 := e04.trans e5
            refine ⟨rfl, _, rfl, _, rfl, dc, b, kvs, cs, q, rfl, e05 _ _ hd, hc.ext e05, e5 _ _ (e4 _ _ hq2), qm, cl, (hl q qm).2, fun q' hq' => ⟨?_, (hl q' hq').2⟩, oks_iff.mp o3 _ ti, by have := count_mem ti; omega, fun H6 e6 => go H6 e6⟩
            have := (hl q' hq').1
            rw [qe, List.length_append, List.length_singleton]
            omega
          · have ex : ((kidsS cs p).map fun q : List Nat => V.str (treeOf cs d q).text) = (texts ((kidsS cs p).map (treeOf cs d))).map V.str := by rw [texts_map, List.map_map, List.map_map]; rfl
            rw [ex] at hD5
            have sl : ((texts ((kidsS cs p).map (treeOf cs d))).map (·.length)).sum + (texts ((kidsS cs p).map (treeOf cs d))).length = ((texts ((kidsS cs p).map (treeOf cs d))).map fun z => z.length + 1).sum := by
              generalize texts ((kidsS cs p).map (treeOf cs d)) = zs
              induction zs with
              | nil => rfl
              | cons z zs ih => simp only [List.map_cons, List.sum_cons, List.length_cons]; omega
            have lS : (" " : Str).length = 1 := rfl
            refine ⟨" ", D2, _, rfl, rfl, .inl (.of hD5), by rw [lS]; omega, _, _, rfl, rfl, szB (by first | omega | (simp only [slen]; omega)), _, _, rfl, rfl, szB (by first | omega | (simp only [slen]; omega)), ?_⟩
            rw [← tx]
            exact hQ _ (e04.trans e5)
    · refine ⟨_, rfl, _, _, rfl, rfl, sz (m := 1000) (by first | omega | (simp only [slen]; omega)), _, rfl, _, rfl, log_k, _, _, rfl, rfl, sz (m := 1000) (by first | omega | (simp only [slen]; omega)), _, rfl, _, rfl, ifb (fun qf => ?_) fun qf => ?_⟩
      · subst qf
        exact ⟨_, _, rfl, rfl, sz (m := 1000) (by first | omega | (simp only [slen]; omega)), tail _ _ ⟨rfl, rfl⟩⟩
      · subst qf
        have e : (((h ++ ".") ++ (toString ((k : Nat) : Int) : Str)) ++ "") = headS h k false := by rw [app_emp]; rfl
        refine ⟨_, _, rfl, rfl, sz (m := 1000) (by first | omega | (simp only [slen]; omega)), ?_⟩
        rw [e]
        exact tail _ _ ⟨rfl, rfl⟩
theorem ok_l_call_text (x : Fx K mg w) : ∀ d : Nat, FnR P w K mg base CX0 (0 + d) (a_l_call_text K) (sp_l_call_text K d)
  | 0 => fun _ _ _ _ _ _ _ _ _ _ _ h => (z_l_call_text h).elim
  | d + 1 => st_l_call_text x d (ok_l_call_text x d)
end
end Ws

set_option Elab.async false
set_option linter.all false
set_option maxRecDepth 100000
set_option maxHeartbeats 4000000
namespace Ws
open PySem PySem.Spec PyProof.Rows L2 PySem.W
def CallOk (nt : NetD) (c : CallD) : Prop := c.house ∈ nt.names ∧ c.number < (getH nt.houses c.house).rules.length ∧ (c.faulty = true → (getH nt.houses c.house).fails = true)
/-- calls that grow, the first one an entry's -/
structure Grown (nt : NetD) (cs : Cds) : Prop where
  nd : (cs.map (·.1)).Nodup
  root : ∃ c r, cs = ([], c) :: r ∧ c.house ∈ nt.entries
  ok : ∀ e ∈ cs, CallOk nt e.2
  up : ∀ e ∈ cs, e.1 = [] ∨ ∃ p j c, e.1 = p ++ [j] ∧ (p, c) ∈ cs ∧ e.2.house ∈ (getH nt.houses c.house).calls
  num : ∀ p j, p ++ [j] ∈ cs.map (·.1) → j < ((cs.map (·.1)).filter (isKid p)).length
  sh : ∀ e ∈ cs, e.1.length ≤ 12
theorem grown_one {nt : NetD} {c : CallD} (h : c.house ∈ nt.entries) (k : CallOk nt c) : Grown nt [([], c)] :=
  ⟨by simp, ⟨c, [], rfl, h⟩, fun e he => by rw [List.mem_singleton.mp he]; exact k, fun e he => .inl (by rw [List.mem_singleton.mp he]), fun p j hp => by simp at hp, fun e he => by rw [List.mem_singleton.mp he]; exact Nat.zero_le _⟩
theorem isKid_snoc (p q : List Nat) (j : Nat) : isKid p (q ++ [j]) = decide (q = p) := by
  unfold isKid
  rw [List.length_append, List.length_singleton, List.dropLast_concat]
  by_cases h : q = p
  · subst h
    simp
  · rw [decide_eq_false h, Bool.and_false]
theorem Grown.add {nt : NetD} {cs : Cds} (g : Grown nt cs) {p : List Nat} {c x : CallD} (hp : (p, c) ∈ cs) (hx : x.house ∈ (getH nt.houses c.house).calls) (hk : CallOk nt x) (hl : p.length < 12) :
    Grown nt (cs ++ [(p ++ [((cs.map (·.1)).filter (isKid p)).length], x)]) ∧ p ++ [((cs.map (·.1)).filter (isKid p)).length] ∉ cs.map (·.1) := by
  have new : p ++ [((cs.map (·.1)).filter (isKid p)).length] ∉ cs.map (·.1) := fun h => by
    have := g.num _ _ h
    omega
  generalize ej : ((cs.map (·.1)).filter (isKid p)).length = j at new
  refine ⟨⟨?_, ?_, fun e he => ?_, fun e he => ?_, fun q i hq => ?_, fun e he => ?_⟩, new⟩
  · rw [List.map_append]
    refine List.nodup_append.mpr ⟨g.nd, by simp, fun a ha b hb e => ?_⟩
    subst e
    rw [List.map_cons, List.map_nil, List.mem_singleton] at hb
    have hb : a = p ++ [j] := hb
    exact new (by rw [← hb]; exact ha)
  · obtain ⟨c0, r, e, h⟩ := g.root
    exact ⟨c0, _, by rw [e]; rfl, h⟩
  · rcases List.mem_append.mp he with he | he
    · exact g.ok e he
    · rw [List.mem_singleton.mp he]
      exact hk
  · rcases List.mem_append.mp he with he | he
    · rcases g.up e he with h | ⟨p', j', c', h1, h2, h3⟩
      · exact .inl h
      · exact .inr ⟨p', j', c', h1, List.mem_append_left _ h2, h3⟩
    · rw [List.mem_singleton.mp he]
      exact .inr ⟨p, j, c, rfl, List.mem_append_left _ hp, hx⟩
  · rw [List.map_append, List.filter_append, List.length_append]
    rw [List.map_append] at hq
    rcases List.mem_append.mp hq with hq | hq
    · have := g.num q i hq
      omega
    · rw [List.map_cons, List.map_nil, List.mem_singleton] at hq
      have h1 : q = p := by
        have := congrArg List.dropLast hq
        rwa [List.dropLast_concat, List.dropLast_concat] at this
      subst h1
      have h2 : i = j := by simpa using hq
      subst h2
      rw [ej]
      have : isKid q (q ++ [i]) = true := by rw [isKid_snoc]; simp
      simp [this]
  · rcases List.mem_append.mp he with he | he
    · exact g.sh e he
    · rw [List.mem_singleton.mp he]
      simp
      omega
/-- the calls of a story, in any order -/
structure Told (nt : NetD) (cs : Cds) : Prop where
  nd : (cs.map (·.1)).Nodup
  root : ∃ c, ([], c) ∈ cs ∧ c.house ∈ nt.entries
  ok : ∀ e ∈ cs, CallOk nt e.2
  up : ∀ e ∈ cs, e.1 = [] ∨ ∃ p j c, e.1 = p ++ [j] ∧ (p, c) ∈ cs ∧ e.2.house ∈ (getH nt.houses c.house).calls
  sh : ∀ e ∈ cs, e.1.length ≤ 29
  ln : cs.length ≤ 60
theorem Told.perm {nt : NetD} {cs cs' : Cds} (t : Told nt cs) (p : cs'.Perm cs) : Told nt cs' := by
  obtain ⟨c, h1, h2⟩ := t.root
  exact ⟨(p.map _).nodup_iff.mpr t.nd, ⟨c, p.mem_iff.mpr h1, h2⟩, fun e he => t.ok e (p.mem_iff.mp he), fun e he => (t.up e (p.mem_iff.mp he)).imp id fun ⟨q, j, c, h1, h2, h3⟩ => ⟨q, j, c, h1, p.mem_iff.mpr h2, h3⟩, fun e he => t.sh e (p.mem_iff.mp he), by rw [p.length_eq]; exact t.ln⟩
theorem Grown.told {nt : NetD} {cs : Cds} (g : Grown nt cs) (l : cs.length ≤ 60) : Told nt cs := by
  obtain ⟨c, r, e, h⟩ := g.root
  exact ⟨g.nd, ⟨c, by rw [e]; exact List.mem_cons_self, h⟩, g.ok, g.up, fun e he => Nat.le_trans (g.sh e he) (by decide), l⟩
theorem CallsAt.lk {S : Addr → Prop} {H H1 : Hp} {kvs : List (List L2.Key × V)} {cs : Cds} (h : CallsAt S H kvs cs) (k : Tk H H1) : CallsAt S H1 kvs cs := Paired.mapP h fun _ _ ⟨h1, a, h2, h3⟩ => ⟨h1, a, h2, k _ _ h3.1, h3.2⟩
theorem getC_mem {cs : Cds} {p : List Nat} (h : p ∈ cs.map (·.1)) : (p, getC cs p) ∈ cs := by
  unfold getC
  cases q : cs.find? fun e => decide (e.1 = p) with
  | none =>
    obtain ⟨e, he, z⟩ := List.mem_map.mp h
    exact absurd (by simp [z]) (List.find?_eq_none.mp q e he)
  | some e =>
    have h1 := List.mem_of_find?_eq_some q
    have h2 := List.find?_some q
    have h2 : e.1 = p := by simpa using h2
    rw [← h2]
    exact h1
theorem putT_id : ∀ (more kvs : List (List L2.Key × V)), ((kvs ++ more).map (·.1)).Nodup → putT kvs more = kvs ++ more
  | [], kvs, _ => (List.append_nil _).symm
  | e :: more, kvs, nd => by
    have hn : valV kvs e.1 = none := valV_noneT (fun h => by
      rw [List.map_append, List.map_cons] at nd
      exact (List.nodup_append.mp nd).2.2 e.1 h e.1 List.mem_cons_self rfl)
    show putT (putK kvs e.1 e.2) more = _
    rw [putK_new _ hn, putT_id more (kvs ++ [(e.1, e.2)]) (by rw [List.append_assoc]; exact nd), List.append_assoc]
    rfl
section
variable {P : Program} {w : World} {K : PySem.W.Frag} {mg : Str → Option Value} {base : Heap}
def sp_l_some_call : Sp := fun vs H Q _ => ∃ (S : Addr → Prop) (d wd c m : Addr) (n : Nat) (md : ModelD) (z : Str), vs = [.ref d, .ref m, .str z] ∧ Dm S H ∧ DrawAt S H d wd c n ∧ n + 2 ≤ big ∧ ModelAt S H m md ∧ md.Fit ∧ z ∈ md.net.names ∧
  ∀ (x : CallD) (r : Addr) (H' : Hp), x.house = z → CallOk md.net x → Kp S H H' → DrawAt S H' d wd c (n + 2) → At S H' r (.tup x.vs) → Q (.ref r) H'
theorem sc_l_some_call : FnScope ["_law_draw", "_law_model_here", "_law_house", "_law_one"] ["_law_draw", "_law_model_here", "_law_house"] (defScope s_l_some_call) := ⟨rfl, rfl, rfl, by decide +kernel, rfl, by decide +kernel, by decide +kernel⟩
theorem ok_l_some_call (x : Fx K mg w) : FnR P w K mg base CX0 3 (a_l_some_call K) sp_l_some_call := by
  refine okR x.F_l_some_call sc_l_some_call (fun _ _ _ _ _ _ us hl => match us, hl with | [_, _, _], _ => rfl) (fun vs H Q E h => by obtain ⟨S, d, wd, c, m, n, md, z, rfl, dm, da, hn, ma, f, hz, hQ⟩ := h; rfl) (fun cdv A outer s H vs Q E hr h => ?_)
  obtain ⟨S, d, wd, c, m, n, md, z, rfl, dm, da, hn, ma, f, hz, hQ⟩ := h
  refine ⟨_, (pss_cons (ps_set (i := 3) sc_l_some_call.nd rfl (Or.inl rfl) (pe_dget (hu_of hr) (pe_dget (hu_of hr) (pv 1) pe_str (fun _ _ => rfl)) (pv 2) (fun _ _ => rfl)))
 (pss_one (ps_ret (pe_tup (pa_cons (pv 2) (pa_cons (pe_callR (ok_l_take x) (hr.mono (by decide)) rfl x.m_l_take (keep_of x.F_l_take) pass0 (pa_cons (pv 0) (pa_cons (pe_callB (r := rLenK K) call_lenK rfl x.n_len bb_len (pa_cons (pe_dget (hu_of hr) (pv 3) pe_str (fun _ _ => rfl)) pa_nil)) pa_nil))) (pa_cons (pe_and (pe_dget (hu_of hr) (pv 3) pe_str (fun _ _ => rfl)) (pe_one (pe_cmpR op_eq (pe_callR (ok_l_take x) (hr.mono (by decide)) rfl x.m_l_take (keep_of x.F_l_take) pass0 (pa_cons (pv 0) (pa_cons pe_int pa_nil))) pe_int (nomark _)))) pa_nil))))))), ?_⟩
  have hb : n + 2 ≤ 1099511627776 := hn
  obtain ⟨ph, ps, pe, kvs, m1, m2, m3, m4, m5⟩ := id ma
  have hz' : z ∈ md.houses.map (·.1) := hz
  obtain ⟨a', hv, hda⟩ := m3.at_ _ hz'
  have hf := f.hs _ (getH_mem hz')
  have hX : getH md.net.houses z = getH md.houses z := rfl
  generalize getH md.houses z = X at hda hf hX
  obtain ⟨pr, pc, pl, os, g1, g2, g3, g4, g5⟩ := id hda
  have lo := Paired.length g3
  have r1 := hf.1.r1
  have r2 := hf.1.r2
  dsimp only at r1 r2
  refine ⟨_, rfl, m, _, rfl, dget_str m1.1 mod_get.2.1, _, rfl, ph, _, rfl, dget_str m2.1 hv, ?_⟩
  dsimp only [gName]
  refine ⟨_, rfl, _, rfl, _, rfl, a', _, rfl, dget_str g1.1 hd_get.1, _, _, rfl, .inl ⟨_, .of g2.1, rfl⟩, S, d, wd, c, n, _, rfl, dm, da, by show n ≤ 1099511627776; omega, by simp; omega, by simp; omega, fun k H1 k0 k1 u1 da1 => ?_⟩
  rw [List.length_map, lo] at k1
  obtain ⟨j, rfl⟩ := Int.eq_ofNat_of_zero_le k0
  have dm1 := dm.kp u1
  refine ⟨_, rfl, a', _, rfl, dget_str (g1.kp u1).1 hd_get.2.2.2, X.fails, rfl, ifb (fun q => ?_) fun q => ?_⟩
  · refine ⟨_, rfl, S, d, wd, c, n + 1, 3, rfl, dm1, da1, by show n + 1 ≤ 1099511627776; omega, by decide, by decide, fun t H2 t0 t1 u2 da2 => ⟨rfl, sz (m := 10) (by simp), fun r nr => ?_⟩⟩
    have dm2 := dm1.kp u2
    refine hQ ⟨z, j, decide (V.int t = V.int 0)⟩ r _ rfl ⟨hz, by rw [hX]; exact Int.ofNat_lt.mp k1, fun _ => by rw [hX]; exact q⟩ ((u1.trans u2).add nr) (da2.ext (ext_new nr)) ⟨upd_same, fun y => dm2 r y nr⟩
  · refine ⟨sz (m := 10) (by simp), fun r nr => ?_⟩
    refine hQ ⟨z, j, false⟩ r _ rfl ⟨hz, by rw [hX]; exact Int.ofNat_lt.mp k1, fun y => nomatch y⟩ (u1.add nr) ((da1.ext (ext_new nr)).more (by omega)) ⟨upd_same, fun y => dm1 r y nr⟩
theorem keys_paths {S : Addr → Prop} {H H1 : Hp} : ∀ {kvs : List (List L2.Key × V)} {bs : List Addr} {cs : Cds}, IsKeys H1 kvs bs → CallsAt S H kvs cs → Paired (PathAt H1) bs (cs.map (·.1))
  | _, _, _, .nil, .nil => .nil
  | _, _, _, .cons h t, .cons ⟨g, _⟩ t2 => .cons (by show H1 _ = _; rw [← pathK_V, ← g]; exact h) (keys_paths t t2)
/-- one != () and one[:-1] == path -/
theorem kid_test2 {K : PySem.W.Frag} {σ : L2.St} {i j : Nat} {H : Hp} {a b : Addr} {p q : List Nat} {Q : Bool → Hp → Prop} (hi : σ[i]? = some (some (.ref b))) (hb : PathAt H b q) (h1 : σ[j]? = some (some (.ref a))) (ha : PathAt H a p) (k : ∀ H', Ext H H' → Q (isKid p q) H') :
    tAnd (tTest (tOp (rEqTN K true) (tVar i) (tTup tNil))) (tTest (tOp (rEqD K) (tSl (rSlT K) (tVar i) tNoPart (tPart (tUn (rU fun i => V.int (-i)) (tC (V.int 1))))) (tVar j))) σ H Q := by
  refine ⟨_, hi, by simp, fun l2 n2 => ⟨b, l2, _, rfl, rfl, .of (ext_new n2 _ _ hb), .of upd_same, _, rfl, ?_⟩⟩
  have e0 : Ext H (upd H l2 (.tup [])) := ext_new n2
  generalize upd H l2 (.tup []) = H0 at e0
  have hb := e0 _ _ hb
  refine ifb (fun z => ?_) fun z => ?_
  · have ne : q ≠ [] := fun y => by rw [y] at z; cases z
    obtain ⟨c1, c2⟩ := cut_last ne
    refine ⟨_, hi, _, rfl, _, rfl, b, _, rfl, .of hb, c2, fun pn npn => ?_⟩
    rw [c1]
    have e1 : Ext H0 (upd H0 pn (.tup (pathV q.dropLast))) := ext_new npn
    have hpn : PathAt (upd H0 pn (.tup (pathV q.dropLast))) pn q.dropLast := upd_same
    generalize upd H0 pn (.tup (pathV q.dropLast)) = H1 at e1 hpn ⊢
    refine ⟨_, h1, pathD q.dropLast, pathD p, path_dp hpn, path_dp (e1 _ _ (e0 _ _ ha)), path_shaped _, path_shaped _, _, rfl, ?_⟩
    rw [path_eq]
    have := k H1 (e0.trans e1)
    unfold isKid at this
    by_cases y : q.dropLast = p
    · have hl : q.length = p.length + 1 := by
        have h1 := congrArg List.length y
        have h2 := List.length_pos_iff.mpr ne
        rw [List.length_dropLast] at h1
        omega
      rw [decide_eq_true hl, Bool.true_and] at this
      exact this
    · rw [decide_eq_false y, Bool.and_false] at this
      rw [decide_eq_false y]
      exact this
  · have e : q = [] := by
      cases q with
      | nil => rfl
      | cons x q => cases z
    subst e
    have := k H0 e0
    have nk : isKid p [] = false := by unfold isKid; rw [decide_eq_false (by simp), Bool.false_and]
    rw [nk] at this
    exact this
/-- what the loop keeps -/
def DcI (S : Addr → Prop) (H : Hp) (d wd c m df : Addr) (n : Nat) (most : Int) (nt : NetD) (i : Nat) (σ : L2.St) (H' : Hp) : Prop := Kp S H H' ∧ DrawAt S H' d wd c (n + 4 + 5 * i) ∧ ∃ (cs : Cds) (kvs : List (List L2.Key × V)) (v4 v5 v6 v7 v8 : Option V), H' df = some (.dT kvs) ∧ CallsAt S H' kvs cs ∧ Grown nt cs ∧ cs.length ≤ i + 1 ∧
  σ = [some (.ref d), some (.ref m), some (.int most), some (.ref df), v4, v5, v6, v7, v8]
def sp_l_drawn_calls : Sp := fun vs H Q _ => ∃ (S : Addr → Prop) (d wd c m : Addr) (n : Nat) (md : ModelD), vs = [.ref d, .ref m, .int 60] ∧ S = two d wd ∧ Dm S H ∧ DrawAt S H d wd c n ∧ n + 310 ≤ big ∧ ModelAt S H m md ∧ md.Fit ∧
  ∀ (r : Addr) (H' : Hp) (cs : Cds) (kvs : List (List L2.Key × V)), Kp S H H' → DrawAt S H' d wd c (n + 310) → At S H' r (.dT kvs) → CallsAt S H' kvs cs → Told md.net cs → Q (.ref r) H'
theorem sc_l_drawn_calls : FnScope ["_law_draw", "_law_model_here", "_law_most", "_law_found", "_law_turn", "_law_path", "_law_calls", "_law_at", "_law_one"] ["_law_draw", "_law_model_here", "_law_most"] (defScope s_l_drawn_calls) := ⟨rfl, rfl, rfl, by decide +kernel, rfl, by decide +kernel, by decide +kernel⟩
theorem ok_l_drawn_calls (x : Fx K mg w) : FnR P w K mg base CX0 4 (a_l_drawn_calls K) sp_l_drawn_calls := by
  refine okR x.F_l_drawn_calls sc_l_drawn_calls (fun _ _ _ _ _ _ us hl => match us, hl with | [_, _, _], _ => rfl) (fun vs H Q E h => by obtain ⟨S, d, wd, c, m, n, md, rfl, eS, dm, da, hn, ma, f, hQ⟩ := h; rfl) (fun cdv A outer s H vs Q E hr h => ?_)
  obtain ⟨S, d, wd, c, m, n, md, rfl, eS, dm, da, hn, ma, f, hQ⟩ := h
  refine ⟨_, (pss_cons (ps_set (i := 3) sc_l_drawn_calls.nd rfl (Or.inr rfl) (pe_dispT hr.units0 (pps_cons (pe_tup pa_nil) (pe_callR (ok_l_some_call x) (hr.mono (by decide)) rfl x.m_l_some_call (keep_of x.F_l_some_call) pass0 (pa_cons (pv 0) (pa_cons (pv 1) (pa_cons (pe_callR (ok_l_pick x) (hr.mono (by decide)) rfl x.m_l_pick (keep_of x.F_l_pick) pass0 (pa_cons (pv 0) (pa_cons (pe_dget (hu_of hr) (pv 1) pe_str (fun _ _ => rfl)) pa_nil))) pa_nil)))) pps_nil) rfl rfl (by simp) (by decide)))
 (pss_cons (ps_for PassesOwn.never rfl (pi_range1 rfl x.n_range (pa_cons (pe_callR (ok_l_take x) (hr.mono (by decide)) rfl x.m_l_take (keep_of x.F_l_take) pass0 (pa_cons (pv 0) (pa_cons (pv 2) pa_nil))) pa_nil)) (pg_name (i := 4) sc_l_drawn_calls.nd rfl (Or.inl rfl))
 (pss_cons (ps_set (i := 5) sc_l_drawn_calls.nd rfl (Or.inr rfl) (pe_callR (ok_l_pick x) (hr.mono (by decide)) rfl x.m_l_pick (keep_of x.F_l_pick) pass0 (pa_cons (pv 0) (pa_cons (pe_ifExp (pt_cmpR op_eq (pe_callR (ok_l_take x) (hr.mono (by decide)) rfl x.m_l_take (keep_of x.F_l_take) pass0 (pa_cons (pv 0) (pa_cons pe_int pa_nil))) pe_int (nomark _)) (pe_slice (r := rSlL K) sl_list (pe_callTy (call_list_dT rfl) rfl x.n_list bb_list (pa_cons (pv 3) pa_nil)) (po_some (pe_un un_neg pe_int)) po_none) (pe_callTy (call_list_dT rfl) rfl x.n_list bb_list (pa_cons (pv 3) pa_nil))) pa_nil))))
 (pss_cons (ps_set (i := 6) sc_l_drawn_calls.nd rfl (Or.inl rfl) (pe_dget (hu_of hr) (pe_dget (hu_of hr) (pe_dget (hu_of hr) (pv 1) pe_str (fun _ _ => rfl)) (pe_ix (r := rIxT K) ix_tup (pe_dget (hu_of hr) (pv 3) (pv 5) (fun _ _ => rfl)) pe_int (fun _ _ => rfl)) (fun _ _ => rfl)) pe_str (fun _ _ => rfl)))
 (pss_one (ps_if (PW.pt (pw_and (pt_cmpR (show OpR _ _ (rEqNil K true) from op_neNil hr) (pv 6) (pe_lst pa_nil) (nomark _)) (pw_and1 (pt_cmpR op_lt (pe_callB (r := rLenK K) call_lenK rfl x.n_len bb_len (pa_cons (pv 5) pa_nil)) pe_int (nomark _)))))
 (pss_cons (ps_set (i := 7) sc_l_drawn_calls.nd rfl (Or.inl rfl) (pe_callB (r := rLenK K) call_lenK rfl x.n_len bb_len (pa_cons (pe_lock (pe_lc (own := [("_law_one", 8)]) rfl sc_l_drawn_calls.nd (pi_keys (pv 3)) (blkOk_by (N := ["_law_draw", "_law_model_here", "_law_most", "_law_found", "_law_turn", "_law_path", "_law_calls", "_law_at", "_law_one"]) (sc := defScope s_l_drawn_calls) (by decide +kernel)) (fun _ _ _ _ _ => (pg_name (i := 8) sc_l_drawn_calls.nd rfl (Or.inl rfl))) (fun _ _ _ _ _ => (pts_one (PW.pt (pw_and (pt_cmpR (show OpR _ _ (rEqTN K true) from op_neTN hr) (pv 8) (pe_tup pa_nil) (nomark _)) (pw_and1 (pt_cmpR (show OpR _ _ (rEqD K) from op_eqD hr.units) (pe_slice (r := rSlT K) sl_tup (pv 8) po_none (po_some (pe_un un_neg pe_int))) (pv 5) (nomark _))))))) (fun _ _ _ _ _ => (pv 8)))) pa_nil)))
 (pss_one (ps_dput (hu_of hr) (pv 3) (pe_op (show OpR _ _ (rCatA K) from op_catA) (pv 5) (pe_tup (pa_cons (pv 7) pa_nil))) (pe_callR (ok_l_some_call x) (hr.mono (by decide)) rfl x.m_l_some_call (keep_of x.F_l_some_call) pass0 (pa_cons (pv 0) (pa_cons (pv 1) (pa_cons (pe_callR (ok_l_pick x) (hr.mono (by decide)) rfl x.m_l_pick (keep_of x.F_l_pick) pass0 (pa_cons (pv 0) (pa_cons (pv 6) pa_nil))) pa_nil)))) rfl)))
 pss_nil)))))
 (pss_one (ps_ret (pe_callTy (r := rDctT K) (call_dctT rfl hr) rfl x.n_dict bb_dict (pa_cons (pe_lc (own := [("_law_path", 5)]) (tt := tYes) rfl sc_l_drawn_calls.nd (pi_listK (K := K) rfl (pe_callB (r := rSortDT) (call_sortDT rfl hr) rfl x.n_sorted bb_sorted (pa_cons (pv 3) pa_nil))) (blkOk_by (N := ["_law_draw", "_law_model_here", "_law_most", "_law_found", "_law_turn", "_law_path", "_law_calls", "_law_at", "_law_one"]) (sc := defScope s_l_drawn_calls) (by decide +kernel)) (fun _ _ _ _ _ => (pg_name (i := 5) sc_l_drawn_calls.nd rfl (Or.inl rfl))) (fun _ _ _ _ _ => pts_nil) (fun _ _ _ _ _ => (pe_tup (pa_cons (pv 5) (pa_cons (pe_dget (hu_of hr) (pv 3) (pv 5) (fun _ _ => rfl)) pa_nil))))) pa_nil)))))), ?_⟩
  have hb : n + 310 ≤ 1099511627776 := hn
  have tupS : ∀ {H' : Hp} {n' : Nat} {b : Addr} {xs : List V}, DrawAt S H' d wd c n' → H' b = some (.tup xs) → ¬ S b := fun {H' n' b xs} h hb z => by
    obtain ⟨_, _, ws, cs', rest, turn, h1, h2, _⟩ := h
    rw [eS] at z
    rcases z with rfl | rfl
    · rw [h1] at hb; cases hb
    · rw [h2] at hb; cases hb
  have fe := f.net.e0
  have fl := f.net.ln
  have f8 := f.net.hs.l2
  intro df ndf
  have e1 : Ext H (upd H df (.dT [])) := ext_new ndf
  have hf1 : (upd H df (.dT [])) df = some (.dT []) := upd_same
  have dn := da.ne ndf
  generalize upd H df (.dT []) = H1 at e1 hf1
  have dm1 := dm.ext e1
  have da1 := da.ext e1
  obtain ⟨ph, ps, pe, kvs0, m1, m2, m3, m4, m5⟩ := id (ma.ext e1)
  refine ⟨by simp [sizeLine_eq], fun e0 ne0 => ?_⟩
  have e2 : Ext H1 (upd H1 e0 (.tup [])) := ext_new ne0
  have h02 : PathAt (upd H1 e0 (.tup [])) e0 [] := upd_same
  generalize upd H1 e0 (.tup []) = H2 at e2 h02
  have dm2 := dm1.ext e2
  refine ⟨_, rfl, _, rfl, _, rfl, _, rfl, m, _, rfl, dget_str (e2 _ _ m1.1) mod_get.2.2.2.2, S, d, wd, c, n, _, rfl, dm2, da1.ext e2, by show n ≤ 1099511627776; omega, .inl ⟨pe, _, rfl, ⟨e2 _ _ m5.1, m5.2⟩, fun z => fe (List.map_eq_nil_iff.mp z), by rw [List.length_map]; have : md.entries.length < 64 := fl; omega, fun y hy H3 u3 da3 => ?_⟩⟩
  obtain ⟨z0, hz0, rfl⟩ := List.mem_map.mp hy
  have dm3 := dm2.kp u3
  have u13 := (Kp.ext (S := S) e2).trans u3
  refine ⟨S, d, wd, c, m, n + 1, md, z0, rfl, dm3, da3, by show n + 1 + 2 ≤ 1099511627776; omega, ((ma.ext e1).ext e2).kp u3, f, f.net.sub z0 hz0, fun x0 r0 H4 hx0 ok0 u4 da4 hr0 => ?_⟩
  have dfS : ¬ S df := fun z => dm df z ndf
  have u14 := u13.trans u4
  have hf4 := u14.keep _ _ hf1 dfS
  have h04 : PathAt H4 e0 [] := (u3.trans u4).keep _ _ h02 fun z => dm1 e0 z ne0
  refine ⟨hf4, [([], .ref r0)], .cons ⟨e0, rfl, h04, rfl⟩ .nil, by simp, ?_⟩
  rw [show putT [] [(([] : List L2.Key), V.ref r0)] = [(pathK [], .ref r0)] from rfl]
  have u05 : Kp S H (upd H4 df (.dT [(pathK [], .ref r0)])) := kp_put_new ((Kp.ext e1).trans u14) ndf
  have da5 : DrawAt S (upd H4 df (.dT [(pathK [], .ref r0)])) d wd c (n + 3) := da4.putn dn
  have hf5 : (upd H4 df (.dT [(pathK [], .ref r0)])) df = some (.dT [(pathK [], .ref r0)]) := upd_same
  have hr5 : At S (upd H4 df (.dT [(pathK [], .ref r0)])) r0 (.tup x0.vs) := ⟨by rw [upd_ne (ne_of hr0.1 hf4 fun z => nomatch z)]; exact hr0.1, hr0.2⟩
  generalize upd H4 df (.dT [(pathK [], .ref r0)]) = H5 at u05 da5 hf5 hr5
  have dm5 := dm.kp u05
  dsimp only [gName]
  refine ⟨_, rfl, _, rfl, S, d, wd, c, n + 3, 60, rfl, dm5, da5, by show n + 3 ≤ 1099511627776; omega, by decide, by decide, fun t H6 t0 t1 u6 da6 => ⟨t, rfl, by omega, by omega, ?_⟩⟩
  obtain ⟨T, rfl⟩ := Int.eq_ofNat_of_zero_le t0
  have g0 : Grown md.net [([], x0)] := grown_one (by rw [hx0]; exact hz0) ok0
  refine for_std (S := S) (H0 := H) std_range (DcI S H d wd c m df n 60 md.net) ⟨u05.trans u6, da6, [([], x0)], _, none, none, none, none, none, u6.keep _ _ hf5 dfS, .cons ⟨rfl, r0, rfl, hr5.kp u6⟩ .nil, g0, by simp, rfl⟩ (fun i σ H' h => h.1) (fun i y σ H7 hy h7 => ?_) (fun σ H7 h7 => ?_)
  · obtain ⟨u7, da7, cs, kvs, v4, v5, v6, v7, v8, hf7, hc7, g7, l7, rfl⟩ := h7
    have hi : i < 60 := by
      have := (List.getElem?_eq_some_iff.mp hy).1
      simp at this
      omega
    have dm7 := dm.kp u7
    have lk7 := Paired.length hc7
    dsimp only [gName]
    refine seq_cut (fun σ' H' => ∃ (b : Addr) (p : List Nat), Kp S H7 H' ∧ DrawAt S H' d wd c (n + 4 + 5 * i + 2) ∧ PathAt H' b p ∧ p ∈ cs.map (·.1) ∧ σ' = [some (.ref d), some (.ref m), some (.int 60), some (.ref df), some y, some (.ref b), v6, v7, v8]) ?_ fun tail => ?_
    · rintro σ' H8 ⟨b, p, u8, da8, hb8, hp, rfl⟩
      have dm8 := dm7.kp u8
      have hf8 := u8.keep _ _ hf7 dfS
      have hc8 := hc7.kp u8
      have u08 := u7.trans u8
      obtain ⟨ca, hv, hca⟩ := hc8.get hp
      have dg := DGet.t (k := pathK p) hf8 (by rw [pathK_V]; exact hb8)
      rw [hv] at dg
      have okc := g7.ok _ (getC_mem hp)
      generalize ex : getC cs p = x at hca okc
      have hx : (p, x) ∈ cs := ex ▸ getC_mem hp
      have hn : x.house ∈ md.houses.map (·.1) := okc.1
      obtain ⟨ph', ps', pe', kvs', n1, n2, n3, n4, n5⟩ := id (ma.kp u08)
      obtain ⟨ha, hhv, hda⟩ := n3.at_ _ hn
      have hfit := f.hs _ (getH_mem hn)
      have hX : getH md.net.houses x.house = getH md.houses x.house := rfl
      generalize getH md.houses x.house = X at hda hfit hX
      obtain ⟨pr, pc, pl, os, q1, q2, q3, q4, q5⟩ := id hda
      have lcx := hfit.1.ln
      dsimp only at lcx
      refine ⟨_, rfl, m, _, rfl, dget_str n1.1 mod_get.2.1, _, rfl, _, rfl, df, _, rfl, dg, ca, _, 0, _, rfl, rfl, SqT.of hca.1, atI_nat (j := 0) rfl, ph', _, rfl, dget_str n2.1 hhv, ha, _, rfl, dget_str q1.1 hd_get.2.1, ?_⟩
      dsimp only [gName]
      refine ⟨_, rfl, by simp, fun l3 n3 => ⟨pc, l3, _, rfl, rfl, .of (ext_new n3 _ _ q4.1), .of upd_same, _, rfl, ?_⟩⟩
      have e9 : Ext H8 (upd H8 l3 (.lst [])) := ext_new n3
      generalize upd H8 l3 (.lst []) = H9 at e9
      have skip : ∀ σ, σ = [some (.ref d), some (.ref m), some (.int 60), some (.ref df), some y, some (.ref b), some (.ref pc), v7, v8] → DcI S H d wd c m df n 60 md.net (i + 1) σ H9 := fun σ hσ =>
        ⟨u08.trans (.ext e9), (da8.ext e9).more (by omega), cs, kvs, _, _, _, _, _, e9 _ _ hf8, hc8.ext e9, g7, by omega, hσ⟩
      refine ifb (fun z1 => ?_) fun z1 => skip _ rfl
      have hb9 := e9 _ _ hb8
      have lp : (pathV p).length = p.length := by simp [pathV]
      refine ⟨_, rfl, _, _, rfl, .inr ⟨_, .of hb9, rfl⟩, _, _, rfl, rfl, _, rfl, ifb (fun z2 => ?_) fun z2 => skip _ rfl⟩
      rw [lp] at z2
      have p12 : p.length < 12 := by have := of_decide_eq_true z2; omega
      have ne : X.calls ≠ [] := fun y => by rw [y] at z1; cases z1
      have hf9 := e9 _ _ hf8
      -- how many calls it has
      refine ⟨df, _, hf9, True.intro, fun od => ?_⟩
      have hz : (upd H9 df (.frz od (.dT kvs))) df = some (.frz od (.dT kvs)) := upd_same
      have back : ∀ H', Ext (upd H9 df (.frz od (.dT kvs))) H' → Ext H9 (upd H' df (.dT kvs)) := fun H' u => unlock_ext hf9 u
      have tkz : Tk H9 (upd H9 df (.frz od (.dT kvs))) := Tk.put hf9 fun _ z => nomatch z
      have hbz := tkz _ _ hb9
      have noz : ∀ a, (upd H9 df (.frz od (.dT kvs))) a = none → a ≠ df := fun a h z => by rw [z, upd_same] at h; cases h
      generalize upd H9 df (.frz od (.dT kvs)) = Hz at hz back tkz hbz noz ⊢
      refine ⟨_, rfl, df, od, rfl, .inr ⟨kvs, hz, fun D hD => lc_keys hz (ks := cs.map (·.1)) (by rw [hc7.keys, List.map_map]; rfl) hD (isKid p) (by omega) (fun q b' H1 Nx hq hb' e1 yes no' => ?_) (fun H1 bs e1 hD1 hbs => ?_)⟩⟩
      · refine ⟨rfl, kid_test2 rfl hb' rfl (e1 _ _ hbz) fun H2 e2 => ifb (fun z => ?_) fun z => ?_⟩
        · exact ⟨_, rfl, yes H2 e2 z⟩
        · exact no' H2 e2 z
      · have hzd := e1 _ _ hz
        refine ⟨hzd, ?_⟩
        have e10 : Ext H9 (upd H1 df (.dT kvs)) := back H1 e1
        have hD2 : (upd H1 df (.dT kvs)) D = some (.lst (bs.map V.ref)) := by rw [upd_ne (noz D hD)]; exact hD1
        have lbs := Paired.length hbs
        generalize upd H1 df (.dT kvs) = H10 at e10 hD2
        refine ⟨_, _, rfl, .inl ⟨_, .of hD2, rfl⟩, ?_⟩
        dsimp only [gName]
        have u10 := u08.trans (.ext (e9.trans e10))
        have dm10 := dm.kp u10
        have da10 := da8.ext (e9.trans e10)
        have q4' := q4.ext (e9.trans e10)
        have hq4 : At S H10 pc (.lst (X.calls.map V.str)) := ⟨(e9.trans e10) _ _ q4.1, q4.2⟩
        refine ⟨_, rfl, _, rfl, _, rfl, _, rfl, S, d, wd, c, _, _, rfl, dm10, da10, by show n + 4 + 5 * i + 2 ≤ 1099511627776; omega, .inl ⟨pc, _, rfl, hq4, fun z => ne (List.map_eq_nil_iff.mp z), by rw [List.length_map]; omega, fun y' hy' H11 u11 da11 => ?_⟩⟩
        obtain ⟨zn, hzn, rfl⟩ := List.mem_map.mp hy'
        have dm11 := dm10.kp u11
        have znm : zn ∈ md.net.names := by
          have := f.net.hs.cl _ (getH_mem hn) zn
          exact this (by rw [hX]; exact hzn)
        refine ⟨S, d, wd, c, m, _, md, zn, rfl, dm11, da11, by show n + 4 + 5 * i + 2 + 1 + 2 ≤ 1099511627776; omega, (ma.kp u10).kp u11, f, znm, fun xn rn H12 hxn okn u12 da12 hrn => ?_⟩
        have u1012 := u11.trans u12
        have u12' := u10.trans u1012
        have hf12 := u1012.keep _ _ (e10 _ _ hf9) dfS
        have hb12 : PathAt H12 b p := u1012.keep _ _ (e10 _ _ hb9) (tupS da10 (e10 _ _ hb9))
        have hc12 := ((hc8.ext (e9.trans e10)).kp u1012)
        have ej : (bs.map V.ref).length = ((cs.map (·.1)).filter (isKid p)).length := by rw [List.length_map, lbs]
        generalize (bs.map V.ref).length = j at ej
        obtain ⟨g', new⟩ := g7.add hx (show xn.house ∈ (getH md.net.houses x.house).calls by rw [hX, hxn]; exact hzn) okn p12
        rw [← ej] at g' new
        have fin : ∀ (b' : Addr) (H' : Hp), Ext H12 H' → PathAt H' b' (p ++ [j]) → ∃ a H4, V.ref df = .ref a ∧ DPut H' a (.ref b') (.ref rn) H4 ∧ DcI S H d wd c m df n 60 md.net (i + 1) [some (.ref d), some (.ref m), some (.int 60), some (.ref df), some y, some (.ref b), some (.ref pc), some (.int (j : Nat)), v8] H4 := fun b' H' e hb' => by
          have knew : valV kvs (pathK (p ++ [j])) = none := valV_noneT (by
            rw [hc7.keys]
            intro z
            obtain ⟨e, he, z⟩ := List.mem_map.mp z
            exact new (pathK_inj z ▸ List.mem_map_of_mem he))
          have line := line1001
          have hf' := e _ _ hf12
          refine ⟨df, _, rfl, DPut.t (k := pathK (p ++ [j])) hf' (by rw [pathK_V]; exact hb') (by omega), ?_⟩
          rw [putK_new _ knew]
          have tk : Tk H' (upd H' df (.dT (kvs ++ [(pathK (p ++ [j]), .ref rn)]))) := Tk.put hf' fun _ z => nomatch z
          refine ⟨kp_put_new (u12'.trans (.ext e)) ndf, ((da12.ext e).putn dn).more (by omega), cs ++ [(p ++ [j], xn)], _, _, _, _, _, _, upd_same, ?_, g', by rw [List.length_append, List.length_singleton]; omega, rfl⟩
          exact paired_app ((hc12.ext e).lk tk) (.cons ⟨rfl, rn, rfl, tk _ _ (e _ _ hrn.1), hrn.2⟩ .nil)
        refine ⟨_, rfl, _, rfl, _, rfl, by simp [sizeLine_eq], fun tq ntq => ?_⟩
        have e13 : Ext H12 (upd H12 tq (.tup [.int (j : Nat)])) := ext_new ntq
        have htq : PathAt (upd H12 tq (.tup [.int (j : Nat)])) tq [j] := upd_same
        generalize upd H12 tq (.tup [.int (j : Nat)]) = H13 at e13 htq
        refine ⟨b, tq, _, _, rfl, rfl, .of (e13 _ _ hb12), .of htq, sz (m := 100) (by simp [pathV]; omega), fun z => ?_, fun _ z => by simp [pathV] at z, fun _ _ t3 nt3 => ?_⟩
        · have hp0 : p = [] := List.map_eq_nil_iff.mp z
          exact fin tq H13 e13 (by rw [hp0]; exact htq)
        · exact fin t3 _ (e13.trans (ext_new nt3)) (by show upd H13 t3 _ t3 = _; rw [upd_same]; simp [pathV])
    · refine ⟨_, rfl, _, rfl, S, d, wd, c, _, 2, rfl, dm7, da7, by show n + 4 + 5 * i ≤ 1099511627776; omega, by decide, by decide, fun k H8 k0 k1 u8 da8 => ⟨rfl, _, rfl, ?_⟩⟩
      have hf8 := u8.keep _ _ hf7 dfS
      have dm8 := dm7.kp u8
      have keyed : ∀ {bs : List Addr}, IsKeys H8 kvs bs → Paired (PathAt H8) bs (cs.map (·.1)) := fun {bs} hk => by
        have := keys_paths hk hc7
        exact this
      refine ifb (fun q => ?_) fun q => ?_
      · refine ⟨_, rfl, df, kvs, rfl, .inl hf8, fun l1 bs nl1 hk => ?_⟩
        have kp := keyed hk
        have lb := Paired.length kp
        rw [List.length_map] at lb
        have e9 : Ext H8 (upd H8 l1 (.lst (bs.map V.ref))) := ext_new nl1
        have h9 : (upd H8 l1 (.lst (bs.map V.ref))) l1 = some (.lst (bs.map V.ref)) := upd_same
        generalize upd H8 l1 (.lst (bs.map V.ref)) = H9 at e9 h9 ⊢
        refine ⟨_, rfl, _, rfl, l1, _, rfl, .of h9, fun l2 nl2 => ?_⟩
        have dm9 := dm8.ext e9
        have cut : cutV (bs.map V.ref) (some (-3)) none = (bs.drop (bs.length - 3)).map V.ref := by
          have a1 : HT.sIx (bs.map V.ref).length 0 (some (-3)) = bs.length - 3 := by
            rw [List.length_map]
            show (if (-3 : Int) < 0 then ((-3 : Int) + (bs.length : Int)).toNat else min (-3 : Int).toNat bs.length) = _
            rw [if_pos (by omega)]
            omega
          unfold cutV
          rw [a1, show HT.sIx (bs.map V.ref).length (bs.map V.ref).length none = (bs.map V.ref).length from rfl, List.take_of_length_le (by rw [List.length_drop]; exact Nat.le_refl _), List.map_drop]
        rw [cut]
        have e10 : Ext H9 (upd H9 l2 (.lst ((bs.drop (bs.length - 3)).map V.ref))) := ext_new nl2
        have h10 : At S (upd H9 l2 (.lst ((bs.drop (bs.length - 3)).map V.ref))) l2 (.lst ((bs.drop (bs.length - 3)).map V.ref)) := ⟨upd_same, fun z => dm9 l2 z nl2⟩
        generalize upd H9 l2 (.lst ((bs.drop (bs.length - 3)).map V.ref)) = H10 at e10 h10 ⊢
        have e810 := e9.trans e10
        refine ⟨S, d, wd, c, _, _, rfl, dm8.ext e810, da8.ext e810, by show n + 4 + 5 * i + 1 ≤ 1099511627776; omega, .inl ⟨l2, _, rfl, h10, fun z => ?_, by rw [List.length_map, List.length_drop]; omega, fun y' hy' H11 u11 da11 => ?_⟩⟩
        · obtain ⟨c0, r, e, _⟩ := g7.root
          have := congrArg List.length z
          rw [List.length_map, List.length_drop] at this
          rw [e, List.length_cons] at lb
          simp at this
          omega
        · obtain ⟨b, hb, rfl⟩ := List.mem_map.mp hy'
          obtain ⟨j, hj⟩ := List.getElem?_of_mem (List.mem_of_mem_drop hb)
          obtain ⟨p, hp1, hp2⟩ := paired_at kp hj
          exact tail _ _ ⟨b, p, (u8.trans (.ext e810)).trans u11, da11, u11.keep _ _ (e810 _ _ hp2) (tupS (da8.ext e810) (e810 _ _ hp2)), List.mem_of_getElem? hp1, rfl⟩
      · refine ⟨_, rfl, df, kvs, rfl, .inl hf8, fun l1 bs nl1 hk => ?_⟩
        have kp := keyed hk
        have lb := Paired.length kp
        rw [List.length_map] at lb
        have e9 : Ext H8 (upd H8 l1 (.lst (bs.map V.ref))) := ext_new nl1
        have h9 : At S (upd H8 l1 (.lst (bs.map V.ref))) l1 (.lst (bs.map V.ref)) := ⟨upd_same, fun z => dm8 l1 z nl1⟩
        generalize upd H8 l1 (.lst (bs.map V.ref)) = H9 at e9 h9 ⊢
        refine ⟨S, d, wd, c, _, _, rfl, dm8.ext e9, da8.ext e9, by show n + 4 + 5 * i + 1 ≤ 1099511627776; omega, .inl ⟨l1, _, rfl, h9, fun z => ?_, by rw [List.length_map]; omega, fun y' hy' H10 u10 da10 => ?_⟩⟩
        · obtain ⟨c0, r, e, _⟩ := g7.root
          rw [List.map_eq_nil_iff] at z
          rw [z, e] at lb
          cases lb
        · obtain ⟨b, hb, rfl⟩ := List.mem_map.mp hy'
          obtain ⟨j, hj⟩ := List.getElem?_of_mem hb
          obtain ⟨p, hp1, hp2⟩ := paired_at kp hj
          exact tail _ _ ⟨b, p, (u8.trans (.ext e9)).trans u10, da10, u10.keep _ _ (e9 _ _ hp2) (tupS (da8.ext e9) (e9 _ _ hp2)), List.mem_of_getElem? hp1, rfl⟩
  · obtain ⟨u7, da7, cs, kvs, v4, v5, v6, v7, v8, hf7, hc7, g7, l7, rfl⟩ := h7
    have dm7 := dm.kp u7
    have lk7 := Paired.length hc7
    rw [List.length_map, List.length_range, Int.toNat_natCast] at da7 l7
    have kd : (kvs.map fun p => keyTD p.1) = (cs.map (·.1)).map pathD := by
      have := congrArg (List.map keyTD) hc7.keys
      rw [List.map_map, List.map_map] at this
      rw [List.map_map]
      refine this.trans (List.map_congr_left fun e _ => ?_)
      exact pathK_D e.1
    obtain ⟨c0, r0', ecs, _⟩ := g7.root
    refine ⟨_, rfl, df, kvs, rfl, .inl hf7, ?_, ?_, fun bs es lp hk perm pw nlp => ?_⟩
    · rw [kd]
      intro d hd d' hd'
      obtain ⟨e, _, rfl⟩ := List.mem_map.mp hd
      obtain ⟨e', _, rfl⟩ := List.mem_map.mp hd'
      exact alike_path _ _
    · rw [kd, ecs]
      exact .inr ⟨⟨_, rfl⟩, fun d hd => by
        obtain ⟨e, _, rfl⟩ := List.mem_map.mp hd
        exact ⟨_, rfl⟩⟩
    · rw [kd] at perm
      obtain ⟨ds, qs, he, hq, pq, sq⟩ := sorted_paths (keys_paths hk hc7) perm pw
      rw [he]
      have lds := Paired.length hq
      have lqs := pq.length_eq
      rw [List.length_map] at lqs
      have ndq : qs.Nodup := pq.nodup_iff.mpr g7.nd
      have pcs : (qs.map fun q => (q, getC cs q)).Perm cs := by
        refine (pq.map _).trans ?_
        rw [List.map_map]
        have : (cs.map ((fun q => (q, getC cs q)) ∘ fun e => e.1)) = cs := by
          conv => rhs; rw [← List.map_id cs]
          refine List.map_congr_left fun e he => ?_
          show (e.1, getC cs e.1) = e
          rw [getC_of g7.nd he]
        rw [this]
      have e8 : Ext H7 (upd H7 lp (.lst (ds.map V.ref))) := ext_new nlp
      have hlp : (upd H7 lp (.lst (ds.map V.ref))) lp = some (.lst (ds.map V.ref)) := upd_same
      generalize upd H7 lp (.lst (ds.map V.ref)) = H8 at e8 hlp
      have hf8 := e8 _ _ hf7
      have hc8 := hc7.ext e8
      refine ⟨lp, rfl, ⟨_, .of hlp⟩, fun D hD => lc_std (S := no) (H0 := H8) (std_list (.of hlp) fun z => z) (fun i H' => Ext H8 H' ∧ ∃ (ps : List Addr) (kv2 : List (List L2.Key × V)), H' D = some (.lst (ps.map V.ref)) ∧ Paired (fun (p : Addr) (kv : List L2.Key × V) => ∃ b, H' p = some (.tup [.ref b, kv.2]) ∧ H' b = some (.tup (kv.1.map kV))) ps kv2 ∧ CallsAt S H8 kv2 ((qs.take i).map fun q => (q, getC cs q))) ⟨ext_new hD, [], [], upd_same, .nil, .nil⟩ (fun i H' h => .ext h.1) (fun i x H9 hx ⟨e9, ps, kv2, hD9, hp9, hc9⟩ => ?_) (fun H9 ⟨e9, ps, kv2, hD9, hp9, hc9⟩ => ?_)⟩
      · rw [List.getElem?_map] at hx
        cases hb : ds[i]? with
        | none => rw [hb] at hx; cases hx
        | some b =>
          rw [hb] at hx
          obtain rfl : V.ref b = x := Option.some.inj hx
          obtain ⟨q, hq1, hq2⟩ := paired_at hq hb
          have tk1 : qs.take (i + 1) = qs.take i ++ [q] := by rw [List.take_add_one, hq1]; rfl
          have qm : q ∈ cs.map (·.1) := pq.mem_iff.mp (List.mem_of_getElem? hq1)
          obtain ⟨ca, hv, hca⟩ := hc8.get qm
          have hb9 : PathAt H9 b q := e9 _ _ (e8 _ _ hq2)
          have dg := DGet.t (k := pathK q) (e9 _ _ hf8) (by rw [pathK_V]; exact hb9)
          rw [hv] at dg
          refine ⟨rfl, _, rfl, _, rfl, _, rfl, df, _, rfl, dg, by simp [sizeLine_eq], fun pt npt => ?_⟩
          have e10 : Ext H9 (upd H9 pt (.tup [.ref b, .ref ca])) := ext_new npt
          have hpt : (upd H9 pt (.tup [.ref b, .ref ca])) pt = some (.tup [.ref b, .ref ca]) := upd_same
          generalize upd H9 pt (.tup [.ref b, .ref ca]) = H10 at e10 hpt ⊢
          have hD10 := e10 _ _ hD9
          have lp9 := Paired.length hp9
          have lc9 := Paired.length hc9
          rw [List.length_map] at lc9
          have lt := List.length_take_le' i qs
          have line := line1001
          refine ⟨_, hD10, by rw [List.length_map]; omega, fun a o z => ?_, ps ++ [pt], kv2 ++ [(pathK q, .ref ca)], by rw [upd_same]; simp, ?_, ?_⟩
          · rw [upd_ne (ne_of_none z hD)]
            exact e10 _ _ (e9 _ _ z)
          · have tk : Tk H10 (upd H10 D (.lst (ps.map V.ref ++ [.ref pt]))) := Tk.put hD10 fun _ z => nomatch z
            exact paired_app (Paired.mapP hp9 fun p kv ⟨b', h1, h2⟩ => ⟨b', tk _ _ (e10 _ _ h1), tk _ _ (e10 _ _ h2)⟩) (.cons ⟨b, tk _ _ hpt, by rw [pathK_V]; exact tk _ _ (e10 _ _ hb9)⟩ .nil)
          · rw [tk1, List.map_append]
            exact paired_app hc9 (.cons ⟨rfl, ca, rfl, hca⟩ .nil)
      · rw [List.length_map, lds, List.take_length] at hc9
        have nk : (kv2.map (·.1)).Nodup := by
          rw [hc9.keys, List.map_map]
          exact List.pairwise_map.mpr (ndq.imp fun h e => h (pathK_inj e))
        refine ⟨D, ps, kv2, rfl, .of hD9, Paired.mapP hp9 fun p kv ⟨b', h1, h2⟩ => ⟨b', .of h1, h2⟩, fun r nr => ?_⟩
        rw [putT_id kv2 [] nk, List.nil_append]
        have e710 := (e8.trans e9).trans (ext_new (o := .dT kv2) nr)
        have dm10 := dm7.ext (e8.trans e9)
        refine hQ r _ _ kv2 (u7.trans (.ext e710)) ((da7.ext e710).more (by omega)) ⟨upd_same, fun z => dm10 r z nr⟩ (hc9.ext (e9.trans (ext_new nr))) ((g7.told (by omega)).perm pcs)
end
end Ws

set_option Elab.async false
set_option linter.all false
set_option maxRecDepth 100000
set_option maxHeartbeats 4000000
namespace Ws
open PySem PySem.Spec PyProof.Rows L2 PySem.W
def zeros (k : Nat) : List Nat := List.replicate k 0
/-- the house that calls itself -/
def ringD : NetD := ⟨5, [("ring", ⟨[⟨1, "handed", false, false⟩, ⟨5, "m", false, false⟩], ["ring"], [], true⟩)], ["ring"]⟩
def Ringed (cs : Cds) : Prop := ∀ e ∈ cs, e.2.house = "ring" ∧ e.2.number < 2
theorem ring_get : getH ringD.houses "ring" = ⟨[⟨1, "handed", false, false⟩, ⟨5, "m", false, false⟩], ["ring"], [], true⟩ := by decide +kernel
theorem Ringed.ok {cs : Cds} (r : Ringed cs) : ∀ e ∈ cs, CallOk ringD e.2 := fun e he => by
  obtain ⟨h1, h2⟩ := r e he
  unfold CallOk
  rw [h1, ring_get]
  exact ⟨by decide +kernel, h2, fun _ => rfl⟩
theorem zeros_len (k : Nat) : (zeros k).length = k := List.length_replicate
theorem zeros_inj {j k : Nat} (h : zeros j = zeros k) : j = k := by
  have := congrArg List.length h
  rwa [zeros_len, zeros_len] at this
theorem zeros_snoc (k : Nat) : zeros (k + 1) = zeros k ++ [0] := List.replicate_succ'
def chainK (n : Nat) : List (List Nat) := (List.range n).map zeros
def rowK (w n : Nat) : List (List Nat) := (List.range n).map fun k => zeros w ++ [1 + k]
theorem chain_not (n : Nat) : zeros n ∉ chainK n := fun h => by
  obtain ⟨k, hk, e⟩ := List.mem_map.mp h
  have := zeros_inj e
  have := List.mem_range.mp hk
  omega
theorem row_not (n w j : Nat) : zeros w ++ [1 + j] ∉ chainK n ++ rowK w j := fun h => by
  rcases List.mem_append.mp h with h | h
  · obtain ⟨k, hk, e⟩ := List.mem_map.mp h
    cases k with
    | zero =>
      have := congrArg List.length e
      simp [zeros] at this
    | succ k =>
      rw [zeros_snoc] at e
      have := congrArg List.getLast? e
      simp at this
      omega
  · obtain ⟨k, hk, e⟩ := List.mem_map.mp h
    have hk := List.mem_range.mp hk
    have := congrArg List.getLast? e
    simp at this
    omega
theorem keys_nodup (n w : Nat) : ∀ j, (chainK n ++ rowK w j).Nodup
  | 0 => by
    rw [show rowK w 0 = [] from rfl, List.append_nil]
    exact List.pairwise_map.mpr ((List.nodup_range (n := n)).imp fun h e => h (zeros_inj e))
  | j + 1 => by
    have e : rowK w (j + 1) = rowK w j ++ [zeros w ++ [1 + j]] := by unfold rowK; rw [List.range_succ, List.map_append]; rfl
    rw [e, ← List.append_assoc]
    refine List.nodup_append.mpr ⟨keys_nodup n w j, by simp, fun a ha b hb e => ?_⟩
    subst e
    rw [List.mem_singleton] at hb
    exact row_not n w j (hb ▸ ha)
theorem steep_told {cs : Cds} {n w j : Nat} (r : Ringed cs) (k : cs.map (·.1) = chainK n ++ rowK w j) (hw : w + 2 ≤ n) (hn : n ≤ 30) (hj : n + j ≤ 60) : Told ringD cs := by
  have inChain : ∀ i, i < n → ∃ c, (zeros i, c) ∈ cs := fun i hi => by
    have : zeros i ∈ cs.map (·.1) := by rw [k]; exact List.mem_append_left _ (List.mem_map_of_mem (List.mem_range.mpr hi))
    obtain ⟨e, he, z⟩ := List.mem_map.mp this
    exact ⟨e.2, by rw [← z]; exact he⟩
  have call : ∀ e ∈ cs, ∀ c : CallD, c.house = "ring" → e.2.house ∈ (getH ringD.houses c.house).calls := fun e he c hc => by
    rw [hc, ring_get, (r e he).1]
    exact List.mem_cons_self
  refine ⟨by rw [k]; exact keys_nodup n w j, ?_, r.ok, fun e he => ?_, fun e he => ?_, ?_⟩
  · obtain ⟨c, hc⟩ := inChain 0 (by omega)
    exact ⟨c, hc, by rw [(r _ hc).1]; decide +kernel⟩
  · have : e.1 ∈ chainK n ++ rowK w j := by rw [← k]; exact List.mem_map_of_mem he
    rcases List.mem_append.mp this with h | h
    · obtain ⟨i, hi, z⟩ := List.mem_map.mp h
      have hi := List.mem_range.mp hi
      cases i with
      | zero => exact .inl z.symm
      | succ i =>
        obtain ⟨c, hc⟩ := inChain i (by omega)
        exact .inr ⟨zeros i, 0, c, by rw [← z, zeros_snoc], hc, call e he c (r _ hc).1⟩
    · obtain ⟨i, hi, z⟩ := List.mem_map.mp h
      obtain ⟨c, hc⟩ := inChain w (by omega)
      exact .inr ⟨zeros w, 1 + i, c, z.symm, hc, call e he c (r _ hc).1⟩
  · have : e.1 ∈ chainK n ++ rowK w j := by rw [← k]; exact List.mem_map_of_mem he
    rcases List.mem_append.mp this with h | h
    · obtain ⟨i, hi, z⟩ := List.mem_map.mp h
      have hi := List.mem_range.mp hi
      rw [← z, zeros_len]
      omega
    · obtain ⟨i, hi, z⟩ := List.mem_map.mp h
      rw [← z, List.length_append, zeros_len, List.length_singleton]
      omega
  · have := congrArg List.length k
    rw [List.length_map, List.length_append] at this
    simp only [chainK, rowK, List.length_map, List.length_range] at this
    omega
theorem one_told {c : CallD} (h : c.house = "ring" ∧ c.number < 2) : Told ringD [([], c)] := by
  have r : Ringed [([], c)] := fun e he => by rw [List.mem_singleton.mp he]; exact h
  exact ⟨by simp, ⟨c, List.mem_singleton.mpr rfl, by rw [h.1]; decide +kernel⟩, r.ok, fun e he => .inl (by rw [List.mem_singleton.mp he]), fun e he => by rw [List.mem_singleton.mp he]; exact Nat.zero_le _, by simp⟩
theorem dput_tk {H H4 : Hp} {df b rn : Addr} {kvs : List (List L2.Key × V)} (hf : H df = some (.dT kvs)) (p : DPut H df (.ref b) (.ref rn) H4) : Tk H H4 := by
  rcases p with ⟨kv2, k, h1, _⟩ | ⟨kv2, k, b', h1, h2, h3, h4, rfl⟩
  · rw [hf] at h1; cases h1
  · exact Tk.put hf fun _ z => nomatch z
theorem pathV_zeros (k : Nat) : pathV (zeros k) = List.replicate k (V.int 0) := by unfold pathV zeros; rw [List.map_replicate]; rfl
/-- what the loops keep -/
def SeI (S : Addr → Prop) (H : Hp) (d wd c df : Addr) (n : Nat) (ks : Nat → List (List Nat)) (i : Nat) (σ : L2.St) (deep w : Option V) (H' : Hp) : Prop := Kp S H H' ∧ DrawAt S H' d wd c (n + 2 * i) ∧ ∃ (cs : Cds) (kvs : List (List L2.Key × V)) (v3 : Option V), H' df = some (.dT kvs) ∧ CallsAt S H' kvs cs ∧ Ringed cs ∧ cs.map (·.1) = ks i ∧
  σ = [some (.ref d), some (.ref df), deep, v3, w]
section
variable {P : Program} {w : World} {K : PySem.W.Frag} {mg : Str → Option Value} {base : Heap}
def sp_l_steep : Sp := fun vs H Q _ => ∃ (S : Addr → Prop) (d wd c : Addr) (n : Nat), vs = [.ref d] ∧ Dm S H ∧ DrawAt S H d wd c n ∧ n + 300 ≤ big ∧
  ∀ (r : Addr) (H' : Hp) (cs : Cds) (kvs : List (List L2.Key × V)), Kp S H H' → DrawAt S H' d wd c (n + 300) → At S H' r (.dT kvs) → CallsAt S H' kvs cs → Told ringD cs → Q (.ref r) H'
theorem sc_l_steep : FnScope ["_law_draw", "_law_found", "_law_deep", "_law_at", "_law_where"] ["_law_draw"] (defScope s_l_steep) := ⟨rfl, rfl, rfl, by decide +kernel, rfl, by decide +kernel, by decide +kernel⟩
theorem ok_l_steep (x : Fx K mg w) : FnR P w K mg base CX0 3 (a_l_steep K) sp_l_steep := by
  refine okR x.F_l_steep sc_l_steep (fun _ _ _ _ _ _ us hl => match us, hl with | [_], _ => rfl) (fun vs H Q E h => by obtain ⟨S, d, wd, c, n, rfl, dm, da, hn, hQ⟩ := h; rfl) (fun cdv A outer s H vs Q E hr h => ?_)
  obtain ⟨S, d, wd, c, n, rfl, dm, da, hn, hQ⟩ := h
  refine ⟨_, (pss_cons (ps_par (i := 1) (j := 2) rfl sc_l_steep.nd rfl rfl (by decide) rfl rfl (pa_cons pe_dnewT (pa_cons (pe_op op_add pe_int (pe_callR (ok_l_take x) (hr.mono (by decide)) rfl x.m_l_take (keep_of x.F_l_take) pass0 (pa_cons (pv 0) (pa_cons pe_int pa_nil)))) pa_nil)) (by rfl))
 (pss_cons (ps_for PassesOwn.never rfl (pi_range1 rfl x.n_range (pa_cons (pv 2) pa_nil)) (pg_name (i := 3) sc_l_steep.nd rfl (Or.inl rfl))
 (pss_one (ps_dput (hu_of hr) (pv 1) (pe_op (show OpR _ _ (rRepT1 K) from op_repT1) (pe_tup (pa_cons pe_int pa_nil)) (pv 3)) (pe_tup (pa_cons pe_str (pa_cons (pe_callR (ok_l_take x) (hr.mono (by decide)) rfl x.m_l_take (keep_of x.F_l_take) pass0 (pa_cons (pv 0) (pa_cons pe_int pa_nil))) (pa_cons (pe_cmpR op_eq (pe_callR (ok_l_take x) (hr.mono (by decide)) rfl x.m_l_take (keep_of x.F_l_take) pass0 (pa_cons (pv 0) (pa_cons pe_int pa_nil))) pe_int (nomark _)) pa_nil)))) rfl)))
 (pss_cons (ps_set (i := 4) sc_l_steep.nd rfl (Or.inl rfl) (pe_ifExp (pt_cmpR op_gt (pv 2) pe_int (nomark _)) (pe_op (show OpR _ _ (rRepT1 K) from op_repT1) (pe_tup (pa_cons pe_int pa_nil)) (pe_callR (ok_l_take x) (hr.mono (by decide)) rfl x.m_l_take (keep_of x.F_l_take) pass0 (pa_cons (pv 0) (pa_cons (pe_op op_sub (pv 2) pe_int) pa_nil)))) (pe_tup pa_nil)))
 (pss_cons (ps_for PassesOwn.never rfl (pi_range1 rfl x.n_range (pa_cons (pe_callR (ok_l_take x) (hr.mono (by decide)) rfl x.m_l_take (keep_of x.F_l_take) pass0 (pa_cons (pv 0) (pa_cons (pe_op op_sub pe_int (pv 2)) pa_nil))) pa_nil)) (pg_name (i := 3) sc_l_steep.nd rfl (Or.inl rfl))
 (pss_one (ps_dput (hu_of hr) (pv 1) (pe_op (show OpR _ _ (rCatA K) from op_catA) (pv 4) (pe_tup (pa_cons (pe_op op_add pe_int (pv 3)) pa_nil))) (pe_tup (pa_cons pe_str (pa_cons (pe_callR (ok_l_take x) (hr.mono (by decide)) rfl x.m_l_take (keep_of x.F_l_take) pass0 (pa_cons (pv 0) (pa_cons pe_int pa_nil))) (pa_cons (pe_cmpR op_eq (pe_callR (ok_l_take x) (hr.mono (by decide)) rfl x.m_l_take (keep_of x.F_l_take) pass0 (pa_cons (pv 0) (pa_cons pe_int pa_nil))) pe_int (nomark _)) pa_nil)))) rfl)))
 (pss_cons (ps_if (pt_cmp (pc_dnotin (hu_of hr) (pe_op (show OpR _ _ (rCatA K) from op_catA) (pv 4) (pe_tup (pa_cons pe_int pa_nil))) (pv 1)))
 (pss_one (ps_ret (pe_dispT hr.units0 (pps_cons (pe_tup pa_nil) (pe_dget (hu_of hr) (pv 1) (pe_tup pa_nil) (fun _ _ => rfl)) pps_nil) rfl rfl (by simp) (by decide))))
 pss_nil)
 (pss_one (ps_ret (pv 1)))))))), ?_⟩
  have hb : n + 300 ≤ 1099511627776 := hn
  intro df ndf
  have e1 : Ext H (upd H df (.dT [])) := ext_new ndf
  have hf1 : (upd H df (.dT [])) df = some (.dT []) := upd_same
  have dn := da.ne ndf
  have dfS : ¬ S df := fun z => dm df z ndf
  generalize upd H df (.dT []) = H1 at e1 hf1
  have dm1 := dm.ext e1
  have da1 := da.ext e1
  refine ⟨_, rfl, S, d, wd, c, n, 30, rfl, dm1, da1, by show n ≤ 1099511627776; omega, by decide, by decide, fun t H2 t0 t1 u2 da2 => ⟨_, _, rfl, rfl, _, _, rfl, ?_⟩⟩
  obtain ⟨T, rfl⟩ := Int.eq_ofNat_of_zero_le t0
  have u02 := (Kp.ext (S := S) e1).trans u2
  have hf2 := u2.keep _ _ hf1 dfS
  have T30 : T < 30 := by omega
  -- a call is put
  have put : ∀ {H' : Hp} {kvs : List (List L2.Key × V)} {cs : Cds} {b rn : Addr} {p : List Nat} {x : CallD} {N : Nat}, Kp S H H' → DrawAt S H' d wd c N → H' df = some (.dT kvs) → CallsAt S H' kvs cs → p ∉ cs.map (·.1) → PathAt H' b p → At S H' rn (.tup x.vs) → cs.length ≤ 100 →
      ∃ H4, DPut H' df (.ref b) (.ref rn) H4 ∧ Kp S H H4 ∧ DrawAt S H4 d wd c N ∧ H4 df = some (.dT (kvs ++ [(pathK p, .ref rn)])) ∧ CallsAt S H4 (kvs ++ [(pathK p, .ref rn)]) (cs ++ [(p, x)]) := by
    intro H' kvs cs b rn p x N u da hf hc new hb hr hl
    have lk := Paired.length hc
    have line := line1001
    have knew : valV kvs (pathK p) = none := valV_noneT (by
      rw [hc.keys]
      intro z
      obtain ⟨e, he, z⟩ := List.mem_map.mp z
      exact new (pathK_inj z ▸ List.mem_map_of_mem he))
    refine ⟨_, DPut.t (k := pathK p) hf (by rw [pathK_V]; exact hb) (by omega), ?_⟩
    rw [putK_new _ knew]
    have tk : Tk H' (upd H' df (.dT (kvs ++ [(pathK p, .ref rn)]))) := Tk.put hf fun _ z => nomatch z
    exact ⟨kp_put_new u ndf, da.putn dn, upd_same, paired_app (hc.lk tk) (.cons ⟨rfl, rn, rfl, tk _ _ hr.1, hr.2⟩ .nil)⟩
  refine ⟨_, rfl, (1 + (T : Int) : Int), rfl, by omega, by omega, ?_⟩
  have eT : ((1 : Int) + (T : Int)).toNat = T + 1 := by omega
  rw [eT]
  refine for_std (S := S) (H0 := H) std_range (fun i σ H' => SeI S H d wd c df (n + 1) chainK i σ (some (.int (1 + (T : Int)))) none H') ⟨u02, da2, [], [], none, hf2, .nil, fun e he => (nomatch he), rfl, rfl⟩ (fun i σ H' h => h.1) (fun i y σ H7 hy h7 => ?_) (fun σ H7 h7 => ?_)
  · obtain ⟨u7, da7, cs, kvs, v3, hf7, hc7, r7, k7, rfl⟩ := h7
    obtain ⟨hi, hy⟩ := List.getElem?_eq_some_iff.mp hy
    have hi : i < T + 1 := by simpa using hi
    obtain rfl : V.int (i : Nat) = y := by rw [← hy]; simp
    have dm7 := dm.kp u7
    have l7 : cs.length = i := by
      have := congrArg List.length k7
      simpa [chainK] using this
    dsimp only [gName]
    refine ⟨_, rfl, S, d, wd, c, _, 2, rfl, dm7, da7, by show n + 1 + 2 * i ≤ 1099511627776; omega, by decide, by decide, fun k H8 k0 k1 u8 da8 => ?_⟩
    obtain ⟨j, rfl⟩ := Int.eq_ofNat_of_zero_le k0
    have dm8 := dm7.kp u8
    refine ⟨_, rfl, S, d, wd, c, _, 4, rfl, dm8, da8, by show n + 1 + 2 * i + 1 ≤ 1099511627776; omega, by decide, by decide, fun t H9 t0 t1 u9 da9 => ⟨rfl, sz (m := 10) (by simp), fun rn nrn => ?_⟩⟩
    have dm9 := dm8.kp u9
    have u79 := u8.trans u9
    have e10 : Ext H9 (upd H9 rn (.tup [.str "ring", .int (j : Nat), .bl (decide (V.int t = V.int 0))])) := ext_new nrn
    have hrn : At S (upd H9 rn (.tup [.str "ring", .int (j : Nat), .bl (decide (V.int t = V.int 0))])) rn (.tup (CallD.mk "ring" j (decide (V.int t = V.int 0))).vs) := ⟨upd_same, fun z => dm9 rn z nrn⟩
    generalize upd H9 rn (.tup [.str "ring", .int (j : Nat), .bl (decide (V.int t = V.int 0))]) = H10 at e10 hrn ⊢
    have fin : ∀ (b : Addr) (H' : Hp), Ext H10 H' → PathAt H' b (zeros i) → ∃ a H4, V.ref df = .ref a ∧ DPut H' a (.ref b) (.ref rn) H4 ∧ SeI S H d wd c df (n + 1) chainK (i + 1) [some (.ref d), some (.ref df), some (.int (1 + (T : Int))), some (.int (i : Nat)), none] (some (.int (1 + (T : Int)))) none H4 := fun b H' e hb => by
      have e9 := e10.trans e
      obtain ⟨H4, p1, p2, p3, p4, p5⟩ := put ((u7.trans u79).trans (.ext e9)) (da9.ext e9) (e9 _ _ (u79.keep _ _ hf7 dfS)) ((hc7.kp u79).ext e9) (by rw [k7]; exact chain_not i) hb ⟨e _ _ hrn.1, hrn.2⟩ (by omega)
      refine ⟨df, H4, rfl, p1, p2, p3.more (by omega), _, _, _, p4, p5, fun e he => ?_, ?_, rfl⟩
      · rcases List.mem_append.mp he with he | he
        · exact r7 e he
        · rw [List.mem_singleton.mp he]
          exact ⟨rfl, by show j < 2; omega⟩
      · rw [List.map_append, k7]
        unfold chainK
        rw [List.range_succ, List.map_append]
        rfl
    refine ⟨_, rfl, by simp [sizeLine_eq], fun z0 nz0 => ⟨_, rfl, z0, i, .int 0, rfl, rfl, .of upd_same, by omega, fun q => ?_, fun q z1 nz1 => ?_⟩⟩
    · exact fin z0 _ (ext_new nz0) (by show upd H10 z0 _ z0 = _; rw [upd_same, q]; rfl)
    · exact fin z1 _ ((ext_new nz0).trans (ext_new nz1)) (by show upd _ z1 _ z1 = _; rw [upd_same, pathV_zeros])
  · obtain ⟨u7, da7, cs, kvs, v3, hf7, hc7, r7, k7, rfl⟩ := h7
    rw [List.length_map, List.length_range] at da7 k7
    have dm7 := dm.kp u7
    dsimp only
    refine seq_cut (fun σ' H' => ∃ (w : Nat) (b : Addr), (T = 0 ∧ w = 0 ∨ w + 2 ≤ T + 1) ∧ Kp S H7 H' ∧ DrawAt S H' d wd c (n + 1 + 2 * (T + 1) + 1) ∧ PathAt H' b (zeros w) ∧ ¬ S b ∧ σ' = [some (.ref d), some (.ref df), some (.int (1 + (T : Int))), v3, some (.ref b)]) ?_ fun tail => ?_
    · rintro σ' H8 ⟨wn, b, hw, u8, da8, hb8, bS, rfl⟩
      have dm8 := dm7.kp u8
      have hf8 := u8.keep _ _ hf7 dfS
      have u08 := u7.trans u8
      refine ⟨_, rfl, _, rfl, _, _, rfl, rfl, S, d, wd, c, _, 61 - (1 + (T : Int)), rfl, dm8, da8, by show n + 1 + 2 * (T + 1) + 1 ≤ 1099511627776; omega, by omega, by omega, fun t H9 t0 t1 u9 da9 => ⟨t, rfl, by omega, by omega, ?_⟩⟩
      obtain ⟨J, rfl⟩ := Int.eq_ofNat_of_zero_le t0
      have J1 : J + T < 60 := by omega
      refine for_std (S := S) (H0 := H) std_range (fun i σ H' => SeI S H d wd c df (n + 1 + 2 * (T + 1) + 2) (fun j => chainK (T + 1) ++ rowK wn j) i σ (some (.int (1 + (T : Int)))) (some (.ref b)) H' ∧ PathAt H' b (zeros wn)) ⟨⟨u08.trans u9, da9, cs, kvs, v3, u9.keep _ _ hf8 dfS, (hc7.kp u8).kp u9, r7, by rw [k7]; simp [rowK], rfl⟩, u9.keep _ _ hb8 bS⟩ (fun i σ H' h => h.1.1) (fun i y σ H7 hy h7 => ?_) (fun σ H7 h7 => ?_)
      · obtain ⟨⟨u7, da7, cs, kvs, v3, hf7, hc7, r7, k7, rfl⟩, hb7⟩ := h7
        obtain ⟨hi, hy⟩ := List.getElem?_eq_some_iff.mp hy
        have hi : i < J := by simpa using hi
        obtain rfl : V.int (i : Nat) = y := by rw [← hy]; simp
        have dm7 := dm.kp u7
        have l7 : cs.length = T + 1 + i := by
          have := congrArg List.length k7
          simpa [chainK, rowK] using this
        dsimp only [gName]
        refine ⟨_, rfl, S, d, wd, c, _, 2, rfl, dm7, da7, by show n + 1 + 2 * (T + 1) + 2 + 2 * i ≤ 1099511627776; omega, by decide, by decide, fun k H8 k0 k1 u8 da8 => ?_⟩
        obtain ⟨j, rfl⟩ := Int.eq_ofNat_of_zero_le k0
        have dm8 := dm7.kp u8
        refine ⟨_, rfl, S, d, wd, c, _, 4, rfl, dm8, da8, by show n + 1 + 2 * (T + 1) + 2 + 2 * i + 1 ≤ 1099511627776; omega, by decide, by decide, fun t H9 t0 t1 u9 da9 => ⟨rfl, sz (m := 10) (by simp), fun rn nrn => ?_⟩⟩
        have dm9 := dm8.kp u9
        have u79 := u8.trans u9
        have hb9 := u79.keep _ _ hb7 bS
        have e10 : Ext H9 (upd H9 rn (.tup [.str "ring", .int (j : Nat), .bl (decide (V.int t = V.int 0))])) := ext_new nrn
        have hrn : At S (upd H9 rn (.tup [.str "ring", .int (j : Nat), .bl (decide (V.int t = V.int 0))])) rn (.tup (CallD.mk "ring" j (decide (V.int t = V.int 0))).vs) := ⟨upd_same, fun z => dm9 rn z nrn⟩
        generalize upd H9 rn (.tup [.str "ring", .int (j : Nat), .bl (decide (V.int t = V.int 0))]) = H10 at e10 hrn ⊢
        have fin : ∀ (b' : Addr) (H' : Hp), Ext H10 H' → PathAt H' b' (zeros wn ++ [1 + i]) → ∃ a H4, V.ref df = .ref a ∧ DPut H' a (.ref b') (.ref rn) H4 ∧ SeI S H d wd c df (n + 1 + 2 * (T + 1) + 2) (fun j => chainK (T + 1) ++ rowK wn j) (i + 1) [some (.ref d), some (.ref df), some (.int (1 + (T : Int))), some (.int (i : Nat)), some (.ref b)] (some (.int (1 + (T : Int)))) (some (.ref b)) H4 ∧ PathAt H4 b (zeros wn) := fun b' H' e hb => by
          have e9 := e10.trans e
          have hf' := e9 _ _ (u79.keep _ _ hf7 dfS)
          obtain ⟨H4, p1, p2, p3, p4, p5⟩ := put ((u7.trans u79).trans (.ext e9)) (da9.ext e9) hf' ((hc7.kp u79).ext e9) (by rw [k7]; exact row_not _ _ _) hb ⟨e _ _ hrn.1, hrn.2⟩ (by omega)
          have hb4 : PathAt H4 b (zeros wn) := dput_tk hf' p1 _ _ (e9 _ _ hb9)
          refine ⟨df, H4, rfl, p1, ⟨p2, p3.more (by omega), _, _, _, p4, p5, fun e he => ?_, ?_, rfl⟩, hb4⟩
          · rcases List.mem_append.mp he with he | he
            · exact r7 e he
            · rw [List.mem_singleton.mp he]
              exact ⟨rfl, by show j < 2; omega⟩
          · rw [List.map_append, k7]
            have : rowK wn (i + 1) = rowK wn i ++ [zeros wn ++ [1 + i]] := by unfold rowK; rw [List.range_succ, List.map_append]; rfl
            show (chainK (T + 1) ++ rowK wn i) ++ [zeros wn ++ [1 + i]] = chainK (T + 1) ++ rowK wn (i + 1)
            rw [this, List.append_assoc]
        refine ⟨_, rfl, _, rfl, _, rfl, _, _, rfl, rfl, by simp [sizeLine_eq], fun tq ntq => ?_⟩
        have e11 : Ext H10 (upd H10 tq (.tup [.int (1 + (i : Int))])) := ext_new ntq
        have htq : PathAt (upd H10 tq (.tup [.int (1 + (i : Int))])) tq [1 + i] := upd_same
        generalize upd H10 tq (.tup [.int (1 + (i : Int))]) = H11 at e11 htq
        have w30 : wn ≤ 30 := by omega
        refine ⟨b, tq, _, _, rfl, rfl, .of (e11 _ _ (e10 _ _ hb9)), .of htq, sz (m := 100) (by simp [pathV, zeros]; omega), fun z => ?_, fun _ z => by simp [pathV] at z, fun _ _ t3 nt3 => ?_⟩
        · have hp0 : zeros wn = [] := List.map_eq_nil_iff.mp z
          exact fin tq H11 e11 (by rw [hp0]; exact htq)
        · exact fin t3 _ (e11.trans (ext_new nt3)) (by show upd H11 t3 _ t3 = _; rw [upd_same]; simp [pathV])
      · obtain ⟨⟨u7, da7, cs, kvs, v3, hf7, hc7, r7, k7, rfl⟩, hb7⟩ := h7
        rw [List.length_map, List.length_range] at da7
        have k7 : cs.map (·.1) = chainK (T + 1) ++ rowK wn J := by
          rw [k7]
          show chainK (T + 1) ++ rowK wn (((List.range (Int.toNat (J : Int))).map fun i => V.int (0 + (i : Nat))).length) = _
          rw [List.length_map, List.length_range, Int.toNat_natCast]
        have daz := da7.more (show n + 1 + 2 * (T + 1) + 2 + 2 * Int.toNat (J : Int) ≤ n + 300 by rw [Int.toNat_natCast]; omega)
        have dm7 := dm.kp u7
        have w30 : wn ≤ 30 := by omega
        -- where + (0,)
        refine ⟨_, rfl, by simp [sizeLine_eq], fun tq ntq => ?_⟩
        have e8 : Ext H7 (upd H7 tq (.tup [.int 0])) := ext_new ntq
        have htq : PathAt (upd H7 tq (.tup [.int 0])) tq [0] := upd_same
        generalize upd H7 tq (.tup [.int 0]) = H8 at e8 htq
        have fin : ∀ (b' : Addr) (H' : Hp), Ext H7 H' → PathAt H' b' (zeros (wn + 1)) → ∃ a o, V.ref df = .ref a ∧ DGet H' a (.ref b') o ∧ (o.isSome = true ↔ zeros (wn + 1) ∈ cs.map (·.1)) := fun b' H' e hb' => by
          have dg := DGet.t (k := pathK (zeros (wn + 1))) (e _ _ hf7) (by rw [pathK_V]; exact hb')
          refine ⟨df, _, rfl, dg, ?_, fun z => ?_⟩
          · intro z
            cases q : valV kvs (pathK (zeros (wn + 1))) with
            | none => rw [q] at z; cases z
            | some v =>
              refine Classical.byContradiction fun no => ?_
              rw [valV_noneT (by
                rw [hc7.keys]
                intro z
                obtain ⟨e, he, z⟩ := List.mem_map.mp z
                exact no (pathK_inj z ▸ List.mem_map_of_mem he))] at q
              cases q
          · obtain ⟨a, h1, _⟩ := hc7.get z
            rw [h1]
            rfl
        refine ⟨b, tq, _, _, rfl, rfl, .of (e8 _ _ hb7), .of htq, sz (m := 100) (by simp [pathV, zeros]; omega), fun z => ?_, fun _ z => by simp [pathV] at z, fun _ _ t3 nt3 => ?_⟩
        · have hp0 : zeros wn = [] := List.map_eq_nil_iff.mp z
          have hb' : PathAt H8 tq (zeros (wn + 1)) := by rw [zeros_snoc, hp0]; exact htq
          obtain ⟨a, o, ea, dg, iff⟩ := fin tq H8 e8 hb'
          injection ea with ea
          subst ea
          refine ⟨_, rfl, df, o, rfl, dg, _, rfl, ifb (fun q => ?_) fun q => ?_⟩
          · have no : ¬ zeros (wn + 1) ∈ cs.map (·.1) := fun z => by rw [iff.mpr z] at q; cases q
            have T0 : T = 0 ∧ wn = 0 := hw.resolve_right fun h => no (by rw [k7]; exact List.mem_append_left _ (List.mem_map_of_mem (List.mem_range.mpr (by omega))))
            obtain ⟨rfl, rfl⟩ := T0
            have hroot : ([] : List Nat) ∈ cs.map (·.1) := by rw [k7]; exact List.mem_append_left _ (List.mem_map.mpr ⟨0, by simp, rfl⟩)
            have hc' := hc7.ext e8
            obtain ⟨ca, hv, hca⟩ := hc'.get hroot
            have rc := r7 _ (getC_mem hroot)
            intro r nr
            have x1 : Ext H8 (upd H8 r (.dT [])) := ext_new nr
            have hr1 : (upd H8 r (.dT [])) r = some (.dT []) := upd_same
            generalize upd H8 r (.dT []) = G1 at x1 hr1
            refine ⟨by simp, fun r0 nr0 => ?_⟩
            have x2 : Ext G1 (upd G1 r0 (.tup [])) := ext_new nr0
            have hr0 : PathAt (upd G1 r0 (.tup [])) r0 [] := upd_same
            generalize upd G1 r0 (.tup []) = G2 at x2 hr0
            refine ⟨_, rfl, by simp, fun r2 nr2 => ?_⟩
            have x3 : Ext G2 (upd G2 r2 (.tup [])) := ext_new nr2
            have hr2 : PathAt (upd G2 r2 (.tup [])) r2 [] := upd_same
            generalize upd G2 r2 (.tup []) = G3 at x3 hr2
            have x13 := x1.trans (x2.trans x3)
            have dg := DGet.t (k := pathK []) (x13 _ _ (e8 _ _ hf7)) (by rw [pathK_V]; exact hr2)
            rw [hv] at dg
            have hrG := (x2.trans x3) _ _ hr1
            refine ⟨df, _, rfl, dg, hrG, [([], .ref ca)], .cons ⟨r0, rfl, x3 _ _ hr0, rfl⟩ .nil, by simp, ?_⟩
            rw [show putT [] [(([] : List L2.Key), V.ref ca)] = [(pathK [], .ref ca)] from rfl]
            have nrH : H r = none := by
              cases q : H r with
              | none => rfl
              | some o => exact absurd (ext_none e8 nr) (u7.dom r (by rw [q]; exact fun z => nomatch z))
            have tk : Tk G3 (upd G3 r (.dT [(pathK [], .ref ca)])) := Tk.put hrG fun _ z => nomatch z
            have u3' : Kp S H G3 := u7.trans (.ext (e8.trans x13))
            refine hQ r _ [([], getC cs [])] _ (kp_put_new u3' nrH) ((daz.ext (e8.trans x13)).putn (da.ne nrH)) ⟨upd_same, fun z => dm r z nrH⟩ (.cons ⟨rfl, ca, rfl, tk _ _ (x13 _ _ hca.1), hca.2⟩ .nil) (one_told rc)
          · have yes : zeros (wn + 1) ∈ cs.map (·.1) := iff.mp (by cases h : o.isSome with | true => rfl | false => rw [h] at q; cases q)
            have w2 : wn + 2 ≤ T + 1 := by
              rcases hw with ⟨rfl, rfl⟩ | h
              · exfalso
                rw [k7] at yes
                rcases List.mem_append.mp yes with h | h
                · obtain ⟨k, hk, z⟩ := List.mem_map.mp h
                  have hk := List.mem_range.mp hk
                  have := zeros_inj z
                  omega
                · obtain ⟨k, hk, z⟩ := List.mem_map.mp h
                  have := congrArg List.getLast? z
                  simp [zeros] at this
              · exact h
            exact ⟨_, rfl, hQ df H8 cs kvs (u7.trans (.ext e8)) (daz.ext e8) ⟨e8 _ _ hf7, dfS⟩ (hc7.ext e8) (steep_told r7 k7 w2 (by omega) (by omega))⟩
        · have e9 : Ext H7 (upd H8 t3 (.tup (pathV (zeros wn) ++ pathV [0]))) := e8.trans (ext_new nt3)
          have hb' : PathAt (upd H8 t3 (.tup (pathV (zeros wn) ++ pathV [0]))) t3 (zeros (wn + 1)) := by
            show upd H8 t3 _ t3 = _
            rw [upd_same, zeros_snoc]
            simp [pathV]
          generalize upd H8 t3 (.tup (pathV (zeros wn) ++ pathV [0])) = H9 at e9 hb'
          obtain ⟨a, o, ea, dg, iff⟩ := fin t3 H9 e9 hb'
          injection ea with ea
          subst ea
          refine ⟨_, rfl, df, o, rfl, dg, _, rfl, ifb (fun q => ?_) fun q => ?_⟩
          · have no : ¬ zeros (wn + 1) ∈ cs.map (·.1) := fun z => by rw [iff.mpr z] at q; cases q
            have T0 : T = 0 ∧ wn = 0 := hw.resolve_right fun h => no (by rw [k7]; exact List.mem_append_left _ (List.mem_map_of_mem (List.mem_range.mpr (by omega))))
            obtain ⟨rfl, rfl⟩ := T0
            have hroot : ([] : List Nat) ∈ cs.map (·.1) := by rw [k7]; exact List.mem_append_left _ (List.mem_map.mpr ⟨0, by simp, rfl⟩)
            have hc' := hc7.ext e9
            obtain ⟨ca, hv, hca⟩ := hc'.get hroot
            have rc := r7 _ (getC_mem hroot)
            intro r nr
            have x1 : Ext H9 (upd H9 r (.dT [])) := ext_new nr
            have hr1 : (upd H9 r (.dT [])) r = some (.dT []) := upd_same
            generalize upd H9 r (.dT []) = G1 at x1 hr1
            refine ⟨by simp, fun r0 nr0 => ?_⟩
            have x2 : Ext G1 (upd G1 r0 (.tup [])) := ext_new nr0
            have hr0 : PathAt (upd G1 r0 (.tup [])) r0 [] := upd_same
            generalize upd G1 r0 (.tup []) = G2 at x2 hr0
            refine ⟨_, rfl, by simp, fun r2 nr2 => ?_⟩
            have x3 : Ext G2 (upd G2 r2 (.tup [])) := ext_new nr2
            have hr2 : PathAt (upd G2 r2 (.tup [])) r2 [] := upd_same
            generalize upd G2 r2 (.tup []) = G3 at x3 hr2
            have x13 := x1.trans (x2.trans x3)
            have dg := DGet.t (k := pathK []) (x13 _ _ (e9 _ _ hf7)) (by rw [pathK_V]; exact hr2)
            rw [hv] at dg
            have hrG := (x2.trans x3) _ _ hr1
            refine ⟨df, _, rfl, dg, hrG, [([], .ref ca)], .cons ⟨r0, rfl, x3 _ _ hr0, rfl⟩ .nil, by simp, ?_⟩
            rw [show putT [] [(([] : List L2.Key), V.ref ca)] = [(pathK [], .ref ca)] from rfl]
            have nrH : H r = none := by
              cases q : H r with
              | none => rfl
              | some o => exact absurd (ext_none e9 nr) (u7.dom r (by rw [q]; exact fun z => nomatch z))
            have tk : Tk G3 (upd G3 r (.dT [(pathK [], .ref ca)])) := Tk.put hrG fun _ z => nomatch z
            have u3' : Kp S H G3 := u7.trans (.ext (e9.trans x13))
            refine hQ r _ [([], getC cs [])] _ (kp_put_new u3' nrH) ((daz.ext (e9.trans x13)).putn (da.ne nrH)) ⟨upd_same, fun z => dm r z nrH⟩ (.cons ⟨rfl, ca, rfl, tk _ _ (x13 _ _ hca.1), hca.2⟩ .nil) (one_told rc)
          · have yes : zeros (wn + 1) ∈ cs.map (·.1) := iff.mp (by cases h : o.isSome with | true => rfl | false => rw [h] at q; cases q)
            have w2 : wn + 2 ≤ T + 1 := by
              rcases hw with ⟨rfl, rfl⟩ | h
              · exfalso
                rw [k7] at yes
                rcases List.mem_append.mp yes with h | h
                · obtain ⟨k, hk, z⟩ := List.mem_map.mp h
                  have hk := List.mem_range.mp hk
                  have := zeros_inj z
                  omega
                · obtain ⟨k, hk, z⟩ := List.mem_map.mp h
                  have := congrArg List.getLast? z
                  simp [zeros] at this
              · exact h
            exact ⟨_, rfl, hQ df H9 cs kvs (u7.trans (.ext e9)) (daz.ext e9) ⟨e9 _ _ hf7, dfS⟩ (hc7.ext e9) (steep_told r7 k7 w2 (by omega) (by omega))⟩
    · refine ⟨_, rfl, _, _, rfl, rfl, _, rfl, ifb (fun q => ?_) fun q => ?_⟩
      · have q := of_decide_eq_true q
        refine ⟨by simp [sizeLine_eq], fun z0 nz0 => ?_⟩
        have e8 : Ext H7 (upd H7 z0 (.tup [.int 0])) := ext_new nz0
        have hz0 : (upd H7 z0 (.tup [.int 0])) z0 = some (.tup [.int 0]) := upd_same
        generalize upd H7 z0 (.tup [.int 0]) = H8 at e8 hz0
        have dm8 := dm7.ext e8
        refine ⟨_, rfl, _, rfl, _, _, rfl, rfl, S, d, wd, c, _, (1 + (T : Int)) - 1, rfl, dm8, da7.ext e8, by show n + 1 + 2 * (T + 1) ≤ 1099511627776; omega, by omega, by omega, fun t H9 t0 t1 u9 da9 => ?_⟩
        obtain ⟨wn, rfl⟩ := Int.eq_ofNat_of_zero_le t0
        have nzS : ¬ S z0 := fun z => dm7 z0 z nz0
        have hz9 := u9.keep _ _ hz0 nzS
        have dm9 := dm8.kp u9
        refine ⟨z0, wn, .int 0, rfl, rfl, .of hz9, by omega, fun q => ?_, fun q z1 nz1 => ?_⟩
        · exact tail _ _ ⟨wn, z0, .inr (by omega), (Kp.ext e8).trans u9, da9, by rw [q]; exact hz9, nzS, rfl⟩
        · exact tail _ _ ⟨wn, z1, .inr (by omega), ((Kp.ext e8).trans u9).add nz1, da9.ext (ext_new nz1), by show upd H9 z1 _ z1 = _; rw [upd_same, pathV_zeros], fun z => dm9 z1 z nz1, rfl⟩
      · have q := of_decide_eq_false q
        refine ⟨by simp, fun b nb => tail _ _ ⟨0, b, .inl ⟨by omega, rfl⟩, .new nb, (da7.ext (ext_new nb)).more (by omega), upd_same, fun z => dm7 b z nb, rfl⟩⟩
end
end Ws

set_option Elab.async false
set_option linter.all false
set_option maxRecDepth 100000
set_option maxHeartbeats 4000000
namespace Ws
open PySem PySem.Spec PyProof.Rows L2
def headC (h : Str) (k : Nat) (f : Bool) : List Nat := TL.tl h ++ 46 :: (48 + k) :: (if f = true then [33] else [])
theorem tl_headS {h : Str} {k : Nat} {f : Bool} (k1 : k ≤ 1) : TL.tl (headS h k f) = headC h k f := by
  have e : TL.tl (toString ((k : Nat) : Int) : Str) = [48 + k] := by
    obtain rfl | rfl : k = 0 ∨ k = 1 := by omega
    · decide +kernel
    · decide +kernel
  have d : TL.tl ("." : Str) = [46] := by decide +kernel
  have b : TL.tl ("!" : Str) = [33] := by decide +kernel
  unfold headS headC
  cases f with
  | true => rw [if_pos rfl, if_pos rfl, TL.tl_append, TL.tl_append, TL.tl_append, e, d, b]; simp
  | false => rw [if_neg (by simp), if_neg (by simp), TL.tl_append, TL.tl_append, e, d]; simp
theorem tl_text {h : Str} {k : Nat} {f : Bool} {cs : List TaleD} (k1 : k ≤ 1) : TL.tl (TaleD.mk h k f cs).text = if cs = [] then headC h k f else headC h k f ++ (40 :: (TL.joinL [32] (cs.map fun c => TL.tl c.text) ++ [41])) := by
  have o : TL.tl ("(" : Str) = [40] := by decide +kernel
  have c : TL.tl (")" : Str) = [41] := by decide +kernel
  have b : TL.tl (" " : Str) = [32] := by decide +kernel
  rw [TaleD.text]
  cases cs with
  | nil => rw [if_pos (show ([] : List TaleD).isEmpty = true from rfl), if_pos rfl, tl_headS k1]
  | cons x xs => rw [if_neg (by simp), if_neg (by simp), TL.tl_append, TL.tl_append, TL.tl_append, tl_headS k1, o, c, TL.join_eq, TL.tl_join, b, texts_map, List.map_map]; simp [Function.comp_def]
theorem at_pre {pre x : List Nat} {j : Nat} : (pre ++ x)[pre.length + j]? = x[j]? := by
  rw [List.getElem?_append_right (by omega)]
  congr 1
  omega
theorem takeWhile_pre : ∀ {x y : List Nat}, (∀ c ∈ x, isLet c = true) → (∀ c ∈ y.head?, isLet c = false) → (x ++ y).takeWhile isLet = x
  | [], [], _, _ => rfl
  | [], c :: y, _, h => by
    have : isLet c = false := h c rfl
    show (c :: y).takeWhile isLet = []
    rw [List.takeWhile_cons, if_neg (by rw [this]; simp)]
  | c :: x, y, h, g => by
    show (c :: (x ++ y)).takeWhile isLet = c :: x
    rw [List.takeWhile_cons, if_pos (h c List.mem_cons_self), takeWhile_pre (fun d hd => h d (List.mem_cons_of_mem _ hd)) g]
theorem name_let {z : Str} (h : isName z = true) : ∀ c ∈ TL.tl z, isLet c = true := by
  unfold isName at h
  rw [Bool.and_eq_true, Bool.and_eq_true] at h
  intro c hc
  exact List.all_eq_true.mp h.2.2 c hc
theorem head_parse {n : NetD} {h : Str} {k : Nat} {f : Bool} {pre rest : List Nat} (nh : isName h = true) (hn : h ∈ n.names) (hk : k < (getH n.houses h).rules.length) (k1 : k ≤ 1) (hf : f = true → (getH n.houses h).fails = true) (hr : f = false → rest.head? ≠ some 33) :
    headOf n (pre ++ (headC h k f ++ rest)) pre.length = some (h, k, f, pre.length + (headC h k f).length) := by
  have e46 : isLet 46 = false := by decide +kernel
  have hs : headC h k f ++ rest = TL.tl h ++ (46 :: (48 + k) :: ((if f = true then [33] else []) ++ rest)) := by unfold headC; simp
  have spot : spotOf (pre ++ (headC h k f ++ rest)) pre.length = pre.length + (TL.tl h).length := by
    unfold spotOf
    rw [List.drop_left, hs, takeWhile_pre (name_let nh) (fun c hc => by cases hc; exact e46)]
  have piece : pieceOf (pre ++ (headC h k f ++ rest)) pre.length (pre.length + (TL.tl h).length) = h := by
    unfold pieceOf
    rw [List.drop_left, Nat.add_sub_cancel_left, hs, List.take_left]
  have g0 : (pre ++ (headC h k f ++ rest))[pre.length + (TL.tl h).length]? = some 46 := by rw [at_pre, hs, show (TL.tl h).length = (TL.tl h).length + 0 from rfl, at_pre]; rfl
  have g1 : (pre ++ (headC h k f ++ rest))[pre.length + (TL.tl h).length + 1]? = some (48 + k) := by rw [Nat.add_assoc, at_pre, hs, at_pre]; rfl
  have g2 : (pre ++ (headC h k f ++ rest))[pre.length + (TL.tl h).length + 2]? = ((if f = true then [33] else []) ++ rest)[0]? := by rw [Nat.add_assoc, at_pre, hs, at_pre]; rfl
  have dg : digitOf (some (48 + k)) = some k := by
    obtain rfl | rfl : k = 0 ∨ k = 1 := by omega
    · rfl
    · rfl
  have len : (headC h k f).length = (TL.tl h).length + 2 + (if f = true then 1 else 0) := by
    unfold headC
    cases f with
    | true => simp
    | false => simp
  unfold headOf
  rw [spot, piece, if_pos ⟨hn, g0⟩, g1, dg, g2]
  cases f with
  | true =>
    dsimp only
    rw [if_pos ⟨hk, fun _ => hf rfl⟩, len]
    simp
    omega
  | false =>
    have nb : ¬ (((if false = true then [33] else []) ++ rest : List Nat)[0]? = some 33) := by
      have := hr rfl
      rw [if_neg (by simp), List.nil_append]
      rwa [← List.head?_eq_getElem?]
    dsimp only
    rw [if_pos ⟨hk, fun z => absurd z nb⟩, len, if_neg nb, decide_eq_false nb]
    simp
    omega
theorem tail_parse {n : NetD} {D : Nat} {hs : List Str} : ∀ (cs : List TaleD) (c : TaleD) (acc : List TaleD) (pre post : List Nat) (sep m : Nat),
    (∀ x ∈ c :: cs, x.house ∈ hs) → (∀ x ∈ c :: cs, ∀ pre post, post.head? ≠ some 33 → post.head? ≠ some 40 → callOf n (pre ++ (TL.tl x.text ++ post)) D pre.length = some (x, pre.length + (TL.tl x.text).length)) → (c :: cs).length ≤ m →
    tailOf (callOf n (pre ++ (sep :: (TL.joinL [32] ((c :: cs).map fun x => TL.tl x.text) ++ 41 :: post))) D) hs (pre ++ (sep :: (TL.joinL [32] ((c :: cs).map fun x => TL.tl x.text) ++ 41 :: post))) m pre.length acc true =
      some (acc ++ c :: cs, pre.length + 1 + (TL.joinL [32] ((c :: cs).map fun x => TL.tl x.text)).length)
  | [], c, acc, pre, post, sep, 0, _, _, hm => by simp at hm
  | [], c, acc, pre, post, sep, m + 1, hh, hp, hm => by
    have e : pre ++ (sep :: (TL.tl c.text ++ 41 :: post)) = (pre ++ [sep]) ++ (TL.tl c.text ++ 41 :: post) := by simp
    have l : (pre ++ [sep]).length = pre.length + 1 := by simp
    have st := hp c List.mem_cons_self (pre ++ [sep]) (41 :: post) (by simp) (by simp)
    have nx : ((pre ++ [sep]) ++ (TL.tl c.text ++ 41 :: post))[(pre ++ [sep]).length + (TL.tl c.text).length]? = some 41 := by
      rw [at_pre, show (TL.tl c.text).length = (TL.tl c.text).length + 0 from rfl, at_pre]
      rfl
    show tailOf (callOf n (pre ++ (sep :: (TL.tl c.text ++ 41 :: post))) D) hs (pre ++ (sep :: (TL.tl c.text ++ 41 :: post))) (m + 1) pre.length acc true = some (acc ++ [c], pre.length + 1 + (TL.tl c.text).length)
    rw [e, tailOf, ← l, st]
    dsimp only
    rw [if_pos (hh c List.mem_cons_self), nx, decide_eq_false (by simp), tailOf]
  | c' :: cs, c, acc, pre, post, sep, 0, _, _, hm => by simp at hm
  | c' :: cs, c, acc, pre, post, sep, m + 1, hh, hp, hm => by
    generalize hJ : TL.joinL [32] ((c' :: cs).map fun x => TL.tl x.text) = J
    have ej : TL.joinL [32] ((c :: c' :: cs).map fun x => TL.tl x.text) = TL.tl c.text ++ (32 :: J) := by rw [← hJ]; rfl
    have e : pre ++ (sep :: ((TL.tl c.text ++ (32 :: J)) ++ 41 :: post)) = (pre ++ [sep]) ++ (TL.tl c.text ++ (32 :: (J ++ 41 :: post))) := by simp
    have l : (pre ++ [sep]).length = pre.length + 1 := by simp
    have st := hp c List.mem_cons_self (pre ++ [sep]) (32 :: (J ++ 41 :: post)) (by simp) (by simp)
    have nx : ((pre ++ [sep]) ++ (TL.tl c.text ++ (32 :: (J ++ 41 :: post))))[(pre ++ [sep]).length + (TL.tl c.text).length]? = some 32 := by
      rw [at_pre, show (TL.tl c.text).length = (TL.tl c.text).length + 0 from rfl, at_pre]
      rfl
    have ih := tail_parse cs c' (acc ++ [c]) ((pre ++ [sep]) ++ TL.tl c.text) post 32 m (fun x hx => hh x (List.mem_cons_of_mem _ hx)) (fun x hx => hp x (List.mem_cons_of_mem _ hx)) (by simp at hm ⊢; omega)
    rw [hJ] at ih
    have e2 : ((pre ++ [sep]) ++ TL.tl c.text) ++ (32 :: (J ++ 41 :: post)) = (pre ++ [sep]) ++ (TL.tl c.text ++ (32 :: (J ++ 41 :: post))) := by simp
    rw [e2] at ih
    rw [ej, e, tailOf, ← l, st]
    dsimp only
    rw [if_pos (hh c List.mem_cons_self), nx, decide_eq_true rfl]
    have l2 : ((pre ++ [sep]) ++ TL.tl c.text).length = (pre ++ [sep]).length + (TL.tl c.text).length := List.length_append
    rw [← l2, ih, l2]
    simp
    omega
theorem call_parse {n : NetD} : ∀ (D : Nat) (t : TaleD) (hs : List Str) (pre post : List Nat), t.depth ≤ D → t.Of n hs → t.Ok → post.head? ≠ some 33 → post.head? ≠ some 40 → callOf n (pre ++ (TL.tl t.text ++ post)) D pre.length = some (t, pre.length + (TL.tl t.text).length)
  | 0, t, hs, pre, post, hd, _, _, _, _ => by
    have := depth_pos t
    omega
  | D + 1, .mk h k f cs, hs, pre, post, hd, tof, ok, p1, p2 => by
    rw [TaleD.Of] at tof
    rw [TaleD.Ok] at ok
    rw [TaleD.depth] at hd
    obtain ⟨o1, o2, o3, o4, o5⟩ := tof
    obtain ⟨k1, k2, k3⟩ := ok
    have tt := tl_text (f := f) (cs := cs) (h := h) k2
    cases cs with
    | nil =>
      rw [if_pos rfl] at tt
      rw [tt, callOf, head_parse k1 o2 o3 k2 o4 (fun _ => p1)]
      dsimp only
      have nx : (pre ++ (headC h k f ++ post))[pre.length + (headC h k f).length]? = post.head? := by
        rw [at_pre, show (headC h k f).length = (headC h k f).length + 0 from rfl, at_pre, List.head?_eq_getElem?]
      rw [nx, decide_eq_false p2, tailOf]
    | cons c cs =>
      rw [if_neg (by simp)] at tt
      generalize hJ : TL.joinL [32] ((c :: cs).map fun x => TL.tl x.text) = J at tt
      have e : headC h k f ++ (40 :: (J ++ [41])) ++ post = headC h k f ++ (40 :: (J ++ 41 :: post)) := by simp
      rw [tt, e, callOf, head_parse k1 o2 o3 k2 o4 (fun _ => by simp)]
      dsimp only
      have nx : (pre ++ (headC h k f ++ (40 :: (J ++ 41 :: post))))[pre.length + (headC h k f).length]? = some 40 := by
        rw [at_pre, show (headC h k f).length = (headC h k f).length + 0 from rfl, at_pre]
        rfl
      have len : (c :: cs).length ≤ (pre ++ (headC h k f ++ (40 :: (J ++ 41 :: post)))).length + 1 := by
        have h1 : ∀ ys : List TaleD, ys.length ≤ (TL.joinL [32] (ys.map fun x => TL.tl x.text)).length + 1 := by
          intro ys
          induction ys with
          | nil => simp
          | cons y ys ih =>
            cases ys with
            | nil => simp
            | cons z zs =>
              have : TL.joinL [32] ((y :: z :: zs).map fun x => TL.tl x.text) = TL.tl y.text ++ (32 :: TL.joinL [32] ((z :: zs).map fun x => TL.tl x.text)) := rfl
              rw [this]
              simp only [List.length_append, List.length_cons] at ih ⊢
              omega
        have := h1 (c :: cs)
        rw [hJ] at this
        simp only [List.length_append, List.length_cons] at this ⊢
        omega
      have tp := tail_parse (n := n) (D := D) (hs := (getH n.houses h).calls) cs c [] (pre ++ headC h k f) post 40 ((pre ++ (headC h k f ++ (40 :: (J ++ 41 :: post)))).length + 1)
        (fun x hx => by
          have := ofAll_iff.mp o5 x hx
          cases x
          rw [TaleD.Of] at this
          exact this.1)
        (fun x hx pre' post' q1 q2 => call_parse D x _ pre' post' (deeps_le.mp (by omega) x hx) (ofAll_iff.mp o5 x hx) (oks_iff.mp k3 x hx) q1 q2) len
      rw [hJ] at tp
      have e3 : (pre ++ headC h k f) ++ (40 :: (J ++ 41 :: post)) = pre ++ (headC h k f ++ (40 :: (J ++ 41 :: post))) := by simp
      have l3 : (pre ++ headC h k f).length = pre.length + (headC h k f).length := List.length_append
      rw [e3, l3] at tp
      rw [nx, decide_eq_true rfl, tp, List.nil_append]
      dsimp only
      have nx2 : (pre ++ (headC h k f ++ (40 :: (J ++ 41 :: post))))[pre.length + (headC h k f).length + 1 + J.length]? = some 41 := by
        have e4 : pre ++ (headC h k f ++ (40 :: (J ++ 41 :: post))) = (pre ++ headC h k f ++ [40] ++ J) ++ (41 :: post) := by simp
        have l4 : (pre ++ headC h k f ++ [40] ++ J).length = pre.length + (headC h k f).length + 1 + J.length := by simp; omega
        rw [e4, ← l4]
        exact at_pre (pre := pre ++ headC h k f ++ [40] ++ J) (x := 41 :: post) (j := 0)
      rw [if_pos nx2]
      simp
      omega
end Ws

set_option Elab.async false
set_option linter.all false
set_option maxRecDepth 100000
set_option maxHeartbeats 4000000
namespace Ws
open PySem PySem.Spec PyProof.Rows L2
/-- n has all that stories of nt ask for -/
structure Like (nt n : NetD) : Prop where
  nm : ∀ z ∈ nt.names, z ∈ n.names ∧ isName z = true
  rl : ∀ z ∈ nt.names, (getH n.houses z).rules = (getH nt.houses z).rules ∧ (getH nt.houses z).rules.length ≤ 2
  cl : ∀ z ∈ nt.names, ∀ y ∈ (getH nt.houses z).calls, y ∈ (getH n.houses z).calls
  fl : ∀ z ∈ nt.names, (getH n.houses z).fails = (getH nt.houses z).fails
  en : ∀ z ∈ nt.entries, z ∈ n.entries
theorem sum_add {α : Type} (f g : α → Nat) : ∀ xs : List α, (xs.map fun x => f x + g x).sum = (xs.map f).sum + (xs.map g).sum
  | [] => rfl
  | x :: xs => by
    simp only [List.map_cons, List.sum_cons, sum_add f g xs]
    omega
theorem sum_ind {α : Type} (p : α → Bool) : ∀ xs : List α, (xs.map fun x => if p x = true then 1 else 0).sum = (xs.filter p).length
  | [] => rfl
  | x :: xs => by
    rw [List.map_cons, List.sum_cons, sum_ind p xs, List.filter_cons]
    by_cases h : p x = true
    · rw [if_pos h, if_pos h, List.length_cons]
      omega
    · rw [if_neg h, if_neg h]
      omega
theorem alike_one {α : Type} : ∀ {xs : List α} {a : α}, xs.Nodup → (∀ x ∈ xs, x = a) → xs.length ≤ 1
  | [], _, _, _ => Nat.zero_le _
  | [_], _, _, _ => Nat.le_refl _
  | x :: y :: xs, a, nd, h => by
    rw [List.nodup_cons] at nd
    exact absurd (by rw [h x List.mem_cons_self, h y (List.mem_cons_of_mem _ List.mem_cons_self)]; exact List.mem_cons_self) nd.1
def under (X : List (List Nat)) (p : List Nat) : Nat := (X.filter fun x => p.isPrefixOf x).length
theorem pre_iff {p x : List Nat} : p.isPrefixOf x = true ↔ ∃ r, x = p ++ r := by
  rw [List.isPrefixOf_iff_prefix]
  constructor
  · rintro ⟨r, h⟩
    exact ⟨r, h.symm⟩
  · rintro ⟨r, h⟩
    exact ⟨r, h.symm⟩
theorem kids_under {p : List Nat} {ks : List (List Nat)} (nd : ks.Nodup) (hk : ∀ q ∈ ks, ∃ j, q = p ++ [j]) : ∀ X : List (List Nat), (ks.map (under X)).sum + (X.filter fun x => decide (x = p)).length ≤ under X p
  | [] => by
    have : ks.map (under []) = ks.map fun _ => 0 := rfl
    rw [this]
    have z : ∀ l : List (List Nat), (l.map fun _ => 0).sum = 0 := by
      intro l
      induction l with
      | nil => rfl
      | cons a l ih => simp only [List.map_cons, List.sum_cons, ih]
    rw [z]
    exact Nat.le_refl _
  | x :: X => by
    have ih := kids_under nd hk X
    have e : ∀ q, under (x :: X) q = (if q.isPrefixOf x = true then 1 else 0) + under X q := fun q => by
      unfold under
      rw [List.filter_cons]
      by_cases h : q.isPrefixOf x = true
      · rw [if_pos h, if_pos h, List.length_cons]
        omega
      · rw [if_neg h, if_neg h]
        omega
    have e1 : ks.map (under (x :: X)) = ks.map fun q => (if q.isPrefixOf x = true then 1 else 0) + under X q := List.map_congr_left fun q _ => e q
    rw [e1, sum_add, sum_ind, e p, List.filter_cons]
    have one : (ks.filter fun q => q.isPrefixOf x).length ≤ 1 := alike_one (a := x.take (p.length + 1)) (nd.filter _) fun q hq => by
      obtain ⟨h1, h2⟩ := List.mem_filter.mp hq
      obtain ⟨j, rfl⟩ := hk q h1
      obtain ⟨r, rfl⟩ := pre_iff.mp h2
      rw [show p.length + 1 = (p ++ [j]).length by simp, List.take_left]
    have some : (ks.filter fun q => q.isPrefixOf x) ≠ [] → p.isPrefixOf x = true ∧ x ≠ p := fun h => by
      obtain ⟨q, hq⟩ := List.exists_mem_of_ne_nil _ h
      obtain ⟨h1, h2⟩ := List.mem_filter.mp hq
      obtain ⟨j, rfl⟩ := hk q h1
      obtain ⟨r, rfl⟩ := pre_iff.mp h2
      refine ⟨pre_iff.mpr ⟨j :: r, by simp⟩, fun z => ?_⟩
      have := congrArg List.length z
      simp at this
    by_cases hx : x = p
    · have h0 : (ks.filter fun q => q.isPrefixOf x) = [] := Classical.byContradiction fun h => (some h).2 hx
      have hp : p.isPrefixOf x = true := by rw [hx]; exact pre_iff.mpr ⟨[], (List.append_nil _).symm⟩
      rw [h0, if_pos (decide_eq_true hx), if_pos hp, List.length_cons]
      simp only [List.length_nil]
      omega
    · rw [if_neg (by simp [hx])]
      by_cases h0 : (ks.filter fun q => q.isPrefixOf x) = []
      · rw [h0]
        simp only [List.length_nil]
        omega
      · rw [if_pos (some h0).1]
        omega
theorem kidsS_nodup {cs : Cds} (nd : (cs.map (·.1)).Nodup) (p : List Nat) : (kidsS cs p).Nodup := (kidsS_perm cs p).nodup_iff.mpr (nd.filter _)
theorem tree_count {cs : Cds} (nd : (cs.map (·.1)).Nodup) : ∀ (d : Nat) (p : List Nat), p ∈ cs.map (·.1) → (treeOf cs d p).count ≤ under (cs.map (·.1)) p
  | 0, p, hp => by
    rw [treeOf, TaleD.count, counts]
    have : p ∈ (cs.map (·.1)).filter fun x => p.isPrefixOf x := List.mem_filter.mpr ⟨hp, pre_iff.mpr ⟨[], (List.append_nil _).symm⟩⟩
    have := List.length_pos_of_mem this
    unfold under
    omega
  | d + 1, p, hp => by
    rw [treeOf, TaleD.count, counts_sum, List.map_map]
    have ku := kids_under (kidsS_nodup nd p) (fun q hq => (kidsS_mem hq).2) (cs.map (·.1))
    have h1 : 1 ≤ ((cs.map (·.1)).filter fun x => decide (x = p)).length := List.length_pos_of_mem (List.mem_filter.mpr ⟨hp, decide_eq_true rfl⟩)
    have le : ∀ ks : List (List Nat), (∀ q ∈ ks, q ∈ cs.map (·.1)) → (ks.map (TaleD.count ∘ treeOf cs d)).sum ≤ (ks.map (under (cs.map (·.1)))).sum := by
      intro ks
      induction ks with
      | nil => intro _; exact Nat.le_refl _
      | cons q ks ih =>
        intro h
        have a := tree_count nd d q (h q List.mem_cons_self)
        have b := ih fun q hq => h q (List.mem_cons_of_mem _ hq)
        simp only [List.map_cons, List.sum_cons, Function.comp_apply]
        omega
    have := le (kidsS cs p) fun q hq => (kidsS_mem hq).1
    omega
theorem tree_depth {cs : Cds} {M : Nat} (hM : ∀ q ∈ cs.map (·.1), q.length ≤ M) : ∀ (d : Nat) (p : List Nat), p ∈ cs.map (·.1) → p.length + (treeOf cs d p).depth ≤ M + 1
  | 0, p, hp => by
    rw [treeOf, TaleD.depth, deeps]
    have := hM p hp
    omega
  | d + 1, p, hp => by
    rw [treeOf, TaleD.depth]
    have h0 := hM p hp
    have : deeps ((kidsS cs p).map (treeOf cs d)) ≤ M - p.length := deeps_le.mpr fun c hc => by
      obtain ⟨q, hq, rfl⟩ := List.mem_map.mp hc
      obtain ⟨qm, j, rfl⟩ := kidsS_mem hq
      have := tree_depth hM d _ qm
      rw [List.length_append, List.length_singleton] at this
      omega
    omega
theorem tree_house (cs : Cds) (d : Nat) (p : List Nat) : (treeOf cs d p).house = (getC cs p).house := by
  cases d with
  | zero => rw [treeOf]; rfl
  | succ d => rw [treeOf]; rfl
theorem tree_of {nt n : NetD} {cs : Cds} (t : Told nt cs) (l : Like nt n) : ∀ (d : Nat) (p : List Nat) (hs : List Str), p ∈ cs.map (·.1) → (∀ q ∈ cs.map (·.1), q.length < p.length + d) → (getC cs p).house ∈ hs → (treeOf cs d p).Of n hs ∧ (treeOf cs d p).Ok
  | 0, p, hs, hp, hl, _ => by
    have := hl p hp
    omega
  | d + 1, p, hs, hp, hl, hh => by
    have ok := t.ok _ (getC_mem hp)
    have hn : (getC cs p).house ∈ nt.names := ok.1
    have kids : ∀ c ∈ (kidsS cs p).map (treeOf cs d), c.Of n (getH n.houses (getC cs p).house).calls ∧ c.Ok := fun c hc => by
      obtain ⟨q, hq, rfl⟩ := List.mem_map.mp hc
      obtain ⟨qm, j, rfl⟩ := kidsS_mem hq
      refine tree_of t l d _ _ qm (fun q' hq' => ?_) ?_
      · have := hl q' hq'
        rw [List.length_append, List.length_singleton]
        omega
      · rcases t.up _ (getC_mem qm) with h | ⟨p', j', c, h1, h2, h3⟩
        · simp at h
        · have h1 : p ++ [j] = p' ++ [j'] := h1
          have e : p = p' := by
            have := congrArg List.dropLast h1
            rwa [List.dropLast_concat, List.dropLast_concat] at this
          subst e
          have ec := getC_of t.nd h2
          rw [← ec] at h3
          exact l.cl _ hn _ h3
    rw [treeOf, TaleD.Of, TaleD.Ok]
    refine ⟨⟨hh, (l.nm _ hn).1, by rw [(l.rl _ hn).1]; exact ok.2.1, fun z => by rw [l.fl _ hn]; exact ok.2.2 z, ofAll_iff.mpr fun c hc => (kids c hc).1⟩, (l.nm _ hn).2, ?_, oks_iff.mpr fun c hc => (kids c hc).2⟩
    have h1 : (getC cs p).number < (getH nt.houses (getC cs p).house).rules.length := ok.2.1
    have := (l.rl _ hn).2
    omega
/-- the whole story -/
structure Whole (n : NetD) (t : TaleD) : Prop where
  of : t.Of n n.entries
  ok : t.Ok
  dp : t.depth ≤ 30
  ct : t.count ≤ 60
  en : t.house ∈ n.entries
theorem Told.whole {nt n : NetD} {cs : Cds} (t : Told nt cs) (l : Like nt n) : [] ∈ cs.map (·.1) ∧ (∀ q ∈ cs.map (·.1), q.length < 31 ∧ q.length ≤ 29) ∧ Whole n (treeOf cs 31 []) := by
  obtain ⟨c, h1, h2⟩ := t.root
  have hr : ([] : List Nat) ∈ cs.map (·.1) := List.mem_map.mpr ⟨_, h1, rfl⟩
  have sh : ∀ q ∈ cs.map (·.1), q.length ≤ 29 := fun q hq => by
    obtain ⟨e, he, rfl⟩ := List.mem_map.mp hq
    exact t.sh e he
  have en : (getC cs []).house ∈ n.entries := by rw [getC_of t.nd h1]; exact l.en _ h2
  have to := tree_of t l 31 [] n.entries hr (fun q hq => by have := sh q hq; simp; omega) en
  refine ⟨hr, fun q hq => ⟨by have := sh q hq; omega, sh q hq⟩, to.1, to.2, ?_, ?_, by rw [tree_house]; exact en⟩
  · have := tree_depth sh 31 [] hr
    simp at this
    omega
  · have h1 := tree_count t.nd 31 [] hr
    have h2 : under (cs.map (·.1)) [] ≤ (cs.map (·.1)).length := List.length_filter_le _ _
    rw [List.length_map] at h2
    have := t.ln
    omega
theorem like_norm {md n : NetD} (f : md.Fit) (r2 : ∀ p ∈ md.houses, p.2.rules.length ≤ 2) (h : NormN md n) : Like md n := by
  obtain ⟨hs, pr, nm⟩ := h
  have nr := norm_rules pr
  have pn : n.names.Perm md.names := by
    have := nm.houses.map (·.1)
    rw [show (({ md with houses := hs } : NetD).houses.map (·.1)) = md.houses.map (·.1) from nr] at this
    exact this
  have ndh : (hs.map (·.1)).Nodup := by rw [nr]; exact f.hs.nd
  have ndn : (n.houses.map (·.1)).Nodup := ((nm.houses.map (·.1)).nodup_iff).mpr ndh
  have made : ∀ z ∈ md.names, Made (getH md.houses z) (getH n.houses z) := fun z hz => by
    have hz' : z ∈ hs.map (·.1) := by rw [nr]; exact hz
    have m1 := getH_mem hz'
    have m2 : (z, getH hs z) ∈ n.houses := nm.houses.mem_iff.mpr m1
    have e1 : getH n.houses z = getH hs z := getH_of ndn m2
    obtain ⟨p, hp, e, m⟩ := paired_memR pr m1
    have e : z = p.1 := e
    have e2 : getH md.houses z = p.2 := by rw [e]; exact getH_of f.hs.nd hp
    rw [e1, e2]
    exact m
  refine ⟨fun z hz => ⟨pn.mem_iff.mpr hz, ?_⟩, fun z hz => ⟨(made z hz).rules, r2 _ (getH_mem hz)⟩, fun z hz y hy => (made z hz).calls.mem_iff.mpr hy, fun z hz => (made z hz).fails, fun z hz => nm.entries.mem_iff.mpr hz⟩
  exact f.hs.nm _ (getH_mem hz)
theorem lets_small : ∀ c ∈ letters.cps.toList, c < 16 ^ 8 := by decide +kernel
/-- data of a story -/
theorem bDs_sum : ∀ cs : List TaleD, bDs (dats cs) = (cs.map fun c => bD c.dat + 2).sum
  | [] => by rw [dats]; rfl
  | c :: cs => by rw [dats, bDs, bDs_sum cs]; rfl
mutual
theorem tale_bd : ∀ t : TaleD, t.Ok → okD t.dat = true ∧ bD t.dat + 2 ≤ 100 * t.count ∧ t.dat.depth ≤ 2 * t.depth
  | .mk h k f cs, g => by
    rw [TaleD.Ok] at g
    obtain ⟨a1, a2, a3⟩ := tales_bd cs g.2.2
    have h6 := isName_len g.1
    have oh : okD (.str h) = true := by
      unfold okD
      exact List.all_eq_true.mpr fun c hc => decide_eq_true (lets_small c (of_decide_eq_true (name_let g.1 c hc)))
    have lk : ((k : Nat) : Int).natAbs.log2 ≤ 1 := Nat.le_trans (Nat.log2_le_self _) (by have := g.2.1; omega)
    rw [TaleD.dat, TaleD.count, TaleD.depth]
    refine ⟨?_, ?_, ?_⟩
    · simp only [okD, okDs, a1, Bool.and_true, Bool.true_and]
      rw [Bool.and_eq_true]
      exact ⟨oh, decide_eq_true (by omega)⟩
    · simp only [bD, bDs]
      omega
    · simp only [PyData.depth, PyData.depthAll]
      omega
theorem tales_bd : ∀ cs : List TaleD, Oks cs → okDs (dats cs) = true ∧ bDs (dats cs) ≤ 100 * counts cs ∧ PyData.depthAll (dats cs) ≤ 2 * deeps cs
  | [], _ => by rw [dats, counts, deeps]; exact ⟨rfl, Nat.le_refl _, Nat.le_refl _⟩
  | c :: cs, g => by
    rw [Oks] at g
    obtain ⟨a1, a2, a3⟩ := tale_bd c g.1
    obtain ⟨b1, b2, b3⟩ := tales_bd cs g.2
    rw [dats, counts, deeps]
    refine ⟨by simp only [okDs, a1, b1]; rfl, ?_, ?_⟩
    · simp only [bDs]
      omega
    · simp only [PyData.depthAll]
      omega
end
end Ws

set_option Elab.async false
set_option linter.all false
set_option maxRecDepth 100000
set_option maxHeartbeats 4000000
namespace Ws
open PySem PySem.Spec PyProof.Rows L2
theorem okGx {P : Program} {w : World} {K : PySem.W.Frag} {mg : Str → Option Value} {base : Heap} {k : Nat} {f : Addr} {sp : Sp} {x qual : Str} {params : Arguments} {body : List Stmt} {scope : Scope} {kws : List (Str × V)} {N ps : List Str} (F : ∃ fd, FunD K x qual params body scope [] kws f fd) (S : FnScope N ps scope) (B : ArgsGo x qual params body scope ps)
    (len : ∀ vs H Q E, sp vs H Q E → vs.length = ps.length)
    (hbody : ∀ (cdv : Value) (A : Around) (outer : List Env) (s : Shared) (H : Hp) (vs : List V) (Q : VK) (E : XK), A.guards = some [] → Room k (A.deeper (envOfC qual scope s.heap.objs.size f cdv)) → sp vs H Q E →
      ∃ t, PSs (cxOf CX0 P w K mg base N qual scope f cdv A outer s H E).nox body t ∧ t { nx := fun _ H' => Q .non H', rt := Q } (start N vs) H) : FnRG P w K mg base CX0 (k + 1) f sp := by
  obtain ⟨fd, F⟩ := F
  refine FunD.okG F S (F.bindsN B) .nil (fun vs H Q E h => by rw [List.append_nil]; exact len vs H Q E h) fun cdv A outer s H vs Q E hg hr h => ?_
  obtain ⟨t, h1, h2⟩ := hbody cdv A outer s H vs Q E hg hr h
  exact ⟨t, h1.nox, by rw [List.append_nil]; exact h2⟩
theorem joinL_mem {c : Nat} : ∀ {ps : List (List Nat)}, c ∈ TL.joinL [32] ps → c = 32 ∨ ∃ p ∈ ps, c ∈ p
  | [], h => by cases h
  | [p], h => .inr ⟨p, List.mem_singleton.mpr rfl, h⟩
  | p :: q :: r, h => by
    have h : c ∈ p ++ ([32] ++ TL.joinL [32] (q :: r)) := h
    rcases List.mem_append.mp h with h | h
    · exact .inr ⟨p, List.mem_cons_self, h⟩
    · rcases List.mem_append.mp h with h | h
      · exact .inl (List.mem_singleton.mp h)
      · rcases joinL_mem h with h | ⟨x, h1, h2⟩
        · exact .inl h
        · exact .inr ⟨x, List.mem_cons_of_mem _ h1, h2⟩
mutual
theorem text_chars : ∀ t : TaleD, t.Ok → ∀ c ∈ TL.tl t.text, c < 16 ^ 8
  | .mk h k f cs, g, c, hc => by
    rw [TaleD.Ok] at g
    rw [tl_text g.2.1] at hc
    have head : c ∈ headC h k f → c < 16 ^ 8 := fun hc => by
      unfold headC at hc
      have k1 := g.2.1
      rcases List.mem_append.mp hc with hc | hc
      · exact lets_small c (of_decide_eq_true (name_let g.1 c hc))
      · rcases List.mem_cons.mp hc with rfl | hc
        · decide
        · rcases List.mem_cons.mp hc with rfl | hc
          · omega
          · split at hc
            · rw [List.mem_singleton.mp hc]; decide
            · cases hc
    split at hc
    · exact head hc
    · rcases List.mem_append.mp hc with hc | hc
      · exact head hc
      · rcases List.mem_cons.mp hc with rfl | hc
        · decide
        · rcases List.mem_append.mp hc with hc | hc
          · rcases joinL_mem hc with rfl | ⟨p, h1, h2⟩
            · decide
            · obtain ⟨x, hx, rfl⟩ := List.mem_map.mp h1
              exact texts_chars cs g.2.2 x hx c h2
          · rw [List.mem_singleton.mp hc]; decide
theorem texts_chars : ∀ cs : List TaleD, Oks cs → ∀ x ∈ cs, ∀ c ∈ TL.tl x.text, c < 16 ^ 8
  | [], _, x, hx, _, _ => by cases hx
  | y :: cs, g, x, hx, c, hc => by
    rw [Oks] at g
    rcases List.mem_cons.mp hx with e | hx
    · exact text_chars y g.1 c (by rw [← e]; exact hc)
    · exact texts_chars cs g.2 x hx c hc
end
theorem text_data {t : TaleD} (g : t.Ok) (h : t.count ≤ 1000) : okD (.str t.text) = true ∧ bD (.str t.text) ≤ sizeLine ∧ (PyData.str t.text).depth ≤ 60 := by
  refine ⟨?_, ?_, Nat.zero_le _⟩
  · unfold okD
    exact List.all_eq_true.mpr fun c hc => decide_eq_true (text_chars t g c hc)
  · have := text_le t g
    unfold bD
    exact szB (by omega)
theorem tale_data {n : NetD} {t : TaleD} (g : Whole n t) : okD t.dat = true ∧ bD t.dat ≤ sizeLine ∧ t.dat.depth ≤ 60 := by
  obtain ⟨h1, h2, h3⟩ := tale_bd t g.ok
  have := g.ct
  have := g.dp
  exact ⟨h1, szB (by omega), by omega⟩
theorem whole_read {n : NetD} {t : TaleD} (g : Whole n t) : callOf n t.text.cps.toList 30 0 = some (t, t.text.length) := by
  have := call_parse 30 t n.entries [] [] g.dp g.of g.ok (by simp) (by simp)
  rw [List.nil_append, List.append_nil, List.length_nil, Nat.zero_add] at this
  have l : (TL.tl t.text).length = t.text.length := Array.length_toList
  rw [l] at this
  exact this
section
variable {P : Program} {w : World} {K : PySem.W.Frag} {mg : Str → Option Value} {base : Heap}
def sp_l_is_right (K : PySem.W.Frag) : Sp := fun vs H Q _ => ∃ (S : Addr → Prop) (o dc : Addr) (nt n : NetD) (kvs : List (List L2.Key × V)) (cs : Cds), vs = [.ref o, .ref dc] ∧ NetAt S K H o n ∧ H dc = some (.dT kvs) ∧ CallsAt S H kvs cs ∧ Told nt cs ∧ Like nt n ∧ ∀ H', Ext H H' → Q (.bl true) H'
theorem sc_l_is_right : FnScope ["_law_web", "_law_calls", "_law_tale", "_law_due", "_law_told", "_law_again"] ["_law_web", "_law_calls"] (defScope s_l_is_right) := ⟨rfl, rfl, rfl, by decide +kernel, rfl, by decide +kernel, by decide +kernel⟩
theorem ok_l_is_right (x : Fx K mg w) : FnRG P w K mg base CX0 39 (a_l_is_right K) (sp_l_is_right K) := by
  refine okGx x.F_l_is_right sc_l_is_right (fun _ _ _ _ _ _ us hl => match us, hl with | [_, _], _ => rfl) (fun vs H Q E h => by obtain ⟨S, o, dc, nt, n, kvs, cs, rfl, tn, hd, hc, tl, lk, hQ⟩ := h; rfl) (fun cdv A outer s H vs Q E gu hr h => ?_)
  obtain ⟨S, o, dc, nt, n, kvs, cs, rfl, tn, hd, hc, tl, lk, hQ⟩ := h
  refine ⟨_, (pss_cons (ps_par (i := 2) (j := 3) rfl sc_l_is_right.nd rfl rfl (by decide) rfl rfl (pa_cons (pe_callR (ok_l_story x 31) (hr.mono (by decide)) rfl x.m_l_story (keep_of x.F_l_story) pass0 (pa_cons (pv 1) (pa_cons (pe_tup pa_nil) pa_nil))) (pa_cons (pe_callR (ok_l_call_text x 31) (hr.mono (by decide)) rfl x.m_l_call_text (keep_of x.F_l_call_text) pass0 (pa_cons (pv 1) (pa_cons (pe_tup pa_nil) pa_nil))) pa_nil)) (by rfl))
 (pss_cons (ps_if (PW.pt (pw_or (pt_cmpR op_ne (pe_callB (r := rRepr K) (call_reprD gu hr.units) rfl x.n_repr bb_repr (pa_cons (pe_callR (ok_story_text x) (hr.mono (by decide)) rfl x.m_story_text (keep_of x.F_story_text) pass0 (pa_cons (pv 0) (pa_cons (pv 2) pa_nil))) pa_nil)) (pe_callB (r := rRepr K) (call_reprD gu hr.units) rfl x.n_repr bb_repr (pa_cons (pv 3) pa_nil)) (nomark _)) (pw_or1 (pt_cmpR op_ne (pe_callB (r := rRepr K) (call_reprD gu hr.units) rfl x.n_repr bb_repr (pa_cons (pe_callKw0 (okq_story_text x) (hr.mono (by decide)) rfl x.m_story_text (keep_of x.F_story_text) pass0 (pk_cons (pv 2) (pk_cons (pv 0) pk_nil))) pa_nil)) (pe_callB (r := rRepr K) (call_reprD gu hr.units) rfl x.n_repr bb_repr (pa_cons (pv 3) pa_nil)) (nomark _)))))
 (pss_one (ps_ret pe_bl))
 pss_nil)
 (pss_cons (ps_asg (pe_tup (pa_cons pe_non (pa_cons pe_non pa_nil))) (pg_tupK (K := K) (n := 2) rfl rfl (pgs_cons (pg_name (i := 4) sc_l_is_right.nd rfl (Or.inl rfl)) (pgs_cons (pg_name (i := 5) sc_l_is_right.nd rfl (Or.inl rfl)) pgs_nil))))
 (pss_cons (ps_try_only rfl rfl ⟨rfl, rfl, .inl x.m_StoryError⟩ takes_none5 (fun W pn xe tk po => (pss_one (ps_par (i := 4) (j := 5) rfl sc_l_is_right.nd rfl rfl (by decide) rfl rfl (pa_cons (pe_callR (ok_read_story x) (hr.mono (by decide)) rfl x.m_read_story (keep_of x.F_read_story) pass0 (pa_cons (pv 0) (pa_cons (pv 3) pa_nil))) (pa_cons (pe_callKw0 (okq_read_story x) (hr.mono (by decide)) rfl x.m_read_story (keep_of x.F_read_story) pass0 (pk_cons (pv 3) (pk_cons (pv 0) pk_nil))) pa_nil)) (by rfl)))) (fun a oe cls d pn _ _ => (pss_one (ps_set (i := 4) sc_l_is_right.nd rfl (Or.inl rfl) pe_non))))
 (pss_one (ps_ret (pe_and (pe_cmpR op_eq (pe_callB (r := rRepr K) (call_reprD gu hr.units) rfl x.n_repr bb_repr (pa_cons (pv 4) pa_nil)) (pe_callB (r := rRepr K) (call_reprD gu hr.units) rfl x.n_repr bb_repr (pa_cons (pv 2) pa_nil)) (nomark _)) (pe_one (pe_cmpR op_eq (pe_callB (r := rRepr K) (call_reprD gu hr.units) rfl x.n_repr bb_repr (pa_cons (pv 5) pa_nil)) (pe_callB (r := rRepr K) (call_reprD gu hr.units) rfl x.n_repr bb_repr (pa_cons (pv 2) pa_nil)) (nomark _)))))))))), ?_⟩
  obtain ⟨hr, hl, wh⟩ := tl.whole lk
  have hc := hc.free
  have tn := tn.free
  have ln := tl.ln
  have hl31 : ∀ q ∈ cs.map (·.1), q.length < ([] : List Nat).length + 31 ∧ q.length ≤ 500 := fun q hq => ⟨by have := (hl q hq).1; simp; omega, by have := (hl q hq).2; omega⟩
  generalize et : treeOf cs 31 [] = t at wh
  obtain ⟨a1, a2, a3⟩ := text_data wh.ok (by have := wh.ct; omega)
  obtain ⟨b1, b2, b3⟩ := tale_data wh
  have ct := wh.ct
  have dp := wh.dp
  refine ⟨_, rfl, by simp, fun e0 ne0 => ?_⟩
  have e1 : Ext H (upd H e0 (.tup [])) := ext_new ne0
  have he0 : PathAt (upd H e0 (.tup [])) e0 [] := upd_same
  generalize upd H e0 (.tup []) = H1 at e1 he0
  refine ⟨dc, e0, kvs, cs, [], rfl, e1 _ _ hd, hc.ext e1, he0, hr, by omega, by simp, hl31, fun ta H2 e2 ht => ⟨_, rfl, by simp, fun f0 nf0 => ?_⟩⟩
  rw [et] at ht
  have e3 : Ext H2 (upd H2 f0 (.tup [])) := ext_new nf0
  have hf0 : PathAt (upd H2 f0 (.tup [])) f0 [] := upd_same
  generalize upd H2 f0 (.tup []) = H3 at e3 hf0
  have e03 := e1.trans (e2.trans e3)
  refine ⟨dc, f0, kvs, cs, [], rfl, e03 _ _ hd, hc.ext e03, hf0, hr, by omega, by simp, hl31, by rw [et]; exact wh.ok, by rw [et]; omega, fun H4 e4 => ⟨_, _, rfl, ?_⟩⟩
  rw [et]
  have e04 := e03.trans e4
  have ht4 := ht.ext (e3.trans e4)
  have tn4 := tn.ext e04
  refine ⟨_, rfl, _, rfl, no, o, ta, n, t, rfl, tn4, ht4, wh.of, wh.ok, by omega, by omega, fun H5 e5 => ⟨_, .str t.text, rfl, .str _, a1, a2, a3, _, rfl, _, .str t.text, rfl, .str _, a1, a2, a3, rfl, _, rfl, ifF (by simp) ?_⟩⟩
  refine ⟨_, rfl, _, rfl, rfl, _, _, rfl, no, o, ta, n, t, rfl, tn4.ext e5, ht4.ext e5, wh.of, wh.ok, by omega, by omega, fun H6 e6 => ⟨_, .str t.text, rfl, .str _, a1, a2, a3, _, rfl, _, .str t.text, rfl, .str _, a1, a2, a3, rfl, _, rfl, ifF (by simp) ?_⟩⟩
  have e46 := e5.trans e6
  have tn6 := tn4.ext e46
  have ht6 := ht4.ext e46
  have e06 := e04.trans e46
  have tlen : t.text.length ≤ 1000000 := by
    have := text_le t wh.ok
    omega
  refine ⟨by simp [sizeLine_eq], fun np nnp => ?_⟩
  have e7 : Ext H6 (upd H6 np (.tup [.non, .non])) := ext_new nnp
  have hnp : (upd H6 np (.tup [.non, .non])) np = some (.tup [.non, .non]) := upd_same
  generalize upd H6 np (.tup [.non, .non]) = H7 at e7 hnp
  refine ⟨np, _, rfl, .of hnp, rfl, _, _, rfl, _, _, rfl, rfl, ?_⟩
  dsimp only [gName]
  have tn7 := tn6.ext e7
  refine ⟨_, rfl, _, rfl, no, o, n, t.text, t, rfl, tn7, tlen, whole_read wh, wh.en, wh.ct, fun r1 H8 e8 t1 => ?_⟩
  refine ⟨_, rfl, _, rfl, rfl, _, _, rfl, no, o, n, t.text, t, rfl, tn7.ext e8, tlen, whole_read wh, wh.en, wh.ct, fun r2 H9 e9 t2 => ⟨_, _, rfl, ?_⟩⟩
  have ht9 := ht6.ext (e7.trans (e8.trans e9))
  have t19 := t1.ext e9
  refine ⟨_, rfl, _, t.dat, rfl, TaleAt.dp _ _ t19, b1, b2, b3, _, rfl, _, t.dat, rfl, TaleAt.dp _ _ ht9, b1, b2, b3, rfl, _, rfl, ifT (by simp) ?_⟩
  refine ⟨_, rfl, _, t.dat, rfl, TaleAt.dp _ _ t2, b1, b2, b3, _, rfl, _, t.dat, rfl, TaleAt.dp _ _ ht9, b1, b2, b3, rfl, ?_⟩
  rw [decide_eq_true rfl]
  exact hQ _ (e06.trans (e7.trans (e8.trans e9)))
end
end Ws

set_option Elab.async false
set_option linter.all false
set_option maxRecDepth 100000
set_option maxHeartbeats 8000000
set_option pp.deepTerms false
set_option pp.maxSteps 250
namespace Ws
open PySem PySem.Spec PyProof.Rows L2
def ringH : HouseD := ⟨[⟨1, "handed", false, false⟩, ⟨5, "m", false, false⟩], ["ring"], [], true⟩
theorem ringH_fit : ringH.Fit := ⟨by decide, by decide, by decide +kernel, by decide +kernel, by decide, by decide +kernel, (fun z h => (nomatch h)), by decide⟩
theorem ringD_fit : ringD.Fit := by
  refine ⟨by decide, by decide, ⟨by decide, by decide, fun p hp => ?_, by decide +kernel, fun p hp => ?_, fun p hp => ?_⟩, by simp [ringD], by decide +kernel, by decide +kernel, by decide⟩
  · rw [List.mem_singleton.mp hp]; decide +kernel
  · rw [List.mem_singleton.mp hp]; decide +kernel
  · rw [List.mem_singleton.mp hp]; decide +kernel
section
variable {P : Program} {w : World} {K : PySem.W.Frag} {mg : Str → Option Value} {base : Heap}
theorem ok1_Rule_init (x : Fx K mg w) : FnR P w K mg base CX0 2 (a_Rule_init K) (fun vs H Q E => sp_Rule_init K (vs ++ [.str "handed", .bl false, .bl false]) H Q E) := by
  obtain ⟨fd, F⟩ := x.F_Rule_init
  obtain ⟨ds, h1, h2⟩ := F.binds1 (ps := ["self", "share", "mark", "always", "late"]) 2 0 (by simp) rfl fun T kV doc pm an cdv ct us its hu hi => match us, hu, its, hi with | [_, _], _, [_, _, _], _ => ⟨_, rfl, rfl⟩
  exact (okf_Rule_init F x).raw h2 h1
theorem ok2_Rule_init (x : Fx K mg w) : FnR P w K mg base CX0 2 (a_Rule_init K) (fun vs H Q E => sp_Rule_init K (vs ++ [.bl false, .bl false]) H Q E) := by
  obtain ⟨fd, F⟩ := x.F_Rule_init
  obtain ⟨ds, h1, h2⟩ := F.binds1 (ps := ["self", "share", "mark", "always", "late"]) 3 1 (by simp) rfl fun T kV doc pm an cdv ct us its hu hi => match us, hu, its, hi with | [_, _, _], _, [_, _, _], _ => ⟨_, rfl, rfl⟩
  exact (okf_Rule_init F x).raw h2 h1
def sp_law (K : PySem.W.Frag) : Sp := fun vs H Q _ => ∃ (a : Addr) (ns : List Int), vs = [.ref a] ∧ SqL K H a (ns.map V.int) ∧ ns.length ≤ 63 ∧ ∀ H', Q (.bl true) H'
theorem sc_law : FnScope ["_law_script", "_law_draw", "_law_ring", "_law_turn", "_law_model_here"] ["_law_script"] (defScope s_law) := ⟨rfl, rfl, rfl, by decide +kernel, rfl, by decide +kernel, by decide +kernel⟩
theorem ok_law (x : Fx K mg w) : FnRG P w K mg base CX0 40 (a_law K) (sp_law K) := by
  refine okGx x.F_law sc_law (fun _ _ _ _ _ _ us hl => match us, hl with | [_], _ => rfl) (fun vs H Q E h => by obtain ⟨a, ns, rfl, hs, hl, hQ⟩ := h; rfl) (fun cdv A outer s H vs Q E gu hr h => ?_)
  obtain ⟨a, ns, rfl, hs, hl, hQ⟩ := h
  refine ⟨_, (pss_cons (ps_set (i := 1) sc_law.nd rfl (Or.inl rfl) (pe_callR (ok_l_begun x) (hr.mono (by decide)) rfl x.m_l_begun (keep_of x.F_l_begun) pass0 (pa_cons (pv 0) pa_nil)))
 (pss_cons (ps_set (i := 2) sc_law.nd rfl (Or.inl rfl) (StX.pe_makeR x.mk_Net (ok_Net_init x) (hr.mono (by decide)) rfl x.m_Net pass0 (pa_cons pe_int (pa_cons (pe_disp (pps_cons pe_str (StX.pe_makeR x.mk_House (ok_House_init x) (hr.mono (by decide)) rfl x.m_House pass0 (pa_cons (pe_lst (pa_cons (StX.pe_makeR x.mk_Rule (ok1_Rule_init x) (hr.mono (by decide)) rfl x.m_Rule pass0 (pa_cons pe_int pa_nil)) (pa_cons (StX.pe_makeR x.mk_Rule (ok2_Rule_init x) (hr.mono (by decide)) rfl x.m_Rule pass0 (pa_cons pe_int (pa_cons pe_str pa_nil))) pa_nil))) (pa_cons (pe_lst (pa_cons pe_str pa_nil)) (pa_cons (pe_lst pa_nil) (pa_cons pe_bl pa_nil))))) pps_nil) rfl rfl (by simp) (by decide)) (pa_cons (pe_lst (pa_cons pe_str pa_nil)) pa_nil)))))
 (pss_cons (ps_for PassesOwn.never rfl (pi_range1 rfl x.n_range (pa_cons (pe_op op_add pe_int (pe_callB (call_min2 rfl) rfl x.n_min bb_min (pa_cons (pe_callB (r := rLenK K) call_lenK rfl x.n_len bb_len (pa_cons (pv 0) pa_nil)) (pa_cons pe_int pa_nil)))) pa_nil)) (pg_name (i := 3) sc_law.nd rfl (Or.inl rfl))
 (pss_cons (ps_set (i := 4) sc_law.nd rfl (Or.inl rfl) (pe_callR (ok_l_model x) (hr.mono (by decide)) rfl x.m_l_model (keep_of x.F_l_model) pass0 (pa_cons (pv 1) (pa_cons pe_int pa_nil))))
 (pss_cons (ps_if (pt_not (pt_val (pe_callG (ok_l_is_right x) gu (hr.mono (by decide)) rfl x.m_l_is_right (keep_of x.F_l_is_right) pass0 (pa_cons (pe_callR (ok_l_net x) (hr.mono (by decide)) rfl x.m_l_net (keep_of x.F_l_net) pass0 (pa_cons (pv 4) pa_nil)) (pa_cons (pe_callR (ok_l_drawn_calls x) (hr.mono (by decide)) rfl x.m_l_drawn_calls (keep_of x.F_l_drawn_calls) pass0 (pa_cons (pv 1) (pa_cons (pv 4) (pa_cons pe_int pa_nil)))) pa_nil)))))
 (pss_one (ps_ret pe_bl))
 pss_nil)
 (pss_one (ps_if (pt_not (pt_val (pe_callG (ok_l_is_right x) gu (hr.mono (by decide)) rfl x.m_l_is_right (keep_of x.F_l_is_right) pass0 (pa_cons (pv 2) (pa_cons (pe_callR (ok_l_steep x) (hr.mono (by decide)) rfl x.m_l_steep (keep_of x.F_l_steep) pass0 (pa_cons (pv 1) pa_nil)) pa_nil)))))
 (pss_one (ps_ret pe_bl))
 pss_nil)))))
 (pss_one (ps_ret pe_bl))))), ?_⟩
  refine ⟨_, rfl, a, ns, rfl, hs, hl, fun d wd c H1 e1 nd nwd da => ?_⟩
  have dm1 : Dm (two d wd) H1 := by
    obtain ⟨_, _, ws, cs, rest, turn, g1, g2, _⟩ := id da
    rintro b (rfl | rfl)
    · rw [g1]; exact fun z => nomatch z
    · rw [g2]; exact fun z => nomatch z
  dsimp only [gName]
  intro dk ndk
  have e2 : Ext H1 (upd H1 dk (.dK [])) := ext_new ndk
  have hk2 : (upd H1 dk (.dK [])) dk = some (.dK []) := upd_same
  generalize upd H1 dk (.dK []) = H2 at e2 hk2
  have dm2 := dm1.ext e2
  refine make_rule (K := K) (S := two d wd) (r := ⟨1, "handed", false, false⟩) dm2 ⟨by decide, by decide, by decide +kernel⟩ fun r1 H3 e3 t1 => ?_
  refine make_rule (K := K) (S := two d wd) (r := ⟨5, "m", false, false⟩) (dm2.ext e3) ⟨by decide, by decide, by decide +kernel⟩ fun r2 H4 e4 t2 => ?_
  refine ⟨by simp [sizeLine_eq], fun l1 nl1 => ?_⟩
  have e5 : Ext H4 (upd H4 l1 (.lst [.ref r1, .ref r2])) := ext_new nl1
  have h5 : (upd H4 l1 (.lst [.ref r1, .ref r2])) l1 = some (.lst (([r1, r2] : List Addr).map V.ref)) := upd_same
  generalize upd H4 l1 (.lst [.ref r1, .ref r2]) = H5 at e5 h5
  refine ⟨by simp [sizeLine_eq], fun l2 nl2 => ?_⟩
  have e6 : Ext H5 (upd H5 l2 (.lst [.str "ring"])) := ext_new nl2
  have h6 : (upd H5 l2 (.lst [.str "ring"])) l2 = some (.lst (ringH.calls.map V.str)) := upd_same
  generalize upd H5 l2 (.lst [.str "ring"]) = H6 at e6 h6
  refine ⟨by simp [sizeLine_eq], fun l3 nl3 => ?_⟩
  have e7 : Ext H6 (upd H6 l3 (.lst [])) := ext_new nl3
  have h7 : (upd H6 l3 (.lst [])) l3 = some (.lst (ringH.lost.map V.str)) := upd_same
  generalize upd H6 l3 (.lst []) = H7 at e7 h7
  have e57 := e6.trans e7
  have e27 := e3.trans (e4.trans (e5.trans e57))
  refine make_house (K := K) (S := two d wd) (m := ringH) (os := [r1, r2]) (dm2.ext e27) (.inl (e57 _ _ h5)) (.cons (t1.ext (e4.trans (e5.trans e57))) (.cons (t2.ext (e5.trans e57)) .nil)) (.inl (.inl (e7 _ _ h6))) (.inl (.inl h7)) ringH_fit fun rh H8 hh e8 md th => ?_
  refine ⟨e8 _ _ (e27 _ _ hk2), [(Sum.inr "ring", .ref rh)], rfl, by simp, ?_⟩
  have hk8 : H8 dk = some (.dK []) := e8 _ _ (e27 _ _ hk2)
  have e18 : Ext H1 (upd H8 dk (.dK (mergeK [] [(Sum.inr "ring", .ref rh)]))) := fun b o z => by
    rw [upd_ne (ne_of_none z ndk)]
    exact e8 _ _ (e27 _ _ (e2 _ _ z))
  have hk9 : (upd H8 dk (.dK (mergeK [] [(Sum.inr "ring", .ref rh)]))) dk = some (.dK [(Sum.inr "ring", .ref rh)]) := upd_same
  have th9 : HouseAt (two d wd) K (upd H8 dk (.dK (mergeK [] [(Sum.inr "ring", .ref rh)]))) rh hh := th.lk hk8 (Kp.refl.put rfl) (by simp) (by simp)
  generalize upd H8 dk (.dK (mergeK [] [(Sum.inr "ring", .ref rh)])) = H9 at e18 hk9 th9
  refine ⟨by simp [sizeLine_eq], fun l4 nl4 => ?_⟩
  have e10 : Ext H9 (upd H9 l4 (.lst [.str "ring"])) := ext_new nl4
  have h10 : (upd H9 l4 (.lst [.str "ring"])) l4 = some (.lst (ringD.entries.map V.str)) := upd_same
  generalize upd H9 l4 (.lst [.str "ring"]) = H10 at e10 h10
  have pr : Paired (fun (p q : Str × HouseD) => q.1 = p.1 ∧ Made p.2 q.2) ringD.houses [("ring", hh)] := .cons ⟨rfl, md⟩ .nil
  refine make_net (K := K) (S := two d wd) (m := { ringD with houses := [("ring", hh)] }) (dm1.ext (e18.trans e10)) (e10 _ _ hk9) (.cons ⟨rfl, rh, rfl, th9.ext e10⟩ .nil) (.inl (.inl h10)) (norm_fit ringD_fit pr) fun ro H11 nr e11 nm tr => ?_
  have likeR : Like ringD nr := like_norm ringD_fit (fun p hp => by rw [List.mem_singleton.mp hp]; decide) ⟨_, pr, nm⟩
  have e111 := e18.trans (e10.trans e11)
  have dm11 := dm1.ext e111
  have da11 := da.ext e111
  dsimp only [gName]
  obtain ⟨k, hk, k12⟩ : ∃ k : Nat, (4 : Int) + (if (12 : Int) < ((ns.map V.int).length : Nat) then (12 : Int) else (((ns.map V.int).length : Nat) : Int)) = (k : Nat) ∧ k ≤ 20 := by
    rw [List.length_map]
    by_cases z : (12 : Int) < (ns.length : Nat)
    · exact ⟨16, by rw [if_pos z]; rfl, by omega⟩
    · exact ⟨4 + ns.length, by rw [if_neg z]; omega, by omega⟩
  refine ⟨_, rfl, _, _, rfl, .inl ⟨_, sqL_ext hs (e1.trans e111), rfl⟩, _, _, rfl, _, _, rfl, rfl, (k : Int), congrArg (fun z => [V.int z]) hk, by omega, by omega, ?_⟩
  refine for_std (S := two d wd) (H0 := H11) std_range (fun i σ H' => Kp (two d wd) H11 H' ∧ DrawAt (two d wd) H' d wd c (1000 * i) ∧ ∃ v3 v4, σ = [some (.ref a), some (.ref d), some (.ref ro), v3, v4])
    ⟨Kp.refl, da11, none, none, rfl⟩ (fun i σ H' h => h.1) (fun i y σ G1 hy ⟨u1, da1, v3, v4, hσ⟩ => ?_) (fun σ G1 ⟨u1, da1, v3, v4, hσ⟩ => ?_)
  · subst hσ
    have hi : i < k := by
      have := (List.getElem?_eq_some_iff.mp hy).1
      simpa using this
    have dg1 : Dm (two d wd) G1 := dm11.kp u1
    refine ⟨_, rfl, two d wd, d, wd, c, _, 8, rfl, dg1, da1, by show 1000 * i + 400 ≤ 1099511627776; omega, by decide, by decide, fun m md G2 u2 da2 ma2 f _ _ => ?_⟩
    have dg2 := dg1.kp u2
    dsimp only [gName]
    refine ⟨_, rfl, two d wd, m, md, rfl, dg2, ma2, f, fun wb nw G3 e3 nn tn => ?_⟩
    have likeW : Like md.net nw := like_norm f.net (fun p hp => (f.hs p hp).1.r2) nn
    refine ⟨_, rfl, _, rfl, two d wd, d, wd, c, m, _, md, rfl, rfl, dg2.ext e3, da2.ext e3, by show 1000 * i + 300 + 310 ≤ 1099511627776; omega, ma2.ext e3, f, fun dc G4 cs kvs u4 da4 hdc hcs told => ?_⟩
    refine ⟨two d wd, wb, dc, md.net, nw, kvs, cs, rfl, tn.kp u4, hdc.1, hcs, told, likeW, fun G5 e5 => ⟨true, rfl, ifF rfl ?_⟩⟩
    have u15 : Kp (two d wd) G1 G5 := ((u2.trans (.ext e3)).trans u4).trans (.ext e5)
    have dg5 := dg1.kp u15
    refine ⟨_, rfl, _, rfl, two d wd, d, wd, c, _, rfl, dg5, da4.ext e5, by show 1000 * i + 300 + 310 + 300 ≤ 1099511627776; omega, fun dc2 G6 cs2 kvs2 u6 da6 hdc2 hcs2 told2 => ?_⟩
    have u16 := u15.trans u6
    refine ⟨two d wd, ro, dc2, ringD, nr, kvs2, cs2, rfl, (tr.kp u1).kp u16, hdc2.1, hcs2, told2, likeR, fun G7 e7 => ⟨true, rfl, ifF rfl ?_⟩⟩
    exact ⟨u1.trans (u16.trans (.ext e7)), (da6.ext e7).more (by omega), _, _, rfl⟩
  · subst hσ
    exact hQ _
end
end Ws

set_option Elab.async false
set_option linter.all false
set_option maxRecDepth 100000
set_option maxHeartbeats 0
namespace Ws
open PySem PySem.Spec PyProof.Rows L2
def d_is_number : He5.DefA := ⟨fun K => a_is_number K, "is_number", "is_number", defArgs s_is_number, defBody s_is_number, defScope s_is_number, [], []⟩
def d_is_name : He5.DefA := ⟨fun K => a_is_name K, "is_name", "is_name", defArgs s_is_name, defBody s_is_name, defScope s_is_name, [], []⟩
def d_are_different : He5.DefA := ⟨fun K => a_are_different K, "are_different", "are_different", defArgs s_are_different, defBody s_are_different, defScope s_are_different, [], []⟩
def d_are_names : He5.DefA := ⟨fun K => a_are_names K, "are_names", "are_names", defArgs s_are_names, defBody s_are_names, defScope s_are_names, [], []⟩
def d_Rule_init : He5.DefA := ⟨fun K => a_Rule_init K, "__init__", "Rule.__init__", defArgs s_Rule_init, defBody s_Rule_init, defScope s_Rule_init, [.str "handed", .bl false, .bl false], []⟩
def d_Rule_share : He5.DefA := ⟨fun K => a_Rule_share K, "share", "Rule.share", defArgs s_Rule_share, defBody s_Rule_share, defScope s_Rule_share, [], []⟩
def d_Rule_eq : He5.DefA := ⟨fun K => a_Rule_eq K, "__eq__", "Rule.__eq__", defArgs s_Rule_eq, defBody s_Rule_eq, defScope s_Rule_eq, [], []⟩
def d_are_rules : He5.DefA := ⟨fun K => a_are_rules K, "are_rules", "are_rules", defArgs s_are_rules, defBody s_are_rules, defScope s_are_rules, [], []⟩
def d_House_init : He5.DefA := ⟨fun K => a_House_init K, "__init__", "House.__init__", defArgs s_House_init, defBody s_House_init, defScope s_House_init, [.adr (He.dflAt ("House", some "__init__") 0), .adr (He.dflAt ("House", some "__init__") 1), .bl false], []⟩
def d_House_rules : He5.DefA := ⟨fun K => a_House_rules K, "rules", "House.rules", defArgs s_House_rules, defBody s_House_rules, defScope s_House_rules, [], []⟩
def d_House_calls : He5.DefA := ⟨fun K => a_House_calls K, "calls", "House.calls", defArgs s_House_calls, defBody s_House_calls, defScope s_House_calls, [], []⟩
def d_House_lost : He5.DefA := ⟨fun K => a_House_lost K, "lost", "House.lost", defArgs s_House_lost, defBody s_House_lost, defScope s_House_lost, [], []⟩
def d_House_fails : He5.DefA := ⟨fun K => a_House_fails K, "fails", "House.fails", defArgs s_House_fails, defBody s_House_fails, defScope s_House_fails, [], []⟩
def d_House_eq : He5.DefA := ⟨fun K => a_House_eq K, "__eq__", "House.__eq__", defArgs s_House_eq, defBody s_House_eq, defScope s_House_eq, [], []⟩
def d_are_named : He5.DefA := ⟨fun K => a_are_named K, "are_named", "are_named", defArgs s_are_named, defBody s_are_named, defScope s_are_named, [], []⟩
def d_need_houses : He5.DefA := ⟨fun K => a_need_houses K, "need_houses", "need_houses", defArgs s_need_houses, defBody s_need_houses, defScope s_need_houses, [], []⟩
def d_Net_init : He5.DefA := ⟨fun K => a_Net_init K, "__init__", "Net.__init__", defArgs s_Net_init, defBody s_Net_init, defScope s_Net_init, [], []⟩
def d_Net_entries : He5.DefA := ⟨fun K => a_Net_entries K, "entries", "Net.entries", defArgs s_Net_entries, defBody s_Net_entries, defScope s_Net_entries, [], []⟩
def d_Net_contains : He5.DefA := ⟨fun K => a_Net_contains K, "__contains__", "Net.__contains__", defArgs s_Net_contains, defBody s_Net_contains, defScope s_Net_contains, [], []⟩
def d_Net_getitem : He5.DefA := ⟨fun K => a_Net_getitem K, "__getitem__", "Net.__getitem__", defArgs s_Net_getitem, defBody s_Net_getitem, defScope s_Net_getitem, [], []⟩
def d_Net_eq : He5.DefA := ⟨fun K => a_Net_eq K, "__eq__", "Net.__eq__", defArgs s_Net_eq, defBody s_Net_eq, defScope s_Net_eq, [], []⟩
def d_need_net : He5.DefA := ⟨fun K => a_need_net K, "need_net", "need_net", defArgs s_need_net, defBody s_need_net, defScope s_need_net, [], []⟩
def d_need_house : He5.DefA := ⟨fun K => a_need_house K, "need_house", "need_house", defArgs s_need_house, defBody s_need_house, defScope s_need_house, [], []⟩
def d_is_call : He5.DefA := ⟨fun K => a_is_call K, "is_call", "is_call", defArgs s_is_call, defBody s_is_call, defScope s_is_call, [], []⟩
def d_wrong_call : He5.DefA := ⟨fun K => a_wrong_call K, "wrong_call", "wrong_call", defArgs s_wrong_call, defBody s_wrong_call, defScope s_wrong_call, [], []⟩
def d_need_story : He5.DefA := ⟨fun K => a_need_story K, "need_story", "need_story", defArgs s_need_story, defBody s_need_story, defScope s_need_story, [], []⟩
def d_calls_in : He5.DefA := ⟨fun K => a_calls_in K, "calls_in", "calls_in", defArgs s_calls_in, defBody s_calls_in, defScope s_calls_in, [], []⟩
def d_call_text : He5.DefA := ⟨fun K => a_call_text K, "call_text", "call_text", defArgs s_call_text, defBody s_call_text, defScope s_call_text, [], []⟩
def d_story_text : He5.DefA := ⟨fun K => a_story_text K, "story_text", "story_text", defArgs s_story_text, defBody s_story_text, defScope s_story_text, [], []⟩
def d_read_head : He5.DefA := ⟨fun K => a_read_head K, "read_head", "read_head", defArgs s_read_head, defBody s_read_head, defScope s_read_head, [], []⟩
def d_read_call : He5.DefA := ⟨fun K => a_read_call K, "read_call", "read_call", defArgs s_read_call, defBody s_read_call, defScope s_read_call, [], []⟩
def d_read_story : He5.DefA := ⟨fun K => a_read_story K, "read_story", "read_story", defArgs s_read_story, defBody s_read_story, defScope s_read_story, [], []⟩
def d_l_begun : He5.DefA := ⟨fun K => a_l_begun K, "_law_begun", "_law_begun", defArgs s_l_begun, defBody s_l_begun, defScope s_l_begun, [], []⟩
def d_l_mixed : He5.DefA := ⟨fun K => a_l_mixed K, "_law_mixed", "_law_mixed", defArgs s_l_mixed, defBody s_l_mixed, defScope s_l_mixed, [], []⟩
def d_l_take : He5.DefA := ⟨fun K => a_l_take K, "_law_take", "_law_take", defArgs s_l_take, defBody s_l_take, defScope s_l_take, [], []⟩
def d_l_pick : He5.DefA := ⟨fun K => a_l_pick K, "_law_pick", "_law_pick", defArgs s_l_pick, defBody s_l_pick, defScope s_l_pick, [], []⟩
def d_l_names : He5.DefA := ⟨fun K => a_l_names K, "_law_names", "_law_names", defArgs s_l_names, defBody s_l_names, defScope s_l_names, [], []⟩
def d_l_rule : He5.DefA := ⟨fun K => a_l_rule K, "_law_rule", "_law_rule", defArgs s_l_rule, defBody s_l_rule, defScope s_l_rule, [], []⟩
def d_l_model : He5.DefA := ⟨fun K => a_l_model K, "_law_model", "_law_model", defArgs s_l_model, defBody s_l_model, defScope s_l_model, [], []⟩
def d_l_rules_of : He5.DefA := ⟨fun K => a_l_rules_of K, "_law_rules_of", "_law_rules_of", defArgs s_l_rules_of, defBody s_l_rules_of, defScope s_l_rules_of, [], []⟩
def d_l_net : He5.DefA := ⟨fun K => a_l_net K, "_law_net", "_law_net", defArgs s_l_net, defBody s_l_net, defScope s_l_net, [], []⟩
def d_l_some_call : He5.DefA := ⟨fun K => a_l_some_call K, "_law_some_call", "_law_some_call", defArgs s_l_some_call, defBody s_l_some_call, defScope s_l_some_call, [], []⟩
def d_l_drawn_calls : He5.DefA := ⟨fun K => a_l_drawn_calls K, "_law_drawn_calls", "_law_drawn_calls", defArgs s_l_drawn_calls, defBody s_l_drawn_calls, defScope s_l_drawn_calls, [], []⟩
def d_l_story : He5.DefA := ⟨fun K => a_l_story K, "_law_story", "_law_story", defArgs s_l_story, defBody s_l_story, defScope s_l_story, [], []⟩
def d_l_call_text : He5.DefA := ⟨fun K => a_l_call_text K, "_law_call_text", "_law_call_text", defArgs s_l_call_text, defBody s_l_call_text, defScope s_l_call_text, [], []⟩
def d_l_is_right : He5.DefA := ⟨fun K => a_l_is_right K, "_law_is_right", "_law_is_right", defArgs s_l_is_right, defBody s_l_is_right, defScope s_l_is_right, [], []⟩
def d_l_steep : He5.DefA := ⟨fun K => a_l_steep K, "_law_steep", "_law_steep", defArgs s_l_steep, defBody s_l_steep, defScope s_l_steep, [], []⟩
def d_law : He5.DefA := ⟨fun K => a_law K, "law", "law", defArgs s_law, defBody s_law, defScope s_law, [], []⟩
def propB (K : PySem.W.Frag) (C f : Str) : Bool := He.eqO (PySem.W.findIn K (.ref (He.ga K C)) f) (some (some (.ref (He.ma K (He.ga K C) f)))) && (He.eqO (PySem.W.specialIn K (.ref (He.ma K (He.ga K C) f)) "__get__") (some (some (.builtin "property.__get__"))) &&
  (decide (PySem.W.takesIn K (.ref (He.ma K (He.ga K C) f)) = some true) && (match PySem.W.recIn K (He.ma K (He.ga K C) f) "property" with
    | some (.ref _ :: _) => true
    | _ => false)))
theorem propB_ok {K : PySem.W.Frag} {C f : Str} (h : propB K C f = true) : PropOf K (He.ga K C) f (He.ma K (He.ga K C) f) (gA K C f) := by
  obtain ⟨h1, h⟩ := He.ba h
  obtain ⟨h2, h⟩ := He.ba h
  obtain ⟨h3, h4⟩ := He.ba h
  refine ⟨He.eqO_ok h1, He.eqO_ok h2, of_decide_eq_true h3, ?_⟩
  unfold gA
  split at h4
  · rename_i f r e
    exact ⟨r, by rw [e]⟩
  · cases h4
def hfa0 : List He.Fa := [.free "isinstance", .free "int", .free "bool", .free "str", .free "list", .free "tuple", .free "dict", .free "len", .free "all", .free "any", .free "sorted", .free "range", .free "min", .free "abs", .free "enumerate", .free "repr", .glo "is_number", .glo "is_name", .glo "are_different", .glo "are_names", .glo "are_rules", .glo "are_named", .glo "need_houses", .glo "need_net", .glo "need_house", .glo "is_call", .glo "wrong_call", .glo "need_story", .glo "calls_in", .glo "call_text"]
def hfa1 : List He.Fa := [.glo "story_text", .glo "read_head", .glo "read_call", .glo "read_story", .glo "_law_begun", .glo "_law_mixed", .glo "_law_take", .glo "_law_pick", .glo "_law_names", .glo "_law_rule", .glo "_law_model", .glo "_law_rules_of", .glo "_law_net", .glo "_law_some_call", .glo "_law_drawn_calls", .glo "_law_story", .glo "_law_call_text", .glo "_law_is_right", .glo "_law_steep", .glo "Rule", .cls "Rule", .mkr "Rule", .noat "Rule" "r_parts", .glo "House", .cls "House", .mkr "House", .noat "House" "h_rules", .noat "House" "h_calls", .noat "House" "h_lost", .noat "House" "h_fails"]
def hfa2 : List He.Fa := [.glo "Net", .cls "Net", .mkr "Net", .noat "Net" "n_fine", .noat "Net" "n_houses", .noat "Net" "n_entries", .glo "StoryError", .str "HANDED" "handed", .str "LETTERS" "abcdefghijklmnopqrstuvwxyz", .int "LONGEST_NAME" 6, .int "MOST_FINE" 1000, .int "MOST_HOUSES" 8, .int "MOST_CALLS" 60, .int "MOST_DEPTH" 30, .glo "law"]
def hfa : List He.Fa := hfa0 ++ (hfa1 ++ (hfa2))
def hfn0 : List He5.DefA := [d_is_number, d_is_name, d_are_different, d_are_names, d_Rule_init, d_Rule_share, d_Rule_eq, d_are_rules, d_House_init, d_House_rules, d_House_calls, d_House_lost, d_House_fails, d_House_eq, d_are_named, d_need_houses, d_Net_init, d_Net_entries, d_Net_contains, d_Net_getitem, d_Net_eq, d_need_net, d_need_house, d_is_call, d_wrong_call, d_need_story, d_calls_in, d_call_text, d_story_text, d_read_head]
def hfn1 : List He5.DefA := [d_read_call, d_read_story, d_l_begun, d_l_mixed, d_l_take, d_l_pick, d_l_names, d_l_rule, d_l_model, d_l_rules_of, d_l_net, d_l_some_call, d_l_drawn_calls, d_l_story, d_l_call_text, d_l_is_right, d_l_steep, d_law]
def hfn : List He5.DefA := hfn0 ++ (hfn1)
def hex0 : List (PySem.W.Frag → Bool) := [fun K => propB K "Rule" "share", fun K => propB K "House" "rules", fun K => propB K "House" "calls", fun K => propB K "House" "lost", fun K => propB K "House" "fails", fun K => propB K "Net" "entries", fun K => decide (PySem.W.mroIn K (c_Rule K) (.type "object") = some true), fun K => He.eqO (PySem.W.findIn K (.ref (c_Rule K)) "__class__") (some (some (.builtin "object.__class__"))), fun K => decide (PySem.W.kitOne K (.ref (c_Rule K)) (.ref (c_Rule K)) = some true), fun K => He.eqO (PySem.W.findIn K (.ref (c_Rule K)) "__eq__") (some (some (.ref (a_Rule_eq K)))), fun K => PySem.W.isFn K (.ref (a_Rule_eq K)), fun K => PySem.W.fnIn K (a_Rule_eq K), fun K => He.eqO (PySem.W.findIn K (.ref (c_Rule K)) "__ne__") (some (some (.builtin "object.__ne__"))), fun K => decide (PySem.W.mroIn K (c_House K) (.type "object") = some true), fun K => He.eqO (PySem.W.findIn K (.ref (c_House K)) "__class__") (some (some (.builtin "object.__class__"))), fun K => decide (PySem.W.kitOne K (.ref (c_House K)) (.ref (c_House K)) = some true), fun K => He.eqO (PySem.W.findIn K (.ref (c_House K)) "__eq__") (some (some (.ref (a_House_eq K)))), fun K => PySem.W.isFn K (.ref (a_House_eq K)), fun K => PySem.W.fnIn K (a_House_eq K), fun K => He.eqO (PySem.W.findIn K (.ref (c_House K)) "__ne__") (some (some (.builtin "object.__ne__"))), fun K => decide (PySem.W.mroIn K (c_Net K) (.type "object") = some true), fun K => He.eqO (PySem.W.findIn K (.ref (c_Net K)) "__class__") (some (some (.builtin "object.__class__"))), fun K => decide (PySem.W.kitOne K (.ref (c_Net K)) (.ref (c_Net K)) = some true), fun K => He.eqO (PySem.W.findIn K (.ref (c_Net K)) "__eq__") (some (some (.ref (a_Net_eq K)))), fun K => PySem.W.isFn K (.ref (a_Net_eq K)), fun K => PySem.W.fnIn K (a_Net_eq K), fun K => He.eqO (PySem.W.findIn K (.ref (c_Net K)) "__contains__") (some (some (.ref (a_Net_contains K)))), fun K => PySem.W.isFn K (.ref (a_Net_contains K)), fun K => PySem.W.fnIn K (a_Net_contains K), fun K => He.eqO (PySem.W.findIn K (.ref (c_Net K)) "__getitem__") (some (some (.ref (a_Net_getitem K))))]
def hex1 : List (PySem.W.Frag → Bool) := [fun K => PySem.W.isFn K (.ref (a_Net_getitem K)), fun K => PySem.W.fnIn K (a_Net_getitem K), fun K => He.eqO (PySem.W.findIn K (.ref (c_Net K)) "__ne__") (some (some (.builtin "object.__ne__"))), fun K => He.eqO (PySem.W.specialIn K (.builtin "object.__class__") "__get__") (some (some (.builtin "getset_descriptor.__get__"))), fun K => decide (PySem.W.takesIn K (.builtin "object.__class__") = some true)]
def hex : List (PySem.W.Frag → Bool) := hex0 ++ (hex1)
def htabs : List He.Tab := []
/-! ### the Hook -/
abbrev AlW : Type := Bool × List He5.FnW × List (Option (List (Option (Str × Int))))
def obsW (K : PySem.W.Frag) : AlW := ((hfa.all fun f => f.ok K) && ((hex.all fun f => f K) && hfn.all fun d => d.ok K), hfn.map fun d => He5.fnA K (d.at_ K), htabs.map fun t => He.dicW K (t.1 K))
def valW (w : World) : AlW := (true, hfn.map He5.DefA.val, htabs.map fun t => some (He.keysIn w.params t.2))
def SaysW (w : World) (K : PySem.W.Frag) : Prop := obsW K = valW w
/-- the tables of the defs that make lambdas -/
def lamW (g : Addr → Option Obj) (K : PySem.W.Frag) : Bool := hlam.all fun p => PySem.W.codeHdIn K (He.cT K p).1 (He.cT K p).2 && ((K.lookup (He.cT K p).2).isNone && (match g (He.cT K p).2 with
  | some o => He.emptyTab o
  | none => false))
theorem lamW_ok {h : Heap} {K : PySem.W.Frag} (X : K.In h) (e : lamW h.get? K = true) : TabsHere K h (hlam.map (He.cT K)) := by
  have one : ∀ p ∈ hlam, PySem.W.codeHdIn K (He.cT K p).1 (He.cT K p).2 = true ∧ K.lookup (He.cT K p).2 = none ∧ h.get? (He.cT K p).2 = some tab0 := fun p hp => by
    obtain ⟨h1, h2⟩ := He.ba (List.all_eq_true.mp e p hp)
    obtain ⟨h3, h4⟩ := He.ba h2
    refine ⟨h1, Option.isNone_iff_eq_none.mp h3, ?_⟩
    cases q : h.get? (He.cT K p).2 with
    | none => rw [q] at h4; cases h4
    | some o => rw [q] at h4; rw [He.emptyTab_eq h4]
  refine ⟨fun q hq => ?_, fun q hq => ?_, fun q hq => ?_⟩ <;> obtain ⟨p, hp, rfl⟩ := List.mem_map.mp hq
  · exact (one p hp).2.2
  · exact (one p hp).2.1
  · exact PySem.W.codeHd_of_K X (one p hp).1
abbrev AlL : Type := AlW × Bool
/-- what an object of the top names: a table's values, a function's code and defaults, a class's names, a property's getter -/
def refsW (o : Obj) : List Addr := match o.data with
  | .dict es _ => es.toList.flatMap fun e => He.refV e.val
  | .func fd => He.refV fd.code ++ He.refV fd.defaults
  | .cls cd => [cd.ns]
  | .fields vs => (match o.cls with
    | .type "property" => vs.toList.flatMap He.refV
    | _ => [])
  | .seq vs _ => (match o.cls with
    | .type "tuple" => vs.toList.flatMap He.refV
    | _ => [])
  | _ => []
def layW (g : Addr → Option Obj) (as : List Addr) : List Addr := as.flatMap fun a => match g a with
  | some o => refsW o
  | none => []
/-- the addresses as they are, for the kernel -/
def frA {α : Type} : List Nat → (List Nat → α) → α
  | [], k => k []
  | a :: r, k => HandSHeadRun.frNat a fun a => frA r fun r => k (a :: r)
theorem frA_eq {α : Type} : ∀ (l : List Nat) (k : List Nat → α), frA l k = k l
  | [], _ => rfl
  | a :: r, k => by
    show HandSHeadRun.frNat a (fun a => frA r fun r => k (a :: r)) = _
    rw [HandSHeadRun.frNat_eq, frA_eq r]
def asW (g : Addr → Option Obj) : Nat → List Addr → List Addr → List Addr
  | 0, as, l => as ++ l
  | n + 1, as, l => asW g n (as ++ l) (layW g l)
def asWf {α : Type} (g : Addr → Option Obj) : Nat → List Addr → List Addr → (List Addr → α) → α
  | 0, as, l, k => frA (as ++ l) k
  | n + 1, as, l, k => frA (layW g l) fun l' => asWf g n (as ++ l) l' k
theorem asWf_eq {α : Type} {g : Addr → Option Obj} : ∀ (n : Nat) (as l : List Addr) (k : List Addr → α), asWf g n as l k = k (asW g n as l)
  | 0, _, _, k => frA_eq _ k
  | n + 1, as, l, k => by
    show frA (layW g l) (fun l' => asWf g n (as ++ l) l' k) = _
    rw [frA_eq, asWf_eq n]
    rfl
def obsWG (n : Nat) (g : Addr → Option Obj) : AlL := asWf g n [] [mainGlobals] fun as => (obsW (He.frG g as), lamW g (He.frG g as))
def hookW (n : Nat) : PySem.W.Hook where
  α := AlL
  obs := fun s => obsWG n s.heap.get?
  val := fun w => (valW w, true)
  says := fun w h => ∃ K : PySem.W.Frag, K.In h ∧ SaysW w K ∧ TabsHere K h (hlam.map (He.cT K))
  of := fun w s e => by
    have e2 := (asWf_eq (α := AlL) _ _ _ _).symm.trans e
    exact ⟨_, He.frG_in, congrArg (fun z : AlL => z.1) e2, lamW_ok He.frG_in (congrArg (fun z : AlL => z.2) e2)⟩
  keeps := fun _ _ _ ⟨K, hK, c, t⟩ k => ⟨K, PySem.W.Frag.In.keeps hK k, c, ⟨fun p hp => k _ _ (t.at_ p hp), t.out, fun p hp => (t.code p hp).keeps k⟩⟩
theorem obsWG_eq {n : Nat} {g : Addr → Option Obj} {s : Shared} (h : ∀ a, g a = s.heap.get? a) : obsWG n g = (hookW n).obs s := by
  have e : g = s.heap.get? := funext h
  rw [e] <;> rfl
section
variable {K : PySem.W.Frag} {w : World}
theorem SaysW.one (c : SaysW w K) : (hfa.all fun f => f.ok K) = true ∧ (hex.all fun f => f K) = true ∧ (hfn.all fun d => d.ok K) = true := by
  have c1 : ((hfa.all fun f => f.ok K) && ((hex.all fun f => f K) && hfn.all fun d => d.ok K)) = true := congrArg (fun z : AlW => z.1) c
  obtain ⟨h1, h⟩ := He.ba c1
  obtain ⟨h2, h3⟩ := He.ba h
  exact ⟨h1, h2, h3⟩
theorem SaysW.fact (c : SaysW w K) (i : Nat) {f : He.Fa} (h : hfa[i]? = some f) : f.ok K = true := List.all_eq_true.mp c.one.1 f (List.mem_of_getElem? h)
theorem SaysW.ex_ (c : SaysW w K) (i : Nat) {f : PySem.W.Frag → Bool} (h : hex[i]? = some f) : f K = true := List.all_eq_true.mp c.one.2.1 f (List.mem_of_getElem? h)
theorem SaysW.def_ (c : SaysW w K) (i : Nat) {d : He5.DefA} (h : hfn[i]? = some d) : ∃ fd, FunD K d.name d.qual d.params d.body d.scope (d.dvs K) (d.kws K) (d.at_ K) fd := by
  have e : hfn.map (fun d => He5.fnA K (d.at_ K)) = hfn.map He5.DefA.val := congrArg (fun z : AlW => z.2.1) c
  have e2 : (hfn.map fun d => He5.fnA K (d.at_ K))[i]? = (hfn.map He5.DefA.val)[i]? := by rw [e]
  rw [List.getElem?_map, List.getElem?_map, h] at e2
  exact He5.DefA.funD (Option.some.inj e2) (List.all_eq_true.mp c.one.2.2 d (List.mem_of_getElem? h))
theorem SaysW.tab (c : SaysW w K) (i : Nat) {t : He.Tab} (h : htabs[i]? = some t) : ∃ es n, KDict K w (t.1 K) es n := by
  have e : htabs.map (fun t => He.dicW K (t.1 K)) = htabs.map fun t => some (He.keysIn w.params t.2) := congrArg (fun z : AlW => z.2.2) c
  have e2 : (htabs.map fun t => He.dicW K (t.1 K))[i]? = (htabs.map fun t => some (He.keysIn w.params t.2))[i]? := by rw [e]
  rw [List.getElem?_map, List.getElem?_map, h] at e2
  exact He.dicW_ok (Option.some.inj e2)
end
theorem fx_of {h : Heap} {mg : Str → Option Value} {w : World} {K : PySem.W.Frag} (X : K.In h) (G : h.Ns mainGlobals mg) (c : SaysW w K) : Fx K mg w :=
  { n_isinstance := He.free_ok X G (c.fact 0 rfl)
    n_int := He.free_ok X G (c.fact 1 rfl)
    n_bool := He.free_ok X G (c.fact 2 rfl)
    n_str := He.free_ok X G (c.fact 3 rfl)
    n_list := He.free_ok X G (c.fact 4 rfl)
    n_tuple := He.free_ok X G (c.fact 5 rfl)
    n_dict := He.free_ok X G (c.fact 6 rfl)
    n_len := He.free_ok X G (c.fact 7 rfl)
    n_all := He.free_ok X G (c.fact 8 rfl)
    n_any := He.free_ok X G (c.fact 9 rfl)
    n_sorted := He.free_ok X G (c.fact 10 rfl)
    n_range := He.free_ok X G (c.fact 11 rfl)
    n_min := He.free_ok X G (c.fact 12 rfl)
    n_abs := He.free_ok X G (c.fact 13 rfl)
    n_enumerate := He.free_ok X G (c.fact 14 rfl)
    n_repr := He.free_ok X G (c.fact 15 rfl)
    m_is_number := He.glo_ok X G (c.fact 16 rfl)
    F_is_number := c.def_ 0 (d := d_is_number) rfl
    m_is_name := He.glo_ok X G (c.fact 17 rfl)
    F_is_name := c.def_ 1 (d := d_is_name) rfl
    m_are_different := He.glo_ok X G (c.fact 18 rfl)
    F_are_different := c.def_ 2 (d := d_are_different) rfl
    m_are_names := He.glo_ok X G (c.fact 19 rfl)
    F_are_names := c.def_ 3 (d := d_are_names) rfl
    F_Rule_init := c.def_ 4 (d := d_Rule_init) rfl
    p_Rule_share := propB_ok (c.ex_ 0 rfl)
    F_Rule_share := c.def_ 5 (d := d_Rule_share) rfl
    F_Rule_eq := c.def_ 6 (d := d_Rule_eq) rfl
    m_are_rules := He.glo_ok X G (c.fact 20 rfl)
    F_are_rules := c.def_ 7 (d := d_are_rules) rfl
    F_House_init := c.def_ 8 (d := d_House_init) rfl
    p_House_rules := propB_ok (c.ex_ 1 rfl)
    F_House_rules := c.def_ 9 (d := d_House_rules) rfl
    p_House_calls := propB_ok (c.ex_ 2 rfl)
    F_House_calls := c.def_ 10 (d := d_House_calls) rfl
    p_House_lost := propB_ok (c.ex_ 3 rfl)
    F_House_lost := c.def_ 11 (d := d_House_lost) rfl
    p_House_fails := propB_ok (c.ex_ 4 rfl)
    F_House_fails := c.def_ 12 (d := d_House_fails) rfl
    F_House_eq := c.def_ 13 (d := d_House_eq) rfl
    m_are_named := He.glo_ok X G (c.fact 21 rfl)
    F_are_named := c.def_ 14 (d := d_are_named) rfl
    m_need_houses := He.glo_ok X G (c.fact 22 rfl)
    F_need_houses := c.def_ 15 (d := d_need_houses) rfl
    F_Net_init := c.def_ 16 (d := d_Net_init) rfl
    p_Net_entries := propB_ok (c.ex_ 5 rfl)
    F_Net_entries := c.def_ 17 (d := d_Net_entries) rfl
    F_Net_contains := c.def_ 18 (d := d_Net_contains) rfl
    F_Net_getitem := c.def_ 19 (d := d_Net_getitem) rfl
    F_Net_eq := c.def_ 20 (d := d_Net_eq) rfl
    m_need_net := He.glo_ok X G (c.fact 23 rfl)
    F_need_net := c.def_ 21 (d := d_need_net) rfl
    m_need_house := He.glo_ok X G (c.fact 24 rfl)
    F_need_house := c.def_ 22 (d := d_need_house) rfl
    m_is_call := He.glo_ok X G (c.fact 25 rfl)
    F_is_call := c.def_ 23 (d := d_is_call) rfl
    m_wrong_call := He.glo_ok X G (c.fact 26 rfl)
    F_wrong_call := c.def_ 24 (d := d_wrong_call) rfl
    m_need_story := He.glo_ok X G (c.fact 27 rfl)
    F_need_story := c.def_ 25 (d := d_need_story) rfl
    m_calls_in := He.glo_ok X G (c.fact 28 rfl)
    F_calls_in := c.def_ 26 (d := d_calls_in) rfl
    m_call_text := He.glo_ok X G (c.fact 29 rfl)
    F_call_text := c.def_ 27 (d := d_call_text) rfl
    m_story_text := He.glo_ok X G (c.fact 30 rfl)
    F_story_text := c.def_ 28 (d := d_story_text) rfl
    m_read_head := He.glo_ok X G (c.fact 31 rfl)
    F_read_head := c.def_ 29 (d := d_read_head) rfl
    m_read_call := He.glo_ok X G (c.fact 32 rfl)
    F_read_call := c.def_ 30 (d := d_read_call) rfl
    m_read_story := He.glo_ok X G (c.fact 33 rfl)
    F_read_story := c.def_ 31 (d := d_read_story) rfl
    m_l_begun := He.glo_ok X G (c.fact 34 rfl)
    F_l_begun := c.def_ 32 (d := d_l_begun) rfl
    m_l_mixed := He.glo_ok X G (c.fact 35 rfl)
    F_l_mixed := c.def_ 33 (d := d_l_mixed) rfl
    m_l_take := He.glo_ok X G (c.fact 36 rfl)
    F_l_take := c.def_ 34 (d := d_l_take) rfl
    m_l_pick := He.glo_ok X G (c.fact 37 rfl)
    F_l_pick := c.def_ 35 (d := d_l_pick) rfl
    m_l_names := He.glo_ok X G (c.fact 38 rfl)
    F_l_names := c.def_ 36 (d := d_l_names) rfl
    m_l_rule := He.glo_ok X G (c.fact 39 rfl)
    F_l_rule := c.def_ 37 (d := d_l_rule) rfl
    m_l_model := He.glo_ok X G (c.fact 40 rfl)
    F_l_model := c.def_ 38 (d := d_l_model) rfl
    m_l_rules_of := He.glo_ok X G (c.fact 41 rfl)
    F_l_rules_of := c.def_ 39 (d := d_l_rules_of) rfl
    m_l_net := He.glo_ok X G (c.fact 42 rfl)
    F_l_net := c.def_ 40 (d := d_l_net) rfl
    m_l_some_call := He.glo_ok X G (c.fact 43 rfl)
    F_l_some_call := c.def_ 41 (d := d_l_some_call) rfl
    m_l_drawn_calls := He.glo_ok X G (c.fact 44 rfl)
    F_l_drawn_calls := c.def_ 42 (d := d_l_drawn_calls) rfl
    m_l_story := He.glo_ok X G (c.fact 45 rfl)
    F_l_story := c.def_ 43 (d := d_l_story) rfl
    m_l_call_text := He.glo_ok X G (c.fact 46 rfl)
    F_l_call_text := c.def_ 44 (d := d_l_call_text) rfl
    m_l_is_right := He.glo_ok X G (c.fact 47 rfl)
    F_l_is_right := c.def_ 45 (d := d_l_is_right) rfl
    m_l_steep := He.glo_ok X G (c.fact 48 rfl)
    F_l_steep := c.def_ 46 (d := d_l_steep) rfl
    F_law := c.def_ 47 (d := d_law) rfl
    m_Rule := He.glo_ok X G (c.fact 49 rfl)
    cl_Rule := He.cls_ok (c.fact 50 rfl)
    mk_Rule := He.mkr_ok (c.fact 51 rfl)
    na_Rule_r_parts := He.noat_ok (c.fact 52 rfl)
    mro_Rule := of_decide_eq_true (c.ex_ 6 rfl)
    cc_Rule := He.eqO_ok (c.ex_ 7 rfl)
    kit_Rule := of_decide_eq_true (c.ex_ 8 rfl)
    sp_Rule_eq := He.eqO_ok (c.ex_ 9 rfl)
    fn_Rule_eq := c.ex_ 10 rfl
    fi_Rule_eq := c.ex_ 11 rfl
    ne_Rule := He.eqO_ok (c.ex_ 12 rfl)
    m_House := He.glo_ok X G (c.fact 53 rfl)
    cl_House := He.cls_ok (c.fact 54 rfl)
    mk_House := He.mkr_ok (c.fact 55 rfl)
    na_House_h_rules := He.noat_ok (c.fact 56 rfl)
    na_House_h_calls := He.noat_ok (c.fact 57 rfl)
    na_House_h_lost := He.noat_ok (c.fact 58 rfl)
    na_House_h_fails := He.noat_ok (c.fact 59 rfl)
    mro_House := of_decide_eq_true (c.ex_ 13 rfl)
    cc_House := He.eqO_ok (c.ex_ 14 rfl)
    kit_House := of_decide_eq_true (c.ex_ 15 rfl)
    sp_House_eq := He.eqO_ok (c.ex_ 16 rfl)
    fn_House_eq := c.ex_ 17 rfl
    fi_House_eq := c.ex_ 18 rfl
    ne_House := He.eqO_ok (c.ex_ 19 rfl)
    m_Net := He.glo_ok X G (c.fact 60 rfl)
    cl_Net := He.cls_ok (c.fact 61 rfl)
    mk_Net := He.mkr_ok (c.fact 62 rfl)
    na_Net_n_fine := He.noat_ok (c.fact 63 rfl)
    na_Net_n_houses := He.noat_ok (c.fact 64 rfl)
    na_Net_n_entries := He.noat_ok (c.fact 65 rfl)
    mro_Net := of_decide_eq_true (c.ex_ 20 rfl)
    cc_Net := He.eqO_ok (c.ex_ 21 rfl)
    kit_Net := of_decide_eq_true (c.ex_ 22 rfl)
    sp_Net_eq := He.eqO_ok (c.ex_ 23 rfl)
    fn_Net_eq := c.ex_ 24 rfl
    fi_Net_eq := c.ex_ 25 rfl
    sp_Net_contains := He.eqO_ok (c.ex_ 26 rfl)
    fn_Net_contains := c.ex_ 27 rfl
    fi_Net_contains := c.ex_ 28 rfl
    sp_Net_getitem := He.eqO_ok (c.ex_ 29 rfl)
    fn_Net_getitem := c.ex_ 30 rfl
    fi_Net_getitem := c.ex_ 31 rfl
    ne_Net := He.eqO_ok (c.ex_ 32 rfl)
    m_StoryError := He.glo_ok X G (c.fact 66 rfl)
    cget := He.eqO_ok (c.ex_ 33 rfl)
    ctak := of_decide_eq_true (c.ex_ 34 rfl)
    z_HANDED := He.str_ok X G (c.fact 67 rfl)
    z_LETTERS := He.str_ok X G (c.fact 68 rfl)
    i_LONGEST_NAME := He.int_ok X G (c.fact 69 rfl)
    i_MOST_FINE := He.int_ok X G (c.fact 70 rfl)
    i_MOST_HOUSES := He.int_ok X G (c.fact 71 rfl)
    i_MOST_CALLS := He.int_ok X G (c.fact 72 rfl)
    i_MOST_DEPTH := He.int_ok X G (c.fact 73 rfl) }
theorem m_law {h : Heap} {mg : Str → Option Value} {w : World} {K : PySem.W.Frag} (X : K.In h) (G : h.Ns mainGlobals mg) (c : SaysW w K) : mg "law" = some (.ref (a_law K)) := He.glo_ok X G (c.fact 74 rfl)
/-! ### the run -/
def loose0 : List Str := ["_wall", "__name__", "StoryError", "BadRule", "BadHouse", "BadNet", "NoHouse", "BadStory", "BadText", "HANDED", "LETTERS", "LONGEST_NAME", "MOST_FINE", "MOST_HOUSES", "is_number", "is_name", "are_different", "are_names", "Rule", "are_rules", "House", "are_named", "need_houses", "Net", "need_net", "need_house", "is_call", "wrong_call", "need_story", "calls_in"]
def loose1 : List Str := ["MOST_CALLS", "MOST_DEPTH", "call_text", "story_text", "read_head", "read_call", "read_story", "_law_begun", "_law_mixed", "_law_take", "_law_pick", "_law_names", "_law_rule", "_law_model", "_law_rules_of", "_law_net", "_law_some_call", "_law_drawn_calls", "_law_story", "_law_call_text", "_law_is_right", "_law_steep"]
def loose : List Str := loose0 ++ (loose1)
abbrev rowR : PySem.W.OpenRow := PySem.W.OpenLaw.row PySem.Challenge.rw_wholestory_k85_texts_of_stories
abbrev rowQ : Program := PySem.W.view rowR.prog [56]
abbrev hk : PySem.W.Hook := hookW 5
def ob (s : PySem.W.SharedT) : AlL := obsWG 5 (HandSHeadRun.getT s)
theorem ob_eq (s : PySem.W.SharedT) : ob s = hk.obs s.abs := obsWG_eq (HandSHeadRun.getT_eq s)
theorem run (w : World) : HandSHeadRun.RunEq rowR rowQ hk ob 30000 loose w := by
  refine PySem.W.byRow2 "special-get-raises" (P := fun w => HandSHeadRun.RunEq rowR rowQ hk ob 30000 loose w) (fun w => ?_) (fun w => ?_) w
  · intro os
    kernel_rfl
  · intro os
    kernel_rfl
end Ws

set_option Elab.async false
set_option linter.all false
open PySem PySem.W PySem.Calls PyProof.Rows
set_option maxRecDepth 100000 in
set_option maxHeartbeats 0 in
theorem PySem.Challenge.cw_wholestory_k85_texts_of_stories_holds : PySem.Challenge.rw_wholestory_k85_texts_of_stories.Holds := by
  w_on; o_law
  refine HandSHeadRun.head_any (r := OpenLaw.row PySem.Challenge.rw_wholestory_k85_texts_of_stories) (q := Ws.rowQ) (H := Ws.hk) (ob := Ws.ob) (M := 30000) (loose := Ws.loose) (d := HandSHeadRun.topDef (OpenLaw.row PySem.Challenge.rw_wholestory_k85_texts_of_stories).prog 56) (kwd := []) Ws.ob_eq
    (by kernel_rfl) (fun s => by kernel_rfl) Ws.run (by kernel_rfl) (by kernel_rfl) (by kernel_rfl) (by rfl) (by first | assumption | decide +kernel) (by decide +kernel) ⟨rfl, rfl, rfl, rfl, rfl, by decide +kernel⟩ ?hw ?hc
  case hw => w_witness2
  case hc =>
    refine Ws.walk_ofG (l := PySem.Challenge.rw_wholestory_k85_texts_of_stories) (n := 63) (k := 40) (CX := L2.CX0) rfl (by decide) (by kernel_rfl) ⟨rfl, by decide, by decide⟩ ?F (fun _ _ _ _ z => z)
    intro w mg fa h Y G hmg0
    obtain ⟨K, KX, c, tabs⟩ := Y
    have hmg : mg ("law" : PySem.Str) = some (.ref fa) := by
      have e : (HandSHeadRun.topDef (OpenLaw.row PySem.Challenge.rw_wholestory_k85_texts_of_stories).prog 56).name = ("law" : PySem.Str) := by kernel_rfl
      rw [← e]
      exact hmg0
    have x := Ws.fx_of KX G c
    have e := hmg.symm.trans (Ws.m_law KX G c)
    cases e
    exact ⟨K, Ws.sp_law K, KX, fun H a ns hl _ hS => ⟨a, ns, rfl, hS, hl, fun _ => rfl⟩, fun base _ _ => Ws.ok_law x⟩

