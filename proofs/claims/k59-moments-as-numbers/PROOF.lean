import PyProof.Rows.All
import Wide.All
import OpenK.AllK
import Wide.FinOn
import PyProof.EqAt
import PyProof.EqKinds
import PyProof.TupleCall
import HandS.Base
import HandS.Call
import HandS.List
import HandS.SlotsOwn
import HandS.IsInst
import HandS.Words
import HandS.ForMost
import HandS.Property
import HandS.Wide
import HandS.EndBits
import HandS.TupLe
import HandS.Evl
import HandS.NoneIn
import HandS.Codes
import PySem.Challenge.RW_agedfiles_k59_whole_moments_as_numbers
set_option Elab.async false
set_option linter.all false
set_option maxRecDepth 100000
set_option maxHeartbeats 4000000
namespace Ag
open PySem PySem.Spec PyProof.Rows L2

/-! ### what a caller needs of a def, a method, a class -/
section
variable (P : Program) (w : World) (K : PySem.W.Frag) (mg : Str → Option Value) (base : Heap)
/-- the def that the module's name x holds keeps the promise sp -/
def Fn (x : Str) (ps : List Str) (CX : CXT) (k : Nat) (sp : Sp) : Prop :=
  ∃ f fd, mg x = some (.ref f) ∧ PySem.W.keepIn K (.ref f) = true ∧ Binds K fd ps [] ∧ FnOk P w K mg base CX k f fd ps sp
/-- the method m of the class at C keeps the promise sp -/
def Mt (C : Addr) (m : Str) (ps : List Str) (CX : CXT) (k : Nat) (sp : Sp) : Prop :=
  ∃ f fd, Meth K C m f ∧ Binds K fd ps [] ∧ FnOk P w K mg base CX k f fd ps sp
/-- the class at C is made by its own __init__, which keeps the promise sp -/
def Nw (x : Str) (C : Addr) (ps : List Str) (CX : CXT) (k : Nat) (sp : Sp) : Prop :=
  ∃ f fd, mg x = some (.ref C) ∧ Mk K C f ∧ Binds K fd ps [] ∧ FnOk P w K mg base CX k f fd ps sp
end

section
variable {X : Cx} {CX : CXT} {k j : Nat} {C : Addr} {ps : List Str} {sp : Sp} {E : XK} {x m : Str} {p pos apos : Pos} {e o : Expr} {es : List Expr} {ta : TE} {t : TA}
theorem pe_fn (c : Fn X.prog X.w X.K X.mg X.base x ps CX k sp) (hr : Room j X.A) (hx : Passes CX X E) (ha : PA X (e :: es) t) (hk : k ≤ j := by decide) (hg : Gl X x := by rfl)
    (hdb : (x == ("__debug__" : Str)) = false := by decide) (he : starEach (e :: es) X.env = (false, eval e X.env) :: starEach es X.env := by rfl) (hpl : (backTo pos (starEach es X.env)).any (·.1) = false := by rfl) :
    PE X (.Call (.Name x p) (e :: es) [] pos) (tCall sp [] E t) := by
  obtain ⟨f, fd, g, kp, b, F⟩ := c
  exact pe_call F (hr.mono hk) hg g kp b .nil hx ha hdb he hpl
theorem pe_fn0 (c : Fn X.prog X.w X.K X.mg X.base x ps CX k sp) (hr : Room j X.A) (hx : Passes CX X E) (hk : k ≤ j := by decide) (hg : Gl X x := by rfl)
    (hdb : (x == ("__debug__" : Str)) = false := by decide) : PE X (.Call (.Name x p) [] [] pos) (tCall sp [] E tNil) := by
  obtain ⟨f, fd, g, kp, b, F⟩ := c
  exact pe_call0 F (hr.mono hk) hg g kp b .nil hx hdb
theorem pe_nw (c : Nw X.prog X.w X.K X.mg X.base x C ps CX k sp) (hr : Room j X.A) (hx : Passes CX X E) (ha : PA X (e :: es) t) (hk : k + 1 ≤ j := by decide) (hg : Gl X x := by rfl)
    (hdb : (x == ("__debug__" : Str)) = false := by decide) (he : starEach (e :: es) X.env = (false, eval e X.env) :: starEach es X.env := by rfl) (hpl : (backTo pos (starEach es X.env)).any (·.1) = false := by rfl) :
    PE X (.Call (.Name x p) (e :: es) [] pos) (tMake C sp [] E t) := by
  obtain ⟨f, fd, g, M, b, F⟩ := c
  exact pe_make M F (hr.mono hk) hg g b .nil hx ha hdb he hpl
theorem pe_mt {pl : Sem Bool} (c : Cls X.K C) (M : Mt X.prog X.w X.K X.mg X.base C m ps CX k sp) (hr : Room j X.A) (hx : Passes CX X E) (he : PE X o ta) (ha : PA X (e :: es) t) (hk : k ≤ j := by decide)
    (hst : starEach (e :: es) X.env = (false, eval e X.env) :: starEach es X.env := by rfl) (hpl : (backTo pos (starEach es X.env)).any (·.1) = false := by rfl)
    (ht : eval (.Call (.Attribute o m apos) (e :: es) [] pos) X.env = (do
      let ov ← eval o X.env
      standAt apos.atName
      let (f, first) ← holding [ov] (getMethod ov m pl)
      callWith pos f first (backTo pos (starEach (e :: es) X.env)) (backToKw pos (keywordEach [] X.env))) := by rfl) :
    PE X (.Call (.Attribute o m apos) (e :: es) [] pos) (tMeth C m sp [] E ta t) := by
  obtain ⟨f, fd, g, b, F⟩ := M
  exact pe_meth he c g F (hr.mono hk) b .nil hx ha hst hpl ht
theorem pe_mt0 {pl : Sem Bool} (c : Cls X.K C) (M : Mt X.prog X.w X.K X.mg X.base C m ps CX k sp) (hr : Room j X.A) (hx : Passes CX X E) (he : PE X o ta) (hk : k ≤ j := by decide)
    (ht : eval (.Call (.Attribute o m apos) [] [] pos) X.env = (do
      let ov ← eval o X.env
      standAt apos.atName
      let (f, first) ← holding [ov] (getMethod ov m pl)
      callWith pos f first (backTo pos (starEach [] X.env)) (backToKw pos (keywordEach [] X.env))) := by rfl) :
    PE X (.Call (.Attribute o m apos) [] [] pos) (tMeth C m sp [] E ta tNil) := by
  obtain ⟨f, fd, g, b, F⟩ := M
  exact pe_meth0 he c g F (hr.mono hk) b .nil hx ht
end

/-! ### operators of an own class -/
section
variable {prog : Program} {w : World} {A : Around} {E : Value → Shared → Prop} {s : Shared} {K : PySem.W.Frag} {x C L f : Addr} {h₀ : Heap} {m : Str → Option Value} {ox : Obj} {od : Option Obj}
open PySem.W PySem.Calls

/-- int op own: the own class's reflected method answers -/
theorem rbin_K {op : Operator} {i : Int} {ti : Tok} {id : String} {Q : Value → Shared → Prop} (X : K.In s.heap) (I : InstAt s.heap x ox C od) (hc : selfFirst K C = true)
    (hs : findIn K (.ref C) (PySem.dunder op.info.2) = some (some (.ref f'))) (hr : findIn K (.ref C) (dunderR op.info.2) = some (some (.ref f))) (hf : isFn K (.ref f) = true)
    (fillsT : fillsNumberSlot (.type "int") op.info.2 = pure true) (hsub : subIn K (.ref C) (.type "int") = some false)
    (slot : Slot "int" (PySem.dunder op.info.2) id)
    (declines : ∀ Q' : Value → Shared → Prop, Q' .notImplemented s → wpAny (model prog w) A (call (.builtin id) [.int i ti, .ref x]) Q' E s)
    (h : wpAny (model prog w) A (call (.ref f) [.ref x, .int i ti]) (PySem.W.CmpBack Q) E s) : wpAny (model prog w) A (binaryOp op (.int i ti) (.ref x)) Q E s := by
  obtain ⟨cd, rest, hcd, hm⟩ := ksp_first hc
  rcases hi : op.info with ⟨sym, nm'⟩
  rw [hi] at hs hr fillsT slot
  dsimp only at hs hr fillsT slot
  have one := ksp_try X I hr hf h
  have two : wpAny (model prog w) A (tryMethod (.int i ti) (PySem.dunder nm') (.ref x)) (fun r s' => r = none ∧ s' = s) E s :=
    wpAny_tryMethod_declines (typeIs_int s i ti) slot (declines _ ⟨rfl, rfl, rfl⟩)
  obtain ⟨hh, g, d, tt, os⟩ := s
  have L1 : Looks (model prog w) hh (typeOf (.ref x)) (.ref C) := I.type
  have L2 : Looks (model prog w) hh (typeOf (.int i ti)) (.type "int") := Looks.of_pure rfl
  have L3 : Looks (model prog w) hh (fillsNumberSlot (.ref C) nm') true := fills_K X hcd hm hs
  have L4 : Looks (model prog w) hh (fillsNumberSlot (.type "int") nm') true := Looks.of_pure fillsT
  have L5 : Looks (model prog w) hh (isSubtype (.ref C) (.type "int")) false := looks_subIn X hsub
  have L7 : Looks (model prog w) hh (numberSlotInPython (.type "int") nm') false := Looks.of_pure rfl
  have hne : (Value.type "int" == Value.ref C) = false := Bool.eq_false_iff.mpr fun q => by cases beq_iff_eq.mp q
  simp only [binaryOp, hi]
  refine wpAny_holding (wpAny_bind ?_)
  unfold binaryOp1
  refine wpAny_bind (L2.at (wpAny_bind (L1.at (wpAny_bind (L4.at ?_)))))
  simp only [hne, Bool.false_eq_true, if_false]
  ksp_lk
  refine wpAny_mono two (fun r s' hr' => ?_) fun _ _ e => e
  obtain ⟨rfl, rfl⟩ := hr'
  ksp_lk
  refine wpAny_mono one (fun r s' hr' => ?_) fun _ _ e => e
  obtain ⟨v, rfl, hq⟩ := hr'
  ksp_lk
  exact hq
end

section
variable {prog : Program} {w : World} {A : Around} {E : Value → Shared → Prop} {s : Shared} {K : PySem.W.Frag} {x C L f : Addr} {h₀ : Heap} {m : Str → Option Value} {ox : Obj} {od : Option Obj} {b : Value}
open PySem.W PySem.Calls
theorem int_add_declines {hh : Heap} {g : Array GenState} {d : Drawn} {tk : Nat} {os : OsState} {i : Int} {t : Tok} {c : Value} {dd : Option Addr} {sl : Array (Option Value)} {R : Fin → Shared → Prop}
    (hx : hh.get? x = some ⟨c, dd, .plain, sl⟩) (h : R (.done (.ret .notImplemented)) ⟨hh, g, d, tk, os⟩) :
    wpAny (model prog w) A (Builtin.«int.__add__» ⟨[.int i t, .ref x], []⟩) R E ⟨hh, g, d, tk, os⟩ := by
  wp_walk using AutoSeq1.wpAny_loadPart' hx
  exact h
end

section
variable {prog : Program} {w : World} {A : Around} {E : Value → Shared → Prop} {s : Shared} {K : PySem.W.Frag} {x C L f : Addr} {h₀ : Heap} {m : Str → Option Value} {ox : Obj} {od : Option Obj} {b tb : Value}
open PySem.W PySem.Calls
/-- own != b: the class has its own __eq__ and object's __ne__ -/
theorem ne_K {Q : Value → Shared → Prop} (hu : A.units + 1 < cLine) (X : K.In s.heap) (I : InstAt s.heap x ox C od) (hb : Looks (model prog w) s.heap (typeOf b) tb) (hn : notFirst K C tb = true)
    (hs : findIn K (.ref C) "__eq__" = some (some (.ref f))) (hf : isFn K (.ref f) = true) (hno : findIn K (.ref C) "__ne__" = some (some (.builtin "object.__ne__"))) (hob : subIn K (.ref C) (.type "object") = some true)
    (h : wpAny (model prog w) A.in1 (call (.ref f) [.ref x, b]) (fun v s' => ∃ r, v = .bool r ∧ Q (.bool (!r)) s') E s) : wpAny (model prog w) A (richCompare .NotEq (.ref x) b) Q E s := by
  have body : wpAny (model prog w) A.in1 (Builtin.«object.__ne__» ⟨[.ref x, b], []⟩) (fun fin s' => match fin with
      | .done f => (match f with | .ret v => ∃ r, v = .bool r ∧ Q (.bool r) s' | _ => False)
      | .again c' => False) E s := by
    unfold Builtin.«object.__ne__»
    repeat (first
      | with_reducible refine wpAny_cRoomFor (show A.in1.units < cLine from hu) ?_
      | (refine wpAny_bind (m := callSpecialIfBound? (.ref x) (Str.ofString "__eq__") [b])
          (PySem.W.ifBound_K X I hs hf (wpAny_mono h (fun r s' hr => by
            obtain ⟨r, rfl, hq⟩ := hr
            repeat (first | exact ⟨_, rfl, hq⟩ | exact wpAny_pure ⟨_, rfl, hq⟩ | exact wpAny_truthy_bool ⟨_, rfl, hq⟩ | (refine wpAny_bind (m := truthy (.bool _)) (wpAny_truthy_bool ?_)) | wp_step)) fun _ _ e => e)))
      | wp_step)
  have chk : ∀ Q' : Unit → Shared → Prop, Q' () s → wpAny (model prog w) A.in1 (checkBuiltinCall "object.__ne__" ⟨[.ref x, b], []⟩) Q' E s := fun Q' q => by
    have ha := PySem.F.cmpArgs_ne (.ref x) b
    simp only [checkBuiltinCall, PySem.F.cmpKind_ne, PySem.F.cmpSplit_ne]
    refine wpAny_bind ?_
    unfold isInstance
    refine wpAny_bind (I.type.here ((looks_subIn X hob).here ?_))
    exact wpAny_pure q
  have one : wpAny (model prog w) A (tryCompare (.ref x) "__ne__" b) (fun r s' => ∃ v, r = some v ∧ Q v s') E s := by
    unfold tryCompare
    refine wpAny_bind ?_
    simp only [callSpecialIfBound?, bindSpecialIfBound?]
    refine wpAny_holding (wpAny_bind (wpAny_bind (wpAny_bind (I.type.here ((looks_findIn X hno).here ?_)))))
    have bd : ∀ self, bindSpecial (.builtin "object.__ne__") self = pure (.builtin "object.__ne__", [self]) := PySem.F.cmp_object.ne.bind
    refine wpAny_bind (wpAny_askSetting (wpAny_ite ?_))
    have fin : ∀ R : Option Value → Shared → Prop, (∀ r s', Q (.bool r) s' → R (some (.bool r)) s') → wpAny (model prog w) A (call (.builtin "object.__ne__") ([.ref x] ++ [b]) >>= fun v => pure (some v)) R E s := by
      intro R hR
      refine wpAny_bind (wpAny_call (codeAny_call_builtin PySem.F.cmp_object.ne.plain PySem.F.cmpEntry_ne (chk _ (wpAny_mono body (fun fin s' q => ?_) fun _ _ e => e))))
      cases fin with
      | done f =>
        cases f with
        | ret v =>
          obtain ⟨r, rfl, q⟩ := q
          exact wpAny_pure (hR _ _ q)
        | next => exact q.elim
        | brk => exact q.elim
        | cont => exact q.elim
      | again c => exact q.elim
    split
    · exact wpAny_bind (by rw [bd]; exact wpAny_pure (wpAny_pure (fin _ fun r s' q => wpAny_pure ⟨_, rfl, q⟩)))
    · exact wpAny_tryCatch (wpAny_bind (by rw [bd]; exact wpAny_pure (wpAny_pure (fin _ fun r s' q => wpAny_pure ⟨_, rfl, q⟩))))
  unfold richCompare
  simp only [oneThing_ref]
  refine wpAny_holding (wpAny_bind (wpAny_cRoomFor (Nat.lt_of_succ_lt hu) ?_))
  refine wpAny_bind (I.type.here (wpAny_bind (hb.here ?_)))
  split
  · rename_i q
    have e : subIn K tb (.ref C) = some false := by
      rcases Bool.or_eq_true_iff.mp hn with e | e
      · rw [beq_iff_eq.mp e] at q; simp at q
      · exact beq_iff_eq.mp e
    refine wpAny_bind ((looks_subIn X e).here ?_)
    simp only [Bool.false_eq_true, if_false]
    refine wpAny_bind (wpAny_mono one (fun r s' z => ?_) fun _ _ e => e)
    obtain ⟨v, rfl, hq⟩ := z
    exact wpAny_pure hq
  · refine wpAny_bind (wpAny_pure ?_)
    simp only [Bool.false_eq_true, if_false]
    refine wpAny_bind (wpAny_mono one (fun r s' z => ?_) fun _ _ e => e)
    obtain ⟨v, rfl, hq⟩ := z
    exact wpAny_pure hq
end

section
variable {X : Cx} {CX : CXT} {pins : List (Addr × Obj)} {σ : L2.St} {H : Hp} {s : Shared} {C : Addr} {ps : List Str} {n j : Nat} {sp : Sp} {E : XK}
/-- a callee runs one call in -/
theorem run_in1 {f : Addr} {fd : FuncData} {Q : VK} {us : List Value} {vs : List V} (F : FnOk X.prog X.w X.K X.mg X.base CX n f fd ps sp) (hr : Room (n + 1) X.A) (hb : Binds X.K fd ps []) (hx : Passes CX X E)
    (I : Inv X pins σ H s) (r : Vals vs us) (h : sp vs H Q E) : wpAny (model X.prog X.w) X.A.in1 (call (.ref f) us) (EP X pins σ Q) X.xe s := by
  have hl : (us ++ []).length = ps.length := by rw [List.append_nil, ← r.length]; exact F.len _ _ _ _ h
  have hb' := hb s us I.kIn hl
  rw [List.append_nil] at hb'
  refine wpAny_call (codeAny_mono (F.run X.A.in1 X.stack s H ⟨us, []⟩ us vs Q E hr.in1 I.env0.in1 hb' r h) fun r s' hq => ?_)
  cases r with
  | error e => exact hx pins σ H s e s' I hq
  | ok fl =>
    cases fl with
    | ret u => exact I.after hq
    | next => exact False.elim hq
    | brk => exact False.elim hq
    | cont => exact False.elim hq
/-- x op y, x an instance of the class at C -/
def rOwnC (K : PySem.W.Frag) (C : Addr) (sp : Sp) (E : XK) : R2 := fun x y H Q => ∃ a dx fs t, x = .ref a ∧ H a = some (.ins C dx fs) ∧ TyX K H y t ∧ PySem.W.notFirst K C t = true ∧ sp [x, y] H Q E
/-- x != y by the own == -/
def rOwnNe (K : PySem.W.Frag) (C : Addr) (sp : Sp) (E : XK) : R2 := fun x y H Q => ∃ a dx fs t, x = .ref a ∧ H a = some (.ins C dx fs) ∧ TyX K H y t ∧ PySem.W.notFirst K C t = true ∧ sp [x, y] H (fun z H' => ∃ r, z = .bl r ∧ Q (.bl (!r)) H') E
theorem op_cmpC {op : CmpOp} (M : Mt X.prog X.w X.K X.mg X.base C (cmpInfo op).2.1 ps CX n sp) (hr : Room j X.A) (hx : Passes CX X E) (hop : ∀ a b, compareOp op a b = richCompare op a b := by intro _ _; rfl) (hk : n ≤ j := by decide) :
    OpR X (compareOp op) (rOwnC X.K C sp E) := by
  intro pins s σ H x y v u Q I rx ry h
  obtain ⟨g, fd, hm, hb, F⟩ := M
  obtain ⟨a, dx, fs, t, rfl, ha, ty, hn, q⟩ := h
  cases (show v = Value.ref a from rx)
  obtain ⟨mA, O, _⟩ := ins_get I.hok ha
  obtain ⟨od, J, _⟩ := O.look
  obtain ⟨m, hF⟩ := I.fr
  obtain ⟨P, Z, hP, _⟩ := kit_of I ry ty
  rw [hop]
  refine PySem.W.cmp_K (op := op) (tb := t) hr.units0 hF I.ok.mod.kin J (Z.ty _ _ I.kIn hP) hn hm.at_ hm.fn ?_
  refine wpAny_mono (run_fn (us := [.ref a, u]) (vs := [.ref a, y]) F (hr.mono hk) hb .nil hx I (.cons rfl (.cons ry .nil)) q) (fun w s' z => ?_) fun _ _ x => x
  obtain ⟨z', H', I', rz, qz⟩ := z
  exact SlX.cmpback rz ⟨z', H', I', rz, qz⟩
theorem op_neC (M : Mt X.prog X.w X.K X.mg X.base C "__eq__" ps CX n sp) (hno : PySem.W.findIn X.K (.ref C) "__ne__" = some (some (.builtin "object.__ne__"))) (hob : PySem.W.subIn X.K (.ref C) (.type "object") = some true)
    (hr : Room j X.A) (hx : Passes CX X E) (hk : n + 1 ≤ j := by decide) : OpR X (compareOp .NotEq) (rOwnNe X.K C sp E) := by
  intro pins s σ H x y v u Q I rx ry h
  obtain ⟨g, fd, hm, hb, F⟩ := M
  obtain ⟨a, dx, fs, t, rfl, ha, ty, hn, q⟩ := h
  cases (show v = Value.ref a from rx)
  obtain ⟨mA, O, _⟩ := ins_get I.hok ha
  obtain ⟨od, J, _⟩ := O.look
  obtain ⟨P, Z, hP, _⟩ := kit_of I ry ty
  show wpAny _ _ (richCompare .NotEq (.ref a) u) _ _ _
  refine ne_K (tb := t) (hu_of hr) I.kIn J (Z.ty _ _ I.kIn hP) hn hm.at_ hm.fn hno hob ?_
  refine wpAny_mono (run_in1 (us := [.ref a, u]) (vs := [.ref a, y]) F (hr.mono hk) hb hx I (.cons rfl (.cons ry .nil)) q) (fun w s' z => ?_) fun _ _ x => x
  obtain ⟨z', H', I', rz, r, rfl, qz⟩ := z
  cases (show w = Value.bool r from rz)
  exact ⟨r, rfl, .bl (!r), H', I', rfl, qz⟩
/-- x op y, both instances of the class at C -/
def rBinS (C : Addr) (sp : Sp) (E : XK) : R2 := fun x y H Q => ∃ a dx fs b dy gs, x = .ref a ∧ y = .ref b ∧ H a = some (.ins C dx fs) ∧ H b = some (.ins C dy gs) ∧ sp [x, y] H Q E
theorem op_binS {op : Operator} (M : Mt X.prog X.w X.K X.mg X.base C (PySem.dunder op.info.2) ps CX n sp) (hsf : PySem.W.selfFirst X.K C = true) (hr : Room j X.A) (hx : Passes CX X E) (hk : n ≤ j := by decide) :
    OpR X (binaryOp op) (rBinS C sp E) := by
  intro pins s σ H x y v u Q I rx ry h
  obtain ⟨g, fd, hm, hb, F⟩ := M
  obtain ⟨a, dx, fs, b, dy, gs, rfl, rfl, ha, hb', q⟩ := h
  cases (show v = Value.ref a from rx)
  cases (show u = Value.ref b from ry)
  obtain ⟨mA, O, _⟩ := ins_get I.hok ha
  obtain ⟨od, J, _⟩ := O.look
  obtain ⟨mB, O', _⟩ := ins_get I.hok hb'
  obtain ⟨od', J', _⟩ := O'.look
  obtain ⟨m, hF⟩ := I.fr
  refine PySem.W.binop_K (op := op) hF I.ok.mod.kin J J'.type hsf hm.at_ hm.fn ?_
  refine wpAny_mono (run_fn (us := [.ref a, .ref b]) (vs := [.ref a, .ref b]) F (hr.mono hk) hb .nil hx I (.cons rfl (.cons rfl .nil)) q) (fun w s' z => ?_) fun _ _ x => x
  obtain ⟨z', H', I', rz, qz⟩ := z
  exact SlX.cmpback rz ⟨z', H', I', rz, qz⟩
/-- x op i, x an instance of the class at C, i an int -/
def rBinI (C : Addr) (sp : Sp) (E : XK) : R2 := fun x y H Q => ∃ a dx fs i, x = .ref a ∧ y = .int i ∧ H a = some (.ins C dx fs) ∧ sp [x, y] H Q E
theorem op_binI {op : Operator} {fo ro : Option Value} {gr : Addr} (M : Mt X.prog X.w X.K X.mg X.base C (PySem.dunder op.info.2) ps CX n sp) (hsf : PySem.W.selfFirst X.K C = true)
    (hrr : PySem.W.findIn X.K (.ref C) (dunderR op.info.2) = some (some (.ref gr))) (h1 : PySem.W.findIn X.K (.type "int") (PySem.dunder op.info.2) = some fo) (h2 : PySem.W.findIn X.K (.type "int") (dunderR op.info.2) = some ro)
    (hsub : PySem.W.subIn X.K (.type "int") (.ref C) = some false) (hr : Room j X.A) (hx : Passes CX X E) (hk : n ≤ j := by decide) : OpR X (binaryOp op) (rBinI C sp E) := by
  intro pins s σ H x y v u Q I rx ry h
  obtain ⟨g, fd, hm, hb, F⟩ := M
  obtain ⟨a, dx, fs, i, rfl, rfl, ha, q⟩ := h
  cases (show v = Value.ref a from rx)
  obtain ⟨t, rfl⟩ := (show ∃ t, u = Value.int i t from ry)
  obtain ⟨mA, O, _⟩ := ins_get I.hok ha
  obtain ⟨od, J, _⟩ := O.look
  obtain ⟨m, hF⟩ := I.fr
  refine PySem.W.ksp_binT (op := op) (T := "int") hF I.ok.mod.kin J rfl hsf hm.at_ hm.fn hrr (.inr ⟨_, rfl⟩) h1 h2 hsub ?_
  refine wpAny_mono (run_fn (us := [.ref a, .int i t]) (vs := [.ref a, .int i]) F (hr.mono hk) hb .nil hx I (.cons rfl (.cons ⟨t, rfl⟩ .nil)) q) (fun w s' z => ?_) fun _ _ x => x
  obtain ⟨z', H', I', rz, qz⟩ := z
  exact SlX.cmpback rz ⟨z', H', I', rz, qz⟩
/-- i + x, x an instance of the class at C, i an int -/
def rBinR (C : Addr) (sp : Sp) (E : XK) : R2 := fun x y H Q => ∃ a dx fs i, x = .int i ∧ y = .ref a ∧ H a = some (.ins C dx fs) ∧ sp [y, x] H Q E
theorem op_radd {ga : Addr} (M : Mt X.prog X.w X.K X.mg X.base C "__radd__" ps CX n sp) (hsf : PySem.W.selfFirst X.K C = true)
    (ha' : PySem.W.findIn X.K (.ref C) "__add__" = some (some (.ref ga))) (hsub : PySem.W.subIn X.K (.ref C) (.type "int") = some false) (hr : Room j X.A) (hx : Passes CX X E) (hk : n ≤ j := by decide) : OpR X (binaryOp .Add) (rBinR C sp E) := by
  intro pins s σ H x y v u Q I rx ry h
  obtain ⟨g, fd, hm, hb, F⟩ := M
  obtain ⟨a, dx, fs, i, rfl, rfl, ha, q⟩ := h
  cases (show u = Value.ref a from ry)
  obtain ⟨t, rfl⟩ := (show ∃ t, v = Value.int i t from rx)
  obtain ⟨mA, O, _⟩ := ins_get I.hok ha
  have hobj := O.obj
  obtain ⟨od, J, _⟩ := O.look
  refine rbin_K (op := .Add) (f' := ga) I.kIn J hsf ha' hm.at_ hm.fn PySem.F.fills_int_add hsub PySem.F.slot_int_add (fun Q' q' => ?_) ?_
  · refine wpAny_call (codeAny_call_builtin PySem.F.slot_int_add.plain PySem.F.entry_int_add (PySem.F.slot_int_add.check _ _ _ _ _ _ _ _ (typeIs_int _ _ _) (PySem.F.args_int_add_2 _ _) ?_))
    obtain ⟨hh, gg, dd, tk, os⟩ := s
    exact int_add_declines hobj q'
  · refine wpAny_mono (run_fn (us := [.ref a, .int i t]) (vs := [.ref a, .int i]) F (hr.mono hk) hb .nil hx I (.cons rfl (.cons ⟨t, rfl⟩ .nil)) q) (fun w s' z => ?_) fun _ _ x => x
    obtain ⟨z', H', I', rz, qz⟩ := z
    exact SlX.cmpback rz ⟨z', H', I', rz, qz⟩
end
end Ag
namespace Ag
open PySem PySem.Spec PyProof.Rows L2

/-! ### a property -/
def Pr (P : Program) (w : World) (K : PySem.W.Frag) (mg : Str → Option Value) (base : Heap) (C : Addr) (f : Str) (ps : List Str) (CX : CXT) (k : Nat) (sp : Sp) : Prop :=
  ∃ p g fd, PropOf K C f p g ∧ Binds K fd ps [] ∧ FnOk P w K mg base CX k g fd ps sp
section
variable {X : Cx} {CX : CXT} {k j : Nat} {C : Addr} {ps : List Str} {sp : Sp} {E : XK} {f : Str} {pos : Pos} {e : Expr} {ta : TE}
theorem pe_pr (c : Cls X.K C) (M : Pr X.prog X.w X.K X.mg X.base C f ps CX k sp) (hr : Room j X.A) (hx : Passes CX X.nox E) (he : PE X e ta) (hk : k + 1 ≤ j := by decide)
    (hab : attributeBase e f X.env (eval e X.env) = eval e X.env := by rfl) : PE X (.Attribute e f pos) (tProp C sp [] E ta) := by
  obtain ⟨p, g, fd, h, b, F⟩ := M
  exact pe_prop he c h F (hr.mono hk) b .nil hx hab
end

theorem pe_ty {X : Cx} {x : Str} {pos : Pos} (T : String) (hg : Gl X x) (hm : X.mg x = none) (hv : bootBuiltins x = some (.type T)) (hn : x ≠ "__name__" := by decide) (hd : (x == ("__debug__" : Str)) = false := by decide) : PE X (.Name x pos) (tC (.ty T)) :=
  pe_bltn hg hm hv rfl hn hd
theorem pe_gi {X : Cx} {x : Str} {pos : Pos} {i : Int} {t : Tok} (hm : X.mg x = some (.int i t)) (hg : Gl X x := by rfl) (hd : (x == ("__debug__" : Str)) = false := by decide) : PE X (.Name x pos) (tC (.int i)) := pe_glob hg hm ⟨t, rfl⟩ hd
theorem pe_gc {X : Cx} {x : Str} {pos : Pos} {C : Addr} (hm : X.mg x = some (.ref C)) (hg : Gl X x := by rfl) (hd : (x == ("__debug__" : Str)) = false := by decide) : PE X (.Name x pos) (tC (.ref C)) := pe_glob hg hm rfl hd
theorem kit_self (K : PySem.W.Frag) (C : Addr) : PySem.W.kitOne K (.ref C) (.ref C) = some true := by
  unfold PySem.W.kitOne
  rw [if_pos (by simp)]
theorem kit_own {K : PySem.W.Frag} {t : Value} {C : Addr} {b : Bool} (hc : PySem.W.isClsIn K C = true) (ht : PySem.W.typeIn K (.ref C) = some (.type "type")) (hs : PySem.W.subIn K t (.ref C) = some b) (hne : (t == Value.ref C) = false) : PySem.W.kitOne K t (.ref C) = some b := by
  have h1 : (PySem.W.clsIn K C).isSome = true := hc
  unfold PySem.W.kitOne
  rw [if_neg (by rw [hne]; exact Bool.false_ne_true)]
  show (if ((PySem.W.clsIn K C).isSome && PySem.W.typeIn K (.ref C) == some (.type "type")) = true then PySem.W.subIn K t (.ref C) else none) = some b
  rw [h1, ht, if_pos (by rfl)]
  exact hs
/-! ### the builtins that are used -/
structure Bl (mg : Str → Option Value) : Prop where
  isinstance_ : mg "isinstance" = none
  int_ : mg "int" = none
  bool_ : mg "bool" = none
  len_ : mg "len" = none
  abs_ : mg "abs" = none
  max_ : mg "max" = none
  min_ : mg "min" = none
  range_ : mg "range" = none

/-! ### heaps -/
theorem same_upd {H : Hp} {p : Addr} {o : HO} (h : H p = none) : Same H (upd H p o) := fun b x e => by
  rw [upd_ne (ne_of_none e h)]
  exact e
/-- all but p is kept -/
def Kp (p : Addr) (H H' : Hp) : Prop := ∀ b o, b ≠ p → H b = some o → H' b = some o
theorem Kp.refl {p : Addr} {H : Hp} : Kp p H H := fun _ _ _ h => h
theorem Kp.trans {p : Addr} {H H1 H2 : Hp} (a : Kp p H H1) (b : Kp p H1 H2) : Kp p H H2 := fun c o n h => b c o n (a c o n h)
theorem Kp.same {p : Addr} {H H' : Hp} (a : Same H H') : Kp p H H' := fun c o _ h => a c o h
theorem lookup_one (f : Str) (v : V) : List.lookup f [(f, v)] = some v := by simp [List.lookup]

theorem lookup_no {f g : Str} {v : V} (h : ¬ g = f) : List.lookup g [(f, v)] = none := by
  have e : (g == f) = false := by simpa using h
  simp [List.lookup, e]
/-! ### ints -/
/-- what is_whole says no to -/
def NoInt (K : PySem.W.Frag) (H : Hp) (x : V) : Prop := (∃ b, x = .bl b) ∨ ∃ t, TyX K H x t ∧ PySem.W.kitOne K t (.type "int") = some false

def spWhole (K : PySem.W.Frag) : Sp := fun vs H Q _ => (∃ i, vs = [.int i] ∧ Q (.bl true) H) ∨ (∃ x, vs = [x] ∧ NoInt K H x ∧ Q (.bl false) H)
def spBetween (K : PySem.W.Frag) : Sp := fun vs H Q _ => (∃ i lo hi : Int, vs = [.int i, .int lo, .int hi] ∧ Q (.bl (decide (lo ≤ i ∧ i ≤ hi))) H) ∨ (∃ x y z, vs = [x, y, z] ∧ NoInt K H x ∧ Q (.bl false) H)

/-! ### the law's own draws -/
def Src (H : Hp) (p : Addr) : Prop := ∃ n s : Int, H p = some (.lst [.int n, .int s]) ∧ 0 ≤ n ∧ 0 ≤ s ∧ s < 2147483647
def spSource (K : PySem.W.Frag) : Sp := fun vs H Q _ => ∃ (a : Addr) (ns : List Int) (t : Int), vs = [.ref a, .int t] ∧ SqL K H a (ns.map V.int) ∧ ns.length ≤ 63 ∧ 0 ≤ t ∧ t ≤ 1000 ∧
  ∀ p H', H p = none → Same H H' → Src H' p → Q (.ref p) H'
def spDraw : Sp := fun vs H Q _ => ∃ (p : Addr) (m : Int), vs = [.ref p, .int m] ∧ Src H p ∧ 0 < m ∧ m ≤ 10 ^ 40 ∧ ∀ r H', 0 ≤ r → r < m → Src H' p → Kp p H H' → Q (.int r) H'
def spPick (K : PySem.W.Frag) : Sp := fun vs H Q _ => ∃ (p l : Addr) (xs : List V), vs = [.ref p, .ref l] ∧ Src H p ∧ SqL K H l xs ∧ l ≠ p ∧ xs ≠ [] ∧ xs.length ≤ 1000 ∧ ∀ (i : Nat) x H', xs[i]? = some x → Src H' p → Kp p H H' → Q x H'
theorem pow40 {m : Int} (h0 : 0 < m) (h : m ≤ 10 ^ 40) : CDivW n m := by
  refine wide_div (b := 140) h0 ?_ (by decide) (by decide)
  have e : (10 : Int) ^ 40 < 2 ^ 140 := by decide
  have : (m.natAbs : Int) < ((2 ^ 140 : Nat) : Int) := by
    rw [Int.natAbs_of_nonneg (by omega)]
    exact Int.lt_of_le_of_lt h (by exact_mod_cast e)
  exact_mod_cast this
end Ag
namespace Ag
open PySem PySem.Spec PyProof.Rows L2 Evl

/-! ### readings that leave what is known: te gives some v of which φ holds -/
def EvP (te : TE) (σ : L2.St) (H : Hp) (φ : V → Hp → Prop) : Prop := ∀ H1, Ex H H1 → ∀ Q : VK, (∀ v H2, Ex H1 H2 → φ v H2 → Q v H2) → te σ H1 Q
def EvPs (ta : TA) (σ : L2.St) (H : Hp) (φ : List V → Hp → Prop) : Prop := ∀ H1, Ex H H1 → ∀ Q : List V → Hp → Prop, (∀ vs H2, Ex H1 H2 → φ vs H2 → Q vs H2) → ta σ H1 Q
def MonP (φ : V → Hp → Prop) : Prop := ∀ v H H', Ex H H' → φ v H → φ v H'
section
variable {K : PySem.W.Frag} {σ : L2.St} {H H' : Hp} {ta tb te : TE} {tas : TA} {φ ψ : V → Hp → Prop} {v x y z : V} {r : R2}
theorem EvP.mono (e : Ex H H') (h : EvP te σ H φ) : EvP te σ H' φ := fun H1 a Q q => h H1 (e.trans a) Q q
theorem EvP.imp (h : EvP te σ H φ) (hi : ∀ v H2, Ex H H2 → φ v H2 → ψ v H2) : EvP te σ H ψ := fun H1 e Q q => h H1 e Q fun v H2 e2 p => q v H2 e2 (hi v H2 (e.trans e2) p)
theorem ev_p (h : Ev te σ H v) : EvP te σ H (fun u _ => u = v) := fun H1 e Q q => h H1 e Q fun H2 e2 => q v H2 e2 rfl
theorem evp_v (h : EvP te σ H (fun u _ => u = v)) : Ev te σ H v := fun H1 e Q q => h H1 e Q fun u H2 e2 p => by rw [p]; exact q H2 e2
theorem evp_var {i : Nat} (h : σ[i]? = some (some v)) (hm : ∀ H', Ex H H' → φ v H') : EvP (tVar i) σ H φ := fun H1 e _ q => ⟨v, h, q v H1 (Ex.refl H1) (hm H1 e)⟩
/-! ### data -/
mutual
theorem Dp.ex {K : PySem.W.Frag} {H H' : Hp} (e : Ex H H') : ∀ {v : V} {d : PyData}, Dp K H v d → Dp K H' v d
  | _, _, .non => .non
  | _, _, .bl b => .bl b
  | _, _, .int i => .int i
  | _, _, .str x => .str x
  | _, _, .lst h a => .lst (ex_l e h) (DpAll.ex e a)
  | _, _, .tup h a => .tup (ex_t e h) (DpAll.ex e a)
theorem DpAll.ex {K : PySem.W.Frag} {H H' : Hp} (e : Ex H H') : ∀ {vs : List V} {ds : List PyData}, DpAll K H vs ds → DpAll K H' vs ds
  | _, _, .nil => .nil
  | _, _, .cons a b => .cons (Dp.ex e a) (DpAll.ex e b)
end
theorem DpAll.len {K : PySem.W.Frag} {H : Hp} : ∀ {vs : List V} {ds : List PyData}, DpAll K H vs ds → vs.length = ds.length
  | _, _, .nil => rfl
  | _, _, .cons _ b => congrArg (· + 1) (DpAll.len b)
/-- te gives the data d -/
def EvD (K : PySem.W.Frag) (te : TE) (σ : L2.St) (H : Hp) (d : PyData) : Prop := EvP te σ H (fun v H2 => Dp K H2 v d)
def EvDs (K : PySem.W.Frag) (ta : TA) (σ : L2.St) (H : Hp) (ds : List PyData) : Prop := EvPs ta σ H (fun vs H2 => DpAll K H2 vs ds)
theorem ed_int {i : Int} (h : Ev te σ H (.int i)) : EvD K te σ H (.int i) := fun H1 e Q q => h H1 e Q fun H2 e2 => q _ H2 e2 (.int i)
theorem ed_bl {b : Bool} (h : Ev te σ H (.bl b)) : EvD K te σ H (.bool b) := fun H1 e Q q => h H1 e Q fun H2 e2 => q _ H2 e2 (.bl b)
theorem ed_str {s : Str} (h : Ev te σ H (.str s)) : EvD K te σ H (.str s) := fun H1 e Q q => h H1 e Q fun H2 e2 => q _ H2 e2 (.str s)
theorem ed_non (h : Ev te σ H .non) : EvD K te σ H .none := fun H1 e Q q => h H1 e Q fun H2 e2 => q _ H2 e2 .non
theorem ed_var {i : Nat} {d : PyData} (h : σ[i]? = some (some v)) (hd : Dp K H v d) : EvD K (tVar i) σ H d := evp_var h fun _ e => Dp.ex e hd
theorem eds_nil : EvDs K tNil σ H [] := fun H1 _ _ q => q [] H1 (Ex.refl H1) .nil
theorem eds_cons {d : PyData} {ds : List PyData} (h : EvD K te σ H d) (hs : EvDs K tas σ H ds) : EvDs K (tCons te tas) σ H (d :: ds) := fun H1 e _ q =>
  h H1 e _ fun v H2 e2 p => hs H2 (e.trans e2) _ fun vs H3 e3 ps => q _ H3 (e2.trans e3) (.cons (Dp.ex e3 p) ps)
theorem ed_lst {ds : List PyData} (h : EvDs K tas σ H ds) (hl : Nat.ble ds.length 100000 = true := by rfl) : EvD K (tLst tas) σ H (.list ds) := fun H1 e _ q =>
  h H1 e _ fun vs H2 e2 p => ⟨sz_of (by rw [DpAll.len p]; exact Nat.le_of_ble_eq_true hl), fun l hl' => q _ _ (e2.trans (Ex.new hl')) (.lst (sq_of upd_same) (DpAll.ex (Ex.new hl') p))⟩
theorem ed_tup {ds : List PyData} (h : EvDs K tas σ H ds) (hl : Nat.ble ds.length 100000 = true := by rfl) : EvD K (tTup tas) σ H (.tuple ds) := fun H1 e _ q =>
  h H1 e _ fun vs H2 e2 p => ⟨sz_of (by rw [DpAll.len p]; exact Nat.le_of_ble_eq_true hl), fun l hl' => q _ _ (e2.trans (Ex.new hl')) (.tup (st_of upd_same) (DpAll.ex (Ex.new hl') p))⟩
theorem ev_neD {d d' : PyData} (h1 : EvD K ta σ H d) (h2 : EvD K tb σ H d') (s1 : SeqAt.shaped d = true) (s2 : SeqAt.shaped d' = true) : Ev (tOp (rNeD K) ta tb) σ H (.bl (!PyData.eqv d d')) := fun H1 e Q q =>
  h1 H1 e _ fun v H2 e2 p => h2 H2 (e.trans e2) _ fun v' H3 e3 p' => ⟨d, d', (Dp.ex e3 p), p', s1, s2, q H3 (e2.trans e3)⟩
theorem ev_eqD {d d' : PyData} (h1 : EvD K ta σ H d) (h2 : EvD K tb σ H d') (s1 : SeqAt.shaped d = true) (s2 : SeqAt.shaped d' = true) : Ev (tOp (rEqD K) ta tb) σ H (.bl (PyData.eqv d d')) := fun H1 e Q q =>
  h1 H1 e _ fun v H2 e2 p => h2 H2 (e.trans e2) _ fun v' H3 e3 p' => ⟨d, d', (Dp.ex e3 p), p', s1, s2, q H3 (e2.trans e3)⟩
/-- two things with the same data -/
theorem ev_neS {d : PyData} (h1 : EvD K ta σ H d) (h2 : EvD K tb σ H d) (s1 : SeqAt.shaped d = true) : Ev (tOp (rNeD K) ta tb) σ H (.bl false) := by
  have h := ev_neD h1 h2 s1 s1
  rw [SeqAt.eqv_refl d (SeqAt.canLay_of_shaped s1)] at h
  exact h
/-! ### isinstance, int(..) -/
theorem tyx_ex {t : Value} (e : Ex H H') (h : TyX K H x t) : TyX K H' x t := by
  cases h with
  | base h =>
    refine .base ?_
    cases h with
    | non => exact .non
    | bl b => exact .bl b
    | int i => exact .int i
    | str s => exact .str s
    | flt s => exact .flt s
    | lst h => exact .lst (e _ _ h)
    | frz h => exact .frz (e _ _ h)
    | tup h => exact .tup (e _ _ h)
    | dK h => exact .dK (e _ _ h)
    | dT h => exact .dT (e _ _ h)
    | ins h a b c d f => exact .ins (e _ _ h) a b c d f
  | byt b => exact .byt b
  | set h => exact .set (e _ _ h)
  | kList h c => exact .kList h c
  | kTuple h c => exact .kTuple h c
  | kDict h c => exact .kDict h c
  | fTuple h => exact .fTuple (e _ _ h)
  | fDict h => exact .fDict (e _ _ h)
theorem ev_isi {u t : Value} {b : Bool} (ha : EvP ta σ H (fun x H2 => TyX K H2 x t)) (hb : Ev tb σ H y) (hc : ClsV y u) (hk : PySem.W.kitOne K t u = some b) : Ev (tCB (rIsi K) (tCons ta (tCons tb tNil))) σ H (.bl b) := fun H1 e Q q =>
  ha H1 e _ fun x H2 e2 p => hb H2 (e.trans e2) (fun z H3 => rIsi K [x, z] H3 Q) fun H3 e3 => ⟨x, y, t, u, b, rfl, hc, tyx_ex e3 p, hk, q H3 (e2.trans e3)⟩
end
/-! ### statements, one by one -/
section
variable {σ : L2.St} {H : Hp} {ta tb te : TE} {t : TT} {tu tw u : TS} {D : Ends} {φ ψ : V → Hp → Prop} {b : Bool}
theorem q_ifF (h : EvT t σ H b) (e : b = false) (q : ∀ H1, Ex H H1 → u D σ H1) : tSeq (tIfS t tu tNext) u D σ H := by
  subst e
  exact s_if (D := { D with nx := u D }) h (fun z => nomatch z) fun _ => q
theorem q_asgP {i : Nat} (h : EvP te σ H φ) (q : ∀ v H1, Ex H H1 → φ v H1 → u D (σ.set i (some v)) H1) : tSeq (tAsg te (gName i)) u D σ H := h H (Ex.refl H) _ fun v H1 e p => q v H1 e p
theorem q_asg {i : Nat} {v : V} (h : Ev te σ H v) (q : ∀ H1, Ex H H1 → u D (σ.set i (some v)) H1) : tSeq (tAsg te (gName i)) u D σ H := h H (Ex.refl H) _ fun H1 e => q H1 e
theorem q_parPP {i j : Nat} (h1 : EvP ta σ H φ) (h2 : ∀ H1, Ex H H1 → EvP tb σ H1 ψ) (mφ : MonP φ) (q : ∀ v w H1, Ex H H1 → φ v H1 → ψ w H1 → u D ((σ.set i (some v)).set j (some w)) H1) : tSeq (tPar i j (tCons ta (tCons tb tNil))) u D σ H :=
  h1 H (Ex.refl H) _ fun v H1 e1 p1 => h2 H1 e1 H1 (Ex.refl H1) _ fun w H2 e2 p2 => ⟨v, w, rfl, q v w H2 (e1.trans e2) (mφ v H1 H2 e2 p1) p2⟩
theorem q_ret {v : V} (h : Ev te σ H v) (q : ∀ H1, Ex H H1 → D.rt v H1) : tRet te D σ H := h H (Ex.refl H) _ q
end
end Ag
namespace Ag
open PySem PySem.Spec PyProof.Rows L2
def top (i : Nat) : Stmt := PySem.Challenge.pw_agedfiles_k59_whole_moments_as_numbers.main.body.getD i (.Pass ⟨0, 0, 0, 0⟩)
abbrev s_Moment___init__ : Stmt := inClass (top 10) 0
abbrev s_Moment_seconds : Stmt := inClass (top 10) 1
abbrev s_Moment_moved : Stmt := inClass (top 10) 2
abbrev s_Moment___add__ : Stmt := inClass (top 10) 3
abbrev s_Moment___radd__ : Stmt := inClass (top 10) 4
abbrev s_Moment___sub__ : Stmt := inClass (top 10) 5
abbrev s_Moment_behind : Stmt := inClass (top 10) 7
abbrev s_Moment___lt__ : Stmt := inClass (top 10) 8
abbrev s_Moment___le__ : Stmt := inClass (top 10) 9
abbrev s_Moment___gt__ : Stmt := inClass (top 10) 10
abbrev s_Moment___ge__ : Stmt := inClass (top 10) 11
abbrev s_Moment___eq__ : Stmt := inClass (top 10) 12
abbrev s_Moment_seen : Stmt := inClass (top 10) 13
abbrev s_Moment___rsub__ : Stmt := inClass (top 10) 6
abbrev s_is_whole : Stmt := top 5
abbrev s_is_between : Stmt := top 6
abbrev s__law_source : Stmt := top 12
abbrev s__law_draw : Stmt := top 13
abbrev s__law_rounds : Stmt := top 15
abbrev s_law : Stmt := top 16
theorem sc_Moment___init__ : FnScope ["self", "seconds"] ["self", "seconds"] (defScope s_Moment___init__) := ⟨rfl, rfl, rfl, by decide +kernel, rfl, by decide +kernel, by decide +kernel⟩
theorem sc_Moment_seconds : FnScope ["self"] ["self"] (defScope s_Moment_seconds) := ⟨rfl, rfl, rfl, by decide +kernel, rfl, by decide +kernel, by decide +kernel⟩
theorem sc_Moment_moved : FnScope ["self", "step"] ["self", "step"] (defScope s_Moment_moved) := ⟨rfl, rfl, rfl, by decide +kernel, rfl, by decide +kernel, by decide +kernel⟩
theorem sc_Moment___add__ : FnScope ["self", "step"] ["self", "step"] (defScope s_Moment___add__) := ⟨rfl, rfl, rfl, by decide +kernel, rfl, by decide +kernel, by decide +kernel⟩
theorem sc_Moment___radd__ : FnScope ["self", "step"] ["self", "step"] (defScope s_Moment___radd__) := ⟨rfl, rfl, rfl, by decide +kernel, rfl, by decide +kernel, by decide +kernel⟩
theorem sc_Moment___sub__ : FnScope ["self", "other"] ["self", "other"] (defScope s_Moment___sub__) := ⟨rfl, rfl, rfl, by decide +kernel, rfl, by decide +kernel, by decide +kernel⟩
theorem sc_Moment_behind : FnScope ["self", "other"] ["self", "other"] (defScope s_Moment_behind) := ⟨rfl, rfl, rfl, by decide +kernel, rfl, by decide +kernel, by decide +kernel⟩
theorem sc_Moment___lt__ : FnScope ["self", "other"] ["self", "other"] (defScope s_Moment___lt__) := ⟨rfl, rfl, rfl, by decide +kernel, rfl, by decide +kernel, by decide +kernel⟩
theorem sc_Moment___le__ : FnScope ["self", "other"] ["self", "other"] (defScope s_Moment___le__) := ⟨rfl, rfl, rfl, by decide +kernel, rfl, by decide +kernel, by decide +kernel⟩
theorem sc_Moment___gt__ : FnScope ["self", "other"] ["self", "other"] (defScope s_Moment___gt__) := ⟨rfl, rfl, rfl, by decide +kernel, rfl, by decide +kernel, by decide +kernel⟩
theorem sc_Moment___ge__ : FnScope ["self", "other"] ["self", "other"] (defScope s_Moment___ge__) := ⟨rfl, rfl, rfl, by decide +kernel, rfl, by decide +kernel, by decide +kernel⟩
theorem sc_Moment___eq__ : FnScope ["self", "other"] ["self", "other"] (defScope s_Moment___eq__) := ⟨rfl, rfl, rfl, by decide +kernel, rfl, by decide +kernel, by decide +kernel⟩
theorem sc_Moment_seen : FnScope ["self", "grain"] ["self", "grain"] (defScope s_Moment_seen) := ⟨rfl, rfl, rfl, by decide +kernel, rfl, by decide +kernel, by decide +kernel⟩
theorem sc_Moment___rsub__ : FnScope ["self", "other"] ["self", "other"] (defScope s_Moment___rsub__) := ⟨rfl, rfl, rfl, by decide +kernel, rfl, by decide +kernel, by decide +kernel⟩
theorem sc_is_whole : FnScope ["value"] ["value"] (defScope s_is_whole) := ⟨rfl, rfl, rfl, by decide +kernel, rfl, by decide +kernel, by decide +kernel⟩
theorem sc_is_between : FnScope ["value", "low", "high"] ["value", "low", "high"] (defScope s_is_between) := ⟨rfl, rfl, rfl, by decide +kernel, rfl, by decide +kernel, by decide +kernel⟩
theorem sc__law_source : FnScope ["script", "turn", "cell", "number", "seed"] ["script", "turn"] (defScope s__law_source) := ⟨rfl, rfl, rfl, by decide +kernel, rfl, by decide +kernel, by decide +kernel⟩
theorem sc__law_draw : FnScope ["source", "amount", "digit", "found"] ["source", "amount"] (defScope s__law_draw) := ⟨rfl, rfl, rfl, by decide +kernel, rfl, by decide +kernel, by decide +kernel⟩
theorem sc__law_rounds : FnScope ["source", "a", "b", "grain", "low", "step"] ["source", "a", "b"] (defScope s__law_rounds) := ⟨rfl, rfl, rfl, by decide +kernel, rfl, by decide +kernel, by decide +kernel⟩
theorem sc_law : FnScope ["script", "turn", "source", "far", "a", "b", "c", "step", "more", "k"] ["script"] (defScope s_law) := ⟨rfl, rfl, rfl, by decide +kernel, rfl, by decide +kernel, by decide +kernel⟩
section
variable {P : Program} {w : World} {K : PySem.W.Frag} {mg : Str → Option Value} {base : Heap}
theorem ok_is_whole {f : Addr} {fd : FuncData} (F : Fun K "is_whole" "is_whole" s_is_whole f fd) (B : Bl mg) : FnOk P w K mg base CX0 1 f fd ["value"] (spWhole K) := by
  refine F.ok sc_is_whole (fun vs H Q E h => ?_) (fun cdv A outer s H vs Q E hr h => ?_)
  · obtain ⟨i, rfl, _⟩ | ⟨x, rfl, _⟩ := h <;> rfl
  · refine ⟨_, (pss_one (ps_ret (pe_and (pe_callB call_isi (by rfl) B.isinstance_ (by decide +kernel) (pa_cons (pv 0) (pa_cons (pe_ty "int" (by rfl) B.int_ (by decide +kernel)) pa_nil))) (pe_one (pe_not (pe_callB call_isi (by rfl) B.isinstance_ (by decide +kernel) (pa_cons (pv 0) (pa_cons (pe_ty "bool" (by rfl) B.bool_ (by decide +kernel)) pa_nil)))))))), ?_⟩
    obtain ⟨i, rfl, q⟩ | ⟨x, rfl, n, q⟩ := h
    · exact ⟨_, rfl, _, _, _, _, true, rfl, .ty _, .base (.int i), kit_ty (by decide +kernel), true, rfl, iteT ⟨_, rfl, _, _, _, _, false, rfl, .ty _, .base (.int i), kit_ty (by decide +kernel), false, rfl, q⟩⟩
    · obtain ⟨b, rfl⟩ | ⟨t, ty, e⟩ := n
      · exact ⟨_, rfl, _, _, _, _, true, rfl, .ty _, .base (.bl b), kit_ty (by decide +kernel), true, rfl, iteT ⟨_, rfl, _, _, _, _, true, rfl, .ty _, .base (.bl b), kit_ty (by decide +kernel), true, rfl, q⟩⟩
      · exact ⟨_, rfl, _, _, _, _, false, rfl, .ty _, ty, e, false, rfl, iteF q⟩
theorem ok_is_between {f : Addr} {fd : FuncData} (F : Fun K "is_between" "is_between" s_is_between f fd) (B : Bl mg) (c_is_whole : Fn P w K mg base "is_whole" ["value"] CX0 1 (spWhole K)) : FnOk P w K mg base CX0 2 f fd ["value", "low", "high"] (spBetween K) := by
  refine F.ok sc_is_between (fun vs H Q E h => ?_) (fun cdv A outer s H vs Q E hr h => ?_)
  · obtain ⟨i, lo, hi, rfl, _⟩ | ⟨x, y, z, rfl, _⟩ := h <;> rfl
  · refine ⟨_, (pss_one (ps_ret (pe_and (pe_fn c_is_whole hr pass0 (pa_cons (pv 0) pa_nil)) (pe_one (pe_chain op_le op_le (pv 1) (pv 0) (pv 2)))))), ?_⟩
    obtain ⟨i, lo, hi, rfl, q⟩ | ⟨x, y, z, rfl, n, q⟩ := h
    · refine ⟨_, rfl, .inl ⟨i, rfl, true, rfl, iteT ⟨_, rfl, _, rfl, _, _, rfl, rfl, _, rfl, ?_⟩⟩⟩
      by_cases h1 : lo ≤ i
      · rw [decide_eq_true h1]
        refine iteT ⟨_, rfl, _, _, rfl, rfl, ?_⟩
        have e : decide (i ≤ hi) = decide (lo ≤ i ∧ i ≤ hi) := decide_eq_decide.mpr ⟨fun z => ⟨h1, z⟩, fun z => z.2⟩
        show Q (.bl (decide (i ≤ hi))) H
        rw [e]
        exact q
      · rw [decide_eq_false h1]
        refine iteF ?_
        rw [decide_eq_false (fun z => h1 z.1)] at q
        exact q
    · exact ⟨_, rfl, .inr ⟨x, rfl, n, false, rfl, iteF q⟩⟩
end
local macro_rules | `(tactic| walk_at "st") => `(tactic| first | refine ⟨_, rfl, ?_⟩ | refine ⟨_, _, rfl, rfl, ?_⟩)
section
variable {P : Program} {w : World} {K : PySem.W.Frag} {mg : Str → Option Value} {base : Heap}
theorem ok__law_source {f : Addr} {fd : FuncData} (F : Fun K "_law_source" "_law_source" s__law_source f fd) (B : Bl mg) : FnOk P w K mg base CX0 1 f fd ["script", "turn"] (spSource K) := by
  refine F.ok sc__law_source (fun vs H Q E h => ?_) (fun cdv A outer s H vs Q E hr h => ?_)
  · obtain ⟨a, ns, t, rfl, _⟩ := h
    rfl
  · obtain ⟨a, ns, t, rfl, hS, hl, h0, h1, q⟩ := h
    refine ⟨_, (pss_cons (ps_set (i := 2) sc__law_source.nd rfl (Or.inl rfl) pe_int)
      (Evl.pss_cut (ps_if (pt_cmpR op_lt (pv 1) (pe_callB call_len_seq (by rfl) B.len_ (by decide +kernel) (pa_cons (pv 0) pa_nil)) (nomark _)) (pss_one (ps_set (i := 2) sc__law_source.nd rfl (Or.inl rfl) (pe_ix ix_list (pv 0) (pv 1) (fun _ _ => rfl)))) pss_nil)
      (pss_cons (ps_set (i := 3) sc__law_source.nd rfl (Or.inl rfl) (pe_callB call_abs (by rfl) B.abs_ (by decide +kernel) (pa_cons (pv 2) pa_nil)))
      (pss_cons (ps_set (i := 4) sc__law_source.nd rfl (Or.inl rfl) (pe_op op_mod (pe_callTy call_int1 (by rfl) B.int_ (by decide +kernel) (pa_cons (pe_op op_add (pe_op op_add (pe_op op_mul (pe_op op_mod (pe_callTy call_int1 (by rfl) B.int_ (by decide +kernel) (pa_cons (pv 3) pa_nil)) pe_int) pe_int) (pe_op op_mul pe_int (pv 1))) pe_int) pa_nil)) pe_int))
      (Evl.pss_cut (ps_if (pt_cmpR op_lt (pv 3) (pe_op op_pow pe_int pe_int) (nomark _)) (pss_one (ps_set (i := 3) sc__law_source.nd rfl (Or.inl rfl) pe_int)) pss_nil)
      (pss_one (ps_ret (pe_lst (pa_cons (pv 3) (pa_cons (pv 4) pa_nil)))))))))), ?_⟩
    refine ⟨fun σ' H' => ∃ c : Int, σ' = [some (.ref a), some (.int t), some (.int c), none, none] ∧ H' = H, ?_, ?_⟩
    · refine ⟨_, rfl, _, rfl, a, _, rfl, .inl hS, _, _, rfl, rfl, _, rfl, ite2 (fun e => ?_) (fun e => ?_)⟩
      · have e1 : t < ((ns.map V.int).length : Int) := of_decide_eq_true e
        rw [List.length_map] at e1
        have e2 : t.toNat < ns.length := by omega
        refine ⟨_, rfl, _, rfl, a, _, t, .int ns[t.toNat], rfl, rfl, hS, at_of (j := t.toNat) (by omega) ?_, _, rfl, rfl⟩
        rw [List.getElem?_map, List.getElem?_eq_getElem e2]
        rfl
      · exact ⟨0, rfl, rfl⟩
    · rintro σ' H1 ⟨c, rfl, rfl⟩
      refine ⟨_, rfl, c, rfl, ?_⟩
      dsimp only
      generalize hn : (if c < 0 then -c else c) = n
      have n0 : 0 ≤ n := by rw [← hn]; split <;> omega
      refine ⟨_, rfl, .inl ⟨n, rfl, ?_⟩⟩
      refine ⟨_, _, rfl, rfl, (by decide : (0 : Int) < 2147483629), _, _, rfl, rfl, .inr ⟨by decide, by decide⟩, ?_⟩
      refine ⟨_, rfl, _, _, rfl, rfl, .inl ⟨by decide, by decide⟩, _, _, rfl, rfl, _, _, rfl, rfl, .inl ⟨_, rfl, _, _, rfl, rfl, (by decide : (0 : Int) < 2147483647), ?_⟩⟩
      dsimp only
      generalize hs : (n % 2147483629 * 16807 + 104729 * t + 11) % 2147483647 = sd
      have s0 : 0 ≤ sd := by rw [← hs]; exact Int.emod_nonneg _ (by decide)
      have s1 : sd < 2147483647 := by rw [← hs]; exact Int.emod_lt_of_pos _ (by decide)
      refine ⟨fun σ' H' => ∃ m : Int, 0 ≤ m ∧ σ' = [some (.ref a), some (.int t), some (.int c), some (.int m), some (.int sd)] ∧ H' = H1, ?_, ?_⟩
      · refine ⟨_, rfl, _, _, rfl, rfl, ⟨by decide, by decide, by decide⟩, _, _, rfl, rfl, _, rfl, ite2 (fun e => ?_) (fun e => ?_)⟩
        · exact ⟨0, Int.le_refl _, rfl, rfl⟩
        · exact ⟨n, n0, rfl, rfl⟩
      · rintro σ' H' ⟨m, m0, rfl, rfl⟩
        refine ⟨_, rfl, _, rfl, (by decide : 2 ≤ sizeLine), fun p np => ?_⟩
        exact q p _ np (same_upd np) ⟨m, sd, upd_same, m0, s0, s1⟩
theorem ok__law_draw {f : Addr} {fd : FuncData} (F : Fun K "_law_draw" "_law_draw" s__law_draw f fd) (B : Bl mg) : FnOk P w K mg base CX0 1 f fd ["source", "amount"] spDraw := by
  refine F.ok sc__law_draw (fun vs H Q E h => ?_) (fun cdv A outer s H vs Q E hr h => ?_)
  · obtain ⟨p, m, rfl, _⟩ := h
    rfl
  · obtain ⟨p, m, rfl, ⟨n, sd, hp, n0, s0, s1⟩, m0, m1, q⟩ := h
    refine ⟨_, (pss_cons (ps_if (pt_cmpR op_gt (pe_ix ix_list (pv 0) pe_int (fun _ _ => rfl)) pe_int (nomark _)) (pss_cons (ps_set (i := 2) sc__law_draw.nd rfl (Or.inl rfl) (pe_op op_mod (pe_callTy call_int1 (by rfl) B.int_ (by decide +kernel) (pa_cons (pe_ix ix_list (pv 0) pe_int (fun _ _ => rfl)) pa_nil)) (pv 1)))
      (pss_cons (ps_asg (pe_op op_fdivW (pe_ix ix_list (pv 0) pe_int (fun _ _ => rfl)) (pv 1)) (pg_sub (pv 0) pe_int set_list))
      (pss_one (ps_ret (pv 2))))) pss_nil)
      (pss_cons (ps_asg (pe_op op_mod (pe_callTy call_int1 (by rfl) B.int_ (by decide +kernel) (pa_cons (pe_op op_add (pe_op op_mul (pe_ix ix_list (pv 0) pe_int (fun _ _ => rfl)) pe_int) pe_int) pa_nil)) pe_int) (pg_sub (pv 0) pe_int set_list))
      (pss_cons (ps_set (i := 3) sc__law_draw.nd rfl (Or.inl rfl) (pe_op op_fdivW (pe_op op_mod (pe_callTy call_int1 (by rfl) B.int_ (by decide +kernel) (pa_cons (pe_op op_mul (pe_ix ix_list (pv 0) pe_int (fun _ _ => rfl)) (pe_ix ix_list (pv 0) pe_int (fun _ _ => rfl))) pa_nil)) pe_int) pe_int))
      (Evl.pss_cut (ps_if (pt_cmpR op_gt (pv 1) (pe_op op_pow pe_int pe_int) (nomark _)) (pss_cons (ps_asg (pe_op op_mod (pe_callTy call_int1 (by rfl) B.int_ (by decide +kernel) (pa_cons (pe_op op_add (pe_op op_mul (pe_ix ix_list (pv 0) pe_int (fun _ _ => rfl)) pe_int) pe_int) pa_nil)) pe_int) (pg_sub (pv 0) pe_int set_list))
      (pss_one (ps_set (i := 3) sc__law_draw.nd rfl (Or.inl rfl) (pe_op op_add (pe_op op_mul (pv 3) pe_int) (pe_op op_fdivW (pe_op op_mod (pe_callTy call_int1 (by rfl) B.int_ (by decide +kernel) (pa_cons (pe_op op_mul (pe_ix ix_list (pv 0) pe_int (fun _ _ => rfl)) (pe_ix ix_list (pv 0) pe_int (fun _ _ => rfl))) pa_nil)) pe_int) pe_int))))) pss_nil)
      (pss_one (ps_ret (pe_op op_mod (pe_callTy call_int1 (by rfl) B.int_ (by decide +kernel) (pa_cons (pv 3) pa_nil)) (pv 1)))))))), ?_⟩
    have kp : ∀ (H' : Hp) (o : HO), Kp p H H' → Kp p H (upd H' p o) := fun H' o k b u nb e => by
      rw [upd_ne nb]
      exact k b u nb e
    have i0 : ∀ x y : Int, atI [V.int x, V.int y] 0 = some (.int x) := fun x y => atI_nat (j := 0) rfl
    have i1 : ∀ x y : Int, atI [V.int x, V.int y] 1 = some (.int y) := fun x y => atI_nat (j := 1) rfl
    refine ⟨_, rfl, p, _, 0, _, rfl, rfl, SqL.of hp, i0 _ _, _, _, rfl, rfl, _, rfl, ite2 (fun e => ?_) (fun e => ?_)⟩
    · refine ⟨_, rfl, p, _, 0, _, rfl, rfl, SqL.of hp, i0 _ _, .inl ⟨n, rfl, _, rfl, _, _, rfl, rfl, m0, ?_⟩⟩
      refine ⟨_, rfl, p, _, 0, _, rfl, rfl, SqL.of hp, i0 _ _, _, rfl, _, _, rfl, rfl, pow40 m0 m1, _, rfl, p, _, 0, 0, rfl, rfl, hp, rfl, ?_⟩
      refine ⟨_, rfl, q _ _ (Int.emod_nonneg _ (by omega)) (Int.emod_lt_of_pos _ m0) ⟨n / m, sd, upd_same, Int.ediv_nonneg n0 (by omega), s0, s1⟩ (kp _ _ Kp.refl)⟩
    · refine ⟨_, rfl, p, _, 1, _, rfl, rfl, SqL.of hp, i1 _ _, _, _, rfl, rfl, .inr ⟨by decide, by decide⟩, _, _, rfl, rfl, .inl ⟨_, rfl, _, _, rfl, rfl, (by decide : (0 : Int) < 2147483647), ?_⟩⟩
      dsimp only
      generalize hs : (sd * 48271 + 11) % 2147483647 = s2
      have s20 : 0 ≤ s2 := by rw [← hs]; exact Int.emod_nonneg _ (by decide)
      have s21 : s2 < 2147483647 := by rw [← hs]; exact Int.emod_lt_of_pos _ (by decide)
      refine ⟨_, rfl, p, _, 1, 1, rfl, rfl, hp, rfl, ?_⟩
      have h2 : upd H p (.lst [.int n, .int s2]) p = some (.lst [.int n, .int s2]) := upd_same
      refine ⟨_, rfl, p, _, 1, _, rfl, rfl, SqL.of h2, i1 _ _, _, rfl, p, _, 1, _, rfl, rfl, SqL.of h2, i1 _ _, _, _, rfl, rfl, .inl ⟨by omega, by omega⟩, .inl ⟨_, rfl, _, _, rfl, rfl, (by decide : (0 : Int) < 2147483629), _, _, rfl, rfl, ⟨by decide, by decide⟩, ?_⟩⟩
      dsimp only
      generalize (s2 * s2 % 2147483629 / 64) = fd1
      refine ⟨fun σ' H' => ∃ fd s3 : Int, 0 ≤ s3 ∧ s3 < 2147483647 ∧ σ' = [some (.ref p), some (.int m), none, some (.int fd)] ∧ H' p = some (.lst [.int n, .int s3]) ∧ Kp p H H', ?_, ?_⟩
      · refine ⟨_, rfl, _, _, rfl, rfl, ⟨by decide, by decide, by decide⟩, _, _, rfl, rfl, _, rfl, ite2 (fun e => ?_) (fun e => ?_)⟩
        · refine ⟨_, rfl, p, _, 1, _, rfl, rfl, SqL.of h2, i1 _ _, _, _, rfl, rfl, .inr ⟨by decide, by decide⟩, _, _, rfl, rfl, .inl ⟨_, rfl, _, _, rfl, rfl, (by decide : (0 : Int) < 2147483647), ?_⟩⟩
          dsimp only
          generalize hs3 : (s2 * 39373 + 17) % 2147483647 = s3
          have s30 : 0 ≤ s3 := by rw [← hs3]; exact Int.emod_nonneg _ (by decide)
          have s31 : s3 < 2147483647 := by rw [← hs3]; exact Int.emod_lt_of_pos _ (by decide)
          refine ⟨_, rfl, p, _, 1, 1, rfl, rfl, h2, rfl, ?_⟩
          have h3 : upd (upd H p (.lst [.int n, .int s2])) p (.lst [.int n, .int s3]) p = some (.lst [.int n, .int s3]) := upd_same
          refine ⟨_, rfl, _, _, rfl, rfl, .inr ⟨by decide, by decide⟩, _, rfl, p, _, 1, _, rfl, rfl, SqL.of h3, i1 _ _, _, rfl, p, _, 1, _, rfl, rfl, SqL.of h3, i1 _ _, _, _, rfl, rfl, .inl ⟨by omega, by omega⟩, .inl ⟨_, rfl, _, _, rfl, rfl, (by decide : (0 : Int) < 2147483629), _, _, rfl, rfl, ⟨by decide, by decide⟩, _, _, rfl, rfl, ?_⟩⟩
          exact ⟨_, s3, s30, s31, rfl, h3, kp _ _ (kp _ _ Kp.refl)⟩
        · exact ⟨_, s2, s20, s21, rfl, h2, kp _ _ Kp.refl⟩
      · rintro σ' H' ⟨fd, s3, s30, s31, rfl, h3, k3⟩
        refine ⟨_, rfl, .inl ⟨_, rfl, _, rfl, _, _, rfl, rfl, m0, ?_⟩⟩
        exact q _ _ (Int.emod_nonneg _ (by omega)) (Int.emod_lt_of_pos _ m0) ⟨n, s3, h3, n0, s30, s31⟩ k3
end
/-! ### Moments -/
/-- what the written part says of the class Moment, at C -/
structure MoTxt (K : PySem.W.Frag) (mg : Str → Option Value) (C : Addr) : Prop where
  cl : Cls K C
  ca : PySem.W.findIn K (.ref C) "__class__" = some (some (.builtin "object.__class__"))
  cn : PySem.W.specialIn K (.builtin "object.__class__") "__get__" = some (some (.builtin "getset_descriptor.__get__"))
  ct : PySem.W.takesIn K (.builtin "object.__class__") = some true
  cm : PySem.W.mroIn K C (.type "object") = some true
  no : NoAttr K C "own_seconds"
  self_ : PySem.W.kitOne K (.ref C) (.ref C) = some true
  noInt : PySem.W.kitOne K (.type "int") (.ref C) = some false
  g : mg "Moment" = some (.ref C)
  far : ∃ t, mg "FARTHEST" = some (.int (10 ^ 30) t)
  grain : ∃ t, mg "LARGEST_GRAIN" = some (.int (10 ^ 6) t)
def MoAt (C : Addr) (H : Hp) (a : Addr) (n : Int) : Prop := ∃ dx, H a = some (.ins C dx [("own_seconds", .int n)])
theorem MoAt.same {C : Addr} {H H' : Hp} {a : Addr} {n : Int} (h : MoAt C H a n) (s : Same H H') : MoAt C H' a n := let ⟨dx, e⟩ := h; ⟨dx, s _ _ e⟩
theorem MoAt.kp {C : Addr} {H H' : Hp} {a p : Addr} {n : Int} (h : MoAt C H a n) (s : Kp p H H') (ne : a ≠ p) : MoAt C H' a n := let ⟨dx, e⟩ := h; ⟨dx, s _ _ ne e⟩
theorem MoAt.ty {K : PySem.W.Frag} {mg : Str → Option Value} {C : Addr} {H : Hp} {a : Addr} {n : Int} (h : MoAt C H a n) (T : MoTxt K mg C) : TyX K H (.ref a) (.ref C) := let ⟨_, e⟩ := h; .base (.ins e T.cl T.ca T.cn T.ct T.cm)
theorem MoAt.ne {C : Addr} {H : Hp} {a p : Addr} {n : Int} (h : MoAt C H a n) (s : Src H p) : a ≠ p := fun e => by
  obtain ⟨dx, h⟩ := h
  obtain ⟨_, _, h2, _⟩ := s
  rw [e, h2] at h
  cases h
theorem made_mo {C : Addr} {H : Hp} {x dx : Addr} {n : Int} (nx : H x = none) (nd : H dx = none) : Same H (upd (upd (upd H dx (.own x)) x (.ins C dx [])) x (.ins C dx [("own_seconds", .int n)])) ∧
    MoAt C (upd (upd (upd H dx (.own x)) x (.ins C dx [])) x (.ins C dx [("own_seconds", .int n)])) x n :=
  ⟨fun b o e => by rw [upd_ne (ne_of_none e nx), upd_ne (ne_of_none e nx), upd_ne (ne_of_none e nd)]; exact e, dx, upd_same⟩
theorem dInt (n m : Int) : decide (V.int n = V.int m) = decide (n = m) := by simp
/-- within the ends -/
def Far (n : Int) : Prop := -(10 ^ 30) ≤ n ∧ n ≤ 10 ^ 30
def spMoInit (C : Addr) : Sp := fun vs H Q _ => ∃ (p dx : Addr) (n : Int), vs = [.ref p, .int n] ∧ H p = some (.ins C dx []) ∧ Far n ∧ Q .non (upd H p (.ins C dx [("own_seconds", .int n)]))
def spMoSec (C : Addr) : Sp := fun vs H Q _ => ∃ (a : Addr) (n : Int), vs = [.ref a] ∧ MoAt C H a n ∧ Q (.int n) H
def spMoMoved (C : Addr) : Sp := fun vs H Q _ => ∃ (a : Addr) (n k : Int), vs = [.ref a, .int k] ∧ MoAt C H a n ∧ Far (n + k) ∧ ∀ q H', H q = none → Same H H' → MoAt C H' q (n + k) → Q (.ref q) H'
def spMoSub (C : Addr) : Sp := fun vs H Q _ => ∃ (a : Addr) (n : Int) (y : V), vs = [.ref a, y] ∧ MoAt C H a n ∧
  ((∃ b m, y = .ref b ∧ MoAt C H b m ∧ Q (.int (n - m)) H) ∨ (∃ k, y = .int k ∧ Far (n - k) ∧ ∀ q H', H q = none → Same H H' → MoAt C H' q (n - k) → Q (.ref q) H'))
def spMoBehind (C : Addr) : Sp := fun vs H Q _ => ∃ (a b : Addr) (n m : Int), vs = [.ref a, .ref b] ∧ MoAt C H a n ∧ MoAt C H b m ∧ Q (.int (n - m)) H
def spMoCmp (C : Addr) (g : Int → Int → Bool) : Sp := fun vs H Q _ => ∃ (a b : Addr) (n m : Int), vs = [.ref a, .ref b] ∧ MoAt C H a n ∧ MoAt C H b m ∧ Q (.bl (g n m)) H
def spMoEq (K : PySem.W.Frag) (C : Addr) : Sp := fun vs H Q _ => ∃ (a : Addr) (n : Int) (y : V), vs = [.ref a, y] ∧ MoAt C H a n ∧
  ((∃ b m, y = .ref b ∧ MoAt C H b m ∧ Q (.bl (decide (n = m))) H) ∨ (∃ t, TyX K H y t ∧ PySem.W.kitOne K t (.ref C) = some false ∧ Q (.bl false) H))
def spMoSeen (C : Addr) : Sp := fun vs H Q _ => ∃ (a : Addr) (n k : Int), vs = [.ref a, .int k] ∧ MoAt C H a n ∧ 1 ≤ k ∧ k ≤ 10 ^ 6 ∧ Far (n - n % k) ∧ ∀ q H', H q = none → Same H H' → MoAt C H' q (n - n % k) → Q (.ref q) H'
section
variable {P : Program} {w : World} {K : PySem.W.Frag} {mg : Str → Option Value} {base : Heap} {C : Addr}
theorem ok_Moment___init__ {f : Addr} {fd : FuncData} (F : Fun K "__init__" "Moment.__init__" s_Moment___init__ f fd) (B : Bl mg) (T : MoTxt K mg C) (c_is_between : Fn P w K mg base "is_between" ["value", "low", "high"] CX0 2 (spBetween K)) :
    FnOk P w K mg base CX0 3 f fd ["self", "seconds"] (spMoInit C) := by
  obtain ⟨tF, gF⟩ := T.far
  refine F.ok sc_Moment___init__ (fun vs H Q E h => ?_) (fun cdv A outer s H vs Q E hr h => ?_)
  · obtain ⟨p, dx, n, rfl, _⟩ := h
    rfl
  · obtain ⟨p, dx, n, rfl, hp, ⟨h1, h2⟩, q⟩ := h
    refine ⟨_, (pss_cons (ps_if (pt_not (pt_val (pe_fn c_is_between hr pass0 (pa_cons (pv 1) (pa_cons (pe_un un_neg (pe_gi gF)) (pa_cons (pe_gi gF) pa_nil)))))) (pss_one ps_never) pss_nil)
      (pss_one (ps_fld (pv 0) (pv 1) rfl))), ?_⟩
    refine ⟨_, rfl, _, rfl, .inl ⟨n, _, _, rfl, _, rfl, iteNS ⟨h1, h2⟩ ?_⟩⟩
    exact ⟨_, rfl, _, rfl, p, C, dx, [], rfl, hp, T.cl, T.no, (by decide : 0 < 1000), q⟩
theorem ok_Moment_seconds {f : Addr} {fd : FuncData} (F : Fun K "seconds" "Moment.seconds" s_Moment_seconds f fd) (T : MoTxt K mg C) : FnOk P w K mg base CX0 1 f fd ["self"] (spMoSec C) := by
  refine F.ok sc_Moment_seconds (fun vs H Q E h => ?_) (fun cdv A outer s H vs Q E hr h => ?_)
  · obtain ⟨a, n, rfl, _⟩ := h
    rfl
  · obtain ⟨a, n, rfl, ⟨dx, ha⟩, q⟩ := h
    exact ⟨_, (pss_one (ps_ret (pe_fld (pv 0) rfl))), _, rfl, a, C, dx, _, _, rfl, ha, T.cl, T.no, lookup_one _ _, q⟩
theorem ok_Moment_moved {f : Addr} {fd : FuncData} (F : Fun K "moved" "Moment.moved" s_Moment_moved f fd) (B : Bl mg) (T : MoTxt K mg C) (c_is_whole : Fn P w K mg base "is_whole" ["value"] CX0 1 (spWhole K))
    (c_Moment : Nw P w K mg base "Moment" C ["self", "seconds"] CX0 3 (spMoInit C)) : FnOk P w K mg base CX0 5 f fd ["self", "step"] (spMoMoved C) := by
  refine F.ok sc_Moment_moved (fun vs H Q E h => ?_) (fun cdv A outer s H vs Q E hr h => ?_)
  · obtain ⟨a, n, k, rfl, _⟩ := h
    rfl
  · obtain ⟨a, n, k, rfl, ⟨dx, ha⟩, fr, q⟩ := h
    refine ⟨_, (pss_cons (ps_if (pt_not (pt_val (pe_fn c_is_whole hr pass0 (pa_cons (pv 1) pa_nil)))) (pss_one ps_never) pss_nil)
      (pss_one (ps_ret (pe_nw c_Moment hr pass0 (pa_cons (pe_op op_add (pe_fld (pv 0) rfl) (pv 1)) pa_nil))))), ?_⟩
    refine ⟨_, rfl, .inl ⟨k, rfl, _, rfl, iteF ?_⟩⟩
    refine ⟨_, rfl, a, C, dx, _, _, rfl, ha, T.cl, T.no, lookup_one _ _, _, rfl, _, _, rfl, rfl, fun x dx' nx nd ne => ?_⟩
    have hm := made_mo (C := C) (n := n + k) nx nd
    exact ⟨x, dx', _, rfl, upd_same, fr, rfl, q x _ nx hm.1 hm.2⟩
theorem ok_Moment___add__ {f : Addr} {fd : FuncData} (F : Fun K "__add__" "Moment.__add__" s_Moment___add__ f fd) (T : MoTxt K mg C) (c_Moment_moved : Mt P w K mg base C "moved" ["self", "step"] CX0 5 (spMoMoved C)) :
    FnOk P w K mg base CX0 6 f fd ["self", "step"] (spMoMoved C) := by
  refine F.ok sc_Moment___add__ (fun vs H Q E h => ?_) (fun cdv A outer s H vs Q E hr h => ?_)
  · obtain ⟨a, n, k, rfl, _⟩ := h
    rfl
  · obtain ⟨a, n, k, rfl, ⟨dx, ha⟩, fr, q⟩ := h
    exact ⟨_, (pss_one (ps_ret (pe_mt T.cl c_Moment_moved hr pass0 (pv 0) (pa_cons (pv 1) pa_nil)))), _, rfl, a, dx, _, rfl, ha, lookup_no (by decide +kernel), _, rfl, a, n, k, rfl, ⟨dx, ha⟩, fr, q⟩
theorem ok_Moment___radd__ {f : Addr} {fd : FuncData} (F : Fun K "__radd__" "Moment.__radd__" s_Moment___radd__ f fd) (T : MoTxt K mg C) (c_Moment_moved : Mt P w K mg base C "moved" ["self", "step"] CX0 5 (spMoMoved C)) :
    FnOk P w K mg base CX0 6 f fd ["self", "step"] (spMoMoved C) := by
  refine F.ok sc_Moment___radd__ (fun vs H Q E h => ?_) (fun cdv A outer s H vs Q E hr h => ?_)
  · obtain ⟨a, n, k, rfl, _⟩ := h
    rfl
  · obtain ⟨a, n, k, rfl, ⟨dx, ha⟩, fr, q⟩ := h
    exact ⟨_, (pss_one (ps_ret (pe_mt T.cl c_Moment_moved hr pass0 (pv 0) (pa_cons (pv 1) pa_nil)))), _, rfl, a, dx, _, rfl, ha, lookup_no (by decide +kernel), _, rfl, a, n, k, rfl, ⟨dx, ha⟩, fr, q⟩
theorem ok_Moment___sub__ {f : Addr} {fd : FuncData} (F : Fun K "__sub__" "Moment.__sub__" s_Moment___sub__ f fd) (B : Bl mg) (T : MoTxt K mg C) (c_is_whole : Fn P w K mg base "is_whole" ["value"] CX0 1 (spWhole K))
    (c_Moment : Nw P w K mg base "Moment" C ["self", "seconds"] CX0 3 (spMoInit C)) (c_Moment_seconds : Pr P w K mg base C "seconds" ["self"] CX0 1 (spMoSec C)) : FnOk P w K mg base CX0 5 f fd ["self", "other"] (spMoSub C) := by
  refine F.ok sc_Moment___sub__ (fun vs H Q E h => ?_) (fun cdv A outer s H vs Q E hr h => ?_)
  · obtain ⟨a, n, y, rfl, _⟩ := h
    rfl
  · obtain ⟨a, n, y, rfl, ⟨dx, ha⟩, h⟩ := h
    refine ⟨_, (pss_cons (ps_if (pt_val (pe_callB call_isi (by rfl) B.isinstance_ (by decide +kernel) (pa_cons (pv 1) (pa_cons (pe_gc T.g) pa_nil)))) (pss_one (ps_ret (pe_op op_sub (pe_fld (pv 0) rfl) (pe_pr T.cl c_Moment_seconds hr pass0 (pv 1))))) pss_nil)
      (pss_cons (ps_if (pt_not (pt_val (pe_fn c_is_whole hr pass0 (pa_cons (pv 1) pa_nil)))) (pss_one ps_never) pss_nil)
      (pss_one (ps_ret (pe_nw c_Moment hr pass0 (pa_cons (pe_op op_sub (pe_fld (pv 0) rfl) (pv 1)) pa_nil)))))), ?_⟩
    obtain ⟨b, m, rfl, hb, q⟩ | ⟨k, rfl, fr, q⟩ := h
    · have hb' := hb
      obtain ⟨dy, hb'⟩ := hb'
      refine ⟨_, rfl, _, _, _, _, true, rfl, .own C, hb.ty T, T.self_, _, rfl, iteT ?_⟩
      exact ⟨_, rfl, a, C, dx, _, _, rfl, ha, T.cl, T.no, lookup_one _ _, _, rfl, b, dy, _, rfl, hb', b, m, rfl, hb, _, _, rfl, rfl, q⟩
    · refine ⟨_, rfl, _, _, _, _, false, rfl, .own C, .base (.int k), T.noInt, _, rfl, iteF ?_⟩
      refine ⟨_, rfl, .inl ⟨k, rfl, _, rfl, iteF ?_⟩⟩
      refine ⟨_, rfl, a, C, dx, _, _, rfl, ha, T.cl, T.no, lookup_one _ _, _, rfl, _, _, rfl, rfl, fun x dx' nx nd ne => ?_⟩
      have hm := made_mo (C := C) (n := n - k) nx nd
      exact ⟨x, dx', _, rfl, upd_same, fr, rfl, q x _ nx hm.1 hm.2⟩
theorem ok_Moment_behind {f : Addr} {fd : FuncData} (F : Fun K "behind" "Moment.behind" s_Moment_behind f fd) (B : Bl mg) (T : MoTxt K mg C) (c_Moment_seconds : Pr P w K mg base C "seconds" ["self"] CX0 1 (spMoSec C)) :
    FnOk P w K mg base CX0 3 f fd ["self", "other"] (spMoBehind C) := by
  refine F.ok sc_Moment_behind (fun vs H Q E h => ?_) (fun cdv A outer s H vs Q E hr h => ?_)
  · obtain ⟨a, b, n, m, rfl, _⟩ := h
    rfl
  · obtain ⟨a, b, n, m, rfl, ⟨dx, ha⟩, hb, q⟩ := h
    have hb' := hb
    obtain ⟨dy, hb'⟩ := hb'
    refine ⟨_, (pss_cons (ps_if (pt_not (pt_val (pe_callB call_isi (by rfl) B.isinstance_ (by decide +kernel) (pa_cons (pv 1) (pa_cons (pe_gc T.g) pa_nil))))) (pss_one ps_never) pss_nil)
      (pss_one (ps_ret (pe_op op_sub (pe_fld (pv 0) rfl) (pe_pr T.cl c_Moment_seconds hr pass0 (pv 1)))))), ?_⟩
    refine ⟨_, rfl, _, _, _, _, true, rfl, .own C, hb.ty T, T.self_, _, rfl, iteF ?_⟩
    exact ⟨_, rfl, a, C, dx, _, _, rfl, ha, T.cl, T.no, lookup_one _ _, _, rfl, b, dy, _, rfl, hb', b, m, rfl, hb, _, _, rfl, rfl, q⟩
theorem ok_Moment___lt__ {f : Addr} {fd : FuncData} (F : Fun K "__lt__" "Moment.__lt__" s_Moment___lt__ f fd) (T : MoTxt K mg C) (c_Moment_behind : Mt P w K mg base C "behind" ["self", "other"] CX0 3 (spMoBehind C)) :
    FnOk P w K mg base CX0 4 f fd ["self", "other"] (spMoCmp C fun n m => decide (n < m)) := by
  refine F.ok sc_Moment___lt__ (fun vs H Q E h => ?_) (fun cdv A outer s H vs Q E hr h => ?_)
  · obtain ⟨a, b, n, m, rfl, _⟩ := h
    rfl
  · obtain ⟨a, b, n, m, rfl, ha, hb, q⟩ := h
    have ha' := ha
    obtain ⟨dx, ha'⟩ := ha'
    refine ⟨_, (pss_one (ps_ret (pe_cmpR op_lt (pe_mt T.cl c_Moment_behind hr pass0 (pv 0) (pa_cons (pv 1) pa_nil)) pe_int (nomark _)))), ?_⟩
    refine ⟨_, rfl, a, dx, _, rfl, ha', lookup_no (by decide +kernel), _, rfl, a, b, n, m, rfl, ha, hb, _, _, rfl, rfl, ?_⟩
    have e : decide (n - m < 0) = decide (n < m) := decide_eq_decide.mpr (by omega)
    show Q (.bl (decide (n - m < 0))) H
    rw [e]
    exact q
theorem ok_Moment___le__ {f : Addr} {fd : FuncData} (F : Fun K "__le__" "Moment.__le__" s_Moment___le__ f fd) (T : MoTxt K mg C) (c_Moment_behind : Mt P w K mg base C "behind" ["self", "other"] CX0 3 (spMoBehind C)) :
    FnOk P w K mg base CX0 4 f fd ["self", "other"] (spMoCmp C fun n m => decide (n ≤ m)) := by
  refine F.ok sc_Moment___le__ (fun vs H Q E h => ?_) (fun cdv A outer s H vs Q E hr h => ?_)
  · obtain ⟨a, b, n, m, rfl, _⟩ := h
    rfl
  · obtain ⟨a, b, n, m, rfl, ha, hb, q⟩ := h
    have ha' := ha
    obtain ⟨dx, ha'⟩ := ha'
    refine ⟨_, (pss_one (ps_ret (pe_cmpR op_le (pe_mt T.cl c_Moment_behind hr pass0 (pv 0) (pa_cons (pv 1) pa_nil)) pe_int (nomark _)))), ?_⟩
    refine ⟨_, rfl, a, dx, _, rfl, ha', lookup_no (by decide +kernel), _, rfl, a, b, n, m, rfl, ha, hb, _, _, rfl, rfl, ?_⟩
    have e : decide (n - m ≤ 0) = decide (n ≤ m) := decide_eq_decide.mpr (by omega)
    show Q (.bl (decide (n - m ≤ 0))) H
    rw [e]
    exact q
theorem ok_Moment___gt__ {f : Addr} {fd : FuncData} (F : Fun K "__gt__" "Moment.__gt__" s_Moment___gt__ f fd) (T : MoTxt K mg C) (c_Moment_behind : Mt P w K mg base C "behind" ["self", "other"] CX0 3 (spMoBehind C)) :
    FnOk P w K mg base CX0 4 f fd ["self", "other"] (spMoCmp C fun n m => decide (m < n)) := by
  refine F.ok sc_Moment___gt__ (fun vs H Q E h => ?_) (fun cdv A outer s H vs Q E hr h => ?_)
  · obtain ⟨a, b, n, m, rfl, _⟩ := h
    rfl
  · obtain ⟨a, b, n, m, rfl, ha, hb, q⟩ := h
    have ha' := ha
    obtain ⟨dx, ha'⟩ := ha'
    refine ⟨_, (pss_one (ps_ret (pe_cmpR op_gt (pe_mt T.cl c_Moment_behind hr pass0 (pv 0) (pa_cons (pv 1) pa_nil)) pe_int (nomark _)))), ?_⟩
    refine ⟨_, rfl, a, dx, _, rfl, ha', lookup_no (by decide +kernel), _, rfl, a, b, n, m, rfl, ha, hb, _, _, rfl, rfl, ?_⟩
    have e : decide (0 < n - m) = decide (m < n) := decide_eq_decide.mpr (by omega)
    show Q (.bl (decide (0 < n - m))) H
    rw [e]
    exact q
theorem ok_Moment___ge__ {f : Addr} {fd : FuncData} (F : Fun K "__ge__" "Moment.__ge__" s_Moment___ge__ f fd) (T : MoTxt K mg C) (c_Moment_behind : Mt P w K mg base C "behind" ["self", "other"] CX0 3 (spMoBehind C)) :
    FnOk P w K mg base CX0 4 f fd ["self", "other"] (spMoCmp C fun n m => decide (m ≤ n)) := by
  refine F.ok sc_Moment___ge__ (fun vs H Q E h => ?_) (fun cdv A outer s H vs Q E hr h => ?_)
  · obtain ⟨a, b, n, m, rfl, _⟩ := h
    rfl
  · obtain ⟨a, b, n, m, rfl, ha, hb, q⟩ := h
    have ha' := ha
    obtain ⟨dx, ha'⟩ := ha'
    refine ⟨_, (pss_one (ps_ret (pe_cmpR op_ge (pe_mt T.cl c_Moment_behind hr pass0 (pv 0) (pa_cons (pv 1) pa_nil)) pe_int (nomark _)))), ?_⟩
    refine ⟨_, rfl, a, dx, _, rfl, ha', lookup_no (by decide +kernel), _, rfl, a, b, n, m, rfl, ha, hb, _, _, rfl, rfl, ?_⟩
    have e : decide (0 ≤ n - m) = decide (m ≤ n) := decide_eq_decide.mpr (by omega)
    show Q (.bl (decide (0 ≤ n - m))) H
    rw [e]
    exact q

theorem ok_Moment___eq__ {f : Addr} {fd : FuncData} (F : Fun K "__eq__" "Moment.__eq__" s_Moment___eq__ f fd) (B : Bl mg) (T : MoTxt K mg C) (c_Moment_seconds : Pr P w K mg base C "seconds" ["self"] CX0 1 (spMoSec C)) :
    FnOk P w K mg base CX0 3 f fd ["self", "other"] (spMoEq K C) := by
  refine F.ok sc_Moment___eq__ (fun vs H Q E h => ?_) (fun cdv A outer s H vs Q E hr h => ?_)
  · obtain ⟨a, n, y, rfl, _⟩ := h
    rfl
  · obtain ⟨a, n, y, rfl, ⟨dx, ha⟩, h⟩ := h
    refine ⟨_, (pss_one (ps_ret (pe_and (pe_callB call_isi (by rfl) B.isinstance_ (by decide +kernel) (pa_cons (pv 1) (pa_cons (pe_gc T.g) pa_nil))) (pe_one (pe_cmpR op_eq (pe_fld (pv 0) rfl) (pe_pr T.cl c_Moment_seconds hr pass0 (pv 1)) (nomark _)))))), ?_⟩
    obtain ⟨b, m, rfl, hb, q⟩ | ⟨t, ty, hk, q⟩ := h
    · have hb' := hb
      obtain ⟨dy, hb'⟩ := hb'
      refine ⟨_, rfl, _, _, _, _, true, rfl, .own C, hb.ty T, T.self_, _, rfl, iteT ?_⟩
      refine ⟨_, rfl, a, C, dx, _, _, rfl, ha, T.cl, T.no, lookup_one _ _, _, rfl, b, dy, _, rfl, hb', b, m, rfl, hb, rfl, ?_⟩
      show Q (.bl (decide (V.int n = V.int m))) H
      rw [dInt]
      exact q
    · exact ⟨_, rfl, _, _, _, _, false, rfl, .own C, ty, hk, _, rfl, iteF q⟩
theorem ok_Moment_seen {f : Addr} {fd : FuncData} (F : Fun K "seen" "Moment.seen" s_Moment_seen f fd) (B : Bl mg) (T : MoTxt K mg C) (c_is_between : Fn P w K mg base "is_between" ["value", "low", "high"] CX0 2 (spBetween K))
    (c_Moment : Nw P w K mg base "Moment" C ["self", "seconds"] CX0 3 (spMoInit C)) : FnOk P w K mg base CX0 5 f fd ["self", "grain"] (spMoSeen C) := by
  obtain ⟨tG, gG⟩ := T.grain
  refine F.ok sc_Moment_seen (fun vs H Q E h => ?_) (fun cdv A outer s H vs Q E hr h => ?_)
  · obtain ⟨a, n, k, rfl, _⟩ := h
    rfl
  · obtain ⟨a, n, k, rfl, ⟨dx, ha⟩, h1, h2, fr, q⟩ := h
    refine ⟨_, (pss_cons (ps_if (pt_not (pt_val (pe_fn c_is_between hr pass0 (pa_cons (pv 1) (pa_cons pe_int (pa_cons (pe_gi gG) pa_nil)))))) (pss_one ps_never) pss_nil)
      (pss_one (ps_ret (pe_nw c_Moment hr pass0 (pa_cons (pe_op op_sub (pe_fld (pv 0) rfl) (pe_op op_mod (pe_fld (pv 0) rfl) (pv 1))) pa_nil))))), ?_⟩
    refine ⟨_, rfl, .inl ⟨k, _, _, rfl, _, rfl, iteNS ⟨h1, h2⟩ ?_⟩⟩
    refine ⟨_, rfl, a, C, dx, _, _, rfl, ha, T.cl, T.no, lookup_one _ _, _, rfl, a, C, dx, _, _, rfl, ha, T.cl, T.no, lookup_one _ _, _, rfl, _, _, rfl, rfl, (by show 0 < k; omega), _, _, rfl, rfl, fun x dx' nx nd ne => ?_⟩
    have hm := made_mo (C := C) (n := n - n % k) nx nd
    exact ⟨x, dx', _, rfl, upd_same, fr, rfl, q x _ nx hm.1 hm.2⟩
end
/-! ### Moments in expressions -/
open Evl in
def IsMo (C : Addr) (n : Int) : V → Hp → Prop := fun v H => ∃ a, v = .ref a ∧ MoAt C H a n
section
open Evl
variable {K : PySem.W.Frag} {mg : Str → Option Value} {C : Addr} {σ : L2.St} {H H' : Hp} {ta tb te : TE} {E : XK} {n m k : Int}
theorem nf_self (K : PySem.W.Frag) (C : Addr) : PySem.W.notFirst K C (.ref C) = true := by simp [PySem.W.notFirst]
theorem evm_var {i : Nat} {a : Addr} (h : σ[i]? = some (some (.ref a))) (hm : MoAt C H a n) : EvP (tVar i) σ H (IsMo C n) := evp_var h fun _ e => ⟨a, rfl, hm.same e⟩
theorem ev_sec (h : EvP ta σ H (IsMo C n)) : Ev (tProp C (spMoSec C) [] E ta) σ H (.int n) := fun H1 e Q q => h H1 e _ fun v H2 e2 ⟨a, ea, ⟨dx, ha⟩⟩ => ⟨a, dx, _, ea, ha, a, n, rfl, ⟨dx, ha⟩, q H2 e2⟩
theorem evm_make (h : Ev te σ H (.int n)) (fr : Far n) : EvP (tMake C (spMoInit C) [] E (tCons te tNil)) σ H (IsMo C n) := fun H1 e Q q => h H1 e _ fun H2 e2 x dx nx nd ne => by
  have hm := made_mo (C := C) (n := n) nx nd
  exact ⟨x, dx, n, rfl, upd_same, fr, rfl, q _ _ (e2.trans hm.1) ⟨x, rfl, hm.2⟩⟩
theorem evm_addI (h1 : EvP ta σ H (IsMo C n)) (h2 : Ev tb σ H (.int k)) (fr : Far (n + k)) : EvP (tOp (rBinI C (spMoMoved C) E) ta tb) σ H (IsMo C (n + k)) := fun H1 e Q q => h1 H1 e _ fun v H2 e2 ⟨a, ea, ha⟩ =>
  h2 H2 (e.trans e2) (fun y H3 => rBinI C (spMoMoved C) E v y H3 Q) fun H3 e3 => by
    obtain ⟨dx, ha'⟩ := ha.same e3
    subst ea
    exact ⟨a, dx, _, k, rfl, rfl, ha', a, n, k, rfl, ⟨dx, ha'⟩, fr, fun p H4 np s4 hp => q _ _ ((e2.trans e3).trans s4) ⟨p, rfl, hp⟩⟩
theorem evm_radd (h1 : Ev ta σ H (.int k)) (h2 : EvP tb σ H (IsMo C n)) (fr : Far (n + k)) : EvP (tOp (rBinR C (spMoMoved C) E) ta tb) σ H (IsMo C (n + k)) := fun H1 e Q q => h1 H1 e _ fun H2 e2 =>
  h2 H2 (e.trans e2) (fun y H3 => rBinR C (spMoMoved C) E (.int k) y H3 Q) fun v H3 e3 ⟨a, ea, ha⟩ => by
    obtain ⟨dx, ha'⟩ := ha
    subst ea
    exact ⟨a, dx, _, k, rfl, rfl, ha', a, n, k, rfl, ⟨dx, ha'⟩, fr, fun p H4 np s4 hp => q _ _ ((e2.trans e3).trans s4) ⟨p, rfl, hp⟩⟩
theorem evm_subI (h1 : EvP ta σ H (IsMo C n)) (h2 : Ev tb σ H (.int k)) (fr : Far (n - k)) : EvP (tOp (rBinI C (spMoSub C) E) ta tb) σ H (IsMo C (n - k)) := fun H1 e Q q => h1 H1 e _ fun v H2 e2 ⟨a, ea, ha⟩ =>
  h2 H2 (e.trans e2) (fun y H3 => rBinI C (spMoSub C) E v y H3 Q) fun H3 e3 => by
    obtain ⟨dx, ha'⟩ := ha.same e3
    subst ea
    exact ⟨a, dx, _, k, rfl, rfl, ha', a, n, _, rfl, ⟨dx, ha'⟩, .inr ⟨k, rfl, fr, fun p H4 np s4 hp => q _ _ ((e2.trans e3).trans s4) ⟨p, rfl, hp⟩⟩⟩
theorem ev_subS (h1 : EvP ta σ H (IsMo C n)) (h2 : EvP tb σ H (IsMo C m)) : Ev (tOp (rBinS C (spMoSub C) E) ta tb) σ H (.int (n - m)) := fun H1 e Q q => h1 H1 e _ fun v H2 e2 ⟨a, ea, ha⟩ =>
  h2 H2 (e.trans e2) (fun y H3 => rBinS C (spMoSub C) E v y H3 Q) fun u H3 e3 ⟨b, eb, hb⟩ => by
    obtain ⟨dx, ha'⟩ := ha.same e3
    obtain ⟨dy, hb'⟩ := hb
    subst ea eb
    exact ⟨a, dx, _, b, dy, _, rfl, rfl, ha', hb', a, n, _, rfl, ⟨dx, ha'⟩, .inl ⟨b, m, rfl, ⟨dy, hb'⟩, q _ (e2.trans e3)⟩⟩
theorem ev_cmpM (T : MoTxt K mg C) {g : Int → Int → Bool} (h1 : EvP ta σ H (IsMo C n)) (h2 : EvP tb σ H (IsMo C m)) : Ev (tOp (rOwnC K C (spMoCmp C g) E) ta tb) σ H (.bl (g n m)) := fun H1 e Q q => h1 H1 e _ fun v H2 e2 ⟨a, ea, ha⟩ =>
  h2 H2 (e.trans e2) (fun y H3 => rOwnC K C (spMoCmp C g) E v y H3 Q) fun u H3 e3 ⟨b, eb, hb⟩ => by
    have ha2 := ha.same e3
    obtain ⟨dx, ha'⟩ := ha2
    subst ea eb
    exact ⟨a, dx, _, _, rfl, ha', hb.ty T, nf_self _ _, a, b, n, m, rfl, ⟨dx, ha'⟩, hb, q _ (e2.trans e3)⟩
theorem ev_eqM (T : MoTxt K mg C) (h1 : EvP ta σ H (IsMo C n)) (h2 : EvP tb σ H (IsMo C m)) : Ev (tOp (rOwnC K C (spMoEq K C) E) ta tb) σ H (.bl (decide (n = m))) := fun H1 e Q q => h1 H1 e _ fun v H2 e2 ⟨a, ea, ha⟩ =>
  h2 H2 (e.trans e2) (fun y H3 => rOwnC K C (spMoEq K C) E v y H3 Q) fun u H3 e3 ⟨b, eb, hb⟩ => by
    have ha2 := ha.same e3
    obtain ⟨dx, ha'⟩ := ha2
    subst ea eb
    exact ⟨a, dx, _, _, rfl, ha', hb.ty T, nf_self _ _, a, n, _, rfl, ⟨dx, ha'⟩, .inl ⟨b, m, rfl, hb, q _ (e2.trans e3)⟩⟩
theorem ev_eqMI (T : MoTxt K mg C) (nf : PySem.W.notFirst K C (.type "int") = true) (h1 : EvP ta σ H (IsMo C n)) (h2 : Ev tb σ H (.int m)) : Ev (tOp (rOwnC K C (spMoEq K C) E) ta tb) σ H (.bl false) := fun H1 e Q q => h1 H1 e _ fun v H2 e2 ⟨a, ea, ha⟩ =>
  h2 H2 (e.trans e2) (fun y H3 => rOwnC K C (spMoEq K C) E v y H3 Q) fun H3 e3 => by
    have ha2 := ha.same e3
    obtain ⟨dx, ha'⟩ := ha2
    subst ea
    exact ⟨a, dx, _, _, rfl, ha', .base (.int m), nf, a, n, _, rfl, ⟨dx, ha'⟩, .inr ⟨_, .base (.int m), T.noInt, q _ (e2.trans e3)⟩⟩
theorem ev_neM (T : MoTxt K mg C) (h1 : EvP ta σ H (IsMo C n)) (h2 : EvP tb σ H (IsMo C m)) : Ev (tOp (rOwnNe K C (spMoEq K C) E) ta tb) σ H (.bl (!decide (n = m))) := fun H1 e Q q => h1 H1 e _ fun v H2 e2 ⟨a, ea, ha⟩ =>
  h2 H2 (e.trans e2) (fun y H3 => rOwnNe K C (spMoEq K C) E v y H3 Q) fun u H3 e3 ⟨b, eb, hb⟩ => by
    have ha2 := ha.same e3
    obtain ⟨dx, ha'⟩ := ha2
    subst ea eb
    exact ⟨a, dx, _, _, rfl, ha', hb.ty T, nf_self _ _, a, n, _, rfl, ⟨dx, ha'⟩, .inl ⟨b, m, rfl, hb, _, rfl, q _ (e2.trans e3)⟩⟩
theorem evm_seen (h1 : EvP ta σ H (IsMo C n)) (h2 : Ev tb σ H (.int k)) (k1 : 1 ≤ k) (k2 : k ≤ 10 ^ 6) (fr : Far (n - n % k)) : EvP (tMeth C "seen" (spMoSeen C) [] E ta (tCons tb tNil)) σ H (IsMo C (n - n % k)) := fun H1 e Q q => h1 H1 e _ fun v H2 e2 ⟨a, ea, ha⟩ => by
    obtain ⟨dx, ha'⟩ := id ha
    subst ea
    exact ⟨a, dx, _, rfl, ha', lookup_no (by decide +kernel), h2 H2 (e.trans e2) _ fun H3 e3 => ⟨a, n, k, rfl, ha.same e3, k1, k2, fr, fun p H4 np s4 hp => q _ _ ((e2.trans e3).trans s4) ⟨p, rfl, hp⟩⟩⟩
theorem ev_isM (T : MoTxt K mg C) (h1 : EvP ta σ H (IsMo C n)) : Ev (tCB (rIsi K) (tCons ta (tCons (tC (.ref C)) tNil))) σ H (.bl true) :=
  ev_isi (h1.imp fun v H2 _ ⟨a, ea, ha⟩ => by subst ea; exact ha.ty T) ev_c (.own C) T.self_
theorem ev_isMI (T : MoTxt K mg C) (h1 : Ev ta σ H (.int n)) : Ev (tCB (rIsi K) (tCons ta (tCons (tC (.ref C)) tNil))) σ H (.bl false) :=
  ev_isi ((ev_p h1).imp fun v H2 _ ev => by subst ev; exact .base (.int n)) ev_c (.own C) T.noInt
/-! statements -/
variable {D : Ends} {tu tw : TS} {φ ψ : V → Hp → Prop}
theorem s_asgP {i : Nat} (h : EvP te σ H φ) (q : ∀ v H1, Ex H H1 → φ v H1 → D.nx (σ.set i (some v)) H1) : tAsg te (gName i) D σ H := h H (Ex.refl H) _ fun v H1 e p => q v H1 e p
theorem s_ifF {t : TT} (h : EvT t σ H false) (q : ∀ H1, Ex H H1 → tw D σ H1) : tIfS t tu tw D σ H := s_if h (fun z => nomatch z) fun _ => q
theorem s_ifT {t : TT} (h : EvT t σ H true) (q : ∀ H1, Ex H H1 → tu D σ H1) : tIfS t tu tw D σ H := s_if h (fun _ => q) (fun z => nomatch z)
theorem s_parPP {i j : Nat} (h1 : EvP ta σ H φ) (h2 : ∀ H1, Ex H H1 → EvP tb σ H1 ψ) (mφ : MonP φ) (q : ∀ v u H1, Ex H H1 → φ v H1 → ψ u H1 → D.nx ((σ.set i (some v)).set j (some u)) H1) : tPar i j (tCons ta (tCons tb tNil)) D σ H :=
  h1 H (Ex.refl H) _ fun v H1 e1 p1 => h2 H1 e1 H1 (Ex.refl H1) _ fun u H2 e2 p2 => ⟨v, u, rfl, q v u H2 (e1.trans e2) (mφ v H1 H2 e2 p1) p2⟩
theorem monMo : MonP (IsMo C n) := fun _ _ _ e ⟨a, ea, h⟩ => ⟨a, ea, h.same e⟩
theorem et_ntT {t : TT} (h : EvT t σ H true) : EvT (tNot t) σ H false := et_not h
theorem et_nt {t : TT} {b c : Bool} (h : EvT t σ H b) (e : (!b) = c) : EvT (tNot t) σ H c := et_is (et_not h) e
theorem et_orF {t u : TT} (h1 : EvT t σ H false) (h2 : EvT u σ H false) : EvT (tOr t u) σ H false := et_or h1 fun _ => h2
theorem rv_mod {i j : Int} (h : 0 < j) : RV (rI (fun _ j => 0 < j) fun i j => .int (i % j)) (.int i) (.int j) H (.int (i % j)) := rv_I (C := fun _ j => 0 < j) h
theorem rv_neI {i j : Int} (h : i = j) : RV rNe (.int i) (.int j) H (.bl false) := by
  have := rv_ne (x := .int i) (y := .int j) (H := H) rfl
  rw [decide_eq_true (congrArg V.int h)] at this
  exact this
theorem rv_eqI {i j : Int} : RV rEq (.int i) (.int j) H (.bl (decide (i = j))) := by
  have := rv_eq (x := .int i) (y := .int j) (H := H) rfl
  rw [dInt] at this
  exact this
theorem ev_int1 {i : Int} (h : Ev ta σ H (.int i)) : Ev (tCB (fun xs H Q => (∃ i, xs = [V.int i] ∧ Q (V.int i) H) ∨ ∃ k, xs = [V.bl k] ∧ Q (V.int (if k = true then 1 else 0)) H) (tCons ta tNil)) σ H (.int i) := fun H1 e Q q => h H1 e _ fun H2 e2 => .inl ⟨i, rfl, q H2 e2⟩
end
theorem Src.same {H H' : Hp} {p : Addr} (h : Src H p) (s : Same H H') : Src H' p := let ⟨n, sd, e, a, b, c⟩ := h; ⟨n, sd, s _ _ e, a, b, c⟩
theorem sq_kp {K : PySem.W.Frag} {H H' : Hp} {a p : Addr} {xs : List V} (h : SqL K H a xs) (np : H p = none) (k : Kp p H H') : SqL K H' a xs := by
  rcases h with (h | ⟨o, h⟩) | h
  · exact .inl (.inl (k _ _ (ne_of_none h np) h))
  · exact .inl (.inr ⟨o, k _ _ (ne_of_none h np) h⟩)
  · exact .inr h
def spNumber : Sp := fun vs H Q _ => ∃ p : Addr, vs = [.ref p] ∧ Src H p ∧ ∀ n H', -(10 ^ 29) < n → n < 10 ^ 29 → Src H' p → Kp p H H' → Q (.int n) H'
def spLaw (K : PySem.W.Frag) : Sp := fun vs H Q _ => ∃ (a : Addr) (ns : List Int), vs = [.ref a] ∧ SqL K H a (ns.map V.int) ∧ ns.length ≤ 63 ∧ ∀ H', Q (.bl true) H'
theorem pick3 {x y z : Int} {r : Int} (h0 : 0 ≤ r) (h1 : r < 3) (L : Int) (hx : 0 < x ∧ x ≤ L) (hy : 0 < y ∧ y ≤ L) (hz : 0 < z ∧ z ≤ L) : ∃ m : Int, atI [V.int x, V.int y, V.int z] r = some (.int m) ∧ 0 < m ∧ m ≤ L := by
  have : r = 0 ∨ r = 1 ∨ r = 2 := by omega
  rcases this with rfl | rfl | rfl
  · exact ⟨x, atI_nat (j := 0) rfl, hx⟩
  · exact ⟨y, atI_nat (j := 1) rfl, hy⟩
  · exact ⟨z, atI_nat (j := 2) rfl, hz⟩
theorem turns_le (l : Int) : (1 : Int) ≤ (if (if (30 : Int) < l then 30 else l) > 1 then (if (30 : Int) < l then 30 else l) else 1) ∧ (if (if (30 : Int) < l then 30 else l) > 1 then (if (30 : Int) < l then 30 else l) else 1) ≤ 30 := by
  split <;> split <;> omega
/-- what the operators of Moment ask besides -/
structure MoTxt2 (K : PySem.W.Frag) (C ga gr gs : Addr) : Prop where
  sf : PySem.W.selfFirst K C = true
  ga : PySem.W.findIn K (.ref C) "__add__" = some (some (.ref ga))
  gr : PySem.W.findIn K (.ref C) "__radd__" = some (some (.ref gr))
  gs : PySem.W.findIn K (.ref C) "__rsub__" = some (some (.ref gs))
  ia : PySem.W.findIn K (.type "int") "__add__" = some (some (.builtin "int.__add__"))
  ir : PySem.W.findIn K (.type "int") "__radd__" = some (some (.builtin "int.__radd__"))
  isb : PySem.W.findIn K (.type "int") "__sub__" = some (some (.builtin "int.__sub__"))
  isr : PySem.W.findIn K (.type "int") "__rsub__" = some (some (.builtin "int.__rsub__"))
  sub : PySem.W.subIn K (.type "int") (.ref C) = some false
  sub2 : PySem.W.subIn K (.ref C) (.type "int") = some false
  ne : PySem.W.findIn K (.ref C) "__ne__" = some (some (.builtin "object.__ne__"))
  ob : PySem.W.subIn K (.ref C) (.type "object") = some true
  nf : PySem.W.notFirst K C (.type "int") = true
section
variable {P : Program} {w : World} {K : PySem.W.Frag} {mg : Str → Option Value} {base : Heap} {C ga gr gs : Addr}
end
/-! ### list.count of flat things -/
section
variable {X : Cx}
def rCntV (K : PySem.W.Frag) : V → List V → Hp → VK → Prop := fun x ys H Q => ∃ (p : Addr) (xs : List V) (y : V), x = .ref p ∧ ys = [y] ∧ SqL K H p xs ∧ flatV y = true ∧ xs.all flatV = true ∧ Q (.int (xs.countP (fun z => eqV z y) : Nat)) H
def eqU (y : V) (u : Value) : Bool := match absV u with | some z => eqV z y | none => false
theorem eqU_count {y : V} : ∀ {xs : List V} {us : List Value}, Vals xs us → us.countP (eqU y) = xs.countP (fun z => eqV z y)
  | _, _, .nil => rfl
  | z :: _, u :: _, .cons r t => by
    have e : eqU y u = eqV z y := by unfold eqU; rw [r.abs]
    rw [List.countP_cons, List.countP_cons, eqU_count t, e]
theorem mem_vals : ∀ {xs : List V} {us : List Value} {u : Value}, Vals xs us → u ∈ us → ∃ z, z ∈ xs ∧ RelV z u
  | _, _, _, .nil, h => by cases h
  | _, _, _, .cons r t, h => by
    rcases List.mem_cons.mp h with rfl | h
    · exact ⟨_, List.mem_cons_self, r⟩
    · obtain ⟨z, hz, rz⟩ := mem_vals t h
      exact ⟨z, List.mem_cons_of_mem _ hz, rz⟩
theorem mt_countV : MtR X "list.count" (rCntV X.K) := by
  intro pins s σ H x xs v us Q I rx rxs h
  obtain ⟨p, zs, y, rfl, rfl, hs, fy, fs, q⟩ := h
  cases rx
  cases rxs with
  | cons ru rn =>
    cases rn
    obtain ⟨its, rv, ⟨⟨cls, dd, data, sl⟩, n, ho, hc, hdn, hd⟩, hlen⟩ := I.list hs
    simp only at hc hd
    subst hc hd
    refine call_meets PySem.F.slot_list_count ⟨_, ho, rfl⟩ PySem.F.entry_list_count (PySem.F.args_list_count_2 _ _)
      (SeqAt.list_countAt p its.toArray n dd sl _ (eqU y)) ⟨ho, fun u hu => ?_, ?_⟩
    · obtain ⟨z, hz, rz⟩ := mem_vals rv (by simpa using hu)
      have e : eqU y u = eqV z y := by unfold eqU; rw [rz.abs]
      rw [e]
      exact eqAt_V rz ru (List.all_eq_true.mp fs z hz) fy
    · refine ⟨.int (zs.countP (fun z => eqV z y) : Nat), H, I.tok _, ⟨s.toks, ?_⟩, q⟩
      show Value.int ((its.toArray.toList.countP (eqU y) : Nat) : Int) s.toks = _
      rw [eqU_count rv]
end
section
open Evl
variable {K : PySem.W.Frag} {σ : L2.St} {H : Hp} {ta tb : TE} {xs : List V} {y : V}
theorem ev_countV (h1 : EvL ta σ H xs) (h2 : Ev tb σ H y) (fy : flatV y = true) (fs : xs.all flatV = true) : Ev (tBM K "list" (rCntV K) ta (tCons tb tNil)) σ H (.int (xs.countP (fun z => eqV z y) : Nat)) := fun H1 e Q q =>
  h1 H1 e _ fun p H2 np e2 hp => ⟨.inl ⟨rfl, _, SqL.of hp⟩, h2 H2 (e.trans e2) _ fun H3 e3 => ⟨p, xs, y, rfl, rfl, SqL.of (e3 _ _ hp), fy, fs, q H3 (e2.trans e3)⟩⟩
theorem rv_neB {a b : Bool} (h : a = b) : RV rNe (.bl a) (.bl b) H (.bl false) := by
  have := rv_ne (x := .bl a) (y := .bl b) (H := H) rfl
  rw [decide_eq_true (congrArg V.bl h)] at this
  exact this
end
def spRounds (C : Addr) : Sp := fun vs H Q _ => ∃ (p a b : Addr) (n m : Int), vs = [.ref p, .ref a, .ref b] ∧ Src H p ∧ MoAt C H a n ∧ MoAt C H b m ∧ (-(10 ^ 29) ≤ n ∧ n ≤ 10 ^ 29) ∧ (-(10 ^ 29) ≤ m ∧ m ≤ 10 ^ 29) ∧ ∀ H', Src H' p → Kp p H H' → Q (.bl true) H'
theorem pick2 {x y : Int} {r : Int} (h0 : 0 ≤ r) (h1 : r < 2) (L : Int) (hx : 0 < x ∧ x ≤ L) (hy : 0 < y ∧ y ≤ L) : ∃ m : Int, atI [V.int x, V.int y] r = some (.int m) ∧ 0 < m ∧ m ≤ L := by
  have : r = 0 ∨ r = 1 := by omega
  rcases this with rfl | rfl
  · exact ⟨x, atI_nat (j := 0) rfl, hx⟩
  · exact ⟨y, atI_nat (j := 1) rfl, hy⟩
theorem src_ne {H : Hp} {l p : Addr} (nl : H l = none) (hs : Src H p) : l ≠ p := fun e => by
  obtain ⟨_, _, e', _⟩ := hs
  rw [← e, nl] at e'
  cases e'
theorem floor_low (n g : Int) (h : 0 < g) : (n - n % g) % g = 0 := by
  have e : n - n % g = g * (n / g) := by have := Int.mul_ediv_add_emod n g; omega
  rw [e]
  exact Int.mul_emod_right g (n / g)
theorem floor_mono {n m g : Int} (h : 0 < g) (hnm : n ≤ m) : n - n % g ≤ m - m % g := by
  have e1 : n - n % g = g * (n / g) := by have := Int.mul_ediv_add_emod n g; omega
  have e2 : m - m % g = g * (m / g) := by have := Int.mul_ediv_add_emod m g; omega
  rw [e1, e2]
  exact Int.mul_le_mul_of_nonneg_left (Int.ediv_le_ediv h hnm) (by omega)
end Ag
namespace Ag
open PySem PySem.Spec PyProof.Rows L2
theorem cnt3 (n m : Int) : ((List.countP (fun z => eqV z (V.bl true)) [V.bl (decide (n < m)), V.bl (decide (n = m)), V.bl (decide (m < n))] : Nat) : Int) = 1 := by
  rcases Int.lt_trichotomy n m with h | h | h
  · rw [decide_eq_true h, decide_eq_false (show ¬ n = m by omega), decide_eq_false (show ¬ m < n by omega)]
    rfl
  · rw [decide_eq_false (show ¬ n < m by omega), decide_eq_true h, decide_eq_false (show ¬ m < n by omega)]
    rfl
  · rw [decide_eq_false (show ¬ n < m by omega), decide_eq_false (show ¬ n = m by omega), decide_eq_true h]
    rfl
theorem le_or (n m : Int) : decide (n ≤ m) = (decide (n < m) || decide (n = m)) := by
  rcases Int.lt_trichotomy n m with h | h | h
  · rw [decide_eq_true h, decide_eq_true (show n ≤ m by omega)]
    rfl
  · rw [decide_eq_true h, decide_eq_true (show n ≤ m by omega), Bool.or_true]
  · rw [decide_eq_false (show ¬ n < m by omega), decide_eq_false (show ¬ n = m by omega), decide_eq_false (show ¬ n ≤ m by omega)]
    rfl
local macro_rules | `(tactic| walk_at "side") => `(tactic| first | rfl | (simp <;> omega) | (simp; exact cnt3 _ _) | (simp; exact le_or _ _) | simp)
section
open Evl
variable {P : Program} {w : World} {K : PySem.W.Frag} {mg : Str → Option Value} {base : Heap} {C ga gr gs : Addr}
theorem ok__law_rounds {f : Addr} {fd : FuncData} (F : Fun K "_law_rounds" "_law_rounds" s__law_rounds f fd) (B : Bl mg) (T : MoTxt K mg C) (T2 : MoTxt2 K C ga gr gs)
    (c__law_draw : Fn P w K mg base "_law_draw" ["source", "amount"] CX0 1 spDraw) (c_Moment_seconds : Pr P w K mg base C "seconds" ["self"] CX0 1 (spMoSec C))
    (c_Moment___add__ : Mt P w K mg base C "__add__" ["self", "step"] CX0 6 (spMoMoved C)) (c_Moment___sub__ : Mt P w K mg base C "__sub__" ["self", "other"] CX0 5 (spMoSub C))
    (c_Moment___le__ : Mt P w K mg base C "__le__" ["self", "other"] CX0 4 (spMoCmp C fun n m => decide (n ≤ m)))
    (c_Moment___eq__ : Mt P w K mg base C "__eq__" ["self", "other"] CX0 3 (spMoEq K C)) (c_Moment_seen : Mt P w K mg base C "seen" ["self", "grain"] CX0 5 (spMoSeen C)) :
    FnOk P w K mg base CX0 8 f fd ["source", "a", "b"] (spRounds C) := by
  refine F.ok sc__law_rounds (fun vs H Q E h => ?_) (fun cdv A outer s H vs Q E hr h => ?_)
  · obtain ⟨p, a, b, n, m, rfl, _⟩ := h
    rfl
  · obtain ⟨p, a, b, n, m, rfl, hs, oa, ob, ⟨n1, n2⟩, ⟨m1, m2⟩, q⟩ := h
    refine ⟨_, (pss_cons (ps_set (i := 3) sc__law_rounds.nd rfl (Or.inl rfl) (pe_op op_add pe_int (pe_fn c__law_draw hr pass0 (pa_cons (pv 0) (pa_cons (pe_ix ix_list (pe_lst (pa_cons pe_int (pa_cons (pe_op op_pow pe_int pe_int) pa_nil))) (pe_fn c__law_draw hr pass0 (pa_cons (pv 0) (pa_cons pe_int pa_nil))) (fun _ _ => rfl)) pa_nil)))))
      (pss_cons (ps_set (i := 4) sc__law_rounds.nd rfl (Or.inl rfl) (pe_mt T.cl c_Moment_seen hr pass0 (pv 1) (pa_cons (pv 3) pa_nil)))
      (pss_cons (ps_if (PW.pt (pw_or (pt_not (pt_cmpR (op_cmpC (op := .LtE) c_Moment___le__ hr pass0) (pv 4) (pv 1) (nomark _))) (pw_or (pt_cmpR op_ge (pe_op (op_binS (op := .Sub) c_Moment___sub__ T2.sf hr pass0) (pv 1) (pv 4)) (pv 3) (nomark _)) (pw_or1 (pt_cmpR op_ne (pe_op op_mod (pe_callTy call_int1 (by rfl) B.int_ (by decide +kernel) (pa_cons (pe_pr T.cl c_Moment_seconds hr pass0 (pv 4)) pa_nil)) (pv 3)) pe_int (nomark _)))))) (pss_one (ps_ret pe_bl)) pss_nil)
      (pss_cons (ps_if (pt_cmpR (op_neC c_Moment___eq__ T2.ne T2.ob hr pass0) (pe_mt T.cl c_Moment_seen hr pass0 (pv 4) (pa_cons (pv 3) pa_nil)) (pv 4) (nomark _)) (pss_one (ps_ret pe_bl)) pss_nil)
      (pss_cons (ps_set (i := 5) sc__law_rounds.nd rfl (Or.inl rfl) (pe_op op_mul (pe_op op_sub (pe_fn c__law_draw hr pass0 (pa_cons (pv 0) (pa_cons pe_int pa_nil))) pe_int) (pv 3)))
      (pss_cons (ps_if (pt_cmpR (op_neC c_Moment___eq__ T2.ne T2.ob hr pass0) (pe_mt T.cl c_Moment_seen hr pass0 (pe_op (op_binI (op := .Add) c_Moment___add__ T2.sf T2.gr T2.ia T2.ir T2.sub hr pass0) (pv 1) (pv 5)) (pa_cons (pv 3) pa_nil)) (pe_op (op_binI (op := .Add) c_Moment___add__ T2.sf T2.gr T2.ia T2.ir T2.sub hr pass0) (pv 4) (pv 5)) (nomark _)) (pss_one (ps_ret pe_bl)) pss_nil)
      (pss_one (ps_ret (pe_or (pe_not (pe_cmpR (op_cmpC (op := .LtE) c_Moment___le__ hr pass0) (pv 1) (pv 2) (nomark _))) (pe_one (pe_cmpR (op_cmpC (op := .LtE) c_Moment___le__ hr pass0) (pv 4) (pe_mt T.cl c_Moment_seen hr pass0 (pv 2) (pa_cons (pv 3) pa_nil)) (nomark _)))))))))))), ?_⟩
    have na := oa.ne hs
    have nb := ob.ne hs
    -- grain
    refine ⟨_, rfl, _, _, rfl, rfl, ⟨by decide, by decide, by decide⟩, (by decide : 2 ≤ sizeLine), fun l nl => ?_⟩
    have s1 := same_upd (o := .lst [.int 9, .int (10 ^ (6 : Int).toNat)]) nl
    refine ⟨_, rfl, p, 2, rfl, hs.same s1, by decide, by decide, fun r H2 r0 r1 hs2 k2 => ?_⟩
    obtain ⟨g0, hg, g1, g2⟩ := pick2 (x := 9) (y := 10 ^ (6 : Int).toNat) r0 r1 (10 ^ 6) (by decide) (by decide)
    refine ⟨l, _, r, _, rfl, rfl, SqL.of (k2 _ _ (src_ne nl hs) upd_same), hg, p, g0, rfl, hs2, g1, Int.le_trans g2 (by decide), fun g3 H3 g30 g31 hs3 k3 => ⟨_, _, rfl, rfl, ?_⟩⟩
    have kk3 : Kp p H H3 := ((Kp.same s1).trans k2).trans k3
    have oa := oa.kp kk3 na
    have ob := ob.kp kk3 nb
    have e6 : (10 : Int) ^ 6 = 1000000 := by decide
    have e29 : (10 : Int) ^ 29 = 100000000000000000000000000000 := by decide
    have e30 : (10 : Int) ^ 30 = 1000000000000000000000000000000 := by decide
    dsimp only
    generalize hG : 1 + g3 = g
    have gp : 0 < g := by omega
    have gm : g ≤ 10 ^ 6 := by omega
    have d0 := Int.emod_nonneg n (b := g) (by omega)
    have d1 := Int.emod_lt_of_pos n gp
    have d2 := Int.emod_nonneg m (b := g) (by omega)
    have d3 := Int.emod_lt_of_pos m gp
    have f0 := floor_low n g gp
    have f1 : n - n % g - (n - n % g) % g = n - n % g := by rw [f0]; omega
    have far1 : Far (n - n % g) := ⟨by omega, by omega⟩
    have far2 : Far (n - n % g - (n - n % g) % g) := by rw [f1]; exact far1
    have far3 : Far (m - m % g) := ⟨by omega, by omega⟩
    -- low
    refine q_asgP (evm_seen (evm_var rfl oa) (ev_var rfl) (by omega) gm far1) fun v4 H4 e4 ml => ?_
    obtain ⟨xl, rfl, ol⟩ := ml
    have oa := oa.same e4
    have ob := ob.same e4
    have o_a := oa
    have o_low := ol
    refine q_ifF (et_or (et_not (et_test (ev_cmpM T (evm_var rfl o_low) (evm_var rfl o_a)))) (fun _ => (et_or (et_test (ev_op (ev_subS (evm_var rfl o_a) (evm_var rfl o_low)) (ev_var rfl) rv_I0)) (fun _ => (et_test (ev_op (ev_op (ev_int1 (ev_sec (evm_var rfl o_low))) (ev_var rfl) (rv_mod (by omega))) ev_c (rv_ne rfl))))))) ?_ fun H5 e5 => ?_
    · rw [decide_eq_true (show n - n % g ≤ n by omega), decide_eq_false (show ¬ g ≤ n - (n - n % g) by omega), decide_eq_true (congrArg V.int f0)]
      rfl
    have oa := oa.same e5
    have ob := ob.same e5
    have ol := ol.same e5
    refine q_ifF (et_test (ev_neM T (evm_seen (evm_var rfl ol) (ev_var rfl) (by omega) gm far2) (evm_var rfl ol))) ?_ fun H6 e6' => ?_
    · rw [decide_eq_true f1]
      rfl
    have oa := oa.same e6'
    have ob := ob.same e6'
    have ol := ol.same e6'
    have hs6 := ((hs3.same e4).same e5).same e6'
    have kk6 : Kp p H H6 := ((kk3.trans (Kp.same e4)).trans (Kp.same e5)).trans (Kp.same e6')
    have na6 := oa.ne hs6
    have nb6 := ob.ne hs6
    have nl6 := ol.ne hs6
    -- step
    refine ⟨_, rfl, p, 100, rfl, hs6, by decide, by decide, fun t H7 t0 t1 hs7 k7 => ⟨_, _, rfl, rfl, _, rfl, _, _, rfl, rfl, .inl ⟨by omega, by omega⟩, ?_⟩⟩
    have oa := oa.kp k7 na6
    have ob := ob.kp k7 nb6
    have ol := ol.kp k7 nl6
    have c1 : -50000000 ≤ (t - 50) * g := by
      have : -50 * g ≤ (t - 50) * g := Int.mul_le_mul_of_nonneg_right (by omega) (by omega)
      omega
    have c2 : (t - 50) * g ≤ 50000000 := by
      have : (t - 50) * g ≤ 50 * g := Int.mul_le_mul_of_nonneg_right (by omega) (by omega)
      omega
    have c3 : (n + (t - 50) * g) % g = n % g := Int.add_mul_emod_self_right n (t - 50) g
    dsimp only
    generalize (t - 50) * g = st at c1 c2 c3 ⊢
    have far4 : Far (n + st) := ⟨by omega, by omega⟩
    have far5 : Far (n + st - (n + st) % g) := ⟨by omega, by omega⟩
    have far6 : Far (n - n % g + st) := ⟨by omega, by omega⟩
    refine q_ifF (et_test (ev_neM T (evm_seen (evm_addI (evm_var rfl oa) (ev_var rfl) far4) (ev_var rfl) (by omega) gm far5) (evm_addI (evm_var rfl ol) (ev_var rfl) far6))) ?_ fun H8 e8 => ?_
    · rw [decide_eq_true (show n + st - (n + st) % g = n - n % g + st by omega)]
      rfl
    have oa := oa.same e8
    have ob := ob.same e8
    have ol := ol.same e8
    refine s_ret (ev_is (w := .bl true) (ev_orV (ev_notV (ev_cmpM T (evm_var rfl oa) (evm_var rfl ob))) (fun _ => ev_cmpM T (evm_var rfl ol) (evm_seen (evm_var rfl ob) (ev_var rfl) (by omega) gm far3))) ?_) fun H9 e9 => ?_
    · by_cases hnm : n ≤ m
      · rw [decide_eq_true hnm, decide_eq_true (floor_mono gp hnm)]
        rfl
      · rw [decide_eq_false hnm]
        rfl
    · exact q H9 ((hs7.same e8).same e9) (((kk6.trans k7).trans (Kp.same e8)).trans (Kp.same e9))
theorem ok_law {f : Addr} {fd : FuncData} (F : Fun K "law" "law" s_law f fd) (B : Bl mg) (T : MoTxt K mg C) (T2 : MoTxt2 K C ga gr gs)
    (c__law_source : Fn P w K mg base "_law_source" ["script", "turn"] CX0 1 (spSource K)) (c__law_draw : Fn P w K mg base "_law_draw" ["source", "amount"] CX0 1 spDraw) (c__law_rounds : Fn P w K mg base "_law_rounds" ["source", "a", "b"] CX0 8 (spRounds C))
    (c_Moment : Nw P w K mg base "Moment" C ["self", "seconds"] CX0 3 (spMoInit C))
    (c_Moment___add__ : Mt P w K mg base C "__add__" ["self", "step"] CX0 6 (spMoMoved C)) (c_Moment___radd__ : Mt P w K mg base C "__radd__" ["self", "step"] CX0 6 (spMoMoved C)) (c_Moment___sub__ : Mt P w K mg base C "__sub__" ["self", "other"] CX0 5 (spMoSub C))
    (c_Moment___lt__ : Mt P w K mg base C "__lt__" ["self", "other"] CX0 4 (spMoCmp C fun n m => decide (n < m))) (c_Moment___le__ : Mt P w K mg base C "__le__" ["self", "other"] CX0 4 (spMoCmp C fun n m => decide (n ≤ m)))
    (c_Moment___gt__ : Mt P w K mg base C "__gt__" ["self", "other"] CX0 4 (spMoCmp C fun n m => decide (m < n))) (c_Moment___ge__ : Mt P w K mg base C "__ge__" ["self", "other"] CX0 4 (spMoCmp C fun n m => decide (m ≤ n)))
    (c_Moment___eq__ : Mt P w K mg base C "__eq__" ["self", "other"] CX0 3 (spMoEq K C)) :
    FnOk P w K mg base CX0 14 f fd ["script"] (spLaw K) := by
  refine F.ok sc_law (fun vs H Q E h => ?_) (fun cdv A outer s H vs Q E hr h => ?_)
  · obtain ⟨a, ns, rfl, _⟩ := h
    rfl
  · obtain ⟨a, ns, rfl, hS, hlen, q⟩ := h
    refine ⟨_, (pss_cons (ps_for PassesOwn.never rfl (pi_range1 (by rfl) B.range_ (pa_cons (pe_callB (call_max2 rfl) (by rfl) B.max_ (by decide +kernel) (pa_cons pe_int (pa_cons (pe_callB (call_min2 rfl) (by rfl) B.min_ (by decide +kernel) (pa_cons (pe_callB call_len_seq (by rfl) B.len_ (by decide +kernel) (pa_cons (pv 0) pa_nil)) (pa_cons pe_int pa_nil))) pa_nil))) pa_nil)) (pg_name (i := 1) sc_law.nd rfl (Or.inl rfl)) (pss_cons (ps_set (i := 2) sc_law.nd rfl (Or.inr rfl) (pe_fn c__law_source hr pass0 (pa_cons (pv 0) (pa_cons (pv 1) pa_nil))))
      (pss_cons (ps_set (i := 3) sc_law.nd rfl (Or.inr rfl) (pe_ix ix_list (pe_lst (pa_cons pe_int (pa_cons (pe_op op_pow pe_int pe_int) pa_nil))) (pe_fn c__law_draw hr pass0 (pa_cons (pv 2) (pa_cons pe_int pa_nil))) (fun _ _ => rfl)))
      (pss_cons (ps_asg (pe_lc (own := [("k", 9)]) (by rfl) sc_law.nd (pi_range1 (by rfl) B.range_ (pa_cons pe_int pa_nil)) (blkOk_by (own := [("k", 9)]) (N := ["script", "turn", "source", "far", "a", "b", "c", "step", "more", "k"]) (sc := defScope s_law) (by decide +kernel)) (fun _ _ _ _ _ => (pg_name (i := 9) sc_law.nd rfl (Or.inl rfl))) (fun _ _ _ _ _ => pts_nil) (fun _ _ _ _ _ => (pe_nw c_Moment hr pass0 (pa_cons (pe_op op_sub (pe_fn c__law_draw hr pass0 (pa_cons (pv 2) (pa_cons (pv 3) pa_nil))) (pe_op op_fdivW (pv 3) pe_int)) pa_nil)))) (pg_unl (by rfl) (pgs_cons (pg_name (i := 4) sc_law.nd rfl (Or.inl rfl)) (pgs_cons (pg_name (i := 5) sc_law.nd rfl (Or.inl rfl)) (pgs_cons (pg_name (i := 6) sc_law.nd rfl (Or.inl rfl)) pgs_nil)))))
      (pss_cons (ps_par (i := 7) (j := 8) (by rfl) sc_law.nd rfl rfl (by decide) rfl rfl (pa_cons (pe_op op_sub (pe_fn c__law_draw hr pass0 (pa_cons (pv 2) (pa_cons (pv 3) pa_nil))) (pe_op op_fdivW (pv 3) pe_int)) (pa_cons (pe_op op_sub (pe_fn c__law_draw hr pass0 (pa_cons (pv 2) (pa_cons (pv 3) pa_nil))) (pe_op op_fdivW (pv 3) pe_int)) pa_nil)) (by rfl))
      (pss_cons (ps_if (pt_cmpR (op_neC c_Moment___eq__ T2.ne T2.ob hr pass0) (pe_op (op_binI (op := .Add) c_Moment___add__ T2.sf T2.gr T2.ia T2.ir T2.sub hr pass0) (pe_op (op_binI (op := .Add) c_Moment___add__ T2.sf T2.gr T2.ia T2.ir T2.sub hr pass0) (pv 4) (pv 7)) (pv 8)) (pe_op (op_binI (op := .Add) c_Moment___add__ T2.sf T2.gr T2.ia T2.ir T2.sub hr pass0) (pv 4) (pe_op op_add (pv 7) (pv 8))) (nomark _)) (pss_one (ps_ret pe_bl)) pss_nil)
      (pss_cons (ps_if (PW.pt (pw_or (pt_cmpR (op_neC c_Moment___eq__ T2.ne T2.ob hr pass0) (pe_op (op_binI (op := .Sub) c_Moment___sub__ T2.sf T2.gs T2.isb T2.isr T2.sub hr pass0) (pe_op (op_binI (op := .Add) c_Moment___add__ T2.sf T2.gr T2.ia T2.ir T2.sub hr pass0) (pv 4) (pv 7)) (pv 7)) (pv 4) (nomark _)) (pw_or1 (pt_cmpR (op_neC c_Moment___eq__ T2.ne T2.ob hr pass0) (pe_op (op_radd c_Moment___radd__ T2.sf T2.ga T2.sub2 hr pass0) (pv 7) (pv 4)) (pe_op (op_binI (op := .Add) c_Moment___add__ T2.sf T2.gr T2.ia T2.ir T2.sub hr pass0) (pv 4) (pv 7)) (nomark _))))) (pss_one (ps_ret pe_bl)) pss_nil)
      (pss_cons (ps_if (pt_cmpR (op_neC c_Moment___eq__ T2.ne T2.ob hr pass0) (pe_op (op_binI (op := .Sub) c_Moment___sub__ T2.sf T2.gs T2.isb T2.isr T2.sub hr pass0) (pv 4) (pv 7)) (pe_op (op_binI (op := .Add) c_Moment___add__ T2.sf T2.gr T2.ia T2.ir T2.sub hr pass0) (pv 4) (pe_un un_neg (pv 7))) (nomark _)) (pss_one (ps_ret pe_bl)) pss_nil)
      (pss_cons (ps_if (pt_cmpR op_ne (pe_op op_add (pe_op (op_binS (op := .Sub) c_Moment___sub__ T2.sf hr pass0) (pv 4) (pv 5)) (pe_op (op_binS (op := .Sub) c_Moment___sub__ T2.sf hr pass0) (pv 5) (pv 6))) (pe_op (op_binS (op := .Sub) c_Moment___sub__ T2.sf hr pass0) (pv 4) (pv 6)) (nomark _)) (pss_one (ps_ret pe_bl)) pss_nil)
      (pss_cons (ps_if (pt_cmpR op_ne (pe_op op_add (pe_callTy call_int1 (by rfl) B.int_ (by decide +kernel) (pa_cons (pe_op (op_binS (op := .Sub) c_Moment___sub__ T2.sf hr pass0) (pv 4) (pv 5)) pa_nil)) (pe_callTy call_int1 (by rfl) B.int_ (by decide +kernel) (pa_cons (pe_op (op_binS (op := .Sub) c_Moment___sub__ T2.sf hr pass0) (pv 5) (pv 4)) pa_nil))) pe_int (nomark _)) (pss_one (ps_ret pe_bl)) pss_nil)
      (pss_cons (ps_if (PW.pt (pw_or (pt_cmpR (op_neC c_Moment___eq__ T2.ne T2.ob hr pass0) (pe_op (op_binI (op := .Add) c_Moment___add__ T2.sf T2.gr T2.ia T2.ir T2.sub hr pass0) (pv 5) (pe_op (op_binS (op := .Sub) c_Moment___sub__ T2.sf hr pass0) (pv 4) (pv 5))) (pv 4) (nomark _)) (pw_or1 (pt_cmpR op_ne (pe_op (op_binS (op := .Sub) c_Moment___sub__ T2.sf hr pass0) (pv 4) (pv 4)) pe_int (nomark _))))) (pss_one (ps_ret pe_bl)) pss_nil)
      (pss_cons (ps_if (pt_cmpR op_ne (pe_bm PySem.F.plainAttrs_list PySem.F.slot_list_count PySem.F.type_list_count mt_countV (pe_lst (pa_cons (pe_cmpR (op_cmpC (op := .Lt) c_Moment___lt__ hr pass0) (pv 4) (pv 5) (nomark _)) (pa_cons (pe_cmpR (op_cmpC (op := .Eq) c_Moment___eq__ hr pass0) (pv 4) (pv 5) (nomark _)) (pa_cons (pe_cmpR (op_cmpC (op := .Gt) c_Moment___gt__ hr pass0) (pv 4) (pv 5) (nomark _)) pa_nil)))) (pa_cons pe_bl pa_nil)) pe_int (nomark _)) (pss_one (ps_ret pe_bl)) pss_nil)
      (pss_cons (ps_if (pt_cmpR op_ne (pe_cmpR (op_cmpC (op := .LtE) c_Moment___le__ hr pass0) (pv 4) (pv 5) (nomark _)) (pe_or (pe_cmpR (op_cmpC (op := .Lt) c_Moment___lt__ hr pass0) (pv 4) (pv 5) (nomark _)) (pe_one (pe_cmpR (op_cmpC (op := .Eq) c_Moment___eq__ hr pass0) (pv 4) (pv 5) (nomark _)))) (nomark _)) (pss_one (ps_ret pe_bl)) pss_nil)
      (pss_cons (ps_if (pt_cmpR op_ne (pe_cmpR (op_cmpC (op := .GtE) c_Moment___ge__ hr pass0) (pv 4) (pv 5) (nomark _)) (pe_cmpR (op_cmpC (op := .LtE) c_Moment___le__ hr pass0) (pv 5) (pv 4) (nomark _)) (nomark _)) (pss_one (ps_ret pe_bl)) pss_nil)
      (pss_cons (ps_if (pt_cmpR op_ne (pe_cmpR (op_cmpC (op := .Lt) c_Moment___lt__ hr pass0) (pv 4) (pv 5) (nomark _)) (pe_cmpR op_lt (pe_op (op_binS (op := .Sub) c_Moment___sub__ T2.sf hr pass0) (pv 4) (pv 5)) pe_int (nomark _)) (nomark _)) (pss_one (ps_ret pe_bl)) pss_nil)
      (pss_cons (ps_if (pt_cmpR op_ne (pe_cmpR (op_cmpC (op := .Lt) c_Moment___lt__ hr pass0) (pe_op (op_binI (op := .Add) c_Moment___add__ T2.sf T2.gr T2.ia T2.ir T2.sub hr pass0) (pv 4) (pv 7)) (pe_op (op_binI (op := .Add) c_Moment___add__ T2.sf T2.gr T2.ia T2.ir T2.sub hr pass0) (pv 5) (pv 7)) (nomark _)) (pe_cmpR (op_cmpC (op := .Lt) c_Moment___lt__ hr pass0) (pv 4) (pv 5) (nomark _)) (nomark _)) (pss_one (ps_ret pe_bl)) pss_nil)
      (pss_cons (ps_if (PW.pt (pw_and (pt_cmpR (op_cmpC (op := .LtE) c_Moment___le__ hr pass0) (pv 4) (pv 5) (nomark _)) (pw_and (pt_cmpR (op_cmpC (op := .LtE) c_Moment___le__ hr pass0) (pv 5) (pv 6) (nomark _)) (pw_and1 (pt_not (pt_cmpR (op_cmpC (op := .LtE) c_Moment___le__ hr pass0) (pv 4) (pv 6) (nomark _))))))) (pss_one (ps_ret pe_bl)) pss_nil)
      (pss_one (ps_if (pt_not (pt_val (pe_fn c__law_rounds hr pass0 (pa_cons (pv 2) (pa_cons (pv 4) (pa_cons (pv 5) pa_nil)))))) (pss_one (ps_ret pe_bl)) pss_nil)))))))))))))))))))
      (pss_one (ps_ret pe_bl))), ?_⟩
    have tl := turns_le ((ns.map V.int).length : Int)
    refine ⟨_, rfl, a, _, rfl, .inl hS, _, _, rfl, _, _, rfl, _, rfl, by omega, by omega, ?_⟩
    refine for_range (lo := 0) (fun i σ H' => ∃ y1 y2 y3 y4 y5 y6 y7 y8 y9 : Option V, σ = [some (.ref a), y1, y2, y3, y4, y5, y6, y7, y8, y9] ∧ SqL K H' a (ns.map V.int)) ⟨none, none, none, none, none, none, none, none, none, rfl, hS⟩ ?_ ?_
    · rintro i σ H0 hi ⟨y1, y2, y3, y4, y5, y6, y7, y8, y9, rfl, hS0⟩
      refine ⟨_, rfl, _, rfl, a, ns, _, rfl, hS0, hlen, by omega, by omega, fun p H1 np s1 src1 => ?_⟩
      -- far
      refine ⟨_, _, rfl, rfl, ⟨by decide, by decide, by decide⟩, (by decide : 2 ≤ sizeLine), fun l nl => ?_⟩
      have s2 := same_upd (o := .lst [.int 12, .int (10 ^ (29 : Int).toNat)]) nl
      refine ⟨_, rfl, p, 2, rfl, src1.same s2, by decide, by decide, fun r H2 r0 r1 src2 k2 => ?_⟩
      obtain ⟨far, hf, f1, f2⟩ := pick2 (x := 12) (y := 10 ^ (29 : Int).toNat) r0 r1 (10 ^ 29) (by decide) (by decide)
      refine ⟨l, _, r, _, rfl, rfl, SqL.of (k2 _ _ (src_ne nl src1) upd_same), hf, ?_⟩
      have kk2 : Kp p H0 H2 := ((Kp.same s1).trans (Kp.same s2)).trans k2
      have e29 : (10 : Int) ^ 29 = 100000000000000000000000000000 := by decide
      have e30 : (10 : Int) ^ 30 = 1000000000000000000000000000000 := by decide
      have f40 : far ≤ 10 ^ 40 := Int.le_trans f2 (by decide)
      -- a, b, c
      refine ⟨3, rfl, by decide, by decide, fun D nD => ?_⟩
      refine lc_range (lo := 0) (n := 3) (fun i H' => Src H' p ∧ Kp p H2 H' ∧ ∃ xs : List (Addr × Int), xs.length = i ∧ H' D = some (.lst (xs.map fun x => .ref x.1)) ∧ ∀ x ∈ xs, MoAt C H' x.1 x.2 ∧ x.1 ≠ D ∧ -(10 ^ 29) ≤ x.2 ∧ x.2 ≤ 10 ^ 29) ?_ ?_ ?_
      · exact ⟨src2.same (same_upd nD), Kp.same (same_upd nD), [], rfl, upd_same, fun x hx => by cases hx⟩
      · rintro j Hj hj ⟨srcj, kj, xs, hx, hD, hall⟩
        have nDp := src_ne nD src2
        refine ⟨rfl, ?_⟩
        refine ⟨_, rfl, _, rfl, p, far, rfl, srcj, f1, f40, fun r3 H3 r30 r31 src3 k3 => ⟨_, rfl, _, _, rfl, rfl, ⟨by decide, by decide⟩, _, _, rfl, rfl, fun x dx nx nd ne => ?_⟩⟩
        have hm := made_mo (C := C) (n := r3 - far / 2) nx nd
        have hD3 := k3 _ _ nDp hD
        have nxD : D ≠ x := ne_of_none hD3 nx
        refine ⟨x, dx, _, rfl, upd_same, ⟨by omega, by omega⟩, rfl, _, hm.1 _ _ hD3, by rw [List.length_map, hx]; exact Nat.lt_of_lt_of_le hj (by decide), ?_⟩
        generalize upd (upd (upd H3 dx (.own x)) x (.ins C dx [])) x (.ins C dx [("own_seconds", .int (r3 - far / 2))]) = H4 at hm ⊢
        have up : ∀ b o, b ≠ D → H4 b = some o → upd H4 D (.lst (xs.map (fun x => V.ref x.1) ++ [.ref x])) b = some o := fun b o nb e => by rw [upd_ne nb]; exact e
        refine ⟨?_, ?_, xs ++ [(x, r3 - far / 2)], by rw [List.length_append, hx]; rfl, by rw [upd_same, List.map_append]; rfl, fun z hz => ?_⟩
        · obtain ⟨a1, a2, e3, a4⟩ := src3.same hm.1
          exact ⟨a1, a2, up _ _ nDp.symm e3, a4⟩
        · intro b o nb e
          exact up _ _ (ne_of_none e nD) (hm.1 _ _ (k3 _ _ nb (kj _ _ nb e)))
        · rcases List.mem_append.mp hz with hz | hz
          · obtain ⟨⟨dz, h1⟩, h2, h3⟩ := hall z hz
            have nzp : z.1 ≠ p := MoAt.ne ⟨dz, h1⟩ srcj
            exact ⟨⟨dz, up _ _ h2 (hm.1 _ _ (k3 _ _ nzp h1))⟩, h2, h3⟩
          · rcases List.mem_singleton.mp hz with rfl
            obtain ⟨dz, h1⟩ := hm.2
            exact ⟨⟨dz, up _ _ nxD.symm h1⟩, nxD.symm, by show -(10 ^ 29) ≤ r3 - far / 2; omega, by show r3 - far / 2 ≤ 10 ^ 29; omega⟩
      · rintro H3 ⟨src3, k3, xs, hx, hD, hall⟩
        obtain ⟨⟨xa, na⟩, ⟨xb, nb⟩, ⟨xc, nc⟩, rfl⟩ : ∃ x y z, xs = [x, y, z] := by
          match xs, hx with
          | [x, y, z], _ => exact ⟨x, y, z, rfl⟩
        obtain ⟨o_a, _, a1, a2⟩ := hall (xa, na) (by simp)
        obtain ⟨o_b, _, b1, b2⟩ := hall (xb, nb) (by simp)
        obtain ⟨o_c, _, c1, c2⟩ := hall (xc, nc) (by simp)
        dsimp only at o_a o_b o_c a1 a2 b1 b2 c1 c2
        refine ⟨D, _, rfl, SqL.of hD, rfl, _, _, rfl, _, _, rfl, _, _, rfl, rfl, ?_⟩
        have nap := o_a.ne src3
        have nbp := o_b.ne src3
        have ncp := o_c.ne src3
        -- step, more
        refine ⟨_, rfl, _, rfl, p, far, rfl, src3, f1, f40, fun st H4 st0 st1 src4 k4 => ⟨_, rfl, _, _, rfl, rfl, ⟨by decide, by decide⟩, _, _, rfl, rfl, _, rfl, _, rfl, p, far, rfl, src4, f1, f40, fun mo H5 mo0 mo1 src5 k5 => ⟨_, rfl, _, _, rfl, rfl, ⟨by decide, by decide⟩, _, _, rfl, rfl, _, _, rfl, ?_⟩⟩⟩
        have o_a := o_a.kp (k4.trans k5) nap
        have o_b := o_b.kp (k4.trans k5) nbp
        have o_c := o_c.kp (k4.trans k5) ncp
        have ss : Ex H5 H5 := Ex.refl H5
        dsimp only
        generalize hst : st - far / 2 = step
        generalize hmo : mo - far / 2 = more
        have p1 : -(10 ^ 29) ≤ step ∧ step ≤ 10 ^ 29 := by omega
        have p2 : -(10 ^ 29) ≤ more ∧ more ≤ 10 ^ 29 := by omega
        refine q_ifF (et_test (ev_neM T (evm_addI (evm_addI (evm_var rfl o_a) (ev_var rfl) ⟨by omega, by omega⟩) (ev_var rfl) ⟨by omega, by omega⟩) (evm_addI (evm_var rfl o_a) (ev_op (ev_var rfl) (ev_var rfl) rv_I0) ⟨by omega, by omega⟩))) ?_ fun H104 e104 => ?_
        · walk_at "side"
        have o_a := o_a.same e104
        have o_b := o_b.same e104
        have o_c := o_c.same e104
        have ss := ss.trans e104
        refine q_ifF (et_or (et_test (ev_neM T (evm_subI (evm_addI (evm_var rfl o_a) (ev_var rfl) ⟨by omega, by omega⟩) (ev_var rfl) ⟨by omega, by omega⟩) (evm_var rfl o_a))) (fun _ => (et_test (ev_neM T (evm_radd (ev_var rfl) (evm_var rfl o_a) ⟨by omega, by omega⟩) (evm_addI (evm_var rfl o_a) (ev_var rfl) ⟨by omega, by omega⟩))))) ?_ fun H105 e105 => ?_
        · walk_at "side"
        have o_a := o_a.same e105
        have o_b := o_b.same e105
        have o_c := o_c.same e105
        have ss := ss.trans e105
        refine q_ifF (et_test (ev_neM T (evm_subI (evm_var rfl o_a) (ev_var rfl) ⟨by omega, by omega⟩) (evm_addI (evm_var rfl o_a) (ev_un (ev_var rfl) ru_neg) ⟨by omega, by omega⟩))) ?_ fun H106 e106 => ?_
        · walk_at "side"
        have o_a := o_a.same e106
        have o_b := o_b.same e106
        have o_c := o_c.same e106
        have ss := ss.trans e106
        refine q_ifF (et_test (ev_op (ev_op (ev_subS (evm_var rfl o_a) (evm_var rfl o_b)) (ev_subS (evm_var rfl o_b) (evm_var rfl o_c)) rv_I0) (ev_subS (evm_var rfl o_a) (evm_var rfl o_c)) (rv_ne rfl))) ?_ fun H107 e107 => ?_
        · walk_at "side"
        have o_a := o_a.same e107
        have o_b := o_b.same e107
        have o_c := o_c.same e107
        have ss := ss.trans e107
        refine q_ifF (et_test (ev_op (ev_op (ev_int1 (ev_subS (evm_var rfl o_a) (evm_var rfl o_b))) (ev_int1 (ev_subS (evm_var rfl o_b) (evm_var rfl o_a))) rv_I0) ev_c (rv_ne rfl))) ?_ fun H108 e108 => ?_
        · walk_at "side"
        have o_a := o_a.same e108
        have o_b := o_b.same e108
        have o_c := o_c.same e108
        have ss := ss.trans e108
        refine q_ifF (et_or (et_test (ev_neM T (evm_addI (evm_var rfl o_b) (ev_subS (evm_var rfl o_a) (evm_var rfl o_b)) ⟨by omega, by omega⟩) (evm_var rfl o_a))) (fun _ => (et_test (ev_op (ev_subS (evm_var rfl o_a) (evm_var rfl o_a)) ev_c (rv_ne rfl))))) ?_ fun H109 e109 => ?_
        · walk_at "side"
        have o_a := o_a.same e109
        have o_b := o_b.same e109
        have o_c := o_c.same e109
        have ss := ss.trans e109
        refine q_ifF (et_test (ev_op (ev_countV (el_lst (ea_cons (ev_cmpM T (evm_var rfl o_a) (evm_var rfl o_b)) (ea_cons (ev_eqM T (evm_var rfl o_a) (evm_var rfl o_b)) (ea_cons (ev_cmpM T (evm_var rfl o_a) (evm_var rfl o_b)) ea_nil))) (Nat.le_of_ble_eq_true rfl)) ev_c rfl rfl) ev_c (rv_ne rfl))) ?_ fun H110 e110 => ?_
        · walk_at "side"
        have o_a := o_a.same e110
        have o_b := o_b.same e110
        have o_c := o_c.same e110
        have ss := ss.trans e110
        refine q_ifF (et_test (ev_op (ev_cmpM T (evm_var rfl o_a) (evm_var rfl o_b)) (ev_orV (ev_cmpM T (evm_var rfl o_a) (evm_var rfl o_b)) (fun _ => (ev_eqM T (evm_var rfl o_a) (evm_var rfl o_b)))) (rv_ne rfl))) ?_ fun H111 e111 => ?_
        · walk_at "side"
        have o_a := o_a.same e111
        have o_b := o_b.same e111
        have o_c := o_c.same e111
        have ss := ss.trans e111
        refine q_ifF (et_test (ev_op (ev_cmpM T (evm_var rfl o_a) (evm_var rfl o_b)) (ev_cmpM T (evm_var rfl o_b) (evm_var rfl o_a)) (rv_ne rfl))) ?_ fun H112 e112 => ?_
        · walk_at "side"
        have o_a := o_a.same e112
        have o_b := o_b.same e112
        have o_c := o_c.same e112
        have ss := ss.trans e112
        refine q_ifF (et_test (ev_op (ev_cmpM T (evm_var rfl o_a) (evm_var rfl o_b)) (ev_op (ev_subS (evm_var rfl o_a) (evm_var rfl o_b)) ev_c rv_I0) (rv_ne rfl))) ?_ fun H113 e113 => ?_
        · walk_at "side"
        have o_a := o_a.same e113
        have o_b := o_b.same e113
        have o_c := o_c.same e113
        have ss := ss.trans e113
        refine q_ifF (et_test (ev_op (ev_cmpM T (evm_addI (evm_var rfl o_a) (ev_var rfl) ⟨by omega, by omega⟩) (evm_addI (evm_var rfl o_b) (ev_var rfl) ⟨by omega, by omega⟩)) (ev_cmpM T (evm_var rfl o_a) (evm_var rfl o_b)) (rv_ne rfl))) ?_ fun H114 e114 => ?_
        · walk_at "side"
        have o_a := o_a.same e114
        have o_b := o_b.same e114
        have o_c := o_c.same e114
        have ss := ss.trans e114
        refine q_ifF (et_and (et_test (ev_cmpM T (evm_var rfl o_a) (evm_var rfl o_b))) (fun _ => (et_and (et_test (ev_cmpM T (evm_var rfl o_b) (evm_var rfl o_c))) (fun _ => (et_not (et_test (ev_cmpM T (evm_var rfl o_a) (evm_var rfl o_c)))))))) ?_ fun H115 e115 => ?_
        · walk_at "side"
        have o_a := o_a.same e115
        have o_b := o_b.same e115
        have o_c := o_c.same e115
        have ss := ss.trans e115
        refine ⟨_, rfl, _, rfl, _, rfl, p, xa, xb, na, nb, rfl, src5.same ss, o_a, o_b, ⟨a1, a2⟩, ⟨b1, b2⟩, fun H6 src6 k6 => ⟨_, rfl, iteF ?_⟩⟩
        refine ⟨_, _, _, _, _, _, _, _, _, rfl, ?_⟩
        exact sq_kp hS0 np ((((kk2.trans k3).trans (k4.trans k5)).trans (Kp.same ss)).trans k6)
    · rintro σ H' ⟨y1, y2, y3, y4, y5, y6, y7, y8, y9, rfl, _⟩
      exact q H'
end
end Ag
namespace Ag
open PySem PySem.Spec PyProof.Rows L2
theorem all_mk {l : PySem.W.OpenLaw} {w : World} {K : PySem.W.Frag} {h : Heap} {mg : Str → Option Value} {fa C_Moment f_is_whole f_is_between f__law_source f__law_draw f__law_rounds f_law f_Moment___init__ f_Moment_seconds p_Moment_seconds f_Moment_moved f_Moment___add__ f_Moment___radd__ f_Moment___sub__ f_Moment_behind f_Moment___lt__ f_Moment___le__ f_Moment___gt__ f_Moment___ge__ f_Moment___eq__ f_Moment_seen f_Moment___rsub__ : Addr} (X : K.In h) (G : h.Ns mainGlobals mg) (hfa : mg "law" = some (.ref fa))
    {od_is_whole an_is_whole : Option Addr} {sl_is_whole : Array (Option Value)} {oc_is_whole kV_is_whole dc_is_whole pm_is_whole cd_is_whole ct_is_whole : Value} {od_is_between an_is_between : Option Addr} {sl_is_between : Array (Option Value)} {oc_is_between kV_is_between dc_is_between pm_is_between cd_is_between ct_is_between : Value} {od__law_source an__law_source : Option Addr} {sl__law_source : Array (Option Value)} {oc__law_source kV__law_source dc__law_source pm__law_source cd__law_source ct__law_source : Value} {od__law_draw an__law_draw : Option Addr} {sl__law_draw : Array (Option Value)} {oc__law_draw kV__law_draw dc__law_draw pm__law_draw cd__law_draw ct__law_draw : Value} {od__law_rounds an__law_rounds : Option Addr} {sl__law_rounds : Array (Option Value)} {oc__law_rounds kV__law_rounds dc__law_rounds pm__law_rounds cd__law_rounds ct__law_rounds : Value} {od_law an_law : Option Addr} {sl_law : Array (Option Value)} {oc_law kV_law dc_law pm_law cd_law ct_law : Value} {od_Moment___init__ an_Moment___init__ : Option Addr} {sl_Moment___init__ : Array (Option Value)} {oc_Moment___init__ kV_Moment___init__ dc_Moment___init__ pm_Moment___init__ cd_Moment___init__ ct_Moment___init__ : Value} {rs_Moment_seconds : List Value} {od_Moment_seconds an_Moment_seconds : Option Addr} {sl_Moment_seconds : Array (Option Value)} {oc_Moment_seconds kV_Moment_seconds dc_Moment_seconds pm_Moment_seconds cd_Moment_seconds ct_Moment_seconds : Value} {od_Moment_moved an_Moment_moved : Option Addr} {sl_Moment_moved : Array (Option Value)} {oc_Moment_moved kV_Moment_moved dc_Moment_moved pm_Moment_moved cd_Moment_moved ct_Moment_moved : Value} {od_Moment___add__ an_Moment___add__ : Option Addr} {sl_Moment___add__ : Array (Option Value)} {oc_Moment___add__ kV_Moment___add__ dc_Moment___add__ pm_Moment___add__ cd_Moment___add__ ct_Moment___add__ : Value} {od_Moment___radd__ an_Moment___radd__ : Option Addr} {sl_Moment___radd__ : Array (Option Value)} {oc_Moment___radd__ kV_Moment___radd__ dc_Moment___radd__ pm_Moment___radd__ cd_Moment___radd__ ct_Moment___radd__ : Value} {od_Moment___sub__ an_Moment___sub__ : Option Addr} {sl_Moment___sub__ : Array (Option Value)} {oc_Moment___sub__ kV_Moment___sub__ dc_Moment___sub__ pm_Moment___sub__ cd_Moment___sub__ ct_Moment___sub__ : Value} {od_Moment_behind an_Moment_behind : Option Addr} {sl_Moment_behind : Array (Option Value)} {oc_Moment_behind kV_Moment_behind dc_Moment_behind pm_Moment_behind cd_Moment_behind ct_Moment_behind : Value} {od_Moment___lt__ an_Moment___lt__ : Option Addr} {sl_Moment___lt__ : Array (Option Value)} {oc_Moment___lt__ kV_Moment___lt__ dc_Moment___lt__ pm_Moment___lt__ cd_Moment___lt__ ct_Moment___lt__ : Value} {od_Moment___le__ an_Moment___le__ : Option Addr} {sl_Moment___le__ : Array (Option Value)} {oc_Moment___le__ kV_Moment___le__ dc_Moment___le__ pm_Moment___le__ cd_Moment___le__ ct_Moment___le__ : Value} {od_Moment___gt__ an_Moment___gt__ : Option Addr} {sl_Moment___gt__ : Array (Option Value)} {oc_Moment___gt__ kV_Moment___gt__ dc_Moment___gt__ pm_Moment___gt__ cd_Moment___gt__ ct_Moment___gt__ : Value} {od_Moment___ge__ an_Moment___ge__ : Option Addr} {sl_Moment___ge__ : Array (Option Value)} {oc_Moment___ge__ kV_Moment___ge__ dc_Moment___ge__ pm_Moment___ge__ cd_Moment___ge__ ct_Moment___ge__ : Value} {od_Moment___eq__ an_Moment___eq__ : Option Addr} {sl_Moment___eq__ : Array (Option Value)} {oc_Moment___eq__ kV_Moment___eq__ dc_Moment___eq__ pm_Moment___eq__ cd_Moment___eq__ ct_Moment___eq__ : Value} {od_Moment_seen an_Moment_seen : Option Addr} {sl_Moment_seen : Array (Option Value)} {oc_Moment_seen kV_Moment_seen dc_Moment_seen pm_Moment_seen cd_Moment_seen ct_Moment_seen : Value} {od_Moment___rsub__ an_Moment___rsub__ : Option Addr} {sl_Moment___rsub__ : Array (Option Value)} {oc_Moment___rsub__ kV_Moment___rsub__ dc_Moment___rsub__ pm_Moment___rsub__ cd_Moment___rsub__ ct_Moment___rsub__ : Value} {i_FARTHEST : Int} {t_FARTHEST : Tok} {i_LARGEST_GRAIN : Int} {t_LARGEST_GRAIN : Tok}
    (a_Moment : PySem.W.nsIn K mainGlobals "Moment" = some (some (.ref C_Moment)))
    (a_is_whole : PySem.W.nsIn K mainGlobals "is_whole" = some (some (.ref f_is_whole)))
    (l_is_whole : K.lookup f_is_whole = some ⟨oc_is_whole, od_is_whole, .func (PySem.W.fnOf "is_whole" "is_whole" (defArgs s_is_whole) (defBody s_is_whole) (defScope s_is_whole) .none kV_is_whole dc_is_whole pm_is_whole an_is_whole cd_is_whole ct_is_whole), sl_is_whole⟩)
    (c_is_whole : PySem.W.codeIn K cd_is_whole "is_whole" = true)
    (k_is_whole : PySem.W.keepIn K (.ref f_is_whole) = true)
    (a_is_between : PySem.W.nsIn K mainGlobals "is_between" = some (some (.ref f_is_between)))
    (l_is_between : K.lookup f_is_between = some ⟨oc_is_between, od_is_between, .func (PySem.W.fnOf "is_between" "is_between" (defArgs s_is_between) (defBody s_is_between) (defScope s_is_between) .none kV_is_between dc_is_between pm_is_between an_is_between cd_is_between ct_is_between), sl_is_between⟩)
    (c_is_between : PySem.W.codeIn K cd_is_between "is_between" = true)
    (k_is_between : PySem.W.keepIn K (.ref f_is_between) = true)
    (a__law_source : PySem.W.nsIn K mainGlobals "_law_source" = some (some (.ref f__law_source)))
    (l__law_source : K.lookup f__law_source = some ⟨oc__law_source, od__law_source, .func (PySem.W.fnOf "_law_source" "_law_source" (defArgs s__law_source) (defBody s__law_source) (defScope s__law_source) .none kV__law_source dc__law_source pm__law_source an__law_source cd__law_source ct__law_source), sl__law_source⟩)
    (c__law_source : PySem.W.codeIn K cd__law_source "_law_source" = true)
    (k__law_source : PySem.W.keepIn K (.ref f__law_source) = true)
    (a__law_draw : PySem.W.nsIn K mainGlobals "_law_draw" = some (some (.ref f__law_draw)))
    (l__law_draw : K.lookup f__law_draw = some ⟨oc__law_draw, od__law_draw, .func (PySem.W.fnOf "_law_draw" "_law_draw" (defArgs s__law_draw) (defBody s__law_draw) (defScope s__law_draw) .none kV__law_draw dc__law_draw pm__law_draw an__law_draw cd__law_draw ct__law_draw), sl__law_draw⟩)
    (c__law_draw : PySem.W.codeIn K cd__law_draw "_law_draw" = true)
    (k__law_draw : PySem.W.keepIn K (.ref f__law_draw) = true)
    (a__law_rounds : PySem.W.nsIn K mainGlobals "_law_rounds" = some (some (.ref f__law_rounds)))
    (l__law_rounds : K.lookup f__law_rounds = some ⟨oc__law_rounds, od__law_rounds, .func (PySem.W.fnOf "_law_rounds" "_law_rounds" (defArgs s__law_rounds) (defBody s__law_rounds) (defScope s__law_rounds) .none kV__law_rounds dc__law_rounds pm__law_rounds an__law_rounds cd__law_rounds ct__law_rounds), sl__law_rounds⟩)
    (c__law_rounds : PySem.W.codeIn K cd__law_rounds "_law_rounds" = true)
    (k__law_rounds : PySem.W.keepIn K (.ref f__law_rounds) = true)
    (a_law : PySem.W.nsIn K mainGlobals "law" = some (some (.ref f_law)))
    (l_law : K.lookup f_law = some ⟨oc_law, od_law, .func (PySem.W.fnOf "law" "law" (defArgs s_law) (defBody s_law) (defScope s_law) .none kV_law dc_law pm_law an_law cd_law ct_law), sl_law⟩)
    (c_law : PySem.W.codeIn K cd_law "law" = true)
    (k_law : PySem.W.keepIn K (.ref f_law) = true)
    (a_Moment___init__ : PySem.W.findIn K (.ref C_Moment) "__init__" = some (some (.ref f_Moment___init__)))
    (i_Moment___init__ : PySem.W.isFn K (.ref f_Moment___init__) = true)
    (l_Moment___init__ : K.lookup f_Moment___init__ = some ⟨oc_Moment___init__, od_Moment___init__, .func (PySem.W.fnOf "__init__" "Moment.__init__" (defArgs s_Moment___init__) (defBody s_Moment___init__) (defScope s_Moment___init__) .none kV_Moment___init__ dc_Moment___init__ pm_Moment___init__ an_Moment___init__ cd_Moment___init__ ct_Moment___init__), sl_Moment___init__⟩)
    (c_Moment___init__ : PySem.W.codeIn K cd_Moment___init__ "Moment.__init__" = true)
    (k_Moment___init__ : PySem.W.keepIn K (.ref f_Moment___init__) = true)
    (a_Moment_seconds : PySem.W.findIn K (.ref C_Moment) "seconds" = some (some (.ref p_Moment_seconds)))
    (g_Moment_seconds : PySem.W.specialIn K (.ref p_Moment_seconds) "__get__" = some (some (.builtin "property.__get__")))
    (t_Moment_seconds : PySem.W.takesIn K (.ref p_Moment_seconds) = some true)
    (r_Moment_seconds : PySem.W.recIn K p_Moment_seconds "property" = some (.ref f_Moment_seconds :: rs_Moment_seconds))
    (l_Moment_seconds : K.lookup f_Moment_seconds = some ⟨oc_Moment_seconds, od_Moment_seconds, .func (PySem.W.fnOf "seconds" "Moment.seconds" (defArgs s_Moment_seconds) (defBody s_Moment_seconds) (defScope s_Moment_seconds) .none kV_Moment_seconds dc_Moment_seconds pm_Moment_seconds an_Moment_seconds cd_Moment_seconds ct_Moment_seconds), sl_Moment_seconds⟩)
    (c_Moment_seconds : PySem.W.codeIn K cd_Moment_seconds "Moment.seconds" = true)
    (k_Moment_seconds : PySem.W.keepIn K (.ref f_Moment_seconds) = true)
    (a_Moment_moved : PySem.W.findIn K (.ref C_Moment) "moved" = some (some (.ref f_Moment_moved)))
    (i_Moment_moved : PySem.W.isFn K (.ref f_Moment_moved) = true)
    (l_Moment_moved : K.lookup f_Moment_moved = some ⟨oc_Moment_moved, od_Moment_moved, .func (PySem.W.fnOf "moved" "Moment.moved" (defArgs s_Moment_moved) (defBody s_Moment_moved) (defScope s_Moment_moved) .none kV_Moment_moved dc_Moment_moved pm_Moment_moved an_Moment_moved cd_Moment_moved ct_Moment_moved), sl_Moment_moved⟩)
    (c_Moment_moved : PySem.W.codeIn K cd_Moment_moved "Moment.moved" = true)
    (k_Moment_moved : PySem.W.keepIn K (.ref f_Moment_moved) = true)
    (a_Moment___add__ : PySem.W.findIn K (.ref C_Moment) "__add__" = some (some (.ref f_Moment___add__)))
    (i_Moment___add__ : PySem.W.isFn K (.ref f_Moment___add__) = true)
    (l_Moment___add__ : K.lookup f_Moment___add__ = some ⟨oc_Moment___add__, od_Moment___add__, .func (PySem.W.fnOf "__add__" "Moment.__add__" (defArgs s_Moment___add__) (defBody s_Moment___add__) (defScope s_Moment___add__) .none kV_Moment___add__ dc_Moment___add__ pm_Moment___add__ an_Moment___add__ cd_Moment___add__ ct_Moment___add__), sl_Moment___add__⟩)
    (c_Moment___add__ : PySem.W.codeIn K cd_Moment___add__ "Moment.__add__" = true)
    (k_Moment___add__ : PySem.W.keepIn K (.ref f_Moment___add__) = true)
    (a_Moment___radd__ : PySem.W.findIn K (.ref C_Moment) "__radd__" = some (some (.ref f_Moment___radd__)))
    (i_Moment___radd__ : PySem.W.isFn K (.ref f_Moment___radd__) = true)
    (l_Moment___radd__ : K.lookup f_Moment___radd__ = some ⟨oc_Moment___radd__, od_Moment___radd__, .func (PySem.W.fnOf "__radd__" "Moment.__radd__" (defArgs s_Moment___radd__) (defBody s_Moment___radd__) (defScope s_Moment___radd__) .none kV_Moment___radd__ dc_Moment___radd__ pm_Moment___radd__ an_Moment___radd__ cd_Moment___radd__ ct_Moment___radd__), sl_Moment___radd__⟩)
    (c_Moment___radd__ : PySem.W.codeIn K cd_Moment___radd__ "Moment.__radd__" = true)
    (k_Moment___radd__ : PySem.W.keepIn K (.ref f_Moment___radd__) = true)
    (a_Moment___sub__ : PySem.W.findIn K (.ref C_Moment) "__sub__" = some (some (.ref f_Moment___sub__)))
    (i_Moment___sub__ : PySem.W.isFn K (.ref f_Moment___sub__) = true)
    (l_Moment___sub__ : K.lookup f_Moment___sub__ = some ⟨oc_Moment___sub__, od_Moment___sub__, .func (PySem.W.fnOf "__sub__" "Moment.__sub__" (defArgs s_Moment___sub__) (defBody s_Moment___sub__) (defScope s_Moment___sub__) .none kV_Moment___sub__ dc_Moment___sub__ pm_Moment___sub__ an_Moment___sub__ cd_Moment___sub__ ct_Moment___sub__), sl_Moment___sub__⟩)
    (c_Moment___sub__ : PySem.W.codeIn K cd_Moment___sub__ "Moment.__sub__" = true)
    (k_Moment___sub__ : PySem.W.keepIn K (.ref f_Moment___sub__) = true)
    (a_Moment_behind : PySem.W.findIn K (.ref C_Moment) "behind" = some (some (.ref f_Moment_behind)))
    (i_Moment_behind : PySem.W.isFn K (.ref f_Moment_behind) = true)
    (l_Moment_behind : K.lookup f_Moment_behind = some ⟨oc_Moment_behind, od_Moment_behind, .func (PySem.W.fnOf "behind" "Moment.behind" (defArgs s_Moment_behind) (defBody s_Moment_behind) (defScope s_Moment_behind) .none kV_Moment_behind dc_Moment_behind pm_Moment_behind an_Moment_behind cd_Moment_behind ct_Moment_behind), sl_Moment_behind⟩)
    (c_Moment_behind : PySem.W.codeIn K cd_Moment_behind "Moment.behind" = true)
    (k_Moment_behind : PySem.W.keepIn K (.ref f_Moment_behind) = true)
    (a_Moment___lt__ : PySem.W.findIn K (.ref C_Moment) "__lt__" = some (some (.ref f_Moment___lt__)))
    (i_Moment___lt__ : PySem.W.isFn K (.ref f_Moment___lt__) = true)
    (l_Moment___lt__ : K.lookup f_Moment___lt__ = some ⟨oc_Moment___lt__, od_Moment___lt__, .func (PySem.W.fnOf "__lt__" "Moment.__lt__" (defArgs s_Moment___lt__) (defBody s_Moment___lt__) (defScope s_Moment___lt__) .none kV_Moment___lt__ dc_Moment___lt__ pm_Moment___lt__ an_Moment___lt__ cd_Moment___lt__ ct_Moment___lt__), sl_Moment___lt__⟩)
    (c_Moment___lt__ : PySem.W.codeIn K cd_Moment___lt__ "Moment.__lt__" = true)
    (k_Moment___lt__ : PySem.W.keepIn K (.ref f_Moment___lt__) = true)
    (a_Moment___le__ : PySem.W.findIn K (.ref C_Moment) "__le__" = some (some (.ref f_Moment___le__)))
    (i_Moment___le__ : PySem.W.isFn K (.ref f_Moment___le__) = true)
    (l_Moment___le__ : K.lookup f_Moment___le__ = some ⟨oc_Moment___le__, od_Moment___le__, .func (PySem.W.fnOf "__le__" "Moment.__le__" (defArgs s_Moment___le__) (defBody s_Moment___le__) (defScope s_Moment___le__) .none kV_Moment___le__ dc_Moment___le__ pm_Moment___le__ an_Moment___le__ cd_Moment___le__ ct_Moment___le__), sl_Moment___le__⟩)
    (c_Moment___le__ : PySem.W.codeIn K cd_Moment___le__ "Moment.__le__" = true)
    (k_Moment___le__ : PySem.W.keepIn K (.ref f_Moment___le__) = true)
    (a_Moment___gt__ : PySem.W.findIn K (.ref C_Moment) "__gt__" = some (some (.ref f_Moment___gt__)))
    (i_Moment___gt__ : PySem.W.isFn K (.ref f_Moment___gt__) = true)
    (l_Moment___gt__ : K.lookup f_Moment___gt__ = some ⟨oc_Moment___gt__, od_Moment___gt__, .func (PySem.W.fnOf "__gt__" "Moment.__gt__" (defArgs s_Moment___gt__) (defBody s_Moment___gt__) (defScope s_Moment___gt__) .none kV_Moment___gt__ dc_Moment___gt__ pm_Moment___gt__ an_Moment___gt__ cd_Moment___gt__ ct_Moment___gt__), sl_Moment___gt__⟩)
    (c_Moment___gt__ : PySem.W.codeIn K cd_Moment___gt__ "Moment.__gt__" = true)
    (k_Moment___gt__ : PySem.W.keepIn K (.ref f_Moment___gt__) = true)
    (a_Moment___ge__ : PySem.W.findIn K (.ref C_Moment) "__ge__" = some (some (.ref f_Moment___ge__)))
    (i_Moment___ge__ : PySem.W.isFn K (.ref f_Moment___ge__) = true)
    (l_Moment___ge__ : K.lookup f_Moment___ge__ = some ⟨oc_Moment___ge__, od_Moment___ge__, .func (PySem.W.fnOf "__ge__" "Moment.__ge__" (defArgs s_Moment___ge__) (defBody s_Moment___ge__) (defScope s_Moment___ge__) .none kV_Moment___ge__ dc_Moment___ge__ pm_Moment___ge__ an_Moment___ge__ cd_Moment___ge__ ct_Moment___ge__), sl_Moment___ge__⟩)
    (c_Moment___ge__ : PySem.W.codeIn K cd_Moment___ge__ "Moment.__ge__" = true)
    (k_Moment___ge__ : PySem.W.keepIn K (.ref f_Moment___ge__) = true)
    (a_Moment___eq__ : PySem.W.findIn K (.ref C_Moment) "__eq__" = some (some (.ref f_Moment___eq__)))
    (i_Moment___eq__ : PySem.W.isFn K (.ref f_Moment___eq__) = true)
    (l_Moment___eq__ : K.lookup f_Moment___eq__ = some ⟨oc_Moment___eq__, od_Moment___eq__, .func (PySem.W.fnOf "__eq__" "Moment.__eq__" (defArgs s_Moment___eq__) (defBody s_Moment___eq__) (defScope s_Moment___eq__) .none kV_Moment___eq__ dc_Moment___eq__ pm_Moment___eq__ an_Moment___eq__ cd_Moment___eq__ ct_Moment___eq__), sl_Moment___eq__⟩)
    (c_Moment___eq__ : PySem.W.codeIn K cd_Moment___eq__ "Moment.__eq__" = true)
    (k_Moment___eq__ : PySem.W.keepIn K (.ref f_Moment___eq__) = true)
    (a_Moment_seen : PySem.W.findIn K (.ref C_Moment) "seen" = some (some (.ref f_Moment_seen)))
    (i_Moment_seen : PySem.W.isFn K (.ref f_Moment_seen) = true)
    (l_Moment_seen : K.lookup f_Moment_seen = some ⟨oc_Moment_seen, od_Moment_seen, .func (PySem.W.fnOf "seen" "Moment.seen" (defArgs s_Moment_seen) (defBody s_Moment_seen) (defScope s_Moment_seen) .none kV_Moment_seen dc_Moment_seen pm_Moment_seen an_Moment_seen cd_Moment_seen ct_Moment_seen), sl_Moment_seen⟩)
    (c_Moment_seen : PySem.W.codeIn K cd_Moment_seen "Moment.seen" = true)
    (k_Moment_seen : PySem.W.keepIn K (.ref f_Moment_seen) = true)
    (a_Moment___rsub__ : PySem.W.findIn K (.ref C_Moment) "__rsub__" = some (some (.ref f_Moment___rsub__)))
    (i_Moment___rsub__ : PySem.W.isFn K (.ref f_Moment___rsub__) = true)
    (l_Moment___rsub__ : K.lookup f_Moment___rsub__ = some ⟨oc_Moment___rsub__, od_Moment___rsub__, .func (PySem.W.fnOf "__rsub__" "Moment.__rsub__" (defArgs s_Moment___rsub__) (defBody s_Moment___rsub__) (defScope s_Moment___rsub__) .none kV_Moment___rsub__ dc_Moment___rsub__ pm_Moment___rsub__ an_Moment___rsub__ cd_Moment___rsub__ ct_Moment___rsub__), sl_Moment___rsub__⟩)
    (c_Moment___rsub__ : PySem.W.codeIn K cd_Moment___rsub__ "Moment.__rsub__" = true)
    (k_Moment___rsub__ : PySem.W.keepIn K (.ref f_Moment___rsub__) = true)
    (a_FARTHEST : PySem.W.nsIn K mainGlobals "FARTHEST" = some (some (.int i_FARTHEST t_FARTHEST)))
    (e_FARTHEST : i_FARTHEST = 10 ^ 30)
    (a_LARGEST_GRAIN : PySem.W.nsIn K mainGlobals "LARGEST_GRAIN" = some (some (.int i_LARGEST_GRAIN t_LARGEST_GRAIN)))
    (e_LARGEST_GRAIN : i_LARGEST_GRAIN = 10 ^ 6)
    (pg_Moment : PySem.W.plainGet K C_Moment Str.empty = true)
    (hd_Moment : PySem.W.hasDictIn K C_Moment = true)
    (po_Moment : PySem.W.plainOver K C_Moment = true)
    (sa_Moment : PySem.W.findIn K (.ref C_Moment) "__setattr__" = some (some (.builtin "object.__setattr__")))
    (mk_Moment : PySem.W.makesIn K C_Moment = true)
    (kc_Moment : PySem.W.keepIn K (.ref C_Moment) = true)
    (ca_Moment : PySem.W.findIn K (.ref C_Moment) "__class__" = some (some (.builtin "object.__class__")))
    (cn_Moment : PySem.W.specialIn K (.builtin "object.__class__") "__get__" = some (some (.builtin "getset_descriptor.__get__")))
    (ct_Moment : PySem.W.takesIn K (.builtin "object.__class__") = some true)
    (cm_Moment : PySem.W.mroIn K C_Moment (.type "object") = some true)
    (ic_Moment : PySem.W.isClsIn K C_Moment = true)
    (ty_Moment : PySem.W.typeIn K (.ref C_Moment) = some (.type "type"))
    (sub_Moment : PySem.W.subIn K (.type "int") (.ref C_Moment) = some false)
    (nS_Moment : PySem.W.findIn K (.ref C_Moment) "own_seconds" = some none)
    (sf_Moment : PySem.W.selfFirst K C_Moment = true)
    (sub2_Moment : PySem.W.subIn K (.ref C_Moment) (.type "int") = some false)
    (ne_Moment : PySem.W.findIn K (.ref C_Moment) "__ne__" = some (some (.builtin "object.__ne__")))
    (ob_Moment : PySem.W.subIn K (.ref C_Moment) (.type "object") = some true)
    (nf_Moment : PySem.W.notFirst K C_Moment (.type "int") = true)
    (ia : PySem.W.findIn K (.type "int") "__add__" = some (some (.builtin "int.__add__")))
    (ir : PySem.W.findIn K (.type "int") "__radd__" = some (some (.builtin "int.__radd__")))
    (isb : PySem.W.findIn K (.type "int") "__sub__" = some (some (.builtin "int.__sub__")))
    (isr : PySem.W.findIn K (.type "int") "__rsub__" = some (some (.builtin "int.__rsub__")))
    (z_isinstance : PySem.W.nsIn K mainGlobals "isinstance" = some none)
    (z_int : PySem.W.nsIn K mainGlobals "int" = some none)
    (z_bool : PySem.W.nsIn K mainGlobals "bool" = some none)
    (z_len : PySem.W.nsIn K mainGlobals "len" = some none)
    (z_abs : PySem.W.nsIn K mainGlobals "abs" = some none)
    (z_max : PySem.W.nsIn K mainGlobals "max" = some none)
    (z_min : PySem.W.nsIn K mainGlobals "min" = some none)
    (z_range : PySem.W.nsIn K mainGlobals "range" = some none)
    : ∃ fd : FuncData, (∀ (s : Shared) (v : Value), BindsTo s fd ⟨[v], []⟩ [("script", v)]) ∧ ∀ base : Heap, K.In base → base.Ns mainGlobals mg → FnOk l.prog w K mg base CX0 14 fa fd ["script"] (spLaw K) := by
  have e := hfa.symm.trans (PySem.W.mg_of X G a_law)
  cases e
  have F_is_whole := fun_mk (st := s_is_whole) l_is_whole c_is_whole k_is_whole
  have b_is_whole := F_is_whole.binds (ps := ["value"]) fun _ _ _ _ _ _ us hl => match us, hl with | [_], _ => rfl
  have F_is_between := fun_mk (st := s_is_between) l_is_between c_is_between k_is_between
  have b_is_between := F_is_between.binds (ps := ["value", "low", "high"]) fun _ _ _ _ _ _ us hl => match us, hl with | [_, _, _], _ => rfl
  have F__law_source := fun_mk (st := s__law_source) l__law_source c__law_source k__law_source
  have b__law_source := F__law_source.binds (ps := ["script", "turn"]) fun _ _ _ _ _ _ us hl => match us, hl with | [_, _], _ => rfl
  have F__law_draw := fun_mk (st := s__law_draw) l__law_draw c__law_draw k__law_draw
  have b__law_draw := F__law_draw.binds (ps := ["source", "amount"]) fun _ _ _ _ _ _ us hl => match us, hl with | [_, _], _ => rfl
  have F__law_rounds := fun_mk (st := s__law_rounds) l__law_rounds c__law_rounds k__law_rounds
  have b__law_rounds := F__law_rounds.binds (ps := ["source", "a", "b"]) fun _ _ _ _ _ _ us hl => match us, hl with | [_, _, _], _ => rfl
  have F_law := fun_mk (st := s_law) l_law c_law k_law
  have F_Moment___init__ := fun_mk (st := s_Moment___init__) l_Moment___init__ c_Moment___init__ k_Moment___init__
  have b_Moment___init__ := F_Moment___init__.binds (ps := ["self", "seconds"]) fun _ _ _ _ _ _ us hl => match us, hl with | [_, _], _ => rfl
  have F_Moment_seconds := fun_mk (st := s_Moment_seconds) l_Moment_seconds c_Moment_seconds k_Moment_seconds
  have b_Moment_seconds := F_Moment_seconds.binds (ps := ["self"]) fun _ _ _ _ _ _ us hl => match us, hl with | [_], _ => rfl
  have F_Moment_moved := fun_mk (st := s_Moment_moved) l_Moment_moved c_Moment_moved k_Moment_moved
  have b_Moment_moved := F_Moment_moved.binds (ps := ["self", "step"]) fun _ _ _ _ _ _ us hl => match us, hl with | [_, _], _ => rfl
  have F_Moment___add__ := fun_mk (st := s_Moment___add__) l_Moment___add__ c_Moment___add__ k_Moment___add__
  have b_Moment___add__ := F_Moment___add__.binds (ps := ["self", "step"]) fun _ _ _ _ _ _ us hl => match us, hl with | [_, _], _ => rfl
  have F_Moment___radd__ := fun_mk (st := s_Moment___radd__) l_Moment___radd__ c_Moment___radd__ k_Moment___radd__
  have b_Moment___radd__ := F_Moment___radd__.binds (ps := ["self", "step"]) fun _ _ _ _ _ _ us hl => match us, hl with | [_, _], _ => rfl
  have F_Moment___sub__ := fun_mk (st := s_Moment___sub__) l_Moment___sub__ c_Moment___sub__ k_Moment___sub__
  have b_Moment___sub__ := F_Moment___sub__.binds (ps := ["self", "other"]) fun _ _ _ _ _ _ us hl => match us, hl with | [_, _], _ => rfl
  have F_Moment_behind := fun_mk (st := s_Moment_behind) l_Moment_behind c_Moment_behind k_Moment_behind
  have b_Moment_behind := F_Moment_behind.binds (ps := ["self", "other"]) fun _ _ _ _ _ _ us hl => match us, hl with | [_, _], _ => rfl
  have F_Moment___lt__ := fun_mk (st := s_Moment___lt__) l_Moment___lt__ c_Moment___lt__ k_Moment___lt__
  have b_Moment___lt__ := F_Moment___lt__.binds (ps := ["self", "other"]) fun _ _ _ _ _ _ us hl => match us, hl with | [_, _], _ => rfl
  have F_Moment___le__ := fun_mk (st := s_Moment___le__) l_Moment___le__ c_Moment___le__ k_Moment___le__
  have b_Moment___le__ := F_Moment___le__.binds (ps := ["self", "other"]) fun _ _ _ _ _ _ us hl => match us, hl with | [_, _], _ => rfl
  have F_Moment___gt__ := fun_mk (st := s_Moment___gt__) l_Moment___gt__ c_Moment___gt__ k_Moment___gt__
  have b_Moment___gt__ := F_Moment___gt__.binds (ps := ["self", "other"]) fun _ _ _ _ _ _ us hl => match us, hl with | [_, _], _ => rfl
  have F_Moment___ge__ := fun_mk (st := s_Moment___ge__) l_Moment___ge__ c_Moment___ge__ k_Moment___ge__
  have b_Moment___ge__ := F_Moment___ge__.binds (ps := ["self", "other"]) fun _ _ _ _ _ _ us hl => match us, hl with | [_, _], _ => rfl
  have F_Moment___eq__ := fun_mk (st := s_Moment___eq__) l_Moment___eq__ c_Moment___eq__ k_Moment___eq__
  have b_Moment___eq__ := F_Moment___eq__.binds (ps := ["self", "other"]) fun _ _ _ _ _ _ us hl => match us, hl with | [_, _], _ => rfl
  have F_Moment_seen := fun_mk (st := s_Moment_seen) l_Moment_seen c_Moment_seen k_Moment_seen
  have b_Moment_seen := F_Moment_seen.binds (ps := ["self", "grain"]) fun _ _ _ _ _ _ us hl => match us, hl with | [_, _], _ => rfl
  have F_Moment___rsub__ := fun_mk (st := s_Moment___rsub__) l_Moment___rsub__ c_Moment___rsub__ k_Moment___rsub__
  have b_Moment___rsub__ := F_Moment___rsub__.binds (ps := ["self", "other"]) fun _ _ _ _ _ _ us hl => match us, hl with | [_, _], _ => rfl
  subst e_FARTHEST
  subst e_LARGEST_GRAIN
  have B : Bl mg := ⟨PySem.W.mg_none_of X G z_isinstance, PySem.W.mg_none_of X G z_int, PySem.W.mg_none_of X G z_bool, PySem.W.mg_none_of X G z_len, PySem.W.mg_none_of X G z_abs, PySem.W.mg_none_of X G z_max, PySem.W.mg_none_of X G z_min, PySem.W.mg_none_of X G z_range⟩
  have T : MoTxt K mg C_Moment := ⟨⟨pg_Moment, hd_Moment, po_Moment, sa_Moment⟩, ca_Moment, cn_Moment, ct_Moment, cm_Moment, nS_Moment, kit_self _ _, kit_own ic_Moment ty_Moment sub_Moment rfl, PySem.W.mg_of X G a_Moment, ⟨_, PySem.W.mg_of X G a_FARTHEST⟩, ⟨_, PySem.W.mg_of X G a_LARGEST_GRAIN⟩⟩
  have T2 : MoTxt2 K C_Moment f_Moment___add__ f_Moment___radd__ f_Moment___rsub__ := ⟨sf_Moment, a_Moment___add__, a_Moment___radd__, a_Moment___rsub__, ia, ir, isb, isr, sub_Moment, sub2_Moment, ne_Moment, ob_Moment, nf_Moment⟩
  exact ⟨PySem.W.fnOf "law" "law" (defArgs s_law) (defBody s_law) (defScope s_law) .none kV_law dc_law pm_law an_law cd_law ct_law, fun s v => .of_eq rfl, fun base _ _ => by
    have c_is_whole : Fn l.prog w K mg base "is_whole" _ CX0 _ _ := ⟨_, _, PySem.W.mg_of X G a_is_whole, k_is_whole, b_is_whole, ok_is_whole F_is_whole B⟩
    have c_is_between : Fn l.prog w K mg base "is_between" _ CX0 _ _ := ⟨_, _, PySem.W.mg_of X G a_is_between, k_is_between, b_is_between, ok_is_between F_is_between B c_is_whole⟩
    have c__law_source : Fn l.prog w K mg base "_law_source" _ CX0 _ _ := ⟨_, _, PySem.W.mg_of X G a__law_source, k__law_source, b__law_source, ok__law_source F__law_source B⟩
    have c__law_draw : Fn l.prog w K mg base "_law_draw" _ CX0 _ _ := ⟨_, _, PySem.W.mg_of X G a__law_draw, k__law_draw, b__law_draw, ok__law_draw F__law_draw B⟩
    have c_Moment : Nw l.prog w K mg base "Moment" C_Moment _ CX0 _ _ := ⟨_, _, PySem.W.mg_of X G a_Moment, ⟨mk_Moment, a_Moment___init__, i_Moment___init__, kc_Moment⟩, b_Moment___init__, ok_Moment___init__ F_Moment___init__ B T c_is_between⟩
    have c_Moment_seconds : Pr l.prog w K mg base C_Moment "seconds" _ CX0 _ _ := ⟨_, _, _, ⟨a_Moment_seconds, g_Moment_seconds, t_Moment_seconds, _, r_Moment_seconds⟩, b_Moment_seconds, ok_Moment_seconds F_Moment_seconds T⟩
    have c_Moment_moved : Mt l.prog w K mg base C_Moment "moved" _ CX0 _ _ := ⟨_, _, ⟨a_Moment_moved, i_Moment_moved, k_Moment_moved⟩, b_Moment_moved, ok_Moment_moved F_Moment_moved B T c_is_whole c_Moment⟩
    have c_Moment___add__ : Mt l.prog w K mg base C_Moment "__add__" _ CX0 _ _ := ⟨_, _, ⟨a_Moment___add__, i_Moment___add__, k_Moment___add__⟩, b_Moment___add__, ok_Moment___add__ F_Moment___add__ T c_Moment_moved⟩
    have c_Moment___radd__ : Mt l.prog w K mg base C_Moment "__radd__" _ CX0 _ _ := ⟨_, _, ⟨a_Moment___radd__, i_Moment___radd__, k_Moment___radd__⟩, b_Moment___radd__, ok_Moment___radd__ F_Moment___radd__ T c_Moment_moved⟩
    have c_Moment___sub__ : Mt l.prog w K mg base C_Moment "__sub__" _ CX0 _ _ := ⟨_, _, ⟨a_Moment___sub__, i_Moment___sub__, k_Moment___sub__⟩, b_Moment___sub__, ok_Moment___sub__ F_Moment___sub__ B T c_is_whole c_Moment c_Moment_seconds⟩
    have c_Moment_behind : Mt l.prog w K mg base C_Moment "behind" _ CX0 _ _ := ⟨_, _, ⟨a_Moment_behind, i_Moment_behind, k_Moment_behind⟩, b_Moment_behind, ok_Moment_behind F_Moment_behind B T c_Moment_seconds⟩
    have c_Moment___lt__ : Mt l.prog w K mg base C_Moment "__lt__" _ CX0 _ _ := ⟨_, _, ⟨a_Moment___lt__, i_Moment___lt__, k_Moment___lt__⟩, b_Moment___lt__, ok_Moment___lt__ F_Moment___lt__ T c_Moment_behind⟩
    have c_Moment___le__ : Mt l.prog w K mg base C_Moment "__le__" _ CX0 _ _ := ⟨_, _, ⟨a_Moment___le__, i_Moment___le__, k_Moment___le__⟩, b_Moment___le__, ok_Moment___le__ F_Moment___le__ T c_Moment_behind⟩
    have c_Moment___gt__ : Mt l.prog w K mg base C_Moment "__gt__" _ CX0 _ _ := ⟨_, _, ⟨a_Moment___gt__, i_Moment___gt__, k_Moment___gt__⟩, b_Moment___gt__, ok_Moment___gt__ F_Moment___gt__ T c_Moment_behind⟩
    have c_Moment___ge__ : Mt l.prog w K mg base C_Moment "__ge__" _ CX0 _ _ := ⟨_, _, ⟨a_Moment___ge__, i_Moment___ge__, k_Moment___ge__⟩, b_Moment___ge__, ok_Moment___ge__ F_Moment___ge__ T c_Moment_behind⟩
    have c_Moment___eq__ : Mt l.prog w K mg base C_Moment "__eq__" _ CX0 _ _ := ⟨_, _, ⟨a_Moment___eq__, i_Moment___eq__, k_Moment___eq__⟩, b_Moment___eq__, ok_Moment___eq__ F_Moment___eq__ B T c_Moment_seconds⟩
    have c_Moment_seen : Mt l.prog w K mg base C_Moment "seen" _ CX0 _ _ := ⟨_, _, ⟨a_Moment_seen, i_Moment_seen, k_Moment_seen⟩, b_Moment_seen, ok_Moment_seen F_Moment_seen B T c_is_between c_Moment⟩
    have c__law_rounds : Fn l.prog w K mg base "_law_rounds" _ CX0 _ _ := ⟨_, _, PySem.W.mg_of X G a__law_rounds, k__law_rounds, b__law_rounds, ok__law_rounds F__law_rounds B T T2 c__law_draw c_Moment_seconds c_Moment___add__ c_Moment___sub__ c_Moment___le__ c_Moment___eq__ c_Moment_seen⟩
    exact ok_law F_law B T T2 c__law_source c__law_draw c__law_rounds c_Moment c_Moment___add__ c_Moment___radd__ c_Moment___sub__ c_Moment___lt__ c_Moment___le__ c_Moment___gt__ c_Moment___ge__ c_Moment___eq__⟩
end Ag
open PySem PySem.W PyProof.Rows
set_option maxHeartbeats 0 in
theorem PySem.Challenge.cw_agedfiles_k59_whole_moments_as_numbers_holds : PySem.Challenge.rw_agedfiles_k59_whole_moments_as_numbers.Holds := by
  w_on; o_law; k_head; (case hw => w_witness2)
  k_fill
  refine L2.walk_of (l := PySem.Challenge.rw_agedfiles_k59_whole_moments_as_numbers) (n := 63) (k := 14) (x := "script") (CX := fun _ => L2.CX0) (sp := fun w => Ag.spLaw _) rfl (by decide) rfl ⟨rfl, by decide, by decide⟩ (fun w h Y => PySem.W.kIn_of Y) ?F (fun _ _ a ns hl _ hS => ⟨a, ns, rfl, hS, hl, fun _ => rfl⟩) (fun _ _ _ _ _ h => h)
  case F =>
    intro w mg fa h KX G hmg
    refine' Ag.all_mk KX G hmg ?a_Moment ?a_is_whole ?l_is_whole ?c_is_whole ?k_is_whole ?a_is_between ?l_is_between ?c_is_between ?k_is_between ?a__law_source ?l__law_source ?c__law_source ?k__law_source ?a__law_draw ?l__law_draw ?c__law_draw ?k__law_draw ?a__law_rounds ?l__law_rounds ?c__law_rounds ?k__law_rounds ?a_law ?l_law ?c_law ?k_law ?a_Moment___init__ ?i_Moment___init__ ?l_Moment___init__ ?c_Moment___init__ ?k_Moment___init__ ?a_Moment_seconds ?g_Moment_seconds ?t_Moment_seconds ?r_Moment_seconds ?l_Moment_seconds ?c_Moment_seconds ?k_Moment_seconds ?a_Moment_moved ?i_Moment_moved ?l_Moment_moved ?c_Moment_moved ?k_Moment_moved ?a_Moment___add__ ?i_Moment___add__ ?l_Moment___add__ ?c_Moment___add__ ?k_Moment___add__ ?a_Moment___radd__ ?i_Moment___radd__ ?l_Moment___radd__ ?c_Moment___radd__ ?k_Moment___radd__ ?a_Moment___sub__ ?i_Moment___sub__ ?l_Moment___sub__ ?c_Moment___sub__ ?k_Moment___sub__ ?a_Moment_behind ?i_Moment_behind ?l_Moment_behind ?c_Moment_behind ?k_Moment_behind ?a_Moment___lt__ ?i_Moment___lt__ ?l_Moment___lt__ ?c_Moment___lt__ ?k_Moment___lt__ ?a_Moment___le__ ?i_Moment___le__ ?l_Moment___le__ ?c_Moment___le__ ?k_Moment___le__ ?a_Moment___gt__ ?i_Moment___gt__ ?l_Moment___gt__ ?c_Moment___gt__ ?k_Moment___gt__ ?a_Moment___ge__ ?i_Moment___ge__ ?l_Moment___ge__ ?c_Moment___ge__ ?k_Moment___ge__ ?a_Moment___eq__ ?i_Moment___eq__ ?l_Moment___eq__ ?c_Moment___eq__ ?k_Moment___eq__ ?a_Moment_seen ?i_Moment_seen ?l_Moment_seen ?c_Moment_seen ?k_Moment_seen ?a_Moment___rsub__ ?i_Moment___rsub__ ?l_Moment___rsub__ ?c_Moment___rsub__ ?k_Moment___rsub__ ?a_FARTHEST ?e_FARTHEST ?a_LARGEST_GRAIN ?e_LARGEST_GRAIN ?pg_Moment ?hd_Moment ?po_Moment ?sa_Moment ?mk_Moment ?kc_Moment ?ca_Moment ?cn_Moment ?ct_Moment ?cm_Moment ?ic_Moment ?ty_Moment ?sub_Moment ?nS_Moment ?sf_Moment ?sub2_Moment ?ne_Moment ?ob_Moment ?nf_Moment ?ia ?ir ?isb ?isr ?z_isinstance ?z_int ?z_bool ?z_len ?z_abs ?z_max ?z_min ?z_range
    (case a_Moment => k_is)
    (case a_is_whole => k_is)
    (case l_is_whole => k_is)
    (case c_is_whole => k_is)
    (case k_is_whole => k_is)
    (case a_is_between => k_is)
    (case l_is_between => k_is)
    (case c_is_between => k_is)
    (case k_is_between => k_is)
    (case a__law_source => k_is)
    (case l__law_source => k_is)
    (case c__law_source => k_is)
    (case k__law_source => k_is)
    (case a__law_draw => k_is)
    (case l__law_draw => k_is)
    (case c__law_draw => k_is)
    (case k__law_draw => k_is)
    (case a__law_rounds => k_is)
    (case l__law_rounds => k_is)
    (case c__law_rounds => k_is)
    (case k__law_rounds => k_is)
    (case a_law => k_is)
    (case l_law => k_is)
    (case c_law => k_is)
    (case k_law => k_is)
    (case a_Moment___init__ => k_is)
    (case i_Moment___init__ => k_is)
    (case l_Moment___init__ => k_is)
    (case c_Moment___init__ => k_is)
    (case k_Moment___init__ => k_is)
    (case a_Moment_seconds => k_is)
    (case g_Moment_seconds => k_is)
    (case t_Moment_seconds => k_is)
    (case r_Moment_seconds => k_is)
    (case l_Moment_seconds => k_is)
    (case c_Moment_seconds => k_is)
    (case k_Moment_seconds => k_is)
    (case a_Moment_moved => k_is)
    (case i_Moment_moved => k_is)
    (case l_Moment_moved => k_is)
    (case c_Moment_moved => k_is)
    (case k_Moment_moved => k_is)
    (case a_Moment___add__ => k_is)
    (case i_Moment___add__ => k_is)
    (case l_Moment___add__ => k_is)
    (case c_Moment___add__ => k_is)
    (case k_Moment___add__ => k_is)
    (case a_Moment___radd__ => k_is)
    (case i_Moment___radd__ => k_is)
    (case l_Moment___radd__ => k_is)
    (case c_Moment___radd__ => k_is)
    (case k_Moment___radd__ => k_is)
    (case a_Moment___sub__ => k_is)
    (case i_Moment___sub__ => k_is)
    (case l_Moment___sub__ => k_is)
    (case c_Moment___sub__ => k_is)
    (case k_Moment___sub__ => k_is)
    (case a_Moment_behind => k_is)
    (case i_Moment_behind => k_is)
    (case l_Moment_behind => k_is)
    (case c_Moment_behind => k_is)
    (case k_Moment_behind => k_is)
    (case a_Moment___lt__ => k_is)
    (case i_Moment___lt__ => k_is)
    (case l_Moment___lt__ => k_is)
    (case c_Moment___lt__ => k_is)
    (case k_Moment___lt__ => k_is)
    (case a_Moment___le__ => k_is)
    (case i_Moment___le__ => k_is)
    (case l_Moment___le__ => k_is)
    (case c_Moment___le__ => k_is)
    (case k_Moment___le__ => k_is)
    (case a_Moment___gt__ => k_is)
    (case i_Moment___gt__ => k_is)
    (case l_Moment___gt__ => k_is)
    (case c_Moment___gt__ => k_is)
    (case k_Moment___gt__ => k_is)
    (case a_Moment___ge__ => k_is)
    (case i_Moment___ge__ => k_is)
    (case l_Moment___ge__ => k_is)
    (case c_Moment___ge__ => k_is)
    (case k_Moment___ge__ => k_is)
    (case a_Moment___eq__ => k_is)
    (case i_Moment___eq__ => k_is)
    (case l_Moment___eq__ => k_is)
    (case c_Moment___eq__ => k_is)
    (case k_Moment___eq__ => k_is)
    (case a_Moment_seen => k_is)
    (case i_Moment_seen => k_is)
    (case l_Moment_seen => k_is)
    (case c_Moment_seen => k_is)
    (case k_Moment_seen => k_is)
    (case a_Moment___rsub__ => k_is)
    (case i_Moment___rsub__ => k_is)
    (case l_Moment___rsub__ => k_is)
    (case c_Moment___rsub__ => k_is)
    (case k_Moment___rsub__ => k_is)
    (case a_FARTHEST => k_is)
    (case e_FARTHEST => rfl)
    (case a_LARGEST_GRAIN => k_is)
    (case e_LARGEST_GRAIN => rfl)
    (case pg_Moment => k_is)
    (case hd_Moment => k_is)
    (case po_Moment => k_is)
    (case sa_Moment => k_is)
    (case mk_Moment => k_is)
    (case kc_Moment => k_is)
    (case ca_Moment => k_is)
    (case cn_Moment => k_is)
    (case ct_Moment => k_is)
    (case cm_Moment => k_is)
    (case ic_Moment => k_is)
    (case ty_Moment => k_is)
    (case sub_Moment => k_is)
    (case nS_Moment => k_is)
    (case sf_Moment => k_is)
    (case sub2_Moment => k_is)
    (case ne_Moment => k_is)
    (case ob_Moment => k_is)
    (case nf_Moment => k_is)
    (case ia => k_is)
    (case ir => k_is)
    (case isb => k_is)
    (case isr => k_is)
    (case z_isinstance => k_is)
    (case z_int => k_is)
    (case z_bool => k_is)
    (case z_len => k_is)
    (case z_abs => k_is)
    (case z_max => k_is)
    (case z_min => k_is)
    (case z_range => k_is)
