import PyProof.Rows.All
import Wide.All
import OpenK.AllK
import Wide.FinOn
import PyProof.EqAt
import PyProof.EqKinds
import PyProof.TupleCall
import HandS.Base
import HandS.Call
import HandS.List
import HandS.SlotsOwn
import HandS.IsInst
import HandS.Words
import HandS.ForMost
import HandS.Property
import HandS.Wide
import HandS.EndBits
import HandS.TupLe
import HandS.Evl
import KE.KExcSuper
import HandS.ExcInit
import HandS.Codes
import HandS.WordsExc
import PyProof.ReprRoads
import HandS.RaiseMore
import HandS.Dict
import HandS.ExcIs
import HandS.TryMany
import HandS.Strs
import HandS.More
import HandS.Steps
import HandS.NoneIn
import PySem.Challenge.RW_agedfiles_k06_deeds_and_backs
set_option Elab.async false
set_option linter.all false
set_option maxRecDepth 100000
set_option maxHeartbeats 4000000
namespace Ag
open PySem PySem.Spec PyProof.Rows L2

/-! ### what a caller needs of a def, a method, a class -/
section
variable (P : Program) (w : World) (K : PySem.W.Frag) (mg : Str → Option Value) (base : Heap)
/-- the def that the module's name x holds keeps the promise sp -/
def Fn (x : Str) (ps : List Str) (CX : CXT) (k : Nat) (sp : Sp) : Prop :=
  ∃ f fd, mg x = some (.ref f) ∧ PySem.W.keepIn K (.ref f) = true ∧ Binds K fd ps [] ∧ FnOk P w K mg base CX k f fd ps sp
/-- the method m of the class at C keeps the promise sp -/
def Mt (C : Addr) (m : Str) (ps : List Str) (CX : CXT) (k : Nat) (sp : Sp) : Prop :=
  ∃ f fd, Meth K C m f ∧ Binds K fd ps [] ∧ FnOk P w K mg base CX k f fd ps sp
/-- the class at C is made by its own __init__, which keeps the promise sp -/
def Nw (x : Str) (C : Addr) (ps : List Str) (CX : CXT) (k : Nat) (sp : Sp) : Prop :=
  ∃ f fd, mg x = some (.ref C) ∧ Mk K C f ∧ Binds K fd ps [] ∧ FnOk P w K mg base CX k f fd ps sp
end

section
variable {X : Cx} {CX : CXT} {k j : Nat} {C : Addr} {ps : List Str} {sp : Sp} {E : XK} {x m : Str} {p pos apos : Pos} {e o : Expr} {es : List Expr} {ta : TE} {t : TA}
theorem pe_fn (c : Fn X.prog X.w X.K X.mg X.base x ps CX k sp) (hr : Room j X.A) (hx : Passes CX X E) (ha : PA X (e :: es) t) (hk : k ≤ j := by decide) (hg : Gl X x := by rfl)
    (hdb : (x == ("__debug__" : Str)) = false := by decide) (he : starEach (e :: es) X.env = (false, eval e X.env) :: starEach es X.env := by rfl) (hpl : (backTo pos (starEach es X.env)).any (·.1) = false := by rfl) :
    PE X (.Call (.Name x p) (e :: es) [] pos) (tCall sp [] E t) := by
  obtain ⟨f, fd, g, kp, b, F⟩ := c
  exact pe_call F (hr.mono hk) hg g kp b .nil hx ha hdb he hpl
theorem pe_fn0 (c : Fn X.prog X.w X.K X.mg X.base x ps CX k sp) (hr : Room j X.A) (hx : Passes CX X E) (hk : k ≤ j := by decide) (hg : Gl X x := by rfl)
    (hdb : (x == ("__debug__" : Str)) = false := by decide) : PE X (.Call (.Name x p) [] [] pos) (tCall sp [] E tNil) := by
  obtain ⟨f, fd, g, kp, b, F⟩ := c
  exact pe_call0 F (hr.mono hk) hg g kp b .nil hx hdb
theorem pe_nw (c : Nw X.prog X.w X.K X.mg X.base x C ps CX k sp) (hr : Room j X.A) (hx : Passes CX X E) (ha : PA X (e :: es) t) (hk : k + 1 ≤ j := by decide) (hg : Gl X x := by rfl)
    (hdb : (x == ("__debug__" : Str)) = false := by decide) (he : starEach (e :: es) X.env = (false, eval e X.env) :: starEach es X.env := by rfl) (hpl : (backTo pos (starEach es X.env)).any (·.1) = false := by rfl) :
    PE X (.Call (.Name x p) (e :: es) [] pos) (tMake C sp [] E t) := by
  obtain ⟨f, fd, g, M, b, F⟩ := c
  exact pe_make M F (hr.mono hk) hg g b .nil hx ha hdb he hpl
theorem pe_mt {pl : Sem Bool} (c : Cls X.K C) (M : Mt X.prog X.w X.K X.mg X.base C m ps CX k sp) (hr : Room j X.A) (hx : Passes CX X E) (he : PE X o ta) (ha : PA X (e :: es) t) (hk : k ≤ j := by decide)
    (hst : starEach (e :: es) X.env = (false, eval e X.env) :: starEach es X.env := by rfl) (hpl : (backTo pos (starEach es X.env)).any (·.1) = false := by rfl)
    (ht : eval (.Call (.Attribute o m apos) (e :: es) [] pos) X.env = (do
      let ov ← eval o X.env
      standAt apos.atName
      let (f, first) ← holding [ov] (getMethod ov m pl)
      callWith pos f first (backTo pos (starEach (e :: es) X.env)) (backToKw pos (keywordEach [] X.env))) := by rfl) :
    PE X (.Call (.Attribute o m apos) (e :: es) [] pos) (tMeth C m sp [] E ta t) := by
  obtain ⟨f, fd, g, b, F⟩ := M
  exact pe_meth he c g F (hr.mono hk) b .nil hx ha hst hpl ht
theorem pe_mt0 {pl : Sem Bool} (c : Cls X.K C) (M : Mt X.prog X.w X.K X.mg X.base C m ps CX k sp) (hr : Room j X.A) (hx : Passes CX X E) (he : PE X o ta) (hk : k ≤ j := by decide)
    (ht : eval (.Call (.Attribute o m apos) [] [] pos) X.env = (do
      let ov ← eval o X.env
      standAt apos.atName
      let (f, first) ← holding [ov] (getMethod ov m pl)
      callWith pos f first (backTo pos (starEach [] X.env)) (backToKw pos (keywordEach [] X.env))) := by rfl) :
    PE X (.Call (.Attribute o m apos) [] [] pos) (tMeth C m sp [] E ta tNil) := by
  obtain ⟨f, fd, g, b, F⟩ := M
  exact pe_meth0 he c g F (hr.mono hk) b .nil hx ht
end

/-! ### operators of an own class -/
section
variable {prog : Program} {w : World} {A : Around} {E : Value → Shared → Prop} {s : Shared} {K : PySem.W.Frag} {x C L f : Addr} {h₀ : Heap} {m : Str → Option Value} {ox : Obj} {od : Option Obj}
open PySem.W PySem.Calls

/-- int op own: the own class's reflected method answers -/
theorem rbin_K {op : Operator} {i : Int} {ti : Tok} {id : String} {Q : Value → Shared → Prop} (X : K.In s.heap) (I : InstAt s.heap x ox C od) (hc : selfFirst K C = true)
    (hs : findIn K (.ref C) (PySem.dunder op.info.2) = some (some (.ref f'))) (hr : findIn K (.ref C) (dunderR op.info.2) = some (some (.ref f))) (hf : isFn K (.ref f) = true)
    (fillsT : fillsNumberSlot (.type "int") op.info.2 = pure true) (hsub : subIn K (.ref C) (.type "int") = some false)
    (slot : Slot "int" (PySem.dunder op.info.2) id)
    (declines : ∀ Q' : Value → Shared → Prop, Q' .notImplemented s → wpAny (model prog w) A (call (.builtin id) [.int i ti, .ref x]) Q' E s)
    (h : wpAny (model prog w) A (call (.ref f) [.ref x, .int i ti]) (PySem.W.CmpBack Q) E s) : wpAny (model prog w) A (binaryOp op (.int i ti) (.ref x)) Q E s := by
  obtain ⟨cd, rest, hcd, hm⟩ := ksp_first hc
  rcases hi : op.info with ⟨sym, nm'⟩
  rw [hi] at hs hr fillsT slot
  dsimp only at hs hr fillsT slot
  have one := ksp_try X I hr hf h
  have two : wpAny (model prog w) A (tryMethod (.int i ti) (PySem.dunder nm') (.ref x)) (fun r s' => r = none ∧ s' = s) E s :=
    wpAny_tryMethod_declines (typeIs_int s i ti) slot (declines _ ⟨rfl, rfl, rfl⟩)
  obtain ⟨hh, g, d, tt, os⟩ := s
  have L1 : Looks (model prog w) hh (typeOf (.ref x)) (.ref C) := I.type
  have L2 : Looks (model prog w) hh (typeOf (.int i ti)) (.type "int") := Looks.of_pure rfl
  have L3 : Looks (model prog w) hh (fillsNumberSlot (.ref C) nm') true := fills_K X hcd hm hs
  have L4 : Looks (model prog w) hh (fillsNumberSlot (.type "int") nm') true := Looks.of_pure fillsT
  have L5 : Looks (model prog w) hh (isSubtype (.ref C) (.type "int")) false := looks_subIn X hsub
  have L7 : Looks (model prog w) hh (numberSlotInPython (.type "int") nm') false := Looks.of_pure rfl
  have hne : (Value.type "int" == Value.ref C) = false := Bool.eq_false_iff.mpr fun q => by cases beq_iff_eq.mp q
  simp only [binaryOp, hi]
  refine wpAny_holding (wpAny_bind ?_)
  unfold binaryOp1
  refine wpAny_bind (L2.at (wpAny_bind (L1.at (wpAny_bind (L4.at ?_)))))
  simp only [hne, Bool.false_eq_true, if_false]
  ksp_lk
  refine wpAny_mono two (fun r s' hr' => ?_) fun _ _ e => e
  obtain ⟨rfl, rfl⟩ := hr'
  ksp_lk
  refine wpAny_mono one (fun r s' hr' => ?_) fun _ _ e => e
  obtain ⟨v, rfl, hq⟩ := hr'
  ksp_lk
  exact hq
end

section
variable {prog : Program} {w : World} {A : Around} {E : Value → Shared → Prop} {s : Shared} {K : PySem.W.Frag} {x C L f : Addr} {h₀ : Heap} {m : Str → Option Value} {ox : Obj} {od : Option Obj} {b : Value}
open PySem.W PySem.Calls
theorem int_add_declines {hh : Heap} {g : Array GenState} {d : Drawn} {tk : Nat} {os : OsState} {i : Int} {t : Tok} {c : Value} {dd : Option Addr} {sl : Array (Option Value)} {R : Fin → Shared → Prop}
    (hx : hh.get? x = some ⟨c, dd, .plain, sl⟩) (h : R (.done (.ret .notImplemented)) ⟨hh, g, d, tk, os⟩) :
    wpAny (model prog w) A (Builtin.«int.__add__» ⟨[.int i t, .ref x], []⟩) R E ⟨hh, g, d, tk, os⟩ := by
  wp_walk using AutoSeq1.wpAny_loadPart' hx
  exact h
end

section
variable {prog : Program} {w : World} {A : Around} {E : Value → Shared → Prop} {s : Shared} {K : PySem.W.Frag} {x C L f : Addr} {h₀ : Heap} {m : Str → Option Value} {ox : Obj} {od : Option Obj} {b tb : Value}
open PySem.W PySem.Calls
/-- own != b: the class has its own __eq__ and object's __ne__ -/
theorem ne_K {Q : Value → Shared → Prop} (hu : A.units + 1 < cLine) (X : K.In s.heap) (I : InstAt s.heap x ox C od) (hb : Looks (model prog w) s.heap (typeOf b) tb) (hn : notFirst K C tb = true)
    (hs : findIn K (.ref C) "__eq__" = some (some (.ref f))) (hf : isFn K (.ref f) = true) (hno : findIn K (.ref C) "__ne__" = some (some (.builtin "object.__ne__"))) (hob : subIn K (.ref C) (.type "object") = some true)
    (h : wpAny (model prog w) A.in1 (call (.ref f) [.ref x, b]) (fun v s' => ∃ r, v = .bool r ∧ Q (.bool (!r)) s') E s) : wpAny (model prog w) A (richCompare .NotEq (.ref x) b) Q E s := by
  have body : wpAny (model prog w) A.in1 (Builtin.«object.__ne__» ⟨[.ref x, b], []⟩) (fun fin s' => match fin with
      | .done f => (match f with | .ret v => ∃ r, v = .bool r ∧ Q (.bool r) s' | _ => False)
      | .again c' => False) E s := by
    unfold Builtin.«object.__ne__»
    repeat (first
      | with_reducible refine wpAny_cRoomFor (show A.in1.units < cLine from hu) ?_
      | (refine wpAny_bind (m := callSpecialIfBound? (.ref x) (Str.ofString "__eq__") [b])
          (PySem.W.ifBound_K X I hs hf (wpAny_mono h (fun r s' hr => by
            obtain ⟨r, rfl, hq⟩ := hr
            repeat (first | exact ⟨_, rfl, hq⟩ | exact wpAny_pure ⟨_, rfl, hq⟩ | exact wpAny_truthy_bool ⟨_, rfl, hq⟩ | (refine wpAny_bind (m := truthy (.bool _)) (wpAny_truthy_bool ?_)) | wp_step)) fun _ _ e => e)))
      | wp_step)
  have chk : ∀ Q' : Unit → Shared → Prop, Q' () s → wpAny (model prog w) A.in1 (checkBuiltinCall "object.__ne__" ⟨[.ref x, b], []⟩) Q' E s := fun Q' q => by
    have ha := PySem.F.cmpArgs_ne (.ref x) b
    simp only [checkBuiltinCall, PySem.F.cmpKind_ne, PySem.F.cmpSplit_ne]
    refine wpAny_bind ?_
    unfold isInstance
    refine wpAny_bind (I.type.here ((looks_subIn X hob).here ?_))
    exact wpAny_pure q
  have one : wpAny (model prog w) A (tryCompare (.ref x) "__ne__" b) (fun r s' => ∃ v, r = some v ∧ Q v s') E s := by
    unfold tryCompare
    refine wpAny_bind ?_
    simp only [callSpecialIfBound?, bindSpecialIfBound?]
    refine wpAny_holding (wpAny_bind (wpAny_bind (wpAny_bind (I.type.here ((looks_findIn X hno).here ?_)))))
    have bd : ∀ self, bindSpecial (.builtin "object.__ne__") self = pure (.builtin "object.__ne__", [self]) := PySem.F.cmp_object.ne.bind
    refine wpAny_bind (wpAny_askSetting (wpAny_ite ?_))
    have fin : ∀ R : Option Value → Shared → Prop, (∀ r s', Q (.bool r) s' → R (some (.bool r)) s') → wpAny (model prog w) A (call (.builtin "object.__ne__") ([.ref x] ++ [b]) >>= fun v => pure (some v)) R E s := by
      intro R hR
      refine wpAny_bind (wpAny_call (codeAny_call_builtin PySem.F.cmp_object.ne.plain PySem.F.cmpEntry_ne (chk _ (wpAny_mono body (fun fin s' q => ?_) fun _ _ e => e))))
      cases fin with
      | done f =>
        cases f with
        | ret v =>
          obtain ⟨r, rfl, q⟩ := q
          exact wpAny_pure (hR _ _ q)
        | next => exact q.elim
        | brk => exact q.elim
        | cont => exact q.elim
      | again c => exact q.elim
    split
    · exact wpAny_bind (by rw [bd]; exact wpAny_pure (wpAny_pure (fin _ fun r s' q => wpAny_pure ⟨_, rfl, q⟩)))
    · exact wpAny_tryCatch (wpAny_bind (by rw [bd]; exact wpAny_pure (wpAny_pure (fin _ fun r s' q => wpAny_pure ⟨_, rfl, q⟩))))
  unfold richCompare
  simp only [oneThing_ref]
  refine wpAny_holding (wpAny_bind (wpAny_cRoomFor (Nat.lt_of_succ_lt hu) ?_))
  refine wpAny_bind (I.type.here (wpAny_bind (hb.here ?_)))
  split
  · rename_i q
    have e : subIn K tb (.ref C) = some false := by
      rcases Bool.or_eq_true_iff.mp hn with e | e
      · rw [beq_iff_eq.mp e] at q; simp at q
      · exact beq_iff_eq.mp e
    refine wpAny_bind ((looks_subIn X e).here ?_)
    simp only [Bool.false_eq_true, if_false]
    refine wpAny_bind (wpAny_mono one (fun r s' z => ?_) fun _ _ e => e)
    obtain ⟨v, rfl, hq⟩ := z
    exact wpAny_pure hq
  · refine wpAny_bind (wpAny_pure ?_)
    simp only [Bool.false_eq_true, if_false]
    refine wpAny_bind (wpAny_mono one (fun r s' z => ?_) fun _ _ e => e)
    obtain ⟨v, rfl, hq⟩ := z
    exact wpAny_pure hq
end

section
variable {X : Cx} {CX : CXT} {pins : List (Addr × Obj)} {σ : L2.St} {H : Hp} {s : Shared} {C : Addr} {ps : List Str} {n j : Nat} {sp : Sp} {E : XK}
/-- a callee runs one call in -/
theorem run_in1 {f : Addr} {fd : FuncData} {Q : VK} {us : List Value} {vs : List V} (F : FnOk X.prog X.w X.K X.mg X.base CX n f fd ps sp) (hr : Room (n + 1) X.A) (hb : Binds X.K fd ps []) (hx : Passes CX X E)
    (I : Inv X pins σ H s) (r : Vals vs us) (h : sp vs H Q E) : wpAny (model X.prog X.w) X.A.in1 (call (.ref f) us) (EP X pins σ Q) X.xe s := by
  have hl : (us ++ []).length = ps.length := by rw [List.append_nil, ← r.length]; exact F.len _ _ _ _ h
  have hb' := hb s us I.kIn hl
  rw [List.append_nil] at hb'
  refine wpAny_call (codeAny_mono (F.run X.A.in1 X.stack s H ⟨us, []⟩ us vs Q E hr.in1 I.env0.in1 hb' r h) fun r s' hq => ?_)
  cases r with
  | error e => exact hx pins σ H s e s' I hq
  | ok fl =>
    cases fl with
    | ret u => exact I.after hq
    | next => exact False.elim hq
    | brk => exact False.elim hq
    | cont => exact False.elim hq
/-- x op y, x an instance of the class at C -/
def rOwnC (K : PySem.W.Frag) (C : Addr) (sp : Sp) (E : XK) : R2 := fun x y H Q => ∃ a dx fs t, x = .ref a ∧ H a = some (.ins C dx fs) ∧ TyX K H y t ∧ PySem.W.notFirst K C t = true ∧ sp [x, y] H Q E
/-- x != y by the own == -/
def rOwnNe (K : PySem.W.Frag) (C : Addr) (sp : Sp) (E : XK) : R2 := fun x y H Q => ∃ a dx fs t, x = .ref a ∧ H a = some (.ins C dx fs) ∧ TyX K H y t ∧ PySem.W.notFirst K C t = true ∧ sp [x, y] H (fun z H' => ∃ r, z = .bl r ∧ Q (.bl (!r)) H') E
theorem op_cmpC {op : CmpOp} (M : Mt X.prog X.w X.K X.mg X.base C (cmpInfo op).2.1 ps CX n sp) (hr : Room j X.A) (hx : Passes CX X E) (hop : ∀ a b, compareOp op a b = richCompare op a b := by intro _ _; rfl) (hk : n ≤ j := by decide) :
    OpR X (compareOp op) (rOwnC X.K C sp E) := by
  intro pins s σ H x y v u Q I rx ry h
  obtain ⟨g, fd, hm, hb, F⟩ := M
  obtain ⟨a, dx, fs, t, rfl, ha, ty, hn, q⟩ := h
  cases (show v = Value.ref a from rx)
  obtain ⟨mA, O, _⟩ := ins_get I.hok ha
  obtain ⟨od, J, _⟩ := O.look
  obtain ⟨m, hF⟩ := I.fr
  obtain ⟨P, Z, hP, _⟩ := kit_of I ry ty
  rw [hop]
  refine PySem.W.cmp_K (op := op) (tb := t) hr.units0 hF I.ok.mod.kin J (Z.ty _ _ I.kIn hP) hn hm.at_ hm.fn ?_
  refine wpAny_mono (run_fn (us := [.ref a, u]) (vs := [.ref a, y]) F (hr.mono hk) hb .nil hx I (.cons rfl (.cons ry .nil)) q) (fun w s' z => ?_) fun _ _ x => x
  obtain ⟨z', H', I', rz, qz⟩ := z
  exact SlX.cmpback rz ⟨z', H', I', rz, qz⟩
theorem op_neC (M : Mt X.prog X.w X.K X.mg X.base C "__eq__" ps CX n sp) (hno : PySem.W.findIn X.K (.ref C) "__ne__" = some (some (.builtin "object.__ne__"))) (hob : PySem.W.subIn X.K (.ref C) (.type "object") = some true)
    (hr : Room j X.A) (hx : Passes CX X E) (hk : n + 1 ≤ j := by decide) : OpR X (compareOp .NotEq) (rOwnNe X.K C sp E) := by
  intro pins s σ H x y v u Q I rx ry h
  obtain ⟨g, fd, hm, hb, F⟩ := M
  obtain ⟨a, dx, fs, t, rfl, ha, ty, hn, q⟩ := h
  cases (show v = Value.ref a from rx)
  obtain ⟨mA, O, _⟩ := ins_get I.hok ha
  obtain ⟨od, J, _⟩ := O.look
  obtain ⟨P, Z, hP, _⟩ := kit_of I ry ty
  show wpAny _ _ (richCompare .NotEq (.ref a) u) _ _ _
  refine ne_K (tb := t) (hu_of hr) I.kIn J (Z.ty _ _ I.kIn hP) hn hm.at_ hm.fn hno hob ?_
  refine wpAny_mono (run_in1 (us := [.ref a, u]) (vs := [.ref a, y]) F (hr.mono hk) hb hx I (.cons rfl (.cons ry .nil)) q) (fun w s' z => ?_) fun _ _ x => x
  obtain ⟨z', H', I', rz, r, rfl, qz⟩ := z
  cases (show w = Value.bool r from rz)
  exact ⟨r, rfl, .bl (!r), H', I', rfl, qz⟩
/-- x op y, both instances of the class at C -/
def rBinS (C : Addr) (sp : Sp) (E : XK) : R2 := fun x y H Q => ∃ a dx fs b dy gs, x = .ref a ∧ y = .ref b ∧ H a = some (.ins C dx fs) ∧ H b = some (.ins C dy gs) ∧ sp [x, y] H Q E
theorem op_binS {op : Operator} (M : Mt X.prog X.w X.K X.mg X.base C (PySem.dunder op.info.2) ps CX n sp) (hsf : PySem.W.selfFirst X.K C = true) (hr : Room j X.A) (hx : Passes CX X E) (hk : n ≤ j := by decide) :
    OpR X (binaryOp op) (rBinS C sp E) := by
  intro pins s σ H x y v u Q I rx ry h
  obtain ⟨g, fd, hm, hb, F⟩ := M
  obtain ⟨a, dx, fs, b, dy, gs, rfl, rfl, ha, hb', q⟩ := h
  cases (show v = Value.ref a from rx)
  cases (show u = Value.ref b from ry)
  obtain ⟨mA, O, _⟩ := ins_get I.hok ha
  obtain ⟨od, J, _⟩ := O.look
  obtain ⟨mB, O', _⟩ := ins_get I.hok hb'
  obtain ⟨od', J', _⟩ := O'.look
  obtain ⟨m, hF⟩ := I.fr
  refine PySem.W.binop_K (op := op) hF I.ok.mod.kin J J'.type hsf hm.at_ hm.fn ?_
  refine wpAny_mono (run_fn (us := [.ref a, .ref b]) (vs := [.ref a, .ref b]) F (hr.mono hk) hb .nil hx I (.cons rfl (.cons rfl .nil)) q) (fun w s' z => ?_) fun _ _ x => x
  obtain ⟨z', H', I', rz, qz⟩ := z
  exact SlX.cmpback rz ⟨z', H', I', rz, qz⟩
/-- x op i, x an instance of the class at C, i an int -/
def rBinI (C : Addr) (sp : Sp) (E : XK) : R2 := fun x y H Q => ∃ a dx fs i, x = .ref a ∧ y = .int i ∧ H a = some (.ins C dx fs) ∧ sp [x, y] H Q E
theorem op_binI {op : Operator} {fo ro : Option Value} {gr : Addr} (M : Mt X.prog X.w X.K X.mg X.base C (PySem.dunder op.info.2) ps CX n sp) (hsf : PySem.W.selfFirst X.K C = true)
    (hrr : PySem.W.findIn X.K (.ref C) (dunderR op.info.2) = some (some (.ref gr))) (h1 : PySem.W.findIn X.K (.type "int") (PySem.dunder op.info.2) = some fo) (h2 : PySem.W.findIn X.K (.type "int") (dunderR op.info.2) = some ro)
    (hsub : PySem.W.subIn X.K (.type "int") (.ref C) = some false) (hr : Room j X.A) (hx : Passes CX X E) (hk : n ≤ j := by decide) : OpR X (binaryOp op) (rBinI C sp E) := by
  intro pins s σ H x y v u Q I rx ry h
  obtain ⟨g, fd, hm, hb, F⟩ := M
  obtain ⟨a, dx, fs, i, rfl, rfl, ha, q⟩ := h
  cases (show v = Value.ref a from rx)
  obtain ⟨t, rfl⟩ := (show ∃ t, u = Value.int i t from ry)
  obtain ⟨mA, O, _⟩ := ins_get I.hok ha
  obtain ⟨od, J, _⟩ := O.look
  obtain ⟨m, hF⟩ := I.fr
  refine PySem.W.ksp_binT (op := op) (T := "int") hF I.ok.mod.kin J rfl hsf hm.at_ hm.fn hrr (.inr ⟨_, rfl⟩) h1 h2 hsub ?_
  refine wpAny_mono (run_fn (us := [.ref a, .int i t]) (vs := [.ref a, .int i]) F (hr.mono hk) hb .nil hx I (.cons rfl (.cons ⟨t, rfl⟩ .nil)) q) (fun w s' z => ?_) fun _ _ x => x
  obtain ⟨z', H', I', rz, qz⟩ := z
  exact SlX.cmpback rz ⟨z', H', I', rz, qz⟩
/-- i + x, x an instance of the class at C, i an int -/
def rBinR (C : Addr) (sp : Sp) (E : XK) : R2 := fun x y H Q => ∃ a dx fs i, x = .int i ∧ y = .ref a ∧ H a = some (.ins C dx fs) ∧ sp [y, x] H Q E
theorem op_radd {ga : Addr} (M : Mt X.prog X.w X.K X.mg X.base C "__radd__" ps CX n sp) (hsf : PySem.W.selfFirst X.K C = true)
    (ha' : PySem.W.findIn X.K (.ref C) "__add__" = some (some (.ref ga))) (hsub : PySem.W.subIn X.K (.ref C) (.type "int") = some false) (hr : Room j X.A) (hx : Passes CX X E) (hk : n ≤ j := by decide) : OpR X (binaryOp .Add) (rBinR C sp E) := by
  intro pins s σ H x y v u Q I rx ry h
  obtain ⟨g, fd, hm, hb, F⟩ := M
  obtain ⟨a, dx, fs, i, rfl, rfl, ha, q⟩ := h
  cases (show u = Value.ref a from ry)
  obtain ⟨t, rfl⟩ := (show ∃ t, v = Value.int i t from rx)
  obtain ⟨mA, O, _⟩ := ins_get I.hok ha
  have hobj := O.obj
  obtain ⟨od, J, _⟩ := O.look
  refine rbin_K (op := .Add) (f' := ga) I.kIn J hsf ha' hm.at_ hm.fn PySem.F.fills_int_add hsub PySem.F.slot_int_add (fun Q' q' => ?_) ?_
  · refine wpAny_call (codeAny_call_builtin PySem.F.slot_int_add.plain PySem.F.entry_int_add (PySem.F.slot_int_add.check _ _ _ _ _ _ _ _ (typeIs_int _ _ _) (PySem.F.args_int_add_2 _ _) ?_))
    obtain ⟨hh, gg, dd, tk, os⟩ := s
    exact int_add_declines hobj q'
  · refine wpAny_mono (run_fn (us := [.ref a, .int i t]) (vs := [.ref a, .int i]) F (hr.mono hk) hb .nil hx I (.cons rfl (.cons ⟨t, rfl⟩ .nil)) q) (fun w s' z => ?_) fun _ _ x => x
    obtain ⟨z', H', I', rz, qz⟩ := z
    exact SlX.cmpback rz ⟨z', H', I', rz, qz⟩
end
end Ag
namespace Ag
open PySem PySem.Spec PyProof.Rows L2

/-! ### a property -/
def Pr (P : Program) (w : World) (K : PySem.W.Frag) (mg : Str → Option Value) (base : Heap) (C : Addr) (f : Str) (ps : List Str) (CX : CXT) (k : Nat) (sp : Sp) : Prop :=
  ∃ p g fd, PropOf K C f p g ∧ Binds K fd ps [] ∧ FnOk P w K mg base CX k g fd ps sp
section
variable {X : Cx} {CX : CXT} {k j : Nat} {C : Addr} {ps : List Str} {sp : Sp} {E : XK} {f : Str} {pos : Pos} {e : Expr} {ta : TE}
theorem pe_pr (c : Cls X.K C) (M : Pr X.prog X.w X.K X.mg X.base C f ps CX k sp) (hr : Room j X.A) (hx : Passes CX X.nox E) (he : PE X e ta) (hk : k + 1 ≤ j := by decide)
    (hab : attributeBase e f X.env (eval e X.env) = eval e X.env := by rfl) : PE X (.Attribute e f pos) (tProp C sp [] E ta) := by
  obtain ⟨p, g, fd, h, b, F⟩ := M
  exact pe_prop he c h F (hr.mono hk) b .nil hx hab
end

theorem pe_ty {X : Cx} {x : Str} {pos : Pos} (T : String) (hg : Gl X x) (hm : X.mg x = none) (hv : bootBuiltins x = some (.type T)) (hn : x ≠ "__name__" := by decide) (hd : (x == ("__debug__" : Str)) = false := by decide) : PE X (.Name x pos) (tC (.ty T)) :=
  pe_bltn hg hm hv rfl hn hd
theorem pe_gi {X : Cx} {x : Str} {pos : Pos} {i : Int} {t : Tok} (hm : X.mg x = some (.int i t)) (hg : Gl X x := by rfl) (hd : (x == ("__debug__" : Str)) = false := by decide) : PE X (.Name x pos) (tC (.int i)) := pe_glob hg hm ⟨t, rfl⟩ hd
theorem pe_gc {X : Cx} {x : Str} {pos : Pos} {C : Addr} (hm : X.mg x = some (.ref C)) (hg : Gl X x := by rfl) (hd : (x == ("__debug__" : Str)) = false := by decide) : PE X (.Name x pos) (tC (.ref C)) := pe_glob hg hm rfl hd
theorem kit_self (K : PySem.W.Frag) (C : Addr) : PySem.W.kitOne K (.ref C) (.ref C) = some true := by
  unfold PySem.W.kitOne
  rw [if_pos (by simp)]
theorem kit_own {K : PySem.W.Frag} {t : Value} {C : Addr} {b : Bool} (hc : PySem.W.isClsIn K C = true) (ht : PySem.W.typeIn K (.ref C) = some (.type "type")) (hs : PySem.W.subIn K t (.ref C) = some b) (hne : (t == Value.ref C) = false) : PySem.W.kitOne K t (.ref C) = some b := by
  have h1 : (PySem.W.clsIn K C).isSome = true := hc
  unfold PySem.W.kitOne
  rw [if_neg (by rw [hne]; exact Bool.false_ne_true)]
  show (if ((PySem.W.clsIn K C).isSome && PySem.W.typeIn K (.ref C) == some (.type "type")) = true then PySem.W.subIn K t (.ref C) else none) = some b
  rw [h1, ht, if_pos (by rfl)]
  exact hs
/-! ### the builtins that are used -/
structure Bl (mg : Str → Option Value) : Prop where
  isinstance_ : mg "isinstance" = none
  int_ : mg "int" = none
  bool_ : mg "bool" = none
  len_ : mg "len" = none
  abs_ : mg "abs" = none
  max_ : mg "max" = none
  min_ : mg "min" = none
  range_ : mg "range" = none

/-! ### heaps -/
theorem same_upd {H : Hp} {p : Addr} {o : HO} (h : H p = none) : Same H (upd H p o) := fun b x e => by
  rw [upd_ne (ne_of_none e h)]
  exact e
/-- all but p is kept -/
def Kp (p : Addr) (H H' : Hp) : Prop := ∀ b o, b ≠ p → H b = some o → H' b = some o
theorem Kp.refl {p : Addr} {H : Hp} : Kp p H H := fun _ _ _ h => h
theorem Kp.trans {p : Addr} {H H1 H2 : Hp} (a : Kp p H H1) (b : Kp p H1 H2) : Kp p H H2 := fun c o n h => b c o n (a c o n h)
theorem Kp.same {p : Addr} {H H' : Hp} (a : Same H H') : Kp p H H' := fun c o _ h => a c o h
theorem lookup_one (f : Str) (v : V) : List.lookup f [(f, v)] = some v := by simp [List.lookup]

theorem lookup_no {f g : Str} {v : V} (h : ¬ g = f) : List.lookup g [(f, v)] = none := by
  have e : (g == f) = false := by simpa using h
  simp [List.lookup, e]
/-! ### ints -/
/-- what is_whole says no to -/
def NoInt (K : PySem.W.Frag) (H : Hp) (x : V) : Prop := (∃ b, x = .bl b) ∨ ∃ t, TyX K H x t ∧ PySem.W.kitOne K t (.type "int") = some false

def spWhole (K : PySem.W.Frag) : Sp := fun vs H Q _ => (∃ i, vs = [.int i] ∧ Q (.bl true) H) ∨ (∃ x, vs = [x] ∧ NoInt K H x ∧ Q (.bl false) H)
def spBetween (K : PySem.W.Frag) : Sp := fun vs H Q _ => (∃ i lo hi : Int, vs = [.int i, .int lo, .int hi] ∧ Q (.bl (decide (lo ≤ i ∧ i ≤ hi))) H) ∨ (∃ x y z, vs = [x, y, z] ∧ NoInt K H x ∧ Q (.bl false) H)

/-! ### the law's own draws -/
def Src (H : Hp) (p : Addr) : Prop := ∃ n s : Int, H p = some (.lst [.int n, .int s]) ∧ 0 ≤ n ∧ 0 ≤ s ∧ s < 2147483647
def spSource (K : PySem.W.Frag) : Sp := fun vs H Q _ => ∃ (a : Addr) (ns : List Int) (t : Int), vs = [.ref a, .int t] ∧ SqL K H a (ns.map V.int) ∧ ns.length ≤ 63 ∧ 0 ≤ t ∧ t ≤ 1000 ∧
  ∀ p H', H p = none → Same H H' → Src H' p → Q (.ref p) H'
def spDraw : Sp := fun vs H Q _ => ∃ (p : Addr) (m : Int), vs = [.ref p, .int m] ∧ Src H p ∧ 0 < m ∧ m ≤ 10 ^ 40 ∧ ∀ r H', 0 ≤ r → r < m → Src H' p → Kp p H H' → Q (.int r) H'
def spPick (K : PySem.W.Frag) : Sp := fun vs H Q _ => ∃ (p l : Addr) (xs : List V), vs = [.ref p, .ref l] ∧ Src H p ∧ SqL K H l xs ∧ l ≠ p ∧ xs ≠ [] ∧ xs.length ≤ 1000 ∧ ∀ (i : Nat) x H', xs[i]? = some x → Src H' p → Kp p H H' → Q x H'
theorem pow40 {m : Int} (h0 : 0 < m) (h : m ≤ 10 ^ 40) : CDivW n m := by
  refine wide_div (b := 140) h0 ?_ (by decide) (by decide)
  have e : (10 : Int) ^ 40 < 2 ^ 140 := by decide
  have : (m.natAbs : Int) < ((2 ^ 140 : Nat) : Int) := by
    rw [Int.natAbs_of_nonneg (by omega)]
    exact Int.lt_of_le_of_lt h (by exact_mod_cast e)
  exact_mod_cast this
end Ag
namespace Ag
open PySem PySem.Spec PyProof.Rows L2 Evl

/-! ### readings that leave what is known: te gives some v of which φ holds -/
def EvP (te : TE) (σ : L2.St) (H : Hp) (φ : V → Hp → Prop) : Prop := ∀ H1, Ex H H1 → ∀ Q : VK, (∀ v H2, Ex H1 H2 → φ v H2 → Q v H2) → te σ H1 Q
def EvPs (ta : TA) (σ : L2.St) (H : Hp) (φ : List V → Hp → Prop) : Prop := ∀ H1, Ex H H1 → ∀ Q : List V → Hp → Prop, (∀ vs H2, Ex H1 H2 → φ vs H2 → Q vs H2) → ta σ H1 Q
def MonP (φ : V → Hp → Prop) : Prop := ∀ v H H', Ex H H' → φ v H → φ v H'
section
variable {K : PySem.W.Frag} {σ : L2.St} {H H' : Hp} {ta tb te : TE} {tas : TA} {φ ψ : V → Hp → Prop} {v x y z : V} {r : R2}
theorem EvP.mono (e : Ex H H') (h : EvP te σ H φ) : EvP te σ H' φ := fun H1 a Q q => h H1 (e.trans a) Q q
theorem EvP.imp (h : EvP te σ H φ) (hi : ∀ v H2, Ex H H2 → φ v H2 → ψ v H2) : EvP te σ H ψ := fun H1 e Q q => h H1 e Q fun v H2 e2 p => q v H2 e2 (hi v H2 (e.trans e2) p)
theorem ev_p (h : Ev te σ H v) : EvP te σ H (fun u _ => u = v) := fun H1 e Q q => h H1 e Q fun H2 e2 => q v H2 e2 rfl
theorem evp_v (h : EvP te σ H (fun u _ => u = v)) : Ev te σ H v := fun H1 e Q q => h H1 e Q fun u H2 e2 p => by rw [p]; exact q H2 e2
theorem evp_var {i : Nat} (h : σ[i]? = some (some v)) (hm : ∀ H', Ex H H' → φ v H') : EvP (tVar i) σ H φ := fun H1 e _ q => ⟨v, h, q v H1 (Ex.refl H1) (hm H1 e)⟩
/-! ### data -/
mutual
theorem Dp.ex {K : PySem.W.Frag} {H H' : Hp} (e : Ex H H') : ∀ {v : V} {d : PyData}, Dp K H v d → Dp K H' v d
  | _, _, .non => .non
  | _, _, .bl b => .bl b
  | _, _, .int i => .int i
  | _, _, .str x => .str x
  | _, _, .lst h a => .lst (ex_l e h) (DpAll.ex e a)
  | _, _, .tup h a => .tup (ex_t e h) (DpAll.ex e a)
theorem DpAll.ex {K : PySem.W.Frag} {H H' : Hp} (e : Ex H H') : ∀ {vs : List V} {ds : List PyData}, DpAll K H vs ds → DpAll K H' vs ds
  | _, _, .nil => .nil
  | _, _, .cons a b => .cons (Dp.ex e a) (DpAll.ex e b)
end
theorem DpAll.len {K : PySem.W.Frag} {H : Hp} : ∀ {vs : List V} {ds : List PyData}, DpAll K H vs ds → vs.length = ds.length
  | _, _, .nil => rfl
  | _, _, .cons _ b => congrArg (· + 1) (DpAll.len b)
/-- te gives the data d -/
def EvD (K : PySem.W.Frag) (te : TE) (σ : L2.St) (H : Hp) (d : PyData) : Prop := EvP te σ H (fun v H2 => Dp K H2 v d)
def EvDs (K : PySem.W.Frag) (ta : TA) (σ : L2.St) (H : Hp) (ds : List PyData) : Prop := EvPs ta σ H (fun vs H2 => DpAll K H2 vs ds)
theorem ed_int {i : Int} (h : Ev te σ H (.int i)) : EvD K te σ H (.int i) := fun H1 e Q q => h H1 e Q fun H2 e2 => q _ H2 e2 (.int i)
theorem ed_bl {b : Bool} (h : Ev te σ H (.bl b)) : EvD K te σ H (.bool b) := fun H1 e Q q => h H1 e Q fun H2 e2 => q _ H2 e2 (.bl b)
theorem ed_str {s : Str} (h : Ev te σ H (.str s)) : EvD K te σ H (.str s) := fun H1 e Q q => h H1 e Q fun H2 e2 => q _ H2 e2 (.str s)
theorem ed_non (h : Ev te σ H .non) : EvD K te σ H .none := fun H1 e Q q => h H1 e Q fun H2 e2 => q _ H2 e2 .non
theorem ed_var {i : Nat} {d : PyData} (h : σ[i]? = some (some v)) (hd : Dp K H v d) : EvD K (tVar i) σ H d := evp_var h fun _ e => Dp.ex e hd
theorem eds_nil : EvDs K tNil σ H [] := fun H1 _ _ q => q [] H1 (Ex.refl H1) .nil
theorem eds_cons {d : PyData} {ds : List PyData} (h : EvD K te σ H d) (hs : EvDs K tas σ H ds) : EvDs K (tCons te tas) σ H (d :: ds) := fun H1 e _ q =>
  h H1 e _ fun v H2 e2 p => hs H2 (e.trans e2) _ fun vs H3 e3 ps => q _ H3 (e2.trans e3) (.cons (Dp.ex e3 p) ps)
theorem ed_lst {ds : List PyData} (h : EvDs K tas σ H ds) (hl : Nat.ble ds.length 100000 = true := by rfl) : EvD K (tLst tas) σ H (.list ds) := fun H1 e _ q =>
  h H1 e _ fun vs H2 e2 p => ⟨sz_of (by rw [DpAll.len p]; exact Nat.le_of_ble_eq_true hl), fun l hl' => q _ _ (e2.trans (Ex.new hl')) (.lst (sq_of upd_same) (DpAll.ex (Ex.new hl') p))⟩
theorem ed_tup {ds : List PyData} (h : EvDs K tas σ H ds) (hl : Nat.ble ds.length 100000 = true := by rfl) : EvD K (tTup tas) σ H (.tuple ds) := fun H1 e _ q =>
  h H1 e _ fun vs H2 e2 p => ⟨sz_of (by rw [DpAll.len p]; exact Nat.le_of_ble_eq_true hl), fun l hl' => q _ _ (e2.trans (Ex.new hl')) (.tup (st_of upd_same) (DpAll.ex (Ex.new hl') p))⟩
theorem ev_neD {d d' : PyData} (h1 : EvD K ta σ H d) (h2 : EvD K tb σ H d') (s1 : SeqAt.shaped d = true) (s2 : SeqAt.shaped d' = true) : Ev (tOp (rNeD K) ta tb) σ H (.bl (!PyData.eqv d d')) := fun H1 e Q q =>
  h1 H1 e _ fun v H2 e2 p => h2 H2 (e.trans e2) _ fun v' H3 e3 p' => ⟨d, d', (Dp.ex e3 p), p', s1, s2, q H3 (e2.trans e3)⟩
theorem ev_eqD {d d' : PyData} (h1 : EvD K ta σ H d) (h2 : EvD K tb σ H d') (s1 : SeqAt.shaped d = true) (s2 : SeqAt.shaped d' = true) : Ev (tOp (rEqD K) ta tb) σ H (.bl (PyData.eqv d d')) := fun H1 e Q q =>
  h1 H1 e _ fun v H2 e2 p => h2 H2 (e.trans e2) _ fun v' H3 e3 p' => ⟨d, d', (Dp.ex e3 p), p', s1, s2, q H3 (e2.trans e3)⟩
/-- two things with the same data -/
theorem ev_neS {d : PyData} (h1 : EvD K ta σ H d) (h2 : EvD K tb σ H d) (s1 : SeqAt.shaped d = true) : Ev (tOp (rNeD K) ta tb) σ H (.bl false) := by
  have h := ev_neD h1 h2 s1 s1
  rw [SeqAt.eqv_refl d (SeqAt.canLay_of_shaped s1)] at h
  exact h
/-! ### isinstance, int(..) -/
theorem tyx_ex {t : Value} (e : Ex H H') (h : TyX K H x t) : TyX K H' x t := by
  cases h with
  | base h =>
    refine .base ?_
    cases h with
    | non => exact .non
    | bl b => exact .bl b
    | int i => exact .int i
    | str s => exact .str s
    | flt s => exact .flt s
    | lst h => exact .lst (e _ _ h)
    | frz h => exact .frz (e _ _ h)
    | tup h => exact .tup (e _ _ h)
    | dK h => exact .dK (e _ _ h)
    | dT h => exact .dT (e _ _ h)
    | ins h a b c d f => exact .ins (e _ _ h) a b c d f
  | byt b => exact .byt b
  | set h => exact .set (e _ _ h)
  | kList h c => exact .kList h c
  | kTuple h c => exact .kTuple h c
  | kDict h c => exact .kDict h c
  | fTuple h => exact .fTuple (e _ _ h)
  | fDict h => exact .fDict (e _ _ h)
theorem ev_isi {u t : Value} {b : Bool} (ha : EvP ta σ H (fun x H2 => TyX K H2 x t)) (hb : Ev tb σ H y) (hc : ClsV y u) (hk : PySem.W.kitOne K t u = some b) : Ev (tCB (rIsi K) (tCons ta (tCons tb tNil))) σ H (.bl b) := fun H1 e Q q =>
  ha H1 e _ fun x H2 e2 p => hb H2 (e.trans e2) (fun z H3 => rIsi K [x, z] H3 Q) fun H3 e3 => ⟨x, y, t, u, b, rfl, hc, tyx_ex e3 p, hk, q H3 (e2.trans e3)⟩
end
/-! ### statements, one by one -/
section
variable {σ : L2.St} {H : Hp} {ta tb te : TE} {t : TT} {tu tw u : TS} {D : Ends} {φ ψ : V → Hp → Prop} {b : Bool}
theorem q_ifF (h : EvT t σ H b) (e : b = false) (q : ∀ H1, Ex H H1 → u D σ H1) : tSeq (tIfS t tu tNext) u D σ H := by
  subst e
  exact s_if (D := { D with nx := u D }) h (fun z => nomatch z) fun _ => q
theorem q_asgP {i : Nat} (h : EvP te σ H φ) (q : ∀ v H1, Ex H H1 → φ v H1 → u D (σ.set i (some v)) H1) : tSeq (tAsg te (gName i)) u D σ H := h H (Ex.refl H) _ fun v H1 e p => q v H1 e p
theorem q_asg {i : Nat} {v : V} (h : Ev te σ H v) (q : ∀ H1, Ex H H1 → u D (σ.set i (some v)) H1) : tSeq (tAsg te (gName i)) u D σ H := h H (Ex.refl H) _ fun H1 e => q H1 e
theorem q_parPP {i j : Nat} (h1 : EvP ta σ H φ) (h2 : ∀ H1, Ex H H1 → EvP tb σ H1 ψ) (mφ : MonP φ) (q : ∀ v w H1, Ex H H1 → φ v H1 → ψ w H1 → u D ((σ.set i (some v)).set j (some w)) H1) : tSeq (tPar i j (tCons ta (tCons tb tNil))) u D σ H :=
  h1 H (Ex.refl H) _ fun v H1 e1 p1 => h2 H1 e1 H1 (Ex.refl H1) _ fun w H2 e2 p2 => ⟨v, w, rfl, q v w H2 (e1.trans e2) (mφ v H1 H2 e2 p1) p2⟩
theorem q_ret {v : V} (h : Ev te σ H v) (q : ∀ H1, Ex H H1 → D.rt v H1) : tRet te D σ H := h H (Ex.refl H) _ q
end
end Ag
namespace PySem
namespace ErX
open PySem.W PySem.Calls PyProof.Rows PySem.HandSPX
theorem one_ok (v : Value) : [v].length ≤ sizeLine := by
  have e : (1 : Nat) ≤ 16777216 := by decide
  rw [sizeLine_eq]; exact e
theorem kept {K : Frag} {h h' : Heap} {x : Addr} (X : K.In h) (n : K.lookup x = none) (k : ∀ b o, b ≠ x → h.get? b = some o → h'.get? b = some o) : K.In h' := by
  intro b o z
  refine k b o (fun y => ?_) (X b o z)
  rw [y] at z
  rw [n] at z
  cases z
/-- what __init__ leaves of a fresh error at x: fields fs in its own dict at dx -/
structure InitEnd (h h' : Heap) (x C dx t1 : Addr) (m : Str → Option Value) : Prop where
  keep : ∀ b o, b ≠ x → h.get? b = some o → h'.get? b = some o
  obj : h'.get? x = some { cls := .ref C, dict := some dx, data := .fields #[.ref t1, .none, .none, .none, .bool false, .none] }
  dbig : h.objs.size ≤ dx
  dne : dx ≠ x
  ns : h'.Ns1 dx m
/-- a made error -/
structure Made (h h' : Heap) (e C d : Addr) (m : Str → Option Value) : Prop where
  keep : ∀ b o, h.get? b = some o → h'.get? b = some o
  new : h.objs.size ≤ e
  obj : ∃ oe vs, h'.get? e = some oe ∧ oe.cls = .ref C ∧ oe.dict = some d ∧ oe.data = .fields vs ∧ vs[1]? = some .none
  dbig : h.objs.size ≤ d
  dne : d ≠ e
  ns : h'.Ns1 d m
section
variable {prog : Program} {w : World} {M : Model} {A : Around} {E : Value → Shared → Prop} {h : Heap} {g : Array GenState} {d : Drawn} {t : Nat} {os : OsState} {s : Shared}
theorem callWith_mw {i : String} {pos : Pos} {u x : Addr} {env : Env} {e : Expr} {rest : List Expr} {Q : Value → Shared → Prop}
    (h : wpAny M A (spliced (backTo pos (starEach (e :: rest) env))) (fun vs s₁ => s₁.heap.get? u = some (kxs_mw i x) ∧ wpAny M A (call (.ref u) vs) Q E s₁) E s)
    (he : starEach (e :: rest) env = (false, eval e env) :: starEach rest env := by rfl) (hp : (backTo pos (starEach rest env)).any (·.1) = false := by rfl) :
    wpAny M A (callWith pos (.ref u) [] (backTo pos (starEach (e :: rest) env)) []) Q E s := by
  rw [he] at h ⊢
  have z : (backTo pos ((false, eval e env) :: starEach rest env)).any (·.1) = false := by
    show (false || (backTo pos (starEach rest env)).any (·.1)) = false
    rw [hp] <;> rfl
  exact kxs_callWith (i := i) (x := x) z (evalArgs_plain h)
variable {nm q : Str} {C N : Addr} {bs bm : List Value} {hdct : Bool} {sn : List Str} {sub : List Value} {ab : Bool} {col : Option Bool} {dd : Option Addr} {k0 k1 k2 k3 k5 : Option Value}
theorem call_mw {u e t0 : Addr} {rest : List Value} {Q : Value → Shared → Prop}
    (hC : h.get? C = some (excClassObj nm q C N bs bm hdct sn sub ab col dd k0 k1 k2 k3 k5 "ValueError.__new__")) (he : h.get? e = some (excO C t0)) (hu : h.get? u = some (kxs_mw "ValueError.__init__" e)) (hz : rest.length ≤ sizeLine)
    (hq : ∀ h' t1, (∀ b o, b ≠ e → h.get? b = some o → h'.get? b = some o) → h'.get? e = some (excO C t1) → Q .none ⟨h', g, d, t, os⟩) :
    wpAny (model prog w) A (call (.ref u) rest) Q E ⟨h, g, d, t, os⟩ := by
  have c : (Value.type "method-wrapper" == Value.type "method" || Value.type "method-wrapper" == Value.type "builtin_function_or_method" || Value.type "method-wrapper" == Value.type "method-wrapper") = true := by decide
  refine wpAny_call (codeAny_of_tree (show wpAny _ A.in1 (callAny (.ref u) ⟨rest, []⟩) _ _ _ from ?_))
  simp only [callAny]
  refine wpAny_bind (wpAny_load hu ?_)
  simp only [kxs_mw, c, if_true]
  refine KFB.if_so (by decide) (wpAny_bind (check_bound_init F.excBase_ValueError.toExcCallFacts hC he rfl (wpAny_bind (wpAny_pure (wpAny_pure ?_)))))
  refine ⟨plainId_quiet F.excBase_ValueError.init.plain _, codeAny_builtin F.excBase_ValueError.initEntry ?_⟩
  exact exc_init_tree (cls := .ref C) (t0 := t0) (dv := none) (c2 := .none) (c3 := .none) (b4 := .bool false) he hz fun h' k e' _ => hq h' _ k e'
end
theorem ev_sup (t : Str) (a b c d e : Pos) (env : Env) (hl : (c.endLine == e.line) = true) : eval (.Call (.Attribute (.Call (.Name "super" a) [] [] b) "__init__" c) [.Constant (.str t) 0 d] [] e) env = (do
      let ov ← attributeBase (.Call (.Name "super" a) [] [] b) "__init__" env (eval (.Call (.Name "super" a) [] [] b) env)
      standAt c.atName
      let (f, first) ← holding [ov] (getMethod ov "__init__" (do return (← importBound (.Call (.Name "super" a) [] [] b) env).getD true))
      callWith e f first (backTo e (starEach [.Constant (.str t) 0 d] env)) []) := by
  have z : ∀ ov, methodCall (.Call (.Name "super" a) [] [] b) "__init__" c e env ov 1 (backTo e (starEach [.Constant (.str t) 0 d] env)) [] = (do
      let (f, first) ← holding [ov] (getMethod ov "__init__" (do return (← importBound (.Call (.Name "super" a) [] [] b) env).getD true))
      callWith e f first (backTo e (starEach [.Constant (.str t) 0 d] env)) []) := by
    intro ov
    have y : methodCallPos true (.Call (.Name "super" a) [] [] b) env c e = pure e := by
      unfold methodCallPos
      rw [hl]
      rfl
    show (do
      let (f, first) ← holding [ov] (getMethod ov "__init__" (do return (← importBound (.Call (.Name "super" a) [] [] b) env).getD true))
      let callPos ← methodCallPos true (.Call (.Name "super" a) [] [] b) env c e
      callWith callPos f first (backTo e (starEach [.Constant (.str t) 0 d] env)) []) = _
    rw [y]
    rfl
  show (do
      let ov ← attributeBase (.Call (.Name "super" a) [] [] b) "__init__" env (eval (.Call (.Name "super" a) [] [] b) env)
      standAt c.atName
      methodCall (.Call (.Name "super" a) [] [] b) "__init__" c e env ov 1 (backTo e (starEach [.Constant (.str t) 0 d] env)) []) = _
  simp only [z]
theorem no_lookup {K : Frag} {h : Heap} {x : Addr} (X : K.In h) (l : h.objs.size ≤ x) : K.lookup x = none := by
  cases e : K.lookup x with
  | none => rfl
  | some o => exact absurd (Nat.lt_of_lt_of_le (Heap.lt_size (X _ _ e)) l) (Nat.lt_irrefl _)
/-- the class at C, called with one value, makes an error whose own dict has it as f -/
def Mk1 (P : Program) (w : World) (K : Frag) (mg : Str → Option Value) (C : Addr) (f : Str) : Prop :=
  ∀ {A : Around} {R : Result → Shared → Prop} {s : Shared} {mb : Str → Option Value} {v : Value}, K.In s.heap → s.heap.NoLimit → s.heap.Ns mainGlobals mg → s.heap.Ns builtinsNs mb → (∀ x : Str, x ≠ "__name__" → mb x = bootBuiltins x) →
    A.depth + 1 < recursionLimit → (∀ h' tk e d, Made s.heap h' e C d (fun y => if y = f then some v else none) → R (.ok (.ret (.ref e))) { s with heap := h', toks := tk }) →
    codeAny (model P w) A (.call (.ref C) ⟨[v], []⟩) R s
/-- an own error with one field f, of the name NM, at C -/
structure Err (P : Program) (w : World) (K : Frag) (mg : Str → Option Value) (NM : Str) (C : Addr) (f : Str) : Prop where
  gC : mg NM = some (.ref C)
  kC : keepIn K (.ref C) = true
  exC : subIn K (.ref C) (.type "BaseException") = some true
  tyC : typeIn K (.ref C) = some (.type "type")
  te : exmOne K (.ref C) (.ref C) = some true
  ga : findIn K (.ref C) "__getattribute__" = some (some (.builtin "BaseException.__getattribute__"))
  gg : findIn K (.ref C) "__getattr__" = some none
  noN : findIn K (.ref C) f = some none
  hdC : hasDictIn K C = true
  make : Mk1 P w K mg C f
end ErX
end PySem
namespace Ag
open PySem PySem.Spec PyProof.Rows L2 PySem.ErX
theorem relO_one {fl : Str} {v : V} {v' : Value} (r : RelV v v') (f : Str) : RelO (List.lookup f [(fl, v)]) (if f = fl then some v' else none) := by
  rw [lookup_put]
  by_cases hw : f = fl
  · rw [if_pos hw, if_pos hw]; exact r
  · rw [if_neg hw, if_neg hw]; trivial
section
variable {X : Cx} {C : Addr} {NM fl : Str} {a : Expr} {ta : TA} {W : WX} {p pos pos2 : Pos} {k j : Nat}
/-- NM(e) -/
def tMkE (C : Addr) (fl : Str) (ta : TA) : L2.St → Hp → XK → Prop := fun σ H Q => ta σ H fun vs H1 => ∃ v, vs = [v] ∧ ∀ d, H1 d = none → Q (.ref C) (some d) (upd H1 d (.xd [(fl, v)]))
theorem pmk_err (T : Err X.prog X.w X.K X.mg NM C fl) (hr : Room k X.A) (ha : PA X [a] ta) (hg : Gl X NM := by rfl) (hdb : (NM == ("__debug__" : Str)) = false := by decide)
    (he : starEach (a :: []) X.env = (false, eval a X.env) :: starEach [] X.env := by rfl) (hpl : (backTo pos (starEach [] X.env)).any (·.1) = false := by rfl) :
    PMk X (.Call (.Name NM p) [a] [] pos) (tMkE C fl ta) := by
  intro pins s σ H Q I h
  refine wpAny_Call_Name_kw (ld_glob I hg T.gC ?_ hdb)
  refine PySem.W.callWith_K (h₀ := X.base) I.ok.mod.kin T.kC (thn (ha.run pos pins s σ H _ I h) fun us s1 ⟨vs, H1, I1, r1, v, ev, q1⟩ => ⟨I1.kIn, ?_⟩) he hpl
  subst ev
  cases r1 with
  | @cons _ v' _ _ rv rn =>
    cases rn
    show wpAny _ _ (call (.ref C) [v']) _ _ _
    have hlim := I1.nolimit
    obtain ⟨mb, b1, b2⟩ := I1.mod.blt
    have hG := I1.mod.glob.keeps I1.bk
    have hB := b1.keeps I1.bk
    obtain ⟨hp, g, dr, tk, os⟩ := s1
    refine wpAny_call (T.make I1.kIn hlim hG hB b2 (by have := hr.dp; omega) fun h' tk' e d M => ?_)
    show MkP X pins σ Q (.ref e) ⟨h', g, dr, tk', os⟩
    obtain ⟨oe, fv, hoe, hc, hd, hdat, h1⟩ := M.obj
    have hns := M.ns
    obtain ⟨G', g1, g2⟩ := restrict h' fun b => decide (b ≠ e)
    have gk : ∀ b, b ≠ e → G'.get? b = h'.get? b := fun b hb => g1 b (decide_eq_true hb)
    have ge : G'.get? e = none := g2 e (by simp)
    have old : ∀ b o, hp.get? b = some o → G'.get? b = some o := fun b o q => (gk b (Nat.ne_of_lt (Nat.lt_of_lt_of_le (Heap.lt_size q) M.new))).trans (M.keep b o q)
    have ob : ObjOk X.prog X.w (upd H1 d (.xd [(fl, v)])) G' d (.xd [(fl, v)]) := ⟨_, hns.at (fun o q => (gk d M.dne).trans q), fun f => relO_one rv f⟩
    have J : Inv X pins σ (upd H1 d (.xd [(fl, v)])) ⟨G', g, dr, tk', os⟩ := I1.laid (t' := tk') old M.dbig ob
    refine ⟨e, oe, fv, ⟨G', g, dr, tk', os⟩, _, .ref C, some d, rfl, J, fun b o q => ?_, ge, hoe, ⟨hc, hd⟩, hdat, h1, ?_, rfl, I1.bare, raises_own T.exC T.tyC, q1 d (I1.hok.fresh M.dbig)⟩
    · by_cases hb : b = e
      · have q' : G'.get? b = some o := q
        rw [hb, ge] at q'; cases q'
      · exact (gk b hb).symm.trans q
    · rw [upd_ne (Ne.symm M.dne)]
      exact I1.hok.fresh M.new
/-- raise NM(e) -/
def tRaiseE (C : Addr) (fl : Str) (W : WX) (ta : TA) : TS := fun _ σ H => tMkE C fl ta σ H fun cls d H' => W cls d σ H'
theorem ps_raiseE (hc : X.calm = true) (T : Err X.prog X.w X.K X.mg NM C fl) (hr : Room k X.A) (tk : Takes X W) (ha : PA X [a] ta) (hg : Gl X NM := by rfl) (hdb : (NM == ("__debug__" : Str)) = false := by decide)
    (he : starEach (a :: []) X.env = (false, eval a X.env) :: starEach [] X.env := by rfl) (hpl : (backTo pos (starEach [] X.env)).any (·.1) = false := by rfl) :
    PS X (.Raise (some (.Call (.Name NM p) [a] [] pos)) none pos2) (tRaiseE C fl W ta) := ps_raise hc tk (pmk_err T hr ha hg hdb he hpl)
/-- e.f, e the error that the suite holds (at a; its class cls, its dict d) -/
def tFldE (C : Addr) (fl : Str) (a : Addr) (cls : Value) (d : Option Addr) (te : TE) : TE := fun σ H Q => te σ H fun x H1 => x = .ref a ∧ cls = .ref C ∧ ∃ (dd : Addr) (v : V), d = some dd ∧ H1 dd = some (.xd [(fl, v)]) ∧ Q v H1
theorem pe_fldE {a : Addr} {oe : Obj} {cls : Value} {d : Option Addr} {pn : List (Addr × Obj)} {e : Expr} {te : TE} (T : Err X.prog X.w X.K X.mg NM C fl) (hz : Zc cls d oe) (hf : ∃ vs, oe.data = .fields vs) (he : PE (X.suite a ((a, oe) :: pn)) e te)
    (hb : attributeBase e fl X.env (eval e X.env) = eval e X.env := by rfl) : PE (X.suite a ((a, oe) :: pn)) (.Attribute e fl pos) (tFldE C fl a cls d te) := by
  refine ⟨fun pins s σ H Q I h => ?_⟩
  refine attr_of hb (thn (he.run pins s σ H _ I h) fun u s1 ⟨x, H1, I1, rx, ex, ec, dd, v, ed, ea, q⟩ => ?_)
  subst ex ec ed
  obtain rfl : u = Value.ref a := rx
  obtain ⟨ha, _⟩ := I1.pin (a, oe) (List.mem_append_left _ List.mem_cons_self)
  obtain ⟨vs, hd⟩ := hf
  have hx : ObjOk X.prog X.w H1 s1.heap dd (.xd [(fl, v)]) := I1.hok dd _ ea
  obtain ⟨mA, hns, hr⟩ := hx
  obtain ⟨od, ho, hl⟩ := lookIn_ns hns
  have l : List.lookup fl [(fl, v)] = some v := by rw [lookup_put, if_pos rfl]
  obtain ⟨u, hu, ru⟩ := RelO.some_of (v := v) (o := mA fl) (by rw [← l]; exact hr fl)
  have J : PySem.W.InstAt s1.heap a oe C (some od) := ⟨ha, hz.1, by unfold PySem.W.notCls; rw [hd] <;> rfl, by rw [hz.2]; exact ho⟩
  exact HandSPX.exc_get I1.kIn J T.ga T.gg T.exC (PySem.W.findObj_own T.hdC T.noN rfl (by rw [hl, hu])) (handed_of ru) ⟨v, H1, I1.tok _, ru, q⟩
end
end Ag
namespace PySem
namespace Er_value
open PySem.W PySem.Calls PyProof.Rows PySem.HandSPX PySem.ErX
def iA (p1 p2 : Pos) : Arguments := { posonlyargs := [], args := [{ arg := "self", annotation := none, pos := p1 }, { arg := "value", annotation := none, pos := p2 }], vararg := none, kwonlyargs := [], kw_defaults := [], kwarg := none, defaults := [] }
def iB (t : String) (a b c d e f g i j k : Pos) : List Stmt := [.Expr (.Call (.Attribute (.Call (.Name "super" a) [] [] b) "__init__" c) [.Constant (.str t) 0 d] [] e) f, .Assign [.Attribute (.Name "self" g) "value" i] (.Name "value" j) k]
def iS : Scope := { kind := .function, names := [(PySem.Str.ofString "self", .local), (PySem.Str.ofString "value", .local), (PySem.Str.ofString "__class__", .free), (PySem.Str.ofString "super", .globalImplicit)], isGenerator := false, isCoroutine := false, more := [] }
/-- what the written part says of an own error, at C, and of its __init__, at fI -/
structure Txt (P : Program) (K : Frag) (mg : Str → Option Value) (NM : Str) (C fI : Addr) : Prop where
  gC : mg NM = some (.ref C)
  cls : ∃ nm q N bs bm sn sub ab col dd k0 k1 k2 k3 k5, K.lookup C = some (excClassObj nm q C N bs bm true sn sub ab col dd k0 k1 k2 k3 k5 "ValueError.__new__") ∧ refsVE bm = true
  sa : findIn K (.ref C) "__setattr__" = some (some (.builtin "object.__setattr__"))
  ga : findIn K (.ref C) "__getattribute__" = some (some (.builtin "BaseException.__getattribute__"))
  gg : findIn K (.ref C) "__getattr__" = some none
  noN : findIn K (.ref C) "value" = some none
  iC : findIn K (.ref C) "__init__" = some (some (.ref fI))
  tC : typeIn K (.ref fI) = some (.type "function")
  kC : keepIn K (.ref C) = true
  exC : subIn K (.ref C) (.type "BaseException") = some true
  tyC : typeIn K (.ref C) = some (.type "type")
  hdC : hasDictIn K C = true
  te : exmOne K (.ref C) (.ref C) = some true
  sup : ks_superIn K C C "__init__" = some (some (.builtin "ValueError.__init__"))
  subV : subIn K (.ref C) (.type "ValueError") = some true
  subC : mroIn K C (.ref C) = some true
  op : nsIn K cStatics "thirdparty.any" = some none
  gs : mg "super" = none
  top : (P.main.scope.names.lookup ("super" : Str)).isSome = false
  fn : ∃ (QN : Str) (oc : Value) (od : Option Addr) (doc pm : Value) (an : Option Addr) (cda : Addr) (ct : Value) (osl : Array (Option Value)) (cc : Addr) (t : String) (p1 p2 a b c d e f g i j k : Pos)
    (ccl : Value) (cdd : Option Addr) (vs : Array Value) (ccs : Array (Option Value)) (file : Str) (tf : Tok) (cl : Value) (cld : Option Addr) (csl : Array (Option Value)),
    K.lookup fI = some ⟨oc, od, .func (ksFn "__init__" QN (iA p1 p2) (iB t a b c d e f g i j k) iS .none .none doc pm an (.ref cda) ct cc), osl⟩ ∧ codeIn K (.ref cda) QN = true ∧
    K.lookup cda = some ⟨ccl, cdd, .fields vs, ccs⟩ ∧ vs[2]? = some (.str file tf) ∧ ((P.main.file : Str) == file) = true ∧ K.lookup cc = some ⟨cl, cld, .cell (some (.ref C)), csl⟩ ∧ (c.endLine == e.line) = true
section
variable {prog : Program} {w : World} {A : Around} {E : Value → Shared → Prop} {R : Result → Shared → Prop} {s : Shared} {K : Frag} {mg mb : Str → Option Value} {NM : Str} {C fI : Addr}
theorem init (T : Txt prog K mg NM C fI) {x t0 : Addr} {v : Value} (X : K.In s.heap) (hlim : s.heap.NoLimit) (hG : s.heap.Ns mainGlobals mg) (hB : s.heap.Ns builtinsNs mb) (hb : ∀ x : Str, x ≠ "__name__" → mb x = bootBuiltins x)
    (hx : s.heap.get? x = some (excO C t0)) (hnx : K.lookup x = none) (hroom : A.depth < recursionLimit)
    (hq : ∀ h' tk dx t1, InitEnd s.heap h' x C dx t1 (fun y => if y = "value" then some v else none) → R (.ok (.ret .none)) { s with heap := h', toks := tk }) :
    codeAny (model prog w) A (.call (.ref fI) ⟨[.ref x, v], []⟩) R s := by
  obtain ⟨QN, oc, od, doc, pm, an, cda, ct, osl, cc, t, p1, p2, a, b, c, d, e, f, g, i, j, k, ccl, cdd, vs, ccs, file, tf, cl, cld, csl, ho, hcd, hco, hvs, hfile, hcell, hl⟩ := T.fn
  obtain ⟨nm, q, N, bs, bm, sn, sub, ab, col, dd, k0, k1, k2, k3, k5, hC, hbm⟩ := T.cls
  have hcl : clsIn K C = some { name := nm, bases := bs, mro := .ref C :: bm, ns := N, qualname := q, hasDict := true, slotNames := sn, subclasses := sub, abstract := ab, collection := col, hasDel := false } := by unfold clsIn; rw [hC] <;> rfl
  have hxL : s.heap.objs.size ≠ x := Nat.ne_of_gt (Heap.lt_size hx)
  refine ks_codeAny_call_defAt (fd := ksFn "__init__" QN (iA p1 p2) (iB t a b c d e f g i j k) iS .none .none doc pm an (.ref cda) ct cc) (body := iB t a b c d e f g i j k) (binds := [("self", .ref x), ("value", v)])
    hroom (X _ _ ho) rfl hlim (codeRec_of X hcd) rfl (BindsTo.of_eq (by first | rfl | with_unfolding_all rfl)) (show ∀ x ∈ iS.names, x.2 ≠ .cell from by decide) (locs rfl) (fun h₁ hn k₁ => ?_) rfl rfl rfl
  have X₁ : K.In h₁ := X.keeps k₁
  have hx₁ := k₁ _ _ hx
  have I₁ : InstAt h₁ x (excO C t0) C none := ⟨hx₁, rfl, rfl, trivial⟩
  obtain ⟨hs, gs, ds, ts, oss⟩ := s
  dsimp only at *
  obtain ⟨oD, hD1, hD2⟩ : ∃ oD, h₁.get? C = some oD ∧ oD.data = .cls { name := nm, bases := bs, mro := .ref C :: bm, ns := N, qualname := q, hasDict := true, slotNames := sn, subclasses := sub, abstract := ab, collection := col, hasDel := false } := ⟨_, X₁ _ _ hC, rfl⟩
  show _root_.PySem.wpAt (model prog w) _ (.func (iB t a b c d e f g i j k) (ksEnv QN iS hs.objs.size fI (.ref cda) cc)) (execs (iB t a b c d e f g i j k) (ksEnv QN iS hs.objs.size fI (.ref cda) cc)) _ _ _
  refine ks_wpAt_execs_cons (ks_wpAt_Expr_any (ks_wpAt_MethodCall (ks_wpAt_super_base (env := ksEnv QN iS hs.objs.size fI (.ref cda) cc) rfl rfl (by decide) rfl (X₁ _ _ ho) rfl rfl rfl (X₁ _ _ hco) rfl hvs hfile T.top ?_) (ev_sup _ _ _ _ _ _ _ hl)))
  refine ks_loadName_global rfl rfl (loadGlobal_builtin (env := ksEnv QN iS hs.objs.size fI (.ref cda) cc) (hG.keeps k₁) T.gs (hB.keeps k₁) ((hb _ (by decide +kernel)).trans PyProof.Rows.Boot.super) ⟨rfl, ?_⟩)
  refine wpAny_loadName_free rfl rfl rfl ⟨_, X₁ _ _ hcell, rfl⟩ ?_
  refine wpAny_loadName_local (v := .ref x) rfl rfl hn rfl ?_
  refine ks_wpAny_isType_cls hD1 hD2 ⟨rfl, ?_⟩
  refine ks_wpAny_call_super hD1 hD2 I₁.at_ I₁.cls (fun c e => ?_) (looks_mroIn X₁ T.subC) (fun h₂ e₂ k₂ => ?_)
  · cases e
  have X₂ : K.In h₂ := X₁.keeps k₂
  have hx₂ := k₂ _ _ hx₁
  have I₂ : InstAt h₂ x (excO C t0) C none := ⟨hx₂, rfl, rfl, trivial⟩
  have hm := T.sup
  unfold ks_superIn at hm
  rw [hcl] at hm
  refine kxs_getMethod kxs_ValueError e₂ (looks_opaque X₂ T.op) (l₀ := .ref C :: bm) (fun A Q E s k q => wpAny_bind ((looks_clsIn X₂ hcl) A _ E s k (wpAny_pure q))) rfl X₂ hm (I₂.type.andThen (looks_subIn X₂ T.subV)) (ks_ne X₂ I₂ hcl) (by decide) ?_
  have hu : (h₂.push (kxs_mw "ValueError.__init__" x)).get? h₂.objs.size = some (kxs_mw "ValueError.__init__" x) := Heap.get?_push_at rfl rfl
  have k₃ : ∀ b o, h₂.get? b = some o → (h₂.push (kxs_mw "ValueError.__init__" x)).get? b = some o := fun b o z => Heap.get?_push_of_some _ z
  refine callWith_mw (i := "ValueError.__init__") (x := x) ?_
  refine Calls.spliced_cons ?_
  refine Calls.Constant_str (k := 0) (pos := d) ?_
  refine Calls.spliced_nil ?_
  refine ⟨hu, ?_⟩
  refine call_mw (k₃ _ _ (X₂ _ _ hC)) (k₃ _ _ hx₂) hu (by rw [sizeLine_eq]; exact (by decide : 1 ≤ 16777216)) fun h₄ t1 k₄ hx₄ => ?_
  have K4 : ∀ b o, b ≠ x → h₁.get? b = some o → h₄.get? b = some o := fun b o hb z => k₄ b o hb (k₃ b o (k₂ b o z))
  have X₄ : K.In h₄ := ErX.kept X₁ hnx K4
  show _root_.PySem.wpAt _ _ _ (execs _ _) _ _ _
  refine wpAt_of_wpAny (wpAny_execs_cons (plainObj_wpAny_Assign_Attribute ?_))
  have hn₄ : h₄.Ns hs.objs.size (fun y => List.lookup y (List.reverse [(("self" : Str), Value.ref x), ("value", v)])) := hn.at fun o z => K4 _ o hxL z
  refine wpAny_Name (wpAny_loadName_local (v := v) rfl rfl hn₄ rfl ?_) (by decide)
  refine wpAny_Name (wpAny_loadName_local (v := .ref x) rfl rfl hn₄ rfl ?_) (by decide)
  refine set_plain X₄ (ox := excO C t1) (od := none) ⟨hx₄, rfl, rfl, trivial⟩ T.sa ?_
  refine exc_osa X₄ hx₄ hcl (show refsVE (.ref C :: bm) = true from hbm) rfl T.noN (fun h₅ tk dx k₅ dn dne hx₅ hn₅ => ?_)
  have z : hs.objs.size < h₄.objs.size := hn₄.lt
  exact wpAny_execs_nil (hq h₅ tk dx t1 ⟨fun b o hb e => k₅ b o hb (K4 b o hb (k₁ b o e)), hx₅, Nat.le_of_lt (Nat.lt_of_lt_of_le z dn), dne, hn₅⟩)
theorem made (T : Txt prog K mg NM C fI) : Mk1 prog w K mg C "value" := by
  intro A R s mb v X hlim hG hB hb hroom hq
  obtain ⟨nm, q, N, bs, bm, sn, sub, ab, col, dd, k0, k1, k2, k3, k5, hC, hbm⟩ := T.cls
  obtain ⟨hp, g, dr, tk, os⟩ := s
  have k : ∀ b o, hp.get? b = some o → ((hp.push (kdv_tup [v])).push (excO C hp.objs.size)).get? b = some o := fun b o e => Heap.get?_push_of_some _ (Heap.get?_push_of_some _ e)
  have hget : ((hp.push (kdv_tup [v])).push (excO C hp.objs.size)).get? (hp.objs.size + 1) = some (excO C hp.objs.size) := by heap_get
  have hnx : K.lookup (hp.objs.size + 1) = none := ErX.no_lookup X (Nat.le_succ _)
  refine call_own F.excBase_ValueError (fun X => refsVE_contains X bm hbm) (X _ _ hC) (looks_findIn X T.iC) (fun self => bind_fn X self T.tC) (one_ok v) ?_
  refine init (s := ⟨(hp.push (kdv_tup [v])).push (excO C hp.objs.size), g, dr, tk, os⟩) T (X.keeps k) (hlim.keeps k) (hG.keeps k) (hB.keeps k) hb hget hnx hroom fun h' tk' dx t1 ⟨k', hx, dn, dne, hns⟩ => ?_
  have old : ∀ b o, hp.get? b = some o → h'.get? b = some o := fun b o e => k' b o (Nat.ne_of_lt (Nat.lt_succ_of_lt (Heap.lt_size e))) (k b o e)
  have z : hp.objs.size + 1 + 1 ≤ dx := by
    have q := dn
    simp only [Heap.size_push] at q
    exact q
  exact ⟨rfl, hq h' tk' (hp.objs.size + 1) dx ⟨old, Nat.le_succ _, ⟨_, _, hx, rfl, rfl, rfl, rfl⟩, Nat.le_trans (Nat.le_trans (Nat.le_succ _) (Nat.le_succ _)) z, dne, hns⟩⟩
theorem err (T : Txt prog K mg NM C fI) : Err prog w K mg NM C "value" := ⟨T.gC, T.kC, T.exC, T.tyC, T.te, T.ga, T.gg, T.noN, T.hdC, made T⟩
end
end Er_value
end PySem
namespace Ag
open PySem PySem.Spec PyProof.Rows L2

/-! ### a def's promise where no repr is under way (guards: none) -/
structure FnG (P : Program) (w : World) (K : PySem.W.Frag) (mg : Str → Option Value) (base : Heap) (CX : CXT) (k : Nat) (f : Addr) (fd : FuncData) (ps : List Str) (sp : Sp) : Prop where
  len : ∀ vs H Q E, sp vs H Q E → vs.length = ps.length
  go : ∀ {A : Around} {outer : List Env} {s : Shared} {H : Hp} {args : Args} {us : List Value} {vs : List V} {Q : VK} {E : XK}, A.guards = some [] → Room k A → Env0 P w K mg base A outer s H → BindsTo s fd args (ps.zip us) → Vals vs us → sp vs H Q E →
    codeAny (model P w) A (.call (.ref f) args) (CR CX outer P w H s Q E) s
section
variable {CX : CXT} {P : Program} {w : World} {K : PySem.W.Frag} {mg : Str → Option Value} {base : Heap} {k : Nat} {f : Addr} {N ps : List Str} {sp : Sp} {fd : FuncData}
theorem FnG.of (F : FnOk P w K mg base CX k f fd ps sp) : FnG P w K mg base CX k f fd ps sp := ⟨F.len, fun _ hr e0 hb r h => F.run _ _ _ _ _ _ _ _ _ hr e0 hb r h⟩
theorem fnG_mk {name qual : Str} {params : Arguments} {body : List Stmt} {scope : Scope} {dV kV doc pm cdv ct oc : Value} {an od : Option Addr} {osl : Array (Option Value)}
    (lk : K.lookup f = some ⟨oc, od, .func (PySem.W.fnOf name qual params body scope dV kV doc pm an cdv ct), osl⟩) (hcd : PySem.W.codeIn K cdv qual = true) (S : FnScope N ps scope) (len : ∀ vs H Q E, sp vs H Q E → vs.length = ps.length)
    (hbody : ∀ (A : Around) (outer : List Env) (s : Shared) (H : Hp) (vs : List V) (Q : VK) (E : XK), A.guards = some [] → Room k (A.deeper (envOfC qual scope s.heap.objs.size f cdv)) → sp vs H Q E →
      ∃ t, PSs (cxOf CX P w K mg base N qual scope f cdv A outer s H E) body t ∧ t { nx := fun _ H' => Q .non H', rt := Q } (start N vs) H) :
    FnG P w K mg base CX (k + 1) f (PySem.W.fnOf name qual params body scope dV kV doc pm an cdv ct) ps sp where
  len := len
  go := by
    intro A outer s H args us vs Q E hg hr e0 hb r hsp
    have up := fun b o (e : base.get? b = some o) => (e0.bs b o e).1
    have KX := e0.mod.kin.keeps up
    have par : ∀ y ∈ ps.zip us, scope.names.lookup y.1 = some .local ∨ (scope.names.lookup y.1 = some .cell ∧ ((cellsFrom (s.heap.objs.size + 1) scope.names []).lookup y.1).isSome = true) := by
      rintro ⟨n, v⟩ hy
      exact (S.par n (List.of_mem_zip hy).1).imp id fun q => ⟨q, PySem.W.cellsFrom_some _ _ _ (.inl q)⟩
    refine codeAny_call_function hr.depth (KX _ _ lk) rfl S.co S.gen rfl (PySem.W.codeRec_of KX hcd) (hb _ _ _ _ (wpAny_newFunctionEnv_cells S.kind par fun env he s1 x => ?_))
    cases he
    obtain ⟨t, ht, hq⟩ := hbody A outer s H vs Q E hg (hr.deeper _) hsp
    have I := inv_start (CX := CX) (E := E) S hr.hd e0 (len _ _ _ _ hsp) r x
    refine ⟨(e0.mod.nolimit.keeps up).keeps x.toInCall.keep, codeAny_func (wpAny_mono (ht.run [] s1 _ H _ I hq) (fun fl s' hs => ?_) fun _ _ hs => hs)⟩
    cases fl with
    | next =>
      obtain ⟨σ', H', J, q⟩ := hs
      exact ⟨.non, H', J.os, J.bare, J.base, J.hok, rfl, q⟩
    | ret u =>
      obtain ⟨v, σ', H', J, rv, q⟩ := hs
      exact ⟨v, H', J.os, J.bare, J.base, J.hok, rv, q⟩
    | brk => exact hs.elim fun _ z => z.elim fun _ z => z.2.elim
    | cont => exact hs.elim fun _ z => z.elim fun _ z => z.2.elim
theorem okG {x qual : Str} {st : Stmt} (F : Fun K x qual st f fd) (S : FnScope N ps (defScope st)) (len : ∀ vs H Q E, sp vs H Q E → vs.length = ps.length)
    (hbody : ∀ (cdv : Value) (A : Around) (outer : List Env) (s : Shared) (H : Hp) (vs : List V) (Q : VK) (E : XK), A.guards = some [] → Room k (A.deeper (envOfC qual (defScope st) s.heap.objs.size f cdv)) → sp vs H Q E →
      ∃ t, PSs (cxOf CX0 P w K mg base N qual (defScope st) f cdv A outer s H E).nox (defBody st) t ∧ t { nx := fun _ H' => Q .non H', rt := Q } (start N vs) H) : FnG P w K mg base CX0 (k + 1) f fd ps sp := by
  obtain ⟨oc, od, kV, doc, pm, an, cdv, ct, osl, rfl, lk, hcd⟩ := F.ex
  exact fnG_mk lk hcd S len fun A outer s H vs Q E hg hr hsp => (hbody cdv A outer s H vs Q E hg hr hsp).imp fun t z => ⟨z.1.nox, z.2⟩
end
/-! ### a call of such a def -/
def FG (P : Program) (w : World) (K : PySem.W.Frag) (mg : Str → Option Value) (base : Heap) (x : Str) (ps : List Str) (CX : CXT) (k : Nat) (sp : Sp) : Prop :=
  ∃ f fd, mg x = some (.ref f) ∧ PySem.W.keepIn K (.ref f) = true ∧ Binds K fd ps [] ∧ FnG P w K mg base CX k f fd ps sp
section
variable {X : Cx} {CX : CXT} {k j : Nat} {ps : List Str} {sp : Sp} {E : XK} {x : Str} {p pos : Pos} {e : Expr} {es : List Expr} {t : TA}
theorem pe_fg (hc : FG X.prog X.w X.K X.mg X.base x ps CX k sp) (hG : X.A.guards = some []) (hr : Room j X.A) (hx : Passes CX X E) (ha : PA X (e :: es) t) (hg : Gl X x := by rfl) (hk : k ≤ j := by decide) (hdb : (x == ("__debug__" : Str)) = false := by decide)
    (he : starEach (e :: es) X.env = (false, eval e X.env) :: starEach es X.env := by rfl) (hpl : (backTo pos (starEach es X.env)).any (·.1) = false := by rfl) : PE X (.Call (.Name x p) (e :: es) [] pos) (tCall sp [] E t) := by
  obtain ⟨f, fd, hm, kf, hb, F⟩ := hc
  refine ⟨fun pins s σ H Q I h => ?_⟩
  refine wpAny_Call_Name_kw (ld_glob I hg hm ?_ hdb)
  refine PySem.W.callWith_K (h₀ := X.base) I.ok.mod.kin kf (thn (ha.run pos pins s σ H _ I h) fun us s1 ⟨vs, H1, I1, r1, q1⟩ => ⟨I1.kIn, ?_⟩) he hpl
  have r2 : Vals (vs ++ []) (us ++ []) := r1.append .nil
  have hl : (us ++ []).length = ps.length := r2.length.symm.trans (F.len _ _ _ _ q1)
  refine wpAny_call (codeAny_mono (F.go hG (hr.mono hk) I1.env0 (hb s1 us I1.kIn hl) r2 q1) fun r s' hq => ?_)
  cases r with
  | error e => exact hx pins σ H1 s1 e s' I1 hq
  | ok fl => cases fl with
    | ret u => exact I1.after hq
    | next => exact False.elim hq
    | brk => exact False.elim hq
    | cont => exact False.elim hq
end
/-! ### the end: the law's call where no repr is under way -/
section
variable {P : Program} {w : World} {K : PySem.W.Frag} {mg mb : Str → Option Value} {CX : CXT} {k : Nat} {fa a : Addr} {fd : FuncData} {x : Str} {sp : Sp} {s₁ : Shared} {vs : List Value} {ns : List Int}
/-- from a heap in which nothing but the script may be tracked -/
theorem coreG (KX : K.In s₁.heap) (hns : s₁.heap.Ns mainGlobals mg) (hb : s₁.heap.Ns builtinsNs mb) (hbb : ∀ x : Str, x ≠ "__name__" → mb x = bootBuiltins x) (hlim : s₁.heap.NoLimit) (hg : s₁.gens = #[])
    (ha : s₁.heap.get? a = some { cls := .type "list", data := .seq vs.toArray }) (hr : Room k callerA)
    (F : ∀ base : Heap, K.In base → base.Ns mainGlobals mg → FnG P w K mg base CX k fa fd [x] sp) (hbind : ∀ (s : Shared) (u : Value), BindsTo s fd ⟨[u], []⟩ [(x, u)])
    (hCX : ∀ H e s', CX [] H s₁ (fun _ _ _ => False) e s' → False) {H : Hp} (hO : Only H) (hsp : sp [.ref a] H (fun v _ => v = .bl true) fun _ _ _ => False) (hok : HOk P w H s₁.heap) (hA : ∀ b, H b ≠ none → b = a) (hK : H a ≠ none → K.lookup a = none) :
    codeAny (model P w) callerA (.call (.ref fa) ⟨[.ref a], []⟩) (fun r s' => r = .ok (.ret (.bool true)) ∧ OldK s₁.heap s'.heap ∧ s'.os = s₁.os ∧ AllBare s'.gens) s₁ := by
  have here : ∀ {b : Addr}, b ≠ a → H b = none := fun {b} n => Classical.byContradiction fun z => n (hA b z)
  have noA : ∀ {b : Addr} {o : Obj} {es : Array DictEntry} {ep : Nat}, s₁.heap.get? b = some o → o.data = .dict es ep → H b = none := by
    intro b o es ep e d
    refine here fun z => ?_
    rw [z] at e
    have e2 := Option.some.inj (ha.symm.trans e)
    rw [← e2] at d
    cases d
  have nsB : ∀ {b : Addr} {m : Str → Option Value}, s₁.heap.Ns b m → (hidT s₁.heap H).Ns b m := by
    rintro b m ⟨o, es, ep, e, d, r⟩
    exact ⟨o, es, ep, hidT_get e (noA e d), d, r⟩
  have kB : K.In (hidT s₁.heap H) := by
    intro b o e
    refine hidT_get (KX b o e) (Classical.byContradiction fun z => ?_)
    have y := hA b z
    subst y
    rw [hK z] at e
    cases e
  obtain ⟨mc, c1, c2⟩ := hlim
  have e0 : Env0 P w K mg (hidT s₁.heap H) callerA [] s₁ H := by
    refine ⟨rfl, ⟨kB, nsB hns, ⟨mb, nsB hb, hbb⟩, ⟨mc, nsB c1, c2⟩⟩, fun b o e => of_hidT e, Nat.le_of_eq (hidT_size _ _), trivial, fun b z => ?_, hok, .of_eq hg⟩
    cases (show b ∈ ([] : List Addr) from z)
  have run := (F _ kB (nsB hns)).go (args := ⟨[.ref a], []⟩) (us := [.ref a]) (vs := [.ref a]) rfl hr e0 (hbind s₁ (.ref a)) (.cons rfl .nil) hsp
  refine codeAny_mono run fun r s' h => ?_
  match r, h with
  | .error e, h => exact (hCX H e s' h).elim
  | .ok .next, h => exact False.elim h
  | .ok .brk, h => exact False.elim h
  | .ok .cont, h => exact False.elim h
  | .ok (.ret u), ⟨v, H', os, bare, un, hok', r', q⟩ =>
    have q' : v = .bl true := q
    subst q'
    obtain rfl : u = Value.bool true := r'
    refine ⟨rfl, OldK.of_keep fun b o e => ?_, os, bare⟩
    rcases hO b with z | ⟨ob, xs, z⟩
    · exact un.keep b o e z (fun y => by cases (show b ∈ ([] : List Addr) from y)) (fun y => by cases y)
    · have e1 : s₁.heap.get? b = some ob := (hok b _ z).1
      have e2 : s'.heap.get? b = some ob := (hok' b _ (un.frzs b ob _ z)).1
      exact e2.trans (e1.symm.trans e)
theorem law_callG (KX : K.In s₁.heap) (hns : s₁.heap.Ns mainGlobals mg) (hb : s₁.heap.Ns builtinsNs mb) (hbb : ∀ x : Str, x ≠ "__name__" → mb x = bootBuiltins x) (hlim : s₁.heap.NoLimit) (hg : s₁.gens = #[])
    (ha : s₁.heap.get? a = some { cls := .type "list", data := .seq vs.toArray }) (hi : IntsAre vs ns) (hl : ns.length ≤ sizeLine) (hr : Room k callerA)
    (F : ∀ base : Heap, K.In base → base.Ns mainGlobals mg → FnG P w K mg base CX k fa fd [x] sp) (hbind : ∀ (s : Shared) (u : Value), BindsTo s fd ⟨[u], []⟩ [(x, u)])
    (hsp : ∀ H : Hp, Only H → SqL K H a (ns.map V.int) → sp [.ref a] H (fun v _ => v = .bl true) fun _ _ _ => False) (hCX : ∀ H e s', CX [] H s₁ (fun _ _ _ => False) e s' → False) :
    codeAny (model P w) callerA (.call (.ref fa) ⟨[.ref a], []⟩) (fun r s' => r = .ok (.ret (.bool true)) ∧ OldK s₁.heap s'.heap ∧ s'.os = s₁.os ∧ AllBare s'.gens) s₁ := by
  have rv := vals_ints hi
  have hz : (ns.map V.int).length ≤ sizeLine := by rw [List.length_map]; exact hl
  cases hk : K.lookup a with
  | some o =>
    have e : o = { cls := .type "list", data := .seq vs.toArray } := Option.some.inj ((KX a o hk).symm.trans ha)
    subst e
    have hO : Only (fun _ => none) := fun _ => .inl rfl
    have hS : SqL K (fun _ => none) a (ns.map V.int) := .inr ⟨_, vs.toArray, _, hk, rfl, rfl, rfl, by rw [List.size_toArray, hi.length]; exact hl, by simpa using rv⟩
    exact coreG KX hns hb hbb hlim hg ha hr F hbind hCX hO (hsp _ hO hS) (fun b u z => nomatch (show (none : Option HO) = some u from z)) (fun b z => (z rfl).elim) fun z => (z rfl).elim
  | none =>
    have at_ : upd (fun _ => none) a (.frz { cls := .type "list", data := .seq vs.toArray } (.lst (ns.map V.int))) a = some (.frz { cls := .type "list", data := .seq vs.toArray } (.lst (ns.map V.int))) := upd_same
    have off : ∀ {b : Addr}, b ≠ a → upd (fun _ => none) a (.frz { cls := .type "list", data := .seq vs.toArray } (.lst (ns.map V.int))) b = none := fun n => upd_ne n
    have hO : Only (upd (fun _ => none) a (.frz { cls := .type "list", data := .seq vs.toArray } (.lst (ns.map V.int)))) := fun b => by
      by_cases h : b = a
      · rw [h]; exact .inr ⟨_, _, at_⟩
      · exact .inl (off h)
    refine coreG KX hns hb hbb hlim hg ha hr F hbind hCX hO (hsp _ hO (.inl (.inr ⟨_, at_⟩))) (fun b u z => ?_) (fun b z => Classical.byContradiction fun n => z (off n)) fun _ => hk
    by_cases h : b = a
    · subst h
      have e := Option.some.inj (at_.symm.trans z)
      subst e
      exact ⟨ha, hz, vs, _, rv, ha⟩
    · exact nomatch (off h).symm.trans z
end
theorem walk_ofG {l : PySem.W.OpenLaw} {n k : Nat} {q : Program} {loose : List Str} {XP : (Str → Option Value) → Heap → Prop} {YP : World → Heap → Prop} {d : DefRec} {K : Params → PySem.W.Frag} {CX : World → CXT} {sp : World → Sp} {x : Str}
    (hn : l.most = some n) (hn2 : n ≤ sizeLine) (hdf : d.params.defaults = []) (hr : Room k callerA) (hY : ∀ (w : World) (h : Heap), YP w h → (K w.params).In h)
    (F : ∀ (w : World) (mg : Str → Option Value) (fa : Addr) (h : Heap), (K w.params).In h → h.Ns mainGlobals mg → mg d.name = some (.ref fa) →
      ∃ fd : FuncData, (∀ (s : Shared) (u : Value), BindsTo s fd ⟨[u], []⟩ [(x, u)]) ∧ ∀ base : Heap, (K w.params).In base → base.Ns mainGlobals mg → FnG l.prog w (K w.params) mg base (CX w) k fa fd [x] (sp w))
    (hsp : ∀ (w : World) (H : Hp) (a : Addr) (ns : List Int), ns.length ≤ n → Only H → SqL (K w.params) H a (ns.map V.int) → sp w [.ref a] H (fun v _ => v = .bl true) fun _ _ _ => False)
    (hCX : ∀ (w : World) (H : Hp) (s : Shared) (e : Value) (s' : Shared), CX w [] H s (fun _ _ _ => False) e s' → False) : PySem.W.WalkO q loose XP YP l.row.toRowW d [] (fun f vs => PySem.call f vs) := by
  refine Att.attach_call hn hdf fun w s₀ s₁ mg mb fa o pm cd doc a vs ns G Y ho hd hcd hmg hobj hints hlen hg => ?_
  obtain ⟨fd, hb, hF⟩ := F w mg fa _ (hY w _ Y) G.T.g hmg
  exact law_callG (hY w _ Y) G.T.g G.T.b G.T.builtins G.T.nolimit hg hobj hints (Nat.le_trans hlen hn2) hr hF hb (fun H hO hS => hsp w H a ns hlen hO hS) fun H e s' => hCX w H s₁ e s'
end Ag
namespace Ag
open PySem PySem.Spec PyProof.Rows L2

/-! ### repr of data -/
inductive Sc : V → PyData → Prop
  | non : Sc .non .none
  | bl (b : Bool) : Sc (.bl b) (.bool b)
  | int (i : Int) : Sc (.int i) (.int i)
  | str (x : Str) : Sc (.str x) (.str x)
def keyD : Key → PyData
  | .inl i => .int i
  | .inr x => .str x
inductive ScKv : List (Key × V) → List (PyData × PyData) → Prop
  | nil : ScKv [] []
  | cons {k : Key} {v : V} {d : PyData} {kvs : List (Key × V)} {ds : List (PyData × PyData)} : Sc v d → ScKv kvs ds → ScKv ((k, v) :: kvs) ((keyD k, d) :: ds)
/-- v is the data d: plain data, or a dict of plain things -/
inductive DR (K : PySem.W.Frag) (H : Hp) : V → PyData → Prop
  | dp {v : V} {d : PyData} : Dp K H v d → DR K H v d
  | dic {a : Addr} {kvs : List (Key × V)} {ds : List (PyData × PyData)} : H a = some (.dK kvs) → ScKv kvs ds → DR K H (.ref a) (.dict ds)
mutual
theorem Dp.nodict {K : PySem.W.Frag} {H : Hp} : ∀ {v : V} {d : PyData}, Dp K H v d → d.hasDict = false
  | _, _, .non => rfl
  | _, _, .bl b => rfl
  | _, _, .int i => rfl
  | _, _, .str x => rfl
  | _, _, .lst h a => by simp only [PyData.hasDict]; exact DpAll.nodict a
  | _, _, .tup h a => by simp only [PyData.hasDict]; exact DpAll.nodict a
theorem DpAll.nodict {K : PySem.W.Frag} {H : Hp} : ∀ {vs : List V} {ds : List PyData}, DpAll K H vs ds → PyData.hasDictAll ds = false
  | _, _, .nil => rfl
  | _, _, .cons a b => by simp only [PyData.hasDictAll, Dp.nodict a, DpAll.nodict b, Bool.or_false]
end
theorem sc_reads {h : Heap} {v : V} {d : PyData} {u : Value} (s : Sc v d) (r : RelV v u) : Reads h u d [] := by
  cases s with
  | non => obtain rfl : u = .none := r; exact .none
  | bl b => obtain rfl : u = .bool b := r; exact .bool b
  | int i => obtain ⟨t, rfl⟩ := r; exact .int i t
  | str x => obtain ⟨t, rfl⟩ := r; exact .str x t
theorem key_reads {h : Heap} {k : Key} {u : Value} (e : keyIs k u = true) : Reads h u (keyD k) [] := by
  rcases keyIs_shape e with ⟨i, t, rfl, rfl⟩ | ⟨x, t, rfl, rfl⟩
  · exact .int i t
  · exact .str x t
theorem kv_reads {P : Program} {w : World} {h : Heap} : ∀ {kvs : List (Key × V)} {ds : List (PyData × PyData)} {vs : List (Key × Value)} {es : List DictEntry}, ScKv kvs ds → KV kvs vs → Pairs (mixKind P w) es vs →
    ReadsAll h (es.map (·.key)) (ds.map (·.1)) [] ∧ ReadsAll h (es.map (·.val)) (ds.map (·.2)) []
  | [], [], _, _, .nil, .nil, .nil => ⟨.nil, .nil⟩
  | (k, v) :: kvs, _ :: ds, _ :: vs, e :: es, .cons s ss, .cons r rs, .cons p1 p2 ps => by
    obtain ⟨a, b⟩ := kv_reads (h := h) ss rs ps
    have k1 : Reads h e.key (keyD k) [] := key_reads (by rw [show k = _ from r.1]; exact p1)
    have k2 : Reads h e.val _ [] := sc_reads s (by rw [p2]; exact r.2)
    exact ⟨ReadsAll.cons k1 a, ReadsAll.cons k2 b⟩
section
variable {X : Cx}
theorem DR.reads {pins : List (Addr × Obj)} {σ : L2.St} {H : Hp} {s : Shared} (I : Inv X pins σ H s) {v : V} {d : PyData} {u : Value} (h : DR X.K H v d) (r : RelV v u) : ∃ as, Reads s.heap u d as ∧ (d.hasDict = true → sysModules ∉ as) := by
  cases h with
  | dp h =>
    obtain ⟨as, q⟩ := Dp.reads I d v u h r
    exact ⟨as, q, fun z => by rw [Dp.nodict h] at z; cases z⟩
  | @dic a kvs ds e sc =>
    obtain rfl : u = .ref a := r
    obtain ⟨_, hs, vs, kv, o, es, ep, ho, hx, hd, _, ps, _⟩ := dk_of I.hok e
    obtain ⟨a1, a2⟩ := kv_reads (h := s.heap) sc kv ps
    refine ⟨_, .dict ho hx.1 hd a1 a2, fun _ z => ?_⟩
    have z' : sysModules = a := by simpa using z
    rw [← z'] at hs
    simp at hs
def rRepr (K : PySem.W.Frag) : List V → Hp → VK → Prop := fun xs H Q => ∃ v d, xs = [v] ∧ DR K H v d ∧ d.showable = true ∧ d.shown.length ≤ sizeLine ∧ d.depth ≤ 50 ∧ Q (.str d.shown) H
theorem call_repr (hG : X.A.guards = some []) (hu : X.A.units + 64 < cLine) : CallR X (.builtin "repr") (rRepr X.K) := by
  intro pins s σ H xs us Q I r h
  obtain ⟨v, d, rfl, dr, hs, hz, hd, q⟩ := h
  obtain ⟨u, rfl, ru⟩ := vals1 r
  obtain ⟨as, rd, hsm⟩ := DR.reads I dr ru
  have fin : ∀ h' t tk, (∀ b o, s.heap.get? b = some o → h'.get? b = some o) → EP X pins σ Q (.str d.shown t) { s with heap := h', toks := tk } := fun h' t tk k => ⟨.str d.shown, H, I.kept k, ⟨t, rfl⟩, q⟩
  have fin0 : ∀ t tk, EP X pins σ Q (.str d.shown t) { s with toks := tk } := fun t tk => ⟨.str d.shown, H, I.tok _, ⟨t, rfl⟩, q⟩
  cases rd with
  | none => exact PySem.P.repr_of_none (fin0 _ _)
  | bool b => exact PySem.P.repr_of_bool (fin0 _ _)
  | int i t => exact PySem.P.repr_of_int (by simpa [PyData.showable] using hs) (fin0 _ _)
  | str x t => exact PySem.P.repr_of_str (fin0 _ _) hz
  | list h1 h2 h3 h4 => exact repr_of_reads' (.list h1 h2 h3 h4) hs hsm hG (by omega) (fun _ _ e => e) (fun h' t tk k => fin h' t tk k) hz
  | tuple h1 h2 h3 h4 => exact repr_of_reads' (.tuple h1 h2 h3 h4) hs hsm hG (by omega) (fun _ _ e => e) (fun h' t tk k => fin h' t tk k) hz
  | dict h1 h2 h3 h4 h5 => exact repr_of_reads' (.dict h1 h2 h3 h4 h5) hs hsm hG (by omega) (fun _ _ e => e) (fun h' t tk k => fin h' t tk k) hz
end
end Ag
namespace Ag
open PySem PySem.W PySem.Spec PySem.Calls PyProof.Rows
/-! ### isinstance of an own error that has a dict -/
section
variable {prog : Program} {w : World} {A : Around} {E : Value → Shared → Prop} {s : Shared} {K : Frag} {x D : Addr} {ox : Obj} {od : Option Obj}
theorem find_data {name : Str} {a g : Value} (hc : (clsIn K D).isSome = true) (ha : findIn K (.ref D) name = some (some a)) (hg : specialIn K a "__get__" = some (some g)) (ht : takesIn K a = some true) : findObj K D od name = some (.bind g a) := by
  cases c : clsIn K D with
  | none => rw [c] at hc; cases hc
  | some cd => simp only [findObj, c, Option.bind_some, ha, hg, ht] <;> rfl
theorem class_of {Q : Option Value → Shared → Prop} (C : L2.ExcC K D) (X : K.In s.heap) (I : InstAt s.heap x ox D od) (q : Q (some (.ref D)) { s with toks := s.toks + 1 }) : wpAny (model prog w) A (getAttr? (.ref x) "__class__") Q E s := by
  have hc : (clsIn K D).isSome = true := by obtain ⟨cd, e, _⟩ := any_some C.hd; rw [e] <;> rfl
  obtain ⟨hp, g, d, t, os⟩ := s
  have l0 := I.type (M := model prog w)
  have lf := looks_find (M := model prog w) X I (find_data (od := od) hc C.ha C.hn C.ht)
  have no : (Value.builtin "BaseException.__getattribute__" == Value.builtin "object.__getattribute__") = false := by decide +kernel
  unfold getAttr? getAttrBy? getAttrBy
  refine wpAny_bind (wpAny_mkText (wpAny_bind (wpAny_attempt (wpAny_holding (wpAny_bind (l0.at (wpAny_bind ((looks_findIn (M := model prog w) X C.hg).at ?_))))))))
  show wpAny _ _ (if (onTheHeap (Value.ref D) && (Value.builtin "BaseException.__getattribute__" == Value.builtin "object.__getattribute__")) = true then _ else _) _ _ _
  rw [no, Bool.and_false, if_neg Bool.false_ne_true]
  unfold getAttrByItsOwn hookBefore
  refine wpAny_bind ?_
  have hh : onTheHeap (Value.ref D) = true := rfl
  rw [if_pos hh]
  refine (looks_findIn (M := model prog w) X C.hk).at (wpAny_bind (wpAny_attempt (wpAny_holding ?_)))
  unfold callGetattribute
  have hi : ¬ (false && onTheHeap (Value.builtin "BaseException.__getattribute__")) = true := Bool.false_ne_true
  rw [if_neg hi]
  unfold boundAndCalled
  rw [PySem.F.excAttr_ValueError.ga.bind (.ref x)]
  refine wpAny_bind (wpAny_pure (show wpAny _ _ (call (.builtin "BaseException.__getattribute__") [.ref x, .str "__class__" t]) _ _ _ from wpAny_call (codeAny_call_builtin PySem.F.excAttr_ValueError.ga.plain PySem.F.entry_bexc_ga ?_)))
  refine @check_slot (model prog w) _ _ ⟨hp, g, d, t + 1, os⟩ "BaseException.__getattribute__" "BaseException" "__getattribute__" (.ref x) [.str "__class__" t] [] _ (by decide +kernel) (by decide +kernel) (l0.andThen (looks_subIn X C.hs)) (PySem.F.args_bexc_ga (.ref x) (.str "__class__" t)) ?_
  unfold Builtin.«object.__getattribute__»
  refine wpAny_bind (wpAny_of_eq (a := ((Value.ref x : Value), [Value.str "__class__" t])) (by first | rfl | (simp only [slotArgs]; rfl)) (wpAny_bind (wpAny_pure (wpAny_bind (l0.at (wpAny_bind (lf.at ?_)))))))
  show wpAny _ _ (holding [Value.builtin "object.__class__"] (call (.builtin "getset_descriptor.__get__") [.builtin "object.__class__", .ref x, .ref D]) >>= ret) _ _ _
  refine wpAny_bind (wpAny_holding (wpAny_call (class_get (s := ⟨hp, g, d, t + 1, os⟩) (ox := ox) (od := od) X I C.hm (wpAny_pure ?_))))
  show wpAny _ _ (handedOut (.ref D)) _ _ _
  rw [handedOut_of (v := .ref D) rfl]
  exact wpAny_pure (wpAny_pure q)
theorem kitx_err (C : L2.ExcC K D) : KitX K (.ref x) (.ref D) (fun h => ∃ od, InstAt h x ox D od) := by
  obtain ⟨cd, hc, _⟩ := any_some C.hd
  have at_ : ∃ o : Obj, K.lookup D = some o ∧ o.data = .cls cd := by
    unfold clsIn at hc
    split at hc
    · rename_i c d cd' sl ho
      cases hc
      exact ⟨_, ho, rfl⟩
    · cases hc
  obtain ⟨o, ho, hd⟩ := at_
  refine ⟨fun _ _ _ ⟨_, I⟩ => I.type, fun M h X _ A Q E s k q => ?_, fun h tp dd its n sl X htp => ?_, fun X ⟨_, I⟩ k => class_of C X I k⟩
  · unfold isType loadHead
    refine wpAny_bind (wpAny_loadPart (k _ _ (X _ _ ho)) ?_)
    rw [hd]
    exact wpAny_pure q
  · refine Bool.eq_false_iff.mpr fun q => ?_
    have e : D = tp := Value.ref.inj (beq_iff_eq.mp q)
    subst e
    have z := Option.some.inj ((X _ _ ho).symm.trans htp)
    rw [z] at hd
    cases hd
end
open L2
theorem call_isX {X : Cx} {a D : Addr} {oe : Obj} {cls : Value} {d : Option Addr} {pn : List (Addr × Obj)} (C : ExcC X.K D) (hz : Zc cls d oe) (hf : ∃ vs, oe.data = .fields vs) : CallR (X.suite a ((a, oe) :: pn)) (.builtin "isinstance")
    (fun xs H Q => cls = .ref D ∧ (∃ dd u, d = some dd ∧ H dd = some (.xd u)) ∧ rIsE X.K D a xs H Q) := by
  rintro pins s σ H xs us Q I r ⟨rfl, ⟨dd, fs, rfl, hdd⟩, c, cv, b, rfl, hcv, e, q⟩
  cases r with
  | cons rx rr => cases rr with
    | cons rt rr =>
      cases rr
      cases rx
      cases hcv _ rt
      have hget := (I.pin (a, oe) (List.mem_append.mpr (.inl List.mem_cons_self))).1
      obtain ⟨vs, hv⟩ := hf
      have hx : ObjOk X.prog X.w H s.heap dd (.xd fs) := I.hok dd _ hdd
      obtain ⟨mA, hns, _⟩ := hx
      obtain ⟨o2, ho2, _⟩ := lookIn_ns hns
      have J : InstAt s.heap a oe D (some o2) := ⟨hget, hz.1, by unfold notCls; rw [hv] <;> rfl, by rw [hz.2]; exact ho2⟩
      exact kia_one (kitx_err C) I.kIn ⟨_, J⟩ e (fun z => nomatch z) fun tk => ⟨.bl b, H, I.kept (t' := tk) fun _ _ z => z, rfl, q⟩
end Ag
namespace Ag
open PySem PySem.Spec PyProof.Rows L2 Evl
/-! ### further builtins -/
structure Bl2 (mg : Str → Option Value) : Prop where
  tuple_ : mg "tuple" = none
  str_ : mg "str" = none
  list_ : mg "list" = none
  dict_ : mg "dict" = none
  repr_ : mg "repr" = none
  ValueError_ : mg "ValueError" = none
  sorted_ : mg "sorted" = none
/-! ### data: types, items -/
def tyD : PyData → String
  | .none => "NoneType"
  | .bool _ => "bool"
  | .int _ => "int"
  | .str _ => "str"
  | .list _ => "list"
  | .tuple _ => "tuple"
  | .dict _ => "dict"
section
variable {K : PySem.W.Frag} {σ : L2.St} {H H' : Hp} {ta tb te : TE} {v : V} {d : PyData}
theorem dp_ty (h : Dp K H v d) : TyX K H v (.type (tyD d)) := by
  cases h with
  | non => exact .base .non
  | bl b => exact .base (.bl b)
  | int i => exact .base (.int i)
  | str x => exact .base (.str x)
  | lst h _ =>
    rcases h with (h | ⟨o, h⟩) | ⟨o, its, n, e, c, _⟩
    · exact .base (.lst h)
    · exact .base (.frz h)
    · exact .kList e c
  | tup h _ =>
    rcases h with (h | ⟨o, h⟩) | ⟨o, its, n, e, c, _⟩
    · exact .base (.tup h)
    · exact .fTuple h
    · exact .kTuple e c
theorem dr_ty (h : DR K H v d) : TyX K H v (.type (tyD d)) := by
  cases h with
  | dp h => exact dp_ty h
  | dic h _ => exact .base (.dK h)
theorem DR.ex (e : Ex H H') (h : DR K H v d) : DR K H' v d := by
  cases h with
  | dp h => exact .dp (Dp.ex e h)
  | dic h s => exact .dic (e _ _ h) s
def isIntD : PyData → Option Int
  | .int i => some i
  | _ => none
theorem dr_noInt (h : DR K H v d) (n : isIntD d = none) : NoInt K H v := by
  have t := dr_ty h
  cases d with
  | int i => cases n
  | bool b =>
    cases h with
    | dp h => cases h with | bl => exact .inl ⟨b, rfl⟩
  | none => exact .inr ⟨_, t, show PySem.W.kitOne K (.type "NoneType") (.type "int") = some false from kit_ty (by decide +kernel)⟩
  | str x => exact .inr ⟨_, t, show PySem.W.kitOne K (.type "str") (.type "int") = some false from kit_ty (by decide +kernel)⟩
  | list x => exact .inr ⟨_, t, show PySem.W.kitOne K (.type "list") (.type "int") = some false from kit_ty (by decide +kernel)⟩
  | tuple x => exact .inr ⟨_, t, show PySem.W.kitOne K (.type "tuple") (.type "int") = some false from kit_ty (by decide +kernel)⟩
  | dict x => exact .inr ⟨_, t, show PySem.W.kitOne K (.type "dict") (.type "int") = some false from kit_ty (by decide +kernel)⟩
theorem dr_int {i : Int} (h : DR K H v (.int i)) : v = .int i := by
  cases h with
  | dp h => cases h; rfl
theorem dp_int {i : Int} (h : Dp K H v (.int i)) : v = .int i := by cases h; rfl
theorem dp_str {x : Str} (h : Dp K H v (.str x)) : v = .str x := by cases h; rfl
def EvR (K : PySem.W.Frag) (te : TE) (σ : L2.St) (H : Hp) (d : PyData) : Prop := EvP te σ H (fun v H2 => DR K H2 v d)
theorem er_var {i : Nat} (h : σ[i]? = some (some v)) (hd : DR K H v d) : EvR K (tVar i) σ H d := evp_var h fun _ e => DR.ex e hd
theorem ev_isD {T : String} {b : Bool} (h : EvR K te σ H d) (hk : PySem.W.kitOne K (.type (tyD d)) (.type T) = some b) : Ev (tCB (rIsi K) (tCons te (tCons (tC (.ty T)) tNil))) σ H (.bl b) :=
  ev_isi (h.imp fun _ _ _ z => dr_ty z) ev_c (.ty _) hk
theorem ed_c (h : Dp K H v d) : EvD K (tC v) σ H d := fun H1 e Q q => q v H1 (Ex.refl H1) (Dp.ex e h)
theorem ev_lenT {p : Addr} {xs : List V} (ha : Ev ta σ H (.ref p)) (h : SqT K H p xs) : Ev (tCB (rLenS K) (tCons ta tNil)) σ H (.int (xs.length : Int)) := fun H1 e Q q =>
  ha H1 e _ fun H2 e2 => ⟨p, xs, rfl, .inr (ex_t (e.trans e2) h), q H2 e2⟩
end
end Ag
namespace Ag
open PySem PySem.Spec PyProof.Rows L2 Evl
/-! ### displayed dicts -/
def EvK (te : TE) (σ : L2.St) (H : Hp) (kvs : List (Key × V)) : Prop := ∀ H1, Ex H H1 → ∀ Q : VK, (∀ p H2, H1 p = none → Ex H1 H2 → H2 p = some (.dK kvs) → Q (.ref p) H2) → te σ H1 Q
inductive EvPr : List (TE × TE) → L2.St → Hp → List (Key × V) → Prop
  | nil {σ : L2.St} {H : Hp} : EvPr [] σ H []
  | cons {σ : L2.St} {H : Hp} {tk tv : TE} {k : Key} {v : V} {trs : List (TE × TE)} {kvs : List (Key × V)} : Ev tk σ H (kV k) → Ev tv σ H v → EvPr trs σ H kvs → EvPr ((tk, tv) :: trs) σ H ((k, v) :: kvs)
section
variable {σ : L2.St} {H : Hp} {te ta tb : TE} {trs : List (TE × TE)} {kvs : List (Key × V)} {t : TT} {D : Ends}
theorem EvK.mono {H' : Hp} (e : Ex H H') (h : EvK te σ H kvs) : EvK te σ H' kvs := fun H1 a Q q => h H1 (e.trans a) Q q
theorem EvPr.run (h : EvPr trs σ H kvs) : ∀ H1, Ex H H1 → ∀ Q : List (V × V) → Hp → Prop, (∀ H2, Ex H1 H2 → Q (kvs.map fun kv => (kV kv.1, kv.2)) H2) → tPairs trs σ H1 Q := by
  induction h with
  | nil => exact fun H1 _ Q q => q H1 (Ex.refl H1)
  | cons hk hv _ ih => exact fun H1 e Q q => hk H1 e _ fun H2 e2 => hv H2 (e.trans e2) _ fun H3 e3 => ih H3 ((e.trans e2).trans e3) _ fun H4 e4 => q H4 ((e2.trans e3).trans e4)
theorem ek_disp {all : List (Key × V)} (h : EvPr trs σ H kvs) (hl : kvs.length ≤ 15) (hm : mergeK [] kvs = all) : EvK (tDisp trs) σ H all := fun H1 e Q q p hp => by
  subst hm
  exact h.run _ (e.trans (Ex.new hp)) _ fun H2 e2 => ⟨e2 p _ upd_same, kvs, rfl, hl, q p _ hp (Ex.mut ((Ex.new hp).trans e2) hp) upd_same⟩
theorem ek_new : EvK tDNewK σ H [] := fun H1 _ Q q p hp => q p _ hp (Ex.new hp) upd_same
theorem ek_if {b : Bool} (h : EvT t σ H b) (h1 : b = true → EvK ta σ H kvs) (h2 : b = false → EvK tb σ H kvs) : EvK (tIf t ta tb) σ H kvs := fun H1 e Q q => h H1 e _ fun H2 e2 => by
  cases b with
  | true => exact h1 rfl H2 (e.trans e2) Q fun p H3 hp e3 h3 => q p H3 (fresh_back e2 hp) (e2.trans e3) h3
  | false => exact h2 rfl H2 (e.trans e2) Q fun p H3 hp e3 h3 => q p H3 (fresh_back e2 hp) (e2.trans e3) h3
theorem s_retK (h : EvK te σ H kvs) (k : ∀ p H1, H p = none → Ex H H1 → H1 p = some (.dK kvs) → D.rt (.ref p) H1) : tRet te D σ H := h H (Ex.refl H) _ k
end
end Ag
namespace Ag
open PySem PySem.Spec PyProof.Rows L2 Evl
/-! ### within a try: calls whose errors are caught; what is asked of a caught error -/
def rIsX (K : PySem.W.Frag) (D a : Addr) (cls : Value) (d : Option Addr) : List V → Hp → VK → Prop := fun xs H Q => cls = .ref D ∧ (∃ dd u, d = some dd ∧ H dd = some (.xd u)) ∧ rIsE K D a xs H Q
theorem call_is {X : Cx} {a D : Addr} {oe : Obj} {cls : Value} {d : Option Addr} {pn : List (Addr × Obj)} (C : ExcC X.K D) (hz : Zc cls d oe) (hf : ∃ vs, oe.data = .fields vs) : CallR (X.suite a ((a, oe) :: pn)) (.builtin "isinstance") (rIsX X.K D a cls d) := call_isX C hz hf
section
variable {X : Cx} {CX : CXT} {k j : Nat} {ps : List Str} {sp : Sp} {E : L2.St → XK} {x : Str} {p pos : Pos} {e : Expr} {es : List Expr} {t : TA}
theorem pe_fnS (c : Fn X.prog X.w X.K X.mg X.base x ps CX k sp) (hr : Room j X.A) (hx : ∀ σ, PassesAt CX X σ (E σ)) (ha : PA X (e :: es) t) (hk : k ≤ j := by decide) (hg : Gl X x := by rfl)
    (hdb : (x == ("__debug__" : Str)) = false := by decide) (he : starEach (e :: es) X.env = (false, eval e X.env) :: starEach es X.env := by rfl) (hpl : (backTo pos (starEach es X.env)).any (·.1) = false := by rfl) :
    PE X (.Call (.Name x p) (e :: es) [] pos) (tCallS sp E t) := by
  obtain ⟨f, fd, g, kp, b, F⟩ := c
  exact pe_callS F (hr.mono hk) hg g kp b hx ha hdb he hpl
end
end Ag
namespace Ag
open PySem PySem.Spec PyProof.Rows L2 Evl
/-! ### what lies in H2 and did not in Hs -/
def Nn (Hs H : Hp) : Hp := fun b => if Hs b = none then H b else none
section
variable {Hs H H' H1 H2 : Hp} {p : Addr} {o : HO}
theorem nn_at (n : Hs p = none) (h : H p = some o) : Nn Hs H p = some o := by
  unfold Nn
  rw [if_pos n]
  exact h
theorem nn_of (h : Nn Hs H p = some o) : Hs p = none ∧ H p = some o := by
  unfold Nn at h
  by_cases n : Hs p = none
  · rw [if_pos n] at h; exact ⟨n, h⟩
  · rw [if_neg n] at h; cases h
theorem nn_ex (e : Ex H H') : Ex (Nn Hs H) (Nn Hs H') := fun a u h => nn_at (nn_of h).1 (e a u (nn_of h).2)
theorem nn_in : Ex (Nn Hs H) H := fun a u h => (nn_of h).2
/-- what is new is kept where all but an old p is kept -/
theorem nn_kp (k : Kp p H H') (n : Hs p ≠ none) : Ex (Nn Hs H) (Nn Hs H') := fun a u h => nn_at (nn_of h).1 (k a u (fun z => n (z ▸ (nn_of h).1)) (nn_of h).2)
theorem ex_kp (k : Kp p H H') (n : Hs p = none) (e : Ex Hs H) : Ex Hs H' := fun a u h => k a u (fun z => by rw [z, n] at h; cases h) (e a u h)
end
inductive DRAll (K : PySem.W.Frag) (H : Hp) : List V → List PyData → Prop
  | nil : DRAll K H [] []
  | cons {v : V} {vs : List V} {d : PyData} {ds : List PyData} : DR K H v d → DRAll K H vs ds → DRAll K H (v :: vs) (d :: ds)
section
variable {K : PySem.W.Frag} {Hs H H' : Hp} {σ : L2.St} {ta tb te : TE} {tas : TA} {v : V} {d : PyData} {ds es : List PyData} {vs xs ys : List V}
theorem DRAll.ex (e : Ex H H') (h : DRAll K H vs ds) : DRAll K H' vs ds := by
  induction h with
  | nil => exact .nil
  | cons a _ ih => exact .cons (DR.ex e a) ih
theorem DRAll.len (h : DRAll K H vs ds) : vs.length = ds.length := by
  induction h with
  | nil => rfl
  | cons _ _ ih => exact congrArg (· + 1) ih
theorem DRAll.append (h : DRAll K H xs ds) (g : DRAll K H ys es) : DRAll K H (xs ++ ys) (ds ++ es) := by
  induction h with
  | nil => exact g
  | cons a _ ih => exact .cons a ih
theorem DRAll.at {i : Nat} (h : DRAll K H vs ds) (e : vs[i]? = some v) : ∃ d, ds[i]? = some d ∧ DR K H v d := by
  induction h generalizing i with
  | nil => simp at e
  | cons a _ ih =>
    cases i with
    | zero =>
      have z : _ = v := Option.some.inj e
      subst z
      exact ⟨_, rfl, a⟩
    | succ i => exact ih (by simpa using e)
/-- te gives data d of which all lies in what is new since Hs -/
def EnR (K : PySem.W.Frag) (Hs : Hp) (te : TE) (σ : L2.St) (H : Hp) (d : PyData) : Prop := EvP te σ H (fun v H2 => DR K (Nn Hs H2) v d)
def EnD (K : PySem.W.Frag) (Hs : Hp) (te : TE) (σ : L2.St) (H : Hp) (d : PyData) : Prop := EvP te σ H (fun v H2 => Dp K (Nn Hs H2) v d)
def EnDs (K : PySem.W.Frag) (Hs : Hp) (ta : TA) (σ : L2.St) (H : Hp) (ds : List PyData) : Prop := EvPs ta σ H (fun vs H2 => DpAll K (Nn Hs H2) vs ds)
def EnRs (K : PySem.W.Frag) (Hs : Hp) (ta : TA) (σ : L2.St) (H : Hp) (ds : List PyData) : Prop := EvPs ta σ H (fun vs H2 => DRAll K (Nn Hs H2) vs ds)
/-- .. a list of such -/
def LiN (K : PySem.W.Frag) (Hs : Hp) (v : V) (H : Hp) (ds : List PyData) : Prop := ∃ l xs, v = .ref l ∧ Hs l = none ∧ H l = some (.lst xs) ∧ DRAll K (Nn Hs H) xs ds
def EnL (K : PySem.W.Frag) (Hs : Hp) (te : TE) (σ : L2.St) (H : Hp) (ds : List PyData) : Prop := EvP te σ H (fun v H2 => LiN K Hs v H2 ds)
theorem LiN.ex (e : Ex H H') (h : LiN K Hs v H ds) : LiN K Hs v H' ds := by
  obtain ⟨l, xs, rfl, n, hl, a⟩ := h
  exact ⟨l, xs, rfl, n, e _ _ hl, DRAll.ex (nn_ex e) a⟩
theorem en_int {i : Int} (h : Ev te σ H (.int i)) : EnD K Hs te σ H (.int i) := fun H1 e Q q => h H1 e Q fun H2 e2 => q _ H2 e2 (.int i)
theorem en_bl {b : Bool} (h : Ev te σ H (.bl b)) : EnD K Hs te σ H (.bool b) := fun H1 e Q q => h H1 e Q fun H2 e2 => q _ H2 e2 (.bl b)
theorem en_str {s : Str} (h : Ev te σ H (.str s)) : EnD K Hs te σ H (.str s) := fun H1 e Q q => h H1 e Q fun H2 e2 => q _ H2 e2 (.str s)
theorem en_non (h : Ev te σ H .non) : EnD K Hs te σ H .none := fun H1 e Q q => h H1 e Q fun H2 e2 => q _ H2 e2 .non
theorem ens_nil : EnDs K Hs tNil σ H [] := fun H1 _ _ q => q [] H1 (Ex.refl H1) .nil
theorem ens_cons (h : EnD K Hs te σ H d) (hs : EnDs K Hs tas σ H ds) : EnDs K Hs (tCons te tas) σ H (d :: ds) := fun H1 e _ q =>
  h H1 e _ fun v H2 e2 p => hs H2 (e.trans e2) _ fun vs H3 e3 ps => q _ H3 (e2.trans e3) (.cons (Dp.ex (nn_ex e3) p) ps)
theorem en_lst (eh : Ex Hs H) (h : EnDs K Hs tas σ H ds) (hl : Nat.ble ds.length 100000 = true := by rfl) : EnD K Hs (tLst tas) σ H (.list ds) := fun H1 e _ q =>
  h H1 e _ fun vs H2 e2 p => ⟨sz_of (by rw [DpAll.len p]; exact Nat.le_of_ble_eq_true hl), fun l n =>
    q _ _ (e2.trans (Ex.new n)) (.lst (sq_of (nn_at (fresh_back (eh.trans (e.trans e2)) n) upd_same)) (DpAll.ex (nn_ex (Ex.new n)) p))⟩
theorem en_tup (eh : Ex Hs H) (h : EnDs K Hs tas σ H ds) (hl : Nat.ble ds.length 100000 = true := by rfl) : EnD K Hs (tTup tas) σ H (.tuple ds) := fun H1 e _ q =>
  h H1 e _ fun vs H2 e2 p => ⟨sz_of (by rw [DpAll.len p]; exact Nat.le_of_ble_eq_true hl), fun l n =>
    q _ _ (e2.trans (Ex.new n)) (.tup (st_of (nn_at (fresh_back (eh.trans (e.trans e2)) n) upd_same)) (DpAll.ex (nn_ex (Ex.new n)) p))⟩
theorem er_dp (h : EnD K Hs te σ H d) : EnR K Hs te σ H d := h.imp fun _ _ _ z => .dp z
theorem er_dnew (eh : Ex Hs H) : EnR K Hs tDNewK σ H (.dict []) := fun H1 e Q q p n => q _ _ (Ex.new n) (.dic (nn_at (fresh_back (eh.trans e) n) upd_same) .nil)
theorem ers_nil : EnRs K Hs tNil σ H [] := fun H1 _ _ q => q [] H1 (Ex.refl H1) .nil
theorem ers_cons (h : EnR K Hs te σ H d) (hs : EnRs K Hs tas σ H ds) : EnRs K Hs (tCons te tas) σ H (d :: ds) := fun H1 e _ q =>
  h H1 e _ fun v H2 e2 p => hs H2 (e.trans e2) _ fun vs H3 e3 ps => q _ H3 (e2.trans e3) (.cons (DR.ex (nn_ex e3) p) ps)
theorem enl_lst (eh : Ex Hs H) (h : EnRs K Hs tas σ H ds) (hl : Nat.ble ds.length 100000 = true := by rfl) : EnL K Hs (tLst tas) σ H ds := fun H1 e _ q =>
  h H1 e _ fun vs H2 e2 p => ⟨sz_of (by rw [DRAll.len p]; exact Nat.le_of_ble_eq_true hl), fun l n =>
    q _ _ (e2.trans (Ex.new n)) ⟨l, vs, rfl, fresh_back (eh.trans (e.trans e2)) n, upd_same, DRAll.ex (nn_ex (Ex.new n)) p⟩⟩
theorem enl_var {i : Nat} (h : σ[i]? = some (some v)) (hd : LiN K Hs v H ds) : EnL K Hs (tVar i) σ H ds := evp_var h fun _ e => hd.ex e
theorem enl_cat (eh : Ex Hs H) (h : EnL K Hs ta σ H ds) (g : EnL K Hs tb σ H es) (hl : Nat.ble (ds.length + es.length) 100000 = true := by rfl) : EnL K Hs (tOp rCat ta tb) σ H (ds ++ es) := fun H1 e _ q =>
  h H1 e _ fun v H2 e2 p => g H2 (e.trans e2) _ fun w H3 e3 p' => by
    obtain ⟨l, xs, rfl, n1, h1, a1⟩ := p.ex e3
    obtain ⟨l', ys, rfl, n2, h2, a2⟩ := p'
    refine ⟨l, l', xs, ys, rfl, rfl, h1, h2, sz_of (by rw [DRAll.len a1, DRAll.len a2]; exact Nat.le_of_ble_eq_true hl), fun k n => ?_⟩
    exact q _ _ ((e2.trans e3).trans (Ex.new n)) ⟨k, xs ++ ys, rfl, fresh_back (eh.trans (e.trans (e2.trans e3))) n, upd_same, (DRAll.ex (nn_ex (Ex.new n)) a1).append (DRAll.ex (nn_ex (Ex.new n)) a2)⟩
/-- a comprehension over a tuple -/
theorem el_lcT {a : Addr} {xs : List V} {tl : TE} {j : Nat} {vs : List Nat} {t : TT} (f : Nat → Bool) (v : Nat → V) (h : Ev tl σ H (.ref a)) (hx : SqT K H a xs) (hz : xs.length ≤ 40000) (hw : ∀ x, wipe ((wipe σ vs).set j (some x)) vs = wipe σ vs)
    (ht : ∀ (i : Nat) (x : V) H1, Ex H H1 → xs[i]? = some x → EvT t ((wipe σ vs).set j (some x)) H1 (f i)) (he : ∀ (i : Nat) (x : V) H1, Ex H H1 → xs[i]? = some x → f i = true → Ev te ((wipe σ vs).set j (some x)) H1 (v i)) :
    EvL (tLc (iTup K tl) (gName j) t te vs) σ H (given xs.length f v) := by
  intro H0 e Q q
  refine h H0 e _ fun H1 e1 => ⟨a, rfl, ⟨xs, ex_t (e.trans e1) hx⟩, fun Dl hD => ?_⟩
  refine lc_tup (xs := xs) (Cw H1 f v Dl) ⟨hD, Ex.new hD, upd_same⟩ (fun i H' _ p => ex_t ((e.trans e1).trans p.2.1) hx) (fun i x H' hi p => ⟨hw x, ?_⟩) fun H' p => q Dl H' (fresh_back e1 p.1) (e1.trans p.2.1) p.2.2
  exact cw_turn p (by have := (List.getElem?_eq_some_iff.mp hi).1; omega) (ht i x H1 (e.trans e1) hi) fun hf => he i x H1 (e.trans e1) hi hf
theorem et_yes {σ : L2.St} {H : Hp} : EvT tYes σ H true := fun H1 _ _ q => q H1 (Ex.refl H1)
theorem ed_L {ds : List PyData} (h : EvL te σ H xs) (hd : ∀ H2, DpAll K H2 xs ds) : EvD K te σ H (.list ds) := fun H1 e _ q => h H1 e _ fun p H2 n e2 h2 => q _ H2 e2 (.lst (sq_of h2) (hd H2))
theorem ev_isnB {a b : Bool} (ha : Ev ta σ H (.bl a)) (hb : Ev tb σ H (.bl b)) : Ev (tOp (fun x y H Q => ∃ a b, x = .bl a ∧ y = .bl b ∧ Q (.bl (!decide (a = b))) H) ta tb) σ H (.bl (!decide (a = b))) :=
  ev_op ha hb fun H1 _ _ q => ⟨a, b, rfl, rfl, q H1 (Ex.refl H1)⟩
theorem ev_notN (ha : Ev ta σ H v) : Ev (tOp (fun x y H Q => y = .non ∧ Q (.bl (!decide (x = .non))) H) ta (tC .non)) σ H (.bl (!decide (v = .non))) :=
  ev_op ha ev_c fun H1 _ _ q => ⟨rfl, q H1 (Ex.refl H1)⟩
end
/-! ### t.index(x) -/
def rTupIx (K : PySem.W.Frag) : V → List V → Hp → VK → Prop := fun x xs H Q => ∃ p, ∃ ys : List Str, ∃ z j, x = .ref p ∧ xs = [.str z] ∧ SqT K H p (ys.map V.str) ∧ ys[j]? = some z ∧ (∀ m, m < j → ys[m]? ≠ some z) ∧ Q (.int (j : Nat)) H
theorem mt_tupIx {X : Cx} : MtR X "tuple.index" (rTupIx X.K) := mt_tup_index
def rListDK : List V → Hp → VK → Prop := fun xs H Q => ∃ (a : Addr) (kvs : List (Key × V)), xs = [.ref a] ∧ Rd H a (.dK kvs) ∧ ∀ p, H p = none → Q (.ref p) (upd H p (.lst (kvs.map fun kv => kV kv.1)))
theorem call_listDK {X : Cx} (hc : X.calm = true) : CallR X (.type "list") rListDK := call_listD hc
section
variable {σ : L2.St} {H : Hp} {td ty tv te : TE} {u : TS} {D : Ends} {kvs : List (Key × V)}
theorem q_asgK {i : Nat} (h : EvK te σ H kvs) (k : ∀ p H1, H p = none → Ex H H1 → H1 p = some (.dK kvs) → u D (σ.set i (some (.ref p))) H1) : tSeq (tAsg te (gName i)) u D σ H := h H (Ex.refl H) _ k
theorem q_dput {k : Key} {v : V} {a : Addr} (hv : Ev tv σ H v) (hd : Ev td σ H (.ref a)) (hy : Ev ty σ H (kV k)) (ha : H a = some (.dK kvs)) (hl : kvs.length < sizeLine) (q : ∀ H1, Ex H H1 → u D σ (upd H1 a (.dK (putK kvs k v)))) : tSeq (sDPut td ty tv) u D σ H :=
  hv H (Ex.refl H) _ fun H1 e1 => hd H1 e1 _ fun H2 e2 => hy H2 (e1.trans e2) _ fun H3 e3 => ⟨a, _, rfl, DPut.k ((e1.trans (e2.trans e3)) _ _ ha) hl, q H3 (e1.trans (e2.trans e3))⟩
end
theorem kit_typ {K : PySem.W.Frag} {t : Value} {T : String} {b : Bool} (hne : (t == Value.type T) = false) (hm : PySem.W.kitMeta T = true) (hs : PySem.W.subIn K t (.type T) = some b) : PySem.W.kitOne K t (.type T) = some b := by
  unfold PySem.W.kitOne
  rw [if_neg (by rw [hne]; exact Bool.false_ne_true)]
  show (if PySem.W.kitMeta T = true then PySem.W.subIn K t (.type T) else none) = some b
  rw [if_pos hm]
  exact hs
end Ag
namespace Ag
open PySem PySem.Spec PyProof.Rows L2 Evl
def top (i : Nat) : Stmt := PySem.Challenge.pw_agedfiles_k06_deeds_and_backs.main.body.getD i (.Pass ⟨0, 0, 0, 0⟩)
abbrev s_is_whole : Stmt := top 4
abbrev s_is_between : Stmt := top 5
abbrev s_is_time : Stmt := top 10
abbrev s_is_deed : Stmt := top 11
abbrev s_makes : Stmt := top 12
abbrev s_backs : Stmt := top 13
abbrev s__law_source : Stmt := top 15
abbrev s__law_draw : Stmt := top 16
abbrev s__law_pick : Stmt := top 17
abbrev s__law_refused : Stmt := top 18
abbrev s_law : Stmt := top 19
theorem sc_is_whole : FnScope ["value"] ["value"] (defScope s_is_whole) := ⟨rfl, rfl, rfl, by decide +kernel, rfl, by decide +kernel, by decide +kernel⟩
theorem sc_is_between : FnScope ["value", "low", "high"] ["value", "low", "high"] (defScope s_is_between) := ⟨rfl, rfl, rfl, by decide +kernel, rfl, by decide +kernel, by decide +kernel⟩
theorem sc_is_time : FnScope ["value"] ["value"] (defScope s_is_time) := ⟨rfl, rfl, rfl, by decide +kernel, rfl, by decide +kernel, by decide +kernel⟩
theorem sc_is_deed : FnScope ["value"] ["value"] (defScope s_is_deed) := ⟨rfl, rfl, rfl, by decide +kernel, rfl, by decide +kernel, by decide +kernel⟩
theorem sc_makes : FnScope ["value"] ["value"] (defScope s_makes) := ⟨rfl, rfl, rfl, by decide +kernel, rfl, by decide +kernel, by decide +kernel⟩
theorem sc_backs : FnScope ["deed", "word"] ["deed"] (defScope s_backs) := ⟨rfl, rfl, rfl, by decide +kernel, rfl, by decide +kernel, by decide +kernel⟩
theorem sc__law_source : FnScope ["script", "turn", "cell", "number", "seed"] ["script", "turn"] (defScope s__law_source) := ⟨rfl, rfl, rfl, by decide +kernel, rfl, by decide +kernel, by decide +kernel⟩
theorem sc__law_draw : FnScope ["source", "amount", "digit", "found"] ["source", "amount"] (defScope s__law_draw) := ⟨rfl, rfl, rfl, by decide +kernel, rfl, by decide +kernel, by decide +kernel⟩
theorem sc__law_pick : FnScope ["source", "items"] ["source", "items"] (defScope s__law_pick) := ⟨rfl, rfl, rfl, by decide +kernel, rfl, by decide +kernel, by decide +kernel⟩
theorem sc__law_refused : FnScope ["odd", "found", "e"] ["odd"] (defScope s__law_refused) := ⟨rfl, rfl, rfl, by decide +kernel, rfl, by decide +kernel, by decide +kernel⟩
theorem sc_law : FnScope ["script", "turn", "source", "back", "some", "deed", "due", "told", "odd", "mark"] ["script"] (defScope s_law) := ⟨rfl, rfl, rfl, by decide +kernel, rfl, by decide +kernel, by decide +kernel⟩
section
variable {P : Program} {w : World} {K : PySem.W.Frag} {mg : Str → Option Value} {base : Heap}
theorem ok_is_whole {f : Addr} {fd : FuncData} (F : Fun K "is_whole" "is_whole" s_is_whole f fd) (B : Bl mg) : FnOk P w K mg base CX0 1 f fd ["value"] (spWhole K) := by
  refine F.ok sc_is_whole (fun vs H Q E h => ?_) (fun cdv A outer s H vs Q E hr h => ?_)
  · obtain ⟨i, rfl, _⟩ | ⟨x, rfl, _⟩ := h <;> rfl
  · refine ⟨_, (pss_one (ps_ret (pe_and (pe_callB call_isi (by rfl) B.isinstance_ (by decide +kernel) (pa_cons (pv 0) (pa_cons (pe_ty "int" (by rfl) B.int_ (by decide +kernel)) pa_nil))) (pe_one (pe_not (pe_callB call_isi (by rfl) B.isinstance_ (by decide +kernel) (pa_cons (pv 0) (pa_cons (pe_ty "bool" (by rfl) B.bool_ (by decide +kernel)) pa_nil)))))))), ?_⟩
    obtain ⟨i, rfl, q⟩ | ⟨x, rfl, n, q⟩ := h
    · exact ⟨_, rfl, _, _, _, _, true, rfl, .ty _, .base (.int i), kit_ty (by decide +kernel), true, rfl, iteT ⟨_, rfl, _, _, _, _, false, rfl, .ty _, .base (.int i), kit_ty (by decide +kernel), false, rfl, q⟩⟩
    · obtain ⟨b, rfl⟩ | ⟨t, ty, e⟩ := n
      · exact ⟨_, rfl, _, _, _, _, true, rfl, .ty _, .base (.bl b), kit_ty (by decide +kernel), true, rfl, iteT ⟨_, rfl, _, _, _, _, true, rfl, .ty _, .base (.bl b), kit_ty (by decide +kernel), true, rfl, q⟩⟩
      · exact ⟨_, rfl, _, _, _, _, false, rfl, .ty _, ty, e, false, rfl, iteF q⟩
theorem ok_is_between {f : Addr} {fd : FuncData} (F : Fun K "is_between" "is_between" s_is_between f fd) (B : Bl mg) (c_is_whole : Fn P w K mg base "is_whole" ["value"] CX0 1 (spWhole K)) : FnOk P w K mg base CX0 2 f fd ["value", "low", "high"] (spBetween K) := by
  refine F.ok sc_is_between (fun vs H Q E h => ?_) (fun cdv A outer s H vs Q E hr h => ?_)
  · obtain ⟨i, lo, hi, rfl, _⟩ | ⟨x, y, z, rfl, _⟩ := h <;> rfl
  · refine ⟨_, (pss_one (ps_ret (pe_and (pe_fn c_is_whole hr pass0 (pa_cons (pv 0) pa_nil)) (pe_one (pe_chain op_le op_le (pv 1) (pv 0) (pv 2)))))), ?_⟩
    obtain ⟨i, lo, hi, rfl, q⟩ | ⟨x, y, z, rfl, n, q⟩ := h
    · refine ⟨_, rfl, .inl ⟨i, rfl, true, rfl, iteT ⟨_, rfl, _, rfl, _, _, rfl, rfl, _, rfl, ?_⟩⟩⟩
      by_cases h1 : lo ≤ i
      · rw [decide_eq_true h1]
        refine iteT ⟨_, rfl, _, _, rfl, rfl, ?_⟩
        have e : decide (i ≤ hi) = decide (lo ≤ i ∧ i ≤ hi) := decide_eq_decide.mpr ⟨fun z => ⟨h1, z⟩, fun z => z.2⟩
        show Q (.bl (decide (i ≤ hi))) H
        rw [e]
        exact q
      · rw [decide_eq_false h1]
        refine iteF ?_
        rw [decide_eq_false (fun z => h1 z.1)] at q
        exact q
    · exact ⟨_, rfl, .inr ⟨x, rfl, n, false, rfl, iteF q⟩⟩
end
local macro_rules | `(tactic| walk_at "st") => `(tactic| first | refine ⟨_, rfl, ?_⟩ | refine ⟨_, _, rfl, rfl, ?_⟩)
section
variable {P : Program} {w : World} {K : PySem.W.Frag} {mg : Str → Option Value} {base : Heap}
theorem ok__law_source {f : Addr} {fd : FuncData} (F : Fun K "_law_source" "_law_source" s__law_source f fd) (B : Bl mg) : FnOk P w K mg base CX0 1 f fd ["script", "turn"] (spSource K) := by
  refine F.ok sc__law_source (fun vs H Q E h => ?_) (fun cdv A outer s H vs Q E hr h => ?_)
  · obtain ⟨a, ns, t, rfl, _⟩ := h
    rfl
  · obtain ⟨a, ns, t, rfl, hS, hl, h0, h1, q⟩ := h
    refine ⟨_, (pss_cons (ps_set (i := 2) sc__law_source.nd rfl (Or.inl rfl) pe_int)
      (Evl.pss_cut (ps_if (pt_cmpR op_lt (pv 1) (pe_callB call_len_seq (by rfl) B.len_ (by decide +kernel) (pa_cons (pv 0) pa_nil)) (nomark _)) (pss_one (ps_set (i := 2) sc__law_source.nd rfl (Or.inl rfl) (pe_ix ix_list (pv 0) (pv 1) (fun _ _ => rfl)))) pss_nil)
      (pss_cons (ps_set (i := 3) sc__law_source.nd rfl (Or.inl rfl) (pe_callB call_abs (by rfl) B.abs_ (by decide +kernel) (pa_cons (pv 2) pa_nil)))
      (pss_cons (ps_set (i := 4) sc__law_source.nd rfl (Or.inl rfl) (pe_op op_mod (pe_callTy call_int1 (by rfl) B.int_ (by decide +kernel) (pa_cons (pe_op op_add (pe_op op_add (pe_op op_mul (pe_op op_mod (pe_callTy call_int1 (by rfl) B.int_ (by decide +kernel) (pa_cons (pv 3) pa_nil)) pe_int) pe_int) (pe_op op_mul pe_int (pv 1))) pe_int) pa_nil)) pe_int))
      (Evl.pss_cut (ps_if (pt_cmpR op_lt (pv 3) (pe_op op_pow pe_int pe_int) (nomark _)) (pss_one (ps_set (i := 3) sc__law_source.nd rfl (Or.inl rfl) pe_int)) pss_nil)
      (pss_one (ps_ret (pe_lst (pa_cons (pv 3) (pa_cons (pv 4) pa_nil)))))))))), ?_⟩
    refine ⟨fun σ' H' => ∃ c : Int, σ' = [some (.ref a), some (.int t), some (.int c), none, none] ∧ H' = H, ?_, ?_⟩
    · refine ⟨_, rfl, _, rfl, a, _, rfl, .inl hS, _, _, rfl, rfl, _, rfl, ite2 (fun e => ?_) (fun e => ?_)⟩
      · have e1 : t < ((ns.map V.int).length : Int) := of_decide_eq_true e
        rw [List.length_map] at e1
        have e2 : t.toNat < ns.length := by omega
        refine ⟨_, rfl, _, rfl, a, _, t, .int ns[t.toNat], rfl, rfl, hS, at_of (j := t.toNat) (by omega) ?_, _, rfl, rfl⟩
        rw [List.getElem?_map, List.getElem?_eq_getElem e2]
        rfl
      · exact ⟨0, rfl, rfl⟩
    · rintro σ' H1 ⟨c, rfl, rfl⟩
      refine ⟨_, rfl, c, rfl, ?_⟩
      dsimp only
      generalize hn : (if c < 0 then -c else c) = n
      have n0 : 0 ≤ n := by rw [← hn]; split <;> omega
      refine ⟨_, rfl, .inl ⟨n, rfl, ?_⟩⟩
      refine ⟨_, _, rfl, rfl, (by decide : (0 : Int) < 2147483629), _, _, rfl, rfl, .inr ⟨by decide, by decide⟩, ?_⟩
      refine ⟨_, rfl, _, _, rfl, rfl, .inl ⟨by decide, by decide⟩, _, _, rfl, rfl, _, _, rfl, rfl, .inl ⟨_, rfl, _, _, rfl, rfl, (by decide : (0 : Int) < 2147483647), ?_⟩⟩
      dsimp only
      generalize hs : (n % 2147483629 * 16807 + 104729 * t + 11) % 2147483647 = sd
      have s0 : 0 ≤ sd := by rw [← hs]; exact Int.emod_nonneg _ (by decide)
      have s1 : sd < 2147483647 := by rw [← hs]; exact Int.emod_lt_of_pos _ (by decide)
      refine ⟨fun σ' H' => ∃ m : Int, 0 ≤ m ∧ σ' = [some (.ref a), some (.int t), some (.int c), some (.int m), some (.int sd)] ∧ H' = H1, ?_, ?_⟩
      · refine ⟨_, rfl, _, _, rfl, rfl, ⟨by decide, by decide, by decide⟩, _, _, rfl, rfl, _, rfl, ite2 (fun e => ?_) (fun e => ?_)⟩
        · exact ⟨0, Int.le_refl _, rfl, rfl⟩
        · exact ⟨n, n0, rfl, rfl⟩
      · rintro σ' H' ⟨m, m0, rfl, rfl⟩
        refine ⟨_, rfl, _, rfl, (by decide : 2 ≤ sizeLine), fun p np => ?_⟩
        exact q p _ np (same_upd np) ⟨m, sd, upd_same, m0, s0, s1⟩
theorem ok__law_draw {f : Addr} {fd : FuncData} (F : Fun K "_law_draw" "_law_draw" s__law_draw f fd) (B : Bl mg) : FnOk P w K mg base CX0 1 f fd ["source", "amount"] spDraw := by
  refine F.ok sc__law_draw (fun vs H Q E h => ?_) (fun cdv A outer s H vs Q E hr h => ?_)
  · obtain ⟨p, m, rfl, _⟩ := h
    rfl
  · obtain ⟨p, m, rfl, ⟨n, sd, hp, n0, s0, s1⟩, m0, m1, q⟩ := h
    refine ⟨_, (pss_cons (ps_if (pt_cmpR op_gt (pe_ix ix_list (pv 0) pe_int (fun _ _ => rfl)) pe_int (nomark _)) (pss_cons (ps_set (i := 2) sc__law_draw.nd rfl (Or.inl rfl) (pe_op op_mod (pe_callTy call_int1 (by rfl) B.int_ (by decide +kernel) (pa_cons (pe_ix ix_list (pv 0) pe_int (fun _ _ => rfl)) pa_nil)) (pv 1)))
      (pss_cons (ps_asg (pe_op op_fdivW (pe_ix ix_list (pv 0) pe_int (fun _ _ => rfl)) (pv 1)) (pg_sub (pv 0) pe_int set_list))
      (pss_one (ps_ret (pv 2))))) pss_nil)
      (pss_cons (ps_asg (pe_op op_mod (pe_callTy call_int1 (by rfl) B.int_ (by decide +kernel) (pa_cons (pe_op op_add (pe_op op_mul (pe_ix ix_list (pv 0) pe_int (fun _ _ => rfl)) pe_int) pe_int) pa_nil)) pe_int) (pg_sub (pv 0) pe_int set_list))
      (pss_cons (ps_set (i := 3) sc__law_draw.nd rfl (Or.inl rfl) (pe_op op_fdivW (pe_op op_mod (pe_callTy call_int1 (by rfl) B.int_ (by decide +kernel) (pa_cons (pe_op op_mul (pe_ix ix_list (pv 0) pe_int (fun _ _ => rfl)) (pe_ix ix_list (pv 0) pe_int (fun _ _ => rfl))) pa_nil)) pe_int) pe_int))
      (Evl.pss_cut (ps_if (pt_cmpR op_gt (pv 1) (pe_op op_pow pe_int pe_int) (nomark _)) (pss_cons (ps_asg (pe_op op_mod (pe_callTy call_int1 (by rfl) B.int_ (by decide +kernel) (pa_cons (pe_op op_add (pe_op op_mul (pe_ix ix_list (pv 0) pe_int (fun _ _ => rfl)) pe_int) pe_int) pa_nil)) pe_int) (pg_sub (pv 0) pe_int set_list))
      (pss_one (ps_set (i := 3) sc__law_draw.nd rfl (Or.inl rfl) (pe_op op_add (pe_op op_mul (pv 3) pe_int) (pe_op op_fdivW (pe_op op_mod (pe_callTy call_int1 (by rfl) B.int_ (by decide +kernel) (pa_cons (pe_op op_mul (pe_ix ix_list (pv 0) pe_int (fun _ _ => rfl)) (pe_ix ix_list (pv 0) pe_int (fun _ _ => rfl))) pa_nil)) pe_int) pe_int))))) pss_nil)
      (pss_one (ps_ret (pe_op op_mod (pe_callTy call_int1 (by rfl) B.int_ (by decide +kernel) (pa_cons (pv 3) pa_nil)) (pv 1)))))))), ?_⟩
    have kp : ∀ (H' : Hp) (o : HO), Kp p H H' → Kp p H (upd H' p o) := fun H' o k b u nb e => by
      rw [upd_ne nb]
      exact k b u nb e
    have i0 : ∀ x y : Int, atI [V.int x, V.int y] 0 = some (.int x) := fun x y => atI_nat (j := 0) rfl
    have i1 : ∀ x y : Int, atI [V.int x, V.int y] 1 = some (.int y) := fun x y => atI_nat (j := 1) rfl
    refine ⟨_, rfl, p, _, 0, _, rfl, rfl, SqL.of hp, i0 _ _, _, _, rfl, rfl, _, rfl, ite2 (fun e => ?_) (fun e => ?_)⟩
    · refine ⟨_, rfl, p, _, 0, _, rfl, rfl, SqL.of hp, i0 _ _, .inl ⟨n, rfl, _, rfl, _, _, rfl, rfl, m0, ?_⟩⟩
      refine ⟨_, rfl, p, _, 0, _, rfl, rfl, SqL.of hp, i0 _ _, _, rfl, _, _, rfl, rfl, pow40 m0 m1, _, rfl, p, _, 0, 0, rfl, rfl, hp, rfl, ?_⟩
      refine ⟨_, rfl, q _ _ (Int.emod_nonneg _ (by omega)) (Int.emod_lt_of_pos _ m0) ⟨n / m, sd, upd_same, Int.ediv_nonneg n0 (by omega), s0, s1⟩ (kp _ _ Kp.refl)⟩
    · refine ⟨_, rfl, p, _, 1, _, rfl, rfl, SqL.of hp, i1 _ _, _, _, rfl, rfl, .inr ⟨by decide, by decide⟩, _, _, rfl, rfl, .inl ⟨_, rfl, _, _, rfl, rfl, (by decide : (0 : Int) < 2147483647), ?_⟩⟩
      dsimp only
      generalize hs : (sd * 48271 + 11) % 2147483647 = s2
      have s20 : 0 ≤ s2 := by rw [← hs]; exact Int.emod_nonneg _ (by decide)
      have s21 : s2 < 2147483647 := by rw [← hs]; exact Int.emod_lt_of_pos _ (by decide)
      refine ⟨_, rfl, p, _, 1, 1, rfl, rfl, hp, rfl, ?_⟩
      have h2 : upd H p (.lst [.int n, .int s2]) p = some (.lst [.int n, .int s2]) := upd_same
      refine ⟨_, rfl, p, _, 1, _, rfl, rfl, SqL.of h2, i1 _ _, _, rfl, p, _, 1, _, rfl, rfl, SqL.of h2, i1 _ _, _, _, rfl, rfl, .inl ⟨by omega, by omega⟩, .inl ⟨_, rfl, _, _, rfl, rfl, (by decide : (0 : Int) < 2147483629), _, _, rfl, rfl, ⟨by decide, by decide⟩, ?_⟩⟩
      dsimp only
      generalize (s2 * s2 % 2147483629 / 64) = fd1
      refine ⟨fun σ' H' => ∃ fd s3 : Int, 0 ≤ s3 ∧ s3 < 2147483647 ∧ σ' = [some (.ref p), some (.int m), none, some (.int fd)] ∧ H' p = some (.lst [.int n, .int s3]) ∧ Kp p H H', ?_, ?_⟩
      · refine ⟨_, rfl, _, _, rfl, rfl, ⟨by decide, by decide, by decide⟩, _, _, rfl, rfl, _, rfl, ite2 (fun e => ?_) (fun e => ?_)⟩
        · refine ⟨_, rfl, p, _, 1, _, rfl, rfl, SqL.of h2, i1 _ _, _, _, rfl, rfl, .inr ⟨by decide, by decide⟩, _, _, rfl, rfl, .inl ⟨_, rfl, _, _, rfl, rfl, (by decide : (0 : Int) < 2147483647), ?_⟩⟩
          dsimp only
          generalize hs3 : (s2 * 39373 + 17) % 2147483647 = s3
          have s30 : 0 ≤ s3 := by rw [← hs3]; exact Int.emod_nonneg _ (by decide)
          have s31 : s3 < 2147483647 := by rw [← hs3]; exact Int.emod_lt_of_pos _ (by decide)
          refine ⟨_, rfl, p, _, 1, 1, rfl, rfl, h2, rfl, ?_⟩
          have h3 : upd (upd H p (.lst [.int n, .int s2])) p (.lst [.int n, .int s3]) p = some (.lst [.int n, .int s3]) := upd_same
          refine ⟨_, rfl, _, _, rfl, rfl, .inr ⟨by decide, by decide⟩, _, rfl, p, _, 1, _, rfl, rfl, SqL.of h3, i1 _ _, _, rfl, p, _, 1, _, rfl, rfl, SqL.of h3, i1 _ _, _, _, rfl, rfl, .inl ⟨by omega, by omega⟩, .inl ⟨_, rfl, _, _, rfl, rfl, (by decide : (0 : Int) < 2147483629), _, _, rfl, rfl, ⟨by decide, by decide⟩, _, _, rfl, rfl, ?_⟩⟩
          exact ⟨_, s3, s30, s31, rfl, h3, kp _ _ (kp _ _ Kp.refl)⟩
        · exact ⟨_, s2, s20, s21, rfl, h2, kp _ _ Kp.refl⟩
      · rintro σ' H' ⟨fd, s3, s30, s31, rfl, h3, k3⟩
        refine ⟨_, rfl, .inl ⟨_, rfl, _, rfl, _, _, rfl, rfl, m0, ?_⟩⟩
        exact q _ _ (Int.emod_nonneg _ (by omega)) (Int.emod_lt_of_pos _ m0) ⟨n, s3, h3, n0, s30, s31⟩ k3
theorem ok__law_pick {f : Addr} {fd : FuncData} (F : Fun K "_law_pick" "_law_pick" s__law_pick f fd) (B : Bl mg) (c__law_draw : Fn P w K mg base "_law_draw" ["source", "amount"] CX0 1 spDraw) : FnOk P w K mg base CX0 2 f fd ["source", "items"] (spPick K) := by
  refine F.ok sc__law_pick (fun vs H Q E h => ?_) (fun cdv A outer s H vs Q E hr h => ?_)
  · obtain ⟨p, l, xs, rfl, _⟩ := h
    rfl
  · obtain ⟨p, l, xs, rfl, hp, hl, nlp, nx, sz, q⟩ := h
    refine ⟨_, (pss_one (ps_ret (pe_ix ix_list (pv 1) (pe_fn c__law_draw hr pass0 (pa_cons (pv 0) (pa_cons (pe_callB call_len_seq (by rfl) B.len_ (by decide +kernel) (pa_cons (pv 1) pa_nil)) pa_nil))) (fun _ _ => rfl)))), ?_⟩
    refine ⟨_, rfl, _, rfl, _, rfl, l, xs, rfl, .inl hl, p, _, rfl, hp, ?_, ?_, fun r H' r0 r1 hp' k => ?_⟩
    · have : 0 < xs.length := List.length_pos_iff.mpr nx
      omega
    · have : (xs.length : Int) ≤ 1000 := by omega
      exact Int.le_trans this (by decide)
    · have hr' : r.toNat < xs.length := by omega
      refine ⟨l, xs, r, xs[r.toNat], rfl, rfl, ?_, at_of (j := r.toNat) (by omega) (List.getElem?_eq_getElem hr'), q r.toNat _ H' (List.getElem?_eq_getElem hr') hp' k⟩
      rcases hl with (h | ⟨o, h⟩) | h
      · exact .inl (.inl (k _ _ nlp h))
      · exact .inl (.inr ⟨o, k _ _ nlp h⟩)
      · exact .inr h
end
/-! ### deeds -/
def plainV : List V := [.str "make", .str "read", .str "write", .str "rename", .str "touch"]
def marksV : List V := [.str "read", .str "written", .str "changed"]
structure DeTxt (K : PySem.W.Frag) (mg : Str → Option Value) (pP pM : Addr) : Prop where
  gP : mg "PLAIN" = some (.ref pP)
  gM : mg "MARKS" = some (.ref pM)
  gL : ∃ t, mg "LONGEST" = some (.int (10 ^ 9) t)
  sP : ∀ H, SqT K H pP plainV
  sM : ∀ H, SqT K H pM marksV
  kM : ∃ o, K.lookup pM = some o ∧ o.cls = .type "tuple" ∧ o.dict = none
def isTimeD : PyData → Bool
  | .int i => decide (1 ≤ i ∧ i ≤ 10 ^ 9)
  | _ => false
def timeOne : List PyData → Bool
  | [d] => isTimeD d
  | _ => false
def isDeedD : PyData → Bool
  | .tuple (.str x :: ds) => if inV (.str x) plainV then ds.length == 0 else (inV (.str x) [.str "unpack", .str "setback"] && timeOne ds)
  | _ => false
def makesD (d : PyData) : Bool := isDeedD d && (match d with | .tuple (.str x :: _) => inV (.str x) [.str "make", .str "unpack"] | _ => false)
def backD : PyData → V
  | .tuple [_, .int i] => .int i
  | _ => .int 0
/-- what backs tells -/
def backsD (d : PyData) : List (Key × V) := match d with
  | .tuple (.str x :: _) =>
    if inV (.str x) [.str "make", .str "touch"] then [(.inr "read", .int 0), (.inr "written", .int 0), (.inr "changed", .int 0)]
    else if x = "unpack" then [(.inr "read", .int 0), (.inr "written", backD d), (.inr "changed", .int 0)]
    else if x = "setback" then [(.inr "read", backD d), (.inr "written", backD d), (.inr "changed", .int 0)]
    else if x = "write" then [(.inr "written", .int 0), (.inr "changed", .int 0)]
    else if x = "rename" then [(.inr "changed", .int 0)] else []
  | _ => []
def ShT (d : PyData) : Prop := ∀ ds, d = .tuple ds → SeqAt.shaped d = true
def spTime (K : PySem.W.Frag) : Sp := fun vs H Q _ => ∃ v d, vs = [v] ∧ DR K H v d ∧ Q (.bl (isTimeD d)) H
def spDeed (K : PySem.W.Frag) : Sp := fun vs H Q _ => ∃ v d, vs = [v] ∧ DR K H v d ∧ ShT d ∧ ∀ H', Ex H H' → Q (.bl (isDeedD d)) H'
def spMakes (K : PySem.W.Frag) : Sp := fun vs H Q _ => ∃ v d, vs = [v] ∧ DR K H v d ∧ ShT d ∧ ∀ H', Ex H H' → Q (.bl (makesD d)) H'
def spBacks (K : PySem.W.Frag) (C : Addr) : Sp := fun vs H Q E => ∃ v d, vs = [v] ∧ DR K H v d ∧ ShT d ∧
  (isDeedD d = true → ∀ p H', H p = none → Ex H H' → H' p = some (.dK (backsD d)) → Q (.ref p) H') ∧
  (isDeedD d = false → ∀ H' dd, Ex H H' → H' dd = none → E (.ref C) (some dd) (upd H' dd (.xd [("value", v)])))
theorem dr_tup {K : PySem.W.Frag} {H : Hp} {v : V} {ds : List PyData} (h : DR K H v (.tuple ds)) : ∃ p xs, v = .ref p ∧ SqT K H p xs ∧ DpAll K H xs ds := by
  cases h with
  | dp h => cases h with | tup a b => exact ⟨_, _, rfl, a, b⟩
theorem dr_dp {K : PySem.W.Frag} {H : Hp} {v : V} {ds : List PyData} (h : DR K H v (.tuple ds)) : Dp K H v (.tuple ds) := by
  cases h with
  | dp h => exact h
theorem len_one (v : V) (vs : List V) : (vs.length == 0) = decide (V.int ((v :: vs).length : Int) = .int 1) := by
  cases vs with
  | nil => exact (decide_eq_true rfl).symm
  | cons a l => exact (decide_eq_false fun z => by injection z with z; simp only [List.length_cons] at z; omega).symm
theorem len_two (v a b : V) (l : List V) : decide (V.int ((v :: a :: b :: l).length : Int) = .int 2) = false := decide_eq_false fun z => by
  injection z with z
  simp only [List.length_cons] at z
  omega
section
variable {P : Program} {w : World} {K : PySem.W.Frag} {mg : Str → Option Value} {base : Heap} {pP pM : Addr}
theorem ok_is_time {f : Addr} {fd : FuncData} (F : Fun K "is_time" "is_time" s_is_time f fd) (T : DeTxt K mg pP pM) (c_is_between : Fn P w K mg base "is_between" ["value", "low", "high"] CX0 2 (spBetween K)) : FnOk P w K mg base CX0 3 f fd ["value"] (spTime K) := by
  obtain ⟨tL, gL⟩ := T.gL
  refine F.ok sc_is_time (fun vs H Q E h => ?_) (fun cdv A outer s H vs Q E hr h => ?_)
  · obtain ⟨v, d, rfl, _⟩ := h
    rfl
  · obtain ⟨v, d, rfl, hd, q⟩ := h
    refine ⟨_, (pss_one (ps_ret (pe_fn c_is_between hr pass0 (pa_cons (pv 0) (pa_cons pe_int (pa_cons (pe_gi gL) pa_nil)))))), ?_⟩
    refine ⟨_, rfl, ?_⟩
    cases e : isIntD d with
    | none =>
      have z : isTimeD d = false := by cases d <;> first | rfl | cases e
      rw [z] at q
      exact .inr ⟨_, _, _, rfl, dr_noInt hd e, q⟩
    | some i =>
      cases d with
      | int j =>
        obtain rfl := dr_int hd
        exact .inl ⟨_, _, _, rfl, q⟩
      | _ => cases e
theorem ok_is_deed {f : Addr} {fd : FuncData} (F : Fun K "is_deed" "is_deed" s_is_deed f fd) (B : Bl mg) (B2 : Bl2 mg) (T : DeTxt K mg pP pM) (c_is_time : Fn P w K mg base "is_time" ["value"] CX0 3 (spTime K)) : FnOk P w K mg base CX0 4 f fd ["value"] (spDeed K) := by
  have gP := T.gP
  refine F.ok sc_is_deed (fun vs H Q E h => ?_) (fun cdv A outer s H vs Q E hr h => ?_)
  · obtain ⟨v, d, rfl, _⟩ := h
    rfl
  · obtain ⟨v, d, rfl, hd, hsh, q⟩ := h
    refine ⟨_, (pss_cons (ps_if (PW.pt (pw_or (pt_not (pt_val (pe_callB call_isi (by rfl) B.isinstance_ (by decide +kernel) (pa_cons (pv 0) (pa_cons (pe_ty "tuple" (by rfl) B2.tuple_ (by decide +kernel)) pa_nil))))) (pw_or (pt_cmpR (op_eqD hr.units) (pv 0) (pe_tup pa_nil) (nomark _)) (pw_or1 (pt_not (pt_val (pe_callB call_isi (by rfl) B.isinstance_ (by decide +kernel) (pa_cons (pe_ix ix_tup (pv 0) pe_int (fun _ _ => rfl)) (pa_cons (pe_ty "str" (by rfl) B2.str_ (by decide +kernel)) pa_nil))))))))) (pss_one (ps_ret pe_bl)) pss_nil)
      (pss_cons (ps_if (pt_cmpR op_in_seq (pe_ix ix_tup (pv 0) pe_int (fun _ _ => rfl)) (pe_gc gP) (by rfl)) (pss_one (ps_ret (pe_cmpR op_eq (pe_callB call_len_seq (by rfl) B.len_ (by decide +kernel) (pa_cons (pv 0) pa_nil)) pe_int (nomark _)))) pss_nil)
      (pss_one (ps_ret (pe_and (pe_cmpR op_in_seq (pe_ix ix_tup (pv 0) pe_int (fun _ _ => rfl)) (pe_tup (pa_cons pe_str (pa_cons pe_str pa_nil))) (by rfl)) (pe_and (pe_cmpR op_eq (pe_callB call_len_seq (by rfl) B.len_ (by decide +kernel) (pa_cons (pv 0) pa_nil)) pe_int (nomark _)) (pe_one (pe_fn c_is_time hr pass0 (pa_cons (pe_ix ix_tup (pv 0) pe_int (fun _ _ => rfl)) pa_nil))))))))), ?_⟩
    by_cases ht : ∃ ds, d = .tuple ds
    · obtain ⟨ds, rfl⟩ := ht
      obtain ⟨p, xs, rfl, hS, hA⟩ := dr_tup hd
      have sh := hsh _ rfl
      have i1 : EvT _ [some (.ref p)] H (!true) := et_not (et_B (ev_isD (T := "tuple") (er_var (i := 0) rfl hd) (show PySem.W.kitOne K (.type "tuple") (.type "tuple") = some true from kit_ty (by decide +kernel))))
      have i2 := et_test (ev_eqD (ed_var (σ := [some (.ref p)]) (i := 0) rfl (dr_dp hd)) (ed_tup eds_nil) sh (by decide))
      cases hA with
      | nil => exact q_when (et_or i1 fun _ => et_or (b := true) i2 fun z => nomatch z) (fun _ H1 e1 => s_ret ev_c fun H2 e2 => q H2 (e1.trans e2)) fun z => nomatch z
      | @cons v0 vs0 d0 ds0 h0 h1 =>
        have a0 : Ev (tOp (rIxT K) (tVar 0) (tC (.int 0))) [some (.ref p)] H v0 := ev_op (ev_var rfl) ev_c (rv_ixT hS (atI_nat (j := 0) rfl))
        have r0 : EvR K (tOp (rIxT K) (tVar 0) (tC (.int 0))) [some (.ref p)] H d0 := fun H1 e Q k => a0 H1 e Q fun H2 e2 => k _ H2 e2 (.dp (Dp.ex (e.trans e2) h0))
        by_cases hs : ∃ x, d0 = .str x
        · obtain ⟨x, rfl⟩ := hs
          obtain rfl := dp_str h0
          refine q_when (et_or i1 fun _ => et_or i2 fun _ => et_not (et_B (ev_isD r0 (show PySem.W.kitOne K (.type "str") (.type "str") = some true from kit_ty (by decide +kernel))))) (fun z => nomatch z) fun _ H1 e1 => ?_
          have l1 : Ev (tOp rEq (tCB (rLenS K) (tCons (tVar 0) tNil)) (tC (.int 1))) [some (.ref p)] H (.bl (decide (V.int ((V.str x :: vs0).length : Int) = .int 1))) := ev_op (ev_lenT (ev_var rfl) hS) ev_c (rv_eq rfl)
          have ln : vs0.length = ds0.length := DpAll.len h1
          refine q_when (et_test (ev_op (a0.mono e1) ev_c (rv_isT (T.sP H1) rfl rfl))) (fun hin H2 e2 => s_ret (l1.mono (e1.trans e2)) fun H3 e3 => ?_) fun hin H2 e2 => ?_
          · have z := q H3 (e1.trans (e2.trans e3))
            rw [show isDeedD (.tuple (.str x :: ds0)) = (ds0.length == 0) from if_pos hin] at z
            refine cast (congrArg (fun b => Q (.bl b) H3) ?_) z
            rw [← ln]
            exact len_one _ _
          · have e12 := e1.trans e2
            have l2 : Ev (tOp rEq (tCB (rLenS K) (tCons (tVar 0) tNil)) (tC (.int 2))) [some (.ref p)] H (.bl (decide (V.int ((V.str x :: vs0).length : Int) = .int 2))) := ev_op (ev_lenT (ev_var rfl) hS) ev_c (rv_eq rfl)
            have hu := ev_inU (K := K) (a0.mono e12) (eu_tup (ea_cons (ev_c (v := .str "unpack")) (ea_cons (ev_c (v := .str "setback")) ea_nil)) (by decide)) rfl rfl
            have fin : ∀ H3, Ex H2 H3 → Q (.bl (inV (.str x) [.str "unpack", .str "setback"] && timeOne ds0)) H3 := fun H3 e3 => by
              have z := q H3 (e12.trans e3)
              rw [show isDeedD (.tuple (.str x :: ds0)) = (inV (.str x) [.str "unpack", .str "setback"] && timeOne ds0) from if_neg (by rw [hin]; exact Bool.false_ne_true)] at z
              exact z
            cases h1 with
            | nil => exact s_ret (ev_andV hu fun _ => ev_andV (b := false) (ev_is (l2.mono e12) (congrArg V.bl (decide_eq_false (fun z => by injection z with z; cases z)))) fun z => nomatch z) fin
            | @cons v1 vs1 d1 ds1 g0 g1 =>
              cases g1 with
              | nil =>
                have a1 : Ev (tOp (rIxT K) (tVar 0) (tC (.int 1))) [some (.ref p)] H v1 := ev_op (ev_var rfl) ev_c (rv_ixT hS (atI_nat (j := 1) rfl))
                exact s_ret (ev_andV hu fun _ => ev_andV (ev_is (l2.mono e12) (congrArg V.bl (decide_eq_true rfl))) fun _ => ev_call (ea_cons (a1.mono e12) ea_nil) fun H4 e4 Q' q' E' => ⟨v1, d1, rfl, .dp (Dp.ex (e12.trans e4) g0), q' H4 (Ex.refl H4)⟩) fin
              | @cons v2 vs2 d2 ds2 g2 g3 => exact s_ret (ev_andV hu fun _ => ev_andV (b := false) (ev_is (l2.mono e12) (congrArg V.bl (len_two _ _ _ _))) fun z => nomatch z) fin
        · refine q_when (et_or i1 fun _ => et_or i2 fun _ => et_not (et_B (ev_isD (b := false) r0 ?_))) (fun _ H1 e1 => s_ret ev_c fun H2 e2 => ?_) fun z => nomatch z
          · cases d0 with
            | str x => exact absurd ⟨x, rfl⟩ hs
            | none => exact (show PySem.W.kitOne K (.type "NoneType") (.type "str") = some false from kit_ty (by decide +kernel))
            | bool _ => exact (show PySem.W.kitOne K (.type "bool") (.type "str") = some false from kit_ty (by decide +kernel))
            | int _ => exact (show PySem.W.kitOne K (.type "int") (.type "str") = some false from kit_ty (by decide +kernel))
            | list _ => exact (show PySem.W.kitOne K (.type "list") (.type "str") = some false from kit_ty (by decide +kernel))
            | tuple _ => exact (show PySem.W.kitOne K (.type "tuple") (.type "str") = some false from kit_ty (by decide +kernel))
            | dict _ => exact (show PySem.W.kitOne K (.type "dict") (.type "str") = some false from kit_ty (by decide +kernel))
          · have z : isDeedD (.tuple (d0 :: ds0)) = false := by cases d0 <;> first | rfl | exact absurd ⟨_, rfl⟩ hs
            rw [← z]
            exact q H2 (e1.trans e2)
    · refine q_when (et_or (b := true) (et_not (et_B (ev_isD (b := false) (er_var (i := 0) rfl hd) ?_))) fun z => nomatch z) (fun _ H1 e1 => s_ret ev_c fun H2 e2 => ?_) fun z => nomatch z
      · cases d with
        | tuple x => exact absurd ⟨x, rfl⟩ ht
        | none => exact (show PySem.W.kitOne K (.type "NoneType") (.type "tuple") = some false from kit_ty (by decide +kernel))
        | bool _ => exact (show PySem.W.kitOne K (.type "bool") (.type "tuple") = some false from kit_ty (by decide +kernel))
        | int _ => exact (show PySem.W.kitOne K (.type "int") (.type "tuple") = some false from kit_ty (by decide +kernel))
        | str _ => exact (show PySem.W.kitOne K (.type "str") (.type "tuple") = some false from kit_ty (by decide +kernel))
        | list _ => exact (show PySem.W.kitOne K (.type "list") (.type "tuple") = some false from kit_ty (by decide +kernel))
        | dict _ => exact (show PySem.W.kitOne K (.type "dict") (.type "tuple") = some false from kit_ty (by decide +kernel))
      · have z : isDeedD d = false := by cases d <;> first | rfl | exact absurd ⟨_, rfl⟩ ht
        rw [← z]
        exact q H2 (e1.trans e2)
theorem ok_makes {f : Addr} {fd : FuncData} (F : Fun K "makes" "makes" s_makes f fd) (c_is_deed : Fn P w K mg base "is_deed" ["value"] CX0 4 (spDeed K)) : FnOk P w K mg base CX0 5 f fd ["value"] (spMakes K) := by
  refine F.ok sc_makes (fun vs H Q E h => ?_) (fun cdv A outer s H vs Q E hr h => ?_)
  · obtain ⟨v, d, rfl, _⟩ := h
    rfl
  · obtain ⟨v, d, rfl, hd, hsh, q⟩ := h
    refine ⟨_, (pss_one (ps_ret (pe_and (pe_fn c_is_deed hr pass0 (pa_cons (pv 0) pa_nil)) (pe_one (pe_cmpR op_in_seq (pe_ix ix_tup (pv 0) pe_int (fun _ _ => rfl)) (pe_tup (pa_cons pe_str (pa_cons pe_str pa_nil))) (by rfl)))))), ?_⟩
    have e1 : Ev (tCall (spDeed K) [] (fun _ _ _ => False) (tCons (tVar 0) tNil)) [some v] H (.bl (isDeedD d)) := ev_call (ea_cons (ev_var rfl) ea_nil) fun H1 e Q' q' E' => ⟨v, d, rfl, DR.ex e hd, hsh, q'⟩
    refine s_ret (v := .bl (makesD d)) (ev_andV e1 fun z => ?_) fun H1 e => q H1 e
    match d, hd, z with
    | .tuple (.str x :: ds), hd, z =>
      obtain ⟨p, xs, rfl, hS, hA⟩ := dr_tup hd
      cases hA with
      | @cons v0 vs0 _ _ h0 h1 =>
        obtain rfl := dp_str h0
        exact ev_inU (K := K) (ev_op (ev_var rfl) ev_c (rv_ixT hS (atI_nat (j := 0) rfl))) (eu_tup (ea_cons (ev_c (v := .str "make")) (ea_cons (ev_c (v := .str "unpack")) ea_nil)) (by decide)) rfl rfl
/-- the shape of a deed -/
theorem deed_cases {d : PyData} (h : isDeedD d = true) : ∃ x ds, d = .tuple (.str x :: ds) ∧ ((inV (.str x) plainV = true ∧ ds = []) ∨ (inV (.str x) plainV = false ∧ inV (.str x) [.str "unpack", .str "setback"] = true ∧ ∃ i, ds = [.int i] ∧ 1 ≤ i ∧ i ≤ 10 ^ 9)) := by
  match d, h with
  | .tuple (.str x :: ds), h =>
    refine ⟨x, ds, rfl, ?_⟩
    have h : (if inV (.str x) plainV = true then ds.length == 0 else (inV (.str x) [.str "unpack", .str "setback"] && timeOne ds)) = true := h
    cases c : inV (.str x) plainV with
    | true =>
      rw [c, if_pos rfl] at h
      exact .inl ⟨rfl, List.length_eq_zero_iff.mp (by simpa using h)⟩
    | false =>
      rw [c, if_neg Bool.false_ne_true, Bool.and_eq_true] at h
      refine .inr ⟨rfl, h.1, ?_⟩
      have t := h.2
      cases ds with
      | nil => cases t
      | cons d0 l => cases l with
        | nil => cases d0 <;> first | exact ⟨_, rfl, (of_decide_eq_true t).1, (of_decide_eq_true t).2⟩ | cases t
        | cons _ _ => cases t
theorem backs_of (x : Str) (ds : List PyData) : backsD (.tuple (.str x :: ds)) =
    if inV (.str x) [.str "make", .str "touch"] then [(.inr "read", .int 0), (.inr "written", .int 0), (.inr "changed", .int 0)]
    else if x = "unpack" then [(.inr "read", .int 0), (.inr "written", backD (.tuple (.str x :: ds))), (.inr "changed", .int 0)]
    else if x = "setback" then [(.inr "read", backD (.tuple (.str x :: ds))), (.inr "written", backD (.tuple (.str x :: ds))), (.inr "changed", .int 0)]
    else if x = "write" then [(.inr "written", .int 0), (.inr "changed", .int 0)]
    else if x = "rename" then [(.inr "changed", .int 0)] else [] := rfl
theorem str_dec {x y : Str} (h : decide (V.str x = V.str y) = true) : x = y := V.str.inj (of_decide_eq_true h)
theorem str_nec {x y : Str} (h : decide (V.str x = V.str y) = false) : ¬ x = y := fun z => of_decide_eq_false h (congrArg V.str z)
theorem ok_backs {f : Addr} {fd : FuncData} {C : Addr} (F : Fun K "backs" "backs" s_backs f fd) (TN : PySem.ErX.Err P w K mg "NoDeed" C "value") (c_is_deed : Fn P w K mg base "is_deed" ["value"] CX0 4 (spDeed K)) : FnOk P w K mg base (L2.CX P w) 5 f fd ["deed"] (spBacks K C) := by
  refine F.okX sc_backs (fun vs H Q E h => ?_) (fun cdv A outer s H vs Q E hr h => ?_)
  · obtain ⟨v, d, rfl, _⟩ := h
    rfl
  · obtain ⟨v, d, rfl, hd, hsh, q, hE⟩ := h
    refine ⟨_, (pss_cons (ps_if (pt_not (pt_val (pe_fn c_is_deed hr pass0 (pa_cons (pv 0) pa_nil)))) (pss_one (ps_raiseE rfl TN hr (takes_of rfl rfl rfl rfl) (pa_cons (pv 0) pa_nil))) pss_nil)
      (pss_cons (ps_set (i := 1) sc_backs.nd rfl (Or.inl rfl) (pe_ix ix_tup (pv 0) pe_int (fun _ _ => rfl)))
      (pss_cons (ps_if (pt_cmpR op_in_seq (pv 1) (pe_tup (pa_cons pe_str (pa_cons pe_str pa_nil))) (by rfl)) (pss_one (ps_ret (pe_disp (pps_cons pe_str pe_int (pps_cons pe_str pe_int (pps_cons pe_str pe_int pps_nil))) (by rfl) (by rfl) (fun z => by cases z) (by decide)))) pss_nil)
      (pss_cons (ps_if (pt_cmpR op_eq (pv 1) pe_str (nomark _)) (pss_one (ps_ret (pe_disp (pps_cons pe_str pe_int (pps_cons pe_str (pe_ix ix_tup (pv 0) pe_int (fun _ _ => rfl)) (pps_cons pe_str pe_int pps_nil))) (by rfl) (by rfl) (fun z => by cases z) (by decide)))) pss_nil)
      (pss_cons (ps_if (pt_cmpR op_eq (pv 1) pe_str (nomark _)) (pss_one (ps_ret (pe_disp (pps_cons pe_str (pe_ix ix_tup (pv 0) pe_int (fun _ _ => rfl)) (pps_cons pe_str (pe_ix ix_tup (pv 0) pe_int (fun _ _ => rfl)) (pps_cons pe_str pe_int pps_nil))) (by rfl) (by rfl) (fun z => by cases z) (by decide)))) pss_nil)
      (pss_cons (ps_if (pt_cmpR op_eq (pv 1) pe_str (nomark _)) (pss_one (ps_ret (pe_disp (pps_cons pe_str pe_int (pps_cons pe_str pe_int pps_nil)) (by rfl) (by rfl) (fun z => by cases z) (by decide)))) pss_nil)
      (pss_one (ps_ret (pe_ifExp (pt_cmpR op_eq (pv 1) pe_str (nomark _)) (pe_disp (pps_cons pe_str pe_int pps_nil) (by rfl) (by rfl) (fun z => by cases z) (by decide)) pe_dnewK))))))))), ?_⟩
    have c1 : Ev (tCall (spDeed K) [] (fun _ _ _ => False) (tCons (tVar 0) tNil)) [some v, none] H (.bl (isDeedD d)) := ev_call (ea_cons (ev_var rfl) ea_nil) fun H1 e Q' q' E' => ⟨v, d, rfl, DR.ex e hd, hsh, q'⟩
    refine q_when (et_not (et_B c1)) (fun z H1 e1 => ⟨_, rfl, v, rfl, fun dd n => hE (by simpa using z) H1 dd e1 n⟩) fun z H1 e1 => ?_
    have hdd : isDeedD d = true := by simpa using z
    have q := q hdd
    obtain ⟨x, ds, rfl, hc⟩ := deed_cases hdd
    obtain ⟨p, xs, rfl, hS, hA⟩ := dr_tup hd
    cases hA with
    | @cons v0 vs0 _ _ h0 h1 =>
      obtain rfl := dp_str h0
      refine Ag.q_asg (ev_op (ev_var rfl) ev_c (rv_ixT (ex_t e1 hS) (atI_nat (j := 0) rfl))) fun H2 e2 => ?_
      have e12 := e1.trans e2
      refine q_when (et_test (ev_inU (K := K) (ev_var rfl) (eu_tup (ea_cons (ev_c (v := .str "make")) (ea_cons (ev_c (v := .str "touch")) ea_nil)) (by decide)) rfl rfl)) (fun h H3 e3 => ?_) fun h H3 e3 => ?_
      · refine s_retK (ek_disp (.cons (k := .inr "read") ev_c ev_c (.cons (k := .inr "written") ev_c ev_c (.cons (k := .inr "changed") ev_c ev_c .nil))) (Nat.le_of_ble_eq_true rfl) rfl) fun p' H4 hp e4 h4 => q p' H4 (fresh_back (e12.trans e3) hp) ((e12.trans e3).trans e4) ?_
        rw [h4, backs_of, if_pos h]
        rfl
      have hn : ¬ inV (.str x) [.str "make", .str "touch"] = true := by rw [h]; exact Bool.false_ne_true
      have e123 := e12.trans e3
      have far : inV (.str x) plainV = false → ∃ i, ds = [.int i] ∧ vs0 = [.int i] := fun z => by
        rcases hc with ⟨y, _⟩ | ⟨_, _, i, rfl, _⟩
        · rw [z] at y; cases y
        · cases h1 with | cons g0 g1 => cases g1; obtain rfl := dp_int g0; exact ⟨i, rfl, rfl⟩
      have at1 : ∀ {i : Int}, vs0 = [.int i] → Ev (tOp (rIxT K) (tVar 0) (tC (.int 1))) [some (.ref p), some (.str x)] H (.int i) := fun {i} z => by
        subst z
        exact ev_op (ev_var rfl) ev_c (rv_ixT hS (atI_nat (j := 1) rfl))
      have out : ∀ {kvs : List (Key × V)} {H4 H5 : Hp} {p' : Addr}, Ex H H4 → backsD (.tuple (.str x :: ds)) = kvs → H4 p' = none → Ex H4 H5 → H5 p' = some (.dK kvs) → Q (.ref p') H5 := fun {kvs H4 H5 p'} e4 k hp e5 h5 => by
        subst k
        exact q p' H5 (fresh_back e4 hp) (e4.trans e5) h5
      refine q_when (et_test (ev_op (ev_var rfl) ev_c (rv_eq rfl))) (fun h2 H4 e4 => ?_) fun h2 H4 e4 => ?_
      · have hx := str_dec h2
        obtain ⟨i, hi, hv⟩ := far (by rw [hx]; decide)
        refine s_retK (ek_disp (.cons (k := .inr "read") ev_c ev_c (.cons (k := .inr "written") ev_c ((at1 hv).mono (e123.trans e4)) (.cons (k := .inr "changed") ev_c ev_c .nil))) (Nat.le_of_ble_eq_true rfl) rfl) fun p' H5 hp e5 h5 => out (e123.trans e4) ?_ hp e5 h5
        rw [backs_of, if_neg hn, if_pos hx, hi]
        rfl
      have n2 := str_nec h2
      refine q_when (et_test (ev_op (ev_var rfl) ev_c (rv_eq rfl))) (fun h3 H5 e5 => ?_) fun h3 H5 e5 => ?_
      · have hx := str_dec h3
        obtain ⟨i, hi, hv⟩ := far (by rw [hx]; decide)
        have a1 := (at1 hv).mono ((e123.trans e4).trans e5)
        refine s_retK (ek_disp (.cons (k := .inr "read") ev_c a1 (.cons (k := .inr "written") ev_c a1 (.cons (k := .inr "changed") ev_c ev_c .nil))) (Nat.le_of_ble_eq_true rfl) rfl) fun p' H6 hp e6 h6 => out ((e123.trans e4).trans e5) ?_ hp e6 h6
        rw [backs_of, if_neg hn, if_neg n2, if_pos hx, hi]
        rfl
      have n3 := str_nec h3
      have e5' := (e123.trans e4).trans e5
      refine q_when (et_test (ev_op (ev_var rfl) ev_c (rv_eq rfl))) (fun h4 H6 e6 => ?_) fun h4 H6 e6 => ?_
      · refine s_retK (ek_disp (.cons (k := .inr "written") ev_c ev_c (.cons (k := .inr "changed") ev_c ev_c .nil)) (by decide) rfl) fun p' H7 hp e7 h7 => out (e5'.trans e6) ?_ hp e7 h7
        rw [backs_of, if_neg hn, if_neg n2, if_neg n3, if_pos (str_dec h4)]
        rfl
      have n4 := str_nec h4
      have kb : backsD (.tuple (.str x :: ds)) = if x = "rename" then [(.inr "changed", .int 0)] else [] := by rw [backs_of, if_neg hn, if_neg n2, if_neg n3, if_neg n4]
      refine s_retK (ek_if (et_test (ev_op (ev_var rfl) ev_c (rv_eq rfl))) (fun h5 => ?_) fun h5 => ?_) fun p' H7 hp e7 h7 => out (e5'.trans e6) kb hp e7 h7
      · rw [if_pos (str_dec h5)]
        exact ek_disp (.cons (k := .inr "changed") ev_c ev_c .nil) (by decide) rfl
      · rw [if_neg (str_nec h5)]
        exact ek_new
end
/-! ### k06: refusals -/
def Shown (d : PyData) : Prop := d.showable = true ∧ d.shown.length ≤ sizeLine ∧ d.depth ≤ 50
def spRefused (K : PySem.W.Frag) : Sp := fun vs H Q _ => ∃ v d, vs = [v] ∧ DR K H v d ∧ ShT d ∧ isDeedD d = false ∧ Shown d ∧ ∀ p H', H p = none → Ex H H' → H' p = some (.lst [.str d.shown, .bl true]) → Q (.ref p) H'
structure EcTxt (K : PySem.W.Frag) (mg : Str → Option Value) (C CA : Addr) : Prop where
  ec : ExcC K C
  gA : mg "AgeError" = some (.ref CA)
  kA : PySem.W.kitOne K (.ref C) (.ref CA) = some true
  kV : PySem.W.kitOne K (.ref C) (.type "ValueError") = some true
section
variable {P : Program} {w : World} {K : PySem.W.Frag} {mg : Str → Option Value} {base : Heap}
def t_ref (K : PySem.W.Frag) (C CA a : Addr) (cls : Value) (d : Option Addr) : TS :=
  tAsg (tLst (tCons (tCB (rRepr K) (tCons (tFldE C "value" a cls d (tVar 2)) tNil)) (tCons (tAndV (tCB (rIsX K C a cls d) (tCons (tVar 2) (tCons (tC (.ref CA)) tNil))) (tCB (rIsX K C a cls d) (tCons (tVar 2) (tCons (tC (.ty "ValueError")) tNil)))) tNil))) (gName 1)
theorem ok__law_refused {f : Addr} {fd : FuncData} {C CA : Addr} (F : Fun K "_law_refused" "_law_refused" s__law_refused f fd) (B : Bl mg) (B2 : Bl2 mg) (TN : PySem.ErX.Err P w K mg "NoDeed" C "value") (T : EcTxt K mg C CA)
    (c_backs : Fn P w K mg base "backs" ["deed"] (L2.CX P w) 5 (spBacks K C)) : FnG P w K mg base CX0 6 f fd ["odd"] (spRefused K) := by
  have gA := T.gA
  refine okG F sc__law_refused (fun vs H Q E h => ?_) (fun cdv A outer s H vs Q E hG hr h => ?_)
  · obtain ⟨v, d, rfl, _⟩ := h
    rfl
  · obtain ⟨v, d, rfl, hd, hsh, hno, ⟨s1, s2, s3⟩, q⟩ := h
    refine ⟨_, pss_cons (ps_set (i := 1) sc__law_refused.nd rfl (Or.inl rfl) (pe_lst pa_nil))
      (pss_cons (ps_try_as (i := 2) (tb := fun W => tDrop (tCallS (spBacks K C) (WE W) (tCons (tVar 0) tNil))) (ts := t_ref K C CA) (Wout := fun _ _ _ _ => False) rfl rfl sc__law_refused.nd rfl rfl ⟨rfl, by decide, Or.inl TN.gC⟩ takes0
        (fun W pn xe tk _ => pss_one (ps_expr (pe_fnS c_backs hr (fun σ => passAt tk σ) (by exact (pa_cons (pv 0) pa_nil)))))
        (fun a oe cls d pn hz hf => pss_one (ps_set (i := 1) sc__law_refused.nd rfl (Or.inl rfl) (by exact (pe_lst (pa_cons (pe_callB (call_repr hG hr.units) (by rfl) B2.repr_ (by decide +kernel) (pa_cons (pe_fldE TN hz hf (pv 2)) pa_nil))
          (pa_cons (pe_and (pe_callB (call_is T.ec hz hf) (by rfl) B.isinstance_ (by decide +kernel) (pa_cons (pv 2) (pa_cons (pe_gc gA) pa_nil)))
            (pe_one (pe_callB (call_is T.ec hz hf) (by rfl) B.isinstance_ (by decide +kernel) (pa_cons (pv 2) (pa_cons (pe_ty "ValueError" (by rfl) B2.ValueError_ (by decide +kernel)) pa_nil))))) pa_nil)))))))
      (pss_one (ps_ret (pv 1)))), ?_⟩
    refine q_asgL (el_lst ea_nil (by decide)) fun p0 H1 _ e1 _ => ?_
    refine ⟨_, rfl, v, d, rfl, DR.ex e1 hd, hsh, fun z => (by rw [hno] at z; cases z), fun _ H2 dd e2 n => ⟨true, TN.te, fun _ a na => ?_, fun z => nomatch z⟩⟩
    have dx : (upd H2 dd (.xd [("value", v)])) dd = some (.xd [("value", v)]) := upd_same
    refine ⟨_, rfl, rfl, rfl, dd, v, rfl, dx, v, d, rfl, DR.ex ((e1.trans e2).trans (Ex.new n)) hd, s1, s2, s3, ?_⟩
    refine ⟨_, rfl, rfl, ⟨dd, _, rfl, dx⟩, _, .ref CA, true, rfl, fun u r => r, T.kA, true, rfl, iteT ?_⟩
    refine ⟨_, rfl, rfl, ⟨dd, _, rfl, dx⟩, _, .type "ValueError", true, rfl, fun u r => r, T.kV, ?_⟩
    refine ⟨(by decide : 2 ≤ sizeLine), fun p hp => ?_⟩
    exact ⟨_, rfl, q p _ (fresh_back ((e1.trans e2).trans (Ex.new n)) hp) ((e1.trans e2).trans ((Ex.new n).trans (Ex.new hp))) upd_same⟩
end
end Ag
namespace Ag
open PySem PySem.Spec PyProof.Rows L2 Evl
theorem Src.same {H H' : Hp} {p : Addr} (h : Src H p) (s : Same H H') : Src H' p := let ⟨n, sd, e, a, b, c⟩ := h; ⟨n, sd, s _ _ e, a, b, c⟩
theorem sq_kp {K : PySem.W.Frag} {H H' : Hp} {a p : Addr} {xs : List V} (h : SqL K H a xs) (np : H p = none) (k : Kp p H H') : SqL K H' a xs := by
  rcases h with (h | ⟨o, h⟩) | h
  · exact .inl (.inl (k _ _ (ne_of_none h np) h))
  · exact .inl (.inr ⟨o, k _ _ (ne_of_none h np) h⟩)
  · exact .inr h
def spNumber0 : Sp := fun vs H Q _ => ∃ p : Addr, vs = [.ref p] ∧ Src H p ∧ ∀ n H', -(10 ^ 29) < n → n < 10 ^ 29 → Src H' p → Kp p H H' → Q (.int n) H'
def spLaw (K : PySem.W.Frag) : Sp := fun vs H Q _ => ∃ (a : Addr) (ns : List Int), vs = [.ref a] ∧ SqL K H a (ns.map V.int) ∧ ns.length ≤ 63 ∧ ∀ H', Q (.bl true) H'
theorem pick3 {x y z : Int} {r : Int} (h0 : 0 ≤ r) (h1 : r < 3) (L : Int) (hx : 0 < x ∧ x ≤ L) (hy : 0 < y ∧ y ≤ L) (hz : 0 < z ∧ z ≤ L) : ∃ m : Int, atI [V.int x, V.int y, V.int z] r = some (.int m) ∧ 0 < m ∧ m ≤ L := by
  have : r = 0 ∨ r = 1 ∨ r = 2 := by omega
  rcases this with rfl | rfl | rfl
  · exact ⟨x, atI_nat (j := 0) rfl, hx⟩
  · exact ⟨y, atI_nat (j := 1) rfl, hy⟩
  · exact ⟨z, atI_nat (j := 2) rfl, hz⟩
theorem turns_le (l : Int) : (1 : Int) ≤ (if (if (30 : Int) < l then 30 else l) > 1 then (if (30 : Int) < l then 30 else l) else 1) ∧ (if (if (30 : Int) < l then 30 else l) > 1 then (if (30 : Int) < l then 30 else l) else 1) ≤ 30 := by
  split <;> split <;> omega
theorem pick2 {x y : Int} {r : Int} (h0 : 0 ≤ r) (h1 : r < 2) (L : Int) (hx : 0 < x ∧ x ≤ L) (hy : 0 < y ∧ y ≤ L) : ∃ m : Int, atI [V.int x, V.int y] r = some (.int m) ∧ 0 < m ∧ m ≤ L := by
  have : r = 0 ∨ r = 1 := by omega
  rcases this with rfl | rfl
  · exact ⟨x, atI_nat (j := 0) rfl, hx⟩
  · exact ⟨y, atI_nat (j := 1) rfl, hy⟩
theorem src_ne {H : Hp} {l p : Addr} (nl : H l = none) (hs : Src H p) : l ≠ p := fun e => by
  obtain ⟨_, _, e', _⟩ := hs
  rw [← e, nl] at e'
  cases e'
/-! ### k06: the law -/
def scD : V → PyData
  | .bl b => .bool b
  | .int i => .int i
  | .str x => .str x
  | _ => .none
def zin (b : Int) : List (PyData × List V) := [(.tuple [.str "make"], [.int 0, .int 0, .int 0]), (.tuple [.str "read"], [.non, .non, .non]), (.tuple [.str "write"], [.non, .int 0, .int 0]),
  (.tuple [.str "rename"], [.non, .non, .int 0]), (.tuple [.str "touch"], [.int 0, .int 0, .int 0]), (.tuple [.str "unpack", .int b], [.int 0, .int b, .int 0]), (.tuple [.str "setback", .int b], [.int b, .int b, .int 0])]
def markAt (i : Nat) : Str := match i with | 0 => "read" | 1 => "written" | _ => "changed"
/-- what the law needs of a deed and what is due -/
structure Deedy (d : PyData) (us : List V) : Prop where
  yes : isDeedD d = true
  sh : SeqAt.shaped d = true
  wd : ∃ x r, d = .tuple (.str x :: r) ∧ makesD d = inV (.str x) [.str "make", .str "unpack"]
  three : us.length = 3
  dsh : SeqAt.shaped (.list (us.map scD)) = true
  flat : ∀ (i : Nat) (u : V), us[i]? = some u → u = .non ∨ ∃ n, u = .int n
  keys : (backsD d).map (fun kv => kV kv.1) = given 3 (fun i => !decide (us.getD i .non = .non)) fun i => .str (markAt i)
  gets : ∀ i, i < 3 → (valV (backsD d) (.inr (markAt i))).getD .non = us.getD i .non
  few : (backsD d).length < sizeLine
def okU : V → Bool
  | .non => true
  | .int _ => true
  | _ => false
theorem deedy {b : Int} (h1 : 1 ≤ b) (h2 : b ≤ 10 ^ 9) : ∀ (i : Nat) z, (zin b)[i]? = some z → Deedy z.1 z.2 := by
  have t : isTimeD (.int b) = true := decide_eq_true ⟨h1, h2⟩
  have fl : ∀ (l : List V), l.all okU = true → ∀ (i : Nat) (u : V), l[i]? = some u → u = .non ∨ ∃ n, u = .int n := fun l hl i u hu => by
    have z := List.all_eq_true.mp hl u (List.mem_of_getElem? hu)
    cases u with
    | non => exact .inl rfl
    | int n => exact .inr ⟨n, rfl⟩
    | _ => cases z
  intro i z hz
  match i, hz with
  | 0, hz => cases hz; exact ⟨rfl, by kernel_rfl, ⟨_, _, rfl, rfl⟩, rfl, by kernel_rfl, fl _ rfl, rfl, fun i hi => match i, hi with | 0, _ => rfl | 1, _ => rfl | 2, _ => rfl, by decide⟩
  | 1, hz => cases hz; exact ⟨rfl, by kernel_rfl, ⟨_, _, rfl, rfl⟩, rfl, by kernel_rfl, fl _ rfl, rfl, fun i hi => match i, hi with | 0, _ => rfl | 1, _ => rfl | 2, _ => rfl, by decide⟩
  | 2, hz => cases hz; exact ⟨rfl, by kernel_rfl, ⟨_, _, rfl, rfl⟩, rfl, by kernel_rfl, fl _ rfl, rfl, fun i hi => match i, hi with | 0, _ => rfl | 1, _ => rfl | 2, _ => rfl, by decide⟩
  | 3, hz => cases hz; exact ⟨rfl, by kernel_rfl, ⟨_, _, rfl, rfl⟩, rfl, by kernel_rfl, fl _ rfl, rfl, fun i hi => match i, hi with | 0, _ => rfl | 1, _ => rfl | 2, _ => rfl, by decide⟩
  | 4, hz => cases hz; exact ⟨rfl, by kernel_rfl, ⟨_, _, rfl, rfl⟩, rfl, by kernel_rfl, fl _ rfl, rfl, fun i hi => match i, hi with | 0, _ => rfl | 1, _ => rfl | 2, _ => rfl, by decide⟩
  | 5, hz => cases hz; exact ⟨t, by kernel_rfl, ⟨_, _, rfl, by unfold makesD; rw [show isDeedD (.tuple [.str "unpack", .int b]) = true from t]; rfl⟩, rfl, by kernel_rfl, fl _ rfl, rfl, fun i hi => match i, hi with | 0, _ => rfl | 1, _ => rfl | 2, _ => rfl, (by decide : 3 < sizeLine)⟩
  | 6, hz => cases hz; exact ⟨t, by kernel_rfl, ⟨_, _, rfl, by unfold makesD; rw [show isDeedD (.tuple [.str "setback", .int b]) = true from t]; rfl⟩, rfl, by kernel_rfl, fl _ rfl, rfl, fun i hi => match i, hi with | 0, _ => rfl | 1, _ => rfl | 2, _ => rfl, (by decide : 3 < sizeLine)⟩
  | i + 7, hz => cases hz

theorem dp_sc {K : PySem.W.Frag} {H : Hp} : ∀ {us vs : List V}, (∀ (i : Nat) (u : V), us[i]? = some u → u = .non ∨ ∃ n, u = .int n) → DpAll K H vs (us.map scD) → vs = us
  | [], _, _, h => by cases h; rfl
  | u :: us, _, hf, h => by
    have r := hf 0 u rfl
    have ih := fun vs (g : DpAll K H vs (us.map scD)) => dp_sc (us := us) (vs := vs) (fun i w hw => hf (i + 1) w (by simpa using hw)) g
    rcases r with rfl | ⟨n, rfl⟩
    · cases h with | cons a b => cases a; rw [ih _ b]
    · cases h with | cons a b => cases a; rw [ih _ b]
theorem sc_dp {K : PySem.W.Frag} {H : Hp} : ∀ {us : List V}, (∀ (i : Nat) (u : V), us[i]? = some u → u = .non ∨ ∃ n, u = .int n) → DpAll K H us (us.map scD)
  | [], _ => .nil
  | u :: us, hf => by
    have ih := sc_dp (K := K) (H := H) (us := us) fun i w hw => hf (i + 1) w (by simpa using hw)
    rcases hf 0 u rfl with rfl | ⟨n, rfl⟩
    · exact .cons .non ih
    · exact .cons (.int n) ih
def oddDs : List PyData := [.none, .int 1, .str "", .str "x", .list [.int 1], .tuple [], .dict [], .bool true, .tuple [.str "make", .int 1], .list [.str "make"], .tuple [.str "unpack"], .tuple [.str "read", .int 3], .tuple [.str "unpack", .int 0],
  .tuple [.str "setback", .int (10 ^ 9 + 1)], .tuple [.str "setback", .bool true], .tuple [.str "Make"], .tuple [.tuple [.str "make"]], .tuple [.str "make", .str "read"]]
def oddOk (d : PyData) : Bool := !isDeedD d && d.showable && Nat.ble d.shown.length 1000 && Nat.ble d.depth 50 && SeqAt.shaped (.list [.str d.shown, .bool true]) && (match d with | .tuple _ => SeqAt.shaped d | _ => true)
theorem odd_all : oddDs.all oddOk = true := by decide +kernel
theorem odd_of {i : Nat} {d : PyData} (h : oddDs[i]? = some d) : isDeedD d = false ∧ Shown d ∧ ShT d ∧ SeqAt.shaped (.list [.str d.shown, .bool true]) = true := by
  have z := List.all_eq_true.mp odd_all d (List.mem_of_getElem? h)
  unfold oddOk at z
  simp only [Bool.and_eq_true] at z
  obtain ⟨⟨⟨⟨⟨z1, z2⟩, z3⟩, z4⟩, z6⟩, z5⟩ := z
  refine ⟨by simpa using z1, ⟨z2, Nat.le_trans (Nat.le_of_ble_eq_true z3) (by decide), Nat.le_of_ble_eq_true z4⟩, fun ds e => ?_, z6⟩
  subst e
  exact z5
theorem three_all : ∀ {l : List V}, l.length = 3 → given 3 (fun _ => true) (fun i => l.getD i .non) = l
  | [_, _, _], _ => rfl
theorem given3 (f : Nat → Bool) (v : Nat → V) : given 3 f v = cond (f 0) [v 0] [] ++ (cond (f 1) [v 1] [] ++ cond (f 2) [v 2] []) := by
  unfold given
  rw [show List.range 3 = [0, 1, 2] from rfl]
  simp only [List.filter]
  cases f 0 <;> cases f 1 <;> cases f 2 <;> rfl
theorem str_dps {K : PySem.W.Frag} {H : Hp} : ∀ l : List Str, DpAll K H (l.map V.str) ((l.map V.str).map scD)
  | [] => .nil
  | x :: l => .cons (.str x) (str_dps l)
theorem given_dp {K : PySem.W.Frag} {H : Hp} (f : Nat → Bool) : DpAll K H (given 3 f fun i => .str (markAt i)) ((given 3 f fun i => .str (markAt i)).map scD) := by
  have z := str_dps (K := K) (H := H) (((List.range 3).filter f).map markAt)
  rw [List.map_map] at z
  exact z
theorem given_sh (f : Nat → Bool) : SeqAt.shaped (.list ((given 3 f fun i => .str (markAt i)).map scD)) = true := by
  rw [given3]
  cases f 0 <;> cases f 1 <;> cases f 2 <;> kernel_rfl
section
variable {P : Program} {w : World} {K : PySem.W.Frag} {mg : Str → Option Value} {base : Heap} {pP pM C CA : Addr}
theorem ok_law {f : Addr} {fd : FuncData} (F : Fun K "law" "law" s_law f fd) (B : Bl mg) (B2 : Bl2 mg) (T : DeTxt K mg pP pM)
    (c__law_source : Fn P w K mg base "_law_source" ["script", "turn"] CX0 1 (spSource K)) (c__law_draw : Fn P w K mg base "_law_draw" ["source", "amount"] CX0 1 spDraw) (c__law_pick : Fn P w K mg base "_law_pick" ["source", "items"] CX0 2 (spPick K))
    (c_is_deed : Fn P w K mg base "is_deed" ["value"] CX0 4 (spDeed K)) (c_makes : Fn P w K mg base "makes" ["value"] CX0 5 (spMakes K)) (c_backs : Fn P w K mg base "backs" ["deed"] (L2.CX P w) 5 (spBacks K C)) (c__law_refused : FG P w K mg base "_law_refused" ["odd"] CX0 6 (spRefused K)) :
    FnG P w K mg base CX0 12 f fd ["script"] (spLaw K) := by
  have gM := T.gM
  refine okG F sc_law (fun vs H Q E h => ?_) (fun cdv A outer s H vs Q E hG hr h => ?_)
  · obtain ⟨a, ns, rfl, _⟩ := h
    rfl
  · obtain ⟨a, ns, rfl, hS, hlen, q⟩ := h
    refine ⟨_, (pss_cons (ps_if (pt_cmpR (op_neD hr.units) (pe_gc gM) (pe_tup (pa_cons pe_str (pa_cons pe_str (pa_cons pe_str pa_nil)))) (nomark _)) (pss_one (ps_ret pe_bl)) pss_nil)
      (pss_cons (ps_for PassesOwn.never rfl (pi_range1 (by rfl) B.range_ (pa_cons (pe_callB (call_max2 rfl) (by rfl) B.max_ (by decide +kernel) (pa_cons pe_int (pa_cons (pe_callB (call_min2 rfl) (by rfl) B.min_ (by decide +kernel) (pa_cons (pe_callB call_len_seq (by rfl) B.len_ (by decide +kernel) (pa_cons (pv 0) pa_nil)) (pa_cons pe_int pa_nil))) pa_nil))) pa_nil)) (pg_name (i := 1) sc_law.nd rfl (Or.inl rfl)) (pss_cons (ps_set (i := 2) sc_law.nd rfl (Or.inl rfl) (pe_fn c__law_source hr pass0 (pa_cons (pv 0) (pa_cons (pv 1) pa_nil))))
      (pss_cons (ps_set (i := 3) sc_law.nd rfl (Or.inl rfl) (pe_op op_add pe_int (pe_fn c__law_draw hr pass0 (pa_cons (pv 2) (pa_cons (pe_ix ix_list (pe_lst (pa_cons pe_int (pa_cons (pe_op op_pow pe_int pe_int) pa_nil))) (pe_fn c__law_draw hr pass0 (pa_cons (pv 2) (pa_cons pe_int pa_nil))) (fun _ _ => rfl)) pa_nil)))))
      (pss_cons (ps_set (i := 4) sc_law.nd rfl (Or.inl rfl) (pe_lst (pa_cons (pe_tup (pa_cons (pe_tup (pa_cons pe_str pa_nil)) (pa_cons (pe_lst (pa_cons pe_int (pa_cons pe_int (pa_cons pe_int pa_nil)))) pa_nil))) (pa_cons (pe_tup (pa_cons (pe_tup (pa_cons pe_str pa_nil)) (pa_cons (pe_lst (pa_cons pe_non (pa_cons pe_non (pa_cons pe_non pa_nil)))) pa_nil))) (pa_cons (pe_tup (pa_cons (pe_tup (pa_cons pe_str pa_nil)) (pa_cons (pe_lst (pa_cons pe_non (pa_cons pe_int (pa_cons pe_int pa_nil)))) pa_nil))) pa_nil)))))
      (pss_cons (ps_set (i := 4) sc_law.nd rfl (Or.inl rfl) (pe_op op_cat (pv 4) (pe_lst (pa_cons (pe_tup (pa_cons (pe_tup (pa_cons pe_str pa_nil)) (pa_cons (pe_lst (pa_cons pe_non (pa_cons pe_non (pa_cons pe_int pa_nil)))) pa_nil))) (pa_cons (pe_tup (pa_cons (pe_tup (pa_cons pe_str pa_nil)) (pa_cons (pe_lst (pa_cons pe_int (pa_cons pe_int (pa_cons pe_int pa_nil)))) pa_nil))) pa_nil)))))
      (pss_cons (ps_set (i := 4) sc_law.nd rfl (Or.inl rfl) (pe_op op_cat (pv 4) (pe_lst (pa_cons (pe_tup (pa_cons (pe_tup (pa_cons pe_str (pa_cons (pv 3) pa_nil))) (pa_cons (pe_lst (pa_cons pe_int (pa_cons (pv 3) (pa_cons pe_int pa_nil)))) pa_nil))) (pa_cons (pe_tup (pa_cons (pe_tup (pa_cons pe_str (pa_cons (pv 3) pa_nil))) (pa_cons (pe_lst (pa_cons (pv 3) (pa_cons (pv 3) (pa_cons pe_int pa_nil)))) pa_nil))) pa_nil)))))
      (pss_cons (ps_asg (pe_fn c__law_pick hr pass0 (pa_cons (pv 2) (pa_cons (pv 4) pa_nil))) (pg_tup rfl (pgs_cons (pg_name (i := 5) sc_law.nd rfl (Or.inr rfl)) (pgs_cons (pg_name (i := 6) sc_law.nd rfl (Or.inr rfl)) pgs_nil))))
      (pss_cons (ps_if (PW.pt (pw_or (pt_cmpR op_isnot_bl (pe_fn c_is_deed hr pass0 (pa_cons (pv 5) pa_nil)) pe_bl (nomark _)) (pw_or1 (pt_cmpR op_ne (pe_fn c_makes hr pass0 (pa_cons (pv 5) pa_nil)) (pe_cmpR op_in_seq (pe_ix ix_tup (pv 5) pe_int (fun _ _ => rfl)) (pe_lst (pa_cons pe_str (pa_cons pe_str pa_nil))) (by rfl)) (nomark _))))) (pss_one (ps_ret pe_bl)) pss_nil)
      (pss_cons (ps_set (i := 7) sc_law.nd rfl (Or.inr rfl) (pe_fn c_backs hr passL (pa_cons (pv 5) pa_nil)))
      (pss_cons (ps_if (pt_cmpR (op_neD hr.units) (pe_callTy (call_listDK rfl) (by rfl) B2.list_ (by decide +kernel) (pa_cons (pv 7) pa_nil)) (pe_lc (own := [("mark", 9)]) (tt := tTest (tOp rNotN (tOp (rIxL K) (tVar 6) (tBM K "tuple" (rTupIx K) (tC (.ref pM)) (tCons (tVar 9) tNil))) (tC .non))) (by rfl) sc_law.nd (pi_tup (pe_gc gM)) (blkOk_by (own := [("mark", 9)]) (N := ["script", "turn", "source", "back", "some", "deed", "due", "told", "odd", "mark"]) (sc := defScope s_law) (by decide +kernel)) (fun _ _ _ _ _ => (pg_name (i := 9) sc_law.nd rfl (Or.inl rfl))) (fun _ _ _ _ _ => (pts_one (pt_cmpR op_notN (pe_ix ix_list (pv 6) (pe_bm PySem.F.plainAttrs_tuple PySem.F.slot_tuple_index PySem.F.type_tuple_index mt_tupIx (pe_gc gM) (pa_cons (pv 9) pa_nil)) (fun _ _ => rfl)) pe_non (nomark _)))) (fun _ _ _ _ _ => (pv 9))) (nomark _)) (pss_one (ps_ret pe_bl)) pss_nil)
      (pss_cons (ps_if (pt_cmpR (op_neD hr.units) (pe_lc (own := [("mark", 9)]) (by rfl) sc_law.nd (pi_tup (pe_gc gM)) (blkOk_by (own := [("mark", 9)]) (N := ["script", "turn", "source", "back", "some", "deed", "due", "told", "odd", "mark"]) (sc := defScope s_law) (by decide +kernel)) (fun _ _ _ _ _ => (pg_name (i := 9) sc_law.nd rfl (Or.inl rfl))) (fun _ _ _ _ _ => pts_nil) (fun _ _ _ _ _ => (pe_dget2 (hu_of hr) (pv 7) (pv 9) pe_non ⟨rfl, rfl, rfl, rfl⟩))) (pv 6) (nomark _)) (pss_one (ps_ret pe_bl)) pss_nil)
      (pss_cons (ps_dput (hu_of hr) (pv 7) pe_str (pe_un un_neg pe_int) rfl)
      (pss_cons (ps_if (pt_cmpR (op_neD hr.units) (pe_lc (own := [("mark", 9)]) (by rfl) sc_law.nd (pi_tup (pe_gc gM)) (blkOk_by (own := [("mark", 9)]) (N := ["script", "turn", "source", "back", "some", "deed", "due", "told", "odd", "mark"]) (sc := defScope s_law) (by decide +kernel)) (fun _ _ _ _ _ => (pg_name (i := 9) sc_law.nd rfl (Or.inl rfl))) (fun _ _ _ _ _ => pts_nil) (fun _ _ _ _ _ => (pe_dget2 (hu_of hr) (pe_fn c_backs hr passL (pa_cons (pv 5) pa_nil)) (pv 9) pe_non ⟨rfl, rfl, rfl, rfl⟩))) (pv 6) (nomark _)) (pss_one (ps_ret pe_bl)) pss_nil)
      (pss_cons (ps_set (i := 8) sc_law.nd rfl (Or.inl rfl) (pe_fn c__law_pick hr pass0 (pa_cons (pv 2) (pa_cons (pe_lst (pa_cons pe_non (pa_cons pe_int (pa_cons pe_str (pa_cons pe_str (pa_cons (pe_lst (pa_cons pe_int pa_nil)) (pa_cons (pe_tup pa_nil) (pa_cons pe_dnewK (pa_cons pe_bl (pa_cons (pe_tup (pa_cons pe_str (pa_cons pe_int pa_nil))) (pa_cons (pe_lst (pa_cons pe_str pa_nil)) (pa_cons (pe_tup (pa_cons pe_str pa_nil)) (pa_cons (pe_tup (pa_cons pe_str (pa_cons pe_int pa_nil))) (pa_cons (pe_tup (pa_cons pe_str (pa_cons pe_int pa_nil))) (pa_cons (pe_tup (pa_cons pe_str (pa_cons (pe_op op_add (pe_op op_pow pe_int pe_int) pe_int) pa_nil))) (pa_cons (pe_tup (pa_cons pe_str (pa_cons pe_bl pa_nil))) (pa_cons (pe_tup (pa_cons pe_str pa_nil)) (pa_cons (pe_tup (pa_cons (pe_tup (pa_cons pe_str pa_nil)) pa_nil)) (pa_cons (pe_tup (pa_cons pe_str (pa_cons pe_str pa_nil))) pa_nil))))))))))))))))))) pa_nil))))
      (pss_cons (ps_if (PW.pt (pw_or (pt_cmpR op_isnot_bl (pe_fn c_is_deed hr pass0 (pa_cons (pv 8) pa_nil)) pe_bl (nomark _)) (pw_or1 (pt_cmpR op_isnot_bl (pe_fn c_makes hr pass0 (pa_cons (pv 8) pa_nil)) pe_bl (nomark _))))) (pss_one (ps_ret pe_bl)) pss_nil)
      (pss_one (ps_if (pt_cmpR (op_neD hr.units) (pe_fg c__law_refused hG hr pass0 (pa_cons (pv 8) pa_nil)) (pe_lst (pa_cons (pe_callB (call_repr hG hr.units) (by rfl) B2.repr_ (by decide +kernel) (pa_cons (pv 8) pa_nil)) (pa_cons pe_bl pa_nil))) (nomark _)) (pss_one (ps_ret pe_bl)) pss_nil)))))))))))))))))
      (pss_one (ps_ret pe_bl)))), ?_⟩
    have md : ∀ H', Dp K H' (.ref pM) (.tuple [.str "read", .str "written", .str "changed"]) := fun H' => .tup (T.sM H') (.cons (.str _) (.cons (.str _) (.cons (.str _) .nil)))
    refine q_ifF (et_test (ev_neS (ed_c (md H)) (ed_tup (eds_cons (ed_str ev_c) (eds_cons (ed_str ev_c) (eds_cons (ed_str ev_c) eds_nil)))) (by kernel_rfl))) rfl fun Hz ez => ?_
    have hS := ex_l ez hS
    have tl := turns_le ((ns.map V.int).length : Int)
    refine ⟨_, rfl, a, _, rfl, .inl hS, _, _, rfl, _, _, rfl, _, rfl, by omega, by omega, ?_⟩
    refine for_range (lo := 0) (fun i σ H' => ∃ y1 y2 y3 y4 y5 y6 y7 y8 y9 : Option V, σ = [some (.ref a), y1, y2, y3, y4, y5, y6, y7, y8, y9] ∧ SqL K H' a (ns.map V.int)) ⟨none, none, none, none, none, none, none, none, none, rfl, hS⟩ ?_ ?_
    · rintro i σ H0 hi ⟨y1, y2, y3, y4, y5, y6, y7, y8, y9, rfl, hS0⟩
      refine ⟨_, rfl, _, rfl, a, ns, _, rfl, hS0, hlen, by omega, by omega, fun p H1 np s1 src1 => ?_⟩
      -- back
      refine ⟨_, rfl, _, _, rfl, rfl, ⟨by decide, by decide, by decide⟩, (by decide : 2 ≤ sizeLine), fun l nl => ?_⟩
      have s2 := same_upd (o := .lst [.int 9, .int (10 ^ (9 : Int).toNat)]) nl
      refine ⟨_, rfl, p, 2, rfl, src1.same s2, by decide, by decide, fun r H2 r0 r1 src2 k2 => ?_⟩
      obtain ⟨g0, hg, g1, g2⟩ := pick2 (x := 9) (y := 10 ^ (9 : Int).toNat) r0 r1 (10 ^ 9) (by decide) (by decide)
      refine ⟨l, _, r, _, rfl, rfl, SqL.of (k2 _ _ (src_ne nl src1) upd_same), hg, p, g0, rfl, src2, g1, Int.le_trans g2 (by decide), fun g3 H3 g30 g31 src3 k3 => ⟨_, _, rfl, rfl, ?_⟩⟩
      have e9 : (10 : Int) ^ 9 = 1000000000 := by decide
      dsimp only
      generalize hB : 1 + g3 = b
      have b1 : 1 ≤ b := by omega
      have b2 : b ≤ 10 ^ 9 := by omega
      have e03 : Ex H0 H3 := ex_kp k3 np (ex_kp k2 np (fun x u h => s2 x u (s1 x u h)))
      have n3 : H3 p ≠ none := fun z => by
        obtain ⟨_, _, h, _⟩ := src3
        rw [z] at h
        cases h
      -- some
      refine Ag.q_asgP (enl_lst (K := K) (Ex.refl H3) (ers_cons (er_dp (en_tup (Ex.refl H3) (ens_cons (en_tup (Ex.refl H3) (ens_cons (en_str ev_c) ens_nil)) (ens_cons (en_lst (Ex.refl H3) (ens_cons (en_int ev_c) (ens_cons (en_int ev_c) (ens_cons (en_int ev_c) ens_nil)))) ens_nil)))) (ers_cons (er_dp (en_tup (Ex.refl H3) (ens_cons (en_tup (Ex.refl H3) (ens_cons (en_str ev_c) ens_nil)) (ens_cons (en_lst (Ex.refl H3) (ens_cons (en_non ev_c) (ens_cons (en_non ev_c) (ens_cons (en_non ev_c) ens_nil)))) ens_nil)))) (ers_cons (er_dp (en_tup (Ex.refl H3) (ens_cons (en_tup (Ex.refl H3) (ens_cons (en_str ev_c) ens_nil)) (ens_cons (en_lst (Ex.refl H3) (ens_cons (en_non ev_c) (ens_cons (en_int ev_c) (ens_cons (en_int ev_c) ens_nil)))) ens_nil)))) ers_nil)))) fun w4 H4 e4 li => ?_
      refine Ag.q_asgP (enl_cat e4 (enl_var rfl li) (enl_lst (K := K) e4 (ers_cons (er_dp (en_tup e4 (ens_cons (en_tup e4 (ens_cons (en_str ev_c) ens_nil)) (ens_cons (en_lst e4 (ens_cons (en_non ev_c) (ens_cons (en_non ev_c) (ens_cons (en_int ev_c) ens_nil)))) ens_nil)))) (ers_cons (er_dp (en_tup e4 (ens_cons (en_tup e4 (ens_cons (en_str ev_c) ens_nil)) (ens_cons (en_lst e4 (ens_cons (en_int ev_c) (ens_cons (en_int ev_c) (ens_cons (en_int ev_c) ens_nil)))) ens_nil)))) ers_nil)))) fun w5 H5 e5 li => ?_
      have e35 := e4.trans e5
      refine Ag.q_asgP (enl_cat e35 (enl_var rfl li) (enl_lst (K := K) e35 (ers_cons (er_dp (en_tup e35 (ens_cons (en_tup e35 (ens_cons (en_str ev_c) (ens_cons (en_int (ev_var rfl)) ens_nil))) (ens_cons (en_lst e35 (ens_cons (en_int ev_c) (ens_cons (en_int (ev_var rfl)) (ens_cons (en_int ev_c) ens_nil)))) ens_nil)))) (ers_cons (er_dp (en_tup e35 (ens_cons (en_tup e35 (ens_cons (en_str ev_c) (ens_cons (en_int (ev_var rfl)) ens_nil))) (ens_cons (en_lst e35 (ens_cons (en_int (ev_var rfl)) (ens_cons (en_int (ev_var rfl)) (ens_cons (en_int ev_c) ens_nil)))) ens_nil)))) ers_nil)))) fun w6 H6 e6 li => ?_
      have e36 := e35.trans e6
      obtain ⟨ls, xs, rfl, n1, hls, hA⟩ := li
      have lp : ls ≠ p := fun z => n3 (z ▸ n1)
      have xl : xs.length = 7 := DRAll.len hA
      refine ⟨_, rfl, _, rfl, p, ls, xs, rfl, src3.same e36, SqL.of hls, lp, (fun z => by rw [z] at xl; cases xl), by omega, fun j x H7 hx src7 k7 => ?_⟩
      obtain ⟨d, hd, dr⟩ := hA.at hx
      have dr7 : DR K H7 x d := DR.ex ((nn_kp k7 n3).trans nn_in) dr
      have e07 : Ex H0 H7 := ex_kp k7 np (e03.trans e36)
      obtain ⟨dd, us, rfl, D⟩ : ∃ dd us, d = .tuple [dd, .list (us.map scD)] ∧ Deedy dd us := by
        have lt : j < 7 := by rw [← xl]; exact (List.getElem?_eq_some_iff.mp hx).1
        refine ⟨((zin b)[j]'lt).1, ((zin b)[j]'lt).2, ?_, deedy b1 b2 j _ (List.getElem?_eq_getElem lt)⟩
        match j, lt, hd with
        | 0, _, hd => exact (Option.some.inj hd).symm
        | 1, _, hd => exact (Option.some.inj hd).symm
        | 2, _, hd => exact (Option.some.inj hd).symm
        | 3, _, hd => exact (Option.some.inj hd).symm
        | 4, _, hd => exact (Option.some.inj hd).symm
        | 5, _, hd => exact (Option.some.inj hd).symm
        | 6, _, hd => exact (Option.some.inj hd).symm
      obtain ⟨t, xs2, rfl, hT, hA2⟩ := dr_tup dr7
      cases hA2 with
      | @cons v1 _ _ _ hv1 hr1 => cases hr1 with
        | @cons v2 _ _ _ hv2 hr2 => cases hr2 with
          | nil =>
            refine ⟨t, _, rfl, hT, rfl, v1, _, rfl, v2, _, rfl, rfl, ?_⟩
            -- facts about the deed and what is due
            obtain ⟨wx, wr, hwd, hmk⟩ := D.wd
            have sh1 : ShT dd := fun _ _ => D.sh
            have hd1 : DR K H7 v1 dd := .dp hv1
            obtain ⟨a2, us2, rfl, hL2, hU⟩ : ∃ a2 us2, v2 = .ref a2 ∧ SqL K H7 a2 us2 ∧ DpAll K H7 us2 (us.map scD) := by
              cases hv2 with | lst h1 h2 => exact ⟨_, _, rfl, h1, h2⟩
            obtain rfl := dp_sc D.flat hU
            have ev_deed : ∀ {Hk : Hp} {σ : L2.St} {E : XK}, Ex H7 Hk → σ[5]? = some (some v1) → Ev (tCall (spDeed K) [] E (tCons (tVar 5) tNil)) σ Hk (.bl true) := fun {Hk σ E} e hσ => ev_call (ea_cons (ev_var hσ) ea_nil) fun H1 e' Q' q' E' =>
              ⟨v1, dd, rfl, DR.ex (e.trans e') hd1, sh1, by rw [D.yes]; exact q'⟩
            have ev_mk : ∀ {Hk : Hp} {σ : L2.St} {E : XK}, Ex H7 Hk → σ[5]? = some (some v1) → Ev (tCall (spMakes K) [] E (tCons (tVar 5) tNil)) σ Hk (.bl (makesD dd)) := fun {Hk σ E} e hσ => ev_call (ea_cons (ev_var hσ) ea_nil) fun H1 e' Q' q' E' =>
              ⟨v1, dd, rfl, DR.ex (e.trans e') hd1, sh1, q'⟩
            have ev_word : ∀ {Hk : Hp} {σ : L2.St}, Ex H7 Hk → σ[5]? = some (some v1) → Ev (tOp (rIxT K) (tVar 5) (tC (.int 0))) σ Hk (.str wx) := fun {Hk σ} e hσ => by
              have h := hv1
              rw [hwd] at h
              cases h with | tup g0 g1 => cases g1 with | cons g2 g3 => cases g2; exact ev_op (ev_var hσ) ev_c (rv_ixT (ex_t e g0) (atI_nat (j := 0) rfl))
            refine q_ifF (et_or (et_test (ev_isnB (ev_deed (Ex.refl H7) rfl) ev_c)) fun _ => et_test (ev_op (ev_mk (Ex.refl H7) rfl) (ev_opL (ev_word (Ex.refl H7) rfl) (el_lst (ea_cons (ev_c (v := .str "make")) (ea_cons (ev_c (v := .str "unpack")) ea_nil)) (by decide)) fun _ _ h _ => rv_isL (sq_of h) rfl rfl) (rv_ne rfl))) ?_ fun H8 e8 => ?_
            · rw [hmk]
              simp
            -- told
            have ev_bk : ∀ {Hk : Hp} {σ : L2.St} {E : XK}, Ex H7 Hk → σ[5]? = some (some v1) → EvK (tCall (spBacks K C) [] E (tCons (tVar 5) tNil)) σ Hk (backsD dd) := fun {Hk σ E} e hσ H1 e1 Q' q' =>
              ⟨_, hσ, v1, dd, rfl, DR.ex (e.trans e1) hd1, sh1, fun _ p' H2 hp e2 h2 => q' p' H2 hp e2 h2, fun z => (by rw [D.yes] at z; cases z)⟩
            refine q_asgK (ev_bk e8 rfl) fun td H9 ntd e9 htd => ?_
            have e79 := e8.trans e9
            have n7td : H7 td = none := fresh_back e8 ntd
            have mk3 : ∀ (i : Nat) (x : V), marksV[i]? = some x → i < 3 ∧ x = .str (markAt i) := fun i x h => match i, h with
              | 0, h => ⟨by decide, (Option.some.inj h).symm⟩
              | 1, h => ⟨by decide, (Option.some.inj h).symm⟩
              | 2, h => ⟨by decide, (Option.some.inj h).symm⟩
            have gd : ∀ i, i < 3 → us2[i]? = some (us2.getD i .non) := fun i hi => by
              have l3 := D.three
              rw [List.getD_eq_getElem?_getD, List.getElem?_eq_getElem (by omega)]
              rfl
            have due_dp : ∀ {Hk : Hp}, Ex H7 Hk → Dp K Hk (.ref a2) (.list (us2.map scD)) := fun {Hk} e => .lst (ex_l e hL2) (sc_dp D.flat)
            have all3 : ∀ H', DpAll K H' (given marksV.length (fun _ => true) fun i => us2.getD i .non) (us2.map scD) := fun H' => by
              rw [show given marksV.length (fun _ => true) (fun i => us2.getD i .non) = us2 from three_all D.three]
              exact sc_dp D.flat
            refine q_ifF (et_test (ev_neS (d := .list ((given 3 (fun i => !decide (us2.getD i .non = .non)) fun i => .str (markAt i)).map scD)) ?_ (ed_L (el_lcT (K := K) (xs := marksV) (fun i => !decide (us2.getD i .non = .non)) (fun i => .str (markAt i)) ev_c (T.sM H9) (by decide) ?_ (fun i x H' e hx => ?_) fun i x H' e hx _ => ?_) fun H' => given_dp _) (given_sh _))) rfl fun H10 e10 => ?_
            · exact fun H' e Q' q' => ⟨_, rfl, td, backsD dd, rfl, .inl (e _ _ htd), fun p' n => q' _ _ (Ex.new n) (.lst (xs := (backsD dd).map fun kv => kV kv.1) (sq_of upd_same) (by rw [D.keys]; exact given_dp _))⟩
            · exact fun _ => rfl
            · obtain ⟨hi3, rfl⟩ := mk3 i x hx
              have ix : ∀ {σ : L2.St} {Hk : Hp}, σ[9]? = some (some (.str (markAt i))) → Ev (tBM K "tuple" (rTupIx K) (tC (.ref pM)) (tCons (tVar 9) tNil)) σ Hk (.int (i : Nat)) := fun {σ Hk} hσ H1 e1 Q' q' =>
                ⟨.inr (.inl ⟨rfl, T.kM⟩), _, hσ, pM, ["read", "written", "changed"], markAt i, i, rfl, rfl, T.sM H1, (match i, hi3 with | 0, _ => rfl | 1, _ => rfl | 2, _ => rfl), (match i, hi3 with | 0, _ => (fun m hm => nomatch hm) | 1, _ => (fun m hm => match m, hm with | 0, _ => by decide) | 2, _ => (fun m hm => match m, hm with | 0, _ => by decide | 1, _ => by decide)), q' H1 (Ex.refl H1)⟩
              exact et_test (ev_op (ev_op (ev_var rfl) (ix rfl) (rv_ixL (ex_l (e79.trans e) hL2) (atI_nat (gd i hi3)))) ev_c fun H1 _ _ q' => ⟨rfl, q' H1 (Ex.refl H1)⟩)
            · obtain ⟨hi3, rfl⟩ := mk3 i x hx
              exact ev_var rfl
            have htd10 := e10 _ _ htd
            have e710 := e79.trans e10
            refine q_ifF (et_test (ev_neS (d := .list (us2.map scD)) (ed_L (el_lcT (K := K) (xs := marksV) (fun _ => true) (fun i => us2.getD i .non) ev_c (T.sM H10) (by decide) ?_ (fun i x H' e hx => et_yes) fun i x H' e hx _ => ?_) all3) (ed_var rfl (due_dp e710)) D.dsh)) rfl fun H11 e11 => ?_
            · exact fun _ => rfl
            · obtain ⟨hi3, rfl⟩ := mk3 i x hx
              exact fun H1 e1 Q' q' => ⟨_, rfl, td, rfl, .inl ⟨_, .inl (e1 _ _ (e _ _ htd10))⟩, _, rfl, _, DGet.k (k := .inr (markAt i)) (e1 _ _ (e _ _ htd10)), by rw [D.gets i hi3]; exact q' H1 (Ex.refl H1)⟩
            have e711 := e710.trans e11
            -- told["read"] = -1
            refine q_dput (k := .inr "read") (v := .int (-1)) (ev_un ev_c ru_neg) (ev_var rfl) ev_c (e11 _ _ htd10) D.few fun H12 e12 => ?_
            have e712 := Ex.mut (o := .dK (putK (backsD dd) (.inr "read") (.int (-1)))) (e711.trans e12) n7td
            refine q_ifF (et_test (ev_neS (d := .list (us2.map scD)) (ed_L (el_lcT (K := K) (xs := marksV) (fun _ => true) (fun i => us2.getD i .non) ev_c (T.sM _) (by decide) ?_ (fun i x H' e hx => et_yes) fun i x H' e hx _ => ?_) all3) (ed_var rfl (due_dp e712)) D.dsh)) rfl fun H13 e13 => ?_
            · exact fun _ => rfl
            · obtain ⟨hi3, rfl⟩ := mk3 i x hx
              exact fun H1 e1 Q' q' => ev_bk (e712.trans e) rfl H1 e1 _ fun p' H2 hp e2 h2 => ⟨p', rfl, .inl ⟨_, .inl h2⟩, _, rfl, _, DGet.k (k := .inr (markAt i)) h2, by rw [D.gets i hi3]; exact q' H2 e2⟩
            have e713 := e712.trans e13
            have n7 : H7 p ≠ none := fun z => by
              obtain ⟨_, _, h, _⟩ := src7
              rw [z] at h
              cases h
            -- odd
            refine ⟨_, rfl, (show EnL K H7 _ _ _ oddDs from (enl_lst (K := K) e713 (ers_cons (er_dp (en_non ev_c)) (ers_cons (er_dp (en_int ev_c)) (ers_cons (er_dp (en_str ev_c)) (ers_cons (er_dp (en_str ev_c)) (ers_cons (er_dp (en_lst e713 (ens_cons (en_int ev_c) ens_nil))) (ers_cons (er_dp (en_tup e713 ens_nil)) (ers_cons (er_dnew e713) (ers_cons (er_dp (en_bl ev_c)) (ers_cons (er_dp (en_tup e713 (ens_cons (en_str ev_c) (ens_cons (en_int ev_c) ens_nil)))) (ers_cons (er_dp (en_lst e713 (ens_cons (en_str ev_c) ens_nil))) (ers_cons (er_dp (en_tup e713 (ens_cons (en_str ev_c) ens_nil))) (ers_cons (er_dp (en_tup e713 (ens_cons (en_str ev_c) (ens_cons (en_int ev_c) ens_nil)))) (ers_cons (er_dp (en_tup e713 (ens_cons (en_str ev_c) (ens_cons (en_int ev_c) ens_nil)))) (ers_cons (er_dp (en_tup e713 (ens_cons (en_str ev_c) (ens_cons (en_int (ev_op (ev_op ev_c ev_c (rv_I (C := CPow) ⟨by decide, by decide, by decide⟩)) ev_c rv_I0)) ens_nil)))) (ers_cons (er_dp (en_tup e713 (ens_cons (en_str ev_c) (ens_cons (en_bl ev_c) ens_nil)))) (ers_cons (er_dp (en_tup e713 (ens_cons (en_str ev_c) ens_nil))) (ers_cons (er_dp (en_tup e713 (ens_cons (en_tup e713 (ens_cons (en_str ev_c) ens_nil)) ens_nil))) (ers_cons (er_dp (en_tup e713 (ens_cons (en_str ev_c) (ens_cons (en_str ev_c) ens_nil)))) ers_nil)))))))))))))))))))) _ (Ex.refl H13) _ fun wo H14 e14 li => ?_⟩
            obtain ⟨lo, xo, rfl, n2, hlo, hAo⟩ := li
            have lop : lo ≠ p := fun z => n7 (z ▸ n2)
            have xol : xo.length = 18 := DRAll.len hAo
            refine ⟨p, lo, xo, rfl, src7.same (e713.trans e14), SqL.of hlo, lop, (fun z => by rw [z] at xol; cases xol), by omega, fun k x H15 hx src15 k15 => ?_⟩
            obtain ⟨od, hod, dro⟩ := hAo.at hx
            obtain ⟨ono, osh, ost, osq⟩ := odd_of hod
            have dr15 : DR K H15 x od := DR.ex ((nn_kp k15 n7).trans nn_in) dro
            have e015 : Ex H0 H15 := ex_kp k15 np (e07.trans (e713.trans e14))
            have mno : makesD od = false := by unfold makesD; rw [ono]; rfl
            dsimp only [gName]
            refine q_ifF (et_or (et_test (ev_isnB (a := false) (ev_call (ea_cons (ev_var rfl) ea_nil) fun H1 e' Q' q' E' => ⟨x, od, rfl, DR.ex e' dr15, ost, by rw [ono]; exact q'⟩) ev_c)) fun _ => et_test (ev_isnB (a := false) (ev_call (ea_cons (ev_var rfl) ea_nil) fun H1 e' Q' q' E' => ⟨x, od, rfl, DR.ex e' dr15, ost, by rw [mno]; exact q'⟩) ev_c)) rfl fun H16 e16 => ?_
            have dr16 := DR.ex e16 dr15
            refine s_when (et_test (ev_neS (K := K) (d := .list [.str od.shown, .bool true]) ?_ (ed_lst (eds_cons (ed_str ?_) (eds_cons (ed_bl ev_c) eds_nil))) ?_)) (fun z => nomatch z) fun _ H17 e17 => ?_
            · exact fun H1 e1 Q' q' => ⟨_, rfl, x, od, rfl, DR.ex e1 dr16, ost, ono, osh, fun p' H2 hp e2 h2 => q' _ H2 e2 (.lst (sq_of h2) (.cons (.str _) (.cons (.bl true) .nil)))⟩
            · exact ev_cb (ea_cons (ev_var rfl) ea_nil) fun H1 e1 Q' q' => ⟨x, od, rfl, DR.ex e1 dr16, osh.1, osh.2.1, osh.2.2, q' H1 (Ex.refl H1)⟩
            · exact osq
            exact ⟨_, _, _, _, _, _, _, _, _, rfl, ex_l (e015.trans (e16.trans e17)) hS0⟩
    · rintro σ H' ⟨y1, y2, y3, y4, y5, y6, y7, y8, y9, rfl, hS0⟩
      exact q H'
end
end Ag
namespace Ag
open PySem PySem.Spec PyProof.Rows L2
theorem all_mk {l : PySem.W.OpenLaw} {w : World} {K : PySem.W.Frag} {h : Heap} {mg : Str → Option Value} {fa C_AgeError C_NoDeed f_is_whole f_is_between f_is_time f_is_deed f_makes f_backs f__law_source f__law_draw f__law_pick f__law_refused f_law p_PLAIN p_MARKS f_NoDeed d_NoDeed cc_NoDeed : Addr} (X : K.In h) (G : h.Ns mainGlobals mg) (hfa : mg "law" = some (.ref fa))
    {od_is_whole an_is_whole : Option Addr} {sl_is_whole : Array (Option Value)} {oc_is_whole kV_is_whole dc_is_whole pm_is_whole cd_is_whole ct_is_whole : Value} {od_is_between an_is_between : Option Addr} {sl_is_between : Array (Option Value)} {oc_is_between kV_is_between dc_is_between pm_is_between cd_is_between ct_is_between : Value} {od_is_time an_is_time : Option Addr} {sl_is_time : Array (Option Value)} {oc_is_time kV_is_time dc_is_time pm_is_time cd_is_time ct_is_time : Value} {od_is_deed an_is_deed : Option Addr} {sl_is_deed : Array (Option Value)} {oc_is_deed kV_is_deed dc_is_deed pm_is_deed cd_is_deed ct_is_deed : Value} {od_makes an_makes : Option Addr} {sl_makes : Array (Option Value)} {oc_makes kV_makes dc_makes pm_makes cd_makes ct_makes : Value} {od_backs an_backs : Option Addr} {sl_backs : Array (Option Value)} {oc_backs kV_backs dc_backs pm_backs cd_backs ct_backs : Value} {od__law_source an__law_source : Option Addr} {sl__law_source : Array (Option Value)} {oc__law_source kV__law_source dc__law_source pm__law_source cd__law_source ct__law_source : Value} {od__law_draw an__law_draw : Option Addr} {sl__law_draw : Array (Option Value)} {oc__law_draw kV__law_draw dc__law_draw pm__law_draw cd__law_draw ct__law_draw : Value} {od__law_pick an__law_pick : Option Addr} {sl__law_pick : Array (Option Value)} {oc__law_pick kV__law_pick dc__law_pick pm__law_pick cd__law_pick ct__law_pick : Value} {od__law_refused an__law_refused : Option Addr} {sl__law_refused : Array (Option Value)} {oc__law_refused kV__law_refused dc__law_refused pm__law_refused cd__law_refused ct__law_refused : Value} {od_law an_law : Option Addr} {sl_law : Array (Option Value)} {oc_law kV_law dc_law pm_law cd_law ct_law : Value} {i_LONGEST : Int} {t_LONGEST : Tok} {t_PLAIN0 t_PLAIN1 t_PLAIN2 t_PLAIN3 t_PLAIN4 : Tok} {n_PLAIN : Nat} {sl_PLAIN : Array (Option Value)} {t_MARKS0 t_MARKS1 t_MARKS2 : Tok} {n_MARKS : Nat} {sl_MARKS : Array (Option Value)} {nm_NoDeed q_NoDeed : Str} {N_NoDeed : Addr} {bs_NoDeed : List Value} {sn_NoDeed : List Str} {sb_NoDeed : List Value} {ab_NoDeed : Bool} {co_NoDeed : Option Bool} {dd_NoDeed : Option Addr} {m0_NoDeed m1_NoDeed m2_NoDeed m3_NoDeed m5_NoDeed : Option Value} {od_NoDeed an_NoDeed ed_NoDeed gd_NoDeed : Option Addr} {sl_NoDeed es_NoDeed gs_NoDeed : Array (Option Value)} {oc_NoDeed dc_NoDeed pm_NoDeed ct_NoDeed ec_NoDeed gc_NoDeed : Value} {vs_NoDeed : Array Value} {fl_NoDeed : Str} {ft_NoDeed : Tok}
    (a_AgeError : PySem.W.nsIn K mainGlobals "AgeError" = some (some (.ref C_AgeError)))
    (a_NoDeed : PySem.W.nsIn K mainGlobals "NoDeed" = some (some (.ref C_NoDeed)))
    (a_is_whole : PySem.W.nsIn K mainGlobals "is_whole" = some (some (.ref f_is_whole)))
    (l_is_whole : K.lookup f_is_whole = some ⟨oc_is_whole, od_is_whole, .func (PySem.W.fnOf "is_whole" "is_whole" (defArgs s_is_whole) (defBody s_is_whole) (defScope s_is_whole) .none kV_is_whole dc_is_whole pm_is_whole an_is_whole cd_is_whole ct_is_whole), sl_is_whole⟩)
    (c_is_whole : PySem.W.codeIn K cd_is_whole "is_whole" = true)
    (k_is_whole : PySem.W.keepIn K (.ref f_is_whole) = true)
    (a_is_between : PySem.W.nsIn K mainGlobals "is_between" = some (some (.ref f_is_between)))
    (l_is_between : K.lookup f_is_between = some ⟨oc_is_between, od_is_between, .func (PySem.W.fnOf "is_between" "is_between" (defArgs s_is_between) (defBody s_is_between) (defScope s_is_between) .none kV_is_between dc_is_between pm_is_between an_is_between cd_is_between ct_is_between), sl_is_between⟩)
    (c_is_between : PySem.W.codeIn K cd_is_between "is_between" = true)
    (k_is_between : PySem.W.keepIn K (.ref f_is_between) = true)
    (a_is_time : PySem.W.nsIn K mainGlobals "is_time" = some (some (.ref f_is_time)))
    (l_is_time : K.lookup f_is_time = some ⟨oc_is_time, od_is_time, .func (PySem.W.fnOf "is_time" "is_time" (defArgs s_is_time) (defBody s_is_time) (defScope s_is_time) .none kV_is_time dc_is_time pm_is_time an_is_time cd_is_time ct_is_time), sl_is_time⟩)
    (c_is_time : PySem.W.codeIn K cd_is_time "is_time" = true)
    (k_is_time : PySem.W.keepIn K (.ref f_is_time) = true)
    (a_is_deed : PySem.W.nsIn K mainGlobals "is_deed" = some (some (.ref f_is_deed)))
    (l_is_deed : K.lookup f_is_deed = some ⟨oc_is_deed, od_is_deed, .func (PySem.W.fnOf "is_deed" "is_deed" (defArgs s_is_deed) (defBody s_is_deed) (defScope s_is_deed) .none kV_is_deed dc_is_deed pm_is_deed an_is_deed cd_is_deed ct_is_deed), sl_is_deed⟩)
    (c_is_deed : PySem.W.codeIn K cd_is_deed "is_deed" = true)
    (k_is_deed : PySem.W.keepIn K (.ref f_is_deed) = true)
    (a_makes : PySem.W.nsIn K mainGlobals "makes" = some (some (.ref f_makes)))
    (l_makes : K.lookup f_makes = some ⟨oc_makes, od_makes, .func (PySem.W.fnOf "makes" "makes" (defArgs s_makes) (defBody s_makes) (defScope s_makes) .none kV_makes dc_makes pm_makes an_makes cd_makes ct_makes), sl_makes⟩)
    (c_makes : PySem.W.codeIn K cd_makes "makes" = true)
    (k_makes : PySem.W.keepIn K (.ref f_makes) = true)
    (a_backs : PySem.W.nsIn K mainGlobals "backs" = some (some (.ref f_backs)))
    (l_backs : K.lookup f_backs = some ⟨oc_backs, od_backs, .func (PySem.W.fnOf "backs" "backs" (defArgs s_backs) (defBody s_backs) (defScope s_backs) .none kV_backs dc_backs pm_backs an_backs cd_backs ct_backs), sl_backs⟩)
    (c_backs : PySem.W.codeIn K cd_backs "backs" = true)
    (k_backs : PySem.W.keepIn K (.ref f_backs) = true)
    (a__law_source : PySem.W.nsIn K mainGlobals "_law_source" = some (some (.ref f__law_source)))
    (l__law_source : K.lookup f__law_source = some ⟨oc__law_source, od__law_source, .func (PySem.W.fnOf "_law_source" "_law_source" (defArgs s__law_source) (defBody s__law_source) (defScope s__law_source) .none kV__law_source dc__law_source pm__law_source an__law_source cd__law_source ct__law_source), sl__law_source⟩)
    (c__law_source : PySem.W.codeIn K cd__law_source "_law_source" = true)
    (k__law_source : PySem.W.keepIn K (.ref f__law_source) = true)
    (a__law_draw : PySem.W.nsIn K mainGlobals "_law_draw" = some (some (.ref f__law_draw)))
    (l__law_draw : K.lookup f__law_draw = some ⟨oc__law_draw, od__law_draw, .func (PySem.W.fnOf "_law_draw" "_law_draw" (defArgs s__law_draw) (defBody s__law_draw) (defScope s__law_draw) .none kV__law_draw dc__law_draw pm__law_draw an__law_draw cd__law_draw ct__law_draw), sl__law_draw⟩)
    (c__law_draw : PySem.W.codeIn K cd__law_draw "_law_draw" = true)
    (k__law_draw : PySem.W.keepIn K (.ref f__law_draw) = true)
    (a__law_pick : PySem.W.nsIn K mainGlobals "_law_pick" = some (some (.ref f__law_pick)))
    (l__law_pick : K.lookup f__law_pick = some ⟨oc__law_pick, od__law_pick, .func (PySem.W.fnOf "_law_pick" "_law_pick" (defArgs s__law_pick) (defBody s__law_pick) (defScope s__law_pick) .none kV__law_pick dc__law_pick pm__law_pick an__law_pick cd__law_pick ct__law_pick), sl__law_pick⟩)
    (c__law_pick : PySem.W.codeIn K cd__law_pick "_law_pick" = true)
    (k__law_pick : PySem.W.keepIn K (.ref f__law_pick) = true)
    (a__law_refused : PySem.W.nsIn K mainGlobals "_law_refused" = some (some (.ref f__law_refused)))
    (l__law_refused : K.lookup f__law_refused = some ⟨oc__law_refused, od__law_refused, .func (PySem.W.fnOf "_law_refused" "_law_refused" (defArgs s__law_refused) (defBody s__law_refused) (defScope s__law_refused) .none kV__law_refused dc__law_refused pm__law_refused an__law_refused cd__law_refused ct__law_refused), sl__law_refused⟩)
    (c__law_refused : PySem.W.codeIn K cd__law_refused "_law_refused" = true)
    (k__law_refused : PySem.W.keepIn K (.ref f__law_refused) = true)
    (a_law : PySem.W.nsIn K mainGlobals "law" = some (some (.ref f_law)))
    (l_law : K.lookup f_law = some ⟨oc_law, od_law, .func (PySem.W.fnOf "law" "law" (defArgs s_law) (defBody s_law) (defScope s_law) .none kV_law dc_law pm_law an_law cd_law ct_law), sl_law⟩)
    (c_law : PySem.W.codeIn K cd_law "law" = true)
    (k_law : PySem.W.keepIn K (.ref f_law) = true)
    (a_LONGEST : PySem.W.nsIn K mainGlobals "LONGEST" = some (some (.int i_LONGEST t_LONGEST)))
    (e_LONGEST : i_LONGEST = 10 ^ 9)
    (ic_AgeError : PySem.W.isClsIn K C_AgeError = true)
    (ty_AgeError : PySem.W.typeIn K (.ref C_AgeError) = some (.type "type"))
    (a_PLAIN : PySem.W.nsIn K mainGlobals "PLAIN" = some (some (.ref p_PLAIN)))
    (l_PLAIN : K.lookup p_PLAIN = some ⟨.type "tuple", none, .seq #[.str "make" t_PLAIN0, .str "read" t_PLAIN1, .str "write" t_PLAIN2, .str "rename" t_PLAIN3, .str "touch" t_PLAIN4] n_PLAIN, sl_PLAIN⟩)
    (a_MARKS : PySem.W.nsIn K mainGlobals "MARKS" = some (some (.ref p_MARKS)))
    (l_MARKS : K.lookup p_MARKS = some ⟨.type "tuple", none, .seq #[.str "read" t_MARKS0, .str "written" t_MARKS1, .str "changed" t_MARKS2] n_MARKS, sl_MARKS⟩)
    (xL_NoDeed : K.lookup C_NoDeed = some (excClassObj nm_NoDeed q_NoDeed C_NoDeed N_NoDeed bs_NoDeed [.ref C_AgeError, .type "ValueError", .type "Exception", .type "BaseException", .type "object"] true sn_NoDeed sb_NoDeed ab_NoDeed co_NoDeed dd_NoDeed m0_NoDeed m1_NoDeed m2_NoDeed m3_NoDeed m5_NoDeed "ValueError.__new__"))
    (sa_NoDeed : PySem.W.findIn K (.ref C_NoDeed) "__setattr__" = some (some (.builtin "object.__setattr__")))
    (ga_NoDeed : PySem.W.findIn K (.ref C_NoDeed) "__getattribute__" = some (some (.builtin "BaseException.__getattribute__")))
    (gg_NoDeed : PySem.W.findIn K (.ref C_NoDeed) "__getattr__" = some none)
    (noN_NoDeed : PySem.W.findIn K (.ref C_NoDeed) "value" = some none)
    (iC_NoDeed : PySem.W.findIn K (.ref C_NoDeed) "__init__" = some (some (.ref f_NoDeed)))
    (ca_NoDeed : PySem.W.findIn K (.ref C_NoDeed) "__class__" = some (some (.builtin "object.__class__")))
    (tC_NoDeed : PySem.W.typeIn K (.ref f_NoDeed) = some (.type "function"))
    (kC_NoDeed : PySem.W.keepIn K (.ref C_NoDeed) = true)
    (exC_NoDeed : PySem.W.subIn K (.ref C_NoDeed) (.type "BaseException") = some true)
    (tyC_NoDeed : PySem.W.typeIn K (.ref C_NoDeed) = some (.type "type"))
    (hdC_NoDeed : PySem.W.hasDictIn K C_NoDeed = true)
    (sC_NoDeed : PySem.W.subIn K (.ref C_NoDeed) (.ref C_NoDeed) = some true)
    (sup_NoDeed : PySem.W.ks_superIn K C_NoDeed C_NoDeed "__init__" = some (some (.builtin "ValueError.__init__")))
    (sV_NoDeed : PySem.W.subIn K (.ref C_NoDeed) (.type "ValueError") = some true)
    (sA_NoDeed : PySem.W.subIn K (.ref C_NoDeed) (.ref C_AgeError) = some true)
    (neA_NoDeed : (Value.ref C_NoDeed == Value.ref C_AgeError) = false)
    (mC_NoDeed : PySem.W.mroIn K C_NoDeed (.ref C_NoDeed) = some true)
    (mO_NoDeed : PySem.W.mroIn K C_NoDeed (.type "object") = some true)
    (l_NoDeed : K.lookup f_NoDeed = some ⟨oc_NoDeed, od_NoDeed, .func (PySem.W.ksFn "__init__" "NoDeed.__init__" (PySem.Er_value.iA ⟨6, 17, 6, 21⟩ ⟨6, 23, 6, 28⟩) (PySem.Er_value.iB "no deed" ⟨7, 8, 7, 13⟩ ⟨7, 8, 7, 15⟩ ⟨7, 8, 7, 24⟩ ⟨7, 25, 7, 34⟩ ⟨7, 8, 7, 35⟩ ⟨7, 8, 7, 35⟩ ⟨8, 8, 8, 12⟩ ⟨8, 8, 8, 18⟩ ⟨8, 21, 8, 26⟩ ⟨8, 8, 8, 26⟩) PySem.Er_value.iS .none .none dc_NoDeed pm_NoDeed an_NoDeed (.ref d_NoDeed) ct_NoDeed cc_NoDeed), sl_NoDeed⟩)
    (c_NoDeed : PySem.W.codeIn K (.ref d_NoDeed) "NoDeed.__init__" = true)
    (ld_NoDeed : K.lookup d_NoDeed = some ⟨ec_NoDeed, ed_NoDeed, .fields vs_NoDeed, es_NoDeed⟩)
    (vf_NoDeed : vs_NoDeed[2]? = some (.str fl_NoDeed ft_NoDeed))
    (pf_NoDeed : ((l.prog.main.file : Str) == fl_NoDeed) = true)
    (lc_NoDeed : K.lookup cc_NoDeed = some ⟨gc_NoDeed, gd_NoDeed, .cell (some (.ref C_NoDeed)), gs_NoDeed⟩)
    (x_any : PySem.W.nsIn K cStatics "thirdparty.any" = some none)
    (x_cn : PySem.W.specialIn K (.builtin "object.__class__") "__get__" = some (some (.builtin "getset_descriptor.__get__")))
    (x_ct : PySem.W.takesIn K (.builtin "object.__class__") = some true)
    (x_top : (l.prog.main.scope.names.lookup ("super" : Str)).isSome = false)
    (z_isinstance : PySem.W.nsIn K mainGlobals "isinstance" = some none)
    (z_int : PySem.W.nsIn K mainGlobals "int" = some none)
    (z_bool : PySem.W.nsIn K mainGlobals "bool" = some none)
    (z_len : PySem.W.nsIn K mainGlobals "len" = some none)
    (z_abs : PySem.W.nsIn K mainGlobals "abs" = some none)
    (z_max : PySem.W.nsIn K mainGlobals "max" = some none)
    (z_min : PySem.W.nsIn K mainGlobals "min" = some none)
    (z_range : PySem.W.nsIn K mainGlobals "range" = some none)
    (z_tuple : PySem.W.nsIn K mainGlobals "tuple" = some none)
    (z_str : PySem.W.nsIn K mainGlobals "str" = some none)
    (z_list : PySem.W.nsIn K mainGlobals "list" = some none)
    (z_dict : PySem.W.nsIn K mainGlobals "dict" = some none)
    (z_repr : PySem.W.nsIn K mainGlobals "repr" = some none)
    (z_ValueError : PySem.W.nsIn K mainGlobals "ValueError" = some none)
    (z_sorted : PySem.W.nsIn K mainGlobals "sorted" = some none)
    (z_super : PySem.W.nsIn K mainGlobals "super" = some none)
    : ∃ fd : FuncData, (∀ (s : Shared) (v : Value), BindsTo s fd ⟨[v], []⟩ [("script", v)]) ∧ ∀ base : Heap, K.In base → base.Ns mainGlobals mg → FnG l.prog w K mg base CX0 12 fa fd ["script"] (spLaw K) := by
  have e := hfa.symm.trans (PySem.W.mg_of X G a_law)
  cases e
  have F_is_whole := fun_mk (st := s_is_whole) l_is_whole c_is_whole k_is_whole
  have b_is_whole := F_is_whole.binds (ps := ["value"]) fun _ _ _ _ _ _ us hl => match us, hl with | [_], _ => rfl
  have F_is_between := fun_mk (st := s_is_between) l_is_between c_is_between k_is_between
  have b_is_between := F_is_between.binds (ps := ["value", "low", "high"]) fun _ _ _ _ _ _ us hl => match us, hl with | [_, _, _], _ => rfl
  have F_is_time := fun_mk (st := s_is_time) l_is_time c_is_time k_is_time
  have b_is_time := F_is_time.binds (ps := ["value"]) fun _ _ _ _ _ _ us hl => match us, hl with | [_], _ => rfl
  have F_is_deed := fun_mk (st := s_is_deed) l_is_deed c_is_deed k_is_deed
  have b_is_deed := F_is_deed.binds (ps := ["value"]) fun _ _ _ _ _ _ us hl => match us, hl with | [_], _ => rfl
  have F_makes := fun_mk (st := s_makes) l_makes c_makes k_makes
  have b_makes := F_makes.binds (ps := ["value"]) fun _ _ _ _ _ _ us hl => match us, hl with | [_], _ => rfl
  have F_backs := fun_mk (st := s_backs) l_backs c_backs k_backs
  have b_backs := F_backs.binds (ps := ["deed"]) fun _ _ _ _ _ _ us hl => match us, hl with | [_], _ => rfl
  have F__law_source := fun_mk (st := s__law_source) l__law_source c__law_source k__law_source
  have b__law_source := F__law_source.binds (ps := ["script", "turn"]) fun _ _ _ _ _ _ us hl => match us, hl with | [_, _], _ => rfl
  have F__law_draw := fun_mk (st := s__law_draw) l__law_draw c__law_draw k__law_draw
  have b__law_draw := F__law_draw.binds (ps := ["source", "amount"]) fun _ _ _ _ _ _ us hl => match us, hl with | [_, _], _ => rfl
  have F__law_pick := fun_mk (st := s__law_pick) l__law_pick c__law_pick k__law_pick
  have b__law_pick := F__law_pick.binds (ps := ["source", "items"]) fun _ _ _ _ _ _ us hl => match us, hl with | [_, _], _ => rfl
  have F__law_refused := fun_mk (st := s__law_refused) l__law_refused c__law_refused k__law_refused
  have b__law_refused := F__law_refused.binds (ps := ["odd"]) fun _ _ _ _ _ _ us hl => match us, hl with | [_], _ => rfl
  have F_law := fun_mk (st := s_law) l_law c_law k_law
  subst e_LONGEST
  have B : Bl mg := ⟨PySem.W.mg_none_of X G z_isinstance, PySem.W.mg_none_of X G z_int, PySem.W.mg_none_of X G z_bool, PySem.W.mg_none_of X G z_len, PySem.W.mg_none_of X G z_abs, PySem.W.mg_none_of X G z_max, PySem.W.mg_none_of X G z_min, PySem.W.mg_none_of X G z_range⟩
  have B2 : Bl2 mg := ⟨PySem.W.mg_none_of X G z_tuple, PySem.W.mg_none_of X G z_str, PySem.W.mg_none_of X G z_list, PySem.W.mg_none_of X G z_dict, PySem.W.mg_none_of X G z_repr, PySem.W.mg_none_of X G z_ValueError, PySem.W.mg_none_of X G z_sorted⟩
  have TX_NoDeed : PySem.Er_value.Txt l.prog K mg "NoDeed" C_NoDeed f_NoDeed := { gC := PySem.W.mg_of X G a_NoDeed, cls := ⟨_, _, _, _, _, _, _, _, _, _, _, _, _, _, _, xL_NoDeed, rfl⟩, sa := sa_NoDeed, ga := ga_NoDeed, gg := gg_NoDeed, noN := noN_NoDeed, iC := iC_NoDeed, tC := tC_NoDeed, kC := kC_NoDeed, exC := exC_NoDeed, tyC := tyC_NoDeed, hdC := hdC_NoDeed, te := PySem.W.exm_ref exC_NoDeed hdC_NoDeed tyC_NoDeed sC_NoDeed, sup := sup_NoDeed, subV := sV_NoDeed, subC := mC_NoDeed, op := x_any, gs := PySem.W.mg_none_of X G z_super, fn := ⟨_, _, _, _, _, _, _, _, _, _, _, _, _, _, _, _, _, _, _, _, _, _, _, _, _, _, _, _, _, _, _, _, l_NoDeed, c_NoDeed, ld_NoDeed, vf_NoDeed, pf_NoDeed, lc_NoDeed, rfl⟩, «top» := x_top }
  have EC_NoDeed : EcTxt K mg C_NoDeed C_AgeError := ⟨⟨ga_NoDeed, gg_NoDeed, exC_NoDeed, hdC_NoDeed, ca_NoDeed, x_cn, x_ct, mO_NoDeed⟩, PySem.W.mg_of X G a_AgeError, kit_own ic_AgeError ty_AgeError sA_NoDeed neA_NoDeed, kit_typ rfl (by decide +kernel) sV_NoDeed⟩
  have TN := PySem.Er_value.err (w := w) TX_NoDeed
  have T : DeTxt K mg p_PLAIN p_MARKS := ⟨PySem.W.mg_of X G a_PLAIN, PySem.W.mg_of X G a_MARKS, ⟨_, PySem.W.mg_of X G a_LONGEST⟩, fun H => .inr ⟨_, _, _, l_PLAIN, rfl, rfl, Nat.le_of_ble_eq_true rfl, (.cons ⟨_, rfl⟩ (.cons ⟨_, rfl⟩ (.cons ⟨_, rfl⟩ (.cons ⟨_, rfl⟩ (.cons ⟨_, rfl⟩ .nil)))))⟩, fun H => .inr ⟨_, _, _, l_MARKS, rfl, rfl, Nat.le_of_ble_eq_true rfl, (.cons ⟨_, rfl⟩ (.cons ⟨_, rfl⟩ (.cons ⟨_, rfl⟩ .nil)))⟩, ⟨_, l_MARKS, rfl, rfl⟩⟩
  exact ⟨PySem.W.fnOf "law" "law" (defArgs s_law) (defBody s_law) (defScope s_law) .none kV_law dc_law pm_law an_law cd_law ct_law, fun s v => .of_eq rfl, fun base _ _ => by
    have c_is_whole : Fn l.prog w K mg base "is_whole" _ CX0 _ _ := ⟨_, _, PySem.W.mg_of X G a_is_whole, k_is_whole, b_is_whole, ok_is_whole F_is_whole B⟩
    have c_is_between : Fn l.prog w K mg base "is_between" _ CX0 _ _ := ⟨_, _, PySem.W.mg_of X G a_is_between, k_is_between, b_is_between, ok_is_between F_is_between B c_is_whole⟩
    have c_is_time : Fn l.prog w K mg base "is_time" _ CX0 _ _ := ⟨_, _, PySem.W.mg_of X G a_is_time, k_is_time, b_is_time, ok_is_time F_is_time T c_is_between⟩
    have c_is_deed : Fn l.prog w K mg base "is_deed" _ CX0 _ _ := ⟨_, _, PySem.W.mg_of X G a_is_deed, k_is_deed, b_is_deed, ok_is_deed F_is_deed B B2 T c_is_time⟩
    have c_makes : Fn l.prog w K mg base "makes" _ CX0 _ _ := ⟨_, _, PySem.W.mg_of X G a_makes, k_makes, b_makes, ok_makes F_makes c_is_deed⟩
    have c_backs : Fn l.prog w K mg base "backs" _ (L2.CX l.prog w) _ _ := ⟨_, _, PySem.W.mg_of X G a_backs, k_backs, b_backs, ok_backs F_backs TN c_is_deed⟩
    have c__law_source : Fn l.prog w K mg base "_law_source" _ CX0 _ _ := ⟨_, _, PySem.W.mg_of X G a__law_source, k__law_source, b__law_source, ok__law_source F__law_source B⟩
    have c__law_draw : Fn l.prog w K mg base "_law_draw" _ CX0 _ _ := ⟨_, _, PySem.W.mg_of X G a__law_draw, k__law_draw, b__law_draw, ok__law_draw F__law_draw B⟩
    have c__law_pick : Fn l.prog w K mg base "_law_pick" _ CX0 _ _ := ⟨_, _, PySem.W.mg_of X G a__law_pick, k__law_pick, b__law_pick, ok__law_pick F__law_pick B c__law_draw⟩
    have c__law_refused : FG l.prog w K mg base "_law_refused" _ CX0 _ _ := ⟨_, _, PySem.W.mg_of X G a__law_refused, k__law_refused, b__law_refused, ok__law_refused F__law_refused B B2 TN EC_NoDeed c_backs⟩
    exact ok_law F_law B B2 T c__law_source c__law_draw c__law_pick c_is_deed c_makes c_backs c__law_refused⟩
end Ag
open PySem PySem.W PyProof.Rows
set_option maxHeartbeats 0 in
theorem PySem.Challenge.cw_agedfiles_k06_deeds_and_backs_holds : PySem.Challenge.rw_agedfiles_k06_deeds_and_backs.Holds := by
  w_on; o_law; k_head; (case hw => w_witness2)
  k_fill
  refine Ag.walk_ofG (l := PySem.Challenge.rw_agedfiles_k06_deeds_and_backs) (n := 63) (k := 12) (x := "script") (CX := fun _ => L2.CX0) (sp := fun w => Ag.spLaw _) rfl (by decide) rfl ⟨rfl, by decide, by decide⟩ (fun w h Y => PySem.W.kIn_of Y) ?F (fun _ _ a ns hl _ hS => ⟨a, ns, rfl, hS, hl, fun _ => rfl⟩) (fun _ _ _ _ _ h => h)
  case F =>
    intro w mg fa h KX G hmg
    refine' Ag.all_mk KX G hmg ?a_AgeError ?a_NoDeed ?a_is_whole ?l_is_whole ?c_is_whole ?k_is_whole ?a_is_between ?l_is_between ?c_is_between ?k_is_between ?a_is_time ?l_is_time ?c_is_time ?k_is_time ?a_is_deed ?l_is_deed ?c_is_deed ?k_is_deed ?a_makes ?l_makes ?c_makes ?k_makes ?a_backs ?l_backs ?c_backs ?k_backs ?a__law_source ?l__law_source ?c__law_source ?k__law_source ?a__law_draw ?l__law_draw ?c__law_draw ?k__law_draw ?a__law_pick ?l__law_pick ?c__law_pick ?k__law_pick ?a__law_refused ?l__law_refused ?c__law_refused ?k__law_refused ?a_law ?l_law ?c_law ?k_law ?a_LONGEST ?e_LONGEST ?ic_AgeError ?ty_AgeError ?a_PLAIN ?l_PLAIN ?a_MARKS ?l_MARKS ?xL_NoDeed ?sa_NoDeed ?ga_NoDeed ?gg_NoDeed ?noN_NoDeed ?iC_NoDeed ?ca_NoDeed ?tC_NoDeed ?kC_NoDeed ?exC_NoDeed ?tyC_NoDeed ?hdC_NoDeed ?sC_NoDeed ?sup_NoDeed ?sV_NoDeed ?sA_NoDeed ?neA_NoDeed ?mC_NoDeed ?mO_NoDeed ?l_NoDeed ?c_NoDeed ?ld_NoDeed ?vf_NoDeed ?pf_NoDeed ?lc_NoDeed ?x_any ?x_cn ?x_ct ?x_top ?z_isinstance ?z_int ?z_bool ?z_len ?z_abs ?z_max ?z_min ?z_range ?z_tuple ?z_str ?z_list ?z_dict ?z_repr ?z_ValueError ?z_sorted ?z_super
    (case a_AgeError => k_is)
    (case a_NoDeed => k_is)
    (case a_is_whole => k_is)
    (case l_is_whole => k_is)
    (case c_is_whole => k_is)
    (case k_is_whole => k_is)
    (case a_is_between => k_is)
    (case l_is_between => k_is)
    (case c_is_between => k_is)
    (case k_is_between => k_is)
    (case a_is_time => k_is)
    (case l_is_time => k_is)
    (case c_is_time => k_is)
    (case k_is_time => k_is)
    (case a_is_deed => k_is)
    (case l_is_deed => k_is)
    (case c_is_deed => k_is)
    (case k_is_deed => k_is)
    (case a_makes => k_is)
    (case l_makes => k_is)
    (case c_makes => k_is)
    (case k_makes => k_is)
    (case a_backs => k_is)
    (case l_backs => k_is)
    (case c_backs => k_is)
    (case k_backs => k_is)
    (case a__law_source => k_is)
    (case l__law_source => k_is)
    (case c__law_source => k_is)
    (case k__law_source => k_is)
    (case a__law_draw => k_is)
    (case l__law_draw => k_is)
    (case c__law_draw => k_is)
    (case k__law_draw => k_is)
    (case a__law_pick => k_is)
    (case l__law_pick => k_is)
    (case c__law_pick => k_is)
    (case k__law_pick => k_is)
    (case a__law_refused => k_is)
    (case l__law_refused => k_is)
    (case c__law_refused => k_is)
    (case k__law_refused => k_is)
    (case a_law => k_is)
    (case l_law => k_is)
    (case c_law => k_is)
    (case k_law => k_is)
    (case a_LONGEST => k_is)
    (case e_LONGEST => rfl)
    (case ic_AgeError => k_is)
    (case ty_AgeError => k_is)
    (case a_PLAIN => k_is)
    (case l_PLAIN => k_is)
    (case a_MARKS => k_is)
    (case l_MARKS => k_is)
    (case xL_NoDeed => k_is)
    (case sa_NoDeed => k_is)
    (case ga_NoDeed => k_is)
    (case gg_NoDeed => k_is)
    (case noN_NoDeed => k_is)
    (case iC_NoDeed => k_is)
    (case ca_NoDeed => k_is)
    (case tC_NoDeed => k_is)
    (case kC_NoDeed => k_is)
    (case exC_NoDeed => k_is)
    (case tyC_NoDeed => k_is)
    (case hdC_NoDeed => k_is)
    (case sC_NoDeed => first | rfl | k_is)
    (case sup_NoDeed => ks_is)
    (case sV_NoDeed => k_is)
    (case sA_NoDeed => k_is)
    (case neA_NoDeed => rfl)
    (case mC_NoDeed => k_is)
    (case mO_NoDeed => k_is)
    (case l_NoDeed => k_is)
    (case c_NoDeed => k_is)
    (case ld_NoDeed => k_is)
    (case vf_NoDeed => rfl)
    (case pf_NoDeed => first | rfl | decide +kernel)
    (case lc_NoDeed => k_is)
    (case x_any => k_is)
    (case x_cn => k_is)
    (case x_ct => k_is)
    (case x_top => first | rfl | decide +kernel)
    (case z_isinstance => k_is)
    (case z_int => k_is)
    (case z_bool => k_is)
    (case z_len => k_is)
    (case z_abs => k_is)
    (case z_max => k_is)
    (case z_min => k_is)
    (case z_range => k_is)
    (case z_tuple => k_is)
    (case z_str => k_is)
    (case z_list => k_is)
    (case z_dict => k_is)
    (case z_repr => k_is)
    (case z_ValueError => k_is)
    (case z_sorted => k_is)
    (case z_super => k_is)
