import PyProof.Rows.All
import Wide.All
import OpenK.AllK
import Wide.FinOn
import PyProof.EqAt
import PyProof.EqKinds
import PyProof.TupleCall
import HandS.Base
import HandS.Call
import HandS.List
import HandS.SlotsOwn
import HandS.IsInst
import HandS.Words
import HandS.ForMost
import HandS.Property
import HandS.Wide
import HandS.EndBits
import HandS.TupLe
import HandS.Evl
import KE.KExcSuper
import HandS.ExcInit
import HandS.Codes
import HandS.WordsExc
import PyProof.ReprRoads
import HandS.RaiseMore
import HandS.Dict
import HandS.ExcIs
import HandS.TryMany
import HandS.Strs
import HandS.More
import HandS.Steps
import HandS.ClsMeth
import HandS.Star
import HandS.Walk
import HandS.Style
import HandS.DictComp
import HandS.Deep
import PySem.Challenge.RW_agedfiles_k08_whole_files_deed_by_deed
set_option Elab.async false
set_option linter.all false
set_option maxRecDepth 100000
set_option maxHeartbeats 4000000
namespace Ag
open PySem PySem.Spec PyProof.Rows L2

/-! ### what a caller needs of a def, a method, a class -/
section
variable (P : Program) (w : World) (K : PySem.W.Frag) (mg : Str → Option Value) (base : Heap)
/-- the def that the module's name x holds keeps the promise sp -/
def Fn (x : Str) (ps : List Str) (CX : CXT) (k : Nat) (sp : Sp) : Prop :=
  ∃ f fd, mg x = some (.ref f) ∧ PySem.W.keepIn K (.ref f) = true ∧ Binds K fd ps [] ∧ FnOk P w K mg base CX k f fd ps sp
/-- the method m of the class at C keeps the promise sp -/
def Mt (C : Addr) (m : Str) (ps : List Str) (CX : CXT) (k : Nat) (sp : Sp) : Prop :=
  ∃ f fd, Meth K C m f ∧ Binds K fd ps [] ∧ FnOk P w K mg base CX k f fd ps sp
/-- the class at C is made by its own __init__, which keeps the promise sp -/
def Nw (x : Str) (C : Addr) (ps : List Str) (CX : CXT) (k : Nat) (sp : Sp) : Prop :=
  ∃ f fd, mg x = some (.ref C) ∧ Mk K C f ∧ Binds K fd ps [] ∧ FnOk P w K mg base CX k f fd ps sp
end

section
variable {X : Cx} {CX : CXT} {k j : Nat} {C : Addr} {ps : List Str} {sp : Sp} {E : XK} {x m : Str} {p pos apos : Pos} {e o : Expr} {es : List Expr} {ta : TE} {t : TA}
theorem pe_fn (c : Fn X.prog X.w X.K X.mg X.base x ps CX k sp) (hr : Room j X.A) (hx : Passes CX X E) (ha : PA X (e :: es) t) (hk : k ≤ j := by decide) (hg : Gl X x := by rfl)
    (hdb : (x == ("__debug__" : Str)) = false := by decide) (he : starEach (e :: es) X.env = (false, eval e X.env) :: starEach es X.env := by rfl) (hpl : (backTo pos (starEach es X.env)).any (·.1) = false := by rfl) :
    PE X (.Call (.Name x p) (e :: es) [] pos) (tCall sp [] E t) := by
  obtain ⟨f, fd, g, kp, b, F⟩ := c
  exact pe_call F (hr.mono hk) hg g kp b .nil hx ha hdb he hpl
theorem pe_fn0 (c : Fn X.prog X.w X.K X.mg X.base x ps CX k sp) (hr : Room j X.A) (hx : Passes CX X E) (hk : k ≤ j := by decide) (hg : Gl X x := by rfl)
    (hdb : (x == ("__debug__" : Str)) = false := by decide) : PE X (.Call (.Name x p) [] [] pos) (tCall sp [] E tNil) := by
  obtain ⟨f, fd, g, kp, b, F⟩ := c
  exact pe_call0 F (hr.mono hk) hg g kp b .nil hx hdb
theorem pe_nw (c : Nw X.prog X.w X.K X.mg X.base x C ps CX k sp) (hr : Room j X.A) (hx : Passes CX X E) (ha : PA X (e :: es) t) (hk : k + 1 ≤ j := by decide) (hg : Gl X x := by rfl)
    (hdb : (x == ("__debug__" : Str)) = false := by decide) (he : starEach (e :: es) X.env = (false, eval e X.env) :: starEach es X.env := by rfl) (hpl : (backTo pos (starEach es X.env)).any (·.1) = false := by rfl) :
    PE X (.Call (.Name x p) (e :: es) [] pos) (tMake C sp [] E t) := by
  obtain ⟨f, fd, g, M, b, F⟩ := c
  exact pe_make M F (hr.mono hk) hg g b .nil hx ha hdb he hpl
theorem pe_mt {pl : Sem Bool} (c : Cls X.K C) (M : Mt X.prog X.w X.K X.mg X.base C m ps CX k sp) (hr : Room j X.A) (hx : Passes CX X E) (he : PE X o ta) (ha : PA X (e :: es) t) (hk : k ≤ j := by decide)
    (hst : starEach (e :: es) X.env = (false, eval e X.env) :: starEach es X.env := by rfl) (hpl : (backTo pos (starEach es X.env)).any (·.1) = false := by rfl)
    (ht : eval (.Call (.Attribute o m apos) (e :: es) [] pos) X.env = (do
      let ov ← eval o X.env
      standAt apos.atName
      let (f, first) ← holding [ov] (getMethod ov m pl)
      callWith pos f first (backTo pos (starEach (e :: es) X.env)) (backToKw pos (keywordEach [] X.env))) := by rfl) :
    PE X (.Call (.Attribute o m apos) (e :: es) [] pos) (tMeth C m sp [] E ta t) := by
  obtain ⟨f, fd, g, b, F⟩ := M
  exact pe_meth he c g F (hr.mono hk) b .nil hx ha hst hpl ht
theorem pe_mt0 {pl : Sem Bool} (c : Cls X.K C) (M : Mt X.prog X.w X.K X.mg X.base C m ps CX k sp) (hr : Room j X.A) (hx : Passes CX X E) (he : PE X o ta) (hk : k ≤ j := by decide)
    (ht : eval (.Call (.Attribute o m apos) [] [] pos) X.env = (do
      let ov ← eval o X.env
      standAt apos.atName
      let (f, first) ← holding [ov] (getMethod ov m pl)
      callWith pos f first (backTo pos (starEach [] X.env)) (backToKw pos (keywordEach [] X.env))) := by rfl) :
    PE X (.Call (.Attribute o m apos) [] [] pos) (tMeth C m sp [] E ta tNil) := by
  obtain ⟨f, fd, g, b, F⟩ := M
  exact pe_meth0 he c g F (hr.mono hk) b .nil hx ht
end

/-! ### operators of an own class -/
section
variable {prog : Program} {w : World} {A : Around} {E : Value → Shared → Prop} {s : Shared} {K : PySem.W.Frag} {x C L f : Addr} {h₀ : Heap} {m : Str → Option Value} {ox : Obj} {od : Option Obj}
open PySem.W PySem.Calls

/-- int op own: the own class's reflected method answers -/
theorem rbin_K {op : Operator} {i : Int} {ti : Tok} {id : String} {Q : Value → Shared → Prop} (X : K.In s.heap) (I : InstAt s.heap x ox C od) (hc : selfFirst K C = true)
    (hs : findIn K (.ref C) (PySem.dunder op.info.2) = some (some (.ref f'))) (hr : findIn K (.ref C) (dunderR op.info.2) = some (some (.ref f))) (hf : isFn K (.ref f) = true)
    (fillsT : fillsNumberSlot (.type "int") op.info.2 = pure true) (hsub : subIn K (.ref C) (.type "int") = some false)
    (slot : Slot "int" (PySem.dunder op.info.2) id)
    (declines : ∀ Q' : Value → Shared → Prop, Q' .notImplemented s → wpAny (model prog w) A (call (.builtin id) [.int i ti, .ref x]) Q' E s)
    (h : wpAny (model prog w) A (call (.ref f) [.ref x, .int i ti]) (PySem.W.CmpBack Q) E s) : wpAny (model prog w) A (binaryOp op (.int i ti) (.ref x)) Q E s := by
  obtain ⟨cd, rest, hcd, hm⟩ := ksp_first hc
  rcases hi : op.info with ⟨sym, nm'⟩
  rw [hi] at hs hr fillsT slot
  dsimp only at hs hr fillsT slot
  have one := ksp_try X I hr hf h
  have two : wpAny (model prog w) A (tryMethod (.int i ti) (PySem.dunder nm') (.ref x)) (fun r s' => r = none ∧ s' = s) E s :=
    wpAny_tryMethod_declines (typeIs_int s i ti) slot (declines _ ⟨rfl, rfl, rfl⟩)
  obtain ⟨hh, g, d, tt, os⟩ := s
  have L1 : Looks (model prog w) hh (typeOf (.ref x)) (.ref C) := I.type
  have L2 : Looks (model prog w) hh (typeOf (.int i ti)) (.type "int") := Looks.of_pure rfl
  have L3 : Looks (model prog w) hh (fillsNumberSlot (.ref C) nm') true := fills_K X hcd hm hs
  have L4 : Looks (model prog w) hh (fillsNumberSlot (.type "int") nm') true := Looks.of_pure fillsT
  have L5 : Looks (model prog w) hh (isSubtype (.ref C) (.type "int")) false := looks_subIn X hsub
  have L7 : Looks (model prog w) hh (numberSlotInPython (.type "int") nm') false := Looks.of_pure rfl
  have hne : (Value.type "int" == Value.ref C) = false := Bool.eq_false_iff.mpr fun q => by cases beq_iff_eq.mp q
  simp only [binaryOp, hi]
  refine wpAny_holding (wpAny_bind ?_)
  unfold binaryOp1
  refine wpAny_bind (L2.at (wpAny_bind (L1.at (wpAny_bind (L4.at ?_)))))
  simp only [hne, Bool.false_eq_true, if_false]
  ksp_lk
  refine wpAny_mono two (fun r s' hr' => ?_) fun _ _ e => e
  obtain ⟨rfl, rfl⟩ := hr'
  ksp_lk
  refine wpAny_mono one (fun r s' hr' => ?_) fun _ _ e => e
  obtain ⟨v, rfl, hq⟩ := hr'
  ksp_lk
  exact hq
end

section
variable {prog : Program} {w : World} {A : Around} {E : Value → Shared → Prop} {s : Shared} {K : PySem.W.Frag} {x C L f : Addr} {h₀ : Heap} {m : Str → Option Value} {ox : Obj} {od : Option Obj} {b : Value}
open PySem.W PySem.Calls
theorem int_add_declines {hh : Heap} {g : Array GenState} {d : Drawn} {tk : Nat} {os : OsState} {i : Int} {t : Tok} {c : Value} {dd : Option Addr} {sl : Array (Option Value)} {R : Fin → Shared → Prop}
    (hx : hh.get? x = some ⟨c, dd, .plain, sl⟩) (h : R (.done (.ret .notImplemented)) ⟨hh, g, d, tk, os⟩) :
    wpAny (model prog w) A (Builtin.«int.__add__» ⟨[.int i t, .ref x], []⟩) R E ⟨hh, g, d, tk, os⟩ := by
  wp_walk using AutoSeq1.wpAny_loadPart' hx
  exact h
end

section
variable {prog : Program} {w : World} {A : Around} {E : Value → Shared → Prop} {s : Shared} {K : PySem.W.Frag} {x C L f : Addr} {h₀ : Heap} {m : Str → Option Value} {ox : Obj} {od : Option Obj} {b tb : Value}
open PySem.W PySem.Calls
/-- own != b: the class has its own __eq__ and object's __ne__ -/
theorem ne_K {Q : Value → Shared → Prop} (hu : A.units + 1 < cLine) (X : K.In s.heap) (I : InstAt s.heap x ox C od) (hb : Looks (model prog w) s.heap (typeOf b) tb) (hn : notFirst K C tb = true)
    (hs : findIn K (.ref C) "__eq__" = some (some (.ref f))) (hf : isFn K (.ref f) = true) (hno : findIn K (.ref C) "__ne__" = some (some (.builtin "object.__ne__"))) (hob : subIn K (.ref C) (.type "object") = some true)
    (h : wpAny (model prog w) A.in1 (call (.ref f) [.ref x, b]) (fun v s' => ∃ r, v = .bool r ∧ Q (.bool (!r)) s') E s) : wpAny (model prog w) A (richCompare .NotEq (.ref x) b) Q E s := by
  have body : wpAny (model prog w) A.in1 (Builtin.«object.__ne__» ⟨[.ref x, b], []⟩) (fun fin s' => match fin with
      | .done f => (match f with | .ret v => ∃ r, v = .bool r ∧ Q (.bool r) s' | _ => False)
      | .again c' => False) E s := by
    unfold Builtin.«object.__ne__»
    repeat (first
      | with_reducible refine wpAny_cRoomFor (show A.in1.units < cLine from hu) ?_
      | (refine wpAny_bind (m := callSpecialIfBound? (.ref x) (Str.ofString "__eq__") [b])
          (PySem.W.ifBound_K X I hs hf (wpAny_mono h (fun r s' hr => by
            obtain ⟨r, rfl, hq⟩ := hr
            repeat (first | exact ⟨_, rfl, hq⟩ | exact wpAny_pure ⟨_, rfl, hq⟩ | exact wpAny_truthy_bool ⟨_, rfl, hq⟩ | (refine wpAny_bind (m := truthy (.bool _)) (wpAny_truthy_bool ?_)) | wp_step)) fun _ _ e => e)))
      | wp_step)
  have chk : ∀ Q' : Unit → Shared → Prop, Q' () s → wpAny (model prog w) A.in1 (checkBuiltinCall "object.__ne__" ⟨[.ref x, b], []⟩) Q' E s := fun Q' q => by
    have ha := PySem.F.cmpArgs_ne (.ref x) b
    simp only [checkBuiltinCall, PySem.F.cmpKind_ne, PySem.F.cmpSplit_ne]
    refine wpAny_bind ?_
    unfold isInstance
    refine wpAny_bind (I.type.here ((looks_subIn X hob).here ?_))
    exact wpAny_pure q
  have one : wpAny (model prog w) A (tryCompare (.ref x) "__ne__" b) (fun r s' => ∃ v, r = some v ∧ Q v s') E s := by
    unfold tryCompare
    refine wpAny_bind ?_
    simp only [callSpecialIfBound?, bindSpecialIfBound?]
    refine wpAny_holding (wpAny_bind (wpAny_bind (wpAny_bind (I.type.here ((looks_findIn X hno).here ?_)))))
    have bd : ∀ self, bindSpecial (.builtin "object.__ne__") self = pure (.builtin "object.__ne__", [self]) := PySem.F.cmp_object.ne.bind
    refine wpAny_bind (wpAny_askSetting (wpAny_ite ?_))
    have fin : ∀ R : Option Value → Shared → Prop, (∀ r s', Q (.bool r) s' → R (some (.bool r)) s') → wpAny (model prog w) A (call (.builtin "object.__ne__") ([.ref x] ++ [b]) >>= fun v => pure (some v)) R E s := by
      intro R hR
      refine wpAny_bind (wpAny_call (codeAny_call_builtin PySem.F.cmp_object.ne.plain PySem.F.cmpEntry_ne (chk _ (wpAny_mono body (fun fin s' q => ?_) fun _ _ e => e))))
      cases fin with
      | done f =>
        cases f with
        | ret v =>
          obtain ⟨r, rfl, q⟩ := q
          exact wpAny_pure (hR _ _ q)
        | next => exact q.elim
        | brk => exact q.elim
        | cont => exact q.elim
      | again c => exact q.elim
    split
    · exact wpAny_bind (by rw [bd]; exact wpAny_pure (wpAny_pure (fin _ fun r s' q => wpAny_pure ⟨_, rfl, q⟩)))
    · exact wpAny_tryCatch (wpAny_bind (by rw [bd]; exact wpAny_pure (wpAny_pure (fin _ fun r s' q => wpAny_pure ⟨_, rfl, q⟩))))
  unfold richCompare
  simp only [oneThing_ref]
  refine wpAny_holding (wpAny_bind (wpAny_cRoomFor (Nat.lt_of_succ_lt hu) ?_))
  refine wpAny_bind (I.type.here (wpAny_bind (hb.here ?_)))
  split
  · rename_i q
    have e : subIn K tb (.ref C) = some false := by
      rcases Bool.or_eq_true_iff.mp hn with e | e
      · rw [beq_iff_eq.mp e] at q; simp at q
      · exact beq_iff_eq.mp e
    refine wpAny_bind ((looks_subIn X e).here ?_)
    simp only [Bool.false_eq_true, if_false]
    refine wpAny_bind (wpAny_mono one (fun r s' z => ?_) fun _ _ e => e)
    obtain ⟨v, rfl, hq⟩ := z
    exact wpAny_pure hq
  · refine wpAny_bind (wpAny_pure ?_)
    simp only [Bool.false_eq_true, if_false]
    refine wpAny_bind (wpAny_mono one (fun r s' z => ?_) fun _ _ e => e)
    obtain ⟨v, rfl, hq⟩ := z
    exact wpAny_pure hq
end

section
variable {X : Cx} {CX : CXT} {pins : List (Addr × Obj)} {σ : L2.St} {H : Hp} {s : Shared} {C : Addr} {ps : List Str} {n j : Nat} {sp : Sp} {E : XK}
/-- a callee runs one call in -/
theorem run_in1 {f : Addr} {fd : FuncData} {Q : VK} {us : List Value} {vs : List V} (F : FnOk X.prog X.w X.K X.mg X.base CX n f fd ps sp) (hr : Room (n + 1) X.A) (hb : Binds X.K fd ps []) (hx : Passes CX X E)
    (I : Inv X pins σ H s) (r : Vals vs us) (h : sp vs H Q E) : wpAny (model X.prog X.w) X.A.in1 (call (.ref f) us) (EP X pins σ Q) X.xe s := by
  have hl : (us ++ []).length = ps.length := by rw [List.append_nil, ← r.length]; exact F.len _ _ _ _ h
  have hb' := hb s us I.kIn hl
  rw [List.append_nil] at hb'
  refine wpAny_call (codeAny_mono (F.run X.A.in1 X.stack s H ⟨us, []⟩ us vs Q E hr.in1 I.env0.in1 hb' r h) fun r s' hq => ?_)
  cases r with
  | error e => exact hx pins σ H s e s' I hq
  | ok fl =>
    cases fl with
    | ret u => exact I.after hq
    | next => exact False.elim hq
    | brk => exact False.elim hq
    | cont => exact False.elim hq
/-- x op y, x an instance of the class at C -/
def rOwnC (K : PySem.W.Frag) (C : Addr) (sp : Sp) (E : XK) : R2 := fun x y H Q => ∃ a dx fs t, x = .ref a ∧ H a = some (.ins C dx fs) ∧ TyX K H y t ∧ PySem.W.notFirst K C t = true ∧ sp [x, y] H Q E
/-- x != y by the own == -/
def rOwnNe (K : PySem.W.Frag) (C : Addr) (sp : Sp) (E : XK) : R2 := fun x y H Q => ∃ a dx fs t, x = .ref a ∧ H a = some (.ins C dx fs) ∧ TyX K H y t ∧ PySem.W.notFirst K C t = true ∧ sp [x, y] H (fun z H' => ∃ r, z = .bl r ∧ Q (.bl (!r)) H') E
theorem op_cmpC {op : CmpOp} (M : Mt X.prog X.w X.K X.mg X.base C (cmpInfo op).2.1 ps CX n sp) (hr : Room j X.A) (hx : Passes CX X E) (hop : ∀ a b, compareOp op a b = richCompare op a b := by intro _ _; rfl) (hk : n ≤ j := by decide) :
    OpR X (compareOp op) (rOwnC X.K C sp E) := by
  intro pins s σ H x y v u Q I rx ry h
  obtain ⟨g, fd, hm, hb, F⟩ := M
  obtain ⟨a, dx, fs, t, rfl, ha, ty, hn, q⟩ := h
  cases (show v = Value.ref a from rx)
  obtain ⟨mA, O, _⟩ := ins_get I.hok ha
  obtain ⟨od, J, _⟩ := O.look
  obtain ⟨m, hF⟩ := I.fr
  obtain ⟨P, Z, hP, _⟩ := kit_of I ry ty
  rw [hop]
  refine PySem.W.cmp_K (op := op) (tb := t) hr.units0 hF I.ok.mod.kin J (Z.ty _ _ I.kIn hP) hn hm.at_ hm.fn ?_
  refine wpAny_mono (run_fn (us := [.ref a, u]) (vs := [.ref a, y]) F (hr.mono hk) hb .nil hx I (.cons rfl (.cons ry .nil)) q) (fun w s' z => ?_) fun _ _ x => x
  obtain ⟨z', H', I', rz, qz⟩ := z
  exact SlX.cmpback rz ⟨z', H', I', rz, qz⟩
theorem op_neC (M : Mt X.prog X.w X.K X.mg X.base C "__eq__" ps CX n sp) (hno : PySem.W.findIn X.K (.ref C) "__ne__" = some (some (.builtin "object.__ne__"))) (hob : PySem.W.subIn X.K (.ref C) (.type "object") = some true)
    (hr : Room j X.A) (hx : Passes CX X E) (hk : n + 1 ≤ j := by decide) : OpR X (compareOp .NotEq) (rOwnNe X.K C sp E) := by
  intro pins s σ H x y v u Q I rx ry h
  obtain ⟨g, fd, hm, hb, F⟩ := M
  obtain ⟨a, dx, fs, t, rfl, ha, ty, hn, q⟩ := h
  cases (show v = Value.ref a from rx)
  obtain ⟨mA, O, _⟩ := ins_get I.hok ha
  obtain ⟨od, J, _⟩ := O.look
  obtain ⟨P, Z, hP, _⟩ := kit_of I ry ty
  show wpAny _ _ (richCompare .NotEq (.ref a) u) _ _ _
  refine ne_K (tb := t) (hu_of hr) I.kIn J (Z.ty _ _ I.kIn hP) hn hm.at_ hm.fn hno hob ?_
  refine wpAny_mono (run_in1 (us := [.ref a, u]) (vs := [.ref a, y]) F (hr.mono hk) hb hx I (.cons rfl (.cons ry .nil)) q) (fun w s' z => ?_) fun _ _ x => x
  obtain ⟨z', H', I', rz, r, rfl, qz⟩ := z
  cases (show w = Value.bool r from rz)
  exact ⟨r, rfl, .bl (!r), H', I', rfl, qz⟩
/-- x op y, both instances of the class at C -/
def rBinS (C : Addr) (sp : Sp) (E : XK) : R2 := fun x y H Q => ∃ a dx fs b dy gs, x = .ref a ∧ y = .ref b ∧ H a = some (.ins C dx fs) ∧ H b = some (.ins C dy gs) ∧ sp [x, y] H Q E
theorem op_binS {op : Operator} (M : Mt X.prog X.w X.K X.mg X.base C (PySem.dunder op.info.2) ps CX n sp) (hsf : PySem.W.selfFirst X.K C = true) (hr : Room j X.A) (hx : Passes CX X E) (hk : n ≤ j := by decide) :
    OpR X (binaryOp op) (rBinS C sp E) := by
  intro pins s σ H x y v u Q I rx ry h
  obtain ⟨g, fd, hm, hb, F⟩ := M
  obtain ⟨a, dx, fs, b, dy, gs, rfl, rfl, ha, hb', q⟩ := h
  cases (show v = Value.ref a from rx)
  cases (show u = Value.ref b from ry)
  obtain ⟨mA, O, _⟩ := ins_get I.hok ha
  obtain ⟨od, J, _⟩ := O.look
  obtain ⟨mB, O', _⟩ := ins_get I.hok hb'
  obtain ⟨od', J', _⟩ := O'.look
  obtain ⟨m, hF⟩ := I.fr
  refine PySem.W.binop_K (op := op) hF I.ok.mod.kin J J'.type hsf hm.at_ hm.fn ?_
  refine wpAny_mono (run_fn (us := [.ref a, .ref b]) (vs := [.ref a, .ref b]) F (hr.mono hk) hb .nil hx I (.cons rfl (.cons rfl .nil)) q) (fun w s' z => ?_) fun _ _ x => x
  obtain ⟨z', H', I', rz, qz⟩ := z
  exact SlX.cmpback rz ⟨z', H', I', rz, qz⟩
/-- x op i, x an instance of the class at C, i an int -/
def rBinI (C : Addr) (sp : Sp) (E : XK) : R2 := fun x y H Q => ∃ a dx fs i, x = .ref a ∧ y = .int i ∧ H a = some (.ins C dx fs) ∧ sp [x, y] H Q E
theorem op_binI {op : Operator} {fo ro : Option Value} {gr : Addr} (M : Mt X.prog X.w X.K X.mg X.base C (PySem.dunder op.info.2) ps CX n sp) (hsf : PySem.W.selfFirst X.K C = true)
    (hrr : PySem.W.findIn X.K (.ref C) (dunderR op.info.2) = some (some (.ref gr))) (h1 : PySem.W.findIn X.K (.type "int") (PySem.dunder op.info.2) = some fo) (h2 : PySem.W.findIn X.K (.type "int") (dunderR op.info.2) = some ro)
    (hsub : PySem.W.subIn X.K (.type "int") (.ref C) = some false) (hr : Room j X.A) (hx : Passes CX X E) (hk : n ≤ j := by decide) : OpR X (binaryOp op) (rBinI C sp E) := by
  intro pins s σ H x y v u Q I rx ry h
  obtain ⟨g, fd, hm, hb, F⟩ := M
  obtain ⟨a, dx, fs, i, rfl, rfl, ha, q⟩ := h
  cases (show v = Value.ref a from rx)
  obtain ⟨t, rfl⟩ := (show ∃ t, u = Value.int i t from ry)
  obtain ⟨mA, O, _⟩ := ins_get I.hok ha
  obtain ⟨od, J, _⟩ := O.look
  obtain ⟨m, hF⟩ := I.fr
  refine PySem.W.ksp_binT (op := op) (T := "int") hF I.ok.mod.kin J rfl hsf hm.at_ hm.fn hrr (.inr ⟨_, rfl⟩) h1 h2 hsub ?_
  refine wpAny_mono (run_fn (us := [.ref a, .int i t]) (vs := [.ref a, .int i]) F (hr.mono hk) hb .nil hx I (.cons rfl (.cons ⟨t, rfl⟩ .nil)) q) (fun w s' z => ?_) fun _ _ x => x
  obtain ⟨z', H', I', rz, qz⟩ := z
  exact SlX.cmpback rz ⟨z', H', I', rz, qz⟩
/-- i + x, x an instance of the class at C, i an int -/
def rBinR (C : Addr) (sp : Sp) (E : XK) : R2 := fun x y H Q => ∃ a dx fs i, x = .int i ∧ y = .ref a ∧ H a = some (.ins C dx fs) ∧ sp [y, x] H Q E
theorem op_radd {ga : Addr} (M : Mt X.prog X.w X.K X.mg X.base C "__radd__" ps CX n sp) (hsf : PySem.W.selfFirst X.K C = true)
    (ha' : PySem.W.findIn X.K (.ref C) "__add__" = some (some (.ref ga))) (hsub : PySem.W.subIn X.K (.ref C) (.type "int") = some false) (hr : Room j X.A) (hx : Passes CX X E) (hk : n ≤ j := by decide) : OpR X (binaryOp .Add) (rBinR C sp E) := by
  intro pins s σ H x y v u Q I rx ry h
  obtain ⟨g, fd, hm, hb, F⟩ := M
  obtain ⟨a, dx, fs, i, rfl, rfl, ha, q⟩ := h
  cases (show u = Value.ref a from ry)
  obtain ⟨t, rfl⟩ := (show ∃ t, v = Value.int i t from rx)
  obtain ⟨mA, O, _⟩ := ins_get I.hok ha
  have hobj := O.obj
  obtain ⟨od, J, _⟩ := O.look
  refine rbin_K (op := .Add) (f' := ga) I.kIn J hsf ha' hm.at_ hm.fn PySem.F.fills_int_add hsub PySem.F.slot_int_add (fun Q' q' => ?_) ?_
  · refine wpAny_call (codeAny_call_builtin PySem.F.slot_int_add.plain PySem.F.entry_int_add (PySem.F.slot_int_add.check _ _ _ _ _ _ _ _ (typeIs_int _ _ _) (PySem.F.args_int_add_2 _ _) ?_))
    obtain ⟨hh, gg, dd, tk, os⟩ := s
    exact int_add_declines hobj q'
  · refine wpAny_mono (run_fn (us := [.ref a, .int i t]) (vs := [.ref a, .int i]) F (hr.mono hk) hb .nil hx I (.cons rfl (.cons ⟨t, rfl⟩ .nil)) q) (fun w s' z => ?_) fun _ _ x => x
    obtain ⟨z', H', I', rz, qz⟩ := z
    exact SlX.cmpback rz ⟨z', H', I', rz, qz⟩
end
end Ag
namespace Ag
open PySem PySem.Spec PyProof.Rows L2

/-! ### a property -/
def Pr (P : Program) (w : World) (K : PySem.W.Frag) (mg : Str → Option Value) (base : Heap) (C : Addr) (f : Str) (ps : List Str) (CX : CXT) (k : Nat) (sp : Sp) : Prop :=
  ∃ p g fd, PropOf K C f p g ∧ Binds K fd ps [] ∧ FnOk P w K mg base CX k g fd ps sp
section
variable {X : Cx} {CX : CXT} {k j : Nat} {C : Addr} {ps : List Str} {sp : Sp} {E : XK} {f : Str} {pos : Pos} {e : Expr} {ta : TE}
theorem pe_pr (c : Cls X.K C) (M : Pr X.prog X.w X.K X.mg X.base C f ps CX k sp) (hr : Room j X.A) (hx : Passes CX X.nox E) (he : PE X e ta) (hk : k + 1 ≤ j := by decide)
    (hab : attributeBase e f X.env (eval e X.env) = eval e X.env := by rfl) : PE X (.Attribute e f pos) (tProp C sp [] E ta) := by
  obtain ⟨p, g, fd, h, b, F⟩ := M
  exact pe_prop he c h F (hr.mono hk) b .nil hx hab
end

theorem pe_ty {X : Cx} {x : Str} {pos : Pos} (T : String) (hg : Gl X x) (hm : X.mg x = none) (hv : bootBuiltins x = some (.type T)) (hn : x ≠ "__name__" := by decide) (hd : (x == ("__debug__" : Str)) = false := by decide) : PE X (.Name x pos) (tC (.ty T)) :=
  pe_bltn hg hm hv rfl hn hd
theorem pe_gi {X : Cx} {x : Str} {pos : Pos} {i : Int} {t : Tok} (hm : X.mg x = some (.int i t)) (hg : Gl X x := by rfl) (hd : (x == ("__debug__" : Str)) = false := by decide) : PE X (.Name x pos) (tC (.int i)) := pe_glob hg hm ⟨t, rfl⟩ hd
theorem pe_gc {X : Cx} {x : Str} {pos : Pos} {C : Addr} (hm : X.mg x = some (.ref C)) (hg : Gl X x := by rfl) (hd : (x == ("__debug__" : Str)) = false := by decide) : PE X (.Name x pos) (tC (.ref C)) := pe_glob hg hm rfl hd
theorem kit_self (K : PySem.W.Frag) (C : Addr) : PySem.W.kitOne K (.ref C) (.ref C) = some true := by
  unfold PySem.W.kitOne
  rw [if_pos (by simp)]
theorem kit_own {K : PySem.W.Frag} {t : Value} {C : Addr} {b : Bool} (hc : PySem.W.isClsIn K C = true) (ht : PySem.W.typeIn K (.ref C) = some (.type "type")) (hs : PySem.W.subIn K t (.ref C) = some b) (hne : (t == Value.ref C) = false) : PySem.W.kitOne K t (.ref C) = some b := by
  have h1 : (PySem.W.clsIn K C).isSome = true := hc
  unfold PySem.W.kitOne
  rw [if_neg (by rw [hne]; exact Bool.false_ne_true)]
  show (if ((PySem.W.clsIn K C).isSome && PySem.W.typeIn K (.ref C) == some (.type "type")) = true then PySem.W.subIn K t (.ref C) else none) = some b
  rw [h1, ht, if_pos (by rfl)]
  exact hs
/-! ### the builtins that are used -/
structure Bl (mg : Str → Option Value) : Prop where
  isinstance_ : mg "isinstance" = none
  int_ : mg "int" = none
  bool_ : mg "bool" = none
  len_ : mg "len" = none
  abs_ : mg "abs" = none
  max_ : mg "max" = none
  min_ : mg "min" = none
  range_ : mg "range" = none

/-! ### heaps -/
theorem same_upd {H : Hp} {p : Addr} {o : HO} (h : H p = none) : Same H (upd H p o) := fun b x e => by
  rw [upd_ne (ne_of_none e h)]
  exact e
/-- all but p is kept -/
def Kp (p : Addr) (H H' : Hp) : Prop := ∀ b o, b ≠ p → H b = some o → H' b = some o
theorem Kp.refl {p : Addr} {H : Hp} : Kp p H H := fun _ _ _ h => h
theorem Kp.trans {p : Addr} {H H1 H2 : Hp} (a : Kp p H H1) (b : Kp p H1 H2) : Kp p H H2 := fun c o n h => b c o n (a c o n h)
theorem Kp.same {p : Addr} {H H' : Hp} (a : Same H H') : Kp p H H' := fun c o _ h => a c o h
theorem lookup_one (f : Str) (v : V) : List.lookup f [(f, v)] = some v := by simp [List.lookup]

theorem lookup_no {f g : Str} {v : V} (h : ¬ g = f) : List.lookup g [(f, v)] = none := by
  have e : (g == f) = false := by simpa using h
  simp [List.lookup, e]
/-! ### ints -/
/-- what is_whole says no to -/
def NoInt (K : PySem.W.Frag) (H : Hp) (x : V) : Prop := (∃ b, x = .bl b) ∨ ∃ t, TyX K H x t ∧ PySem.W.kitOne K t (.type "int") = some false

def spWhole (K : PySem.W.Frag) : Sp := fun vs H Q _ => (∃ i, vs = [.int i] ∧ Q (.bl true) H) ∨ (∃ x, vs = [x] ∧ NoInt K H x ∧ Q (.bl false) H)
def spBetween (K : PySem.W.Frag) : Sp := fun vs H Q _ => (∃ i lo hi : Int, vs = [.int i, .int lo, .int hi] ∧ Q (.bl (decide (lo ≤ i ∧ i ≤ hi))) H) ∨ (∃ x y z, vs = [x, y, z] ∧ NoInt K H x ∧ Q (.bl false) H)

/-! ### the law's own draws -/
def Src (H : Hp) (p : Addr) : Prop := ∃ n s : Int, H p = some (.lst [.int n, .int s]) ∧ 0 ≤ n ∧ 0 ≤ s ∧ s < 2147483647
def spSource (K : PySem.W.Frag) : Sp := fun vs H Q _ => ∃ (a : Addr) (ns : List Int) (t : Int), vs = [.ref a, .int t] ∧ SqL K H a (ns.map V.int) ∧ ns.length ≤ 63 ∧ 0 ≤ t ∧ t ≤ 1000 ∧
  ∀ p H', H p = none → Same H H' → Src H' p → Q (.ref p) H'
def spDraw : Sp := fun vs H Q _ => ∃ (p : Addr) (m : Int), vs = [.ref p, .int m] ∧ Src H p ∧ 0 < m ∧ m ≤ 10 ^ 40 ∧ ∀ r H', 0 ≤ r → r < m → Src H' p → Kp p H H' → Q (.int r) H'
def spPick (K : PySem.W.Frag) : Sp := fun vs H Q _ => ∃ (p l : Addr) (xs : List V), vs = [.ref p, .ref l] ∧ Src H p ∧ SqL K H l xs ∧ l ≠ p ∧ xs ≠ [] ∧ xs.length ≤ 1000 ∧ ∀ (i : Nat) x H', xs[i]? = some x → Src H' p → Kp p H H' → Q x H'
theorem pow40 {m : Int} (h0 : 0 < m) (h : m ≤ 10 ^ 40) : CDivW n m := by
  refine wide_div (b := 140) h0 ?_ (by decide) (by decide)
  have e : (10 : Int) ^ 40 < 2 ^ 140 := by decide
  have : (m.natAbs : Int) < ((2 ^ 140 : Nat) : Int) := by
    rw [Int.natAbs_of_nonneg (by omega)]
    exact Int.lt_of_le_of_lt h (by exact_mod_cast e)
  exact_mod_cast this
end Ag
namespace Ag
open PySem PySem.Spec PyProof.Rows L2 Evl

/-! ### readings that leave what is known: te gives some v of which φ holds -/
def EvP (te : TE) (σ : L2.St) (H : Hp) (φ : V → Hp → Prop) : Prop := ∀ H1, Ex H H1 → ∀ Q : VK, (∀ v H2, Ex H1 H2 → φ v H2 → Q v H2) → te σ H1 Q
def EvPs (ta : TA) (σ : L2.St) (H : Hp) (φ : List V → Hp → Prop) : Prop := ∀ H1, Ex H H1 → ∀ Q : List V → Hp → Prop, (∀ vs H2, Ex H1 H2 → φ vs H2 → Q vs H2) → ta σ H1 Q
def MonP (φ : V → Hp → Prop) : Prop := ∀ v H H', Ex H H' → φ v H → φ v H'
section
variable {K : PySem.W.Frag} {σ : L2.St} {H H' : Hp} {ta tb te : TE} {tas : TA} {φ ψ : V → Hp → Prop} {v x y z : V} {r : R2}
theorem EvP.mono (e : Ex H H') (h : EvP te σ H φ) : EvP te σ H' φ := fun H1 a Q q => h H1 (e.trans a) Q q
theorem EvP.imp (h : EvP te σ H φ) (hi : ∀ v H2, Ex H H2 → φ v H2 → ψ v H2) : EvP te σ H ψ := fun H1 e Q q => h H1 e Q fun v H2 e2 p => q v H2 e2 (hi v H2 (e.trans e2) p)
theorem ev_p (h : Ev te σ H v) : EvP te σ H (fun u _ => u = v) := fun H1 e Q q => h H1 e Q fun H2 e2 => q v H2 e2 rfl
theorem evp_v (h : EvP te σ H (fun u _ => u = v)) : Ev te σ H v := fun H1 e Q q => h H1 e Q fun u H2 e2 p => by rw [p]; exact q H2 e2
theorem evp_var {i : Nat} (h : σ[i]? = some (some v)) (hm : ∀ H', Ex H H' → φ v H') : EvP (tVar i) σ H φ := fun H1 e _ q => ⟨v, h, q v H1 (Ex.refl H1) (hm H1 e)⟩
/-! ### data -/
mutual
theorem Dp.ex {K : PySem.W.Frag} {H H' : Hp} (e : Ex H H') : ∀ {v : V} {d : PyData}, Dp K H v d → Dp K H' v d
  | _, _, .non => .non
  | _, _, .bl b => .bl b
  | _, _, .int i => .int i
  | _, _, .str x => .str x
  | _, _, .lst h a => .lst (ex_l e h) (DpAll.ex e a)
  | _, _, .tup h a => .tup (ex_t e h) (DpAll.ex e a)
theorem DpAll.ex {K : PySem.W.Frag} {H H' : Hp} (e : Ex H H') : ∀ {vs : List V} {ds : List PyData}, DpAll K H vs ds → DpAll K H' vs ds
  | _, _, .nil => .nil
  | _, _, .cons a b => .cons (Dp.ex e a) (DpAll.ex e b)
end
theorem DpAll.len {K : PySem.W.Frag} {H : Hp} : ∀ {vs : List V} {ds : List PyData}, DpAll K H vs ds → vs.length = ds.length
  | _, _, .nil => rfl
  | _, _, .cons _ b => congrArg (· + 1) (DpAll.len b)
/-- te gives the data d -/
def EvD (K : PySem.W.Frag) (te : TE) (σ : L2.St) (H : Hp) (d : PyData) : Prop := EvP te σ H (fun v H2 => Dp K H2 v d)
def EvDs (K : PySem.W.Frag) (ta : TA) (σ : L2.St) (H : Hp) (ds : List PyData) : Prop := EvPs ta σ H (fun vs H2 => DpAll K H2 vs ds)
theorem ed_int {i : Int} (h : Ev te σ H (.int i)) : EvD K te σ H (.int i) := fun H1 e Q q => h H1 e Q fun H2 e2 => q _ H2 e2 (.int i)
theorem ed_bl {b : Bool} (h : Ev te σ H (.bl b)) : EvD K te σ H (.bool b) := fun H1 e Q q => h H1 e Q fun H2 e2 => q _ H2 e2 (.bl b)
theorem ed_str {s : Str} (h : Ev te σ H (.str s)) : EvD K te σ H (.str s) := fun H1 e Q q => h H1 e Q fun H2 e2 => q _ H2 e2 (.str s)
theorem ed_non (h : Ev te σ H .non) : EvD K te σ H .none := fun H1 e Q q => h H1 e Q fun H2 e2 => q _ H2 e2 .non
theorem ed_var {i : Nat} {d : PyData} (h : σ[i]? = some (some v)) (hd : Dp K H v d) : EvD K (tVar i) σ H d := evp_var h fun _ e => Dp.ex e hd
theorem eds_nil : EvDs K tNil σ H [] := fun H1 _ _ q => q [] H1 (Ex.refl H1) .nil
theorem eds_cons {d : PyData} {ds : List PyData} (h : EvD K te σ H d) (hs : EvDs K tas σ H ds) : EvDs K (tCons te tas) σ H (d :: ds) := fun H1 e _ q =>
  h H1 e _ fun v H2 e2 p => hs H2 (e.trans e2) _ fun vs H3 e3 ps => q _ H3 (e2.trans e3) (.cons (Dp.ex e3 p) ps)
theorem ed_lst {ds : List PyData} (h : EvDs K tas σ H ds) (hl : Nat.ble ds.length 100000 = true := by rfl) : EvD K (tLst tas) σ H (.list ds) := fun H1 e _ q =>
  h H1 e _ fun vs H2 e2 p => ⟨sz_of (by rw [DpAll.len p]; exact Nat.le_of_ble_eq_true hl), fun l hl' => q _ _ (e2.trans (Ex.new hl')) (.lst (sq_of upd_same) (DpAll.ex (Ex.new hl') p))⟩
theorem ed_tup {ds : List PyData} (h : EvDs K tas σ H ds) (hl : Nat.ble ds.length 100000 = true := by rfl) : EvD K (tTup tas) σ H (.tuple ds) := fun H1 e _ q =>
  h H1 e _ fun vs H2 e2 p => ⟨sz_of (by rw [DpAll.len p]; exact Nat.le_of_ble_eq_true hl), fun l hl' => q _ _ (e2.trans (Ex.new hl')) (.tup (st_of upd_same) (DpAll.ex (Ex.new hl') p))⟩
theorem ev_neD {d d' : PyData} (h1 : EvD K ta σ H d) (h2 : EvD K tb σ H d') (s1 : SeqAt.shaped d = true) (s2 : SeqAt.shaped d' = true) : Ev (tOp (rNeD K) ta tb) σ H (.bl (!PyData.eqv d d')) := fun H1 e Q q =>
  h1 H1 e _ fun v H2 e2 p => h2 H2 (e.trans e2) _ fun v' H3 e3 p' => ⟨d, d', (Dp.ex e3 p), p', s1, s2, q H3 (e2.trans e3)⟩
theorem ev_eqD {d d' : PyData} (h1 : EvD K ta σ H d) (h2 : EvD K tb σ H d') (s1 : SeqAt.shaped d = true) (s2 : SeqAt.shaped d' = true) : Ev (tOp (rEqD K) ta tb) σ H (.bl (PyData.eqv d d')) := fun H1 e Q q =>
  h1 H1 e _ fun v H2 e2 p => h2 H2 (e.trans e2) _ fun v' H3 e3 p' => ⟨d, d', (Dp.ex e3 p), p', s1, s2, q H3 (e2.trans e3)⟩
/-- two things with the same data -/
theorem ev_neS {d : PyData} (h1 : EvD K ta σ H d) (h2 : EvD K tb σ H d) (s1 : SeqAt.shaped d = true) : Ev (tOp (rNeD K) ta tb) σ H (.bl false) := by
  have h := ev_neD h1 h2 s1 s1
  rw [SeqAt.eqv_refl d (SeqAt.canLay_of_shaped s1)] at h
  exact h
/-! ### isinstance, int(..) -/
theorem tyx_ex {t : Value} (e : Ex H H') (h : TyX K H x t) : TyX K H' x t := by
  cases h with
  | base h =>
    refine .base ?_
    cases h with
    | non => exact .non
    | bl b => exact .bl b
    | int i => exact .int i
    | str s => exact .str s
    | flt s => exact .flt s
    | lst h => exact .lst (e _ _ h)
    | frz h => exact .frz (e _ _ h)
    | tup h => exact .tup (e _ _ h)
    | dK h => exact .dK (e _ _ h)
    | dT h => exact .dT (e _ _ h)
    | ins h a b c d f => exact .ins (e _ _ h) a b c d f
  | byt b => exact .byt b
  | set h => exact .set (e _ _ h)
  | kList h c => exact .kList h c
  | kTuple h c => exact .kTuple h c
  | kDict h c => exact .kDict h c
  | fTuple h => exact .fTuple (e _ _ h)
  | fDict h => exact .fDict (e _ _ h)
theorem ev_isi {u t : Value} {b : Bool} (ha : EvP ta σ H (fun x H2 => TyX K H2 x t)) (hb : Ev tb σ H y) (hc : ClsV y u) (hk : PySem.W.kitOne K t u = some b) : Ev (tCB (rIsi K) (tCons ta (tCons tb tNil))) σ H (.bl b) := fun H1 e Q q =>
  ha H1 e _ fun x H2 e2 p => hb H2 (e.trans e2) (fun z H3 => rIsi K [x, z] H3 Q) fun H3 e3 => ⟨x, y, t, u, b, rfl, hc, tyx_ex e3 p, hk, q H3 (e2.trans e3)⟩
end
/-! ### statements, one by one -/
section
variable {σ : L2.St} {H : Hp} {ta tb te : TE} {t : TT} {tu tw u : TS} {D : Ends} {φ ψ : V → Hp → Prop} {b : Bool}
theorem q_ifF (h : EvT t σ H b) (e : b = false) (q : ∀ H1, Ex H H1 → u D σ H1) : tSeq (tIfS t tu tNext) u D σ H := by
  subst e
  exact s_if (D := { D with nx := u D }) h (fun z => nomatch z) fun _ => q
theorem q_asgP {i : Nat} (h : EvP te σ H φ) (q : ∀ v H1, Ex H H1 → φ v H1 → u D (σ.set i (some v)) H1) : tSeq (tAsg te (gName i)) u D σ H := h H (Ex.refl H) _ fun v H1 e p => q v H1 e p
theorem q_asg {i : Nat} {v : V} (h : Ev te σ H v) (q : ∀ H1, Ex H H1 → u D (σ.set i (some v)) H1) : tSeq (tAsg te (gName i)) u D σ H := h H (Ex.refl H) _ fun H1 e => q H1 e
theorem q_parPP {i j : Nat} (h1 : EvP ta σ H φ) (h2 : ∀ H1, Ex H H1 → EvP tb σ H1 ψ) (mφ : MonP φ) (q : ∀ v w H1, Ex H H1 → φ v H1 → ψ w H1 → u D ((σ.set i (some v)).set j (some w)) H1) : tSeq (tPar i j (tCons ta (tCons tb tNil))) u D σ H :=
  h1 H (Ex.refl H) _ fun v H1 e1 p1 => h2 H1 e1 H1 (Ex.refl H1) _ fun w H2 e2 p2 => ⟨v, w, rfl, q v w H2 (e1.trans e2) (mφ v H1 H2 e2 p1) p2⟩
theorem q_ret {v : V} (h : Ev te σ H v) (q : ∀ H1, Ex H H1 → D.rt v H1) : tRet te D σ H := h H (Ex.refl H) _ q
end
end Ag
namespace PySem
namespace ErX
open PySem.W PySem.Calls PyProof.Rows PySem.HandSPX
theorem one_ok (v : Value) : [v].length ≤ sizeLine := by
  have e : (1 : Nat) ≤ 16777216 := by decide
  rw [sizeLine_eq]; exact e
theorem kept {K : Frag} {h h' : Heap} {x : Addr} (X : K.In h) (n : K.lookup x = none) (k : ∀ b o, b ≠ x → h.get? b = some o → h'.get? b = some o) : K.In h' := by
  intro b o z
  refine k b o (fun y => ?_) (X b o z)
  rw [y] at z
  rw [n] at z
  cases z
/-- what __init__ leaves of a fresh error at x: fields fs in its own dict at dx -/
structure InitEnd (h h' : Heap) (x C dx t1 : Addr) (m : Str → Option Value) : Prop where
  keep : ∀ b o, b ≠ x → h.get? b = some o → h'.get? b = some o
  obj : h'.get? x = some { cls := .ref C, dict := some dx, data := .fields #[.ref t1, .none, .none, .none, .bool false, .none] }
  dbig : h.objs.size ≤ dx
  dne : dx ≠ x
  ns : h'.Ns1 dx m
/-- a made error -/
structure Made (h h' : Heap) (e C d : Addr) (m : Str → Option Value) : Prop where
  keep : ∀ b o, h.get? b = some o → h'.get? b = some o
  new : h.objs.size ≤ e
  obj : ∃ oe vs, h'.get? e = some oe ∧ oe.cls = .ref C ∧ oe.dict = some d ∧ oe.data = .fields vs ∧ vs[1]? = some .none
  dbig : h.objs.size ≤ d
  dne : d ≠ e
  ns : h'.Ns1 d m
section
variable {prog : Program} {w : World} {M : Model} {A : Around} {E : Value → Shared → Prop} {h : Heap} {g : Array GenState} {d : Drawn} {t : Nat} {os : OsState} {s : Shared}
theorem callWith_mw {i : String} {pos : Pos} {u x : Addr} {env : Env} {e : Expr} {rest : List Expr} {Q : Value → Shared → Prop}
    (h : wpAny M A (spliced (backTo pos (starEach (e :: rest) env))) (fun vs s₁ => s₁.heap.get? u = some (kxs_mw i x) ∧ wpAny M A (call (.ref u) vs) Q E s₁) E s)
    (he : starEach (e :: rest) env = (false, eval e env) :: starEach rest env := by rfl) (hp : (backTo pos (starEach rest env)).any (·.1) = false := by rfl) :
    wpAny M A (callWith pos (.ref u) [] (backTo pos (starEach (e :: rest) env)) []) Q E s := by
  rw [he] at h ⊢
  have z : (backTo pos ((false, eval e env) :: starEach rest env)).any (·.1) = false := by
    show (false || (backTo pos (starEach rest env)).any (·.1)) = false
    rw [hp] <;> rfl
  exact kxs_callWith (i := i) (x := x) z (evalArgs_plain h)
variable {nm q : Str} {C N : Addr} {bs bm : List Value} {hdct : Bool} {sn : List Str} {sub : List Value} {ab : Bool} {col : Option Bool} {dd : Option Addr} {k0 k1 k2 k3 k5 : Option Value}
theorem call_mw {u e t0 : Addr} {rest : List Value} {Q : Value → Shared → Prop}
    (hC : h.get? C = some (excClassObj nm q C N bs bm hdct sn sub ab col dd k0 k1 k2 k3 k5 "ValueError.__new__")) (he : h.get? e = some (excO C t0)) (hu : h.get? u = some (kxs_mw "ValueError.__init__" e)) (hz : rest.length ≤ sizeLine)
    (hq : ∀ h' t1, (∀ b o, b ≠ e → h.get? b = some o → h'.get? b = some o) → h'.get? e = some (excO C t1) → Q .none ⟨h', g, d, t, os⟩) :
    wpAny (model prog w) A (call (.ref u) rest) Q E ⟨h, g, d, t, os⟩ := by
  have c : (Value.type "method-wrapper" == Value.type "method" || Value.type "method-wrapper" == Value.type "builtin_function_or_method" || Value.type "method-wrapper" == Value.type "method-wrapper") = true := by decide
  refine wpAny_call (codeAny_of_tree (show wpAny _ A.in1 (callAny (.ref u) ⟨rest, []⟩) _ _ _ from ?_))
  simp only [callAny]
  refine wpAny_bind (wpAny_load hu ?_)
  simp only [kxs_mw, c, if_true]
  refine KFB.if_so (by decide) (wpAny_bind (check_bound_init F.excBase_ValueError.toExcCallFacts hC he rfl (wpAny_bind (wpAny_pure (wpAny_pure ?_)))))
  refine ⟨plainId_quiet F.excBase_ValueError.init.plain _, codeAny_builtin F.excBase_ValueError.initEntry ?_⟩
  exact exc_init_tree (cls := .ref C) (t0 := t0) (dv := none) (c2 := .none) (c3 := .none) (b4 := .bool false) he hz fun h' k e' _ => hq h' _ k e'
end
theorem ev_sup (t : Str) (a b c d e : Pos) (env : Env) (hl : (c.endLine == e.line) = true) : eval (.Call (.Attribute (.Call (.Name "super" a) [] [] b) "__init__" c) [.Constant (.str t) 0 d] [] e) env = (do
      let ov ← attributeBase (.Call (.Name "super" a) [] [] b) "__init__" env (eval (.Call (.Name "super" a) [] [] b) env)
      standAt c.atName
      let (f, first) ← holding [ov] (getMethod ov "__init__" (do return (← importBound (.Call (.Name "super" a) [] [] b) env).getD true))
      callWith e f first (backTo e (starEach [.Constant (.str t) 0 d] env)) []) := by
  have z : ∀ ov, methodCall (.Call (.Name "super" a) [] [] b) "__init__" c e env ov 1 (backTo e (starEach [.Constant (.str t) 0 d] env)) [] = (do
      let (f, first) ← holding [ov] (getMethod ov "__init__" (do return (← importBound (.Call (.Name "super" a) [] [] b) env).getD true))
      callWith e f first (backTo e (starEach [.Constant (.str t) 0 d] env)) []) := by
    intro ov
    have y : methodCallPos true (.Call (.Name "super" a) [] [] b) env c e = pure e := by
      unfold methodCallPos
      rw [hl]
      rfl
    show (do
      let (f, first) ← holding [ov] (getMethod ov "__init__" (do return (← importBound (.Call (.Name "super" a) [] [] b) env).getD true))
      let callPos ← methodCallPos true (.Call (.Name "super" a) [] [] b) env c e
      callWith callPos f first (backTo e (starEach [.Constant (.str t) 0 d] env)) []) = _
    rw [y]
    rfl
  show (do
      let ov ← attributeBase (.Call (.Name "super" a) [] [] b) "__init__" env (eval (.Call (.Name "super" a) [] [] b) env)
      standAt c.atName
      methodCall (.Call (.Name "super" a) [] [] b) "__init__" c e env ov 1 (backTo e (starEach [.Constant (.str t) 0 d] env)) []) = _
  simp only [z]
theorem no_lookup {K : Frag} {h : Heap} {x : Addr} (X : K.In h) (l : h.objs.size ≤ x) : K.lookup x = none := by
  cases e : K.lookup x with
  | none => rfl
  | some o => exact absurd (Nat.lt_of_lt_of_le (Heap.lt_size (X _ _ e)) l) (Nat.lt_irrefl _)
/-- the class at C, called with one value, makes an error whose own dict has it as f -/
def Mk1 (P : Program) (w : World) (K : Frag) (mg : Str → Option Value) (C : Addr) (f : Str) : Prop :=
  ∀ {A : Around} {R : Result → Shared → Prop} {s : Shared} {mb : Str → Option Value} {v : Value}, K.In s.heap → s.heap.NoLimit → s.heap.Ns mainGlobals mg → s.heap.Ns builtinsNs mb → (∀ x : Str, x ≠ "__name__" → mb x = bootBuiltins x) →
    A.depth + 1 < recursionLimit → (∀ h' tk e d, Made s.heap h' e C d (fun y => if y = f then some v else none) → R (.ok (.ret (.ref e))) { s with heap := h', toks := tk }) →
    codeAny (model P w) A (.call (.ref C) ⟨[v], []⟩) R s
/-- an own error with one field f, of the name NM, at C -/
structure Err (P : Program) (w : World) (K : Frag) (mg : Str → Option Value) (NM : Str) (C : Addr) (f : Str) : Prop where
  gC : mg NM = some (.ref C)
  kC : keepIn K (.ref C) = true
  exC : subIn K (.ref C) (.type "BaseException") = some true
  tyC : typeIn K (.ref C) = some (.type "type")
  te : exmOne K (.ref C) (.ref C) = some true
  ga : findIn K (.ref C) "__getattribute__" = some (some (.builtin "BaseException.__getattribute__"))
  gg : findIn K (.ref C) "__getattr__" = some none
  noN : findIn K (.ref C) f = some none
  hdC : hasDictIn K C = true
  make : Mk1 P w K mg C f
end ErX
end PySem
namespace Ag
open PySem PySem.Spec PyProof.Rows L2 PySem.ErX
theorem relO_one {fl : Str} {v : V} {v' : Value} (r : RelV v v') (f : Str) : RelO (List.lookup f [(fl, v)]) (if f = fl then some v' else none) := by
  rw [lookup_put]
  by_cases hw : f = fl
  · rw [if_pos hw, if_pos hw]; exact r
  · rw [if_neg hw, if_neg hw]; trivial
section
variable {X : Cx} {C : Addr} {NM fl : Str} {a : Expr} {ta : TA} {W : WX} {p pos pos2 : Pos} {k j : Nat}
/-- NM(e) -/
def tMkE (C : Addr) (fl : Str) (ta : TA) : L2.St → Hp → XK → Prop := fun σ H Q => ta σ H fun vs H1 => ∃ v, vs = [v] ∧ ∀ d, H1 d = none → Q (.ref C) (some d) (upd H1 d (.xd [(fl, v)]))
theorem pmk_err (T : Err X.prog X.w X.K X.mg NM C fl) (hr : Room k X.A) (ha : PA X [a] ta) (hg : Gl X NM := by rfl) (hdb : (NM == ("__debug__" : Str)) = false := by decide)
    (he : starEach (a :: []) X.env = (false, eval a X.env) :: starEach [] X.env := by rfl) (hpl : (backTo pos (starEach [] X.env)).any (·.1) = false := by rfl) :
    PMk X (.Call (.Name NM p) [a] [] pos) (tMkE C fl ta) := by
  intro pins s σ H Q I h
  refine wpAny_Call_Name_kw (ld_glob I hg T.gC ?_ hdb)
  refine PySem.W.callWith_K (h₀ := X.base) I.ok.mod.kin T.kC (thn (ha.run pos pins s σ H _ I h) fun us s1 ⟨vs, H1, I1, r1, v, ev, q1⟩ => ⟨I1.kIn, ?_⟩) he hpl
  subst ev
  cases r1 with
  | @cons _ v' _ _ rv rn =>
    cases rn
    show wpAny _ _ (call (.ref C) [v']) _ _ _
    have hlim := I1.nolimit
    obtain ⟨mb, b1, b2⟩ := I1.mod.blt
    have hG := I1.mod.glob.keeps I1.bk
    have hB := b1.keeps I1.bk
    obtain ⟨hp, g, dr, tk, os⟩ := s1
    refine wpAny_call (T.make I1.kIn hlim hG hB b2 (by have := hr.dp; omega) fun h' tk' e d M => ?_)
    show MkP X pins σ Q (.ref e) ⟨h', g, dr, tk', os⟩
    obtain ⟨oe, fv, hoe, hc, hd, hdat, h1⟩ := M.obj
    have hns := M.ns
    obtain ⟨G', g1, g2⟩ := restrict h' fun b => decide (b ≠ e)
    have gk : ∀ b, b ≠ e → G'.get? b = h'.get? b := fun b hb => g1 b (decide_eq_true hb)
    have ge : G'.get? e = none := g2 e (by simp)
    have old : ∀ b o, hp.get? b = some o → G'.get? b = some o := fun b o q => (gk b (Nat.ne_of_lt (Nat.lt_of_lt_of_le (Heap.lt_size q) M.new))).trans (M.keep b o q)
    have ob : ObjOk X.prog X.w (upd H1 d (.xd [(fl, v)])) G' d (.xd [(fl, v)]) := ⟨_, hns.at (fun o q => (gk d M.dne).trans q), fun f => relO_one rv f⟩
    have J : Inv X pins σ (upd H1 d (.xd [(fl, v)])) ⟨G', g, dr, tk', os⟩ := I1.laid (t' := tk') old M.dbig ob
    refine ⟨e, oe, fv, ⟨G', g, dr, tk', os⟩, _, .ref C, some d, rfl, J, fun b o q => ?_, ge, hoe, ⟨hc, hd⟩, hdat, h1, ?_, rfl, I1.bare, raises_own T.exC T.tyC, q1 d (I1.hok.fresh M.dbig)⟩
    · by_cases hb : b = e
      · have q' : G'.get? b = some o := q
        rw [hb, ge] at q'; cases q'
      · exact (gk b hb).symm.trans q
    · rw [upd_ne (Ne.symm M.dne)]
      exact I1.hok.fresh M.new
/-- raise NM(e) -/
def tRaiseE (C : Addr) (fl : Str) (W : WX) (ta : TA) : TS := fun _ σ H => tMkE C fl ta σ H fun cls d H' => W cls d σ H'
theorem ps_raiseE (hc : X.calm = true) (T : Err X.prog X.w X.K X.mg NM C fl) (hr : Room k X.A) (tk : Takes X W) (ha : PA X [a] ta) (hg : Gl X NM := by rfl) (hdb : (NM == ("__debug__" : Str)) = false := by decide)
    (he : starEach (a :: []) X.env = (false, eval a X.env) :: starEach [] X.env := by rfl) (hpl : (backTo pos (starEach [] X.env)).any (·.1) = false := by rfl) :
    PS X (.Raise (some (.Call (.Name NM p) [a] [] pos)) none pos2) (tRaiseE C fl W ta) := ps_raise hc tk (pmk_err T hr ha hg hdb he hpl)
/-- e.f, e the error that the suite holds (at a; its class cls, its dict d) -/
def tFldE (C : Addr) (fl : Str) (a : Addr) (cls : Value) (d : Option Addr) (te : TE) : TE := fun σ H Q => te σ H fun x H1 => x = .ref a ∧ cls = .ref C ∧ ∃ (dd : Addr) (v : V), d = some dd ∧ H1 dd = some (.xd [(fl, v)]) ∧ Q v H1
theorem pe_fldE {a : Addr} {oe : Obj} {cls : Value} {d : Option Addr} {pn : List (Addr × Obj)} {e : Expr} {te : TE} (T : Err X.prog X.w X.K X.mg NM C fl) (hz : Zc cls d oe) (hf : ∃ vs, oe.data = .fields vs) (he : PE (X.suite a ((a, oe) :: pn)) e te)
    (hb : attributeBase e fl X.env (eval e X.env) = eval e X.env := by rfl) : PE (X.suite a ((a, oe) :: pn)) (.Attribute e fl pos) (tFldE C fl a cls d te) := by
  refine ⟨fun pins s σ H Q I h => ?_⟩
  refine attr_of hb (thn (he.run pins s σ H _ I h) fun u s1 ⟨x, H1, I1, rx, ex, ec, dd, v, ed, ea, q⟩ => ?_)
  subst ex ec ed
  obtain rfl : u = Value.ref a := rx
  obtain ⟨ha, _⟩ := I1.pin (a, oe) (List.mem_append_left _ List.mem_cons_self)
  obtain ⟨vs, hd⟩ := hf
  have hx : ObjOk X.prog X.w H1 s1.heap dd (.xd [(fl, v)]) := I1.hok dd _ ea
  obtain ⟨mA, hns, hr⟩ := hx
  obtain ⟨od, ho, hl⟩ := lookIn_ns hns
  have l : List.lookup fl [(fl, v)] = some v := by rw [lookup_put, if_pos rfl]
  obtain ⟨u, hu, ru⟩ := RelO.some_of (v := v) (o := mA fl) (by rw [← l]; exact hr fl)
  have J : PySem.W.InstAt s1.heap a oe C (some od) := ⟨ha, hz.1, by unfold PySem.W.notCls; rw [hd] <;> rfl, by rw [hz.2]; exact ho⟩
  exact HandSPX.exc_get I1.kIn J T.ga T.gg T.exC (PySem.W.findObj_own T.hdC T.noN rfl (by rw [hl, hu])) (handed_of ru) ⟨v, H1, I1.tok _, ru, q⟩
end
end Ag
namespace PySem
namespace Er_value
open PySem.W PySem.Calls PyProof.Rows PySem.HandSPX PySem.ErX
def iA (p1 p2 : Pos) : Arguments := { posonlyargs := [], args := [{ arg := "self", annotation := none, pos := p1 }, { arg := "value", annotation := none, pos := p2 }], vararg := none, kwonlyargs := [], kw_defaults := [], kwarg := none, defaults := [] }
def iB (t : String) (a b c d e f g i j k : Pos) : List Stmt := [.Expr (.Call (.Attribute (.Call (.Name "super" a) [] [] b) "__init__" c) [.Constant (.str t) 0 d] [] e) f, .Assign [.Attribute (.Name "self" g) "value" i] (.Name "value" j) k]
def iS : Scope := { kind := .function, names := [(PySem.Str.ofString "self", .local), (PySem.Str.ofString "value", .local), (PySem.Str.ofString "__class__", .free), (PySem.Str.ofString "super", .globalImplicit)], isGenerator := false, isCoroutine := false, more := [] }
/-- what the written part says of an own error, at C, and of its __init__, at fI -/
structure Txt (P : Program) (K : Frag) (mg : Str → Option Value) (NM : Str) (C fI : Addr) : Prop where
  gC : mg NM = some (.ref C)
  cls : ∃ nm q N bs bm sn sub ab col dd k0 k1 k2 k3 k5, K.lookup C = some (excClassObj nm q C N bs bm true sn sub ab col dd k0 k1 k2 k3 k5 "ValueError.__new__") ∧ refsVE bm = true
  sa : findIn K (.ref C) "__setattr__" = some (some (.builtin "object.__setattr__"))
  ga : findIn K (.ref C) "__getattribute__" = some (some (.builtin "BaseException.__getattribute__"))
  gg : findIn K (.ref C) "__getattr__" = some none
  noN : findIn K (.ref C) "value" = some none
  iC : findIn K (.ref C) "__init__" = some (some (.ref fI))
  tC : typeIn K (.ref fI) = some (.type "function")
  kC : keepIn K (.ref C) = true
  exC : subIn K (.ref C) (.type "BaseException") = some true
  tyC : typeIn K (.ref C) = some (.type "type")
  hdC : hasDictIn K C = true
  te : exmOne K (.ref C) (.ref C) = some true
  sup : ks_superIn K C C "__init__" = some (some (.builtin "ValueError.__init__"))
  subV : subIn K (.ref C) (.type "ValueError") = some true
  subC : mroIn K C (.ref C) = some true
  op : nsIn K cStatics "thirdparty.any" = some none
  gs : mg "super" = none
  top : (P.main.scope.names.lookup ("super" : Str)).isSome = false
  fn : ∃ (QN : Str) (oc : Value) (od : Option Addr) (doc pm : Value) (an : Option Addr) (cda : Addr) (ct : Value) (osl : Array (Option Value)) (cc : Addr) (t : String) (p1 p2 a b c d e f g i j k : Pos)
    (ccl : Value) (cdd : Option Addr) (vs : Array Value) (ccs : Array (Option Value)) (file : Str) (tf : Tok) (cl : Value) (cld : Option Addr) (csl : Array (Option Value)),
    K.lookup fI = some ⟨oc, od, .func (ksFn "__init__" QN (iA p1 p2) (iB t a b c d e f g i j k) iS .none .none doc pm an (.ref cda) ct cc), osl⟩ ∧ codeIn K (.ref cda) QN = true ∧
    K.lookup cda = some ⟨ccl, cdd, .fields vs, ccs⟩ ∧ vs[2]? = some (.str file tf) ∧ ((P.main.file : Str) == file) = true ∧ K.lookup cc = some ⟨cl, cld, .cell (some (.ref C)), csl⟩ ∧ (c.endLine == e.line) = true
section
variable {prog : Program} {w : World} {A : Around} {E : Value → Shared → Prop} {R : Result → Shared → Prop} {s : Shared} {K : Frag} {mg mb : Str → Option Value} {NM : Str} {C fI : Addr}
theorem init (T : Txt prog K mg NM C fI) {x t0 : Addr} {v : Value} (X : K.In s.heap) (hlim : s.heap.NoLimit) (hG : s.heap.Ns mainGlobals mg) (hB : s.heap.Ns builtinsNs mb) (hb : ∀ x : Str, x ≠ "__name__" → mb x = bootBuiltins x)
    (hx : s.heap.get? x = some (excO C t0)) (hnx : K.lookup x = none) (hroom : A.depth < recursionLimit)
    (hq : ∀ h' tk dx t1, InitEnd s.heap h' x C dx t1 (fun y => if y = "value" then some v else none) → R (.ok (.ret .none)) { s with heap := h', toks := tk }) :
    codeAny (model prog w) A (.call (.ref fI) ⟨[.ref x, v], []⟩) R s := by
  obtain ⟨QN, oc, od, doc, pm, an, cda, ct, osl, cc, t, p1, p2, a, b, c, d, e, f, g, i, j, k, ccl, cdd, vs, ccs, file, tf, cl, cld, csl, ho, hcd, hco, hvs, hfile, hcell, hl⟩ := T.fn
  obtain ⟨nm, q, N, bs, bm, sn, sub, ab, col, dd, k0, k1, k2, k3, k5, hC, hbm⟩ := T.cls
  have hcl : clsIn K C = some { name := nm, bases := bs, mro := .ref C :: bm, ns := N, qualname := q, hasDict := true, slotNames := sn, subclasses := sub, abstract := ab, collection := col, hasDel := false } := by unfold clsIn; rw [hC] <;> rfl
  have hxL : s.heap.objs.size ≠ x := Nat.ne_of_gt (Heap.lt_size hx)
  refine ks_codeAny_call_defAt (fd := ksFn "__init__" QN (iA p1 p2) (iB t a b c d e f g i j k) iS .none .none doc pm an (.ref cda) ct cc) (body := iB t a b c d e f g i j k) (binds := [("self", .ref x), ("value", v)])
    hroom (X _ _ ho) rfl hlim (codeRec_of X hcd) rfl (BindsTo.of_eq (by first | rfl | with_unfolding_all rfl)) (show ∀ x ∈ iS.names, x.2 ≠ .cell from by decide) (locs rfl) (fun h₁ hn k₁ => ?_) rfl rfl rfl
  have X₁ : K.In h₁ := X.keeps k₁
  have hx₁ := k₁ _ _ hx
  have I₁ : InstAt h₁ x (excO C t0) C none := ⟨hx₁, rfl, rfl, trivial⟩
  obtain ⟨hs, gs, ds, ts, oss⟩ := s
  dsimp only at *
  obtain ⟨oD, hD1, hD2⟩ : ∃ oD, h₁.get? C = some oD ∧ oD.data = .cls { name := nm, bases := bs, mro := .ref C :: bm, ns := N, qualname := q, hasDict := true, slotNames := sn, subclasses := sub, abstract := ab, collection := col, hasDel := false } := ⟨_, X₁ _ _ hC, rfl⟩
  show _root_.PySem.wpAt (model prog w) _ (.func (iB t a b c d e f g i j k) (ksEnv QN iS hs.objs.size fI (.ref cda) cc)) (execs (iB t a b c d e f g i j k) (ksEnv QN iS hs.objs.size fI (.ref cda) cc)) _ _ _
  refine ks_wpAt_execs_cons (ks_wpAt_Expr_any (ks_wpAt_MethodCall (ks_wpAt_super_base (env := ksEnv QN iS hs.objs.size fI (.ref cda) cc) rfl rfl (by decide) rfl (X₁ _ _ ho) rfl rfl rfl (X₁ _ _ hco) rfl hvs hfile T.top ?_) (ev_sup _ _ _ _ _ _ _ hl)))
  refine ks_loadName_global rfl rfl (loadGlobal_builtin (env := ksEnv QN iS hs.objs.size fI (.ref cda) cc) (hG.keeps k₁) T.gs (hB.keeps k₁) ((hb _ (by decide +kernel)).trans PyProof.Rows.Boot.super) ⟨rfl, ?_⟩)
  refine wpAny_loadName_free rfl rfl rfl ⟨_, X₁ _ _ hcell, rfl⟩ ?_
  refine wpAny_loadName_local (v := .ref x) rfl rfl hn rfl ?_
  refine ks_wpAny_isType_cls hD1 hD2 ⟨rfl, ?_⟩
  refine ks_wpAny_call_super hD1 hD2 I₁.at_ I₁.cls (fun c e => ?_) (looks_mroIn X₁ T.subC) (fun h₂ e₂ k₂ => ?_)
  · cases e
  have X₂ : K.In h₂ := X₁.keeps k₂
  have hx₂ := k₂ _ _ hx₁
  have I₂ : InstAt h₂ x (excO C t0) C none := ⟨hx₂, rfl, rfl, trivial⟩
  have hm := T.sup
  unfold ks_superIn at hm
  rw [hcl] at hm
  refine kxs_getMethod kxs_ValueError e₂ (looks_opaque X₂ T.op) (l₀ := .ref C :: bm) (fun A Q E s k q => wpAny_bind ((looks_clsIn X₂ hcl) A _ E s k (wpAny_pure q))) rfl X₂ hm (I₂.type.andThen (looks_subIn X₂ T.subV)) (ks_ne X₂ I₂ hcl) (by decide) ?_
  have hu : (h₂.push (kxs_mw "ValueError.__init__" x)).get? h₂.objs.size = some (kxs_mw "ValueError.__init__" x) := Heap.get?_push_at rfl rfl
  have k₃ : ∀ b o, h₂.get? b = some o → (h₂.push (kxs_mw "ValueError.__init__" x)).get? b = some o := fun b o z => Heap.get?_push_of_some _ z
  refine callWith_mw (i := "ValueError.__init__") (x := x) ?_
  refine Calls.spliced_cons ?_
  refine Calls.Constant_str (k := 0) (pos := d) ?_
  refine Calls.spliced_nil ?_
  refine ⟨hu, ?_⟩
  refine call_mw (k₃ _ _ (X₂ _ _ hC)) (k₃ _ _ hx₂) hu (by rw [sizeLine_eq]; exact (by decide : 1 ≤ 16777216)) fun h₄ t1 k₄ hx₄ => ?_
  have K4 : ∀ b o, b ≠ x → h₁.get? b = some o → h₄.get? b = some o := fun b o hb z => k₄ b o hb (k₃ b o (k₂ b o z))
  have X₄ : K.In h₄ := ErX.kept X₁ hnx K4
  show _root_.PySem.wpAt _ _ _ (execs _ _) _ _ _
  refine wpAt_of_wpAny (wpAny_execs_cons (plainObj_wpAny_Assign_Attribute ?_))
  have hn₄ : h₄.Ns hs.objs.size (fun y => List.lookup y (List.reverse [(("self" : Str), Value.ref x), ("value", v)])) := hn.at fun o z => K4 _ o hxL z
  refine wpAny_Name (wpAny_loadName_local (v := v) rfl rfl hn₄ rfl ?_) (by decide)
  refine wpAny_Name (wpAny_loadName_local (v := .ref x) rfl rfl hn₄ rfl ?_) (by decide)
  refine set_plain X₄ (ox := excO C t1) (od := none) ⟨hx₄, rfl, rfl, trivial⟩ T.sa ?_
  refine exc_osa X₄ hx₄ hcl (show refsVE (.ref C :: bm) = true from hbm) rfl T.noN (fun h₅ tk dx k₅ dn dne hx₅ hn₅ => ?_)
  have z : hs.objs.size < h₄.objs.size := hn₄.lt
  exact wpAny_execs_nil (hq h₅ tk dx t1 ⟨fun b o hb e => k₅ b o hb (K4 b o hb (k₁ b o e)), hx₅, Nat.le_of_lt (Nat.lt_of_lt_of_le z dn), dne, hn₅⟩)
theorem made (T : Txt prog K mg NM C fI) : Mk1 prog w K mg C "value" := by
  intro A R s mb v X hlim hG hB hb hroom hq
  obtain ⟨nm, q, N, bs, bm, sn, sub, ab, col, dd, k0, k1, k2, k3, k5, hC, hbm⟩ := T.cls
  obtain ⟨hp, g, dr, tk, os⟩ := s
  have k : ∀ b o, hp.get? b = some o → ((hp.push (kdv_tup [v])).push (excO C hp.objs.size)).get? b = some o := fun b o e => Heap.get?_push_of_some _ (Heap.get?_push_of_some _ e)
  have hget : ((hp.push (kdv_tup [v])).push (excO C hp.objs.size)).get? (hp.objs.size + 1) = some (excO C hp.objs.size) := by heap_get
  have hnx : K.lookup (hp.objs.size + 1) = none := ErX.no_lookup X (Nat.le_succ _)
  refine call_own F.excBase_ValueError (fun X => refsVE_contains X bm hbm) (X _ _ hC) (looks_findIn X T.iC) (fun self => bind_fn X self T.tC) (one_ok v) ?_
  refine init (s := ⟨(hp.push (kdv_tup [v])).push (excO C hp.objs.size), g, dr, tk, os⟩) T (X.keeps k) (hlim.keeps k) (hG.keeps k) (hB.keeps k) hb hget hnx hroom fun h' tk' dx t1 ⟨k', hx, dn, dne, hns⟩ => ?_
  have old : ∀ b o, hp.get? b = some o → h'.get? b = some o := fun b o e => k' b o (Nat.ne_of_lt (Nat.lt_succ_of_lt (Heap.lt_size e))) (k b o e)
  have z : hp.objs.size + 1 + 1 ≤ dx := by
    have q := dn
    simp only [Heap.size_push] at q
    exact q
  exact ⟨rfl, hq h' tk' (hp.objs.size + 1) dx ⟨old, Nat.le_succ _, ⟨_, _, hx, rfl, rfl, rfl, rfl⟩, Nat.le_trans (Nat.le_trans (Nat.le_succ _) (Nat.le_succ _)) z, dne, hns⟩⟩
theorem err (T : Txt prog K mg NM C fI) : Err prog w K mg NM C "value" := ⟨T.gC, T.kC, T.exC, T.tyC, T.te, T.ga, T.gg, T.noN, T.hdC, made T⟩
end
end Er_value
end PySem
namespace Ag
open PySem PySem.Spec PyProof.Rows L2

/-! ### a def's promise where no repr is under way (guards: none) -/
structure FnG (P : Program) (w : World) (K : PySem.W.Frag) (mg : Str → Option Value) (base : Heap) (CX : CXT) (k : Nat) (f : Addr) (fd : FuncData) (ps : List Str) (sp : Sp) : Prop where
  len : ∀ vs H Q E, sp vs H Q E → vs.length = ps.length
  go : ∀ {A : Around} {outer : List Env} {s : Shared} {H : Hp} {args : Args} {us : List Value} {vs : List V} {Q : VK} {E : XK}, A.guards = some [] → Room k A → Env0 P w K mg base A outer s H → BindsTo s fd args (ps.zip us) → Vals vs us → sp vs H Q E →
    codeAny (model P w) A (.call (.ref f) args) (CR CX outer P w H s Q E) s
section
variable {CX : CXT} {P : Program} {w : World} {K : PySem.W.Frag} {mg : Str → Option Value} {base : Heap} {k : Nat} {f : Addr} {N ps : List Str} {sp : Sp} {fd : FuncData}
theorem FnG.of (F : FnOk P w K mg base CX k f fd ps sp) : FnG P w K mg base CX k f fd ps sp := ⟨F.len, fun _ hr e0 hb r h => F.run _ _ _ _ _ _ _ _ _ hr e0 hb r h⟩
theorem fnG_mk {name qual : Str} {params : Arguments} {body : List Stmt} {scope : Scope} {dV kV doc pm cdv ct oc : Value} {an od : Option Addr} {osl : Array (Option Value)}
    (lk : K.lookup f = some ⟨oc, od, .func (PySem.W.fnOf name qual params body scope dV kV doc pm an cdv ct), osl⟩) (hcd : PySem.W.codeIn K cdv qual = true) (S : FnScope N ps scope) (len : ∀ vs H Q E, sp vs H Q E → vs.length = ps.length)
    (hbody : ∀ (A : Around) (outer : List Env) (s : Shared) (H : Hp) (vs : List V) (Q : VK) (E : XK), A.guards = some [] → Room k (A.deeper (envOfC qual scope s.heap.objs.size f cdv)) → sp vs H Q E →
      ∃ t, PSs (cxOf CX P w K mg base N qual scope f cdv A outer s H E) body t ∧ t { nx := fun _ H' => Q .non H', rt := Q } (start N vs) H) :
    FnG P w K mg base CX (k + 1) f (PySem.W.fnOf name qual params body scope dV kV doc pm an cdv ct) ps sp where
  len := len
  go := by
    intro A outer s H args us vs Q E hg hr e0 hb r hsp
    have up := fun b o (e : base.get? b = some o) => (e0.bs b o e).1
    have KX := e0.mod.kin.keeps up
    have par : ∀ y ∈ ps.zip us, scope.names.lookup y.1 = some .local ∨ (scope.names.lookup y.1 = some .cell ∧ ((cellsFrom (s.heap.objs.size + 1) scope.names []).lookup y.1).isSome = true) := by
      rintro ⟨n, v⟩ hy
      exact (S.par n (List.of_mem_zip hy).1).imp id fun q => ⟨q, PySem.W.cellsFrom_some _ _ _ (.inl q)⟩
    refine codeAny_call_function hr.depth (KX _ _ lk) rfl S.co S.gen rfl (PySem.W.codeRec_of KX hcd) (hb _ _ _ _ (wpAny_newFunctionEnv_cells S.kind par fun env he s1 x => ?_))
    cases he
    obtain ⟨t, ht, hq⟩ := hbody A outer s H vs Q E hg (hr.deeper _) hsp
    have I := inv_start (CX := CX) (E := E) S hr.hd e0 (len _ _ _ _ hsp) r x
    refine ⟨(e0.mod.nolimit.keeps up).keeps x.toInCall.keep, codeAny_func (wpAny_mono (ht.run [] s1 _ H _ I hq) (fun fl s' hs => ?_) fun _ _ hs => hs)⟩
    cases fl with
    | next =>
      obtain ⟨σ', H', J, q⟩ := hs
      exact ⟨.non, H', J.os, J.bare, J.base, J.hok, rfl, q⟩
    | ret u =>
      obtain ⟨v, σ', H', J, rv, q⟩ := hs
      exact ⟨v, H', J.os, J.bare, J.base, J.hok, rv, q⟩
    | brk => exact hs.elim fun _ z => z.elim fun _ z => z.2.elim
    | cont => exact hs.elim fun _ z => z.elim fun _ z => z.2.elim
theorem okG {x qual : Str} {st : Stmt} (F : Fun K x qual st f fd) (S : FnScope N ps (defScope st)) (len : ∀ vs H Q E, sp vs H Q E → vs.length = ps.length)
    (hbody : ∀ (cdv : Value) (A : Around) (outer : List Env) (s : Shared) (H : Hp) (vs : List V) (Q : VK) (E : XK), A.guards = some [] → Room k (A.deeper (envOfC qual (defScope st) s.heap.objs.size f cdv)) → sp vs H Q E →
      ∃ t, PSs (cxOf CX0 P w K mg base N qual (defScope st) f cdv A outer s H E).nox (defBody st) t ∧ t { nx := fun _ H' => Q .non H', rt := Q } (start N vs) H) : FnG P w K mg base CX0 (k + 1) f fd ps sp := by
  obtain ⟨oc, od, kV, doc, pm, an, cdv, ct, osl, rfl, lk, hcd⟩ := F.ex
  exact fnG_mk lk hcd S len fun A outer s H vs Q E hg hr hsp => (hbody cdv A outer s H vs Q E hg hr hsp).imp fun t z => ⟨z.1.nox, z.2⟩
end
/-! ### a call of such a def -/
def FG (P : Program) (w : World) (K : PySem.W.Frag) (mg : Str → Option Value) (base : Heap) (x : Str) (ps : List Str) (CX : CXT) (k : Nat) (sp : Sp) : Prop :=
  ∃ f fd, mg x = some (.ref f) ∧ PySem.W.keepIn K (.ref f) = true ∧ Binds K fd ps [] ∧ FnG P w K mg base CX k f fd ps sp
section
variable {X : Cx} {CX : CXT} {k j : Nat} {ps : List Str} {sp : Sp} {E : XK} {x : Str} {p pos : Pos} {e : Expr} {es : List Expr} {t : TA}
theorem pe_fg (hc : FG X.prog X.w X.K X.mg X.base x ps CX k sp) (hG : X.A.guards = some []) (hr : Room j X.A) (hx : Passes CX X E) (ha : PA X (e :: es) t) (hg : Gl X x := by rfl) (hk : k ≤ j := by decide) (hdb : (x == ("__debug__" : Str)) = false := by decide)
    (he : starEach (e :: es) X.env = (false, eval e X.env) :: starEach es X.env := by rfl) (hpl : (backTo pos (starEach es X.env)).any (·.1) = false := by rfl) : PE X (.Call (.Name x p) (e :: es) [] pos) (tCall sp [] E t) := by
  obtain ⟨f, fd, hm, kf, hb, F⟩ := hc
  refine ⟨fun pins s σ H Q I h => ?_⟩
  refine wpAny_Call_Name_kw (ld_glob I hg hm ?_ hdb)
  refine PySem.W.callWith_K (h₀ := X.base) I.ok.mod.kin kf (thn (ha.run pos pins s σ H _ I h) fun us s1 ⟨vs, H1, I1, r1, q1⟩ => ⟨I1.kIn, ?_⟩) he hpl
  have r2 : Vals (vs ++ []) (us ++ []) := r1.append .nil
  have hl : (us ++ []).length = ps.length := r2.length.symm.trans (F.len _ _ _ _ q1)
  refine wpAny_call (codeAny_mono (F.go hG (hr.mono hk) I1.env0 (hb s1 us I1.kIn hl) r2 q1) fun r s' hq => ?_)
  cases r with
  | error e => exact hx pins σ H1 s1 e s' I1 hq
  | ok fl => cases fl with
    | ret u => exact I1.after hq
    | next => exact False.elim hq
    | brk => exact False.elim hq
    | cont => exact False.elim hq
end
/-! ### the end: the law's call where no repr is under way -/
section
variable {P : Program} {w : World} {K : PySem.W.Frag} {mg mb : Str → Option Value} {CX : CXT} {k : Nat} {fa a : Addr} {fd : FuncData} {x : Str} {sp : Sp} {s₁ : Shared} {vs : List Value} {ns : List Int}
/-- from a heap in which nothing but the script may be tracked -/
theorem coreG (KX : K.In s₁.heap) (hns : s₁.heap.Ns mainGlobals mg) (hb : s₁.heap.Ns builtinsNs mb) (hbb : ∀ x : Str, x ≠ "__name__" → mb x = bootBuiltins x) (hlim : s₁.heap.NoLimit) (hg : s₁.gens = #[])
    (ha : s₁.heap.get? a = some { cls := .type "list", data := .seq vs.toArray }) (hr : Room k callerA)
    (F : ∀ base : Heap, K.In base → base.Ns mainGlobals mg → FnG P w K mg base CX k fa fd [x] sp) (hbind : ∀ (s : Shared) (u : Value), BindsTo s fd ⟨[u], []⟩ [(x, u)])
    (hCX : ∀ H e s', CX [] H s₁ (fun _ _ _ => False) e s' → False) {H : Hp} (hO : Only H) (hsp : sp [.ref a] H (fun v _ => v = .bl true) fun _ _ _ => False) (hok : HOk P w H s₁.heap) (hA : ∀ b, H b ≠ none → b = a) (hK : H a ≠ none → K.lookup a = none) :
    codeAny (model P w) callerA (.call (.ref fa) ⟨[.ref a], []⟩) (fun r s' => r = .ok (.ret (.bool true)) ∧ OldK s₁.heap s'.heap ∧ s'.os = s₁.os ∧ AllBare s'.gens) s₁ := by
  have here : ∀ {b : Addr}, b ≠ a → H b = none := fun {b} n => Classical.byContradiction fun z => n (hA b z)
  have noA : ∀ {b : Addr} {o : Obj} {es : Array DictEntry} {ep : Nat}, s₁.heap.get? b = some o → o.data = .dict es ep → H b = none := by
    intro b o es ep e d
    refine here fun z => ?_
    rw [z] at e
    have e2 := Option.some.inj (ha.symm.trans e)
    rw [← e2] at d
    cases d
  have nsB : ∀ {b : Addr} {m : Str → Option Value}, s₁.heap.Ns b m → (hidT s₁.heap H).Ns b m := by
    rintro b m ⟨o, es, ep, e, d, r⟩
    exact ⟨o, es, ep, hidT_get e (noA e d), d, r⟩
  have kB : K.In (hidT s₁.heap H) := by
    intro b o e
    refine hidT_get (KX b o e) (Classical.byContradiction fun z => ?_)
    have y := hA b z
    subst y
    rw [hK z] at e
    cases e
  obtain ⟨mc, c1, c2⟩ := hlim
  have e0 : Env0 P w K mg (hidT s₁.heap H) callerA [] s₁ H := by
    refine ⟨rfl, ⟨kB, nsB hns, ⟨mb, nsB hb, hbb⟩, ⟨mc, nsB c1, c2⟩⟩, fun b o e => of_hidT e, Nat.le_of_eq (hidT_size _ _), trivial, fun b z => ?_, hok, .of_eq hg⟩
    cases (show b ∈ ([] : List Addr) from z)
  have run := (F _ kB (nsB hns)).go (args := ⟨[.ref a], []⟩) (us := [.ref a]) (vs := [.ref a]) rfl hr e0 (hbind s₁ (.ref a)) (.cons rfl .nil) hsp
  refine codeAny_mono run fun r s' h => ?_
  match r, h with
  | .error e, h => exact (hCX H e s' h).elim
  | .ok .next, h => exact False.elim h
  | .ok .brk, h => exact False.elim h
  | .ok .cont, h => exact False.elim h
  | .ok (.ret u), ⟨v, H', os, bare, un, hok', r', q⟩ =>
    have q' : v = .bl true := q
    subst q'
    obtain rfl : u = Value.bool true := r'
    refine ⟨rfl, OldK.of_keep fun b o e => ?_, os, bare⟩
    rcases hO b with z | ⟨ob, xs, z⟩
    · exact un.keep b o e z (fun y => by cases (show b ∈ ([] : List Addr) from y)) (fun y => by cases y)
    · have e1 : s₁.heap.get? b = some ob := (hok b _ z).1
      have e2 : s'.heap.get? b = some ob := (hok' b _ (un.frzs b ob _ z)).1
      exact e2.trans (e1.symm.trans e)
theorem law_callG (KX : K.In s₁.heap) (hns : s₁.heap.Ns mainGlobals mg) (hb : s₁.heap.Ns builtinsNs mb) (hbb : ∀ x : Str, x ≠ "__name__" → mb x = bootBuiltins x) (hlim : s₁.heap.NoLimit) (hg : s₁.gens = #[])
    (ha : s₁.heap.get? a = some { cls := .type "list", data := .seq vs.toArray }) (hi : IntsAre vs ns) (hl : ns.length ≤ sizeLine) (hr : Room k callerA)
    (F : ∀ base : Heap, K.In base → base.Ns mainGlobals mg → FnG P w K mg base CX k fa fd [x] sp) (hbind : ∀ (s : Shared) (u : Value), BindsTo s fd ⟨[u], []⟩ [(x, u)])
    (hsp : ∀ H : Hp, Only H → SqL K H a (ns.map V.int) → sp [.ref a] H (fun v _ => v = .bl true) fun _ _ _ => False) (hCX : ∀ H e s', CX [] H s₁ (fun _ _ _ => False) e s' → False) :
    codeAny (model P w) callerA (.call (.ref fa) ⟨[.ref a], []⟩) (fun r s' => r = .ok (.ret (.bool true)) ∧ OldK s₁.heap s'.heap ∧ s'.os = s₁.os ∧ AllBare s'.gens) s₁ := by
  have rv := vals_ints hi
  have hz : (ns.map V.int).length ≤ sizeLine := by rw [List.length_map]; exact hl
  cases hk : K.lookup a with
  | some o =>
    have e : o = { cls := .type "list", data := .seq vs.toArray } := Option.some.inj ((KX a o hk).symm.trans ha)
    subst e
    have hO : Only (fun _ => none) := fun _ => .inl rfl
    have hS : SqL K (fun _ => none) a (ns.map V.int) := .inr ⟨_, vs.toArray, _, hk, rfl, rfl, rfl, by rw [List.size_toArray, hi.length]; exact hl, by simpa using rv⟩
    exact coreG KX hns hb hbb hlim hg ha hr F hbind hCX hO (hsp _ hO hS) (fun b u z => nomatch (show (none : Option HO) = some u from z)) (fun b z => (z rfl).elim) fun z => (z rfl).elim
  | none =>
    have at_ : upd (fun _ => none) a (.frz { cls := .type "list", data := .seq vs.toArray } (.lst (ns.map V.int))) a = some (.frz { cls := .type "list", data := .seq vs.toArray } (.lst (ns.map V.int))) := upd_same
    have off : ∀ {b : Addr}, b ≠ a → upd (fun _ => none) a (.frz { cls := .type "list", data := .seq vs.toArray } (.lst (ns.map V.int))) b = none := fun n => upd_ne n
    have hO : Only (upd (fun _ => none) a (.frz { cls := .type "list", data := .seq vs.toArray } (.lst (ns.map V.int)))) := fun b => by
      by_cases h : b = a
      · rw [h]; exact .inr ⟨_, _, at_⟩
      · exact .inl (off h)
    refine coreG KX hns hb hbb hlim hg ha hr F hbind hCX hO (hsp _ hO (.inl (.inr ⟨_, at_⟩))) (fun b u z => ?_) (fun b z => Classical.byContradiction fun n => z (off n)) fun _ => hk
    by_cases h : b = a
    · subst h
      have e := Option.some.inj (at_.symm.trans z)
      subst e
      exact ⟨ha, hz, vs, _, rv, ha⟩
    · exact nomatch (off h).symm.trans z
end
theorem walk_ofG {l : PySem.W.OpenLaw} {n k : Nat} {q : Program} {loose : List Str} {XP : (Str → Option Value) → Heap → Prop} {YP : World → Heap → Prop} {d : DefRec} {K : Params → PySem.W.Frag} {CX : World → CXT} {sp : World → Sp} {x : Str}
    (hn : l.most = some n) (hn2 : n ≤ sizeLine) (hdf : d.params.defaults = []) (hr : Room k callerA) (hY : ∀ (w : World) (h : Heap), YP w h → (K w.params).In h)
    (F : ∀ (w : World) (mg : Str → Option Value) (fa : Addr) (h : Heap), (K w.params).In h → h.Ns mainGlobals mg → mg d.name = some (.ref fa) →
      ∃ fd : FuncData, (∀ (s : Shared) (u : Value), BindsTo s fd ⟨[u], []⟩ [(x, u)]) ∧ ∀ base : Heap, (K w.params).In base → base.Ns mainGlobals mg → FnG l.prog w (K w.params) mg base (CX w) k fa fd [x] (sp w))
    (hsp : ∀ (w : World) (H : Hp) (a : Addr) (ns : List Int), ns.length ≤ n → Only H → SqL (K w.params) H a (ns.map V.int) → sp w [.ref a] H (fun v _ => v = .bl true) fun _ _ _ => False)
    (hCX : ∀ (w : World) (H : Hp) (s : Shared) (e : Value) (s' : Shared), CX w [] H s (fun _ _ _ => False) e s' → False) : PySem.W.WalkO q loose XP YP l.row.toRowW d [] (fun f vs => PySem.call f vs) := by
  refine Att.attach_call hn hdf fun w s₀ s₁ mg mb fa o pm cd doc a vs ns G Y ho hd hcd hmg hobj hints hlen hg => ?_
  obtain ⟨fd, hb, hF⟩ := F w mg fa _ (hY w _ Y) G.T.g hmg
  exact law_callG (hY w _ Y) G.T.g G.T.b G.T.builtins G.T.nolimit hg hobj hints (Nat.le_trans hlen hn2) hr hF hb (fun H hO hS => hsp w H a ns hlen hO hS) fun H e s' => hCX w H s₁ e s'
end Ag
namespace Ag
open PySem PySem.Spec PyProof.Rows L2

/-! ### repr of data -/
inductive Sc : V → PyData → Prop
  | non : Sc .non .none
  | bl (b : Bool) : Sc (.bl b) (.bool b)
  | int (i : Int) : Sc (.int i) (.int i)
  | str (x : Str) : Sc (.str x) (.str x)
def keyD : Key → PyData
  | .inl i => .int i
  | .inr x => .str x
inductive ScKv : List (Key × V) → List (PyData × PyData) → Prop
  | nil : ScKv [] []
  | cons {k : Key} {v : V} {d : PyData} {kvs : List (Key × V)} {ds : List (PyData × PyData)} : Sc v d → ScKv kvs ds → ScKv ((k, v) :: kvs) ((keyD k, d) :: ds)
/-- v is the data d: plain data, or a dict of plain things -/
inductive DR (K : PySem.W.Frag) (H : Hp) : V → PyData → Prop
  | dp {v : V} {d : PyData} : Dp K H v d → DR K H v d
  | dic {a : Addr} {kvs : List (Key × V)} {ds : List (PyData × PyData)} : H a = some (.dK kvs) → ScKv kvs ds → DR K H (.ref a) (.dict ds)
mutual
theorem Dp.nodict {K : PySem.W.Frag} {H : Hp} : ∀ {v : V} {d : PyData}, Dp K H v d → d.hasDict = false
  | _, _, .non => rfl
  | _, _, .bl b => rfl
  | _, _, .int i => rfl
  | _, _, .str x => rfl
  | _, _, .lst h a => by simp only [PyData.hasDict]; exact DpAll.nodict a
  | _, _, .tup h a => by simp only [PyData.hasDict]; exact DpAll.nodict a
theorem DpAll.nodict {K : PySem.W.Frag} {H : Hp} : ∀ {vs : List V} {ds : List PyData}, DpAll K H vs ds → PyData.hasDictAll ds = false
  | _, _, .nil => rfl
  | _, _, .cons a b => by simp only [PyData.hasDictAll, Dp.nodict a, DpAll.nodict b, Bool.or_false]
end
theorem sc_reads {h : Heap} {v : V} {d : PyData} {u : Value} (s : Sc v d) (r : RelV v u) : Reads h u d [] := by
  cases s with
  | non => obtain rfl : u = .none := r; exact .none
  | bl b => obtain rfl : u = .bool b := r; exact .bool b
  | int i => obtain ⟨t, rfl⟩ := r; exact .int i t
  | str x => obtain ⟨t, rfl⟩ := r; exact .str x t
theorem key_reads {h : Heap} {k : Key} {u : Value} (e : keyIs k u = true) : Reads h u (keyD k) [] := by
  rcases keyIs_shape e with ⟨i, t, rfl, rfl⟩ | ⟨x, t, rfl, rfl⟩
  · exact .int i t
  · exact .str x t
theorem kv_reads {P : Program} {w : World} {h : Heap} : ∀ {kvs : List (Key × V)} {ds : List (PyData × PyData)} {vs : List (Key × Value)} {es : List DictEntry}, ScKv kvs ds → KV kvs vs → Pairs (mixKind P w) es vs →
    ReadsAll h (es.map (·.key)) (ds.map (·.1)) [] ∧ ReadsAll h (es.map (·.val)) (ds.map (·.2)) []
  | [], [], _, _, .nil, .nil, .nil => ⟨.nil, .nil⟩
  | (k, v) :: kvs, _ :: ds, _ :: vs, e :: es, .cons s ss, .cons r rs, .cons p1 p2 ps => by
    obtain ⟨a, b⟩ := kv_reads (h := h) ss rs ps
    have k1 : Reads h e.key (keyD k) [] := key_reads (by rw [show k = _ from r.1]; exact p1)
    have k2 : Reads h e.val _ [] := sc_reads s (by rw [p2]; exact r.2)
    exact ⟨ReadsAll.cons k1 a, ReadsAll.cons k2 b⟩
section
variable {X : Cx}
theorem DR.reads {pins : List (Addr × Obj)} {σ : L2.St} {H : Hp} {s : Shared} (I : Inv X pins σ H s) {v : V} {d : PyData} {u : Value} (h : DR X.K H v d) (r : RelV v u) : ∃ as, Reads s.heap u d as ∧ (d.hasDict = true → sysModules ∉ as) := by
  cases h with
  | dp h =>
    obtain ⟨as, q⟩ := Dp.reads I d v u h r
    exact ⟨as, q, fun z => by rw [Dp.nodict h] at z; cases z⟩
  | @dic a kvs ds e sc =>
    obtain rfl : u = .ref a := r
    obtain ⟨_, hs, vs, kv, o, es, ep, ho, hx, hd, _, ps, _⟩ := dk_of I.hok e
    obtain ⟨a1, a2⟩ := kv_reads (h := s.heap) sc kv ps
    refine ⟨_, .dict ho hx.1 hd a1 a2, fun _ z => ?_⟩
    have z' : sysModules = a := by simpa using z
    rw [← z'] at hs
    simp at hs
def rRepr (K : PySem.W.Frag) : List V → Hp → VK → Prop := fun xs H Q => ∃ v d, xs = [v] ∧ DR K H v d ∧ d.showable = true ∧ d.shown.length ≤ sizeLine ∧ d.depth ≤ 50 ∧ Q (.str d.shown) H
theorem call_repr (hG : X.A.guards = some []) (hu : X.A.units + 64 < cLine) : CallR X (.builtin "repr") (rRepr X.K) := by
  intro pins s σ H xs us Q I r h
  obtain ⟨v, d, rfl, dr, hs, hz, hd, q⟩ := h
  obtain ⟨u, rfl, ru⟩ := vals1 r
  obtain ⟨as, rd, hsm⟩ := DR.reads I dr ru
  have fin : ∀ h' t tk, (∀ b o, s.heap.get? b = some o → h'.get? b = some o) → EP X pins σ Q (.str d.shown t) { s with heap := h', toks := tk } := fun h' t tk k => ⟨.str d.shown, H, I.kept k, ⟨t, rfl⟩, q⟩
  have fin0 : ∀ t tk, EP X pins σ Q (.str d.shown t) { s with toks := tk } := fun t tk => ⟨.str d.shown, H, I.tok _, ⟨t, rfl⟩, q⟩
  cases rd with
  | none => exact PySem.P.repr_of_none (fin0 _ _)
  | bool b => exact PySem.P.repr_of_bool (fin0 _ _)
  | int i t => exact PySem.P.repr_of_int (by simpa [PyData.showable] using hs) (fin0 _ _)
  | str x t => exact PySem.P.repr_of_str (fin0 _ _) hz
  | list h1 h2 h3 h4 => exact repr_of_reads' (.list h1 h2 h3 h4) hs hsm hG (by omega) (fun _ _ e => e) (fun h' t tk k => fin h' t tk k) hz
  | tuple h1 h2 h3 h4 => exact repr_of_reads' (.tuple h1 h2 h3 h4) hs hsm hG (by omega) (fun _ _ e => e) (fun h' t tk k => fin h' t tk k) hz
  | dict h1 h2 h3 h4 h5 => exact repr_of_reads' (.dict h1 h2 h3 h4 h5) hs hsm hG (by omega) (fun _ _ e => e) (fun h' t tk k => fin h' t tk k) hz
end
end Ag
namespace Ag
open PySem PySem.W PySem.Spec PySem.Calls PyProof.Rows
/-! ### isinstance of an own error that has a dict -/
section
variable {prog : Program} {w : World} {A : Around} {E : Value → Shared → Prop} {s : Shared} {K : Frag} {x D : Addr} {ox : Obj} {od : Option Obj}
theorem find_data {name : Str} {a g : Value} (hc : (clsIn K D).isSome = true) (ha : findIn K (.ref D) name = some (some a)) (hg : specialIn K a "__get__" = some (some g)) (ht : takesIn K a = some true) : findObj K D od name = some (.bind g a) := by
  cases c : clsIn K D with
  | none => rw [c] at hc; cases hc
  | some cd => simp only [findObj, c, Option.bind_some, ha, hg, ht] <;> rfl
theorem class_of {Q : Option Value → Shared → Prop} (C : L2.ExcC K D) (X : K.In s.heap) (I : InstAt s.heap x ox D od) (q : Q (some (.ref D)) { s with toks := s.toks + 1 }) : wpAny (model prog w) A (getAttr? (.ref x) "__class__") Q E s := by
  have hc : (clsIn K D).isSome = true := by obtain ⟨cd, e, _⟩ := any_some C.hd; rw [e] <;> rfl
  obtain ⟨hp, g, d, t, os⟩ := s
  have l0 := I.type (M := model prog w)
  have lf := looks_find (M := model prog w) X I (find_data (od := od) hc C.ha C.hn C.ht)
  have no : (Value.builtin "BaseException.__getattribute__" == Value.builtin "object.__getattribute__") = false := by decide +kernel
  unfold getAttr? getAttrBy? getAttrBy
  refine wpAny_bind (wpAny_mkText (wpAny_bind (wpAny_attempt (wpAny_holding (wpAny_bind (l0.at (wpAny_bind ((looks_findIn (M := model prog w) X C.hg).at ?_))))))))
  show wpAny _ _ (if (onTheHeap (Value.ref D) && (Value.builtin "BaseException.__getattribute__" == Value.builtin "object.__getattribute__")) = true then _ else _) _ _ _
  rw [no, Bool.and_false, if_neg Bool.false_ne_true]
  unfold getAttrByItsOwn hookBefore
  refine wpAny_bind ?_
  have hh : onTheHeap (Value.ref D) = true := rfl
  rw [if_pos hh]
  refine (looks_findIn (M := model prog w) X C.hk).at (wpAny_bind (wpAny_attempt (wpAny_holding ?_)))
  unfold callGetattribute
  have hi : ¬ (false && onTheHeap (Value.builtin "BaseException.__getattribute__")) = true := Bool.false_ne_true
  rw [if_neg hi]
  unfold boundAndCalled
  rw [PySem.F.excAttr_ValueError.ga.bind (.ref x)]
  refine wpAny_bind (wpAny_pure (show wpAny _ _ (call (.builtin "BaseException.__getattribute__") [.ref x, .str "__class__" t]) _ _ _ from wpAny_call (codeAny_call_builtin PySem.F.excAttr_ValueError.ga.plain PySem.F.entry_bexc_ga ?_)))
  refine @check_slot (model prog w) _ _ ⟨hp, g, d, t + 1, os⟩ "BaseException.__getattribute__" "BaseException" "__getattribute__" (.ref x) [.str "__class__" t] [] _ (by decide +kernel) (by decide +kernel) (l0.andThen (looks_subIn X C.hs)) (PySem.F.args_bexc_ga (.ref x) (.str "__class__" t)) ?_
  unfold Builtin.«object.__getattribute__»
  refine wpAny_bind (wpAny_of_eq (a := ((Value.ref x : Value), [Value.str "__class__" t])) (by first | rfl | (simp only [slotArgs]; rfl)) (wpAny_bind (wpAny_pure (wpAny_bind (l0.at (wpAny_bind (lf.at ?_)))))))
  show wpAny _ _ (holding [Value.builtin "object.__class__"] (call (.builtin "getset_descriptor.__get__") [.builtin "object.__class__", .ref x, .ref D]) >>= ret) _ _ _
  refine wpAny_bind (wpAny_holding (wpAny_call (class_get (s := ⟨hp, g, d, t + 1, os⟩) (ox := ox) (od := od) X I C.hm (wpAny_pure ?_))))
  show wpAny _ _ (handedOut (.ref D)) _ _ _
  rw [handedOut_of (v := .ref D) rfl]
  exact wpAny_pure (wpAny_pure q)
theorem kitx_err (C : L2.ExcC K D) : KitX K (.ref x) (.ref D) (fun h => ∃ od, InstAt h x ox D od) := by
  obtain ⟨cd, hc, _⟩ := any_some C.hd
  have at_ : ∃ o : Obj, K.lookup D = some o ∧ o.data = .cls cd := by
    unfold clsIn at hc
    split at hc
    · rename_i c d cd' sl ho
      cases hc
      exact ⟨_, ho, rfl⟩
    · cases hc
  obtain ⟨o, ho, hd⟩ := at_
  refine ⟨fun _ _ _ ⟨_, I⟩ => I.type, fun M h X _ A Q E s k q => ?_, fun h tp dd its n sl X htp => ?_, fun X ⟨_, I⟩ k => class_of C X I k⟩
  · unfold isType loadHead
    refine wpAny_bind (wpAny_loadPart (k _ _ (X _ _ ho)) ?_)
    rw [hd]
    exact wpAny_pure q
  · refine Bool.eq_false_iff.mpr fun q => ?_
    have e : D = tp := Value.ref.inj (beq_iff_eq.mp q)
    subst e
    have z := Option.some.inj ((X _ _ ho).symm.trans htp)
    rw [z] at hd
    cases hd
end
open L2
theorem call_isX {X : Cx} {a D : Addr} {oe : Obj} {cls : Value} {d : Option Addr} {pn : List (Addr × Obj)} (C : ExcC X.K D) (hz : Zc cls d oe) (hf : ∃ vs, oe.data = .fields vs) : CallR (X.suite a ((a, oe) :: pn)) (.builtin "isinstance")
    (fun xs H Q => cls = .ref D ∧ (∃ dd u, d = some dd ∧ H dd = some (.xd u)) ∧ rIsE X.K D a xs H Q) := by
  rintro pins s σ H xs us Q I r ⟨rfl, ⟨dd, fs, rfl, hdd⟩, c, cv, b, rfl, hcv, e, q⟩
  cases r with
  | cons rx rr => cases rr with
    | cons rt rr =>
      cases rr
      cases rx
      cases hcv _ rt
      have hget := (I.pin (a, oe) (List.mem_append.mpr (.inl List.mem_cons_self))).1
      obtain ⟨vs, hv⟩ := hf
      have hx : ObjOk X.prog X.w H s.heap dd (.xd fs) := I.hok dd _ hdd
      obtain ⟨mA, hns, _⟩ := hx
      obtain ⟨o2, ho2, _⟩ := lookIn_ns hns
      have J : InstAt s.heap a oe D (some o2) := ⟨hget, hz.1, by unfold notCls; rw [hv] <;> rfl, by rw [hz.2]; exact ho2⟩
      exact kia_one (kitx_err C) I.kIn ⟨_, J⟩ e (fun z => nomatch z) fun tk => ⟨.bl b, H, I.kept (t' := tk) fun _ _ z => z, rfl, q⟩
end Ag
namespace Ag
open PySem PySem.Spec PyProof.Rows L2 Evl
/-! ### further builtins -/
structure Bl2 (mg : Str → Option Value) : Prop where
  tuple_ : mg "tuple" = none
  str_ : mg "str" = none
  list_ : mg "list" = none
  dict_ : mg "dict" = none
  repr_ : mg "repr" = none
  ValueError_ : mg "ValueError" = none
  sorted_ : mg "sorted" = none
/-! ### data: types, items -/
def tyD : PyData → String
  | .none => "NoneType"
  | .bool _ => "bool"
  | .int _ => "int"
  | .str _ => "str"
  | .list _ => "list"
  | .tuple _ => "tuple"
  | .dict _ => "dict"
section
variable {K : PySem.W.Frag} {σ : L2.St} {H H' : Hp} {ta tb te : TE} {v : V} {d : PyData}
theorem dp_ty (h : Dp K H v d) : TyX K H v (.type (tyD d)) := by
  cases h with
  | non => exact .base .non
  | bl b => exact .base (.bl b)
  | int i => exact .base (.int i)
  | str x => exact .base (.str x)
  | lst h _ =>
    rcases h with (h | ⟨o, h⟩) | ⟨o, its, n, e, c, _⟩
    · exact .base (.lst h)
    · exact .base (.frz h)
    · exact .kList e c
  | tup h _ =>
    rcases h with (h | ⟨o, h⟩) | ⟨o, its, n, e, c, _⟩
    · exact .base (.tup h)
    · exact .fTuple h
    · exact .kTuple e c
theorem dr_ty (h : DR K H v d) : TyX K H v (.type (tyD d)) := by
  cases h with
  | dp h => exact dp_ty h
  | dic h _ => exact .base (.dK h)
theorem DR.ex (e : Ex H H') (h : DR K H v d) : DR K H' v d := by
  cases h with
  | dp h => exact .dp (Dp.ex e h)
  | dic h s => exact .dic (e _ _ h) s
def isIntD : PyData → Option Int
  | .int i => some i
  | _ => none
theorem dr_noInt (h : DR K H v d) (n : isIntD d = none) : NoInt K H v := by
  have t := dr_ty h
  cases d with
  | int i => cases n
  | bool b =>
    cases h with
    | dp h => cases h with | bl => exact .inl ⟨b, rfl⟩
  | none => exact .inr ⟨_, t, show PySem.W.kitOne K (.type "NoneType") (.type "int") = some false from kit_ty (by decide +kernel)⟩
  | str x => exact .inr ⟨_, t, show PySem.W.kitOne K (.type "str") (.type "int") = some false from kit_ty (by decide +kernel)⟩
  | list x => exact .inr ⟨_, t, show PySem.W.kitOne K (.type "list") (.type "int") = some false from kit_ty (by decide +kernel)⟩
  | tuple x => exact .inr ⟨_, t, show PySem.W.kitOne K (.type "tuple") (.type "int") = some false from kit_ty (by decide +kernel)⟩
  | dict x => exact .inr ⟨_, t, show PySem.W.kitOne K (.type "dict") (.type "int") = some false from kit_ty (by decide +kernel)⟩
theorem dr_int {i : Int} (h : DR K H v (.int i)) : v = .int i := by
  cases h with
  | dp h => cases h; rfl
theorem dp_int {i : Int} (h : Dp K H v (.int i)) : v = .int i := by cases h; rfl
theorem dp_str {x : Str} (h : Dp K H v (.str x)) : v = .str x := by cases h; rfl
def EvR (K : PySem.W.Frag) (te : TE) (σ : L2.St) (H : Hp) (d : PyData) : Prop := EvP te σ H (fun v H2 => DR K H2 v d)
theorem er_var {i : Nat} (h : σ[i]? = some (some v)) (hd : DR K H v d) : EvR K (tVar i) σ H d := evp_var h fun _ e => DR.ex e hd
theorem ev_isD {T : String} {b : Bool} (h : EvR K te σ H d) (hk : PySem.W.kitOne K (.type (tyD d)) (.type T) = some b) : Ev (tCB (rIsi K) (tCons te (tCons (tC (.ty T)) tNil))) σ H (.bl b) :=
  ev_isi (h.imp fun _ _ _ z => dr_ty z) ev_c (.ty _) hk
theorem ed_c (h : Dp K H v d) : EvD K (tC v) σ H d := fun H1 e Q q => q v H1 (Ex.refl H1) (Dp.ex e h)
theorem ev_lenT {p : Addr} {xs : List V} (ha : Ev ta σ H (.ref p)) (h : SqT K H p xs) : Ev (tCB (rLenS K) (tCons ta tNil)) σ H (.int (xs.length : Int)) := fun H1 e Q q =>
  ha H1 e _ fun H2 e2 => ⟨p, xs, rfl, .inr (ex_t (e.trans e2) h), q H2 e2⟩
end
end Ag
namespace Ag
open PySem PySem.Spec PyProof.Rows L2 Evl
/-! ### displayed dicts -/
def EvK (te : TE) (σ : L2.St) (H : Hp) (kvs : List (Key × V)) : Prop := ∀ H1, Ex H H1 → ∀ Q : VK, (∀ p H2, H1 p = none → Ex H1 H2 → H2 p = some (.dK kvs) → Q (.ref p) H2) → te σ H1 Q
inductive EvPr : List (TE × TE) → L2.St → Hp → List (Key × V) → Prop
  | nil {σ : L2.St} {H : Hp} : EvPr [] σ H []
  | cons {σ : L2.St} {H : Hp} {tk tv : TE} {k : Key} {v : V} {trs : List (TE × TE)} {kvs : List (Key × V)} : Ev tk σ H (kV k) → Ev tv σ H v → EvPr trs σ H kvs → EvPr ((tk, tv) :: trs) σ H ((k, v) :: kvs)
section
variable {σ : L2.St} {H : Hp} {te ta tb : TE} {trs : List (TE × TE)} {kvs : List (Key × V)} {t : TT} {D : Ends}
theorem EvK.mono {H' : Hp} (e : Ex H H') (h : EvK te σ H kvs) : EvK te σ H' kvs := fun H1 a Q q => h H1 (e.trans a) Q q
theorem EvPr.run (h : EvPr trs σ H kvs) : ∀ H1, Ex H H1 → ∀ Q : List (V × V) → Hp → Prop, (∀ H2, Ex H1 H2 → Q (kvs.map fun kv => (kV kv.1, kv.2)) H2) → tPairs trs σ H1 Q := by
  induction h with
  | nil => exact fun H1 _ Q q => q H1 (Ex.refl H1)
  | cons hk hv _ ih => exact fun H1 e Q q => hk H1 e _ fun H2 e2 => hv H2 (e.trans e2) _ fun H3 e3 => ih H3 ((e.trans e2).trans e3) _ fun H4 e4 => q H4 ((e2.trans e3).trans e4)
theorem ek_disp {all : List (Key × V)} (h : EvPr trs σ H kvs) (hl : kvs.length ≤ 15) (hm : mergeK [] kvs = all) : EvK (tDisp trs) σ H all := fun H1 e Q q p hp => by
  subst hm
  exact h.run _ (e.trans (Ex.new hp)) _ fun H2 e2 => ⟨e2 p _ upd_same, kvs, rfl, hl, q p _ hp (Ex.mut ((Ex.new hp).trans e2) hp) upd_same⟩
theorem ek_new : EvK tDNewK σ H [] := fun H1 _ Q q p hp => q p _ hp (Ex.new hp) upd_same
theorem ek_if {b : Bool} (h : EvT t σ H b) (h1 : b = true → EvK ta σ H kvs) (h2 : b = false → EvK tb σ H kvs) : EvK (tIf t ta tb) σ H kvs := fun H1 e Q q => h H1 e _ fun H2 e2 => by
  cases b with
  | true => exact h1 rfl H2 (e.trans e2) Q fun p H3 hp e3 h3 => q p H3 (fresh_back e2 hp) (e2.trans e3) h3
  | false => exact h2 rfl H2 (e.trans e2) Q fun p H3 hp e3 h3 => q p H3 (fresh_back e2 hp) (e2.trans e3) h3
theorem s_retK (h : EvK te σ H kvs) (k : ∀ p H1, H p = none → Ex H H1 → H1 p = some (.dK kvs) → D.rt (.ref p) H1) : tRet te D σ H := h H (Ex.refl H) _ k
end
end Ag
namespace Ag
open PySem PySem.Spec PyProof.Rows L2 Evl
/-! ### within a try: calls whose errors are caught; what is asked of a caught error -/
def rIsX (K : PySem.W.Frag) (D a : Addr) (cls : Value) (d : Option Addr) : List V → Hp → VK → Prop := fun xs H Q => cls = .ref D ∧ (∃ dd u, d = some dd ∧ H dd = some (.xd u)) ∧ rIsE K D a xs H Q
theorem call_is {X : Cx} {a D : Addr} {oe : Obj} {cls : Value} {d : Option Addr} {pn : List (Addr × Obj)} (C : ExcC X.K D) (hz : Zc cls d oe) (hf : ∃ vs, oe.data = .fields vs) : CallR (X.suite a ((a, oe) :: pn)) (.builtin "isinstance") (rIsX X.K D a cls d) := call_isX C hz hf
section
variable {X : Cx} {CX : CXT} {k j : Nat} {ps : List Str} {sp : Sp} {E : L2.St → XK} {x : Str} {p pos : Pos} {e : Expr} {es : List Expr} {t : TA}
theorem pe_fnS (c : Fn X.prog X.w X.K X.mg X.base x ps CX k sp) (hr : Room j X.A) (hx : ∀ σ, PassesAt CX X σ (E σ)) (ha : PA X (e :: es) t) (hk : k ≤ j := by decide) (hg : Gl X x := by rfl)
    (hdb : (x == ("__debug__" : Str)) = false := by decide) (he : starEach (e :: es) X.env = (false, eval e X.env) :: starEach es X.env := by rfl) (hpl : (backTo pos (starEach es X.env)).any (·.1) = false := by rfl) :
    PE X (.Call (.Name x p) (e :: es) [] pos) (tCallS sp E t) := by
  obtain ⟨f, fd, g, kp, b, F⟩ := c
  exact pe_callS F (hr.mono hk) hg g kp b hx ha hdb he hpl
end
end Ag
namespace Ag
open PySem PySem.Spec PyProof.Rows L2 Evl
/-! ### what lies in H2 and did not in Hs -/
def Nn (Hs H : Hp) : Hp := fun b => if Hs b = none then H b else none
section
variable {Hs H H' H1 H2 : Hp} {p : Addr} {o : HO}
theorem nn_at (n : Hs p = none) (h : H p = some o) : Nn Hs H p = some o := by
  unfold Nn
  rw [if_pos n]
  exact h
theorem nn_of (h : Nn Hs H p = some o) : Hs p = none ∧ H p = some o := by
  unfold Nn at h
  by_cases n : Hs p = none
  · rw [if_pos n] at h; exact ⟨n, h⟩
  · rw [if_neg n] at h; cases h
theorem nn_ex (e : Ex H H') : Ex (Nn Hs H) (Nn Hs H') := fun a u h => nn_at (nn_of h).1 (e a u (nn_of h).2)
theorem nn_in : Ex (Nn Hs H) H := fun a u h => (nn_of h).2
/-- what is new is kept where all but an old p is kept -/
theorem nn_kp (k : Kp p H H') (n : Hs p ≠ none) : Ex (Nn Hs H) (Nn Hs H') := fun a u h => nn_at (nn_of h).1 (k a u (fun z => n (z ▸ (nn_of h).1)) (nn_of h).2)
theorem ex_kp (k : Kp p H H') (n : Hs p = none) (e : Ex Hs H) : Ex Hs H' := fun a u h => k a u (fun z => by rw [z, n] at h; cases h) (e a u h)
end
inductive DRAll (K : PySem.W.Frag) (H : Hp) : List V → List PyData → Prop
  | nil : DRAll K H [] []
  | cons {v : V} {vs : List V} {d : PyData} {ds : List PyData} : DR K H v d → DRAll K H vs ds → DRAll K H (v :: vs) (d :: ds)
section
variable {K : PySem.W.Frag} {Hs H H' : Hp} {σ : L2.St} {ta tb te : TE} {tas : TA} {v : V} {d : PyData} {ds es : List PyData} {vs xs ys : List V}
theorem DRAll.ex (e : Ex H H') (h : DRAll K H vs ds) : DRAll K H' vs ds := by
  induction h with
  | nil => exact .nil
  | cons a _ ih => exact .cons (DR.ex e a) ih
theorem DRAll.len (h : DRAll K H vs ds) : vs.length = ds.length := by
  induction h with
  | nil => rfl
  | cons _ _ ih => exact congrArg (· + 1) ih
theorem DRAll.append (h : DRAll K H xs ds) (g : DRAll K H ys es) : DRAll K H (xs ++ ys) (ds ++ es) := by
  induction h with
  | nil => exact g
  | cons a _ ih => exact .cons a ih
theorem DRAll.at {i : Nat} (h : DRAll K H vs ds) (e : vs[i]? = some v) : ∃ d, ds[i]? = some d ∧ DR K H v d := by
  induction h generalizing i with
  | nil => simp at e
  | cons a _ ih =>
    cases i with
    | zero =>
      have z : _ = v := Option.some.inj e
      subst z
      exact ⟨_, rfl, a⟩
    | succ i => exact ih (by simpa using e)
/-- te gives data d of which all lies in what is new since Hs -/
def EnR (K : PySem.W.Frag) (Hs : Hp) (te : TE) (σ : L2.St) (H : Hp) (d : PyData) : Prop := EvP te σ H (fun v H2 => DR K (Nn Hs H2) v d)
def EnD (K : PySem.W.Frag) (Hs : Hp) (te : TE) (σ : L2.St) (H : Hp) (d : PyData) : Prop := EvP te σ H (fun v H2 => Dp K (Nn Hs H2) v d)
def EnDs (K : PySem.W.Frag) (Hs : Hp) (ta : TA) (σ : L2.St) (H : Hp) (ds : List PyData) : Prop := EvPs ta σ H (fun vs H2 => DpAll K (Nn Hs H2) vs ds)
def EnRs (K : PySem.W.Frag) (Hs : Hp) (ta : TA) (σ : L2.St) (H : Hp) (ds : List PyData) : Prop := EvPs ta σ H (fun vs H2 => DRAll K (Nn Hs H2) vs ds)
/-- .. a list of such -/
def LiN (K : PySem.W.Frag) (Hs : Hp) (v : V) (H : Hp) (ds : List PyData) : Prop := ∃ l xs, v = .ref l ∧ Hs l = none ∧ H l = some (.lst xs) ∧ DRAll K (Nn Hs H) xs ds
def EnL (K : PySem.W.Frag) (Hs : Hp) (te : TE) (σ : L2.St) (H : Hp) (ds : List PyData) : Prop := EvP te σ H (fun v H2 => LiN K Hs v H2 ds)
theorem LiN.ex (e : Ex H H') (h : LiN K Hs v H ds) : LiN K Hs v H' ds := by
  obtain ⟨l, xs, rfl, n, hl, a⟩ := h
  exact ⟨l, xs, rfl, n, e _ _ hl, DRAll.ex (nn_ex e) a⟩
theorem en_int {i : Int} (h : Ev te σ H (.int i)) : EnD K Hs te σ H (.int i) := fun H1 e Q q => h H1 e Q fun H2 e2 => q _ H2 e2 (.int i)
theorem en_bl {b : Bool} (h : Ev te σ H (.bl b)) : EnD K Hs te σ H (.bool b) := fun H1 e Q q => h H1 e Q fun H2 e2 => q _ H2 e2 (.bl b)
theorem en_str {s : Str} (h : Ev te σ H (.str s)) : EnD K Hs te σ H (.str s) := fun H1 e Q q => h H1 e Q fun H2 e2 => q _ H2 e2 (.str s)
theorem en_non (h : Ev te σ H .non) : EnD K Hs te σ H .none := fun H1 e Q q => h H1 e Q fun H2 e2 => q _ H2 e2 .non
theorem ens_nil : EnDs K Hs tNil σ H [] := fun H1 _ _ q => q [] H1 (Ex.refl H1) .nil
theorem ens_cons (h : EnD K Hs te σ H d) (hs : EnDs K Hs tas σ H ds) : EnDs K Hs (tCons te tas) σ H (d :: ds) := fun H1 e _ q =>
  h H1 e _ fun v H2 e2 p => hs H2 (e.trans e2) _ fun vs H3 e3 ps => q _ H3 (e2.trans e3) (.cons (Dp.ex (nn_ex e3) p) ps)
theorem en_lst (eh : Ex Hs H) (h : EnDs K Hs tas σ H ds) (hl : Nat.ble ds.length 100000 = true := by rfl) : EnD K Hs (tLst tas) σ H (.list ds) := fun H1 e _ q =>
  h H1 e _ fun vs H2 e2 p => ⟨sz_of (by rw [DpAll.len p]; exact Nat.le_of_ble_eq_true hl), fun l n =>
    q _ _ (e2.trans (Ex.new n)) (.lst (sq_of (nn_at (fresh_back (eh.trans (e.trans e2)) n) upd_same)) (DpAll.ex (nn_ex (Ex.new n)) p))⟩
theorem en_tup (eh : Ex Hs H) (h : EnDs K Hs tas σ H ds) (hl : Nat.ble ds.length 100000 = true := by rfl) : EnD K Hs (tTup tas) σ H (.tuple ds) := fun H1 e _ q =>
  h H1 e _ fun vs H2 e2 p => ⟨sz_of (by rw [DpAll.len p]; exact Nat.le_of_ble_eq_true hl), fun l n =>
    q _ _ (e2.trans (Ex.new n)) (.tup (st_of (nn_at (fresh_back (eh.trans (e.trans e2)) n) upd_same)) (DpAll.ex (nn_ex (Ex.new n)) p))⟩
theorem er_dp (h : EnD K Hs te σ H d) : EnR K Hs te σ H d := h.imp fun _ _ _ z => .dp z
theorem er_dnew (eh : Ex Hs H) : EnR K Hs tDNewK σ H (.dict []) := fun H1 e Q q p n => q _ _ (Ex.new n) (.dic (nn_at (fresh_back (eh.trans e) n) upd_same) .nil)
theorem ers_nil : EnRs K Hs tNil σ H [] := fun H1 _ _ q => q [] H1 (Ex.refl H1) .nil
theorem ers_cons (h : EnR K Hs te σ H d) (hs : EnRs K Hs tas σ H ds) : EnRs K Hs (tCons te tas) σ H (d :: ds) := fun H1 e _ q =>
  h H1 e _ fun v H2 e2 p => hs H2 (e.trans e2) _ fun vs H3 e3 ps => q _ H3 (e2.trans e3) (.cons (DR.ex (nn_ex e3) p) ps)
theorem enl_lst (eh : Ex Hs H) (h : EnRs K Hs tas σ H ds) (hl : Nat.ble ds.length 100000 = true := by rfl) : EnL K Hs (tLst tas) σ H ds := fun H1 e _ q =>
  h H1 e _ fun vs H2 e2 p => ⟨sz_of (by rw [DRAll.len p]; exact Nat.le_of_ble_eq_true hl), fun l n =>
    q _ _ (e2.trans (Ex.new n)) ⟨l, vs, rfl, fresh_back (eh.trans (e.trans e2)) n, upd_same, DRAll.ex (nn_ex (Ex.new n)) p⟩⟩
theorem enl_var {i : Nat} (h : σ[i]? = some (some v)) (hd : LiN K Hs v H ds) : EnL K Hs (tVar i) σ H ds := evp_var h fun _ e => hd.ex e
theorem enl_cat (eh : Ex Hs H) (h : EnL K Hs ta σ H ds) (g : EnL K Hs tb σ H es) (hl : Nat.ble (ds.length + es.length) 100000 = true := by rfl) : EnL K Hs (tOp rCat ta tb) σ H (ds ++ es) := fun H1 e _ q =>
  h H1 e _ fun v H2 e2 p => g H2 (e.trans e2) _ fun w H3 e3 p' => by
    obtain ⟨l, xs, rfl, n1, h1, a1⟩ := p.ex e3
    obtain ⟨l', ys, rfl, n2, h2, a2⟩ := p'
    refine ⟨l, l', xs, ys, rfl, rfl, h1, h2, sz_of (by rw [DRAll.len a1, DRAll.len a2]; exact Nat.le_of_ble_eq_true hl), fun k n => ?_⟩
    exact q _ _ ((e2.trans e3).trans (Ex.new n)) ⟨k, xs ++ ys, rfl, fresh_back (eh.trans (e.trans (e2.trans e3))) n, upd_same, (DRAll.ex (nn_ex (Ex.new n)) a1).append (DRAll.ex (nn_ex (Ex.new n)) a2)⟩
/-- a comprehension over a tuple -/
theorem el_lcT {a : Addr} {xs : List V} {tl : TE} {j : Nat} {vs : List Nat} {t : TT} (f : Nat → Bool) (v : Nat → V) (h : Ev tl σ H (.ref a)) (hx : SqT K H a xs) (hz : xs.length ≤ 40000) (hw : ∀ x, wipe ((wipe σ vs).set j (some x)) vs = wipe σ vs)
    (ht : ∀ (i : Nat) (x : V) H1, Ex H H1 → xs[i]? = some x → EvT t ((wipe σ vs).set j (some x)) H1 (f i)) (he : ∀ (i : Nat) (x : V) H1, Ex H H1 → xs[i]? = some x → f i = true → Ev te ((wipe σ vs).set j (some x)) H1 (v i)) :
    EvL (tLc (iTup K tl) (gName j) t te vs) σ H (given xs.length f v) := by
  intro H0 e Q q
  refine h H0 e _ fun H1 e1 => ⟨a, rfl, ⟨xs, ex_t (e.trans e1) hx⟩, fun Dl hD => ?_⟩
  refine lc_tup (xs := xs) (Cw H1 f v Dl) ⟨hD, Ex.new hD, upd_same⟩ (fun i H' _ p => ex_t ((e.trans e1).trans p.2.1) hx) (fun i x H' hi p => ⟨hw x, ?_⟩) fun H' p => q Dl H' (fresh_back e1 p.1) (e1.trans p.2.1) p.2.2
  exact cw_turn p (by have := (List.getElem?_eq_some_iff.mp hi).1; omega) (ht i x H1 (e.trans e1) hi) fun hf => he i x H1 (e.trans e1) hi hf
theorem et_yes {σ : L2.St} {H : Hp} : EvT tYes σ H true := fun H1 _ _ q => q H1 (Ex.refl H1)
theorem ed_L {ds : List PyData} (h : EvL te σ H xs) (hd : ∀ H2, DpAll K H2 xs ds) : EvD K te σ H (.list ds) := fun H1 e _ q => h H1 e _ fun p H2 n e2 h2 => q _ H2 e2 (.lst (sq_of h2) (hd H2))
theorem ev_isnB {a b : Bool} (ha : Ev ta σ H (.bl a)) (hb : Ev tb σ H (.bl b)) : Ev (tOp (fun x y H Q => ∃ a b, x = .bl a ∧ y = .bl b ∧ Q (.bl (!decide (a = b))) H) ta tb) σ H (.bl (!decide (a = b))) :=
  ev_op ha hb fun H1 _ _ q => ⟨a, b, rfl, rfl, q H1 (Ex.refl H1)⟩
theorem ev_notN (ha : Ev ta σ H v) : Ev (tOp (fun x y H Q => y = .non ∧ Q (.bl (!decide (x = .non))) H) ta (tC .non)) σ H (.bl (!decide (v = .non))) :=
  ev_op ha ev_c fun H1 _ _ q => ⟨rfl, q H1 (Ex.refl H1)⟩
end
/-! ### t.index(x) -/
def rTupIx (K : PySem.W.Frag) : V → List V → Hp → VK → Prop := fun x xs H Q => ∃ p, ∃ ys : List Str, ∃ z j, x = .ref p ∧ xs = [.str z] ∧ SqT K H p (ys.map V.str) ∧ ys[j]? = some z ∧ (∀ m, m < j → ys[m]? ≠ some z) ∧ Q (.int (j : Nat)) H
theorem mt_tupIx {X : Cx} : MtR X "tuple.index" (rTupIx X.K) := mt_tup_index
def rListDK : List V → Hp → VK → Prop := fun xs H Q => ∃ (a : Addr) (kvs : List (Key × V)), xs = [.ref a] ∧ Rd H a (.dK kvs) ∧ ∀ p, H p = none → Q (.ref p) (upd H p (.lst (kvs.map fun kv => kV kv.1)))
theorem call_listDK {X : Cx} (hc : X.calm = true) : CallR X (.type "list") rListDK := call_listD hc
section
variable {σ : L2.St} {H : Hp} {td ty tv te : TE} {u : TS} {D : Ends} {kvs : List (Key × V)}
theorem q_asgK {i : Nat} (h : EvK te σ H kvs) (k : ∀ p H1, H p = none → Ex H H1 → H1 p = some (.dK kvs) → u D (σ.set i (some (.ref p))) H1) : tSeq (tAsg te (gName i)) u D σ H := h H (Ex.refl H) _ k
theorem q_dput {k : Key} {v : V} {a : Addr} (hv : Ev tv σ H v) (hd : Ev td σ H (.ref a)) (hy : Ev ty σ H (kV k)) (ha : H a = some (.dK kvs)) (hl : kvs.length < sizeLine) (q : ∀ H1, Ex H H1 → u D σ (upd H1 a (.dK (putK kvs k v)))) : tSeq (sDPut td ty tv) u D σ H :=
  hv H (Ex.refl H) _ fun H1 e1 => hd H1 e1 _ fun H2 e2 => hy H2 (e1.trans e2) _ fun H3 e3 => ⟨a, _, rfl, DPut.k ((e1.trans (e2.trans e3)) _ _ ha) hl, q H3 (e1.trans (e2.trans e3))⟩
end
theorem kit_typ {K : PySem.W.Frag} {t : Value} {T : String} {b : Bool} (hne : (t == Value.type T) = false) (hm : PySem.W.kitMeta T = true) (hs : PySem.W.subIn K t (.type T) = some b) : PySem.W.kitOne K t (.type T) = some b := by
  unfold PySem.W.kitOne
  rw [if_neg (by rw [hne]; exact Bool.false_ne_true)]
  show (if PySem.W.kitMeta T = true then PySem.W.subIn K t (.type T) else none) = some b
  rw [if_pos hm]
  exact hs
end Ag
namespace Ag
open PySem PySem.Spec PyProof.Rows L2 Evl

/-! ### static methods: C.m(e, ..) -/
def Sm (P : Program) (w : World) (K : PySem.W.Frag) (mg : Str → Option Value) (base : Heap) (C : Addr) (m : Str) (ps : List Str) (CX : CXT) (k : Nat) (sp : Sp) : Prop :=
  ∃ mc p g fd, ClX.CRead K C mc ∧ PySem.W.findCls K (.ref C) mc m = some (.get (.builtin "staticmethod.__get__") (.ref p) .none (.ref C)) ∧ (∃ rest, PySem.W.recIn K p "staticmethod" = some (.ref g :: rest)) ∧ PySem.W.keepIn K (.ref g) = true ∧
    Binds K fd ps [] ∧ FnOk P w K mg base CX k g fd ps sp
def tSm (C : Addr) (sp : Sp) (E : XK) (ta : TE) (t : TA) : TE := fun σ H Q => ta σ H fun x H1 => x = .ref C ∧ t σ H1 fun vs H2 => sp vs H2 Q E
section
variable {X : Cx} {CX : CXT} {pins : List (Addr × Obj)} {σ : L2.St} {H : Hp} {s : Shared} {C p g : Addr} {mc : Value} {m : Str} {A : Around} {Ee : Value → Shared → Prop}
theorem getmethsm_ok {pl : Sem Bool} {rest : List Value} {Q : Value × List Value → Shared → Prop} (I : Inv X pins σ H s) (r : ClX.CRead X.K C mc) (at_ : PySem.W.findCls X.K (.ref C) mc m = some (.get (.builtin "staticmethod.__get__") (.ref p) .none (.ref C)))
    (hp : PySem.W.recIn X.K p "staticmethod" = some (.ref g :: rest)) (h : ∀ s', Inv X pins σ H s' → Q (.ref g, []) s') : wpAny (model X.prog X.w) A (getMethod (.ref C) m pl) Q Ee s := by
  refine PySem.W.method_cls I.kIn r.ga ?_
  refine PySem.W.cls_bind I.kIn r.rd at_ ?_
  exact wpAny_call (PySem.W.sm_get (s := { s with toks := s.toks + 1 }) I.kIn hp (PySem.W.handed_on rfl (h _ (I.tok _))))
end
section
variable {X : Cx} {CX : CXT} {k j : Nat} {C : Addr} {ps : List Str} {sp : Sp} {E : XK} {m : Str} {pos apos : Pos} {e o : Expr} {es : List Expr} {ta : TE} {t : TA} {pl : Sem Bool}
theorem pe_sm (M : Sm X.prog X.w X.K X.mg X.base C m ps CX k sp) (hr : Room j X.A) (hx : Passes CX X E) (he : PE X o ta) (ha : PA X (e :: es) t) (hk : k ≤ j := by decide)
    (hst : starEach (e :: es) X.env = (false, eval e X.env) :: starEach es X.env := by rfl) (hpl : (backTo pos (starEach es X.env)).any (·.1) = false := by rfl)
    (ht : eval (.Call (.Attribute o m apos) (e :: es) [] pos) X.env = (do
      let ov ← eval o X.env
      standAt apos.atName
      let (f, first) ← holding [ov] (getMethod ov m pl)
      callWith pos f first (backTo pos (starEach (e :: es) X.env)) (backToKw pos (keywordEach [] X.env))) := by rfl) :
    PE X (.Call (.Attribute o m apos) (e :: es) [] pos) (tSm C sp E ta t) := by
  obtain ⟨mc, p, g, fd, r, at_, ⟨rest, hp⟩, kp, b, F⟩ := M
  refine ⟨fun pins s σ H Q I h => ?_⟩
  refine PySem.W.methodCall_KW (pl := pl) (thn (he.run pins s σ H _ I h) fun u s1 ⟨x, H1, I1, rx, ex, q⟩ => ?_) ht
  subst ex
  obtain rfl : u = Value.ref C := rx
  refine getmethsm_ok I1 r at_ hp fun s2 I2 => ?_
  refine PySem.W.callWith_K (h₀ := X.base) I2.ok.mod.kin kp (thn (ha.run pos pins s2 σ H1 _ I2 q) fun us s3 ⟨vs, H3, I3, rv, q3⟩ => ⟨I3.kIn, ?_⟩) hst hpl
  exact run_fn F (hr.mono hk) b .nil hx I3 rv (by simpa using q3)
theorem pe_sm0 (M : Sm X.prog X.w X.K X.mg X.base C m ps CX k sp) (hr : Room j X.A) (hx : Passes CX X E) (he : PE X o ta) (hk : k ≤ j := by decide)
    (ht : eval (.Call (.Attribute o m apos) [] [] pos) X.env = (do
      let ov ← eval o X.env
      standAt apos.atName
      let (f, first) ← holding [ov] (getMethod ov m pl)
      callWith pos f first (backTo pos (starEach [] X.env)) (backToKw pos (keywordEach [] X.env))) := by rfl) :
    PE X (.Call (.Attribute o m apos) [] [] pos) (tSm C sp E ta tNil) := by
  obtain ⟨mc, p, g, fd, r, at_, ⟨rest, hp⟩, kp, b, F⟩ := M
  refine ⟨fun pins s σ H Q I h => ?_⟩
  refine PySem.W.methodCall_KW (pl := pl) (thn (he.run pins s σ H _ I h) fun u s1 ⟨x, H1, I1, rx, ex, q⟩ => ?_) ht
  subst ex
  obtain rfl : u = Value.ref C := rx
  refine getmethsm_ok I1 r at_ hp fun s2 I2 => ?_
  exact PySem.W.callWith_K0 (first := []) I2.kIn kp (run_fn (us := []) (vs := []) F (hr.mono hk) b .nil hx I2 .nil q)
end

/-! ### an instance called: f(e, ..) -/
def tCo (C : Addr) (sp : Sp) (E : XK) (tf : TE) (t : TA) : TE := fun σ H Q => tf σ H fun y H1 => ∃ a, y = V.ref a ∧ t σ H1 fun vs H2 => (∃ dx fs, H2 a = some (.ins C dx fs)) ∧ sp (V.ref a :: vs) H2 Q E
section
variable {X : Cx} {CX : CXT} {k j : Nat} {C : Addr} {ps : List Str} {sp : Sp} {E : XK} {pos : Pos} {e fe : Expr} {es : List Expr} {tf : TE} {t : TA}
theorem pe_co (M : Mt X.prog X.w X.K X.mg X.base C "__call__" ps CX k sp) (fi : ∀ f, PySem.W.findIn X.K (.ref C) "__call__" = some (some (.ref f)) → PySem.W.fnIn X.K f = true) (hr : Room j X.A) (hx : Passes CX X E) (hf : PE X fe tf) (ha : PA X (e :: es) t) (hk : k ≤ j := by decide)
    (ht : eval (.Call fe (e :: es) [] pos) X.env = (do callWith pos (← eval fe X.env) [] (backTo pos (starEach (e :: es) X.env)) (backToKw pos (keywordEach [] X.env))) := by rfl)
    (he : starEach (e :: es) X.env = (false, eval e X.env) :: starEach es X.env := by rfl) (hpl : (backTo pos (starEach es X.env)).any (·.1) = false := by rfl) : PE X (.Call fe (e :: es) [] pos) (tCo C sp E tf t) := by
  obtain ⟨g, fd, hm, b, F⟩ := M
  have c : StX.CallO X.K C g := ⟨hm.at_, hm.fn, fi g hm.at_⟩
  have FR : FnR X.prog X.w X.K X.mg X.base CX k g sp := (F.raw b .nil).imp fun vs H Q E h => by rw [List.append_nil]; exact h
  refine ⟨fun pins s σ H Q I h => ?_⟩
  refine Call_ (thn (hf.run pins s σ H _ I h) fun u s1 ⟨y, H1, I1, ry, a, ey, q⟩ => ?_) ht
  subst ey
  obtain rfl : u = Value.ref a := ry
  refine StX.callO_with (thn (ha.run pos pins s1 σ H1 _ I1 q) fun us s2 ⟨vs, H2, I2, r, hi, q2⟩ => ?_) he hpl
  have hi' : StX.InsC X H2 a C := .inr hi
  obtain ⟨ox, od, J, hd⟩ := StX.insC_at I2 hi'
  exact ⟨⟨C, ox, od, J, hd⟩, StX.run_callO c FR (hr.mono hk) hx I2 hi' r q2⟩
end

/-! ### o[i] by an own __getitem__ -/
def rOwnIx (C : Addr) (sp : Sp) (E : XK) : R2 := fun x y H Q => ∃ a dx fs, x = .ref a ∧ H a = some (.ins C dx fs) ∧ sp [x, y] H Q E
section
variable {X : Cx} {CX : CXT} {k j : Nat} {C : Addr} {ps : List Str} {sp : Sp} {E : XK} {pos : Pos} {a b : Expr} {ta tb : TE}
theorem pe_oix (M : Mt X.prog X.w X.K X.mg X.base C "__getitem__" ps CX k sp) (fi : ∀ f, PySem.W.findIn X.K (.ref C) "__getitem__" = some (some (.ref f)) → PySem.W.fnIn X.K f = true) (hr : Room j X.A) (hx : Passes CX X E) (ha : PE X a ta) (hb : PE X b tb) (hk : k + 1 ≤ j := by decide)
    (hsl : ∀ (x : Addr) (u : Value), subscripted b true (.ref x) u = runValue (.builtin "lifetime.subscript" ⟨[.ref x, u], []⟩) := by intro _ _; with_unfolding_all rfl) :
    PE X (.Subscript a b pos) (tOp (rOwnIx C sp E) ta tb) := by
  obtain ⟨g, fd, hm, hbd, F⟩ := M
  refine ⟨fun pins s σ H Q I h => ?_⟩
  refine Subscript_ (binT ha hb I h fun v u s2 x y H2 I2 rx ry q => ?_)
  obtain ⟨a', dx, fs, rfl, h1, q⟩ := q
  cases (show v = Value.ref a' from rx)
  obtain ⟨mA, O, _⟩ := ins_get I2.hok h1
  obtain ⟨od, J, _⟩ := O.look
  obtain ⟨m, hF⟩ := I2.fr
  refine PySem.W.sub_K hF I2.ok.mod.kin J hm.at_ (fi g hm.at_) hm.fn ?_ (hsl a' u)
  exact run_in1 (us := [.ref a', u]) (vs := [.ref a', y]) F (hr.mono hk) hbd hx I2 (.cons rfl (.cons ry .nil)) q
end

/-! ### what an expression gives is locked for good -/
def tFrz (t : TE) : TE := fun σ H Q => t σ H fun v H1 => ∃ d u, H1 d = some u ∧ Mut (some u) ∧ ∀ od, Q v (upd H1 d (.frz od u))
theorem pe_frz {X : Cx} {e : Expr} {t : TE} (h : PE X e t) : PE X e (tFrz t) := by
  refine ⟨fun pins s σ H Q I hw => ?_⟩
  refine thn (h.run pins s σ H _ I hw) fun v s1 ⟨x, H1, I1, r, d, u, hd, mu, q⟩ => ?_
  obtain ⟨od, I2⟩ := I1.lock hd mu
  exact ⟨x, _, I2, r, q od⟩

/-! ### dicts of flat things compared -/
def eqK (ls ks : List (Key × V)) : Bool := ks.all fun p => match valV ls p.1 with | none => false | some y => eqV p.2 y
theorem val_mem {k : Key} {v : V} : ∀ {ls : List (Key × V)}, valV ls k = some v → ∃ p ∈ ls, p.2 = v
  | [], h => by cases h
  | p :: r, h => by
    by_cases e : p.1 = k
    · rw [valV_pos e] at h
      exact ⟨p, List.mem_cons_self, Option.some.inj h⟩
    · rw [valV_neg e] at h
      obtain ⟨p', hm, e'⟩ := val_mem h
      exact ⟨p', List.mem_cons_of_mem _ hm, e'⟩
theorem hits_gen {A : Around} {s : Shared} {ls : List (Key × V)} {vb : List (Key × Value)} (rb : KV ls vb) (fl : ∀ p ∈ ls, flatV p.2 = true) {ks : List (Key × V)} {va : List (Key × Value)} (ra : KV ks va) :
    (∀ p ∈ ks, flatV p.2 = true) → PySem.W.KeqHits A s vb va (eqK ls ks) := by
  unfold KV at ra
  induction ra with
  | nil => intro _; exact .nil
  | @cons p q ps qs h t ih =>
    intro hp
    obtain ⟨h1, h2⟩ := h
    obtain ⟨k, v⟩ := q
    have h1' : p.1 = k := h1
    have rr : RelO (valV ls p.1) (valueAt vb p.1) := rb.val p.1
    rw [h1'] at rr
    have ih := ih fun p' hm => hp p' (List.mem_cons_of_mem _ hm)
    show PySem.W.KeqHits A s vb ((k, v) :: qs) ((match valV ls p.1 with | none => false | some y => eqV p.2 y) && eqK ls ps)
    rw [h1']
    cases e : valV ls k with
    | none =>
      rw [e] at rr
      exact .miss (RelO.none_of rr)
    | some y =>
      rw [e] at rr
      obtain ⟨u, hu, ru⟩ := rr.some_of
      obtain ⟨p', hm, e'⟩ := val_mem e
      exact .hit hu (eqAt_V h2 ru (hp p List.mem_cons_self) (by rw [← e']; exact fl p' hm)) ih
def rEqK : R2 := fun x y H Q => ∃ a b ks ls, x = .ref a ∧ y = .ref b ∧ H a = some (.dK ks) ∧ H b = some (.dK ls) ∧ (∀ p ∈ ks, flatV p.2 = true) ∧ (∀ p ∈ ls, flatV p.2 = true) ∧ Q (.bl (ks.length == ls.length && eqK ls ks)) H
def rNeK : R2 := fun x y H Q => ∃ a b ks ls, x = .ref a ∧ y = .ref b ∧ H a = some (.dK ks) ∧ H b = some (.dK ls) ∧ (∀ p ∈ ks, flatV p.2 = true) ∧ (∀ p ∈ ls, flatV p.2 = true) ∧ Q (.bl (!(ks.length == ls.length && eqK ls ks))) H
section
variable {X : Cx}
theorem op_eqK (hu : X.A.units < cLine) : OpR X (compareOp .Eq) rEqK := by
  intro pins s σ H x y v u Q I rx ry h
  obtain ⟨a, b, ks, ls, rfl, rfl, ea, eb, f1, f2, q⟩ := h
  obtain rfl : v = Value.ref a := rx
  obtain rfl : u = Value.ref b := ry
  obtain ⟨_, ya, va, ra, da⟩ := (show ObjOk X.prog X.w H s.heap a (.dK ks) from I.hok a _ ea)
  obtain ⟨_, yb, vb, rb, db⟩ := (show ObjOk X.prog X.w H s.heap b (.dK ls) from I.hok b _ eb)
  refine PySem.W.keq_eq (knd := mixKind X.prog X.w) (r := eqK ls ks) ya yb da db hu (fun _ => hits_gen rb f2 ra f1) (fin_bl I q ?_)
  rw [← ra.length, ← rb.length]
theorem op_neK (hu : X.A.units < cLine) : OpR X (compareOp .NotEq) rNeK := by
  intro pins s σ H x y v u Q I rx ry h
  obtain ⟨a, b, ks, ls, rfl, rfl, ea, eb, f1, f2, q⟩ := h
  obtain rfl : v = Value.ref a := rx
  obtain rfl : u = Value.ref b := ry
  obtain ⟨_, ya, va, ra, da⟩ := (show ObjOk X.prog X.w H s.heap a (.dK ks) from I.hok a _ ea)
  obtain ⟨_, yb, vb, rb, db⟩ := (show ObjOk X.prog X.w H s.heap b (.dK ls) from I.hok b _ eb)
  refine PySem.W.keq_ne (knd := mixKind X.prog X.w) (r := eqK ls ks) ya yb da db hu (fun _ => hits_gen rb f2 ra f1) (fin_bl I q ?_)
  rw [← ra.length, ← rb.length]
end
def rDictDK : List V → Hp → VK → Prop := fun xs H Q => ∃ (a : Addr) (kvs : List (Key × V)), xs = [.ref a] ∧ Rd H a (.dK kvs) ∧ ∀ p, H p = none → Q (.ref p) (upd H p (.dK kvs))
theorem call_dictDK {X : Cx} : CallR X (.type "dict") rDictDK := call_dictD
/-! ### fields, items of dicts in expressions -/
section
variable {K : PySem.W.Frag} {σ : L2.St} {H : Hp} {ta tb te : TE} {v : V} {C dx p a : Addr} {fs : List (Str × V)} {f : Str} {kvs : List (Key × V)}
theorem ev_fld (ha : Ev ta σ H (.ref p)) (h : H p = some (.ins C dx fs)) (cl : Cls K C) (n : NoAttr K C f) (l : fs.lookup f = some v) : Ev (tFld K ta f) σ H v := fun H1 e Q q =>
  ha H1 e _ fun H2 e2 => ⟨p, C, dx, fs, v, rfl, e2 _ _ (e _ _ h), cl, n, l, q H2 e2⟩
theorem ev_dget {k : Key} (hd : Ev ta σ H (.ref a)) (hk : Ev tb σ H (kV k)) (ha : H a = some (.dK kvs)) (hv : valV kvs k = some v) : Ev (tDGet ta tb) σ H v := fun H1 e Q q =>
  hd H1 e _ fun H2 e2 => hk H2 (e.trans e2) _ fun H3 e3 => ⟨a, v, rfl, by rw [← hv]; exact DGet.k ((e.trans (e2.trans e3)) _ _ ha), q H3 (e2.trans e3)⟩
theorem ev_propP {sp : Sp} {E : XK} (ha : Ev ta σ H (.ref p)) (h : H p = some (.ins C dx fs)) (hs : ∀ H1, Ex H H1 → ∀ Q : VK, (∀ H2, Ex H1 H2 → Q v H2) → sp [.ref p] H1 Q E) : Ev (tProp C sp [] E ta) σ H v := fun H1 e Q q =>
  ha H1 e _ fun H2 e2 => ⟨p, dx, fs, rfl, e2 _ _ (e _ _ h), hs H2 (e.trans e2) Q fun H3 e3 => q H3 (e2.trans e3)⟩
end
theorem lookup_hd {f : Str} {v : V} {fs : List (Str × V)} : List.lookup f ((f, v) :: fs) = some v := by simp [List.lookup]
theorem lookup_tl {f g : Str} {v : V} {fs : List (Str × V)} (h : ¬ g = f) : List.lookup g ((f, v) :: fs) = List.lookup g fs := by
  have e : (g == f) = false := by simpa using h
  simp [List.lookup, e]

/-! ### methods, stores to fields -/
section
variable {K : PySem.W.Frag} {σ : L2.St} {H : Hp} {ta tb te tv : TE} {v : V} {C dx p a : Addr} {fs : List (Str × V)} {f m : Str} {kvs : List (Key × V)} {t : TA} {vs : List V} {u : TS} {D : Ends} {φ : V → Hp → Prop}
theorem ev_meth {sp : Sp} {E : XK} (ha : Ev ta σ H (.ref p)) (h : H p = some (.ins C dx fs)) (l : fs.lookup m = none) (hv : EvA t σ H vs) (hs : ∀ H1, Ex H H1 → ∀ Q : VK, (∀ H2, Ex H1 H2 → Q v H2) → sp (.ref p :: (vs ++ [])) H1 Q E) : Ev (tMeth C m sp [] E ta t) σ H v := fun H1 e Q q =>
  ha H1 e _ fun H2 e2 => ⟨p, dx, fs, rfl, e2 _ _ (e _ _ h), l, hv H2 (e.trans e2) _ fun H3 e3 => hs H3 ((e.trans e2).trans e3) Q fun H4 e4 => q H4 ((e2.trans e3).trans e4)⟩
theorem evp_meth {sp : Sp} {E : XK} (ha : Ev ta σ H (.ref p)) (h : H p = some (.ins C dx fs)) (l : fs.lookup m = none) (hv : EvA t σ H vs) (hs : ∀ H1, Ex H H1 → ∀ Q : VK, (∀ v H2, Ex H1 H2 → φ v H2 → Q v H2) → sp (.ref p :: (vs ++ [])) H1 Q E) : EvP (tMeth C m sp [] E ta t) σ H φ := fun H1 e Q q =>
  ha H1 e _ fun H2 e2 => ⟨p, dx, fs, rfl, e2 _ _ (e _ _ h), l, hv H2 (e.trans e2) _ fun H3 e3 => hs H3 ((e.trans e2).trans e3) Q fun v H4 e4 z => q v H4 ((e2.trans e3).trans e4) z⟩
theorem evp_call {sp : Sp} {E : XK} (hv : EvA t σ H vs) (hs : ∀ H1, Ex H H1 → ∀ Q : VK, (∀ v H2, Ex H1 H2 → φ v H2 → Q v H2) → sp (vs ++ []) H1 Q E) : EvP (tCall sp [] E t) σ H φ := fun H1 e Q q =>
  hv H1 e _ fun H2 e2 => hs H2 (e.trans e2) Q fun v H3 e3 z => q v H3 (e2.trans e3) z
theorem evp_sm {sp : Sp} {E : XK} (hv : EvA t σ H vs) (hs : ∀ H1, Ex H H1 → ∀ Q : VK, (∀ v H2, Ex H1 H2 → φ v H2 → Q v H2) → sp vs H1 Q E) : EvP (tSm C sp E (tC (.ref C)) t) σ H φ := fun H1 e Q q =>
  ⟨rfl, hv H1 e _ fun H2 e2 => hs H2 (e.trans e2) Q fun v H3 e3 z => q v H3 (e2.trans e3) z⟩
theorem ev_co {sp : Sp} {E : XK} (ha : Ev ta σ H (.ref p)) (h : H p = some (.ins C dx fs)) (hv : EvA t σ H vs) (hs : ∀ H1, Ex H H1 → ∀ Q : VK, (∀ H2, Ex H1 H2 → Q v H2) → sp (.ref p :: vs) H1 Q E) : Ev (tCo C sp E ta t) σ H v := fun H1 e Q q =>
  ha H1 e _ fun H2 e2 => ⟨p, rfl, hv H2 (e.trans e2) _ fun H3 e3 => ⟨⟨dx, fs, e3 _ _ (e2 _ _ (e _ _ h))⟩, hs H3 ((e.trans e2).trans e3) Q fun H4 e4 => q H4 ((e2.trans e3).trans e4)⟩⟩
theorem evp_oix {sp : Sp} {E : XK} {y : V} (ha : Ev ta σ H (.ref p)) (hb : Ev tb σ H y) (h : H p = some (.ins C dx fs)) (hs : ∀ H1, Ex H H1 → ∀ Q : VK, (∀ v H2, Ex H1 H2 → φ v H2 → Q v H2) → sp [.ref p, y] H1 Q E) : EvP (tOp (rOwnIx C sp E) ta tb) σ H φ := fun H1 e Q q =>
  ha H1 e _ fun H2 e2 => hb H2 (e.trans e2) (fun y H3 => rOwnIx C sp E (.ref p) y H3 Q) fun H3 e3 => ⟨p, dx, fs, rfl, e3 _ _ (e2 _ _ (e _ _ h)), hs H3 ((e.trans e2).trans e3) Q fun v H4 e4 z => q v H4 ((e2.trans e3).trans e4) z⟩
theorem ev_isN (ha : Ev ta σ H v) : Ev (tOp (fun x y H Q => y = .non ∧ Q (.bl (decide (x = .non))) H) ta (tC .non)) σ H (.bl (decide (v = .non))) :=
  ev_op ha ev_c fun H1 _ _ q => ⟨rfl, q H1 (Ex.refl H1)⟩
theorem q_fld (hv : Ev tv σ H v) (ha : Ev ta σ H (.ref p)) (h : H p = some (.ins C dx fs)) (cl : Cls K C) (n : NoAttr K C f) (hl : fs.length < 1000) (q : ∀ H1, Ex H H1 → u D σ (upd H1 p (.ins C dx (putF f v fs)))) : tSeq (sFld K ta tv f) u D σ H :=
  hv H (Ex.refl H) _ fun H1 e1 => ha H1 e1 _ fun H2 e2 => ⟨p, C, dx, fs, rfl, e2 _ _ (e1 _ _ h), cl, n, hl, q H2 (e1.trans e2)⟩
theorem s_fld (hv : Ev tv σ H v) (ha : Ev ta σ H (.ref p)) (h : H p = some (.ins C dx fs)) (cl : Cls K C) (n : NoAttr K C f) (hl : fs.length < 1000) (q : ∀ H1, Ex H H1 → D.nx σ (upd H1 p (.ins C dx (putF f v fs)))) : sFld K ta tv f D σ H :=
  hv H (Ex.refl H) _ fun H1 e1 => ha H1 e1 _ fun H2 e2 => ⟨p, C, dx, fs, rfl, e2 _ _ (e1 _ _ h), cl, n, hl, q H2 (e1.trans e2)⟩
theorem q_fldK (hv : EvK tv σ H kvs) (ha : Ev ta σ H (.ref p)) (h : H p = some (.ins C dx fs)) (cl : Cls K C) (n : NoAttr K C f) (hl : fs.length < 1000) (q : ∀ d H1, H d = none → Ex H H1 → H1 d = some (.dK kvs) → u D σ (upd H1 p (.ins C dx (putF f (.ref d) fs)))) : tSeq (sFld K ta tv f) u D σ H :=
  hv H (Ex.refl H) _ fun d H1 nd e1 hd => ha H1 e1 _ fun H2 e2 => ⟨p, C, dx, fs, rfl, e2 _ _ (e1 _ _ h), cl, n, hl, q d H2 nd (e1.trans e2) (e2 _ _ hd)⟩
end
theorem kp_upd {p : Addr} {o : HO} {H H' : Hp} (k : Kp p H H') : Kp p H (upd H' p o) := fun b u n e => by rw [upd_ne n]; exact k b u n e
theorem ex_kpm {p : Addr} {H H' : Hp} (k : Kp p H H') (n : H p = none) : Ex H H' := fun b o e => k b o (fun z => by rw [z, n] at e; cases e) e
/-! ### for mark, back in d.items(): self.f[mark] = n - back -/
def bkv (kb : Str × Int) : Key × V := (.inr kb.1, .int kb.2)
def puts (n : Int) : List (Str × Int) → List (Key × V) → List (Key × V)
  | [], k => k
  | (x, b) :: r, k => puts n r (putK k (.inr x) (.int (n - b)))
theorem putK_len (kvs : List (Key × V)) (k : Key) (v : V) : (putK kvs k v).length ≤ kvs.length + 1 := by
  unfold putK
  split
  · rw [List.length_map]; omega
  · rw [List.length_append]; simp
theorem puts_len (n : Int) : ∀ (bs : List (Str × Int)) (k : List (Key × V)), (puts n bs k).length ≤ k.length + bs.length
  | [], k => by simp [puts]
  | (x, b) :: r, k => by
    have h1 := puts_len n r (putK k (.inr x) (.int (n - b)))
    have h2 := putK_len k (.inr x) (.int (n - b))
    simp only [puts, List.length_cons]
    omega
theorem puts_one (n : Int) : ∀ (bs : List (Str × Int)) (i : Nat) (x : Str) (b : Int) (k : List (Key × V)), bs[i]? = some (x, b) → puts n (bs.take (i + 1)) k = putK (puts n (bs.take i) k) (.inr x) (.int (n - b))
  | [], i, _, _, _, h => by simp at h
  | (y, c) :: r, 0, x, b, k, h => by
    obtain ⟨rfl, rfl⟩ : y = x ∧ c = b := by simpa using h
    rfl
  | (y, c) :: r, i + 1, x, b, k, h => by
    simp only [List.take_succ_cons, puts]
    exact puts_one n r i x b _ (by simpa using h)
theorem put_loop {K : PySem.W.Frag} {te : TE} {r : R2} {CF p d dx : Addr} {fs : List (Str × V)} {f : Str} {bs : List (Str × Int)} {n : Int} {k0 : List (Key × V)} {ks : Nat} {x1 x2 x3 x4 y z : Option V} {H : Hp} {D : Ends}
    (he : EvK te [some (.ref p), x1, x2, x3, x4, y, z] H (bs.map bkv)) (cl : Cls K CF) (nT : NoAttr K CF f) (hp : H p = some (.ins CF dx fs)) (lt : fs.lookup f = some (.ref d)) (hd : H d = some (.dK k0)) (hl : k0.length + bs.length ≤ 100)
    (hs : ∀ y z, [some (.ref p), x1, x2, x3, x4, y, z][ks]? = some (some (.int n))) (hr : ∀ (i j : Int) H, RV r (.int i) (.int j) H (.int (i - j)))
    (fin : ∀ q od y z H1 H', H q = none → Ex H H1 → H' q = some (.frz od (.dK (bs.map bkv))) → H' d = some (.dK (puts n bs k0)) → Kp d H1 H' → D.nx [some (.ref p), x1, x2, x3, x4, y, z] H') :
    tFor (iItems (tFrz te)) (gTup K 2 (gCons (gName 5) (gCons (gName 6) gNil))) (sDPut (tFld K (tVar 0) f) (tVar 5) (tOp r (tVar ks) (tVar 6))) D [some (.ref p), x1, x2, x3, x4, y, z] H := by
  refine he H (Ex.refl H) _ fun q H1 nq e1 hq => ⟨q, _, hq, trivial, fun od => ⟨q, od, _, rfl, upd_same, ?_⟩⟩
  have e2 : Ex H (upd H1 q (.frz od (.dK (bs.map bkv)))) := Ex.mut e1 nq
  have dq : d ≠ q := fun z => by rw [z, nq] at hd; cases hd
  have pq : p ≠ q := fun z => by rw [z, nq] at hp; cases hp
  have pd : p ≠ d := ne_of hp hd (fun z => nomatch z)
  generalize hG : upd H1 q (.frz od (.dK (bs.map bkv))) = H2 at e2 ⊢
  have h2q : H2 q = some (.frz od (.dK (bs.map bkv))) := by rw [← hG]; exact upd_same
  refine for_it walk_items (fun i σ' H' => ∃ y z, σ' = [some (.ref p), x1, x2, x3, x4, y, z] ∧ H' d = some (.dK (puts n (bs.take i) k0)) ∧ Kp d H2 H') ⟨y, z, rfl, by rw [List.take_zero]; exact e2 _ _ hd, Kp.refl⟩ ?_ ?_ ?_
  · rintro i σ' H' _ ⟨y, z, rfl, h1, h2⟩
    exact h2 _ _ dq.symm h2q
  · rintro i x σ' H3 H4 hi ⟨y, z, rfl, h1, h2⟩ ⟨T, kx, vx, rfl, nT', rfl, hk, hv⟩
    rw [List.length_map] at hi
    obtain ⟨⟨mk, bk⟩, hb⟩ : ∃ b, bs[i]? = some b := ⟨_, List.getElem?_eq_getElem hi⟩
    have e3 : (bs.map bkv)[i]? = some (bkv (mk, bk)) := by rw [List.getElem?_map, hb]; rfl
    dsimp only at hk hv
    rw [e3] at hk hv
    obtain rfl : V.str mk = kx := Option.some.inj hk
    obtain rfl : V.int bk = vx := Option.some.inj hv
    refine ⟨T, _, rfl, st_of upd_same, rfl, _, _, rfl, _, _, rfl, rfl, ?_⟩
    have e4 : Ex H3 (upd H3 T (.tup [.str mk, .int bk])) := Ex.new nT'
    have hp4 := e4 _ _ (h2 _ _ pd (e2 _ _ hp))
    have hd4 := e4 _ _ h1
    have k4 : Kp d H2 (upd H3 T (.tup [.str mk, .int bk])) := h2.trans (Kp.same e4)
    generalize upd H3 T (.tup [.str mk, .int bk]) = H4 at hp4 hd4 k4 ⊢
    refine (ev_op (ev_var (hs _ _)) (ev_var rfl) (hr n bk H4)) H4 (Ex.refl H4) _ fun H5 e5 => ?_
    refine ⟨_, rfl, p, CF, dx, fs, _, rfl, e5 _ _ hp4, cl, nT, lt, _, rfl, d, _, rfl, DPut.k (k := .inr mk) (e5 _ _ hd4) ?_, ?_⟩
    · have h3 := puts_len n (bs.take i) k0
      have h4 : (bs.take i).length ≤ bs.length := by rw [List.length_take]; omega
      exact Nat.lt_of_le_of_lt (by omega) (by decide : 100 < sizeLine)
    · refine ⟨_, _, rfl, ?_, kp_upd (k4.trans (Kp.same e5))⟩
      rw [upd_same, puts_one n bs i mk bk k0 hb]
  · rintro σ' H' ⟨y, z, rfl, h1, h2⟩
    rw [List.length_map, List.take_length] at h1
    refine fin q od y z H2 H' nq e2 (h2 _ _ dq.symm h2q) h1 h2
theorem q_put_loop {K : PySem.W.Frag} {te : TE} {r : R2} {CF p d dx : Addr} {fs : List (Str × V)} {f : Str} {bs : List (Str × Int)} {n : Int} {k0 : List (Key × V)} {ks : Nat} {x1 x2 x3 x4 y z : Option V} {H : Hp} {D : Ends} {u : TS}
    (he : EvK te [some (.ref p), x1, x2, x3, x4, y, z] H (bs.map bkv)) (cl : Cls K CF) (nT : NoAttr K CF f) (hp : H p = some (.ins CF dx fs)) (lt : fs.lookup f = some (.ref d)) (hd : H d = some (.dK k0)) (hl : k0.length + bs.length ≤ 100)
    (hs : ∀ y z, [some (.ref p), x1, x2, x3, x4, y, z][ks]? = some (some (.int n))) (hr : ∀ (i j : Int) H, RV r (.int i) (.int j) H (.int (i - j)))
    (fin : ∀ q od y z H1 H', H q = none → Ex H H1 → H' q = some (.frz od (.dK (bs.map bkv))) → H' d = some (.dK (puts n bs k0)) → Kp d H1 H' → u D [some (.ref p), x1, x2, x3, x4, y, z] H') :
    tSeq (tFor (iItems (tFrz te)) (gTup K 2 (gCons (gName 5) (gCons (gName 6) gNil))) (sDPut (tFld K (tVar 0) f) (tVar 5) (tOp r (tVar ks) (tVar 6)))) u D [some (.ref p), x1, x2, x3, x4, y, z] H :=
  put_loop (D := { D with nx := u D }) he cl nT hp lt hd hl hs hr fin
/-- the dict that is walked stands already, at q -/
theorem q_put_loopV {K : PySem.W.Frag} {r : R2} {CF p d dx q : Addr} {fs : List (Str × V)} {f : Str} {bs : List (Str × Int)} {n : Int} {k0 : List (Key × V)} {ks kq : Nat} {x1 x2 x3 x4 y z : Option V} {H : Hp} {D : Ends} {u : TS}
    (hv : [some (.ref p), x1, x2, x3, x4, y, z][kq]? = some (some (.ref q))) (hq0 : H q = some (.dK (bs.map bkv))) (dq : d ≠ q) (cl : Cls K CF) (nT : NoAttr K CF f) (hp : H p = some (.ins CF dx fs)) (lt : fs.lookup f = some (.ref d)) (hd : H d = some (.dK k0)) (hl : k0.length + bs.length ≤ 100)
    (hs : ∀ y z, [some (.ref p), x1, x2, x3, x4, y, z][ks]? = some (some (.int n))) (hr : ∀ (i j : Int) H, RV r (.int i) (.int j) H (.int (i - j)))
    (fin : ∀ od y z H', H' q = some (.frz od (.dK (bs.map bkv))) → H' d = some (.dK (puts n bs k0)) → (∀ b o, b ≠ d → b ≠ q → H b = some o → H' b = some o) → u D [some (.ref p), x1, x2, x3, x4, y, z] H') :
    tSeq (tFor (iItems (tFrz (tVar kq))) (gTup K 2 (gCons (gName 5) (gCons (gName 6) gNil))) (sDPut (tFld K (tVar 0) f) (tVar 5) (tOp r (tVar ks) (tVar 6)))) u D [some (.ref p), x1, x2, x3, x4, y, z] H := by
  refine ⟨_, hv, q, _, hq0, trivial, fun od => ⟨q, od, _, rfl, upd_same, ?_⟩⟩
  have pq : p ≠ q := ne_of hp hq0 (fun z => nomatch z)
  have pd : p ≠ d := ne_of hp hd (fun z => nomatch z)
  generalize hG : upd H q (.frz od (.dK (bs.map bkv))) = H2
  have h2q : H2 q = some (.frz od (.dK (bs.map bkv))) := by rw [← hG]; exact upd_same
  have k2 : Kp q H H2 := by rw [← hG]; exact kp_upd Kp.refl
  refine for_it (D := { D with nx := u D }) walk_items (fun i σ' H' => ∃ y z, σ' = [some (.ref p), x1, x2, x3, x4, y, z] ∧ H' d = some (.dK (puts n (bs.take i) k0)) ∧ Kp d H2 H') ⟨y, z, rfl, by rw [List.take_zero]; exact k2 _ _ dq hd, Kp.refl⟩ ?_ ?_ ?_
  · rintro i σ' H' _ ⟨y, z, rfl, h1, h2⟩
    exact h2 _ _ dq.symm h2q
  · rintro i x σ' H3 H4 hi ⟨y, z, rfl, h1, h2⟩ ⟨T, kx, vx, rfl, nT', rfl, hk, hv⟩
    rw [List.length_map] at hi
    obtain ⟨⟨mk, bk⟩, hb⟩ : ∃ b, bs[i]? = some b := ⟨_, List.getElem?_eq_getElem hi⟩
    have e3 : (bs.map bkv)[i]? = some (bkv (mk, bk)) := by rw [List.getElem?_map, hb]; rfl
    dsimp only at hk hv
    rw [e3] at hk hv
    obtain rfl : V.str mk = kx := Option.some.inj hk
    obtain rfl : V.int bk = vx := Option.some.inj hv
    refine ⟨T, _, rfl, st_of upd_same, rfl, _, _, rfl, _, _, rfl, rfl, ?_⟩
    have e4 : Ex H3 (upd H3 T (.tup [.str mk, .int bk])) := Ex.new nT'
    have hp4 := e4 _ _ (h2 _ _ pd (k2 _ _ pq hp))
    have hd4 := e4 _ _ h1
    have k4 : Kp d H2 (upd H3 T (.tup [.str mk, .int bk])) := h2.trans (Kp.same e4)
    generalize upd H3 T (.tup [.str mk, .int bk]) = H4 at hp4 hd4 k4 ⊢
    refine (ev_op (ev_var (hs _ _)) (ev_var rfl) (hr n bk H4)) H4 (Ex.refl H4) _ fun H5 e5 => ?_
    refine ⟨_, rfl, p, CF, dx, fs, _, rfl, e5 _ _ hp4, cl, nT, lt, _, rfl, d, _, rfl, DPut.k (k := .inr mk) (e5 _ _ hd4) ?_, ?_⟩
    · have h3 := puts_len n (bs.take i) k0
      have h4 : (bs.take i).length ≤ bs.length := by rw [List.length_take]; omega
      exact Nat.lt_of_le_of_lt (by omega) (by decide : 100 < sizeLine)
    · refine ⟨_, _, rfl, ?_, kp_upd (k4.trans (Kp.same e5))⟩
      rw [upd_same, puts_one n bs i mk bk k0 hb]
  · rintro σ' H' ⟨y, z, rfl, h1, h2⟩
    rw [List.length_map, List.take_length] at h1
    exact fin od y z H' (h2 _ _ dq.symm h2q) h1 fun b o nd nq e => h2 _ _ nd (k2 _ _ nq e)
end Ag
namespace Ag
open PySem PySem.Spec PyProof.Rows L2 Evl
def top (i : Nat) : Stmt := PySem.Challenge.pw_agedfiles_k08_whole_files_deed_by_deed.main.body.getD i (.Pass ⟨0, 0, 0, 0⟩)
abbrev s_is_whole : Stmt := top 9
abbrev s_is_between : Stmt := top 10
abbrev s_is_time : Stmt := top 15
abbrev s_is_deed : Stmt := top 16
abbrev s_makes : Stmt := top 17
abbrev s_backs : Stmt := top 20
abbrev s_Moment___init__ : Stmt := inClass (top 23) 0
abbrev s_Moment_seconds : Stmt := inClass (top 23) 1
abbrev s_Moment_behind : Stmt := inClass (top 23) 7
abbrev s_Moment___le__ : Stmt := inClass (top 23) 9
abbrev s_Moment___eq__ : Stmt := inClass (top 23) 12
abbrev s_seconds_of : Stmt := top 24
abbrev s_Rule___init__ : Stmt := inClass (top 28) 0
abbrev s_Rule_always : Stmt := inClass (top 28) 1
abbrev s_Rule_never : Stmt := inClass (top 28) 2
abbrev s_Rule_seldom : Stmt := inClass (top 28) 3
abbrev s_Rule_word : Stmt := inClass (top 28) 4
abbrev s_Rule_after : Stmt := inClass (top 28) 5
abbrev s_Rule_sets : Stmt := inClass (top 28) 6
abbrev s_Rule___call__ : Stmt := inClass (top 28) 7
abbrev s_Rule___eq__ : Stmt := inClass (top 28) 8
abbrev s_check_rule : Stmt := top 29
abbrev s_File___init__ : Stmt := inClass (top 32) 0
abbrev s_File___getitem__ : Stmt := inClass (top 32) 1
abbrev s_File_marks : Stmt := inClass (top 32) 3
abbrev s_File_do : Stmt := inClass (top 32) 4
abbrev s_File_double : Stmt := inClass (top 32) 11
abbrev s_File___eq__ : Stmt := inClass (top 32) 12
abbrev s__law_source : Stmt := top 34
abbrev s__law_draw : Stmt := top 35
abbrev s__law_pick : Stmt := top 36
abbrev s__law_rule : Stmt := top 37
abbrev s__law_rule_row : Stmt := top 43
abbrev s__law_maker : Stmt := top 41
abbrev s__law_user : Stmt := top 42
abbrev s_is_looks : Stmt := top 18
abbrev s_all_looks : Stmt := top 19
abbrev s_File_last : Stmt := inClass (top 32) 5
abbrev s_File_held : Stmt := inClass (top 32) 7
abbrev s_File_latest : Stmt := inClass (top 32) 6
abbrev s__law_sets : Stmt := top 38
abbrev s__law_backs : Stmt := top 39
abbrev s__law_done : Stmt := top 40
abbrev s__law_latest : Stmt := top 44
abbrev s__law_is : Stmt := top 45
abbrev s__law_unlike : Stmt := top 46
abbrev s_law : Stmt := top 47
theorem sc_is_whole : FnScope ["value"] ["value"] (defScope s_is_whole) := ⟨rfl, rfl, rfl, by decide +kernel, rfl, by decide +kernel, by decide +kernel⟩
theorem sc_is_between : FnScope ["value", "low", "high"] ["value", "low", "high"] (defScope s_is_between) := ⟨rfl, rfl, rfl, by decide +kernel, rfl, by decide +kernel, by decide +kernel⟩
theorem sc_is_time : FnScope ["value"] ["value"] (defScope s_is_time) := ⟨rfl, rfl, rfl, by decide +kernel, rfl, by decide +kernel, by decide +kernel⟩
theorem sc_is_deed : FnScope ["value"] ["value"] (defScope s_is_deed) := ⟨rfl, rfl, rfl, by decide +kernel, rfl, by decide +kernel, by decide +kernel⟩
theorem sc_makes : FnScope ["value"] ["value"] (defScope s_makes) := ⟨rfl, rfl, rfl, by decide +kernel, rfl, by decide +kernel, by decide +kernel⟩
theorem sc_backs : FnScope ["deed", "word"] ["deed"] (defScope s_backs) := ⟨rfl, rfl, rfl, by decide +kernel, rfl, by decide +kernel, by decide +kernel⟩
theorem sc_Moment___init__ : FnScope ["self", "seconds"] ["self", "seconds"] (defScope s_Moment___init__) := ⟨rfl, rfl, rfl, by decide +kernel, rfl, by decide +kernel, by decide +kernel⟩
theorem sc_Moment_seconds : FnScope ["self"] ["self"] (defScope s_Moment_seconds) := ⟨rfl, rfl, rfl, by decide +kernel, rfl, by decide +kernel, by decide +kernel⟩
theorem sc_Moment_behind : FnScope ["self", "other"] ["self", "other"] (defScope s_Moment_behind) := ⟨rfl, rfl, rfl, by decide +kernel, rfl, by decide +kernel, by decide +kernel⟩
theorem sc_Moment___le__ : FnScope ["self", "other"] ["self", "other"] (defScope s_Moment___le__) := ⟨rfl, rfl, rfl, by decide +kernel, rfl, by decide +kernel, by decide +kernel⟩
theorem sc_Moment___eq__ : FnScope ["self", "other"] ["self", "other"] (defScope s_Moment___eq__) := ⟨rfl, rfl, rfl, by decide +kernel, rfl, by decide +kernel, by decide +kernel⟩
theorem sc_seconds_of : FnScope ["value"] ["value"] (defScope s_seconds_of) := ⟨rfl, rfl, rfl, by decide +kernel, rfl, by decide +kernel, by decide +kernel⟩
theorem sc_Rule___init__ : FnScope ["self", "word", "after"] ["self", "word", "after"] (defScope s_Rule___init__) := ⟨rfl, rfl, rfl, by decide +kernel, rfl, by decide +kernel, by decide +kernel⟩
theorem sc_Rule_always : FnScope [] [] (defScope s_Rule_always) := ⟨rfl, rfl, rfl, by decide +kernel, rfl, by decide +kernel, by decide +kernel⟩
theorem sc_Rule_never : FnScope [] [] (defScope s_Rule_never) := ⟨rfl, rfl, rfl, by decide +kernel, rfl, by decide +kernel, by decide +kernel⟩
theorem sc_Rule_seldom : FnScope ["after"] ["after"] (defScope s_Rule_seldom) := ⟨rfl, rfl, rfl, by decide +kernel, rfl, by decide +kernel, by decide +kernel⟩
theorem sc_Rule_word : FnScope ["self"] ["self"] (defScope s_Rule_word) := ⟨rfl, rfl, rfl, by decide +kernel, rfl, by decide +kernel, by decide +kernel⟩
theorem sc_Rule_after : FnScope ["self"] ["self"] (defScope s_Rule_after) := ⟨rfl, rfl, rfl, by decide +kernel, rfl, by decide +kernel, by decide +kernel⟩
theorem sc_Rule_sets : FnScope ["self", "marks", "at", "read"] ["self", "marks", "at"] (defScope s_Rule_sets) := ⟨rfl, rfl, rfl, by decide +kernel, rfl, by decide +kernel, by decide +kernel⟩
theorem sc_Rule___call__ : FnScope ["self", "file", "at", "seconds"] ["self", "file", "at"] (defScope s_Rule___call__) := ⟨rfl, rfl, rfl, by decide +kernel, rfl, by decide +kernel, by decide +kernel⟩
theorem sc_Rule___eq__ : FnScope ["self", "other"] ["self", "other"] (defScope s_Rule___eq__) := ⟨rfl, rfl, rfl, by decide +kernel, rfl, by decide +kernel, by decide +kernel⟩
theorem sc_check_rule : FnScope ["value"] ["value"] (defScope s_check_rule) := ⟨rfl, rfl, rfl, by decide +kernel, rfl, by decide +kernel, by decide +kernel⟩
theorem sc_File___init__ : FnScope ["self", "rule", "deed", "at", "seconds", "mark", "back"] ["self", "rule", "deed", "at"] (defScope s_File___init__) := ⟨rfl, rfl, rfl, by decide +kernel, rfl, by decide +kernel, by decide +kernel⟩
theorem sc_File___getitem__ : FnScope ["self", "mark"] ["self", "mark"] (defScope s_File___getitem__) := ⟨rfl, rfl, rfl, by decide +kernel, rfl, by decide +kernel, by decide +kernel⟩
theorem sc_File_marks : FnScope ["self"] ["self"] (defScope s_File_marks) := ⟨rfl, rfl, rfl, by decide +kernel, rfl, by decide +kernel, by decide +kernel⟩
theorem sc_File_do : FnScope ["self", "deed", "at", "seconds", "setting", "mark", "back"] ["self", "deed", "at"] (defScope s_File_do) := ⟨rfl, rfl, rfl, by decide +kernel, rfl, by decide +kernel, by decide +kernel⟩
theorem sc_File_double : FnScope ["self", "found"] ["self"] (defScope s_File_double) := ⟨rfl, rfl, rfl, by decide +kernel, rfl, by decide +kernel, by decide +kernel⟩
theorem sc_File___eq__ : FnScope ["self", "other"] ["self", "other"] (defScope s_File___eq__) := ⟨rfl, rfl, rfl, by decide +kernel, rfl, by decide +kernel, by decide +kernel⟩
theorem sc__law_source : FnScope ["script", "turn", "cell", "number", "seed"] ["script", "turn"] (defScope s__law_source) := ⟨rfl, rfl, rfl, by decide +kernel, rfl, by decide +kernel, by decide +kernel⟩
theorem sc__law_draw : FnScope ["source", "amount", "digit", "found"] ["source", "amount"] (defScope s__law_draw) := ⟨rfl, rfl, rfl, by decide +kernel, rfl, by decide +kernel, by decide +kernel⟩
theorem sc__law_pick : FnScope ["source", "items"] ["source", "items"] (defScope s__law_pick) := ⟨rfl, rfl, rfl, by decide +kernel, rfl, by decide +kernel, by decide +kernel⟩
theorem sc__law_rule : FnScope ["row"] ["row"] (defScope s__law_rule) := ⟨rfl, rfl, rfl, by decide +kernel, rfl, by decide +kernel, by decide +kernel⟩
theorem sc__law_rule_row : FnScope ["source", "most", "word"] ["source", "most"] (defScope s__law_rule_row) := ⟨rfl, rfl, rfl, by decide +kernel, rfl, by decide +kernel, by decide +kernel⟩
theorem sc__law_maker : FnScope ["source", "back"] ["source", "back"] (defScope s__law_maker) := ⟨rfl, rfl, rfl, by decide +kernel, rfl, by decide +kernel, by decide +kernel⟩
theorem sc__law_user : FnScope ["source", "back"] ["source", "back"] (defScope s__law_user) := ⟨rfl, rfl, rfl, by decide +kernel, rfl, by decide +kernel, by decide +kernel⟩
theorem sc_is_looks : FnScope ["value"] ["value"] (defScope s_is_looks) := ⟨rfl, rfl, rfl, by decide +kernel, rfl, by decide +kernel, by decide +kernel⟩
theorem sc_all_looks : FnScope ["found", "mark", "looks"] [] (defScope s_all_looks) := ⟨rfl, rfl, rfl, by decide +kernel, rfl, by decide +kernel, by decide +kernel⟩
theorem sc_File_last : FnScope ["self"] ["self"] (defScope s_File_last) := ⟨rfl, rfl, rfl, by decide +kernel, rfl, by decide +kernel, by decide +kernel⟩
theorem sc_File_held : FnScope ["self"] ["self"] (defScope s_File_held) := ⟨rfl, rfl, rfl, by decide +kernel, rfl, by decide +kernel, by decide +kernel⟩
theorem sc_File_latest : FnScope ["self", "looks", "mark"] ["self", "looks"] (defScope s_File_latest) := ⟨rfl, rfl, rfl, by decide +kernel, rfl, by decide +kernel, by decide +kernel⟩
theorem sc__law_sets : FnScope ["marks", "row", "at"] ["marks", "row", "at"] (defScope s__law_sets) := ⟨rfl, rfl, rfl, by decide +kernel, rfl, by decide +kernel, by decide +kernel⟩
theorem sc__law_backs : FnScope ["deed"] ["deed"] (defScope s__law_backs) := ⟨rfl, rfl, rfl, by decide +kernel, rfl, by decide +kernel, by decide +kernel⟩
theorem sc__law_done : FnScope ["marks", "row", "deed", "at", "later", "setting", "mark"] ["marks", "row", "deed", "at"] (defScope s__law_done) := ⟨rfl, rfl, rfl, by decide +kernel, rfl, by decide +kernel, by decide +kernel⟩
theorem sc__law_latest : FnScope ["marks", "looks", "found", "mark"] ["marks", "looks"] (defScope s__law_latest) := ⟨rfl, rfl, rfl, by decide +kernel, rfl, by decide +kernel, by decide +kernel⟩
theorem sc__law_is : FnScope ["file", "marks", "last", "looks", "mark"] ["file", "marks", "last"] (defScope s__law_is) := ⟨rfl, rfl, rfl, by decide +kernel, rfl, by decide +kernel, by decide +kernel⟩
theorem sc__law_unlike : FnScope ["row", "at", "some", "plain", "one"] ["row", "at"] (defScope s__law_unlike) := ⟨rfl, rfl, rfl, by decide +kernel, rfl, by decide +kernel, by decide +kernel⟩
theorem sc_law : FnScope ["script", "source", "row", "at", "deed", "file", "first", "marks", "begun", "turn", "back", "later", "setting", "twin", "told"] ["script"] (defScope s_law) := ⟨rfl, rfl, rfl, by decide +kernel, rfl, by decide +kernel, by decide +kernel⟩
section
variable {P : Program} {w : World} {K : PySem.W.Frag} {mg : Str → Option Value} {base : Heap}
theorem ok_is_whole {f : Addr} {fd : FuncData} (F : Fun K "is_whole" "is_whole" s_is_whole f fd) (B : Bl mg) : FnOk P w K mg base CX0 1 f fd ["value"] (spWhole K) := by
  refine F.ok sc_is_whole (fun vs H Q E h => ?_) (fun cdv A outer s H vs Q E hr h => ?_)
  · obtain ⟨i, rfl, _⟩ | ⟨x, rfl, _⟩ := h <;> rfl
  · refine ⟨_, (pss_one (ps_ret (pe_and (pe_callB call_isi (by rfl) B.isinstance_ (by decide +kernel) (pa_cons (pv 0) (pa_cons (pe_ty "int" (by rfl) B.int_ (by decide +kernel)) pa_nil))) (pe_one (pe_not (pe_callB call_isi (by rfl) B.isinstance_ (by decide +kernel) (pa_cons (pv 0) (pa_cons (pe_ty "bool" (by rfl) B.bool_ (by decide +kernel)) pa_nil)))))))), ?_⟩
    obtain ⟨i, rfl, q⟩ | ⟨x, rfl, n, q⟩ := h
    · exact ⟨_, rfl, _, _, _, _, true, rfl, .ty _, .base (.int i), kit_ty (by decide +kernel), true, rfl, iteT ⟨_, rfl, _, _, _, _, false, rfl, .ty _, .base (.int i), kit_ty (by decide +kernel), false, rfl, q⟩⟩
    · obtain ⟨b, rfl⟩ | ⟨t, ty, e⟩ := n
      · exact ⟨_, rfl, _, _, _, _, true, rfl, .ty _, .base (.bl b), kit_ty (by decide +kernel), true, rfl, iteT ⟨_, rfl, _, _, _, _, true, rfl, .ty _, .base (.bl b), kit_ty (by decide +kernel), true, rfl, q⟩⟩
      · exact ⟨_, rfl, _, _, _, _, false, rfl, .ty _, ty, e, false, rfl, iteF q⟩
theorem ok_is_between {f : Addr} {fd : FuncData} (F : Fun K "is_between" "is_between" s_is_between f fd) (B : Bl mg) (c_is_whole : Fn P w K mg base "is_whole" ["value"] CX0 1 (spWhole K)) : FnOk P w K mg base CX0 2 f fd ["value", "low", "high"] (spBetween K) := by
  refine F.ok sc_is_between (fun vs H Q E h => ?_) (fun cdv A outer s H vs Q E hr h => ?_)
  · obtain ⟨i, lo, hi, rfl, _⟩ | ⟨x, y, z, rfl, _⟩ := h <;> rfl
  · refine ⟨_, (pss_one (ps_ret (pe_and (pe_fn c_is_whole hr pass0 (pa_cons (pv 0) pa_nil)) (pe_one (pe_chain op_le op_le (pv 1) (pv 0) (pv 2)))))), ?_⟩
    obtain ⟨i, lo, hi, rfl, q⟩ | ⟨x, y, z, rfl, n, q⟩ := h
    · refine ⟨_, rfl, .inl ⟨i, rfl, true, rfl, iteT ⟨_, rfl, _, rfl, _, _, rfl, rfl, _, rfl, ?_⟩⟩⟩
      by_cases h1 : lo ≤ i
      · rw [decide_eq_true h1]
        refine iteT ⟨_, rfl, _, _, rfl, rfl, ?_⟩
        have e : decide (i ≤ hi) = decide (lo ≤ i ∧ i ≤ hi) := decide_eq_decide.mpr ⟨fun z => ⟨h1, z⟩, fun z => z.2⟩
        show Q (.bl (decide (i ≤ hi))) H
        rw [e]
        exact q
      · rw [decide_eq_false h1]
        refine iteF ?_
        rw [decide_eq_false (fun z => h1 z.1)] at q
        exact q
    · exact ⟨_, rfl, .inr ⟨x, rfl, n, false, rfl, iteF q⟩⟩
end
local macro_rules | `(tactic| walk_at "st") => `(tactic| first | refine ⟨_, rfl, ?_⟩ | refine ⟨_, _, rfl, rfl, ?_⟩)
section
variable {P : Program} {w : World} {K : PySem.W.Frag} {mg : Str → Option Value} {base : Heap}
theorem ok__law_source {f : Addr} {fd : FuncData} (F : Fun K "_law_source" "_law_source" s__law_source f fd) (B : Bl mg) : FnOk P w K mg base CX0 1 f fd ["script", "turn"] (spSource K) := by
  refine F.ok sc__law_source (fun vs H Q E h => ?_) (fun cdv A outer s H vs Q E hr h => ?_)
  · obtain ⟨a, ns, t, rfl, _⟩ := h
    rfl
  · obtain ⟨a, ns, t, rfl, hS, hl, h0, h1, q⟩ := h
    refine ⟨_, (pss_cons (ps_set (i := 2) sc__law_source.nd rfl (Or.inl rfl) pe_int)
      (Evl.pss_cut (ps_if (pt_cmpR op_lt (pv 1) (pe_callB call_len_seq (by rfl) B.len_ (by decide +kernel) (pa_cons (pv 0) pa_nil)) (nomark _)) (pss_one (ps_set (i := 2) sc__law_source.nd rfl (Or.inl rfl) (pe_ix ix_list (pv 0) (pv 1) (fun _ _ => rfl)))) pss_nil)
      (pss_cons (ps_set (i := 3) sc__law_source.nd rfl (Or.inl rfl) (pe_callB call_abs (by rfl) B.abs_ (by decide +kernel) (pa_cons (pv 2) pa_nil)))
      (pss_cons (ps_set (i := 4) sc__law_source.nd rfl (Or.inl rfl) (pe_op op_mod (pe_callTy call_int1 (by rfl) B.int_ (by decide +kernel) (pa_cons (pe_op op_add (pe_op op_add (pe_op op_mul (pe_op op_mod (pe_callTy call_int1 (by rfl) B.int_ (by decide +kernel) (pa_cons (pv 3) pa_nil)) pe_int) pe_int) (pe_op op_mul pe_int (pv 1))) pe_int) pa_nil)) pe_int))
      (Evl.pss_cut (ps_if (pt_cmpR op_lt (pv 3) (pe_op op_pow pe_int pe_int) (nomark _)) (pss_one (ps_set (i := 3) sc__law_source.nd rfl (Or.inl rfl) pe_int)) pss_nil)
      (pss_one (ps_ret (pe_lst (pa_cons (pv 3) (pa_cons (pv 4) pa_nil)))))))))), ?_⟩
    refine ⟨fun σ' H' => ∃ c : Int, σ' = [some (.ref a), some (.int t), some (.int c), none, none] ∧ H' = H, ?_, ?_⟩
    · refine ⟨_, rfl, _, rfl, a, _, rfl, .inl hS, _, _, rfl, rfl, _, rfl, ite2 (fun e => ?_) (fun e => ?_)⟩
      · have e1 : t < ((ns.map V.int).length : Int) := of_decide_eq_true e
        rw [List.length_map] at e1
        have e2 : t.toNat < ns.length := by omega
        refine ⟨_, rfl, _, rfl, a, _, t, .int ns[t.toNat], rfl, rfl, hS, at_of (j := t.toNat) (by omega) ?_, _, rfl, rfl⟩
        rw [List.getElem?_map, List.getElem?_eq_getElem e2]
        rfl
      · exact ⟨0, rfl, rfl⟩
    · rintro σ' H1 ⟨c, rfl, rfl⟩
      refine ⟨_, rfl, c, rfl, ?_⟩
      dsimp only
      generalize hn : (if c < 0 then -c else c) = n
      have n0 : 0 ≤ n := by rw [← hn]; split <;> omega
      refine ⟨_, rfl, .inl ⟨n, rfl, ?_⟩⟩
      refine ⟨_, _, rfl, rfl, (by decide : (0 : Int) < 2147483629), _, _, rfl, rfl, .inr ⟨by decide, by decide⟩, ?_⟩
      refine ⟨_, rfl, _, _, rfl, rfl, .inl ⟨by decide, by decide⟩, _, _, rfl, rfl, _, _, rfl, rfl, .inl ⟨_, rfl, _, _, rfl, rfl, (by decide : (0 : Int) < 2147483647), ?_⟩⟩
      dsimp only
      generalize hs : (n % 2147483629 * 16807 + 104729 * t + 11) % 2147483647 = sd
      have s0 : 0 ≤ sd := by rw [← hs]; exact Int.emod_nonneg _ (by decide)
      have s1 : sd < 2147483647 := by rw [← hs]; exact Int.emod_lt_of_pos _ (by decide)
      refine ⟨fun σ' H' => ∃ m : Int, 0 ≤ m ∧ σ' = [some (.ref a), some (.int t), some (.int c), some (.int m), some (.int sd)] ∧ H' = H1, ?_, ?_⟩
      · refine ⟨_, rfl, _, _, rfl, rfl, ⟨by decide, by decide, by decide⟩, _, _, rfl, rfl, _, rfl, ite2 (fun e => ?_) (fun e => ?_)⟩
        · exact ⟨0, Int.le_refl _, rfl, rfl⟩
        · exact ⟨n, n0, rfl, rfl⟩
      · rintro σ' H' ⟨m, m0, rfl, rfl⟩
        refine ⟨_, rfl, _, rfl, (by decide : 2 ≤ sizeLine), fun p np => ?_⟩
        exact q p _ np (same_upd np) ⟨m, sd, upd_same, m0, s0, s1⟩
theorem ok__law_draw {f : Addr} {fd : FuncData} (F : Fun K "_law_draw" "_law_draw" s__law_draw f fd) (B : Bl mg) : FnOk P w K mg base CX0 1 f fd ["source", "amount"] spDraw := by
  refine F.ok sc__law_draw (fun vs H Q E h => ?_) (fun cdv A outer s H vs Q E hr h => ?_)
  · obtain ⟨p, m, rfl, _⟩ := h
    rfl
  · obtain ⟨p, m, rfl, ⟨n, sd, hp, n0, s0, s1⟩, m0, m1, q⟩ := h
    refine ⟨_, (pss_cons (ps_if (pt_cmpR op_gt (pe_ix ix_list (pv 0) pe_int (fun _ _ => rfl)) pe_int (nomark _)) (pss_cons (ps_set (i := 2) sc__law_draw.nd rfl (Or.inl rfl) (pe_op op_mod (pe_callTy call_int1 (by rfl) B.int_ (by decide +kernel) (pa_cons (pe_ix ix_list (pv 0) pe_int (fun _ _ => rfl)) pa_nil)) (pv 1)))
      (pss_cons (ps_asg (pe_op op_fdivW (pe_ix ix_list (pv 0) pe_int (fun _ _ => rfl)) (pv 1)) (pg_sub (pv 0) pe_int set_list))
      (pss_one (ps_ret (pv 2))))) pss_nil)
      (pss_cons (ps_asg (pe_op op_mod (pe_callTy call_int1 (by rfl) B.int_ (by decide +kernel) (pa_cons (pe_op op_add (pe_op op_mul (pe_ix ix_list (pv 0) pe_int (fun _ _ => rfl)) pe_int) pe_int) pa_nil)) pe_int) (pg_sub (pv 0) pe_int set_list))
      (pss_cons (ps_set (i := 3) sc__law_draw.nd rfl (Or.inl rfl) (pe_op op_fdivW (pe_op op_mod (pe_callTy call_int1 (by rfl) B.int_ (by decide +kernel) (pa_cons (pe_op op_mul (pe_ix ix_list (pv 0) pe_int (fun _ _ => rfl)) (pe_ix ix_list (pv 0) pe_int (fun _ _ => rfl))) pa_nil)) pe_int) pe_int))
      (Evl.pss_cut (ps_if (pt_cmpR op_gt (pv 1) (pe_op op_pow pe_int pe_int) (nomark _)) (pss_cons (ps_asg (pe_op op_mod (pe_callTy call_int1 (by rfl) B.int_ (by decide +kernel) (pa_cons (pe_op op_add (pe_op op_mul (pe_ix ix_list (pv 0) pe_int (fun _ _ => rfl)) pe_int) pe_int) pa_nil)) pe_int) (pg_sub (pv 0) pe_int set_list))
      (pss_one (ps_set (i := 3) sc__law_draw.nd rfl (Or.inl rfl) (pe_op op_add (pe_op op_mul (pv 3) pe_int) (pe_op op_fdivW (pe_op op_mod (pe_callTy call_int1 (by rfl) B.int_ (by decide +kernel) (pa_cons (pe_op op_mul (pe_ix ix_list (pv 0) pe_int (fun _ _ => rfl)) (pe_ix ix_list (pv 0) pe_int (fun _ _ => rfl))) pa_nil)) pe_int) pe_int))))) pss_nil)
      (pss_one (ps_ret (pe_op op_mod (pe_callTy call_int1 (by rfl) B.int_ (by decide +kernel) (pa_cons (pv 3) pa_nil)) (pv 1)))))))), ?_⟩
    have kp : ∀ (H' : Hp) (o : HO), Kp p H H' → Kp p H (upd H' p o) := fun H' o k b u nb e => by
      rw [upd_ne nb]
      exact k b u nb e
    have i0 : ∀ x y : Int, atI [V.int x, V.int y] 0 = some (.int x) := fun x y => atI_nat (j := 0) rfl
    have i1 : ∀ x y : Int, atI [V.int x, V.int y] 1 = some (.int y) := fun x y => atI_nat (j := 1) rfl
    refine ⟨_, rfl, p, _, 0, _, rfl, rfl, SqL.of hp, i0 _ _, _, _, rfl, rfl, _, rfl, ite2 (fun e => ?_) (fun e => ?_)⟩
    · refine ⟨_, rfl, p, _, 0, _, rfl, rfl, SqL.of hp, i0 _ _, .inl ⟨n, rfl, _, rfl, _, _, rfl, rfl, m0, ?_⟩⟩
      refine ⟨_, rfl, p, _, 0, _, rfl, rfl, SqL.of hp, i0 _ _, _, rfl, _, _, rfl, rfl, pow40 m0 m1, _, rfl, p, _, 0, 0, rfl, rfl, hp, rfl, ?_⟩
      refine ⟨_, rfl, q _ _ (Int.emod_nonneg _ (by omega)) (Int.emod_lt_of_pos _ m0) ⟨n / m, sd, upd_same, Int.ediv_nonneg n0 (by omega), s0, s1⟩ (kp _ _ Kp.refl)⟩
    · refine ⟨_, rfl, p, _, 1, _, rfl, rfl, SqL.of hp, i1 _ _, _, _, rfl, rfl, .inr ⟨by decide, by decide⟩, _, _, rfl, rfl, .inl ⟨_, rfl, _, _, rfl, rfl, (by decide : (0 : Int) < 2147483647), ?_⟩⟩
      dsimp only
      generalize hs : (sd * 48271 + 11) % 2147483647 = s2
      have s20 : 0 ≤ s2 := by rw [← hs]; exact Int.emod_nonneg _ (by decide)
      have s21 : s2 < 2147483647 := by rw [← hs]; exact Int.emod_lt_of_pos _ (by decide)
      refine ⟨_, rfl, p, _, 1, 1, rfl, rfl, hp, rfl, ?_⟩
      have h2 : upd H p (.lst [.int n, .int s2]) p = some (.lst [.int n, .int s2]) := upd_same
      refine ⟨_, rfl, p, _, 1, _, rfl, rfl, SqL.of h2, i1 _ _, _, rfl, p, _, 1, _, rfl, rfl, SqL.of h2, i1 _ _, _, _, rfl, rfl, .inl ⟨by omega, by omega⟩, .inl ⟨_, rfl, _, _, rfl, rfl, (by decide : (0 : Int) < 2147483629), _, _, rfl, rfl, ⟨by decide, by decide⟩, ?_⟩⟩
      dsimp only
      generalize (s2 * s2 % 2147483629 / 64) = fd1
      refine ⟨fun σ' H' => ∃ fd s3 : Int, 0 ≤ s3 ∧ s3 < 2147483647 ∧ σ' = [some (.ref p), some (.int m), none, some (.int fd)] ∧ H' p = some (.lst [.int n, .int s3]) ∧ Kp p H H', ?_, ?_⟩
      · refine ⟨_, rfl, _, _, rfl, rfl, ⟨by decide, by decide, by decide⟩, _, _, rfl, rfl, _, rfl, ite2 (fun e => ?_) (fun e => ?_)⟩
        · refine ⟨_, rfl, p, _, 1, _, rfl, rfl, SqL.of h2, i1 _ _, _, _, rfl, rfl, .inr ⟨by decide, by decide⟩, _, _, rfl, rfl, .inl ⟨_, rfl, _, _, rfl, rfl, (by decide : (0 : Int) < 2147483647), ?_⟩⟩
          dsimp only
          generalize hs3 : (s2 * 39373 + 17) % 2147483647 = s3
          have s30 : 0 ≤ s3 := by rw [← hs3]; exact Int.emod_nonneg _ (by decide)
          have s31 : s3 < 2147483647 := by rw [← hs3]; exact Int.emod_lt_of_pos _ (by decide)
          refine ⟨_, rfl, p, _, 1, 1, rfl, rfl, h2, rfl, ?_⟩
          have h3 : upd (upd H p (.lst [.int n, .int s2])) p (.lst [.int n, .int s3]) p = some (.lst [.int n, .int s3]) := upd_same
          refine ⟨_, rfl, _, _, rfl, rfl, .inr ⟨by decide, by decide⟩, _, rfl, p, _, 1, _, rfl, rfl, SqL.of h3, i1 _ _, _, rfl, p, _, 1, _, rfl, rfl, SqL.of h3, i1 _ _, _, _, rfl, rfl, .inl ⟨by omega, by omega⟩, .inl ⟨_, rfl, _, _, rfl, rfl, (by decide : (0 : Int) < 2147483629), _, _, rfl, rfl, ⟨by decide, by decide⟩, _, _, rfl, rfl, ?_⟩⟩
          exact ⟨_, s3, s30, s31, rfl, h3, kp _ _ (kp _ _ Kp.refl)⟩
        · exact ⟨_, s2, s20, s21, rfl, h2, kp _ _ Kp.refl⟩
      · rintro σ' H' ⟨fd, s3, s30, s31, rfl, h3, k3⟩
        refine ⟨_, rfl, .inl ⟨_, rfl, _, rfl, _, _, rfl, rfl, m0, ?_⟩⟩
        exact q _ _ (Int.emod_nonneg _ (by omega)) (Int.emod_lt_of_pos _ m0) ⟨n, s3, h3, n0, s30, s31⟩ k3
theorem ok__law_pick {f : Addr} {fd : FuncData} (F : Fun K "_law_pick" "_law_pick" s__law_pick f fd) (B : Bl mg) (c__law_draw : Fn P w K mg base "_law_draw" ["source", "amount"] CX0 1 spDraw) : FnOk P w K mg base CX0 2 f fd ["source", "items"] (spPick K) := by
  refine F.ok sc__law_pick (fun vs H Q E h => ?_) (fun cdv A outer s H vs Q E hr h => ?_)
  · obtain ⟨p, l, xs, rfl, _⟩ := h
    rfl
  · obtain ⟨p, l, xs, rfl, hp, hl, nlp, nx, sz, q⟩ := h
    refine ⟨_, (pss_one (ps_ret (pe_ix ix_list (pv 1) (pe_fn c__law_draw hr pass0 (pa_cons (pv 0) (pa_cons (pe_callB call_len_seq (by rfl) B.len_ (by decide +kernel) (pa_cons (pv 1) pa_nil)) pa_nil))) (fun _ _ => rfl)))), ?_⟩
    refine ⟨_, rfl, _, rfl, _, rfl, l, xs, rfl, .inl hl, p, _, rfl, hp, ?_, ?_, fun r H' r0 r1 hp' k => ?_⟩
    · have : 0 < xs.length := List.length_pos_iff.mpr nx
      omega
    · have : (xs.length : Int) ≤ 1000 := by omega
      exact Int.le_trans this (by decide)
    · have hr' : r.toNat < xs.length := by omega
      refine ⟨l, xs, r, xs[r.toNat], rfl, rfl, ?_, at_of (j := r.toNat) (by omega) (List.getElem?_eq_getElem hr'), q r.toNat _ H' (List.getElem?_eq_getElem hr') hp' k⟩
      rcases hl with (h | ⟨o, h⟩) | h
      · exact .inl (.inl (k _ _ nlp h))
      · exact .inl (.inr ⟨o, k _ _ nlp h⟩)
      · exact .inr h
end
/-! ### Moments -/
/-- what the written part says of the class Moment, at C -/
structure MoTxt (K : PySem.W.Frag) (mg : Str → Option Value) (C : Addr) : Prop where
  cl : Cls K C
  ca : PySem.W.findIn K (.ref C) "__class__" = some (some (.builtin "object.__class__"))
  cn : PySem.W.specialIn K (.builtin "object.__class__") "__get__" = some (some (.builtin "getset_descriptor.__get__"))
  ct : PySem.W.takesIn K (.builtin "object.__class__") = some true
  cm : PySem.W.mroIn K C (.type "object") = some true
  no : NoAttr K C "own_seconds"
  self_ : PySem.W.kitOne K (.ref C) (.ref C) = some true
  noInt : PySem.W.kitOne K (.type "int") (.ref C) = some false
  g : mg "Moment" = some (.ref C)
  far : ∃ t, mg "FARTHEST" = some (.int (10 ^ 30) t)
def MoAt (C : Addr) (H : Hp) (a : Addr) (n : Int) : Prop := ∃ dx, H a = some (.ins C dx [("own_seconds", .int n)])
theorem MoAt.same {C : Addr} {H H' : Hp} {a : Addr} {n : Int} (h : MoAt C H a n) (s : Same H H') : MoAt C H' a n := let ⟨dx, e⟩ := h; ⟨dx, s _ _ e⟩
theorem MoAt.kp {C : Addr} {H H' : Hp} {a p : Addr} {n : Int} (h : MoAt C H a n) (s : Kp p H H') (ne : a ≠ p) : MoAt C H' a n := let ⟨dx, e⟩ := h; ⟨dx, s _ _ ne e⟩
theorem MoAt.ty {K : PySem.W.Frag} {mg : Str → Option Value} {C : Addr} {H : Hp} {a : Addr} {n : Int} (h : MoAt C H a n) (T : MoTxt K mg C) : TyX K H (.ref a) (.ref C) := let ⟨_, e⟩ := h; .base (.ins e T.cl T.ca T.cn T.ct T.cm)
theorem MoAt.ne {C : Addr} {H : Hp} {a p : Addr} {n : Int} (h : MoAt C H a n) (s : Src H p) : a ≠ p := fun e => by
  obtain ⟨dx, h⟩ := h
  obtain ⟨_, _, h2, _⟩ := s
  rw [e, h2] at h
  cases h
theorem made_mo {C : Addr} {H : Hp} {x dx : Addr} {n : Int} (nx : H x = none) (nd : H dx = none) : Same H (upd (upd (upd H dx (.own x)) x (.ins C dx [])) x (.ins C dx [("own_seconds", .int n)])) ∧
    MoAt C (upd (upd (upd H dx (.own x)) x (.ins C dx [])) x (.ins C dx [("own_seconds", .int n)])) x n :=
  ⟨fun b o e => by rw [upd_ne (ne_of_none e nx), upd_ne (ne_of_none e nx), upd_ne (ne_of_none e nd)]; exact e, dx, upd_same⟩
theorem dInt (n m : Int) : decide (V.int n = V.int m) = decide (n = m) := by simp
/-- within the ends -/
def Far (n : Int) : Prop := -(10 ^ 30) ≤ n ∧ n ≤ 10 ^ 30
def spMoInit (C : Addr) : Sp := fun vs H Q _ => ∃ (p dx : Addr) (n : Int), vs = [.ref p, .int n] ∧ H p = some (.ins C dx []) ∧ Far n ∧ Q .non (upd H p (.ins C dx [("own_seconds", .int n)]))
def spMoSec (C : Addr) : Sp := fun vs H Q _ => ∃ (a : Addr) (n : Int), vs = [.ref a] ∧ MoAt C H a n ∧ Q (.int n) H
def spMoMoved (C : Addr) : Sp := fun vs H Q _ => ∃ (a : Addr) (n k : Int), vs = [.ref a, .int k] ∧ MoAt C H a n ∧ Far (n + k) ∧ ∀ q H', H q = none → Same H H' → MoAt C H' q (n + k) → Q (.ref q) H'
def spMoSub (C : Addr) : Sp := fun vs H Q _ => ∃ (a : Addr) (n : Int) (y : V), vs = [.ref a, y] ∧ MoAt C H a n ∧
  ((∃ b m, y = .ref b ∧ MoAt C H b m ∧ Q (.int (n - m)) H) ∨ (∃ k, y = .int k ∧ Far (n - k) ∧ ∀ q H', H q = none → Same H H' → MoAt C H' q (n - k) → Q (.ref q) H'))
def spMoBehind (C : Addr) : Sp := fun vs H Q _ => ∃ (a b : Addr) (n m : Int), vs = [.ref a, .ref b] ∧ MoAt C H a n ∧ MoAt C H b m ∧ Q (.int (n - m)) H
def spMoCmp (C : Addr) (g : Int → Int → Bool) : Sp := fun vs H Q _ => ∃ (a b : Addr) (n m : Int), vs = [.ref a, .ref b] ∧ MoAt C H a n ∧ MoAt C H b m ∧ Q (.bl (g n m)) H
def spMoEq (K : PySem.W.Frag) (C : Addr) : Sp := fun vs H Q _ => ∃ (a : Addr) (n : Int) (y : V), vs = [.ref a, y] ∧ MoAt C H a n ∧
  ((∃ b m, y = .ref b ∧ MoAt C H b m ∧ Q (.bl (decide (n = m))) H) ∨ (∃ t, TyX K H y t ∧ PySem.W.kitOne K t (.ref C) = some false ∧ Q (.bl false) H))
def spMoSeen (C : Addr) : Sp := fun vs H Q _ => ∃ (a : Addr) (n k : Int), vs = [.ref a, .int k] ∧ MoAt C H a n ∧ 1 ≤ k ∧ k ≤ 10 ^ 6 ∧ Far (n - n % k) ∧ ∀ q H', H q = none → Same H H' → MoAt C H' q (n - n % k) → Q (.ref q) H'
section
variable {P : Program} {w : World} {K : PySem.W.Frag} {mg : Str → Option Value} {base : Heap} {C : Addr}
theorem ok_Moment___init__ {f : Addr} {fd : FuncData} (F : Fun K "__init__" "Moment.__init__" s_Moment___init__ f fd) (B : Bl mg) (T : MoTxt K mg C) (c_is_between : Fn P w K mg base "is_between" ["value", "low", "high"] CX0 2 (spBetween K)) :
    FnOk P w K mg base CX0 3 f fd ["self", "seconds"] (spMoInit C) := by
  obtain ⟨tF, gF⟩ := T.far
  refine F.ok sc_Moment___init__ (fun vs H Q E h => ?_) (fun cdv A outer s H vs Q E hr h => ?_)
  · obtain ⟨p, dx, n, rfl, _⟩ := h
    rfl
  · obtain ⟨p, dx, n, rfl, hp, ⟨h1, h2⟩, q⟩ := h
    refine ⟨_, (pss_cons (ps_if (pt_not (pt_val (pe_fn c_is_between hr pass0 (pa_cons (pv 1) (pa_cons (pe_un un_neg (pe_gi gF)) (pa_cons (pe_gi gF) pa_nil)))))) (pss_one ps_never) pss_nil)
      (pss_one (ps_fld (pv 0) (pv 1) rfl))), ?_⟩
    refine ⟨_, rfl, _, rfl, .inl ⟨n, _, _, rfl, _, rfl, iteNS ⟨h1, h2⟩ ?_⟩⟩
    exact ⟨_, rfl, _, rfl, p, C, dx, [], rfl, hp, T.cl, T.no, (by decide : 0 < 1000), q⟩
theorem ok_Moment_seconds {f : Addr} {fd : FuncData} (F : Fun K "seconds" "Moment.seconds" s_Moment_seconds f fd) (T : MoTxt K mg C) : FnOk P w K mg base CX0 1 f fd ["self"] (spMoSec C) := by
  refine F.ok sc_Moment_seconds (fun vs H Q E h => ?_) (fun cdv A outer s H vs Q E hr h => ?_)
  · obtain ⟨a, n, rfl, _⟩ := h
    rfl
  · obtain ⟨a, n, rfl, ⟨dx, ha⟩, q⟩ := h
    exact ⟨_, (pss_one (ps_ret (pe_fld (pv 0) rfl))), _, rfl, a, C, dx, _, _, rfl, ha, T.cl, T.no, lookup_one _ _, q⟩
theorem ok_Moment_behind {f : Addr} {fd : FuncData} (F : Fun K "behind" "Moment.behind" s_Moment_behind f fd) (B : Bl mg) (T : MoTxt K mg C) (c_Moment_seconds : Pr P w K mg base C "seconds" ["self"] CX0 1 (spMoSec C)) :
    FnOk P w K mg base CX0 3 f fd ["self", "other"] (spMoBehind C) := by
  refine F.ok sc_Moment_behind (fun vs H Q E h => ?_) (fun cdv A outer s H vs Q E hr h => ?_)
  · obtain ⟨a, b, n, m, rfl, _⟩ := h
    rfl
  · obtain ⟨a, b, n, m, rfl, ⟨dx, ha⟩, hb, q⟩ := h
    have hb' := hb
    obtain ⟨dy, hb'⟩ := hb'
    refine ⟨_, (pss_cons (ps_if (pt_not (pt_val (pe_callB call_isi (by rfl) B.isinstance_ (by decide +kernel) (pa_cons (pv 1) (pa_cons (pe_gc T.g) pa_nil))))) (pss_one ps_never) pss_nil)
      (pss_one (ps_ret (pe_op op_sub (pe_fld (pv 0) rfl) (pe_pr T.cl c_Moment_seconds hr pass0 (pv 1)))))), ?_⟩
    refine ⟨_, rfl, _, _, _, _, true, rfl, .own C, hb.ty T, T.self_, _, rfl, iteF ?_⟩
    exact ⟨_, rfl, a, C, dx, _, _, rfl, ha, T.cl, T.no, lookup_one _ _, _, rfl, b, dy, _, rfl, hb', b, m, rfl, hb, _, _, rfl, rfl, q⟩
theorem ok_Moment___le__ {f : Addr} {fd : FuncData} (F : Fun K "__le__" "Moment.__le__" s_Moment___le__ f fd) (T : MoTxt K mg C) (c_Moment_behind : Mt P w K mg base C "behind" ["self", "other"] CX0 3 (spMoBehind C)) :
    FnOk P w K mg base CX0 4 f fd ["self", "other"] (spMoCmp C fun n m => decide (n ≤ m)) := by
  refine F.ok sc_Moment___le__ (fun vs H Q E h => ?_) (fun cdv A outer s H vs Q E hr h => ?_)
  · obtain ⟨a, b, n, m, rfl, _⟩ := h
    rfl
  · obtain ⟨a, b, n, m, rfl, ha, hb, q⟩ := h
    have ha' := ha
    obtain ⟨dx, ha'⟩ := ha'
    refine ⟨_, (pss_one (ps_ret (pe_cmpR op_le (pe_mt T.cl c_Moment_behind hr pass0 (pv 0) (pa_cons (pv 1) pa_nil)) pe_int (nomark _)))), ?_⟩
    refine ⟨_, rfl, a, dx, _, rfl, ha', lookup_no (by decide +kernel), _, rfl, a, b, n, m, rfl, ha, hb, _, _, rfl, rfl, ?_⟩
    have e : decide (n - m ≤ 0) = decide (n ≤ m) := decide_eq_decide.mpr (by omega)
    show Q (.bl (decide (n - m ≤ 0))) H
    rw [e]
    exact q

theorem ok_Moment___eq__ {f : Addr} {fd : FuncData} (F : Fun K "__eq__" "Moment.__eq__" s_Moment___eq__ f fd) (B : Bl mg) (T : MoTxt K mg C) (c_Moment_seconds : Pr P w K mg base C "seconds" ["self"] CX0 1 (spMoSec C)) :
    FnOk P w K mg base CX0 3 f fd ["self", "other"] (spMoEq K C) := by
  refine F.ok sc_Moment___eq__ (fun vs H Q E h => ?_) (fun cdv A outer s H vs Q E hr h => ?_)
  · obtain ⟨a, n, y, rfl, _⟩ := h
    rfl
  · obtain ⟨a, n, y, rfl, ⟨dx, ha⟩, h⟩ := h
    refine ⟨_, (pss_one (ps_ret (pe_and (pe_callB call_isi (by rfl) B.isinstance_ (by decide +kernel) (pa_cons (pv 1) (pa_cons (pe_gc T.g) pa_nil))) (pe_one (pe_cmpR op_eq (pe_fld (pv 0) rfl) (pe_pr T.cl c_Moment_seconds hr pass0 (pv 1)) (nomark _)))))), ?_⟩
    obtain ⟨b, m, rfl, hb, q⟩ | ⟨t, ty, hk, q⟩ := h
    · have hb' := hb
      obtain ⟨dy, hb'⟩ := hb'
      refine ⟨_, rfl, _, _, _, _, true, rfl, .own C, hb.ty T, T.self_, _, rfl, iteT ?_⟩
      refine ⟨_, rfl, a, C, dx, _, _, rfl, ha, T.cl, T.no, lookup_one _ _, _, rfl, b, dy, _, rfl, hb', b, m, rfl, hb, rfl, ?_⟩
      show Q (.bl (decide (V.int n = V.int m))) H
      rw [dInt]
      exact q
    · exact ⟨_, rfl, _, _, _, _, false, rfl, .own C, ty, hk, _, rfl, iteF q⟩
end
/-! ### Moments in expressions -/
open Evl in
def IsMo (C : Addr) (n : Int) : V → Hp → Prop := fun v H => ∃ a, v = .ref a ∧ MoAt C H a n
section
open Evl
variable {K : PySem.W.Frag} {mg : Str → Option Value} {C : Addr} {σ : L2.St} {H H' : Hp} {ta tb te : TE} {E : XK} {n m k : Int}
theorem nf_self (K : PySem.W.Frag) (C : Addr) : PySem.W.notFirst K C (.ref C) = true := by simp [PySem.W.notFirst]
theorem evm_var {i : Nat} {a : Addr} (h : σ[i]? = some (some (.ref a))) (hm : MoAt C H a n) : EvP (tVar i) σ H (IsMo C n) := evp_var h fun _ e => ⟨a, rfl, hm.same e⟩
theorem ev_sec (h : EvP ta σ H (IsMo C n)) : Ev (tProp C (spMoSec C) [] E ta) σ H (.int n) := fun H1 e Q q => h H1 e _ fun v H2 e2 ⟨a, ea, ⟨dx, ha⟩⟩ => ⟨a, dx, _, ea, ha, a, n, rfl, ⟨dx, ha⟩, q H2 e2⟩
theorem evm_make (h : Ev te σ H (.int n)) (fr : Far n) : EvP (tMake C (spMoInit C) [] E (tCons te tNil)) σ H (IsMo C n) := fun H1 e Q q => h H1 e _ fun H2 e2 x dx nx nd ne => by
  have hm := made_mo (C := C) (n := n) nx nd
  exact ⟨x, dx, n, rfl, upd_same, fr, rfl, q _ _ (e2.trans hm.1) ⟨x, rfl, hm.2⟩⟩
theorem evm_addI (h1 : EvP ta σ H (IsMo C n)) (h2 : Ev tb σ H (.int k)) (fr : Far (n + k)) : EvP (tOp (rBinI C (spMoMoved C) E) ta tb) σ H (IsMo C (n + k)) := fun H1 e Q q => h1 H1 e _ fun v H2 e2 ⟨a, ea, ha⟩ =>
  h2 H2 (e.trans e2) (fun y H3 => rBinI C (spMoMoved C) E v y H3 Q) fun H3 e3 => by
    obtain ⟨dx, ha'⟩ := ha.same e3
    subst ea
    exact ⟨a, dx, _, k, rfl, rfl, ha', a, n, k, rfl, ⟨dx, ha'⟩, fr, fun p H4 np s4 hp => q _ _ ((e2.trans e3).trans s4) ⟨p, rfl, hp⟩⟩
theorem evm_radd (h1 : Ev ta σ H (.int k)) (h2 : EvP tb σ H (IsMo C n)) (fr : Far (n + k)) : EvP (tOp (rBinR C (spMoMoved C) E) ta tb) σ H (IsMo C (n + k)) := fun H1 e Q q => h1 H1 e _ fun H2 e2 =>
  h2 H2 (e.trans e2) (fun y H3 => rBinR C (spMoMoved C) E (.int k) y H3 Q) fun v H3 e3 ⟨a, ea, ha⟩ => by
    obtain ⟨dx, ha'⟩ := ha
    subst ea
    exact ⟨a, dx, _, k, rfl, rfl, ha', a, n, k, rfl, ⟨dx, ha'⟩, fr, fun p H4 np s4 hp => q _ _ ((e2.trans e3).trans s4) ⟨p, rfl, hp⟩⟩
theorem evm_subI (h1 : EvP ta σ H (IsMo C n)) (h2 : Ev tb σ H (.int k)) (fr : Far (n - k)) : EvP (tOp (rBinI C (spMoSub C) E) ta tb) σ H (IsMo C (n - k)) := fun H1 e Q q => h1 H1 e _ fun v H2 e2 ⟨a, ea, ha⟩ =>
  h2 H2 (e.trans e2) (fun y H3 => rBinI C (spMoSub C) E v y H3 Q) fun H3 e3 => by
    obtain ⟨dx, ha'⟩ := ha.same e3
    subst ea
    exact ⟨a, dx, _, k, rfl, rfl, ha', a, n, _, rfl, ⟨dx, ha'⟩, .inr ⟨k, rfl, fr, fun p H4 np s4 hp => q _ _ ((e2.trans e3).trans s4) ⟨p, rfl, hp⟩⟩⟩
theorem ev_subS (h1 : EvP ta σ H (IsMo C n)) (h2 : EvP tb σ H (IsMo C m)) : Ev (tOp (rBinS C (spMoSub C) E) ta tb) σ H (.int (n - m)) := fun H1 e Q q => h1 H1 e _ fun v H2 e2 ⟨a, ea, ha⟩ =>
  h2 H2 (e.trans e2) (fun y H3 => rBinS C (spMoSub C) E v y H3 Q) fun u H3 e3 ⟨b, eb, hb⟩ => by
    obtain ⟨dx, ha'⟩ := ha.same e3
    obtain ⟨dy, hb'⟩ := hb
    subst ea eb
    exact ⟨a, dx, _, b, dy, _, rfl, rfl, ha', hb', a, n, _, rfl, ⟨dx, ha'⟩, .inl ⟨b, m, rfl, ⟨dy, hb'⟩, q _ (e2.trans e3)⟩⟩
theorem ev_cmpM (T : MoTxt K mg C) {g : Int → Int → Bool} (h1 : EvP ta σ H (IsMo C n)) (h2 : EvP tb σ H (IsMo C m)) : Ev (tOp (rOwnC K C (spMoCmp C g) E) ta tb) σ H (.bl (g n m)) := fun H1 e Q q => h1 H1 e _ fun v H2 e2 ⟨a, ea, ha⟩ =>
  h2 H2 (e.trans e2) (fun y H3 => rOwnC K C (spMoCmp C g) E v y H3 Q) fun u H3 e3 ⟨b, eb, hb⟩ => by
    have ha2 := ha.same e3
    obtain ⟨dx, ha'⟩ := ha2
    subst ea eb
    exact ⟨a, dx, _, _, rfl, ha', hb.ty T, nf_self _ _, a, b, n, m, rfl, ⟨dx, ha'⟩, hb, q _ (e2.trans e3)⟩
theorem ev_eqM (T : MoTxt K mg C) (h1 : EvP ta σ H (IsMo C n)) (h2 : EvP tb σ H (IsMo C m)) : Ev (tOp (rOwnC K C (spMoEq K C) E) ta tb) σ H (.bl (decide (n = m))) := fun H1 e Q q => h1 H1 e _ fun v H2 e2 ⟨a, ea, ha⟩ =>
  h2 H2 (e.trans e2) (fun y H3 => rOwnC K C (spMoEq K C) E v y H3 Q) fun u H3 e3 ⟨b, eb, hb⟩ => by
    have ha2 := ha.same e3
    obtain ⟨dx, ha'⟩ := ha2
    subst ea eb
    exact ⟨a, dx, _, _, rfl, ha', hb.ty T, nf_self _ _, a, n, _, rfl, ⟨dx, ha'⟩, .inl ⟨b, m, rfl, hb, q _ (e2.trans e3)⟩⟩
theorem ev_eqMI (T : MoTxt K mg C) (nf : PySem.W.notFirst K C (.type "int") = true) (h1 : EvP ta σ H (IsMo C n)) (h2 : Ev tb σ H (.int m)) : Ev (tOp (rOwnC K C (spMoEq K C) E) ta tb) σ H (.bl false) := fun H1 e Q q => h1 H1 e _ fun v H2 e2 ⟨a, ea, ha⟩ =>
  h2 H2 (e.trans e2) (fun y H3 => rOwnC K C (spMoEq K C) E v y H3 Q) fun H3 e3 => by
    have ha2 := ha.same e3
    obtain ⟨dx, ha'⟩ := ha2
    subst ea
    exact ⟨a, dx, _, _, rfl, ha', .base (.int m), nf, a, n, _, rfl, ⟨dx, ha'⟩, .inr ⟨_, .base (.int m), T.noInt, q _ (e2.trans e3)⟩⟩
theorem ev_neM (T : MoTxt K mg C) (h1 : EvP ta σ H (IsMo C n)) (h2 : EvP tb σ H (IsMo C m)) : Ev (tOp (rOwnNe K C (spMoEq K C) E) ta tb) σ H (.bl (!decide (n = m))) := fun H1 e Q q => h1 H1 e _ fun v H2 e2 ⟨a, ea, ha⟩ =>
  h2 H2 (e.trans e2) (fun y H3 => rOwnNe K C (spMoEq K C) E v y H3 Q) fun u H3 e3 ⟨b, eb, hb⟩ => by
    have ha2 := ha.same e3
    obtain ⟨dx, ha'⟩ := ha2
    subst ea eb
    exact ⟨a, dx, _, _, rfl, ha', hb.ty T, nf_self _ _, a, n, _, rfl, ⟨dx, ha'⟩, .inl ⟨b, m, rfl, hb, _, rfl, q _ (e2.trans e3)⟩⟩
theorem evm_seen (h1 : EvP ta σ H (IsMo C n)) (h2 : Ev tb σ H (.int k)) (k1 : 1 ≤ k) (k2 : k ≤ 10 ^ 6) (fr : Far (n - n % k)) : EvP (tMeth C "seen" (spMoSeen C) [] E ta (tCons tb tNil)) σ H (IsMo C (n - n % k)) := fun H1 e Q q => h1 H1 e _ fun v H2 e2 ⟨a, ea, ha⟩ => by
    obtain ⟨dx, ha'⟩ := id ha
    subst ea
    exact ⟨a, dx, _, rfl, ha', lookup_no (by decide +kernel), h2 H2 (e.trans e2) _ fun H3 e3 => ⟨a, n, k, rfl, ha.same e3, k1, k2, fr, fun p H4 np s4 hp => q _ _ ((e2.trans e3).trans s4) ⟨p, rfl, hp⟩⟩⟩
theorem ev_isM (T : MoTxt K mg C) (h1 : EvP ta σ H (IsMo C n)) : Ev (tCB (rIsi K) (tCons ta (tCons (tC (.ref C)) tNil))) σ H (.bl true) :=
  ev_isi (h1.imp fun v H2 _ ⟨a, ea, ha⟩ => by subst ea; exact ha.ty T) ev_c (.own C) T.self_
theorem ev_isMI (T : MoTxt K mg C) (h1 : Ev ta σ H (.int n)) : Ev (tCB (rIsi K) (tCons ta (tCons (tC (.ref C)) tNil))) σ H (.bl false) :=
  ev_isi ((ev_p h1).imp fun v H2 _ ev => by subst ev; exact .base (.int n)) ev_c (.own C) T.noInt
/-! statements -/
variable {D : Ends} {tu tw : TS} {φ ψ : V → Hp → Prop}
theorem s_asgP {i : Nat} (h : EvP te σ H φ) (q : ∀ v H1, Ex H H1 → φ v H1 → D.nx (σ.set i (some v)) H1) : tAsg te (gName i) D σ H := h H (Ex.refl H) _ fun v H1 e p => q v H1 e p
theorem s_ifF {t : TT} (h : EvT t σ H false) (q : ∀ H1, Ex H H1 → tw D σ H1) : tIfS t tu tw D σ H := s_if h (fun z => nomatch z) fun _ => q
theorem s_ifT {t : TT} (h : EvT t σ H true) (q : ∀ H1, Ex H H1 → tu D σ H1) : tIfS t tu tw D σ H := s_if h (fun _ => q) (fun z => nomatch z)
theorem s_parPP {i j : Nat} (h1 : EvP ta σ H φ) (h2 : ∀ H1, Ex H H1 → EvP tb σ H1 ψ) (mφ : MonP φ) (q : ∀ v u H1, Ex H H1 → φ v H1 → ψ u H1 → D.nx ((σ.set i (some v)).set j (some u)) H1) : tPar i j (tCons ta (tCons tb tNil)) D σ H :=
  h1 H (Ex.refl H) _ fun v H1 e1 p1 => h2 H1 e1 H1 (Ex.refl H1) _ fun u H2 e2 p2 => ⟨v, u, rfl, q v u H2 (e1.trans e2) (mφ v H1 H2 e2 p1) p2⟩
theorem monMo : MonP (IsMo C n) := fun _ _ _ e ⟨a, ea, h⟩ => ⟨a, ea, h.same e⟩
theorem et_ntT {t : TT} (h : EvT t σ H true) : EvT (tNot t) σ H false := et_not h
theorem et_nt {t : TT} {b c : Bool} (h : EvT t σ H b) (e : (!b) = c) : EvT (tNot t) σ H c := et_is (et_not h) e
theorem et_orF {t u : TT} (h1 : EvT t σ H false) (h2 : EvT u σ H false) : EvT (tOr t u) σ H false := et_or h1 fun _ => h2
theorem rv_mod {i j : Int} (h : 0 < j) : RV (rI (fun _ j => 0 < j) fun i j => .int (i % j)) (.int i) (.int j) H (.int (i % j)) := rv_I (C := fun _ j => 0 < j) h
theorem rv_neI {i j : Int} (h : i = j) : RV rNe (.int i) (.int j) H (.bl false) := by
  have := rv_ne (x := .int i) (y := .int j) (H := H) rfl
  rw [decide_eq_true (congrArg V.int h)] at this
  exact this
theorem rv_eqI {i j : Int} : RV rEq (.int i) (.int j) H (.bl (decide (i = j))) := by
  have := rv_eq (x := .int i) (y := .int j) (H := H) rfl
  rw [dInt] at this
  exact this
theorem ev_int1 {i : Int} (h : Ev ta σ H (.int i)) : Ev (tCB (fun xs H Q => (∃ i, xs = [V.int i] ∧ Q (V.int i) H) ∨ ∃ k, xs = [V.bl k] ∧ Q (V.int (if k = true then 1 else 0)) H) (tCons ta tNil)) σ H (.int i) := fun H1 e Q q => h H1 e _ fun H2 e2 => .inl ⟨i, rfl, q H2 e2⟩
end
/-! ### deeds -/
def plainV : List V := [.str "make", .str "read", .str "write", .str "rename", .str "touch"]
def marksV : List V := [.str "read", .str "written", .str "changed"]
structure DeTxt (K : PySem.W.Frag) (mg : Str → Option Value) (pP pM : Addr) : Prop where
  gP : mg "PLAIN" = some (.ref pP)
  gM : mg "MARKS" = some (.ref pM)
  gL : ∃ t, mg "LONGEST" = some (.int (10 ^ 9) t)
  sP : ∀ H, SqT K H pP plainV
  sM : ∀ H, SqT K H pM marksV
  kM : ∃ o, K.lookup pM = some o ∧ o.cls = .type "tuple" ∧ o.dict = none
def isTimeD : PyData → Bool
  | .int i => decide (1 ≤ i ∧ i ≤ 10 ^ 9)
  | _ => false
def timeOne : List PyData → Bool
  | [d] => isTimeD d
  | _ => false
def isDeedD : PyData → Bool
  | .tuple (.str x :: ds) => if inV (.str x) plainV then ds.length == 0 else (inV (.str x) [.str "unpack", .str "setback"] && timeOne ds)
  | _ => false
def makesD (d : PyData) : Bool := isDeedD d && (match d with | .tuple (.str x :: _) => inV (.str x) [.str "make", .str "unpack"] | _ => false)
def backD : PyData → V
  | .tuple [_, .int i] => .int i
  | _ => .int 0
/-- what backs tells -/
def backsD (d : PyData) : List (Key × V) := match d with
  | .tuple (.str x :: _) =>
    if inV (.str x) [.str "make", .str "touch"] then [(.inr "read", .int 0), (.inr "written", .int 0), (.inr "changed", .int 0)]
    else if x = "unpack" then [(.inr "read", .int 0), (.inr "written", backD d), (.inr "changed", .int 0)]
    else if x = "setback" then [(.inr "read", backD d), (.inr "written", backD d), (.inr "changed", .int 0)]
    else if x = "write" then [(.inr "written", .int 0), (.inr "changed", .int 0)]
    else if x = "rename" then [(.inr "changed", .int 0)] else []
  | _ => []
def ShT (d : PyData) : Prop := ∀ ds, d = .tuple ds → SeqAt.shaped d = true
def spTime (K : PySem.W.Frag) : Sp := fun vs H Q _ => ∃ v d, vs = [v] ∧ DR K H v d ∧ Q (.bl (isTimeD d)) H
def spDeed (K : PySem.W.Frag) : Sp := fun vs H Q _ => ∃ v d, vs = [v] ∧ DR K H v d ∧ ShT d ∧ ∀ H', Ex H H' → Q (.bl (isDeedD d)) H'
def spMakes (K : PySem.W.Frag) : Sp := fun vs H Q _ => ∃ v d, vs = [v] ∧ DR K H v d ∧ ShT d ∧ ∀ H', Ex H H' → Q (.bl (makesD d)) H'
def spBacks (K : PySem.W.Frag) (C : Addr) : Sp := fun vs H Q E => ∃ v d, vs = [v] ∧ DR K H v d ∧ ShT d ∧
  (isDeedD d = true → ∀ p H', H p = none → Ex H H' → H' p = some (.dK (backsD d)) → Q (.ref p) H') ∧
  (isDeedD d = false → ∀ H' dd, Ex H H' → H' dd = none → E (.ref C) (some dd) (upd H' dd (.xd [("value", v)])))
def spBacks0 (K : PySem.W.Frag) : Sp := fun vs H Q _ => ∃ v d, vs = [v] ∧ DR K H v d ∧ ShT d ∧ isDeedD d = true ∧ ∀ p H', H p = none → Ex H H' → H' p = some (.dK (backsD d)) → Q (.ref p) H'
theorem dr_tup {K : PySem.W.Frag} {H : Hp} {v : V} {ds : List PyData} (h : DR K H v (.tuple ds)) : ∃ p xs, v = .ref p ∧ SqT K H p xs ∧ DpAll K H xs ds := by
  cases h with
  | dp h => cases h with | tup a b => exact ⟨_, _, rfl, a, b⟩
theorem dr_dp {K : PySem.W.Frag} {H : Hp} {v : V} {ds : List PyData} (h : DR K H v (.tuple ds)) : Dp K H v (.tuple ds) := by
  cases h with
  | dp h => exact h
theorem len_one (v : V) (vs : List V) : (vs.length == 0) = decide (V.int ((v :: vs).length : Int) = .int 1) := by
  cases vs with
  | nil => exact (decide_eq_true rfl).symm
  | cons a l => exact (decide_eq_false fun z => by injection z with z; simp only [List.length_cons] at z; omega).symm
theorem len_two (v a b : V) (l : List V) : decide (V.int ((v :: a :: b :: l).length : Int) = .int 2) = false := decide_eq_false fun z => by
  injection z with z
  simp only [List.length_cons] at z
  omega
section
variable {P : Program} {w : World} {K : PySem.W.Frag} {mg : Str → Option Value} {base : Heap} {pP pM : Addr}
theorem ok_is_time {f : Addr} {fd : FuncData} (F : Fun K "is_time" "is_time" s_is_time f fd) (T : DeTxt K mg pP pM) (c_is_between : Fn P w K mg base "is_between" ["value", "low", "high"] CX0 2 (spBetween K)) : FnOk P w K mg base CX0 3 f fd ["value"] (spTime K) := by
  obtain ⟨tL, gL⟩ := T.gL
  refine F.ok sc_is_time (fun vs H Q E h => ?_) (fun cdv A outer s H vs Q E hr h => ?_)
  · obtain ⟨v, d, rfl, _⟩ := h
    rfl
  · obtain ⟨v, d, rfl, hd, q⟩ := h
    refine ⟨_, (pss_one (ps_ret (pe_fn c_is_between hr pass0 (pa_cons (pv 0) (pa_cons pe_int (pa_cons (pe_gi gL) pa_nil)))))), ?_⟩
    refine ⟨_, rfl, ?_⟩
    cases e : isIntD d with
    | none =>
      have z : isTimeD d = false := by cases d <;> first | rfl | cases e
      rw [z] at q
      exact .inr ⟨_, _, _, rfl, dr_noInt hd e, q⟩
    | some i =>
      cases d with
      | int j =>
        obtain rfl := dr_int hd
        exact .inl ⟨_, _, _, rfl, q⟩
      | _ => cases e
theorem ok_is_deed {f : Addr} {fd : FuncData} (F : Fun K "is_deed" "is_deed" s_is_deed f fd) (B : Bl mg) (B2 : Bl2 mg) (T : DeTxt K mg pP pM) (c_is_time : Fn P w K mg base "is_time" ["value"] CX0 3 (spTime K)) : FnOk P w K mg base CX0 4 f fd ["value"] (spDeed K) := by
  have gP := T.gP
  refine F.ok sc_is_deed (fun vs H Q E h => ?_) (fun cdv A outer s H vs Q E hr h => ?_)
  · obtain ⟨v, d, rfl, _⟩ := h
    rfl
  · obtain ⟨v, d, rfl, hd, hsh, q⟩ := h
    refine ⟨_, (pss_cons (ps_if (PW.pt (pw_or (pt_not (pt_val (pe_callB call_isi (by rfl) B.isinstance_ (by decide +kernel) (pa_cons (pv 0) (pa_cons (pe_ty "tuple" (by rfl) B2.tuple_ (by decide +kernel)) pa_nil))))) (pw_or (pt_cmpR (op_eqD hr.units) (pv 0) (pe_tup pa_nil) (nomark _)) (pw_or1 (pt_not (pt_val (pe_callB call_isi (by rfl) B.isinstance_ (by decide +kernel) (pa_cons (pe_ix ix_tup (pv 0) pe_int (fun _ _ => rfl)) (pa_cons (pe_ty "str" (by rfl) B2.str_ (by decide +kernel)) pa_nil))))))))) (pss_one (ps_ret pe_bl)) pss_nil)
      (pss_cons (ps_if (pt_cmpR op_in_seq (pe_ix ix_tup (pv 0) pe_int (fun _ _ => rfl)) (pe_gc gP) (by rfl)) (pss_one (ps_ret (pe_cmpR op_eq (pe_callB call_len_seq (by rfl) B.len_ (by decide +kernel) (pa_cons (pv 0) pa_nil)) pe_int (nomark _)))) pss_nil)
      (pss_one (ps_ret (pe_and (pe_cmpR op_in_seq (pe_ix ix_tup (pv 0) pe_int (fun _ _ => rfl)) (pe_tup (pa_cons pe_str (pa_cons pe_str pa_nil))) (by rfl)) (pe_and (pe_cmpR op_eq (pe_callB call_len_seq (by rfl) B.len_ (by decide +kernel) (pa_cons (pv 0) pa_nil)) pe_int (nomark _)) (pe_one (pe_fn c_is_time hr pass0 (pa_cons (pe_ix ix_tup (pv 0) pe_int (fun _ _ => rfl)) pa_nil))))))))), ?_⟩
    by_cases ht : ∃ ds, d = .tuple ds
    · obtain ⟨ds, rfl⟩ := ht
      obtain ⟨p, xs, rfl, hS, hA⟩ := dr_tup hd
      have sh := hsh _ rfl
      have i1 : EvT _ [some (.ref p)] H (!true) := et_not (et_B (ev_isD (T := "tuple") (er_var (i := 0) rfl hd) (show PySem.W.kitOne K (.type "tuple") (.type "tuple") = some true from kit_ty (by decide +kernel))))
      have i2 := et_test (ev_eqD (ed_var (σ := [some (.ref p)]) (i := 0) rfl (dr_dp hd)) (ed_tup eds_nil) sh (by decide))
      cases hA with
      | nil => exact q_when (et_or i1 fun _ => et_or (b := true) i2 fun z => nomatch z) (fun _ H1 e1 => s_ret ev_c fun H2 e2 => q H2 (e1.trans e2)) fun z => nomatch z
      | @cons v0 vs0 d0 ds0 h0 h1 =>
        have a0 : Ev (tOp (rIxT K) (tVar 0) (tC (.int 0))) [some (.ref p)] H v0 := ev_op (ev_var rfl) ev_c (rv_ixT hS (atI_nat (j := 0) rfl))
        have r0 : EvR K (tOp (rIxT K) (tVar 0) (tC (.int 0))) [some (.ref p)] H d0 := fun H1 e Q k => a0 H1 e Q fun H2 e2 => k _ H2 e2 (.dp (Dp.ex (e.trans e2) h0))
        by_cases hs : ∃ x, d0 = .str x
        · obtain ⟨x, rfl⟩ := hs
          obtain rfl := dp_str h0
          refine q_when (et_or i1 fun _ => et_or i2 fun _ => et_not (et_B (ev_isD r0 (show PySem.W.kitOne K (.type "str") (.type "str") = some true from kit_ty (by decide +kernel))))) (fun z => nomatch z) fun _ H1 e1 => ?_
          have l1 : Ev (tOp rEq (tCB (rLenS K) (tCons (tVar 0) tNil)) (tC (.int 1))) [some (.ref p)] H (.bl (decide (V.int ((V.str x :: vs0).length : Int) = .int 1))) := ev_op (ev_lenT (ev_var rfl) hS) ev_c (rv_eq rfl)
          have ln : vs0.length = ds0.length := DpAll.len h1
          refine q_when (et_test (ev_op (a0.mono e1) ev_c (rv_isT (T.sP H1) rfl rfl))) (fun hin H2 e2 => s_ret (l1.mono (e1.trans e2)) fun H3 e3 => ?_) fun hin H2 e2 => ?_
          · have z := q H3 (e1.trans (e2.trans e3))
            rw [show isDeedD (.tuple (.str x :: ds0)) = (ds0.length == 0) from if_pos hin] at z
            refine cast (congrArg (fun b => Q (.bl b) H3) ?_) z
            rw [← ln]
            exact len_one _ _
          · have e12 := e1.trans e2
            have l2 : Ev (tOp rEq (tCB (rLenS K) (tCons (tVar 0) tNil)) (tC (.int 2))) [some (.ref p)] H (.bl (decide (V.int ((V.str x :: vs0).length : Int) = .int 2))) := ev_op (ev_lenT (ev_var rfl) hS) ev_c (rv_eq rfl)
            have hu := ev_inU (K := K) (a0.mono e12) (eu_tup (ea_cons (ev_c (v := .str "unpack")) (ea_cons (ev_c (v := .str "setback")) ea_nil)) (by decide)) rfl rfl
            have fin : ∀ H3, Ex H2 H3 → Q (.bl (inV (.str x) [.str "unpack", .str "setback"] && timeOne ds0)) H3 := fun H3 e3 => by
              have z := q H3 (e12.trans e3)
              rw [show isDeedD (.tuple (.str x :: ds0)) = (inV (.str x) [.str "unpack", .str "setback"] && timeOne ds0) from if_neg (by rw [hin]; exact Bool.false_ne_true)] at z
              exact z
            cases h1 with
            | nil => exact s_ret (ev_andV hu fun _ => ev_andV (b := false) (ev_is (l2.mono e12) (congrArg V.bl (decide_eq_false (fun z => by injection z with z; cases z)))) fun z => nomatch z) fin
            | @cons v1 vs1 d1 ds1 g0 g1 =>
              cases g1 with
              | nil =>
                have a1 : Ev (tOp (rIxT K) (tVar 0) (tC (.int 1))) [some (.ref p)] H v1 := ev_op (ev_var rfl) ev_c (rv_ixT hS (atI_nat (j := 1) rfl))
                exact s_ret (ev_andV hu fun _ => ev_andV (ev_is (l2.mono e12) (congrArg V.bl (decide_eq_true rfl))) fun _ => ev_call (ea_cons (a1.mono e12) ea_nil) fun H4 e4 Q' q' E' => ⟨v1, d1, rfl, .dp (Dp.ex (e12.trans e4) g0), q' H4 (Ex.refl H4)⟩) fin
              | @cons v2 vs2 d2 ds2 g2 g3 => exact s_ret (ev_andV hu fun _ => ev_andV (b := false) (ev_is (l2.mono e12) (congrArg V.bl (len_two _ _ _ _))) fun z => nomatch z) fin
        · refine q_when (et_or i1 fun _ => et_or i2 fun _ => et_not (et_B (ev_isD (b := false) r0 ?_))) (fun _ H1 e1 => s_ret ev_c fun H2 e2 => ?_) fun z => nomatch z
          · cases d0 with
            | str x => exact absurd ⟨x, rfl⟩ hs
            | none => exact (show PySem.W.kitOne K (.type "NoneType") (.type "str") = some false from kit_ty (by decide +kernel))
            | bool _ => exact (show PySem.W.kitOne K (.type "bool") (.type "str") = some false from kit_ty (by decide +kernel))
            | int _ => exact (show PySem.W.kitOne K (.type "int") (.type "str") = some false from kit_ty (by decide +kernel))
            | list _ => exact (show PySem.W.kitOne K (.type "list") (.type "str") = some false from kit_ty (by decide +kernel))
            | tuple _ => exact (show PySem.W.kitOne K (.type "tuple") (.type "str") = some false from kit_ty (by decide +kernel))
            | dict _ => exact (show PySem.W.kitOne K (.type "dict") (.type "str") = some false from kit_ty (by decide +kernel))
          · have z : isDeedD (.tuple (d0 :: ds0)) = false := by cases d0 <;> first | rfl | exact absurd ⟨_, rfl⟩ hs
            rw [← z]
            exact q H2 (e1.trans e2)
    · refine q_when (et_or (b := true) (et_not (et_B (ev_isD (b := false) (er_var (i := 0) rfl hd) ?_))) fun z => nomatch z) (fun _ H1 e1 => s_ret ev_c fun H2 e2 => ?_) fun z => nomatch z
      · cases d with
        | tuple x => exact absurd ⟨x, rfl⟩ ht
        | none => exact (show PySem.W.kitOne K (.type "NoneType") (.type "tuple") = some false from kit_ty (by decide +kernel))
        | bool _ => exact (show PySem.W.kitOne K (.type "bool") (.type "tuple") = some false from kit_ty (by decide +kernel))
        | int _ => exact (show PySem.W.kitOne K (.type "int") (.type "tuple") = some false from kit_ty (by decide +kernel))
        | str _ => exact (show PySem.W.kitOne K (.type "str") (.type "tuple") = some false from kit_ty (by decide +kernel))
        | list _ => exact (show PySem.W.kitOne K (.type "list") (.type "tuple") = some false from kit_ty (by decide +kernel))
        | dict _ => exact (show PySem.W.kitOne K (.type "dict") (.type "tuple") = some false from kit_ty (by decide +kernel))
      · have z : isDeedD d = false := by cases d <;> first | rfl | exact absurd ⟨_, rfl⟩ ht
        rw [← z]
        exact q H2 (e1.trans e2)
theorem ok_makes {f : Addr} {fd : FuncData} (F : Fun K "makes" "makes" s_makes f fd) (c_is_deed : Fn P w K mg base "is_deed" ["value"] CX0 4 (spDeed K)) : FnOk P w K mg base CX0 5 f fd ["value"] (spMakes K) := by
  refine F.ok sc_makes (fun vs H Q E h => ?_) (fun cdv A outer s H vs Q E hr h => ?_)
  · obtain ⟨v, d, rfl, _⟩ := h
    rfl
  · obtain ⟨v, d, rfl, hd, hsh, q⟩ := h
    refine ⟨_, (pss_one (ps_ret (pe_and (pe_fn c_is_deed hr pass0 (pa_cons (pv 0) pa_nil)) (pe_one (pe_cmpR op_in_seq (pe_ix ix_tup (pv 0) pe_int (fun _ _ => rfl)) (pe_tup (pa_cons pe_str (pa_cons pe_str pa_nil))) (by rfl)))))), ?_⟩
    have e1 : Ev (tCall (spDeed K) [] (fun _ _ _ => False) (tCons (tVar 0) tNil)) [some v] H (.bl (isDeedD d)) := ev_call (ea_cons (ev_var rfl) ea_nil) fun H1 e Q' q' E' => ⟨v, d, rfl, DR.ex e hd, hsh, q'⟩
    refine s_ret (v := .bl (makesD d)) (ev_andV e1 fun z => ?_) fun H1 e => q H1 e
    match d, hd, z with
    | .tuple (.str x :: ds), hd, z =>
      obtain ⟨p, xs, rfl, hS, hA⟩ := dr_tup hd
      cases hA with
      | @cons v0 vs0 _ _ h0 h1 =>
        obtain rfl := dp_str h0
        exact ev_inU (K := K) (ev_op (ev_var rfl) ev_c (rv_ixT hS (atI_nat (j := 0) rfl))) (eu_tup (ea_cons (ev_c (v := .str "make")) (ea_cons (ev_c (v := .str "unpack")) ea_nil)) (by decide)) rfl rfl
/-- the shape of a deed -/
theorem deed_cases {d : PyData} (h : isDeedD d = true) : ∃ x ds, d = .tuple (.str x :: ds) ∧ ((inV (.str x) plainV = true ∧ ds = []) ∨ (inV (.str x) plainV = false ∧ inV (.str x) [.str "unpack", .str "setback"] = true ∧ ∃ i, ds = [.int i] ∧ 1 ≤ i ∧ i ≤ 10 ^ 9)) := by
  match d, h with
  | .tuple (.str x :: ds), h =>
    refine ⟨x, ds, rfl, ?_⟩
    have h : (if inV (.str x) plainV = true then ds.length == 0 else (inV (.str x) [.str "unpack", .str "setback"] && timeOne ds)) = true := h
    cases c : inV (.str x) plainV with
    | true =>
      rw [c, if_pos rfl] at h
      exact .inl ⟨rfl, List.length_eq_zero_iff.mp (by simpa using h)⟩
    | false =>
      rw [c, if_neg Bool.false_ne_true, Bool.and_eq_true] at h
      refine .inr ⟨rfl, h.1, ?_⟩
      have t := h.2
      cases ds with
      | nil => cases t
      | cons d0 l => cases l with
        | nil => cases d0 <;> first | exact ⟨_, rfl, (of_decide_eq_true t).1, (of_decide_eq_true t).2⟩ | cases t
        | cons _ _ => cases t
theorem backs_of (x : Str) (ds : List PyData) : backsD (.tuple (.str x :: ds)) =
    if inV (.str x) [.str "make", .str "touch"] then [(.inr "read", .int 0), (.inr "written", .int 0), (.inr "changed", .int 0)]
    else if x = "unpack" then [(.inr "read", .int 0), (.inr "written", backD (.tuple (.str x :: ds))), (.inr "changed", .int 0)]
    else if x = "setback" then [(.inr "read", backD (.tuple (.str x :: ds))), (.inr "written", backD (.tuple (.str x :: ds))), (.inr "changed", .int 0)]
    else if x = "write" then [(.inr "written", .int 0), (.inr "changed", .int 0)]
    else if x = "rename" then [(.inr "changed", .int 0)] else [] := rfl
theorem str_dec {x y : Str} (h : decide (V.str x = V.str y) = true) : x = y := V.str.inj (of_decide_eq_true h)
theorem str_nec {x y : Str} (h : decide (V.str x = V.str y) = false) : ¬ x = y := fun z => of_decide_eq_false h (congrArg V.str z)
theorem ok_backs {f : Addr} {fd : FuncData} (F : Fun K "backs" "backs" s_backs f fd) (c_is_deed : Fn P w K mg base "is_deed" ["value"] CX0 4 (spDeed K)) : FnOk P w K mg base CX0 5 f fd ["deed"] (spBacks0 K) := by
  refine F.ok sc_backs (fun vs H Q E h => ?_) (fun cdv A outer s H vs Q E hr h => ?_)
  · obtain ⟨v, d, rfl, _⟩ := h
    rfl
  · obtain ⟨v, d, rfl, hd, hsh, hyes, q0⟩ := h
    have q := fun (_ : isDeedD d = true) => q0
    refine ⟨_, (pss_cons (ps_if (pt_not (pt_val (pe_fn c_is_deed hr pass0 (pa_cons (pv 0) pa_nil)))) (pss_one ps_never) pss_nil)
      (pss_cons (ps_set (i := 1) sc_backs.nd rfl (Or.inl rfl) (pe_ix ix_tup (pv 0) pe_int (fun _ _ => rfl)))
      (pss_cons (ps_if (pt_cmpR op_in_seq (pv 1) (pe_tup (pa_cons pe_str (pa_cons pe_str pa_nil))) (by rfl)) (pss_one (ps_ret (pe_disp (pps_cons pe_str pe_int (pps_cons pe_str pe_int (pps_cons pe_str pe_int pps_nil))) (by rfl) (by rfl) (fun z => by cases z) (by decide)))) pss_nil)
      (pss_cons (ps_if (pt_cmpR op_eq (pv 1) pe_str (nomark _)) (pss_one (ps_ret (pe_disp (pps_cons pe_str pe_int (pps_cons pe_str (pe_ix ix_tup (pv 0) pe_int (fun _ _ => rfl)) (pps_cons pe_str pe_int pps_nil))) (by rfl) (by rfl) (fun z => by cases z) (by decide)))) pss_nil)
      (pss_cons (ps_if (pt_cmpR op_eq (pv 1) pe_str (nomark _)) (pss_one (ps_ret (pe_disp (pps_cons pe_str (pe_ix ix_tup (pv 0) pe_int (fun _ _ => rfl)) (pps_cons pe_str (pe_ix ix_tup (pv 0) pe_int (fun _ _ => rfl)) (pps_cons pe_str pe_int pps_nil))) (by rfl) (by rfl) (fun z => by cases z) (by decide)))) pss_nil)
      (pss_cons (ps_if (pt_cmpR op_eq (pv 1) pe_str (nomark _)) (pss_one (ps_ret (pe_disp (pps_cons pe_str pe_int (pps_cons pe_str pe_int pps_nil)) (by rfl) (by rfl) (fun z => by cases z) (by decide)))) pss_nil)
      (pss_one (ps_ret (pe_ifExp (pt_cmpR op_eq (pv 1) pe_str (nomark _)) (pe_disp (pps_cons pe_str pe_int pps_nil) (by rfl) (by rfl) (fun z => by cases z) (by decide)) pe_dnewK))))))))), ?_⟩
    have c1 : Ev (tCall (spDeed K) [] (fun _ _ _ => False) (tCons (tVar 0) tNil)) [some v, none] H (.bl (isDeedD d)) := ev_call (ea_cons (ev_var rfl) ea_nil) fun H1 e Q' q' E' => ⟨v, d, rfl, DR.ex e hd, hsh, q'⟩
    refine q_when (et_not (et_B c1)) (fun z H1 e1 => by rw [hyes] at z; cases z) fun z H1 e1 => ?_
    have hdd : isDeedD d = true := by simpa using z
    have q := q hdd
    obtain ⟨x, ds, rfl, hc⟩ := deed_cases hdd
    obtain ⟨p, xs, rfl, hS, hA⟩ := dr_tup hd
    cases hA with
    | @cons v0 vs0 _ _ h0 h1 =>
      obtain rfl := dp_str h0
      refine Ag.q_asg (ev_op (ev_var rfl) ev_c (rv_ixT (ex_t e1 hS) (atI_nat (j := 0) rfl))) fun H2 e2 => ?_
      have e12 := e1.trans e2
      refine q_when (et_test (ev_inU (K := K) (ev_var rfl) (eu_tup (ea_cons (ev_c (v := .str "make")) (ea_cons (ev_c (v := .str "touch")) ea_nil)) (by decide)) rfl rfl)) (fun h H3 e3 => ?_) fun h H3 e3 => ?_
      · refine s_retK (ek_disp (.cons (k := .inr "read") ev_c ev_c (.cons (k := .inr "written") ev_c ev_c (.cons (k := .inr "changed") ev_c ev_c .nil))) (Nat.le_of_ble_eq_true rfl) rfl) fun p' H4 hp e4 h4 => q p' H4 (fresh_back (e12.trans e3) hp) ((e12.trans e3).trans e4) ?_
        rw [h4, backs_of, if_pos h]
        rfl
      have hn : ¬ inV (.str x) [.str "make", .str "touch"] = true := by rw [h]; exact Bool.false_ne_true
      have e123 := e12.trans e3
      have far : inV (.str x) plainV = false → ∃ i, ds = [.int i] ∧ vs0 = [.int i] := fun z => by
        rcases hc with ⟨y, _⟩ | ⟨_, _, i, rfl, _⟩
        · rw [z] at y; cases y
        · cases h1 with | cons g0 g1 => cases g1; obtain rfl := dp_int g0; exact ⟨i, rfl, rfl⟩
      have at1 : ∀ {i : Int}, vs0 = [.int i] → Ev (tOp (rIxT K) (tVar 0) (tC (.int 1))) [some (.ref p), some (.str x)] H (.int i) := fun {i} z => by
        subst z
        exact ev_op (ev_var rfl) ev_c (rv_ixT hS (atI_nat (j := 1) rfl))
      have out : ∀ {kvs : List (Key × V)} {H4 H5 : Hp} {p' : Addr}, Ex H H4 → backsD (.tuple (.str x :: ds)) = kvs → H4 p' = none → Ex H4 H5 → H5 p' = some (.dK kvs) → Q (.ref p') H5 := fun {kvs H4 H5 p'} e4 k hp e5 h5 => by
        subst k
        exact q p' H5 (fresh_back e4 hp) (e4.trans e5) h5
      refine q_when (et_test (ev_op (ev_var rfl) ev_c (rv_eq rfl))) (fun h2 H4 e4 => ?_) fun h2 H4 e4 => ?_
      · have hx := str_dec h2
        obtain ⟨i, hi, hv⟩ := far (by rw [hx]; decide)
        refine s_retK (ek_disp (.cons (k := .inr "read") ev_c ev_c (.cons (k := .inr "written") ev_c ((at1 hv).mono (e123.trans e4)) (.cons (k := .inr "changed") ev_c ev_c .nil))) (Nat.le_of_ble_eq_true rfl) rfl) fun p' H5 hp e5 h5 => out (e123.trans e4) ?_ hp e5 h5
        rw [backs_of, if_neg hn, if_pos hx, hi]
        rfl
      have n2 := str_nec h2
      refine q_when (et_test (ev_op (ev_var rfl) ev_c (rv_eq rfl))) (fun h3 H5 e5 => ?_) fun h3 H5 e5 => ?_
      · have hx := str_dec h3
        obtain ⟨i, hi, hv⟩ := far (by rw [hx]; decide)
        have a1 := (at1 hv).mono ((e123.trans e4).trans e5)
        refine s_retK (ek_disp (.cons (k := .inr "read") ev_c a1 (.cons (k := .inr "written") ev_c a1 (.cons (k := .inr "changed") ev_c ev_c .nil))) (Nat.le_of_ble_eq_true rfl) rfl) fun p' H6 hp e6 h6 => out ((e123.trans e4).trans e5) ?_ hp e6 h6
        rw [backs_of, if_neg hn, if_neg n2, if_pos hx, hi]
        rfl
      have n3 := str_nec h3
      have e5' := (e123.trans e4).trans e5
      refine q_when (et_test (ev_op (ev_var rfl) ev_c (rv_eq rfl))) (fun h4 H6 e6 => ?_) fun h4 H6 e6 => ?_
      · refine s_retK (ek_disp (.cons (k := .inr "written") ev_c ev_c (.cons (k := .inr "changed") ev_c ev_c .nil)) (by decide) rfl) fun p' H7 hp e7 h7 => out (e5'.trans e6) ?_ hp e7 h7
        rw [backs_of, if_neg hn, if_neg n2, if_neg n3, if_pos (str_dec h4)]
        rfl
      have n4 := str_nec h4
      have kb : backsD (.tuple (.str x :: ds)) = if x = "rename" then [(.inr "changed", .int 0)] else [] := by rw [backs_of, if_neg hn, if_neg n2, if_neg n3, if_neg n4]
      refine s_retK (ek_if (et_test (ev_op (ev_var rfl) ev_c (rv_eq rfl))) (fun h5 => ?_) fun h5 => ?_) fun p' H7 hp e7 h7 => out (e5'.trans e6) kb hp e7 h7
      · rw [if_pos (str_dec h5)]
        exact ek_disp (.cons (k := .inr "changed") ev_c ev_c .nil) (by decide) rfl
      · rw [if_neg (str_nec h5)]
        exact ek_new
end
end Ag
namespace Ag
open PySem PySem.Spec PyProof.Rows L2 Evl
/-! ### rules -/
inductive Ru
  | always
  | never
  | seldom (n : Int)
def Ru.word : Ru → Str
  | .always => "always"
  | .never => "never"
  | .seldom _ => "seldom"
def Ru.after : Ru → V
  | .seldom n => .int n
  | _ => .non
def Ru.afterD : Ru → PyData
  | .seldom n => .int n
  | _ => .none
def Ru.data (u : Ru) : PyData := .tuple [.str u.word, u.afterD]
structure Mk3 where
  rd : Int
  wr : Int
  ch : Int
def tab (m : Mk3) : List (Key × V) := [(.inr "read", .int m.rd), (.inr "written", .int m.wr), (.inr "changed", .int m.ch)]
def Ru.sets (u : Ru) (m : Mk3) (t : Int) : Bool := match u with
  | .always => true
  | .never => false
  | .seldom n => (decide (m.rd ≤ m.wr) || decide (m.rd ≤ m.ch)) || decide (t - m.rd ≥ n)
structure RuTxt (K : PySem.W.Frag) (mg : Str → Option Value) (CR : Addr) : Prop where
  cl : Cls K CR
  ca : PySem.W.findIn K (.ref CR) "__class__" = some (some (.builtin "object.__class__"))
  cn : PySem.W.specialIn K (.builtin "object.__class__") "__get__" = some (some (.builtin "getset_descriptor.__get__"))
  ct : PySem.W.takesIn K (.builtin "object.__class__") = some true
  cm : PySem.W.mroIn K CR (.type "object") = some true
  nW : NoAttr K CR "own_word"
  nA : NoAttr K CR "own_after"
  self_ : PySem.W.kitOne K (.ref CR) (.ref CR) = some true
  g : mg "Rule" = some (.ref CR)
  lat : ∃ t, mg "LATEST_AFTER" = some (.int 2000 t)
  ne : PySem.W.findIn K (.ref CR) "__ne__" = some (some (.builtin "object.__ne__"))
  ob : PySem.W.subIn K (.ref CR) (.type "object") = some true
  fc : ∀ f, PySem.W.findIn K (.ref CR) "__call__" = some (some (.ref f)) → PySem.W.fnIn K f = true
def ruFs (w : Str) (v : V) : List (Str × V) := [("own_word", .str w), ("own_after", v)]
def RuAt (CR : Addr) (H : Hp) (r : Addr) (u : Ru) : Prop := ∃ dx, H r = some (.ins CR dx (ruFs u.word u.after))
theorem lk_word {w : Str} {v : V} : List.lookup ("own_word" : Str) (ruFs w v) = some (V.str w) := lookup_hd
theorem lk_after {w : Str} {v : V} : List.lookup ("own_after" : Str) (ruFs w v) = some v := (lookup_tl (by decide +kernel)).trans lookup_hd
theorem ru_no {w : Str} {v : V} {m : Str} (h1 : ¬ m = "own_word" := by decide +kernel) (h2 : ¬ m = "own_after" := by decide +kernel) : List.lookup m (ruFs w v) = none := (lookup_tl h1).trans ((lookup_tl h2).trans rfl)
theorem RuAt.ex {CR : Addr} {H H' : Hp} {r : Addr} {u : Ru} (h : RuAt CR H r u) (e : Ex H H') : RuAt CR H' r u := let ⟨dx, z⟩ := h; ⟨dx, e _ _ z⟩
theorem RuAt.ty {K : PySem.W.Frag} {mg : Str → Option Value} {CR : Addr} {H : Hp} {a : Addr} {u : Ru} (h : RuAt CR H a u) (T : RuTxt K mg CR) : TyX K H (.ref a) (.ref CR) := let ⟨_, e⟩ := h; .base (.ins e T.cl T.ca T.cn T.ct T.cm)
/-- all but p stands as it stood -/
def Set1 (p : Addr) (o : HO) (H H' : Hp) : Prop := H' p = some o ∧ ∀ b, b ≠ p → H' b = H b
theorem Set1.upd {p : Addr} {o : HO} {H : Hp} : Set1 p o H (upd H p o) := ⟨upd_same, fun b n => upd_ne n⟩
theorem Set1.again {p : Addr} {o o' : HO} {H H' : Hp} (h : Set1 p o H H') : Set1 p o' H (L2.upd H' p o') := ⟨upd_same, fun b n => by rw [upd_ne n]; exact h.2 b n⟩
theorem Set1.ex {p : Addr} {o : HO} {H H' : Hp} (h : Set1 p o H H') (n : H p = none) : Ex H H' := fun a u e => by rw [h.2 a (ne_of_none e n)]; exact e
def spRuInit (CR : Addr) : Sp := fun vs H Q _ => ∃ (p dx : Addr) (w : Str) (v : V), vs = [.ref p, .str w, v] ∧ H p = some (.ins CR dx []) ∧ ∀ H', Set1 p (.ins CR dx (ruFs w v)) H H' → Q .non H'
def RetRu (CR : Addr) (u : Ru) (H : Hp) (Q : VK) : Prop := ∀ q H', H q = none → Ex H H' → RuAt CR H' q u → Q (.ref q) H'
def spRuAlways (CR : Addr) : Sp := fun vs H Q _ => vs = [] ∧ RetRu CR .always H Q
def spRuNever (CR : Addr) : Sp := fun vs H Q _ => vs = [] ∧ RetRu CR .never H Q
def spRuSeldom (CR : Addr) : Sp := fun vs H Q _ => ∃ n : Int, vs = [.int n] ∧ 1 ≤ n ∧ n ≤ 2000 ∧ RetRu CR (.seldom n) H Q
def spRuWord (CR : Addr) : Sp := fun vs H Q _ => ∃ a u, vs = [.ref a] ∧ RuAt CR H a u ∧ Q (.str u.word) H
def spRuAfter (CR : Addr) : Sp := fun vs H Q _ => ∃ a u, vs = [.ref a] ∧ RuAt CR H a u ∧ Q u.after H
def spRuSets (CR : Addr) : Sp := fun vs H Q _ => ∃ a d u m t, vs = [.ref a, .ref d, .int t] ∧ RuAt CR H a u ∧ H d = some (.dK (tab m)) ∧ RetV (.bl (u.sets m t)) H Q
def spRuEq (CR : Addr) : Sp := fun vs H Q _ => ∃ a b u u', vs = [.ref a, .ref b] ∧ RuAt CR H a u ∧ RuAt CR H b u' ∧ RetV (.bl (PyData.eqv u.data u'.data)) H Q
def spCheck (CR : Addr) : Sp := fun vs H Q _ => ∃ a u, vs = [.ref a] ∧ RuAt CR H a u ∧ Q .non H
theorem ru_shaped (u : Ru) : SeqAt.shaped u.data = true := by cases u <;> kernel_rfl
theorem made_ru {CR : Addr} {H H' : Hp} {x dx : Addr} {w : Str} {v : V} (nx : H x = none) (nd : H dx = none) (h : Set1 x (.ins CR dx (ruFs w v)) (upd (upd H dx (.own x)) x (.ins CR dx [])) H') : Ex H H' := fun b o e => by
  rw [h.2 b (ne_of_none e nx), upd_ne (ne_of_none e nx), upd_ne (ne_of_none e nd)]
  exact e
section
variable {P : Program} {w : World} {K : PySem.W.Frag} {mg : Str → Option Value} {base : Heap} {CR : Addr}
theorem ok_Rule___init__ {f : Addr} {fd : FuncData} (F : Fun K "__init__" "Rule.__init__" s_Rule___init__ f fd) (TR : RuTxt K mg CR) : FnOk P w K mg base CX0 1 f fd ["self", "word", "after"] (spRuInit CR) := by
  refine F.ok sc_Rule___init__ (fun vs H Q E h => ?_) (fun cdv A outer s H vs Q E hr h => ?_)
  · obtain ⟨p, dx, w, v, rfl, _⟩ := h
    rfl
  · obtain ⟨p, dx, w, v, rfl, hp, q⟩ := h
    refine ⟨_, (pss_cons (ps_fld (pv 0) (pv 1) rfl)
      (pss_one (ps_fld (pv 0) (pv 2) rfl))), ?_⟩
    refine ⟨_, rfl, _, rfl, p, CR, dx, [], rfl, hp, TR.cl, TR.nW, (by decide : 0 < 1000), ?_⟩
    refine ⟨_, rfl, _, rfl, p, CR, dx, _, rfl, upd_same, TR.cl, TR.nA, (by decide : 1 < 1000), ?_⟩
    exact q _ (Set1.again (o := .ins CR dx [("own_word", .str w)]) Set1.upd)
theorem ok_Rule_always {f : Addr} {fd : FuncData} (F : Fun K "always" "Rule.always" s_Rule_always f fd) (TR : RuTxt K mg CR) (c_Rule : Nw P w K mg base "Rule" CR ["self", "word", "after"] CX0 1 (spRuInit CR)) : FnOk P w K mg base CX0 3 f fd [] (spRuAlways CR) := by
  refine F.ok sc_Rule_always (fun vs H Q E h => ?_) (fun cdv A outer s H vs Q E hr h => ?_)
  · obtain ⟨rfl, _⟩ := h
    rfl
  · obtain ⟨rfl, q⟩ := h
    refine ⟨_, (pss_one (ps_ret (pe_nw c_Rule hr pass0 (pa_cons pe_str (pa_cons pe_non pa_nil))))), ?_⟩
    refine fun x dx nx nd ne => ⟨x, dx, _, _, rfl, upd_same, fun H' h => ⟨rfl, q x H' nx (made_ru nx nd h) ⟨dx, h.1⟩⟩⟩
theorem ok_Rule_never {f : Addr} {fd : FuncData} (F : Fun K "never" "Rule.never" s_Rule_never f fd) (TR : RuTxt K mg CR) (c_Rule : Nw P w K mg base "Rule" CR ["self", "word", "after"] CX0 1 (spRuInit CR)) : FnOk P w K mg base CX0 3 f fd [] (spRuNever CR) := by
  refine F.ok sc_Rule_never (fun vs H Q E h => ?_) (fun cdv A outer s H vs Q E hr h => ?_)
  · obtain ⟨rfl, _⟩ := h
    rfl
  · obtain ⟨rfl, q⟩ := h
    refine ⟨_, (pss_one (ps_ret (pe_nw c_Rule hr pass0 (pa_cons pe_str (pa_cons pe_non pa_nil))))), ?_⟩
    refine fun x dx nx nd ne => ⟨x, dx, _, _, rfl, upd_same, fun H' h => ⟨rfl, q x H' nx (made_ru nx nd h) ⟨dx, h.1⟩⟩⟩
theorem ok_Rule_seldom {f : Addr} {fd : FuncData} (F : Fun K "seldom" "Rule.seldom" s_Rule_seldom f fd) (TR : RuTxt K mg CR) (c_is_between : Fn P w K mg base "is_between" ["value", "low", "high"] CX0 2 (spBetween K)) (c_Rule : Nw P w K mg base "Rule" CR ["self", "word", "after"] CX0 1 (spRuInit CR)) :
    FnOk P w K mg base CX0 3 f fd ["after"] (spRuSeldom CR) := by
  obtain ⟨tL, gA⟩ := TR.lat
  refine F.ok sc_Rule_seldom (fun vs H Q E h => ?_) (fun cdv A outer s H vs Q E hr h => ?_)
  · obtain ⟨n, rfl, _⟩ := h
    rfl
  · obtain ⟨n, rfl, h1, h2, q⟩ := h
    refine ⟨_, (pss_cons (ps_if (pt_not (pt_val (pe_fn c_is_between hr pass0 (pa_cons (pv 0) (pa_cons pe_int (pa_cons (pe_gi gA) pa_nil)))))) (pss_one ps_never) pss_nil)
      (pss_one (ps_ret (pe_nw c_Rule hr pass0 (pa_cons pe_str (pa_cons (pv 0) pa_nil)))))), ?_⟩
    refine ⟨_, rfl, .inl ⟨n, _, _, rfl, _, rfl, iteNS ⟨h1, h2⟩ ?_⟩⟩
    refine ⟨_, rfl, fun x dx nx nd ne => ⟨x, dx, _, _, rfl, upd_same, fun H' h => ⟨rfl, q x H' nx (made_ru nx nd h) ⟨dx, h.1⟩⟩⟩⟩
theorem ok_Rule_word {f : Addr} {fd : FuncData} (F : Fun K "word" "Rule.word" s_Rule_word f fd) (TR : RuTxt K mg CR) : FnOk P w K mg base CX0 1 f fd ["self"] (spRuWord CR) := by
  refine F.ok sc_Rule_word (fun vs H Q E h => ?_) (fun cdv A outer s H vs Q E hr h => ?_)
  · obtain ⟨a, u, rfl, _⟩ := h
    rfl
  · obtain ⟨a, u, rfl, ⟨dx, ha⟩, q⟩ := h
    exact ⟨_, (pss_one (ps_ret (pe_fld (pv 0) rfl))), _, rfl, a, CR, dx, _, _, rfl, ha, TR.cl, TR.nW, lk_word, q⟩
theorem ok_Rule_after {f : Addr} {fd : FuncData} (F : Fun K "after" "Rule.after" s_Rule_after f fd) (TR : RuTxt K mg CR) : FnOk P w K mg base CX0 1 f fd ["self"] (spRuAfter CR) := by
  refine F.ok sc_Rule_after (fun vs H Q E h => ?_) (fun cdv A outer s H vs Q E hr h => ?_)
  · obtain ⟨a, u, rfl, _⟩ := h
    rfl
  · obtain ⟨a, u, rfl, ⟨dx, ha⟩, q⟩ := h
    exact ⟨_, (pss_one (ps_ret (pe_fld (pv 0) rfl))), _, rfl, a, CR, dx, _, _, rfl, ha, TR.cl, TR.nA, lk_after, q⟩
theorem ok_Rule_sets {f : Addr} {fd : FuncData} (F : Fun K "sets" "Rule.sets" s_Rule_sets f fd) (TR : RuTxt K mg CR) : FnOk P w K mg base CX0 1 f fd ["self", "marks", "at"] (spRuSets CR) := by
  refine F.ok sc_Rule_sets (fun vs H Q E h => ?_) (fun cdv A outer s H vs Q E hr h => ?_)
  · obtain ⟨a, d, u, m, t, rfl, _⟩ := h
    rfl
  · obtain ⟨a, d, u, m, t, rfl, ⟨dx, ha⟩, hd, q⟩ := h
    refine ⟨_, (pss_cons (ps_if (pt_cmpR op_ne (pe_fld (pv 0) rfl) pe_str (nomark _)) (pss_one (ps_ret (pe_cmpR op_eq (pe_fld (pv 0) rfl) pe_str (nomark _)))) pss_nil)
      (pss_cons (ps_set (i := 3) sc_Rule_sets.nd rfl (Or.inl rfl) (pe_dget (hu_of hr) (pv 1) pe_str (fun _ _ => rfl)))
      (pss_cons (ps_if (PW.pt (pw_or (pt_cmpR op_le (pv 3) (pe_dget (hu_of hr) (pv 1) pe_str (fun _ _ => rfl)) (nomark _)) (pw_or1 (pt_cmpR op_le (pv 3) (pe_dget (hu_of hr) (pv 1) pe_str (fun _ _ => rfl)) (nomark _))))) (pss_one (ps_ret pe_bl)) pss_nil)
      (pss_one (ps_ret (pe_cmpR op_ge (pe_op op_sub (pv 2) (pv 3)) (pe_fld (pv 0) rfl) (nomark _))))))), ?_⟩
    have fw : ∀ {σ : L2.St}, σ[0]? = some (some (.ref a)) → Ev (tFld K (tVar 0) "own_word") σ H (.str u.word) := fun h => ev_fld (ev_var h) ha TR.cl TR.nW lk_word
    have fa : ∀ {σ : L2.St}, σ[0]? = some (some (.ref a)) → Ev (tFld K (tVar 0) "own_after") σ H u.after := fun h => ev_fld (ev_var h) ha TR.cl TR.nA lk_after
    have dr : ∀ {σ : L2.St}, σ[1]? = some (some (.ref d)) → Ev (tDGet (tVar 1) (tC (.str "read"))) σ H (.int m.rd) := fun h => ev_dget (k := .inr "read") (ev_var h) ev_c hd rfl
    have dw : ∀ {σ : L2.St}, σ[1]? = some (some (.ref d)) → Ev (tDGet (tVar 1) (tC (.str "written"))) σ H (.int m.wr) := fun h => ev_dget (k := .inr "written") (ev_var h) ev_c hd rfl
    have dc : ∀ {σ : L2.St}, σ[1]? = some (some (.ref d)) → Ev (tDGet (tVar 1) (tC (.str "changed"))) σ H (.int m.ch) := fun h => ev_dget (k := .inr "changed") (ev_var h) ev_c hd rfl
    cases u with
    | always => exact q_when (et_test (b := true) (ev_op (fw rfl) ev_c (rv_ne rfl))) (fun _ H1 e1 => s_ret (ev_op ((fw rfl).mono e1) ev_c (rv_eq rfl)) fun H2 e2 => q H2 (e1.trans e2)) fun z => nomatch z
    | never => exact q_when (et_test (b := true) (ev_op (fw rfl) ev_c (rv_ne rfl))) (fun _ H1 e1 => s_ret (ev_op ((fw rfl).mono e1) ev_c (rv_eq rfl)) fun H2 e2 => q H2 (e1.trans e2)) fun z => nomatch z
    | seldom n =>
      refine q_when (et_test (b := false) (ev_op (fw rfl) ev_c (rv_ne rfl))) (fun z => nomatch z) fun _ H1 e1 => ?_
      refine Ag.q_asg ((dr rfl).mono e1) fun H2 e2 => ?_
      refine q_when (et_or (et_test (ev_op (ev_var rfl) ((dw rfl).mono (e1.trans e2)) rv_I0)) fun _ => et_test (ev_op (ev_var rfl) ((dc rfl).mono (e1.trans e2)) rv_I0)) (fun z H3 e3 => s_ret ev_c fun H4 e4 => ?_) fun z H3 e3 => s_ret (ev_op (ev_op (ev_var rfl) (ev_var rfl) rv_I0) ((fa rfl).mono ((e1.trans e2).trans e3)) rv_I0) fun H4 e4 => ?_
      · have g := q H4 (((e1.trans e2).trans e3).trans e4)
        rw [show (Ru.seldom n).sets m t = true from by show ((_ || _) || _) = true; rw [z]; rfl] at g
        exact g
      · have g := q H4 (((e1.trans e2).trans e3).trans e4)
        rw [show (Ru.seldom n).sets m t = decide (t - m.rd ≥ n) from by show ((_ || _) || _) = _; rw [z]; rfl] at g
        exact g
theorem ok_Rule___eq__ {f : Addr} {fd : FuncData} (F : Fun K "__eq__" "Rule.__eq__" s_Rule___eq__ f fd) (B : Bl mg) (TR : RuTxt K mg CR) (c_Rule_word : Pr P w K mg base CR "word" ["self"] CX0 1 (spRuWord CR)) (c_Rule_after : Pr P w K mg base CR "after" ["self"] CX0 1 (spRuAfter CR)) :
    FnOk P w K mg base CX0 3 f fd ["self", "other"] (spRuEq CR) := by
  have gR := TR.g
  refine F.ok sc_Rule___eq__ (fun vs H Q E h => ?_) (fun cdv A outer s H vs Q E hr h => ?_)
  · obtain ⟨a, b, u, u', rfl, _⟩ := h
    rfl
  · obtain ⟨a, b, u, u', rfl, ha0, hb0, q⟩ := h
    have ha := ha0
    have hb := hb0
    obtain ⟨dx, ha⟩ := ha
    obtain ⟨dy, hb⟩ := hb
    refine ⟨_, (pss_one (ps_ret (pe_and (pe_callB call_isi (by rfl) B.isinstance_ (by decide +kernel) (pa_cons (pv 1) (pa_cons (pe_gc gR) pa_nil))) (pe_one (pe_cmpR (op_eqD hr.units) (pe_tup (pa_cons (pe_fld (pv 0) rfl) (pa_cons (pe_fld (pv 0) rfl) pa_nil))) (pe_tup (pa_cons (pe_pr TR.cl c_Rule_word hr pass0 (pv 1)) (pa_cons (pe_pr TR.cl c_Rule_after hr pass0 (pv 1)) pa_nil))) (nomark _)))))), ?_⟩
    have ad : ∀ u : Ru, ∀ {te : TE} {σ : L2.St}, Ev te σ H u.after → EvD K te σ H u.afterD := fun u te σ h => by
      cases u with
      | always => exact ed_non h
      | never => exact ed_non h
      | seldom n => exact ed_int h
    refine s_ret (ev_andV (a := true) (ev_isi (fun H1 e Q' q' => ⟨_, rfl, q' _ H1 (Ex.refl H1) (RuAt.ty (hb0.ex e) TR)⟩) ev_c (.own CR) TR.self_) fun _ => ev_eqD (ed_tup (eds_cons (ed_str (ev_fld (ev_var rfl) ha TR.cl TR.nW lk_word)) (eds_cons (ad u (ev_fld (ev_var rfl) ha TR.cl TR.nA lk_after)) eds_nil)))
      (ed_tup (eds_cons (ed_str (ev_propP (v := .str u'.word) (ev_var rfl) hb fun H1 e Q' q' => ⟨b, u', rfl, hb0.ex e, q' H1 (Ex.refl H1)⟩)) (eds_cons (ad u' (ev_propP (ev_var rfl) hb fun H1 e Q' q' => ⟨b, u', rfl, hb0.ex e, q' H1 (Ex.refl H1)⟩)) eds_nil))) (ru_shaped u) (ru_shaped u')) fun H1 e1 => q H1 e1
theorem ok_check_rule {f : Addr} {fd : FuncData} (F : Fun K "check_rule" "check_rule" s_check_rule f fd) (B : Bl mg) (TR : RuTxt K mg CR) : FnOk P w K mg base CX0 1 f fd ["value"] (spCheck CR) := by
  have gR := TR.g
  refine F.ok sc_check_rule (fun vs H Q E h => ?_) (fun cdv A outer s H vs Q E hr h => ?_)
  · obtain ⟨a, u, rfl, _⟩ := h
    rfl
  · obtain ⟨a, u, rfl, ha, q⟩ := h
    refine ⟨_, (pss_one (ps_if (pt_not (pt_val (pe_callB call_isi (by rfl) B.isinstance_ (by decide +kernel) (pa_cons (pv 0) (pa_cons (pe_gc gR) pa_nil))))) (pss_one ps_never) pss_nil)), ?_⟩
    exact ⟨_, rfl, _, _, _, _, true, rfl, .own CR, ha.ty TR, TR.self_, _, rfl, iteF q⟩
end
end Ag
namespace Ag
open PySem PySem.Spec PyProof.Rows L2 Evl
/-! ### deeds and files, told plainly -/
inductive Dd
  | make
  | read
  | write
  | rename
  | touch
  | unpack (b : Int)
  | setback (b : Int)
def Dd.word : Dd → Str
  | .make => "make"
  | .read => "read"
  | .write => "write"
  | .rename => "rename"
  | .touch => "touch"
  | .unpack _ => "unpack"
  | .setback _ => "setback"
def Dd.rest : Dd → List PyData
  | .unpack b => [.int b]
  | .setback b => [.int b]
  | _ => []
def Dd.restV : Dd → List V
  | .unpack b => [.int b]
  | .setback b => [.int b]
  | _ => []
def Dd.data (d : Dd) : PyData := .tuple (.str d.word :: d.rest)
def Dd.Ok : Dd → Prop
  | .unpack b => 1 ≤ b ∧ b ≤ 10 ^ 9
  | .setback b => 1 ≤ b ∧ b ≤ 10 ^ 9
  | _ => True
def Dd.makes : Dd → Bool
  | .make => true
  | .unpack _ => true
  | _ => false
def Dd.isRead : Dd → Bool
  | .read => true
  | _ => false
def Dd.backs : Dd → List (Str × Int)
  | .make => [("read", 0), ("written", 0), ("changed", 0)]
  | .touch => [("read", 0), ("written", 0), ("changed", 0)]
  | .unpack b => [("read", 0), ("written", b), ("changed", 0)]
  | .setback b => [("read", b), ("written", b), ("changed", 0)]
  | .write => [("written", 0), ("changed", 0)]
  | .rename => [("changed", 0)]
  | .read => []
def Dd.app (d : Dd) (m : Mk3) (n : Int) : Mk3 := match d with
  | .make => ⟨n - 0, n - 0, n - 0⟩
  | .touch => ⟨n - 0, n - 0, n - 0⟩
  | .unpack b => ⟨n - 0, n - b, n - 0⟩
  | .setback b => ⟨n - b, n - b, n - 0⟩
  | .write => ⟨m.rd, n - 0, n - 0⟩
  | .rename => ⟨m.rd, m.wr, n - 0⟩
  | .read => m
theorem dd_deed {d : Dd} (h : d.Ok) : isDeedD d.data = true := by
  cases d <;> first | rfl | exact decide_eq_true h
theorem dd_makes {d : Dd} (h : d.Ok) : makesD d.data = d.makes := by
  cases d with
  | unpack b => unfold makesD; rw [dd_deed h]; rfl
  | setback b => unfold makesD; rw [dd_deed h]; rfl
  | _ => rfl
theorem dd_sh (d : Dd) : SeqAt.shaped d.data = true := by cases d <;> kernel_rfl
theorem dd_sht (d : Dd) : ShT d.data := fun _ _ => dd_sh d
theorem dd_backs (d : Dd) : backsD d.data = d.backs.map bkv := by cases d <;> rfl
theorem dd_isRead (d : Dd) : decide (V.str d.word = .str "read") = d.isRead := by
  cases d <;> first | rfl | decide
theorem puts_app (d : Dd) (m : Mk3) (n : Int) : puts n d.backs (tab m) = tab (d.app m n) := by cases d <;> rfl
theorem puts_new (d : Dd) (h : d.makes = true) (n : Int) : puts n d.backs [] = tab (d.app ⟨0, 0, 0⟩ n) := by
  cases d <;> first | rfl | cases h
structure Fl where
  ru : Ru
  m : Mk3
  last : Int
  held : Bool
def Fl.sbs (s : Fl) (d : Dd) (n : Int) : List (Str × Int) := if (d.isRead && s.ru.sets s.m n) = true then [("read", 0)] else d.backs
def Fl.mAft (s : Fl) (d : Dd) (n : Int) : Mk3 := if (d.isRead && s.ru.sets s.m n) = true then ⟨n - 0, s.m.wr, s.m.ch⟩ else d.app s.m n
theorem puts_sbs (s : Fl) (d : Dd) (n : Int) : puts n (s.sbs d n) (tab s.m) = tab (s.mAft d n) := by
  unfold Fl.sbs Fl.mAft
  by_cases h : (d.isRead && s.ru.sets s.m n) = true
  · rw [if_pos h, if_pos h]; rfl
  · rw [if_neg h, if_neg h]; exact puts_app d s.m n
def Fl.does (s : Fl) (d : Dd) (n : Int) : Fl := ⟨s.ru, s.mAft d n, n, if d.makes = true then false else s.held⟩
theorem backs_len (d : Dd) : d.backs.length ≤ 3 := by cases d <;> simp [Dd.backs]
theorem sbs_len (s : Fl) (d : Dd) (n : Int) : (s.sbs d n).length ≤ 3 := by
  unfold Fl.sbs
  split
  · decide
  · exact backs_len d
/-- v is the deed d -/
def DdAt (K : PySem.W.Frag) (H : Hp) (v : V) (d : Dd) : Prop := ∃ a, v = .ref a ∧ SqT K H a (.str d.word :: d.restV)
theorem DdAt.dr {K : PySem.W.Frag} {H : Hp} {v : V} {d : Dd} (h : DdAt K H v d) : DR K H v d.data := by
  obtain ⟨a, rfl, h⟩ := h
  refine .dp (.tup h (.cons (.str _) ?_))
  cases d <;> first | exact .nil | exact .cons (.int _) .nil
theorem DdAt.ex {K : PySem.W.Frag} {H H' : Hp} {v : V} {d : Dd} (h : DdAt K H v d) (e : Ex H H') : DdAt K H' v d := let ⟨a, ea, h⟩ := h; ⟨a, ea, ex_t e h⟩
def NoTup (H : Hp) (p : Addr) : Prop := ∀ xs, ¬ Rd H p (.tup xs)
theorem notup_ins {H : Hp} {p C dx : Addr} {fs : List (Str × V)} (h : H p = some (.ins C dx fs)) : NoTup H p := fun xs z => by
  rcases z with z | ⟨o, z⟩ <;> rw [h] at z <;> cases z
theorem notup_dk {H : Hp} {p : Addr} {kvs : List (Key × V)} (h : H p = some (.dK kvs)) : NoTup H p := fun xs z => by
  rcases z with z | ⟨o, z⟩ <;> rw [h] at z <;> cases z
theorem notup_lst {H : Hp} {p : Addr} {xs : List V} (h : H p = some (.lst xs)) : NoTup H p := fun xs z => by
  rcases z with z | ⟨o, z⟩ <;> rw [h] at z <;> cases z
theorem sqt_to {K : PySem.W.Frag} {H H' : Hp} {a : Addr} {xs : List V} (h : SqT K H a xs) (k : ∀ o, Rd H a (.tup xs) → H a = some o → H' a = some o) : SqT K H' a xs := by
  rcases h with h | h
  · refine .inl ?_
    rcases h with h' | ⟨o, h'⟩
    · exact .inl (k _ (.inl h') h')
    · exact .inr ⟨o, k _ (.inr ⟨o, h'⟩) h'⟩
  · exact .inr h
theorem DdAt.kp {K : PySem.W.Frag} {H H' : Hp} {v : V} {d : Dd} {p : Addr} (h : DdAt K H v d) (k : Kp p H H') (n : NoTup H p) : DdAt K H' v d := let ⟨a, ea, h⟩ := h
  ⟨a, ea, sqt_to h fun o r e => k _ _ (fun z => n _ (z ▸ r)) e⟩
/-! ### files -/
structure FiTxt (K : PySem.W.Frag) (mg : Str → Option Value) (CF CMk : Addr) : Prop where
  cl : Cls K CF
  ca : PySem.W.findIn K (.ref CF) "__class__" = some (some (.builtin "object.__class__"))
  cn : PySem.W.specialIn K (.builtin "object.__class__") "__get__" = some (some (.builtin "getset_descriptor.__get__"))
  ct : PySem.W.takesIn K (.builtin "object.__class__") = some true
  cm : PySem.W.mroIn K CF (.type "object") = some true
  nR : NoAttr K CF "rule"
  nH : NoAttr K CF "own_held"
  nL : NoAttr K CF "own_last"
  nT : NoAttr K CF "own_table"
  self_ : PySem.W.kitOne K (.ref CF) (.ref CF) = some true
  mk_ : PySem.W.kitOne K (.ref CF) (.ref CMk) = some true
  g : mg "File" = some (.ref CF)
  gM : mg "Marked" = some (.ref CMk)
  ne : PySem.W.findIn K (.ref CF) "__ne__" = some (some (.builtin "object.__ne__"))
  ob : PySem.W.subIn K (.ref CF) (.type "object") = some true
  fi : ∀ f, PySem.W.findIn K (.ref CF) "__getitem__" = some (some (.ref f)) → PySem.W.fnIn K f = true
def fiFs (r : Addr) (h : Bool) (l : Int) (d : Addr) : List (Str × V) := [("rule", .ref r), ("own_held", .bl h), ("own_last", .int l), ("own_table", .ref d)]
section
variable {r d : Addr} {h : Bool} {l : Int}
theorem lk_rule : List.lookup ("rule" : Str) (fiFs r h l d) = some (V.ref r) := lookup_hd
theorem lk_held : List.lookup ("own_held" : Str) (fiFs r h l d) = some (V.bl h) := (lookup_tl (by decide +kernel)).trans lookup_hd
theorem lk_last : List.lookup ("own_last" : Str) (fiFs r h l d) = some (V.int l) := (lookup_tl (by decide +kernel)).trans ((lookup_tl (by decide +kernel)).trans lookup_hd)
theorem lk_table : List.lookup ("own_table" : Str) (fiFs r h l d) = some (V.ref d) := (lookup_tl (by decide +kernel)).trans ((lookup_tl (by decide +kernel)).trans ((lookup_tl (by decide +kernel)).trans lookup_hd))
theorem fi_no {m : Str} (h1 : ¬ m = "rule" := by decide +kernel) (h2 : ¬ m = "own_held" := by decide +kernel) (h3 : ¬ m = "own_last" := by decide +kernel) (h4 : ¬ m = "own_table" := by decide +kernel) : List.lookup m (fiFs r h l d) = none :=
  (lookup_tl h1).trans ((lookup_tl h2).trans ((lookup_tl h3).trans ((lookup_tl h4).trans rfl)))
end
def FlAt (CF CR : Addr) (H : Hp) (f d r : Addr) (s : Fl) : Prop := (∃ dx, H f = some (.ins CF dx (fiFs r s.held s.last d))) ∧ H d = some (.dK (tab s.m)) ∧ RuAt CR H r s.ru
theorem FlAt.ex {CF CR : Addr} {H H' : Hp} {f d r : Addr} {s : Fl} (h : FlAt CF CR H f d r s) (e : Ex H H') : FlAt CF CR H' f d r s := let ⟨⟨dx, h1⟩, h2, h3⟩ := h; ⟨⟨dx, e _ _ h1⟩, e _ _ h2, h3.ex e⟩
theorem FlAt.ty {K : PySem.W.Frag} {mg : Str → Option Value} {CF CR CMk : Addr} {H : Hp} {f d r : Addr} {s : Fl} (h : FlAt CF CR H f d r s) (T : FiTxt K mg CF CMk) : TyX K H (.ref f) (.ref CF) := let ⟨⟨_, e⟩, _⟩ := h; .base (.ins e T.cl T.ca T.cn T.ct T.cm)
theorem fs_ne {CF CR dx dy r d : Addr} {h : Bool} {l : Int} {w : Str} {v : V} : HO.ins CF dx (fiFs r h l d) ≠ HO.ins CR dy (ruFs w v) := fun z => by
  injection z with _ _ z
  have e := congrArg List.length z
  exact absurd e (by decide : ¬ 4 = 2)
theorem FlAt.rf {CF CR : Addr} {H : Hp} {f d r : Addr} {s : Fl} (h : FlAt CF CR H f d r s) : r ≠ f := let ⟨⟨_, h1⟩, _, ⟨_, h3⟩⟩ := h; (ne_of h1 h3 fs_ne).symm
theorem FlAt.df {CF CR : Addr} {H : Hp} {f d r : Addr} {s : Fl} (h : FlAt CF CR H f d r s) : d ≠ f := let ⟨⟨_, h1⟩, h2, _⟩ := h; ne_of h2 h1 (fun z => nomatch z)
theorem FlAt.rd {CF CR : Addr} {H : Hp} {f d r : Addr} {s : Fl} (h : FlAt CF CR H f d r s) : r ≠ d := let ⟨_, h2, ⟨_, h3⟩⟩ := h; ne_of h3 h2 (fun z => nomatch z)
/-- all but f and d is kept -/
def Kp2 (f d : Addr) (H H' : Hp) : Prop := ∀ b o, b ≠ f → b ≠ d → H b = some o → H' b = some o
def AtIs (C : Addr) (H : Hp) (v : V) (n : Int) : Prop := (v = .int n ∧ Far n) ∨ ∃ a, v = .ref a ∧ MoAt C H a n
theorem AtIs.ex {C : Addr} {H H' : Hp} {v : V} {n : Int} (h : AtIs C H v n) (e : Ex H H') : AtIs C H' v n := by
  rcases h with h | ⟨a, ea, h⟩
  · exact .inl h
  · exact .inr ⟨a, ea, h.same e⟩
def spSecOf (C : Addr) : Sp := fun vs H Q _ => ∃ v n, vs = [v] ∧ AtIs C H v n ∧ RetV (.int n) H Q
def spRuCall (C CR CF : Addr) : Sp := fun vs H Q _ => ∃ (a f d r : Addr) (v : V) (u : Ru) (s : Fl) (n : Int), vs = [.ref a, .ref f, v] ∧ RuAt CR H a u ∧ FlAt CF CR H f d r s ∧ AtIs C H v n ∧ RetV (.bl (u.sets s.m n)) H Q
def spFiInit (K : PySem.W.Frag) (C CR CF : Addr) : Sp := fun vs H Q _ => ∃ (p dx r : Addr) (v w : V) (u : Ru) (dd : Dd) (n : Int), vs = [.ref p, .ref r, v, w] ∧ H p = some (.ins CF dx []) ∧ RuAt CR H r u ∧ DdAt K H v dd ∧ dd.Ok ∧ dd.makes = true ∧ AtIs C H w n ∧
  ∀ d H', H d = none → Kp p H H' → FlAt CF CR H' p d r ⟨u, dd.app ⟨0, 0, 0⟩ n, n, false⟩ → Q .non H'
def spFiItem (C CR CF : Addr) : Sp := fun vs H Q _ => ∃ (f d r : Addr) (s : Fl) (k : Str) (x : Int), vs = [.ref f, .str k] ∧ FlAt CF CR H f d r s ∧ inV (.str k) marksV = true ∧ valV (tab s.m) (.inr k) = some (.int x) ∧ Far x ∧ ∀ q H', Ex H H' → MoAt C H' q x → Q (.ref q) H'
def spFiMarks (CR CF : Addr) : Sp := fun vs H Q _ => ∃ (f d r : Addr) (s : Fl), vs = [.ref f] ∧ FlAt CF CR H f d r s ∧ ∀ q H', H q = none → Ex H H' → H' q = some (.dK (tab s.m)) → Q (.ref q) H'
def spFiDo (K : PySem.W.Frag) (C CR CF : Addr) : Sp := fun vs H Q _ => ∃ (f d r : Addr) (v w : V) (s : Fl) (dd : Dd) (n : Int), vs = [.ref f, v, w] ∧ FlAt CF CR H f d r s ∧ DdAt K H v dd ∧ dd.Ok ∧ AtIs C H w n ∧ s.last < n ∧
  ∀ q H', H q = none → Kp2 f d H H' → FlAt CF CR H' f d r (s.does dd n) → H' q = some (.lst ((s.sbs dd n).map fun kb => .str kb.1)) → Q (.ref q) H'
def spFiDouble (CR CF : Addr) : Sp := fun vs H Q _ => ∃ (f d r : Addr) (s : Fl), vs = [.ref f] ∧ FlAt CF CR H f d r s ∧ Far s.last ∧ ∀ f' d' H', H f' = none → H d' = none → Ex H H' → FlAt CF CR H' f' d' r s → Q (.ref f') H'
def Fl.eqB (s s' : Fl) : Bool := if (!PyData.eqv s.ru.data s'.ru.data || !decide (V.bl s.held = .bl s'.held)) = true then false
  else ((tab s.m).length == (tab s'.m).length && eqK (tab s'.m) (tab s.m)) && decide (V.int s.last = .int s'.last)
def spFiEq (CR CF : Addr) : Sp := fun vs H Q _ => ∃ (a d r b d' r' : Addr) (s s' : Fl), vs = [.ref a, .ref b] ∧ FlAt CF CR H a d r s ∧ FlAt CF CR H b d' r' s' ∧ RetV (.bl (s.eqB s')) H Q
theorem tab_flat (m : Mk3) : ∀ p ∈ tab m, flatV p.2 = true := fun p hp => by
  simp only [tab, List.mem_cons, List.not_mem_nil, or_false] at hp
  rcases hp with rfl | rfl | rfl <;> rfl
section
variable {P : Program} {w : World} {K : PySem.W.Frag} {mg : Str → Option Value} {base : Heap} {C CR CF CMk pP pM : Addr}
theorem ok_seconds_of {f : Addr} {fd : FuncData} (F : Fun K "seconds_of" "seconds_of" s_seconds_of f fd) (B : Bl mg) (T : MoTxt K mg C) (c_is_between : Fn P w K mg base "is_between" ["value", "low", "high"] CX0 2 (spBetween K)) (c_Moment_seconds : Pr P w K mg base C "seconds" ["self"] CX0 1 (spMoSec C)) :
    FnOk P w K mg base CX0 3 f fd ["value"] (spSecOf C) := by
  obtain ⟨tF, gF⟩ := T.far
  refine F.ok sc_seconds_of (fun vs H Q E h => ?_) (fun cdv A outer s H vs Q E hr h => ?_)
  · obtain ⟨v, n, rfl, _⟩ := h
    rfl
  · obtain ⟨v, n, rfl, h, q⟩ := h
    refine ⟨_, (pss_cons (ps_if (pt_val (pe_callB call_isi (by rfl) B.isinstance_ (by decide +kernel) (pa_cons (pv 0) (pa_cons (pe_gc T.g) pa_nil)))) (pss_one (ps_ret (pe_pr T.cl c_Moment_seconds hr pass0 (pv 0)))) pss_nil)
      (pss_one (ps_ret (pe_ifExp (pt_val (pe_fn c_is_between hr pass0 (pa_cons (pv 0) (pa_cons (pe_un un_neg (pe_gi gF)) (pa_cons (pe_gi gF) pa_nil))))) (pv 0) pe_non)))), ?_⟩
    rcases h with ⟨rfl, fr⟩ | ⟨a, rfl, ha⟩
    · refine q_when (et_B (ev_isMI T (ev_var rfl))) (fun z => nomatch z) fun _ H1 e1 => s_ret (ev_if (b := true) (et_B (ev_call (ea_cons (ev_var rfl) (ea_cons (ev_un ev_c ru_neg) (ea_cons ev_c ea_nil))) fun H2 e2 Q' q' E' => .inl ⟨n, _, _, rfl, ?_⟩)) (fun _ => ev_var rfl) fun z => nomatch z) fun H2 e2 => q H2 (e1.trans e2)
      rw [show decide (-(10 ^ 30) ≤ n ∧ n ≤ 10 ^ 30) = true from decide_eq_true fr]
      exact q' H2 (Ex.refl H2)
    · exact q_when (et_B (ev_isM T (evm_var rfl ha))) (fun _ H1 e1 => s_ret (ev_sec (evm_var rfl (ha.same e1))) fun H2 e2 => q H2 (e1.trans e2)) fun z => nomatch z
theorem ok_Rule___call__ {f : Addr} {fd : FuncData} (F : Fun K "__call__" "Rule.__call__" s_Rule___call__ f fd) (B : Bl mg) (TR : RuTxt K mg CR) (TF : FiTxt K mg CF CMk) (c_seconds_of : Fn P w K mg base "seconds_of" ["value"] CX0 3 (spSecOf C)) (c_Rule_sets : Mt P w K mg base CR "sets" ["self", "marks", "at"] CX0 1 (spRuSets CR)) :
    FnOk P w K mg base CX0 4 f fd ["self", "file", "at"] (spRuCall C CR CF) := by
  refine F.ok sc_Rule___call__ (fun vs H Q E h => ?_) (fun cdv A outer s H vs Q E hr h => ?_)
  · obtain ⟨a, f, d, r, v, u, s, n, rfl, _⟩ := h
    rfl
  · obtain ⟨a, f, d, r, v, u, s, n, rfl, ha0, hf0, hv, q⟩ := h
    have hf := hf0
    have ha := ha0
    obtain ⟨⟨dx, h1⟩, h2, h3⟩ := hf
    obtain ⟨dy, ha⟩ := ha
    refine ⟨_, (pss_cons (ps_if (pt_not (pt_val (pe_callB call_isi (by rfl) B.isinstance_ (by decide +kernel) (pa_cons (pv 1) (pa_cons (pe_gc TF.gM) pa_nil))))) (pss_one ps_never) pss_nil)
      (pss_cons (ps_set (i := 3) sc_Rule___call__.nd rfl (Or.inl rfl) (pe_fn c_seconds_of hr pass0 (pa_cons (pv 2) pa_nil)))
      (pss_cons (ps_if (pt_cmpR op_isN (pv 3) pe_non (nomark _)) (pss_one ps_never) pss_nil)
      (pss_one (ps_ret (pe_mt TR.cl c_Rule_sets hr pass0 (pv 0) (pa_cons (pe_fld (pv 1) rfl) (pa_cons (pv 3) pa_nil)))))))), ?_⟩
    refine q_ifF (et_not (et_B (b := true) (ev_isi (fun H1 e Q' q' => ⟨_, rfl, q' _ H1 (Ex.refl H1) ((hf0.ex e).ty TF)⟩) ev_c (.own CMk) TF.mk_))) rfl fun H1 e1 => ?_
    refine Ag.q_asg (ev_call (z := .int n) (ea_cons (ev_var rfl) ea_nil) fun H2 e2 Q' q' E' => ⟨v, n, rfl, hv.ex (e1.trans e2), q'⟩) fun H2 e2 => ?_
    refine q_ifF (et_test (ev_isN (ev_var rfl))) rfl fun H3 e3 => ?_
    have e13 := (e1.trans e2).trans e3
    exact s_ret (ev_meth (ev_var rfl) (e13 _ _ ha) ru_no (ea_cons (ev_fld (ev_var rfl) (e13 _ _ h1) TF.cl TF.nT lk_table) (ea_cons (ev_var rfl) ea_nil)) fun H4 e4 Q' q' => ⟨a, d, u, s.m, n, rfl, ha0.ex (e13.trans e4), e4 _ _ (e13 _ _ h2), q'⟩) fun H4 e4 => q H4 (e13.trans e4)
theorem ok_File___init__ {f : Addr} {fd : FuncData} (F : Fun K "__init__" "File.__init__" s_File___init__ f fd) (TR : RuTxt K mg CR) (TF : FiTxt K mg CF CMk) (c_check_rule : Fn P w K mg base "check_rule" ["value"] CX0 1 (spCheck CR)) (c_makes : Fn P w K mg base "makes" ["value"] CX0 5 (spMakes K))
    (c_backs : Fn P w K mg base "backs" ["deed"] CX0 5 (spBacks0 K)) (c_seconds_of : Fn P w K mg base "seconds_of" ["value"] CX0 3 (spSecOf C)) : FnOk P w K mg base CX0 6 f fd ["self", "rule", "deed", "at"] (spFiInit K C CR CF) := by
  refine F.ok sc_File___init__ (fun vs H Q E h => ?_) (fun cdv A outer s H vs Q E hr h => ?_)
  · obtain ⟨p, dx, r, v, w, u, dd, n, rfl, _⟩ := h
    rfl
  · obtain ⟨p, dx, r, v, w, u, dd, n, rfl, hp, hu, hd, ok, mk, hw, q⟩ := h
    refine ⟨_, (pss_cons (ps_expr (pe_fn c_check_rule hr pass0 (pa_cons (pv 1) pa_nil)))
      (pss_cons (ps_if (pt_not (pt_val (pe_fn c_makes hr pass0 (pa_cons (pv 2) pa_nil)))) (pss_one ps_never) pss_nil)
      (pss_cons (ps_set (i := 4) sc_File___init__.nd rfl (Or.inl rfl) (pe_fn c_seconds_of hr pass0 (pa_cons (pv 3) pa_nil)))
      (pss_cons (ps_if (pt_cmpR op_isN (pv 4) pe_non (nomark _)) (pss_one ps_never) pss_nil)
      (pss_cons (ps_fld (pv 0) (pv 1) rfl)
      (pss_cons (ps_fld (pv 0) pe_bl rfl)
      (pss_cons (ps_fld (pv 0) (pv 4) rfl)
      (pss_cons (ps_fld (pv 0) pe_dnewK rfl)
      (pss_one (ps_for PassesOwn.never rfl (pi_items (pe_frz (pe_fn c_backs hr pass0 (pa_cons (pv 2) pa_nil)))) (pg_tup rfl (pgs_cons (pg_name (i := 5) sc_File___init__.nd rfl (Or.inl rfl)) (pgs_cons (pg_name (i := 6) sc_File___init__.nd rfl (Or.inl rfl)) pgs_nil))) (pss_one (ps_dput (hu_of hr) (pe_fld (pv 0) rfl) (pv 5) (pe_op op_sub (pv 4) (pv 6)) rfl)))))))))))), ?_⟩
    refine q_drop (v := .non) (ev_call (ea_cons (ev_var rfl) ea_nil) fun H1 e1 Q' q' E' => ⟨r, u, rfl, hu.ex e1, q' H1 (Ex.refl H1)⟩) fun H1 e1 => ?_
    refine q_ifF (et_not (et_B (b := true) (ev_call (ea_cons (ev_var rfl) ea_nil) fun H2 e2 Q' q' E' => ⟨v, dd.data, rfl, DR.ex (e1.trans e2) hd.dr, dd_sht dd, by rw [dd_makes ok, mk]; exact q'⟩))) rfl fun H2 e2 => ?_
    have e12 := e1.trans e2
    refine Ag.q_asg (ev_call (z := .int n) (ea_cons (ev_var rfl) ea_nil) fun H3 e3 Q' q' E' => ⟨w, n, rfl, hw.ex (e12.trans e3), q'⟩) fun H3 e3 => ?_
    refine q_ifF (et_test (ev_isN (ev_var rfl))) rfl fun H4 e4 => ?_
    have e14 := (e12.trans e3).trans e4
    refine q_fld (ev_var rfl) (ev_var rfl) (e14 _ _ hp) TF.cl TF.nR (by decide : 0 < 1000) fun H5 e5 => ?_
    have k5 : Kp p H (upd H5 p (.ins CF dx (putF "rule" (.ref r) []))) := kp_upd (Kp.same (e14.trans e5))
    generalize hG5 : upd H5 p (.ins CF dx (putF "rule" (.ref r) [])) = G5 at k5 ⊢
    have p5 : G5 p = some (.ins CF dx [("rule", .ref r)]) := by rw [← hG5]; exact upd_same
    refine q_fld ev_c (ev_var rfl) p5 TF.cl TF.nH (by decide : 1 < 1000) fun H6 e6 => ?_
    have k6 : Kp p H (upd H6 p (.ins CF dx (putF "own_held" (.bl false) [("rule", .ref r)]))) := kp_upd (k5.trans (Kp.same e6))
    generalize hG6 : upd H6 p (.ins CF dx (putF "own_held" (.bl false) [("rule", .ref r)])) = G6 at k6 ⊢
    have p6 : G6 p = some (.ins CF dx [("rule", .ref r), ("own_held", .bl false)]) := by rw [← hG6]; exact upd_same
    refine q_fld (ev_var rfl) (ev_var rfl) p6 TF.cl TF.nL (by decide : 2 < 1000) fun H7 e7 => ?_
    have k7 : Kp p H (upd H7 p (.ins CF dx (putF "own_last" (.int n) [("rule", .ref r), ("own_held", .bl false)]))) := kp_upd (k6.trans (Kp.same e7))
    generalize hG7 : upd H7 p (.ins CF dx (putF "own_last" (.int n) [("rule", .ref r), ("own_held", .bl false)])) = G7 at k7 ⊢
    have p7 : G7 p = some (.ins CF dx [("rule", .ref r), ("own_held", .bl false), ("own_last", .int n)]) := by rw [← hG7]; exact upd_same
    refine q_fldK ek_new (ev_var rfl) p7 TF.cl TF.nT (by decide : 3 < 1000) fun d H8 nd e8 hd8 => ?_
    have dp : d ≠ p := fun z => by rw [z, p7] at nd; cases nd
    have k8 : Kp p H (upd H8 p (.ins CF dx (putF "own_table" (.ref d) [("rule", .ref r), ("own_held", .bl false), ("own_last", .int n)]))) := kp_upd (k7.trans (Kp.same e8))
    have d8 : (upd H8 p (.ins CF dx (putF "own_table" (.ref d) [("rule", .ref r), ("own_held", .bl false), ("own_last", .int n)]))) d = some (.dK []) := by rw [upd_ne dp]; exact hd8
    generalize hG8 : upd H8 p (.ins CF dx (putF "own_table" (.ref d) [("rule", .ref r), ("own_held", .bl false), ("own_last", .int n)])) = G8 at k8 d8 ⊢
    have p8 : G8 p = some (.ins CF dx (fiFs r false n d)) := by rw [← hG8]; exact upd_same
    have ndH : H d = none := by
      cases z : H d with
      | none => rfl
      | some o => rw [k7 _ _ dp z] at nd; cases nd
    have np : ∀ {b : Addr} {o : HO}, H b = some o → b ≠ p → G8 b = some o := fun h n => k8 _ _ n h
    have hv8 : DR K G8 v dd.data := (hd.kp k8 (notup_ins hp)).dr
    refine put_loop (K := K) (bs := dd.backs) (n := n) (k0 := []) (fun H9 e9 Q' q' => ⟨_, rfl, v, dd.data, rfl, DR.ex e9 hv8, dd_sht dd, dd_deed ok, fun p' H10 n10 e10 h10 => q' p' H10 n10 e10 (by rw [h10, dd_backs])⟩) TF.cl TF.nT p8 lk_table d8 (by have := backs_len dd; simp; omega) (fun _ _ => rfl) (fun _ _ _ => rv_I0) fun qq od y z H9 H10 nq e9 hq hd10 k10 => ?_
    have pd : p ≠ d := dp.symm
    refine q d H10 ndH (fun b o nb e => k10 b o (fun z => by rw [z, ndH] at e; cases e) (e9 _ _ (k8 _ _ nb e))) ⟨⟨dx, k10 _ _ pd (e9 _ _ p8)⟩, ?_, ?_⟩
    · rw [hd10, puts_new dd mk]
    · obtain ⟨dy, hu'⟩ := hu
      have rp : r ≠ p := ne_of hu' hp (fun z => by injection z with _ _ z; cases z)
      have rd : r ≠ d := fun z => by rw [z, ndH] at hu'; cases hu'
      exact ⟨dy, k10 _ _ rd (e9 _ _ (k8 _ _ rp hu'))⟩
theorem ok_File___getitem__ {f : Addr} {fd : FuncData} (F : Fun K "__getitem__" "File.__getitem__" s_File___getitem__ f fd) (B : Bl mg) (B2 : Bl2 mg) (T : MoTxt K mg C) (TD : DeTxt K mg pP pM) (TF : FiTxt K mg CF CMk) (c_Moment : Nw P w K mg base "Moment" C ["self", "seconds"] CX0 3 (spMoInit C)) :
    FnOk P w K mg base CX0 5 f fd ["self", "mark"] (spFiItem C CR CF) := by
  have gM := TD.gM
  refine F.ok sc_File___getitem__ (fun vs H Q E h => ?_) (fun cdv A outer s H vs Q E hr h => ?_)
  · obtain ⟨f, d, r, s, k, x, rfl, _⟩ := h
    rfl
  · obtain ⟨f, d, r, s, k, x, rfl, ⟨⟨dx, h1⟩, h2, h3⟩, hin, hv, fr, q⟩ := h
    refine ⟨_, (pss_cons (ps_if (PW.pt (pw_or (pt_not (pt_val (pe_callB call_isi (by rfl) B.isinstance_ (by decide +kernel) (pa_cons (pv 1) (pa_cons (pe_ty "str" (by rfl) B2.str_ (by decide +kernel)) pa_nil))))) (pw_or1 (pt_cmpR op_notIn_seq (pv 1) (pe_gc gM) (by rfl))))) (pss_one ps_never) pss_nil)
      (pss_one (ps_ret (pe_nw c_Moment hr pass0 (pa_cons (pe_dget (hu_of hr) (pe_fld (pv 0) rfl) (pv 1) (fun _ _ => rfl)) pa_nil))))), ?_⟩
    refine q_ifF (et_or (a := false) (et_not (et_B (b := true) (ev_isi (fun H1 e Q' q' => ⟨_, rfl, q' _ H1 (Ex.refl H1) (.base (.str k))⟩) ev_c (.ty _) (kit_ty (by decide +kernel))))) fun _ => et_test (ev_op (ev_var rfl) ev_c (rv_niT (TD.sM H) rfl rfl))) (by rw [hin]; rfl) fun H1 e1 => ?_
    exact evm_make (C := C) (ev_dget (k := .inr k) (ev_fld (ev_var rfl) (e1 _ _ h1) TF.cl TF.nT lk_table) (ev_var rfl) (e1 _ _ h2) hv) fr H1 (Ex.refl H1) _ fun v H2 e2 ⟨a, ea, ha⟩ => by subst ea; exact q a H2 (e1.trans e2) ha
theorem ok_File_marks {f : Addr} {fd : FuncData} (F : Fun K "marks" "File.marks" s_File_marks f fd) (B2 : Bl2 mg) (TF : FiTxt K mg CF CMk) : FnOk P w K mg base CX0 1 f fd ["self"] (spFiMarks CR CF) := by
  refine F.ok sc_File_marks (fun vs H Q E h => ?_) (fun cdv A outer s H vs Q E hr h => ?_)
  · obtain ⟨f, d, r, s, rfl, _⟩ := h
    rfl
  · obtain ⟨f, d, r, s, rfl, ⟨⟨dx, h1⟩, h2, h3⟩, q⟩ := h
    refine ⟨_, (pss_one (ps_ret (pe_callTy call_dictDK (by rfl) B2.dict_ (by decide +kernel) (pa_cons (pe_fld (pv 0) rfl) pa_nil)))), ?_⟩
    exact ⟨_, rfl, f, CF, dx, _, _, rfl, h1, TF.cl, TF.nT, lk_table, d, _, rfl, .inl h2, fun p np => q p _ np (Ex.new np) upd_same⟩
theorem ok_File_do {f : Addr} {fd : FuncData} (F : Fun K "do" "File.do" s_File_do f fd) (B2 : Bl2 mg) (TR : RuTxt K mg CR) (TF : FiTxt K mg CF CMk) (c_is_deed : Fn P w K mg base "is_deed" ["value"] CX0 4 (spDeed K)) (c_makes : Fn P w K mg base "makes" ["value"] CX0 5 (spMakes K))
    (c_backs : Fn P w K mg base "backs" ["deed"] CX0 5 (spBacks0 K)) (c_seconds_of : Fn P w K mg base "seconds_of" ["value"] CX0 3 (spSecOf C)) (c_Rule_sets : Mt P w K mg base CR "sets" ["self", "marks", "at"] CX0 1 (spRuSets CR)) : FnOk P w K mg base CX0 6 f fd ["self", "deed", "at"] (spFiDo K C CR CF) := by
  refine F.ok sc_File_do (fun vs H Q E h => ?_) (fun cdv A outer s H vs Q E hr h => ?_)
  · obtain ⟨f, d, r, v, w, s, dd, n, rfl, _⟩ := h
    rfl
  · obtain ⟨f, d, r, v, w, s, dd, n, rfl, hf0, hd, ok, hw, hlt, q⟩ := h
    have hf := hf0
    obtain ⟨⟨dx, h1⟩, h2, h3⟩ := hf
    have h3' := h3
    obtain ⟨dy, h3'⟩ := h3'
    refine ⟨_, (pss_cons (ps_if (pt_not (pt_val (pe_fn c_is_deed hr pass0 (pa_cons (pv 1) pa_nil)))) (pss_one ps_never) pss_nil)
      (pss_cons (ps_set (i := 3) sc_File_do.nd rfl (Or.inl rfl) (pe_fn c_seconds_of hr pass0 (pa_cons (pv 2) pa_nil)))
      (pss_cons (ps_if (PW.pt (pw_or (pt_cmpR op_isN (pv 3) pe_non (nomark _)) (pw_or1 (pt_cmpR op_le (pv 3) (pe_fld (pv 0) rfl) (nomark _))))) (pss_one ps_never) pss_nil)
      (pss_cons (ps_set (i := 4) sc_File_do.nd rfl (Or.inl rfl) (pe_fn c_backs hr pass0 (pa_cons (pv 1) pa_nil)))
      (Evl.pss_cut (ps_if (PW.pt (pw_and (pt_cmpR op_eq (pe_ix ix_tup (pv 1) pe_int (fun _ _ => rfl)) pe_str (nomark _)) (pw_and1 (pt_val (pe_mt TR.cl c_Rule_sets hr pass0 (pe_fld (pv 0) rfl) (pa_cons (pe_fld (pv 0) rfl) (pa_cons (pv 3) pa_nil))))))) (pss_one (ps_set (i := 4) sc_File_do.nd rfl (Or.inl rfl) (pe_disp (pps_cons pe_str pe_int pps_nil) (by rfl) (by rfl) (fun z => by cases z) (by decide)))) pss_nil)
      (pss_cons (ps_for PassesOwn.never rfl (pi_items (pe_frz (pv 4))) (pg_tup rfl (pgs_cons (pg_name (i := 5) sc_File_do.nd rfl (Or.inl rfl)) (pgs_cons (pg_name (i := 6) sc_File_do.nd rfl (Or.inl rfl)) pgs_nil))) (pss_one (ps_dput (hu_of hr) (pe_fld (pv 0) rfl) (pv 5) (pe_op op_sub (pv 3) (pv 6)) rfl)))
      (Evl.pss_cut (ps_if (pt_val (pe_fn c_makes hr pass0 (pa_cons (pv 1) pa_nil))) (pss_one (ps_fld (pv 0) pe_bl rfl)) pss_nil)
      (pss_cons (ps_fld (pv 0) (pv 3) rfl)
      (pss_one (ps_ret (pe_callTy (call_listDK rfl) (by rfl) B2.list_ (by decide +kernel) (pa_cons (pv 4) pa_nil)))))))))))), ?_⟩
    refine q_ifF (et_not (et_B (b := true) (ev_call (ea_cons (ev_var rfl) ea_nil) fun H2 e2 Q' q' E' => ⟨v, dd.data, rfl, DR.ex e2 hd.dr, dd_sht dd, by rw [dd_deed ok]; exact q'⟩))) rfl fun H1 e1 => ?_
    refine Ag.q_asg (ev_call (z := .int n) (ea_cons (ev_var rfl) ea_nil) fun H3 e3 Q' q' E' => ⟨w, n, rfl, hw.ex (e1.trans e3), q'⟩) fun H2 e2 => ?_
    have e12 := e1.trans e2
    refine q_ifF (et_or (et_test (ev_isN (ev_var rfl))) fun _ => et_test (ev_op (ev_var rfl) (ev_fld (ev_var rfl) (e12 _ _ h1) TF.cl TF.nL lk_last) rv_I0)) (by rw [decide_eq_false (show ¬ n ≤ s.last by omega)]; rfl) fun H3 e3 => ?_
    have e13 := e12.trans e3
    refine q_asgK (kvs := dd.backs.map bkv) (fun H9 e9 Q' q' => ⟨_, rfl, v, dd.data, rfl, DR.ex (e13.trans e9) hd.dr, dd_sht dd, dd_deed ok, fun p' H10 n10 e10 h10 => q' p' H10 n10 e10 (by rw [h10, dd_backs])⟩) fun q1 H4 n4 e4 h4 => ?_
    have e14 := e13.trans e4
    have nq1 : H q1 = none := fresh_back e13 n4
    obtain ⟨da, rfl, hS⟩ := id hd
    refine q_cut (M := fun σ' H' => ∃ q2, H q2 = none ∧ Ex H H' ∧ H' q2 = some (.dK ((s.sbs dd n).map bkv)) ∧ σ' = [some (.ref f), some (.ref da), some w, some (.int n), some (.ref q2), none, none]) ?_ ?_
    · refine s_when (et_and (et_test (ev_is (w := .bl dd.isRead) (ev_op (ev_op (ev_var rfl) ev_c (rv_ixT (ex_t e14 hS) (atI_nat (j := 0) rfl))) ev_c (rv_eq rfl)) (congrArg V.bl (dd_isRead dd)))) fun _ => et_B (ev_meth (ev_fld (ev_var rfl) (e14 _ _ h1) TF.cl TF.nR lk_rule) (e14 _ _ h3') ru_no
        (ea_cons (ev_fld (ev_var rfl) (e14 _ _ h1) TF.cl TF.nT lk_table) (ea_cons (ev_var rfl) ea_nil)) fun H5 e5 Q' q' => ⟨r, d, s.ru, s.m, n, rfl, h3.ex (e14.trans e5), e5 _ _ (e14 _ _ h2), q'⟩)) (fun hz H5 e5 => ?_) fun hz H5 e5 => ?_
      · refine (ek_disp (.cons (k := .inr "read") ev_c ev_c .nil) (by decide) rfl) H5 (Ex.refl H5) _ fun q2 H6 n6 e6 h6 => ?_
        refine ⟨q2, fresh_back (e14.trans e5) n6, (e14.trans e5).trans e6, ?_, rfl⟩
        rw [h6]
        unfold Fl.sbs
        rw [if_pos hz]
        rfl
      · refine ⟨q1, nq1, e14.trans e5, ?_, rfl⟩
        rw [e5 _ _ h4]
        unfold Fl.sbs
        rw [if_neg (by rw [hz]; exact Bool.false_ne_true)]
    · rintro σ' H5 ⟨q2, nq2, e5, h5, rfl⟩
      have df := hf0.df
      have rf := hf0.rf
      have rd := hf0.rd
      have dq2 : d ≠ q2 := fun z => by rw [z, nq2] at h2; cases h2
      have fq2 : f ≠ q2 := fun z => by rw [z, nq2] at h1; cases h1
      refine q_put_loopV (K := K) (ks := 3) (kq := 4) rfl h5 dq2 TF.cl TF.nT (e5 _ _ h1) lk_table (e5 _ _ h2) (by have := sbs_len s dd n; have : (tab s.m).length = 3 := rfl; omega) (fun _ _ => rfl) (fun _ _ _ => rv_I0) fun od y z H6 hq6 hd6 k6 => ?_
      rw [puts_sbs] at hd6
      have k06 : ∀ b o, b ≠ d → H b = some o → H6 b = some o := fun b o nb e => k6 _ _ nb (fun z => by rw [z, nq2] at e; cases e) (e5 _ _ e)
      have hv6 : DdAt K H6 (.ref da) dd := hd.kp (p := d) k06 (notup_dk h2)
      refine q_cut (M := fun σ' H' => H' f = some (.ins CF dx (fiFs r (if dd.makes = true then false else s.held) s.last d)) ∧ H' d = some (.dK (tab (s.mAft dd n))) ∧ H' q2 = some (.frz od (.dK ((s.sbs dd n).map bkv))) ∧ Kp2 f d H H' ∧ σ' = [some (.ref f), some (.ref da), some w, some (.int n), some (.ref q2), y, z]) ?_ ?_
      · refine s_when (et_B (ev_call (ea_cons (ev_var rfl) ea_nil) fun H7 e7 Q' q' E' => ⟨_, dd.data, rfl, DR.ex e7 hv6.dr, dd_sht dd, by rw [dd_makes ok]; exact q'⟩)) (fun hz H7 e7 => ?_) fun hz H7 e7 => ?_
        · refine s_fld ev_c (ev_var rfl) (e7 _ _ (k06 _ _ df.symm h1)) TF.cl TF.nH (by decide : 4 < 1000) fun H8 e8 => ⟨?_, ?_, ?_, fun b o n1 n2 e => ?_, rfl⟩
          · rw [upd_same, if_pos hz]; rfl
          · rw [upd_ne df]; exact e8 _ _ (e7 _ _ hd6)
          · rw [upd_ne fq2.symm]; exact e8 _ _ (e7 _ _ hq6)
          · rw [upd_ne n1]; exact e8 _ _ (e7 _ _ (k06 _ _ n2 e))
        · refine ⟨?_, e7 _ _ hd6, e7 _ _ hq6, fun b o n1 n2 e => e7 _ _ (k06 _ _ n2 e), rfl⟩
          rw [if_neg (by rw [hz]; exact Bool.false_ne_true)]
          exact e7 _ _ (k06 _ _ df.symm h1)
      · rintro σ' H7 ⟨f7, d7, q7, k7, rfl⟩
        refine q_fld (ev_var rfl) (ev_var rfl) f7 TF.cl TF.nL (by decide : 4 < 1000) fun H8 e8 => ?_
        refine ⟨_, rfl, q2, _, rfl, .inr ⟨od, by rw [upd_ne fq2.symm]; exact e8 _ _ q7⟩, fun p np => ?_⟩
        have pf : p ≠ f := fun z => by rw [z, upd_same] at np; cases np
        have np8 : H8 p = none := by rw [upd_ne pf] at np; exact np
        have pd : p ≠ d := fun z => by rw [z, e8 _ _ d7] at np8; cases np8
        have npH : H p = none := by
          cases z : H p with
          | none => rfl
          | some o => rw [e8 _ _ (k7 _ _ pf pd z)] at np8; cases np8
        have kk : ∀ b o, b ≠ f → H8 b = some o → (upd (upd H8 f (.ins CF dx (putF "own_last" (.int n) (fiFs r (if dd.makes = true then false else s.held) s.last d)))) p (.lst (((s.sbs dd n).map bkv).map fun kv => kV kv.1))) b = some o := fun b o n1 e => by
          rw [upd_ne (ne_of_none e np8), upd_ne n1]; exact e
        refine q p _ npH (fun b o n1 n2 e => kk _ _ n1 (e8 _ _ (k7 _ _ n1 n2 e))) ⟨⟨dx, ?_⟩, kk _ _ df (e8 _ _ d7), ⟨dy, kk _ _ rf (e8 _ _ (k7 _ _ rf rd h3'))⟩⟩ ?_
        · rw [upd_ne pf.symm, upd_same]; rfl
        · rw [upd_same, List.map_map]; rfl
theorem evf_make {E : XK} {σ : L2.St} {H : Hp} {ta tb tc : TE} {r : Addr} {u : Ru} {dd : Dd} {n : Int} (h1 : Ev ta σ H (.ref r)) (hu : RuAt CR H r u) (h2 : EvP tb σ H (fun v H2 => DdAt K H2 v dd)) (ok : dd.Ok) (mk : dd.makes = true) (h3 : EvP tc σ H (fun w H2 => AtIs C H2 w n)) :
    EvP (tMake CF (spFiInit K C CR CF) [] E (tCons ta (tCons tb (tCons tc tNil)))) σ H (fun v H2 => ∃ f d, v = .ref f ∧ H f = none ∧ H d = none ∧ FlAt CF CR H2 f d r ⟨u, dd.app ⟨0, 0, 0⟩ n, n, false⟩) := fun H1 e Q q =>
  h1 H1 e _ fun H2 e2 => h2 H2 (e.trans e2) _ fun v H3 e3 hv => h3 H3 ((e.trans e2).trans e3) _ fun w H4 e4 hw x dx nx nd ne => by
    have e14 := (e2.trans e3).trans e4
    have eN : Ex H4 (upd (upd H4 dx (.own x)) x (.ins CF dx [])) := fun b o e => by rw [upd_ne (ne_of_none e nx), upd_ne (ne_of_none e nd)]; exact e
    refine ⟨x, dx, r, v, w, u, dd, n, rfl, upd_same, hu.ex ((e.trans e14).trans eN), hv.ex (e4.trans eN), ok, mk, hw.ex eN, fun d H' nd' k' fl => ⟨rfl, ?_⟩⟩
    have e4' : Ex H4 H' := fun b o z => k' _ _ (fun y => by rw [y, nx] at z; cases z) (eN _ _ z)
    exact q _ H' (e14.trans e4') ⟨x, d, rfl, fresh_back (e.trans e14) nx, fresh_back ((e.trans e14).trans eN) nd', fl⟩
theorem evd_u {σ : L2.St} {H : Hp} {te : TE} {dd : Dd} (h : EvU te σ H (.str dd.word :: dd.restV)) : EvP te σ H (fun v H2 => DdAt K H2 v dd) := fun H1 e Q q => h H1 e _ fun p H2 np e2 hp => q _ H2 e2 ⟨p, rfl, st_of hp⟩
theorem evd_var {σ : L2.St} {H : Hp} {i : Nat} {v : V} {dd : Dd} (h : σ[i]? = some (some v)) (hd : DdAt K H v dd) : EvP (tVar i) σ H (fun v H2 => DdAt K H2 v dd) := evp_var h fun _ e => hd.ex e
theorem eva_int {σ : L2.St} {H : Hp} {te : TE} {n : Int} (h : Ev te σ H (.int n)) (fr : Far n) : EvP te σ H (fun w H2 => AtIs C H2 w n) := fun H1 e Q q => h H1 e _ fun H2 e2 => q _ H2 e2 (.inl ⟨rfl, fr⟩)
theorem eva_mo {σ : L2.St} {H : Hp} {te : TE} {n : Int} (h : EvP te σ H (IsMo C n)) : EvP te σ H (fun w H2 => AtIs C H2 w n) := h.imp fun _ _ _ ⟨a, ea, ha⟩ => .inr ⟨a, ea, ha⟩
theorem ok_File_double {f : Addr} {fd : FuncData} (F : Fun K "double" "File.double" s_File_double f fd) (B2 : Bl2 mg) (TF : FiTxt K mg CF CMk) (c_File : Nw P w K mg base "File" CF ["self", "rule", "deed", "at"] CX0 6 (spFiInit K C CR CF)) : FnOk P w K mg base CX0 8 f fd ["self"] (spFiDouble CR CF) := by
  refine F.ok sc_File_double (fun vs H Q E h => ?_) (fun cdv A outer s H vs Q E hr h => ?_)
  · obtain ⟨f, d, r, s, rfl, _⟩ := h
    rfl
  · obtain ⟨f, d, r, s, rfl, hf0, fr, q⟩ := h
    have hf := hf0
    obtain ⟨⟨dx, h1⟩, h2, h3⟩ := hf
    refine ⟨_, (pss_cons (ps_set (i := 1) sc_File_double.nd rfl (Or.inl rfl) (pe_nw c_File hr pass0 (pa_cons (pe_fld (pv 0) rfl) (pa_cons (pe_tup (pa_cons pe_str pa_nil)) (pa_cons (pe_fld (pv 0) rfl) pa_nil)))))
      (pss_cons (ps_fld (pv 1) (pe_callTy call_dictDK (by rfl) B2.dict_ (by decide +kernel) (pa_cons (pe_fld (pv 0) rfl) pa_nil)) rfl)
      (pss_cons (ps_fld (pv 1) (pe_fld (pv 0) rfl) rfl)
      (pss_one (ps_ret (pv 1)))))), ?_⟩
    refine Ag.q_asgP (evf_make (K := K) (C := C) (ev_fld (ev_var rfl) h1 TF.cl TF.nR lk_rule) h3 (evd_u (dd := .make) (eu_tup (ea_cons ev_c ea_nil) (by decide))) trivial rfl (eva_int (ev_fld (ev_var rfl) h1 TF.cl TF.nL lk_last) fr)) fun v H1 e1 ⟨g, d1, ev, ng, nd1, ⟨⟨dg, g1⟩, _, _⟩⟩ => ?_
    subst ev
    refine q_fldK (kvs := tab s.m) (fun H2 e2 Q' q' => ⟨_, rfl, f, CF, dx, _, _, rfl, e2 _ _ (e1 _ _ h1), TF.cl, TF.nT, lk_table, d, _, rfl, .inl (e2 _ _ (e1 _ _ h2)), fun p np => q' p _ np (Ex.new np) upd_same⟩) (ev_var rfl) g1 TF.cl TF.nT (by decide : 4 < 1000) fun d2 H2 nd2 e2 hd2 => ?_
    have gd2 : g ≠ d2 := fun z => by rw [← z, g1] at nd2; cases nd2
    have k2 : Kp g H1 (upd H2 g (.ins CF dg (putF "own_table" (.ref d2) (fiFs r false s.last d1)))) := kp_upd (Kp.same e2)
    have hd2' : (upd H2 g (.ins CF dg (putF "own_table" (.ref d2) (fiFs r false s.last d1)))) d2 = some (.dK (tab s.m)) := by rw [upd_ne gd2.symm]; exact hd2
    generalize hG : upd H2 g (.ins CF dg (putF "own_table" (.ref d2) (fiFs r false s.last d1))) = G2 at k2 hd2' ⊢
    have g2 : G2 g = some (.ins CF dg (fiFs r false s.last d2)) := by rw [← hG]; exact upd_same
    have e02 : Ex H G2 := fun b o e => k2 _ _ (fun z => by rw [z, ng] at e; cases e) (e1 _ _ e)
    refine q_fld (ev_fld (ev_var rfl) (e02 _ _ h1) TF.cl TF.nH lk_held) (ev_var rfl) g2 TF.cl TF.nH (by decide : 4 < 1000) fun H3 e3 => ?_
    have e03 : Ex H (upd H3 g (.ins CF dg (putF "own_held" (.bl s.held) (fiFs r false s.last d2)))) := Ex.mut (e02.trans e3) ng
    refine ⟨_, rfl, q g d2 _ ng (fresh_back e1 nd2) e03 ⟨⟨dg, upd_same⟩, ?_, h3.ex e03⟩⟩
    rw [upd_ne gd2.symm]
    exact e3 _ _ hd2'
theorem ev_neR {E : XK} {σ : L2.St} {H : Hp} {ta tb : TE} {a b : Addr} {u u' : Ru} (TR : RuTxt K mg CR) (h1 : Ev ta σ H (.ref a)) (h2 : Ev tb σ H (.ref b)) (ha : RuAt CR H a u) (hb : RuAt CR H b u') : Ev (tOp (rOwnNe K CR (spRuEq CR) E) ta tb) σ H (.bl (!PyData.eqv u.data u'.data)) := fun H1 e Q q =>
  h1 H1 e _ fun H2 e2 => h2 H2 (e.trans e2) (fun y H3 => rOwnNe K CR (spRuEq CR) E (.ref a) y H3 Q) fun H3 e3 => by
    have e13 := e.trans (e2.trans e3)
    obtain ⟨dx, ha'⟩ := id (ha.ex e13)
    exact ⟨a, dx, _, _, rfl, ha', (hb.ex e13).ty TR, nf_self _ _, a, b, u, u', rfl, ha.ex e13, hb.ex e13, fun H4 e4 => ⟨_, rfl, q H4 ((e2.trans e3).trans e4)⟩⟩
theorem ev_eqK {σ : L2.St} {H : Hp} {ta tb : TE} {a b : Addr} {ks ls : List (Key × V)} (h1 : Ev ta σ H (.ref a)) (h2 : Ev tb σ H (.ref b)) (ha : H a = some (.dK ks)) (hb : H b = some (.dK ls)) (f1 : ∀ p ∈ ks, flatV p.2 = true) (f2 : ∀ p ∈ ls, flatV p.2 = true) :
    Ev (tOp rEqK ta tb) σ H (.bl (ks.length == ls.length && eqK ls ks)) := ev_op h1 h2 fun H1 e Q q => ⟨a, b, ks, ls, rfl, rfl, e _ _ ha, e _ _ hb, f1, f2, q H1 (Ex.refl H1)⟩
theorem ok_File___eq__ {f : Addr} {fd : FuncData} (F : Fun K "__eq__" "File.__eq__" s_File___eq__ f fd) (B : Bl mg) (TR : RuTxt K mg CR) (TF : FiTxt K mg CF CMk) (c_Rule___eq__ : Mt P w K mg base CR "__eq__" ["self", "other"] CX0 3 (spRuEq CR)) : FnOk P w K mg base CX0 5 f fd ["self", "other"] (spFiEq CR CF) := by
  refine F.ok sc_File___eq__ (fun vs H Q E h => ?_) (fun cdv A outer s H vs Q E hr h => ?_)
  · obtain ⟨a, d, r, b, d', r', s, s', rfl, _⟩ := h
    rfl
  · obtain ⟨a, d, r, b, d', r', s, s', rfl, ha0, hb0, q⟩ := h
    have ha := ha0
    have hb := hb0
    obtain ⟨⟨dx, a1⟩, a2, a3⟩ := ha
    obtain ⟨⟨dy, b1⟩, b2, b3⟩ := hb
    refine ⟨_, (pss_cons (ps_if (PW.pt (pw_or (pt_not (pt_val (pe_callB call_isi (by rfl) B.isinstance_ (by decide +kernel) (pa_cons (pv 1) (pa_cons (pe_gc TF.g) pa_nil))))) (pw_or (pt_cmpR (op_neC c_Rule___eq__ TR.ne TR.ob hr pass0) (pe_fld (pv 0) rfl) (pe_fld (pv 1) rfl) (nomark _)) (pw_or1 (pt_cmpR op_ne (pe_fld (pv 0) rfl) (pe_fld (pv 1) rfl) (nomark _)))))) (pss_one (ps_ret pe_bl)) pss_nil)
      (pss_one (ps_ret (pe_and (pe_cmpR (op_eqK hr.units0) (pe_fld (pv 0) rfl) (pe_fld (pv 1) rfl) (nomark _)) (pe_one (pe_cmpR op_eq (pe_fld (pv 0) rfl) (pe_fld (pv 1) rfl) (nomark _))))))), ?_⟩
    refine q_when (et_or (a := false) (et_not (et_B (b := true) (ev_isi (fun H1 e Q' q' => ⟨_, rfl, q' _ H1 (Ex.refl H1) ((hb0.ex e).ty TF)⟩) ev_c (.own CF) TF.self_))) fun _ => et_or (et_test (ev_neR TR (ev_fld (ev_var rfl) a1 TF.cl TF.nR lk_rule) (ev_fld (ev_var rfl) b1 TF.cl TF.nR lk_rule) a3 b3)) fun _ =>
      et_test (ev_op (ev_fld (ev_var rfl) a1 TF.cl TF.nH lk_held) (ev_fld (ev_var rfl) b1 TF.cl TF.nH lk_held) (rv_ne rfl))) (fun z H1 e1 => s_ret ev_c fun H2 e2 => ?_) fun z H1 e1 => s_ret (ev_andV (ev_eqK (ev_fld (ev_var rfl) (e1 _ _ a1) TF.cl TF.nT lk_table) (ev_fld (ev_var rfl) (e1 _ _ b1) TF.cl TF.nT lk_table) (e1 _ _ a2) (e1 _ _ b2) (tab_flat _) (tab_flat _)) fun _ =>
      ev_op (ev_fld (ev_var rfl) (e1 _ _ a1) TF.cl TF.nL lk_last) (ev_fld (ev_var rfl) (e1 _ _ b1) TF.cl TF.nL lk_last) (rv_eq rfl)) fun H2 e2 => ?_
    · have g := q H2 (e1.trans e2)
      rw [show s.eqB s' = false from if_pos z] at g
      exact g
    · have g := q H2 (e1.trans e2)
      rw [show s.eqB s' = _ from if_neg (by rw [show (!PyData.eqv s.ru.data s'.ru.data || !decide (V.bl s.held = .bl s'.held)) = false from z]; exact Bool.false_ne_true)] at g
      exact g
end
end Ag
namespace Ag
open PySem PySem.Spec PyProof.Rows L2 Evl
theorem pick2 {x y : Int} {r : Int} (h0 : 0 ≤ r) (h1 : r < 2) (L : Int) (hx : 0 < x ∧ x ≤ L) (hy : 0 < y ∧ y ≤ L) : ∃ m : Int, atI [V.int x, V.int y] r = some (.int m) ∧ 0 < m ∧ m ≤ L := by
  have : r = 0 ∨ r = 1 := by omega
  rcases this with rfl | rfl
  · exact ⟨x, atI_nat (j := 0) rfl, hx⟩
  · exact ⟨y, atI_nat (j := 1) rfl, hy⟩
theorem src_ne {H : Hp} {l p : Addr} (nl : H l = none) (hs : Src H p) : l ≠ p := fun e => by
  obtain ⟨_, _, e', _⟩ := hs
  rw [← e, nl] at e'
  cases e'
/-! ### what stays when a file does a deed -/
section
variable {K : PySem.W.Frag} {C CR CF : Addr} {H H' : Hp} {f d r g dg rg p a : Addr} {s s' : Fl} {v : V} {u : Ru} {dd : Dd} {xs : List V}
theorem RuAt.to (h : RuAt CR H r u) (k : ∀ o, H r = some o → H' r = some o) : RuAt CR H' r u := let ⟨dx, z⟩ := h; ⟨dx, k _ z⟩
theorem RuAt.kp2 (h : RuAt CR H rg u) (k : Kp2 f d H H') (F : FlAt CF CR H f d r s) : RuAt CR H' rg u := by
  obtain ⟨dx, z⟩ := h
  obtain ⟨⟨dy, f1⟩, f2, _⟩ := F
  exact ⟨dx, k _ _ ((ne_of f1 z fs_ne).symm) (ne_of z f2 (fun z => nomatch z)) z⟩
theorem FlAt.kp2 (h : FlAt CF CR H g dg rg s') (k : Kp2 f d H H') (F : FlAt CF CR H f d r s) (n1 : g ≠ f) (n2 : dg ≠ d) : FlAt CF CR H' g dg rg s' := by
  have hr := h.2.2.kp2 k F
  obtain ⟨⟨dx, g1⟩, g2, _⟩ := h
  obtain ⟨⟨dy, f1⟩, f2, _⟩ := F
  exact ⟨⟨dx, k _ _ n1 (ne_of g1 f2 (fun z => nomatch z)) g1⟩, k _ _ (ne_of g2 f1 (fun z => nomatch z)) n2 g2, hr⟩
theorem lst_kp2 (h : H a = some (.lst xs)) (k : Kp2 f d H H') (F : FlAt CF CR H f d r s) : H' a = some (.lst xs) := by
  obtain ⟨⟨dy, f1⟩, f2, _⟩ := F
  exact k _ _ (ne_of h f1 (fun z => nomatch z)) (ne_of h f2 (fun z => nomatch z)) h
theorem Src.kp2 (h : Src H p) (k : Kp2 f d H H') (F : FlAt CF CR H f d r s) : Src H' p := let ⟨n, sd, h, q⟩ := h; ⟨n, sd, lst_kp2 h k F, q⟩
theorem sqt_kp2 (h : SqT K H a xs) (k : Kp2 f d H H') (F : FlAt CF CR H f d r s) : SqT K H' a xs := by
  obtain ⟨⟨dy, f1⟩, f2, _⟩ := F
  exact sqt_to h fun o r e => k _ _ (fun z => notup_ins f1 _ (z ▸ r)) (fun z => notup_dk f2 _ (z ▸ r)) e
theorem DdAt.kp2 (h : DdAt K H v dd) (k : Kp2 f d H H') (F : FlAt CF CR H f d r s) : DdAt K H' v dd := let ⟨a, ea, h⟩ := h; ⟨a, ea, sqt_kp2 h k F⟩
theorem sql_to (h : SqL K H a xs) (k : ∀ o, Rd H a (.lst xs) → H a = some o → H' a = some o) : SqL K H' a xs := by
  rcases h with h | h
  · refine .inl ?_
    rcases h with h' | ⟨o, h'⟩
    · exact .inl (k _ (.inl h') h')
    · exact .inr ⟨o, k _ (.inr ⟨o, h'⟩) h'⟩
  · exact .inr h
theorem sql_kp2 (h : SqL K H a xs) (k : Kp2 f d H H') (F : FlAt CF CR H f d r s) : SqL K H' a xs := by
  obtain ⟨⟨dy, f1⟩, f2, _⟩ := F
  refine sql_to h fun o r e => k _ _ (fun z => ?_) (fun z => ?_) e
  · subst z; rcases r with z | ⟨o, z⟩ <;> rw [f1] at z <;> cases z
  · subst z; rcases r with z | ⟨o, z⟩ <;> rw [f2] at z <;> cases z
theorem FlAt.kp (h : FlAt CF CR H g dg rg s) (k : Kp p H H') (hs : Src H p) : FlAt CF CR H' g dg rg s := by
  obtain ⟨⟨dx, g1⟩, g2, ⟨dy, g3⟩⟩ := h
  obtain ⟨n, sd, hp, _⟩ := hs
  exact ⟨⟨dx, k _ _ (ne_of g1 hp (fun z => nomatch z)) g1⟩, k _ _ (ne_of g2 hp (fun z => nomatch z)) g2, ⟨dy, k _ _ (ne_of g3 hp (fun z => nomatch z)) g3⟩⟩
theorem RuAt.kp (h : RuAt CR H rg u) (k : Kp p H H') (hs : Src H p) : RuAt CR H' rg u := by
  obtain ⟨dy, g3⟩ := h
  obtain ⟨n, sd, hp, _⟩ := hs
  exact ⟨dy, k _ _ (ne_of g3 hp (fun z => nomatch z)) g3⟩
theorem sqt_src (h : SqT K H a xs) (k : Kp p H H') (hs : Src H p) : SqT K H' a xs := by
  obtain ⟨n, sd, hp, _⟩ := hs
  exact sqt_to h fun o r e => k _ _ (fun z => notup_lst hp _ (z ▸ r)) e
theorem DdAt.src (h : DdAt K H v dd) (k : Kp p H H') (hs : Src H p) : DdAt K H' v dd := let ⟨a, ea, h⟩ := h; ⟨a, ea, sqt_src h k hs⟩
theorem Src.ex (h : Src H p) (e : Ex H H') : Src H' p := let ⟨n, sd, h, q⟩ := h; ⟨n, sd, e _ _ h, q⟩
end
/-! ### rows that tell a rule -/
def RowAt (K : PySem.W.Frag) (H : Hp) (v : V) (u : Ru) (n : Int) : Prop := ∃ a, v = .ref a ∧ SqT K H a [.str u.word, .int n]
def RowOk (u : Ru) (n : Int) : Prop := (u = .always ∨ u = .never ∨ u = .seldom n) ∧ 1 ≤ n ∧ n ≤ 2000
def IsRu (CR : Addr) (u : Ru) : V → Hp → Prop := fun v H => ∃ r, v = .ref r ∧ RuAt CR H r u
def spLRule (K : PySem.W.Frag) (CR : Addr) : Sp := fun vs H Q _ => ∃ v u n, vs = [v] ∧ RowAt K H v u n ∧ RowOk u n ∧ RetRu CR u H Q
def spLRow (K : PySem.W.Frag) : Sp := fun vs H Q _ => ∃ (p : Addr) (m : Int), vs = [.ref p, .int m] ∧ Src H p ∧ 1 ≤ m ∧ m ≤ 2000 ∧ ∀ v u n H', RowAt K H' v u n → RowOk u n → Src H' p → Kp p H H' → Q v H'
def spMaker (K : PySem.W.Frag) : Sp := fun vs H Q _ => ∃ (p : Addr) (m : Int), vs = [.ref p, .int m] ∧ Src H p ∧ 1 ≤ m ∧ m ≤ 10 ^ 9 ∧ ∀ v dd H', DdAt K H' v dd → dd.Ok → dd.makes = true → Src H' p → Kp p H H' → Q v H'
def spUser (K : PySem.W.Frag) : Sp := fun vs H Q _ => ∃ (p : Addr) (m : Int), vs = [.ref p, .int m] ∧ Src H p ∧ 1 ≤ m ∧ m ≤ 10 ^ 9 ∧ ∀ v dd H', DdAt K H' v dd → dd.Ok → dd.makes = false → Src H' p → Kp p H H' → Q v H'
theorem src_same {H H' : Hp} {p : Addr} (h : Src H p) (s : Same H H') : Src H' p := let ⟨n, sd, h, q⟩ := h; ⟨n, sd, s _ _ h, q⟩
section
variable {P : Program} {w : World} {K : PySem.W.Frag} {mg : Str → Option Value} {base : Heap} {C CR CF CMk pP pM : Addr}
theorem ok__law_rule {f : Addr} {fd : FuncData} (F : Fun K "_law_rule" "_law_rule" s__law_rule f fd) (TR : RuTxt K mg CR) (c_Rule_always : Sm P w K mg base CR "always" [] CX0 3 (spRuAlways CR)) (c_Rule_never : Sm P w K mg base CR "never" [] CX0 3 (spRuNever CR)) (c_Rule_seldom : Sm P w K mg base CR "seldom" ["after"] CX0 3 (spRuSeldom CR)) :
    FnOk P w K mg base CX0 4 f fd ["row"] (spLRule K CR) := by
  refine F.ok sc__law_rule (fun vs H Q E h => ?_) (fun cdv A outer s H vs Q E hr h => ?_)
  · obtain ⟨v, u, n, rfl, _⟩ := h
    rfl
  · obtain ⟨v, u, n, rfl, ⟨a, rfl, hS⟩, ⟨hu, n1, n2⟩, q⟩ := h
    refine ⟨_, (pss_cons (ps_if (pt_cmpR op_eq (pe_ix ix_tup (pv 0) pe_int (fun _ _ => rfl)) pe_str (nomark _)) (pss_one (ps_ret (pe_sm c_Rule_seldom hr pass0 (pe_gc TR.g) (pa_cons (pe_ix ix_tup (pv 0) pe_int (fun _ _ => rfl)) pa_nil)))) pss_nil)
      (pss_one (ps_ret (pe_ifExp (pt_cmpR op_eq (pe_ix ix_tup (pv 0) pe_int (fun _ _ => rfl)) pe_str (nomark _)) (pe_sm0 c_Rule_always hr pass0 (pe_gc TR.g)) (pe_sm0 c_Rule_never hr pass0 (pe_gc TR.g)))))), ?_⟩
    have w0 : Ev (tOp (rIxT K) (tVar 0) (tC (.int 0))) [some (.ref a)] H (.str u.word) := ev_op (ev_var rfl) ev_c (rv_ixT hS (atI_nat (j := 0) rfl))
    have w1 : Ev (tOp (rIxT K) (tVar 0) (tC (.int 1))) [some (.ref a)] H (.int n) := ev_op (ev_var rfl) ev_c (rv_ixT hS (atI_nat (j := 1) rfl))
    rcases hu with rfl | rfl | rfl
    · refine q_when (et_test (b := false) (ev_op w0 ev_c (rv_eq rfl))) (fun z => nomatch z) fun _ H1 e1 => ?_
      refine (et_test (b := true) (ev_op (w0.mono e1) ev_c (rv_eq rfl))) H1 (Ex.refl H1) _ fun H2 e2 => iteT ⟨rfl, rfl, fun g H' ng e3 hg => q g H' (fresh_back (e1.trans e2) ng) ((e1.trans e2).trans e3) hg⟩
    · refine q_when (et_test (b := false) (ev_op w0 ev_c (rv_eq rfl))) (fun z => nomatch z) fun _ H1 e1 => ?_
      refine (et_test (b := false) (ev_op (w0.mono e1) ev_c (rv_eq rfl))) H1 (Ex.refl H1) _ fun H2 e2 => iteF ⟨rfl, rfl, fun g H' ng e3 hg => q g H' (fresh_back (e1.trans e2) ng) ((e1.trans e2).trans e3) hg⟩
    · refine q_when (et_test (b := true) (ev_op w0 ev_c (rv_eq rfl))) (fun _ H1 e1 => ⟨rfl, ?_⟩) fun z => nomatch z
      exact (ea_cons (w1.mono e1) ea_nil) H1 (Ex.refl H1) _ fun H2 e2 => ⟨n, rfl, n1, n2, fun g H' ng e3 hg => q g H' (fresh_back (e1.trans e2) ng) ((e1.trans e2).trans e3) hg⟩
theorem ok__law_rule_row {f : Addr} {fd : FuncData} (F : Fun K "_law_rule_row" "_law_rule_row" s__law_rule_row f fd) (c__law_draw : Fn P w K mg base "_law_draw" ["source", "amount"] CX0 1 spDraw) (c__law_pick : Fn P w K mg base "_law_pick" ["source", "items"] CX0 2 (spPick K)) :
    FnOk P w K mg base CX0 3 f fd ["source", "most"] (spLRow K) := by
  refine F.ok sc__law_rule_row (fun vs H Q E h => ?_) (fun cdv A outer s H vs Q E hr h => ?_)
  · obtain ⟨p, m, rfl, _⟩ := h
    rfl
  · obtain ⟨p, m, rfl, hs, m1, m2, q⟩ := h
    refine ⟨_, (pss_cons (ps_set (i := 2) sc__law_rule_row.nd rfl (Or.inl rfl) (pe_fn c__law_pick hr pass0 (pa_cons (pv 0) (pa_cons (pe_lst (pa_cons pe_str (pa_cons pe_str (pa_cons pe_str (pa_cons pe_str pa_nil))))) pa_nil))))
      (pss_one (ps_ret (pe_tup (pa_cons (pv 2) (pa_cons (pe_op op_add pe_int (pe_fn c__law_draw hr pass0 (pa_cons (pv 0) (pa_cons (pv 1) pa_nil)))) pa_nil)))))), ?_⟩
    refine ⟨_, rfl, (by decide : 4 ≤ sizeLine), fun l nl => ?_⟩
    have s1 := same_upd (o := .lst [.str "always", .str "never", .str "seldom", .str "seldom"]) nl
    refine ⟨p, l, _, rfl, src_same hs s1, SqL.of upd_same, src_ne nl hs, (fun z => by cases z), by decide, fun i x H1 hx src1 k1 => ?_⟩
    obtain ⟨g, hg, ok⟩ : ∃ g : Int → Ru, (∀ n, x = .str (g n).word) ∧ ∀ n, 1 ≤ n → n ≤ 2000 → RowOk (g n) n := match i, hx with
      | 0, hx => ⟨fun _ => .always, fun _ => (Option.some.inj hx).symm, fun n h1 h2 => ⟨.inl rfl, h1, h2⟩⟩
      | 1, hx => ⟨fun _ => .never, fun _ => (Option.some.inj hx).symm, fun n h1 h2 => ⟨.inr (.inl rfl), h1, h2⟩⟩
      | 2, hx => ⟨fun n => .seldom n, fun _ => (Option.some.inj hx).symm, fun n h1 h2 => ⟨.inr (.inr rfl), h1, h2⟩⟩
      | 3, hx => ⟨fun n => .seldom n, fun _ => (Option.some.inj hx).symm, fun n h1 h2 => ⟨.inr (.inr rfl), h1, h2⟩⟩
    refine ⟨_, rfl, _, rfl, _, rfl, p, m, rfl, src1, by omega, Int.le_trans m2 (by decide), fun r H2 r0 r1 src2 k2 => ⟨_, _, rfl, rfl, (by decide : 2 ≤ sizeLine), fun t nt => ?_⟩⟩
    refine q _ (g (1 + r)) (1 + r) _ ⟨t, rfl, st_of (by rw [← hg (1 + r)]; exact upd_same)⟩ (ok _ (by omega) (by omega)) (src2.ex (Ex.new nt)) ((((Kp.same s1).trans k1).trans k2).trans (Kp.same (Ex.new nt)))
/-- a tuple beside the source -/
def Tp (p : Addr) (H : Hp) (t : Addr) (xs : List V) : Prop := t ≠ p ∧ H t = some (.tup xs)
theorem Tp.new {p t : Addr} {H : Hp} {xs : List V} (hs : Src H p) (n : H t = none) : Tp p (upd H t (.tup xs)) t xs := ⟨src_ne n hs, upd_same⟩
theorem Tp.ex {p t : Addr} {H H' : Hp} {xs : List V} (h : Tp p H t xs) (e : Ex H H') : Tp p H' t xs := ⟨h.1, e _ _ h.2⟩
theorem Tp.kp {p t : Addr} {H H' : Hp} {xs : List V} (h : Tp p H t xs) (k : Kp p H H') : Tp p H' t xs := ⟨h.1, k _ _ h.1 h.2⟩
theorem Tp.dd {p t : Addr} {H : Hp} (dd : Dd) (h : Tp p H t (.str dd.word :: dd.restV)) : DdAt K H (.ref t) dd := ⟨t, rfl, st_of h.2⟩
theorem ok__law_maker {f : Addr} {fd : FuncData} (F : Fun K "_law_maker" "_law_maker" s__law_maker f fd) (c__law_draw : Fn P w K mg base "_law_draw" ["source", "amount"] CX0 1 spDraw) (c__law_pick : Fn P w K mg base "_law_pick" ["source", "items"] CX0 2 (spPick K)) :
    FnOk P w K mg base CX0 3 f fd ["source", "back"] (spMaker K) := by
  refine F.ok sc__law_maker (fun vs H Q E h => ?_) (fun cdv A outer s H vs Q E hr h => ?_)
  · obtain ⟨p, m, rfl, _⟩ := h
    rfl
  · obtain ⟨p, m, rfl, hs, m1, m2, q⟩ := h
    refine ⟨_, (pss_one (ps_ret (pe_fn c__law_pick hr pass0 (pa_cons (pv 0) (pa_cons (pe_lst (pa_cons (pe_tup (pa_cons pe_str pa_nil)) (pa_cons (pe_tup (pa_cons pe_str pa_nil)) (pa_cons (pe_tup (pa_cons pe_str (pa_cons (pe_op op_add pe_int (pe_fn c__law_draw hr pass0 (pa_cons (pv 0) (pa_cons (pv 1) pa_nil)))) pa_nil))) pa_nil)))) pa_nil))))), ?_⟩
    refine ⟨_, rfl, (by decide : 1 ≤ sizeLine), fun t1 n1 => ?_⟩
    have c1 := Tp.new (xs := [.str "make"]) hs n1
    have s1 := hs.ex (Ex.new (o := .tup [.str "make"]) n1)
    have k1 : Kp p H (upd H t1 (.tup [.str "make"])) := Kp.same (Ex.new n1)
    generalize upd H t1 (.tup [.str "make"]) = G1 at c1 s1 k1 ⊢
    refine ⟨(by decide : 1 ≤ sizeLine), fun t2 n2 => ?_⟩
    have c2 := Tp.new (xs := [.str "make"]) s1 n2
    have c1 := c1.ex (Ex.new (o := .tup [.str "make"]) n2)
    have s2 := s1.ex (Ex.new (o := .tup [.str "make"]) n2)
    have k2 := k1.trans (Kp.same (Ex.new (o := .tup [.str "make"]) n2))
    generalize upd G1 t2 (.tup [.str "make"]) = G2 at c1 c2 s2 k2 ⊢
    refine ⟨_, rfl, _, rfl, p, m, rfl, s2, by omega, Int.le_trans m2 (by decide), fun r H3 r0 r1 s3 k3 => ⟨_, _, rfl, rfl, (by decide : 2 ≤ sizeLine), fun t3 n3 => ?_⟩⟩
    have c3 := Tp.new (xs := [.str "unpack", .int (1 + r)]) s3 n3
    have e3 := Ex.new (o := .tup [.str "unpack", .int (1 + r)]) n3
    have c1 := (c1.kp k3).ex e3
    have c2 := (c2.kp k3).ex e3
    have s3 := s3.ex e3
    have k3 := (k2.trans k3).trans (Kp.same e3)
    generalize upd H3 t3 (.tup [.str "unpack", .int (1 + r)]) = G3 at c1 c2 c3 s3 k3 ⊢
    refine ⟨(by decide : 3 ≤ sizeLine), fun l nl => ?_⟩
    have e4 := Ex.new (o := .lst [.ref t1, .ref t2, .ref t3]) nl
    refine ⟨p, l, _, rfl, s3.ex e4, SqL.of upd_same, src_ne nl s3, (fun z => by cases z), (by decide : 3 ≤ 1000), fun i x H5 hx s5 k5 => ?_⟩
    have kk := (k3.trans (Kp.same e4)).trans k5
    match i, hx with
    | 0, hx => cases hx; exact q _ .make H5 (((c1.ex e4).kp k5).dd .make) trivial rfl s5 kk
    | 1, hx => cases hx; exact q _ .make H5 (((c2.ex e4).kp k5).dd .make) trivial rfl s5 kk
    | 2, hx => cases hx; exact q _ (.unpack (1 + r)) H5 (((c3.ex e4).kp k5).dd (.unpack (1 + r))) ⟨by omega, by omega⟩ rfl s5 kk
theorem ok__law_user {f : Addr} {fd : FuncData} (F : Fun K "_law_user" "_law_user" s__law_user f fd) (c__law_draw : Fn P w K mg base "_law_draw" ["source", "amount"] CX0 1 spDraw) (c__law_pick : Fn P w K mg base "_law_pick" ["source", "items"] CX0 2 (spPick K)) :
    FnOk P w K mg base CX0 3 f fd ["source", "back"] (spUser K) := by
  refine F.ok sc__law_user (fun vs H Q E h => ?_) (fun cdv A outer s H vs Q E hr h => ?_)
  · obtain ⟨p, m, rfl, _⟩ := h
    rfl
  · obtain ⟨p, m, rfl, hs, m1, m2, q⟩ := h
    refine ⟨_, (pss_one (ps_ret (pe_fn c__law_pick hr pass0 (pa_cons (pv 0) (pa_cons (pe_lst (pa_cons (pe_tup (pa_cons pe_str pa_nil)) (pa_cons (pe_tup (pa_cons pe_str pa_nil)) (pa_cons (pe_tup (pa_cons pe_str pa_nil)) (pa_cons (pe_tup (pa_cons pe_str pa_nil)) (pa_cons (pe_tup (pa_cons pe_str pa_nil)) (pa_cons (pe_tup (pa_cons pe_str pa_nil)) (pa_cons (pe_tup (pa_cons pe_str (pa_cons (pe_op op_add pe_int (pe_fn c__law_draw hr pass0 (pa_cons (pv 0) (pa_cons (pv 1) pa_nil)))) pa_nil))) pa_nil)))))))) pa_nil))))), ?_⟩
    have s0 := hs
    have k0 : Kp p H H := Kp.refl
    refine ⟨_, rfl, ?_⟩
    refine ⟨(by decide : 1 ≤ sizeLine), fun t1 n1 => ?_⟩
    have c1 := Tp.new (xs := [.str "read"]) s0 n1
    have e1 := Ex.new (o := .tup [.str "read"]) n1
    have s1 := s0.ex e1
    have k1 := k0.trans (Kp.same e1)
    generalize upd H t1 (.tup [.str "read"]) = G1 at c1 s1 k1 ⊢
    refine ⟨(by decide : 1 ≤ sizeLine), fun t2 n2 => ?_⟩
    have c2 := Tp.new (xs := [.str "read"]) s1 n2
    have e2 := Ex.new (o := .tup [.str "read"]) n2
    have c1 := c1.ex e2
    have s2 := s1.ex e2
    have k2 := k1.trans (Kp.same e2)
    generalize upd G1 t2 (.tup [.str "read"]) = G2 at c1 c2 s2 k2 ⊢
    refine ⟨(by decide : 1 ≤ sizeLine), fun t3 n3 => ?_⟩
    have c3 := Tp.new (xs := [.str "read"]) s2 n3
    have e3 := Ex.new (o := .tup [.str "read"]) n3
    have c1 := c1.ex e3
    have c2 := c2.ex e3
    have s3 := s2.ex e3
    have k3 := k2.trans (Kp.same e3)
    generalize upd G2 t3 (.tup [.str "read"]) = G3 at c1 c2 c3 s3 k3 ⊢
    refine ⟨(by decide : 1 ≤ sizeLine), fun t4 n4 => ?_⟩
    have c4 := Tp.new (xs := [.str "write"]) s3 n4
    have e4 := Ex.new (o := .tup [.str "write"]) n4
    have c1 := c1.ex e4
    have c2 := c2.ex e4
    have c3 := c3.ex e4
    have s4 := s3.ex e4
    have k4 := k3.trans (Kp.same e4)
    generalize upd G3 t4 (.tup [.str "write"]) = G4 at c1 c2 c3 c4 s4 k4 ⊢
    refine ⟨(by decide : 1 ≤ sizeLine), fun t5 n5 => ?_⟩
    have c5 := Tp.new (xs := [.str "rename"]) s4 n5
    have e5 := Ex.new (o := .tup [.str "rename"]) n5
    have c1 := c1.ex e5
    have c2 := c2.ex e5
    have c3 := c3.ex e5
    have c4 := c4.ex e5
    have s5 := s4.ex e5
    have k5 := k4.trans (Kp.same e5)
    generalize upd G4 t5 (.tup [.str "rename"]) = G5 at c1 c2 c3 c4 c5 s5 k5 ⊢
    refine ⟨(by decide : 1 ≤ sizeLine), fun t6 n6 => ?_⟩
    have c6 := Tp.new (xs := [.str "touch"]) s5 n6
    have e6 := Ex.new (o := .tup [.str "touch"]) n6
    have c1 := c1.ex e6
    have c2 := c2.ex e6
    have c3 := c3.ex e6
    have c4 := c4.ex e6
    have c5 := c5.ex e6
    have s6 := s5.ex e6
    have k6 := k5.trans (Kp.same e6)
    generalize upd G5 t6 (.tup [.str "touch"]) = G6 at c1 c2 c3 c4 c5 c6 s6 k6 ⊢
    refine ⟨_, rfl, _, rfl, p, m, rfl, s6, by omega, Int.le_trans m2 (by decide), fun r H7 r0 r1 s7 k7 => ⟨_, _, rfl, rfl, (by decide : 2 ≤ sizeLine), fun t7 n7 => ?_⟩⟩
    have c7 := Tp.new (xs := [.str "setback", .int (1 + r)]) s7 n7
    have e7 := Ex.new (o := .tup [.str "setback", .int (1 + r)]) n7
    have c1 := (c1.kp k7).ex e7
    have c2 := (c2.kp k7).ex e7
    have c3 := (c3.kp k7).ex e7
    have c4 := (c4.kp k7).ex e7
    have c5 := (c5.kp k7).ex e7
    have c6 := (c6.kp k7).ex e7
    have s7 := s7.ex e7
    have k7 := (k6.trans k7).trans (Kp.same e7)
    generalize upd H7 t7 (.tup [.str "setback", .int (1 + r)]) = G7 at c1 c2 c3 c4 c5 c6 c7 s7 k7 ⊢
    refine ⟨(by decide : 7 ≤ sizeLine), fun l nl => ?_⟩
    have e8 := Ex.new (o := .lst [.ref t1, .ref t2, .ref t3, .ref t4, .ref t5, .ref t6, .ref t7]) nl
    refine ⟨p, l, _, rfl, s7.ex e8, SqL.of upd_same, src_ne nl s7, (fun z => by cases z), (by decide : 7 ≤ 1000), fun i x H9 hx s9 k9 => ?_⟩
    have kk := (k7.trans (Kp.same e8)).trans k9
    match i, hx with
    | 0, hx => cases hx; exact q _ .read H9 (((c1.ex e8).kp k9).dd .read) trivial rfl s9 kk
    | 1, hx => cases hx; exact q _ .read H9 (((c2.ex e8).kp k9).dd .read) trivial rfl s9 kk
    | 2, hx => cases hx; exact q _ .read H9 (((c3.ex e8).kp k9).dd .read) trivial rfl s9 kk
    | 3, hx => cases hx; exact q _ .write H9 (((c4.ex e8).kp k9).dd .write) trivial rfl s9 kk
    | 4, hx => cases hx; exact q _ .rename H9 (((c5.ex e8).kp k9).dd .rename) trivial rfl s9 kk
    | 5, hx => cases hx; exact q _ .touch H9 (((c6.ex e8).kp k9).dd .touch) trivial rfl s9 kk
    | 6, hx => cases hx; exact q _ (.setback (1 + r)) H9 (((c7.ex e8).kp k9).dd (.setback (1 + r))) ⟨by omega, by omega⟩ rfl s9 kk
end
end Ag
namespace Ag
open PySem PySem.Spec PyProof.Rows L2 Evl
/-! ### looks -/
theorem room65 {k : Nat} {A : Around} (r : Room k A) : A.units + 65 < cLine := by have := r.un; omega
theorem s_retMax {K : PySem.W.Frag} {te : TE} {σ : L2.St} {H : Hp} {D : Ends} {vs : List V} {ns : List Int} (h : EvL te σ H vs) (e : vs = ns.map V.int) (hn : 0 < ns.length) (k : ∀ m H1, m ∈ ns → (∀ y, y ∈ ns → y ≤ m) → Ex H H1 → D.rt (.int m) H1) : tRet (tCB (rMax K) (tCons te tNil)) D σ H :=
  h H (Ex.refl H) _ fun p H2 np e2 hp => ⟨p, ns, rfl, sq_of (by rw [← e]; exact hp), hn, fun m hm hle => k m H2 hm hle e2⟩
/-- tuples of texts -/
inductive TsAll (H : Hp) : List V → List (List Str) → Prop
  | nil : TsAll H [] []
  | cons {t : Addr} {ks : List Str} {vs : List V} {kss : List (List Str)} : H t = some (.tup (ks.map V.str)) → TsAll H vs kss → TsAll H (.ref t :: vs) (ks :: kss)
theorem TsAll.to {H H' : Hp} {vs : List V} {kss : List (List Str)} (h : TsAll H vs kss) (k : ∀ t xs, H t = some (.tup xs) → H' t = some (.tup xs)) : TsAll H' vs kss := by
  induction h with
  | nil => exact .nil
  | cons a _ ih => exact .cons (k _ _ a) ih
theorem TsAll.ex {H H' : Hp} {vs : List V} {kss : List (List Str)} (h : TsAll H vs kss) (e : Ex H H') : TsAll H' vs kss := h.to fun _ _ z => e _ _ z
theorem TsAll.len {H : Hp} {vs : List V} {kss : List (List Str)} (h : TsAll H vs kss) : vs.length = kss.length := by
  induction h with
  | nil => rfl
  | cons _ _ ih => exact congrArg (· + 1) ih
theorem TsAll.append {H : Hp} {vs us : List V} {kss lss : List (List Str)} (h : TsAll H vs kss) (g : TsAll H us lss) : TsAll H (vs ++ us) (kss ++ lss) := by
  induction h with
  | nil => exact g
  | cons a _ ih => exact .cons a ih
theorem TsAll.at {H : Hp} {vs : List V} {kss : List (List Str)} {i : Nat} {v : V} (h : TsAll H vs kss) (e : vs[i]? = some v) : ∃ t ks, v = .ref t ∧ kss[i]? = some ks ∧ H t = some (.tup (ks.map V.str)) := by
  induction h generalizing i with
  | nil => simp at e
  | cons a _ ih =>
    cases i with
    | zero => cases e; exact ⟨_, _, rfl, rfl, a⟩
    | succ i => exact ih (by simpa using e)
theorem TsAll.drop {H : Hp} {vs : List V} {kss : List (List Str)} (h : TsAll H vs kss) : TsAll H (vs.drop 1) (kss.drop 1) := by
  cases h with
  | nil => exact .nil
  | cons _ b => exact b
theorem TsAll.snoc {H : Hp} {vs : List V} {kss : List (List Str)} {t : Addr} {ks : List Str} (h : TsAll H vs kss) (a : H t = some (.tup (ks.map V.str))) : TsAll H (vs ++ [.ref t]) (kss ++ [ks]) := h.append (.cons a .nil)
def tsD (ks : List Str) : PyData := .tuple (ks.map .str)
theorem strs_dp {K : PySem.W.Frag} {H : Hp} : ∀ ks : List Str, DpAll K H (ks.map V.str) (ks.map .str)
  | [] => .nil
  | x :: r => .cons (.str x) (strs_dp r)
theorem TsAll.dp {K : PySem.W.Frag} {H : Hp} {vs : List V} {kss : List (List Str)} (h : TsAll H vs kss) : DpAll K H vs (kss.map tsD) := by
  induction h with
  | nil => exact .nil
  | cons a _ ih => exact .cons (.tup (st_of a) (strs_dp _)) ih
def markS (i : Nat) : Str := match i with | 0 => "read" | 1 => "written" | _ => "changed"
def lks : Nat → List (List Str)
  | 0 => [[]]
  | i + 1 => lks i ++ (lks i).map (· ++ [markS i])
def looks7 : List (List Str) := [["read"], ["written"], ["read", "written"], ["changed"], ["read", "changed"], ["written", "changed"], ["read", "written", "changed"]]
theorem lks_3 : (lks 3).drop 1 = looks7 := rfl
def spAllLooks : Sp := fun vs H Q _ => vs = [] ∧ ∀ p xs H', H p = none → Ex H H' → H' p = some (.lst xs) → TsAll H' xs looks7 → Q (.ref p) H'
def spIsLooks (K : PySem.W.Frag) : Sp := fun vs H Q _ => ∃ (a : Addr) (ks : List Str), vs = [.ref a] ∧ SqT K H a (ks.map V.str) ∧ ks ∈ looks7 ∧ RetV (.bl true) H Q
def Mk3.get (m : Mk3) (k : Str) : Int := if k = "read" then m.rd else if k = "written" then m.wr else m.ch
def marksS : List Str := ["read", "written", "changed"]
theorem tab_get {m : Mk3} {k : Str} (h : k ∈ marksS) : valV (tab m) (.inr k) = some (.int (m.get k)) := by
  simp only [marksS, List.mem_cons, List.not_mem_nil, or_false] at h
  rcases h with rfl | rfl | rfl <;> rfl
theorem looks_marks : ∀ ks ∈ looks7, ks ≠ [] ∧ (∀ k ∈ ks, k ∈ marksS) ∧ ks.length ≤ 3 := by decide +kernel
/-- x is the latest of some marks -/
def IsLatest (m : Mk3) (ks : List Str) (x : Int) : Prop := (∃ k ∈ ks, x = m.get k) ∧ ∀ k ∈ ks, m.get k ≤ x
theorem IsLatest.one {m : Mk3} {ks : List Str} {x y : Int} (h : IsLatest m ks x) (g : IsLatest m ks y) : x = y := by
  obtain ⟨⟨k, hk, rfl⟩, h2⟩ := h
  obtain ⟨⟨l, hl, rfl⟩, g2⟩ := g
  have a := h2 l hl
  have b := g2 k hk
  omega
def spFiLast (CR CF : Addr) : Sp := fun vs H Q _ => ∃ (f d r : Addr) (s : Fl), vs = [.ref f] ∧ FlAt CF CR H f d r s ∧ Q (.int s.last) H
def spFiHeld (CR CF : Addr) : Sp := fun vs H Q _ => ∃ (f d r : Addr) (s : Fl), vs = [.ref f] ∧ FlAt CF CR H f d r s ∧ Q (.bl s.held) H
def spFiLatest (K : PySem.W.Frag) (CR CF : Addr) : Sp := fun vs H Q _ => ∃ (f d r a : Addr) (s : Fl) (ks : List Str), vs = [.ref f, .ref a] ∧ FlAt CF CR H f d r s ∧ SqT K H a (ks.map V.str) ∧ ks ∈ looks7 ∧ ∀ x H', IsLatest s.m ks x → Ex H H' → Q (.int x) H'
section
variable {P : Program} {w : World} {K : PySem.W.Frag} {mg : Str → Option Value} {base : Heap} {C CR CF CMk pP pM : Addr}
theorem ok_all_looks {f : Addr} {fd : FuncData} (F : Fun K "all_looks" "all_looks" s_all_looks f fd) (TD : DeTxt K mg pP pM) : FnOk P w K mg base CX0 1 f fd [] spAllLooks := by
  have gM := TD.gM
  refine F.ok sc_all_looks (fun vs H Q E h => ?_) (fun cdv A outer s H vs Q E hr h => ?_)
  · obtain ⟨rfl, _⟩ := h
    rfl
  · obtain ⟨rfl, q⟩ := h
    refine ⟨_, (pss_cons (ps_set (i := 0) sc_all_looks.nd rfl (Or.inl rfl) (pe_lst (pa_cons (pe_tup pa_nil) pa_nil)))
      (pss_cons (ps_for PassesOwn.never rfl (pi_tup (pe_gc gM)) (pg_name (i := 1) sc_all_looks.nd rfl (Or.inr rfl)) (pss_one (ps_set (i := 0) sc_all_looks.nd rfl (Or.inl rfl) (pe_op op_cat (pv 0) (pe_lc (own := [("looks", 2)]) (te := tTup (StX.tStar K (tVar 2) (tCons (tVar 1) tNil))) (by rfl) sc_all_looks.nd (pi_list (pv 0)) (blkOk_by (own := [("looks", 2)]) (N := ["found", "mark", "looks"]) (sc := defScope s_all_looks) (by decide +kernel)) (fun _ _ _ _ _ => (pg_name (i := 2) sc_all_looks.nd rfl (Or.inl rfl))) (fun _ _ _ _ _ => pts_nil) (fun _ _ _ _ _ => (pe_tup (StX.pa_star (pv 2) (pa_cons (pv 1) pa_nil)))))))))
      (pss_one (ps_ret (pe_slice sl_list (pv 0) (po_some pe_int) po_none))))), ?_⟩
    refine ⟨(by decide : 0 ≤ sizeLine), fun t0 n0 => ⟨(by decide : 1 ≤ sizeLine), fun l0 nl0 => ?_⟩⟩
    have e0 : Ex H (upd H t0 (.tup [])) := Ex.new n0
    have ts0 : TsAll (upd (upd H t0 (.tup [])) l0 (.lst [.ref t0])) [.ref t0] (lks 0) := .cons (Ex.new nl0 _ _ upd_same) .nil
    refine q_forT (K := K) (a := pM) (xs := marksV) ev_c (TD.sM _) (fun i σ' H' => ∃ l xs y1 y2, σ' = [some (.ref l), y1, y2] ∧ Ex H H' ∧ H l = none ∧ H' l = some (.lst xs) ∧ TsAll H' xs (lks i)) (fun H1 e1 => ⟨l0, _, _, _, rfl, (e0.trans (Ex.new nl0)).trans e1, fresh_back e0 nl0, e1 _ _ upd_same, ts0.ex e1⟩) (fun i σ' H' _ _ => TD.sM H') ?_ ?_
    · rintro i x σ' H1 hx ⟨l, xs, y1, y2, rfl, e1, nl, hl, ts⟩
      have hi : i < 3 := by have := (List.getElem?_eq_some_iff.mp hx).1; exact this
      obtain rfl : x = .str (markS i) := match i, hx with
        | 0, hx => (Option.some.inj hx).symm
        | 1, hx => (Option.some.inj hx).symm
        | 2, hx => (Option.some.inj hx).symm
      have l8 : (lks i).length ≤ 8 := match i, hi with
        | 0, _ => by decide
        | 1, _ => by decide
        | 2, _ => by decide
      refine ⟨_, rfl, _, rfl, l, rfl, ⟨xs, sq_of hl⟩, fun Dl nD => ?_⟩
      refine lc_list (K := K) (xs := xs) (fun k H' => Ex H1 H' ∧ ∃ ys, H' Dl = some (.lst ys) ∧ TsAll H' ys (((lks i).take k).map (· ++ [markS i]))) ⟨Ex.new nD, [], upd_same, .nil⟩ (fun k H' _ p => sq_of (p.1 _ _ hl)) ?_ ?_
      · rintro k x H2 hk ⟨e2, ys, hD, ty⟩
        obtain ⟨t, ks, rfl, hks, ht⟩ := ts.at hk
        refine ⟨rfl, ?_⟩
        have ht2 := e2 _ _ ht
        have yl : ys.length ≤ 8 := by rw [ty.len, List.length_map, List.length_take]; omega
        have kl : ks.length ≤ 3 := by
          have hm := List.mem_of_getElem? hks
          match i, hi, hm with
          | 0, _, hm => exact (by decide : ∀ z ∈ lks 0, z.length ≤ 3) _ hm
          | 1, _, hm => exact (by decide : ∀ z ∈ lks 1, z.length ≤ 3) _ hm
          | 2, _, hm => exact (by decide : ∀ z ∈ lks 2, z.length ≤ 3) _ hm
        refine ⟨_, rfl, t, _, rfl, .inl (st_of ht2), _, rfl, Nat.le_trans (show (ks.map V.str ++ [V.str (markS i)]).length ≤ 4 by rw [List.length_append, List.length_map]; simp; omega) (by decide), fun tn ntn => ⟨ys, Ex.new ntn _ _ hD, Nat.lt_of_le_of_lt yl (by decide), ?_⟩⟩
        have nDl : Dl ≠ tn := ne_of_none hD ntn
        have ex3 : Ex H1 (upd (upd H2 tn (.tup (ks.map V.str ++ [.str (markS i)]))) Dl (.lst (ys ++ [.ref tn]))) := Ex.mut (e2.trans (Ex.new ntn)) nD
        refine ⟨ex3, _, upd_same, ?_⟩
        have kk : ∀ tt zs, H2 tt = some (.tup zs) → (upd (upd H2 tn (.tup (ks.map V.str ++ [.str (markS i)]))) Dl (.lst (ys ++ [.ref tn]))) tt = some (.tup zs) := fun tt zs z => by
          rw [upd_ne (ne_of z hD (fun q => nomatch q)), upd_ne (ne_of_none z ntn)]; exact z
        have hk' : k < (lks i).length := (List.getElem?_eq_some_iff.mp hks).1
        rw [show (lks i).take (k + 1) = (lks i).take k ++ [ks] from by rw [List.take_succ, hks]; rfl, List.map_append]
        refine (ty.to kk).snoc ?_
        rw [upd_ne nDl.symm, upd_same, List.map_append]
        rfl
      · rintro H2 ⟨e2, ys, hD, ty⟩
        rw [ts.len, List.take_length] at ty
        refine ⟨l, Dl, xs, ys, rfl, rfl, e2 _ _ hl, hD, Nat.le_trans (show xs.length + ys.length ≤ 16 by rw [ts.len, ty.len, List.length_map]; omega) (by decide), fun pn npn => ?_⟩
        have e3 := Ex.new (o := .lst (xs ++ ys)) npn
        exact ⟨pn, _, _, _, rfl, (e1.trans e2).trans e3, fresh_back (e1.trans e2) npn, upd_same, ((ts.ex e2).ex e3).append (ty.ex e3)⟩
    · rintro σ' H1 ⟨l, xs, y1, y2, rfl, e1, nl, hl, ts⟩
      have x8 : xs.length = 8 := ts.len
      have hc : cutV xs (some 1) none = xs.drop 1 := by
        unfold cutV
        rw [x8, show HT.sIx 8 0 (some 1) = 1 from by decide, show HT.sIx 8 8 none = 8 from by decide, List.take_of_length_le (by rw [List.length_drop]; omega)]
      refine ⟨_, rfl, _, rfl, l, xs, rfl, sq_of hl, fun p np => ?_⟩
      rw [hc]
      exact q p _ _ (fresh_back e1 np) (e1.trans (Ex.new np)) upd_same (by rw [← lks_3]; exact (ts.drop).ex (Ex.new np))
theorem looks_sh : ∀ ks ∈ looks7, SeqAt.shaped (tsD ks) = true ∧ PyData.eqv (tsD ks) (.tuple []) = false ∧ ((looks7.map tsD).any fun z => PyData.eqv z (tsD ks)) = true := by
  intro ks h
  simp only [looks7, List.mem_cons, List.not_mem_nil, or_false] at h
  rcases h with rfl | rfl | rfl | rfl | rfl | rfl | rfl <;> exact ⟨by kernel_rfl, by kernel_rfl, by kernel_rfl⟩
theorem ok_is_looks {f : Addr} {fd : FuncData} (F : Fun K "is_looks" "is_looks" s_is_looks f fd) (B : Bl mg) (B2 : Bl2 mg) (c_all_looks : Fn P w K mg base "all_looks" [] CX0 1 spAllLooks) : FnOk P w K mg base CX0 2 f fd ["value"] (spIsLooks K) := by
  refine F.ok sc_is_looks (fun vs H Q E h => ?_) (fun cdv A outer s H vs Q E hr h => ?_)
  · obtain ⟨a, ks, rfl, _⟩ := h
    rfl
  · obtain ⟨a, ks, rfl, hS, hk, q⟩ := h
    obtain ⟨sh, ne, yes⟩ := looks_sh ks hk
    refine ⟨_, (pss_cons (ps_if (PW.pt (pw_or (pt_not (pt_val (pe_callB call_isi (by rfl) B.isinstance_ (by decide +kernel) (pa_cons (pv 0) (pa_cons (pe_ty "tuple" (by rfl) B2.tuple_ (by decide +kernel)) pa_nil))))) (pw_or1 (pt_cmpR (op_eqD hr.units) (pv 0) (pe_tup pa_nil) (nomark _))))) (pss_one (ps_ret pe_bl)) pss_nil)
      (pss_one (ps_ret (pe_cmpR (op_inD (room65 hr)) (pv 0) (pe_fn0 c_all_looks hr pass0) (by rfl))))), ?_⟩
    have dp : ∀ {Hk}, Ex H Hk → Dp K Hk (.ref a) (tsD ks) := fun {Hk} e => .tup (ex_t e hS) (strs_dp ks)
    refine q_ifF (et_or (a := false) (et_not (et_B (b := true) (ev_isi (fun H1 e Q' q' => ⟨_, rfl, q' _ H1 (Ex.refl H1) (dp_ty (dp e))⟩) ev_c (.ty _) (show PySem.W.kitOne K (.type "tuple") (.type "tuple") = some true from kit_ty (by decide +kernel))))) fun _ => et_test (ev_eqD (ed_var rfl (dp (Ex.refl H))) (ed_tup eds_nil) sh (by kernel_rfl))) (by rw [ne]; rfl) fun H1 e1 => ?_
    refine ⟨_, rfl, rfl, fun p xs H2 np e2 hp ts => ⟨tsD ks, looks7.map tsD, dp (e1.trans e2), .lst (sq_of hp) ts.dp, sh, by kernel_rfl, ?_⟩⟩
    rw [yes]
    exact q H2 (e1.trans e2)
theorem ok_File_last {f : Addr} {fd : FuncData} (F : Fun K "last" "File.last" s_File_last f fd) (TF : FiTxt K mg CF CMk) : FnOk P w K mg base CX0 1 f fd ["self"] (spFiLast CR CF) := by
  refine F.ok sc_File_last (fun vs H Q E h => ?_) (fun cdv A outer s H vs Q E hr h => ?_)
  · obtain ⟨f, d, r, s, rfl, _⟩ := h
    rfl
  · obtain ⟨f, d, r, s, rfl, ⟨⟨dx, h1⟩, _⟩, q⟩ := h
    exact ⟨_, (pss_one (ps_ret (pe_fld (pv 0) rfl))), _, rfl, f, CF, dx, _, _, rfl, h1, TF.cl, TF.nL, lk_last, q⟩
theorem ok_File_held {f : Addr} {fd : FuncData} (F : Fun K "held" "File.held" s_File_held f fd) (TF : FiTxt K mg CF CMk) : FnOk P w K mg base CX0 1 f fd ["self"] (spFiHeld CR CF) := by
  refine F.ok sc_File_held (fun vs H Q E h => ?_) (fun cdv A outer s H vs Q E hr h => ?_)
  · obtain ⟨f, d, r, s, rfl, _⟩ := h
    rfl
  · obtain ⟨f, d, r, s, rfl, ⟨⟨dx, h1⟩, _⟩, q⟩ := h
    exact ⟨_, (pss_one (ps_ret (pe_fld (pv 0) rfl))), _, rfl, f, CF, dx, _, _, rfl, h1, TF.cl, TF.nH, lk_held, q⟩
theorem given_all {n : Nat} {v : Nat → V} : given n (fun _ => true) v = (List.range n).map v := by
  unfold given
  rw [List.filter_eq_self.mpr (fun _ _ => rfl)]
theorem ok_File_latest {f : Addr} {fd : FuncData} (F : Fun K "latest" "File.latest" s_File_latest f fd) (B : Bl mg) (TF : FiTxt K mg CF CMk) (c_is_looks : Fn P w K mg base "is_looks" ["value"] CX0 2 (spIsLooks K)) : FnOk P w K mg base CX0 3 f fd ["self", "looks"] (spFiLatest K CR CF) := by
  refine F.ok sc_File_latest (fun vs H Q E h => ?_) (fun cdv A outer s H vs Q E hr h => ?_)
  · obtain ⟨f, d, r, a, s, ks, rfl, _⟩ := h
    rfl
  · obtain ⟨f, d, r, a, s, ks, rfl, ⟨⟨dx, h1⟩, h2, h3⟩, hS, hk, q⟩ := h
    obtain ⟨k0, km, kl⟩ := looks_marks ks hk
    refine ⟨_, (pss_cons (ps_if (pt_not (pt_val (pe_fn c_is_looks hr pass0 (pa_cons (pv 1) pa_nil)))) (pss_one ps_never) pss_nil)
      (pss_one (ps_ret (pe_callB (cr_max rfl) (by rfl) B.max_ (by decide +kernel) (pa_cons (pe_lc (own := [("mark", 2)]) (te := tCB (fun xs H Q => (∃ i, xs = [V.int i] ∧ Q (V.int i) H) ∨ ∃ k, xs = [V.bl k] ∧ Q (V.int (if k = true then 1 else 0)) H) (tCons (tDGet (tFld K (tVar 0) "own_table") (tVar 2)) tNil)) (by rfl) sc_File_latest.nd (pi_tup (pv 1)) (blkOk_by (own := [("mark", 2)]) (N := ["self", "looks", "mark"]) (sc := defScope s_File_latest) (by decide +kernel)) (fun _ _ _ _ _ => (pg_name (i := 2) sc_File_latest.nd rfl (Or.inl rfl))) (fun _ _ _ _ _ => pts_nil) (fun _ _ _ _ _ => (pe_callTy call_int1 (by rfl) B.int_ (by decide +kernel) (pa_cons (pe_dget (hu_of hr) (pe_fld (pv 0) rfl) (pv 2) (fun _ _ => rfl)) pa_nil)))) pa_nil))))), ?_⟩
    refine q_ifF (et_not (et_B (b := true) (ev_call (ea_cons (ev_var rfl) ea_nil) fun H2 e2 Q' q' E' => ⟨a, ks, rfl, ex_t e2 hS, hk, q'⟩))) rfl fun H1 e1 => ?_
    have gv : ∀ i x, (ks.map V.str)[i]? = some x → ∃ k, ks[i]? = some k ∧ x = V.str k := fun i x h => by
      rw [List.getElem?_map] at h
      cases z : ks[i]? with
      | none => rw [z] at h; cases h
      | some k => rw [z] at h; exact ⟨k, z, (Option.some.inj h).symm⟩
    refine s_retMax (ns := (List.range ks.length).map fun i => s.m.get (ks.getD i "")) (el_lcT (K := K) (a := a) (xs := ks.map V.str) (fun _ => true) (fun i => .int (s.m.get (ks.getD i ""))) (ev_var rfl) (ex_t e1 hS) (by rw [List.length_map]; omega) (fun _ => rfl) (fun i x H2 e2 hx => et_yes) fun i x H2 e2 hx _ => ?_) (by rw [given_all, List.length_map, List.map_map]; rfl) (by rw [List.length_map, List.length_range]; exact List.length_pos_iff.mpr k0) fun m H2 hm hle e2 => q m H2 ⟨?_, fun k hk' => ?_⟩ (e1.trans e2)
    · obtain ⟨k, hk', rfl⟩ := gv i x hx
      have hg : ks.getD i "" = k := by rw [List.getD_eq_getElem?_getD, hk']; rfl
      rw [hg]
      exact Ag.ev_int1 (ev_dget (k := .inr k) (ev_fld (ev_var rfl) (e2 _ _ (e1 _ _ h1)) TF.cl TF.nT lk_table) (ev_var rfl) (e2 _ _ (e1 _ _ h2)) (tab_get (km k (List.mem_of_getElem? hk'))))
    · obtain ⟨i, hi, rfl⟩ := List.mem_map.mp hm
      have hi' : i < ks.length := List.mem_range.mp hi
      exact ⟨ks.getD i "", by rw [List.getD_eq_getElem?_getD, List.getElem?_eq_getElem hi']; exact List.getElem_mem hi', rfl⟩
    · obtain ⟨i, hi, rfl⟩ := List.getElem_of_mem hk'
      refine hle _ (List.mem_map.mpr ⟨i, List.mem_range.mpr hi, ?_⟩)
      rw [List.getD_eq_getElem?_getD, List.getElem?_eq_getElem hi]
      rfl
end
end Ag
namespace Ag
open PySem PySem.Spec PyProof.Rows L2 Evl
theorem Src.same {H H' : Hp} {p : Addr} (h : Src H p) (s : Same H H') : Src H' p := let ⟨n, sd, e, a, b, c⟩ := h; ⟨n, sd, s _ _ e, a, b, c⟩
def spLaw (K : PySem.W.Frag) : Sp := fun vs H Q _ => ∃ (a : Addr) (ns : List Int), vs = [.ref a] ∧ SqL K H a (ns.map V.int) ∧ ns.length ≤ 63 ∧ ∀ H', Q (.bl true) H'
theorem pick3 {x y z : Int} {r : Int} (h0 : 0 ≤ r) (h1 : r < 3) (L : Int) (hx : 0 < x ∧ x ≤ L) (hy : 0 < y ∧ y ≤ L) (hz : 0 < z ∧ z ≤ L) : ∃ m : Int, atI [V.int x, V.int y, V.int z] r = some (.int m) ∧ 0 < m ∧ m ≤ L := by
  have : r = 0 ∨ r = 1 ∨ r = 2 := by omega
  rcases this with rfl | rfl | rfl
  · exact ⟨x, atI_nat (j := 0) rfl, hx⟩
  · exact ⟨y, atI_nat (j := 1) rfl, hy⟩
  · exact ⟨z, atI_nat (j := 2) rfl, hz⟩
structure MoNe (K : PySem.W.Frag) (C : Addr) : Prop where
  ne : PySem.W.findIn K (.ref C) "__ne__" = some (some (.builtin "object.__ne__"))
  ob : PySem.W.subIn K (.ref C) (.type "object") = some true
theorem mAft_no {s : Fl} {d : Dd} {n : Int} (h : d.isRead = false) : s.mAft d n = d.app s.m n := by
  unfold Fl.mAft
  rw [h, Bool.false_and, if_neg Bool.false_ne_true]
theorem mAft_rd {s : Fl} {n : Int} : s.mAft .read n = if s.ru.sets s.m n = true then ⟨n - 0, s.m.wr, s.m.ch⟩ else s.m := by
  unfold Fl.mAft
  rw [show Dd.read.isRead = true from rfl, Bool.true_and]
  rfl
theorem eqB_refl (s : Fl) : s.eqB s = true := by
  unfold Fl.eqB
  rw [SeqAt.eqv_refl _ (SeqAt.canLay_of_shaped (ru_shaped s.ru))]
  rw [if_neg (by simp)]
  show ((_ && ((s.m.rd == s.m.rd) && ((s.m.wr == s.m.wr) && ((s.m.ch == s.m.ch) && true)))) && _) = true
  simp
theorem dd_eqread (d : Dd) : PyData.eqv d.data (.tuple [.str "read"]) = d.isRead := by
  cases d <;> first | rfl | kernel_rfl
theorem isRead_eq {d : Dd} (h : d.isRead = true) : d = .read := by cases d <;> first | rfl | cases h
theorem sbs_read (s : Fl) (n : Int) : s.sbs .read n = if s.ru.sets s.m n = true then [(("read" : Str), (0 : Int))] else [] := by
  unfold Fl.sbs
  rw [show Dd.read.isRead = true from rfl, Bool.true_and]
  rfl
def nmV (bs : List (Str × Int)) : List V := bs.map fun kb => .str kb.1
def nmD (bs : List (Str × Int)) : PyData := .list (bs.map fun kb => .str kb.1)
theorem nm_dp {K : PySem.W.Frag} {H : Hp} : ∀ bs : List (Str × Int), DpAll K H (nmV bs) (bs.map fun kb => .str kb.1)
  | [] => .nil
  | (x, b) :: r => .cons (.str x) (nm_dp r)
theorem nm_at {K : PySem.W.Frag} {H : Hp} {l : Addr} {bs : List (Str × Int)} (h : H l = some (.lst (nmV bs))) : Dp K H (.ref l) (nmD bs) := .lst (sq_of h) (nm_dp bs)
section
variable {K : PySem.W.Frag} {vr : V} {u : Ru} {nn : Int} {H H' : Hp}
theorem RowAt.ex (h : RowAt K H vr u nn) (e : Ex H H') : RowAt K H' vr u nn := let ⟨a, ea, h⟩ := h; ⟨a, ea, ex_t e h⟩
end
section
variable {K : PySem.W.Frag} {mg : Str → Option Value} {C CR CF CMk : Addr} {σ : L2.St} {H : Hp} {ta tb tc : TE} {E : XK} {f d r g dg rg q a b : Addr} {s s' : Fl} {u : Ru} {n : Int} {dd : Dd}
theorem ev_neF (TF : FiTxt K mg CF CMk) (h1 : Ev ta σ H (.ref f)) (h2 : Ev tb σ H (.ref g)) (hf : FlAt CF CR H f d r s) (hg : FlAt CF CR H g dg rg s') : Ev (tOp (rOwnNe K CF (spFiEq CR CF) E) ta tb) σ H (.bl (!s.eqB s')) := fun H1 e Q k =>
  h1 H1 e _ fun H2 e2 => h2 H2 (e.trans e2) (fun y H3 => rOwnNe K CF (spFiEq CR CF) E (.ref f) y H3 Q) fun H3 e3 => by
    have e13 := e.trans (e2.trans e3)
    obtain ⟨⟨dx, hf'⟩, _⟩ := id (hf.ex e13)
    exact ⟨f, dx, _, _, rfl, hf', (hg.ex e13).ty TF, nf_self _ _, f, d, r, g, dg, rg, s, s', rfl, hf.ex e13, hg.ex e13, fun H4 e4 => ⟨_, rfl, k H4 ((e2.trans e3).trans e4)⟩⟩
theorem ev_rule (h1 : Ev ta σ H (.ref q)) (h2 : Ev tb σ H (.ref f)) (h3 : EvP tc σ H (fun w H2 => AtIs C H2 w n)) (hq : RuAt CR H q u) (hf : FlAt CF CR H f d r s) : Ev (tCo CR (spRuCall C CR CF) E ta (tCons tb (tCons tc tNil))) σ H (.bl (u.sets s.m n)) := fun H1 e Q k =>
  h1 H1 e _ fun H2 e2 => ⟨q, rfl, h2 H2 (e.trans e2) _ fun H3 e3 => h3 H3 ((e.trans e2).trans e3) _ fun w H4 e4 hw => by
    have e14 := ((e.trans e2).trans e3).trans e4
    obtain ⟨dx, hq'⟩ := id (hq.ex e14)
    exact ⟨⟨dx, _, hq'⟩, q, f, d, r, w, u, s, n, rfl, hq.ex e14, hf.ex e14, hw, fun H5 e5 => k H5 (((e2.trans e3).trans e4).trans e5)⟩⟩
theorem evm_item {k : Str} {x : Int} (h1 : Ev ta σ H (.ref f)) (h2 : Ev tb σ H (.str k)) (hf : FlAt CF CR H f d r s) (hin : inV (.str k) marksV = true) (hv : valV (tab s.m) (.inr k) = some (.int x)) (fr : Far x) : EvP (tOp (rOwnIx CF (spFiItem C CR CF) E) ta tb) σ H (IsMo C x) := by
  obtain ⟨⟨dx, hf'⟩, _⟩ := id hf
  exact evp_oix h1 h2 hf' fun H1 e Q k' => ⟨f, d, r, s, k, x, rfl, hf.ex e, hin, hv, fr, fun p H2 e2 hp => k' _ H2 e2 ⟨p, rfl, hp⟩⟩
theorem ed_if {t : TT} {b : Bool} {dt : PyData} (h : EvT t σ H b) (h1 : b = true → EvD K ta σ H dt) (h2 : b = false → EvD K tb σ H dt) : EvD K (tIf t ta tb) σ H dt := fun H1 e Q k => h H1 e _ fun H2 e2 => by
  cases b with
  | true => exact h1 rfl H2 (e.trans e2) Q fun v H3 e3 z => k v H3 (e2.trans e3) z
  | false => exact h2 rfl H2 (e.trans e2) Q fun v H3 e3 z => k v H3 (e2.trans e3) z
theorem evr_var {i : Nat} (h : σ[i]? = some (some (.ref q))) (hq : RuAt CR H q u) : EvP (tVar i) σ H (IsRu CR u) := evp_var h fun _ e => ⟨q, rfl, hq.ex e⟩
theorem q_par3P {i j l : Nat} {φ : V → Hp → Prop} {ψ χ : Hp → V → Hp → Prop} {D : Ends} {uu : TS} (h1 : EvP ta σ H φ) (h2 : ∀ H1, Ex H H1 → EvP tb σ H1 (ψ H1)) (h3 : ∀ H1, Ex H H1 → EvP tc σ H1 (χ H1))
    (k : ∀ v1 H1, Ex H H1 → φ v1 H1 → ∀ v2 H2, Ex H1 H2 → ψ H1 v2 H2 → ∀ v3 H3, Ex H2 H3 → χ H2 v3 H3 → uu D (((σ.set i (some v1)).set j (some v2)).set l (some v3)) H3) : tSeq (tPar3 i j l (tCons ta (tCons tb (tCons tc tNil)))) uu D σ H :=
  h1 H (Ex.refl H) _ fun v1 H1 e1 p1 => h2 H1 e1 H1 (Ex.refl H1) _ fun v2 H2 e2 p2 => h3 H2 (e1.trans e2) H2 (Ex.refl H2) _ fun v3 H3 e3 p3 => ⟨v1, v2, v3, rfl, k v1 H1 e1 p1 v2 H2 e2 p2 v3 H3 e3 p3⟩
theorem q_asgX {i : Nat} {φ : V → Hp → Prop} {D : Ends} {uu : TS} (h : ∀ Q : VK, (∀ v H', φ v H' → Q v H') → ta σ H Q) (k : ∀ v H', φ v H' → uu D (σ.set i (some v)) H') : tSeq (tAsg ta (gName i)) uu D σ H := h _ k
theorem evf_makeP (h1 : EvP ta σ H (IsRu CR u)) (h2 : EvP tb σ H (fun v H2 => DdAt K H2 v dd)) (ok : dd.Ok) (mk : dd.makes = true) (h3 : EvP tc σ H (fun w H2 => AtIs C H2 w n)) :
    EvP (tMake CF (spFiInit K C CR CF) [] E (tCons ta (tCons tb (tCons tc tNil)))) σ H (fun v H2 => ∃ f d r, v = .ref f ∧ H f = none ∧ H d = none ∧ FlAt CF CR H2 f d r ⟨u, dd.app ⟨0, 0, 0⟩ n, n, false⟩) := fun H1 e Q q =>
  h1 H1 e _ fun v0 H2 e2 ⟨r, er, hu⟩ => h2 H2 (e.trans e2) _ fun v H3 e3 hv => h3 H3 ((e.trans e2).trans e3) _ fun w H4 e4 hw x dx nx nd ne => by
    subst er
    have e14 := (e2.trans e3).trans e4
    have eN : Ex H4 (upd (upd H4 dx (.own x)) x (.ins CF dx [])) := fun b o e => by rw [upd_ne (ne_of_none e nx), upd_ne (ne_of_none e nd)]; exact e
    refine ⟨x, dx, r, v, w, u, dd, n, rfl, upd_same, hu.ex ((e3.trans e4).trans eN), hv.ex (e4.trans eN), ok, mk, hw.ex eN, fun d H' nd' k' fl => ⟨rfl, ?_⟩⟩
    have e4' : Ex H4 H' := fun b o z => k' _ _ (fun y => by rw [y, nx] at z; cases z) (eN _ _ z)
    exact q _ H' (e14.trans e4') ⟨x, d, r, rfl, fresh_back (e.trans e14) nx, fresh_back ((e.trans e14).trans eN) nd', fl⟩
end
/-! ### k08: the law's own functions -/
def spLSets (K : PySem.W.Frag) : Sp := fun vs H Q _ => ∃ (d : Addr) (vr : V) (t : Int) (m : Mk3) (u : Ru) (nn : Int), vs = [.ref d, vr, .int t] ∧ H d = some (.dK (tab m)) ∧ RowAt K H vr u nn ∧ RowOk u nn ∧ RetV (.bl (u.sets m t)) H Q
def spLBacks (K : PySem.W.Frag) : Sp := fun vs H Q _ => ∃ (v : V) (dd : Dd), vs = [v] ∧ DdAt K H v dd ∧ ∀ p H', H p = none → Ex H H' → H' p = some (.dK (dd.backs.map bkv)) → Q (.ref p) H'
def spLDone (K : PySem.W.Frag) : Sp := fun vs H Q _ => ∃ (d : Addr) (vr v : V) (t : Int) (k0 : List (Key × V)) (s : Fl) (nn : Int) (dd : Dd), vs = [.ref d, vr, v, .int t] ∧ H d = some (.dK k0) ∧ RowAt K H vr s.ru nn ∧ RowOk s.ru nn ∧ DdAt K H v dd ∧ (dd.isRead = true → k0 = tab s.m) ∧ k0.length ≤ 3 ∧
  ∀ p H', H p = none → Ex H H' → H' p = some (.dK (puts t (s.sbs dd t) k0)) → Q (.ref p) H'
def spLLatest (K : PySem.W.Frag) : Sp := fun vs H Q _ => ∃ (d a : Addr) (m : Mk3) (ks : List Str), vs = [.ref d, .ref a] ∧ H d = some (.dK (tab m)) ∧ SqT K H a (ks.map V.str) ∧ ks ∈ looks7 ∧ ∀ x H', IsLatest m ks x → Ex H H' → Q (.int x) H'
theorem sbs_nd (s : Fl) (d : Dd) (n : Int) : ((s.sbs d n).map bkv |>.map (·.1)).Nodup := by
  unfold Fl.sbs
  split
  · show ([.inr "read"] : List Key).Nodup
    decide
  · cases d with
    | make => exact (by decide : ([.inr "read", .inr "written", .inr "changed"] : List Key).Nodup)
    | touch => exact (by decide : ([.inr "read", .inr "written", .inr "changed"] : List Key).Nodup)
    | unpack b => exact (by decide : ([.inr "read", .inr "written", .inr "changed"] : List Key).Nodup)
    | setback b => exact (by decide : ([.inr "read", .inr "written", .inr "changed"] : List Key).Nodup)
    | write => exact (by decide : ([.inr "written", .inr "changed"] : List Key).Nodup)
    | rename => exact (by decide : ([.inr "changed"] : List Key).Nodup)
    | read => exact (by decide : ([] : List Key).Nodup)
theorem sbs_val {s : Fl} {d : Dd} {n : Int} {i : Nat} {x : Str} {b : Int} (h : (s.sbs d n)[i]? = some (x, b)) : valV ((s.sbs d n).map bkv) (.inr x) = some (.int b) :=
  val_nodup (sbs_nd s d n) (bkv (x, b)) (List.mem_map.mpr ⟨_, List.mem_of_getElem? h, rfl⟩)
section
variable {P : Program} {w : World} {K : PySem.W.Frag} {mg : Str → Option Value} {base : Heap} {C CR CF CMk pP pM : Addr}
theorem ok__law_sets {f : Addr} {fd : FuncData} (F : Fun K "_law_sets" "_law_sets" s__law_sets f fd) : FnOk P w K mg base CX0 1 f fd ["marks", "row", "at"] (spLSets K) := by
  refine F.ok sc__law_sets (fun vs H Q E h => ?_) (fun cdv A outer s H vs Q E hr h => ?_)
  · obtain ⟨d, vr, t, m, u, nn, rfl, _⟩ := h
    rfl
  · obtain ⟨d, vr, t, m, u, nn, rfl, hd, ⟨a, rfl, hS⟩, ⟨hu, _⟩, q⟩ := h
    refine ⟨_, (pss_cons (ps_if (pt_cmpR op_ne (pe_ix ix_tup (pv 1) pe_int (fun _ _ => rfl)) pe_str (nomark _)) (pss_one (ps_ret (pe_cmpR op_eq (pe_ix ix_tup (pv 1) pe_int (fun _ _ => rfl)) pe_str (nomark _)))) pss_nil)
      (pss_one (ps_ret (pe_or (pe_cmpR op_le (pe_dget (hu_of hr) (pv 0) pe_str (fun _ _ => rfl)) (pe_dget (hu_of hr) (pv 0) pe_str (fun _ _ => rfl)) (nomark _)) (pe_or (pe_cmpR op_le (pe_dget (hu_of hr) (pv 0) pe_str (fun _ _ => rfl)) (pe_dget (hu_of hr) (pv 0) pe_str (fun _ _ => rfl)) (nomark _)) (pe_one (pe_cmpR op_ge (pe_op op_sub (pv 2) (pe_dget (hu_of hr) (pv 0) pe_str (fun _ _ => rfl))) (pe_ix ix_tup (pv 1) pe_int (fun _ _ => rfl)) (nomark _)))))))), ?_⟩
    have w0 : Ev (tOp (rIxT K) (tVar 1) (tC (.int 0))) [some (.ref d), some (.ref a), some (.int t)] H (.str u.word) := ev_op (ev_var rfl) ev_c (rv_ixT hS (atI_nat (j := 0) rfl))
    have w1 : Ev (tOp (rIxT K) (tVar 1) (tC (.int 1))) [some (.ref d), some (.ref a), some (.int t)] H (.int nn) := ev_op (ev_var rfl) ev_c (rv_ixT hS (atI_nat (j := 1) rfl))
    have dr : ∀ {σ : L2.St}, σ[0]? = some (some (.ref d)) → Ev (tDGet (tVar 0) (tC (.str "read"))) σ H (.int m.rd) := fun h => ev_dget (k := .inr "read") (ev_var h) ev_c hd rfl
    have dw : ∀ {σ : L2.St}, σ[0]? = some (some (.ref d)) → Ev (tDGet (tVar 0) (tC (.str "written"))) σ H (.int m.wr) := fun h => ev_dget (k := .inr "written") (ev_var h) ev_c hd rfl
    have dc : ∀ {σ : L2.St}, σ[0]? = some (some (.ref d)) → Ev (tDGet (tVar 0) (tC (.str "changed"))) σ H (.int m.ch) := fun h => ev_dget (k := .inr "changed") (ev_var h) ev_c hd rfl
    rcases hu with rfl | rfl | rfl
    · exact q_when (et_test (b := true) (ev_op w0 ev_c (rv_ne rfl))) (fun _ H1 e1 => s_ret (ev_op (w0.mono e1) ev_c (rv_eq rfl)) fun H2 e2 => q H2 (e1.trans e2)) fun z => nomatch z
    · exact q_when (et_test (b := true) (ev_op w0 ev_c (rv_ne rfl))) (fun _ H1 e1 => s_ret (ev_op (w0.mono e1) ev_c (rv_eq rfl)) fun H2 e2 => q H2 (e1.trans e2)) fun z => nomatch z
    · refine q_when (et_test (b := false) (ev_op w0 ev_c (rv_ne rfl))) (fun z => nomatch z) fun _ H1 e1 => ?_
      refine s_ret (ev_orV (ev_op ((dr rfl).mono e1) ((dw rfl).mono e1) rv_I0) fun _ => ev_orV (ev_op ((dr rfl).mono e1) ((dc rfl).mono e1) rv_I0) fun _ => ev_op (ev_op (ev_var rfl) ((dr rfl).mono e1) rv_I0) (w1.mono e1) rv_I0) fun H2 e2 => ?_
      have g := q H2 (e1.trans e2)
      rw [show (Ru.seldom nn).sets m t = (decide (m.rd ≤ m.wr) || (decide (m.rd ≤ m.ch) || decide (t - m.rd ≥ nn))) from Bool.or_assoc _ _ _] at g
      exact g
theorem ok__law_backs {f : Addr} {fd : FuncData} (F : Fun K "_law_backs" "_law_backs" s__law_backs f fd) : FnOk P w K mg base CX0 1 f fd ["deed"] (spLBacks K) := by
  refine F.ok sc__law_backs (fun vs H Q E h => ?_) (fun cdv A outer s H vs Q E hr h => ?_)
  · obtain ⟨v, dd, rfl, _⟩ := h
    rfl
  · obtain ⟨v, dd, rfl, ⟨a, rfl, hS⟩, q⟩ := h
    refine ⟨_, (pss_cons (ps_if (pt_cmpR op_in_seq (pe_ix ix_tup (pv 0) pe_int (fun _ _ => rfl)) (pe_tup (pa_cons pe_str (pa_cons pe_str pa_nil))) (by rfl)) (pss_one (ps_ret (pe_disp (pps_cons pe_str pe_int (pps_cons pe_str pe_int (pps_cons pe_str pe_int pps_nil))) (by rfl) (by rfl) (fun z => by cases z) (by decide)))) pss_nil)
      (pss_cons (ps_if (pt_cmpR op_eq (pe_ix ix_tup (pv 0) pe_int (fun _ _ => rfl)) pe_str (nomark _)) (pss_one (ps_ret (pe_disp (pps_cons pe_str pe_int (pps_cons pe_str (pe_ix ix_tup (pv 0) pe_int (fun _ _ => rfl)) (pps_cons pe_str pe_int pps_nil))) (by rfl) (by rfl) (fun z => by cases z) (by decide)))) pss_nil)
      (pss_cons (ps_if (pt_cmpR op_eq (pe_ix ix_tup (pv 0) pe_int (fun _ _ => rfl)) pe_str (nomark _)) (pss_one (ps_ret (pe_disp (pps_cons pe_str (pe_ix ix_tup (pv 0) pe_int (fun _ _ => rfl)) (pps_cons pe_str (pe_ix ix_tup (pv 0) pe_int (fun _ _ => rfl)) (pps_cons pe_str pe_int pps_nil))) (by rfl) (by rfl) (fun z => by cases z) (by decide)))) pss_nil)
      (pss_cons (ps_if (pt_cmpR op_eq (pe_ix ix_tup (pv 0) pe_int (fun _ _ => rfl)) pe_str (nomark _)) (pss_one (ps_ret (pe_disp (pps_cons pe_str pe_int (pps_cons pe_str pe_int pps_nil)) (by rfl) (by rfl) (fun z => by cases z) (by decide)))) pss_nil)
      (pss_one (ps_ret (pe_ifExp (pt_cmpR op_eq (pe_ix ix_tup (pv 0) pe_int (fun _ _ => rfl)) pe_str (nomark _)) (pe_disp (pps_cons pe_str pe_int pps_nil) (by rfl) (by rfl) (fun z => by cases z) (by decide)) pe_dnewK))))))), ?_⟩
    cases dd with
    | make =>
      have w0 : ∀ {Hk : Hp}, Ex H Hk → Ev (tOp (rIxT K) (tVar 0) (tC (.int 0))) [some (.ref a)] Hk (.str "make") := fun {Hk} e => ev_op (ev_var rfl) ev_c (rv_ixT (ex_t e hS) (atI_nat (j := 0) rfl))
      exact q_when (et_test (b := true) (ev_inU (K := K) (w0 (Ex.refl H)) (eu_tup (ea_cons (ev_c (v := .str "make")) (ea_cons (ev_c (v := .str "touch")) ea_nil)) (by decide)) rfl rfl)) (fun _ H1 e1 => s_retK (ek_disp (.cons (k := .inr "read") ev_c ev_c (.cons (k := .inr "written") ev_c ev_c (.cons (k := .inr "changed") ev_c ev_c .nil))) (Nat.le_of_ble_eq_true rfl) rfl) fun p' H' hp e' h' => q p' H' (fresh_back e1 hp) (e1.trans e') h') fun z => nomatch z
    | read =>
      have w0 : ∀ {Hk : Hp}, Ex H Hk → Ev (tOp (rIxT K) (tVar 0) (tC (.int 0))) [some (.ref a)] Hk (.str "read") := fun {Hk} e => ev_op (ev_var rfl) ev_c (rv_ixT (ex_t e hS) (atI_nat (j := 0) rfl))
      refine q_when (et_test (b := false) (ev_inU (K := K) (w0 (Ex.refl H)) (eu_tup (ea_cons (ev_c (v := .str "make")) (ea_cons (ev_c (v := .str "touch")) ea_nil)) (by decide)) rfl rfl)) (fun z => nomatch z) fun _ H1 e1 => ?_
      refine q_when (et_test (b := false) (ev_op (w0 e1) ev_c (rv_eq rfl))) (fun z => nomatch z) fun _ H2 e2 => ?_
      have e2 := e1.trans e2
      refine q_when (et_test (b := false) (ev_op (w0 e2) ev_c (rv_eq rfl))) (fun z => nomatch z) fun _ H3 e3 => ?_
      have e3 := e2.trans e3
      refine q_when (et_test (b := false) (ev_op (w0 e3) ev_c (rv_eq rfl))) (fun z => nomatch z) fun _ H4 e4 => ?_
      have e4 := e3.trans e4
      exact s_retK (ek_if (et_test (b := false) (ev_op (w0 e4) ev_c (rv_eq rfl))) (fun z => nomatch z) fun _ => ek_new) fun p' H' hp e' h' => q p' H' (fresh_back e4 hp) (e4.trans e') h'
    | write =>
      have w0 : ∀ {Hk : Hp}, Ex H Hk → Ev (tOp (rIxT K) (tVar 0) (tC (.int 0))) [some (.ref a)] Hk (.str "write") := fun {Hk} e => ev_op (ev_var rfl) ev_c (rv_ixT (ex_t e hS) (atI_nat (j := 0) rfl))
      refine q_when (et_test (b := false) (ev_inU (K := K) (w0 (Ex.refl H)) (eu_tup (ea_cons (ev_c (v := .str "make")) (ea_cons (ev_c (v := .str "touch")) ea_nil)) (by decide)) rfl rfl)) (fun z => nomatch z) fun _ H1 e1 => ?_
      refine q_when (et_test (b := false) (ev_op (w0 e1) ev_c (rv_eq rfl))) (fun z => nomatch z) fun _ H2 e2 => ?_
      have e2 := e1.trans e2
      refine q_when (et_test (b := false) (ev_op (w0 e2) ev_c (rv_eq rfl))) (fun z => nomatch z) fun _ H3 e3 => ?_
      have e3 := e2.trans e3
      exact q_when (et_test (b := true) (ev_op (w0 e3) ev_c (rv_eq rfl))) (fun _ H4 e4 => s_retK (ek_disp (.cons (k := .inr "written") ev_c ev_c (.cons (k := .inr "changed") ev_c ev_c .nil)) (Nat.le_of_ble_eq_true rfl) rfl) fun p' H' hp e' h' => q p' H' (fresh_back (e3.trans e4) hp) ((e3.trans e4).trans e') h') fun z => nomatch z
    | rename =>
      have w0 : ∀ {Hk : Hp}, Ex H Hk → Ev (tOp (rIxT K) (tVar 0) (tC (.int 0))) [some (.ref a)] Hk (.str "rename") := fun {Hk} e => ev_op (ev_var rfl) ev_c (rv_ixT (ex_t e hS) (atI_nat (j := 0) rfl))
      refine q_when (et_test (b := false) (ev_inU (K := K) (w0 (Ex.refl H)) (eu_tup (ea_cons (ev_c (v := .str "make")) (ea_cons (ev_c (v := .str "touch")) ea_nil)) (by decide)) rfl rfl)) (fun z => nomatch z) fun _ H1 e1 => ?_
      refine q_when (et_test (b := false) (ev_op (w0 e1) ev_c (rv_eq rfl))) (fun z => nomatch z) fun _ H2 e2 => ?_
      have e2 := e1.trans e2
      refine q_when (et_test (b := false) (ev_op (w0 e2) ev_c (rv_eq rfl))) (fun z => nomatch z) fun _ H3 e3 => ?_
      have e3 := e2.trans e3
      refine q_when (et_test (b := false) (ev_op (w0 e3) ev_c (rv_eq rfl))) (fun z => nomatch z) fun _ H4 e4 => ?_
      have e4 := e3.trans e4
      exact s_retK (ek_if (et_test (b := true) (ev_op (w0 e4) ev_c (rv_eq rfl))) (fun _ => ek_disp (.cons (k := .inr "changed") ev_c ev_c .nil) (by decide) rfl) fun z => nomatch z) fun p' H' hp e' h' => q p' H' (fresh_back e4 hp) (e4.trans e') h'
    | touch =>
      have w0 : ∀ {Hk : Hp}, Ex H Hk → Ev (tOp (rIxT K) (tVar 0) (tC (.int 0))) [some (.ref a)] Hk (.str "touch") := fun {Hk} e => ev_op (ev_var rfl) ev_c (rv_ixT (ex_t e hS) (atI_nat (j := 0) rfl))
      exact q_when (et_test (b := true) (ev_inU (K := K) (w0 (Ex.refl H)) (eu_tup (ea_cons (ev_c (v := .str "make")) (ea_cons (ev_c (v := .str "touch")) ea_nil)) (by decide)) rfl rfl)) (fun _ H1 e1 => s_retK (ek_disp (.cons (k := .inr "read") ev_c ev_c (.cons (k := .inr "written") ev_c ev_c (.cons (k := .inr "changed") ev_c ev_c .nil))) (Nat.le_of_ble_eq_true rfl) rfl) fun p' H' hp e' h' => q p' H' (fresh_back e1 hp) (e1.trans e') h') fun z => nomatch z
    | unpack b =>
      have w0 : ∀ {Hk : Hp}, Ex H Hk → Ev (tOp (rIxT K) (tVar 0) (tC (.int 0))) [some (.ref a)] Hk (.str "unpack") := fun {Hk} e => ev_op (ev_var rfl) ev_c (rv_ixT (ex_t e hS) (atI_nat (j := 0) rfl))
      have w1 : ∀ {Hk : Hp}, Ex H Hk → Ev (tOp (rIxT K) (tVar 0) (tC (.int 1))) [some (.ref a)] Hk (.int b) := fun {Hk} e => ev_op (ev_var rfl) ev_c (rv_ixT (ex_t e hS) (atI_nat (j := 1) rfl))
      refine q_when (et_test (b := false) (ev_inU (K := K) (w0 (Ex.refl H)) (eu_tup (ea_cons (ev_c (v := .str "make")) (ea_cons (ev_c (v := .str "touch")) ea_nil)) (by decide)) rfl rfl)) (fun z => nomatch z) fun _ H1 e1 => ?_
      exact q_when (et_test (b := true) (ev_op (w0 e1) ev_c (rv_eq rfl))) (fun _ H2 e2 => s_retK (ek_disp (.cons (k := .inr "read") ev_c ev_c (.cons (k := .inr "written") ev_c (w1 (e1.trans e2)) (.cons (k := .inr "changed") ev_c ev_c .nil))) (Nat.le_of_ble_eq_true rfl) rfl) fun p' H' hp e' h' => q p' H' (fresh_back (e1.trans e2) hp) ((e1.trans e2).trans e') h') fun z => nomatch z
    | setback b =>
      have w0 : ∀ {Hk : Hp}, Ex H Hk → Ev (tOp (rIxT K) (tVar 0) (tC (.int 0))) [some (.ref a)] Hk (.str "setback") := fun {Hk} e => ev_op (ev_var rfl) ev_c (rv_ixT (ex_t e hS) (atI_nat (j := 0) rfl))
      have w1 : ∀ {Hk : Hp}, Ex H Hk → Ev (tOp (rIxT K) (tVar 0) (tC (.int 1))) [some (.ref a)] Hk (.int b) := fun {Hk} e => ev_op (ev_var rfl) ev_c (rv_ixT (ex_t e hS) (atI_nat (j := 1) rfl))
      refine q_when (et_test (b := false) (ev_inU (K := K) (w0 (Ex.refl H)) (eu_tup (ea_cons (ev_c (v := .str "make")) (ea_cons (ev_c (v := .str "touch")) ea_nil)) (by decide)) rfl rfl)) (fun z => nomatch z) fun _ H1 e1 => ?_
      refine q_when (et_test (b := false) (ev_op (w0 e1) ev_c (rv_eq rfl))) (fun z => nomatch z) fun _ H2 e2 => ?_
      have e2 := e1.trans e2
      exact q_when (et_test (b := true) (ev_op (w0 e2) ev_c (rv_eq rfl))) (fun _ H3 e3 => s_retK (ek_disp (.cons (k := .inr "read") ev_c (w1 (e2.trans e3)) (.cons (k := .inr "written") ev_c (w1 (e2.trans e3)) (.cons (k := .inr "changed") ev_c ev_c .nil))) (Nat.le_of_ble_eq_true rfl) rfl) fun p' H' hp e' h' => q p' H' (fresh_back (e2.trans e3) hp) ((e2.trans e3).trans e') h') fun z => nomatch z
theorem ok__law_done {f : Addr} {fd : FuncData} (F : Fun K "_law_done" "_law_done" s__law_done f fd) (B2 : Bl2 mg) (c__law_sets : Fn P w K mg base "_law_sets" ["marks", "row", "at"] CX0 1 (spLSets K)) (c__law_backs : Fn P w K mg base "_law_backs" ["deed"] CX0 1 (spLBacks K)) :
    FnOk P w K mg base CX0 2 f fd ["marks", "row", "deed", "at"] (spLDone K) := by
  refine F.ok sc__law_done (fun vs H Q E h => ?_) (fun cdv A outer s H vs Q E hr h => ?_)
  · obtain ⟨d, vr, v, t, k0, s, nn, dd, rfl, _⟩ := h
    rfl
  · obtain ⟨d, vr, v, t, k0, s, nn, dd, rfl, hd, hrow, hok, hdd, hrd, hl, q⟩ := h
    obtain ⟨da, rfl, hS⟩ := id hdd
    refine ⟨_, (pss_cons (ps_set (i := 4) sc__law_done.nd rfl (Or.inl rfl) (pe_callTy call_dictDK (by rfl) B2.dict_ (by decide +kernel) (pa_cons (pv 0) pa_nil)))
      (pss_cons (ps_set (i := 5) sc__law_done.nd rfl (Or.inl rfl) (pe_fn c__law_backs hr pass0 (pa_cons (pv 2) pa_nil)))
      (Evl.pss_cut (ps_if (PW.pt (pw_and (pt_cmpR op_eq (pe_ix ix_tup (pv 2) pe_int (fun _ _ => rfl)) pe_str (nomark _)) (pw_and1 (pt_val (pe_fn c__law_sets hr pass0 (pa_cons (pv 0) (pa_cons (pv 1) (pa_cons (pv 3) pa_nil)))))))) (pss_one (ps_set (i := 5) sc__law_done.nd rfl (Or.inl rfl) (pe_disp (pps_cons pe_str pe_int pps_nil) (by rfl) (by rfl) (fun z => by cases z) (by decide)))) pss_nil)
      (pss_cons (ps_for PassesOwn.never rfl (pi_keys (pe_frz (pv 5))) (pg_name (i := 6) sc__law_done.nd rfl (Or.inl rfl)) (pss_one (ps_dput (hu_of hr) (pv 4) (pv 6) (pe_op op_sub (pv 3) (pe_dget (hu_of hr) (pv 5) (pv 6) (fun _ _ => rfl))) rfl)))
      (pss_one (ps_ret (pv 4))))))), ?_⟩
    refine q_asgK (kvs := k0) (fun H1 e1 Q' q' => ⟨_, rfl, d, k0, rfl, .inl (e1 _ _ hd), fun p np => q' p _ np (Ex.new np) upd_same⟩) fun pl H1 npl e1 hpl => ?_
    refine q_asgK (kvs := dd.backs.map bkv) (fun H2 e2 Q' q' => ⟨_, rfl, _, dd, rfl, hdd.ex (e1.trans e2), fun p' H3 n3 e3 h3 => q' p' H3 n3 e3 h3⟩) fun q1 H2 n2 e2 h2 => ?_
    have e12 := e1.trans e2
    have plq1 : pl ≠ q1 := fun z => by rw [← z, hpl] at n2; cases n2
    have nq1 : H q1 = none := fresh_back e1 n2
    refine q_cut (M := fun σ' H' => ∃ q2, H q2 = none ∧ pl ≠ q2 ∧ Ex H H' ∧ H' pl = some (.dK k0) ∧ H' q2 = some (.dK ((s.sbs dd t).map bkv)) ∧ σ' = [some (.ref d), some vr, some (.ref da), some (.int t), some (.ref pl), some (.ref q2), none]) ?_ ?_
    · refine s_when (et_and (et_test (ev_is (w := .bl dd.isRead) (ev_op (ev_op (ev_var rfl) ev_c (rv_ixT (ex_t e12 hS) (atI_nat (j := 0) rfl))) ev_c (rv_eq rfl)) (congrArg V.bl (dd_isRead dd)))) fun zr => et_B (b := s.ru.sets s.m t) (ev_call (ea_cons (ev_var rfl) (ea_cons (ev_var rfl) (ea_cons (ev_var rfl) ea_nil))) fun H3 e3 Q' q' E' =>
        ⟨d, vr, t, s.m, s.ru, nn, rfl, by rw [(e12.trans e3) _ _ hd, hrd zr], hrow.ex (e12.trans e3), hok, q'⟩)) (fun hz H3 e3 => ?_) fun hz H3 e3 => ?_
      · refine (ek_disp (.cons (k := .inr "read") ev_c ev_c .nil) (by decide) rfl) H3 (Ex.refl H3) _ fun q2 H4 n4 e4 h4 => ?_
        refine ⟨q2, fresh_back (e12.trans e3) n4, fun z => ?_, (e12.trans e3).trans e4, e4 _ _ (e3 _ _ (e2 _ _ hpl)), ?_, rfl⟩
        · rw [← z, e3 _ _ (e2 _ _ hpl)] at n4; cases n4
        · rw [h4]
          unfold Fl.sbs
          rw [if_pos hz]
          rfl
      · refine ⟨q1, nq1, plq1, e12.trans e3, e3 _ _ (e2 _ _ hpl), ?_, rfl⟩
        rw [e3 _ _ h2]
        unfold Fl.sbs
        rw [if_neg (by rw [hz]; exact Bool.false_ne_true)]
    · rintro σ' H3 ⟨q2, nq2, plq, e3, hp3, hq3, rfl⟩
      generalize hbs : s.sbs dd t = bs at hq3
      have bl : bs.length ≤ 3 := by rw [← hbs]; exact sbs_len s dd t
      refine ⟨_, rfl, q2, _, hq3, trivial, fun od => ⟨q2, od, rfl, .inl ⟨_, upd_same, ?_⟩⟩⟩
      generalize hG : upd H3 q2 (.frz od (.dK (bs.map bkv))) = G
      have gq : G q2 = some (.frz od (.dK (bs.map bkv))) := by rw [← hG]; exact upd_same
      have gk : Kp q2 H3 G := by rw [← hG]; exact kp_upd Kp.refl
      have eG : Ex H G := by rw [← hG]; exact Ex.mut e3 nq2
      refine for_it walk_keys (fun i σ' H' => ∃ y, σ' = [some (.ref d), some vr, some (.ref da), some (.int t), some (.ref pl), some (.ref q2), y] ∧ H' pl = some (.dK (puts t (bs.take i) k0)) ∧ Kp pl G H') ⟨none, rfl, by rw [List.take_zero]; exact gk _ _ plq hp3, Kp.refl⟩ ?_ ?_ ?_
      · rintro i σ' H' _ ⟨y, rfl, h1, h2⟩
        exact h2 _ _ plq.symm gq
      · rintro i x σ' H4 H5 hi ⟨y, rfl, h1, h2⟩ ⟨rfl, k, v, hk, rfl⟩
        rw [List.length_map] at hi
        obtain ⟨⟨mk, bk⟩, hb⟩ : ∃ b, bs[i]? = some b := ⟨_, List.getElem?_eq_getElem hi⟩
        rw [List.getElem?_map, hb] at hk
        obtain ⟨rfl, rfl⟩ : (.inr mk : Key) = k ∧ V.int bk = v := by simpa [bkv] using hk
        have hq4 := h2 _ _ plq.symm gq
        have hv : valV (bs.map bkv) (.inr mk) = some (.int bk) := by rw [← hbs]; exact sbs_val (by rw [hbs]; exact hb)
        refine ⟨_, rfl, _, rfl, _, rfl, q2, _, rfl, .inl ⟨_, .inr mk, .inr ⟨od, hq4⟩, rfl, hv.symm⟩, _, _, rfl, rfl, _, rfl, _, rfl, pl, _, rfl, DPut.k (k := .inr mk) h1 ?_, ?_⟩
        · have h3 := puts_len t (bs.take i) k0
          have h4 : (bs.take i).length ≤ bs.length := by rw [List.length_take]; omega
          exact Nat.lt_of_le_of_lt (show _ ≤ 100 by omega) (by decide : 100 < sizeLine)
        · exact ⟨_, rfl, by rw [upd_same, puts_one t bs i mk bk k0 hb], kp_upd h2⟩
      · rintro σ' H4 ⟨y, rfl, h1, h2⟩
        rw [List.length_map, List.take_length] at h1
        exact ⟨_, rfl, q pl H4 npl (fun b o e => h2 _ _ (fun z => by rw [z, npl] at e; cases e) (eG _ _ e)) (by rw [hbs]; exact h1)⟩
theorem ok__law_latest {f : Addr} {fd : FuncData} (F : Fun K "_law_latest" "_law_latest" s__law_latest f fd) : FnOk P w K mg base CX0 1 f fd ["marks", "looks"] (spLLatest K) := by
  refine F.ok sc__law_latest (fun vs H Q E h => ?_) (fun cdv A outer s H vs Q E hr h => ?_)
  · obtain ⟨d, a, m, ks, rfl, _⟩ := h
    rfl
  · obtain ⟨d, a, m, ks, rfl, hd, hS, hk, q⟩ := h
    obtain ⟨k0, km, kl⟩ := looks_marks ks hk
    refine ⟨_, (pss_cons (ps_set (i := 2) sc__law_latest.nd rfl (Or.inl rfl) (pe_dget (hu_of hr) (pv 0) (pe_ix ix_tup (pv 1) pe_int (fun _ _ => rfl)) (fun _ _ => rfl)))
      (pss_cons (ps_for PassesOwn.never rfl (pi_tup (pv 1)) (pg_name (i := 3) sc__law_latest.nd rfl (Or.inl rfl)) (pss_one (ps_if (pt_cmpR op_gt (pe_dget (hu_of hr) (pv 0) (pv 3) (fun _ _ => rfl)) (pv 2) (nomark _)) (pss_one (ps_set (i := 2) sc__law_latest.nd rfl (Or.inl rfl) (pe_dget (hu_of hr) (pv 0) (pv 3) (fun _ _ => rfl)))) pss_nil)))
      (pss_one (ps_ret (pv 2))))), ?_⟩
    obtain ⟨k1, kr, rfl⟩ : ∃ k1 kr, ks = k1 :: kr := by
      cases ks with
      | nil => exact absurd rfl k0
      | cons a b => exact ⟨a, b, rfl⟩
    have gt : ∀ {Hk : Hp} {σ : L2.St} {i : Nat} {k : Str}, Ex H Hk → σ[0]? = some (some (.ref d)) → σ[i]? = some (some (.str k)) → k ∈ k1 :: kr → Ev (tDGet (tVar 0) (tVar i)) σ Hk (.int (m.get k)) := fun {Hk σ i k} e h0 hi hm => ev_dget (k := .inr k) (ev_var h0) (ev_var hi) (e _ _ hd) (tab_get (km k hm))
    refine Ag.q_asg (v := .int (m.get k1)) (ev_dget (k := .inr k1) (ev_var rfl) (ev_op (ev_var rfl) ev_c (rv_ixT hS (atI_nat (j := 0) rfl))) hd (tab_get (km k1 List.mem_cons_self))) fun H1 e1 => ?_
    refine q_forT (K := K) (a := a) (xs := (k1 :: kr).map V.str) (ev_var rfl) (ex_t e1 hS) (fun i σ' H' => ∃ x y, σ' = [some (.ref d), some (.ref a), some (.int x), y] ∧ Ex H H' ∧ (∃ k ∈ k1 :: kr, x = m.get k) ∧ ∀ k ∈ (k1 :: kr).take i, m.get k ≤ x) (fun H2 e2 => ⟨_, _, rfl, e1.trans e2, ⟨k1, List.mem_cons_self, rfl⟩, fun k z => by simp at z⟩) (fun i σ' H' _ ⟨x, y, _, e, _⟩ => ex_t e hS) ?_ ?_
    · rintro i x σ' H2 hx ⟨z, y, rfl, e2, hz, hle⟩
      rw [List.getElem?_map] at hx
      obtain ⟨k, hk', rfl⟩ : ∃ k, (k1 :: kr)[i]? = some k ∧ x = V.str k := by
        cases z : (k1 :: kr)[i]? with
        | none => rw [z] at hx; cases hx
        | some k => rw [z] at hx; exact ⟨k, rfl, (Option.some.inj hx).symm⟩
      have hm := List.mem_of_getElem? hk'
      have tk : (k1 :: kr).take (i + 1) = (k1 :: kr).take i ++ [k] := by rw [List.take_succ, hk']; rfl
      refine s_when (et_test (ev_op (gt e2 rfl rfl hm) (ev_var rfl) rv_I0)) (fun hb H3 e3 => ?_) fun hb H3 e3 => ?_
      · have hlt : z < m.get k := of_decide_eq_true hb
        refine s_asg (gt (e2.trans e3) rfl rfl hm) fun H4 e4 => ⟨_, _, rfl, (e2.trans e3).trans e4, ⟨k, hm, rfl⟩, fun k' hk2 => ?_⟩
        rw [tk] at hk2
        rcases List.mem_append.mp hk2 with h | h
        · have := hle k' h; omega
        · rw [List.mem_singleton.mp h]; exact Int.le_refl _
      · have hlt : ¬ z < m.get k := of_decide_eq_false hb
        refine ⟨_, _, rfl, e2.trans e3, hz, fun k' hk2 => ?_⟩
        rw [tk] at hk2
        rcases List.mem_append.mp hk2 with h | h
        · exact hle k' h
        · rw [List.mem_singleton.mp h]; omega
    · rintro σ' H2 ⟨z, y, rfl, e2, hz, hle⟩
      rw [List.length_map, List.take_length] at hle
      exact ⟨_, rfl, q z H2 ⟨hz, hle⟩ e2⟩
end
end Ag
namespace Ag
open PySem PySem.Spec PyProof.Rows L2 Evl
/-! ### k08: what is told of a file -/
theorem tabEq (m : Mk3) : ((tab m).length == (tab m).length && eqK (tab m) (tab m)) = true := by
  show (_ && ((m.rd == m.rd) && ((m.wr == m.wr) && ((m.ch == m.ch) && true)))) = true
  simp
theorem eqB_rule {s s' : Fl} (h : PyData.eqv s.ru.data s'.ru.data = false) : s.eqB s' = false := if_pos (by rw [h]; rfl)
theorem eqB_last {s s' : Fl} (h : s.last ≠ s'.last) : s.eqB s' = false := by
  unfold Fl.eqB
  rw [decide_eq_false (fun z => h (V.int.inj z)), Bool.and_false]
  split <;> rfl
theorem sbs_sh (s : Fl) (d : Dd) (n : Int) : SeqAt.shaped (nmD (s.sbs d n)) = true := by
  unfold Fl.sbs
  split
  · kernel_rfl
  · cases d <;> kernel_rfl
section
variable {K : PySem.W.Frag} {mg : Str → Option Value} {C CR CF CMk : Addr} {σ : L2.St} {H : Hp} {ta tb tc te : TE} {E : XK} {f d r g dg rg q a b p : Addr} {s s' : Fl} {u : Ru} {n t : Int} {dd : Dd} {ks ls : List (Key × V)}
theorem ev_neKN (h1 : EvK ta σ H ks) (h2 : Ev tb σ H (.ref b)) (hb : H b = some (.dK ls)) (f1 : ∀ p ∈ ks, flatV p.2 = true) (f2 : ∀ p ∈ ls, flatV p.2 = true) : Ev (tOp rNeK ta tb) σ H (.bl (!(ks.length == ls.length && eqK ls ks))) := fun H1 e Q k =>
  h1 H1 e _ fun p H2 np e2 hp => h2 H2 (e.trans e2) (fun y H3 => rNeK (.ref p) y H3 Q) fun H3 e3 => ⟨p, b, ks, ls, rfl, rfl, e3 _ _ hp, e3 _ _ (e2 _ _ (e _ _ hb)), f1, f2, k H3 (e2.trans e3)⟩
theorem ev_eqKN (h1 : EvK ta σ H ks) (h2 : Ev tb σ H (.ref b)) (hb : H b = some (.dK ls)) (f1 : ∀ p ∈ ks, flatV p.2 = true) (f2 : ∀ p ∈ ls, flatV p.2 = true) : Ev (tOp rEqK ta tb) σ H (.bl (ks.length == ls.length && eqK ls ks)) := fun H1 e Q k =>
  h1 H1 e _ fun p H2 np e2 hp => h2 H2 (e.trans e2) (fun y H3 => rEqK (.ref p) y H3 Q) fun H3 e3 => ⟨p, b, ks, ls, rfl, rfl, e3 _ _ hp, e3 _ _ (e2 _ _ (e _ _ hb)), f1, f2, k H3 (e2.trans e3)⟩
theorem ek_marks (ha : Ev ta σ H (.ref f)) (hf : FlAt CF CR H f d r s) : EvK (tMeth CF "marks" (spFiMarks CR CF) [] E ta tNil) σ H (tab s.m) := fun H1 e Q k =>
  ha H1 e _ fun H2 e2 => by
    obtain ⟨⟨dx, h1⟩, _⟩ := id (hf.ex (e.trans e2))
    exact ⟨f, dx, _, rfl, h1, fi_no, f, d, r, s, rfl, hf.ex (e.trans e2), fun p H3 np e3 hp => k p H3 (fresh_back e2 np) (e2.trans e3) hp⟩
theorem el_listK (h : EvK te σ H ks) : EvL (tCB rListDK (tCons te tNil)) σ H (ks.map fun kv => kV kv.1) := fun H1 e Q k =>
  h H1 e _ fun p H2 np e2 hp => ⟨p, ks, rfl, .inl hp, fun l nl => k l _ (fresh_back e2 nl) (e2.trans (Ex.new nl)) upd_same⟩
theorem el_listV (h : Ev te σ H (.ref q)) (hq : H q = some (.dK ks)) : EvL (tCB rListDK (tCons te tNil)) σ H (ks.map fun kv => kV kv.1) := fun H1 e Q k =>
  h H1 e _ fun H2 e2 => ⟨q, ks, rfl, .inl (e2 _ _ (e _ _ hq)), fun l nl => k l _ (fresh_back e2 nl) (e2.trans (Ex.new nl)) upd_same⟩
theorem ev_eqF (TF : FiTxt K mg CF CMk) (h1 : Ev ta σ H (.ref f)) (h2 : Ev tb σ H (.ref g)) (hf : FlAt CF CR H f d r s) (hg : FlAt CF CR H g dg rg s') : Ev (tOp (rOwnC K CF (spFiEq CR CF) E) ta tb) σ H (.bl (s.eqB s')) := fun H1 e Q k =>
  h1 H1 e _ fun H2 e2 => h2 H2 (e.trans e2) (fun y H3 => rOwnC K CF (spFiEq CR CF) E (.ref f) y H3 Q) fun H3 e3 => by
    have e13 := e.trans (e2.trans e3)
    obtain ⟨⟨dx, hf'⟩, _⟩ := id (hf.ex e13)
    exact ⟨f, dx, _, _, rfl, hf', (hg.ex e13).ty TF, nf_self _ _, f, d, r, g, dg, rg, s, s', rfl, hf.ex e13, hg.ex e13, fun H4 e4 => k H4 ((e2.trans e3).trans e4)⟩
theorem ev_eqFP (TF : FiTxt K mg CF CMk) (h1 : Ev ta σ H (.ref f)) (hf : FlAt CF CR H f d r s) (h2 : EvP tb σ H (fun v H2 => ∃ g dg rg, v = .ref g ∧ H g = none ∧ H dg = none ∧ FlAt CF CR H2 g dg rg s')) : Ev (tOp (rOwnC K CF (spFiEq CR CF) E) ta tb) σ H (.bl (s.eqB s')) := fun H1 e Q k =>
  h1 H1 e _ fun H2 e2 => h2 H2 (e.trans e2) (fun y H3 => rOwnC K CF (spFiEq CR CF) E (.ref f) y H3 Q) fun v H3 e3 ⟨g, dg, rg, ev, _, _, hg⟩ => by
    subst ev
    have e13 := e.trans (e2.trans e3)
    obtain ⟨⟨dx, hf'⟩, _⟩ := id (hf.ex e13)
    exact ⟨f, dx, _, _, rfl, hf', hg.ty TF, nf_self _ _, f, d, r, g, dg, rg, s, s', rfl, hf.ex e13, hg, fun H4 e4 => k H4 ((e2.trans e3).trans e4)⟩
theorem et_lat {m : Mk3} {kk : List Str} (h1 : EvP ta σ H (fun v _ => ∃ x, v = .int x ∧ IsLatest m kk x)) (h2 : EvP tb σ H (fun v _ => ∃ x, v = .int x ∧ IsLatest m kk x)) : EvT (tTest (tOp rNe ta tb)) σ H false := fun H1 e Q k =>
  h1 H1 e _ fun v H2 e2 ⟨x, ex, hx⟩ => h2 H2 (e.trans e2) (fun y H3 => rNe v y H3 fun z H4 => ∃ b, z = .bl b ∧ Q b H4) fun v' H3 e3 ⟨y, ey, hy⟩ => by
    subst ex ey
    obtain rfl := hx.one hy
    exact ⟨rfl, false, by rw [decide_eq_true rfl]; rfl, k H3 (e2.trans e3)⟩
theorem ets_nil : EvPs tNil σ H (fun vs H2 => TsAll H2 vs []) := fun H1 _ _ k => k [] H1 (Ex.refl H1) .nil
theorem ets_cons {tas : TA} {kk : List Str} {kss : List (List Str)} (h : EvU te σ H (kk.map V.str)) (hs : EvPs tas σ H (fun vs H2 => TsAll H2 vs kss)) : EvPs (tCons te tas) σ H (fun vs H2 => TsAll H2 vs (kk :: kss)) := fun H1 e _ k =>
  h H1 e _ fun p H2 np e2 hp => hs H2 (e.trans e2) _ fun vs H3 e3 ts => k _ H3 (e2.trans e3) (.cons (e3 _ _ hp) ts)
theorem evl_ts {tas : TA} {kss : List (List Str)} (h : EvPs tas σ H (fun vs H2 => TsAll H2 vs kss)) (hl : kss.length ≤ 1000) : EvP (tLst tas) σ H (fun v H2 => ∃ l xs, v = .ref l ∧ H2 l = some (.lst xs) ∧ TsAll H2 xs kss) := fun H1 e _ k =>
  h H1 e _ fun vs H2 e2 ts => ⟨Nat.le_trans (by rw [ts.len]; exact hl) (by decide), fun l nl => k _ _ (e2.trans (Ex.new nl)) ⟨l, vs, rfl, upd_same, ts.ex (Ex.new nl)⟩⟩
theorem q_forTs {tl : TE} {j : Nat} {tbd uu : TS} {D : Ends} {kss : List (List Str)} (R : L2.St → Prop) (h : EvP tl σ H (fun v H2 => ∃ l xs, v = .ref l ∧ H2 l = some (.lst xs) ∧ TsAll H2 xs kss)) (h0 : R σ)
    (hs : ∀ H1 (tt : Addr) (kk : List Str) σ' H', Ex H H1 → Ex H1 H' → kk ∈ kss → R σ' → H' tt = some (.tup (kk.map V.str)) → tbd { D with nx := fun σ2 H2 => Ex H1 H2 ∧ R σ2, ct := fun σ2 H2 => Ex H1 H2 ∧ R σ2, bk := uu D } (σ'.set j (some (.ref tt))) H')
    (hd : ∀ H1 σ' H', Ex H H1 → Ex H1 H' → R σ' → uu D σ' H') : tSeq (tFor (iList K tl) (gName j) tbd) uu D σ H :=
  h H (Ex.refl H) _ fun v H1 e1 ⟨l, xs, ev, hl, ts⟩ => by
    subst ev
    refine ⟨l, rfl, ⟨xs, sq_of hl⟩, ?_⟩
    refine for_list (K := K) (xs := xs) (D := { D with nx := uu D }) (fun i σ' H' => Ex H1 H' ∧ R σ') ⟨Ex.refl H1, h0⟩ (fun i σ' H' _ h => sq_of (h.1 _ _ hl)) (fun i x σ' H' hx h => ?_) fun σ' H' h => hd H1 σ' H' e1 h.1 h.2
    obtain ⟨tt, kk, rfl, hk, ht⟩ := ts.at hx
    exact hs H1 tt kk σ' H' e1 h.1 (List.mem_of_getElem? hk) h.2 (h.1 _ _ ht)
/-- [at, Moment(at)][_law_draw(source, 2)] -/
theorem rd_at {E' : XK} {Q : VK} (src : Src H p) (h3 : σ[3]? = some (some (.int t))) (hp : σ[1]? = some (some (.ref p))) (far : Far t) (k : ∀ v H', AtIs C H' v t → Src H' p → Kp p H H' → Q v H') :
    tOp (rIxL K) (tLst (tCons (tVar 3) (tCons (tMake C (spMoInit C) [] E (tCons (tVar 3) tNil)) tNil))) (tCall spDraw [] E' (tCons (tVar 1) (tCons (tC (.int 2)) tNil))) σ H Q := by
  refine ⟨_, h3, _, h3, fun x dx nx nd ne => ?_⟩
  have hm := made_mo (C := C) (n := t) nx nd
  refine ⟨x, dx, t, rfl, upd_same, far, rfl, (by decide : 2 ≤ sizeLine), fun l nl => ?_⟩
  generalize upd (upd (upd H dx (.own x)) x (.ins C dx [])) x (.ins C dx [("own_seconds", .int t)]) = G at hm nl ⊢
  have eG : Ex H G := hm.1
  have srcG := src.ex eG
  have el := Ex.new (o := .lst [.int t, .ref x]) nl
  refine ⟨_, hp, p, 2, rfl, srcG.ex el, by decide, by decide, fun r0 H1 h0 h1 src1 k1 => ?_⟩
  have kk : Kp p H H1 := (Kp.same (eG.trans el)).trans k1
  have hl : H1 l = some (.lst [.int t, .ref x]) := k1 _ _ (src_ne nl srcG) upd_same
  have : r0 = 0 ∨ r0 = 1 := by omega
  rcases this with rfl | rfl
  · exact ⟨l, _, 0, _, rfl, rfl, SqL.of hl, atI_nat (j := 0) rfl, k _ H1 (.inl ⟨rfl, far⟩) src1 kk⟩
  · have hx := hm.2.same el
    exact ⟨l, _, 1, _, rfl, rfl, SqL.of hl, atI_nat (j := 1) rfl, k _ H1 (.inr ⟨x, rfl, hx.kp k1 (hx.ne (srcG.ex el))⟩) src1 kk⟩
end
structure Bnd (m : Mk3) (t : Int) : Prop where
  r1 : -(10 ^ 21) ≤ m.rd
  r2 : m.rd ≤ t
  w1 : -(10 ^ 21) ≤ m.wr
  w2 : m.wr ≤ t
  c1 : -(10 ^ 21) ≤ m.ch
  c2 : m.ch ≤ t
theorem Bnd.app {m : Mk3} {t t' : Int} (h : Bnd m t) (dd : Dd) (ok : dd.Ok) (lo : -(10 ^ 20) ≤ t') (lt : t ≤ t') : Bnd (dd.app m t') t' := by
  obtain ⟨r1, r2, w1, w2, c1, c2⟩ := h
  have e9 : (10 : Int) ^ 9 = 1000000000 := by decide
  have e20 : (10 : Int) ^ 20 = 100000000000000000000 := by decide
  have e21 : (10 : Int) ^ 21 = 1000000000000000000000 := by decide
  cases dd with
  | unpack b => obtain ⟨b1, b2⟩ := ok; refine ⟨?_, ?_, ?_, ?_, ?_, ?_⟩ <;> simp only [Dd.app] <;> omega
  | setback b => obtain ⟨b1, b2⟩ := ok; refine ⟨?_, ?_, ?_, ?_, ?_, ?_⟩ <;> simp only [Dd.app] <;> omega
  | _ => refine ⟨?_, ?_, ?_, ?_, ?_, ?_⟩ <;> simp only [Dd.app] <;> omega
theorem Bnd.step {s : Fl} {t t' : Int} (h : Bnd s.m t) (dd : Dd) (ok : dd.Ok) (lo : -(10 ^ 20) ≤ t') (lt : t ≤ t') : Bnd (s.does dd t').m t' := by
  show Bnd (s.mAft dd t') t'
  unfold Fl.mAft
  split
  · obtain ⟨r1, r2, w1, w2, c1, c2⟩ := h
    have e20 : (10 : Int) ^ 20 = 100000000000000000000 := by decide
    have e21 : (10 : Int) ^ 21 = 1000000000000000000000 := by decide
    exact ⟨by show _ ≤ t' - 0; omega, by show t' - 0 ≤ t'; omega, w1, by show s.m.wr ≤ t'; omega, c1, by show s.m.ch ≤ t'; omega⟩
  · exact h.app dd ok lo lt
theorem Bnd.new {t : Int} (dd : Dd) (ok : dd.Ok) (mk : dd.makes = true) (lo : -(10 ^ 20) ≤ t) : Bnd (dd.app ⟨0, 0, 0⟩ t) t := by
  have e9 : (10 : Int) ^ 9 = 1000000000 := by decide
  have e20 : (10 : Int) ^ 20 = 100000000000000000000 := by decide
  have e21 : (10 : Int) ^ 21 = 1000000000000000000000 := by decide
  cases dd with
  | make => refine ⟨?_, ?_, ?_, ?_, ?_, ?_⟩ <;> simp only [Dd.app] <;> omega
  | unpack b => obtain ⟨b1, b2⟩ := ok; refine ⟨?_, ?_, ?_, ?_, ?_, ?_⟩ <;> simp only [Dd.app] <;> omega
  | _ => cases mk
theorem Bnd.far {m : Mk3} {t : Int} (h : Bnd m t) (hi : t ≤ 10 ^ 21) (k : Str) : Far (m.get k) := by
  obtain ⟨r1, r2, w1, w2, c1, c2⟩ := h
  have e21 : (10 : Int) ^ 21 = 1000000000000000000000 := by decide
  have e30 : (10 : Int) ^ 30 = 1000000000000000000000000000000 := by decide
  unfold Mk3.get
  split
  · exact ⟨by omega, by omega⟩
  · split
    · exact ⟨by omega, by omega⟩
    · exact ⟨by omega, by omega⟩
def looksL : List (List Str) := [["read"], ["written"], ["changed"], ["read", "written"], ["written", "changed"], ["read", "changed"], ["read", "written", "changed"]]
theorem looksL_in : ∀ kk ∈ looksL, kk ∈ looks7 := by decide +kernel
def spLIs (CR CF : Addr) : Sp := fun vs H Q _ => ∃ (f d r q : Addr) (s : Fl), vs = [.ref f, .ref q, .int s.last] ∧ FlAt CF CR H f d r s ∧ H q = some (.dK (tab s.m)) ∧ s.held = false ∧ (∀ k, Far (s.m.get k)) ∧ RetV (.bl true) H Q
def spLUnlike (K : PySem.W.Frag) : Sp := fun vs H Q _ => ∃ (vr : V) (u : Ru) (nn t : Int), vs = [vr, .int t] ∧ RowAt K H vr u nn ∧ 1 ≤ nn ∧ nn ≤ 2000 ∧ Far t ∧ RetV (.bl true) H Q
section
variable {P : Program} {w : World} {K : PySem.W.Frag} {mg : Str → Option Value} {base : Heap} {C CR CF CMk pP pM : Addr}
theorem ok__law_is {f : Addr} {fd : FuncData} (F : Fun K "_law_is" "_law_is" s__law_is f fd) (B : Bl mg) (B2 : Bl2 mg) (T : MoTxt K mg C) (noI : PySem.W.kitOne K (.ref C) (.type "int") = some false) (TF : FiTxt K mg CF CMk)
    (c_File_marks : Mt P w K mg base CF "marks" ["self"] CX0 1 (spFiMarks CR CF)) (c_File_last : Pr P w K mg base CF "last" ["self"] CX0 1 (spFiLast CR CF)) (c_File_held : Pr P w K mg base CF "held" ["self"] CX0 1 (spFiHeld CR CF)) (c_File_latest : Mt P w K mg base CF "latest" ["self", "looks"] CX0 3 (spFiLatest K CR CF))
    (c__law_latest : Fn P w K mg base "_law_latest" ["marks", "looks"] CX0 1 (spLLatest K)) (c_File___getitem__ : Mt P w K mg base CF "__getitem__" ["self", "mark"] CX0 5 (spFiItem C CR CF)) (c_Moment : Nw P w K mg base "Moment" C ["self", "seconds"] CX0 3 (spMoInit C))
    (c_Moment___eq__ : Mt P w K mg base C "__eq__" ["self", "other"] CX0 3 (spMoEq K C)) : FnOk P w K mg base CX0 8 f fd ["file", "marks", "last"] (spLIs CR CF) := by
  refine F.ok sc__law_is (fun vs H Q E h => ?_) (fun cdv A outer s H vs Q E hr h => ?_)
  · obtain ⟨f, d, r, q, s, rfl, _⟩ := h
    rfl
  · obtain ⟨f, d, r, q, s, rfl, hf, hq, hh, hfar, qq⟩ := h
    obtain ⟨⟨dx, hf'⟩, _⟩ := id hf
    refine ⟨_, (pss_cons (ps_if (PW.pt (pw_or (pt_cmpR (op_neK hr.units0) (pe_mt0 TF.cl c_File_marks hr pass0 (pv 0)) (pv 1) (nomark _)) (pw_or1 (pt_cmpR (op_neD hr.units) (pe_callTy (call_listDK rfl) (by rfl) B2.list_ (by decide +kernel) (pa_cons (pe_mt0 TF.cl c_File_marks hr pass0 (pv 0)) pa_nil)) (pe_lst (pa_cons pe_str (pa_cons pe_str (pa_cons pe_str pa_nil)))) (nomark _))))) (pss_one (ps_ret pe_bl)) pss_nil)
      (pss_cons (ps_if (PW.pt (pw_or (pt_cmpR op_ne (pe_pr TF.cl c_File_last hr pass0 (pv 0)) (pv 2) (nomark _)) (pw_or (pt_cmpR op_isnot_bl (pe_pr TF.cl c_File_held hr pass0 (pv 0)) pe_bl (nomark _)) (pw_or1 (pt_val (pe_callB call_isi (by rfl) B.isinstance_ (by decide +kernel) (pa_cons (pe_oix c_File___getitem__ TF.fi hr pass0 (pv 0) pe_str) (pa_cons (pe_ty "int" (by rfl) B.int_ (by decide +kernel)) pa_nil)))))))) (pss_one (ps_ret pe_bl)) pss_nil)
      (pss_cons (ps_for PassesOwn.never rfl (pi_list (pe_lst (pa_cons (pe_tup (pa_cons pe_str pa_nil)) (pa_cons (pe_tup (pa_cons pe_str pa_nil)) (pa_cons (pe_tup (pa_cons pe_str pa_nil)) (pa_cons (pe_tup (pa_cons pe_str (pa_cons pe_str pa_nil))) (pa_cons (pe_tup (pa_cons pe_str (pa_cons pe_str pa_nil))) (pa_cons (pe_tup (pa_cons pe_str (pa_cons pe_str pa_nil))) (pa_cons (pe_tup (pa_cons pe_str (pa_cons pe_str (pa_cons pe_str pa_nil)))) pa_nil))))))))) (pg_name (i := 3) sc__law_is.nd rfl (Or.inl rfl)) (pss_one (ps_if (pt_cmpR op_ne (pe_mt TF.cl c_File_latest hr pass0 (pv 0) (pa_cons (pv 3) pa_nil)) (pe_fn c__law_latest hr pass0 (pa_cons (pv 1) (pa_cons (pv 3) pa_nil))) (nomark _)) (pss_one (ps_ret pe_bl)) pss_nil)))
      (pss_one (ps_ret (pe_cmpR (op_eqD hr.units) (pe_lc (own := [("mark", 4)]) (te := tOp (rOwnC K C (spMoEq K C) E0) (tOp (rOwnIx CF (spFiItem C CR CF) E0) (tVar 0) (tVar 4)) (tMake C (spMoInit C) [] E0 (tCons (tDGet (tVar 1) (tVar 4)) tNil))) (by rfl) sc__law_is.nd (pi_list (pe_callTy (call_listDK rfl) (by rfl) B2.list_ (by decide +kernel) (pa_cons (pv 1) pa_nil))) (blkOk_by (own := [("mark", 4)]) (N := ["file", "marks", "last", "looks", "mark"]) (sc := defScope s__law_is) (by decide +kernel)) (fun _ _ _ _ _ => (pg_name (i := 4) sc__law_is.nd rfl (Or.inl rfl))) (fun _ _ _ _ _ => pts_nil) (fun _ _ _ _ _ => (pe_cmpR (op_cmpC (op := .Eq) c_Moment___eq__ hr pass0) (pe_oix c_File___getitem__ TF.fi hr pass0 (pv 0) (pv 4)) (pe_nw c_Moment hr pass0 (pa_cons (pe_dget (hu_of hr) (pv 1) (pv 4) (fun _ _ => rfl)) pa_nil)) (nomark _)))) (pe_lst (pa_cons pe_bl (pa_cons pe_bl (pa_cons pe_bl pa_nil)))) (nomark _))))))), ?_⟩
    refine q_ifF (et_or (et_test (ev_neKN (ek_marks (ev_var rfl) hf) (ev_var rfl) hq (tab_flat _) (tab_flat _))) fun _ => et_test (ev_neS (K := K) (d := .list [.str "read", .str "written", .str "changed"]) (ed_L (el_listK (ek_marks (ev_var rfl) hf)) fun H2 => .cons (.str _) (.cons (.str _) (.cons (.str _) .nil))) (ed_lst (eds_cons (ed_str ev_c) (eds_cons (ed_str ev_c) (eds_cons (ed_str ev_c) eds_nil)))) (by kernel_rfl))) (by rw [tabEq]; rfl) fun H1 e1 => ?_
    have hf1 := hf.ex e1
    refine q_ifF (et_or (et_test (ev_op (ev_propP (v := .int s.last) (ev_var rfl) (e1 _ _ hf') fun H2 e2 Q' q' => ⟨f, d, r, s, rfl, hf1.ex e2, q' H2 (Ex.refl H2)⟩) (ev_var rfl) (rv_ne rfl))) fun _ => et_or (et_test (ev_isnB (ev_propP (v := .bl s.held) (ev_var rfl) (e1 _ _ hf') fun H2 e2 Q' q' => ⟨f, d, r, s, rfl, hf1.ex e2, q' H2 (Ex.refl H2)⟩) ev_c)) fun _ =>
      et_B (b := false) (ev_isi ((evm_item (C := C) (x := s.m.get "read") (ev_var rfl) ev_c hf1 (by decide) rfl (hfar "read")).imp fun v H2 _ ⟨a, ea, ha⟩ => by subst ea; exact ha.ty T) ev_c (.ty _) noI)) (by rw [hh]; simp) fun H2 e2 => ?_
    have e12 := e1.trans e2
    refine q_forTs (kss := looksL) (fun σ' => ∃ y3 y4, σ' = [some (.ref f), some (.ref q), some (.int s.last), y3, y4]) (evl_ts (ets_cons (kk := ["read"]) (eu_tup (ea_cons ev_c ea_nil) (by decide)) (ets_cons (kk := ["written"]) (eu_tup (ea_cons ev_c ea_nil) (by decide)) (ets_cons (kk := ["changed"]) (eu_tup (ea_cons ev_c ea_nil) (by decide)) (ets_cons (kk := ["read", "written"]) (eu_tup (ea_cons ev_c (ea_cons ev_c ea_nil)) (by decide))
      (ets_cons (kk := ["written", "changed"]) (eu_tup (ea_cons ev_c (ea_cons ev_c ea_nil)) (by decide)) (ets_cons (kk := ["read", "changed"]) (eu_tup (ea_cons ev_c (ea_cons ev_c ea_nil)) (by decide)) (ets_cons (kk := ["read", "written", "changed"]) (eu_tup (ea_cons ev_c (ea_cons ev_c (ea_cons ev_c ea_nil))) (by decide)) ets_nil))))))) (by decide)) ⟨_, _, rfl⟩ ?_ ?_
    · rintro G1 tt kk σ' H3 eg e3 hk ⟨y3, y4, rfl⟩ ht
      have e03 := (e12.trans eg).trans e3
      refine s_when (et_lat (m := s.m) (kk := kk) (evp_meth (ev_var rfl) (e03 _ _ hf') fi_no (ea_cons (ev_var rfl) ea_nil) fun H4 e4 Q' q' => ⟨f, d, r, tt, s, kk, rfl, hf.ex (e03.trans e4), st_of (e4 _ _ ht), looksL_in kk hk, fun x H5 hx e5 => q' _ H5 e5 ⟨x, rfl, hx⟩⟩)
        (evp_call (ea_cons (ev_var rfl) (ea_cons (ev_var rfl) ea_nil)) fun H4 e4 Q' q' => ⟨q, tt, s.m, kk, rfl, (e03.trans e4) _ _ hq, st_of (e4 _ _ ht), looksL_in kk hk, fun x H5 hx e5 => q' _ H5 e5 ⟨x, rfl, hx⟩⟩)) (fun z => nomatch z) fun _ H4 e4 => ⟨e3.trans e4, _, _, rfl⟩
    · rintro G1 σ' H3 eg e3 ⟨y3, y4, rfl⟩
      have e03 := (e12.trans eg).trans e3
      refine s_ret (v := .bl true) (ev_is (ev_eqD (K := K) (d := .list [.bool true, .bool true, .bool true]) (d' := .list [.bool true, .bool true, .bool true]) (ed_L (el_lcNL (K := K) (xs := [.str "read", .str "written", .str "changed"]) (fun _ => true) (fun _ => .bl true) (el_listV (ev_var rfl) (e03 _ _ hq)) (by decide) (fun _ => rfl) (fun i x H4 e4 hx => et_yes) fun i x H4 e4 hx _ => ?_) fun H4 => .cons (.bl true) (.cons (.bl true) (.cons (.bl true) .nil)))
        (ed_lst (eds_cons (ed_bl ev_c) (eds_cons (ed_bl ev_c) (eds_cons (ed_bl ev_c) eds_nil)))) (by kernel_rfl) (by kernel_rfl)) (by kernel_rfl)) fun H4 e4 => qq H4 (e03.trans e4)
      obtain ⟨k, hk, rfl⟩ : ∃ k, k ∈ marksS ∧ x = V.str k := match i, hx with
        | 0, hx => ⟨_, by decide, (Option.some.inj hx).symm⟩
        | 1, hx => ⟨_, by decide, (Option.some.inj hx).symm⟩
        | 2, hx => ⟨_, by decide, (Option.some.inj hx).symm⟩
      have hin : inV (.str k) marksV = true := by
        simp only [marksS, List.mem_cons, List.not_mem_nil, or_false] at hk
        rcases hk with rfl | rfl | rfl <;> decide
      have e04 := e03.trans e4
      exact ev_is (ev_eqM T (evm_item (C := C) (x := s.m.get k) (ev_var rfl) (ev_var rfl) (hf.ex e04) hin (tab_get hk) (hfar k)) (evm_make (ev_dget (k := .inr k) (ev_var rfl) (ev_var rfl) (e04 _ _ hq) (tab_get hk)) (hfar k))) (by rw [decide_eq_true rfl])
end
end Ag
namespace Ag
open PySem PySem.Spec PyProof.Rows L2 Evl
section
variable {P : Program} {w : World} {K : PySem.W.Frag} {mg : Str → Option Value} {base : Heap} {C CR CF CMk pP pM : Addr}
theorem lc_yes {te : TE} {σ : L2.St} {H : Hp} {Q : VK} {R : Hp → Prop} (h : te σ H Q) : tYes σ H (fun b H3 => if b = true then te σ H3 Q else R H3) := by
  show if true = true then te σ H Q else R H
  rw [if_pos rfl]
  exact h
theorem FlAt.list {H : Hp} {f d r D : Addr} {s : Fl} {xs ys : List V} (h : FlAt CF CR H f d r s) (hD : H D = some (.lst xs)) : FlAt CF CR (upd H D (.lst ys)) f d r s := by
  obtain ⟨⟨dx, h1⟩, h2, ⟨dy, h3⟩⟩ := h
  exact ⟨⟨dx, by rw [upd_ne (ne_of h1 hD (fun z => nomatch z))]; exact h1⟩, by rw [upd_ne (ne_of h2 hD (fun z => nomatch z))]; exact h2, ⟨dy, by rw [upd_ne (ne_of h3 hD (fun z => nomatch z))]; exact h3⟩⟩
def u3 (nn : Int) : Nat → Ru
  | 0 => .always
  | 1 => .never
  | _ => .seldom nn
def mk3 (u : Ru) (t : Int) : Fl := ⟨u, Dd.make.app ⟨0, 0, 0⟩ t, t, false⟩
theorem ok__law_unlike {f : Addr} {fd : FuncData} (F : Fun K "_law_unlike" "_law_unlike" s__law_unlike f fd) (TR : RuTxt K mg CR) (TF : FiTxt K mg CF CMk)
    (c_Rule_always : Sm P w K mg base CR "always" [] CX0 3 (spRuAlways CR)) (c_Rule_never : Sm P w K mg base CR "never" [] CX0 3 (spRuNever CR)) (c_Rule_seldom : Sm P w K mg base CR "seldom" ["after"] CX0 3 (spRuSeldom CR))
    (c_File : Nw P w K mg base "File" CF ["self", "rule", "deed", "at"] CX0 6 (spFiInit K C CR CF)) (c_File___eq__ : Mt P w K mg base CF "__eq__" ["self", "other"] CX0 5 (spFiEq CR CF)) : FnOk P w K mg base CX0 9 f fd ["row", "at"] (spLUnlike K) := by
  refine F.ok sc__law_unlike (fun vs H Q E h => ?_) (fun cdv A outer s H vs Q E hr h => ?_)
  · obtain ⟨vr, u, nn, t, rfl, _⟩ := h
    rfl
  · obtain ⟨vr, u, nn, t, rfl, ⟨ra, rfl, hrow⟩, n1, n2, far, q⟩ := h
    refine ⟨_, (pss_cons (ps_set (i := 2) sc__law_unlike.nd rfl (Or.inl rfl) (pe_lst (pa_cons (pe_sm0 c_Rule_always hr pass0 (pe_gc TR.g)) (pa_cons (pe_sm0 c_Rule_never hr pass0 (pe_gc TR.g)) (pa_cons (pe_sm c_Rule_seldom hr pass0 (pe_gc TR.g) (pa_cons (pe_ix ix_tup (pv 0) pe_int (fun _ _ => rfl)) pa_nil)) pa_nil)))))
      (pss_cons (ps_setLc (i := 3) (own := [("one", 4)]) (te := tMake CF (spFiInit K C CR CF) [] E0 (tCons (tVar 4) (tCons (tTup (tCons (tC (.str "make")) tNil)) (tCons (tVar 1) tNil)))) (by rfl) sc__law_unlike.nd rfl rfl (sw_true rfl rfl rfl (by decide +kernel)) (pi_list (pv 2)) (blkOk_by (own := [("one", 4)]) (N := ["row", "at", "some", "plain", "one"]) (sc := defScope s__law_unlike) (by decide +kernel)) (fun _ _ _ _ _ => (pg_name (i := 4) sc__law_unlike.nd rfl (Or.inl rfl))) (fun _ _ _ _ _ => pts_nil) (fun _ _ _ _ _ => (pe_nw c_File hr pass0 (pa_cons (pv 4) (pa_cons (pe_tup (pa_cons pe_str pa_nil)) (pa_cons (pv 1) pa_nil))))))
      (pss_cons (ps_if (PW.pt (pw_or (pt_cmpR (op_cmpC (op := .Eq) c_File___eq__ hr pass0) (pe_ix ix_list (pv 3) pe_int (fun _ _ => rfl)) (pe_ix ix_list (pv 3) pe_int (fun _ _ => rfl)) (nomark _)) (pw_or1 (pt_cmpR (op_cmpC (op := .Eq) c_File___eq__ hr pass0) (pe_ix ix_list (pv 3) pe_int (fun _ _ => rfl)) (pe_ix ix_list (pv 3) pe_int (fun _ _ => rfl)) (nomark _))))) (pss_one (ps_ret pe_bl)) pss_nil)
      (pss_one (ps_ret (pe_cmpR (op_cmpC (op := .Eq) c_File___eq__ hr pass0) (pe_ix ix_list (pv 3) pe_int (fun _ _ => rfl)) (pe_nw c_File hr pass0 (pa_cons (pe_sm0 c_Rule_always hr pass0 (pe_gc TR.g)) (pa_cons (pe_tup (pa_cons pe_str pa_nil)) (pa_cons (pv 1) pa_nil)))) (nomark _))))))), ?_⟩
    refine ⟨rfl, rfl, fun g1 H1 ng1 e1 r1 => ⟨rfl, rfl, fun g2 H2 ng2 e2 r2 => ⟨rfl, _, rfl, ra, _, 1, _, rfl, rfl, ex_t (e1.trans e2) hrow, atI_nat (j := 1) rfl, nn, rfl, n1, n2, fun g3 H3 ng3 e3 r3 => ⟨(by decide : 3 ≤ sizeLine), fun l nl => ?_⟩⟩⟩⟩
    have el := Ex.new (o := .lst [.ref g1, .ref g2, .ref g3]) nl
    have e04 := ((e1.trans e2).trans e3).trans el
    have hl : (upd H3 l (.lst [.ref g1, .ref g2, .ref g3])) l = some (.lst [.ref g1, .ref g2, .ref g3]) := upd_same
    have R1 := r1.ex ((e2.trans e3).trans el)
    have R2 := r2.ex (e3.trans el)
    have R3 := r3.ex el
    generalize upd H3 l (.lst [.ref g1, .ref g2, .ref g3]) = H4 at e04 hl R1 R2 R3 ⊢
    -- plain
    refine ⟨_, rfl, l, rfl, ⟨_, sq_of hl⟩, fun Dl nD => ?_⟩
    refine lc_list (K := K) (xs := [.ref g1, .ref g2, .ref g3]) (fun i H' => Ex H4 H' ∧ ∃ fs : List (Addr × Addr × Addr), fs.length = i ∧ H' Dl = some (.lst (fs.map fun z => .ref z.1)) ∧ ∀ (k : Nat) z, fs[k]? = some z → FlAt CF CR H' z.1 z.2.1 z.2.2 (mk3 (u3 nn k) t)) ⟨Ex.new nD, [], rfl, upd_same, fun k z hz => by simp at hz⟩ (fun i H' _ h => sq_of (h.1 _ _ hl)) ?_ ?_
    · rintro i x H5 hx ⟨e5, fs, hfs, hD, hall⟩
      obtain ⟨g, rfl, hg⟩ : ∃ g, x = V.ref g ∧ RuAt CR H5 g (u3 nn i) := match i, hx with
        | 0, hx => ⟨g1, (Option.some.inj hx).symm, R1.ex e5⟩
        | 1, hx => ⟨g2, (Option.some.inj hx).symm, R2.ex e5⟩
        | 2, hx => ⟨g3, (Option.some.inj hx).symm, R3.ex e5⟩
      refine ⟨rfl, ?_⟩
      refine lc_yes ?_
      refine (evf_makeP (K := K) (C := C) (CF := CF) (CR := CR) (E := E0) (σ := [some (.ref ra), some (.int t), some (.ref l), none, some (.ref g)]) (n := t) (dd := .make) (evr_var (i := 4) rfl hg) (evd_u (dd := .make) (eu_tup (ea_cons ev_c ea_nil) (by decide))) trivial rfl (eva_int (ev_var (i := 1) rfl) far)) H5 (Ex.refl H5) _ fun v H6 e6 ⟨ff, dd', rr, ev, nf, nd, fl⟩ => ?_
      subst ev
      refine ⟨_, e6 _ _ hD, by rw [List.length_map, hfs]; exact Nat.lt_of_lt_of_le (show i < 3 from (List.getElem?_eq_some_iff.mp hx).1) (by decide : 3 ≤ sizeLine), ?_⟩
      refine ⟨Ex.mut (e5.trans e6) nD, fs ++ [(ff, dd', rr)], by rw [List.length_append, hfs]; rfl, by rw [upd_same, List.map_append]; rfl, fun k z hz => ?_⟩
      rcases Nat.lt_or_ge k fs.length with hk | hk
      · rw [List.getElem?_append_left hk] at hz
        exact ((hall k z hz).ex e6).list (e6 _ _ hD)
      · rw [List.getElem?_append_right hk] at hz
        have hk0 : k - fs.length = 0 := by
          have := (List.getElem?_eq_some_iff.mp hz).1
          simp at this
          omega
        rw [hk0] at hz
        cases hz
        have hki : k = i := by omega
        rw [hki]
        exact fl.list (e6 _ _ hD)
    · rintro H5 ⟨e5, fs, hfs, hD, hall⟩
      obtain ⟨⟨a1, b1, c1⟩, ⟨a2, b2, c2⟩, ⟨a3, b3, c3⟩, rfl⟩ : ∃ x y z, fs = [x, y, z] := by
        match fs, hfs with
        | [x, y, z], _ => exact ⟨x, y, z, rfl⟩
      have F1 := hall 0 _ rfl
      have F2 := hall 1 _ rfl
      have F3 := hall 2 _ rfl
      dsimp only at F1 F2 F3
      have ix : ∀ {Hk : Hp} {σ : L2.St} (j : Nat) {g : Addr}, Ex H5 Hk → σ[3]? = some (some (.ref Dl)) → [V.ref a1, .ref a2, .ref a3][j]? = some (.ref g) → Ev (tOp (rIxL K) (tVar 3) (tC (.int (j : Nat)))) σ Hk (.ref g) := fun {Hk σ} j {g} e h hj => ev_op (ev_var h) ev_c (rv_ixL (ex_l e (sq_of hD)) (atI_nat hj))
      have z12 : (mk3 .always t).eqB (mk3 .never t) = false := eqB_rule (by kernel_rfl)
      have z23 : (mk3 .never t).eqB (mk3 (.seldom nn) t) = false := eqB_rule (by kernel_rfl)
      refine q_ifF (et_or (et_test (ev_eqF TF (ix 0 (Ex.refl H5) rfl rfl) (ix 1 (Ex.refl H5) rfl rfl) F1 F2)) fun _ => et_test (ev_eqF TF (ix 1 (Ex.refl H5) rfl rfl) (ix 2 (Ex.refl H5) rfl rfl) F2 F3)) (by rw [show (mk3 (u3 nn 0) t).eqB (mk3 (u3 nn 1) t) = false from z12, show (mk3 (u3 nn 1) t).eqB (mk3 (u3 nn 2) t) = false from z23]; rfl) fun H6 e6 => ?_
      refine s_ret (v := .bl true) (ev_is (ev_eqFP TF (ix 0 e6 rfl rfl) (F1.ex e6) (evf_makeP (K := K) (C := C) (CF := CF) (CR := CR) (u := .always) (n := t) (dd := .make) (evp_sm ea_nil fun Hz ez Q' q' => ⟨rfl, fun g H' ng eg hg => q' _ H' eg ⟨g, rfl, hg⟩⟩) (evd_u (dd := .make) (eu_tup (ea_cons ev_c ea_nil) (by decide))) trivial rfl (eva_int (ev_var rfl) far))) ?_) fun H7 e7 => q H7 ((e04.trans e5).trans (e6.trans e7))
      exact congrArg V.bl (eqB_refl (mk3 .always t))
end
end Ag
namespace Ag
open PySem PySem.Spec PyProof.Rows L2 Evl
/-! ### k08: the law -/
structure St08 (K : PySem.W.Frag) (CR CF a : Addr) (xs : List V) (vr : V) (u : Ru) (nn : Int) (f d r f0 d0 r0 q qb : Addr) (H : Hp) (s s0 : Fl) : Prop where
  sc : SqL K H a xs
  row : RowAt K H vr u nn
  fl : FlAt CF CR H f d r s
  fz : FlAt CF CR H f0 d0 r0 s0
  ap : f ≠ f0 ∧ d ≠ d0
  mks : H q = some (.dK (tab s.m))
  bg : H qb = some (.dK (tab s0.m))
  qd : q ≠ d
  bd : qb ≠ d
section
variable {K : PySem.W.Frag} {CR CF a : Addr} {xs : List V} {vr : V} {u : Ru} {nn : Int} {f d r f0 d0 r0 q qb q' : Addr} {H H' : Hp} {s s0 s' : Fl}
theorem St08.ex (h : St08 K CR CF a xs vr u nn f d r f0 d0 r0 q qb H s s0) (e : Ex H H') : St08 K CR CF a xs vr u nn f d r f0 d0 r0 q qb H' s s0 := ⟨ex_l e h.sc, h.row.ex e, h.fl.ex e, h.fz.ex e, h.ap, e _ _ h.mks, e _ _ h.bg, h.qd, h.bd⟩
end
section
variable {P : Program} {w : World} {K : PySem.W.Frag} {mg : Str → Option Value} {base : Heap} {C CR CF CMk pP pM : Addr}
theorem turns8 (l : Int) (h0 : 0 ≤ l) : (8 : Int) ≤ (if (if (63 : Int) < l then 63 else l) > 8 then (if (63 : Int) < l then 63 else l) else 8) ∧ (if (if (63 : Int) < l then 63 else l) > 8 then (if (63 : Int) < l then 63 else l) else 8) ≤ 63 := by
  split <;> split <;> omega
theorem pick4 {x y z v : Int} {r : Int} (h0 : 0 ≤ r) (h1 : r < 4) (L : Int) (hx : 0 < x ∧ x ≤ L) (hy : 0 < y ∧ y ≤ L) (hz : 0 < z ∧ z ≤ L) (hv : 0 < v ∧ v ≤ L) : ∃ m : Int, atI [V.int x, V.int y, V.int z, V.int v] r = some (.int m) ∧ 0 < m ∧ m ≤ L := by
  have : r = 0 ∨ r = 1 ∨ r = 2 ∨ r = 3 := by omega
  rcases this with rfl | rfl | rfl | rfl
  · exact ⟨x, atI_nat (j := 0) rfl, hx⟩
  · exact ⟨y, atI_nat (j := 1) rfl, hy⟩
  · exact ⟨z, atI_nat (j := 2) rfl, hz⟩
  · exact ⟨v, atI_nat (j := 3) rfl, hv⟩
theorem ok_law {f : Addr} {fd : FuncData} (F : Fun K "law" "law" s_law f fd) (B : Bl mg) (B2 : Bl2 mg) (T : MoTxt K mg C) (TR : RuTxt K mg CR) (TF : FiTxt K mg CF CMk)
    (c__law_source : Fn P w K mg base "_law_source" ["script", "turn"] CX0 1 (spSource K)) (c__law_draw : Fn P w K mg base "_law_draw" ["source", "amount"] CX0 1 spDraw)
    (c__law_rule : Fn P w K mg base "_law_rule" ["row"] CX0 4 (spLRule K CR)) (c__law_rule_row : Fn P w K mg base "_law_rule_row" ["source", "most"] CX0 3 (spLRow K)) (c__law_maker : Fn P w K mg base "_law_maker" ["source", "back"] CX0 3 (spMaker K)) (c__law_user : Fn P w K mg base "_law_user" ["source", "back"] CX0 3 (spUser K))
    (c__law_sets : Fn P w K mg base "_law_sets" ["marks", "row", "at"] CX0 1 (spLSets K)) (c__law_backs : Fn P w K mg base "_law_backs" ["deed"] CX0 1 (spLBacks K)) (c__law_done : Fn P w K mg base "_law_done" ["marks", "row", "deed", "at"] CX0 2 (spLDone K))
    (c__law_is : Fn P w K mg base "_law_is" ["file", "marks", "last"] CX0 8 (spLIs CR CF)) (c__law_unlike : Fn P w K mg base "_law_unlike" ["row", "at"] CX0 9 (spLUnlike K))
    (c_Moment : Nw P w K mg base "Moment" C ["self", "seconds"] CX0 3 (spMoInit C)) (c_File : Nw P w K mg base "File" CF ["self", "rule", "deed", "at"] CX0 6 (spFiInit K C CR CF)) (c_File_double : Mt P w K mg base CF "double" ["self"] CX0 8 (spFiDouble CR CF)) (c_File_do : Mt P w K mg base CF "do" ["self", "deed", "at"] CX0 6 (spFiDo K C CR CF))
    (c_File___eq__ : Mt P w K mg base CF "__eq__" ["self", "other"] CX0 5 (spFiEq CR CF)) (c_File_marks : Mt P w K mg base CF "marks" ["self"] CX0 1 (spFiMarks CR CF)) :
    FnOk P w K mg base CX0 12 f fd ["script"] (spLaw K) := by
  refine F.ok sc_law (fun vs H Q E h => ?_) (fun cdv A outer s H vs Q E hr h => ?_)
  · obtain ⟨a, ns, rfl, _⟩ := h
    rfl
  · obtain ⟨a, ns, rfl, hS, hlen, q⟩ := h
    refine ⟨_, (pss_cons (ps_set (i := 1) sc_law.nd rfl (Or.inl rfl) (pe_fn c__law_source hr pass0 (pa_cons (pv 0) (pa_cons pe_int pa_nil))))
      (pss_cons (ps_set (i := 2) sc_law.nd rfl (Or.inl rfl) (pe_fn c__law_rule_row hr pass0 (pa_cons (pv 1) (pa_cons (pe_ix ix_list (pe_lst (pa_cons pe_int (pa_cons pe_int pa_nil))) (pe_fn c__law_draw hr pass0 (pa_cons (pv 1) (pa_cons pe_int pa_nil))) (fun _ _ => rfl)) pa_nil))))
      (pss_cons (ps_set (i := 3) sc_law.nd rfl (Or.inl rfl) (pe_op op_mul (pe_fn c__law_draw hr pass0 (pa_cons (pv 1) (pa_cons (pe_ix ix_list (pe_lst (pa_cons pe_int (pa_cons (pe_op op_pow pe_int pe_int) pa_nil))) (pe_fn c__law_draw hr pass0 (pa_cons (pv 1) (pa_cons pe_int pa_nil))) (fun _ _ => rfl)) pa_nil))) (pe_ix ix_list (pe_lst (pa_cons pe_int (pa_cons (pe_un un_neg pe_int) pa_nil))) (pe_fn c__law_draw hr pass0 (pa_cons (pv 1) (pa_cons pe_int pa_nil))) (fun _ _ => rfl))))
      (pss_cons (ps_set (i := 4) sc_law.nd rfl (Or.inl rfl) (pe_fn c__law_maker hr pass0 (pa_cons (pv 1) (pa_cons (pe_ix ix_list (pe_lst (pa_cons pe_int (pa_cons (pe_op op_pow pe_int pe_int) pa_nil))) (pe_fn c__law_draw hr pass0 (pa_cons (pv 1) (pa_cons pe_int pa_nil))) (fun _ _ => rfl)) pa_nil))))
      (pss_cons (ps_set (i := 5) sc_law.nd rfl (Or.inl rfl) (pe_nw c_File hr pass0 (pa_cons (pe_fn c__law_rule hr pass0 (pa_cons (pv 2) pa_nil)) (pa_cons (pv 4) (pa_cons (pe_ix ix_list (pe_lst (pa_cons (pv 3) (pa_cons (pe_nw c_Moment hr pass0 (pa_cons (pv 3) pa_nil)) pa_nil))) (pe_fn c__law_draw hr pass0 (pa_cons (pv 1) (pa_cons pe_int pa_nil))) (fun _ _ => rfl)) pa_nil)))))
      (pss_cons (ps_set (i := 6) sc_law.nd rfl (Or.inl rfl) (pe_nw c_File hr pass0 (pa_cons (pe_fn c__law_rule hr pass0 (pa_cons (pv 2) pa_nil)) (pa_cons (pv 4) (pa_cons (pv 3) pa_nil)))))
      (pss_cons (ps_set (i := 7) sc_law.nd rfl (Or.inl rfl) (pe_fn c__law_done hr pass0 (pa_cons pe_dnewK (pa_cons (pe_tup (pa_cons pe_str (pa_cons pe_int pa_nil))) (pa_cons (pv 4) (pa_cons (pv 3) pa_nil))))))
      (pss_cons (ps_set (i := 8) sc_law.nd rfl (Or.inl rfl) (pe_callTy call_dictDK (by rfl) B2.dict_ (by decide +kernel) (pa_cons (pv 7) pa_nil)))
      (pss_cons (ps_for PassesOwn.never rfl (pi_range2 (by rfl) B.range_ (pa_cons pe_int (pa_cons (pe_callB (call_max2 rfl) (by rfl) B.max_ (by decide +kernel) (pa_cons pe_int (pa_cons (pe_callB (call_min2 rfl) (by rfl) B.min_ (by decide +kernel) (pa_cons (pe_callB call_len_seq (by rfl) B.len_ (by decide +kernel) (pa_cons (pv 0) pa_nil)) (pa_cons pe_int pa_nil))) pa_nil))) pa_nil))) (pg_name (i := 9) sc_law.nd rfl (Or.inl rfl)) (pss_cons (ps_set (i := 1) sc_law.nd rfl (Or.inl rfl) (pe_fn c__law_source hr pass0 (pa_cons (pv 0) (pa_cons (pv 9) pa_nil))))
      (pss_cons (ps_set (i := 3) sc_law.nd rfl (Or.inl rfl) (pe_op op_add (pe_op op_add (pv 3) pe_int) (pe_fn c__law_draw hr pass0 (pa_cons (pv 1) (pa_cons (pe_ix ix_list (pe_lst (pa_cons pe_int (pa_cons pe_int (pa_cons (pe_op op_add (pe_ix ix_tup (pv 2) pe_int (fun _ _ => rfl)) pe_int) (pa_cons (pe_op op_pow pe_int pe_int) pa_nil))))) (pe_fn c__law_draw hr pass0 (pa_cons (pv 1) (pa_cons pe_int pa_nil))) (fun _ _ => rfl)) pa_nil)))))
      (pss_cons (ps_set (i := 10) sc_law.nd rfl (Or.inl rfl) (pe_ix ix_list (pe_lst (pa_cons pe_int (pa_cons (pe_op op_pow pe_int pe_int) pa_nil))) (pe_fn c__law_draw hr pass0 (pa_cons (pv 1) (pa_cons pe_int pa_nil))) (fun _ _ => rfl)))
      (pss_cons (ps_set (i := 4) sc_law.nd rfl (Or.inl rfl) (pe_ifExp (pt_cmpR op_gt (pe_fn c__law_draw hr pass0 (pa_cons (pv 1) (pa_cons pe_int pa_nil))) pe_int (nomark _)) (pe_fn c__law_user hr pass0 (pa_cons (pv 1) (pa_cons (pv 10) pa_nil))) (pe_fn c__law_maker hr pass0 (pa_cons (pv 1) (pa_cons (pv 10) pa_nil)))))
      (pss_cons (ps_set (i := 11) sc_law.nd rfl (Or.inl rfl) (pe_fn c__law_done hr pass0 (pa_cons (pv 7) (pa_cons (pv 2) (pa_cons (pv 4) (pa_cons (pv 3) pa_nil))))))
      (pss_cons (ps_set (i := 12) sc_law.nd rfl (Or.inl rfl) (pe_callTy (call_listDK rfl) (by rfl) B2.list_ (by decide +kernel) (pa_cons (pe_fn c__law_backs hr pass0 (pa_cons (pv 4) pa_nil)) pa_nil)))
      (Evl.pss_cut (ps_if (PW.pt (pw_and (pt_cmpR op_eq (pe_ix ix_tup (pv 4) pe_int (fun _ _ => rfl)) pe_str (nomark _)) (pw_and1 (pt_val (pe_fn c__law_sets hr pass0 (pa_cons (pv 7) (pa_cons (pv 2) (pa_cons (pv 3) pa_nil)))))))) (pss_one (ps_set (i := 12) sc_law.nd rfl (Or.inl rfl) (pe_lst (pa_cons pe_str pa_nil)))) pss_nil)
      (pss_cons (ps_set (i := 13) sc_law.nd rfl (Or.inl rfl) (pe_mt0 TF.cl c_File_double hr pass0 (pv 5)))
      (pss_cons (ps_if (pt_cmpR (op_neC c_File___eq__ TF.ne TF.ob hr pass0) (pv 13) (pv 5) (nomark _)) (pss_one (ps_ret pe_bl)) pss_nil)
      (pss_cons (ps_if (pt_cmpR (op_neD hr.units) (pe_mt TF.cl c_File_do hr pass0 (pv 5) (pa_cons (pv 4) (pa_cons (pe_ix ix_list (pe_lst (pa_cons (pv 3) (pa_cons (pe_nw c_Moment hr pass0 (pa_cons (pv 3) pa_nil)) pa_nil))) (pe_fn c__law_draw hr pass0 (pa_cons (pv 1) (pa_cons pe_int pa_nil))) (fun _ _ => rfl)) pa_nil))) (pv 12) (nomark _)) (pss_one (ps_ret pe_bl)) pss_nil)
      (pss_cons (ps_if (pt_cmpR (op_neK hr.units0) (pe_mt0 TF.cl c_File_marks hr pass0 (pv 13)) (pv 7) (nomark _)) (pss_one (ps_ret pe_bl)) pss_nil)
      (pss_cons (ps_set (i := 14) sc_law.nd rfl (Or.inl rfl) (pe_mt0 TF.cl c_File_marks hr pass0 (pv 5)))
      (pss_cons (ps_dput (hu_of hr) (pv 14) pe_str (pe_op op_sub (pe_dget (hu_of hr) (pv 14) pe_str (fun _ _ => rfl)) pe_int) rfl)
      (pss_cons (ps_dput (hu_of hr) (pv 14) pe_str pe_non rfl)
      (pss_cons (ps_set (i := 7) sc_law.nd rfl (Or.inl rfl) (pv 11))
      (pss_one (ps_if (PW.pt (pw_or (pt_not (pt_val (pe_fn c__law_is hr pass0 (pa_cons (pv 5) (pa_cons (pv 7) (pa_cons (pv 3) pa_nil)))))) (pw_or1 (pt_cmpR (op_cmpC (op := .Eq) c_File___eq__ hr pass0) (pv 13) (pv 5) (nomark _))))) (pss_one (ps_ret pe_bl)) pss_nil))))))))))))))))))
      (pss_one (ps_ret (pe_and (pe_fn c__law_unlike hr pass0 (pa_cons (pv 2) (pa_cons (pv 3) pa_nil))) (pe_and (pe_cmpR (op_eqK hr.units0) (pe_mt0 TF.cl c_File_marks hr pass0 (pv 6)) (pv 8) (nomark _)) (pe_one (pe_cmpR (op_neC c_File___eq__ TF.ne TF.ob hr pass0) (pv 5) (pv 6) (nomark _)))))))))))))))), ?_⟩
    have e9 : (10 : Int) ^ (9 : Int).toNat = 1000000000 := by decide
    have e9' : (10 : Int) ^ 9 = 1000000000 := by decide
    have e20' : (10 : Int) ^ (20 : Int).toNat = 100000000000000000000 := by decide
    have e20 : (10 : Int) ^ 20 = 100000000000000000000 := by decide
    have e21 : (10 : Int) ^ 21 = 1000000000000000000000 := by decide
    have e30 : (10 : Int) ^ 30 = 1000000000000000000000000000000 := by decide
    have e40 : (100000000000000000000 : Int) ≤ 10 ^ 40 := by decide
    -- source, row
    refine ⟨_, rfl, a, ns, 0, rfl, hS, hlen, by decide, by decide, fun p H1 np s1 src1 => ?_⟩
    refine ⟨_, rfl, (by decide : 2 ≤ sizeLine), fun l nl => ?_⟩
    have s2 := same_upd (o := .lst [.int 9, .int 2000]) nl
    refine ⟨_, rfl, p, 2, rfl, src1.same s2, by decide, by decide, fun r H2 r0 r1 src2 k2 => ?_⟩
    obtain ⟨g0, hg, g1, g2⟩ := pick2 (x := 9) (y := 2000) r0 r1 2000 (by decide) (by decide)
    refine ⟨l, _, r, _, rfl, rfl, SqL.of (k2 _ _ (src_ne nl src1) upd_same), hg, p, g0, rfl, src2, by omega, g2, fun vr u nn H3 row3 ok3 src3 k3 => ?_⟩
    have e03 : Ex H H3 := ex_kp k3 np (ex_kp k2 np (fun x u h => s2 x u (s1 x u h)))
    -- at
    refine ⟨_, rfl, _, _, rfl, rfl, ⟨by decide, by decide, by decide⟩, (by decide : 2 ≤ sizeLine), fun l4 nl4 => ?_⟩
    have el4 := Ex.new (o := .lst [.int 10, .int (10 ^ (20 : Int).toNat)]) nl4
    refine ⟨_, rfl, p, 2, rfl, src3.ex el4, by decide, by decide, fun r4 H4 r40 r41 src4 k4 => ?_⟩
    obtain ⟨g4, hg4, g41, g42⟩ := pick2 (x := 10) (y := 10 ^ (20 : Int).toNat) r40 r41 (10 ^ 20) (by decide) (by decide)
    refine ⟨l4, _, r4, _, rfl, rfl, SqL.of (k4 _ _ (src_ne nl4 src3) upd_same), hg4, p, g4, rfl, src4, g41, Int.le_trans g42 (by decide), fun ta H5 ta0 ta1 src5 k5 => ?_⟩
    refine ⟨_, rfl, (by decide : 2 ≤ sizeLine), fun l6 nl6 => ?_⟩
    have el6 := Ex.new (o := .lst [.int 1, .int (-1)]) nl6
    refine ⟨_, rfl, p, 2, rfl, src5.ex el6, by decide, by decide, fun r6 H6 r60 r61 src6 k6 => ?_⟩
    obtain ⟨sg, hsg, sg1⟩ : ∃ m : Int, atI [V.int 1, V.int (-1)] r6 = some (.int m) ∧ (m = 1 ∨ m = -1) := by
      have : r6 = 0 ∨ r6 = 1 := by omega
      rcases this with rfl | rfl
      · exact ⟨1, atI_nat (j := 0) rfl, .inl rfl⟩
      · exact ⟨-1, atI_nat (j := 1) rfl, .inr rfl⟩
    refine ⟨l6, _, r6, _, rfl, rfl, SqL.of (k6 _ _ (src_ne nl6 src5) upd_same), hsg, _, _, rfl, rfl, .inr (by rcases sg1 with rfl | rfl <;> exact ⟨by decide, by decide⟩), ?_⟩
    have tb : -(10 ^ 20) ≤ ta * sg ∧ ta * sg ≤ 10 ^ 20 := by rcases sg1 with rfl | rfl <;> omega
    dsimp only
    generalize ta * sg = t0 at tb ⊢
    obtain ⟨tb1, tb2⟩ := tb
    have far0 : Far t0 := ⟨by omega, by omega⟩
    have k36 : Kp p H3 H6 := (((Kp.same el4).trans k4).trans k5).trans ((Kp.same el6).trans k6)
    have e06 : Ex H H6 := ex_kp k36 np e03
    have row6 : RowAt K H6 vr u nn := let ⟨b, eb, z⟩ := row3; ⟨b, eb, sqt_src z k36 src3⟩
    -- deed
    refine ⟨_, rfl, _, _, rfl, rfl, ⟨by decide, by decide, by decide⟩, (by decide : 2 ≤ sizeLine), fun l7 nl7 => ?_⟩
    have el7 := Ex.new (o := .lst [.int 9, .int (10 ^ (9 : Int).toNat)]) nl7
    refine ⟨_, rfl, p, 2, rfl, src6.ex el7, by decide, by decide, fun r7 H7 r70 r71 src7 k7 => ?_⟩
    obtain ⟨g7, hg7, g71, g72⟩ := pick2 (x := 9) (y := 10 ^ (9 : Int).toNat) r70 r71 (10 ^ 9) (by decide) (by decide)
    refine ⟨l7, _, r7, _, rfl, rfl, SqL.of (k7 _ _ (src_ne nl7 src6) upd_same), hg7, p, g7, rfl, src7, by omega, g72, fun vd dd H8 hd8 ok8 mk8 src8 k8 => ?_⟩
    have k68 : Kp p H6 H8 := ((Kp.same el7).trans k7).trans k8
    have e08 : Ex H H8 := ex_kp k68 np e06
    have row8 : RowAt K H8 vr u nn := let ⟨b, eb, z⟩ := row6; ⟨b, eb, sqt_src z k68 src6⟩
    -- file
    refine ⟨_, rfl, vr, u, nn, rfl, row8, ok3, fun qr H9 nq9 e9a hq9 => ⟨_, rfl, ?_⟩⟩
    refine rd_at (C := C) (src8.ex e9a) rfl rfl far0 fun va H10 hva src10 k10 => ?_
    refine fun x dx nx nd ne => ?_
    have eN : Ex H10 (upd (upd H10 dx (.own x)) x (.ins CF dx [])) := fun b o e => by rw [upd_ne (ne_of_none e nx), upd_ne (ne_of_none e nd)]; exact e
    have hq10 := hq9.kp k10 (src8.ex e9a)
    have hd10 := (hd8.ex e9a).src k10 (src8.ex e9a)
    have e010 : Ex H H10 := ex_kp k10 np (e08.trans e9a)
    have row10 : RowAt K H10 vr u nn := let ⟨b, eb, z⟩ := row8.ex e9a; ⟨b, eb, sqt_src z k10 (src8.ex e9a)⟩
    refine ⟨x, dx, qr, vd, va, u, dd, t0, rfl, upd_same, hq10.ex eN, hd10.ex eN, ok8, mk8, hva.ex eN, fun d H11 nd' k' fl => ⟨rfl, ?_⟩⟩
    have e11 : Ex H10 H11 := fun b o z => k' _ _ (fun y => by rw [y, nx] at z; cases z) (eN _ _ z)
    have hd11 := hd10.ex e11
    have row11 := row10.ex e11
    dsimp only [gName]
    -- first
    refine Ag.q_asgP (evf_makeP (K := K) (C := C) (CF := CF) (CR := CR) (u := u) (n := t0) (dd := dd) (evp_call (ea_cons (ev_var rfl) ea_nil) fun Hz ez Q' q' => ⟨vr, u, nn, rfl, row11.ex ez, ok3, fun g H' ng eg hg => q' _ H' eg ⟨g, rfl, hg⟩⟩) (evd_var rfl hd11) ok8 mk8 (eva_int (ev_var rfl) far0)) fun v12 H12 e12 ⟨f0, d0, r0', ev12, nf0, nd0, fl0⟩ => ?_
    subst ev12
    have nn0 : x ≠ f0 ∧ d ≠ d0 := by
      obtain ⟨⟨_, h1⟩, h2, _⟩ := id fl
      exact ⟨ne_of_none h1 nf0, ne_of_none h2 nd0⟩
    have fl12 := fl.ex e12
    have hd12 := hd11.ex e12
    -- marks, begun
    have nrd : dd.isRead = false := by cases dd <;> first | rfl | cases mk8
    have sb0 : puts t0 ((⟨.always, ⟨0, 0, 0⟩, 0, false⟩ : Fl).sbs dd t0) [] = tab (dd.app ⟨0, 0, 0⟩ t0) := by
      unfold Fl.sbs
      rw [nrd, Bool.false_and, if_neg Bool.false_ne_true]
      exact puts_new dd mk8 t0
    refine q_asgK (kvs := tab (dd.app ⟨0, 0, 0⟩ t0)) (fun Hz ez Q' q' dz ndz => ⟨(by decide : 2 ≤ sizeLine), fun tr ntr => ⟨_, rfl, _, rfl, ?_⟩⟩) fun q13 H13 n13 e13 h13 => ?_
    · have ez1 := Ex.new (o := .dK []) ndz
      have ez2 := Ex.new (o := .tup [.str "always", .int 1]) ntr
      refine ⟨dz, .ref tr, vd, t0, [], ⟨.always, ⟨0, 0, 0⟩, 0, false⟩, 1, dd, rfl, ez2 _ _ upd_same, ⟨tr, rfl, st_of upd_same⟩, ⟨.inl rfl, by decide, by decide⟩, hd12.ex (ez.trans (ez1.trans ez2)), fun z => (by rw [nrd] at z; cases z), by decide, fun p' H' n' e' h' => ?_⟩
      rw [sb0] at h'
      exact q' p' H' (fresh_back (ez1.trans ez2) n') ((ez1.trans ez2).trans e') h'
    refine q_asgK (kvs := tab (dd.app ⟨0, 0, 0⟩ t0)) (fun Hz ez Q' q' => ⟨_, rfl, q13, _, rfl, .inl (ez _ _ h13), fun p' np' => q' p' _ np' (Ex.new np') upd_same⟩) fun q14 H14 n14 e14 h14 => ?_
    have e1114 := (e12.trans e13).trans e14
    have st14 : St08 K CR CF a (ns.map V.int) vr u nn x d qr f0 d0 r0' q13 q14 H14 ⟨u, dd.app ⟨0, 0, 0⟩ t0, t0, false⟩ ⟨u, dd.app ⟨0, 0, 0⟩ t0, t0, false⟩ := by
      obtain ⟨_, h2, _⟩ := id fl12
      exact ⟨ex_l ((e010.trans e11).trans e1114) hS, row11.ex e1114, fl12.ex (e13.trans e14), fl0.ex (e13.trans e14), nn0, e14 _ _ h13, h14, (ne_of_none h2 n13).symm, (ne_of_none (e13 _ _ h2) n14).symm⟩
    have bd14 := Bnd.new (t := t0) dd ok8 mk8 tb1
    generalize hs0 : (⟨u, dd.app ⟨0, 0, 0⟩ t0, t0, false⟩ : Fl) = s0 at st14
    have s0l : s0.last = t0 := by rw [← hs0]
    -- the loop
    have tl := turns8 ((ns.map V.int).length : Int) (by omega)
    refine ⟨_, rfl, a, _, rfl, .inl st14.sc, _, _, rfl, _, _, rfl, _, _, rfl, ⟨by decide, by decide, by omega, by omega⟩, ?_⟩
    refine for_range (lo := 1) (fun j σ H' => ∃ (t : Int) (z : Fl) (qq : Addr) (y1 y4 y9 y10 y11 y12 y13 y14 : Option V), σ = [some (.ref a), y1, some vr, some (.int t), y4, some (.ref x), some (.ref f0), some (.ref qq), some (.ref q14), y9, y10, y11, y12, y13, y14] ∧ t0 + (j : Int) ≤ t ∧ t ≤ 100000000000000000000 + 1000000001 * (j : Int) ∧ z.ru = u ∧ z.last = t ∧ z.held = false ∧ Bnd z.m t ∧
      St08 K CR CF a (ns.map V.int) vr u nn x d qr f0 d0 r0' qq q14 H' z s0) ⟨t0, s0, q13, _, _, _, _, _, _, _, _, rfl, by omega, by omega, by rw [← hs0], s0l, by rw [← hs0], by rw [← hs0]; exact bd14, st14⟩ ?_ ?_
    · rintro j σ G0 hj ⟨t, z, qq, y1, y4, y9, y10, y11, y12, y13, y14, rfl, tlo, thi, zu, zl, zh, zb, st⟩
      have hj63 : (j : Int) ≤ 63 := by omega
      obtain ⟨hu, n1, n2⟩ := id ok3
      refine ⟨_, rfl, _, rfl, a, ns, _, rfl, st.sc, hlen, by omega, by omega, fun p G1 np s1 src1 => ?_⟩
      have e1 : Ex G0 G1 := s1
      obtain ⟨ra, rfl, hrow⟩ := id st.row
      have hrow1 := ex_t e1 hrow
      -- at
      refine ⟨_, rfl, _, _, rfl, rfl, _, rfl, _, rfl, ra, _, 1, _, rfl, rfl, hrow1, atI_nat (j := 1) rfl, _, _, rfl, rfl, _, _, rfl, rfl, ⟨by decide, by decide, by decide⟩, (by decide : 4 ≤ sizeLine), fun l nl => ?_⟩
      have el := Ex.new (o := .lst [.int 4, .int 12, .int (nn + 2), .int (10 ^ (9 : Int).toNat)]) nl
      refine ⟨_, rfl, p, 4, rfl, src1.ex el, by decide, by decide, fun b1 G2 b10 b11 src2 k2 => ?_⟩
      obtain ⟨c, hc, c1, c2⟩ := pick4 (x := 4) (y := 12) (z := nn + 2) (v := 10 ^ (9 : Int).toNat) b10 b11 1000000000 (by decide) (by decide) (by omega) (by decide)
      refine ⟨l, _, b1, _, rfl, rfl, SqL.of (k2 _ _ (src_ne nl src1) upd_same), hc, p, c, rfl, src2, c1, Int.le_trans c2 (by decide), fun c' G3 c'0 c'1 src3 k3 => ⟨_, _, rfl, rfl, ?_⟩⟩
      dsimp only
      generalize ht' : t + 1 + c' = t'
      have lt : t < t' := by omega
      have thi' : t' ≤ 100000000000000000000 + 1000000001 * ((j : Int) + 1) := by omega
      have far1 : Far t' := ⟨by omega, by omega⟩
      have farz : Far z.last := ⟨by omega, by omega⟩
      have e03 : Ex G0 G3 := ex_kp k3 np (ex_kp k2 np (e1.trans el))
      -- back
      refine ⟨_, _, rfl, rfl, ⟨by decide, by decide, by decide⟩, (by decide : 2 ≤ sizeLine), fun l4 nl4 => ?_⟩
      have el4 := Ex.new (o := .lst [.int 9, .int (10 ^ (9 : Int).toNat)]) nl4
      refine ⟨_, rfl, p, 2, rfl, src3.ex el4, by decide, by decide, fun r4 G4 r40 r41 src4 k4 => ?_⟩
      obtain ⟨bk, hbk, bk1, bk2⟩ := pick2 (x := 9) (y := 10 ^ (9 : Int).toNat) r40 r41 (10 ^ 9) (by decide) (by decide)
      refine ⟨l4, _, r4, _, rfl, rfl, SqL.of (k4 _ _ (src_ne nl4 src3) upd_same), hbk, ?_⟩
      have e04 : Ex G0 G4 := ex_kp k4 np (e03.trans el4)
      dsimp only [gName]
      -- deed
      refine q_asgX (φ := fun v H' => ∃ dd, DdAt K H' v dd ∧ dd.Ok ∧ Src H' p ∧ Ex G0 H') (fun Q' q' => ?_) ?_
      · refine ⟨_, rfl, p, 9, rfl, src4, by decide, by decide, fun b3 G5 b30 b31 src5 k5 => ⟨_, _, rfl, rfl, _, rfl, ite2 (fun _ => ?_) (fun _ => ?_)⟩⟩
        · exact ⟨_, rfl, _, rfl, p, bk, rfl, src5, by omega, bk2, fun v dd H' hdd okd _ srcH kH => q' _ _ ⟨dd, hdd, okd, srcH, ex_kp kH np (ex_kp k5 np e04)⟩⟩
        · exact ⟨_, rfl, _, rfl, p, bk, rfl, src5, by omega, bk2, fun v dd H' hdd okd _ srcH kH => q' _ _ ⟨dd, hdd, okd, srcH, ex_kp kH np (ex_kp k5 np e04)⟩⟩
      rintro vd G5 ⟨dd, hdd, okd, src5, e05⟩
      have st5 := st.ex e05
      -- later
      refine q_asgK (kvs := tab (z.mAft dd t')) (fun Hz ez Q' q' => ⟨_, rfl, _, rfl, _, rfl, _, rfl, qq, .ref ra, vd, t', tab z.m, z, nn, dd, rfl, ez _ _ st5.mks, by rw [zu]; exact st5.row.ex ez, by rw [zu]; exact ok3, hdd.ex ez, fun _ => rfl, (by decide : 3 ≤ 3), fun p' H' n' e' h' => q' p' H' n' e' (by rw [h', puts_sbs])⟩) fun pl G6 npl e6 hpl => ?_
      have hdd6 := hdd.ex e6
      have st6 := st5.ex e6
      -- setting
      refine q_asgL (xs := nmV dd.backs) (fun Hz ez Q' q' => ⟨_, rfl, vd, dd, rfl, hdd6.ex ez, fun p' H' n' e' h' => ⟨p', _, rfl, .inl h', fun l nl => q' l _ (fresh_back e' nl) (e'.trans (Ex.new nl)) (by rw [upd_same, List.map_map]; rfl)⟩⟩) fun ls0 G7 nls0 e7 hls0 => ?_
      have hdd7 := hdd6.ex e7
      have st7 := st6.ex e7
      obtain ⟨da, rfl, hSd⟩ := id hdd7
      refine q_cut (M := fun σ' H' => ∃ ls, Ex G7 H' ∧ G6 ls = none ∧ H' ls = some (.lst (nmV (z.sbs dd t'))) ∧ σ' = [some (.ref a), some (.ref p), some (.ref ra), some (.int t'), some (.ref da), some (.ref x), some (.ref f0), some (.ref qq), some (.ref q14), some (.int (1 + (j : Int))), some (.int bk), some (.ref pl), some (.ref ls), y13, y14]) ?_ ?_
      · refine s_when (et_and (et_test (ev_is (w := .bl dd.isRead) (ev_op (ev_op (ev_var rfl) ev_c (rv_ixT hSd (atI_nat (j := 0) rfl))) ev_c (rv_eq rfl)) (congrArg V.bl (dd_isRead dd)))) fun zr => et_B (b := z.ru.sets z.m t') (ev_call (ea_cons (ev_var rfl) (ea_cons (ev_var rfl) (ea_cons (ev_var rfl) ea_nil))) fun H3 e3 Q' q' E' =>
          ⟨qq, .ref ra, t', z.m, z.ru, nn, rfl, e3 _ _ st7.mks, by rw [zu]; exact st7.row.ex e3, by rw [zu]; exact ok3, q'⟩)) (fun hz H3 e3 => ?_) fun hz H3 e3 => ?_
        · refine (el_lst (ea_cons (ev_c (v := .str "read")) ea_nil) (by decide)) H3 (Ex.refl H3) _ fun l H4 nl4 e4 h4 => ?_
          refine ⟨l, e3.trans e4, fresh_back (e7.trans e3) nl4, ?_, rfl⟩
          rw [h4]
          unfold Fl.sbs
          rw [if_pos hz]
          rfl
        · refine ⟨ls0, e3, nls0, ?_, rfl⟩
          rw [e3 _ _ hls0]
          unfold Fl.sbs
          rw [if_neg (by rw [hz]; exact Bool.false_ne_true)]
      rintro σ' G8 ⟨ls, e8, nls, hls, rfl⟩
      have st8 := st7.ex e8
      have hdd8 := hdd7.ex e8
      have src8 := ((src5.ex e6).ex e7).ex e8
      have lsp : ls ≠ p := fun zz => by
        obtain ⟨_, _, hh, _⟩ := src5.ex e6
        rw [← zz, nls] at hh
        cases hh
      -- twin
      obtain ⟨⟨dxf, hxf⟩, _⟩ := id st8.fl
      refine Ag.q_asgP (φ := fun v H2 => ∃ f' d', v = .ref f' ∧ G8 f' = none ∧ G8 d' = none ∧ FlAt CF CR H2 f' d' qr z) (evp_meth (ev_var rfl) hxf fi_no ea_nil fun H1 e1 Q' q' => ⟨x, d, qr, z, rfl, st8.fl.ex e1, farz, fun f' d' H' n1 n2 e2 fl => q' _ H' e2 ⟨f', d', rfl, fresh_back e1 n1, fresh_back e1 n2, fl⟩⟩) fun vt G9 e9 ⟨ft, dt, evt, nft, ndt, flt⟩ => ?_
      subst evt
      have st9 := st8.ex e9
      refine q_ifF (et_test (ev_neF TF (ev_var rfl) (ev_var rfl) flt st9.fl)) (by rw [eqB_refl]; rfl) fun G10 e10 => ?_
      have st10 := st9.ex e10
      have flt10 := flt.ex e10
      have e810 := e9.trans e10
      have ntf : ft ≠ x ∧ dt ≠ d := by
        obtain ⟨⟨_, h1⟩, h2, _⟩ := id st8.fl
        exact ⟨(ne_of_none h1 nft).symm, (ne_of_none h2 ndt).symm⟩
      -- file.do
      obtain ⟨⟨dxg, hxg⟩, _⟩ := id st10.fl
      refine ⟨_, rfl, x, dxg, _, rfl, hxg, fi_no, _, rfl, ?_⟩
      refine rd_at (C := C) (src8.ex e810) rfl rfl far1 fun va G11 hva src11 k11 => ?_
      have e011 : Ex G0 G11 := ex_kp k11 np ((((((e05.trans e6).trans e7).trans e8).trans e9).trans e10))
      have st11 := st.ex e011
      have flt11 := flt10.kp k11 (src8.ex e810)
      have hdd11 := (hdd8.ex e810).src k11 (src8.ex e810)
      have hls11 := k11 _ _ lsp (e810 _ _ hls)
      have plp : pl ≠ p := fun zz => by
        obtain ⟨_, _, hh, _⟩ := src5
        rw [← zz, npl] at hh
        cases hh
      have hpl11 := k11 _ _ plp (e810 _ _ (e8 _ _ (e7 _ _ hpl)))
      refine ⟨x, d, qr, .ref da, va, z, dd, t', rfl, st11.fl, hdd11, okd, hva, by omega, fun ql G12 nql k12 F12 hql => ?_⟩
      have hls12 := lst_kp2 hls11 k12 st11.fl
      have flt12 := flt11.kp2 k12 st11.fl ntf.1 ntf.2
      obtain ⟨⟨_, hx11⟩, hd11x, _⟩ := id st11.fl
      have dk12 : ∀ {b : Addr} {ks : List (Key × V)}, G11 b = some (.dK ks) → b ≠ d → G12 b = some (.dK ks) := fun {b ks} h n => k12 _ _ (ne_of h hx11 (fun q => nomatch q)) n h
      have pld : pl ≠ d := by
        obtain ⟨_, h2, _⟩ := id st5.fl
        exact (ne_of_none h2 npl).symm
      have hpl12 := dk12 hpl11 pld
      have hqq12 := dk12 st11.mks st11.qd
      have st12 : St08 K CR CF a (ns.map V.int) (.ref ra) u nn x d qr f0 d0 r0' pl q14 G12 (z.does dd t') s0 :=
        ⟨sql_kp2 st11.sc k12 st11.fl, (let ⟨b, eb, zz⟩ := st11.row; ⟨b, eb, sqt_kp2 zz k12 st11.fl⟩), F12, st11.fz.kp2 k12 st11.fl st11.ap.1.symm st11.ap.2.symm, st11.ap, hpl12, dk12 st11.bg st11.bd, pld, st11.bd⟩
      refine ⟨_, rfl, _, _, nm_at hql, nm_at hls12, sbs_sh z dd t', sbs_sh z dd t', _, rfl, ?_⟩
      rw [SeqAt.eqv_refl _ (SeqAt.canLay_of_shaped (sbs_sh z dd t'))]
      refine iteF ?_
      dsimp only
      -- twin.marks()
      refine q_ifF (et_test (ev_neKN (ek_marks (ev_var rfl) flt12) (ev_var rfl) hqq12 (tab_flat _) (tab_flat _))) (by rw [tabEq]; rfl) fun G13 e13 => ?_
      have st13 := st12.ex e13
      have flt13 := flt12.ex e13
      refine q_asgK (ek_marks (ev_var rfl) st13.fl) fun td G14 ntd e14 htd => ?_
      refine q_dput (k := .inr "read") (v := .int ((z.does dd t').m.rd - 1)) (ev_op (ev_dget (k := .inr "read") (ev_var rfl) ev_c htd rfl) ev_c rv_I0) (ev_var rfl) ev_c htd (by decide : 3 < sizeLine) fun G15 e15 => ?_
      have e1316 := Ex.mut (o := .dK (putK (tab (z.does dd t').m) (.inr "read") (.int ((z.does dd t').m.rd - 1)))) (e14.trans e15) ntd
      have htd16 : (upd G15 td (.dK (putK (tab (z.does dd t').m) (.inr "read") (.int ((z.does dd t').m.rd - 1))))) td = some (.dK (putK (tab (z.does dd t').m) (.inr "read") (.int ((z.does dd t').m.rd - 1)))) := upd_same
      generalize upd G15 td (.dK (putK (tab (z.does dd t').m) (.inr "read") (.int ((z.does dd t').m.rd - 1)))) = G16 at e1316 htd16 ⊢
      refine q_dput (k := .inr "changed") (v := .non) ev_c (ev_var rfl) ev_c htd16 (Nat.lt_of_le_of_lt (putK_len _ _ _) (by decide : 4 < sizeLine)) fun G17 e17 => ?_
      have e1318 := Ex.mut (o := .dK (putK (putK (tab (z.does dd t').m) (.inr "read") (.int ((z.does dd t').m.rd - 1))) (.inr "changed") .non)) (e1316.trans e17) ntd
      generalize upd G17 td (.dK (putK (putK (tab (z.does dd t').m) (.inr "read") (.int ((z.does dd t').m.rd - 1))) (.inr "changed") .non)) = G18 at e1318 ⊢
      refine Ag.q_asg (ev_var rfl) fun G19 e19 => ?_
      have st19 := st13.ex (e1318.trans e19)
      have flt19 := flt13.ex (e1318.trans e19)
      have nzh : (z.does dd t').held = false := by show (if dd.makes = true then false else z.held) = false; rw [zh]; split <;> rfl
      have nzb : Bnd (z.does dd t').m t' := zb.step dd okd (by omega) (by omega)
      refine s_when (et_or (et_not (et_B (b := true) (ev_call (ea_cons (ev_var rfl) (ea_cons (ev_var rfl) (ea_cons (ev_var rfl) ea_nil))) fun H3 e3 Q' q' E' => ⟨x, d, qr, pl, z.does dd t', rfl, st19.fl.ex e3, e3 _ _ st19.mks, nzh, fun k => nzb.far (by omega) k, q'⟩))) fun _ => et_test (ev_eqF TF (ev_var rfl) (ev_var rfl) flt19 st19.fl)) (fun zz => ?_) fun _ G20 e20 => ?_
      · rw [eqB_last (show z.last ≠ (z.does dd t').last by show z.last ≠ t'; omega)] at zz
        cases zz
      · exact ⟨t', z.does dd t', pl, _, _, _, _, _, _, _, _, rfl, by omega, by omega, zu, rfl, nzh, nzb, st19.ex e20⟩
    · rintro σ G0 ⟨t, z, qq, y1, y4, y9, y10, y11, y12, y13, y14, rfl, tlo, thi, zu, zl, zh, zb, st⟩
      refine s_ret (v := .bl true) (ev_is (ev_andV (a := true) (ev_call (ea_cons (ev_var rfl) (ea_cons (ev_var rfl) ea_nil)) fun H3 e3 Q' q' E' => ⟨vr, u, nn, t, rfl, st.row.ex e3, ok3.2.1, ok3.2.2, ⟨by omega, by omega⟩, q'⟩) fun _ => ev_andV (ev_eqKN (ek_marks (ev_var rfl) st.fz) (ev_var rfl) st.bg (tab_flat _) (tab_flat _)) fun _ => ev_neF TF (ev_var rfl) (ev_var rfl) st.fl st.fz) ?_) fun H' _ => q H'
      rw [tabEq, eqB_last (show z.last ≠ s0.last by omega)]
      rfl
end
end Ag
namespace Ag
open PySem PySem.Spec PyProof.Rows L2
theorem all_mk {l : PySem.W.OpenLaw} {w : World} {K : PySem.W.Frag} {h : Heap} {mg : Str → Option Value} {fa C_Moment C_Rule C_Marked C_File f_is_whole f_is_between f_is_time f_is_deed f_makes f_backs f_seconds_of f_check_rule f__law_source f__law_draw f__law_pick f__law_rule f__law_rule_row f__law_maker f__law_user f_is_looks f_all_looks f__law_sets f__law_backs f__law_done f__law_latest f__law_is f__law_unlike f_law f_Moment___init__ f_Moment_seconds p_Moment_seconds f_Moment_behind f_Moment___le__ f_Moment___eq__ f_Rule___init__ f_Rule_always p_Rule_always f_Rule_never p_Rule_never f_Rule_seldom p_Rule_seldom f_Rule_word p_Rule_word f_Rule_after p_Rule_after f_Rule_sets f_Rule___call__ f_Rule___eq__ f_File___init__ f_File___getitem__ f_File_marks f_File_do f_File_double f_File___eq__ f_File_last p_File_last f_File_held p_File_held f_File_latest p_PLAIN p_MARKS : Addr} (X : K.In h) (G : h.Ns mainGlobals mg) (hfa : mg "law" = some (.ref fa))
    {od_is_whole an_is_whole : Option Addr} {sl_is_whole : Array (Option Value)} {oc_is_whole kV_is_whole dc_is_whole pm_is_whole cd_is_whole ct_is_whole : Value} {od_is_between an_is_between : Option Addr} {sl_is_between : Array (Option Value)} {oc_is_between kV_is_between dc_is_between pm_is_between cd_is_between ct_is_between : Value} {od_is_time an_is_time : Option Addr} {sl_is_time : Array (Option Value)} {oc_is_time kV_is_time dc_is_time pm_is_time cd_is_time ct_is_time : Value} {od_is_deed an_is_deed : Option Addr} {sl_is_deed : Array (Option Value)} {oc_is_deed kV_is_deed dc_is_deed pm_is_deed cd_is_deed ct_is_deed : Value} {od_makes an_makes : Option Addr} {sl_makes : Array (Option Value)} {oc_makes kV_makes dc_makes pm_makes cd_makes ct_makes : Value} {od_backs an_backs : Option Addr} {sl_backs : Array (Option Value)} {oc_backs kV_backs dc_backs pm_backs cd_backs ct_backs : Value} {od_seconds_of an_seconds_of : Option Addr} {sl_seconds_of : Array (Option Value)} {oc_seconds_of kV_seconds_of dc_seconds_of pm_seconds_of cd_seconds_of ct_seconds_of : Value} {od_check_rule an_check_rule : Option Addr} {sl_check_rule : Array (Option Value)} {oc_check_rule kV_check_rule dc_check_rule pm_check_rule cd_check_rule ct_check_rule : Value} {od__law_source an__law_source : Option Addr} {sl__law_source : Array (Option Value)} {oc__law_source kV__law_source dc__law_source pm__law_source cd__law_source ct__law_source : Value} {od__law_draw an__law_draw : Option Addr} {sl__law_draw : Array (Option Value)} {oc__law_draw kV__law_draw dc__law_draw pm__law_draw cd__law_draw ct__law_draw : Value} {od__law_pick an__law_pick : Option Addr} {sl__law_pick : Array (Option Value)} {oc__law_pick kV__law_pick dc__law_pick pm__law_pick cd__law_pick ct__law_pick : Value} {od__law_rule an__law_rule : Option Addr} {sl__law_rule : Array (Option Value)} {oc__law_rule kV__law_rule dc__law_rule pm__law_rule cd__law_rule ct__law_rule : Value} {od__law_rule_row an__law_rule_row : Option Addr} {sl__law_rule_row : Array (Option Value)} {oc__law_rule_row kV__law_rule_row dc__law_rule_row pm__law_rule_row cd__law_rule_row ct__law_rule_row : Value} {od__law_maker an__law_maker : Option Addr} {sl__law_maker : Array (Option Value)} {oc__law_maker kV__law_maker dc__law_maker pm__law_maker cd__law_maker ct__law_maker : Value} {od__law_user an__law_user : Option Addr} {sl__law_user : Array (Option Value)} {oc__law_user kV__law_user dc__law_user pm__law_user cd__law_user ct__law_user : Value} {od_is_looks an_is_looks : Option Addr} {sl_is_looks : Array (Option Value)} {oc_is_looks kV_is_looks dc_is_looks pm_is_looks cd_is_looks ct_is_looks : Value} {od_all_looks an_all_looks : Option Addr} {sl_all_looks : Array (Option Value)} {oc_all_looks kV_all_looks dc_all_looks pm_all_looks cd_all_looks ct_all_looks : Value} {od__law_sets an__law_sets : Option Addr} {sl__law_sets : Array (Option Value)} {oc__law_sets kV__law_sets dc__law_sets pm__law_sets cd__law_sets ct__law_sets : Value} {od__law_backs an__law_backs : Option Addr} {sl__law_backs : Array (Option Value)} {oc__law_backs kV__law_backs dc__law_backs pm__law_backs cd__law_backs ct__law_backs : Value} {od__law_done an__law_done : Option Addr} {sl__law_done : Array (Option Value)} {oc__law_done kV__law_done dc__law_done pm__law_done cd__law_done ct__law_done : Value} {od__law_latest an__law_latest : Option Addr} {sl__law_latest : Array (Option Value)} {oc__law_latest kV__law_latest dc__law_latest pm__law_latest cd__law_latest ct__law_latest : Value} {od__law_is an__law_is : Option Addr} {sl__law_is : Array (Option Value)} {oc__law_is kV__law_is dc__law_is pm__law_is cd__law_is ct__law_is : Value} {od__law_unlike an__law_unlike : Option Addr} {sl__law_unlike : Array (Option Value)} {oc__law_unlike kV__law_unlike dc__law_unlike pm__law_unlike cd__law_unlike ct__law_unlike : Value} {od_law an_law : Option Addr} {sl_law : Array (Option Value)} {oc_law kV_law dc_law pm_law cd_law ct_law : Value} {od_Moment___init__ an_Moment___init__ : Option Addr} {sl_Moment___init__ : Array (Option Value)} {oc_Moment___init__ kV_Moment___init__ dc_Moment___init__ pm_Moment___init__ cd_Moment___init__ ct_Moment___init__ : Value} {rs_Moment_seconds : List Value} {od_Moment_seconds an_Moment_seconds : Option Addr} {sl_Moment_seconds : Array (Option Value)} {oc_Moment_seconds kV_Moment_seconds dc_Moment_seconds pm_Moment_seconds cd_Moment_seconds ct_Moment_seconds : Value} {od_Moment_behind an_Moment_behind : Option Addr} {sl_Moment_behind : Array (Option Value)} {oc_Moment_behind kV_Moment_behind dc_Moment_behind pm_Moment_behind cd_Moment_behind ct_Moment_behind : Value} {od_Moment___le__ an_Moment___le__ : Option Addr} {sl_Moment___le__ : Array (Option Value)} {oc_Moment___le__ kV_Moment___le__ dc_Moment___le__ pm_Moment___le__ cd_Moment___le__ ct_Moment___le__ : Value} {od_Moment___eq__ an_Moment___eq__ : Option Addr} {sl_Moment___eq__ : Array (Option Value)} {oc_Moment___eq__ kV_Moment___eq__ dc_Moment___eq__ pm_Moment___eq__ cd_Moment___eq__ ct_Moment___eq__ : Value} {od_Rule___init__ an_Rule___init__ : Option Addr} {sl_Rule___init__ : Array (Option Value)} {oc_Rule___init__ kV_Rule___init__ dc_Rule___init__ pm_Rule___init__ cd_Rule___init__ ct_Rule___init__ : Value} {rs_Rule_always : List Value} {od_Rule_always an_Rule_always : Option Addr} {sl_Rule_always : Array (Option Value)} {oc_Rule_always kV_Rule_always dc_Rule_always pm_Rule_always cd_Rule_always ct_Rule_always : Value} {rs_Rule_never : List Value} {od_Rule_never an_Rule_never : Option Addr} {sl_Rule_never : Array (Option Value)} {oc_Rule_never kV_Rule_never dc_Rule_never pm_Rule_never cd_Rule_never ct_Rule_never : Value} {rs_Rule_seldom : List Value} {od_Rule_seldom an_Rule_seldom : Option Addr} {sl_Rule_seldom : Array (Option Value)} {oc_Rule_seldom kV_Rule_seldom dc_Rule_seldom pm_Rule_seldom cd_Rule_seldom ct_Rule_seldom : Value} {rs_Rule_word : List Value} {od_Rule_word an_Rule_word : Option Addr} {sl_Rule_word : Array (Option Value)} {oc_Rule_word kV_Rule_word dc_Rule_word pm_Rule_word cd_Rule_word ct_Rule_word : Value} {rs_Rule_after : List Value} {od_Rule_after an_Rule_after : Option Addr} {sl_Rule_after : Array (Option Value)} {oc_Rule_after kV_Rule_after dc_Rule_after pm_Rule_after cd_Rule_after ct_Rule_after : Value} {od_Rule_sets an_Rule_sets : Option Addr} {sl_Rule_sets : Array (Option Value)} {oc_Rule_sets kV_Rule_sets dc_Rule_sets pm_Rule_sets cd_Rule_sets ct_Rule_sets : Value} {od_Rule___call__ an_Rule___call__ : Option Addr} {sl_Rule___call__ : Array (Option Value)} {oc_Rule___call__ kV_Rule___call__ dc_Rule___call__ pm_Rule___call__ cd_Rule___call__ ct_Rule___call__ : Value} {od_Rule___eq__ an_Rule___eq__ : Option Addr} {sl_Rule___eq__ : Array (Option Value)} {oc_Rule___eq__ kV_Rule___eq__ dc_Rule___eq__ pm_Rule___eq__ cd_Rule___eq__ ct_Rule___eq__ : Value} {od_File___init__ an_File___init__ : Option Addr} {sl_File___init__ : Array (Option Value)} {oc_File___init__ kV_File___init__ dc_File___init__ pm_File___init__ cd_File___init__ ct_File___init__ : Value} {od_File___getitem__ an_File___getitem__ : Option Addr} {sl_File___getitem__ : Array (Option Value)} {oc_File___getitem__ kV_File___getitem__ dc_File___getitem__ pm_File___getitem__ cd_File___getitem__ ct_File___getitem__ : Value} {od_File_marks an_File_marks : Option Addr} {sl_File_marks : Array (Option Value)} {oc_File_marks kV_File_marks dc_File_marks pm_File_marks cd_File_marks ct_File_marks : Value} {od_File_do an_File_do : Option Addr} {sl_File_do : Array (Option Value)} {oc_File_do kV_File_do dc_File_do pm_File_do cd_File_do ct_File_do : Value} {od_File_double an_File_double : Option Addr} {sl_File_double : Array (Option Value)} {oc_File_double kV_File_double dc_File_double pm_File_double cd_File_double ct_File_double : Value} {od_File___eq__ an_File___eq__ : Option Addr} {sl_File___eq__ : Array (Option Value)} {oc_File___eq__ kV_File___eq__ dc_File___eq__ pm_File___eq__ cd_File___eq__ ct_File___eq__ : Value} {rs_File_last : List Value} {od_File_last an_File_last : Option Addr} {sl_File_last : Array (Option Value)} {oc_File_last kV_File_last dc_File_last pm_File_last cd_File_last ct_File_last : Value} {rs_File_held : List Value} {od_File_held an_File_held : Option Addr} {sl_File_held : Array (Option Value)} {oc_File_held kV_File_held dc_File_held pm_File_held cd_File_held ct_File_held : Value} {od_File_latest an_File_latest : Option Addr} {sl_File_latest : Array (Option Value)} {oc_File_latest kV_File_latest dc_File_latest pm_File_latest cd_File_latest ct_File_latest : Value} {i_FARTHEST : Int} {t_FARTHEST : Tok} {i_LONGEST : Int} {t_LONGEST : Tok} {i_LATEST_AFTER : Int} {t_LATEST_AFTER : Tok} {t_PLAIN0 t_PLAIN1 t_PLAIN2 t_PLAIN3 t_PLAIN4 : Tok} {n_PLAIN : Nat} {sl_PLAIN : Array (Option Value)} {t_MARKS0 t_MARKS1 t_MARKS2 : Tok} {n_MARKS : Nat} {sl_MARKS : Array (Option Value)}
    (a_Moment : PySem.W.nsIn K mainGlobals "Moment" = some (some (.ref C_Moment)))
    (a_Rule : PySem.W.nsIn K mainGlobals "Rule" = some (some (.ref C_Rule)))
    (a_Marked : PySem.W.nsIn K mainGlobals "Marked" = some (some (.ref C_Marked)))
    (a_File : PySem.W.nsIn K mainGlobals "File" = some (some (.ref C_File)))
    (a_is_whole : PySem.W.nsIn K mainGlobals "is_whole" = some (some (.ref f_is_whole)))
    (l_is_whole : K.lookup f_is_whole = some ⟨oc_is_whole, od_is_whole, .func (PySem.W.fnOf "is_whole" "is_whole" (defArgs s_is_whole) (defBody s_is_whole) (defScope s_is_whole) .none kV_is_whole dc_is_whole pm_is_whole an_is_whole cd_is_whole ct_is_whole), sl_is_whole⟩)
    (c_is_whole : PySem.W.codeIn K cd_is_whole "is_whole" = true)
    (k_is_whole : PySem.W.keepIn K (.ref f_is_whole) = true)
    (a_is_between : PySem.W.nsIn K mainGlobals "is_between" = some (some (.ref f_is_between)))
    (l_is_between : K.lookup f_is_between = some ⟨oc_is_between, od_is_between, .func (PySem.W.fnOf "is_between" "is_between" (defArgs s_is_between) (defBody s_is_between) (defScope s_is_between) .none kV_is_between dc_is_between pm_is_between an_is_between cd_is_between ct_is_between), sl_is_between⟩)
    (c_is_between : PySem.W.codeIn K cd_is_between "is_between" = true)
    (k_is_between : PySem.W.keepIn K (.ref f_is_between) = true)
    (a_is_time : PySem.W.nsIn K mainGlobals "is_time" = some (some (.ref f_is_time)))
    (l_is_time : K.lookup f_is_time = some ⟨oc_is_time, od_is_time, .func (PySem.W.fnOf "is_time" "is_time" (defArgs s_is_time) (defBody s_is_time) (defScope s_is_time) .none kV_is_time dc_is_time pm_is_time an_is_time cd_is_time ct_is_time), sl_is_time⟩)
    (c_is_time : PySem.W.codeIn K cd_is_time "is_time" = true)
    (k_is_time : PySem.W.keepIn K (.ref f_is_time) = true)
    (a_is_deed : PySem.W.nsIn K mainGlobals "is_deed" = some (some (.ref f_is_deed)))
    (l_is_deed : K.lookup f_is_deed = some ⟨oc_is_deed, od_is_deed, .func (PySem.W.fnOf "is_deed" "is_deed" (defArgs s_is_deed) (defBody s_is_deed) (defScope s_is_deed) .none kV_is_deed dc_is_deed pm_is_deed an_is_deed cd_is_deed ct_is_deed), sl_is_deed⟩)
    (c_is_deed : PySem.W.codeIn K cd_is_deed "is_deed" = true)
    (k_is_deed : PySem.W.keepIn K (.ref f_is_deed) = true)
    (a_makes : PySem.W.nsIn K mainGlobals "makes" = some (some (.ref f_makes)))
    (l_makes : K.lookup f_makes = some ⟨oc_makes, od_makes, .func (PySem.W.fnOf "makes" "makes" (defArgs s_makes) (defBody s_makes) (defScope s_makes) .none kV_makes dc_makes pm_makes an_makes cd_makes ct_makes), sl_makes⟩)
    (c_makes : PySem.W.codeIn K cd_makes "makes" = true)
    (k_makes : PySem.W.keepIn K (.ref f_makes) = true)
    (a_backs : PySem.W.nsIn K mainGlobals "backs" = some (some (.ref f_backs)))
    (l_backs : K.lookup f_backs = some ⟨oc_backs, od_backs, .func (PySem.W.fnOf "backs" "backs" (defArgs s_backs) (defBody s_backs) (defScope s_backs) .none kV_backs dc_backs pm_backs an_backs cd_backs ct_backs), sl_backs⟩)
    (c_backs : PySem.W.codeIn K cd_backs "backs" = true)
    (k_backs : PySem.W.keepIn K (.ref f_backs) = true)
    (a_seconds_of : PySem.W.nsIn K mainGlobals "seconds_of" = some (some (.ref f_seconds_of)))
    (l_seconds_of : K.lookup f_seconds_of = some ⟨oc_seconds_of, od_seconds_of, .func (PySem.W.fnOf "seconds_of" "seconds_of" (defArgs s_seconds_of) (defBody s_seconds_of) (defScope s_seconds_of) .none kV_seconds_of dc_seconds_of pm_seconds_of an_seconds_of cd_seconds_of ct_seconds_of), sl_seconds_of⟩)
    (c_seconds_of : PySem.W.codeIn K cd_seconds_of "seconds_of" = true)
    (k_seconds_of : PySem.W.keepIn K (.ref f_seconds_of) = true)
    (a_check_rule : PySem.W.nsIn K mainGlobals "check_rule" = some (some (.ref f_check_rule)))
    (l_check_rule : K.lookup f_check_rule = some ⟨oc_check_rule, od_check_rule, .func (PySem.W.fnOf "check_rule" "check_rule" (defArgs s_check_rule) (defBody s_check_rule) (defScope s_check_rule) .none kV_check_rule dc_check_rule pm_check_rule an_check_rule cd_check_rule ct_check_rule), sl_check_rule⟩)
    (c_check_rule : PySem.W.codeIn K cd_check_rule "check_rule" = true)
    (k_check_rule : PySem.W.keepIn K (.ref f_check_rule) = true)
    (a__law_source : PySem.W.nsIn K mainGlobals "_law_source" = some (some (.ref f__law_source)))
    (l__law_source : K.lookup f__law_source = some ⟨oc__law_source, od__law_source, .func (PySem.W.fnOf "_law_source" "_law_source" (defArgs s__law_source) (defBody s__law_source) (defScope s__law_source) .none kV__law_source dc__law_source pm__law_source an__law_source cd__law_source ct__law_source), sl__law_source⟩)
    (c__law_source : PySem.W.codeIn K cd__law_source "_law_source" = true)
    (k__law_source : PySem.W.keepIn K (.ref f__law_source) = true)
    (a__law_draw : PySem.W.nsIn K mainGlobals "_law_draw" = some (some (.ref f__law_draw)))
    (l__law_draw : K.lookup f__law_draw = some ⟨oc__law_draw, od__law_draw, .func (PySem.W.fnOf "_law_draw" "_law_draw" (defArgs s__law_draw) (defBody s__law_draw) (defScope s__law_draw) .none kV__law_draw dc__law_draw pm__law_draw an__law_draw cd__law_draw ct__law_draw), sl__law_draw⟩)
    (c__law_draw : PySem.W.codeIn K cd__law_draw "_law_draw" = true)
    (k__law_draw : PySem.W.keepIn K (.ref f__law_draw) = true)
    (a__law_pick : PySem.W.nsIn K mainGlobals "_law_pick" = some (some (.ref f__law_pick)))
    (l__law_pick : K.lookup f__law_pick = some ⟨oc__law_pick, od__law_pick, .func (PySem.W.fnOf "_law_pick" "_law_pick" (defArgs s__law_pick) (defBody s__law_pick) (defScope s__law_pick) .none kV__law_pick dc__law_pick pm__law_pick an__law_pick cd__law_pick ct__law_pick), sl__law_pick⟩)
    (c__law_pick : PySem.W.codeIn K cd__law_pick "_law_pick" = true)
    (k__law_pick : PySem.W.keepIn K (.ref f__law_pick) = true)
    (a__law_rule : PySem.W.nsIn K mainGlobals "_law_rule" = some (some (.ref f__law_rule)))
    (l__law_rule : K.lookup f__law_rule = some ⟨oc__law_rule, od__law_rule, .func (PySem.W.fnOf "_law_rule" "_law_rule" (defArgs s__law_rule) (defBody s__law_rule) (defScope s__law_rule) .none kV__law_rule dc__law_rule pm__law_rule an__law_rule cd__law_rule ct__law_rule), sl__law_rule⟩)
    (c__law_rule : PySem.W.codeIn K cd__law_rule "_law_rule" = true)
    (k__law_rule : PySem.W.keepIn K (.ref f__law_rule) = true)
    (a__law_rule_row : PySem.W.nsIn K mainGlobals "_law_rule_row" = some (some (.ref f__law_rule_row)))
    (l__law_rule_row : K.lookup f__law_rule_row = some ⟨oc__law_rule_row, od__law_rule_row, .func (PySem.W.fnOf "_law_rule_row" "_law_rule_row" (defArgs s__law_rule_row) (defBody s__law_rule_row) (defScope s__law_rule_row) .none kV__law_rule_row dc__law_rule_row pm__law_rule_row an__law_rule_row cd__law_rule_row ct__law_rule_row), sl__law_rule_row⟩)
    (c__law_rule_row : PySem.W.codeIn K cd__law_rule_row "_law_rule_row" = true)
    (k__law_rule_row : PySem.W.keepIn K (.ref f__law_rule_row) = true)
    (a__law_maker : PySem.W.nsIn K mainGlobals "_law_maker" = some (some (.ref f__law_maker)))
    (l__law_maker : K.lookup f__law_maker = some ⟨oc__law_maker, od__law_maker, .func (PySem.W.fnOf "_law_maker" "_law_maker" (defArgs s__law_maker) (defBody s__law_maker) (defScope s__law_maker) .none kV__law_maker dc__law_maker pm__law_maker an__law_maker cd__law_maker ct__law_maker), sl__law_maker⟩)
    (c__law_maker : PySem.W.codeIn K cd__law_maker "_law_maker" = true)
    (k__law_maker : PySem.W.keepIn K (.ref f__law_maker) = true)
    (a__law_user : PySem.W.nsIn K mainGlobals "_law_user" = some (some (.ref f__law_user)))
    (l__law_user : K.lookup f__law_user = some ⟨oc__law_user, od__law_user, .func (PySem.W.fnOf "_law_user" "_law_user" (defArgs s__law_user) (defBody s__law_user) (defScope s__law_user) .none kV__law_user dc__law_user pm__law_user an__law_user cd__law_user ct__law_user), sl__law_user⟩)
    (c__law_user : PySem.W.codeIn K cd__law_user "_law_user" = true)
    (k__law_user : PySem.W.keepIn K (.ref f__law_user) = true)
    (a_is_looks : PySem.W.nsIn K mainGlobals "is_looks" = some (some (.ref f_is_looks)))
    (l_is_looks : K.lookup f_is_looks = some ⟨oc_is_looks, od_is_looks, .func (PySem.W.fnOf "is_looks" "is_looks" (defArgs s_is_looks) (defBody s_is_looks) (defScope s_is_looks) .none kV_is_looks dc_is_looks pm_is_looks an_is_looks cd_is_looks ct_is_looks), sl_is_looks⟩)
    (c_is_looks : PySem.W.codeIn K cd_is_looks "is_looks" = true)
    (k_is_looks : PySem.W.keepIn K (.ref f_is_looks) = true)
    (a_all_looks : PySem.W.nsIn K mainGlobals "all_looks" = some (some (.ref f_all_looks)))
    (l_all_looks : K.lookup f_all_looks = some ⟨oc_all_looks, od_all_looks, .func (PySem.W.fnOf "all_looks" "all_looks" (defArgs s_all_looks) (defBody s_all_looks) (defScope s_all_looks) .none kV_all_looks dc_all_looks pm_all_looks an_all_looks cd_all_looks ct_all_looks), sl_all_looks⟩)
    (c_all_looks : PySem.W.codeIn K cd_all_looks "all_looks" = true)
    (k_all_looks : PySem.W.keepIn K (.ref f_all_looks) = true)
    (a__law_sets : PySem.W.nsIn K mainGlobals "_law_sets" = some (some (.ref f__law_sets)))
    (l__law_sets : K.lookup f__law_sets = some ⟨oc__law_sets, od__law_sets, .func (PySem.W.fnOf "_law_sets" "_law_sets" (defArgs s__law_sets) (defBody s__law_sets) (defScope s__law_sets) .none kV__law_sets dc__law_sets pm__law_sets an__law_sets cd__law_sets ct__law_sets), sl__law_sets⟩)
    (c__law_sets : PySem.W.codeIn K cd__law_sets "_law_sets" = true)
    (k__law_sets : PySem.W.keepIn K (.ref f__law_sets) = true)
    (a__law_backs : PySem.W.nsIn K mainGlobals "_law_backs" = some (some (.ref f__law_backs)))
    (l__law_backs : K.lookup f__law_backs = some ⟨oc__law_backs, od__law_backs, .func (PySem.W.fnOf "_law_backs" "_law_backs" (defArgs s__law_backs) (defBody s__law_backs) (defScope s__law_backs) .none kV__law_backs dc__law_backs pm__law_backs an__law_backs cd__law_backs ct__law_backs), sl__law_backs⟩)
    (c__law_backs : PySem.W.codeIn K cd__law_backs "_law_backs" = true)
    (k__law_backs : PySem.W.keepIn K (.ref f__law_backs) = true)
    (a__law_done : PySem.W.nsIn K mainGlobals "_law_done" = some (some (.ref f__law_done)))
    (l__law_done : K.lookup f__law_done = some ⟨oc__law_done, od__law_done, .func (PySem.W.fnOf "_law_done" "_law_done" (defArgs s__law_done) (defBody s__law_done) (defScope s__law_done) .none kV__law_done dc__law_done pm__law_done an__law_done cd__law_done ct__law_done), sl__law_done⟩)
    (c__law_done : PySem.W.codeIn K cd__law_done "_law_done" = true)
    (k__law_done : PySem.W.keepIn K (.ref f__law_done) = true)
    (a__law_latest : PySem.W.nsIn K mainGlobals "_law_latest" = some (some (.ref f__law_latest)))
    (l__law_latest : K.lookup f__law_latest = some ⟨oc__law_latest, od__law_latest, .func (PySem.W.fnOf "_law_latest" "_law_latest" (defArgs s__law_latest) (defBody s__law_latest) (defScope s__law_latest) .none kV__law_latest dc__law_latest pm__law_latest an__law_latest cd__law_latest ct__law_latest), sl__law_latest⟩)
    (c__law_latest : PySem.W.codeIn K cd__law_latest "_law_latest" = true)
    (k__law_latest : PySem.W.keepIn K (.ref f__law_latest) = true)
    (a__law_is : PySem.W.nsIn K mainGlobals "_law_is" = some (some (.ref f__law_is)))
    (l__law_is : K.lookup f__law_is = some ⟨oc__law_is, od__law_is, .func (PySem.W.fnOf "_law_is" "_law_is" (defArgs s__law_is) (defBody s__law_is) (defScope s__law_is) .none kV__law_is dc__law_is pm__law_is an__law_is cd__law_is ct__law_is), sl__law_is⟩)
    (c__law_is : PySem.W.codeIn K cd__law_is "_law_is" = true)
    (k__law_is : PySem.W.keepIn K (.ref f__law_is) = true)
    (a__law_unlike : PySem.W.nsIn K mainGlobals "_law_unlike" = some (some (.ref f__law_unlike)))
    (l__law_unlike : K.lookup f__law_unlike = some ⟨oc__law_unlike, od__law_unlike, .func (PySem.W.fnOf "_law_unlike" "_law_unlike" (defArgs s__law_unlike) (defBody s__law_unlike) (defScope s__law_unlike) .none kV__law_unlike dc__law_unlike pm__law_unlike an__law_unlike cd__law_unlike ct__law_unlike), sl__law_unlike⟩)
    (c__law_unlike : PySem.W.codeIn K cd__law_unlike "_law_unlike" = true)
    (k__law_unlike : PySem.W.keepIn K (.ref f__law_unlike) = true)
    (a_law : PySem.W.nsIn K mainGlobals "law" = some (some (.ref f_law)))
    (l_law : K.lookup f_law = some ⟨oc_law, od_law, .func (PySem.W.fnOf "law" "law" (defArgs s_law) (defBody s_law) (defScope s_law) .none kV_law dc_law pm_law an_law cd_law ct_law), sl_law⟩)
    (c_law : PySem.W.codeIn K cd_law "law" = true)
    (k_law : PySem.W.keepIn K (.ref f_law) = true)
    (a_Moment___init__ : PySem.W.findIn K (.ref C_Moment) "__init__" = some (some (.ref f_Moment___init__)))
    (i_Moment___init__ : PySem.W.isFn K (.ref f_Moment___init__) = true)
    (l_Moment___init__ : K.lookup f_Moment___init__ = some ⟨oc_Moment___init__, od_Moment___init__, .func (PySem.W.fnOf "__init__" "Moment.__init__" (defArgs s_Moment___init__) (defBody s_Moment___init__) (defScope s_Moment___init__) .none kV_Moment___init__ dc_Moment___init__ pm_Moment___init__ an_Moment___init__ cd_Moment___init__ ct_Moment___init__), sl_Moment___init__⟩)
    (c_Moment___init__ : PySem.W.codeIn K cd_Moment___init__ "Moment.__init__" = true)
    (k_Moment___init__ : PySem.W.keepIn K (.ref f_Moment___init__) = true)
    (a_Moment_seconds : PySem.W.findIn K (.ref C_Moment) "seconds" = some (some (.ref p_Moment_seconds)))
    (g_Moment_seconds : PySem.W.specialIn K (.ref p_Moment_seconds) "__get__" = some (some (.builtin "property.__get__")))
    (t_Moment_seconds : PySem.W.takesIn K (.ref p_Moment_seconds) = some true)
    (r_Moment_seconds : PySem.W.recIn K p_Moment_seconds "property" = some (.ref f_Moment_seconds :: rs_Moment_seconds))
    (l_Moment_seconds : K.lookup f_Moment_seconds = some ⟨oc_Moment_seconds, od_Moment_seconds, .func (PySem.W.fnOf "seconds" "Moment.seconds" (defArgs s_Moment_seconds) (defBody s_Moment_seconds) (defScope s_Moment_seconds) .none kV_Moment_seconds dc_Moment_seconds pm_Moment_seconds an_Moment_seconds cd_Moment_seconds ct_Moment_seconds), sl_Moment_seconds⟩)
    (c_Moment_seconds : PySem.W.codeIn K cd_Moment_seconds "Moment.seconds" = true)
    (k_Moment_seconds : PySem.W.keepIn K (.ref f_Moment_seconds) = true)
    (a_Moment_behind : PySem.W.findIn K (.ref C_Moment) "behind" = some (some (.ref f_Moment_behind)))
    (i_Moment_behind : PySem.W.isFn K (.ref f_Moment_behind) = true)
    (l_Moment_behind : K.lookup f_Moment_behind = some ⟨oc_Moment_behind, od_Moment_behind, .func (PySem.W.fnOf "behind" "Moment.behind" (defArgs s_Moment_behind) (defBody s_Moment_behind) (defScope s_Moment_behind) .none kV_Moment_behind dc_Moment_behind pm_Moment_behind an_Moment_behind cd_Moment_behind ct_Moment_behind), sl_Moment_behind⟩)
    (c_Moment_behind : PySem.W.codeIn K cd_Moment_behind "Moment.behind" = true)
    (k_Moment_behind : PySem.W.keepIn K (.ref f_Moment_behind) = true)
    (a_Moment___le__ : PySem.W.findIn K (.ref C_Moment) "__le__" = some (some (.ref f_Moment___le__)))
    (i_Moment___le__ : PySem.W.isFn K (.ref f_Moment___le__) = true)
    (l_Moment___le__ : K.lookup f_Moment___le__ = some ⟨oc_Moment___le__, od_Moment___le__, .func (PySem.W.fnOf "__le__" "Moment.__le__" (defArgs s_Moment___le__) (defBody s_Moment___le__) (defScope s_Moment___le__) .none kV_Moment___le__ dc_Moment___le__ pm_Moment___le__ an_Moment___le__ cd_Moment___le__ ct_Moment___le__), sl_Moment___le__⟩)
    (c_Moment___le__ : PySem.W.codeIn K cd_Moment___le__ "Moment.__le__" = true)
    (k_Moment___le__ : PySem.W.keepIn K (.ref f_Moment___le__) = true)
    (a_Moment___eq__ : PySem.W.findIn K (.ref C_Moment) "__eq__" = some (some (.ref f_Moment___eq__)))
    (i_Moment___eq__ : PySem.W.isFn K (.ref f_Moment___eq__) = true)
    (l_Moment___eq__ : K.lookup f_Moment___eq__ = some ⟨oc_Moment___eq__, od_Moment___eq__, .func (PySem.W.fnOf "__eq__" "Moment.__eq__" (defArgs s_Moment___eq__) (defBody s_Moment___eq__) (defScope s_Moment___eq__) .none kV_Moment___eq__ dc_Moment___eq__ pm_Moment___eq__ an_Moment___eq__ cd_Moment___eq__ ct_Moment___eq__), sl_Moment___eq__⟩)
    (c_Moment___eq__ : PySem.W.codeIn K cd_Moment___eq__ "Moment.__eq__" = true)
    (k_Moment___eq__ : PySem.W.keepIn K (.ref f_Moment___eq__) = true)
    (a_Rule___init__ : PySem.W.findIn K (.ref C_Rule) "__init__" = some (some (.ref f_Rule___init__)))
    (i_Rule___init__ : PySem.W.isFn K (.ref f_Rule___init__) = true)
    (l_Rule___init__ : K.lookup f_Rule___init__ = some ⟨oc_Rule___init__, od_Rule___init__, .func (PySem.W.fnOf "__init__" "Rule.__init__" (defArgs s_Rule___init__) (defBody s_Rule___init__) (defScope s_Rule___init__) .none kV_Rule___init__ dc_Rule___init__ pm_Rule___init__ an_Rule___init__ cd_Rule___init__ ct_Rule___init__), sl_Rule___init__⟩)
    (c_Rule___init__ : PySem.W.codeIn K cd_Rule___init__ "Rule.__init__" = true)
    (k_Rule___init__ : PySem.W.keepIn K (.ref f_Rule___init__) = true)
    (a_Rule_always : PySem.W.findCls K (.ref C_Rule) (.type "type") "always" = some (.get (.builtin "staticmethod.__get__") (.ref p_Rule_always) .none (.ref C_Rule)))
    (r_Rule_always : PySem.W.recIn K p_Rule_always "staticmethod" = some (.ref f_Rule_always :: rs_Rule_always))
    (l_Rule_always : K.lookup f_Rule_always = some ⟨oc_Rule_always, od_Rule_always, .func (PySem.W.fnOf "always" "Rule.always" (defArgs s_Rule_always) (defBody s_Rule_always) (defScope s_Rule_always) .none kV_Rule_always dc_Rule_always pm_Rule_always an_Rule_always cd_Rule_always ct_Rule_always), sl_Rule_always⟩)
    (c_Rule_always : PySem.W.codeIn K cd_Rule_always "Rule.always" = true)
    (k_Rule_always : PySem.W.keepIn K (.ref f_Rule_always) = true)
    (a_Rule_never : PySem.W.findCls K (.ref C_Rule) (.type "type") "never" = some (.get (.builtin "staticmethod.__get__") (.ref p_Rule_never) .none (.ref C_Rule)))
    (r_Rule_never : PySem.W.recIn K p_Rule_never "staticmethod" = some (.ref f_Rule_never :: rs_Rule_never))
    (l_Rule_never : K.lookup f_Rule_never = some ⟨oc_Rule_never, od_Rule_never, .func (PySem.W.fnOf "never" "Rule.never" (defArgs s_Rule_never) (defBody s_Rule_never) (defScope s_Rule_never) .none kV_Rule_never dc_Rule_never pm_Rule_never an_Rule_never cd_Rule_never ct_Rule_never), sl_Rule_never⟩)
    (c_Rule_never : PySem.W.codeIn K cd_Rule_never "Rule.never" = true)
    (k_Rule_never : PySem.W.keepIn K (.ref f_Rule_never) = true)
    (a_Rule_seldom : PySem.W.findCls K (.ref C_Rule) (.type "type") "seldom" = some (.get (.builtin "staticmethod.__get__") (.ref p_Rule_seldom) .none (.ref C_Rule)))
    (r_Rule_seldom : PySem.W.recIn K p_Rule_seldom "staticmethod" = some (.ref f_Rule_seldom :: rs_Rule_seldom))
    (l_Rule_seldom : K.lookup f_Rule_seldom = some ⟨oc_Rule_seldom, od_Rule_seldom, .func (PySem.W.fnOf "seldom" "Rule.seldom" (defArgs s_Rule_seldom) (defBody s_Rule_seldom) (defScope s_Rule_seldom) .none kV_Rule_seldom dc_Rule_seldom pm_Rule_seldom an_Rule_seldom cd_Rule_seldom ct_Rule_seldom), sl_Rule_seldom⟩)
    (c_Rule_seldom : PySem.W.codeIn K cd_Rule_seldom "Rule.seldom" = true)
    (k_Rule_seldom : PySem.W.keepIn K (.ref f_Rule_seldom) = true)
    (a_Rule_word : PySem.W.findIn K (.ref C_Rule) "word" = some (some (.ref p_Rule_word)))
    (g_Rule_word : PySem.W.specialIn K (.ref p_Rule_word) "__get__" = some (some (.builtin "property.__get__")))
    (t_Rule_word : PySem.W.takesIn K (.ref p_Rule_word) = some true)
    (r_Rule_word : PySem.W.recIn K p_Rule_word "property" = some (.ref f_Rule_word :: rs_Rule_word))
    (l_Rule_word : K.lookup f_Rule_word = some ⟨oc_Rule_word, od_Rule_word, .func (PySem.W.fnOf "word" "Rule.word" (defArgs s_Rule_word) (defBody s_Rule_word) (defScope s_Rule_word) .none kV_Rule_word dc_Rule_word pm_Rule_word an_Rule_word cd_Rule_word ct_Rule_word), sl_Rule_word⟩)
    (c_Rule_word : PySem.W.codeIn K cd_Rule_word "Rule.word" = true)
    (k_Rule_word : PySem.W.keepIn K (.ref f_Rule_word) = true)
    (a_Rule_after : PySem.W.findIn K (.ref C_Rule) "after" = some (some (.ref p_Rule_after)))
    (g_Rule_after : PySem.W.specialIn K (.ref p_Rule_after) "__get__" = some (some (.builtin "property.__get__")))
    (t_Rule_after : PySem.W.takesIn K (.ref p_Rule_after) = some true)
    (r_Rule_after : PySem.W.recIn K p_Rule_after "property" = some (.ref f_Rule_after :: rs_Rule_after))
    (l_Rule_after : K.lookup f_Rule_after = some ⟨oc_Rule_after, od_Rule_after, .func (PySem.W.fnOf "after" "Rule.after" (defArgs s_Rule_after) (defBody s_Rule_after) (defScope s_Rule_after) .none kV_Rule_after dc_Rule_after pm_Rule_after an_Rule_after cd_Rule_after ct_Rule_after), sl_Rule_after⟩)
    (c_Rule_after : PySem.W.codeIn K cd_Rule_after "Rule.after" = true)
    (k_Rule_after : PySem.W.keepIn K (.ref f_Rule_after) = true)
    (a_Rule_sets : PySem.W.findIn K (.ref C_Rule) "sets" = some (some (.ref f_Rule_sets)))
    (i_Rule_sets : PySem.W.isFn K (.ref f_Rule_sets) = true)
    (l_Rule_sets : K.lookup f_Rule_sets = some ⟨oc_Rule_sets, od_Rule_sets, .func (PySem.W.fnOf "sets" "Rule.sets" (defArgs s_Rule_sets) (defBody s_Rule_sets) (defScope s_Rule_sets) .none kV_Rule_sets dc_Rule_sets pm_Rule_sets an_Rule_sets cd_Rule_sets ct_Rule_sets), sl_Rule_sets⟩)
    (c_Rule_sets : PySem.W.codeIn K cd_Rule_sets "Rule.sets" = true)
    (k_Rule_sets : PySem.W.keepIn K (.ref f_Rule_sets) = true)
    (a_Rule___call__ : PySem.W.findIn K (.ref C_Rule) "__call__" = some (some (.ref f_Rule___call__)))
    (fn_Rule___call__ : PySem.W.fnIn K f_Rule___call__ = true)
    (i_Rule___call__ : PySem.W.isFn K (.ref f_Rule___call__) = true)
    (l_Rule___call__ : K.lookup f_Rule___call__ = some ⟨oc_Rule___call__, od_Rule___call__, .func (PySem.W.fnOf "__call__" "Rule.__call__" (defArgs s_Rule___call__) (defBody s_Rule___call__) (defScope s_Rule___call__) .none kV_Rule___call__ dc_Rule___call__ pm_Rule___call__ an_Rule___call__ cd_Rule___call__ ct_Rule___call__), sl_Rule___call__⟩)
    (c_Rule___call__ : PySem.W.codeIn K cd_Rule___call__ "Rule.__call__" = true)
    (k_Rule___call__ : PySem.W.keepIn K (.ref f_Rule___call__) = true)
    (a_Rule___eq__ : PySem.W.findIn K (.ref C_Rule) "__eq__" = some (some (.ref f_Rule___eq__)))
    (i_Rule___eq__ : PySem.W.isFn K (.ref f_Rule___eq__) = true)
    (l_Rule___eq__ : K.lookup f_Rule___eq__ = some ⟨oc_Rule___eq__, od_Rule___eq__, .func (PySem.W.fnOf "__eq__" "Rule.__eq__" (defArgs s_Rule___eq__) (defBody s_Rule___eq__) (defScope s_Rule___eq__) .none kV_Rule___eq__ dc_Rule___eq__ pm_Rule___eq__ an_Rule___eq__ cd_Rule___eq__ ct_Rule___eq__), sl_Rule___eq__⟩)
    (c_Rule___eq__ : PySem.W.codeIn K cd_Rule___eq__ "Rule.__eq__" = true)
    (k_Rule___eq__ : PySem.W.keepIn K (.ref f_Rule___eq__) = true)
    (a_File___init__ : PySem.W.findIn K (.ref C_File) "__init__" = some (some (.ref f_File___init__)))
    (i_File___init__ : PySem.W.isFn K (.ref f_File___init__) = true)
    (l_File___init__ : K.lookup f_File___init__ = some ⟨oc_File___init__, od_File___init__, .func (PySem.W.fnOf "__init__" "File.__init__" (defArgs s_File___init__) (defBody s_File___init__) (defScope s_File___init__) .none kV_File___init__ dc_File___init__ pm_File___init__ an_File___init__ cd_File___init__ ct_File___init__), sl_File___init__⟩)
    (c_File___init__ : PySem.W.codeIn K cd_File___init__ "File.__init__" = true)
    (k_File___init__ : PySem.W.keepIn K (.ref f_File___init__) = true)
    (a_File___getitem__ : PySem.W.findIn K (.ref C_File) "__getitem__" = some (some (.ref f_File___getitem__)))
    (fn_File___getitem__ : PySem.W.fnIn K f_File___getitem__ = true)
    (i_File___getitem__ : PySem.W.isFn K (.ref f_File___getitem__) = true)
    (l_File___getitem__ : K.lookup f_File___getitem__ = some ⟨oc_File___getitem__, od_File___getitem__, .func (PySem.W.fnOf "__getitem__" "File.__getitem__" (defArgs s_File___getitem__) (defBody s_File___getitem__) (defScope s_File___getitem__) .none kV_File___getitem__ dc_File___getitem__ pm_File___getitem__ an_File___getitem__ cd_File___getitem__ ct_File___getitem__), sl_File___getitem__⟩)
    (c_File___getitem__ : PySem.W.codeIn K cd_File___getitem__ "File.__getitem__" = true)
    (k_File___getitem__ : PySem.W.keepIn K (.ref f_File___getitem__) = true)
    (a_File_marks : PySem.W.findIn K (.ref C_File) "marks" = some (some (.ref f_File_marks)))
    (i_File_marks : PySem.W.isFn K (.ref f_File_marks) = true)
    (l_File_marks : K.lookup f_File_marks = some ⟨oc_File_marks, od_File_marks, .func (PySem.W.fnOf "marks" "File.marks" (defArgs s_File_marks) (defBody s_File_marks) (defScope s_File_marks) .none kV_File_marks dc_File_marks pm_File_marks an_File_marks cd_File_marks ct_File_marks), sl_File_marks⟩)
    (c_File_marks : PySem.W.codeIn K cd_File_marks "File.marks" = true)
    (k_File_marks : PySem.W.keepIn K (.ref f_File_marks) = true)
    (a_File_do : PySem.W.findIn K (.ref C_File) "do" = some (some (.ref f_File_do)))
    (i_File_do : PySem.W.isFn K (.ref f_File_do) = true)
    (l_File_do : K.lookup f_File_do = some ⟨oc_File_do, od_File_do, .func (PySem.W.fnOf "do" "File.do" (defArgs s_File_do) (defBody s_File_do) (defScope s_File_do) .none kV_File_do dc_File_do pm_File_do an_File_do cd_File_do ct_File_do), sl_File_do⟩)
    (c_File_do : PySem.W.codeIn K cd_File_do "File.do" = true)
    (k_File_do : PySem.W.keepIn K (.ref f_File_do) = true)
    (a_File_double : PySem.W.findIn K (.ref C_File) "double" = some (some (.ref f_File_double)))
    (i_File_double : PySem.W.isFn K (.ref f_File_double) = true)
    (l_File_double : K.lookup f_File_double = some ⟨oc_File_double, od_File_double, .func (PySem.W.fnOf "double" "File.double" (defArgs s_File_double) (defBody s_File_double) (defScope s_File_double) .none kV_File_double dc_File_double pm_File_double an_File_double cd_File_double ct_File_double), sl_File_double⟩)
    (c_File_double : PySem.W.codeIn K cd_File_double "File.double" = true)
    (k_File_double : PySem.W.keepIn K (.ref f_File_double) = true)
    (a_File___eq__ : PySem.W.findIn K (.ref C_File) "__eq__" = some (some (.ref f_File___eq__)))
    (i_File___eq__ : PySem.W.isFn K (.ref f_File___eq__) = true)
    (l_File___eq__ : K.lookup f_File___eq__ = some ⟨oc_File___eq__, od_File___eq__, .func (PySem.W.fnOf "__eq__" "File.__eq__" (defArgs s_File___eq__) (defBody s_File___eq__) (defScope s_File___eq__) .none kV_File___eq__ dc_File___eq__ pm_File___eq__ an_File___eq__ cd_File___eq__ ct_File___eq__), sl_File___eq__⟩)
    (c_File___eq__ : PySem.W.codeIn K cd_File___eq__ "File.__eq__" = true)
    (k_File___eq__ : PySem.W.keepIn K (.ref f_File___eq__) = true)
    (a_File_last : PySem.W.findIn K (.ref C_File) "last" = some (some (.ref p_File_last)))
    (g_File_last : PySem.W.specialIn K (.ref p_File_last) "__get__" = some (some (.builtin "property.__get__")))
    (t_File_last : PySem.W.takesIn K (.ref p_File_last) = some true)
    (r_File_last : PySem.W.recIn K p_File_last "property" = some (.ref f_File_last :: rs_File_last))
    (l_File_last : K.lookup f_File_last = some ⟨oc_File_last, od_File_last, .func (PySem.W.fnOf "last" "File.last" (defArgs s_File_last) (defBody s_File_last) (defScope s_File_last) .none kV_File_last dc_File_last pm_File_last an_File_last cd_File_last ct_File_last), sl_File_last⟩)
    (c_File_last : PySem.W.codeIn K cd_File_last "File.last" = true)
    (k_File_last : PySem.W.keepIn K (.ref f_File_last) = true)
    (a_File_held : PySem.W.findIn K (.ref C_File) "held" = some (some (.ref p_File_held)))
    (g_File_held : PySem.W.specialIn K (.ref p_File_held) "__get__" = some (some (.builtin "property.__get__")))
    (t_File_held : PySem.W.takesIn K (.ref p_File_held) = some true)
    (r_File_held : PySem.W.recIn K p_File_held "property" = some (.ref f_File_held :: rs_File_held))
    (l_File_held : K.lookup f_File_held = some ⟨oc_File_held, od_File_held, .func (PySem.W.fnOf "held" "File.held" (defArgs s_File_held) (defBody s_File_held) (defScope s_File_held) .none kV_File_held dc_File_held pm_File_held an_File_held cd_File_held ct_File_held), sl_File_held⟩)
    (c_File_held : PySem.W.codeIn K cd_File_held "File.held" = true)
    (k_File_held : PySem.W.keepIn K (.ref f_File_held) = true)
    (a_File_latest : PySem.W.findIn K (.ref C_File) "latest" = some (some (.ref f_File_latest)))
    (i_File_latest : PySem.W.isFn K (.ref f_File_latest) = true)
    (l_File_latest : K.lookup f_File_latest = some ⟨oc_File_latest, od_File_latest, .func (PySem.W.fnOf "latest" "File.latest" (defArgs s_File_latest) (defBody s_File_latest) (defScope s_File_latest) .none kV_File_latest dc_File_latest pm_File_latest an_File_latest cd_File_latest ct_File_latest), sl_File_latest⟩)
    (c_File_latest : PySem.W.codeIn K cd_File_latest "File.latest" = true)
    (k_File_latest : PySem.W.keepIn K (.ref f_File_latest) = true)
    (a_FARTHEST : PySem.W.nsIn K mainGlobals "FARTHEST" = some (some (.int i_FARTHEST t_FARTHEST)))
    (e_FARTHEST : i_FARTHEST = 10 ^ 30)
    (a_LONGEST : PySem.W.nsIn K mainGlobals "LONGEST" = some (some (.int i_LONGEST t_LONGEST)))
    (e_LONGEST : i_LONGEST = 10 ^ 9)
    (a_LATEST_AFTER : PySem.W.nsIn K mainGlobals "LATEST_AFTER" = some (some (.int i_LATEST_AFTER t_LATEST_AFTER)))
    (e_LATEST_AFTER : i_LATEST_AFTER = 2000)
    (pg_Moment : PySem.W.plainGet K C_Moment Str.empty = true)
    (hd_Moment : PySem.W.hasDictIn K C_Moment = true)
    (po_Moment : PySem.W.plainOver K C_Moment = true)
    (sa_Moment : PySem.W.findIn K (.ref C_Moment) "__setattr__" = some (some (.builtin "object.__setattr__")))
    (mk_Moment : PySem.W.makesIn K C_Moment = true)
    (kc_Moment : PySem.W.keepIn K (.ref C_Moment) = true)
    (ca_Moment : PySem.W.findIn K (.ref C_Moment) "__class__" = some (some (.builtin "object.__class__")))
    (cn_Moment : PySem.W.specialIn K (.builtin "object.__class__") "__get__" = some (some (.builtin "getset_descriptor.__get__")))
    (ct_Moment : PySem.W.takesIn K (.builtin "object.__class__") = some true)
    (cm_Moment : PySem.W.mroIn K C_Moment (.type "object") = some true)
    (ic_Moment : PySem.W.isClsIn K C_Moment = true)
    (ty_Moment : PySem.W.typeIn K (.ref C_Moment) = some (.type "type"))
    (sub_Moment : PySem.W.subIn K (.type "int") (.ref C_Moment) = some false)
    (nS_Moment : PySem.W.findIn K (.ref C_Moment) "own_seconds" = some none)
    (sub2_Moment : PySem.W.subIn K (.ref C_Moment) (.type "int") = some false)
    (ne_Moment : PySem.W.findIn K (.ref C_Moment) "__ne__" = some (some (.builtin "object.__ne__")))
    (ob_Moment : PySem.W.subIn K (.ref C_Moment) (.type "object") = some true)
    (pg_Rule : PySem.W.plainGet K C_Rule Str.empty = true)
    (hd_Rule : PySem.W.hasDictIn K C_Rule = true)
    (po_Rule : PySem.W.plainOver K C_Rule = true)
    (sa_Rule : PySem.W.findIn K (.ref C_Rule) "__setattr__" = some (some (.builtin "object.__setattr__")))
    (mk_Rule : PySem.W.makesIn K C_Rule = true)
    (kc_Rule : PySem.W.keepIn K (.ref C_Rule) = true)
    (ca_Rule : PySem.W.findIn K (.ref C_Rule) "__class__" = some (some (.builtin "object.__class__")))
    (cn_Rule : PySem.W.specialIn K (.builtin "object.__class__") "__get__" = some (some (.builtin "getset_descriptor.__get__")))
    (ct_Rule : PySem.W.takesIn K (.builtin "object.__class__") = some true)
    (cm_Rule : PySem.W.mroIn K C_Rule (.type "object") = some true)
    (ic_Rule : PySem.W.isClsIn K C_Rule = true)
    (ty_Rule : PySem.W.typeIn K (.ref C_Rule) = some (.type "type"))
    (sub_Rule : PySem.W.subIn K (.type "int") (.ref C_Rule) = some false)
    (nW_Rule : PySem.W.findIn K (.ref C_Rule) "own_word" = some none)
    (nA_Rule : PySem.W.findIn K (.ref C_Rule) "own_after" = some none)
    (rd_Rule : PySem.W.readsIn K C_Rule (.type "type") = true)
    (rg_Rule : PySem.W.specialIn K (.ref C_Rule) "__getattribute__" = some (some (.builtin "type.__getattribute__")))
    (ne_Rule : PySem.W.findIn K (.ref C_Rule) "__ne__" = some (some (.builtin "object.__ne__")))
    (ob_Rule : PySem.W.subIn K (.ref C_Rule) (.type "object") = some true)
    (ic_Marked : PySem.W.isClsIn K C_Marked = true)
    (ty_Marked : PySem.W.typeIn K (.ref C_Marked) = some (.type "type"))
    (pg_File : PySem.W.plainGet K C_File Str.empty = true)
    (hd_File : PySem.W.hasDictIn K C_File = true)
    (po_File : PySem.W.plainOver K C_File = true)
    (sa_File : PySem.W.findIn K (.ref C_File) "__setattr__" = some (some (.builtin "object.__setattr__")))
    (mk_File : PySem.W.makesIn K C_File = true)
    (kc_File : PySem.W.keepIn K (.ref C_File) = true)
    (ca_File : PySem.W.findIn K (.ref C_File) "__class__" = some (some (.builtin "object.__class__")))
    (cn_File : PySem.W.specialIn K (.builtin "object.__class__") "__get__" = some (some (.builtin "getset_descriptor.__get__")))
    (ct_File : PySem.W.takesIn K (.builtin "object.__class__") = some true)
    (cm_File : PySem.W.mroIn K C_File (.type "object") = some true)
    (ic_File : PySem.W.isClsIn K C_File = true)
    (ty_File : PySem.W.typeIn K (.ref C_File) = some (.type "type"))
    (sub_File : PySem.W.subIn K (.type "int") (.ref C_File) = some false)
    (nR_File : PySem.W.findIn K (.ref C_File) "rule" = some none)
    (nH_File : PySem.W.findIn K (.ref C_File) "own_held" = some none)
    (nL_File : PySem.W.findIn K (.ref C_File) "own_last" = some none)
    (nT_File : PySem.W.findIn K (.ref C_File) "own_table" = some none)
    (ne_File : PySem.W.findIn K (.ref C_File) "__ne__" = some (some (.builtin "object.__ne__")))
    (ob_File : PySem.W.subIn K (.ref C_File) (.type "object") = some true)
    (a_PLAIN : PySem.W.nsIn K mainGlobals "PLAIN" = some (some (.ref p_PLAIN)))
    (l_PLAIN : K.lookup p_PLAIN = some ⟨.type "tuple", none, .seq #[.str "make" t_PLAIN0, .str "read" t_PLAIN1, .str "write" t_PLAIN2, .str "rename" t_PLAIN3, .str "touch" t_PLAIN4] n_PLAIN, sl_PLAIN⟩)
    (a_MARKS : PySem.W.nsIn K mainGlobals "MARKS" = some (some (.ref p_MARKS)))
    (l_MARKS : K.lookup p_MARKS = some ⟨.type "tuple", none, .seq #[.str "read" t_MARKS0, .str "written" t_MARKS1, .str "changed" t_MARKS2] n_MARKS, sl_MARKS⟩)
    (x_sub : PySem.W.subIn K (.ref C_File) (.ref C_Marked) = some true)
    (x_neM : (Value.ref C_File == Value.ref C_Marked) = false)
    (z_isinstance : PySem.W.nsIn K mainGlobals "isinstance" = some none)
    (z_int : PySem.W.nsIn K mainGlobals "int" = some none)
    (z_bool : PySem.W.nsIn K mainGlobals "bool" = some none)
    (z_len : PySem.W.nsIn K mainGlobals "len" = some none)
    (z_abs : PySem.W.nsIn K mainGlobals "abs" = some none)
    (z_max : PySem.W.nsIn K mainGlobals "max" = some none)
    (z_min : PySem.W.nsIn K mainGlobals "min" = some none)
    (z_range : PySem.W.nsIn K mainGlobals "range" = some none)
    (z_tuple : PySem.W.nsIn K mainGlobals "tuple" = some none)
    (z_str : PySem.W.nsIn K mainGlobals "str" = some none)
    (z_list : PySem.W.nsIn K mainGlobals "list" = some none)
    (z_dict : PySem.W.nsIn K mainGlobals "dict" = some none)
    (z_repr : PySem.W.nsIn K mainGlobals "repr" = some none)
    (z_ValueError : PySem.W.nsIn K mainGlobals "ValueError" = some none)
    (z_sorted : PySem.W.nsIn K mainGlobals "sorted" = some none)
    : ∃ fd : FuncData, (∀ (s : Shared) (v : Value), BindsTo s fd ⟨[v], []⟩ [("script", v)]) ∧ ∀ base : Heap, K.In base → base.Ns mainGlobals mg → FnOk l.prog w K mg base CX0 12 fa fd ["script"] (spLaw K) := by
  have e := hfa.symm.trans (PySem.W.mg_of X G a_law)
  cases e
  have F_is_whole := fun_mk (st := s_is_whole) l_is_whole c_is_whole k_is_whole
  have b_is_whole := F_is_whole.binds (ps := ["value"]) fun _ _ _ _ _ _ us hl => match us, hl with | [_], _ => rfl
  have F_is_between := fun_mk (st := s_is_between) l_is_between c_is_between k_is_between
  have b_is_between := F_is_between.binds (ps := ["value", "low", "high"]) fun _ _ _ _ _ _ us hl => match us, hl with | [_, _, _], _ => rfl
  have F_is_time := fun_mk (st := s_is_time) l_is_time c_is_time k_is_time
  have b_is_time := F_is_time.binds (ps := ["value"]) fun _ _ _ _ _ _ us hl => match us, hl with | [_], _ => rfl
  have F_is_deed := fun_mk (st := s_is_deed) l_is_deed c_is_deed k_is_deed
  have b_is_deed := F_is_deed.binds (ps := ["value"]) fun _ _ _ _ _ _ us hl => match us, hl with | [_], _ => rfl
  have F_makes := fun_mk (st := s_makes) l_makes c_makes k_makes
  have b_makes := F_makes.binds (ps := ["value"]) fun _ _ _ _ _ _ us hl => match us, hl with | [_], _ => rfl
  have F_backs := fun_mk (st := s_backs) l_backs c_backs k_backs
  have b_backs := F_backs.binds (ps := ["deed"]) fun _ _ _ _ _ _ us hl => match us, hl with | [_], _ => rfl
  have F_seconds_of := fun_mk (st := s_seconds_of) l_seconds_of c_seconds_of k_seconds_of
  have b_seconds_of := F_seconds_of.binds (ps := ["value"]) fun _ _ _ _ _ _ us hl => match us, hl with | [_], _ => rfl
  have F_check_rule := fun_mk (st := s_check_rule) l_check_rule c_check_rule k_check_rule
  have b_check_rule := F_check_rule.binds (ps := ["value"]) fun _ _ _ _ _ _ us hl => match us, hl with | [_], _ => rfl
  have F__law_source := fun_mk (st := s__law_source) l__law_source c__law_source k__law_source
  have b__law_source := F__law_source.binds (ps := ["script", "turn"]) fun _ _ _ _ _ _ us hl => match us, hl with | [_, _], _ => rfl
  have F__law_draw := fun_mk (st := s__law_draw) l__law_draw c__law_draw k__law_draw
  have b__law_draw := F__law_draw.binds (ps := ["source", "amount"]) fun _ _ _ _ _ _ us hl => match us, hl with | [_, _], _ => rfl
  have F__law_pick := fun_mk (st := s__law_pick) l__law_pick c__law_pick k__law_pick
  have b__law_pick := F__law_pick.binds (ps := ["source", "items"]) fun _ _ _ _ _ _ us hl => match us, hl with | [_, _], _ => rfl
  have F__law_rule := fun_mk (st := s__law_rule) l__law_rule c__law_rule k__law_rule
  have b__law_rule := F__law_rule.binds (ps := ["row"]) fun _ _ _ _ _ _ us hl => match us, hl with | [_], _ => rfl
  have F__law_rule_row := fun_mk (st := s__law_rule_row) l__law_rule_row c__law_rule_row k__law_rule_row
  have b__law_rule_row := F__law_rule_row.binds (ps := ["source", "most"]) fun _ _ _ _ _ _ us hl => match us, hl with | [_, _], _ => rfl
  have F__law_maker := fun_mk (st := s__law_maker) l__law_maker c__law_maker k__law_maker
  have b__law_maker := F__law_maker.binds (ps := ["source", "back"]) fun _ _ _ _ _ _ us hl => match us, hl with | [_, _], _ => rfl
  have F__law_user := fun_mk (st := s__law_user) l__law_user c__law_user k__law_user
  have b__law_user := F__law_user.binds (ps := ["source", "back"]) fun _ _ _ _ _ _ us hl => match us, hl with | [_, _], _ => rfl
  have F_is_looks := fun_mk (st := s_is_looks) l_is_looks c_is_looks k_is_looks
  have b_is_looks := F_is_looks.binds (ps := ["value"]) fun _ _ _ _ _ _ us hl => match us, hl with | [_], _ => rfl
  have F_all_looks := fun_mk (st := s_all_looks) l_all_looks c_all_looks k_all_looks
  have b_all_looks := F_all_looks.binds (ps := []) fun _ _ _ _ _ _ us hl => match us, hl with | [], _ => rfl
  have F__law_sets := fun_mk (st := s__law_sets) l__law_sets c__law_sets k__law_sets
  have b__law_sets := F__law_sets.binds (ps := ["marks", "row", "at"]) fun _ _ _ _ _ _ us hl => match us, hl with | [_, _, _], _ => rfl
  have F__law_backs := fun_mk (st := s__law_backs) l__law_backs c__law_backs k__law_backs
  have b__law_backs := F__law_backs.binds (ps := ["deed"]) fun _ _ _ _ _ _ us hl => match us, hl with | [_], _ => rfl
  have F__law_done := fun_mk (st := s__law_done) l__law_done c__law_done k__law_done
  have b__law_done := F__law_done.binds (ps := ["marks", "row", "deed", "at"]) fun _ _ _ _ _ _ us hl => match us, hl with | [_, _, _, _], _ => rfl
  have F__law_latest := fun_mk (st := s__law_latest) l__law_latest c__law_latest k__law_latest
  have b__law_latest := F__law_latest.binds (ps := ["marks", "looks"]) fun _ _ _ _ _ _ us hl => match us, hl with | [_, _], _ => rfl
  have F__law_is := fun_mk (st := s__law_is) l__law_is c__law_is k__law_is
  have b__law_is := F__law_is.binds (ps := ["file", "marks", "last"]) fun _ _ _ _ _ _ us hl => match us, hl with | [_, _, _], _ => rfl
  have F__law_unlike := fun_mk (st := s__law_unlike) l__law_unlike c__law_unlike k__law_unlike
  have b__law_unlike := F__law_unlike.binds (ps := ["row", "at"]) fun _ _ _ _ _ _ us hl => match us, hl with | [_, _], _ => rfl
  have F_law := fun_mk (st := s_law) l_law c_law k_law
  have F_Moment___init__ := fun_mk (st := s_Moment___init__) l_Moment___init__ c_Moment___init__ k_Moment___init__
  have b_Moment___init__ := F_Moment___init__.binds (ps := ["self", "seconds"]) fun _ _ _ _ _ _ us hl => match us, hl with | [_, _], _ => rfl
  have F_Moment_seconds := fun_mk (st := s_Moment_seconds) l_Moment_seconds c_Moment_seconds k_Moment_seconds
  have b_Moment_seconds := F_Moment_seconds.binds (ps := ["self"]) fun _ _ _ _ _ _ us hl => match us, hl with | [_], _ => rfl
  have F_Moment_behind := fun_mk (st := s_Moment_behind) l_Moment_behind c_Moment_behind k_Moment_behind
  have b_Moment_behind := F_Moment_behind.binds (ps := ["self", "other"]) fun _ _ _ _ _ _ us hl => match us, hl with | [_, _], _ => rfl
  have F_Moment___le__ := fun_mk (st := s_Moment___le__) l_Moment___le__ c_Moment___le__ k_Moment___le__
  have b_Moment___le__ := F_Moment___le__.binds (ps := ["self", "other"]) fun _ _ _ _ _ _ us hl => match us, hl with | [_, _], _ => rfl
  have F_Moment___eq__ := fun_mk (st := s_Moment___eq__) l_Moment___eq__ c_Moment___eq__ k_Moment___eq__
  have b_Moment___eq__ := F_Moment___eq__.binds (ps := ["self", "other"]) fun _ _ _ _ _ _ us hl => match us, hl with | [_, _], _ => rfl
  have F_Rule___init__ := fun_mk (st := s_Rule___init__) l_Rule___init__ c_Rule___init__ k_Rule___init__
  have b_Rule___init__ := F_Rule___init__.binds (ps := ["self", "word", "after"]) fun _ _ _ _ _ _ us hl => match us, hl with | [_, _, _], _ => rfl
  have F_Rule_always := fun_mk (st := s_Rule_always) l_Rule_always c_Rule_always k_Rule_always
  have b_Rule_always := F_Rule_always.binds (ps := []) fun _ _ _ _ _ _ us hl => match us, hl with | [], _ => rfl
  have F_Rule_never := fun_mk (st := s_Rule_never) l_Rule_never c_Rule_never k_Rule_never
  have b_Rule_never := F_Rule_never.binds (ps := []) fun _ _ _ _ _ _ us hl => match us, hl with | [], _ => rfl
  have F_Rule_seldom := fun_mk (st := s_Rule_seldom) l_Rule_seldom c_Rule_seldom k_Rule_seldom
  have b_Rule_seldom := F_Rule_seldom.binds (ps := ["after"]) fun _ _ _ _ _ _ us hl => match us, hl with | [_], _ => rfl
  have F_Rule_word := fun_mk (st := s_Rule_word) l_Rule_word c_Rule_word k_Rule_word
  have b_Rule_word := F_Rule_word.binds (ps := ["self"]) fun _ _ _ _ _ _ us hl => match us, hl with | [_], _ => rfl
  have F_Rule_after := fun_mk (st := s_Rule_after) l_Rule_after c_Rule_after k_Rule_after
  have b_Rule_after := F_Rule_after.binds (ps := ["self"]) fun _ _ _ _ _ _ us hl => match us, hl with | [_], _ => rfl
  have F_Rule_sets := fun_mk (st := s_Rule_sets) l_Rule_sets c_Rule_sets k_Rule_sets
  have b_Rule_sets := F_Rule_sets.binds (ps := ["self", "marks", "at"]) fun _ _ _ _ _ _ us hl => match us, hl with | [_, _, _], _ => rfl
  have F_Rule___call__ := fun_mk (st := s_Rule___call__) l_Rule___call__ c_Rule___call__ k_Rule___call__
  have b_Rule___call__ := F_Rule___call__.binds (ps := ["self", "file", "at"]) fun _ _ _ _ _ _ us hl => match us, hl with | [_, _, _], _ => rfl
  have F_Rule___eq__ := fun_mk (st := s_Rule___eq__) l_Rule___eq__ c_Rule___eq__ k_Rule___eq__
  have b_Rule___eq__ := F_Rule___eq__.binds (ps := ["self", "other"]) fun _ _ _ _ _ _ us hl => match us, hl with | [_, _], _ => rfl
  have F_File___init__ := fun_mk (st := s_File___init__) l_File___init__ c_File___init__ k_File___init__
  have b_File___init__ := F_File___init__.binds (ps := ["self", "rule", "deed", "at"]) fun _ _ _ _ _ _ us hl => match us, hl with | [_, _, _, _], _ => rfl
  have F_File___getitem__ := fun_mk (st := s_File___getitem__) l_File___getitem__ c_File___getitem__ k_File___getitem__
  have b_File___getitem__ := F_File___getitem__.binds (ps := ["self", "mark"]) fun _ _ _ _ _ _ us hl => match us, hl with | [_, _], _ => rfl
  have F_File_marks := fun_mk (st := s_File_marks) l_File_marks c_File_marks k_File_marks
  have b_File_marks := F_File_marks.binds (ps := ["self"]) fun _ _ _ _ _ _ us hl => match us, hl with | [_], _ => rfl
  have F_File_do := fun_mk (st := s_File_do) l_File_do c_File_do k_File_do
  have b_File_do := F_File_do.binds (ps := ["self", "deed", "at"]) fun _ _ _ _ _ _ us hl => match us, hl with | [_, _, _], _ => rfl
  have F_File_double := fun_mk (st := s_File_double) l_File_double c_File_double k_File_double
  have b_File_double := F_File_double.binds (ps := ["self"]) fun _ _ _ _ _ _ us hl => match us, hl with | [_], _ => rfl
  have F_File___eq__ := fun_mk (st := s_File___eq__) l_File___eq__ c_File___eq__ k_File___eq__
  have b_File___eq__ := F_File___eq__.binds (ps := ["self", "other"]) fun _ _ _ _ _ _ us hl => match us, hl with | [_, _], _ => rfl
  have F_File_last := fun_mk (st := s_File_last) l_File_last c_File_last k_File_last
  have b_File_last := F_File_last.binds (ps := ["self"]) fun _ _ _ _ _ _ us hl => match us, hl with | [_], _ => rfl
  have F_File_held := fun_mk (st := s_File_held) l_File_held c_File_held k_File_held
  have b_File_held := F_File_held.binds (ps := ["self"]) fun _ _ _ _ _ _ us hl => match us, hl with | [_], _ => rfl
  have F_File_latest := fun_mk (st := s_File_latest) l_File_latest c_File_latest k_File_latest
  have b_File_latest := F_File_latest.binds (ps := ["self", "looks"]) fun _ _ _ _ _ _ us hl => match us, hl with | [_, _], _ => rfl
  subst e_FARTHEST
  subst e_LONGEST
  subst e_LATEST_AFTER
  have B : Bl mg := ⟨PySem.W.mg_none_of X G z_isinstance, PySem.W.mg_none_of X G z_int, PySem.W.mg_none_of X G z_bool, PySem.W.mg_none_of X G z_len, PySem.W.mg_none_of X G z_abs, PySem.W.mg_none_of X G z_max, PySem.W.mg_none_of X G z_min, PySem.W.mg_none_of X G z_range⟩
  have B2 : Bl2 mg := ⟨PySem.W.mg_none_of X G z_tuple, PySem.W.mg_none_of X G z_str, PySem.W.mg_none_of X G z_list, PySem.W.mg_none_of X G z_dict, PySem.W.mg_none_of X G z_repr, PySem.W.mg_none_of X G z_ValueError, PySem.W.mg_none_of X G z_sorted⟩
  have T : MoTxt K mg C_Moment := ⟨⟨pg_Moment, hd_Moment, po_Moment, sa_Moment⟩, ca_Moment, cn_Moment, ct_Moment, cm_Moment, nS_Moment, kit_self _ _, kit_own ic_Moment ty_Moment sub_Moment rfl, PySem.W.mg_of X G a_Moment, ⟨_, PySem.W.mg_of X G a_FARTHEST⟩⟩
  have TM : MoNe K C_Moment := ⟨ne_Moment, ob_Moment⟩
  have noI : PySem.W.kitOne K (.ref C_Moment) (.type "int") = some false := kit_typ rfl (by decide +kernel) sub2_Moment
  have TR : RuTxt K mg C_Rule := ⟨⟨pg_Rule, hd_Rule, po_Rule, sa_Rule⟩, ca_Rule, cn_Rule, ct_Rule, cm_Rule, nW_Rule, nA_Rule, kit_self _ _, PySem.W.mg_of X G a_Rule, ⟨_, PySem.W.mg_of X G a_LATEST_AFTER⟩, ne_Rule, ob_Rule, fun f h => by rw [a_Rule___call__] at h; cases h; exact fn_Rule___call__⟩
  have TF : FiTxt K mg C_File C_Marked := ⟨⟨pg_File, hd_File, po_File, sa_File⟩, ca_File, cn_File, ct_File, cm_File, nR_File, nH_File, nL_File, nT_File, kit_self _ _, kit_own ic_Marked ty_Marked x_sub x_neM, PySem.W.mg_of X G a_File, PySem.W.mg_of X G a_Marked, ne_File, ob_File, fun f h => by rw [a_File___getitem__] at h; cases h; exact fn_File___getitem__⟩
  have TD : DeTxt K mg p_PLAIN p_MARKS := ⟨PySem.W.mg_of X G a_PLAIN, PySem.W.mg_of X G a_MARKS, ⟨_, PySem.W.mg_of X G a_LONGEST⟩, fun H => .inr ⟨_, _, _, l_PLAIN, rfl, rfl, Nat.le_of_ble_eq_true rfl, (.cons ⟨_, rfl⟩ (.cons ⟨_, rfl⟩ (.cons ⟨_, rfl⟩ (.cons ⟨_, rfl⟩ (.cons ⟨_, rfl⟩ .nil)))))⟩, fun H => .inr ⟨_, _, _, l_MARKS, rfl, rfl, Nat.le_of_ble_eq_true rfl, (.cons ⟨_, rfl⟩ (.cons ⟨_, rfl⟩ (.cons ⟨_, rfl⟩ .nil)))⟩, ⟨_, l_MARKS, rfl, rfl⟩⟩
  exact ⟨PySem.W.fnOf "law" "law" (defArgs s_law) (defBody s_law) (defScope s_law) .none kV_law dc_law pm_law an_law cd_law ct_law, fun s v => .of_eq rfl, fun base _ _ => by
    have c_is_whole : Fn l.prog w K mg base "is_whole" _ CX0 _ _ := ⟨_, _, PySem.W.mg_of X G a_is_whole, k_is_whole, b_is_whole, ok_is_whole F_is_whole B⟩
    have c_is_between : Fn l.prog w K mg base "is_between" _ CX0 _ _ := ⟨_, _, PySem.W.mg_of X G a_is_between, k_is_between, b_is_between, ok_is_between F_is_between B c_is_whole⟩
    have c_is_time : Fn l.prog w K mg base "is_time" _ CX0 _ _ := ⟨_, _, PySem.W.mg_of X G a_is_time, k_is_time, b_is_time, ok_is_time F_is_time TD c_is_between⟩
    have c_is_deed : Fn l.prog w K mg base "is_deed" _ CX0 _ _ := ⟨_, _, PySem.W.mg_of X G a_is_deed, k_is_deed, b_is_deed, ok_is_deed F_is_deed B B2 TD c_is_time⟩
    have c_makes : Fn l.prog w K mg base "makes" _ CX0 _ _ := ⟨_, _, PySem.W.mg_of X G a_makes, k_makes, b_makes, ok_makes F_makes c_is_deed⟩
    have c_backs : Fn l.prog w K mg base "backs" _ CX0 _ _ := ⟨_, _, PySem.W.mg_of X G a_backs, k_backs, b_backs, ok_backs F_backs c_is_deed⟩
    have c__law_source : Fn l.prog w K mg base "_law_source" _ CX0 _ _ := ⟨_, _, PySem.W.mg_of X G a__law_source, k__law_source, b__law_source, ok__law_source F__law_source B⟩
    have c__law_draw : Fn l.prog w K mg base "_law_draw" _ CX0 _ _ := ⟨_, _, PySem.W.mg_of X G a__law_draw, k__law_draw, b__law_draw, ok__law_draw F__law_draw B⟩
    have c__law_pick : Fn l.prog w K mg base "_law_pick" _ CX0 _ _ := ⟨_, _, PySem.W.mg_of X G a__law_pick, k__law_pick, b__law_pick, ok__law_pick F__law_pick B c__law_draw⟩
    have c_Moment : Nw l.prog w K mg base "Moment" C_Moment _ CX0 _ _ := ⟨_, _, PySem.W.mg_of X G a_Moment, ⟨mk_Moment, a_Moment___init__, i_Moment___init__, kc_Moment⟩, b_Moment___init__, ok_Moment___init__ F_Moment___init__ B T c_is_between⟩
    have c_Moment_seconds : Pr l.prog w K mg base C_Moment "seconds" _ CX0 _ _ := ⟨_, _, _, ⟨a_Moment_seconds, g_Moment_seconds, t_Moment_seconds, _, r_Moment_seconds⟩, b_Moment_seconds, ok_Moment_seconds F_Moment_seconds T⟩
    have c_Moment_behind : Mt l.prog w K mg base C_Moment "behind" _ CX0 _ _ := ⟨_, _, ⟨a_Moment_behind, i_Moment_behind, k_Moment_behind⟩, b_Moment_behind, ok_Moment_behind F_Moment_behind B T c_Moment_seconds⟩
    have c_Moment___le__ : Mt l.prog w K mg base C_Moment "__le__" _ CX0 _ _ := ⟨_, _, ⟨a_Moment___le__, i_Moment___le__, k_Moment___le__⟩, b_Moment___le__, ok_Moment___le__ F_Moment___le__ T c_Moment_behind⟩
    have c_Moment___eq__ : Mt l.prog w K mg base C_Moment "__eq__" _ CX0 _ _ := ⟨_, _, ⟨a_Moment___eq__, i_Moment___eq__, k_Moment___eq__⟩, b_Moment___eq__, ok_Moment___eq__ F_Moment___eq__ B T c_Moment_seconds⟩
    have c_seconds_of : Fn l.prog w K mg base "seconds_of" _ CX0 _ _ := ⟨_, _, PySem.W.mg_of X G a_seconds_of, k_seconds_of, b_seconds_of, ok_seconds_of F_seconds_of B T c_is_between c_Moment_seconds⟩
    have c_Rule : Nw l.prog w K mg base "Rule" C_Rule _ CX0 _ _ := ⟨_, _, PySem.W.mg_of X G a_Rule, ⟨mk_Rule, a_Rule___init__, i_Rule___init__, kc_Rule⟩, b_Rule___init__, ok_Rule___init__ F_Rule___init__ TR⟩
    have c_Rule_always : Sm l.prog w K mg base C_Rule "always" _ CX0 _ _ := ⟨_, _, _, _, ⟨rd_Rule, rg_Rule⟩, a_Rule_always, ⟨_, r_Rule_always⟩, k_Rule_always, b_Rule_always, ok_Rule_always F_Rule_always TR c_Rule⟩
    have c_Rule_never : Sm l.prog w K mg base C_Rule "never" _ CX0 _ _ := ⟨_, _, _, _, ⟨rd_Rule, rg_Rule⟩, a_Rule_never, ⟨_, r_Rule_never⟩, k_Rule_never, b_Rule_never, ok_Rule_never F_Rule_never TR c_Rule⟩
    have c_Rule_seldom : Sm l.prog w K mg base C_Rule "seldom" _ CX0 _ _ := ⟨_, _, _, _, ⟨rd_Rule, rg_Rule⟩, a_Rule_seldom, ⟨_, r_Rule_seldom⟩, k_Rule_seldom, b_Rule_seldom, ok_Rule_seldom F_Rule_seldom TR c_is_between c_Rule⟩
    have c_Rule_word : Pr l.prog w K mg base C_Rule "word" _ CX0 _ _ := ⟨_, _, _, ⟨a_Rule_word, g_Rule_word, t_Rule_word, _, r_Rule_word⟩, b_Rule_word, ok_Rule_word F_Rule_word TR⟩
    have c_Rule_after : Pr l.prog w K mg base C_Rule "after" _ CX0 _ _ := ⟨_, _, _, ⟨a_Rule_after, g_Rule_after, t_Rule_after, _, r_Rule_after⟩, b_Rule_after, ok_Rule_after F_Rule_after TR⟩
    have c_Rule_sets : Mt l.prog w K mg base C_Rule "sets" _ CX0 _ _ := ⟨_, _, ⟨a_Rule_sets, i_Rule_sets, k_Rule_sets⟩, b_Rule_sets, ok_Rule_sets F_Rule_sets TR⟩
    have c_Rule___eq__ : Mt l.prog w K mg base C_Rule "__eq__" _ CX0 _ _ := ⟨_, _, ⟨a_Rule___eq__, i_Rule___eq__, k_Rule___eq__⟩, b_Rule___eq__, ok_Rule___eq__ F_Rule___eq__ B TR c_Rule_word c_Rule_after⟩
    have c_check_rule : Fn l.prog w K mg base "check_rule" _ CX0 _ _ := ⟨_, _, PySem.W.mg_of X G a_check_rule, k_check_rule, b_check_rule, ok_check_rule F_check_rule B TR⟩
    have c_Rule___call__ : Mt l.prog w K mg base C_Rule "__call__" _ CX0 _ _ := ⟨_, _, ⟨a_Rule___call__, i_Rule___call__, k_Rule___call__⟩, b_Rule___call__, ok_Rule___call__ F_Rule___call__ B TR TF c_seconds_of c_Rule_sets⟩
    have c_File : Nw l.prog w K mg base "File" C_File _ CX0 _ _ := ⟨_, _, PySem.W.mg_of X G a_File, ⟨mk_File, a_File___init__, i_File___init__, kc_File⟩, b_File___init__, ok_File___init__ F_File___init__ TR TF c_check_rule c_makes c_backs c_seconds_of⟩
    have c_File___getitem__ : Mt l.prog w K mg base C_File "__getitem__" _ CX0 _ _ := ⟨_, _, ⟨a_File___getitem__, i_File___getitem__, k_File___getitem__⟩, b_File___getitem__, ok_File___getitem__ (CR := C_Rule) F_File___getitem__ B B2 T TD TF c_Moment⟩
    have c_File_marks : Mt l.prog w K mg base C_File "marks" _ CX0 _ _ := ⟨_, _, ⟨a_File_marks, i_File_marks, k_File_marks⟩, b_File_marks, ok_File_marks (CR := C_Rule) F_File_marks B2 TF⟩
    have c_File_do : Mt l.prog w K mg base C_File "do" _ CX0 _ _ := ⟨_, _, ⟨a_File_do, i_File_do, k_File_do⟩, b_File_do, ok_File_do F_File_do B2 TR TF c_is_deed c_makes c_backs c_seconds_of c_Rule_sets⟩
    have c_File_double : Mt l.prog w K mg base C_File "double" _ CX0 _ _ := ⟨_, _, ⟨a_File_double, i_File_double, k_File_double⟩, b_File_double, ok_File_double F_File_double B2 TF c_File⟩
    have c_File___eq__ : Mt l.prog w K mg base C_File "__eq__" _ CX0 _ _ := ⟨_, _, ⟨a_File___eq__, i_File___eq__, k_File___eq__⟩, b_File___eq__, ok_File___eq__ F_File___eq__ B TR TF c_Rule___eq__⟩
    have c__law_rule : Fn l.prog w K mg base "_law_rule" _ CX0 _ _ := ⟨_, _, PySem.W.mg_of X G a__law_rule, k__law_rule, b__law_rule, ok__law_rule F__law_rule TR c_Rule_always c_Rule_never c_Rule_seldom⟩
    have c__law_rule_row : Fn l.prog w K mg base "_law_rule_row" _ CX0 _ _ := ⟨_, _, PySem.W.mg_of X G a__law_rule_row, k__law_rule_row, b__law_rule_row, ok__law_rule_row F__law_rule_row c__law_draw c__law_pick⟩
    have c__law_maker : Fn l.prog w K mg base "_law_maker" _ CX0 _ _ := ⟨_, _, PySem.W.mg_of X G a__law_maker, k__law_maker, b__law_maker, ok__law_maker F__law_maker c__law_draw c__law_pick⟩
    have c__law_user : Fn l.prog w K mg base "_law_user" _ CX0 _ _ := ⟨_, _, PySem.W.mg_of X G a__law_user, k__law_user, b__law_user, ok__law_user F__law_user c__law_draw c__law_pick⟩
    have c_all_looks : Fn l.prog w K mg base "all_looks" _ CX0 _ _ := ⟨_, _, PySem.W.mg_of X G a_all_looks, k_all_looks, b_all_looks, ok_all_looks F_all_looks TD⟩
    have c_is_looks : Fn l.prog w K mg base "is_looks" _ CX0 _ _ := ⟨_, _, PySem.W.mg_of X G a_is_looks, k_is_looks, b_is_looks, ok_is_looks F_is_looks B B2 c_all_looks⟩
    have c_File_last : Pr l.prog w K mg base C_File "last" _ CX0 _ _ := ⟨_, _, _, ⟨a_File_last, g_File_last, t_File_last, _, r_File_last⟩, b_File_last, ok_File_last (CR := C_Rule) F_File_last TF⟩
    have c_File_held : Pr l.prog w K mg base C_File "held" _ CX0 _ _ := ⟨_, _, _, ⟨a_File_held, g_File_held, t_File_held, _, r_File_held⟩, b_File_held, ok_File_held (CR := C_Rule) F_File_held TF⟩
    have c_File_latest : Mt l.prog w K mg base C_File "latest" _ CX0 _ _ := ⟨_, _, ⟨a_File_latest, i_File_latest, k_File_latest⟩, b_File_latest, ok_File_latest (CR := C_Rule) F_File_latest B TF c_is_looks⟩
    have c__law_sets : Fn l.prog w K mg base "_law_sets" _ CX0 _ _ := ⟨_, _, PySem.W.mg_of X G a__law_sets, k__law_sets, b__law_sets, ok__law_sets F__law_sets⟩
    have c__law_backs : Fn l.prog w K mg base "_law_backs" _ CX0 _ _ := ⟨_, _, PySem.W.mg_of X G a__law_backs, k__law_backs, b__law_backs, ok__law_backs F__law_backs⟩
    have c__law_done : Fn l.prog w K mg base "_law_done" _ CX0 _ _ := ⟨_, _, PySem.W.mg_of X G a__law_done, k__law_done, b__law_done, ok__law_done F__law_done B2 c__law_sets c__law_backs⟩
    have c__law_latest : Fn l.prog w K mg base "_law_latest" _ CX0 _ _ := ⟨_, _, PySem.W.mg_of X G a__law_latest, k__law_latest, b__law_latest, ok__law_latest F__law_latest⟩
    have c__law_is : Fn l.prog w K mg base "_law_is" _ CX0 _ _ := ⟨_, _, PySem.W.mg_of X G a__law_is, k__law_is, b__law_is, ok__law_is F__law_is B B2 T noI TF c_File_marks c_File_last c_File_held c_File_latest c__law_latest c_File___getitem__ c_Moment c_Moment___eq__⟩
    have c__law_unlike : Fn l.prog w K mg base "_law_unlike" _ CX0 _ _ := ⟨_, _, PySem.W.mg_of X G a__law_unlike, k__law_unlike, b__law_unlike, ok__law_unlike F__law_unlike TR TF c_Rule_always c_Rule_never c_Rule_seldom c_File c_File___eq__⟩
    exact ok_law F_law B B2 T TR TF c__law_source c__law_draw c__law_rule c__law_rule_row c__law_maker c__law_user c__law_sets c__law_backs c__law_done c__law_is c__law_unlike c_Moment c_File c_File_double c_File_do c_File___eq__ c_File_marks⟩
end Ag
open PySem PySem.W PyProof.Rows
set_option maxHeartbeats 0 in
theorem PySem.Challenge.cw_agedfiles_k08_whole_files_deed_by_deed_holds : PySem.Challenge.rw_agedfiles_k08_whole_files_deed_by_deed.Holds := by
  w_on; o_law; k_head; (case hw => w_witness2)
  k_fill
  refine L2.walk_of (l := PySem.Challenge.rw_agedfiles_k08_whole_files_deed_by_deed) (n := 63) (k := 12) (x := "script") (CX := fun _ => L2.CX0) (sp := fun w => Ag.spLaw _) rfl (by decide) rfl ⟨rfl, by decide, by decide⟩ (fun w h Y => PySem.W.kIn_of Y) ?F (fun _ _ a ns hl _ hS => ⟨a, ns, rfl, hS, hl, fun _ => rfl⟩) (fun _ _ _ _ _ h => h)
  case F =>
    intro w mg fa h KX G hmg
    refine' Ag.all_mk KX G hmg ?a_Moment ?a_Rule ?a_Marked ?a_File ?a_is_whole ?l_is_whole ?c_is_whole ?k_is_whole ?a_is_between ?l_is_between ?c_is_between ?k_is_between ?a_is_time ?l_is_time ?c_is_time ?k_is_time ?a_is_deed ?l_is_deed ?c_is_deed ?k_is_deed ?a_makes ?l_makes ?c_makes ?k_makes ?a_backs ?l_backs ?c_backs ?k_backs ?a_seconds_of ?l_seconds_of ?c_seconds_of ?k_seconds_of ?a_check_rule ?l_check_rule ?c_check_rule ?k_check_rule ?a__law_source ?l__law_source ?c__law_source ?k__law_source ?a__law_draw ?l__law_draw ?c__law_draw ?k__law_draw ?a__law_pick ?l__law_pick ?c__law_pick ?k__law_pick ?a__law_rule ?l__law_rule ?c__law_rule ?k__law_rule ?a__law_rule_row ?l__law_rule_row ?c__law_rule_row ?k__law_rule_row ?a__law_maker ?l__law_maker ?c__law_maker ?k__law_maker ?a__law_user ?l__law_user ?c__law_user ?k__law_user ?a_is_looks ?l_is_looks ?c_is_looks ?k_is_looks ?a_all_looks ?l_all_looks ?c_all_looks ?k_all_looks ?a__law_sets ?l__law_sets ?c__law_sets ?k__law_sets ?a__law_backs ?l__law_backs ?c__law_backs ?k__law_backs ?a__law_done ?l__law_done ?c__law_done ?k__law_done ?a__law_latest ?l__law_latest ?c__law_latest ?k__law_latest ?a__law_is ?l__law_is ?c__law_is ?k__law_is ?a__law_unlike ?l__law_unlike ?c__law_unlike ?k__law_unlike ?a_law ?l_law ?c_law ?k_law ?a_Moment___init__ ?i_Moment___init__ ?l_Moment___init__ ?c_Moment___init__ ?k_Moment___init__ ?a_Moment_seconds ?g_Moment_seconds ?t_Moment_seconds ?r_Moment_seconds ?l_Moment_seconds ?c_Moment_seconds ?k_Moment_seconds ?a_Moment_behind ?i_Moment_behind ?l_Moment_behind ?c_Moment_behind ?k_Moment_behind ?a_Moment___le__ ?i_Moment___le__ ?l_Moment___le__ ?c_Moment___le__ ?k_Moment___le__ ?a_Moment___eq__ ?i_Moment___eq__ ?l_Moment___eq__ ?c_Moment___eq__ ?k_Moment___eq__ ?a_Rule___init__ ?i_Rule___init__ ?l_Rule___init__ ?c_Rule___init__ ?k_Rule___init__ ?a_Rule_always ?r_Rule_always ?l_Rule_always ?c_Rule_always ?k_Rule_always ?a_Rule_never ?r_Rule_never ?l_Rule_never ?c_Rule_never ?k_Rule_never ?a_Rule_seldom ?r_Rule_seldom ?l_Rule_seldom ?c_Rule_seldom ?k_Rule_seldom ?a_Rule_word ?g_Rule_word ?t_Rule_word ?r_Rule_word ?l_Rule_word ?c_Rule_word ?k_Rule_word ?a_Rule_after ?g_Rule_after ?t_Rule_after ?r_Rule_after ?l_Rule_after ?c_Rule_after ?k_Rule_after ?a_Rule_sets ?i_Rule_sets ?l_Rule_sets ?c_Rule_sets ?k_Rule_sets ?a_Rule___call__ ?fn_Rule___call__ ?i_Rule___call__ ?l_Rule___call__ ?c_Rule___call__ ?k_Rule___call__ ?a_Rule___eq__ ?i_Rule___eq__ ?l_Rule___eq__ ?c_Rule___eq__ ?k_Rule___eq__ ?a_File___init__ ?i_File___init__ ?l_File___init__ ?c_File___init__ ?k_File___init__ ?a_File___getitem__ ?fn_File___getitem__ ?i_File___getitem__ ?l_File___getitem__ ?c_File___getitem__ ?k_File___getitem__ ?a_File_marks ?i_File_marks ?l_File_marks ?c_File_marks ?k_File_marks ?a_File_do ?i_File_do ?l_File_do ?c_File_do ?k_File_do ?a_File_double ?i_File_double ?l_File_double ?c_File_double ?k_File_double ?a_File___eq__ ?i_File___eq__ ?l_File___eq__ ?c_File___eq__ ?k_File___eq__ ?a_File_last ?g_File_last ?t_File_last ?r_File_last ?l_File_last ?c_File_last ?k_File_last ?a_File_held ?g_File_held ?t_File_held ?r_File_held ?l_File_held ?c_File_held ?k_File_held ?a_File_latest ?i_File_latest ?l_File_latest ?c_File_latest ?k_File_latest ?a_FARTHEST ?e_FARTHEST ?a_LONGEST ?e_LONGEST ?a_LATEST_AFTER ?e_LATEST_AFTER ?pg_Moment ?hd_Moment ?po_Moment ?sa_Moment ?mk_Moment ?kc_Moment ?ca_Moment ?cn_Moment ?ct_Moment ?cm_Moment ?ic_Moment ?ty_Moment ?sub_Moment ?nS_Moment ?sub2_Moment ?ne_Moment ?ob_Moment ?pg_Rule ?hd_Rule ?po_Rule ?sa_Rule ?mk_Rule ?kc_Rule ?ca_Rule ?cn_Rule ?ct_Rule ?cm_Rule ?ic_Rule ?ty_Rule ?sub_Rule ?nW_Rule ?nA_Rule ?rd_Rule ?rg_Rule ?ne_Rule ?ob_Rule ?ic_Marked ?ty_Marked ?pg_File ?hd_File ?po_File ?sa_File ?mk_File ?kc_File ?ca_File ?cn_File ?ct_File ?cm_File ?ic_File ?ty_File ?sub_File ?nR_File ?nH_File ?nL_File ?nT_File ?ne_File ?ob_File ?a_PLAIN ?l_PLAIN ?a_MARKS ?l_MARKS ?x_sub ?x_neM ?z_isinstance ?z_int ?z_bool ?z_len ?z_abs ?z_max ?z_min ?z_range ?z_tuple ?z_str ?z_list ?z_dict ?z_repr ?z_ValueError ?z_sorted
    (case a_Moment => k_is)
    (case a_Rule => k_is)
    (case a_Marked => k_is)
    (case a_File => k_is)
    (case a_is_whole => k_is)
    (case l_is_whole => k_is)
    (case c_is_whole => k_is)
    (case k_is_whole => k_is)
    (case a_is_between => k_is)
    (case l_is_between => k_is)
    (case c_is_between => k_is)
    (case k_is_between => k_is)
    (case a_is_time => k_is)
    (case l_is_time => k_is)
    (case c_is_time => k_is)
    (case k_is_time => k_is)
    (case a_is_deed => k_is)
    (case l_is_deed => k_is)
    (case c_is_deed => k_is)
    (case k_is_deed => k_is)
    (case a_makes => k_is)
    (case l_makes => k_is)
    (case c_makes => k_is)
    (case k_makes => k_is)
    (case a_backs => k_is)
    (case l_backs => k_is)
    (case c_backs => k_is)
    (case k_backs => k_is)
    (case a_seconds_of => k_is)
    (case l_seconds_of => k_is)
    (case c_seconds_of => k_is)
    (case k_seconds_of => k_is)
    (case a_check_rule => k_is)
    (case l_check_rule => k_is)
    (case c_check_rule => k_is)
    (case k_check_rule => k_is)
    (case a__law_source => k_is)
    (case l__law_source => k_is)
    (case c__law_source => k_is)
    (case k__law_source => k_is)
    (case a__law_draw => k_is)
    (case l__law_draw => k_is)
    (case c__law_draw => k_is)
    (case k__law_draw => k_is)
    (case a__law_pick => k_is)
    (case l__law_pick => k_is)
    (case c__law_pick => k_is)
    (case k__law_pick => k_is)
    (case a__law_rule => k_is)
    (case l__law_rule => k_is)
    (case c__law_rule => k_is)
    (case k__law_rule => k_is)
    (case a__law_rule_row => k_is)
    (case l__law_rule_row => k_is)
    (case c__law_rule_row => k_is)
    (case k__law_rule_row => k_is)
    (case a__law_maker => k_is)
    (case l__law_maker => k_is)
    (case c__law_maker => k_is)
    (case k__law_maker => k_is)
    (case a__law_user => k_is)
    (case l__law_user => k_is)
    (case c__law_user => k_is)
    (case k__law_user => k_is)
    (case a_is_looks => k_is)
    (case l_is_looks => k_is)
    (case c_is_looks => k_is)
    (case k_is_looks => k_is)
    (case a_all_looks => k_is)
    (case l_all_looks => k_is)
    (case c_all_looks => k_is)
    (case k_all_looks => k_is)
    (case a__law_sets => k_is)
    (case l__law_sets => k_is)
    (case c__law_sets => k_is)
    (case k__law_sets => k_is)
    (case a__law_backs => k_is)
    (case l__law_backs => k_is)
    (case c__law_backs => k_is)
    (case k__law_backs => k_is)
    (case a__law_done => k_is)
    (case l__law_done => k_is)
    (case c__law_done => k_is)
    (case k__law_done => k_is)
    (case a__law_latest => k_is)
    (case l__law_latest => k_is)
    (case c__law_latest => k_is)
    (case k__law_latest => k_is)
    (case a__law_is => k_is)
    (case l__law_is => k_is)
    (case c__law_is => k_is)
    (case k__law_is => k_is)
    (case a__law_unlike => k_is)
    (case l__law_unlike => k_is)
    (case c__law_unlike => k_is)
    (case k__law_unlike => k_is)
    (case a_law => k_is)
    (case l_law => k_is)
    (case c_law => k_is)
    (case k_law => k_is)
    (case a_Moment___init__ => k_is)
    (case i_Moment___init__ => k_is)
    (case l_Moment___init__ => k_is)
    (case c_Moment___init__ => k_is)
    (case k_Moment___init__ => k_is)
    (case a_Moment_seconds => k_is)
    (case g_Moment_seconds => k_is)
    (case t_Moment_seconds => k_is)
    (case r_Moment_seconds => k_is)
    (case l_Moment_seconds => k_is)
    (case c_Moment_seconds => k_is)
    (case k_Moment_seconds => k_is)
    (case a_Moment_behind => k_is)
    (case i_Moment_behind => k_is)
    (case l_Moment_behind => k_is)
    (case c_Moment_behind => k_is)
    (case k_Moment_behind => k_is)
    (case a_Moment___le__ => k_is)
    (case i_Moment___le__ => k_is)
    (case l_Moment___le__ => k_is)
    (case c_Moment___le__ => k_is)
    (case k_Moment___le__ => k_is)
    (case a_Moment___eq__ => k_is)
    (case i_Moment___eq__ => k_is)
    (case l_Moment___eq__ => k_is)
    (case c_Moment___eq__ => k_is)
    (case k_Moment___eq__ => k_is)
    (case a_Rule___init__ => k_is)
    (case i_Rule___init__ => k_is)
    (case l_Rule___init__ => k_is)
    (case c_Rule___init__ => k_is)
    (case k_Rule___init__ => k_is)
    (case a_Rule_always => k_is)
    (case r_Rule_always => k_is)
    (case l_Rule_always => k_is)
    (case c_Rule_always => k_is)
    (case k_Rule_always => k_is)
    (case a_Rule_never => k_is)
    (case r_Rule_never => k_is)
    (case l_Rule_never => k_is)
    (case c_Rule_never => k_is)
    (case k_Rule_never => k_is)
    (case a_Rule_seldom => k_is)
    (case r_Rule_seldom => k_is)
    (case l_Rule_seldom => k_is)
    (case c_Rule_seldom => k_is)
    (case k_Rule_seldom => k_is)
    (case a_Rule_word => k_is)
    (case g_Rule_word => k_is)
    (case t_Rule_word => k_is)
    (case r_Rule_word => k_is)
    (case l_Rule_word => k_is)
    (case c_Rule_word => k_is)
    (case k_Rule_word => k_is)
    (case a_Rule_after => k_is)
    (case g_Rule_after => k_is)
    (case t_Rule_after => k_is)
    (case r_Rule_after => k_is)
    (case l_Rule_after => k_is)
    (case c_Rule_after => k_is)
    (case k_Rule_after => k_is)
    (case a_Rule_sets => k_is)
    (case i_Rule_sets => k_is)
    (case l_Rule_sets => k_is)
    (case c_Rule_sets => k_is)
    (case k_Rule_sets => k_is)
    (case a_Rule___call__ => k_is)
    (case fn_Rule___call__ => k_is)
    (case i_Rule___call__ => k_is)
    (case l_Rule___call__ => k_is)
    (case c_Rule___call__ => k_is)
    (case k_Rule___call__ => k_is)
    (case a_Rule___eq__ => k_is)
    (case i_Rule___eq__ => k_is)
    (case l_Rule___eq__ => k_is)
    (case c_Rule___eq__ => k_is)
    (case k_Rule___eq__ => k_is)
    (case a_File___init__ => k_is)
    (case i_File___init__ => k_is)
    (case l_File___init__ => k_is)
    (case c_File___init__ => k_is)
    (case k_File___init__ => k_is)
    (case a_File___getitem__ => k_is)
    (case fn_File___getitem__ => k_is)
    (case i_File___getitem__ => k_is)
    (case l_File___getitem__ => k_is)
    (case c_File___getitem__ => k_is)
    (case k_File___getitem__ => k_is)
    (case a_File_marks => k_is)
    (case i_File_marks => k_is)
    (case l_File_marks => k_is)
    (case c_File_marks => k_is)
    (case k_File_marks => k_is)
    (case a_File_do => k_is)
    (case i_File_do => k_is)
    (case l_File_do => k_is)
    (case c_File_do => k_is)
    (case k_File_do => k_is)
    (case a_File_double => k_is)
    (case i_File_double => k_is)
    (case l_File_double => k_is)
    (case c_File_double => k_is)
    (case k_File_double => k_is)
    (case a_File___eq__ => k_is)
    (case i_File___eq__ => k_is)
    (case l_File___eq__ => k_is)
    (case c_File___eq__ => k_is)
    (case k_File___eq__ => k_is)
    (case a_File_last => k_is)
    (case g_File_last => k_is)
    (case t_File_last => k_is)
    (case r_File_last => k_is)
    (case l_File_last => k_is)
    (case c_File_last => k_is)
    (case k_File_last => k_is)
    (case a_File_held => k_is)
    (case g_File_held => k_is)
    (case t_File_held => k_is)
    (case r_File_held => k_is)
    (case l_File_held => k_is)
    (case c_File_held => k_is)
    (case k_File_held => k_is)
    (case a_File_latest => k_is)
    (case i_File_latest => k_is)
    (case l_File_latest => k_is)
    (case c_File_latest => k_is)
    (case k_File_latest => k_is)
    (case a_FARTHEST => k_is)
    (case e_FARTHEST => rfl)
    (case a_LONGEST => k_is)
    (case e_LONGEST => rfl)
    (case a_LATEST_AFTER => k_is)
    (case e_LATEST_AFTER => rfl)
    (case pg_Moment => k_is)
    (case hd_Moment => k_is)
    (case po_Moment => k_is)
    (case sa_Moment => k_is)
    (case mk_Moment => k_is)
    (case kc_Moment => k_is)
    (case ca_Moment => k_is)
    (case cn_Moment => k_is)
    (case ct_Moment => k_is)
    (case cm_Moment => k_is)
    (case ic_Moment => k_is)
    (case ty_Moment => k_is)
    (case sub_Moment => k_is)
    (case nS_Moment => k_is)
    (case sub2_Moment => k_is)
    (case ne_Moment => k_is)
    (case ob_Moment => k_is)
    (case pg_Rule => k_is)
    (case hd_Rule => k_is)
    (case po_Rule => k_is)
    (case sa_Rule => k_is)
    (case mk_Rule => k_is)
    (case kc_Rule => k_is)
    (case ca_Rule => k_is)
    (case cn_Rule => k_is)
    (case ct_Rule => k_is)
    (case cm_Rule => k_is)
    (case ic_Rule => k_is)
    (case ty_Rule => k_is)
    (case sub_Rule => k_is)
    (case nW_Rule => k_is)
    (case nA_Rule => k_is)
    (case rd_Rule => k_is)
    (case rg_Rule => k_is)
    (case ne_Rule => k_is)
    (case ob_Rule => k_is)
    (case ic_Marked => k_is)
    (case ty_Marked => k_is)
    (case pg_File => k_is)
    (case hd_File => k_is)
    (case po_File => k_is)
    (case sa_File => k_is)
    (case mk_File => k_is)
    (case kc_File => k_is)
    (case ca_File => k_is)
    (case cn_File => k_is)
    (case ct_File => k_is)
    (case cm_File => k_is)
    (case ic_File => k_is)
    (case ty_File => k_is)
    (case sub_File => k_is)
    (case nR_File => k_is)
    (case nH_File => k_is)
    (case nL_File => k_is)
    (case nT_File => k_is)
    (case ne_File => k_is)
    (case ob_File => k_is)
    (case a_PLAIN => k_is)
    (case l_PLAIN => k_is)
    (case a_MARKS => k_is)
    (case l_MARKS => k_is)
    (case x_sub => k_is)
    (case x_neM => rfl)
    (case z_isinstance => k_is)
    (case z_int => k_is)
    (case z_bool => k_is)
    (case z_len => k_is)
    (case z_abs => k_is)
    (case z_max => k_is)
    (case z_min => k_is)
    (case z_range => k_is)
    (case z_tuple => k_is)
    (case z_str => k_is)
    (case z_list => k_is)
    (case z_dict => k_is)
    (case z_repr => k_is)
    (case z_ValueError => k_is)
    (case z_sorted => k_is)
