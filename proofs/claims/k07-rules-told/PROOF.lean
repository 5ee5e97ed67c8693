import PyProof.Rows.All
import Wide.All
import OpenK.AllK
import Wide.FinOn
import HandS.ForMost
import HandS.Evl
import HandS.IsInst
import HandS.HeadHook1
import HandS.HeadHook2
import HandS.HeadEnd
import KE.KExcSuper
import HandS.Exc
import HandS.ExcIs
import KE.KStateDown
import HandS.Head0
import HandS.Head1
import HandS.Head2
import HandS.Lambda
import PyProof.EqAt
import PyProof.EqKinds
import PyProof.TupleCall
import HandS.Base
import HandS.Call
import HandS.List
import HandS.SlotsOwn
import HandS.Words
import HandS.Property
import HandS.Wide
import HandS.EndBits
import HandS.TupLe
import HandS.ExcInit
import HandS.Codes
import HandS.WordsExc
import PyProof.ReprRoads
import HandS.RaiseMore
import HandS.Dict
import HandS.TryMany
import HandS.Strs
import HandS.More
import HandS.Steps
import HandS.ClsMeth
import HandS.Star
import HandS.Walk
import HandS.Style
import HandS.DictComp
import KE.GoesMore
import KE.GoesEnum
import HandS.SortInts
import HandS.Defaults
import HandS.Small
import HandS.Deep
import HandS.TupAny
import HandS.WideBits
import KE.KRevSl
import HandS.MakeKwOnly
import HandS.TryOnly
import PyProof.DictUpdate
import PyProof.DictDisplay
import KE.KOpsOwn
import OpenK.KMore
import HandS.SetFor
import HandS.EndTab
import HandS.DeepEq
import PySem.Sem
import PySem.Challenge.RW_agedfiles_k07_rules_told
set_option Elab.async false
set_option linter.all false
set_option maxRecDepth 100000
set_option maxHeartbeats 4000000
namespace Ag
open PySem PySem.Spec PyProof.Rows L2 Evl
def bT : List String := ["int", "bool", "str", "list", "tuple", "dict"]
def bT0 : List String := "NoneType" :: bT
def eqB (a b : Option Bool) : Bool := decide (a = b)
def clfB (K : PySem.W.Frag) (cls : List Str) (sub : Str → Str → Bool) : Bool :=
  (cls.all fun c => (He.Fa.cls c).ok K && (He.eqO (PySem.W.findIn K (.ref (He.ga K c)) "__class__") (some (some (.builtin "object.__class__"))) && eqB (PySem.W.mroIn K (He.ga K c) (.type "object")) (some true))) &&
  (He.eqO (PySem.W.specialIn K (.builtin "object.__class__") "__get__") (some (some (.builtin "getset_descriptor.__get__"))) && (eqB (PySem.W.takesIn K (.builtin "object.__class__")) (some true) &&
  ((cls.all fun c => cls.all fun d => eqB (PySem.W.kitOne K (.ref (He.ga K c)) (.ref (He.ga K d))) (some (sub c d))) &&
  ((cls.all fun c => bT.all fun t => eqB (PySem.W.kitOne K (.ref (He.ga K c)) (.type t)) (some false)) && bT0.all fun t => cls.all fun c => eqB (PySem.W.kitOne K (.type t) (.ref (He.ga K c))) (some false)))))
inductive Pl where
  | g (x : Str) | m (c x : Str) | p (c x : Str) | s (c x : Str)
  /-- the __init__ of an own error with some fields, in a file -/
  | e (c : Str) (fls : List Str) (file : Str)
  /-- a property's setter -/
  | q (c x : Str)
def recB (K : PySem.W.Frag) (t : String) (p : Addr) : Addr := match PySem.W.recIn K p t with
  | some (_ :: .ref g :: _) => g
  | _ => 0
def recA (K : PySem.W.Frag) (t : String) (p : Addr) : Addr := match PySem.W.recIn K p t with
  | some (.ref g :: _) => g
  | _ => 0
def smA (K : PySem.W.Frag) (C : Addr) (m : Str) : Addr := match PySem.W.findCls K (.ref C) (.type "type") m with
  | some (.get _ (.ref p) _ _) => p
  | _ => 0
def Pl.ad (K : PySem.W.Frag) : Pl → Addr
  | .g x => He.ga K x
  | .m c x => He.ma K (He.ga K c) x
  | .p c x => recA K "property" (He.ma K (He.ga K c) x)
  | .s c x => recA K "staticmethod" (smA K (He.ga K c) x)
  | .e c _ _ => He.ma K (He.ga K c) "__init__"
  | .q c x => recB K "property" (He.ma K (He.ga K c) x)
def erB (K : PySem.W.Frag) (c : Str) (fls : List Str) (file q : Str) : Bool :=
  (match K.lookup (He.ga K c) with
    | some ⟨.type ty, _, .cls cd, sl⟩ => (match cd.mro, sl.toList with
      | .ref C' :: bm, [_, _, _, _, some (.builtin n), _] => decide (ty = "type") && (decide (C' = He.ga K c) && (decide (n = "ValueError.__new__") && (cd.hasDict && (!cd.hasDel && PySem.HandSPX.refsVE bm))))
      | _, _ => false)
    | _ => false) &&
  (He.eqO (PySem.W.findIn K (.ref (He.ga K c)) "__setattr__") (some (some (.builtin "object.__setattr__"))) &&
  (He.eqO (PySem.W.findIn K (.ref (He.ga K c)) "__getattribute__") (some (some (.builtin "BaseException.__getattribute__"))) &&
  (He.eqO (PySem.W.findIn K (.ref (He.ga K c)) "__getattr__") (some none) &&
  ((fls.all fun f => He.eqO (PySem.W.findIn K (.ref (He.ga K c)) f) (some none)) &&
  (He.eqO (PySem.W.findIn K (.ref (He.ga K c)) "__init__") (some (some (.ref (He.ma K (He.ga K c) "__init__")))) &&
  (decide (PySem.W.typeIn K (.ref (He.ma K (He.ga K c) "__init__")) = some (.type "function")) &&
  (PySem.W.keepIn K (.ref (He.ga K c)) &&
  (decide (PySem.W.subIn K (.ref (He.ga K c)) (.type "BaseException") = some true) &&
  (decide (PySem.W.typeIn K (.ref (He.ga K c)) = some (.type "type")) &&
  (PySem.W.hasDictIn K (He.ga K c) &&
  (decide (PySem.W.exmOne K (.ref (He.ga K c)) (.ref (He.ga K c)) = some true) &&
  (He.eqO (PySem.W.ks_superIn K (He.ga K c) (He.ga K c) "__init__") (some (some (.builtin "ValueError.__init__"))) &&
  (decide (PySem.W.subIn K (.ref (He.ga K c)) (.type "ValueError") = some true) &&
  (decide (PySem.W.mroIn K (He.ga K c) (.ref (He.ga K c)) = some true) &&
  (He.eqO (PySem.W.nsIn K PySem.cStatics "thirdparty.any") (some none) &&
  (He.eqO (PySem.W.nsIn K mainGlobals "super") (some none) &&
  (He.eqO (PySem.W.nsIn K mainGlobals c) (some (some (.ref (He.ga K c)))) &&
  (match K.lookup (He.ma K (He.ga K c) "__init__") with
    | some ⟨_, _, .func fd, _⟩ => PySem.W.codeIn K fd.code q && (decide (fd.defaults = .none) && (decide (fd.kwdefaults = .none) && (match fd.closure, fd.code with
      | [(nm, cc)], .ref cda => decide (nm = "__class__") && ((match K.lookup cc with
          | some ⟨_, _, .cell (some (.ref C')), _⟩ => decide (C' = He.ga K c)
          | _ => false) && (match K.lookup cda with
          | some ⟨_, _, .fields vs, _⟩ => (match (vs.toList)[2]? with
            | some (Value.str fl _) => decide (fl = file)
            | _ => false)
          | _ => false))
      | _, _ => false)))
    | _ => false))))))))))))))))))
structure DefV where
  at_ : Pl
  name : Str
  qual : Str
  params : Arguments
  body : List Stmt
  scope : Scope
  dfl : List He.Dv
  kwd : List (Str × He.Dv)
def DefV.dvs (d : DefV) (K : PySem.W.Frag) : List V := d.dfl.map (He.Dv.v K)
def DefV.kws (d : DefV) (K : PySem.W.Frag) : List (Str × V) := d.kwd.map fun q => (q.1, q.2.v K)
def fnV (K : PySem.W.Frag) (a : Addr) : He.FnW := match K.lookup a with
  | some ⟨_, _, .func fd, _⟩ => some (fd.name, fd.qualname, fd.params, fd.body, fd.scope, fd.globals, fd.closure, fd.builtins)
  | _ => none
def DefV.val (d : DefV) : He.FnW := some (d.name, d.qual, d.params, .stmts d.body, d.scope, mainGlobals, [], builtinsNs)
def DefV.okF (K : PySem.W.Frag) (d : DefV) : Bool := PySem.W.keepIn K (.ref (d.at_.ad K)) && (match K.lookup (d.at_.ad K) with
  | some ⟨_, _, .func fd, _⟩ => PySem.W.codeIn K fd.code d.qual && (He.dflB K fd.defaults (d.dvs K) && He.kwdB K fd.kwdefaults (d.kws K))
  | _ => false)
def DefV.ok (K : PySem.W.Frag) (d : DefV) : Bool := match d.at_ with
  | .e c fls file => erB K c fls file d.qual
  | _ => d.okF K
def fnW (K : PySem.W.Frag) (d : DefV) : He.FnW := match d.at_ with
  | .e _ _ _ => (match fnV K (d.at_.ad K) with
    | some (n, q, p, b, s, g, _, l) => some (n, q, p, b, s, g, [], l)
    | none => none)
  | _ => fnV K (d.at_.ad K)
inductive FaV where
  | he (f : He.Fa)
  | prp (c x : Str)
  | stm (c x : Str)
  | tup (x : Str) (vs : List Str)
  | fni (c : Str)
  | nof (c : Str)
  | noe (c : Str)
  | clf (cls : List Str) (sub : Str → Str → Bool)
  | exi (c : Str)
  | kito (c d : Str) (b : Bool)
  | kitt (c : Str) (d : String) (b : Bool)
  | exl (l : List (Str × Str × Bool))
  | gen (p : PySem.W.Frag → Bool)
def FaV.ok (K : PySem.W.Frag) : FaV → Bool
  | .he f => f.ok K
  | .prp c x => He.eqO (PySem.W.findIn K (.ref (He.ga K c)) x) (some (some (.ref (He.ma K (He.ga K c) x)))) &&
    (He.eqO (PySem.W.specialIn K (.ref (He.ma K (He.ga K c) x)) "__get__") (some (some (.builtin "property.__get__"))) &&
    (eqB (PySem.W.takesIn K (.ref (He.ma K (He.ga K c) x))) (some true) && (match PySem.W.recIn K (He.ma K (He.ga K c) x) "property" with
      | some (.ref _ :: _) => true
      | _ => false)))
  | .stm c x => PySem.W.readsIn K (He.ga K c) (.type "type") && (He.eqO (PySem.W.specialIn K (.ref (He.ga K c)) "__getattribute__") (some (some (.builtin "type.__getattribute__"))) &&
    ((match PySem.W.findCls K (.ref (He.ga K c)) (.type "type") x with
      | some (.get (.builtin s) (.ref p) .none (.ref c')) => decide (s = "staticmethod.__get__") && decide (c' = He.ga K c)
      | _ => false) && (match PySem.W.recIn K (smA K (He.ga K c) x) "staticmethod" with
      | some (.ref _ :: _) => true
      | _ => false)))
  | .tup x vs => He.tupB K x (vs.map He.Dv.str)
  | .fni c => PySem.W.fnIn K (He.ma K (He.ga K c) "__getitem__")
  | .nof c => PySem.W.notFirst K (He.ga K c) (.ref (He.ga K c))
  | .noe c => He.eqO (PySem.W.findIn K (.ref (He.ga K c)) "__ne__") (some (some (.builtin "object.__ne__"))) && eqB (PySem.W.subIn K (.ref (He.ga K c)) (.type "object")) (some true)
  | .clf cls sub => clfB K cls sub
  | .exi c => He.eqO (PySem.W.findIn K (.ref (He.ga K c)) "__getattribute__") (some (some (.builtin "BaseException.__getattribute__"))) &&
    (He.eqO (PySem.W.findIn K (.ref (He.ga K c)) "__getattr__") (some none) && (decide (PySem.W.subIn K (.ref (He.ga K c)) (.type "BaseException") = some true) && (PySem.W.hasDictIn K (He.ga K c) &&
    (He.eqO (PySem.W.findIn K (.ref (He.ga K c)) "__class__") (some (some (.builtin "object.__class__"))) && (He.eqO (PySem.W.specialIn K (.builtin "object.__class__") "__get__") (some (some (.builtin "getset_descriptor.__get__"))) &&
    (decide (PySem.W.takesIn K (.builtin "object.__class__") = some true) && decide (PySem.W.mroIn K (He.ga K c) (.type "object") = some true)))))))
  | .kito c d b => decide (PySem.W.kitOne K (.ref (He.ga K c)) (.ref (He.ga K d)) = some b)
  | .kitt c d b => decide (PySem.W.kitOne K (.ref (He.ga K c)) (.type d) = some b)
  | .exl l => l.all fun t => decide (PySem.W.exmOne K (.ref (He.ga K t.1)) (.ref (He.ga K t.2.1)) = some t.2.2)
  | .gen p => p K
def obsV (fa : List FaV) (fn : List DefV) (K : PySem.W.Frag) : He.AlD := ((fa.all fun f => f.ok K) && fn.all fun d => d.ok K, fn.map fun d => fnW K d)
def valH (fn : List DefV) : He.AlD := (true, fn.map DefV.val)
def SaysV (fa : List FaV) (fn : List DefV) (K : PySem.W.Frag) : Prop := obsV fa fn K = valH fn
def clsDt (g : Addr → Option Obj) (a : Addr) : List Addr := match g a with
  | some o => (match o.data with
    | .cls cd => cd.ns :: cd.mro.flatMap He.refV
    | _ => [])
  | none => []
def clsAd (g : Addr → Option Obj) (c : Str) : List Addr := (He.ga (He.frG g [mainGlobals]) c) :: ((clsDt g (He.ga (He.frG g [mainGlobals]) c)).flatMap fun b => b :: (clsDt g b).take 1)
def fnAd (g : Addr → Option Obj) (a : Addr) : List Addr := a :: match g a with
  | some o => (match o.data with
    | .func fd => He.refV fd.code ++ (He.refV fd.defaults ++ He.refV fd.kwdefaults)
    | _ => [])
  | none => []
def recAd (g : Addr → Option Obj) (t : String) (p : Addr) : List Addr := p :: fnAd g (recA (He.frG g [p]) t p)
def plAd (g : Addr → Option Obj) (K : PySem.W.Frag) : Pl → List Addr
  | .g x => fnAd g (He.ga K x)
  | .m c x => fnAd g (He.ma K (He.ga K c) x)
  | .p c x => recAd g "property" (He.ma K (He.ga K c) x)
  | .s c x => recAd g "staticmethod" (He.ma K (He.ga K c) x)
  | .q c x => (He.ma K (He.ga K c) x) :: fnAd g (recB (He.frG g [He.ma K (He.ga K c) x]) "property" (He.ma K (He.ga K c) x))
  | .e c _ _ => fnAd g (He.ma K (He.ga K c) "__init__") ++ (match g (He.ma K (He.ga K c) "__init__") with
    | some o => (match o.data with
      | .func fd => fd.closure.map (·.2)
      | _ => [])
    | none => [])
def asW (cs ts : List Str) (ps : List Pl) (g : Addr → Option Obj) : List Addr :=
  mainGlobals :: PySem.cStatics :: (cs.flatMap (clsAd g) ++ (ts.map (He.ga (He.frG g [mainGlobals])) ++ ps.flatMap (plAd g (He.frG g (mainGlobals :: PySem.cStatics :: cs.flatMap (clsAd g))))))
def obsWG (cs ts : List Str) (fa : List FaV) (fn : List DefV) (g : Addr → Option Obj) : He.AlD := obsV fa fn (He.frG g (asW cs ts (fn.map (·.at_)) g))
theorem run_three {α β γ δ : Type} {o : Option α} {f : α → β} {g : α → γ} {h : α → δ} {x : β} {y : γ} {z : δ} (h1 : o.map f = some x) (h2 : o.map g = some y) (h3 : o.map h = some z) : o.map (fun s => (f s, g s, h s)) = some (x, y, z) := by
  cases o with
  | none => cases h1
  | some s =>
    simp only [Option.map_some, Option.some.injEq] at *
    rw [h1, h2, h3]
theorem run_obs {α : Type} {o : Option α} {fa : List FaV} {fn : List DefV} {k : α → PySem.W.Frag} (n : Nat) (h1 : o.map (fun s => (fa.take n).all fun f => f.ok (k s)) = some true) (h2 : o.map (fun s => (fa.drop n).all fun f => f.ok (k s)) = some true) (h3 : o.map (fun s => fn.all fun d => d.ok (k s)) = some true) (h4 : o.map (fun s => fn.map fun d => fnW (k s) d) = some (fn.map DefV.val)) : o.map (fun s => obsV fa fn (k s)) = some (valH fn) := by
  cases o with
  | none => cases h1
  | some s =>
    simp only [Option.map_some, Option.some.injEq] at h1 h2 h3 h4 ⊢
    unfold obsV valH
    rw [h3, h4, ← List.take_append_drop n fa, List.all_append, h1, h2]
    rfl
def lamNames : List Str := ["law", "_law_refused_too", "_law_looks_refused", "_law_held", "_law_all_refused", "_law_ages_refused", "_law_reads_refused", "_law_others_refused", "_law_menu_refused", "_law_keep_refused", "_law_missing", "_law_takes_refused", "_law_visit", "_law_ends", "_law_nested"]
def tabAt (K : PySem.W.Frag) (x : Str) : Option (Addr × Addr) := match K.lookup (He.ga K x) with
  | some ⟨_, _, .func fd, _⟩ => if fd.name == x then (match fd.code with
    | .ref c => (match K.lookup c with
      | some ⟨_, _, .fields vs, _⟩ => (match (vs[11]? : Option Value) with
        | some (.ref P) => some (c, P)
        | _ => none)
      | _ => none)
    | _ => none) else none
  | _ => none
def lmB (K : PySem.W.Frag) (x : Str) : Bool := lamNames.contains x && (match tabAt K x with
  | some p => lamNames.all fun y => (match tabAt K y with
    | some r => decide (r.2 ≠ p.2) || y == x
    | none => true)
  | none => false)
def tabCs (K : PySem.W.Frag) : List (Addr × Addr) := lamNames.filterMap (tabAt K)
def cdHB (K : PySem.W.Frag) (p : Addr × Addr) : Bool := (match K.lookup p.1 with
  | some ⟨.type t, _, .fields vs, _⟩ => decide (t = "code") && ((match (vs[11]? : Option Value) with
    | some (.ref P) => decide (P = p.2)
    | _ => false) && ((match vs.getD 11 .none with
    | .ref P => decide (P = p.2)
    | _ => false) && ((match vs.getD 18 .none with
    | .str _ _ => true
    | _ => false) && ((match vs.getD 7 .none with
    | .int _ _ => true
    | _ => false) && ((match vs.getD 9 .none with
    | .bool _ => true
    | _ => false) && (match vs.getD 10 .none with
    | .int _ _ => true
    | _ => false))))))
  | _ => false) && (decide (p.1 ≠ p.2) && (K.lookup p.2).isNone)
def csB (K : PySem.W.Frag) : Bool := (tabCs K).all (cdHB K)
def emB (g : Addr → Option Obj) (p : Addr × Addr) : Bool := match g p.2 with
  | some ⟨.none, none, .fields vs, sl⟩ => vs.isEmpty && sl.isEmpty
  | _ => false
theorem em_of {g : Addr → Option Obj} {p : Addr × Addr} (e : emB g p = true) : g p.2 = some { cls := .none, data := .fields #[] } := by
  unfold emB at e
  split at e
  · rename_i vs sl h
    obtain ⟨e1, e2⟩ := He.ba e
    rw [h]
    have h1 : vs = #[] := by simpa using e1
    have h2 : sl = #[] := by simpa using e2
    subst h1 h2
    rfl
  · cases e
def obsT (cs ts : List Str) (fa : List FaV) (fn : List DefV) (g : Addr → Option Obj) : Bool × He.AlD := ((tabCs (He.frG g (asW cs ts (fn.map (·.at_)) g))).all (emB g), obsWG cs ts fa fn g)
def hookT (cs ts : List Str) (fa : List FaV) (fn : List DefV) : PySem.W.Hook where
  α := Bool × He.AlD
  obs := fun s => obsT cs ts fa fn s.heap.get?
  val := fun _ => (true, valH fn)
  says := fun _ h => ∃ K : PySem.W.Frag, K.In h ∧ SaysV fa fn K ∧ ∀ p ∈ tabCs K, h.get? p.2 = some { cls := .none, data := .fields #[] }
  of := fun _ s e => ⟨_, He.frG_in, (Prod.mk.inj e).2, fun p hp => em_of (List.all_eq_true.mp (Prod.mk.inj e).1 p hp)⟩
  keeps := fun _ _ _ ⟨K, hK, c, em⟩ k => ⟨K, PySem.W.Frag.In.keeps hK k, c, fun p hp => k _ _ (em p hp)⟩
theorem obsT_eq {cs ts : List Str} {fa : List FaV} {fn : List DefV} {g : Addr → Option Obj} {s : Shared} (h : ∀ a, g a = s.heap.get? a) : obsT cs ts fa fn g = (hookT cs ts fa fn).obs s := by
  have e : g = s.heap.get? := funext h
  rw [e] <;> rfl
theorem run_two {α β γ : Type} {o : Option α} {f : α → β} {g : α → γ} {x : β} {y : γ} (h1 : o.map f = some x) (h2 : o.map g = some y) : o.map (fun s => (f s, g s)) = some (x, y) := by
  cases o with
  | none => cases h1
  | some s =>
    simp only [Option.map_some, Option.some.injEq] at *
    rw [h1, h2]
def top (i : Nat) : Stmt := PySem.Challenge.pw_agedfiles_k07_rules_told.main.body.getD i (.Pass ⟨0, 0, 0, 0⟩)
abbrev s__law_source : Stmt := top 32
abbrev s__law_draw : Stmt := top 33
abbrev s__law_pick : Stmt := top 34
abbrev s_is_whole : Stmt := top 9
abbrev s_is_between : Stmt := top 10
abbrev s_Rule___init__ : Stmt := inClass (top 18) 0
abbrev s_Rule_seldom : Stmt := inClass (top 18) 3
abbrev s_Rule_always : Stmt := inClass (top 18) 1
abbrev s_Rule_never : Stmt := inClass (top 18) 2
abbrev s__law_rule : Stmt := top 35
abbrev s_Rule_after : Stmt := inClass (top 18) 5
abbrev s_Rule_word : Stmt := inClass (top 18) 4
abbrev s_check_rule : Stmt := top 19
abbrev s_is_time : Stmt := top 24
abbrev s_is_deed : Stmt := top 25
abbrev s_makes : Stmt := top 26
abbrev s_Moment_seconds : Stmt := inClass (top 13) 1
abbrev s_seconds_of : Stmt := top 14
abbrev s_backs : Stmt := top 27
abbrev s_File___init__ : Stmt := inClass (top 30) 0
abbrev s_Rule_sets : Stmt := inClass (top 18) 6
abbrev s_File_do : Stmt := inClass (top 30) 4
abbrev s_File_marks : Stmt := inClass (top 30) 3
abbrev s_Moment___init__ : Stmt := inClass (top 13) 0
abbrev s_Rule___call__ : Stmt := inClass (top 18) 7
abbrev s_Rule___eq__ : Stmt := inClass (top 18) 8
abbrev s__law_equal : Stmt := top 38
abbrev s__law_refused : Stmt := top 36
abbrev s__law_refused_too : Stmt := top 37
abbrev s_law : Stmt := top 39
abbrev s_NoMoment___init__ : Stmt := inClass (top 3) 0
abbrev s_NoFile___init__ : Stmt := inClass (top 5) 0
abbrev s_NoRule___init__ : Stmt := inClass (top 4) 0
def errFile : Str := PySem.Challenge.pw_agedfiles_k07_rules_told.main.file
def exL : List (Str × Str × Bool) := [("NoMoment", "NoMoment", true), ("NoMoment", "NoFile", false), ("NoMoment", "NoRule", false), ("NoFile", "NoMoment", false), ("NoFile", "NoFile", true), ("NoFile", "NoRule", false), ("NoRule", "NoMoment", false), ("NoRule", "NoFile", false), ("NoRule", "NoRule", true)]
def clsL : List Str := ["Rule", "File", "Moment", "Marked"]
def subC (a b : Str) : Bool := a == b || (a == "File" && b == "Marked")
def faL : List FaV := [.he (.free "len"), .he (.free "abs"), .he (.free "int"), .clf clsL subC, .he (.free "isinstance"), .he (.free "bool"), .he (.cls "Rule"), .he (.noat "Rule" "own_word"), .he (.noat "Rule" "own_after"), .he (.int "LATEST_AFTER" (2000)), .he (.glo "Rule"), .he (.int "LONGEST" (1000000000)), .he (.free "tuple"), .he (.free "str"), .he (.glo "PLAIN"), .tup "PLAIN" ["make", "read", "write", "rename", "touch"], .he (.cls "Moment"), .he (.noat "Moment" "own_seconds"), .he (.glo "Moment"), .he (.int "FARTHEST" (1000000000000000000000000000000)), .he (.cls "File"), .he (.noat "File" "rule"), .he (.noat "File" "own_held"), .he (.noat "File" "own_last"), .he (.noat "File" "own_table"), .he (.free "list"), .he (.free "dict"), .he (.glo "Marked"), .nof "Rule", .gen fun K => PySem.W.notFirst K (He.ga K "Rule") (.type "str"), .gen fun K => clsL.all fun d => PySem.W.notFirst K (He.ga K "Rule") (.ref (He.ga K d)), .he (.glo "NoRule"), .he (.free "repr"), .kito "NoRule" "AgeError" true, .exi "NoRule", .he (.glo "AgeError"), .he (.glo "NoFile"), .kito "NoFile" "AgeError" true, .exi "NoFile", .he (.glo "NoMoment"), .kito "NoMoment" "AgeError" true, .exi "NoMoment", .exl exL, .gen fun K => PySem.W.fnIn K (He.ma K (He.ga K "Rule") "__call__"), .he (.free "range"), .he (.free "max"), .he (.free "min"), .he (.glo "_law_source"), .he (.glo "_law_draw"), .he (.glo "_law_pick"), .he (.glo "is_whole"), .he (.glo "is_between"), .he (.glo "Rule"), .he (.mkr "Rule"), .stm "Rule" "seldom", .stm "Rule" "always", .stm "Rule" "never", .he (.glo "_law_rule"), .prp "Rule" "after", .prp "Rule" "word", .he (.glo "check_rule"), .he (.glo "is_time"), .he (.glo "is_deed"), .he (.glo "makes"), .prp "Moment" "seconds", .he (.glo "seconds_of"), .he (.glo "backs"), .he (.glo "File"), .he (.mkr "File"), .he (.meth "Rule" "sets"), .he (.meth "File" "do"), .he (.meth "File" "marks"), .he (.glo "Moment"), .he (.mkr "Moment"), .he (.meth "Rule" "__call__"), .he (.meth "Rule" "__eq__"), .he (.glo "_law_equal"), .he (.glo "_law_refused"), .gen fun K => lmB K "_law_refused_too", .he (.glo "_law_refused_too"), .gen fun K => lmB K "law", .he (.glo "law"), .gen csB]
def fnL : List DefV := [⟨.g "_law_source", "_law_source", "_law_source", defArgs s__law_source, defBody s__law_source, defScope s__law_source, [], []⟩, ⟨.g "_law_draw", "_law_draw", "_law_draw", defArgs s__law_draw, defBody s__law_draw, defScope s__law_draw, [], []⟩, ⟨.g "_law_pick", "_law_pick", "_law_pick", defArgs s__law_pick, defBody s__law_pick, defScope s__law_pick, [], []⟩, ⟨.g "is_whole", "is_whole", "is_whole", defArgs s_is_whole, defBody s_is_whole, defScope s_is_whole, [], []⟩, ⟨.g "is_between", "is_between", "is_between", defArgs s_is_between, defBody s_is_between, defScope s_is_between, [], []⟩, ⟨.m "Rule" "__init__", "__init__", "Rule.__init__", defArgs s_Rule___init__, defBody s_Rule___init__, defScope s_Rule___init__, [], []⟩, ⟨.s "Rule" "seldom", "seldom", "Rule.seldom", defArgs s_Rule_seldom, defBody s_Rule_seldom, defScope s_Rule_seldom, [], []⟩, ⟨.s "Rule" "always", "always", "Rule.always", defArgs s_Rule_always, defBody s_Rule_always, defScope s_Rule_always, [], []⟩, ⟨.s "Rule" "never", "never", "Rule.never", defArgs s_Rule_never, defBody s_Rule_never, defScope s_Rule_never, [], []⟩, ⟨.g "_law_rule", "_law_rule", "_law_rule", defArgs s__law_rule, defBody s__law_rule, defScope s__law_rule, [], []⟩, ⟨.p "Rule" "after", "after", "Rule.after", defArgs s_Rule_after, defBody s_Rule_after, defScope s_Rule_after, [], []⟩, ⟨.p "Rule" "word", "word", "Rule.word", defArgs s_Rule_word, defBody s_Rule_word, defScope s_Rule_word, [], []⟩, ⟨.g "check_rule", "check_rule", "check_rule", defArgs s_check_rule, defBody s_check_rule, defScope s_check_rule, [], []⟩, ⟨.g "is_time", "is_time", "is_time", defArgs s_is_time, defBody s_is_time, defScope s_is_time, [], []⟩, ⟨.g "is_deed", "is_deed", "is_deed", defArgs s_is_deed, defBody s_is_deed, defScope s_is_deed, [], []⟩, ⟨.g "makes", "makes", "makes", defArgs s_makes, defBody s_makes, defScope s_makes, [], []⟩, ⟨.p "Moment" "seconds", "seconds", "Moment.seconds", defArgs s_Moment_seconds, defBody s_Moment_seconds, defScope s_Moment_seconds, [], []⟩, ⟨.g "seconds_of", "seconds_of", "seconds_of", defArgs s_seconds_of, defBody s_seconds_of, defScope s_seconds_of, [], []⟩, ⟨.g "backs", "backs", "backs", defArgs s_backs, defBody s_backs, defScope s_backs, [], []⟩, ⟨.m "File" "__init__", "__init__", "File.__init__", defArgs s_File___init__, defBody s_File___init__, defScope s_File___init__, [], []⟩, ⟨.m "Rule" "sets", "sets", "Rule.sets", defArgs s_Rule_sets, defBody s_Rule_sets, defScope s_Rule_sets, [], []⟩, ⟨.m "File" "do", "do", "File.do", defArgs s_File_do, defBody s_File_do, defScope s_File_do, [], []⟩, ⟨.m "File" "marks", "marks", "File.marks", defArgs s_File_marks, defBody s_File_marks, defScope s_File_marks, [], []⟩, ⟨.m "Moment" "__init__", "__init__", "Moment.__init__", defArgs s_Moment___init__, defBody s_Moment___init__, defScope s_Moment___init__, [], []⟩, ⟨.m "Rule" "__call__", "__call__", "Rule.__call__", defArgs s_Rule___call__, defBody s_Rule___call__, defScope s_Rule___call__, [], []⟩, ⟨.m "Rule" "__eq__", "__eq__", "Rule.__eq__", defArgs s_Rule___eq__, defBody s_Rule___eq__, defScope s_Rule___eq__, [], []⟩, ⟨.g "_law_equal", "_law_equal", "_law_equal", defArgs s__law_equal, defBody s__law_equal, defScope s__law_equal, [], []⟩, ⟨.g "_law_refused", "_law_refused", "_law_refused", defArgs s__law_refused, defBody s__law_refused, defScope s__law_refused, [], []⟩, ⟨.g "_law_refused_too", "_law_refused_too", "_law_refused_too", defArgs s__law_refused_too, defBody s__law_refused_too, defScope s__law_refused_too, [], []⟩, ⟨.g "law", "law", "law", defArgs s_law, defBody s_law, defScope s_law, [], []⟩, ⟨.e "NoMoment" ["value"] errFile, "__init__", "NoMoment.__init__", defArgs s_NoMoment___init__, defBody s_NoMoment___init__, defScope s_NoMoment___init__, [], []⟩, ⟨.e "NoFile" ["value"] errFile, "__init__", "NoFile.__init__", defArgs s_NoFile___init__, defBody s_NoFile___init__, defScope s_NoFile___init__, [], []⟩, ⟨.e "NoRule" ["value"] errFile, "__init__", "NoRule.__init__", defArgs s_NoRule___init__, defBody s_NoRule___init__, defScope s_NoRule___init__, [], []⟩]
abbrev R : PySem.W.OpenRow := PySem.W.OpenLaw.row PySem.Challenge.rw_agedfiles_k07_rules_told
def csL : List Str := ["Rule", "File", "Moment", "Marked", "AgeError", "NoFile", "NoMoment", "NoRule"]
def tsL : List Str := ["PLAIN"]
abbrev hk : PySem.W.Hook := hookT csL tsL faL fnL
def ob0 (s : PySem.W.SharedT) : He.AlD := obsWG csL tsL faL fnL (HandSHeadRun.getT s)
def ob (s : PySem.W.SharedT) : Bool × He.AlD := obsT csL tsL faL fnL (HandSHeadRun.getT s)
theorem ob_eq (s : PySem.W.SharedT) : ob s = hk.obs s.abs := obsT_eq (HandSHeadRun.getT_eq s)
def nm0 : List PySem.Str := ["_wall", "__name__", "AgeError", "NoMoment", "NoRule", "NoFile", "NoDeed", "NoMark", "is_whole", "is_between", "FARTHEST", "Moment", "seconds_of", "LATEST_AFTER", "Marked", "Rule", "check_rule", "MARKS", "PLAIN", "LONGEST", "is_time", "is_deed", "makes", "backs", "Hold", "File", "_law_source", "_law_draw", "_law_pick", "_law_rule"]
def nm1 : List PySem.Str := ["_law_refused", "_law_refused_too", "_law_equal"]
def nmL : List PySem.Str := nm0 ++ nm1
set_option maxHeartbeats 0 in
theorem runA (w : World) (os : OsState) : (HandSHeadRun.endF (HandSHeadRun.stepQ (HandSHeadRun.denQ HandSHeadRun.tabQ) R.prog w) 40000 R.prog w os).map (fun s => HandSHeadRun.looksF R.prog (PySem.W.boot_heap w.params) s.abs) = some true := by
  kernel_rfl
set_option maxHeartbeats 0 in
theorem runB (w : World) (os : OsState) : (HandSHeadRun.endF (HandSHeadRun.stepQ (HandSHeadRun.denQ HandSHeadRun.tabQ) R.prog w) 40000 R.prog w os).map (fun s => HandSHeadRun.seenQ (PySem.W.view R.prog [39]) nmL (PySem.importedModules R.prog.main.body) (fun s => PySem.W.xlAt (PySem.W.view R.prog [39]) [] s && PySem.W.recOk R.toRowW.records s) s.abs) = some (PySem.W.openGood (PySem.W.view R.prog [39]) nmL) := by
  kernel_rfl
def kfr (s : PySem.W.SharedT) : PySem.W.Frag := He.frG (HandSHeadRun.getT s) (asW csL tsL (fnL.map (·.at_)) (HandSHeadRun.getT s))
set_option maxHeartbeats 0 in
theorem runC1 (w : World) (os : OsState) : (HandSHeadRun.endF (HandSHeadRun.stepQ (HandSHeadRun.denQ HandSHeadRun.tabQ) R.prog w) 40000 R.prog w os).map (fun s => (faL.take 41).all fun f => f.ok (kfr s)) = some true := by
  kernel_rfl
set_option maxHeartbeats 0 in
theorem runC2 (w : World) (os : OsState) : (HandSHeadRun.endF (HandSHeadRun.stepQ (HandSHeadRun.denQ HandSHeadRun.tabQ) R.prog w) 40000 R.prog w os).map (fun s => (faL.drop 41).all fun f => f.ok (kfr s)) = some true := by
  kernel_rfl
set_option maxHeartbeats 0 in
theorem runC3 (w : World) (os : OsState) : (HandSHeadRun.endF (HandSHeadRun.stepQ (HandSHeadRun.denQ HandSHeadRun.tabQ) R.prog w) 40000 R.prog w os).map (fun s => fnL.all fun d => d.ok (kfr s)) = some true := by
  kernel_rfl
set_option maxHeartbeats 0 in
theorem runC4 (w : World) (os : OsState) : (HandSHeadRun.endF (HandSHeadRun.stepQ (HandSHeadRun.denQ HandSHeadRun.tabQ) R.prog w) 40000 R.prog w os).map (fun s => fnL.map fun d => fnW (kfr s) d) = some (fnL.map DefV.val) := by
  kernel_rfl
theorem runC0 (w : World) (os : OsState) : (HandSHeadRun.endF (HandSHeadRun.stepQ (HandSHeadRun.denQ HandSHeadRun.tabQ) R.prog w) 40000 R.prog w os).map (fun s => ob0 s) = some (valH fnL) := run_obs (k := kfr) 41 (runC1 w os) (runC2 w os) (runC3 w os) (runC4 w os)
set_option maxHeartbeats 0 in
theorem runT (w : World) (os : OsState) : (HandSHeadRun.endF (HandSHeadRun.stepQ (HandSHeadRun.denQ HandSHeadRun.tabQ) R.prog w) 40000 R.prog w os).map (fun s => (tabCs (kfr s)).all (emB (HandSHeadRun.getT s))) = some true := by
  kernel_rfl
theorem runC (w : World) (os : OsState) : (HandSHeadRun.endF (HandSHeadRun.stepQ (HandSHeadRun.denQ HandSHeadRun.tabQ) R.prog w) 40000 R.prog w os).map (fun s => ob s) = some (hk.val w) := run_two (runT w os) (runC0 w os)
theorem run (w : World) : HandSHeadRun.RunEq R (PySem.W.view R.prog [39]) hk ob 40000 nmL w := fun os => run_three (runA w os) (runB w os) (runC w os)
inductive D where
  | non | bl (b : Bool) | int (i : Int) | str (x : Str)
  /-- the script -/
  | scr (ns : List Int)
  /-- a list; a tuple (k: it may stand in the written part) -/
  | lst (xs : List D) | tup (k : Bool) (xs : List D)
  | dct (ks : List Key) (ds : List D) | dcT (ks : List (List Key)) (ds : List D)
  | obj (c : Str) (fs : List Str) (ds : List D)
def TupIn (K : PySem.W.Frag) (B : Hp) (a : Addr) (vs : List V) : Bool → Prop
  | true => SqT K B a vs
  | false => B a = some (.tup vs)
theorem TupIn.sq {K : PySem.W.Frag} {B : Hp} {a : Addr} {vs : List V} {k : Bool} (h : TupIn K B a vs k) : SqT K B a vs := by
  cases k with
  | true => exact h
  | false => exact st_of h
theorem TupIn.ex {K : PySem.W.Frag} {B B' : Hp} {a : Addr} {vs : List V} {k : Bool} (e : Ex B B') (h : TupIn K B a vs k) : TupIn K B' a vs k := by
  cases k with
  | true => exact ex_t e h
  | false => exact e _ _ h
theorem rd_mono {B B' : Hp} {a : Addr} {u : HO} (e : Ex B B') (h : Rd B a u) : Rd B' a u := h.elim (fun h => .inl (e _ _ h)) fun ⟨o, h⟩ => .inr ⟨o, e _ _ h⟩
mutual
def Rep (K : PySem.W.Frag) (B : Hp) : D → V → Prop
  | .non, v => v = .non
  | .bl b, v => v = .bl b
  | .int i, v => v = .int i
  | .str x, v => v = .str x
  | .scr ns, v => ∃ a, v = .ref a ∧ SqL K B a (ns.map V.int)
  | .lst ds, v => ∃ a vs, v = .ref a ∧ B a = some (.lst vs) ∧ RepL K B ds vs
  | .tup k ds, v => ∃ a vs, v = .ref a ∧ TupIn K B a vs k ∧ RepL K B ds vs
  | .dct ks ds, v => ∃ a kvs, v = .ref a ∧ Rd B a (.dK kvs) ∧ kvs.map (·.1) = ks ∧ RepL K B ds (kvs.map (·.2))
  | .dcT ks ds, v => ∃ a kvs, v = .ref a ∧ B a = some (.dT kvs) ∧ kvs.map (·.1) = ks ∧ RepL K B ds (kvs.map (·.2))
  | .obj c fs ds, v => ∃ a dx kvs, v = .ref a ∧ B a = some (.ins (He.ga K c) dx kvs) ∧ kvs.map (·.1) = fs ∧ RepL K B ds (kvs.map (·.2))
def RepL (K : PySem.W.Frag) (B : Hp) : List D → List V → Prop
  | [], vs => vs = []
  | d :: ds, vs => ∃ v r, vs = v :: r ∧ Rep K B d v ∧ RepL K B ds r
end
mutual
theorem Rep.mono {K : PySem.W.Frag} {B B' : Hp} (e : Ex B B') : ∀ {d : D} {v : V}, Rep K B d v → Rep K B' d v
  | .non, _, h => h
  | .bl _, _, h => h
  | .int _, _, h => h
  | .str _, _, h => h
  | .scr _, _, ⟨a, h, s⟩ => ⟨a, h, ex_l e s⟩
  | .lst _, _, ⟨a, vs, h, s, r⟩ => ⟨a, vs, h, e _ _ s, RepL.mono e r⟩
  | .tup _ _, _, ⟨a, vs, h, s, r⟩ => ⟨a, vs, h, s.ex e, RepL.mono e r⟩
  | .dct _ _, _, ⟨a, kvs, h, s, k, r⟩ => ⟨a, kvs, h, rd_mono e s, k, RepL.mono e r⟩
  | .dcT _ _, _, ⟨a, kvs, h, s, k, r⟩ => ⟨a, kvs, h, e _ _ s, k, RepL.mono e r⟩
  | .obj _ _ _, _, ⟨a, dx, kvs, h, s, k, r⟩ => ⟨a, dx, kvs, h, e _ _ s, k, RepL.mono e r⟩
theorem RepL.mono {K : PySem.W.Frag} {B B' : Hp} (e : Ex B B') : ∀ {ds : List D} {vs : List V}, RepL K B ds vs → RepL K B' ds vs
  | [], _, h => h
  | _ :: _, _, ⟨v, r, h, a, b⟩ => ⟨v, r, h, Rep.mono e a, RepL.mono e b⟩
end
def Mk1 : HO → Prop
  | .lst _ => True
  | .dK _ => True
  | .dT _ => True
  | .ins _ _ _ => True
  | _ => False
theorem TupIn.keep {K : PySem.W.Frag} {B B' : Hp} {a : Addr} {vs : List V} {k : Bool} (e : ∀ a o, B a = some o → ¬ Mk1 o → B' a = some o) (h : TupIn K B a vs k) : TupIn K B' a vs k := by
  cases k with
  | true =>
    rcases h with (h | ⟨o, h⟩) | h
    · exact .inl (.inl (e _ _ h fun z => z))
    · exact .inl (.inr ⟨o, e _ _ h fun z => z⟩)
    · exact .inr h
  | false => exact e _ _ h fun z => z
mutual
def D.flat : D → Bool
  | .non => true
  | .bl _ => true
  | .int _ => true
  | .str _ => true
  | .tup _ ds => D.flatL ds
  | _ => false
def D.flatL : List D → Bool
  | [] => true
  | d :: ds => D.flat d && D.flatL ds
end
mutual
theorem Rep.flat {K : PySem.W.Frag} {B B' : Hp} (e : ∀ a o, B a = some o → ¬ Mk1 o → B' a = some o) : ∀ {d : D} {v : V}, d.flat = true → Rep K B d v → Rep K B' d v
  | .non, _, _, h => h
  | .bl _, _, _, h => h
  | .int _, _, _, h => h
  | .str _, _, _, h => h
  | .scr _, _, f, _ => by simp [D.flat] at f
  | .lst _, _, f, _ => by simp [D.flat] at f
  | .tup _ _, _, f, ⟨a, vs, h, s, r⟩ => ⟨a, vs, h, s.keep e, RepL.flat e (by simpa [D.flat] using f) r⟩
  | .dct _ _, _, f, _ => by simp [D.flat] at f
  | .dcT _ _, _, f, _ => by simp [D.flat] at f
  | .obj _ _ _, _, f, _ => by simp [D.flat] at f
theorem RepL.flat {K : PySem.W.Frag} {B B' : Hp} (e : ∀ a o, B a = some o → ¬ Mk1 o → B' a = some o) : ∀ {ds : List D} {vs : List V}, D.flatL ds = true → RepL K B ds vs → RepL K B' ds vs
  | [], _, _, h => h
  | d :: ds, _, f, ⟨v, r, h, a, b⟩ => by
    obtain ⟨f1, f2⟩ : d.flat = true ∧ D.flatL ds = true := by simpa [D.flatL] using f
    exact ⟨v, r, h, Rep.flat e f1 a, RepL.flat e f2 b⟩
end
section
variable {K : PySem.W.Frag} {B : Hp} {ds : List D} {vs : List V}
theorem RepL.len : ∀ {ds : List D} {vs : List V}, RepL K B ds vs → vs.length = ds.length
  | [], _, h => by rw [show _ = [] from h]; rfl
  | _ :: _, _, ⟨v, r, h, a, b⟩ => by rw [h]; exact congrArg (· + 1) (RepL.len b)
theorem RepL.at : ∀ {ds : List D} {vs : List V} {i : Nat} {d : D}, RepL K B ds vs → ds[i]? = some d → ∃ v, vs[i]? = some v ∧ Rep K B d v
  | [], _, _, _, _, e => by simp at e
  | _ :: _, _, 0, _, ⟨v, r, h, a, b⟩, e => by
    cases Option.some.inj (show some _ = some _ from e)
    exact ⟨v, by rw [h]; rfl, a⟩
  | _ :: _, _, i + 1, d, ⟨v, r, h, a, b⟩, e => by
    obtain ⟨u, h1, h2⟩ := RepL.at (i := i) (d := d) b (by simpa using e)
    exact ⟨u, by rw [h]; simpa using h1, h2⟩
theorem RepL.atV : ∀ {ds : List D} {vs : List V} {i : Nat} {v : V}, RepL K B ds vs → vs[i]? = some v → ∃ d, ds[i]? = some d ∧ Rep K B d v := fun {ds vs i v} h e => by
  have hl := h.len
  have hi : i < ds.length := by rw [← hl]; exact (List.getElem?_eq_some_iff.mp e).1
  obtain ⟨u, h1, h2⟩ := h.at (i := i) (d := ds[i]) (List.getElem?_eq_getElem hi)
  rw [e] at h1
  cases h1
  exact ⟨_, List.getElem?_eq_getElem hi, h2⟩
theorem RepL.append : ∀ {ds es : List D} {vs us : List V}, RepL K B ds vs → RepL K B es us → RepL K B (ds ++ es) (vs ++ us)
  | [], _, _, _, h, g => by rw [show _ = [] from h]; exact g
  | _ :: _, _, _, _, ⟨v, r, h, a, b⟩, g => by rw [h]; exact ⟨v, _, rfl, a, RepL.append b g⟩
theorem RepL.one {d : D} {v : V} (h : Rep K B d v) : RepL K B [d] [v] := ⟨v, [], rfl, h, rfl⟩
theorem RepL.set : ∀ {ds : List D} {vs : List V} {i : Nat} {d : D} {v : V}, RepL K B ds vs → Rep K B d v → RepL K B (ds.set i d) (vs.set i v)
  | [], _, _, _, _, h, _ => by rw [show _ = [] from h]; rfl
  | _ :: _, _, 0, _, _, ⟨v, r, h, a, b⟩, g => by rw [h]; exact ⟨_, r, rfl, g, b⟩
  | _ :: _, _, i + 1, _, _, ⟨v, r, h, a, b⟩, g => by rw [h]; exact ⟨v, _, rfl, a, RepL.set b g⟩
theorem RepL.drop : ∀ {ds : List D} {vs : List V} (i : Nat), RepL K B ds vs → RepL K B (ds.drop i) (vs.drop i)
  | _, _, 0, h => h
  | [], _, _ + 1, h => by rw [show _ = [] from h]; rfl
  | _ :: _, _, i + 1, ⟨v, r, h, a, b⟩ => by rw [h]; exact RepL.drop i b
theorem RepL.take : ∀ {ds : List D} {vs : List V} (i : Nat), RepL K B ds vs → RepL K B (ds.take i) (vs.take i)
  | _, _, 0, h => rfl
  | [], _, _ + 1, h => by rw [show _ = [] from h]; rfl
  | _ :: _, _, i + 1, ⟨v, r, h, a, b⟩ => by rw [h]; exact ⟨v, _, rfl, a, RepL.take i b⟩
theorem RepL.reverse : ∀ {ds : List D} {vs : List V}, RepL K B ds vs → RepL K B ds.reverse vs.reverse
  | [], _, h => by rw [show _ = [] from h]; rfl
  | _ :: _, _, ⟨v, r, h, a, b⟩ => by
    rw [h, List.reverse_cons, List.reverse_cons]
    exact (RepL.reverse b).append (.one a)
end
inductive O1 where
  | lst (ds : List D) | dct (ks : List Key) (ds : List D) | dcT (ks : List (List Key)) (ds : List D)
inductive Fv where
  | va (d : D) | ow (o : O1)
inductive O2 where
  | o1 (o : O1) | obj (c : Str) (fs : List Str) (vs : List Fv)
inductive Sl where
  | no | va (d : D) | ow (o : O2) | pw (o : O2)
abbrev En := List Sl
def O1.fz : O1 → D
  | .lst ds => .lst ds
  | .dct ks ds => .dct ks ds
  | .dcT ks ds => .dcT ks ds
def Fv.fz : Fv → D
  | .va d => d
  | .ow o => o.fz
def O2.fz : O2 → D
  | .o1 o => o.fz
  | .obj c fs vs => .obj c fs (vs.map Fv.fz)
def Sl.fz : Sl → Option D
  | .va d => some d
  | .ow o => some o.fz
  | _ => none
section
variable (K : PySem.W.Frag) (B H : Hp)
def OwnL : O1 → Addr → Prop
  | .lst ds, l => ∃ vs, H l = some (.lst vs) ∧ RepL K B ds vs
  | .dct ks ds, l => ∃ kvs, H l = some (.dK kvs) ∧ kvs.map (·.1) = ks ∧ RepL K B ds (kvs.map (·.2))
  | .dcT ks ds, l => ∃ kvs, H l = some (.dT kvs) ∧ kvs.map (·.1) = ks ∧ RepL K B ds (kvs.map (·.2))
def FvOk : Fv → V → List Addr → Prop
  | .va d, v, fp => Rep K B d v ∧ fp = []
  | .ow o, v, fp => ∃ l, v = .ref l ∧ fp = [l] ∧ OwnL K B H o l
def FvL : List Fv → List V → List Addr → Prop
  | [], vs, fp => vs = [] ∧ fp = []
  | f :: fs, vs, fp => ∃ v r p q, vs = v :: r ∧ fp = p ++ q ∧ FvOk K B H f v p ∧ FvL fs r q ∧ ∀ a ∈ p, a ∉ q
def Own : O2 → V → List Addr → Prop
  | .o1 o, v, fp => ∃ l, v = .ref l ∧ fp = [l] ∧ OwnL K B H o l
  | .obj c ns fs, v, fp => ∃ x dx kvs q, v = .ref x ∧ H x = some (.ins (He.ga K c) dx kvs) ∧ kvs.map (·.1) = ns ∧ FvL K B H fs (kvs.map (·.2)) q ∧ fp = x :: q ∧ x ∉ q
def SlOk : Option V → Sl → List Addr → Prop
  | _, .no, fp => fp = []
  | ov, .va d, fp => fp = [] ∧ ∃ v, ov = some v ∧ Rep K B d v
  | ov, .ow o, fp => ∃ v, ov = some v ∧ Own K B H o v fp
  | ov, .pw o, fp => ∃ v, ov = some v ∧ Own K B H o v fp
end
section
variable {K : PySem.W.Frag} {B B' H H' : Hp}
theorem OwnL.cell {o : O1} {l : Addr} (h : OwnL K B H o l) : ∃ u, H l = some u ∧ Mk1 u := by
  cases o with
  | lst ds => obtain ⟨vs, h, _⟩ := h; exact ⟨_, h, trivial⟩
  | dct ks ds => obtain ⟨vs, h, _⟩ := h; exact ⟨_, h, trivial⟩
  | dcT ks ds => obtain ⟨vs, h, _⟩ := h; exact ⟨_, h, trivial⟩
theorem OwnL.mono {o : O1} {l : Addr} (e : Ex B B') (k : H' l = H l) (h : OwnL K B H o l) : OwnL K B' H' o l := by
  cases o with
  | lst ds => obtain ⟨vs, h, r⟩ := h; exact ⟨vs, k.trans h, r.mono e⟩
  | dct ks ds => obtain ⟨vs, h, q, r⟩ := h; exact ⟨vs, k.trans h, q, r.mono e⟩
  | dcT ks ds => obtain ⟨vs, h, q, r⟩ := h; exact ⟨vs, k.trans h, q, r.mono e⟩
theorem OwnL.fz {o : O1} {l : Addr} (e : Ex B B') (k : B' l = H l) (h : OwnL K B H o l) : Rep K B' o.fz (.ref l) := by
  cases o with
  | lst ds => obtain ⟨vs, h, r⟩ := h; exact ⟨l, vs, rfl, k.trans h, r.mono e⟩
  | dct ks ds => obtain ⟨vs, h, q, r⟩ := h; exact ⟨l, vs, rfl, .inl (k.trans h), q, r.mono e⟩
  | dcT ks ds => obtain ⟨vs, h, q, r⟩ := h; exact ⟨l, vs, rfl, k.trans h, q, r.mono e⟩
theorem FvOk.cell {f : Fv} {v : V} {fp : List Addr} (h : FvOk K B H f v fp) : ∀ a ∈ fp, ∃ u, H a = some u ∧ Mk1 u := fun a ha => by
  cases f with
  | va d => obtain ⟨_, rfl⟩ := h; cases ha
  | ow o =>
    obtain ⟨l, _, rfl, h⟩ := h
    cases (List.mem_singleton.mp ha)
    exact h.cell
theorem FvOk.mono {f : Fv} {v : V} {fp : List Addr} (e : Ex B B') (k : ∀ a ∈ fp, H' a = H a) (h : FvOk K B H f v fp) : FvOk K B' H' f v fp := by
  cases f with
  | va d => exact ⟨h.1.mono e, h.2⟩
  | ow o =>
    obtain ⟨l, h1, rfl, h⟩ := h
    exact ⟨l, h1, rfl, h.mono e (k l (List.mem_singleton.mpr rfl))⟩
theorem FvOk.fz {f : Fv} {v : V} {fp : List Addr} (e : Ex B B') (k : ∀ a ∈ fp, B' a = H a) (h : FvOk K B H f v fp) : Rep K B' f.fz v := by
  cases f with
  | va d => exact h.1.mono e
  | ow o =>
    obtain ⟨l, rfl, rfl, h⟩ := h
    exact h.fz e (k l (List.mem_singleton.mpr rfl))
theorem FvL.cell : ∀ {fs : List Fv} {vs : List V} {fp : List Addr}, FvL K B H fs vs fp → ∀ a ∈ fp, ∃ u, H a = some u ∧ Mk1 u
  | [], _, _, ⟨_, e⟩, a, ha => by rw [e] at ha; cases ha
  | _ :: _, _, _, ⟨v, r, p, q, _, e, h1, h2, _⟩, a, ha => by
    rw [e] at ha
    rcases List.mem_append.mp ha with ha | ha
    · exact h1.cell a ha
    · exact FvL.cell h2 a ha
theorem FvL.mono (e : Ex B B') : ∀ {fs : List Fv} {vs : List V} {fp : List Addr}, (∀ a ∈ fp, H' a = H a) → FvL K B H fs vs fp → FvL K B' H' fs vs fp
  | [], _, _, _, h => h
  | _ :: _, _, _, k, ⟨v, r, p, q, hv, ef, h1, h2, dj⟩ => ⟨v, r, p, q, hv, ef, h1.mono e fun a ha => k a (by rw [ef]; exact List.mem_append_left _ ha), FvL.mono e (fun a ha => k a (by rw [ef]; exact List.mem_append_right _ ha)) h2, dj⟩
theorem FvL.fz (e : Ex B B') : ∀ {fs : List Fv} {vs : List V} {fp : List Addr}, (∀ a ∈ fp, B' a = H a) → FvL K B H fs vs fp → RepL K B' (fs.map Fv.fz) vs
  | [], _, _, _, h => h.1
  | _ :: _, _, _, k, ⟨v, r, p, q, hv, ef, h1, h2, dj⟩ => ⟨v, r, hv, h1.fz e fun a ha => k a (by rw [ef]; exact List.mem_append_left _ ha), FvL.fz e (fun a ha => k a (by rw [ef]; exact List.mem_append_right _ ha)) h2⟩
theorem Own.cell {o : O2} {v : V} {fp : List Addr} (h : Own K B H o v fp) : ∀ a ∈ fp, ∃ u, H a = some u ∧ Mk1 u := fun a ha => by
  cases o with
  | o1 o =>
    obtain ⟨l, _, rfl, h⟩ := h
    cases (List.mem_singleton.mp ha)
    exact h.cell
  | obj c ns fs =>
    obtain ⟨x, dx, kvs, q, _, hx, _, h, rfl, _⟩ := h
    rcases List.mem_cons.mp ha with rfl | ha
    · exact ⟨_, hx, trivial⟩
    · exact h.cell a ha
theorem Own.mono {o : O2} {v : V} {fp : List Addr} (e : Ex B B') (k : ∀ a ∈ fp, H' a = H a) (h : Own K B H o v fp) : Own K B' H' o v fp := by
  cases o with
  | o1 o =>
    obtain ⟨l, h1, rfl, h⟩ := h
    exact ⟨l, h1, rfl, h.mono e (k l (List.mem_singleton.mpr rfl))⟩
  | obj c ns fs =>
    obtain ⟨x, dx, kvs, q, h1, hx, hn, h, rfl, nx⟩ := h
    exact ⟨x, dx, kvs, q, h1, (k x List.mem_cons_self).trans hx, hn, h.mono e fun a ha => k a (List.mem_cons_of_mem _ ha), rfl, nx⟩
theorem Own.fz {o : O2} {v : V} {fp : List Addr} (e : Ex B B') (k : ∀ a ∈ fp, B' a = H a) (h : Own K B H o v fp) : Rep K B' o.fz v := by
  cases o with
  | o1 o =>
    obtain ⟨l, rfl, rfl, h⟩ := h
    exact h.fz e (k l (List.mem_singleton.mpr rfl))
  | obj c ns fs =>
    obtain ⟨x, dx, kvs, q, h1, hx, hn, h, rfl, nx⟩ := h
    exact ⟨x, dx, kvs, h1, (k x List.mem_cons_self).trans hx, hn, h.fz e fun a ha => k a (List.mem_cons_of_mem _ ha)⟩
theorem SlOk.cell {ov : Option V} {s : Sl} {fp : List Addr} (h : SlOk K B H ov s fp) : ∀ a ∈ fp, ∃ u, H a = some u ∧ Mk1 u := fun a ha => by
  cases s with
  | no => rw [show fp = [] from h] at ha; cases ha
  | va d => rw [h.1] at ha; cases ha
  | ow o => obtain ⟨v, _, h⟩ := h; exact h.cell a ha
  | pw o => obtain ⟨v, _, h⟩ := h; exact h.cell a ha
theorem SlOk.mono {ov : Option V} {s : Sl} {fp : List Addr} (e : Ex B B') (k : ∀ a ∈ fp, H' a = H a) (h : SlOk K B H ov s fp) : SlOk K B' H' ov s fp := by
  cases s with
  | no => exact h
  | va d => obtain ⟨h1, v, h2, h3⟩ := h; exact ⟨h1, v, h2, h3.mono e⟩
  | ow o => obtain ⟨v, h1, h⟩ := h; exact ⟨v, h1, h.mono e k⟩
  | pw o => obtain ⟨v, h1, h⟩ := h; exact ⟨v, h1, h.mono e k⟩
end
def NTbl (o : HO) : Prop := ∀ ps, o ≠ .tbl ps
section
variable {K : PySem.W.Frag} {B B' H : Hp}
theorem TupIn.nt {a : Addr} {vs : List V} {k : Bool} (e : ∀ a o, B a = some o → NTbl o → B' a = some o) (h : TupIn K B a vs k) : TupIn K B' a vs k := by
  cases k with
  | true =>
    rcases h with (h | ⟨o, h⟩) | h
    · exact .inl (.inl (e _ _ h fun ps z => by cases z))
    · exact .inl (.inr ⟨o, e _ _ h fun ps z => by cases z⟩)
    · exact .inr h
  | false => exact e _ _ h fun ps z => by cases z
mutual
theorem Rep.nt (e : ∀ a o, B a = some o → NTbl o → B' a = some o) : ∀ {d : D} {v : V}, Rep K B d v → Rep K B' d v
  | .non, _, h => h
  | .bl _, _, h => h
  | .int _, _, h => h
  | .str _, _, h => h
  | .scr _, _, ⟨a, h, s⟩ => ⟨a, h, by
    rcases s with (s | ⟨o, s⟩) | s
    · exact .inl (.inl (e _ _ s fun ps z => by cases z))
    · exact .inl (.inr ⟨o, e _ _ s fun ps z => by cases z⟩)
    · exact .inr s⟩
  | .lst _, _, ⟨a, vs, h, s, r⟩ => ⟨a, vs, h, e _ _ s fun ps z => (by cases z), RepL.nt e r⟩
  | .tup _ _, _, ⟨a, vs, h, s, r⟩ => ⟨a, vs, h, s.nt e, RepL.nt e r⟩
  | .dct _ _, _, ⟨a, kvs, h, s, k, r⟩ => ⟨a, kvs, h, s.elim (fun s => .inl (e _ _ s fun ps z => by cases z)) fun ⟨o, s⟩ => .inr ⟨o, e _ _ s fun ps z => by cases z⟩, k, RepL.nt e r⟩
  | .dcT _ _, _, ⟨a, kvs, h, s, k, r⟩ => ⟨a, kvs, h, e _ _ s fun ps z => (by cases z), k, RepL.nt e r⟩
  | .obj _ _ _, _, ⟨a, dx, kvs, h, s, k, r⟩ => ⟨a, dx, kvs, h, e _ _ s fun ps z => (by cases z), k, RepL.nt e r⟩
theorem RepL.nt (e : ∀ a o, B a = some o → NTbl o → B' a = some o) : ∀ {ds : List D} {vs : List V}, RepL K B ds vs → RepL K B' ds vs
  | [], _, h => h
  | _ :: _, _, ⟨v, r, h, a, b⟩ => ⟨v, r, h, Rep.nt e a, RepL.nt e b⟩
end
theorem OwnL.nt {o : O1} {l : Addr} (e : ∀ a o, B a = some o → NTbl o → B' a = some o) (h : OwnL K B H o l) : OwnL K B' H o l := by
  cases o with
  | lst ds => obtain ⟨vs, h, r⟩ := h; exact ⟨vs, h, r.nt e⟩
  | dct ks ds => obtain ⟨vs, h, q, r⟩ := h; exact ⟨vs, h, q, r.nt e⟩
  | dcT ks ds => obtain ⟨vs, h, q, r⟩ := h; exact ⟨vs, h, q, r.nt e⟩
theorem FvOk.nt {f : Fv} {v : V} {fp : List Addr} (e : ∀ a o, B a = some o → NTbl o → B' a = some o) (h : FvOk K B H f v fp) : FvOk K B' H f v fp := by
  cases f with
  | va d => exact ⟨h.1.nt e, h.2⟩
  | ow o => obtain ⟨l, h1, h2, h⟩ := h; exact ⟨l, h1, h2, h.nt e⟩
theorem FvL.nt (e : ∀ a o, B a = some o → NTbl o → B' a = some o) : ∀ {fs : List Fv} {vs : List V} {fp : List Addr}, FvL K B H fs vs fp → FvL K B' H fs vs fp
  | [], _, _, h => h
  | _ :: _, _, _, ⟨v, r, p, q, hv, ef, h1, h2, dj⟩ => ⟨v, r, p, q, hv, ef, h1.nt e, FvL.nt e h2, dj⟩
theorem Own.nt {o : O2} {v : V} {fp : List Addr} (e : ∀ a o, B a = some o → NTbl o → B' a = some o) (h : Own K B H o v fp) : Own K B' H o v fp := by
  cases o with
  | o1 o => obtain ⟨l, h1, h2, h⟩ := h; exact ⟨l, h1, h2, h.nt e⟩
  | obj c ns fs => obtain ⟨x, dx, kvs, q, h1, hx, hn, h, h2, nx⟩ := h; exact ⟨x, dx, kvs, q, h1, hx, hn, h.nt e, h2, nx⟩
theorem SlOk.nt {ov : Option V} {s : Sl} {fp : List Addr} (e : ∀ a o, B a = some o → NTbl o → B' a = some o) (h : SlOk K B H ov s fp) : SlOk K B' H ov s fp := by
  cases s with
  | no => exact h
  | va d => obtain ⟨h1, v, h2, h3⟩ := h; exact ⟨h1, v, h2, h3.nt e⟩
  | ow o => obtain ⟨v, h1, h⟩ := h; exact ⟨v, h1, h.nt e⟩
  | pw o => obtain ⟨v, h1, h⟩ := h; exact ⟨v, h1, h.nt e⟩
end
structure Sta where
  B : Hp
  H : Hp
  σ : L2.St
  en : En
  fp : Nat → List Addr
def inF (fp : Nat → List Addr) (a : Addr) : Prop := ∃ i, a ∈ fp i
theorem NTbl.of {o : HO} (h : Mk1 o) : NTbl o := fun ps z => by rw [z] at h; exact h
def tabL (K : PySem.W.Frag) : List (Addr × Str) := lamNames.filterMap fun x => (tabAt K x).map fun p => (p.2, x ++ ".<locals>." ++ "<lambda>")
def Tbs (K : PySem.W.Frag) (H : Hp) : Prop := LamX.Tabs (tabL K) H
def TabO : HO → Prop
  | .tbl _ => True
  | .ext _ => True
  | _ => False
theorem tabS_keep {H H' : Hp} {P : Addr} {q : Str} (t : LamX.TabS H P q) (k : ∀ a o, H a = some o → TabO o → H' a = some o) : LamX.TabS H' P q := by
  obtain ⟨ps, h1, h2, h3⟩ := t
  refine ⟨ps, k _ _ h1 trivial, h2, fun pos cv hc => ?_⟩
  obtain ⟨c, e1, e2⟩ := h3 pos cv hc
  exact ⟨c, e1, k _ _ e2 trivial⟩
theorem Tbs.keepT {K : PySem.W.Frag} {H H' : Hp} (t : Tbs K H) (k : ∀ a o, H a = some o → TabO o → H' a = some o) : Tbs K H' := fun p hp => tabS_keep (t p hp) k
theorem Tbs.keep {K : PySem.W.Frag} {H H' : Hp} (t : Tbs K H) (k : ∀ a o, H a = some o → ¬ Mk1 o → H' a = some o) : Tbs K H' := t.keepT fun a o e te => k a o e fun m => by
  cases o with
  | tbl ps => exact m
  | ext φ => exact m
  | _ => exact te
theorem Tbs.at {K : PySem.W.Frag} {H : Hp} {a : Addr} {o u : HO} (t : Tbs K H) (h : H a = some u) (m : ¬ TabO u) : Tbs K (upd H a o) := t.keepT fun b w e n => by
  by_cases hb : b = a
  · subst hb; rw [h] at e; cases e; exact absurd n m
  · rw [upd_ne hb]; exact e
theorem Tbs.new {K : PySem.W.Frag} {H : Hp} {a : Addr} {o : HO} (t : Tbs K H) (h : H a = none) : Tbs K (upd H a o) := t.keep fun b u e _ => by rw [upd_ne (ne_of_none e h)]; exact e
theorem Tbs.own {K : PySem.W.Frag} {H : Hp} {a : Addr} {o u : HO} (t : Tbs K H) (h : H a = some u) (m : Mk1 u) : Tbs K (upd H a o) := t.keep fun b w e n => by
  by_cases hb : b = a
  · subst hb; rw [h] at e; cases e; exact absurd m n
  · rw [upd_ne hb]; exact e
def noT (H : Hp) : Hp := fun a => match H a with
  | some (.tbl _) => none
  | x => x
theorem noT_of {H : Hp} {a : Addr} {o : HO} (h : H a = some o) (n : NTbl o) : noT H a = some o := by
  unfold noT
  cases o with
  | tbl ps => exact absurd rfl (n ps)
  | _ => rw [h]
theorem of_noT {H : Hp} {a : Addr} {o : HO} (h : noT H a = some o) : H a = some o ∧ NTbl o := by
  unfold noT at h
  cases e : H a with
  | none => rw [e] at h; cases h
  | some u =>
    rw [e] at h
    cases u with
    | tbl ps => cases h
    | _ => cases h; exact ⟨rfl, fun ps z => by cases z⟩
theorem Ex.noT (H : Hp) : Ex (noT H) H := fun _ _ h => (of_noT h).1
structure EnOk (K : PySem.W.Frag) (s : Sta) : Prop where
  ex : Ex s.B s.H
  len : s.en.length = s.σ.length
  sl : ∀ i x, s.en[i]? = some x → ∃ ov, s.σ[i]? = some ov ∧ SlOk K s.B s.H ov x (s.fp i)
  out : ∀ i, s.en[i]? = none → s.fp i = []
  dj : ∀ i j a, a ∈ s.fp i → a ∈ s.fp j → i = j
  off : ∀ i a, a ∈ s.fp i → s.B a = none
  nt : ∀ a o, s.B a = some o → NTbl o
  tb : Tbs K s.H
structure Stp (s t : Sta) : Prop where
  bb : Ex s.B t.B
  bn : ∀ a o, t.B a = some o → s.B a = some o ∨ s.H a = none ∨ inF s.fp a
  hh : ∀ a o, s.H a = some o → ¬ inF s.fp a → NTbl o → t.H a = some o
  dm : ∀ a, t.H a = none → s.H a = none
  ff : ∀ a, inF t.fp a → inF s.fp a ∨ s.H a = none
  pn : ∀ (i : Nat) o, s.en[i]? = some (.pw o) → t.σ[i]? = s.σ[i]? ∧ ∃ o', t.en[i]? = some (.pw o')
  ln : t.en.length = s.en.length
theorem Stp.refl (s : Sta) : Stp s s := ⟨Ex.refl _, fun _ _ h => .inl h, fun _ _ h _ _ => h, fun _ h => h, fun _ h => .inl h, fun _ o h => ⟨rfl, o, h⟩, rfl⟩
theorem Stp.trans {s t u : Sta} (a : Stp s t) (b : Stp t u) : Stp s u := by
  refine ⟨a.bb.trans b.bb, fun x o h => ?_, fun x o h n nt => ?_, fun x h => a.dm x (b.dm x h), fun x h => ?_, fun i o h => ?_, b.ln.trans a.ln⟩
  · rcases b.bn x o h with h | h | h
    · exact a.bn x o h
    · exact .inr (.inl (a.dm x h))
    · rcases a.ff x h with h | h
      · exact .inr (.inr h)
      · exact .inr (.inl h)
  · refine b.hh x o (a.hh x o h n nt) (fun z => ?_) nt
    rcases a.ff x z with z | z
    · exact n z
    · rw [h] at z; cases z
  · rcases b.ff x h with h | h
    · exact a.ff x h
    · exact .inr (a.dm x h)
  · obtain ⟨e1, o1, h1⟩ := a.pn i o h
    obtain ⟨e2, o2, h2⟩ := b.pn i o1 h1
    exact ⟨e2.trans e1, o2, h2⟩
theorem EnOk.cell {K : PySem.W.Frag} {s : Sta} (h : EnOk K s) {a : Addr} (ha : inF s.fp a) : ∃ u, s.H a = some u ∧ Mk1 u := by
  obtain ⟨i, ha⟩ := ha
  cases e : s.en[i]? with
  | none => rw [h.out i e] at ha; cases ha
  | some x =>
    obtain ⟨ov, _, q⟩ := h.sl i x e
    exact q.cell a ha
theorem EnOk.noB {K : PySem.W.Frag} {s : Sta} (h : EnOk K s) {a : Addr} {o : HO} (hb : s.B a = some o) : ¬ inF s.fp a := fun ⟨i, ha⟩ => by
  rw [h.off i a ha] at hb; cases hb
theorem SlOk.step {K : PySem.W.Frag} {s t : Sta} {ov : Option V} {x : Sl} {fr : List Addr} (h : SlOk K s.B s.H ov x fr) (st : Stp s t) (n : ∀ a ∈ fr, ¬ inF s.fp a) : SlOk K t.B t.H ov x fr :=
  h.mono st.bb fun a ha => by
    obtain ⟨u, hu, mu⟩ := h.cell a ha
    rw [hu]
    exact st.hh a u hu (n a ha) (.of mu)
structure Side (s t : Sta) (fr : List Addr) : Prop where
  no : ∀ a ∈ fr, ¬ inF t.fp a
  b : ∀ a ∈ fr, t.B a = none
  new : ∀ a ∈ fr, s.H a = none ∨ inF s.fp a
theorem Side.nil {s t : Sta} : Side s t [] := ⟨fun _ h => (by cases h), fun _ h => (by cases h), fun _ h => (by cases h)⟩
theorem Side.step {K : PySem.W.Frag} {s t u : Sta} {fr : List Addr} (h : Side s t fr) (c : ∀ a ∈ fr, ∃ o, t.H a = some o) (st : Stp t u) : Side s u fr :=
  ⟨fun a ha z => (by
    rcases st.ff a z with z | z
    · exact h.no a ha z
    · obtain ⟨o, e⟩ := c a ha
      rw [e] at z; cases z), fun a ha => (by
    cases e : u.B a with
    | none => rfl
    | some o =>
      rcases st.bn a o e with z | z | z
      · rw [h.b a ha] at z; cases z
      · obtain ⟨o, e⟩ := c a ha
        rw [e] at z; cases z
      · exact absurd z (h.no a ha)), h.new⟩
section
variable {X : Cx} {e : Expr} {es : List Expr} {st : Stmt} {sts : List Stmt}
theorem PEi {t t' : TE} (h : PE X e t) (i : ∀ σ H Q, t' σ H Q → t σ H Q) : PE X e t' := ⟨fun pins s σ H Q I q => h.run pins s σ H Q I (i σ H Q q)⟩
theorem PTi {t t' : TT} (h : PT X e t) (i : ∀ σ H Q, t' σ H Q → t σ H Q) : PT X e t' := ⟨fun pins s σ H Q I q => h.run pins s σ H Q I (i σ H Q q)⟩
theorem PWi {t t' : TT} (h : PW X e t) (i : ∀ σ H Q, t' σ H Q → t σ H Q) : PW X e t' := ⟨fun w pins s σ H Q I q => h.run w pins s σ H Q I (i σ H Q q)⟩
theorem PAi {t t' : TA} (h : PA X es t) (i : ∀ σ H Q, t' σ H Q → t σ H Q) : PA X es t' := ⟨fun pos pins s σ H Q I q => h.run pos pins s σ H Q I (i σ H Q q)⟩
theorem PSi {t t' : TS} (h : PS X st t) (i : ∀ D σ H, t' D σ H → t D σ H) : PS X st t' := ⟨fun pins s σ H D I q => h.run pins s σ H D I (i D σ H q)⟩
theorem PSsi {t t' : TS} (h : PSs X sts t) (i : ∀ D σ H, t' D σ H → t D σ H) : PSs X sts t' := ⟨fun pins s σ H D I q => h.run pins s σ H D I (i D σ H q)⟩
end
structure Er where
  c : Str
  fs : List Str
  ds : List D
def RepEr (K : PySem.W.Frag) (B : Hp) (er : Er) (cls : Value) (d : Option Addr) : Prop := cls = .ref (He.ga K er.c) ∧
  ((d = none ∧ er.fs = [] ∧ er.ds = []) ∨ ∃ dd kvs, d = some dd ∧ B dd = some (.xd kvs) ∧ kvs.map (·.1) = er.fs ∧ RepL K B er.ds (kvs.map (·.2)))
theorem RepEr.mono {K : PySem.W.Frag} {B B' : Hp} {er : Er} {cls : Value} {d : Option Addr} (e : Ex B B') (h : RepEr K B er cls d) : RepEr K B' er cls d := by
  obtain ⟨h1, h2⟩ := h
  refine ⟨h1, ?_⟩
  rcases h2 with h2 | ⟨dd, kvs, h2, h3, h4, h5⟩
  · exact .inl h2
  · exact .inr ⟨dd, kvs, h2, e _ _ h3, h4, h5.mono e⟩
def wF : WX := fun _ _ _ _ => False
inductive Out where
  | nx (e : En) | rt (r : Sl) (e : En) | bk (e : En) | ct (e : En) | ex (er : Er) (e : En)
section
variable (K : PySem.W.Frag)
def rdE (f : En → Option (Sl × En)) : TE := fun σ H Q => ∃ s : Sta, s.σ = σ ∧ s.H = H ∧ EnOk K s ∧ ∃ r en', f s.en = some (r, en') ∧
  ∀ v t fr, t.σ = σ → t.en = en' → EnOk K t → Stp s t → SlOk K t.B t.H (some v) r fr → Side s t fr → Q v t.H
def rdV (f : En → Option (D × En)) : TE := fun σ H Q => ∃ s : Sta, s.σ = σ ∧ s.H = H ∧ EnOk K s ∧ ∃ d en', f s.en = some (d, en') ∧
  ∀ v t, t.σ = σ → t.en = en' → EnOk K t → Stp s t → Rep K t.B d v → Q v t.H
def rdT (f : En → Option (Bool × En)) : TT := fun σ H Q => ∃ s : Sta, s.σ = σ ∧ s.H = H ∧ EnOk K s ∧ ∃ b en', f s.en = some (b, en') ∧
  ∀ t, t.σ = σ → t.en = en' → EnOk K t → Stp s t → Q b t.H
def rdA (f : En → Option (List D × En)) : TA := fun σ H Q => ∃ s : Sta, s.σ = σ ∧ s.H = H ∧ EnOk K s ∧ ∃ ds en', f s.en = some (ds, en') ∧
  ∀ vs t, t.σ = σ → t.en = en' → EnOk K t → Stp s t → RepL K t.B ds vs → Q vs t.H
def EndO (W : WX) (D : Ends) (s : Sta) : Out → Prop
  | .nx en' => ∀ t, t.en = en' → EnOk K t → Stp s t → D.nx t.σ t.H
  | .bk en' => ∀ t, t.en = en' → EnOk K t → Stp s t → D.bk t.σ t.H
  | .ct en' => ∀ t, t.en = en' → EnOk K t → Stp s t → D.ct t.σ t.H
  | .rt r en' => ∀ v t fr, t.en = en' → EnOk K t → Stp s t → SlOk K t.B t.H (some v) r fr → Side s t fr → D.rt v t.H
  | .ex er en' => ∀ cls d t, t.en = en' → EnOk K t → Stp s t → RepEr K t.B er cls d → W cls d t.σ t.H
def rdS (W : WX) (f : En → Option Out) : TS := fun D σ H => ∃ s : Sta, s.σ = σ ∧ s.H = H ∧ EnOk K s ∧ ∃ o, f s.en = some o ∧ EndO K W D s o
end
def joinB (B H : Hp) (fr : List Addr) : Hp := fun a => if a ∈ fr then H a else B a
theorem joinB_in {B H : Hp} {fr : List Addr} {a : Addr} (h : a ∈ fr) : joinB B H fr a = H a := if_pos h
theorem joinB_no {B H : Hp} {fr : List Addr} {a : Addr} (h : a ∉ fr) : joinB B H fr a = B a := if_neg h
theorem joinB_ex {B H : Hp} {fr : List Addr} (h : ∀ a ∈ fr, B a = none) : Ex B (joinB B H fr) := fun a o e => by
  by_cases ha : a ∈ fr
  · rw [h a ha] at e; cases e
  · rw [joinB_no ha]; exact e
theorem joinB_le {B H : Hp} {fr : List Addr} (h : Ex B H) : Ex (joinB B H fr) H := fun a o e => by
  by_cases ha : a ∈ fr
  · rw [joinB_in ha] at e; exact e
  · rw [joinB_no ha] at e; exact h a o e
section
variable {K : PySem.W.Frag} {s t : Sta}
theorem nt_upd {B : Hp} {p : Addr} {o : HO} (h : ∀ a u, B a = some u → NTbl u) (n : NTbl o) : ∀ a u, upd B p o a = some u → NTbl u := fun a u e => by
  by_cases ha : a = p
  · subst ha; rw [upd_same] at e; cases e; exact n
  · rw [upd_ne ha] at e; exact h a u e
theorem nt_join {B H : Hp} {fr : List Addr} (h : ∀ a u, B a = some u → NTbl u) (c : ∀ a ∈ fr, ∃ u, H a = some u ∧ Mk1 u) : ∀ a u, joinB B H fr a = some u → NTbl u := fun a u e => by
  by_cases ha : a ∈ fr
  · rw [joinB_in ha] at e
    obtain ⟨w, e1, m⟩ := c a ha
    rw [e1] at e; cases e; exact .of m
  · rw [joinB_no ha] at e; exact h a u e
theorem nt_noT {H : Hp} : ∀ a u, noT H a = some u → NTbl u := fun _ _ e => (of_noT e).2
theorem EnOk.alc (h : EnOk K t) {B' H' : Hp} (eb : Ex t.B B') (eh : Ex t.H H') (el : Ex B' H') (off : ∀ i a, a ∈ t.fp i → B' a = none)
    (nt : ∀ a o, B' a = some o → NTbl o := by first | exact EnOk.nt (by assumption) | exact nt_upd (EnOk.nt (by assumption)) (fun ps z => by cases z) | exact nt_upd (nt_upd (EnOk.nt (by assumption)) (fun ps z => by cases z)) (fun ps z => by cases z)) : EnOk K ⟨B', H', t.σ, t.en, t.fp⟩ where
  nt := nt
  tb := h.tb.keep fun a o e _ => eh a o e
  ex := el
  len := h.len
  sl := fun i x e => by
    obtain ⟨ov, e1, q⟩ := h.sl i x e
    exact ⟨ov, e1, q.mono eb fun a ha => by
      obtain ⟨u, hu, _⟩ := q.cell a ha
      rw [hu]; exact eh a u hu⟩
  out := h.out
  dj := h.dj
  off := off
theorem Stp.alc {B' H' : Hp} (eb : Ex t.B B') (eh : Ex t.H H') (bn : ∀ a o, B' a = some o → t.B a = some o ∨ t.H a = none ∨ inF t.fp a) : Stp t ⟨B', H', t.σ, t.en, t.fp⟩ :=
  ⟨eb, bn, fun a o h _ _ => eh a o h, fun a h => fresh_back eh h, fun _ h => .inl h, fun _ o h => ⟨rfl, o, h⟩, rfl⟩
theorem EnOk.put (h : EnOk K s) {i : Nat} {x : Sl} {ov : Option V} {fr : List Addr} (hi : i < s.en.length) (hx : SlOk K s.B s.H ov x fr) (n : ∀ a ∈ fr, ∀ j, j ≠ i → a ∉ s.fp j) (b : ∀ a ∈ fr, s.B a = none) :
    EnOk K ⟨s.B, s.H, s.σ.set i ov, s.en.set i x, fun j => if j = i then fr else s.fp j⟩ where
  nt := h.nt
  tb := h.tb
  ex := h.ex
  len := by show (s.en.set i x).length = (s.σ.set i ov).length; rw [List.length_set, List.length_set]; exact h.len
  sl := fun j y e => by
    have e : (s.en.set i x)[j]? = some y := e
    show ∃ ov', (s.σ.set i ov)[j]? = some ov' ∧ SlOk K s.B s.H ov' y (if j = i then fr else s.fp j)
    by_cases hj : j = i
    · subst hj
      rw [List.getElem?_set_self hi] at e
      cases e
      rw [if_pos rfl, List.getElem?_set_self (by rw [← h.len]; exact hi)]
      exact ⟨ov, rfl, hx⟩
    · rw [List.getElem?_set_ne (Ne.symm hj)] at e
      rw [if_neg hj, List.getElem?_set_ne (Ne.symm hj)]
      exact h.sl j y e
  out := fun j e => by
    have e : (s.en.set i x)[j]? = none := e
    show (if j = i then fr else s.fp j) = []
    have hj : j ≠ i := by
      rintro rfl
      rw [List.getElem?_set_self hi] at e; cases e
    rw [List.getElem?_set_ne (Ne.symm hj)] at e
    rw [if_neg hj]
    exact h.out j e
  dj := fun j k a hj hk => by
    have hj : a ∈ (if j = i then fr else s.fp j) := hj
    have hk : a ∈ (if k = i then fr else s.fp k) := hk
    by_cases ej : j = i
    · by_cases ek : k = i
      · exact ej.trans ek.symm
      · rw [if_pos ej] at hj
        rw [if_neg ek] at hk
        exact absurd hk (n a hj k ek)
    · rw [if_neg ej] at hj
      by_cases ek : k = i
      · rw [if_pos ek] at hk
        exact absurd hj (n a hk j ej)
      · rw [if_neg ek] at hk
        exact h.dj j k a hj hk
  off := fun j a hj => by
    have hj : a ∈ (if j = i then fr else s.fp j) := hj
    by_cases ej : j = i
    · rw [if_pos ej] at hj; exact b a hj
    · rw [if_neg ej] at hj; exact h.off j a hj
theorem Stp.put {i : Nat} {x : Sl} {ov : Option V} {fr : List Addr} (hn : ∀ o, s.en[i]? ≠ some (.pw o)) (new : ∀ a ∈ fr, inF s.fp a ∨ s.H a = none) :
    Stp s ⟨s.B, s.H, s.σ.set i ov, s.en.set i x, fun j => if j = i then fr else s.fp j⟩ where
  bb := Ex.refl _
  bn := fun _ _ h => .inl h
  hh := fun _ _ h _ _ => h
  dm := fun _ h => h
  ff := fun a ⟨j, hj⟩ => by
    have hj : a ∈ (if j = i then fr else s.fp j) := hj
    by_cases ej : j = i
    · rw [if_pos ej] at hj; exact new a hj
    · rw [if_neg ej] at hj; exact .inl ⟨j, hj⟩
  pn := fun j o e => by
    have hj : j ≠ i := fun z => hn o (z ▸ e)
    exact ⟨List.getElem?_set_ne (Ne.symm hj), o, by show (s.en.set i x)[j]? = _; rw [List.getElem?_set_ne (Ne.symm hj)]; exact e⟩
  ln := List.length_set ..
theorem frz_res (h : EnOk K t) (st : Stp s t) {v : V} {o : O2} {fr : List Addr} (ho : Own K t.B t.H o v fr) (sd : Side s t fr) :
    EnOk K ⟨joinB t.B t.H fr, t.H, t.σ, t.en, t.fp⟩ ∧ Stp s ⟨joinB t.B t.H fr, t.H, t.σ, t.en, t.fp⟩ ∧ Rep K (joinB t.B t.H fr) o.fz v := by
  have eb : Ex t.B (joinB t.B t.H fr) := joinB_ex sd.b
  refine ⟨h.alc eb (Ex.refl _) (joinB_le h.ex) (fun i a ha => ?_) (nt_join h.nt ho.cell), ?_, ho.fz eb fun a ha => joinB_in ha⟩
  · rw [joinB_no fun z => sd.no a z ⟨i, ha⟩]; exact h.off i a ha
  · refine ⟨st.bb.trans eb, fun a u e => ?_, st.hh, st.dm, st.ff, st.pn, st.ln⟩
    have e : joinB t.B t.H fr a = some u := e
    by_cases ha : a ∈ fr
    · exact .inr (sd.new a ha)
    · rw [joinB_no ha] at e; exact st.bn a u e
theorem frz_slot (h : EnOk K s) {i : Nat} {o : O2} {v : V} (e : s.en[i]? = some (.ow o)) (ho : Own K s.B s.H o v (s.fp i)) (ev : s.σ[i]? = some (some v)) :
    EnOk K ⟨joinB s.B s.H (s.fp i), s.H, s.σ, s.en.set i (.va o.fz), fun j => if j = i then [] else s.fp j⟩ ∧ Stp s ⟨joinB s.B s.H (s.fp i), s.H, s.σ, s.en.set i (.va o.fz), fun j => if j = i then [] else s.fp j⟩ ∧ Rep K (joinB s.B s.H (s.fp i)) o.fz v := by
  have eb : Ex s.B (joinB s.B s.H (s.fp i)) := joinB_ex (h.off i)
  have hi : i < s.en.length := (List.getElem?_eq_some_iff.mp e).1
  have rp : Rep K (joinB s.B s.H (s.fp i)) o.fz v := ho.fz eb fun a ha => joinB_in ha
  refine ⟨⟨joinB_le h.ex, ?_, fun j y ej => ?_, fun j ej => ?_, fun j k a hj hk => ?_, fun j a hj => ?_, nt_join h.nt ho.cell, h.tb⟩, ⟨eb, fun a u ea => ?_, fun _ _ z _ _ => z, fun _ z => z, fun a ⟨j, hj⟩ => ?_, fun j o' ej => ?_, List.length_set ..⟩, rp⟩
  · show (s.en.set i _).length = s.σ.length
    rw [List.length_set]; exact h.len
  · have ej : (s.en.set i (.va o.fz))[j]? = some y := ej
    show ∃ ov, s.σ[j]? = some ov ∧ SlOk K (joinB s.B s.H (s.fp i)) s.H ov y (if j = i then [] else s.fp j)
    by_cases hj : j = i
    · subst hj
      rw [List.getElem?_set_self hi] at ej
      cases ej
      exact ⟨_, ev, by rw [if_pos rfl], v, rfl, rp⟩
    · rw [List.getElem?_set_ne (Ne.symm hj)] at ej
      obtain ⟨ov, e1, q⟩ := h.sl j y ej
      rw [if_neg hj]
      exact ⟨ov, e1, q.mono eb fun _ _ => rfl⟩
  · have ej : (s.en.set i (.va o.fz))[j]? = none := ej
    show (if j = i then [] else s.fp j) = []
    by_cases hj : j = i
    · rw [if_pos hj]
    · rw [List.getElem?_set_ne (Ne.symm hj)] at ej
      rw [if_neg hj]; exact h.out j ej
  · have hj : a ∈ (if j = i then [] else s.fp j) := hj
    have hk : a ∈ (if k = i then [] else s.fp k) := hk
    by_cases ej : j = i
    · rw [if_pos ej] at hj; cases hj
    · by_cases ek : k = i
      · rw [if_pos ek] at hk; cases hk
      · rw [if_neg ej] at hj; rw [if_neg ek] at hk
        exact h.dj j k a hj hk
  · have hj : a ∈ (if j = i then [] else s.fp j) := hj
    show joinB s.B s.H (s.fp i) a = none
    by_cases ej : j = i
    · rw [if_pos ej] at hj; cases hj
    · rw [if_neg ej] at hj
      rw [joinB_no fun z => ej (h.dj j i a hj z)]
      exact h.off j a hj
  · have ea : joinB s.B s.H (s.fp i) a = some u := ea
    by_cases ha : a ∈ s.fp i
    · exact .inr (.inr ⟨i, ha⟩)
    · rw [joinB_no ha] at ea; exact .inl ea
  · have hj : a ∈ (if j = i then [] else s.fp j) := hj
    by_cases ej : j = i
    · rw [if_pos ej] at hj; cases hj
    · rw [if_neg ej] at hj; exact .inl ⟨j, hj⟩
  · have hj : j ≠ i := by
      rintro rfl
      rw [e] at ej; cases ej
    exact ⟨rfl, o', by show (s.en.set i _)[j]? = _; rw [List.getElem?_set_ne (Ne.symm hj)]; exact ej⟩
end
def xFz (f : En → Option (Sl × En)) : En → Option (D × En) := fun e => (f e).bind fun p => p.1.fz.bind fun d => some (d, p.2)
def xUp (f : En → Option (D × En)) : En → Option (Sl × En) := fun e => (f e).bind fun p => some (.va p.1, p.2)
def xVar (i : Nat) : En → Option (Sl × En) := fun e => match e[i]? with
  | some (.va d) => some (.va d, e)
  | some (.ow o) => some (.va o.fz, e.set i (.va o.fz))
  | _ => none
def xC (d : D) : En → Option (D × En) := fun e => some (d, e)
def xNil : En → Option (List D × En) := fun e => some ([], e)
def xCons (f : En → Option (D × En)) (g : En → Option (List D × En)) : En → Option (List D × En) := fun e => (f e).bind fun p => (g p.2).bind fun q => some (p.1 :: q.1, q.2)
def xPr (g : List D → Option Sl) (f : En → Option (List D × En)) : En → Option (Sl × En) := fun e => (f e).bind fun p => (g p.1).bind fun x => some (x, p.2)
section
variable {X : Cx} {a b c : Expr} {pos : Pos}
theorem xv {f : En → Option (Sl × En)} (h : PE X a (rdE X.K f)) : PE X a (rdV X.K (xFz f)) := PEi h fun σ H Q ⟨s, e1, e2, ok, d, en', hf, q⟩ => by
  obtain ⟨⟨r, en1⟩, h1, h2⟩ := Option.bind_eq_some_iff.mp hf
  obtain ⟨d1, h3, h4⟩ := Option.bind_eq_some_iff.mp h2
  cases h4
  refine ⟨s, e1, e2, ok, r, en1, h1, fun v t fr tσ te okt st sl sd => ?_⟩
  cases r with
  | no => cases h3
  | pw o => cases h3
  | va d2 =>
    cases h3
    obtain ⟨_, v', ev, rp⟩ := sl
    cases ev
    exact q v t tσ te okt st rp
  | ow o =>
    cases h3
    obtain ⟨v', ev, ho⟩ := sl
    cases ev
    obtain ⟨k1, k2, k3⟩ := frz_res okt st ho sd
    exact q v ⟨joinB t.B t.H fr, t.H, t.σ, t.en, t.fp⟩ tσ te k1 k2 k3
theorem xu {f : En → Option (D × En)} (h : PE X a (rdV X.K f)) : PE X a (rdE X.K (xUp f)) := PEi h fun σ H Q ⟨s, e1, e2, ok, r, en', hf, q⟩ => by
  obtain ⟨⟨d, en1⟩, h1, h2⟩ := Option.bind_eq_some_iff.mp hf
  cases h2
  exact ⟨s, e1, e2, ok, d, en1, h1, fun v t tσ te okt st rp => q v t [] tσ te okt st ⟨rfl, v, rfl, rp⟩ .nil⟩
theorem xe_var {i : Nat} {x : Str} (hp : PE X (.Name x pos) (tVar i)) : PE X (.Name x pos) (rdE X.K (xVar i)) := PEi hp fun σ H Q ⟨s, e1, e2, ok, r, en', hf, q⟩ => by
  unfold xVar at hf
  cases e : s.en[i]? with
  | none => rw [e] at hf; cases hf
  | some sl =>
    rw [e] at hf
    obtain ⟨ov, ev, so⟩ := ok.sl i sl e
    cases sl with
    | no => cases hf
    | pw o => cases hf
    | va d =>
      cases hf
      obtain ⟨_, v, rfl, rp⟩ := so
      refine ⟨v, by rw [← e1]; exact ev, ?_⟩
      rw [← e2]
      exact q v s [] e1 rfl ok (Stp.refl s) ⟨rfl, v, rfl, rp⟩ .nil
    | ow o =>
      cases hf
      obtain ⟨v, rfl, ho⟩ := so
      refine ⟨v, by rw [← e1]; exact ev, ?_⟩
      obtain ⟨k1, k2, k3⟩ := frz_slot ok e ho ev
      rw [← e2]
      exact q v ⟨joinB s.B s.H (s.fp i), s.H, s.σ, s.en.set i (.va o.fz), fun j => if j = i then [] else s.fp j⟩ [] e1 rfl k1 k2 ⟨rfl, v, rfl, k3⟩ .nil
theorem xe_c {d : D} {v : V} (hp : PE X a (tC v)) (hr : ∀ B, Rep X.K B d v) : PE X a (rdV X.K (xC d)) := PEi hp fun σ H Q ⟨s, e1, e2, ok, d', en', hf, q⟩ => by
  cases hf
  show Q v H
  rw [← e2]
  exact q v s e1 rfl ok (Stp.refl s) (hr _)
theorem xa_nil : PA X [] (rdA X.K xNil) := PAi pa_nil fun σ H Q ⟨s, e1, e2, ok, d', en', hf, q⟩ => by
  cases hf
  show Q [] H
  rw [← e2]
  exact q [] s e1 rfl ok (Stp.refl s) rfl
theorem xa_cons {es : List Expr} {f : En → Option (D × En)} {g : En → Option (List D × En)} (h : PE X a (rdV X.K f)) (hs : PA X es (rdA X.K g)) (hst : starEach (a :: es) X.env = (false, eval a X.env) :: starEach es X.env := by rfl) : PA X (a :: es) (rdA X.K (xCons f g)) :=
  PAi (pa_cons h hs hst) fun σ H Q ⟨s, e1, e2, ok, ds, en', hf, q⟩ => by
    obtain ⟨⟨d, en1⟩, h1, h2⟩ := Option.bind_eq_some_iff.mp hf
    obtain ⟨⟨ds2, en2⟩, h3, h4⟩ := Option.bind_eq_some_iff.mp h2
    cases h4
    exact ⟨s, e1, e2, ok, d, en1, h1, fun v t tσ te okt st rp => ⟨t, tσ, rfl, okt, ds2, en2, by rw [te]; exact h3, fun vs u uσ ue oku st2 rps => q (v :: vs) u uσ ue oku (st.trans st2) ⟨v, vs, rfl, rp.mono st2.bb, rps⟩⟩⟩
end
def PrS (K : PySem.W.Frag) (r : List V → Hp → VK → Prop) (g : List D → Option Sl) : Prop := ∀ (B H : Hp) (ds : List D) (vs : List V) (x : Sl), Ex B H → RepL K B ds vs → g ds = some x → ∀ Q : VK,
  (∀ u B' H' fr, Ex B B' → Ex H H' → Ex B' H' → (∀ a o, B' a = some o → B a = some o ∨ H a = none) → SlOk K B' H' (some u) x fr → (∀ a ∈ fr, H a = none ∧ B' a = none) → Q u H') → r vs H Q
def r2L (r : R2) : List V → Hp → VK → Prop := fun vs H Q => match vs with
  | [x, y] => r x y H Q
  | _ => False
def r1L (r : V → Hp → VK → Prop) : List V → Hp → VK → Prop := fun vs H Q => match vs with
  | [x] => r x H Q
  | _ => False
section
variable {K : PySem.W.Frag} {r : List V → Hp → VK → Prop} {g : List D → Option Sl}
theorem PrS.val (h : ∀ (B H : Hp) ds vs x, Ex B H → RepL K B ds vs → g ds = some x → ∃ d u, x = .va d ∧ Rep K B d u ∧ ∀ Q : VK, Q u H → r vs H Q) : PrS K r g := fun B H ds vs x e rp hg Q q => by
  obtain ⟨d, u, rfl, rd, k⟩ := h B H ds vs x e rp hg
  exact k Q (q u B H [] (Ex.refl _) (Ex.refl _) e (fun _ _ z => .inl z) ⟨rfl, u, rfl, rd⟩ fun _ z => by cases z)
theorem PrS.lst (h : ∀ (B H : Hp) ds vs x, Ex B H → RepL K B ds vs → g ds = some x → ∃ es us, x = .ow (.o1 (.lst es)) ∧ RepL K B es us ∧ ∀ Q : VK, (∀ p, H p = none → Q (.ref p) (upd H p (.lst us))) → r vs H Q) : PrS K r g := fun B H ds vs x e rp hg Q q => by
  obtain ⟨es, us, rfl, rd, k⟩ := h B H ds vs x e rp hg
  refine k Q fun p hp => q (.ref p) B _ [p] (Ex.refl _) (Ex.new hp) (e.trans (Ex.new hp)) (fun _ _ z => .inl z) ⟨_, rfl, p, rfl, rfl, us, upd_same, rd⟩ fun a z => ?_
  cases List.mem_singleton.mp z
  exact ⟨hp, fresh_back e hp⟩
theorem PrS.tup (h : ∀ (B H : Hp) ds vs x, Ex B H → RepL K B ds vs → g ds = some x → ∃ es us, x = .va (.tup false es) ∧ RepL K B es us ∧ ∀ Q : VK, (∀ p, H p = none → Q (.ref p) (upd H p (.tup us))) → r vs H Q) : PrS K r g := fun B H ds vs x e rp hg Q q => by
  obtain ⟨es, us, rfl, rd, k⟩ := h B H ds vs x e rp hg
  refine k Q fun p hp => ?_
  have hb : B p = none := fresh_back e hp
  refine q (.ref p) (upd B p (.tup us)) _ [] (Ex.new hb) (Ex.new hp) (fun a o z => ?_) (fun a o z => ?_) ⟨rfl, _, rfl, p, us, rfl, upd_same, rd.mono (Ex.new hb)⟩ fun _ z => by cases z
  · by_cases ha : a = p
    · subst ha; rw [upd_same] at z; rw [upd_same]; exact z
    · rw [upd_ne ha] at z; rw [upd_ne ha]; exact e a o z
  · by_cases ha : a = p
    · subst ha; exact .inr hp
    · rw [upd_ne ha] at z; exact .inl z
theorem PrS.run (hr : PrS K r g) {s t : Sta} {ds : List D} {vs : List V} {x : Sl} {Q : VK} {en' : En} {σ : L2.St} (okt : EnOk K t) (st : Stp s t) (rp : RepL K t.B ds vs) (hg : g ds = some x) (tσ : t.σ = σ) (te : t.en = en')
    (q : ∀ v t fr, t.σ = σ → t.en = en' → EnOk K t → Stp s t → SlOk K t.B t.H (some v) x fr → Side s t fr → Q v t.H) : r vs t.H Q := by
  refine hr t.B t.H ds vs x okt.ex rp hg Q fun u B' H' fr eb eh el bn sl fresh => ?_
  have off : ∀ i a, a ∈ t.fp i → B' a = none := fun i a ha => by
    cases e : B' a with
    | none => rfl
    | some o =>
      rcases bn a o e with z | z
      · rw [okt.off i a ha] at z; cases z
      · obtain ⟨w, hw, _⟩ := okt.cell ⟨i, ha⟩
        rw [hw] at z; cases z
  have cut : ∀ a, B' a = none → noT B' a = none := fun a z => by unfold noT; rw [z]
  have ok2 : EnOk K ⟨noT B', H', t.σ, t.en, t.fp⟩ := okt.alc (fun a o z => noT_of (eb a o z) (okt.nt a o z)) eh ((Ex.noT B').trans el) (fun i a ha => cut a (off i a ha)) nt_noT
  have st2 : Stp t ⟨noT B', H', t.σ, t.en, t.fp⟩ := Stp.alc (fun a o z => noT_of (eb a o z) (okt.nt a o z)) eh fun a o z => (bn a o (of_noT z).1).elim .inl fun y => .inr (.inl y)
  exact q u ⟨noT B', H', t.σ, t.en, t.fp⟩ fr tσ te ok2 (st.trans st2) (sl.nt fun a o z n => noT_of z n) ⟨fun a ha ⟨i, z⟩ => (by
    obtain ⟨w, hw, _⟩ := okt.cell ⟨i, z⟩
    rw [(fresh a ha).1] at hw; cases hw), fun a ha => cut a (fresh a ha).2, fun a ha => .inl (st.dm a (fresh a ha).1)⟩
end
section
variable {X : Cx} {a b c : Expr} {es : List Expr} {pos : Pos} {f g : En → Option (D × En)} {fa : En → Option (List D × En)} {p : List D → Option Sl}
theorem rd_op {K : PySem.W.Frag} {r : R2} (hs : PrS K (r2L r) p) : ∀ σ H Q, rdE K (xPr p (xCons f (xCons g xNil))) σ H Q → tOp r (rdV K f) (rdV K g) σ H Q := fun σ H Q ⟨s, e1, e2, ok, x, en', hf, q⟩ => by
  obtain ⟨⟨ds, en1⟩, h1, h2⟩ := Option.bind_eq_some_iff.mp hf
  obtain ⟨y, h3, h4⟩ := Option.bind_eq_some_iff.mp h2
  cases h4
  obtain ⟨⟨d, en2⟩, k1, k2⟩ := Option.bind_eq_some_iff.mp h1
  obtain ⟨⟨ds2, en3⟩, k3, k4⟩ := Option.bind_eq_some_iff.mp k2
  cases k4
  obtain ⟨⟨d2, en4⟩, l1, l2⟩ := Option.bind_eq_some_iff.mp k3
  cases l2
  exact ⟨s, e1, e2, ok, d, en2, k1, fun v t tσ te okt st rp => ⟨t, tσ, rfl, okt, d2, en4, by rw [te]; exact l1, fun w u uσ ue oku st2 rp2 =>
    hs.run (ds := [d, d2]) (vs := [v, w]) oku (st.trans st2) ⟨v, [w], rfl, rp.mono st2.bb, w, [], rfl, rp2, rfl⟩ h3 uσ ue q⟩⟩
theorem rd_un {K : PySem.W.Frag} {r : V → Hp → VK → Prop} (hs : PrS K (r1L r) p) : ∀ σ H Q, rdE K (xPr p (xCons f xNil)) σ H Q → tUn r (rdV K f) σ H Q := fun σ H Q ⟨s, e1, e2, ok, x, en', hf, q⟩ => by
  obtain ⟨⟨ds, en1⟩, h1, h2⟩ := Option.bind_eq_some_iff.mp hf
  obtain ⟨y, h3, h4⟩ := Option.bind_eq_some_iff.mp h2
  cases h4
  obtain ⟨⟨d, en2⟩, k1, k2⟩ := Option.bind_eq_some_iff.mp h1
  cases k2
  exact ⟨s, e1, e2, ok, d, en2, k1, fun v t tσ te okt st rp => hs.run (ds := [d]) (vs := [v]) okt st ⟨v, [], rfl, rp, rfl⟩ h3 tσ te q⟩
theorem rd_call {K : PySem.W.Frag} {r : List V → Hp → VK → Prop} (hs : PrS K r p) : ∀ σ H Q, rdE K (xPr p fa) σ H Q → tCB r (rdA K fa) σ H Q := fun σ H Q ⟨s, e1, e2, ok, x, en', hf, q⟩ => by
  obtain ⟨⟨ds, en1⟩, h1, h2⟩ := Option.bind_eq_some_iff.mp hf
  obtain ⟨y, h3, h4⟩ := Option.bind_eq_some_iff.mp h2
  cases h4
  exact ⟨s, e1, e2, ok, ds, en1, h1, fun vs t tσ te okt st rp => hs.run okt st rp h3 tσ te q⟩
theorem xe_op {op : Operator} {r : R2} (ho : OpR X (binaryOp op) r) (hs : PrS X.K (r2L r) p) (ha : PE X a (rdV X.K f)) (hb : PE X b (rdV X.K g)) : PE X (.BinOp a op b pos) (rdE X.K (xPr p (xCons f (xCons g xNil)))) := PEi (pe_op ho ha hb) (rd_op hs)
theorem xe_cmp {op : CmpOp} {r : R2} (ho : OpR X (compareOp op) r) (hs : PrS X.K (r2L r) p) (ha : PE X a (rdV X.K f)) (hb : PE X b (rdV X.K g)) (hm : behindInMarks op b = false) : PE X (.Compare a [op] [b] pos) (rdE X.K (xPr p (xCons f (xCons g xNil)))) := PEi (pe_cmpR ho ha hb hm) (rd_op hs)
theorem xe_ix {r : R2} (ho : IxR X r) (hs : PrS X.K (r2L r) p) (ha : PE X a (rdV X.K f)) (hb : PE X b (rdV X.K g)) (hx : PlainIx b) : PE X (.Subscript a b pos) (rdE X.K (xPr p (xCons f (xCons g xNil)))) := PEi (pe_ix ho ha hb hx) (rd_op hs)
theorem xe_un {op : UnaryOp} {r : V → Hp → VK → Prop} (ho : UnR X (unaryOp op) r) (hs : PrS X.K (r1L r) p) (ha : PE X a (rdV X.K f)) : PE X (.UnaryOp op a pos) (rdE X.K (xPr p (xCons f xNil))) := PEi (pe_un ho ha) (rd_un hs)
def pTup : List D → Option Sl := fun ds => if ds.length ≤ 100000 then some (.va (.tup false ds)) else none
def pLst : List D → Option Sl := fun ds => if ds.length ≤ 100000 then some (.ow (.o1 (.lst ds))) else none
theorem xe_tup {k} (h : PA X es (rdA X.K fa)) : PE X (.Tuple es k pos) (rdE X.K (xPr pTup fa)) := PEi (pe_tup h) fun σ H Q ⟨s, e1, e2, ok, x, en', hf, q⟩ => by
  obtain ⟨⟨ds, en1⟩, h1, h2⟩ := Option.bind_eq_some_iff.mp hf
  obtain ⟨y, h3, h4⟩ := Option.bind_eq_some_iff.mp h2
  cases h4
  refine ⟨s, e1, e2, ok, ds, en1, h1, fun vs t tσ te okt st rp => ?_⟩
  have : PrS X.K (fun vs H Q => vs.length ≤ sizeLine ∧ ∀ p, H p = none → Q (.ref p) (upd H p (.tup vs))) pTup := PrS.tup fun B H ds vs x e rp hg => by
    unfold pTup at hg
    split at hg
    · rename_i hl
      cases hg
      exact ⟨ds, vs, rfl, rp, fun Q k => ⟨sz_of (by rw [rp.len]; exact hl), k⟩⟩
    · cases hg
  exact this.run okt st rp h3 tσ te q
theorem xe_lst (h : PA X es (rdA X.K fa)) : PE X (.List es pos) (rdE X.K (xPr pLst fa)) := PEi (pe_lst h) fun σ H Q ⟨s, e1, e2, ok, x, en', hf, q⟩ => by
  obtain ⟨⟨ds, en1⟩, h1, h2⟩ := Option.bind_eq_some_iff.mp hf
  obtain ⟨y, h3, h4⟩ := Option.bind_eq_some_iff.mp h2
  cases h4
  refine ⟨s, e1, e2, ok, ds, en1, h1, fun vs t tσ te okt st rp => ?_⟩
  have : PrS X.K (fun vs H Q => vs.length ≤ sizeLine ∧ ∀ p, H p = none → Q (.ref p) (upd H p (.lst vs))) pLst := PrS.lst fun B H ds vs x e rp hg => by
    unfold pLst at hg
    split at hg
    · rename_i hl
      cases hg
      exact ⟨ds, vs, rfl, rp, fun Q k => ⟨sz_of (by rw [rp.len]; exact hl), k⟩⟩
    · cases hg
  exact this.run okt st rp h3 tσ te q
end
def xB (f : En → Option (D × En)) : En → Option (Bool × En) := fun e => (f e).bind fun p => match p.1 with
  | .bl b => some (b, p.2)
  | _ => none
def xAnd (f g : En → Option (Bool × En)) : En → Option (Bool × En) := fun e => (f e).bind fun p => if p.1 = true then g p.2 else some (false, p.2)
def xOr (f g : En → Option (Bool × En)) : En → Option (Bool × En) := fun e => (f e).bind fun p => if p.1 = true then some (true, p.2) else g p.2
def xNot (f : En → Option (Bool × En)) : En → Option (Bool × En) := fun e => (f e).bind fun p => some (!p.1, p.2)
def xOfB (f : En → Option (Bool × En)) : En → Option (D × En) := fun e => (f e).bind fun p => some (.bl p.1, p.2)
def xIfE (c : En → Option (Bool × En)) (f g : En → Option (Sl × En)) : En → Option (Sl × En) := fun e => (c e).bind fun p => if p.1 = true then f p.2 else g p.2
def xYes : En → Option (Bool × En) := fun e => some (true, e)
section
variable {K : PySem.W.Frag} {f g : En → Option (D × En)} {c c2 : En → Option (Bool × En)}
theorem rd_B : ∀ σ H Q, rdT K (xB f) σ H Q → rdV K f σ H fun x H1 => ∃ b, x = .bl b ∧ Q b H1 := fun σ H Q ⟨s, e1, e2, ok, b, en', hf, q⟩ => by
  obtain ⟨⟨d, en1⟩, h1, h2⟩ := Option.bind_eq_some_iff.mp hf
  cases d with
  | bl b' =>
    cases h2
    exact ⟨s, e1, e2, ok, _, _, h1, fun v t tσ te okt st rp => ⟨b, rp, q t tσ te okt st⟩⟩
  | _ => cases h2
theorem Stp.sideL {s t u : Sta} {fr : List Addr} (st : Stp s t) (sd : Side t u fr) : Side s u fr := ⟨sd.no, sd.b, fun a ha => (sd.new a ha).elim (fun z => .inl (st.dm a z)) fun z => (st.ff a z).elim .inr .inl⟩
theorem EndO.from {W : WX} {D : Ends} {s t : Sta} {o : Out} (h : EndO K W D s o) (st : Stp s t) : EndO K W D t o := by
  cases o with
  | nx e => exact fun u ue ok st2 => h u ue ok (st.trans st2)
  | bk e => exact fun u ue ok st2 => h u ue ok (st.trans st2)
  | ct e => exact fun u ue ok st2 => h u ue ok (st.trans st2)
  | rt r e => exact fun v u fr ue ok st2 sl sd => h v u fr ue ok (st.trans st2) sl (st.sideL sd)
  | ex r e => exact fun cls d u ue ok st2 re => h cls d u ue ok (st.trans st2) re
end
section
variable {X : Cx} {a b c : Expr} {rest : List Expr} {pos : Pos} {f g h : En → Option (D × En)} {ct cu : En → Option (Bool × En)} {p p' : List D → Option Sl}
theorem xt_val (ha : PE X a (rdV X.K f)) (he : ∀ whole, isTrue a X.env whole = (do let v ← whole; standAt a.pos; holding [v] (truthy v)) := by intro _; rfl) : PT X a (rdT X.K (xB f)) := PTi (pt_val ha he) rd_B
theorem xt_cmp {op : CmpOp} {r : R2} (ho : OpR X (compareOp op) r) (hs : PrS X.K (r2L r) p) (ha : PE X a (rdV X.K f)) (hb : PE X b (rdV X.K g)) (hm : behindInMarks op b = false) : PT X (.Compare a [op] [b] pos) (rdT X.K (xB (xFz (xPr p (xCons f (xCons g xNil)))))) :=
  PTi (pt_cmpR ho ha hb hm) fun σ H Q hr => rd_op hs σ H _ (by
    obtain ⟨s, e1, e2, ok, b, en', hf, q⟩ := hr
    obtain ⟨⟨d, en1⟩, h1, h2⟩ := Option.bind_eq_some_iff.mp hf
    cases d with
    | bl b' =>
      cases h2
      obtain ⟨⟨r, en2⟩, k1, k2⟩ := Option.bind_eq_some_iff.mp h1
      obtain ⟨d1, k3, k4⟩ := Option.bind_eq_some_iff.mp k2
      cases k4
      refine ⟨s, e1, e2, ok, r, en2, k1, fun v t fr tσ te okt st sl sd => ?_⟩
      cases r with
      | va d2 =>
        cases k3
        obtain ⟨_, v', ev, rp⟩ := sl
        cases ev
        exact ⟨b, rp, q t tσ te okt st⟩
      | ow o => cases o with
        | o1 o => cases o <;> cases k3
        | obj _ _ _ => cases k3
      | _ => cases k3
    | _ => cases h2)
theorem xw_and (ha : PT X a (rdT X.K ct)) (hb : PW X (.BoolOp .And (b :: rest) pos) (rdT X.K cu)) : PW X (.BoolOp .And (a :: b :: rest) pos) (rdT X.K (xAnd ct cu)) := PWi (pw_and ha hb) fun σ H Q ⟨s, e1, e2, ok, b, en', hf, q⟩ => by
  obtain ⟨⟨b1, en1⟩, h1, h2⟩ := Option.bind_eq_some_iff.mp hf
  refine ⟨s, e1, e2, ok, b1, en1, h1, fun t tσ te okt st => ?_⟩
  cases b1 with
  | true => exact ⟨t, tσ, rfl, okt, b, en', by rw [te]; exact h2, fun u uσ ue oku st2 => q u uσ ue oku (st.trans st2)⟩
  | false => cases h2; exact q t tσ te okt st
theorem xw_or (ha : PT X a (rdT X.K ct)) (hb : PW X (.BoolOp .Or (b :: rest) pos) (rdT X.K cu)) : PW X (.BoolOp .Or (a :: b :: rest) pos) (rdT X.K (xOr ct cu)) := PWi (pw_or ha hb) fun σ H Q ⟨s, e1, e2, ok, b, en', hf, q⟩ => by
  obtain ⟨⟨b1, en1⟩, h1, h2⟩ := Option.bind_eq_some_iff.mp hf
  refine ⟨s, e1, e2, ok, b1, en1, h1, fun t tσ te okt st => ?_⟩
  cases b1 with
  | false => exact ⟨t, tσ, rfl, okt, b, en', by rw [te]; exact h2, fun u uσ ue oku st2 => q u uσ ue oku (st.trans st2)⟩
  | true => cases h2; exact q t tσ te okt st
theorem xt_not (ha : PT X a (rdT X.K ct)) : PT X (.UnaryOp .Not a pos) (rdT X.K (xNot ct)) := PTi (pt_not ha) fun σ H Q ⟨s, e1, e2, ok, b, en', hf, q⟩ => by
  obtain ⟨⟨b1, en1⟩, h1, h2⟩ := Option.bind_eq_some_iff.mp hf
  cases h2
  exact ⟨s, e1, e2, ok, b1, en1, h1, q⟩
theorem xe_not (ha : PE X a (rdV X.K f)) : PE X (.UnaryOp .Not a pos) (rdV X.K (xOfB (xNot (xB f)))) := PEi (pe_not ha) fun σ H Q ⟨s, e1, e2, ok, b, en', hf, q⟩ => by
  obtain ⟨⟨b1, en1⟩, h1, h2⟩ := Option.bind_eq_some_iff.mp hf
  cases h2
  obtain ⟨⟨b2, en2⟩, h3, h4⟩ := Option.bind_eq_some_iff.mp h1
  cases h4
  exact rd_B σ H (fun b H1 => Q (.bl (!b)) H1) ⟨s, e1, e2, ok, b2, en2, h3, fun t tσ te okt st => q _ t tσ te okt st rfl⟩
theorem xe_and (ha : PE X a (rdV X.K f)) (hb : PE X (.BoolOp .And (b :: rest) pos) (rdV X.K g)) : PE X (.BoolOp .And (a :: b :: rest) pos) (rdV X.K (fun e => (xB f e).bind fun p => if p.1 = true then g p.2 else some (.bl false, p.2))) := PEi (pe_and ha hb) fun σ H Q ⟨s, e1, e2, ok, d, en', hf, q⟩ => by
  obtain ⟨⟨b1, en1⟩, h1, h2⟩ := Option.bind_eq_some_iff.mp hf
  refine rd_B σ H (fun b H1 => if b = true then rdV X.K g σ H1 Q else Q (.bl false) H1) ⟨s, e1, e2, ok, b1, en1, h1, fun t tσ te okt st => ?_⟩
  cases b1 with
  | true => exact ⟨t, tσ, rfl, okt, d, en', by rw [te]; exact h2, fun v u uσ ue oku st2 rp => q v u uσ ue oku (st.trans st2) rp⟩
  | false => cases h2; exact q _ t tσ te okt st rfl
theorem xe_or (ha : PE X a (rdV X.K f)) (hb : PE X (.BoolOp .Or (b :: rest) pos) (rdV X.K g)) : PE X (.BoolOp .Or (a :: b :: rest) pos) (rdV X.K (fun e => (xB f e).bind fun p => if p.1 = true then some (.bl true, p.2) else g p.2)) := PEi (pe_or ha hb) fun σ H Q ⟨s, e1, e2, ok, d, en', hf, q⟩ => by
  obtain ⟨⟨b1, en1⟩, h1, h2⟩ := Option.bind_eq_some_iff.mp hf
  refine rd_B σ H (fun b H1 => if b = true then Q (.bl true) H1 else rdV X.K g σ H1 Q) ⟨s, e1, e2, ok, b1, en1, h1, fun t tσ te okt st => ?_⟩
  cases b1 with
  | false => exact ⟨t, tσ, rfl, okt, d, en', by rw [te]; exact h2, fun v u uσ ue oku st2 rp => q v u uσ ue oku (st.trans st2) rp⟩
  | true => cases h2; exact q _ t tσ te okt st rfl
theorem xe_if {fe ge : En → Option (Sl × En)} (hc : PT X c (rdT X.K ct)) (ha : PE X a (rdE X.K fe)) (hb : PE X b (rdE X.K ge)) : PE X (.IfExp c a b pos) (rdE X.K (xIfE ct fe ge)) := PEi (pe_ifExp hc ha hb) fun σ H Q ⟨s, e1, e2, ok, r, en', hf, q⟩ => by
  obtain ⟨⟨b1, en1⟩, h1, h2⟩ := Option.bind_eq_some_iff.mp hf
  refine ⟨s, e1, e2, ok, b1, en1, h1, fun t tσ te okt st => ?_⟩
  cases b1 with
  | true => exact ⟨t, tσ, rfl, okt, r, en', by rw [te]; exact h2, fun v u fr uσ ue oku st2 sl sd => q v u fr uσ ue oku (st.trans st2) sl (st.sideL sd)⟩
  | false => exact ⟨t, tσ, rfl, okt, r, en', by rw [te]; exact h2, fun v u fr uσ ue oku st2 sl sd => q v u fr uσ ue oku (st.trans st2) sl (st.sideL sd)⟩
def xChain (p p' : List D → Option Sl) (f g h : En → Option (D × En)) : En → Option (Bool × En) := fun e => (f e).bind fun x => (g x.2).bind fun y => match p [x.1, y.1] with
  | some (.va (.bl true)) => (h y.2).bind fun z => (match p' [y.1, z.1] with
    | some (.va (.bl b)) => some (b, z.2)
    | _ => none)
  | some (.va (.bl false)) => some (false, y.2)
  | _ => none
theorem rd_chain {K : PySem.W.Frag} {r r' : R2} (hs : PrS K (r2L r) p) (hs' : PrS K (r2L r') p') : ∀ σ H (Q : VK), rdT K (xChain p p' f g h) σ H (fun b H1 => Q (.bl b) H1) → tChain r r' (rdV K f) (rdV K g) (rdV K h) σ H Q := fun σ H Q ⟨s, e1, e2, ok, b, en', hf, q⟩ => by
  obtain ⟨⟨x, en1⟩, h1, h2⟩ := Option.bind_eq_some_iff.mp hf
  obtain ⟨⟨y, en2⟩, h3, h4⟩ := Option.bind_eq_some_iff.mp h2
  refine ⟨s, e1, e2, ok, x, en1, h1, fun v t tσ te okt st rp => ⟨t, tσ, rfl, okt, y, en2, by rw [te]; exact h3, fun w u uσ ue oku st2 rp2 => ?_⟩⟩
  have rpl : RepL K u.B [x, y] [v, w] := ⟨v, [w], rfl, rp.mono st2.bb, w, [], rfl, rp2, rfl⟩
  cases hp : p [x, y] with
  | none => rw [hp] at h4; cases h4
  | some sl =>
    rw [hp] at h4
    refine hs.run (Q := fun z H3 => ∃ k, z = .bl k ∧ if k = true then rdV K h σ H3 fun w1 H4 => r' w w1 H4 Q else Q (.bl false) H3) oku (Stp.refl u) rpl hp uσ ue fun z t3 fr t3σ t3e ok3 st3 sl3 sd3 => ?_
    have st13 := (st.trans st2).trans st3
    cases sl with
    | va d =>
      cases d with
      | bl k =>
        obtain ⟨_, v', ev, rz⟩ := sl3
        cases ev
        refine ⟨k, rz, ?_⟩
        cases k with
        | true =>
          obtain ⟨⟨z1, en3⟩, h5, h6⟩ := Option.bind_eq_some_iff.mp h4
          rw [if_pos rfl]
          refine ⟨t3, t3σ, rfl, ok3, z1, en3, by rw [t3e]; exact h5, fun w1 u1 u1σ u1e oku1 st4 rp4 => ?_⟩
          cases hp' : p' [y, z1] with
          | none => rw [hp'] at h6; cases h6
          | some sl' =>
            rw [hp'] at h6
            refine hs'.run (Q := Q) (ds := [y, z1]) (vs := [w, w1]) oku1 (st13.trans st4) ⟨w, [w1], rfl, (rp2.mono st3.bb).mono st4.bb, w1, [], rfl, rp4, rfl⟩ hp' u1σ u1e fun z' t5 fr5 t5σ t5e ok5 st5 sl5 sd5 => ?_
            cases sl' with
            | va d' =>
              cases d' with
              | bl b' =>
                cases h6
                obtain ⟨_, v5, ev5, rz5⟩ := sl5
                cases ev5
                rw [show z' = V.bl b from rz5]; exact q t5 t5σ t5e ok5 st5
              | _ => cases h6
            | _ => cases h6
        | false =>
          cases h4
          rw [if_neg Bool.false_ne_true]
          exact q t3 t3σ t3e ok3 st13
      | _ => cases h4
    | _ => cases h4
theorem xe_chain {op op' : CmpOp} {r r' : R2} (hs : PrS X.K (r2L r) p) (hs' : PrS X.K (r2L r') p') (hcc : PE X (.Compare a [op, op'] [b, c] pos) (tChain r r' (rdV X.K f) (rdV X.K g) (rdV X.K h))) :
    PE X (.Compare a [op, op'] [b, c] pos) (rdV X.K (xOfB (xChain p p' f g h))) := PEi hcc fun σ H Q ⟨s, e1, e2, ok, d, en', hf, q⟩ => by
  obtain ⟨⟨b1, en1⟩, h1, h2⟩ := Option.bind_eq_some_iff.mp hf
  cases h2
  exact rd_chain hs hs' σ H Q ⟨s, e1, e2, ok, b1, en1, h1, fun t tσ te okt st => q _ t tσ te okt st rfl⟩
end
variable {W : WX}
def putS (e : En) (i : Nat) (r : Sl) : Option En := match e[i]? with
  | none => none
  | some (.pw _) => none
  | some _ => (match r with
    | .va d => some (e.set i (.va d))
    | .ow o => some (e.set i (.ow o))
    | _ => none)
def xSet (i : Nat) (f : En → Option (Sl × En)) : En → Option Out := fun e => (f e).bind fun p => (putS p.2 i p.1).bind fun e1 => some (.nx e1)
def xDrop (f : En → Option (Sl × En)) : En → Option Out := fun e => (f e).bind fun p => some (.nx p.2)
def xRet (f : En → Option (Sl × En)) : En → Option Out := fun e => (f e).bind fun p => some (.rt p.1 p.2)
def xRetN : En → Option Out := fun e => some (.rt (.va .non) e)
def xRetV (i : Nat) : En → Option Out := fun e => match e[i]? with
  | some (.va d) => some (.rt (.va d) e)
  | some (.ow o) => some (.rt (.ow o) (e.set i .no))
  | _ => none
def xNx : En → Option Out := fun e => some (.nx e)
def xBk : En → Option Out := fun e => some (.bk e)
def xCt : En → Option Out := fun e => some (.ct e)
def xNever : En → Option Out := fun _ => none
def xIf (c : En → Option (Bool × En)) (f g : En → Option Out) : En → Option Out := fun e => (c e).bind fun p => if p.1 = true then f p.2 else g p.2
def xSeq (f g : En → Option Out) : En → Option Out := fun e => (f e).bind fun o => match o with
  | .nx e1 => g e1
  | o => some o
section
variable {K : PySem.W.Frag} {s : Sta}
theorem put_res {t : Sta} {i : Nat} {x : Sl} {v : V} {fr : List Addr} {e1 : En} (ok : EnOk K t) (st : Stp s t) (sl : SlOk K t.B t.H (some v) x fr) (sd : Side s t fr) (hp : putS t.en i x = some e1) :
    EnOk K ⟨t.B, t.H, t.σ.set i (some v), e1, fun j => if j = i then fr else t.fp j⟩ ∧ Stp s ⟨t.B, t.H, t.σ.set i (some v), e1, fun j => if j = i then fr else t.fp j⟩ := by
  unfold putS at hp
  have key : ∃ y, t.en[i]? = some y ∧ (∀ o, y ≠ .pw o) ∧ e1 = t.en.set i x := by
    cases e : t.en[i]? with
    | none => rw [e] at hp; cases hp
    | some y =>
      rw [e] at hp
      cases y with
      | pw o => cases hp
      | no => cases x <;> first | cases hp; done | exact ⟨_, rfl, (fun o z => by cases z), (Option.some.inj hp).symm⟩
      | va d => cases x <;> first | cases hp; done | exact ⟨_, rfl, (fun o z => by cases z), (Option.some.inj hp).symm⟩
      | ow d => cases x <;> first | cases hp; done | exact ⟨_, rfl, (fun o z => by cases z), (Option.some.inj hp).symm⟩
  obtain ⟨y, ey, ny, rfl⟩ := key
  have hi : i < t.en.length := (List.getElem?_eq_some_iff.mp ey).1
  refine ⟨ok.put hi sl (fun a ha j _ z => sd.no a ha ⟨j, z⟩) sd.b, ?_⟩
  have s2 : Stp t ⟨t.B, t.H, t.σ.set i (some v), t.en.set i x, fun j => if j = i then t.fp i else t.fp j⟩ := Stp.put (fun o z => by rw [ey] at z; exact ny o (Option.some.inj z)) fun a ha => .inl ⟨i, ha⟩
  refine ⟨st.bb, st.bn, st.hh, st.dm, fun a ⟨j, hj⟩ => ?_, fun j o e => ?_, (s2.ln).trans st.ln⟩
  · have hj : a ∈ (if j = i then fr else t.fp j) := hj
    by_cases ej : j = i
    · rw [if_pos ej] at hj; exact (sd.new a hj).elim .inr .inl
    · rw [if_neg ej] at hj; exact st.ff a ⟨j, hj⟩
  · obtain ⟨k1, o1, k2⟩ := st.pn j o e
    obtain ⟨k3, o2, k4⟩ := s2.pn j o1 k2
    exact ⟨k3.trans k1, o2, k4⟩
end
section
variable {X : Cx} {e : Expr} {pos : Pos} {st : Stmt} {sts : List Stmt} {f : En → Option (Sl × En)} {c : En → Option (Bool × En)} {m n : En → Option Out}
theorem rd_set {K : PySem.W.Frag} {i : Nat} : ∀ D σ H, rdS K W (xSet i f) D σ H → tAsg (rdE K f) (gName i) D σ H := fun D σ H ⟨s, e1, e2, ok, o, hf, q⟩ => by
  obtain ⟨⟨r, en1⟩, h1, h2⟩ := Option.bind_eq_some_iff.mp hf
  obtain ⟨en2, h3, h4⟩ := Option.bind_eq_some_iff.mp h2
  cases h4
  refine ⟨s, e1, e2, ok, r, en1, h1, fun v t fr tσ te okt stt sl sd => ?_⟩
  obtain ⟨k1, k2⟩ := put_res (i := i) okt stt sl sd (by rw [te]; exact h3)
  show D.nx (σ.set i (some v)) t.H
  rw [← tσ]
  exact q _ rfl k1 k2
theorem xs_set {i : Nat} (h : PS X st (tAsg (rdE X.K f) (gName i))) : PS X st (rdS X.K W (xSet i f)) := PSi h rd_set
theorem xs_drop (h : PS X st (tDrop (rdE X.K f))) : PS X st (rdS X.K W (xDrop f)) := PSi h fun D σ H ⟨s, e1, e2, ok, o, hf, q⟩ => by
  obtain ⟨⟨r, en1⟩, h1, h2⟩ := Option.bind_eq_some_iff.mp hf
  cases h2
  refine ⟨s, e1, e2, ok, r, en1, h1, fun v t fr tσ te okt stt sl sd => ?_⟩
  show D.nx σ t.H
  rw [← tσ]
  exact q t te okt stt
theorem xs_ret (h : PE X e (rdE X.K f)) : PS X (.Return (some e) pos) (rdS X.K W (xRet f)) := PSi (ps_ret h) fun D σ H ⟨s, e1, e2, ok, o, hf, q⟩ => by
  obtain ⟨⟨r, en1⟩, h1, h2⟩ := Option.bind_eq_some_iff.mp hf
  cases h2
  exact ⟨s, e1, e2, ok, r, en1, h1, fun v t fr tσ te okt stt sl sd => q v t fr te okt stt sl sd⟩
theorem xs_retV {i : Nat} {x : Str} {p : Pos} (hp : PE X (.Name x p) (tVar i)) : PS X (.Return (some (.Name x p)) pos) (rdS X.K W (xRetV i)) := PSi (ps_ret hp) fun D σ H ⟨s, e1, e2, ok, o, hf, q⟩ => by
  unfold xRetV at hf
  cases e : s.en[i]? with
  | none => rw [e] at hf; cases hf
  | some sl =>
    rw [e] at hf
    obtain ⟨ov, ev, so⟩ := ok.sl i sl e
    cases sl with
    | no => cases hf
    | pw o => cases hf
    | va d =>
      cases hf
      obtain ⟨_, v, rfl, rp⟩ := so
      refine ⟨v, by rw [← e1]; exact ev, ?_⟩
      rw [← e2]
      exact q v s [] rfl ok (Stp.refl s) ⟨rfl, v, rfl, rp⟩ .nil
    | ow o =>
      cases hf
      obtain ⟨v, rfl, ho⟩ := so
      refine ⟨v, by rw [← e1]; exact ev, ?_⟩
      rw [← e2]
      have hi : i < s.en.length := (List.getElem?_eq_some_iff.mp e).1
      have k1 := ok.put (ov := some v) (x := .no) (fr := []) hi rfl (fun _ z => by cases z) (fun _ z => by cases z)
      have k2 : Stp s ⟨s.B, s.H, s.σ.set i (some v), s.en.set i .no, fun j => if j = i then [] else s.fp j⟩ := Stp.put (fun o' z => by rw [e] at z; cases z) fun _ z => by cases z
      refine q v ⟨s.B, s.H, s.σ.set i (some v), s.en.set i .no, fun j => if j = i then [] else s.fp j⟩ (s.fp i) rfl k1 k2 ⟨v, rfl, ho⟩ ⟨fun a ha ⟨j, hj⟩ => ?_, ok.off i, fun a ha => .inr ⟨i, ha⟩⟩
      have hj : a ∈ (if j = i then [] else s.fp j) := hj
      by_cases ej : j = i
      · rw [if_pos ej] at hj; cases hj
      · rw [if_neg ej] at hj; exact ej (ok.dj j i a hj ha)
theorem xss_nil : PSs X [] (rdS X.K W xNx) := PSsi pss_nil fun D σ H ⟨s, e1, e2, ok, o, hf, q⟩ => by
  cases hf
  show D.nx σ H
  rw [← e1, ← e2]
  exact q s rfl ok (Stp.refl s)
theorem xs_never : PS X st (rdS X.K W xNever) := PSi ps_never fun D σ H ⟨s, e1, e2, ok, o, hf, q⟩ => by cases hf
theorem xs_if {a : Expr} {bs cs : List Stmt} (hc : PT X a (rdT X.K c)) (h1 : PSs X bs (rdS X.K W m)) (h2 : PSs X cs (rdS X.K W n)) : PS X (.If a bs cs pos) (rdS X.K W (xIf c m n)) := PSi (ps_if hc h1 h2) fun D σ H ⟨s, e1, e2, ok, o, hf, q⟩ => by
  obtain ⟨⟨b1, en1⟩, k1, k2⟩ := Option.bind_eq_some_iff.mp hf
  refine ⟨s, e1, e2, ok, b1, en1, k1, fun t tσ te okt stt => ?_⟩
  cases b1 with
  | true => rw [if_pos rfl]; exact ⟨t, tσ, rfl, okt, o, by rw [te]; exact k2, q.from stt⟩
  | false => rw [if_neg Bool.false_ne_true]; exact ⟨t, tσ, rfl, okt, o, by rw [te]; exact k2, q.from stt⟩
theorem rd_seq {K : PySem.W.Frag} : ∀ D σ H, rdS K W (xSeq m n) D σ H → rdS K W m { D with nx := rdS K W n D } σ H := fun D σ H ⟨s, e1, e2, ok, o, hf, q⟩ => by
  obtain ⟨o1, k1, k2⟩ := Option.bind_eq_some_iff.mp hf
  refine ⟨s, e1, e2, ok, o1, k1, ?_⟩
  cases o1 with
  | nx en1 => exact fun t te okt stt => ⟨t, rfl, rfl, okt, o, by rw [te]; exact k2, q.from stt⟩
  | bk en1 => cases k2; exact q
  | ct en1 => cases k2; exact q
  | rt r en1 => cases k2; exact q
  | ex r en1 => cases k2; exact q
theorem xss_cons (h1 : PS X st (rdS X.K W m)) (h2 : PSs X sts (rdS X.K W n)) : PSs X (st :: sts) (rdS X.K W (xSeq m n)) := PSsi (pss_cons h1 h2) rd_seq
theorem xss_one (h1 : PS X st (rdS X.K W m)) : PSs X [st] (rdS X.K W m) := pss_one h1
end
section
variable (K : PySem.W.Frag)
def rdG (g : D → En → Option En) : TG := fun v σ H Q => ∃ (s : Sta) (d : D), s.σ = σ ∧ s.H = H ∧ EnOk K s ∧ Rep K s.B d v ∧ ∃ en', g d s.en = some en' ∧ ∀ t, t.en = en' → EnOk K t → Stp s t → Q t.σ t.H
def rdGs (g : List D → En → Option En) : TGs := fun vs σ H Q => ∃ (s : Sta) (ds : List D), s.σ = σ ∧ s.H = H ∧ EnOk K s ∧ RepL K s.B ds vs ∧ ∃ en', g ds s.en = some en' ∧ ∀ t, t.en = en' → EnOk K t → Stp s t → Q t.σ t.H
end
def gNm (i : Nat) : D → En → Option En := fun d e => putS e i (.va d)
def gTp (n : Nat) (g : List D → En → Option En) : D → En → Option En := fun d e => match d with
  | .tup _ ds => if ds.length = n then g ds e else none
  | _ => none
def gsNil : List D → En → Option En := fun ds e => match ds with
  | [] => some e
  | _ => none
def gsCons (g : D → En → Option En) (h : List D → En → Option En) : List D → En → Option En := fun ds e => match ds with
  | d :: r => (g d e).bind fun e1 => h r e1
  | [] => none
section
variable {X : Cx} {e : Expr} {es : List Expr} {pos : Pos} {g : D → En → Option En} {gs : List D → En → Option En}
theorem PGi {t t' : TG} (h : PG X e t) (i : ∀ v σ H Q, t' v σ H Q → t v σ H Q) : PG X e t' := ⟨fun pins s σ H v u Q I r q => h.run pins s σ H v u Q I r (i v σ H Q q)⟩
theorem PGsi {t t' : TGs} (h : PGs X es t) (i : ∀ v σ H Q, t' v σ H Q → t v σ H Q) : PGs X es t' := ⟨fun pins s σ H v u Q I r q => h.run pins s σ H v u Q I r (i v σ H Q q)⟩
theorem xg_name {i : Nat} (h : PG X e (gName i)) : PG X e (rdG X.K (gNm i)) := PGi h fun v σ H Q ⟨s, d, e1, e2, ok, rp, en', hg, q⟩ => by
  obtain ⟨k1, k2⟩ := put_res (fr := []) ok (Stp.refl s) (v := v) (x := .va d) ⟨rfl, v, rfl, rp⟩ .nil hg
  show Q (σ.set i (some v)) H
  rw [← e1, ← e2]
  exact q _ rfl k1 k2
theorem xgs_nil : PGs X [] (rdGs X.K gsNil) := PGsi pgs_nil fun v σ H Q ⟨s, ds, e1, e2, ok, rp, en', hg, q⟩ => by
  cases ds with
  | nil =>
    cases hg
    exact ⟨rp, by rw [← e1, ← e2]; exact q s rfl ok (Stp.refl s)⟩
  | cons _ _ => cases hg
theorem xgs_cons (h1 : PG X e (rdG X.K g)) (h2 : PGs X es (rdGs X.K gs)) (hs : (assignEach (e :: es) X.env).map (·.2) = assign e X.env :: (assignEach es X.env).map (·.2) := by rfl) : PGs X (e :: es) (rdGs X.K (gsCons g gs)) :=
  PGsi (pgs_cons h1 h2 hs) fun vs σ H Q ⟨s, ds, e1, e2, ok, rp, en', hg, q⟩ => by
    cases ds with
    | nil => cases hg
    | cons d r =>
      obtain ⟨v, vr, rfl, r1, r2⟩ := rp
      obtain ⟨en1, k1, k2⟩ := Option.bind_eq_some_iff.mp hg
      exact ⟨v, vr, rfl, s, d, e1, e2, ok, r1, en1, k1, fun t te okt st => ⟨t, r, rfl, rfl, okt, r2.mono st.bb, en', by rw [te]; exact k2, fun u ue oku st2 => q u ue oku (st.trans st2)⟩⟩
theorem xg_tup {k n : Nat} (hc : X.calm = true) (h : PGs X es (rdGs X.K gs)) (hn : (assignEach es X.env).length = n := by rfl) (hst : (assignEach es X.env).findIdx? (·.1) = none := by rfl) : PG X (.Tuple es k pos) (rdG X.K (gTp n gs)) :=
  PGi (pg_tup hc h hn hst) fun v σ H Q ⟨s, d, e1, e2, ok, rp, en', hg, q⟩ => by
    cases d with
    | tup kk ds =>
      obtain ⟨a, vs, rfl, sq, rl⟩ := rp
      have hg : (if ds.length = n then gs ds s.en else none) = some en' := hg
      split at hg
      · rename_i hl
        exact ⟨a, vs, rfl, by rw [← e2]; exact ex_t ok.ex sq.sq, by rw [rl.len]; exact hl, s, ds, e1, e2, ok, rl, en', hg, q⟩
      · cases hg
    | _ => cases hg
def xAsg (f : En → Option (D × En)) (g : D → En → Option En) : En → Option Out := fun e => (f e).bind fun p => (g p.1 p.2).bind fun e1 => some (.nx e1)
def xPar (i j : Nat) (f : En → Option (List D × En)) : En → Option Out := fun e => (f e).bind fun p => match p.1 with
  | [x, y] => (putS p.2 i (.va x)).bind fun e1 => (putS e1 j (.va y)).bind fun e2 => some (.nx e2)
  | _ => none
end
structure ItOk (K : PySem.W.Frag) (J : It) (B : Hp) (ds : List D) : Prop where
  stop : ∀ H, Ex B H → J.stop ds.length H
  go : ∀ i H, Ex B H → i < ds.length → J.go i H
  yld : ∀ i H x H', Ex B H → i < ds.length → J.yld i H x H' → Ex H H' ∧ ∃ d, ds[i]? = some d ∧ ∀ B', Ex B B' → Ex B' H → ∃ B'', Ex B' B'' ∧ Ex B'' H' ∧ (∀ a o, B'' a = some o → B' a = some o ∨ H a = none) ∧ Rep K B'' d x
def rdI (K : PySem.W.Frag) (f : En → Option (List D × En)) : TI := fun σ H R => ∃ s : Sta, s.σ = σ ∧ s.H = H ∧ EnOk K s ∧ ∃ ds en', f s.en = some (ds, en') ∧
  ∀ t J, t.σ = σ → t.en = en' → EnOk K t → Stp s t → ItOk K J t.B ds → R J t.H
theorem ItOk.grow {K : PySem.W.Frag} {J : It} {B B' : Hp} {ds : List D} (h : ItOk K J B ds) (e : Ex B B') : ItOk K J B' ds :=
  ⟨fun H x => h.stop H (e.trans x), fun i H x => h.go i H (e.trans x), fun i H x H' ex hi y => by
    obtain ⟨h1, d, h2, h3⟩ := h.yld i H x H' (e.trans ex) hi y
    exact ⟨h1, d, h2, fun B2 eb => h3 B2 (e.trans eb)⟩⟩
theorem ItOk.next {K : PySem.W.Frag} {J : It} {ds : List D} {s t : Sta} {i : Nat} {x : V} {H' : Hp} (h : ItOk K J t.B ds) (ok : EnOk K t) (st : Stp s t) (hi : i < ds.length) (y : J.yld i t.H x H') :
    ∃ d B', ds[i]? = some d ∧ EnOk K ⟨B', H', t.σ, t.en, t.fp⟩ ∧ Stp s ⟨B', H', t.σ, t.en, t.fp⟩ ∧ Rep K B' d x ∧ Ex t.B B' := by
  obtain ⟨h1, d, h2, h3⟩ := h.yld i t.H x H' ok.ex hi y
  obtain ⟨B0, b1, b2, b3, b4⟩ := h3 t.B (Ex.refl _) ok.ex
  obtain ⟨B', b1, b2, b3, b4, b5⟩ : ∃ B' : Hp, Ex t.B B' ∧ Ex B' H' ∧ (∀ a o, B' a = some o → t.B a = some o ∨ t.H a = none) ∧ Rep K B' d x ∧ ∀ a o, B' a = some o → NTbl o :=
    ⟨noT B0, fun a o z => noT_of (b1 a o z) (ok.nt a o z), (Ex.noT B0).trans b2, fun a o z => b3 a o (of_noT z).1, b4.nt fun a o z n => noT_of z n, nt_noT⟩
  refine ⟨d, B', h2, ok.alc b1 h1 b2 (fun j a ha => ?_) b5, st.trans (Stp.alc b1 h1 fun a o z => (b3 a o z).elim .inl fun w => .inr (.inl w)), b4, b1⟩
  cases e : B' a with
  | none => rfl
  | some o =>
    rcases b3 a o e with z | z
    · rw [ok.off j a ha] at z; cases z
    · obtain ⟨w, hw, _⟩ := ok.cell ⟨j, ha⟩
      rw [hw] at z; cases z
def loopM (g : D → En → Option En) (b : En → Option Out) : List D → En → Option Out
  | [], e => some (.nx e)
  | d :: ds, e => (g d e).bind fun e1 => (b e1).bind fun o => match o with
    | .nx e2 => loopM g b ds e2
    | .ct e2 => loopM g b ds e2
    | .bk e2 => some (.nx e2)
    | .rt r e2 => some (.rt r e2)
    | .ex r e2 => some (.ex r e2)
def xFor (f : En → Option (List D × En)) (g : D → En → Option En) (b : En → Option Out) : En → Option Out := fun e => (f e).bind fun p => loopM g b p.1 p.2
section
variable {X : Cx} {st : Stmt} {f : En → Option (List D × En)} {g : D → En → Option En} {b : En → Option Out} {c : En → Option (Bool × En)}
theorem xs_for (h : PS X st (tFor (rdI X.K f) (rdG X.K g) (rdS X.K W b))) : PS X st (rdS X.K W (xFor f g b)) := PSi h fun D σ H ⟨s, e1, e2, ok, o, hf, q⟩ => by
  obtain ⟨⟨ds, en1⟩, k1, k2⟩ := Option.bind_eq_some_iff.mp hf
  refine ⟨s, e1, e2, ok, ds, en1, k1, fun t J tσ te okt stt it => ?_⟩
  refine ⟨fun i m σ' H' => m = ds.length - i ∧ i ≤ ds.length ∧ ∃ u : Sta, u.σ = σ' ∧ u.H = H' ∧ EnOk X.K u ∧ Stp s u ∧ Ex t.B u.B ∧ loopM g b (ds.drop i) u.en = some o, ⟨_, rfl, Nat.zero_le _, t, tσ, rfl, okt, stt, Ex.refl _, by rw [te]; exact k2⟩, ?_⟩
  rintro i m σ' H' ⟨rfl, hi, u, rfl, rfl, oku, stu, eu, hl⟩
  have itu := it.grow eu
  by_cases hlt : i < ds.length
  · refine .inr ⟨itu.go i u.H oku.ex hlt, fun σ2 H2 => ∃ u : Sta, u.σ = σ2 ∧ u.H = H2 ∧ EnOk X.K u ∧ Stp s u ∧ Ex t.B u.B ∧ loopM g b (ds.drop (i + 1)) u.en = some o, fun σ2 H2 z => ⟨_, by omega, rfl, hlt, z⟩, fun x H2 y => ?_⟩
    obtain ⟨d, B', hd, ok1, st1, rp, eb⟩ := itu.next oku stu hlt y
    have hdrop : ds.drop i = d :: ds.drop (i + 1) := by
      rw [List.drop_eq_getElem_cons hlt]
      congr 1
      exact (List.getElem?_eq_some_iff.mp hd).2
    rw [hdrop] at hl
    obtain ⟨en2, l1, l2⟩ := Option.bind_eq_some_iff.mp hl
    obtain ⟨o1, l3, l4⟩ := Option.bind_eq_some_iff.mp l2
    refine ⟨⟨B', H2, u.σ, u.en, u.fp⟩, d, rfl, rfl, ok1, rp, en2, l1, fun w we okw stw => ⟨w, rfl, rfl, okw, o1, by rw [we]; exact l3, ?_⟩⟩
    have ebw : Ex t.B w.B := (eu.trans eb).trans stw.bb
    cases o1 with
    | nx e3 => exact fun z ze okz stz => ⟨z, rfl, rfl, okz, (st1.trans stw).trans stz, ebw.trans stz.bb, by rw [ze]; exact l4⟩
    | ct e3 => exact fun z ze okz stz => ⟨z, rfl, rfl, okz, (st1.trans stw).trans stz, ebw.trans stz.bb, by rw [ze]; exact l4⟩
    | bk e3 => cases l4; exact q.from (st1.trans stw)
    | rt r e3 => cases l4; exact q.from (st1.trans stw)
    | ex r e3 => cases l4; exact q.from (st1.trans stw)
  · have e : i = ds.length := by omega
    subst e
    rw [List.drop_length] at hl
    cases hl
    exact .inl ⟨itu.stop u.H oku.ex, q u rfl oku stu⟩
end
end Ag
namespace Ag
open PySem PySem.Spec PyProof.Rows L2
section
variable (P : Program) (w : World) (K : PySem.W.Frag) (mg : Str → Option Value) (base : Heap)
def Fn (x : Str) (ps : List Str) (CX : CXT) (k : Nat) (sp : Sp) : Prop :=
  ∃ f fd, mg x = some (.ref f) ∧ PySem.W.keepIn K (.ref f) = true ∧ Binds K fd ps [] ∧ FnOk P w K mg base CX k f fd ps sp
def Mt (C : Addr) (m : Str) (ps : List Str) (CX : CXT) (k : Nat) (sp : Sp) : Prop :=
  ∃ f fd, Meth K C m f ∧ Binds K fd ps [] ∧ FnOk P w K mg base CX k f fd ps sp
def Nw (x : Str) (C : Addr) (ps : List Str) (CX : CXT) (k : Nat) (sp : Sp) : Prop :=
  ∃ f fd, mg x = some (.ref C) ∧ Mk K C f ∧ Binds K fd ps [] ∧ FnOk P w K mg base CX k f fd ps sp
end
section
variable {X : Cx} {CX : CXT} {k j : Nat} {C : Addr} {ps : List Str} {sp : Sp} {E : XK} {x m : Str} {p pos apos : Pos} {e o : Expr} {es : List Expr} {ta : TE} {t : TA}
theorem pe_fn (c : Fn X.prog X.w X.K X.mg X.base x ps CX k sp) (hr : Room j X.A) (hx : Passes CX X E) (ha : PA X (e :: es) t) (hk : k ≤ j := by decide) (hg : Gl X x := by rfl)
    (hdb : (x == ("__debug__" : Str)) = false := by decide) (he : starEach (e :: es) X.env = (false, eval e X.env) :: starEach es X.env := by rfl) (hpl : (backTo pos (starEach es X.env)).any (·.1) = false := by rfl) :
    PE X (.Call (.Name x p) (e :: es) [] pos) (tCall sp [] E t) := by
  obtain ⟨f, fd, g, kp, b, F⟩ := c
  exact pe_call F (hr.mono hk) hg g kp b .nil hx ha hdb he hpl
theorem pe_nw (c : Nw X.prog X.w X.K X.mg X.base x C ps CX k sp) (hr : Room j X.A) (hx : Passes CX X E) (ha : PA X (e :: es) t) (hk : k + 1 ≤ j := by decide) (hg : Gl X x := by rfl)
    (hdb : (x == ("__debug__" : Str)) = false := by decide) (he : starEach (e :: es) X.env = (false, eval e X.env) :: starEach es X.env := by rfl) (hpl : (backTo pos (starEach es X.env)).any (·.1) = false := by rfl) :
    PE X (.Call (.Name x p) (e :: es) [] pos) (tMake C sp [] E t) := by
  obtain ⟨f, fd, g, M, b, F⟩ := c
  exact pe_make M F (hr.mono hk) hg g b .nil hx ha hdb he hpl
theorem pe_mt {pl : Sem Bool} (c : Cls X.K C) (M : Mt X.prog X.w X.K X.mg X.base C m ps CX k sp) (hr : Room j X.A) (hx : Passes CX X E) (he : PE X o ta) (ha : PA X (e :: es) t) (hk : k ≤ j := by decide)
    (hst : starEach (e :: es) X.env = (false, eval e X.env) :: starEach es X.env := by rfl) (hpl : (backTo pos (starEach es X.env)).any (·.1) = false := by rfl)
    (ht : eval (.Call (.Attribute o m apos) (e :: es) [] pos) X.env = (do
      let ov ← eval o X.env
      standAt apos.atName
      let (f, first) ← holding [ov] (getMethod ov m pl)
      callWith pos f first (backTo pos (starEach (e :: es) X.env)) (backToKw pos (keywordEach [] X.env))) := by rfl) :
    PE X (.Call (.Attribute o m apos) (e :: es) [] pos) (tMeth C m sp [] E ta t) := by
  obtain ⟨f, fd, g, b, F⟩ := M
  exact pe_meth he c g F (hr.mono hk) b .nil hx ha hst hpl ht
theorem pe_mt0 {pl : Sem Bool} (c : Cls X.K C) (M : Mt X.prog X.w X.K X.mg X.base C m ps CX k sp) (hr : Room j X.A) (hx : Passes CX X E) (he : PE X o ta) (hk : k ≤ j := by decide)
    (ht : eval (.Call (.Attribute o m apos) [] [] pos) X.env = (do
      let ov ← eval o X.env
      standAt apos.atName
      let (f, first) ← holding [ov] (getMethod ov m pl)
      callWith pos f first (backTo pos (starEach [] X.env)) (backToKw pos (keywordEach [] X.env))) := by rfl) :
    PE X (.Call (.Attribute o m apos) [] [] pos) (tMeth C m sp [] E ta tNil) := by
  obtain ⟨f, fd, g, b, F⟩ := M
  exact pe_meth0 he c g F (hr.mono hk) b .nil hx ht
end
section
variable {prog : Program} {w : World} {A : Around} {E : Value → Shared → Prop} {s : Shared} {K : PySem.W.Frag} {x C L f : Addr} {h₀ : Heap} {m : Str → Option Value} {ox : Obj} {od : Option Obj}
open PySem.W PySem.Calls
end
section
variable {prog : Program} {w : World} {A : Around} {E : Value → Shared → Prop} {s : Shared} {K : PySem.W.Frag} {x C L f : Addr} {h₀ : Heap} {m : Str → Option Value} {ox : Obj} {od : Option Obj} {b : Value}
open PySem.W PySem.Calls
end
section
variable {prog : Program} {w : World} {A : Around} {E : Value → Shared → Prop} {s : Shared} {K : PySem.W.Frag} {x C L f : Addr} {h₀ : Heap} {m : Str → Option Value} {ox : Obj} {od : Option Obj} {b tb : Value}
open PySem.W PySem.Calls
end
section
variable {X : Cx} {CX : CXT} {pins : List (Addr × Obj)} {σ : L2.St} {H : Hp} {s : Shared} {C : Addr} {ps : List Str} {n j : Nat} {sp : Sp} {E : XK}
def rOwnC (K : PySem.W.Frag) (C : Addr) (sp : Sp) (E : XK) : R2 := fun x y H Q => ∃ a dx fs t, x = .ref a ∧ H a = some (.ins C dx fs) ∧ TyX K H y t ∧ PySem.W.notFirst K C t = true ∧ sp [x, y] H Q E
theorem op_cmpC {op : CmpOp} (M : Mt X.prog X.w X.K X.mg X.base C (cmpInfo op).2.1 ps CX n sp) (hr : Room j X.A) (hx : Passes CX X E) (hop : ∀ a b, compareOp op a b = richCompare op a b := by intro _ _; rfl) (hk : n ≤ j := by decide) :
    OpR X (compareOp op) (rOwnC X.K C sp E) := by
  intro pins s σ H x y v u Q I rx ry h
  obtain ⟨g, fd, hm, hb, F⟩ := M
  obtain ⟨a, dx, fs, t, rfl, ha, ty, hn, q⟩ := h
  cases (show v = Value.ref a from rx)
  obtain ⟨mA, O, _⟩ := ins_get I.hok ha
  obtain ⟨od, J, _⟩ := O.look
  obtain ⟨m, hF⟩ := I.fr
  obtain ⟨P, Z, hP, _⟩ := kit_of I ry ty
  rw [hop]
  refine PySem.W.cmp_K (op := op) (tb := t) hr.units0 hF I.ok.mod.kin J (Z.ty _ _ I.kIn hP) hn hm.at_ hm.fn ?_
  refine wpAny_mono (run_fn (us := [.ref a, u]) (vs := [.ref a, y]) F (hr.mono hk) hb .nil hx I (.cons rfl (.cons ry .nil)) q) (fun w s' z => ?_) fun _ _ x => x
  obtain ⟨z', H', I', rz, qz⟩ := z
  exact SlX.cmpback rz ⟨z', H', I', rz, qz⟩
end
def Pr (P : Program) (w : World) (K : PySem.W.Frag) (mg : Str → Option Value) (base : Heap) (C : Addr) (f : Str) (ps : List Str) (CX : CXT) (k : Nat) (sp : Sp) : Prop :=
  ∃ p g fd, PropOf K C f p g ∧ Binds K fd ps [] ∧ FnOk P w K mg base CX k g fd ps sp
section
variable {X : Cx} {CX : CXT} {k j : Nat} {C : Addr} {ps : List Str} {sp : Sp} {E : XK} {f : Str} {pos : Pos} {e : Expr} {ta : TE}
theorem pe_pr (c : Cls X.K C) (M : Pr X.prog X.w X.K X.mg X.base C f ps CX k sp) (hr : Room j X.A) (hx : Passes CX X.nox E) (he : PE X e ta) (hk : k + 1 ≤ j := by decide)
    (hab : attributeBase e f X.env (eval e X.env) = eval e X.env := by rfl) : PE X (.Attribute e f pos) (tProp C sp [] E ta) := by
  obtain ⟨p, g, fd, h, b, F⟩ := M
  exact pe_prop he c h F (hr.mono hk) b .nil hx hab
end
theorem pe_ty {X : Cx} {x : Str} {pos : Pos} (T : String) (hg : Gl X x) (hm : X.mg x = none) (hv : bootBuiltins x = some (.type T)) (hn : x ≠ "__name__" := by decide) (hd : (x == ("__debug__" : Str)) = false := by decide) : PE X (.Name x pos) (tC (.ty T)) :=
  pe_bltn hg hm hv rfl hn hd
theorem pe_gi {X : Cx} {x : Str} {pos : Pos} {i : Int} {t : Tok} (hm : X.mg x = some (.int i t)) (hg : Gl X x := by rfl) (hd : (x == ("__debug__" : Str)) = false := by decide) : PE X (.Name x pos) (tC (.int i)) := pe_glob hg hm ⟨t, rfl⟩ hd
theorem pe_gc {X : Cx} {x : Str} {pos : Pos} {C : Addr} (hm : X.mg x = some (.ref C)) (hg : Gl X x := by rfl) (hd : (x == ("__debug__" : Str)) = false := by decide) : PE X (.Name x pos) (tC (.ref C)) := pe_glob hg hm rfl hd
def Kp (p : Addr) (H H' : Hp) : Prop := ∀ b o, b ≠ p → H b = some o → H' b = some o
theorem Kp.refl {p : Addr} {H : Hp} : Kp p H H := fun _ _ _ h => h
theorem Kp.trans {p : Addr} {H H1 H2 : Hp} (a : Kp p H H1) (b : Kp p H1 H2) : Kp p H H2 := fun c o n h => b c o n (a c o n h)
theorem Kp.same {p : Addr} {H H' : Hp} (a : Same H H') : Kp p H H' := fun c o _ h => a c o h
end Ag
namespace Ag
open PySem PySem.Spec PyProof.Rows L2 Evl
def EvP (te : TE) (σ : L2.St) (H : Hp) (φ : V → Hp → Prop) : Prop := ∀ H1, Ex H H1 → ∀ Q : VK, (∀ v H2, Ex H1 H2 → φ v H2 → Q v H2) → te σ H1 Q
section
variable {K : PySem.W.Frag} {σ : L2.St} {H H' : Hp} {ta tb te : TE} {tas : TA} {φ ψ : V → Hp → Prop} {v x y z : V} {r : R2}
theorem EvP.mono (e : Ex H H') (h : EvP te σ H φ) : EvP te σ H' φ := fun H1 a Q q => h H1 (e.trans a) Q q
theorem EvP.imp (h : EvP te σ H φ) (hi : ∀ v H2, Ex H H2 → φ v H2 → ψ v H2) : EvP te σ H ψ := fun H1 e Q q => h H1 e Q fun v H2 e2 p => q v H2 e2 (hi v H2 (e.trans e2) p)
mutual
theorem Dp.ex {K : PySem.W.Frag} {H H' : Hp} (e : Ex H H') : ∀ {v : V} {d : PyData}, Dp K H v d → Dp K H' v d
  | _, _, .non => .non
  | _, _, .bl b => .bl b
  | _, _, .int i => .int i
  | _, _, .str x => .str x
  | _, _, .lst h a => .lst (ex_l e h) (DpAll.ex e a)
  | _, _, .tup h a => .tup (ex_t e h) (DpAll.ex e a)
theorem DpAll.ex {K : PySem.W.Frag} {H H' : Hp} (e : Ex H H') : ∀ {vs : List V} {ds : List PyData}, DpAll K H vs ds → DpAll K H' vs ds
  | _, _, .nil => .nil
  | _, _, .cons a b => .cons (Dp.ex e a) (DpAll.ex e b)
end
theorem DpAll.len {K : PySem.W.Frag} {H : Hp} : ∀ {vs : List V} {ds : List PyData}, DpAll K H vs ds → vs.length = ds.length
  | _, _, .nil => rfl
  | _, _, .cons _ b => congrArg (· + 1) (DpAll.len b)
end
section
variable {σ : L2.St} {H : Hp} {ta tb te : TE} {t : TT} {tu tw u : TS} {D : Ends} {φ ψ : V → Hp → Prop} {b : Bool}
end
end Ag
namespace PySem
namespace ErX
open PySem.W PySem.Calls PyProof.Rows PySem.HandSPX
theorem one_ok (v : Value) : [v].length ≤ sizeLine := by
  have e : (1 : Nat) ≤ 16777216 := by decide
  rw [sizeLine_eq]; exact e
theorem kept {K : Frag} {h h' : Heap} {x : Addr} (X : K.In h) (n : K.lookup x = none) (k : ∀ b o, b ≠ x → h.get? b = some o → h'.get? b = some o) : K.In h' := by
  intro b o z
  refine k b o (fun y => ?_) (X b o z)
  rw [y] at z
  rw [n] at z
  cases z
structure InitEnd (h h' : Heap) (x C dx t1 : Addr) (m : Str → Option Value) : Prop where
  keep : ∀ b o, b ≠ x → h.get? b = some o → h'.get? b = some o
  obj : h'.get? x = some { cls := .ref C, dict := some dx, data := .fields #[.ref t1, .none, .none, .none, .bool false, .none] }
  dbig : h.objs.size ≤ dx
  dne : dx ≠ x
  ns : h'.Ns1 dx m
structure Made (h h' : Heap) (e C d : Addr) (m : Str → Option Value) : Prop where
  keep : ∀ b o, h.get? b = some o → h'.get? b = some o
  new : h.objs.size ≤ e
  obj : ∃ oe vs, h'.get? e = some oe ∧ oe.cls = .ref C ∧ oe.dict = some d ∧ oe.data = .fields vs ∧ vs[1]? = some .none
  dbig : h.objs.size ≤ d
  dne : d ≠ e
  ns : h'.Ns1 d m
section
variable {prog : Program} {w : World} {M : Model} {A : Around} {E : Value → Shared → Prop} {h : Heap} {g : Array GenState} {d : Drawn} {t : Nat} {os : OsState} {s : Shared}
theorem callWith_mw {i : String} {pos : Pos} {u x : Addr} {env : Env} {e : Expr} {rest : List Expr} {Q : Value → Shared → Prop}
    (h : wpAny M A (spliced (backTo pos (starEach (e :: rest) env))) (fun vs s₁ => s₁.heap.get? u = some (kxs_mw i x) ∧ wpAny M A (call (.ref u) vs) Q E s₁) E s)
    (he : starEach (e :: rest) env = (false, eval e env) :: starEach rest env := by rfl) (hp : (backTo pos (starEach rest env)).any (·.1) = false := by rfl) :
    wpAny M A (callWith pos (.ref u) [] (backTo pos (starEach (e :: rest) env)) []) Q E s := by
  rw [he] at h ⊢
  have z : (backTo pos ((false, eval e env) :: starEach rest env)).any (·.1) = false := by
    show (false || (backTo pos (starEach rest env)).any (·.1)) = false
    rw [hp] <;> rfl
  exact kxs_callWith (i := i) (x := x) z (evalArgs_plain h)
variable {nm q : Str} {C N : Addr} {bs bm : List Value} {hdct : Bool} {sn : List Str} {sub : List Value} {ab : Bool} {col : Option Bool} {dd : Option Addr} {k0 k1 k2 k3 k5 : Option Value}
theorem call_mw {u e t0 : Addr} {rest : List Value} {Q : Value → Shared → Prop}
    (hC : h.get? C = some (excClassObj nm q C N bs bm hdct sn sub ab col dd k0 k1 k2 k3 k5 "ValueError.__new__")) (he : h.get? e = some (excO C t0)) (hu : h.get? u = some (kxs_mw "ValueError.__init__" e)) (hz : rest.length ≤ sizeLine)
    (hq : ∀ h' t1, (∀ b o, b ≠ e → h.get? b = some o → h'.get? b = some o) → h'.get? e = some (excO C t1) → Q .none ⟨h', g, d, t, os⟩) :
    wpAny (model prog w) A (call (.ref u) rest) Q E ⟨h, g, d, t, os⟩ := by
  have c : (Value.type "method-wrapper" == Value.type "method" || Value.type "method-wrapper" == Value.type "builtin_function_or_method" || Value.type "method-wrapper" == Value.type "method-wrapper") = true := by decide
  refine wpAny_call (codeAny_of_tree (show wpAny _ A.in1 (callAny (.ref u) ⟨rest, []⟩) _ _ _ from ?_))
  simp only [callAny]
  refine wpAny_bind (wpAny_load hu ?_)
  simp only [kxs_mw, c, if_true]
  refine KFB.if_so (by decide) (wpAny_bind (check_bound_init F.excBase_ValueError.toExcCallFacts hC he rfl (wpAny_bind (wpAny_pure (wpAny_pure ?_)))))
  refine ⟨plainId_quiet F.excBase_ValueError.init.plain _, codeAny_builtin F.excBase_ValueError.initEntry ?_⟩
  exact exc_init_tree (cls := .ref C) (t0 := t0) (dv := none) (c2 := .none) (c3 := .none) (b4 := .bool false) he hz fun h' k e' _ => hq h' _ k e'
end
theorem ev_sup (t : Str) (a b c d e : Pos) (env : Env) (hl : (c.endLine == e.line) = true) : eval (.Call (.Attribute (.Call (.Name "super" a) [] [] b) "__init__" c) [.Constant (.str t) 0 d] [] e) env = (do
      let ov ← attributeBase (.Call (.Name "super" a) [] [] b) "__init__" env (eval (.Call (.Name "super" a) [] [] b) env)
      standAt c.atName
      let (f, first) ← holding [ov] (getMethod ov "__init__" (do return (← importBound (.Call (.Name "super" a) [] [] b) env).getD true))
      callWith e f first (backTo e (starEach [.Constant (.str t) 0 d] env)) []) := by
  have z : ∀ ov, methodCall (.Call (.Name "super" a) [] [] b) "__init__" c e env ov 1 (backTo e (starEach [.Constant (.str t) 0 d] env)) [] = (do
      let (f, first) ← holding [ov] (getMethod ov "__init__" (do return (← importBound (.Call (.Name "super" a) [] [] b) env).getD true))
      callWith e f first (backTo e (starEach [.Constant (.str t) 0 d] env)) []) := by
    intro ov
    have y : methodCallPos true (.Call (.Name "super" a) [] [] b) env c e = pure e := by
      unfold methodCallPos
      rw [hl]
      rfl
    show (do
      let (f, first) ← holding [ov] (getMethod ov "__init__" (do return (← importBound (.Call (.Name "super" a) [] [] b) env).getD true))
      let callPos ← methodCallPos true (.Call (.Name "super" a) [] [] b) env c e
      callWith callPos f first (backTo e (starEach [.Constant (.str t) 0 d] env)) []) = _
    rw [y]
    rfl
  show (do
      let ov ← attributeBase (.Call (.Name "super" a) [] [] b) "__init__" env (eval (.Call (.Name "super" a) [] [] b) env)
      standAt c.atName
      methodCall (.Call (.Name "super" a) [] [] b) "__init__" c e env ov 1 (backTo e (starEach [.Constant (.str t) 0 d] env)) []) = _
  simp only [z]
theorem no_lookup {K : Frag} {h : Heap} {x : Addr} (X : K.In h) (l : h.objs.size ≤ x) : K.lookup x = none := by
  cases e : K.lookup x with
  | none => rfl
  | some o => exact absurd (Nat.lt_of_lt_of_le (Heap.lt_size (X _ _ e)) l) (Nat.lt_irrefl _)
def Mk1 (P : Program) (w : World) (K : Frag) (mg : Str → Option Value) (C : Addr) (f : Str) : Prop :=
  ∀ {A : Around} {R : Result → Shared → Prop} {s : Shared} {mb : Str → Option Value} {v : Value}, K.In s.heap → s.heap.NoLimit → s.heap.Ns mainGlobals mg → s.heap.Ns builtinsNs mb → (∀ x : Str, x ≠ "__name__" → mb x = bootBuiltins x) →
    A.depth + 1 < recursionLimit → (∀ h' tk e d, Made s.heap h' e C d (fun y => if y = f then some v else none) → R (.ok (.ret (.ref e))) { s with heap := h', toks := tk }) →
    codeAny (model P w) A (.call (.ref C) ⟨[v], []⟩) R s
structure Err (P : Program) (w : World) (K : Frag) (mg : Str → Option Value) (NM : Str) (C : Addr) (f : Str) : Prop where
  gC : mg NM = some (.ref C)
  kC : keepIn K (.ref C) = true
  exC : subIn K (.ref C) (.type "BaseException") = some true
  tyC : typeIn K (.ref C) = some (.type "type")
  te : exmOne K (.ref C) (.ref C) = some true
  ga : findIn K (.ref C) "__getattribute__" = some (some (.builtin "BaseException.__getattribute__"))
  gg : findIn K (.ref C) "__getattr__" = some none
  noN : findIn K (.ref C) f = some none
  hdC : hasDictIn K C = true
  make : Mk1 P w K mg C f
end ErX
end PySem
namespace Ag
open PySem PySem.Spec PyProof.Rows L2 PySem.ErX
section
variable {X : Cx} {C : Addr} {NM fl : Str} {a : Expr} {ta : TA} {W : WX} {p pos pos2 : Pos} {k j : Nat}
end
end Ag
namespace PySem
namespace Er_value
open PySem.W PySem.Calls PyProof.Rows PySem.HandSPX PySem.ErX
def iA (p1 p2 : Pos) : Arguments := { posonlyargs := [], args := [{ arg := "self", annotation := none, pos := p1 }, { arg := "value", annotation := none, pos := p2 }], vararg := none, kwonlyargs := [], kw_defaults := [], kwarg := none, defaults := [] }
def iB (t : String) (a b c d e f g i j k : Pos) : List Stmt := [.Expr (.Call (.Attribute (.Call (.Name "super" a) [] [] b) "__init__" c) [.Constant (.str t) 0 d] [] e) f, .Assign [.Attribute (.Name "self" g) "value" i] (.Name "value" j) k]
def iS : Scope := { kind := .function, names := [(PySem.Str.ofString "self", .local), (PySem.Str.ofString "value", .local), (PySem.Str.ofString "__class__", .free), (PySem.Str.ofString "super", .globalImplicit)], isGenerator := false, isCoroutine := false, more := [] }
structure Txt (P : Program) (K : Frag) (mg : Str → Option Value) (NM : Str) (C fI : Addr) : Prop where
  gC : mg NM = some (.ref C)
  cls : ∃ nm q N bs bm sn sub ab col dd k0 k1 k2 k3 k5, K.lookup C = some (excClassObj nm q C N bs bm true sn sub ab col dd k0 k1 k2 k3 k5 "ValueError.__new__") ∧ refsVE bm = true
  sa : findIn K (.ref C) "__setattr__" = some (some (.builtin "object.__setattr__"))
  ga : findIn K (.ref C) "__getattribute__" = some (some (.builtin "BaseException.__getattribute__"))
  gg : findIn K (.ref C) "__getattr__" = some none
  noN : findIn K (.ref C) "value" = some none
  iC : findIn K (.ref C) "__init__" = some (some (.ref fI))
  tC : typeIn K (.ref fI) = some (.type "function")
  kC : keepIn K (.ref C) = true
  exC : subIn K (.ref C) (.type "BaseException") = some true
  tyC : typeIn K (.ref C) = some (.type "type")
  hdC : hasDictIn K C = true
  te : exmOne K (.ref C) (.ref C) = some true
  sup : ks_superIn K C C "__init__" = some (some (.builtin "ValueError.__init__"))
  subV : subIn K (.ref C) (.type "ValueError") = some true
  subC : mroIn K C (.ref C) = some true
  op : nsIn K cStatics "thirdparty.any" = some none
  gs : mg "super" = none
  top : (P.main.scope.names.lookup ("super" : Str)).isSome = false
  fn : ∃ (QN : Str) (oc : Value) (od : Option Addr) (doc pm : Value) (an : Option Addr) (cda : Addr) (ct : Value) (osl : Array (Option Value)) (cc : Addr) (t : String) (p1 p2 a b c d e f g i j k : Pos)
    (ccl : Value) (cdd : Option Addr) (vs : Array Value) (ccs : Array (Option Value)) (file : Str) (tf : Tok) (cl : Value) (cld : Option Addr) (csl : Array (Option Value)),
    K.lookup fI = some ⟨oc, od, .func (ksFn "__init__" QN (iA p1 p2) (iB t a b c d e f g i j k) iS .none .none doc pm an (.ref cda) ct cc), osl⟩ ∧ codeIn K (.ref cda) QN = true ∧
    K.lookup cda = some ⟨ccl, cdd, .fields vs, ccs⟩ ∧ vs[2]? = some (.str file tf) ∧ ((P.main.file : Str) == file) = true ∧ K.lookup cc = some ⟨cl, cld, .cell (some (.ref C)), csl⟩ ∧ (c.endLine == e.line) = true
section
variable {prog : Program} {w : World} {A : Around} {E : Value → Shared → Prop} {R : Result → Shared → Prop} {s : Shared} {K : Frag} {mg mb : Str → Option Value} {NM : Str} {C fI : Addr}
theorem init (T : Txt prog K mg NM C fI) {x t0 : Addr} {v : Value} (X : K.In s.heap) (hlim : s.heap.NoLimit) (hG : s.heap.Ns mainGlobals mg) (hB : s.heap.Ns builtinsNs mb) (hb : ∀ x : Str, x ≠ "__name__" → mb x = bootBuiltins x)
    (hx : s.heap.get? x = some (excO C t0)) (hnx : K.lookup x = none) (hroom : A.depth < recursionLimit)
    (hq : ∀ h' tk dx t1, InitEnd s.heap h' x C dx t1 (fun y => if y = "value" then some v else none) → R (.ok (.ret .none)) { s with heap := h', toks := tk }) :
    codeAny (model prog w) A (.call (.ref fI) ⟨[.ref x, v], []⟩) R s := by
  obtain ⟨QN, oc, od, doc, pm, an, cda, ct, osl, cc, t, p1, p2, a, b, c, d, e, f, g, i, j, k, ccl, cdd, vs, ccs, file, tf, cl, cld, csl, ho, hcd, hco, hvs, hfile, hcell, hl⟩ := T.fn
  obtain ⟨nm, q, N, bs, bm, sn, sub, ab, col, dd, k0, k1, k2, k3, k5, hC, hbm⟩ := T.cls
  have hcl : clsIn K C = some { name := nm, bases := bs, mro := .ref C :: bm, ns := N, qualname := q, hasDict := true, slotNames := sn, subclasses := sub, abstract := ab, collection := col, hasDel := false } := by unfold clsIn; rw [hC] <;> rfl
  have hxL : s.heap.objs.size ≠ x := Nat.ne_of_gt (Heap.lt_size hx)
  refine ks_codeAny_call_defAt (fd := ksFn "__init__" QN (iA p1 p2) (iB t a b c d e f g i j k) iS .none .none doc pm an (.ref cda) ct cc) (body := iB t a b c d e f g i j k) (binds := [("self", .ref x), ("value", v)])
    hroom (X _ _ ho) rfl hlim (codeRec_of X hcd) rfl (BindsTo.of_eq (by first | rfl | with_unfolding_all rfl)) (show ∀ x ∈ iS.names, x.2 ≠ .cell from by decide) (locs rfl) (fun h₁ hn k₁ => ?_) rfl rfl rfl
  have X₁ : K.In h₁ := X.keeps k₁
  have hx₁ := k₁ _ _ hx
  have I₁ : InstAt h₁ x (excO C t0) C none := ⟨hx₁, rfl, rfl, trivial⟩
  obtain ⟨hs, gs, ds, ts, oss⟩ := s
  dsimp only at *
  obtain ⟨oD, hD1, hD2⟩ : ∃ oD, h₁.get? C = some oD ∧ oD.data = .cls { name := nm, bases := bs, mro := .ref C :: bm, ns := N, qualname := q, hasDict := true, slotNames := sn, subclasses := sub, abstract := ab, collection := col, hasDel := false } := ⟨_, X₁ _ _ hC, rfl⟩
  show _root_.PySem.wpAt (model prog w) _ (.func (iB t a b c d e f g i j k) (ksEnv QN iS hs.objs.size fI (.ref cda) cc)) (execs (iB t a b c d e f g i j k) (ksEnv QN iS hs.objs.size fI (.ref cda) cc)) _ _ _
  refine ks_wpAt_execs_cons (ks_wpAt_Expr_any (ks_wpAt_MethodCall (ks_wpAt_super_base (env := ksEnv QN iS hs.objs.size fI (.ref cda) cc) rfl rfl (by decide) rfl (X₁ _ _ ho) rfl rfl rfl (X₁ _ _ hco) rfl hvs hfile T.top ?_) (ev_sup _ _ _ _ _ _ _ hl)))
  refine ks_loadName_global rfl rfl (loadGlobal_builtin (env := ksEnv QN iS hs.objs.size fI (.ref cda) cc) (hG.keeps k₁) T.gs (hB.keeps k₁) ((hb _ (by decide +kernel)).trans PyProof.Rows.Boot.super) ⟨rfl, ?_⟩)
  refine wpAny_loadName_free rfl rfl rfl ⟨_, X₁ _ _ hcell, rfl⟩ ?_
  refine wpAny_loadName_local (v := .ref x) rfl rfl hn rfl ?_
  refine ks_wpAny_isType_cls hD1 hD2 ⟨rfl, ?_⟩
  refine ks_wpAny_call_super hD1 hD2 I₁.at_ I₁.cls (fun c e => ?_) (looks_mroIn X₁ T.subC) (fun h₂ e₂ k₂ => ?_)
  · cases e
  have X₂ : K.In h₂ := X₁.keeps k₂
  have hx₂ := k₂ _ _ hx₁
  have I₂ : InstAt h₂ x (excO C t0) C none := ⟨hx₂, rfl, rfl, trivial⟩
  have hm := T.sup
  unfold ks_superIn at hm
  rw [hcl] at hm
  refine kxs_getMethod kxs_ValueError e₂ (looks_opaque X₂ T.op) (l₀ := .ref C :: bm) (fun A Q E s k q => wpAny_bind ((looks_clsIn X₂ hcl) A _ E s k (wpAny_pure q))) rfl X₂ hm (I₂.type.andThen (looks_subIn X₂ T.subV)) (ks_ne X₂ I₂ hcl) (by decide) ?_
  have hu : (h₂.push (kxs_mw "ValueError.__init__" x)).get? h₂.objs.size = some (kxs_mw "ValueError.__init__" x) := Heap.get?_push_at rfl rfl
  have k₃ : ∀ b o, h₂.get? b = some o → (h₂.push (kxs_mw "ValueError.__init__" x)).get? b = some o := fun b o z => Heap.get?_push_of_some _ z
  refine callWith_mw (i := "ValueError.__init__") (x := x) ?_
  refine Calls.spliced_cons ?_
  refine Calls.Constant_str (k := 0) (pos := d) ?_
  refine Calls.spliced_nil ?_
  refine ⟨hu, ?_⟩
  refine call_mw (k₃ _ _ (X₂ _ _ hC)) (k₃ _ _ hx₂) hu (by rw [sizeLine_eq]; exact (by decide : 1 ≤ 16777216)) fun h₄ t1 k₄ hx₄ => ?_
  have K4 : ∀ b o, b ≠ x → h₁.get? b = some o → h₄.get? b = some o := fun b o hb z => k₄ b o hb (k₃ b o (k₂ b o z))
  have X₄ : K.In h₄ := ErX.kept X₁ hnx K4
  show _root_.PySem.wpAt _ _ _ (execs _ _) _ _ _
  refine wpAt_of_wpAny (wpAny_execs_cons (plainObj_wpAny_Assign_Attribute ?_))
  have hn₄ : h₄.Ns hs.objs.size (fun y => List.lookup y (List.reverse [(("self" : Str), Value.ref x), ("value", v)])) := hn.at fun o z => K4 _ o hxL z
  refine wpAny_Name (wpAny_loadName_local (v := v) rfl rfl hn₄ rfl ?_) (by decide)
  refine wpAny_Name (wpAny_loadName_local (v := .ref x) rfl rfl hn₄ rfl ?_) (by decide)
  refine set_plain X₄ (ox := excO C t1) (od := none) ⟨hx₄, rfl, rfl, trivial⟩ T.sa ?_
  refine exc_osa X₄ hx₄ hcl (show refsVE (.ref C :: bm) = true from hbm) rfl T.noN (fun h₅ tk dx k₅ dn dne hx₅ hn₅ => ?_)
  have z : hs.objs.size < h₄.objs.size := hn₄.lt
  exact wpAny_execs_nil (hq h₅ tk dx t1 ⟨fun b o hb e => k₅ b o hb (K4 b o hb (k₁ b o e)), hx₅, Nat.le_of_lt (Nat.lt_of_lt_of_le z dn), dne, hn₅⟩)
theorem made (T : Txt prog K mg NM C fI) : Mk1 prog w K mg C "value" := by
  intro A R s mb v X hlim hG hB hb hroom hq
  obtain ⟨nm, q, N, bs, bm, sn, sub, ab, col, dd, k0, k1, k2, k3, k5, hC, hbm⟩ := T.cls
  obtain ⟨hp, g, dr, tk, os⟩ := s
  have k : ∀ b o, hp.get? b = some o → ((hp.push (kdv_tup [v])).push (excO C hp.objs.size)).get? b = some o := fun b o e => Heap.get?_push_of_some _ (Heap.get?_push_of_some _ e)
  have hget : ((hp.push (kdv_tup [v])).push (excO C hp.objs.size)).get? (hp.objs.size + 1) = some (excO C hp.objs.size) := by heap_get
  have hnx : K.lookup (hp.objs.size + 1) = none := ErX.no_lookup X (Nat.le_succ _)
  refine call_own F.excBase_ValueError (fun X => refsVE_contains X bm hbm) (X _ _ hC) (looks_findIn X T.iC) (fun self => bind_fn X self T.tC) (one_ok v) ?_
  refine init (s := ⟨(hp.push (kdv_tup [v])).push (excO C hp.objs.size), g, dr, tk, os⟩) T (X.keeps k) (hlim.keeps k) (hG.keeps k) (hB.keeps k) hb hget hnx hroom fun h' tk' dx t1 ⟨k', hx, dn, dne, hns⟩ => ?_
  have old : ∀ b o, hp.get? b = some o → h'.get? b = some o := fun b o e => k' b o (Nat.ne_of_lt (Nat.lt_succ_of_lt (Heap.lt_size e))) (k b o e)
  have z : hp.objs.size + 1 + 1 ≤ dx := by
    have q := dn
    simp only [Heap.size_push] at q
    exact q
  exact ⟨rfl, hq h' tk' (hp.objs.size + 1) dx ⟨old, Nat.le_succ _, ⟨_, _, hx, rfl, rfl, rfl, rfl⟩, Nat.le_trans (Nat.le_trans (Nat.le_succ _) (Nat.le_succ _)) z, dne, hns⟩⟩
theorem err (T : Txt prog K mg NM C fI) : Err prog w K mg NM C "value" := ⟨T.gC, T.kC, T.exC, T.tyC, T.te, T.ga, T.gg, T.noN, T.hdC, made T⟩
end
end Er_value
end PySem
namespace Ag
open PySem PySem.Spec PyProof.Rows L2
structure FnG (P : Program) (w : World) (K : PySem.W.Frag) (mg : Str → Option Value) (base : Heap) (CX : CXT) (k : Nat) (f : Addr) (fd : FuncData) (ps : List Str) (sp : Sp) : Prop where
  len : ∀ vs H Q E, sp vs H Q E → vs.length = ps.length
  go : ∀ {A : Around} {outer : List Env} {s : Shared} {H : Hp} {args : Args} {us : List Value} {vs : List V} {Q : VK} {E : XK}, A.guards = some [] → Room k A → Env0 P w K mg base A outer s H → BindsTo s fd args (ps.zip us) → Vals vs us → sp vs H Q E →
    codeAny (model P w) A (.call (.ref f) args) (CR CX outer P w H s Q E) s
section
variable {CX : CXT} {P : Program} {w : World} {K : PySem.W.Frag} {mg : Str → Option Value} {base : Heap} {k : Nat} {f : Addr} {N ps : List Str} {sp : Sp} {fd : FuncData}
theorem FnG.of (F : FnOk P w K mg base CX k f fd ps sp) : FnG P w K mg base CX k f fd ps sp := ⟨F.len, fun _ hr e0 hb r h => F.run _ _ _ _ _ _ _ _ _ hr e0 hb r h⟩
theorem fnG_mk {name qual : Str} {params : Arguments} {body : List Stmt} {scope : Scope} {dV kV doc pm cdv ct oc : Value} {an od : Option Addr} {osl : Array (Option Value)}
    (lk : K.lookup f = some ⟨oc, od, .func (PySem.W.fnOf name qual params body scope dV kV doc pm an cdv ct), osl⟩) (hcd : PySem.W.codeIn K cdv qual = true) (S : FnScope N ps scope) (len : ∀ vs H Q E, sp vs H Q E → vs.length = ps.length)
    (hbody : ∀ (A : Around) (outer : List Env) (s : Shared) (H : Hp) (vs : List V) (Q : VK) (E : XK), A.guards = some [] → Room k (A.deeper (envOfC qual scope s.heap.objs.size f cdv)) → sp vs H Q E →
      ∃ t, PSs (cxOf CX P w K mg base N qual scope f cdv A outer s H E) body t ∧ t { nx := fun _ H' => Q .non H', rt := Q } (start N vs) H) :
    FnG P w K mg base CX (k + 1) f (PySem.W.fnOf name qual params body scope dV kV doc pm an cdv ct) ps sp where
  len := len
  go := by
    intro A outer s H args us vs Q E hg hr e0 hb r hsp
    have up := fun b o (e : base.get? b = some o) => (e0.bs b o e).1
    have KX := e0.mod.kin.keeps up
    have par : ∀ y ∈ ps.zip us, scope.names.lookup y.1 = some .local ∨ (scope.names.lookup y.1 = some .cell ∧ ((cellsFrom (s.heap.objs.size + 1) scope.names []).lookup y.1).isSome = true) := by
      rintro ⟨n, v⟩ hy
      exact (S.par n (List.of_mem_zip hy).1).imp id fun q => ⟨q, PySem.W.cellsFrom_some _ _ _ (.inl q)⟩
    refine codeAny_call_function hr.depth (KX _ _ lk) rfl S.co S.gen rfl (PySem.W.codeRec_of KX hcd) (hb _ _ _ _ (wpAny_newFunctionEnv_cells S.kind par fun env he s1 x => ?_))
    cases he
    obtain ⟨t, ht, hq⟩ := hbody A outer s H vs Q E hg (hr.deeper _) hsp
    have I := inv_start (CX := CX) (E := E) S hr.hd e0 (len _ _ _ _ hsp) r x
    refine ⟨(e0.mod.nolimit.keeps up).keeps x.toInCall.keep, codeAny_func (wpAny_mono (ht.run [] s1 _ H _ I hq) (fun fl s' hs => ?_) fun _ _ hs => hs)⟩
    cases fl with
    | next =>
      obtain ⟨σ', H', J, q⟩ := hs
      exact ⟨.non, H', J.os, J.bare, J.base, J.hok, rfl, q⟩
    | ret u =>
      obtain ⟨v, σ', H', J, rv, q⟩ := hs
      exact ⟨v, H', J.os, J.bare, J.base, J.hok, rv, q⟩
    | brk => exact hs.elim fun _ z => z.elim fun _ z => z.2.elim
    | cont => exact hs.elim fun _ z => z.elim fun _ z => z.2.elim
end
def FG (P : Program) (w : World) (K : PySem.W.Frag) (mg : Str → Option Value) (base : Heap) (x : Str) (ps : List Str) (CX : CXT) (k : Nat) (sp : Sp) : Prop :=
  ∃ f fd, mg x = some (.ref f) ∧ PySem.W.keepIn K (.ref f) = true ∧ Binds K fd ps [] ∧ FnG P w K mg base CX k f fd ps sp
section
variable {X : Cx} {CX : CXT} {k j : Nat} {ps : List Str} {sp : Sp} {E : XK} {x : Str} {p pos : Pos} {e : Expr} {es : List Expr} {t : TA}
theorem pe_fg (hc : FG X.prog X.w X.K X.mg X.base x ps CX k sp) (hG : X.A.guards = some []) (hr : Room j X.A) (hx : Passes CX X E) (ha : PA X (e :: es) t) (hg : Gl X x := by rfl) (hk : k ≤ j := by decide) (hdb : (x == ("__debug__" : Str)) = false := by decide)
    (he : starEach (e :: es) X.env = (false, eval e X.env) :: starEach es X.env := by rfl) (hpl : (backTo pos (starEach es X.env)).any (·.1) = false := by rfl) : PE X (.Call (.Name x p) (e :: es) [] pos) (tCall sp [] E t) := by
  obtain ⟨f, fd, hm, kf, hb, F⟩ := hc
  refine ⟨fun pins s σ H Q I h => ?_⟩
  refine wpAny_Call_Name_kw (ld_glob I hg hm ?_ hdb)
  refine PySem.W.callWith_K (h₀ := X.base) I.ok.mod.kin kf (thn (ha.run pos pins s σ H _ I h) fun us s1 ⟨vs, H1, I1, r1, q1⟩ => ⟨I1.kIn, ?_⟩) he hpl
  have r2 : Vals (vs ++ []) (us ++ []) := r1.append .nil
  have hl : (us ++ []).length = ps.length := r2.length.symm.trans (F.len _ _ _ _ q1)
  refine wpAny_call (codeAny_mono (F.go hG (hr.mono hk) I1.env0 (hb s1 us I1.kIn hl) r2 q1) fun r s' hq => ?_)
  cases r with
  | error e => exact hx pins σ H1 s1 e s' I1 hq
  | ok fl => cases fl with
    | ret u => exact I1.after hq
    | next => exact False.elim hq
    | brk => exact False.elim hq
    | cont => exact False.elim hq
end
section
variable {P : Program} {w : World} {K : PySem.W.Frag} {mg mb : Str → Option Value} {CX : CXT} {k : Nat} {fa a : Addr} {fd : FuncData} {x : Str} {sp : Sp} {s₁ : Shared} {vs : List Value} {ns : List Int}
end
inductive Sc : V → PyData → Prop
  | non : Sc .non .none
  | bl (b : Bool) : Sc (.bl b) (.bool b)
  | int (i : Int) : Sc (.int i) (.int i)
  | str (x : Str) : Sc (.str x) (.str x)
def keyD : Key → PyData
  | .inl i => .int i
  | .inr x => .str x
inductive ScKv : List (Key × V) → List (PyData × PyData) → Prop
  | nil : ScKv [] []
  | cons {k : Key} {v : V} {d : PyData} {kvs : List (Key × V)} {ds : List (PyData × PyData)} : Sc v d → ScKv kvs ds → ScKv ((k, v) :: kvs) ((keyD k, d) :: ds)
inductive DR (K : PySem.W.Frag) (H : Hp) : V → PyData → Prop
  | dp {v : V} {d : PyData} : Dp K H v d → DR K H v d
  | dic {a : Addr} {kvs : List (Key × V)} {ds : List (PyData × PyData)} : H a = some (.dK kvs) → ScKv kvs ds → DR K H (.ref a) (.dict ds)
mutual
theorem Dp.nodict {K : PySem.W.Frag} {H : Hp} : ∀ {v : V} {d : PyData}, Dp K H v d → d.hasDict = false
  | _, _, .non => rfl
  | _, _, .bl b => rfl
  | _, _, .int i => rfl
  | _, _, .str x => rfl
  | _, _, .lst h a => by simp only [PyData.hasDict]; exact DpAll.nodict a
  | _, _, .tup h a => by simp only [PyData.hasDict]; exact DpAll.nodict a
theorem DpAll.nodict {K : PySem.W.Frag} {H : Hp} : ∀ {vs : List V} {ds : List PyData}, DpAll K H vs ds → PyData.hasDictAll ds = false
  | _, _, .nil => rfl
  | _, _, .cons a b => by simp only [PyData.hasDictAll, Dp.nodict a, DpAll.nodict b, Bool.or_false]
end
theorem sc_reads {h : Heap} {v : V} {d : PyData} {u : Value} (s : Sc v d) (r : RelV v u) : Reads h u d [] := by
  cases s with
  | non => obtain rfl : u = .none := r; exact .none
  | bl b => obtain rfl : u = .bool b := r; exact .bool b
  | int i => obtain ⟨t, rfl⟩ := r; exact .int i t
  | str x => obtain ⟨t, rfl⟩ := r; exact .str x t
theorem key_reads {h : Heap} {k : Key} {u : Value} (e : keyIs k u = true) : Reads h u (keyD k) [] := by
  rcases keyIs_shape e with ⟨i, t, rfl, rfl⟩ | ⟨x, t, rfl, rfl⟩
  · exact .int i t
  · exact .str x t
theorem kv_reads {P : Program} {w : World} {h : Heap} : ∀ {kvs : List (Key × V)} {ds : List (PyData × PyData)} {vs : List (Key × Value)} {es : List DictEntry}, ScKv kvs ds → KV kvs vs → Pairs (mixKind P w) es vs →
    ReadsAll h (es.map (·.key)) (ds.map (·.1)) [] ∧ ReadsAll h (es.map (·.val)) (ds.map (·.2)) []
  | [], [], _, _, .nil, .nil, .nil => ⟨.nil, .nil⟩
  | (k, v) :: kvs, _ :: ds, _ :: vs, e :: es, .cons s ss, .cons r rs, .cons p1 p2 ps => by
    obtain ⟨a, b⟩ := kv_reads (h := h) ss rs ps
    have k1 : Reads h e.key (keyD k) [] := key_reads (by rw [show k = _ from r.1]; exact p1)
    have k2 : Reads h e.val _ [] := sc_reads s (by rw [p2]; exact r.2)
    exact ⟨ReadsAll.cons k1 a, ReadsAll.cons k2 b⟩
section
variable {X : Cx}
theorem DR.reads {pins : List (Addr × Obj)} {σ : L2.St} {H : Hp} {s : Shared} (I : Inv X pins σ H s) {v : V} {d : PyData} {u : Value} (h : DR X.K H v d) (r : RelV v u) : ∃ as, Reads s.heap u d as ∧ (d.hasDict = true → sysModules ∉ as) := by
  cases h with
  | dp h =>
    obtain ⟨as, q⟩ := Dp.reads I d v u h r
    exact ⟨as, q, fun z => by rw [Dp.nodict h] at z; cases z⟩
  | @dic a kvs ds e sc =>
    obtain rfl : u = .ref a := r
    obtain ⟨_, hs, vs, kv, o, es, ep, ho, hx, hd, _, ps, _⟩ := dk_of I.hok e
    obtain ⟨a1, a2⟩ := kv_reads (h := s.heap) sc kv ps
    refine ⟨_, .dict ho hx.1 hd a1 a2, fun _ z => ?_⟩
    have z' : sysModules = a := by simpa using z
    rw [← z'] at hs
    simp at hs
end
end Ag
namespace Ag
open PySem PySem.W PySem.Spec PySem.Calls PyProof.Rows
section
variable {prog : Program} {w : World} {A : Around} {E : Value → Shared → Prop} {s : Shared} {K : Frag} {x D : Addr} {ox : Obj} {od : Option Obj}
theorem find_data {name : Str} {a g : Value} (hc : (clsIn K D).isSome = true) (ha : findIn K (.ref D) name = some (some a)) (hg : specialIn K a "__get__" = some (some g)) (ht : takesIn K a = some true) : findObj K D od name = some (.bind g a) := by
  cases c : clsIn K D with
  | none => rw [c] at hc; cases hc
  | some cd => simp only [findObj, c, Option.bind_some, ha, hg, ht] <;> rfl
theorem class_of {Q : Option Value → Shared → Prop} (C : L2.ExcC K D) (X : K.In s.heap) (I : InstAt s.heap x ox D od) (q : Q (some (.ref D)) { s with toks := s.toks + 1 }) : wpAny (model prog w) A (getAttr? (.ref x) "__class__") Q E s := by
  have hc : (clsIn K D).isSome = true := by obtain ⟨cd, e, _⟩ := any_some C.hd; rw [e] <;> rfl
  obtain ⟨hp, g, d, t, os⟩ := s
  have l0 := I.type (M := model prog w)
  have lf := looks_find (M := model prog w) X I (find_data (od := od) hc C.ha C.hn C.ht)
  have no : (Value.builtin "BaseException.__getattribute__" == Value.builtin "object.__getattribute__") = false := by decide +kernel
  unfold getAttr? getAttrBy? getAttrBy
  refine wpAny_bind (wpAny_mkText (wpAny_bind (wpAny_attempt (wpAny_holding (wpAny_bind (l0.at (wpAny_bind ((looks_findIn (M := model prog w) X C.hg).at ?_))))))))
  show wpAny _ _ (if (onTheHeap (Value.ref D) && (Value.builtin "BaseException.__getattribute__" == Value.builtin "object.__getattribute__")) = true then _ else _) _ _ _
  rw [no, Bool.and_false, if_neg Bool.false_ne_true]
  unfold getAttrByItsOwn hookBefore
  refine wpAny_bind ?_
  have hh : onTheHeap (Value.ref D) = true := rfl
  rw [if_pos hh]
  refine (looks_findIn (M := model prog w) X C.hk).at (wpAny_bind (wpAny_attempt (wpAny_holding ?_)))
  unfold callGetattribute
  have hi : ¬ (false && onTheHeap (Value.builtin "BaseException.__getattribute__")) = true := Bool.false_ne_true
  rw [if_neg hi]
  unfold boundAndCalled
  rw [PySem.F.excAttr_ValueError.ga.bind (.ref x)]
  refine wpAny_bind (wpAny_pure (show wpAny _ _ (call (.builtin "BaseException.__getattribute__") [.ref x, .str "__class__" t]) _ _ _ from wpAny_call (codeAny_call_builtin PySem.F.excAttr_ValueError.ga.plain PySem.F.entry_bexc_ga ?_)))
  refine @check_slot (model prog w) _ _ ⟨hp, g, d, t + 1, os⟩ "BaseException.__getattribute__" "BaseException" "__getattribute__" (.ref x) [.str "__class__" t] [] _ (by decide +kernel) (by decide +kernel) (l0.andThen (looks_subIn X C.hs)) (PySem.F.args_bexc_ga (.ref x) (.str "__class__" t)) ?_
  unfold Builtin.«object.__getattribute__»
  refine wpAny_bind (wpAny_of_eq (a := ((Value.ref x : Value), [Value.str "__class__" t])) (by first | rfl | (simp only [slotArgs]; rfl)) (wpAny_bind (wpAny_pure (wpAny_bind (l0.at (wpAny_bind (lf.at ?_)))))))
  show wpAny _ _ (holding [Value.builtin "object.__class__"] (call (.builtin "getset_descriptor.__get__") [.builtin "object.__class__", .ref x, .ref D]) >>= ret) _ _ _
  refine wpAny_bind (wpAny_holding (wpAny_call (class_get (s := ⟨hp, g, d, t + 1, os⟩) (ox := ox) (od := od) X I C.hm (wpAny_pure ?_))))
  show wpAny _ _ (handedOut (.ref D)) _ _ _
  rw [handedOut_of (v := .ref D) rfl]
  exact wpAny_pure (wpAny_pure q)
theorem kitx_err (C : L2.ExcC K D) : KitX K (.ref x) (.ref D) (fun h => ∃ od, InstAt h x ox D od) := by
  obtain ⟨cd, hc, _⟩ := any_some C.hd
  have at_ : ∃ o : Obj, K.lookup D = some o ∧ o.data = .cls cd := by
    unfold clsIn at hc
    split at hc
    · rename_i c d cd' sl ho
      cases hc
      exact ⟨_, ho, rfl⟩
    · cases hc
  obtain ⟨o, ho, hd⟩ := at_
  refine ⟨fun _ _ _ ⟨_, I⟩ => I.type, fun M h X _ A Q E s k q => ?_, fun h tp dd its n sl X htp => ?_, fun X ⟨_, I⟩ k => class_of C X I k⟩
  · unfold isType loadHead
    refine wpAny_bind (wpAny_loadPart (k _ _ (X _ _ ho)) ?_)
    rw [hd]
    exact wpAny_pure q
  · refine Bool.eq_false_iff.mpr fun q => ?_
    have e : D = tp := Value.ref.inj (beq_iff_eq.mp q)
    subst e
    have z := Option.some.inj ((X _ _ ho).symm.trans htp)
    rw [z] at hd
    cases hd
end
open L2
theorem call_isX {X : Cx} {a D : Addr} {oe : Obj} {cls : Value} {d : Option Addr} {pn : List (Addr × Obj)} (C : ExcC X.K D) (hz : Zc cls d oe) (hf : ∃ vs, oe.data = .fields vs) : CallR (X.suite a ((a, oe) :: pn)) (.builtin "isinstance")
    (fun xs H Q => cls = .ref D ∧ (∃ dd u, d = some dd ∧ H dd = some (.xd u)) ∧ rIsE X.K D a xs H Q) := by
  rintro pins s σ H xs us Q I r ⟨rfl, ⟨dd, fs, rfl, hdd⟩, c, cv, b, rfl, hcv, e, q⟩
  cases r with
  | cons rx rr => cases rr with
    | cons rt rr =>
      cases rr
      cases rx
      cases hcv _ rt
      have hget := (I.pin (a, oe) (List.mem_append.mpr (.inl List.mem_cons_self))).1
      obtain ⟨vs, hv⟩ := hf
      have hx : ObjOk X.prog X.w H s.heap dd (.xd fs) := I.hok dd _ hdd
      obtain ⟨mA, hns, _⟩ := hx
      obtain ⟨o2, ho2, _⟩ := lookIn_ns hns
      have J : InstAt s.heap a oe D (some o2) := ⟨hget, hz.1, by unfold notCls; rw [hv] <;> rfl, by rw [hz.2]; exact ho2⟩
      exact kia_one (kitx_err C) I.kIn ⟨_, J⟩ e (fun z => nomatch z) fun tk => ⟨.bl b, H, I.kept (t' := tk) fun _ _ z => z, rfl, q⟩
end Ag
namespace Ag
open PySem PySem.Spec PyProof.Rows L2 Evl
section
variable {K : PySem.W.Frag} {σ : L2.St} {H H' : Hp} {ta tb te : TE} {v : V} {d : PyData}
theorem DR.ex (e : Ex H H') (h : DR K H v d) : DR K H' v d := by
  cases h with
  | dp h => exact .dp (Dp.ex e h)
  | dic h s => exact .dic (e _ _ h) s
end
def EvK (te : TE) (σ : L2.St) (H : Hp) (kvs : List (Key × V)) : Prop := ∀ H1, Ex H H1 → ∀ Q : VK, (∀ p H2, H1 p = none → Ex H1 H2 → H2 p = some (.dK kvs) → Q (.ref p) H2) → te σ H1 Q
inductive EvPr : List (TE × TE) → L2.St → Hp → List (Key × V) → Prop
  | nil {σ : L2.St} {H : Hp} : EvPr [] σ H []
  | cons {σ : L2.St} {H : Hp} {tk tv : TE} {k : Key} {v : V} {trs : List (TE × TE)} {kvs : List (Key × V)} : Ev tk σ H (kV k) → Ev tv σ H v → EvPr trs σ H kvs → EvPr ((tk, tv) :: trs) σ H ((k, v) :: kvs)
section
variable {σ : L2.St} {H : Hp} {te ta tb : TE} {trs : List (TE × TE)} {kvs : List (Key × V)} {t : TT} {D : Ends}
theorem EvK.mono {H' : Hp} (e : Ex H H') (h : EvK te σ H kvs) : EvK te σ H' kvs := fun H1 a Q q => h H1 (e.trans a) Q q
theorem EvPr.run (h : EvPr trs σ H kvs) : ∀ H1, Ex H H1 → ∀ Q : List (V × V) → Hp → Prop, (∀ H2, Ex H1 H2 → Q (kvs.map fun kv => (kV kv.1, kv.2)) H2) → tPairs trs σ H1 Q := by
  induction h with
  | nil => exact fun H1 _ Q q => q H1 (Ex.refl H1)
  | cons hk hv _ ih => exact fun H1 e Q q => hk H1 e _ fun H2 e2 => hv H2 (e.trans e2) _ fun H3 e3 => ih H3 ((e.trans e2).trans e3) _ fun H4 e4 => q H4 ((e2.trans e3).trans e4)
end
section
variable {X : Cx} {CX : CXT} {k j : Nat} {ps : List Str} {sp : Sp} {E : L2.St → XK} {x : Str} {p pos : Pos} {e : Expr} {es : List Expr} {t : TA}
end
def Nn (Hs H : Hp) : Hp := fun b => if Hs b = none then H b else none
section
variable {Hs H H' H1 H2 : Hp} {p : Addr} {o : HO}
theorem nn_at (n : Hs p = none) (h : H p = some o) : Nn Hs H p = some o := by
  unfold Nn
  rw [if_pos n]
  exact h
theorem nn_of (h : Nn Hs H p = some o) : Hs p = none ∧ H p = some o := by
  unfold Nn at h
  by_cases n : Hs p = none
  · rw [if_pos n] at h; exact ⟨n, h⟩
  · rw [if_neg n] at h; cases h
theorem nn_ex (e : Ex H H') : Ex (Nn Hs H) (Nn Hs H') := fun a u h => nn_at (nn_of h).1 (e a u (nn_of h).2)
end
inductive DRAll (K : PySem.W.Frag) (H : Hp) : List V → List PyData → Prop
  | nil : DRAll K H [] []
  | cons {v : V} {vs : List V} {d : PyData} {ds : List PyData} : DR K H v d → DRAll K H vs ds → DRAll K H (v :: vs) (d :: ds)
section
variable {K : PySem.W.Frag} {Hs H H' : Hp} {σ : L2.St} {ta tb te : TE} {tas : TA} {v : V} {d : PyData} {ds es : List PyData} {vs xs ys : List V}
theorem DRAll.ex (e : Ex H H') (h : DRAll K H vs ds) : DRAll K H' vs ds := by
  induction h with
  | nil => exact .nil
  | cons a _ ih => exact .cons (DR.ex e a) ih
theorem DRAll.len (h : DRAll K H vs ds) : vs.length = ds.length := by
  induction h with
  | nil => rfl
  | cons _ _ ih => exact congrArg (· + 1) ih
theorem DRAll.append (h : DRAll K H xs ds) (g : DRAll K H ys es) : DRAll K H (xs ++ ys) (ds ++ es) := by
  induction h with
  | nil => exact g
  | cons a _ ih => exact .cons a ih
theorem DRAll.at {i : Nat} (h : DRAll K H vs ds) (e : vs[i]? = some v) : ∃ d, ds[i]? = some d ∧ DR K H v d := by
  induction h generalizing i with
  | nil => simp at e
  | cons a _ ih =>
    cases i with
    | zero =>
      have z : _ = v := Option.some.inj e
      subst z
      exact ⟨_, rfl, a⟩
    | succ i => exact ih (by simpa using e)
def LiN (K : PySem.W.Frag) (Hs : Hp) (v : V) (H : Hp) (ds : List PyData) : Prop := ∃ l xs, v = .ref l ∧ Hs l = none ∧ H l = some (.lst xs) ∧ DRAll K (Nn Hs H) xs ds
theorem LiN.ex (e : Ex H H') (h : LiN K Hs v H ds) : LiN K Hs v H' ds := by
  obtain ⟨l, xs, rfl, n, hl, a⟩ := h
  exact ⟨l, xs, rfl, n, e _ _ hl, DRAll.ex (nn_ex e) a⟩
end
def rListDK : List V → Hp → VK → Prop := fun xs H Q => ∃ (a : Addr) (kvs : List (Key × V)), xs = [.ref a] ∧ Rd H a (.dK kvs) ∧ ∀ p, H p = none → Q (.ref p) (upd H p (.lst (kvs.map fun kv => kV kv.1)))
theorem call_listDK {X : Cx} (hc : X.calm = true) : CallR X (.type "list") rListDK := call_listD hc
section
variable {σ : L2.St} {H : Hp} {td ty tv te : TE} {u : TS} {D : Ends} {kvs : List (Key × V)}
end
def Sm (P : Program) (w : World) (K : PySem.W.Frag) (mg : Str → Option Value) (base : Heap) (C : Addr) (m : Str) (ps : List Str) (CX : CXT) (k : Nat) (sp : Sp) : Prop :=
  ∃ mc p g fd, ClX.CRead K C mc ∧ PySem.W.findCls K (.ref C) mc m = some (.get (.builtin "staticmethod.__get__") (.ref p) .none (.ref C)) ∧ (∃ rest, PySem.W.recIn K p "staticmethod" = some (.ref g :: rest)) ∧ PySem.W.keepIn K (.ref g) = true ∧
    Binds K fd ps [] ∧ FnOk P w K mg base CX k g fd ps sp
def tSm (C : Addr) (sp : Sp) (E : XK) (ta : TE) (t : TA) : TE := fun σ H Q => ta σ H fun x H1 => x = .ref C ∧ t σ H1 fun vs H2 => sp vs H2 Q E
section
variable {X : Cx} {CX : CXT} {pins : List (Addr × Obj)} {σ : L2.St} {H : Hp} {s : Shared} {C p g : Addr} {mc : Value} {m : Str} {A : Around} {Ee : Value → Shared → Prop}
theorem getmethsm_ok {pl : Sem Bool} {rest : List Value} {Q : Value × List Value → Shared → Prop} (I : Inv X pins σ H s) (r : ClX.CRead X.K C mc) (at_ : PySem.W.findCls X.K (.ref C) mc m = some (.get (.builtin "staticmethod.__get__") (.ref p) .none (.ref C)))
    (hp : PySem.W.recIn X.K p "staticmethod" = some (.ref g :: rest)) (h : ∀ s', Inv X pins σ H s' → Q (.ref g, []) s') : wpAny (model X.prog X.w) A (getMethod (.ref C) m pl) Q Ee s := by
  refine PySem.W.method_cls I.kIn r.ga ?_
  refine PySem.W.cls_bind I.kIn r.rd at_ ?_
  exact wpAny_call (PySem.W.sm_get (s := { s with toks := s.toks + 1 }) I.kIn hp (PySem.W.handed_on rfl (h _ (I.tok _))))
end
section
variable {X : Cx} {CX : CXT} {k j : Nat} {C : Addr} {ps : List Str} {sp : Sp} {E : XK} {m : Str} {pos apos : Pos} {e o : Expr} {es : List Expr} {ta : TE} {t : TA} {pl : Sem Bool}
theorem pe_sm (M : Sm X.prog X.w X.K X.mg X.base C m ps CX k sp) (hr : Room j X.A) (hx : Passes CX X E) (he : PE X o ta) (ha : PA X (e :: es) t) (hk : k ≤ j := by decide)
    (hst : starEach (e :: es) X.env = (false, eval e X.env) :: starEach es X.env := by rfl) (hpl : (backTo pos (starEach es X.env)).any (·.1) = false := by rfl)
    (ht : eval (.Call (.Attribute o m apos) (e :: es) [] pos) X.env = (do
      let ov ← eval o X.env
      standAt apos.atName
      let (f, first) ← holding [ov] (getMethod ov m pl)
      callWith pos f first (backTo pos (starEach (e :: es) X.env)) (backToKw pos (keywordEach [] X.env))) := by rfl) :
    PE X (.Call (.Attribute o m apos) (e :: es) [] pos) (tSm C sp E ta t) := by
  obtain ⟨mc, p, g, fd, r, at_, ⟨rest, hp⟩, kp, b, F⟩ := M
  refine ⟨fun pins s σ H Q I h => ?_⟩
  refine PySem.W.methodCall_KW (pl := pl) (thn (he.run pins s σ H _ I h) fun u s1 ⟨x, H1, I1, rx, ex, q⟩ => ?_) ht
  subst ex
  obtain rfl : u = Value.ref C := rx
  refine getmethsm_ok I1 r at_ hp fun s2 I2 => ?_
  refine PySem.W.callWith_K (h₀ := X.base) I2.ok.mod.kin kp (thn (ha.run pos pins s2 σ H1 _ I2 q) fun us s3 ⟨vs, H3, I3, rv, q3⟩ => ⟨I3.kIn, ?_⟩) hst hpl
  exact run_fn F (hr.mono hk) b .nil hx I3 rv (by simpa using q3)
theorem pe_sm0 (M : Sm X.prog X.w X.K X.mg X.base C m ps CX k sp) (hr : Room j X.A) (hx : Passes CX X E) (he : PE X o ta) (hk : k ≤ j := by decide)
    (ht : eval (.Call (.Attribute o m apos) [] [] pos) X.env = (do
      let ov ← eval o X.env
      standAt apos.atName
      let (f, first) ← holding [ov] (getMethod ov m pl)
      callWith pos f first (backTo pos (starEach [] X.env)) (backToKw pos (keywordEach [] X.env))) := by rfl) :
    PE X (.Call (.Attribute o m apos) [] [] pos) (tSm C sp E ta tNil) := by
  obtain ⟨mc, p, g, fd, r, at_, ⟨rest, hp⟩, kp, b, F⟩ := M
  refine ⟨fun pins s σ H Q I h => ?_⟩
  refine PySem.W.methodCall_KW (pl := pl) (thn (he.run pins s σ H _ I h) fun u s1 ⟨x, H1, I1, rx, ex, q⟩ => ?_) ht
  subst ex
  obtain rfl : u = Value.ref C := rx
  refine getmethsm_ok I1 r at_ hp fun s2 I2 => ?_
  exact PySem.W.callWith_K0 (first := []) I2.kIn kp (run_fn (us := []) (vs := []) F (hr.mono hk) b .nil hx I2 .nil q)
end
def tCo (C : Addr) (sp : Sp) (E : XK) (tf : TE) (t : TA) : TE := fun σ H Q => tf σ H fun y H1 => ∃ a, y = V.ref a ∧ t σ H1 fun vs H2 => (∃ dx fs, H2 a = some (.ins C dx fs)) ∧ sp (V.ref a :: vs) H2 Q E
section
variable {X : Cx} {CX : CXT} {k j : Nat} {C : Addr} {ps : List Str} {sp : Sp} {E : XK} {pos : Pos} {e fe : Expr} {es : List Expr} {tf : TE} {t : TA}
theorem pe_co (M : Mt X.prog X.w X.K X.mg X.base C "__call__" ps CX k sp) (fi : ∀ f, PySem.W.findIn X.K (.ref C) "__call__" = some (some (.ref f)) → PySem.W.fnIn X.K f = true) (hr : Room j X.A) (hx : Passes CX X E) (hf : PE X fe tf) (ha : PA X (e :: es) t) (hk : k ≤ j := by decide)
    (ht : eval (.Call fe (e :: es) [] pos) X.env = (do callWith pos (← eval fe X.env) [] (backTo pos (starEach (e :: es) X.env)) (backToKw pos (keywordEach [] X.env))) := by rfl)
    (he : starEach (e :: es) X.env = (false, eval e X.env) :: starEach es X.env := by rfl) (hpl : (backTo pos (starEach es X.env)).any (·.1) = false := by rfl) : PE X (.Call fe (e :: es) [] pos) (tCo C sp E tf t) := by
  obtain ⟨g, fd, hm, b, F⟩ := M
  have c : StX.CallO X.K C g := ⟨hm.at_, hm.fn, fi g hm.at_⟩
  have FR : FnR X.prog X.w X.K X.mg X.base CX k g sp := (F.raw b .nil).imp fun vs H Q E h => by rw [List.append_nil]; exact h
  refine ⟨fun pins s σ H Q I h => ?_⟩
  refine Call_ (thn (hf.run pins s σ H _ I h) fun u s1 ⟨y, H1, I1, ry, a, ey, q⟩ => ?_) ht
  subst ey
  obtain rfl : u = Value.ref a := ry
  refine StX.callO_with (thn (ha.run pos pins s1 σ H1 _ I1 q) fun us s2 ⟨vs, H2, I2, r, hi, q2⟩ => ?_) he hpl
  have hi' : StX.InsC X H2 a C := .inr hi
  obtain ⟨ox, od, J, hd⟩ := StX.insC_at I2 hi'
  exact ⟨⟨C, ox, od, J, hd⟩, StX.run_callO c FR (hr.mono hk) hx I2 hi' r q2⟩
end
section
variable {X : Cx} {CX : CXT} {k j : Nat} {C : Addr} {ps : List Str} {sp : Sp} {E : XK} {pos : Pos} {a b : Expr} {ta tb : TE}
end
def tFrz (t : TE) : TE := fun σ H Q => t σ H fun v H1 => ∃ d u, H1 d = some u ∧ Mut (some u) ∧ ∀ od, Q v (upd H1 d (.frz od u))
theorem pe_frz {X : Cx} {e : Expr} {t : TE} (h : PE X e t) : PE X e (tFrz t) := by
  refine ⟨fun pins s σ H Q I hw => ?_⟩
  refine thn (h.run pins s σ H _ I hw) fun v s1 ⟨x, H1, I1, r, d, u, hd, mu, q⟩ => ?_
  obtain ⟨od, I2⟩ := I1.lock hd mu
  exact ⟨x, _, I2, r, q od⟩
section
variable {X : Cx}
end
section
variable {K : PySem.W.Frag} {σ : L2.St} {H : Hp} {ta tb te : TE} {v : V} {C dx p a : Addr} {fs : List (Str × V)} {f : Str} {kvs : List (Key × V)}
end
section
variable {K : PySem.W.Frag} {σ : L2.St} {H : Hp} {ta tb te tv : TE} {v : V} {C dx p a : Addr} {fs : List (Str × V)} {f m : Str} {kvs : List (Key × V)} {t : TA} {vs : List V} {u : TS} {D : Ends} {φ : V → Hp → Prop}
end
end Ag
namespace Ag
abbrev Pair := Int × Option Int
def hiOk (n : Int) : Option Int → Prop
  | none => True
  | some h => n ≤ h
def mem1 (p : Pair) (n : Int) : Prop := p.1 ≤ n ∧ hiOk n p.2
def mem (ps : List Pair) (n : Int) : Prop := ∃ p ∈ ps, mem1 p n
def PrOk (p : Pair) : Prop := 0 ≤ p.1 ∧ hiOk p.1 p.2
def Gap (p q : Pair) : Prop := ∃ h, p.2 = some h ∧ h + 1 < q.1
def Canon (ps : List Pair) : Prop := (∀ p ∈ ps, PrOk p) ∧ ps.Pairwise Gap
theorem Canon.nil : Canon [] := ⟨fun p h => by simp at h, .nil⟩
theorem Canon.none {p : Pair} {r : List Pair} (c : Canon (p :: r)) (e : p.2 = none) : r = [] := by
  cases r with
  | nil => rfl
  | cons q s =>
    obtain ⟨h', e', g⟩ := (List.pairwise_cons.mp c.2).1 q List.mem_cons_self
    rw [e] at e'
    cases e'
def stepJ (fs : List Pair) (p : Pair) : List Pair := match fs.getLast? with
  | none => fs ++ [p]
  | some (l0, none) => fs
  | some (l0, some h0) => if h0 + 1 < p.1 then fs ++ [p] else match p.2 with
    | none => fs.dropLast ++ [(l0, none)]
    | some h => if h0 < h then fs.dropLast ++ [(l0, some h)] else fs
def look (es : List Pair) (l : Int) : Option (Option Int) := (es.find? fun q => decide (q.1 = l)).map (·.2)
def putE (es : List Pair) (p : Pair) : List Pair := if (es.any fun q => decide (q.1 = p.1)) = true then es.map (fun q => if q.1 = p.1 then (q.1, p.2) else q) else es ++ [p]
def wantsE (es : List Pair) (p : Pair) : Bool := match look es p.1 with
  | none => true
  | some none => false
  | some (some h0) => match p.2 with
    | none => true
    | some h => decide (h > h0)
def stepE (es : List Pair) (p : Pair) : List Pair := if wantsE es p = true then putE es p else es
end Ag
namespace Ag
open PySem PySem.Spec PyProof.Rows L2 Evl
section
variable {σ : L2.St} {H : Hp} {ta : TE} {o : Option Int}
end
section
variable {prog : Program} {w : World} {A : Around} {E : Value → Shared → Prop} {s : Shared}
end
section
variable {X : Cx} {CX : CXT} {C : Addr} {ps : List Str} {n j : Nat} {sp : Sp} {E : XK}
end
theorem okS {P : Program} {w : World} {K : PySem.W.Frag} {mg : Str → Option Value} {base : Heap} {k : Nat} {f : Addr} {N ps : List Str} {sp : Sp} {fd : FuncData} {x qual pv : Str} {st : Stmt} (F : Fun K x qual st f fd) (S : FnScope N (ps ++ [pv]) (defScope st))
    (hb : ∀ (kV doc pm : Value) (an : Option Addr) (cdv ct : Value) (us rest : List Value), us.length = ps.length → bindArgs (PySem.W.fnOf x qual (defArgs st) (defBody st) (defScope st) .none kV doc pm an cdv ct) ⟨us ++ rest, []⟩ = (newTuple rest >>= fun t => pure (ps.zip us ++ [(pv, t)])))
    (hbody : ∀ (cdv : Value) (A : Around) (outer : List Env) (s : Shared) (H : Hp) (vs : List V) (Q : VK) (E : XK), Room k (A.deeper (envOfC qual (defScope st) s.heap.objs.size f cdv)) → sp vs H Q E →
      ∃ t, PSs (cxOf CX0 P w K mg base N qual (defScope st) f cdv A outer s H E).nox (defBody st) t ∧ t { nx := fun _ H' => Q .non H', rt := Q } (start N vs) H) :
    FnR P w K mg base CX0 (k + 1) f (fun vs H Q E => ∃ ws rest, vs = ws ++ rest ∧ ws.length = ps.length ∧ rest.length ≤ sizeLine ∧ ∀ p, H p = Option.none → sp (ws ++ [V.ref p]) (upd H p (.tup rest)) Q E) := by
  obtain ⟨oc, od, kV, doc, pm, an, cdv, ct, osl, rfl, lk, hcd⟩ := F.ex
  exact StX.fn_star lk hcd S StX.cxUp_none (hb kV doc pm an cdv ct) fun A outer s H vs Q E hr hsp => (hbody cdv A outer s H vs Q E hr hsp).imp fun t z => ⟨z.1.nox, z.2⟩
section
variable {X : Cx} {CX : CXT} {k j : Nat} {C : Addr} {sp : Sp} {E : XK} {x : Str} {e : Expr} {es : List Expr} {te : TE} {t : TA} {p sp_ pos : Pos}
end
variable {W : WX}
section
variable {X : Cx} {tg e : Expr} {f : En → Option (D × En)} {fa : En → Option (List D × En)}
theorem PIi {t t' : TI} (h : PI X tg e t) (i : ∀ σ H R, t' σ H R → t σ H R) : PI X tg e t' := ⟨fun pins s σ H R I q => h.run pins s σ H R I (i σ H R q)⟩
def xItL (f : En → Option (D × En)) : En → Option (List D × En) := fun e => (f e).bind fun p => match p.1 with
  | .lst ds => some (ds, p.2)
  | _ => none
def xItT (f : En → Option (D × En)) : En → Option (List D × En) := fun e => (f e).bind fun p => match p.1 with
  | .tup _ ds => some (ds, p.2)
  | _ => none
def small62 (j : Int) : Bool := decide (-(2 ^ 62) ≤ j) && decide (j < 2 ^ 62)
def rngD (lo : Int) (n : Nat) : List D := (List.range n).map fun (k : Nat) => D.int (lo + (k : Int))
def xItR1 (f : En → Option (List D × En)) : En → Option (List D × En) := fun e => (f e).bind fun p => match p.1 with
  | [.int j] => if small62 j = true then some (rngD 0 j.toNat, p.2) else none
  | _ => none
def xItR2 (f : En → Option (List D × En)) : En → Option (List D × En) := fun e => (f e).bind fun p => match p.1 with
  | [.int i, .int j] => if (small62 i && small62 j) = true then some (rngD i (j - i).toNat, p.2) else none
  | _ => none
def enumD (ds : List D) : List D := (List.range ds.length).map fun (k : Nat) => D.tup false [.int (k : Int), ds.getD k .non]
def xItE (f : En → Option (List D × En)) : En → Option (List D × En) := fun e => (f e).bind fun p => match p.1 with
  | [.lst ds] => some (enumD ds, p.2)
  | _ => none
theorem it_rng {K : PySem.W.Frag} {B : Hp} (lo : Int) (n : Nat) : ItOk K (Itr lo n) B (rngD lo n) := by
  have hl : (rngD lo n).length = n := by simp [rngD]
  refine ⟨fun H _ => ?_, fun i H _ hi => ?_, fun i H x H' _ hi y => ?_⟩
  · show n ≤ (rngD lo n).length
    omega
  · show i < n
    omega
  · obtain ⟨rfl, rfl⟩ := y
    refine ⟨Ex.refl _, .int (lo + (i : Int)), ?_, fun B' eb el => ⟨B', Ex.refl _, el, fun _ _ z => .inl z, rfl⟩⟩
    have hi : i < n := by omega
    simp [rngD, hi]
theorem xi_r1 (h : PI X tg e (iRng1 (rdA X.K fa))) : PI X tg e (rdI X.K (xItR1 fa)) := PIi h fun σ H R ⟨s, e1, e2, ok, ds, en', hf, q⟩ => by
  obtain ⟨⟨d, en1⟩, k1, k2⟩ := Option.bind_eq_some_iff.mp hf
  match d, k2 with
  | [.int j], k2 =>
    have k2 : (if small62 j = true then some (rngD 0 j.toNat, en1) else none) = some (ds, en') := k2
    split at k2
    · rename_i hs
      cases k2
      obtain ⟨b1, b2⟩ : -(2 ^ 62) ≤ j ∧ j < 2 ^ 62 := by simpa [small62] using hs
      refine ⟨s, e1, e2, ok, _, _, k1, fun vs t tσ te okt st rp => ?_⟩
      obtain ⟨v, r, rfl, r1, r2⟩ := rp
      cases (show r = [] from r2)
      exact ⟨j, congrArg (fun z => [z]) r1, b1, b2, q t _ tσ te okt st (it_rng 0 j.toNat)⟩
    · cases k2
end
def pinned : En → En → En
  | [], _ => []
  | .pw _ :: as, x :: en => x :: pinned as en
  | a :: as, _ :: en => a :: pinned as en
  | a :: as, [] => a :: as
abbrev FnT := En → Option (Sl × En)
def fnM (n : Nat) (b : En → Option Out) : FnT := fun as => (b (as ++ List.replicate n .no)).bind fun o => match o with
  | .rt r e => some (r, pinned as e)
  | .nx e => some (.va .non, pinned as e)
  | _ => none
def isArg : Sl → Bool
  | .va _ => true
  | .pw _ => true
  | _ => false
def spM (K : PySem.W.Frag) (n : Nat) (F : FnT) : Sp := fun vs H Q _ => vs.length = n ∧ ∃ s : Sta, s.σ = vs.map some ∧ s.H = H ∧ EnOk K s ∧ s.en.all isArg = true ∧ ∃ r en', F s.en = some (r, en') ∧
  ∀ v t fr, t.σ = vs.map some → t.en = en' → EnOk K t → Stp s t → SlOk K t.B t.H (some v) r fr → Side s t fr → Q v t.H
section
variable {K : PySem.W.Frag}
theorem pinned_len : ∀ (as e : En), (pinned as e).length = as.length
  | [], _ => rfl
  | .pw _ :: as, _ :: e => congrArg (· + 1) (pinned_len as e)
  | .va _ :: as, _ :: e => congrArg (· + 1) (pinned_len as e)
  | .ow _ :: as, _ :: e => congrArg (· + 1) (pinned_len as e)
  | .no :: as, _ :: e => congrArg (· + 1) (pinned_len as e)
  | .pw _ :: _, [] => rfl
  | .va _ :: _, [] => rfl
  | .ow _ :: _, [] => rfl
  | .no :: _, [] => rfl
theorem pinned_at : ∀ {as e : En} {i : Nat} {x : Sl}, as.all isArg = true → as.length ≤ e.length → (pinned as e)[i]? = some x → (∃ d, as[i]? = some (.va d) ∧ x = .va d) ∨ ∃ o, as[i]? = some (.pw o) ∧ e[i]? = some x
  | [], _, i, x, _, _, h => by simp [pinned] at h
  | a :: as, [], i, x, _, hl, h => by simp at hl
  | .pw o :: as, y :: e, 0, x, _, _, h => .inr ⟨o, rfl, h⟩
  | .va d :: as, y :: e, 0, x, _, _, h => .inl ⟨d, rfl, (Option.some.inj h).symm⟩
  | .ow _ :: as, y :: e, _, x, ha, _, h => by simp [isArg] at ha
  | .no :: as, y :: e, _, x, ha, _, h => by simp [isArg] at ha
  | .pw o :: as, y :: e, i + 1, x, ha, hl, h => by
    have := pinned_at (as := as) (e := e) (i := i) (x := x) (by simpa [isArg] using ha) (by simpa using hl) (by simpa [pinned] using h)
    simpa using this
  | .va o :: as, y :: e, i + 1, x, ha, hl, h => by
    have := pinned_at (as := as) (e := e) (i := i) (x := x) (by simpa [isArg] using ha) (by simpa using hl) (by simpa [pinned] using h)
    simpa using this
theorem body_start {s : Sta} (ok : EnOk K s) (n : Nat) : EnOk K ⟨s.B, s.H, s.σ ++ List.replicate n none, s.en ++ List.replicate n .no, s.fp⟩ where
  ex := ok.ex
  nt := ok.nt
  tb := ok.tb
  len := by simp [ok.len]
  sl := fun i x e => by
    have e : (s.en ++ List.replicate n Sl.no)[i]? = some x := e
    show ∃ ov, (s.σ ++ List.replicate n none)[i]? = some ov ∧ SlOk K s.B s.H ov x (s.fp i)
    by_cases hi : i < s.en.length
    · rw [List.getElem?_append_left hi] at e
      rw [List.getElem?_append_left (by rw [← ok.len]; exact hi)]
      exact ok.sl i x e
    · rw [List.getElem?_append_right (by omega)] at e
      obtain ⟨h1, h2⟩ := List.getElem?_eq_some_iff.mp e
      have hx : x = .no := by simpa using h2.symm
      have hn : i - s.en.length < n := by simpa using h1
      subst hx
      refine ⟨none, ?_, ok.out i (List.getElem?_eq_none (by omega))⟩
      rw [List.getElem?_append_right (by rw [← ok.len]; omega), ← ok.len]
      simp [hn]
  out := fun i e => ok.out i (by
    have e : (s.en ++ List.replicate n Sl.no)[i]? = none := e
    exact List.getElem?_eq_none (by have := List.getElem?_eq_none_iff.mp e; simp at this; omega))
  dj := ok.dj
  off := ok.off
theorem body_end {s u : Sta} {vs : List V} (ok : EnOk K s) (ha : s.en.all isArg = true) (hσ : s.σ = vs.map some) {n : Nat} (oku : EnOk K u) (st : Stp ⟨s.B, s.H, s.σ ++ List.replicate n none, s.en ++ List.replicate n .no, s.fp⟩ u) :
    ∃ t : Sta, t.σ = vs.map some ∧ t.en = pinned s.en u.en ∧ EnOk K t ∧ Stp s t ∧ t.B = u.B ∧ t.H = u.H ∧ ∀ a, inF t.fp a → inF u.fp a := by
  have hs : s.en.length = s.σ.length := ok.len
  have hlen : u.en.length = s.en.length + n := st.ln.trans (by simp)
  have low : ∀ {i x}, (pinned s.en u.en)[i]? = some x → i < s.en.length := fun {i x} e => by
    have := (List.getElem?_eq_some_iff.mp e).1
    rw [pinned_len] at this; exact this
  have fpi : ∀ i a, a ∈ (match s.en[i]? with | some (.pw _) => u.fp i | _ => []) → a ∈ u.fp i ∧ ∃ o, s.en[i]? = some (.pw o) := fun i a h => by
    cases e : s.en[i]? with
    | none => rw [e] at h; cases h
    | some x =>
      rw [e] at h
      cases x with
      | pw o => exact ⟨h, o, rfl⟩
      | _ => cases h
  refine ⟨⟨u.B, u.H, vs.map some, pinned s.en u.en, fun i => match s.en[i]? with | some (.pw _) => u.fp i | _ => []⟩, rfl, rfl, ⟨oku.ex, ?_, fun i x e => ?_, fun i e => ?_, fun i j a hi hj => oku.dj i j a (fpi i a hi).1 (fpi j a hj).1, fun i a hi => oku.off i a (fpi i a hi).1, oku.nt, oku.tb⟩,
    ⟨st.bb, st.bn, st.hh, st.dm, fun a ⟨i, hi⟩ => st.ff a ⟨i, (fpi i a hi).1⟩, fun i o e => ?_, pinned_len ..⟩, rfl, rfl, fun a ⟨i, hi⟩ => ⟨i, (fpi i a hi).1⟩⟩
  · show (pinned s.en u.en).length = (vs.map some).length
    rw [pinned_len, ← hσ, hs]
  · have hi := low e
    show ∃ ov, (vs.map some)[i]? = some ov ∧ SlOk K u.B u.H ov x (match s.en[i]? with | some (.pw _) => u.fp i | _ => [])
    rcases pinned_at ha (by omega) e with ⟨d, h1, rfl⟩ | ⟨o, h1, h2⟩
    · obtain ⟨ov, e1, q⟩ := ok.sl i _ h1
      rw [h1, ← hσ]
      obtain ⟨_, v, rfl, rp⟩ := q
      exact ⟨_, e1, rfl, v, rfl, rp.mono st.bb⟩
    · obtain ⟨e1, o', e2⟩ := st.pn i o (by show (s.en ++ _)[i]? = _; rw [List.getElem?_append_left hi]; exact h1)
      obtain ⟨ov, e3, q⟩ := oku.sl i x h2
      rw [h1, ← hσ]
      refine ⟨ov, ?_, q⟩
      have e1 : u.σ[i]? = (s.σ ++ List.replicate n none)[i]? := e1
      rw [List.getElem?_append_left (by omega)] at e1
      rw [← e1]; exact e3
  · have hi : s.en.length ≤ i := by
      have := List.getElem?_eq_none_iff.mp (show (pinned s.en u.en)[i]? = none from e)
      rw [pinned_len] at this; exact this
    show (match s.en[i]? with | some (.pw _) => u.fp i | _ => []) = []
    rw [List.getElem?_eq_none hi]
  · have hi : i < s.en.length := (List.getElem?_eq_some_iff.mp e).1
    obtain ⟨e1, o', e2⟩ := st.pn i o (by show (s.en ++ _)[i]? = _; rw [List.getElem?_append_left hi]; exact e)
    refine ⟨by rw [hσ], ?_⟩
    show ∃ o', (pinned s.en u.en)[i]? = some (.pw o')
    have hp : i < (pinned s.en u.en).length := by rw [pinned_len]; exact hi
    rcases pinned_at (x := (pinned s.en u.en)[i]) ha (by omega) (List.getElem?_eq_getElem hp) with ⟨d, h1, _⟩ | ⟨o2, h1, h2⟩
    · rw [e] at h1; cases h1
    · rw [e2] at h2
      exact ⟨o', by rw [List.getElem?_eq_getElem hp, ← h2]⟩
end
section
variable {P : Program} {w : World} {K : PySem.W.Frag} {mg : Str → Option Value} {base : Heap} {x qual : Str} {st : Stmt} {f : Addr} {fd : FuncData} {N ps : List Str} {k n : Nat} {b : En → Option Out}
theorem xdef {dvs : List V} {kws : List (Str × V)} (F : FunD K x qual (defArgs st) (defBody st) (defScope st) dvs kws f fd) (S : FnScope N ps (defScope st)) (hN : N.length = ps.length + n)
    (hb : ∀ (cdv : Value) (A : Around) (outer : List Env) (s : Shared) (H : Hp) (E : XK), Room k (A.deeper (envOfC qual (defScope st) s.heap.objs.size f cdv)) → PSs (cxOf CX0 P w K mg base N qual (defScope st) f cdv A outer s H E).nox (defBody st) (rdS K wF b)) :
    FnOk P w K mg base CX0 (k + 1) f fd ps (spM K ps.length (fnM n b)) := by
  refine F.ok S (fun vs H Q E h => h.1) (fun cdv A outer s H vs Q E hr h => ⟨_, PSs.nox (hb cdv A outer s H E hr), ?_⟩)
  obtain ⟨hl, s, hσ, hH, ok, ha, r, en', hF, q⟩ := h
  obtain ⟨o, h1, h2⟩ := Option.bind_eq_some_iff.mp hF
  have hs : s.en.length = vs.length := by rw [ok.len, hσ, List.length_map]
  refine ⟨⟨s.B, s.H, s.σ ++ List.replicate n none, s.en ++ List.replicate n .no, s.fp⟩, ?_, hH, body_start ok n, o, h1, ?_⟩
  · show s.σ ++ List.replicate n none = L2.start N vs
    unfold L2.start
    rw [hσ, hN, hl, show ps.length + n - ps.length = n by omega]
  cases o with
  | bk e => cases h2
  | ct e => cases h2
  | ex r e => cases h2
  | nx e =>
    cases h2
    intro u ue oku stu
    obtain ⟨t, t1, t2, t3, t4, t5, t6, _⟩ := body_end ok ha hσ oku stu
    rw [← t6]
    exact q .non t [] t1 (by rw [t2, ue]) t3 t4 ⟨rfl, _, rfl, rfl⟩ .nil
  | rt r e =>
    cases h2
    intro v u fr ue oku stu sl sd
    obtain ⟨t, t1, t2, t3, t4, t5, t6, t7⟩ := body_end ok ha hσ oku stu
    rw [← t6]
    exact q v t fr t1 (by rw [t2, ue]) t3 t4 (by rw [t5, t6]; exact sl) ⟨fun a ha' z => sd.no a ha' (t7 a z), by rw [t5]; exact sd.b, sd.new⟩
end
section
variable {K : PySem.W.Frag}
def argS (t : Sta) (vs : List V) (ds : List D) : Sta := ⟨t.B, t.H, vs.map some, ds.map .va, fun _ => []⟩
theorem argS_ok {t : Sta} {vs : List V} {ds : List D} (ok : EnOk K t) (rp : RepL K t.B ds vs) : EnOk K (argS t vs ds) where
  ex := ok.ex
  nt := ok.nt
  tb := ok.tb
  len := by simp [argS, rp.len]
  sl := fun i x e => by
    have e : (ds.map Sl.va)[i]? = some x := e
    rw [List.getElem?_map] at e
    obtain ⟨d, hd, rfl⟩ := Option.map_eq_some_iff.mp e
    obtain ⟨v, hv, r⟩ := rp.at hd
    exact ⟨some v, by simp [argS, hv], rfl, v, rfl, r⟩
  out := fun _ _ => rfl
  dj := fun _ _ _ h => by cases h
  off := fun _ _ h => by cases h
theorem va_arg (ds : List D) : (ds.map Sl.va).all isArg = true := by simp [isArg]
theorem back0 {t u : Sta} {vs : List V} {ds : List D} (ok : EnOk K t) (oku : EnOk K u) (st : Stp (argS t vs ds) u) : EnOk K ⟨u.B, u.H, t.σ, t.en, t.fp⟩ ∧ Stp t ⟨u.B, u.H, t.σ, t.en, t.fp⟩ := by
  have nf : ∀ a, ¬ inF (argS t vs ds).fp a := fun a ⟨_, h⟩ => by cases h
  refine ⟨⟨oku.ex, ok.len, fun i x e => ?_, ok.out, ok.dj, fun i a ha => ?_, oku.nt, oku.tb⟩, ⟨st.bb, fun a o h => ?_, fun a o h _ n => st.hh a o h (nf a) n, st.dm, fun _ h => .inl h, fun _ o h => ⟨rfl, o, h⟩, rfl⟩⟩
  · obtain ⟨ov, e1, q⟩ := ok.sl i x e
    exact ⟨ov, e1, q.mono st.bb fun a ha => by
      obtain ⟨w, hw, mw⟩ := q.cell a ha
      rw [hw]; exact st.hh a w hw (nf a) (.of mw)⟩
  · cases e : u.B a with
    | none => rfl
    | some o =>
      rcases st.bn a o e with z | z | z
      · have z : t.B a = some o := z
        rw [ok.off i a ha] at z; cases z
      · have z : t.H a = none := z
        obtain ⟨w, hw, _⟩ := ok.cell ⟨i, ha⟩
        rw [hw] at z; cases z
      · exact (nf a z).elim
  · rcases st.bn a o h with z | z | z
    · exact .inl z
    · exact .inr (.inl z)
    · exact (nf a z).elim
theorem back0_side {t u : Sta} {vs : List V} {ds : List D} {fr : List Addr} (ok : EnOk K t) (sd : Side (argS t vs ds) u fr) : Side t ⟨u.B, u.H, t.σ, t.en, t.fp⟩ fr := by
  have new : ∀ a ∈ fr, t.H a = none := fun a ha => (sd.new a ha).elim id fun ⟨_, h⟩ => by cases h
  exact ⟨fun a ha ⟨i, hi⟩ => (by
    obtain ⟨w, hw, _⟩ := ok.cell ⟨i, hi⟩
    rw [new a ha] at hw; cases hw), sd.b, fun a ha => .inl (new a ha)⟩
theorem call0 {F : FnT} {n : Nat} {s t : Sta} {vs : List V} {ds : List D} {r : Sl} {en2 : En} {Q : VK} {E : XK} (okt : EnOk K t) (st : Stp s t) (rp : RepL K t.B ds vs) (hl : ds.length = n) (hF : F (ds.map .va) = some (r, en2))
    (q : ∀ v u fr, u.σ = t.σ → u.en = t.en → EnOk K u → Stp s u → SlOk K u.B u.H (some v) r fr → Side s u fr → Q v u.H) : spM K n F vs t.H Q E := by
  refine ⟨by rw [rp.len, hl], argS t vs ds, rfl, rfl, argS_ok okt rp, va_arg ds, r, en2, hF, fun v u fr uσ ue oku stu sl sd => ?_⟩
  obtain ⟨k1, k2⟩ := back0 okt oku stu
  exact q v ⟨u.B, u.H, t.σ, t.en, t.fp⟩ fr rfl rfl k1 (st.trans k2) sl (st.sideL (back0_side okt sd))
end
def xCall (n : Nat) (F : FnT) (fa : En → Option (List D × En)) : En → Option (Sl × En) := fun e => (fa e).bind fun p => if p.1.length = n then (F (p.1.map .va)).bind fun r => some (r.1, p.2) else none
section
variable {X : Cx} {e : Expr} {n : Nat} {F : FnT} {f : En → Option (D × En)} {fa : En → Option (List D × En)} {E : XK} {C : Addr} {m c : Str}
theorem xe_fn (h : PE X e (tCall (spM X.K n F) [] E (rdA X.K fa))) : PE X e (rdE X.K (xCall n F fa)) := PEi h fun σ H Q ⟨s, e1, e2, ok, r, en', hf, q⟩ => by
  obtain ⟨⟨ds, en1⟩, k1, k2⟩ := Option.bind_eq_some_iff.mp hf
  replace k2 : (if ds.length = n then (F (ds.map .va)).bind fun r => some (r.1, en1) else none) = some (r, en') := k2
  split at k2
  · rename_i hl
    obtain ⟨⟨r1, en2⟩, k3, k4⟩ := Option.bind_eq_some_iff.mp k2
    cases k4
    refine ⟨s, e1, e2, ok, ds, _, k1, fun vs t tσ te okt st rp => ?_⟩
    show spM X.K n F (vs ++ []) t.H Q E
    rw [List.append_nil]
    exact call0 okt st rp hl k3 fun v u fr uσ ue oku stu sl sd => q v u fr (uσ.trans tσ) (ue.trans te) oku stu sl sd
  · cases k2
def xMt (c m : Str) (n : Nat) (F : FnT) (f : En → Option (D × En)) (fa : En → Option (List D × En)) : En → Option (Sl × En) := fun e => (f e).bind fun p => match p.1 with
  | .obj c' ns ds => if c' = c ∧ m ∉ ns then (fa p.2).bind fun q => if q.1.length + 1 = n then (F (.va (.obj c' ns ds) :: q.1.map .va)).bind fun r => some (r.1, q.2) else none else none
  | _ => none
theorem lookup_none {m : Str} : ∀ {kvs : List (Str × V)}, m ∉ kvs.map (·.1) → kvs.lookup m = none
  | [], _ => rfl
  | (k, v) :: r, h => by
    have h1 : ¬ m = k := fun z => h (by simp [z])
    have h2 : m ∉ r.map (·.1) := fun z => h (by simp at z ⊢; exact .inr z)
    show (match m == k with | true => some v | false => r.lookup m) = none
    rw [show (m == k) = false by simpa using h1]
    exact lookup_none h2
theorem xe_mt (h : PE X e (tMeth (He.ga X.K c) m (spM X.K n F) [] E (rdV X.K f) (rdA X.K fa))) : PE X e (rdE X.K (xMt c m n F f fa)) := PEi h fun σ H Q ⟨s, e1, e2, ok, r, en', hf, q⟩ => by
  obtain ⟨⟨d, en1⟩, k1, k2⟩ := Option.bind_eq_some_iff.mp hf
  cases d with
  | obj c' ns ds =>
    replace k2 : (if c' = c ∧ m ∉ ns then (fa en1).bind fun q => if q.1.length + 1 = n then (F (.va (.obj c' ns ds) :: q.1.map .va)).bind fun r => some (r.1, q.2) else none else none) = some (r, en') := k2
    split at k2
    · rename_i hc
      obtain ⟨rfl, hm⟩ := hc
      obtain ⟨⟨es, en2⟩, k3, k4⟩ := Option.bind_eq_some_iff.mp k2
      replace k4 : (if es.length + 1 = n then (F (.va (.obj c' ns ds) :: es.map .va)).bind fun r => some (r.1, en2) else none) = some (r, en') := k4
      split at k4
      · rename_i hl
        obtain ⟨⟨r1, en3⟩, k5, k6⟩ := Option.bind_eq_some_iff.mp k4
        cases k6
        refine ⟨s, e1, e2, ok, _, en1, k1, fun v t tσ te okt st rp => ?_⟩
        obtain ⟨a, dx, kvs, rfl, hb, hk, rl⟩ := id rp
        refine ⟨a, dx, kvs, rfl, okt.ex _ _ hb, lookup_none (by rw [hk]; exact hm), t, tσ, rfl, okt, es, _, by rw [te]; exact k3, fun vs u uσ ue oku st2 rps => ?_⟩
        show spM X.K n F (_ :: (vs ++ [])) u.H Q E
        rw [List.append_nil]
        exact call0 (ds := .obj c' ns ds :: es) oku (st.trans st2) ⟨_, vs, rfl, rp.mono st2.bb, rps⟩ (by simpa using hl) k5 fun v w fr wσ we okw stw sl sd => q v w fr (wσ.trans uσ) (we.trans ue) okw stw sl sd
      · cases k4
    · cases k2
  | _ => cases k2
theorem xe_mt0 (h : PE X e (tMeth (He.ga X.K c) m (spM X.K n F) [] E (rdV X.K f) tNil)) : PE X e (rdE X.K (xMt c m n F f xNil)) := by
  refine xe_mt (E := E) (PEi h fun σ H Q hh => ?_)
  obtain ⟨s, e1, e2, ok, d, en', hf, q⟩ := hh
  refine ⟨s, e1, e2, ok, d, en', hf, fun v t tσ te okt st rp => ?_⟩
  obtain ⟨a, dx, fs, h1, h2, h3, z, z1, z2, zok, ds, en2, hz, qz⟩ := q v t tσ te okt st rp
  cases hz
  exact ⟨a, dx, fs, h1, h2, h3, by
    have := qz [] z z1 rfl zok (Stp.refl z) rfl
    rw [z2] at this
    exact this⟩
def xPrp (c : Str) (F : FnT) (f : En → Option (D × En)) : En → Option (Sl × En) := fun e => (f e).bind fun p => match p.1 with
  | .obj c' ns ds => if c' = c then (F [.va (.obj c' ns ds)]).bind fun r => some (r.1, p.2) else none
  | _ => none
theorem xe_pr (h : PE X e (tProp (He.ga X.K c) (spM X.K 1 F) [] E (rdV X.K f))) : PE X e (rdE X.K (xPrp c F f)) := PEi h fun σ H Q ⟨s, e1, e2, ok, r, en', hf, q⟩ => by
  obtain ⟨⟨d, en1⟩, k1, k2⟩ := Option.bind_eq_some_iff.mp hf
  cases d with
  | obj c' ns ds =>
    replace k2 : (if c' = c then (F [.va (.obj c' ns ds)]).bind fun r => some (r.1, en1) else none) = some (r, en') := k2
    split at k2
    · rename_i hc
      subst hc
      obtain ⟨⟨r1, en3⟩, k5, k6⟩ := Option.bind_eq_some_iff.mp k2
      cases k6
      refine ⟨s, e1, e2, ok, _, _, k1, fun v t tσ te okt st rp => ?_⟩
      obtain ⟨a, dx, kvs, rfl, hb, hk, rl⟩ := id rp
      exact ⟨a, dx, kvs, rfl, okt.ex _ _ hb, call0 (ds := [.obj c' ns ds]) okt st ⟨_, [], rfl, rp, rfl⟩ rfl k5 fun v w fr wσ we okw stw sl sd => q v w fr (wσ.trans tσ) (we.trans te) okw stw sl sd⟩
    · cases k2
  | _ => cases k2
end
def fldD (ns : List Str) (ds : List D) (f : Str) : Option D := (ns.zip ds).lookup f
theorem fld_rep {K : PySem.W.Frag} {B : Hp} {f : Str} {d : D} : ∀ {ds : List D} {kvs : List (Str × V)}, RepL K B ds (kvs.map (·.2)) → fldD (kvs.map (·.1)) ds f = some d → ∃ v, kvs.lookup f = some v ∧ Rep K B d v
  | _, [], _, h => by simp [fldD] at h
  | [], _ :: _, _, h => by simp [fldD] at h
  | d1 :: ds, (k, v) :: kvs, ⟨v1, r1, e1, a, b⟩, h => by
    cases e1
    have h : (match f == k with | true => some d1 | false => ((kvs.map (·.1)).zip ds).lookup f) = some d := h
    show ∃ v', (match f == k with | true => some v | false => kvs.lookup f) = some v' ∧ Rep K B d v'
    cases hk : f == k with
    | true =>
      rw [hk] at h
      cases h
      exact ⟨v, rfl, a⟩
    | false =>
      rw [hk] at h
      exact fld_rep b h
def xFld (c f : Str) (g : En → Option (D × En)) : En → Option (D × En) := fun e => (g e).bind fun p => match p.1 with
  | .obj c' ns ds => if c' = c then (fldD ns ds f).bind fun d => some (d, p.2) else none
  | _ => none
section
variable {X : Cx} {e : Expr} {g : En → Option (D × En)} {c f : Str}
end
def D.leaf : D → Bool
  | .lst ds => D.flatL ds
  | .dct _ ds => D.flatL ds
  | .dcT _ ds => D.flatL ds
  | d => d.flat
def O1.leaf : O1 → Bool
  | .lst ds => D.flatL ds
  | .dct _ ds => D.flatL ds
  | .dcT _ ds => D.flatL ds
def Fv.leaf : Fv → Bool
  | .va d => d.flat
  | .ow o => o.leaf
def O2.leaf : O2 → Bool
  | .o1 o => o.leaf
  | .obj _ _ vs => vs.all Fv.leaf
def Sl.leaf : Sl → Bool
  | .va d => d.flat
  | .ow o => o.leaf
  | _ => false
section
variable {K : PySem.W.Frag} {B B' H : Hp} (e : ∀ a o, B a = some o → ¬ Mk1 o → B' a = some o)
include e
theorem OwnL.leaf {o : O1} {l : Addr} (hl : o.leaf = true) (h : OwnL K B H o l) : OwnL K B' H o l := by
  cases o with
  | lst ds => obtain ⟨vs, h, r⟩ := h; exact ⟨vs, h, r.flat e hl⟩
  | dct ks ds => obtain ⟨vs, h, q, r⟩ := h; exact ⟨vs, h, q, r.flat e hl⟩
  | dcT ks ds => obtain ⟨vs, h, q, r⟩ := h; exact ⟨vs, h, q, r.flat e hl⟩
theorem FvOk.leaf {f : Fv} {v : V} {fp : List Addr} (hl : f.leaf = true) (h : FvOk K B H f v fp) : FvOk K B' H f v fp := by
  cases f with
  | va d => exact ⟨h.1.flat e hl, h.2⟩
  | ow o => obtain ⟨l, h1, h2, h⟩ := h; exact ⟨l, h1, h2, h.leaf e hl⟩
theorem FvL.leaf : ∀ {fs : List Fv} {vs : List V} {fp : List Addr}, fs.all Fv.leaf = true → FvL K B H fs vs fp → FvL K B' H fs vs fp
  | [], _, _, _, h => h
  | f :: fs, _, _, hl, ⟨v, r, p, q, hv, ef, h1, h2, dj⟩ => by
    obtain ⟨l1, l2⟩ : f.leaf = true ∧ fs.all Fv.leaf = true := by simpa using hl
    exact ⟨v, r, p, q, hv, ef, h1.leaf e l1, FvL.leaf l2 h2, dj⟩
theorem Own.leaf {o : O2} {v : V} {fp : List Addr} (hl : o.leaf = true) (h : Own K B H o v fp) : Own K B' H o v fp := by
  cases o with
  | o1 o => obtain ⟨l, h1, h2, h⟩ := h; exact ⟨l, h1, h2, h.leaf e hl⟩
  | obj c ns fs => obtain ⟨x, dx, kvs, q, h1, hx, hn, h, ef, nx⟩ := h; exact ⟨x, dx, kvs, q, h1, hx, hn, h.leaf e hl, ef, nx⟩
theorem SlOk.leaf {ov : Option V} {s : Sl} {fp : List Addr} (hl : s.leaf = true) (h : SlOk K B H ov s fp) : SlOk K B' H ov s fp := by
  cases s with
  | no => cases hl
  | pw o => cases hl
  | va d => obtain ⟨h1, v, h2, h3⟩ := h; exact ⟨h1, v, h2, h3.flat e hl⟩
  | ow o => obtain ⟨v, h1, h⟩ := h; exact ⟨v, h1, h.leaf e hl⟩
end
def Sl.view : Sl → Sl
  | .ow o => .va o.fz
  | .pw o => .va o.fz
  | x => x
def Sl.own : Sl → Bool
  | .ow _ => true
  | .pw _ => true
  | _ => false
def viewE (e : En) : En := e.map Sl.view
def xBor (f : En → Option (Sl × En)) : En → Option (Sl × En) := fun e => (f (viewE e)).bind fun p => if (!(e.any Sl.own) || p.1.leaf) = true then some (p.1, e) else none
def xBorV (f : En → Option (D × En)) : En → Option (D × En) := fun e => (f (viewE e)).bind fun p => if (!(e.any Sl.own) || p.1.flat) = true then some (p.1, e) else none
def xBorT (f : En → Option (Bool × En)) : En → Option (Bool × En) := fun e => (f (viewE e)).bind fun p => some (p.1, e)
open Classical in
noncomputable def allB (s : Sta) : Hp := fun a => if inF s.fp a then s.H a else s.B a
section
variable {K : PySem.W.Frag} {s : Sta}
theorem allB_in {a : Addr} (h : inF s.fp a) : allB s a = s.H a := by unfold allB; rw [if_pos h]
theorem allB_no {a : Addr} (h : ¬ inF s.fp a) : allB s a = s.B a := by unfold allB; rw [if_neg h]
theorem allB_ex (ok : EnOk K s) : Ex s.B (allB s) := fun a o e => by rw [allB_no (ok.noB e)]; exact e
theorem allB_le (ok : EnOk K s) : Ex (allB s) s.H := fun a o e => by
  by_cases h : inF s.fp a
  · rw [allB_in h] at e; exact e
  · rw [allB_no h] at e; exact ok.ex a o e
noncomputable def viewS (s : Sta) : Sta := ⟨allB s, s.H, s.σ, viewE s.en, fun _ => []⟩
theorem viewS_ok (ok : EnOk K s) : EnOk K (viewS s) where
  ex := allB_le ok
  tb := ok.tb
  nt := fun a o e => by
    have e : allB s a = some o := e
    by_cases h : inF s.fp a
    · rw [allB_in h] at e
      obtain ⟨w, hw, mw⟩ := ok.cell h
      rw [hw] at e; cases e; exact .of mw
    · rw [allB_no h] at e; exact ok.nt a o e
  len := by show (viewE s.en).length = _; rw [viewE, List.length_map]; exact ok.len
  sl := fun i x e => by
    have e : (viewE s.en)[i]? = some x := e
    rw [viewE, List.getElem?_map] at e
    obtain ⟨y, hy, rfl⟩ := Option.map_eq_some_iff.mp e
    obtain ⟨ov, e1, q⟩ := ok.sl i y hy
    refine ⟨ov, e1, ?_⟩
    cases y with
    | no => rfl
    | va d => obtain ⟨_, v, h1, h2⟩ := q; exact ⟨rfl, v, h1, h2.mono (allB_ex ok)⟩
    | ow o => obtain ⟨v, h1, h2⟩ := q; exact ⟨rfl, v, h1, h2.fz (allB_ex ok) fun a ha => allB_in ⟨i, ha⟩⟩
    | pw o => obtain ⟨v, h1, h2⟩ := q; exact ⟨rfl, v, h1, h2.fz (allB_ex ok) fun a ha => allB_in ⟨i, ha⟩⟩
  out := fun _ _ => rfl
  dj := fun _ _ _ h => by cases h
  off := fun _ _ h => by cases h
open Classical in
noncomputable def unB (s t : Sta) : Hp := fun a => if inF s.fp a then none else t.B a
noncomputable def unS (s t : Sta) : Sta := ⟨unB s t, t.H, s.σ, s.en, s.fp⟩
theorem unB_no {t : Sta} {a : Addr} (h : ¬ inF s.fp a) : unB s t a = t.B a := by unfold unB; rw [if_neg h]
theorem unB_in {t : Sta} {a : Addr} (h : inF s.fp a) : unB s t a = none := by unfold unB; rw [if_pos h]
theorem unS_ok {t : Sta} (ok : EnOk K s) (okt : EnOk K t) (st : Stp (viewS s) t) : EnOk K (unS s t) ∧ Stp s (unS s t) := by
  have nf : ∀ a, ¬ inF (viewS s).fp a := fun a ⟨_, h⟩ => by cases h
  have hh : ∀ a o, s.H a = some o → NTbl o → t.H a = some o := fun a o h n => st.hh a o h (nf a) n
  have eb : Ex s.B (unB s t) := fun a o e => by
    rw [unB_no (ok.noB e)]
    exact st.bb a o (allB_ex ok a o e)
  refine ⟨⟨fun a o e => ?_, ok.len, fun i x e => ?_, ok.out, ok.dj, fun i a ha => unB_in ⟨i, ha⟩, fun a o e => ?_, okt.tb⟩, ⟨eb, fun a o e => ?_, fun a o h _ n => hh a o h n, fun a h => st.dm a h, fun _ h => .inl h, fun _ o h => ⟨rfl, o, h⟩, rfl⟩⟩
  · have e : unB s t a = some o := e
    by_cases h : inF s.fp a
    · rw [unB_in h] at e; cases e
    · rw [unB_no h] at e; exact okt.ex a o e
  · obtain ⟨ov, e1, q⟩ := ok.sl i x e
    exact ⟨ov, e1, q.mono eb fun a ha => by
      obtain ⟨w, hw, mw⟩ := q.cell a ha
      rw [hw]; exact hh a w hw (.of mw)⟩
  · have e : unB s t a = some o := e
    by_cases h : inF s.fp a
    · rw [unB_in h] at e; cases e
    · rw [unB_no h] at e; exact okt.nt a o e
  · have e : unB s t a = some o := e
    by_cases h : inF s.fp a
    · exact .inr (.inr h)
    · rw [unB_no h] at e
      rcases st.bn a o e with z | z | z
      · have z : allB s a = some o := z
        rw [allB_no h] at z; exact .inl z
      · exact .inr (.inl z)
      · exact (nf a z).elim
theorem unB_tup {t : Sta} (ok : EnOk K s) (okt : EnOk K t) (st : Stp (viewS s) t) : ∀ a o, t.B a = some o → ¬ Mk1 o → unB s t a = some o := fun a o e nm => by
  have nf : ∀ a, ¬ inF (viewS s).fp a := fun a ⟨_, h⟩ => by cases h
  by_cases hf : inF s.fp a
  · obtain ⟨w, hw, mk⟩ := ok.cell hf
    have h2 := okt.ex a o e
    rw [st.hh a w hw (nf a) (.of mk)] at h2
    cases h2
    exact (nm mk).elim
  · rw [unB_no hf]; exact e
theorem un_side {t : Sta} {fr : List Addr} (ok : EnOk K s) (sd : Side (viewS s) t fr) : Side s (unS s t) fr := by
  have new : ∀ a ∈ fr, s.H a = none := fun a ha => (sd.new a ha).elim id fun ⟨_, h⟩ => by cases h
  have no : ∀ a ∈ fr, ¬ inF s.fp a := fun a ha z => by
    obtain ⟨w, hw, _⟩ := ok.cell z
    rw [new a ha] at hw; cases hw
  exact ⟨no, fun a ha => by show unB s t a = none; rw [unB_no (no a ha)]; exact sd.b a ha, fun a ha => .inl (new a ha)⟩
theorem unB_all {t : Sta} (ok : EnOk K s) (h : s.en.any Sl.own = false) : unB s t = t.B := by
  funext a
  refine unB_no fun ⟨i, hi⟩ => ?_
  cases e : s.en[i]? with
  | none => rw [ok.out i e] at hi; cases hi
  | some x =>
    obtain ⟨ov, _, q⟩ := ok.sl i x e
    have hx : x.own = false := by
      cases hx : x.own with
      | false => rfl
      | true =>
        have : s.en.any Sl.own = true := List.any_eq_true.mpr ⟨x, List.mem_of_getElem? e, hx⟩
        rw [h] at this; cases this
    cases x with
    | no => rw [show s.fp i = [] from q] at hi; cases hi
    | va d => rw [q.1] at hi; cases hi
    | ow o => cases hx
    | pw o => cases hx
end
section
variable {X : Cx} {e : Expr} {f : En → Option (Sl × En)} {g : En → Option (D × En)} {c : En → Option (Bool × En)}
theorem xe_bor (h : PE X e (rdE X.K f)) : PE X e (rdE X.K (xBor f)) := PEi h fun σ H Q ⟨s, e1, e2, ok, r, en', hf, q⟩ => by
  obtain ⟨⟨r1, en1⟩, k1, k2⟩ := Option.bind_eq_some_iff.mp hf
  replace k2 : (if (!(s.en.any Sl.own) || r1.leaf) = true then some (r1, s.en) else none) = some (r, en') := k2
  split at k2
  · rename_i hl
    cases k2
    refine ⟨viewS s, e1, e2, viewS_ok ok, r, en1, k1, fun v t fr tσ te okt st sl sd => ?_⟩
    obtain ⟨k3, k4⟩ := unS_ok ok okt st
    refine q v (unS s t) fr e1 rfl k3 k4 ?_ (un_side ok sd)
    cases ho : s.en.any Sl.own with
    | false =>
      show SlOk X.K (unB s t) t.H (some v) r fr
      rw [unB_all ok ho]; exact sl
    | true =>
      rw [ho] at hl
      exact sl.leaf (unB_tup ok okt st) (by simpa using hl)
  · cases k2
theorem xe_borV (h : PE X e (rdV X.K g)) : PE X e (rdV X.K (xBorV g)) := PEi h fun σ H Q ⟨s, e1, e2, ok, d, en', hf, q⟩ => by
  obtain ⟨⟨r1, en1⟩, k1, k2⟩ := Option.bind_eq_some_iff.mp hf
  replace k2 : (if (!(s.en.any Sl.own) || r1.flat) = true then some (r1, s.en) else none) = some (d, en') := k2
  split at k2
  · rename_i hl
    cases k2
    refine ⟨viewS s, e1, e2, viewS_ok ok, d, en1, k1, fun v t tσ te okt st rp => ?_⟩
    obtain ⟨k3, k4⟩ := unS_ok ok okt st
    refine q v (unS s t) e1 rfl k3 k4 ?_
    cases ho : s.en.any Sl.own with
    | false =>
      show Rep X.K (unB s t) d v
      rw [unB_all ok ho]; exact rp
    | true =>
      rw [ho] at hl
      exact rp.flat (unB_tup ok okt st) (by simpa using hl)
  · cases k2
theorem xt_bor (h : PT X e (rdT X.K c)) : PT X e (rdT X.K (xBorT c)) := PTi h fun σ H Q ⟨s, e1, e2, ok, b, en', hf, q⟩ => by
  obtain ⟨⟨b1, en1⟩, k1, k2⟩ := Option.bind_eq_some_iff.mp hf
  cases k2
  refine ⟨viewS s, e1, e2, viewS_ok ok, b1, en1, k1, fun t tσ te okt st => ?_⟩
  obtain ⟨k3, k4⟩ := unS_ok ok okt st
  exact q (unS s t) e1 rfl k3 k4
end
section
variable {K : PySem.W.Frag}
def argM (t : Sta) (i : Nat) (v0 : V) (o : O2) (vs : List V) (ds : List D) : Sta := ⟨t.B, t.H, some v0 :: vs.map some, .pw o :: ds.map .va, fun j => if j = 0 then t.fp i else []⟩
theorem argM_ok {t : Sta} {i : Nat} {v0 : V} {o : O2} {vs : List V} {ds : List D} (ok : EnOk K t) (ho : Own K t.B t.H o v0 (t.fp i)) (rp : RepL K t.B ds vs) : EnOk K (argM t i v0 o vs ds) where
  ex := ok.ex
  nt := ok.nt
  tb := ok.tb
  len := by simp [argM, rp.len]
  sl := fun j x e => by
    cases j with
    | zero =>
      cases Option.some.inj (show some (Sl.pw o) = some x from e)
      exact ⟨some v0, rfl, v0, rfl, by show Own K t.B t.H o v0 (if (0 : Nat) = 0 then t.fp i else []); rw [if_pos rfl]; exact ho⟩
    | succ j =>
      have e : (ds.map Sl.va)[j]? = some x := by simpa [argM] using e
      rw [List.getElem?_map] at e
      obtain ⟨d, hd, rfl⟩ := Option.map_eq_some_iff.mp e
      obtain ⟨v, hv, r⟩ := rp.at hd
      exact ⟨some v, by simp [argM, hv], rfl, v, rfl, r⟩
  out := fun j e => by
    cases j with
    | zero => cases e
    | succ j => rfl
  dj := fun j k a hj hk => by
    cases j with
    | zero => cases k with
      | zero => rfl
      | succ k => cases hk
    | succ j => cases hj
  off := fun j a hj => by
    cases j with
    | zero => exact ok.off i a hj
    | succ j => cases hj
theorem argM_in {t : Sta} {i : Nat} {v0 : V} {o : O2} {vs : List V} {ds : List D} {a : Addr} : inF (argM t i v0 o vs ds).fp a ↔ a ∈ t.fp i := by
  refine ⟨fun ⟨j, h⟩ => ?_, fun h => ⟨0, h⟩⟩
  cases j with
  | zero => exact h
  | succ j => cases h
def reSl : Sl → O2 → Sl
  | .pw _, o => .pw o
  | _, o => .ow o
theorem backM {t u : Sta} {i : Nat} {v0 : V} {o o' : O2} {x : Sl} {vs : List V} {ds : List D} (ok : EnOk K t) (ex : t.en[i]? = some x) (hx : x = .ow o ∨ x = .pw o) (ev : t.σ[i]? = some (some v0)) (oku : EnOk K u) (uσ : u.σ = some v0 :: vs.map some) (ue : ∃ r, u.en = .pw o' :: r) (st : Stp (argM t i v0 o vs ds) u) :
    EnOk K ⟨u.B, u.H, t.σ, t.en.set i (reSl x o'), fun j => if j = i then u.fp 0 else t.fp j⟩ ∧ Stp t ⟨u.B, u.H, t.σ, t.en.set i (reSl x o'), fun j => if j = i then u.fp 0 else t.fp j⟩ := by
  obtain ⟨r, ue⟩ := ue
  have hi : i < t.en.length := (List.getElem?_eq_some_iff.mp ex).1
  have hO : Own K u.B u.H o' v0 (u.fp 0) := by
    obtain ⟨ov, e1, q⟩ := oku.sl 0 (.pw o') (by rw [ue]; rfl)
    rw [uσ] at e1
    cases Option.some.inj (show some (some v0) = some ov from e1)
    obtain ⟨v, hv, q⟩ := q
    cases hv
    exact q
  have keep : ∀ j, j ≠ i → ∀ a ∈ t.fp j, u.H a = t.H a ∧ u.B a = none ∧ a ∉ u.fp 0 := fun j hj a ha => by
    have na : a ∉ t.fp i := fun z => hj (ok.dj j i a ha z)
    obtain ⟨w, hw, mw⟩ := ok.cell ⟨j, ha⟩
    refine ⟨by rw [hw]; exact st.hh a w hw (fun z => na (argM_in.mp z)) (.of mw), ?_, fun z => ?_⟩
    · cases e : u.B a with
      | none => rfl
      | some b =>
        rcases st.bn a b e with z | z | z
        · have z : t.B a = some b := z
          rw [ok.off j a ha] at z; cases z
        · have z : t.H a = none := z
          rw [hw] at z; cases z
        · exact (na (argM_in.mp z)).elim
    · rcases st.ff a ⟨0, z⟩ with z | z
      · exact na (argM_in.mp z)
      · have z : t.H a = none := z
        rw [hw] at z; cases z
  refine ⟨⟨oku.ex, by show (t.en.set i _).length = _; rw [List.length_set]; exact ok.len, fun j y e => ?_, fun j e => ?_, fun j k a hj hk => ?_, fun j a hj => ?_, oku.nt, oku.tb⟩, ⟨st.bb, fun a b e => ?_, fun a b h n m => st.hh a b h (fun z => n ⟨i, argM_in.mp z⟩) m, st.dm, fun a ⟨j, hj⟩ => ?_, fun j p e => ?_, List.length_set ..⟩⟩
  · have e : (t.en.set i (reSl x o'))[j]? = some y := e
    show ∃ ov, t.σ[j]? = some ov ∧ SlOk K u.B u.H ov y (if j = i then u.fp 0 else t.fp j)
    by_cases hj : j = i
    · subst hj
      rw [List.getElem?_set_self hi] at e
      cases e
      rw [if_pos rfl]
      refine ⟨_, ev, ?_⟩
      rcases hx with rfl | rfl
      · exact ⟨v0, rfl, hO⟩
      · exact ⟨v0, rfl, hO⟩
    · rw [List.getElem?_set_ne (Ne.symm hj)] at e
      rw [if_neg hj]
      obtain ⟨ov, e1, q⟩ := ok.sl j y e
      exact ⟨ov, e1, q.mono st.bb fun a ha => (keep j hj a ha).1⟩
  · have e : (t.en.set i (reSl x o'))[j]? = none := e
    show (if j = i then u.fp 0 else t.fp j) = []
    have hj : j ≠ i := by rintro rfl; rw [List.getElem?_set_self hi] at e; cases e
    rw [List.getElem?_set_ne (Ne.symm hj)] at e
    rw [if_neg hj]; exact ok.out j e
  · have hj : a ∈ (if j = i then u.fp 0 else t.fp j) := hj
    have hk : a ∈ (if k = i then u.fp 0 else t.fp k) := hk
    by_cases ej : j = i
    · by_cases ek : k = i
      · exact ej.trans ek.symm
      · rw [if_pos ej] at hj; rw [if_neg ek] at hk
        exact ((keep k ek a hk).2.2 hj).elim
    · rw [if_neg ej] at hj
      by_cases ek : k = i
      · rw [if_pos ek] at hk
        exact ((keep j ej a hj).2.2 hk).elim
      · rw [if_neg ek] at hk; exact ok.dj j k a hj hk
  · have hj : a ∈ (if j = i then u.fp 0 else t.fp j) := hj
    by_cases ej : j = i
    · rw [if_pos ej] at hj; exact oku.off 0 a hj
    · rw [if_neg ej] at hj; exact (keep j ej a hj).2.1
  · rcases st.bn a b e with z | z | z
    · exact .inl z
    · exact .inr (.inl z)
    · exact .inr (.inr ⟨i, argM_in.mp z⟩)
  · have hj : a ∈ (if j = i then u.fp 0 else t.fp j) := hj
    by_cases ej : j = i
    · rw [if_pos ej] at hj
      rcases st.ff a ⟨0, hj⟩ with z | z
      · exact .inl ⟨i, argM_in.mp z⟩
      · exact .inr z
    · rw [if_neg ej] at hj; exact .inl ⟨j, hj⟩
  · refine ⟨rfl, ?_⟩
    show ∃ o'', (t.en.set i (reSl x o'))[j]? = some (.pw o'')
    by_cases hj : j = i
    · subst hj
      rw [ex] at e
      cases e
      exact ⟨o', by rw [List.getElem?_set_self hi]; rfl⟩
    · exact ⟨p, by rw [List.getElem?_set_ne (Ne.symm hj)]; exact e⟩
theorem backM_side {t u : Sta} {i : Nat} {v0 : V} {o : O2} {e' : En} {vs : List V} {ds : List D} {fr : List Addr} (ok : EnOk K t) (sd : Side (argM t i v0 o vs ds) u fr) : Side t ⟨u.B, u.H, t.σ, e', fun j => if j = i then u.fp 0 else t.fp j⟩ fr := by
  refine ⟨fun a ha ⟨j, hj⟩ => ?_, sd.b, fun a ha => (sd.new a ha).elim .inl fun z => .inr ⟨i, argM_in.mp z⟩⟩
  have hj : a ∈ (if j = i then u.fp 0 else t.fp j) := hj
  by_cases ej : j = i
  · rw [if_pos ej] at hj; exact sd.no a ha ⟨0, hj⟩
  · rw [if_neg ej] at hj
    rcases sd.new a ha with z | z
    · have z : t.H a = none := z
      obtain ⟨w, hw, _⟩ := ok.cell ⟨j, hj⟩
      rw [hw] at z; cases z
    · exact ej (ok.dj j i a hj (argM_in.mp z))
theorem callM {F : FnT} {n i : Nat} {s t : Sta} {v0 : V} {o o' : O2} {x r : Sl} {vs : List V} {ds : List D} {en2 : En} {Q : VK} {E : XK} (okt : EnOk K t) (st : Stp s t) (ex : t.en[i]? = some x) (hx : x = .ow o ∨ x = .pw o) (ev : t.σ[i]? = some (some v0)) (rp : RepL K t.B ds vs) (hl : ds.length + 1 = n)
    (hF : F (.pw o :: ds.map .va) = some (r, .pw o' :: en2))
    (q : ∀ v u fr, u.σ = t.σ → u.en = t.en.set i (reSl x o') → EnOk K u → Stp s u → SlOk K u.B u.H (some v) r fr → Side s u fr → Q v u.H) : spM K n F (v0 :: vs) t.H Q E := by
  have ho : Own K t.B t.H o v0 (t.fp i) := by
    obtain ⟨ov, e1, k⟩ := okt.sl i x ex
    rw [ev] at e1
    cases e1
    rcases hx with rfl | rfl
    · obtain ⟨v, hv, k⟩ := k; cases hv; exact k
    · obtain ⟨v, hv, k⟩ := k; cases hv; exact k
  refine ⟨by rw [List.length_cons, rp.len, hl], argM t i v0 o vs ds, rfl, rfl, argM_ok okt ho rp, ?_, r, _, hF, fun v u fr uσ ue oku stu sl sd => ?_⟩
  · show (Sl.pw o :: ds.map Sl.va).all isArg = true
    rw [List.all_cons, va_arg]; rfl
  obtain ⟨k1, k2⟩ := backM okt ex hx ev oku uσ ⟨_, ue⟩ stu
  exact q v ⟨u.B, u.H, t.σ, t.en.set i (reSl x o'), fun j => if j = i then u.fp 0 else t.fp j⟩ fr rfl rfl k1 (st.trans k2) sl (st.sideL (backM_side okt sd))
end
def ownAt (e : En) (i : Nat) : Option O2 := match e[i]? with
  | some (.ow o) => some o
  | some (.pw o) => some o
  | _ => none
def reAt (e : En) (i : Nat) (o : O2) : En := match e[i]? with
  | some (.pw _) => e.set i (.pw o)
  | _ => e.set i (.ow o)
theorem ownAt_of {e : En} {i : Nat} {o : O2} (h : ownAt e i = some o) : ∃ x, e[i]? = some x ∧ (x = .ow o ∨ x = .pw o) ∧ ∀ o', reAt e i o' = e.set i (reSl x o') := by
  unfold ownAt at h
  cases q : e[i]? with
  | none => rw [q] at h; cases h
  | some x =>
    rw [q] at h
    cases x with
    | ow y => cases h; exact ⟨_, rfl, .inl rfl, fun o' => by unfold reAt; rw [q]; rfl⟩
    | pw y => cases h; exact ⟨_, rfl, .inr rfl, fun o' => by unfold reAt; rw [q]; rfl⟩
    | _ => cases h
def xCallM (n i : Nat) (F : FnT) (fa : En → Option (List D × En)) : En → Option (Sl × En) := fun e => (ownAt e i).bind fun _ => (fa e).bind fun p => if p.1.length + 1 = n then (ownAt p.2 i).bind fun o => (F (.pw o :: p.1.map .va)).bind fun r => (match r.2 with
  | .pw o' :: _ => some (r.1, reAt p.2 i o')
  | _ => none) else none
theorem own_val {K : PySem.W.Frag} {s : Sta} {i : Nat} {o : O2} (ok : EnOk K s) (h : ownAt s.en i = some o) : ∃ v, s.σ[i]? = some (some v) ∧ Own K s.B s.H o v (s.fp i) := by
  obtain ⟨x, ex, hx, _⟩ := ownAt_of h
  obtain ⟨ov, e1, q⟩ := ok.sl i x ex
  rcases hx with rfl | rfl
  · obtain ⟨v, rfl, q⟩ := q; exact ⟨v, e1, q⟩
  · obtain ⟨v, rfl, q⟩ := q; exact ⟨v, e1, q⟩
section
variable {X : Cx} {e : Expr} {n i : Nat} {F : FnT} {fa : En → Option (List D × En)} {E : XK} {m c : Str}
theorem xe_fnM (h : PE X e (tCall (spM X.K n F) [] E (tCons (tVar i) (rdA X.K fa)))) : PE X e (rdE X.K (xCallM n i F fa)) := PEi h fun σ H Q ⟨s, e1, e2, ok, r, en', hf, q⟩ => by
  obtain ⟨o0, k0, hf⟩ := Option.bind_eq_some_iff.mp hf
  obtain ⟨⟨ds, en1⟩, k1, k2⟩ := Option.bind_eq_some_iff.mp hf
  replace k2 : (if ds.length + 1 = n then (ownAt en1 i).bind fun o => (F (.pw o :: ds.map .va)).bind fun r => (match r.2 with
    | .pw o' :: _ => some (r.1, reAt en1 i o')
    | _ => none) else none) = some (r, en') := k2
  split at k2
  · rename_i hl
    obtain ⟨o, k3, k4⟩ := Option.bind_eq_some_iff.mp k2
    obtain ⟨⟨r1, en2⟩, k5, k6⟩ := Option.bind_eq_some_iff.mp k4
    match en2, k6, k5 with
    | .pw o' :: en3, k6, k5 =>
      cases k6
      obtain ⟨v0, ev0, _⟩ := own_val ok k0
      refine ⟨v0, by rw [← e1]; exact ev0, s, e1, e2, ok, ds, en1, k1, fun vs t tσ te okt st rp => ?_⟩
      obtain ⟨x, ex, hx, hre⟩ := ownAt_of k3
      show spM X.K n F (v0 :: vs ++ []) t.H Q E
      rw [List.append_nil]
      refine callM okt st (by rw [te]; exact ex) hx (by rw [tσ, ← e1]; exact ev0) rp hl k5 fun v u fr uσ ue oku stu sl sd => ?_
      exact q v u fr (uσ.trans tσ) (by rw [ue, te, hre]) oku stu sl sd
  · cases k2
theorem rd_nil {K : PySem.W.Frag} : ∀ σ H Q, rdA K xNil σ H Q → tNil σ H Q := fun σ H Q ⟨s, e1, e2, ok, r, en', hf, q⟩ => by
  cases hf
  show Q [] H
  rw [← e2]
  exact q [] s e1 rfl ok (Stp.refl s) rfl
def xMtM (c m : Str) (n i : Nat) (F : FnT) (fa : En → Option (List D × En)) : En → Option (Sl × En) := fun e => match ownAt e i with
  | some (.obj c' ns _) => if c' = c ∧ m ∉ ns then (fa e).bind fun p => if p.1.length + 1 = n then (ownAt p.2 i).bind fun o => (F (.pw o :: p.1.map .va)).bind fun r => (match r.2 with
    | .pw o' :: _ => some (r.1, reAt p.2 i o')
    | _ => none) else none else none
  | _ => none
theorem xe_mtM (h : PE X e (tMeth (He.ga X.K c) m (spM X.K n F) [] E (tVar i) (rdA X.K fa))) : PE X e (rdE X.K (xMtM c m n i F fa)) := PEi h fun σ H Q ⟨s, e1, e2, ok, r, en', hf, q⟩ => by
  unfold xMtM at hf
  cases ho : ownAt s.en i with
  | none => rw [ho] at hf; cases hf
  | some o0 =>
    rw [ho] at hf
    cases o0 with
    | o1 o => cases hf
    | obj c' ns vs0 =>
      replace hf : (if c' = c ∧ m ∉ ns then (fa s.en).bind fun p => if p.1.length + 1 = n then (ownAt p.2 i).bind fun o => (F (.pw o :: p.1.map .va)).bind fun r => (match r.2 with
        | .pw o' :: _ => some (r.1, reAt p.2 i o')
        | _ => none) else none else none) = some (r, en') := hf
      split at hf
      · rename_i hc
        obtain ⟨rfl, hm⟩ := hc
        obtain ⟨⟨ds, en1⟩, k1, k2⟩ := Option.bind_eq_some_iff.mp hf
        replace k2 : (if ds.length + 1 = n then (ownAt en1 i).bind fun o => (F (.pw o :: ds.map .va)).bind fun r => (match r.2 with
          | .pw o' :: _ => some (r.1, reAt en1 i o')
          | _ => none) else none) = some (r, en') := k2
        split at k2
        · rename_i hl
          obtain ⟨o, k3, k4⟩ := Option.bind_eq_some_iff.mp k2
          obtain ⟨⟨r1, en2⟩, k5, k6⟩ := Option.bind_eq_some_iff.mp k4
          match en2, k6, k5 with
          | .pw o' :: en3, k6, k5 =>
            cases k6
            obtain ⟨v0, ev0, x0, dx0, kvs0, q0, rfl, hx0, hn0, _⟩ := own_val ok ho
            refine ⟨.ref x0, by rw [← e1]; exact ev0, x0, dx0, kvs0, rfl, by rw [← e2]; exact hx0, lookup_none (by rw [hn0]; exact hm), s, e1, e2, ok, ds, en1, k1, fun vs t tσ te okt st rp => ?_⟩
            obtain ⟨x, ex, hx, hre⟩ := ownAt_of k3
            show spM X.K n F (.ref x0 :: (vs ++ [])) t.H Q E
            rw [List.append_nil]
            refine callM okt st (by rw [te]; exact ex) hx (by rw [tσ, ← e1]; exact ev0) rp hl k5 fun v u fr uσ ue oku stu sl sd => ?_
            exact q v u fr (uσ.trans tσ) (by rw [ue, te, hre]) oku stu sl sd
        · cases k2
      · cases hf
end
def xMk (c : Str) (n : Nat) (F : FnT) (fa : En → Option (List D × En)) : En → Option (Sl × En) := fun e => (fa e).bind fun p => if p.1.length + 1 = n then (F (.pw (.obj c [] []) :: p.1.map .va)).bind fun r => (match r with
  | (.va .non, .pw o :: _) => some (.ow o, p.2)
  | _ => none) else none
section
variable {X : Cx} {e : Expr} {n i : Nat} {F : FnT} {fa : En → Option (List D × En)} {E : XK} {c : Str}
theorem xe_mk (h : PE X e (tMake (He.ga X.K c) (spM X.K n F) [] E (rdA X.K fa))) : PE X e (rdE X.K (xMk c n F fa)) := PEi h fun σ H Q ⟨s, e1, e2, ok, r, en', hf, q⟩ => by
  obtain ⟨⟨ds, en1⟩, k1, k2⟩ := Option.bind_eq_some_iff.mp hf
  replace k2 : (if ds.length + 1 = n then (F (.pw (.obj c [] []) :: ds.map .va)).bind fun r => (match r with
    | (.va .non, .pw o :: _) => some (.ow o, en1)
    | _ => none) else none) = some (r, en') := k2
  split at k2
  · rename_i hl
    obtain ⟨⟨r1, en2⟩, k5, k6⟩ := Option.bind_eq_some_iff.mp k2
    match r1, en2, k6, k5 with
    | .va .non, .pw o :: en3, k6, k5 =>
      cases k6
      refine ⟨s, e1, e2, ok, ds, _, k1, fun vs t tσ te okt st rp x dx hx hdx ne => ?_⟩
      show spM X.K n F (.ref x :: (vs ++ [])) _ _ E
      rw [List.append_nil]
      have hx2 : ∀ a b, t.H a = some b → upd (upd t.H dx (.own x)) x (.ins (He.ga X.K c) dx []) a = some b := fun a b ha => by
        rw [upd_ne (ne_of_none ha hx), upd_ne (ne_of_none ha hdx)]; exact ha
      have back : ∀ a, upd (upd t.H dx (.own x)) x (.ins (He.ga X.K c) dx []) a = none → t.H a = none := fun a ha => by
        cases q2 : t.H a with
        | none => rfl
        | some b => rw [hx2 a b q2] at ha; cases ha
      refine ⟨by rw [List.length_cons, rp.len, hl], ⟨t.B, upd (upd t.H dx (.own x)) x (.ins (He.ga X.K c) dx []), some (.ref x) :: vs.map some, .pw (.obj c [] []) :: ds.map .va, fun j => if j = 0 then [x] else []⟩, rfl, rfl, ?_, ?_, _, _, k5, fun v u fr uσ ue oku stu sl sd => ?_⟩
      · refine ⟨fun a b ha => hx2 a b (okt.ex a b ha), by simp [rp.len], fun j y ej => ?_, fun j ej => ?_, fun j k a hj hk => ?_, fun j a hj => ?_, okt.nt, okt.tb.keep fun a o e _ => hx2 a o e⟩
        · cases j with
          | zero =>
            cases Option.some.inj (show some (Sl.pw (.obj c [] [])) = some y from ej)
            exact ⟨some (.ref x), rfl, _, rfl, x, dx, [], [], rfl, upd_same, rfl, ⟨rfl, rfl⟩, rfl, by simp⟩
          | succ j =>
            have e : (ds.map Sl.va)[j]? = some y := by simpa using ej
            rw [List.getElem?_map] at e
            obtain ⟨d, hd, rfl⟩ := Option.map_eq_some_iff.mp e
            obtain ⟨v, hv, r⟩ := rp.at hd
            exact ⟨some v, by simp [hv], rfl, v, rfl, r⟩
        · cases j with
          | zero => cases ej
          | succ j => rfl
        · cases j with
          | zero => cases k with
            | zero => rfl
            | succ k => cases hk
          | succ j => cases hj
        · cases j with
          | zero =>
            cases List.mem_singleton.mp (show a ∈ [x] from hj)
            exact fresh_back okt.ex hx
          | succ j => cases hj
      · show (Sl.pw (.obj c [] []) :: ds.map Sl.va).all isArg = true
        rw [List.all_cons, va_arg]; rfl
      · have inx : ∀ a, inF (fun j => if j = 0 then [x] else ([] : List Addr)) a → a = x := fun a ⟨j, hj⟩ => by
          cases j with
          | zero => exact List.mem_singleton.mp hj
          | succ j => cases hj
        obtain ⟨_, v', ev', rv⟩ := sl
        cases ev'
        cases (show v = .non from rv)
        refine ⟨rfl, ?_⟩
        have hO : Own X.K u.B u.H o (.ref x) (u.fp 0) := by
          obtain ⟨ov, e1, q⟩ := oku.sl 0 (.pw o) (by rw [ue]; rfl)
          rw [uσ] at e1
          cases Option.some.inj (show some (some (V.ref x)) = some ov from e1)
          obtain ⟨v, hv, q⟩ := q
          cases hv
          exact q
        have cellk : ∀ j a, a ∈ t.fp j → u.H a = t.H a ∧ u.B a = none := fun j a ha => by
          obtain ⟨w, hw, mw⟩ := okt.cell ⟨j, ha⟩
          have nx : a ≠ x := ne_of_none hw hx
          refine ⟨by rw [hw]; exact stu.hh a w (hx2 a w hw) (fun z => nx (inx a z)) (.of mw), ?_⟩
          cases eb : u.B a with
          | none => rfl
          | some b =>
            rcases stu.bn a b eb with z | z | z
            · have z : t.B a = some b := z
              rw [okt.off j a ha] at z; cases z
            · have z := back a z
              rw [hw] at z; cases z
            · exact (nx (inx a z)).elim
        refine q (.ref x) ⟨u.B, u.H, t.σ, t.en, t.fp⟩ (u.fp 0) tσ te ⟨oku.ex, okt.len, fun j y ej => ?_, okt.out, okt.dj, fun j a ha => (cellk j a ha).2, oku.nt, oku.tb⟩ (st.trans ⟨stu.bb, fun a b eb => ?_, fun a b ha _ n => stu.hh a b (hx2 a b ha) (fun z => ne_of_none ha hx (inx a z)) n, fun a ha => back a (stu.dm a ha), fun _ z => .inl z, fun _ o z => ⟨rfl, o, z⟩, rfl⟩) ⟨_, rfl, hO⟩ ⟨fun a ha ⟨j, hj⟩ => ?_, oku.off 0, fun a ha => .inl (st.dm a ?_)⟩
        · obtain ⟨ov, e1, k⟩ := okt.sl j y ej
          exact ⟨ov, e1, k.mono stu.bb fun a ha => (cellk j a ha).1⟩
        · rcases stu.bn a b eb with z | z | z
          · exact .inl z
          · exact .inr (.inl (back a z))
          · rw [inx a z]; exact .inr (.inl hx)
        · obtain ⟨w, hw, _⟩ := okt.cell ⟨j, hj⟩
          rcases stu.ff a ⟨0, ha⟩ with z | z
          · rw [inx a z, hx] at hw; cases hw
          · rw [back a z] at hw; cases hw
        · rcases stu.ff a ⟨0, ha⟩ with z | z
          · rw [inx a z]; exact hx
          · exact back a z
  · cases k2
end
def fvAt : List Str → List Fv → Str → Option Fv
  | n :: ns, v :: vs, f => if n = f then some v else fvAt ns vs f
  | _, _, _ => none
def fvPut : List Str → List Fv → Str → Fv → List Fv
  | n :: ns, v :: vs, f, w => if n = f then w :: vs else v :: fvPut ns vs f w
  | _, _, _, w => [w]
def nmPut : List Str → Str → List Str
  | n :: ns, f => if n = f then n :: ns else n :: nmPut ns f
  | [], f => [f]
def leafAt (c : Str) (e : En) (i : Nat) : Option Str → Option O1
  | none => (match ownAt e i with
    | some (.o1 o) => some o
    | _ => none)
  | some f => (match ownAt e i with
    | some (.obj c' ns vs) => if c' = c then (match fvAt ns vs f with
      | some (.ow o) => some o
      | _ => none) else none
    | _ => none)
def setLeaf (e : En) (i : Nat) (o : O1) : Option Str → En
  | none => reAt e i (.o1 o)
  | some f => (match ownAt e i with
    | some (.obj c' ns vs) => reAt e i (.obj c' ns (fvPut ns vs f (.ow o)))
    | _ => e)
def PathV (K : PySem.W.Frag) (c : Str) (σ : L2.St) (H : Hp) (i : Nat) (l : Addr) : Option Str → Prop
  | none => σ[i]? = some (some (.ref l))
  | some f => ∃ x dx kvs, σ[i]? = some (some (.ref x)) ∧ H x = some (.ins (He.ga K c) dx kvs) ∧ kvs.lookup f = some (.ref l)
section
variable {K : PySem.W.Frag} {B H : Hp}
theorem fv_focus {f : Str} {o : O1} : ∀ {ns : List Str} {fs : List Fv} {kvs : List (Str × V)} {q : List Addr}, kvs.map (·.1) = ns → FvL K B H fs (kvs.map (·.2)) q → fvAt ns fs f = some (.ow o) →
    ∃ l, kvs.lookup f = some (.ref l) ∧ l ∈ q ∧ OwnL K B H o l ∧ ∀ (H' : Hp) (o' : O1), (∀ a ∈ q, a ≠ l → H' a = H a) → OwnL K B H' o' l → FvL K B H' (fvPut ns fs f (.ow o')) (kvs.map (·.2)) q
  | [], _, _, _, hn, _, ha => by cases ha
  | n :: ns, [], kvs, q, hn, hf, ha => by cases ha
  | n :: ns, g :: fs, kvs, q, hn, hf, ha => by
    match kvs, hn with
    | (k, v) :: kvs, hn =>
      obtain ⟨rfl, hn2⟩ : k = n ∧ kvs.map (·.1) = ns := by simpa using hn
      obtain ⟨v', r, p, q', hv, rfl, h1, h2, dj⟩ := hf
      cases hv
      replace ha : (if k = f then some g else fvAt ns fs f) = some (.ow o) := ha
      show ∃ l, (match f == k with | true => some v | false => kvs.lookup f) = some (V.ref l) ∧ l ∈ p ++ q' ∧ OwnL K B H o l ∧ ∀ (H' : Hp) (o' : O1), (∀ a ∈ p ++ q', a ≠ l → H' a = H a) → OwnL K B H' o' l → FvL K B H' (if k = f then .ow o' :: fs else g :: fvPut ns fs f (.ow o')) (v :: kvs.map (·.2)) (p ++ q')
      by_cases hk : k = f
      · rw [if_pos hk] at ha
        cases ha
        obtain ⟨l, rfl, rfl, hO⟩ := h1
        rw [show (f == k) = true by simp [hk]]
        simp only [if_pos hk]
        exact ⟨l, rfl, by simp, hO, fun H' o' k hO' => ⟨_, _, [l], q', rfl, rfl, ⟨l, rfl, rfl, hO'⟩, h2.mono (Ex.refl _) fun a ha => k a (by simp [ha]) fun z => dj l (by simp) (z ▸ ha), dj⟩⟩
      · rw [if_neg hk] at ha
        obtain ⟨l, e1, e2, e3, e4⟩ := fv_focus hn2 h2 ha
        rw [show (f == k) = false by simp; exact fun z => hk z.symm]
        simp only [if_neg hk]
        refine ⟨l, e1, List.mem_append_right _ e2, e3, fun H' o' k hO' => ⟨v, _, p, q', rfl, rfl, h1.mono (Ex.refl _) fun a ha => k a (List.mem_append_left _ ha) fun z => dj a ha (z ▸ e2), e4 H' o' (fun a ha => k a (List.mem_append_right _ ha)) hO', dj⟩⟩
theorem own_upd {t : Sta} {i : Nat} {o o' : O2} {v0 : V} {H' : Hp} (ok : EnOk K t) (h : ownAt t.en i = some o) (ev : t.σ[i]? = some (some v0)) (hO : Own K t.B H' o' v0 (t.fp i)) (hk : ∀ a, a ∉ t.fp i → H' a = t.H a) (hd : ∀ a ∈ t.fp i, ∃ w, H' a = some w) :
    EnOk K ⟨t.B, H', t.σ, reAt t.en i o', t.fp⟩ ∧ Stp t ⟨t.B, H', t.σ, reAt t.en i o', t.fp⟩ := by
  obtain ⟨x, ex, hx, hre⟩ := ownAt_of h
  have hi : i < t.en.length := (List.getElem?_eq_some_iff.mp ex).1
  rw [hre]
  refine ⟨⟨fun a b e => ?_, by show (t.en.set i _).length = _; rw [List.length_set]; exact ok.len, fun j y e => ?_, fun j e => ?_, ok.dj, ok.off, ok.nt, ok.tb.keep fun a o e n => ?_⟩, ⟨Ex.refl _, fun _ _ z => .inl z, fun a b e n _ => (by show H' a = some b; rw [hk a fun z => n ⟨i, z⟩]; exact e), fun a e => ?_, fun _ z => .inl z, fun j p e => ?_, List.length_set ..⟩⟩
  · have e : t.B a = some b := e
    show H' a = some b
    rw [hk a fun z => by rw [ok.off i a z] at e; cases e]; exact ok.ex a b e
  · have e : (t.en.set i (reSl x o'))[j]? = some y := e
    by_cases hj : j = i
    · subst hj
      rw [List.getElem?_set_self hi] at e
      cases e
      refine ⟨_, ev, ?_⟩
      rcases hx with rfl | rfl
      · exact ⟨v0, rfl, hO⟩
      · exact ⟨v0, rfl, hO⟩
    · rw [List.getElem?_set_ne (Ne.symm hj)] at e
      obtain ⟨ov, e1, q⟩ := ok.sl j y e
      exact ⟨ov, e1, q.mono (Ex.refl _) fun a ha => hk a fun z => hj (ok.dj j i a ha z)⟩
  · have e : (t.en.set i (reSl x o'))[j]? = none := e
    have hj : j ≠ i := by rintro rfl; rw [List.getElem?_set_self hi] at e; cases e
    rw [List.getElem?_set_ne (Ne.symm hj)] at e
    exact ok.out j e
  · show H' a = some o
    rw [hk a fun z => ?_]; exact e
    obtain ⟨w, hw, mw⟩ := ok.cell ⟨i, z⟩
    rw [hw] at e; cases e; exact n mw
  · by_cases ha : a ∈ t.fp i
    · obtain ⟨w, hw⟩ := hd a ha
      rw [show H' a = none from e] at hw; cases hw
    · rw [← hk a ha]; exact e
  · refine ⟨rfl, ?_⟩
    show ∃ o'', (t.en.set i (reSl x o'))[j]? = some (.pw o'')
    by_cases hj : j = i
    · subst hj
      rw [ex] at e
      cases e
      exact ⟨o', by rw [List.getElem?_set_self hi]; rfl⟩
    · exact ⟨p, by rw [List.getElem?_set_ne (Ne.symm hj)]; exact e⟩
theorem leaf_focus {c : Str} {t : Sta} {i : Nat} {o : O1} {fo : Option Str} (ok : EnOk K t) (h : leafAt c t.en i fo = some o) :
    ∃ l, PathV K c t.σ t.H i l fo ∧ OwnL K t.B t.H o l ∧ ∀ (u : HO) (o' : O1), OwnL K t.B (upd t.H l u) o' l → EnOk K ⟨t.B, upd t.H l u, t.σ, setLeaf t.en i o' fo, t.fp⟩ ∧ Stp t ⟨t.B, upd t.H l u, t.σ, setLeaf t.en i o' fo, t.fp⟩ := by
  cases fo with
  | none =>
    unfold leafAt at h
    cases ho : ownAt t.en i with
    | none => rw [ho] at h; cases h
    | some w =>
      rw [ho] at h
      cases w with
      | obj _ _ _ => cases h
      | o1 w =>
        cases h
        obtain ⟨v, ev, l, rfl, hfp, hO⟩ := own_val ok ho
        refine ⟨l, ev, hO, fun u o' hO' => own_upd ok ho ev ⟨l, rfl, hfp, hO'⟩ (fun a ha => upd_ne fun z => ha (by rw [hfp, z]; simp)) fun a ha => ?_⟩
        rw [hfp] at ha
        cases List.mem_singleton.mp ha
        exact ⟨u, upd_same⟩
  | some f =>
    unfold leafAt at h
    cases ho : ownAt t.en i with
    | none => rw [ho] at h; cases h
    | some w =>
      rw [ho] at h
      cases w with
      | o1 _ => cases h
      | obj c' ns fs =>
        replace h : (if c' = c then (match fvAt ns fs f with
          | some (.ow o) => some o
          | _ => none) else none) = some o := h
        split at h
        · rename_i hc
          subst hc
          have hfv : fvAt ns fs f = some (.ow o) := by
            cases hq : fvAt ns fs f with
            | none => rw [hq] at h; cases h
            | some y =>
              rw [hq] at h
              cases y with
              | va _ => cases h
              | ow y => cases h; rfl
          obtain ⟨v, ev, x, dx, kvs, q, rfl, hx, hn, hF, hfp, nx⟩ := own_val ok ho
          obtain ⟨l, e1, e2, e3, e4⟩ := fv_focus hn hF hfv
          have lx : x ≠ l := fun z => nx (z ▸ e2)
          refine ⟨l, ⟨x, dx, kvs, ev, hx, e1⟩, e3, fun u o' hO' => ?_⟩
          show EnOk K ⟨t.B, upd t.H l u, t.σ, (match ownAt t.en i with
            | some (.obj c' ns vs) => reAt t.en i (.obj c' ns (fvPut ns vs f (.ow o')))
            | _ => t.en), t.fp⟩ ∧ Stp t ⟨t.B, upd t.H l u, t.σ, (match ownAt t.en i with
            | some (.obj c' ns vs) => reAt t.en i (.obj c' ns (fvPut ns vs f (.ow o')))
            | _ => t.en), t.fp⟩
          rw [ho]
          refine own_upd ok ho ev ⟨x, dx, kvs, q, rfl, by rw [upd_ne lx]; exact hx, hn, e4 _ o' (fun a _ na => upd_ne na) hO', hfp, nx⟩ (fun a ha => upd_ne fun z => ha (by rw [hfp, z]; exact List.mem_cons_of_mem _ e2)) fun a ha => ?_
          by_cases hal : a = l
          · exact ⟨u, by rw [hal]; exact upd_same⟩
          · obtain ⟨w, hw, _⟩ := ok.cell ⟨i, ha⟩
            exact ⟨w, by rw [upd_ne hal]; exact hw⟩
        · cases h
end
def tPath (K : PySem.W.Frag) (i : Nat) : Option Str → TE
  | none => tVar i
  | some f => tFld K (tVar i) f
def PathC (K : PySem.W.Frag) (c : Str) : Option Str → Prop
  | none => True
  | some f => Cls K (He.ga K c) ∧ NoAttr K (He.ga K c) f
theorem rd_path {K : PySem.W.Frag} {c : Str} {σ : L2.St} {H : Hp} {i : Nat} {l : Addr} {fo : Option Str} {Q : VK} (h : PathV K c σ H i l fo) (pc : PathC K c fo) (q : Q (.ref l) H) : tPath K i fo σ H Q := by
  cases fo with
  | none => exact ⟨_, h, q⟩
  | some f =>
    obtain ⟨x, dx, kvs, h1, h2, h3⟩ := h
    exact ⟨_, h1, x, _, dx, kvs, _, rfl, h2, pc.1, pc.2, h3, q⟩
variable {W : WX}
def rdQ (K : PySem.W.Frag) (g : En → Option D) : TE := fun σ H Q => ∃ s : Sta, s.σ = σ ∧ s.H = H ∧ EnOk K s ∧ ∃ d, g s.en = some d ∧ ∀ v, Rep K s.B d v → Q v H
def qVar (i : Nat) : En → Option D := fun e => match e[i]? with
  | some (.va d) => some d
  | _ => none
def qC (d : D) : En → Option D := fun _ => some d
section
variable {X : Cx} {a : Expr} {i : Nat}
theorem xq_var (h : PE X a (tVar i)) : PE X a (rdQ X.K (qVar i)) := PEi h fun σ H Q ⟨s, e1, e2, ok, d, hf, q⟩ => by
  unfold qVar at hf
  cases e : s.en[i]? with
  | none => rw [e] at hf; cases hf
  | some x =>
    rw [e] at hf
    cases x with
    | va d' =>
      cases hf
      obtain ⟨ov, ev, _, v, rfl, rp⟩ := ok.sl i _ e
      exact ⟨v, by rw [← e1]; exact ev, q v rp⟩
    | _ => cases hf
theorem xq_c {d : D} {v : V} (h : PE X a (tC v)) (hr : ∀ B, Rep X.K B d v) : PE X a (rdQ X.K (qC d)) := PEi h fun σ H Q ⟨s, e1, e2, ok, d', hf, q⟩ => by
  cases hf
  exact q v (hr _)
end
section
variable {κ : Type} [DecidableEq κ]
def dGet : List κ → List D → κ → Option D
  | k :: ks, d :: ds, j => if k = j then some d else dGet ks ds j
  | _, _, _ => none
def dHas (ks : List κ) (k : κ) : Bool := ks.any fun j => decide (j = k)
def dPutK (ks : List κ) (k : κ) : List κ := if dHas ks k = true then ks else ks ++ [k]
def dRep : List κ → List D → κ → D → List D
  | k :: ks, d :: ds, j, x => (if k = j then x else d) :: dRep ks ds j x
  | _, _, _, _ => []
def dPutD (ks : List κ) (ds : List D) (k : κ) (d : D) : List D := if dHas ks k = true then dRep ks ds k d else ds ++ [d]
variable {K : PySem.W.Frag} {B : Hp}
theorem dGet_rep {k : κ} {d : D} : ∀ {kvs : List (κ × V)} {ds : List D}, RepL K B ds (kvs.map (·.2)) → dGet (kvs.map (·.1)) ds k = some d → ∃ v, valV kvs k = some v ∧ Rep K B d v
  | [], _, _, h => by simp [dGet] at h
  | (j, v) :: r, [], _, h => by simp [dGet] at h
  | (j, v) :: r, d1 :: ds, ⟨v1, r1, e1, a, b⟩, h => by
    cases e1
    replace h : (if j = k then some d1 else dGet (r.map (·.1)) ds k) = some d := h
    by_cases hk : j = k
    · rw [if_pos hk] at h
      cases h
      exact ⟨v, valV_pos (p := (j, v)) hk, a⟩
    · rw [if_neg hk] at h
      rw [valV_neg (p := (j, v)) hk]
      exact dGet_rep b h
theorem dHas_val {k : κ} : ∀ {kvs : List (κ × V)}, dHas (kvs.map (·.1)) k = (valV kvs k).isSome := fun {kvs} => by
  rw [← valV_any]
  unfold dHas
  rw [List.any_map]
  rfl
theorem dRep_rep {k : κ} {d : D} {v : V} (hd : Rep K B d v) : ∀ {kvs : List (κ × V)} {ds : List D}, RepL K B ds (kvs.map (·.2)) → RepL K B (dRep (kvs.map (·.1)) ds k d) ((kvs.map fun kv => if kv.1 = k then (kv.1, v) else kv).map (·.2))
  | [], ds, h => by
    cases ds with
    | nil => rfl
    | cons _ _ => obtain ⟨_, _, h, _⟩ := h; cases h
  | (j, w) :: r, [], h => by cases (show _ = [] from h)
  | (j, w) :: r, d1 :: ds, ⟨v1, r1, e1, a, b⟩ => by
    cases e1
    show RepL K B ((if j = k then d else d1) :: dRep (r.map (·.1)) ds k d) ((if j = k then (j, v) else (j, w)).2 :: _)
    by_cases hk : j = k
    · rw [if_pos hk, if_pos hk]; exact ⟨_, _, rfl, hd, dRep_rep hd b⟩
    · rw [if_neg hk, if_neg hk]; exact ⟨_, _, rfl, a, dRep_rep hd b⟩
theorem put_keys (k : κ) (v : V) (kvs : List (κ × V)) : (putK kvs k v).map (·.1) = dPutK (kvs.map (·.1)) k := by
  unfold putK dPutK
  rw [dHas_val, ← valV_any]
  split
  · rw [List.map_map]
    refine List.map_congr_left fun kv _ => ?_
    show (if kv.1 = k then (kv.1, v) else kv).1 = kv.1
    split <;> rfl
  · simp
theorem put_vals {k : κ} {d : D} {v : V} {kvs : List (κ × V)} {ds : List D} (h : RepL K B ds (kvs.map (·.2))) (hd : Rep K B d v) : RepL K B (dPutD (kvs.map (·.1)) ds k d) ((putK kvs k v).map (·.2)) := by
  unfold putK dPutD
  rw [dHas_val, ← valV_any]
  split
  · exact dRep_rep hd h
  · rw [List.map_append]; exact h.append (.one hd)
end
def D.key : D → Option Key
  | .int i => some (.inl i)
  | .str x => some (.inr x)
  | _ => none
def keysL : List D → Option (List Key)
  | [] => some []
  | d :: ds => d.key.bind fun k => (keysL ds).bind fun ks => some (k :: ks)
def D.keyT : D → Option (List Key)
  | .tup false ds => keysL ds
  | _ => none
theorem key_rep {K : PySem.W.Frag} {B : Hp} {d : D} {k : Key} {v : V} (h : d.key = some k) (r : Rep K B d v) : v = kV k := by
  cases d with
  | int i => cases h; exact r
  | str i => cases h; exact r
  | _ => cases h
theorem keys_rep {K : PySem.W.Frag} {B : Hp} : ∀ {ds : List D} {ks : List Key} {vs : List V}, keysL ds = some ks → RepL K B ds vs → vs = ks.map kV
  | [], _, _, h, r => by cases h; exact r
  | d :: ds, ks, vs, h, ⟨v, r, e, a, b⟩ => by
    obtain ⟨k, h1, h2⟩ := Option.bind_eq_some_iff.mp h
    obtain ⟨ks', h3, h4⟩ := Option.bind_eq_some_iff.mp h2
    cases h4
    rw [e, key_rep h1 a, keys_rep h3 b]; rfl
def getO (o : O1) (d : D) : Option D := match o with
  | .lst ds => (match d with
    | .int i => atI ds i
    | _ => none)
  | .dct ks ds => d.key.bind fun k => dGet ks ds k
  | .dcT ks ds => d.keyT.bind fun k => dGet ks ds k
def putO (o : O1) (d x : D) : Option O1 := match o with
  | .lst ds => (match d with
    | .int i => (ixN ds.length i).bind fun j => some (.lst (ds.set j x))
    | _ => none)
  | .dct ks ds => d.key.bind fun k => if ks.length < 100000 then some (.dct (dPutK ks k) (dPutD ks ds k x)) else none
  | .dcT ks ds => d.keyT.bind fun k => if ks.length < 100000 then some (.dcT (dPutK ks k) (dPutD ks ds k x)) else none
def isLst : O1 → Bool
  | .lst _ => true
  | _ => false
theorem atI_map {α β : Type} {xs : List α} {ys : List β} {i : Int} {x : α} (hl : ys.length = xs.length) (h : atI xs i = some x) : ∃ j : Nat, xs[j]? = some x ∧ ∀ y, ys[j]? = some y → atI ys i = some y := by
  unfold atI at h
  obtain ⟨j, h1, h2⟩ := Option.bind_eq_some_iff.mp h
  exact ⟨j, h2, fun y hy => by unfold atI; rw [hl, h1]; exact hy⟩
theorem atI_rep {K : PySem.W.Frag} {B : Hp} {ds : List D} {vs : List V} {i : Int} {d : D} (r : RepL K B ds vs) (h : atI ds i = some d) : ∃ v, atI vs i = some v ∧ Rep K B d v := by
  obtain ⟨j, h1, h2⟩ := atI_map r.len h
  obtain ⟨v, hv, rv⟩ := r.at h1
  exact ⟨v, h2 v hv, rv⟩
def xIxP (c : Str) (i : Nat) (fo : Option Str) (g : En → Option D) : En → Option (D × En) := fun e => (leafAt c e i fo).bind fun o => (g e).bind fun k => (getO o k).bind fun d => some (d, e)
section
variable {X : Cx} {e : Expr} {st : Stmt} {c : Str} {i : Nat} {fo : Option Str} {g : En → Option D} {f : En → Option (D × En)}
def xPutP (lst : Bool) (c : Str) (i : Nat) (fo : Option Str) (g : En → Option D) (f : En → Option (D × En)) : En → Option Out := fun e => (f e).bind fun p => (leafAt c p.2 i fo).bind fun o => if isLst o = lst then (g p.2).bind fun k => (putO o k p.1).bind fun o' => some (.nx (setLeaf p.2 i o' fo)) else none
theorem xs_putL (pc : PathC X.K c fo) (h : PS X st (tAsg (rdV X.K f) (gSub (tPath X.K i fo) (rdQ X.K g) rSetL))) : PS X st (rdS X.K W (xPutP true c i fo g f)) := PSi h fun D σ H ⟨s, e1, e2, ok, o, hf, q⟩ => by
  obtain ⟨⟨d, en1⟩, k1, k2⟩ := Option.bind_eq_some_iff.mp hf
  obtain ⟨lf, k3, k4⟩ := Option.bind_eq_some_iff.mp k2
  split at k4
  · rename_i hl
    obtain ⟨dk, k5, k6⟩ := Option.bind_eq_some_iff.mp k4
    obtain ⟨lf', k7, k8⟩ := Option.bind_eq_some_iff.mp k6
    cases k8
    refine ⟨s, e1, e2, ok, d, en1, k1, fun v t tσ te okt st rp => ?_⟩
    have k3' : leafAt c t.en i fo = some lf := by rw [te]; exact k3
    obtain ⟨l, pv, hO, upk⟩ := leaf_focus okt k3'
    subst tσ
    refine rd_path pv pc ⟨t, rfl, rfl, okt, dk, by rw [te]; exact k5, fun w rw' => ?_⟩
    cases lf with
    | lst ds =>
      cases dk with
      | int j =>
        obtain ⟨vs, hv, rl⟩ := hO
        obtain ⟨n, m1, m2⟩ := Option.bind_eq_some_iff.mp (show ((ixN ds.length j).bind fun n => some (O1.lst (ds.set n d))) = some lf' from k7)
        cases m2
        cases (show w = .int j from rw')
        obtain ⟨u1, u2⟩ := upk (.lst (vs.set n v)) (.lst (ds.set n d)) ⟨_, upd_same, rl.set rp⟩
        exact ⟨l, vs, j, n, rfl, rfl, hv, by rw [rl.len]; exact m1, q ⟨t.B, upd t.H l (.lst (vs.set n v)), t.σ, setLeaf t.en i (.lst (ds.set n d)) fo, t.fp⟩ (by rw [te]) u1 (st.trans u2)⟩
      | _ => cases k7
    | _ => cases hl
  · cases k4
theorem xs_putD (pc : PathC X.K c fo) (h : PS X st (sDPut (tPath X.K i fo) (rdQ X.K g) (rdV X.K f))) : PS X st (rdS X.K W (xPutP false c i fo g f)) := PSi h fun D σ H ⟨s, e1, e2, ok, o, hf, q⟩ => by
  obtain ⟨⟨d, en1⟩, k1, k2⟩ := Option.bind_eq_some_iff.mp hf
  obtain ⟨lf, k3, k4⟩ := Option.bind_eq_some_iff.mp k2
  split at k4
  · rename_i hl
    obtain ⟨dk, k5, k6⟩ := Option.bind_eq_some_iff.mp k4
    obtain ⟨lf', k7, k8⟩ := Option.bind_eq_some_iff.mp k6
    cases k8
    refine ⟨s, e1, e2, ok, d, en1, k1, fun v t tσ te okt st rp => ?_⟩
    have k3' : leafAt c t.en i fo = some lf := by rw [te]; exact k3
    obtain ⟨l, pv, hO, upk⟩ := leaf_focus okt k3'
    subst tσ
    refine rd_path pv pc ⟨t, rfl, rfl, okt, dk, by rw [te]; exact k5, fun w rw' => ?_⟩
    cases lf with
    | lst ds => cases hl
    | dct ks ds =>
      obtain ⟨kvs, hv, rfl, rl⟩ := hO
      obtain ⟨k, m1, m2⟩ := Option.bind_eq_some_iff.mp (show (dk.key.bind fun k => if (kvs.map (·.1)).length < 100000 then some (O1.dct (dPutK (kvs.map (·.1)) k) (dPutD (kvs.map (·.1)) ds k d)) else none) = some lf' from k7)
      split at m2
      · rename_i hz
        cases m2
        obtain ⟨u1, u2⟩ := upk (.dK (putK kvs k v)) (.dct (dPutK (kvs.map (·.1)) k) (dPutD (kvs.map (·.1)) ds k d)) ⟨_, upd_same, put_keys k v kvs, put_vals rl rp⟩
        rw [key_rep m1 rw']
        exact ⟨l, _, rfl, DPut.k hv (sz_lt (by simpa using hz)), q ⟨t.B, upd t.H l (.dK (putK kvs k v)), t.σ, setLeaf t.en i (.dct (dPutK (kvs.map (·.1)) k) (dPutD (kvs.map (·.1)) ds k d)) fo, t.fp⟩ (by rw [te]) u1 (st.trans u2)⟩
      · cases m2
    | dcT ks ds =>
      obtain ⟨kvs, hv, rfl, rl⟩ := hO
      obtain ⟨k, m1, m2⟩ := Option.bind_eq_some_iff.mp (show (dk.keyT.bind fun k => if (kvs.map (·.1)).length < 100000 then some (O1.dcT (dPutK (kvs.map (·.1)) k) (dPutD (kvs.map (·.1)) ds k d)) else none) = some lf' from k7)
      split at m2
      · rename_i hz
        cases m2
        obtain ⟨u1, u2⟩ := upk (.dT (putK kvs k v)) (.dcT (dPutK (kvs.map (·.1)) k) (dPutD (kvs.map (·.1)) ds k d)) ⟨_, upd_same, put_keys k v kvs, put_vals rl rp⟩
        cases dk with
        | tup kk es =>
          cases kk with
          | true => cases m1
          | false =>
            obtain ⟨b, vs, rfl, sq, rls⟩ := rw'
            rw [keys_rep m1 rls] at sq
            exact ⟨l, _, rfl, DPut.t hv (okt.ex _ _ sq) (sz_lt (by simpa using hz)), q ⟨t.B, upd t.H l (.dT (putK kvs k v)), t.σ, setLeaf t.en i (.dcT (dPutK (kvs.map (·.1)) k) (dPutD (kvs.map (·.1)) ds k d)) fo, t.fp⟩ (by rw [te]) u1 (st.trans u2)⟩
        | _ => cases m1
      · cases m2
  · cases k4
def hasO (o : O1) (d : D) : Option Bool := match o with
  | .lst _ => none
  | .dct ks _ => d.key.bind fun k => some (dHas ks k)
  | .dcT ks _ => d.keyT.bind fun k => some (dHas ks k)
def xInP (neg : Bool) (c : Str) (i : Nat) (fo : Option Str) (f : En → Option (D × En)) : En → Option (Bool × En) := fun e => (f e).bind fun p => (leafAt c p.2 i fo).bind fun o => (hasO o p.1).bind fun b => some (if neg then !b else b, p.2)
def xApp (i : Nat) (f : En → Option (D × En)) : En → Option (Sl × En) := fun e => (leafAt Str.empty e i none).bind fun o0 => if isLst o0 = true then (f e).bind fun p => (match leafAt Str.empty p.2 i none with
  | some (.lst ds) => if ds.length < 100000 then some (.va .non, setLeaf p.2 i (.lst (ds ++ [p.1])) none) else none
  | _ => none) else none
def xExt (i : Nat) (f : En → Option (D × En)) : En → Option (Sl × En) := fun e => (leafAt Str.empty e i none).bind fun o0 => if isLst o0 = true then (f e).bind fun p => (match leafAt Str.empty p.2 i none, p.1 with
  | some (.lst ds), .lst es => if ds.length + es.length < 100000 then some (.va .non, setLeaf p.2 i (.lst (ds ++ es)) none) else none
  | _, _ => none) else none
def xFldS (c : Str) (i : Nat) (fn : Str) : En → Option (D × En) := fun e => match e[i]? with
  | some (.va (.obj c' ns ds)) => if c' = c then (fldD ns ds fn).bind fun d => some (d, e) else none
  | some (.ow (.obj c' ns vs)) => if c' = c then (match fvAt ns vs fn with
    | some (.va d) => some (d, e)
    | _ => none) else none
  | some (.pw (.obj c' ns vs)) => if c' = c then (match fvAt ns vs fn with
    | some (.va d) => some (d, e)
    | _ => none) else none
  | _ => none
theorem fv_va {K : PySem.W.Frag} {B H : Hp} {fn : Str} {d : D} : ∀ {ns : List Str} {fs : List Fv} {kvs : List (Str × V)} {q : List Addr}, kvs.map (·.1) = ns → FvL K B H fs (kvs.map (·.2)) q → fvAt ns fs fn = some (.va d) → ∃ v, kvs.lookup fn = some v ∧ Rep K B d v
  | [], _, _, _, hn, _, ha => by cases ha
  | n :: ns, [], kvs, q, hn, hf, ha => by cases ha
  | n :: ns, g :: fs, kvs, q, hn, hf, ha => by
    match kvs, hn with
    | (k, v) :: kvs, hn =>
      obtain ⟨rfl, hn2⟩ : k = n ∧ kvs.map (·.1) = ns := by simpa using hn
      obtain ⟨v', r, p, q', hv, rfl, h1, h2, dj⟩ := hf
      cases hv
      replace ha : (if k = fn then some g else fvAt ns fs fn) = some (.va d) := ha
      show ∃ v', (match fn == k with | true => some v | false => kvs.lookup fn) = some v' ∧ Rep K B d v'
      by_cases hk : k = fn
      · rw [if_pos hk] at ha
        cases ha
        rw [show (fn == k) = true by simp [hk]]
        exact ⟨v, rfl, h1.1⟩
      · rw [if_neg hk] at ha
        rw [show (fn == k) = false by simp; exact fun z => hk z.symm]
        exact fv_va hn2 h2 ha
theorem xe_fldS {fn : Str} (hc : Cls X.K (He.ga X.K c)) (hn : NoAttr X.K (He.ga X.K c) fn) (h : PE X e (tFld X.K (tVar i) fn)) : PE X e (rdV X.K (xFldS c i fn)) := PEi h fun σ H Q ⟨s, e1, e2, ok, d, en', hf, q⟩ => by
  unfold xFldS at hf
  subst e1 e2
  have own : ∀ c' ns vs, ownAt s.en i = some (.obj c' ns vs) → (if c' = c then (match fvAt ns vs fn with
    | some (.va d) => some (d, s.en)
    | _ => none) else none) = some (d, en') → tFld X.K (tVar i) fn s.σ s.H Q := fun c' ns vs ho hf' => by
    clear hf
    split at hf'
    · rename_i hcc
      subst hcc
      cases hq : fvAt ns vs fn with
      | none => rw [hq] at hf'; cases hf'
      | some y =>
        rw [hq] at hf'
        cases y with
        | ow _ => cases hf'
        | va d' =>
          cases hf'
          obtain ⟨v, ev, x, dx, kvs, qq, rfl, hx, hn', hF, _⟩ := own_val ok ho
          obtain ⟨u, hu, ru⟩ := fv_va hn' hF hq
          exact ⟨_, ev, x, _, dx, kvs, u, rfl, hx, hc, hn, hu, q u s rfl rfl ok (Stp.refl s) ru⟩
    · cases hf'
  cases ei : s.en[i]? with
  | none => rw [ei] at hf; cases hf
  | some x =>
    rw [ei] at hf
    cases x with
    | no => cases hf
    | va d1 =>
      cases d1 with
      | obj c' ns ds =>
        replace hf : (if c' = c then (fldD ns ds fn).bind fun d => some (d, s.en) else none) = some (d, en') := hf
        split at hf
        · rename_i hcc
          subst hcc
          obtain ⟨d2, k3, k4⟩ := Option.bind_eq_some_iff.mp hf
          cases k4
          obtain ⟨ov, ev, _, v, rfl, a, dx, kvs, rfl, hb, hk, rl⟩ := ok.sl i _ ei
          subst hk
          obtain ⟨v2, hv, r2⟩ := fld_rep rl k3
          exact ⟨_, ev, a, _, dx, kvs, v2, rfl, ok.ex _ _ hb, hc, hn, hv, q v2 s rfl rfl ok (Stp.refl s) r2⟩
        · cases hf
      | _ => cases hf
    | ow o =>
      cases o with
      | o1 _ => cases hf
      | obj c' ns vs => exact own c' ns vs (by unfold ownAt; rw [ei]) hf
    | pw o =>
      cases o with
      | o1 _ => cases hf
      | obj c' ns vs => exact own c' ns vs (by unfold ownAt; rw [ei]) hf
def toFv : Sl → Option Fv
  | .va d => some (.va d)
  | .ow (.o1 o) => some (.ow o)
  | .ow o => some (.va o.fz)
  | _ => none
def xFS (c : Str) (i : Nat) (fn : Str) (f : En → Option (Sl × En)) : En → Option Out := fun e => (f e).bind fun p => (toFv p.1).bind fun w => (match ownAt p.2 i with
  | some (.obj c' ns vs) => if c' = c ∧ ns.length < 1000 then some (.nx (reAt p.2 i (.obj c' (nmPut ns fn) (fvPut ns vs fn w)))) else none
  | _ => none)
theorem put_names (fn : Str) (v : V) : ∀ kvs : List (Str × V), (putF fn v kvs).map (·.1) = nmPut (kvs.map (·.1)) fn
  | [] => rfl
  | (k, w) :: r => by
    show (if k = fn then (k, v) :: r else (k, w) :: putF fn v r).map (·.1) = (if k = fn then k :: r.map (·.1) else k :: nmPut (r.map (·.1)) fn)
    by_cases hk : k = fn
    · rw [if_pos hk, if_pos hk]; rfl
    · rw [if_neg hk, if_neg hk, List.map_cons, put_names fn v r]
theorem put_fv {K : PySem.W.Frag} {B H : Hp} {fn : Str} {w : Fv} {y : V} {pw : List Addr} (hw : FvOk K B H w y pw) : ∀ {ns : List Str} {fs : List Fv} {kvs : List (Str × V)} {q : List Addr}, kvs.map (·.1) = ns → FvL K B H fs (kvs.map (·.2)) q → (∀ a ∈ pw, a ∉ q) →
    ∃ q', FvL K B H (fvPut ns fs fn w) ((putF fn y kvs).map (·.2)) q' ∧ ∀ a ∈ q', a ∈ q ∨ a ∈ pw
  | [], fs, kvs, q, hn, hf, dj => by
    cases kvs with
    | cons _ _ => cases hn
    | nil =>
      cases fs with
      | nil =>
        obtain ⟨_, rfl⟩ := hf
        exact ⟨pw ++ [], ⟨y, [], pw, [], rfl, rfl, hw, ⟨rfl, rfl⟩, fun _ _ z => by cases z⟩, fun a ha => .inr (by simpa using ha)⟩
      | cons g fs => obtain ⟨_, _, _, _, h, _⟩ := hf; cases h
  | n :: ns, [], kvs, q, hn, hf, dj => by
    cases kvs with
    | nil => cases hn
    | cons _ _ => cases hf.1
  | n :: ns, g :: fs, kvs, q, hn, hf, dj => by
    match kvs, hn with
    | (k, v) :: kvs, hn =>
      obtain ⟨rfl, hn2⟩ : k = n ∧ kvs.map (·.1) = ns := by simpa using hn
      obtain ⟨v', r, p, q', hv, rfl, h1, h2, dj1⟩ := hf
      cases hv
      show ∃ q'', FvL K B H (if k = fn then w :: fs else g :: fvPut ns fs fn w) ((if k = fn then (k, y) :: kvs else (k, v) :: putF fn y kvs).map (·.2)) q'' ∧ ∀ a ∈ q'', a ∈ p ++ q' ∨ a ∈ pw
      by_cases hk : k = fn
      · rw [if_pos hk, if_pos hk]
        exact ⟨pw ++ q', ⟨y, _, pw, q', rfl, rfl, hw, h2, fun a ha z => dj a ha (List.mem_append_right _ z)⟩, fun a ha => (List.mem_append.mp ha).elim .inr fun z => .inl (List.mem_append_right _ z)⟩
      · rw [if_neg hk, if_neg hk]
        obtain ⟨q'', i1, i2⟩ := put_fv hw hn2 h2 fun a ha z => dj a ha (List.mem_append_right _ z)
        refine ⟨p ++ q'', ⟨v, _, p, q'', rfl, rfl, h1, i1, fun a ha z => ?_⟩, fun a ha => (List.mem_append.mp ha).elim (fun z => .inl (List.mem_append_left _ z)) fun z => (i2 a z).elim (fun y => .inl (List.mem_append_right _ y)) .inr⟩
        rcases i2 a z with z | z
        · exact dj1 a ha z
        · exact dj a z (List.mem_append_left _ ha)
theorem to_fv {K : PySem.W.Frag} {s t : Sta} {v : V} {x : Sl} {fr : List Addr} {w : Fv} (ok : EnOk K t) (st : Stp s t) (sl : SlOk K t.B t.H (some v) x fr) (sd : Side s t fr) (h : toFv x = some w) :
    ∃ (B' : Hp) (pw : List Addr), EnOk K ⟨B', t.H, t.σ, t.en, t.fp⟩ ∧ Stp s ⟨B', t.H, t.σ, t.en, t.fp⟩ ∧ FvOk K B' t.H w v pw ∧ (∀ a ∈ pw, ¬ inF t.fp a ∧ B' a = none ∧ (s.H a = none ∨ inF s.fp a)) := by
  cases x with
  | no => cases h
  | pw o => cases h
  | va d =>
    cases h
    obtain ⟨_, v', ev, rp⟩ := sl
    cases ev
    exact ⟨t.B, [], ok, st, ⟨rp, rfl⟩, fun _ z => by cases z⟩
  | ow o =>
    obtain ⟨v', ev, ho⟩ := sl
    cases ev
    cases o with
    | o1 o =>
      cases h
      obtain ⟨l, rfl, rfl, ho⟩ := ho
      exact ⟨t.B, [l], ok, st, ⟨l, rfl, rfl, ho⟩, fun a ha => ⟨sd.no a ha, sd.b a ha, sd.new a ha⟩⟩
    | obj c' ns vs =>
      cases h
      obtain ⟨k1, k2, k3⟩ := frz_res ok st ho sd
      exact ⟨joinB t.B t.H fr, [], k1, k2, ⟨k3, rfl⟩, fun _ z => by cases z⟩
theorem xs_fs {fn : Str} {fe : En → Option (Sl × En)} (hc : Cls X.K (He.ga X.K c)) (hn : NoAttr X.K (He.ga X.K c) fn) (h : PS X st (sFld X.K (tVar i) (rdE X.K fe) fn)) : PS X st (rdS X.K W (xFS c i fn fe)) := PSi h fun D σ H ⟨s, e1, e2, ok, o, hf, q⟩ => by
  obtain ⟨⟨r, en1⟩, k1, k2⟩ := Option.bind_eq_some_iff.mp hf
  obtain ⟨w, k3, k4⟩ := Option.bind_eq_some_iff.mp k2
  refine ⟨s, e1, e2, ok, r, en1, k1, fun v t fr tσ te okt stt sl sd => ?_⟩
  cases ho : ownAt en1 i with
  | none => rw [show (match ownAt (r, en1).2 i with | some (.obj c' ns vs) => (if c' = c ∧ ns.length < 1000 then some (Out.nx (reAt (r, en1).2 i (.obj c' (nmPut ns fn) (fvPut ns vs fn w)))) else none) | _ => none) = none by show (match ownAt en1 i with | some (.obj c' ns vs) => _ | _ => _) = none; rw [ho]] at k4; cases k4
  | some o2 =>
    cases o2 with
    | o1 _ => rw [show (match ownAt (r, en1).2 i with | some (.obj c' ns vs) => (if c' = c ∧ ns.length < 1000 then some (Out.nx (reAt (r, en1).2 i (.obj c' (nmPut ns fn) (fvPut ns vs fn w)))) else none) | _ => none) = none by show (match ownAt en1 i with | some (.obj c' ns vs) => _ | _ => _) = none; rw [ho]] at k4; cases k4
    | obj c' ns vs =>
      replace k4 : (match ownAt en1 i with | some (.obj c' ns vs) => (if c' = c ∧ ns.length < 1000 then some (Out.nx (reAt en1 i (.obj c' (nmPut ns fn) (fvPut ns vs fn w)))) else none) | _ => none) = some o := k4
      rw [ho] at k4
      replace k4 : (if c' = c ∧ ns.length < 1000 then some (Out.nx (reAt en1 i (.obj c' (nmPut ns fn) (fvPut ns vs fn w)))) else none) = some o := k4
      split at k4
      · rename_i hcc
        obtain ⟨rfl, hns⟩ := hcc
        cases k4
        obtain ⟨B', pw, ok1, st1, fo, pws⟩ := to_fv okt stt sl sd k3
        have hot : ownAt t.en i = some (.obj c' ns vs) := by rw [te]; exact ho
        obtain ⟨v0, ev0, x, dx, kvs, qq, rfl, hx, hn', hF, hfp, nx⟩ := own_val (s := ⟨B', t.H, t.σ, t.en, t.fp⟩) ok1 hot
        replace hx : t.H x = some (.ins (He.ga X.K c') dx kvs) := hx
        replace hfp : t.fp i = x :: qq := hfp
        replace ev0 : t.σ[i]? = some (some (.ref x)) := ev0
        have dpw : ∀ a ∈ pw, a ∉ qq := fun a ha z => (pws a ha).1 ⟨i, by rw [hfp]; exact List.mem_cons_of_mem _ z⟩
        have npw : x ∉ pw := fun z => (pws x z).1 ⟨i, by rw [hfp]; exact List.mem_cons_self⟩
        obtain ⟨q', f1, f2⟩ := put_fv (fn := fn) fo hn' hF dpw
        have nxq : x ∉ q' := fun z => (f2 x z).elim nx npw
        have hcell : ∀ a ∈ q', a ≠ x := fun a ha z => nxq (z ▸ ha)
        subst tσ
        refine ⟨.ref x, ev0, x, _, dx, kvs, rfl, hx, hc, hn, by rw [← List.length_map (f := (·.1)), hn']; exact hns, ?_⟩
        -- the new state
        obtain ⟨y, ey, hy, hre⟩ := ownAt_of hot
        have hi : i < t.en.length := (List.getElem?_eq_some_iff.mp ey).1
        have hO : Own X.K B' (upd t.H x (.ins (He.ga X.K c') dx (putF fn v kvs))) (.obj c' (nmPut ns fn) (fvPut ns vs fn w)) (.ref x) (x :: q') :=
          ⟨x, dx, putF fn v kvs, q', rfl, upd_same, by rw [put_names, hn'], f1.mono (Ex.refl _) fun a ha => upd_ne (hcell a ha), rfl, nxq⟩
        have offx : B' x = none := ok1.off i x (by rw [hfp]; exact List.mem_cons_self)
        refine q ⟨B', upd t.H x (.ins (He.ga X.K c') dx (putF fn v kvs)), t.σ, reAt t.en i (.obj c' (nmPut ns fn) (fvPut ns vs fn w)), fun j => if j = i then x :: q' else t.fp j⟩ (by rw [te]) ?_ ?_
        · rw [hre]
          have inq : ∀ a ∈ x :: q', a ∈ t.fp i ∨ a ∈ pw := fun a ha => by
            rcases List.mem_cons.mp ha with rfl | ha
            · exact .inl (by rw [hfp]; exact List.mem_cons_self)
            · rcases f2 a ha with z | z
              · exact .inl (by rw [hfp]; exact List.mem_cons_of_mem _ z)
              · exact .inr z
          refine ⟨fun a b eb => ?_, by show (t.en.set i _).length = _; rw [List.length_set]; exact okt.len, fun j z ej => ?_, fun j ej => ?_, fun j k a hj hk => ?_, fun j a hj => ?_, ok1.nt, okt.tb.own hx trivial⟩
          · replace eb : B' a = some b := eb
            show upd t.H x _ a = some b
            rw [upd_ne fun z => by rw [z, offx] at eb; cases eb]
            exact ok1.ex a b eb
          · replace ej : (t.en.set i (reSl y (.obj c' (nmPut ns fn) (fvPut ns vs fn w))))[j]? = some z := ej
            show ∃ ov, t.σ[j]? = some ov ∧ SlOk X.K B' _ ov z (if j = i then x :: q' else t.fp j)
            by_cases hj : j = i
            · subst hj
              rw [List.getElem?_set_self hi] at ej
              cases ej
              rw [if_pos rfl]
              refine ⟨_, ev0, ?_⟩
              rcases hy with rfl | rfl
              · exact ⟨_, rfl, hO⟩
              · exact ⟨_, rfl, hO⟩
            · rw [List.getElem?_set_ne (Ne.symm hj)] at ej
              rw [if_neg hj]
              obtain ⟨ov, e1, qs⟩ := ok1.sl j z ej
              exact ⟨ov, e1, qs.mono (Ex.refl _) fun a ha => upd_ne fun z => hj (ok1.dj j i a ha (by rw [z]; show x ∈ t.fp i; rw [hfp]; exact List.mem_cons_self))⟩
          · replace ej : (t.en.set i (reSl y (.obj c' (nmPut ns fn) (fvPut ns vs fn w))))[j]? = none := ej
            show (if j = i then x :: q' else t.fp j) = []
            have hj : j ≠ i := by rintro rfl; rw [List.getElem?_set_self hi] at ej; cases ej
            rw [List.getElem?_set_ne (Ne.symm hj)] at ej
            rw [if_neg hj]; exact okt.out j ej
          · replace hj : a ∈ (if j = i then x :: q' else t.fp j) := hj
            replace hk : a ∈ (if k = i then x :: q' else t.fp k) := hk
            have cross : ∀ m, m ≠ i → a ∈ t.fp m → a ∈ x :: q' → False := fun m hm h1 h2 => by
              rcases inq a h2 with z | z
              · exact hm (okt.dj m i a h1 z)
              · exact (pws a z).1 ⟨m, h1⟩
            by_cases ej : j = i
            · by_cases ek : k = i
              · exact ej.trans ek.symm
              · rw [if_pos ej] at hj; rw [if_neg ek] at hk; exact (cross k ek hk hj).elim
            · rw [if_neg ej] at hj
              by_cases ek : k = i
              · rw [if_pos ek] at hk; exact (cross j ej hj hk).elim
              · rw [if_neg ek] at hk; exact okt.dj j k a hj hk
          · replace hj : a ∈ (if j = i then x :: q' else t.fp j) := hj
            by_cases ej : j = i
            · rw [if_pos ej] at hj
              rcases inq a hj with z | z
              · exact ok1.off i a z
              · exact (pws a z).2.1
            · rw [if_neg ej] at hj; exact ok1.off j a hj
        · rw [hre]
          refine ⟨st1.bb, st1.bn, fun a b ha n nt => ?_, fun a ha => ?_, fun a ⟨j, hj⟩ => ?_, fun j p ej => ?_, by show (t.en.set i _).length = _; rw [List.length_set]; exact stt.ln⟩
          · have h1 := st1.hh a b ha n nt
            show upd t.H x _ a = some b
            rw [upd_ne ?_]
            · exact h1
            · intro z
              rcases stt.ff a ⟨i, by rw [hfp, z]; exact List.mem_cons_self⟩ with y | y
              · exact n y
              · rw [ha] at y; cases y
          · refine stt.dm a ?_
            replace ha : upd t.H x _ a = none := ha
            by_cases z : a = x
            · rw [z, upd_same] at ha; cases ha
            · rw [upd_ne z] at ha; exact ha
          · replace hj : a ∈ (if j = i then x :: q' else t.fp j) := hj
            by_cases ej : j = i
            · rw [if_pos ej] at hj
              rcases List.mem_cons.mp hj with rfl | hj
              · exact stt.ff a ⟨i, by rw [hfp]; exact List.mem_cons_self⟩
              · rcases f2 a hj with z | z
                · exact stt.ff a ⟨i, by rw [hfp]; exact List.mem_cons_of_mem _ z⟩
                · exact (pws a z).2.2.elim .inr .inl
            · rw [if_neg ej] at hj; exact stt.ff a ⟨j, hj⟩
          · obtain ⟨p1, o1, p2⟩ := stt.pn j p ej
            refine ⟨p1, ?_⟩
            show ∃ o'', (t.en.set i (reSl y _))[j]? = some (.pw o'')
            by_cases hj : j = i
            · subst hj
              rw [ey] at p2
              cases p2
              exact ⟨_, by rw [List.getElem?_set_self hi]; rfl⟩
            · exact ⟨o1, by rw [List.getElem?_set_ne (Ne.symm hj)]; exact p2⟩
      · cases k4
end
def gPutD (c : Str) (i : Nat) (fo : Option Str) (g : En → Option D) : D → En → Option En := fun d e => (leafAt c e i fo).bind fun o => if isLst o = true then none else (g e).bind fun k => (putO o k d).bind fun o' => some (setLeaf e i o' fo)
section
variable {X : Cx} {e : Expr} {c : Str} {i : Nat} {fo : Option Str} {g : En → Option D}
end
variable {W : WX}
def wipeE (e : En) : List Nat → En
  | [] => e
  | v :: vs => (wipeE e vs).set v .no
def freeS (e : En) (v : Nat) : Bool := match e[v]? with
  | none => false
  | some (.pw _) => false
  | _ => true
section
variable {K : PySem.W.Frag}
end
def lcM (vs : List Nat) (g : D → En → Option En) (c : En → Option (Bool × En)) (f : En → Option (D × En)) : List D → En → Option (List D × En)
  | [], e => some ([], e)
  | d :: ds, e => (g d e).bind fun e1 => (c e1).bind fun p => if p.1 = true then (f p.2).bind fun q => if (vs.all (freeS q.2)) = true then (lcM vs g c f ds (wipeE q.2 vs)).bind fun r => some (q.1 :: r.1, r.2) else none
      else if (vs.all (freeS p.2)) = true then lcM vs g c f ds (wipeE p.2 vs) else none
def xLc (vs : List Nat) (it : En → Option (List D × En)) (g : D → En → Option En) (c : En → Option (Bool × En)) (f : En → Option (D × En)) : En → Option (Sl × En) := fun e => (it e).bind fun p => if (vs.all (freeS p.2) && decide (p.1.length < 100000)) = true then (lcM vs g c f p.1 (wipeE p.2 vs)).bind fun r => some (.ow (.o1 (.lst r.1)), r.2) else none
section
variable {K : PySem.W.Frag} {vs : List Nat} {it : En → Option (List D × En)} {g : TG} {gD : D → En → Option En} {c : En → Option (Bool × En)} {f : En → Option (D × En)}
end
section
variable {X : Cx} {e : Expr} {st : Stmt} {i : Nat} {vs : List Nat} {it : En → Option (List D × En)} {g : TG} {gD : D → En → Option En} {c : En → Option (Bool × En)} {f : En → Option (D × En)} {h : En → Option (Sl × En)}
end
def pI (g : Int → Int → D) : List D → Option Sl
  | [.int i, .int j] => some (.va (g i j))
  | _ => none
def pIc (c : Int → Int → Bool) (g : Int → Int → D) : List D → Option Sl
  | [.int i, .int j] => if c i j = true then some (.va (g i j)) else none
  | _ => none
def pU (g : Int → D) : List D → Option Sl
  | [.int i] => some (.va (g i))
  | _ => none
section
variable {K : PySem.W.Frag}
theorem two_of {B : Hp} {x y : D} {vs : List V} (h : RepL K B [x, y] vs) : ∃ v w, vs = [v, w] ∧ Rep K B x v ∧ Rep K B y w := by
  obtain ⟨v, r, rfl, r1, w, r', rfl, r2, r3⟩ := h
  cases (show r' = [] from r3)
  exact ⟨v, w, rfl, r1, r2⟩
theorem one_of {B : Hp} {x : D} {vs : List V} (h : RepL K B [x] vs) : ∃ v, vs = [v] ∧ Rep K B x v := by
  obtain ⟨v, r, rfl, r1, r2⟩ := h
  cases (show r = [] from r2)
  exact ⟨v, rfl, r1⟩
theorem ps_I0 {g : Int → Int → V} {gD : Int → Int → D} (h : ∀ i j B, Rep K B (gD i j) (g i j)) : PrS K (r2L (rI0 g)) (pI gD) := PrS.val fun B H ds vs x e rp hg => by
  match ds, hg with
  | [.int i, .int j], hg =>
    cases hg
    obtain ⟨v, w, rfl, r1, r2⟩ := two_of rp
    cases (show v = .int i from r1)
    cases (show w = .int j from r2)
    exact ⟨_, _, rfl, h i j B, fun Q q => ⟨i, j, rfl, rfl, q⟩⟩
theorem ps_I {C : Int → Int → Prop} {c : Int → Int → Bool} {g : Int → Int → V} {gD : Int → Int → D} (hc : ∀ i j, c i j = true → C i j) (h : ∀ i j B, Rep K B (gD i j) (g i j)) : PrS K (r2L (rI C g)) (pIc c gD) := PrS.val fun B H ds vs x e rp hg => by
  match ds, hg with
  | [.int i, .int j], hg =>
    replace hg : (if c i j = true then some (Sl.va (gD i j)) else none) = some x := hg
    split at hg
    · rename_i hcc
      cases hg
      obtain ⟨v, w, rfl, r1, r2⟩ := two_of rp
      cases (show v = .int i from r1)
      cases (show w = .int j from r2)
      exact ⟨_, _, rfl, h i j B, fun Q q => ⟨i, j, rfl, rfl, hc i j hcc, q⟩⟩
    · cases hg
theorem ps_U {g : Int → V} {gD : Int → D} (h : ∀ i B, Rep K B (gD i) (g i)) : PrS K (r1L (rU g)) (pU gD) := PrS.val fun B H ds vs x e rp hg => by
  match ds, hg with
  | [.int i], hg =>
    cases hg
    obtain ⟨v, rfl, r1⟩ := one_of rp
    cases (show v = .int i from r1)
    exact ⟨_, _, rfl, h i B, fun Q q => ⟨i, rfl, q⟩⟩
end
def pAdd := pI fun i j => .int (i + j)
def pSub := pI fun i j => .int (i - j)
def pLt := pI fun i j => .bl (decide (i < j))
def pLe := pI fun i j => .bl (decide (i ≤ j))
def pGt := pI fun i j => .bl (decide (j < i))
def pGe := pI fun i j => .bl (decide (j ≤ i))
def cMul (i j : Int) : Bool := decide (i.natAbs.log2 + j.natAbs.log2 < 1000000)
def pMul := pIc cMul fun i j => .int (i * j)
def cDiv (_ j : Int) : Bool := decide (0 < j) && decide (j.natAbs.log2 < 9000)
def pDiv := pIc cDiv fun i j => .int (i / j)
def cPos (_ j : Int) : Bool := decide (0 < j)
def pMod := pIc cPos fun i j => .int (i % j)
def cPow (i j : Int) : Bool := decide (0 ≤ j) && (decide (j ≤ 1000000) && decide (i.natAbs < 2 ^ 64))
def pPow := pIc cPow fun i j => .int (i ^ j.toNat)
def pNeg := pU fun i => .int (-i)
section
variable {K : PySem.W.Frag}
theorem ps_add : PrS K (r2L (rI0 fun i j => .int (i + j))) pAdd := ps_I0 fun _ _ _ => rfl
theorem ps_sub : PrS K (r2L (rI0 fun i j => .int (i - j))) pSub := ps_I0 fun _ _ _ => rfl
theorem ps_lt : PrS K (r2L (rI0 fun i j => .bl (decide (i < j)))) pLt := ps_I0 fun _ _ _ => rfl
theorem ps_le : PrS K (r2L (rI0 fun i j => .bl (decide (i ≤ j)))) pLe := ps_I0 fun _ _ _ => rfl
theorem ps_gt : PrS K (r2L (rI0 fun i j => .bl (decide (j < i)))) pGt := ps_I0 fun _ _ _ => rfl
theorem ps_ge : PrS K (r2L (rI0 fun i j => .bl (decide (j ≤ i)))) pGe := ps_I0 fun _ _ _ => rfl
theorem ps_mul : PrS K (r2L (rI CMulW fun i j => .int (i * j))) pMul := ps_I (fun i j h => (of_decide_eq_true (p := i.natAbs.log2 + j.natAbs.log2 < 1000000) h)) fun _ _ _ => rfl
theorem ps_div : PrS K (r2L (rI CDivW fun i j => .int (i / j))) pDiv := ps_I (fun _ _ h => let ⟨a, b⟩ := Bool.and_eq_true_iff.mp h; ⟨of_decide_eq_true a, of_decide_eq_true b⟩) fun _ _ _ => rfl
theorem ps_mod : PrS K (r2L (rI (fun _ j => 0 < j) fun i j => .int (i % j))) pMod := ps_I (fun _ _ h => of_decide_eq_true h) fun _ _ _ => rfl
theorem ps_pow : PrS K (r2L (rI CPow fun i j => .int (i ^ j.toNat))) pPow := ps_I (fun _ _ h => let ⟨a, b⟩ := Bool.and_eq_true_iff.mp h; let ⟨b, c⟩ := Bool.and_eq_true_iff.mp b; ⟨of_decide_eq_true a, of_decide_eq_true b, of_decide_eq_true c⟩) fun _ _ _ => rfl
theorem ps_neg : PrS K (r1L (rU fun i => .int (-i))) pNeg := ps_U fun _ _ => rfl
end
mutual
def D.toP : D → PyData
  | .bl b => .bool b
  | .int i => .int i
  | .str x => .str x
  | .lst ds => .list (D.toPs ds)
  | .tup _ ds => .tuple (D.toPs ds)
  | _ => .none
def D.toPs : List D → List PyData
  | [] => []
  | d :: ds => d.toP :: D.toPs ds
end
mutual
def D.pl : Nat → D → Bool
  | _, .non => true
  | _, .bl _ => true
  | _, .int _ => true
  | _, .str x => PySem.PyData.strOk x
  | n + 1, .lst ds => D.pls n ds
  | n + 1, .tup _ ds => D.pls n ds
  | _, _ => false
def D.pls : Nat → List D → Bool
  | _, [] => true
  | n, d :: ds => d.pl n && D.pls n ds
end
mutual
def D.eqv : D → D → Bool
  | .non, .non => true
  | .bl a, .bl b => a == b
  | .bl a, .int j => (if a then 1 else 0) == j
  | .int i, .bl b => i == (if b then 1 else 0)
  | .int i, .int j => i == j
  | .str x, .str y => x == y
  | .lst xs, .lst ys => D.eqvs xs ys
  | .tup _ xs, .tup _ ys => D.eqvs xs ys
  | _, _ => false
def D.eqvs : List D → List D → Bool
  | [], [] => true
  | x :: xs, y :: ys => x.eqv y && D.eqvs xs ys
  | _, _ => false
end
section
variable {K : PySem.W.Frag} {B : Hp}
mutual
theorem pl_dp : ∀ {n : Nat} {d : D} {v : V}, d.pl n = true → Rep K B d v → Dp K B v d.toP
  | _, .non, _, _, r => by cases (show _ = V.non from r); simp only [D.toP]; exact .non
  | _, .bl b, _, _, r => by cases (show _ = V.bl b from r); rw [D.toP]; exact .bl b
  | _, .int i, _, _, r => by cases (show _ = V.int i from r); rw [D.toP]; exact .int i
  | _, .str x, _, _, r => by cases (show _ = V.str x from r); rw [D.toP]; exact .str x
  | n + 1, .lst ds, _, h, ⟨a, vs, e, s, r⟩ => by rw [e, D.toP]; exact .lst (sq_of s) (pls_dp (by rw [D.pl] at h; exact h) r)
  | n + 1, .tup k ds, _, h, ⟨a, vs, e, s, r⟩ => by rw [e, D.toP]; exact .tup s.sq (pls_dp (by rw [D.pl] at h; exact h) r)
  | 0, .lst ds, _, h, _ => by rw [D.pl] at h; cases h; all_goals intros; contradiction
  | 0, .tup k ds, _, h, _ => by rw [D.pl] at h; cases h; all_goals intros; contradiction
  | n, .scr _, _, h, _ => by cases n <;> simp [D.pl] at h
  | n, .dct _ _, _, h, _ => by cases n <;> simp [D.pl] at h
  | n, .dcT _ _, _, h, _ => by cases n <;> simp [D.pl] at h
  | n, .obj _ _ _, _, h, _ => by cases n <;> simp [D.pl] at h
theorem pls_dp : ∀ {n : Nat} {ds : List D} {vs : List V}, D.pls n ds = true → RepL K B ds vs → DpAll K B vs (D.toPs ds)
  | _, [], _, _, r => by rw [show _ = [] from r, D.toPs]; exact .nil
  | n, d :: ds, _, h, ⟨v, r, e, a, b⟩ => by
    obtain ⟨h1, h2⟩ : d.pl n = true ∧ D.pls n ds = true := by rw [D.pls] at h; exact Bool.and_eq_true_iff.mp h
    rw [e, D.toPs]
    exact .cons (pl_dp h1 a) (pls_dp h2 b)
end
end
mutual
theorem pl_lay : ∀ {n : Nat} {d : D}, d.pl n = true → d.toP.canLay0 = true ∧ d.toP.depth ≤ n
  | _, .non, _ => by simp [D.toP, PyData.canLay0, PyData.depth]
  | _, .bl b, _ => by simp [D.toP, PyData.canLay0, PyData.depth]
  | _, .int i, _ => by simp [D.toP, PyData.canLay0, PyData.depth]
  | _, .str x, h => by simp only [D.pl] at h; simp [D.toP, PyData.canLay0, PyData.depth, h]
  | n + 1, .lst ds, h => by
    simp only [D.pl] at h
    have := pls_lay h
    simp [D.toP, PyData.canLay0, PyData.depth, this.1, this.2]
  | n + 1, .tup k ds, h => by
    simp only [D.pl] at h
    have := pls_lay h
    simp [D.toP, PyData.canLay0, PyData.depth, this.1, this.2]
  | 0, .lst ds, h => by simp [D.pl] at h
  | 0, .tup k ds, h => by simp [D.pl] at h
  | n, .scr _, h => by cases n <;> simp [D.pl] at h
  | n, .dct _ _, h => by cases n <;> simp [D.pl] at h
  | n, .dcT _ _, h => by cases n <;> simp [D.pl] at h
  | n, .obj _ _ _, h => by cases n <;> simp [D.pl] at h
theorem pls_lay : ∀ {n : Nat} {ds : List D}, D.pls n ds = true → PyData.canLayAll0 (D.toPs ds) = true ∧ PyData.depthAll (D.toPs ds) ≤ n
  | _, [], _ => by simp [D.toPs, PyData.canLayAll0, PyData.depthAll]
  | n, d :: ds, h => by
    obtain ⟨h1, h2⟩ : d.pl n = true ∧ D.pls n ds = true := by rw [D.pls] at h; exact Bool.and_eq_true_iff.mp h
    have a := pl_lay h1
    have b := pls_lay h2
    simp [D.toPs, PyData.canLayAll0, PyData.depthAll, a.1, b.1]
    exact Nat.max_le.mpr ⟨a.2, b.2⟩
end
theorem pl_shaped {d : D} (h : d.pl 40 = true) : SeqAt.shaped d.toP = true := by
  have := pl_lay h
  unfold SeqAt.shaped
  rw [this.1, decide_eq_true (by omega : d.toP.depth ≤ 64)]
  rfl
mutual
theorem eqv_toP : ∀ {n : Nat} {d e : D}, d.pl n = true → e.pl n = true → PyData.eqv d.toP e.toP = d.eqv e
  | n, .non, e, _, h => by cases e <;> cases n <;> simp [D.toP, D.eqv, PyData.eqv, D.pl] at h ⊢
  | n, .bl b, e, _, h => by cases e <;> cases n <;> simp [D.toP, D.eqv, PyData.eqv, D.pl] at h ⊢
  | n, .int b, e, _, h => by cases e <;> cases n <;> simp [D.toP, D.eqv, PyData.eqv, D.pl] at h ⊢
  | n, .str b, e, _, h => by cases e <;> cases n <;> simp [D.toP, D.eqv, PyData.eqv, D.pl] at h ⊢
  | n + 1, .lst ds, e, g, h => by
    cases e with
    | lst es => simp only [D.pl] at g h; simp only [D.toP, D.eqv, PyData.eqv]; exact eqvs_toP g h
    | _ => simp [D.toP, D.eqv, PyData.eqv, D.pl] at h ⊢
  | n + 1, .tup _ ds, e, g, h => by
    cases e with
    | tup _ es => simp only [D.pl] at g h; simp only [D.toP, D.eqv, PyData.eqv]; exact eqvs_toP g h
    | _ => simp [D.toP, D.eqv, PyData.eqv, D.pl] at h ⊢
  | 0, .lst ds, e, h, _ => by simp [D.pl] at h
  | 0, .tup k ds, e, h, _ => by simp [D.pl] at h
  | n, .scr _, e, h, _ => by cases n <;> simp [D.pl] at h
  | n, .dct _ _, e, h, _ => by cases n <;> simp [D.pl] at h
  | n, .dcT _ _, e, h, _ => by cases n <;> simp [D.pl] at h
  | n, .obj _ _ _, e, h, _ => by cases n <;> simp [D.pl] at h
theorem eqvs_toP : ∀ {n : Nat} {ds es : List D}, D.pls n ds = true → D.pls n es = true → PyData.eqvAll (D.toPs ds) (D.toPs es) = D.eqvs ds es
  | n, [], [], _, _ => by simp [D.toPs, PyData.eqvAll, D.eqvs]
  | n, [], e :: es, _, _ => by simp [D.toPs, PyData.eqvAll, D.eqvs]
  | n, d :: ds, [], _, _ => by simp [D.toPs, PyData.eqvAll, D.eqvs]
  | n, d :: ds, e :: es, g, h => by
    obtain ⟨g1, g2⟩ : d.pl n = true ∧ D.pls n ds = true := by rw [D.pls] at g; exact Bool.and_eq_true_iff.mp g
    obtain ⟨h1, h2⟩ : e.pl n = true ∧ D.pls n es = true := by rw [D.pls] at h; exact Bool.and_eq_true_iff.mp h
    simp only [D.toPs, PyData.eqvAll, D.eqvs]
    rw [eqv_toP g1 h1, eqvs_toP g2 h2]
end
def pEq : List D → Option Sl
  | [x, y] => if (x.pl 40 && y.pl 40) = true then some (.va (.bl (x.eqv y))) else none
  | _ => none
def pNe : List D → Option Sl
  | [x, y] => if (x.pl 40 && y.pl 40) = true then some (.va (.bl (!x.eqv y))) else none
  | _ => none
def D.fl : D → Bool
  | .non => true
  | .bl _ => true
  | .int _ => true
  | .str _ => true
  | _ => false
def pInT : List D → Option Sl
  | [x, .tup _ ys] => if (x.fl && ys.all D.fl) = true then some (.va (.bl (ys.any fun y => y.eqv x))) else none
  | _ => none
def pNinT : List D → Option Sl
  | [x, .tup _ ys] => if (x.fl && ys.all D.fl) = true then some (.va (.bl (!ys.any fun y => y.eqv x))) else none
  | _ => none
theorem pls_mono {n : Nat} : ∀ {ds : List D}, D.pls n ds = true → ∀ d ∈ ds, d.pl n = true
  | [], _, d, h => by cases h
  | x :: xs, h, d, hd => by
    obtain ⟨h1, h2⟩ : x.pl n = true ∧ D.pls n xs = true := by rw [D.pls] at h; exact Bool.and_eq_true_iff.mp h
    rcases List.mem_cons.mp hd with rfl | hd
    · exact h1
    · exact pls_mono h2 d hd
mutual
theorem pl_up : ∀ {n : Nat} {d : D}, d.pl n = true → d.pl (n + 1) = true
  | _, .non, _ => by simp [D.pl]
  | _, .bl b, _ => by simp [D.pl]
  | _, .int i, _ => by simp [D.pl]
  | n, .str x, h => by simp only [D.pl] at h ⊢; exact h
  | n + 1, .lst ds, h => by simp only [D.pl] at h ⊢; exact pls_up h
  | n + 1, .tup k ds, h => by simp only [D.pl] at h ⊢; exact pls_up h
  | 0, .lst ds, h => by simp [D.pl] at h
  | 0, .tup k ds, h => by simp [D.pl] at h
  | n, .scr _, h => by cases n <;> simp [D.pl] at h
  | n, .dct _ _, h => by cases n <;> simp [D.pl] at h
  | n, .dcT _ _, h => by cases n <;> simp [D.pl] at h
  | n, .obj _ _ _, h => by cases n <;> simp [D.pl] at h
theorem pls_up : ∀ {n : Nat} {ds : List D}, D.pls n ds = true → D.pls (n + 1) ds = true
  | _, [], _ => by simp [D.pls]
  | n, d :: ds, h => by
    obtain ⟨h1, h2⟩ : d.pl n = true ∧ D.pls n ds = true := by rw [D.pls] at h; exact Bool.and_eq_true_iff.mp h
    rw [D.pls, pl_up h1, pls_up h2]
    rfl
end
section
variable {K : PySem.W.Frag}
theorem ps_eq : PrS K (r2L (rEqD K)) pEq := PrS.val fun B H ds vs x e rp hg => by
  match ds, hg with
  | [a, b], hg =>
    replace hg : (if (a.pl 40 && b.pl 40) = true then some (Sl.va (.bl (a.eqv b))) else none) = some x := hg
    split at hg
    · rename_i hp
      obtain ⟨ha, hb⟩ := Bool.and_eq_true_iff.mp hp
      cases hg
      obtain ⟨v, w, rfl, r1, r2⟩ := two_of rp
      exact ⟨_, .bl (a.eqv b), rfl, rfl, fun Q q => ⟨_, _, pl_dp ha (r1.mono e), pl_dp hb (r2.mono e), pl_shaped ha, pl_shaped hb, by rw [eqv_toP ha hb]; exact q⟩⟩
    · cases hg
theorem ps_ne : PrS K (r2L (rNeD K)) pNe := PrS.val fun B H ds vs x e rp hg => by
  match ds, hg with
  | [a, b], hg =>
    replace hg : (if (a.pl 40 && b.pl 40) = true then some (Sl.va (.bl (!a.eqv b))) else none) = some x := hg
    split at hg
    · rename_i hp
      obtain ⟨ha, hb⟩ := Bool.and_eq_true_iff.mp hp
      cases hg
      obtain ⟨v, w, rfl, r1, r2⟩ := two_of rp
      exact ⟨_, .bl (!a.eqv b), rfl, rfl, fun Q q => ⟨_, _, pl_dp ha (r1.mono e), pl_dp hb (r2.mono e), pl_shaped ha, pl_shaped hb, by rw [eqv_toP ha hb]; exact q⟩⟩
    · cases hg
theorem fl_V {d : D} {B : Hp} {v : V} (h : d.fl = true) (r : Rep K B d v) : flatV v = true ∧ ∀ {e : D} {w : V}, e.fl = true → Rep K B e w → eqV w v = e.eqv d := by
  cases d with
  | non => cases (show v = .non from r); exact ⟨rfl, fun {e w} he re => by cases e <;> first | (cases he; done) | (cases (show w = _ from re); simp [eqV, D.eqv])⟩
  | bl b => cases (show v = .bl b from r); exact ⟨rfl, fun {e w} he re => by cases e <;> first | (cases he; done) | (cases (show w = _ from re); simp [eqV, D.eqv])⟩
  | int b => cases (show v = .int b from r); exact ⟨rfl, fun {e w} he re => by cases e <;> first | (cases he; done) | (cases (show w = _ from re); simp [eqV, D.eqv])⟩
  | str b => cases (show v = .str b from r); exact ⟨rfl, fun {e w} he re => by cases e <;> first | (cases he; done) | (cases (show w = _ from re); simp [eqV, D.eqv])⟩
  | _ => cases h
theorem fl_in {d : D} {B : Hp} {v : V} (h : d.fl = true) (r : Rep K B d v) : ∀ {ys : List D} {ws : List V}, ys.all D.fl = true → RepL K B ys ws → ws.all flatV = true ∧ inV v ws = ys.any fun y => y.eqv d
  | [], _, _, rl => by rw [show _ = [] from rl]; exact ⟨rfl, rfl⟩
  | y :: ys, _, hy, ⟨w, r', e, a, b⟩ => by
    obtain ⟨h1, h2⟩ : y.fl = true ∧ ys.all D.fl = true := by simpa using hy
    obtain ⟨i1, i2⟩ := fl_in h r h2 b
    rw [e]
    refine ⟨by simp [(fl_V h1 a).1, i1], ?_⟩
    show (eqV w v || inV v r') = (y.eqv d || _)
    rw [(fl_V h r).2 h1 a, i2]
theorem ps_inT : PrS K (r2L (rIn K false)) pInT := PrS.val fun B H ds vs x e rp hg => by
  match ds, hg with
  | [a, .tup k ys], hg =>
    replace hg : (if (a.fl && ys.all D.fl) = true then some (Sl.va (.bl (ys.any fun y => y.eqv a))) else none) = some x := hg
    split at hg
    · rename_i hp
      obtain ⟨h1, h2⟩ := Bool.and_eq_true_iff.mp hp
      cases hg
      obtain ⟨v, w, rfl, r1, p, ws, rfl, sq, rl⟩ := two_of rp
      obtain ⟨k1, k2⟩ := fl_in h1 r1 h2 rl
      exact ⟨_, .bl _, rfl, rfl, fun Q q => ⟨p, ws, rfl, .inr (ex_t e sq.sq), (fl_V h1 r1).1, k1, by rw [if_neg Bool.false_ne_true, k2]; exact q⟩⟩
    · cases hg
end
def D.isN : D → Bool
  | .non => true
  | _ => false
theorem isN_rep {K : PySem.W.Frag} {B : Hp} {d : D} {v : V} (r : Rep K B d v) : decide (v = .non) = d.isN := by
  cases d with
  | non => cases (show v = .non from r); rfl
  | bl b => cases (show v = .bl b from r); rfl
  | int b => cases (show v = .int b from r); rfl
  | str b => cases (show v = .str b from r); rfl
  | scr _ => obtain ⟨a, rfl, _⟩ := r; rfl
  | lst _ => obtain ⟨a, _, rfl, _⟩ := r; rfl
  | tup _ _ => obtain ⟨a, _, rfl, _⟩ := r; rfl
  | dct _ _ => obtain ⟨a, _, rfl, _⟩ := r; rfl
  | dcT _ _ => obtain ⟨a, _, rfl, _⟩ := r; rfl
  | obj _ _ _ => obtain ⟨a, _, _, rfl, _⟩ := r; rfl
def pIsN : List D → Option Sl
  | [x, .non] => some (.va (.bl x.isN))
  | _ => none
def pNotN : List D → Option Sl
  | [x, .non] => some (.va (.bl (!x.isN)))
  | _ => none
def pIsB : List D → Option Sl
  | [.bl a, .bl b] => some (.va (.bl (decide (a = b))))
  | _ => none
def pNotB : List D → Option Sl
  | [.bl a, .bl b] => some (.va (.bl (!decide (a = b))))
  | _ => none
section
variable {K : PySem.W.Frag}
theorem ps_isN : PrS K (r2L fun x y H Q => y = .non ∧ Q (.bl (decide (x = .non))) H) pIsN := PrS.val fun B H ds vs x e rp hg => by
  match ds, hg with
  | [a, .non], hg =>
    cases hg
    obtain ⟨v, w, rfl, r1, r2⟩ := two_of rp
    exact ⟨_, .bl _, rfl, rfl, fun Q q => ⟨r2, by rw [isN_rep r1]; exact q⟩⟩
end
def pIxL : List D → Option Sl
  | [.lst ds, .int i] => (atI ds i).bind fun d => some (.va d)
  | [.scr ns, .int i] => (atI ns i).bind fun n => some (.va (.int n))
  | _ => none
def pIxT : List D → Option Sl
  | [.tup _ ds, .int i] => (atI ds i).bind fun d => some (.va d)
  | _ => none
def pDg : List D → Option Sl
  | [.dct ks ds, k] => k.key.bind fun k => (dGet ks ds k).bind fun d => some (.va d)
  | [.dcT ks ds, k] => k.keyT.bind fun k => (dGet ks ds k).bind fun d => some (.va d)
  | _ => none
def rDg : R2 := fun x y H Q => ∃ a v, x = .ref a ∧ DGet H a y (some v) ∧ Q v H
section
variable {K : PySem.W.Frag}
theorem ps_ixL : PrS K (r2L (rIxL K)) pIxL := PrS.val fun B H ds vs x e rp hg => by
  match ds, hg with
  | [.lst xs, .int i], hg =>
    obtain ⟨d, h1, h2⟩ := Option.bind_eq_some_iff.mp hg
    cases h2
    obtain ⟨v, w, rfl, ⟨a, us, rfl, ha, rl⟩, r2⟩ := two_of rp
    cases (show w = .int i from r2)
    obtain ⟨u, hu, ru⟩ := atI_rep rl h1
    exact ⟨_, u, rfl, ru, fun Q q => ⟨a, us, i, u, rfl, rfl, SqL.of (e _ _ ha), hu, q⟩⟩
  | [.scr ns, .int i], hg =>
    obtain ⟨n, h1, h2⟩ := Option.bind_eq_some_iff.mp hg
    cases h2
    obtain ⟨v, w, rfl, ⟨a, rfl, ha⟩, r2⟩ := two_of rp
    cases (show w = .int i from r2)
    obtain ⟨j, h3, h4⟩ := atI_map (ys := ns.map V.int) (List.length_map ..) h1
    exact ⟨_, .int n, rfl, rfl, fun Q q => ⟨a, _, i, _, rfl, rfl, ex_l e ha, h4 (.int n) (by rw [List.getElem?_map, h3]; rfl), q⟩⟩
theorem ps_ixT : PrS K (r2L (rIxT K)) pIxT := PrS.val fun B H ds vs x e rp hg => by
  match ds, hg with
  | [.tup k xs, .int i], hg =>
    obtain ⟨d, h1, h2⟩ := Option.bind_eq_some_iff.mp hg
    cases h2
    obtain ⟨v, w, rfl, ⟨a, us, rfl, ha, rl⟩, r2⟩ := two_of rp
    cases (show w = .int i from r2)
    obtain ⟨u, hu, ru⟩ := atI_rep rl h1
    exact ⟨_, u, rfl, ru, fun Q q => ⟨a, us, i, u, rfl, rfl, ex_t e ha.sq, hu, q⟩⟩
theorem key_get {B H : Hp} {ks : List Key} {ds : List D} {k : D} {kk : Key} {v w : V} (e : Ex B H) (r1 : Rep K B (.dct ks ds) v) (hk : k.key = some kk) (r2 : Rep K B k w) : ∃ (a : Addr) (kvs : List (Key × V)), v = .ref a ∧ kvs.map (·.1) = ks ∧ RepL K B ds (kvs.map (·.2)) ∧ DGet H a w (valV kvs kk) := by
  obtain ⟨a, kvs, rfl, ha, hks, rl⟩ := r1
  rw [key_rep hk r2]
  exact ⟨a, kvs, rfl, hks, rl, .inl ⟨kvs, kk, rd_mono e ha, rfl, rfl⟩⟩
theorem key_getT {B H : Hp} {ks : List (List Key)} {ds : List D} {k : D} {kk : List Key} {v w : V} (e : Ex B H) (r1 : Rep K B (.dcT ks ds) v) (hk : k.keyT = some kk) (r2 : Rep K B k w) : ∃ (a : Addr) (kvs : List (List Key × V)), v = .ref a ∧ kvs.map (·.1) = ks ∧ RepL K B ds (kvs.map (·.2)) ∧ DGet H a w (valV kvs kk) := by
  obtain ⟨a, kvs, rfl, ha, hks, rl⟩ := r1
  cases k with
  | tup f es =>
    cases f with
    | true => cases hk
    | false =>
      obtain ⟨b, us, rfl, sq, rls⟩ := r2
      rw [keys_rep hk rls] at sq
      exact ⟨a, kvs, rfl, hks, rl, DGet.t (e _ _ ha) (e _ _ sq)⟩
  | _ => cases hk
theorem ps_dg : PrS K (r2L rDg) pDg := PrS.val fun B H ds vs x e rp hg => by
  match ds, hg with
  | [.dct ks es, k], hg =>
    obtain ⟨kk, h1, h2⟩ := Option.bind_eq_some_iff.mp hg
    obtain ⟨d, h3, h4⟩ := Option.bind_eq_some_iff.mp h2
    cases h4
    obtain ⟨v, w, rfl, r1, r2⟩ := two_of rp
    obtain ⟨a, kvs, rfl, rfl, rl, g⟩ := key_get e r1 h1 r2
    obtain ⟨u, hu, ru⟩ := dGet_rep rl h3
    rw [hu] at g
    exact ⟨_, u, rfl, ru, fun Q q => ⟨a, u, rfl, g, q⟩⟩
  | [.dcT ks es, k], hg =>
    obtain ⟨kk, h1, h2⟩ := Option.bind_eq_some_iff.mp hg
    obtain ⟨d, h3, h4⟩ := Option.bind_eq_some_iff.mp h2
    cases h4
    obtain ⟨v, w, rfl, r1, r2⟩ := two_of rp
    obtain ⟨a, kvs, rfl, rfl, rl, g⟩ := key_getT e r1 h1 r2
    obtain ⟨u, hu, ru⟩ := dGet_rep rl h3
    rw [hu] at g
    exact ⟨_, u, rfl, ru, fun Q q => ⟨a, u, rfl, g, q⟩⟩
end
section
variable {X : Cx} {a b e : Expr} {pos : Pos} {f g : En → Option (D × En)}
theorem xe_dg (h : PE X e (tDGet (rdV X.K f) (rdV X.K g))) : PE X e (rdE X.K (xPr pDg (xCons f (xCons g xNil)))) := PEi h (rd_op (r := rDg) ps_dg)
end
def xO : Option (En → Option (D × En)) → En → Option (Option Int × En)
  | none => fun e => some (none, e)
  | some f => fun e => (f e).bind fun p => match p.1 with
    | .int i => some (some i, p.2)
    | _ => none
def xSl (p : D → Option Int → Option Int → Option Sl) (f : En → Option (D × En)) (lo hi : Option (En → Option (D × En))) : En → Option (Sl × En) := fun e => (f e).bind fun x => (xO lo x.2).bind fun y => (xO hi y.2).bind fun z => (p x.1 y.1 z.1).bind fun r => some (r, z.2)
section
variable {K : PySem.W.Frag}
end
def xStar (f : En → Option (D × En)) (g : En → Option (List D × En)) : En → Option (List D × En) := fun e => (f e).bind fun p => (match p.1 with
  | .tup _ ds => some ds
  | .lst ds => some ds
  | _ => none).bind fun ds => (g p.2).bind fun q => some (ds ++ q.1, q.2)
def pLen : List D → Option Sl
  | [.lst ds] => some (.va (.int ds.length))
  | [.scr ns] => some (.va (.int ns.length))
  | [.tup _ ds] => some (.va (.int ds.length))
  | _ => none
def pAbs : List D → Option Sl
  | [.int i] => some (.va (.int (if i < 0 then -i else i)))
  | _ => none
def pMax2 := pI fun i j => .int (if j > i then j else i)
def pMin2 := pI fun i j => .int (if j < i then j else i)
def pInt : List D → Option Sl
  | [.int i] => some (.va (.int i))
  | [.bl b] => some (.va (.int (if b then 1 else 0)))
  | _ => none
section
variable {K : PySem.W.Frag}
theorem ps_len : PrS K (fun xs H Q => ∃ p ys, xs = [.ref p] ∧ (SqL K H p ys ∨ SqT K H p ys) ∧ Q (.int ys.length) H) pLen := PrS.val fun B H ds vs x e rp hg => by
  match ds, hg with
  | [.lst xs], hg =>
    cases hg
    obtain ⟨v, rfl, a, us, rfl, ha, rl⟩ := one_of rp
    exact ⟨_, .int _, rfl, rfl, fun Q q => ⟨a, us, rfl, .inl (SqL.of (e _ _ ha)), by rw [rl.len]; exact q⟩⟩
  | [.scr ns], hg =>
    cases hg
    obtain ⟨v, rfl, a, rfl, ha⟩ := one_of rp
    exact ⟨_, .int _, rfl, rfl, fun Q q => ⟨a, _, rfl, .inl (ex_l e ha), by rw [List.length_map]; exact q⟩⟩
  | [.tup k xs], hg =>
    cases hg
    obtain ⟨v, rfl, a, us, rfl, ha, rl⟩ := one_of rp
    exact ⟨_, .int _, rfl, rfl, fun Q q => ⟨a, us, rfl, .inr (ex_t e ha.sq), by rw [rl.len]; exact q⟩⟩
theorem ps_abs : PrS K (fun xs H Q => ∃ i, xs = [.int i] ∧ Q (.int (if i < 0 then -i else i)) H) pAbs := PrS.val fun B H ds vs x e rp hg => by
  match ds, hg with
  | [.int i], hg =>
    cases hg
    obtain ⟨v, rfl, r⟩ := one_of rp
    exact ⟨_, .int _, rfl, rfl, fun Q q => ⟨i, by rw [show v = .int i from r], q⟩⟩
theorem ps_max2 : PrS K (fun xs H Q => ∃ i j, xs = [.int i, .int j] ∧ Q (.int (if j > i then j else i)) H) pMax2 := PrS.val fun B H ds vs x e rp hg => by
  match ds, hg with
  | [.int i, .int j], hg =>
    cases hg
    obtain ⟨v, w, rfl, r1, r2⟩ := two_of rp
    exact ⟨_, .int _, rfl, rfl, fun Q q => ⟨i, j, by rw [show v = .int i from r1, show w = .int j from r2], q⟩⟩
theorem ps_min2 : PrS K (fun xs H Q => ∃ i j, xs = [.int i, .int j] ∧ Q (.int (if j < i then j else i)) H) pMin2 := PrS.val fun B H ds vs x e rp hg => by
  match ds, hg with
  | [.int i, .int j], hg =>
    cases hg
    obtain ⟨v, w, rfl, r1, r2⟩ := two_of rp
    exact ⟨_, .int _, rfl, rfl, fun Q q => ⟨i, j, by rw [show v = .int i from r1, show w = .int j from r2], q⟩⟩
theorem ps_int : PrS K (fun xs H Q => (∃ i, xs = [.int i] ∧ Q (.int i) H) ∨ ∃ k, xs = [.bl k] ∧ Q (.int (if k then 1 else 0)) H) pInt := PrS.val fun B H ds vs x e rp hg => by
  match ds, hg with
  | [.int i], hg =>
    cases hg
    obtain ⟨v, rfl, r⟩ := one_of rp
    exact ⟨_, .int _, rfl, rfl, fun Q q => .inl ⟨i, by rw [show v = .int i from r], q⟩⟩
  | [.bl i], hg =>
    cases hg
    obtain ⟨v, rfl, r⟩ := one_of rp
    exact ⟨_, .int _, rfl, rfl, fun Q q => .inr ⟨i, by rw [show v = .bl i from r], q⟩⟩
end
section
variable {X : Cx} {e : Expr} {fa : En → Option (List D × En)} {r : List V → Hp → VK → Prop} {p : List D → Option Sl}
theorem xe_cb (hs : PrS X.K r p) (h : PE X e (tCB r (rdA X.K fa))) : PE X e (rdE X.K (xPr p fa)) := PEi h (rd_call hs)
end
inductive Ct where
  | b (n : String) | o (c : Str)
def Ct.v (K : PySem.W.Frag) : Ct → V
  | .b n => .ty n
  | .o c => .ref (He.ga K c)
def Ct.u (K : PySem.W.Frag) : Ct → Value
  | .b n => .type n
  | .o c => .ref (He.ga K c)
def D.ty : D → Ct
  | .non => .b "NoneType"
  | .bl _ => .b "bool"
  | .int _ => .b "int"
  | .str _ => .b "str"
  | .scr _ => .b "list"
  | .lst _ => .b "list"
  | .tup _ _ => .b "tuple"
  | .dct _ _ => .b "dict"
  | .dcT _ _ => .b "dict"
  | .obj c _ _ => .o c
def isBB (a t : String) : Bool := a == t || (a == "bool" && t == "int")
structure ClF (K : PySem.W.Frag) (cls : List Str) (sub : Str → Str → Bool) : Prop where
  cl : ∀ c ∈ cls, Cls K (He.ga K c)
  ca : ∀ c ∈ cls, PySem.W.findIn K (.ref (He.ga K c)) "__class__" = some (some (.builtin "object.__class__"))
  cn : PySem.W.specialIn K (.builtin "object.__class__") "__get__" = some (some (.builtin "getset_descriptor.__get__"))
  ct : PySem.W.takesIn K (.builtin "object.__class__") = some true
  cm : ∀ c ∈ cls, PySem.W.mroIn K (He.ga K c) (.type "object") = some true
  oo : ∀ c ∈ cls, ∀ d ∈ cls, PySem.W.kitOne K (.ref (He.ga K c)) (.ref (He.ga K d)) = some (sub c d)
  ob : ∀ c ∈ cls, ∀ t ∈ bT, PySem.W.kitOne K (.ref (He.ga K c)) (.type t) = some false
  bo : ∀ t ∈ bT0, ∀ c ∈ cls, PySem.W.kitOne K (.type t) (.ref (He.ga K c)) = some false
theorem clf_of {K : PySem.W.Frag} {cls : List Str} {sub : Str → Str → Bool} (h : clfB K cls sub = true) : ClF K cls sub := by
  obtain ⟨h1, h⟩ := He.ba h
  obtain ⟨h2, h⟩ := He.ba h
  obtain ⟨h3, h⟩ := He.ba h
  obtain ⟨h4, h⟩ := He.ba h
  obtain ⟨h5, h6⟩ := He.ba h
  refine ⟨fun c hc => ?_, fun c hc => ?_, He.eqO_ok h2, of_decide_eq_true h3, fun c hc => ?_, fun c hc d hd => ?_, fun c hc t ht => ?_, fun t ht c hc => ?_⟩
  · exact He.cls_ok (He.ba (List.all_eq_true.mp h1 c hc)).1
  · exact He.eqO_ok (He.ba (He.ba (List.all_eq_true.mp h1 c hc)).2).1
  · exact of_decide_eq_true (He.ba (He.ba (List.all_eq_true.mp h1 c hc)).2).2
  · exact of_decide_eq_true (List.all_eq_true.mp (List.all_eq_true.mp h4 c hc) d hd)
  · exact of_decide_eq_true (List.all_eq_true.mp (List.all_eq_true.mp h5 c hc) t ht)
  · exact of_decide_eq_true (List.all_eq_true.mp (List.all_eq_true.mp h6 t ht) c hc)
theorem bb_kit : ∀ a ∈ bT0, ∀ t ∈ bT, L2.kitB a t = some (isBB a t) := by decide +kernel
section
variable {K : PySem.W.Frag} {cls : List Str} {sub : Str → Str → Bool}
theorem ty_rep (F : ClF K cls sub) {B H : Hp} {d : D} {v : V} (e : Ex B H) (r : Rep K B d v) (hc : ∀ c, d.ty = .o c → c ∈ cls) : TyX K H v (d.ty.u K) := by
  cases d with
  | non => cases (show v = .non from r); exact .base .non
  | bl b => cases (show v = .bl b from r); exact .base (.bl b)
  | int b => cases (show v = .int b from r); exact .base (.int b)
  | str b => cases (show v = .str b from r); exact .base (.str b)
  | scr ns =>
    obtain ⟨a, rfl, h⟩ := r
    rcases ex_l e h with (h | ⟨o, h⟩) | ⟨o, its, n, hk, hc, _⟩
    · exact .base (.lst h)
    · exact .base (.frz h)
    · exact .kList hk hc
  | lst ds => obtain ⟨a, vs, rfl, h, _⟩ := r; exact .base (.lst (e _ _ h))
  | tup k ds =>
    obtain ⟨a, vs, rfl, h, _⟩ := r
    rcases ex_t e h.sq with (h | ⟨o, h⟩) | ⟨o, its, n, hk, hc, _⟩
    · exact .base (.tup h)
    · exact .fTuple h
    · exact .kTuple hk hc
  | dct ks ds =>
    obtain ⟨a, vs, rfl, h, _⟩ := r
    rcases h with h | ⟨o, h⟩
    · exact .base (.dK (e _ _ h))
    · exact .fDict (e _ _ h)
  | dcT ks ds => obtain ⟨a, vs, rfl, h, _⟩ := r; exact .base (.dT (e _ _ h))
  | obj c fs ds =>
    obtain ⟨a, dx, kvs, rfl, h, _⟩ := r
    have hm := hc c rfl
    exact .base (.ins (e _ _ h) (F.cl c hm) (F.ca c hm) F.cn F.ct (F.cm c hm))
def isD (cls : List Str) (sub : Str → Str → Bool) (d : D) (T : Ct) : Option Bool := match d.ty, T with
  | .b a, .b t => if (bT0.contains a && bT.contains t) = true then some (isBB a t) else none
  | .b a, .o c => if (bT0.contains a && cls.contains c) = true then some false else none
  | .o c, .b t => if (cls.contains c && bT.contains t) = true then some false else none
  | .o c, .o c' => if (cls.contains c && cls.contains c') = true then some (sub c c') else none
theorem is_kit (F : ClF K cls sub) {d : D} {T : Ct} {b : Bool} (h : isD cls sub d T = some b) : PySem.W.kitOne K (d.ty.u K) (T.u K) = some b ∧ ∀ c, d.ty = .o c → c ∈ cls := by
  unfold isD at h
  cases ht : d.ty with
  | b a =>
    rw [ht] at h
    refine ⟨?_, fun c z => by cases z⟩
    cases T with
    | b t =>
      replace h : (if (bT0.contains a && bT.contains t) = true then some (isBB a t) else none) = some b := h
      split at h
      · rename_i hh
        cases h
        obtain ⟨h1, h2⟩ := He.ba hh
        exact kit_ty (bb_kit a (by simpa using h1) t (by simpa using h2))
      · cases h
    | o c =>
      replace h : (if (bT0.contains a && cls.contains c) = true then some false else none) = some b := h
      split at h
      · rename_i hh
        cases h
        obtain ⟨h1, h2⟩ := He.ba hh
        exact F.bo a (by simpa using h1) c (by simpa using h2)
      · cases h
  | o c =>
    rw [ht] at h
    cases T with
    | b t =>
      replace h : (if (cls.contains c && bT.contains t) = true then some false else none) = some b := h
      split at h
      · rename_i hh
        cases h
        obtain ⟨h1, h2⟩ := He.ba hh
        exact ⟨F.ob c (by simpa using h1) t (by simpa using h2), fun c' z => by cases z; simpa using h1⟩
      · cases h
    | o c' =>
      replace h : (if (cls.contains c && cls.contains c') = true then some (sub c c') else none) = some b := h
      split at h
      · rename_i hh
        cases h
        obtain ⟨h1, h2⟩ := He.ba hh
        exact ⟨F.oo c (by simpa using h1) c' (by simpa using h2), fun c' z => by cases z; simpa using h1⟩
      · cases h
end
theorem clsV (K : PySem.W.Frag) (T : Ct) : ClsV (T.v K) (T.u K) := by
  cases T with
  | b n => exact .ty n
  | o c => exact .own _
def xIsi (cls : List Str) (sub : Str → Str → Bool) (T : Ct) (f : En → Option (D × En)) : En → Option (D × En) := fun e => (f e).bind fun p => (isD cls sub p.1 T).bind fun b => some (.bl b, p.2)
def xIsi2 (cls : List Str) (sub : Str → Str → Bool) (T U : Ct) (f : En → Option (D × En)) : En → Option (D × En) := fun e => (f e).bind fun p => (isD cls sub p.1 T).bind fun b => (isD cls sub p.1 U).bind fun c => some (.bl (b || c), p.2)
section
variable {X : Cx} {e : Expr} {f : En → Option (D × En)} {cls : List Str} {sub : Str → Str → Bool} {T U : Ct}
theorem xe_isi (F : ClF X.K cls sub) (h : PE X e (tCB (rIsi X.K) (tCons (rdV X.K f) (tCons (tC (T.v X.K)) tNil)))) : PE X e (rdV X.K (xIsi cls sub T f)) := PEi h fun σ H Q ⟨s, e1, e2, ok, d, en', hf, q⟩ => by
  obtain ⟨⟨d1, en1⟩, k1, k2⟩ := Option.bind_eq_some_iff.mp hf
  obtain ⟨b, k3, k4⟩ := Option.bind_eq_some_iff.mp k2
  cases k4
  refine ⟨s, e1, e2, ok, d1, en1, k1, fun v t tσ te okt st rp => ?_⟩
  obtain ⟨k5, k6⟩ := is_kit F k3
  exact ⟨v, T.v X.K, _, _, b, rfl, clsV X.K T, ty_rep F okt.ex rp k6, k5, q (.bl b) t tσ te okt st rfl⟩
end
section
variable {X : Cx} {CX : CXT} {C : Addr} {ps : List Str} {n j : Nat} {sp : Sp} {E : XK}
end
section
variable {X : Cx} {CX : CXT} {C : Addr} {ps : List Str} {n j : Nat} {sp : Sp} {E : XK}
end
def xO2 (c : Str) (F : FnT) (f g : En → Option (D × En)) : En → Option (Sl × En) := fun e => (f e).bind fun p => (g p.2).bind fun q => match p.1 with
  | .obj c' ns ds => if c' = c then (F [.va (.obj c' ns ds), .va q.1]).bind fun r => some (r.1, q.2) else none
  | _ => none
section
variable {X : Cx} {e : Expr} {c : Str} {F : FnT} {f g : En → Option (D × En)} {E : XK}
def xLenO (c : Str) (F : FnT) (f : En → Option (D × En)) : En → Option (D × En) := fun e => (f e).bind fun p => match p.1 with
  | .obj c' ns ds => if c' = c then (F [.va (.obj c' ns ds)]).bind fun r => (match r.1 with
    | .va (.int n) => if (decide (0 ≤ n) && decide (n < 2 ^ 60)) = true then some (.int n, p.2) else none
    | _ => none) else none
  | _ => none
def xEqO (c : Str) (F : FnT) (neg : Bool) (f g : En → Option (D × En)) : En → Option (Bool × En) := fun e => (f e).bind fun p => (g p.2).bind fun q => match p.1, q.1 with
  | .obj c' ns ds, .obj c'' ms es => if c' = c ∧ c'' = c then (F [.va (.obj c' ns ds), .va (.obj c'' ms es)]).bind fun r => (match r.1 with
    | .va (.bl b) => some (if neg then !b else b, q.2)
    | _ => none) else none
  | _, _ => none
theorem rd_eqO {K : PySem.W.Frag} {cls : List Str} {sub : Str → Str → Bool} {neg : Bool} (CF : ClF K cls sub) (hc : c ∈ cls) (hn : PySem.W.notFirst K (He.ga K c) (.ref (He.ga K c)) = true) {r : R2}
    (hr : ∀ x y H Q, (∃ a dx fs t, x = .ref a ∧ H a = some (.ins (He.ga K c) dx fs) ∧ TyX K H y t ∧ PySem.W.notFirst K (He.ga K c) t = true ∧ spM K 2 F [x, y] H (fun z H' => ∃ b, z = .bl b ∧ Q (.bl (if neg then !b else b)) H') E) → r x y H Q) :
    ∀ σ H (Q : Bool → Hp → Prop), rdT K (xEqO c F neg f g) σ H Q → tOp r (rdV K f) (rdV K g) σ H fun x H1 => ∃ b, x = .bl b ∧ Q b H1 := fun σ H Q ⟨s, e1, e2, ok, b0, en', hf, q⟩ => by
  obtain ⟨⟨d, en1⟩, k1, k2⟩ := Option.bind_eq_some_iff.mp hf
  obtain ⟨⟨d2, en2⟩, k3, k4⟩ := Option.bind_eq_some_iff.mp k2
  match d, d2, k4, k3, k1 with
  | .obj c' ns ds, .obj c'' ms es, k4', k3, k1 =>
    clear k4
    have k4 := k4'
    clear k4'
    replace k4 : (if c' = c ∧ c'' = c then (F [.va (.obj c' ns ds), .va (.obj c'' ms es)]).bind fun r => (match r.1 with
      | .va (.bl b) => some (if neg then !b else b, en2)
      | _ => none) else none) = some (b0, en') := k4
    split at k4
    · rename_i hcc
      obtain ⟨rfl, rfl⟩ := hcc
      obtain ⟨⟨r1, en3⟩, k5, k6⟩ := Option.bind_eq_some_iff.mp k4
      match r1, k6, k5 with
      | .va (.bl b), k6, k5 =>
        cases k6
        refine ⟨s, e1, e2, ok, _, en1, k1, fun v t tσ te okt st rp => ⟨t, tσ, rfl, okt, _, _, by rw [te]; exact k3, fun w u uσ ue oku st2 rp2 => ?_⟩⟩
        obtain ⟨a, dx, kvs, rfl, hb, hk, rl⟩ := id rp
        refine hr _ _ _ _ ⟨a, dx, kvs, _, rfl, oku.ex _ _ (st2.bb _ _ hb), ty_rep CF oku.ex rp2 (fun c z => by cases z; exact hc), hn, ?_⟩
        refine call0 (ds := [.obj c'' ns ds, .obj c'' ms es]) oku (st.trans st2) ⟨_, [w], rfl, rp.mono st2.bb, w, [], rfl, rp2, rfl⟩ rfl k5 fun v w fr wσ we okw stw sl sd => ?_
        obtain ⟨_, v', ev, rv⟩ := sl
        cases ev
        exact ⟨b, rv, _, rfl, q w (wσ.trans uσ) (we.trans ue) okw stw⟩
    · cases k4
theorem xe_sm {n : Nat} {fa : En → Option (List D × En)} (h : PE X e (tSm (He.ga X.K c) (spM X.K n F) E (tC (.ref (He.ga X.K c))) (rdA X.K fa))) : PE X e (rdE X.K (xCall n F fa)) := by
  refine xe_fn (E := E) (PEi h fun σ H Q hh => ?_)
  refine ⟨rfl, ?_⟩
  obtain ⟨s, e1, e2, ok, d0, en', hf, q⟩ := hh
  refine ⟨s, e1, e2, ok, d0, en', hf, fun vs t a b c d e => ?_⟩
  have this : spM X.K n F (vs ++ []) t.H Q E := q vs t a b c d e
  rw [List.append_nil] at this
  exact this
theorem xe_sm0 {n : Nat} (h : PE X e (tSm (He.ga X.K c) (spM X.K n F) E (tC (.ref (He.ga X.K c))) tNil)) : PE X e (rdE X.K (xCall n F xNil)) := by
  refine xe_sm (c := c) (E := E) (PEi h fun σ H Q hh => ?_)
  exact ⟨hh.1, rd_nil σ H _ hh.2⟩
end
section
variable {X : Cx} {e : Expr} {c : Str} {F : FnT} {f g : En → Option (D × En)} {E : XK}
theorem rdV_mono {K : PySem.W.Frag} {σ : L2.St} {H : Hp} {Q Q' : VK} (h : rdV K f σ H Q) (i : ∀ v H1, Q v H1 → Q' v H1) : rdV K f σ H Q' := by
  obtain ⟨s, e1, e2, ok, d, en', hf, q⟩ := h
  exact ⟨s, e1, e2, ok, d, en', hf, fun v t a b c d e => i _ _ (q v t a b c d e)⟩
theorem xe_cmO {cls : List Str} {sub : Str → Str → Bool} (CF : ClF X.K cls sub) (hc : c ∈ cls) (hn : PySem.W.notFirst X.K (He.ga X.K c) (.ref (He.ga X.K c)) = true) (h : PE X e (tOp (rOwnC X.K (He.ga X.K c) (spM X.K 2 F) E) (rdV X.K f) (rdV X.K g))) : PE X e (rdV X.K (xOfB (xEqO c F false f g))) :=
  PEi h fun σ H Q ⟨s, e1, e2, ok, d, en', hf, q⟩ => by
    obtain ⟨⟨b, en1⟩, k1, k2⟩ := Option.bind_eq_some_iff.mp hf
    cases k2
    have := rd_eqO (E := E) (neg := false) (r := rOwnC X.K (He.ga X.K c) (spM X.K 2 F) E) CF hc hn (fun x y H Q ⟨a, dx, fs, t, h1, h2, h3, h4, h5⟩ => ⟨a, dx, fs, t, h1, h2, h3, h4, by
      obtain ⟨l, s, s1, s2, s3, s4, r, en', s5, s6⟩ := h5
      refine ⟨l, s, s1, s2, s3, s4, r, en', s5, fun v t fr a b c d e f => ?_⟩
      obtain ⟨b', e', q'⟩ := s6 v t fr a b c d e f
      rw [e']; exact q'⟩) σ H (fun b H1 => Q (.bl b) H1) ⟨s, e1, e2, ok, b, en1, k1, fun t a b c d => q _ t a b c d rfl⟩
    refine rdV_mono this fun x H1 h2 => rdV_mono h2 fun y H2 h3 => ?_
    obtain ⟨a, dx, fs, t, h1, h2, h3, h4, h5⟩ := h3
    refine ⟨a, dx, fs, t, h1, h2, h3, h4, ?_⟩
    obtain ⟨l, s, s1, s2, s3, s4, r, en', s5, s6⟩ := h5
    refine ⟨l, s, s1, s2, s3, s4, r, en', s5, fun v t fr a b c d e f => ?_⟩
    obtain ⟨b', e', q'⟩ := s6 v t fr a b c d e f
    rw [e']; exact q'
end
variable {W : WX}
section
variable {X : Cx}
end
section
variable {K : PySem.W.Frag}
end
def xItEt (f : En → Option (List D × En)) : En → Option (List D × En) := fun e => (f e).bind fun p => match p.1 with
  | [.tup _ ds] => some (enumD ds, p.2)
  | _ => none
section
variable {X : Cx} {tg : Expr} {e : Expr} {fa : En → Option (List D × En)}
end
def Pl.isE : Pl → Bool
  | .e _ _ _ => true
  | _ => false
theorem DefV.plain {K : PySem.W.Frag} {d : DefV} (h : d.at_.isE = false) : d.ok K = d.okF K ∧ fnW K d = fnV K (d.at_.ad K) := by
  obtain ⟨a, n, q, ps, b, s, df, kw⟩ := d
  cases a with
  | e _ _ _ => cases h
  | _ => exact ⟨rfl, rfl⟩
theorem DefV.funD {K : PySem.W.Frag} {d : DefV} (e : fnV K (d.at_.ad K) = d.val) (c : d.okF K = true) : ∃ fd, FunD K d.name d.qual d.params d.body d.scope (d.dvs K) (d.kws K) (d.at_.ad K) fd := by
  obtain ⟨kp, c2⟩ := He.ba c
  unfold fnV at e
  cases q : K.lookup (d.at_.ad K) with
  | none =>
    rw [q] at c2
    cases c2
  | some o =>
    obtain ⟨oc, od, dt, osl⟩ := o
    rw [q] at c2 e
    cases dt with
    | func fd =>
      obtain ⟨n1, n2, n3, n4, n5, n6, n7, n8, n9, n10, n11, n12, n13, n14, n15⟩ := fd
      have e2 : (some (n1, n2, n3, n4, n5, n6, n7, n15) : He.FnW) = some (d.name, d.qual, d.params, .stmts d.body, d.scope, mainGlobals, [], builtinsNs) := e
      simp only [Option.some.injEq, Prod.mk.injEq] at e2
      obtain ⟨h1, h2, h3, h4, h5, h6, h7, h8⟩ := e2
      subst h1 h2 h3 h4 h5 h6 h7 h8
      have c3 : (PySem.W.codeIn K n13 d.qual && (He.dflB K n8 (d.dvs K) && He.kwdB K n9 (d.kws K))) = true := c2
      obtain ⟨k1, k2⟩ := He.ba c3
      obtain ⟨k3, k4⟩ := He.ba k2
      exact ⟨_, ⟨oc, od, n8, n9, n10, n11, n12, n13, n14, osl, rfl, q, k1, He.dflB_ok k3, He.kwdB_ok k4⟩, kp⟩
    | _ => cases c2
theorem SaysV.facts {fa : List FaV} {fn : List DefV} {K : PySem.W.Frag} (c : SaysV fa fn K) : ∀ f ∈ fa, f.ok K = true := by
  have c1 := (He.ba (show ((fa.all fun f => f.ok K) && fn.all fun d => d.ok K) = true from congrArg (fun z : He.AlD => z.1) c)).1
  exact List.all_eq_true.mp c1
theorem SaysV.at_ {fa : List FaV} {fn : List DefV} {K : PySem.W.Frag} (c : SaysV fa fn K) (i : Nat) {d : DefV} (h : fn[i]? = some d := by rfl) : fnW K d = d.val ∧ d.ok K = true := by
  have c2 := (He.ba (show ((fa.all fun f => f.ok K) && fn.all fun d => d.ok K) = true from congrArg (fun z : He.AlD => z.1) c)).2
  have e : fn.map (fun d => fnW K d) = fn.map DefV.val := congrArg (fun z : He.AlD => z.2) c
  have e2 : (fn.map fun d => fnW K d)[i]? = (fn.map DefV.val)[i]? := by rw [e]
  rw [List.getElem?_map, List.getElem?_map, h] at e2
  exact ⟨Option.some.inj e2, List.all_eq_true.mp c2 d (List.mem_of_getElem? h)⟩
theorem SaysV.def_ {fa : List FaV} {fn : List DefV} {K : PySem.W.Frag} (c : SaysV fa fn K) (i : Nat) {d : DefV} (h : fn[i]? = some d := by rfl) (he : d.at_.isE = false := by rfl) : ∃ fd, FunD K d.name d.qual d.params d.body d.scope (d.dvs K) (d.kws K) (d.at_.ad K) fd := by
  obtain ⟨h1, h2⟩ := c.at_ i h
  obtain ⟨p1, p2⟩ := DefV.plain (K := K) he
  exact DefV.funD (p2.symm.trans h1) (p1.symm.trans h2)
structure Fcts (fa : List FaV) (K : PySem.W.Frag) (mg : Str → Option Value) : Prop where
  ok : ∀ f ∈ fa, f.ok K = true
  hp : ∃ h : Heap, K.In h ∧ h.Ns mainGlobals mg
section
variable {fa : List FaV} {K : PySem.W.Frag} {mg : Str → Option Value}
theorem Fcts.at_ (V : Fcts fa K mg) (i : Nat) {f : FaV} (h : fa[i]? = some f) : f.ok K = true := V.ok f (List.mem_of_getElem? h)
theorem Fcts.free (V : Fcts fa K mg) {x : Str} (i : Nat) (h : fa[i]? = some (.he (.free x))) : mg x = none := by
  obtain ⟨hp, X, G⟩ := V.hp
  exact He.free_ok X G (V.at_ i h)
theorem Fcts.glo (V : Fcts fa K mg) {x : Str} (i : Nat) (h : fa[i]? = some (.he (.glo x))) : mg x = some (.ref (He.ga K x)) := by
  obtain ⟨hp, X, G⟩ := V.hp
  exact He.glo_ok X G (V.at_ i h)
theorem Fcts.int (V : Fcts fa K mg) {x : Str} {n : Int} (i : Nat) (h : fa[i]? = some (.he (.int x n))) : ∃ t, mg x = some (.int n t) := by
  obtain ⟨hp, X, G⟩ := V.hp
  exact He.int_ok X G (V.at_ i h)
theorem Fcts.cls (V : Fcts fa K mg) {x : Str} (i : Nat) (h : fa[i]? = some (.he (.cls x))) : Cls K (He.ga K x) := He.cls_ok (V.at_ i h)
theorem Fcts.noat (V : Fcts fa K mg) {x f : Str} (i : Nat) (h : fa[i]? = some (.he (.noat x f))) : NoAttr K (He.ga K x) f := He.noat_ok (V.at_ i h)
theorem Fcts.meth (V : Fcts fa K mg) {x f : Str} (i : Nat) (h : fa[i]? = some (.he (.meth x f))) : Meth K (He.ga K x) f (He.ma K (He.ga K x) f) := He.meth_ok (V.at_ i h)
theorem Fcts.mkr (V : Fcts fa K mg) {x : Str} (i : Nat) (h : fa[i]? = some (.he (.mkr x))) : Mk K (He.ga K x) (He.ma K (He.ga K x) "__init__") := He.mkr_ok (V.at_ i h)
theorem Fcts.prp (V : Fcts fa K mg) {c x : Str} (i : Nat) (h : fa[i]? = some (.prp c x)) : PropOf K (He.ga K c) x (He.ma K (He.ga K c) x) ((Pl.p c x).ad K) := by
  obtain ⟨h1, c1⟩ := He.ba (V.at_ i h)
  obtain ⟨h2, c2⟩ := He.ba c1
  obtain ⟨h3, h4⟩ := He.ba c2
  refine ⟨He.eqO_ok h1, He.eqO_ok h2, of_decide_eq_true h3, ?_⟩
  show ∃ rest, PySem.W.recIn K (He.ma K (He.ga K c) x) "property" = some (.ref (recA K "property" (He.ma K (He.ga K c) x)) :: rest)
  unfold recA
  split at h4
  · rename_i g r q
    exact ⟨r, by rw [q]⟩
  · cases h4
theorem Fcts.stm (V : Fcts fa K mg) {c x : Str} (i : Nat) (h : fa[i]? = some (.stm c x)) : ClX.CRead K (He.ga K c) (.type "type") ∧ ∃ p, PySem.W.findCls K (.ref (He.ga K c)) (.type "type") x = some (.get (.builtin "staticmethod.__get__") (.ref p) .none (.ref (He.ga K c))) ∧
    ∃ rest, PySem.W.recIn K p "staticmethod" = some (.ref ((Pl.s c x).ad K) :: rest) := by
  obtain ⟨h1, c1⟩ := He.ba (V.at_ i h)
  obtain ⟨h2, c2⟩ := He.ba c1
  obtain ⟨h3, h4⟩ := He.ba c2
  refine ⟨⟨h1, He.eqO_ok h2⟩, ?_⟩
  show ∃ p, _ ∧ ∃ rest, PySem.W.recIn K p "staticmethod" = some (.ref (recA K "staticmethod" (smA K (He.ga K c) x)) :: rest)
  unfold smA at h4 ⊢
  split at h3
  · rename_i s p c' q
    obtain ⟨h5, h6⟩ := He.ba h3
    cases of_decide_eq_true h5
    cases of_decide_eq_true h6
    rw [q] at h4 ⊢
    refine ⟨p, rfl, ?_⟩
    replace h4 : (match PySem.W.recIn K p "staticmethod" with
      | some (.ref _ :: _) => true
      | _ => false) = true := h4
    show ∃ rest, PySem.W.recIn K p "staticmethod" = some (.ref (recA K "staticmethod" p) :: rest)
    unfold recA
    split at h4
    · rename_i g r q
      exact ⟨r, by rw [q]⟩
    · cases h4
  · cases h3
theorem rep_strs {B : Hp} : ∀ vs : List Str, RepL K B (vs.map .str) ((vs.map He.Dv.str).map (He.Dv.v K))
  | [] => rfl
  | x :: r => ⟨_, _, rfl, rfl, rep_strs r⟩
theorem Fcts.tup (V : Fcts fa K mg) {x : Str} {vs : List Str} (i : Nat) (h : fa[i]? = some (.tup x vs)) (B : Hp) : Rep K B (.tup true (vs.map .str)) (.ref (He.ga K x)) :=
  ⟨_, _, rfl, He.tupB_ok (V.at_ i h) B, rep_strs vs⟩
theorem Fcts.fni (V : Fcts fa K mg) {c : Str} (i : Nat) (h : fa[i]? = some (.fni c)) : ∀ f, PySem.W.findIn K (.ref (He.ga K c)) "__getitem__" = some (some (.ref f)) → PySem.W.fnIn K f = true := fun f hf => by
  have h1 : PySem.W.fnIn K (He.ma K (He.ga K c) "__getitem__") = true := V.at_ i h
  unfold He.ma at h1
  rw [hf] at h1
  exact h1
theorem Fcts.gen (V : Fcts fa K mg) {p : PySem.W.Frag → Bool} (i : Nat) (h : fa[i]? = some (.gen p)) : p K = true := V.at_ i h
theorem Fcts.nof (V : Fcts fa K mg) {c : Str} (i : Nat) (h : fa[i]? = some (.nof c)) : PySem.W.notFirst K (He.ga K c) (.ref (He.ga K c)) = true := V.at_ i h
theorem Fcts.ob (V : Fcts fa K mg) {c : Str} (i : Nat) (h : fa[i]? = some (.noe c)) : PySem.W.subIn K (.ref (He.ga K c)) (.type "object") = some true := of_decide_eq_true (He.ba (V.at_ i h)).2
theorem Fcts.clf (V : Fcts fa K mg) {cls : List Str} {sub : Str → Str → Bool} (i : Nat) (h : fa[i]? = some (.clf cls sub)) : ClF K cls sub := clf_of (V.at_ i h)
theorem Fcts.exi (V : Fcts fa K mg) {x : Str} (i : Nat) (h : fa[i]? = some (.exi x)) : ExcC K (He.ga K x) := by
  obtain ⟨h1, c1⟩ := He.ba (V.at_ i h)
  obtain ⟨h2, c2⟩ := He.ba c1
  obtain ⟨h3, c3⟩ := He.ba c2
  obtain ⟨h4, c4⟩ := He.ba c3
  obtain ⟨h5, c5⟩ := He.ba c4
  obtain ⟨h6, c6⟩ := He.ba c5
  obtain ⟨h7, h8⟩ := He.ba c6
  exact ⟨He.eqO_ok h1, He.eqO_ok h2, of_decide_eq_true h3, h4, He.eqO_ok h5, He.eqO_ok h6, of_decide_eq_true h7, of_decide_eq_true h8⟩
theorem Fcts.kito (V : Fcts fa K mg) {c d : Str} {b : Bool} (i : Nat) (h : fa[i]? = some (.kito c d b)) : PySem.W.kitOne K (.ref (He.ga K c)) (.ref (He.ga K d)) = some b := of_decide_eq_true (V.at_ i h)
theorem Fcts.kitt (V : Fcts fa K mg) {c : Str} {d : String} {b : Bool} (i : Nat) (h : fa[i]? = some (.kitt c d b)) : PySem.W.kitOne K (.ref (He.ga K c)) (.type d) = some b := of_decide_eq_true (V.at_ i h)
def exOf (l : List (Str × Str × Bool)) (a b : Str) : Option Bool := (l.find? fun t => t.1 == a && t.2.1 == b).map fun t => t.2.2
theorem Fcts.exl (V : Fcts fa K mg) {l : List (Str × Str × Bool)} (i : Nat) (h : fa[i]? = some (.exl l)) : ∀ a b r, exOf l a b = some r → PySem.W.exmOne K (.ref (He.ga K a)) (.ref (He.ga K b)) = some r := fun a b r e => by
  obtain ⟨t, h1, rfl⟩ := Option.map_eq_some_iff.mp e
  have h2 := List.find?_some h1
  obtain ⟨h3, h4⟩ := He.ba h2
  have h5 : t.1 = a := by simpa using h3
  have h6 : t.2.1 = b := by simpa using h4
  subst h5 h6
  exact of_decide_eq_true (List.all_eq_true.mp (V.at_ i h) t (List.mem_of_find?_eq_some h1))
end
theorem room65 {k : Nat} {A : Around} (r : Room k A) : A.units + 65 < cLine := by have := r.un; omega
theorem law_sp {K : PySem.W.Frag} {F : FnT} {n : Nat} (hF : ∀ ns : List Int, ns.length ≤ n → ∃ en, F [.va (.scr ns)] = some (.va (.bl true), en)) (H : Hp) (a : Addr) (ns : List Int) (hl : ns.length ≤ n) (hS : SqL K H a (ns.map V.int)) (hT : Tbs K H) (E : XK) :
    spM K 1 F [.ref a] H (fun v _ => v = .bl true) E := by
  obtain ⟨en, h⟩ := hF ns hl
  have ok0 : EnOk K ⟨noT H, H, [], [], fun _ => []⟩ := ⟨Ex.noT H, rfl, fun i x e => (by simp at e), fun _ _ => rfl, fun _ _ _ h => (by cases h), fun _ _ h => (by cases h), nt_noT, hT⟩
  have rp0 : RepL K (noT H) [.scr ns] [.ref a] := RepL.nt (B := H) (fun a o z n => noT_of z n) ⟨_, _, rfl, ⟨a, rfl, hS⟩, rfl⟩
  refine ⟨rfl, argS ⟨noT H, H, [], [], fun _ => []⟩ [.ref a] [.scr ns], rfl, rfl, argS_ok ok0 rp0, va_arg _, _, en, h, fun v t fr _ _ _ _ sl _ => ?_⟩
  obtain ⟨_, v', ev, rv⟩ := sl
  cases ev
  exact rv
section
variable {prog : Program} {w : World} {A : Around} {E : Value → Shared → Prop} {s : Shared}
end
section
variable {X : Cx}
end
def xDict0 : En → Option (Sl × En) := fun e => some (.ow (.o1 (.dct [] [])), e)
section
variable {X : Cx} {e : Expr} {f : En → Option (D × En)} {p : List D → Option Sl} {K : PySem.W.Frag}
theorem xe_dict0 (h : PE X e tDNewK) : PE X e (rdE X.K xDict0) := PEi h fun σ H Q ⟨s, e1, e2, ok, x, en', hf, q⟩ => by
  cases hf
  subst e1 e2
  have pr : PrS X.K (fun vs H Q => ∀ p, H p = none → Q (.ref p) (upd H p (.dK []))) (fun _ => some (.ow (.o1 (.dct [] [])))) := fun B H ds vs x e rp hg Q q p hp => by
    cases hg
    refine q (.ref p) B _ [p] (Ex.refl _) (Ex.new hp) (e.trans (Ex.new hp)) (fun _ _ z => .inl z) ⟨_, rfl, p, rfl, rfl, [], upd_same, rfl, rfl⟩ fun a z => ?_
    cases List.mem_singleton.mp z
    exact ⟨hp, fresh_back e hp⟩
  exact pr.run (ds := []) (vs := []) ok (Stp.refl s) rfl rfl rfl rfl q
end
def xAndV (f g : En → Option (D × En)) : En → Option (D × En) := fun e => (xB f e).bind fun p => if p.1 = true then g p.2 else some (.bl false, p.2)
def xOrV (f g : En → Option (D × En)) : En → Option (D × En) := fun e => (xB f e).bind fun p => if p.1 = true then some (.bl true, p.2) else g p.2
section
variable {X : Cx} {a b : Expr} {rest : List Expr} {pos : Pos} {f g : En → Option (D × En)}
theorem xe_andV (ha : PE X a (rdV X.K f)) (hb : PE X (.BoolOp .And (b :: rest) pos) (rdV X.K g)) : PE X (.BoolOp .And (a :: b :: rest) pos) (rdV X.K (xAndV f g)) := xe_and ha hb
theorem xe_orV (ha : PE X a (rdV X.K f)) (hb : PE X (.BoolOp .Or (b :: rest) pos) (rdV X.K g)) : PE X (.BoolOp .Or (a :: b :: rest) pos) (rdV X.K (xOrV f g)) := xe_or ha hb
end
def xeNo {α : Type} : En → Option (α × En) := fun _ => none
section
variable {X : Cx} {e : Expr}
end
section
variable {K : PySem.W.Frag}
end
def xMtT (c m : Str) (n : Nat) (F : FnT) (f : En → Option (Sl × En)) (fa : En → Option (List D × En)) : En → Option (Sl × En) := fun e => (f e).bind fun p => match p.1 with
  | .ow (.obj c' ns vs) => if c' = c ∧ m ∉ ns then (fa p.2).bind fun q => if q.1.length + 1 = n then (F (.pw (.obj c' ns vs) :: q.1.map .va)).bind fun r => some (r.1, q.2) else none else none
  | _ => none
def xFnT2 (F : FnT) (f1 f2 : En → Option (D × En)) (f : En → Option (Sl × En)) : En → Option (Sl × En) := fun e => (f1 e).bind fun p1 => (f2 p1.2).bind fun p2 => (f p2.2).bind fun p => match p.1 with
  | .ow o => (F [.va p1.1, .va p2.1, .pw o]).bind fun r => some (r.1, p.2)
  | _ => none
section
variable {X : Cx} {e : Expr} {n : Nat} {F : FnT} {f : En → Option (Sl × En)} {f1 f2 : En → Option (D × En)} {fa : En → Option (List D × En)} {E : XK} {c m : Str}
end
def xDict0T : En → Option (Sl × En) := fun e => some (.ow (.o1 (.dcT [] [])), e)
def xAllL : List (En → Option (D × En)) → En → Option (List D × En)
  | [] => xNil
  | f :: fs => xCons f (xAllL fs)
def trsL (K : PySem.W.Frag) : List Str → List (En → Option (D × En)) → List (TE × TE)
  | k :: ks, f :: fs => (tC (.str k), rdV K f) :: trsL K ks fs
  | _, _ => []
def nodupS : List Str → Bool
  | [] => true
  | k :: ks => !(ks.any fun j => decide (j = k)) && nodupS ks
def xDisp (ks : List Str) (fs : List (En → Option (D × En))) : En → Option (Sl × En) := fun e => (xAllL fs e).bind fun p => if (decide (p.1.length = ks.length) && (decide (ks.length ≤ 15) && nodupS ks)) = true then some (.ow (.o1 (.dct (ks.map Sum.inr) p.1)), p.2) else none
theorem rd_pairs {K : PySem.W.Frag} : ∀ (ks : List Str) (fs : List (En → Option (D × En))), ks.length = fs.length → ∀ σ H (Q : List (V × V) → Hp → Prop), rdA K (xAllL fs) σ H (fun vs H' => Q ((ks.map V.str).zip vs) H') → tPairs (trsL K ks fs) σ H Q
  | [], [], _, σ, H, Q, ⟨s, e1, e2, ok, ds, en', hf, q⟩ => by
    cases hf
    show Q [] H
    rw [← e2]
    exact q [] s e1 rfl ok (Stp.refl s) rfl
  | [], _ :: _, hl, _, _, _, _ => by cases hl
  | _ :: _, [], hl, _, _, _, _ => by cases hl
  | k :: ks, f :: fs, hl, σ, H, Q, ⟨s, e1, e2, ok, ds, en', hf, q⟩ => by
    obtain ⟨⟨d, en1⟩, h1, h2⟩ := Option.bind_eq_some_iff.mp hf
    obtain ⟨⟨ds2, en2⟩, h3, h4⟩ := Option.bind_eq_some_iff.mp h2
    cases h4
    show rdV K f σ H fun y H2 => tPairs (trsL K ks fs) σ H2 fun ps H3 => Q ((V.str k, y) :: ps) H3
    refine ⟨s, e1, e2, ok, d, en1, h1, fun v t tσ te okt st rp => rd_pairs ks fs (by simpa using hl) σ t.H _ ⟨t, tσ, rfl, okt, ds2, en2, by rw [te]; exact h3, fun vs u uσ ue oku st2 rps => ?_⟩⟩
    exact q (v :: vs) u uσ ue oku (st.trans st2) ⟨v, vs, rfl, rp.mono st2.bb, rps⟩
theorem nodupS_merge : ∀ {ks : List Str} {vs : List V} {acc : List (Key × V)}, nodupS ks = true → (∀ kv ∈ acc, ∀ k ∈ ks, kv.1 ≠ Sum.inr k) → mergeK acc ((ks.map (Sum.inr : Str → Key)).zip vs) = acc ++ (ks.map (Sum.inr : Str → Key)).zip vs
  | [], _, acc, _, _ => by simp [mergeK]
  | _ :: _, [], acc, _, _ => by simp [mergeK]
  | k :: ks, v :: vs, acc, h, ha => by
    obtain ⟨h1, h2⟩ : (ks.any fun j => decide (j = k)) = false ∧ nodupS ks = true := by
      unfold nodupS at h
      rw [Bool.and_eq_true_iff] at h
      exact ⟨by simpa using h.1, h.2⟩
    show mergeK (putK acc (Sum.inr k) v) ((ks.map Sum.inr).zip vs) = _
    have hp : putK acc (Sum.inr k) v = acc ++ [(Sum.inr k, v)] := by
      unfold putK
      rw [if_neg]
      intro z
      obtain ⟨kv, hm, he⟩ := List.any_eq_true.mp z
      exact ha kv hm k (by simp) (of_decide_eq_true he)
    rw [hp, nodupS_merge h2]
    · simp
    · intro kv hkv j hj
      rcases List.mem_append.mp hkv with hkv | hkv
      · exact ha kv hkv j (by simp [hj])
      · cases List.mem_singleton.mp hkv
        intro z
        have : k = j := Sum.inr.inj z
        subst this
        have := List.any_eq_false.mp h1 k hj
        simp at this
theorem zip_kv : ∀ (ks : List Str) (vs : List V), (ks.map V.str).zip vs = ((ks.map (Sum.inr : Str → Key)).zip vs).map fun kv => (kV kv.1, kv.2)
  | [], _ => rfl
  | _ :: _, [] => rfl
  | k :: ks, v :: vs => by
    show (V.str k, v) :: (ks.map V.str).zip vs = (kV (Sum.inr k), v) :: ((ks.map Sum.inr).zip vs).map _
    rw [zip_kv ks vs]
    rfl
section
variable {X : Cx} {e : Expr}
theorem xe_disp {ks : List Str} {fs : List (En → Option (D × En))} (hl : ks.length = fs.length) (h : PE X e (tDisp (trsL X.K ks fs))) : PE X e (rdE X.K (xDisp ks fs)) := PEi h fun σ H Q ⟨s, e1, e2, ok, x, en', hf, q⟩ => by
  obtain ⟨⟨ds, en1⟩, h1, h2⟩ := Option.bind_eq_some_iff.mp hf
  replace h2 : (if (decide (ds.length = ks.length) && (decide (ks.length ≤ 15) && nodupS ks)) = true then some (Sl.ow (.o1 (.dct (ks.map Sum.inr) ds)), en1) else none) = some (x, en') := h2
  split at h2
  · rename_i hc
    cases h2
    obtain ⟨c1, c2⟩ := He.ba hc
    obtain ⟨c2, c3⟩ := He.ba c2
    have c1 : ds.length = ks.length := of_decide_eq_true c1
    have c2 : ks.length ≤ 15 := of_decide_eq_true c2
    intro p hp
    subst e1 e2
    have np : ¬ inF s.fp p := fun z => by
      obtain ⟨w, hw, _⟩ := ok.cell z
      rw [hp] at hw; cases hw
    have okS : EnOk X.K ⟨s.B, upd s.H p (.dK []), s.σ, s.en, s.fp⟩ := ok.alc (Ex.refl _) (Ex.new hp) (ok.ex.trans (Ex.new hp)) ok.off
    refine rd_pairs ks fs hl _ _ _ ⟨⟨s.B, upd s.H p (.dK []), s.σ, s.en, s.fp⟩, rfl, rfl, okS, ds, _, h1, fun vs t tσ te okt st rp => ?_⟩
    have hH2 : t.H p = some (.dK []) := st.hh p _ upd_same np fun ps z => by cases z
    have npt : ¬ inF t.fp p := fun z => by
      rcases st.ff p z with z | z
      · exact np z
      · have z : upd s.H p (HO.dK []) p = none := z
        rw [upd_same] at z; cases z
    have bp : t.B p = none := by
      cases eb : t.B p with
      | none => rfl
      | some b =>
        rcases st.bn p b eb with z | z | z
        · have z : s.B p = some b := z
          rw [fresh_back ok.ex hp] at z; cases z
        · have z : upd s.H p (HO.dK []) p = none := z
          rw [upd_same] at z; cases z
        · exact (np z).elim
    have hlen : vs.length = ks.length := by rw [rp.len, c1]
    refine ⟨hH2, (ks.map (Sum.inr : Str → Key)).zip vs, zip_kv ks vs, by simp; omega, ?_⟩
    rw [nodupS_merge c3 (fun kv h => by cases h), List.nil_append]
    have k1 : ((ks.map (Sum.inr : Str → Key)).zip vs).map (·.1) = ks.map Sum.inr := List.map_fst_zip (by simp; omega)
    have k2 : ((ks.map (Sum.inr : Str → Key)).zip vs).map (·.2) = vs := List.map_snd_zip (by simp; omega)
    have keep : ∀ a, a ≠ p → upd t.H p (.dK ((ks.map (Sum.inr : Str → Key)).zip vs)) a = t.H a := fun a ha => upd_ne ha
    refine q (.ref p) ⟨t.B, upd t.H p (.dK ((ks.map (Sum.inr : Str → Key)).zip vs)), t.σ, t.en, t.fp⟩ [p] tσ te ⟨fun a o ha => ?_, okt.len, fun i y ey => ?_, okt.out, okt.dj, okt.off, okt.nt, okt.tb.own hH2 trivial⟩ ⟨st.bb, fun a o ho => ?_, fun a o ha hn nt => ?_, fun a ha => ?_, fun a ha => ?_, st.pn, st.ln⟩ ⟨_, rfl, p, rfl, rfl, _, upd_same, k1, by rw [k2]; exact rp⟩ ⟨fun a ha => ?_, fun a ha => ?_, fun a ha => ?_⟩
    · show upd _ _ _ a = some o
      rw [keep a (by rintro rfl; rw [bp] at ha; cases ha)]
      exact okt.ex a o ha
    · obtain ⟨ov, e1, k⟩ := okt.sl i y ey
      exact ⟨ov, e1, k.mono (Ex.refl _) fun a ha => keep a (by rintro rfl; exact npt ⟨i, ha⟩)⟩
    · rcases st.bn a o ho with z | z | z
      · exact .inl z
      · have z : upd s.H p (HO.dK []) a = none := z
        exact .inr (.inl (fresh_back (Ex.new hp) z))
      · exact .inr (.inr z)
    · show upd _ _ _ a = some o
      have : a ≠ p := by rintro rfl; rw [hp] at ha; cases ha
      rw [keep a this]
      exact st.hh a o (by show upd _ _ _ a = _; rw [upd_ne this]; exact ha) hn nt
    · have ha : upd t.H p _ a = none := ha
      have : a ≠ p := by rintro rfl; rw [upd_same] at ha; cases ha
      rw [keep a this] at ha
      have := st.dm a ha
      exact fresh_back (Ex.new hp) this
    · rcases st.ff a ha with z | z
      · exact .inl z
      · have z : upd s.H p (HO.dK []) a = none := z
        exact .inr (fresh_back (Ex.new hp) z)
    · cases List.mem_singleton.mp ha; exact npt
    · cases List.mem_singleton.mp ha; exact bp
    · cases List.mem_singleton.mp ha; exact .inl hp
  · cases h2
end
def xGet2 (f g h : En → Option (D × En)) : En → Option (D × En) := fun e => (f e).bind fun p => (g p.2).bind fun k => (h k.2).bind fun z => match p.1 with
  | .dct ks ds => k.1.key.bind fun kk => if dHas ks kk = true then (dGet ks ds kk).bind fun d => some (d, z.2) else some (z.1, z.2)
  | _ => none
section
variable {X : Cx} {e : Expr} {f g h : En → Option (D × En)}
end
section
variable {K : PySem.W.Frag} {F : FnT} {n : Nat} {c : Str} {E : XK}
end
def mkO (r : Option (Sl × En)) (e : En) : Option (Sl × En) := r.bind fun r => match r with
  | (.va .non, .pw o :: _) => some (.ow o, e)
  | _ => none
def xMkR (c : Str) (F : FnT) (fa : En → Option (List D × En)) : En → Option (Sl × En) := fun e => (fa e).bind fun p => if p.1.length ≤ 100000 then mkO (F [.pw (.obj c [] []), .va (.tup false p.1)]) p.2 else none
def xMkS (c : Str) (F : FnT) (f : En → Option (D × En)) : En → Option (Sl × En) := fun e => (f e).bind fun p => match p.1 with
  | .lst ds => if ds.length ≤ 100000 then mkO (F [.pw (.obj c [] []), .va (.tup false ds)]) p.2 else none
  | .tup _ ds => if ds.length ≤ 100000 then mkO (F [.pw (.obj c [] []), .va (.tup false ds)]) p.2 else none
  | _ => none
section
variable {X : Cx} {e : Expr} {F : FnT} {f : En → Option (D × En)} {fa : En → Option (List D × En)} {E : XK} {c : Str}
def xMkK (c : Str) (m : Nat) (F : FnT) (gD : List D → List D) (fa : En → Option (List D × En)) : En → Option (Sl × En) := fun e => (fa e).bind fun p => if p.1.length = m then mkO (F (.pw (.obj c [] []) :: (gD p.1).map .va)) p.2 else none
end
variable {W : WX}
section
variable {P : Program} {w : World} {K : PySem.W.Frag} {mg : Str → Option Value} {base : Heap} {x qual : Str} {st : Stmt} {f : Addr} {fd : FuncData} {N : List Str} {k n m : Nat} {b : En → Option Out} {pv : Str}
theorem xbody {vs : List V} {H : Hp} {Q : VK} {E : XK} (hN : N.length = m + n) (h : spM K m (fnM n b) vs H Q E) : rdS K wF b { nx := fun _ H' => Q .non H', rt := Q } (L2.start N vs) H := by
  obtain ⟨hl, s, hσ, hH, ok, ha, r, en', hF, q⟩ := h
  obtain ⟨o, h1, h2⟩ := Option.bind_eq_some_iff.mp hF
  have hs : s.en.length = vs.length := by rw [ok.len, hσ, List.length_map]
  refine ⟨⟨s.B, s.H, s.σ ++ List.replicate n none, s.en ++ List.replicate n .no, s.fp⟩, ?_, hH, body_start ok n, o, h1, ?_⟩
  · show s.σ ++ List.replicate n none = L2.start N vs
    unfold L2.start
    rw [hσ, hN, hl, show m + n - m = n by omega]
  cases o with
  | bk e => cases h2
  | ct e => cases h2
  | ex r e => cases h2
  | nx e =>
    cases h2
    intro u ue oku stu
    obtain ⟨t, t1, t2, t3, t4, t5, t6, _⟩ := body_end ok ha hσ oku stu
    rw [← t6]
    exact q .non t [] t1 (by rw [t2, ue]) t3 t4 ⟨rfl, _, rfl, rfl⟩ .nil
  | rt r e =>
    cases h2
    intro v u fr ue oku stu sl sd
    obtain ⟨t, t1, t2, t3, t4, t5, t6, t7⟩ := body_end ok ha hσ oku stu
    rw [← t6]
    exact q v t fr t1 (by rw [t2, ue]) t3 t4 (by rw [t5, t6]; exact sl) ⟨fun a ha' z => sd.no a ha' (t7 a z), by rw [t5]; exact sd.b, sd.new⟩
end
section
variable {X : Cx} {CX : CXT} {k j : Nat} {C : Addr} {ps ks : List Str} {sp : Sp} {E : XK} {x : Str} {p pos : Pos} {kws : List Keyword} {tk : TA} {gV : List V → List V → List V}
end
def mgK (ks : List Key) : List Key → List Key
  | [] => ks
  | k :: r => mgK (dPutK ks k) r
def mgD (ks : List Key) (ds : List D) : List Key → List D → List D
  | k :: r, d :: es => mgD (dPutK ks k) (dPutD ks ds k d) r es
  | _, _ => ds
def xDUp (i : Nat) (f : En → Option (D × En)) : En → Option (Sl × En) := fun e => (leafAt Str.empty e i none).bind fun o0 => (f e).bind fun p => (leafAt Str.empty p.2 i none).bind fun o => match o0, o, p.1 with
  | .dct _ _, .dct ks ds, .dct js es => if ks.length + js.length < 100000 then some (.va .non, setLeaf p.2 i (.dct (mgK ks js) (mgD ks ds js es)) none) else none
  | _, _, _ => none
def xMv (i : Nat) : En → Option (Sl × En) := fun e => match e[i]? with
  | some (.va d) => some (.va d, e)
  | some (.ow o) => some (.ow o, e.set i .no)
  | _ => none
variable {W : WX}
def IsDk (kvs : List (Key × V)) (u : HO) : Prop := u = .dK kvs ∨ ∃ o, u = .frz o (.dK kvs)
section
variable {K : PySem.W.Frag} {B H : Hp} {a : Addr} {u u' : HO} {kvs : List (Key × V)}
theorem sw_ne {x : Addr} {o : HO} (h : B a = some u) (hu : IsDk kvs u) (hx : B x = some o) (ho : ∀ l, o ≠ .dK l ∧ ∀ z, o ≠ .frz z (.dK l)) : x ≠ a := by
  rintro rfl
  rw [h] at hx
  cases hx
  rcases hu with rfl | ⟨z, rfl⟩
  · exact (ho kvs).1 rfl
  · exact (ho kvs).2 z rfl
theorem sw_sqL {x : Addr} {vs : List V} (h : B a = some u) (hu : IsDk kvs u) (s : SqL K B x vs) : SqL K (upd B a u') x vs := by
  rcases s with (s | ⟨o, s⟩) | s
  · exact .inl (.inl (by rw [upd_ne (sw_ne h hu s fun l => ⟨(fun z => nomatch z), (fun _ z => nomatch z)⟩)]; exact s))
  · exact .inl (.inr ⟨o, by rw [upd_ne (sw_ne h hu s fun l => ⟨(fun z => nomatch z), (fun _ z => nomatch z)⟩)]; exact s⟩)
  · exact .inr s
theorem sw_sqT {x : Addr} {vs : List V} (h : B a = some u) (hu : IsDk kvs u) (s : SqT K B x vs) : SqT K (upd B a u') x vs := by
  rcases s with (s | ⟨o, s⟩) | s
  · exact .inl (.inl (by rw [upd_ne (sw_ne h hu s fun l => ⟨(fun z => nomatch z), (fun _ z => nomatch z)⟩)]; exact s))
  · exact .inl (.inr ⟨o, by rw [upd_ne (sw_ne h hu s fun l => ⟨(fun z => nomatch z), (fun _ z => nomatch z)⟩)]; exact s⟩)
  · exact .inr s
theorem sw_rd {x : Addr} {l : List (Key × V)} (h : B a = some u) (hu : IsDk kvs u) (hu' : IsDk kvs u') (s : Rd B x (.dK l)) : Rd (upd B a u') x (.dK l) := by
  by_cases hx : x = a
  · subst hx
    have : l = kvs := by
      rcases s with s | ⟨o, s⟩
      · rw [h] at s
        cases s
        rcases hu with e | ⟨z, e⟩
        · cases e; rfl
        · cases e
      · rw [h] at s
        cases s
        rcases hu with e | ⟨z, e⟩
        · cases e
        · cases e; rfl
    subst this
    rcases hu' with rfl | ⟨z, rfl⟩
    · exact .inl upd_same
    · exact .inr ⟨z, upd_same⟩
  · rcases s with s | ⟨o, s⟩
    · exact .inl (by rw [upd_ne hx]; exact s)
    · exact .inr ⟨o, by rw [upd_ne hx]; exact s⟩
mutual
theorem Rep.sw (h : B a = some u) (hu : IsDk kvs u) (hu' : IsDk kvs u') : ∀ {d : D} {v : V}, Rep K B d v → Rep K (upd B a u') d v
  | .non, _, h => h
  | .bl _, _, h => h
  | .int _, _, h => h
  | .str _, _, h => h
  | .scr _, _, ⟨x, e, s⟩ => ⟨x, e, sw_sqL h hu s⟩
  | .lst _, _, ⟨x, vs, e, s, r⟩ => ⟨x, vs, e, by rw [upd_ne (sw_ne h hu s fun l => ⟨(fun z => nomatch z), (fun _ z => nomatch z)⟩)]; exact s, RepL.sw h hu hu' r⟩
  | .tup k _, _, ⟨x, vs, e, s, r⟩ => ⟨x, vs, e, by
      cases k with
      | true => exact sw_sqT h hu s
      | false =>
        have s : B x = some (.tup vs) := s
        show upd B a u' x = some (.tup vs)
        rw [upd_ne (sw_ne h hu s fun l => ⟨(fun z => nomatch z), (fun _ z => nomatch z)⟩)]; exact s, RepL.sw h hu hu' r⟩
  | .dct _ _, _, ⟨x, l, e, s, k, r⟩ => ⟨x, l, e, sw_rd h hu hu' s, k, RepL.sw h hu hu' r⟩
  | .dcT _ _, _, ⟨x, l, e, s, k, r⟩ => ⟨x, l, e, by rw [upd_ne (sw_ne h hu s fun l => ⟨(fun z => nomatch z), (fun _ z => nomatch z)⟩)]; exact s, k, RepL.sw h hu hu' r⟩
  | .obj _ _ _, _, ⟨x, dx, l, e, s, k, r⟩ => ⟨x, dx, l, e, by rw [upd_ne (sw_ne h hu s fun l => ⟨(fun z => nomatch z), (fun _ z => nomatch z)⟩)]; exact s, k, RepL.sw h hu hu' r⟩
theorem RepL.sw (h : B a = some u) (hu : IsDk kvs u) (hu' : IsDk kvs u') : ∀ {ds : List D} {vs : List V}, RepL K B ds vs → RepL K (upd B a u') ds vs
  | [], _, h => h
  | _ :: _, _, ⟨v, r, e, x, y⟩ => ⟨v, r, e, Rep.sw h hu hu' x, RepL.sw h hu hu' y⟩
end
section
variable (h : B a = some u) (hu : IsDk kvs u) (hu' : IsDk kvs u')
include h hu hu'
theorem OwnL.sw {o : O1} {l : Addr} (hl : OwnL K B H o l) : OwnL K (upd B a u') H o l := by
  cases o with
  | lst ds => obtain ⟨vs, h1, r⟩ := hl; exact ⟨vs, h1, r.sw h hu hu'⟩
  | dct ks ds => obtain ⟨vs, h1, q, r⟩ := hl; exact ⟨vs, h1, q, r.sw h hu hu'⟩
  | dcT ks ds => obtain ⟨vs, h1, q, r⟩ := hl; exact ⟨vs, h1, q, r.sw h hu hu'⟩
theorem FvOk.sw {f : Fv} {v : V} {fp : List Addr} (hl : FvOk K B H f v fp) : FvOk K (upd B a u') H f v fp := by
  cases f with
  | va d => exact ⟨hl.1.sw h hu hu', hl.2⟩
  | ow o => obtain ⟨l, h1, h2, h3⟩ := hl; exact ⟨l, h1, h2, h3.sw h hu hu'⟩
theorem FvL.sw : ∀ {fs : List Fv} {vs : List V} {fp : List Addr}, FvL K B H fs vs fp → FvL K (upd B a u') H fs vs fp
  | [], _, _, hl => hl
  | f :: fs, _, _, ⟨v, r, p, q, hv, ef, h1, h2, dj⟩ => ⟨v, r, p, q, hv, ef, h1.sw h hu hu', FvL.sw h2, dj⟩
theorem Own.sw {o : O2} {v : V} {fp : List Addr} (hl : Own K B H o v fp) : Own K (upd B a u') H o v fp := by
  cases o with
  | o1 o => obtain ⟨l, h1, h2, h3⟩ := hl; exact ⟨l, h1, h2, h3.sw h hu hu'⟩
  | obj c ns fs => obtain ⟨x, dx, kv, q, h1, hx, hn, h3, ef, nx⟩ := hl; exact ⟨x, dx, kv, q, h1, hx, hn, h3.sw h hu hu', ef, nx⟩
theorem SlOk.sw {ov : Option V} {s : Sl} {fp : List Addr} (hl : SlOk K B H ov s fp) (na : a ∉ fp) : SlOk K (upd B a u') (upd H a u') ov s fp := by
  have key : SlOk K (upd B a u') H ov s fp := by
    cases s with
    | no => exact hl
    | va d => obtain ⟨h1, v, h2, h3⟩ := hl; exact ⟨h1, v, h2, h3.sw h hu hu'⟩
    | ow o => obtain ⟨v, h1, h2⟩ := hl; exact ⟨v, h1, h2.sw h hu hu'⟩
    | pw o => obtain ⟨v, h1, h2⟩ := hl; exact ⟨v, h1, h2.sw h hu hu'⟩
  exact key.mono (Ex.refl _) fun b hb => upd_ne (by rintro rfl; exact na hb)
end
end
section
variable {K : PySem.W.Frag} {a : Addr} {u u' : HO} {kvs : List (Key × V)}
theorem RepEr.sw (h : B a = some u) (hu : IsDk kvs u) (hu' : IsDk kvs u') {er : Er} {cls : Value} {d : Option Addr} (r : RepEr K B er cls d) : RepEr K (upd B a u') er cls d := by
  obtain ⟨h1, h2⟩ := r
  refine ⟨h1, ?_⟩
  rcases h2 with h2 | ⟨dd, ks, h2, h3, h4, h5⟩
  · exact .inl h2
  · refine .inr ⟨dd, ks, h2, ?_, h4, RepL.sw h hu hu' h5⟩
    have na : dd ≠ a := by
      rintro rfl
      rw [h] at h3
      cases h3
      rcases hu with z | ⟨_, z⟩ <;> cases z
    rw [upd_ne na]; exact h3
def Sta.sw (s : Sta) (a : Addr) (u : HO) : Sta := ⟨upd s.B a u, upd s.H a u, s.σ, s.en, s.fp⟩
theorem EnOk.sw {s : Sta} (ok : EnOk K s) (h : s.B a = some u) (hu : IsDk kvs u) (hu' : IsDk kvs u') : EnOk K (s.sw a u') where
  nt := nt_upd ok.nt (by rcases hu' with rfl | ⟨_, rfl⟩ <;> exact fun ps z => by cases z)
  tb := ok.tb.at (ok.ex a u h) (by rcases hu with rfl | ⟨_, rfl⟩ <;> exact fun z => z)
  ex := fun x o e => by
    have e : upd s.B a u' x = some o := e
    show upd s.H a u' x = some o
    by_cases hx : x = a
    · subst hx; rw [upd_same] at e; rw [upd_same]; exact e
    · rw [upd_ne hx] at e; rw [upd_ne hx]; exact ok.ex x o e
  len := ok.len
  sl := fun i x e => by
    obtain ⟨ov, e1, q⟩ := ok.sl i x e
    exact ⟨ov, e1, q.sw h hu hu' fun z => by rw [ok.off i a z] at h; cases h⟩
  out := ok.out
  dj := ok.dj
  off := fun i x hx => by
    show upd s.B a u' x = none
    rw [upd_ne (by rintro rfl; rw [ok.off i x hx] at h; cases h)]
    exact ok.off i x hx
theorem Stp.unlock {s t : Sta} {od : Obj} (ok : EnOk K s) (h : s.B a = some (.dK kvs)) (st : Stp (s.sw a (.frz od (.dK kvs))) t) : t.B a = some (.frz od (.dK kvs)) ∧ Stp s (t.sw a (.dK kvs)) := by
  have hb : t.B a = some (.frz od (.dK kvs)) := st.bb a _ upd_same
  refine ⟨hb, fun x o e => ?_, fun x o e => ?_, fun x o e n nt => ?_, fun x e => ?_, fun x z => ?_, st.pn, st.ln⟩
  · show upd t.B a _ x = some o
    by_cases hx : x = a
    · subst hx; rw [h] at e; rw [upd_same]; exact e
    · rw [upd_ne hx]; exact st.bb x o (by show upd s.B a _ x = some o; rw [upd_ne hx]; exact e)
  · have e : upd t.B a _ x = some o := e
    by_cases hx : x = a
    · subst hx; rw [upd_same] at e; exact .inl (h.trans e)
    · rw [upd_ne hx] at e
      rcases st.bn x o e with z | z | z
      · have z : upd s.B a _ x = some o := z
        rw [upd_ne hx] at z; exact .inl z
      · have z : upd s.H a _ x = none := z
        rw [upd_ne hx] at z; exact .inr (.inl z)
      · exact .inr (.inr z)
  · show upd t.H a _ x = some o
    by_cases hx : x = a
    · subst hx
      rw [upd_same]
      have := ok.ex x _ h
      rw [e] at this
      exact this.symm
    · rw [upd_ne hx]
      exact st.hh x o (by show upd s.H a _ x = some o; rw [upd_ne hx]; exact e) n nt
  · have e : upd t.H a _ x = none := e
    by_cases hx : x = a
    · subst hx; rw [upd_same] at e; cases e
    · rw [upd_ne hx] at e
      have := st.dm x e
      have z : upd s.H a _ x = none := this
      rw [upd_ne hx] at z; exact z
  · rcases st.ff x z with z | z
    · exact .inl z
    · have z : upd s.H a _ x = none := z
      by_cases hx : x = a
      · subst hx; rw [upd_same] at z; cases z
      · rw [upd_ne hx] at z; exact .inr z
theorem Side.unlock {s t : Sta} {od : Obj} {fr : List Addr} (h : t.B a = some (.frz od (.dK kvs))) (sd : Side (s.sw a (.frz od (.dK kvs))) t fr) : Side s (t.sw a (.dK kvs)) fr ∧ a ∉ fr := by
  have na : a ∉ fr := fun z => by have := sd.b a z; rw [h] at this; cases this
  refine ⟨⟨sd.no, fun x hx => ?_, fun x hx => ?_⟩, na⟩
  · show upd t.B a _ x = none
    rw [upd_ne (by rintro rfl; exact na hx)]; exact sd.b x hx
  · rcases sd.new x hx with z | z
    · have z : upd s.H a _ x = none := z
      rw [upd_ne (by rintro rfl; exact na hx)] at z; exact .inl z
    · exact .inr z
end
def kyD : Key → D
  | .inl i => .int i
  | .inr x => .str x
theorem kyD_rep {K : PySem.W.Frag} {B : Hp} (k : Key) : Rep K B (kyD k) (kV k) := by cases k <;> rfl
def xItK (i : Nat) : En → Option (List D × En) := fun e => match e[i]? with
  | some (.va (.dct ks _)) => some (ks.map kyD, e)
  | _ => none
def xItI (i : Nat) : En → Option (List D × En) := fun e => match e[i]? with
  | some (.va (.dct ks ds)) => some ((ks.zip ds).map fun p => .tup false [kyD p.1, p.2], e)
  | _ => none
theorem xItI_of {i : Nat} {e e' : En} {ds : List D} (h : xItI i e = some (ds, e')) : ∃ ks es, e[i]? = some (.va (.dct ks es)) ∧ ds = ((ks.zip es).map fun p => .tup false [kyD p.1, p.2]) ∧ e' = e := by
  unfold xItI at h
  cases q : e[i]? with
  | none => rw [q] at h; cases h
  | some x =>
    rw [q] at h
    cases x with
    | va d =>
      cases d with
      | dct ks es => cases h; exact ⟨ks, es, rfl, rfl, rfl⟩
      | _ => cases h
    | _ => cases h
section
variable {K : PySem.W.Frag} {σ : L2.St} {H : Hp} {i : Nat} {a : Addr} {od : Obj} {kvs : List (Key × V)}
theorem it_slot {s : Sta} {ks : List Key} {ds : List D} (ok : EnOk K s) (e : s.en[i]? = some (.va (.dct ks ds))) : ∃ a l, s.σ[i]? = some (some (.ref a)) ∧ Rd s.B a (.dK l) ∧ l.map (·.1) = ks ∧ RepL K s.B ds (l.map (·.2)) := by
  obtain ⟨ov, e1, _, v, rfl, a, l, rfl, h, k, r⟩ := ok.sl i _ e
  exact ⟨a, l, e1, h, k, r⟩
theorem it_locked {s : Sta} {l : List (Key × V)} (ok : EnOk K s) (h : Rd s.B a (.dK l)) (hl : s.H a = some (.frz od (.dK kvs))) : s.B a = some (.frz od (.dK kvs)) ∧ l = kvs := by
  rcases h with h | ⟨o, h⟩
  · have := ok.ex _ _ h
    rw [hl] at this; cases this
  · have := ok.ex _ _ h
    rw [hl] at this
    cases this
    exact ⟨h, rfl⟩
theorem it_items {R : It → Hp → Prop} (hl : H a = some (.frz od (.dK kvs))) (hσ : σ[i]? = some (some (.ref a))) : rdI K (xItI i) σ H R → iItems (tVar i) σ H R := fun ⟨s, e1, e2, ok, ds, en', hf, q⟩ => by
  obtain ⟨ks, es, he, rfl, rfl⟩ := xItI_of hf
  · obtain ⟨a', l, e3, h, k, r⟩ := it_slot ok he
    rw [e1, hσ] at e3
    cases e3
    obtain ⟨hb, rfl⟩ := it_locked ok h (by rw [e2]; exact hl)
    subst k
    refine ⟨.ref a, hσ, a, od, l, rfl, hl, ?_⟩
    rw [← e2]
    have hle : es.length = l.length := by have := r.len; simp at this; exact this.symm
    have hlen : (((l.map (·.1)).zip es).map fun p => D.tup false [kyD p.1, p.2]).length = l.length := by simp; omega
    refine q s _ e1 rfl ok (Stp.refl s) ⟨fun H' ex => ⟨ex _ _ hb, by rw [hlen]; exact Nat.le_refl _⟩, fun j H' ex hj => ⟨ex _ _ hb, by rw [hlen] at hj; exact hj⟩, fun j H' x H'' ex hj y => ?_⟩
    obtain ⟨T, kk, v, e, rfl, hT, rfl⟩ := y
    obtain ⟨d, hd, rd⟩ := r.atV (i := j) (v := v) (by simp [e])
    refine ⟨Ex.new hT, .tup false [kyD kk, d], ?_, fun B' eb el => ⟨upd B' T (.tup [kV kk, v]), Ex.new (fresh_back el hT), fun b o z => ?_, fun b o z => ?_, T, _, rfl, upd_same, kV kk, [v], rfl, kyD_rep kk, v, [], rfl, rd.mono (eb.trans (Ex.new (fresh_back el hT))), rfl⟩⟩
    · have hz : ((l.map (·.1)).zip es)[j]? = some (kk, d) := List.getElem?_zip_eq_some.mpr ⟨by simp [e], hd⟩
      rw [List.getElem?_map, hz]
      rfl
    · by_cases hb : b = T
      · subst hb; rw [upd_same] at z; rw [upd_same]; exact z
      · rw [upd_ne hb] at z; rw [upd_ne hb]; exact el b o z
    · by_cases hb : b = T
      · subst hb; exact .inr hT
      · rw [upd_ne hb] at z; exact .inl z
end
section
variable {K : PySem.W.Frag} {f : En → Option (List D × En)} {g : D → En → Option En} {b : En → Option Out}
theorem rd_for : ∀ D σ H, rdS K W (xFor f g b) D σ H → tFor (rdI K f) (rdG K g) (rdS K W b) D σ H := fun D σ H ⟨s, e1, e2, ok, o, hf, q⟩ => by
  obtain ⟨⟨ds, en1⟩, k1, k2⟩ := Option.bind_eq_some_iff.mp hf
  refine ⟨s, e1, e2, ok, ds, en1, k1, fun t J tσ te okt stt it => ?_⟩
  refine ⟨fun i m σ' H' => m = ds.length - i ∧ i ≤ ds.length ∧ ∃ u : Sta, u.σ = σ' ∧ u.H = H' ∧ EnOk K u ∧ Stp s u ∧ Ex t.B u.B ∧ loopM g b (ds.drop i) u.en = some o, ⟨_, rfl, Nat.zero_le _, t, tσ, rfl, okt, stt, Ex.refl _, by rw [te]; exact k2⟩, ?_⟩
  rintro i m σ' H' ⟨rfl, hi, u, rfl, rfl, oku, stu, eu, hl⟩
  have itu := it.grow eu
  by_cases hlt : i < ds.length
  · refine .inr ⟨itu.go i u.H oku.ex hlt, fun σ2 H2 => ∃ u : Sta, u.σ = σ2 ∧ u.H = H2 ∧ EnOk K u ∧ Stp s u ∧ Ex t.B u.B ∧ loopM g b (ds.drop (i + 1)) u.en = some o, fun σ2 H2 z => ⟨_, by omega, rfl, hlt, z⟩, fun x H2 y => ?_⟩
    obtain ⟨d, B', hd, ok1, st1, rp, eb⟩ := itu.next oku stu hlt y
    have hdrop : ds.drop i = d :: ds.drop (i + 1) := by
      rw [List.drop_eq_getElem_cons hlt]
      congr 1
      exact (List.getElem?_eq_some_iff.mp hd).2
    rw [hdrop] at hl
    obtain ⟨en2, l1, l2⟩ := Option.bind_eq_some_iff.mp hl
    obtain ⟨o1, l3, l4⟩ := Option.bind_eq_some_iff.mp l2
    refine ⟨⟨B', H2, u.σ, u.en, u.fp⟩, d, rfl, rfl, ok1, rp, en2, l1, fun w we okw stw => ⟨w, rfl, rfl, okw, o1, by rw [we]; exact l3, ?_⟩⟩
    have ebw : Ex t.B w.B := (eu.trans eb).trans stw.bb
    cases o1 with
    | nx e3 => exact fun z ze okz stz => ⟨z, rfl, rfl, okz, (st1.trans stw).trans stz, ebw.trans stz.bb, by rw [ze]; exact l4⟩
    | ct e3 => exact fun z ze okz stz => ⟨z, rfl, rfl, okz, (st1.trans stw).trans stz, ebw.trans stz.bb, by rw [ze]; exact l4⟩
    | bk e3 => cases l4; exact q.from (st1.trans stw)
    | rt r e3 => cases l4; exact q.from (st1.trans stw)
    | ex r e3 => cases l4; exact q.from (st1.trans stw)
  · have e : i = ds.length := by omega
    subst e
    rw [List.drop_length] at hl
    cases hl
    exact .inl ⟨itu.stop u.H oku.ex, q u rfl oku stu⟩
end
section
variable {K : PySem.W.Frag} {i : Nat} {g : D → En → Option En} {b : En → Option Out} {it : En → Option (List D × En)} {ti : TI}
theorem rd_forD (hit : ∀ {e e' : En} {ds : List D}, it e = some (ds, e') → ∃ ks es, e[i]? = some (.va (.dct ks es)))
    (hk : ∀ {σ : L2.St} {H : Hp} {a : Addr} {od : Obj} {kvs : List (Key × V)} {R : It → Hp → Prop}, H a = some (.frz od (.dK kvs)) → σ[i]? = some (some (.ref a)) → rdI K it σ H R → ti σ H R) :
    ∀ D σ H, rdS K wF (xFor it g b) D σ H → tLock (tFor ti (rdG K g) (rdS K wF b)) D σ H ∨ tFor ti (rdG K g) (rdS K wF b) D σ H := fun D σ H ⟨s, e1, e2, ok, o, hf, q⟩ => by
  obtain ⟨⟨ds, en1⟩, k1, k2⟩ := Option.bind_eq_some_iff.mp hf
  obtain ⟨ks, es, he⟩ := hit k1
  obtain ⟨a, l, hσ, hr, hks, rl⟩ := it_slot ok he
  rw [e1] at hσ
  rcases hr with hb | ⟨od, hb⟩
  · refine .inl ⟨a, .dK l, by rw [← e2]; exact ok.ex _ _ hb, trivial, fun od => ?_⟩
    refine hk (a := a) (od := od) (kvs := l) upd_same hσ ?_
    have ok' := ok.sw hb (.inl rfl) (.inr ⟨od, rfl⟩)
    have fin : ∀ D' : Ends, (∀ σ' H', H' a = some (.frz od (.dK l)) ∧ D.nx σ' (upd H' a (.dK l)) → D'.nx σ' H') → (∀ v H', H' a = some (.frz od (.dK l)) ∧ D.rt v (upd H' a (.dK l)) → D'.rt v H') → (∀ σ' H', H' a = some (.frz od (.dK l)) ∧ D.bk σ' (upd H' a (.dK l)) → D'.bk σ' H') → (∀ σ' H', H' a = some (.frz od (.dK l)) ∧ D.ct σ' (upd H' a (.dK l)) → D'.ct σ' H') → EndO K wF D' (s.sw a (.frz od (.dK l))) o := fun D' n1 n2 n3 n4 => by
      cases o with
      | nx e =>
        intro t te okt st
        obtain ⟨hb2, st2⟩ := st.unlock ok hb
        exact n1 _ _ ⟨okt.ex _ _ hb2, q (t.sw a (.dK l)) te (okt.sw hb2 (.inr ⟨od, rfl⟩) (.inl rfl)) st2⟩
      | bk e =>
        intro t te okt st
        obtain ⟨hb2, st2⟩ := st.unlock ok hb
        exact n3 _ _ ⟨okt.ex _ _ hb2, q (t.sw a (.dK l)) te (okt.sw hb2 (.inr ⟨od, rfl⟩) (.inl rfl)) st2⟩
      | ct e =>
        intro t te okt st
        obtain ⟨hb2, st2⟩ := st.unlock ok hb
        exact n4 _ _ ⟨okt.ex _ _ hb2, q (t.sw a (.dK l)) te (okt.sw hb2 (.inr ⟨od, rfl⟩) (.inl rfl)) st2⟩
      | ex r e =>
        intro cls d t te okt st re
        obtain ⟨hb2, st2⟩ := st.unlock ok hb
        exact q cls d (t.sw a (.dK l)) te (okt.sw hb2 (.inr ⟨od, rfl⟩) (.inl rfl)) st2 (re.sw hb2 (.inr ⟨od, rfl⟩) (.inl rfl))
      | rt r e =>
        intro v t fr te okt st sl sd
        obtain ⟨hb2, st2⟩ := st.unlock ok hb
        obtain ⟨sd2, na⟩ := sd.unlock hb2
        exact n2 _ _ ⟨okt.ex _ _ hb2, q v (t.sw a (.dK l)) fr te (okt.sw hb2 (.inr ⟨od, rfl⟩) (.inl rfl)) st2 (sl.sw hb2 (.inr ⟨od, rfl⟩) (.inl rfl) na) sd2⟩
    have := rd_for (K := K) (f := it) (g := g) (b := b) ⟨fun σ' H' => H' a = some (.frz od (.dK l)) ∧ D.nx σ' (upd H' a (.dK l)), fun v H' => H' a = some (.frz od (.dK l)) ∧ D.rt v (upd H' a (.dK l)), fun σ' H' => H' a = some (.frz od (.dK l)) ∧ D.bk σ' (upd H' a (.dK l)), fun σ' H' => H' a = some (.frz od (.dK l)) ∧ D.ct σ' (upd H' a (.dK l))⟩ σ (upd H a (.frz od (.dK l))) ⟨s.sw a (.frz od (.dK l)), e1, by show upd s.H a _ = _; rw [e2], ok', o, hf, fin _ (fun _ _ h => h) (fun _ _ h => h) (fun _ _ h => h) (fun _ _ h => h)⟩
    exact this
  · refine .inr (hk (a := a) (od := od) (kvs := l) (by rw [← e2]; exact ok.ex _ _ hb) hσ ?_)
    exact rd_for D σ H ⟨s, e1, e2, ok, o, hf, q⟩
end
section
variable {X : Cx} {st : Stmt} {e : Expr} {i : Nat} {g : D → En → Option En} {b : En → Option Out}
theorem PSor {t1 t2 t' : TS} (h1 : PS X st t1) (h2 : PS X st t2) (i : ∀ D σ H, t' D σ H → t1 D σ H ∨ t2 D σ H) : PS X st t' := ⟨fun pins s σ H D I q => (i D σ H q).elim (h1.run pins s σ H D I) (h2.run pins s σ H D I)⟩
theorem xs_forI (h : PS X st (tFor (iItems (tVar i)) (rdG X.K g) (rdS X.K wF b))) : PS X st (rdS X.K wF (xFor (xItI i) g b)) :=
  PSor (ps_lock h) h (rd_forD (fun h => let ⟨ks, es, he, _⟩ := xItI_of h; ⟨ks, es, he⟩) fun h1 h2 h3 => it_items h1 h2 h3)
end
section
variable {X : Cx} {e : Expr} {i : Nat} {vs : List Nat} {g : TG} {gD : D → En → Option En} {c : En → Option (Bool × En)} {f : En → Option (D × En)}
end
def insI (i : Int) : List Int → List Int
  | [] => [i]
  | j :: r => if i ≤ j then i :: j :: r else j :: insI i r
def sortI : List Int → List Int
  | [] => []
  | i :: r => insI i (sortI r)
variable {W : WX}
def Sl.kill : Sl → Sl
  | .pw o => .pw o
  | _ => .no
def Sl.frz : Sl → Sl
  | .ow o => .va o.fz
  | x => x
def klM : List Bool → En → En
  | [], e => e
  | _ :: _, [] => []
  | true :: m, x :: e => x.kill :: klM m e
  | false :: m, x :: e => x :: klM m e
def frE : Nat → En → En
  | _, [] => []
  | 0, x :: e => x.frz :: e
  | n + 1, x :: e => x :: frE n e
def killO (m : List Bool) : Out → Out
  | .nx e => .nx (klM m e)
  | o => o
def killB (m : List Bool) : Out → Out
  | .nx e => .nx (klM m e)
  | .ct e => .ct (klM m e)
  | .bk e => .bk (klM m e)
  | o => o
def xKl (m : List Bool) (f : En → Option Out) : En → Option Out := fun e => (f e).bind fun o => some (killO m o)
def xKb (m : List Bool) (f : En → Option Out) : En → Option Out := fun e => (f e).bind fun o => some (killB m o)
def xFr (i : Nat) (f : En → Option Out) : En → Option Out := fun e => f (frE i e)
theorem klM_len : ∀ (m : List Bool) (e : En), (klM m e).length = e.length
  | [], _ => rfl
  | _ :: _, [] => rfl
  | true :: m, _ :: e => congrArg (· + 1) (klM_len m e)
  | false :: m, _ :: e => congrArg (· + 1) (klM_len m e)
theorem kill_at (x : Sl) : x.kill = x ∨ x.kill = .no ∧ ∀ o, x ≠ .pw o := by
  cases x with
  | pw o => exact .inl rfl
  | _ => exact .inr ⟨rfl, fun o z => by cases z⟩
theorem klM_at : ∀ {m : List Bool} {e : En} {i : Nat} {y : Sl}, (klM m e)[i]? = some y → ∃ x, e[i]? = some x ∧ (y = x ∨ y = .no ∧ ∀ o, x ≠ .pw o)
  | [], _, _, y, h => ⟨y, h, .inl rfl⟩
  | _ :: _, [], _, _, h => by simp [klM] at h
  | true :: m, x :: e, 0, y, h => by
    cases Option.some.inj (show some x.kill = some y from h)
    exact ⟨x, rfl, kill_at x⟩
  | false :: m, x :: e, 0, y, h => by
    cases Option.some.inj (show some x = some y from h)
    exact ⟨x, rfl, .inl rfl⟩
  | true :: m, x :: e, i + 1, y, h => by
    obtain ⟨z, h1, h2⟩ := klM_at (m := m) (e := e) (i := i) (y := y) (by simpa [klM] using h)
    exact ⟨z, by simpa using h1, h2⟩
  | false :: m, x :: e, i + 1, y, h => by
    obtain ⟨z, h1, h2⟩ := klM_at (m := m) (e := e) (i := i) (y := y) (by simpa [klM] using h)
    exact ⟨z, by simpa using h1, h2⟩
def klF (m : List Bool) (s : Sta) : Nat → List Addr := fun i => match (klM m s.en)[i]? with
  | some .no => []
  | _ => s.fp i
section
variable {K : PySem.W.Frag}
theorem klF_sub {m : List Bool} {s : Sta} {i : Nat} {a : Addr} (h : a ∈ klF m s i) : a ∈ s.fp i := by
  unfold klF at h
  split at h
  · cases h
  · exact h
theorem kl_ok {s : Sta} (ok : EnOk K s) (m : List Bool) : EnOk K ⟨s.B, s.H, s.σ, klM m s.en, klF m s⟩ ∧ Stp s ⟨s.B, s.H, s.σ, klM m s.en, klF m s⟩ := by
  refine ⟨⟨ok.ex, ?_, fun i x e => ?_, fun i e => ?_, fun i j a hi hj => ok.dj i j a (klF_sub hi) (klF_sub hj), fun i a hi => ok.off i a (klF_sub hi), ok.nt, ok.tb⟩,
    ⟨Ex.refl _, fun _ _ h => .inl h, fun _ _ h _ _ => h, fun _ h => h, fun a ⟨i, hi⟩ => .inl ⟨i, klF_sub hi⟩, fun i o h => ⟨rfl, o, ?_⟩, klM_len ..⟩⟩
  · show (klM m s.en).length = _
    rw [klM_len]; exact ok.len
  · have e : (klM m s.en)[i]? = some x := e
    obtain ⟨y, h1, h2⟩ := klM_at e
    obtain ⟨ov, e1, q⟩ := ok.sl i y h1
    refine ⟨ov, e1, ?_⟩
    show SlOk K s.B s.H ov x (klF m s i)
    unfold klF
    rw [e]
    rcases h2 with rfl | ⟨rfl, _⟩
    · cases x with
      | no => exact rfl
      | _ => exact q
    · exact rfl
  · have e : (klM m s.en)[i]? = none := e
    have hl := List.getElem?_eq_none_iff.mp e
    rw [klM_len] at hl
    show klF m s i = []
    unfold klF
    rw [e]
    exact ok.out i (List.getElem?_eq_none hl)
  · show (klM m s.en)[i]? = some (.pw o)
    have hi : i < (klM m s.en).length := by rw [klM_len]; exact (List.getElem?_eq_some_iff.mp h).1
    obtain ⟨y, h1, h2⟩ := klM_at (List.getElem?_eq_getElem hi)
    rw [h] at h1
    cases h1
    rcases h2 with h2 | ⟨_, h2⟩
    · rw [List.getElem?_eq_getElem hi, h2]
    · exact absurd rfl (h2 o)
theorem frE_at : ∀ {i : Nat} {e : En} {o : O2}, e[i]? = some (.ow o) → frE i e = e.set i (.va o.fz)
  | _, [], _, h => by simp at h
  | 0, x :: e, o, h => by
    cases Option.some.inj (show some x = _ from h)
    rfl
  | i + 1, x :: e, o, h => by
    have := frE_at (i := i) (e := e) (o := o) (by simpa using h)
    show x :: frE i e = x :: e.set i _
    rw [this]
theorem frE_no : ∀ {i : Nat} {e : En}, (∀ o, e[i]? ≠ some (.ow o)) → frE i e = e
  | _, [], _ => by cases ‹Nat› <;> rfl
  | 0, x :: e, h => by
    cases x with
    | ow o => exact absurd rfl (h o)
    | _ => rfl
  | i + 1, x :: e, h => by
    have := frE_no (i := i) (e := e) fun o z => h o (by simpa using z)
    show x :: frE i e = _
    rw [this]
theorem fr_ok {s : Sta} (ok : EnOk K s) (i : Nat) : ∃ t : Sta, t.σ = s.σ ∧ t.H = s.H ∧ t.en = frE i s.en ∧ EnOk K t ∧ Stp s t := by
  by_cases h : ∃ o, s.en[i]? = some (.ow o)
  · obtain ⟨o, e⟩ := h
    obtain ⟨ov, ev, v, rfl, ho⟩ := ok.sl i _ e
    obtain ⟨k1, k2, k3⟩ := frz_slot ok e ho ev
    exact ⟨⟨joinB s.B s.H (s.fp i), s.H, s.σ, s.en.set i (.va o.fz), fun j => if j = i then [] else s.fp j⟩, rfl, rfl, (frE_at e).symm, k1, k2⟩
  · exact ⟨s, rfl, rfl, (frE_no fun o z => h ⟨o, z⟩).symm, ok, Stp.refl s⟩
end
section
variable {X : Cx} {st : Stmt} {sts : List Stmt} {f : En → Option Out} {m : List Bool} {i : Nat}
theorem rd_kl {K : PySem.W.Frag} : ∀ D σ H, rdS K W (xKl m f) D σ H → rdS K W f D σ H := fun D σ H ⟨s, e1, e2, ok, o, hf, q⟩ => by
  obtain ⟨o1, k1, k2⟩ := Option.bind_eq_some_iff.mp hf
  cases k2
  refine ⟨s, e1, e2, ok, o1, k1, ?_⟩
  cases o1 with
  | nx e => exact fun t te okt st => q ⟨t.B, t.H, t.σ, klM m t.en, klF m t⟩ (by rw [te]) (kl_ok okt m).1 (st.trans (kl_ok okt m).2)
  | _ => exact q
theorem rd_kb {K : PySem.W.Frag} : ∀ D σ H, rdS K W (xKb m f) D σ H → rdS K W f D σ H := fun D σ H ⟨s, e1, e2, ok, o, hf, q⟩ => by
  obtain ⟨o1, k1, k2⟩ := Option.bind_eq_some_iff.mp hf
  cases k2
  refine ⟨s, e1, e2, ok, o1, k1, ?_⟩
  cases o1 with
  | rt r e => exact q
  | ex r e => exact q
  | _ e => exact fun t te okt st => q ⟨t.B, t.H, t.σ, klM m t.en, klF m t⟩ (by rw [te]) (kl_ok okt m).1 (st.trans (kl_ok okt m).2)
theorem rd_fr {K : PySem.W.Frag} : ∀ D σ H, rdS K W (xFr i f) D σ H → rdS K W f D σ H := fun D σ H ⟨s, e1, e2, ok, o, hf, q⟩ => by
  obtain ⟨t, t1, t2, t3, t4, t5⟩ := fr_ok ok i
  exact ⟨t, t1.trans e1, t2.trans e2, t4, o, by rw [t3]; exact hf, q.from t5⟩
theorem xs_kl (m : List Bool) (h : PS X st (rdS X.K W f)) : PS X st (rdS X.K W (xKl m f)) := PSi h rd_kl
theorem xss_kb (m : List Bool) (h : PSs X sts (rdS X.K W f)) : PSs X sts (rdS X.K W (xKb m f)) := PSsi h rd_kb
theorem xs_fr (i : Nat) (h : PS X st (rdS X.K W f)) : PS X st (rdS X.K W (xFr i f)) := PSi h rd_fr
end
section
variable (x : Sl) (o : O2) (d : D) (e : En) (m : List Bool) (i : Nat) (f : En → Option Out)
theorem xFr_e : xFr i f e = f (frE i e) := rfl
theorem killO_nx : killO m (.nx e) = .nx (klM m e) := rfl
theorem killO_rt (r : Sl) : killO m (.rt r e) = .rt r e := rfl
theorem killO_bk : killO m (.bk e) = .bk e := rfl
theorem killO_ct : killO m (.ct e) = .ct e := rfl
theorem killB_nx : killB m (.nx e) = .nx (klM m e) := rfl
theorem killB_rt (r : Sl) : killB m (.rt r e) = .rt r e := rfl
theorem killB_bk : killB m (.bk e) = .bk (klM m e) := rfl
theorem killB_ct : killB m (.ct e) = .ct (klM m e) := rfl
theorem klM_n : klM [] e = e := rfl
theorem klM_t : klM (true :: m) (x :: e) = x.kill :: klM m e := rfl
theorem klM_f : klM (false :: m) (x :: e) = x :: klM m e := rfl
theorem kill_pw : Sl.kill (.pw o) = .pw o := rfl
theorem kill_ow : Sl.kill (.ow o) = .no := rfl
theorem kill_va : Sl.kill (.va d) = .no := rfl
theorem kill_no : Sl.kill .no = .no := rfl
theorem frE_z : frE 0 (x :: e) = x.frz :: e := rfl
theorem frE_s : frE (i + 1) (x :: e) = x :: frE i e := rfl
theorem frz_pw : Sl.frz (.pw o) = .pw o := rfl
theorem frz_ow : Sl.frz (.ow o) = .va o.fz := rfl
theorem frz_va : Sl.frz (.va d) = .va d := rfl
theorem frz_no : Sl.frz .no = .no := rfl
end
inductive Rs where
  | ok (x : Sl) | er (r : Er)
abbrev FnX := En → Option (Rs × En)
def okX (F : FnX) : FnT := fun as => match F as with
  | some (.ok x, e) => some (x, e)
  | _ => none
def fnX (n : Nat) (b : En → Option Out) : FnX := fun as => (b (as ++ List.replicate n .no)).bind fun o => match o with
  | .rt r e => some (.ok r, pinned as e)
  | .nx e => some (.ok (.va .non), pinned as e)
  | .ex r e => some (.er r, pinned as e)
  | _ => none
def RsO (K : PySem.W.Frag) (E : XK) (σ : L2.St) (en' : En) (s : Sta) (Q : VK) : Rs → Prop
  | .ok x => ∀ v t fr, t.σ = σ → t.en = en' → EnOk K t → Stp s t → SlOk K t.B t.H (some v) x fr → Side s t fr → Q v t.H
  | .er er => ∀ cls d t, t.σ = σ → t.en = en' → EnOk K t → Stp s t → RepEr K t.B er cls d → E cls d t.H
def spX (K : PySem.W.Frag) (n : Nat) (F : FnX) : Sp := fun vs H Q E => vs.length = n ∧ ∃ s : Sta, s.σ = vs.map some ∧ s.H = H ∧ EnOk K s ∧ s.en.all isArg = true ∧ ∃ r en', F s.en = some (r, en') ∧ RsO K E (vs.map some) en' s Q r
def wE (E : XK) : WX := fun cls d _ H => E cls d H
def rdX (K : PySem.W.Frag) (W : WX) (f : En → Option (Rs × En)) : TE := fun σ H Q => ∃ s : Sta, s.σ = σ ∧ s.H = H ∧ EnOk K s ∧ ∃ r en', f s.en = some (r, en') ∧ RsO K (fun cls d H' => W cls d σ H') σ en' s Q r
theorem okX_of {F : FnX} {as en' : En} {x : Sl} (h : F as = some (.ok x, en')) : okX F as = some (x, en') := by unfold okX; rw [h]
theorem spX_ok {K : PySem.W.Frag} {n : Nat} {F : FnX} {vs : List V} {H : Hp} {Q : VK} {E E' : XK} (h : spM K n (okX F) vs H Q E') : spX K n F vs H Q E := by
  obtain ⟨h1, s, h2, h3, h4, h5, r, en', h6, h7⟩ := h
  refine ⟨h1, s, h2, h3, h4, h5, .ok r, en', ?_, h7⟩
  unfold okX at h6
  cases e : F s.en with
  | none => rw [e] at h6; cases h6
  | some p =>
    obtain ⟨a, b⟩ := p
    rw [e] at h6
    cases a with
    | ok x => cases h6; rfl
    | er x => cases h6
theorem RsO.imp {K : PySem.W.Frag} {E : XK} {σ : L2.St} {en' : En} {s : Sta} {Q Q' : VK} {r : Rs} (h : RsO K E σ en' s Q r) (i : ∀ v H, Q v H → Q' v H) : RsO K E σ en' s Q' r := by
  cases r with
  | ok x => exact fun v t fr a b c d e f => i _ _ (h v t fr a b c d e f)
  | er x => exact h
theorem RsO.from {K : PySem.W.Frag} {E : XK} {σ : L2.St} {en' : En} {s t : Sta} {Q : VK} {r : Rs} (h : RsO K E σ en' s Q r) (st : Stp s t) : RsO K E σ en' t Q r := by
  cases r with
  | ok x => exact fun v u fr a b c d e f => h v u fr a b c (st.trans d) e (st.sideL f)
  | er x => exact fun cls d u a b c e f => h cls d u a b c (st.trans e) f
section
variable {P : Program} {w : World} {K : PySem.W.Frag} {mg : Str → Option Value} {base : Heap} {x qual : Str} {st : Stmt} {f : Addr} {fd : FuncData} {N ps : List Str} {k n : Nat} {b : En → Option Out}
theorem xdefX {dvs : List V} {kws : List (Str × V)} (F : FunD K x qual (defArgs st) (defBody st) (defScope st) dvs kws f fd) (S : FnScope N ps (defScope st)) (hN : N.length = ps.length + n)
    (hb : ∀ (cdv : Value) (A : Around) (outer : List Env) (s : Shared) (H : Hp) (E : XK), Room k (A.deeper (envOfC qual (defScope st) s.heap.objs.size f cdv)) → Takes (cxOf (L2.CX P w) P w K mg base N qual (defScope st) f cdv A outer s H E) (wE E) →
      PSs (cxOf (L2.CX P w) P w K mg base N qual (defScope st) f cdv A outer s H E) (defBody st) (rdS K (wE E) b)) :
    FnOk P w K mg base (L2.CX P w) (k + 1) f fd ps (spX K ps.length (fnX n b)) := by
  refine F.ok S (fun vs H Q E h => h.1) (fun cdv A outer s H vs Q E hr h => ⟨_, hb cdv A outer s H E hr (takes_of rfl rfl rfl rfl), ?_⟩)
  obtain ⟨hl, s, hσ, hH, ok, ha, r, en', hF, q⟩ := h
  obtain ⟨o, h1, h2⟩ := Option.bind_eq_some_iff.mp hF
  have hs : s.en.length = vs.length := by rw [ok.len, hσ, List.length_map]
  refine ⟨⟨s.B, s.H, s.σ ++ List.replicate n none, s.en ++ List.replicate n .no, s.fp⟩, ?_, hH, body_start ok n, o, h1, ?_⟩
  · show s.σ ++ List.replicate n none = L2.start N vs
    unfold L2.start
    rw [hσ, hN, hl, show ps.length + n - ps.length = n by omega]
  cases o with
  | bk e => cases h2
  | ct e => cases h2
  | ex er e =>
    cases h2
    intro cls d u ue oku stu re
    obtain ⟨t, t1, t2, t3, t4, t5, t6, t7⟩ := body_end ok ha hσ oku stu
    show E cls d u.H
    rw [← t6]
    exact q cls d t t1 (by rw [t2, ue]) t3 t4 (by rw [t5]; exact re)
  | nx e =>
    cases h2
    intro u ue oku stu
    obtain ⟨t, t1, t2, t3, t4, t5, t6, _⟩ := body_end ok ha hσ oku stu
    rw [← t6]
    exact q .non t [] t1 (by rw [t2, ue]) t3 t4 ⟨rfl, _, rfl, rfl⟩ .nil
  | rt r e =>
    cases h2
    intro v u fr ue oku stu sl sd
    obtain ⟨t, t1, t2, t3, t4, t5, t6, t7⟩ := body_end ok ha hσ oku stu
    rw [← t6]
    exact q v t fr t1 (by rw [t2, ue]) t3 t4 (by rw [t5, t6]; exact sl) ⟨fun a ha' z => sd.no a ha' (t7 a z), by rw [t5]; exact sd.b, sd.new⟩
end
section
variable {K : PySem.W.Frag}
theorem call0X {F : FnX} {n : Nat} {s t : Sta} {vs : List V} {ds : List D} {r : Rs} {en2 : En} {Q : VK} {E : XK} (okt : EnOk K t) (st : Stp s t) (rp : RepL K t.B ds vs) (hl : ds.length = n) (hF : F (ds.map .va) = some (r, en2))
    (q : RsO K E t.σ t.en s Q r) : spX K n F vs t.H Q E := by
  cases r with
  | ok x => exact spX_ok (E' := E) (call0 okt st rp hl (okX_of hF) fun v u fr uσ ue oku stu sl sd => q v u fr uσ ue oku stu sl sd)
  | er er =>
    refine ⟨by rw [rp.len, hl], argS t vs ds, rfl, rfl, argS_ok okt rp, va_arg ds, .er er, en2, hF, fun cls d u uσ ue oku stu re => ?_⟩
    obtain ⟨k1, k2⟩ := back0 okt oku stu
    exact q cls d ⟨u.B, u.H, t.σ, t.en, t.fp⟩ rfl rfl k1 (st.trans k2) re
end
def xCallX (n : Nat) (F : FnX) (fa : En → Option (List D × En)) : En → Option (Rs × En) := fun e => (fa e).bind fun p => if p.1.length = n then (F (p.1.map .va)).bind fun r => some (r.1, p.2) else none
def xMtX (c m : Str) (n : Nat) (F : FnX) (f : En → Option (D × En)) (fa : En → Option (List D × En)) : En → Option (Rs × En) := fun e => (f e).bind fun p => match p.1 with
  | .obj c' ns ds => if c' = c ∧ m ∉ ns then (fa p.2).bind fun q => if q.1.length + 1 = n then (F (.va (.obj c' ns ds) :: q.1.map .va)).bind fun r => some (r.1, q.2) else none else none
  | _ => none
section
variable {X : Cx} {e : Expr} {n i : Nat} {F : FnX} {f g : En → Option (D × En)} {fa : En → Option (List D × En)} {E : XK} {C : Addr} {m c : Str}
theorem xX_fn (h : PE X e (tCall (spX X.K n F) [] E (rdA X.K fa))) : PE X e (rdX X.K (wE E) (xCallX n F fa)) := PEi h fun σ H Q ⟨s, e1, e2, ok, r, en', hf, q⟩ => by
  obtain ⟨⟨ds, en1⟩, k1, k2⟩ := Option.bind_eq_some_iff.mp hf
  replace k2 : (if ds.length = n then (F (ds.map .va)).bind fun r => some (r.1, en1) else none) = some (r, en') := k2
  split at k2
  · rename_i hl
    obtain ⟨⟨r1, en2⟩, k3, k4⟩ := Option.bind_eq_some_iff.mp k2
    cases k4
    refine ⟨s, e1, e2, ok, ds, _, k1, fun vs t tσ te okt st rp => ?_⟩
    show spX X.K n F (vs ++ []) t.H Q E
    rw [List.append_nil]
    exact call0X okt st rp hl k3 (by rw [tσ, te]; exact q)
  · cases k2
theorem xX_sm (h : PE X e (tSm (He.ga X.K c) (spX X.K n F) E (tC (.ref (He.ga X.K c))) (rdA X.K fa))) : PE X e (rdX X.K (wE E) (xCallX n F fa)) := xX_fn (PEi h fun σ H Q hh => ⟨rfl, by
  obtain ⟨s, e1, e2, ok, ds, en', hf, q⟩ := hh
  exact ⟨s, e1, e2, ok, ds, en', hf, fun vs t tσ te okt st rp => by
    have z : spX X.K n F (vs ++ []) t.H Q E := q vs t tσ te okt st rp
    rw [List.append_nil] at z
    exact z⟩⟩)
end
section
variable {X : Cx} {e : Expr} {W : WX} {pos : Pos} {st : Stmt} {f : En → Option (Rs × En)}
end
end Ag
namespace PySem
namespace Er_index
open PySem.W PySem.Calls PyProof.Rows PySem.HandSPX PySem.ErX
def iA (p1 p2 : Pos) : Arguments := { posonlyargs := [], args := [{ arg := "self", annotation := none, pos := p1 }, { arg := "index", annotation := none, pos := p2 }], vararg := none, kwonlyargs := [], kw_defaults := [], kwarg := none, defaults := [] }
def iB (t : String) (a b c d e f g i j k : Pos) : List Stmt := [.Expr (.Call (.Attribute (.Call (.Name "super" a) [] [] b) "__init__" c) [.Constant (.str t) 0 d] [] e) f, .Assign [.Attribute (.Name "self" g) "index" i] (.Name "index" j) k]
def iS : Scope := { kind := .function, names := [(PySem.Str.ofString "self", .local), (PySem.Str.ofString "index", .local), (PySem.Str.ofString "__class__", .free), (PySem.Str.ofString "super", .globalImplicit)], isGenerator := false, isCoroutine := false, more := [] }
structure Txt (P : Program) (K : Frag) (mg : Str → Option Value) (NM : Str) (C fI : Addr) : Prop where
  gC : mg NM = some (.ref C)
  cls : ∃ nm q N bs bm sn sub ab col dd k0 k1 k2 k3 k5, K.lookup C = some (excClassObj nm q C N bs bm true sn sub ab col dd k0 k1 k2 k3 k5 "ValueError.__new__") ∧ refsVE bm = true
  sa : findIn K (.ref C) "__setattr__" = some (some (.builtin "object.__setattr__"))
  ga : findIn K (.ref C) "__getattribute__" = some (some (.builtin "BaseException.__getattribute__"))
  gg : findIn K (.ref C) "__getattr__" = some none
  noN : findIn K (.ref C) "index" = some none
  iC : findIn K (.ref C) "__init__" = some (some (.ref fI))
  tC : typeIn K (.ref fI) = some (.type "function")
  kC : keepIn K (.ref C) = true
  exC : subIn K (.ref C) (.type "BaseException") = some true
  tyC : typeIn K (.ref C) = some (.type "type")
  hdC : hasDictIn K C = true
  te : exmOne K (.ref C) (.ref C) = some true
  sup : ks_superIn K C C "__init__" = some (some (.builtin "ValueError.__init__"))
  subV : subIn K (.ref C) (.type "ValueError") = some true
  subC : mroIn K C (.ref C) = some true
  op : nsIn K cStatics "thirdparty.any" = some none
  gs : mg "super" = none
  top : (P.main.scope.names.lookup ("super" : Str)).isSome = false
  fn : ∃ (QN : Str) (oc : Value) (od : Option Addr) (doc pm : Value) (an : Option Addr) (cda : Addr) (ct : Value) (osl : Array (Option Value)) (cc : Addr) (t : String) (p1 p2 a b c d e f g i j k : Pos)
    (ccl : Value) (cdd : Option Addr) (vs : Array Value) (ccs : Array (Option Value)) (file : Str) (tf : Tok) (cl : Value) (cld : Option Addr) (csl : Array (Option Value)),
    K.lookup fI = some ⟨oc, od, .func (ksFn "__init__" QN (iA p1 p2) (iB t a b c d e f g i j k) iS .none .none doc pm an (.ref cda) ct cc), osl⟩ ∧ codeIn K (.ref cda) QN = true ∧
    K.lookup cda = some ⟨ccl, cdd, .fields vs, ccs⟩ ∧ vs[2]? = some (.str file tf) ∧ ((P.main.file : Str) == file) = true ∧ K.lookup cc = some ⟨cl, cld, .cell (some (.ref C)), csl⟩ ∧ (c.endLine == e.line) = true
section
variable {prog : Program} {w : World} {A : Around} {E : Value → Shared → Prop} {R : Result → Shared → Prop} {s : Shared} {K : Frag} {mg mb : Str → Option Value} {NM : Str} {C fI : Addr}
theorem init (T : Txt prog K mg NM C fI) {x t0 : Addr} {v : Value} (X : K.In s.heap) (hlim : s.heap.NoLimit) (hG : s.heap.Ns mainGlobals mg) (hB : s.heap.Ns builtinsNs mb) (hb : ∀ x : Str, x ≠ "__name__" → mb x = bootBuiltins x)
    (hx : s.heap.get? x = some (excO C t0)) (hnx : K.lookup x = none) (hroom : A.depth < recursionLimit)
    (hq : ∀ h' tk dx t1, InitEnd s.heap h' x C dx t1 (fun y => if y = "index" then some v else none) → R (.ok (.ret .none)) { s with heap := h', toks := tk }) :
    codeAny (model prog w) A (.call (.ref fI) ⟨[.ref x, v], []⟩) R s := by
  obtain ⟨QN, oc, od, doc, pm, an, cda, ct, osl, cc, t, p1, p2, a, b, c, d, e, f, g, i, j, k, ccl, cdd, vs, ccs, file, tf, cl, cld, csl, ho, hcd, hco, hvs, hfile, hcell, hl⟩ := T.fn
  obtain ⟨nm, q, N, bs, bm, sn, sub, ab, col, dd, k0, k1, k2, k3, k5, hC, hbm⟩ := T.cls
  have hcl : clsIn K C = some { name := nm, bases := bs, mro := .ref C :: bm, ns := N, qualname := q, hasDict := true, slotNames := sn, subclasses := sub, abstract := ab, collection := col, hasDel := false } := by unfold clsIn; rw [hC] <;> rfl
  have hxL : s.heap.objs.size ≠ x := Nat.ne_of_gt (Heap.lt_size hx)
  refine ks_codeAny_call_defAt (fd := ksFn "__init__" QN (iA p1 p2) (iB t a b c d e f g i j k) iS .none .none doc pm an (.ref cda) ct cc) (body := iB t a b c d e f g i j k) (binds := [("self", .ref x), ("index", v)])
    hroom (X _ _ ho) rfl hlim (codeRec_of X hcd) rfl (BindsTo.of_eq (by first | rfl | with_unfolding_all rfl)) (show ∀ x ∈ iS.names, x.2 ≠ .cell from by decide) (locs rfl) (fun h₁ hn k₁ => ?_) rfl rfl rfl
  have X₁ : K.In h₁ := X.keeps k₁
  have hx₁ := k₁ _ _ hx
  have I₁ : InstAt h₁ x (excO C t0) C none := ⟨hx₁, rfl, rfl, trivial⟩
  obtain ⟨hs, gs, ds, ts, oss⟩ := s
  dsimp only at *
  obtain ⟨oD, hD1, hD2⟩ : ∃ oD, h₁.get? C = some oD ∧ oD.data = .cls { name := nm, bases := bs, mro := .ref C :: bm, ns := N, qualname := q, hasDict := true, slotNames := sn, subclasses := sub, abstract := ab, collection := col, hasDel := false } := ⟨_, X₁ _ _ hC, rfl⟩
  show _root_.PySem.wpAt (model prog w) _ (.func (iB t a b c d e f g i j k) (ksEnv QN iS hs.objs.size fI (.ref cda) cc)) (execs (iB t a b c d e f g i j k) (ksEnv QN iS hs.objs.size fI (.ref cda) cc)) _ _ _
  refine ks_wpAt_execs_cons (ks_wpAt_Expr_any (ks_wpAt_MethodCall (ks_wpAt_super_base (env := ksEnv QN iS hs.objs.size fI (.ref cda) cc) rfl rfl (by decide) rfl (X₁ _ _ ho) rfl rfl rfl (X₁ _ _ hco) rfl hvs hfile T.top ?_) (ev_sup _ _ _ _ _ _ _ hl)))
  refine ks_loadName_global rfl rfl (loadGlobal_builtin (env := ksEnv QN iS hs.objs.size fI (.ref cda) cc) (hG.keeps k₁) T.gs (hB.keeps k₁) ((hb _ (by decide +kernel)).trans PyProof.Rows.Boot.super) ⟨rfl, ?_⟩)
  refine wpAny_loadName_free rfl rfl rfl ⟨_, X₁ _ _ hcell, rfl⟩ ?_
  refine wpAny_loadName_local (v := .ref x) rfl rfl hn rfl ?_
  refine ks_wpAny_isType_cls hD1 hD2 ⟨rfl, ?_⟩
  refine ks_wpAny_call_super hD1 hD2 I₁.at_ I₁.cls (fun c e => ?_) (looks_mroIn X₁ T.subC) (fun h₂ e₂ k₂ => ?_)
  · cases e
  have X₂ : K.In h₂ := X₁.keeps k₂
  have hx₂ := k₂ _ _ hx₁
  have I₂ : InstAt h₂ x (excO C t0) C none := ⟨hx₂, rfl, rfl, trivial⟩
  have hm := T.sup
  unfold ks_superIn at hm
  rw [hcl] at hm
  refine kxs_getMethod kxs_ValueError e₂ (looks_opaque X₂ T.op) (l₀ := .ref C :: bm) (fun A Q E s k q => wpAny_bind ((looks_clsIn X₂ hcl) A _ E s k (wpAny_pure q))) rfl X₂ hm (I₂.type.andThen (looks_subIn X₂ T.subV)) (ks_ne X₂ I₂ hcl) (by decide) ?_
  have hu : (h₂.push (kxs_mw "ValueError.__init__" x)).get? h₂.objs.size = some (kxs_mw "ValueError.__init__" x) := Heap.get?_push_at rfl rfl
  have k₃ : ∀ b o, h₂.get? b = some o → (h₂.push (kxs_mw "ValueError.__init__" x)).get? b = some o := fun b o z => Heap.get?_push_of_some _ z
  refine callWith_mw (i := "ValueError.__init__") (x := x) ?_
  refine Calls.spliced_cons ?_
  refine Calls.Constant_str (k := 0) (pos := d) ?_
  refine Calls.spliced_nil ?_
  refine ⟨hu, ?_⟩
  refine call_mw (k₃ _ _ (X₂ _ _ hC)) (k₃ _ _ hx₂) hu (by rw [sizeLine_eq]; exact (by decide : 1 ≤ 16777216)) fun h₄ t1 k₄ hx₄ => ?_
  have K4 : ∀ b o, b ≠ x → h₁.get? b = some o → h₄.get? b = some o := fun b o hb z => k₄ b o hb (k₃ b o (k₂ b o z))
  have X₄ : K.In h₄ := ErX.kept X₁ hnx K4
  show _root_.PySem.wpAt _ _ _ (execs _ _) _ _ _
  refine wpAt_of_wpAny (wpAny_execs_cons (plainObj_wpAny_Assign_Attribute ?_))
  have hn₄ : h₄.Ns hs.objs.size (fun y => List.lookup y (List.reverse [(("self" : Str), Value.ref x), ("index", v)])) := hn.at fun o z => K4 _ o hxL z
  refine wpAny_Name (wpAny_loadName_local (v := v) rfl rfl hn₄ rfl ?_) (by decide)
  refine wpAny_Name (wpAny_loadName_local (v := .ref x) rfl rfl hn₄ rfl ?_) (by decide)
  refine set_plain X₄ (ox := excO C t1) (od := none) ⟨hx₄, rfl, rfl, trivial⟩ T.sa ?_
  refine exc_osa X₄ hx₄ hcl (show refsVE (.ref C :: bm) = true from hbm) rfl T.noN (fun h₅ tk dx k₅ dn dne hx₅ hn₅ => ?_)
  have z : hs.objs.size < h₄.objs.size := hn₄.lt
  exact wpAny_execs_nil (hq h₅ tk dx t1 ⟨fun b o hb e => k₅ b o hb (K4 b o hb (k₁ b o e)), hx₅, Nat.le_of_lt (Nat.lt_of_lt_of_le z dn), dne, hn₅⟩)
theorem made (T : Txt prog K mg NM C fI) : Mk1 prog w K mg C "index" := by
  intro A R s mb v X hlim hG hB hb hroom hq
  obtain ⟨nm, q, N, bs, bm, sn, sub, ab, col, dd, k0, k1, k2, k3, k5, hC, hbm⟩ := T.cls
  obtain ⟨hp, g, dr, tk, os⟩ := s
  have k : ∀ b o, hp.get? b = some o → ((hp.push (kdv_tup [v])).push (excO C hp.objs.size)).get? b = some o := fun b o e => Heap.get?_push_of_some _ (Heap.get?_push_of_some _ e)
  have hget : ((hp.push (kdv_tup [v])).push (excO C hp.objs.size)).get? (hp.objs.size + 1) = some (excO C hp.objs.size) := by heap_get
  have hnx : K.lookup (hp.objs.size + 1) = none := ErX.no_lookup X (Nat.le_succ _)
  refine call_own F.excBase_ValueError (fun X => refsVE_contains X bm hbm) (X _ _ hC) (looks_findIn X T.iC) (fun self => bind_fn X self T.tC) (one_ok v) ?_
  refine init (s := ⟨(hp.push (kdv_tup [v])).push (excO C hp.objs.size), g, dr, tk, os⟩) T (X.keeps k) (hlim.keeps k) (hG.keeps k) (hB.keeps k) hb hget hnx hroom fun h' tk' dx t1 ⟨k', hx, dn, dne, hns⟩ => ?_
  have old : ∀ b o, hp.get? b = some o → h'.get? b = some o := fun b o e => k' b o (Nat.ne_of_lt (Nat.lt_succ_of_lt (Heap.lt_size e))) (k b o e)
  have z : hp.objs.size + 1 + 1 ≤ dx := by
    have q := dn
    simp only [Heap.size_push] at q
    exact q
  exact ⟨rfl, hq h' tk' (hp.objs.size + 1) dx ⟨old, Nat.le_succ _, ⟨_, _, hx, rfl, rfl, rfl, rfl⟩, Nat.le_trans (Nat.le_trans (Nat.le_succ _) (Nat.le_succ _)) z, dne, hns⟩⟩
theorem err (T : Txt prog K mg NM C fI) : Err prog w K mg NM C "index" := ⟨T.gC, T.kC, T.exC, T.tyC, T.te, T.ga, T.gg, T.noN, T.hdC, made T⟩
end
end Er_index
end PySem
namespace PySem
namespace Er_part
open PySem.W PySem.Calls PyProof.Rows PySem.HandSPX PySem.ErX
def iA (p1 p2 : Pos) : Arguments := { posonlyargs := [], args := [{ arg := "self", annotation := none, pos := p1 }, { arg := "part", annotation := none, pos := p2 }], vararg := none, kwonlyargs := [], kw_defaults := [], kwarg := none, defaults := [] }
def iB (t : String) (a b c d e f g i j k : Pos) : List Stmt := [.Expr (.Call (.Attribute (.Call (.Name "super" a) [] [] b) "__init__" c) [.Constant (.str t) 0 d] [] e) f, .Assign [.Attribute (.Name "self" g) "part" i] (.Name "part" j) k]
def iS : Scope := { kind := .function, names := [(PySem.Str.ofString "self", .local), (PySem.Str.ofString "part", .local), (PySem.Str.ofString "__class__", .free), (PySem.Str.ofString "super", .globalImplicit)], isGenerator := false, isCoroutine := false, more := [] }
structure Txt (P : Program) (K : Frag) (mg : Str → Option Value) (NM : Str) (C fI : Addr) : Prop where
  gC : mg NM = some (.ref C)
  cls : ∃ nm q N bs bm sn sub ab col dd k0 k1 k2 k3 k5, K.lookup C = some (excClassObj nm q C N bs bm true sn sub ab col dd k0 k1 k2 k3 k5 "ValueError.__new__") ∧ refsVE bm = true
  sa : findIn K (.ref C) "__setattr__" = some (some (.builtin "object.__setattr__"))
  ga : findIn K (.ref C) "__getattribute__" = some (some (.builtin "BaseException.__getattribute__"))
  gg : findIn K (.ref C) "__getattr__" = some none
  noN : findIn K (.ref C) "part" = some none
  iC : findIn K (.ref C) "__init__" = some (some (.ref fI))
  tC : typeIn K (.ref fI) = some (.type "function")
  kC : keepIn K (.ref C) = true
  exC : subIn K (.ref C) (.type "BaseException") = some true
  tyC : typeIn K (.ref C) = some (.type "type")
  hdC : hasDictIn K C = true
  te : exmOne K (.ref C) (.ref C) = some true
  sup : ks_superIn K C C "__init__" = some (some (.builtin "ValueError.__init__"))
  subV : subIn K (.ref C) (.type "ValueError") = some true
  subC : mroIn K C (.ref C) = some true
  op : nsIn K cStatics "thirdparty.any" = some none
  gs : mg "super" = none
  top : (P.main.scope.names.lookup ("super" : Str)).isSome = false
  fn : ∃ (QN : Str) (oc : Value) (od : Option Addr) (doc pm : Value) (an : Option Addr) (cda : Addr) (ct : Value) (osl : Array (Option Value)) (cc : Addr) (t : String) (p1 p2 a b c d e f g i j k : Pos)
    (ccl : Value) (cdd : Option Addr) (vs : Array Value) (ccs : Array (Option Value)) (file : Str) (tf : Tok) (cl : Value) (cld : Option Addr) (csl : Array (Option Value)),
    K.lookup fI = some ⟨oc, od, .func (ksFn "__init__" QN (iA p1 p2) (iB t a b c d e f g i j k) iS .none .none doc pm an (.ref cda) ct cc), osl⟩ ∧ codeIn K (.ref cda) QN = true ∧
    K.lookup cda = some ⟨ccl, cdd, .fields vs, ccs⟩ ∧ vs[2]? = some (.str file tf) ∧ ((P.main.file : Str) == file) = true ∧ K.lookup cc = some ⟨cl, cld, .cell (some (.ref C)), csl⟩ ∧ (c.endLine == e.line) = true
section
variable {prog : Program} {w : World} {A : Around} {E : Value → Shared → Prop} {R : Result → Shared → Prop} {s : Shared} {K : Frag} {mg mb : Str → Option Value} {NM : Str} {C fI : Addr}
theorem init (T : Txt prog K mg NM C fI) {x t0 : Addr} {v : Value} (X : K.In s.heap) (hlim : s.heap.NoLimit) (hG : s.heap.Ns mainGlobals mg) (hB : s.heap.Ns builtinsNs mb) (hb : ∀ x : Str, x ≠ "__name__" → mb x = bootBuiltins x)
    (hx : s.heap.get? x = some (excO C t0)) (hnx : K.lookup x = none) (hroom : A.depth < recursionLimit)
    (hq : ∀ h' tk dx t1, InitEnd s.heap h' x C dx t1 (fun y => if y = "part" then some v else none) → R (.ok (.ret .none)) { s with heap := h', toks := tk }) :
    codeAny (model prog w) A (.call (.ref fI) ⟨[.ref x, v], []⟩) R s := by
  obtain ⟨QN, oc, od, doc, pm, an, cda, ct, osl, cc, t, p1, p2, a, b, c, d, e, f, g, i, j, k, ccl, cdd, vs, ccs, file, tf, cl, cld, csl, ho, hcd, hco, hvs, hfile, hcell, hl⟩ := T.fn
  obtain ⟨nm, q, N, bs, bm, sn, sub, ab, col, dd, k0, k1, k2, k3, k5, hC, hbm⟩ := T.cls
  have hcl : clsIn K C = some { name := nm, bases := bs, mro := .ref C :: bm, ns := N, qualname := q, hasDict := true, slotNames := sn, subclasses := sub, abstract := ab, collection := col, hasDel := false } := by unfold clsIn; rw [hC] <;> rfl
  have hxL : s.heap.objs.size ≠ x := Nat.ne_of_gt (Heap.lt_size hx)
  refine ks_codeAny_call_defAt (fd := ksFn "__init__" QN (iA p1 p2) (iB t a b c d e f g i j k) iS .none .none doc pm an (.ref cda) ct cc) (body := iB t a b c d e f g i j k) (binds := [("self", .ref x), ("part", v)])
    hroom (X _ _ ho) rfl hlim (codeRec_of X hcd) rfl (BindsTo.of_eq (by first | rfl | with_unfolding_all rfl)) (show ∀ x ∈ iS.names, x.2 ≠ .cell from by decide) (locs rfl) (fun h₁ hn k₁ => ?_) rfl rfl rfl
  have X₁ : K.In h₁ := X.keeps k₁
  have hx₁ := k₁ _ _ hx
  have I₁ : InstAt h₁ x (excO C t0) C none := ⟨hx₁, rfl, rfl, trivial⟩
  obtain ⟨hs, gs, ds, ts, oss⟩ := s
  dsimp only at *
  obtain ⟨oD, hD1, hD2⟩ : ∃ oD, h₁.get? C = some oD ∧ oD.data = .cls { name := nm, bases := bs, mro := .ref C :: bm, ns := N, qualname := q, hasDict := true, slotNames := sn, subclasses := sub, abstract := ab, collection := col, hasDel := false } := ⟨_, X₁ _ _ hC, rfl⟩
  show _root_.PySem.wpAt (model prog w) _ (.func (iB t a b c d e f g i j k) (ksEnv QN iS hs.objs.size fI (.ref cda) cc)) (execs (iB t a b c d e f g i j k) (ksEnv QN iS hs.objs.size fI (.ref cda) cc)) _ _ _
  refine ks_wpAt_execs_cons (ks_wpAt_Expr_any (ks_wpAt_MethodCall (ks_wpAt_super_base (env := ksEnv QN iS hs.objs.size fI (.ref cda) cc) rfl rfl (by decide) rfl (X₁ _ _ ho) rfl rfl rfl (X₁ _ _ hco) rfl hvs hfile T.top ?_) (ev_sup _ _ _ _ _ _ _ hl)))
  refine ks_loadName_global rfl rfl (loadGlobal_builtin (env := ksEnv QN iS hs.objs.size fI (.ref cda) cc) (hG.keeps k₁) T.gs (hB.keeps k₁) ((hb _ (by decide +kernel)).trans PyProof.Rows.Boot.super) ⟨rfl, ?_⟩)
  refine wpAny_loadName_free rfl rfl rfl ⟨_, X₁ _ _ hcell, rfl⟩ ?_
  refine wpAny_loadName_local (v := .ref x) rfl rfl hn rfl ?_
  refine ks_wpAny_isType_cls hD1 hD2 ⟨rfl, ?_⟩
  refine ks_wpAny_call_super hD1 hD2 I₁.at_ I₁.cls (fun c e => ?_) (looks_mroIn X₁ T.subC) (fun h₂ e₂ k₂ => ?_)
  · cases e
  have X₂ : K.In h₂ := X₁.keeps k₂
  have hx₂ := k₂ _ _ hx₁
  have I₂ : InstAt h₂ x (excO C t0) C none := ⟨hx₂, rfl, rfl, trivial⟩
  have hm := T.sup
  unfold ks_superIn at hm
  rw [hcl] at hm
  refine kxs_getMethod kxs_ValueError e₂ (looks_opaque X₂ T.op) (l₀ := .ref C :: bm) (fun A Q E s k q => wpAny_bind ((looks_clsIn X₂ hcl) A _ E s k (wpAny_pure q))) rfl X₂ hm (I₂.type.andThen (looks_subIn X₂ T.subV)) (ks_ne X₂ I₂ hcl) (by decide) ?_
  have hu : (h₂.push (kxs_mw "ValueError.__init__" x)).get? h₂.objs.size = some (kxs_mw "ValueError.__init__" x) := Heap.get?_push_at rfl rfl
  have k₃ : ∀ b o, h₂.get? b = some o → (h₂.push (kxs_mw "ValueError.__init__" x)).get? b = some o := fun b o z => Heap.get?_push_of_some _ z
  refine callWith_mw (i := "ValueError.__init__") (x := x) ?_
  refine Calls.spliced_cons ?_
  refine Calls.Constant_str (k := 0) (pos := d) ?_
  refine Calls.spliced_nil ?_
  refine ⟨hu, ?_⟩
  refine call_mw (k₃ _ _ (X₂ _ _ hC)) (k₃ _ _ hx₂) hu (by rw [sizeLine_eq]; exact (by decide : 1 ≤ 16777216)) fun h₄ t1 k₄ hx₄ => ?_
  have K4 : ∀ b o, b ≠ x → h₁.get? b = some o → h₄.get? b = some o := fun b o hb z => k₄ b o hb (k₃ b o (k₂ b o z))
  have X₄ : K.In h₄ := ErX.kept X₁ hnx K4
  show _root_.PySem.wpAt _ _ _ (execs _ _) _ _ _
  refine wpAt_of_wpAny (wpAny_execs_cons (plainObj_wpAny_Assign_Attribute ?_))
  have hn₄ : h₄.Ns hs.objs.size (fun y => List.lookup y (List.reverse [(("self" : Str), Value.ref x), ("part", v)])) := hn.at fun o z => K4 _ o hxL z
  refine wpAny_Name (wpAny_loadName_local (v := v) rfl rfl hn₄ rfl ?_) (by decide)
  refine wpAny_Name (wpAny_loadName_local (v := .ref x) rfl rfl hn₄ rfl ?_) (by decide)
  refine set_plain X₄ (ox := excO C t1) (od := none) ⟨hx₄, rfl, rfl, trivial⟩ T.sa ?_
  refine exc_osa X₄ hx₄ hcl (show refsVE (.ref C :: bm) = true from hbm) rfl T.noN (fun h₅ tk dx k₅ dn dne hx₅ hn₅ => ?_)
  have z : hs.objs.size < h₄.objs.size := hn₄.lt
  exact wpAny_execs_nil (hq h₅ tk dx t1 ⟨fun b o hb e => k₅ b o hb (K4 b o hb (k₁ b o e)), hx₅, Nat.le_of_lt (Nat.lt_of_lt_of_le z dn), dne, hn₅⟩)
theorem made (T : Txt prog K mg NM C fI) : Mk1 prog w K mg C "part" := by
  intro A R s mb v X hlim hG hB hb hroom hq
  obtain ⟨nm, q, N, bs, bm, sn, sub, ab, col, dd, k0, k1, k2, k3, k5, hC, hbm⟩ := T.cls
  obtain ⟨hp, g, dr, tk, os⟩ := s
  have k : ∀ b o, hp.get? b = some o → ((hp.push (kdv_tup [v])).push (excO C hp.objs.size)).get? b = some o := fun b o e => Heap.get?_push_of_some _ (Heap.get?_push_of_some _ e)
  have hget : ((hp.push (kdv_tup [v])).push (excO C hp.objs.size)).get? (hp.objs.size + 1) = some (excO C hp.objs.size) := by heap_get
  have hnx : K.lookup (hp.objs.size + 1) = none := ErX.no_lookup X (Nat.le_succ _)
  refine call_own F.excBase_ValueError (fun X => refsVE_contains X bm hbm) (X _ _ hC) (looks_findIn X T.iC) (fun self => bind_fn X self T.tC) (one_ok v) ?_
  refine init (s := ⟨(hp.push (kdv_tup [v])).push (excO C hp.objs.size), g, dr, tk, os⟩) T (X.keeps k) (hlim.keeps k) (hG.keeps k) (hB.keeps k) hb hget hnx hroom fun h' tk' dx t1 ⟨k', hx, dn, dne, hns⟩ => ?_
  have old : ∀ b o, hp.get? b = some o → h'.get? b = some o := fun b o e => k' b o (Nat.ne_of_lt (Nat.lt_succ_of_lt (Heap.lt_size e))) (k b o e)
  have z : hp.objs.size + 1 + 1 ≤ dx := by
    have q := dn
    simp only [Heap.size_push] at q
    exact q
  exact ⟨rfl, hq h' tk' (hp.objs.size + 1) dx ⟨old, Nat.le_succ _, ⟨_, _, hx, rfl, rfl, rfl, rfl⟩, Nat.le_trans (Nat.le_trans (Nat.le_succ _) (Nat.le_succ _)) z, dne, hns⟩⟩
theorem err (T : Txt prog K mg NM C fI) : Err prog w K mg NM C "part" := ⟨T.gC, T.kC, T.exC, T.tyC, T.te, T.ga, T.gg, T.noN, T.hdC, made T⟩
end
end Er_part
end PySem
namespace PySem
namespace Er_limit
open PySem.W PySem.Calls PyProof.Rows PySem.HandSPX PySem.ErX
def iA (p1 p2 : Pos) : Arguments := { posonlyargs := [], args := [{ arg := "self", annotation := none, pos := p1 }, { arg := "limit", annotation := none, pos := p2 }], vararg := none, kwonlyargs := [], kw_defaults := [], kwarg := none, defaults := [] }
def iB (t : String) (a b c d e f g i j k : Pos) : List Stmt := [.Expr (.Call (.Attribute (.Call (.Name "super" a) [] [] b) "__init__" c) [.Constant (.str t) 0 d] [] e) f, .Assign [.Attribute (.Name "self" g) "limit" i] (.Name "limit" j) k]
def iS : Scope := { kind := .function, names := [(PySem.Str.ofString "self", .local), (PySem.Str.ofString "limit", .local), (PySem.Str.ofString "__class__", .free), (PySem.Str.ofString "super", .globalImplicit)], isGenerator := false, isCoroutine := false, more := [] }
structure Txt (P : Program) (K : Frag) (mg : Str → Option Value) (NM : Str) (C fI : Addr) : Prop where
  gC : mg NM = some (.ref C)
  cls : ∃ nm q N bs bm sn sub ab col dd k0 k1 k2 k3 k5, K.lookup C = some (excClassObj nm q C N bs bm true sn sub ab col dd k0 k1 k2 k3 k5 "ValueError.__new__") ∧ refsVE bm = true
  sa : findIn K (.ref C) "__setattr__" = some (some (.builtin "object.__setattr__"))
  ga : findIn K (.ref C) "__getattribute__" = some (some (.builtin "BaseException.__getattribute__"))
  gg : findIn K (.ref C) "__getattr__" = some none
  noN : findIn K (.ref C) "limit" = some none
  iC : findIn K (.ref C) "__init__" = some (some (.ref fI))
  tC : typeIn K (.ref fI) = some (.type "function")
  kC : keepIn K (.ref C) = true
  exC : subIn K (.ref C) (.type "BaseException") = some true
  tyC : typeIn K (.ref C) = some (.type "type")
  hdC : hasDictIn K C = true
  te : exmOne K (.ref C) (.ref C) = some true
  sup : ks_superIn K C C "__init__" = some (some (.builtin "ValueError.__init__"))
  subV : subIn K (.ref C) (.type "ValueError") = some true
  subC : mroIn K C (.ref C) = some true
  op : nsIn K cStatics "thirdparty.any" = some none
  gs : mg "super" = none
  top : (P.main.scope.names.lookup ("super" : Str)).isSome = false
  fn : ∃ (QN : Str) (oc : Value) (od : Option Addr) (doc pm : Value) (an : Option Addr) (cda : Addr) (ct : Value) (osl : Array (Option Value)) (cc : Addr) (t : String) (p1 p2 a b c d e f g i j k : Pos)
    (ccl : Value) (cdd : Option Addr) (vs : Array Value) (ccs : Array (Option Value)) (file : Str) (tf : Tok) (cl : Value) (cld : Option Addr) (csl : Array (Option Value)),
    K.lookup fI = some ⟨oc, od, .func (ksFn "__init__" QN (iA p1 p2) (iB t a b c d e f g i j k) iS .none .none doc pm an (.ref cda) ct cc), osl⟩ ∧ codeIn K (.ref cda) QN = true ∧
    K.lookup cda = some ⟨ccl, cdd, .fields vs, ccs⟩ ∧ vs[2]? = some (.str file tf) ∧ ((P.main.file : Str) == file) = true ∧ K.lookup cc = some ⟨cl, cld, .cell (some (.ref C)), csl⟩ ∧ (c.endLine == e.line) = true
section
variable {prog : Program} {w : World} {A : Around} {E : Value → Shared → Prop} {R : Result → Shared → Prop} {s : Shared} {K : Frag} {mg mb : Str → Option Value} {NM : Str} {C fI : Addr}
theorem init (T : Txt prog K mg NM C fI) {x t0 : Addr} {v : Value} (X : K.In s.heap) (hlim : s.heap.NoLimit) (hG : s.heap.Ns mainGlobals mg) (hB : s.heap.Ns builtinsNs mb) (hb : ∀ x : Str, x ≠ "__name__" → mb x = bootBuiltins x)
    (hx : s.heap.get? x = some (excO C t0)) (hnx : K.lookup x = none) (hroom : A.depth < recursionLimit)
    (hq : ∀ h' tk dx t1, InitEnd s.heap h' x C dx t1 (fun y => if y = "limit" then some v else none) → R (.ok (.ret .none)) { s with heap := h', toks := tk }) :
    codeAny (model prog w) A (.call (.ref fI) ⟨[.ref x, v], []⟩) R s := by
  obtain ⟨QN, oc, od, doc, pm, an, cda, ct, osl, cc, t, p1, p2, a, b, c, d, e, f, g, i, j, k, ccl, cdd, vs, ccs, file, tf, cl, cld, csl, ho, hcd, hco, hvs, hfile, hcell, hl⟩ := T.fn
  obtain ⟨nm, q, N, bs, bm, sn, sub, ab, col, dd, k0, k1, k2, k3, k5, hC, hbm⟩ := T.cls
  have hcl : clsIn K C = some { name := nm, bases := bs, mro := .ref C :: bm, ns := N, qualname := q, hasDict := true, slotNames := sn, subclasses := sub, abstract := ab, collection := col, hasDel := false } := by unfold clsIn; rw [hC] <;> rfl
  have hxL : s.heap.objs.size ≠ x := Nat.ne_of_gt (Heap.lt_size hx)
  refine ks_codeAny_call_defAt (fd := ksFn "__init__" QN (iA p1 p2) (iB t a b c d e f g i j k) iS .none .none doc pm an (.ref cda) ct cc) (body := iB t a b c d e f g i j k) (binds := [("self", .ref x), ("limit", v)])
    hroom (X _ _ ho) rfl hlim (codeRec_of X hcd) rfl (BindsTo.of_eq (by first | rfl | with_unfolding_all rfl)) (show ∀ x ∈ iS.names, x.2 ≠ .cell from by decide) (locs rfl) (fun h₁ hn k₁ => ?_) rfl rfl rfl
  have X₁ : K.In h₁ := X.keeps k₁
  have hx₁ := k₁ _ _ hx
  have I₁ : InstAt h₁ x (excO C t0) C none := ⟨hx₁, rfl, rfl, trivial⟩
  obtain ⟨hs, gs, ds, ts, oss⟩ := s
  dsimp only at *
  obtain ⟨oD, hD1, hD2⟩ : ∃ oD, h₁.get? C = some oD ∧ oD.data = .cls { name := nm, bases := bs, mro := .ref C :: bm, ns := N, qualname := q, hasDict := true, slotNames := sn, subclasses := sub, abstract := ab, collection := col, hasDel := false } := ⟨_, X₁ _ _ hC, rfl⟩
  show _root_.PySem.wpAt (model prog w) _ (.func (iB t a b c d e f g i j k) (ksEnv QN iS hs.objs.size fI (.ref cda) cc)) (execs (iB t a b c d e f g i j k) (ksEnv QN iS hs.objs.size fI (.ref cda) cc)) _ _ _
  refine ks_wpAt_execs_cons (ks_wpAt_Expr_any (ks_wpAt_MethodCall (ks_wpAt_super_base (env := ksEnv QN iS hs.objs.size fI (.ref cda) cc) rfl rfl (by decide) rfl (X₁ _ _ ho) rfl rfl rfl (X₁ _ _ hco) rfl hvs hfile T.top ?_) (ev_sup _ _ _ _ _ _ _ hl)))
  refine ks_loadName_global rfl rfl (loadGlobal_builtin (env := ksEnv QN iS hs.objs.size fI (.ref cda) cc) (hG.keeps k₁) T.gs (hB.keeps k₁) ((hb _ (by decide +kernel)).trans PyProof.Rows.Boot.super) ⟨rfl, ?_⟩)
  refine wpAny_loadName_free rfl rfl rfl ⟨_, X₁ _ _ hcell, rfl⟩ ?_
  refine wpAny_loadName_local (v := .ref x) rfl rfl hn rfl ?_
  refine ks_wpAny_isType_cls hD1 hD2 ⟨rfl, ?_⟩
  refine ks_wpAny_call_super hD1 hD2 I₁.at_ I₁.cls (fun c e => ?_) (looks_mroIn X₁ T.subC) (fun h₂ e₂ k₂ => ?_)
  · cases e
  have X₂ : K.In h₂ := X₁.keeps k₂
  have hx₂ := k₂ _ _ hx₁
  have I₂ : InstAt h₂ x (excO C t0) C none := ⟨hx₂, rfl, rfl, trivial⟩
  have hm := T.sup
  unfold ks_superIn at hm
  rw [hcl] at hm
  refine kxs_getMethod kxs_ValueError e₂ (looks_opaque X₂ T.op) (l₀ := .ref C :: bm) (fun A Q E s k q => wpAny_bind ((looks_clsIn X₂ hcl) A _ E s k (wpAny_pure q))) rfl X₂ hm (I₂.type.andThen (looks_subIn X₂ T.subV)) (ks_ne X₂ I₂ hcl) (by decide) ?_
  have hu : (h₂.push (kxs_mw "ValueError.__init__" x)).get? h₂.objs.size = some (kxs_mw "ValueError.__init__" x) := Heap.get?_push_at rfl rfl
  have k₃ : ∀ b o, h₂.get? b = some o → (h₂.push (kxs_mw "ValueError.__init__" x)).get? b = some o := fun b o z => Heap.get?_push_of_some _ z
  refine callWith_mw (i := "ValueError.__init__") (x := x) ?_
  refine Calls.spliced_cons ?_
  refine Calls.Constant_str (k := 0) (pos := d) ?_
  refine Calls.spliced_nil ?_
  refine ⟨hu, ?_⟩
  refine call_mw (k₃ _ _ (X₂ _ _ hC)) (k₃ _ _ hx₂) hu (by rw [sizeLine_eq]; exact (by decide : 1 ≤ 16777216)) fun h₄ t1 k₄ hx₄ => ?_
  have K4 : ∀ b o, b ≠ x → h₁.get? b = some o → h₄.get? b = some o := fun b o hb z => k₄ b o hb (k₃ b o (k₂ b o z))
  have X₄ : K.In h₄ := ErX.kept X₁ hnx K4
  show _root_.PySem.wpAt _ _ _ (execs _ _) _ _ _
  refine wpAt_of_wpAny (wpAny_execs_cons (plainObj_wpAny_Assign_Attribute ?_))
  have hn₄ : h₄.Ns hs.objs.size (fun y => List.lookup y (List.reverse [(("self" : Str), Value.ref x), ("limit", v)])) := hn.at fun o z => K4 _ o hxL z
  refine wpAny_Name (wpAny_loadName_local (v := v) rfl rfl hn₄ rfl ?_) (by decide)
  refine wpAny_Name (wpAny_loadName_local (v := .ref x) rfl rfl hn₄ rfl ?_) (by decide)
  refine set_plain X₄ (ox := excO C t1) (od := none) ⟨hx₄, rfl, rfl, trivial⟩ T.sa ?_
  refine exc_osa X₄ hx₄ hcl (show refsVE (.ref C :: bm) = true from hbm) rfl T.noN (fun h₅ tk dx k₅ dn dne hx₅ hn₅ => ?_)
  have z : hs.objs.size < h₄.objs.size := hn₄.lt
  exact wpAny_execs_nil (hq h₅ tk dx t1 ⟨fun b o hb e => k₅ b o hb (K4 b o hb (k₁ b o e)), hx₅, Nat.le_of_lt (Nat.lt_of_lt_of_le z dn), dne, hn₅⟩)
theorem made (T : Txt prog K mg NM C fI) : Mk1 prog w K mg C "limit" := by
  intro A R s mb v X hlim hG hB hb hroom hq
  obtain ⟨nm, q, N, bs, bm, sn, sub, ab, col, dd, k0, k1, k2, k3, k5, hC, hbm⟩ := T.cls
  obtain ⟨hp, g, dr, tk, os⟩ := s
  have k : ∀ b o, hp.get? b = some o → ((hp.push (kdv_tup [v])).push (excO C hp.objs.size)).get? b = some o := fun b o e => Heap.get?_push_of_some _ (Heap.get?_push_of_some _ e)
  have hget : ((hp.push (kdv_tup [v])).push (excO C hp.objs.size)).get? (hp.objs.size + 1) = some (excO C hp.objs.size) := by heap_get
  have hnx : K.lookup (hp.objs.size + 1) = none := ErX.no_lookup X (Nat.le_succ _)
  refine call_own F.excBase_ValueError (fun X => refsVE_contains X bm hbm) (X _ _ hC) (looks_findIn X T.iC) (fun self => bind_fn X self T.tC) (one_ok v) ?_
  refine init (s := ⟨(hp.push (kdv_tup [v])).push (excO C hp.objs.size), g, dr, tk, os⟩) T (X.keeps k) (hlim.keeps k) (hG.keeps k) (hB.keeps k) hb hget hnx hroom fun h' tk' dx t1 ⟨k', hx, dn, dne, hns⟩ => ?_
  have old : ∀ b o, hp.get? b = some o → h'.get? b = some o := fun b o e => k' b o (Nat.ne_of_lt (Nat.lt_succ_of_lt (Heap.lt_size e))) (k b o e)
  have z : hp.objs.size + 1 + 1 ≤ dx := by
    have q := dn
    simp only [Heap.size_push] at q
    exact q
  exact ⟨rfl, hq h' tk' (hp.objs.size + 1) dx ⟨old, Nat.le_succ _, ⟨_, _, hx, rfl, rfl, rfl, rfl⟩, Nat.le_trans (Nat.le_trans (Nat.le_succ _) (Nat.le_succ _)) z, dne, hns⟩⟩
theorem err (T : Txt prog K mg NM C fI) : Err prog w K mg NM C "limit" := ⟨T.gC, T.kC, T.exC, T.tyC, T.te, T.ga, T.gg, T.noN, T.hdC, made T⟩
end
end Er_limit
end PySem
namespace PySem
namespace Er_two
open PySem.W PySem.Calls PyProof.Rows PySem.HandSPX PySem.ErX
theorem two_ok (v w : Value) : [v, w].length ≤ sizeLine := by
  have e : (2 : Nat) ≤ 16777216 := by decide
  rw [sizeLine_eq]; exact e
def iA (p1 p2 p3 : Pos) : Arguments := { posonlyargs := [], args := [{ arg := "self", annotation := none, pos := p1 }, { arg := "kind", annotation := none, pos := p2 }, { arg := "index", annotation := none, pos := p3 }], vararg := none, kwonlyargs := [], kw_defaults := [], kwarg := none, defaults := [] }
def iB (t : String) (a b c d e f g i j k g7 i7 j7 k7 : Pos) : List Stmt := [.Expr (.Call (.Attribute (.Call (.Name "super" a) [] [] b) "__init__" c) [.Constant (.str t) 0 d] [] e) f, .Assign [.Attribute (.Name "self" g) "kind" i] (.Name "kind" j) k, .Assign [.Attribute (.Name "self" g7) "index" i7] (.Name "index" j7) k7]
def iS : Scope := { kind := .function, names := [(PySem.Str.ofString "self", .local), (PySem.Str.ofString "kind", .local), (PySem.Str.ofString "index", .local), (PySem.Str.ofString "__class__", .free), (PySem.Str.ofString "super", .globalImplicit)], isGenerator := false, isCoroutine := false, more := [] }
structure Txt (P : Program) (K : Frag) (mg : Str → Option Value) (NM : Str) (C fI : Addr) : Prop where
  gC : mg NM = some (.ref C)
  cls : ∃ nm q N bs bm sn sub ab col dd k0 k1 k2 k3 k5, K.lookup C = some (excClassObj nm q C N bs bm true sn sub ab col dd k0 k1 k2 k3 k5 "ValueError.__new__") ∧ refsVE bm = true
  sa : findIn K (.ref C) "__setattr__" = some (some (.builtin "object.__setattr__"))
  ga : findIn K (.ref C) "__getattribute__" = some (some (.builtin "BaseException.__getattribute__"))
  gg : findIn K (.ref C) "__getattr__" = some none
  noN : findIn K (.ref C) "kind" = some none
  noM : findIn K (.ref C) "index" = some none
  iC : findIn K (.ref C) "__init__" = some (some (.ref fI))
  tC : typeIn K (.ref fI) = some (.type "function")
  kC : keepIn K (.ref C) = true
  exC : subIn K (.ref C) (.type "BaseException") = some true
  tyC : typeIn K (.ref C) = some (.type "type")
  hdC : hasDictIn K C = true
  te : exmOne K (.ref C) (.ref C) = some true
  sup : ks_superIn K C C "__init__" = some (some (.builtin "ValueError.__init__"))
  subV : subIn K (.ref C) (.type "ValueError") = some true
  subC : mroIn K C (.ref C) = some true
  op : nsIn K cStatics "thirdparty.any" = some none
  gs : mg "super" = none
  top : (P.main.scope.names.lookup ("super" : Str)).isSome = false
  fn : ∃ (QN : Str) (oc : Value) (od : Option Addr) (doc pm : Value) (an : Option Addr) (cda : Addr) (ct : Value) (osl : Array (Option Value)) (cc : Addr) (t : String) (p1 p2 p3 a b c d e f g i j k g7 i7 j7 k7 : Pos)
    (ccl : Value) (cdd : Option Addr) (vs : Array Value) (ccs : Array (Option Value)) (file : Str) (tf : Tok) (cl : Value) (cld : Option Addr) (csl : Array (Option Value)),
    K.lookup fI = some ⟨oc, od, .func (ksFn "__init__" QN (iA p1 p2 p3) (iB t a b c d e f g i j k g7 i7 j7 k7) iS .none .none doc pm an (.ref cda) ct cc), osl⟩ ∧ codeIn K (.ref cda) QN = true ∧
    K.lookup cda = some ⟨ccl, cdd, .fields vs, ccs⟩ ∧ vs[2]? = some (.str file tf) ∧ ((P.main.file : Str) == file) = true ∧ K.lookup cc = some ⟨cl, cld, .cell (some (.ref C)), csl⟩ ∧ (c.endLine == e.line) = true
section
variable {prog : Program} {w : World} {A : Around} {E : Value → Shared → Prop} {R : Result → Shared → Prop} {s : Shared} {K : Frag} {mg mb : Str → Option Value} {NM : Str} {C fI : Addr}
theorem init (T : Txt prog K mg NM C fI) {x t0 : Addr} {v w2 : Value} (X : K.In s.heap) (hlim : s.heap.NoLimit) (hG : s.heap.Ns mainGlobals mg) (hB : s.heap.Ns builtinsNs mb) (hb : ∀ x : Str, x ≠ "__name__" → mb x = bootBuiltins x)
    (hx : s.heap.get? x = some (excO C t0)) (hnx : K.lookup x = none) (hroom : A.depth < recursionLimit)
    (hq : ∀ h' tk dx t1, InitEnd s.heap h' x C dx t1 (fun y => if y = "index" then some w2 else if y = "kind" then some v else none) → R (.ok (.ret .none)) { s with heap := h', toks := tk }) :
    codeAny (model prog w) A (.call (.ref fI) ⟨[.ref x, v, w2], []⟩) R s := by
  obtain ⟨QN, oc, od, doc, pm, an, cda, ct, osl, cc, t, p1, p2, p3, a, b, c, d, e, f, g, i, j, k, g7, i7, j7, k7, ccl, cdd, vs, ccs, file, tf, cl, cld, csl, ho, hcd, hco, hvs, hfile, hcell, hl⟩ := T.fn
  obtain ⟨nm, q, N, bs, bm, sn, sub, ab, col, dd, k0, k1, k2, k3, k5, hC, hbm⟩ := T.cls
  have hcl : clsIn K C = some { name := nm, bases := bs, mro := .ref C :: bm, ns := N, qualname := q, hasDict := true, slotNames := sn, subclasses := sub, abstract := ab, collection := col, hasDel := false } := by unfold clsIn; rw [hC] <;> rfl
  have hxL : s.heap.objs.size ≠ x := Nat.ne_of_gt (Heap.lt_size hx)
  refine ks_codeAny_call_defAt (fd := ksFn "__init__" QN (iA p1 p2 p3) (iB t a b c d e f g i j k g7 i7 j7 k7) iS .none .none doc pm an (.ref cda) ct cc) (body := iB t a b c d e f g i j k g7 i7 j7 k7) (binds := [("self", .ref x), ("kind", v), ("index", w2)])
    hroom (X _ _ ho) rfl hlim (codeRec_of X hcd) rfl (BindsTo.of_eq (by first | rfl | with_unfolding_all rfl)) (show ∀ x ∈ iS.names, x.2 ≠ .cell from by decide) (locs rfl) (fun h₁ hn k₁ => ?_) rfl rfl rfl
  have X₁ : K.In h₁ := X.keeps k₁
  have hx₁ := k₁ _ _ hx
  have I₁ : InstAt h₁ x (excO C t0) C none := ⟨hx₁, rfl, rfl, trivial⟩
  obtain ⟨hs, gs, ds, ts, oss⟩ := s
  dsimp only at *
  obtain ⟨oD, hD1, hD2⟩ : ∃ oD, h₁.get? C = some oD ∧ oD.data = .cls { name := nm, bases := bs, mro := .ref C :: bm, ns := N, qualname := q, hasDict := true, slotNames := sn, subclasses := sub, abstract := ab, collection := col, hasDel := false } := ⟨_, X₁ _ _ hC, rfl⟩
  show _root_.PySem.wpAt (model prog w) _ (.func (iB t a b c d e f g i j k g7 i7 j7 k7) (ksEnv QN iS hs.objs.size fI (.ref cda) cc)) (execs (iB t a b c d e f g i j k g7 i7 j7 k7) (ksEnv QN iS hs.objs.size fI (.ref cda) cc)) _ _ _
  refine ks_wpAt_execs_cons (ks_wpAt_Expr_any (ks_wpAt_MethodCall (ks_wpAt_super_base (env := ksEnv QN iS hs.objs.size fI (.ref cda) cc) rfl rfl (by decide) rfl (X₁ _ _ ho) rfl rfl rfl (X₁ _ _ hco) rfl hvs hfile T.top ?_) (ev_sup _ _ _ _ _ _ _ hl)))
  refine ks_loadName_global rfl rfl (loadGlobal_builtin (env := ksEnv QN iS hs.objs.size fI (.ref cda) cc) (hG.keeps k₁) T.gs (hB.keeps k₁) ((hb _ (by decide +kernel)).trans PyProof.Rows.Boot.super) ⟨rfl, ?_⟩)
  refine wpAny_loadName_free rfl rfl rfl ⟨_, X₁ _ _ hcell, rfl⟩ ?_
  refine wpAny_loadName_local (v := .ref x) rfl rfl hn rfl ?_
  refine ks_wpAny_isType_cls hD1 hD2 ⟨rfl, ?_⟩
  refine ks_wpAny_call_super hD1 hD2 I₁.at_ I₁.cls (fun c e => ?_) (looks_mroIn X₁ T.subC) (fun h₂ e₂ k₂ => ?_)
  · cases e
  have X₂ : K.In h₂ := X₁.keeps k₂
  have hx₂ := k₂ _ _ hx₁
  have I₂ : InstAt h₂ x (excO C t0) C none := ⟨hx₂, rfl, rfl, trivial⟩
  have hm := T.sup
  unfold ks_superIn at hm
  rw [hcl] at hm
  refine kxs_getMethod kxs_ValueError e₂ (looks_opaque X₂ T.op) (l₀ := .ref C :: bm) (fun A Q E s k q => wpAny_bind ((looks_clsIn X₂ hcl) A _ E s k (wpAny_pure q))) rfl X₂ hm (I₂.type.andThen (looks_subIn X₂ T.subV)) (ks_ne X₂ I₂ hcl) (by decide) ?_
  have hu : (h₂.push (kxs_mw "ValueError.__init__" x)).get? h₂.objs.size = some (kxs_mw "ValueError.__init__" x) := Heap.get?_push_at rfl rfl
  have k₃ : ∀ b o, h₂.get? b = some o → (h₂.push (kxs_mw "ValueError.__init__" x)).get? b = some o := fun b o z => Heap.get?_push_of_some _ z
  refine callWith_mw (i := "ValueError.__init__") (x := x) ?_
  refine Calls.spliced_cons ?_
  refine Calls.Constant_str (k := 0) (pos := d) ?_
  refine Calls.spliced_nil ?_
  refine ⟨hu, ?_⟩
  refine call_mw (k₃ _ _ (X₂ _ _ hC)) (k₃ _ _ hx₂) hu (by rw [sizeLine_eq]; exact (by decide : 1 ≤ 16777216)) fun h₄ t1 k₄ hx₄ => ?_
  have K4 : ∀ b o, b ≠ x → h₁.get? b = some o → h₄.get? b = some o := fun b o hb z => k₄ b o hb (k₃ b o (k₂ b o z))
  have X₄ : K.In h₄ := ErX.kept X₁ hnx K4
  show _root_.PySem.wpAt _ _ _ (execs _ _) _ _ _
  refine wpAt_of_wpAny (wpAny_execs_cons (plainObj_wpAny_Assign_Attribute ?_))
  have hn₄ : h₄.Ns hs.objs.size (fun y => List.lookup y (List.reverse [(("self" : Str), Value.ref x), ("kind", v), ("index", w2)])) := hn.at fun o z => K4 _ o hxL z
  refine wpAny_Name (wpAny_loadName_local (v := v) rfl rfl hn₄ rfl ?_) (by decide)
  refine wpAny_Name (wpAny_loadName_local (v := .ref x) rfl rfl hn₄ rfl ?_) (by decide)
  refine set_plain X₄ (ox := excO C t1) (od := none) ⟨hx₄, rfl, rfl, trivial⟩ T.sa ?_
  refine exc_osa X₄ hx₄ hcl (show refsVE (.ref C :: bm) = true from hbm) rfl T.noN (fun h₅ tk dx k₅ dn dne hx₅ hn₅ => ?_)
  have z : hs.objs.size < h₄.objs.size := hn₄.lt
  refine wpAny_execs_cons (plainObj_wpAny_Assign_Attribute ?_)
  have hn₆ : h₅.Ns hs.objs.size (fun y => List.lookup y (List.reverse [(("self" : Str), Value.ref x), ("kind", v), ("index", w2)])) := hn₄.at fun o z => k₅ _ o hxL z
  have X₅ : K.In h₅ := ErX.kept X₄ hnx k₅
  have hw : Within (fun y : Str => if y = "kind" then some v else none) ["kind"] := Within.cons _ _ Within.nil
  obtain ⟨oD5, _, _, hoD5, _, _⟩ := hn₅.count hw
  refine wpAny_Name (wpAny_loadName_local (v := w2) rfl rfl hn₆ rfl ?_) (by decide)
  refine wpAny_Name (wpAny_loadName_local (v := .ref x) rfl rfl hn₆ rfl ?_) (by decide)
  refine set_plain X₅ (od := some oD5) ⟨hx₅, rfl, rfl, hoD5⟩ T.sa ?_
  refine OEX.osa_old X₅ hx₅ hn₅ hw (by decide) hcl (show refsVE (.ref C :: bm) = true from hbm) rfl T.noM (fun h₇ tk7 k₇ hn₇ => ?_)
  have xd : x ≠ dx := Ne.symm dne
  exact wpAny_execs_nil (hq h₇ tk7 dx t1 ⟨fun b o hb e => k₇ b o (fun q => by
    have e1 : b < hs.objs.size := Heap.lt_size e
    rw [q] at e1
    exact absurd (Nat.lt_of_lt_of_le (Nat.lt_trans e1 z) dn) (Nat.lt_irrefl _)) (k₅ b o hb (K4 b o hb (k₁ b o e))), k₇ _ _ xd hx₅, Nat.le_of_lt (Nat.lt_of_lt_of_le z dn), dne, hn₇⟩)
theorem made (T : Txt prog K mg NM C fI) : ∀ {A : Around} {R : Result → Shared → Prop} {s : Shared} {mb : Str → Option Value} {v w2 : Value}, K.In s.heap → s.heap.NoLimit → s.heap.Ns mainGlobals mg → s.heap.Ns builtinsNs mb → (∀ x : Str, x ≠ "__name__" → mb x = bootBuiltins x) →
    A.depth + 1 < recursionLimit → (∀ h' tk e d, ErX.Made s.heap h' e C d (fun y => if y = "index" then some w2 else if y = "kind" then some v else none) → R (.ok (.ret (.ref e))) { s with heap := h', toks := tk }) →
    codeAny (model prog w) A (.call (.ref C) ⟨[v, w2], []⟩) R s := by
  intro A R s mb v w2 X hlim hG hB hb hroom hq
  obtain ⟨nm, q, N, bs, bm, sn, sub, ab, col, dd, k0, k1, k2, k3, k5, hC, hbm⟩ := T.cls
  obtain ⟨hp, g, dr, tk, os⟩ := s
  have k : ∀ b o, hp.get? b = some o → ((hp.push (kdv_tup [v, w2])).push (excO C hp.objs.size)).get? b = some o := fun b o e => Heap.get?_push_of_some _ (Heap.get?_push_of_some _ e)
  have hget : ((hp.push (kdv_tup [v, w2])).push (excO C hp.objs.size)).get? (hp.objs.size + 1) = some (excO C hp.objs.size) := by heap_get
  have hnx : K.lookup (hp.objs.size + 1) = none := ErX.no_lookup X (Nat.le_succ _)
  refine call_own F.excBase_ValueError (fun X => refsVE_contains X bm hbm) (X _ _ hC) (looks_findIn X T.iC) (fun self => bind_fn X self T.tC) (two_ok v w2) ?_
  refine init (s := ⟨(hp.push (kdv_tup [v, w2])).push (excO C hp.objs.size), g, dr, tk, os⟩) T (X.keeps k) (hlim.keeps k) (hG.keeps k) (hB.keeps k) hb hget hnx hroom fun h' tk' dx t1 ⟨k', hx, dn, dne, hns⟩ => ?_
  have old : ∀ b o, hp.get? b = some o → h'.get? b = some o := fun b o e => k' b o (Nat.ne_of_lt (Nat.lt_succ_of_lt (Heap.lt_size e))) (k b o e)
  have z : hp.objs.size + 1 + 1 ≤ dx := by
    have q := dn
    simp only [Heap.size_push] at q
    exact q
  exact ⟨rfl, hq h' tk' (hp.objs.size + 1) dx ⟨old, Nat.le_succ _, ⟨_, _, hx, rfl, rfl, rfl, rfl⟩, Nat.le_trans (Nat.le_trans (Nat.le_succ _) (Nat.le_succ _)) z, dne, hns⟩⟩
end
end Er_two
end PySem
namespace Ag
open PySem PySem.Spec PyProof.Rows L2 Evl PySem.ErX
def dmA (m : Str → Option Value) : List Str → List Value → Str → Option Value
  | f :: fs, v :: vs => dmA (fun y => if y = f then some v else m y) fs vs
  | _, _ => m
def dm (fs : List Str) (vs : List Value) : Str → Option Value := dmA (fun _ => none) fs vs
structure ErrL (P : Program) (w : World) (K : PySem.W.Frag) (mg : Str → Option Value) (NM : Str) (C : Addr) (fls : List Str) : Prop where
  gC : mg NM = some (.ref C)
  kC : PySem.W.keepIn K (.ref C) = true
  exC : PySem.W.subIn K (.ref C) (.type "BaseException") = some true
  tyC : PySem.W.typeIn K (.ref C) = some (.type "type")
  ga : PySem.W.findIn K (.ref C) "__getattribute__" = some (some (.builtin "BaseException.__getattribute__"))
  gg : PySem.W.findIn K (.ref C) "__getattr__" = some none
  noN : ∀ f ∈ fls, PySem.W.findIn K (.ref C) f = some none
  hdC : PySem.W.hasDictIn K C = true
  nd : fls.Nodup
  make : ∀ {A : Around} {R : Result → Shared → Prop} {s : Shared} {mb : Str → Option Value} {vs : List Value}, vs.length = fls.length → K.In s.heap → s.heap.NoLimit → s.heap.Ns mainGlobals mg → s.heap.Ns builtinsNs mb → (∀ x : Str, x ≠ "__name__" → mb x = bootBuiltins x) →
    A.depth + 1 < recursionLimit → (∀ h' tk e d, ErX.Made s.heap h' e C d (dm fls vs) → R (.ok (.ret (.ref e))) { s with heap := h', toks := tk }) → codeAny (model P w) A (.call (.ref C) ⟨vs, []⟩) R s
theorem ErrL.one {P : Program} {w : World} {K : PySem.W.Frag} {mg : Str → Option Value} {NM f : Str} {C : Addr} (T : Err P w K mg NM C f) : ErrL P w K mg NM C [f] where
  gC := T.gC
  kC := T.kC
  exC := T.exC
  tyC := T.tyC
  ga := T.ga
  gg := T.gg
  noN := fun g hg => by cases List.mem_singleton.mp hg; exact T.noN
  hdC := T.hdC
  nd := by simp
  make := fun {A R s mb vs} hl a b c d e f g => by
    match vs, hl with
    | [v], _ => exact T.make a b c d e f g
theorem vals_len : ∀ {vs : List V} {us : List Value}, Vals vs us → us.length = vs.length
  | [], _, .nil => rfl
  | _ :: _, _, .cons _ r => congrArg (· + 1) (vals_len r)
theorem dmA_not {y : Str} : ∀ {fs : List Str} {us : List Value} {m : Str → Option Value}, y ∉ fs → dmA m fs us y = m y
  | [], _, _, _ => by unfold dmA; rfl
  | _ :: _, [], _, _ => by unfold dmA; rfl
  | f :: fs, u :: us, m, h => by
    have h1 : y ≠ f := fun z => h (by simp [z])
    have h2 : y ∉ fs := fun z => h (List.mem_cons_of_mem _ z)
    show dmA (fun y => if y = f then some u else m y) fs us y = m y
    rw [dmA_not h2, if_neg h1]
theorem rel_dmA {y : Str} : ∀ {fs : List Str} {vs : List V} {us : List Value} {m : Str → Option Value}, Vals vs us → fs.length = vs.length → fs.Nodup → m y = none → RelO (List.lookup y (fs.zip vs)) (dmA m fs us y)
  | [], _, _, m, _, _, _, hm => by
    unfold dmA
    rw [hm]
    exact trivial
  | f :: fs, _, _, m, .nil, hl, _, _ => by cases hl
  | f :: fs, v :: vs, u :: us, m, .cons r rs, hl, nd, hm => by
    show RelO (List.lookup y ((f, v) :: fs.zip vs)) (dmA (fun y => if y = f then some u else m y) fs us y)
    by_cases hy : y = f
    · subst hy
      rw [dmA_not (List.nodup_cons.mp nd).1, if_pos rfl]
      rw [show List.lookup y ((y, v) :: fs.zip vs) = some v by simp [List.lookup]]
      exact r
    · rw [show List.lookup y ((f, v) :: fs.zip vs) = List.lookup y (fs.zip vs) by
        have e : (y == f) = false := by simpa using hy
        simp [List.lookup, e]]
      exact rel_dmA rs (by simpa using hl) (List.nodup_cons.mp nd).2 (by rw [if_neg hy]; exact hm)
section
variable {X : Cx} {C : Addr} {NM : Str} {fls : List Str} {a : Expr} {as : List Expr} {ta : TA} {W : WX} {p pos pos2 : Pos} {k j : Nat}
def tMkL (C : Addr) (fls : List Str) (ta : TA) : L2.St → Hp → XK → Prop := fun σ H Q => ta σ H fun vs H1 => vs.length = fls.length ∧ ∀ d, H1 d = none → Q (.ref C) (some d) (upd H1 d (.xd (fls.zip vs)))
theorem pmk_errL (T : ErrL X.prog X.w X.K X.mg NM C fls) (hr : Room k X.A) (ha : PA X (a :: as) ta) (hg : Gl X NM := by rfl) (hdb : (NM == ("__debug__" : Str)) = false := by decide)
    (he : starEach (a :: as) X.env = (false, eval a X.env) :: starEach as X.env := by rfl) (hpl : (backTo pos (starEach as X.env)).any (·.1) = false := by rfl) :
    PMk X (.Call (.Name NM p) (a :: as) [] pos) (tMkL C fls ta) := by
  intro pins s σ H Q I h
  refine wpAny_Call_Name_kw (ld_glob I hg T.gC ?_ hdb)
  refine PySem.W.callWith_K (h₀ := X.base) I.ok.mod.kin T.kC (thn (ha.run pos pins s σ H _ I h) fun us s1 ⟨vs, H1, I1, r1, hl, q1⟩ => ⟨I1.kIn, ?_⟩) he hpl
  have hlim := I1.nolimit
  obtain ⟨mb, b1, b2⟩ := I1.mod.blt
  have hG := I1.mod.glob.keeps I1.bk
  have hB := b1.keeps I1.bk
  obtain ⟨hp, g, dr, tk, os⟩ := s1
  have hlu : us.length = fls.length := (vals_len r1).trans hl
  refine wpAny_call (T.make hlu I1.kIn hlim hG hB b2 (by have := hr.dp; omega) fun h' tk' e d M => ?_)
  show MkP X pins σ Q (.ref e) ⟨h', g, dr, tk', os⟩
  obtain ⟨oe, fv, hoe, hc, hd, hdat, h1⟩ := M.obj
  have hns := M.ns
  obtain ⟨G', g1, g2⟩ := restrict h' fun b => decide (b ≠ e)
  have gk : ∀ b, b ≠ e → G'.get? b = h'.get? b := fun b hb => g1 b (decide_eq_true hb)
  have ge : G'.get? e = none := g2 e (by simp)
  have old : ∀ b o, hp.get? b = some o → G'.get? b = some o := fun b o q => (gk b (Nat.ne_of_lt (Nat.lt_of_lt_of_le (Heap.lt_size q) M.new))).trans (M.keep b o q)
  have ob : ObjOk X.prog X.w (upd H1 d (.xd (fls.zip vs))) G' d (.xd (fls.zip vs)) := ⟨_, hns.at (fun o q => (gk d M.dne).trans q), fun f => rel_dmA r1 hl.symm T.nd rfl⟩
  have J : Inv X pins σ (upd H1 d (.xd (fls.zip vs))) ⟨G', g, dr, tk', os⟩ := I1.laid (t' := tk') old M.dbig ob
  refine ⟨e, oe, fv, ⟨G', g, dr, tk', os⟩, _, .ref C, some d, rfl, J, fun b o q => ?_, ge, hoe, ⟨hc, hd⟩, hdat, h1, ?_, rfl, I1.bare, raises_own T.exC T.tyC, q1 d (I1.hok.fresh M.dbig)⟩
  · by_cases hb : b = e
    · have q' : G'.get? b = some o := q
      rw [hb, ge] at q'; cases q'
    · exact (gk b hb).symm.trans q
  · rw [upd_ne (Ne.symm M.dne)]
    exact I1.hok.fresh M.new
def tRaiseL (C : Addr) (fls : List Str) (W : WX) (ta : TA) : TS := fun _ σ H => tMkL C fls ta σ H fun cls d H' => W cls d σ H'
theorem ps_raiseL (hc : X.calm = true) (T : ErrL X.prog X.w X.K X.mg NM C fls) (hr : Room k X.A) (tk : Takes X W) (ha : PA X (a :: as) ta) (hg : Gl X NM := by rfl) (hdb : (NM == ("__debug__" : Str)) = false := by decide)
    (he : starEach (a :: as) X.env = (false, eval a X.env) :: starEach as X.env := by rfl) (hpl : (backTo pos (starEach as X.env)).any (·.1) = false := by rfl) :
    PS X (.Raise (some (.Call (.Name NM p) (a :: as) [] pos)) none pos2) (tRaiseL C fls W ta) := ps_raise hc tk (pmk_errL T hr ha hg hdb he hpl)
def tFldL (C : Addr) (fl : Str) (a : Addr) (cls : Value) (d : Option Addr) (te : TE) : TE := fun σ H Q => te σ H fun x H1 => x = .ref a ∧ cls = .ref C ∧ ∃ (dd : Addr) (kvs : List (Str × V)) (v : V), d = some dd ∧ H1 dd = some (.xd kvs) ∧ kvs.lookup fl = some v ∧ Q v H1
theorem pe_fldL {fl : Str} {a : Addr} {oe : Obj} {cls : Value} {d : Option Addr} {pn : List (Addr × Obj)} {e : Expr} {te : TE} (T : ErrL X.prog X.w X.K X.mg NM C fls) (hfl : fl ∈ fls) (hz : Zc cls d oe) (hf : ∃ vs, oe.data = .fields vs) (he : PE (X.suite a ((a, oe) :: pn)) e te)
    (hb : attributeBase e fl X.env (eval e X.env) = eval e X.env := by rfl) : PE (X.suite a ((a, oe) :: pn)) (.Attribute e fl pos) (tFldL C fl a cls d te) := by
  refine ⟨fun pins s σ H Q I h => ?_⟩
  refine attr_of hb (thn (he.run pins s σ H _ I h) fun u s1 ⟨x, H1, I1, rx, ex, ec, dd, kvs, v, ed, ea, el, q⟩ => ?_)
  subst ex ec ed
  obtain rfl : u = Value.ref a := rx
  obtain ⟨ha, _⟩ := I1.pin (a, oe) (List.mem_append_left _ List.mem_cons_self)
  obtain ⟨vs, hd⟩ := hf
  have hx : ObjOk X.prog X.w H1 s1.heap dd (.xd kvs) := I1.hok dd _ ea
  obtain ⟨mA, hns, hr⟩ := hx
  obtain ⟨od, ho, hl⟩ := lookIn_ns hns
  obtain ⟨u, hu, ru⟩ := RelO.some_of (v := v) (o := mA fl) (by rw [← el]; exact hr fl)
  have J : PySem.W.InstAt s1.heap a oe C (some od) := ⟨ha, hz.1, by unfold PySem.W.notCls; rw [hd] <;> rfl, by rw [hz.2]; exact ho⟩
  exact HandSPX.exc_get I1.kIn J T.ga T.gg T.exC (PySem.W.findObj_own T.hdC (T.noN fl hfl) rfl (by rw [hl, hu])) (handed_of ru) ⟨v, H1, I1.tok _, ru, q⟩
end
def xRaise (c : Str) (fls : List Str) (fa : En → Option (List D × En)) : En → Option Out := fun e => (fa e).bind fun p => if p.1.length = fls.length then some (.ex ⟨c, fls, p.1⟩ p.2) else none
theorem zip_fst {α β : Type} : ∀ {xs : List α} {ys : List β}, xs.length = ys.length → (xs.zip ys).map (·.1) = xs
  | [], _, _ => rfl
  | _ :: _, [], h => by cases h
  | x :: xs, y :: ys, h => congrArg (x :: ·) (zip_fst (by simpa using h))
theorem zip_snd {α β : Type} : ∀ {xs : List α} {ys : List β}, xs.length = ys.length → (xs.zip ys).map (·.2) = ys
  | _, [], _ => by simp
  | [], _ :: _, h => by cases h
  | x :: xs, y :: ys, h => congrArg (y :: ·) (zip_snd (by simpa using h))
theorem lay_xd {K : PySem.W.Frag} {s t : Sta} {p : Addr} {kvs : List (Str × V)} (okt : EnOk K t) (st : Stp s t) (hp : t.H p = none) : EnOk K ⟨upd t.B p (.xd kvs), upd t.H p (.xd kvs), t.σ, t.en, t.fp⟩ ∧ Stp s ⟨upd t.B p (.xd kvs), upd t.H p (.xd kvs), t.σ, t.en, t.fp⟩ := by
  have hb : t.B p = none := fresh_back okt.ex hp
  have el : Ex (upd t.B p (.xd kvs)) (upd t.H p (.xd kvs)) := fun a o z => by
    by_cases ha : a = p
    · subst ha; rw [upd_same] at z; rw [upd_same]; exact z
    · rw [upd_ne ha] at z; rw [upd_ne ha]; exact okt.ex a o z
  refine ⟨okt.alc (Ex.new hb) (Ex.new hp) el fun i a ha => ?_, st.trans (Stp.alc (Ex.new hb) (Ex.new hp) fun a o z => ?_)⟩
  · have : a ≠ p := by
      rintro rfl
      obtain ⟨w, hw, _⟩ := okt.cell ⟨i, ha⟩
      rw [hp] at hw; cases hw
    rw [upd_ne this]
    exact okt.off i a ha
  · by_cases ha : a = p
    · subst ha; exact .inr (.inl hp)
    · rw [upd_ne ha] at z; exact .inl z
theorem xs_raise {X : Cx} {st : Stmt} {W : WX} {c : Str} {fls : List Str} {fa : En → Option (List D × En)} (h : PS X st (tRaiseL (He.ga X.K c) fls W (rdA X.K fa))) : PS X st (rdS X.K W (xRaise c fls fa)) := PSi h fun D σ H ⟨s, e1, e2, ok, o, hf, q⟩ => by
  obtain ⟨⟨ds, en1⟩, k1, k2⟩ := Option.bind_eq_some_iff.mp hf
  replace k2 : (if ds.length = fls.length then some (Out.ex ⟨c, fls, ds⟩ en1) else none) = some o := k2
  split at k2
  · rename_i hl
    cases k2
    refine ⟨s, e1, e2, ok, ds, en1, k1, fun vs t tσ te okt st rp => ⟨rp.len.trans hl, fun d hd => ?_⟩⟩
    obtain ⟨o1, s1⟩ := lay_xd (kvs := fls.zip vs) okt st hd
    have hll : fls.length = vs.length := by rw [rp.len, hl]
    rw [← tσ]
    exact q _ _ ⟨upd t.B d (.xd (fls.zip vs)), upd t.H d (.xd (fls.zip vs)), t.σ, t.en, t.fp⟩ te o1 s1 ⟨rfl, .inr ⟨d, fls.zip vs, rfl, upd_same, zip_fst hll, by rw [zip_snd hll]; exact rp.mono (Ex.new (fresh_back okt.ex hd))⟩⟩
  · cases k2
end Ag
namespace Ag
open PySem PySem.Spec PyProof.Rows L2 Evl
abbrev Cl := Value × Nat × (Addr → Value → Option Addr → TS)
def offS (D : Ends) (i : Nat) : Ends := { nx := fun τ G => D.nx (τ.set i none) G, rt := D.rt, bk := fun τ G => D.bk (τ.set i none) G, ct := fun τ G => D.ct (τ.set i none) G }
def wCls (K : PySem.W.Frag) (Wo : WX) (D : Ends) : List Cl → WX
  | [] => Wo
  | (c, i, ts) :: r => fun cls d τ G => ∃ b, PySem.W.exmOne K cls c = some b ∧ if b = true then ∀ a, G a = none → ts a cls d (offS D i) (τ.set i (some (.ref a))) G else wCls K Wo D r cls d τ G
inductive ClsOk (X : Cx) : List ExceptHandler → List Cl → Prop
  | nil : ClsOk X [] []
  | cons {x n : Str} {c : Value} {i : Nat} {ts : Addr → Value → Option Addr → TS} {s0 : Stmt} {ss : List Stmt} {p1 p2 : Pos} {hd : List ExceptHandler} {l : List Cl} (nm : Names X x c) (at_ : X.N[i]? = some n) (lo : X.env.kindOf n = some .local)
      (su : ∀ (a : Addr) (oe : Obj) (cls : Value) (d : Option Addr) (pn : List (Addr × Obj)), Zc cls d oe → (∃ vs, oe.data = .fields vs) → PSs (X.suite a ((a, oe) :: pn)) (s0 :: ss) (ts a cls d)) (more : ClsOk X hd l) :
      ClsOk X (.ExceptHandler (some (.Name x p1)) (some n) (s0 :: ss) p2 :: hd) ((c, i, ts) :: l)
structure Landed (X : Cx) (pins : List (Addr × Obj)) (s1 : Shared) (h3 : Heap) (a : Addr) (B : Heap) (sI : Shared) (τ : L2.St) (G : Hp) (cls : Value) (d : Option Addr) : Prop where
  J : Inv X pins τ G sI
  nb : ∀ b o, sI.heap.get? b = some o → b ∉ frs X.stack → B.get? b = some o
  up : sI.heap.UpToSlots h3
  fl : HandSPX.FlyingZ B (X.env :: X.outer) a (Zc cls d) h3
  na : G a = none
  os : s1.os = sI.os
  ag : AllBare s1.gens
section
variable {X : Cx} {pins : List (Addr × Obj)} {s1 : Shared} {h3 : Heap} {a : Addr} {B : Heap} {sI : Shared} {τ : L2.St} {G : Hp} {cls : Value} {d : Option Addr}
theorem Landed.inv (L : Landed X pins s1 h3 a B sI τ G cls d) : Inv X pins τ G { s1 with heap := h3 } := L.J.landed L.nb L.fl.1 L.up L.os L.ag
theorem Landed.off (L : Landed X pins s1 h3 a B sI τ G cls d) (hf : X.env.frame = some X.env.locals) : ∃ oe vs, h3.get? a = some oe ∧ Zc cls d oe ∧ oe.data = .fields vs ∧ a ≠ X.env.locals ∧ a ∉ X.fs := by
  obtain ⟨oe, vs, g, z, dt⟩ := L.fl.there
  have out : a ∉ frs (X.env :: X.outer) := fun hm => by
    obtain ⟨_, o2, g2, nf⟩ := L.fl.2.2.1.mem hm
    cases (g.symm.trans g2)
    exact nf _ dt
  refine ⟨oe, vs, g, z, dt, fun e => out (List.mem_filterMap.mpr ⟨X.env, List.mem_cons_self, e ▸ hf⟩), fun hm => ?_⟩
  obtain ⟨v, hv, q⟩ := List.mem_filterMap.mp hm
  exact out (List.mem_filterMap.mpr ⟨v, List.mem_cons_of_mem _ hv, q⟩)
theorem Landed.again (L : Landed X pins s1 h3 a B sI τ G cls d) {h4 : Heap} (f4 : HandSPX.FlyingZ B (X.env :: X.outer) a (Zc cls d) h4) (u4 : h3.UpToSlots h4) : Landed X pins s1 h4 a B sI τ G cls d := ⟨L.J, L.nb, L.up.trans u4, f4, L.na, L.os, L.ag⟩
theorem Landed.on (L : Landed X pins s1 h3 a B sI τ G cls d) {Wo : WX} {Q : Flow → Shared → Prop} (st : X.stack = X.env :: X.outer) (hf : X.env.frame = some X.env.locals) (tk : Takes X Wo) (w : Wo cls d τ G) :
    wpAny (model X.prog X.w) X.A (handleBy (.ref a) X.env []) Q X.xe { s1 with heap := h3 } := by
  refine wpAny_handleBy_nil ?_
  obtain ⟨_, _, _, oe, vs, T, _, _, g, _, dt, g1, _⟩ := id L.fl
  unfold PySem.passOn
  refine wpAny_bind (wpAny_field g dt g1 ?_)
  have ne : ¬ ((Value.ref T == Value.none) = true) := by simp
  rw [if_neg ne]
  have last : wpAny (model X.prog X.w) X.A (setFlight (.ref a) X.env.frame) (fun _ s4 => wpAny (model X.prog X.w) X.A (throw (.ref a) : Sem Flow) Q X.xe s4) X.xe { s1 with heap := h3 } := by
    rw [hf]
    refine HandSPX.setFlight_upZ L.fl fun h4 h5 h6 => wpAny_throw (tk _ _ ?_)
    exact ⟨a, B, sI, pins, τ, G, cls, d, rfl, L.J, L.nb, L.up.trans h6, .inr (.inr (by rw [st]; exact h5)), L.na, L.os, L.ag, w⟩
  first
    | exact wpAny_bind (wpAny_pure (wpAny_bind last))
    | exact wpAny_bind last
theorem Landed.by (hN : X.N.Nodup) (st : X.stack = X.env :: X.outer) (hf : X.env.frame = some X.env.locals) {Wo : WX} (tk : Takes X Wo) {D : Ends} : ∀ {hd : List ExceptHandler} {l : List Cl}, ClsOk X hd l → ∀ {h3 : Heap}, Landed X pins s1 h3 a B sI τ G cls d → wCls X.K Wo D l cls d τ G →
    wpAny (model X.prog X.w) X.A (handleBy (.ref a) X.env hd) (SP X pins D) X.xe { s1 with heap := h3 } := by
  intro hd l ok
  induction ok with
  | nil => exact fun L w => L.on st hf tk w
  | @cons x n c i ts s0 ss p1 p2 hd l nm at_ lo su more ih =>
    intro h3 L w
    obtain ⟨b, he, hw⟩ := w
    obtain ⟨oe, vs, g, z, dt, nL, nF⟩ := L.off hf
    have I3 := L.inv
    have S3 := I3.suite g dt L.na nL nF
    have tyL : PySem.W.Looks (model X.prog X.w) h3 (typeOf (.ref a)) cls := fun A Q E s k q => wpAny_typeOf_ref (k _ _ g) (by rw [z.1]; exact q)
    have mt := PySem.W.exm_one (M := model X.prog X.w) I3.kIn tyL he
    refine wpAny_handleBy_cons (codeAny_handlers_test ?_) (fun q => by cases q)
    have look : ∀ {Q E : Value → Shared → Prop}, Q c { s1 with heap := h3 } → wpAny (model X.prog X.w) (X.A.mark (some (.ref a))) (eval (.Name x p1) X.env) Q E { s1 with heap := h3 } := fun {Q E} q => by
      obtain ⟨k1, k2, k3 | ⟨k3, k4, k5⟩⟩ := nm
      · exact ld_glob (X := X.suite a ((a, oe) :: (X.pn ++ pins))) S3 k1 k3 q k2
      · exact ld_blt (X := X.suite a ((a, oe) :: (X.pn ++ pins))) S3 k1 k3 k4 q k5 k2
    refine look (mt.here ?_)
    cases b with
    | false =>
      show wpAny _ X.A (handleBy (.ref a) X.env hd) _ _ _
      exact ih L (by rw [if_neg Bool.false_ne_true] at hw; exact hw)
    | true =>
      rw [if_pos rfl] at hw
      refine codeAny_handlers_suite_as ?_
      refine HandSPX.lands_againZ L.fl fun h4 f4 u4 => ?_
      have L4 := L.again f4 u4
      obtain ⟨o4, v4, g4, z4, d4, _, _⟩ := L4.off hf
      refine store_ok (X := X.suite a ((a, o4) :: (X.pn ++ pins))) (v := .ref a) (L4.inv.suite g4 d4 L.na nL nF) hN at_ (.inl lo) rfl (fun s5 S5 => ?_) (.inr lo)
      refine wpAny_mono ((su a o4 cls d (X.pn ++ pins) z4 ⟨_, d4⟩).run [] s5 _ G _ S5 (hw a L.na)) (fun f s6 sp => ?_) (fun _ _ q => q.elim)
      have ok := L.J.ok
      have end_ : ∀ {τ6 : L2.St} {G6 : Hp} {Q : Shared → Prop}, Inv (X.suite a ((a, o4) :: (X.pn ++ pins))) [] τ6 G6 s6 → (∀ s7, Inv X pins (τ6.set i none) G6 s7 → Q s7) → wpAny (model X.prog X.w) X.A (do bindName X.env n .none; unbindBehindTheSuite X.env n p2) (fun _ s7 => Q s7) X.xe s6 :=
        fun S6 q => gone_ok (S6.unsuite ok) hN at_ lo q
      cases f with
      | next => obtain ⟨τ6, G6, S6, q6⟩ := sp; exact end_ S6 fun s7 J7 => ⟨_, _, J7, q6⟩
      | brk => obtain ⟨τ6, G6, S6, q6⟩ := sp; exact end_ S6 fun s7 J7 => ⟨_, _, J7, q6⟩
      | cont => obtain ⟨τ6, G6, S6, q6⟩ := sp; exact end_ S6 fun s7 J7 => ⟨_, _, J7, q6⟩
      | ret u => obtain ⟨v6, τ6, G6, S6, r6, q6⟩ := sp; exact end_ S6 fun s7 J7 => ⟨_, _, _, J7, r6, q6⟩
end
section
variable {X : Cx} {body : List Stmt} {h₀ : ExceptHandler} {hd : List ExceptHandler} {l : List Cl} {pos : Pos} {tb : WX → TS} {Wo : WX}
theorem ps_tries (st : X.stack = X.env :: X.outer) (hf : X.env.frame = some X.env.locals) (hN : X.N.Nodup) (tk : Takes X Wo)
    (hb : ∀ (W : WX) (pn : List (Addr × Obj)) (xe : Value → Shared → Prop), Takes (X.tr pn xe) W → PassesOwn (model X.prog X.w) X.A X.env xe → PSs (X.tr pn xe) body (tb W)) (cl : ClsOk X (h₀ :: hd) l) :
    PS X (.Try body (h₀ :: hd) [] [] pos) (fun D σ H => tb (wCls X.K Wo D l) D σ H) := by
  refine ⟨fun pins s σ H D I h => ?_⟩
  have ok := I.ok
  refine wpAny_Try_except ?_
  let xe : Value → Shared → Prop := fun e s₁ => wpAny (model X.prog X.w) X.A (noteFrame e X.env) (fun _ s₂ => wpAny (model X.prog X.w) X.A (setFlight e none) (fun _ s₃ => wpAny (model X.prog X.w) X.A (handleBy e X.env (h₀ :: hd)) (SP X pins D) X.xe s₃) X.xe s₂) X.xe s₁
  have take : Takes (X.tr (X.pn ++ pins) xe) (wCls X.K Wo D l) := fun u s1 x => by
    obtain ⟨a, B, sI, pins2, τ, G, cls, d, rfl, J2, nb, up, sky, na, os, ag, w⟩ := x
    show wpAny (model X.prog X.w) X.A (noteFrame (.ref a) X.env) _ _ _
    refine Sky.land Zc.steady (by rw [ok.frames, st]) hf (by rw [← st]; exact sky) fun h3 fl u3 => ?_
    exact Landed.by hN st hf tk cl ⟨J2.ofTry ok, nb, up.trans u3, fl, na, os, ag⟩ w
  refine wpAny_mono ((hb (wCls X.K Wo D l) (X.pn ++ pins) xe take PassesOwn.looking).run [] s σ H D (I.toTry _) h) (fun f s1 sp => ?_) (fun e s1 he => he)
  cases f with
  | next => obtain ⟨τ, G, J, q⟩ := sp; exact wpAny_execs_nil ⟨τ, G, J.ofTry ok, q⟩
  | brk => obtain ⟨τ, G, J, q⟩ := sp; exact ⟨τ, G, J.ofTry ok, q⟩
  | cont => obtain ⟨τ, G, J, q⟩ := sp; exact ⟨τ, G, J.ofTry ok, q⟩
  | ret u => obtain ⟨v, τ, G, J, r, q⟩ := sp; exact ⟨v, τ, G, J.ofTry ok, r, q⟩
end
structure Su where
  i : Nat
  a : Addr
  cls : Value
  d : Option Addr
  er : Er
def Su.tie (u : Su) (K : PySem.W.Frag) (s : Sta) : Prop := s.σ[u.i]? = some (some (.ref u.a)) ∧ RepEr K s.B u.er u.cls u.d
theorem Su.tie.step {u : Su} {K : PySem.W.Frag} {s t : Sta} (h : u.tie K s) (e : t.σ = s.σ) (b : Ex s.B t.B) : u.tie K t := ⟨by rw [e]; exact h.1, h.2.mono b⟩
section
variable (K : PySem.W.Frag) (u : Su)
def rdVu (f : En → Option (D × En)) : TE := fun σ H Q => ∃ s : Sta, s.σ = σ ∧ s.H = H ∧ EnOk K s ∧ u.tie K s ∧ ∃ d en', f s.en = some (d, en') ∧ ∀ v t, t.σ = σ → t.en = en' → EnOk K t → Stp s t → Rep K t.B d v → Q v t.H
def rdEu (f : En → Option (Sl × En)) : TE := fun σ H Q => ∃ s : Sta, s.σ = σ ∧ s.H = H ∧ EnOk K s ∧ u.tie K s ∧ ∃ r en', f s.en = some (r, en') ∧ ∀ v t fr, t.σ = σ → t.en = en' → EnOk K t → Stp s t → SlOk K t.B t.H (some v) r fr → Side s t fr → Q v t.H
def rdAu (f : En → Option (List D × En)) : TA := fun σ H Q => ∃ s : Sta, s.σ = σ ∧ s.H = H ∧ EnOk K s ∧ u.tie K s ∧ ∃ ds en', f s.en = some (ds, en') ∧ ∀ vs t, t.σ = σ → t.en = en' → EnOk K t → Stp s t → RepL K t.B ds vs → Q vs t.H
def rdSu (W : WX) (f : En → Option Out) : TS := fun D σ H => ∃ s : Sta, s.σ = σ ∧ s.H = H ∧ EnOk K s ∧ u.tie K s ∧ ∃ o, f s.en = some o ∧ EndO K W D s o
end
section
variable {X : Cx} {e a b : Expr} {es rest : List Expr} {pos : Pos} {u : Su} {f g : En → Option (D × En)} {fe : En → Option (Sl × En)} {fa : En → Option (List D × En)} {W : WX} {st : Stmt} {m : En → Option Out}
theorem xu_up (h : PE X e (rdV X.K f)) : PE X e (rdVu X.K u f) := PEi h fun σ H Q ⟨s, e1, e2, ok, ti, q⟩ => ⟨s, e1, e2, ok, q⟩
theorem xu_nil : PA X [] (rdAu X.K u xNil) := PAi pa_nil fun σ H Q ⟨s, e1, e2, ok, ti, d', en', hf, q⟩ => by
  cases hf
  show Q [] H
  rw [← e2]
  exact q [] s e1 rfl ok (Stp.refl s) rfl
theorem xu_cons (h : PE X e (rdVu X.K u f)) (hs : PA X es (rdAu X.K u fa)) (hst : starEach (e :: es) X.env = (false, eval e X.env) :: starEach es X.env := by rfl) : PA X (e :: es) (rdAu X.K u (xCons f fa)) :=
  PAi (pa_cons h hs hst) fun σ H Q ⟨s, e1, e2, ok, ti, ds, en', hf, q⟩ => by
    obtain ⟨⟨d, en1⟩, h1, h2⟩ := Option.bind_eq_some_iff.mp hf
    obtain ⟨⟨ds2, en2⟩, h3, h4⟩ := Option.bind_eq_some_iff.mp h2
    cases h4
    exact ⟨s, e1, e2, ok, ti, d, en1, h1, fun v t tσ te okt st rp => ⟨t, tσ, rfl, okt, ti.step (tσ.trans e1.symm) st.bb, ds2, en2, by rw [te]; exact h3, fun vs w wσ we okw st2 rps => q (v :: vs) w wσ we okw (st.trans st2) ⟨v, vs, rfl, rp.mono st2.bb, rps⟩⟩⟩
theorem xu_lst (h : PA X es (rdAu X.K u fa)) : PE X (.List es pos) (rdEu X.K u (xPr pLst fa)) := PEi (pe_lst h) fun σ H Q ⟨s, e1, e2, ok, ti, x, en', hf, q⟩ => by
  obtain ⟨⟨ds, en1⟩, h1, h2⟩ := Option.bind_eq_some_iff.mp hf
  obtain ⟨y, h3, h4⟩ := Option.bind_eq_some_iff.mp h2
  cases h4
  refine ⟨s, e1, e2, ok, ti, ds, en1, h1, fun vs t tσ te okt st rp => ?_⟩
  have z : PrS X.K (fun vs H Q => vs.length ≤ sizeLine ∧ ∀ p, H p = none → Q (.ref p) (upd H p (.lst vs))) pLst := PrS.lst fun B H ds vs x e rp hg => by
    unfold pLst at hg
    split at hg
    · rename_i hl
      cases hg
      exact ⟨ds, vs, rfl, rp, fun Q k => ⟨sz_of (by rw [rp.len]; exact hl), k⟩⟩
    · cases hg
  exact z.run okt st rp h3 tσ te q
theorem xu_set {j : Nat} (h : PS X st (tAsg (rdEu X.K u fe) (gName j))) : PS X st (rdSu X.K u W (xSet j fe)) := PSi h fun D σ H ⟨s, e1, e2, ok, ti, o, hf, q⟩ => by
  obtain ⟨⟨r1, en1⟩, k1, k2⟩ := Option.bind_eq_some_iff.mp hf
  obtain ⟨en2, k3, k4⟩ := Option.bind_eq_some_iff.mp k2
  cases k4
  refine ⟨s, e1, e2, ok, ti, r1, en1, k1, fun v t fr tσ te okt st sl sd => ?_⟩
  obtain ⟨m1, m2⟩ := put_res okt st sl sd (by rw [te]; exact k3)
  show D.nx (σ.set j (some v)) t.H
  rw [← tσ]
  exact q _ rfl m1 m2
theorem xu_ss (h : PS X st (rdSu X.K u W m)) : PSs X [st] (rdSu X.K u W m) := pss_one h
end
def xErF (c fl : Str) (er : Er) : En → Option (D × En) := fun e => if er.c = c then (fldD er.fs er.ds fl).bind fun d => some (d, e) else none
def xErI (c : Str) (b : Bool) (er : Er) : En → Option (D × En) := fun e => if er.c = c ∧ er.fs ≠ [] then some (.bl b, e) else none
section
variable {X : Cx} {oe : Obj} {pn : List (Addr × Obj)} {u : Su} {NM fl c : Str} {fls : List Str} {x : Str} {p pos : Pos}
theorem xu_fld (E : ErrL X.prog X.w X.K X.mg NM (He.ga X.K c) fls) (hz : Zc u.cls u.d oe) (hf : ∃ vs, oe.data = .fields vs) (hp : PE (X.suite u.a ((u.a, oe) :: pn)) (.Name x p) (tVar u.i)) (hfl : fl ∈ fls := by decide) :
    PE (X.suite u.a ((u.a, oe) :: pn)) (.Attribute (.Name x p) fl pos) (rdVu X.K u (xErF c fl u.er)) := PEi (pe_fldL E hfl hz hf hp) fun σ H Q ⟨s, e1, e2, ok, ti, d, en', h, q⟩ => by
  unfold xErF at h
  split at h
  · rename_i hc
    obtain ⟨d1, k1, k2⟩ := Option.bind_eq_some_iff.mp h
    cases k2
    obtain ⟨ts, tc, te⟩ := ti
    rcases te with ⟨_, z, _⟩ | ⟨dd, kvs, t1, t2, t3, t4⟩
    · rw [z] at k1; simp [fldD] at k1
    · rw [← t3] at k1
      obtain ⟨v, v1, v2⟩ := fld_rep t4 k1
      refine ⟨.ref u.a, by rw [← e1]; exact ts, rfl, by rw [tc, hc], dd, kvs, v, t1, by rw [← e2]; exact ok.ex _ _ t2, v1, ?_⟩
      rw [← e2]
      exact q v s e1 rfl ok (Stp.refl s) v2
  · cases h
theorem xu_isi {D : V} {Dv : Value} {call : Expr} {bb : Bool} (hk : PySem.W.kitOne X.K (.ref (He.ga X.K c)) Dv = some bb) (hv : ∀ w, RelV D w → w = Dv)
    (h : PE (X.suite u.a ((u.a, oe) :: pn)) call (tCB (fun xs H Q => u.cls = .ref (He.ga X.K c) ∧ (∃ dd w, u.d = some dd ∧ H dd = some (.xd w)) ∧ rIsE X.K (He.ga X.K c) u.a xs H Q) (tCons (tVar u.i) (tCons (tC D) tNil)))) :
    PE (X.suite u.a ((u.a, oe) :: pn)) call (rdVu X.K u (xErI c bb u.er)) := PEi h fun σ H Q ⟨s, e1, e2, ok, ti, d, en', hh, q⟩ => by
  unfold xErI at hh
  split at hh
  · rename_i hc
    cases hh
    obtain ⟨ts, tc, te⟩ := ti
    rcases te with ⟨_, z, _⟩ | ⟨dd, kvs, t1, t2, t3, t4⟩
    · exact absurd z hc.2
    · refine ⟨.ref u.a, by rw [← e1]; exact ts, ?_⟩
      show tC D σ H _
      refine ⟨by rw [tc, hc.1], ⟨dd, kvs, t1, by rw [← e2]; exact ok.ex _ _ t2⟩, D, Dv, bb, rfl, hv, hk, ?_⟩
      rw [← e2]
      exact q _ s e1 rfl ok (Stp.refl s) rfl
  · cases hh
end
abbrev Hd := Str × Nat × (Er → En → Option Out)
def offE (e : En) (i : Nat) : Option En := match e[i]? with
  | none => none
  | some (.pw _) => none
  | some _ => some (e.set i .no)
def offO (i : Nat) : Out → Option Out
  | .nx e => (offE e i).bind fun e1 => some (.nx e1)
  | .bk e => (offE e i).bind fun e1 => some (.bk e1)
  | .ct e => (offE e i).bind fun e1 => some (.ct e1)
  | .rt r e => some (.rt r e)
  | .ex _ _ => none
def handX (mt : Str → Str → Option Bool) (er : Er) : List Hd → En → Option Out
  | [], e => some (.ex er e)
  | (c, i, ts) :: r, e => (mt er.c c).bind fun b => if b = true then (offE e i).bind fun e1 => (ts er e1).bind fun o => offO i o else handX mt er r e
theorem offE_ok {K : PySem.W.Frag} {s t : Sta} {e1 : En} {i : Nat} {ov : Option V} (ok : EnOk K t) (st : Stp s t) (h : offE t.en i = some e1) : EnOk K ⟨t.B, t.H, t.σ.set i ov, e1, fun j => if j = i then [] else t.fp j⟩ ∧ Stp s ⟨t.B, t.H, t.σ.set i ov, e1, fun j => if j = i then [] else t.fp j⟩ := by
  unfold offE at h
  have key : ∃ y, t.en[i]? = some y ∧ (∀ o, y ≠ .pw o) ∧ e1 = t.en.set i .no := by
    cases e : t.en[i]? with
    | none => rw [e] at h; cases h
    | some y =>
      rw [e] at h
      cases y with
      | pw o => cases h
      | no => exact ⟨_, rfl, (fun o z => by cases z), (Option.some.inj h).symm⟩
      | va d => exact ⟨_, rfl, (fun o z => by cases z), (Option.some.inj h).symm⟩
      | ow d => exact ⟨_, rfl, (fun o z => by cases z), (Option.some.inj h).symm⟩
  obtain ⟨y, ey, ny, rfl⟩ := key
  have hi : i < t.en.length := (List.getElem?_eq_some_iff.mp ey).1
  exact ⟨ok.put hi rfl (fun a ha => by cases ha) (fun a ha => by cases ha), st.trans (Stp.put (fun o z => by rw [ey] at z; exact ny o (Option.some.inj z)) fun a ha => by cases ha)⟩
inductive HdsU (X : Cx) (W : WX) : List ExceptHandler → List Hd → Prop
  | nil : HdsU X W [] []
  | cons {x n : Str} {c : Str} {i : Nat} {ts : Er → En → Option Out} {s0 : Stmt} {ss : List Stmt} {p1 p2 : Pos} {hd : List ExceptHandler} {l : List Hd} (nm : Names X x (.ref (He.ga X.K c))) (at_ : X.N[i]? = some n) (lo : X.env.kindOf n = some .local)
      (su : ∀ (a : Addr) (oe : Obj) (cls : Value) (d : Option Addr) (pn : List (Addr × Obj)) (er : Er), Zc cls d oe → (∃ vs, oe.data = .fields vs) → PSs (X.suite a ((a, oe) :: pn)) (s0 :: ss) (rdSu X.K ⟨i, a, cls, d, er⟩ W (ts er))) (more : HdsU X W hd l) :
      HdsU X W (.ExceptHandler (some (.Name x p1)) (some n) (s0 :: ss) p2 :: hd) ((c, i, ts) :: l)
def clOf (K : PySem.W.Frag) (W : WX) (h : Hd) : Cl := (.ref (He.ga K h.1), h.2.1, fun a cls d => fun D σ H => ∃ er, rdSu K ⟨h.2.1, a, cls, d, er⟩ W (h.2.2 er) D σ H)
theorem HdsU.ok {X : Cx} {W : WX} {hd : List ExceptHandler} {l : List Hd} (h : HdsU X W hd l) : ClsOk X hd (l.map (clOf X.K W)) := by
  induction h with
  | nil => exact .nil
  | cons nm at_ lo su more ih => exact .cons nm at_ lo (fun a oe cls d pn hz hf => ⟨fun pins s σ H D I ⟨er, q⟩ => (su a oe cls d pn er hz hf).run pins s σ H D I q⟩) ih
section
variable {X : Cx} {W : WX} {body : List Stmt} {h₀ : ExceptHandler} {hd : List ExceptHandler} {l : List Hd} {pos : Pos} {m : En → Option Out} {mt : Str → Str → Option Bool}
theorem hand_w {K : PySem.W.Frag} (hM : ∀ a b r, mt a b = some r → PySem.W.exmOne K (.ref (He.ga K a)) (.ref (He.ga K b)) = some r) {D : Ends} {s : Sta} {er : Er} {o : Out} : ∀ {l : List Hd} {e1 : En}, handX mt er l e1 = some o → EndO K W D s o →
    ∀ cls d t, t.en = e1 → EnOk K t → Stp s t → RepEr K t.B er cls d → wCls K W D (l.map (clOf K W)) cls d t.σ t.H
  | [], e1, h, q, cls, d, t, te, okt, st, re => by
    cases (show some (Out.ex er e1) = some o from h)
    exact q cls d t te okt st re
  | (c, i, ts) :: r, e1, h, q, cls, d, t, te, okt, st, re => by
    obtain ⟨b, k1, k2⟩ := Option.bind_eq_some_iff.mp h
    refine ⟨b, by rw [re.1]; exact hM _ _ _ k1, ?_⟩
    cases b with
    | false =>
      rw [if_neg Bool.false_ne_true] at k2 ⊢
      exact hand_w hM k2 q cls d t te okt st re
    | true =>
      rw [if_pos rfl] at k2 ⊢
      obtain ⟨e2, k3, k4⟩ := Option.bind_eq_some_iff.mp k2
      obtain ⟨o1, k5, k6⟩ := Option.bind_eq_some_iff.mp k4
      intro a ha
      obtain ⟨m1, m2⟩ := offE_ok (ov := some (.ref a)) okt st (by rw [te]; exact k3)
      have hi : i < t.σ.length := by
        rw [← okt.len, te]
        unfold offE at k3
        cases e : e1[i]? with
        | none => rw [e] at k3; cases k3
        | some y => exact (List.getElem?_eq_some_iff.mp e).1
      refine ⟨er, ⟨t.B, t.H, t.σ.set i (some (.ref a)), e2, fun j => if j = i then [] else t.fp j⟩, rfl, rfl, m1, ⟨List.getElem?_set_self hi, re⟩, o1, k5, ?_⟩
      cases o1 with
      | nx e3 =>
        obtain ⟨e4, k7, k8⟩ := Option.bind_eq_some_iff.mp k6
        cases k8
        intro u ue oku stu
        obtain ⟨n1, n2⟩ := offE_ok (ov := none) oku (m2.trans stu) (by rw [ue]; exact k7)
        exact q _ rfl n1 n2
      | bk e3 =>
        obtain ⟨e4, k7, k8⟩ := Option.bind_eq_some_iff.mp k6
        cases k8
        intro u ue oku stu
        obtain ⟨n1, n2⟩ := offE_ok (ov := none) oku (m2.trans stu) (by rw [ue]; exact k7)
        exact q _ rfl n1 n2
      | ct e3 =>
        obtain ⟨e4, k7, k8⟩ := Option.bind_eq_some_iff.mp k6
        cases k8
        intro u ue oku stu
        obtain ⟨n1, n2⟩ := offE_ok (ov := none) oku (m2.trans stu) (by rw [ue]; exact k7)
        exact q _ rfl n1 n2
      | rt v e3 =>
        cases k6
        exact fun v u fr ue oku stu sl sd => q v u fr ue oku (m2.trans stu) sl (m2.sideL sd)
      | ex er3 e3 => cases k6
end
theorem EnOk.forget {K : PySem.W.Frag} {t : Sta} (ok : EnOk K t) (τ : L2.St) (n : Nat) (h : τ.length = n) : EnOk K ⟨t.B, t.H, τ, List.replicate n .no, fun _ => []⟩ where
  ex := ok.ex
  nt := ok.nt
  tb := ok.tb
  len := by simp [h]
  sl := fun i x e => by
    have e : (List.replicate n Sl.no)[i]? = some x := e
    obtain ⟨h1, h2⟩ := List.getElem?_eq_some_iff.mp e
    have hx : x = .no := by simpa using h2.symm
    have hi : i < τ.length := by rw [h]; simpa using h1
    subst hx
    exact ⟨τ[i], List.getElem?_eq_getElem hi, rfl⟩
  out := fun _ _ => rfl
  dj := fun _ _ _ z => by cases z
  off := fun _ _ z => by cases z
mutual
def pyD : D → Option PyData
  | .non => some .none
  | .bl b => some (.bool b)
  | .int i => some (.int i)
  | .str x => some (.str x)
  | .lst ds => (pyDL ds).map .list
  | .tup _ ds => (pyDL ds).map .tuple
  | _ => none
def pyDL : List D → Option (List PyData)
  | [] => some []
  | d :: ds => (pyD d).bind fun x => (pyDL ds).map (x :: ·)
end
def scD : D → Option PyData
  | .non => some .none
  | .bl b => some (.bool b)
  | .int i => some (.int i)
  | .str x => some (.str x)
  | _ => none
def scKv : List Key → List D → Option (List (PyData × PyData))
  | [], [] => some []
  | k :: ks, d :: ds => (scD d).bind fun x => (scKv ks ds).map ((keyD k, x) :: ·)
  | _, _ => none
def pyT : D → Option PyData
  | .dct ks ds => (scKv ks ds).map .dict
  | d => pyD d
def reprD (d : D) : Option Str := (pyT d).bind fun p => if (p.showable && (decide (p.shown.length ≤ 100000) && decide (p.depth ≤ 50))) = true then some p.shown else none
mutual
theorem pyD_ok {K : PySem.W.Frag} {B H : Hp} (e : Ex B H) : ∀ {d : D} {v : V} {p : PyData}, Rep K B d v → pyD d = some p → Dp K H v p
  | .non, v, p, r, h => by cases h; rw [show v = .non from r]; exact .non
  | .bl b, v, p, r, h => by cases h; rw [show v = .bl b from r]; exact .bl b
  | .int i, v, p, r, h => by cases h; rw [show v = .int i from r]; exact .int i
  | .str x, v, p, r, h => by cases h; rw [show v = .str x from r]; exact .str x
  | .scr _, _, _, _, h => by simp [pyD] at h
  | .lst ds, v, p, ⟨a, vs, hv, hb, rl⟩, h => by
    obtain ⟨ps, h1, rfl⟩ := Option.map_eq_some_iff.mp (show (pyDL ds).map PyData.list = some p by simpa [pyD] using h)
    subst hv
    exact .lst (SqL.of (e _ _ hb)) (pyDL_ok e rl h1)
  | .tup k ds, v, p, ⟨a, vs, hv, hb, rl⟩, h => by
    obtain ⟨ps, h1, rfl⟩ := Option.map_eq_some_iff.mp (show (pyDL ds).map PyData.tuple = some p by simpa [pyD] using h)
    subst hv
    exact .tup (ex_t e hb.sq) (pyDL_ok e rl h1)
  | .dct _ _, _, _, _, h => by simp [pyD] at h
  | .dcT _ _, _, _, _, h => by simp [pyD] at h
  | .obj _ _ _, _, _, _, h => by simp [pyD] at h
theorem pyDL_ok {K : PySem.W.Frag} {B H : Hp} (e : Ex B H) : ∀ {ds : List D} {vs : List V} {ps : List PyData}, RepL K B ds vs → pyDL ds = some ps → DpAll K H vs ps
  | [], vs, ps, r, h => by
    rw [show vs = [] from r]
    cases (show some [] = some ps by simpa [pyDL] using h)
    exact .nil
  | d :: ds, _, ps, ⟨v, r, hv, a, b⟩, h => by
    subst hv
    obtain ⟨x, h1, h2⟩ := Option.bind_eq_some_iff.mp (show (pyD d).bind (fun x => (pyDL ds).map (x :: ·)) = some ps by simpa [pyDL] using h)
    obtain ⟨xs, h3, rfl⟩ := Option.map_eq_some_iff.mp h2
    exact .cons (pyD_ok e a h1) (pyDL_ok e b h3)
end
theorem scD_ok {K : PySem.W.Frag} {B : Hp} {d : D} {v : V} {p : PyData} (r : Rep K B d v) (h : scD d = some p) : Sc v p := by
  cases d with
  | non => cases h; rw [show v = .non from r]; exact .non
  | bl b => cases h; rw [show v = .bl b from r]; exact .bl b
  | int i => cases h; rw [show v = .int i from r]; exact .int i
  | str x => cases h; rw [show v = .str x from r]; exact .str x
  | _ => cases h
theorem scKv_ok {K : PySem.W.Frag} {B : Hp} : ∀ {ds : List D} {kvs : List (Key × V)} {ps : List (PyData × PyData)}, RepL K B ds (kvs.map (·.2)) → scKv (kvs.map (·.1)) ds = some ps → ScKv kvs ps
  | [], [], ps, _, h => by cases (show some [] = some ps from h); exact .nil
  | d :: ds, [], ps, r, h => by
    obtain ⟨_, _, h1, _⟩ := r
    cases h1
  | [], (k, v) :: kvs, ps, r, h => by cases (show none = some ps from h)
  | d :: ds, (k, v) :: kvs, ps, ⟨v1, r1, e1, a, b⟩, h => by
    cases e1
    obtain ⟨x, h1, h2⟩ := Option.bind_eq_some_iff.mp (show (scD d).bind (fun x => (scKv (kvs.map (·.1)) ds).map ((keyD k, x) :: ·)) = some ps from h)
    obtain ⟨xs, h3, rfl⟩ := Option.map_eq_some_iff.mp h2
    exact .cons (scD_ok a h1) (scKv_ok b h3)
def DRr (K : PySem.W.Frag) (H : Hp) (v : V) (d : PyData) : Prop := Dp K H v d ∨ ∃ a kvs ds, v = .ref a ∧ d = .dict ds ∧ Rd H a (.dK kvs) ∧ ScKv kvs ds
theorem pyT_ok {K : PySem.W.Frag} {B H : Hp} (e : Ex B H) {d : D} {v : V} {p : PyData} (r : Rep K B d v) (h : pyT d = some p) : DRr K H v p := by
  cases d with
  | dct ks ds =>
    obtain ⟨ps, h1, rfl⟩ := Option.map_eq_some_iff.mp (show (scKv ks ds).map PyData.dict = some p from h)
    obtain ⟨a, kvs, rfl, hb, hk, rl⟩ := r
    subst hk
    exact .inr ⟨a, kvs, ps, rfl, rfl, ex_rd e hb, scKv_ok rl h1⟩
  | _ => exact .inl (pyD_ok e r h)
section
variable {X : Cx}
theorem DRr.reads {pins : List (Addr × Obj)} {σ : L2.St} {H : Hp} {s : Shared} (I : Inv X pins σ H s) {v : V} {d : PyData} {u : Value} (h : DRr X.K H v d) (r : RelV v u) : ∃ as, Reads s.heap u d as ∧ (d.hasDict = true → sysModules ∉ as) := by
  rcases h with h | ⟨a, kvs, ds, rfl, rfl, e, sc⟩
  · obtain ⟨as, q⟩ := Dp.reads I d v u h r
    exact ⟨as, q, fun z => by rw [Dp.nodict h] at z; cases z⟩
  · obtain rfl : u = .ref a := r
    obtain ⟨_, hs, vs, kv, o, es, ep, ho, hx, hd, _, ps, _⟩ := dk_rd I.hok e
    obtain ⟨a1, a2⟩ := kv_reads (h := s.heap) sc kv ps
    refine ⟨_, .dict ho hx.1 hd a1 a2, fun _ z => ?_⟩
    have z2 : sysModules = a := by simpa using z
    rw [← z2] at hs
    simp at hs
def rReprR (K : PySem.W.Frag) : List V → Hp → VK → Prop := fun xs H Q => ∃ v d, xs = [v] ∧ DRr K H v d ∧ d.showable = true ∧ d.shown.length ≤ sizeLine ∧ d.depth ≤ 50 ∧ Q (.str d.shown) H
theorem call_reprR (hG : X.A.guards = some []) (hu : X.A.units + 64 < cLine) : CallR X (.builtin "repr") (rReprR X.K) := by
  intro pins s σ H xs us Q I r h
  obtain ⟨v, d, rfl, dr, hs, hz, hd, q⟩ := h
  obtain ⟨u, rfl, ru⟩ := vals1 r
  obtain ⟨as, rd, hsm⟩ := DRr.reads I dr ru
  have fin : ∀ h' t tk, (∀ b o, s.heap.get? b = some o → h'.get? b = some o) → EP X pins σ Q (.str d.shown t) { s with heap := h', toks := tk } := fun h' t tk k => ⟨.str d.shown, H, I.kept k, ⟨t, rfl⟩, q⟩
  have fin0 : ∀ t tk, EP X pins σ Q (.str d.shown t) { s with toks := tk } := fun t tk => ⟨.str d.shown, H, I.tok _, ⟨t, rfl⟩, q⟩
  cases rd with
  | none => exact PySem.P.repr_of_none (fin0 _ _)
  | bool b => exact PySem.P.repr_of_bool (fin0 _ _)
  | int i t => exact PySem.P.repr_of_int (by simpa [PyData.showable] using hs) (fin0 _ _)
  | str x t => exact PySem.P.repr_of_str (fin0 _ _) hz
  | list h1 h2 h3 h4 => exact repr_of_reads' (.list h1 h2 h3 h4) hs hsm hG (by omega) (fun _ _ e => e) (fun h' t tk k => fin h' t tk k) hz
  | tuple h1 h2 h3 h4 => exact repr_of_reads' (.tuple h1 h2 h3 h4) hs hsm hG (by omega) (fun _ _ e => e) (fun h' t tk k => fin h' t tk k) hz
  | dict h1 h2 h3 h4 h5 => exact repr_of_reads' (.dict h1 h2 h3 h4 h5) hs hsm hG (by omega) (fun _ _ e => e) (fun h' t tk k => fin h' t tk k) hz
end
def reprL : List D → Option Str
  | [d] => reprD d
  | _ => none
def xRepr (fa : En → Option (List D × En)) : En → Option (D × En) := fun e => (fa e).bind fun p => (reprL p.1).bind fun x => some (.str x, p.2)
theorem repr_run {K : PySem.W.Frag} {t : Sta} {ds : List D} {vs : List V} {x : Str} {Q : VK} (okt : EnOk K t) (rp : RepL K t.B ds vs) (h : reprL ds = some x) (q : Q (.str x) t.H) : rReprR K vs t.H Q := by
  cases ds with
  | nil => cases h
  | cons d1 r1 =>
    cases r1 with
    | cons _ _ => cases h
    | nil =>
      obtain ⟨p, h3, h4⟩ := Option.bind_eq_some_iff.mp (show reprD d1 = some x from h)
      replace h4 : (if (p.showable && (decide (p.shown.length ≤ 100000) && decide (p.depth ≤ 50))) = true then some p.shown else none) = some x := h4
      split at h4
      · rename_i hc
        cases h4
        obtain ⟨c1, c⟩ := He.ba hc
        obtain ⟨c2, c3⟩ := He.ba c
        obtain ⟨v, r, rfl, ra, rn⟩ := rp
        cases (show r = [] from rn)
        exact ⟨v, p, rfl, pyT_ok okt.ex ra h3, c1, sz_of (of_decide_eq_true c2), of_decide_eq_true c3, q⟩
      · cases h4
theorem xe_repr {X : Cx} {e : Expr} {fa : En → Option (List D × En)} (h : PE X e (tCB (rReprR X.K) (rdA X.K fa))) : PE X e (rdV X.K (xRepr fa)) := PEi h fun σ H Q ⟨s, e1, e2, ok, d, en', hf, q⟩ => by
  obtain ⟨⟨ds, en1⟩, k1, k2⟩ := Option.bind_eq_some_iff.mp hf
  obtain ⟨x, k3, k4⟩ := Option.bind_eq_some_iff.mp k2
  cases k4
  exact ⟨s, e1, e2, ok, ds, _, k1, fun vs t tσ te okt st rp => repr_run okt rp k3 (q _ t tσ te okt st rfl)⟩
theorem xu_repr {X : Cx} {u : Su} {e : Expr} {fa : En → Option (List D × En)} (h : PE X e (tCB (rReprR X.K) (rdAu X.K u fa))) : PE X e (rdVu X.K u (xRepr fa)) := PEi h fun σ H Q ⟨s, e1, e2, ok, ti, d, en', hf, q⟩ => by
  obtain ⟨⟨ds, en1⟩, k1, k2⟩ := Option.bind_eq_some_iff.mp hf
  obtain ⟨x, k3, k4⟩ := Option.bind_eq_some_iff.mp k2
  cases k4
  exact ⟨s, e1, e2, ok, ti, ds, _, k1, fun vs t tσ te okt st rp => repr_run okt rp k3 (q _ t tσ te okt st rfl)⟩
theorem passE {X : Cx} {E : XK} (tk : Takes X (wE E)) : Passes (L2.CX X.prog X.w) X E := passes_call tk fun _ _ _ _ h => h
theorem takesF {X : Cx} : Takes X wF := takes_none5
section
variable {P : Program} {w : World} {K : PySem.W.Frag} {mg : Str → Option Value} {base : Heap} {x qual : Str} {st : Stmt} {f : Addr} {fd : FuncData} {N ps : List Str} {k n : Nat} {b : En → Option Out}
end
section
variable {X : Cx} {CX : CXT} {pins : List (Addr × Obj)} {σ : L2.St} {H : Hp} {s : Shared} {C : Addr} {ps : List Str} {n j k : Nat} {sp : Sp} {E : XK} {W : WX}
end
end Ag
namespace Ag
open PySem PySem.Spec PyProof.Rows L2 Evl PySem.ErX
structure ErD (K : PySem.W.Frag) (c : Str) (fls : List Str) (file : Str) (d : DefV) : Prop where
  cls : ∃ nm q N bs bm sn sub ab col dd k0 k1 k2 k3 k5, K.lookup (He.ga K c) = some (excClassObj nm q (He.ga K c) N bs bm true sn sub ab col dd k0 k1 k2 k3 k5 "ValueError.__new__") ∧ PySem.HandSPX.refsVE bm = true
  sa : PySem.W.findIn K (.ref (He.ga K c)) "__setattr__" = some (some (.builtin "object.__setattr__"))
  ga : PySem.W.findIn K (.ref (He.ga K c)) "__getattribute__" = some (some (.builtin "BaseException.__getattribute__"))
  gg : PySem.W.findIn K (.ref (He.ga K c)) "__getattr__" = some none
  noN : ∀ f ∈ fls, PySem.W.findIn K (.ref (He.ga K c)) f = some none
  iC : PySem.W.findIn K (.ref (He.ga K c)) "__init__" = some (some (.ref (He.ma K (He.ga K c) "__init__")))
  tC : PySem.W.typeIn K (.ref (He.ma K (He.ga K c) "__init__")) = some (.type "function")
  kC : PySem.W.keepIn K (.ref (He.ga K c)) = true
  exC : PySem.W.subIn K (.ref (He.ga K c)) (.type "BaseException") = some true
  tyC : PySem.W.typeIn K (.ref (He.ga K c)) = some (.type "type")
  hdC : PySem.W.hasDictIn K (He.ga K c) = true
  te : PySem.W.exmOne K (.ref (He.ga K c)) (.ref (He.ga K c)) = some true
  sup : PySem.W.ks_superIn K (He.ga K c) (He.ga K c) "__init__" = some (some (.builtin "ValueError.__init__"))
  subV : PySem.W.subIn K (.ref (He.ga K c)) (.type "ValueError") = some true
  subC : PySem.W.mroIn K (He.ga K c) (.ref (He.ga K c)) = some true
  op : PySem.W.nsIn K PySem.cStatics "thirdparty.any" = some none
  gs : PySem.W.nsIn K mainGlobals "super" = some none
  gC : PySem.W.nsIn K mainGlobals c = some (some (.ref (He.ga K c)))
  fn : ∃ (oc : Value) (od : Option Addr) (doc pm : Value) (an : Option Addr) (cda : Addr) (ct : Value) (osl : Array (Option Value)) (cc : Addr) (ccl : Value) (cdd : Option Addr) (vs : Array Value) (ccs : Array (Option Value)) (tf : Tok) (cl : Value) (cld : Option Addr) (csl : Array (Option Value)),
    K.lookup (He.ma K (He.ga K c) "__init__") = some ⟨oc, od, .func (PySem.W.ksFn d.name d.qual d.params d.body d.scope .none .none doc pm an (.ref cda) ct cc), osl⟩ ∧ PySem.W.codeIn K (.ref cda) d.qual = true ∧
    K.lookup cda = some ⟨ccl, cdd, .fields vs, ccs⟩ ∧ vs[2]? = some (.str file tf) ∧ K.lookup cc = some ⟨cl, cld, .cell (some (.ref (He.ga K c))), csl⟩
theorem cls_of {K : PySem.W.Frag} {C : Addr} (h : (match K.lookup C with
    | some ⟨.type ty, _, .cls cd, sl⟩ => (match cd.mro, sl.toList with
      | .ref C' :: bm, [_, _, _, _, some (.builtin n), _] => decide (ty = "type") && (decide (C' = C) && (decide (n = "ValueError.__new__") && (cd.hasDict && (!cd.hasDel && PySem.HandSPX.refsVE bm))))
      | _, _ => false)
    | _ => false) = true) : ∃ nm q N bs bm sn sub ab col dd k0 k1 k2 k3 k5, K.lookup C = some (excClassObj nm q C N bs bm true sn sub ab col dd k0 k1 k2 k3 k5 "ValueError.__new__") ∧ PySem.HandSPX.refsVE bm = true := by
  split at h
  · rename_i ty dd cd sl ho
    split at h
    · rename_i C' bm k0 k1 k2 k3 n k5 hm hs
      obtain ⟨h1, h⟩ := He.ba h
      obtain ⟨h2, h⟩ := He.ba h
      obtain ⟨h3, h⟩ := He.ba h
      obtain ⟨h4, h⟩ := He.ba h
      obtain ⟨h5, h6⟩ := He.ba h
      cases of_decide_eq_true h1
      cases of_decide_eq_true h2
      cases of_decide_eq_true h3
      obtain ⟨nm, bs, mro, ns, qn, hd, sn, sb, ab, col, del⟩ := cd
      dsimp only at hm h4 h5
      subst hm
      subst h4
      have h5 : del = false := by simpa using h5
      subst h5
      have hsl : sl = #[k0, k1, k2, k3, some (.builtin "ValueError.__new__"), k5] := by rw [← hs]
      subst hsl
      exact ⟨nm, qn, ns, bs, bm, sn, sb, ab, col, dd, k0, k1, k2, k3, k5, ho, h6⟩
    · cases h
  · cases h
theorem SaysV.err {fa : List FaV} {fn : List DefV} {K : PySem.W.Frag} (c : SaysV fa fn K) (i : Nat) {d : DefV} {x file : Str} {fls : List Str} (h : fn[i]? = some d) (he : d.at_ = .e x fls file) : ErD K x fls file d := by
  obtain ⟨t, k⟩ := c.at_ i h
  unfold DefV.ok at k
  unfold fnW at t
  rw [he] at k t
  replace k : erB K x fls file d.qual = true := k
  unfold erB at k
  obtain ⟨k1, k⟩ := He.ba k
  obtain ⟨k2, k⟩ := He.ba k
  obtain ⟨k3, k⟩ := He.ba k
  obtain ⟨k4, k⟩ := He.ba k
  obtain ⟨k5, k⟩ := He.ba k
  obtain ⟨k6, k⟩ := He.ba k
  obtain ⟨k7, k⟩ := He.ba k
  obtain ⟨k8, k⟩ := He.ba k
  obtain ⟨k9, k⟩ := He.ba k
  obtain ⟨k10, k⟩ := He.ba k
  obtain ⟨k11, k⟩ := He.ba k
  obtain ⟨k12, k⟩ := He.ba k
  obtain ⟨k13, k⟩ := He.ba k
  obtain ⟨k14, k⟩ := He.ba k
  obtain ⟨k15, k⟩ := He.ba k
  obtain ⟨k16, k⟩ := He.ba k
  obtain ⟨k17, k⟩ := He.ba k
  obtain ⟨k18, k⟩ := He.ba k
  refine ⟨cls_of k1, He.eqO_ok k2, He.eqO_ok k3, He.eqO_ok k4, fun f hf => He.eqO_ok (List.all_eq_true.mp k5 f hf), He.eqO_ok k6, of_decide_eq_true k7, k8, of_decide_eq_true k9, of_decide_eq_true k10, k11, of_decide_eq_true k12, He.eqO_ok k13, of_decide_eq_true k14, of_decide_eq_true k15, He.eqO_ok k16, He.eqO_ok k17, He.eqO_ok k18, ?_⟩
  replace t : (match fnV K (He.ma K (He.ga K x) "__init__") with
    | some (n, q, p, b, s, g, _, l) => some (n, q, p, b, s, g, [], l)
    | none => none) = d.val := t
  unfold fnV at t
  cases q : K.lookup (He.ma K (He.ga K x) "__init__") with
  | none => rw [q] at k; cases k
  | some o =>
    obtain ⟨oc, od, dt, osl⟩ := o
    rw [q] at k t
    cases dt with
    | func fd =>
      obtain ⟨n1, n2, n3, n4, n5, n6, n7, n8, n9, n10, n11, n12, n13, n14, n15⟩ := fd
      have t2 : (some (n1, n2, n3, n4, n5, n6, ([] : List (Str × Addr)), n15) : He.FnW) = some (d.name, d.qual, d.params, .stmts d.body, d.scope, mainGlobals, [], builtinsNs) := t
      simp only [Option.some.injEq, Prod.mk.injEq] at t2
      obtain ⟨h1, h2, h3, h4, h5, h6, _, h8⟩ := t2
      subst h1 h2 h3 h4 h5 h6 h8
      obtain ⟨k19, k⟩ := He.ba k
      obtain ⟨k20, k⟩ := He.ba k
      obtain ⟨k21, k⟩ := He.ba k
      replace k20 : n8 = .none := of_decide_eq_true k20
      replace k21 : n9 = .none := of_decide_eq_true k21
      subst k20 k21
      dsimp only at k k19
      match n7, n13, k, k19 with
      | [(nm, cc)], .ref cda, k, k19 =>
        replace k : (decide (nm = "__class__") && ((match K.lookup cc with
          | some ⟨_, _, .cell (some (.ref C')), _⟩ => decide (C' = He.ga K x)
          | _ => false) && (match K.lookup cda with
          | some ⟨_, _, .fields vs, _⟩ => (match (vs.toList)[2]? with
            | some (Value.str fl _) => decide (fl = file)
            | _ => false)
          | _ => false))) = true := k
        obtain ⟨k22, k⟩ := He.ba k
        obtain ⟨k23, k24⟩ := He.ba k
        replace k22 : nm = "__class__" := of_decide_eq_true k22
        subst k22
        split at k23
        · rename_i cl cld C' csl hcc
          cases of_decide_eq_true k23
          split at k24
          · rename_i ccl cdd vs ccs hcd
            split at k24
            · rename_i fl tf hv
              cases of_decide_eq_true k24
              exact ⟨oc, od, n10, n11, n12, cda, n14, osl, cc, ccl, cdd, vs, ccs, tf, cl, cld, csl, rfl, k19, hcd, by rw [← Array.getElem?_toList]; exact hv, hcc⟩
            · cases k24
          · cases k24
        · cases k23
    | _ => cases k
section
variable {P : Program} {w : World} {K : PySem.W.Frag} {mg : Str → Option Value} {h : Heap} {c file : Str} {d : DefV}
theorem ErD.value (E : ErD K c ["value"] file d) (X : K.In h) (G : h.Ns mainGlobals mg) (hfile : ((P.main.file : Str) == file) = true) (htop : (P.main.scope.names.lookup ("super" : Str)).isSome = false)
    (t : String) (p1 p2 a b c' d' e f g i j k : Pos) (hn : d.name = "__init__") (hp : d.params = PySem.Er_value.iA p1 p2) (hb : d.body = PySem.Er_value.iB t a b c' d' e f g i j k) (hs : d.scope = PySem.Er_value.iS) (hl : (c'.endLine == e.line) = true) : ErrL P w K mg c (He.ga K c) ["value"] := by
  obtain ⟨oc, od, doc, pm, an, cda, ct, osl, cc, ccl, cdd, vs, ccs, tf, cl, cld, csl, f1, f2, f3, f4, f5⟩ := E.fn
  rw [hn, hp, hb, hs] at f1
  exact .one (PySem.Er_value.err (fI := He.ma K (He.ga K c) "__init__") { gC := PySem.W.mg_of X G E.gC, cls := E.cls, sa := E.sa, ga := E.ga, gg := E.gg, noN := E.noN _ (by simp), iC := E.iC, tC := E.tC, kC := E.kC, exC := E.exC, tyC := E.tyC, hdC := E.hdC, te := E.te, sup := E.sup, subV := E.subV, subC := E.subC, op := E.op, gs := PySem.W.mg_none_of X G E.gs, fn := ⟨_, _, _, _, _, _, _, _, _, _, _, _, _, _, _, _, _, _, _, _, _, _, _, _, _, _, _, _, _, _, _, _, f1, f2, f3, f4, hfile, f5, hl⟩, «top» := htop })
end
end Ag
namespace Ag
open PySem PySem.Spec PyProof.Rows L2 Evl
section
variable {prog : Program} {w : World} {κ : Type} [DecidableEq κ] {knd : KeyKind prog w κ} {A : Around} {E : Value → Shared → Prop} {s : Shared}
end
section
variable {prog : Program} {w : World} {A : Around} {E : Value → Shared → Prop} {s : Shared}
end
section
variable {prog : Program} {w : World} {A : Around} {E : Value → Shared → Prop} {s : Shared}
end
section
variable {prog : Program} {w : World} {A : Around} {E : Value → Shared → Prop} {s : Shared}
end
section
variable {prog : Program} {w : World} {A : Around} {E : Value → Shared → Prop} {s : Shared}
end
section
variable {M : Model} {A : Around} {E : Value → Shared → Prop} {s : Shared} {f : Value} {first : List Value} {pos : Pos} {Q : Value → Shared → Prop}
end
section
variable {X : Cx} {CX : CXT} {k n : Nat} {f C : Addr} {fd : FuncData} {ps ks : List Str} {sp : Sp} {E : XK} {x : Str} {p pos : Pos} {e : Expr} {kws : List Keyword} {te : TE} {g : List Value → List Value → List Value} {gV : List V → List V → List V}
end
section
variable {prog : Program} {w : World} {A : Around} {E : Value → Shared → Prop} {s : Shared}
end
section
variable {prog : Program} {w : World} {A : Around} {E : Value → Shared → Prop} {s : Shared}
end
def FnKw (P : Program) (w : World) (K : PySem.W.Frag) (mg : Str → Option Value) (base : Heap) (CX : CXT) (k : Nat) (f : Addr) (self : Str) (sp : Sp) : Prop :=
  ∀ (A : Around) (outer : List Env) (s : Shared) (H : Hp) (u : Value) (ws : List Value) (v : V) (zs : List V) (ks : List Str) (Q : VK) (E : XK), Room k A → Env0 P w K mg base A outer s H → RelV v u → Vals zs ws → zs.length = ks.length → self ∉ ks → ks.Nodup → ks.length ≤ 1000 →
    (∀ p, H p = none → sp [v, .ref p] (upd H p (.dK ((ks.map Sum.inr).zip zs))) Q E) → codeAny (model P w) A (.call (.ref f) ⟨[u], ks.zip ws⟩) (CR CX outer P w H s Q E) s
section
variable {CX : CXT} {P : Program} {w : World} {K : PySem.W.Frag} {mg : Str → Option Value} {base : Heap} {k : Nat} {f : Addr} {name qual : Str} {params : Arguments} {body : List Stmt} {scope : Scope} {kV doc pm cdv ct oc : Value} {an od : Option Addr}
  {osl : Array (Option Value)} {N : List Str} {sp : Sp} {a b : Arg}
theorem FnKw.imp {self : Str} {sp' : Sp} (F : FnKw P w K mg base CX k f self sp) (h : ∀ vs H Q E, sp' vs H Q E → sp vs H Q E) : FnKw P w K mg base CX k f self sp' :=
  fun A outer s H u ws v zs ks Q E hr e0 rv rz hl hs nd hz hq => F A outer s H u ws v zs ks Q E hr e0 rv rz hl hs nd hz fun p hp => h _ _ _ _ (hq p hp)
theorem FnKw.mono {self : Str} {j : Nat} (F : FnKw P w K mg base CX k f self sp) (h : k ≤ j) : FnKw P w K mg base CX j f self sp :=
  fun A outer s H u ws v zs ks Q E hr => F A outer s H u ws v zs ks Q E (hr.mono h)
end
section
variable {X : Cx} {CX : CXT} {k j : Nat} {f C : Addr} {ks : List Str} {sp : Sp} {E : XK} {m self : Str} {o : Expr} {kws : List Keyword} {te : TE} {tk : TA} {apos pos : Pos}
end
section
variable {P : Program} {w : World} {K : PySem.W.Frag} {mg : Str → Option Value} {base : Heap} {x qual : Str} {st : Stmt} {f : Addr} {fd : FuncData} {N : List Str} {k n : Nat} {b : En → Option Out} {pa pb : Arg} {kws : List (Str × V)}
end
section
variable {X : Cx} {e : Expr} {n : Nat} {F : FnT} {f : En → Option (D × En)} {fa : En → Option (List D × En)} {E : XK} {m c : Str} {ks : List Str}
end
class Kont (α β : Type) where
  run : α → Option β
def bnd {α β : Type} (a : Option α) [k : Kont α β] : Option β := a.bind k.run
theorem bnd_some {α β : Type} (x : α) (k : Kont α β) : @bnd α β (some x) k = k.run x := rfl
theorem bnd_none {α β : Type} (k : Kont α β) : @bnd α β none k = none := rfl
theorem xKl_e (m : List Bool) (f : En → Option Out) (e : En) : xKl m f e = @bnd _ _ (f e) ⟨fun o => some (killO m o)⟩ := rfl
theorem xKb_e (m : List Bool) (f : En → Option Out) (e : En) : xKb m f e = @bnd _ _ (f e) ⟨fun o => some (killB m o)⟩ := rfl
theorem xeNo_e {α : Type} (e : En) : (xeNo e : Option (α × En)) = none := rfl
theorem mkO_e (r : Option (Sl × En)) (e : En) : mkO r e = @bnd _ _ r ⟨fun r => match r with
  | (.va .non, .pw o :: _) => some (.ow o, e)
  | _ => none⟩ := rfl
theorem xAllL_n : xAllL [] = xNil := rfl
theorem xAllL_c (f : En → Option (D × En)) (fs : List (En → Option (D × En))) : xAllL (f :: fs) = xCons f (xAllL fs) := rfl
theorem xFz_e (f : En → Option (Sl × En)) (e : En) : xFz f e = ((@bnd _ _ ((f e)) ⟨fun p => (@bnd _ _ (p.1.fz) ⟨fun d => some (d, p.2)⟩)⟩)) := rfl
theorem xUp_e (f : En → Option (D × En)) (e : En) : xUp f e = ((@bnd _ _ ((f e)) ⟨fun p => some (.va p.1, p.2)⟩)) := rfl
theorem xC_e (d : D) (e : En) : xC d e = (some (d, e)) := rfl
theorem xNil_e  (e : En) : xNil  e = (some ([], e)) := rfl
theorem xCons_e (f : En → Option (D × En)) (g : En → Option (List D × En)) (e : En) : xCons f g e = ((@bnd _ _ ((f e)) ⟨fun p => (@bnd _ _ ((g p.2)) ⟨fun q => some (p.1 :: q.1, q.2)⟩)⟩)) := rfl
theorem xPr_e (g : List D → Option Sl) (f : En → Option (List D × En)) (e : En) : xPr g f e = ((@bnd _ _ ((f e)) ⟨fun p => (@bnd _ _ ((g p.1)) ⟨fun x => some (x, p.2)⟩)⟩)) := rfl
theorem xB_e (f : En → Option (D × En)) (e : En) : xB f e = ((@bnd _ _ ((f e)) ⟨fun p => match p.1 with
  | .bl b => some (b, p.2)
  | _ => none⟩)) := rfl
theorem xAnd_e (f g : En → Option (Bool × En)) (e : En) : xAnd f g e = ((@bnd _ _ ((f e)) ⟨fun p => if p.1 = true then g p.2 else some (false, p.2)⟩)) := rfl
theorem xOr_e (f g : En → Option (Bool × En)) (e : En) : xOr f g e = ((@bnd _ _ ((f e)) ⟨fun p => if p.1 = true then some (true, p.2) else g p.2⟩)) := rfl
theorem xNot_e (f : En → Option (Bool × En)) (e : En) : xNot f e = ((@bnd _ _ ((f e)) ⟨fun p => some (!p.1, p.2)⟩)) := rfl
theorem xOfB_e (f : En → Option (Bool × En)) (e : En) : xOfB f e = ((@bnd _ _ ((f e)) ⟨fun p => some (.bl p.1, p.2)⟩)) := rfl
theorem xIfE_e (c : En → Option (Bool × En)) (f g : En → Option (Sl × En)) (e : En) : xIfE c f g e = ((@bnd _ _ ((c e)) ⟨fun p => if p.1 = true then f p.2 else g p.2⟩)) := rfl
theorem xYes_e  (e : En) : xYes  e = (some (true, e)) := rfl
theorem xSet_e (i : Nat) (f : En → Option (Sl × En)) (e : En) : xSet i f e = ((@bnd _ _ ((f e)) ⟨fun p => (@bnd _ _ ((putS p.2 i p.1)) ⟨fun e1 => some (.nx e1)⟩)⟩)) := rfl
theorem xDrop_e (f : En → Option (Sl × En)) (e : En) : xDrop f e = ((@bnd _ _ ((f e)) ⟨fun p => some (.nx p.2)⟩)) := rfl
theorem xRet_e (f : En → Option (Sl × En)) (e : En) : xRet f e = ((@bnd _ _ ((f e)) ⟨fun p => some (.rt p.1 p.2)⟩)) := rfl
theorem xRetN_e  (e : En) : xRetN  e = (some (.rt (.va .non) e)) := rfl
theorem xRetV_e (i : Nat) (e : En) : xRetV i e = (match e[i]? with
  | some (.va d) => some (.rt (.va d) e)
  | some (.ow o) => some (.rt (.ow o) (e.set i .no))
  | _ => none) := rfl
theorem xNx_e  (e : En) : xNx  e = (some (.nx e)) := rfl
theorem xBk_e  (e : En) : xBk  e = (some (.bk e)) := rfl
theorem xCt_e  (e : En) : xCt  e = (some (.ct e)) := rfl
theorem xNever_e  (e : En) : xNever  e = (none) := rfl
theorem xIf_e (c : En → Option (Bool × En)) (f g : En → Option Out) (e : En) : xIf c f g e = ((@bnd _ _ ((c e)) ⟨fun p => if p.1 = true then f p.2 else g p.2⟩)) := rfl
theorem xSeq_e (f g : En → Option Out) (e : En) : xSeq f g e = ((@bnd _ _ ((f e)) ⟨fun o => match o with
  | .nx e1 => g e1
  | o => some o⟩)) := rfl
theorem gNm_e (i : Nat) (d : D) (e : En) : gNm i d e = (putS e i (.va d)) := rfl
theorem gTp_e (n : Nat) (g : List D → En → Option En) (d : D) (e : En) : gTp n g d e = (match d with
  | .tup _ ds => if ds.length = n then g ds e else none
  | _ => none) := rfl
theorem gsNil_e  (ds : List D) (e : En) : gsNil  ds e = (match ds with
  | [] => some e
  | _ => none) := rfl
theorem gsCons_e (g : D → En → Option En) (h : List D → En → Option En) (ds : List D) (e : En) : gsCons g h ds e = (match ds with
  | d :: r => (@bnd _ _ ((g d e)) ⟨fun e1 => h r e1⟩)
  | [] => none) := rfl
theorem xAsg_e (f : En → Option (D × En)) (g : D → En → Option En) (e : En) : xAsg f g e = ((@bnd _ _ ((f e)) ⟨fun p => (@bnd _ _ ((g p.1 p.2)) ⟨fun e1 => some (.nx e1)⟩)⟩)) := rfl
theorem xPar_e (i j : Nat) (f : En → Option (List D × En)) (e : En) : xPar i j f e = ((@bnd _ _ ((f e)) ⟨fun p => match p.1 with
  | [x, y] => (@bnd _ _ ((putS p.2 i (.va x))) ⟨fun e1 => (@bnd _ _ ((putS e1 j (.va y))) ⟨fun e2 => some (.nx e2)⟩)⟩)
  | _ => none⟩)) := rfl
theorem xFor_e (f : En → Option (List D × En)) (g : D → En → Option En) (b : En → Option Out) (e : En) : xFor f g b e = ((@bnd _ _ ((f e)) ⟨fun p => loopM g b p.1 p.2⟩)) := rfl
theorem xItL_e (f : En → Option (D × En)) (e : En) : xItL f e = ((@bnd _ _ ((f e)) ⟨fun p => match p.1 with
  | .lst ds => some (ds, p.2)
  | _ => none⟩)) := rfl
theorem xItT_e (f : En → Option (D × En)) (e : En) : xItT f e = ((@bnd _ _ ((f e)) ⟨fun p => match p.1 with
  | .tup _ ds => some (ds, p.2)
  | _ => none⟩)) := rfl
theorem xItR1_e (f : En → Option (List D × En)) (e : En) : xItR1 f e = ((@bnd _ _ ((f e)) ⟨fun p => match p.1 with
  | [.int j] => if small62 j = true then some (rngD 0 j.toNat, p.2) else none
  | _ => none⟩)) := rfl
theorem xItR2_e (f : En → Option (List D × En)) (e : En) : xItR2 f e = ((@bnd _ _ ((f e)) ⟨fun p => match p.1 with
  | [.int i, .int j] => if (small62 i && small62 j) = true then some (rngD i (j - i).toNat, p.2) else none
  | _ => none⟩)) := rfl
theorem gPutD_e (c : Str) (i : Nat) (fo : Option Str) (g : En → Option D) (d : D) (e : En) : gPutD c i fo g d e = (@bnd _ _ (leafAt c e i fo) ⟨fun o => if isLst o = true then none else (@bnd _ _ (g e) ⟨fun k => (@bnd _ _ (putO o k d) ⟨fun o' => some (setLeaf e i o' fo)⟩)⟩)⟩) := rfl
theorem xItEt_e (f : En → Option (List D × En)) (e : En) : xItEt f e = ((@bnd _ _ ((f e)) ⟨fun p => match p.1 with
  | [.tup _ ds] => some (enumD ds, p.2)
  | _ => none⟩)) := rfl
theorem xItE_e (f : En → Option (List D × En)) (e : En) : xItE f e = ((@bnd _ _ ((f e)) ⟨fun p => match p.1 with
  | [.lst ds] => some (enumD ds, p.2)
  | _ => none⟩)) := rfl
theorem fnM_e (n : Nat) (b : En → Option Out) (as : En) : fnM n b as = ((@bnd _ _ ((b (as ++ List.replicate n .no))) ⟨fun o => match o with
  | .rt r e => some (r, pinned as e)
  | .nx e => some (.va .non, pinned as e)
  | _ => none⟩)) := rfl
theorem xCall_e (n : Nat) (F : FnT) (fa : En → Option (List D × En)) (e : En) : xCall n F fa e = ((@bnd _ _ ((fa e)) ⟨fun p => if p.1.length = n then (@bnd _ _ ((F (p.1.map .va))) ⟨fun r => some (r.1, p.2)⟩) else none⟩)) := rfl
theorem xMt_e (c m : Str) (n : Nat) (F : FnT) (f : En → Option (D × En)) (fa : En → Option (List D × En)) (e : En) : xMt c m n F f fa e = ((@bnd _ _ ((f e)) ⟨fun p => match p.1 with
  | .obj c' ns ds => if c' = c ∧ m ∉ ns then (@bnd _ _ ((fa p.2)) ⟨fun q => if q.1.length + 1 = n then (@bnd _ _ ((F (.va (.obj c' ns ds) :: q.1.map .va))) ⟨fun r => some (r.1, q.2)⟩) else none⟩) else none
  | _ => none⟩)) := rfl
theorem xPrp_e (c : Str) (F : FnT) (f : En → Option (D × En)) (e : En) : xPrp c F f e = ((@bnd _ _ ((f e)) ⟨fun p => match p.1 with
  | .obj c' ns ds => if c' = c then (@bnd _ _ ((F [.va (.obj c' ns ds)])) ⟨fun r => some (r.1, p.2)⟩) else none
  | _ => none⟩)) := rfl
theorem xFld_e (c f : Str) (g : En → Option (D × En)) (e : En) : xFld c f g e = ((@bnd _ _ ((g e)) ⟨fun p => match p.1 with
  | .obj c' ns ds => if c' = c then (@bnd _ _ ((fldD ns ds f)) ⟨fun d => some (d, p.2)⟩) else none
  | _ => none⟩)) := rfl
theorem xBor_e (f : En → Option (Sl × En)) (e : En) : xBor f e = ((@bnd _ _ ((f (viewE e))) ⟨fun p => if (!(e.any Sl.own) || p.1.leaf) = true then some (p.1, e) else none⟩)) := rfl
theorem xBorV_e (f : En → Option (D × En)) (e : En) : xBorV f e = ((@bnd _ _ ((f (viewE e))) ⟨fun p => if (!(e.any Sl.own) || p.1.flat) = true then some (p.1, e) else none⟩)) := rfl
theorem xBorT_e (f : En → Option (Bool × En)) (e : En) : xBorT f e = ((@bnd _ _ ((f (viewE e))) ⟨fun p => some (p.1, e)⟩)) := rfl
theorem xCallM_e (n i : Nat) (F : FnT) (fa : En → Option (List D × En)) (e : En) : xCallM n i F fa e = ((@bnd _ _ ((ownAt e i)) ⟨fun _ => (@bnd _ _ ((fa e)) ⟨fun p => if p.1.length + 1 = n then (@bnd _ _ ((ownAt p.2 i)) ⟨fun o => (@bnd _ _ ((F (.pw o :: p.1.map .va))) ⟨fun r => (match r.2 with
  | .pw o' :: _ => some (r.1, reAt p.2 i o')
  | _ => none)⟩)⟩) else none⟩)⟩)) := rfl
theorem xMtM_e (c m : Str) (n i : Nat) (F : FnT) (fa : En → Option (List D × En)) (e : En) : xMtM c m n i F fa e = (match ownAt e i with
  | some (.obj c' ns _) => if c' = c ∧ m ∉ ns then (@bnd _ _ ((fa e)) ⟨fun p => if p.1.length + 1 = n then (@bnd _ _ ((ownAt p.2 i)) ⟨fun o => (@bnd _ _ ((F (.pw o :: p.1.map .va))) ⟨fun r => (match r.2 with
    | .pw o' :: _ => some (r.1, reAt p.2 i o')
    | _ => none)⟩)⟩) else none⟩) else none
  | _ => none) := rfl
theorem xMk_e (c : Str) (n : Nat) (F : FnT) (fa : En → Option (List D × En)) (e : En) : xMk c n F fa e = ((@bnd _ _ ((fa e)) ⟨fun p => if p.1.length + 1 = n then (@bnd _ _ ((F (.pw (.obj c [] []) :: p.1.map .va))) ⟨fun r => (match r with
  | (.va .non, .pw o :: _) => some (.ow o, p.2)
  | _ => none)⟩) else none⟩)) := rfl
theorem qVar_e (i : Nat) (e : En) : qVar i e = (match e[i]? with
  | some (.va d) => some d
  | _ => none) := rfl
theorem qC_e (d : D) (e : En) : qC d e = (some d) := rfl
theorem xIxP_e (c : Str) (i : Nat) (fo : Option Str) (g : En → Option D) (e : En) : xIxP c i fo g e = ((@bnd _ _ ((leafAt c e i fo)) ⟨fun o => (@bnd _ _ ((g e)) ⟨fun k => (@bnd _ _ ((getO o k)) ⟨fun d => some (d, e)⟩)⟩)⟩)) := rfl
theorem xPutP_e (lst : Bool) (c : Str) (i : Nat) (fo : Option Str) (g : En → Option D) (f : En → Option (D × En)) (e : En) : xPutP lst c i fo g f e = ((@bnd _ _ ((f e)) ⟨fun p => (@bnd _ _ ((leafAt c p.2 i fo)) ⟨fun o => if isLst o = lst then (@bnd _ _ ((g p.2)) ⟨fun k => (@bnd _ _ ((putO o k p.1)) ⟨fun o' => some (.nx (setLeaf p.2 i o' fo))⟩)⟩) else none⟩)⟩)) := rfl
theorem xInP_e (neg : Bool) (c : Str) (i : Nat) (fo : Option Str) (f : En → Option (D × En)) (e : En) : xInP neg c i fo f e = ((@bnd _ _ ((f e)) ⟨fun p => (@bnd _ _ ((leafAt c p.2 i fo)) ⟨fun o => (@bnd _ _ ((hasO o p.1)) ⟨fun b => some (if neg then !b else b, p.2)⟩)⟩)⟩)) := rfl
theorem xApp_e (i : Nat) (f : En → Option (D × En)) (e : En) : xApp i f e = ((@bnd _ _ ((leafAt Str.empty e i none)) ⟨fun o0 => if isLst o0 = true then (@bnd _ _ ((f e)) ⟨fun p => (match leafAt Str.empty p.2 i none with
  | some (.lst ds) => if ds.length < 100000 then some (.va .non, setLeaf p.2 i (.lst (ds ++ [p.1])) none) else none
  | _ => none)⟩) else none⟩)) := rfl
theorem xExt_e (i : Nat) (f : En → Option (D × En)) (e : En) : xExt i f e = ((@bnd _ _ ((leafAt Str.empty e i none)) ⟨fun o0 => if isLst o0 = true then (@bnd _ _ ((f e)) ⟨fun p => (match leafAt Str.empty p.2 i none, p.1 with
  | some (.lst ds), .lst es => if ds.length + es.length < 100000 then some (.va .non, setLeaf p.2 i (.lst (ds ++ es)) none) else none
  | _, _ => none)⟩) else none⟩)) := rfl
theorem xFldS_e (c : Str) (i : Nat) (fn : Str) (e : En) : xFldS c i fn e = (match e[i]? with
  | some (.va (.obj c' ns ds)) => if c' = c then (@bnd _ _ ((fldD ns ds fn)) ⟨fun d => some (d, e)⟩) else none
  | some (.ow (.obj c' ns vs)) => if c' = c then (match fvAt ns vs fn with
    | some (.va d) => some (d, e)
    | _ => none) else none
  | some (.pw (.obj c' ns vs)) => if c' = c then (match fvAt ns vs fn with
    | some (.va d) => some (d, e)
    | _ => none) else none
  | _ => none) := rfl
theorem xFS_e (c : Str) (i : Nat) (fn : Str) (f : En → Option (Sl × En)) (e : En) : xFS c i fn f e = ((@bnd _ _ ((f e)) ⟨fun p => (@bnd _ _ ((toFv p.1)) ⟨fun w => (match ownAt p.2 i with
  | some (.obj c' ns vs) => if c' = c ∧ ns.length < 1000 then some (.nx (reAt p.2 i (.obj c' (nmPut ns fn) (fvPut ns vs fn w)))) else none
  | _ => none)⟩)⟩)) := rfl
theorem xLc_e (vs : List Nat) (it : En → Option (List D × En)) (g : D → En → Option En) (c : En → Option (Bool × En)) (f : En → Option (D × En)) (e : En) : xLc vs it g c f e = ((@bnd _ _ ((it e)) ⟨fun p => if (vs.all (freeS p.2) && decide (p.1.length < 100000)) = true then (@bnd _ _ ((lcM vs g c f p.1 (wipeE p.2 vs))) ⟨fun r => some (.ow (.o1 (.lst r.1)), r.2)⟩) else none⟩)) := rfl
theorem xSl_e (p : D → Option Int → Option Int → Option Sl) (f : En → Option (D × En)) (lo hi : Option (En → Option (D × En))) (e : En) : xSl p f lo hi e = ((@bnd _ _ ((f e)) ⟨fun x => (@bnd _ _ ((xO lo x.2)) ⟨fun y => (@bnd _ _ ((xO hi y.2)) ⟨fun z => (@bnd _ _ ((p x.1 y.1 z.1)) ⟨fun r => some (r, z.2)⟩)⟩)⟩)⟩)) := rfl
theorem xStar_e (f : En → Option (D × En)) (g : En → Option (List D × En)) (e : En) : xStar f g e = ((@bnd _ _ ((f e)) ⟨fun p => (@bnd _ _ ((match p.1 with
  | .tup _ ds => some ds
  | .lst ds => some ds
  | _ => none)) ⟨fun ds => (@bnd _ _ ((g p.2)) ⟨fun q => some (ds ++ q.1, q.2)⟩)⟩)⟩)) := rfl
theorem xIsi_e (cls : List Str) (sub : Str → Str → Bool) (T : Ct) (f : En → Option (D × En)) (e : En) : xIsi cls sub T f e = ((@bnd _ _ ((f e)) ⟨fun p => (@bnd _ _ ((isD cls sub p.1 T)) ⟨fun b => some (.bl b, p.2)⟩)⟩)) := rfl
theorem xIsi2_e (cls : List Str) (sub : Str → Str → Bool) (T U : Ct) (f : En → Option (D × En)) (e : En) : xIsi2 cls sub T U f e = ((@bnd _ _ ((f e)) ⟨fun p => (@bnd _ _ ((isD cls sub p.1 T)) ⟨fun b => (@bnd _ _ ((isD cls sub p.1 U)) ⟨fun c => some (.bl (b || c), p.2)⟩)⟩)⟩)) := rfl
theorem xO2_e (c : Str) (F : FnT) (f g : En → Option (D × En)) (e : En) : xO2 c F f g e = ((@bnd _ _ ((f e)) ⟨fun p => (@bnd _ _ ((g p.2)) ⟨fun q => match p.1 with
  | .obj c' ns ds => if c' = c then (@bnd _ _ ((F [.va (.obj c' ns ds), .va q.1])) ⟨fun r => some (r.1, q.2)⟩) else none
  | _ => none⟩)⟩)) := rfl
theorem xLenO_e (c : Str) (F : FnT) (f : En → Option (D × En)) (e : En) : xLenO c F f e = ((@bnd _ _ ((f e)) ⟨fun p => match p.1 with
  | .obj c' ns ds => if c' = c then (@bnd _ _ ((F [.va (.obj c' ns ds)])) ⟨fun r => (match r.1 with
    | .va (.int n) => if (decide (0 ≤ n) && decide (n < 2 ^ 60)) = true then some (.int n, p.2) else none
    | _ => none)⟩) else none
  | _ => none⟩)) := rfl
theorem xEqO_e (c : Str) (F : FnT) (neg : Bool) (f g : En → Option (D × En)) (e : En) : xEqO c F neg f g e = ((@bnd _ _ ((f e)) ⟨fun p => (@bnd _ _ ((g p.2)) ⟨fun q => match p.1, q.1 with
  | .obj c' ns ds, .obj c'' ms es => if c' = c ∧ c'' = c then (@bnd _ _ ((F [.va (.obj c' ns ds), .va (.obj c'' ms es)])) ⟨fun r => (match r.1 with
    | .va (.bl b) => some (if neg then !b else b, q.2)
    | _ => none)⟩) else none
  | _, _ => none⟩)⟩)) := rfl
theorem xDict0_e  (e : En) : xDict0  e = (some (.ow (.o1 (.dct [] [])), e)) := rfl
theorem xAndV_e (f g : En → Option (D × En)) (e : En) : xAndV f g e = ((@bnd _ _ ((xB f e)) ⟨fun p => if p.1 = true then g p.2 else some (.bl false, p.2)⟩)) := rfl
theorem xOrV_e (f g : En → Option (D × En)) (e : En) : xOrV f g e = ((@bnd _ _ ((xB f e)) ⟨fun p => if p.1 = true then some (.bl true, p.2) else g p.2⟩)) := rfl
theorem xMtT_e (c m : Str) (n : Nat) (F : FnT) (f : En → Option (Sl × En)) (fa : En → Option (List D × En)) (e : En) : xMtT c m n F f fa e = ((@bnd _ _ ((f e)) ⟨fun p => match p.1 with
  | .ow (.obj c' ns vs) => if c' = c ∧ m ∉ ns then (@bnd _ _ ((fa p.2)) ⟨fun q => if q.1.length + 1 = n then (@bnd _ _ ((F (.pw (.obj c' ns vs) :: q.1.map .va))) ⟨fun r => some (r.1, q.2)⟩) else none⟩) else none
  | _ => none⟩)) := rfl
theorem xFnT2_e (F : FnT) (f1 f2 : En → Option (D × En)) (f : En → Option (Sl × En)) (e : En) : xFnT2 F f1 f2 f e = ((@bnd _ _ ((f1 e)) ⟨fun p1 => (@bnd _ _ ((f2 p1.2)) ⟨fun p2 => (@bnd _ _ ((f p2.2)) ⟨fun p => match p.1 with
  | .ow o => (@bnd _ _ ((F [.va p1.1, .va p2.1, .pw o])) ⟨fun r => some (r.1, p.2)⟩)
  | _ => none⟩)⟩)⟩)) := rfl
theorem xDict0T_e  (e : En) : xDict0T  e = (some (.ow (.o1 (.dcT [] [])), e)) := rfl
theorem xDisp_e (ks : List Str) (fs : List (En → Option (D × En))) (e : En) : xDisp ks fs e = ((@bnd _ _ ((xAllL fs e)) ⟨fun p => if (decide (p.1.length = ks.length) && (decide (ks.length ≤ 15) && nodupS ks)) = true then some (.ow (.o1 (.dct (ks.map Sum.inr) p.1)), p.2) else none⟩)) := rfl
theorem xGet2_e (f g h : En → Option (D × En)) (e : En) : xGet2 f g h e = ((@bnd _ _ ((f e)) ⟨fun p => (@bnd _ _ ((g p.2)) ⟨fun k => (@bnd _ _ ((h k.2)) ⟨fun z => match p.1 with
  | .dct ks ds => (@bnd _ _ (k.1.key) ⟨fun kk => if dHas ks kk = true then (@bnd _ _ ((dGet ks ds kk)) ⟨fun d => some (d, z.2)⟩) else some (z.1, z.2)⟩)
  | _ => none⟩)⟩)⟩)) := rfl
theorem xMkR_e (c : Str) (F : FnT) (fa : En → Option (List D × En)) (e : En) : xMkR c F fa e = ((@bnd _ _ ((fa e)) ⟨fun p => if p.1.length ≤ 100000 then mkO (F [.pw (.obj c [] []), .va (.tup false p.1)]) p.2 else none⟩)) := rfl
theorem xMkS_e (c : Str) (F : FnT) (f : En → Option (D × En)) (e : En) : xMkS c F f e = ((@bnd _ _ ((f e)) ⟨fun p => match p.1 with
  | .lst ds => if ds.length ≤ 100000 then mkO (F [.pw (.obj c [] []), .va (.tup false ds)]) p.2 else none
  | .tup _ ds => if ds.length ≤ 100000 then mkO (F [.pw (.obj c [] []), .va (.tup false ds)]) p.2 else none
  | _ => none⟩)) := rfl
theorem xMkK_e (c : Str) (m : Nat) (F : FnT) (gD : List D → List D) (fa : En → Option (List D × En)) (e : En) : xMkK c m F gD fa e = ((@bnd _ _ ((fa e)) ⟨fun p => if p.1.length = m then mkO (F (.pw (.obj c [] []) :: (gD p.1).map .va)) p.2 else none⟩)) := rfl
theorem xDUp_e (i : Nat) (f : En → Option (D × En)) (e : En) : xDUp i f e = ((@bnd _ _ ((leafAt Str.empty e i none)) ⟨fun o0 => (@bnd _ _ ((f e)) ⟨fun p => (@bnd _ _ ((leafAt Str.empty p.2 i none)) ⟨fun o => match o0, o, p.1 with
  | .dct _ _, .dct ks ds, .dct js es => if ks.length + js.length < 100000 then some (.va .non, setLeaf p.2 i (.dct (mgK ks js) (mgD ks ds js es)) none) else none
  | _, _, _ => none⟩)⟩)⟩)) := rfl
theorem xMv_e (i : Nat) (e : En) : xMv i e = (match e[i]? with
  | some (.va d) => some (.va d, e)
  | some (.ow o) => some (.ow o, e.set i .no)
  | _ => none) := rfl
theorem xItK_e (i : Nat) (e : En) : xItK i e = (match e[i]? with
  | some (.va (.dct ks _)) => some (ks.map kyD, e)
  | _ => none) := rfl
theorem xItI_e (i : Nat) (e : En) : xItI i e = (match e[i]? with
  | some (.va (.dct ks ds)) => some ((ks.zip ds).map fun p => .tup false [kyD p.1, p.2], e)
  | _ => none) := rfl
section
variable (i j : Int)
theorem pAdd_e : pAdd [.int i, .int j] = some (.va (.int (i + j))) := rfl
theorem pSub_e : pSub [.int i, .int j] = some (.va (.int (i - j))) := rfl
theorem pLt_e : pLt [.int i, .int j] = some (.va (.bl (decide (i < j)))) := rfl
theorem pLe_e : pLe [.int i, .int j] = some (.va (.bl (decide (i ≤ j)))) := rfl
theorem pGt_e : pGt [.int i, .int j] = some (.va (.bl (decide (j < i)))) := rfl
theorem pGe_e : pGe [.int i, .int j] = some (.va (.bl (decide (j ≤ i)))) := rfl
theorem pNeg_e : pNeg [.int i] = some (.va (.int (-i))) := rfl
theorem pMul_e : pMul [.int i, .int j] = if i.natAbs.log2 + j.natAbs.log2 < 1000000 then some (.va (.int (i * j))) else none := by
  show (if cMul i j = true then _ else _) = _
  unfold cMul
  by_cases h : i.natAbs.log2 + j.natAbs.log2 < 1000000 <;> simp [h]
theorem pDiv_e : pDiv [.int i, .int j] = if 0 < j ∧ j.natAbs.log2 < 9000 then some (.va (.int (i / j))) else none := by
  show (if cDiv i j = true then _ else _) = _
  unfold cDiv
  by_cases h : 0 < j <;> by_cases h2 : j.natAbs.log2 < 9000 <;> simp [h, h2]
theorem pMod_e : pMod [.int i, .int j] = if 0 < j then some (.va (.int (i % j))) else none := by
  show (if cPos i j = true then _ else _) = _
  unfold cPos
  by_cases h : 0 < j <;> simp [h]
theorem pPow_e : pPow [.int i, .int j] = if 0 ≤ j ∧ j ≤ 1000000 ∧ i.natAbs < 2 ^ 64 then some (.va (.int (i ^ j.toNat))) else none := by
  show (if cPow i j = true then _ else _) = _
  unfold cPow
  by_cases h : 0 ≤ j <;> by_cases h2 : j ≤ 1000000 <;> by_cases h3 : i.natAbs < 2 ^ 64 <;> simp [h, h2, h3]
theorem pAbs_e : pAbs [.int i] = some (.va (.int (if i < 0 then -i else i))) := rfl
theorem pInt_e : pInt [.int i] = some (.va (.int i)) := rfl
theorem pMax2_e : pMax2 [.int i, .int j] = some (.va (.int (if j > i then j else i))) := rfl
theorem pMin2_e : pMin2 [.int i, .int j] = some (.va (.int (if j < i then j else i))) := rfl
end
theorem pLenL_e (ds : List D) : pLen [.lst ds] = some (.va (.int ds.length)) := rfl
theorem pLenS_e (ds : List Int) : pLen [.scr ds] = some (.va (.int ds.length)) := rfl
theorem pLenT_e (k : Bool) (ds : List D) : pLen [.tup k ds] = some (.va (.int ds.length)) := rfl
theorem pIxL_e (ds : List D) (i : Int) : pIxL [.lst ds, .int i] = (@bnd _ _ ((atI ds i)) ⟨fun d => some (.va d)⟩) := rfl
theorem pIxS_e (ds : List Int) (i : Int) : pIxL [.scr ds, .int i] = (@bnd _ _ ((atI ds i)) ⟨fun d => some (.va (.int d))⟩) := rfl
theorem pIxT_e (k : Bool) (ds : List D) (i : Int) : pIxT [.tup k ds, .int i] = (@bnd _ _ ((atI ds i)) ⟨fun d => some (.va d)⟩) := rfl
theorem atI_nat {α : Type} (xs : List α) (n : Nat) : atI xs (n : Int) = xs[n]? := by
  unfold atI ixN
  rw [if_pos (by omega)]
  by_cases h : n < xs.length
  · rw [if_pos (by omega)]; simp
  · rw [if_neg (by omega)]
    simp only [Option.bind_none]
    exact (List.getElem?_eq_none (by omega)).symm
theorem atI_lit {α : Type} (xs : List α) (n : Nat) : atI xs (no_index (OfNat.ofNat n) : Int) = xs[n]? := atI_nat xs n
theorem ixN_nat (n k : Nat) : ixN n (k : Int) = if k < n then some k else none := by
  unfold ixN
  rw [if_pos (by omega)]
  by_cases h : k < n
  · rw [if_pos (by omega), if_pos h]; simp
  · rw [if_neg (by omega), if_neg h]
theorem ixN_lit (n k : Nat) : ixN n (no_index (OfNat.ofNat k) : Int) = if k < n then some k else none := ixN_nat n k
def Sl.np : Sl → Bool
  | .pw _ => false
  | _ => true
theorem np_no : Sl.np .no = true := rfl
theorem np_va (d : D) : Sl.np (.va d) = true := rfl
theorem np_ow (o : O2) : Sl.np (.ow o) = true := rfl
theorem np_pw (o : O2) : Sl.np (.pw o) = false := rfl
theorem np_view (x : Sl) : x.view.np = true := by cases x <;> rfl
theorem fz_va (d : D) : Sl.fz (.va d) = some d := rfl
theorem fz_ow (o : O2) : Sl.fz (.ow o) = some o.fz := rfl
theorem fz_no : Sl.fz .no = none := rfl
theorem fz_pw (o : O2) : Sl.fz (.pw o) = none := rfl
theorem view_va (d : D) : Sl.view (.va d) = .va d := rfl
theorem view_ow (o : O2) : Sl.view (.ow o) = .va o.fz := rfl
theorem view_no : Sl.view .no = .no := rfl
theorem view_pw (o : O2) : Sl.view (.pw o) = .va o.fz := rfl
theorem own_va (d : D) : Sl.own (.va d) = false := rfl
theorem own_ow (o : O2) : Sl.own (.ow o) = true := rfl
theorem own_no : Sl.own .no = false := rfl
theorem own_pw (o : O2) : Sl.own (.pw o) = true := rfl
theorem ofz_1 (o : O1) : O2.fz (.o1 o) = o.fz := rfl
theorem ofz_2 (c : Str) (fs : List Str) (vs : List Fv) : O2.fz (.obj c fs vs) = .obj c fs (vs.map Fv.fz) := rfl
theorem o1_l (ds : List D) : O1.fz (.lst ds) = .lst ds := rfl
theorem o1_d (ks : List Key) (ds : List D) : O1.fz (.dct ks ds) = .dct ks ds := rfl
theorem o1_t (ks : List (List Key)) (ds : List D) : O1.fz (.dcT ks ds) = .dcT ks ds := rfl
theorem fvz_v (d : D) : Fv.fz (.va d) = d := rfl
theorem fvz_o (o : O1) : Fv.fz (.ow o) = o.fz := rfl
theorem isN_n : D.isN .non = true := rfl
theorem isN_i (i : Int) : D.isN (.int i) = false := rfl
theorem isN_t (k : Bool) (ds : List D) : D.isN (.tup k ds) = false := rfl
theorem isN_s (x : Str) : D.isN (.str x) = false := rfl
theorem isN_b (x : Bool) : D.isN (.bl x) = false := rfl
theorem isN_l (ds : List D) : D.isN (.lst ds) = false := rfl
theorem fl_n : D.fl .non = true := rfl
theorem fl_i (i : Int) : D.fl (.int i) = true := rfl
theorem fl_s (x : Str) : D.fl (.str x) = true := rfl
theorem fl_b (x : Bool) : D.fl (.bl x) = true := rfl
theorem set_same {e : En} {i : Nat} {x : Sl} (h : e[i]? = some x) : e.set i x = e := by
  apply List.ext_getElem?
  intro j
  rw [List.getElem?_set]
  by_cases hj : i = j
  · subst hj
    have := (List.getElem?_eq_some_iff.mp h).1
    rw [if_pos rfl, if_pos this, h]
  · rw [if_neg hj]
theorem xVar_f (i : Nat) (e : En) : xVar i e = (@bnd _ _ ((e[i]?)) ⟨fun x => if x.np = true then (@bnd _ _ (x.fz) ⟨fun d => some (.va d, e.set i (.va d))⟩) else none⟩) := by
  unfold xVar
  cases h : e[i]? with
  | none => rfl
  | some x =>
    cases x with
    | va d => show _ = some (Sl.va d, e.set i (.va d)); rw [set_same h]
    | _ => rfl
def chB : Sl → Option Bool
  | .va (.bl b) => some b
  | _ => none
theorem chB_b (b : Bool) : chB (.va (.bl b)) = some b := rfl
theorem xChain_f0 (p p' : List D → Option Sl) (f g h : En → Option (D × En)) (e : En) : xChain p p' f g h e = (f e).bind fun x => (g x.2).bind fun y => (p [x.1, y.1]).bind fun r => (chB r).bind fun b => if b = true then (h y.2).bind fun z => (p' [y.1, z.1]).bind fun r => (chB r).bind fun b => some (b, z.2) else some (false, y.2) := by
  unfold xChain
  cases f e with
  | none => rfl
  | some x =>
    simp only [Option.bind_some]
    cases g x.2 with
    | none => rfl
    | some y =>
      simp only [Option.bind_some]
      cases p [x.1, y.1] with
      | none => rfl
      | some r =>
        cases r with
        | va d =>
          cases d with
          | bl b =>
            cases b with
            | true =>
              simp only [Option.bind_some, chB, if_true]
              cases h y.2 with
              | none => rfl
              | some z =>
                simp only [Option.bind_some]
                cases p' [y.1, z.1] with
                | none => rfl
                | some r =>
                  cases r with
                  | va d => cases d <;> rfl
                  | _ => rfl
            | false => simp only [Option.bind_some, chB, Bool.false_eq_true, if_false]
          | _ => rfl
        | _ => rfl
theorem xChain_f (p p' : List D → Option Sl) (f g h : En → Option (D × En)) (e : En) : xChain p p' f g h e = (@bnd _ _ ((f e)) ⟨fun x => (@bnd _ _ ((g x.2)) ⟨fun y => (@bnd _ _ ((p [x.1, y.1])) ⟨fun r => (@bnd _ _ ((chB r)) ⟨fun b => if b = true then (@bnd _ _ ((h y.2)) ⟨fun z => (@bnd _ _ ((p' [y.1, z.1])) ⟨fun r => (@bnd _ _ ((chB r)) ⟨fun b => some (b, z.2)⟩)⟩)⟩) else some (false, y.2)⟩)⟩)⟩)⟩) := xChain_f0 p p' f g h e
def putR (e : En) (i : Nat) : Sl → Option En
  | .va d => some (e.set i (.va d))
  | .ow o => some (e.set i (.ow o))
  | _ => none
theorem putS_e (e : En) (i : Nat) (r : Sl) : putS e i r = (@bnd _ _ ((e[i]?)) ⟨fun x => if x.np = true then putR e i r else none⟩) := by
  unfold putS
  cases h : e[i]? with
  | none => rfl
  | some x => cases x <;> cases r <;> rfl
theorem freeS_e (e : En) (i : Nat) : freeS e i = ((e[i]?).map Sl.np).getD false := by
  unfold freeS
  cases h : e[i]? with
  | none => rfl
  | some x => cases x <;> rfl
theorem pEq_i (i j : Int) : pEq [.int i, .int j] = some (.va (.bl (i == j))) := rfl
theorem pNe_i (i j : Int) : pNe [.int i, .int j] = some (.va (.bl (!(i == j)))) := rfl
theorem pEq_e (x y : D) (h : (x.pl 40 && y.pl 40) = true) : pEq [x, y] = some (.va (.bl (x.eqv y))) := if_pos h
theorem pInT_e (x : D) (k : Bool) (ys : List D) : pInT [x, .tup k ys] = if (x.fl && ys.all D.fl) = true then some (.va (.bl (ys.any fun y => y.eqv x))) else none := rfl
theorem pNinT_e (x : D) (k : Bool) (ys : List D) : pNinT [x, .tup k ys] = if (x.fl && ys.all D.fl) = true then some (.va (.bl (!ys.any fun y => y.eqv x))) else none := rfl
theorem pIsN_e (x : D) : pIsN [x, .non] = some (.va (.bl x.isN)) := rfl
theorem pNotN_e (x : D) : pNotN [x, .non] = some (.va (.bl (!x.isN))) := rfl
theorem pIsB_e (a b : Bool) : pIsB [.bl a, .bl b] = some (.va (.bl (decide (a = b)))) := rfl
theorem pNotB_e (a b : Bool) : pNotB [.bl a, .bl b] = some (.va (.bl (!decide (a = b)))) := rfl
theorem pLst_e (ds : List D) (h : ds.length ≤ 100000) : pLst ds = some (.ow (.o1 (.lst ds))) := if_pos h
theorem pTup_e (ds : List D) (h : ds.length ≤ 100000) : pTup ds = some (.va (.tup false ds)) := if_pos h
local macro_rules | `(tactic| push_cast [$ls,*]) => `(tactic| simp -implicitDefEqProofs only [xFz_e, xUp_e, xVar_f, xC_e, xNil_e, xCons_e, xPr_e, xB_e, xAnd_e, xOr_e, xNot_e, xOfB_e, xIfE_e, xYes_e, xChain_f, chB_b, xSet_e, xDrop_e, xRet_e, xRetN_e, xRetV_e, xNx_e, xBk_e, xCt_e, xNever_e, xIf_e, xSeq_e, gNm_e, gTp_e, gsNil_e, gsCons_e, xAsg_e, xPar_e, xFor_e, xItL_e, xItT_e, xItR1_e, xItR2_e, xItE_e, xItEt_e, gPutD_e, fnM_e, xCall_e, xMt_e, xPrp_e, xFld_e, xBor_e, xBorV_e, xBorT_e, xCallM_e, xMtM_e, xMk_e, qVar_e, qC_e, xIxP_e, xPutP_e, xInP_e, xApp_e, xExt_e, xFldS_e, xFS_e, xLc_e, xSl_e, xStar_e, xIsi_e, xIsi2_e, xO2_e, xLenO_e, xEqO_e, xDict0_e, xAndV_e, xOrV_e, bnd_some, bnd_none, xeNo_e, mkO_e, xAllL_n, xAllL_c, xMtT_e, xFnT2_e, xDict0T_e, xDisp_e, xGet2_e, xMkR_e, xMkS_e, xMkK_e, xDUp_e, xMv_e, xItK_e, xItI_e, xKl_e, xKb_e, xFr_e, killO_nx, killO_rt, killO_bk, killO_ct, killB_nx, killB_rt, killB_bk, killB_ct, klM_n, klM_t, klM_f, kill_pw, kill_ow, kill_va, kill_no, frE_z, frE_s, frz_pw, frz_ow, frz_va, frz_no, Option.bind_some, Option.bind_none, List.getElem?_cons_zero, List.getElem?_cons_succ, List.getElem?_nil, List.set_cons_zero, List.set_cons_succ, List.map_cons, List.map_nil, List.length_cons, List.length_nil, List.cons_append, List.nil_append, List.replicate_succ, List.replicate_zero, viewE, view_va, view_ow, view_no, view_pw, fz_va, fz_ow, fz_no, fz_pw, own_va, own_ow, own_no, own_pw, ofz_1, ofz_2, o1_l, o1_d, o1_t, fvz_v, fvz_o, putS_e, putR, np_no, np_va, np_ow, np_pw, np_view, freeS_e, Option.map_some, Option.map_none, Option.getD_some, Option.getD_none, pEq_i, pNe_i, pInT_e, pNinT_e, pIsN_e, pNotN_e, pIsB_e, pNotB_e, fl_n, fl_i, fl_s, fl_b, isN_n, isN_i, isN_t, isN_s, isN_b, isN_l, ownAt, reAt, pinned, leafAt, setLeaf, getO, putO, isLst, List.any_cons, List.any_nil, Bool.or_true, Bool.true_or, Bool.or_false, Bool.false_or, Bool.not_true, Bool.not_false, Bool.and_true, Bool.true_and, Bool.and_false, Bool.false_and, D.flat, D.flatL, D.leaf, Sl.leaf, O1.leaf, O2.leaf, Fv.leaf, wipeE, List.all_cons, List.all_nil, if_true, if_false, ite_true, ite_false, reduceIte, Bool.false_eq_true, decide_true, decide_false, reduceCtorEq, and_self, true_and, and_true, and_false, false_and, ixN_lit, ixN_nat, atI_nat, pLst_e, pTup_e, Nat.reduceAdd, Nat.reduceLT, Nat.reduceLeDiff, Nat.lt_add_left_iff_pos, Nat.zero_lt_succ, pPow_e, Int.reducePow, Int.reduceToNat, Int.reduceLT, not_true_eq_false, not_false_eq_true, pAdd_e, pSub_e, pLt_e, pLe_e, pGt_e, pGe_e, pNeg_e, pMul_e, pDiv_e, pMod_e, pAbs_e, pInt_e, pMax2_e, pMin2_e, pLenL_e, pLenS_e, pLenT_e, pIxL_e, pIxS_e, pIxT_e, atI_lit, ge_iff_le, gt_iff_lt, $ls,*])
section
variable {g : D → En → Option En} {b : En → Option Out}
theorem loop_nx (P : Nat → En → Prop) : ∀ {ds : List D} {e : En} (i0 : Nat), P i0 e → (∀ i d e, ds[i]? = some d → P (i0 + i) e → ∃ e1 o, g d e = some e1 ∧ b e1 = some o ∧ ((∃ e2, o = .nx e2 ∧ P (i0 + i + 1) e2) ∨ ∃ e2, o = .ct e2 ∧ P (i0 + i + 1) e2)) →
    ∃ e', loopM g b ds e = some (.nx e') ∧ P (i0 + ds.length) e'
  | [], e, i0, h, _ => ⟨e, rfl, h⟩
  | d :: ds, e, i0, h, st => by
    obtain ⟨e1, o, h1, h2, h3⟩ := st 0 d e rfl h
    have rest : ∀ e2, P (i0 + 1) e2 → ∃ e', loopM g b ds e2 = some (.nx e') ∧ P (i0 + (d :: ds).length) e' := fun e2 hp => by
      obtain ⟨e', k1, k2⟩ := loop_nx P (ds := ds) (e := e2) (i0 + 1) hp fun i d e hd hp => by
        have := st (i + 1) d e (by simpa using hd) (by rw [show i0 + (i + 1) = i0 + 1 + i by omega]; exact hp)
        rw [show i0 + (i + 1) + 1 = i0 + 1 + i + 1 by omega] at this
        exact this
      exact ⟨e', k1, by rw [List.length_cons, show i0 + (ds.length + 1) = i0 + 1 + ds.length by omega]; exact k2⟩
    rcases h3 with ⟨e2, rfl, hp⟩ | ⟨e2, rfl, hp⟩
    · obtain ⟨e', k1, k2⟩ := rest e2 hp
      exact ⟨e', by unfold loopM; rw [h1]; simp only [Option.bind_some]; rw [h2]; simp only [Option.bind_some]; exact k1, k2⟩
    · obtain ⟨e', k1, k2⟩ := rest e2 hp
      exact ⟨e', by unfold loopM; rw [h1]; simp only [Option.bind_some]; rw [h2]; simp only [Option.bind_some]; exact k1, k2⟩
end
section
variable {vs : List Nat} {g : D → En → Option En} {c : En → Option (Bool × En)} {f : En → Option (D × En)}
end
end Ag
namespace Ag
open PySem L2
local macro_rules | `(tactic| push_cast [$ls,*]) => `(tactic| simp -implicitDefEqProofs only [xFz_e, xUp_e, xVar_f, xC_e, xNil_e, xCons_e, xPr_e, xB_e, xAnd_e, xOr_e, xNot_e, xOfB_e, xIfE_e, xYes_e, xChain_f, chB_b, xSet_e, xDrop_e, xRet_e, xRetN_e, xRetV_e, xNx_e, xBk_e, xCt_e, xNever_e, xIf_e, xSeq_e, gNm_e, gTp_e, gsNil_e, gsCons_e, xAsg_e, xPar_e, xFor_e, xItL_e, xItT_e, xItR1_e, xItR2_e, xItE_e, xItEt_e, gPutD_e, fnM_e, xCall_e, xMt_e, xPrp_e, xFld_e, xBor_e, xBorV_e, xBorT_e, xCallM_e, xMtM_e, xMk_e, qVar_e, qC_e, xIxP_e, xPutP_e, xInP_e, xApp_e, xExt_e, xFldS_e, xFS_e, xLc_e, xSl_e, xStar_e, xIsi_e, xIsi2_e, xO2_e, xLenO_e, xEqO_e, xDict0_e, xAndV_e, xOrV_e, bnd_some, bnd_none, xeNo_e, mkO_e, xAllL_n, xAllL_c, xMtT_e, xFnT2_e, xDict0T_e, xDisp_e, xGet2_e, xMkR_e, xMkS_e, xMkK_e, xDUp_e, xMv_e, xItK_e, xItI_e, xKl_e, xKb_e, xFr_e, killO_nx, killO_rt, killO_bk, killO_ct, killB_nx, killB_rt, killB_bk, killB_ct, klM_n, klM_t, klM_f, kill_pw, kill_ow, kill_va, kill_no, frE_z, frE_s, frz_pw, frz_ow, frz_va, frz_no, Option.bind_some, Option.bind_none, List.getElem?_cons_zero, List.getElem?_cons_succ, List.getElem?_nil, List.set_cons_zero, List.set_cons_succ, List.map_cons, List.map_nil, List.length_cons, List.length_nil, List.cons_append, List.nil_append, List.replicate_succ, List.replicate_zero, viewE, view_va, view_ow, view_no, view_pw, fz_va, fz_ow, fz_no, fz_pw, own_va, own_ow, own_no, own_pw, ofz_1, ofz_2, o1_l, o1_d, o1_t, fvz_v, fvz_o, putS_e, putR, np_no, np_va, np_ow, np_pw, np_view, freeS_e, Option.map_some, Option.map_none, Option.getD_some, Option.getD_none, pEq_i, pNe_i, pInT_e, pNinT_e, pIsN_e, pNotN_e, pIsB_e, pNotB_e, fl_n, fl_i, fl_s, fl_b, isN_n, isN_i, isN_t, isN_s, isN_b, isN_l, ownAt, reAt, pinned, leafAt, setLeaf, getO, putO, isLst, List.any_cons, List.any_nil, Bool.or_true, Bool.true_or, Bool.or_false, Bool.false_or, Bool.not_true, Bool.not_false, Bool.and_true, Bool.true_and, Bool.and_false, Bool.false_and, D.flat, D.flatL, D.leaf, Sl.leaf, O1.leaf, O2.leaf, Fv.leaf, wipeE, List.all_cons, List.all_nil, if_true, if_false, ite_true, ite_false, reduceIte, Bool.false_eq_true, decide_true, decide_false, reduceCtorEq, and_self, true_and, and_true, and_false, false_and, ixN_lit, ixN_nat, atI_nat, pLst_e, pTup_e, Nat.reduceAdd, Nat.reduceLT, Nat.reduceLeDiff, Nat.lt_add_left_iff_pos, Nat.zero_lt_succ, pPow_e, Int.reducePow, Int.reduceToNat, Int.reduceLT, not_true_eq_false, not_false_eq_true, pAdd_e, pSub_e, pLt_e, pLe_e, pGt_e, pGe_e, pNeg_e, pMul_e, pDiv_e, pMod_e, pAbs_e, pInt_e, pMax2_e, pMin2_e, pLenL_e, pLenS_e, pLenT_e, pIxL_e, pIxS_e, pIxT_e, atI_lit, ge_iff_le, gt_iff_lt, $ls,*])
def Res {α : Type} (o : Option α) (Q : α → Prop) : Prop := ∃ x, o = some x ∧ Q x
section
variable {α β : Type} {Q : α → Prop} {R : β → Prop}
theorem res_some {x : α} (h : Q x) : Res (some x) Q := ⟨x, rfl, h⟩
theorem res_bind {α β : Type} {R : β → Prop} {o : Option α} {k : Kont α β} (h : Res o fun x => Res (k.run x) R) : Res (@bnd α β o k) R := by
  obtain ⟨x, e, y, e2, r⟩ := h
  exact ⟨y, by rw [e]; exact e2, r⟩
end
theorem res_loop {g : D → En → Option En} {b : En → Option Out} {ds : List D} {e : En} {Q : Out → Prop} (P : Nat → En → Prop) (h0 : P 0 e)
    (st : ∀ i d e, ds[i]? = some d → P i e → Res ((g d e).bind b) fun o => ∃ e2, (o = .nx e2 ∨ o = .ct e2) ∧ P (i + 1) e2) (q : ∀ e, P ds.length e → Q (.nx e)) : Res (loopM g b ds e) Q := by
  obtain ⟨e', h1, h2⟩ := loop_nx (g := g) (b := b) P (ds := ds) (e := e) 0 h0 fun i d e hd hp => by
    rw [Nat.zero_add] at hp
    obtain ⟨o, ho, e2, hh, hp2⟩ := st i d e hd hp
    obtain ⟨e1, k1, k2⟩ := Option.bind_eq_some_iff.mp ho
    refine ⟨e1, o, k1, k2, ?_⟩
    rw [Nat.zero_add]
    rcases hh with rfl | rfl
    · exact .inl ⟨e2, rfl, hp2⟩
    · exact .inr ⟨e2, rfl, hp2⟩
  exact ⟨_, h1, q e' (by rw [Nat.zero_add] at h2; exact h2)⟩
theorem rng_at {lo : Int} {n i : Nat} {d : D} (h : (rngD lo n)[i]? = some d) : i < n ∧ d = .int (lo + i) := by
  unfold rngD at h
  rw [List.getElem?_map] at h
  obtain ⟨k, hk, rfl⟩ := Option.map_eq_some_iff.mp h
  obtain ⟨h1, h2⟩ := List.getElem?_eq_some_iff.mp hk
  simp at h1 h2
  subst h2
  exact ⟨h1, rfl⟩
theorem small_of {j : Int} (h1 : -4611686018427387904 ≤ j) (h2 : j < 4611686018427387904) : small62 j = true := by
  unfold small62
  simp
  omega
theorem pEq_s {x y : Str} (hx : PyData.strOk x = true) (hy : PyData.strOk y = true) : pEq [.str x, .str y] = some (.va (.bl (x == y))) := by
  rw [pEq_e _ _ (by simp [D.pl, hx, hy])]
  simp [D.eqv]
theorem res_step {α β : Type} {x : α} {o : α → Option β} {R : α → β → Prop} (h : Res (o x) (R x)) : Res (some x) fun y => Res (o y) (R y) := ⟨x, rfl, h⟩
local macro_rules | `(tactic| dsimp! [$ls,*]) => `(tactic| (push_cast [$ls,*]; repeat (with_reducible refine res_step ?_; push_cast [$ls,*])))
theorem isD_non_int (cls : List Str) (sub : Str → Str → Bool)  : isD cls sub .non (.b "int") = some false := (by decide +kernel : (if (bT0.contains "NoneType" && bT.contains "int") = true then some (isBB "NoneType" "int") else none) = some false)
theorem isD_non_bool (cls : List Str) (sub : Str → Str → Bool)  : isD cls sub .non (.b "bool") = some false := (by decide +kernel : (if (bT0.contains "NoneType" && bT.contains "bool") = true then some (isBB "NoneType" "bool") else none) = some false)
theorem isD_non_str (cls : List Str) (sub : Str → Str → Bool)  : isD cls sub .non (.b "str") = some false := (by decide +kernel : (if (bT0.contains "NoneType" && bT.contains "str") = true then some (isBB "NoneType" "str") else none) = some false)
theorem isD_non_list (cls : List Str) (sub : Str → Str → Bool)  : isD cls sub .non (.b "list") = some false := (by decide +kernel : (if (bT0.contains "NoneType" && bT.contains "list") = true then some (isBB "NoneType" "list") else none) = some false)
theorem isD_non_tuple (cls : List Str) (sub : Str → Str → Bool)  : isD cls sub .non (.b "tuple") = some false := (by decide +kernel : (if (bT0.contains "NoneType" && bT.contains "tuple") = true then some (isBB "NoneType" "tuple") else none) = some false)
theorem isD_non_dict (cls : List Str) (sub : Str → Str → Bool)  : isD cls sub .non (.b "dict") = some false := (by decide +kernel : (if (bT0.contains "NoneType" && bT.contains "dict") = true then some (isBB "NoneType" "dict") else none) = some false)
theorem isD_non_o (cls : List Str) (sub : Str → Str → Bool)  (c : Str) : isD cls sub .non (.o c) = if cls.contains c = true then some false else none := by
  show (if (bT0.contains "NoneType" && cls.contains c) = true then some false else none) = _
  rw [show bT0.contains "NoneType" = true by decide +kernel, Bool.true_and]
theorem isD_bl_int (cls : List Str) (sub : Str → Str → Bool) (x : Bool) : isD cls sub (.bl x) (.b "int") = some true := (by decide +kernel : (if (bT0.contains "bool" && bT.contains "int") = true then some (isBB "bool" "int") else none) = some true)
theorem isD_bl_bool (cls : List Str) (sub : Str → Str → Bool) (x : Bool) : isD cls sub (.bl x) (.b "bool") = some true := (by decide +kernel : (if (bT0.contains "bool" && bT.contains "bool") = true then some (isBB "bool" "bool") else none) = some true)
theorem isD_bl_str (cls : List Str) (sub : Str → Str → Bool) (x : Bool) : isD cls sub (.bl x) (.b "str") = some false := (by decide +kernel : (if (bT0.contains "bool" && bT.contains "str") = true then some (isBB "bool" "str") else none) = some false)
theorem isD_bl_list (cls : List Str) (sub : Str → Str → Bool) (x : Bool) : isD cls sub (.bl x) (.b "list") = some false := (by decide +kernel : (if (bT0.contains "bool" && bT.contains "list") = true then some (isBB "bool" "list") else none) = some false)
theorem isD_bl_tuple (cls : List Str) (sub : Str → Str → Bool) (x : Bool) : isD cls sub (.bl x) (.b "tuple") = some false := (by decide +kernel : (if (bT0.contains "bool" && bT.contains "tuple") = true then some (isBB "bool" "tuple") else none) = some false)
theorem isD_bl_dict (cls : List Str) (sub : Str → Str → Bool) (x : Bool) : isD cls sub (.bl x) (.b "dict") = some false := (by decide +kernel : (if (bT0.contains "bool" && bT.contains "dict") = true then some (isBB "bool" "dict") else none) = some false)
theorem isD_bl_o (cls : List Str) (sub : Str → Str → Bool) (x : Bool) (c : Str) : isD cls sub (.bl x) (.o c) = if cls.contains c = true then some false else none := by
  show (if (bT0.contains "bool" && cls.contains c) = true then some false else none) = _
  rw [show bT0.contains "bool" = true by decide +kernel, Bool.true_and]
theorem isD_int_int (cls : List Str) (sub : Str → Str → Bool) (x : Int) : isD cls sub (.int x) (.b "int") = some true := (by decide +kernel : (if (bT0.contains "int" && bT.contains "int") = true then some (isBB "int" "int") else none) = some true)
theorem isD_int_bool (cls : List Str) (sub : Str → Str → Bool) (x : Int) : isD cls sub (.int x) (.b "bool") = some false := (by decide +kernel : (if (bT0.contains "int" && bT.contains "bool") = true then some (isBB "int" "bool") else none) = some false)
theorem isD_int_str (cls : List Str) (sub : Str → Str → Bool) (x : Int) : isD cls sub (.int x) (.b "str") = some false := (by decide +kernel : (if (bT0.contains "int" && bT.contains "str") = true then some (isBB "int" "str") else none) = some false)
theorem isD_int_list (cls : List Str) (sub : Str → Str → Bool) (x : Int) : isD cls sub (.int x) (.b "list") = some false := (by decide +kernel : (if (bT0.contains "int" && bT.contains "list") = true then some (isBB "int" "list") else none) = some false)
theorem isD_int_tuple (cls : List Str) (sub : Str → Str → Bool) (x : Int) : isD cls sub (.int x) (.b "tuple") = some false := (by decide +kernel : (if (bT0.contains "int" && bT.contains "tuple") = true then some (isBB "int" "tuple") else none) = some false)
theorem isD_int_dict (cls : List Str) (sub : Str → Str → Bool) (x : Int) : isD cls sub (.int x) (.b "dict") = some false := (by decide +kernel : (if (bT0.contains "int" && bT.contains "dict") = true then some (isBB "int" "dict") else none) = some false)
theorem isD_int_o (cls : List Str) (sub : Str → Str → Bool) (x : Int) (c : Str) : isD cls sub (.int x) (.o c) = if cls.contains c = true then some false else none := by
  show (if (bT0.contains "int" && cls.contains c) = true then some false else none) = _
  rw [show bT0.contains "int" = true by decide +kernel, Bool.true_and]
theorem isD_str_int (cls : List Str) (sub : Str → Str → Bool) (x : Str) : isD cls sub (.str x) (.b "int") = some false := (by decide +kernel : (if (bT0.contains "str" && bT.contains "int") = true then some (isBB "str" "int") else none) = some false)
theorem isD_str_bool (cls : List Str) (sub : Str → Str → Bool) (x : Str) : isD cls sub (.str x) (.b "bool") = some false := (by decide +kernel : (if (bT0.contains "str" && bT.contains "bool") = true then some (isBB "str" "bool") else none) = some false)
theorem isD_str_str (cls : List Str) (sub : Str → Str → Bool) (x : Str) : isD cls sub (.str x) (.b "str") = some true := (by decide +kernel : (if (bT0.contains "str" && bT.contains "str") = true then some (isBB "str" "str") else none) = some true)
theorem isD_str_list (cls : List Str) (sub : Str → Str → Bool) (x : Str) : isD cls sub (.str x) (.b "list") = some false := (by decide +kernel : (if (bT0.contains "str" && bT.contains "list") = true then some (isBB "str" "list") else none) = some false)
theorem isD_str_tuple (cls : List Str) (sub : Str → Str → Bool) (x : Str) : isD cls sub (.str x) (.b "tuple") = some false := (by decide +kernel : (if (bT0.contains "str" && bT.contains "tuple") = true then some (isBB "str" "tuple") else none) = some false)
theorem isD_str_dict (cls : List Str) (sub : Str → Str → Bool) (x : Str) : isD cls sub (.str x) (.b "dict") = some false := (by decide +kernel : (if (bT0.contains "str" && bT.contains "dict") = true then some (isBB "str" "dict") else none) = some false)
theorem isD_str_o (cls : List Str) (sub : Str → Str → Bool) (x : Str) (c : Str) : isD cls sub (.str x) (.o c) = if cls.contains c = true then some false else none := by
  show (if (bT0.contains "str" && cls.contains c) = true then some false else none) = _
  rw [show bT0.contains "str" = true by decide +kernel, Bool.true_and]
theorem isD_scr_int (cls : List Str) (sub : Str → Str → Bool) (x : List Int) : isD cls sub (.scr x) (.b "int") = some false := (by decide +kernel : (if (bT0.contains "list" && bT.contains "int") = true then some (isBB "list" "int") else none) = some false)
theorem isD_scr_bool (cls : List Str) (sub : Str → Str → Bool) (x : List Int) : isD cls sub (.scr x) (.b "bool") = some false := (by decide +kernel : (if (bT0.contains "list" && bT.contains "bool") = true then some (isBB "list" "bool") else none) = some false)
theorem isD_scr_str (cls : List Str) (sub : Str → Str → Bool) (x : List Int) : isD cls sub (.scr x) (.b "str") = some false := (by decide +kernel : (if (bT0.contains "list" && bT.contains "str") = true then some (isBB "list" "str") else none) = some false)
theorem isD_scr_list (cls : List Str) (sub : Str → Str → Bool) (x : List Int) : isD cls sub (.scr x) (.b "list") = some true := (by decide +kernel : (if (bT0.contains "list" && bT.contains "list") = true then some (isBB "list" "list") else none) = some true)
theorem isD_scr_tuple (cls : List Str) (sub : Str → Str → Bool) (x : List Int) : isD cls sub (.scr x) (.b "tuple") = some false := (by decide +kernel : (if (bT0.contains "list" && bT.contains "tuple") = true then some (isBB "list" "tuple") else none) = some false)
theorem isD_scr_dict (cls : List Str) (sub : Str → Str → Bool) (x : List Int) : isD cls sub (.scr x) (.b "dict") = some false := (by decide +kernel : (if (bT0.contains "list" && bT.contains "dict") = true then some (isBB "list" "dict") else none) = some false)
theorem isD_scr_o (cls : List Str) (sub : Str → Str → Bool) (x : List Int) (c : Str) : isD cls sub (.scr x) (.o c) = if cls.contains c = true then some false else none := by
  show (if (bT0.contains "list" && cls.contains c) = true then some false else none) = _
  rw [show bT0.contains "list" = true by decide +kernel, Bool.true_and]
theorem isD_lst_int (cls : List Str) (sub : Str → Str → Bool) (x : List D) : isD cls sub (.lst x) (.b "int") = some false := (by decide +kernel : (if (bT0.contains "list" && bT.contains "int") = true then some (isBB "list" "int") else none) = some false)
theorem isD_lst_bool (cls : List Str) (sub : Str → Str → Bool) (x : List D) : isD cls sub (.lst x) (.b "bool") = some false := (by decide +kernel : (if (bT0.contains "list" && bT.contains "bool") = true then some (isBB "list" "bool") else none) = some false)
theorem isD_lst_str (cls : List Str) (sub : Str → Str → Bool) (x : List D) : isD cls sub (.lst x) (.b "str") = some false := (by decide +kernel : (if (bT0.contains "list" && bT.contains "str") = true then some (isBB "list" "str") else none) = some false)
theorem isD_lst_list (cls : List Str) (sub : Str → Str → Bool) (x : List D) : isD cls sub (.lst x) (.b "list") = some true := (by decide +kernel : (if (bT0.contains "list" && bT.contains "list") = true then some (isBB "list" "list") else none) = some true)
theorem isD_lst_tuple (cls : List Str) (sub : Str → Str → Bool) (x : List D) : isD cls sub (.lst x) (.b "tuple") = some false := (by decide +kernel : (if (bT0.contains "list" && bT.contains "tuple") = true then some (isBB "list" "tuple") else none) = some false)
theorem isD_lst_dict (cls : List Str) (sub : Str → Str → Bool) (x : List D) : isD cls sub (.lst x) (.b "dict") = some false := (by decide +kernel : (if (bT0.contains "list" && bT.contains "dict") = true then some (isBB "list" "dict") else none) = some false)
theorem isD_lst_o (cls : List Str) (sub : Str → Str → Bool) (x : List D) (c : Str) : isD cls sub (.lst x) (.o c) = if cls.contains c = true then some false else none := by
  show (if (bT0.contains "list" && cls.contains c) = true then some false else none) = _
  rw [show bT0.contains "list" = true by decide +kernel, Bool.true_and]
theorem isD_tup_int (cls : List Str) (sub : Str → Str → Bool) (k : Bool) (x : List D) : isD cls sub (.tup k x) (.b "int") = some false := (by decide +kernel : (if (bT0.contains "tuple" && bT.contains "int") = true then some (isBB "tuple" "int") else none) = some false)
theorem isD_tup_bool (cls : List Str) (sub : Str → Str → Bool) (k : Bool) (x : List D) : isD cls sub (.tup k x) (.b "bool") = some false := (by decide +kernel : (if (bT0.contains "tuple" && bT.contains "bool") = true then some (isBB "tuple" "bool") else none) = some false)
theorem isD_tup_str (cls : List Str) (sub : Str → Str → Bool) (k : Bool) (x : List D) : isD cls sub (.tup k x) (.b "str") = some false := (by decide +kernel : (if (bT0.contains "tuple" && bT.contains "str") = true then some (isBB "tuple" "str") else none) = some false)
theorem isD_tup_list (cls : List Str) (sub : Str → Str → Bool) (k : Bool) (x : List D) : isD cls sub (.tup k x) (.b "list") = some false := (by decide +kernel : (if (bT0.contains "tuple" && bT.contains "list") = true then some (isBB "tuple" "list") else none) = some false)
theorem isD_tup_tuple (cls : List Str) (sub : Str → Str → Bool) (k : Bool) (x : List D) : isD cls sub (.tup k x) (.b "tuple") = some true := (by decide +kernel : (if (bT0.contains "tuple" && bT.contains "tuple") = true then some (isBB "tuple" "tuple") else none) = some true)
theorem isD_tup_dict (cls : List Str) (sub : Str → Str → Bool) (k : Bool) (x : List D) : isD cls sub (.tup k x) (.b "dict") = some false := (by decide +kernel : (if (bT0.contains "tuple" && bT.contains "dict") = true then some (isBB "tuple" "dict") else none) = some false)
theorem isD_tup_o (cls : List Str) (sub : Str → Str → Bool) (k : Bool) (x : List D) (c : Str) : isD cls sub (.tup k x) (.o c) = if cls.contains c = true then some false else none := by
  show (if (bT0.contains "tuple" && cls.contains c) = true then some false else none) = _
  rw [show bT0.contains "tuple" = true by decide +kernel, Bool.true_and]
theorem isD_dct_int (cls : List Str) (sub : Str → Str → Bool) (k : List Key) (x : List D) : isD cls sub (.dct k x) (.b "int") = some false := (by decide +kernel : (if (bT0.contains "dict" && bT.contains "int") = true then some (isBB "dict" "int") else none) = some false)
theorem isD_dct_bool (cls : List Str) (sub : Str → Str → Bool) (k : List Key) (x : List D) : isD cls sub (.dct k x) (.b "bool") = some false := (by decide +kernel : (if (bT0.contains "dict" && bT.contains "bool") = true then some (isBB "dict" "bool") else none) = some false)
theorem isD_dct_str (cls : List Str) (sub : Str → Str → Bool) (k : List Key) (x : List D) : isD cls sub (.dct k x) (.b "str") = some false := (by decide +kernel : (if (bT0.contains "dict" && bT.contains "str") = true then some (isBB "dict" "str") else none) = some false)
theorem isD_dct_list (cls : List Str) (sub : Str → Str → Bool) (k : List Key) (x : List D) : isD cls sub (.dct k x) (.b "list") = some false := (by decide +kernel : (if (bT0.contains "dict" && bT.contains "list") = true then some (isBB "dict" "list") else none) = some false)
theorem isD_dct_tuple (cls : List Str) (sub : Str → Str → Bool) (k : List Key) (x : List D) : isD cls sub (.dct k x) (.b "tuple") = some false := (by decide +kernel : (if (bT0.contains "dict" && bT.contains "tuple") = true then some (isBB "dict" "tuple") else none) = some false)
theorem isD_dct_dict (cls : List Str) (sub : Str → Str → Bool) (k : List Key) (x : List D) : isD cls sub (.dct k x) (.b "dict") = some true := (by decide +kernel : (if (bT0.contains "dict" && bT.contains "dict") = true then some (isBB "dict" "dict") else none) = some true)
theorem isD_dct_o (cls : List Str) (sub : Str → Str → Bool) (k : List Key) (x : List D) (c : Str) : isD cls sub (.dct k x) (.o c) = if cls.contains c = true then some false else none := by
  show (if (bT0.contains "dict" && cls.contains c) = true then some false else none) = _
  rw [show bT0.contains "dict" = true by decide +kernel, Bool.true_and]
theorem isD_dcT_int (cls : List Str) (sub : Str → Str → Bool) (k : List (List Key)) (x : List D) : isD cls sub (.dcT k x) (.b "int") = some false := (by decide +kernel : (if (bT0.contains "dict" && bT.contains "int") = true then some (isBB "dict" "int") else none) = some false)
theorem isD_dcT_bool (cls : List Str) (sub : Str → Str → Bool) (k : List (List Key)) (x : List D) : isD cls sub (.dcT k x) (.b "bool") = some false := (by decide +kernel : (if (bT0.contains "dict" && bT.contains "bool") = true then some (isBB "dict" "bool") else none) = some false)
theorem isD_dcT_str (cls : List Str) (sub : Str → Str → Bool) (k : List (List Key)) (x : List D) : isD cls sub (.dcT k x) (.b "str") = some false := (by decide +kernel : (if (bT0.contains "dict" && bT.contains "str") = true then some (isBB "dict" "str") else none) = some false)
theorem isD_dcT_list (cls : List Str) (sub : Str → Str → Bool) (k : List (List Key)) (x : List D) : isD cls sub (.dcT k x) (.b "list") = some false := (by decide +kernel : (if (bT0.contains "dict" && bT.contains "list") = true then some (isBB "dict" "list") else none) = some false)
theorem isD_dcT_tuple (cls : List Str) (sub : Str → Str → Bool) (k : List (List Key)) (x : List D) : isD cls sub (.dcT k x) (.b "tuple") = some false := (by decide +kernel : (if (bT0.contains "dict" && bT.contains "tuple") = true then some (isBB "dict" "tuple") else none) = some false)
theorem isD_dcT_dict (cls : List Str) (sub : Str → Str → Bool) (k : List (List Key)) (x : List D) : isD cls sub (.dcT k x) (.b "dict") = some true := (by decide +kernel : (if (bT0.contains "dict" && bT.contains "dict") = true then some (isBB "dict" "dict") else none) = some true)
theorem isD_dcT_o (cls : List Str) (sub : Str → Str → Bool) (k : List (List Key)) (x : List D) (c : Str) : isD cls sub (.dcT k x) (.o c) = if cls.contains c = true then some false else none := by
  show (if (bT0.contains "dict" && cls.contains c) = true then some false else none) = _
  rw [show bT0.contains "dict" = true by decide +kernel, Bool.true_and]
theorem isD_obj_o (cls : List Str) (sub : Str → Str → Bool) (c : Str) (ns : List Str) (ds : List D) (c' : Str) : isD cls sub (.obj c ns ds) (.o c') = if (cls.contains c && cls.contains c') = true then some (sub c c') else none := rfl
local macro_rules | `(tactic| simp_all! [$ls,*]) => `(tactic| dsimp! [isD_non_int, isD_non_bool, isD_non_str, isD_non_list, isD_non_tuple, isD_non_dict, isD_non_o, isD_bl_int, isD_bl_bool, isD_bl_str, isD_bl_list, isD_bl_tuple, isD_bl_dict, isD_bl_o, isD_int_int, isD_int_bool, isD_int_str, isD_int_list, isD_int_tuple, isD_int_dict, isD_int_o, isD_str_int, isD_str_bool, isD_str_str, isD_str_list, isD_str_tuple, isD_str_dict, isD_str_o, isD_scr_int, isD_scr_bool, isD_scr_str, isD_scr_list, isD_scr_tuple, isD_scr_dict, isD_scr_o, isD_lst_int, isD_lst_bool, isD_lst_str, isD_lst_list, isD_lst_tuple, isD_lst_dict, isD_lst_o, isD_tup_int, isD_tup_bool, isD_tup_str, isD_tup_list, isD_tup_tuple, isD_tup_dict, isD_tup_o, isD_dct_int, isD_dct_bool, isD_dct_str, isD_dct_list, isD_dct_tuple, isD_dct_dict, isD_dct_o, isD_dcT_int, isD_dcT_bool, isD_dcT_str, isD_dcT_list, isD_dcT_tuple, isD_dcT_dict, isD_dcT_o, isD_obj_o, $ls,*])
section
variable {g : D → En → Option En} {b : En → Option Out}
theorem loopM_c (d : D) (ds : List D) (e : En) : loopM g b (d :: ds) e = ((g d e).bind b).bind fun o => match o with
    | .nx e2 => loopM g b ds e2
    | .ct e2 => loopM g b ds e2
    | .bk e2 => some (.nx e2)
    | .rt r e2 => some (.rt r e2)
    | .ex r e2 => some (.ex r e2) := by
  conv => lhs; unfold loopM
  cases g d e with
  | none => rfl
  | some e1 => rfl
theorem loopM_n (e : En) : loopM g b [] e = some (.nx e) := rfl
theorem loop_foldI {α σ : Type} {f : α → D} (env : σ → En) (step : σ → α → σ) (I : σ → Prop) : ∀ {xs : List α} {s : σ}, I s → (∀ s x, x ∈ xs → I s → (g (f x) (env s)).bind b = some (.nx (env (step s x))) ∧ I (step s x)) →
    loopM g b (xs.map f) (env s) = some (.nx (env (xs.foldl step s))) ∧ I (xs.foldl step s)
  | [], _, i, _ => ⟨rfl, i⟩
  | x :: xs, s, i, h => by
    obtain ⟨h1, h2⟩ := h s x (by simp) i
    rw [List.map_cons, loopM_c, h1]
    simp only [Option.bind_some, List.foldl_cons]
    exact loop_foldI env step I (xs := xs) h2 fun s y hy => h s y (by simp [hy])
end
local macro_rules | `(tactic| walk_at "rb") => `(tactic| repeat (with_reducible refine res_bind ?_))
end Ag
namespace Ag
open PySem PySem.Spec PyProof.Rows L2 Evl
local macro_rules | `(tactic| push_cast [$ls,*]) => `(tactic| simp -implicitDefEqProofs only [xFz_e, xUp_e, xVar_f, xC_e, xNil_e, xCons_e, xPr_e, xB_e, xAnd_e, xOr_e, xNot_e, xOfB_e, xIfE_e, xYes_e, xChain_f, chB_b, xSet_e, xDrop_e, xRet_e, xRetN_e, xRetV_e, xNx_e, xBk_e, xCt_e, xNever_e, xIf_e, xSeq_e, gNm_e, gTp_e, gsNil_e, gsCons_e, xAsg_e, xPar_e, xFor_e, xItL_e, xItT_e, xItR1_e, xItR2_e, xItE_e, xItEt_e, gPutD_e, fnM_e, xCall_e, xMt_e, xPrp_e, xFld_e, xBor_e, xBorV_e, xBorT_e, xCallM_e, xMtM_e, xMk_e, qVar_e, qC_e, xIxP_e, xPutP_e, xInP_e, xApp_e, xExt_e, xFldS_e, xFS_e, xLc_e, xSl_e, xStar_e, xIsi_e, xIsi2_e, xO2_e, xLenO_e, xEqO_e, xDict0_e, xAndV_e, xOrV_e, bnd_some, bnd_none, xeNo_e, mkO_e, xAllL_n, xAllL_c, xMtT_e, xFnT2_e, xDict0T_e, xDisp_e, xGet2_e, xMkR_e, xMkS_e, xMkK_e, xDUp_e, xMv_e, xItK_e, xItI_e, xKl_e, xKb_e, xFr_e, killO_nx, killO_rt, killO_bk, killO_ct, killB_nx, killB_rt, killB_bk, killB_ct, klM_n, klM_t, klM_f, kill_pw, kill_ow, kill_va, kill_no, frE_z, frE_s, frz_pw, frz_ow, frz_va, frz_no, Option.bind_some, Option.bind_none, List.getElem?_cons_zero, List.getElem?_cons_succ, List.getElem?_nil, List.set_cons_zero, List.set_cons_succ, List.map_cons, List.map_nil, List.length_cons, List.length_nil, List.cons_append, List.nil_append, List.replicate_succ, List.replicate_zero, viewE, view_va, view_ow, view_no, view_pw, fz_va, fz_ow, fz_no, fz_pw, own_va, own_ow, own_no, own_pw, ofz_1, ofz_2, o1_l, o1_d, o1_t, fvz_v, fvz_o, putS_e, putR, np_no, np_va, np_ow, np_pw, np_view, freeS_e, Option.map_some, Option.map_none, Option.getD_some, Option.getD_none, pEq_i, pNe_i, pInT_e, pNinT_e, pIsN_e, pNotN_e, pIsB_e, pNotB_e, fl_n, fl_i, fl_s, fl_b, isN_n, isN_i, isN_t, isN_s, isN_b, isN_l, ownAt, reAt, pinned, leafAt, setLeaf, getO, putO, isLst, List.any_cons, List.any_nil, Bool.or_true, Bool.true_or, Bool.or_false, Bool.false_or, Bool.not_true, Bool.not_false, Bool.and_true, Bool.true_and, Bool.and_false, Bool.false_and, D.flat, D.flatL, D.leaf, Sl.leaf, O1.leaf, O2.leaf, Fv.leaf, wipeE, List.all_cons, List.all_nil, if_true, if_false, ite_true, ite_false, reduceIte, Bool.false_eq_true, decide_true, decide_false, reduceCtorEq, and_self, true_and, and_true, and_false, false_and, ixN_lit, ixN_nat, atI_nat, pLst_e, pTup_e, Nat.reduceAdd, Nat.reduceLT, Nat.reduceLeDiff, Nat.lt_add_left_iff_pos, Nat.zero_lt_succ, pPow_e, Int.reducePow, Int.reduceToNat, Int.reduceLT, not_true_eq_false, not_false_eq_true, pAdd_e, pSub_e, pLt_e, pLe_e, pGt_e, pGe_e, pNeg_e, pMul_e, pDiv_e, pMod_e, pAbs_e, pInt_e, pMax2_e, pMin2_e, pLenL_e, pLenS_e, pLenT_e, pIxL_e, pIxS_e, pIxT_e, atI_lit, ge_iff_le, gt_iff_lt, $ls,*])
local macro_rules | `(tactic| dsimp! [$ls,*]) => `(tactic| (push_cast [$ls,*]; repeat (with_reducible refine res_step ?_; push_cast [$ls,*])))
local macro_rules | `(tactic| simp_all! [$ls,*]) => `(tactic| dsimp! [isD_non_int, isD_non_bool, isD_non_str, isD_non_list, isD_non_tuple, isD_non_dict, isD_non_o, isD_bl_int, isD_bl_bool, isD_bl_str, isD_bl_list, isD_bl_tuple, isD_bl_dict, isD_bl_o, isD_int_int, isD_int_bool, isD_int_str, isD_int_list, isD_int_tuple, isD_int_dict, isD_int_o, isD_str_int, isD_str_bool, isD_str_str, isD_str_list, isD_str_tuple, isD_str_dict, isD_str_o, isD_scr_int, isD_scr_bool, isD_scr_str, isD_scr_list, isD_scr_tuple, isD_scr_dict, isD_scr_o, isD_lst_int, isD_lst_bool, isD_lst_str, isD_lst_list, isD_lst_tuple, isD_lst_dict, isD_lst_o, isD_tup_int, isD_tup_bool, isD_tup_str, isD_tup_list, isD_tup_tuple, isD_tup_dict, isD_tup_o, isD_dct_int, isD_dct_bool, isD_dct_str, isD_dct_list, isD_dct_tuple, isD_dct_dict, isD_dct_o, isD_dcT_int, isD_dcT_bool, isD_dcT_str, isD_dcT_list, isD_dcT_tuple, isD_dcT_dict, isD_dcT_o, isD_obj_o, $ls,*])
local macro_rules | `(tactic| walk_at "rb") => `(tactic| repeat (with_reducible refine res_bind ?_))
section
variable {X : Cx} {CX : CXT} {k j : Nat} {C : Addr} {ps ks : List Str} {sp : Sp} {E : XK} {x : Str} {p pos : Pos} {e : Expr} {kws : List Keyword} {te : TE} {gV : List V → List V → List V}
end
inductive DHits (K : PySem.W.Frag) (H : Hp) (ls : List (Key × V)) : List (Key × V) → Bool → Prop
  | nil : DHits K H ls [] true
  | miss {k : Key} {v : V} {r : List (Key × V)} : L2.valV ls k = none → DHits K H ls ((k, v) :: r) false
  | hit {k : Key} {v y : V} {d e : PyData} {r : List (Key × V)} {b : Bool} : L2.valV ls k = some y → Dp K H v d → Dp K H y e → SeqAt.shaped d = true → SeqAt.shaped e = true → DHits K H ls r b → DHits K H ls ((k, v) :: r) (PyData.eqv d e && b)
theorem hits_plain {X : Cx} {pins : List (Addr × Obj)} {σ : L2.St} {H : Hp} {s : Shared} {A : Around} (I : Inv X pins σ H s) (hu : A.units + 64 < cLine) {ls : List (Key × V)} {vb : List (Key × Value)} (rb : KV ls vb) {ks : List (Key × V)} {va : List (Key × Value)} (ra : KV ks va) :
    ∀ {r : Bool}, DHits X.K H ls ks r → PySem.W.KeqHits A s vb va r := by
  unfold KV at ra
  induction ra with
  | nil => intro r h; cases h; exact .nil
  | @cons p q ps qs h t ih =>
    intro r hh
    obtain ⟨h1, h2⟩ := h
    obtain ⟨k, v⟩ := q
    obtain ⟨k', v'⟩ := p
    cases (show k' = k from h1)
    have rr : RelO (L2.valV ls k) (valueAt vb k) := rb.val k
    cases hh with
    | miss hn => rw [hn] at rr; exact .miss (RelO.none_of rr)
    | hit hy hd he sd se hr =>
      rw [hy] at rr
      obtain ⟨u, hu2, ru⟩ := rr.some_of
      obtain ⟨as, r1⟩ := Dp.reads I _ _ _ hd h2
      obtain ⟨bs, r2⟩ := Dp.reads I _ _ _ he ru
      exact .hit hu2 (SeqAt.eqAt_reads _ _ A s _ _ as bs r1 r2 (SeqAt.canLay_of_shaped sd) (SeqAt.canLay_of_shaped se) (SeqAt.room_of_shaped sd hu)) (ih hr)
def rEqDD (K : PySem.W.Frag) (neg : Bool) : R2 := fun x y H Q => ∃ (a b : Addr) (kvs lvs : List (Key × V)) (r : Bool), x = .ref a ∧ y = .ref b ∧ Rd H a (.dK kvs) ∧ Rd H b (.dK lvs) ∧ DHits K H lvs kvs r ∧ Q (.bl (neg != (kvs.length == lvs.length && r))) H
section
variable {X : Cx}
theorem op_neDD (hu : X.A.units + 65 < cLine) : OpR X (compareOp .NotEq) (rEqDD X.K true) := by
  intro pins s σ H x y v u Q I rx ry h
  obtain ⟨a, b, kvs, lvs, r, rfl, rfl, ha, hb, hh, q⟩ := h
  obtain rfl : v = Value.ref a := rx
  obtain rfl : u = Value.ref b := ry
  obtain ⟨za, ya, va, ra, da⟩ := dk_rd I.hok ha
  obtain ⟨zb, yb, vb, rb, db⟩ := dk_rd I.hok hb
  refine PySem.W.keq_ne (knd := mixKind X.prog X.w) (r := r) ya yb da db (by omega) (fun _ => hits_plain (A := X.A.in1) I (by show X.A.units + 1 + 64 < cLine; omega) rb ra hh) (fin_bl I q ?_)
  rw [← ra.length, ← rb.length]
  simp
end
def eqDD (js : List Key) (es : List D) : List Key → List D → Bool
  | k :: ks, d :: ds => (match dGet js es k with
    | some e => d.eqv e && eqDD js es ks ds
    | none => false)
  | _, _ => true
def pNeDD : List D → Option Sl
  | [.dct ks ds, .dct js es] => if (D.pls 39 ds && D.pls 39 es) = true then some (.va (.bl (!(ks.length == js.length && eqDD js es ks ds)))) else none
  | _ => none
section
variable {K : PySem.W.Frag} {B : Hp}
theorem dget_none {k : Key} : ∀ {kvs : List (Key × V)} {ds : List D}, RepL K B ds (kvs.map (·.2)) → dGet (kvs.map (·.1)) ds k = none → L2.valV kvs k = none
  | [], _, _, _ => rfl
  | (j, v) :: r, [], h, _ => by
    have h : v :: r.map (·.2) = [] := h
    cases h
  | (j, v) :: r, d1 :: ds, ⟨v1, r1, e1, a, b⟩, h => by
    cases e1
    replace h : (if j = k then some d1 else dGet (r.map (·.1)) ds k) = none := h
    by_cases hk : j = k
    · rw [if_pos hk] at h
      cases h
    · rw [if_neg hk] at h
      rw [valV_neg (p := (j, v)) hk]
      exact dget_none b h
theorem dget_mem {k : Key} {d : D} : ∀ {ks : List Key} {ds : List D}, dGet ks ds k = some d → d ∈ ds
  | k1 :: ks, d1 :: ds, h => by
    replace h : (if k1 = k then some d1 else dGet ks ds k) = some d := h
    split at h
    · cases h; exact List.mem_cons_self
    · exact List.mem_cons_of_mem _ (dget_mem h)
  | [], _, h => by cases h
  | _ :: _, [], h => by cases h
theorem eqDD_hits {lvs : List (Key × V)} {es : List D} (pe : D.pls 39 es = true) (re : RepL K B es (lvs.map (·.2))) : ∀ {kvs : List (Key × V)} {ds : List D}, D.pls 39 ds = true → RepL K B ds (kvs.map (·.2)) → DHits K B lvs kvs (eqDD (lvs.map (·.1)) es (kvs.map (·.1)) ds)
  | [], _, _, _ => by unfold eqDD; exact .nil
  | (k, v) :: r, [], _, h => by
    have h : v :: r.map (·.2) = [] := h
    cases h
  | (k, v) :: r, d :: ds, hp, ⟨v1, r1, e1, a, b⟩ => by
    cases e1
    obtain ⟨h1, h2⟩ : d.pl 39 = true ∧ D.pls 39 ds = true := by rw [D.pls] at hp; exact Bool.and_eq_true_iff.mp hp
    show DHits K B lvs ((k, v) :: r) (match dGet (lvs.map (·.1)) es k with
      | some e => d.eqv e && eqDD (lvs.map (·.1)) es (r.map (·.1)) ds
      | none => false)
    cases hg : dGet (lvs.map (·.1)) es k with
    | none => exact .miss (dget_none re hg)
    | some e =>
      obtain ⟨y, hy, ry⟩ := dGet_rep re hg
      have he : e.pl 39 = true := pls_mono pe e (dget_mem hg)
      have h1' := pl_up h1
      have he' := pl_up he
      have := DHits.hit (K := K) (H := B) (ls := lvs) (k := k) (v := v) (r := r) hy (pl_dp h1' a) (pl_dp he' ry) (pl_shaped h1') (pl_shaped he') (eqDD_hits pe re h2 b)
      rw [eqv_toP h1' he'] at this
      exact this
theorem ps_neDD : PrS K (r2L (rEqDD K true)) pNeDD := PrS.val fun B H ds vs x e rp hg => by
  match ds, hg with
  | [.dct ks d1, .dct js e1], hg =>
    replace hg : (if (D.pls 39 d1 && D.pls 39 e1) = true then some (Sl.va (.bl (!(ks.length == js.length && eqDD js e1 ks d1)))) else none) = some x := hg
    split at hg
    · rename_i hp
      obtain ⟨ha, hb⟩ := Bool.and_eq_true_iff.mp hp
      cases hg
      obtain ⟨v, w, rfl, ⟨a, kvs, rfl, hka, rfl, r1⟩, b, lvs, rfl, hkb, rfl, r2⟩ := two_of rp
      refine ⟨_, .bl _, rfl, rfl, fun Q q => ⟨a, b, kvs, lvs, _, rfl, rfl, rd_mono e hka, rd_mono e hkb, eqDD_hits (B := H) hb (r2.mono e) ha (r1.mono e), ?_⟩⟩
      simpa using q
    · cases hg
def pDictOf : List D → Option Sl
  | [.dct ks ds] => some (.ow (.o1 (.dct ks ds)))
  | _ => none
theorem ps_dictOf : PrS K (fun xs H Q => ∃ (a : Addr) (kvs : List (Key × V)), xs = [.ref a] ∧ Rd H a (.dK kvs) ∧ ∀ p, H p = none → Q (.ref p) (upd H p (.dK kvs))) pDictOf := fun B H ds vs x e rp hg Q q => by
  match ds, hg with
  | [.dct ks d1], hg =>
    cases hg
    obtain ⟨v, rfl, a, kvs, rfl, ha, hk, rl⟩ := one_of rp
    refine ⟨a, kvs, rfl, rd_mono e ha, fun p hp => q (.ref p) B _ [p] (Ex.refl _) (Ex.new hp) (e.trans (Ex.new hp)) (fun _ _ z => .inl z) ⟨_, rfl, p, rfl, rfl, kvs, upd_same, hk, rl⟩ fun a z => ?_⟩
    cases List.mem_singleton.mp z
    exact ⟨hp, fresh_back e hp⟩
def pListOfD : List D → Option Sl
  | [.dct ks _] => some (.ow (.o1 (.lst (ks.map kyD))))
  | _ => none
end
variable {W : WX}
section
variable {X : Cx}
end
variable {W : WX}
theorem rep_keys {K : PySem.W.Frag} {B : Hp} : ∀ kvs : List (Key × L2.V), RepL K B ((kvs.map (·.1)).map kyD) (kvs.map fun kv => kV kv.1)
  | [] => rfl
  | p :: r => ⟨_, _, rfl, kyD_rep p.1, rep_keys r⟩
theorem ps_listOfD {K : PySem.W.Frag} : PrS K rListDK pListOfD := PrS.lst fun B H ds vs x e rp hg => by
  match ds, hg with
  | [.dct ks d1], hg =>
    cases hg
    obtain ⟨v, rfl, a, kvs, rfl, ha, rfl, rl⟩ := one_of rp
    exact ⟨_, _, rfl, rep_keys kvs, fun Q q => ⟨a, kvs, rfl, rd_mono e ha, q⟩⟩
section
variable {X : Cx} {CX : CXT} {k j : Nat} {C : Addr} {ps : List Str} {sp : Sp} {E : XK}
end
section
variable {X : Cx} {st : Stmt} {F : FnT} {f : En → Option (D × En)} {g : En → Option D} {E : XK} {c : Str} {i : Nat}
end
def okTy (cls : List Str) (l : List String) (d : D) : Bool := match d.ty with
  | .b t => l.contains t
  | .o c => cls.contains c
def xEqA (cls : List Str) (l : List String) (c : Str) (F : FnT) (f g : En → Option (D × En)) : En → Option (Bool × En) := fun e => (f e).bind fun p => (g p.2).bind fun q => match p.1 with
  | .obj c' ns ds => if c' = c ∧ okTy cls l q.1 = true then (F [.va (.obj c' ns ds), .va q.1]).bind fun r => (match r.1 with
    | .va (.bl b) => some (b, q.2)
    | _ => none) else none
  | _ => none
section
variable {X : Cx} {e : Expr} {c : Str} {F : FnT} {f g : En → Option (D × En)} {E : XK}
theorem rd_eqA {K : PySem.W.Frag} {cls : List Str} {sub : Str → Str → Bool} {l : List String} (CF : ClF K cls sub) (hn : ∀ t ∈ l, PySem.W.notFirst K (He.ga K c) (.type t) = true) (ho : ∀ d ∈ cls, PySem.W.notFirst K (He.ga K c) (.ref (He.ga K d)) = true) :
    ∀ σ H (Q : Bool → Hp → Prop), rdT K (xEqA cls l c F f g) σ H Q → tOp (rOwnC K (He.ga K c) (spM K 2 F) E) (rdV K f) (rdV K g) σ H fun x H1 => ∃ b, x = .bl b ∧ Q b H1 := fun σ H Q ⟨s, e1, e2, ok, b0, en', hf, q⟩ => by
  obtain ⟨⟨d, en1⟩, k1, k2⟩ := Option.bind_eq_some_iff.mp hf
  obtain ⟨⟨d2, en2⟩, k3, k4⟩ := Option.bind_eq_some_iff.mp k2
  match d, k4, k1 with
  | .obj c' ns ds, k4', k1 =>
    clear k4
    have k4 := k4'
    clear k4'
    replace k4 : (if c' = c ∧ okTy cls l d2 = true then (F [.va (.obj c' ns ds), .va d2]).bind fun r => (match r.1 with
      | .va (.bl b) => some (b, en2)
      | _ => none) else none) = some (b0, en') := k4
    split at k4
    · rename_i hcc
      obtain ⟨rfl, hty⟩ := hcc
      obtain ⟨⟨r1, en3⟩, k5, k6⟩ := Option.bind_eq_some_iff.mp k4
      match r1, k6, k5 with
      | .va (.bl b), k6, k5 =>
        cases k6
        refine ⟨s, e1, e2, ok, _, en1, k1, fun v t tσ te okt st rp => ⟨t, tσ, rfl, okt, _, _, by rw [te]; exact k3, fun w u uσ ue oku st2 rp2 => ?_⟩⟩
        obtain ⟨a, dx, kvs, rfl, hb, hk, rl⟩ := id rp
        have h1 : ∀ c, d2.ty = .o c → c ∈ cls := fun c z => by
          unfold okTy at hty
          rw [z] at hty
          exact List.contains_iff_mem.mp hty
        have h2 : PySem.W.notFirst K (He.ga K c') (d2.ty.u K) = true := by
          unfold okTy at hty
          cases hz : d2.ty with
          | b t => rw [hz] at hty; exact hn t (List.contains_iff_mem.mp hty)
          | o d => rw [hz] at hty; exact ho d (List.contains_iff_mem.mp hty)
        refine ⟨a, dx, kvs, _, rfl, oku.ex _ _ (st2.bb _ _ hb), ty_rep CF oku.ex rp2 h1, h2, ?_⟩
        refine call0 (ds := [.obj c' ns ds, d2]) oku (st.trans st2) ⟨_, [w], rfl, rp.mono st2.bb, w, [], rfl, rp2, rfl⟩ rfl k5 fun v w fr wσ we okw stw sl sd => ?_
        obtain ⟨_, v', ev, rv⟩ := sl
        cases ev
        rw [rv]
        exact ⟨_, rfl, q w (wσ.trans uσ) (we.trans ue) okw stw⟩
    · cases k4
theorem xt_eqA {cls : List Str} {sub : Str → Str → Bool} {l : List String} (CF : ClF X.K cls sub) (hn : ∀ t ∈ l, PySem.W.notFirst X.K (He.ga X.K c) (.type t) = true) (ho : ∀ d ∈ cls, PySem.W.notFirst X.K (He.ga X.K c) (.ref (He.ga X.K d)) = true) (h : PT X e (tTest (tOp (rOwnC X.K (He.ga X.K c) (spM X.K 2 F) E) (rdV X.K f) (rdV X.K g)))) : PT X e (rdT X.K (xEqA cls l c F f g)) :=
  PTi h (rd_eqA (E := E) CF hn ho)
end
theorem Fcts.all {fa : List FaV} {K : PySem.W.Frag} {mg : Str → Option Value} (V : Fcts fa K mg) {l : List Str} {p : PySem.W.Frag → Str → Bool} (i : Nat) (h : fa[i]? = some (.gen fun K => l.all fun d => p K d)) : ∀ d ∈ l, p K d = true := List.all_eq_true.mp (V.gen i h)
variable {W : WX}
section
variable {X : Cx} {CX : CXT} {k j : Nat} {C : Addr} {f : Str} {ps : List Str} {sp : Sp} {E : XK} {o value : Expr} {pos pos' : Pos} {ta tv : TE}
end
section
variable {X : Cx} {st : Stmt} {F : FnT} {f : En → Option (D × En)} {E : XK} {c : Str} {i : Nat}
end
def xItIO (f : En → Option (Sl × En)) : En → Option (List D × En) := fun e => (f e).bind fun p => match p.1 with
  | .ow (.o1 (.dct ks ds)) => some ((ks.zip ds).map fun q => .tup false [kyD q.1, q.2], p.2)
  | _ => none
theorem dk_it {K : PySem.W.Frag} {B : Hp} {a : Addr} {od : Obj} {l : List (Key × V)} {es : List D} (hb : B a = some (.frz od (.dK l))) (r : RepL K B es (l.map (·.2))) : ItOk K (Iti a od l) B (((l.map (·.1)).zip es).map fun p => D.tup false [kyD p.1, p.2]) := by
  have hle : es.length = l.length := by have := r.len; simp at this; exact this.symm
  have hlen : (((l.map (·.1)).zip es).map fun p => D.tup false [kyD p.1, p.2]).length = l.length := by simp; omega
  refine ⟨fun H' ex => ⟨ex _ _ hb, by rw [hlen]; exact Nat.le_refl _⟩, fun j H' ex hj => ⟨ex _ _ hb, by rw [hlen] at hj; exact hj⟩, fun j H' x H'' ex hj y => ?_⟩
  obtain ⟨T, kk, v, e, rfl, hT, rfl⟩ := y
  obtain ⟨d, hd, rd⟩ := r.atV (i := j) (v := v) (by simp [e])
  refine ⟨Ex.new hT, .tup false [kyD kk, d], ?_, fun B' eb el => ⟨upd B' T (.tup [kV kk, v]), Ex.new (fresh_back el hT), fun b o z => ?_, fun b o z => ?_, T, _, rfl, upd_same, kV kk, [v], rfl, kyD_rep kk, v, [], rfl, rd.mono (eb.trans (Ex.new (fresh_back el hT))), rfl⟩⟩
  · have hz : ((l.map (·.1)).zip es)[j]? = some (kk, d) := List.getElem?_zip_eq_some.mpr ⟨by simp [e], hd⟩
    rw [List.getElem?_map, hz]
    rfl
  · by_cases hb : b = T
    · subst hb; rw [upd_same] at z; rw [upd_same]; exact z
    · rw [upd_ne hb] at z; rw [upd_ne hb]; exact el b o z
  · by_cases hb : b = T
    · subst hb; exact .inr hT
    · rw [upd_ne hb] at z; exact .inl z
section
variable {X : Cx} {tg e : Expr} {f : En → Option (Sl × En)}
theorem xi_itemsO (h : PI X tg e (iItems (tFrz (rdE X.K f)))) : PI X tg e (rdI X.K (xItIO f)) := PIi h fun σ H R ⟨s, e1, e2, ok, ds, en', hf, q⟩ => by
  obtain ⟨⟨r, en1⟩, k1, k2⟩ := Option.bind_eq_some_iff.mp hf
  match r, k2, k1 with
  | .ow (.o1 (.dct ks es)), k2, k1 =>
    cases k2
    refine ⟨s, e1, e2, ok, _, en1, k1, fun v t fr tσ te okt st sl sd => ?_⟩
    obtain ⟨v', ev, ho⟩ := sl
    cases ev
    obtain ⟨j1, j2, j3⟩ := frz_res okt st ho sd
    obtain ⟨a, rfl, hfr, kvs, ha, hk, rl⟩ := id ho
    have haf : a ∈ fr := by rw [hfr]; exact List.mem_singleton.mpr rfl
    have hTB : joinB t.B t.H fr a = some (.dK kvs) := (joinB_in haf).trans ha
    refine ⟨a, .dK kvs, ha, trivial, fun od => ⟨a, od, kvs, rfl, upd_same, ?_⟩⟩
    let T : Sta := ⟨joinB t.B t.H fr, t.H, t.σ, t.en, t.fp⟩
    have okU : EnOk X.K (T.sw a (.frz od (.dK kvs))) := j1.sw hTB (.inl rfl) (.inr ⟨od, rfl⟩)
    have stU : Stp s (T.sw a (.frz od (.dK kvs))) := by
      refine ⟨fun b o z => ?_, fun b o z => ?_, fun b o z n nt => ?_, fun b z => ?_, j2.ff, j2.pn, j2.ln⟩
      · have hb : b ≠ a := fun w => by
          subst w
          have := st.bb _ _ z
          rw [sd.b _ haf] at this; cases this
        show upd (joinB t.B t.H fr) a _ b = some o
        rw [upd_ne hb]; exact j2.bb _ _ z
      · by_cases hb : b = a
        · subst hb; exact .inr (sd.new _ haf)
        · have z : upd (joinB t.B t.H fr) a _ b = some o := z
          rw [upd_ne hb] at z; exact j2.bn _ _ z
      · have hb : b ≠ a := fun w => by
          subst w
          rcases sd.new _ haf with y | y
          · rw [z] at y; cases y
          · exact n y
        show upd t.H a _ b = some o
        rw [upd_ne hb]; exact j2.hh _ _ z n nt
      · have z : upd t.H a _ b = none := z
        have hb : b ≠ a := fun w => by subst w; rw [upd_same] at z; cases z
        rw [upd_ne hb] at z; exact j2.dm _ z
    subst hk
    refine q (T.sw a (.frz od (.dK kvs))) _ tσ te okU stU (dk_it upd_same ?_)
    have rl2 : RepL X.K (joinB t.B t.H fr) es (kvs.map (·.2)) := rl.mono (joinB_ex sd.b)
    exact rl2.sw hTB (.inl rfl) (.inr ⟨od, rfl⟩)
end
theorem xItIO_e (f : En → Option (Sl × En)) (e : En) : xItIO f e = (@bnd _ _ (f e) ⟨fun p => match p.1 with
  | .ow (.o1 (.dct ks ds)) => some ((ks.zip ds).map fun q => .tup false [kyD q.1, q.2], p.2)
  | _ => none⟩) := rfl
theorem Fcts.fic {fa : List FaV} {K : PySem.W.Frag} {mg : Str → Option Value} (V : Fcts fa K mg) {c : Str} (i : Nat) (h : fa[i]? = some (.gen fun K => PySem.W.fnIn K (He.ma K (He.ga K c) "__call__"))) : ∀ f, PySem.W.findIn K (.ref (He.ga K c)) "__call__" = some (some (.ref f)) → PySem.W.fnIn K f = true := fun f hf => by
  have h1 : PySem.W.fnIn K (He.ma K (He.ga K c) "__call__") = true := V.gen i h
  unfold He.ma at h1
  rw [hf] at h1
  exact h1
section
variable {X : Cx} {e : Expr} {c m : Str} {n : Nat} {F : FnT} {f : En → Option (D × En)} {fa : En → Option (List D × En)} {E : XK}
theorem xe_co (h : PE X e (tCo (He.ga X.K c) (spM X.K n F) E (rdV X.K f) (rdA X.K fa))) : PE X e (rdE X.K (xMt c m n F f fa)) := PEi h fun σ H Q ⟨s, e1, e2, ok, r, en', hf, q⟩ => by
  obtain ⟨⟨d, en1⟩, k1, k2⟩ := Option.bind_eq_some_iff.mp hf
  cases d with
  | obj c' ns ds =>
    replace k2 : (if c' = c ∧ m ∉ ns then (fa en1).bind fun q => if q.1.length + 1 = n then (F (.va (.obj c' ns ds) :: q.1.map .va)).bind fun r => some (r.1, q.2) else none else none) = some (r, en') := k2
    split at k2
    · rename_i hc
      obtain ⟨rfl, hm⟩ := hc
      obtain ⟨⟨es, en2⟩, k3, k4⟩ := Option.bind_eq_some_iff.mp k2
      replace k4 : (if es.length + 1 = n then (F (.va (.obj c' ns ds) :: es.map .va)).bind fun r => some (r.1, en2) else none) = some (r, en') := k4
      split at k4
      · rename_i hl
        obtain ⟨⟨r1, en3⟩, k5, k6⟩ := Option.bind_eq_some_iff.mp k4
        cases k6
        refine ⟨s, e1, e2, ok, _, en1, k1, fun v t tσ te okt st rp => ?_⟩
        obtain ⟨a, dx, kvs, rfl, hb, hk, rl⟩ := id rp
        refine ⟨a, rfl, t, tσ, rfl, okt, es, _, by rw [te]; exact k3, fun vs u uσ ue oku st2 rps => ⟨⟨dx, kvs, oku.ex _ _ (st2.bb _ _ hb)⟩, ?_⟩⟩
        exact call0 (ds := .obj c' ns ds :: es) oku (st.trans st2) ⟨_, vs, rfl, rp.mono st2.bb, rps⟩ (by simpa using hl) k5 fun v w fr wσ we okw stw sl sd => q v w fr (wσ.trans uσ) (we.trans ue) okw stw sl sd
      · cases k4
    · cases k2
  | _ => cases k2
end
section
variable {X : Cx} {CX : CXT} {C : Addr} {ps : List Str} {n j : Nat} {sp : Sp} {E : XK}
end
section
variable {X : Cx} {e : Expr} {c : Str} {F : FnT} {f g : En → Option (D × En)} {E : XK}
end
section
variable {K : PySem.W.Frag}
end
section
variable {X : Cx} {e : Expr} {i : Nat}
end
section
variable {X : Cx} {es : List Expr} {gs : List D → En → Option En} {pos : Pos}
end
section
variable {X : Cx} {e : Expr} {c : Str} {F : FnT} {f g : En → Option (D × En)} {E : XK}
end
section
variable {K : PySem.W.Frag}
end
section
variable {K : PySem.W.Frag} {B : Hp}
end
section
variable {X : Cx} {e : Expr} {F : FnT} {fa : En → Option (List D × En)} {E : XK} {c : Str} {j : Nat}
end
section
variable {P : Program} {w : World} {K : PySem.W.Frag} {mg : Str → Option Value} {base : Heap} {k n : Nat} {f : Addr} {N ps : List Str} {b : En → Option Out} {fd : FuncData} {x qual pv : Str} {st : Stmt}
end
section
variable {X : Cx} {CX : CXT} {k j : Nat} {sp : Sp} {E : XK} {x : Str} {e : Expr} {es : List Expr} {t : TA} {p pos : Pos}
end
end Ag
namespace Ag
open PySem L2
local macro_rules | `(tactic| push_cast [$ls,*]) => `(tactic| simp -implicitDefEqProofs only [xFz_e, xUp_e, xVar_f, xC_e, xNil_e, xCons_e, xPr_e, xB_e, xAnd_e, xOr_e, xNot_e, xOfB_e, xIfE_e, xYes_e, xChain_f, chB_b, xSet_e, xDrop_e, xRet_e, xRetN_e, xRetV_e, xNx_e, xBk_e, xCt_e, xNever_e, xIf_e, xSeq_e, gNm_e, gTp_e, gsNil_e, gsCons_e, xAsg_e, xPar_e, xFor_e, xItL_e, xItT_e, xItR1_e, xItR2_e, xItE_e, xItEt_e, gPutD_e, fnM_e, xCall_e, xMt_e, xPrp_e, xFld_e, xBor_e, xBorV_e, xBorT_e, xCallM_e, xMtM_e, xMk_e, qVar_e, qC_e, xIxP_e, xPutP_e, xInP_e, xApp_e, xExt_e, xFldS_e, xFS_e, xLc_e, xSl_e, xStar_e, xIsi_e, xIsi2_e, xO2_e, xLenO_e, xEqO_e, xDict0_e, xAndV_e, xOrV_e, bnd_some, bnd_none, xeNo_e, mkO_e, xAllL_n, xAllL_c, xMtT_e, xFnT2_e, xDict0T_e, xDisp_e, xGet2_e, xMkR_e, xMkS_e, xMkK_e, xDUp_e, xMv_e, xItK_e, xItI_e, xKl_e, xKb_e, xFr_e, killO_nx, killO_rt, killO_bk, killO_ct, killB_nx, killB_rt, killB_bk, killB_ct, klM_n, klM_t, klM_f, kill_pw, kill_ow, kill_va, kill_no, frE_z, frE_s, frz_pw, frz_ow, frz_va, frz_no, Option.bind_some, Option.bind_none, List.getElem?_cons_zero, List.getElem?_cons_succ, List.getElem?_nil, List.set_cons_zero, List.set_cons_succ, List.map_cons, List.map_nil, List.length_cons, List.length_nil, List.cons_append, List.nil_append, List.replicate_succ, List.replicate_zero, viewE, view_va, view_ow, view_no, view_pw, fz_va, fz_ow, fz_no, fz_pw, own_va, own_ow, own_no, own_pw, ofz_1, ofz_2, o1_l, o1_d, o1_t, fvz_v, fvz_o, putS_e, putR, np_no, np_va, np_ow, np_pw, np_view, freeS_e, Option.map_some, Option.map_none, Option.getD_some, Option.getD_none, pEq_i, pNe_i, pInT_e, pNinT_e, pIsN_e, pNotN_e, pIsB_e, pNotB_e, fl_n, fl_i, fl_s, fl_b, isN_n, isN_i, isN_t, isN_s, isN_b, isN_l, ownAt, reAt, pinned, leafAt, setLeaf, getO, putO, isLst, List.any_cons, List.any_nil, Bool.or_true, Bool.true_or, Bool.or_false, Bool.false_or, Bool.not_true, Bool.not_false, Bool.and_true, Bool.true_and, Bool.and_false, Bool.false_and, D.flat, D.flatL, D.leaf, Sl.leaf, O1.leaf, O2.leaf, Fv.leaf, wipeE, List.all_cons, List.all_nil, if_true, if_false, ite_true, ite_false, reduceIte, Bool.false_eq_true, decide_true, decide_false, reduceCtorEq, and_self, true_and, and_true, and_false, false_and, ixN_lit, ixN_nat, atI_nat, pLst_e, pTup_e, Nat.reduceAdd, Nat.reduceLT, Nat.reduceLeDiff, Nat.lt_add_left_iff_pos, Nat.zero_lt_succ, pPow_e, Int.reducePow, Int.reduceToNat, Int.reduceLT, not_true_eq_false, not_false_eq_true, pAdd_e, pSub_e, pLt_e, pLe_e, pGt_e, pGe_e, pNeg_e, pMul_e, pDiv_e, pMod_e, pAbs_e, pInt_e, pMax2_e, pMin2_e, pLenL_e, pLenS_e, pLenT_e, pIxL_e, pIxS_e, pIxT_e, atI_lit, ge_iff_le, gt_iff_lt, $ls,*])
local macro_rules | `(tactic| dsimp! [$ls,*]) => `(tactic| (push_cast [$ls,*]; repeat (with_reducible refine res_step ?_; push_cast [$ls,*])))
local macro_rules | `(tactic| simp_all! [$ls,*]) => `(tactic| dsimp! [isD_non_int, isD_non_bool, isD_non_str, isD_non_list, isD_non_tuple, isD_non_dict, isD_non_o, isD_bl_int, isD_bl_bool, isD_bl_str, isD_bl_list, isD_bl_tuple, isD_bl_dict, isD_bl_o, isD_int_int, isD_int_bool, isD_int_str, isD_int_list, isD_int_tuple, isD_int_dict, isD_int_o, isD_str_int, isD_str_bool, isD_str_str, isD_str_list, isD_str_tuple, isD_str_dict, isD_str_o, isD_scr_int, isD_scr_bool, isD_scr_str, isD_scr_list, isD_scr_tuple, isD_scr_dict, isD_scr_o, isD_lst_int, isD_lst_bool, isD_lst_str, isD_lst_list, isD_lst_tuple, isD_lst_dict, isD_lst_o, isD_tup_int, isD_tup_bool, isD_tup_str, isD_tup_list, isD_tup_tuple, isD_tup_dict, isD_tup_o, isD_dct_int, isD_dct_bool, isD_dct_str, isD_dct_list, isD_dct_tuple, isD_dct_dict, isD_dct_o, isD_dcT_int, isD_dcT_bool, isD_dcT_str, isD_dcT_list, isD_dcT_tuple, isD_dcT_dict, isD_dcT_o, isD_obj_o, $ls,*])
local macro_rules | `(tactic| walk_at "rb") => `(tactic| repeat (with_reducible refine res_bind ?_))
theorem xRaise_e (c : Str) (fls : List Str) (fa : En → Option (List D × En)) (e : En) : xRaise c fls fa e = ((@bnd _ _ ((fa e)) ⟨fun p => if p.1.length = fls.length then some (.ex ⟨c, fls, p.1⟩ p.2) else none⟩)) := rfl
theorem xCallX_e (n : Nat) (F : FnX) (fa : En → Option (List D × En)) (e : En) : xCallX n F fa e = ((@bnd _ _ ((fa e)) ⟨fun p => if p.1.length = n then ((@bnd _ _ (F (p.1.map .va)) ⟨fun r => some (r.1, p.2)⟩)) else none⟩)) := rfl
theorem xMtX_e (c m : Str) (n : Nat) (F : FnX) (f : En → Option (D × En)) (fa : En → Option (List D × En)) (e : En) : xMtX c m n F f fa e = ((@bnd _ _ ((f e)) ⟨fun p => match p.1 with
  | .obj c' ns ds => if c' = c ∧ m ∉ ns then ((@bnd _ _ ((fa p.2)) ⟨fun q => if q.1.length + 1 = n then ((@bnd _ _ (F (.va (.obj c' ns ds) :: q.1.map .va)) ⟨fun r => some (r.1, q.2)⟩)) else none⟩)) else none
  | _ => none⟩)) := rfl
theorem xRepr_e (fa : En → Option (List D × En)) (e : En) : xRepr fa e = (@bnd _ _ (fa e) ⟨fun p => (@bnd _ _ (reprL p.1) ⟨fun x => some (.str x, p.2)⟩)⟩) := rfl
theorem fnX_e (n : Nat) (b : En → Option Out) (as : En) : fnX n b as = (@bnd _ _ (b (as ++ List.replicate n .no)) ⟨fun o => match o with
  | .rt r e => some (.ok r, pinned as e)
  | .nx e => some (.ok (.va .non), pinned as e)
  | .ex r e => some (.er r, pinned as e)
  | _ => none⟩) := rfl
section
variable {g : D → En → Option En} {b : En → Option Out}
end
end Ag
namespace Ag
open PySem PySem.Spec PyProof.Rows L2 Evl LamX
local macro_rules | `(tactic| push_cast [$ls,*]) => `(tactic| simp -implicitDefEqProofs only [xFz_e, xUp_e, xVar_f, xC_e, xNil_e, xCons_e, xPr_e, xB_e, xAnd_e, xOr_e, xNot_e, xOfB_e, xIfE_e, xYes_e, xChain_f, chB_b, xSet_e, xDrop_e, xRet_e, xRetN_e, xRetV_e, xNx_e, xBk_e, xCt_e, xNever_e, xIf_e, xSeq_e, gNm_e, gTp_e, gsNil_e, gsCons_e, xAsg_e, xPar_e, xFor_e, xItL_e, xItT_e, xItR1_e, xItR2_e, xItE_e, xItEt_e, gPutD_e, fnM_e, xCall_e, xMt_e, xPrp_e, xFld_e, xBor_e, xBorV_e, xBorT_e, xCallM_e, xMtM_e, xMk_e, qVar_e, qC_e, xIxP_e, xPutP_e, xInP_e, xApp_e, xExt_e, xFldS_e, xFS_e, xLc_e, xSl_e, xStar_e, xIsi_e, xIsi2_e, xO2_e, xLenO_e, xEqO_e, xDict0_e, xAndV_e, xOrV_e, bnd_some, bnd_none, xeNo_e, mkO_e, xAllL_n, xAllL_c, xMtT_e, xFnT2_e, xDict0T_e, xDisp_e, xGet2_e, xMkR_e, xMkS_e, xMkK_e, xDUp_e, xMv_e, xItK_e, xItI_e, xKl_e, xKb_e, xFr_e, killO_nx, killO_rt, killO_bk, killO_ct, killB_nx, killB_rt, killB_bk, killB_ct, klM_n, klM_t, klM_f, kill_pw, kill_ow, kill_va, kill_no, frE_z, frE_s, frz_pw, frz_ow, frz_va, frz_no, Option.bind_some, Option.bind_none, List.getElem?_cons_zero, List.getElem?_cons_succ, List.getElem?_nil, List.set_cons_zero, List.set_cons_succ, List.map_cons, List.map_nil, List.length_cons, List.length_nil, List.cons_append, List.nil_append, List.replicate_succ, List.replicate_zero, viewE, view_va, view_ow, view_no, view_pw, fz_va, fz_ow, fz_no, fz_pw, own_va, own_ow, own_no, own_pw, ofz_1, ofz_2, o1_l, o1_d, o1_t, fvz_v, fvz_o, putS_e, putR, np_no, np_va, np_ow, np_pw, np_view, freeS_e, Option.map_some, Option.map_none, Option.getD_some, Option.getD_none, pEq_i, pNe_i, pInT_e, pNinT_e, pIsN_e, pNotN_e, pIsB_e, pNotB_e, fl_n, fl_i, fl_s, fl_b, isN_n, isN_i, isN_t, isN_s, isN_b, isN_l, ownAt, reAt, pinned, leafAt, setLeaf, getO, putO, isLst, List.any_cons, List.any_nil, Bool.or_true, Bool.true_or, Bool.or_false, Bool.false_or, Bool.not_true, Bool.not_false, Bool.and_true, Bool.true_and, Bool.and_false, Bool.false_and, D.flat, D.flatL, D.leaf, Sl.leaf, O1.leaf, O2.leaf, Fv.leaf, wipeE, List.all_cons, List.all_nil, if_true, if_false, ite_true, ite_false, reduceIte, Bool.false_eq_true, decide_true, decide_false, reduceCtorEq, and_self, true_and, and_true, and_false, false_and, ixN_lit, ixN_nat, atI_nat, pLst_e, pTup_e, Nat.reduceAdd, Nat.reduceLT, Nat.reduceLeDiff, Nat.lt_add_left_iff_pos, Nat.zero_lt_succ, pPow_e, Int.reducePow, Int.reduceToNat, Int.reduceLT, not_true_eq_false, not_false_eq_true, pAdd_e, pSub_e, pLt_e, pLe_e, pGt_e, pGe_e, pNeg_e, pMul_e, pDiv_e, pMod_e, pAbs_e, pInt_e, pMax2_e, pMin2_e, pLenL_e, pLenS_e, pLenT_e, pIxL_e, pIxS_e, pIxT_e, atI_lit, ge_iff_le, gt_iff_lt, $ls,*])
local macro_rules | `(tactic| dsimp! [$ls,*]) => `(tactic| (push_cast [$ls,*]; repeat (with_reducible refine res_step ?_; push_cast [$ls,*])))
local macro_rules | `(tactic| simp_all! [$ls,*]) => `(tactic| dsimp! [isD_non_int, isD_non_bool, isD_non_str, isD_non_list, isD_non_tuple, isD_non_dict, isD_non_o, isD_bl_int, isD_bl_bool, isD_bl_str, isD_bl_list, isD_bl_tuple, isD_bl_dict, isD_bl_o, isD_int_int, isD_int_bool, isD_int_str, isD_int_list, isD_int_tuple, isD_int_dict, isD_int_o, isD_str_int, isD_str_bool, isD_str_str, isD_str_list, isD_str_tuple, isD_str_dict, isD_str_o, isD_scr_int, isD_scr_bool, isD_scr_str, isD_scr_list, isD_scr_tuple, isD_scr_dict, isD_scr_o, isD_lst_int, isD_lst_bool, isD_lst_str, isD_lst_list, isD_lst_tuple, isD_lst_dict, isD_lst_o, isD_tup_int, isD_tup_bool, isD_tup_str, isD_tup_list, isD_tup_tuple, isD_tup_dict, isD_tup_o, isD_dct_int, isD_dct_bool, isD_dct_str, isD_dct_list, isD_dct_tuple, isD_dct_dict, isD_dct_o, isD_dcT_int, isD_dcT_bool, isD_dcT_str, isD_dcT_list, isD_dcT_tuple, isD_dcT_dict, isD_dcT_o, isD_obj_o, $ls,*])
local macro_rules | `(tactic| walk_at "rb") => `(tactic| repeat (with_reducible refine res_bind ?_))
section
variable {X : Cx} {pins : List (Addr × Obj)} {σ : L2.St} {H : Hp} {s : Shared}
structure LamN (X : Cx) (pins : List (Addr × Obj)) (σ : L2.St) (H : Hp) (T : List (Addr × Str)) (q : Str) (params : Arguments) (body : Expr) (scope : Scope) (f c' : Addr) (H1 : Hp) (s' : Shared) : Prop where
  inv : Inv X pins σ H1 s'
  kp : ∀ a o, H a = some o → NTbl o → H1 a = some o
  dm : ∀ a, H1 a = none → H a = none
  tb : Tabs T H1
  obj : ∃ pm ctv, s'.heap.get? f = some (PySem.W.kla_obj "<lambda>" q params body scope (cloFrom X.env.cells scope.names []) pm c' ctv)
  nf : H1 f = none
  fr : f ∉ frs X.stack
  code : H1 c' = some (CodeO c' q)
theorem tabs_more {T : List (Addr × Str)} {H : Hp} {P c' : Addr} {q : Str} {ps : Array Value} {pos : Pos} (hT : Tabs T H) (hP : H P = some (.tbl ps)) (ht : TriplesOk ps.toList) (ha : ∀ (pos : Pos) (cv : Value), codeAmong pos ps.toList = some cv → ∃ c, cv = .ref c ∧ H c = some (CodeO c q))
    (hu : ∀ p ∈ T, p.1 = P → p.2 = q) (nC : H c' = none) : Tabs T (upd (upd H P (.tbl (ps ++ #[rawInt pos.line, rawInt pos.col, .ref c']))) c' (CodeO c' q)) := by
  have nPc : P ≠ c' := by rintro rfl; rw [hP] at nC; cases nC
  have kp : ∀ a o, H a = some o → NTbl o → upd (upd H P (.tbl (ps ++ #[rawInt pos.line, rawInt pos.col, .ref c']))) c' (CodeO c' q) a = some o := fun a o e n => by
    have n1 : a ≠ c' := by rintro rfl; rw [nC] at e; cases e
    have n2 : a ≠ P := by rintro rfl; rw [hP] at e; cases e; exact n ps rfl
    rw [upd_ne n1, upd_ne n2]; exact e
  have cn : ∀ c r, NTbl (CodeO c r) := fun c r => codeO_ne
  intro p hp
  by_cases hb : p.1 = P
  · have eq : p.2 = q := hu p hp hb
    have el : (ps ++ #[rawInt pos.line, rawInt pos.col, Value.ref c']).toList = ps.toList ++ [rawInt pos.line, rawInt pos.col, .ref c'] := by simp
    refine ⟨_, by rw [hb, upd_ne nPc, upd_same], by rw [el]; exact PySem.TriplesOk_snoc _ _ _ _ ht, fun p2 cv hcv => ?_⟩
    rw [el] at hcv
    rw [eq]
    rcases among_app _ ht hcv with z | rfl
    · obtain ⟨c0, rfl, h2⟩ := ha p2 cv z
      exact ⟨c0, rfl, kp _ _ h2 (cn _ _)⟩
    · exact ⟨c', rfl, upd_same⟩
  · obtain ⟨ps2, a1, a2, a3⟩ := hT p hp
    have n1 : p.1 ≠ c' := by intro z; rw [z, nC] at a1; cases a1
    refine ⟨ps2, by rw [upd_ne n1, upd_ne hb]; exact a1, a2, fun p2 cv hcv => ?_⟩
    obtain ⟨c0, h1, h2⟩ := a3 p2 cv hcv
    exact ⟨c0, h1, kp _ _ h2 (cn _ _)⟩
theorem lam_new {T : List (Addr × Str)} {c P : Addr} {q : Str} {params : Arguments} {body : Expr} {scope : Scope} {pos : Pos} {E : Value → Shared → Prop} {Q : Value → Shared → Prop} (I : Inv X pins σ H s) (TB : TabB X.base X.mg c P) (hcode : X.env.code = .ref c) (hq : X.env.qual ++ "<lambda>" = q)
    (hm : (P, q) ∈ T) (hu : ∀ p ∈ T, p.1 = P → p.2 = q) (hT : Tabs T H) (hdef : defaultsOf params X.env = ([], [])) (hfree : ∀ y ∈ scope.names, y.2 = .free → ∃ c, X.env.cells.lookup y.1 = some c)
    (h : ∀ f c' H1 s', LamN X pins σ H T q params body scope f c' H1 s' → Q (.ref f) s') : wpAny (model X.prog X.w) X.A (eval (.Lambda params body scope pos) X.env) Q E s := by
  subst hq
  obtain ⟨ps, hP, ht, ha⟩ := hT _ hm
  have bP : s.heap.BuiltinsAt X.mg P := TB.bm.keeps I.bk
  have oP : s.heap.get? P = some { cls := .none, data := .fields ps } := I.hok P _ hP
  have out : ∀ f, s.heap.objs.size ≤ f → f ∉ frs X.stack := fun f hf z => (List.mem_cons.mp (I.stkSub _ z)).elim
    (fun e => by
      have h1 := I.lt
      rw [← e] at h1
      exact absurd (Nat.lt_of_lt_of_le h1 hf) (Nat.lt_irrefl _))
    (fun e => I.nofs hf e)
  refine PySem.W.kla_eval hdef ?_
  match hc : codeAmong pos ps.toList with
  | some cv =>
    obtain ⟨c', rfl, hco⟩ := ha pos cv hc
    refine PySem.W.kla_makeFunctionHit (mg := X.mg) (c := c) (P := P) (ps := ps) (closure_ok hfree) I.ok.glob (I.mod.glob.keeps I.bk) hcode (TB.code.keeps I.bk) oP ht hc bP fun ctv h' tk hx hsz => ?_
    exact h _ c' H _ ⟨I.kept fun b o e => Heap.get?_push_of_some _ (hx b o e), fun _ _ e _ => e, fun _ e => e, hT, ⟨_, ctv, Heap.get?_push_size _ rfl⟩, I.hok.fresh hsz, out _ hsz, hco⟩
  | none =>
    refine PySem.W.kla_makeFunction (mg := X.mg) (c := c) (P := P) (ps := ps) (closure_ok hfree) I.ok.glob (I.mod.glob.keeps I.bk) hcode (TB.code.keeps I.bk) oP ht hc TB.gP bP fun c' ctv h' tk hx hge hlt hrec htb => ?_
    obtain ⟨_, oc, vs, t, e2, hoc, hd, hv⟩ := hrec
    cases e2
    have nC : H c' = none := I.hok.fresh hge
    have hsz : s.heap.objs.size ≤ h'.objs.size := Nat.le_of_lt (Nat.lt_of_le_of_lt hge hlt)
    have nf0 : H h'.objs.size = none := I.hok.fresh hsz
    have nfc : h'.objs.size ≠ c' := Nat.ne_of_gt hlt
    have nfP : h'.objs.size ≠ P := by intro z; rw [z, hP] at nf0; cases nf0
    have J := inv_table (t' := tk) (more := #[rawInt pos.line, rawInt pos.col, .ref c']) (q := X.env.qual ++ "<lambda>") (h' := h'.push (PySem.W.kla_obj "<lambda>" (X.env.qual ++ "<lambda>") params body scope (cloFrom X.env.cells scope.names []) ((X.mg "__name__").getD .none) c' ctv)) I hP
      (fun b o hb e => Heap.get?_push_of_some _ (hx b o hb e)) (Heap.get?_push_of_some _ htb) hge ⟨oc, vs, t, Heap.get?_push_of_some _ hoc, hd, hv⟩
    refine h _ c' _ _ ⟨J, fun a o e n => ?_, fun a e => ?_, tabs_more hT hP ht ha hu nC, ⟨_, ctv, Heap.get?_push_size _ rfl⟩, by rw [upd_ne nfc, upd_ne nfP]; exact nf0, out _ hsz, upd_same⟩
    · have n1 : a ≠ c' := by rintro rfl; rw [nC] at e; cases e
      have n2 : a ≠ P := by rintro rfl; rw [hP] at e; cases e; exact n ps rfl
      rw [upd_ne n1, upd_ne n2]; exact e
    · by_cases n1 : a = c'
      · rw [n1, upd_same] at e; cases e
      · rw [upd_ne n1] at e
        by_cases n2 : a = P
        · rw [n2, upd_same] at e; cases e
        · rw [upd_ne n2] at e; exact e
end
theorem takes_len {X : Cx} {W : WX} (tk : Takes X W) : Takes X (fun cls d σ H => σ.length = X.N.length → W cls d σ H) := fun u s1 x => by
  obtain ⟨a, B, sI, p2, τ, G, cls, d, e1, J, r1, r2, r3, r4, r5, r6, w⟩ := x
  exact tk u s1 ⟨a, B, sI, p2, τ, G, cls, d, e1, J, r1, r2, r3, r4, r5, r6, w J.len⟩
section
variable {K : PySem.W.Frag}
theorem back1 {t z u : Sta} (hB : z.B = t.B) (hH : z.H = t.H) (hf : ∀ i, z.fp i = []) (ok : EnOk K t) (oku : EnOk K u) (st : Stp z u) :
    EnOk K ⟨u.B, u.H, t.σ, t.en, t.fp⟩ ∧ Stp t ⟨u.B, u.H, t.σ, t.en, t.fp⟩ ∧ ∀ fr, Side z u fr → Side t ⟨u.B, u.H, t.σ, t.en, t.fp⟩ fr := by
  obtain ⟨zB, zH, zσ, ze, zf⟩ := z
  replace hB : zB = t.B := hB
  replace hH : zH = t.H := hH
  subst hB hH
  replace hf : ∀ i, zf i = [] := hf
  have ok2 : EnOk K ⟨u.B, u.H, [], [], fun _ => []⟩ := ⟨oku.ex, rfl, fun i x e => (by simp at e), fun _ _ => rfl, fun _ _ _ h => (by cases h), fun _ _ h => (by cases h), oku.nt, oku.tb⟩
  have nf : ∀ a, ¬ inF zf a := fun a ⟨i, h⟩ => by rw [hf i] at h; cases h
  have st2 : Stp (argS t [] []) ⟨u.B, u.H, [], [], fun _ => []⟩ := by
    refine ⟨st.bb, fun a o e => ?_, fun a o e _ n => st.hh a o e (nf a) n, fun a e => st.dm a e, fun a ⟨_, h⟩ => (by cases h), fun i o e => (by cases (show none = some (Sl.pw o) from e)), rfl⟩
    rcases st.bn a o e with h | h | h
    · exact .inl h
    · exact .inr (.inl h)
    · exact (nf a h).elim
  obtain ⟨k1, k2⟩ := back0 (ds := []) ok ok2 st2
  refine ⟨k1, k2, fun fr sd => ?_⟩
  have sd2 : Side (argS t [] []) ⟨u.B, u.H, [], [], fun _ => []⟩ fr := ⟨fun a _ ⟨_, h⟩ => (by cases h), sd.b, fun a ha => (sd.new a ha).elim (fun h => .inl h) fun h => (nf a h).elim⟩
  have := back0_side (ds := []) ok sd2
  exact this
end
def Rf (P : Program) (w : World) (K : PySem.W.Frag) (mg : Str → Option Value) (base : Heap) (x : Str) (kb n : Nat) (fe : En → Option (Sl × En)) (l : List Hd) (m3 : En → Option Out) : Prop :=
  ∃ (f : Addr) (fd : FuncData) (a : Str) (st : Stmt) (N : List Str) (st1 ret : Stmt) (h0 : ExceptHandler) (hd : List ExceptHandler) (p1 p2 p3 p4 : Pos), mg x = some (.ref f) ∧ FunD K x x (defArgs st) (defBody st) (defScope st) [] [] f fd ∧ Binds K fd [a] [] ∧ FnScope N [a] (defScope st) ∧
    N.length = n + 1 ∧ N.Nodup ∧ N[0]? = some a ∧ Vis (defScope st) a ∧ (a == ("__debug__" : Str)) = false ∧ (a == ("__classdict__" : Str)) = false ∧ defBody st = [st1, .Try [.Expr (.Call (.Name a p1) [] [] p2) p3] (h0 :: hd) [] [] p4, ret] ∧
    ∀ (cdv : Value) (A : Around) (outer : List Env) (s : Shared) (H : Hp) (E : XK), A.guards = some [] → Room kb (A.deeper (envOfC x (defScope st) s.heap.objs.size f cdv)) →
      PS (cxOf CX0 P w K mg base N x (defScope st) f cdv A outer s H E).nox st1 (tAsg (rdE K fe) (gName 1)) ∧ HdsU (cxOf CX0 P w K mg base N x (defScope st) f cdv A outer s H E).nox wF (h0 :: hd) l ∧ PS (cxOf CX0 P w K mg base N x (defScope st) f cdv A outer s H E).nox ret (rdS K wF m3)
def rfO (mt : Str → Str → Option Bool) (n : Nat) (l : List Hd) (m3 : En → Option Out) (er : Er) : Option Sl := (handX mt er l (List.replicate (n + 1) .no)).bind fun o => match o with
  | .nx e3 => (m3 e3).bind fun o3 => (match o3 with
    | .rt r _ => some r
    | _ => none)
  | _ => none
def xRf (mt : Str → Str → Option Bool) (n : Nat) (fe : En → Option (Sl × En)) (l : List Hd) (m3 : En → Option Out) (bX : En → Option (Rs × En)) : En → Option (Sl × En) := fun e => (fe (List.replicate (n + 1) .no)).bind fun _ => (bX e).bind fun p => match p.1 with
  | .ok _ => none
  | .er er => (rfO mt n l m3 er).bind fun r => some (r, p.2)
section
variable {X : Cx} {x : Str} {kb kl n j : Nat} {fe : En → Option (Sl × En)} {l : List Hd} {m3 : En → Option Out} {mt : Str → Str → Option Bool} {bX : En → Option (Rs × En)} {c P : Addr} {q : Str} {params : Arguments} {body : Expr} {scope : Scope} {p lpos pos : Pos}
theorem xe_lam (R : Rf X.prog X.w X.K X.mg X.base x kb n fe l m3) (hM : ∀ a b r, mt a b = some r → PySem.W.exmOne X.K (.ref (He.ga X.K a)) (.ref (He.ga X.K b)) = some r) (hG : X.A.guards = some []) (hr : Room j X.A) (hg : Gl X x)
    (TB : TabB X.base X.mg c P) (hcode : X.env.code = .ref c) (hq : X.env.qual ++ "<lambda>" = q) (hmT : (P, q) ∈ tabL X.K) (hu : ∀ p ∈ tabL X.K, p.1 = P → p.2 = q) (L : LamS X.env.scope scope) (hdef : defaultsOf params X.env = ([], []))
    (hbind : ∀ (q : Str) (cl : List (Str × Addr)) (pm cv ctv : Value), bindArgs (PySem.W.kla_fn "<lambda>" q params body scope cl pm cv ctv) ⟨[], []⟩ = pure [])
    (hbody : ∀ (A : Around) (outer : List Env) (s : Shared) (H : Hp) (E : XK) (f c' : Addr), Room kl (A.deeper (lamEnv X scope s.heap.objs.size f c')) → PE (lamCx X A outer s H E scope f c') body (rdX X.K (wE E) bX))
    (hkj : kl + 2 ≤ j) (hkb : kb ≤ kl + 1) (hdb : (x == ("__debug__" : Str)) = false := by decide) :
    PE X (.Call (.Name x p) [.Lambda params body scope lpos] [] pos) (rdE X.K (xRf mt n fe l m3 bX)) := by
  obtain ⟨g, fd, a, st, N, st1, ret, h0, hd, p1, p2, p3, p4, hm, F, hb, S, hNl, hNn, hN0, hva, hda, hca, hB, hR⟩ := R
  obtain ⟨oc, od, dV, kV, doc, pm, an, cdv, ct, osl, rfl, lk, hcd, _, _⟩ := F.ex
  refine ⟨fun pins s0 σ H Q I ⟨s, e1, e2, ok, r, en', hf, qq⟩ => ?_⟩
  subst e1 e2
  obtain ⟨⟨x1, en1⟩, k1, k2⟩ := Option.bind_eq_some_iff.mp hf
  obtain ⟨⟨rs, en2⟩, k3, k4⟩ := Option.bind_eq_some_iff.mp k2
  cases rs with
  | ok x => cases k4
  | er er =>
  obtain ⟨r2, k5, k6⟩ := Option.bind_eq_some_iff.mp k4
  cases k6
  obtain ⟨o, k7, k8⟩ := Option.bind_eq_some_iff.mp k5
  match o, k8, k7 with
  | .nx e3, k8, k7 =>
  obtain ⟨o3, k9, k10⟩ := Option.bind_eq_some_iff.mp k8
  match o3, k10, k9 with
  | .rt r3 e4, k10, k9 =>
  cases k10
  refine wpAny_Call_Name_kw (ld_glob I hg hm ?_ hdb)
  refine PySem.W.callWith_K (h₀ := X.base) I.ok.mod.kin F.kp ?_ (by rfl) (by rfl)
  show wpAny _ _ (spliced ((false, eval (.Lambda params body scope lpos) X.env) :: backTo pos (starEach [] X.env))) _ _ _
  refine Calls.spliced_cons (lam_new I TB hcode hq hmT hu ok.tb hdef (L.has I.ok) fun f' c' H1 s' N1 => Calls.spliced_nil ⟨N1.inv.kIn, ?_⟩)
  obtain ⟨pm', ctv, hobj⟩ := N1.obj
  -- the maker's state behind the making
  have okM : EnOk X.K ⟨s.B, H1, s.σ, s.en, s.fp⟩ := by
    refine ⟨fun b o e => N1.kp b o (ok.ex b o e) (ok.nt b o e), ok.len, fun i y e => ?_, ok.out, ok.dj, ok.off, ok.nt, N1.tb⟩
    obtain ⟨ov, e1, h1⟩ := ok.sl i y e
    exact ⟨ov, e1, h1.mono (Ex.refl _) fun b hb => by
      obtain ⟨w, hw, mw⟩ := h1.cell b hb
      rw [hw]; exact N1.kp b w hw (.of mw)⟩
  have stM : Stp s ⟨s.B, H1, s.σ, s.en, s.fp⟩ := ⟨Ex.refl _, fun _ _ h => .inl h, fun b o e _ n => N1.kp b o e n, fun b e => N1.dm b e, fun _ h => .inl h, fun _ o h => ⟨rfl, o, h⟩, rfl⟩
  have rc : codeAny (model X.prog X.w) X.A (.call (.ref g) ⟨[.ref f'], []⟩) (CR CX0 X.stack X.prog X.w H1 s' Q fun _ _ _ => False) s' := by
    refine run_ofS (N := N) (ps := [a]) (us := [.ref f']) (vs := [.ref f']) lk hcd S (hr.mono hkj) N1.inv.env0 (hb s' [.ref f'] N1.inv.kIn rfl) (.cons rfl .nil) rfl fun hr' => ?_
    obtain ⟨q1, q2, q3⟩ := hR cdv X.A X.stack s' H1 (fun _ _ _ => False) hG (hr'.mono hkb)
    have hσ0 : (L2.start N [V.ref f'])[0]? = some (some (.ref f')) := rfl
    have hσl : (L2.start N [V.ref f']).length = n + 1 := by
      unfold L2.start
      rw [List.length_append, List.length_replicate, hNl]
      simp [List.length_map]; omega
    let Z := (cxOf CX0 X.prog X.w X.K X.mg X.base N x (defScope st) g cdv X.A X.stack s' H1 fun _ _ _ => False).nox
    have act : ∀ (W : WX) (pn : List (Addr × Obj)) (xe : Value → Shared → Prop) (E : XK) (p1 p2 : Pos), Takes (Z.tr pn xe) W → (∀ cls d σ' H', E cls d H' → W cls d σ' H') →
        PE (Z.tr pn xe) (.Call (.Name a p1) [] [] p2) (fun σZ HZ Q => σZ[0]? = some (some (.ref f')) ∧ HZ c' = some (CodeO c' (X.env.qual ++ "<lambda>")) ∧ rdX X.K (wE E) bX s.σ HZ Q) := fun W pn xe E p1 p2 tk hW =>
      pe_act (CXg := CX0) (Eg := fun _ _ _ => False) (k := kl) (i := 0) N1.inv L (by rw [hq]; exact hobj) N1.nf N1.fr (hbind _ _ _ _ _) tk hW hr' (fun A outer s H hr2 => hbody A outer s H E f' c' hr2) hN0 hva hda hca
    rw [hB]
    refine ⟨_, PSs.nox (pss_cons q1 (pss_cons (ps_tries (X := Z) (Wo := wF) rfl rfl hNn takesF (tb := fun W D σ H => ∃ E : XK, (∀ cls d σ' H', E cls d H' → σ'.length = n + 1 → W cls d σ' H') ∧ σ[0]? = some (some (.ref f')) ∧ H c' = some (CodeO c' (X.env.qual ++ "<lambda>")) ∧ rdX X.K (wE E) bX s.σ H fun _ H' => D.nx σ H') (fun W pn xe tk po => ?_) q2.ok) (pss_one q3))), ?_⟩
    · refine ⟨fun pins s2 σ2 H2 D I2 h2 => ?_⟩
      obtain ⟨E, hE, u1, u2, u3⟩ := h2
      have tk2 := takes_len tk
      have hp := act _ pn xe E p1 p2 tk2 fun cls d σ' H' h h2 => hE cls d σ' H' h (h2.trans hNl)
      exact (pss_one (ps_expr (pos := p3) hp)).run pins s2 σ2 H2 D I2 ⟨u1, u2, u3⟩
    · -- the reading
      have okZ : EnOk X.K ⟨s.B, H1, L2.start N [V.ref f'], List.replicate (n + 1) .no, fun _ => []⟩ := okM.forget _ _ hσl
      refine ⟨_, rfl, rfl, okZ, x1, en1, k1, fun v t fr tσ te okt stt sl sd => ?_⟩
      obtain ⟨b1, b2, _⟩ := back1 (t := ⟨s.B, H1, s.σ, s.en, s.fp⟩) (z := ⟨s.B, H1, L2.start N [V.ref f'], List.replicate (n + 1) .no, fun _ => []⟩) rfl rfl (fun _ => rfl) okM okt stt
      refine ⟨fun cls d H' => ∀ σ' : L2.St, σ'.length = n + 1 → wCls X.K wF _ (l.map (clOf X.K wF)) cls d σ' H', fun cls d σ' H' h h2 => h σ' h2, ?_, ?_, ?_⟩
      · show ((L2.start N [V.ref f']).set 1 (some v))[0]? = _
        rw [List.getElem?_set_ne (by decide)]; exact hσ0
      · refine stt.hh c' _ (by rw [hq]; exact N1.code) (fun ⟨_, h⟩ => by cases h) codeO_ne
      · refine ⟨⟨t.B, t.H, s.σ, s.en, s.fp⟩, rfl, rfl, b1, .er er, en2, k3, fun cls d u uσ ue oku stu re σ' hl => ?_⟩
        have okY : EnOk X.K ⟨u.B, u.H, σ', List.replicate (n + 1) .no, fun _ => []⟩ := oku.forget _ _ hl
        refine hand_w (s := ⟨u.B, u.H, σ', List.replicate (n + 1) .no, fun _ => []⟩) hM k7 ?_ cls d ⟨u.B, u.H, σ', List.replicate (n + 1) .no, fun _ => []⟩ rfl okY (Stp.refl _) re
        intro y ye oky sty
        refine ⟨y, rfl, rfl, oky, .rt _ e4, by rw [ye]; exact k9, ?_⟩
        intro v2 w fr2 we okw stw slw sdw
        obtain ⟨d1, d2, d3⟩ := back1 (t := u) (z := ⟨u.B, u.H, σ', List.replicate (n + 1) .no, fun _ => []⟩) rfl rfl (fun _ => rfl) oku okw (sty.trans stw)
        have stA : Stp s u := (stM.trans b2).trans stu
        exact qq v2 ⟨w.B, w.H, u.σ, u.en, u.fp⟩ fr2 uσ ue d1 (stA.trans d2) slw (stA.sideL (d3 fr2 (sty.sideL sdw)))
  refine wpAny_call (codeAny_mono rc fun r s2 hq => ?_)
  cases r with
  | error e => exact (show False from hq).elim
  | ok fl =>
    cases fl with
    | ret u => exact N1.inv.after hq
    | next => exact False.elim hq
    | brk => exact False.elim hq
    | cont => exact False.elim hq
end
section
variable {P : Program} {w : World} {K : PySem.W.Frag} {mg mb : Str → Option Value} {CX : CXT} {k : Nat} {fa a : Addr} {fd : FuncData} {x : Str} {sp : Sp} {s₁ : Shared} {vs : List Value} {ns : List Int} {cs : List (Addr × Addr)}
def Bm (mg : Str → Option Value) (h : Heap) : Prop := ∃ (bm : Addr) (ob : Obj), mg "__builtins__" = some (.ref bm) ∧ bm ≠ builtinsNs ∧ h.get? bm = some ob ∧ ob.cls = .type "module" ∧ ob.dict = some builtinsNs ∧ ob.data = .plain
structure CsOk (K : PySem.W.Frag) (h : Heap) (cs : List (Addr × Addr)) : Prop where
  em : ∀ p ∈ cs, h.get? p.2 = some { cls := .none, data := .fields #[] }
  no : ∀ p ∈ cs, K.lookup p.2 = none
  hd : ∀ p ∈ cs, PySem.W.CodeHd h p.1 p.2
def isTb (cs : List (Addr × Addr)) (b : Addr) : Prop := ∃ p ∈ cs, p.2 = b
theorem coreGT (T : CsOk K s₁.heap cs) (KX : K.In s₁.heap) (hns : s₁.heap.Ns mainGlobals mg) (hb : s₁.heap.Ns builtinsNs mb) (hbb : ∀ x : Str, x ≠ "__name__" → mb x = bootBuiltins x) (hlim : s₁.heap.NoLimit) (hg : s₁.gens = #[]) (hbm : Bm mg s₁.heap)
    (ha : s₁.heap.get? a = some { cls := .type "list", data := .seq vs.toArray }) (hr : Room k callerA)
    (F : ∀ base : Heap, K.In base → base.Ns mainGlobals mg → (∀ p ∈ cs, TabB base mg p.1 p.2) → FnG P w K mg base CX k fa fd [x] sp) (hbind : ∀ (s : Shared) (u : Value), BindsTo s fd ⟨[u], []⟩ [(x, u)])
    (hCX : ∀ H e s', CX [] H s₁ (fun _ _ _ => False) e s' → False) {H : Hp} (hsp : sp [.ref a] H (fun v _ => v = .bl true) fun _ _ _ => False) (hok : HOk P w H s₁.heap) (hA : ∀ b, H b ≠ none → b = a ∨ isTb cs b) (hTb : ∀ p ∈ cs, H p.2 = some (.tbl #[]))
    (hFr : H a = none ∨ ∃ ob xs, H a = some (.frz ob (.lst xs))) (hK : H a ≠ none → K.lookup a = none) :
    codeAny (model P w) callerA (.call (.ref fa) ⟨[.ref a], []⟩) (fun r s' => r = .ok (.ret (.bool true)) ∧ OldK s₁.heap s'.heap ∧ s'.os = s₁.os ∧ AllBare s'.gens) s₁ := by
  have off : ∀ {b : Addr} {o : Obj}, s₁.heap.get? b = some o → (∀ vs n, o.data ≠ .seq vs n) → o.data ≠ .fields #[] → H b = none := by
    intro b o e h1 h2
    refine Classical.byContradiction fun z => ?_
    rcases hA b z with y | ⟨p, hp, y⟩
    · subst y; rw [ha] at e; cases e; exact h1 _ _ rfl
    · subst y; rw [T.em p hp] at e; cases e; exact h2 rfl
  have offD : ∀ {b : Addr} {o : Obj} {es : Array DictEntry} {ep : Nat}, s₁.heap.get? b = some o → o.data = .dict es ep → H b = none := by
    intro b o es ep e d
    exact off e (fun _ _ z => by rw [d] at z; cases z) fun z => by rw [d] at z; cases z
  have nsB : ∀ {b : Addr} {m : Str → Option Value}, s₁.heap.Ns b m → (hidT s₁.heap H).Ns b m := by
    rintro b m ⟨o, es, ep, e, d, r⟩
    exact ⟨o, es, ep, hidT_get e (offD e d), d, r⟩
  have kB : K.In (hidT s₁.heap H) := by
    intro b o e
    refine hidT_get (KX b o e) (Classical.byContradiction fun z => ?_)
    rcases hA b z with y | ⟨p, hp, y⟩
    · subst y; rw [hK z] at e; cases e
    · subst y; rw [T.no p hp] at e; cases e
  have tB : ∀ p ∈ cs, TabB (hidT s₁.heap H) mg p.1 p.2 := by
    intro p hp
    have e0 := T.em p hp
    obtain ⟨o, us, file, tf, flags, tg, inF, text, tt, e1, r1, r2, r3, r4⟩ := T.hd p hp
    obtain ⟨bm, ob, b1, b2, b3, b4, b5, b6⟩ := hbm
    obtain ⟨og, eg, epg, g1, g2, _⟩ := id hns
    refine ⟨⟨o, us, file, tf, flags, tg, inF, text, tt, hidT_get e1 (off e1 (fun _ _ z => by rw [r2] at z; cases z) fun z => ?_), r1, r2, r3, r4⟩, ⟨bm, ob, b1, b2, ?_, ?_, hidT_get b3 (off b3 (fun _ _ z => by rw [b6] at z; cases z) fun z => by rw [b6] at z; cases z), b4, b5, b6⟩, ?_⟩
    · rw [r2] at z; cases z; simp at r3
    · rintro rfl; rw [g1] at b3; cases b3; rw [g2] at b6; cases b6
    · rintro rfl; rw [e0] at b3; cases b3; cases b6
    · intro z; rw [← z, g1] at e0; cases e0; cases g2
  obtain ⟨mc, c1, c2⟩ := hlim
  have e0 : Env0 P w K mg (hidT s₁.heap H) callerA [] s₁ H := by
    refine ⟨rfl, ⟨kB, nsB hns, ⟨mb, nsB hb, hbb⟩, ⟨mc, nsB c1, c2⟩⟩, fun b o e => of_hidT e, Nat.le_of_eq (hidT_size _ _), trivial, fun b z => ?_, hok, .of_eq hg⟩
    cases (show b ∈ ([] : List Addr) from z)
  have run := (F _ kB (nsB hns) tB).go (args := ⟨[.ref a], []⟩) (us := [.ref a]) (vs := [.ref a]) rfl hr e0 (hbind s₁ (.ref a)) (.cons rfl .nil) hsp
  refine codeAny_mono run fun r s' h => ?_
  match r, h with
  | .error e, h => exact (hCX H e s' h).elim
  | .ok .next, h => exact False.elim h
  | .ok .brk, h => exact False.elim h
  | .ok .cont, h => exact False.elim h
  | .ok (.ret u), ⟨v, H', os, bare, un, hok', r', q⟩ =>
    have q' : v = .bl true := q
    subst q'
    obtain rfl : u = Value.bool true := r'
    have kept : ∀ b o, ¬ isTb cs b → s₁.heap.get? b = some o → s'.heap.get? b = some o := by
      intro b o nb e
      by_cases hz : H b = none
      · exact un.keep b o e hz (fun y => by cases (show b ∈ ([] : List Addr) from y)) (fun y => by cases y)
      · rcases hA b hz with y | y
        · subst y
          rcases hFr with z | ⟨ob, xs, z⟩
          · exact absurd z hz
          · have e1 := (hok b _ z).1
            have e2 := (hok' b _ (un.frzs b ob _ z)).1
            exact e2.trans (e1.symm.trans e)
        · exact absurd y nb
    have grown : ∀ p ∈ cs, ∃ more : Array Value, s'.heap.get? p.2 = some { cls := .none, data := .fields more } := fun p hp => by
      obtain ⟨more, z⟩ := un.tbls p.2 #[] (hTb p hp)
      exact ⟨_, hok' p.2 _ z⟩
    refine ⟨rfl, ⟨fun b o e => ?_, fun b o e => ?_⟩, os, bare⟩
    · by_cases h : isTb cs b
      · obtain ⟨p, hp, y⟩ := h
        subst y
        obtain ⟨more, hm⟩ := grown p hp
        have e1 := T.em p hp
        rw [e1] at e
        cases e
        exact .inr (.inl ⟨((T.hd p hp).tab e1).isCodeTable, rfl, #[], more, rfl, by rw [Array.empty_append]; exact hm⟩)
      · exact .inl (kept b o h e)
    · by_cases h : isTb cs b
      · obtain ⟨p, hp, y⟩ := h
        subst y
        obtain ⟨more, hm⟩ := grown p hp
        exact ⟨_, hm⟩
      · exact ⟨o, kept b o h e⟩
open Classical in
noncomputable def withT (cs : List (Addr × Addr)) (H0 : Hp) : Hp := fun b => if isTb cs b then some (.tbl #[]) else H0 b
theorem withT_in {H0 : Hp} {b : Addr} (h : isTb cs b) : withT cs H0 b = some (.tbl #[]) := by unfold withT; rw [if_pos h]
theorem withT_no {H0 : Hp} {b : Addr} (h : ¬ isTb cs b) : withT cs H0 b = H0 b := by unfold withT; rw [if_neg h]
theorem law_callGT (T : CsOk K s₁.heap cs) (KX : K.In s₁.heap) (hns : s₁.heap.Ns mainGlobals mg) (hb : s₁.heap.Ns builtinsNs mb) (hbb : ∀ x : Str, x ≠ "__name__" → mb x = bootBuiltins x) (hlim : s₁.heap.NoLimit) (hg : s₁.gens = #[]) (hbm : Bm mg s₁.heap)
    (ha : s₁.heap.get? a = some { cls := .type "list", data := .seq vs.toArray }) (hi : IntsAre vs ns) (hl : ns.length ≤ sizeLine) (hr : Room k callerA)
    (F : ∀ base : Heap, K.In base → base.Ns mainGlobals mg → (∀ p ∈ cs, TabB base mg p.1 p.2) → FnG P w K mg base CX k fa fd [x] sp) (hbind : ∀ (s : Shared) (u : Value), BindsTo s fd ⟨[u], []⟩ [(x, u)])
    (hsp : ∀ H : Hp, (∀ p ∈ cs, H p.2 = some (.tbl #[])) → SqL K H a (ns.map V.int) → sp [.ref a] H (fun v _ => v = .bl true) fun _ _ _ => False) (hCX : ∀ H e s', CX [] H s₁ (fun _ _ _ => False) e s' → False) :
    codeAny (model P w) callerA (.call (.ref fa) ⟨[.ref a], []⟩) (fun r s' => r = .ok (.ret (.bool true)) ∧ OldK s₁.heap s'.heap ∧ s'.os = s₁.os ∧ AllBare s'.gens) s₁ := by
  have rv := vals_ints hi
  have hz : (ns.map V.int).length ≤ sizeLine := by rw [List.length_map]; exact hl
  have na : ¬ isTb cs a := by
    rintro ⟨p, hp, rfl⟩
    rw [T.em p hp] at ha
    cases ha
  have inT : ∀ {p : Addr × Addr}, p ∈ cs → isTb cs p.2 := fun {p} hp => ⟨p, hp, rfl⟩
  cases hk : K.lookup a with
  | some o =>
    have e : o = { cls := .type "list", data := .seq vs.toArray } := Option.some.inj ((KX a o hk).symm.trans ha)
    subst e
    have hS : SqL K (withT cs fun _ => none) a (ns.map V.int) := .inr ⟨_, vs.toArray, _, hk, rfl, rfl, rfl, by rw [List.size_toArray, hi.length]; exact hl, by simpa using rv⟩
    have hTb : ∀ p ∈ cs, withT cs (fun _ => none) p.2 = some (.tbl #[]) := fun p hp => withT_in (inT hp)
    refine coreGT T KX hns hb hbb hlim hg hbm ha hr F hbind hCX (hsp _ hTb hS) (fun b u z => ?_) (fun b z => .inr (Classical.byContradiction fun y => z (withT_no y))) hTb (.inl (withT_no na)) fun z => absurd (withT_no na) z
    by_cases h : isTb cs b
    · rw [withT_in h] at z
      cases z
      obtain ⟨p, hp, rfl⟩ := h
      exact T.em p hp
    · rw [withT_no h] at z; cases z
  | none =>
    have at_ : withT cs (upd (fun _ => none) a (.frz { cls := .type "list", data := .seq vs.toArray } (.lst (ns.map V.int)))) a = some (.frz { cls := .type "list", data := .seq vs.toArray } (.lst (ns.map V.int))) := by rw [withT_no na, upd_same]
    have hTb : ∀ p ∈ cs, withT cs (upd (fun _ => none) a (.frz { cls := .type "list", data := .seq vs.toArray } (.lst (ns.map V.int)))) p.2 = some (.tbl #[]) := fun p hp => withT_in (inT hp)
    refine coreGT T KX hns hb hbb hlim hg hbm ha hr F hbind hCX (hsp _ hTb (.inl (.inr ⟨_, at_⟩))) (fun b u z => ?_) (fun b z => ?_) hTb (.inr ⟨_, _, at_⟩) fun _ => hk
    · by_cases h : isTb cs b
      · rw [withT_in h] at z
        cases z
        obtain ⟨p, hp, rfl⟩ := h
        exact T.em p hp
      · rw [withT_no h] at z
        by_cases h2 : b = a
        · subst h2
          rw [upd_same] at z
          cases z
          exact ⟨ha, hz, vs, _, rv, ha⟩
        · rw [upd_ne h2] at z; cases z
    · by_cases h : isTb cs b
      · exact .inr h
      · rw [withT_no h] at z
        by_cases h2 : b = a
        · exact .inl h2
        · rw [upd_ne h2] at z; exact absurd rfl z
end
theorem walk_ofGT {l : PySem.W.OpenLaw} {n k : Nat} {q : Program} {loose : List Str} {XP : (Str → Option Value) → Heap → Prop} {YP : World → Heap → Prop} {d : DefRec} {CX : CXT} {x : Str}
    (hn : l.most = some n) (hn2 : n ≤ sizeLine) (hdf : d.params.defaults = []) (hr : Room k callerA)
    (F : ∀ (w : World) (mg : Str → Option Value) (fa : Addr) (h : Heap), YP w h → h.Ns mainGlobals mg → mg d.name = some (.ref fa) →
      ∃ (K : PySem.W.Frag) (cs : List (Addr × Addr)) (fd : FuncData) (sp : Sp), K.In h ∧ CsOk K h cs ∧ (∀ (s : Shared) (u : Value), BindsTo s fd ⟨[u], []⟩ [(x, u)]) ∧
        (∀ (H : Hp) (a : Addr) (ns : List Int), ns.length ≤ n → (∀ p ∈ cs, H p.2 = some (.tbl #[])) → SqL K H a (ns.map V.int) → sp [.ref a] H (fun v _ => v = .bl true) fun _ _ _ => False) ∧
        ∀ base : Heap, K.In base → base.Ns mainGlobals mg → (∀ p ∈ cs, TabB base mg p.1 p.2) → FnG l.prog w K mg base CX k fa fd [x] sp)
    (hCX : ∀ (H : Hp) (s : Shared) (e : Value) (s' : Shared), CX [] H s (fun _ _ _ => False) e s' → False) :
    PySem.W.WalkO q loose XP YP l.row.toRowW d [] (fun f vs => PySem.call f vs) := by
  refine Att.attach_callB hn hdf fun w s₀ s₁ mg mb fa o pm cd doc a vs ns G Y ho hd hcd hmg hobj hints hlen hbits hg => ?_
  obtain ⟨K, cs, fd, sp, KX, T, hb, hsp, hF⟩ := F w mg fa _ Y G.T.g hmg
  exact law_callGT T KX G.T.g G.T.b G.T.builtins G.T.nolimit hg G.T.bmain hobj hints (Nat.le_trans hlen hn2) hr hF hb (fun H hH hS => hsp H a ns hlen hH hS) fun H e s' => hCX H s₁ e s'
def lamQ (x : Str) : Str := x ++ ".<locals>." ++ "<lambda>"
structure Lm (K : PySem.W.Frag) (mg : Str → Option Value) (base : Heap) (x : Str) (c Pt : Addr) : Prop where
  at_ : tabAt K x = some (c, Pt)
  tb : TabB base mg c Pt
  mem : (Pt, lamQ x) ∈ tabL K
  uq : ∀ p ∈ tabL K, p.1 = Pt → p.2 = lamQ x
theorem lm_of {K : PySem.W.Frag} {mg : Str → Option Value} {base : Heap} {x : Str} (h : lmB K x = true) (T : ∀ p ∈ tabCs K, TabB base mg p.1 p.2) : ∃ c Pt, Lm K mg base x c Pt := by
  obtain ⟨h1, h2⟩ := He.ba h
  have hx : x ∈ lamNames := by simpa using h1
  cases e : tabAt K x with
  | none => rw [e] at h2; cases h2
  | some p =>
    rw [e] at h2
    obtain ⟨c, Pt⟩ := p
    have hin : (c, Pt) ∈ tabCs K := List.mem_filterMap.mpr ⟨x, hx, e⟩
    refine ⟨c, Pt, e, T _ hin, List.mem_filterMap.mpr ⟨x, hx, by rw [e]; rfl⟩, fun p hp hP => ?_⟩
    obtain ⟨y, hy, ey⟩ := List.mem_filterMap.mp hp
    obtain ⟨r, er, rfl⟩ := Option.map_eq_some_iff.mp ey
    have h3 := List.all_eq_true.mp h2 y hy
    rw [er] at h3
    have hP : r.2 = Pt := hP
    simp only [hP, ne_eq, not_true_eq_false, decide_false, Bool.false_or, beq_iff_eq] at h3
    subst h3
    rfl
section
variable {P : Program} {w : World} {K : PySem.W.Frag} {mg : Str → Option Value} {base : Heap} {x : Str} {st : Stmt} {fd : FuncData} {N ps : List Str} {k n : Nat} {b : En → Option Out} {c Pt : Addr}
theorem xdefGL (F : FunD K x x (defArgs st) (defBody st) (defScope st) [] [] (He.ga K x) fd) (S : FnScope N ps (defScope st)) (hN : N.length = ps.length + n) (lm : Lm K mg base x c Pt)
    (hb : ∀ (A : Around) (outer : List Env) (s : Shared) (H : Hp) (E : XK), A.guards = some [] → Room k (A.deeper (envOfC x (defScope st) s.heap.objs.size (He.ga K x) (.ref c))) → PSs (cxOf CX0 P w K mg base N x (defScope st) (He.ga K x) (.ref c) A outer s H E).nox (defBody st) (rdS K wF b)) :
    FnG P w K mg base CX0 (k + 1) (He.ga K x) fd ps (spM K ps.length (fnM n b)) := by
  obtain ⟨oc, od, dV, kV, doc, pm, an, cdv, ct, osl, rfl, lk, hcd, _, _⟩ := F.ex
  have hc : cdv = .ref c := by
    have h := lm.at_
    unfold tabAt at h
    rw [lk] at h
    simp only at h
    split at h
    · split at h
      · skip
        split at h
        · split at h
          · cases h; rfl
          · cases h
        · cases h
      · cases h
    · cases h
  subst hc
  exact fnG_mk lk hcd S (fun vs H Q E h => h.1) fun A outer s H vs Q E hg hr h => ⟨_, PSs.nox (hb A outer s H E hg hr), xbody hN h⟩
end
theorem cdH_of {K : PySem.W.Frag} {h : Heap} {p : Addr × Addr} (X : K.In h) (e : cdHB K p = true) : PySem.W.CodeHd h p.1 p.2 ∧ K.lookup p.2 = none := by
  obtain ⟨e1, e2⟩ := He.ba e
  obtain ⟨e3, e4⟩ := He.ba e2
  refine ⟨?_, by simpa using e4⟩
  split at e1
  · rename_i t d vs sl hk
    obtain ⟨a1, b1⟩ := He.ba e1
    obtain ⟨a2, b2⟩ := He.ba b1
    obtain ⟨a3, b3⟩ := He.ba b2
    obtain ⟨a4, b4⟩ := He.ba b3
    obtain ⟨a5, b5⟩ := He.ba b4
    obtain ⟨a6, a7⟩ := He.ba b5
    cases of_decide_eq_true a1
    split at a2
    · rename_i P2 h2
      cases of_decide_eq_true a2
      split at a3
      · rename_i P3 h3
        cases of_decide_eq_true a3
        split at a4
        · rename_i s4 t4 h4
          split at a5
          · rename_i i5 t5 h5
            split at a6
            · rename_i b6 h6
              split at a7
              · rename_i i7 t7 h7
                exact ⟨_, vs, s4, t4, i5, t5, b6, i7, t7, X _ _ hk, rfl, rfl, h2, h3, h4, h5, h6, h7, of_decide_eq_true e3⟩
              · cases a7
            · cases a6
          · cases a5
        · cases a4
      · cases a3
    · cases a2
  · cases e1
theorem tbs0 {K : PySem.W.Frag} {H : Hp} (h : ∀ p ∈ tabCs K, H p.2 = some (.tbl #[])) : Tbs K H := fun p hp => by
  obtain ⟨y, hy, ey⟩ := List.mem_filterMap.mp hp
  obtain ⟨r, er, rfl⟩ := Option.map_eq_some_iff.mp ey
  exact TabS.nil (h r (List.mem_filterMap.mpr ⟨y, hy, er⟩))
theorem csOk {K : PySem.W.Frag} {h : Heap} (X : K.In h) (e : csB K = true) (em : ∀ p ∈ tabCs K, h.get? p.2 = some { cls := .none, data := .fields #[] }) : CsOk K h (tabCs K) :=
  ⟨em, fun p hp => (cdH_of X (List.all_eq_true.mp e p hp)).2, fun p hp => (cdH_of X (List.all_eq_true.mp e p hp)).1⟩
theorem lamPE {X : Cx} {A : Around} {outer : List Env} {s : Shared} {H : Hp} {E : XK} {scope : Scope} {f c' : Addr} {e : Expr} {t : TE} (h : Takes (lamCx X A outer s H E scope f c') (wE E) → PE (lamCx X A outer s H E scope f c') e t) : PE (lamCx X A outer s H E scope f c') e t :=
  h (takes_of rfl rfl rfl rfl)
section
variable {X : Cx} {e : Expr} {c m : Str} {n : Nat} {F : FnX} {f : En → Option (D × En)} {fa : En → Option (List D × En)} {E : XK}
theorem xX_co (h : PE X e (tCo (He.ga X.K c) (spX X.K n F) E (rdV X.K f) (rdA X.K fa))) : PE X e (rdX X.K (wE E) (xMtX c m n F f fa)) := PEi h fun σ H Q ⟨s, e1, e2, ok, r, en', hf, q⟩ => by
  obtain ⟨⟨d, en1⟩, k1, k2⟩ := Option.bind_eq_some_iff.mp hf
  cases d with
  | obj c' ns ds =>
    replace k2 : (if c' = c ∧ m ∉ ns then (fa en1).bind fun q => if q.1.length + 1 = n then (F (.va (.obj c' ns ds) :: q.1.map .va)).bind fun r => some (r.1, q.2) else none else none) = some (r, en') := k2
    split at k2
    · rename_i hc
      obtain ⟨rfl, hm⟩ := hc
      obtain ⟨⟨es, en2⟩, k3, k4⟩ := Option.bind_eq_some_iff.mp k2
      replace k4 : (if es.length + 1 = n then (F (.va (.obj c' ns ds) :: es.map .va)).bind fun r => some (r.1, en2) else none) = some (r, en') := k4
      split at k4
      · rename_i hl
        obtain ⟨⟨r1, en3⟩, k5, k6⟩ := Option.bind_eq_some_iff.mp k4
        cases k6
        refine ⟨s, e1, e2, ok, _, en1, k1, fun v t tσ te okt st rp => ?_⟩
        obtain ⟨a, dx, kvs, rfl, hb, hk, rl⟩ := id rp
        refine ⟨a, rfl, t, tσ, rfl, okt, es, _, by rw [te]; exact k3, fun vs u uσ ue oku st2 rps => ⟨⟨dx, kvs, oku.ex _ _ (st2.bb _ _ hb)⟩, ?_⟩⟩
        exact call0X (ds := .obj c' ns ds :: es) oku (st.trans st2) ⟨_, vs, rfl, rp.mono st2.bb, rps⟩ (by simpa using hl) k5 (by rw [uσ, ue]; exact q)
      · cases k4
    · cases k2
  | _ => cases k2
end
end Ag
namespace Ag
open PySem PySem.Spec PyProof.Rows L2 Evl
local macro_rules | `(tactic| push_cast [$ls,*]) => `(tactic| simp -implicitDefEqProofs only [xFz_e, xUp_e, xVar_f, xC_e, xNil_e, xCons_e, xPr_e, xB_e, xAnd_e, xOr_e, xNot_e, xOfB_e, xIfE_e, xYes_e, xChain_f, chB_b, xSet_e, xDrop_e, xRet_e, xRetN_e, xRetV_e, xNx_e, xBk_e, xCt_e, xNever_e, xIf_e, xSeq_e, gNm_e, gTp_e, gsNil_e, gsCons_e, xAsg_e, xPar_e, xFor_e, xItL_e, xItT_e, xItR1_e, xItR2_e, xItE_e, xItEt_e, gPutD_e, fnM_e, xCall_e, xMt_e, xPrp_e, xFld_e, xBor_e, xBorV_e, xBorT_e, xCallM_e, xMtM_e, xMk_e, qVar_e, qC_e, xIxP_e, xPutP_e, xInP_e, xApp_e, xExt_e, xFldS_e, xFS_e, xLc_e, xSl_e, xStar_e, xIsi_e, xIsi2_e, xO2_e, xLenO_e, xEqO_e, xDict0_e, xAndV_e, xOrV_e, bnd_some, bnd_none, xeNo_e, mkO_e, xAllL_n, xAllL_c, xMtT_e, xFnT2_e, xDict0T_e, xDisp_e, xGet2_e, xMkR_e, xMkS_e, xMkK_e, xDUp_e, xMv_e, xItK_e, xItI_e, xKl_e, xKb_e, xFr_e, killO_nx, killO_rt, killO_bk, killO_ct, killB_nx, killB_rt, killB_bk, killB_ct, klM_n, klM_t, klM_f, kill_pw, kill_ow, kill_va, kill_no, frE_z, frE_s, frz_pw, frz_ow, frz_va, frz_no, Option.bind_some, Option.bind_none, List.getElem?_cons_zero, List.getElem?_cons_succ, List.getElem?_nil, List.set_cons_zero, List.set_cons_succ, List.map_cons, List.map_nil, List.length_cons, List.length_nil, List.cons_append, List.nil_append, List.replicate_succ, List.replicate_zero, viewE, view_va, view_ow, view_no, view_pw, fz_va, fz_ow, fz_no, fz_pw, own_va, own_ow, own_no, own_pw, ofz_1, ofz_2, o1_l, o1_d, o1_t, fvz_v, fvz_o, putS_e, putR, np_no, np_va, np_ow, np_pw, np_view, freeS_e, Option.map_some, Option.map_none, Option.getD_some, Option.getD_none, pEq_i, pNe_i, pInT_e, pNinT_e, pIsN_e, pNotN_e, pIsB_e, pNotB_e, fl_n, fl_i, fl_s, fl_b, isN_n, isN_i, isN_t, isN_s, isN_b, isN_l, ownAt, reAt, pinned, leafAt, setLeaf, getO, putO, isLst, List.any_cons, List.any_nil, Bool.or_true, Bool.true_or, Bool.or_false, Bool.false_or, Bool.not_true, Bool.not_false, Bool.and_true, Bool.true_and, Bool.and_false, Bool.false_and, D.flat, D.flatL, D.leaf, Sl.leaf, O1.leaf, O2.leaf, Fv.leaf, wipeE, List.all_cons, List.all_nil, if_true, if_false, ite_true, ite_false, reduceIte, Bool.false_eq_true, decide_true, decide_false, reduceCtorEq, and_self, true_and, and_true, and_false, false_and, ixN_lit, ixN_nat, atI_nat, pLst_e, pTup_e, Nat.reduceAdd, Nat.reduceLT, Nat.reduceLeDiff, Nat.lt_add_left_iff_pos, Nat.zero_lt_succ, pPow_e, Int.reducePow, Int.reduceToNat, Int.reduceLT, not_true_eq_false, not_false_eq_true, pAdd_e, pSub_e, pLt_e, pLe_e, pGt_e, pGe_e, pNeg_e, pMul_e, pDiv_e, pMod_e, pAbs_e, pInt_e, pMax2_e, pMin2_e, pLenL_e, pLenS_e, pLenT_e, pIxL_e, pIxS_e, pIxT_e, atI_lit, ge_iff_le, gt_iff_lt, $ls,*])
local macro_rules | `(tactic| dsimp! [$ls,*]) => `(tactic| (push_cast [$ls,*]; repeat (with_reducible refine res_step ?_; push_cast [$ls,*])))
local macro_rules | `(tactic| simp_all! [$ls,*]) => `(tactic| dsimp! [isD_non_int, isD_non_bool, isD_non_str, isD_non_list, isD_non_tuple, isD_non_dict, isD_non_o, isD_bl_int, isD_bl_bool, isD_bl_str, isD_bl_list, isD_bl_tuple, isD_bl_dict, isD_bl_o, isD_int_int, isD_int_bool, isD_int_str, isD_int_list, isD_int_tuple, isD_int_dict, isD_int_o, isD_str_int, isD_str_bool, isD_str_str, isD_str_list, isD_str_tuple, isD_str_dict, isD_str_o, isD_scr_int, isD_scr_bool, isD_scr_str, isD_scr_list, isD_scr_tuple, isD_scr_dict, isD_scr_o, isD_lst_int, isD_lst_bool, isD_lst_str, isD_lst_list, isD_lst_tuple, isD_lst_dict, isD_lst_o, isD_tup_int, isD_tup_bool, isD_tup_str, isD_tup_list, isD_tup_tuple, isD_tup_dict, isD_tup_o, isD_dct_int, isD_dct_bool, isD_dct_str, isD_dct_list, isD_dct_tuple, isD_dct_dict, isD_dct_o, isD_dcT_int, isD_dcT_bool, isD_dcT_str, isD_dcT_list, isD_dcT_tuple, isD_dcT_dict, isD_dcT_o, isD_obj_o, $ls,*])
local macro_rules | `(tactic| walk_at "rb") => `(tactic| repeat (with_reducible refine res_bind ?_))
theorem ne_loopIn {prog : Program} {w : World} (l b : Addr) (items items2 : Array Value) (n n2 : Nat) (dd dd2 : Option Addr) (sl sl2 : Array (Option Value)) (hsz : items.size = items2.size) :
    ∀ (k i : Nat), items.size - i = k →
        MeetsIn prog w (Builtin.«list.__eq__.loop» { pos := [Value.ref l, Value.ref b, rawInt ↑i, rawInt 3] })
          fun A R s =>
          s.heap.get? l = some { cls := Value.type "list", dict := dd, data := Data.seq items n, slots := sl } ∧
            s.heap.get? b = some { cls := Value.type "list", dict := dd2, data := Data.seq items2 n2, slots := sl2 } ∧
              (∀ (j : Nat) (h1 : j < items.size) (h2 : j < items2.size), SeqAt.EqP prog w A.in1 s items[j] items2[j] true) ∧
                R (Except.ok (Flow.ret (Value.bool false))) s := by
  intro k
  induction k with
  | zero =>
    intro i hk A R s ⟨hl, hb, he, h⟩
    obtain ⟨hp, g, d, tk, os⟩ := s
    refine wpAny_bind ?_
    refine wpAny_bind ?_
    refine wpAny_bind ?_
    refine wpAny_load' hl ?_
    refine wpAny_pure ?_
    refine wpAny_pure ?_
    refine wpAny_bind ?_
    refine wpAny_bind ?_
    refine wpAny_bind ?_
    refine wpAny_load' hb ?_
    refine wpAny_pure ?_
    refine wpAny_pure ?_
    have hi1 : items[(i : Int).toNat]? = none := by simp; omega
    have hi2 : items2[(i : Int).toNat]? = none := by simp; omega
    rw [hi1, hi2]
    dsimp only
    refine wpAny_bind ?_
    refine wpAny_bind ?_
    refine wpAny_bind ?_
    refine wpAny_load' hl ?_
    refine wpAny_pure ?_
    refine wpAny_pure ?_
    refine wpAny_bind ?_
    refine wpAny_bind ?_
    refine wpAny_bind ?_
    refine wpAny_load' hb ?_
    refine wpAny_pure ?_
    refine wpAny_pure ?_
    refine wpAny_pure ?_
    have hz : (decide (items.size ≠ items2.size)) = false := decide_eq_false fun z => z hsz
    have hz2 : (items.size != items2.size) = false := by rw [hsz]; simp
    show R (Except.ok (Flow.ret (Value.bool (items.size != items2.size)))) _
    rw [hz2]
    exact h
  | succ k ih =>
    intro i hk A R s ⟨hl, hb, he, h⟩
    have ih := ih (i + 1) (by omega) A R s ⟨hl, hb, he, h⟩
    obtain ⟨hp, g, d, tk, os⟩ := s
    refine wpAny_bind ?_
    refine wpAny_bind ?_
    refine wpAny_bind ?_
    refine wpAny_load' hl ?_
    refine wpAny_pure ?_
    refine wpAny_pure ?_
    refine wpAny_bind ?_
    refine wpAny_bind ?_
    refine wpAny_bind ?_
    refine wpAny_load' hb ?_
    refine wpAny_pure ?_
    refine wpAny_pure ?_
    have h1 : i < items.size := by omega
    have h2 : i < items2.size := by omega
    have hi1 : items[(i : Int).toNat]? = some items[i] := by rw [Int.toNat_natCast]; exact Array.getElem?_eq_getElem h1
    have hi2 : items2[(i : Int).toNat]? = some items2[i] := by rw [Int.toNat_natCast]; exact Array.getElem?_eq_getElem h2
    rw [hi1, hi2]
    dsimp only
    refine wpAny_bind ?_
    refine he i h1 h2 _ _ ?_
    rw [if_pos rfl]
    refine wpAny_pure ?_
    refine ⟨plainId_quiet MeetsSeq3.plain_eq_loop _, codeAny_builtin MeetsSeq3.entry_eq_loop ?_⟩
    rw [Around.under_plainId MeetsSeq3.plain_eq_loop]
    exact ih
theorem list_neIn {prog : Program} {w : World} (l b : Addr) (items items2 : Array Value) (n n2 : Nat) (dd dd2 : Option Addr) (sl sl2 : Array (Option Value)) (hsz : items.size = items2.size) :
      MeetsIn prog w (Builtin.«list.__ne__» { pos := [Value.ref l, Value.ref b] }) fun A R s =>
        s.heap.get? l = some { cls := Value.type "list", dict := dd, data := Data.seq items n, slots := sl } ∧
          s.heap.get? b = some { cls := Value.type "list", dict := dd2, data := Data.seq items2 n2, slots := sl2 } ∧
            (∀ (j : Nat) (h1 : j < items.size) (h2 : j < items2.size), SeqAt.EqP prog w A.in1 s items[j] items2[j] true) ∧
              R (Except.ok (Flow.ret (Value.bool false))) s := by
  intro A R s ⟨hl, hb, he, h⟩
  have ih := ne_loopIn l b items items2 n n2 dd dd2 sl sl2 hsz (items.size - 0) 0 rfl A R s ⟨hl, hb, he, h⟩
  obtain ⟨hp, g, d, tk, os⟩ := s
  have f3 := AutoSeq1.sub_list_list
  refine wpAny_bind ?_
  have hsa : slotArgs "__ne__" 1 { pos := [Value.ref l, Value.ref b] } = pure (Value.ref l, [Value.ref b]) := rfl
  rw [hsa]
  refine wpAny_pure ?_
  dsimp only
  refine wpAny_bind ?_
  refine wpAny_bind ?_
  refine wpAny_bind ?_
  refine wpAny_loadPart' hb ?_
  refine wpAny_pure ?_
  refine wpAny_of_eq f3 ?_
  rw [if_neg (by decide), if_pos (by decide)]
  refine wpAny_bind ?_
  refine wpAny_bind ?_
  refine wpAny_bind ?_
  refine wpAny_load' hl ?_
  refine wpAny_pure ?_
  refine wpAny_pure ?_
  refine wpAny_bind ?_
  refine wpAny_bind ?_
  refine wpAny_bind ?_
  refine wpAny_load' hb ?_
  refine wpAny_pure ?_
  refine wpAny_pure ?_
  apply wpAny_ite_false
  · show decide ((items.size != items2.size) = true) = false
    rw [hsz]; simp
  refine wpAny_pure ?_
  refine ⟨plainId_quiet MeetsSeq3.plain_eq_loop _, codeAny_builtin MeetsSeq3.entry_eq_loop ?_⟩
  rw [Around.under_plainId MeetsSeq3.plain_eq_loop]
  exact ih
theorem rcNeP_lists {prog : Program} {w : World} {A : Around} {s : Shared} {l b : Addr} {items items2 : Array Value} (hl : s.heap.IsList l items) (hb : s.heap.IsList b items2) (hsz : items.size = items2.size) (hu : A.units < cLine)
    (he : ∀ (j : Nat) (h1 : j < items.size) (h2 : j < items2.size), SeqAt.EqP prog w A.in1 s items[j] items2[j] true) (E Q : Value → Shared → Prop) (h : Q (Value.bool false) s) : wpAny (model prog w) A (richCompare CmpOp.NotEq (Value.ref l) (Value.ref b)) Q E s := by
  obtain ⟨⟨cls, dd, data, sl⟩, ho, hc, n, hd⟩ := id hl
  obtain ⟨⟨cls2, dd2, data2, sl2⟩, ho2, hc2, n2, hd2⟩ := id hb
  dsimp only at hc hd hc2 hd2
  subst hc hd hc2 hd2
  exact wpAny_richCompare_same_room ⟨_, ho, rfl⟩ ⟨_, ho2, rfl⟩ F.slot_list_ne (call_meetsIn F.slot_list_ne ⟨_, ho, rfl⟩ F.entry_list_ne (F.args_list_ne_2 (Value.ref l) (Value.ref b)) (list_neIn l b items items2 n n2 dd dd2 sl sl2 hsz) ⟨ho, ⟨ho2, ⟨he, have this := ⟨(fun x => nomatch x), h⟩; this⟩⟩⟩) hu
theorem hitsP_of {P : Program} {w : World} {A : Around} {s : Shared} {vb : List (Key × Value)} : ∀ {va : List (Key × Value)} {r : Bool}, PySem.W.KeqHits A s vb va r → PySem.W.KeqHitsP P w A s vb va r := fun {va r} h => by
  induction h with
  | nil => exact .nil
  | miss h => exact .miss h
  | hit h1 h2 _ ih => exact .hit h1 h2.eqP ih
theorem room68 {k : Nat} {A : Around} (r : Room k A) : A.units + 68 < cLine := by have := r.un; omega
def ElT (K : PySem.W.Frag) (H : Hp) (x y : V) : Prop := (∃ d e, Dp K H x d ∧ Dp K H y e ∧ SeqAt.shaped d = true ∧ SeqAt.shaped e = true ∧ PyData.eqv d e = true) ∨
  ∃ (a b : Addr) (kvs lvs : List (Key × V)), x = .ref a ∧ y = .ref b ∧ Rd H a (.dK kvs) ∧ Rd H b (.dK lvs) ∧ DHits K H lvs kvs true ∧ kvs.length = lvs.length
theorem elT_run {X : Cx} {pins : List (Addr × Obj)} {σ : L2.St} {H : Hp} {s : Shared} {A : Around} (I : Inv X pins σ H s) (hu : A.units + 66 < cLine) {x y : V} {v u : Value} (rx : RelV x v) (ry : RelV y u) (h : ElT X.K H x y) : SeqAt.EqP X.prog X.w A s v u true := by
  rcases h with ⟨d, e, hd, he, sd, se, q⟩ | ⟨a, b, kvs, lvs, rfl, rfl, ha, hb, hh, hl⟩
  · obtain ⟨as, r1⟩ := Dp.reads I _ _ _ hd rx
    obtain ⟨bs, r2⟩ := Dp.reads I _ _ _ he ry
    rw [← q]
    exact (SeqAt.eqAt_reads _ _ A s _ _ as bs r1 r2 (SeqAt.canLay_of_shaped sd) (SeqAt.canLay_of_shaped se) (SeqAt.room_of_shaped sd (by omega))).eqP
  · obtain rfl : v = Value.ref a := rx
    obtain rfl : u = Value.ref b := ry
    by_cases hab : a = b
    · subst hab
      exact (SeqAt.EqAt.same _).eqP
    · obtain ⟨za, ya, va, ra, da⟩ := dk_rd I.hok ha
      obtain ⟨zb, yb, vb, rb, db⟩ := dk_rd I.hok hb
      refine SeqAt.eqP_refs hab fun E Q q => PySem.W.rcP_dicts (knd := mixKind X.prog X.w) (r := true) ya yb da db (by omega) (fun _ => hitsP_of (hits_plain (A := A.in1) I (by show A.units + 1 + 64 < cLine; omega) rb ra hh)) E Q ?_
      rw [← ra.length, ← rb.length, hl]
      simpa using q
def rNeL (K : PySem.W.Frag) : R2 := fun x y H Q => ∃ (a b : Addr) (xs ys : List V), x = .ref a ∧ y = .ref b ∧ SqL K H a xs ∧ SqL K H b ys ∧ Paired (ElT K H) xs ys ∧ Q (.bl false) H
theorem op_neL {X : Cx} (hu : X.A.units + 68 < cLine) : OpR X (compareOp .NotEq) (rNeL X.K) := by
  intro pins s σ H x y v u Q I rx ry h
  obtain ⟨a, b, xs, ys, rfl, rfl, ha, hb, hp, q⟩ := h
  obtain rfl : v = Value.ref a := rx
  obtain rfl : u = Value.ref b := ry
  obtain ⟨us, r1, p1, _⟩ := I.list ha
  obtain ⟨ws, r2, p2, _⟩ := I.list hb
  have hsz : us.toArray.size = ws.toArray.size := by
    rw [List.size_toArray, List.size_toArray, ← r1.length, ← r2.length, hp.length]
  refine rcNeP_lists (PlainL.isList p1) (PlainL.isList p2) hsz (by omega) (fun j h1 h2 => ?_) _ _ (fin_bl I q rfl)
  have k := items_run (P := X.prog) (w := X.w) (A := X.A.in1) (s := s) (F := ElT X.K H) (fun x y v u h rx ry => elT_run (A := X.A.in1) I (by show X.A.units + 1 + 66 < cLine; omega) rx ry h) hp r1 r2 j (by rw [List.size_toArray] at h1; exact h1) (by rw [List.size_toArray] at h2; exact h2)
  exact k
def eqE : D → D → Bool
  | .dct ks ds, .dct js es => (D.pls 39 ds && D.pls 39 es) && (ks.length == js.length && eqDD js es ks ds)
  | x, y => (x.pl 40 && y.pl 40) && x.eqv y
def eqEs : List D → List D → Bool
  | [], [] => true
  | x :: xs, y :: ys => eqE x y && eqEs xs ys
  | _, _ => false
def pNeL : List D → Option Sl
  | [.lst xs, .lst ys] => if eqEs xs ys = true then some (.va (.bl false)) else none
  | _ => none
theorem eqE_plain {x y : D} (h : eqE x y = true) : (∃ ks ds js es, x = .dct ks ds ∧ y = .dct js es) ∨ ((x.pl 40 && y.pl 40) && x.eqv y) = true := by
  cases x <;> cases y <;> first | exact .inr h | exact .inl ⟨_, _, _, _, rfl, rfl⟩
section
variable {K : PySem.W.Frag} {H : Hp}
theorem eqE_elT {x y : D} {v w : V} (h : eqE x y = true) (rx : Rep K H x v) (ry : Rep K H y w) : ElT K H v w := by
  rcases eqE_plain h with ⟨ks, ds, js, es, rfl, rfl⟩ | h
  · have h : ((D.pls 39 ds && D.pls 39 es) && (ks.length == js.length && eqDD js es ks ds)) = true := h
    rw [Bool.and_eq_true, Bool.and_eq_true, Bool.and_eq_true, beq_iff_eq] at h
    obtain ⟨⟨h1, h2⟩, h3, h4⟩ := h
    obtain ⟨a, kvs, rfl, ha, rfl, ra⟩ := rx
    obtain ⟨b, lvs, rfl, hb, rfl, rb⟩ := ry
    rw [List.length_map, List.length_map] at h3
    have := eqDD_hits (B := H) h2 rb h1 ra
    rw [h4] at this
    exact .inr ⟨a, b, kvs, lvs, rfl, rfl, ha, hb, this, h3⟩
  · rw [Bool.and_eq_true, Bool.and_eq_true] at h
    obtain ⟨⟨h1, h2⟩, h3⟩ := h
    exact .inl ⟨_, _, pl_dp h1 rx, pl_dp h2 ry, pl_shaped h1, pl_shaped h2, by rw [eqv_toP h1 h2]; exact h3⟩
theorem eqEs_pair : ∀ {xs ys : List D} {vs ws : List V}, eqEs xs ys = true → RepL K H xs vs → RepL K H ys ws → Paired (ElT K H) vs ws
  | [], [], vs, ws, _, h1, h2 => by rw [show vs = [] from h1, show ws = [] from h2]; exact .nil
  | x :: xs, y :: ys, vs, ws, h, ⟨v, r, e1, a1, b1⟩, ⟨w, t, e2, a2, b2⟩ => by
    have h : (eqE x y && eqEs xs ys) = true := h
    obtain ⟨k1, k2⟩ := Bool.and_eq_true_iff.mp h
    rw [e1, e2]
    exact .cons (eqE_elT k1 a1 a2) (eqEs_pair k2 b1 b2)
  | [], _ :: _, _, _, h, _, _ => by cases h
  | _ :: _, [], _, _, h, _, _ => by cases h
end
theorem ps_neL {K : PySem.W.Frag} : PrS K (r2L (rNeL K)) pNeL := PrS.val fun B H ds vs x e rp hg => by
  match ds, hg with
  | [.lst d1, .lst e1], hg =>
    replace hg : (if eqEs d1 e1 = true then some (Sl.va (.bl false)) else none) = some x := hg
    split at hg
    · rename_i hp
      cases hg
      obtain ⟨v, w, rfl, ⟨a, us, rfl, hka, r1⟩, b, ws, rfl, hkb, r2⟩ := two_of rp
      exact ⟨_, .bl _, rfl, rfl, fun Q q => ⟨a, b, us, ws, rfl, rfl, SqL.of (e _ _ hka), SqL.of (e _ _ hkb), eqEs_pair (H := H) hp (r1.mono e) (r2.mono e), q⟩⟩
    · cases hg
theorem sc__law_source : FnScope ["script", "turn", "cell", "number", "seed"] ["script", "turn"] (defScope s__law_source) := ⟨rfl, rfl, rfl, by decide +kernel, rfl, by decide +kernel, by decide +kernel⟩
theorem sc__law_draw : FnScope ["source", "amount", "digit", "found"] ["source", "amount"] (defScope s__law_draw) := ⟨rfl, rfl, rfl, by decide +kernel, rfl, by decide +kernel, by decide +kernel⟩
theorem sc__law_pick : FnScope ["source", "items"] ["source", "items"] (defScope s__law_pick) := ⟨rfl, rfl, rfl, by decide +kernel, rfl, by decide +kernel, by decide +kernel⟩
theorem sc_is_whole : FnScope ["value"] ["value"] (defScope s_is_whole) := ⟨rfl, rfl, rfl, by decide +kernel, rfl, by decide +kernel, by decide +kernel⟩
theorem sc_is_between : FnScope ["value", "low", "high"] ["value", "low", "high"] (defScope s_is_between) := ⟨rfl, rfl, rfl, by decide +kernel, rfl, by decide +kernel, by decide +kernel⟩
theorem sc_Rule___init__ : FnScope ["self", "word", "after"] ["self", "word", "after"] (defScope s_Rule___init__) := ⟨rfl, rfl, rfl, by decide +kernel, rfl, by decide +kernel, by decide +kernel⟩
theorem sc_Rule_seldom : FnScope ["after"] ["after"] (defScope s_Rule_seldom) := ⟨rfl, rfl, rfl, by decide +kernel, rfl, by decide +kernel, by decide +kernel⟩
theorem sc_Rule_always : FnScope [] [] (defScope s_Rule_always) := ⟨rfl, rfl, rfl, by decide +kernel, rfl, by decide +kernel, by decide +kernel⟩
theorem sc_Rule_never : FnScope [] [] (defScope s_Rule_never) := ⟨rfl, rfl, rfl, by decide +kernel, rfl, by decide +kernel, by decide +kernel⟩
theorem sc__law_rule : FnScope ["kind", "after"] ["kind", "after"] (defScope s__law_rule) := ⟨rfl, rfl, rfl, by decide +kernel, rfl, by decide +kernel, by decide +kernel⟩
theorem sc_Rule_after : FnScope ["self"] ["self"] (defScope s_Rule_after) := ⟨rfl, rfl, rfl, by decide +kernel, rfl, by decide +kernel, by decide +kernel⟩
theorem sc_Rule_word : FnScope ["self"] ["self"] (defScope s_Rule_word) := ⟨rfl, rfl, rfl, by decide +kernel, rfl, by decide +kernel, by decide +kernel⟩
theorem sc_check_rule : FnScope ["value"] ["value"] (defScope s_check_rule) := ⟨rfl, rfl, rfl, by decide +kernel, rfl, by decide +kernel, by decide +kernel⟩
theorem sc_is_time : FnScope ["value"] ["value"] (defScope s_is_time) := ⟨rfl, rfl, rfl, by decide +kernel, rfl, by decide +kernel, by decide +kernel⟩
theorem sc_is_deed : FnScope ["value"] ["value"] (defScope s_is_deed) := ⟨rfl, rfl, rfl, by decide +kernel, rfl, by decide +kernel, by decide +kernel⟩
theorem sc_makes : FnScope ["value"] ["value"] (defScope s_makes) := ⟨rfl, rfl, rfl, by decide +kernel, rfl, by decide +kernel, by decide +kernel⟩
theorem sc_Moment_seconds : FnScope ["self"] ["self"] (defScope s_Moment_seconds) := ⟨rfl, rfl, rfl, by decide +kernel, rfl, by decide +kernel, by decide +kernel⟩
theorem sc_seconds_of : FnScope ["value"] ["value"] (defScope s_seconds_of) := ⟨rfl, rfl, rfl, by decide +kernel, rfl, by decide +kernel, by decide +kernel⟩
theorem sc_backs : FnScope ["deed", "word"] ["deed"] (defScope s_backs) := ⟨rfl, rfl, rfl, by decide +kernel, rfl, by decide +kernel, by decide +kernel⟩
theorem sc_File___init__ : FnScope ["self", "rule", "deed", "at", "seconds", "mark", "back"] ["self", "rule", "deed", "at"] (defScope s_File___init__) := ⟨rfl, rfl, rfl, by decide +kernel, rfl, by decide +kernel, by decide +kernel⟩
theorem sc_Rule_sets : FnScope ["self", "marks", "at", "read"] ["self", "marks", "at"] (defScope s_Rule_sets) := ⟨rfl, rfl, rfl, by decide +kernel, rfl, by decide +kernel, by decide +kernel⟩
theorem sc_File_do : FnScope ["self", "deed", "at", "seconds", "setting", "mark", "back"] ["self", "deed", "at"] (defScope s_File_do) := ⟨rfl, rfl, rfl, by decide +kernel, rfl, by decide +kernel, by decide +kernel⟩
theorem sc_File_marks : FnScope ["self"] ["self"] (defScope s_File_marks) := ⟨rfl, rfl, rfl, by decide +kernel, rfl, by decide +kernel, by decide +kernel⟩
theorem sc_Moment___init__ : FnScope ["self", "seconds"] ["self", "seconds"] (defScope s_Moment___init__) := ⟨rfl, rfl, rfl, by decide +kernel, rfl, by decide +kernel, by decide +kernel⟩
theorem sc_Rule___call__ : FnScope ["self", "file", "at", "seconds"] ["self", "file", "at"] (defScope s_Rule___call__) := ⟨rfl, rfl, rfl, by decide +kernel, rfl, by decide +kernel, by decide +kernel⟩
theorem sc_Rule___eq__ : FnScope ["self", "other"] ["self", "other"] (defScope s_Rule___eq__) := ⟨rfl, rfl, rfl, by decide +kernel, rfl, by decide +kernel, by decide +kernel⟩
theorem sc__law_equal : FnScope ["source", "rule", "after", "kind", "other"] ["source", "rule", "after", "kind"] (defScope s__law_equal) := ⟨rfl, rfl, rfl, by decide +kernel, rfl, by decide +kernel, by decide +kernel⟩
theorem sc__law_refused : FnScope ["call", "found", "e"] ["call"] (defScope s__law_refused) := ⟨rfl, rfl, rfl, by decide +kernel, rfl, by decide +kernel, by decide +kernel⟩
theorem sc__law_refused_too : FnScope ["rule", "wrong"] ["rule", "wrong"] (defScope s__law_refused_too) := ⟨rfl, rfl, rfl, by decide +kernel, rfl, by decide +kernel, by decide +kernel⟩
theorem sc_law : FnScope ["script", "turn", "source", "kind", "after", "start", "later", "at", "marks", "due", "told", "found", "file", "odd", "rule", "wrong"] ["script"] (defScope s_law) := ⟨rfl, rfl, rfl, by decide +kernel, rfl, by decide +kernel, by decide +kernel⟩
abbrev FnQ (K : PySem.W.Frag) (x q : Str) (st : Stmt) (f : Addr) (fd : FuncData) : Prop := FunD K x q (defArgs st) (defBody st) (defScope st) [] [] f fd
theorem Fcts.b_len {K : PySem.W.Frag} {mg : Str → Option Value} (V : Fcts faL K mg) : mg "len" = none := V.free 0 rfl
theorem Fcts.b_abs {K : PySem.W.Frag} {mg : Str → Option Value} (V : Fcts faL K mg) : mg "abs" = none := V.free 1 rfl
theorem Fcts.b_int {K : PySem.W.Frag} {mg : Str → Option Value} (V : Fcts faL K mg) : mg "int" = none := V.free 2 rfl
theorem Fcts.cf {K : PySem.W.Frag} {mg : Str → Option Value} (V : Fcts faL K mg) : ClF K clsL subC := V.clf 3 rfl
theorem Fcts.b_isinstance {K : PySem.W.Frag} {mg : Str → Option Value} (V : Fcts faL K mg) : mg "isinstance" = none := V.free 4 rfl
theorem Fcts.b_bool {K : PySem.W.Frag} {mg : Str → Option Value} (V : Fcts faL K mg) : mg "bool" = none := V.free 5 rfl
theorem Fcts.cl_Rule {K : PySem.W.Frag} {mg : Str → Option Value} (V : Fcts faL K mg) : Cls K (He.ga K "Rule") := V.cls 6 rfl
theorem Fcts.n_Rule_own_word {K : PySem.W.Frag} {mg : Str → Option Value} (V : Fcts faL K mg) : NoAttr K (He.ga K "Rule") "own_word" := V.noat 7 rfl
theorem Fcts.n_Rule_own_after {K : PySem.W.Frag} {mg : Str → Option Value} (V : Fcts faL K mg) : NoAttr K (He.ga K "Rule") "own_after" := V.noat 8 rfl
theorem Fcts.g_LATEST_AFTER {K : PySem.W.Frag} {mg : Str → Option Value} (V : Fcts faL K mg) : ∃ t, mg "LATEST_AFTER" = some (.int (2000) t) := V.int 9 rfl
theorem Fcts.c_Rule {K : PySem.W.Frag} {mg : Str → Option Value} (V : Fcts faL K mg) : mg "Rule" = some (.ref (He.ga K "Rule")) := V.glo 10 rfl
theorem Fcts.g_LONGEST {K : PySem.W.Frag} {mg : Str → Option Value} (V : Fcts faL K mg) : ∃ t, mg "LONGEST" = some (.int (1000000000) t) := V.int 11 rfl
theorem Fcts.b_tuple {K : PySem.W.Frag} {mg : Str → Option Value} (V : Fcts faL K mg) : mg "tuple" = none := V.free 12 rfl
theorem Fcts.b_str {K : PySem.W.Frag} {mg : Str → Option Value} (V : Fcts faL K mg) : mg "str" = none := V.free 13 rfl
theorem Fcts.g_PLAIN {K : PySem.W.Frag} {mg : Str → Option Value} (V : Fcts faL K mg) : mg "PLAIN" = some (.ref (He.ga K "PLAIN")) := V.glo 14 rfl
def d_PLAIN : D := .tup true [.str "make", .str "read", .str "write", .str "rename", .str "touch"]
theorem rep_PLAIN {K : PySem.W.Frag} {mg : Str → Option Value} (V : Fcts faL K mg) (B : Hp) : Rep K B d_PLAIN (.ref (He.ga K "PLAIN")) := V.tup (vs := ["make", "read", "write", "rename", "touch"]) 15 rfl B
theorem Fcts.cl_Moment {K : PySem.W.Frag} {mg : Str → Option Value} (V : Fcts faL K mg) : Cls K (He.ga K "Moment") := V.cls 16 rfl
theorem Fcts.n_Moment_own_seconds {K : PySem.W.Frag} {mg : Str → Option Value} (V : Fcts faL K mg) : NoAttr K (He.ga K "Moment") "own_seconds" := V.noat 17 rfl
theorem Fcts.c_Moment {K : PySem.W.Frag} {mg : Str → Option Value} (V : Fcts faL K mg) : mg "Moment" = some (.ref (He.ga K "Moment")) := V.glo 18 rfl
theorem Fcts.g_FARTHEST {K : PySem.W.Frag} {mg : Str → Option Value} (V : Fcts faL K mg) : ∃ t, mg "FARTHEST" = some (.int (1000000000000000000000000000000) t) := V.int 19 rfl
theorem Fcts.cl_File {K : PySem.W.Frag} {mg : Str → Option Value} (V : Fcts faL K mg) : Cls K (He.ga K "File") := V.cls 20 rfl
theorem Fcts.n_File_rule {K : PySem.W.Frag} {mg : Str → Option Value} (V : Fcts faL K mg) : NoAttr K (He.ga K "File") "rule" := V.noat 21 rfl
theorem Fcts.n_File_own_held {K : PySem.W.Frag} {mg : Str → Option Value} (V : Fcts faL K mg) : NoAttr K (He.ga K "File") "own_held" := V.noat 22 rfl
theorem Fcts.n_File_own_last {K : PySem.W.Frag} {mg : Str → Option Value} (V : Fcts faL K mg) : NoAttr K (He.ga K "File") "own_last" := V.noat 23 rfl
theorem Fcts.n_File_own_table {K : PySem.W.Frag} {mg : Str → Option Value} (V : Fcts faL K mg) : NoAttr K (He.ga K "File") "own_table" := V.noat 24 rfl
theorem Fcts.b_list {K : PySem.W.Frag} {mg : Str → Option Value} (V : Fcts faL K mg) : mg "list" = none := V.free 25 rfl
theorem Fcts.b_dict {K : PySem.W.Frag} {mg : Str → Option Value} (V : Fcts faL K mg) : mg "dict" = none := V.free 26 rfl
theorem Fcts.c_Marked {K : PySem.W.Frag} {mg : Str → Option Value} (V : Fcts faL K mg) : mg "Marked" = some (.ref (He.ga K "Marked")) := V.glo 27 rfl
theorem Fcts.f_Rule {K : PySem.W.Frag} {mg : Str → Option Value} (V : Fcts faL K mg) : PySem.W.notFirst K (He.ga K "Rule") (.ref (He.ga K "Rule")) = true := V.nof 28 rfl
theorem Fcts.nt_Rule_str {K : PySem.W.Frag} {mg : Str → Option Value} (V : Fcts faL K mg) : PySem.W.notFirst K (He.ga K "Rule") (.type "str") = true := V.gen 29 rfl
theorem Fcts.no_Rule {K : PySem.W.Frag} {mg : Str → Option Value} (V : Fcts faL K mg) : ∀ d ∈ clsL, PySem.W.notFirst K (He.ga K "Rule") (.ref (He.ga K d)) = true := V.all 30 rfl
theorem Fcts.c_NoRule {K : PySem.W.Frag} {mg : Str → Option Value} (V : Fcts faL K mg) : mg "NoRule" = some (.ref (He.ga K "NoRule")) := V.glo 31 rfl
theorem Fcts.b_repr {K : PySem.W.Frag} {mg : Str → Option Value} (V : Fcts faL K mg) : mg "repr" = none := V.free 32 rfl
theorem Fcts.kito_NoRule__AgeError__1 {K : PySem.W.Frag} {mg : Str → Option Value} (V : Fcts faL K mg) : PySem.W.kitOne K (.ref (He.ga K "NoRule")) (.ref (He.ga K "AgeError")) = some true := V.kito 33 rfl
theorem Fcts.exi_NoRule {K : PySem.W.Frag} {mg : Str → Option Value} (V : Fcts faL K mg) : ExcC K (He.ga K "NoRule") := V.exi 34 rfl
theorem Fcts.c_AgeError {K : PySem.W.Frag} {mg : Str → Option Value} (V : Fcts faL K mg) : mg "AgeError" = some (.ref (He.ga K "AgeError")) := V.glo 35 rfl
theorem Fcts.c_NoFile {K : PySem.W.Frag} {mg : Str → Option Value} (V : Fcts faL K mg) : mg "NoFile" = some (.ref (He.ga K "NoFile")) := V.glo 36 rfl
theorem Fcts.kito_NoFile__AgeError__1 {K : PySem.W.Frag} {mg : Str → Option Value} (V : Fcts faL K mg) : PySem.W.kitOne K (.ref (He.ga K "NoFile")) (.ref (He.ga K "AgeError")) = some true := V.kito 37 rfl
theorem Fcts.exi_NoFile {K : PySem.W.Frag} {mg : Str → Option Value} (V : Fcts faL K mg) : ExcC K (He.ga K "NoFile") := V.exi 38 rfl
theorem Fcts.c_NoMoment {K : PySem.W.Frag} {mg : Str → Option Value} (V : Fcts faL K mg) : mg "NoMoment" = some (.ref (He.ga K "NoMoment")) := V.glo 39 rfl
theorem Fcts.kito_NoMoment__AgeError__1 {K : PySem.W.Frag} {mg : Str → Option Value} (V : Fcts faL K mg) : PySem.W.kitOne K (.ref (He.ga K "NoMoment")) (.ref (He.ga K "AgeError")) = some true := V.kito 40 rfl
theorem Fcts.exi_NoMoment {K : PySem.W.Frag} {mg : Str → Option Value} (V : Fcts faL K mg) : ExcC K (He.ga K "NoMoment") := V.exi 41 rfl
theorem Fcts.exT {K : PySem.W.Frag} {mg : Str → Option Value} (V : Fcts faL K mg) : ∀ a b r, exOf exL a b = some r → PySem.W.exmOne K (.ref (He.ga K a)) (.ref (He.ga K b)) = some r := V.exl 42 rfl
theorem Fcts.fc_Rule {K : PySem.W.Frag} {mg : Str → Option Value} (V : Fcts faL K mg) : ∀ f, PySem.W.findIn K (.ref (He.ga K "Rule")) "__call__" = some (some (.ref f)) → PySem.W.fnIn K f = true := V.fic 43 rfl
theorem Fcts.b_range {K : PySem.W.Frag} {mg : Str → Option Value} (V : Fcts faL K mg) : mg "range" = none := V.free 44 rfl
theorem Fcts.b_max {K : PySem.W.Frag} {mg : Str → Option Value} (V : Fcts faL K mg) : mg "max" = none := V.free 45 rfl
theorem Fcts.b_min {K : PySem.W.Frag} {mg : Str → Option Value} (V : Fcts faL K mg) : mg "min" = none := V.free 46 rfl
def m__law_source : FnT := fnM 3 ((xSeq (xSet 2 (xUp (xC (.int 0))))
    (xSeq (xKl [true] (xIf (xB (xFz (xPr pLt (xCons (xFz (xVar 1)) (xCons (xFz (xPr pLen (xCons (xFz (xVar 0)) xNil))) xNil))))) (xKl [true] (xSet 2 (xPr pIxL (xCons (xFz (xVar 0)) (xCons (xFz (xVar 1)) xNil))))) xNx))
    (xSeq (xKl [false, false, true] (xSet 3 (xPr pAbs (xCons (xFz (xVar 2)) xNil))))
    (xSeq (xKl [false, true] (xSet 4 (xPr pMod (xCons (xFz (xPr pInt (xCons (xFz (xPr pAdd (xCons (xFz (xPr pAdd (xCons (xFz (xPr pMul (xCons (xFz (xPr pMod (xCons (xFz (xPr pInt (xCons (xFz (xVar 3)) xNil))) (xCons (xC (.int 2147483629)) xNil)))) (xCons (xC (.int 16807)) xNil)))) (xCons (xFz (xPr pMul (xCons (xC (.int 104729)) (xCons (xFz (xVar 1)) xNil)))) xNil)))) (xCons (xC (.int 11)) xNil)))) xNil))) (xCons (xC (.int 2147483647)) xNil)))))
    (xSeq (xIf (xB (xFz (xPr pLt (xCons (xFz (xVar 3)) (xCons (xFz (xPr pPow (xCons (xC (.int 10)) (xCons (xC (.int 18)) xNil)))) xNil))))) (xSet 3 (xUp (xC (.int 0)))) xNx)
    (xRet (xPr pLst (xCons (xFz (xVar 3)) (xCons (xFz (xVar 4)) xNil))))))))))
theorem ok__law_source {P : Program} {w : World} {K : PySem.W.Frag} {mg : Str → Option Value} {base : Heap} {f : Addr} {fd : FuncData} (F : FnQ K "_law_source" "_law_source" s__law_source f fd) (V : Fcts faL K mg)  :
    FnOk P w K mg base CX0 1 f fd ["script", "turn"] (spM K 2 m__law_source) :=
  xdef F sc__law_source rfl fun _ _ _ _ _ _ hr => (xss_cons (xs_set (ps_set (i := 2) sc__law_source.nd rfl (Or.inl rfl) (xu (xe_c pe_int fun _ => rfl))))
    (xss_cons (xs_kl [true] (xs_if (xt_cmp op_lt ps_lt (xv (xe_var (pv 1))) (xv (xe_cb ps_len (pe_callB call_len_seq (by rfl) V.b_len (by decide +kernel) (xa_cons (xv (xe_var (pv 0))) xa_nil)))) (nomark _)) (xss_one (xs_kl [true] (xs_set (ps_set (i := 2) sc__law_source.nd rfl (Or.inl rfl) (xe_ix ix_list ps_ixL (xv (xe_var (pv 0))) (xv (xe_var (pv 1))) (fun _ _ => rfl)))))) xss_nil))
    (xss_cons (xs_kl [false, false, true] (xs_set (ps_set (i := 3) sc__law_source.nd rfl (Or.inl rfl) (xe_cb ps_abs (pe_callB call_abs (by rfl) V.b_abs (by decide +kernel) (xa_cons (xv (xe_var (pv 2))) xa_nil))))))
    (xss_cons (xs_kl [false, true] (xs_set (ps_set (i := 4) sc__law_source.nd rfl (Or.inl rfl) (xe_op op_mod ps_mod (xv (xe_cb ps_int (pe_callTy call_int1 (by rfl) V.b_int (by decide +kernel) (xa_cons (xv (xe_op op_add ps_add (xv (xe_op op_add ps_add (xv (xe_op op_mulW ps_mul (xv (xe_op op_mod ps_mod (xv (xe_cb ps_int (pe_callTy call_int1 (by rfl) V.b_int (by decide +kernel) (xa_cons (xv (xe_var (pv 3))) xa_nil)))) (xe_c pe_int fun _ => rfl))) (xe_c pe_int fun _ => rfl))) (xv (xe_op op_mulW ps_mul (xe_c pe_int fun _ => rfl) (xv (xe_var (pv 1))))))) (xe_c pe_int fun _ => rfl))) xa_nil)))) (xe_c pe_int fun _ => rfl)))))
    (xss_cons (xs_if (xt_cmp op_lt ps_lt (xv (xe_var (pv 3))) (xv (xe_op op_pow ps_pow (xe_c pe_int fun _ => rfl) (xe_c pe_int fun _ => rfl))) (nomark _)) (xss_one (xs_set (ps_set (i := 3) sc__law_source.nd rfl (Or.inl rfl) (xu (xe_c pe_int fun _ => rfl))))) xss_nil)
    (xss_one (xs_ret (xe_lst (xa_cons (xv (xe_var (pv 3))) (xa_cons (xv (xe_var (pv 4))) xa_nil))))))))))
def m__law_draw : FnT := fnM 2 ((xSeq (xIf (xBorT (xB (xFz (xPr pGt (xCons (xFz (xPr pIxL (xCons (xFz (xVar 0)) (xCons (xC (.int 0)) xNil)))) (xCons (xC (.int 0)) xNil)))))) (xSeq (xSet 2 (xBor (xPr pMod (xCons (xFz (xPr pInt (xCons (xFz (xPr pIxL (xCons (xFz (xVar 0)) (xCons (xC (.int 0)) xNil)))) xNil))) (xCons (xFz (xVar 1)) xNil)))))
    (xSeq (xPutP true Str.empty 0 none (qC (.int 0)) (xBorV (xFz (xPr pDiv (xCons (xFz (xPr pIxL (xCons (xFz (xVar 0)) (xCons (xC (.int 0)) xNil)))) (xCons (xFz (xVar 1)) xNil))))))
    (xRetV 2))) xNx)
    (xSeq (xPutP true Str.empty 0 none (qC (.int 1)) (xBorV (xFz (xPr pMod (xCons (xFz (xPr pInt (xCons (xFz (xPr pAdd (xCons (xFz (xPr pMul (xCons (xFz (xPr pIxL (xCons (xFz (xVar 0)) (xCons (xC (.int 1)) xNil)))) (xCons (xC (.int 48271)) xNil)))) (xCons (xC (.int 11)) xNil)))) xNil))) (xCons (xC (.int 2147483647)) xNil))))))
    (xSeq (xSet 3 (xBor (xPr pDiv (xCons (xFz (xPr pMod (xCons (xFz (xPr pInt (xCons (xFz (xPr pMul (xCons (xFz (xPr pIxL (xCons (xFz (xVar 0)) (xCons (xC (.int 1)) xNil)))) (xCons (xFz (xPr pIxL (xCons (xFz (xVar 0)) (xCons (xC (.int 1)) xNil)))) xNil)))) xNil))) (xCons (xC (.int 2147483629)) xNil)))) (xCons (xC (.int 64)) xNil)))))
    (xSeq (xIf (xB (xFz (xPr pGt (xCons (xFz (xVar 1)) (xCons (xFz (xPr pPow (xCons (xC (.int 10)) (xCons (xC (.int 7)) xNil)))) xNil))))) (xSeq (xPutP true Str.empty 0 none (qC (.int 1)) (xBorV (xFz (xPr pMod (xCons (xFz (xPr pInt (xCons (xFz (xPr pAdd (xCons (xFz (xPr pMul (xCons (xFz (xPr pIxL (xCons (xFz (xVar 0)) (xCons (xC (.int 1)) xNil)))) (xCons (xC (.int 39373)) xNil)))) (xCons (xC (.int 17)) xNil)))) xNil))) (xCons (xC (.int 2147483647)) xNil))))))
    (xSet 3 (xBor (xPr pAdd (xCons (xFz (xPr pMul (xCons (xFz (xVar 3)) (xCons (xC (.int 33554393)) xNil)))) (xCons (xFz (xPr pDiv (xCons (xFz (xPr pMod (xCons (xFz (xPr pInt (xCons (xFz (xPr pMul (xCons (xFz (xPr pIxL (xCons (xFz (xVar 0)) (xCons (xC (.int 1)) xNil)))) (xCons (xFz (xPr pIxL (xCons (xFz (xVar 0)) (xCons (xC (.int 1)) xNil)))) xNil)))) xNil))) (xCons (xC (.int 2147483629)) xNil)))) (xCons (xC (.int 64)) xNil)))) xNil)))))) xNx)
    (xRet (xPr pMod (xCons (xFz (xPr pInt (xCons (xFz (xVar 3)) xNil))) (xCons (xFz (xVar 1)) xNil)))))))))
theorem ok__law_draw {P : Program} {w : World} {K : PySem.W.Frag} {mg : Str → Option Value} {base : Heap} {f : Addr} {fd : FuncData} (F : FnQ K "_law_draw" "_law_draw" s__law_draw f fd) (V : Fcts faL K mg)  :
    FnOk P w K mg base CX0 1 f fd ["source", "amount"] (spM K 2 m__law_draw) :=
  xdef F sc__law_draw rfl fun _ _ _ _ _ _ hr => (xss_cons (xs_if (xt_bor (xt_cmp op_gt ps_gt (xv (xe_ix ix_list ps_ixL (xv (xe_var (pv 0))) (xe_c pe_int fun _ => rfl) (fun _ _ => rfl))) (xe_c pe_int fun _ => rfl) (nomark _))) (xss_cons (xs_set (ps_set (i := 2) sc__law_draw.nd rfl (Or.inl rfl) (xe_bor (xe_op op_mod ps_mod (xv (xe_cb ps_int (pe_callTy call_int1 (by rfl) V.b_int (by decide +kernel) (xa_cons (xv (xe_ix ix_list ps_ixL (xv (xe_var (pv 0))) (xe_c pe_int fun _ => rfl) (fun _ _ => rfl))) xa_nil)))) (xv (xe_var (pv 1)))))))
    (xss_cons (xs_putL (c := Str.empty) (fo := none) (show PathC K Str.empty none from trivial) (ps_asg (xe_borV (xv (xe_op op_fdivW ps_div (xv (xe_ix ix_list ps_ixL (xv (xe_var (pv 0))) (xe_c pe_int fun _ => rfl) (fun _ _ => rfl))) (xv (xe_var (pv 1)))))) (pg_sub (pv 0) (xq_c pe_int fun _ => rfl) set_list)))
    (xss_one (xs_retV (pv 2))))) xss_nil)
    (xss_cons (xs_putL (c := Str.empty) (fo := none) (show PathC K Str.empty none from trivial) (ps_asg (xe_borV (xv (xe_op op_mod ps_mod (xv (xe_cb ps_int (pe_callTy call_int1 (by rfl) V.b_int (by decide +kernel) (xa_cons (xv (xe_op op_add ps_add (xv (xe_op op_mulW ps_mul (xv (xe_ix ix_list ps_ixL (xv (xe_var (pv 0))) (xe_c pe_int fun _ => rfl) (fun _ _ => rfl))) (xe_c pe_int fun _ => rfl))) (xe_c pe_int fun _ => rfl))) xa_nil)))) (xe_c pe_int fun _ => rfl)))) (pg_sub (pv 0) (xq_c pe_int fun _ => rfl) set_list)))
    (xss_cons (xs_set (ps_set (i := 3) sc__law_draw.nd rfl (Or.inl rfl) (xe_bor (xe_op op_fdivW ps_div (xv (xe_op op_mod ps_mod (xv (xe_cb ps_int (pe_callTy call_int1 (by rfl) V.b_int (by decide +kernel) (xa_cons (xv (xe_op op_mulW ps_mul (xv (xe_ix ix_list ps_ixL (xv (xe_var (pv 0))) (xe_c pe_int fun _ => rfl) (fun _ _ => rfl))) (xv (xe_ix ix_list ps_ixL (xv (xe_var (pv 0))) (xe_c pe_int fun _ => rfl) (fun _ _ => rfl))))) xa_nil)))) (xe_c pe_int fun _ => rfl))) (xe_c pe_int fun _ => rfl)))))
    (xss_cons (xs_if (xt_cmp op_gt ps_gt (xv (xe_var (pv 1))) (xv (xe_op op_pow ps_pow (xe_c pe_int fun _ => rfl) (xe_c pe_int fun _ => rfl))) (nomark _)) (xss_cons (xs_putL (c := Str.empty) (fo := none) (show PathC K Str.empty none from trivial) (ps_asg (xe_borV (xv (xe_op op_mod ps_mod (xv (xe_cb ps_int (pe_callTy call_int1 (by rfl) V.b_int (by decide +kernel) (xa_cons (xv (xe_op op_add ps_add (xv (xe_op op_mulW ps_mul (xv (xe_ix ix_list ps_ixL (xv (xe_var (pv 0))) (xe_c pe_int fun _ => rfl) (fun _ _ => rfl))) (xe_c pe_int fun _ => rfl))) (xe_c pe_int fun _ => rfl))) xa_nil)))) (xe_c pe_int fun _ => rfl)))) (pg_sub (pv 0) (xq_c pe_int fun _ => rfl) set_list)))
    (xss_one (xs_set (ps_set (i := 3) sc__law_draw.nd rfl (Or.inl rfl) (xe_bor (xe_op op_add ps_add (xv (xe_op op_mulW ps_mul (xv (xe_var (pv 3))) (xe_c pe_int fun _ => rfl))) (xv (xe_op op_fdivW ps_div (xv (xe_op op_mod ps_mod (xv (xe_cb ps_int (pe_callTy call_int1 (by rfl) V.b_int (by decide +kernel) (xa_cons (xv (xe_op op_mulW ps_mul (xv (xe_ix ix_list ps_ixL (xv (xe_var (pv 0))) (xe_c pe_int fun _ => rfl) (fun _ _ => rfl))) (xv (xe_ix ix_list ps_ixL (xv (xe_var (pv 0))) (xe_c pe_int fun _ => rfl) (fun _ _ => rfl))))) xa_nil)))) (xe_c pe_int fun _ => rfl))) (xe_c pe_int fun _ => rfl))))))))) xss_nil)
    (xss_one (xs_ret (xe_op op_mod ps_mod (xv (xe_cb ps_int (pe_callTy call_int1 (by rfl) V.b_int (by decide +kernel) (xa_cons (xv (xe_var (pv 3))) xa_nil)))) (xv (xe_var (pv 1))))))))))
def m__law_pick : FnT := fnM 0 ((xRet (xPr pIxL (xCons (xFz (xVar 1)) (xCons (xFz (xCallM 2 0 m__law_draw (xCons (xFz (xPr pLen (xCons (xFz (xVar 1)) xNil))) xNil))) xNil)))))
theorem ok__law_pick {P : Program} {w : World} {K : PySem.W.Frag} {mg : Str → Option Value} {base : Heap} {f : Addr} {fd : FuncData} (F : FnQ K "_law_pick" "_law_pick" s__law_pick f fd) (V : Fcts faL K mg) (c__law_draw : Fn P w K mg base "_law_draw" ["source", "amount"] CX0 1 (spM K 2 m__law_draw)) :
    FnOk P w K mg base CX0 2 f fd ["source", "items"] (spM K 2 m__law_pick) :=
  xdef F sc__law_pick rfl fun _ _ _ _ _ _ hr => (xss_one (xs_ret (xe_ix ix_list ps_ixL (xv (xe_var (pv 1))) (xv (xe_fnM (pe_fn c__law_draw hr pass0 (pa_cons (pv 0) (xa_cons (xv (xe_cb ps_len (pe_callB call_len_seq (by rfl) V.b_len (by decide +kernel) (xa_cons (xv (xe_var (pv 1))) xa_nil)))) xa_nil))))) (fun _ _ => rfl))))
def m_is_whole : FnT := fnM 0 ((xRet (xUp (xAndV (xIsi clsL subC (.b "int") (xFz (xVar 0))) (xOfB (xNot (xB (xIsi clsL subC (.b "bool") (xFz (xVar 0))))))))))
theorem ok_is_whole {P : Program} {w : World} {K : PySem.W.Frag} {mg : Str → Option Value} {base : Heap} {f : Addr} {fd : FuncData} (F : FnQ K "is_whole" "is_whole" s_is_whole f fd) (V : Fcts faL K mg)  :
    FnOk P w K mg base CX0 1 f fd ["value"] (spM K 1 m_is_whole) :=
  xdef F sc_is_whole rfl fun _ _ _ _ _ _ hr => (xss_one (xs_ret (xu (xe_andV (xe_isi (T := (.b "int")) V.cf (pe_callB call_isi (by rfl) V.b_isinstance (by decide +kernel) (pa_cons (xv (xe_var (pv 0))) (pa_cons (pe_ty "int" (by rfl) V.b_int (by decide +kernel)) pa_nil)))) (pe_one (xe_not (xe_isi (T := (.b "bool")) V.cf (pe_callB call_isi (by rfl) V.b_isinstance (by decide +kernel) (pa_cons (xv (xe_var (pv 0))) (pa_cons (pe_ty "bool" (by rfl) V.b_bool (by decide +kernel)) pa_nil))))))))))
def m_is_between : FnT := fnM 0 ((xRet (xUp (xAndV (xFz (xCall 1 m_is_whole (xCons (xFz (xVar 0)) xNil))) (xOfB (xChain pLe pLe (xFz (xVar 1)) (xFz (xVar 0)) (xFz (xVar 2))))))))
theorem ok_is_between {P : Program} {w : World} {K : PySem.W.Frag} {mg : Str → Option Value} {base : Heap} {f : Addr} {fd : FuncData} (F : FnQ K "is_between" "is_between" s_is_between f fd) (V : Fcts faL K mg) (c_is_whole : Fn P w K mg base "is_whole" ["value"] CX0 1 (spM K 1 m_is_whole)) :
    FnOk P w K mg base CX0 2 f fd ["value", "low", "high"] (spM K 3 m_is_between) :=
  xdef F sc_is_between rfl fun _ _ _ _ _ _ hr => (xss_one (xs_ret (xu (xe_andV (xv (xe_fn (pe_fn c_is_whole hr pass0 (xa_cons (xv (xe_var (pv 0))) xa_nil)))) (pe_one (xe_chain ps_le ps_le (pe_chain op_le op_le (xv (xe_var (pv 1))) (xv (xe_var (pv 0))) (xv (xe_var (pv 2))))))))))
def m_Rule___init__ : FnT := fnM 0 ((xSeq (xKl [false, true] (xFS "Rule" 0 "own_word" (xVar 1)))
    (xFS "Rule" 0 "own_after" (xVar 2))))
theorem ok_Rule___init__ {P : Program} {w : World} {K : PySem.W.Frag} {mg : Str → Option Value} {base : Heap} {f : Addr} {fd : FuncData} (F : FnQ K "__init__" "Rule.__init__" s_Rule___init__ f fd) (V : Fcts faL K mg)  :
    FnOk P w K mg base CX0 1 f fd ["self", "word", "after"] (spM K 3 m_Rule___init__) :=
  xdef F sc_Rule___init__ rfl fun _ _ _ _ _ _ hr => (xss_cons (xs_kl [false, true] (xs_fs (c := "Rule") (V.cl_Rule) V.n_Rule_own_word (ps_fld (pv 0) (xe_var (pv 1)) rfl)))
    (xss_one (xs_fs (c := "Rule") (V.cl_Rule) V.n_Rule_own_after (ps_fld (pv 0) (xe_var (pv 2)) rfl))))
def m_Rule_seldom : FnT := fnM 0 ((xSeq (xIf (xNot (xB (xFz (xCall 3 m_is_between (xCons (xFz (xVar 0)) (xCons (xC (.int 1)) (xCons (xC (.int (2000))) xNil))))))) xNever xNx)
    (xRet (xUp (xFz (xMk "Rule" 3 m_Rule___init__ (xCons (xC (.str "seldom")) (xCons (xFz (xVar 0)) xNil))))))))
theorem ok_Rule_seldom {P : Program} {w : World} {K : PySem.W.Frag} {mg : Str → Option Value} {base : Heap} {f : Addr} {fd : FuncData} (F : FnQ K "seldom" "Rule.seldom" s_Rule_seldom f fd) (V : Fcts faL K mg) (c_is_between : Fn P w K mg base "is_between" ["value", "low", "high"] CX0 2 (spM K 3 m_is_between)) (c_Rule___init__ : Nw P w K mg base "Rule" (He.ga K "Rule") ["self", "word", "after"] CX0 1 (spM K 3 m_Rule___init__)) :
    FnOk P w K mg base CX0 3 f fd ["after"] (spM K 1 m_Rule_seldom) :=
  xdef F sc_Rule_seldom rfl fun _ _ _ _ _ _ hr => (xss_cons (xs_if (xt_not (xt_val (xv (xe_fn (pe_fn c_is_between hr pass0 (xa_cons (xv (xe_var (pv 0))) (xa_cons (xe_c pe_int fun _ => rfl) (xa_cons (xe_c (pe_gi V.g_LATEST_AFTER.choose_spec) fun _ => rfl) xa_nil)))))))) (xss_one xs_never) xss_nil)
    (xss_one (xs_ret (xu (xv (xe_mk (c := "Rule") (pe_nw c_Rule___init__ hr pass0 (xa_cons (xe_c pe_str fun _ => rfl) (xa_cons (xv (xe_var (pv 0))) xa_nil)))))))))
def m_Rule_always : FnT := fnM 0 ((xRet (xUp (xFz (xMk "Rule" 3 m_Rule___init__ (xCons (xC (.str "always")) (xCons (xC .non) xNil)))))))
theorem ok_Rule_always {P : Program} {w : World} {K : PySem.W.Frag} {mg : Str → Option Value} {base : Heap} {f : Addr} {fd : FuncData} (F : FnQ K "always" "Rule.always" s_Rule_always f fd) (V : Fcts faL K mg) (c_Rule___init__ : Nw P w K mg base "Rule" (He.ga K "Rule") ["self", "word", "after"] CX0 1 (spM K 3 m_Rule___init__)) :
    FnOk P w K mg base CX0 3 f fd [] (spM K 0 m_Rule_always) :=
  xdef F sc_Rule_always rfl fun _ _ _ _ _ _ hr => (xss_one (xs_ret (xu (xv (xe_mk (c := "Rule") (pe_nw c_Rule___init__ hr pass0 (xa_cons (xe_c pe_str fun _ => rfl) (xa_cons (xe_c pe_non fun _ => rfl) xa_nil))))))))
def m_Rule_never : FnT := fnM 0 ((xRet (xUp (xFz (xMk "Rule" 3 m_Rule___init__ (xCons (xC (.str "never")) (xCons (xC .non) xNil)))))))
theorem ok_Rule_never {P : Program} {w : World} {K : PySem.W.Frag} {mg : Str → Option Value} {base : Heap} {f : Addr} {fd : FuncData} (F : FnQ K "never" "Rule.never" s_Rule_never f fd) (V : Fcts faL K mg) (c_Rule___init__ : Nw P w K mg base "Rule" (He.ga K "Rule") ["self", "word", "after"] CX0 1 (spM K 3 m_Rule___init__)) :
    FnOk P w K mg base CX0 3 f fd [] (spM K 0 m_Rule_never) :=
  xdef F sc_Rule_never rfl fun _ _ _ _ _ _ hr => (xss_one (xs_ret (xu (xv (xe_mk (c := "Rule") (pe_nw c_Rule___init__ hr pass0 (xa_cons (xe_c pe_str fun _ => rfl) (xa_cons (xe_c pe_non fun _ => rfl) xa_nil))))))))
def m__law_rule : FnT := fnM 0 ((xSeq (xKl [false, true] (xIf (xB (xFz (xPr pEq (xCons (xFz (xVar 0)) (xCons (xC (.str "seldom")) xNil))))) (xRet (xUp (xFz (xCall 1 m_Rule_seldom (xCons (xFz (xVar 1)) xNil))))) xNx))
    (xRet (xIfE (xB (xFz (xPr pEq (xCons (xFz (xVar 0)) (xCons (xC (.str "always")) xNil))))) (xUp (xFz (xCall 0 m_Rule_always xNil))) (xUp (xFz (xCall 0 m_Rule_never xNil)))))))
theorem ok__law_rule {P : Program} {w : World} {K : PySem.W.Frag} {mg : Str → Option Value} {base : Heap} {f : Addr} {fd : FuncData} (F : FnQ K "_law_rule" "_law_rule" s__law_rule f fd) (V : Fcts faL K mg) (c_Rule_seldom : Sm P w K mg base (He.ga K "Rule") "seldom" ["after"] CX0 3 (spM K 1 m_Rule_seldom)) (c_Rule_always : Sm P w K mg base (He.ga K "Rule") "always" [] CX0 3 (spM K 0 m_Rule_always)) (c_Rule_never : Sm P w K mg base (He.ga K "Rule") "never" [] CX0 3 (spM K 0 m_Rule_never)) :
    FnOk P w K mg base CX0 4 f fd ["kind", "after"] (spM K 2 m__law_rule) :=
  xdef F sc__law_rule rfl fun _ _ _ _ _ _ hr => (xss_cons (xs_kl [false, true] (xs_if (xt_cmp (op_eqD hr.units) ps_eq (xv (xe_var (pv 0))) (xe_c pe_str fun _ => rfl) (nomark _)) (xss_one (xs_ret (xu (xv (xe_sm (c := "Rule") (pe_sm c_Rule_seldom hr pass0 (pe_gc V.c_Rule) (xa_cons (xv (xe_var (pv 1))) xa_nil))))))) xss_nil))
    (xss_one (xs_ret (xe_if (xt_cmp (op_eqD hr.units) ps_eq (xv (xe_var (pv 0))) (xe_c pe_str fun _ => rfl) (nomark _)) (xu (xv (xe_sm0 (c := "Rule") (pe_sm0 c_Rule_always hr pass0 (pe_gc V.c_Rule))))) (xu (xv (xe_sm0 (c := "Rule") (pe_sm0 c_Rule_never hr pass0 (pe_gc V.c_Rule)))))))))
def m_Rule_after : FnT := fnM 0 ((xRet (xUp (xFldS "Rule" 0 "own_after"))))
theorem ok_Rule_after {P : Program} {w : World} {K : PySem.W.Frag} {mg : Str → Option Value} {base : Heap} {f : Addr} {fd : FuncData} (F : FnQ K "after" "Rule.after" s_Rule_after f fd) (V : Fcts faL K mg)  :
    FnOk P w K mg base CX0 1 f fd ["self"] (spM K 1 m_Rule_after) :=
  xdef F sc_Rule_after rfl fun _ _ _ _ _ _ hr => (xss_one (xs_ret (xu (xe_fldS (c := "Rule") (V.cl_Rule) V.n_Rule_own_after (pe_fld (pv 0) rfl)))))
def m_Rule_word : FnT := fnM 0 ((xRet (xUp (xFldS "Rule" 0 "own_word"))))
theorem ok_Rule_word {P : Program} {w : World} {K : PySem.W.Frag} {mg : Str → Option Value} {base : Heap} {f : Addr} {fd : FuncData} (F : FnQ K "word" "Rule.word" s_Rule_word f fd) (V : Fcts faL K mg)  :
    FnOk P w K mg base CX0 1 f fd ["self"] (spM K 1 m_Rule_word) :=
  xdef F sc_Rule_word rfl fun _ _ _ _ _ _ hr => (xss_one (xs_ret (xu (xe_fldS (c := "Rule") (V.cl_Rule) V.n_Rule_own_word (pe_fld (pv 0) rfl)))))
def m_check_rule : FnT := fnM 0 ((xIf (xNot (xB (xIsi clsL subC (.o "Rule") (xFz (xVar 0))))) xNever xNx))
theorem ok_check_rule {P : Program} {w : World} {K : PySem.W.Frag} {mg : Str → Option Value} {base : Heap} {f : Addr} {fd : FuncData} (F : FnQ K "check_rule" "check_rule" s_check_rule f fd) (V : Fcts faL K mg)  :
    FnOk P w K mg base CX0 1 f fd ["value"] (spM K 1 m_check_rule) :=
  xdef F sc_check_rule rfl fun _ _ _ _ _ _ hr => (xss_one (xs_if (xt_not (xt_val (xe_isi (T := (.o "Rule")) V.cf (pe_callB call_isi (by rfl) V.b_isinstance (by decide +kernel) (pa_cons (xv (xe_var (pv 0))) (pa_cons (pe_gc V.c_Rule) pa_nil)))))) (xss_one xs_never) xss_nil))
def m_is_time : FnT := fnM 0 ((xRet (xCall 3 m_is_between (xCons (xFz (xVar 0)) (xCons (xC (.int 1)) (xCons (xC (.int (1000000000))) xNil))))))
theorem ok_is_time {P : Program} {w : World} {K : PySem.W.Frag} {mg : Str → Option Value} {base : Heap} {f : Addr} {fd : FuncData} (F : FnQ K "is_time" "is_time" s_is_time f fd) (V : Fcts faL K mg) (c_is_between : Fn P w K mg base "is_between" ["value", "low", "high"] CX0 2 (spM K 3 m_is_between)) :
    FnOk P w K mg base CX0 3 f fd ["value"] (spM K 1 m_is_time) :=
  xdef F sc_is_time rfl fun _ _ _ _ _ _ hr => (xss_one (xs_ret (xe_fn (pe_fn c_is_between hr pass0 (xa_cons (xv (xe_var (pv 0))) (xa_cons (xe_c pe_int fun _ => rfl) (xa_cons (xe_c (pe_gi V.g_LONGEST.choose_spec) fun _ => rfl) xa_nil)))))))
def m_is_deed : FnT := fnM 0 ((xSeq (xIf (xOr (xNot (xB (xIsi clsL subC (.b "tuple") (xFz (xVar 0))))) (xOr (xB (xFz (xPr pEq (xCons (xFz (xVar 0)) (xCons (xFz (xPr pTup xNil)) xNil))))) (xNot (xB (xIsi clsL subC (.b "str") (xFz (xPr pIxT (xCons (xFz (xVar 0)) (xCons (xC (.int 0)) xNil))))))))) (xRet (xUp (xC (.bl false)))) xNx)
    (xSeq (xIf (xB (xFz (xPr pInT (xCons (xFz (xPr pIxT (xCons (xFz (xVar 0)) (xCons (xC (.int 0)) xNil)))) (xCons (xC d_PLAIN) xNil))))) (xRet (xPr pEq (xCons (xFz (xPr pLen (xCons (xFz (xVar 0)) xNil))) (xCons (xC (.int 1)) xNil)))) xNx)
    (xRet (xUp (xAndV (xFz (xPr pInT (xCons (xFz (xPr pIxT (xCons (xFz (xVar 0)) (xCons (xC (.int 0)) xNil)))) (xCons (xFz (xPr pTup (xCons (xC (.str "unpack")) (xCons (xC (.str "setback")) xNil)))) xNil)))) (xAndV (xFz (xPr pEq (xCons (xFz (xPr pLen (xCons (xFz (xVar 0)) xNil))) (xCons (xC (.int 2)) xNil)))) (xFz (xCall 1 m_is_time (xCons (xFz (xPr pIxT (xCons (xFz (xVar 0)) (xCons (xC (.int 1)) xNil)))) xNil))))))))))
theorem ok_is_deed {P : Program} {w : World} {K : PySem.W.Frag} {mg : Str → Option Value} {base : Heap} {f : Addr} {fd : FuncData} (F : FnQ K "is_deed" "is_deed" s_is_deed f fd) (V : Fcts faL K mg) (c_is_time : Fn P w K mg base "is_time" ["value"] CX0 3 (spM K 1 m_is_time)) :
    FnOk P w K mg base CX0 4 f fd ["value"] (spM K 1 m_is_deed) :=
  xdef F sc_is_deed rfl fun _ _ _ _ _ _ hr => (xss_cons (xs_if (PW.pt (xw_or (xt_not (xt_val (xe_isi (T := (.b "tuple")) V.cf (pe_callB call_isi (by rfl) V.b_isinstance (by decide +kernel) (pa_cons (xv (xe_var (pv 0))) (pa_cons (pe_ty "tuple" (by rfl) V.b_tuple (by decide +kernel)) pa_nil)))))) (xw_or (xt_cmp (op_eqD hr.units) ps_eq (xv (xe_var (pv 0))) (xv (xe_tup xa_nil)) (nomark _)) (pw_or1 (xt_not (xt_val (xe_isi (T := (.b "str")) V.cf (pe_callB call_isi (by rfl) V.b_isinstance (by decide +kernel) (pa_cons (xv (xe_ix ix_tup ps_ixT (xv (xe_var (pv 0))) (xe_c pe_int fun _ => rfl) (fun _ _ => rfl))) (pa_cons (pe_ty "str" (by rfl) V.b_str (by decide +kernel)) pa_nil)))))))))) (xss_one (xs_ret (xu (xe_c pe_bl fun _ => rfl)))) xss_nil)
    (xss_cons (xs_if (xt_cmp op_in_seq ps_inT (xv (xe_ix ix_tup ps_ixT (xv (xe_var (pv 0))) (xe_c pe_int fun _ => rfl) (fun _ _ => rfl))) (xe_c (pe_gc V.g_PLAIN) fun B => rep_PLAIN V B) (by rfl)) (xss_one (xs_ret (xe_cmp (op_eqD hr.units) ps_eq (xv (xe_cb ps_len (pe_callB call_len_seq (by rfl) V.b_len (by decide +kernel) (xa_cons (xv (xe_var (pv 0))) xa_nil)))) (xe_c pe_int fun _ => rfl) (nomark _)))) xss_nil)
    (xss_one (xs_ret (xu (xe_andV (xv (xe_cmp op_in_seq ps_inT (xv (xe_ix ix_tup ps_ixT (xv (xe_var (pv 0))) (xe_c pe_int fun _ => rfl) (fun _ _ => rfl))) (xv (xe_tup (xa_cons (xe_c pe_str fun _ => rfl) (xa_cons (xe_c pe_str fun _ => rfl) xa_nil)))) (by rfl))) (xe_andV (xv (xe_cmp (op_eqD hr.units) ps_eq (xv (xe_cb ps_len (pe_callB call_len_seq (by rfl) V.b_len (by decide +kernel) (xa_cons (xv (xe_var (pv 0))) xa_nil)))) (xe_c pe_int fun _ => rfl) (nomark _))) (pe_one (xv (xe_fn (pe_fn c_is_time hr pass0 (xa_cons (xv (xe_ix ix_tup ps_ixT (xv (xe_var (pv 0))) (xe_c pe_int fun _ => rfl) (fun _ _ => rfl))) xa_nil))))))))))))
def m_makes : FnT := fnM 0 ((xRet (xUp (xAndV (xFz (xCall 1 m_is_deed (xCons (xFz (xVar 0)) xNil))) (xFz (xPr pInT (xCons (xFz (xPr pIxT (xCons (xFz (xVar 0)) (xCons (xC (.int 0)) xNil)))) (xCons (xFz (xPr pTup (xCons (xC (.str "make")) (xCons (xC (.str "unpack")) xNil)))) xNil))))))))
theorem ok_makes {P : Program} {w : World} {K : PySem.W.Frag} {mg : Str → Option Value} {base : Heap} {f : Addr} {fd : FuncData} (F : FnQ K "makes" "makes" s_makes f fd) (V : Fcts faL K mg) (c_is_deed : Fn P w K mg base "is_deed" ["value"] CX0 4 (spM K 1 m_is_deed)) :
    FnOk P w K mg base CX0 5 f fd ["value"] (spM K 1 m_makes) :=
  xdef F sc_makes rfl fun _ _ _ _ _ _ hr => (xss_one (xs_ret (xu (xe_andV (xv (xe_fn (pe_fn c_is_deed hr pass0 (xa_cons (xv (xe_var (pv 0))) xa_nil)))) (pe_one (xv (xe_cmp op_in_seq ps_inT (xv (xe_ix ix_tup ps_ixT (xv (xe_var (pv 0))) (xe_c pe_int fun _ => rfl) (fun _ _ => rfl))) (xv (xe_tup (xa_cons (xe_c pe_str fun _ => rfl) (xa_cons (xe_c pe_str fun _ => rfl) xa_nil)))) (by rfl))))))))
def m_Moment_seconds : FnT := fnM 0 ((xRet (xUp (xFldS "Moment" 0 "own_seconds"))))
theorem ok_Moment_seconds {P : Program} {w : World} {K : PySem.W.Frag} {mg : Str → Option Value} {base : Heap} {f : Addr} {fd : FuncData} (F : FnQ K "seconds" "Moment.seconds" s_Moment_seconds f fd) (V : Fcts faL K mg)  :
    FnOk P w K mg base CX0 1 f fd ["self"] (spM K 1 m_Moment_seconds) :=
  xdef F sc_Moment_seconds rfl fun _ _ _ _ _ _ hr => (xss_one (xs_ret (xu (xe_fldS (c := "Moment") (V.cl_Moment) V.n_Moment_own_seconds (pe_fld (pv 0) rfl)))))
def m_seconds_of : FnT := fnM 0 ((xSeq (xIf (xB (xIsi clsL subC (.o "Moment") (xFz (xVar 0)))) (xRet (xPrp "Moment" m_Moment_seconds (xFz (xVar 0)))) xNx)
    (xRet (xIfE (xB (xFz (xCall 3 m_is_between (xCons (xFz (xVar 0)) (xCons (xFz (xPr pNeg (xCons (xC (.int (1000000000000000000000000000000))) xNil))) (xCons (xC (.int (1000000000000000000000000000000))) xNil)))))) (xVar 0) (xUp (xC .non))))))
theorem ok_seconds_of {P : Program} {w : World} {K : PySem.W.Frag} {mg : Str → Option Value} {base : Heap} {f : Addr} {fd : FuncData} (F : FnQ K "seconds_of" "seconds_of" s_seconds_of f fd) (V : Fcts faL K mg) (c_Moment_seconds : Pr P w K mg base (He.ga K "Moment") "seconds" ["self"] CX0 1 (spM K 1 m_Moment_seconds)) (c_is_between : Fn P w K mg base "is_between" ["value", "low", "high"] CX0 2 (spM K 3 m_is_between)) :
    FnOk P w K mg base CX0 3 f fd ["value"] (spM K 1 m_seconds_of) :=
  xdef F sc_seconds_of rfl fun _ _ _ _ _ _ hr => (xss_cons (xs_if (xt_val (xe_isi (T := (.o "Moment")) V.cf (pe_callB call_isi (by rfl) V.b_isinstance (by decide +kernel) (pa_cons (xv (xe_var (pv 0))) (pa_cons (pe_gc V.c_Moment) pa_nil))))) (xss_one (xs_ret (xe_pr (c := "Moment") (pe_pr (V.cl_Moment) c_Moment_seconds hr pass0 (xv (xe_var (pv 0))))))) xss_nil)
    (xss_one (xs_ret (xe_if (xt_val (xv (xe_fn (pe_fn c_is_between hr pass0 (xa_cons (xv (xe_var (pv 0))) (xa_cons (xv (xe_un un_neg ps_neg (xe_c (pe_gi V.g_FARTHEST.choose_spec) fun _ => rfl))) (xa_cons (xe_c (pe_gi V.g_FARTHEST.choose_spec) fun _ => rfl) xa_nil))))))) (xe_var (pv 0)) (xu (xe_c pe_non fun _ => rfl))))))
def m_backs : FnT := fnM 1 ((xSeq (xIf (xNot (xB (xFz (xCall 1 m_is_deed (xCons (xFz (xVar 0)) xNil))))) xNever xNx)
    (xSeq (xSet 1 (xPr pIxT (xCons (xFz (xVar 0)) (xCons (xC (.int 0)) xNil))))
    (xSeq (xIf (xB (xFz (xPr pInT (xCons (xFz (xVar 1)) (xCons (xFz (xPr pTup (xCons (xC (.str "make")) (xCons (xC (.str "touch")) xNil)))) xNil))))) (xRet (xDisp ["read", "written", "changed"] [(xC (.int 0)), (xC (.int 0)), (xC (.int 0))])) xNx)
    (xSeq (xIf (xB (xFz (xPr pEq (xCons (xFz (xVar 1)) (xCons (xC (.str "unpack")) xNil))))) (xRet (xDisp ["read", "written", "changed"] [(xC (.int 0)), (xFz (xPr pIxT (xCons (xFz (xVar 0)) (xCons (xC (.int 1)) xNil)))), (xC (.int 0))])) xNx)
    (xSeq (xKl [true] (xIf (xB (xFz (xPr pEq (xCons (xFz (xVar 1)) (xCons (xC (.str "setback")) xNil))))) (xRet (xDisp ["read", "written", "changed"] [(xFz (xPr pIxT (xCons (xFz (xVar 0)) (xCons (xC (.int 1)) xNil)))), (xFz (xPr pIxT (xCons (xFz (xVar 0)) (xCons (xC (.int 1)) xNil)))), (xC (.int 0))])) xNx))
    (xSeq (xIf (xB (xFz (xPr pEq (xCons (xFz (xVar 1)) (xCons (xC (.str "write")) xNil))))) (xRet (xDisp ["written", "changed"] [(xC (.int 0)), (xC (.int 0))])) xNx)
    (xRet (xIfE (xB (xFz (xPr pEq (xCons (xFz (xVar 1)) (xCons (xC (.str "rename")) xNil))))) (xDisp ["changed"] [(xC (.int 0))]) xDict0)))))))))
theorem ok_backs {P : Program} {w : World} {K : PySem.W.Frag} {mg : Str → Option Value} {base : Heap} {f : Addr} {fd : FuncData} (F : FnQ K "backs" "backs" s_backs f fd) (V : Fcts faL K mg) (c_is_deed : Fn P w K mg base "is_deed" ["value"] CX0 4 (spM K 1 m_is_deed)) :
    FnOk P w K mg base CX0 5 f fd ["deed"] (spM K 1 m_backs) :=
  xdef F sc_backs rfl fun _ _ _ _ _ _ hr => (xss_cons (xs_if (xt_not (xt_val (xv (xe_fn (pe_fn c_is_deed hr pass0 (xa_cons (xv (xe_var (pv 0))) xa_nil)))))) (xss_one xs_never) xss_nil)
    (xss_cons (xs_set (ps_set (i := 1) sc_backs.nd rfl (Or.inl rfl) (xe_ix ix_tup ps_ixT (xv (xe_var (pv 0))) (xe_c pe_int fun _ => rfl) (fun _ _ => rfl))))
    (xss_cons (xs_if (xt_cmp op_in_seq ps_inT (xv (xe_var (pv 1))) (xv (xe_tup (xa_cons (xe_c pe_str fun _ => rfl) (xa_cons (xe_c pe_str fun _ => rfl) xa_nil)))) (by rfl)) (xss_one (xs_ret (xe_disp (ks := ["read", "written", "changed"]) (fs := [(xC (.int 0)), (xC (.int 0)), (xC (.int 0))]) rfl (pe_disp (pps_cons pe_str (xe_c pe_int fun _ => rfl) (pps_cons pe_str (xe_c pe_int fun _ => rfl) (pps_cons pe_str (xe_c pe_int fun _ => rfl) pps_nil))) (by rfl) (by rfl) (fun z => by cases z) (by decide))))) xss_nil)
    (xss_cons (xs_if (xt_cmp (op_eqD hr.units) ps_eq (xv (xe_var (pv 1))) (xe_c pe_str fun _ => rfl) (nomark _)) (xss_one (xs_ret (xe_disp (ks := ["read", "written", "changed"]) (fs := [(xC (.int 0)), (xFz (xPr pIxT (xCons (xFz (xVar 0)) (xCons (xC (.int 1)) xNil)))), (xC (.int 0))]) rfl (pe_disp (pps_cons pe_str (xe_c pe_int fun _ => rfl) (pps_cons pe_str (xv (xe_ix ix_tup ps_ixT (xv (xe_var (pv 0))) (xe_c pe_int fun _ => rfl) (fun _ _ => rfl))) (pps_cons pe_str (xe_c pe_int fun _ => rfl) pps_nil))) (by rfl) (by rfl) (fun z => by cases z) (by decide))))) xss_nil)
    (xss_cons (xs_kl [true] (xs_if (xt_cmp (op_eqD hr.units) ps_eq (xv (xe_var (pv 1))) (xe_c pe_str fun _ => rfl) (nomark _)) (xss_one (xs_ret (xe_disp (ks := ["read", "written", "changed"]) (fs := [(xFz (xPr pIxT (xCons (xFz (xVar 0)) (xCons (xC (.int 1)) xNil)))), (xFz (xPr pIxT (xCons (xFz (xVar 0)) (xCons (xC (.int 1)) xNil)))), (xC (.int 0))]) rfl (pe_disp (pps_cons pe_str (xv (xe_ix ix_tup ps_ixT (xv (xe_var (pv 0))) (xe_c pe_int fun _ => rfl) (fun _ _ => rfl))) (pps_cons pe_str (xv (xe_ix ix_tup ps_ixT (xv (xe_var (pv 0))) (xe_c pe_int fun _ => rfl) (fun _ _ => rfl))) (pps_cons pe_str (xe_c pe_int fun _ => rfl) pps_nil))) (by rfl) (by rfl) (fun z => by cases z) (by decide))))) xss_nil))
    (xss_cons (xs_if (xt_cmp (op_eqD hr.units) ps_eq (xv (xe_var (pv 1))) (xe_c pe_str fun _ => rfl) (nomark _)) (xss_one (xs_ret (xe_disp (ks := ["written", "changed"]) (fs := [(xC (.int 0)), (xC (.int 0))]) rfl (pe_disp (pps_cons pe_str (xe_c pe_int fun _ => rfl) (pps_cons pe_str (xe_c pe_int fun _ => rfl) pps_nil)) (by rfl) (by rfl) (fun z => by cases z) (by decide))))) xss_nil)
    (xss_one (xs_ret (xe_if (xt_cmp (op_eqD hr.units) ps_eq (xv (xe_var (pv 1))) (xe_c pe_str fun _ => rfl) (nomark _)) (xe_disp (ks := ["changed"]) (fs := [(xC (.int 0))]) rfl (pe_disp (pps_cons pe_str (xe_c pe_int fun _ => rfl) pps_nil) (by rfl) (by rfl) (fun z => by cases z) (by decide))) (xe_dict0 pe_dnewK))))))))))
def b1_File___init__ : En → Option Out := (xKb [false, false, false, false, false, true, true] (xPutP false "File" 0 (some "own_table") (qVar 5) (xFz (xPr pSub (xCons (xFz (xVar 4)) (xCons (xFz (xVar 6)) xNil))))))
def m_File___init__ : FnT := fnM 3 ((xSeq (xDrop (xCall 1 m_check_rule (xCons (xFz (xVar 1)) xNil)))
    (xSeq (xIf (xNot (xB (xFz (xCall 1 m_makes (xCons (xFz (xVar 2)) xNil))))) xNever xNx)
    (xSeq (xSet 4 (xCall 1 m_seconds_of (xCons (xFz (xVar 3)) xNil)))
    (xSeq (xKl [false, false, false, true] (xIf (xB (xFz (xPr pIsN (xCons (xFz (xVar 4)) (xCons (xC .non) xNil))))) xNever xNx))
    (xSeq (xKl [false, true] (xFS "File" 0 "rule" (xVar 1)))
    (xSeq (xFS "File" 0 "own_held" (xUp (xC (.bl false))))
    (xSeq (xFS "File" 0 "own_last" (xVar 4))
    (xSeq (xFS "File" 0 "own_table" xDict0)
    (xFor (xItIO (xCall 1 m_backs (xCons (xFz (xVar 2)) xNil))) (gTp 2 (gsCons (gNm 5) (gsCons (gNm 6) gsNil))) b1_File___init__))))))))))
theorem ok_File___init__ {P : Program} {w : World} {K : PySem.W.Frag} {mg : Str → Option Value} {base : Heap} {f : Addr} {fd : FuncData} (F : FnQ K "__init__" "File.__init__" s_File___init__ f fd) (V : Fcts faL K mg) (c_check_rule : Fn P w K mg base "check_rule" ["value"] CX0 1 (spM K 1 m_check_rule)) (c_makes : Fn P w K mg base "makes" ["value"] CX0 5 (spM K 1 m_makes)) (c_seconds_of : Fn P w K mg base "seconds_of" ["value"] CX0 3 (spM K 1 m_seconds_of)) (c_backs : Fn P w K mg base "backs" ["deed"] CX0 5 (spM K 1 m_backs)) :
    FnOk P w K mg base CX0 6 f fd ["self", "rule", "deed", "at"] (spM K 4 m_File___init__) :=
  xdef F sc_File___init__ rfl fun _ _ _ _ _ _ hr => (xss_cons (xs_drop (ps_expr (xe_fn (pe_fn c_check_rule hr pass0 (xa_cons (xv (xe_var (pv 1))) xa_nil)))))
    (xss_cons (xs_if (xt_not (xt_val (xv (xe_fn (pe_fn c_makes hr pass0 (xa_cons (xv (xe_var (pv 2))) xa_nil)))))) (xss_one xs_never) xss_nil)
    (xss_cons (xs_set (ps_set (i := 4) sc_File___init__.nd rfl (Or.inl rfl) (xe_fn (pe_fn c_seconds_of hr pass0 (xa_cons (xv (xe_var (pv 3))) xa_nil)))))
    (xss_cons (xs_kl [false, false, false, true] (xs_if (xt_cmp op_isN ps_isN (xv (xe_var (pv 4))) (xe_c pe_non fun _ => rfl) (nomark _)) (xss_one xs_never) xss_nil))
    (xss_cons (xs_kl [false, true] (xs_fs (c := "File") (V.cl_File) V.n_File_rule (ps_fld (pv 0) (xe_var (pv 1)) rfl)))
    (xss_cons (xs_fs (c := "File") (V.cl_File) V.n_File_own_held (ps_fld (pv 0) (xu (xe_c pe_bl fun _ => rfl)) rfl))
    (xss_cons (xs_fs (c := "File") (V.cl_File) V.n_File_own_last (ps_fld (pv 0) (xe_var (pv 4)) rfl))
    (xss_cons (xs_fs (c := "File") (V.cl_File) V.n_File_own_table (ps_fld (pv 0) (xe_dict0 pe_dnewK) rfl))
    (xss_one (xs_for (ps_for PassesOwn.never rfl (xi_itemsO (pi_items (pe_frz (xe_fn (pe_fn c_backs hr pass0 (xa_cons (xv (xe_var (pv 2))) xa_nil)))))) (xg_tup rfl (xgs_cons (xg_name (pg_name (i := 5) sc_File___init__.nd rfl (Or.inl rfl))) (xgs_cons (xg_name (pg_name (i := 6) sc_File___init__.nd rfl (Or.inl rfl))) xgs_nil))) (show PSs _ _ (rdS K _ b1_File___init__) from (xss_kb [false, false, false, false, false, true, true] (xss_one (xs_putD (c := "File") (fo := (some "own_table")) ⟨(V.cl_File), V.n_File_own_table⟩ (ps_dput (hu_of hr) (pe_fld (pv 0) rfl) (xq_var (pv 5)) (xv (xe_op op_sub ps_sub (xv (xe_var (pv 4))) (xv (xe_var (pv 6))))) rfl))))))))))))))))
def m_Rule_sets : FnT := fnM 1 ((xSeq (xIf (xB (xFz (xPr pNe (xCons (xFldS "Rule" 0 "own_word") (xCons (xC (.str "seldom")) xNil))))) (xRet (xPr pEq (xCons (xFldS "Rule" 0 "own_word") (xCons (xC (.str "always")) xNil)))) xNx)
    (xSeq (xSet 3 (xPr pDg (xCons (xFz (xVar 1)) (xCons (xC (.str "read")) xNil))))
    (xSeq (xKl [false, true] (xIf (xOr (xB (xFz (xPr pLe (xCons (xFz (xVar 3)) (xCons (xFz (xPr pDg (xCons (xFz (xVar 1)) (xCons (xC (.str "written")) xNil)))) xNil))))) (xB (xFz (xPr pLe (xCons (xFz (xVar 3)) (xCons (xFz (xPr pDg (xCons (xFz (xVar 1)) (xCons (xC (.str "changed")) xNil)))) xNil)))))) (xRet (xUp (xC (.bl true)))) xNx))
    (xRet (xPr pGe (xCons (xFz (xPr pSub (xCons (xFz (xVar 2)) (xCons (xFz (xVar 3)) xNil)))) (xCons (xFldS "Rule" 0 "own_after") xNil))))))))
theorem ok_Rule_sets {P : Program} {w : World} {K : PySem.W.Frag} {mg : Str → Option Value} {base : Heap} {f : Addr} {fd : FuncData} (F : FnQ K "sets" "Rule.sets" s_Rule_sets f fd) (V : Fcts faL K mg)  :
    FnOk P w K mg base CX0 1 f fd ["self", "marks", "at"] (spM K 3 m_Rule_sets) :=
  xdef F sc_Rule_sets rfl fun _ _ _ _ _ _ hr => (xss_cons (xs_if (xt_cmp (op_neD hr.units) ps_ne (xe_fldS (c := "Rule") (V.cl_Rule) V.n_Rule_own_word (pe_fld (pv 0) rfl)) (xe_c pe_str fun _ => rfl) (nomark _)) (xss_one (xs_ret (xe_cmp (op_eqD hr.units) ps_eq (xe_fldS (c := "Rule") (V.cl_Rule) V.n_Rule_own_word (pe_fld (pv 0) rfl)) (xe_c pe_str fun _ => rfl) (nomark _)))) xss_nil)
    (xss_cons (xs_set (ps_set (i := 3) sc_Rule_sets.nd rfl (Or.inl rfl) (xe_dg (pe_dget (hu_of hr) (xv (xe_var (pv 1))) (xe_c pe_str fun _ => rfl) (fun _ _ => rfl)))))
    (xss_cons (xs_kl [false, true] (xs_if (PW.pt (xw_or (xt_cmp op_le ps_le (xv (xe_var (pv 3))) (xv (xe_dg (pe_dget (hu_of hr) (xv (xe_var (pv 1))) (xe_c pe_str fun _ => rfl) (fun _ _ => rfl)))) (nomark _)) (pw_or1 (xt_cmp op_le ps_le (xv (xe_var (pv 3))) (xv (xe_dg (pe_dget (hu_of hr) (xv (xe_var (pv 1))) (xe_c pe_str fun _ => rfl) (fun _ _ => rfl)))) (nomark _))))) (xss_one (xs_ret (xu (xe_c pe_bl fun _ => rfl)))) xss_nil))
    (xss_one (xs_ret (xe_cmp op_ge ps_ge (xv (xe_op op_sub ps_sub (xv (xe_var (pv 2))) (xv (xe_var (pv 3))))) (xe_fldS (c := "Rule") (V.cl_Rule) V.n_Rule_own_after (pe_fld (pv 0) rfl)) (nomark _)))))))
def b1_File_do : En → Option Out := (xKb [false, false, false, false, false, true, true] (xPutP false "File" 0 (some "own_table") (qVar 5) (xFz (xPr pSub (xCons (xFz (xVar 3)) (xCons (xFz (xVar 6)) xNil))))))
def m_File_do : FnT := fnM 4 ((xSeq (xIf (xNot (xB (xFz (xCall 1 m_is_deed (xCons (xFz (xVar 1)) xNil))))) xNever xNx)
    (xSeq (xSet 3 (xCall 1 m_seconds_of (xCons (xFz (xVar 2)) xNil)))
    (xSeq (xKl [false, false, true] (xIf (xBorT (xOr (xB (xFz (xPr pIsN (xCons (xFz (xVar 3)) (xCons (xC .non) xNil))))) (xB (xFz (xPr pLe (xCons (xFz (xVar 3)) (xCons (xFldS "File" 0 "own_last") xNil))))))) xNever xNx))
    (xSeq (xSet 4 (xCall 1 m_backs (xCons (xFz (xVar 1)) xNil)))
    (xSeq (xIf (xBorT (xAnd (xB (xFz (xPr pEq (xCons (xFz (xPr pIxT (xCons (xFz (xVar 1)) (xCons (xC (.int 0)) xNil)))) (xCons (xC (.str "read")) xNil))))) (xB (xFz (xMt "Rule" "sets" 3 m_Rule_sets (xFldS "File" 0 "rule") (xCons (xFldS "File" 0 "own_table") (xCons (xFz (xVar 3)) xNil))))))) (xSet 4 (xDisp ["read"] [(xC (.int 0))])) xNx)
    (xSeq (xFr 4 (xFor (xItI 4) (gTp 2 (gsCons (gNm 5) (gsCons (gNm 6) gsNil))) b1_File_do))
    (xSeq (xKl [false, true] (xIf (xB (xFz (xCall 1 m_makes (xCons (xFz (xVar 1)) xNil)))) (xKl [false, true] (xFS "File" 0 "own_held" (xUp (xC (.bl false))))) xNx))
    (xSeq (xKl [false, false, false, true] (xFS "File" 0 "own_last" (xVar 3)))
    (xRet (xPr pListOfD (xCons (xFz (xVar 4)) xNil))))))))))))
theorem ok_File_do {P : Program} {w : World} {K : PySem.W.Frag} {mg : Str → Option Value} {base : Heap} {f : Addr} {fd : FuncData} (F : FnQ K "do" "File.do" s_File_do f fd) (V : Fcts faL K mg) (c_is_deed : Fn P w K mg base "is_deed" ["value"] CX0 4 (spM K 1 m_is_deed)) (c_seconds_of : Fn P w K mg base "seconds_of" ["value"] CX0 3 (spM K 1 m_seconds_of)) (c_backs : Fn P w K mg base "backs" ["deed"] CX0 5 (spM K 1 m_backs)) (c_Rule_sets : Mt P w K mg base (He.ga K "Rule") "sets" ["self", "marks", "at"] CX0 1 (spM K 3 m_Rule_sets)) (c_makes : Fn P w K mg base "makes" ["value"] CX0 5 (spM K 1 m_makes)) :
    FnOk P w K mg base CX0 6 f fd ["self", "deed", "at"] (spM K 3 m_File_do) :=
  xdef F sc_File_do rfl fun _ _ _ _ _ _ hr => (xss_cons (xs_if (xt_not (xt_val (xv (xe_fn (pe_fn c_is_deed hr pass0 (xa_cons (xv (xe_var (pv 1))) xa_nil)))))) (xss_one xs_never) xss_nil)
    (xss_cons (xs_set (ps_set (i := 3) sc_File_do.nd rfl (Or.inl rfl) (xe_fn (pe_fn c_seconds_of hr pass0 (xa_cons (xv (xe_var (pv 2))) xa_nil)))))
    (xss_cons (xs_kl [false, false, true] (xs_if (xt_bor (PW.pt (xw_or (xt_cmp op_isN ps_isN (xv (xe_var (pv 3))) (xe_c pe_non fun _ => rfl) (nomark _)) (pw_or1 (xt_cmp op_le ps_le (xv (xe_var (pv 3))) (xe_fldS (c := "File") (V.cl_File) V.n_File_own_last (pe_fld (pv 0) rfl)) (nomark _)))))) (xss_one xs_never) xss_nil))
    (xss_cons (xs_set (ps_set (i := 4) sc_File_do.nd rfl (Or.inl rfl) (xe_fn (pe_fn c_backs hr pass0 (xa_cons (xv (xe_var (pv 1))) xa_nil)))))
    (xss_cons (xs_if (xt_bor (PW.pt (xw_and (xt_cmp (op_eqD hr.units) ps_eq (xv (xe_ix ix_tup ps_ixT (xv (xe_var (pv 1))) (xe_c pe_int fun _ => rfl) (fun _ _ => rfl))) (xe_c pe_str fun _ => rfl) (nomark _)) (pw_and1 (xt_val (xv (xe_mt (c := "Rule") (pe_mt (V.cl_Rule) c_Rule_sets hr pass0 (xe_fldS (c := "File") (V.cl_File) V.n_File_rule (pe_fld (pv 0) rfl)) (xa_cons (xe_fldS (c := "File") (V.cl_File) V.n_File_own_table (pe_fld (pv 0) rfl)) (xa_cons (xv (xe_var (pv 3))) xa_nil)))))))))) (xss_one (xs_set (ps_set (i := 4) sc_File_do.nd rfl (Or.inl rfl) (xe_disp (ks := ["read"]) (fs := [(xC (.int 0))]) rfl (pe_disp (pps_cons pe_str (xe_c pe_int fun _ => rfl) pps_nil) (by rfl) (by rfl) (fun z => by cases z) (by decide)))))) xss_nil)
    (xss_cons (xs_fr 4 (xs_forI (ps_for PassesOwn.never rfl (pi_items (pv 4)) (xg_tup rfl (xgs_cons (xg_name (pg_name (i := 5) sc_File_do.nd rfl (Or.inl rfl))) (xgs_cons (xg_name (pg_name (i := 6) sc_File_do.nd rfl (Or.inl rfl))) xgs_nil))) (show PSs _ _ (rdS K _ b1_File_do) from (xss_kb [false, false, false, false, false, true, true] (xss_one (xs_putD (c := "File") (fo := (some "own_table")) ⟨(V.cl_File), V.n_File_own_table⟩ (ps_dput (hu_of hr) (pe_fld (pv 0) rfl) (xq_var (pv 5)) (xv (xe_op op_sub ps_sub (xv (xe_var (pv 3))) (xv (xe_var (pv 6))))) rfl))))))))
    (xss_cons (xs_kl [false, true] (xs_if (xt_val (xv (xe_fn (pe_fn c_makes hr pass0 (xa_cons (xv (xe_var (pv 1))) xa_nil))))) (xss_one (xs_kl [false, true] (xs_fs (c := "File") (V.cl_File) V.n_File_own_held (ps_fld (pv 0) (xu (xe_c pe_bl fun _ => rfl)) rfl)))) xss_nil))
    (xss_cons (xs_kl [false, false, false, true] (xs_fs (c := "File") (V.cl_File) V.n_File_own_last (ps_fld (pv 0) (xe_var (pv 3)) rfl)))
    (xss_one (xs_ret (xe_cb ps_listOfD (pe_callTy (call_listDK rfl) (by rfl) V.b_list (by decide +kernel) (xa_cons (xv (xe_var (pv 4))) xa_nil)))))))))))))
def m_File_marks : FnT := fnM 0 ((xRet (xPr pDictOf (xCons (xFldS "File" 0 "own_table") xNil))))
theorem ok_File_marks {P : Program} {w : World} {K : PySem.W.Frag} {mg : Str → Option Value} {base : Heap} {f : Addr} {fd : FuncData} (F : FnQ K "marks" "File.marks" s_File_marks f fd) (V : Fcts faL K mg)  :
    FnOk P w K mg base CX0 1 f fd ["self"] (spM K 1 m_File_marks) :=
  xdef F sc_File_marks rfl fun _ _ _ _ _ _ hr => (xss_one (xs_ret (xe_cb ps_dictOf (pe_callTy call_dictD (by rfl) V.b_dict (by decide +kernel) (xa_cons (xe_fldS (c := "File") (V.cl_File) V.n_File_own_table (pe_fld (pv 0) rfl)) xa_nil)))))
def m_Moment___init__ : FnT := fnM 0 ((xSeq (xIf (xNot (xB (xFz (xCall 3 m_is_between (xCons (xFz (xVar 1)) (xCons (xFz (xPr pNeg (xCons (xC (.int (1000000000000000000000000000000))) xNil))) (xCons (xC (.int (1000000000000000000000000000000))) xNil))))))) xNever xNx)
    (xFS "Moment" 0 "own_seconds" (xVar 1))))
theorem ok_Moment___init__ {P : Program} {w : World} {K : PySem.W.Frag} {mg : Str → Option Value} {base : Heap} {f : Addr} {fd : FuncData} (F : FnQ K "__init__" "Moment.__init__" s_Moment___init__ f fd) (V : Fcts faL K mg) (c_is_between : Fn P w K mg base "is_between" ["value", "low", "high"] CX0 2 (spM K 3 m_is_between)) :
    FnOk P w K mg base CX0 3 f fd ["self", "seconds"] (spM K 2 m_Moment___init__) :=
  xdef F sc_Moment___init__ rfl fun _ _ _ _ _ _ hr => (xss_cons (xs_if (xt_not (xt_val (xv (xe_fn (pe_fn c_is_between hr pass0 (xa_cons (xv (xe_var (pv 1))) (xa_cons (xv (xe_un un_neg ps_neg (xe_c (pe_gi V.g_FARTHEST.choose_spec) fun _ => rfl))) (xa_cons (xe_c (pe_gi V.g_FARTHEST.choose_spec) fun _ => rfl) xa_nil)))))))) (xss_one xs_never) xss_nil)
    (xss_one (xs_fs (c := "Moment") (V.cl_Moment) V.n_Moment_own_seconds (ps_fld (pv 0) (xe_var (pv 1)) rfl))))
def m_Rule___call__ : FnT := fnM 1 ((xSeq (xIf (xNot (xB (xIsi clsL subC (.o "Marked") (xFz (xVar 1))))) xNever xNx)
    (xSeq (xSet 3 (xCall 1 m_seconds_of (xCons (xFz (xVar 2)) xNil)))
    (xSeq (xKl [false, false, true] (xIf (xB (xFz (xPr pIsN (xCons (xFz (xVar 3)) (xCons (xC .non) xNil))))) xNever xNx))
    (xRet (xMt "Rule" "sets" 3 m_Rule_sets (xFz (xVar 0)) (xCons (xFldS "File" 1 "own_table") (xCons (xFz (xVar 3)) xNil))))))))
theorem ok_Rule___call__ {P : Program} {w : World} {K : PySem.W.Frag} {mg : Str → Option Value} {base : Heap} {f : Addr} {fd : FuncData} (F : FnQ K "__call__" "Rule.__call__" s_Rule___call__ f fd) (V : Fcts faL K mg) (c_seconds_of : Fn P w K mg base "seconds_of" ["value"] CX0 3 (spM K 1 m_seconds_of)) (c_Rule_sets : Mt P w K mg base (He.ga K "Rule") "sets" ["self", "marks", "at"] CX0 1 (spM K 3 m_Rule_sets)) :
    FnOk P w K mg base CX0 4 f fd ["self", "file", "at"] (spM K 3 m_Rule___call__) :=
  xdef F sc_Rule___call__ rfl fun _ _ _ _ _ _ hr => (xss_cons (xs_if (xt_not (xt_val (xe_isi (T := (.o "Marked")) V.cf (pe_callB call_isi (by rfl) V.b_isinstance (by decide +kernel) (pa_cons (xv (xe_var (pv 1))) (pa_cons (pe_gc V.c_Marked) pa_nil)))))) (xss_one xs_never) xss_nil)
    (xss_cons (xs_set (ps_set (i := 3) sc_Rule___call__.nd rfl (Or.inl rfl) (xe_fn (pe_fn c_seconds_of hr pass0 (xa_cons (xv (xe_var (pv 2))) xa_nil)))))
    (xss_cons (xs_kl [false, false, true] (xs_if (xt_cmp op_isN ps_isN (xv (xe_var (pv 3))) (xe_c pe_non fun _ => rfl) (nomark _)) (xss_one xs_never) xss_nil))
    (xss_one (xs_ret (xe_mt (c := "Rule") (pe_mt (V.cl_Rule) c_Rule_sets hr pass0 (xv (xe_var (pv 0))) (xa_cons (xe_fldS (c := "File") (V.cl_File) V.n_File_own_table (pe_fld (pv 1) rfl)) (xa_cons (xv (xe_var (pv 3))) xa_nil)))))))))
def m_Rule___eq__ : FnT := fnM 0 ((xRet (xUp (xAndV (xIsi clsL subC (.o "Rule") (xFz (xVar 1))) (xFz (xPr pEq (xCons (xFz (xPr pTup (xCons (xFldS "Rule" 0 "own_word") (xCons (xFldS "Rule" 0 "own_after") xNil)))) (xCons (xFz (xPr pTup (xCons (xFz (xPrp "Rule" m_Rule_word (xFz (xVar 1)))) (xCons (xFz (xPrp "Rule" m_Rule_after (xFz (xVar 1)))) xNil)))) xNil))))))))
theorem ok_Rule___eq__ {P : Program} {w : World} {K : PySem.W.Frag} {mg : Str → Option Value} {base : Heap} {f : Addr} {fd : FuncData} (F : FnQ K "__eq__" "Rule.__eq__" s_Rule___eq__ f fd) (V : Fcts faL K mg) (c_Rule_after : Pr P w K mg base (He.ga K "Rule") "after" ["self"] CX0 1 (spM K 1 m_Rule_after)) (c_Rule_word : Pr P w K mg base (He.ga K "Rule") "word" ["self"] CX0 1 (spM K 1 m_Rule_word)) :
    FnOk P w K mg base CX0 3 f fd ["self", "other"] (spM K 2 m_Rule___eq__) :=
  xdef F sc_Rule___eq__ rfl fun _ _ _ _ _ _ hr => (xss_one (xs_ret (xu (xe_andV (xe_isi (T := (.o "Rule")) V.cf (pe_callB call_isi (by rfl) V.b_isinstance (by decide +kernel) (pa_cons (xv (xe_var (pv 1))) (pa_cons (pe_gc V.c_Rule) pa_nil)))) (pe_one (xv (xe_cmp (op_eqD hr.units) ps_eq (xv (xe_tup (xa_cons (xe_fldS (c := "Rule") (V.cl_Rule) V.n_Rule_own_word (pe_fld (pv 0) rfl)) (xa_cons (xe_fldS (c := "Rule") (V.cl_Rule) V.n_Rule_own_after (pe_fld (pv 0) rfl)) xa_nil)))) (xv (xe_tup (xa_cons (xv (xe_pr (c := "Rule") (pe_pr (V.cl_Rule) c_Rule_word hr pass0 (xv (xe_var (pv 1)))))) (xa_cons (xv (xe_pr (c := "Rule") (pe_pr (V.cl_Rule) c_Rule_after hr pass0 (xv (xe_var (pv 1)))))) xa_nil)))) (nomark _))))))))
def m__law_equal : FnT := fnM 1 ((xSeq (xKl [false, false, true] (xSet 4 (xCall 2 m__law_rule (xCons (xFz (xCallM 2 0 m__law_pick (xCons (xFz (xPr pLst (xCons (xC (.str "always")) (xCons (xC (.str "never")) (xCons (xC (.str "seldom")) xNil))))) xNil))) (xCons (xFz (xPr pIxL (xCons (xFz (xPr pLst (xCons (xFz (xVar 2)) (xCons (xFz (xPr pAdd (xCons (xFz (xPr pMod (xCons (xFz (xVar 2)) (xCons (xC (.int 2000)) xNil)))) (xCons (xC (.int 1)) xNil)))) xNil)))) (xCons (xFz (xCallM 2 0 m__law_draw (xCons (xC (.int 2)) xNil))) xNil)))) xNil)))))
    (xSeq (xKl [false, false, false, false, true] (xIf (xB (xFz (xPr pNe (xCons (xOfB (xEqO "Rule" m_Rule___eq__ false (xFz (xVar 1)) (xFz (xVar 4)))) (xCons (xFz (xPr pEq (xCons (xFz (xPr pLst (xCons (xFz (xPrp "Rule" m_Rule_word (xFz (xVar 1)))) (xCons (xFz (xPrp "Rule" m_Rule_after (xFz (xVar 1)))) xNil)))) (xCons (xFz (xPr pLst (xCons (xFz (xPrp "Rule" m_Rule_word (xFz (xVar 4)))) (xCons (xFz (xPrp "Rule" m_Rule_after (xFz (xVar 4)))) xNil)))) xNil)))) xNil))))) (xRet (xUp (xC (.bl false)))) xNx))
    (xSeq (xKl [false, true, false, true] (xIf (xEqA clsL ["str"] "Rule" m_Rule___eq__ (xFz (xVar 1)) (xFz (xVar 3))) (xRet (xUp (xC (.bl false)))) xNx))
    (xRet (xUp (xC (.bl true))))))))
theorem ok__law_equal {P : Program} {w : World} {K : PySem.W.Frag} {mg : Str → Option Value} {base : Heap} {f : Addr} {fd : FuncData} (F : FnQ K "_law_equal" "_law_equal" s__law_equal f fd) (V : Fcts faL K mg) (c__law_draw : Fn P w K mg base "_law_draw" ["source", "amount"] CX0 1 (spM K 2 m__law_draw)) (c__law_pick : Fn P w K mg base "_law_pick" ["source", "items"] CX0 2 (spM K 2 m__law_pick)) (c__law_rule : Fn P w K mg base "_law_rule" ["kind", "after"] CX0 4 (spM K 2 m__law_rule)) (c_Rule___eq__ : Mt P w K mg base (He.ga K "Rule") "__eq__" ["self", "other"] CX0 3 (spM K 2 m_Rule___eq__)) (c_Rule_after : Pr P w K mg base (He.ga K "Rule") "after" ["self"] CX0 1 (spM K 1 m_Rule_after)) (c_Rule_word : Pr P w K mg base (He.ga K "Rule") "word" ["self"] CX0 1 (spM K 1 m_Rule_word)) :
    FnOk P w K mg base CX0 5 f fd ["source", "rule", "after", "kind"] (spM K 4 m__law_equal) :=
  xdef F sc__law_equal rfl fun _ _ _ _ _ _ hr => (xss_cons (xs_kl [false, false, true] (xs_set (ps_set (i := 4) sc__law_equal.nd rfl (Or.inl rfl) (xe_fn (pe_fn c__law_rule hr pass0 (xa_cons (xv (xe_fnM (pe_fn c__law_pick hr pass0 (pa_cons (pv 0) (xa_cons (xv (xe_lst (xa_cons (xe_c pe_str fun _ => rfl) (xa_cons (xe_c pe_str fun _ => rfl) (xa_cons (xe_c pe_str fun _ => rfl) xa_nil))))) xa_nil))))) (xa_cons (xv (xe_ix ix_list ps_ixL (xv (xe_lst (xa_cons (xv (xe_var (pv 2))) (xa_cons (xv (xe_op op_add ps_add (xv (xe_op op_mod ps_mod (xv (xe_var (pv 2))) (xe_c pe_int fun _ => rfl))) (xe_c pe_int fun _ => rfl))) xa_nil)))) (xv (xe_fnM (pe_fn c__law_draw hr pass0 (pa_cons (pv 0) (xa_cons (xe_c pe_int fun _ => rfl) xa_nil))))) (fun _ _ => rfl))) xa_nil)))))))
    (xss_cons (xs_kl [false, false, false, false, true] (xs_if (xt_cmp (op_neD hr.units) ps_ne (xe_cmO (c := "Rule") V.cf (by decide +kernel) V.f_Rule (pe_cmpR (op_cmpC (op := .Eq) c_Rule___eq__ hr pass0) (xv (xe_var (pv 1))) (xv (xe_var (pv 4))) (nomark _))) (xv (xe_cmp (op_eqD hr.units) ps_eq (xv (xe_lst (xa_cons (xv (xe_pr (c := "Rule") (pe_pr (V.cl_Rule) c_Rule_word hr pass0 (xv (xe_var (pv 1)))))) (xa_cons (xv (xe_pr (c := "Rule") (pe_pr (V.cl_Rule) c_Rule_after hr pass0 (xv (xe_var (pv 1)))))) xa_nil)))) (xv (xe_lst (xa_cons (xv (xe_pr (c := "Rule") (pe_pr (V.cl_Rule) c_Rule_word hr pass0 (xv (xe_var (pv 4)))))) (xa_cons (xv (xe_pr (c := "Rule") (pe_pr (V.cl_Rule) c_Rule_after hr pass0 (xv (xe_var (pv 4)))))) xa_nil)))) (nomark _))) (nomark _)) (xss_one (xs_ret (xu (xe_c pe_bl fun _ => rfl)))) xss_nil))
    (xss_cons (xs_kl [false, true, false, true] (xs_if (xt_eqA (l := ["str"]) V.cf (fun t h => by cases List.mem_singleton.mp h; exact V.nt_Rule_str) V.no_Rule (pt_cmpR (op_cmpC (op := .Eq) c_Rule___eq__ hr pass0) (xv (xe_var (pv 1))) (xv (xe_var (pv 3))) (nomark _))) (xss_one (xs_ret (xu (xe_c pe_bl fun _ => rfl)))) xss_nil))
    (xss_one (xs_ret (xu (xe_c pe_bl fun _ => rfl)))))))
def fe__law_refused : En → Option (Sl × En) := (xPr pLst xNil)
def l__law_refused : List Hd := (("NoRule", 2, fun er => xSet 1 (xPr pLst (xCons (xC (.str "rule")) (xCons (xRepr (xCons (xErF "NoRule" "value" er) xNil)) (xCons (xErI "NoRule" true er) xNil))))) :: (("NoFile", 2, fun er => xSet 1 (xPr pLst (xCons (xC (.str "file")) (xCons (xRepr (xCons (xErF "NoFile" "value" er) xNil)) (xCons (xErI "NoFile" true er) xNil))))) :: (("NoMoment", 2, fun er => xSet 1 (xPr pLst (xCons (xC (.str "moment")) (xCons (xRepr (xCons (xErF "NoMoment" "value" er) xNil)) (xCons (xErI "NoMoment" true er) xNil))))) :: [])))
def r__law_refused : En → Option Out := (xRetV 1)
theorem ok__law_refused {P : Program} {w : World} {K : PySem.W.Frag} {mg : Str → Option Value} {base : Heap} {f : Addr} {fd : FuncData} (F : FnQ K "_law_refused" "_law_refused" s__law_refused f fd) (V : Fcts faL K mg) (hm : mg "_law_refused" = some (.ref f)) (hb : Binds K fd ["call"] []) (e_NoMoment : ErrL P w K mg "NoMoment" (He.ga K "NoMoment") ["value"]) (e_NoFile : ErrL P w K mg "NoFile" (He.ga K "NoFile") ["value"]) (e_NoRule : ErrL P w K mg "NoRule" (He.ga K "NoRule") ["value"]) :
    Rf P w K mg base "_law_refused" 0 2 fe__law_refused l__law_refused r__law_refused :=
  ⟨f, fd, "call", s__law_refused, ["call", "found", "e"], _, _, _, _, _, _, _, _, hm, F, hb, sc__law_refused, rfl, sc__law_refused.nd, rfl, Or.inl rfl, by decide, by decide, rfl, fun _ _ _ _ _ _ hG hr => ⟨ps_set (i := 1) sc__law_refused.nd rfl (Or.inl rfl) (xe_lst xa_nil), (.cons (c := "NoRule") (i := 2) (ts := fun er => xSet 1 (xPr pLst (xCons (xC (.str "rule")) (xCons (xRepr (xCons (xErF "NoRule" "value" er) xNil)) (xCons (xErI "NoRule" true er) xNil))))) ⟨by rfl, by decide, .inl V.c_NoRule⟩ rfl rfl (fun a oe cls d pn er hz hf => (xu_ss (xu_set (ps_set (i := 1) sc__law_refused.nd rfl (Or.inl rfl) (xu_lst (xu_cons (xu_up (u := ⟨2, a, cls, d, er⟩) (xe_c pe_str fun _ => rfl)) (xu_cons (xu_repr (pe_callB (call_reprR hG hr.units) (by rfl) V.b_repr (by decide +kernel) (xu_cons (xu_fld (u := ⟨2, a, cls, d, er⟩) e_NoRule hz hf (pv 2)) (xu_nil (u := ⟨2, a, cls, d, er⟩))))) (xu_cons (xu_isi (u := ⟨2, a, cls, d, er⟩) (D := .ref (He.ga K "AgeError")) V.kito_NoRule__AgeError__1 (fun w h => h) (pe_callB (call_isX V.exi_NoRule hz hf) (by rfl) V.b_isinstance (by decide +kernel) (pa_cons (pv 2) (pa_cons (pe_gc V.c_AgeError) pa_nil)))) (xu_nil (u := ⟨2, a, cls, d, er⟩)))))))))) (.cons (c := "NoFile") (i := 2) (ts := fun er => xSet 1 (xPr pLst (xCons (xC (.str "file")) (xCons (xRepr (xCons (xErF "NoFile" "value" er) xNil)) (xCons (xErI "NoFile" true er) xNil))))) ⟨by rfl, by decide, .inl V.c_NoFile⟩ rfl rfl (fun a oe cls d pn er hz hf => (xu_ss (xu_set (ps_set (i := 1) sc__law_refused.nd rfl (Or.inl rfl) (xu_lst (xu_cons (xu_up (u := ⟨2, a, cls, d, er⟩) (xe_c pe_str fun _ => rfl)) (xu_cons (xu_repr (pe_callB (call_reprR hG hr.units) (by rfl) V.b_repr (by decide +kernel) (xu_cons (xu_fld (u := ⟨2, a, cls, d, er⟩) e_NoFile hz hf (pv 2)) (xu_nil (u := ⟨2, a, cls, d, er⟩))))) (xu_cons (xu_isi (u := ⟨2, a, cls, d, er⟩) (D := .ref (He.ga K "AgeError")) V.kito_NoFile__AgeError__1 (fun w h => h) (pe_callB (call_isX V.exi_NoFile hz hf) (by rfl) V.b_isinstance (by decide +kernel) (pa_cons (pv 2) (pa_cons (pe_gc V.c_AgeError) pa_nil)))) (xu_nil (u := ⟨2, a, cls, d, er⟩)))))))))) (.cons (c := "NoMoment") (i := 2) (ts := fun er => xSet 1 (xPr pLst (xCons (xC (.str "moment")) (xCons (xRepr (xCons (xErF "NoMoment" "value" er) xNil)) (xCons (xErI "NoMoment" true er) xNil))))) ⟨by rfl, by decide, .inl V.c_NoMoment⟩ rfl rfl (fun a oe cls d pn er hz hf => (xu_ss (xu_set (ps_set (i := 1) sc__law_refused.nd rfl (Or.inl rfl) (xu_lst (xu_cons (xu_up (u := ⟨2, a, cls, d, er⟩) (xe_c pe_str fun _ => rfl)) (xu_cons (xu_repr (pe_callB (call_reprR hG hr.units) (by rfl) V.b_repr (by decide +kernel) (xu_cons (xu_fld (u := ⟨2, a, cls, d, er⟩) e_NoMoment hz hf (pv 2)) (xu_nil (u := ⟨2, a, cls, d, er⟩))))) (xu_cons (xu_isi (u := ⟨2, a, cls, d, er⟩) (D := .ref (He.ga K "AgeError")) V.kito_NoMoment__AgeError__1 (fun w h => h) (pe_callB (call_isX V.exi_NoMoment hz hf) (by rfl) V.b_isinstance (by decide +kernel) (pa_cons (pv 2) (pa_cons (pe_gc V.c_AgeError) pa_nil)))) (xu_nil (u := ⟨2, a, cls, d, er⟩)))))))))) .nil))), (xs_retV (pv 1))⟩⟩
def x_Rule_seldom : FnX := fnX 0 ((xSeq (xIf (xNot (xB (xFz (xCall 3 m_is_between (xCons (xFz (xVar 0)) (xCons (xC (.int 1)) (xCons (xC (.int (2000))) xNil))))))) (xRaise "NoRule" ["value"] (xCons (xFz (xVar 0)) xNil)) xNx)
    (xRet (xUp (xFz (xMk "Rule" 3 m_Rule___init__ (xCons (xC (.str "seldom")) (xCons (xFz (xVar 0)) xNil))))))))
theorem okx_Rule_seldom {P : Program} {w : World} {K : PySem.W.Frag} {mg : Str → Option Value} {base : Heap} {f : Addr} {fd : FuncData} (F : FnQ K "seldom" "Rule.seldom" s_Rule_seldom f fd) (V : Fcts faL K mg) (c_is_between : Fn P w K mg base "is_between" ["value", "low", "high"] CX0 2 (spM K 3 m_is_between)) (e_NoRule : ErrL P w K mg "NoRule" (He.ga K "NoRule") ["value"]) (c_Rule___init__ : Nw P w K mg base "Rule" (He.ga K "Rule") ["self", "word", "after"] CX0 1 (spM K 3 m_Rule___init__)) :
    FnOk P w K mg base (L2.CX P w) 3 f fd ["after"] (spX K 1 x_Rule_seldom) :=
  xdefX F sc_Rule_seldom rfl fun _ _ _ _ _ _ hr tk => (xss_cons (xs_if (xt_not (xt_val (xv (xe_fn (pe_fn c_is_between hr pass0 (xa_cons (xv (xe_var (pv 0))) (xa_cons (xe_c pe_int fun _ => rfl) (xa_cons (xe_c (pe_gi V.g_LATEST_AFTER.choose_spec) fun _ => rfl) xa_nil)))))))) (xss_one (xs_raise (c := "NoRule") (ps_raiseL rfl e_NoRule hr tk (xa_cons (xv (xe_var (pv 0))) xa_nil)))) xss_nil)
    (xss_one (xs_ret (xu (xv (xe_mk (c := "Rule") (pe_nw c_Rule___init__ hr pass0 (xa_cons (xe_c pe_str fun _ => rfl) (xa_cons (xv (xe_var (pv 0))) xa_nil)))))))))
def x_Rule___call__ : FnX := fnX 1 ((xSeq (xIf (xNot (xB (xIsi clsL subC (.o "Marked") (xFz (xVar 1))))) (xRaise "NoFile" ["value"] (xCons (xFz (xVar 1)) xNil)) xNx)
    (xSeq (xSet 3 (xCall 1 m_seconds_of (xCons (xFz (xVar 2)) xNil)))
    (xSeq (xKl [false, false, true] (xIf (xB (xFz (xPr pIsN (xCons (xFz (xVar 3)) (xCons (xC .non) xNil))))) (xRaise "NoMoment" ["value"] (xCons (xFz (xVar 2)) xNil)) xNx))
    (xRet (xMt "Rule" "sets" 3 m_Rule_sets (xFz (xVar 0)) (xCons (xFldS "File" 1 "own_table") (xCons (xFz (xVar 3)) xNil))))))))
theorem okx_Rule___call__ {P : Program} {w : World} {K : PySem.W.Frag} {mg : Str → Option Value} {base : Heap} {f : Addr} {fd : FuncData} (F : FnQ K "__call__" "Rule.__call__" s_Rule___call__ f fd) (V : Fcts faL K mg) (e_NoFile : ErrL P w K mg "NoFile" (He.ga K "NoFile") ["value"]) (c_seconds_of : Fn P w K mg base "seconds_of" ["value"] CX0 3 (spM K 1 m_seconds_of)) (e_NoMoment : ErrL P w K mg "NoMoment" (He.ga K "NoMoment") ["value"]) (c_Rule_sets : Mt P w K mg base (He.ga K "Rule") "sets" ["self", "marks", "at"] CX0 1 (spM K 3 m_Rule_sets)) :
    FnOk P w K mg base (L2.CX P w) 4 f fd ["self", "file", "at"] (spX K 3 x_Rule___call__) :=
  xdefX F sc_Rule___call__ rfl fun _ _ _ _ _ _ hr tk => (xss_cons (xs_if (xt_not (xt_val (xe_isi (T := (.o "Marked")) V.cf (pe_callB call_isi (by rfl) V.b_isinstance (by decide +kernel) (pa_cons (xv (xe_var (pv 1))) (pa_cons (pe_gc V.c_Marked) pa_nil)))))) (xss_one (xs_raise (c := "NoFile") (ps_raiseL rfl e_NoFile hr tk (xa_cons (xv (xe_var (pv 1))) xa_nil)))) xss_nil)
    (xss_cons (xs_set (ps_set (i := 3) sc_Rule___call__.nd rfl (Or.inl rfl) (xe_fn (pe_fn c_seconds_of hr pass0 (xa_cons (xv (xe_var (pv 2))) xa_nil)))))
    (xss_cons (xs_kl [false, false, true] (xs_if (xt_cmp op_isN ps_isN (xv (xe_var (pv 3))) (xe_c pe_non fun _ => rfl) (nomark _)) (xss_one (xs_raise (c := "NoMoment") (ps_raiseL rfl e_NoMoment hr tk (xa_cons (xv (xe_var (pv 2))) xa_nil)))) xss_nil))
    (xss_one (xs_ret (xe_mt (c := "Rule") (pe_mt (V.cl_Rule) c_Rule_sets hr pass0 (xv (xe_var (pv 0))) (xa_cons (xe_fldS (c := "File") (V.cl_File) V.n_File_own_table (pe_fld (pv 1) rfl)) (xa_cons (xv (xe_var (pv 3))) xa_nil)))))))))
def m__law_refused_too : FnT := fnM 0 ((xRet (xRf (exOf exL) 2 fe__law_refused l__law_refused r__law_refused (xMtX "Rule" "__call__" 3 x_Rule___call__ (xFz (xVar 0)) (xCons (xFz (xVar 1)) (xCons (xFz (xVar 1)) xNil))))))
theorem ok__law_refused_too {P : Program} {w : World} {K : PySem.W.Frag} {mg : Str → Option Value} {base : Heap} {lc lt : Addr} {fd : FuncData} (F : FnQ K "_law_refused_too" "_law_refused_too" s__law_refused_too (He.ga K "_law_refused_too") fd) (V : Fcts faL K mg) (lm : Lm K mg base "_law_refused_too" lc lt) (c__law_refused : Rf P w K mg base "_law_refused" 0 2 fe__law_refused l__law_refused r__law_refused) (cx_Rule___call__ : Mt P w K mg base (He.ga K "Rule") "__call__" ["self", "file", "at"] (L2.CX P w) 4 (spX K 3 x_Rule___call__)) :
    FnG P w K mg base CX0 8 (He.ga K "_law_refused_too") fd ["rule", "wrong"] (spM K 2 m__law_refused_too) :=
  xdefGL F sc__law_refused_too rfl lm fun _ _ _ _ _ hG hr => (xss_one (xs_ret (xe_lam (mt := exOf exL) (q := lamQ "_law_refused_too") (kl := 5) c__law_refused V.exT hG hr rfl lm.tb rfl rfl lm.mem lm.uq (LamX.lamS_by (sc := defScope s__law_refused_too) (by decide +kernel)) rfl (fun _ _ _ _ _ => rfl) (fun _ _ _ _ _ _ _ hr => lamPE fun tk => (xX_co (c := "Rule") (m := "__call__") (pe_co cx_Rule___call__ V.fc_Rule hr (passE tk) (xv (xe_var (pv 0))) (xa_cons (xv (xe_var (pv 1))) (xa_cons (xv (xe_var (pv 1))) xa_nil))))) (by decide) (by decide))))
def b1_law : En → Option Out := (xKb [false, true, true, true, true, true, true, true, true, true, true, true, true, true, true, true] (xSeq (xKl [false, true] (xSet 2 (xCall 2 m__law_source (xCons (xFz (xVar 0)) (xCons (xFz (xVar 1)) xNil)))))
    (xSeq (xSet 3 (xCallM 2 2 m__law_pick (xCons (xFz (xPr pLst (xCons (xC (.str "always")) (xCons (xC (.str "never")) (xCons (xC (.str "seldom")) xNil))))) xNil)))
    (xSeq (xSet 4 (xPr pAdd (xCons (xC (.int 1)) (xCons (xFz (xCallM 2 2 m__law_draw (xCons (xFz (xPr pIxL (xCons (xFz (xPr pLst (xCons (xC (.int 9)) (xCons (xC (.int 2000)) xNil)))) (xCons (xFz (xCallM 2 2 m__law_draw (xCons (xC (.int 2)) xNil))) xNil)))) xNil))) xNil))))
    (xSeq (xSet 14 (xCall 2 m__law_rule (xCons (xFz (xVar 3)) (xCons (xFz (xVar 4)) xNil))))
    (xSeq (xIf (xB (xFz (xPr pNeL (xCons (xFz (xPr pLst (xCons (xFz (xPrp "Rule" m_Rule_word (xFz (xVar 14)))) (xCons (xFz (xPrp "Rule" m_Rule_after (xFz (xVar 14)))) xNil)))) (xCons (xFz (xPr pLst (xCons (xFz (xVar 3)) (xCons (xFz (xIfE (xB (xFz (xPr pEq (xCons (xFz (xVar 3)) (xCons (xC (.str "seldom")) xNil))))) (xVar 4) (xUp (xC .non)))) xNil)))) xNil))))) (xRet (xUp (xC (.bl false)))) xNx)
    (xSeq (xSet 5 (xPr pSub (xCons (xFz (xCallM 2 2 m__law_draw (xCons (xC (.int 100)) xNil))) (xCons (xC (.int 50)) xNil))))
    (xSeq (xSet 12 (xMk "File" 4 m_File___init__ (xCons (xFz (xCall 2 m__law_rule (xCons (xC (.str "always")) (xCons (xC (.int 1)) xNil)))) (xCons (xFz (xCallM 2 2 m__law_pick (xCons (xFz (xPr pLst (xCons (xFz (xPr pTup (xCons (xC (.str "make")) xNil))) (xCons (xFz (xPr pTup (xCons (xC (.str "unpack")) (xCons (xC (.int 5)) xNil)))) xNil)))) xNil))) (xCons (xFz (xVar 5)) xNil)))))
    (xSeq (xKl [false, false, false, false, false, true] (xSet 6 (xPr pAdd (xCons (xFz (xPr pAdd (xCons (xFz (xVar 5)) (xCons (xC (.int 1)) xNil)))) (xCons (xFz (xCallM 2 2 m__law_draw (xCons (xC (.int 9)) xNil))) xNil)))))
    (xSeq (xDrop (xMtM "File" "do" 3 12 m_File_do (xCons (xFz (xCallM 2 2 m__law_pick (xCons (xFz (xPr pLst (xCons (xFz (xPr pTup (xCons (xC (.str "read")) xNil))) (xCons (xFz (xPr pTup (xCons (xC (.str "read")) xNil))) (xCons (xFz (xPr pTup (xCons (xC (.str "write")) xNil))) (xCons (xFz (xPr pTup (xCons (xC (.str "rename")) xNil))) (xCons (xFz (xPr pTup (xCons (xC (.str "touch")) xNil))) (xCons (xFz (xPr pTup (xCons (xC (.str "setback")) (xCons (xC (.int 4)) xNil)))) xNil)))))))) xNil))) (xCons (xFz (xVar 6)) xNil))))
    (xSeq (xKl [false, false, false, false, false, false, true] (xSet 7 (xPr pAdd (xCons (xFz (xVar 6)) (xCons (xFz (xPr pIxL (xCons (xFz (xPr pLst (xCons (xFz (xVar 4)) (xCons (xFz (xPr pSub (xCons (xFz (xVar 4)) (xCons (xC (.int 1)) xNil)))) (xCons (xFz (xPr pAdd (xCons (xFz (xVar 4)) (xCons (xC (.int 1)) xNil)))) (xCons (xFz (xCallM 2 2 m__law_draw (xCons (xC (.int 2100)) xNil))) xNil)))))) (xCons (xFz (xCallM 2 2 m__law_draw (xCons (xC (.int 4)) xNil))) xNil)))) xNil)))))
    (xSeq (xFr 12 (xSet 8 (xPr pDictOf (xCons (xFz (xMt "File" "marks" 1 m_File_marks (xFz (xVar 12)) xNil)) xNil))))
    (xSeq (xSet 9 (xUp (xOrV (xFz (xPr pLe (xCons (xFz (xPr pDg (xCons (xFz (xVar 8)) (xCons (xC (.str "read")) xNil)))) (xCons (xFz (xPr pDg (xCons (xFz (xVar 8)) (xCons (xC (.str "written")) xNil)))) xNil)))) (xOrV (xFz (xPr pLe (xCons (xFz (xPr pDg (xCons (xFz (xVar 8)) (xCons (xC (.str "read")) xNil)))) (xCons (xFz (xPr pDg (xCons (xFz (xVar 8)) (xCons (xC (.str "changed")) xNil)))) xNil)))) (xFz (xPr pGe (xCons (xFz (xPr pSub (xCons (xFz (xVar 7)) (xCons (xFz (xPr pDg (xCons (xFz (xVar 8)) (xCons (xC (.str "read")) xNil)))) xNil)))) (xCons (xFz (xVar 4)) xNil))))))))
    (xSeq (xIf (xB (xFz (xPr pNe (xCons (xFz (xVar 3)) (xCons (xC (.str "seldom")) xNil))))) (xSet 9 (xPr pEq (xCons (xFz (xVar 3)) (xCons (xC (.str "always")) xNil)))) xNx)
    (xSeq (xKl [false, false, false, false, false, false, false, true] (xSet 10 (xPr pLst (xCons (xFz (xMt "Rule" "__call__" 3 m_Rule___call__ (xFz (xVar 14)) (xCons (xFz (xVar 12)) (xCons (xFz (xVar 7)) xNil)))) (xCons (xFz (xMt "Rule" "__call__" 3 m_Rule___call__ (xFz (xVar 14)) (xCons (xFz (xVar 12)) (xCons (xFz (xMk "Moment" 2 m_Moment___init__ (xCons (xFz (xVar 7)) xNil))) xNil)))) xNil)))))
    (xSeq (xKl [false, false, false, false, false, false, false, false, false, true, true] (xIf (xOr (xB (xFz (xPr pNeL (xCons (xFz (xVar 10)) (xCons (xFz (xPr pLst (xCons (xFz (xVar 9)) (xCons (xFz (xVar 9)) xNil)))) xNil))))) (xNot (xB (xIsi clsL subC (.b "bool") (xFz (xPr pIxL (xCons (xFz (xVar 10)) (xCons (xC (.int 0)) xNil)))))))) (xRet (xUp (xC (.bl false)))) xNx))
    (xSeq (xKl [false, false, false, false, false, false, false, false, true] (xIf (xB (xFz (xPr pNeDD (xCons (xFz (xMt "File" "marks" 1 m_File_marks (xFz (xVar 12)) xNil)) (xCons (xFz (xVar 8)) xNil))))) (xRet (xUp (xC (.bl false)))) xNx))
    (xSeq (xKl [false, false, false, true, true] (xIf (xNot (xB (xFz (xCallM 4 2 m__law_equal (xCons (xFz (xVar 14)) (xCons (xFz (xVar 4)) (xCons (xFz (xVar 3)) xNil))))))) (xRet (xUp (xC (.bl false)))) xNx))
    (xSeq (xSet 13 (xCallM 2 2 m__law_pick (xCons (xFz (xPr pLst (xCons (xC (.int 0)) (xCons (xFz (xPr pNeg (xCons (xC (.int 1)) xNil))) (xCons (xC (.int 2001)) (xCons (xC .non) (xCons (xC (.bl true)) (xCons (xC (.str "1")) (xCons (xFz (xPr pLst (xCons (xC (.int 1)) xNil))) (xCons (xFz (xPr pTup (xCons (xC (.int 1)) xNil))) (xCons (xFz (xPr pPow (xCons (xC (.int 10)) (xCons (xC (.int 20)) xNil)))) xNil))))))))))) xNil)))
    (xSeq (xKl [false, false, false, false, false, false, false, false, false, false, false, false, false, true] (xIf (xB (xFz (xPr pNeL (xCons (xFz (xRf (exOf exL) 2 fe__law_refused l__law_refused r__law_refused (xCallX 1 x_Rule_seldom (xCons (xFz (xVar 13)) xNil)))) (xCons (xFz (xPr pLst (xCons (xC (.str "rule")) (xCons (xRepr (xCons (xFz (xVar 13)) xNil)) (xCons (xC (.bl true)) xNil))))) xNil))))) (xRet (xUp (xC (.bl false)))) xNx))
    (xSeq (xKl [false, false, true] (xSet 15 (xCallM 2 2 m__law_pick (xCons (xFz (xPr pLst (xCons (xC .non) (xCons (xC (.bl true)) (xCons (xC (.str "1")) (xCons (xFz (xPr pLst (xCons (xC (.int 1)) xNil))) (xCons (xFz (xPr pTup (xCons (xC (.int 1)) xNil))) (xCons (xFz (xPr pAdd (xCons (xFz (xPr pPow (xCons (xC (.int 10)) (xCons (xC (.int 30)) xNil)))) (xCons (xC (.int 1)) xNil)))) (xCons (xFz xDict0) xNil))))))))) xNil))))
    (xSeq (xKl [false, false, false, false, false, false, false, false, false, false, false, false, true, false, true] (xSet 11 (xPr pLst (xCons (xFz (xRf (exOf exL) 2 fe__law_refused l__law_refused r__law_refused (xMtX "Rule" "__call__" 3 x_Rule___call__ (xFz (xVar 14)) (xCons (xFz (xVar 12)) (xCons (xFz (xVar 15)) xNil))))) (xCons (xFz (xCall 2 m__law_refused_too (xCons (xFz (xVar 14)) (xCons (xFz (xVar 15)) xNil)))) xNil)))))
    (xIf (xB (xFz (xPr pNeL (xCons (xFz (xVar 11)) (xCons (xFz (xPr pLst (xCons (xFz (xPr pLst (xCons (xC (.str "moment")) (xCons (xRepr (xCons (xFz (xVar 15)) xNil)) (xCons (xC (.bl true)) xNil))))) (xCons (xFz (xPr pLst (xCons (xC (.str "file")) (xCons (xRepr (xCons (xFz (xVar 15)) xNil)) (xCons (xC (.bl true)) xNil))))) xNil)))) xNil))))) (xRet (xUp (xC (.bl false)))) xNx)))))))))))))))))))))))
def m_law : FnT := fnM 15 ((xSeq (xKl [true] (xFor (xItR1 (xCons (xFz (xPr pMax2 (xCons (xC (.int 1)) (xCons (xFz (xPr pMin2 (xCons (xFz (xPr pLen (xCons (xFz (xVar 0)) xNil))) (xCons (xC (.int 30)) xNil)))) xNil)))) xNil)) (gNm 1) b1_law))
    (xRet (xUp (xC (.bl true))))))
theorem ok_law {P : Program} {w : World} {K : PySem.W.Frag} {mg : Str → Option Value} {base : Heap} {lc lt : Addr} {fd : FuncData} (F : FnQ K "law" "law" s_law (He.ga K "law") fd) (V : Fcts faL K mg) (lm : Lm K mg base "law" lc lt) (c__law_source : Fn P w K mg base "_law_source" ["script", "turn"] CX0 1 (spM K 2 m__law_source)) (c__law_pick : Fn P w K mg base "_law_pick" ["source", "items"] CX0 2 (spM K 2 m__law_pick)) (c__law_draw : Fn P w K mg base "_law_draw" ["source", "amount"] CX0 1 (spM K 2 m__law_draw)) (c__law_rule : Fn P w K mg base "_law_rule" ["kind", "after"] CX0 4 (spM K 2 m__law_rule)) (c_Rule_after : Pr P w K mg base (He.ga K "Rule") "after" ["self"] CX0 1 (spM K 1 m_Rule_after)) (c_Rule_word : Pr P w K mg base (He.ga K "Rule") "word" ["self"] CX0 1 (spM K 1 m_Rule_word)) (c_File___init__ : Nw P w K mg base "File" (He.ga K "File") ["self", "rule", "deed", "at"] CX0 6 (spM K 4 m_File___init__)) (c_File_do : Mt P w K mg base (He.ga K "File") "do" ["self", "deed", "at"] CX0 6 (spM K 3 m_File_do)) (c_File_marks : Mt P w K mg base (He.ga K "File") "marks" ["self"] CX0 1 (spM K 1 m_File_marks)) (c_Moment___init__ : Nw P w K mg base "Moment" (He.ga K "Moment") ["self", "seconds"] CX0 3 (spM K 2 m_Moment___init__)) (c_Rule___call__ : Mt P w K mg base (He.ga K "Rule") "__call__" ["self", "file", "at"] CX0 4 (spM K 3 m_Rule___call__)) (c__law_equal : Fn P w K mg base "_law_equal" ["source", "rule", "after", "kind"] CX0 5 (spM K 4 m__law_equal)) (c__law_refused : Rf P w K mg base "_law_refused" 0 2 fe__law_refused l__law_refused r__law_refused) (cx_Rule_seldom : Sm P w K mg base (He.ga K "Rule") "seldom" ["after"] (L2.CX P w) 3 (spX K 1 x_Rule_seldom)) (c__law_refused_too : FG P w K mg base "_law_refused_too" ["rule", "wrong"] CX0 8 (spM K 2 m__law_refused_too)) (cx_Rule___call__ : Mt P w K mg base (He.ga K "Rule") "__call__" ["self", "file", "at"] (L2.CX P w) 4 (spX K 3 x_Rule___call__)) :
    FnG P w K mg base CX0 9 (He.ga K "law") fd ["script"] (spM K 1 m_law) :=
  xdefGL F sc_law rfl lm fun _ _ _ _ _ hG hr => (xss_cons (xs_kl [true] (xs_for (ps_for PassesOwn.never rfl (xi_r1 (pi_range1 (by rfl) V.b_range (xa_cons (xv (xe_cb ps_max2 (pe_callB (call_max2 rfl) (by rfl) V.b_max (by decide +kernel) (xa_cons (xe_c pe_int fun _ => rfl) (xa_cons (xv (xe_cb ps_min2 (pe_callB (call_min2 rfl) (by rfl) V.b_min (by decide +kernel) (xa_cons (xv (xe_cb ps_len (pe_callB call_len_seq (by rfl) V.b_len (by decide +kernel) (xa_cons (xv (xe_var (pv 0))) xa_nil)))) (xa_cons (xe_c pe_int fun _ => rfl) xa_nil))))) xa_nil))))) xa_nil))) (xg_name (pg_name (i := 1) sc_law.nd rfl (Or.inl rfl))) (show PSs _ _ (rdS K _ b1_law) from (xss_kb [false, true, true, true, true, true, true, true, true, true, true, true, true, true, true, true] (xss_cons (xs_kl [false, true] (xs_set (ps_set (i := 2) sc_law.nd rfl (Or.inl rfl) (xe_fn (pe_fn c__law_source hr pass0 (xa_cons (xv (xe_var (pv 0))) (xa_cons (xv (xe_var (pv 1))) xa_nil)))))))
    (xss_cons (xs_set (ps_set (i := 3) sc_law.nd rfl (Or.inl rfl) (xe_fnM (pe_fn c__law_pick hr pass0 (pa_cons (pv 2) (xa_cons (xv (xe_lst (xa_cons (xe_c pe_str fun _ => rfl) (xa_cons (xe_c pe_str fun _ => rfl) (xa_cons (xe_c pe_str fun _ => rfl) xa_nil))))) xa_nil))))))
    (xss_cons (xs_set (ps_set (i := 4) sc_law.nd rfl (Or.inl rfl) (xe_op op_add ps_add (xe_c pe_int fun _ => rfl) (xv (xe_fnM (pe_fn c__law_draw hr pass0 (pa_cons (pv 2) (xa_cons (xv (xe_ix ix_list ps_ixL (xv (xe_lst (xa_cons (xe_c pe_int fun _ => rfl) (xa_cons (xe_c pe_int fun _ => rfl) xa_nil)))) (xv (xe_fnM (pe_fn c__law_draw hr pass0 (pa_cons (pv 2) (xa_cons (xe_c pe_int fun _ => rfl) xa_nil))))) (fun _ _ => rfl))) xa_nil))))))))
    (xss_cons (xs_set (ps_set (i := 14) sc_law.nd rfl (Or.inr rfl) (xe_fn (pe_fn c__law_rule hr pass0 (xa_cons (xv (xe_var (pv 3))) (xa_cons (xv (xe_var (pv 4))) xa_nil))))))
    (xss_cons (xs_if (xt_cmp (op_neL (room68 hr)) ps_neL (xv (xe_lst (xa_cons (xv (xe_pr (c := "Rule") (pe_pr (V.cl_Rule) c_Rule_word hr pass0 (xv (xe_var (pv 14)))))) (xa_cons (xv (xe_pr (c := "Rule") (pe_pr (V.cl_Rule) c_Rule_after hr pass0 (xv (xe_var (pv 14)))))) xa_nil)))) (xv (xe_lst (xa_cons (xv (xe_var (pv 3))) (xa_cons (xv (xe_if (xt_cmp (op_eqD hr.units) ps_eq (xv (xe_var (pv 3))) (xe_c pe_str fun _ => rfl) (nomark _)) (xe_var (pv 4)) (xu (xe_c pe_non fun _ => rfl)))) xa_nil)))) (nomark _)) (xss_one (xs_ret (xu (xe_c pe_bl fun _ => rfl)))) xss_nil)
    (xss_cons (xs_set (ps_set (i := 5) sc_law.nd rfl (Or.inl rfl) (xe_op op_sub ps_sub (xv (xe_fnM (pe_fn c__law_draw hr pass0 (pa_cons (pv 2) (xa_cons (xe_c pe_int fun _ => rfl) xa_nil))))) (xe_c pe_int fun _ => rfl))))
    (xss_cons (xs_set (ps_set (i := 12) sc_law.nd rfl (Or.inr rfl) (xe_mk (c := "File") (pe_nw c_File___init__ hr pass0 (xa_cons (xv (xe_fn (pe_fn c__law_rule hr pass0 (xa_cons (xe_c pe_str fun _ => rfl) (xa_cons (xe_c pe_int fun _ => rfl) xa_nil))))) (xa_cons (xv (xe_fnM (pe_fn c__law_pick hr pass0 (pa_cons (pv 2) (xa_cons (xv (xe_lst (xa_cons (xv (xe_tup (xa_cons (xe_c pe_str fun _ => rfl) xa_nil))) (xa_cons (xv (xe_tup (xa_cons (xe_c pe_str fun _ => rfl) (xa_cons (xe_c pe_int fun _ => rfl) xa_nil)))) xa_nil)))) xa_nil))))) (xa_cons (xv (xe_var (pv 5))) xa_nil)))))))
    (xss_cons (xs_kl [false, false, false, false, false, true] (xs_set (ps_set (i := 6) sc_law.nd rfl (Or.inl rfl) (xe_op op_add ps_add (xv (xe_op op_add ps_add (xv (xe_var (pv 5))) (xe_c pe_int fun _ => rfl))) (xv (xe_fnM (pe_fn c__law_draw hr pass0 (pa_cons (pv 2) (xa_cons (xe_c pe_int fun _ => rfl) xa_nil)))))))))
    (xss_cons (xs_drop (ps_expr (xe_mtM (c := "File") (pe_mt (V.cl_File) c_File_do hr pass0 (pv 12) (xa_cons (xv (xe_fnM (pe_fn c__law_pick hr pass0 (pa_cons (pv 2) (xa_cons (xv (xe_lst (xa_cons (xv (xe_tup (xa_cons (xe_c pe_str fun _ => rfl) xa_nil))) (xa_cons (xv (xe_tup (xa_cons (xe_c pe_str fun _ => rfl) xa_nil))) (xa_cons (xv (xe_tup (xa_cons (xe_c pe_str fun _ => rfl) xa_nil))) (xa_cons (xv (xe_tup (xa_cons (xe_c pe_str fun _ => rfl) xa_nil))) (xa_cons (xv (xe_tup (xa_cons (xe_c pe_str fun _ => rfl) xa_nil))) (xa_cons (xv (xe_tup (xa_cons (xe_c pe_str fun _ => rfl) (xa_cons (xe_c pe_int fun _ => rfl) xa_nil)))) xa_nil)))))))) xa_nil))))) (xa_cons (xv (xe_var (pv 6))) xa_nil))))))
    (xss_cons (xs_kl [false, false, false, false, false, false, true] (xs_set (ps_set (i := 7) sc_law.nd rfl (Or.inl rfl) (xe_op op_add ps_add (xv (xe_var (pv 6))) (xv (xe_ix ix_list ps_ixL (xv (xe_lst (xa_cons (xv (xe_var (pv 4))) (xa_cons (xv (xe_op op_sub ps_sub (xv (xe_var (pv 4))) (xe_c pe_int fun _ => rfl))) (xa_cons (xv (xe_op op_add ps_add (xv (xe_var (pv 4))) (xe_c pe_int fun _ => rfl))) (xa_cons (xv (xe_fnM (pe_fn c__law_draw hr pass0 (pa_cons (pv 2) (xa_cons (xe_c pe_int fun _ => rfl) xa_nil))))) xa_nil)))))) (xv (xe_fnM (pe_fn c__law_draw hr pass0 (pa_cons (pv 2) (xa_cons (xe_c pe_int fun _ => rfl) xa_nil))))) (fun _ _ => rfl)))))))
    (xss_cons (xs_fr 12 (xs_set (ps_set (i := 8) sc_law.nd rfl (Or.inl rfl) (xe_cb ps_dictOf (pe_callTy call_dictD (by rfl) V.b_dict (by decide +kernel) (xa_cons (xv (xe_mt0 (c := "File") (pe_mt0 (V.cl_File) c_File_marks hr pass0 (xv (xe_var (pv 12)))))) xa_nil))))))
    (xss_cons (xs_set (ps_set (i := 9) sc_law.nd rfl (Or.inl rfl) (xu (xe_orV (xv (xe_cmp op_le ps_le (xv (xe_dg (pe_dget (hu_of hr) (xv (xe_var (pv 8))) (xe_c pe_str fun _ => rfl) (fun _ _ => rfl)))) (xv (xe_dg (pe_dget (hu_of hr) (xv (xe_var (pv 8))) (xe_c pe_str fun _ => rfl) (fun _ _ => rfl)))) (nomark _))) (xe_orV (xv (xe_cmp op_le ps_le (xv (xe_dg (pe_dget (hu_of hr) (xv (xe_var (pv 8))) (xe_c pe_str fun _ => rfl) (fun _ _ => rfl)))) (xv (xe_dg (pe_dget (hu_of hr) (xv (xe_var (pv 8))) (xe_c pe_str fun _ => rfl) (fun _ _ => rfl)))) (nomark _))) (pe_one (xv (xe_cmp op_ge ps_ge (xv (xe_op op_sub ps_sub (xv (xe_var (pv 7))) (xv (xe_dg (pe_dget (hu_of hr) (xv (xe_var (pv 8))) (xe_c pe_str fun _ => rfl) (fun _ _ => rfl)))))) (xv (xe_var (pv 4))) (nomark _)))))))))
    (xss_cons (xs_if (xt_cmp (op_neD hr.units) ps_ne (xv (xe_var (pv 3))) (xe_c pe_str fun _ => rfl) (nomark _)) (xss_one (xs_set (ps_set (i := 9) sc_law.nd rfl (Or.inl rfl) (xe_cmp (op_eqD hr.units) ps_eq (xv (xe_var (pv 3))) (xe_c pe_str fun _ => rfl) (nomark _))))) xss_nil)
    (xss_cons (xs_kl [false, false, false, false, false, false, false, true] (xs_set (ps_set (i := 10) sc_law.nd rfl (Or.inl rfl) (xe_lst (xa_cons (xv (xe_co (c := "Rule") (m := "__call__") (pe_co c_Rule___call__ V.fc_Rule hr pass0 (xv (xe_var (pv 14))) (xa_cons (xv (xe_var (pv 12))) (xa_cons (xv (xe_var (pv 7))) xa_nil))))) (xa_cons (xv (xe_co (c := "Rule") (m := "__call__") (pe_co c_Rule___call__ V.fc_Rule hr pass0 (xv (xe_var (pv 14))) (xa_cons (xv (xe_var (pv 12))) (xa_cons (xv (xe_mk (c := "Moment") (pe_nw c_Moment___init__ hr pass0 (xa_cons (xv (xe_var (pv 7))) xa_nil)))) xa_nil))))) xa_nil))))))
    (xss_cons (xs_kl [false, false, false, false, false, false, false, false, false, true, true] (xs_if (PW.pt (xw_or (xt_cmp (op_neL (room68 hr)) ps_neL (xv (xe_var (pv 10))) (xv (xe_lst (xa_cons (xv (xe_var (pv 9))) (xa_cons (xv (xe_var (pv 9))) xa_nil)))) (nomark _)) (pw_or1 (xt_not (xt_val (xe_isi (T := (.b "bool")) V.cf (pe_callB call_isi (by rfl) V.b_isinstance (by decide +kernel) (pa_cons (xv (xe_ix ix_list ps_ixL (xv (xe_var (pv 10))) (xe_c pe_int fun _ => rfl) (fun _ _ => rfl))) (pa_cons (pe_ty "bool" (by rfl) V.b_bool (by decide +kernel)) pa_nil))))))))) (xss_one (xs_ret (xu (xe_c pe_bl fun _ => rfl)))) xss_nil))
    (xss_cons (xs_kl [false, false, false, false, false, false, false, false, true] (xs_if (xt_cmp (op_neDD (room65 hr)) ps_neDD (xv (xe_mt0 (c := "File") (pe_mt0 (V.cl_File) c_File_marks hr pass0 (xv (xe_var (pv 12)))))) (xv (xe_var (pv 8))) (nomark _)) (xss_one (xs_ret (xu (xe_c pe_bl fun _ => rfl)))) xss_nil))
    (xss_cons (xs_kl [false, false, false, true, true] (xs_if (xt_not (xt_val (xv (xe_fnM (pe_fn c__law_equal hr pass0 (pa_cons (pv 2) (xa_cons (xv (xe_var (pv 14))) (xa_cons (xv (xe_var (pv 4))) (xa_cons (xv (xe_var (pv 3))) xa_nil))))))))) (xss_one (xs_ret (xu (xe_c pe_bl fun _ => rfl)))) xss_nil))
    (xss_cons (xs_set (ps_set (i := 13) sc_law.nd rfl (Or.inr rfl) (xe_fnM (pe_fn c__law_pick hr pass0 (pa_cons (pv 2) (xa_cons (xv (xe_lst (xa_cons (xe_c pe_int fun _ => rfl) (xa_cons (xv (xe_un un_neg ps_neg (xe_c pe_int fun _ => rfl))) (xa_cons (xe_c pe_int fun _ => rfl) (xa_cons (xe_c pe_non fun _ => rfl) (xa_cons (xe_c pe_bl fun _ => rfl) (xa_cons (xe_c pe_str fun _ => rfl) (xa_cons (xv (xe_lst (xa_cons (xe_c pe_int fun _ => rfl) xa_nil))) (xa_cons (xv (xe_tup (xa_cons (xe_c pe_int fun _ => rfl) xa_nil))) (xa_cons (xv (xe_op op_pow ps_pow (xe_c pe_int fun _ => rfl) (xe_c pe_int fun _ => rfl))) xa_nil))))))))))) xa_nil))))))
    (xss_cons (xs_kl [false, false, false, false, false, false, false, false, false, false, false, false, false, true] (xs_if (xt_cmp (op_neL (room68 hr)) ps_neL (xv (xe_lam (mt := exOf exL) (q := lamQ "law") (kl := 3) c__law_refused V.exT hG hr rfl lm.tb rfl rfl lm.mem lm.uq (LamX.lamS_by (sc := defScope s_law) (by decide +kernel)) rfl (fun _ _ _ _ _ => rfl) (fun _ _ _ _ _ _ _ hr => lamPE fun tk => (xX_sm (c := "Rule") (pe_sm cx_Rule_seldom hr (passE tk) (pe_gc V.c_Rule) (xa_cons (xv (xe_var (pv 13))) xa_nil)))) (by decide) (by decide))) (xv (xe_lst (xa_cons (xe_c pe_str fun _ => rfl) (xa_cons (xe_repr (pe_callB (call_reprR hG hr.units) (by rfl) V.b_repr (by decide +kernel) (xa_cons (xv (xe_var (pv 13))) xa_nil))) (xa_cons (xe_c pe_bl fun _ => rfl) xa_nil))))) (nomark _)) (xss_one (xs_ret (xu (xe_c pe_bl fun _ => rfl)))) xss_nil))
    (xss_cons (xs_kl [false, false, true] (xs_set (ps_set (i := 15) sc_law.nd rfl (Or.inr rfl) (xe_fnM (pe_fn c__law_pick hr pass0 (pa_cons (pv 2) (xa_cons (xv (xe_lst (xa_cons (xe_c pe_non fun _ => rfl) (xa_cons (xe_c pe_bl fun _ => rfl) (xa_cons (xe_c pe_str fun _ => rfl) (xa_cons (xv (xe_lst (xa_cons (xe_c pe_int fun _ => rfl) xa_nil))) (xa_cons (xv (xe_tup (xa_cons (xe_c pe_int fun _ => rfl) xa_nil))) (xa_cons (xv (xe_op op_add ps_add (xv (xe_op op_pow ps_pow (xe_c pe_int fun _ => rfl) (xe_c pe_int fun _ => rfl))) (xe_c pe_int fun _ => rfl))) (xa_cons (xv (xe_dict0 pe_dnewK)) xa_nil))))))))) xa_nil)))))))
    (xss_cons (xs_kl [false, false, false, false, false, false, false, false, false, false, false, false, true, false, true] (xs_set (ps_set (i := 11) sc_law.nd rfl (Or.inl rfl) (xe_lst (xa_cons (xv (xe_lam (mt := exOf exL) (q := lamQ "law") (kl := 5) c__law_refused V.exT hG hr rfl lm.tb rfl rfl lm.mem lm.uq (LamX.lamS_by (sc := defScope s_law) (by decide +kernel)) rfl (fun _ _ _ _ _ => rfl) (fun _ _ _ _ _ _ _ hr => lamPE fun tk => (xX_co (c := "Rule") (m := "__call__") (pe_co cx_Rule___call__ V.fc_Rule hr (passE tk) (xv (xe_var (pv 14))) (xa_cons (xv (xe_var (pv 12))) (xa_cons (xv (xe_var (pv 15))) xa_nil))))) (by decide) (by decide))) (xa_cons (xv (xe_fn (pe_fg c__law_refused_too hG hr pass0 (xa_cons (xv (xe_var (pv 14))) (xa_cons (xv (xe_var (pv 15))) xa_nil))))) xa_nil))))))
    (xss_one (xs_if (xt_cmp (op_neL (room68 hr)) ps_neL (xv (xe_var (pv 11))) (xv (xe_lst (xa_cons (xv (xe_lst (xa_cons (xe_c pe_str fun _ => rfl) (xa_cons (xe_repr (pe_callB (call_reprR hG hr.units) (by rfl) V.b_repr (by decide +kernel) (xa_cons (xv (xe_var (pv 15))) xa_nil))) (xa_cons (xe_c pe_bl fun _ => rfl) xa_nil))))) (xa_cons (xv (xe_lst (xa_cons (xe_c pe_str fun _ => rfl) (xa_cons (xe_repr (pe_callB (call_reprR hG hr.units) (by rfl) V.b_repr (by decide +kernel) (xa_cons (xv (xe_var (pv 15))) xa_nil))) (xa_cons (xe_c pe_bl fun _ => rfl) xa_nil))))) xa_nil)))) (nomark _)) (xss_one (xs_ret (xu (xe_c pe_bl fun _ => rfl)))) xss_nil))))))))))))))))))))))))))))
    (xss_one (xs_ret (xu (xe_c pe_bl fun _ => rfl)))))
end Ag
namespace Ag
open PySem
local macro_rules | `(tactic| push_cast [$ls,*]) => `(tactic| simp -implicitDefEqProofs only [xFz_e, xUp_e, xVar_f, xC_e, xNil_e, xCons_e, xPr_e, xB_e, xAnd_e, xOr_e, xNot_e, xOfB_e, xIfE_e, xYes_e, xChain_f, chB_b, xSet_e, xDrop_e, xRet_e, xRetN_e, xRetV_e, xNx_e, xBk_e, xCt_e, xNever_e, xIf_e, xSeq_e, gNm_e, gTp_e, gsNil_e, gsCons_e, xAsg_e, xPar_e, xFor_e, xItL_e, xItT_e, xItR1_e, xItR2_e, xItE_e, xItEt_e, gPutD_e, fnM_e, xCall_e, xMt_e, xPrp_e, xFld_e, xBor_e, xBorV_e, xBorT_e, xCallM_e, xMtM_e, xMk_e, qVar_e, qC_e, xIxP_e, xPutP_e, xInP_e, xApp_e, xExt_e, xFldS_e, xFS_e, xLc_e, xSl_e, xStar_e, xIsi_e, xIsi2_e, xO2_e, xLenO_e, xEqO_e, xDict0_e, xAndV_e, xOrV_e, bnd_some, bnd_none, xeNo_e, mkO_e, xAllL_n, xAllL_c, xMtT_e, xFnT2_e, xDict0T_e, xDisp_e, xGet2_e, xMkR_e, xMkS_e, xMkK_e, xDUp_e, xMv_e, xItK_e, xItI_e, xKl_e, xKb_e, xFr_e, killO_nx, killO_rt, killO_bk, killO_ct, killB_nx, killB_rt, killB_bk, killB_ct, klM_n, klM_t, klM_f, kill_pw, kill_ow, kill_va, kill_no, frE_z, frE_s, frz_pw, frz_ow, frz_va, frz_no, Option.bind_some, Option.bind_none, List.getElem?_cons_zero, List.getElem?_cons_succ, List.getElem?_nil, List.set_cons_zero, List.set_cons_succ, List.map_cons, List.map_nil, List.length_cons, List.length_nil, List.cons_append, List.nil_append, List.replicate_succ, List.replicate_zero, viewE, view_va, view_ow, view_no, view_pw, fz_va, fz_ow, fz_no, fz_pw, own_va, own_ow, own_no, own_pw, ofz_1, ofz_2, o1_l, o1_d, o1_t, fvz_v, fvz_o, putS_e, putR, np_no, np_va, np_ow, np_pw, np_view, freeS_e, Option.map_some, Option.map_none, Option.getD_some, Option.getD_none, pEq_i, pNe_i, pInT_e, pNinT_e, pIsN_e, pNotN_e, pIsB_e, pNotB_e, fl_n, fl_i, fl_s, fl_b, isN_n, isN_i, isN_t, isN_s, isN_b, isN_l, ownAt, reAt, pinned, leafAt, setLeaf, getO, putO, isLst, List.any_cons, List.any_nil, Bool.or_true, Bool.true_or, Bool.or_false, Bool.false_or, Bool.not_true, Bool.not_false, Bool.and_true, Bool.true_and, Bool.and_false, Bool.false_and, D.flat, D.flatL, D.leaf, Sl.leaf, O1.leaf, O2.leaf, Fv.leaf, wipeE, List.all_cons, List.all_nil, if_true, if_false, ite_true, ite_false, reduceIte, Bool.false_eq_true, decide_true, decide_false, reduceCtorEq, and_self, true_and, and_true, and_false, false_and, ixN_lit, ixN_nat, atI_nat, pLst_e, pTup_e, Nat.reduceAdd, Nat.reduceLT, Nat.reduceLeDiff, Nat.lt_add_left_iff_pos, Nat.zero_lt_succ, pPow_e, Int.reducePow, Int.reduceToNat, Int.reduceLT, not_true_eq_false, not_false_eq_true, pAdd_e, pSub_e, pLt_e, pLe_e, pGt_e, pGe_e, pNeg_e, pMul_e, pDiv_e, pMod_e, pAbs_e, pInt_e, pMax2_e, pMin2_e, pLenL_e, pLenS_e, pLenT_e, pIxL_e, pIxS_e, pIxT_e, atI_lit, ge_iff_le, gt_iff_lt, $ls,*])
local macro_rules | `(tactic| dsimp! [$ls,*]) => `(tactic| (push_cast [$ls,*]; repeat (with_reducible refine res_step ?_; push_cast [$ls,*])))
local macro_rules | `(tactic| simp_all! [$ls,*]) => `(tactic| dsimp! [isD_non_int, isD_non_bool, isD_non_str, isD_non_list, isD_non_tuple, isD_non_dict, isD_non_o, isD_bl_int, isD_bl_bool, isD_bl_str, isD_bl_list, isD_bl_tuple, isD_bl_dict, isD_bl_o, isD_int_int, isD_int_bool, isD_int_str, isD_int_list, isD_int_tuple, isD_int_dict, isD_int_o, isD_str_int, isD_str_bool, isD_str_str, isD_str_list, isD_str_tuple, isD_str_dict, isD_str_o, isD_scr_int, isD_scr_bool, isD_scr_str, isD_scr_list, isD_scr_tuple, isD_scr_dict, isD_scr_o, isD_lst_int, isD_lst_bool, isD_lst_str, isD_lst_list, isD_lst_tuple, isD_lst_dict, isD_lst_o, isD_tup_int, isD_tup_bool, isD_tup_str, isD_tup_list, isD_tup_tuple, isD_tup_dict, isD_tup_o, isD_dct_int, isD_dct_bool, isD_dct_str, isD_dct_list, isD_dct_tuple, isD_dct_dict, isD_dct_o, isD_dcT_int, isD_dcT_bool, isD_dcT_str, isD_dcT_list, isD_dcT_tuple, isD_dcT_dict, isD_dcT_o, isD_obj_o, $ls,*])
local macro_rules | `(tactic| walk_at "rb") => `(tactic| repeat (with_reducible refine res_bind ?_))
theorem log2_lt {n k : Nat} (h : n < 2 ^ k) (hk : 0 < k) : n.log2 < k := by
  by_cases h0 : n = 0
  · subst h0; simpa using hk
  · exact (Nat.log2_lt h0).mpr h
theorem log2_b {x : Int} {k : Nat} (h0 : 0 ≤ x) (h : x < 2 ^ k) (hk : 0 < k) : x.natAbs.log2 < k := log2_lt (by
  have : (x.natAbs : Int) < ((2 ^ k : Nat) : Int) := by rw [Int.natAbs_of_nonneg h0]; simpa using h
  exact_mod_cast this) hk
theorem lg_mod (x : Int) : (x % 2147483647).natAbs.log2 < 32 := log2_b (Int.emod_nonneg _ (by decide)) (by have := Int.emod_lt_of_pos x (show (0:Int) < 2147483647 by decide); omega) (by decide)
theorem lg_mod2 (x : Int) : (x % 2147483629).natAbs.log2 < 32 := log2_b (Int.emod_nonneg _ (by decide)) (by have := Int.emod_lt_of_pos x (show (0:Int) < 2147483629 by decide); omega) (by decide)
theorem lg_mod3 (x : Int) : (x % 2147483629 / 64).natAbs.log2 < 32 := log2_b (by have := Int.emod_nonneg x (show (2147483629 : Int) ≠ 0 by decide); omega) (by have := Int.emod_lt_of_pos x (show (0:Int) < 2147483629 by decide); omega) (by decide)
theorem lgm2 (x y : Int) : ((x % 2147483647).natAbs.log2 + (y % 2147483647).natAbs.log2 < 1000000) = True := by
  have h1 := lg_mod x
  have h2 := lg_mod y
  exact eq_true (by omega)
theorem lgm3 (x : Int) : ((x % 2147483629).natAbs.log2 + (Int.natAbs 16807).log2 < 1000000) = True := by
  have h1 := lg_mod2 x
  have h2 : (Int.natAbs 16807).log2 < 20 := by decide
  exact eq_true (by omega)
theorem lgm4 (x : Int) : ((x % 2147483629 / 64).natAbs.log2 + (Int.natAbs 33554393).log2 < 1000000) = True := by
  have h1 := lg_mod3 x
  have h2 : (Int.natAbs 33554393).log2 < 40 := by decide
  exact eq_true (by omega)
theorem lgm5 (x : Int) : ((x % 2147483647).natAbs.log2 + (Int.natAbs 39373).log2 < 1000000) = True := by
  have h1 := lg_mod x
  have h2 : (Int.natAbs 39373).log2 < 40 := by decide
  exact eq_true (by omega)
structure SrcI (a b : Int) : Prop where
  a0 : 0 ≤ a
  b0 : 0 ≤ b
  b1 : b < 2147483647
def src (a b : Int) : O2 := .o1 (.lst [.int a, .int b])
theorem draw_spec (a b m : Int) (hs : SrcI a b) (hm : 0 < m) (hm2 : m < 2 ^ 8000) : ∃ r a' b', m__law_draw [.pw (src a b), .va (.int m)] = some (.va (.int r), [.pw (src a' b'), .va (.int m)]) ∧ SrcI a' b' ∧ 0 ≤ r ∧ r < m := by
  have hl : m.natAbs.log2 < 9000 := by have := log2_b (Int.le_of_lt hm) hm2 (by decide); omega
  obtain ⟨ha, hb, hb2⟩ := hs
  unfold m__law_draw src
  by_cases h : 0 < a
  · push_cast [h, hm, hl]
    exact ⟨_, _, _, rfl, ⟨Int.ediv_nonneg ha (Int.le_of_lt hm), hb, hb2⟩, Int.emod_nonneg _ (by omega), Int.emod_lt_of_pos _ hm⟩
  · have f1 : b.natAbs.log2 + (Int.natAbs 48271).log2 < 1000000 := by
      have := log2_b (k := 32) hb (by omega) (by decide)
      have : (Int.natAbs 48271).log2 < 40 := by decide
      omega
    have f2 : (Int.natAbs 64).log2 < 9000 := by decide
    have f3 : Int.natAbs 10 < 2 ^ 64 := by decide
    have m1 : ∀ x : Int, 0 ≤ x % 2147483647 := fun x => Int.emod_nonneg x (by decide)
    have m2 : ∀ x : Int, x % 2147483647 < 2147483647 := fun x => Int.emod_lt_of_pos x (by decide)
    by_cases h2 : 10000000 < m
    · push_cast [h, hm, hl, f1, f2, f3, lgm2, lgm4, lgm5, h2, Int.reduceLE]
      exact ⟨_, _, _, rfl, ⟨ha, m1 _, m2 _⟩, Int.emod_nonneg _ (by omega), Int.emod_lt_of_pos _ hm⟩
    · push_cast [h, hm, hl, f1, f2, f3, lgm2, lgm4, lgm5, h2, Int.reduceLE]
      exact ⟨_, _, _, rfl, ⟨ha, m1 _, m2 _⟩, Int.emod_nonneg _ (by omega), Int.emod_lt_of_pos _ hm⟩
end Ag
namespace Ag
structure Ar where
  s : Nat
  g : Nat
  l : Int
  m : Option Int
  w : PySem.Str
  deriving DecidableEq
end Ag
namespace Ag
open PySem L2
local macro_rules | `(tactic| push_cast [$ls,*]) => `(tactic| simp -implicitDefEqProofs only [xFz_e, xUp_e, xVar_f, xC_e, xNil_e, xCons_e, xPr_e, xB_e, xAnd_e, xOr_e, xNot_e, xOfB_e, xIfE_e, xYes_e, xChain_f, chB_b, xSet_e, xDrop_e, xRet_e, xRetN_e, xRetV_e, xNx_e, xBk_e, xCt_e, xNever_e, xIf_e, xSeq_e, gNm_e, gTp_e, gsNil_e, gsCons_e, xAsg_e, xPar_e, xFor_e, xItL_e, xItT_e, xItR1_e, xItR2_e, xItE_e, xItEt_e, gPutD_e, fnM_e, xCall_e, xMt_e, xPrp_e, xFld_e, xBor_e, xBorV_e, xBorT_e, xCallM_e, xMtM_e, xMk_e, qVar_e, qC_e, xIxP_e, xPutP_e, xInP_e, xApp_e, xExt_e, xFldS_e, xFS_e, xLc_e, xSl_e, xStar_e, xIsi_e, xIsi2_e, xO2_e, xLenO_e, xEqO_e, xDict0_e, xAndV_e, xOrV_e, bnd_some, bnd_none, xeNo_e, mkO_e, xAllL_n, xAllL_c, xMtT_e, xFnT2_e, xDict0T_e, xDisp_e, xGet2_e, xMkR_e, xMkS_e, xMkK_e, xDUp_e, xMv_e, xItK_e, xItI_e, xKl_e, xKb_e, xFr_e, killO_nx, killO_rt, killO_bk, killO_ct, killB_nx, killB_rt, killB_bk, killB_ct, klM_n, klM_t, klM_f, kill_pw, kill_ow, kill_va, kill_no, frE_z, frE_s, frz_pw, frz_ow, frz_va, frz_no, Option.bind_some, Option.bind_none, List.getElem?_cons_zero, List.getElem?_cons_succ, List.getElem?_nil, List.set_cons_zero, List.set_cons_succ, List.map_cons, List.map_nil, List.length_cons, List.length_nil, List.cons_append, List.nil_append, List.replicate_succ, List.replicate_zero, viewE, view_va, view_ow, view_no, view_pw, fz_va, fz_ow, fz_no, fz_pw, own_va, own_ow, own_no, own_pw, ofz_1, ofz_2, o1_l, o1_d, o1_t, fvz_v, fvz_o, putS_e, putR, np_no, np_va, np_ow, np_pw, np_view, freeS_e, Option.map_some, Option.map_none, Option.getD_some, Option.getD_none, pEq_i, pNe_i, pInT_e, pNinT_e, pIsN_e, pNotN_e, pIsB_e, pNotB_e, fl_n, fl_i, fl_s, fl_b, isN_n, isN_i, isN_t, isN_s, isN_b, isN_l, ownAt, reAt, pinned, leafAt, setLeaf, getO, putO, isLst, List.any_cons, List.any_nil, Bool.or_true, Bool.true_or, Bool.or_false, Bool.false_or, Bool.not_true, Bool.not_false, Bool.and_true, Bool.true_and, Bool.and_false, Bool.false_and, D.flat, D.flatL, D.leaf, Sl.leaf, O1.leaf, O2.leaf, Fv.leaf, wipeE, List.all_cons, List.all_nil, if_true, if_false, ite_true, ite_false, reduceIte, Bool.false_eq_true, decide_true, decide_false, reduceCtorEq, and_self, true_and, and_true, and_false, false_and, ixN_lit, ixN_nat, atI_nat, pLst_e, pTup_e, Nat.reduceAdd, Nat.reduceLT, Nat.reduceLeDiff, Nat.lt_add_left_iff_pos, Nat.zero_lt_succ, pPow_e, Int.reducePow, Int.reduceToNat, Int.reduceLT, not_true_eq_false, not_false_eq_true, pAdd_e, pSub_e, pLt_e, pLe_e, pGt_e, pGe_e, pNeg_e, pMul_e, pDiv_e, pMod_e, pAbs_e, pInt_e, pMax2_e, pMin2_e, pLenL_e, pLenS_e, pLenT_e, pIxL_e, pIxS_e, pIxT_e, atI_lit, ge_iff_le, gt_iff_lt, $ls,*])
local macro_rules | `(tactic| dsimp! [$ls,*]) => `(tactic| (push_cast [$ls,*]; repeat (with_reducible refine res_step ?_; push_cast [$ls,*])))
local macro_rules | `(tactic| simp_all! [$ls,*]) => `(tactic| dsimp! [isD_non_int, isD_non_bool, isD_non_str, isD_non_list, isD_non_tuple, isD_non_dict, isD_non_o, isD_bl_int, isD_bl_bool, isD_bl_str, isD_bl_list, isD_bl_tuple, isD_bl_dict, isD_bl_o, isD_int_int, isD_int_bool, isD_int_str, isD_int_list, isD_int_tuple, isD_int_dict, isD_int_o, isD_str_int, isD_str_bool, isD_str_str, isD_str_list, isD_str_tuple, isD_str_dict, isD_str_o, isD_scr_int, isD_scr_bool, isD_scr_str, isD_scr_list, isD_scr_tuple, isD_scr_dict, isD_scr_o, isD_lst_int, isD_lst_bool, isD_lst_str, isD_lst_list, isD_lst_tuple, isD_lst_dict, isD_lst_o, isD_tup_int, isD_tup_bool, isD_tup_str, isD_tup_list, isD_tup_tuple, isD_tup_dict, isD_tup_o, isD_dct_int, isD_dct_bool, isD_dct_str, isD_dct_list, isD_dct_tuple, isD_dct_dict, isD_dct_o, isD_dcT_int, isD_dcT_bool, isD_dcT_str, isD_dcT_list, isD_dcT_tuple, isD_dcT_dict, isD_dcT_o, isD_obj_o, $ls,*])
local macro_rules | `(tactic| walk_at "rb") => `(tactic| repeat (with_reducible refine res_bind ?_))
theorem atI_mem {α : Type} {ds : List α} {r : Int} (h0 : 0 ≤ r) (h1 : r < ds.length) : ∃ d ∈ ds, atI ds r = some d := by
  obtain ⟨n, rfl⟩ := Int.eq_ofNat_of_zero_le h0
  exact ⟨ds[n], List.getElem_mem _, by rw [atI_nat, List.getElem?_eq_getElem (by omega)]⟩
theorem pick_spec (a b : Int) (ds : List D) (hs : SrcI a b) (h0 : ds ≠ []) (hl : ds.length ≤ 1000) : ∃ d a' b', m__law_pick [.pw (src a b), .va (.lst ds)] = some (.va d, [.pw (src a' b'), .va (.lst ds)]) ∧ SrcI a' b' ∧ d ∈ ds := by
  have hp : 0 < ds.length := List.length_pos_iff.mpr h0
  obtain ⟨r, a1, b1, hd, s1, r0, r1⟩ := draw_spec a b ds.length hs (by omega) (by omega)
  obtain ⟨d, hm, hr⟩ := atI_mem r0 r1
  unfold m__law_pick
  push_cast [hd, hr]
  exact ⟨_, _, _, rfl, s1, hm⟩
def IsMk (B : Int) (d : D) : Prop := d = .tup false [.str "make"] ∨ ∃ t : Int, 1 ≤ t ∧ t ≤ B ∧ d = .tup false [.str "unpack", .int t]
def IsUse (B : Int) (d : D) : Prop := d ∈ [D.tup false [.str "read"], .tup false [.str "write"], .tup false [.str "rename"], .tup false [.str "touch"]] ∨ ∃ t : Int, 1 ≤ t ∧ t ≤ B ∧ d = .tup false [.str "setback", .int t]
def mostD : Option Int → D
  | none => .non
  | some m => .int m
def arD (a : Ar) : D := .tup false [.int a.s, .int a.g, .int a.l, mostD a.m, .str a.w]
structure ArL (M : Int) (a : Ar) : Prop where
  l1 : 1 ≤ a.l
  l2 : a.l ≤ M
  m : ∀ m, a.m = some m → a.l ≤ m ∧ m ≤ M
def mkB : D → Bool
  | .tup _ (.str w :: _) => (w == "make") || (w == "unpack")
  | _ => false
def hdS : D → Str
  | .tup _ (.str w :: _) => w
  | _ => ""
theorem mk_head {B : Int} {d : D} (h : IsMk B d) : mkB d = true ∧ ∃ r, d = .tup false (.str (hdS d) :: r) := by
  rcases h with rfl | ⟨t, _, _, rfl⟩
  · exact ⟨by decide +kernel, _, rfl⟩
  · exact ⟨show ((("unpack" : Str) == "make") || (("unpack" : Str) == "unpack")) = true by decide +kernel, _, rfl⟩
theorem use_head {B : Int} {d : D} (h : IsUse B d) : mkB d = false ∧ ∃ r, d = .tup false (.str (hdS d) :: r) := by
  rcases h with h | ⟨t, _, _, rfl⟩
  · simp only [List.mem_cons, List.not_mem_nil, or_false] at h
    rcases h with rfl | rfl | rfl | rfl
    · exact ⟨by decide +kernel, _, rfl⟩
    · exact ⟨by decide +kernel, _, rfl⟩
    · exact ⟨by decide +kernel, _, rfl⟩
    · exact ⟨by decide +kernel, _, rfl⟩
  · exact ⟨show ((("setback" : Str) == "make") || (("setback" : Str) == "unpack")) = false by decide +kernel, _, rfl⟩
def Nd (B : Int) (d : D) : Prop := IsMk B d ∨ IsUse B d
theorem nd_head {B : Int} {d : D} (h : Nd B d) : ∃ r, d = .tup false (.str (hdS d) :: r) := h.elim (fun h => (mk_head h).2) fun h => (use_head h).2
def mkAt (ds : List D) (g : Nat) : Bool := (ds.map mkB).getD g false
structure ArP (M : Int) (n : Nat) (ds : List D) (a : Ar) : Prop where
  s : a.s < n
  g : a.g < n
  l : ArL M a
  w : a.w = "" ∨ a.w = "held" ∨ a.w = "anew"
  anew : (a.w == "anew") = mkAt ds a.g
structure PlanI (B M : Int) (n : Nat) (ds : List D) (as : List Ar) : Prop where
  len : ds.length = n
  n1 : 1 ≤ n
  first : ∃ d r, ds = d :: r ∧ IsMk B d
  nd : ∀ d ∈ ds, Nd B d
  al : ∀ a ∈ as, ArP M n ds a
  one : as.Pairwise fun a b => ¬ (a.s = b.s ∧ a.g = b.g)
  on : ∀ a ∈ as, a.w = "anew" → ∃ b ∈ as, b.s = a.g ∧ b.w ≠ "anew"
  tree : ∀ g, 1 ≤ g → g < n → mkAt ds g = false → ∃ a ∈ as, a.g = g ∧ a.s < g ∧ a.w ≠ "anew"
  hB : B ≤ 1000000000
  hM : M ≤ 1000000000
theorem so_anew : PyData.strOk "anew" = true := by decide +kernel
theorem natc (n : Nat) : ((no_index (OfNat.ofNat n) : Nat) : Int) = (OfNat.ofNat n : Int) := rfl
theorem pEq_c (x y : D) : pEq [x, y] = if (x.pl 40 && y.pl 40) = true then some (.va (.bl (x.eqv y))) else none := rfl
theorem pNe_c (x y : D) : pNe [x, y] = if (x.pl 40 && y.pl 40) = true then some (.va (.bl (!x.eqv y))) else none := rfl
theorem so_make : PyData.strOk "make" = true := by decide +kernel
theorem so_unpack : PyData.strOk "unpack" = true := by decide +kernel
theorem so_read : PyData.strOk "read" = true := by decide +kernel
theorem so_write : PyData.strOk "write" = true := by decide +kernel
theorem so_rename : PyData.strOk "rename" = true := by decide +kernel
theorem so_touch : PyData.strOk "touch" = true := by decide +kernel
theorem so_setback : PyData.strOk "setback" = true := by decide +kernel
theorem so_e : PyData.strOk "" = true := by decide +kernel
theorem so_held : PyData.strOk "held" = true := by decide +kernel
theorem sn_make_unpack : (("make" : Str) == "unpack") = false := by decide +kernel
theorem sn_make_read : (("make" : Str) == "read") = false := by decide +kernel
theorem sn_make_write : (("make" : Str) == "write") = false := by decide +kernel
theorem sn_make_rename : (("make" : Str) == "rename") = false := by decide +kernel
theorem sn_make_touch : (("make" : Str) == "touch") = false := by decide +kernel
theorem sn_make_setback : (("make" : Str) == "setback") = false := by decide +kernel
theorem sn_unpack_make : (("unpack" : Str) == "make") = false := by decide +kernel
theorem sn_unpack_read : (("unpack" : Str) == "read") = false := by decide +kernel
theorem sn_unpack_write : (("unpack" : Str) == "write") = false := by decide +kernel
theorem sn_unpack_rename : (("unpack" : Str) == "rename") = false := by decide +kernel
theorem sn_unpack_touch : (("unpack" : Str) == "touch") = false := by decide +kernel
theorem sn_unpack_setback : (("unpack" : Str) == "setback") = false := by decide +kernel
theorem sn_read_make : (("read" : Str) == "make") = false := by decide +kernel
theorem sn_read_unpack : (("read" : Str) == "unpack") = false := by decide +kernel
theorem sn_read_write : (("read" : Str) == "write") = false := by decide +kernel
theorem sn_read_rename : (("read" : Str) == "rename") = false := by decide +kernel
theorem sn_read_touch : (("read" : Str) == "touch") = false := by decide +kernel
theorem sn_read_setback : (("read" : Str) == "setback") = false := by decide +kernel
theorem sn_write_make : (("write" : Str) == "make") = false := by decide +kernel
theorem sn_write_unpack : (("write" : Str) == "unpack") = false := by decide +kernel
theorem sn_write_read : (("write" : Str) == "read") = false := by decide +kernel
theorem sn_write_rename : (("write" : Str) == "rename") = false := by decide +kernel
theorem sn_write_touch : (("write" : Str) == "touch") = false := by decide +kernel
theorem sn_write_setback : (("write" : Str) == "setback") = false := by decide +kernel
theorem sn_rename_make : (("rename" : Str) == "make") = false := by decide +kernel
theorem sn_rename_unpack : (("rename" : Str) == "unpack") = false := by decide +kernel
theorem sn_rename_read : (("rename" : Str) == "read") = false := by decide +kernel
theorem sn_rename_write : (("rename" : Str) == "write") = false := by decide +kernel
theorem sn_rename_touch : (("rename" : Str) == "touch") = false := by decide +kernel
theorem sn_rename_setback : (("rename" : Str) == "setback") = false := by decide +kernel
theorem sn_touch_make : (("touch" : Str) == "make") = false := by decide +kernel
theorem sn_touch_unpack : (("touch" : Str) == "unpack") = false := by decide +kernel
theorem sn_touch_read : (("touch" : Str) == "read") = false := by decide +kernel
theorem sn_touch_write : (("touch" : Str) == "write") = false := by decide +kernel
theorem sn_touch_rename : (("touch" : Str) == "rename") = false := by decide +kernel
theorem sn_touch_setback : (("touch" : Str) == "setback") = false := by decide +kernel
theorem sn_setback_make : (("setback" : Str) == "make") = false := by decide +kernel
theorem sn_setback_unpack : (("setback" : Str) == "unpack") = false := by decide +kernel
theorem sn_setback_read : (("setback" : Str) == "read") = false := by decide +kernel
theorem sn_setback_write : (("setback" : Str) == "write") = false := by decide +kernel
theorem sn_setback_rename : (("setback" : Str) == "rename") = false := by decide +kernel
theorem sn_setback_touch : (("setback" : Str) == "touch") = false := by decide +kernel
theorem sn_e_held : (("" : Str) == "held") = false := by decide +kernel
theorem sn_e_anew : (("" : Str) == "anew") = false := by decide +kernel
theorem sn_held_e : (("held" : Str) == "") = false := by decide +kernel
theorem sn_held_anew : (("held" : Str) == "anew") = false := by decide +kernel
theorem sn_anew_e : (("anew" : Str) == "") = false := by decide +kernel
theorem sn_anew_held : (("anew" : Str) == "held") = false := by decide +kernel
local macro_rules | `(tactic| dsimp? [$ls,*]) => `(tactic| simp_all! [pEq_c, pNe_c, natc, Int.reduceBEq, Int.reduceEq, D.pl, D.pls, D.eqv, D.eqvs, beq_self_eq_true, so_make, so_unpack, so_read, so_write, so_rename, so_touch, so_setback, so_e, so_held, so_anew, sn_make_unpack, sn_make_read, sn_make_write, sn_make_rename, sn_make_touch, sn_make_setback, sn_unpack_make, sn_unpack_read, sn_unpack_write, sn_unpack_rename, sn_unpack_touch, sn_unpack_setback, sn_read_make, sn_read_unpack, sn_read_write, sn_read_rename, sn_read_touch, sn_read_setback, sn_write_make, sn_write_unpack, sn_write_read, sn_write_rename, sn_write_touch, sn_write_setback, sn_rename_make, sn_rename_unpack, sn_rename_read, sn_rename_write, sn_rename_touch, sn_rename_setback, sn_touch_make, sn_touch_unpack, sn_touch_read, sn_touch_write, sn_touch_rename, sn_touch_setback, sn_setback_make, sn_setback_unpack, sn_setback_read, sn_setback_write, sn_setback_rename, sn_setback_touch, sn_e_held, sn_e_anew, sn_held_e, sn_held_anew, sn_anew_e, sn_anew_held, $ls,*])
def isObj : D → Bool
  | .obj _ _ _ => true
  | _ => false
def isW : D → Bool
  | .int _ => true
  | _ => false
theorem whole_spec {d : D} (h : isObj d = false) : m_is_whole [.va d] = some (.va (.bl (isW d)), [.va d]) := by
  unfold m_is_whole
  cases d with
  | obj _ _ _ => cases h
  | _ => simp_all! []; rfl
def isBt (d : D) (lo hi : Int) : Bool := match d with
  | .int i => decide (lo ≤ i) && decide (i ≤ hi)
  | _ => false
theorem between_spec {d : D} (lo hi : Int) (h : isObj d = false) : m_is_between [.va d, .va (.int lo), .va (.int hi)] = some (.va (.bl (isBt d lo hi)), [.va d, .va (.int lo), .va (.int hi)]) := by
  have hw := whole_spec h
  unfold m_is_between
  cases d with
  | obj _ _ _ => cases h
  | int i =>
    have hw : m_is_whole [.va (.int i)] = some (.va (.bl true), [.va (.int i)]) := hw
    by_cases h1 : lo ≤ i
    · simp_all! [hw, h1]
      simp [isBt, h1]
    · simp_all! [hw, h1]
      simp [isBt, h1]
  | _ => 
    simp only [isW] at hw
    simp_all! [hw]; rfl
theorem time_spec {d : D} (h : isObj d = false) : m_is_time [.va d] = some (.va (.bl (isBt d 1 1000000000)), [.va d]) := by
  have hb := between_spec (d := d) 1 1000000000 h
  unfold m_is_time
  simp_all! [hb]
theorem deed_spec {B : Int} {d : D} (hB : B ≤ 1000000000) (h : Nd B d) : m_is_deed [.va d] = some (.va (.bl true), [.va d]) := by
  unfold m_is_deed
  rcases h with (rfl | ⟨t, t1, t2, rfl⟩) | h | ⟨t, t1, t2, rfl⟩
  · dsimp? [d_PLAIN]
  · have ht : m_is_time [.va (.int t)] = some (.va (.bl true), [.va (.int t)]) := by
      have t3 : t ≤ 1000000000 := by omega
      rw [time_spec rfl]; simp [isBt, t1, t3]
    dsimp? [d_PLAIN, ht]
  · simp only [List.mem_cons, List.not_mem_nil, or_false] at h
    rcases h with rfl | rfl | rfl | rfl
    · dsimp? [d_PLAIN]
    · dsimp? [d_PLAIN]
    · dsimp? [d_PLAIN]
    · dsimp? [d_PLAIN]
  · have ht : m_is_time [.va (.int t)] = some (.va (.bl true), [.va (.int t)]) := by
      have t3 : t ≤ 1000000000 := by omega
      rw [time_spec rfl]; simp [isBt, t1, t3]
    dsimp? [d_PLAIN, ht]
theorem makes_spec {B : Int} {d : D} (hB : B ≤ 1000000000) (h : Nd B d) : m_makes [.va d] = some (.va (.bl (mkB d)), [.va d]) := by
  have hd := deed_spec hB h
  unfold m_makes
  rcases h with (rfl | ⟨t, t1, t2, rfl⟩) | h | ⟨t, t1, t2, rfl⟩
  · dsimp? [hd, mkB]
  · dsimp? [hd, mkB]
  · simp only [List.mem_cons, List.not_mem_nil, or_false] at h
    rcases h with rfl | rfl | rfl | rfl
    · dsimp? [hd, mkB]
    · dsimp? [hd, mkB]
    · dsimp? [hd, mkB]
    · dsimp? [hd, mkB]
  · dsimp? [hd, mkB]
def wayD (ds : List D) (as : List Ar) : D := .obj "Way" ["own_nodes", "own_arrows"] [.lst ds, .lst (as.map arD)]
end Ag
namespace Ag
open PySem
local macro_rules | `(tactic| push_cast [$ls,*]) => `(tactic| simp -implicitDefEqProofs only [xFz_e, xUp_e, xVar_f, xC_e, xNil_e, xCons_e, xPr_e, xB_e, xAnd_e, xOr_e, xNot_e, xOfB_e, xIfE_e, xYes_e, xChain_f, chB_b, xSet_e, xDrop_e, xRet_e, xRetN_e, xRetV_e, xNx_e, xBk_e, xCt_e, xNever_e, xIf_e, xSeq_e, gNm_e, gTp_e, gsNil_e, gsCons_e, xAsg_e, xPar_e, xFor_e, xItL_e, xItT_e, xItR1_e, xItR2_e, xItE_e, xItEt_e, gPutD_e, fnM_e, xCall_e, xMt_e, xPrp_e, xFld_e, xBor_e, xBorV_e, xBorT_e, xCallM_e, xMtM_e, xMk_e, qVar_e, qC_e, xIxP_e, xPutP_e, xInP_e, xApp_e, xExt_e, xFldS_e, xFS_e, xLc_e, xSl_e, xStar_e, xIsi_e, xIsi2_e, xO2_e, xLenO_e, xEqO_e, xDict0_e, xAndV_e, xOrV_e, bnd_some, bnd_none, xeNo_e, mkO_e, xAllL_n, xAllL_c, xMtT_e, xFnT2_e, xDict0T_e, xDisp_e, xGet2_e, xMkR_e, xMkS_e, xMkK_e, xDUp_e, xMv_e, xItK_e, xItI_e, xKl_e, xKb_e, xFr_e, killO_nx, killO_rt, killO_bk, killO_ct, killB_nx, killB_rt, killB_bk, killB_ct, klM_n, klM_t, klM_f, kill_pw, kill_ow, kill_va, kill_no, frE_z, frE_s, frz_pw, frz_ow, frz_va, frz_no, Option.bind_some, Option.bind_none, List.getElem?_cons_zero, List.getElem?_cons_succ, List.getElem?_nil, List.set_cons_zero, List.set_cons_succ, List.map_cons, List.map_nil, List.length_cons, List.length_nil, List.cons_append, List.nil_append, List.replicate_succ, List.replicate_zero, viewE, view_va, view_ow, view_no, view_pw, fz_va, fz_ow, fz_no, fz_pw, own_va, own_ow, own_no, own_pw, ofz_1, ofz_2, o1_l, o1_d, o1_t, fvz_v, fvz_o, putS_e, putR, np_no, np_va, np_ow, np_pw, np_view, freeS_e, Option.map_some, Option.map_none, Option.getD_some, Option.getD_none, pEq_i, pNe_i, pInT_e, pNinT_e, pIsN_e, pNotN_e, pIsB_e, pNotB_e, fl_n, fl_i, fl_s, fl_b, isN_n, isN_i, isN_t, isN_s, isN_b, isN_l, ownAt, reAt, pinned, leafAt, setLeaf, getO, putO, isLst, List.any_cons, List.any_nil, Bool.or_true, Bool.true_or, Bool.or_false, Bool.false_or, Bool.not_true, Bool.not_false, Bool.and_true, Bool.true_and, Bool.and_false, Bool.false_and, D.flat, D.flatL, D.leaf, Sl.leaf, O1.leaf, O2.leaf, Fv.leaf, wipeE, List.all_cons, List.all_nil, if_true, if_false, ite_true, ite_false, reduceIte, Bool.false_eq_true, decide_true, decide_false, reduceCtorEq, and_self, true_and, and_true, and_false, false_and, ixN_lit, ixN_nat, atI_nat, pLst_e, pTup_e, Nat.reduceAdd, Nat.reduceLT, Nat.reduceLeDiff, Nat.lt_add_left_iff_pos, Nat.zero_lt_succ, pPow_e, Int.reducePow, Int.reduceToNat, Int.reduceLT, not_true_eq_false, not_false_eq_true, pAdd_e, pSub_e, pLt_e, pLe_e, pGt_e, pGe_e, pNeg_e, pMul_e, pDiv_e, pMod_e, pAbs_e, pInt_e, pMax2_e, pMin2_e, pLenL_e, pLenS_e, pLenT_e, pIxL_e, pIxS_e, pIxT_e, atI_lit, ge_iff_le, gt_iff_lt, $ls,*])
local macro_rules | `(tactic| dsimp! [$ls,*]) => `(tactic| (push_cast [$ls,*]; repeat (with_reducible refine res_step ?_; push_cast [$ls,*])))
local macro_rules | `(tactic| simp_all! [$ls,*]) => `(tactic| dsimp! [isD_non_int, isD_non_bool, isD_non_str, isD_non_list, isD_non_tuple, isD_non_dict, isD_non_o, isD_bl_int, isD_bl_bool, isD_bl_str, isD_bl_list, isD_bl_tuple, isD_bl_dict, isD_bl_o, isD_int_int, isD_int_bool, isD_int_str, isD_int_list, isD_int_tuple, isD_int_dict, isD_int_o, isD_str_int, isD_str_bool, isD_str_str, isD_str_list, isD_str_tuple, isD_str_dict, isD_str_o, isD_scr_int, isD_scr_bool, isD_scr_str, isD_scr_list, isD_scr_tuple, isD_scr_dict, isD_scr_o, isD_lst_int, isD_lst_bool, isD_lst_str, isD_lst_list, isD_lst_tuple, isD_lst_dict, isD_lst_o, isD_tup_int, isD_tup_bool, isD_tup_str, isD_tup_list, isD_tup_tuple, isD_tup_dict, isD_tup_o, isD_dct_int, isD_dct_bool, isD_dct_str, isD_dct_list, isD_dct_tuple, isD_dct_dict, isD_dct_o, isD_dcT_int, isD_dcT_bool, isD_dcT_str, isD_dcT_list, isD_dcT_tuple, isD_dcT_dict, isD_dcT_o, isD_obj_o, $ls,*])
local macro_rules | `(tactic| walk_at "rb") => `(tactic| repeat (with_reducible refine res_bind ?_))
local macro_rules | `(tactic| dsimp? [$ls,*]) => `(tactic| simp_all! [pEq_c, pNe_c, natc, Int.reduceBEq, Int.reduceEq, D.pl, D.pls, D.eqv, D.eqvs, beq_self_eq_true, so_make, so_unpack, so_read, so_write, so_rename, so_touch, so_setback, so_e, so_held, so_anew, sn_make_unpack, sn_make_read, sn_make_write, sn_make_rename, sn_make_touch, sn_make_setback, sn_unpack_make, sn_unpack_read, sn_unpack_write, sn_unpack_rename, sn_unpack_touch, sn_unpack_setback, sn_read_make, sn_read_unpack, sn_read_write, sn_read_rename, sn_read_touch, sn_read_setback, sn_write_make, sn_write_unpack, sn_write_read, sn_write_rename, sn_write_touch, sn_write_setback, sn_rename_make, sn_rename_unpack, sn_rename_read, sn_rename_write, sn_rename_touch, sn_rename_setback, sn_touch_make, sn_touch_unpack, sn_touch_read, sn_touch_write, sn_touch_rename, sn_touch_setback, sn_setback_make, sn_setback_unpack, sn_setback_read, sn_setback_write, sn_setback_rename, sn_setback_touch, sn_e_held, sn_e_anew, sn_held_e, sn_held_anew, sn_anew_e, sn_anew_held, $ls,*])
abbrev Ge := Option Int
def moreG : Ge → Ge → Bool
  | _, none => false
  | none, some _ => true
  | some x, some y => decide (y < x)
def addG : Ge → Option Int → Ge
  | some a, some m => some (a + m)
  | _, _ => none
def arrStep (tb : List Ge) (f : Ge) (a : Ar) : Ge :=
  if tb.getD a.s (some (-1)) = some (-1) then f else if moreG (addG (tb.getD a.s (some (-1))) a.m) f = true then addG (tb.getD a.s (some (-1))) a.m else f
def arrG (as : List Ar) (tb : List Ge) : Ge := as.foldl (arrStep tb) (some (-1))
def intoA (as : List Ar) (g : Nat) : List Ar := as.filter fun a => decide (a.g = g) && !(decide (a.w = "anew"))
def minZ : List Int → Int
  | [] => 0
  | [i] => i
  | i :: r => min i (minZ r)
structure AgP where
  n : Nat
  into : Nat → List Ar
  set : Nat → List (Str × Int)
  mkr : Nat → Bool
  told : Nat → Option Ge
  tol : Nat → Option (Option Int)
def nearL (s : List (Str × Int)) (looks : List Str) : List Int := looks.filterMap fun m => s.lookup m
def restL (s : List (Str × Int)) (looks : List Str) : List Str := looks.filter fun m => (s.lookup m).isNone
def lessG (nr : Int) : Ge → Ge
  | none => some nr
  | some o => if nr < o then some nr else some o
def setG (P : AgP) (tb : List Str → List Ge) (looks : List Str) (g : Nat) : Ge :=
  if nearL (P.set g) looks = [] then some (-1) else
  if P.mkr g = true ∨ restL (P.set g) looks = [] then some (minZ (nearL (P.set g) looks)) else
  lessG (minZ (nearL (P.set g) looks)) (arrG (P.into g) (tb (restL (P.set g) looks)))
def setT (P : AgP) (tb : List Str → List Ge) (looks : List Str) (g : Nat) : Ge := match P.told g with
  | some x => if ("read" : Str) ∈ looks then x else setG P tb looks g
  | none => setG P tb looks g
def passS (P : AgP) (turn : Nat) (fd : List Ge) (g : Nat) : List Ge :=
  if moreG (arrG (P.into g) fd) (fd.getD g (some (-1))) = true then fd.set g (if P.n < turn then none else arrG (P.into g) fd) else fd
def passL (n : Nat) (fd : List Ge) : List Nat := (List.range n).filter fun i => decide (fd.getD i (some (-1)) = some (-1))
def walkG (P : AgP) (fd : List Ge) : List Ge := (List.range (2 * P.n + 1)).foldl (fun f turn => (passL P.n fd).foldl (passS P turn) f) fd
def tblG (P : AgP) : Nat → List Str → List Ge
  | 0, _ => []
  | k + 1, looks => walkG P ((List.range P.n).map (setT P (tblG P k) looks))
abbrev tbG (P : AgP) (looks : List Str) : List Ge := tblG P 4 looks
def geOk : Ge → Prop
  | none => True
  | some x => -1 ≤ x
def inG : Ge → Prop
  | none => True
  | some x => 0 ≤ x
theorem inG.ok {x : Ge} (h : inG x) : geOk x := by cases x with
  | none => trivial
  | some x => exact Int.le_trans (by decide) (show 0 ≤ x from h)
def PosA (as : List Ar) : Prop := ∀ a ∈ as, ∀ m, a.m = some m → 0 ≤ m
structure WfP (P : AgP) : Prop where
  pos : ∀ g, PosA (P.into g)
  set : ∀ g, ∀ p ∈ P.set g, 0 ≤ p.2
  told : ∀ g x, P.told g = some x → geOk x
def scAr (f : Int) (a : Ar) : Ar := { a with l := a.l * f, m := a.m.map (· * f) }
section
variable {f : Int} (hf : 1 ≤ f)
include hf
end
structure ScP (f : Int) (P Q : AgP) : Prop where
  n : Q.n = P.n
  into : ∀ g, Q.into g = (P.into g).map (scAr f)
  set : ∀ g, Q.set g = (P.set g).map fun p => (p.1, p.2 * f)
  mkr : ∀ g, Q.mkr g = P.mkr g
  told : ∀ g, P.told g = none
  toldQ : ∀ g, Q.told g = none
  tol : ∀ g, P.tol g = none
  tolQ : ∀ g, Q.tol g = none
section
variable {f : Int} (hf : 1 ≤ f) {P Q : AgP} (S : ScP f P Q) (W : WfP P)
include hf S
include W
end
section
variable {f : Int} (hf : 1 ≤ f) {P Q : AgP} (S : ScP f P Q)
include hf
include S
end
def BoT (b : Int) (fd : List Ge) : Prop := ∀ i x, fd.getD i (some (-1)) = some x → x ≤ b
theorem BoT.mono {b c : Int} {fd : List Ge} (h : BoT b fd) (hc : b ≤ c) : BoT c fd := fun i x e => Int.le_trans (h i x e) hc
def BoL (b : Int) (fd : List Ge) : Prop := ∀ i x, fd.getD i none = some x → x ≤ b
theorem BoL.mono {b c : Int} {fd : List Ge} (h : BoL b fd) (hc : b ≤ c) : BoL c fd := fun i x e => Int.le_trans (h i x e) hc
def smW : Nat → Nat → Nat → Nat → Nat
  | 0, bits, _, _ => bits
  | f + 1, bits, done, many => if done < many then smW f (bits ||| (bits * 2 ^ (if done < many - done then done else many - done))) (done + (if done < many - done then done else many - done)) many else bits
def smN (bits many : Nat) : Nat := smW many bits 1 many
def lastB (m : Option Int) (k : Int) : Int := match m with
  | none => k
  | some m => if m > k then k else m
def passB (k : Int) (bits : Nat) (l : Int) (m : Option Int) : Nat :=
  if l > k then (if bits ≠ 0 then 1 else 0) else
  (smN bits (lastB m k - l + 1).toNat * 2 ^ l.toNat) % 2 ^ k.toNat ||| (if smN bits (lastB m k - l + 1).toNat * 2 ^ l.toNat / 2 ^ k.toNat ≠ 0 ∨ (m = none ∧ bits ≠ 0) then 1 else 0)
def nextS (rd : Nat → Bool) (k : Int) (bits : List Nat) (f : Nat) (a : Ar) : Nat := if rd a.s = true then f ||| passB k (bits.getD a.s 0) a.l a.m else f ||| 1
def nextB (rd : Nat → Bool) (into : Nat → List Ar) (k : Int) (bits : List Nat) (g : Nat) : Nat := (into g).foldl (nextS rd k bits) (bits.getD g 0)
def rndS (rd : Nat → Bool) (into : Nat → List Ar) (k : Int) (s : List Nat × Bool) (g : Nat) : List Nat × Bool := if nextB rd into k s.1 g = s.1.getD g 0 then s else (s.1.set g (nextB rd into k s.1 g), true)
def rndB (rd : Nat → Bool) (into : Nat → List Ar) (k : Int) (rs : List Nat) (bits : List Nat) : List Nat × Bool := rs.foldl (rndS rd into k) (bits, false)
def itB (rd : Nat → Bool) (into : Nat → List Ar) (k : Int) (rs : List Nat) : Nat → List Nat × Bool → List Nat
  | 0, s => s.1
  | n + 1, s => if s.2 = true then itB rd into k rs n (rndB rd into k rs s.1) else s.1
section
variable {rd : Nat → Bool} {into : Nat → List Ar} {k : Int} (hk : 1 ≤ k)
include hk
end
def szB (bits : Nat) : Nat := if bits = 0 then 0 else bits.log2 + 1
def posB (bits n : Nat) : List Nat := (List.range n).filter fun i => decide (bits / 2 ^ i % 2 = 1)
end Ag
namespace Ag
open PySem L2
local macro_rules | `(tactic| push_cast [$ls,*]) => `(tactic| simp -implicitDefEqProofs only [xFz_e, xUp_e, xVar_f, xC_e, xNil_e, xCons_e, xPr_e, xB_e, xAnd_e, xOr_e, xNot_e, xOfB_e, xIfE_e, xYes_e, xChain_f, chB_b, xSet_e, xDrop_e, xRet_e, xRetN_e, xRetV_e, xNx_e, xBk_e, xCt_e, xNever_e, xIf_e, xSeq_e, gNm_e, gTp_e, gsNil_e, gsCons_e, xAsg_e, xPar_e, xFor_e, xItL_e, xItT_e, xItR1_e, xItR2_e, xItE_e, xItEt_e, gPutD_e, fnM_e, xCall_e, xMt_e, xPrp_e, xFld_e, xBor_e, xBorV_e, xBorT_e, xCallM_e, xMtM_e, xMk_e, qVar_e, qC_e, xIxP_e, xPutP_e, xInP_e, xApp_e, xExt_e, xFldS_e, xFS_e, xLc_e, xSl_e, xStar_e, xIsi_e, xIsi2_e, xO2_e, xLenO_e, xEqO_e, xDict0_e, xAndV_e, xOrV_e, bnd_some, bnd_none, xeNo_e, mkO_e, xAllL_n, xAllL_c, xMtT_e, xFnT2_e, xDict0T_e, xDisp_e, xGet2_e, xMkR_e, xMkS_e, xMkK_e, xDUp_e, xMv_e, xItK_e, xItI_e, xKl_e, xKb_e, xFr_e, killO_nx, killO_rt, killO_bk, killO_ct, killB_nx, killB_rt, killB_bk, killB_ct, klM_n, klM_t, klM_f, kill_pw, kill_ow, kill_va, kill_no, frE_z, frE_s, frz_pw, frz_ow, frz_va, frz_no, Option.bind_some, Option.bind_none, List.getElem?_cons_zero, List.getElem?_cons_succ, List.getElem?_nil, List.set_cons_zero, List.set_cons_succ, List.map_cons, List.map_nil, List.length_cons, List.length_nil, List.cons_append, List.nil_append, List.replicate_succ, List.replicate_zero, viewE, view_va, view_ow, view_no, view_pw, fz_va, fz_ow, fz_no, fz_pw, own_va, own_ow, own_no, own_pw, ofz_1, ofz_2, o1_l, o1_d, o1_t, fvz_v, fvz_o, putS_e, putR, np_no, np_va, np_ow, np_pw, np_view, freeS_e, Option.map_some, Option.map_none, Option.getD_some, Option.getD_none, pEq_i, pNe_i, pInT_e, pNinT_e, pIsN_e, pNotN_e, pIsB_e, pNotB_e, fl_n, fl_i, fl_s, fl_b, isN_n, isN_i, isN_t, isN_s, isN_b, isN_l, ownAt, reAt, pinned, leafAt, setLeaf, getO, putO, isLst, List.any_cons, List.any_nil, Bool.or_true, Bool.true_or, Bool.or_false, Bool.false_or, Bool.not_true, Bool.not_false, Bool.and_true, Bool.true_and, Bool.and_false, Bool.false_and, D.flat, D.flatL, D.leaf, Sl.leaf, O1.leaf, O2.leaf, Fv.leaf, wipeE, List.all_cons, List.all_nil, if_true, if_false, ite_true, ite_false, reduceIte, Bool.false_eq_true, decide_true, decide_false, reduceCtorEq, and_self, true_and, and_true, and_false, false_and, ixN_lit, ixN_nat, atI_nat, pLst_e, pTup_e, Nat.reduceAdd, Nat.reduceLT, Nat.reduceLeDiff, Nat.lt_add_left_iff_pos, Nat.zero_lt_succ, pPow_e, Int.reducePow, Int.reduceToNat, Int.reduceLT, not_true_eq_false, not_false_eq_true, pAdd_e, pSub_e, pLt_e, pLe_e, pGt_e, pGe_e, pNeg_e, pMul_e, pDiv_e, pMod_e, pAbs_e, pInt_e, pMax2_e, pMin2_e, pLenL_e, pLenS_e, pLenT_e, pIxL_e, pIxS_e, pIxT_e, atI_lit, ge_iff_le, gt_iff_lt, $ls,*])
local macro_rules | `(tactic| dsimp! [$ls,*]) => `(tactic| (push_cast [$ls,*]; repeat (with_reducible refine res_step ?_; push_cast [$ls,*])))
local macro_rules | `(tactic| simp_all! [$ls,*]) => `(tactic| dsimp! [isD_non_int, isD_non_bool, isD_non_str, isD_non_list, isD_non_tuple, isD_non_dict, isD_non_o, isD_bl_int, isD_bl_bool, isD_bl_str, isD_bl_list, isD_bl_tuple, isD_bl_dict, isD_bl_o, isD_int_int, isD_int_bool, isD_int_str, isD_int_list, isD_int_tuple, isD_int_dict, isD_int_o, isD_str_int, isD_str_bool, isD_str_str, isD_str_list, isD_str_tuple, isD_str_dict, isD_str_o, isD_scr_int, isD_scr_bool, isD_scr_str, isD_scr_list, isD_scr_tuple, isD_scr_dict, isD_scr_o, isD_lst_int, isD_lst_bool, isD_lst_str, isD_lst_list, isD_lst_tuple, isD_lst_dict, isD_lst_o, isD_tup_int, isD_tup_bool, isD_tup_str, isD_tup_list, isD_tup_tuple, isD_tup_dict, isD_tup_o, isD_dct_int, isD_dct_bool, isD_dct_str, isD_dct_list, isD_dct_tuple, isD_dct_dict, isD_dct_o, isD_dcT_int, isD_dcT_bool, isD_dcT_str, isD_dcT_list, isD_dcT_tuple, isD_dcT_dict, isD_dcT_o, isD_obj_o, $ls,*])
local macro_rules | `(tactic| walk_at "rb") => `(tactic| repeat (with_reducible refine res_bind ?_))
local macro_rules | `(tactic| dsimp? [$ls,*]) => `(tactic| simp_all! [pEq_c, pNe_c, natc, Int.reduceBEq, Int.reduceEq, D.pl, D.pls, D.eqv, D.eqvs, beq_self_eq_true, so_make, so_unpack, so_read, so_write, so_rename, so_touch, so_setback, so_e, so_held, so_anew, sn_make_unpack, sn_make_read, sn_make_write, sn_make_rename, sn_make_touch, sn_make_setback, sn_unpack_make, sn_unpack_read, sn_unpack_write, sn_unpack_rename, sn_unpack_touch, sn_unpack_setback, sn_read_make, sn_read_unpack, sn_read_write, sn_read_rename, sn_read_touch, sn_read_setback, sn_write_make, sn_write_unpack, sn_write_read, sn_write_rename, sn_write_touch, sn_write_setback, sn_rename_make, sn_rename_unpack, sn_rename_read, sn_rename_write, sn_rename_touch, sn_rename_setback, sn_touch_make, sn_touch_unpack, sn_touch_read, sn_touch_write, sn_touch_rename, sn_touch_setback, sn_setback_make, sn_setback_unpack, sn_setback_read, sn_setback_write, sn_setback_rename, sn_setback_touch, sn_e_held, sn_e_anew, sn_held_e, sn_held_anew, sn_anew_e, sn_anew_held, $ls,*])
theorem key_s (x : Str) : D.key (.str x) = some (Sum.inr x) := rfl
set_option exponentiation.threshold 10000
inductive Ru where
  | al | nev | sel (k : Int)
def Ru.word : Ru → Str
  | .al => "always"
  | .nev => "never"
  | .sel _ => "seldom"
def Ru.after : Ru → D
  | .sel k => .int k
  | _ => .non
def Ru.isAl : Ru → Bool
  | .al => true
  | _ => false
def Ru.isSe : Ru → Bool
  | .sel _ => true
  | _ => false
def Ru.ok : Ru → Prop
  | .sel k => 1 ≤ k ∧ k ≤ 2000
  | _ => True
def ruleU (r : Ru) : D := .obj "Rule" ["own_word", "own_after"] [.str r.word, r.after]
theorem sn_never_always : (("never" : Str) == "always") = false := by decide +kernel
theorem sn_always_seldom : (("always" : Str) == "seldom") = false := by decide +kernel
theorem sn_never_seldom : (("never" : Str) == "seldom") = false := by decide +kernel
theorem so_always : PyData.strOk "always" = true := by decide +kernel
theorem so_never : PyData.strOk "never" = true := by decide +kernel
theorem so_seldom : PyData.strOk "seldom" = true := by decide +kernel
theorem fld_word (x y : D) : fldD ["own_word", "own_after"] [x, y] "own_word" = some x := rfl
theorem fld_after (x y : D) : fldD ["own_word", "own_after"] [x, y] "own_after" = some y := rfl
def isRd (d : D) : Bool := hdS d == "read"
def rdOf (ds : List D) (g : Nat) : Bool := isRd (ds.getD g .non)
theorem so_hd {B : Int} {d : D} (h : Nd B d) : PyData.strOk (hdS d) = true := by
  rcases h with (rfl | ⟨t, _, _, rfl⟩) | h | ⟨t, _, _, rfl⟩
  · decide +kernel
  · exact so_unpack
  · simp only [List.mem_cons, List.not_mem_nil, or_false] at h
    rcases h with rfl | rfl | rfl | rfl <;> decide +kernel
  · exact so_setback
structure WayI (B : Int) (ds : List D) (as : List Ar) : Prop where
  hB : B ≤ 1000000000
  nd : ∀ d ∈ ds, Nd B d
  w : ∀ a ∈ as, PyData.strOk a.w = true
  ha : as.length ≤ 1000
  s : ∀ a ∈ as, a.s < ds.length
  n : ds.length ≤ 12
  l1 : ∀ a ∈ as, 1 ≤ a.l
  m : ∀ a ∈ as, ∀ x, a.m = some x → a.l ≤ x
set_option exponentiation.threshold 10000
def joinF (ps : List Pair) : List Pair := (sortI ((ps.foldl stepE []).map (·.1))).foldl (fun fs l => stepJ fs (l, ((look (ps.foldl stepE []) l).getD none))) []
set_option exponentiation.threshold 10000
def prP (i : Nat) : Pair := ((i : Int), some (i : Int))
def jnS (bits : Nat) : List Pair := joinF ((posB bits (szB bits)).map prP)
def grS (ps : List Pair) : Ge := match ps.getLast? with
  | none => none
  | some p => p.2
def leS (ps : List Pair) : Option Int := ps.head?.map (·.1)
set_option exponentiation.threshold 10000
def fuelB : Nat := 10 ^ 1000
def readsB (ds : List D) : List Nat := (List.range ds.length).filter fun i => rdOf ds i
def bitsA (ds : List D) (as : List Ar) (k : Int) : List Nat := itB (rdOf ds) (intoA as) k (readsB ds) fuelB ((List.range ds.length).map fun _ => 0, true)
set_option exponentiation.threshold 10000
def setD (al : Bool) : D → List (Str × Int)
  | .tup _ [.str w] => if (w == "make") = true then [("read", 0), ("written", 0), ("changed", 0)] else if (w == "touch") = true then [("read", 0), ("written", 0), ("changed", 0)] else if (w == "write") = true then [("written", 0), ("changed", 0)] else
    if (w == "rename") = true then [("changed", 0)] else if al = true then [("read", 0)] else []
  | .tup _ [.str w, .int t] => if (w == "unpack") = true then [("read", 0), ("written", t), ("changed", 0)] else [("read", t), ("written", t), ("changed", 0)]
  | _ => []
def dctO (s : List (Str × Int)) : O1 := .dct (s.map fun p => Sum.inr p.1) (s.map fun p => .int p.2)
theorem nod3 : nodupS ["read", "written", "changed"] = true := by decide +kernel
theorem nod2 : nodupS ["written", "changed"] = true := by decide +kernel
theorem nodr : nodupS ["read"] = true := by decide +kernel
theorem nodc : nodupS ["changed"] = true := by decide +kernel
theorem backs_spec {B : Int} {d : D} (hB : B ≤ 1000000000) (h : Nd B d) (al : Bool) (hr : d ≠ .tup false [.str "read"]) : m_backs [.va d] = some (.ow (.o1 (dctO (setD al d))), [.va d]) := by
  have hd := deed_spec hB h
  unfold m_backs
  rcases h with (rfl | ⟨t, t1, t2, rfl⟩) | h | ⟨t, t1, t2, rfl⟩
  · dsimp? [hd, nod3, nod2, nodr, nodc, dctO, setD]
  · dsimp? [hd, nod3, nod2, nodr, nodc, dctO, setD]
  · simp only [List.mem_cons, List.not_mem_nil, or_false] at h
    rcases h with rfl | rfl | rfl | rfl
    · exact (hr rfl).elim
    · dsimp? [hd, nod3, nod2, nodr, nodc, dctO, setD]
    · dsimp? [hd, nod3, nod2, nodr, nodc, dctO, setD]
    · dsimp? [hd, nod3, nod2, nodr, nodc, dctO, setD]
  · dsimp? [hd, nod3, nod2, nodr, nodc, dctO, setD]
def loD (k : Bool) (looks : List Str) : D := .tup k (looks.map D.str)
set_option exponentiation.threshold 10000
def bitsR (ds : List D) (as : List Ar) : Ru → List Nat
  | .sel k => bitsA ds as k
  | _ => (List.range ds.length).map fun _ => 0
def wayP (ds : List D) (as : List Ar) (ru : Ru) : AgP where
  n := ds.length
  into := intoA as
  set := fun g => setD ru.isAl (ds.getD g .non)
  mkr := mkAt ds
  told := fun g => if (ru.isSe && rdOf ds g) = true then some (grS (jnS ((bitsR ds as ru).getD g 0))) else none
  tol := fun g => if (ru.isSe && rdOf ds g) = true then some (leS (jnS ((bitsR ds as ru).getD g 0))) else none
def keyL (l : List Str) : List Key := l.map Sum.inr
def tabD (P : AgP) (l : List Str) : D := .lst ((tbG P l).map mostD)
def kpO (P : AgP) (kl : List (List Str)) : O1 := .dcT (kl.map keyL) (kl.map (tabD P))
def agesO (P : AgP) (w r : D) (ra : Fv) (kl : List (List Str)) : O2 := .obj "Ages" ["way", "rule", "read_ages", "kept"] [.va w, .va r, ra, .ow (kpO P kl)]
structure Ext (kl kl' : List (List Str)) (b c : Nat) : Prop where
  len : kl'.length ≤ kl.length + c
  mem : ∀ l ∈ kl', l ∈ kl ∨ l.length < b
  sub : ∀ l ∈ kl, l ∈ kl'
def gro : Nat → Nat
  | 0 => 0
  | k + 1 => 1 + 12 * gro k
def TabS (T : FnT) (B : Int) (ds : List D) (as : List Ar) (ru : Ru) (ra : Fv) (k : Nat) : Prop := ∀ (kl : List (List Str)) (looks : List Str), looks ≠ [] → (∀ m ∈ looks, PyData.strOk m = true) → looks.length ≤ k → kl.length + gro k ≤ 5000 →
  Res (T [.pw (agesO (wayP ds as ru) (wayD ds as) (ruleU ru) ra kl), .va (loD false looks)]) fun p => ∃ kl', p = (.va (tabD (wayP ds as ru) looks), [.pw (agesO (wayP ds as ru) (wayD ds as) (ruleU ru) ra kl'), .va (loD false looks)]) ∧ Ext kl kl' (looks.length + 1) (gro k)
section
variable {B : Int} {ds : List D} {as : List Ar} {ru : Ru}
end
set_option exponentiation.threshold 10000
section
variable {B : Int} {ds : List D} {as : List Ar} {ru : Ru}
end
set_option exponentiation.threshold 10000
section
variable {B : Int} {ds : List D} {as : List Ar} {ru : Ru}
end
set_option exponentiation.threshold 10000
def looksL : List (List Str) := [["read"], ["written"], ["read", "written"], ["changed"], ["read", "changed"], ["written", "changed"], ["read", "written", "changed"]]
theorem check_r (ru : Ru) : m_check_rule [.va (ruleU ru)] = some (.va .non, [.va (ruleU ru)]) := by
  have cw : (clsL.contains "Rule" && clsL.contains "Rule") = true := by decide +kernel
  unfold m_check_rule ruleU
  dsimp? [subC, cw]
set_option exponentiation.threshold 10000
def bookK : List Key := (["bound", "looks", "how", "day", "grain", "spares", "late", "again", "period"] : List Str).map Sum.inr
def bookG (bd : Int) (lk : D) (hw : Str) (dy gr : Int) (sp : Bool) (la : Int) (ag : Bool) (pe : Int) : D := .obj "Book" ["own_parts"] [.dct bookK [.int bd, lk, .str hw, .int dy, .int gr, .bl sp, .int la, .bl ag, .int pe]]
section
variable (bd : Int) (lk : D) (hw : Str) (dy gr : Int) (sp : Bool) (la : Int) (ag : Bool) (pe : Int)
end
theorem so_bound : PyData.strOk "bound" = true := by decide +kernel
theorem so_looks : PyData.strOk "looks" = true := by decide +kernel
theorem so_how : PyData.strOk "how" = true := by decide +kernel
theorem so_day : PyData.strOk "day" = true := by decide +kernel
theorem so_grain : PyData.strOk "grain" = true := by decide +kernel
theorem so_spares : PyData.strOk "spares" = true := by decide +kernel
theorem so_late : PyData.strOk "late" = true := by decide +kernel
theorem so_again : PyData.strOk "again" = true := by decide +kernel
theorem so_period : PyData.strOk "period" = true := by decide +kernel
theorem so_above : PyData.strOk "above" = true := by decide +kernel
theorem so_from : PyData.strOk "from" = true := by decide +kernel
theorem sn_bound_looks : (("bound" : Str) == "looks") = false := by decide +kernel
theorem sn_bound_how : (("bound" : Str) == "how") = false := by decide +kernel
theorem sn_bound_day : (("bound" : Str) == "day") = false := by decide +kernel
theorem sn_bound_grain : (("bound" : Str) == "grain") = false := by decide +kernel
theorem sn_bound_spares : (("bound" : Str) == "spares") = false := by decide +kernel
theorem sn_bound_late : (("bound" : Str) == "late") = false := by decide +kernel
theorem sn_bound_again : (("bound" : Str) == "again") = false := by decide +kernel
theorem sn_bound_period : (("bound" : Str) == "period") = false := by decide +kernel
theorem sn_looks_bound : (("looks" : Str) == "bound") = false := by decide +kernel
theorem sn_looks_how : (("looks" : Str) == "how") = false := by decide +kernel
theorem sn_looks_day : (("looks" : Str) == "day") = false := by decide +kernel
theorem sn_looks_grain : (("looks" : Str) == "grain") = false := by decide +kernel
theorem sn_looks_spares : (("looks" : Str) == "spares") = false := by decide +kernel
theorem sn_looks_late : (("looks" : Str) == "late") = false := by decide +kernel
theorem sn_looks_again : (("looks" : Str) == "again") = false := by decide +kernel
theorem sn_looks_period : (("looks" : Str) == "period") = false := by decide +kernel
theorem sn_how_bound : (("how" : Str) == "bound") = false := by decide +kernel
theorem sn_how_looks : (("how" : Str) == "looks") = false := by decide +kernel
theorem sn_how_day : (("how" : Str) == "day") = false := by decide +kernel
theorem sn_how_grain : (("how" : Str) == "grain") = false := by decide +kernel
theorem sn_how_spares : (("how" : Str) == "spares") = false := by decide +kernel
theorem sn_how_late : (("how" : Str) == "late") = false := by decide +kernel
theorem sn_how_again : (("how" : Str) == "again") = false := by decide +kernel
theorem sn_how_period : (("how" : Str) == "period") = false := by decide +kernel
theorem sn_day_bound : (("day" : Str) == "bound") = false := by decide +kernel
theorem sn_day_looks : (("day" : Str) == "looks") = false := by decide +kernel
theorem sn_day_how : (("day" : Str) == "how") = false := by decide +kernel
theorem sn_day_grain : (("day" : Str) == "grain") = false := by decide +kernel
theorem sn_day_spares : (("day" : Str) == "spares") = false := by decide +kernel
theorem sn_day_late : (("day" : Str) == "late") = false := by decide +kernel
theorem sn_day_again : (("day" : Str) == "again") = false := by decide +kernel
theorem sn_day_period : (("day" : Str) == "period") = false := by decide +kernel
theorem sn_grain_bound : (("grain" : Str) == "bound") = false := by decide +kernel
theorem sn_grain_looks : (("grain" : Str) == "looks") = false := by decide +kernel
theorem sn_grain_how : (("grain" : Str) == "how") = false := by decide +kernel
theorem sn_grain_day : (("grain" : Str) == "day") = false := by decide +kernel
theorem sn_grain_spares : (("grain" : Str) == "spares") = false := by decide +kernel
theorem sn_grain_late : (("grain" : Str) == "late") = false := by decide +kernel
theorem sn_grain_again : (("grain" : Str) == "again") = false := by decide +kernel
theorem sn_grain_period : (("grain" : Str) == "period") = false := by decide +kernel
theorem sn_spares_bound : (("spares" : Str) == "bound") = false := by decide +kernel
theorem sn_spares_looks : (("spares" : Str) == "looks") = false := by decide +kernel
theorem sn_spares_how : (("spares" : Str) == "how") = false := by decide +kernel
theorem sn_spares_day : (("spares" : Str) == "day") = false := by decide +kernel
theorem sn_spares_grain : (("spares" : Str) == "grain") = false := by decide +kernel
theorem sn_spares_late : (("spares" : Str) == "late") = false := by decide +kernel
theorem sn_spares_again : (("spares" : Str) == "again") = false := by decide +kernel
theorem sn_spares_period : (("spares" : Str) == "period") = false := by decide +kernel
theorem sn_late_bound : (("late" : Str) == "bound") = false := by decide +kernel
theorem sn_late_looks : (("late" : Str) == "looks") = false := by decide +kernel
theorem sn_late_how : (("late" : Str) == "how") = false := by decide +kernel
theorem sn_late_day : (("late" : Str) == "day") = false := by decide +kernel
theorem sn_late_grain : (("late" : Str) == "grain") = false := by decide +kernel
theorem sn_late_spares : (("late" : Str) == "spares") = false := by decide +kernel
theorem sn_late_again : (("late" : Str) == "again") = false := by decide +kernel
theorem sn_late_period : (("late" : Str) == "period") = false := by decide +kernel
theorem sn_again_bound : (("again" : Str) == "bound") = false := by decide +kernel
theorem sn_again_looks : (("again" : Str) == "looks") = false := by decide +kernel
theorem sn_again_how : (("again" : Str) == "how") = false := by decide +kernel
theorem sn_again_day : (("again" : Str) == "day") = false := by decide +kernel
theorem sn_again_grain : (("again" : Str) == "grain") = false := by decide +kernel
theorem sn_again_spares : (("again" : Str) == "spares") = false := by decide +kernel
theorem sn_again_late : (("again" : Str) == "late") = false := by decide +kernel
theorem sn_again_period : (("again" : Str) == "period") = false := by decide +kernel
theorem sn_period_bound : (("period" : Str) == "bound") = false := by decide +kernel
theorem sn_period_looks : (("period" : Str) == "looks") = false := by decide +kernel
theorem sn_period_how : (("period" : Str) == "how") = false := by decide +kernel
theorem sn_period_day : (("period" : Str) == "day") = false := by decide +kernel
theorem sn_period_grain : (("period" : Str) == "grain") = false := by decide +kernel
theorem sn_period_spares : (("period" : Str) == "spares") = false := by decide +kernel
theorem sn_period_late : (("period" : Str) == "late") = false := by decide +kernel
theorem sn_period_again : (("period" : Str) == "again") = false := by decide +kernel
theorem sn_above_from : (("above" : Str) == "from") = false := by decide +kernel
theorem sn_from_above : (("from" : Str) == "above") = false := by decide +kernel
theorem pk_how : dPutK ([Sum.inr "bound", Sum.inr "looks"] : List Key) (Sum.inr "how") = ([Sum.inr "bound", Sum.inr "looks", Sum.inr "how"] : List Key) := by kernel_rfl
theorem pd_how (v0 v1 w : D) : dPutD ([Sum.inr "bound", Sum.inr "looks"] : List Key) [v0, v1] (Sum.inr "how") w = [v0, v1, w] := by kernel_rfl
theorem pk_day : dPutK ([Sum.inr "bound", Sum.inr "looks", Sum.inr "how"] : List Key) (Sum.inr "day") = ([Sum.inr "bound", Sum.inr "looks", Sum.inr "how", Sum.inr "day"] : List Key) := by kernel_rfl
theorem pd_day (v0 v1 v2 w : D) : dPutD ([Sum.inr "bound", Sum.inr "looks", Sum.inr "how"] : List Key) [v0, v1, v2] (Sum.inr "day") w = [v0, v1, v2, w] := by kernel_rfl
theorem pk_grain : dPutK ([Sum.inr "bound", Sum.inr "looks", Sum.inr "how", Sum.inr "day"] : List Key) (Sum.inr "grain") = ([Sum.inr "bound", Sum.inr "looks", Sum.inr "how", Sum.inr "day", Sum.inr "grain"] : List Key) := by kernel_rfl
theorem pd_grain (v0 v1 v2 v3 w : D) : dPutD ([Sum.inr "bound", Sum.inr "looks", Sum.inr "how", Sum.inr "day"] : List Key) [v0, v1, v2, v3] (Sum.inr "grain") w = [v0, v1, v2, v3, w] := by kernel_rfl
theorem pk_spares : dPutK ([Sum.inr "bound", Sum.inr "looks", Sum.inr "how", Sum.inr "day", Sum.inr "grain"] : List Key) (Sum.inr "spares") = ([Sum.inr "bound", Sum.inr "looks", Sum.inr "how", Sum.inr "day", Sum.inr "grain", Sum.inr "spares"] : List Key) := by kernel_rfl
theorem pd_spares (v0 v1 v2 v3 v4 w : D) : dPutD ([Sum.inr "bound", Sum.inr "looks", Sum.inr "how", Sum.inr "day", Sum.inr "grain"] : List Key) [v0, v1, v2, v3, v4] (Sum.inr "spares") w = [v0, v1, v2, v3, v4, w] := by kernel_rfl
theorem pk_late : dPutK ([Sum.inr "bound", Sum.inr "looks", Sum.inr "how", Sum.inr "day", Sum.inr "grain", Sum.inr "spares"] : List Key) (Sum.inr "late") = ([Sum.inr "bound", Sum.inr "looks", Sum.inr "how", Sum.inr "day", Sum.inr "grain", Sum.inr "spares", Sum.inr "late"] : List Key) := by kernel_rfl
theorem pd_late (v0 v1 v2 v3 v4 v5 w : D) : dPutD ([Sum.inr "bound", Sum.inr "looks", Sum.inr "how", Sum.inr "day", Sum.inr "grain", Sum.inr "spares"] : List Key) [v0, v1, v2, v3, v4, v5] (Sum.inr "late") w = [v0, v1, v2, v3, v4, v5, w] := by kernel_rfl
theorem pk_again : dPutK ([Sum.inr "bound", Sum.inr "looks", Sum.inr "how", Sum.inr "day", Sum.inr "grain", Sum.inr "spares", Sum.inr "late"] : List Key) (Sum.inr "again") = ([Sum.inr "bound", Sum.inr "looks", Sum.inr "how", Sum.inr "day", Sum.inr "grain", Sum.inr "spares", Sum.inr "late", Sum.inr "again"] : List Key) := by kernel_rfl
theorem pd_again (v0 v1 v2 v3 v4 v5 v6 w : D) : dPutD ([Sum.inr "bound", Sum.inr "looks", Sum.inr "how", Sum.inr "day", Sum.inr "grain", Sum.inr "spares", Sum.inr "late"] : List Key) [v0, v1, v2, v3, v4, v5, v6] (Sum.inr "again") w = [v0, v1, v2, v3, v4, v5, v6, w] := by kernel_rfl
theorem pk_period : dPutK ([Sum.inr "bound", Sum.inr "looks", Sum.inr "how", Sum.inr "day", Sum.inr "grain", Sum.inr "spares", Sum.inr "late", Sum.inr "again"] : List Key) (Sum.inr "period") = ([Sum.inr "bound", Sum.inr "looks", Sum.inr "how", Sum.inr "day", Sum.inr "grain", Sum.inr "spares", Sum.inr "late", Sum.inr "again", Sum.inr "period"] : List Key) := by kernel_rfl
theorem pd_period (v0 v1 v2 v3 v4 v5 v6 v7 w : D) : dPutD ([Sum.inr "bound", Sum.inr "looks", Sum.inr "how", Sum.inr "day", Sum.inr "grain", Sum.inr "spares", Sum.inr "late", Sum.inr "again"] : List Key) [v0, v1, v2, v3, v4, v5, v6, v7] (Sum.inr "period") w = [v0, v1, v2, v3, v4, v5, v6, v7, w] := by kernel_rfl
theorem rk_bound : dPutK ([Sum.inr "bound", Sum.inr "looks", Sum.inr "how", Sum.inr "day", Sum.inr "grain", Sum.inr "spares", Sum.inr "late", Sum.inr "again", Sum.inr "period"] : List Key) (Sum.inr "bound") = ([Sum.inr "bound", Sum.inr "looks", Sum.inr "how", Sum.inr "day", Sum.inr "grain", Sum.inr "spares", Sum.inr "late", Sum.inr "again", Sum.inr "period"] : List Key) := by kernel_rfl
theorem rd_bound (v0 v1 v2 v3 v4 v5 v6 v7 v8 w : D) : dPutD ([Sum.inr "bound", Sum.inr "looks", Sum.inr "how", Sum.inr "day", Sum.inr "grain", Sum.inr "spares", Sum.inr "late", Sum.inr "again", Sum.inr "period"] : List Key) [v0, v1, v2, v3, v4, v5, v6, v7, v8] (Sum.inr "bound") w = [w, v1, v2, v3, v4, v5, v6, v7, v8] := by kernel_rfl
theorem gd_bound (v0 v1 v2 v3 v4 v5 v6 v7 v8 : D) : dGet ([Sum.inr "bound", Sum.inr "looks", Sum.inr "how", Sum.inr "day", Sum.inr "grain", Sum.inr "spares", Sum.inr "late", Sum.inr "again", Sum.inr "period"] : List Key) [v0, v1, v2, v3, v4, v5, v6, v7, v8] (Sum.inr "bound") = some v0 := by kernel_rfl
theorem rk_looks : dPutK ([Sum.inr "bound", Sum.inr "looks", Sum.inr "how", Sum.inr "day", Sum.inr "grain", Sum.inr "spares", Sum.inr "late", Sum.inr "again", Sum.inr "period"] : List Key) (Sum.inr "looks") = ([Sum.inr "bound", Sum.inr "looks", Sum.inr "how", Sum.inr "day", Sum.inr "grain", Sum.inr "spares", Sum.inr "late", Sum.inr "again", Sum.inr "period"] : List Key) := by kernel_rfl
theorem rd_looks (v0 v1 v2 v3 v4 v5 v6 v7 v8 w : D) : dPutD ([Sum.inr "bound", Sum.inr "looks", Sum.inr "how", Sum.inr "day", Sum.inr "grain", Sum.inr "spares", Sum.inr "late", Sum.inr "again", Sum.inr "period"] : List Key) [v0, v1, v2, v3, v4, v5, v6, v7, v8] (Sum.inr "looks") w = [v0, w, v2, v3, v4, v5, v6, v7, v8] := by kernel_rfl
theorem gd_looks (v0 v1 v2 v3 v4 v5 v6 v7 v8 : D) : dGet ([Sum.inr "bound", Sum.inr "looks", Sum.inr "how", Sum.inr "day", Sum.inr "grain", Sum.inr "spares", Sum.inr "late", Sum.inr "again", Sum.inr "period"] : List Key) [v0, v1, v2, v3, v4, v5, v6, v7, v8] (Sum.inr "looks") = some v1 := by kernel_rfl
theorem rk_how : dPutK ([Sum.inr "bound", Sum.inr "looks", Sum.inr "how", Sum.inr "day", Sum.inr "grain", Sum.inr "spares", Sum.inr "late", Sum.inr "again", Sum.inr "period"] : List Key) (Sum.inr "how") = ([Sum.inr "bound", Sum.inr "looks", Sum.inr "how", Sum.inr "day", Sum.inr "grain", Sum.inr "spares", Sum.inr "late", Sum.inr "again", Sum.inr "period"] : List Key) := by kernel_rfl
theorem rd_how (v0 v1 v2 v3 v4 v5 v6 v7 v8 w : D) : dPutD ([Sum.inr "bound", Sum.inr "looks", Sum.inr "how", Sum.inr "day", Sum.inr "grain", Sum.inr "spares", Sum.inr "late", Sum.inr "again", Sum.inr "period"] : List Key) [v0, v1, v2, v3, v4, v5, v6, v7, v8] (Sum.inr "how") w = [v0, v1, w, v3, v4, v5, v6, v7, v8] := by kernel_rfl
theorem gd_how (v0 v1 v2 v3 v4 v5 v6 v7 v8 : D) : dGet ([Sum.inr "bound", Sum.inr "looks", Sum.inr "how", Sum.inr "day", Sum.inr "grain", Sum.inr "spares", Sum.inr "late", Sum.inr "again", Sum.inr "period"] : List Key) [v0, v1, v2, v3, v4, v5, v6, v7, v8] (Sum.inr "how") = some v2 := by kernel_rfl
theorem rk_day : dPutK ([Sum.inr "bound", Sum.inr "looks", Sum.inr "how", Sum.inr "day", Sum.inr "grain", Sum.inr "spares", Sum.inr "late", Sum.inr "again", Sum.inr "period"] : List Key) (Sum.inr "day") = ([Sum.inr "bound", Sum.inr "looks", Sum.inr "how", Sum.inr "day", Sum.inr "grain", Sum.inr "spares", Sum.inr "late", Sum.inr "again", Sum.inr "period"] : List Key) := by kernel_rfl
theorem rd_day (v0 v1 v2 v3 v4 v5 v6 v7 v8 w : D) : dPutD ([Sum.inr "bound", Sum.inr "looks", Sum.inr "how", Sum.inr "day", Sum.inr "grain", Sum.inr "spares", Sum.inr "late", Sum.inr "again", Sum.inr "period"] : List Key) [v0, v1, v2, v3, v4, v5, v6, v7, v8] (Sum.inr "day") w = [v0, v1, v2, w, v4, v5, v6, v7, v8] := by kernel_rfl
theorem gd_day (v0 v1 v2 v3 v4 v5 v6 v7 v8 : D) : dGet ([Sum.inr "bound", Sum.inr "looks", Sum.inr "how", Sum.inr "day", Sum.inr "grain", Sum.inr "spares", Sum.inr "late", Sum.inr "again", Sum.inr "period"] : List Key) [v0, v1, v2, v3, v4, v5, v6, v7, v8] (Sum.inr "day") = some v3 := by kernel_rfl
theorem rk_grain : dPutK ([Sum.inr "bound", Sum.inr "looks", Sum.inr "how", Sum.inr "day", Sum.inr "grain", Sum.inr "spares", Sum.inr "late", Sum.inr "again", Sum.inr "period"] : List Key) (Sum.inr "grain") = ([Sum.inr "bound", Sum.inr "looks", Sum.inr "how", Sum.inr "day", Sum.inr "grain", Sum.inr "spares", Sum.inr "late", Sum.inr "again", Sum.inr "period"] : List Key) := by kernel_rfl
theorem rd_grain (v0 v1 v2 v3 v4 v5 v6 v7 v8 w : D) : dPutD ([Sum.inr "bound", Sum.inr "looks", Sum.inr "how", Sum.inr "day", Sum.inr "grain", Sum.inr "spares", Sum.inr "late", Sum.inr "again", Sum.inr "period"] : List Key) [v0, v1, v2, v3, v4, v5, v6, v7, v8] (Sum.inr "grain") w = [v0, v1, v2, v3, w, v5, v6, v7, v8] := by kernel_rfl
theorem gd_grain (v0 v1 v2 v3 v4 v5 v6 v7 v8 : D) : dGet ([Sum.inr "bound", Sum.inr "looks", Sum.inr "how", Sum.inr "day", Sum.inr "grain", Sum.inr "spares", Sum.inr "late", Sum.inr "again", Sum.inr "period"] : List Key) [v0, v1, v2, v3, v4, v5, v6, v7, v8] (Sum.inr "grain") = some v4 := by kernel_rfl
theorem rk_spares : dPutK ([Sum.inr "bound", Sum.inr "looks", Sum.inr "how", Sum.inr "day", Sum.inr "grain", Sum.inr "spares", Sum.inr "late", Sum.inr "again", Sum.inr "period"] : List Key) (Sum.inr "spares") = ([Sum.inr "bound", Sum.inr "looks", Sum.inr "how", Sum.inr "day", Sum.inr "grain", Sum.inr "spares", Sum.inr "late", Sum.inr "again", Sum.inr "period"] : List Key) := by kernel_rfl
theorem rd_spares (v0 v1 v2 v3 v4 v5 v6 v7 v8 w : D) : dPutD ([Sum.inr "bound", Sum.inr "looks", Sum.inr "how", Sum.inr "day", Sum.inr "grain", Sum.inr "spares", Sum.inr "late", Sum.inr "again", Sum.inr "period"] : List Key) [v0, v1, v2, v3, v4, v5, v6, v7, v8] (Sum.inr "spares") w = [v0, v1, v2, v3, v4, w, v6, v7, v8] := by kernel_rfl
theorem gd_spares (v0 v1 v2 v3 v4 v5 v6 v7 v8 : D) : dGet ([Sum.inr "bound", Sum.inr "looks", Sum.inr "how", Sum.inr "day", Sum.inr "grain", Sum.inr "spares", Sum.inr "late", Sum.inr "again", Sum.inr "period"] : List Key) [v0, v1, v2, v3, v4, v5, v6, v7, v8] (Sum.inr "spares") = some v5 := by kernel_rfl
theorem rk_late : dPutK ([Sum.inr "bound", Sum.inr "looks", Sum.inr "how", Sum.inr "day", Sum.inr "grain", Sum.inr "spares", Sum.inr "late", Sum.inr "again", Sum.inr "period"] : List Key) (Sum.inr "late") = ([Sum.inr "bound", Sum.inr "looks", Sum.inr "how", Sum.inr "day", Sum.inr "grain", Sum.inr "spares", Sum.inr "late", Sum.inr "again", Sum.inr "period"] : List Key) := by kernel_rfl
theorem rd_late (v0 v1 v2 v3 v4 v5 v6 v7 v8 w : D) : dPutD ([Sum.inr "bound", Sum.inr "looks", Sum.inr "how", Sum.inr "day", Sum.inr "grain", Sum.inr "spares", Sum.inr "late", Sum.inr "again", Sum.inr "period"] : List Key) [v0, v1, v2, v3, v4, v5, v6, v7, v8] (Sum.inr "late") w = [v0, v1, v2, v3, v4, v5, w, v7, v8] := by kernel_rfl
theorem gd_late (v0 v1 v2 v3 v4 v5 v6 v7 v8 : D) : dGet ([Sum.inr "bound", Sum.inr "looks", Sum.inr "how", Sum.inr "day", Sum.inr "grain", Sum.inr "spares", Sum.inr "late", Sum.inr "again", Sum.inr "period"] : List Key) [v0, v1, v2, v3, v4, v5, v6, v7, v8] (Sum.inr "late") = some v6 := by kernel_rfl
theorem rk_again : dPutK ([Sum.inr "bound", Sum.inr "looks", Sum.inr "how", Sum.inr "day", Sum.inr "grain", Sum.inr "spares", Sum.inr "late", Sum.inr "again", Sum.inr "period"] : List Key) (Sum.inr "again") = ([Sum.inr "bound", Sum.inr "looks", Sum.inr "how", Sum.inr "day", Sum.inr "grain", Sum.inr "spares", Sum.inr "late", Sum.inr "again", Sum.inr "period"] : List Key) := by kernel_rfl
theorem rd_again (v0 v1 v2 v3 v4 v5 v6 v7 v8 w : D) : dPutD ([Sum.inr "bound", Sum.inr "looks", Sum.inr "how", Sum.inr "day", Sum.inr "grain", Sum.inr "spares", Sum.inr "late", Sum.inr "again", Sum.inr "period"] : List Key) [v0, v1, v2, v3, v4, v5, v6, v7, v8] (Sum.inr "again") w = [v0, v1, v2, v3, v4, v5, v6, w, v8] := by kernel_rfl
theorem gd_again (v0 v1 v2 v3 v4 v5 v6 v7 v8 : D) : dGet ([Sum.inr "bound", Sum.inr "looks", Sum.inr "how", Sum.inr "day", Sum.inr "grain", Sum.inr "spares", Sum.inr "late", Sum.inr "again", Sum.inr "period"] : List Key) [v0, v1, v2, v3, v4, v5, v6, v7, v8] (Sum.inr "again") = some v7 := by kernel_rfl
theorem rk_period : dPutK ([Sum.inr "bound", Sum.inr "looks", Sum.inr "how", Sum.inr "day", Sum.inr "grain", Sum.inr "spares", Sum.inr "late", Sum.inr "again", Sum.inr "period"] : List Key) (Sum.inr "period") = ([Sum.inr "bound", Sum.inr "looks", Sum.inr "how", Sum.inr "day", Sum.inr "grain", Sum.inr "spares", Sum.inr "late", Sum.inr "again", Sum.inr "period"] : List Key) := by kernel_rfl
theorem rd_period (v0 v1 v2 v3 v4 v5 v6 v7 v8 w : D) : dPutD ([Sum.inr "bound", Sum.inr "looks", Sum.inr "how", Sum.inr "day", Sum.inr "grain", Sum.inr "spares", Sum.inr "late", Sum.inr "again", Sum.inr "period"] : List Key) [v0, v1, v2, v3, v4, v5, v6, v7, v8] (Sum.inr "period") w = [v0, v1, v2, v3, v4, v5, v6, v7, w] := by kernel_rfl
theorem gd_period (v0 v1 v2 v3 v4 v5 v6 v7 v8 : D) : dGet ([Sum.inr "bound", Sum.inr "looks", Sum.inr "how", Sum.inr "day", Sum.inr "grain", Sum.inr "spares", Sum.inr "late", Sum.inr "again", Sum.inr "period"] : List Key) [v0, v1, v2, v3, v4, v5, v6, v7, v8] (Sum.inr "period") = some v8 := by kernel_rfl
theorem mk_k : mgK ([Sum.inr "bound", Sum.inr "looks", Sum.inr "how", Sum.inr "day", Sum.inr "grain", Sum.inr "spares"] : List Key) ([Sum.inr "late", Sum.inr "again", Sum.inr "period"] : List Key) = ([Sum.inr "bound", Sum.inr "looks", Sum.inr "how", Sum.inr "day", Sum.inr "grain", Sum.inr "spares", Sum.inr "late", Sum.inr "again", Sum.inr "period"] : List Key) := by kernel_rfl
theorem mk_d (v0 v1 v2 v3 v4 v5 v6 v7 v8 : D) : mgD ([Sum.inr "bound", Sum.inr "looks", Sum.inr "how", Sum.inr "day", Sum.inr "grain", Sum.inr "spares"] : List Key) [v0, v1, v2, v3, v4, v5] ([Sum.inr "late", Sum.inr "again", Sum.inr "period"] : List Key) [v6, v7, v8] = [v0, v1, v2, v3, v4, v5, v6, v7, v8] := by kernel_rfl
theorem nod6 : nodupS ["bound", "looks", "how", "day", "grain", "spares"] = true := by decide +kernel
theorem nod3l : nodupS ["late", "again", "period"] = true := by decide +kernel
theorem nod2b : nodupS ["bound", "looks"] = true := by decide +kernel
local macro_rules | `(tactic| simp_all? [$ls,*]) => `(tactic| dsimp? [key_s, so_bound, so_looks, so_how, so_day, so_grain, so_spares, so_late, so_again, so_period, so_above, so_from, sn_bound_looks, sn_bound_how, sn_bound_day, sn_bound_grain, sn_bound_spares, sn_bound_late, sn_bound_again, sn_bound_period, sn_looks_bound, sn_looks_how, sn_looks_day, sn_looks_grain, sn_looks_spares, sn_looks_late, sn_looks_again, sn_looks_period, sn_how_bound, sn_how_looks, sn_how_day, sn_how_grain, sn_how_spares, sn_how_late, sn_how_again, sn_how_period, sn_day_bound, sn_day_looks, sn_day_how, sn_day_grain, sn_day_spares, sn_day_late, sn_day_again, sn_day_period, sn_grain_bound, sn_grain_looks, sn_grain_how, sn_grain_day, sn_grain_spares, sn_grain_late, sn_grain_again, sn_grain_period, sn_spares_bound, sn_spares_looks, sn_spares_how, sn_spares_day, sn_spares_grain, sn_spares_late, sn_spares_again, sn_spares_period, sn_late_bound, sn_late_looks, sn_late_how, sn_late_day, sn_late_grain, sn_late_spares, sn_late_again, sn_late_period, sn_again_bound, sn_again_looks, sn_again_how, sn_again_day, sn_again_grain, sn_again_spares, sn_again_late, sn_again_period, sn_period_bound, sn_period_looks, sn_period_how, sn_period_day, sn_period_grain, sn_period_spares, sn_period_late, sn_period_again, sn_above_from, sn_from_above, pk_how, pd_how, pk_day, pd_day, pk_grain, pd_grain, pk_spares, pd_spares, pk_late, pd_late, pk_again, pd_again, pk_period, pd_period, rk_bound, rd_bound, gd_bound, rk_looks, rd_looks, gd_looks, rk_how, rd_how, gd_how, rk_day, rd_day, gd_day, rk_grain, rd_grain, gd_grain, rk_spares, rd_spares, gd_spares, rk_late, rd_late, gd_late, rk_again, rd_again, gd_again, rk_period, rd_period, gd_period, mk_k, mk_d, nod6, nod3l, nod2b, $ls,*])
structure Pts where
  bd : Int
  lk : List Str
  hw : Str
  dy : Int
  gr : Int
  sp : Bool
  la : Int
  ag : Bool
  pe : Int
structure PtsOk (p : Pts) : Prop where
  bd0 : 0 ≤ p.bd
  bd1 : p.bd ≤ 1000000000000
  lk : p.lk ∈ looksL
  hw : p.hw = "above" ∨ p.hw = "from"
  dy0 : 1 ≤ p.dy
  dy1 : p.dy ≤ 1000000000
  gr0 : 1 ≤ p.gr
  gr1 : p.gr ≤ 1000000
  la0 : 0 ≤ p.la
  la1 : p.la ≤ 1000000000
  pe0 : 1 ≤ p.pe
  pe1 : p.pe ≤ 1000000000
def Pts.vs (p : Pts) : List D := [.int p.bd, loD false p.lk, .str p.hw, .int p.dy, .int p.gr, .bl p.sp, .int p.la, .bl p.ag, .int p.pe]
def Pts.o (p : Pts) : O1 := .dct ([Sum.inr "bound", Sum.inr "looks", Sum.inr "how", Sum.inr "day", Sum.inr "grain", Sum.inr "spares", Sum.inr "late", Sum.inr "again", Sum.inr "period"] : List Key) p.vs
def Pts.bk (p : Pts) : D := bookG p.bd (loD false p.lk) p.hw p.dy p.gr p.sp p.la p.ag p.pe
theorem int_between {x lo hi : Int} (h1 : lo ≤ x) (h2 : x ≤ hi) : m_is_between [.va (.int x), .va (.int lo), .va (.int hi)] = some (.va (.bl true), [.va (.int x), .va (.int lo), .va (.int hi)]) := by
  have := between_spec (d := .int x) lo hi rfl
  rw [show isBt (.int x) lo hi = true by simp [isBt, h1, h2]] at this
  exact this
section
variable {p : Pts} (ok : PtsOk p)
include ok
end
section
variable {p : Pts} (ok : PtsOk p)
include ok
end
theorem source_spec (ns : List Int) (t : Nat) (ht : t < 1000) : ∃ a b, m__law_source [.va (.scr ns), .va (.int t)] = some (.ow (src a b), [.va (.scr ns), .va (.int t)]) ∧ SrcI a b := by
  have f3 : Int.natAbs 10 < 2 ^ 64 := by decide
  have f4 : (Int.natAbs 104729).log2 + (t : Int).natAbs.log2 < 1000000 := by
    have h1 := log2_b (x := (t : Int)) (k := 10) (by omega) (by omega) (by decide)
    have h2 : (Int.natAbs 104729).log2 < 40 := by decide
    omega
  have m1 : ∀ x : Int, 0 ≤ x % 2147483647 := fun x => Int.emod_nonneg x (by decide)
  have m2 : ∀ x : Int, x % 2147483647 < 2147483647 := fun x => Int.emod_lt_of_pos x (by decide)
  have main : ∀ c : Int, ∃ a b, SrcI a b ∧ ((if (if c < 0 then -c else c) < 1000000000000000000 then 0 else (if c < 0 then -c else c)) = a) ∧ (((if c < 0 then -c else c) % 2147483629 * 16807 + 104729 * (t : Int) + 11) % 2147483647 = b) := fun c =>
    ⟨_, _, ⟨by split <;> (try split) <;> omega, m1 _, m2 _⟩, rfl, rfl⟩
  unfold m__law_source src
  by_cases h : t < ns.length
  · have hat : atI ns (t : Int) = some ns[t] := by rw [atI_nat, List.getElem?_eq_getElem h]
    have hi : (t : Int) < (ns.length : Int) := by omega
    obtain ⟨a, b, hs, h1, h2⟩ := main ns[t]
    refine ⟨a, b, ?_, hs⟩
    subst h1 h2
    by_cases hc : (if ns[t] < 0 then -ns[t] else ns[t]) < 1000000000000000000
    · dsimp? [hi, hat, lgm3, f4, f3, Int.reduceLE, hc]
    · dsimp? [hi, hat, lgm3, f4, f3, Int.reduceLE, hc]
  · have hi : ¬ (t : Int) < (ns.length : Int) := by omega
    obtain ⟨a, b, hs, h1, h2⟩ := main 0
    refine ⟨a, b, ?_, hs⟩
    subst h1 h2
    dsimp? [hi, lgm3, f4, f3, Int.reduceLE, Int.lt_irrefl]
theorem always_mk : m_Rule_always [] = some (.va (ruleU .al), []) := by kernel_rfl
theorem never_mk : m_Rule_never [] = some (.va (ruleU .nev), []) := by kernel_rfl
theorem rule_init (k : Int) : m_Rule___init__ [.pw (.obj "Rule" [] []), .va (.str "seldom"), .va (.int k)] = some (.va .non, [.pw (.obj "Rule" ["own_word", "own_after"] [.va (.str "seldom"), .va (.int k)]), .va (.str "seldom"), .va (.int k)]) := by kernel_rfl
theorem seldom_mk {k : Int} (h1 : 1 ≤ k) (h2 : k ≤ 2000) : m_Rule_seldom [.va (.int k)] = some (.va (ruleU (.sel k)), [.va (.int k)]) := by
  have hb := int_between h1 h2
  unfold m_Rule_seldom
  dsimp? [hb, rule_init]
  rfl
set_option exponentiation.threshold 10000
section
variable (bd : Int) (lk : D) (hw : Str) (dy gr : Int) (sp : Bool) (la : Int) (ag : Bool) (pe : Int)
end
section
variable {B : Int} {ds : List D} {as : List Ar} (W : WayI B ds as) (ru : Ru) (hok : ru.ok) {p : Pts} (ok : PtsOk p)
include W hok ok
end
set_option exponentiation.threshold 10000
structure Fi where
  r : Int
  w : Int
  c : Int
  la : Int
  h : Bool
def Fi.vs (f : Fi) : List D := [.int f.r, .int f.w, .int f.c]
def Fi.tb (f : Fi) : O1 := .dct ([Sum.inr "read", Sum.inr "written", Sum.inr "changed"] : List Key) f.vs
def Fi.tbl (f : Fi) : D := .dct ([Sum.inr "read", Sum.inr "written", Sum.inr "changed"] : List Key) f.vs
def Fi.o (f : Fi) (ru : Ru) : O2 := .obj "File" ["rule", "own_held", "own_last", "own_table"] [.va (ruleU ru), .va (.bl f.h), .va (.int f.la), .ow f.tb]
def Fi.d (f : Fi) (ru : Ru) : D := .obj "File" ["rule", "own_held", "own_last", "own_table"] [ruleU ru, .bl f.h, .int f.la, f.tbl]
def Fi.at (f : Fi) (m : Str) : Int := if m = "read" then f.r else if m = "written" then f.w else f.c
def Fi.put (f : Fi) (m : Str) (v : Int) : Fi := if m = "read" then { f with r := v } else if m = "written" then { f with w := v } else { f with c := v }
theorem dg_read (f : Fi) : pDg [f.tbl, .str "read"] = some (.va (.int f.r)) := by kernel_rfl
theorem dg_written (f : Fi) : pDg [f.tbl, .str "written"] = some (.va (.int f.w)) := by kernel_rfl
theorem dg_changed (f : Fi) : pDg [f.tbl, .str "changed"] = some (.va (.int f.c)) := by kernel_rfl
theorem pfk_read : dPutK ([Sum.inr "read", Sum.inr "written", Sum.inr "changed"] : List Key) (Sum.inr "read") = ([Sum.inr "read", Sum.inr "written", Sum.inr "changed"] : List Key) := by decide +kernel
theorem pfk_written : dPutK ([Sum.inr "read", Sum.inr "written", Sum.inr "changed"] : List Key) (Sum.inr "written") = ([Sum.inr "read", Sum.inr "written", Sum.inr "changed"] : List Key) := by decide +kernel
theorem pfk_changed : dPutK ([Sum.inr "read", Sum.inr "written", Sum.inr "changed"] : List Key) (Sum.inr "changed") = ([Sum.inr "read", Sum.inr "written", Sum.inr "changed"] : List Key) := by decide +kernel
theorem pf_put (f : Fi) {m : Str} (hm : m ∈ (["read", "written", "changed"] : List Str)) (v : Int) : dPutK ([Sum.inr "read", Sum.inr "written", Sum.inr "changed"] : List Key) (Sum.inr m) = ([Sum.inr "read", Sum.inr "written", Sum.inr "changed"] : List Key) ∧ dPutD ([Sum.inr "read", Sum.inr "written", Sum.inr "changed"] : List Key) f.vs (Sum.inr m) (.int v) = (f.put m v).vs := by
  simp only [List.mem_cons, List.not_mem_nil, or_false] at hm
  rcases hm with rfl | rfl | rfl
  · exact ⟨pfk_read, by kernel_rfl⟩
  · exact ⟨pfk_written, by kernel_rfl⟩
  · exact ⟨pfk_changed, by kernel_rfl⟩
theorem mf_rule : (("rule" : Str) = "own_held") = False := eq_false (by decide +kernel)
theorem mf_rule2 : (("rule" : Str) = "own_last") = False := eq_false (by decide +kernel)
theorem mf_rule3 : (("rule" : Str) = "own_table") = False := eq_false (by decide +kernel)
theorem mf_held2 : (("own_held" : Str) = "own_last") = False := eq_false (by decide +kernel)
theorem mf_held3 : (("own_held" : Str) = "own_table") = False := eq_false (by decide +kernel)
theorem mf_last3 : (("own_last" : Str) = "own_table") = False := eq_false (by decide +kernel)
theorem fv_last (a b c d : Fv) : fvAt ["rule", "own_held", "own_last", "own_table"] [a, b, c, d] "own_last" = some c := by simp only [fvAt, mf_rule2, mf_held2, if_false, if_true]
theorem fv_table (a b c d : Fv) : fvAt ["rule", "own_held", "own_last", "own_table"] [a, b, c, d] "own_table" = some d := by simp only [fvAt, mf_rule3, mf_held3, mf_last3, if_false, if_true]
theorem fp_held (a b c d e : Fv) : fvPut ["rule", "own_held", "own_last", "own_table"] [a, b, c, d] "own_held" e = [a, e, c, d] := by simp only [fvPut, mf_rule, if_false, if_true]
theorem fp_last (a b c d e : Fv) : fvPut ["rule", "own_held", "own_last", "own_table"] [a, b, c, d] "own_last" e = [a, b, e, d] := by simp only [fvPut, mf_rule2, mf_held2, if_false, if_true]
theorem fp_table (a b c d e : Fv) : fvPut ["rule", "own_held", "own_last", "own_table"] [a, b, c, d] "own_table" e = [a, b, c, e] := by simp only [fvPut, mf_rule3, mf_held3, mf_last3, if_false, if_true]
theorem fd_rule (a b c d : D) : fldD ["rule", "own_held", "own_last", "own_table"] [a, b, c, d] "rule" = some a := rfl
theorem fd_last (a b c d : D) : fldD ["rule", "own_held", "own_last", "own_table"] [a, b, c, d] "own_last" = some c := rfl
theorem fd_table (a b c d : D) : fldD ["rule", "own_held", "own_last", "own_table"] [a, b, c, d] "own_table" = some d := rfl
def MoI (t : Int) : Prop := -1000000000000000000000000000000 ≤ t ∧ t ≤ 1000000000000000000000000000000
theorem sec_spec {t : Int} (h : MoI t) : m_seconds_of [.va (.int t)] = some (.va (.int t), [.va (.int t)]) := by
  have hb := int_between h.1 h.2
  have cw : clsL.contains "Moment" = true := by decide +kernel
  unfold m_seconds_of
  dsimp? [cw, hb]
def setsB (ru : Ru) (f : Fi) (t : Int) : Bool := match ru with
  | .al => true
  | .nev => false
  | .sel k => decide (f.r ≤ f.w) || decide (f.r ≤ f.c) || decide (k ≤ t - f.r)
theorem sets_spec (ru : Ru) (f : Fi) (t : Int) : m_Rule_sets [.va (ruleU ru), .va f.tbl, .va (.int t)] = some (.va (.bl (setsB ru f t)), [.va (ruleU ru), .va f.tbl, .va (.int t)]) := by
  have g1 := dg_read f
  have g2 := dg_written f
  have g3 := dg_changed f
  unfold m_Rule_sets setsB ruleU
  generalize f.tbl = tb at *
  cases ru with
  | al => dsimp? [fld_word, Ru.word, so_always, so_seldom, sn_always_seldom]
  | nev => dsimp? [fld_word, Ru.word, so_never, so_seldom, so_always, sn_never_seldom, sn_never_always]
  | sel k =>
    by_cases h1 : f.r ≤ f.w
    · dsimp? [fld_word, fld_after, Ru.word, Ru.after, so_seldom, g1, g2, g3, h1]
    · by_cases h2 : f.r ≤ f.c
      · dsimp? [fld_word, fld_after, Ru.word, Ru.after, so_seldom, g1, g2, g3, h1, h2]
      · dsimp? [fld_word, fld_after, Ru.word, Ru.after, so_seldom, g1, g2, g3, h1, h2]
        try rfl
def Fi.puts (f : Fi) (s : List (Str × Int)) (t : Int) : Fi := s.foldl (fun f p => f.put p.1 (t - p.2)) f
def Ok3 (s : List (Str × Int)) : Prop := ∀ p ∈ s, p.1 ∈ (["read", "written", "changed"] : List Str) ∧ PyData.strOk p.1 = true
end Ag
namespace Ag
open PySem
local macro_rules | `(tactic| push_cast [$ls,*]) => `(tactic| simp -implicitDefEqProofs only [xFz_e, xUp_e, xVar_f, xC_e, xNil_e, xCons_e, xPr_e, xB_e, xAnd_e, xOr_e, xNot_e, xOfB_e, xIfE_e, xYes_e, xChain_f, chB_b, xSet_e, xDrop_e, xRet_e, xRetN_e, xRetV_e, xNx_e, xBk_e, xCt_e, xNever_e, xIf_e, xSeq_e, gNm_e, gTp_e, gsNil_e, gsCons_e, xAsg_e, xPar_e, xFor_e, xItL_e, xItT_e, xItR1_e, xItR2_e, xItE_e, xItEt_e, gPutD_e, fnM_e, xCall_e, xMt_e, xPrp_e, xFld_e, xBor_e, xBorV_e, xBorT_e, xCallM_e, xMtM_e, xMk_e, qVar_e, qC_e, xIxP_e, xPutP_e, xInP_e, xApp_e, xExt_e, xFldS_e, xFS_e, xLc_e, xSl_e, xStar_e, xIsi_e, xIsi2_e, xO2_e, xLenO_e, xEqO_e, xDict0_e, xAndV_e, xOrV_e, bnd_some, bnd_none, xeNo_e, mkO_e, xAllL_n, xAllL_c, xMtT_e, xFnT2_e, xDict0T_e, xDisp_e, xGet2_e, xMkR_e, xMkS_e, xMkK_e, xDUp_e, xMv_e, xItK_e, xItI_e, xKl_e, xKb_e, xFr_e, killO_nx, killO_rt, killO_bk, killO_ct, killB_nx, killB_rt, killB_bk, killB_ct, klM_n, klM_t, klM_f, kill_pw, kill_ow, kill_va, kill_no, frE_z, frE_s, frz_pw, frz_ow, frz_va, frz_no, Option.bind_some, Option.bind_none, List.getElem?_cons_zero, List.getElem?_cons_succ, List.getElem?_nil, List.set_cons_zero, List.set_cons_succ, List.map_cons, List.map_nil, List.length_cons, List.length_nil, List.cons_append, List.nil_append, List.replicate_succ, List.replicate_zero, viewE, view_va, view_ow, view_no, view_pw, fz_va, fz_ow, fz_no, fz_pw, own_va, own_ow, own_no, own_pw, ofz_1, ofz_2, o1_l, o1_d, o1_t, fvz_v, fvz_o, putS_e, putR, np_no, np_va, np_ow, np_pw, np_view, freeS_e, Option.map_some, Option.map_none, Option.getD_some, Option.getD_none, pEq_i, pNe_i, pInT_e, pNinT_e, pIsN_e, pNotN_e, pIsB_e, pNotB_e, fl_n, fl_i, fl_s, fl_b, isN_n, isN_i, isN_t, isN_s, isN_b, isN_l, ownAt, reAt, pinned, leafAt, setLeaf, getO, putO, isLst, List.any_cons, List.any_nil, Bool.or_true, Bool.true_or, Bool.or_false, Bool.false_or, Bool.not_true, Bool.not_false, Bool.and_true, Bool.true_and, Bool.and_false, Bool.false_and, D.flat, D.flatL, D.leaf, Sl.leaf, O1.leaf, O2.leaf, Fv.leaf, wipeE, List.all_cons, List.all_nil, if_true, if_false, ite_true, ite_false, reduceIte, Bool.false_eq_true, decide_true, decide_false, reduceCtorEq, and_self, true_and, and_true, and_false, false_and, ixN_lit, ixN_nat, atI_nat, pLst_e, pTup_e, Nat.reduceAdd, Nat.reduceLT, Nat.reduceLeDiff, Nat.lt_add_left_iff_pos, Nat.zero_lt_succ, pPow_e, Int.reducePow, Int.reduceToNat, Int.reduceLT, not_true_eq_false, not_false_eq_true, pAdd_e, pSub_e, pLt_e, pLe_e, pGt_e, pGe_e, pNeg_e, pMul_e, pDiv_e, pMod_e, pAbs_e, pInt_e, pMax2_e, pMin2_e, pLenL_e, pLenS_e, pLenT_e, pIxL_e, pIxS_e, pIxT_e, atI_lit, ge_iff_le, gt_iff_lt, $ls,*])
local macro_rules | `(tactic| dsimp! [$ls,*]) => `(tactic| (push_cast [$ls,*]; repeat (with_reducible refine res_step ?_; push_cast [$ls,*])))
local macro_rules | `(tactic| simp_all! [$ls,*]) => `(tactic| dsimp! [isD_non_int, isD_non_bool, isD_non_str, isD_non_list, isD_non_tuple, isD_non_dict, isD_non_o, isD_bl_int, isD_bl_bool, isD_bl_str, isD_bl_list, isD_bl_tuple, isD_bl_dict, isD_bl_o, isD_int_int, isD_int_bool, isD_int_str, isD_int_list, isD_int_tuple, isD_int_dict, isD_int_o, isD_str_int, isD_str_bool, isD_str_str, isD_str_list, isD_str_tuple, isD_str_dict, isD_str_o, isD_scr_int, isD_scr_bool, isD_scr_str, isD_scr_list, isD_scr_tuple, isD_scr_dict, isD_scr_o, isD_lst_int, isD_lst_bool, isD_lst_str, isD_lst_list, isD_lst_tuple, isD_lst_dict, isD_lst_o, isD_tup_int, isD_tup_bool, isD_tup_str, isD_tup_list, isD_tup_tuple, isD_tup_dict, isD_tup_o, isD_dct_int, isD_dct_bool, isD_dct_str, isD_dct_list, isD_dct_tuple, isD_dct_dict, isD_dct_o, isD_dcT_int, isD_dcT_bool, isD_dcT_str, isD_dcT_list, isD_dcT_tuple, isD_dcT_dict, isD_dcT_o, isD_obj_o, $ls,*])
local macro_rules | `(tactic| walk_at "rb") => `(tactic| repeat (with_reducible refine res_bind ?_))
local macro_rules | `(tactic| dsimp? [$ls,*]) => `(tactic| simp_all! [pEq_c, pNe_c, natc, Int.reduceBEq, Int.reduceEq, D.pl, D.pls, D.eqv, D.eqvs, beq_self_eq_true, so_make, so_unpack, so_read, so_write, so_rename, so_touch, so_setback, so_e, so_held, so_anew, sn_make_unpack, sn_make_read, sn_make_write, sn_make_rename, sn_make_touch, sn_make_setback, sn_unpack_make, sn_unpack_read, sn_unpack_write, sn_unpack_rename, sn_unpack_touch, sn_unpack_setback, sn_read_make, sn_read_unpack, sn_read_write, sn_read_rename, sn_read_touch, sn_read_setback, sn_write_make, sn_write_unpack, sn_write_read, sn_write_rename, sn_write_touch, sn_write_setback, sn_rename_make, sn_rename_unpack, sn_rename_read, sn_rename_write, sn_rename_touch, sn_rename_setback, sn_touch_make, sn_touch_unpack, sn_touch_read, sn_touch_write, sn_touch_rename, sn_touch_setback, sn_setback_make, sn_setback_unpack, sn_setback_read, sn_setback_write, sn_setback_rename, sn_setback_touch, sn_e_held, sn_e_anew, sn_held_e, sn_held_anew, sn_anew_e, sn_anew_held, $ls,*])
local macro_rules | `(tactic| simp_all? [$ls,*]) => `(tactic| dsimp? [key_s, so_bound, so_looks, so_how, so_day, so_grain, so_spares, so_late, so_again, so_period, so_above, so_from, sn_bound_looks, sn_bound_how, sn_bound_day, sn_bound_grain, sn_bound_spares, sn_bound_late, sn_bound_again, sn_bound_period, sn_looks_bound, sn_looks_how, sn_looks_day, sn_looks_grain, sn_looks_spares, sn_looks_late, sn_looks_again, sn_looks_period, sn_how_bound, sn_how_looks, sn_how_day, sn_how_grain, sn_how_spares, sn_how_late, sn_how_again, sn_how_period, sn_day_bound, sn_day_looks, sn_day_how, sn_day_grain, sn_day_spares, sn_day_late, sn_day_again, sn_day_period, sn_grain_bound, sn_grain_looks, sn_grain_how, sn_grain_day, sn_grain_spares, sn_grain_late, sn_grain_again, sn_grain_period, sn_spares_bound, sn_spares_looks, sn_spares_how, sn_spares_day, sn_spares_grain, sn_spares_late, sn_spares_again, sn_spares_period, sn_late_bound, sn_late_looks, sn_late_how, sn_late_day, sn_late_grain, sn_late_spares, sn_late_again, sn_late_period, sn_again_bound, sn_again_looks, sn_again_how, sn_again_day, sn_again_grain, sn_again_spares, sn_again_late, sn_again_period, sn_period_bound, sn_period_looks, sn_period_how, sn_period_day, sn_period_grain, sn_period_spares, sn_period_late, sn_period_again, sn_above_from, sn_from_above, pk_how, pd_how, pk_day, pd_day, pk_grain, pd_grain, pk_spares, pd_spares, pk_late, pd_late, pk_again, pd_again, pk_period, pd_period, rk_bound, rd_bound, gd_bound, rk_looks, rd_looks, gd_looks, rk_how, rd_how, gd_how, rk_day, rd_day, gd_day, rk_grain, rd_grain, gd_grain, rk_spares, rd_spares, gd_spares, rk_late, rd_late, gd_late, rk_again, rd_again, gd_again, rk_period, rd_period, gd_period, mk_k, mk_d, nod6, nod3l, nod2b, $ls,*])
def Pos1 (as : List Ar) : Prop := ∀ a ∈ as, ∀ m, a.m = some m → 1 ≤ m
theorem Pos1.pos {as : List Ar} (h : Pos1 as) : PosA as := fun a ha m e => Int.le_trans (by decide) (h a ha m e)
section
variable {rd : Nat → Bool} {into : Nat → List Ar} {k : Int}
end
end Ag
set_option exponentiation.threshold 10000
namespace Ag
open PySem L2
local macro_rules | `(tactic| push_cast [$ls,*]) => `(tactic| simp -implicitDefEqProofs only [xFz_e, xUp_e, xVar_f, xC_e, xNil_e, xCons_e, xPr_e, xB_e, xAnd_e, xOr_e, xNot_e, xOfB_e, xIfE_e, xYes_e, xChain_f, chB_b, xSet_e, xDrop_e, xRet_e, xRetN_e, xRetV_e, xNx_e, xBk_e, xCt_e, xNever_e, xIf_e, xSeq_e, gNm_e, gTp_e, gsNil_e, gsCons_e, xAsg_e, xPar_e, xFor_e, xItL_e, xItT_e, xItR1_e, xItR2_e, xItE_e, xItEt_e, gPutD_e, fnM_e, xCall_e, xMt_e, xPrp_e, xFld_e, xBor_e, xBorV_e, xBorT_e, xCallM_e, xMtM_e, xMk_e, qVar_e, qC_e, xIxP_e, xPutP_e, xInP_e, xApp_e, xExt_e, xFldS_e, xFS_e, xLc_e, xSl_e, xStar_e, xIsi_e, xIsi2_e, xO2_e, xLenO_e, xEqO_e, xDict0_e, xAndV_e, xOrV_e, bnd_some, bnd_none, xeNo_e, mkO_e, xAllL_n, xAllL_c, xMtT_e, xFnT2_e, xDict0T_e, xDisp_e, xGet2_e, xMkR_e, xMkS_e, xMkK_e, xDUp_e, xMv_e, xItK_e, xItI_e, xKl_e, xKb_e, xFr_e, killO_nx, killO_rt, killO_bk, killO_ct, killB_nx, killB_rt, killB_bk, killB_ct, klM_n, klM_t, klM_f, kill_pw, kill_ow, kill_va, kill_no, frE_z, frE_s, frz_pw, frz_ow, frz_va, frz_no, Option.bind_some, Option.bind_none, List.getElem?_cons_zero, List.getElem?_cons_succ, List.getElem?_nil, List.set_cons_zero, List.set_cons_succ, List.map_cons, List.map_nil, List.length_cons, List.length_nil, List.cons_append, List.nil_append, List.replicate_succ, List.replicate_zero, viewE, view_va, view_ow, view_no, view_pw, fz_va, fz_ow, fz_no, fz_pw, own_va, own_ow, own_no, own_pw, ofz_1, ofz_2, o1_l, o1_d, o1_t, fvz_v, fvz_o, putS_e, putR, np_no, np_va, np_ow, np_pw, np_view, freeS_e, Option.map_some, Option.map_none, Option.getD_some, Option.getD_none, pEq_i, pNe_i, pInT_e, pNinT_e, pIsN_e, pNotN_e, pIsB_e, pNotB_e, fl_n, fl_i, fl_s, fl_b, isN_n, isN_i, isN_t, isN_s, isN_b, isN_l, ownAt, reAt, pinned, leafAt, setLeaf, getO, putO, isLst, List.any_cons, List.any_nil, Bool.or_true, Bool.true_or, Bool.or_false, Bool.false_or, Bool.not_true, Bool.not_false, Bool.and_true, Bool.true_and, Bool.and_false, Bool.false_and, D.flat, D.flatL, D.leaf, Sl.leaf, O1.leaf, O2.leaf, Fv.leaf, wipeE, List.all_cons, List.all_nil, if_true, if_false, ite_true, ite_false, reduceIte, Bool.false_eq_true, decide_true, decide_false, reduceCtorEq, and_self, true_and, and_true, and_false, false_and, ixN_lit, ixN_nat, atI_nat, pLst_e, pTup_e, Nat.reduceAdd, Nat.reduceLT, Nat.reduceLeDiff, Nat.lt_add_left_iff_pos, Nat.zero_lt_succ, pPow_e, Int.reducePow, Int.reduceToNat, Int.reduceLT, not_true_eq_false, not_false_eq_true, pAdd_e, pSub_e, pLt_e, pLe_e, pGt_e, pGe_e, pNeg_e, pMul_e, pDiv_e, pMod_e, pAbs_e, pInt_e, pMax2_e, pMin2_e, pLenL_e, pLenS_e, pLenT_e, pIxL_e, pIxS_e, pIxT_e, atI_lit, ge_iff_le, gt_iff_lt, $ls,*])
local macro_rules | `(tactic| dsimp! [$ls,*]) => `(tactic| (push_cast [$ls,*]; repeat (with_reducible refine res_step ?_; push_cast [$ls,*])))
local macro_rules | `(tactic| simp_all! [$ls,*]) => `(tactic| dsimp! [isD_non_int, isD_non_bool, isD_non_str, isD_non_list, isD_non_tuple, isD_non_dict, isD_non_o, isD_bl_int, isD_bl_bool, isD_bl_str, isD_bl_list, isD_bl_tuple, isD_bl_dict, isD_bl_o, isD_int_int, isD_int_bool, isD_int_str, isD_int_list, isD_int_tuple, isD_int_dict, isD_int_o, isD_str_int, isD_str_bool, isD_str_str, isD_str_list, isD_str_tuple, isD_str_dict, isD_str_o, isD_scr_int, isD_scr_bool, isD_scr_str, isD_scr_list, isD_scr_tuple, isD_scr_dict, isD_scr_o, isD_lst_int, isD_lst_bool, isD_lst_str, isD_lst_list, isD_lst_tuple, isD_lst_dict, isD_lst_o, isD_tup_int, isD_tup_bool, isD_tup_str, isD_tup_list, isD_tup_tuple, isD_tup_dict, isD_tup_o, isD_dct_int, isD_dct_bool, isD_dct_str, isD_dct_list, isD_dct_tuple, isD_dct_dict, isD_dct_o, isD_dcT_int, isD_dcT_bool, isD_dcT_str, isD_dcT_list, isD_dcT_tuple, isD_dcT_dict, isD_dcT_o, isD_obj_o, $ls,*])
local macro_rules | `(tactic| walk_at "rb") => `(tactic| repeat (with_reducible refine res_bind ?_))
local macro_rules | `(tactic| dsimp? [$ls,*]) => `(tactic| simp_all! [pEq_c, pNe_c, natc, Int.reduceBEq, Int.reduceEq, D.pl, D.pls, D.eqv, D.eqvs, beq_self_eq_true, so_make, so_unpack, so_read, so_write, so_rename, so_touch, so_setback, so_e, so_held, so_anew, sn_make_unpack, sn_make_read, sn_make_write, sn_make_rename, sn_make_touch, sn_make_setback, sn_unpack_make, sn_unpack_read, sn_unpack_write, sn_unpack_rename, sn_unpack_touch, sn_unpack_setback, sn_read_make, sn_read_unpack, sn_read_write, sn_read_rename, sn_read_touch, sn_read_setback, sn_write_make, sn_write_unpack, sn_write_read, sn_write_rename, sn_write_touch, sn_write_setback, sn_rename_make, sn_rename_unpack, sn_rename_read, sn_rename_write, sn_rename_touch, sn_rename_setback, sn_touch_make, sn_touch_unpack, sn_touch_read, sn_touch_write, sn_touch_rename, sn_touch_setback, sn_setback_make, sn_setback_unpack, sn_setback_read, sn_setback_write, sn_setback_rename, sn_setback_touch, sn_e_held, sn_e_anew, sn_held_e, sn_held_anew, sn_anew_e, sn_anew_held, $ls,*])
local macro_rules | `(tactic| simp_all? [$ls,*]) => `(tactic| dsimp? [key_s, so_bound, so_looks, so_how, so_day, so_grain, so_spares, so_late, so_again, so_period, so_above, so_from, sn_bound_looks, sn_bound_how, sn_bound_day, sn_bound_grain, sn_bound_spares, sn_bound_late, sn_bound_again, sn_bound_period, sn_looks_bound, sn_looks_how, sn_looks_day, sn_looks_grain, sn_looks_spares, sn_looks_late, sn_looks_again, sn_looks_period, sn_how_bound, sn_how_looks, sn_how_day, sn_how_grain, sn_how_spares, sn_how_late, sn_how_again, sn_how_period, sn_day_bound, sn_day_looks, sn_day_how, sn_day_grain, sn_day_spares, sn_day_late, sn_day_again, sn_day_period, sn_grain_bound, sn_grain_looks, sn_grain_how, sn_grain_day, sn_grain_spares, sn_grain_late, sn_grain_again, sn_grain_period, sn_spares_bound, sn_spares_looks, sn_spares_how, sn_spares_day, sn_spares_grain, sn_spares_late, sn_spares_again, sn_spares_period, sn_late_bound, sn_late_looks, sn_late_how, sn_late_day, sn_late_grain, sn_late_spares, sn_late_again, sn_late_period, sn_again_bound, sn_again_looks, sn_again_how, sn_again_day, sn_again_grain, sn_again_spares, sn_again_late, sn_again_period, sn_period_bound, sn_period_looks, sn_period_how, sn_period_day, sn_period_grain, sn_period_spares, sn_period_late, sn_period_again, sn_above_from, sn_from_above, pk_how, pd_how, pk_day, pd_day, pk_grain, pd_grain, pk_spares, pd_spares, pk_late, pd_late, pk_again, pd_again, pk_period, pd_period, rk_bound, rd_bound, gd_bound, rk_looks, rd_looks, gd_looks, rk_how, rd_how, gd_how, rk_day, rd_day, gd_day, rk_grain, rd_grain, gd_grain, rk_spares, rd_spares, gd_spares, rk_late, rd_late, gd_late, rk_again, rd_again, gd_again, rk_period, rd_period, gd_period, mk_k, mk_d, nod6, nod3l, nod2b, $ls,*])
theorem setD_make (al : Bool) : setD al (.tup false [.str "make"]) = [(("read" : Str), 0), (("written" : Str), 0), (("changed" : Str), 0)] := by kernel_rfl
theorem setD_unpack (al : Bool) (t : Int) : setD al (.tup false [.str "unpack", .int t]) = [(("read" : Str), 0), (("written" : Str), t), (("changed" : Str), 0)] := by kernel_rfl
theorem setD_read (al : Bool) : setD al (.tup false [.str "read"]) = if al = true then [(("read" : Str), 0)] else [] := by cases al <;> kernel_rfl
theorem setD_write (al : Bool) : setD al (.tup false [.str "write"]) = [(("written" : Str), 0), (("changed" : Str), 0)] := by kernel_rfl
theorem setD_rename (al : Bool) : setD al (.tup false [.str "rename"]) = [(("changed" : Str), 0)] := by kernel_rfl
theorem setD_touch (al : Bool) : setD al (.tup false [.str "touch"]) = [(("read" : Str), 0), (("written" : Str), 0), (("changed" : Str), 0)] := by kernel_rfl
theorem setD_setback (al : Bool) (t : Int) : setD al (.tup false [.str "setback", .int t]) = [(("read" : Str), t), (("written" : Str), t), (("changed" : Str), 0)] := by kernel_rfl
theorem nd_cases {B : Int} {p : D → Prop} (h1 : p (.tup false [.str "make"])) (h2 : ∀ t : Int, 1 ≤ t → t ≤ B → p (.tup false [.str "unpack", .int t])) (h3 : p (.tup false [.str "read"])) (h4 : p (.tup false [.str "write"])) (h5 : p (.tup false [.str "rename"])) (h6 : p (.tup false [.str "touch"]))
    (h7 : ∀ t : Int, 1 ≤ t → t ≤ B → p (.tup false [.str "setback", .int t])) {d : D} (h : Nd B d) : p d := by
  rcases h with (rfl | ⟨t, t1, t2, rfl⟩) | h | ⟨t, t1, t2, rfl⟩
  · exact h1
  · exact h2 t t1 t2
  · simp only [List.mem_cons, List.not_mem_nil, or_false] at h
    rcases h with rfl | rfl | rfl | rfl
    · exact h3
    · exact h4
    · exact h5
    · exact h6
  · exact h7 t t1 t2
section
variable {B M : Int} {n : Nat} {ds : List D} {as : List Ar} (pl : PlanI B M n ds as)
include pl
variable (ru : Ru) (hok : ru.ok) (hn : n ≤ 12)
include hok hn
end
set_option exponentiation.threshold 10000
def prD (p : Str × Int) : D := .tup false [.str p.1, .int p.2]
theorem zip_s (s : List (Str × Int)) : (((s.map fun p => (Sum.inr p.1 : Key)).zip (s.map fun p => D.int p.2)).map fun q => D.tup false [kyD q.1, q.2]) = s.map prD := by
  induction s with
  | nil => rfl
  | cons p r ih =>
    rw [List.map_cons, List.map_cons, List.zip_cons_cons, List.map_cons, ih]
    rfl
theorem put_h (f : Fi) (m : Str) (v : Int) : (f.put m v).h = f.h := by unfold Fi.put; split; rfl; split <;> rfl
theorem put_la (f : Fi) (m : Str) (v : Int) : (f.put m v).la = f.la := by unfold Fi.put; split; rfl; split <;> rfl
theorem do_loop (ru : Ru) (t : Int) (s1 : Sl) (s4 : Sl) : ∀ (s : List (Str × Int)) (f : Fi), Ok3 s →
    loopM (gTp 2 (gsCons (gNm 5) (gsCons (gNm 6) gsNil))) b1_File_do (s.map prD) [.pw (f.o ru), s1, .no, .va (.int t), s4, .no, .no] = some (.nx [.pw ((f.puts s t).o ru), s1, .no, .va (.int t), s4, .no, .no]) := fun s f hs => by
  refine (loop_foldI (f := prD) (fun f : Fi => [.pw (f.o ru), s1, .no, .va (.int t), s4, .no, .no]) (fun f p => f.put p.1 (t - p.2)) (fun _ => True) (xs := s) (s := f) trivial fun f p hp _ => ⟨?_, trivial⟩).1
  obtain ⟨h1, h2⟩ := hs p hp
  obtain ⟨k1, k2⟩ := pf_put f h1 (t - p.2)
  unfold b1_File_do Fi.o Fi.tb prD
  have p1 := put_h f p.1 (t - p.2)
  have p2 := put_la f p.1 (t - p.2)
  dsimp? [fv_table, fp_table, key_s, k1, k2, p1, p2, List.length_cons, List.length_nil]
theorem ok3_set {B : Int} (al : Bool) {d : D} (h : Nd B d) : Ok3 (setD al d) := by
  have three : ∀ m ∈ (["read", "written", "changed"] : List Str), PyData.strOk m = true := by decide +kernel
  intro p hp
  have key : p.1 ∈ (["read", "written", "changed"] : List Str) := by
    revert p
    refine nd_cases (B := B) (p := fun d => ∀ p ∈ setD al d, p.1 ∈ (["read", "written", "changed"] : List Str)) ?_ (fun t t1 t2 => ?_) ?_ ?_ ?_ ?_ (fun t t1 t2 => ?_) h
    · rw [setD_make]; intro p hp; simp only [List.mem_cons, List.not_mem_nil, or_false] at hp; rcases hp with rfl | rfl | rfl <;> simp
    · rw [setD_unpack]; intro p hp; simp only [List.mem_cons, List.not_mem_nil, or_false] at hp; rcases hp with rfl | rfl | rfl <;> simp
    · rw [setD_read]; intro p hp
      cases al with
      | true => simp at hp; subst hp; simp
      | false => simp at hp
    · rw [setD_write]; intro p hp; simp only [List.mem_cons, List.not_mem_nil, or_false] at hp; rcases hp with rfl | rfl <;> simp
    · rw [setD_rename]; intro p hp; simp only [List.mem_cons, List.not_mem_nil, or_false] at hp; rcases hp with rfl; simp
    · rw [setD_touch]; intro p hp; simp only [List.mem_cons, List.not_mem_nil, or_false] at hp; rcases hp with rfl | rfl | rfl <;> simp
    · rw [setD_setback]; intro p hp; simp only [List.mem_cons, List.not_mem_nil, or_false] at hp; rcases hp with rfl | rfl | rfl <;> simp
  exact ⟨key, three _ key⟩
theorem backs_read : m_backs [.va (.tup false [.str "read"])] = some (.ow (.o1 (.dct [] [])), [.va (.tup false [.str "read"])]) := by kernel_rfl
theorem backs_all {B : Int} {d : D} (hB : B ≤ 1000000000) (h : Nd B d) : m_backs [.va d] = some (.ow (.o1 (dctO (setD false d))), [.va d]) := by
  by_cases hr : d = .tup false [.str "read"]
  · subst hr
    rw [setD_read]
    exact backs_read
  · exact backs_spec hB h false hr
def setF (ru : Ru) (f : Fi) (d : D) (t : Int) : List (Str × Int) := if (isRd d && setsB ru f t) = true then [("read", 0)] else setD false d
def doF (ru : Ru) (f : Fi) (d : D) (t : Int) : Fi := { f.puts (setF ru f d t) t with la := t, h := if mkB d = true then false else (f.puts (setF ru f d t) t).h }
theorem bo_sets : (("sets" : Str) ∈ (["own_word", "own_after"] : List Str)) = False := eq_false (by decide +kernel)
theorem do_spec {B : Int} {d : D} (hB : B ≤ 1000000000) (h : Nd B d) (ru : Ru) (f : Fi) {t : Int} (ht : MoI t) (hl : f.la < t) :
    ∃ x, m_File_do [.pw (f.o ru), .va d, .va (.int t)] = some (x, [.pw ((doF ru f d t).o ru), .va d, .va (.int t)]) := by
  have hd := deed_spec hB h
  have hs := sec_spec ht
  have hb := backs_all hB h
  have hst := sets_spec ru f t
  have hm := makes_spec hB h
  have hle : ¬ t ≤ f.la := by omega
  have hok := ok3_set false h
  have hlp1 := do_loop ru t (.va d) (.va (.dct ((setD false d).map fun p => Sum.inr p.1) ((setD false d).map fun p => .int p.2))) (setD false d) f hok
  have hlp2 := do_loop ru t (.va d) (.va (.dct [Sum.inr "read"] [.int 0])) [(("read" : Str), 0)] f (fun p hp => by cases List.mem_singleton.mp hp; decide +kernel)
  simp only [List.map_cons, List.map_nil] at hlp2
  have hz := zip_s (setD false d)
  obtain ⟨rr, hdr⟩ := nd_head h
  have hq := pEq_s (so_hd h) so_read
  have hix : pIxT [d, .int 0] = some (.va (.str (hdS d))) := (fun d' (e : d' = D.tup false (.str (hdS d) :: rr)) => (by rw [e]; dsimp? [] : pIxT [d', .int 0] = some (.va (.str (hdS d))))) d hdr
  have hrd : isRd d = (hdS d == "read") := rfl
  have hzl : ((setD false d).map fun p => (Sum.inr p.1 : Key)).length = (setD false d).length := List.length_map ..
  unfold m_File_do doF setF
  rw [hrd]
  unfold Fi.o Fi.tb at *
  cases hA : (hdS d == "read") with
  | false =>
    rw [hA] at hq
    cases hB2 : mkB d with
    | true =>
      rw [hB2] at hm
      dsimp? [hd, hs, hle, hb, hix, hq, hA, so_hd h, so_read, fd_last, dctO, hz]
      rw [hlp1]
      dsimp? [hm, fp_held, fp_last, fv_last]
      exact ⟨_, rfl⟩
    | false =>
      rw [hB2] at hm
      dsimp? [hd, hs, hle, hb, hix, hq, hA, so_hd h, so_read, fd_last, dctO, hz]
      rw [hlp1]
      dsimp? [hm, fp_held, fp_last, fv_last]
      exact ⟨_, rfl⟩
  | true =>
    rw [hA] at hq
    have hz2 : ((([Sum.inr "read"] : List Key).zip [D.int 0]).map fun q => D.tup false [kyD q.1, q.2]) = [(("read" : Str), (0 : Int))].map prD := rfl
    unfold Fi.tbl ruleU at hst
    unfold ruleU at *
    cases hS : setsB ru f t with
    | false =>
      rw [hS] at hst
      cases hB2 : mkB d with
      | true =>
        rw [hB2] at hm
        dsimp? [hd, hs, hle, hb, hix, hq, hA, so_hd h, so_read, fd_last, fd_rule, fd_table, bo_sets, hst, dctO, hz]
        rw [hlp1]
        dsimp? [hm, fp_held, fp_last, fv_last]
        exact ⟨_, rfl⟩
      | false =>
        rw [hB2] at hm
        dsimp? [hd, hs, hle, hb, hix, hq, hA, so_hd h, so_read, fd_last, fd_rule, fd_table, bo_sets, hst, dctO, hz]
        rw [hlp1]
        dsimp? [hm, fp_held, fp_last, fv_last]
        exact ⟨_, rfl⟩
    | true =>
      rw [hS] at hst
      cases hB2 : mkB d with
      | true =>
        rw [hB2] at hm
        dsimp? [hd, hs, hle, hb, hix, hq, hA, so_hd h, so_read, fd_last, fd_rule, fd_table, bo_sets, hst, dctO, nodr, hz2]
        rw [hlp2]
        dsimp? [hm, fp_held, fp_last, fv_last]
        exact ⟨_, rfl⟩
      | false =>
        rw [hB2] at hm
        dsimp? [hd, hs, hle, hb, hix, hq, hA, so_hd h, so_read, fd_last, fd_rule, fd_table, bo_sets, hst, dctO, nodr, hz2]
        rw [hlp2]
        dsimp? [hm, fp_held, fp_last, fv_last]
        exact ⟨_, rfl⟩
def newF (d : D) (t : Int) : Fi := { (⟨0, 0, 0, t, false⟩ : Fi).puts (setD false d) t with la := t, h := false }
theorem qk1 : dPutK ([] : List Key) (Sum.inr "read") = ([Sum.inr "read"] : List Key) := by decide +kernel
theorem qk2 : dPutK ([Sum.inr "read"] : List Key) (Sum.inr "written") = ([Sum.inr "read", Sum.inr "written"] : List Key) := by decide +kernel
theorem qk3 : dPutK ([Sum.inr "read", Sum.inr "written"] : List Key) (Sum.inr "changed") = ([Sum.inr "read", Sum.inr "written", Sum.inr "changed"] : List Key) := by decide +kernel
theorem qd1 (w : D) : dPutD ([] : List Key) [] (Sum.inr "read") w = [w] := by kernel_rfl
theorem qd2 (v w : D) : dPutD ([Sum.inr "read"] : List Key) [v] (Sum.inr "written") w = [v, w] := by kernel_rfl
theorem qd3 (u v w : D) : dPutD ([Sum.inr "read", Sum.inr "written"] : List Key) [u, v] (Sum.inr "changed") w = [u, v, w] := by kernel_rfl
theorem fi0_loop (ru : D) {d : D} {B : Int} (h : IsMk B d) (t : Int) (s2 : Sl) :
    loopM (gTp 2 (gsCons (gNm 5) (gsCons (gNm 6) gsNil))) b1_File___init__ ((setD false d).map prD) [.pw (.obj "File" ["rule", "own_held", "own_last", "own_table"] [.va ru, .va (.bl false), .va (.int t), .ow (.dct [] [])]), .no, s2, .no, .va (.int t), .no, .no] = some (.nx [.pw (.obj "File" ["rule", "own_held", "own_last", "own_table"] [.va ru, .va (.bl false), .va (.int t), .ow (newF d t).tb]), .no, s2, .no, .va (.int t), .no, .no]) := by
  have put1 : ∀ (f : Fi) (v : Int), f.put "read" v = { f with r := v } := fun f v => if_pos rfl
  have put2 : ∀ (f : Fi) (v : Int), f.put "written" v = { f with w := v } := fun f v => by unfold Fi.put; rw [if_neg (by decide +kernel), if_pos rfl]
  have put3 : ∀ (f : Fi) (v : Int), f.put "changed" v = { f with c := v } := fun f v => by unfold Fi.put; rw [if_neg (by decide +kernel), if_neg (by decide +kernel)]
  rcases h with rfl | ⟨b, _, _, rfl⟩
  · unfold newF Fi.puts Fi.tb Fi.vs
    rw [setD_make]
    simp only [List.map_cons, List.map_nil, prD, List.foldl_cons, List.foldl_nil, put1, put2, put3]
    unfold b1_File___init__
    dsimp? [loopM_c, loopM_n, fv_table, fp_table, key_s, qk1, qk2, qk3, qd1, qd2, qd3]
  · unfold newF Fi.puts Fi.tb Fi.vs
    rw [setD_unpack]
    simp only [List.map_cons, List.map_nil, prD, List.foldl_cons, List.foldl_nil, put1, put2, put3]
    unfold b1_File___init__
    dsimp? [loopM_c, loopM_n, fv_table, fp_table, key_s, qk1, qk2, qk3, qd1, qd2, qd3]
theorem file_init {B : Int} {d : D} (hB : B ≤ 1000000000) (h : IsMk B d) (ru : Ru) {t : Int} (ht : MoI t) :
    ∃ en, m_File___init__ [.pw (.obj "File" [] []), .va (ruleU ru), .va d, .va (.int t)] = some (.va .non, .pw ((newF d t).o ru) :: en) := by
  have hnd : Nd B d := .inl h
  have hc := check_r ru
  have hm := makes_spec hB hnd
  rw [(mk_head h).1] at hm
  have hs := sec_spec ht
  have hb := backs_all hB hnd
  have hz := zip_s (setD false d)
  have hlp := fi0_loop (ruleU ru) h t (.va d)
  have hh : (newF d t).h = false := rfl
  have hla : (newF d t).la = t := rfl
  unfold m_File___init__ Fi.o
  rw [hh, hla]
  generalize (newF d t).tb = tb at *
  dsimp? [hc, hm, hs, toFv, nmPut, fvPut, mf_rule, mf_rule2, mf_rule3, mf_held2, mf_held3, mf_last3, xItIO_e, hb, dctO, hz]
  rw [hlp]
  dsimp? []
  exact ⟨_, rfl⟩
set_option exponentiation.threshold 10000
theorem xRf_e (mt : Str → Str → Option Bool) (n : Nat) (fe : En → Option (Sl × En)) (l : List Hd) (m3 : En → Option Out) (bX : En → Option (Rs × En)) (e : En) : xRf mt n fe l m3 bX e = (@bnd _ _ (fe (List.replicate (n + 1) .no)) ⟨fun _ => (@bnd _ _ (bX e) ⟨fun p => match p.1 with
  | .ok _ => none
  | .er er => (@bnd _ _ (rfO mt n l m3 er) ⟨fun r => some (r, p.2)⟩)⟩)⟩) := rfl
theorem fe_ok : fe__law_refused [.no, .no, .no] = some (.ow (.o1 (.lst [])), [.no, .no, .no]) := by kernel_rfl
def ruK (k : Nat) (n : Int) : Ru := match k with
  | 0 => .al
  | 1 => .nev
  | _ => .sel n
theorem lrule2 {k : Nat} {n : Int} (h1 : 1 ≤ n) (h2 : n ≤ 2000) (hk : k < 3) : m__law_rule [.va (.str (ruK k n).word), .va (.int n)] = some (.va (ruleU (ruK k n)), [.va (.str (ruK k n).word), .va (.int n)]) := by
  match k, hk with
  | 0, _ =>
    unfold m__law_rule ruK Ru.word
    dsimp? [so_always, so_seldom, sn_always_seldom, always_mk]
  | 1, _ =>
    unfold m__law_rule ruK Ru.word
    dsimp? [so_always, so_never, so_seldom, sn_never_seldom, sn_never_always, never_mk]
  | 2, _ =>
    have := seldom_mk h1 h2
    unfold m__law_rule ruK Ru.word
    dsimp? [so_always, so_never, so_seldom, this]
theorem word_ok (ru : Ru) : m_Rule_word [.va (ruleU ru)] = some (.va (.str ru.word), [.va (ruleU ru)]) := by
  unfold m_Rule_word ruleU
  dsimp? [fld_word]
theorem after_ok (ru : Ru) : m_Rule_after [.va (ruleU ru)] = some (.va ru.after, [.va (ruleU ru)]) := by
  unfold m_Rule_after ruleU
  dsimp? [fld_after]
def momO (t : Int) : D := .obj "Moment" ["own_seconds"] [.int t]
theorem mom_mk {t : Int} (h : MoI t) : m_Moment___init__ [.pw (.obj "Moment" [] []), .va (.int t)] = some (.va .non, [.pw (.obj "Moment" ["own_seconds"] [.va (.int t)]), .va (.int t)]) := by
  have hb := int_between h.1 h.2
  unfold m_Moment___init__
  dsimp? [hb]
  rfl
theorem secs_ok (t : Int) : m_Moment_seconds [.va (momO t)] = some (.va (.int t), [.va (momO t)]) := by kernel_rfl
theorem subMM : subC "Moment" "Moment" = true := by decide +kernel
theorem sec_mom {t : Int} : m_seconds_of [.va (momO t)] = some (.va (.int t), [.va (momO t)]) := by
  have cw : clsL.contains "Moment" = true := by decide +kernel
  have := secs_ok t
  unfold m_seconds_of momO
  unfold momO at this
  dsimp? [cw, this, subMM]
theorem bo_setsR : (("sets" : Str) ∈ (["own_word", "own_after"] : List Str)) = False := eq_false (by decide +kernel)
theorem subFM : subC "File" "Marked" = true := by decide +kernel
theorem call_ok (ru rf : Ru) (f : Fi) {t : Int} (h : MoI t) : ∃ en, m_Rule___call__ [.va (ruleU ru), .va (f.d rf), .va (.int t)] = some (.va (.bl (setsB ru f t)), en) := by
  have cw : clsL.contains "File" = true := by decide +kernel
  have cm : clsL.contains "Marked" = true := by decide +kernel
  have h1 := sec_spec h
  have h2 := sets_spec ru f t
  unfold m_Rule___call__ Fi.d ruleU
  unfold ruleU at h2
  generalize f.tbl = tb at *
  dsimp? [cw, cm, subFM, h1, h2, fd_table, bo_setsR]
  exact ⟨_, rfl⟩
theorem call_mom (ru rf : Ru) (f : Fi) {t : Int} : ∃ en, m_Rule___call__ [.va (ruleU ru), .va (f.d rf), .va (momO t)] = some (.va (.bl (setsB ru f t)), en) := by
  have cw : clsL.contains "File" = true := by decide +kernel
  have cm : clsL.contains "Marked" = true := by decide +kernel
  have h1 := sec_mom (t := t)
  have h2 := sets_spec ru f t
  unfold m_Rule___call__ Fi.d ruleU
  unfold ruleU at h2
  generalize f.tbl = tb at *
  unfold momO at *
  dsimp? [cw, cm, subFM, h1, h2, fd_table, bo_setsR]
  exact ⟨_, rfl⟩
def erR (c : Str) (d : D) : Er := ⟨c, ["value"], [d]⟩
structure OddR (d : D) : Prop where
  x : ∃ en, x_Rule_seldom [.va d] = some (.er (erR "NoRule" d), en)
  r : ∃ s, reprL [d] = some s ∧ rfO (exOf exL) 2 l__law_refused r__law_refused (erR "NoRule" d) = some (.ow (.o1 (.lst [.str "rule", .str s, .bl true]))) ∧ pNeL [.lst [.str "rule", .str s, .bl true], .lst [.str "rule", .str s, .bl true]] = some (.va (.bl false))
def oddL : List D := [.int 0, .int (-1), .int 2001, .non, .bl true, .str "1", .lst [.int 1], .tup false [.int 1], .int 100000000000000000000]
theorem map1 {α β : Type} {o : Option (α × β)} {a : α} (h : o.map (·.1) = some a) : ∃ b, o = some (a, b) := by
  cases o with
  | none => cases h
  | some p => cases h; exact ⟨p.2, rfl⟩
theorem oddR_of {d : D} (s : Str) (h1 : (x_Rule_seldom [.va d]).map (·.1) = some (.er (erR "NoRule" d))) (h2 : reprL [d] = some s) (h3 : rfO (exOf exL) 2 l__law_refused r__law_refused (erR "NoRule" d) = some (.ow (.o1 (.lst [.str "rule", .str s, .bl true])))) (h4 : pNeL [.lst [.str "rule", .str s, .bl true], .lst [.str "rule", .str s, .bl true]] = some (.va (.bl false))) : OddR d := ⟨map1 h1, s, h2, h3, h4⟩
theorem oddR : ∀ d ∈ oddL, OddR d := by
  intro d hd
  simp only [oddL, List.mem_cons, List.not_mem_nil, or_false] at hd
  rcases hd with rfl | rfl | rfl | rfl | rfl | rfl | rfl | rfl | rfl
  · exact oddR_of "0" (by kernel_rfl) (by kernel_rfl) (by kernel_rfl) (by kernel_rfl)
  · exact oddR_of "-1" (by kernel_rfl) (by kernel_rfl) (by kernel_rfl) (by kernel_rfl)
  · exact oddR_of "2001" (by kernel_rfl) (by kernel_rfl) (by kernel_rfl) (by kernel_rfl)
  · exact oddR_of "None" (by kernel_rfl) (by kernel_rfl) (by kernel_rfl) (by kernel_rfl)
  · exact oddR_of "True" (by kernel_rfl) (by kernel_rfl) (by kernel_rfl) (by kernel_rfl)
  · exact oddR_of "'1'" (by kernel_rfl) (by kernel_rfl) (by kernel_rfl) (by kernel_rfl)
  · exact oddR_of "[1]" (by kernel_rfl) (by kernel_rfl) (by kernel_rfl) (by kernel_rfl)
  · exact oddR_of "(1,)" (by kernel_rfl) (by kernel_rfl) (by kernel_rfl) (by kernel_rfl)
  · exact oddR_of "100000000000000000000" (by kernel_rfl) (by kernel_rfl) (by kernel_rfl) (by kernel_rfl)
def wrongL : List D := [.non, .bl true, .str "1", .lst [.int 1], .tup false [.int 1], .int 1000000000000000000000000000001, .dct [] []]
structure WrongR (d : D) : Prop where
  s : ∃ en, m_seconds_of [.va d] = some (.va .non, en)
  f : xIsi clsL subC (.o "Marked") (xFz (xVar 0)) [.va d] = some (.bl false, [.va d])
  r : ∃ s, reprL [d] = some s ∧ rfO (exOf exL) 2 l__law_refused r__law_refused (erR "NoMoment" d) = some (.ow (.o1 (.lst [.str "moment", .str s, .bl true]))) ∧ rfO (exOf exL) 2 l__law_refused r__law_refused (erR "NoFile" d) = some (.ow (.o1 (.lst [.str "file", .str s, .bl true]))) ∧
    pNeL [.lst [.lst [.str "moment", .str s, .bl true], .lst [.str "file", .str s, .bl true]], .lst [.lst [.str "moment", .str s, .bl true], .lst [.str "file", .str s, .bl true]]] = some (.va (.bl false))
theorem wrongR_of {d : D} (s : Str) (h1 : (m_seconds_of [.va d]).map (·.1) = some (.va .non)) (h0 : xIsi clsL subC (.o "Marked") (xFz (xVar 0)) [.va d] = some (.bl false, [.va d])) (h2 : reprL [d] = some s) (h3 : rfO (exOf exL) 2 l__law_refused r__law_refused (erR "NoMoment" d) = some (.ow (.o1 (.lst [.str "moment", .str s, .bl true]))))
    (h5 : rfO (exOf exL) 2 l__law_refused r__law_refused (erR "NoFile" d) = some (.ow (.o1 (.lst [.str "file", .str s, .bl true])))) (h4 : pNeL [.lst [.lst [.str "moment", .str s, .bl true], .lst [.str "file", .str s, .bl true]], .lst [.lst [.str "moment", .str s, .bl true], .lst [.str "file", .str s, .bl true]]] = some (.va (.bl false))) : WrongR d := ⟨map1 h1, h0, s, h2, h3, h5, h4⟩
theorem wrongR : ∀ d ∈ wrongL, WrongR d := by
  intro d hd
  simp only [wrongL, List.mem_cons, List.not_mem_nil, or_false] at hd
  rcases hd with rfl | rfl | rfl | rfl | rfl | rfl | rfl
  · exact wrongR_of "None" (by kernel_rfl) (by kernel_rfl) (by kernel_rfl) (by kernel_rfl) (by kernel_rfl) (by kernel_rfl)
  · exact wrongR_of "True" (by kernel_rfl) (by kernel_rfl) (by kernel_rfl) (by kernel_rfl) (by kernel_rfl) (by kernel_rfl)
  · exact wrongR_of "'1'" (by kernel_rfl) (by kernel_rfl) (by kernel_rfl) (by kernel_rfl) (by kernel_rfl) (by kernel_rfl)
  · exact wrongR_of "[1]" (by kernel_rfl) (by kernel_rfl) (by kernel_rfl) (by kernel_rfl) (by kernel_rfl) (by kernel_rfl)
  · exact wrongR_of "(1,)" (by kernel_rfl) (by kernel_rfl) (by kernel_rfl) (by kernel_rfl) (by kernel_rfl) (by kernel_rfl)
  · exact wrongR_of "1000000000000000000000000000001" (by kernel_rfl) (by kernel_rfl) (by kernel_rfl) (by kernel_rfl) (by kernel_rfl) (by kernel_rfl)
  · exact wrongR_of "{}" (by kernel_rfl) (by kernel_rfl) (by kernel_rfl) (by kernel_rfl) (by kernel_rfl) (by kernel_rfl)
set_option exponentiation.threshold 10000
theorem bf_marksY : (("marks" : Str) ∈ (["rule", "own_held", "own_last", "own_table"] : List Str)) = False := eq_false (by decide +kernel)
theorem bf_doY : (("do" : Str) ∈ (["rule", "own_held", "own_last", "own_table"] : List Str)) = False := eq_false (by decide +kernel)
theorem marks_vaY (f : Fi) (rd : D) : ∃ en, m_File_marks [.va (.obj "File" ["rule", "own_held", "own_last", "own_table"] [rd, .bl f.h, .int f.la, f.tbl])] = some (.ow (.o1 f.tb), en) := by
  have hp : pDictOf [f.tbl] = some (.ow (.o1 f.tb)) := rfl
  unfold m_File_marks
  generalize f.tb = ftb at *
  generalize f.tbl = ftd at *
  dsimp? [fd_table, hp]
  exact ⟨_, rfl⟩
def reqB (r s : Ru) : Bool := (D.tup false [.str r.word, r.after]).eqv (.tup false [.str s.word, s.after])
theorem req_ok (r s : Ru) : m_Rule___eq__ [.va (ruleU r), .va (ruleU s)] = some (.va (.bl (reqB r s)), [.va (ruleU r), .va (ruleU s)]) := by
  cases r <;> cases s <;> kernel_rfl
theorem leq_ok (r s : Ru) : pEq [.lst [.str r.word, r.after], .lst [.str s.word, s.after]] = some (.va (.bl (reqB r s))) := by
  cases r <;> cases s <;> kernel_rfl
theorem req_str (r : Ru) (w : Str) : m_Rule___eq__ [.va (ruleU r), .va (.str w)] = some (.va (.bl false), [.va (ruleU r), .va (.str w)]) := by
  cases r <;> kernel_rfl
theorem ne_bl (b : Bool) : pNe [.bl b, .bl b] = some (.va (.bl false)) := by cases b <;> kernel_rfl
theorem kind_of {d : D} (n : Int) (h : d ∈ [D.str "always", .str "never", .str "seldom"]) : ∃ k, k < 3 ∧ d = .str (ruK k n).word := by
  simp only [List.mem_cons, List.not_mem_nil, or_false] at h
  rcases h with rfl | rfl | rfl
  · exact ⟨0, by omega, rfl⟩
  · exact ⟨1, by omega, rfl⟩
  · exact ⟨2, by omega, rfl⟩
theorem two_atY (a b : Int) {x : Int} (h0 : 0 ≤ x) (h1 : x < 2) : ∃ y : Int, atI [D.int a, .int b] x = some (.int y) ∧ (y = a ∨ y = b) := by
  obtain ⟨j, rfl⟩ := Int.eq_ofNat_of_zero_le h0
  have hj : j < 2 := by omega
  rw [atI_nat]
  match j, hj with
  | 0, _ => exact ⟨a, rfl, .inl rfl⟩
  | 1, _ => exact ⟨b, rfl, .inr rfl⟩
theorem equal_spec (a b : Int) (hs : SrcI a b) (ru : Ru) {n : Int} (n1 : 1 ≤ n) (n2 : n ≤ 2000) (w : Str) : ∃ a' b' en, m__law_equal [.pw (src a b), .va (ruleU ru), .va (.int n), .va (.str w)] = some (.va (.bl true), .pw (src a' b') :: en) ∧ SrcI a' b' := by
  obtain ⟨d1, a1, b1, h1, s1, m1⟩ := pick_spec a b [.str "always", .str "never", .str "seldom"] hs (by simp) (by simp)
  obtain ⟨x2, a2, b2, h2, s2, x20, x21⟩ := draw_spec a1 b1 2 s1 (by omega) (by omega)
  obtain ⟨y, hy, hyc⟩ := two_atY n (n % 2000 + 1) x20 x21
  have y1 : 1 ≤ y ∧ y ≤ 2000 := by omega
  obtain ⟨k, hk, rfl⟩ := kind_of y m1
  have hr := lrule2 y1.1 y1.2 hk
  have e1 := req_ok ru (ruK k y)
  have e2 := leq_ok ru (ruK k y)
  have e3 := req_str ru w
  have w1 := word_ok ru
  have w2 := word_ok (ruK k y)
  have v1 := after_ok ru
  have v2 := after_ok (ruK k y)
  have ne := ne_bl (reqB ru (ruK k y))
  refine ⟨a2, b2, ?_⟩
  unfold m__law_equal
  unfold ruleU at *
  generalize (ruK k y).word = wk at *
  generalize (ruK k y).after = ak at *
  generalize ru.word = wr at *
  generalize ru.after = ar at *
  generalize reqB ru (ruK k y) = bb at *
  dsimp? [h1, h2, hy, hr, e1, e2, e3, w1, w2, v1, v2, ne]
  exact ⟨_, rfl, s2⟩
set_option exponentiation.threshold 10000
def env0 (ns : List Int) : En := [.va (.scr ns), .no, .no, .no, .no, .no, .no, .no, .no, .no, .no, .no, .no, .no, .no, .no]
theorem four_at {a b c d : Int} {x : Int} (h0 : 0 ≤ x) (h1 : x < 4) : ∃ y : Int, atI [D.int a, .int b, .int c, .int d] x = some (.int y) ∧ (y = a ∨ y = b ∨ y = c ∨ y = d) := by
  obtain ⟨j, rfl⟩ := Int.eq_ofNat_of_zero_le h0
  have hj : j < 4 := by omega
  rw [atI_nat]
  match j, hj with
  | 0, _ => exact ⟨a, rfl, .inl rfl⟩
  | 1, _ => exact ⟨b, rfl, .inr (.inl rfl)⟩
  | 2, _ => exact ⟨c, rfl, .inr (.inr (.inl rfl))⟩
  | 3, _ => exact ⟨d, rfl, .inr (.inr (.inr rfl))⟩
theorem eqE_int (i : Int) : eqE (.int i) (.int i) = true := by simp [eqE, D.pl, D.eqv]
theorem eqE_word (r : Ru) : eqE (.str r.word) (.str r.word) = true := by cases r <;> kernel_rfl
theorem eqE_bl (i : Bool) : eqE (.bl i) (.bl i) = true := by simp [eqE, D.pl, D.eqv]
theorem eqE_non : eqE .non .non = true := by simp [eqE, D.pl, D.eqv]
theorem neL_two {x y : D} (h1 : eqE x x = true) (h2 : eqE y y = true) : pNeL [.lst [x, y], .lst [x, y]] = some (.va (.bl false)) := by
  have e : eqEs [x, y] [x, y] = true := by
    show (eqE x x && (eqE y y && true)) = true
    rw [h1, h2]; rfl
  show (if eqEs [x, y] [x, y] = true then _ else none) = _
  rw [if_pos e]
theorem eqE_after (r : Ru) : eqE r.after r.after = true := by
  cases r with
  | al => exact eqE_non
  | nev => exact eqE_non
  | sel k => exact eqE_int k
theorem ne_tbl (f : Fi) : pNeDD [f.tbl, f.tbl] = some (.va (.bl false)) := by
  obtain ⟨a, b, c, la, h⟩ := f
  have n1 : ((Sum.inr "read" : Key) = (Sum.inr "written" : Key)) = False := eq_false (by decide +kernel)
  have n2 : ((Sum.inr "read" : Key) = (Sum.inr "changed" : Key)) = False := eq_false (by decide +kernel)
  have n3 : ((Sum.inr "written" : Key) = (Sum.inr "changed" : Key)) = False := eq_false (by decide +kernel)
  show (if ((D.pls 39 [.int a, .int b, .int c]) && (D.pls 39 [.int a, .int b, .int c])) = true then some (Sl.va (.bl (!((3 : Nat) == 3 && eqDD ([Sum.inr "read", Sum.inr "written", Sum.inr "changed"] : List Key) [.int a, .int b, .int c] ([Sum.inr "read", Sum.inr "written", Sum.inr "changed"] : List Key) [.int a, .int b, .int c])))) else none) = _
  simp [eqDD, dGet, D.eqv, D.pls, D.pl, n1, n2, n3]
theorem bo_call : (("__call__" : Str) ∈ (["own_word", "own_after"] : List Str)) = False := eq_false (by decide +kernel)
theorem callF (rr : D) : ∀ d ∈ wrongL, ∃ en, x_Rule___call__ [.va rr, .va d, .va d] = some (.er (erR "NoFile" d), en) := by
  intro d hd
  simp only [wrongL, List.mem_cons, List.not_mem_nil, or_false] at hd
  rcases hd with rfl | rfl | rfl | rfl | rfl | rfl | rfl
  all_goals exact map1 (by kernel_rfl)
theorem body_ok (ns : List Int) (t : Nat) (ht : t < 1000) : Res ((gNm 1 (.int t) (env0 ns)).bind b1_law) fun o => o = .nx (env0 ns) := by
  obtain ⟨a, b, hsrc, s0⟩ := source_spec ns t ht
  obtain ⟨dk, a1, b1, p1, s1, m1⟩ := pick_spec a b [.str "always", .str "never", .str "seldom"] s0 (by simp) (by simp)
  obtain ⟨x2, a2, b2, d2, s2, x20, x21⟩ := draw_spec a1 b1 2 s1 (by omega) (by omega)
  obtain ⟨af, haf, hac⟩ := two_atY 9 2000 x20 x21
  obtain ⟨x3, a3, b3, d3, s3, x30, x31⟩ := draw_spec a2 b2 af s2 (by omega) (by omega)
  obtain ⟨n, hn⟩ : ∃ n : Int, 1 + x3 = n := ⟨_, rfl⟩
  have n1 : 1 ≤ n := by omega
  have n2 : n ≤ 2000 := by omega
  obtain ⟨k, hk, rfl⟩ := kind_of n m1
  have hru := lrule2 n1 n2 hk
  have hal := lrule2 (n := 1) (k := 0) (by omega) (by omega) (by omega)
  have w1 := word_ok (ruK k n)
  have v1 := after_ok (ruK k n)
  have ne1 := neL_two (eqE_word (ruK k n)) (eqE_after (ruK k n))
  obtain ⟨x4, a4, b4, d4, s4, x40, x41⟩ := draw_spec a3 b3 100 s3 (by omega) (by omega)
  obtain ⟨st, hst⟩ : ∃ st : Int, x4 - 50 = st := ⟨_, rfl⟩
  obtain ⟨dm, a5, b5, p5, s5, m5⟩ := pick_spec a4 b4 [.tup false [.str "make"], .tup false [.str "unpack", .int 5]] s4 (by simp) (by simp)
  have hmk : IsMk 5 dm := by
    simp only [List.mem_cons, List.not_mem_nil, or_false] at m5
    rcases m5 with rfl | rfl
    · exact .inl rfl
    · exact .inr ⟨5, by omega, by omega, rfl⟩
  obtain ⟨en0, hfi⟩ := file_init (B := 5) (by omega) hmk .al (t := st) ⟨by omega, by omega⟩
  obtain ⟨x6, a6, b6, d6, s6, x60, x61⟩ := draw_spec a5 b5 9 s5 (by omega) (by omega)
  obtain ⟨lt, hlt⟩ : ∃ lt : Int, st + 1 + x6 = lt := ⟨_, rfl⟩
  obtain ⟨du, a7, b7, p7, s7, m7⟩ := pick_spec a6 b6 [.tup false [.str "read"], .tup false [.str "read"], .tup false [.str "write"], .tup false [.str "rename"], .tup false [.str "touch"], .tup false [.str "setback", .int 4]] s6 (by simp) (by simp)
  have hnd : Nd 5 du := by
    refine .inr ?_
    simp only [List.mem_cons, List.not_mem_nil, or_false] at m7
    rcases m7 with rfl | rfl | rfl | rfl | rfl | rfl
    · exact .inl (by simp)
    · exact .inl (by simp)
    · exact .inl (by simp)
    · exact .inl (by simp)
    · exact .inl (by simp)
    · exact .inr ⟨4, by omega, by omega, rfl⟩
  obtain ⟨x7, hdo⟩ := do_spec (B := 5) (by omega) hnd .al (newF dm st) (t := lt) ⟨by omega, by omega⟩ (by show st < lt; omega)
  obtain ⟨x8, a8, b8, d8, s8, x80, x81⟩ := draw_spec a7 b7 2100 s7 (by omega) (by omega)
  obtain ⟨x9, a9, b9, d9, s9, x90, x91⟩ := draw_spec a8 b8 4 s8 (by omega) (by omega)
  obtain ⟨y9, hy9, hyc⟩ := four_at (a := n) (b := n - 1) (c := n + 1) (d := x8) x90 x91
  obtain ⟨at_, hat⟩ : ∃ at_ : Int, lt + y9 = at_ := ⟨_, rfl⟩
  have mo : MoI at_ := ⟨by omega, by omega⟩
  generalize hF : doF .al (newF dm st) du lt = F at *
  obtain ⟨en3, hma⟩ := marks_vaY F (ruleU .al)
  obtain ⟨en4, hc1⟩ := call_ok (ruK k n) .al F mo
  obtain ⟨en5, hc2⟩ := call_mom (ruK k n) .al F (t := at_)
  have hmm := mom_mk mo
  have g1 := dg_read F
  have g2 := dg_written F
  have g3 := dg_changed F
  have hfz : F.tb.fz = F.tbl := rfl
  have hdc : pDictOf [F.tbl] = some (.ow (.o1 F.tb)) := rfl
  have hnt := ne_tbl F
  have ne2 := neL_two (eqE_bl (setsB (ruK k n) F at_)) (eqE_bl (setsB (ruK k n) F at_))
  obtain ⟨a10, b10, en6, heq, s10⟩ := equal_spec a9 b9 s9 (ruK k n) n1 n2 (ruK k n).word
  have g20 : pPow [.int 10, .int 20] = some (.va (.int 100000000000000000000)) := by kernel_rfl
  have g30 : pPow [.int 10, .int 30] = some (.va (.int 1000000000000000000000000000000)) := by kernel_rfl
  obtain ⟨od, a11, b11, p11, s11, m11⟩ := pick_spec a10 b10 oddL s10 (by simp [oddL]) (by simp [oddL])
  obtain ⟨⟨en7, o1⟩, so, o2, o3, o4⟩ := oddR od m11
  obtain ⟨wd, a12, b12, p12, s12, m12⟩ := pick_spec a11 b11 wrongL s11 (by simp [wrongL]) (by simp [wrongL])
  obtain ⟨⟨en8, q1⟩, q2, sw, q3, q4, q5, q6⟩ := wrongR wd m12
  unfold oddL at p11
  unfold wrongL at p12
  have hfx : xIsi clsL subC (.o "Marked") (xFz (xVar 0)) [.va wd] = some (.bl false, [.va wd]) := q2
  -- the rule's call on what is no moment, on what is no file
  have cw : clsL.contains "File" = true := by decide +kernel
  have cm : clsL.contains "Marked" = true := by decide +kernel
  have r1 : ∃ en, x_Rule___call__ [.va (ruleU (ruK k n)), .va (F.d .al), .va wd] = some (.er (erR "NoMoment" wd), en) := by
    unfold x_Rule___call__ Fi.d erR
    generalize F.tbl = tb at *
    generalize ruleU _ = rr at *
    dsimp? [cw, cm, subFM, q1, fnX_e, xRaise_e]
    exact ⟨_, rfl⟩
  obtain ⟨en9, r1⟩ := r1
  obtain ⟨en10, r2⟩ := callF (ruleU (ruK k n)) wd m12
  have rt : ∃ en, m__law_refused_too [.va (ruleU (ruK k n)), .va wd] = some (.ow (.o1 (.lst [.str "file", .str sw, .bl true])), en) := by
    have fe := fe_ok
    unfold m__law_refused_too
    unfold ruleU at *
    generalize (ruK k n).word = wk at *
    generalize (ruK k n).after = ak at *
    dsimp? [xRf_e, fe, xMtX_e, r2, q5, bo_call]
    exact ⟨_, rfl⟩
  obtain ⟨en11, rt⟩ := rt
  have fe := fe_ok
  have n31 : (1000000000000000000000000000000 : Int) + 1 = 1000000000000000000000000000001 := by decide
  unfold Fi.o at hfi hdo
  unfold Fi.d at hc1 hc2 r1
  unfold momO at hc2
  have hfz0 : (newF dm st).tb.fz = (newF dm st).tbl := rfl
  generalize (newF dm st).tbl = tl0 at *
  generalize (newF dm st).tb = tb0 at *
  generalize (newF dm st).h = h0 at *
  generalize (newF dm st).la = la0 at *
  have key : ∀ (due : Bool), True := fun _ => trivial
  unfold b1_law env0
  have c1 : F.r ≤ F.w ∨ ¬ F.r ≤ F.w := by omega
  have c2 : F.r ≤ F.c ∨ ¬ F.r ≤ F.c := by omega
  have c3 : n ≤ at_ - F.r ∨ ¬ n ≤ at_ - F.r := by omega
  unfold ruleU at *
  rcases (by omega : k = 0 ∨ k = 1 ∨ k = 2) with rfl | rfl | rfl
  · have hs : setsB (ruK 0 n) F at_ = true := rfl
    rw [hs] at hc1 hc2 ne2
    have e0 : ∀ m, ruK 0 m = .al := fun _ => rfl
    have e1 : ∀ m, ruK 1 m = .nev := fun _ => rfl
    simp only [e0, e1, Ru.word, Ru.after] at hru hal w1 v1 ne1 hc1 hc2 heq r1 rt hfi hdo hma p1
    generalize F.tbl = tl at *
    generalize F.tb = tb at *
    generalize F.h = hh at *
    generalize F.la = la at *
    rcases c1 with c1 | c1 <;> rcases c2 with c2 | c2 <;> rcases c3 with c3 | c3
    all_goals
      dsimp? [hsrc, p1, d2, haf, d3, hn, hru, w1, v1, so_seldom, so_always, so_never, sn_always_seldom, sn_never_seldom, sn_never_always, ne1, d4, hst, hal, p5, hfi, d6, hlt, p7, bf_doY, hdo, d8, d9, hy9, hat, bf_marksY, hma, hfz, hfz0, hdc, g1, g2, g3, c1, c2, c3, bo_call, hc1, hc2, hmm, ne2, hnt, heq, g20, p11, xRf_e, fe, xMtX_e, xCallX_e, xRepr_e, o1, o2, o3, o4, g30, n31, p12, r1, q3, q4, rt, q6]
      exact res_some rfl
  · have hs : setsB (ruK 1 n) F at_ = false := rfl
    rw [hs] at hc1 hc2 ne2
    have e0 : ∀ m, ruK 0 m = .al := fun _ => rfl
    have e1 : ∀ m, ruK 1 m = .nev := fun _ => rfl
    simp only [e0, e1, Ru.word, Ru.after] at hru hal w1 v1 ne1 hc1 hc2 heq r1 rt hfi hdo hma p1
    generalize F.tbl = tl at *
    generalize F.tb = tb at *
    generalize F.h = hh at *
    generalize F.la = la at *
    rcases c1 with c1 | c1 <;> rcases c2 with c2 | c2 <;> rcases c3 with c3 | c3
    all_goals
      dsimp? [hsrc, p1, d2, haf, d3, hn, hru, w1, v1, so_seldom, so_always, so_never, sn_always_seldom, sn_never_seldom, sn_never_always, ne1, d4, hst, hal, p5, hfi, d6, hlt, p7, bf_doY, hdo, d8, d9, hy9, hat, bf_marksY, hma, hfz, hfz0, hdc, g1, g2, g3, c1, c2, c3, bo_call, hc1, hc2, hmm, ne2, hnt, heq, g20, p11, xRf_e, fe, xMtX_e, xCallX_e, xRepr_e, o1, o2, o3, o4, g30, n31, p12, r1, q3, q4, rt, q6]
      exact res_some rfl
  · have e0 : ∀ m, ruK 0 m = .al := fun _ => rfl
    have e1 : ∀ m, ruK 2 m = .sel m := fun _ => rfl
    rcases c1 with c1 | c1 <;> rcases c2 with c2 | c2 <;> rcases c3 with c3 | c3
    all_goals
      have hs : setsB (ruK 2 n) F at_ = (decide (F.r ≤ F.w) || decide (F.r ≤ F.c) || decide (n ≤ at_ - F.r)) := rfl
      simp only [c1, c2, c3, decide_true, decide_false, Bool.or_true, Bool.true_or, Bool.or_false, Bool.false_or] at hs
      rw [hs] at hc1 hc2 ne2
      simp only [e0, e1, Ru.word, Ru.after] at hru hal w1 v1 ne1 hc1 hc2 heq r1 rt hfi hdo hma p1
      generalize F.tbl = tl at *
      generalize F.tb = tb at *
      generalize F.h = hh at *
      generalize F.la = la at *
      dsimp? [hsrc, p1, d2, haf, d3, hn, hru, w1, v1, so_seldom, so_always, so_never, sn_always_seldom, sn_never_seldom, sn_never_always, ne1, d4, hst, hal, p5, hfi, d6, hlt, p7, bf_doY, hdo, d8, d9, hy9, hat, bf_marksY, hma, hfz, hfz0, hdc, g1, g2, g3, c1, c2, c3, bo_call, hc1, hc2, hmm, ne2, hnt, heq, g20, p11, xRf_e, fe, xMtX_e, xCallX_e, xRepr_e, o1, o2, o3, o4, g30, n31, p12, r1, q3, q4, rt, q6]
      exact res_some rfl
theorem law_true (ns : List Int) (h : ns.length ≤ 63) : ∃ en, m_law [.va (.scr ns)] = some (.va (.bl true), en) := by
  have key : Res (m_law [.va (.scr ns)]) fun p => ∃ en, p = (.va (.bl true), en) := by
    have hm : ∃ k : Nat, (if (if (30 : Int) < (ns.length : Int) then 30 else (ns.length : Int)) > 1 then (if (30 : Int) < (ns.length : Int) then 30 else (ns.length : Int)) else 1) = (k : Int) ∧ k < 1000 := by
      refine ⟨((if (if (30 : Int) < (ns.length : Int) then 30 else (ns.length : Int)) > 1 then (if (30 : Int) < (ns.length : Int) then 30 else (ns.length : Int)) else 1)).toNat, ?_, ?_⟩ <;> split <;> (try split) <;> omega
    obtain ⟨k, hk, hk2⟩ := hm
    have sm : small62 (k : Int) = true := small_of (by omega) (by omega)
    unfold m_law
    simp only [gt_iff_lt] at hk
    dsimp! [hk, sm]
    walk_at "rb"
    refine res_loop (fun i e => e = env0 ns) rfl ?st ?q
    case st =>
      rintro i d e hd rfl
      obtain ⟨hi, rfl⟩ := rng_at hd
      rw [Int.zero_add]
      obtain ⟨o, h1, h2⟩ := body_ok ns i (by rw [Int.toNat_natCast] at hi; omega)
      exact ⟨o, h1, _, .inl h2, rfl⟩
    case q =>
      rintro e rfl
      unfold env0
      dsimp! []
      exact res_some ⟨_, rfl⟩
  obtain ⟨_, h1, en, rfl⟩ := key
  exact ⟨en, h1⟩
end Ag
namespace Ag
open PySem PySem.Spec PyProof.Rows L2 Evl
local macro_rules | `(tactic| push_cast [$ls,*]) => `(tactic| simp -implicitDefEqProofs only [xFz_e, xUp_e, xVar_f, xC_e, xNil_e, xCons_e, xPr_e, xB_e, xAnd_e, xOr_e, xNot_e, xOfB_e, xIfE_e, xYes_e, xChain_f, chB_b, xSet_e, xDrop_e, xRet_e, xRetN_e, xRetV_e, xNx_e, xBk_e, xCt_e, xNever_e, xIf_e, xSeq_e, gNm_e, gTp_e, gsNil_e, gsCons_e, xAsg_e, xPar_e, xFor_e, xItL_e, xItT_e, xItR1_e, xItR2_e, xItE_e, xItEt_e, gPutD_e, fnM_e, xCall_e, xMt_e, xPrp_e, xFld_e, xBor_e, xBorV_e, xBorT_e, xCallM_e, xMtM_e, xMk_e, qVar_e, qC_e, xIxP_e, xPutP_e, xInP_e, xApp_e, xExt_e, xFldS_e, xFS_e, xLc_e, xSl_e, xStar_e, xIsi_e, xIsi2_e, xO2_e, xLenO_e, xEqO_e, xDict0_e, xAndV_e, xOrV_e, bnd_some, bnd_none, xeNo_e, mkO_e, xAllL_n, xAllL_c, xMtT_e, xFnT2_e, xDict0T_e, xDisp_e, xGet2_e, xMkR_e, xMkS_e, xMkK_e, xDUp_e, xMv_e, xItK_e, xItI_e, xKl_e, xKb_e, xFr_e, killO_nx, killO_rt, killO_bk, killO_ct, killB_nx, killB_rt, killB_bk, killB_ct, klM_n, klM_t, klM_f, kill_pw, kill_ow, kill_va, kill_no, frE_z, frE_s, frz_pw, frz_ow, frz_va, frz_no, Option.bind_some, Option.bind_none, List.getElem?_cons_zero, List.getElem?_cons_succ, List.getElem?_nil, List.set_cons_zero, List.set_cons_succ, List.map_cons, List.map_nil, List.length_cons, List.length_nil, List.cons_append, List.nil_append, List.replicate_succ, List.replicate_zero, viewE, view_va, view_ow, view_no, view_pw, fz_va, fz_ow, fz_no, fz_pw, own_va, own_ow, own_no, own_pw, ofz_1, ofz_2, o1_l, o1_d, o1_t, fvz_v, fvz_o, putS_e, putR, np_no, np_va, np_ow, np_pw, np_view, freeS_e, Option.map_some, Option.map_none, Option.getD_some, Option.getD_none, pEq_i, pNe_i, pInT_e, pNinT_e, pIsN_e, pNotN_e, pIsB_e, pNotB_e, fl_n, fl_i, fl_s, fl_b, isN_n, isN_i, isN_t, isN_s, isN_b, isN_l, ownAt, reAt, pinned, leafAt, setLeaf, getO, putO, isLst, List.any_cons, List.any_nil, Bool.or_true, Bool.true_or, Bool.or_false, Bool.false_or, Bool.not_true, Bool.not_false, Bool.and_true, Bool.true_and, Bool.and_false, Bool.false_and, D.flat, D.flatL, D.leaf, Sl.leaf, O1.leaf, O2.leaf, Fv.leaf, wipeE, List.all_cons, List.all_nil, if_true, if_false, ite_true, ite_false, reduceIte, Bool.false_eq_true, decide_true, decide_false, reduceCtorEq, and_self, true_and, and_true, and_false, false_and, ixN_lit, ixN_nat, atI_nat, pLst_e, pTup_e, Nat.reduceAdd, Nat.reduceLT, Nat.reduceLeDiff, Nat.lt_add_left_iff_pos, Nat.zero_lt_succ, pPow_e, Int.reducePow, Int.reduceToNat, Int.reduceLT, not_true_eq_false, not_false_eq_true, pAdd_e, pSub_e, pLt_e, pLe_e, pGt_e, pGe_e, pNeg_e, pMul_e, pDiv_e, pMod_e, pAbs_e, pInt_e, pMax2_e, pMin2_e, pLenL_e, pLenS_e, pLenT_e, pIxL_e, pIxS_e, pIxT_e, atI_lit, ge_iff_le, gt_iff_lt, $ls,*])
local macro_rules | `(tactic| dsimp! [$ls,*]) => `(tactic| (push_cast [$ls,*]; repeat (with_reducible refine res_step ?_; push_cast [$ls,*])))
local macro_rules | `(tactic| simp_all! [$ls,*]) => `(tactic| dsimp! [isD_non_int, isD_non_bool, isD_non_str, isD_non_list, isD_non_tuple, isD_non_dict, isD_non_o, isD_bl_int, isD_bl_bool, isD_bl_str, isD_bl_list, isD_bl_tuple, isD_bl_dict, isD_bl_o, isD_int_int, isD_int_bool, isD_int_str, isD_int_list, isD_int_tuple, isD_int_dict, isD_int_o, isD_str_int, isD_str_bool, isD_str_str, isD_str_list, isD_str_tuple, isD_str_dict, isD_str_o, isD_scr_int, isD_scr_bool, isD_scr_str, isD_scr_list, isD_scr_tuple, isD_scr_dict, isD_scr_o, isD_lst_int, isD_lst_bool, isD_lst_str, isD_lst_list, isD_lst_tuple, isD_lst_dict, isD_lst_o, isD_tup_int, isD_tup_bool, isD_tup_str, isD_tup_list, isD_tup_tuple, isD_tup_dict, isD_tup_o, isD_dct_int, isD_dct_bool, isD_dct_str, isD_dct_list, isD_dct_tuple, isD_dct_dict, isD_dct_o, isD_dcT_int, isD_dcT_bool, isD_dcT_str, isD_dcT_list, isD_dcT_tuple, isD_dcT_dict, isD_dcT_o, isD_obj_o, $ls,*])
local macro_rules | `(tactic| walk_at "rb") => `(tactic| repeat (with_reducible refine res_bind ?_))
local macro_rules | `(tactic| dsimp? [$ls,*]) => `(tactic| simp_all! [pEq_c, pNe_c, natc, Int.reduceBEq, Int.reduceEq, D.pl, D.pls, D.eqv, D.eqvs, beq_self_eq_true, so_make, so_unpack, so_read, so_write, so_rename, so_touch, so_setback, so_e, so_held, so_anew, sn_make_unpack, sn_make_read, sn_make_write, sn_make_rename, sn_make_touch, sn_make_setback, sn_unpack_make, sn_unpack_read, sn_unpack_write, sn_unpack_rename, sn_unpack_touch, sn_unpack_setback, sn_read_make, sn_read_unpack, sn_read_write, sn_read_rename, sn_read_touch, sn_read_setback, sn_write_make, sn_write_unpack, sn_write_read, sn_write_rename, sn_write_touch, sn_write_setback, sn_rename_make, sn_rename_unpack, sn_rename_read, sn_rename_write, sn_rename_touch, sn_rename_setback, sn_touch_make, sn_touch_unpack, sn_touch_read, sn_touch_write, sn_touch_rename, sn_touch_setback, sn_setback_make, sn_setback_unpack, sn_setback_read, sn_setback_write, sn_setback_rename, sn_setback_touch, sn_e_held, sn_e_anew, sn_held_e, sn_held_anew, sn_anew_e, sn_anew_held, $ls,*])
local macro_rules | `(tactic| simp_all? [$ls,*]) => `(tactic| dsimp? [key_s, so_bound, so_looks, so_how, so_day, so_grain, so_spares, so_late, so_again, so_period, so_above, so_from, sn_bound_looks, sn_bound_how, sn_bound_day, sn_bound_grain, sn_bound_spares, sn_bound_late, sn_bound_again, sn_bound_period, sn_looks_bound, sn_looks_how, sn_looks_day, sn_looks_grain, sn_looks_spares, sn_looks_late, sn_looks_again, sn_looks_period, sn_how_bound, sn_how_looks, sn_how_day, sn_how_grain, sn_how_spares, sn_how_late, sn_how_again, sn_how_period, sn_day_bound, sn_day_looks, sn_day_how, sn_day_grain, sn_day_spares, sn_day_late, sn_day_again, sn_day_period, sn_grain_bound, sn_grain_looks, sn_grain_how, sn_grain_day, sn_grain_spares, sn_grain_late, sn_grain_again, sn_grain_period, sn_spares_bound, sn_spares_looks, sn_spares_how, sn_spares_day, sn_spares_grain, sn_spares_late, sn_spares_again, sn_spares_period, sn_late_bound, sn_late_looks, sn_late_how, sn_late_day, sn_late_grain, sn_late_spares, sn_late_again, sn_late_period, sn_again_bound, sn_again_looks, sn_again_how, sn_again_day, sn_again_grain, sn_again_spares, sn_again_late, sn_again_period, sn_period_bound, sn_period_looks, sn_period_how, sn_period_day, sn_period_grain, sn_period_spares, sn_period_late, sn_period_again, sn_above_from, sn_from_above, pk_how, pd_how, pk_day, pd_day, pk_grain, pd_grain, pk_spares, pd_spares, pk_late, pd_late, pk_again, pd_again, pk_period, pd_period, rk_bound, rd_bound, gd_bound, rk_looks, rd_looks, gd_looks, rk_how, rd_how, gd_how, rk_day, rd_day, gd_day, rk_grain, rd_grain, gd_grain, rk_spares, rd_spares, gd_spares, rk_late, rd_late, gd_late, rk_again, rd_again, gd_again, rk_period, rd_period, gd_period, mk_k, mk_d, nod6, nod3l, nod2b, $ls,*])
theorem all_mk {P : Program} {w : World} {K : PySem.W.Frag} {h : Heap} {mg : Str → Option Value} {fa : Addr} (hfile : ((P.main.file : Str) == errFile) = true) (htop : (P.main.scope.names.lookup ("super" : Str)).isSome = false) (X : K.In h) (G : h.Ns mainGlobals mg) (hfa : mg ("law" : Str) = some (.ref fa)) (c : SaysV faL fnL K) :
    ∃ fd : FuncData, (∀ (s : Shared) (v : Value), BindsTo s fd ⟨[v], []⟩ [("script", v)]) ∧ ∀ base : Heap, K.In base → base.Ns mainGlobals mg → (∀ p ∈ tabCs K, LamX.TabB base mg p.1 p.2) → FnG P w K mg base CX0 9 fa fd ["script"] (spM K 1 m_law) := by
  have V : Fcts faL K mg := ⟨c.facts, h, X, G⟩
  have e := hfa.symm.trans (V.glo (x := "law") 81 rfl)
  cases e
  obtain ⟨fd__law_source, F__law_source⟩ := c.def_ 0 (d := ⟨.g "_law_source", "_law_source", "_law_source", defArgs s__law_source, defBody s__law_source, defScope s__law_source, [], []⟩) rfl
  replace F__law_source : FnQ K "_law_source" "_law_source" s__law_source _ fd__law_source := F__law_source
  have b__law_source : Binds K fd__law_source ["script", "turn"] [] := F__law_source.bindsN fun _ _ _ _ _ _ us hl => match us, hl with | [_, _], _ => rfl
  obtain ⟨fd__law_draw, F__law_draw⟩ := c.def_ 1 (d := ⟨.g "_law_draw", "_law_draw", "_law_draw", defArgs s__law_draw, defBody s__law_draw, defScope s__law_draw, [], []⟩) rfl
  replace F__law_draw : FnQ K "_law_draw" "_law_draw" s__law_draw _ fd__law_draw := F__law_draw
  have b__law_draw : Binds K fd__law_draw ["source", "amount"] [] := F__law_draw.bindsN fun _ _ _ _ _ _ us hl => match us, hl with | [_, _], _ => rfl
  obtain ⟨fd__law_pick, F__law_pick⟩ := c.def_ 2 (d := ⟨.g "_law_pick", "_law_pick", "_law_pick", defArgs s__law_pick, defBody s__law_pick, defScope s__law_pick, [], []⟩) rfl
  replace F__law_pick : FnQ K "_law_pick" "_law_pick" s__law_pick _ fd__law_pick := F__law_pick
  have b__law_pick : Binds K fd__law_pick ["source", "items"] [] := F__law_pick.bindsN fun _ _ _ _ _ _ us hl => match us, hl with | [_, _], _ => rfl
  obtain ⟨fd_is_whole, F_is_whole⟩ := c.def_ 3 (d := ⟨.g "is_whole", "is_whole", "is_whole", defArgs s_is_whole, defBody s_is_whole, defScope s_is_whole, [], []⟩) rfl
  replace F_is_whole : FnQ K "is_whole" "is_whole" s_is_whole _ fd_is_whole := F_is_whole
  have b_is_whole : Binds K fd_is_whole ["value"] [] := F_is_whole.bindsN fun _ _ _ _ _ _ us hl => match us, hl with | [_], _ => rfl
  obtain ⟨fd_is_between, F_is_between⟩ := c.def_ 4 (d := ⟨.g "is_between", "is_between", "is_between", defArgs s_is_between, defBody s_is_between, defScope s_is_between, [], []⟩) rfl
  replace F_is_between : FnQ K "is_between" "is_between" s_is_between _ fd_is_between := F_is_between
  have b_is_between : Binds K fd_is_between ["value", "low", "high"] [] := F_is_between.bindsN fun _ _ _ _ _ _ us hl => match us, hl with | [_, _, _], _ => rfl
  obtain ⟨fd_Rule___init__, F_Rule___init__⟩ := c.def_ 5 (d := ⟨.m "Rule" "__init__", "__init__", "Rule.__init__", defArgs s_Rule___init__, defBody s_Rule___init__, defScope s_Rule___init__, [], []⟩) rfl
  replace F_Rule___init__ : FnQ K "__init__" "Rule.__init__" s_Rule___init__ _ fd_Rule___init__ := F_Rule___init__
  have b_Rule___init__ : Binds K fd_Rule___init__ ["self", "word", "after"] [] := F_Rule___init__.bindsN fun _ _ _ _ _ _ us hl => match us, hl with | [_, _, _], _ => rfl
  obtain ⟨fd_Rule_seldom, F_Rule_seldom⟩ := c.def_ 6 (d := ⟨.s "Rule" "seldom", "seldom", "Rule.seldom", defArgs s_Rule_seldom, defBody s_Rule_seldom, defScope s_Rule_seldom, [], []⟩) rfl
  replace F_Rule_seldom : FnQ K "seldom" "Rule.seldom" s_Rule_seldom _ fd_Rule_seldom := F_Rule_seldom
  have b_Rule_seldom : Binds K fd_Rule_seldom ["after"] [] := F_Rule_seldom.bindsN fun _ _ _ _ _ _ us hl => match us, hl with | [_], _ => rfl
  obtain ⟨fd_Rule_always, F_Rule_always⟩ := c.def_ 7 (d := ⟨.s "Rule" "always", "always", "Rule.always", defArgs s_Rule_always, defBody s_Rule_always, defScope s_Rule_always, [], []⟩) rfl
  replace F_Rule_always : FnQ K "always" "Rule.always" s_Rule_always _ fd_Rule_always := F_Rule_always
  have b_Rule_always : Binds K fd_Rule_always [] [] := F_Rule_always.bindsN fun _ _ _ _ _ _ us hl => match us, hl with | [], _ => rfl
  obtain ⟨fd_Rule_never, F_Rule_never⟩ := c.def_ 8 (d := ⟨.s "Rule" "never", "never", "Rule.never", defArgs s_Rule_never, defBody s_Rule_never, defScope s_Rule_never, [], []⟩) rfl
  replace F_Rule_never : FnQ K "never" "Rule.never" s_Rule_never _ fd_Rule_never := F_Rule_never
  have b_Rule_never : Binds K fd_Rule_never [] [] := F_Rule_never.bindsN fun _ _ _ _ _ _ us hl => match us, hl with | [], _ => rfl
  obtain ⟨fd__law_rule, F__law_rule⟩ := c.def_ 9 (d := ⟨.g "_law_rule", "_law_rule", "_law_rule", defArgs s__law_rule, defBody s__law_rule, defScope s__law_rule, [], []⟩) rfl
  replace F__law_rule : FnQ K "_law_rule" "_law_rule" s__law_rule _ fd__law_rule := F__law_rule
  have b__law_rule : Binds K fd__law_rule ["kind", "after"] [] := F__law_rule.bindsN fun _ _ _ _ _ _ us hl => match us, hl with | [_, _], _ => rfl
  obtain ⟨fd_Rule_after, F_Rule_after⟩ := c.def_ 10 (d := ⟨.p "Rule" "after", "after", "Rule.after", defArgs s_Rule_after, defBody s_Rule_after, defScope s_Rule_after, [], []⟩) rfl
  replace F_Rule_after : FnQ K "after" "Rule.after" s_Rule_after _ fd_Rule_after := F_Rule_after
  have b_Rule_after : Binds K fd_Rule_after ["self"] [] := F_Rule_after.bindsN fun _ _ _ _ _ _ us hl => match us, hl with | [_], _ => rfl
  obtain ⟨fd_Rule_word, F_Rule_word⟩ := c.def_ 11 (d := ⟨.p "Rule" "word", "word", "Rule.word", defArgs s_Rule_word, defBody s_Rule_word, defScope s_Rule_word, [], []⟩) rfl
  replace F_Rule_word : FnQ K "word" "Rule.word" s_Rule_word _ fd_Rule_word := F_Rule_word
  have b_Rule_word : Binds K fd_Rule_word ["self"] [] := F_Rule_word.bindsN fun _ _ _ _ _ _ us hl => match us, hl with | [_], _ => rfl
  obtain ⟨fd_check_rule, F_check_rule⟩ := c.def_ 12 (d := ⟨.g "check_rule", "check_rule", "check_rule", defArgs s_check_rule, defBody s_check_rule, defScope s_check_rule, [], []⟩) rfl
  replace F_check_rule : FnQ K "check_rule" "check_rule" s_check_rule _ fd_check_rule := F_check_rule
  have b_check_rule : Binds K fd_check_rule ["value"] [] := F_check_rule.bindsN fun _ _ _ _ _ _ us hl => match us, hl with | [_], _ => rfl
  obtain ⟨fd_is_time, F_is_time⟩ := c.def_ 13 (d := ⟨.g "is_time", "is_time", "is_time", defArgs s_is_time, defBody s_is_time, defScope s_is_time, [], []⟩) rfl
  replace F_is_time : FnQ K "is_time" "is_time" s_is_time _ fd_is_time := F_is_time
  have b_is_time : Binds K fd_is_time ["value"] [] := F_is_time.bindsN fun _ _ _ _ _ _ us hl => match us, hl with | [_], _ => rfl
  obtain ⟨fd_is_deed, F_is_deed⟩ := c.def_ 14 (d := ⟨.g "is_deed", "is_deed", "is_deed", defArgs s_is_deed, defBody s_is_deed, defScope s_is_deed, [], []⟩) rfl
  replace F_is_deed : FnQ K "is_deed" "is_deed" s_is_deed _ fd_is_deed := F_is_deed
  have b_is_deed : Binds K fd_is_deed ["value"] [] := F_is_deed.bindsN fun _ _ _ _ _ _ us hl => match us, hl with | [_], _ => rfl
  obtain ⟨fd_makes, F_makes⟩ := c.def_ 15 (d := ⟨.g "makes", "makes", "makes", defArgs s_makes, defBody s_makes, defScope s_makes, [], []⟩) rfl
  replace F_makes : FnQ K "makes" "makes" s_makes _ fd_makes := F_makes
  have b_makes : Binds K fd_makes ["value"] [] := F_makes.bindsN fun _ _ _ _ _ _ us hl => match us, hl with | [_], _ => rfl
  obtain ⟨fd_Moment_seconds, F_Moment_seconds⟩ := c.def_ 16 (d := ⟨.p "Moment" "seconds", "seconds", "Moment.seconds", defArgs s_Moment_seconds, defBody s_Moment_seconds, defScope s_Moment_seconds, [], []⟩) rfl
  replace F_Moment_seconds : FnQ K "seconds" "Moment.seconds" s_Moment_seconds _ fd_Moment_seconds := F_Moment_seconds
  have b_Moment_seconds : Binds K fd_Moment_seconds ["self"] [] := F_Moment_seconds.bindsN fun _ _ _ _ _ _ us hl => match us, hl with | [_], _ => rfl
  obtain ⟨fd_seconds_of, F_seconds_of⟩ := c.def_ 17 (d := ⟨.g "seconds_of", "seconds_of", "seconds_of", defArgs s_seconds_of, defBody s_seconds_of, defScope s_seconds_of, [], []⟩) rfl
  replace F_seconds_of : FnQ K "seconds_of" "seconds_of" s_seconds_of _ fd_seconds_of := F_seconds_of
  have b_seconds_of : Binds K fd_seconds_of ["value"] [] := F_seconds_of.bindsN fun _ _ _ _ _ _ us hl => match us, hl with | [_], _ => rfl
  obtain ⟨fd_backs, F_backs⟩ := c.def_ 18 (d := ⟨.g "backs", "backs", "backs", defArgs s_backs, defBody s_backs, defScope s_backs, [], []⟩) rfl
  replace F_backs : FnQ K "backs" "backs" s_backs _ fd_backs := F_backs
  have b_backs : Binds K fd_backs ["deed"] [] := F_backs.bindsN fun _ _ _ _ _ _ us hl => match us, hl with | [_], _ => rfl
  obtain ⟨fd_File___init__, F_File___init__⟩ := c.def_ 19 (d := ⟨.m "File" "__init__", "__init__", "File.__init__", defArgs s_File___init__, defBody s_File___init__, defScope s_File___init__, [], []⟩) rfl
  replace F_File___init__ : FnQ K "__init__" "File.__init__" s_File___init__ _ fd_File___init__ := F_File___init__
  have b_File___init__ : Binds K fd_File___init__ ["self", "rule", "deed", "at"] [] := F_File___init__.bindsN fun _ _ _ _ _ _ us hl => match us, hl with | [_, _, _, _], _ => rfl
  obtain ⟨fd_Rule_sets, F_Rule_sets⟩ := c.def_ 20 (d := ⟨.m "Rule" "sets", "sets", "Rule.sets", defArgs s_Rule_sets, defBody s_Rule_sets, defScope s_Rule_sets, [], []⟩) rfl
  replace F_Rule_sets : FnQ K "sets" "Rule.sets" s_Rule_sets _ fd_Rule_sets := F_Rule_sets
  have b_Rule_sets : Binds K fd_Rule_sets ["self", "marks", "at"] [] := F_Rule_sets.bindsN fun _ _ _ _ _ _ us hl => match us, hl with | [_, _, _], _ => rfl
  obtain ⟨fd_File_do, F_File_do⟩ := c.def_ 21 (d := ⟨.m "File" "do", "do", "File.do", defArgs s_File_do, defBody s_File_do, defScope s_File_do, [], []⟩) rfl
  replace F_File_do : FnQ K "do" "File.do" s_File_do _ fd_File_do := F_File_do
  have b_File_do : Binds K fd_File_do ["self", "deed", "at"] [] := F_File_do.bindsN fun _ _ _ _ _ _ us hl => match us, hl with | [_, _, _], _ => rfl
  obtain ⟨fd_File_marks, F_File_marks⟩ := c.def_ 22 (d := ⟨.m "File" "marks", "marks", "File.marks", defArgs s_File_marks, defBody s_File_marks, defScope s_File_marks, [], []⟩) rfl
  replace F_File_marks : FnQ K "marks" "File.marks" s_File_marks _ fd_File_marks := F_File_marks
  have b_File_marks : Binds K fd_File_marks ["self"] [] := F_File_marks.bindsN fun _ _ _ _ _ _ us hl => match us, hl with | [_], _ => rfl
  obtain ⟨fd_Moment___init__, F_Moment___init__⟩ := c.def_ 23 (d := ⟨.m "Moment" "__init__", "__init__", "Moment.__init__", defArgs s_Moment___init__, defBody s_Moment___init__, defScope s_Moment___init__, [], []⟩) rfl
  replace F_Moment___init__ : FnQ K "__init__" "Moment.__init__" s_Moment___init__ _ fd_Moment___init__ := F_Moment___init__
  have b_Moment___init__ : Binds K fd_Moment___init__ ["self", "seconds"] [] := F_Moment___init__.bindsN fun _ _ _ _ _ _ us hl => match us, hl with | [_, _], _ => rfl
  obtain ⟨fd_Rule___call__, F_Rule___call__⟩ := c.def_ 24 (d := ⟨.m "Rule" "__call__", "__call__", "Rule.__call__", defArgs s_Rule___call__, defBody s_Rule___call__, defScope s_Rule___call__, [], []⟩) rfl
  replace F_Rule___call__ : FnQ K "__call__" "Rule.__call__" s_Rule___call__ _ fd_Rule___call__ := F_Rule___call__
  have b_Rule___call__ : Binds K fd_Rule___call__ ["self", "file", "at"] [] := F_Rule___call__.bindsN fun _ _ _ _ _ _ us hl => match us, hl with | [_, _, _], _ => rfl
  obtain ⟨fd_Rule___eq__, F_Rule___eq__⟩ := c.def_ 25 (d := ⟨.m "Rule" "__eq__", "__eq__", "Rule.__eq__", defArgs s_Rule___eq__, defBody s_Rule___eq__, defScope s_Rule___eq__, [], []⟩) rfl
  replace F_Rule___eq__ : FnQ K "__eq__" "Rule.__eq__" s_Rule___eq__ _ fd_Rule___eq__ := F_Rule___eq__
  have b_Rule___eq__ : Binds K fd_Rule___eq__ ["self", "other"] [] := F_Rule___eq__.bindsN fun _ _ _ _ _ _ us hl => match us, hl with | [_, _], _ => rfl
  obtain ⟨fd__law_equal, F__law_equal⟩ := c.def_ 26 (d := ⟨.g "_law_equal", "_law_equal", "_law_equal", defArgs s__law_equal, defBody s__law_equal, defScope s__law_equal, [], []⟩) rfl
  replace F__law_equal : FnQ K "_law_equal" "_law_equal" s__law_equal _ fd__law_equal := F__law_equal
  have b__law_equal : Binds K fd__law_equal ["source", "rule", "after", "kind"] [] := F__law_equal.bindsN fun _ _ _ _ _ _ us hl => match us, hl with | [_, _, _, _], _ => rfl
  obtain ⟨fd__law_refused, F__law_refused⟩ := c.def_ 27 (d := ⟨.g "_law_refused", "_law_refused", "_law_refused", defArgs s__law_refused, defBody s__law_refused, defScope s__law_refused, [], []⟩) rfl
  replace F__law_refused : FnQ K "_law_refused" "_law_refused" s__law_refused _ fd__law_refused := F__law_refused
  have b__law_refused : Binds K fd__law_refused ["call"] [] := F__law_refused.bindsN fun _ _ _ _ _ _ us hl => match us, hl with | [_], _ => rfl
  obtain ⟨fd__law_refused_too, F__law_refused_too⟩ := c.def_ 28 (d := ⟨.g "_law_refused_too", "_law_refused_too", "_law_refused_too", defArgs s__law_refused_too, defBody s__law_refused_too, defScope s__law_refused_too, [], []⟩) rfl
  replace F__law_refused_too : FnQ K "_law_refused_too" "_law_refused_too" s__law_refused_too _ fd__law_refused_too := F__law_refused_too
  have b__law_refused_too : Binds K fd__law_refused_too ["rule", "wrong"] [] := F__law_refused_too.bindsN fun _ _ _ _ _ _ us hl => match us, hl with | [_, _], _ => rfl
  obtain ⟨fd_law, F_law⟩ := c.def_ 29 (d := ⟨.g "law", "law", "law", defArgs s_law, defBody s_law, defScope s_law, [], []⟩) rfl
  replace F_law : FnQ K "law" "law" s_law _ fd_law := F_law
  have b_law : Binds K fd_law ["script"] [] := F_law.bindsN fun _ _ _ _ _ _ us hl => match us, hl with | [_], _ => rfl
  have bL := FunD.bindsA (ps := ["script"]) F_law fun _ _ _ _ _ _ us hl => match us, hl with | [_], _ => rfl
  refine ⟨fd_law, fun s v => bL s [v] rfl, fun base _ _ hTB => ?_⟩
  have e_NoMoment : ErrL P w K mg "NoMoment" (He.ga K "NoMoment") ["value"] := (c.err 30 (d := ⟨.e "NoMoment" ["value"] errFile, "__init__", "NoMoment.__init__", defArgs s_NoMoment___init__, defBody s_NoMoment___init__, defScope s_NoMoment___init__, [], []⟩) rfl rfl).value X G hfile htop "no moment" ⟨9, 17, 9, 21⟩ ⟨9, 23, 9, 28⟩ ⟨10, 8, 10, 13⟩ ⟨10, 8, 10, 15⟩ ⟨10, 8, 10, 24⟩ ⟨10, 25, 10, 36⟩ ⟨10, 8, 10, 37⟩ ⟨10, 8, 10, 37⟩ ⟨11, 8, 11, 12⟩ ⟨11, 8, 11, 18⟩ ⟨11, 21, 11, 26⟩ ⟨11, 8, 11, 26⟩ rfl rfl rfl rfl rfl
  have e_NoFile : ErrL P w K mg "NoFile" (He.ga K "NoFile") ["value"] := (c.err 31 (d := ⟨.e "NoFile" ["value"] errFile, "__init__", "NoFile.__init__", defArgs s_NoFile___init__, defBody s_NoFile___init__, defScope s_NoFile___init__, [], []⟩) rfl rfl).value X G hfile htop "no file" ⟨19, 17, 19, 21⟩ ⟨19, 23, 19, 28⟩ ⟨20, 8, 20, 13⟩ ⟨20, 8, 20, 15⟩ ⟨20, 8, 20, 24⟩ ⟨20, 25, 20, 34⟩ ⟨20, 8, 20, 35⟩ ⟨20, 8, 20, 35⟩ ⟨21, 8, 21, 12⟩ ⟨21, 8, 21, 18⟩ ⟨21, 21, 21, 26⟩ ⟨21, 8, 21, 26⟩ rfl rfl rfl rfl rfl
  have e_NoRule : ErrL P w K mg "NoRule" (He.ga K "NoRule") ["value"] := (c.err 32 (d := ⟨.e "NoRule" ["value"] errFile, "__init__", "NoRule.__init__", defArgs s_NoRule___init__, defBody s_NoRule___init__, defScope s_NoRule___init__, [], []⟩) rfl rfl).value X G hfile htop "no rule" ⟨14, 17, 14, 21⟩ ⟨14, 23, 14, 28⟩ ⟨15, 8, 15, 13⟩ ⟨15, 8, 15, 15⟩ ⟨15, 8, 15, 24⟩ ⟨15, 25, 15, 34⟩ ⟨15, 8, 15, 35⟩ ⟨15, 8, 15, 35⟩ ⟨16, 8, 16, 12⟩ ⟨16, 8, 16, 18⟩ ⟨16, 21, 16, 26⟩ ⟨16, 8, 16, 26⟩ rfl rfl rfl rfl rfl
  have c__law_source : Fn P w K mg base "_law_source" ["script", "turn"] CX0 1 (spM K 2 m__law_source) := ⟨_, _, V.glo 47 rfl, F__law_source.kp, b__law_source, ok__law_source F__law_source V ⟩
  have c__law_draw : Fn P w K mg base "_law_draw" ["source", "amount"] CX0 1 (spM K 2 m__law_draw) := ⟨_, _, V.glo 48 rfl, F__law_draw.kp, b__law_draw, ok__law_draw F__law_draw V ⟩
  have c__law_pick : Fn P w K mg base "_law_pick" ["source", "items"] CX0 2 (spM K 2 m__law_pick) := ⟨_, _, V.glo 49 rfl, F__law_pick.kp, b__law_pick, ok__law_pick F__law_pick V c__law_draw⟩
  have c_is_whole : Fn P w K mg base "is_whole" ["value"] CX0 1 (spM K 1 m_is_whole) := ⟨_, _, V.glo 50 rfl, F_is_whole.kp, b_is_whole, ok_is_whole F_is_whole V ⟩
  have c_is_between : Fn P w K mg base "is_between" ["value", "low", "high"] CX0 2 (spM K 3 m_is_between) := ⟨_, _, V.glo 51 rfl, F_is_between.kp, b_is_between, ok_is_between F_is_between V c_is_whole⟩
  have c_Rule___init__ : Nw P w K mg base "Rule" (He.ga K "Rule") ["self", "word", "after"] CX0 1 (spM K 3 m_Rule___init__) := ⟨_, _, V.glo 52 rfl, V.mkr 53 rfl, b_Rule___init__, ok_Rule___init__ F_Rule___init__ V ⟩
  have c_Rule_seldom : Sm P w K mg base (He.ga K "Rule") "seldom" ["after"] CX0 3 (spM K 1 m_Rule_seldom) := by
    obtain ⟨h1, p, h2, h3⟩ := V.stm (c := "Rule") (x := "seldom") 54 rfl
    exact ⟨_, p, _, _, h1, h2, h3, F_Rule_seldom.kp, b_Rule_seldom, ok_Rule_seldom F_Rule_seldom V c_is_between c_Rule___init__⟩
  have c_Rule_always : Sm P w K mg base (He.ga K "Rule") "always" [] CX0 3 (spM K 0 m_Rule_always) := by
    obtain ⟨h1, p, h2, h3⟩ := V.stm (c := "Rule") (x := "always") 55 rfl
    exact ⟨_, p, _, _, h1, h2, h3, F_Rule_always.kp, b_Rule_always, ok_Rule_always F_Rule_always V c_Rule___init__⟩
  have c_Rule_never : Sm P w K mg base (He.ga K "Rule") "never" [] CX0 3 (spM K 0 m_Rule_never) := by
    obtain ⟨h1, p, h2, h3⟩ := V.stm (c := "Rule") (x := "never") 56 rfl
    exact ⟨_, p, _, _, h1, h2, h3, F_Rule_never.kp, b_Rule_never, ok_Rule_never F_Rule_never V c_Rule___init__⟩
  have c__law_rule : Fn P w K mg base "_law_rule" ["kind", "after"] CX0 4 (spM K 2 m__law_rule) := ⟨_, _, V.glo 57 rfl, F__law_rule.kp, b__law_rule, ok__law_rule F__law_rule V c_Rule_seldom c_Rule_always c_Rule_never⟩
  have c_Rule_after : Pr P w K mg base (He.ga K "Rule") "after" ["self"] CX0 1 (spM K 1 m_Rule_after) := ⟨_, _, _, V.prp 58 rfl, b_Rule_after, ok_Rule_after F_Rule_after V ⟩
  have c_Rule_word : Pr P w K mg base (He.ga K "Rule") "word" ["self"] CX0 1 (spM K 1 m_Rule_word) := ⟨_, _, _, V.prp 59 rfl, b_Rule_word, ok_Rule_word F_Rule_word V ⟩
  have c_check_rule : Fn P w K mg base "check_rule" ["value"] CX0 1 (spM K 1 m_check_rule) := ⟨_, _, V.glo 60 rfl, F_check_rule.kp, b_check_rule, ok_check_rule F_check_rule V ⟩
  have c_is_time : Fn P w K mg base "is_time" ["value"] CX0 3 (spM K 1 m_is_time) := ⟨_, _, V.glo 61 rfl, F_is_time.kp, b_is_time, ok_is_time F_is_time V c_is_between⟩
  have c_is_deed : Fn P w K mg base "is_deed" ["value"] CX0 4 (spM K 1 m_is_deed) := ⟨_, _, V.glo 62 rfl, F_is_deed.kp, b_is_deed, ok_is_deed F_is_deed V c_is_time⟩
  have c_makes : Fn P w K mg base "makes" ["value"] CX0 5 (spM K 1 m_makes) := ⟨_, _, V.glo 63 rfl, F_makes.kp, b_makes, ok_makes F_makes V c_is_deed⟩
  have c_Moment_seconds : Pr P w K mg base (He.ga K "Moment") "seconds" ["self"] CX0 1 (spM K 1 m_Moment_seconds) := ⟨_, _, _, V.prp 64 rfl, b_Moment_seconds, ok_Moment_seconds F_Moment_seconds V ⟩
  have c_seconds_of : Fn P w K mg base "seconds_of" ["value"] CX0 3 (spM K 1 m_seconds_of) := ⟨_, _, V.glo 65 rfl, F_seconds_of.kp, b_seconds_of, ok_seconds_of F_seconds_of V c_Moment_seconds c_is_between⟩
  have c_backs : Fn P w K mg base "backs" ["deed"] CX0 5 (spM K 1 m_backs) := ⟨_, _, V.glo 66 rfl, F_backs.kp, b_backs, ok_backs F_backs V c_is_deed⟩
  have c_File___init__ : Nw P w K mg base "File" (He.ga K "File") ["self", "rule", "deed", "at"] CX0 6 (spM K 4 m_File___init__) := ⟨_, _, V.glo 67 rfl, V.mkr 68 rfl, b_File___init__, ok_File___init__ F_File___init__ V c_check_rule c_makes c_seconds_of c_backs⟩
  have c_Rule_sets : Mt P w K mg base (He.ga K "Rule") "sets" ["self", "marks", "at"] CX0 1 (spM K 3 m_Rule_sets) := ⟨_, _, V.meth 69 rfl, b_Rule_sets, ok_Rule_sets F_Rule_sets V ⟩
  have c_File_do : Mt P w K mg base (He.ga K "File") "do" ["self", "deed", "at"] CX0 6 (spM K 3 m_File_do) := ⟨_, _, V.meth 70 rfl, b_File_do, ok_File_do F_File_do V c_is_deed c_seconds_of c_backs c_Rule_sets c_makes⟩
  have c_File_marks : Mt P w K mg base (He.ga K "File") "marks" ["self"] CX0 1 (spM K 1 m_File_marks) := ⟨_, _, V.meth 71 rfl, b_File_marks, ok_File_marks F_File_marks V ⟩
  have c_Moment___init__ : Nw P w K mg base "Moment" (He.ga K "Moment") ["self", "seconds"] CX0 3 (spM K 2 m_Moment___init__) := ⟨_, _, V.glo 72 rfl, V.mkr 73 rfl, b_Moment___init__, ok_Moment___init__ F_Moment___init__ V c_is_between⟩
  have c_Rule___call__ : Mt P w K mg base (He.ga K "Rule") "__call__" ["self", "file", "at"] CX0 4 (spM K 3 m_Rule___call__) := ⟨_, _, V.meth 74 rfl, b_Rule___call__, ok_Rule___call__ F_Rule___call__ V c_seconds_of c_Rule_sets⟩
  have c_Rule___eq__ : Mt P w K mg base (He.ga K "Rule") "__eq__" ["self", "other"] CX0 3 (spM K 2 m_Rule___eq__) := ⟨_, _, V.meth 75 rfl, b_Rule___eq__, ok_Rule___eq__ F_Rule___eq__ V c_Rule_after c_Rule_word⟩
  have c__law_equal : Fn P w K mg base "_law_equal" ["source", "rule", "after", "kind"] CX0 5 (spM K 4 m__law_equal) := ⟨_, _, V.glo 76 rfl, F__law_equal.kp, b__law_equal, ok__law_equal F__law_equal V c__law_draw c__law_pick c__law_rule c_Rule___eq__ c_Rule_after c_Rule_word⟩
  have c__law_refused : Rf P w K mg base "_law_refused" 0 2 fe__law_refused l__law_refused r__law_refused := ok__law_refused F__law_refused V (V.glo 77 rfl) b__law_refused e_NoMoment e_NoFile e_NoRule
  have cx_Rule_seldom : Sm P w K mg base (He.ga K "Rule") "seldom" ["after"] (L2.CX P w) 3 (spX K 1 x_Rule_seldom) := by
    obtain ⟨h1, p, h2, h3⟩ := V.stm (c := "Rule") (x := "seldom") 54 rfl
    exact ⟨_, p, _, _, h1, h2, h3, F_Rule_seldom.kp, b_Rule_seldom, okx_Rule_seldom F_Rule_seldom V c_is_between e_NoRule c_Rule___init__⟩
  have cx_Rule___call__ : Mt P w K mg base (He.ga K "Rule") "__call__" ["self", "file", "at"] (L2.CX P w) 4 (spX K 3 x_Rule___call__) := ⟨_, _, V.meth 74 rfl, b_Rule___call__, okx_Rule___call__ F_Rule___call__ V e_NoFile c_seconds_of e_NoMoment c_Rule_sets⟩
  obtain ⟨lc__law_refused_too, lt__law_refused_too, lm__law_refused_too⟩ := lm_of (x := "_law_refused_too") (mg := mg) (base := base) (V.gen 78 rfl) hTB
  have c__law_refused_too : FG P w K mg base "_law_refused_too" ["rule", "wrong"] CX0 8 (spM K 2 m__law_refused_too) := ⟨_, _, V.glo 79 rfl, F__law_refused_too.kp, b__law_refused_too, ok__law_refused_too F__law_refused_too V lm__law_refused_too c__law_refused cx_Rule___call__⟩
  obtain ⟨lc_law, lt_law, lm_law⟩ := lm_of (x := "law") (mg := mg) (base := base) (V.gen 80 rfl) hTB
  exact ok_law F_law V lm_law c__law_source c__law_pick c__law_draw c__law_rule c_Rule_after c_Rule_word c_File___init__ c_File_do c_File_marks c_Moment___init__ c_Rule___call__ c__law_equal c__law_refused cx_Rule_seldom c__law_refused_too cx_Rule___call__
end Ag
open PySem PySem.W PySem.Calls PyProof.Rows
set_option maxHeartbeats 0 in
theorem PySem.Challenge.cw_agedfiles_k07_rules_told_holds : PySem.Challenge.rw_agedfiles_k07_rules_told.Holds := by
  w_on; o_law
  refine HandSHeadRun.head_any (r := OpenLaw.row PySem.Challenge.rw_agedfiles_k07_rules_told) (q := view (OpenLaw.row PySem.Challenge.rw_agedfiles_k07_rules_told).prog [39]) (H := Ag.hk) (ob := Ag.ob) (M := 40000) (loose := Ag.nmL) (d := HandSHeadRun.topDef (OpenLaw.row PySem.Challenge.rw_agedfiles_k07_rules_told).prog 39) (kwd := []) Ag.ob_eq
    (by kernel_rfl) (fun s => by kernel_rfl) Ag.run (by kernel_rfl) (by kernel_rfl) (by kernel_rfl) (by rfl) (by first | assumption | decide +kernel) (by decide +kernel) ⟨rfl, rfl, rfl, rfl, rfl, by decide +kernel⟩ ?hw ?hc
  case hw => w_witness2
  case hc =>
    refine Ag.walk_ofGT (l := PySem.Challenge.rw_agedfiles_k07_rules_told) (n := 63) (k := 9) (x := "script") (CX := L2.CX0) rfl (by decide) (by kernel_rfl) ⟨rfl, by decide, by decide⟩ ?F (fun _ _ _ _ z => z)
    intro w mg fa h Y G hmg0
    obtain ⟨K, KX, c, em⟩ := Y
    have hmg : mg ("law" : PySem.Str) = some (.ref fa) := by
      have e : (HandSHeadRun.topDef (OpenLaw.row PySem.Challenge.rw_agedfiles_k07_rules_told).prog 39).name = ("law" : PySem.Str) := by kernel_rfl
      rw [← e]
      exact hmg0
    obtain ⟨fd, hb, hF⟩ := Ag.all_mk (P := (PySem.Challenge.rw_agedfiles_k07_rules_told).prog) (w := w) (by first | rfl | decide +kernel) (by first | rfl | decide +kernel) KX G hmg c
    exact ⟨K, Ag.tabCs K, fd, Ag.spM K 1 Ag.m_law, KX, Ag.csOk KX ((⟨c.facts, h, KX, G⟩ : Ag.Fcts Ag.faL K mg).gen 82 rfl) em, hb, fun H a ns hl hT hS => Ag.law_sp (n := 63) Ag.law_true H a ns hl hS (Ag.tbs0 hT) _, hF⟩
