import PyProof.Rows.All
import Wide.All
import OpenK.AllK
import Wide.FinOn
import HandS.ForMost
import HandS.Evl
import HandS.IsInst
import HandS.HeadHook1
import HandS.HeadHook2
import HandS.HeadEnd
import KE.KExcSuper
import HandS.Exc
import HandS.ExcIs
import KE.KStateDown
import HandS.Head0
import HandS.Head1
import HandS.Head2
import HandS.Lambda
import PyProof.EqAt
import PyProof.EqKinds
import PyProof.TupleCall
import HandS.Base
import HandS.Call
import HandS.List
import HandS.SlotsOwn
import HandS.Words
import HandS.Property
import HandS.Wide
import HandS.EndBits
import HandS.TupLe
import HandS.ExcInit
import HandS.Codes
import HandS.WordsExc
import PyProof.ReprRoads
import HandS.RaiseMore
import HandS.Dict
import HandS.TryMany
import HandS.Strs
import HandS.More
import HandS.Steps
import HandS.ClsMeth
import HandS.Star
import HandS.Walk
import HandS.Style
import HandS.DictComp
import KE.GoesMore
import KE.GoesEnum
import HandS.SortInts
import HandS.Defaults
import HandS.Small
import HandS.Deep
import HandS.TupAny
import HandS.WideBits
import KE.KRevSl
import HandS.MakeKwOnly
import HandS.TryOnly
import PyProof.DictUpdate
import PyProof.DictDisplay
import KE.KOpsOwn
import OpenK.KMore
import HandS.SetFor
import HandS.EndTab
import PySem.Sem
import PySem.Challenge.RW_agedfiles_k11_ways_told
set_option Elab.async false
set_option linter.all false
set_option maxRecDepth 100000
set_option maxHeartbeats 4000000
namespace Ag
open PySem PySem.Spec PyProof.Rows L2 Evl
def bT : List String := ["int", "bool", "str", "list", "tuple", "dict"]
def bT0 : List String := "NoneType" :: bT
def eqB (a b : Option Bool) : Bool := decide (a = b)
def clfB (K : PySem.W.Frag) (cls : List Str) (sub : Str → Str → Bool) : Bool :=
  (cls.all fun c => (He.Fa.cls c).ok K && (He.eqO (PySem.W.findIn K (.ref (He.ga K c)) "__class__") (some (some (.builtin "object.__class__"))) && eqB (PySem.W.mroIn K (He.ga K c) (.type "object")) (some true))) &&
  (He.eqO (PySem.W.specialIn K (.builtin "object.__class__") "__get__") (some (some (.builtin "getset_descriptor.__get__"))) && (eqB (PySem.W.takesIn K (.builtin "object.__class__")) (some true) &&
  ((cls.all fun c => cls.all fun d => eqB (PySem.W.kitOne K (.ref (He.ga K c)) (.ref (He.ga K d))) (some (sub c d))) &&
  ((cls.all fun c => bT.all fun t => eqB (PySem.W.kitOne K (.ref (He.ga K c)) (.type t)) (some false)) && bT0.all fun t => cls.all fun c => eqB (PySem.W.kitOne K (.type t) (.ref (He.ga K c))) (some false)))))
inductive Pl where
  | g (x : Str) | m (c x : Str) | p (c x : Str) | s (c x : Str)
  /-- the __init__ of an own error with some fields, in a file -/
  | e (c : Str) (fls : List Str) (file : Str)
  /-- a property's setter -/
  | q (c x : Str)
def recB (K : PySem.W.Frag) (t : String) (p : Addr) : Addr := match PySem.W.recIn K p t with
  | some (_ :: .ref g :: _) => g
  | _ => 0
def recA (K : PySem.W.Frag) (t : String) (p : Addr) : Addr := match PySem.W.recIn K p t with
  | some (.ref g :: _) => g
  | _ => 0
def smA (K : PySem.W.Frag) (C : Addr) (m : Str) : Addr := match PySem.W.findCls K (.ref C) (.type "type") m with
  | some (.get _ (.ref p) _ _) => p
  | _ => 0
def Pl.ad (K : PySem.W.Frag) : Pl → Addr
  | .g x => He.ga K x
  | .m c x => He.ma K (He.ga K c) x
  | .p c x => recA K "property" (He.ma K (He.ga K c) x)
  | .s c x => recA K "staticmethod" (smA K (He.ga K c) x)
  | .e c _ _ => He.ma K (He.ga K c) "__init__"
  | .q c x => recB K "property" (He.ma K (He.ga K c) x)
def erB (K : PySem.W.Frag) (c : Str) (fls : List Str) (file q : Str) : Bool :=
  (match K.lookup (He.ga K c) with
    | some ⟨.type ty, _, .cls cd, sl⟩ => (match cd.mro, sl.toList with
      | .ref C' :: bm, [_, _, _, _, some (.builtin n), _] => decide (ty = "type") && (decide (C' = He.ga K c) && (decide (n = "ValueError.__new__") && (cd.hasDict && (!cd.hasDel && PySem.HandSPX.refsVE bm))))
      | _, _ => false)
    | _ => false) &&
  (He.eqO (PySem.W.findIn K (.ref (He.ga K c)) "__setattr__") (some (some (.builtin "object.__setattr__"))) &&
  (He.eqO (PySem.W.findIn K (.ref (He.ga K c)) "__getattribute__") (some (some (.builtin "BaseException.__getattribute__"))) &&
  (He.eqO (PySem.W.findIn K (.ref (He.ga K c)) "__getattr__") (some none) &&
  ((fls.all fun f => He.eqO (PySem.W.findIn K (.ref (He.ga K c)) f) (some none)) &&
  (He.eqO (PySem.W.findIn K (.ref (He.ga K c)) "__init__") (some (some (.ref (He.ma K (He.ga K c) "__init__")))) &&
  (decide (PySem.W.typeIn K (.ref (He.ma K (He.ga K c) "__init__")) = some (.type "function")) &&
  (PySem.W.keepIn K (.ref (He.ga K c)) &&
  (decide (PySem.W.subIn K (.ref (He.ga K c)) (.type "BaseException") = some true) &&
  (decide (PySem.W.typeIn K (.ref (He.ga K c)) = some (.type "type")) &&
  (PySem.W.hasDictIn K (He.ga K c) &&
  (decide (PySem.W.exmOne K (.ref (He.ga K c)) (.ref (He.ga K c)) = some true) &&
  (He.eqO (PySem.W.ks_superIn K (He.ga K c) (He.ga K c) "__init__") (some (some (.builtin "ValueError.__init__"))) &&
  (decide (PySem.W.subIn K (.ref (He.ga K c)) (.type "ValueError") = some true) &&
  (decide (PySem.W.mroIn K (He.ga K c) (.ref (He.ga K c)) = some true) &&
  (He.eqO (PySem.W.nsIn K PySem.cStatics "thirdparty.any") (some none) &&
  (He.eqO (PySem.W.nsIn K mainGlobals "super") (some none) &&
  (He.eqO (PySem.W.nsIn K mainGlobals c) (some (some (.ref (He.ga K c)))) &&
  (match K.lookup (He.ma K (He.ga K c) "__init__") with
    | some ⟨_, _, .func fd, _⟩ => PySem.W.codeIn K fd.code q && (decide (fd.defaults = .none) && (decide (fd.kwdefaults = .none) && (match fd.closure, fd.code with
      | [(nm, cc)], .ref cda => decide (nm = "__class__") && ((match K.lookup cc with
          | some ⟨_, _, .cell (some (.ref C')), _⟩ => decide (C' = He.ga K c)
          | _ => false) && (match K.lookup cda with
          | some ⟨_, _, .fields vs, _⟩ => (match (vs.toList)[2]? with
            | some (Value.str fl _) => decide (fl = file)
            | _ => false)
          | _ => false))
      | _, _ => false)))
    | _ => false))))))))))))))))))
structure DefV where
  at_ : Pl
  name : Str
  qual : Str
  params : Arguments
  body : List Stmt
  scope : Scope
  dfl : List He.Dv
  kwd : List (Str × He.Dv)
def DefV.dvs (d : DefV) (K : PySem.W.Frag) : List V := d.dfl.map (He.Dv.v K)
def DefV.kws (d : DefV) (K : PySem.W.Frag) : List (Str × V) := d.kwd.map fun q => (q.1, q.2.v K)
def fnV (K : PySem.W.Frag) (a : Addr) : He.FnW := match K.lookup a with
  | some ⟨_, _, .func fd, _⟩ => some (fd.name, fd.qualname, fd.params, fd.body, fd.scope, fd.globals, fd.closure, fd.builtins)
  | _ => none
def DefV.val (d : DefV) : He.FnW := some (d.name, d.qual, d.params, .stmts d.body, d.scope, mainGlobals, [], builtinsNs)
def DefV.okF (K : PySem.W.Frag) (d : DefV) : Bool := PySem.W.keepIn K (.ref (d.at_.ad K)) && (match K.lookup (d.at_.ad K) with
  | some ⟨_, _, .func fd, _⟩ => PySem.W.codeIn K fd.code d.qual && (He.dflB K fd.defaults (d.dvs K) && He.kwdB K fd.kwdefaults (d.kws K))
  | _ => false)
def DefV.ok (K : PySem.W.Frag) (d : DefV) : Bool := match d.at_ with
  | .e c fls file => erB K c fls file d.qual
  | _ => d.okF K
def fnW (K : PySem.W.Frag) (d : DefV) : He.FnW := match d.at_ with
  | .e _ _ _ => (match fnV K (d.at_.ad K) with
    | some (n, q, p, b, s, g, _, l) => some (n, q, p, b, s, g, [], l)
    | none => none)
  | _ => fnV K (d.at_.ad K)
inductive FaV where
  | he (f : He.Fa)
  | prp (c x : Str)
  | stm (c x : Str)
  | tup (x : Str) (vs : List Str)
  | fni (c : Str)
  | nof (c : Str)
  | noe (c : Str)
  | clf (cls : List Str) (sub : Str → Str → Bool)
  | exi (c : Str)
  | kito (c d : Str) (b : Bool)
  | kitt (c : Str) (d : String) (b : Bool)
  | exl (l : List (Str × Str × Bool))
  | gen (p : PySem.W.Frag → Bool)
def FaV.ok (K : PySem.W.Frag) : FaV → Bool
  | .he f => f.ok K
  | .prp c x => He.eqO (PySem.W.findIn K (.ref (He.ga K c)) x) (some (some (.ref (He.ma K (He.ga K c) x)))) &&
    (He.eqO (PySem.W.specialIn K (.ref (He.ma K (He.ga K c) x)) "__get__") (some (some (.builtin "property.__get__"))) &&
    (eqB (PySem.W.takesIn K (.ref (He.ma K (He.ga K c) x))) (some true) && (match PySem.W.recIn K (He.ma K (He.ga K c) x) "property" with
      | some (.ref _ :: _) => true
      | _ => false)))
  | .stm c x => PySem.W.readsIn K (He.ga K c) (.type "type") && (He.eqO (PySem.W.specialIn K (.ref (He.ga K c)) "__getattribute__") (some (some (.builtin "type.__getattribute__"))) &&
    ((match PySem.W.findCls K (.ref (He.ga K c)) (.type "type") x with
      | some (.get (.builtin s) (.ref p) .none (.ref c')) => decide (s = "staticmethod.__get__") && decide (c' = He.ga K c)
      | _ => false) && (match PySem.W.recIn K (smA K (He.ga K c) x) "staticmethod" with
      | some (.ref _ :: _) => true
      | _ => false)))
  | .tup x vs => He.tupB K x (vs.map He.Dv.str)
  | .fni c => PySem.W.fnIn K (He.ma K (He.ga K c) "__getitem__")
  | .nof c => PySem.W.notFirst K (He.ga K c) (.ref (He.ga K c))
  | .noe c => He.eqO (PySem.W.findIn K (.ref (He.ga K c)) "__ne__") (some (some (.builtin "object.__ne__"))) && eqB (PySem.W.subIn K (.ref (He.ga K c)) (.type "object")) (some true)
  | .clf cls sub => clfB K cls sub
  | .exi c => He.eqO (PySem.W.findIn K (.ref (He.ga K c)) "__getattribute__") (some (some (.builtin "BaseException.__getattribute__"))) &&
    (He.eqO (PySem.W.findIn K (.ref (He.ga K c)) "__getattr__") (some none) && (decide (PySem.W.subIn K (.ref (He.ga K c)) (.type "BaseException") = some true) && (PySem.W.hasDictIn K (He.ga K c) &&
    (He.eqO (PySem.W.findIn K (.ref (He.ga K c)) "__class__") (some (some (.builtin "object.__class__"))) && (He.eqO (PySem.W.specialIn K (.builtin "object.__class__") "__get__") (some (some (.builtin "getset_descriptor.__get__"))) &&
    (decide (PySem.W.takesIn K (.builtin "object.__class__") = some true) && decide (PySem.W.mroIn K (He.ga K c) (.type "object") = some true)))))))
  | .kito c d b => decide (PySem.W.kitOne K (.ref (He.ga K c)) (.ref (He.ga K d)) = some b)
  | .kitt c d b => decide (PySem.W.kitOne K (.ref (He.ga K c)) (.type d) = some b)
  | .exl l => l.all fun t => decide (PySem.W.exmOne K (.ref (He.ga K t.1)) (.ref (He.ga K t.2.1)) = some t.2.2)
  | .gen p => p K
def obsV (fa : List FaV) (fn : List DefV) (K : PySem.W.Frag) : He.AlD := ((fa.all fun f => f.ok K) && fn.all fun d => d.ok K, fn.map fun d => fnW K d)
def valH (fn : List DefV) : He.AlD := (true, fn.map DefV.val)
def SaysV (fa : List FaV) (fn : List DefV) (K : PySem.W.Frag) : Prop := obsV fa fn K = valH fn
def clsDt (g : Addr → Option Obj) (a : Addr) : List Addr := match g a with
  | some o => (match o.data with
    | .cls cd => cd.ns :: cd.mro.flatMap He.refV
    | _ => [])
  | none => []
def clsAd (g : Addr → Option Obj) (c : Str) : List Addr := (He.ga (He.frG g [mainGlobals]) c) :: ((clsDt g (He.ga (He.frG g [mainGlobals]) c)).flatMap fun b => b :: (clsDt g b).take 1)
def fnAd (g : Addr → Option Obj) (a : Addr) : List Addr := a :: match g a with
  | some o => (match o.data with
    | .func fd => He.refV fd.code ++ (He.refV fd.defaults ++ He.refV fd.kwdefaults)
    | _ => [])
  | none => []
def recAd (g : Addr → Option Obj) (t : String) (p : Addr) : List Addr := p :: fnAd g (recA (He.frG g [p]) t p)
def plAd (g : Addr → Option Obj) (K : PySem.W.Frag) : Pl → List Addr
  | .g x => fnAd g (He.ga K x)
  | .m c x => fnAd g (He.ma K (He.ga K c) x)
  | .p c x => recAd g "property" (He.ma K (He.ga K c) x)
  | .s c x => recAd g "staticmethod" (He.ma K (He.ga K c) x)
  | .q c x => (He.ma K (He.ga K c) x) :: fnAd g (recB (He.frG g [He.ma K (He.ga K c) x]) "property" (He.ma K (He.ga K c) x))
  | .e c _ _ => fnAd g (He.ma K (He.ga K c) "__init__") ++ (match g (He.ma K (He.ga K c) "__init__") with
    | some o => (match o.data with
      | .func fd => fd.closure.map (·.2)
      | _ => [])
    | none => [])
def asW (cs ts : List Str) (ps : List Pl) (g : Addr → Option Obj) : List Addr :=
  mainGlobals :: PySem.cStatics :: (cs.flatMap (clsAd g) ++ (ts.map (He.ga (He.frG g [mainGlobals])) ++ ps.flatMap (plAd g (He.frG g (mainGlobals :: PySem.cStatics :: cs.flatMap (clsAd g))))))
def obsWG (cs ts : List Str) (fa : List FaV) (fn : List DefV) (g : Addr → Option Obj) : He.AlD := obsV fa fn (He.frG g (asW cs ts (fn.map (·.at_)) g))
theorem run_three {α β γ δ : Type} {o : Option α} {f : α → β} {g : α → γ} {h : α → δ} {x : β} {y : γ} {z : δ} (h1 : o.map f = some x) (h2 : o.map g = some y) (h3 : o.map h = some z) : o.map (fun s => (f s, g s, h s)) = some (x, y, z) := by
  cases o with
  | none => cases h1
  | some s =>
    simp only [Option.map_some, Option.some.injEq] at *
    rw [h1, h2, h3]
theorem run_obs {α : Type} {o : Option α} {fa : List FaV} {fn : List DefV} {k : α → PySem.W.Frag} (n : Nat) (h1 : o.map (fun s => (fa.take n).all fun f => f.ok (k s)) = some true) (h2 : o.map (fun s => (fa.drop n).all fun f => f.ok (k s)) = some true) (h3 : o.map (fun s => fn.all fun d => d.ok (k s)) = some true) (h4 : o.map (fun s => fn.map fun d => fnW (k s) d) = some (fn.map DefV.val)) : o.map (fun s => obsV fa fn (k s)) = some (valH fn) := by
  cases o with
  | none => cases h1
  | some s =>
    simp only [Option.map_some, Option.some.injEq] at h1 h2 h3 h4 ⊢
    unfold obsV valH
    rw [h3, h4, ← List.take_append_drop n fa, List.all_append, h1, h2]
    rfl
def lamNames : List Str := ["law", "_law_refused_too", "_law_looks_refused", "_law_held", "_law_all_refused", "_law_ages_refused", "_law_reads_refused", "_law_others_refused", "_law_menu_refused", "_law_keep_refused", "_law_missing", "_law_takes_refused", "_law_visit", "_law_ends", "_law_nested"]
def tabAt (K : PySem.W.Frag) (x : Str) : Option (Addr × Addr) := match K.lookup (He.ga K x) with
  | some ⟨_, _, .func fd, _⟩ => if fd.name == x then (match fd.code with
    | .ref c => (match K.lookup c with
      | some ⟨_, _, .fields vs, _⟩ => (match (vs[11]? : Option Value) with
        | some (.ref P) => some (c, P)
        | _ => none)
      | _ => none)
    | _ => none) else none
  | _ => none
def tabCs (K : PySem.W.Frag) : List (Addr × Addr) := lamNames.filterMap (tabAt K)
def cdHB (K : PySem.W.Frag) (p : Addr × Addr) : Bool := (match K.lookup p.1 with
  | some ⟨.type t, _, .fields vs, _⟩ => decide (t = "code") && ((match (vs[11]? : Option Value) with
    | some (.ref P) => decide (P = p.2)
    | _ => false) && ((match vs.getD 11 .none with
    | .ref P => decide (P = p.2)
    | _ => false) && ((match vs.getD 18 .none with
    | .str _ _ => true
    | _ => false) && ((match vs.getD 7 .none with
    | .int _ _ => true
    | _ => false) && ((match vs.getD 9 .none with
    | .bool _ => true
    | _ => false) && (match vs.getD 10 .none with
    | .int _ _ => true
    | _ => false))))))
  | _ => false) && (decide (p.1 ≠ p.2) && (K.lookup p.2).isNone)
def csB (K : PySem.W.Frag) : Bool := (tabCs K).all (cdHB K)
def emB (g : Addr → Option Obj) (p : Addr × Addr) : Bool := match g p.2 with
  | some ⟨.none, none, .fields vs, sl⟩ => vs.isEmpty && sl.isEmpty
  | _ => false
theorem em_of {g : Addr → Option Obj} {p : Addr × Addr} (e : emB g p = true) : g p.2 = some { cls := .none, data := .fields #[] } := by
  unfold emB at e
  split at e
  · rename_i vs sl h
    obtain ⟨e1, e2⟩ := He.ba e
    rw [h]
    have h1 : vs = #[] := by simpa using e1
    have h2 : sl = #[] := by simpa using e2
    subst h1 h2
    rfl
  · cases e
def obsT (cs ts : List Str) (fa : List FaV) (fn : List DefV) (g : Addr → Option Obj) : Bool × He.AlD := ((tabCs (He.frG g (asW cs ts (fn.map (·.at_)) g))).all (emB g), obsWG cs ts fa fn g)
def hookT (cs ts : List Str) (fa : List FaV) (fn : List DefV) : PySem.W.Hook where
  α := Bool × He.AlD
  obs := fun s => obsT cs ts fa fn s.heap.get?
  val := fun _ => (true, valH fn)
  says := fun _ h => ∃ K : PySem.W.Frag, K.In h ∧ SaysV fa fn K ∧ ∀ p ∈ tabCs K, h.get? p.2 = some { cls := .none, data := .fields #[] }
  of := fun _ s e => ⟨_, He.frG_in, (Prod.mk.inj e).2, fun p hp => em_of (List.all_eq_true.mp (Prod.mk.inj e).1 p hp)⟩
  keeps := fun _ _ _ ⟨K, hK, c, em⟩ k => ⟨K, PySem.W.Frag.In.keeps hK k, c, fun p hp => k _ _ (em p hp)⟩
theorem obsT_eq {cs ts : List Str} {fa : List FaV} {fn : List DefV} {g : Addr → Option Obj} {s : Shared} (h : ∀ a, g a = s.heap.get? a) : obsT cs ts fa fn g = (hookT cs ts fa fn).obs s := by
  have e : g = s.heap.get? := funext h
  rw [e] <;> rfl
theorem run_two {α β γ : Type} {o : Option α} {f : α → β} {g : α → γ} {x : β} {y : γ} (h1 : o.map f = some x) (h2 : o.map g = some y) : o.map (fun s => (f s, g s)) = some (x, y) := by
  cases o with
  | none => cases h1
  | some s =>
    simp only [Option.map_some, Option.some.injEq] at *
    rw [h1, h2]
def top (i : Nat) : Stmt := PySem.Challenge.pw_agedfiles_k11_ways_told.main.body.getD i (.Pass ⟨0, 0, 0, 0⟩)
abbrev s__law_source : Stmt := top 23
abbrev s__law_draw : Stmt := top 24
abbrev s__law_pick : Stmt := top 25
abbrev s__law_maker : Stmt := top 26
abbrev s__law_user : Stmt := top 27
abbrev s__law_arrow : Stmt := top 28
abbrev s__law_plan : Stmt := top 29
abbrev s_is_listed : Stmt := top 7
abbrev s_is_whole : Stmt := top 5
abbrev s_is_between : Stmt := top 6
abbrev s_is_time : Stmt := top 12
abbrev s_is_deed : Stmt := top 13
abbrev s_makes : Stmt := top 14
abbrev s_is_part_of : Stmt := top 8
abbrev s_is_arrow : Stmt := top 19
abbrev s_reached_from : Stmt := top 20
abbrev s_Way___init__ : Stmt := inClass (top 21) 0
abbrev s_Way_nodes : Stmt := inClass (top 21) 1
abbrev s_Way_arrows : Stmt := inClass (top 21) 2
abbrev s_Way___len__ : Stmt := inClass (top 21) 5
abbrev s_Way___getitem__ : Stmt := inClass (top 21) 3
abbrev s_Way_arrow : Stmt := inClass (top 21) 6
abbrev s_Way___eq__ : Stmt := inClass (top 21) 8
abbrev s_law : Stmt := top 30
def clsL : List Str := ["Way"]
def subC (a b : Str) : Bool := a == b
def faL : List FaV := [.he (.free "len"), .he (.free "abs"), .he (.free "int"), .he (.free "range"), .clf clsL subC, .he (.free "isinstance"), .he (.free "list"), .he (.free "tuple"), .he (.free "bool"), .he (.int "LONGEST" (1000000000)), .he (.free "str"), .he (.glo "PLAIN"), .tup "PLAIN" ["make", "read", "write", "rename", "touch"], .he (.glo "WORDS"), .tup "WORDS" ["", "held", "anew"], .he (.int "MOST_NODES" (12)), .he (.free "enumerate"), .he (.int "MOST_ARROWS" (40)), .he (.free "any"), .he (.cls "Way"), .he (.noat "Way" "own_nodes"), .he (.noat "Way" "own_arrows"), .he (.glo "Way"), .he (.free "max"), .he (.free "min"), .fni "Way", .nof "Way", .noe "Way", .noe "Way", .gen fun K => PySem.W.notFirst K (He.ga K "Way") (.type "list"), .gen fun K => clsL.all fun d => PySem.W.notFirst K (He.ga K "Way") (.ref (He.ga K d)), .he (.glo "_law_source"), .he (.glo "_law_draw"), .he (.glo "_law_pick"), .he (.glo "_law_maker"), .he (.glo "_law_user"), .he (.glo "_law_arrow"), .he (.glo "_law_plan"), .he (.glo "is_listed"), .he (.glo "is_whole"), .he (.glo "is_between"), .he (.glo "is_time"), .he (.glo "is_deed"), .he (.glo "makes"), .he (.glo "is_part_of"), .he (.glo "is_arrow"), .he (.glo "reached_from"), .he (.glo "Way"), .he (.mkr "Way"), .he (.meth "Way" "nodes"), .he (.meth "Way" "arrows"), .he (.meth "Way" "__len__"), .he (.meth "Way" "__getitem__"), .he (.meth "Way" "arrow"), .he (.meth "Way" "__eq__"), .he (.glo "law"), .gen csB]
def fnL : List DefV := [⟨.g "_law_source", "_law_source", "_law_source", defArgs s__law_source, defBody s__law_source, defScope s__law_source, [], []⟩, ⟨.g "_law_draw", "_law_draw", "_law_draw", defArgs s__law_draw, defBody s__law_draw, defScope s__law_draw, [], []⟩, ⟨.g "_law_pick", "_law_pick", "_law_pick", defArgs s__law_pick, defBody s__law_pick, defScope s__law_pick, [], []⟩, ⟨.g "_law_maker", "_law_maker", "_law_maker", defArgs s__law_maker, defBody s__law_maker, defScope s__law_maker, [], []⟩, ⟨.g "_law_user", "_law_user", "_law_user", defArgs s__law_user, defBody s__law_user, defScope s__law_user, [], []⟩, ⟨.g "_law_arrow", "_law_arrow", "_law_arrow", defArgs s__law_arrow, defBody s__law_arrow, defScope s__law_arrow, [], []⟩, ⟨.g "_law_plan", "_law_plan", "_law_plan", defArgs s__law_plan, defBody s__law_plan, defScope s__law_plan, [], []⟩, ⟨.g "is_listed", "is_listed", "is_listed", defArgs s_is_listed, defBody s_is_listed, defScope s_is_listed, [], []⟩, ⟨.g "is_whole", "is_whole", "is_whole", defArgs s_is_whole, defBody s_is_whole, defScope s_is_whole, [], []⟩, ⟨.g "is_between", "is_between", "is_between", defArgs s_is_between, defBody s_is_between, defScope s_is_between, [], []⟩, ⟨.g "is_time", "is_time", "is_time", defArgs s_is_time, defBody s_is_time, defScope s_is_time, [], []⟩, ⟨.g "is_deed", "is_deed", "is_deed", defArgs s_is_deed, defBody s_is_deed, defScope s_is_deed, [], []⟩, ⟨.g "makes", "makes", "makes", defArgs s_makes, defBody s_makes, defScope s_makes, [], []⟩, ⟨.g "is_part_of", "is_part_of", "is_part_of", defArgs s_is_part_of, defBody s_is_part_of, defScope s_is_part_of, [], []⟩, ⟨.g "is_arrow", "is_arrow", "is_arrow", defArgs s_is_arrow, defBody s_is_arrow, defScope s_is_arrow, [], []⟩, ⟨.g "reached_from", "reached_from", "reached_from", defArgs s_reached_from, defBody s_reached_from, defScope s_reached_from, [], []⟩, ⟨.m "Way" "__init__", "__init__", "Way.__init__", defArgs s_Way___init__, defBody s_Way___init__, defScope s_Way___init__, [], []⟩, ⟨.m "Way" "nodes", "nodes", "Way.nodes", defArgs s_Way_nodes, defBody s_Way_nodes, defScope s_Way_nodes, [], []⟩, ⟨.m "Way" "arrows", "arrows", "Way.arrows", defArgs s_Way_arrows, defBody s_Way_arrows, defScope s_Way_arrows, [], []⟩, ⟨.m "Way" "__len__", "__len__", "Way.__len__", defArgs s_Way___len__, defBody s_Way___len__, defScope s_Way___len__, [], []⟩, ⟨.m "Way" "__getitem__", "__getitem__", "Way.__getitem__", defArgs s_Way___getitem__, defBody s_Way___getitem__, defScope s_Way___getitem__, [], []⟩, ⟨.m "Way" "arrow", "arrow", "Way.arrow", defArgs s_Way_arrow, defBody s_Way_arrow, defScope s_Way_arrow, [], []⟩, ⟨.m "Way" "__eq__", "__eq__", "Way.__eq__", defArgs s_Way___eq__, defBody s_Way___eq__, defScope s_Way___eq__, [], []⟩, ⟨.g "law", "law", "law", defArgs s_law, defBody s_law, defScope s_law, [], []⟩]
abbrev R : PySem.W.OpenRow := PySem.W.OpenLaw.row PySem.Challenge.rw_agedfiles_k11_ways_told
def csL : List Str := ["Way"]
def tsL : List Str := ["PLAIN", "WORDS"]
abbrev hk : PySem.W.Hook := hookT csL tsL faL fnL
def ob0 (s : PySem.W.SharedT) : He.AlD := obsWG csL tsL faL fnL (HandSHeadRun.getT s)
def ob (s : PySem.W.SharedT) : Bool × He.AlD := obsT csL tsL faL fnL (HandSHeadRun.getT s)
theorem ob_eq (s : PySem.W.SharedT) : ob s = hk.obs s.abs := obsT_eq (HandSHeadRun.getT_eq s)
def nm0 : List PySem.Str := ["_wall", "__name__", "AgeError", "NoWay", "is_whole", "is_between", "is_listed", "is_part_of", "PLAIN", "LONGEST", "is_time", "is_deed", "makes", "MOST_NODES", "MOST_ARROWS", "WORDS", "is_arrow", "reached_from", "Way", "_law_source", "_law_draw", "_law_pick", "_law_maker", "_law_user", "_law_arrow", "_law_plan"]
def nmL : List PySem.Str := nm0
set_option maxHeartbeats 0 in
theorem runA (w : World) (os : OsState) : (HandSHeadRun.endF (HandSHeadRun.stepQ (HandSHeadRun.denQ HandSHeadRun.tabQ) R.prog w) 40000 R.prog w os).map (fun s => HandSHeadRun.looksF R.prog (PySem.W.boot_heap w.params) s.abs) = some true := by
  kernel_rfl
set_option maxHeartbeats 0 in
theorem runB (w : World) (os : OsState) : (HandSHeadRun.endF (HandSHeadRun.stepQ (HandSHeadRun.denQ HandSHeadRun.tabQ) R.prog w) 40000 R.prog w os).map (fun s => HandSHeadRun.seenQ (PySem.W.view R.prog [30]) nmL (PySem.importedModules R.prog.main.body) (fun s => PySem.W.xlAt (PySem.W.view R.prog [30]) [] s && PySem.W.recOk R.toRowW.records s) s.abs) = some (PySem.W.openGood (PySem.W.view R.prog [30]) nmL) := by
  kernel_rfl
def kfr (s : PySem.W.SharedT) : PySem.W.Frag := He.frG (HandSHeadRun.getT s) (asW csL tsL (fnL.map (·.at_)) (HandSHeadRun.getT s))
set_option maxHeartbeats 0 in
theorem runC1 (w : World) (os : OsState) : (HandSHeadRun.endF (HandSHeadRun.stepQ (HandSHeadRun.denQ HandSHeadRun.tabQ) R.prog w) 40000 R.prog w os).map (fun s => (faL.take 28).all fun f => f.ok (kfr s)) = some true := by
  kernel_rfl
set_option maxHeartbeats 0 in
theorem runC2 (w : World) (os : OsState) : (HandSHeadRun.endF (HandSHeadRun.stepQ (HandSHeadRun.denQ HandSHeadRun.tabQ) R.prog w) 40000 R.prog w os).map (fun s => (faL.drop 28).all fun f => f.ok (kfr s)) = some true := by
  kernel_rfl
set_option maxHeartbeats 0 in
theorem runC3 (w : World) (os : OsState) : (HandSHeadRun.endF (HandSHeadRun.stepQ (HandSHeadRun.denQ HandSHeadRun.tabQ) R.prog w) 40000 R.prog w os).map (fun s => fnL.all fun d => d.ok (kfr s)) = some true := by
  kernel_rfl
set_option maxHeartbeats 0 in
theorem runC4 (w : World) (os : OsState) : (HandSHeadRun.endF (HandSHeadRun.stepQ (HandSHeadRun.denQ HandSHeadRun.tabQ) R.prog w) 40000 R.prog w os).map (fun s => fnL.map fun d => fnW (kfr s) d) = some (fnL.map DefV.val) := by
  kernel_rfl
theorem runC0 (w : World) (os : OsState) : (HandSHeadRun.endF (HandSHeadRun.stepQ (HandSHeadRun.denQ HandSHeadRun.tabQ) R.prog w) 40000 R.prog w os).map (fun s => ob0 s) = some (valH fnL) := run_obs (k := kfr) 28 (runC1 w os) (runC2 w os) (runC3 w os) (runC4 w os)
set_option maxHeartbeats 0 in
theorem runT (w : World) (os : OsState) : (HandSHeadRun.endF (HandSHeadRun.stepQ (HandSHeadRun.denQ HandSHeadRun.tabQ) R.prog w) 40000 R.prog w os).map (fun s => (tabCs (kfr s)).all (emB (HandSHeadRun.getT s))) = some true := by
  kernel_rfl
theorem runC (w : World) (os : OsState) : (HandSHeadRun.endF (HandSHeadRun.stepQ (HandSHeadRun.denQ HandSHeadRun.tabQ) R.prog w) 40000 R.prog w os).map (fun s => ob s) = some (hk.val w) := run_two (runT w os) (runC0 w os)
theorem run (w : World) : HandSHeadRun.RunEq R (PySem.W.view R.prog [30]) hk ob 40000 nmL w := fun os => run_three (runA w os) (runB w os) (runC w os)
inductive D where
  | non | bl (b : Bool) | int (i : Int) | str (x : Str)
  /-- the script -/
  | scr (ns : List Int)
  /-- a list; a tuple (k: it may stand in the written part) -/
  | lst (xs : List D) | tup (k : Bool) (xs : List D)
  | dct (ks : List Key) (ds : List D) | dcT (ks : List (List Key)) (ds : List D)
  | obj (c : Str) (fs : List Str) (ds : List D)
def TupIn (K : PySem.W.Frag) (B : Hp) (a : Addr) (vs : List V) : Bool → Prop
  | true => SqT K B a vs
  | false => B a = some (.tup vs)
theorem TupIn.sq {K : PySem.W.Frag} {B : Hp} {a : Addr} {vs : List V} {k : Bool} (h : TupIn K B a vs k) : SqT K B a vs := by
  cases k with
  | true => exact h
  | false => exact st_of h
theorem TupIn.ex {K : PySem.W.Frag} {B B' : Hp} {a : Addr} {vs : List V} {k : Bool} (e : Ex B B') (h : TupIn K B a vs k) : TupIn K B' a vs k := by
  cases k with
  | true => exact ex_t e h
  | false => exact e _ _ h
theorem rd_mono {B B' : Hp} {a : Addr} {u : HO} (e : Ex B B') (h : Rd B a u) : Rd B' a u := h.elim (fun h => .inl (e _ _ h)) fun ⟨o, h⟩ => .inr ⟨o, e _ _ h⟩
mutual
def Rep (K : PySem.W.Frag) (B : Hp) : D → V → Prop
  | .non, v => v = .non
  | .bl b, v => v = .bl b
  | .int i, v => v = .int i
  | .str x, v => v = .str x
  | .scr ns, v => ∃ a, v = .ref a ∧ SqL K B a (ns.map V.int)
  | .lst ds, v => ∃ a vs, v = .ref a ∧ B a = some (.lst vs) ∧ RepL K B ds vs
  | .tup k ds, v => ∃ a vs, v = .ref a ∧ TupIn K B a vs k ∧ RepL K B ds vs
  | .dct ks ds, v => ∃ a kvs, v = .ref a ∧ Rd B a (.dK kvs) ∧ kvs.map (·.1) = ks ∧ RepL K B ds (kvs.map (·.2))
  | .dcT ks ds, v => ∃ a kvs, v = .ref a ∧ B a = some (.dT kvs) ∧ kvs.map (·.1) = ks ∧ RepL K B ds (kvs.map (·.2))
  | .obj c fs ds, v => ∃ a dx kvs, v = .ref a ∧ B a = some (.ins (He.ga K c) dx kvs) ∧ kvs.map (·.1) = fs ∧ RepL K B ds (kvs.map (·.2))
def RepL (K : PySem.W.Frag) (B : Hp) : List D → List V → Prop
  | [], vs => vs = []
  | d :: ds, vs => ∃ v r, vs = v :: r ∧ Rep K B d v ∧ RepL K B ds r
end
mutual
theorem Rep.mono {K : PySem.W.Frag} {B B' : Hp} (e : Ex B B') : ∀ {d : D} {v : V}, Rep K B d v → Rep K B' d v
  | .non, _, h => h
  | .bl _, _, h => h
  | .int _, _, h => h
  | .str _, _, h => h
  | .scr _, _, ⟨a, h, s⟩ => ⟨a, h, ex_l e s⟩
  | .lst _, _, ⟨a, vs, h, s, r⟩ => ⟨a, vs, h, e _ _ s, RepL.mono e r⟩
  | .tup _ _, _, ⟨a, vs, h, s, r⟩ => ⟨a, vs, h, s.ex e, RepL.mono e r⟩
  | .dct _ _, _, ⟨a, kvs, h, s, k, r⟩ => ⟨a, kvs, h, rd_mono e s, k, RepL.mono e r⟩
  | .dcT _ _, _, ⟨a, kvs, h, s, k, r⟩ => ⟨a, kvs, h, e _ _ s, k, RepL.mono e r⟩
  | .obj _ _ _, _, ⟨a, dx, kvs, h, s, k, r⟩ => ⟨a, dx, kvs, h, e _ _ s, k, RepL.mono e r⟩
theorem RepL.mono {K : PySem.W.Frag} {B B' : Hp} (e : Ex B B') : ∀ {ds : List D} {vs : List V}, RepL K B ds vs → RepL K B' ds vs
  | [], _, h => h
  | _ :: _, _, ⟨v, r, h, a, b⟩ => ⟨v, r, h, Rep.mono e a, RepL.mono e b⟩
end
def Mk1 : HO → Prop
  | .lst _ => True
  | .dK _ => True
  | .dT _ => True
  | .ins _ _ _ => True
  | _ => False
theorem TupIn.keep {K : PySem.W.Frag} {B B' : Hp} {a : Addr} {vs : List V} {k : Bool} (e : ∀ a o, B a = some o → ¬ Mk1 o → B' a = some o) (h : TupIn K B a vs k) : TupIn K B' a vs k := by
  cases k with
  | true =>
    rcases h with (h | ⟨o, h⟩) | h
    · exact .inl (.inl (e _ _ h fun z => z))
    · exact .inl (.inr ⟨o, e _ _ h fun z => z⟩)
    · exact .inr h
  | false => exact e _ _ h fun z => z
mutual
def D.flat : D → Bool
  | .non => true
  | .bl _ => true
  | .int _ => true
  | .str _ => true
  | .tup _ ds => D.flatL ds
  | _ => false
def D.flatL : List D → Bool
  | [] => true
  | d :: ds => D.flat d && D.flatL ds
end
mutual
theorem Rep.flat {K : PySem.W.Frag} {B B' : Hp} (e : ∀ a o, B a = some o → ¬ Mk1 o → B' a = some o) : ∀ {d : D} {v : V}, d.flat = true → Rep K B d v → Rep K B' d v
  | .non, _, _, h => h
  | .bl _, _, _, h => h
  | .int _, _, _, h => h
  | .str _, _, _, h => h
  | .scr _, _, f, _ => by simp [D.flat] at f
  | .lst _, _, f, _ => by simp [D.flat] at f
  | .tup _ _, _, f, ⟨a, vs, h, s, r⟩ => ⟨a, vs, h, s.keep e, RepL.flat e (by simpa [D.flat] using f) r⟩
  | .dct _ _, _, f, _ => by simp [D.flat] at f
  | .dcT _ _, _, f, _ => by simp [D.flat] at f
  | .obj _ _ _, _, f, _ => by simp [D.flat] at f
theorem RepL.flat {K : PySem.W.Frag} {B B' : Hp} (e : ∀ a o, B a = some o → ¬ Mk1 o → B' a = some o) : ∀ {ds : List D} {vs : List V}, D.flatL ds = true → RepL K B ds vs → RepL K B' ds vs
  | [], _, _, h => h
  | d :: ds, _, f, ⟨v, r, h, a, b⟩ => by
    obtain ⟨f1, f2⟩ : d.flat = true ∧ D.flatL ds = true := by simpa [D.flatL] using f
    exact ⟨v, r, h, Rep.flat e f1 a, RepL.flat e f2 b⟩
end
section
variable {K : PySem.W.Frag} {B : Hp} {ds : List D} {vs : List V}
theorem RepL.len : ∀ {ds : List D} {vs : List V}, RepL K B ds vs → vs.length = ds.length
  | [], _, h => by rw [show _ = [] from h]; rfl
  | _ :: _, _, ⟨v, r, h, a, b⟩ => by rw [h]; exact congrArg (· + 1) (RepL.len b)
theorem RepL.at : ∀ {ds : List D} {vs : List V} {i : Nat} {d : D}, RepL K B ds vs → ds[i]? = some d → ∃ v, vs[i]? = some v ∧ Rep K B d v
  | [], _, _, _, _, e => by simp at e
  | _ :: _, _, 0, _, ⟨v, r, h, a, b⟩, e => by
    cases Option.some.inj (show some _ = some _ from e)
    exact ⟨v, by rw [h]; rfl, a⟩
  | _ :: _, _, i + 1, d, ⟨v, r, h, a, b⟩, e => by
    obtain ⟨u, h1, h2⟩ := RepL.at (i := i) (d := d) b (by simpa using e)
    exact ⟨u, by rw [h]; simpa using h1, h2⟩
theorem RepL.atV : ∀ {ds : List D} {vs : List V} {i : Nat} {v : V}, RepL K B ds vs → vs[i]? = some v → ∃ d, ds[i]? = some d ∧ Rep K B d v := fun {ds vs i v} h e => by
  have hl := h.len
  have hi : i < ds.length := by rw [← hl]; exact (List.getElem?_eq_some_iff.mp e).1
  obtain ⟨u, h1, h2⟩ := h.at (i := i) (d := ds[i]) (List.getElem?_eq_getElem hi)
  rw [e] at h1
  cases h1
  exact ⟨_, List.getElem?_eq_getElem hi, h2⟩
theorem RepL.append : ∀ {ds es : List D} {vs us : List V}, RepL K B ds vs → RepL K B es us → RepL K B (ds ++ es) (vs ++ us)
  | [], _, _, _, h, g => by rw [show _ = [] from h]; exact g
  | _ :: _, _, _, _, ⟨v, r, h, a, b⟩, g => by rw [h]; exact ⟨v, _, rfl, a, RepL.append b g⟩
theorem RepL.one {d : D} {v : V} (h : Rep K B d v) : RepL K B [d] [v] := ⟨v, [], rfl, h, rfl⟩
theorem RepL.set : ∀ {ds : List D} {vs : List V} {i : Nat} {d : D} {v : V}, RepL K B ds vs → Rep K B d v → RepL K B (ds.set i d) (vs.set i v)
  | [], _, _, _, _, h, _ => by rw [show _ = [] from h]; rfl
  | _ :: _, _, 0, _, _, ⟨v, r, h, a, b⟩, g => by rw [h]; exact ⟨_, r, rfl, g, b⟩
  | _ :: _, _, i + 1, _, _, ⟨v, r, h, a, b⟩, g => by rw [h]; exact ⟨v, _, rfl, a, RepL.set b g⟩
theorem RepL.drop : ∀ {ds : List D} {vs : List V} (i : Nat), RepL K B ds vs → RepL K B (ds.drop i) (vs.drop i)
  | _, _, 0, h => h
  | [], _, _ + 1, h => by rw [show _ = [] from h]; rfl
  | _ :: _, _, i + 1, ⟨v, r, h, a, b⟩ => by rw [h]; exact RepL.drop i b
theorem RepL.take : ∀ {ds : List D} {vs : List V} (i : Nat), RepL K B ds vs → RepL K B (ds.take i) (vs.take i)
  | _, _, 0, h => rfl
  | [], _, _ + 1, h => by rw [show _ = [] from h]; rfl
  | _ :: _, _, i + 1, ⟨v, r, h, a, b⟩ => by rw [h]; exact ⟨v, _, rfl, a, RepL.take i b⟩
end
inductive O1 where
  | lst (ds : List D) | dct (ks : List Key) (ds : List D) | dcT (ks : List (List Key)) (ds : List D)
inductive Fv where
  | va (d : D) | ow (o : O1)
inductive O2 where
  | o1 (o : O1) | obj (c : Str) (fs : List Str) (vs : List Fv)
  /-- a list whose things are owned, too -/
  | dp (vs : List Fv)
inductive Sl where
  | no | va (d : D) | ow (o : O2) | pw (o : O2)
abbrev En := List Sl
def O1.fz : O1 → D
  | .lst ds => .lst ds
  | .dct ks ds => .dct ks ds
  | .dcT ks ds => .dcT ks ds
def Fv.fz : Fv → D
  | .va d => d
  | .ow o => o.fz
def O2.fz : O2 → D
  | .o1 o => o.fz
  | .obj c fs vs => .obj c fs (vs.map Fv.fz)
  | .dp vs => .lst (vs.map Fv.fz)
def Sl.fz : Sl → Option D
  | .va d => some d
  | .ow o => some o.fz
  | _ => none
section
variable (K : PySem.W.Frag) (B H : Hp)
def OwnL : O1 → Addr → Prop
  | .lst ds, l => ∃ vs, H l = some (.lst vs) ∧ RepL K B ds vs
  | .dct ks ds, l => ∃ kvs, H l = some (.dK kvs) ∧ kvs.map (·.1) = ks ∧ RepL K B ds (kvs.map (·.2))
  | .dcT ks ds, l => ∃ kvs, H l = some (.dT kvs) ∧ kvs.map (·.1) = ks ∧ RepL K B ds (kvs.map (·.2))
def FvOk : Fv → V → List Addr → Prop
  | .va d, v, fp => Rep K B d v ∧ fp = []
  | .ow o, v, fp => ∃ l, v = .ref l ∧ fp = [l] ∧ OwnL K B H o l
def FvL : List Fv → List V → List Addr → Prop
  | [], vs, fp => vs = [] ∧ fp = []
  | f :: fs, vs, fp => ∃ v r p q, vs = v :: r ∧ fp = p ++ q ∧ FvOk K B H f v p ∧ FvL fs r q ∧ ∀ a ∈ p, a ∉ q
def Own : O2 → V → List Addr → Prop
  | .o1 o, v, fp => ∃ l, v = .ref l ∧ fp = [l] ∧ OwnL K B H o l
  | .obj c ns fs, v, fp => ∃ x dx kvs q, v = .ref x ∧ H x = some (.ins (He.ga K c) dx kvs) ∧ kvs.map (·.1) = ns ∧ FvL K B H fs (kvs.map (·.2)) q ∧ fp = x :: q ∧ x ∉ q
  | .dp fs, v, fp => ∃ x vs q, v = .ref x ∧ H x = some (.lst vs) ∧ FvL K B H fs vs q ∧ fp = x :: q ∧ x ∉ q
def SlOk : Option V → Sl → List Addr → Prop
  | _, .no, fp => fp = []
  | ov, .va d, fp => fp = [] ∧ ∃ v, ov = some v ∧ Rep K B d v
  | ov, .ow o, fp => ∃ v, ov = some v ∧ Own K B H o v fp
  | ov, .pw o, fp => ∃ v, ov = some v ∧ Own K B H o v fp
end
section
variable {K : PySem.W.Frag} {B B' H H' : Hp}
theorem OwnL.cell {o : O1} {l : Addr} (h : OwnL K B H o l) : ∃ u, H l = some u ∧ Mk1 u := by
  cases o with
  | lst ds => obtain ⟨vs, h, _⟩ := h; exact ⟨_, h, trivial⟩
  | dct ks ds => obtain ⟨vs, h, _⟩ := h; exact ⟨_, h, trivial⟩
  | dcT ks ds => obtain ⟨vs, h, _⟩ := h; exact ⟨_, h, trivial⟩
theorem OwnL.mono {o : O1} {l : Addr} (e : Ex B B') (k : H' l = H l) (h : OwnL K B H o l) : OwnL K B' H' o l := by
  cases o with
  | lst ds => obtain ⟨vs, h, r⟩ := h; exact ⟨vs, k.trans h, r.mono e⟩
  | dct ks ds => obtain ⟨vs, h, q, r⟩ := h; exact ⟨vs, k.trans h, q, r.mono e⟩
  | dcT ks ds => obtain ⟨vs, h, q, r⟩ := h; exact ⟨vs, k.trans h, q, r.mono e⟩
theorem OwnL.fz {o : O1} {l : Addr} (e : Ex B B') (k : B' l = H l) (h : OwnL K B H o l) : Rep K B' o.fz (.ref l) := by
  cases o with
  | lst ds => obtain ⟨vs, h, r⟩ := h; exact ⟨l, vs, rfl, k.trans h, r.mono e⟩
  | dct ks ds => obtain ⟨vs, h, q, r⟩ := h; exact ⟨l, vs, rfl, .inl (k.trans h), q, r.mono e⟩
  | dcT ks ds => obtain ⟨vs, h, q, r⟩ := h; exact ⟨l, vs, rfl, k.trans h, q, r.mono e⟩
theorem FvOk.cell {f : Fv} {v : V} {fp : List Addr} (h : FvOk K B H f v fp) : ∀ a ∈ fp, ∃ u, H a = some u ∧ Mk1 u := fun a ha => by
  cases f with
  | va d => obtain ⟨_, rfl⟩ := h; cases ha
  | ow o =>
    obtain ⟨l, _, rfl, h⟩ := h
    cases (List.mem_singleton.mp ha)
    exact h.cell
theorem FvOk.mono {f : Fv} {v : V} {fp : List Addr} (e : Ex B B') (k : ∀ a ∈ fp, H' a = H a) (h : FvOk K B H f v fp) : FvOk K B' H' f v fp := by
  cases f with
  | va d => exact ⟨h.1.mono e, h.2⟩
  | ow o =>
    obtain ⟨l, h1, rfl, h⟩ := h
    exact ⟨l, h1, rfl, h.mono e (k l (List.mem_singleton.mpr rfl))⟩
theorem FvOk.fz {f : Fv} {v : V} {fp : List Addr} (e : Ex B B') (k : ∀ a ∈ fp, B' a = H a) (h : FvOk K B H f v fp) : Rep K B' f.fz v := by
  cases f with
  | va d => exact h.1.mono e
  | ow o =>
    obtain ⟨l, rfl, rfl, h⟩ := h
    exact h.fz e (k l (List.mem_singleton.mpr rfl))
theorem FvL.cell : ∀ {fs : List Fv} {vs : List V} {fp : List Addr}, FvL K B H fs vs fp → ∀ a ∈ fp, ∃ u, H a = some u ∧ Mk1 u
  | [], _, _, ⟨_, e⟩, a, ha => by rw [e] at ha; cases ha
  | _ :: _, _, _, ⟨v, r, p, q, _, e, h1, h2, _⟩, a, ha => by
    rw [e] at ha
    rcases List.mem_append.mp ha with ha | ha
    · exact h1.cell a ha
    · exact FvL.cell h2 a ha
theorem FvL.mono (e : Ex B B') : ∀ {fs : List Fv} {vs : List V} {fp : List Addr}, (∀ a ∈ fp, H' a = H a) → FvL K B H fs vs fp → FvL K B' H' fs vs fp
  | [], _, _, _, h => h
  | _ :: _, _, _, k, ⟨v, r, p, q, hv, ef, h1, h2, dj⟩ => ⟨v, r, p, q, hv, ef, h1.mono e fun a ha => k a (by rw [ef]; exact List.mem_append_left _ ha), FvL.mono e (fun a ha => k a (by rw [ef]; exact List.mem_append_right _ ha)) h2, dj⟩
theorem FvL.fz (e : Ex B B') : ∀ {fs : List Fv} {vs : List V} {fp : List Addr}, (∀ a ∈ fp, B' a = H a) → FvL K B H fs vs fp → RepL K B' (fs.map Fv.fz) vs
  | [], _, _, _, h => h.1
  | _ :: _, _, _, k, ⟨v, r, p, q, hv, ef, h1, h2, dj⟩ => ⟨v, r, hv, h1.fz e fun a ha => k a (by rw [ef]; exact List.mem_append_left _ ha), FvL.fz e (fun a ha => k a (by rw [ef]; exact List.mem_append_right _ ha)) h2⟩
theorem Own.cell {o : O2} {v : V} {fp : List Addr} (h : Own K B H o v fp) : ∀ a ∈ fp, ∃ u, H a = some u ∧ Mk1 u := fun a ha => by
  cases o with
  | o1 o =>
    obtain ⟨l, _, rfl, h⟩ := h
    cases (List.mem_singleton.mp ha)
    exact h.cell
  | obj c ns fs =>
    obtain ⟨x, dx, kvs, q, _, hx, _, h, rfl, _⟩ := h
    rcases List.mem_cons.mp ha with rfl | ha
    · exact ⟨_, hx, trivial⟩
    · exact h.cell a ha
  | dp fs =>
    obtain ⟨x, vs, q, _, hx, h, rfl, _⟩ := h
    rcases List.mem_cons.mp ha with rfl | ha
    · exact ⟨_, hx, trivial⟩
    · exact h.cell a ha
theorem Own.mono {o : O2} {v : V} {fp : List Addr} (e : Ex B B') (k : ∀ a ∈ fp, H' a = H a) (h : Own K B H o v fp) : Own K B' H' o v fp := by
  cases o with
  | o1 o =>
    obtain ⟨l, h1, rfl, h⟩ := h
    exact ⟨l, h1, rfl, h.mono e (k l (List.mem_singleton.mpr rfl))⟩
  | obj c ns fs =>
    obtain ⟨x, dx, kvs, q, h1, hx, hn, h, rfl, nx⟩ := h
    exact ⟨x, dx, kvs, q, h1, (k x List.mem_cons_self).trans hx, hn, h.mono e fun a ha => k a (List.mem_cons_of_mem _ ha), rfl, nx⟩
  | dp fs =>
    obtain ⟨x, vs, q, h1, hx, h, rfl, nx⟩ := h
    exact ⟨x, vs, q, h1, (k x List.mem_cons_self).trans hx, h.mono e fun a ha => k a (List.mem_cons_of_mem _ ha), rfl, nx⟩
theorem Own.fz {o : O2} {v : V} {fp : List Addr} (e : Ex B B') (k : ∀ a ∈ fp, B' a = H a) (h : Own K B H o v fp) : Rep K B' o.fz v := by
  cases o with
  | o1 o =>
    obtain ⟨l, rfl, rfl, h⟩ := h
    exact h.fz e (k l (List.mem_singleton.mpr rfl))
  | obj c ns fs =>
    obtain ⟨x, dx, kvs, q, h1, hx, hn, h, rfl, nx⟩ := h
    exact ⟨x, dx, kvs, h1, (k x List.mem_cons_self).trans hx, hn, h.fz e fun a ha => k a (List.mem_cons_of_mem _ ha)⟩
  | dp fs =>
    obtain ⟨x, vs, q, h1, hx, h, rfl, nx⟩ := h
    exact ⟨x, vs, h1, (k x List.mem_cons_self).trans hx, h.fz e fun a ha => k a (List.mem_cons_of_mem _ ha)⟩
theorem SlOk.cell {ov : Option V} {s : Sl} {fp : List Addr} (h : SlOk K B H ov s fp) : ∀ a ∈ fp, ∃ u, H a = some u ∧ Mk1 u := fun a ha => by
  cases s with
  | no => rw [show fp = [] from h] at ha; cases ha
  | va d => rw [h.1] at ha; cases ha
  | ow o => obtain ⟨v, _, h⟩ := h; exact h.cell a ha
  | pw o => obtain ⟨v, _, h⟩ := h; exact h.cell a ha
theorem SlOk.mono {ov : Option V} {s : Sl} {fp : List Addr} (e : Ex B B') (k : ∀ a ∈ fp, H' a = H a) (h : SlOk K B H ov s fp) : SlOk K B' H' ov s fp := by
  cases s with
  | no => exact h
  | va d => obtain ⟨h1, v, h2, h3⟩ := h; exact ⟨h1, v, h2, h3.mono e⟩
  | ow o => obtain ⟨v, h1, h⟩ := h; exact ⟨v, h1, h.mono e k⟩
  | pw o => obtain ⟨v, h1, h⟩ := h; exact ⟨v, h1, h.mono e k⟩
end
def NTbl (o : HO) : Prop := ∀ ps, o ≠ .tbl ps
section
variable {K : PySem.W.Frag} {B B' H : Hp}
theorem TupIn.nt {a : Addr} {vs : List V} {k : Bool} (e : ∀ a o, B a = some o → NTbl o → B' a = some o) (h : TupIn K B a vs k) : TupIn K B' a vs k := by
  cases k with
  | true =>
    rcases h with (h | ⟨o, h⟩) | h
    · exact .inl (.inl (e _ _ h fun ps z => by cases z))
    · exact .inl (.inr ⟨o, e _ _ h fun ps z => by cases z⟩)
    · exact .inr h
  | false => exact e _ _ h fun ps z => by cases z
mutual
theorem Rep.nt (e : ∀ a o, B a = some o → NTbl o → B' a = some o) : ∀ {d : D} {v : V}, Rep K B d v → Rep K B' d v
  | .non, _, h => h
  | .bl _, _, h => h
  | .int _, _, h => h
  | .str _, _, h => h
  | .scr _, _, ⟨a, h, s⟩ => ⟨a, h, by
    rcases s with (s | ⟨o, s⟩) | s
    · exact .inl (.inl (e _ _ s fun ps z => by cases z))
    · exact .inl (.inr ⟨o, e _ _ s fun ps z => by cases z⟩)
    · exact .inr s⟩
  | .lst _, _, ⟨a, vs, h, s, r⟩ => ⟨a, vs, h, e _ _ s fun ps z => (by cases z), RepL.nt e r⟩
  | .tup _ _, _, ⟨a, vs, h, s, r⟩ => ⟨a, vs, h, s.nt e, RepL.nt e r⟩
  | .dct _ _, _, ⟨a, kvs, h, s, k, r⟩ => ⟨a, kvs, h, s.elim (fun s => .inl (e _ _ s fun ps z => by cases z)) fun ⟨o, s⟩ => .inr ⟨o, e _ _ s fun ps z => by cases z⟩, k, RepL.nt e r⟩
  | .dcT _ _, _, ⟨a, kvs, h, s, k, r⟩ => ⟨a, kvs, h, e _ _ s fun ps z => (by cases z), k, RepL.nt e r⟩
  | .obj _ _ _, _, ⟨a, dx, kvs, h, s, k, r⟩ => ⟨a, dx, kvs, h, e _ _ s fun ps z => (by cases z), k, RepL.nt e r⟩
theorem RepL.nt (e : ∀ a o, B a = some o → NTbl o → B' a = some o) : ∀ {ds : List D} {vs : List V}, RepL K B ds vs → RepL K B' ds vs
  | [], _, h => h
  | _ :: _, _, ⟨v, r, h, a, b⟩ => ⟨v, r, h, Rep.nt e a, RepL.nt e b⟩
end
theorem OwnL.nt {o : O1} {l : Addr} (e : ∀ a o, B a = some o → NTbl o → B' a = some o) (h : OwnL K B H o l) : OwnL K B' H o l := by
  cases o with
  | lst ds => obtain ⟨vs, h, r⟩ := h; exact ⟨vs, h, r.nt e⟩
  | dct ks ds => obtain ⟨vs, h, q, r⟩ := h; exact ⟨vs, h, q, r.nt e⟩
  | dcT ks ds => obtain ⟨vs, h, q, r⟩ := h; exact ⟨vs, h, q, r.nt e⟩
theorem FvOk.nt {f : Fv} {v : V} {fp : List Addr} (e : ∀ a o, B a = some o → NTbl o → B' a = some o) (h : FvOk K B H f v fp) : FvOk K B' H f v fp := by
  cases f with
  | va d => exact ⟨h.1.nt e, h.2⟩
  | ow o => obtain ⟨l, h1, h2, h⟩ := h; exact ⟨l, h1, h2, h.nt e⟩
theorem FvL.nt (e : ∀ a o, B a = some o → NTbl o → B' a = some o) : ∀ {fs : List Fv} {vs : List V} {fp : List Addr}, FvL K B H fs vs fp → FvL K B' H fs vs fp
  | [], _, _, h => h
  | _ :: _, _, _, ⟨v, r, p, q, hv, ef, h1, h2, dj⟩ => ⟨v, r, p, q, hv, ef, h1.nt e, FvL.nt e h2, dj⟩
theorem Own.nt {o : O2} {v : V} {fp : List Addr} (e : ∀ a o, B a = some o → NTbl o → B' a = some o) (h : Own K B H o v fp) : Own K B' H o v fp := by
  cases o with
  | o1 o => obtain ⟨l, h1, h2, h⟩ := h; exact ⟨l, h1, h2, h.nt e⟩
  | obj c ns fs => obtain ⟨x, dx, kvs, q, h1, hx, hn, h, h2, nx⟩ := h; exact ⟨x, dx, kvs, q, h1, hx, hn, h.nt e, h2, nx⟩
  | dp fs => obtain ⟨x, vs, q, h1, hx, h, h2, nx⟩ := h; exact ⟨x, vs, q, h1, hx, h.nt e, h2, nx⟩
theorem SlOk.nt {ov : Option V} {s : Sl} {fp : List Addr} (e : ∀ a o, B a = some o → NTbl o → B' a = some o) (h : SlOk K B H ov s fp) : SlOk K B' H ov s fp := by
  cases s with
  | no => exact h
  | va d => obtain ⟨h1, v, h2, h3⟩ := h; exact ⟨h1, v, h2, h3.nt e⟩
  | ow o => obtain ⟨v, h1, h⟩ := h; exact ⟨v, h1, h.nt e⟩
  | pw o => obtain ⟨v, h1, h⟩ := h; exact ⟨v, h1, h.nt e⟩
end
structure Sta where
  B : Hp
  H : Hp
  σ : L2.St
  en : En
  fp : Nat → List Addr
def inF (fp : Nat → List Addr) (a : Addr) : Prop := ∃ i, a ∈ fp i
theorem NTbl.of {o : HO} (h : Mk1 o) : NTbl o := fun ps z => by rw [z] at h; exact h
def tabL (K : PySem.W.Frag) : List (Addr × Str) := lamNames.filterMap fun x => (tabAt K x).map fun p => (p.2, x ++ ".<locals>." ++ "<lambda>")
def Tbs (K : PySem.W.Frag) (H : Hp) : Prop := LamX.Tabs (tabL K) H
def TabO : HO → Prop
  | .tbl _ => True
  | .ext _ => True
  | _ => False
theorem tabS_keep {H H' : Hp} {P : Addr} {q : Str} (t : LamX.TabS H P q) (k : ∀ a o, H a = some o → TabO o → H' a = some o) : LamX.TabS H' P q := by
  obtain ⟨ps, h1, h2, h3⟩ := t
  refine ⟨ps, k _ _ h1 trivial, h2, fun pos cv hc => ?_⟩
  obtain ⟨c, e1, e2⟩ := h3 pos cv hc
  exact ⟨c, e1, k _ _ e2 trivial⟩
theorem Tbs.keepT {K : PySem.W.Frag} {H H' : Hp} (t : Tbs K H) (k : ∀ a o, H a = some o → TabO o → H' a = some o) : Tbs K H' := fun p hp => tabS_keep (t p hp) k
theorem Tbs.keep {K : PySem.W.Frag} {H H' : Hp} (t : Tbs K H) (k : ∀ a o, H a = some o → ¬ Mk1 o → H' a = some o) : Tbs K H' := t.keepT fun a o e te => k a o e fun m => by
  cases o with
  | tbl ps => exact m
  | ext φ => exact m
  | _ => exact te
theorem Tbs.at {K : PySem.W.Frag} {H : Hp} {a : Addr} {o u : HO} (t : Tbs K H) (h : H a = some u) (m : ¬ TabO u) : Tbs K (upd H a o) := t.keepT fun b w e n => by
  by_cases hb : b = a
  · subst hb; rw [h] at e; cases e; exact absurd n m
  · rw [upd_ne hb]; exact e
theorem Tbs.new {K : PySem.W.Frag} {H : Hp} {a : Addr} {o : HO} (t : Tbs K H) (h : H a = none) : Tbs K (upd H a o) := t.keep fun b u e _ => by rw [upd_ne (ne_of_none e h)]; exact e
theorem Tbs.own {K : PySem.W.Frag} {H : Hp} {a : Addr} {o u : HO} (t : Tbs K H) (h : H a = some u) (m : Mk1 u) : Tbs K (upd H a o) := t.keep fun b w e n => by
  by_cases hb : b = a
  · subst hb; rw [h] at e; cases e; exact absurd m n
  · rw [upd_ne hb]; exact e
def noT (H : Hp) : Hp := fun a => match H a with
  | some (.tbl _) => none
  | x => x
theorem noT_of {H : Hp} {a : Addr} {o : HO} (h : H a = some o) (n : NTbl o) : noT H a = some o := by
  unfold noT
  cases o with
  | tbl ps => exact absurd rfl (n ps)
  | _ => rw [h]
theorem of_noT {H : Hp} {a : Addr} {o : HO} (h : noT H a = some o) : H a = some o ∧ NTbl o := by
  unfold noT at h
  cases e : H a with
  | none => rw [e] at h; cases h
  | some u =>
    rw [e] at h
    cases u with
    | tbl ps => cases h
    | _ => cases h; exact ⟨rfl, fun ps z => by cases z⟩
theorem Ex.noT (H : Hp) : Ex (noT H) H := fun _ _ h => (of_noT h).1
structure EnOk (K : PySem.W.Frag) (s : Sta) : Prop where
  ex : Ex s.B s.H
  len : s.en.length = s.σ.length
  sl : ∀ i x, s.en[i]? = some x → ∃ ov, s.σ[i]? = some ov ∧ SlOk K s.B s.H ov x (s.fp i)
  out : ∀ i, s.en[i]? = none → s.fp i = []
  dj : ∀ i j a, a ∈ s.fp i → a ∈ s.fp j → i = j
  off : ∀ i a, a ∈ s.fp i → s.B a = none
  nt : ∀ a o, s.B a = some o → NTbl o
  tb : Tbs K s.H
structure Stp (s t : Sta) : Prop where
  bb : Ex s.B t.B
  bn : ∀ a o, t.B a = some o → s.B a = some o ∨ s.H a = none ∨ inF s.fp a
  hh : ∀ a o, s.H a = some o → ¬ inF s.fp a → NTbl o → t.H a = some o
  dm : ∀ a, t.H a = none → s.H a = none
  ff : ∀ a, inF t.fp a → inF s.fp a ∨ s.H a = none
  pn : ∀ (i : Nat) o, s.en[i]? = some (.pw o) → t.σ[i]? = s.σ[i]? ∧ ∃ o', t.en[i]? = some (.pw o')
  ln : t.en.length = s.en.length
theorem Stp.refl (s : Sta) : Stp s s := ⟨Ex.refl _, fun _ _ h => .inl h, fun _ _ h _ _ => h, fun _ h => h, fun _ h => .inl h, fun _ o h => ⟨rfl, o, h⟩, rfl⟩
theorem Stp.trans {s t u : Sta} (a : Stp s t) (b : Stp t u) : Stp s u := by
  refine ⟨a.bb.trans b.bb, fun x o h => ?_, fun x o h n nt => ?_, fun x h => a.dm x (b.dm x h), fun x h => ?_, fun i o h => ?_, b.ln.trans a.ln⟩
  · rcases b.bn x o h with h | h | h
    · exact a.bn x o h
    · exact .inr (.inl (a.dm x h))
    · rcases a.ff x h with h | h
      · exact .inr (.inr h)
      · exact .inr (.inl h)
  · refine b.hh x o (a.hh x o h n nt) (fun z => ?_) nt
    rcases a.ff x z with z | z
    · exact n z
    · rw [h] at z; cases z
  · rcases b.ff x h with h | h
    · exact a.ff x h
    · exact .inr (a.dm x h)
  · obtain ⟨e1, o1, h1⟩ := a.pn i o h
    obtain ⟨e2, o2, h2⟩ := b.pn i o1 h1
    exact ⟨e2.trans e1, o2, h2⟩
theorem EnOk.cell {K : PySem.W.Frag} {s : Sta} (h : EnOk K s) {a : Addr} (ha : inF s.fp a) : ∃ u, s.H a = some u ∧ Mk1 u := by
  obtain ⟨i, ha⟩ := ha
  cases e : s.en[i]? with
  | none => rw [h.out i e] at ha; cases ha
  | some x =>
    obtain ⟨ov, _, q⟩ := h.sl i x e
    exact q.cell a ha
theorem EnOk.noB {K : PySem.W.Frag} {s : Sta} (h : EnOk K s) {a : Addr} {o : HO} (hb : s.B a = some o) : ¬ inF s.fp a := fun ⟨i, ha⟩ => by
  rw [h.off i a ha] at hb; cases hb
theorem SlOk.step {K : PySem.W.Frag} {s t : Sta} {ov : Option V} {x : Sl} {fr : List Addr} (h : SlOk K s.B s.H ov x fr) (st : Stp s t) (n : ∀ a ∈ fr, ¬ inF s.fp a) : SlOk K t.B t.H ov x fr :=
  h.mono st.bb fun a ha => by
    obtain ⟨u, hu, mu⟩ := h.cell a ha
    rw [hu]
    exact st.hh a u hu (n a ha) (.of mu)
structure Side (s t : Sta) (fr : List Addr) : Prop where
  no : ∀ a ∈ fr, ¬ inF t.fp a
  b : ∀ a ∈ fr, t.B a = none
  new : ∀ a ∈ fr, s.H a = none ∨ inF s.fp a
theorem Side.nil {s t : Sta} : Side s t [] := ⟨fun _ h => (by cases h), fun _ h => (by cases h), fun _ h => (by cases h)⟩
theorem Side.step {K : PySem.W.Frag} {s t u : Sta} {fr : List Addr} (h : Side s t fr) (c : ∀ a ∈ fr, ∃ o, t.H a = some o) (st : Stp t u) : Side s u fr :=
  ⟨fun a ha z => (by
    rcases st.ff a z with z | z
    · exact h.no a ha z
    · obtain ⟨o, e⟩ := c a ha
      rw [e] at z; cases z), fun a ha => (by
    cases e : u.B a with
    | none => rfl
    | some o =>
      rcases st.bn a o e with z | z | z
      · rw [h.b a ha] at z; cases z
      · obtain ⟨o, e⟩ := c a ha
        rw [e] at z; cases z
      · exact absurd z (h.no a ha)), h.new⟩
section
variable {X : Cx} {e : Expr} {es : List Expr} {st : Stmt} {sts : List Stmt}
theorem PEi {t t' : TE} (h : PE X e t) (i : ∀ σ H Q, t' σ H Q → t σ H Q) : PE X e t' := ⟨fun pins s σ H Q I q => h.run pins s σ H Q I (i σ H Q q)⟩
theorem PTi {t t' : TT} (h : PT X e t) (i : ∀ σ H Q, t' σ H Q → t σ H Q) : PT X e t' := ⟨fun pins s σ H Q I q => h.run pins s σ H Q I (i σ H Q q)⟩
theorem PWi {t t' : TT} (h : PW X e t) (i : ∀ σ H Q, t' σ H Q → t σ H Q) : PW X e t' := ⟨fun w pins s σ H Q I q => h.run w pins s σ H Q I (i σ H Q q)⟩
theorem PTsi {t t' : TT} (h : PTs X es t) (i : ∀ σ H Q, t' σ H Q → t σ H Q) : PTs X es t' := ⟨fun pins s σ H Q I q => h.run pins s σ H Q I (i σ H Q q)⟩
theorem PAi {t t' : TA} (h : PA X es t) (i : ∀ σ H Q, t' σ H Q → t σ H Q) : PA X es t' := ⟨fun pos pins s σ H Q I q => h.run pos pins s σ H Q I (i σ H Q q)⟩
theorem PSi {t t' : TS} (h : PS X st t) (i : ∀ D σ H, t' D σ H → t D σ H) : PS X st t' := ⟨fun pins s σ H D I q => h.run pins s σ H D I (i D σ H q)⟩
theorem PSsi {t t' : TS} (h : PSs X sts t) (i : ∀ D σ H, t' D σ H → t D σ H) : PSs X sts t' := ⟨fun pins s σ H D I q => h.run pins s σ H D I (i D σ H q)⟩
end
structure Er where
  c : Str
  fs : List Str
  ds : List D
def RepEr (K : PySem.W.Frag) (B : Hp) (er : Er) (cls : Value) (d : Option Addr) : Prop := cls = .ref (He.ga K er.c) ∧
  ((d = none ∧ er.fs = [] ∧ er.ds = []) ∨ ∃ dd kvs, d = some dd ∧ B dd = some (.xd kvs) ∧ kvs.map (·.1) = er.fs ∧ RepL K B er.ds (kvs.map (·.2)))
theorem RepEr.mono {K : PySem.W.Frag} {B B' : Hp} {er : Er} {cls : Value} {d : Option Addr} (e : Ex B B') (h : RepEr K B er cls d) : RepEr K B' er cls d := by
  obtain ⟨h1, h2⟩ := h
  refine ⟨h1, ?_⟩
  rcases h2 with h2 | ⟨dd, kvs, h2, h3, h4, h5⟩
  · exact .inl h2
  · exact .inr ⟨dd, kvs, h2, e _ _ h3, h4, h5.mono e⟩
def wF : WX := fun _ _ _ _ => False
inductive Out where
  | nx (e : En) | rt (r : Sl) (e : En) | bk (e : En) | ct (e : En) | ex (er : Er) (e : En)
section
variable (K : PySem.W.Frag)
def rdE (f : En → Option (Sl × En)) : TE := fun σ H Q => ∃ s : Sta, s.σ = σ ∧ s.H = H ∧ EnOk K s ∧ ∃ r en', f s.en = some (r, en') ∧
  ∀ v t fr, t.σ = σ → t.en = en' → EnOk K t → Stp s t → SlOk K t.B t.H (some v) r fr → Side s t fr → Q v t.H
def rdV (f : En → Option (D × En)) : TE := fun σ H Q => ∃ s : Sta, s.σ = σ ∧ s.H = H ∧ EnOk K s ∧ ∃ d en', f s.en = some (d, en') ∧
  ∀ v t, t.σ = σ → t.en = en' → EnOk K t → Stp s t → Rep K t.B d v → Q v t.H
def rdT (f : En → Option (Bool × En)) : TT := fun σ H Q => ∃ s : Sta, s.σ = σ ∧ s.H = H ∧ EnOk K s ∧ ∃ b en', f s.en = some (b, en') ∧
  ∀ t, t.σ = σ → t.en = en' → EnOk K t → Stp s t → Q b t.H
def rdA (f : En → Option (List D × En)) : TA := fun σ H Q => ∃ s : Sta, s.σ = σ ∧ s.H = H ∧ EnOk K s ∧ ∃ ds en', f s.en = some (ds, en') ∧
  ∀ vs t, t.σ = σ → t.en = en' → EnOk K t → Stp s t → RepL K t.B ds vs → Q vs t.H
def EndO (W : WX) (D : Ends) (s : Sta) : Out → Prop
  | .nx en' => ∀ t, t.en = en' → EnOk K t → Stp s t → D.nx t.σ t.H
  | .bk en' => ∀ t, t.en = en' → EnOk K t → Stp s t → D.bk t.σ t.H
  | .ct en' => ∀ t, t.en = en' → EnOk K t → Stp s t → D.ct t.σ t.H
  | .rt r en' => ∀ v t fr, t.en = en' → EnOk K t → Stp s t → SlOk K t.B t.H (some v) r fr → Side s t fr → D.rt v t.H
  | .ex er en' => ∀ cls d t, t.en = en' → EnOk K t → Stp s t → RepEr K t.B er cls d → W cls d t.σ t.H
def rdS (W : WX) (f : En → Option Out) : TS := fun D σ H => ∃ s : Sta, s.σ = σ ∧ s.H = H ∧ EnOk K s ∧ ∃ o, f s.en = some o ∧ EndO K W D s o
end
def joinB (B H : Hp) (fr : List Addr) : Hp := fun a => if a ∈ fr then H a else B a
theorem joinB_in {B H : Hp} {fr : List Addr} {a : Addr} (h : a ∈ fr) : joinB B H fr a = H a := if_pos h
theorem joinB_no {B H : Hp} {fr : List Addr} {a : Addr} (h : a ∉ fr) : joinB B H fr a = B a := if_neg h
theorem joinB_ex {B H : Hp} {fr : List Addr} (h : ∀ a ∈ fr, B a = none) : Ex B (joinB B H fr) := fun a o e => by
  by_cases ha : a ∈ fr
  · rw [h a ha] at e; cases e
  · rw [joinB_no ha]; exact e
theorem joinB_le {B H : Hp} {fr : List Addr} (h : Ex B H) : Ex (joinB B H fr) H := fun a o e => by
  by_cases ha : a ∈ fr
  · rw [joinB_in ha] at e; exact e
  · rw [joinB_no ha] at e; exact h a o e
section
variable {K : PySem.W.Frag} {s t : Sta}
theorem nt_upd {B : Hp} {p : Addr} {o : HO} (h : ∀ a u, B a = some u → NTbl u) (n : NTbl o) : ∀ a u, upd B p o a = some u → NTbl u := fun a u e => by
  by_cases ha : a = p
  · subst ha; rw [upd_same] at e; cases e; exact n
  · rw [upd_ne ha] at e; exact h a u e
theorem nt_join {B H : Hp} {fr : List Addr} (h : ∀ a u, B a = some u → NTbl u) (c : ∀ a ∈ fr, ∃ u, H a = some u ∧ Mk1 u) : ∀ a u, joinB B H fr a = some u → NTbl u := fun a u e => by
  by_cases ha : a ∈ fr
  · rw [joinB_in ha] at e
    obtain ⟨w, e1, m⟩ := c a ha
    rw [e1] at e; cases e; exact .of m
  · rw [joinB_no ha] at e; exact h a u e
theorem nt_noT {H : Hp} : ∀ a u, noT H a = some u → NTbl u := fun _ _ e => (of_noT e).2
theorem EnOk.alc (h : EnOk K t) {B' H' : Hp} (eb : Ex t.B B') (eh : Ex t.H H') (el : Ex B' H') (off : ∀ i a, a ∈ t.fp i → B' a = none)
    (nt : ∀ a o, B' a = some o → NTbl o := by first | exact EnOk.nt (by assumption) | exact nt_upd (EnOk.nt (by assumption)) (fun ps z => by cases z) | exact nt_upd (nt_upd (EnOk.nt (by assumption)) (fun ps z => by cases z)) (fun ps z => by cases z)) : EnOk K ⟨B', H', t.σ, t.en, t.fp⟩ where
  nt := nt
  tb := h.tb.keep fun a o e _ => eh a o e
  ex := el
  len := h.len
  sl := fun i x e => by
    obtain ⟨ov, e1, q⟩ := h.sl i x e
    exact ⟨ov, e1, q.mono eb fun a ha => by
      obtain ⟨u, hu, _⟩ := q.cell a ha
      rw [hu]; exact eh a u hu⟩
  out := h.out
  dj := h.dj
  off := off
theorem Stp.alc {B' H' : Hp} (eb : Ex t.B B') (eh : Ex t.H H') (bn : ∀ a o, B' a = some o → t.B a = some o ∨ t.H a = none ∨ inF t.fp a) : Stp t ⟨B', H', t.σ, t.en, t.fp⟩ :=
  ⟨eb, bn, fun a o h _ _ => eh a o h, fun a h => fresh_back eh h, fun _ h => .inl h, fun _ o h => ⟨rfl, o, h⟩, rfl⟩
theorem EnOk.put (h : EnOk K s) {i : Nat} {x : Sl} {ov : Option V} {fr : List Addr} (hi : i < s.en.length) (hx : SlOk K s.B s.H ov x fr) (n : ∀ a ∈ fr, ∀ j, j ≠ i → a ∉ s.fp j) (b : ∀ a ∈ fr, s.B a = none) :
    EnOk K ⟨s.B, s.H, s.σ.set i ov, s.en.set i x, fun j => if j = i then fr else s.fp j⟩ where
  nt := h.nt
  tb := h.tb
  ex := h.ex
  len := by show (s.en.set i x).length = (s.σ.set i ov).length; rw [List.length_set, List.length_set]; exact h.len
  sl := fun j y e => by
    have e : (s.en.set i x)[j]? = some y := e
    show ∃ ov', (s.σ.set i ov)[j]? = some ov' ∧ SlOk K s.B s.H ov' y (if j = i then fr else s.fp j)
    by_cases hj : j = i
    · subst hj
      rw [List.getElem?_set_self hi] at e
      cases e
      rw [if_pos rfl, List.getElem?_set_self (by rw [← h.len]; exact hi)]
      exact ⟨ov, rfl, hx⟩
    · rw [List.getElem?_set_ne (Ne.symm hj)] at e
      rw [if_neg hj, List.getElem?_set_ne (Ne.symm hj)]
      exact h.sl j y e
  out := fun j e => by
    have e : (s.en.set i x)[j]? = none := e
    show (if j = i then fr else s.fp j) = []
    have hj : j ≠ i := by
      rintro rfl
      rw [List.getElem?_set_self hi] at e; cases e
    rw [List.getElem?_set_ne (Ne.symm hj)] at e
    rw [if_neg hj]
    exact h.out j e
  dj := fun j k a hj hk => by
    have hj : a ∈ (if j = i then fr else s.fp j) := hj
    have hk : a ∈ (if k = i then fr else s.fp k) := hk
    by_cases ej : j = i
    · by_cases ek : k = i
      · exact ej.trans ek.symm
      · rw [if_pos ej] at hj
        rw [if_neg ek] at hk
        exact absurd hk (n a hj k ek)
    · rw [if_neg ej] at hj
      by_cases ek : k = i
      · rw [if_pos ek] at hk
        exact absurd hj (n a hk j ej)
      · rw [if_neg ek] at hk
        exact h.dj j k a hj hk
  off := fun j a hj => by
    have hj : a ∈ (if j = i then fr else s.fp j) := hj
    by_cases ej : j = i
    · rw [if_pos ej] at hj; exact b a hj
    · rw [if_neg ej] at hj; exact h.off j a hj
theorem Stp.put {i : Nat} {x : Sl} {ov : Option V} {fr : List Addr} (hn : ∀ o, s.en[i]? ≠ some (.pw o)) (new : ∀ a ∈ fr, inF s.fp a ∨ s.H a = none) :
    Stp s ⟨s.B, s.H, s.σ.set i ov, s.en.set i x, fun j => if j = i then fr else s.fp j⟩ where
  bb := Ex.refl _
  bn := fun _ _ h => .inl h
  hh := fun _ _ h _ _ => h
  dm := fun _ h => h
  ff := fun a ⟨j, hj⟩ => by
    have hj : a ∈ (if j = i then fr else s.fp j) := hj
    by_cases ej : j = i
    · rw [if_pos ej] at hj; exact new a hj
    · rw [if_neg ej] at hj; exact .inl ⟨j, hj⟩
  pn := fun j o e => by
    have hj : j ≠ i := fun z => hn o (z ▸ e)
    exact ⟨List.getElem?_set_ne (Ne.symm hj), o, by show (s.en.set i x)[j]? = _; rw [List.getElem?_set_ne (Ne.symm hj)]; exact e⟩
  ln := List.length_set ..
theorem frz_res (h : EnOk K t) (st : Stp s t) {v : V} {o : O2} {fr : List Addr} (ho : Own K t.B t.H o v fr) (sd : Side s t fr) :
    EnOk K ⟨joinB t.B t.H fr, t.H, t.σ, t.en, t.fp⟩ ∧ Stp s ⟨joinB t.B t.H fr, t.H, t.σ, t.en, t.fp⟩ ∧ Rep K (joinB t.B t.H fr) o.fz v := by
  have eb : Ex t.B (joinB t.B t.H fr) := joinB_ex sd.b
  refine ⟨h.alc eb (Ex.refl _) (joinB_le h.ex) (fun i a ha => ?_) (nt_join h.nt ho.cell), ?_, ho.fz eb fun a ha => joinB_in ha⟩
  · rw [joinB_no fun z => sd.no a z ⟨i, ha⟩]; exact h.off i a ha
  · refine ⟨st.bb.trans eb, fun a u e => ?_, st.hh, st.dm, st.ff, st.pn, st.ln⟩
    have e : joinB t.B t.H fr a = some u := e
    by_cases ha : a ∈ fr
    · exact .inr (sd.new a ha)
    · rw [joinB_no ha] at e; exact st.bn a u e
theorem frz_slot (h : EnOk K s) {i : Nat} {o : O2} {v : V} (e : s.en[i]? = some (.ow o)) (ho : Own K s.B s.H o v (s.fp i)) (ev : s.σ[i]? = some (some v)) :
    EnOk K ⟨joinB s.B s.H (s.fp i), s.H, s.σ, s.en.set i (.va o.fz), fun j => if j = i then [] else s.fp j⟩ ∧ Stp s ⟨joinB s.B s.H (s.fp i), s.H, s.σ, s.en.set i (.va o.fz), fun j => if j = i then [] else s.fp j⟩ ∧ Rep K (joinB s.B s.H (s.fp i)) o.fz v := by
  have eb : Ex s.B (joinB s.B s.H (s.fp i)) := joinB_ex (h.off i)
  have hi : i < s.en.length := (List.getElem?_eq_some_iff.mp e).1
  have rp : Rep K (joinB s.B s.H (s.fp i)) o.fz v := ho.fz eb fun a ha => joinB_in ha
  refine ⟨⟨joinB_le h.ex, ?_, fun j y ej => ?_, fun j ej => ?_, fun j k a hj hk => ?_, fun j a hj => ?_, nt_join h.nt ho.cell, h.tb⟩, ⟨eb, fun a u ea => ?_, fun _ _ z _ _ => z, fun _ z => z, fun a ⟨j, hj⟩ => ?_, fun j o' ej => ?_, List.length_set ..⟩, rp⟩
  · show (s.en.set i _).length = s.σ.length
    rw [List.length_set]; exact h.len
  · have ej : (s.en.set i (.va o.fz))[j]? = some y := ej
    show ∃ ov, s.σ[j]? = some ov ∧ SlOk K (joinB s.B s.H (s.fp i)) s.H ov y (if j = i then [] else s.fp j)
    by_cases hj : j = i
    · subst hj
      rw [List.getElem?_set_self hi] at ej
      cases ej
      exact ⟨_, ev, by rw [if_pos rfl], v, rfl, rp⟩
    · rw [List.getElem?_set_ne (Ne.symm hj)] at ej
      obtain ⟨ov, e1, q⟩ := h.sl j y ej
      rw [if_neg hj]
      exact ⟨ov, e1, q.mono eb fun _ _ => rfl⟩
  · have ej : (s.en.set i (.va o.fz))[j]? = none := ej
    show (if j = i then [] else s.fp j) = []
    by_cases hj : j = i
    · rw [if_pos hj]
    · rw [List.getElem?_set_ne (Ne.symm hj)] at ej
      rw [if_neg hj]; exact h.out j ej
  · have hj : a ∈ (if j = i then [] else s.fp j) := hj
    have hk : a ∈ (if k = i then [] else s.fp k) := hk
    by_cases ej : j = i
    · rw [if_pos ej] at hj; cases hj
    · by_cases ek : k = i
      · rw [if_pos ek] at hk; cases hk
      · rw [if_neg ej] at hj; rw [if_neg ek] at hk
        exact h.dj j k a hj hk
  · have hj : a ∈ (if j = i then [] else s.fp j) := hj
    show joinB s.B s.H (s.fp i) a = none
    by_cases ej : j = i
    · rw [if_pos ej] at hj; cases hj
    · rw [if_neg ej] at hj
      rw [joinB_no fun z => ej (h.dj j i a hj z)]
      exact h.off j a hj
  · have ea : joinB s.B s.H (s.fp i) a = some u := ea
    by_cases ha : a ∈ s.fp i
    · exact .inr (.inr ⟨i, ha⟩)
    · rw [joinB_no ha] at ea; exact .inl ea
  · have hj : a ∈ (if j = i then [] else s.fp j) := hj
    by_cases ej : j = i
    · rw [if_pos ej] at hj; cases hj
    · rw [if_neg ej] at hj; exact .inl ⟨j, hj⟩
  · have hj : j ≠ i := by
      rintro rfl
      rw [e] at ej; cases ej
    exact ⟨rfl, o', by show (s.en.set i _)[j]? = _; rw [List.getElem?_set_ne (Ne.symm hj)]; exact ej⟩
end
def xFz (f : En → Option (Sl × En)) : En → Option (D × En) := fun e => (f e).bind fun p => p.1.fz.bind fun d => some (d, p.2)
def xUp (f : En → Option (D × En)) : En → Option (Sl × En) := fun e => (f e).bind fun p => some (.va p.1, p.2)
def xVar (i : Nat) : En → Option (Sl × En) := fun e => match e[i]? with
  | some (.va d) => some (.va d, e)
  | some (.ow o) => some (.va o.fz, e.set i (.va o.fz))
  | _ => none
def xC (d : D) : En → Option (D × En) := fun e => some (d, e)
def xNil : En → Option (List D × En) := fun e => some ([], e)
def xCons (f : En → Option (D × En)) (g : En → Option (List D × En)) : En → Option (List D × En) := fun e => (f e).bind fun p => (g p.2).bind fun q => some (p.1 :: q.1, q.2)
def xPr (g : List D → Option Sl) (f : En → Option (List D × En)) : En → Option (Sl × En) := fun e => (f e).bind fun p => (g p.1).bind fun x => some (x, p.2)
section
variable {X : Cx} {a b c : Expr} {pos : Pos}
theorem xv {f : En → Option (Sl × En)} (h : PE X a (rdE X.K f)) : PE X a (rdV X.K (xFz f)) := PEi h fun σ H Q ⟨s, e1, e2, ok, d, en', hf, q⟩ => by
  obtain ⟨⟨r, en1⟩, h1, h2⟩ := Option.bind_eq_some_iff.mp hf
  obtain ⟨d1, h3, h4⟩ := Option.bind_eq_some_iff.mp h2
  cases h4
  refine ⟨s, e1, e2, ok, r, en1, h1, fun v t fr tσ te okt st sl sd => ?_⟩
  cases r with
  | no => cases h3
  | pw o => cases h3
  | va d2 =>
    cases h3
    obtain ⟨_, v', ev, rp⟩ := sl
    cases ev
    exact q v t tσ te okt st rp
  | ow o =>
    cases h3
    obtain ⟨v', ev, ho⟩ := sl
    cases ev
    obtain ⟨k1, k2, k3⟩ := frz_res okt st ho sd
    exact q v ⟨joinB t.B t.H fr, t.H, t.σ, t.en, t.fp⟩ tσ te k1 k2 k3
theorem xu {f : En → Option (D × En)} (h : PE X a (rdV X.K f)) : PE X a (rdE X.K (xUp f)) := PEi h fun σ H Q ⟨s, e1, e2, ok, r, en', hf, q⟩ => by
  obtain ⟨⟨d, en1⟩, h1, h2⟩ := Option.bind_eq_some_iff.mp hf
  cases h2
  exact ⟨s, e1, e2, ok, d, en1, h1, fun v t tσ te okt st rp => q v t [] tσ te okt st ⟨rfl, v, rfl, rp⟩ .nil⟩
theorem xe_var {i : Nat} {x : Str} (hp : PE X (.Name x pos) (tVar i)) : PE X (.Name x pos) (rdE X.K (xVar i)) := PEi hp fun σ H Q ⟨s, e1, e2, ok, r, en', hf, q⟩ => by
  unfold xVar at hf
  cases e : s.en[i]? with
  | none => rw [e] at hf; cases hf
  | some sl =>
    rw [e] at hf
    obtain ⟨ov, ev, so⟩ := ok.sl i sl e
    cases sl with
    | no => cases hf
    | pw o => cases hf
    | va d =>
      cases hf
      obtain ⟨_, v, rfl, rp⟩ := so
      refine ⟨v, by rw [← e1]; exact ev, ?_⟩
      rw [← e2]
      exact q v s [] e1 rfl ok (Stp.refl s) ⟨rfl, v, rfl, rp⟩ .nil
    | ow o =>
      cases hf
      obtain ⟨v, rfl, ho⟩ := so
      refine ⟨v, by rw [← e1]; exact ev, ?_⟩
      obtain ⟨k1, k2, k3⟩ := frz_slot ok e ho ev
      rw [← e2]
      exact q v ⟨joinB s.B s.H (s.fp i), s.H, s.σ, s.en.set i (.va o.fz), fun j => if j = i then [] else s.fp j⟩ [] e1 rfl k1 k2 ⟨rfl, v, rfl, k3⟩ .nil
theorem xe_c {d : D} {v : V} (hp : PE X a (tC v)) (hr : ∀ B, Rep X.K B d v) : PE X a (rdV X.K (xC d)) := PEi hp fun σ H Q ⟨s, e1, e2, ok, d', en', hf, q⟩ => by
  cases hf
  show Q v H
  rw [← e2]
  exact q v s e1 rfl ok (Stp.refl s) (hr _)
theorem xa_nil : PA X [] (rdA X.K xNil) := PAi pa_nil fun σ H Q ⟨s, e1, e2, ok, d', en', hf, q⟩ => by
  cases hf
  show Q [] H
  rw [← e2]
  exact q [] s e1 rfl ok (Stp.refl s) rfl
theorem xa_cons {es : List Expr} {f : En → Option (D × En)} {g : En → Option (List D × En)} (h : PE X a (rdV X.K f)) (hs : PA X es (rdA X.K g)) (hst : starEach (a :: es) X.env = (false, eval a X.env) :: starEach es X.env := by rfl) : PA X (a :: es) (rdA X.K (xCons f g)) :=
  PAi (pa_cons h hs hst) fun σ H Q ⟨s, e1, e2, ok, ds, en', hf, q⟩ => by
    obtain ⟨⟨d, en1⟩, h1, h2⟩ := Option.bind_eq_some_iff.mp hf
    obtain ⟨⟨ds2, en2⟩, h3, h4⟩ := Option.bind_eq_some_iff.mp h2
    cases h4
    exact ⟨s, e1, e2, ok, d, en1, h1, fun v t tσ te okt st rp => ⟨t, tσ, rfl, okt, ds2, en2, by rw [te]; exact h3, fun vs u uσ ue oku st2 rps => q (v :: vs) u uσ ue oku (st.trans st2) ⟨v, vs, rfl, rp.mono st2.bb, rps⟩⟩⟩
end
def PrS (K : PySem.W.Frag) (r : List V → Hp → VK → Prop) (g : List D → Option Sl) : Prop := ∀ (B H : Hp) (ds : List D) (vs : List V) (x : Sl), Ex B H → RepL K B ds vs → g ds = some x → ∀ Q : VK,
  (∀ u B' H' fr, Ex B B' → Ex H H' → Ex B' H' → (∀ a o, B' a = some o → B a = some o ∨ H a = none) → SlOk K B' H' (some u) x fr → (∀ a ∈ fr, H a = none ∧ B' a = none) → Q u H') → r vs H Q
def r2L (r : R2) : List V → Hp → VK → Prop := fun vs H Q => match vs with
  | [x, y] => r x y H Q
  | _ => False
def r1L (r : V → Hp → VK → Prop) : List V → Hp → VK → Prop := fun vs H Q => match vs with
  | [x] => r x H Q
  | _ => False
section
variable {K : PySem.W.Frag} {r : List V → Hp → VK → Prop} {g : List D → Option Sl}
theorem PrS.val (h : ∀ (B H : Hp) ds vs x, Ex B H → RepL K B ds vs → g ds = some x → ∃ d u, x = .va d ∧ Rep K B d u ∧ ∀ Q : VK, Q u H → r vs H Q) : PrS K r g := fun B H ds vs x e rp hg Q q => by
  obtain ⟨d, u, rfl, rd, k⟩ := h B H ds vs x e rp hg
  exact k Q (q u B H [] (Ex.refl _) (Ex.refl _) e (fun _ _ z => .inl z) ⟨rfl, u, rfl, rd⟩ fun _ z => by cases z)
theorem PrS.lst (h : ∀ (B H : Hp) ds vs x, Ex B H → RepL K B ds vs → g ds = some x → ∃ es us, x = .ow (.o1 (.lst es)) ∧ RepL K B es us ∧ ∀ Q : VK, (∀ p, H p = none → Q (.ref p) (upd H p (.lst us))) → r vs H Q) : PrS K r g := fun B H ds vs x e rp hg Q q => by
  obtain ⟨es, us, rfl, rd, k⟩ := h B H ds vs x e rp hg
  refine k Q fun p hp => q (.ref p) B _ [p] (Ex.refl _) (Ex.new hp) (e.trans (Ex.new hp)) (fun _ _ z => .inl z) ⟨_, rfl, p, rfl, rfl, us, upd_same, rd⟩ fun a z => ?_
  cases List.mem_singleton.mp z
  exact ⟨hp, fresh_back e hp⟩
theorem PrS.tup (h : ∀ (B H : Hp) ds vs x, Ex B H → RepL K B ds vs → g ds = some x → ∃ es us, x = .va (.tup false es) ∧ RepL K B es us ∧ ∀ Q : VK, (∀ p, H p = none → Q (.ref p) (upd H p (.tup us))) → r vs H Q) : PrS K r g := fun B H ds vs x e rp hg Q q => by
  obtain ⟨es, us, rfl, rd, k⟩ := h B H ds vs x e rp hg
  refine k Q fun p hp => ?_
  have hb : B p = none := fresh_back e hp
  refine q (.ref p) (upd B p (.tup us)) _ [] (Ex.new hb) (Ex.new hp) (fun a o z => ?_) (fun a o z => ?_) ⟨rfl, _, rfl, p, us, rfl, upd_same, rd.mono (Ex.new hb)⟩ fun _ z => by cases z
  · by_cases ha : a = p
    · subst ha; rw [upd_same] at z; rw [upd_same]; exact z
    · rw [upd_ne ha] at z; rw [upd_ne ha]; exact e a o z
  · by_cases ha : a = p
    · subst ha; exact .inr hp
    · rw [upd_ne ha] at z; exact .inl z
theorem PrS.run (hr : PrS K r g) {s t : Sta} {ds : List D} {vs : List V} {x : Sl} {Q : VK} {en' : En} {σ : L2.St} (okt : EnOk K t) (st : Stp s t) (rp : RepL K t.B ds vs) (hg : g ds = some x) (tσ : t.σ = σ) (te : t.en = en')
    (q : ∀ v t fr, t.σ = σ → t.en = en' → EnOk K t → Stp s t → SlOk K t.B t.H (some v) x fr → Side s t fr → Q v t.H) : r vs t.H Q := by
  refine hr t.B t.H ds vs x okt.ex rp hg Q fun u B' H' fr eb eh el bn sl fresh => ?_
  have off : ∀ i a, a ∈ t.fp i → B' a = none := fun i a ha => by
    cases e : B' a with
    | none => rfl
    | some o =>
      rcases bn a o e with z | z
      · rw [okt.off i a ha] at z; cases z
      · obtain ⟨w, hw, _⟩ := okt.cell ⟨i, ha⟩
        rw [hw] at z; cases z
  have cut : ∀ a, B' a = none → noT B' a = none := fun a z => by unfold noT; rw [z]
  have ok2 : EnOk K ⟨noT B', H', t.σ, t.en, t.fp⟩ := okt.alc (fun a o z => noT_of (eb a o z) (okt.nt a o z)) eh ((Ex.noT B').trans el) (fun i a ha => cut a (off i a ha)) nt_noT
  have st2 : Stp t ⟨noT B', H', t.σ, t.en, t.fp⟩ := Stp.alc (fun a o z => noT_of (eb a o z) (okt.nt a o z)) eh fun a o z => (bn a o (of_noT z).1).elim .inl fun y => .inr (.inl y)
  exact q u ⟨noT B', H', t.σ, t.en, t.fp⟩ fr tσ te ok2 (st.trans st2) (sl.nt fun a o z n => noT_of z n) ⟨fun a ha ⟨i, z⟩ => (by
    obtain ⟨w, hw, _⟩ := okt.cell ⟨i, z⟩
    rw [(fresh a ha).1] at hw; cases hw), fun a ha => cut a (fresh a ha).2, fun a ha => .inl (st.dm a (fresh a ha).1)⟩
end
section
variable {X : Cx} {a b c : Expr} {es : List Expr} {pos : Pos} {f g : En → Option (D × En)} {fa : En → Option (List D × En)} {p : List D → Option Sl}
theorem rd_op {K : PySem.W.Frag} {r : R2} (hs : PrS K (r2L r) p) : ∀ σ H Q, rdE K (xPr p (xCons f (xCons g xNil))) σ H Q → tOp r (rdV K f) (rdV K g) σ H Q := fun σ H Q ⟨s, e1, e2, ok, x, en', hf, q⟩ => by
  obtain ⟨⟨ds, en1⟩, h1, h2⟩ := Option.bind_eq_some_iff.mp hf
  obtain ⟨y, h3, h4⟩ := Option.bind_eq_some_iff.mp h2
  cases h4
  obtain ⟨⟨d, en2⟩, k1, k2⟩ := Option.bind_eq_some_iff.mp h1
  obtain ⟨⟨ds2, en3⟩, k3, k4⟩ := Option.bind_eq_some_iff.mp k2
  cases k4
  obtain ⟨⟨d2, en4⟩, l1, l2⟩ := Option.bind_eq_some_iff.mp k3
  cases l2
  exact ⟨s, e1, e2, ok, d, en2, k1, fun v t tσ te okt st rp => ⟨t, tσ, rfl, okt, d2, en4, by rw [te]; exact l1, fun w u uσ ue oku st2 rp2 =>
    hs.run (ds := [d, d2]) (vs := [v, w]) oku (st.trans st2) ⟨v, [w], rfl, rp.mono st2.bb, w, [], rfl, rp2, rfl⟩ h3 uσ ue q⟩⟩
theorem rd_un {K : PySem.W.Frag} {r : V → Hp → VK → Prop} (hs : PrS K (r1L r) p) : ∀ σ H Q, rdE K (xPr p (xCons f xNil)) σ H Q → tUn r (rdV K f) σ H Q := fun σ H Q ⟨s, e1, e2, ok, x, en', hf, q⟩ => by
  obtain ⟨⟨ds, en1⟩, h1, h2⟩ := Option.bind_eq_some_iff.mp hf
  obtain ⟨y, h3, h4⟩ := Option.bind_eq_some_iff.mp h2
  cases h4
  obtain ⟨⟨d, en2⟩, k1, k2⟩ := Option.bind_eq_some_iff.mp h1
  cases k2
  exact ⟨s, e1, e2, ok, d, en2, k1, fun v t tσ te okt st rp => hs.run (ds := [d]) (vs := [v]) okt st ⟨v, [], rfl, rp, rfl⟩ h3 tσ te q⟩
theorem rd_call {K : PySem.W.Frag} {r : List V → Hp → VK → Prop} (hs : PrS K r p) : ∀ σ H Q, rdE K (xPr p fa) σ H Q → tCB r (rdA K fa) σ H Q := fun σ H Q ⟨s, e1, e2, ok, x, en', hf, q⟩ => by
  obtain ⟨⟨ds, en1⟩, h1, h2⟩ := Option.bind_eq_some_iff.mp hf
  obtain ⟨y, h3, h4⟩ := Option.bind_eq_some_iff.mp h2
  cases h4
  exact ⟨s, e1, e2, ok, ds, en1, h1, fun vs t tσ te okt st rp => hs.run okt st rp h3 tσ te q⟩
theorem xe_op {op : Operator} {r : R2} (ho : OpR X (binaryOp op) r) (hs : PrS X.K (r2L r) p) (ha : PE X a (rdV X.K f)) (hb : PE X b (rdV X.K g)) : PE X (.BinOp a op b pos) (rdE X.K (xPr p (xCons f (xCons g xNil)))) := PEi (pe_op ho ha hb) (rd_op hs)
theorem xe_cmp {op : CmpOp} {r : R2} (ho : OpR X (compareOp op) r) (hs : PrS X.K (r2L r) p) (ha : PE X a (rdV X.K f)) (hb : PE X b (rdV X.K g)) (hm : behindInMarks op b = false) : PE X (.Compare a [op] [b] pos) (rdE X.K (xPr p (xCons f (xCons g xNil)))) := PEi (pe_cmpR ho ha hb hm) (rd_op hs)
theorem xe_ix {r : R2} (ho : IxR X r) (hs : PrS X.K (r2L r) p) (ha : PE X a (rdV X.K f)) (hb : PE X b (rdV X.K g)) (hx : PlainIx b) : PE X (.Subscript a b pos) (rdE X.K (xPr p (xCons f (xCons g xNil)))) := PEi (pe_ix ho ha hb hx) (rd_op hs)
theorem xe_un {op : UnaryOp} {r : V → Hp → VK → Prop} (ho : UnR X (unaryOp op) r) (hs : PrS X.K (r1L r) p) (ha : PE X a (rdV X.K f)) : PE X (.UnaryOp op a pos) (rdE X.K (xPr p (xCons f xNil))) := PEi (pe_un ho ha) (rd_un hs)
def pTup : List D → Option Sl := fun ds => if ds.length ≤ 100000 then some (.va (.tup false ds)) else none
def pLst : List D → Option Sl := fun ds => if ds.length ≤ 100000 then some (.ow (.o1 (.lst ds))) else none
theorem xe_tup {k} (h : PA X es (rdA X.K fa)) : PE X (.Tuple es k pos) (rdE X.K (xPr pTup fa)) := PEi (pe_tup h) fun σ H Q ⟨s, e1, e2, ok, x, en', hf, q⟩ => by
  obtain ⟨⟨ds, en1⟩, h1, h2⟩ := Option.bind_eq_some_iff.mp hf
  obtain ⟨y, h3, h4⟩ := Option.bind_eq_some_iff.mp h2
  cases h4
  refine ⟨s, e1, e2, ok, ds, en1, h1, fun vs t tσ te okt st rp => ?_⟩
  have : PrS X.K (fun vs H Q => vs.length ≤ sizeLine ∧ ∀ p, H p = none → Q (.ref p) (upd H p (.tup vs))) pTup := PrS.tup fun B H ds vs x e rp hg => by
    unfold pTup at hg
    split at hg
    · rename_i hl
      cases hg
      exact ⟨ds, vs, rfl, rp, fun Q k => ⟨sz_of (by rw [rp.len]; exact hl), k⟩⟩
    · cases hg
  exact this.run okt st rp h3 tσ te q
theorem xe_lst (h : PA X es (rdA X.K fa)) : PE X (.List es pos) (rdE X.K (xPr pLst fa)) := PEi (pe_lst h) fun σ H Q ⟨s, e1, e2, ok, x, en', hf, q⟩ => by
  obtain ⟨⟨ds, en1⟩, h1, h2⟩ := Option.bind_eq_some_iff.mp hf
  obtain ⟨y, h3, h4⟩ := Option.bind_eq_some_iff.mp h2
  cases h4
  refine ⟨s, e1, e2, ok, ds, en1, h1, fun vs t tσ te okt st rp => ?_⟩
  have : PrS X.K (fun vs H Q => vs.length ≤ sizeLine ∧ ∀ p, H p = none → Q (.ref p) (upd H p (.lst vs))) pLst := PrS.lst fun B H ds vs x e rp hg => by
    unfold pLst at hg
    split at hg
    · rename_i hl
      cases hg
      exact ⟨ds, vs, rfl, rp, fun Q k => ⟨sz_of (by rw [rp.len]; exact hl), k⟩⟩
    · cases hg
  exact this.run okt st rp h3 tσ te q
end
def xB (f : En → Option (D × En)) : En → Option (Bool × En) := fun e => (f e).bind fun p => match p.1 with
  | .bl b => some (b, p.2)
  | _ => none
def xAnd (f g : En → Option (Bool × En)) : En → Option (Bool × En) := fun e => (f e).bind fun p => if p.1 = true then g p.2 else some (false, p.2)
def xOr (f g : En → Option (Bool × En)) : En → Option (Bool × En) := fun e => (f e).bind fun p => if p.1 = true then some (true, p.2) else g p.2
def xNot (f : En → Option (Bool × En)) : En → Option (Bool × En) := fun e => (f e).bind fun p => some (!p.1, p.2)
def xOfB (f : En → Option (Bool × En)) : En → Option (D × En) := fun e => (f e).bind fun p => some (.bl p.1, p.2)
def xIfE (c : En → Option (Bool × En)) (f g : En → Option (Sl × En)) : En → Option (Sl × En) := fun e => (c e).bind fun p => if p.1 = true then f p.2 else g p.2
def xYes : En → Option (Bool × En) := fun e => some (true, e)
section
variable {K : PySem.W.Frag} {f g : En → Option (D × En)} {c c2 : En → Option (Bool × En)}
theorem rd_B : ∀ σ H Q, rdT K (xB f) σ H Q → rdV K f σ H fun x H1 => ∃ b, x = .bl b ∧ Q b H1 := fun σ H Q ⟨s, e1, e2, ok, b, en', hf, q⟩ => by
  obtain ⟨⟨d, en1⟩, h1, h2⟩ := Option.bind_eq_some_iff.mp hf
  cases d with
  | bl b' =>
    cases h2
    exact ⟨s, e1, e2, ok, _, _, h1, fun v t tσ te okt st rp => ⟨b, rp, q t tσ te okt st⟩⟩
  | _ => cases h2
theorem Stp.sideL {s t u : Sta} {fr : List Addr} (st : Stp s t) (sd : Side t u fr) : Side s u fr := ⟨sd.no, sd.b, fun a ha => (sd.new a ha).elim (fun z => .inl (st.dm a z)) fun z => (st.ff a z).elim .inr .inl⟩
theorem EndO.from {W : WX} {D : Ends} {s t : Sta} {o : Out} (h : EndO K W D s o) (st : Stp s t) : EndO K W D t o := by
  cases o with
  | nx e => exact fun u ue ok st2 => h u ue ok (st.trans st2)
  | bk e => exact fun u ue ok st2 => h u ue ok (st.trans st2)
  | ct e => exact fun u ue ok st2 => h u ue ok (st.trans st2)
  | rt r e => exact fun v u fr ue ok st2 sl sd => h v u fr ue ok (st.trans st2) sl (st.sideL sd)
  | ex r e => exact fun cls d u ue ok st2 re => h cls d u ue ok (st.trans st2) re
end
section
variable {X : Cx} {a b c : Expr} {rest : List Expr} {pos : Pos} {f g h : En → Option (D × En)} {ct cu : En → Option (Bool × En)} {p p' : List D → Option Sl}
theorem xt_val (ha : PE X a (rdV X.K f)) (he : ∀ whole, isTrue a X.env whole = (do let v ← whole; standAt a.pos; holding [v] (truthy v)) := by intro _; rfl) : PT X a (rdT X.K (xB f)) := PTi (pt_val ha he) rd_B
theorem xt_cmp {op : CmpOp} {r : R2} (ho : OpR X (compareOp op) r) (hs : PrS X.K (r2L r) p) (ha : PE X a (rdV X.K f)) (hb : PE X b (rdV X.K g)) (hm : behindInMarks op b = false) : PT X (.Compare a [op] [b] pos) (rdT X.K (xB (xFz (xPr p (xCons f (xCons g xNil)))))) :=
  PTi (pt_cmpR ho ha hb hm) fun σ H Q hr => rd_op hs σ H _ (by
    obtain ⟨s, e1, e2, ok, b, en', hf, q⟩ := hr
    obtain ⟨⟨d, en1⟩, h1, h2⟩ := Option.bind_eq_some_iff.mp hf
    cases d with
    | bl b' =>
      cases h2
      obtain ⟨⟨r, en2⟩, k1, k2⟩ := Option.bind_eq_some_iff.mp h1
      obtain ⟨d1, k3, k4⟩ := Option.bind_eq_some_iff.mp k2
      cases k4
      refine ⟨s, e1, e2, ok, r, en2, k1, fun v t fr tσ te okt st sl sd => ?_⟩
      cases r with
      | va d2 =>
        cases k3
        obtain ⟨_, v', ev, rp⟩ := sl
        cases ev
        exact ⟨b, rp, q t tσ te okt st⟩
      | ow o => cases o with
        | o1 o => cases o <;> cases k3
        | obj _ _ _ => cases k3
        | dp _ => cases k3
      | _ => cases k3
    | _ => cases h2)
theorem xw_and (ha : PT X a (rdT X.K ct)) (hb : PW X (.BoolOp .And (b :: rest) pos) (rdT X.K cu)) : PW X (.BoolOp .And (a :: b :: rest) pos) (rdT X.K (xAnd ct cu)) := PWi (pw_and ha hb) fun σ H Q ⟨s, e1, e2, ok, b, en', hf, q⟩ => by
  obtain ⟨⟨b1, en1⟩, h1, h2⟩ := Option.bind_eq_some_iff.mp hf
  refine ⟨s, e1, e2, ok, b1, en1, h1, fun t tσ te okt st => ?_⟩
  cases b1 with
  | true => exact ⟨t, tσ, rfl, okt, b, en', by rw [te]; exact h2, fun u uσ ue oku st2 => q u uσ ue oku (st.trans st2)⟩
  | false => cases h2; exact q t tσ te okt st
theorem xw_or (ha : PT X a (rdT X.K ct)) (hb : PW X (.BoolOp .Or (b :: rest) pos) (rdT X.K cu)) : PW X (.BoolOp .Or (a :: b :: rest) pos) (rdT X.K (xOr ct cu)) := PWi (pw_or ha hb) fun σ H Q ⟨s, e1, e2, ok, b, en', hf, q⟩ => by
  obtain ⟨⟨b1, en1⟩, h1, h2⟩ := Option.bind_eq_some_iff.mp hf
  refine ⟨s, e1, e2, ok, b1, en1, h1, fun t tσ te okt st => ?_⟩
  cases b1 with
  | false => exact ⟨t, tσ, rfl, okt, b, en', by rw [te]; exact h2, fun u uσ ue oku st2 => q u uσ ue oku (st.trans st2)⟩
  | true => cases h2; exact q t tσ te okt st
theorem xt_not (ha : PT X a (rdT X.K ct)) : PT X (.UnaryOp .Not a pos) (rdT X.K (xNot ct)) := PTi (pt_not ha) fun σ H Q ⟨s, e1, e2, ok, b, en', hf, q⟩ => by
  obtain ⟨⟨b1, en1⟩, h1, h2⟩ := Option.bind_eq_some_iff.mp hf
  cases h2
  exact ⟨s, e1, e2, ok, b1, en1, h1, q⟩
theorem xe_not (ha : PE X a (rdV X.K f)) : PE X (.UnaryOp .Not a pos) (rdV X.K (xOfB (xNot (xB f)))) := PEi (pe_not ha) fun σ H Q ⟨s, e1, e2, ok, b, en', hf, q⟩ => by
  obtain ⟨⟨b1, en1⟩, h1, h2⟩ := Option.bind_eq_some_iff.mp hf
  cases h2
  obtain ⟨⟨b2, en2⟩, h3, h4⟩ := Option.bind_eq_some_iff.mp h1
  cases h4
  exact rd_B σ H (fun b H1 => Q (.bl (!b)) H1) ⟨s, e1, e2, ok, b2, en2, h3, fun t tσ te okt st => q _ t tσ te okt st rfl⟩
theorem xe_and (ha : PE X a (rdV X.K f)) (hb : PE X (.BoolOp .And (b :: rest) pos) (rdV X.K g)) : PE X (.BoolOp .And (a :: b :: rest) pos) (rdV X.K (fun e => (xB f e).bind fun p => if p.1 = true then g p.2 else some (.bl false, p.2))) := PEi (pe_and ha hb) fun σ H Q ⟨s, e1, e2, ok, d, en', hf, q⟩ => by
  obtain ⟨⟨b1, en1⟩, h1, h2⟩ := Option.bind_eq_some_iff.mp hf
  refine rd_B σ H (fun b H1 => if b = true then rdV X.K g σ H1 Q else Q (.bl false) H1) ⟨s, e1, e2, ok, b1, en1, h1, fun t tσ te okt st => ?_⟩
  cases b1 with
  | true => exact ⟨t, tσ, rfl, okt, d, en', by rw [te]; exact h2, fun v u uσ ue oku st2 rp => q v u uσ ue oku (st.trans st2) rp⟩
  | false => cases h2; exact q _ t tσ te okt st rfl
theorem xe_if {fe ge : En → Option (Sl × En)} (hc : PT X c (rdT X.K ct)) (ha : PE X a (rdE X.K fe)) (hb : PE X b (rdE X.K ge)) : PE X (.IfExp c a b pos) (rdE X.K (xIfE ct fe ge)) := PEi (pe_ifExp hc ha hb) fun σ H Q ⟨s, e1, e2, ok, r, en', hf, q⟩ => by
  obtain ⟨⟨b1, en1⟩, h1, h2⟩ := Option.bind_eq_some_iff.mp hf
  refine ⟨s, e1, e2, ok, b1, en1, h1, fun t tσ te okt st => ?_⟩
  cases b1 with
  | true => exact ⟨t, tσ, rfl, okt, r, en', by rw [te]; exact h2, fun v u fr uσ ue oku st2 sl sd => q v u fr uσ ue oku (st.trans st2) sl (st.sideL sd)⟩
  | false => exact ⟨t, tσ, rfl, okt, r, en', by rw [te]; exact h2, fun v u fr uσ ue oku st2 sl sd => q v u fr uσ ue oku (st.trans st2) sl (st.sideL sd)⟩
def xChain (p p' : List D → Option Sl) (f g h : En → Option (D × En)) : En → Option (Bool × En) := fun e => (f e).bind fun x => (g x.2).bind fun y => match p [x.1, y.1] with
  | some (.va (.bl true)) => (h y.2).bind fun z => (match p' [y.1, z.1] with
    | some (.va (.bl b)) => some (b, z.2)
    | _ => none)
  | some (.va (.bl false)) => some (false, y.2)
  | _ => none
theorem rd_chain {K : PySem.W.Frag} {r r' : R2} (hs : PrS K (r2L r) p) (hs' : PrS K (r2L r') p') : ∀ σ H (Q : VK), rdT K (xChain p p' f g h) σ H (fun b H1 => Q (.bl b) H1) → tChain r r' (rdV K f) (rdV K g) (rdV K h) σ H Q := fun σ H Q ⟨s, e1, e2, ok, b, en', hf, q⟩ => by
  obtain ⟨⟨x, en1⟩, h1, h2⟩ := Option.bind_eq_some_iff.mp hf
  obtain ⟨⟨y, en2⟩, h3, h4⟩ := Option.bind_eq_some_iff.mp h2
  refine ⟨s, e1, e2, ok, x, en1, h1, fun v t tσ te okt st rp => ⟨t, tσ, rfl, okt, y, en2, by rw [te]; exact h3, fun w u uσ ue oku st2 rp2 => ?_⟩⟩
  have rpl : RepL K u.B [x, y] [v, w] := ⟨v, [w], rfl, rp.mono st2.bb, w, [], rfl, rp2, rfl⟩
  cases hp : p [x, y] with
  | none => rw [hp] at h4; cases h4
  | some sl =>
    rw [hp] at h4
    refine hs.run (Q := fun z H3 => ∃ k, z = .bl k ∧ if k = true then rdV K h σ H3 fun w1 H4 => r' w w1 H4 Q else Q (.bl false) H3) oku (Stp.refl u) rpl hp uσ ue fun z t3 fr t3σ t3e ok3 st3 sl3 sd3 => ?_
    have st13 := (st.trans st2).trans st3
    cases sl with
    | va d =>
      cases d with
      | bl k =>
        obtain ⟨_, v', ev, rz⟩ := sl3
        cases ev
        refine ⟨k, rz, ?_⟩
        cases k with
        | true =>
          obtain ⟨⟨z1, en3⟩, h5, h6⟩ := Option.bind_eq_some_iff.mp h4
          rw [if_pos rfl]
          refine ⟨t3, t3σ, rfl, ok3, z1, en3, by rw [t3e]; exact h5, fun w1 u1 u1σ u1e oku1 st4 rp4 => ?_⟩
          cases hp' : p' [y, z1] with
          | none => rw [hp'] at h6; cases h6
          | some sl' =>
            rw [hp'] at h6
            refine hs'.run (Q := Q) (ds := [y, z1]) (vs := [w, w1]) oku1 (st13.trans st4) ⟨w, [w1], rfl, (rp2.mono st3.bb).mono st4.bb, w1, [], rfl, rp4, rfl⟩ hp' u1σ u1e fun z' t5 fr5 t5σ t5e ok5 st5 sl5 sd5 => ?_
            cases sl' with
            | va d' =>
              cases d' with
              | bl b' =>
                cases h6
                obtain ⟨_, v5, ev5, rz5⟩ := sl5
                cases ev5
                rw [show z' = V.bl b from rz5]; exact q t5 t5σ t5e ok5 st5
              | _ => cases h6
            | _ => cases h6
        | false =>
          cases h4
          rw [if_neg Bool.false_ne_true]
          exact q t3 t3σ t3e ok3 st13
      | _ => cases h4
    | _ => cases h4
theorem xt_chain {op op' : CmpOp} {r r' : R2} (hs : PrS X.K (r2L r) p) (hs' : PrS X.K (r2L r') p') (hcc : PT X (.Compare a [op, op'] [b, c] pos) (tTest (tChain r r' (rdV X.K f) (rdV X.K g) (rdV X.K h)))) :
    PT X (.Compare a [op, op'] [b, c] pos) (rdT X.K (xChain p p' f g h)) := PTi hcc fun σ H Q ⟨s, e1, e2, ok, b, en', hf, q⟩ => rd_chain hs hs' σ H _ ⟨s, e1, e2, ok, b, en', hf, fun t tσ te okt st => ⟨b, rfl, q t tσ te okt st⟩⟩
theorem xe_chain {op op' : CmpOp} {r r' : R2} (hs : PrS X.K (r2L r) p) (hs' : PrS X.K (r2L r') p') (hcc : PE X (.Compare a [op, op'] [b, c] pos) (tChain r r' (rdV X.K f) (rdV X.K g) (rdV X.K h))) :
    PE X (.Compare a [op, op'] [b, c] pos) (rdV X.K (xOfB (xChain p p' f g h))) := PEi hcc fun σ H Q ⟨s, e1, e2, ok, d, en', hf, q⟩ => by
  obtain ⟨⟨b1, en1⟩, h1, h2⟩ := Option.bind_eq_some_iff.mp hf
  cases h2
  exact rd_chain hs hs' σ H Q ⟨s, e1, e2, ok, b1, en1, h1, fun t tσ te okt st => q _ t tσ te okt st rfl⟩
end
variable {W : WX}
def putS (e : En) (i : Nat) (r : Sl) : Option En := match e[i]? with
  | none => none
  | some (.pw _) => none
  | some _ => (match r with
    | .va d => some (e.set i (.va d))
    | .ow o => some (e.set i (.ow o))
    | _ => none)
def xSet (i : Nat) (f : En → Option (Sl × En)) : En → Option Out := fun e => (f e).bind fun p => (putS p.2 i p.1).bind fun e1 => some (.nx e1)
def xDrop (f : En → Option (Sl × En)) : En → Option Out := fun e => (f e).bind fun p => some (.nx p.2)
def xRet (f : En → Option (Sl × En)) : En → Option Out := fun e => (f e).bind fun p => some (.rt p.1 p.2)
def xRetN : En → Option Out := fun e => some (.rt (.va .non) e)
def xRetV (i : Nat) : En → Option Out := fun e => match e[i]? with
  | some (.va d) => some (.rt (.va d) e)
  | some (.ow o) => some (.rt (.ow o) (e.set i .no))
  | _ => none
def xNx : En → Option Out := fun e => some (.nx e)
def xBk : En → Option Out := fun e => some (.bk e)
def xCt : En → Option Out := fun e => some (.ct e)
def xNever : En → Option Out := fun _ => none
def xIf (c : En → Option (Bool × En)) (f g : En → Option Out) : En → Option Out := fun e => (c e).bind fun p => if p.1 = true then f p.2 else g p.2
def xSeq (f g : En → Option Out) : En → Option Out := fun e => (f e).bind fun o => match o with
  | .nx e1 => g e1
  | o => some o
section
variable {K : PySem.W.Frag} {s : Sta}
theorem put_res {t : Sta} {i : Nat} {x : Sl} {v : V} {fr : List Addr} {e1 : En} (ok : EnOk K t) (st : Stp s t) (sl : SlOk K t.B t.H (some v) x fr) (sd : Side s t fr) (hp : putS t.en i x = some e1) :
    EnOk K ⟨t.B, t.H, t.σ.set i (some v), e1, fun j => if j = i then fr else t.fp j⟩ ∧ Stp s ⟨t.B, t.H, t.σ.set i (some v), e1, fun j => if j = i then fr else t.fp j⟩ := by
  unfold putS at hp
  have key : ∃ y, t.en[i]? = some y ∧ (∀ o, y ≠ .pw o) ∧ e1 = t.en.set i x := by
    cases e : t.en[i]? with
    | none => rw [e] at hp; cases hp
    | some y =>
      rw [e] at hp
      cases y with
      | pw o => cases hp
      | no => cases x <;> first | cases hp; done | exact ⟨_, rfl, (fun o z => by cases z), (Option.some.inj hp).symm⟩
      | va d => cases x <;> first | cases hp; done | exact ⟨_, rfl, (fun o z => by cases z), (Option.some.inj hp).symm⟩
      | ow d => cases x <;> first | cases hp; done | exact ⟨_, rfl, (fun o z => by cases z), (Option.some.inj hp).symm⟩
  obtain ⟨y, ey, ny, rfl⟩ := key
  have hi : i < t.en.length := (List.getElem?_eq_some_iff.mp ey).1
  refine ⟨ok.put hi sl (fun a ha j _ z => sd.no a ha ⟨j, z⟩) sd.b, ?_⟩
  have s2 : Stp t ⟨t.B, t.H, t.σ.set i (some v), t.en.set i x, fun j => if j = i then t.fp i else t.fp j⟩ := Stp.put (fun o z => by rw [ey] at z; exact ny o (Option.some.inj z)) fun a ha => .inl ⟨i, ha⟩
  refine ⟨st.bb, st.bn, st.hh, st.dm, fun a ⟨j, hj⟩ => ?_, fun j o e => ?_, (s2.ln).trans st.ln⟩
  · have hj : a ∈ (if j = i then fr else t.fp j) := hj
    by_cases ej : j = i
    · rw [if_pos ej] at hj; exact (sd.new a hj).elim .inr .inl
    · rw [if_neg ej] at hj; exact st.ff a ⟨j, hj⟩
  · obtain ⟨k1, o1, k2⟩ := st.pn j o e
    obtain ⟨k3, o2, k4⟩ := s2.pn j o1 k2
    exact ⟨k3.trans k1, o2, k4⟩
end
section
variable {X : Cx} {e : Expr} {pos : Pos} {st : Stmt} {sts : List Stmt} {f : En → Option (Sl × En)} {c : En → Option (Bool × En)} {m n : En → Option Out}
theorem rd_set {K : PySem.W.Frag} {i : Nat} : ∀ D σ H, rdS K W (xSet i f) D σ H → tAsg (rdE K f) (gName i) D σ H := fun D σ H ⟨s, e1, e2, ok, o, hf, q⟩ => by
  obtain ⟨⟨r, en1⟩, h1, h2⟩ := Option.bind_eq_some_iff.mp hf
  obtain ⟨en2, h3, h4⟩ := Option.bind_eq_some_iff.mp h2
  cases h4
  refine ⟨s, e1, e2, ok, r, en1, h1, fun v t fr tσ te okt stt sl sd => ?_⟩
  obtain ⟨k1, k2⟩ := put_res (i := i) okt stt sl sd (by rw [te]; exact h3)
  show D.nx (σ.set i (some v)) t.H
  rw [← tσ]
  exact q _ rfl k1 k2
theorem xs_set {i : Nat} (h : PS X st (tAsg (rdE X.K f) (gName i))) : PS X st (rdS X.K W (xSet i f)) := PSi h rd_set
theorem xs_drop (h : PS X st (tDrop (rdE X.K f))) : PS X st (rdS X.K W (xDrop f)) := PSi h fun D σ H ⟨s, e1, e2, ok, o, hf, q⟩ => by
  obtain ⟨⟨r, en1⟩, h1, h2⟩ := Option.bind_eq_some_iff.mp hf
  cases h2
  refine ⟨s, e1, e2, ok, r, en1, h1, fun v t fr tσ te okt stt sl sd => ?_⟩
  show D.nx σ t.H
  rw [← tσ]
  exact q t te okt stt
theorem xs_ret (h : PE X e (rdE X.K f)) : PS X (.Return (some e) pos) (rdS X.K W (xRet f)) := PSi (ps_ret h) fun D σ H ⟨s, e1, e2, ok, o, hf, q⟩ => by
  obtain ⟨⟨r, en1⟩, h1, h2⟩ := Option.bind_eq_some_iff.mp hf
  cases h2
  exact ⟨s, e1, e2, ok, r, en1, h1, fun v t fr tσ te okt stt sl sd => q v t fr te okt stt sl sd⟩
theorem xs_retV {i : Nat} {x : Str} {p : Pos} (hp : PE X (.Name x p) (tVar i)) : PS X (.Return (some (.Name x p)) pos) (rdS X.K W (xRetV i)) := PSi (ps_ret hp) fun D σ H ⟨s, e1, e2, ok, o, hf, q⟩ => by
  unfold xRetV at hf
  cases e : s.en[i]? with
  | none => rw [e] at hf; cases hf
  | some sl =>
    rw [e] at hf
    obtain ⟨ov, ev, so⟩ := ok.sl i sl e
    cases sl with
    | no => cases hf
    | pw o => cases hf
    | va d =>
      cases hf
      obtain ⟨_, v, rfl, rp⟩ := so
      refine ⟨v, by rw [← e1]; exact ev, ?_⟩
      rw [← e2]
      exact q v s [] rfl ok (Stp.refl s) ⟨rfl, v, rfl, rp⟩ .nil
    | ow o =>
      cases hf
      obtain ⟨v, rfl, ho⟩ := so
      refine ⟨v, by rw [← e1]; exact ev, ?_⟩
      rw [← e2]
      have hi : i < s.en.length := (List.getElem?_eq_some_iff.mp e).1
      have k1 := ok.put (ov := some v) (x := .no) (fr := []) hi rfl (fun _ z => by cases z) (fun _ z => by cases z)
      have k2 : Stp s ⟨s.B, s.H, s.σ.set i (some v), s.en.set i .no, fun j => if j = i then [] else s.fp j⟩ := Stp.put (fun o' z => by rw [e] at z; cases z) fun _ z => by cases z
      refine q v ⟨s.B, s.H, s.σ.set i (some v), s.en.set i .no, fun j => if j = i then [] else s.fp j⟩ (s.fp i) rfl k1 k2 ⟨v, rfl, ho⟩ ⟨fun a ha ⟨j, hj⟩ => ?_, ok.off i, fun a ha => .inr ⟨i, ha⟩⟩
      have hj : a ∈ (if j = i then [] else s.fp j) := hj
      by_cases ej : j = i
      · rw [if_pos ej] at hj; cases hj
      · rw [if_neg ej] at hj; exact ej (ok.dj j i a hj ha)
theorem xss_nil : PSs X [] (rdS X.K W xNx) := PSsi pss_nil fun D σ H ⟨s, e1, e2, ok, o, hf, q⟩ => by
  cases hf
  show D.nx σ H
  rw [← e1, ← e2]
  exact q s rfl ok (Stp.refl s)
theorem xs_ct : PS X (.Continue pos) (rdS X.K W xCt) := PSi ps_continue fun D σ H ⟨s, e1, e2, ok, o, hf, q⟩ => by
  cases hf
  show D.ct σ H
  rw [← e1, ← e2]
  exact q s rfl ok (Stp.refl s)
theorem xs_never : PS X st (rdS X.K W xNever) := PSi ps_never fun D σ H ⟨s, e1, e2, ok, o, hf, q⟩ => by cases hf
theorem xs_if {a : Expr} {bs cs : List Stmt} (hc : PT X a (rdT X.K c)) (h1 : PSs X bs (rdS X.K W m)) (h2 : PSs X cs (rdS X.K W n)) : PS X (.If a bs cs pos) (rdS X.K W (xIf c m n)) := PSi (ps_if hc h1 h2) fun D σ H ⟨s, e1, e2, ok, o, hf, q⟩ => by
  obtain ⟨⟨b1, en1⟩, k1, k2⟩ := Option.bind_eq_some_iff.mp hf
  refine ⟨s, e1, e2, ok, b1, en1, k1, fun t tσ te okt stt => ?_⟩
  cases b1 with
  | true => rw [if_pos rfl]; exact ⟨t, tσ, rfl, okt, o, by rw [te]; exact k2, q.from stt⟩
  | false => rw [if_neg Bool.false_ne_true]; exact ⟨t, tσ, rfl, okt, o, by rw [te]; exact k2, q.from stt⟩
theorem rd_seq {K : PySem.W.Frag} : ∀ D σ H, rdS K W (xSeq m n) D σ H → rdS K W m { D with nx := rdS K W n D } σ H := fun D σ H ⟨s, e1, e2, ok, o, hf, q⟩ => by
  obtain ⟨o1, k1, k2⟩ := Option.bind_eq_some_iff.mp hf
  refine ⟨s, e1, e2, ok, o1, k1, ?_⟩
  cases o1 with
  | nx en1 => exact fun t te okt stt => ⟨t, rfl, rfl, okt, o, by rw [te]; exact k2, q.from stt⟩
  | bk en1 => cases k2; exact q
  | ct en1 => cases k2; exact q
  | rt r en1 => cases k2; exact q
  | ex r en1 => cases k2; exact q
theorem xss_cons (h1 : PS X st (rdS X.K W m)) (h2 : PSs X sts (rdS X.K W n)) : PSs X (st :: sts) (rdS X.K W (xSeq m n)) := PSsi (pss_cons h1 h2) rd_seq
theorem xss_one (h1 : PS X st (rdS X.K W m)) : PSs X [st] (rdS X.K W m) := pss_one h1
end
section
variable (K : PySem.W.Frag)
def rdG (g : D → En → Option En) : TG := fun v σ H Q => ∃ (s : Sta) (d : D), s.σ = σ ∧ s.H = H ∧ EnOk K s ∧ Rep K s.B d v ∧ ∃ en', g d s.en = some en' ∧ ∀ t, t.en = en' → EnOk K t → Stp s t → Q t.σ t.H
def rdGs (g : List D → En → Option En) : TGs := fun vs σ H Q => ∃ (s : Sta) (ds : List D), s.σ = σ ∧ s.H = H ∧ EnOk K s ∧ RepL K s.B ds vs ∧ ∃ en', g ds s.en = some en' ∧ ∀ t, t.en = en' → EnOk K t → Stp s t → Q t.σ t.H
end
def gNm (i : Nat) : D → En → Option En := fun d e => putS e i (.va d)
def gTp (n : Nat) (g : List D → En → Option En) : D → En → Option En := fun d e => match d with
  | .tup _ ds => if ds.length = n then g ds e else none
  | _ => none
def gsNil : List D → En → Option En := fun ds e => match ds with
  | [] => some e
  | _ => none
def gsCons (g : D → En → Option En) (h : List D → En → Option En) : List D → En → Option En := fun ds e => match ds with
  | d :: r => (g d e).bind fun e1 => h r e1
  | [] => none
section
variable {X : Cx} {e : Expr} {es : List Expr} {pos : Pos} {g : D → En → Option En} {gs : List D → En → Option En}
theorem PGi {t t' : TG} (h : PG X e t) (i : ∀ v σ H Q, t' v σ H Q → t v σ H Q) : PG X e t' := ⟨fun pins s σ H v u Q I r q => h.run pins s σ H v u Q I r (i v σ H Q q)⟩
theorem PGsi {t t' : TGs} (h : PGs X es t) (i : ∀ v σ H Q, t' v σ H Q → t v σ H Q) : PGs X es t' := ⟨fun pins s σ H v u Q I r q => h.run pins s σ H v u Q I r (i v σ H Q q)⟩
theorem xg_name {i : Nat} (h : PG X e (gName i)) : PG X e (rdG X.K (gNm i)) := PGi h fun v σ H Q ⟨s, d, e1, e2, ok, rp, en', hg, q⟩ => by
  obtain ⟨k1, k2⟩ := put_res (fr := []) ok (Stp.refl s) (v := v) (x := .va d) ⟨rfl, v, rfl, rp⟩ .nil hg
  show Q (σ.set i (some v)) H
  rw [← e1, ← e2]
  exact q _ rfl k1 k2
theorem xgs_nil : PGs X [] (rdGs X.K gsNil) := PGsi pgs_nil fun v σ H Q ⟨s, ds, e1, e2, ok, rp, en', hg, q⟩ => by
  cases ds with
  | nil =>
    cases hg
    exact ⟨rp, by rw [← e1, ← e2]; exact q s rfl ok (Stp.refl s)⟩
  | cons _ _ => cases hg
theorem xgs_cons (h1 : PG X e (rdG X.K g)) (h2 : PGs X es (rdGs X.K gs)) (hs : (assignEach (e :: es) X.env).map (·.2) = assign e X.env :: (assignEach es X.env).map (·.2) := by rfl) : PGs X (e :: es) (rdGs X.K (gsCons g gs)) :=
  PGsi (pgs_cons h1 h2 hs) fun vs σ H Q ⟨s, ds, e1, e2, ok, rp, en', hg, q⟩ => by
    cases ds with
    | nil => cases hg
    | cons d r =>
      obtain ⟨v, vr, rfl, r1, r2⟩ := rp
      obtain ⟨en1, k1, k2⟩ := Option.bind_eq_some_iff.mp hg
      exact ⟨v, vr, rfl, s, d, e1, e2, ok, r1, en1, k1, fun t te okt st => ⟨t, r, rfl, rfl, okt, r2.mono st.bb, en', by rw [te]; exact k2, fun u ue oku st2 => q u ue oku (st.trans st2)⟩⟩
theorem xg_tup {k n : Nat} (hc : X.calm = true) (h : PGs X es (rdGs X.K gs)) (hn : (assignEach es X.env).length = n := by rfl) (hst : (assignEach es X.env).findIdx? (·.1) = none := by rfl) : PG X (.Tuple es k pos) (rdG X.K (gTp n gs)) :=
  PGi (pg_tup hc h hn hst) fun v σ H Q ⟨s, d, e1, e2, ok, rp, en', hg, q⟩ => by
    cases d with
    | tup kk ds =>
      obtain ⟨a, vs, rfl, sq, rl⟩ := rp
      have hg : (if ds.length = n then gs ds s.en else none) = some en' := hg
      split at hg
      · rename_i hl
        exact ⟨a, vs, rfl, by rw [← e2]; exact ex_t ok.ex sq.sq, by rw [rl.len]; exact hl, s, ds, e1, e2, ok, rl, en', hg, q⟩
      · cases hg
    | _ => cases hg
def xAsg (f : En → Option (D × En)) (g : D → En → Option En) : En → Option Out := fun e => (f e).bind fun p => (g p.1 p.2).bind fun e1 => some (.nx e1)
theorem xs_asg {st : Stmt} {f : En → Option (D × En)} (h : PS X st (tAsg (rdV X.K f) (rdG X.K g))) : PS X st (rdS X.K W (xAsg f g)) := PSi h fun D σ H ⟨s, e1, e2, ok, o, hf, q⟩ => by
  obtain ⟨⟨d, en1⟩, k1, k2⟩ := Option.bind_eq_some_iff.mp hf
  obtain ⟨en2, k3, k4⟩ := Option.bind_eq_some_iff.mp k2
  cases k4
  exact ⟨s, e1, e2, ok, d, en1, k1, fun v t tσ te okt st rp => ⟨t, d, tσ, rfl, okt, rp, en2, by rw [te]; exact k3, fun u ue oku st2 => q u ue oku (st.trans st2)⟩⟩
def xPar (i j : Nat) (f : En → Option (List D × En)) : En → Option Out := fun e => (f e).bind fun p => match p.1 with
  | [x, y] => (putS p.2 i (.va x)).bind fun e1 => (putS e1 j (.va y)).bind fun e2 => some (.nx e2)
  | _ => none
end
structure ItOk (K : PySem.W.Frag) (J : It) (B : Hp) (ds : List D) : Prop where
  stop : ∀ H, Ex B H → J.stop ds.length H
  go : ∀ i H, Ex B H → i < ds.length → J.go i H
  yld : ∀ i H x H', Ex B H → i < ds.length → J.yld i H x H' → Ex H H' ∧ ∃ d, ds[i]? = some d ∧ ∀ B', Ex B B' → Ex B' H → ∃ B'', Ex B' B'' ∧ Ex B'' H' ∧ (∀ a o, B'' a = some o → B' a = some o ∨ H a = none) ∧ Rep K B'' d x
def rdI (K : PySem.W.Frag) (f : En → Option (List D × En)) : TI := fun σ H R => ∃ s : Sta, s.σ = σ ∧ s.H = H ∧ EnOk K s ∧ ∃ ds en', f s.en = some (ds, en') ∧
  ∀ t J, t.σ = σ → t.en = en' → EnOk K t → Stp s t → ItOk K J t.B ds → R J t.H
theorem ItOk.grow {K : PySem.W.Frag} {J : It} {B B' : Hp} {ds : List D} (h : ItOk K J B ds) (e : Ex B B') : ItOk K J B' ds :=
  ⟨fun H x => h.stop H (e.trans x), fun i H x => h.go i H (e.trans x), fun i H x H' ex hi y => by
    obtain ⟨h1, d, h2, h3⟩ := h.yld i H x H' (e.trans ex) hi y
    exact ⟨h1, d, h2, fun B2 eb => h3 B2 (e.trans eb)⟩⟩
theorem ItOk.next {K : PySem.W.Frag} {J : It} {ds : List D} {s t : Sta} {i : Nat} {x : V} {H' : Hp} (h : ItOk K J t.B ds) (ok : EnOk K t) (st : Stp s t) (hi : i < ds.length) (y : J.yld i t.H x H') :
    ∃ d B', ds[i]? = some d ∧ EnOk K ⟨B', H', t.σ, t.en, t.fp⟩ ∧ Stp s ⟨B', H', t.σ, t.en, t.fp⟩ ∧ Rep K B' d x ∧ Ex t.B B' := by
  obtain ⟨h1, d, h2, h3⟩ := h.yld i t.H x H' ok.ex hi y
  obtain ⟨B0, b1, b2, b3, b4⟩ := h3 t.B (Ex.refl _) ok.ex
  obtain ⟨B', b1, b2, b3, b4, b5⟩ : ∃ B' : Hp, Ex t.B B' ∧ Ex B' H' ∧ (∀ a o, B' a = some o → t.B a = some o ∨ t.H a = none) ∧ Rep K B' d x ∧ ∀ a o, B' a = some o → NTbl o :=
    ⟨noT B0, fun a o z => noT_of (b1 a o z) (ok.nt a o z), (Ex.noT B0).trans b2, fun a o z => b3 a o (of_noT z).1, b4.nt fun a o z n => noT_of z n, nt_noT⟩
  refine ⟨d, B', h2, ok.alc b1 h1 b2 (fun j a ha => ?_) b5, st.trans (Stp.alc b1 h1 fun a o z => (b3 a o z).elim .inl fun w => .inr (.inl w)), b4, b1⟩
  cases e : B' a with
  | none => rfl
  | some o =>
    rcases b3 a o e with z | z
    · rw [ok.off j a ha] at z; cases z
    · obtain ⟨w, hw, _⟩ := ok.cell ⟨j, ha⟩
      rw [hw] at z; cases z
def loopM (g : D → En → Option En) (b : En → Option Out) : List D → En → Option Out
  | [], e => some (.nx e)
  | d :: ds, e => (g d e).bind fun e1 => (b e1).bind fun o => match o with
    | .nx e2 => loopM g b ds e2
    | .ct e2 => loopM g b ds e2
    | .bk e2 => some (.nx e2)
    | .rt r e2 => some (.rt r e2)
    | .ex r e2 => some (.ex r e2)
def xFor (f : En → Option (List D × En)) (g : D → En → Option En) (b : En → Option Out) : En → Option Out := fun e => (f e).bind fun p => loopM g b p.1 p.2
section
variable {X : Cx} {st : Stmt} {f : En → Option (List D × En)} {g : D → En → Option En} {b : En → Option Out} {c : En → Option (Bool × En)}
theorem xs_for (h : PS X st (tFor (rdI X.K f) (rdG X.K g) (rdS X.K W b))) : PS X st (rdS X.K W (xFor f g b)) := PSi h fun D σ H ⟨s, e1, e2, ok, o, hf, q⟩ => by
  obtain ⟨⟨ds, en1⟩, k1, k2⟩ := Option.bind_eq_some_iff.mp hf
  refine ⟨s, e1, e2, ok, ds, en1, k1, fun t J tσ te okt stt it => ?_⟩
  refine ⟨fun i m σ' H' => m = ds.length - i ∧ i ≤ ds.length ∧ ∃ u : Sta, u.σ = σ' ∧ u.H = H' ∧ EnOk X.K u ∧ Stp s u ∧ Ex t.B u.B ∧ loopM g b (ds.drop i) u.en = some o, ⟨_, rfl, Nat.zero_le _, t, tσ, rfl, okt, stt, Ex.refl _, by rw [te]; exact k2⟩, ?_⟩
  rintro i m σ' H' ⟨rfl, hi, u, rfl, rfl, oku, stu, eu, hl⟩
  have itu := it.grow eu
  by_cases hlt : i < ds.length
  · refine .inr ⟨itu.go i u.H oku.ex hlt, fun σ2 H2 => ∃ u : Sta, u.σ = σ2 ∧ u.H = H2 ∧ EnOk X.K u ∧ Stp s u ∧ Ex t.B u.B ∧ loopM g b (ds.drop (i + 1)) u.en = some o, fun σ2 H2 z => ⟨_, by omega, rfl, hlt, z⟩, fun x H2 y => ?_⟩
    obtain ⟨d, B', hd, ok1, st1, rp, eb⟩ := itu.next oku stu hlt y
    have hdrop : ds.drop i = d :: ds.drop (i + 1) := by
      rw [List.drop_eq_getElem_cons hlt]
      congr 1
      exact (List.getElem?_eq_some_iff.mp hd).2
    rw [hdrop] at hl
    obtain ⟨en2, l1, l2⟩ := Option.bind_eq_some_iff.mp hl
    obtain ⟨o1, l3, l4⟩ := Option.bind_eq_some_iff.mp l2
    refine ⟨⟨B', H2, u.σ, u.en, u.fp⟩, d, rfl, rfl, ok1, rp, en2, l1, fun w we okw stw => ⟨w, rfl, rfl, okw, o1, by rw [we]; exact l3, ?_⟩⟩
    have ebw : Ex t.B w.B := (eu.trans eb).trans stw.bb
    cases o1 with
    | nx e3 => exact fun z ze okz stz => ⟨z, rfl, rfl, okz, (st1.trans stw).trans stz, ebw.trans stz.bb, by rw [ze]; exact l4⟩
    | ct e3 => exact fun z ze okz stz => ⟨z, rfl, rfl, okz, (st1.trans stw).trans stz, ebw.trans stz.bb, by rw [ze]; exact l4⟩
    | bk e3 => cases l4; exact q.from (st1.trans stw)
    | rt r e3 => cases l4; exact q.from (st1.trans stw)
    | ex r e3 => cases l4; exact q.from (st1.trans stw)
  · have e : i = ds.length := by omega
    subst e
    rw [List.drop_length] at hl
    cases hl
    exact .inl ⟨itu.stop u.H oku.ex, q u rfl oku stu⟩
end
end Ag
namespace Ag
open PySem PySem.Spec PyProof.Rows L2
section
variable (P : Program) (w : World) (K : PySem.W.Frag) (mg : Str → Option Value) (base : Heap)
def Fn (x : Str) (ps : List Str) (CX : CXT) (k : Nat) (sp : Sp) : Prop :=
  ∃ f fd, mg x = some (.ref f) ∧ PySem.W.keepIn K (.ref f) = true ∧ Binds K fd ps [] ∧ FnOk P w K mg base CX k f fd ps sp
def Mt (C : Addr) (m : Str) (ps : List Str) (CX : CXT) (k : Nat) (sp : Sp) : Prop :=
  ∃ f fd, Meth K C m f ∧ Binds K fd ps [] ∧ FnOk P w K mg base CX k f fd ps sp
def Nw (x : Str) (C : Addr) (ps : List Str) (CX : CXT) (k : Nat) (sp : Sp) : Prop :=
  ∃ f fd, mg x = some (.ref C) ∧ Mk K C f ∧ Binds K fd ps [] ∧ FnOk P w K mg base CX k f fd ps sp
end
section
variable {X : Cx} {CX : CXT} {k j : Nat} {C : Addr} {ps : List Str} {sp : Sp} {E : XK} {x m : Str} {p pos apos : Pos} {e o : Expr} {es : List Expr} {ta : TE} {t : TA}
theorem pe_fn (c : Fn X.prog X.w X.K X.mg X.base x ps CX k sp) (hr : Room j X.A) (hx : Passes CX X E) (ha : PA X (e :: es) t) (hk : k ≤ j := by decide) (hg : Gl X x := by rfl)
    (hdb : (x == ("__debug__" : Str)) = false := by decide) (he : starEach (e :: es) X.env = (false, eval e X.env) :: starEach es X.env := by rfl) (hpl : (backTo pos (starEach es X.env)).any (·.1) = false := by rfl) :
    PE X (.Call (.Name x p) (e :: es) [] pos) (tCall sp [] E t) := by
  obtain ⟨f, fd, g, kp, b, F⟩ := c
  exact pe_call F (hr.mono hk) hg g kp b .nil hx ha hdb he hpl
theorem pe_nw (c : Nw X.prog X.w X.K X.mg X.base x C ps CX k sp) (hr : Room j X.A) (hx : Passes CX X E) (ha : PA X (e :: es) t) (hk : k + 1 ≤ j := by decide) (hg : Gl X x := by rfl)
    (hdb : (x == ("__debug__" : Str)) = false := by decide) (he : starEach (e :: es) X.env = (false, eval e X.env) :: starEach es X.env := by rfl) (hpl : (backTo pos (starEach es X.env)).any (·.1) = false := by rfl) :
    PE X (.Call (.Name x p) (e :: es) [] pos) (tMake C sp [] E t) := by
  obtain ⟨f, fd, g, M, b, F⟩ := c
  exact pe_make M F (hr.mono hk) hg g b .nil hx ha hdb he hpl
theorem pe_mt {pl : Sem Bool} (c : Cls X.K C) (M : Mt X.prog X.w X.K X.mg X.base C m ps CX k sp) (hr : Room j X.A) (hx : Passes CX X E) (he : PE X o ta) (ha : PA X (e :: es) t) (hk : k ≤ j := by decide)
    (hst : starEach (e :: es) X.env = (false, eval e X.env) :: starEach es X.env := by rfl) (hpl : (backTo pos (starEach es X.env)).any (·.1) = false := by rfl)
    (ht : eval (.Call (.Attribute o m apos) (e :: es) [] pos) X.env = (do
      let ov ← eval o X.env
      standAt apos.atName
      let (f, first) ← holding [ov] (getMethod ov m pl)
      callWith pos f first (backTo pos (starEach (e :: es) X.env)) (backToKw pos (keywordEach [] X.env))) := by rfl) :
    PE X (.Call (.Attribute o m apos) (e :: es) [] pos) (tMeth C m sp [] E ta t) := by
  obtain ⟨f, fd, g, b, F⟩ := M
  exact pe_meth he c g F (hr.mono hk) b .nil hx ha hst hpl ht
theorem pe_mt0 {pl : Sem Bool} (c : Cls X.K C) (M : Mt X.prog X.w X.K X.mg X.base C m ps CX k sp) (hr : Room j X.A) (hx : Passes CX X E) (he : PE X o ta) (hk : k ≤ j := by decide)
    (ht : eval (.Call (.Attribute o m apos) [] [] pos) X.env = (do
      let ov ← eval o X.env
      standAt apos.atName
      let (f, first) ← holding [ov] (getMethod ov m pl)
      callWith pos f first (backTo pos (starEach [] X.env)) (backToKw pos (keywordEach [] X.env))) := by rfl) :
    PE X (.Call (.Attribute o m apos) [] [] pos) (tMeth C m sp [] E ta tNil) := by
  obtain ⟨f, fd, g, b, F⟩ := M
  exact pe_meth0 he c g F (hr.mono hk) b .nil hx ht
end
section
variable {prog : Program} {w : World} {A : Around} {E : Value → Shared → Prop} {s : Shared} {K : PySem.W.Frag} {x C L f : Addr} {h₀ : Heap} {m : Str → Option Value} {ox : Obj} {od : Option Obj}
open PySem.W PySem.Calls
end
section
variable {prog : Program} {w : World} {A : Around} {E : Value → Shared → Prop} {s : Shared} {K : PySem.W.Frag} {x C L f : Addr} {h₀ : Heap} {m : Str → Option Value} {ox : Obj} {od : Option Obj} {b : Value}
open PySem.W PySem.Calls
end
section
variable {prog : Program} {w : World} {A : Around} {E : Value → Shared → Prop} {s : Shared} {K : PySem.W.Frag} {x C L f : Addr} {h₀ : Heap} {m : Str → Option Value} {ox : Obj} {od : Option Obj} {b tb : Value}
open PySem.W PySem.Calls
theorem ne_K {Q : Value → Shared → Prop} (hu : A.units + 1 < cLine) (X : K.In s.heap) (I : InstAt s.heap x ox C od) (hb : Looks (model prog w) s.heap (typeOf b) tb) (hn : notFirst K C tb = true)
    (hs : findIn K (.ref C) "__eq__" = some (some (.ref f))) (hf : isFn K (.ref f) = true) (hno : findIn K (.ref C) "__ne__" = some (some (.builtin "object.__ne__"))) (hob : subIn K (.ref C) (.type "object") = some true)
    (h : wpAny (model prog w) A.in1 (call (.ref f) [.ref x, b]) (fun v s' => ∃ r, v = .bool r ∧ Q (.bool (!r)) s') E s) : wpAny (model prog w) A (richCompare .NotEq (.ref x) b) Q E s := by
  have body : wpAny (model prog w) A.in1 (Builtin.«object.__ne__» ⟨[.ref x, b], []⟩) (fun fin s' => match fin with
      | .done f => (match f with | .ret v => ∃ r, v = .bool r ∧ Q (.bool r) s' | _ => False)
      | .again c' => False) E s := by
    unfold Builtin.«object.__ne__»
    repeat (first
      | with_reducible refine wpAny_cRoomFor (show A.in1.units < cLine from hu) ?_
      | (refine wpAny_bind (m := callSpecialIfBound? (.ref x) (Str.ofString "__eq__") [b])
          (PySem.W.ifBound_K X I hs hf (wpAny_mono h (fun r s' hr => by
            obtain ⟨r, rfl, hq⟩ := hr
            repeat (first | exact ⟨_, rfl, hq⟩ | exact wpAny_pure ⟨_, rfl, hq⟩ | exact wpAny_truthy_bool ⟨_, rfl, hq⟩ | (refine wpAny_bind (m := truthy (.bool _)) (wpAny_truthy_bool ?_)) | wp_step)) fun _ _ e => e)))
      | wp_step)
  have chk : ∀ Q' : Unit → Shared → Prop, Q' () s → wpAny (model prog w) A.in1 (checkBuiltinCall "object.__ne__" ⟨[.ref x, b], []⟩) Q' E s := fun Q' q => by
    have ha := PySem.F.cmpArgs_ne (.ref x) b
    simp only [checkBuiltinCall, PySem.F.cmpKind_ne, PySem.F.cmpSplit_ne]
    refine wpAny_bind ?_
    unfold isInstance
    refine wpAny_bind (I.type.here ((looks_subIn X hob).here ?_))
    exact wpAny_pure q
  have one : wpAny (model prog w) A (tryCompare (.ref x) "__ne__" b) (fun r s' => ∃ v, r = some v ∧ Q v s') E s := by
    unfold tryCompare
    refine wpAny_bind ?_
    simp only [callSpecialIfBound?, bindSpecialIfBound?]
    refine wpAny_holding (wpAny_bind (wpAny_bind (wpAny_bind (I.type.here ((looks_findIn X hno).here ?_)))))
    have bd : ∀ self, bindSpecial (.builtin "object.__ne__") self = pure (.builtin "object.__ne__", [self]) := PySem.F.cmp_object.ne.bind
    refine wpAny_bind (wpAny_askSetting (wpAny_ite ?_))
    have fin : ∀ R : Option Value → Shared → Prop, (∀ r s', Q (.bool r) s' → R (some (.bool r)) s') → wpAny (model prog w) A (call (.builtin "object.__ne__") ([.ref x] ++ [b]) >>= fun v => pure (some v)) R E s := by
      intro R hR
      refine wpAny_bind (wpAny_call (codeAny_call_builtin PySem.F.cmp_object.ne.plain PySem.F.cmpEntry_ne (chk _ (wpAny_mono body (fun fin s' q => ?_) fun _ _ e => e))))
      cases fin with
      | done f =>
        cases f with
        | ret v =>
          obtain ⟨r, rfl, q⟩ := q
          exact wpAny_pure (hR _ _ q)
        | next => exact q.elim
        | brk => exact q.elim
        | cont => exact q.elim
      | again c => exact q.elim
    split
    · exact wpAny_bind (by rw [bd]; exact wpAny_pure (wpAny_pure (fin _ fun r s' q => wpAny_pure ⟨_, rfl, q⟩)))
    · exact wpAny_tryCatch (wpAny_bind (by rw [bd]; exact wpAny_pure (wpAny_pure (fin _ fun r s' q => wpAny_pure ⟨_, rfl, q⟩))))
  unfold richCompare
  simp only [oneThing_ref]
  refine wpAny_holding (wpAny_bind (wpAny_cRoomFor (Nat.lt_of_succ_lt hu) ?_))
  refine wpAny_bind (I.type.here (wpAny_bind (hb.here ?_)))
  split
  · rename_i q
    have e : subIn K tb (.ref C) = some false := by
      rcases Bool.or_eq_true_iff.mp hn with e | e
      · rw [beq_iff_eq.mp e] at q; simp at q
      · exact beq_iff_eq.mp e
    refine wpAny_bind ((looks_subIn X e).here ?_)
    simp only [Bool.false_eq_true, if_false]
    refine wpAny_bind (wpAny_mono one (fun r s' z => ?_) fun _ _ e => e)
    obtain ⟨v, rfl, hq⟩ := z
    exact wpAny_pure hq
  · refine wpAny_bind (wpAny_pure ?_)
    simp only [Bool.false_eq_true, if_false]
    refine wpAny_bind (wpAny_mono one (fun r s' z => ?_) fun _ _ e => e)
    obtain ⟨v, rfl, hq⟩ := z
    exact wpAny_pure hq
end
section
variable {X : Cx} {CX : CXT} {pins : List (Addr × Obj)} {σ : L2.St} {H : Hp} {s : Shared} {C : Addr} {ps : List Str} {n j : Nat} {sp : Sp} {E : XK}
theorem run_in1 {f : Addr} {fd : FuncData} {Q : VK} {us : List Value} {vs : List V} (F : FnOk X.prog X.w X.K X.mg X.base CX n f fd ps sp) (hr : Room (n + 1) X.A) (hb : Binds X.K fd ps []) (hx : Passes CX X E)
    (I : Inv X pins σ H s) (r : Vals vs us) (h : sp vs H Q E) : wpAny (model X.prog X.w) X.A.in1 (call (.ref f) us) (EP X pins σ Q) X.xe s := by
  have hl : (us ++ []).length = ps.length := by rw [List.append_nil, ← r.length]; exact F.len _ _ _ _ h
  have hb' := hb s us I.kIn hl
  rw [List.append_nil] at hb'
  refine wpAny_call (codeAny_mono (F.run X.A.in1 X.stack s H ⟨us, []⟩ us vs Q E hr.in1 I.env0.in1 hb' r h) fun r s' hq => ?_)
  cases r with
  | error e => exact hx pins σ H s e s' I hq
  | ok fl =>
    cases fl with
    | ret u => exact I.after hq
    | next => exact False.elim hq
    | brk => exact False.elim hq
    | cont => exact False.elim hq
def rOwnC (K : PySem.W.Frag) (C : Addr) (sp : Sp) (E : XK) : R2 := fun x y H Q => ∃ a dx fs t, x = .ref a ∧ H a = some (.ins C dx fs) ∧ TyX K H y t ∧ PySem.W.notFirst K C t = true ∧ sp [x, y] H Q E
def rOwnNe (K : PySem.W.Frag) (C : Addr) (sp : Sp) (E : XK) : R2 := fun x y H Q => ∃ a dx fs t, x = .ref a ∧ H a = some (.ins C dx fs) ∧ TyX K H y t ∧ PySem.W.notFirst K C t = true ∧ sp [x, y] H (fun z H' => ∃ r, z = .bl r ∧ Q (.bl (!r)) H') E
theorem op_cmpC {op : CmpOp} (M : Mt X.prog X.w X.K X.mg X.base C (cmpInfo op).2.1 ps CX n sp) (hr : Room j X.A) (hx : Passes CX X E) (hop : ∀ a b, compareOp op a b = richCompare op a b := by intro _ _; rfl) (hk : n ≤ j := by decide) :
    OpR X (compareOp op) (rOwnC X.K C sp E) := by
  intro pins s σ H x y v u Q I rx ry h
  obtain ⟨g, fd, hm, hb, F⟩ := M
  obtain ⟨a, dx, fs, t, rfl, ha, ty, hn, q⟩ := h
  cases (show v = Value.ref a from rx)
  obtain ⟨mA, O, _⟩ := ins_get I.hok ha
  obtain ⟨od, J, _⟩ := O.look
  obtain ⟨m, hF⟩ := I.fr
  obtain ⟨P, Z, hP, _⟩ := kit_of I ry ty
  rw [hop]
  refine PySem.W.cmp_K (op := op) (tb := t) hr.units0 hF I.ok.mod.kin J (Z.ty _ _ I.kIn hP) hn hm.at_ hm.fn ?_
  refine wpAny_mono (run_fn (us := [.ref a, u]) (vs := [.ref a, y]) F (hr.mono hk) hb .nil hx I (.cons rfl (.cons ry .nil)) q) (fun w s' z => ?_) fun _ _ x => x
  obtain ⟨z', H', I', rz, qz⟩ := z
  exact SlX.cmpback rz ⟨z', H', I', rz, qz⟩
theorem op_neC (M : Mt X.prog X.w X.K X.mg X.base C "__eq__" ps CX n sp) (hno : PySem.W.findIn X.K (.ref C) "__ne__" = some (some (.builtin "object.__ne__"))) (hob : PySem.W.subIn X.K (.ref C) (.type "object") = some true)
    (hr : Room j X.A) (hx : Passes CX X E) (hk : n + 1 ≤ j := by decide) : OpR X (compareOp .NotEq) (rOwnNe X.K C sp E) := by
  intro pins s σ H x y v u Q I rx ry h
  obtain ⟨g, fd, hm, hb, F⟩ := M
  obtain ⟨a, dx, fs, t, rfl, ha, ty, hn, q⟩ := h
  cases (show v = Value.ref a from rx)
  obtain ⟨mA, O, _⟩ := ins_get I.hok ha
  obtain ⟨od, J, _⟩ := O.look
  obtain ⟨P, Z, hP, _⟩ := kit_of I ry ty
  show wpAny _ _ (richCompare .NotEq (.ref a) u) _ _ _
  refine ne_K (tb := t) (hu_of hr) I.kIn J (Z.ty _ _ I.kIn hP) hn hm.at_ hm.fn hno hob ?_
  refine wpAny_mono (run_in1 (us := [.ref a, u]) (vs := [.ref a, y]) F (hr.mono hk) hb hx I (.cons rfl (.cons ry .nil)) q) (fun w s' z => ?_) fun _ _ x => x
  obtain ⟨z', H', I', rz, r, rfl, qz⟩ := z
  cases (show w = Value.bool r from rz)
  exact ⟨r, rfl, .bl (!r), H', I', rfl, qz⟩
end
section
variable {X : Cx} {CX : CXT} {k j : Nat} {C : Addr} {ps : List Str} {sp : Sp} {E : XK} {f : Str} {pos : Pos} {e : Expr} {ta : TE}
end
theorem pe_ty {X : Cx} {x : Str} {pos : Pos} (T : String) (hg : Gl X x) (hm : X.mg x = none) (hv : bootBuiltins x = some (.type T)) (hn : x ≠ "__name__" := by decide) (hd : (x == ("__debug__" : Str)) = false := by decide) : PE X (.Name x pos) (tC (.ty T)) :=
  pe_bltn hg hm hv rfl hn hd
theorem pe_gi {X : Cx} {x : Str} {pos : Pos} {i : Int} {t : Tok} (hm : X.mg x = some (.int i t)) (hg : Gl X x := by rfl) (hd : (x == ("__debug__" : Str)) = false := by decide) : PE X (.Name x pos) (tC (.int i)) := pe_glob hg hm ⟨t, rfl⟩ hd
theorem pe_gc {X : Cx} {x : Str} {pos : Pos} {C : Addr} (hm : X.mg x = some (.ref C)) (hg : Gl X x := by rfl) (hd : (x == ("__debug__" : Str)) = false := by decide) : PE X (.Name x pos) (tC (.ref C)) := pe_glob hg hm rfl hd
def Kp (p : Addr) (H H' : Hp) : Prop := ∀ b o, b ≠ p → H b = some o → H' b = some o
theorem Kp.refl {p : Addr} {H : Hp} : Kp p H H := fun _ _ _ h => h
theorem Kp.trans {p : Addr} {H H1 H2 : Hp} (a : Kp p H H1) (b : Kp p H1 H2) : Kp p H H2 := fun c o n h => b c o n (a c o n h)
end Ag
namespace Ag
open PySem PySem.Spec PyProof.Rows L2 Evl
def EvP (te : TE) (σ : L2.St) (H : Hp) (φ : V → Hp → Prop) : Prop := ∀ H1, Ex H H1 → ∀ Q : VK, (∀ v H2, Ex H1 H2 → φ v H2 → Q v H2) → te σ H1 Q
section
variable {K : PySem.W.Frag} {σ : L2.St} {H H' : Hp} {ta tb te : TE} {tas : TA} {φ ψ : V → Hp → Prop} {v x y z : V} {r : R2}
theorem EvP.mono (e : Ex H H') (h : EvP te σ H φ) : EvP te σ H' φ := fun H1 a Q q => h H1 (e.trans a) Q q
mutual
theorem Dp.ex {K : PySem.W.Frag} {H H' : Hp} (e : Ex H H') : ∀ {v : V} {d : PyData}, Dp K H v d → Dp K H' v d
  | _, _, .non => .non
  | _, _, .bl b => .bl b
  | _, _, .int i => .int i
  | _, _, .str x => .str x
  | _, _, .lst h a => .lst (ex_l e h) (DpAll.ex e a)
  | _, _, .tup h a => .tup (ex_t e h) (DpAll.ex e a)
theorem DpAll.ex {K : PySem.W.Frag} {H H' : Hp} (e : Ex H H') : ∀ {vs : List V} {ds : List PyData}, DpAll K H vs ds → DpAll K H' vs ds
  | _, _, .nil => .nil
  | _, _, .cons a b => .cons (Dp.ex e a) (DpAll.ex e b)
end
theorem DpAll.len {K : PySem.W.Frag} {H : Hp} : ∀ {vs : List V} {ds : List PyData}, DpAll K H vs ds → vs.length = ds.length
  | _, _, .nil => rfl
  | _, _, .cons _ b => congrArg (· + 1) (DpAll.len b)
end
section
variable {σ : L2.St} {H : Hp} {ta tb te : TE} {t : TT} {tu tw u : TS} {D : Ends} {φ ψ : V → Hp → Prop} {b : Bool}
end
end Ag
namespace PySem
namespace ErX
open PySem.W PySem.Calls PyProof.Rows PySem.HandSPX
theorem kept {K : Frag} {h h' : Heap} {x : Addr} (X : K.In h) (n : K.lookup x = none) (k : ∀ b o, b ≠ x → h.get? b = some o → h'.get? b = some o) : K.In h' := by
  intro b o z
  refine k b o (fun y => ?_) (X b o z)
  rw [y] at z
  rw [n] at z
  cases z
structure Made (h h' : Heap) (e C d : Addr) (m : Str → Option Value) : Prop where
  keep : ∀ b o, h.get? b = some o → h'.get? b = some o
  new : h.objs.size ≤ e
  obj : ∃ oe vs, h'.get? e = some oe ∧ oe.cls = .ref C ∧ oe.dict = some d ∧ oe.data = .fields vs ∧ vs[1]? = some .none
  dbig : h.objs.size ≤ d
  dne : d ≠ e
  ns : h'.Ns1 d m
section
variable {prog : Program} {w : World} {M : Model} {A : Around} {E : Value → Shared → Prop} {h : Heap} {g : Array GenState} {d : Drawn} {t : Nat} {os : OsState} {s : Shared}
variable {nm q : Str} {C N : Addr} {bs bm : List Value} {hdct : Bool} {sn : List Str} {sub : List Value} {ab : Bool} {col : Option Bool} {dd : Option Addr} {k0 k1 k2 k3 k5 : Option Value}
end
def Mk1 (P : Program) (w : World) (K : Frag) (mg : Str → Option Value) (C : Addr) (f : Str) : Prop :=
  ∀ {A : Around} {R : Result → Shared → Prop} {s : Shared} {mb : Str → Option Value} {v : Value}, K.In s.heap → s.heap.NoLimit → s.heap.Ns mainGlobals mg → s.heap.Ns builtinsNs mb → (∀ x : Str, x ≠ "__name__" → mb x = bootBuiltins x) →
    A.depth + 1 < recursionLimit → (∀ h' tk e d, Made s.heap h' e C d (fun y => if y = f then some v else none) → R (.ok (.ret (.ref e))) { s with heap := h', toks := tk }) →
    codeAny (model P w) A (.call (.ref C) ⟨[v], []⟩) R s
structure Err (P : Program) (w : World) (K : Frag) (mg : Str → Option Value) (NM : Str) (C : Addr) (f : Str) : Prop where
  gC : mg NM = some (.ref C)
  kC : keepIn K (.ref C) = true
  exC : subIn K (.ref C) (.type "BaseException") = some true
  tyC : typeIn K (.ref C) = some (.type "type")
  te : exmOne K (.ref C) (.ref C) = some true
  ga : findIn K (.ref C) "__getattribute__" = some (some (.builtin "BaseException.__getattribute__"))
  gg : findIn K (.ref C) "__getattr__" = some none
  noN : findIn K (.ref C) f = some none
  hdC : hasDictIn K C = true
  make : Mk1 P w K mg C f
end ErX
end PySem
namespace Ag
open PySem PySem.Spec PyProof.Rows L2 PySem.ErX
section
variable {X : Cx} {C : Addr} {NM fl : Str} {a : Expr} {ta : TA} {W : WX} {p pos pos2 : Pos} {k j : Nat}
end
end Ag
namespace PySem
namespace Er_value
open PySem.W PySem.Calls PyProof.Rows PySem.HandSPX PySem.ErX
section
variable {prog : Program} {w : World} {A : Around} {E : Value → Shared → Prop} {R : Result → Shared → Prop} {s : Shared} {K : Frag} {mg mb : Str → Option Value} {NM : Str} {C fI : Addr}
end
end Er_value
end PySem
namespace Ag
open PySem PySem.Spec PyProof.Rows L2
structure FnG (P : Program) (w : World) (K : PySem.W.Frag) (mg : Str → Option Value) (base : Heap) (CX : CXT) (k : Nat) (f : Addr) (fd : FuncData) (ps : List Str) (sp : Sp) : Prop where
  len : ∀ vs H Q E, sp vs H Q E → vs.length = ps.length
  go : ∀ {A : Around} {outer : List Env} {s : Shared} {H : Hp} {args : Args} {us : List Value} {vs : List V} {Q : VK} {E : XK}, A.guards = some [] → Room k A → Env0 P w K mg base A outer s H → BindsTo s fd args (ps.zip us) → Vals vs us → sp vs H Q E →
    codeAny (model P w) A (.call (.ref f) args) (CR CX outer P w H s Q E) s
section
variable {CX : CXT} {P : Program} {w : World} {K : PySem.W.Frag} {mg : Str → Option Value} {base : Heap} {k : Nat} {f : Addr} {N ps : List Str} {sp : Sp} {fd : FuncData}
theorem FnG.of (F : FnOk P w K mg base CX k f fd ps sp) : FnG P w K mg base CX k f fd ps sp := ⟨F.len, fun _ hr e0 hb r h => F.run _ _ _ _ _ _ _ _ _ hr e0 hb r h⟩
end
section
variable {X : Cx} {CX : CXT} {k j : Nat} {ps : List Str} {sp : Sp} {E : XK} {x : Str} {p pos : Pos} {e : Expr} {es : List Expr} {t : TA}
end
section
variable {P : Program} {w : World} {K : PySem.W.Frag} {mg mb : Str → Option Value} {CX : CXT} {k : Nat} {fa a : Addr} {fd : FuncData} {x : Str} {sp : Sp} {s₁ : Shared} {vs : List Value} {ns : List Int}
end
inductive Sc : V → PyData → Prop
  | non : Sc .non .none
  | bl (b : Bool) : Sc (.bl b) (.bool b)
  | int (i : Int) : Sc (.int i) (.int i)
  | str (x : Str) : Sc (.str x) (.str x)
def keyD : Key → PyData
  | .inl i => .int i
  | .inr x => .str x
inductive ScKv : List (Key × V) → List (PyData × PyData) → Prop
  | nil : ScKv [] []
  | cons {k : Key} {v : V} {d : PyData} {kvs : List (Key × V)} {ds : List (PyData × PyData)} : Sc v d → ScKv kvs ds → ScKv ((k, v) :: kvs) ((keyD k, d) :: ds)
inductive DR (K : PySem.W.Frag) (H : Hp) : V → PyData → Prop
  | dp {v : V} {d : PyData} : Dp K H v d → DR K H v d
  | dic {a : Addr} {kvs : List (Key × V)} {ds : List (PyData × PyData)} : H a = some (.dK kvs) → ScKv kvs ds → DR K H (.ref a) (.dict ds)
section
variable {X : Cx}
end
end Ag
namespace Ag
open PySem PySem.W PySem.Spec PySem.Calls PyProof.Rows
section
variable {prog : Program} {w : World} {A : Around} {E : Value → Shared → Prop} {s : Shared} {K : Frag} {x D : Addr} {ox : Obj} {od : Option Obj}
end
open L2
end Ag
namespace Ag
open PySem PySem.Spec PyProof.Rows L2 Evl
section
variable {K : PySem.W.Frag} {σ : L2.St} {H H' : Hp} {ta tb te : TE} {v : V} {d : PyData}
theorem DR.ex (e : Ex H H') (h : DR K H v d) : DR K H' v d := by
  cases h with
  | dp h => exact .dp (Dp.ex e h)
  | dic h s => exact .dic (e _ _ h) s
end
def EvK (te : TE) (σ : L2.St) (H : Hp) (kvs : List (Key × V)) : Prop := ∀ H1, Ex H H1 → ∀ Q : VK, (∀ p H2, H1 p = none → Ex H1 H2 → H2 p = some (.dK kvs) → Q (.ref p) H2) → te σ H1 Q
inductive EvPr : List (TE × TE) → L2.St → Hp → List (Key × V) → Prop
  | nil {σ : L2.St} {H : Hp} : EvPr [] σ H []
  | cons {σ : L2.St} {H : Hp} {tk tv : TE} {k : Key} {v : V} {trs : List (TE × TE)} {kvs : List (Key × V)} : Ev tk σ H (kV k) → Ev tv σ H v → EvPr trs σ H kvs → EvPr ((tk, tv) :: trs) σ H ((k, v) :: kvs)
section
variable {σ : L2.St} {H : Hp} {te ta tb : TE} {trs : List (TE × TE)} {kvs : List (Key × V)} {t : TT} {D : Ends}
theorem EvK.mono {H' : Hp} (e : Ex H H') (h : EvK te σ H kvs) : EvK te σ H' kvs := fun H1 a Q q => h H1 (e.trans a) Q q
theorem EvPr.run (h : EvPr trs σ H kvs) : ∀ H1, Ex H H1 → ∀ Q : List (V × V) → Hp → Prop, (∀ H2, Ex H1 H2 → Q (kvs.map fun kv => (kV kv.1, kv.2)) H2) → tPairs trs σ H1 Q := by
  induction h with
  | nil => exact fun H1 _ Q q => q H1 (Ex.refl H1)
  | cons hk hv _ ih => exact fun H1 e Q q => hk H1 e _ fun H2 e2 => hv H2 (e.trans e2) _ fun H3 e3 => ih H3 ((e.trans e2).trans e3) _ fun H4 e4 => q H4 ((e2.trans e3).trans e4)
end
section
variable {X : Cx} {CX : CXT} {k j : Nat} {ps : List Str} {sp : Sp} {E : L2.St → XK} {x : Str} {p pos : Pos} {e : Expr} {es : List Expr} {t : TA}
end
def Nn (Hs H : Hp) : Hp := fun b => if Hs b = none then H b else none
section
variable {Hs H H' H1 H2 : Hp} {p : Addr} {o : HO}
theorem nn_at (n : Hs p = none) (h : H p = some o) : Nn Hs H p = some o := by
  unfold Nn
  rw [if_pos n]
  exact h
theorem nn_of (h : Nn Hs H p = some o) : Hs p = none ∧ H p = some o := by
  unfold Nn at h
  by_cases n : Hs p = none
  · rw [if_pos n] at h; exact ⟨n, h⟩
  · rw [if_neg n] at h; cases h
theorem nn_ex (e : Ex H H') : Ex (Nn Hs H) (Nn Hs H') := fun a u h => nn_at (nn_of h).1 (e a u (nn_of h).2)
end
inductive DRAll (K : PySem.W.Frag) (H : Hp) : List V → List PyData → Prop
  | nil : DRAll K H [] []
  | cons {v : V} {vs : List V} {d : PyData} {ds : List PyData} : DR K H v d → DRAll K H vs ds → DRAll K H (v :: vs) (d :: ds)
section
variable {K : PySem.W.Frag} {Hs H H' : Hp} {σ : L2.St} {ta tb te : TE} {tas : TA} {v : V} {d : PyData} {ds es : List PyData} {vs xs ys : List V}
theorem DRAll.ex (e : Ex H H') (h : DRAll K H vs ds) : DRAll K H' vs ds := by
  induction h with
  | nil => exact .nil
  | cons a _ ih => exact .cons (DR.ex e a) ih
theorem DRAll.len (h : DRAll K H vs ds) : vs.length = ds.length := by
  induction h with
  | nil => rfl
  | cons _ _ ih => exact congrArg (· + 1) ih
theorem DRAll.append (h : DRAll K H xs ds) (g : DRAll K H ys es) : DRAll K H (xs ++ ys) (ds ++ es) := by
  induction h with
  | nil => exact g
  | cons a _ ih => exact .cons a ih
theorem DRAll.at {i : Nat} (h : DRAll K H vs ds) (e : vs[i]? = some v) : ∃ d, ds[i]? = some d ∧ DR K H v d := by
  induction h generalizing i with
  | nil => simp at e
  | cons a _ ih =>
    cases i with
    | zero =>
      have z : _ = v := Option.some.inj e
      subst z
      exact ⟨_, rfl, a⟩
    | succ i => exact ih (by simpa using e)
def LiN (K : PySem.W.Frag) (Hs : Hp) (v : V) (H : Hp) (ds : List PyData) : Prop := ∃ l xs, v = .ref l ∧ Hs l = none ∧ H l = some (.lst xs) ∧ DRAll K (Nn Hs H) xs ds
theorem LiN.ex (e : Ex H H') (h : LiN K Hs v H ds) : LiN K Hs v H' ds := by
  obtain ⟨l, xs, rfl, n, hl, a⟩ := h
  exact ⟨l, xs, rfl, n, e _ _ hl, DRAll.ex (nn_ex e) a⟩
end
section
variable {σ : L2.St} {H : Hp} {td ty tv te : TE} {u : TS} {D : Ends} {kvs : List (Key × V)}
end
section
variable {X : Cx} {CX : CXT} {pins : List (Addr × Obj)} {σ : L2.St} {H : Hp} {s : Shared} {C p g : Addr} {mc : Value} {m : Str} {A : Around} {Ee : Value → Shared → Prop}
end
section
variable {X : Cx} {CX : CXT} {k j : Nat} {C : Addr} {ps : List Str} {sp : Sp} {E : XK} {m : Str} {pos apos : Pos} {e o : Expr} {es : List Expr} {ta : TE} {t : TA} {pl : Sem Bool}
end
section
variable {X : Cx} {CX : CXT} {k j : Nat} {C : Addr} {ps : List Str} {sp : Sp} {E : XK} {pos : Pos} {e fe : Expr} {es : List Expr} {tf : TE} {t : TA}
end
def rOwnIx (C : Addr) (sp : Sp) (E : XK) : R2 := fun x y H Q => ∃ a dx fs, x = .ref a ∧ H a = some (.ins C dx fs) ∧ sp [x, y] H Q E
section
variable {X : Cx} {CX : CXT} {k j : Nat} {C : Addr} {ps : List Str} {sp : Sp} {E : XK} {pos : Pos} {a b : Expr} {ta tb : TE}
theorem pe_oix (M : Mt X.prog X.w X.K X.mg X.base C "__getitem__" ps CX k sp) (fi : ∀ f, PySem.W.findIn X.K (.ref C) "__getitem__" = some (some (.ref f)) → PySem.W.fnIn X.K f = true) (hr : Room j X.A) (hx : Passes CX X E) (ha : PE X a ta) (hb : PE X b tb) (hk : k + 1 ≤ j := by decide)
    (hsl : ∀ (x : Addr) (u : Value), subscripted b true (.ref x) u = runValue (.builtin "lifetime.subscript" ⟨[.ref x, u], []⟩) := by intro _ _; with_unfolding_all rfl) :
    PE X (.Subscript a b pos) (tOp (rOwnIx C sp E) ta tb) := by
  obtain ⟨g, fd, hm, hbd, F⟩ := M
  refine ⟨fun pins s σ H Q I h => ?_⟩
  refine Subscript_ (binT ha hb I h fun v u s2 x y H2 I2 rx ry q => ?_)
  obtain ⟨a', dx, fs, rfl, h1, q⟩ := q
  cases (show v = Value.ref a' from rx)
  obtain ⟨mA, O, _⟩ := ins_get I2.hok h1
  obtain ⟨od, J, _⟩ := O.look
  obtain ⟨m, hF⟩ := I2.fr
  refine PySem.W.sub_K hF I2.ok.mod.kin J hm.at_ (fi g hm.at_) hm.fn ?_ (hsl a' u)
  exact run_in1 (us := [.ref a', u]) (vs := [.ref a', y]) F (hr.mono hk) hbd hx I2 (.cons rfl (.cons ry .nil)) q
end
section
variable {X : Cx}
end
section
variable {K : PySem.W.Frag} {σ : L2.St} {H : Hp} {ta tb te : TE} {v : V} {C dx p a : Addr} {fs : List (Str × V)} {f : Str} {kvs : List (Key × V)}
end
section
variable {K : PySem.W.Frag} {σ : L2.St} {H : Hp} {ta tb te tv : TE} {v : V} {C dx p a : Addr} {fs : List (Str × V)} {f m : Str} {kvs : List (Key × V)} {t : TA} {vs : List V} {u : TS} {D : Ends} {φ : V → Hp → Prop}
end
end Ag
namespace Ag
abbrev Pair := Int × Option Int
def hiOk (n : Int) : Option Int → Prop
  | none => True
  | some h => n ≤ h
def mem1 (p : Pair) (n : Int) : Prop := p.1 ≤ n ∧ hiOk n p.2
def mem (ps : List Pair) (n : Int) : Prop := ∃ p ∈ ps, mem1 p n
def PrOk (p : Pair) : Prop := 0 ≤ p.1 ∧ hiOk p.1 p.2
def Gap (p q : Pair) : Prop := ∃ h, p.2 = some h ∧ h + 1 < q.1
def Canon (ps : List Pair) : Prop := (∀ p ∈ ps, PrOk p) ∧ ps.Pairwise Gap
theorem Canon.nil : Canon [] := ⟨fun p h => by simp at h, .nil⟩
theorem Canon.none {p : Pair} {r : List Pair} (c : Canon (p :: r)) (e : p.2 = none) : r = [] := by
  cases r with
  | nil => rfl
  | cons q s =>
    obtain ⟨h', e', g⟩ := (List.pairwise_cons.mp c.2).1 q List.mem_cons_self
    rw [e] at e'
    cases e'
end Ag
namespace Ag
open PySem PySem.Spec PyProof.Rows L2 Evl
theorem enumT_end {prog : Program} {w : World} {A : Around} {E : Value → Shared → Prop} {s : Shared} {e it a : Addr} {i : Nat} {j : Int} {items : Array Value} {old : Value} {Q : Option Value → Shared → Prop} (hh : A.handled = none) (he : IsEnum s.heap e it j old) (hit : s.heap.IsTupleIter it a i) (ht : s.heap.IsTuple a items) (hx : items[i]? = none)
    (hQ : ∀ h', Heap.ExtBut it s.heap h' → Q none { s with heap := h' }) : wpAny (model prog w) A (pyNext (.ref e)) Q E s := by
  have hT : s.TypeIs (.ref e) "enumerate" := ⟨_, he, rfl⟩
  unfold pyNext
  refine wpAny_bind (wpAny_attempt (wpAny_callSpecial?_slot (name := Str.ofString "__next__") hT F.slot_enumerate_next
    (wpAny_call_entry F.slot_enumerate_next hT F.entry_enumerate_next ?_ (F.args_enumerate_next_1 _))))
  show wpAny _ _ (field (.ref e) 2 >>= _) _ _ _
  refine wpAny_bind (wpAny_field he rfl (x := .ref it) rfl ?_)
  refine wpAny_bind (wpAny_nextOf_tuple_end hh hit ht hx fun h' x he' hx' => ?_)
  obtain ⟨o, ho, hc⟩ := hx'
  refine wpAny_bind (wpAny_isInstance (T := "StopIteration") (b := true) ⟨o, ho, hc⟩ isSubtype_stop ?_)
  exact wpAny_pure (hQ _ he')
set_option maxHeartbeats 8000000 in
theorem meets_enumT {v : Value} {o : Obj} {H : Heap → Prop} (B : Begins v o H) :
    Meets (Builtin.«enumerate.__new__» ⟨[.type "enumerate", v], []⟩) (fun _ R s => H s.heap ∧
      R (.ok (.ret (.ref (s.heap.push o).objs.size))) { s with heap := (s.heap.push o).push { cls := .type "enumerate", data := .fields #[.none, .bool false, .ref s.heap.objs.size, rawInt 0, .none, .none] } }) :=
  .of_wp fun prog w A R s h => by
    obtain ⟨hp, g, d, tk, os⟩ := s; obtain ⟨h1, h⟩ := h
    have hsub := sub_enumerate
    have q1 : ∀ {A' : Around} {E : Value → Shared → Prop} {Q : Value → Shared → Prop}, Q (.ref hp.objs.size) ⟨hp.push o, g, d, tk, os⟩ → wpAny (model prog w) A' (pyIter v) Q E ⟨hp, g, d, tk, os⟩ :=
      fun q => B.iter prog w _ _ ⟨hp, g, d, tk, os⟩ _ h1 q
    wp_walk using q1
    refine wpAny_stack_any fun st => wpAny_pure ?_
    split
    · rename_i c _ _ _ _ _
      cases (c == Value.type "enumerate")
      · wp_walk using q1
        exact ⟨_, rfl, h⟩
      · wp_walk using q1
        exact ⟨_, rfl, h⟩
    · wp_walk using q1
      exact ⟨_, rfl, h⟩
theorem call_enumT {prog : Program} {w : World} {A : Around} {E : Value → Shared → Prop} {s : Shared} {v : Value} {o : Obj} {H : Heap → Prop} {Q : Value → Shared → Prop} (B : Begins v o H) (h1 : H s.heap)
    (h : ∀ h', IsEnum h' (s.heap.objs.size + 1) s.heap.objs.size 0 .none → h'.get? s.heap.objs.size = some o → h'.objs.size = s.heap.objs.size + 2 →
      (∀ b o, s.heap.get? b = some o → h'.get? b = some o) → Q (.ref (s.heap.objs.size + 1)) { s with heap := h' }) :
    wpAny (model prog w) A (call (.type "enumerate") [v]) Q E s := by
  refine callType_new F.called_enumerate (by decide) (F.typeCall_enumerate_1 _) (F.newCall_enumerate_1 _) (fun obj => F.args_object_init_2 obj _) F.entry_enumerate_new (meets_enumT B) ⟨h1, ?_⟩
  have hz : (s.heap.push o).objs.size = s.heap.objs.size + 1 := Heap.size_push ..
  show _ ∧ _
  rw [hz]
  have he : IsEnum ((s.heap.push o).push { cls := .type "enumerate", data := .fields #[.none, .bool false, .ref s.heap.objs.size, rawInt 0, .none, .none] }) (s.heap.objs.size + 1) s.heap.objs.size 0 .none := by
    have := Heap.get?_push_size (s.heap.push o) (o := { cls := .type "enumerate", data := .fields #[.none, .bool false, .ref s.heap.objs.size, rawInt 0, .none, .none] }) rfl
    rw [hz] at this; exact this
  refine ⟨⟨_, he, rfl⟩, h _ he (Heap.get?_push_of_some _ (Heap.get?_push_size _ B.free)) (by rw [Heap.size_push, hz]) fun b o x => Heap.get?_push_of_some _ (Heap.get?_push_of_some _ x)⟩
def IteT (K : PySem.W.Frag) (a : Addr) : It :=
  ⟨fun i H => ∃ (xs : List V) (x : V), SqT K H a xs ∧ xs[i]? = some x, fun i H v H' => ∃ T x, v = .ref T ∧ H T = none ∧ H' = upd H T (.tup [.int (i : Nat), x]) ∧ ∀ xs, SqT K H a xs → xs[i]? = some x, fun i H => ∃ xs : List V, SqT K H a xs ∧ xs.length ≤ i⟩
theorem turn_enumT {P : Program} {w : World} {K : PySem.W.Frag} {elts : List Expr} {kk : Nat} {tpos : Pos} (a e it : Addr) (hae : a ≠ e) (hai : a ≠ it) :
    Turn P w K (.Tuple elts kk tpos) (IteT K a) [e, it] e (fun i h => (∃ old, IsEnum h e it ((i : Nat) : Int) old) ∧ h.IsTupleIter it a i ∧ e ≠ it) where
  mem := by simp
  obj := fun i h st b hb => by
    obtain ⟨⟨old, he⟩, ⟨o, ho, hc, hd⟩, _⟩ := st
    have e' : b = e ∨ b = it := by simpa using hb
    rcases e' with z | z
    · rw [z]; exact ⟨_, he, fun v q => nomatch q⟩
    · rw [z]; exact ⟨o, ho, fun v q => by rw [hd] at q; cases q⟩
  keep := fun i h h' st k => let ⟨⟨old, he⟩, hi, hne⟩ := st; ⟨⟨old, k e (by simp) _ he⟩, hi.at fun o q => k it (by simp) o q, hne⟩
  item := by
    intro X hP hw hK hc i pins s σ H E I hf st hg
    subst hP hw hK
    obtain ⟨⟨old, he⟩, hit, hne⟩ := st
    obtain ⟨xs, x, hq, hx⟩ := hg
    obtain ⟨its, rv, p, hz⟩ := I.tuple hq
    obtain ⟨u, hu, ru⟩ := rv.get hx
    have hel : e < s.heap.objs.size := Heap.lt_size he
    have hil : it < s.heap.objs.size := by obtain ⟨_, q, _⟩ := hit; exact Heap.lt_size q
    have hlt : i < its.toArray.size := by have := (List.getElem?_eq_some_iff.mp hu).1; simpa using this
    refine wpAny_pyNext_enum_itemD (Draws.tuple (A := X.A.in1) (I.ok.hd hc) it a hai its.toArray) he ⟨hit, show s.heap.IsTuple a its.toArray from p⟩ hlt hne (by simp; exact ⟨hne, fun z => hae z.symm⟩) fun u' h' tk hP ho hst hT hsz hk => ?_
    obtain rfl : u' = u := Option.some.inj (hP.symm.trans (by simpa using hu))
    refine ⟨_, rfl, wpAny_letOwnedTupleGo_enum (s := { s with heap := h', toks := tk + 1 }) ho fun h'' he' sb => ?_⟩
    have hT2 : h''.get? s.heap.objs.size = some { cls := .type "tuple", data := .seq #[.int i tk, u'] } := (sb.2 _ (Nat.ne_of_gt hel)).trans hT
    have new : ObjOk X.prog X.w (upd H s.heap.objs.size (.tup [.int (i : Nat), x])) h'' s.heap.objs.size (.tup [.int (i : Nat), x]) :=
      ⟨by show 2 ≤ sizeLine; decide, [.int i tk, u'], .cons ⟨_, rfl⟩ (.cons ru .nil), ⟨_, hT2, rfl, _, rfl⟩⟩
    have I1 : Inv X pins σ (upd H s.heap.objs.size (.tup [.int (i : Nat), x])) { s with heap := h'', toks := tk + 1 } :=
      I.turnedNew (ch := [e, it]) (fun b ob hb q => (sb.2 b (fun z => hb (by simp [z]))).trans (hk b ob (fun z => hb (by simp [z])) (fun z => hb (by simp [z])) q)) hf (Nat.le_refl _) new
    refine ⟨.ref s.heap.objs.size, _, I1, rfl, ⟨_, x, rfl, I.hok.fresh (Nat.le_refl _), rfl, fun ys hy => by rw [I.tuple_inj hy hq]; exact hx⟩, ⟨⟨u', ?_⟩, hst.1.at fun o q => (sb.2 it (Ne.symm hne)).trans q, hne⟩, fun b hb => ?_⟩
    · have e1 : ((i + 1 : Nat) : Int) = (i : Int) + 1 := by omega
      rw [e1]; exact he'
    · have hb' : b < s.heap.objs.size := by
        have e' : b = e ∨ b = it := by simpa using hb
        rcases e' with z | z
        · rw [z]; exact hel
        · rw [z]; exact hil
      rw [upd_ne (Nat.ne_of_lt hb')]
      exact (hf b hb).1
  done := by
    intro X hP hw hK hc i pins s σ H E I hf st hg
    subst hP hw hK
    obtain ⟨⟨old, he⟩, hit, hne⟩ := st
    obtain ⟨xs, hq, hx⟩ := hg
    obtain ⟨its, rv, p, hz⟩ := I.tuple hq
    obtain ⟨f0, f1, f2, f3, f4, f5⟩ := hf it (by simp)
    have hl := rv.length
    exact enumT_end (I.ok.hd hc) he hit (show s.heap.IsTuple a its.toArray from p) (by simp; omega) fun h' eb => ⟨rfl, I.turned (t' := s.toks) (fun b o hb q => eb b o hb q) f0 f1 f3 f4 f5⟩
  self := fun A i s Q E st h => let ⟨⟨_, he⟩, _⟩ := st; wpAny_pyIter_enum he h
def iEnumT (K : PySem.W.Frag) (ta : TA) : TI := fun σ H R => ta σ H fun vs H1 => ∃ a xs, vs = [.ref a] ∧ SqT K H1 a xs ∧ R (IteT K a) H1
theorem pi_enumT {X : Cx} {e : Expr} {ta : TA} {p pos tpos : Pos} {elts : List Expr} {kk : Nat} (hg : Gl X "enumerate") (hm : X.mg "enumerate" = none) (ha : PA X [e] ta) (hs : starEach [e] X.env = [(false, eval e X.env)] := by rfl) :
    PI X (.Tuple elts kk tpos) (.Call (.Name "enumerate" p) [e] [] pos) (iEnumT X.K ta) := by
  refine ⟨fun pins s σ H R I h => ?_⟩
  refine Call_ (ld_blt I hg hm boot_enumerate (PyProof.Rows.callWith_type1 (thn (ha.run pos pins s σ H _ I h) fun us s1 ⟨vs, H1, I1, r1, q1⟩ => ?_) hs rfl))
  obtain ⟨a, xs, ex, hq, q⟩ := q1
  subst ex
  cases r1 with
  | cons r rr =>
    cases rr
    cases r
    obtain ⟨its, rv, p', hz⟩ := I1.tuple hq
    have hT : s1.heap.IsTuple a its.toArray := p'
    have hal : a < s1.heap.objs.size := by obtain ⟨o, ho, _⟩ := hT; exact Heap.lt_size ho
    refine call_enumT (begins_tuple a its.toArray) hT fun h' he hit hsz hk => wpAny_pyIter_enum he ?_
    have I2 : Inv X pins σ H1 { s1 with heap := h' } := I1.kept (t' := s1.toks) hk
    refine ⟨s1.heap.objs.size + 1, [s1.heap.objs.size + 1, s1.heap.objs.size], _, _, H1, rfl, I2, turn_enumT a (s1.heap.objs.size + 1) s1.heap.objs.size (Nat.ne_of_lt (Nat.lt_succ_of_lt hal)) (Nat.ne_of_lt hal), ⟨⟨.none, he⟩, ⟨_, hit, rfl, rfl⟩, Nat.succ_ne_self _⟩, fun b hb => ?_, q⟩
    have e' : b = s1.heap.objs.size + 1 ∨ b = s1.heap.objs.size := by simpa using hb
    have hle : s1.heap.objs.size ≤ b := by
      rcases e' with z | z
      · rw [z]; exact Nat.le_add_right _ _
      · rw [z]; exact Nat.le_refl _
    exact I1.fpOk hle (I1.hok.fresh hle)
section
variable {σ : L2.St} {H : Hp} {ta : TE} {o : Option Int}
end
section
variable {prog : Program} {w : World} {A : Around} {E : Value → Shared → Prop} {s : Shared}
end
section
variable {X : Cx} {CX : CXT} {C : Addr} {ps : List Str} {n j : Nat} {sp : Sp} {E : XK}
end
section
variable {X : Cx} {CX : CXT} {k j : Nat} {C : Addr} {sp : Sp} {E : XK} {x : Str} {e : Expr} {es : List Expr} {te : TE} {t : TA} {p sp_ pos : Pos}
end
variable {W : WX}
section
variable {X : Cx} {tg e : Expr} {f : En → Option (D × En)} {fa : En → Option (List D × En)}
theorem PIi {t t' : TI} (h : PI X tg e t) (i : ∀ σ H R, t' σ H R → t σ H R) : PI X tg e t' := ⟨fun pins s σ H R I q => h.run pins s σ H R I (i σ H R q)⟩
def xItL (f : En → Option (D × En)) : En → Option (List D × En) := fun e => (f e).bind fun p => match p.1 with
  | .lst ds => some (ds, p.2)
  | _ => none
def xItT (f : En → Option (D × En)) : En → Option (List D × En) := fun e => (f e).bind fun p => match p.1 with
  | .tup _ ds => some (ds, p.2)
  | _ => none
def small62 (j : Int) : Bool := decide (-(2 ^ 62) ≤ j) && decide (j < 2 ^ 62)
def rngD (lo : Int) (n : Nat) : List D := (List.range n).map fun (k : Nat) => D.int (lo + (k : Int))
def xItR1 (f : En → Option (List D × En)) : En → Option (List D × En) := fun e => (f e).bind fun p => match p.1 with
  | [.int j] => if small62 j = true then some (rngD 0 j.toNat, p.2) else none
  | _ => none
def xItR2 (f : En → Option (List D × En)) : En → Option (List D × En) := fun e => (f e).bind fun p => match p.1 with
  | [.int i, .int j] => if (small62 i && small62 j) = true then some (rngD i (j - i).toNat, p.2) else none
  | _ => none
def enumD (ds : List D) : List D := (List.range ds.length).map fun (k : Nat) => D.tup false [.int (k : Int), ds.getD k .non]
def xItE (f : En → Option (List D × En)) : En → Option (List D × En) := fun e => (f e).bind fun p => match p.1 with
  | [.lst ds] => some (enumD ds, p.2)
  | _ => none
theorem xi_list (h : PI X tg e (iList X.K (rdV X.K f))) : PI X tg e (rdI X.K (xItL f)) := PIi h fun σ H R ⟨s, e1, e2, ok, ds, en', hf, q⟩ => by
  obtain ⟨⟨d, en1⟩, k1, k2⟩ := Option.bind_eq_some_iff.mp hf
  cases d with
  | lst xs =>
    cases k2
    refine ⟨s, e1, e2, ok, _, _, k1, fun v t tσ te okt st rp => ?_⟩
    obtain ⟨a, vs, rfl, ha, rl⟩ := rp
    refine ⟨a, rfl, ⟨vs, SqL.of (okt.ex _ _ ha)⟩, q t _ tσ te okt st ⟨fun H' ex => ⟨vs, SqL.of (ex _ _ ha), by rw [rl.len]; exact Nat.le_refl _⟩, fun i H' ex hi => ?_, fun i H' x H'' ex hi y => ?_⟩⟩
    · obtain ⟨v, hv, _⟩ := rl.at (List.getElem?_eq_getElem hi)
      exact ⟨vs, v, SqL.of (ex _ _ ha), hv⟩
    · obtain ⟨rfl, hx⟩ := y
      obtain ⟨d, hd, rd⟩ := rl.atV (hx vs (SqL.of (ex _ _ ha)))
      exact ⟨Ex.refl _, d, hd, fun B' eb el => ⟨B', Ex.refl _, el, fun _ _ z => .inl z, rd.mono eb⟩⟩
  | _ => cases k2
theorem xi_tup (h : PI X tg e (iTup X.K (rdV X.K f))) : PI X tg e (rdI X.K (xItT f)) := PIi h fun σ H R ⟨s, e1, e2, ok, ds, en', hf, q⟩ => by
  obtain ⟨⟨d, en1⟩, k1, k2⟩ := Option.bind_eq_some_iff.mp hf
  cases d with
  | tup kk xs =>
    cases k2
    refine ⟨s, e1, e2, ok, _, _, k1, fun v t tσ te okt st rp => ?_⟩
    obtain ⟨a, vs, rfl, ha, rl⟩ := rp
    replace ha := ha.sq
    refine ⟨a, rfl, ⟨vs, ex_t okt.ex ha⟩, q t _ tσ te okt st ⟨fun H' ex => ⟨vs, ex_t ex ha, by rw [rl.len]; exact Nat.le_refl _⟩, fun i H' ex hi => ?_, fun i H' x H'' ex hi y => ?_⟩⟩
    · obtain ⟨v, hv, _⟩ := rl.at (List.getElem?_eq_getElem hi)
      exact ⟨vs, v, ex_t ex ha, hv⟩
    · obtain ⟨rfl, hx⟩ := y
      obtain ⟨d, hd, rd⟩ := rl.atV (hx vs (ex_t ex ha))
      exact ⟨Ex.refl _, d, hd, fun B' eb el => ⟨B', Ex.refl _, el, fun _ _ z => .inl z, rd.mono eb⟩⟩
  | _ => cases k2
theorem it_rng {K : PySem.W.Frag} {B : Hp} (lo : Int) (n : Nat) : ItOk K (Itr lo n) B (rngD lo n) := by
  have hl : (rngD lo n).length = n := by simp [rngD]
  refine ⟨fun H _ => ?_, fun i H _ hi => ?_, fun i H x H' _ hi y => ?_⟩
  · show n ≤ (rngD lo n).length
    omega
  · show i < n
    omega
  · obtain ⟨rfl, rfl⟩ := y
    refine ⟨Ex.refl _, .int (lo + (i : Int)), ?_, fun B' eb el => ⟨B', Ex.refl _, el, fun _ _ z => .inl z, rfl⟩⟩
    have hi : i < n := by omega
    simp [rngD, hi]
theorem xi_r1 (h : PI X tg e (iRng1 (rdA X.K fa))) : PI X tg e (rdI X.K (xItR1 fa)) := PIi h fun σ H R ⟨s, e1, e2, ok, ds, en', hf, q⟩ => by
  obtain ⟨⟨d, en1⟩, k1, k2⟩ := Option.bind_eq_some_iff.mp hf
  match d, k2 with
  | [.int j], k2 =>
    have k2 : (if small62 j = true then some (rngD 0 j.toNat, en1) else none) = some (ds, en') := k2
    split at k2
    · rename_i hs
      cases k2
      obtain ⟨b1, b2⟩ : -(2 ^ 62) ≤ j ∧ j < 2 ^ 62 := by simpa [small62] using hs
      refine ⟨s, e1, e2, ok, _, _, k1, fun vs t tσ te okt st rp => ?_⟩
      obtain ⟨v, r, rfl, r1, r2⟩ := rp
      cases (show r = [] from r2)
      exact ⟨j, congrArg (fun z => [z]) r1, b1, b2, q t _ tσ te okt st (it_rng 0 j.toNat)⟩
    · cases k2
theorem xi_r2 (h : PI X tg e (iRng2 (rdA X.K fa))) : PI X tg e (rdI X.K (xItR2 fa)) := PIi h fun σ H R ⟨s, e1, e2, ok, ds, en', hf, q⟩ => by
  obtain ⟨⟨d, en1⟩, k1, k2⟩ := Option.bind_eq_some_iff.mp hf
  match d, k2 with
  | [.int i, .int j], k2 =>
    have k2 : (if (small62 i && small62 j) = true then some (rngD i (j - i).toNat, en1) else none) = some (ds, en') := k2
    split at k2
    · rename_i hs
      cases k2
      obtain ⟨⟨b1, b2⟩, b3, b4⟩ : (-(2 ^ 62) ≤ i ∧ i < 2 ^ 62) ∧ -(2 ^ 62) ≤ j ∧ j < 2 ^ 62 := by simpa [small62] using hs
      refine ⟨s, e1, e2, ok, _, _, k1, fun vs t tσ te okt st rp => ?_⟩
      obtain ⟨v, r, rfl, r1, w, r', rfl, r2, r3⟩ := rp
      cases (show r' = [] from r3)
      cases (show v = .int i from r1)
      cases (show w = .int j from r2)
      exact ⟨i, j, rfl, ⟨b1, b2, b3, b4⟩, q t _ tσ te okt st (it_rng i (j - i).toNat)⟩
    · cases k2
theorem xi_enum (h : PI X tg e (iEnum X.K (rdA X.K fa))) : PI X tg e (rdI X.K (xItE fa)) := PIi h fun σ H R ⟨s, e1, e2, ok, ds, en', hf, q⟩ => by
  obtain ⟨⟨d, en1⟩, k1, k2⟩ := Option.bind_eq_some_iff.mp hf
  match d, k2 with
  | [.lst xs], k2 =>
    cases k2
    refine ⟨s, e1, e2, ok, _, _, k1, fun vs t tσ te okt st rp => ?_⟩
    obtain ⟨v, r, rfl, ⟨a, us, rfl, ha, rl⟩, r2⟩ := rp
    cases (show r = [] from r2)
    have hle : (enumD xs).length = xs.length := by simp [enumD]
    refine ⟨a, us, rfl, SqL.of (okt.ex _ _ ha), q t _ tσ te okt st ⟨fun H' ex => ⟨us, SqL.of (ex _ _ ha), by rw [rl.len, hle]; exact Nat.le_refl _⟩, fun i H' ex hi => ?_, fun i H' x H'' ex hi y => ?_⟩⟩
    · obtain ⟨v, hv, _⟩ := rl.at (List.getElem?_eq_getElem (show i < xs.length by omega))
      exact ⟨us, v, SqL.of (ex _ _ ha), hv⟩
    · obtain ⟨T, x', rfl, hT, rfl, hx⟩ := y
      obtain ⟨d, hd, rd⟩ := rl.atV (hx us (SqL.of (ex _ _ ha)))
      have hi' : i < xs.length := by omega
      refine ⟨Ex.new hT, .tup false [.int (i : Int), d], ?_, fun B' eb el => ⟨upd B' T (.tup [.int (i : Nat), x']), Ex.new (fresh_back el hT), fun b o z => ?_, fun b o z => ?_, T, _, rfl, upd_same, .int (i : Nat), [x'], rfl, rfl, x', [], rfl, rd.mono (eb.trans (Ex.new (fresh_back el hT))), rfl⟩⟩
      · have : xs[i]? = some d := hd
        have h2 : xs[i] = d := (List.getElem?_eq_some_iff.mp this).2
        simp [enumD, hi', List.getD_eq_getElem?_getD, h2]
      · by_cases hb : b = T
        · subst hb; rw [upd_same] at z; rw [upd_same]; exact z
        · rw [upd_ne hb] at z; rw [upd_ne hb]; exact el b o z
      · by_cases hb : b = T
        · subst hb; exact .inr hT
        · rw [upd_ne hb] at z; exact .inl z
end
def pinned : En → En → En
  | [], _ => []
  | .pw _ :: as, x :: en => x :: pinned as en
  | a :: as, _ :: en => a :: pinned as en
  | a :: as, [] => a :: as
abbrev FnT := En → Option (Sl × En)
def fnM (n : Nat) (b : En → Option Out) : FnT := fun as => (b (as ++ List.replicate n .no)).bind fun o => match o with
  | .rt r e => some (r, pinned as e)
  | .nx e => some (.va .non, pinned as e)
  | _ => none
def isArg : Sl → Bool
  | .va _ => true
  | .pw _ => true
  | _ => false
def spM (K : PySem.W.Frag) (n : Nat) (F : FnT) : Sp := fun vs H Q _ => vs.length = n ∧ ∃ s : Sta, s.σ = vs.map some ∧ s.H = H ∧ EnOk K s ∧ s.en.all isArg = true ∧ ∃ r en', F s.en = some (r, en') ∧
  ∀ v t fr, t.σ = vs.map some → t.en = en' → EnOk K t → Stp s t → SlOk K t.B t.H (some v) r fr → Side s t fr → Q v t.H
section
variable {K : PySem.W.Frag}
theorem pinned_len : ∀ (as e : En), (pinned as e).length = as.length
  | [], _ => rfl
  | .pw _ :: as, _ :: e => congrArg (· + 1) (pinned_len as e)
  | .va _ :: as, _ :: e => congrArg (· + 1) (pinned_len as e)
  | .ow _ :: as, _ :: e => congrArg (· + 1) (pinned_len as e)
  | .no :: as, _ :: e => congrArg (· + 1) (pinned_len as e)
  | .pw _ :: _, [] => rfl
  | .va _ :: _, [] => rfl
  | .ow _ :: _, [] => rfl
  | .no :: _, [] => rfl
theorem pinned_at : ∀ {as e : En} {i : Nat} {x : Sl}, as.all isArg = true → as.length ≤ e.length → (pinned as e)[i]? = some x → (∃ d, as[i]? = some (.va d) ∧ x = .va d) ∨ ∃ o, as[i]? = some (.pw o) ∧ e[i]? = some x
  | [], _, i, x, _, _, h => by simp [pinned] at h
  | a :: as, [], i, x, _, hl, h => by simp at hl
  | .pw o :: as, y :: e, 0, x, _, _, h => .inr ⟨o, rfl, h⟩
  | .va d :: as, y :: e, 0, x, _, _, h => .inl ⟨d, rfl, (Option.some.inj h).symm⟩
  | .ow _ :: as, y :: e, _, x, ha, _, h => by simp [isArg] at ha
  | .no :: as, y :: e, _, x, ha, _, h => by simp [isArg] at ha
  | .pw o :: as, y :: e, i + 1, x, ha, hl, h => by
    have := pinned_at (as := as) (e := e) (i := i) (x := x) (by simpa [isArg] using ha) (by simpa using hl) (by simpa [pinned] using h)
    simpa using this
  | .va o :: as, y :: e, i + 1, x, ha, hl, h => by
    have := pinned_at (as := as) (e := e) (i := i) (x := x) (by simpa [isArg] using ha) (by simpa using hl) (by simpa [pinned] using h)
    simpa using this
theorem body_start {s : Sta} (ok : EnOk K s) (n : Nat) : EnOk K ⟨s.B, s.H, s.σ ++ List.replicate n none, s.en ++ List.replicate n .no, s.fp⟩ where
  ex := ok.ex
  nt := ok.nt
  tb := ok.tb
  len := by simp [ok.len]
  sl := fun i x e => by
    have e : (s.en ++ List.replicate n Sl.no)[i]? = some x := e
    show ∃ ov, (s.σ ++ List.replicate n none)[i]? = some ov ∧ SlOk K s.B s.H ov x (s.fp i)
    by_cases hi : i < s.en.length
    · rw [List.getElem?_append_left hi] at e
      rw [List.getElem?_append_left (by rw [← ok.len]; exact hi)]
      exact ok.sl i x e
    · rw [List.getElem?_append_right (by omega)] at e
      obtain ⟨h1, h2⟩ := List.getElem?_eq_some_iff.mp e
      have hx : x = .no := by simpa using h2.symm
      have hn : i - s.en.length < n := by simpa using h1
      subst hx
      refine ⟨none, ?_, ok.out i (List.getElem?_eq_none (by omega))⟩
      rw [List.getElem?_append_right (by rw [← ok.len]; omega), ← ok.len]
      simp [hn]
  out := fun i e => ok.out i (by
    have e : (s.en ++ List.replicate n Sl.no)[i]? = none := e
    exact List.getElem?_eq_none (by have := List.getElem?_eq_none_iff.mp e; simp at this; omega))
  dj := ok.dj
  off := ok.off
theorem body_end {s u : Sta} {vs : List V} (ok : EnOk K s) (ha : s.en.all isArg = true) (hσ : s.σ = vs.map some) {n : Nat} (oku : EnOk K u) (st : Stp ⟨s.B, s.H, s.σ ++ List.replicate n none, s.en ++ List.replicate n .no, s.fp⟩ u) :
    ∃ t : Sta, t.σ = vs.map some ∧ t.en = pinned s.en u.en ∧ EnOk K t ∧ Stp s t ∧ t.B = u.B ∧ t.H = u.H ∧ ∀ a, inF t.fp a → inF u.fp a := by
  have hs : s.en.length = s.σ.length := ok.len
  have hlen : u.en.length = s.en.length + n := st.ln.trans (by simp)
  have low : ∀ {i x}, (pinned s.en u.en)[i]? = some x → i < s.en.length := fun {i x} e => by
    have := (List.getElem?_eq_some_iff.mp e).1
    rw [pinned_len] at this; exact this
  have fpi : ∀ i a, a ∈ (match s.en[i]? with | some (.pw _) => u.fp i | _ => []) → a ∈ u.fp i ∧ ∃ o, s.en[i]? = some (.pw o) := fun i a h => by
    cases e : s.en[i]? with
    | none => rw [e] at h; cases h
    | some x =>
      rw [e] at h
      cases x with
      | pw o => exact ⟨h, o, rfl⟩
      | _ => cases h
  refine ⟨⟨u.B, u.H, vs.map some, pinned s.en u.en, fun i => match s.en[i]? with | some (.pw _) => u.fp i | _ => []⟩, rfl, rfl, ⟨oku.ex, ?_, fun i x e => ?_, fun i e => ?_, fun i j a hi hj => oku.dj i j a (fpi i a hi).1 (fpi j a hj).1, fun i a hi => oku.off i a (fpi i a hi).1, oku.nt, oku.tb⟩,
    ⟨st.bb, st.bn, st.hh, st.dm, fun a ⟨i, hi⟩ => st.ff a ⟨i, (fpi i a hi).1⟩, fun i o e => ?_, pinned_len ..⟩, rfl, rfl, fun a ⟨i, hi⟩ => ⟨i, (fpi i a hi).1⟩⟩
  · show (pinned s.en u.en).length = (vs.map some).length
    rw [pinned_len, ← hσ, hs]
  · have hi := low e
    show ∃ ov, (vs.map some)[i]? = some ov ∧ SlOk K u.B u.H ov x (match s.en[i]? with | some (.pw _) => u.fp i | _ => [])
    rcases pinned_at ha (by omega) e with ⟨d, h1, rfl⟩ | ⟨o, h1, h2⟩
    · obtain ⟨ov, e1, q⟩ := ok.sl i _ h1
      rw [h1, ← hσ]
      obtain ⟨_, v, rfl, rp⟩ := q
      exact ⟨_, e1, rfl, v, rfl, rp.mono st.bb⟩
    · obtain ⟨e1, o', e2⟩ := st.pn i o (by show (s.en ++ _)[i]? = _; rw [List.getElem?_append_left hi]; exact h1)
      obtain ⟨ov, e3, q⟩ := oku.sl i x h2
      rw [h1, ← hσ]
      refine ⟨ov, ?_, q⟩
      have e1 : u.σ[i]? = (s.σ ++ List.replicate n none)[i]? := e1
      rw [List.getElem?_append_left (by omega)] at e1
      rw [← e1]; exact e3
  · have hi : s.en.length ≤ i := by
      have := List.getElem?_eq_none_iff.mp (show (pinned s.en u.en)[i]? = none from e)
      rw [pinned_len] at this; exact this
    show (match s.en[i]? with | some (.pw _) => u.fp i | _ => []) = []
    rw [List.getElem?_eq_none hi]
  · have hi : i < s.en.length := (List.getElem?_eq_some_iff.mp e).1
    obtain ⟨e1, o', e2⟩ := st.pn i o (by show (s.en ++ _)[i]? = _; rw [List.getElem?_append_left hi]; exact e)
    refine ⟨by rw [hσ], ?_⟩
    show ∃ o', (pinned s.en u.en)[i]? = some (.pw o')
    have hp : i < (pinned s.en u.en).length := by rw [pinned_len]; exact hi
    rcases pinned_at (x := (pinned s.en u.en)[i]) ha (by omega) (List.getElem?_eq_getElem hp) with ⟨d, h1, _⟩ | ⟨o2, h1, h2⟩
    · rw [e] at h1; cases h1
    · rw [e2] at h2
      exact ⟨o', by rw [List.getElem?_eq_getElem hp, ← h2]⟩
end
section
variable {P : Program} {w : World} {K : PySem.W.Frag} {mg : Str → Option Value} {base : Heap} {x qual : Str} {st : Stmt} {f : Addr} {fd : FuncData} {N ps : List Str} {k n : Nat} {b : En → Option Out}
theorem xdef {dvs : List V} {kws : List (Str × V)} (F : FunD K x qual (defArgs st) (defBody st) (defScope st) dvs kws f fd) (S : FnScope N ps (defScope st)) (hN : N.length = ps.length + n)
    (hb : ∀ (cdv : Value) (A : Around) (outer : List Env) (s : Shared) (H : Hp) (E : XK), Room k (A.deeper (envOfC qual (defScope st) s.heap.objs.size f cdv)) → PSs (cxOf CX0 P w K mg base N qual (defScope st) f cdv A outer s H E).nox (defBody st) (rdS K wF b)) :
    FnOk P w K mg base CX0 (k + 1) f fd ps (spM K ps.length (fnM n b)) := by
  refine F.ok S (fun vs H Q E h => h.1) (fun cdv A outer s H vs Q E hr h => ⟨_, PSs.nox (hb cdv A outer s H E hr), ?_⟩)
  obtain ⟨hl, s, hσ, hH, ok, ha, r, en', hF, q⟩ := h
  obtain ⟨o, h1, h2⟩ := Option.bind_eq_some_iff.mp hF
  have hs : s.en.length = vs.length := by rw [ok.len, hσ, List.length_map]
  refine ⟨⟨s.B, s.H, s.σ ++ List.replicate n none, s.en ++ List.replicate n .no, s.fp⟩, ?_, hH, body_start ok n, o, h1, ?_⟩
  · show s.σ ++ List.replicate n none = L2.start N vs
    unfold L2.start
    rw [hσ, hN, hl, show ps.length + n - ps.length = n by omega]
  cases o with
  | bk e => cases h2
  | ct e => cases h2
  | ex r e => cases h2
  | nx e =>
    cases h2
    intro u ue oku stu
    obtain ⟨t, t1, t2, t3, t4, t5, t6, _⟩ := body_end ok ha hσ oku stu
    rw [← t6]
    exact q .non t [] t1 (by rw [t2, ue]) t3 t4 ⟨rfl, _, rfl, rfl⟩ .nil
  | rt r e =>
    cases h2
    intro v u fr ue oku stu sl sd
    obtain ⟨t, t1, t2, t3, t4, t5, t6, t7⟩ := body_end ok ha hσ oku stu
    rw [← t6]
    exact q v t fr t1 (by rw [t2, ue]) t3 t4 (by rw [t5, t6]; exact sl) ⟨fun a ha' z => sd.no a ha' (t7 a z), by rw [t5]; exact sd.b, sd.new⟩
end
section
variable {K : PySem.W.Frag}
def argS (t : Sta) (vs : List V) (ds : List D) : Sta := ⟨t.B, t.H, vs.map some, ds.map .va, fun _ => []⟩
theorem argS_ok {t : Sta} {vs : List V} {ds : List D} (ok : EnOk K t) (rp : RepL K t.B ds vs) : EnOk K (argS t vs ds) where
  ex := ok.ex
  nt := ok.nt
  tb := ok.tb
  len := by simp [argS, rp.len]
  sl := fun i x e => by
    have e : (ds.map Sl.va)[i]? = some x := e
    rw [List.getElem?_map] at e
    obtain ⟨d, hd, rfl⟩ := Option.map_eq_some_iff.mp e
    obtain ⟨v, hv, r⟩ := rp.at hd
    exact ⟨some v, by simp [argS, hv], rfl, v, rfl, r⟩
  out := fun _ _ => rfl
  dj := fun _ _ _ h => by cases h
  off := fun _ _ h => by cases h
theorem va_arg (ds : List D) : (ds.map Sl.va).all isArg = true := by simp [isArg]
theorem back0 {t u : Sta} {vs : List V} {ds : List D} (ok : EnOk K t) (oku : EnOk K u) (st : Stp (argS t vs ds) u) : EnOk K ⟨u.B, u.H, t.σ, t.en, t.fp⟩ ∧ Stp t ⟨u.B, u.H, t.σ, t.en, t.fp⟩ := by
  have nf : ∀ a, ¬ inF (argS t vs ds).fp a := fun a ⟨_, h⟩ => by cases h
  refine ⟨⟨oku.ex, ok.len, fun i x e => ?_, ok.out, ok.dj, fun i a ha => ?_, oku.nt, oku.tb⟩, ⟨st.bb, fun a o h => ?_, fun a o h _ n => st.hh a o h (nf a) n, st.dm, fun _ h => .inl h, fun _ o h => ⟨rfl, o, h⟩, rfl⟩⟩
  · obtain ⟨ov, e1, q⟩ := ok.sl i x e
    exact ⟨ov, e1, q.mono st.bb fun a ha => by
      obtain ⟨w, hw, mw⟩ := q.cell a ha
      rw [hw]; exact st.hh a w hw (nf a) (.of mw)⟩
  · cases e : u.B a with
    | none => rfl
    | some o =>
      rcases st.bn a o e with z | z | z
      · have z : t.B a = some o := z
        rw [ok.off i a ha] at z; cases z
      · have z : t.H a = none := z
        obtain ⟨w, hw, _⟩ := ok.cell ⟨i, ha⟩
        rw [hw] at z; cases z
      · exact (nf a z).elim
  · rcases st.bn a o h with z | z | z
    · exact .inl z
    · exact .inr (.inl z)
    · exact (nf a z).elim
theorem back0_side {t u : Sta} {vs : List V} {ds : List D} {fr : List Addr} (ok : EnOk K t) (sd : Side (argS t vs ds) u fr) : Side t ⟨u.B, u.H, t.σ, t.en, t.fp⟩ fr := by
  have new : ∀ a ∈ fr, t.H a = none := fun a ha => (sd.new a ha).elim id fun ⟨_, h⟩ => by cases h
  exact ⟨fun a ha ⟨i, hi⟩ => (by
    obtain ⟨w, hw, _⟩ := ok.cell ⟨i, hi⟩
    rw [new a ha] at hw; cases hw), sd.b, fun a ha => .inl (new a ha)⟩
theorem call0 {F : FnT} {n : Nat} {s t : Sta} {vs : List V} {ds : List D} {r : Sl} {en2 : En} {Q : VK} {E : XK} (okt : EnOk K t) (st : Stp s t) (rp : RepL K t.B ds vs) (hl : ds.length = n) (hF : F (ds.map .va) = some (r, en2))
    (q : ∀ v u fr, u.σ = t.σ → u.en = t.en → EnOk K u → Stp s u → SlOk K u.B u.H (some v) r fr → Side s u fr → Q v u.H) : spM K n F vs t.H Q E := by
  refine ⟨by rw [rp.len, hl], argS t vs ds, rfl, rfl, argS_ok okt rp, va_arg ds, r, en2, hF, fun v u fr uσ ue oku stu sl sd => ?_⟩
  obtain ⟨k1, k2⟩ := back0 okt oku stu
  exact q v ⟨u.B, u.H, t.σ, t.en, t.fp⟩ fr rfl rfl k1 (st.trans k2) sl (st.sideL (back0_side okt sd))
end
def xCall (n : Nat) (F : FnT) (fa : En → Option (List D × En)) : En → Option (Sl × En) := fun e => (fa e).bind fun p => if p.1.length = n then (F (p.1.map .va)).bind fun r => some (r.1, p.2) else none
section
variable {X : Cx} {e : Expr} {n : Nat} {F : FnT} {f : En → Option (D × En)} {fa : En → Option (List D × En)} {E : XK} {C : Addr} {m c : Str}
theorem xe_fn (h : PE X e (tCall (spM X.K n F) [] E (rdA X.K fa))) : PE X e (rdE X.K (xCall n F fa)) := PEi h fun σ H Q ⟨s, e1, e2, ok, r, en', hf, q⟩ => by
  obtain ⟨⟨ds, en1⟩, k1, k2⟩ := Option.bind_eq_some_iff.mp hf
  replace k2 : (if ds.length = n then (F (ds.map .va)).bind fun r => some (r.1, en1) else none) = some (r, en') := k2
  split at k2
  · rename_i hl
    obtain ⟨⟨r1, en2⟩, k3, k4⟩ := Option.bind_eq_some_iff.mp k2
    cases k4
    refine ⟨s, e1, e2, ok, ds, _, k1, fun vs t tσ te okt st rp => ?_⟩
    show spM X.K n F (vs ++ []) t.H Q E
    rw [List.append_nil]
    exact call0 okt st rp hl k3 fun v u fr uσ ue oku stu sl sd => q v u fr (uσ.trans tσ) (ue.trans te) oku stu sl sd
  · cases k2
def xMt (c m : Str) (n : Nat) (F : FnT) (f : En → Option (D × En)) (fa : En → Option (List D × En)) : En → Option (Sl × En) := fun e => (f e).bind fun p => match p.1 with
  | .obj c' ns ds => if c' = c ∧ m ∉ ns then (fa p.2).bind fun q => if q.1.length + 1 = n then (F (.va (.obj c' ns ds) :: q.1.map .va)).bind fun r => some (r.1, q.2) else none else none
  | _ => none
theorem lookup_none {m : Str} : ∀ {kvs : List (Str × V)}, m ∉ kvs.map (·.1) → kvs.lookup m = none
  | [], _ => rfl
  | (k, v) :: r, h => by
    have h1 : ¬ m = k := fun z => h (by simp [z])
    have h2 : m ∉ r.map (·.1) := fun z => h (by simp at z ⊢; exact .inr z)
    show (match m == k with | true => some v | false => r.lookup m) = none
    rw [show (m == k) = false by simpa using h1]
    exact lookup_none h2
theorem xe_mt (h : PE X e (tMeth (He.ga X.K c) m (spM X.K n F) [] E (rdV X.K f) (rdA X.K fa))) : PE X e (rdE X.K (xMt c m n F f fa)) := PEi h fun σ H Q ⟨s, e1, e2, ok, r, en', hf, q⟩ => by
  obtain ⟨⟨d, en1⟩, k1, k2⟩ := Option.bind_eq_some_iff.mp hf
  cases d with
  | obj c' ns ds =>
    replace k2 : (if c' = c ∧ m ∉ ns then (fa en1).bind fun q => if q.1.length + 1 = n then (F (.va (.obj c' ns ds) :: q.1.map .va)).bind fun r => some (r.1, q.2) else none else none) = some (r, en') := k2
    split at k2
    · rename_i hc
      obtain ⟨rfl, hm⟩ := hc
      obtain ⟨⟨es, en2⟩, k3, k4⟩ := Option.bind_eq_some_iff.mp k2
      replace k4 : (if es.length + 1 = n then (F (.va (.obj c' ns ds) :: es.map .va)).bind fun r => some (r.1, en2) else none) = some (r, en') := k4
      split at k4
      · rename_i hl
        obtain ⟨⟨r1, en3⟩, k5, k6⟩ := Option.bind_eq_some_iff.mp k4
        cases k6
        refine ⟨s, e1, e2, ok, _, en1, k1, fun v t tσ te okt st rp => ?_⟩
        obtain ⟨a, dx, kvs, rfl, hb, hk, rl⟩ := id rp
        refine ⟨a, dx, kvs, rfl, okt.ex _ _ hb, lookup_none (by rw [hk]; exact hm), t, tσ, rfl, okt, es, _, by rw [te]; exact k3, fun vs u uσ ue oku st2 rps => ?_⟩
        show spM X.K n F (_ :: (vs ++ [])) u.H Q E
        rw [List.append_nil]
        exact call0 (ds := .obj c' ns ds :: es) oku (st.trans st2) ⟨_, vs, rfl, rp.mono st2.bb, rps⟩ (by simpa using hl) k5 fun v w fr wσ we okw stw sl sd => q v w fr (wσ.trans uσ) (we.trans ue) okw stw sl sd
      · cases k4
    · cases k2
  | _ => cases k2
theorem xe_mt0 (h : PE X e (tMeth (He.ga X.K c) m (spM X.K n F) [] E (rdV X.K f) tNil)) : PE X e (rdE X.K (xMt c m n F f xNil)) := by
  refine xe_mt (E := E) (PEi h fun σ H Q hh => ?_)
  obtain ⟨s, e1, e2, ok, d, en', hf, q⟩ := hh
  refine ⟨s, e1, e2, ok, d, en', hf, fun v t tσ te okt st rp => ?_⟩
  obtain ⟨a, dx, fs, h1, h2, h3, z, z1, z2, zok, ds, en2, hz, qz⟩ := q v t tσ te okt st rp
  cases hz
  exact ⟨a, dx, fs, h1, h2, h3, by
    have := qz [] z z1 rfl zok (Stp.refl z) rfl
    rw [z2] at this
    exact this⟩
def xPrp (c : Str) (F : FnT) (f : En → Option (D × En)) : En → Option (Sl × En) := fun e => (f e).bind fun p => match p.1 with
  | .obj c' ns ds => if c' = c then (F [.va (.obj c' ns ds)]).bind fun r => some (r.1, p.2) else none
  | _ => none
end
def fldD (ns : List Str) (ds : List D) (f : Str) : Option D := (ns.zip ds).lookup f
theorem fld_rep {K : PySem.W.Frag} {B : Hp} {f : Str} {d : D} : ∀ {ds : List D} {kvs : List (Str × V)}, RepL K B ds (kvs.map (·.2)) → fldD (kvs.map (·.1)) ds f = some d → ∃ v, kvs.lookup f = some v ∧ Rep K B d v
  | _, [], _, h => by simp [fldD] at h
  | [], _ :: _, _, h => by simp [fldD] at h
  | d1 :: ds, (k, v) :: kvs, ⟨v1, r1, e1, a, b⟩, h => by
    cases e1
    have h : (match f == k with | true => some d1 | false => ((kvs.map (·.1)).zip ds).lookup f) = some d := h
    show ∃ v', (match f == k with | true => some v | false => kvs.lookup f) = some v' ∧ Rep K B d v'
    cases hk : f == k with
    | true =>
      rw [hk] at h
      cases h
      exact ⟨v, rfl, a⟩
    | false =>
      rw [hk] at h
      exact fld_rep b h
def xFld (c f : Str) (g : En → Option (D × En)) : En → Option (D × En) := fun e => (g e).bind fun p => match p.1 with
  | .obj c' ns ds => if c' = c then (fldD ns ds f).bind fun d => some (d, p.2) else none
  | _ => none
section
variable {X : Cx} {e : Expr} {g : En → Option (D × En)} {c f : Str}
end
def D.leaf : D → Bool
  | .lst ds => D.flatL ds
  | .dct _ ds => D.flatL ds
  | .dcT _ ds => D.flatL ds
  | d => d.flat
def O1.leaf : O1 → Bool
  | .lst ds => D.flatL ds
  | .dct _ ds => D.flatL ds
  | .dcT _ ds => D.flatL ds
def Fv.leaf : Fv → Bool
  | .va d => d.flat
  | .ow o => o.leaf
def O2.leaf : O2 → Bool
  | .o1 o => o.leaf
  | .obj _ _ vs => vs.all Fv.leaf
  | .dp vs => vs.all Fv.leaf
def Sl.leaf : Sl → Bool
  | .va d => d.flat
  | .ow o => o.leaf
  | _ => false
section
variable {K : PySem.W.Frag} {B B' H : Hp} (e : ∀ a o, B a = some o → ¬ Mk1 o → B' a = some o)
include e
theorem OwnL.leaf {o : O1} {l : Addr} (hl : o.leaf = true) (h : OwnL K B H o l) : OwnL K B' H o l := by
  cases o with
  | lst ds => obtain ⟨vs, h, r⟩ := h; exact ⟨vs, h, r.flat e hl⟩
  | dct ks ds => obtain ⟨vs, h, q, r⟩ := h; exact ⟨vs, h, q, r.flat e hl⟩
  | dcT ks ds => obtain ⟨vs, h, q, r⟩ := h; exact ⟨vs, h, q, r.flat e hl⟩
theorem FvOk.leaf {f : Fv} {v : V} {fp : List Addr} (hl : f.leaf = true) (h : FvOk K B H f v fp) : FvOk K B' H f v fp := by
  cases f with
  | va d => exact ⟨h.1.flat e hl, h.2⟩
  | ow o => obtain ⟨l, h1, h2, h⟩ := h; exact ⟨l, h1, h2, h.leaf e hl⟩
theorem FvL.leaf : ∀ {fs : List Fv} {vs : List V} {fp : List Addr}, fs.all Fv.leaf = true → FvL K B H fs vs fp → FvL K B' H fs vs fp
  | [], _, _, _, h => h
  | f :: fs, _, _, hl, ⟨v, r, p, q, hv, ef, h1, h2, dj⟩ => by
    obtain ⟨l1, l2⟩ : f.leaf = true ∧ fs.all Fv.leaf = true := by simpa using hl
    exact ⟨v, r, p, q, hv, ef, h1.leaf e l1, FvL.leaf l2 h2, dj⟩
theorem Own.leaf {o : O2} {v : V} {fp : List Addr} (hl : o.leaf = true) (h : Own K B H o v fp) : Own K B' H o v fp := by
  cases o with
  | o1 o => obtain ⟨l, h1, h2, h⟩ := h; exact ⟨l, h1, h2, h.leaf e hl⟩
  | obj c ns fs => obtain ⟨x, dx, kvs, q, h1, hx, hn, h, ef, nx⟩ := h; exact ⟨x, dx, kvs, q, h1, hx, hn, h.leaf e hl, ef, nx⟩
  | dp fs => obtain ⟨x, vs, q, h1, hx, h, ef, nx⟩ := h; exact ⟨x, vs, q, h1, hx, h.leaf e hl, ef, nx⟩
theorem SlOk.leaf {ov : Option V} {s : Sl} {fp : List Addr} (hl : s.leaf = true) (h : SlOk K B H ov s fp) : SlOk K B' H ov s fp := by
  cases s with
  | no => cases hl
  | pw o => cases hl
  | va d => obtain ⟨h1, v, h2, h3⟩ := h; exact ⟨h1, v, h2, h3.flat e hl⟩
  | ow o => obtain ⟨v, h1, h⟩ := h; exact ⟨v, h1, h.leaf e hl⟩
end
def Sl.view : Sl → Sl
  | .ow o => .va o.fz
  | .pw o => .va o.fz
  | x => x
def Sl.own : Sl → Bool
  | .ow _ => true
  | .pw _ => true
  | _ => false
def viewE (e : En) : En := e.map Sl.view
def xBor (f : En → Option (Sl × En)) : En → Option (Sl × En) := fun e => (f (viewE e)).bind fun p => if (!(e.any Sl.own) || p.1.leaf) = true then some (p.1, e) else none
def xBorV (f : En → Option (D × En)) : En → Option (D × En) := fun e => (f (viewE e)).bind fun p => if (!(e.any Sl.own) || p.1.flat) = true then some (p.1, e) else none
def xBorT (f : En → Option (Bool × En)) : En → Option (Bool × En) := fun e => (f (viewE e)).bind fun p => some (p.1, e)
open Classical in
noncomputable def allB (s : Sta) : Hp := fun a => if inF s.fp a then s.H a else s.B a
section
variable {K : PySem.W.Frag} {s : Sta}
theorem allB_in {a : Addr} (h : inF s.fp a) : allB s a = s.H a := by unfold allB; rw [if_pos h]
theorem allB_no {a : Addr} (h : ¬ inF s.fp a) : allB s a = s.B a := by unfold allB; rw [if_neg h]
theorem allB_ex (ok : EnOk K s) : Ex s.B (allB s) := fun a o e => by rw [allB_no (ok.noB e)]; exact e
theorem allB_le (ok : EnOk K s) : Ex (allB s) s.H := fun a o e => by
  by_cases h : inF s.fp a
  · rw [allB_in h] at e; exact e
  · rw [allB_no h] at e; exact ok.ex a o e
noncomputable def viewS (s : Sta) : Sta := ⟨allB s, s.H, s.σ, viewE s.en, fun _ => []⟩
theorem viewS_ok (ok : EnOk K s) : EnOk K (viewS s) where
  ex := allB_le ok
  tb := ok.tb
  nt := fun a o e => by
    have e : allB s a = some o := e
    by_cases h : inF s.fp a
    · rw [allB_in h] at e
      obtain ⟨w, hw, mw⟩ := ok.cell h
      rw [hw] at e; cases e; exact .of mw
    · rw [allB_no h] at e; exact ok.nt a o e
  len := by show (viewE s.en).length = _; rw [viewE, List.length_map]; exact ok.len
  sl := fun i x e => by
    have e : (viewE s.en)[i]? = some x := e
    rw [viewE, List.getElem?_map] at e
    obtain ⟨y, hy, rfl⟩ := Option.map_eq_some_iff.mp e
    obtain ⟨ov, e1, q⟩ := ok.sl i y hy
    refine ⟨ov, e1, ?_⟩
    cases y with
    | no => rfl
    | va d => obtain ⟨_, v, h1, h2⟩ := q; exact ⟨rfl, v, h1, h2.mono (allB_ex ok)⟩
    | ow o => obtain ⟨v, h1, h2⟩ := q; exact ⟨rfl, v, h1, h2.fz (allB_ex ok) fun a ha => allB_in ⟨i, ha⟩⟩
    | pw o => obtain ⟨v, h1, h2⟩ := q; exact ⟨rfl, v, h1, h2.fz (allB_ex ok) fun a ha => allB_in ⟨i, ha⟩⟩
  out := fun _ _ => rfl
  dj := fun _ _ _ h => by cases h
  off := fun _ _ h => by cases h
open Classical in
noncomputable def unB (s t : Sta) : Hp := fun a => if inF s.fp a then none else t.B a
noncomputable def unS (s t : Sta) : Sta := ⟨unB s t, t.H, s.σ, s.en, s.fp⟩
theorem unB_no {t : Sta} {a : Addr} (h : ¬ inF s.fp a) : unB s t a = t.B a := by unfold unB; rw [if_neg h]
theorem unB_in {t : Sta} {a : Addr} (h : inF s.fp a) : unB s t a = none := by unfold unB; rw [if_pos h]
theorem unS_ok {t : Sta} (ok : EnOk K s) (okt : EnOk K t) (st : Stp (viewS s) t) : EnOk K (unS s t) ∧ Stp s (unS s t) := by
  have nf : ∀ a, ¬ inF (viewS s).fp a := fun a ⟨_, h⟩ => by cases h
  have hh : ∀ a o, s.H a = some o → NTbl o → t.H a = some o := fun a o h n => st.hh a o h (nf a) n
  have eb : Ex s.B (unB s t) := fun a o e => by
    rw [unB_no (ok.noB e)]
    exact st.bb a o (allB_ex ok a o e)
  refine ⟨⟨fun a o e => ?_, ok.len, fun i x e => ?_, ok.out, ok.dj, fun i a ha => unB_in ⟨i, ha⟩, fun a o e => ?_, okt.tb⟩, ⟨eb, fun a o e => ?_, fun a o h _ n => hh a o h n, fun a h => st.dm a h, fun _ h => .inl h, fun _ o h => ⟨rfl, o, h⟩, rfl⟩⟩
  · have e : unB s t a = some o := e
    by_cases h : inF s.fp a
    · rw [unB_in h] at e; cases e
    · rw [unB_no h] at e; exact okt.ex a o e
  · obtain ⟨ov, e1, q⟩ := ok.sl i x e
    exact ⟨ov, e1, q.mono eb fun a ha => by
      obtain ⟨w, hw, mw⟩ := q.cell a ha
      rw [hw]; exact hh a w hw (.of mw)⟩
  · have e : unB s t a = some o := e
    by_cases h : inF s.fp a
    · rw [unB_in h] at e; cases e
    · rw [unB_no h] at e; exact okt.nt a o e
  · have e : unB s t a = some o := e
    by_cases h : inF s.fp a
    · exact .inr (.inr h)
    · rw [unB_no h] at e
      rcases st.bn a o e with z | z | z
      · have z : allB s a = some o := z
        rw [allB_no h] at z; exact .inl z
      · exact .inr (.inl z)
      · exact (nf a z).elim
theorem unB_tup {t : Sta} (ok : EnOk K s) (okt : EnOk K t) (st : Stp (viewS s) t) : ∀ a o, t.B a = some o → ¬ Mk1 o → unB s t a = some o := fun a o e nm => by
  have nf : ∀ a, ¬ inF (viewS s).fp a := fun a ⟨_, h⟩ => by cases h
  by_cases hf : inF s.fp a
  · obtain ⟨w, hw, mk⟩ := ok.cell hf
    have h2 := okt.ex a o e
    rw [st.hh a w hw (nf a) (.of mk)] at h2
    cases h2
    exact (nm mk).elim
  · rw [unB_no hf]; exact e
theorem un_side {t : Sta} {fr : List Addr} (ok : EnOk K s) (sd : Side (viewS s) t fr) : Side s (unS s t) fr := by
  have new : ∀ a ∈ fr, s.H a = none := fun a ha => (sd.new a ha).elim id fun ⟨_, h⟩ => by cases h
  have no : ∀ a ∈ fr, ¬ inF s.fp a := fun a ha z => by
    obtain ⟨w, hw, _⟩ := ok.cell z
    rw [new a ha] at hw; cases hw
  exact ⟨no, fun a ha => by show unB s t a = none; rw [unB_no (no a ha)]; exact sd.b a ha, fun a ha => .inl (new a ha)⟩
theorem unB_all {t : Sta} (ok : EnOk K s) (h : s.en.any Sl.own = false) : unB s t = t.B := by
  funext a
  refine unB_no fun ⟨i, hi⟩ => ?_
  cases e : s.en[i]? with
  | none => rw [ok.out i e] at hi; cases hi
  | some x =>
    obtain ⟨ov, _, q⟩ := ok.sl i x e
    have hx : x.own = false := by
      cases hx : x.own with
      | false => rfl
      | true =>
        have : s.en.any Sl.own = true := List.any_eq_true.mpr ⟨x, List.mem_of_getElem? e, hx⟩
        rw [h] at this; cases this
    cases x with
    | no => rw [show s.fp i = [] from q] at hi; cases hi
    | va d => rw [q.1] at hi; cases hi
    | ow o => cases hx
    | pw o => cases hx
end
section
variable {X : Cx} {e : Expr} {f : En → Option (Sl × En)} {g : En → Option (D × En)} {c : En → Option (Bool × En)}
theorem xe_bor (h : PE X e (rdE X.K f)) : PE X e (rdE X.K (xBor f)) := PEi h fun σ H Q ⟨s, e1, e2, ok, r, en', hf, q⟩ => by
  obtain ⟨⟨r1, en1⟩, k1, k2⟩ := Option.bind_eq_some_iff.mp hf
  replace k2 : (if (!(s.en.any Sl.own) || r1.leaf) = true then some (r1, s.en) else none) = some (r, en') := k2
  split at k2
  · rename_i hl
    cases k2
    refine ⟨viewS s, e1, e2, viewS_ok ok, r, en1, k1, fun v t fr tσ te okt st sl sd => ?_⟩
    obtain ⟨k3, k4⟩ := unS_ok ok okt st
    refine q v (unS s t) fr e1 rfl k3 k4 ?_ (un_side ok sd)
    cases ho : s.en.any Sl.own with
    | false =>
      show SlOk X.K (unB s t) t.H (some v) r fr
      rw [unB_all ok ho]; exact sl
    | true =>
      rw [ho] at hl
      exact sl.leaf (unB_tup ok okt st) (by simpa using hl)
  · cases k2
theorem xe_borV (h : PE X e (rdV X.K g)) : PE X e (rdV X.K (xBorV g)) := PEi h fun σ H Q ⟨s, e1, e2, ok, d, en', hf, q⟩ => by
  obtain ⟨⟨r1, en1⟩, k1, k2⟩ := Option.bind_eq_some_iff.mp hf
  replace k2 : (if (!(s.en.any Sl.own) || r1.flat) = true then some (r1, s.en) else none) = some (d, en') := k2
  split at k2
  · rename_i hl
    cases k2
    refine ⟨viewS s, e1, e2, viewS_ok ok, d, en1, k1, fun v t tσ te okt st rp => ?_⟩
    obtain ⟨k3, k4⟩ := unS_ok ok okt st
    refine q v (unS s t) e1 rfl k3 k4 ?_
    cases ho : s.en.any Sl.own with
    | false =>
      show Rep X.K (unB s t) d v
      rw [unB_all ok ho]; exact rp
    | true =>
      rw [ho] at hl
      exact rp.flat (unB_tup ok okt st) (by simpa using hl)
  · cases k2
theorem xt_bor (h : PT X e (rdT X.K c)) : PT X e (rdT X.K (xBorT c)) := PTi h fun σ H Q ⟨s, e1, e2, ok, b, en', hf, q⟩ => by
  obtain ⟨⟨b1, en1⟩, k1, k2⟩ := Option.bind_eq_some_iff.mp hf
  cases k2
  refine ⟨viewS s, e1, e2, viewS_ok ok, b1, en1, k1, fun t tσ te okt st => ?_⟩
  obtain ⟨k3, k4⟩ := unS_ok ok okt st
  exact q (unS s t) e1 rfl k3 k4
end
section
variable {K : PySem.W.Frag}
def argM (t : Sta) (i : Nat) (v0 : V) (o : O2) (vs : List V) (ds : List D) : Sta := ⟨t.B, t.H, some v0 :: vs.map some, .pw o :: ds.map .va, fun j => if j = 0 then t.fp i else []⟩
theorem argM_ok {t : Sta} {i : Nat} {v0 : V} {o : O2} {vs : List V} {ds : List D} (ok : EnOk K t) (ho : Own K t.B t.H o v0 (t.fp i)) (rp : RepL K t.B ds vs) : EnOk K (argM t i v0 o vs ds) where
  ex := ok.ex
  nt := ok.nt
  tb := ok.tb
  len := by simp [argM, rp.len]
  sl := fun j x e => by
    cases j with
    | zero =>
      cases Option.some.inj (show some (Sl.pw o) = some x from e)
      exact ⟨some v0, rfl, v0, rfl, by show Own K t.B t.H o v0 (if (0 : Nat) = 0 then t.fp i else []); rw [if_pos rfl]; exact ho⟩
    | succ j =>
      have e : (ds.map Sl.va)[j]? = some x := by simpa [argM] using e
      rw [List.getElem?_map] at e
      obtain ⟨d, hd, rfl⟩ := Option.map_eq_some_iff.mp e
      obtain ⟨v, hv, r⟩ := rp.at hd
      exact ⟨some v, by simp [argM, hv], rfl, v, rfl, r⟩
  out := fun j e => by
    cases j with
    | zero => cases e
    | succ j => rfl
  dj := fun j k a hj hk => by
    cases j with
    | zero => cases k with
      | zero => rfl
      | succ k => cases hk
    | succ j => cases hj
  off := fun j a hj => by
    cases j with
    | zero => exact ok.off i a hj
    | succ j => cases hj
theorem argM_in {t : Sta} {i : Nat} {v0 : V} {o : O2} {vs : List V} {ds : List D} {a : Addr} : inF (argM t i v0 o vs ds).fp a ↔ a ∈ t.fp i := by
  refine ⟨fun ⟨j, h⟩ => ?_, fun h => ⟨0, h⟩⟩
  cases j with
  | zero => exact h
  | succ j => cases h
def reSl : Sl → O2 → Sl
  | .pw _, o => .pw o
  | _, o => .ow o
theorem backM {t u : Sta} {i : Nat} {v0 : V} {o o' : O2} {x : Sl} {vs : List V} {ds : List D} (ok : EnOk K t) (ex : t.en[i]? = some x) (hx : x = .ow o ∨ x = .pw o) (ev : t.σ[i]? = some (some v0)) (oku : EnOk K u) (uσ : u.σ = some v0 :: vs.map some) (ue : ∃ r, u.en = .pw o' :: r) (st : Stp (argM t i v0 o vs ds) u) :
    EnOk K ⟨u.B, u.H, t.σ, t.en.set i (reSl x o'), fun j => if j = i then u.fp 0 else t.fp j⟩ ∧ Stp t ⟨u.B, u.H, t.σ, t.en.set i (reSl x o'), fun j => if j = i then u.fp 0 else t.fp j⟩ := by
  obtain ⟨r, ue⟩ := ue
  have hi : i < t.en.length := (List.getElem?_eq_some_iff.mp ex).1
  have hO : Own K u.B u.H o' v0 (u.fp 0) := by
    obtain ⟨ov, e1, q⟩ := oku.sl 0 (.pw o') (by rw [ue]; rfl)
    rw [uσ] at e1
    cases Option.some.inj (show some (some v0) = some ov from e1)
    obtain ⟨v, hv, q⟩ := q
    cases hv
    exact q
  have keep : ∀ j, j ≠ i → ∀ a ∈ t.fp j, u.H a = t.H a ∧ u.B a = none ∧ a ∉ u.fp 0 := fun j hj a ha => by
    have na : a ∉ t.fp i := fun z => hj (ok.dj j i a ha z)
    obtain ⟨w, hw, mw⟩ := ok.cell ⟨j, ha⟩
    refine ⟨by rw [hw]; exact st.hh a w hw (fun z => na (argM_in.mp z)) (.of mw), ?_, fun z => ?_⟩
    · cases e : u.B a with
      | none => rfl
      | some b =>
        rcases st.bn a b e with z | z | z
        · have z : t.B a = some b := z
          rw [ok.off j a ha] at z; cases z
        · have z : t.H a = none := z
          rw [hw] at z; cases z
        · exact (na (argM_in.mp z)).elim
    · rcases st.ff a ⟨0, z⟩ with z | z
      · exact na (argM_in.mp z)
      · have z : t.H a = none := z
        rw [hw] at z; cases z
  refine ⟨⟨oku.ex, by show (t.en.set i _).length = _; rw [List.length_set]; exact ok.len, fun j y e => ?_, fun j e => ?_, fun j k a hj hk => ?_, fun j a hj => ?_, oku.nt, oku.tb⟩, ⟨st.bb, fun a b e => ?_, fun a b h n m => st.hh a b h (fun z => n ⟨i, argM_in.mp z⟩) m, st.dm, fun a ⟨j, hj⟩ => ?_, fun j p e => ?_, List.length_set ..⟩⟩
  · have e : (t.en.set i (reSl x o'))[j]? = some y := e
    show ∃ ov, t.σ[j]? = some ov ∧ SlOk K u.B u.H ov y (if j = i then u.fp 0 else t.fp j)
    by_cases hj : j = i
    · subst hj
      rw [List.getElem?_set_self hi] at e
      cases e
      rw [if_pos rfl]
      refine ⟨_, ev, ?_⟩
      rcases hx with rfl | rfl
      · exact ⟨v0, rfl, hO⟩
      · exact ⟨v0, rfl, hO⟩
    · rw [List.getElem?_set_ne (Ne.symm hj)] at e
      rw [if_neg hj]
      obtain ⟨ov, e1, q⟩ := ok.sl j y e
      exact ⟨ov, e1, q.mono st.bb fun a ha => (keep j hj a ha).1⟩
  · have e : (t.en.set i (reSl x o'))[j]? = none := e
    show (if j = i then u.fp 0 else t.fp j) = []
    have hj : j ≠ i := by rintro rfl; rw [List.getElem?_set_self hi] at e; cases e
    rw [List.getElem?_set_ne (Ne.symm hj)] at e
    rw [if_neg hj]; exact ok.out j e
  · have hj : a ∈ (if j = i then u.fp 0 else t.fp j) := hj
    have hk : a ∈ (if k = i then u.fp 0 else t.fp k) := hk
    by_cases ej : j = i
    · by_cases ek : k = i
      · exact ej.trans ek.symm
      · rw [if_pos ej] at hj; rw [if_neg ek] at hk
        exact ((keep k ek a hk).2.2 hj).elim
    · rw [if_neg ej] at hj
      by_cases ek : k = i
      · rw [if_pos ek] at hk
        exact ((keep j ej a hj).2.2 hk).elim
      · rw [if_neg ek] at hk; exact ok.dj j k a hj hk
  · have hj : a ∈ (if j = i then u.fp 0 else t.fp j) := hj
    by_cases ej : j = i
    · rw [if_pos ej] at hj; exact oku.off 0 a hj
    · rw [if_neg ej] at hj; exact (keep j ej a hj).2.1
  · rcases st.bn a b e with z | z | z
    · exact .inl z
    · exact .inr (.inl z)
    · exact .inr (.inr ⟨i, argM_in.mp z⟩)
  · have hj : a ∈ (if j = i then u.fp 0 else t.fp j) := hj
    by_cases ej : j = i
    · rw [if_pos ej] at hj
      rcases st.ff a ⟨0, hj⟩ with z | z
      · exact .inl ⟨i, argM_in.mp z⟩
      · exact .inr z
    · rw [if_neg ej] at hj; exact .inl ⟨j, hj⟩
  · refine ⟨rfl, ?_⟩
    show ∃ o'', (t.en.set i (reSl x o'))[j]? = some (.pw o'')
    by_cases hj : j = i
    · subst hj
      rw [ex] at e
      cases e
      exact ⟨o', by rw [List.getElem?_set_self hi]; rfl⟩
    · exact ⟨p, by rw [List.getElem?_set_ne (Ne.symm hj)]; exact e⟩
theorem backM_side {t u : Sta} {i : Nat} {v0 : V} {o : O2} {e' : En} {vs : List V} {ds : List D} {fr : List Addr} (ok : EnOk K t) (sd : Side (argM t i v0 o vs ds) u fr) : Side t ⟨u.B, u.H, t.σ, e', fun j => if j = i then u.fp 0 else t.fp j⟩ fr := by
  refine ⟨fun a ha ⟨j, hj⟩ => ?_, sd.b, fun a ha => (sd.new a ha).elim .inl fun z => .inr ⟨i, argM_in.mp z⟩⟩
  have hj : a ∈ (if j = i then u.fp 0 else t.fp j) := hj
  by_cases ej : j = i
  · rw [if_pos ej] at hj; exact sd.no a ha ⟨0, hj⟩
  · rw [if_neg ej] at hj
    rcases sd.new a ha with z | z
    · have z : t.H a = none := z
      obtain ⟨w, hw, _⟩ := ok.cell ⟨j, hj⟩
      rw [hw] at z; cases z
    · exact ej (ok.dj j i a hj (argM_in.mp z))
theorem callM {F : FnT} {n i : Nat} {s t : Sta} {v0 : V} {o o' : O2} {x r : Sl} {vs : List V} {ds : List D} {en2 : En} {Q : VK} {E : XK} (okt : EnOk K t) (st : Stp s t) (ex : t.en[i]? = some x) (hx : x = .ow o ∨ x = .pw o) (ev : t.σ[i]? = some (some v0)) (rp : RepL K t.B ds vs) (hl : ds.length + 1 = n)
    (hF : F (.pw o :: ds.map .va) = some (r, .pw o' :: en2))
    (q : ∀ v u fr, u.σ = t.σ → u.en = t.en.set i (reSl x o') → EnOk K u → Stp s u → SlOk K u.B u.H (some v) r fr → Side s u fr → Q v u.H) : spM K n F (v0 :: vs) t.H Q E := by
  have ho : Own K t.B t.H o v0 (t.fp i) := by
    obtain ⟨ov, e1, k⟩ := okt.sl i x ex
    rw [ev] at e1
    cases e1
    rcases hx with rfl | rfl
    · obtain ⟨v, hv, k⟩ := k; cases hv; exact k
    · obtain ⟨v, hv, k⟩ := k; cases hv; exact k
  refine ⟨by rw [List.length_cons, rp.len, hl], argM t i v0 o vs ds, rfl, rfl, argM_ok okt ho rp, ?_, r, _, hF, fun v u fr uσ ue oku stu sl sd => ?_⟩
  · show (Sl.pw o :: ds.map Sl.va).all isArg = true
    rw [List.all_cons, va_arg]; rfl
  obtain ⟨k1, k2⟩ := backM okt ex hx ev oku uσ ⟨_, ue⟩ stu
  exact q v ⟨u.B, u.H, t.σ, t.en.set i (reSl x o'), fun j => if j = i then u.fp 0 else t.fp j⟩ fr rfl rfl k1 (st.trans k2) sl (st.sideL (backM_side okt sd))
end
def ownAt (e : En) (i : Nat) : Option O2 := match e[i]? with
  | some (.ow o) => some o
  | some (.pw o) => some o
  | _ => none
def reAt (e : En) (i : Nat) (o : O2) : En := match e[i]? with
  | some (.pw _) => e.set i (.pw o)
  | _ => e.set i (.ow o)
theorem ownAt_of {e : En} {i : Nat} {o : O2} (h : ownAt e i = some o) : ∃ x, e[i]? = some x ∧ (x = .ow o ∨ x = .pw o) ∧ ∀ o', reAt e i o' = e.set i (reSl x o') := by
  unfold ownAt at h
  cases q : e[i]? with
  | none => rw [q] at h; cases h
  | some x =>
    rw [q] at h
    cases x with
    | ow y => cases h; exact ⟨_, rfl, .inl rfl, fun o' => by unfold reAt; rw [q]; rfl⟩
    | pw y => cases h; exact ⟨_, rfl, .inr rfl, fun o' => by unfold reAt; rw [q]; rfl⟩
    | _ => cases h
def xCallM (n i : Nat) (F : FnT) (fa : En → Option (List D × En)) : En → Option (Sl × En) := fun e => (ownAt e i).bind fun _ => (fa e).bind fun p => if p.1.length + 1 = n then (ownAt p.2 i).bind fun o => (F (.pw o :: p.1.map .va)).bind fun r => (match r.2 with
  | .pw o' :: _ => some (r.1, reAt p.2 i o')
  | _ => none) else none
theorem own_val {K : PySem.W.Frag} {s : Sta} {i : Nat} {o : O2} (ok : EnOk K s) (h : ownAt s.en i = some o) : ∃ v, s.σ[i]? = some (some v) ∧ Own K s.B s.H o v (s.fp i) := by
  obtain ⟨x, ex, hx, _⟩ := ownAt_of h
  obtain ⟨ov, e1, q⟩ := ok.sl i x ex
  rcases hx with rfl | rfl
  · obtain ⟨v, rfl, q⟩ := q; exact ⟨v, e1, q⟩
  · obtain ⟨v, rfl, q⟩ := q; exact ⟨v, e1, q⟩
section
variable {X : Cx} {e : Expr} {n i : Nat} {F : FnT} {fa : En → Option (List D × En)} {E : XK} {m c : Str}
theorem xe_fnM (h : PE X e (tCall (spM X.K n F) [] E (tCons (tVar i) (rdA X.K fa)))) : PE X e (rdE X.K (xCallM n i F fa)) := PEi h fun σ H Q ⟨s, e1, e2, ok, r, en', hf, q⟩ => by
  obtain ⟨o0, k0, hf⟩ := Option.bind_eq_some_iff.mp hf
  obtain ⟨⟨ds, en1⟩, k1, k2⟩ := Option.bind_eq_some_iff.mp hf
  replace k2 : (if ds.length + 1 = n then (ownAt en1 i).bind fun o => (F (.pw o :: ds.map .va)).bind fun r => (match r.2 with
    | .pw o' :: _ => some (r.1, reAt en1 i o')
    | _ => none) else none) = some (r, en') := k2
  split at k2
  · rename_i hl
    obtain ⟨o, k3, k4⟩ := Option.bind_eq_some_iff.mp k2
    obtain ⟨⟨r1, en2⟩, k5, k6⟩ := Option.bind_eq_some_iff.mp k4
    match en2, k6, k5 with
    | .pw o' :: en3, k6, k5 =>
      cases k6
      obtain ⟨v0, ev0, _⟩ := own_val ok k0
      refine ⟨v0, by rw [← e1]; exact ev0, s, e1, e2, ok, ds, en1, k1, fun vs t tσ te okt st rp => ?_⟩
      obtain ⟨x, ex, hx, hre⟩ := ownAt_of k3
      show spM X.K n F (v0 :: vs ++ []) t.H Q E
      rw [List.append_nil]
      refine callM okt st (by rw [te]; exact ex) hx (by rw [tσ, ← e1]; exact ev0) rp hl k5 fun v u fr uσ ue oku stu sl sd => ?_
      exact q v u fr (uσ.trans tσ) (by rw [ue, te, hre]) oku stu sl sd
  · cases k2
def xMtM (c m : Str) (n i : Nat) (F : FnT) (fa : En → Option (List D × En)) : En → Option (Sl × En) := fun e => match ownAt e i with
  | some (.obj c' ns _) => if c' = c ∧ m ∉ ns then (fa e).bind fun p => if p.1.length + 1 = n then (ownAt p.2 i).bind fun o => (F (.pw o :: p.1.map .va)).bind fun r => (match r.2 with
    | .pw o' :: _ => some (r.1, reAt p.2 i o')
    | _ => none) else none else none
  | _ => none
end
def xMk (c : Str) (n : Nat) (F : FnT) (fa : En → Option (List D × En)) : En → Option (Sl × En) := fun e => (fa e).bind fun p => if p.1.length + 1 = n then (F (.pw (.obj c [] []) :: p.1.map .va)).bind fun r => (match r with
  | (.va .non, .pw o :: _) => some (.ow o, p.2)
  | _ => none) else none
section
variable {X : Cx} {e : Expr} {n i : Nat} {F : FnT} {fa : En → Option (List D × En)} {E : XK} {c : Str}
theorem xe_mk (h : PE X e (tMake (He.ga X.K c) (spM X.K n F) [] E (rdA X.K fa))) : PE X e (rdE X.K (xMk c n F fa)) := PEi h fun σ H Q ⟨s, e1, e2, ok, r, en', hf, q⟩ => by
  obtain ⟨⟨ds, en1⟩, k1, k2⟩ := Option.bind_eq_some_iff.mp hf
  replace k2 : (if ds.length + 1 = n then (F (.pw (.obj c [] []) :: ds.map .va)).bind fun r => (match r with
    | (.va .non, .pw o :: _) => some (.ow o, en1)
    | _ => none) else none) = some (r, en') := k2
  split at k2
  · rename_i hl
    obtain ⟨⟨r1, en2⟩, k5, k6⟩ := Option.bind_eq_some_iff.mp k2
    match r1, en2, k6, k5 with
    | .va .non, .pw o :: en3, k6, k5 =>
      cases k6
      refine ⟨s, e1, e2, ok, ds, _, k1, fun vs t tσ te okt st rp x dx hx hdx ne => ?_⟩
      show spM X.K n F (.ref x :: (vs ++ [])) _ _ E
      rw [List.append_nil]
      have hx2 : ∀ a b, t.H a = some b → upd (upd t.H dx (.own x)) x (.ins (He.ga X.K c) dx []) a = some b := fun a b ha => by
        rw [upd_ne (ne_of_none ha hx), upd_ne (ne_of_none ha hdx)]; exact ha
      have back : ∀ a, upd (upd t.H dx (.own x)) x (.ins (He.ga X.K c) dx []) a = none → t.H a = none := fun a ha => by
        cases q2 : t.H a with
        | none => rfl
        | some b => rw [hx2 a b q2] at ha; cases ha
      refine ⟨by rw [List.length_cons, rp.len, hl], ⟨t.B, upd (upd t.H dx (.own x)) x (.ins (He.ga X.K c) dx []), some (.ref x) :: vs.map some, .pw (.obj c [] []) :: ds.map .va, fun j => if j = 0 then [x] else []⟩, rfl, rfl, ?_, ?_, _, _, k5, fun v u fr uσ ue oku stu sl sd => ?_⟩
      · refine ⟨fun a b ha => hx2 a b (okt.ex a b ha), by simp [rp.len], fun j y ej => ?_, fun j ej => ?_, fun j k a hj hk => ?_, fun j a hj => ?_, okt.nt, okt.tb.keep fun a o e _ => hx2 a o e⟩
        · cases j with
          | zero =>
            cases Option.some.inj (show some (Sl.pw (.obj c [] [])) = some y from ej)
            exact ⟨some (.ref x), rfl, _, rfl, x, dx, [], [], rfl, upd_same, rfl, ⟨rfl, rfl⟩, rfl, by simp⟩
          | succ j =>
            have e : (ds.map Sl.va)[j]? = some y := by simpa using ej
            rw [List.getElem?_map] at e
            obtain ⟨d, hd, rfl⟩ := Option.map_eq_some_iff.mp e
            obtain ⟨v, hv, r⟩ := rp.at hd
            exact ⟨some v, by simp [hv], rfl, v, rfl, r⟩
        · cases j with
          | zero => cases ej
          | succ j => rfl
        · cases j with
          | zero => cases k with
            | zero => rfl
            | succ k => cases hk
          | succ j => cases hj
        · cases j with
          | zero =>
            cases List.mem_singleton.mp (show a ∈ [x] from hj)
            exact fresh_back okt.ex hx
          | succ j => cases hj
      · show (Sl.pw (.obj c [] []) :: ds.map Sl.va).all isArg = true
        rw [List.all_cons, va_arg]; rfl
      · have inx : ∀ a, inF (fun j => if j = 0 then [x] else ([] : List Addr)) a → a = x := fun a ⟨j, hj⟩ => by
          cases j with
          | zero => exact List.mem_singleton.mp hj
          | succ j => cases hj
        obtain ⟨_, v', ev', rv⟩ := sl
        cases ev'
        cases (show v = .non from rv)
        refine ⟨rfl, ?_⟩
        have hO : Own X.K u.B u.H o (.ref x) (u.fp 0) := by
          obtain ⟨ov, e1, q⟩ := oku.sl 0 (.pw o) (by rw [ue]; rfl)
          rw [uσ] at e1
          cases Option.some.inj (show some (some (V.ref x)) = some ov from e1)
          obtain ⟨v, hv, q⟩ := q
          cases hv
          exact q
        have cellk : ∀ j a, a ∈ t.fp j → u.H a = t.H a ∧ u.B a = none := fun j a ha => by
          obtain ⟨w, hw, mw⟩ := okt.cell ⟨j, ha⟩
          have nx : a ≠ x := ne_of_none hw hx
          refine ⟨by rw [hw]; exact stu.hh a w (hx2 a w hw) (fun z => nx (inx a z)) (.of mw), ?_⟩
          cases eb : u.B a with
          | none => rfl
          | some b =>
            rcases stu.bn a b eb with z | z | z
            · have z : t.B a = some b := z
              rw [okt.off j a ha] at z; cases z
            · have z := back a z
              rw [hw] at z; cases z
            · exact (nx (inx a z)).elim
        refine q (.ref x) ⟨u.B, u.H, t.σ, t.en, t.fp⟩ (u.fp 0) tσ te ⟨oku.ex, okt.len, fun j y ej => ?_, okt.out, okt.dj, fun j a ha => (cellk j a ha).2, oku.nt, oku.tb⟩ (st.trans ⟨stu.bb, fun a b eb => ?_, fun a b ha _ n => stu.hh a b (hx2 a b ha) (fun z => ne_of_none ha hx (inx a z)) n, fun a ha => back a (stu.dm a ha), fun _ z => .inl z, fun _ o z => ⟨rfl, o, z⟩, rfl⟩) ⟨_, rfl, hO⟩ ⟨fun a ha ⟨j, hj⟩ => ?_, oku.off 0, fun a ha => .inl (st.dm a ?_)⟩
        · obtain ⟨ov, e1, k⟩ := okt.sl j y ej
          exact ⟨ov, e1, k.mono stu.bb fun a ha => (cellk j a ha).1⟩
        · rcases stu.bn a b eb with z | z | z
          · exact .inl z
          · exact .inr (.inl (back a z))
          · rw [inx a z]; exact .inr (.inl hx)
        · obtain ⟨w, hw, _⟩ := okt.cell ⟨j, hj⟩
          rcases stu.ff a ⟨0, ha⟩ with z | z
          · rw [inx a z, hx] at hw; cases hw
          · rw [back a z] at hw; cases hw
        · rcases stu.ff a ⟨0, ha⟩ with z | z
          · rw [inx a z]; exact hx
          · exact back a z
  · cases k2
end
def fvAt : List Str → List Fv → Str → Option Fv
  | n :: ns, v :: vs, f => if n = f then some v else fvAt ns vs f
  | _, _, _ => none
def fvPut : List Str → List Fv → Str → Fv → List Fv
  | n :: ns, v :: vs, f, w => if n = f then w :: vs else v :: fvPut ns vs f w
  | _, _, _, w => [w]
def nmPut : List Str → Str → List Str
  | n :: ns, f => if n = f then n :: ns else n :: nmPut ns f
  | [], f => [f]
def leafAt (c : Str) (e : En) (i : Nat) : Option Str → Option O1
  | none => (match ownAt e i with
    | some (.o1 o) => some o
    | _ => none)
  | some f => (match ownAt e i with
    | some (.obj c' ns vs) => if c' = c then (match fvAt ns vs f with
      | some (.ow o) => some o
      | _ => none) else none
    | _ => none)
def setLeaf (e : En) (i : Nat) (o : O1) : Option Str → En
  | none => reAt e i (.o1 o)
  | some f => (match ownAt e i with
    | some (.obj c' ns vs) => reAt e i (.obj c' ns (fvPut ns vs f (.ow o)))
    | _ => e)
def PathV (K : PySem.W.Frag) (c : Str) (σ : L2.St) (H : Hp) (i : Nat) (l : Addr) : Option Str → Prop
  | none => σ[i]? = some (some (.ref l))
  | some f => ∃ x dx kvs, σ[i]? = some (some (.ref x)) ∧ H x = some (.ins (He.ga K c) dx kvs) ∧ kvs.lookup f = some (.ref l)
section
variable {K : PySem.W.Frag} {B H : Hp}
theorem fv_focus {f : Str} {o : O1} : ∀ {ns : List Str} {fs : List Fv} {kvs : List (Str × V)} {q : List Addr}, kvs.map (·.1) = ns → FvL K B H fs (kvs.map (·.2)) q → fvAt ns fs f = some (.ow o) →
    ∃ l, kvs.lookup f = some (.ref l) ∧ l ∈ q ∧ OwnL K B H o l ∧ ∀ (H' : Hp) (o' : O1), (∀ a ∈ q, a ≠ l → H' a = H a) → OwnL K B H' o' l → FvL K B H' (fvPut ns fs f (.ow o')) (kvs.map (·.2)) q
  | [], _, _, _, hn, _, ha => by cases ha
  | n :: ns, [], kvs, q, hn, hf, ha => by cases ha
  | n :: ns, g :: fs, kvs, q, hn, hf, ha => by
    match kvs, hn with
    | (k, v) :: kvs, hn =>
      obtain ⟨rfl, hn2⟩ : k = n ∧ kvs.map (·.1) = ns := by simpa using hn
      obtain ⟨v', r, p, q', hv, rfl, h1, h2, dj⟩ := hf
      cases hv
      replace ha : (if k = f then some g else fvAt ns fs f) = some (.ow o) := ha
      show ∃ l, (match f == k with | true => some v | false => kvs.lookup f) = some (V.ref l) ∧ l ∈ p ++ q' ∧ OwnL K B H o l ∧ ∀ (H' : Hp) (o' : O1), (∀ a ∈ p ++ q', a ≠ l → H' a = H a) → OwnL K B H' o' l → FvL K B H' (if k = f then .ow o' :: fs else g :: fvPut ns fs f (.ow o')) (v :: kvs.map (·.2)) (p ++ q')
      by_cases hk : k = f
      · rw [if_pos hk] at ha
        cases ha
        obtain ⟨l, rfl, rfl, hO⟩ := h1
        rw [show (f == k) = true by simp [hk]]
        simp only [if_pos hk]
        exact ⟨l, rfl, by simp, hO, fun H' o' k hO' => ⟨_, _, [l], q', rfl, rfl, ⟨l, rfl, rfl, hO'⟩, h2.mono (Ex.refl _) fun a ha => k a (by simp [ha]) fun z => dj l (by simp) (z ▸ ha), dj⟩⟩
      · rw [if_neg hk] at ha
        obtain ⟨l, e1, e2, e3, e4⟩ := fv_focus hn2 h2 ha
        rw [show (f == k) = false by simp; exact fun z => hk z.symm]
        simp only [if_neg hk]
        refine ⟨l, e1, List.mem_append_right _ e2, e3, fun H' o' k hO' => ⟨v, _, p, q', rfl, rfl, h1.mono (Ex.refl _) fun a ha => k a (List.mem_append_left _ ha) fun z => dj a ha (z ▸ e2), e4 H' o' (fun a ha => k a (List.mem_append_right _ ha)) hO', dj⟩⟩
theorem own_upd {t : Sta} {i : Nat} {o o' : O2} {v0 : V} {H' : Hp} (ok : EnOk K t) (h : ownAt t.en i = some o) (ev : t.σ[i]? = some (some v0)) (hO : Own K t.B H' o' v0 (t.fp i)) (hk : ∀ a, a ∉ t.fp i → H' a = t.H a) (hd : ∀ a ∈ t.fp i, ∃ w, H' a = some w) :
    EnOk K ⟨t.B, H', t.σ, reAt t.en i o', t.fp⟩ ∧ Stp t ⟨t.B, H', t.σ, reAt t.en i o', t.fp⟩ := by
  obtain ⟨x, ex, hx, hre⟩ := ownAt_of h
  have hi : i < t.en.length := (List.getElem?_eq_some_iff.mp ex).1
  rw [hre]
  refine ⟨⟨fun a b e => ?_, by show (t.en.set i _).length = _; rw [List.length_set]; exact ok.len, fun j y e => ?_, fun j e => ?_, ok.dj, ok.off, ok.nt, ok.tb.keep fun a o e n => ?_⟩, ⟨Ex.refl _, fun _ _ z => .inl z, fun a b e n _ => (by show H' a = some b; rw [hk a fun z => n ⟨i, z⟩]; exact e), fun a e => ?_, fun _ z => .inl z, fun j p e => ?_, List.length_set ..⟩⟩
  · have e : t.B a = some b := e
    show H' a = some b
    rw [hk a fun z => by rw [ok.off i a z] at e; cases e]; exact ok.ex a b e
  · have e : (t.en.set i (reSl x o'))[j]? = some y := e
    by_cases hj : j = i
    · subst hj
      rw [List.getElem?_set_self hi] at e
      cases e
      refine ⟨_, ev, ?_⟩
      rcases hx with rfl | rfl
      · exact ⟨v0, rfl, hO⟩
      · exact ⟨v0, rfl, hO⟩
    · rw [List.getElem?_set_ne (Ne.symm hj)] at e
      obtain ⟨ov, e1, q⟩ := ok.sl j y e
      exact ⟨ov, e1, q.mono (Ex.refl _) fun a ha => hk a fun z => hj (ok.dj j i a ha z)⟩
  · have e : (t.en.set i (reSl x o'))[j]? = none := e
    have hj : j ≠ i := by rintro rfl; rw [List.getElem?_set_self hi] at e; cases e
    rw [List.getElem?_set_ne (Ne.symm hj)] at e
    exact ok.out j e
  · show H' a = some o
    rw [hk a fun z => ?_]; exact e
    obtain ⟨w, hw, mw⟩ := ok.cell ⟨i, z⟩
    rw [hw] at e; cases e; exact n mw
  · by_cases ha : a ∈ t.fp i
    · obtain ⟨w, hw⟩ := hd a ha
      rw [show H' a = none from e] at hw; cases hw
    · rw [← hk a ha]; exact e
  · refine ⟨rfl, ?_⟩
    show ∃ o'', (t.en.set i (reSl x o'))[j]? = some (.pw o'')
    by_cases hj : j = i
    · subst hj
      rw [ex] at e
      cases e
      exact ⟨o', by rw [List.getElem?_set_self hi]; rfl⟩
    · exact ⟨p, by rw [List.getElem?_set_ne (Ne.symm hj)]; exact e⟩
theorem leaf_focus {c : Str} {t : Sta} {i : Nat} {o : O1} {fo : Option Str} (ok : EnOk K t) (h : leafAt c t.en i fo = some o) :
    ∃ l, PathV K c t.σ t.H i l fo ∧ OwnL K t.B t.H o l ∧ ∀ (u : HO) (o' : O1), OwnL K t.B (upd t.H l u) o' l → EnOk K ⟨t.B, upd t.H l u, t.σ, setLeaf t.en i o' fo, t.fp⟩ ∧ Stp t ⟨t.B, upd t.H l u, t.σ, setLeaf t.en i o' fo, t.fp⟩ := by
  cases fo with
  | none =>
    unfold leafAt at h
    cases ho : ownAt t.en i with
    | none => rw [ho] at h; cases h
    | some w =>
      rw [ho] at h
      cases w with
      | obj _ _ _ => cases h
      | dp _ => cases h
      | o1 w =>
        cases h
        obtain ⟨v, ev, l, rfl, hfp, hO⟩ := own_val ok ho
        refine ⟨l, ev, hO, fun u o' hO' => own_upd ok ho ev ⟨l, rfl, hfp, hO'⟩ (fun a ha => upd_ne fun z => ha (by rw [hfp, z]; simp)) fun a ha => ?_⟩
        rw [hfp] at ha
        cases List.mem_singleton.mp ha
        exact ⟨u, upd_same⟩
  | some f =>
    unfold leafAt at h
    cases ho : ownAt t.en i with
    | none => rw [ho] at h; cases h
    | some w =>
      rw [ho] at h
      cases w with
      | o1 _ => cases h
      | dp _ => cases h
      | obj c' ns fs =>
        replace h : (if c' = c then (match fvAt ns fs f with
          | some (.ow o) => some o
          | _ => none) else none) = some o := h
        split at h
        · rename_i hc
          subst hc
          have hfv : fvAt ns fs f = some (.ow o) := by
            cases hq : fvAt ns fs f with
            | none => rw [hq] at h; cases h
            | some y =>
              rw [hq] at h
              cases y with
              | va _ => cases h
              | ow y => cases h; rfl
          obtain ⟨v, ev, x, dx, kvs, q, rfl, hx, hn, hF, hfp, nx⟩ := own_val ok ho
          obtain ⟨l, e1, e2, e3, e4⟩ := fv_focus hn hF hfv
          have lx : x ≠ l := fun z => nx (z ▸ e2)
          refine ⟨l, ⟨x, dx, kvs, ev, hx, e1⟩, e3, fun u o' hO' => ?_⟩
          show EnOk K ⟨t.B, upd t.H l u, t.σ, (match ownAt t.en i with
            | some (.obj c' ns vs) => reAt t.en i (.obj c' ns (fvPut ns vs f (.ow o')))
            | _ => t.en), t.fp⟩ ∧ Stp t ⟨t.B, upd t.H l u, t.σ, (match ownAt t.en i with
            | some (.obj c' ns vs) => reAt t.en i (.obj c' ns (fvPut ns vs f (.ow o')))
            | _ => t.en), t.fp⟩
          rw [ho]
          refine own_upd ok ho ev ⟨x, dx, kvs, q, rfl, by rw [upd_ne lx]; exact hx, hn, e4 _ o' (fun a _ na => upd_ne na) hO', hfp, nx⟩ (fun a ha => upd_ne fun z => ha (by rw [hfp, z]; exact List.mem_cons_of_mem _ e2)) fun a ha => ?_
          by_cases hal : a = l
          · exact ⟨u, by rw [hal]; exact upd_same⟩
          · obtain ⟨w, hw, _⟩ := ok.cell ⟨i, ha⟩
            exact ⟨w, by rw [upd_ne hal]; exact hw⟩
        · cases h
end
def tPath (K : PySem.W.Frag) (i : Nat) : Option Str → TE
  | none => tVar i
  | some f => tFld K (tVar i) f
def PathC (K : PySem.W.Frag) (c : Str) : Option Str → Prop
  | none => True
  | some f => Cls K (He.ga K c) ∧ NoAttr K (He.ga K c) f
theorem rd_path {K : PySem.W.Frag} {c : Str} {σ : L2.St} {H : Hp} {i : Nat} {l : Addr} {fo : Option Str} {Q : VK} (h : PathV K c σ H i l fo) (pc : PathC K c fo) (q : Q (.ref l) H) : tPath K i fo σ H Q := by
  cases fo with
  | none => exact ⟨_, h, q⟩
  | some f =>
    obtain ⟨x, dx, kvs, h1, h2, h3⟩ := h
    exact ⟨_, h1, x, _, dx, kvs, _, rfl, h2, pc.1, pc.2, h3, q⟩
variable {W : WX}
def rdQ (K : PySem.W.Frag) (g : En → Option D) : TE := fun σ H Q => ∃ s : Sta, s.σ = σ ∧ s.H = H ∧ EnOk K s ∧ ∃ d, g s.en = some d ∧ ∀ v, Rep K s.B d v → Q v H
def qVar (i : Nat) : En → Option D := fun e => match e[i]? with
  | some (.va d) => some d
  | _ => none
def qC (d : D) : En → Option D := fun _ => some d
section
variable {X : Cx} {a : Expr} {i : Nat}
theorem xq_var (h : PE X a (tVar i)) : PE X a (rdQ X.K (qVar i)) := PEi h fun σ H Q ⟨s, e1, e2, ok, d, hf, q⟩ => by
  unfold qVar at hf
  cases e : s.en[i]? with
  | none => rw [e] at hf; cases hf
  | some x =>
    rw [e] at hf
    cases x with
    | va d' =>
      cases hf
      obtain ⟨ov, ev, _, v, rfl, rp⟩ := ok.sl i _ e
      exact ⟨v, by rw [← e1]; exact ev, q v rp⟩
    | _ => cases hf
theorem xq_c {d : D} {v : V} (h : PE X a (tC v)) (hr : ∀ B, Rep X.K B d v) : PE X a (rdQ X.K (qC d)) := PEi h fun σ H Q ⟨s, e1, e2, ok, d', hf, q⟩ => by
  cases hf
  exact q v (hr _)
end
section
variable {κ : Type} [DecidableEq κ]
def dGet : List κ → List D → κ → Option D
  | k :: ks, d :: ds, j => if k = j then some d else dGet ks ds j
  | _, _, _ => none
def dHas (ks : List κ) (k : κ) : Bool := ks.any fun j => decide (j = k)
def dPutK (ks : List κ) (k : κ) : List κ := if dHas ks k = true then ks else ks ++ [k]
def dRep : List κ → List D → κ → D → List D
  | k :: ks, d :: ds, j, x => (if k = j then x else d) :: dRep ks ds j x
  | _, _, _, _ => []
def dPutD (ks : List κ) (ds : List D) (k : κ) (d : D) : List D := if dHas ks k = true then dRep ks ds k d else ds ++ [d]
variable {K : PySem.W.Frag} {B : Hp}
end
def D.key : D → Option Key
  | .int i => some (.inl i)
  | .str x => some (.inr x)
  | _ => none
def keysL : List D → Option (List Key)
  | [] => some []
  | d :: ds => d.key.bind fun k => (keysL ds).bind fun ks => some (k :: ks)
def D.keyT : D → Option (List Key)
  | .tup false ds => keysL ds
  | _ => none
def getO (o : O1) (d : D) : Option D := match o with
  | .lst ds => (match d with
    | .int i => atI ds i
    | _ => none)
  | .dct ks ds => d.key.bind fun k => dGet ks ds k
  | .dcT ks ds => d.keyT.bind fun k => dGet ks ds k
def putO (o : O1) (d x : D) : Option O1 := match o with
  | .lst ds => (match d with
    | .int i => (ixN ds.length i).bind fun j => some (.lst (ds.set j x))
    | _ => none)
  | .dct ks ds => d.key.bind fun k => if ks.length < 100000 then some (.dct (dPutK ks k) (dPutD ks ds k x)) else none
  | .dcT ks ds => d.keyT.bind fun k => if ks.length < 100000 then some (.dcT (dPutK ks k) (dPutD ks ds k x)) else none
def isLst : O1 → Bool
  | .lst _ => true
  | _ => false
theorem atI_map {α β : Type} {xs : List α} {ys : List β} {i : Int} {x : α} (hl : ys.length = xs.length) (h : atI xs i = some x) : ∃ j : Nat, xs[j]? = some x ∧ ∀ y, ys[j]? = some y → atI ys i = some y := by
  unfold atI at h
  obtain ⟨j, h1, h2⟩ := Option.bind_eq_some_iff.mp h
  exact ⟨j, h2, fun y hy => by unfold atI; rw [hl, h1]; exact hy⟩
theorem atI_rep {K : PySem.W.Frag} {B : Hp} {ds : List D} {vs : List V} {i : Int} {d : D} (r : RepL K B ds vs) (h : atI ds i = some d) : ∃ v, atI vs i = some v ∧ Rep K B d v := by
  obtain ⟨j, h1, h2⟩ := atI_map r.len h
  obtain ⟨v, hv, rv⟩ := r.at h1
  exact ⟨v, h2 v hv, rv⟩
def xIxP (c : Str) (i : Nat) (fo : Option Str) (g : En → Option D) : En → Option (D × En) := fun e => (leafAt c e i fo).bind fun o => (g e).bind fun k => (getO o k).bind fun d => some (d, e)
section
variable {X : Cx} {e : Expr} {st : Stmt} {c : Str} {i : Nat} {fo : Option Str} {g : En → Option D} {f : En → Option (D × En)}
def xPutP (lst : Bool) (c : Str) (i : Nat) (fo : Option Str) (g : En → Option D) (f : En → Option (D × En)) : En → Option Out := fun e => (f e).bind fun p => (leafAt c p.2 i fo).bind fun o => if isLst o = lst then (g p.2).bind fun k => (putO o k p.1).bind fun o' => some (.nx (setLeaf p.2 i o' fo)) else none
theorem xs_putL (pc : PathC X.K c fo) (h : PS X st (tAsg (rdV X.K f) (gSub (tPath X.K i fo) (rdQ X.K g) rSetL))) : PS X st (rdS X.K W (xPutP true c i fo g f)) := PSi h fun D σ H ⟨s, e1, e2, ok, o, hf, q⟩ => by
  obtain ⟨⟨d, en1⟩, k1, k2⟩ := Option.bind_eq_some_iff.mp hf
  obtain ⟨lf, k3, k4⟩ := Option.bind_eq_some_iff.mp k2
  split at k4
  · rename_i hl
    obtain ⟨dk, k5, k6⟩ := Option.bind_eq_some_iff.mp k4
    obtain ⟨lf', k7, k8⟩ := Option.bind_eq_some_iff.mp k6
    cases k8
    refine ⟨s, e1, e2, ok, d, en1, k1, fun v t tσ te okt st rp => ?_⟩
    have k3' : leafAt c t.en i fo = some lf := by rw [te]; exact k3
    obtain ⟨l, pv, hO, upk⟩ := leaf_focus okt k3'
    subst tσ
    refine rd_path pv pc ⟨t, rfl, rfl, okt, dk, by rw [te]; exact k5, fun w rw' => ?_⟩
    cases lf with
    | lst ds =>
      cases dk with
      | int j =>
        obtain ⟨vs, hv, rl⟩ := hO
        obtain ⟨n, m1, m2⟩ := Option.bind_eq_some_iff.mp (show ((ixN ds.length j).bind fun n => some (O1.lst (ds.set n d))) = some lf' from k7)
        cases m2
        cases (show w = .int j from rw')
        obtain ⟨u1, u2⟩ := upk (.lst (vs.set n v)) (.lst (ds.set n d)) ⟨_, upd_same, rl.set rp⟩
        exact ⟨l, vs, j, n, rfl, rfl, hv, by rw [rl.len]; exact m1, q ⟨t.B, upd t.H l (.lst (vs.set n v)), t.σ, setLeaf t.en i (.lst (ds.set n d)) fo, t.fp⟩ (by rw [te]) u1 (st.trans u2)⟩
      | _ => cases k7
    | _ => cases hl
  · cases k4
def hasO (o : O1) (d : D) : Option Bool := match o with
  | .lst _ => none
  | .dct ks _ => d.key.bind fun k => some (dHas ks k)
  | .dcT ks _ => d.keyT.bind fun k => some (dHas ks k)
def xInP (neg : Bool) (c : Str) (i : Nat) (fo : Option Str) (f : En → Option (D × En)) : En → Option (Bool × En) := fun e => (f e).bind fun p => (leafAt c p.2 i fo).bind fun o => (hasO o p.1).bind fun b => some (if neg then !b else b, p.2)
def xApp (i : Nat) (f : En → Option (D × En)) : En → Option (Sl × En) := fun e => (leafAt Str.empty e i none).bind fun o0 => if isLst o0 = true then (f e).bind fun p => (match leafAt Str.empty p.2 i none with
  | some (.lst ds) => if ds.length < 100000 then some (.va .non, setLeaf p.2 i (.lst (ds ++ [p.1])) none) else none
  | _ => none) else none
theorem xe_app (h : PE X e (tBM X.K "list" rAppend (tVar i) (tCons (rdV X.K f) tNil))) : PE X e (rdE X.K (xApp i f)) := PEi h fun σ H Q ⟨s, e1, e2, ok, r, en', hf, q⟩ => by
  obtain ⟨o0, k0, hf⟩ := Option.bind_eq_some_iff.mp hf
  split at hf
  · rename_i hl0
    obtain ⟨⟨d, en1⟩, k1, k2⟩ := Option.bind_eq_some_iff.mp hf
    replace k2 : (match leafAt Str.empty en1 i none with
      | some (.lst ds) => if ds.length < 100000 then some (Sl.va .non, setLeaf en1 i (.lst (ds ++ [d])) none) else none
      | _ => none) = some (r, en') := k2
    cases hlf : leafAt Str.empty en1 i none with
    | none => rw [hlf] at k2; cases k2
    | some lf =>
      rw [hlf] at k2
      cases lf with
      | lst ds =>
        replace k2 : (if ds.length < 100000 then some (Sl.va .non, setLeaf en1 i (.lst (ds ++ [d])) none) else none) = some (r, en') := k2
        split at k2
        · rename_i hz
          cases k2
          obtain ⟨l0, pv0, hO0, _⟩ := leaf_focus ok k0
          refine ⟨.ref l0, by rw [← e1]; exact pv0, ?_, s, e1, e2, ok, d, en1, k1, fun v t tσ te okt st rp => ?_⟩
          · cases o0 with
            | lst es =>
              obtain ⟨vs, hv, _⟩ := hO0
              exact .inl ⟨rfl, vs, SqL.of (by rw [← e2]; exact hv)⟩
            | _ => cases hl0
          · obtain ⟨l, pv, hO, upk⟩ := leaf_focus okt (by rw [te]; exact hlf)
            have pv1 : t.σ[i]? = some (some (.ref l)) := pv
            rw [tσ, ← e1, show s.σ[i]? = some (some (.ref l0)) from pv0] at pv1
            cases pv1
            obtain ⟨vs, hv, rl⟩ := hO
            obtain ⟨u1, u2⟩ := upk (.lst (vs ++ [v])) (.lst (ds ++ [d])) ⟨_, upd_same, rl.append (.one rp)⟩
            exact ⟨l0, vs, v, rfl, rfl, hv, sz_lt (by rw [rl.len]; exact hz), q .non ⟨t.B, upd t.H l0 (.lst (vs ++ [v])), t.σ, setLeaf t.en i (.lst (ds ++ [d])) none, t.fp⟩ [] tσ (by rw [te]) u1 (st.trans u2) ⟨rfl, _, rfl, rfl⟩ .nil⟩
        · cases k2
      | _ => cases k2
  · cases hf
def xExt (i : Nat) (f : En → Option (D × En)) : En → Option (Sl × En) := fun e => (leafAt Str.empty e i none).bind fun o0 => if isLst o0 = true then (f e).bind fun p => (match leafAt Str.empty p.2 i none, p.1 with
  | some (.lst ds), .lst es => if ds.length + es.length < 100000 then some (.va .non, setLeaf p.2 i (.lst (ds ++ es)) none) else none
  | _, _ => none) else none
def xFldS (c : Str) (i : Nat) (fn : Str) : En → Option (D × En) := fun e => match e[i]? with
  | some (.va (.obj c' ns ds)) => if c' = c then (fldD ns ds fn).bind fun d => some (d, e) else none
  | some (.ow (.obj c' ns vs)) => if c' = c then (match fvAt ns vs fn with
    | some (.va d) => some (d, e)
    | _ => none) else none
  | some (.pw (.obj c' ns vs)) => if c' = c then (match fvAt ns vs fn with
    | some (.va d) => some (d, e)
    | _ => none) else none
  | _ => none
theorem fv_va {K : PySem.W.Frag} {B H : Hp} {fn : Str} {d : D} : ∀ {ns : List Str} {fs : List Fv} {kvs : List (Str × V)} {q : List Addr}, kvs.map (·.1) = ns → FvL K B H fs (kvs.map (·.2)) q → fvAt ns fs fn = some (.va d) → ∃ v, kvs.lookup fn = some v ∧ Rep K B d v
  | [], _, _, _, hn, _, ha => by cases ha
  | n :: ns, [], kvs, q, hn, hf, ha => by cases ha
  | n :: ns, g :: fs, kvs, q, hn, hf, ha => by
    match kvs, hn with
    | (k, v) :: kvs, hn =>
      obtain ⟨rfl, hn2⟩ : k = n ∧ kvs.map (·.1) = ns := by simpa using hn
      obtain ⟨v', r, p, q', hv, rfl, h1, h2, dj⟩ := hf
      cases hv
      replace ha : (if k = fn then some g else fvAt ns fs fn) = some (.va d) := ha
      show ∃ v', (match fn == k with | true => some v | false => kvs.lookup fn) = some v' ∧ Rep K B d v'
      by_cases hk : k = fn
      · rw [if_pos hk] at ha
        cases ha
        rw [show (fn == k) = true by simp [hk]]
        exact ⟨v, rfl, h1.1⟩
      · rw [if_neg hk] at ha
        rw [show (fn == k) = false by simp; exact fun z => hk z.symm]
        exact fv_va hn2 h2 ha
theorem xe_fldS {fn : Str} (hc : Cls X.K (He.ga X.K c)) (hn : NoAttr X.K (He.ga X.K c) fn) (h : PE X e (tFld X.K (tVar i) fn)) : PE X e (rdV X.K (xFldS c i fn)) := PEi h fun σ H Q ⟨s, e1, e2, ok, d, en', hf, q⟩ => by
  unfold xFldS at hf
  subst e1 e2
  have own : ∀ c' ns vs, ownAt s.en i = some (.obj c' ns vs) → (if c' = c then (match fvAt ns vs fn with
    | some (.va d) => some (d, s.en)
    | _ => none) else none) = some (d, en') → tFld X.K (tVar i) fn s.σ s.H Q := fun c' ns vs ho hf' => by
    clear hf
    split at hf'
    · rename_i hcc
      subst hcc
      cases hq : fvAt ns vs fn with
      | none => rw [hq] at hf'; cases hf'
      | some y =>
        rw [hq] at hf'
        cases y with
        | ow _ => cases hf'
        | va d' =>
          cases hf'
          obtain ⟨v, ev, x, dx, kvs, qq, rfl, hx, hn', hF, _⟩ := own_val ok ho
          obtain ⟨u, hu, ru⟩ := fv_va hn' hF hq
          exact ⟨_, ev, x, _, dx, kvs, u, rfl, hx, hc, hn, hu, q u s rfl rfl ok (Stp.refl s) ru⟩
    · cases hf'
  cases ei : s.en[i]? with
  | none => rw [ei] at hf; cases hf
  | some x =>
    rw [ei] at hf
    cases x with
    | no => cases hf
    | va d1 =>
      cases d1 with
      | obj c' ns ds =>
        replace hf : (if c' = c then (fldD ns ds fn).bind fun d => some (d, s.en) else none) = some (d, en') := hf
        split at hf
        · rename_i hcc
          subst hcc
          obtain ⟨d2, k3, k4⟩ := Option.bind_eq_some_iff.mp hf
          cases k4
          obtain ⟨ov, ev, _, v, rfl, a, dx, kvs, rfl, hb, hk, rl⟩ := ok.sl i _ ei
          subst hk
          obtain ⟨v2, hv, r2⟩ := fld_rep rl k3
          exact ⟨_, ev, a, _, dx, kvs, v2, rfl, ok.ex _ _ hb, hc, hn, hv, q v2 s rfl rfl ok (Stp.refl s) r2⟩
        · cases hf
      | _ => cases hf
    | ow o =>
      cases o with
      | o1 _ => cases hf
      | dp _ => cases hf
      | obj c' ns vs => exact own c' ns vs (by unfold ownAt; rw [ei]) hf
    | pw o =>
      cases o with
      | o1 _ => cases hf
      | dp _ => cases hf
      | obj c' ns vs => exact own c' ns vs (by unfold ownAt; rw [ei]) hf
def toFv : Sl → Option Fv
  | .va d => some (.va d)
  | .ow (.o1 o) => some (.ow o)
  | .ow o => some (.va o.fz)
  | _ => none
def xFS (c : Str) (i : Nat) (fn : Str) (f : En → Option (Sl × En)) : En → Option Out := fun e => (f e).bind fun p => (toFv p.1).bind fun w => (match ownAt p.2 i with
  | some (.obj c' ns vs) => if c' = c ∧ ns.length < 1000 then some (.nx (reAt p.2 i (.obj c' (nmPut ns fn) (fvPut ns vs fn w)))) else none
  | _ => none)
theorem put_names (fn : Str) (v : V) : ∀ kvs : List (Str × V), (putF fn v kvs).map (·.1) = nmPut (kvs.map (·.1)) fn
  | [] => rfl
  | (k, w) :: r => by
    show (if k = fn then (k, v) :: r else (k, w) :: putF fn v r).map (·.1) = (if k = fn then k :: r.map (·.1) else k :: nmPut (r.map (·.1)) fn)
    by_cases hk : k = fn
    · rw [if_pos hk, if_pos hk]; rfl
    · rw [if_neg hk, if_neg hk, List.map_cons, put_names fn v r]
theorem put_fv {K : PySem.W.Frag} {B H : Hp} {fn : Str} {w : Fv} {y : V} {pw : List Addr} (hw : FvOk K B H w y pw) : ∀ {ns : List Str} {fs : List Fv} {kvs : List (Str × V)} {q : List Addr}, kvs.map (·.1) = ns → FvL K B H fs (kvs.map (·.2)) q → (∀ a ∈ pw, a ∉ q) →
    ∃ q', FvL K B H (fvPut ns fs fn w) ((putF fn y kvs).map (·.2)) q' ∧ ∀ a ∈ q', a ∈ q ∨ a ∈ pw
  | [], fs, kvs, q, hn, hf, dj => by
    cases kvs with
    | cons _ _ => cases hn
    | nil =>
      cases fs with
      | nil =>
        obtain ⟨_, rfl⟩ := hf
        exact ⟨pw ++ [], ⟨y, [], pw, [], rfl, rfl, hw, ⟨rfl, rfl⟩, fun _ _ z => by cases z⟩, fun a ha => .inr (by simpa using ha)⟩
      | cons g fs => obtain ⟨_, _, _, _, h, _⟩ := hf; cases h
  | n :: ns, [], kvs, q, hn, hf, dj => by
    cases kvs with
    | nil => cases hn
    | cons _ _ => cases hf.1
  | n :: ns, g :: fs, kvs, q, hn, hf, dj => by
    match kvs, hn with
    | (k, v) :: kvs, hn =>
      obtain ⟨rfl, hn2⟩ : k = n ∧ kvs.map (·.1) = ns := by simpa using hn
      obtain ⟨v', r, p, q', hv, rfl, h1, h2, dj1⟩ := hf
      cases hv
      show ∃ q'', FvL K B H (if k = fn then w :: fs else g :: fvPut ns fs fn w) ((if k = fn then (k, y) :: kvs else (k, v) :: putF fn y kvs).map (·.2)) q'' ∧ ∀ a ∈ q'', a ∈ p ++ q' ∨ a ∈ pw
      by_cases hk : k = fn
      · rw [if_pos hk, if_pos hk]
        exact ⟨pw ++ q', ⟨y, _, pw, q', rfl, rfl, hw, h2, fun a ha z => dj a ha (List.mem_append_right _ z)⟩, fun a ha => (List.mem_append.mp ha).elim .inr fun z => .inl (List.mem_append_right _ z)⟩
      · rw [if_neg hk, if_neg hk]
        obtain ⟨q'', i1, i2⟩ := put_fv hw hn2 h2 fun a ha z => dj a ha (List.mem_append_right _ z)
        refine ⟨p ++ q'', ⟨v, _, p, q'', rfl, rfl, h1, i1, fun a ha z => ?_⟩, fun a ha => (List.mem_append.mp ha).elim (fun z => .inl (List.mem_append_left _ z)) fun z => (i2 a z).elim (fun y => .inl (List.mem_append_right _ y)) .inr⟩
        rcases i2 a z with z | z
        · exact dj1 a ha z
        · exact dj a z (List.mem_append_left _ ha)
theorem to_fv {K : PySem.W.Frag} {s t : Sta} {v : V} {x : Sl} {fr : List Addr} {w : Fv} (ok : EnOk K t) (st : Stp s t) (sl : SlOk K t.B t.H (some v) x fr) (sd : Side s t fr) (h : toFv x = some w) :
    ∃ (B' : Hp) (pw : List Addr), EnOk K ⟨B', t.H, t.σ, t.en, t.fp⟩ ∧ Stp s ⟨B', t.H, t.σ, t.en, t.fp⟩ ∧ FvOk K B' t.H w v pw ∧ (∀ a ∈ pw, ¬ inF t.fp a ∧ B' a = none ∧ (s.H a = none ∨ inF s.fp a)) := by
  cases x with
  | no => cases h
  | pw o => cases h
  | va d =>
    cases h
    obtain ⟨_, v', ev, rp⟩ := sl
    cases ev
    exact ⟨t.B, [], ok, st, ⟨rp, rfl⟩, fun _ z => by cases z⟩
  | ow o =>
    obtain ⟨v', ev, ho⟩ := sl
    cases ev
    cases o with
    | o1 o =>
      cases h
      obtain ⟨l, rfl, rfl, ho⟩ := ho
      exact ⟨t.B, [l], ok, st, ⟨l, rfl, rfl, ho⟩, fun a ha => ⟨sd.no a ha, sd.b a ha, sd.new a ha⟩⟩
    | obj c' ns vs =>
      cases h
      obtain ⟨k1, k2, k3⟩ := frz_res ok st ho sd
      exact ⟨joinB t.B t.H fr, [], k1, k2, ⟨k3, rfl⟩, fun _ z => by cases z⟩
    | dp vs =>
      cases h
      obtain ⟨k1, k2, k3⟩ := frz_res ok st ho sd
      exact ⟨joinB t.B t.H fr, [], k1, k2, ⟨k3, rfl⟩, fun _ z => by cases z⟩
theorem xs_fs {fn : Str} {fe : En → Option (Sl × En)} (hc : Cls X.K (He.ga X.K c)) (hn : NoAttr X.K (He.ga X.K c) fn) (h : PS X st (sFld X.K (tVar i) (rdE X.K fe) fn)) : PS X st (rdS X.K W (xFS c i fn fe)) := PSi h fun D σ H ⟨s, e1, e2, ok, o, hf, q⟩ => by
  obtain ⟨⟨r, en1⟩, k1, k2⟩ := Option.bind_eq_some_iff.mp hf
  obtain ⟨w, k3, k4⟩ := Option.bind_eq_some_iff.mp k2
  refine ⟨s, e1, e2, ok, r, en1, k1, fun v t fr tσ te okt stt sl sd => ?_⟩
  cases ho : ownAt en1 i with
  | none => rw [show (match ownAt (r, en1).2 i with | some (.obj c' ns vs) => (if c' = c ∧ ns.length < 1000 then some (Out.nx (reAt (r, en1).2 i (.obj c' (nmPut ns fn) (fvPut ns vs fn w)))) else none) | _ => none) = none by show (match ownAt en1 i with | some (.obj c' ns vs) => _ | _ => _) = none; rw [ho]] at k4; cases k4
  | some o2 =>
    cases o2 with
    | o1 _ => rw [show (match ownAt (r, en1).2 i with | some (.obj c' ns vs) => (if c' = c ∧ ns.length < 1000 then some (Out.nx (reAt (r, en1).2 i (.obj c' (nmPut ns fn) (fvPut ns vs fn w)))) else none) | _ => none) = none by show (match ownAt en1 i with | some (.obj c' ns vs) => _ | _ => _) = none; rw [ho]] at k4; cases k4
    | dp _ => rw [show (match ownAt (r, en1).2 i with | some (.obj c' ns vs) => (if c' = c ∧ ns.length < 1000 then some (Out.nx (reAt (r, en1).2 i (.obj c' (nmPut ns fn) (fvPut ns vs fn w)))) else none) | _ => none) = none by show (match ownAt en1 i with | some (.obj c' ns vs) => _ | _ => _) = none; rw [ho]] at k4; cases k4
    | obj c' ns vs =>
      replace k4 : (match ownAt en1 i with | some (.obj c' ns vs) => (if c' = c ∧ ns.length < 1000 then some (Out.nx (reAt en1 i (.obj c' (nmPut ns fn) (fvPut ns vs fn w)))) else none) | _ => none) = some o := k4
      rw [ho] at k4
      replace k4 : (if c' = c ∧ ns.length < 1000 then some (Out.nx (reAt en1 i (.obj c' (nmPut ns fn) (fvPut ns vs fn w)))) else none) = some o := k4
      split at k4
      · rename_i hcc
        obtain ⟨rfl, hns⟩ := hcc
        cases k4
        obtain ⟨B', pw, ok1, st1, fo, pws⟩ := to_fv okt stt sl sd k3
        have hot : ownAt t.en i = some (.obj c' ns vs) := by rw [te]; exact ho
        obtain ⟨v0, ev0, x, dx, kvs, qq, rfl, hx, hn', hF, hfp, nx⟩ := own_val (s := ⟨B', t.H, t.σ, t.en, t.fp⟩) ok1 hot
        replace hx : t.H x = some (.ins (He.ga X.K c') dx kvs) := hx
        replace hfp : t.fp i = x :: qq := hfp
        replace ev0 : t.σ[i]? = some (some (.ref x)) := ev0
        have dpw : ∀ a ∈ pw, a ∉ qq := fun a ha z => (pws a ha).1 ⟨i, by rw [hfp]; exact List.mem_cons_of_mem _ z⟩
        have npw : x ∉ pw := fun z => (pws x z).1 ⟨i, by rw [hfp]; exact List.mem_cons_self⟩
        obtain ⟨q', f1, f2⟩ := put_fv (fn := fn) fo hn' hF dpw
        have nxq : x ∉ q' := fun z => (f2 x z).elim nx npw
        have hcell : ∀ a ∈ q', a ≠ x := fun a ha z => nxq (z ▸ ha)
        subst tσ
        refine ⟨.ref x, ev0, x, _, dx, kvs, rfl, hx, hc, hn, by rw [← List.length_map (f := (·.1)), hn']; exact hns, ?_⟩
        -- the new state
        obtain ⟨y, ey, hy, hre⟩ := ownAt_of hot
        have hi : i < t.en.length := (List.getElem?_eq_some_iff.mp ey).1
        have hO : Own X.K B' (upd t.H x (.ins (He.ga X.K c') dx (putF fn v kvs))) (.obj c' (nmPut ns fn) (fvPut ns vs fn w)) (.ref x) (x :: q') :=
          ⟨x, dx, putF fn v kvs, q', rfl, upd_same, by rw [put_names, hn'], f1.mono (Ex.refl _) fun a ha => upd_ne (hcell a ha), rfl, nxq⟩
        have offx : B' x = none := ok1.off i x (by rw [hfp]; exact List.mem_cons_self)
        refine q ⟨B', upd t.H x (.ins (He.ga X.K c') dx (putF fn v kvs)), t.σ, reAt t.en i (.obj c' (nmPut ns fn) (fvPut ns vs fn w)), fun j => if j = i then x :: q' else t.fp j⟩ (by rw [te]) ?_ ?_
        · rw [hre]
          have inq : ∀ a ∈ x :: q', a ∈ t.fp i ∨ a ∈ pw := fun a ha => by
            rcases List.mem_cons.mp ha with rfl | ha
            · exact .inl (by rw [hfp]; exact List.mem_cons_self)
            · rcases f2 a ha with z | z
              · exact .inl (by rw [hfp]; exact List.mem_cons_of_mem _ z)
              · exact .inr z
          refine ⟨fun a b eb => ?_, by show (t.en.set i _).length = _; rw [List.length_set]; exact okt.len, fun j z ej => ?_, fun j ej => ?_, fun j k a hj hk => ?_, fun j a hj => ?_, ok1.nt, okt.tb.own hx trivial⟩
          · replace eb : B' a = some b := eb
            show upd t.H x _ a = some b
            rw [upd_ne fun z => by rw [z, offx] at eb; cases eb]
            exact ok1.ex a b eb
          · replace ej : (t.en.set i (reSl y (.obj c' (nmPut ns fn) (fvPut ns vs fn w))))[j]? = some z := ej
            show ∃ ov, t.σ[j]? = some ov ∧ SlOk X.K B' _ ov z (if j = i then x :: q' else t.fp j)
            by_cases hj : j = i
            · subst hj
              rw [List.getElem?_set_self hi] at ej
              cases ej
              rw [if_pos rfl]
              refine ⟨_, ev0, ?_⟩
              rcases hy with rfl | rfl
              · exact ⟨_, rfl, hO⟩
              · exact ⟨_, rfl, hO⟩
            · rw [List.getElem?_set_ne (Ne.symm hj)] at ej
              rw [if_neg hj]
              obtain ⟨ov, e1, qs⟩ := ok1.sl j z ej
              exact ⟨ov, e1, qs.mono (Ex.refl _) fun a ha => upd_ne fun z => hj (ok1.dj j i a ha (by rw [z]; show x ∈ t.fp i; rw [hfp]; exact List.mem_cons_self))⟩
          · replace ej : (t.en.set i (reSl y (.obj c' (nmPut ns fn) (fvPut ns vs fn w))))[j]? = none := ej
            show (if j = i then x :: q' else t.fp j) = []
            have hj : j ≠ i := by rintro rfl; rw [List.getElem?_set_self hi] at ej; cases ej
            rw [List.getElem?_set_ne (Ne.symm hj)] at ej
            rw [if_neg hj]; exact okt.out j ej
          · replace hj : a ∈ (if j = i then x :: q' else t.fp j) := hj
            replace hk : a ∈ (if k = i then x :: q' else t.fp k) := hk
            have cross : ∀ m, m ≠ i → a ∈ t.fp m → a ∈ x :: q' → False := fun m hm h1 h2 => by
              rcases inq a h2 with z | z
              · exact hm (okt.dj m i a h1 z)
              · exact (pws a z).1 ⟨m, h1⟩
            by_cases ej : j = i
            · by_cases ek : k = i
              · exact ej.trans ek.symm
              · rw [if_pos ej] at hj; rw [if_neg ek] at hk; exact (cross k ek hk hj).elim
            · rw [if_neg ej] at hj
              by_cases ek : k = i
              · rw [if_pos ek] at hk; exact (cross j ej hj hk).elim
              · rw [if_neg ek] at hk; exact okt.dj j k a hj hk
          · replace hj : a ∈ (if j = i then x :: q' else t.fp j) := hj
            by_cases ej : j = i
            · rw [if_pos ej] at hj
              rcases inq a hj with z | z
              · exact ok1.off i a z
              · exact (pws a z).2.1
            · rw [if_neg ej] at hj; exact ok1.off j a hj
        · rw [hre]
          refine ⟨st1.bb, st1.bn, fun a b ha n nt => ?_, fun a ha => ?_, fun a ⟨j, hj⟩ => ?_, fun j p ej => ?_, by show (t.en.set i _).length = _; rw [List.length_set]; exact stt.ln⟩
          · have h1 := st1.hh a b ha n nt
            show upd t.H x _ a = some b
            rw [upd_ne ?_]
            · exact h1
            · intro z
              rcases stt.ff a ⟨i, by rw [hfp, z]; exact List.mem_cons_self⟩ with y | y
              · exact n y
              · rw [ha] at y; cases y
          · refine stt.dm a ?_
            replace ha : upd t.H x _ a = none := ha
            by_cases z : a = x
            · rw [z, upd_same] at ha; cases ha
            · rw [upd_ne z] at ha; exact ha
          · replace hj : a ∈ (if j = i then x :: q' else t.fp j) := hj
            by_cases ej : j = i
            · rw [if_pos ej] at hj
              rcases List.mem_cons.mp hj with rfl | hj
              · exact stt.ff a ⟨i, by rw [hfp]; exact List.mem_cons_self⟩
              · rcases f2 a hj with z | z
                · exact stt.ff a ⟨i, by rw [hfp]; exact List.mem_cons_of_mem _ z⟩
                · exact (pws a z).2.2.elim .inr .inl
            · rw [if_neg ej] at hj; exact stt.ff a ⟨j, hj⟩
          · obtain ⟨p1, o1, p2⟩ := stt.pn j p ej
            refine ⟨p1, ?_⟩
            show ∃ o'', (t.en.set i (reSl y _))[j]? = some (.pw o'')
            by_cases hj : j = i
            · subst hj
              rw [ey] at p2
              cases p2
              exact ⟨_, by rw [List.getElem?_set_self hi]; rfl⟩
            · exact ⟨o1, by rw [List.getElem?_set_ne (Ne.symm hj)]; exact p2⟩
      · cases k4
end
def gPutD (c : Str) (i : Nat) (fo : Option Str) (g : En → Option D) : D → En → Option En := fun d e => (leafAt c e i fo).bind fun o => if isLst o = true then none else (g e).bind fun k => (putO o k d).bind fun o' => some (setLeaf e i o' fo)
section
variable {X : Cx} {e : Expr} {c : Str} {i : Nat} {fo : Option Str} {g : En → Option D}
end
variable {W : WX}
def wipeE (e : En) : List Nat → En
  | [] => e
  | v :: vs => (wipeE e vs).set v .no
def freeS (e : En) (v : Nat) : Bool := match e[v]? with
  | none => false
  | some (.pw _) => false
  | _ => true
theorem wipe_get {σ : L2.St} {i : Nat} : ∀ vs : List Nat, (wipe σ vs)[i]? = if i ∈ vs then (σ[i]?).map (fun _ => none) else σ[i]?
  | [] => by simp [wipe]
  | v :: vs => by
    have ih := wipe_get (σ := σ) (i := i) vs
    show ((wipe σ vs).set v none)[i]? = _
    by_cases h : v = i
    · subst h
      rw [List.getElem?_set]
      rw [if_pos rfl, if_pos List.mem_cons_self, wipe_length]
      by_cases hl : v < σ.length
      · rw [if_pos hl, List.getElem?_eq_getElem hl]; rfl
      · rw [if_neg hl, List.getElem?_eq_none (by omega)]; rfl
    · rw [List.getElem?_set_ne h, ih]
      by_cases hm : i ∈ vs
      · rw [if_pos hm, if_pos (List.mem_cons_of_mem _ hm)]
      · rw [if_neg hm, if_neg (fun z => (List.mem_cons.mp z).elim (fun y => h y.symm) hm)]
theorem wipe_ext {σ τ : L2.St} {vs : List Nat} (hl : σ.length = τ.length) (h : ∀ i, i ∉ vs → σ[i]? = τ[i]?) : wipe σ vs = wipe τ vs := by
  apply List.ext_getElem?
  intro i
  rw [wipe_get, wipe_get]
  by_cases hm : i ∈ vs
  · rw [if_pos hm, if_pos hm]
    by_cases hi : i < σ.length
    · rw [List.getElem?_eq_getElem hi, List.getElem?_eq_getElem (by omega)]; rfl
    · rw [List.getElem?_eq_none (by omega), List.getElem?_eq_none (by omega)]
  · rw [if_neg hm, if_neg hm]; exact h i hm
theorem wipe_wipe {σ : L2.St} {vs : List Nat} : wipe (wipe σ vs) vs = wipe σ vs := wipe_ext (wipe_length σ vs) fun i hi => by rw [wipe_get, if_neg hi]
theorem wipe_set {σ : L2.St} {vs : List Nat} {j : Nat} {y : Option V} (h : j ∈ vs) : wipe (σ.set j y) vs = wipe σ vs := wipe_ext (List.length_set ..) fun i hi => by
  rw [List.getElem?_set_ne (fun z : j = i => hi (z ▸ h))]
theorem wipeE_len (e : En) : ∀ vs : List Nat, (wipeE e vs).length = e.length
  | [] => rfl
  | v :: vs => by show ((wipeE e vs).set v .no).length = _; rw [List.length_set, wipeE_len e vs]
theorem wipeE_no {e : En} {i : Nat} : ∀ {vs : List Nat}, i ∈ vs → i < e.length → (wipeE e vs)[i]? = some .no
  | v :: vs, h, hi => by
    show ((wipeE e vs).set v .no)[i]? = _
    by_cases hv : v = i
    · subst hv; exact List.getElem?_set_self (by rw [wipeE_len]; exact hi)
    · rw [List.getElem?_set_ne hv]
      exact wipeE_no ((List.mem_cons.mp h).resolve_left fun z => hv z.symm) hi
theorem wipeE_free {e : En} {v : Nat} : ∀ {vs : List Nat}, freeS e v = true → freeS (wipeE e vs) v = true
  | [], h => h
  | w :: vs, h => by
    have ih := wipeE_free (vs := vs) h
    unfold freeS at ih ⊢
    show (match ((wipeE e vs).set w .no)[v]? with | none => false | some (.pw _) => false | _ => true) = true
    by_cases hw : w = v
    · subst hw
      have hl : w < (wipeE e vs).length := by
        rw [wipeE_len]
        unfold freeS at h
        cases q : e[w]? with
        | none => rw [q] at h; cases h
        | some x => exact (List.getElem?_eq_some_iff.mp q).1
      rw [List.getElem?_set_self hl]
    · rw [List.getElem?_set_ne hw]; exact ih
section
variable {K : PySem.W.Frag}
theorem wipe_ok {s : Sta} (ok : EnOk K s) : ∀ (vs : List Nat), (∀ v ∈ vs, freeS s.en v = true) → ∃ fp, EnOk K ⟨s.B, s.H, wipe s.σ vs, wipeE s.en vs, fp⟩ ∧ Stp s ⟨s.B, s.H, wipe s.σ vs, wipeE s.en vs, fp⟩
  | [], _ => ⟨s.fp, ok, Stp.refl s⟩
  | v :: vs, h => by
    obtain ⟨fp, k1, k2⟩ := wipe_ok ok vs fun w hw => h w (List.mem_cons_of_mem _ hw)
    have hf := wipeE_free (vs := vs) (h v List.mem_cons_self)
    have hl : v < (wipeE s.en vs).length ∧ ∀ o, (wipeE s.en vs)[v]? ≠ some (.pw o) := by
      unfold freeS at hf
      cases q : (wipeE s.en vs)[v]? with
      | none => rw [q] at hf; cases hf
      | some x => exact ⟨(List.getElem?_eq_some_iff.mp q).1, fun o z => by rw [q] at hf; cases Option.some.inj z; cases hf⟩
    exact ⟨_, k1.put (x := .no) (ov := none) (fr := []) hl.1 rfl (fun _ z => by cases z) (fun _ z => by cases z), k2.trans (Stp.put hl.2 fun _ z => by cases z)⟩
theorem unwipe {t : Sta} {σ : L2.St} {vs : List Nat} (ok : EnOk K t) (hσ : t.σ = wipe σ vs) (hn : ∀ v ∈ vs, t.en[v]? = some .no) : EnOk K ⟨t.B, t.H, σ, t.en, t.fp⟩ where
  ex := ok.ex
  nt := ok.nt
  tb := ok.tb
  len := by show t.en.length = σ.length; rw [ok.len, hσ, wipe_length]
  sl := fun i x e => by
    obtain ⟨ov, e1, q⟩ := ok.sl i x e
    rw [hσ, wipe_get] at e1
    by_cases hv : i ∈ vs
    · rw [if_pos hv] at e1
      obtain ⟨w, hw, _⟩ := Option.map_eq_some_iff.mp e1
      have e : t.en[i]? = some x := e
      rw [hn i hv] at e
      cases e
      exact ⟨w, hw, q⟩
    · rw [if_neg hv] at e1; exact ⟨ov, e1, q⟩
  out := ok.out
  dj := ok.dj
  off := ok.off
end
def GOk (K : PySem.W.Frag) (vs : List Nat) (g : TG) (gD : D → En → Option En) : Prop := ∀ (v : V) (t : Sta) (d : D) (en' : En), EnOk K t → Rep K t.B d v → gD d t.en = some en' → ∀ Q : L2.St → Hp → Prop,
  (∀ t' : Sta, t'.en = en' → EnOk K t' → Stp t t' → t'.H = t.H → t'.B = t.B → wipe t'.σ vs = wipe t.σ vs → Q t'.σ t'.H) → g v t.σ t.H Q
theorem go_name {K : PySem.W.Frag} {vs : List Nat} {j : Nat} (hj : j ∈ vs) : GOk K vs (gName j) (gNm j) := fun v t d en' ok rp hg Q q => by
  obtain ⟨k1, k2⟩ := put_res (fr := []) ok (Stp.refl t) (v := v) (x := .va d) ⟨rfl, v, rfl, rp⟩ .nil hg
  exact q ⟨t.B, t.H, t.σ.set j (some v), en', fun i => if i = j then [] else t.fp i⟩ rfl k1 k2 rfl rfl (wipe_set hj)
def lcM (vs : List Nat) (g : D → En → Option En) (c : En → Option (Bool × En)) (f : En → Option (D × En)) : List D → En → Option (List D × En)
  | [], e => some ([], e)
  | d :: ds, e => (g d e).bind fun e1 => (c e1).bind fun p => if p.1 = true then (f p.2).bind fun q => if (vs.all (freeS q.2)) = true then (lcM vs g c f ds (wipeE q.2 vs)).bind fun r => some (q.1 :: r.1, r.2) else none
      else if (vs.all (freeS p.2)) = true then lcM vs g c f ds (wipeE p.2 vs) else none
def xLc (vs : List Nat) (it : En → Option (List D × En)) (g : D → En → Option En) (c : En → Option (Bool × En)) (f : En → Option (D × En)) : En → Option (Sl × En) := fun e => (it e).bind fun p => if (vs.all (freeS p.2) && decide (p.1.length < 100000)) = true then (lcM vs g c f p.1 (wipeE p.2 vs)).bind fun r => some (.ow (.o1 (.lst r.1)), r.2) else none
theorem lcM_len {vs : List Nat} {g : D → En → Option En} {c : En → Option (Bool × En)} {f : En → Option (D × En)} : ∀ {ds : List D} {e : En} {r : List D × En}, lcM vs g c f ds e = some r → r.1.length ≤ ds.length
  | [], e, r, h => by cases h; exact Nat.le_refl _
  | d :: ds, e, r, h => by
    obtain ⟨e1, h1, h2⟩ := Option.bind_eq_some_iff.mp h
    obtain ⟨p, h3, h4⟩ := Option.bind_eq_some_iff.mp h2
    split at h4
    · obtain ⟨q, h5, h6⟩ := Option.bind_eq_some_iff.mp h4
      split at h6
      · obtain ⟨r1, h7, h8⟩ := Option.bind_eq_some_iff.mp h6
        cases h8
        exact Nat.succ_le_succ (lcM_len h7)
      · cases h6
    · split at h4
      · exact Nat.le_succ_of_le (lcM_len h4)
      · cases h4
section
variable {K : PySem.W.Frag} {vs : List Nat} {it : En → Option (List D × En)} {g : TG} {gD : D → En → Option En} {c : En → Option (Bool × En)} {f : En → Option (D × En)}
theorem rd_lc (hG : GOk K vs g gD) : ∀ σ H Q, rdE K (xLc vs it gD c f) σ H Q → tLc (rdI K it) g (rdT K c) (rdV K f) vs σ H Q := fun σ H Q ⟨s, e1, e2, ok, r, en', hf, q⟩ => by
  obtain ⟨⟨ds, en1⟩, k1, k2⟩ := Option.bind_eq_some_iff.mp hf
  replace k2 : (if (vs.all (freeS en1) && decide (ds.length < 100000)) = true then (lcM vs gD c f ds (wipeE en1 vs)).bind fun r => some (Sl.ow (.o1 (.lst r.1)), r.2) else none) = some (r, en') := k2
  split at k2
  · rename_i hv
    obtain ⟨hv, hz⟩ := Bool.and_eq_true_iff.mp hv
    have hz : ds.length < 100000 := of_decide_eq_true hz
    obtain ⟨⟨out, en2⟩, k3, k4⟩ := Option.bind_eq_some_iff.mp k2
    cases k4
    refine ⟨s, e1, e2, ok, ds, en1, k1, fun t J tσ te okt stt itk Dl hD => ?_⟩
    obtain ⟨fp0, w1, w2⟩ := wipe_ok okt vs fun v hv' => by rw [te]; exact List.all_eq_true.mp hv v hv'
    have bD : t.B Dl = none := fresh_back okt.ex hD
    -- the invariant
    refine ⟨fun i m H' => m = ds.length - i ∧ i ≤ ds.length ∧ ∃ (u : Sta) (done rest : List D) (acc : List V), u.σ = wipe σ vs ∧ u.H = H' ∧ EnOk K u ∧ Stp s u ∧ Ex t.B u.B ∧ (∀ v ∈ vs, u.en[v]? = some .no) ∧ ¬ inF u.fp Dl ∧ u.B Dl = none ∧ H' Dl = some (.lst acc) ∧ RepL K u.B done acc ∧ lcM vs gD c f (ds.drop i) u.en = some (rest, en2) ∧ done ++ rest = out ∧ done.length ≤ i, ?_, ?_⟩
    · refine ⟨_, rfl, Nat.zero_le _, ⟨t.B, upd t.H Dl (.lst []), wipe t.σ vs, wipeE t.en vs, fp0⟩, [], out, [], by rw [tσ], rfl, ?_, ?_, Ex.refl _, fun v hv' => wipeE_no hv' ?_, fun ⟨j, hj⟩ => ?_, bD, upd_same, rfl, by rw [te]; exact k3, rfl, Nat.le_refl _⟩
      · exact w1.alc (Ex.refl _) (Ex.new hD) (okt.ex.trans (Ex.new hD)) w1.off
      · exact (stt.trans w2).trans (Stp.alc (Ex.refl _) (Ex.new hD) fun _ _ z => .inl z)
      · have h1 := List.all_eq_true.mp hv v hv'
        rw [te]
        unfold freeS at h1
        cases q1 : en1[v]? with
        | none => rw [q1] at h1; cases h1
        | some x => exact (List.getElem?_eq_some_iff.mp q1).1
      · obtain ⟨x, hx, _⟩ := w1.cell ⟨j, hj⟩
        rw [show t.H Dl = some x from hx] at hD; cases hD
    · rintro i m H' ⟨rfl, hi, u, done, rest, acc, uσ, rfl, oku, stu, eu, un, nf, ub, hacc, rl, hl, ho, dl⟩
      have itu := itk.grow eu
      by_cases hlt : i < ds.length
      · refine .inr ⟨itu.go i u.H oku.ex hlt, fun H2 => ∃ (u : Sta) (done rest : List D) (acc : List V), u.σ = wipe σ vs ∧ u.H = H2 ∧ EnOk K u ∧ Stp s u ∧ Ex t.B u.B ∧ (∀ v ∈ vs, u.en[v]? = some .no) ∧ ¬ inF u.fp Dl ∧ u.B Dl = none ∧ H2 Dl = some (.lst acc) ∧ RepL K u.B done acc ∧ lcM vs gD c f (ds.drop (i + 1)) u.en = some (rest, en2) ∧ done ++ rest = out ∧ done.length ≤ i + 1, fun H2 z => ⟨_, by omega, rfl, hlt, z⟩, fun x H2 y => ?_⟩
        obtain ⟨d, B', hd, ok1, st1, rp, eb⟩ := itu.next oku (Stp.refl u) hlt y
        have hdrop : ds.drop i = d :: ds.drop (i + 1) := by
          rw [List.drop_eq_getElem_cons hlt]
          congr 1
          exact (List.getElem?_eq_some_iff.mp hd).2
        rw [hdrop] at hl
        obtain ⟨en3, l1, l2⟩ := Option.bind_eq_some_iff.mp hl
        obtain ⟨⟨b, en4⟩, l3, l4⟩ := Option.bind_eq_some_iff.mp l2
        rw [← uσ]
        refine hG x ⟨B', H2, u.σ, u.en, u.fp⟩ d en3 ok1 rp l1 _ fun t1 t1e ok2 st2 t1H t1B t1w => ⟨by rw [t1w]; show wipe u.σ vs = u.σ; rw [uσ, wipe_wipe], t1, rfl, rfl, ok2, b, en4, by rw [t1e]; exact l3, fun t2 t2σ t2e ok3 st3 => ?_⟩
        have stA : Stp u t2 := (st1.trans st2).trans st3
        -- what lies beside
        have side : ∀ (z : Sta), EnOk K z → Stp u z → z.H Dl = some (.lst acc) ∧ ¬ inF z.fp Dl ∧ z.B Dl = none ∧ RepL K z.B done acc := fun z okz stz => by
          refine ⟨stz.hh Dl _ hacc nf (fun ps z => by cases z), (fun w => (stz.ff Dl w).elim nf fun y => by rw [hacc] at y; cases y), ?_, rl.mono stz.bb⟩
          cases ez : z.B Dl with
          | none => rfl
          | some o =>
            rcases stz.bn Dl o ez with y | y | y
            · rw [ub] at y; cases y
            · rw [hacc] at y; cases y
            · exact (nf y).elim
        have inl : ∀ (z : Sta), (vs.all (freeS z.en)) = true → ∀ v ∈ vs, v < z.en.length := fun z hz' v hv' => by
          have h1 := List.all_eq_true.mp hz' v hv'
          unfold freeS at h1
          cases q1 : z.en[v]? with
          | none => rw [q1] at h1; cases h1
          | some x => exact (List.getElem?_eq_some_iff.mp q1).1
        have wσ : wipe t2.σ vs = u.σ := by rw [t2σ, t1w]; show wipe u.σ vs = _; rw [uσ, wipe_wipe]
        cases b with
        | false =>
          dsimp only
          rw [if_neg Bool.false_ne_true]
          replace l4 : (if (vs.all (freeS en4)) = true then lcM vs gD c f (ds.drop (i + 1)) (wipeE en4 vs) else none) = some (rest, en2) := l4
          split at l4
          · rename_i hfr
            obtain ⟨fp1, x1, x2⟩ := wipe_ok ok3 vs fun v hv' => by rw [t2e]; exact List.all_eq_true.mp hfr v hv'
            obtain ⟨y1, y2, y3, y4⟩ := side _ x1 (stA.trans x2)
            exact ⟨⟨t2.B, t2.H, wipe t2.σ vs, wipeE t2.en vs, fp1⟩, done, rest, acc, wσ, rfl, x1, (stu.trans stA).trans x2, eu.trans (stA.trans x2).bb, fun v hv' => wipeE_no hv' (inl t2 (by rw [t2e]; exact hfr) v hv'), y2, y3, y1, y4, by show lcM vs gD c f _ (wipeE t2.en vs) = _; rw [t2e]; exact l4, ho, by omega⟩
          · cases l4
        | true =>
          dsimp only
          rw [if_pos rfl]
          obtain ⟨⟨d1, en5⟩, l5, l6⟩ := Option.bind_eq_some_iff.mp l4
          replace l6 : (if (vs.all (freeS en5)) = true then (lcM vs gD c f (ds.drop (i + 1)) (wipeE en5 vs)).bind fun r => some (d1 :: r.1, r.2) else none) = some (rest, en2) := l6
          split at l6
          · rename_i hfr
            obtain ⟨⟨rest2, en6⟩, l7, l8⟩ := Option.bind_eq_some_iff.mp l6
            cases l8
            refine ⟨t2, t2σ, rfl, ok3, d1, en5, by rw [t2e]; exact l5, fun v t3 t3σ t3e ok4 st4 rp4 => ?_⟩
            have stB : Stp u t3 := stA.trans st4
            obtain ⟨y1, y2, y3, y4⟩ := side t3 ok4 stB
            refine ⟨acc, y1, sz_lt (by rw [rl.len]; have := lcM_len k3; have e := congrArg List.length ho; simp at e; simp at this; omega), ?_⟩
            -- the list grows
            have cellD : ∀ j a, a ∈ t3.fp j → a ≠ Dl := fun j a ha z => y2 ⟨j, z ▸ ha⟩
            have ok5 : EnOk K ⟨t3.B, upd t3.H Dl (.lst (acc ++ [v])), t3.σ, t3.en, t3.fp⟩ := ⟨fun a o ea => by
                show upd t3.H Dl _ a = some o
                have ea : t3.B a = some o := ea
                rw [upd_ne fun z => by rw [z, y3] at ea; cases ea]; exact ok4.ex a o ea, ok4.len, fun j z ej => by
                obtain ⟨ov, e1, qs⟩ := ok4.sl j z ej
                exact ⟨ov, e1, qs.mono (Ex.refl _) fun a ha => upd_ne (cellD j a ha)⟩, ok4.out, ok4.dj, ok4.off, ok4.nt, ok4.tb.own y1 trivial⟩
            obtain ⟨fp1, x1, x2⟩ := wipe_ok ok5 vs fun v hv' => by show freeS t3.en v = true; rw [t3e]; exact List.all_eq_true.mp hfr v hv'
            have st5 : Stp s ⟨t3.B, upd t3.H Dl (.lst (acc ++ [v])), t3.σ, t3.en, t3.fp⟩ := by
              have sB := stu.trans stB
              refine ⟨sB.bb, sB.bn, fun a o ha n nt => ?_, fun a ha => ?_, sB.ff, sB.pn, sB.ln⟩
              · show upd t3.H Dl _ a = some o
                rw [upd_ne ?_]
                · exact sB.hh a o ha n nt
                · intro z
                  subst z
                  have : t.H a = none := hD
                  rw [stt.hh a o ha n nt] at this; cases this
              · replace ha : upd t3.H Dl _ a = none := ha
                by_cases z : a = Dl
                · rw [z, upd_same] at ha; cases ha
                · rw [upd_ne z] at ha; exact sB.dm a ha
            exact ⟨⟨t3.B, upd t3.H Dl (.lst (acc ++ [v])), wipe t3.σ vs, wipeE t3.en vs, fp1⟩, done ++ [d1], rest2, acc ++ [v], by show wipe t3.σ vs = _; rw [t3σ, ← t2σ]; exact wσ, rfl, x1, st5.trans x2, (eu.trans stB.bb).trans x2.bb, fun w hw => wipeE_no hw (inl t3 (by rw [t3e]; exact hfr) w hw), fun z => y2 ((x2.ff Dl z).elim id fun y => by
                have : upd t3.H Dl (.lst (acc ++ [v])) Dl = none := y
                rw [upd_same] at this; cases this), y3, upd_same, y4.append (.one rp4), by show lcM vs gD c f _ (wipeE t3.en vs) = _; rw [t3e]; exact l7, by rw [List.append_assoc]; exact ho, by simp; omega⟩
          · cases l6
      · have e : i = ds.length := by omega
        subst e
        rw [List.drop_length] at hl
        cases hl
        refine .inl ⟨itu.stop u.H oku.ex, ?_⟩
        rw [List.append_nil] at ho
        subst ho
        have ok6 := unwipe oku uσ un
        refine q (.ref Dl) ⟨u.B, u.H, σ, u.en, u.fp⟩ [Dl] rfl rfl ok6 ⟨stu.bb, stu.bn, stu.hh, stu.dm, stu.ff, fun j o ej => ?_, stu.ln⟩ ⟨_, rfl, Dl, rfl, rfl, acc, hacc, rl⟩ ⟨fun a ha => ?_, fun a ha => ?_, fun a ha => ?_⟩
        · obtain ⟨p1, p2⟩ := stu.pn j o ej
          exact ⟨by show σ[j]? = _; rw [e1], p2⟩
        · cases List.mem_singleton.mp ha; exact nf
        · cases List.mem_singleton.mp ha; exact ub
        · cases List.mem_singleton.mp ha; exact .inl (stt.dm Dl hD)
  · cases k2
end
section
variable {X : Cx} {e : Expr} {st : Stmt} {i : Nat} {vs : List Nat} {it : En → Option (List D × En)} {g : TG} {gD : D → En → Option En} {c : En → Option (Bool × En)} {f : En → Option (D × En)} {h : En → Option (Sl × En)}
theorem xe_lc (hG : GOk X.K vs g gD) (h : PE X e (tLc (rdI X.K it) g (rdT X.K c) (rdV X.K f) vs)) : PE X e (rdE X.K (xLc vs it gD c f)) := PEi h (rd_lc hG)
theorem rd_bor {K : PySem.W.Frag} : ∀ σ H Q, rdE K (xBor h) σ H Q → rdE K h σ H Q := fun σ H Q ⟨s, e1, e2, ok, r, en', hf, q⟩ => by
  obtain ⟨⟨r1, en1⟩, k1, k2⟩ := Option.bind_eq_some_iff.mp hf
  replace k2 : (if (!(s.en.any Sl.own) || r1.leaf) = true then some (r1, s.en) else none) = some (r, en') := k2
  split at k2
  · rename_i hl
    cases k2
    refine ⟨viewS s, e1, e2, viewS_ok ok, r, en1, k1, fun v t fr tσ te okt st sl sd => ?_⟩
    obtain ⟨k3, k4⟩ := unS_ok ok okt st
    refine q v (unS s t) fr e1 rfl k3 k4 ?_ (un_side ok sd)
    cases ho : s.en.any Sl.own with
    | false =>
      show SlOk K (unB s t) t.H (some v) r fr
      rw [unB_all ok ho]; exact sl
    | true =>
      rw [ho] at hl
      exact sl.leaf (unB_tup ok okt st) (by simpa using hl)
  · cases k2
theorem xs_setLc (hG : GOk X.K vs g gD) (h : PS X st (tAsg (tLc (rdI X.K it) g (rdT X.K c) (rdV X.K f) vs) (gName i))) : PS X st (rdS X.K W (xSet i (xLc vs it gD c f))) := PSi h fun D σ H hh => rd_lc hG σ H _ (rd_set D σ H hh)
theorem xs_setLcB (hG : GOk X.K vs g gD) (h : PS X st (tAsg (tLc (rdI X.K it) g (rdT X.K c) (rdV X.K f) vs) (gName i))) : PS X st (rdS X.K W (xSet i (xBor (xLc vs it gD c f)))) := PSi h fun D σ H hh => rd_lc hG σ H _ (rd_bor σ H _ (rd_set D σ H hh))
theorem xts_nil : PTs X [] (rdT X.K xYes) := PTsi pts_nil fun σ H Q ⟨s, e1, e2, ok, b, en', hf, q⟩ => by
  cases hf
  show Q true H
  rw [← e2]
  exact q s e1 rfl ok (Stp.refl s)
end
def pI (g : Int → Int → D) : List D → Option Sl
  | [.int i, .int j] => some (.va (g i j))
  | _ => none
def pIc (c : Int → Int → Bool) (g : Int → Int → D) : List D → Option Sl
  | [.int i, .int j] => if c i j = true then some (.va (g i j)) else none
  | _ => none
def pU (g : Int → D) : List D → Option Sl
  | [.int i] => some (.va (g i))
  | _ => none
section
variable {K : PySem.W.Frag}
theorem two_of {B : Hp} {x y : D} {vs : List V} (h : RepL K B [x, y] vs) : ∃ v w, vs = [v, w] ∧ Rep K B x v ∧ Rep K B y w := by
  obtain ⟨v, r, rfl, r1, w, r', rfl, r2, r3⟩ := h
  cases (show r' = [] from r3)
  exact ⟨v, w, rfl, r1, r2⟩
theorem one_of {B : Hp} {x : D} {vs : List V} (h : RepL K B [x] vs) : ∃ v, vs = [v] ∧ Rep K B x v := by
  obtain ⟨v, r, rfl, r1, r2⟩ := h
  cases (show r = [] from r2)
  exact ⟨v, rfl, r1⟩
theorem ps_I0 {g : Int → Int → V} {gD : Int → Int → D} (h : ∀ i j B, Rep K B (gD i j) (g i j)) : PrS K (r2L (rI0 g)) (pI gD) := PrS.val fun B H ds vs x e rp hg => by
  match ds, hg with
  | [.int i, .int j], hg =>
    cases hg
    obtain ⟨v, w, rfl, r1, r2⟩ := two_of rp
    cases (show v = .int i from r1)
    cases (show w = .int j from r2)
    exact ⟨_, _, rfl, h i j B, fun Q q => ⟨i, j, rfl, rfl, q⟩⟩
theorem ps_I {C : Int → Int → Prop} {c : Int → Int → Bool} {g : Int → Int → V} {gD : Int → Int → D} (hc : ∀ i j, c i j = true → C i j) (h : ∀ i j B, Rep K B (gD i j) (g i j)) : PrS K (r2L (rI C g)) (pIc c gD) := PrS.val fun B H ds vs x e rp hg => by
  match ds, hg with
  | [.int i, .int j], hg =>
    replace hg : (if c i j = true then some (Sl.va (gD i j)) else none) = some x := hg
    split at hg
    · rename_i hcc
      cases hg
      obtain ⟨v, w, rfl, r1, r2⟩ := two_of rp
      cases (show v = .int i from r1)
      cases (show w = .int j from r2)
      exact ⟨_, _, rfl, h i j B, fun Q q => ⟨i, j, rfl, rfl, hc i j hcc, q⟩⟩
    · cases hg
theorem ps_U {g : Int → V} {gD : Int → D} (h : ∀ i B, Rep K B (gD i) (g i)) : PrS K (r1L (rU g)) (pU gD) := PrS.val fun B H ds vs x e rp hg => by
  match ds, hg with
  | [.int i], hg =>
    cases hg
    obtain ⟨v, rfl, r1⟩ := one_of rp
    cases (show v = .int i from r1)
    exact ⟨_, _, rfl, h i B, fun Q q => ⟨i, rfl, q⟩⟩
end
def pAdd := pI fun i j => .int (i + j)
def pSub := pI fun i j => .int (i - j)
def pLt := pI fun i j => .bl (decide (i < j))
def pLe := pI fun i j => .bl (decide (i ≤ j))
def pGt := pI fun i j => .bl (decide (j < i))
def pGe := pI fun i j => .bl (decide (j ≤ i))
def cMul (i j : Int) : Bool := decide (i.natAbs.log2 + j.natAbs.log2 < 1000000)
def pMul := pIc cMul fun i j => .int (i * j)
def cDiv (_ j : Int) : Bool := decide (0 < j) && decide (j.natAbs.log2 < 9000)
def pDiv := pIc cDiv fun i j => .int (i / j)
def cPos (_ j : Int) : Bool := decide (0 < j)
def pMod := pIc cPos fun i j => .int (i % j)
def cPow (i j : Int) : Bool := decide (0 ≤ j) && (decide (j ≤ 1000000) && decide (i.natAbs < 2 ^ 64))
def pPow := pIc cPow fun i j => .int (i ^ j.toNat)
def pNeg := pU fun i => .int (-i)
section
variable {K : PySem.W.Frag}
theorem ps_add : PrS K (r2L (rI0 fun i j => .int (i + j))) pAdd := ps_I0 fun _ _ _ => rfl
theorem ps_sub : PrS K (r2L (rI0 fun i j => .int (i - j))) pSub := ps_I0 fun _ _ _ => rfl
theorem ps_lt : PrS K (r2L (rI0 fun i j => .bl (decide (i < j)))) pLt := ps_I0 fun _ _ _ => rfl
theorem ps_le : PrS K (r2L (rI0 fun i j => .bl (decide (i ≤ j)))) pLe := ps_I0 fun _ _ _ => rfl
theorem ps_gt : PrS K (r2L (rI0 fun i j => .bl (decide (j < i)))) pGt := ps_I0 fun _ _ _ => rfl
theorem ps_mul : PrS K (r2L (rI CMulW fun i j => .int (i * j))) pMul := ps_I (fun i j h => (of_decide_eq_true (p := i.natAbs.log2 + j.natAbs.log2 < 1000000) h)) fun _ _ _ => rfl
theorem ps_div : PrS K (r2L (rI CDivW fun i j => .int (i / j))) pDiv := ps_I (fun _ _ h => let ⟨a, b⟩ := Bool.and_eq_true_iff.mp h; ⟨of_decide_eq_true a, of_decide_eq_true b⟩) fun _ _ _ => rfl
theorem ps_mod : PrS K (r2L (rI (fun _ j => 0 < j) fun i j => .int (i % j))) pMod := ps_I (fun _ _ h => of_decide_eq_true h) fun _ _ _ => rfl
theorem ps_pow : PrS K (r2L (rI CPow fun i j => .int (i ^ j.toNat))) pPow := ps_I (fun _ _ h => let ⟨a, b⟩ := Bool.and_eq_true_iff.mp h; let ⟨b, c⟩ := Bool.and_eq_true_iff.mp b; ⟨of_decide_eq_true a, of_decide_eq_true b, of_decide_eq_true c⟩) fun _ _ _ => rfl
theorem ps_neg : PrS K (r1L (rU fun i => .int (-i))) pNeg := ps_U fun _ _ => rfl
end
mutual
def D.toP : D → PyData
  | .bl b => .bool b
  | .int i => .int i
  | .str x => .str x
  | .lst ds => .list (D.toPs ds)
  | .tup _ ds => .tuple (D.toPs ds)
  | _ => .none
def D.toPs : List D → List PyData
  | [] => []
  | d :: ds => d.toP :: D.toPs ds
end
mutual
def D.pl : Nat → D → Bool
  | _, .non => true
  | _, .bl _ => true
  | _, .int _ => true
  | _, .str x => PySem.PyData.strOk x
  | n + 1, .lst ds => D.pls n ds
  | n + 1, .tup _ ds => D.pls n ds
  | _, _ => false
def D.pls : Nat → List D → Bool
  | _, [] => true
  | n, d :: ds => d.pl n && D.pls n ds
end
mutual
def D.eqv : D → D → Bool
  | .non, .non => true
  | .bl a, .bl b => a == b
  | .bl a, .int j => (if a then 1 else 0) == j
  | .int i, .bl b => i == (if b then 1 else 0)
  | .int i, .int j => i == j
  | .str x, .str y => x == y
  | .lst xs, .lst ys => D.eqvs xs ys
  | .tup _ xs, .tup _ ys => D.eqvs xs ys
  | _, _ => false
def D.eqvs : List D → List D → Bool
  | [], [] => true
  | x :: xs, y :: ys => x.eqv y && D.eqvs xs ys
  | _, _ => false
end
section
variable {K : PySem.W.Frag} {B : Hp}
mutual
theorem pl_dp : ∀ {n : Nat} {d : D} {v : V}, d.pl n = true → Rep K B d v → Dp K B v d.toP
  | _, .non, _, _, r => by cases (show _ = V.non from r); simp only [D.toP]; exact .non
  | _, .bl b, _, _, r => by cases (show _ = V.bl b from r); rw [D.toP]; exact .bl b
  | _, .int i, _, _, r => by cases (show _ = V.int i from r); rw [D.toP]; exact .int i
  | _, .str x, _, _, r => by cases (show _ = V.str x from r); rw [D.toP]; exact .str x
  | n + 1, .lst ds, _, h, ⟨a, vs, e, s, r⟩ => by rw [e, D.toP]; exact .lst (sq_of s) (pls_dp (by rw [D.pl] at h; exact h) r)
  | n + 1, .tup k ds, _, h, ⟨a, vs, e, s, r⟩ => by rw [e, D.toP]; exact .tup s.sq (pls_dp (by rw [D.pl] at h; exact h) r)
  | 0, .lst ds, _, h, _ => by rw [D.pl] at h; cases h; all_goals intros; contradiction
  | 0, .tup k ds, _, h, _ => by rw [D.pl] at h; cases h; all_goals intros; contradiction
  | n, .scr _, _, h, _ => by cases n <;> simp [D.pl] at h
  | n, .dct _ _, _, h, _ => by cases n <;> simp [D.pl] at h
  | n, .dcT _ _, _, h, _ => by cases n <;> simp [D.pl] at h
  | n, .obj _ _ _, _, h, _ => by cases n <;> simp [D.pl] at h
theorem pls_dp : ∀ {n : Nat} {ds : List D} {vs : List V}, D.pls n ds = true → RepL K B ds vs → DpAll K B vs (D.toPs ds)
  | _, [], _, _, r => by rw [show _ = [] from r, D.toPs]; exact .nil
  | n, d :: ds, _, h, ⟨v, r, e, a, b⟩ => by
    obtain ⟨h1, h2⟩ : d.pl n = true ∧ D.pls n ds = true := by rw [D.pls] at h; exact Bool.and_eq_true_iff.mp h
    rw [e, D.toPs]
    exact .cons (pl_dp h1 a) (pls_dp h2 b)
end
end
mutual
theorem pl_lay : ∀ {n : Nat} {d : D}, d.pl n = true → d.toP.canLay0 = true ∧ d.toP.depth ≤ n
  | _, .non, _ => by simp [D.toP, PyData.canLay0, PyData.depth]
  | _, .bl b, _ => by simp [D.toP, PyData.canLay0, PyData.depth]
  | _, .int i, _ => by simp [D.toP, PyData.canLay0, PyData.depth]
  | _, .str x, h => by simp only [D.pl] at h; simp [D.toP, PyData.canLay0, PyData.depth, h]
  | n + 1, .lst ds, h => by
    simp only [D.pl] at h
    have := pls_lay h
    simp [D.toP, PyData.canLay0, PyData.depth, this.1, this.2]
  | n + 1, .tup k ds, h => by
    simp only [D.pl] at h
    have := pls_lay h
    simp [D.toP, PyData.canLay0, PyData.depth, this.1, this.2]
  | 0, .lst ds, h => by simp [D.pl] at h
  | 0, .tup k ds, h => by simp [D.pl] at h
  | n, .scr _, h => by cases n <;> simp [D.pl] at h
  | n, .dct _ _, h => by cases n <;> simp [D.pl] at h
  | n, .dcT _ _, h => by cases n <;> simp [D.pl] at h
  | n, .obj _ _ _, h => by cases n <;> simp [D.pl] at h
theorem pls_lay : ∀ {n : Nat} {ds : List D}, D.pls n ds = true → PyData.canLayAll0 (D.toPs ds) = true ∧ PyData.depthAll (D.toPs ds) ≤ n
  | _, [], _ => by simp [D.toPs, PyData.canLayAll0, PyData.depthAll]
  | n, d :: ds, h => by
    obtain ⟨h1, h2⟩ : d.pl n = true ∧ D.pls n ds = true := by rw [D.pls] at h; exact Bool.and_eq_true_iff.mp h
    have a := pl_lay h1
    have b := pls_lay h2
    simp [D.toPs, PyData.canLayAll0, PyData.depthAll, a.1, b.1]
    exact Nat.max_le.mpr ⟨a.2, b.2⟩
end
theorem pl_shaped {d : D} (h : d.pl 40 = true) : SeqAt.shaped d.toP = true := by
  have := pl_lay h
  unfold SeqAt.shaped
  rw [this.1, decide_eq_true (by omega : d.toP.depth ≤ 64)]
  rfl
mutual
theorem eqv_toP : ∀ {n : Nat} {d e : D}, d.pl n = true → e.pl n = true → PyData.eqv d.toP e.toP = d.eqv e
  | n, .non, e, _, h => by cases e <;> cases n <;> simp [D.toP, D.eqv, PyData.eqv, D.pl] at h ⊢
  | n, .bl b, e, _, h => by cases e <;> cases n <;> simp [D.toP, D.eqv, PyData.eqv, D.pl] at h ⊢
  | n, .int b, e, _, h => by cases e <;> cases n <;> simp [D.toP, D.eqv, PyData.eqv, D.pl] at h ⊢
  | n, .str b, e, _, h => by cases e <;> cases n <;> simp [D.toP, D.eqv, PyData.eqv, D.pl] at h ⊢
  | n + 1, .lst ds, e, g, h => by
    cases e with
    | lst es => simp only [D.pl] at g h; simp only [D.toP, D.eqv, PyData.eqv]; exact eqvs_toP g h
    | _ => simp [D.toP, D.eqv, PyData.eqv, D.pl] at h ⊢
  | n + 1, .tup _ ds, e, g, h => by
    cases e with
    | tup _ es => simp only [D.pl] at g h; simp only [D.toP, D.eqv, PyData.eqv]; exact eqvs_toP g h
    | _ => simp [D.toP, D.eqv, PyData.eqv, D.pl] at h ⊢
  | 0, .lst ds, e, h, _ => by simp [D.pl] at h
  | 0, .tup k ds, e, h, _ => by simp [D.pl] at h
  | n, .scr _, e, h, _ => by cases n <;> simp [D.pl] at h
  | n, .dct _ _, e, h, _ => by cases n <;> simp [D.pl] at h
  | n, .dcT _ _, e, h, _ => by cases n <;> simp [D.pl] at h
  | n, .obj _ _ _, e, h, _ => by cases n <;> simp [D.pl] at h
theorem eqvs_toP : ∀ {n : Nat} {ds es : List D}, D.pls n ds = true → D.pls n es = true → PyData.eqvAll (D.toPs ds) (D.toPs es) = D.eqvs ds es
  | n, [], [], _, _ => by simp [D.toPs, PyData.eqvAll, D.eqvs]
  | n, [], e :: es, _, _ => by simp [D.toPs, PyData.eqvAll, D.eqvs]
  | n, d :: ds, [], _, _ => by simp [D.toPs, PyData.eqvAll, D.eqvs]
  | n, d :: ds, e :: es, g, h => by
    obtain ⟨g1, g2⟩ : d.pl n = true ∧ D.pls n ds = true := by rw [D.pls] at g; exact Bool.and_eq_true_iff.mp g
    obtain ⟨h1, h2⟩ : e.pl n = true ∧ D.pls n es = true := by rw [D.pls] at h; exact Bool.and_eq_true_iff.mp h
    simp only [D.toPs, PyData.eqvAll, D.eqvs]
    rw [eqv_toP g1 h1, eqvs_toP g2 h2]
end
def pEq : List D → Option Sl
  | [x, y] => if (x.pl 40 && y.pl 40) = true then some (.va (.bl (x.eqv y))) else none
  | _ => none
def pNe : List D → Option Sl
  | [x, y] => if (x.pl 40 && y.pl 40) = true then some (.va (.bl (!x.eqv y))) else none
  | _ => none
def pIn : List D → Option Sl
  | [x, .lst ys] => if (x.pl 40 && D.pls 39 ys) = true then some (.va (.bl (ys.any fun y => y.eqv x))) else none
  | _ => none
def pNin : List D → Option Sl
  | [x, .lst ys] => if (x.pl 40 && D.pls 39 ys) = true then some (.va (.bl (!ys.any fun y => y.eqv x))) else none
  | _ => none
def D.fl : D → Bool
  | .non => true
  | .bl _ => true
  | .int _ => true
  | .str _ => true
  | _ => false
def pInT : List D → Option Sl
  | [x, .tup _ ys] => if (x.fl && ys.all D.fl) = true then some (.va (.bl (ys.any fun y => y.eqv x))) else none
  | _ => none
def pNinT : List D → Option Sl
  | [x, .tup _ ys] => if (x.fl && ys.all D.fl) = true then some (.va (.bl (!ys.any fun y => y.eqv x))) else none
  | _ => none
mutual
theorem pl_up : ∀ {n : Nat} {d : D}, d.pl n = true → d.pl (n + 1) = true
  | _, .non, _ => by simp [D.pl]
  | _, .bl b, _ => by simp [D.pl]
  | _, .int i, _ => by simp [D.pl]
  | n, .str x, h => by simp only [D.pl] at h ⊢; exact h
  | n + 1, .lst ds, h => by simp only [D.pl] at h ⊢; exact pls_up h
  | n + 1, .tup k ds, h => by simp only [D.pl] at h ⊢; exact pls_up h
  | 0, .lst ds, h => by simp [D.pl] at h
  | 0, .tup k ds, h => by simp [D.pl] at h
  | n, .scr _, h => by cases n <;> simp [D.pl] at h
  | n, .dct _ _, h => by cases n <;> simp [D.pl] at h
  | n, .dcT _ _, h => by cases n <;> simp [D.pl] at h
  | n, .obj _ _ _, h => by cases n <;> simp [D.pl] at h
theorem pls_up : ∀ {n : Nat} {ds : List D}, D.pls n ds = true → D.pls (n + 1) ds = true
  | _, [], _ => by simp [D.pls]
  | n, d :: ds, h => by
    obtain ⟨h1, h2⟩ : d.pl n = true ∧ D.pls n ds = true := by rw [D.pls] at h; exact Bool.and_eq_true_iff.mp h
    rw [D.pls, pl_up h1, pls_up h2]
    rfl
end
theorem any_toPs {x : D} (hx : x.pl 40 = true) : ∀ {ys : List D}, D.pls 40 ys = true → ((D.toPs ys).any fun z => PyData.eqv z x.toP) = ys.any fun y => y.eqv x
  | [], _ => by simp [D.toPs]
  | y :: ys, h => by
    obtain ⟨h1, h2⟩ : y.pl 40 = true ∧ D.pls 40 ys = true := by rw [D.pls] at h; exact Bool.and_eq_true_iff.mp h
    rw [D.toPs, List.any_cons, List.any_cons, eqv_toP h1 hx, any_toPs hx h2]
section
variable {K : PySem.W.Frag}
theorem ps_eq : PrS K (r2L (rEqD K)) pEq := PrS.val fun B H ds vs x e rp hg => by
  match ds, hg with
  | [a, b], hg =>
    replace hg : (if (a.pl 40 && b.pl 40) = true then some (Sl.va (.bl (a.eqv b))) else none) = some x := hg
    split at hg
    · rename_i hp
      obtain ⟨ha, hb⟩ := Bool.and_eq_true_iff.mp hp
      cases hg
      obtain ⟨v, w, rfl, r1, r2⟩ := two_of rp
      exact ⟨_, .bl (a.eqv b), rfl, rfl, fun Q q => ⟨_, _, pl_dp ha (r1.mono e), pl_dp hb (r2.mono e), pl_shaped ha, pl_shaped hb, by rw [eqv_toP ha hb]; exact q⟩⟩
    · cases hg
theorem ps_ne : PrS K (r2L (rNeD K)) pNe := PrS.val fun B H ds vs x e rp hg => by
  match ds, hg with
  | [a, b], hg =>
    replace hg : (if (a.pl 40 && b.pl 40) = true then some (Sl.va (.bl (!a.eqv b))) else none) = some x := hg
    split at hg
    · rename_i hp
      obtain ⟨ha, hb⟩ := Bool.and_eq_true_iff.mp hp
      cases hg
      obtain ⟨v, w, rfl, r1, r2⟩ := two_of rp
      exact ⟨_, .bl (!a.eqv b), rfl, rfl, fun Q q => ⟨_, _, pl_dp ha (r1.mono e), pl_dp hb (r2.mono e), pl_shaped ha, pl_shaped hb, by rw [eqv_toP ha hb]; exact q⟩⟩
    · cases hg
theorem in_core {x : D} {ys : List D} {B H : Hp} {v w : V} (e : Ex B H) (hp : (x.pl 40 && D.pls 39 ys) = true) (r1 : Rep K B x v) (r2 : Rep K B (.lst ys) w) : ∃ d es, Dp K H v d ∧ Dp K H w (.list es) ∧ SeqAt.shaped d = true ∧ SeqAt.shaped (.list es) = true ∧ (es.any fun z => PyData.eqv z d) = ys.any fun y => y.eqv x := by
  obtain ⟨hx, hy⟩ := Bool.and_eq_true_iff.mp hp
  have hl : (D.lst ys).pl 40 = true := by rw [D.pl]; exact hy
  refine ⟨x.toP, D.toPs ys, pl_dp hx (r1.mono e), ?_, pl_shaped hx, ?_, any_toPs hx (pls_up hy)⟩
  · have := pl_dp hl (r2.mono e); rw [D.toP] at this; exact this
  · have := pl_shaped hl; rw [D.toP] at this; exact this
theorem ps_in : PrS K (r2L (rInD K)) pIn := PrS.val fun B H ds vs x e rp hg => by
  match ds, hg with
  | [a, .lst ys], hg =>
    replace hg : (if (a.pl 40 && D.pls 39 ys) = true then some (Sl.va (.bl (ys.any fun y => y.eqv a))) else none) = some x := hg
    split at hg
    · rename_i hp
      cases hg
      obtain ⟨v, w, rfl, r1, r2⟩ := two_of rp
      obtain ⟨d, es, k1, k2, k3, k4, k5⟩ := in_core e hp r1 r2
      exact ⟨_, .bl _, rfl, rfl, fun Q q => ⟨d, es, k1, k2, k3, k4, by rw [k5]; exact q⟩⟩
    · cases hg
theorem ps_nin : PrS K (r2L (rNotInD K)) pNin := PrS.val fun B H ds vs x e rp hg => by
  match ds, hg with
  | [a, .lst ys], hg =>
    replace hg : (if (a.pl 40 && D.pls 39 ys) = true then some (Sl.va (.bl (!ys.any fun y => y.eqv a))) else none) = some x := hg
    split at hg
    · rename_i hp
      cases hg
      obtain ⟨v, w, rfl, r1, r2⟩ := two_of rp
      obtain ⟨d, es, k1, k2, k3, k4, k5⟩ := in_core e hp r1 r2
      exact ⟨_, .bl _, rfl, rfl, fun Q q => ⟨d, es, k1, k2, k3, k4, by rw [k5]; exact q⟩⟩
    · cases hg
theorem fl_V {d : D} {B : Hp} {v : V} (h : d.fl = true) (r : Rep K B d v) : flatV v = true ∧ ∀ {e : D} {w : V}, e.fl = true → Rep K B e w → eqV w v = e.eqv d := by
  cases d with
  | non => cases (show v = .non from r); exact ⟨rfl, fun {e w} he re => by cases e <;> first | (cases he; done) | (cases (show w = _ from re); simp [eqV, D.eqv])⟩
  | bl b => cases (show v = .bl b from r); exact ⟨rfl, fun {e w} he re => by cases e <;> first | (cases he; done) | (cases (show w = _ from re); simp [eqV, D.eqv])⟩
  | int b => cases (show v = .int b from r); exact ⟨rfl, fun {e w} he re => by cases e <;> first | (cases he; done) | (cases (show w = _ from re); simp [eqV, D.eqv])⟩
  | str b => cases (show v = .str b from r); exact ⟨rfl, fun {e w} he re => by cases e <;> first | (cases he; done) | (cases (show w = _ from re); simp [eqV, D.eqv])⟩
  | _ => cases h
theorem fl_in {d : D} {B : Hp} {v : V} (h : d.fl = true) (r : Rep K B d v) : ∀ {ys : List D} {ws : List V}, ys.all D.fl = true → RepL K B ys ws → ws.all flatV = true ∧ inV v ws = ys.any fun y => y.eqv d
  | [], _, _, rl => by rw [show _ = [] from rl]; exact ⟨rfl, rfl⟩
  | y :: ys, _, hy, ⟨w, r', e, a, b⟩ => by
    obtain ⟨h1, h2⟩ : y.fl = true ∧ ys.all D.fl = true := by simpa using hy
    obtain ⟨i1, i2⟩ := fl_in h r h2 b
    rw [e]
    refine ⟨by simp [(fl_V h1 a).1, i1], ?_⟩
    show (eqV w v || inV v r') = (y.eqv d || _)
    rw [(fl_V h r).2 h1 a, i2]
theorem ps_inT : PrS K (r2L (rIn K false)) pInT := PrS.val fun B H ds vs x e rp hg => by
  match ds, hg with
  | [a, .tup k ys], hg =>
    replace hg : (if (a.fl && ys.all D.fl) = true then some (Sl.va (.bl (ys.any fun y => y.eqv a))) else none) = some x := hg
    split at hg
    · rename_i hp
      obtain ⟨h1, h2⟩ := Bool.and_eq_true_iff.mp hp
      cases hg
      obtain ⟨v, w, rfl, r1, p, ws, rfl, sq, rl⟩ := two_of rp
      obtain ⟨k1, k2⟩ := fl_in h1 r1 h2 rl
      exact ⟨_, .bl _, rfl, rfl, fun Q q => ⟨p, ws, rfl, .inr (ex_t e sq.sq), (fl_V h1 r1).1, k1, by rw [if_neg Bool.false_ne_true, k2]; exact q⟩⟩
    · cases hg
theorem ps_ninT : PrS K (r2L (rIn K true)) pNinT := PrS.val fun B H ds vs x e rp hg => by
  match ds, hg with
  | [a, .tup k ys], hg =>
    replace hg : (if (a.fl && ys.all D.fl) = true then some (Sl.va (.bl (!ys.any fun y => y.eqv a))) else none) = some x := hg
    split at hg
    · rename_i hp
      obtain ⟨h1, h2⟩ := Bool.and_eq_true_iff.mp hp
      cases hg
      obtain ⟨v, w, rfl, r1, p, ws, rfl, sq, rl⟩ := two_of rp
      obtain ⟨k1, k2⟩ := fl_in h1 r1 h2 rl
      exact ⟨_, .bl _, rfl, rfl, fun Q q => ⟨p, ws, rfl, .inr (ex_t e sq.sq), (fl_V h1 r1).1, k1, by rw [if_pos rfl, k2]; exact q⟩⟩
    · cases hg
end
def D.isN : D → Bool
  | .non => true
  | _ => false
theorem isN_rep {K : PySem.W.Frag} {B : Hp} {d : D} {v : V} (r : Rep K B d v) : decide (v = .non) = d.isN := by
  cases d with
  | non => cases (show v = .non from r); rfl
  | bl b => cases (show v = .bl b from r); rfl
  | int b => cases (show v = .int b from r); rfl
  | str b => cases (show v = .str b from r); rfl
  | scr _ => obtain ⟨a, rfl, _⟩ := r; rfl
  | lst _ => obtain ⟨a, _, rfl, _⟩ := r; rfl
  | tup _ _ => obtain ⟨a, _, rfl, _⟩ := r; rfl
  | dct _ _ => obtain ⟨a, _, rfl, _⟩ := r; rfl
  | dcT _ _ => obtain ⟨a, _, rfl, _⟩ := r; rfl
  | obj _ _ _ => obtain ⟨a, _, _, rfl, _⟩ := r; rfl
def pIsN : List D → Option Sl
  | [x, .non] => some (.va (.bl x.isN))
  | _ => none
def pNotN : List D → Option Sl
  | [x, .non] => some (.va (.bl (!x.isN)))
  | _ => none
def pIsB : List D → Option Sl
  | [.bl a, .bl b] => some (.va (.bl (decide (a = b))))
  | _ => none
def pNotB : List D → Option Sl
  | [.bl a, .bl b] => some (.va (.bl (!decide (a = b))))
  | _ => none
section
variable {K : PySem.W.Frag}
theorem ps_notN : PrS K (r2L fun x y H Q => y = .non ∧ Q (.bl (!decide (x = .non))) H) pNotN := PrS.val fun B H ds vs x e rp hg => by
  match ds, hg with
  | [a, .non], hg =>
    cases hg
    obtain ⟨v, w, rfl, r1, r2⟩ := two_of rp
    exact ⟨_, .bl _, rfl, rfl, fun Q q => ⟨r2, by rw [isN_rep r1]; exact q⟩⟩
end
def pIxL : List D → Option Sl
  | [.lst ds, .int i] => (atI ds i).bind fun d => some (.va d)
  | [.scr ns, .int i] => (atI ns i).bind fun n => some (.va (.int n))
  | _ => none
def pIxT : List D → Option Sl
  | [.tup _ ds, .int i] => (atI ds i).bind fun d => some (.va d)
  | _ => none
section
variable {K : PySem.W.Frag}
theorem ps_ixL : PrS K (r2L (rIxL K)) pIxL := PrS.val fun B H ds vs x e rp hg => by
  match ds, hg with
  | [.lst xs, .int i], hg =>
    obtain ⟨d, h1, h2⟩ := Option.bind_eq_some_iff.mp hg
    cases h2
    obtain ⟨v, w, rfl, ⟨a, us, rfl, ha, rl⟩, r2⟩ := two_of rp
    cases (show w = .int i from r2)
    obtain ⟨u, hu, ru⟩ := atI_rep rl h1
    exact ⟨_, u, rfl, ru, fun Q q => ⟨a, us, i, u, rfl, rfl, SqL.of (e _ _ ha), hu, q⟩⟩
  | [.scr ns, .int i], hg =>
    obtain ⟨n, h1, h2⟩ := Option.bind_eq_some_iff.mp hg
    cases h2
    obtain ⟨v, w, rfl, ⟨a, rfl, ha⟩, r2⟩ := two_of rp
    cases (show w = .int i from r2)
    obtain ⟨j, h3, h4⟩ := atI_map (ys := ns.map V.int) (List.length_map ..) h1
    exact ⟨_, .int n, rfl, rfl, fun Q q => ⟨a, _, i, _, rfl, rfl, ex_l e ha, h4 (.int n) (by rw [List.getElem?_map, h3]; rfl), q⟩⟩
theorem ps_ixT : PrS K (r2L (rIxT K)) pIxT := PrS.val fun B H ds vs x e rp hg => by
  match ds, hg with
  | [.tup k xs, .int i], hg =>
    obtain ⟨d, h1, h2⟩ := Option.bind_eq_some_iff.mp hg
    cases h2
    obtain ⟨v, w, rfl, ⟨a, us, rfl, ha, rl⟩, r2⟩ := two_of rp
    cases (show w = .int i from r2)
    obtain ⟨u, hu, ru⟩ := atI_rep rl h1
    exact ⟨_, u, rfl, ru, fun Q q => ⟨a, us, i, u, rfl, rfl, ex_t e ha.sq, hu, q⟩⟩
end
section
variable {X : Cx} {a b e : Expr} {pos : Pos} {f g : En → Option (D × En)}
end
def rdO (K : PySem.W.Frag) : Option (En → Option (D × En)) → TO
  | none => tNoPart
  | some f => tPart (rdV K f)
def xO : Option (En → Option (D × En)) → En → Option (Option Int × En)
  | none => fun e => some (none, e)
  | some f => fun e => (f e).bind fun p => match p.1 with
    | .int i => some (some i, p.2)
    | _ => none
def xSl (p : D → Option Int → Option Int → Option Sl) (f : En → Option (D × En)) (lo hi : Option (En → Option (D × En))) : En → Option (Sl × En) := fun e => (f e).bind fun x => (xO lo x.2).bind fun y => (xO hi y.2).bind fun z => (p x.1 y.1 z.1).bind fun r => some (r, z.2)
def PrSl (K : PySem.W.Frag) (r : V → Option Int → Option Int → Hp → VK → Prop) (p : D → Option Int → Option Int → Option Sl) : Prop := ∀ lo hi, PrS K (r1L fun x H Q => r x lo hi H Q) fun ds => match ds with
  | [d] => p d lo hi
  | _ => none
theorem rd_O {K : PySem.W.Frag} {o : Option (En → Option (D × En))} {s : Sta} {σ : L2.St} {Q : Option Int → Hp → Prop} {x : Option Int} {en' : En} (ok : EnOk K s) (eσ : s.σ = σ) (h : xO o s.en = some (x, en')) (q : ∀ t : Sta, t.σ = σ → t.en = en' → EnOk K t → Stp s t → Q x t.H) : rdO K o σ s.H Q := by
  cases o with
  | none => cases h; exact q s eσ rfl ok (Stp.refl s)
  | some f =>
    obtain ⟨⟨d, en1⟩, k1, k2⟩ := Option.bind_eq_some_iff.mp h
    cases d with
    | int i =>
      cases k2
      exact ⟨s, eσ, rfl, ok, _, _, k1, fun v t tσ te okt st rp => ⟨i, rp, q t tσ te okt st⟩⟩
    | _ => cases k2
theorem xe_sl {X : Cx} {e : Expr} {f : En → Option (D × En)} {lo hi : Option (En → Option (D × En))} {r : V → Option Int → Option Int → Hp → VK → Prop} {p : D → Option Int → Option Int → Option Sl} (hs : PrSl X.K r p) (h : PE X e (tSl r (rdV X.K f) (rdO X.K lo) (rdO X.K hi))) : PE X e (rdE X.K (xSl p f lo hi)) := PEi h fun σ H Q ⟨s, e1, e2, ok, x, en', hf, q⟩ => by
  obtain ⟨⟨d, en1⟩, k1, k2⟩ := Option.bind_eq_some_iff.mp hf
  obtain ⟨⟨l, en2⟩, k3, k4⟩ := Option.bind_eq_some_iff.mp k2
  obtain ⟨⟨u, en3⟩, k5, k6⟩ := Option.bind_eq_some_iff.mp k4
  obtain ⟨y, k7, k8⟩ := Option.bind_eq_some_iff.mp k6
  cases k8
  refine ⟨s, e1, e2, ok, d, en1, k1, fun v t tσ te okt st rp => ?_⟩
  refine rd_O okt tσ (by rw [te]; exact k3) fun t2 t2σ t2e ok2 st2 => rd_O ok2 t2σ (by rw [t2e]; exact k5) fun t3 t3σ t3e ok3 st3 => ?_
  exact (hs l u).run (ds := [d]) (vs := [v]) ok3 ((st.trans st2).trans st3) ⟨v, [], rfl, (rp.mono st2.bb).mono st3.bb, rfl⟩ k7 t3σ t3e q
def cutD {α : Type} (xs : List α) (lo hi : Option Int) : List α := (xs.drop (HT.sIx xs.length 0 lo)).take (HT.sIx xs.length xs.length hi - HT.sIx xs.length 0 lo)
def pSlL : D → Option Int → Option Int → Option Sl
  | .lst ds, lo, hi => some (.ow (.o1 (.lst (cutD ds lo hi))))
  | _, _, _ => none
def pSlT : D → Option Int → Option Int → Option Sl
  | .tup k ds, lo, hi => some (.va (.tup (k && (decide (HT.sIx ds.length 0 lo = 0) && decide (HT.sIx ds.length ds.length hi = ds.length))) (cutD ds lo hi)))
  | _, _, _ => none
theorem cut_rep {K : PySem.W.Frag} {B : Hp} {ds : List D} {vs : List V} {lo hi : Option Int} (r : RepL K B ds vs) : RepL K B (cutD ds lo hi) (cutV vs lo hi) := by
  unfold cutD cutV
  rw [r.len]
  exact (r.drop _).take _
section
variable {K : PySem.W.Frag}
theorem one_hg {p : D → Option Int → Option Int → Option Sl} {ds : List D} {lo hi : Option Int} {x : Sl} (h : (match ds with | [d] => p d lo hi | _ => none) = some x) : ∃ d, ds = [d] ∧ p d lo hi = some x := by
  match ds, h with
  | [d], h => exact ⟨d, rfl, h⟩
theorem ps_slL : PrSl K (rSlL K) pSlL := fun lo hi => PrS.lst fun B H ds vs x e rp hg => by
  obtain ⟨d, rfl, hg⟩ := one_hg hg
  match d, hg with
  | .lst xs, hg =>
    cases hg
    obtain ⟨v, rfl, a, us, rfl, ha, rl⟩ := one_of rp
    exact ⟨_, _, rfl, cut_rep rl, fun Q q => ⟨a, us, rfl, SqL.of (e _ _ ha), q⟩⟩
theorem ps_slT : PrSl K (rSlA K) pSlT := fun lo hi => fun B H ds vs x e rp hg Q q => by
  obtain ⟨d, rfl, hg⟩ := one_hg hg
  match d, hg with
  | .tup k xs, hg =>
    cases hg
    obtain ⟨v, rfl, a, us, rfl, ha, rl⟩ := one_of rp
    refine ⟨a, us, rfl, ex_t e ha.sq, fun hw => ?_, fun hn p hp => ?_⟩
    · rw [rl.len] at hw
      have hc : cutD xs lo hi = xs := by unfold cutD; rw [hw.1, hw.2]; simp
      refine q (.ref a) B H [] (Ex.refl _) (Ex.refl _) e (fun _ _ z => .inl z) ⟨rfl, _, rfl, ?_⟩ fun _ z => by cases z
      rw [hc, decide_eq_true hw.1, decide_eq_true hw.2, Bool.and_true, Bool.and_true]
      exact ⟨a, us, rfl, ha, rl⟩
    · rw [rl.len] at hn
      have hb : B p = none := fresh_back e hp
      have hd : (decide (HT.sIx xs.length 0 lo = 0) && decide (HT.sIx xs.length xs.length hi = xs.length)) = false := by
        cases q1 : (decide (HT.sIx xs.length 0 lo = 0) && decide (HT.sIx xs.length xs.length hi = xs.length)) with
        | false => rfl
        | true =>
          obtain ⟨z1, z2⟩ := Bool.and_eq_true_iff.mp q1
          exact (hn ⟨of_decide_eq_true z1, of_decide_eq_true z2⟩).elim
      rw [hd, Bool.and_false] at q
      refine q (.ref p) (upd B p (.tup (cutV us lo hi))) _ [] (Ex.new hb) (Ex.new hp) (fun c o z => ?_) (fun c o z => ?_) ⟨rfl, _, rfl, p, _, rfl, upd_same, (cut_rep rl).mono (Ex.new hb)⟩ fun _ z => by cases z
      · by_cases hc : c = p
        · subst hc; rw [upd_same] at z; rw [upd_same]; exact z
        · rw [upd_ne hc] at z; rw [upd_ne hc]; exact e c o z
      · by_cases hc : c = p
        · subst hc; exact .inr hp
        · rw [upd_ne hc] at z; exact .inl z
def pCat : List D → Option Sl
  | [.lst xs, .lst ys] => if xs.length + ys.length ≤ 100000 then some (.ow (.o1 (.lst (xs ++ ys)))) else none
  | _ => none
def pCatT : List D → Option Sl
  | [.tup k xs, .tup j ys] => if xs.length + ys.length ≤ 100000 then (match xs, ys with
    | [], ys => some (.va (.tup j ys))
    | x :: xs, [] => some (.va (.tup k (x :: xs)))
    | x :: xs, y :: ys => some (.va (.tup false (x :: xs ++ y :: ys)))) else none
  | _ => none
theorem ps_cat : PrS K (r2L rCat) pCat := PrS.lst fun B H ds vs x e rp hg => by
  match ds, hg with
  | [.lst xs, .lst ys], hg =>
    replace hg : (if xs.length + ys.length ≤ 100000 then some (Sl.ow (.o1 (.lst (xs ++ ys)))) else none) = some x := hg
    split at hg
    · rename_i hl
      cases hg
      obtain ⟨v, w, rfl, ⟨a, us, rfl, ha, rl⟩, b, ws, rfl, hb, rm⟩ := two_of rp
      exact ⟨_, _, rfl, rl.append rm, fun Q q => ⟨a, b, us, ws, rfl, rfl, e _ _ ha, e _ _ hb, sz_of (by rw [rl.len, rm.len]; exact hl), q⟩⟩
    · cases hg
theorem ps_catT : PrS K (r2L (rCatA K)) pCatT := fun B H ds vs x e rp hg Q q => by
  match ds, hg with
  | [.tup k xs, .tup j ys], hg =>
    replace hg : (if xs.length + ys.length ≤ 100000 then (match xs, ys with
      | [], ys => some (Sl.va (.tup j ys))
      | x :: xs, [] => some (.va (.tup k (x :: xs)))
      | x :: xs, y :: ys => some (.va (.tup false (x :: xs ++ y :: ys)))) else none) = some x := hg
    split at hg
    · rename_i hl
      obtain ⟨v, w, rfl, ⟨a, us, rfl, ha, rl⟩, b, ws, rfl, hb, rm⟩ := two_of rp
      have hlu := rl.len
      have hlw := rm.len
      refine ⟨a, b, us, ws, rfl, rfl, ex_t e ha.sq, ex_t e hb.sq, sz_of (by rw [rl.len, rm.len]; exact hl), fun hu => ?_, fun hu hw => ?_, fun hu hw p hp => ?_⟩
      · subst hu
        cases xs with
        | cons _ _ => cases hlu
        | nil =>
          cases hg
          exact q (.ref b) B H [] (Ex.refl _) (Ex.refl _) e (fun _ _ z => .inl z) ⟨rfl, _, rfl, b, ws, rfl, hb, rm⟩ fun _ z => by cases z
      · subst hw
        cases xs with
        | nil => exact (hu (List.eq_nil_of_length_eq_zero hlu)).elim
        | cons x1 xs =>
          cases ys with
          | cons _ _ => cases hlw
          | nil =>
            cases hg
            exact q (.ref a) B H [] (Ex.refl _) (Ex.refl _) e (fun _ _ z => .inl z) ⟨rfl, _, rfl, a, us, rfl, ha, rl⟩ fun _ z => by cases z
      · cases xs with
        | nil => exact (hu (List.eq_nil_of_length_eq_zero hlu)).elim
        | cons x1 xs =>
          cases ys with
          | nil => exact (hw (List.eq_nil_of_length_eq_zero hlw)).elim
          | cons y1 ys =>
            cases hg
            have hb' : B p = none := fresh_back e hp
            refine q (.ref p) (upd B p (.tup (us ++ ws))) _ [] (Ex.new hb') (Ex.new hp) (fun c o z => ?_) (fun c o z => ?_) ⟨rfl, _, rfl, p, _, rfl, upd_same, (rl.append rm).mono (Ex.new hb')⟩ fun _ z => by cases z
            · by_cases hc : c = p
              · subst hc; rw [upd_same] at z; rw [upd_same]; exact z
              · rw [upd_ne hc] at z; rw [upd_ne hc]; exact e c o z
            · by_cases hc : c = p
              · subst hc; exact .inr hp
              · rw [upd_ne hc] at z; exact .inl z
    · cases hg
end
def xStar (f : En → Option (D × En)) (g : En → Option (List D × En)) : En → Option (List D × En) := fun e => (f e).bind fun p => (match p.1 with
  | .tup _ ds => some ds
  | .lst ds => some ds
  | _ => none).bind fun ds => (g p.2).bind fun q => some (ds ++ q.1, q.2)
theorem xa_star {X : Cx} {es : List Expr} {f : En → Option (D × En)} {g : En → Option (List D × En)} (h : PA X es (StX.tStar X.K (rdV X.K f) (rdA X.K g))) : PA X es (rdA X.K (xStar f g)) := PAi h fun σ H Q ⟨s, e1, e2, ok, ds, en', hf, q⟩ => by
  obtain ⟨⟨d, en1⟩, k1, k2⟩ := Option.bind_eq_some_iff.mp hf
  obtain ⟨ds1, k3, k4⟩ := Option.bind_eq_some_iff.mp k2
  obtain ⟨⟨ds2, en2⟩, k5, k6⟩ := Option.bind_eq_some_iff.mp k4
  cases k6
  refine ⟨s, e1, e2, ok, d, en1, k1, fun v t tσ te okt st rp => ?_⟩
  cases d with
  | tup k xs =>
    cases k3
    obtain ⟨a, us, rfl, ha, rl⟩ := rp
    exact ⟨a, us, rfl, .inl (ex_t okt.ex ha.sq), t, tσ, rfl, okt, ds2, en2, by rw [te]; exact k5, fun vs u uσ ue oku st2 rps => q _ u uσ ue oku (st.trans st2) ((rl.mono st2.bb).append rps)⟩
  | lst xs =>
    cases k3
    obtain ⟨a, us, rfl, ha, rl⟩ := rp
    exact ⟨a, us, rfl, .inr (SqL.of (okt.ex _ _ ha)), t, tσ, rfl, okt, ds2, en2, by rw [te]; exact k5, fun vs u uσ ue oku st2 rps => q _ u uσ ue oku (st.trans st2) ((rl.mono st2.bb).append rps)⟩
  | _ => cases k3
def boolsD : List D → Option (List Bool)
  | [] => some []
  | .bl i :: r => (boolsD r).bind fun s => some (i :: s)
  | _ => none
def pLen : List D → Option Sl
  | [.lst ds] => some (.va (.int ds.length))
  | [.scr ns] => some (.va (.int ns.length))
  | [.tup _ ds] => some (.va (.int ds.length))
  | _ => none
def pAbs : List D → Option Sl
  | [.int i] => some (.va (.int (if i < 0 then -i else i)))
  | _ => none
def pMax2 := pI fun i j => .int (if j > i then j else i)
def pMin2 := pI fun i j => .int (if j < i then j else i)
def pInt : List D → Option Sl
  | [.int i] => some (.va (.int i))
  | [.bl b] => some (.va (.int (if b then 1 else 0)))
  | _ => none
def pAny : List D → Option Sl
  | [.lst ds] => (boolsD ds).bind fun bs => some (.va (.bl (bs.any id)))
  | _ => none
def pListOf : List D → Option Sl
  | [.lst ds] => some (.ow (.o1 (.lst ds)))
  | [.tup _ ds] => some (.ow (.o1 (.lst ds)))
  | _ => none
def pTupOf : List D → Option Sl
  | [.lst ds] => some (.va (.tup false ds))
  | [.tup k ds] => some (.va (.tup k ds))
  | _ => none
section
variable {K : PySem.W.Frag}
theorem boolsD_rep {B : Hp} : ∀ {ds : List D} {ns : List Bool} {vs : List V}, boolsD ds = some ns → RepL K B ds vs → vs = ns.map V.bl
  | [], _, _, h, r => by cases h; exact r
  | .bl i :: ds, ns, vs, h, ⟨v, r, e, a, b⟩ => by
    obtain ⟨ms, h1, h2⟩ := Option.bind_eq_some_iff.mp h
    cases h2
    rw [e, show v = .bl i from a, boolsD_rep h1 b]; rfl
theorem ps_len : PrS K (fun xs H Q => ∃ p ys, xs = [.ref p] ∧ (SqL K H p ys ∨ SqT K H p ys) ∧ Q (.int ys.length) H) pLen := PrS.val fun B H ds vs x e rp hg => by
  match ds, hg with
  | [.lst xs], hg =>
    cases hg
    obtain ⟨v, rfl, a, us, rfl, ha, rl⟩ := one_of rp
    exact ⟨_, .int _, rfl, rfl, fun Q q => ⟨a, us, rfl, .inl (SqL.of (e _ _ ha)), by rw [rl.len]; exact q⟩⟩
  | [.scr ns], hg =>
    cases hg
    obtain ⟨v, rfl, a, rfl, ha⟩ := one_of rp
    exact ⟨_, .int _, rfl, rfl, fun Q q => ⟨a, _, rfl, .inl (ex_l e ha), by rw [List.length_map]; exact q⟩⟩
  | [.tup k xs], hg =>
    cases hg
    obtain ⟨v, rfl, a, us, rfl, ha, rl⟩ := one_of rp
    exact ⟨_, .int _, rfl, rfl, fun Q q => ⟨a, us, rfl, .inr (ex_t e ha.sq), by rw [rl.len]; exact q⟩⟩
theorem ps_abs : PrS K (fun xs H Q => ∃ i, xs = [.int i] ∧ Q (.int (if i < 0 then -i else i)) H) pAbs := PrS.val fun B H ds vs x e rp hg => by
  match ds, hg with
  | [.int i], hg =>
    cases hg
    obtain ⟨v, rfl, r⟩ := one_of rp
    exact ⟨_, .int _, rfl, rfl, fun Q q => ⟨i, by rw [show v = .int i from r], q⟩⟩
theorem ps_max2 : PrS K (fun xs H Q => ∃ i j, xs = [.int i, .int j] ∧ Q (.int (if j > i then j else i)) H) pMax2 := PrS.val fun B H ds vs x e rp hg => by
  match ds, hg with
  | [.int i, .int j], hg =>
    cases hg
    obtain ⟨v, w, rfl, r1, r2⟩ := two_of rp
    exact ⟨_, .int _, rfl, rfl, fun Q q => ⟨i, j, by rw [show v = .int i from r1, show w = .int j from r2], q⟩⟩
theorem ps_min2 : PrS K (fun xs H Q => ∃ i j, xs = [.int i, .int j] ∧ Q (.int (if j < i then j else i)) H) pMin2 := PrS.val fun B H ds vs x e rp hg => by
  match ds, hg with
  | [.int i, .int j], hg =>
    cases hg
    obtain ⟨v, w, rfl, r1, r2⟩ := two_of rp
    exact ⟨_, .int _, rfl, rfl, fun Q q => ⟨i, j, by rw [show v = .int i from r1, show w = .int j from r2], q⟩⟩
theorem ps_int : PrS K (fun xs H Q => (∃ i, xs = [.int i] ∧ Q (.int i) H) ∨ ∃ k, xs = [.bl k] ∧ Q (.int (if k then 1 else 0)) H) pInt := PrS.val fun B H ds vs x e rp hg => by
  match ds, hg with
  | [.int i], hg =>
    cases hg
    obtain ⟨v, rfl, r⟩ := one_of rp
    exact ⟨_, .int _, rfl, rfl, fun Q q => .inl ⟨i, by rw [show v = .int i from r], q⟩⟩
  | [.bl i], hg =>
    cases hg
    obtain ⟨v, rfl, r⟩ := one_of rp
    exact ⟨_, .int _, rfl, rfl, fun Q q => .inr ⟨i, by rw [show v = .bl i from r], q⟩⟩
theorem ps_any : PrS K (rAny K) pAny := PrS.val fun B H ds vs x e rp hg => by
  match ds, hg with
  | [.lst xs], hg =>
    obtain ⟨ns, h1, h2⟩ := Option.bind_eq_some_iff.mp hg
    cases h2
    obtain ⟨v, rfl, a, us, rfl, ha, rl⟩ := one_of rp
    rw [boolsD_rep h1 rl] at ha
    exact ⟨_, .bl _, rfl, rfl, fun Q q => ⟨a, ns, rfl, SqL.of (e _ _ ha), q⟩⟩
theorem ps_listOf : PrS K (fun xs H Q => ∃ p ys, xs = [.ref p] ∧ (SqL K H p ys ∨ SqT K H p ys) ∧ ∀ l, H l = none → Q (.ref l) (upd H l (.lst ys))) pListOf := PrS.lst fun B H ds vs x e rp hg => by
  match ds, hg with
  | [.lst xs], hg =>
    cases hg
    obtain ⟨v, rfl, a, us, rfl, ha, rl⟩ := one_of rp
    exact ⟨_, _, rfl, rl, fun Q q => ⟨a, us, rfl, .inl (SqL.of (e _ _ ha)), q⟩⟩
  | [.tup k xs], hg =>
    cases hg
    obtain ⟨v, rfl, a, us, rfl, ha, rl⟩ := one_of rp
    exact ⟨_, _, rfl, rl, fun Q q => ⟨a, us, rfl, .inr (ex_t e ha.sq), q⟩⟩
theorem ps_tupOf : PrS K (fun xs H Q => ∃ p ys, xs = [.ref p] ∧ ((SqL K H p ys ∧ ∀ l, H l = none → Q (.ref l) (upd H l (.tup ys))) ∨ (SqT K H p ys ∧ Q (.ref p) H))) pTupOf := fun B H ds vs x e rp hg Q q => by
  match ds, hg with
  | [.lst xs], hg =>
    cases hg
    obtain ⟨v, rfl, a, us, rfl, ha, rl⟩ := one_of rp
    refine ⟨a, us, rfl, .inl ⟨SqL.of (e _ _ ha), fun p hp => ?_⟩⟩
    have hb' : B p = none := fresh_back e hp
    refine q (.ref p) (upd B p (.tup us)) _ [] (Ex.new hb') (Ex.new hp) (fun c o z => ?_) (fun c o z => ?_) ⟨rfl, _, rfl, p, _, rfl, upd_same, rl.mono (Ex.new hb')⟩ fun _ z => by cases z
    · by_cases hc : c = p
      · subst hc; rw [upd_same] at z; rw [upd_same]; exact z
      · rw [upd_ne hc] at z; rw [upd_ne hc]; exact e c o z
    · by_cases hc : c = p
      · subst hc; exact .inr hp
      · rw [upd_ne hc] at z; exact .inl z
  | [.tup k xs], hg =>
    cases hg
    obtain ⟨v, rfl, a, us, rfl, ha, rl⟩ := one_of rp
    exact ⟨a, us, rfl, .inr ⟨ex_t e ha.sq, q (.ref a) B H [] (Ex.refl _) (Ex.refl _) e (fun _ _ z => .inl z) ⟨rfl, _, rfl, a, us, rfl, ha, rl⟩ fun _ z => by cases z⟩⟩
end
section
variable {X : Cx} {e : Expr} {fa : En → Option (List D × En)} {r : List V → Hp → VK → Prop} {p : List D → Option Sl}
theorem xe_cb (hs : PrS X.K r p) (h : PE X e (tCB r (rdA X.K fa))) : PE X e (rdE X.K (xPr p fa)) := PEi h (rd_call hs)
end
inductive Ct where
  | b (n : String) | o (c : Str)
def Ct.v (K : PySem.W.Frag) : Ct → V
  | .b n => .ty n
  | .o c => .ref (He.ga K c)
def Ct.u (K : PySem.W.Frag) : Ct → Value
  | .b n => .type n
  | .o c => .ref (He.ga K c)
def D.ty : D → Ct
  | .non => .b "NoneType"
  | .bl _ => .b "bool"
  | .int _ => .b "int"
  | .str _ => .b "str"
  | .scr _ => .b "list"
  | .lst _ => .b "list"
  | .tup _ _ => .b "tuple"
  | .dct _ _ => .b "dict"
  | .dcT _ _ => .b "dict"
  | .obj c _ _ => .o c
def isBB (a t : String) : Bool := a == t || (a == "bool" && t == "int")
structure ClF (K : PySem.W.Frag) (cls : List Str) (sub : Str → Str → Bool) : Prop where
  cl : ∀ c ∈ cls, Cls K (He.ga K c)
  ca : ∀ c ∈ cls, PySem.W.findIn K (.ref (He.ga K c)) "__class__" = some (some (.builtin "object.__class__"))
  cn : PySem.W.specialIn K (.builtin "object.__class__") "__get__" = some (some (.builtin "getset_descriptor.__get__"))
  ct : PySem.W.takesIn K (.builtin "object.__class__") = some true
  cm : ∀ c ∈ cls, PySem.W.mroIn K (He.ga K c) (.type "object") = some true
  oo : ∀ c ∈ cls, ∀ d ∈ cls, PySem.W.kitOne K (.ref (He.ga K c)) (.ref (He.ga K d)) = some (sub c d)
  ob : ∀ c ∈ cls, ∀ t ∈ bT, PySem.W.kitOne K (.ref (He.ga K c)) (.type t) = some false
  bo : ∀ t ∈ bT0, ∀ c ∈ cls, PySem.W.kitOne K (.type t) (.ref (He.ga K c)) = some false
theorem clf_of {K : PySem.W.Frag} {cls : List Str} {sub : Str → Str → Bool} (h : clfB K cls sub = true) : ClF K cls sub := by
  obtain ⟨h1, h⟩ := He.ba h
  obtain ⟨h2, h⟩ := He.ba h
  obtain ⟨h3, h⟩ := He.ba h
  obtain ⟨h4, h⟩ := He.ba h
  obtain ⟨h5, h6⟩ := He.ba h
  refine ⟨fun c hc => ?_, fun c hc => ?_, He.eqO_ok h2, of_decide_eq_true h3, fun c hc => ?_, fun c hc d hd => ?_, fun c hc t ht => ?_, fun t ht c hc => ?_⟩
  · exact He.cls_ok (He.ba (List.all_eq_true.mp h1 c hc)).1
  · exact He.eqO_ok (He.ba (He.ba (List.all_eq_true.mp h1 c hc)).2).1
  · exact of_decide_eq_true (He.ba (He.ba (List.all_eq_true.mp h1 c hc)).2).2
  · exact of_decide_eq_true (List.all_eq_true.mp (List.all_eq_true.mp h4 c hc) d hd)
  · exact of_decide_eq_true (List.all_eq_true.mp (List.all_eq_true.mp h5 c hc) t ht)
  · exact of_decide_eq_true (List.all_eq_true.mp (List.all_eq_true.mp h6 t ht) c hc)
theorem bb_kit : ∀ a ∈ bT0, ∀ t ∈ bT, L2.kitB a t = some (isBB a t) := by decide +kernel
section
variable {K : PySem.W.Frag} {cls : List Str} {sub : Str → Str → Bool}
theorem ty_rep (F : ClF K cls sub) {B H : Hp} {d : D} {v : V} (e : Ex B H) (r : Rep K B d v) (hc : ∀ c, d.ty = .o c → c ∈ cls) : TyX K H v (d.ty.u K) := by
  cases d with
  | non => cases (show v = .non from r); exact .base .non
  | bl b => cases (show v = .bl b from r); exact .base (.bl b)
  | int b => cases (show v = .int b from r); exact .base (.int b)
  | str b => cases (show v = .str b from r); exact .base (.str b)
  | scr ns =>
    obtain ⟨a, rfl, h⟩ := r
    rcases ex_l e h with (h | ⟨o, h⟩) | ⟨o, its, n, hk, hc, _⟩
    · exact .base (.lst h)
    · exact .base (.frz h)
    · exact .kList hk hc
  | lst ds => obtain ⟨a, vs, rfl, h, _⟩ := r; exact .base (.lst (e _ _ h))
  | tup k ds =>
    obtain ⟨a, vs, rfl, h, _⟩ := r
    rcases ex_t e h.sq with (h | ⟨o, h⟩) | ⟨o, its, n, hk, hc, _⟩
    · exact .base (.tup h)
    · exact .fTuple h
    · exact .kTuple hk hc
  | dct ks ds =>
    obtain ⟨a, vs, rfl, h, _⟩ := r
    rcases h with h | ⟨o, h⟩
    · exact .base (.dK (e _ _ h))
    · exact .fDict (e _ _ h)
  | dcT ks ds => obtain ⟨a, vs, rfl, h, _⟩ := r; exact .base (.dT (e _ _ h))
  | obj c fs ds =>
    obtain ⟨a, dx, kvs, rfl, h, _⟩ := r
    have hm := hc c rfl
    exact .base (.ins (e _ _ h) (F.cl c hm) (F.ca c hm) F.cn F.ct (F.cm c hm))
def isD (cls : List Str) (sub : Str → Str → Bool) (d : D) (T : Ct) : Option Bool := match d.ty, T with
  | .b a, .b t => if (bT0.contains a && bT.contains t) = true then some (isBB a t) else none
  | .b a, .o c => if (bT0.contains a && cls.contains c) = true then some false else none
  | .o c, .b t => if (cls.contains c && bT.contains t) = true then some false else none
  | .o c, .o c' => if (cls.contains c && cls.contains c') = true then some (sub c c') else none
theorem is_kit (F : ClF K cls sub) {d : D} {T : Ct} {b : Bool} (h : isD cls sub d T = some b) : PySem.W.kitOne K (d.ty.u K) (T.u K) = some b ∧ ∀ c, d.ty = .o c → c ∈ cls := by
  unfold isD at h
  cases ht : d.ty with
  | b a =>
    rw [ht] at h
    refine ⟨?_, fun c z => by cases z⟩
    cases T with
    | b t =>
      replace h : (if (bT0.contains a && bT.contains t) = true then some (isBB a t) else none) = some b := h
      split at h
      · rename_i hh
        cases h
        obtain ⟨h1, h2⟩ := He.ba hh
        exact kit_ty (bb_kit a (by simpa using h1) t (by simpa using h2))
      · cases h
    | o c =>
      replace h : (if (bT0.contains a && cls.contains c) = true then some false else none) = some b := h
      split at h
      · rename_i hh
        cases h
        obtain ⟨h1, h2⟩ := He.ba hh
        exact F.bo a (by simpa using h1) c (by simpa using h2)
      · cases h
  | o c =>
    rw [ht] at h
    cases T with
    | b t =>
      replace h : (if (cls.contains c && bT.contains t) = true then some false else none) = some b := h
      split at h
      · rename_i hh
        cases h
        obtain ⟨h1, h2⟩ := He.ba hh
        exact ⟨F.ob c (by simpa using h1) t (by simpa using h2), fun c' z => by cases z; simpa using h1⟩
      · cases h
    | o c' =>
      replace h : (if (cls.contains c && cls.contains c') = true then some (sub c c') else none) = some b := h
      split at h
      · rename_i hh
        cases h
        obtain ⟨h1, h2⟩ := He.ba hh
        exact ⟨F.oo c (by simpa using h1) c' (by simpa using h2), fun c' z => by cases z; simpa using h1⟩
      · cases h
end
theorem clsV (K : PySem.W.Frag) (T : Ct) : ClsV (T.v K) (T.u K) := by
  cases T with
  | b n => exact .ty n
  | o c => exact .own _
def xIsi (cls : List Str) (sub : Str → Str → Bool) (T : Ct) (f : En → Option (D × En)) : En → Option (D × En) := fun e => (f e).bind fun p => (isD cls sub p.1 T).bind fun b => some (.bl b, p.2)
def xIsi2 (cls : List Str) (sub : Str → Str → Bool) (T U : Ct) (f : En → Option (D × En)) : En → Option (D × En) := fun e => (f e).bind fun p => (isD cls sub p.1 T).bind fun b => (isD cls sub p.1 U).bind fun c => some (.bl (b || c), p.2)
section
variable {X : Cx} {e : Expr} {f : En → Option (D × En)} {cls : List Str} {sub : Str → Str → Bool} {T U : Ct}
theorem xe_isi (F : ClF X.K cls sub) (h : PE X e (tCB (rIsi X.K) (tCons (rdV X.K f) (tCons (tC (T.v X.K)) tNil)))) : PE X e (rdV X.K (xIsi cls sub T f)) := PEi h fun σ H Q ⟨s, e1, e2, ok, d, en', hf, q⟩ => by
  obtain ⟨⟨d1, en1⟩, k1, k2⟩ := Option.bind_eq_some_iff.mp hf
  obtain ⟨b, k3, k4⟩ := Option.bind_eq_some_iff.mp k2
  cases k4
  refine ⟨s, e1, e2, ok, d1, en1, k1, fun v t tσ te okt st rp => ?_⟩
  obtain ⟨k5, k6⟩ := is_kit F k3
  exact ⟨v, T.v X.K, _, _, b, rfl, clsV X.K T, ty_rep F okt.ex rp k6, k5, q (.bl b) t tσ te okt st rfl⟩
theorem xe_isi2 (F : ClF X.K cls sub) (h : PE X e (tCB (rIsiT X.K) (tCons (rdV X.K f) (tCons (tTup (tCons (tC (T.v X.K)) (tCons (tC (U.v X.K)) tNil))) tNil)))) : PE X e (rdV X.K (xIsi2 cls sub T U f)) := PEi h fun σ H Q ⟨s, e1, e2, ok, d, en', hf, q⟩ => by
  obtain ⟨⟨d1, en1⟩, k1, k2⟩ := Option.bind_eq_some_iff.mp hf
  obtain ⟨b, k3, k4⟩ := Option.bind_eq_some_iff.mp k2
  obtain ⟨c, k5, k6⟩ := Option.bind_eq_some_iff.mp k4
  cases k6
  refine ⟨s, e1, e2, ok, d1, en1, k1, fun v t tσ te okt st rp => ⟨(by decide : 2 ≤ sizeLine), fun p hp => ?_⟩⟩
  obtain ⟨m1, m2⟩ := is_kit F k3
  obtain ⟨n1, n2⟩ := is_kit F k5
  have eh : Ex t.H (upd t.H p (.tup [T.v X.K, U.v X.K])) := Ex.new hp
  refine ⟨v, p, [T.v X.K, U.v X.K], _, [T.u X.K, U.u X.K], b || c, rfl, upd_same, .cons (clsV X.K T) (.cons (clsV X.K U) .nil), ty_rep F (okt.ex.trans eh) rp m2, kitAny_cons m1 (fun z => ?_) (fun z => by rw [z]; rfl), ?_⟩
  · subst z
    refine kitAny_cons n1 (fun z => ?_) (fun z => by rw [z]; rfl)
    subst z; rfl
  · refine q (.bl (b || c)) ⟨t.B, upd t.H p (.tup [T.v X.K, U.v X.K]), t.σ, t.en, t.fp⟩ tσ te (okt.alc (Ex.refl _) eh (okt.ex.trans eh) okt.off) (st.trans (Stp.alc (Ex.refl _) eh fun _ _ z => .inl z)) rfl
end
section
variable {X : Cx} {CX : CXT} {C : Addr} {ps : List Str} {n j : Nat} {sp : Sp} {E : XK}
end
section
variable {X : Cx} {CX : CXT} {C : Addr} {ps : List Str} {n j : Nat} {sp : Sp} {E : XK}
def rLenO (C : Addr) (sp : Sp) (E : XK) : List V → Hp → VK → Prop := fun xs H Q => ∃ a dx fs, xs = [.ref a] ∧ H a = some (.ins C dx fs) ∧ sp [.ref a] H (fun z H' => ∃ n : Nat, z = .int (n : Int) ∧ n < 2 ^ 62 ∧ Q (.int (n : Int)) H') E
theorem call_lenO (M : Mt X.prog X.w X.K X.mg X.base C "__len__" ps CX n sp) (hr : Room j X.A) (hx : Passes CX X E) (hk : n + 1 ≤ j := by decide) : CallR X (.builtin "len") (rLenO C sp E) := by
  intro pins s σ H xs us Q I r h
  obtain ⟨g, fd, hm, hb, F⟩ := M
  obtain ⟨a, dx, fs, rfl, ha, q⟩ := h
  obtain rfl := Vals.ref1 r
  obtain ⟨mA, O, _⟩ := ins_get I.hok ha
  obtain ⟨od, J, _⟩ := O.look
  obtain ⟨m, hF⟩ := I.fr
  refine PySem.W.len_K hF I.ok.mod.kin J hm.at_ hm.fn ?_
  refine wpAny_mono (run_in1 (us := [.ref a]) (vs := [.ref a]) F (hr.mono hk) hb hx I (.cons rfl .nil) q) (fun w s' z => ?_) fun _ _ x => x
  obtain ⟨z', H', I', rz, n, rfl, hn, qz⟩ := z
  obtain ⟨t, rfl⟩ := (show ∃ t, w = Value.int (n : Int) t from rz)
  exact ⟨⟨Int.natCast_nonneg n, by omega⟩, .int (n : Int), H', I'.kept (t' := s'.toks + 1) (fun _ _ q => q), ⟨_, rfl⟩, qz⟩
end
def xO2 (c : Str) (F : FnT) (f g : En → Option (D × En)) : En → Option (Sl × En) := fun e => (f e).bind fun p => (g p.2).bind fun q => match p.1 with
  | .obj c' ns ds => if c' = c then (F [.va (.obj c' ns ds), .va q.1]).bind fun r => some (r.1, q.2) else none
  | _ => none
section
variable {X : Cx} {e : Expr} {c : Str} {F : FnT} {f g : En → Option (D × En)} {E : XK}
theorem rd_o2 {K : PySem.W.Frag} {r : R2} (hr : ∀ (t : Sta) (d : D) (a dx : Addr) (fs : List (Str × V)) (y : V) Q, EnOk K t → Rep K t.B d y → t.H a = some (.ins (He.ga K c) dx fs) → spM K 2 F [.ref a, y] t.H Q E → r (.ref a) y t.H Q) :
    ∀ σ H Q, rdE K (xO2 c F f g) σ H Q → tOp r (rdV K f) (rdV K g) σ H Q := fun σ H Q ⟨s, e1, e2, ok, r, en', hf, q⟩ => by
  obtain ⟨⟨d, en1⟩, k1, k2⟩ := Option.bind_eq_some_iff.mp hf
  obtain ⟨⟨d2, en2⟩, k3, k4⟩ := Option.bind_eq_some_iff.mp k2
  cases d with
  | obj c' ns ds =>
    replace k4 : (if c' = c then (F [.va (.obj c' ns ds), .va d2]).bind fun r => some (r.1, en2) else none) = some (r, en') := k4
    split at k4
    · rename_i hc
      subst hc
      obtain ⟨⟨r1, en3⟩, k5, k6⟩ := Option.bind_eq_some_iff.mp k4
      cases k6
      refine ⟨s, e1, e2, ok, _, en1, k1, fun v t tσ te okt st rp => ⟨t, tσ, rfl, okt, d2, _, by rw [te]; exact k3, fun w u uσ ue oku st2 rp2 => ?_⟩⟩
      obtain ⟨a, dx, kvs, rfl, hb, hk, rl⟩ := id rp
      refine hr u d2 a dx kvs w Q oku rp2 (oku.ex _ _ (st2.bb _ _ hb)) ?_
      exact call0 (ds := [.obj c' ns ds, d2]) oku (st.trans st2) ⟨_, [w], rfl, rp.mono st2.bb, w, [], rfl, rp2, rfl⟩ rfl k5 fun v w fr wσ we okw stw sl sd => q v w fr (wσ.trans uσ) (we.trans ue) okw stw sl sd
    · cases k4
  | _ => cases k4
theorem xe_oix (h : PE X e (tOp (rOwnIx (He.ga X.K c) (spM X.K 2 F) E) (rdV X.K f) (rdV X.K g))) : PE X e (rdE X.K (xO2 c F f g)) := PEi h (rd_o2 (E := E) fun t d a dx fs y Q okt rp ha hs => ⟨a, dx, fs, rfl, ha, hs⟩)
def xLenO (c : Str) (F : FnT) (f : En → Option (D × En)) : En → Option (D × En) := fun e => (f e).bind fun p => match p.1 with
  | .obj c' ns ds => if c' = c then (F [.va (.obj c' ns ds)]).bind fun r => (match r.1 with
    | .va (.int n) => if (decide (0 ≤ n) && decide (n < 2 ^ 60)) = true then some (.int n, p.2) else none
    | _ => none) else none
  | _ => none
theorem xe_lenO (h : PE X e (tCB (rLenO (He.ga X.K c) (spM X.K 1 F) E) (tCons (rdV X.K f) tNil))) : PE X e (rdV X.K (xLenO c F f)) := PEi h fun σ H Q ⟨s, e1, e2, ok, d0, en', hf, q⟩ => by
  obtain ⟨⟨d, en1⟩, k1, k2⟩ := Option.bind_eq_some_iff.mp hf
  cases d with
  | obj c' ns ds =>
    replace k2 : (if c' = c then (F [.va (.obj c' ns ds)]).bind fun r => (match r.1 with
      | .va (.int n) => if (decide (0 ≤ n) && decide (n < 2 ^ 60)) = true then some (D.int n, en1) else none
      | _ => none) else none) = some (d0, en') := k2
    split at k2
    · rename_i hc
      subst hc
      obtain ⟨⟨r1, en3⟩, k5, k6⟩ := Option.bind_eq_some_iff.mp k2
      match r1, k6, k5 with
      | .va (.int n), k6, k5 =>
        replace k6 : (if (decide (0 ≤ n) && decide (n < 2 ^ 60)) = true then some (D.int n, en1) else none) = some (d0, en') := k6
        split at k6
        · rename_i hn
          cases k6
          obtain ⟨n1, n2⟩ := He.ba hn
          have n1 : 0 ≤ n := of_decide_eq_true n1
          have n2 : n < 2 ^ 60 := of_decide_eq_true n2
          refine ⟨s, e1, e2, ok, _, _, k1, fun v t tσ te okt st rp => ?_⟩
          obtain ⟨a, dx, kvs, rfl, hb, hk, rl⟩ := id rp
          refine ⟨a, dx, kvs, rfl, okt.ex _ _ hb, ?_⟩
          refine call0 (ds := [.obj c' ns ds]) okt st ⟨_, [], rfl, rp, rfl⟩ rfl k5 fun v w fr wσ we okw stw sl sd => ?_
          obtain ⟨_, v', ev, rv⟩ := sl
          cases ev
          cases (show v = .int n from rv)
          exact ⟨n.toNat, by rw [Int.toNat_of_nonneg n1], by omega, by rw [Int.toNat_of_nonneg n1]; exact q (.int n) w (wσ.trans tσ) (we.trans te) okw stw rfl⟩
        · cases k6
    · cases k2
  | _ => cases k2
def xEqO (c : Str) (F : FnT) (neg : Bool) (f g : En → Option (D × En)) : En → Option (Bool × En) := fun e => (f e).bind fun p => (g p.2).bind fun q => match p.1, q.1 with
  | .obj c' ns ds, .obj c'' ms es => if c' = c ∧ c'' = c then (F [.va (.obj c' ns ds), .va (.obj c'' ms es)]).bind fun r => (match r.1 with
    | .va (.bl b) => some (if neg then !b else b, q.2)
    | _ => none) else none
  | _, _ => none
theorem rd_eqO {K : PySem.W.Frag} {cls : List Str} {sub : Str → Str → Bool} {neg : Bool} (CF : ClF K cls sub) (hc : c ∈ cls) (hn : PySem.W.notFirst K (He.ga K c) (.ref (He.ga K c)) = true) {r : R2}
    (hr : ∀ x y H Q, (∃ a dx fs t, x = .ref a ∧ H a = some (.ins (He.ga K c) dx fs) ∧ TyX K H y t ∧ PySem.W.notFirst K (He.ga K c) t = true ∧ spM K 2 F [x, y] H (fun z H' => ∃ b, z = .bl b ∧ Q (.bl (if neg then !b else b)) H') E) → r x y H Q) :
    ∀ σ H (Q : Bool → Hp → Prop), rdT K (xEqO c F neg f g) σ H Q → tOp r (rdV K f) (rdV K g) σ H fun x H1 => ∃ b, x = .bl b ∧ Q b H1 := fun σ H Q ⟨s, e1, e2, ok, b0, en', hf, q⟩ => by
  obtain ⟨⟨d, en1⟩, k1, k2⟩ := Option.bind_eq_some_iff.mp hf
  obtain ⟨⟨d2, en2⟩, k3, k4⟩ := Option.bind_eq_some_iff.mp k2
  match d, d2, k4, k3, k1 with
  | .obj c' ns ds, .obj c'' ms es, k4', k3, k1 =>
    clear k4
    have k4 := k4'
    clear k4'
    replace k4 : (if c' = c ∧ c'' = c then (F [.va (.obj c' ns ds), .va (.obj c'' ms es)]).bind fun r => (match r.1 with
      | .va (.bl b) => some (if neg then !b else b, en2)
      | _ => none) else none) = some (b0, en') := k4
    split at k4
    · rename_i hcc
      obtain ⟨rfl, rfl⟩ := hcc
      obtain ⟨⟨r1, en3⟩, k5, k6⟩ := Option.bind_eq_some_iff.mp k4
      match r1, k6, k5 with
      | .va (.bl b), k6, k5 =>
        cases k6
        refine ⟨s, e1, e2, ok, _, en1, k1, fun v t tσ te okt st rp => ⟨t, tσ, rfl, okt, _, _, by rw [te]; exact k3, fun w u uσ ue oku st2 rp2 => ?_⟩⟩
        obtain ⟨a, dx, kvs, rfl, hb, hk, rl⟩ := id rp
        refine hr _ _ _ _ ⟨a, dx, kvs, _, rfl, oku.ex _ _ (st2.bb _ _ hb), ty_rep CF oku.ex rp2 (fun c z => by cases z; exact hc), hn, ?_⟩
        refine call0 (ds := [.obj c'' ns ds, .obj c'' ms es]) oku (st.trans st2) ⟨_, [w], rfl, rp.mono st2.bb, w, [], rfl, rp2, rfl⟩ rfl k5 fun v w fr wσ we okw stw sl sd => ?_
        obtain ⟨_, v', ev, rv⟩ := sl
        cases ev
        exact ⟨b, rv, _, rfl, q w (wσ.trans uσ) (we.trans ue) okw stw⟩
    · cases k4
theorem xt_eqO {cls : List Str} {sub : Str → Str → Bool} (CF : ClF X.K cls sub) (hc : c ∈ cls) (hn : PySem.W.notFirst X.K (He.ga X.K c) (.ref (He.ga X.K c)) = true) (h : PT X e (tTest (tOp (rOwnC X.K (He.ga X.K c) (spM X.K 2 F) E) (rdV X.K f) (rdV X.K g)))) : PT X e (rdT X.K (xEqO c F false f g)) :=
  PTi h (rd_eqO (E := E) (neg := false) CF hc hn fun x y H Q ⟨a, dx, fs, t, h1, h2, h3, h4, h5⟩ => ⟨a, dx, fs, t, h1, h2, h3, h4, by
    obtain ⟨l, s, s1, s2, s3, s4, r, en', s5, s6⟩ := h5
    refine ⟨l, s, s1, s2, s3, s4, r, en', s5, fun v t fr a b c d e f => ?_⟩
    obtain ⟨b', e', q'⟩ := s6 v t fr a b c d e f
    rw [e']; exact q'⟩)
theorem xt_neO {cls : List Str} {sub : Str → Str → Bool} (CF : ClF X.K cls sub) (hc : c ∈ cls) (hn : PySem.W.notFirst X.K (He.ga X.K c) (.ref (He.ga X.K c)) = true) (h : PT X e (tTest (tOp (rOwnNe X.K (He.ga X.K c) (spM X.K 2 F) E) (rdV X.K f) (rdV X.K g)))) : PT X e (rdT X.K (xEqO c F true f g)) :=
  PTi h (rd_eqO (E := E) (neg := true) CF hc hn fun x y H Q ⟨a, dx, fs, t, h1, h2, h3, h4, h5⟩ => ⟨a, dx, fs, t, h1, h2, h3, h4, h5⟩)
end
section
variable {X : Cx} {e : Expr} {c : Str} {F : FnT} {f g : En → Option (D × En)} {E : XK}
end
variable {W : WX}
def xParO (i j : Nat) (f g : En → Option (Sl × En)) : En → Option Out := fun e => (f e).bind fun p => (g p.2).bind fun q => (putS q.2 i p.1).bind fun e1 => (putS e1 j q.1).bind fun e2 => some (.nx e2)
section
variable {X : Cx}
theorem xs_parO {st : Stmt} {i j : Nat} {f g : En → Option (Sl × En)} (h : PS X st (tPar i j (tCons (rdE X.K f) (tCons (rdE X.K g) tNil)))) : PS X st (rdS X.K W (xParO i j f g)) := PSi h fun D σ H ⟨s, e1, e2, ok, o, hf, q⟩ => by
  obtain ⟨⟨r1, en1⟩, k1, k2⟩ := Option.bind_eq_some_iff.mp hf
  obtain ⟨⟨r2, en2⟩, k3, k4⟩ := Option.bind_eq_some_iff.mp k2
  obtain ⟨en3, k5, k6⟩ := Option.bind_eq_some_iff.mp k4
  obtain ⟨en4, k7, k8⟩ := Option.bind_eq_some_iff.mp k6
  cases k8
  refine ⟨s, e1, e2, ok, r1, en1, k1, fun v t fr tσ te okt st sl sd => ?_⟩
  refine ⟨t, tσ, rfl, okt, r2, en2, by rw [te]; exact k3, fun w u fr2 uσ ue oku st2 sl2 sd2 => ?_⟩
  have cell : ∀ a ∈ fr, ∃ o, t.H a = some o := fun a ha => by
    obtain ⟨o, e, _⟩ := sl.cell a ha
    exact ⟨o, e⟩
  have sl1 := sl.step st2 sd.no
  have sd1 := sd.step (K := X.K) cell st2
  obtain ⟨m1, m2⟩ := put_res (fr := fr) oku (st.trans st2) sl1 sd1 (by rw [ue]; exact k5)
  have sd3 : Side s ⟨u.B, u.H, u.σ.set i (some v), en3, fun k => if k = i then fr else u.fp k⟩ fr2 := by
    refine ⟨fun a ha z => ?_, fun a ha => sd2.b a ha, fun a ha => ?_⟩
    · obtain ⟨k, hk⟩ := z
      replace hk : a ∈ (if k = i then fr else u.fp k) := hk
      split at hk
      · rcases sd2.new a ha with z | z
        · obtain ⟨o, e⟩ := cell a hk
          rw [e] at z; cases z
        · exact sd.no a hk z
      · exact sd2.no a ha ⟨k, hk⟩
    · rcases sd2.new a ha with z | z
      · exact .inl (st.dm a z)
      · rcases st.ff a z with z | z
        · exact .inr z
        · exact .inl z
  obtain ⟨n1, n2⟩ := put_res (fr := fr2) m1 m2 (v := w) (x := r2) (i := j) sl2 sd3 k7
  refine ⟨v, w, rfl, ?_⟩
  rw [← uσ]
  exact q _ rfl n1 n2
end
section
variable {K : PySem.W.Frag}
end
def xItEt (f : En → Option (List D × En)) : En → Option (List D × En) := fun e => (f e).bind fun p => match p.1 with
  | [.tup _ ds] => some (enumD ds, p.2)
  | _ => none
section
variable {X : Cx} {tg : Expr} {e : Expr} {fa : En → Option (List D × En)}
theorem xi_enumT (h : PI X tg e (iEnumT X.K (rdA X.K fa))) : PI X tg e (rdI X.K (xItEt fa)) := PIi h fun σ H R ⟨s, e1, e2, ok, ds, en', hf, q⟩ => by
  obtain ⟨⟨d, en1⟩, k1, k2⟩ := Option.bind_eq_some_iff.mp hf
  match d, k2 with
  | [.tup kk xs], k2 =>
    cases k2
    refine ⟨s, e1, e2, ok, _, _, k1, fun vs t tσ te okt st rp => ?_⟩
    obtain ⟨v, r, rfl, ⟨a, us, rfl, ha, rl⟩, r2⟩ := rp
    replace ha := ha.sq
    cases (show r = [] from r2)
    have hle : (enumD xs).length = xs.length := by simp [enumD]
    refine ⟨a, us, rfl, ex_t okt.ex ha, q t _ tσ te okt st ⟨fun H' ex => ⟨us, ex_t ex ha, by rw [rl.len, hle]; exact Nat.le_refl _⟩, fun i H' ex hi => ?_, fun i H' x H'' ex hi y => ?_⟩⟩
    · obtain ⟨v, hv, _⟩ := rl.at (List.getElem?_eq_getElem (show i < xs.length by omega))
      exact ⟨us, v, ex_t ex ha, hv⟩
    · obtain ⟨T, x', rfl, hT, rfl, hx⟩ := y
      obtain ⟨d, hd, rd⟩ := rl.atV (hx us (ex_t ex ha))
      have hi' : i < xs.length := by omega
      refine ⟨Ex.new hT, .tup false [.int (i : Int), d], ?_, fun B' eb el => ⟨upd B' T (.tup [.int (i : Nat), x']), Ex.new (fresh_back el hT), fun b o z => ?_, fun b o z => ?_, T, _, rfl, upd_same, .int (i : Nat), [x'], rfl, rfl, x', [], rfl, rd.mono (eb.trans (Ex.new (fresh_back el hT))), rfl⟩⟩
      · have : xs[i]? = some d := hd
        have h2 : xs[i] = d := (List.getElem?_eq_some_iff.mp this).2
        simp [enumD, hi', List.getD_eq_getElem?_getD, h2]
      · by_cases hb : b = T
        · subst hb; rw [upd_same] at z; rw [upd_same]; exact z
        · rw [upd_ne hb] at z; rw [upd_ne hb]; exact el b o z
      · by_cases hb : b = T
        · subst hb; exact .inr hT
        · rw [upd_ne hb] at z; exact .inl z
end
def Pl.isE : Pl → Bool
  | .e _ _ _ => true
  | _ => false
theorem DefV.plain {K : PySem.W.Frag} {d : DefV} (h : d.at_.isE = false) : d.ok K = d.okF K ∧ fnW K d = fnV K (d.at_.ad K) := by
  obtain ⟨a, n, q, ps, b, s, df, kw⟩ := d
  cases a with
  | e _ _ _ => cases h
  | _ => exact ⟨rfl, rfl⟩
theorem DefV.funD {K : PySem.W.Frag} {d : DefV} (e : fnV K (d.at_.ad K) = d.val) (c : d.okF K = true) : ∃ fd, FunD K d.name d.qual d.params d.body d.scope (d.dvs K) (d.kws K) (d.at_.ad K) fd := by
  obtain ⟨kp, c2⟩ := He.ba c
  unfold fnV at e
  cases q : K.lookup (d.at_.ad K) with
  | none =>
    rw [q] at c2
    cases c2
  | some o =>
    obtain ⟨oc, od, dt, osl⟩ := o
    rw [q] at c2 e
    cases dt with
    | func fd =>
      obtain ⟨n1, n2, n3, n4, n5, n6, n7, n8, n9, n10, n11, n12, n13, n14, n15⟩ := fd
      have e2 : (some (n1, n2, n3, n4, n5, n6, n7, n15) : He.FnW) = some (d.name, d.qual, d.params, .stmts d.body, d.scope, mainGlobals, [], builtinsNs) := e
      simp only [Option.some.injEq, Prod.mk.injEq] at e2
      obtain ⟨h1, h2, h3, h4, h5, h6, h7, h8⟩ := e2
      subst h1 h2 h3 h4 h5 h6 h7 h8
      have c3 : (PySem.W.codeIn K n13 d.qual && (He.dflB K n8 (d.dvs K) && He.kwdB K n9 (d.kws K))) = true := c2
      obtain ⟨k1, k2⟩ := He.ba c3
      obtain ⟨k3, k4⟩ := He.ba k2
      exact ⟨_, ⟨oc, od, n8, n9, n10, n11, n12, n13, n14, osl, rfl, q, k1, He.dflB_ok k3, He.kwdB_ok k4⟩, kp⟩
    | _ => cases c2
theorem SaysV.facts {fa : List FaV} {fn : List DefV} {K : PySem.W.Frag} (c : SaysV fa fn K) : ∀ f ∈ fa, f.ok K = true := by
  have c1 := (He.ba (show ((fa.all fun f => f.ok K) && fn.all fun d => d.ok K) = true from congrArg (fun z : He.AlD => z.1) c)).1
  exact List.all_eq_true.mp c1
theorem SaysV.at_ {fa : List FaV} {fn : List DefV} {K : PySem.W.Frag} (c : SaysV fa fn K) (i : Nat) {d : DefV} (h : fn[i]? = some d := by rfl) : fnW K d = d.val ∧ d.ok K = true := by
  have c2 := (He.ba (show ((fa.all fun f => f.ok K) && fn.all fun d => d.ok K) = true from congrArg (fun z : He.AlD => z.1) c)).2
  have e : fn.map (fun d => fnW K d) = fn.map DefV.val := congrArg (fun z : He.AlD => z.2) c
  have e2 : (fn.map fun d => fnW K d)[i]? = (fn.map DefV.val)[i]? := by rw [e]
  rw [List.getElem?_map, List.getElem?_map, h] at e2
  exact ⟨Option.some.inj e2, List.all_eq_true.mp c2 d (List.mem_of_getElem? h)⟩
theorem SaysV.def_ {fa : List FaV} {fn : List DefV} {K : PySem.W.Frag} (c : SaysV fa fn K) (i : Nat) {d : DefV} (h : fn[i]? = some d := by rfl) (he : d.at_.isE = false := by rfl) : ∃ fd, FunD K d.name d.qual d.params d.body d.scope (d.dvs K) (d.kws K) (d.at_.ad K) fd := by
  obtain ⟨h1, h2⟩ := c.at_ i h
  obtain ⟨p1, p2⟩ := DefV.plain (K := K) he
  exact DefV.funD (p2.symm.trans h1) (p1.symm.trans h2)
structure Fcts (fa : List FaV) (K : PySem.W.Frag) (mg : Str → Option Value) : Prop where
  ok : ∀ f ∈ fa, f.ok K = true
  hp : ∃ h : Heap, K.In h ∧ h.Ns mainGlobals mg
section
variable {fa : List FaV} {K : PySem.W.Frag} {mg : Str → Option Value}
theorem Fcts.at_ (V : Fcts fa K mg) (i : Nat) {f : FaV} (h : fa[i]? = some f) : f.ok K = true := V.ok f (List.mem_of_getElem? h)
theorem Fcts.free (V : Fcts fa K mg) {x : Str} (i : Nat) (h : fa[i]? = some (.he (.free x))) : mg x = none := by
  obtain ⟨hp, X, G⟩ := V.hp
  exact He.free_ok X G (V.at_ i h)
theorem Fcts.glo (V : Fcts fa K mg) {x : Str} (i : Nat) (h : fa[i]? = some (.he (.glo x))) : mg x = some (.ref (He.ga K x)) := by
  obtain ⟨hp, X, G⟩ := V.hp
  exact He.glo_ok X G (V.at_ i h)
theorem Fcts.int (V : Fcts fa K mg) {x : Str} {n : Int} (i : Nat) (h : fa[i]? = some (.he (.int x n))) : ∃ t, mg x = some (.int n t) := by
  obtain ⟨hp, X, G⟩ := V.hp
  exact He.int_ok X G (V.at_ i h)
theorem Fcts.cls (V : Fcts fa K mg) {x : Str} (i : Nat) (h : fa[i]? = some (.he (.cls x))) : Cls K (He.ga K x) := He.cls_ok (V.at_ i h)
theorem Fcts.noat (V : Fcts fa K mg) {x f : Str} (i : Nat) (h : fa[i]? = some (.he (.noat x f))) : NoAttr K (He.ga K x) f := He.noat_ok (V.at_ i h)
theorem Fcts.meth (V : Fcts fa K mg) {x f : Str} (i : Nat) (h : fa[i]? = some (.he (.meth x f))) : Meth K (He.ga K x) f (He.ma K (He.ga K x) f) := He.meth_ok (V.at_ i h)
theorem Fcts.mkr (V : Fcts fa K mg) {x : Str} (i : Nat) (h : fa[i]? = some (.he (.mkr x))) : Mk K (He.ga K x) (He.ma K (He.ga K x) "__init__") := He.mkr_ok (V.at_ i h)
theorem Fcts.prp (V : Fcts fa K mg) {c x : Str} (i : Nat) (h : fa[i]? = some (.prp c x)) : PropOf K (He.ga K c) x (He.ma K (He.ga K c) x) ((Pl.p c x).ad K) := by
  obtain ⟨h1, c1⟩ := He.ba (V.at_ i h)
  obtain ⟨h2, c2⟩ := He.ba c1
  obtain ⟨h3, h4⟩ := He.ba c2
  refine ⟨He.eqO_ok h1, He.eqO_ok h2, of_decide_eq_true h3, ?_⟩
  show ∃ rest, PySem.W.recIn K (He.ma K (He.ga K c) x) "property" = some (.ref (recA K "property" (He.ma K (He.ga K c) x)) :: rest)
  unfold recA
  split at h4
  · rename_i g r q
    exact ⟨r, by rw [q]⟩
  · cases h4
theorem Fcts.stm (V : Fcts fa K mg) {c x : Str} (i : Nat) (h : fa[i]? = some (.stm c x)) : ClX.CRead K (He.ga K c) (.type "type") ∧ ∃ p, PySem.W.findCls K (.ref (He.ga K c)) (.type "type") x = some (.get (.builtin "staticmethod.__get__") (.ref p) .none (.ref (He.ga K c))) ∧
    ∃ rest, PySem.W.recIn K p "staticmethod" = some (.ref ((Pl.s c x).ad K) :: rest) := by
  obtain ⟨h1, c1⟩ := He.ba (V.at_ i h)
  obtain ⟨h2, c2⟩ := He.ba c1
  obtain ⟨h3, h4⟩ := He.ba c2
  refine ⟨⟨h1, He.eqO_ok h2⟩, ?_⟩
  show ∃ p, _ ∧ ∃ rest, PySem.W.recIn K p "staticmethod" = some (.ref (recA K "staticmethod" (smA K (He.ga K c) x)) :: rest)
  unfold smA at h4 ⊢
  split at h3
  · rename_i s p c' q
    obtain ⟨h5, h6⟩ := He.ba h3
    cases of_decide_eq_true h5
    cases of_decide_eq_true h6
    rw [q] at h4 ⊢
    refine ⟨p, rfl, ?_⟩
    replace h4 : (match PySem.W.recIn K p "staticmethod" with
      | some (.ref _ :: _) => true
      | _ => false) = true := h4
    show ∃ rest, PySem.W.recIn K p "staticmethod" = some (.ref (recA K "staticmethod" p) :: rest)
    unfold recA
    split at h4
    · rename_i g r q
      exact ⟨r, by rw [q]⟩
    · cases h4
  · cases h3
theorem rep_strs {B : Hp} : ∀ vs : List Str, RepL K B (vs.map .str) ((vs.map He.Dv.str).map (He.Dv.v K))
  | [] => rfl
  | x :: r => ⟨_, _, rfl, rfl, rep_strs r⟩
theorem Fcts.tup (V : Fcts fa K mg) {x : Str} {vs : List Str} (i : Nat) (h : fa[i]? = some (.tup x vs)) (B : Hp) : Rep K B (.tup true (vs.map .str)) (.ref (He.ga K x)) :=
  ⟨_, _, rfl, He.tupB_ok (V.at_ i h) B, rep_strs vs⟩
theorem Fcts.fni (V : Fcts fa K mg) {c : Str} (i : Nat) (h : fa[i]? = some (.fni c)) : ∀ f, PySem.W.findIn K (.ref (He.ga K c)) "__getitem__" = some (some (.ref f)) → PySem.W.fnIn K f = true := fun f hf => by
  have h1 : PySem.W.fnIn K (He.ma K (He.ga K c) "__getitem__") = true := V.at_ i h
  unfold He.ma at h1
  rw [hf] at h1
  exact h1
theorem Fcts.gen (V : Fcts fa K mg) {p : PySem.W.Frag → Bool} (i : Nat) (h : fa[i]? = some (.gen p)) : p K = true := V.at_ i h
theorem Fcts.nof (V : Fcts fa K mg) {c : Str} (i : Nat) (h : fa[i]? = some (.nof c)) : PySem.W.notFirst K (He.ga K c) (.ref (He.ga K c)) = true := V.at_ i h
theorem Fcts.ne (V : Fcts fa K mg) {c : Str} (i : Nat) (h : fa[i]? = some (.noe c)) : PySem.W.findIn K (.ref (He.ga K c)) "__ne__" = some (some (.builtin "object.__ne__")) := He.eqO_ok (He.ba (V.at_ i h)).1
theorem Fcts.ob (V : Fcts fa K mg) {c : Str} (i : Nat) (h : fa[i]? = some (.noe c)) : PySem.W.subIn K (.ref (He.ga K c)) (.type "object") = some true := of_decide_eq_true (He.ba (V.at_ i h)).2
theorem Fcts.clf (V : Fcts fa K mg) {cls : List Str} {sub : Str → Str → Bool} (i : Nat) (h : fa[i]? = some (.clf cls sub)) : ClF K cls sub := clf_of (V.at_ i h)
theorem Fcts.exi (V : Fcts fa K mg) {x : Str} (i : Nat) (h : fa[i]? = some (.exi x)) : ExcC K (He.ga K x) := by
  obtain ⟨h1, c1⟩ := He.ba (V.at_ i h)
  obtain ⟨h2, c2⟩ := He.ba c1
  obtain ⟨h3, c3⟩ := He.ba c2
  obtain ⟨h4, c4⟩ := He.ba c3
  obtain ⟨h5, c5⟩ := He.ba c4
  obtain ⟨h6, c6⟩ := He.ba c5
  obtain ⟨h7, h8⟩ := He.ba c6
  exact ⟨He.eqO_ok h1, He.eqO_ok h2, of_decide_eq_true h3, h4, He.eqO_ok h5, He.eqO_ok h6, of_decide_eq_true h7, of_decide_eq_true h8⟩
theorem Fcts.kito (V : Fcts fa K mg) {c d : Str} {b : Bool} (i : Nat) (h : fa[i]? = some (.kito c d b)) : PySem.W.kitOne K (.ref (He.ga K c)) (.ref (He.ga K d)) = some b := of_decide_eq_true (V.at_ i h)
theorem Fcts.kitt (V : Fcts fa K mg) {c : Str} {d : String} {b : Bool} (i : Nat) (h : fa[i]? = some (.kitt c d b)) : PySem.W.kitOne K (.ref (He.ga K c)) (.type d) = some b := of_decide_eq_true (V.at_ i h)
def exOf (l : List (Str × Str × Bool)) (a b : Str) : Option Bool := (l.find? fun t => t.1 == a && t.2.1 == b).map fun t => t.2.2
theorem Fcts.exl (V : Fcts fa K mg) {l : List (Str × Str × Bool)} (i : Nat) (h : fa[i]? = some (.exl l)) : ∀ a b r, exOf l a b = some r → PySem.W.exmOne K (.ref (He.ga K a)) (.ref (He.ga K b)) = some r := fun a b r e => by
  obtain ⟨t, h1, rfl⟩ := Option.map_eq_some_iff.mp e
  have h2 := List.find?_some h1
  obtain ⟨h3, h4⟩ := He.ba h2
  have h5 : t.1 = a := by simpa using h3
  have h6 : t.2.1 = b := by simpa using h4
  subst h5 h6
  exact of_decide_eq_true (List.all_eq_true.mp (V.at_ i h) t (List.mem_of_find?_eq_some h1))
end
theorem room65 {k : Nat} {A : Around} (r : Room k A) : A.units + 65 < cLine := by have := r.un; omega
theorem law_sp {K : PySem.W.Frag} {F : FnT} {n : Nat} (hF : ∀ ns : List Int, ns.length ≤ n → ∃ en, F [.va (.scr ns)] = some (.va (.bl true), en)) (H : Hp) (a : Addr) (ns : List Int) (hl : ns.length ≤ n) (hS : SqL K H a (ns.map V.int)) (hT : Tbs K H) (E : XK) :
    spM K 1 F [.ref a] H (fun v _ => v = .bl true) E := by
  obtain ⟨en, h⟩ := hF ns hl
  have ok0 : EnOk K ⟨noT H, H, [], [], fun _ => []⟩ := ⟨Ex.noT H, rfl, fun i x e => (by simp at e), fun _ _ => rfl, fun _ _ _ h => (by cases h), fun _ _ h => (by cases h), nt_noT, hT⟩
  have rp0 : RepL K (noT H) [.scr ns] [.ref a] := RepL.nt (B := H) (fun a o z n => noT_of z n) ⟨_, _, rfl, ⟨a, rfl, hS⟩, rfl⟩
  refine ⟨rfl, argS ⟨noT H, H, [], [], fun _ => []⟩ [.ref a] [.scr ns], rfl, rfl, argS_ok ok0 rp0, va_arg _, _, en, h, fun v t fr _ _ _ _ sl _ => ?_⟩
  obtain ⟨_, v', ev, rv⟩ := sl
  cases ev
  exact rv
section
variable {prog : Program} {w : World} {A : Around} {E : Value → Shared → Prop} {s : Shared}
end
section
variable {X : Cx}
end
def xDict0 : En → Option (Sl × En) := fun e => some (.ow (.o1 (.dct [] [])), e)
section
variable {X : Cx} {e : Expr} {f : En → Option (D × En)} {p : List D → Option Sl} {K : PySem.W.Frag}
end
def xAndV (f g : En → Option (D × En)) : En → Option (D × En) := fun e => (xB f e).bind fun p => if p.1 = true then g p.2 else some (.bl false, p.2)
def xOrV (f g : En → Option (D × En)) : En → Option (D × En) := fun e => (xB f e).bind fun p => if p.1 = true then some (.bl true, p.2) else g p.2
section
variable {X : Cx} {a b : Expr} {rest : List Expr} {pos : Pos} {f g : En → Option (D × En)}
theorem xe_andV (ha : PE X a (rdV X.K f)) (hb : PE X (.BoolOp .And (b :: rest) pos) (rdV X.K g)) : PE X (.BoolOp .And (a :: b :: rest) pos) (rdV X.K (xAndV f g)) := xe_and ha hb
end
def xeNo {α : Type} : En → Option (α × En) := fun _ => none
section
variable {X : Cx} {e : Expr}
end
section
variable {K : PySem.W.Frag}
end
def xMtT (c m : Str) (n : Nat) (F : FnT) (f : En → Option (Sl × En)) (fa : En → Option (List D × En)) : En → Option (Sl × En) := fun e => (f e).bind fun p => match p.1 with
  | .ow (.obj c' ns vs) => if c' = c ∧ m ∉ ns then (fa p.2).bind fun q => if q.1.length + 1 = n then (F (.pw (.obj c' ns vs) :: q.1.map .va)).bind fun r => some (r.1, q.2) else none else none
  | _ => none
def xFnT2 (F : FnT) (f1 f2 : En → Option (D × En)) (f : En → Option (Sl × En)) : En → Option (Sl × En) := fun e => (f1 e).bind fun p1 => (f2 p1.2).bind fun p2 => (f p2.2).bind fun p => match p.1 with
  | .ow o => (F [.va p1.1, .va p2.1, .pw o]).bind fun r => some (r.1, p.2)
  | _ => none
section
variable {X : Cx} {e : Expr} {n : Nat} {F : FnT} {f : En → Option (Sl × En)} {f1 f2 : En → Option (D × En)} {fa : En → Option (List D × En)} {E : XK} {c m : Str}
end
def xDict0T : En → Option (Sl × En) := fun e => some (.ow (.o1 (.dcT [] [])), e)
def xAllL : List (En → Option (D × En)) → En → Option (List D × En)
  | [] => xNil
  | f :: fs => xCons f (xAllL fs)
def nodupS : List Str → Bool
  | [] => true
  | k :: ks => !(ks.any fun j => decide (j = k)) && nodupS ks
def xDisp (ks : List Str) (fs : List (En → Option (D × En))) : En → Option (Sl × En) := fun e => (xAllL fs e).bind fun p => if (decide (p.1.length = ks.length) && (decide (ks.length ≤ 15) && nodupS ks)) = true then some (.ow (.o1 (.dct (ks.map Sum.inr) p.1)), p.2) else none
section
variable {X : Cx} {e : Expr}
end
def xGet2 (f g h : En → Option (D × En)) : En → Option (D × En) := fun e => (f e).bind fun p => (g p.2).bind fun k => (h k.2).bind fun z => match p.1 with
  | .dct ks ds => k.1.key.bind fun kk => if dHas ks kk = true then (dGet ks ds kk).bind fun d => some (d, z.2) else some (z.1, z.2)
  | _ => none
section
variable {X : Cx} {e : Expr} {f g h : En → Option (D × En)}
end
section
variable {K : PySem.W.Frag} {F : FnT} {n : Nat} {c : Str} {E : XK}
end
def mkO (r : Option (Sl × En)) (e : En) : Option (Sl × En) := r.bind fun r => match r with
  | (.va .non, .pw o :: _) => some (.ow o, e)
  | _ => none
def xMkR (c : Str) (F : FnT) (fa : En → Option (List D × En)) : En → Option (Sl × En) := fun e => (fa e).bind fun p => if p.1.length ≤ 100000 then mkO (F [.pw (.obj c [] []), .va (.tup false p.1)]) p.2 else none
def xMkS (c : Str) (F : FnT) (f : En → Option (D × En)) : En → Option (Sl × En) := fun e => (f e).bind fun p => match p.1 with
  | .lst ds => if ds.length ≤ 100000 then mkO (F [.pw (.obj c [] []), .va (.tup false ds)]) p.2 else none
  | .tup _ ds => if ds.length ≤ 100000 then mkO (F [.pw (.obj c [] []), .va (.tup false ds)]) p.2 else none
  | _ => none
section
variable {X : Cx} {e : Expr} {F : FnT} {f : En → Option (D × En)} {fa : En → Option (List D × En)} {E : XK} {c : Str}
def xMkK (c : Str) (m : Nat) (F : FnT) (gD : List D → List D) (fa : En → Option (List D × En)) : En → Option (Sl × En) := fun e => (fa e).bind fun p => if p.1.length = m then mkO (F (.pw (.obj c [] []) :: (gD p.1).map .va)) p.2 else none
end
variable {W : WX}
section
variable {P : Program} {w : World} {K : PySem.W.Frag} {mg : Str → Option Value} {base : Heap} {x qual : Str} {st : Stmt} {f : Addr} {fd : FuncData} {N : List Str} {k n m : Nat} {b : En → Option Out} {pv : Str}
end
section
variable {X : Cx} {CX : CXT} {k j : Nat} {C : Addr} {ps ks : List Str} {sp : Sp} {E : XK} {x : Str} {p pos : Pos} {kws : List Keyword} {tk : TA} {gV : List V → List V → List V}
end
def mgK (ks : List Key) : List Key → List Key
  | [] => ks
  | k :: r => mgK (dPutK ks k) r
def mgD (ks : List Key) (ds : List D) : List Key → List D → List D
  | k :: r, d :: es => mgD (dPutK ks k) (dPutD ks ds k d) r es
  | _, _ => ds
def xDUp (i : Nat) (f : En → Option (D × En)) : En → Option (Sl × En) := fun e => (leafAt Str.empty e i none).bind fun o0 => (f e).bind fun p => (leafAt Str.empty p.2 i none).bind fun o => match o0, o, p.1 with
  | .dct _ _, .dct ks ds, .dct js es => if ks.length + js.length < 100000 then some (.va .non, setLeaf p.2 i (.dct (mgK ks js) (mgD ks ds js es)) none) else none
  | _, _, _ => none
def xMv (i : Nat) : En → Option (Sl × En) := fun e => match e[i]? with
  | some (.va d) => some (.va d, e)
  | some (.ow o) => some (.ow o, e.set i .no)
  | _ => none
theorem xe_mv {X : Cx} {i : Nat} {x : Str} {pos : Pos} (hp : PE X (.Name x pos) (tVar i)) (hg : ∀ σ : L2.St, ∀ v, σ[i]? = some (some v) → σ.set i (some v) = σ := fun σ v h => by
    apply List.ext_getElem?
    intro j
    rw [List.getElem?_set]
    by_cases hj : i = j
    · subst hj
      rw [if_pos rfl, if_pos (List.getElem?_eq_some_iff.mp h).1, h]
    · rw [if_neg hj]) : PE X (.Name x pos) (rdE X.K (xMv i)) := PEi hp fun σ H Q ⟨s, e1, e2, ok, r, en', hf, q⟩ => by
  unfold xMv at hf
  cases e : s.en[i]? with
  | none => rw [e] at hf; cases hf
  | some sl =>
    rw [e] at hf
    obtain ⟨ov, ev, so⟩ := ok.sl i sl e
    cases sl with
    | no => cases hf
    | pw o => cases hf
    | va d =>
      cases hf
      obtain ⟨_, v, rfl, rp⟩ := so
      refine ⟨v, by rw [← e1]; exact ev, ?_⟩
      rw [← e2]
      exact q v s [] e1 rfl ok (Stp.refl s) ⟨rfl, v, rfl, rp⟩ .nil
    | ow o =>
      cases hf
      obtain ⟨v, rfl, ho⟩ := so
      refine ⟨v, by rw [← e1]; exact ev, ?_⟩
      rw [← e2]
      have hi : i < s.en.length := (List.getElem?_eq_some_iff.mp e).1
      have k1 := ok.put (ov := some v) (x := .no) (fr := []) hi rfl (fun _ z => by cases z) (fun _ z => by cases z)
      have k2 : Stp s ⟨s.B, s.H, s.σ.set i (some v), s.en.set i .no, fun j => if j = i then [] else s.fp j⟩ := Stp.put (fun o' z => by rw [e] at z; cases z) fun _ z => by cases z
      refine q v ⟨s.B, s.H, s.σ.set i (some v), s.en.set i .no, fun j => if j = i then [] else s.fp j⟩ (s.fp i) ((hg _ _ ev).trans e1) rfl k1 k2 ⟨v, rfl, ho⟩ ⟨fun a ha ⟨j, hj⟩ => ?_, ok.off i, fun a ha => .inr ⟨i, ha⟩⟩
      have hj : a ∈ (if j = i then [] else s.fp j) := hj
      by_cases ej : j = i
      · rw [if_pos ej] at hj; cases hj
      · rw [if_neg ej] at hj; exact ej (ok.dj j i a hj ha)
variable {W : WX}
def IsDk (kvs : List (Key × V)) (u : HO) : Prop := u = .dK kvs ∨ ∃ o, u = .frz o (.dK kvs)
section
variable {K : PySem.W.Frag} {B H : Hp} {a : Addr} {u u' : HO} {kvs : List (Key × V)}
section
variable (h : B a = some u) (hu : IsDk kvs u) (hu' : IsDk kvs u')
include h hu hu'
end
end
section
variable {K : PySem.W.Frag} {a : Addr} {u u' : HO} {kvs : List (Key × V)}
end
def kyD : Key → D
  | .inl i => .int i
  | .inr x => .str x
def xItK (i : Nat) : En → Option (List D × En) := fun e => match e[i]? with
  | some (.va (.dct ks _)) => some (ks.map kyD, e)
  | _ => none
def xItI (i : Nat) : En → Option (List D × En) := fun e => match e[i]? with
  | some (.va (.dct ks ds)) => some ((ks.zip ds).map fun p => .tup false [kyD p.1, p.2], e)
  | _ => none
section
variable {K : PySem.W.Frag} {σ : L2.St} {H : Hp} {i : Nat} {a : Addr} {od : Obj} {kvs : List (Key × V)}
end
section
variable {K : PySem.W.Frag} {f : En → Option (List D × En)} {g : D → En → Option En} {b : En → Option Out}
end
section
variable {K : PySem.W.Frag} {i : Nat} {g : D → En → Option En} {b : En → Option Out} {it : En → Option (List D × En)} {ti : TI}
end
section
variable {X : Cx} {st : Stmt} {e : Expr} {i : Nat} {g : D → En → Option En} {b : En → Option Out}
end
section
variable {X : Cx} {e : Expr} {i : Nat} {vs : List Nat} {g : TG} {gD : D → En → Option En} {c : En → Option (Bool × En)} {f : En → Option (D × En)}
end
variable {W : WX}
def Sl.kill : Sl → Sl
  | .pw o => .pw o
  | _ => .no
def Sl.frz : Sl → Sl
  | .ow o => .va o.fz
  | x => x
def klM : List Bool → En → En
  | [], e => e
  | _ :: _, [] => []
  | true :: m, x :: e => x.kill :: klM m e
  | false :: m, x :: e => x :: klM m e
def frE : Nat → En → En
  | _, [] => []
  | 0, x :: e => x.frz :: e
  | n + 1, x :: e => x :: frE n e
def killO (m : List Bool) : Out → Out
  | .nx e => .nx (klM m e)
  | o => o
def killB (m : List Bool) : Out → Out
  | .nx e => .nx (klM m e)
  | .ct e => .ct (klM m e)
  | .bk e => .bk (klM m e)
  | o => o
def xKl (m : List Bool) (f : En → Option Out) : En → Option Out := fun e => (f e).bind fun o => some (killO m o)
def xKb (m : List Bool) (f : En → Option Out) : En → Option Out := fun e => (f e).bind fun o => some (killB m o)
def xFr (i : Nat) (f : En → Option Out) : En → Option Out := fun e => f (frE i e)
theorem klM_len : ∀ (m : List Bool) (e : En), (klM m e).length = e.length
  | [], _ => rfl
  | _ :: _, [] => rfl
  | true :: m, _ :: e => congrArg (· + 1) (klM_len m e)
  | false :: m, _ :: e => congrArg (· + 1) (klM_len m e)
theorem kill_at (x : Sl) : x.kill = x ∨ x.kill = .no ∧ ∀ o, x ≠ .pw o := by
  cases x with
  | pw o => exact .inl rfl
  | _ => exact .inr ⟨rfl, fun o z => by cases z⟩
theorem klM_at : ∀ {m : List Bool} {e : En} {i : Nat} {y : Sl}, (klM m e)[i]? = some y → ∃ x, e[i]? = some x ∧ (y = x ∨ y = .no ∧ ∀ o, x ≠ .pw o)
  | [], _, _, y, h => ⟨y, h, .inl rfl⟩
  | _ :: _, [], _, _, h => by simp [klM] at h
  | true :: m, x :: e, 0, y, h => by
    cases Option.some.inj (show some x.kill = some y from h)
    exact ⟨x, rfl, kill_at x⟩
  | false :: m, x :: e, 0, y, h => by
    cases Option.some.inj (show some x = some y from h)
    exact ⟨x, rfl, .inl rfl⟩
  | true :: m, x :: e, i + 1, y, h => by
    obtain ⟨z, h1, h2⟩ := klM_at (m := m) (e := e) (i := i) (y := y) (by simpa [klM] using h)
    exact ⟨z, by simpa using h1, h2⟩
  | false :: m, x :: e, i + 1, y, h => by
    obtain ⟨z, h1, h2⟩ := klM_at (m := m) (e := e) (i := i) (y := y) (by simpa [klM] using h)
    exact ⟨z, by simpa using h1, h2⟩
def klF (m : List Bool) (s : Sta) : Nat → List Addr := fun i => match (klM m s.en)[i]? with
  | some .no => []
  | _ => s.fp i
section
variable {K : PySem.W.Frag}
theorem klF_sub {m : List Bool} {s : Sta} {i : Nat} {a : Addr} (h : a ∈ klF m s i) : a ∈ s.fp i := by
  unfold klF at h
  split at h
  · cases h
  · exact h
theorem kl_ok {s : Sta} (ok : EnOk K s) (m : List Bool) : EnOk K ⟨s.B, s.H, s.σ, klM m s.en, klF m s⟩ ∧ Stp s ⟨s.B, s.H, s.σ, klM m s.en, klF m s⟩ := by
  refine ⟨⟨ok.ex, ?_, fun i x e => ?_, fun i e => ?_, fun i j a hi hj => ok.dj i j a (klF_sub hi) (klF_sub hj), fun i a hi => ok.off i a (klF_sub hi), ok.nt, ok.tb⟩,
    ⟨Ex.refl _, fun _ _ h => .inl h, fun _ _ h _ _ => h, fun _ h => h, fun a ⟨i, hi⟩ => .inl ⟨i, klF_sub hi⟩, fun i o h => ⟨rfl, o, ?_⟩, klM_len ..⟩⟩
  · show (klM m s.en).length = _
    rw [klM_len]; exact ok.len
  · have e : (klM m s.en)[i]? = some x := e
    obtain ⟨y, h1, h2⟩ := klM_at e
    obtain ⟨ov, e1, q⟩ := ok.sl i y h1
    refine ⟨ov, e1, ?_⟩
    show SlOk K s.B s.H ov x (klF m s i)
    unfold klF
    rw [e]
    rcases h2 with rfl | ⟨rfl, _⟩
    · cases x with
      | no => exact rfl
      | _ => exact q
    · exact rfl
  · have e : (klM m s.en)[i]? = none := e
    have hl := List.getElem?_eq_none_iff.mp e
    rw [klM_len] at hl
    show klF m s i = []
    unfold klF
    rw [e]
    exact ok.out i (List.getElem?_eq_none hl)
  · show (klM m s.en)[i]? = some (.pw o)
    have hi : i < (klM m s.en).length := by rw [klM_len]; exact (List.getElem?_eq_some_iff.mp h).1
    obtain ⟨y, h1, h2⟩ := klM_at (List.getElem?_eq_getElem hi)
    rw [h] at h1
    cases h1
    rcases h2 with h2 | ⟨_, h2⟩
    · rw [List.getElem?_eq_getElem hi, h2]
    · exact absurd rfl (h2 o)
end
section
variable {X : Cx} {st : Stmt} {sts : List Stmt} {f : En → Option Out} {m : List Bool} {i : Nat}
theorem rd_kl {K : PySem.W.Frag} : ∀ D σ H, rdS K W (xKl m f) D σ H → rdS K W f D σ H := fun D σ H ⟨s, e1, e2, ok, o, hf, q⟩ => by
  obtain ⟨o1, k1, k2⟩ := Option.bind_eq_some_iff.mp hf
  cases k2
  refine ⟨s, e1, e2, ok, o1, k1, ?_⟩
  cases o1 with
  | nx e => exact fun t te okt st => q ⟨t.B, t.H, t.σ, klM m t.en, klF m t⟩ (by rw [te]) (kl_ok okt m).1 (st.trans (kl_ok okt m).2)
  | _ => exact q
theorem rd_kb {K : PySem.W.Frag} : ∀ D σ H, rdS K W (xKb m f) D σ H → rdS K W f D σ H := fun D σ H ⟨s, e1, e2, ok, o, hf, q⟩ => by
  obtain ⟨o1, k1, k2⟩ := Option.bind_eq_some_iff.mp hf
  cases k2
  refine ⟨s, e1, e2, ok, o1, k1, ?_⟩
  cases o1 with
  | rt r e => exact q
  | ex r e => exact q
  | _ e => exact fun t te okt st => q ⟨t.B, t.H, t.σ, klM m t.en, klF m t⟩ (by rw [te]) (kl_ok okt m).1 (st.trans (kl_ok okt m).2)
theorem xs_kl (m : List Bool) (h : PS X st (rdS X.K W f)) : PS X st (rdS X.K W (xKl m f)) := PSi h rd_kl
theorem xss_kb (m : List Bool) (h : PSs X sts (rdS X.K W f)) : PSs X sts (rdS X.K W (xKb m f)) := PSsi h rd_kb
end
section
variable (x : Sl) (o : O2) (d : D) (e : En) (m : List Bool) (i : Nat) (f : En → Option Out)
theorem xFr_e : xFr i f e = f (frE i e) := rfl
theorem killO_nx : killO m (.nx e) = .nx (klM m e) := rfl
theorem killO_rt (r : Sl) : killO m (.rt r e) = .rt r e := rfl
theorem killO_bk : killO m (.bk e) = .bk e := rfl
theorem killO_ct : killO m (.ct e) = .ct e := rfl
theorem killB_nx : killB m (.nx e) = .nx (klM m e) := rfl
theorem killB_rt (r : Sl) : killB m (.rt r e) = .rt r e := rfl
theorem killB_bk : killB m (.bk e) = .bk (klM m e) := rfl
theorem killB_ct : killB m (.ct e) = .ct (klM m e) := rfl
theorem klM_n : klM [] e = e := rfl
theorem klM_t : klM (true :: m) (x :: e) = x.kill :: klM m e := rfl
theorem klM_f : klM (false :: m) (x :: e) = x :: klM m e := rfl
theorem kill_pw : Sl.kill (.pw o) = .pw o := rfl
theorem kill_ow : Sl.kill (.ow o) = .no := rfl
theorem kill_va : Sl.kill (.va d) = .no := rfl
theorem kill_no : Sl.kill .no = .no := rfl
theorem frE_z : frE 0 (x :: e) = x.frz :: e := rfl
theorem frE_s : frE (i + 1) (x :: e) = x :: frE i e := rfl
theorem frz_pw : Sl.frz (.pw o) = .pw o := rfl
theorem frz_ow : Sl.frz (.ow o) = .va o.fz := rfl
theorem frz_va : Sl.frz (.va d) = .va d := rfl
theorem frz_no : Sl.frz .no = .no := rfl
end
inductive Rs where
  | ok (x : Sl) | er (r : Er)
abbrev FnX := En → Option (Rs × En)
def RsO (K : PySem.W.Frag) (E : XK) (σ : L2.St) (en' : En) (s : Sta) (Q : VK) : Rs → Prop
  | .ok x => ∀ v t fr, t.σ = σ → t.en = en' → EnOk K t → Stp s t → SlOk K t.B t.H (some v) x fr → Side s t fr → Q v t.H
  | .er er => ∀ cls d t, t.σ = σ → t.en = en' → EnOk K t → Stp s t → RepEr K t.B er cls d → E cls d t.H
theorem RsO.from {K : PySem.W.Frag} {E : XK} {σ : L2.St} {en' : En} {s t : Sta} {Q : VK} {r : Rs} (h : RsO K E σ en' s Q r) (st : Stp s t) : RsO K E σ en' t Q r := by
  cases r with
  | ok x => exact fun v u fr a b c d e f => h v u fr a b c (st.trans d) e (st.sideL f)
  | er x => exact fun cls d u a b c e f => h cls d u a b c (st.trans e) f
section
variable {P : Program} {w : World} {K : PySem.W.Frag} {mg : Str → Option Value} {base : Heap} {x qual : Str} {st : Stmt} {f : Addr} {fd : FuncData} {N ps : List Str} {k n : Nat} {b : En → Option Out}
end
section
variable {K : PySem.W.Frag}
end
section
variable {X : Cx} {e : Expr} {n i : Nat} {F : FnX} {f g : En → Option (D × En)} {fa : En → Option (List D × En)} {E : XK} {C : Addr} {m c : Str}
end
section
variable {X : Cx} {e : Expr} {W : WX} {pos : Pos} {st : Stmt} {f : En → Option (Rs × En)}
end
end Ag
namespace PySem
namespace Er_index
open PySem.W PySem.Calls PyProof.Rows PySem.HandSPX PySem.ErX
section
variable {prog : Program} {w : World} {A : Around} {E : Value → Shared → Prop} {R : Result → Shared → Prop} {s : Shared} {K : Frag} {mg mb : Str → Option Value} {NM : Str} {C fI : Addr}
end
end Er_index
end PySem
namespace PySem
namespace Er_part
open PySem.W PySem.Calls PyProof.Rows PySem.HandSPX PySem.ErX
section
variable {prog : Program} {w : World} {A : Around} {E : Value → Shared → Prop} {R : Result → Shared → Prop} {s : Shared} {K : Frag} {mg mb : Str → Option Value} {NM : Str} {C fI : Addr}
end
end Er_part
end PySem
namespace PySem
namespace Er_limit
open PySem.W PySem.Calls PyProof.Rows PySem.HandSPX PySem.ErX
section
variable {prog : Program} {w : World} {A : Around} {E : Value → Shared → Prop} {R : Result → Shared → Prop} {s : Shared} {K : Frag} {mg mb : Str → Option Value} {NM : Str} {C fI : Addr}
end
end Er_limit
end PySem
namespace PySem
namespace Er_two
open PySem.W PySem.Calls PyProof.Rows PySem.HandSPX PySem.ErX
section
variable {prog : Program} {w : World} {A : Around} {E : Value → Shared → Prop} {R : Result → Shared → Prop} {s : Shared} {K : Frag} {mg mb : Str → Option Value} {NM : Str} {C fI : Addr}
end
end Er_two
end PySem
namespace Ag
open PySem PySem.Spec PyProof.Rows L2 Evl PySem.ErX
def dmA (m : Str → Option Value) : List Str → List Value → Str → Option Value
  | f :: fs, v :: vs => dmA (fun y => if y = f then some v else m y) fs vs
  | _, _ => m
def dm (fs : List Str) (vs : List Value) : Str → Option Value := dmA (fun _ => none) fs vs
structure ErrL (P : Program) (w : World) (K : PySem.W.Frag) (mg : Str → Option Value) (NM : Str) (C : Addr) (fls : List Str) : Prop where
  gC : mg NM = some (.ref C)
  kC : PySem.W.keepIn K (.ref C) = true
  exC : PySem.W.subIn K (.ref C) (.type "BaseException") = some true
  tyC : PySem.W.typeIn K (.ref C) = some (.type "type")
  ga : PySem.W.findIn K (.ref C) "__getattribute__" = some (some (.builtin "BaseException.__getattribute__"))
  gg : PySem.W.findIn K (.ref C) "__getattr__" = some none
  noN : ∀ f ∈ fls, PySem.W.findIn K (.ref C) f = some none
  hdC : PySem.W.hasDictIn K C = true
  nd : fls.Nodup
  make : ∀ {A : Around} {R : Result → Shared → Prop} {s : Shared} {mb : Str → Option Value} {vs : List Value}, vs.length = fls.length → K.In s.heap → s.heap.NoLimit → s.heap.Ns mainGlobals mg → s.heap.Ns builtinsNs mb → (∀ x : Str, x ≠ "__name__" → mb x = bootBuiltins x) →
    A.depth + 1 < recursionLimit → (∀ h' tk e d, ErX.Made s.heap h' e C d (dm fls vs) → R (.ok (.ret (.ref e))) { s with heap := h', toks := tk }) → codeAny (model P w) A (.call (.ref C) ⟨vs, []⟩) R s
theorem ErrL.one {P : Program} {w : World} {K : PySem.W.Frag} {mg : Str → Option Value} {NM f : Str} {C : Addr} (T : Err P w K mg NM C f) : ErrL P w K mg NM C [f] where
  gC := T.gC
  kC := T.kC
  exC := T.exC
  tyC := T.tyC
  ga := T.ga
  gg := T.gg
  noN := fun g hg => by cases List.mem_singleton.mp hg; exact T.noN
  hdC := T.hdC
  nd := by simp
  make := fun {A R s mb vs} hl a b c d e f g => by
    match vs, hl with
    | [v], _ => exact T.make a b c d e f g
section
variable {X : Cx} {C : Addr} {NM : Str} {fls : List Str} {a : Expr} {as : List Expr} {ta : TA} {W : WX} {p pos pos2 : Pos} {k j : Nat}
end
end Ag
namespace Ag
open PySem PySem.Spec PyProof.Rows L2 Evl
abbrev Cl := Value × Nat × (Addr → Value → Option Addr → TS)
inductive ClsOk (X : Cx) : List ExceptHandler → List Cl → Prop
  | nil : ClsOk X [] []
  | cons {x n : Str} {c : Value} {i : Nat} {ts : Addr → Value → Option Addr → TS} {s0 : Stmt} {ss : List Stmt} {p1 p2 : Pos} {hd : List ExceptHandler} {l : List Cl} (nm : Names X x c) (at_ : X.N[i]? = some n) (lo : X.env.kindOf n = some .local)
      (su : ∀ (a : Addr) (oe : Obj) (cls : Value) (d : Option Addr) (pn : List (Addr × Obj)), Zc cls d oe → (∃ vs, oe.data = .fields vs) → PSs (X.suite a ((a, oe) :: pn)) (s0 :: ss) (ts a cls d)) (more : ClsOk X hd l) :
      ClsOk X (.ExceptHandler (some (.Name x p1)) (some n) (s0 :: ss) p2 :: hd) ((c, i, ts) :: l)
structure Landed (X : Cx) (pins : List (Addr × Obj)) (s1 : Shared) (h3 : Heap) (a : Addr) (B : Heap) (sI : Shared) (τ : L2.St) (G : Hp) (cls : Value) (d : Option Addr) : Prop where
  J : Inv X pins τ G sI
  nb : ∀ b o, sI.heap.get? b = some o → b ∉ frs X.stack → B.get? b = some o
  up : sI.heap.UpToSlots h3
  fl : HandSPX.FlyingZ B (X.env :: X.outer) a (Zc cls d) h3
  na : G a = none
  os : s1.os = sI.os
  ag : AllBare s1.gens
section
variable {X : Cx} {pins : List (Addr × Obj)} {s1 : Shared} {h3 : Heap} {a : Addr} {B : Heap} {sI : Shared} {τ : L2.St} {G : Hp} {cls : Value} {d : Option Addr}
theorem Landed.off (L : Landed X pins s1 h3 a B sI τ G cls d) (hf : X.env.frame = some X.env.locals) : ∃ oe vs, h3.get? a = some oe ∧ Zc cls d oe ∧ oe.data = .fields vs ∧ a ≠ X.env.locals ∧ a ∉ X.fs := by
  obtain ⟨oe, vs, g, z, dt⟩ := L.fl.there
  have out : a ∉ frs (X.env :: X.outer) := fun hm => by
    obtain ⟨_, o2, g2, nf⟩ := L.fl.2.2.1.mem hm
    cases (g.symm.trans g2)
    exact nf _ dt
  refine ⟨oe, vs, g, z, dt, fun e => out (List.mem_filterMap.mpr ⟨X.env, List.mem_cons_self, e ▸ hf⟩), fun hm => ?_⟩
  obtain ⟨v, hv, q⟩ := List.mem_filterMap.mp hm
  exact out (List.mem_filterMap.mpr ⟨v, List.mem_cons_of_mem _ hv, q⟩)
theorem Landed.again (L : Landed X pins s1 h3 a B sI τ G cls d) {h4 : Heap} (f4 : HandSPX.FlyingZ B (X.env :: X.outer) a (Zc cls d) h4) (u4 : h3.UpToSlots h4) : Landed X pins s1 h4 a B sI τ G cls d := ⟨L.J, L.nb, L.up.trans u4, f4, L.na, L.os, L.ag⟩
theorem Landed.on (L : Landed X pins s1 h3 a B sI τ G cls d) {Wo : WX} {Q : Flow → Shared → Prop} (st : X.stack = X.env :: X.outer) (hf : X.env.frame = some X.env.locals) (tk : Takes X Wo) (w : Wo cls d τ G) :
    wpAny (model X.prog X.w) X.A (handleBy (.ref a) X.env []) Q X.xe { s1 with heap := h3 } := by
  refine wpAny_handleBy_nil ?_
  obtain ⟨_, _, _, oe, vs, T, _, _, g, _, dt, g1, _⟩ := id L.fl
  unfold PySem.passOn
  refine wpAny_bind (wpAny_field g dt g1 ?_)
  have ne : ¬ ((Value.ref T == Value.none) = true) := by simp
  rw [if_neg ne]
  have last : wpAny (model X.prog X.w) X.A (setFlight (.ref a) X.env.frame) (fun _ s4 => wpAny (model X.prog X.w) X.A (throw (.ref a) : Sem Flow) Q X.xe s4) X.xe { s1 with heap := h3 } := by
    rw [hf]
    refine HandSPX.setFlight_upZ L.fl fun h4 h5 h6 => wpAny_throw (tk _ _ ?_)
    exact ⟨a, B, sI, pins, τ, G, cls, d, rfl, L.J, L.nb, L.up.trans h6, .inr (.inr (by rw [st]; exact h5)), L.na, L.os, L.ag, w⟩
  first
    | exact wpAny_bind (wpAny_pure (wpAny_bind last))
    | exact wpAny_bind last
end
section
variable {X : Cx} {body : List Stmt} {h₀ : ExceptHandler} {hd : List ExceptHandler} {l : List Cl} {pos : Pos} {tb : WX → TS} {Wo : WX}
end
structure Su where
  i : Nat
  a : Addr
  cls : Value
  d : Option Addr
  er : Er
def Su.tie (u : Su) (K : PySem.W.Frag) (s : Sta) : Prop := s.σ[u.i]? = some (some (.ref u.a)) ∧ RepEr K s.B u.er u.cls u.d
theorem Su.tie.step {u : Su} {K : PySem.W.Frag} {s t : Sta} (h : u.tie K s) (e : t.σ = s.σ) (b : Ex s.B t.B) : u.tie K t := ⟨by rw [e]; exact h.1, h.2.mono b⟩
section
variable (K : PySem.W.Frag) (u : Su)
def rdSu (W : WX) (f : En → Option Out) : TS := fun D σ H => ∃ s : Sta, s.σ = σ ∧ s.H = H ∧ EnOk K s ∧ u.tie K s ∧ ∃ o, f s.en = some o ∧ EndO K W D s o
end
section
variable {X : Cx} {e a b : Expr} {es rest : List Expr} {pos : Pos} {u : Su} {f g : En → Option (D × En)} {fe : En → Option (Sl × En)} {fa : En → Option (List D × En)} {W : WX} {st : Stmt} {m : En → Option Out}
end
section
variable {X : Cx} {oe : Obj} {pn : List (Addr × Obj)} {u : Su} {NM fl c : Str} {fls : List Str} {x : Str} {p pos : Pos}
end
abbrev Hd := Str × Nat × (Er → En → Option Out)
inductive HdsU (X : Cx) (W : WX) : List ExceptHandler → List Hd → Prop
  | nil : HdsU X W [] []
  | cons {x n : Str} {c : Str} {i : Nat} {ts : Er → En → Option Out} {s0 : Stmt} {ss : List Stmt} {p1 p2 : Pos} {hd : List ExceptHandler} {l : List Hd} (nm : Names X x (.ref (He.ga X.K c))) (at_ : X.N[i]? = some n) (lo : X.env.kindOf n = some .local)
      (su : ∀ (a : Addr) (oe : Obj) (cls : Value) (d : Option Addr) (pn : List (Addr × Obj)) (er : Er), Zc cls d oe → (∃ vs, oe.data = .fields vs) → PSs (X.suite a ((a, oe) :: pn)) (s0 :: ss) (rdSu X.K ⟨i, a, cls, d, er⟩ W (ts er))) (more : HdsU X W hd l) :
      HdsU X W (.ExceptHandler (some (.Name x p1)) (some n) (s0 :: ss) p2 :: hd) ((c, i, ts) :: l)
def clOf (K : PySem.W.Frag) (W : WX) (h : Hd) : Cl := (.ref (He.ga K h.1), h.2.1, fun a cls d => fun D σ H => ∃ er, rdSu K ⟨h.2.1, a, cls, d, er⟩ W (h.2.2 er) D σ H)
theorem HdsU.ok {X : Cx} {W : WX} {hd : List ExceptHandler} {l : List Hd} (h : HdsU X W hd l) : ClsOk X hd (l.map (clOf X.K W)) := by
  induction h with
  | nil => exact .nil
  | cons nm at_ lo su more ih => exact .cons nm at_ lo (fun a oe cls d pn hz hf => ⟨fun pins s σ H D I ⟨er, q⟩ => (su a oe cls d pn er hz hf).run pins s σ H D I q⟩) ih
section
variable {X : Cx} {W : WX} {body : List Stmt} {h₀ : ExceptHandler} {hd : List ExceptHandler} {l : List Hd} {pos : Pos} {m : En → Option Out} {mt : Str → Str → Option Bool}
end
section
variable {X : Cx}
end
section
variable {P : Program} {w : World} {K : PySem.W.Frag} {mg : Str → Option Value} {base : Heap} {x qual : Str} {st : Stmt} {f : Addr} {fd : FuncData} {N ps : List Str} {k n : Nat} {b : En → Option Out}
end
section
variable {X : Cx} {CX : CXT} {pins : List (Addr × Obj)} {σ : L2.St} {H : Hp} {s : Shared} {C : Addr} {ps : List Str} {n j k : Nat} {sp : Sp} {E : XK} {W : WX}
end
end Ag
namespace Ag
open PySem PySem.Spec PyProof.Rows L2 Evl PySem.ErX
section
variable {P : Program} {w : World} {K : PySem.W.Frag} {mg : Str → Option Value} {h : Heap} {c file : Str} {d : DefV}
end
end Ag
namespace Ag
open PySem PySem.Spec PyProof.Rows L2 Evl
section
variable {prog : Program} {w : World} {κ : Type} [DecidableEq κ] {knd : KeyKind prog w κ} {A : Around} {E : Value → Shared → Prop} {s : Shared}
end
section
variable {prog : Program} {w : World} {A : Around} {E : Value → Shared → Prop} {s : Shared}
end
section
variable {prog : Program} {w : World} {A : Around} {E : Value → Shared → Prop} {s : Shared}
end
section
variable {prog : Program} {w : World} {A : Around} {E : Value → Shared → Prop} {s : Shared}
end
section
variable {prog : Program} {w : World} {A : Around} {E : Value → Shared → Prop} {s : Shared}
end
section
variable {M : Model} {A : Around} {E : Value → Shared → Prop} {s : Shared} {f : Value} {first : List Value} {pos : Pos} {Q : Value → Shared → Prop}
end
section
variable {X : Cx} {CX : CXT} {k n : Nat} {f C : Addr} {fd : FuncData} {ps ks : List Str} {sp : Sp} {E : XK} {x : Str} {p pos : Pos} {e : Expr} {kws : List Keyword} {te : TE} {g : List Value → List Value → List Value} {gV : List V → List V → List V}
end
section
variable {prog : Program} {w : World} {A : Around} {E : Value → Shared → Prop} {s : Shared}
end
section
variable {prog : Program} {w : World} {A : Around} {E : Value → Shared → Prop} {s : Shared}
end
def FnKw (P : Program) (w : World) (K : PySem.W.Frag) (mg : Str → Option Value) (base : Heap) (CX : CXT) (k : Nat) (f : Addr) (self : Str) (sp : Sp) : Prop :=
  ∀ (A : Around) (outer : List Env) (s : Shared) (H : Hp) (u : Value) (ws : List Value) (v : V) (zs : List V) (ks : List Str) (Q : VK) (E : XK), Room k A → Env0 P w K mg base A outer s H → RelV v u → Vals zs ws → zs.length = ks.length → self ∉ ks → ks.Nodup → ks.length ≤ 1000 →
    (∀ p, H p = none → sp [v, .ref p] (upd H p (.dK ((ks.map Sum.inr).zip zs))) Q E) → codeAny (model P w) A (.call (.ref f) ⟨[u], ks.zip ws⟩) (CR CX outer P w H s Q E) s
section
variable {CX : CXT} {P : Program} {w : World} {K : PySem.W.Frag} {mg : Str → Option Value} {base : Heap} {k : Nat} {f : Addr} {name qual : Str} {params : Arguments} {body : List Stmt} {scope : Scope} {kV doc pm cdv ct oc : Value} {an od : Option Addr}
  {osl : Array (Option Value)} {N : List Str} {sp : Sp} {a b : Arg}
theorem FnKw.mono {self : Str} {j : Nat} (F : FnKw P w K mg base CX k f self sp) (h : k ≤ j) : FnKw P w K mg base CX j f self sp :=
  fun A outer s H u ws v zs ks Q E hr => F A outer s H u ws v zs ks Q E (hr.mono h)
end
section
variable {X : Cx} {CX : CXT} {k j : Nat} {f C : Addr} {ks : List Str} {sp : Sp} {E : XK} {m self : Str} {o : Expr} {kws : List Keyword} {te : TE} {tk : TA} {apos pos : Pos}
end
section
variable {P : Program} {w : World} {K : PySem.W.Frag} {mg : Str → Option Value} {base : Heap} {x qual : Str} {st : Stmt} {f : Addr} {fd : FuncData} {N : List Str} {k n : Nat} {b : En → Option Out} {pa pb : Arg} {kws : List (Str × V)}
end
section
variable {X : Cx} {e : Expr} {n : Nat} {F : FnT} {f : En → Option (D × En)} {fa : En → Option (List D × En)} {E : XK} {m c : Str} {ks : List Str}
end
class Kont (α β : Type) where
  run : α → Option β
def bnd {α β : Type} (a : Option α) [k : Kont α β] : Option β := a.bind k.run
theorem bnd_some {α β : Type} (x : α) (k : Kont α β) : @bnd α β (some x) k = k.run x := rfl
theorem bnd_none {α β : Type} (k : Kont α β) : @bnd α β none k = none := rfl
theorem xKl_e (m : List Bool) (f : En → Option Out) (e : En) : xKl m f e = @bnd _ _ (f e) ⟨fun o => some (killO m o)⟩ := rfl
theorem xKb_e (m : List Bool) (f : En → Option Out) (e : En) : xKb m f e = @bnd _ _ (f e) ⟨fun o => some (killB m o)⟩ := rfl
theorem xeNo_e {α : Type} (e : En) : (xeNo e : Option (α × En)) = none := rfl
theorem mkO_e (r : Option (Sl × En)) (e : En) : mkO r e = @bnd _ _ r ⟨fun r => match r with
  | (.va .non, .pw o :: _) => some (.ow o, e)
  | _ => none⟩ := rfl
theorem xAllL_n : xAllL [] = xNil := rfl
theorem xAllL_c (f : En → Option (D × En)) (fs : List (En → Option (D × En))) : xAllL (f :: fs) = xCons f (xAllL fs) := rfl
theorem xFz_e (f : En → Option (Sl × En)) (e : En) : xFz f e = ((@bnd _ _ ((f e)) ⟨fun p => (@bnd _ _ (p.1.fz) ⟨fun d => some (d, p.2)⟩)⟩)) := rfl
theorem xUp_e (f : En → Option (D × En)) (e : En) : xUp f e = ((@bnd _ _ ((f e)) ⟨fun p => some (.va p.1, p.2)⟩)) := rfl
theorem xC_e (d : D) (e : En) : xC d e = (some (d, e)) := rfl
theorem xNil_e  (e : En) : xNil  e = (some ([], e)) := rfl
theorem xCons_e (f : En → Option (D × En)) (g : En → Option (List D × En)) (e : En) : xCons f g e = ((@bnd _ _ ((f e)) ⟨fun p => (@bnd _ _ ((g p.2)) ⟨fun q => some (p.1 :: q.1, q.2)⟩)⟩)) := rfl
theorem xPr_e (g : List D → Option Sl) (f : En → Option (List D × En)) (e : En) : xPr g f e = ((@bnd _ _ ((f e)) ⟨fun p => (@bnd _ _ ((g p.1)) ⟨fun x => some (x, p.2)⟩)⟩)) := rfl
theorem xB_e (f : En → Option (D × En)) (e : En) : xB f e = ((@bnd _ _ ((f e)) ⟨fun p => match p.1 with
  | .bl b => some (b, p.2)
  | _ => none⟩)) := rfl
theorem xAnd_e (f g : En → Option (Bool × En)) (e : En) : xAnd f g e = ((@bnd _ _ ((f e)) ⟨fun p => if p.1 = true then g p.2 else some (false, p.2)⟩)) := rfl
theorem xOr_e (f g : En → Option (Bool × En)) (e : En) : xOr f g e = ((@bnd _ _ ((f e)) ⟨fun p => if p.1 = true then some (true, p.2) else g p.2⟩)) := rfl
theorem xNot_e (f : En → Option (Bool × En)) (e : En) : xNot f e = ((@bnd _ _ ((f e)) ⟨fun p => some (!p.1, p.2)⟩)) := rfl
theorem xOfB_e (f : En → Option (Bool × En)) (e : En) : xOfB f e = ((@bnd _ _ ((f e)) ⟨fun p => some (.bl p.1, p.2)⟩)) := rfl
theorem xIfE_e (c : En → Option (Bool × En)) (f g : En → Option (Sl × En)) (e : En) : xIfE c f g e = ((@bnd _ _ ((c e)) ⟨fun p => if p.1 = true then f p.2 else g p.2⟩)) := rfl
theorem xYes_e  (e : En) : xYes  e = (some (true, e)) := rfl
theorem xSet_e (i : Nat) (f : En → Option (Sl × En)) (e : En) : xSet i f e = ((@bnd _ _ ((f e)) ⟨fun p => (@bnd _ _ ((putS p.2 i p.1)) ⟨fun e1 => some (.nx e1)⟩)⟩)) := rfl
theorem xDrop_e (f : En → Option (Sl × En)) (e : En) : xDrop f e = ((@bnd _ _ ((f e)) ⟨fun p => some (.nx p.2)⟩)) := rfl
theorem xRet_e (f : En → Option (Sl × En)) (e : En) : xRet f e = ((@bnd _ _ ((f e)) ⟨fun p => some (.rt p.1 p.2)⟩)) := rfl
theorem xRetN_e  (e : En) : xRetN  e = (some (.rt (.va .non) e)) := rfl
theorem xRetV_e (i : Nat) (e : En) : xRetV i e = (match e[i]? with
  | some (.va d) => some (.rt (.va d) e)
  | some (.ow o) => some (.rt (.ow o) (e.set i .no))
  | _ => none) := rfl
theorem xNx_e  (e : En) : xNx  e = (some (.nx e)) := rfl
theorem xBk_e  (e : En) : xBk  e = (some (.bk e)) := rfl
theorem xCt_e  (e : En) : xCt  e = (some (.ct e)) := rfl
theorem xNever_e  (e : En) : xNever  e = (none) := rfl
theorem xIf_e (c : En → Option (Bool × En)) (f g : En → Option Out) (e : En) : xIf c f g e = ((@bnd _ _ ((c e)) ⟨fun p => if p.1 = true then f p.2 else g p.2⟩)) := rfl
theorem xSeq_e (f g : En → Option Out) (e : En) : xSeq f g e = ((@bnd _ _ ((f e)) ⟨fun o => match o with
  | .nx e1 => g e1
  | o => some o⟩)) := rfl
theorem gNm_e (i : Nat) (d : D) (e : En) : gNm i d e = (putS e i (.va d)) := rfl
theorem gTp_e (n : Nat) (g : List D → En → Option En) (d : D) (e : En) : gTp n g d e = (match d with
  | .tup _ ds => if ds.length = n then g ds e else none
  | _ => none) := rfl
theorem gsNil_e  (ds : List D) (e : En) : gsNil  ds e = (match ds with
  | [] => some e
  | _ => none) := rfl
theorem gsCons_e (g : D → En → Option En) (h : List D → En → Option En) (ds : List D) (e : En) : gsCons g h ds e = (match ds with
  | d :: r => (@bnd _ _ ((g d e)) ⟨fun e1 => h r e1⟩)
  | [] => none) := rfl
theorem xAsg_e (f : En → Option (D × En)) (g : D → En → Option En) (e : En) : xAsg f g e = ((@bnd _ _ ((f e)) ⟨fun p => (@bnd _ _ ((g p.1 p.2)) ⟨fun e1 => some (.nx e1)⟩)⟩)) := rfl
theorem xPar_e (i j : Nat) (f : En → Option (List D × En)) (e : En) : xPar i j f e = ((@bnd _ _ ((f e)) ⟨fun p => match p.1 with
  | [x, y] => (@bnd _ _ ((putS p.2 i (.va x))) ⟨fun e1 => (@bnd _ _ ((putS e1 j (.va y))) ⟨fun e2 => some (.nx e2)⟩)⟩)
  | _ => none⟩)) := rfl
theorem xFor_e (f : En → Option (List D × En)) (g : D → En → Option En) (b : En → Option Out) (e : En) : xFor f g b e = ((@bnd _ _ ((f e)) ⟨fun p => loopM g b p.1 p.2⟩)) := rfl
theorem xItL_e (f : En → Option (D × En)) (e : En) : xItL f e = ((@bnd _ _ ((f e)) ⟨fun p => match p.1 with
  | .lst ds => some (ds, p.2)
  | _ => none⟩)) := rfl
theorem xItT_e (f : En → Option (D × En)) (e : En) : xItT f e = ((@bnd _ _ ((f e)) ⟨fun p => match p.1 with
  | .tup _ ds => some (ds, p.2)
  | _ => none⟩)) := rfl
theorem xItR1_e (f : En → Option (List D × En)) (e : En) : xItR1 f e = ((@bnd _ _ ((f e)) ⟨fun p => match p.1 with
  | [.int j] => if small62 j = true then some (rngD 0 j.toNat, p.2) else none
  | _ => none⟩)) := rfl
theorem xItR2_e (f : En → Option (List D × En)) (e : En) : xItR2 f e = ((@bnd _ _ ((f e)) ⟨fun p => match p.1 with
  | [.int i, .int j] => if (small62 i && small62 j) = true then some (rngD i (j - i).toNat, p.2) else none
  | _ => none⟩)) := rfl
theorem gPutD_e (c : Str) (i : Nat) (fo : Option Str) (g : En → Option D) (d : D) (e : En) : gPutD c i fo g d e = (@bnd _ _ (leafAt c e i fo) ⟨fun o => if isLst o = true then none else (@bnd _ _ (g e) ⟨fun k => (@bnd _ _ (putO o k d) ⟨fun o' => some (setLeaf e i o' fo)⟩)⟩)⟩) := rfl
theorem xItEt_e (f : En → Option (List D × En)) (e : En) : xItEt f e = ((@bnd _ _ ((f e)) ⟨fun p => match p.1 with
  | [.tup _ ds] => some (enumD ds, p.2)
  | _ => none⟩)) := rfl
theorem xItE_e (f : En → Option (List D × En)) (e : En) : xItE f e = ((@bnd _ _ ((f e)) ⟨fun p => match p.1 with
  | [.lst ds] => some (enumD ds, p.2)
  | _ => none⟩)) := rfl
theorem fnM_e (n : Nat) (b : En → Option Out) (as : En) : fnM n b as = ((@bnd _ _ ((b (as ++ List.replicate n .no))) ⟨fun o => match o with
  | .rt r e => some (r, pinned as e)
  | .nx e => some (.va .non, pinned as e)
  | _ => none⟩)) := rfl
theorem xCall_e (n : Nat) (F : FnT) (fa : En → Option (List D × En)) (e : En) : xCall n F fa e = ((@bnd _ _ ((fa e)) ⟨fun p => if p.1.length = n then (@bnd _ _ ((F (p.1.map .va))) ⟨fun r => some (r.1, p.2)⟩) else none⟩)) := rfl
theorem xMt_e (c m : Str) (n : Nat) (F : FnT) (f : En → Option (D × En)) (fa : En → Option (List D × En)) (e : En) : xMt c m n F f fa e = ((@bnd _ _ ((f e)) ⟨fun p => match p.1 with
  | .obj c' ns ds => if c' = c ∧ m ∉ ns then (@bnd _ _ ((fa p.2)) ⟨fun q => if q.1.length + 1 = n then (@bnd _ _ ((F (.va (.obj c' ns ds) :: q.1.map .va))) ⟨fun r => some (r.1, q.2)⟩) else none⟩) else none
  | _ => none⟩)) := rfl
theorem xPrp_e (c : Str) (F : FnT) (f : En → Option (D × En)) (e : En) : xPrp c F f e = ((@bnd _ _ ((f e)) ⟨fun p => match p.1 with
  | .obj c' ns ds => if c' = c then (@bnd _ _ ((F [.va (.obj c' ns ds)])) ⟨fun r => some (r.1, p.2)⟩) else none
  | _ => none⟩)) := rfl
theorem xFld_e (c f : Str) (g : En → Option (D × En)) (e : En) : xFld c f g e = ((@bnd _ _ ((g e)) ⟨fun p => match p.1 with
  | .obj c' ns ds => if c' = c then (@bnd _ _ ((fldD ns ds f)) ⟨fun d => some (d, p.2)⟩) else none
  | _ => none⟩)) := rfl
theorem xBor_e (f : En → Option (Sl × En)) (e : En) : xBor f e = ((@bnd _ _ ((f (viewE e))) ⟨fun p => if (!(e.any Sl.own) || p.1.leaf) = true then some (p.1, e) else none⟩)) := rfl
theorem xBorV_e (f : En → Option (D × En)) (e : En) : xBorV f e = ((@bnd _ _ ((f (viewE e))) ⟨fun p => if (!(e.any Sl.own) || p.1.flat) = true then some (p.1, e) else none⟩)) := rfl
theorem xBorT_e (f : En → Option (Bool × En)) (e : En) : xBorT f e = ((@bnd _ _ ((f (viewE e))) ⟨fun p => some (p.1, e)⟩)) := rfl
theorem xCallM_e (n i : Nat) (F : FnT) (fa : En → Option (List D × En)) (e : En) : xCallM n i F fa e = ((@bnd _ _ ((ownAt e i)) ⟨fun _ => (@bnd _ _ ((fa e)) ⟨fun p => if p.1.length + 1 = n then (@bnd _ _ ((ownAt p.2 i)) ⟨fun o => (@bnd _ _ ((F (.pw o :: p.1.map .va))) ⟨fun r => (match r.2 with
  | .pw o' :: _ => some (r.1, reAt p.2 i o')
  | _ => none)⟩)⟩) else none⟩)⟩)) := rfl
theorem xMtM_e (c m : Str) (n i : Nat) (F : FnT) (fa : En → Option (List D × En)) (e : En) : xMtM c m n i F fa e = (match ownAt e i with
  | some (.obj c' ns _) => if c' = c ∧ m ∉ ns then (@bnd _ _ ((fa e)) ⟨fun p => if p.1.length + 1 = n then (@bnd _ _ ((ownAt p.2 i)) ⟨fun o => (@bnd _ _ ((F (.pw o :: p.1.map .va))) ⟨fun r => (match r.2 with
    | .pw o' :: _ => some (r.1, reAt p.2 i o')
    | _ => none)⟩)⟩) else none⟩) else none
  | _ => none) := rfl
theorem xMk_e (c : Str) (n : Nat) (F : FnT) (fa : En → Option (List D × En)) (e : En) : xMk c n F fa e = ((@bnd _ _ ((fa e)) ⟨fun p => if p.1.length + 1 = n then (@bnd _ _ ((F (.pw (.obj c [] []) :: p.1.map .va))) ⟨fun r => (match r with
  | (.va .non, .pw o :: _) => some (.ow o, p.2)
  | _ => none)⟩) else none⟩)) := rfl
theorem qVar_e (i : Nat) (e : En) : qVar i e = (match e[i]? with
  | some (.va d) => some d
  | _ => none) := rfl
theorem qC_e (d : D) (e : En) : qC d e = (some d) := rfl
theorem xIxP_e (c : Str) (i : Nat) (fo : Option Str) (g : En → Option D) (e : En) : xIxP c i fo g e = ((@bnd _ _ ((leafAt c e i fo)) ⟨fun o => (@bnd _ _ ((g e)) ⟨fun k => (@bnd _ _ ((getO o k)) ⟨fun d => some (d, e)⟩)⟩)⟩)) := rfl
theorem xPutP_e (lst : Bool) (c : Str) (i : Nat) (fo : Option Str) (g : En → Option D) (f : En → Option (D × En)) (e : En) : xPutP lst c i fo g f e = ((@bnd _ _ ((f e)) ⟨fun p => (@bnd _ _ ((leafAt c p.2 i fo)) ⟨fun o => if isLst o = lst then (@bnd _ _ ((g p.2)) ⟨fun k => (@bnd _ _ ((putO o k p.1)) ⟨fun o' => some (.nx (setLeaf p.2 i o' fo))⟩)⟩) else none⟩)⟩)) := rfl
theorem xInP_e (neg : Bool) (c : Str) (i : Nat) (fo : Option Str) (f : En → Option (D × En)) (e : En) : xInP neg c i fo f e = ((@bnd _ _ ((f e)) ⟨fun p => (@bnd _ _ ((leafAt c p.2 i fo)) ⟨fun o => (@bnd _ _ ((hasO o p.1)) ⟨fun b => some (if neg then !b else b, p.2)⟩)⟩)⟩)) := rfl
theorem xApp_e (i : Nat) (f : En → Option (D × En)) (e : En) : xApp i f e = ((@bnd _ _ ((leafAt Str.empty e i none)) ⟨fun o0 => if isLst o0 = true then (@bnd _ _ ((f e)) ⟨fun p => (match leafAt Str.empty p.2 i none with
  | some (.lst ds) => if ds.length < 100000 then some (.va .non, setLeaf p.2 i (.lst (ds ++ [p.1])) none) else none
  | _ => none)⟩) else none⟩)) := rfl
theorem xExt_e (i : Nat) (f : En → Option (D × En)) (e : En) : xExt i f e = ((@bnd _ _ ((leafAt Str.empty e i none)) ⟨fun o0 => if isLst o0 = true then (@bnd _ _ ((f e)) ⟨fun p => (match leafAt Str.empty p.2 i none, p.1 with
  | some (.lst ds), .lst es => if ds.length + es.length < 100000 then some (.va .non, setLeaf p.2 i (.lst (ds ++ es)) none) else none
  | _, _ => none)⟩) else none⟩)) := rfl
theorem xFldS_e (c : Str) (i : Nat) (fn : Str) (e : En) : xFldS c i fn e = (match e[i]? with
  | some (.va (.obj c' ns ds)) => if c' = c then (@bnd _ _ ((fldD ns ds fn)) ⟨fun d => some (d, e)⟩) else none
  | some (.ow (.obj c' ns vs)) => if c' = c then (match fvAt ns vs fn with
    | some (.va d) => some (d, e)
    | _ => none) else none
  | some (.pw (.obj c' ns vs)) => if c' = c then (match fvAt ns vs fn with
    | some (.va d) => some (d, e)
    | _ => none) else none
  | _ => none) := rfl
theorem xFS_e (c : Str) (i : Nat) (fn : Str) (f : En → Option (Sl × En)) (e : En) : xFS c i fn f e = ((@bnd _ _ ((f e)) ⟨fun p => (@bnd _ _ ((toFv p.1)) ⟨fun w => (match ownAt p.2 i with
  | some (.obj c' ns vs) => if c' = c ∧ ns.length < 1000 then some (.nx (reAt p.2 i (.obj c' (nmPut ns fn) (fvPut ns vs fn w)))) else none
  | _ => none)⟩)⟩)) := rfl
theorem xLc_e (vs : List Nat) (it : En → Option (List D × En)) (g : D → En → Option En) (c : En → Option (Bool × En)) (f : En → Option (D × En)) (e : En) : xLc vs it g c f e = ((@bnd _ _ ((it e)) ⟨fun p => if (vs.all (freeS p.2) && decide (p.1.length < 100000)) = true then (@bnd _ _ ((lcM vs g c f p.1 (wipeE p.2 vs))) ⟨fun r => some (.ow (.o1 (.lst r.1)), r.2)⟩) else none⟩)) := rfl
theorem xSl_e (p : D → Option Int → Option Int → Option Sl) (f : En → Option (D × En)) (lo hi : Option (En → Option (D × En))) (e : En) : xSl p f lo hi e = ((@bnd _ _ ((f e)) ⟨fun x => (@bnd _ _ ((xO lo x.2)) ⟨fun y => (@bnd _ _ ((xO hi y.2)) ⟨fun z => (@bnd _ _ ((p x.1 y.1 z.1)) ⟨fun r => some (r, z.2)⟩)⟩)⟩)⟩)) := rfl
theorem xStar_e (f : En → Option (D × En)) (g : En → Option (List D × En)) (e : En) : xStar f g e = ((@bnd _ _ ((f e)) ⟨fun p => (@bnd _ _ ((match p.1 with
  | .tup _ ds => some ds
  | .lst ds => some ds
  | _ => none)) ⟨fun ds => (@bnd _ _ ((g p.2)) ⟨fun q => some (ds ++ q.1, q.2)⟩)⟩)⟩)) := rfl
theorem xIsi_e (cls : List Str) (sub : Str → Str → Bool) (T : Ct) (f : En → Option (D × En)) (e : En) : xIsi cls sub T f e = ((@bnd _ _ ((f e)) ⟨fun p => (@bnd _ _ ((isD cls sub p.1 T)) ⟨fun b => some (.bl b, p.2)⟩)⟩)) := rfl
theorem xIsi2_e (cls : List Str) (sub : Str → Str → Bool) (T U : Ct) (f : En → Option (D × En)) (e : En) : xIsi2 cls sub T U f e = ((@bnd _ _ ((f e)) ⟨fun p => (@bnd _ _ ((isD cls sub p.1 T)) ⟨fun b => (@bnd _ _ ((isD cls sub p.1 U)) ⟨fun c => some (.bl (b || c), p.2)⟩)⟩)⟩)) := rfl
theorem xO2_e (c : Str) (F : FnT) (f g : En → Option (D × En)) (e : En) : xO2 c F f g e = ((@bnd _ _ ((f e)) ⟨fun p => (@bnd _ _ ((g p.2)) ⟨fun q => match p.1 with
  | .obj c' ns ds => if c' = c then (@bnd _ _ ((F [.va (.obj c' ns ds), .va q.1])) ⟨fun r => some (r.1, q.2)⟩) else none
  | _ => none⟩)⟩)) := rfl
theorem xLenO_e (c : Str) (F : FnT) (f : En → Option (D × En)) (e : En) : xLenO c F f e = ((@bnd _ _ ((f e)) ⟨fun p => match p.1 with
  | .obj c' ns ds => if c' = c then (@bnd _ _ ((F [.va (.obj c' ns ds)])) ⟨fun r => (match r.1 with
    | .va (.int n) => if (decide (0 ≤ n) && decide (n < 2 ^ 60)) = true then some (.int n, p.2) else none
    | _ => none)⟩) else none
  | _ => none⟩)) := rfl
theorem xEqO_e (c : Str) (F : FnT) (neg : Bool) (f g : En → Option (D × En)) (e : En) : xEqO c F neg f g e = ((@bnd _ _ ((f e)) ⟨fun p => (@bnd _ _ ((g p.2)) ⟨fun q => match p.1, q.1 with
  | .obj c' ns ds, .obj c'' ms es => if c' = c ∧ c'' = c then (@bnd _ _ ((F [.va (.obj c' ns ds), .va (.obj c'' ms es)])) ⟨fun r => (match r.1 with
    | .va (.bl b) => some (if neg then !b else b, q.2)
    | _ => none)⟩) else none
  | _, _ => none⟩)⟩)) := rfl
theorem xDict0_e  (e : En) : xDict0  e = (some (.ow (.o1 (.dct [] [])), e)) := rfl
theorem xAndV_e (f g : En → Option (D × En)) (e : En) : xAndV f g e = ((@bnd _ _ ((xB f e)) ⟨fun p => if p.1 = true then g p.2 else some (.bl false, p.2)⟩)) := rfl
theorem xOrV_e (f g : En → Option (D × En)) (e : En) : xOrV f g e = ((@bnd _ _ ((xB f e)) ⟨fun p => if p.1 = true then some (.bl true, p.2) else g p.2⟩)) := rfl
theorem xMtT_e (c m : Str) (n : Nat) (F : FnT) (f : En → Option (Sl × En)) (fa : En → Option (List D × En)) (e : En) : xMtT c m n F f fa e = ((@bnd _ _ ((f e)) ⟨fun p => match p.1 with
  | .ow (.obj c' ns vs) => if c' = c ∧ m ∉ ns then (@bnd _ _ ((fa p.2)) ⟨fun q => if q.1.length + 1 = n then (@bnd _ _ ((F (.pw (.obj c' ns vs) :: q.1.map .va))) ⟨fun r => some (r.1, q.2)⟩) else none⟩) else none
  | _ => none⟩)) := rfl
theorem xFnT2_e (F : FnT) (f1 f2 : En → Option (D × En)) (f : En → Option (Sl × En)) (e : En) : xFnT2 F f1 f2 f e = ((@bnd _ _ ((f1 e)) ⟨fun p1 => (@bnd _ _ ((f2 p1.2)) ⟨fun p2 => (@bnd _ _ ((f p2.2)) ⟨fun p => match p.1 with
  | .ow o => (@bnd _ _ ((F [.va p1.1, .va p2.1, .pw o])) ⟨fun r => some (r.1, p.2)⟩)
  | _ => none⟩)⟩)⟩)) := rfl
theorem xDict0T_e  (e : En) : xDict0T  e = (some (.ow (.o1 (.dcT [] [])), e)) := rfl
theorem xDisp_e (ks : List Str) (fs : List (En → Option (D × En))) (e : En) : xDisp ks fs e = ((@bnd _ _ ((xAllL fs e)) ⟨fun p => if (decide (p.1.length = ks.length) && (decide (ks.length ≤ 15) && nodupS ks)) = true then some (.ow (.o1 (.dct (ks.map Sum.inr) p.1)), p.2) else none⟩)) := rfl
theorem xGet2_e (f g h : En → Option (D × En)) (e : En) : xGet2 f g h e = ((@bnd _ _ ((f e)) ⟨fun p => (@bnd _ _ ((g p.2)) ⟨fun k => (@bnd _ _ ((h k.2)) ⟨fun z => match p.1 with
  | .dct ks ds => (@bnd _ _ (k.1.key) ⟨fun kk => if dHas ks kk = true then (@bnd _ _ ((dGet ks ds kk)) ⟨fun d => some (d, z.2)⟩) else some (z.1, z.2)⟩)
  | _ => none⟩)⟩)⟩)) := rfl
theorem xMkR_e (c : Str) (F : FnT) (fa : En → Option (List D × En)) (e : En) : xMkR c F fa e = ((@bnd _ _ ((fa e)) ⟨fun p => if p.1.length ≤ 100000 then mkO (F [.pw (.obj c [] []), .va (.tup false p.1)]) p.2 else none⟩)) := rfl
theorem xMkS_e (c : Str) (F : FnT) (f : En → Option (D × En)) (e : En) : xMkS c F f e = ((@bnd _ _ ((f e)) ⟨fun p => match p.1 with
  | .lst ds => if ds.length ≤ 100000 then mkO (F [.pw (.obj c [] []), .va (.tup false ds)]) p.2 else none
  | .tup _ ds => if ds.length ≤ 100000 then mkO (F [.pw (.obj c [] []), .va (.tup false ds)]) p.2 else none
  | _ => none⟩)) := rfl
theorem xMkK_e (c : Str) (m : Nat) (F : FnT) (gD : List D → List D) (fa : En → Option (List D × En)) (e : En) : xMkK c m F gD fa e = ((@bnd _ _ ((fa e)) ⟨fun p => if p.1.length = m then mkO (F (.pw (.obj c [] []) :: (gD p.1).map .va)) p.2 else none⟩)) := rfl
theorem xDUp_e (i : Nat) (f : En → Option (D × En)) (e : En) : xDUp i f e = ((@bnd _ _ ((leafAt Str.empty e i none)) ⟨fun o0 => (@bnd _ _ ((f e)) ⟨fun p => (@bnd _ _ ((leafAt Str.empty p.2 i none)) ⟨fun o => match o0, o, p.1 with
  | .dct _ _, .dct ks ds, .dct js es => if ks.length + js.length < 100000 then some (.va .non, setLeaf p.2 i (.dct (mgK ks js) (mgD ks ds js es)) none) else none
  | _, _, _ => none⟩)⟩)⟩)) := rfl
theorem xMv_e (i : Nat) (e : En) : xMv i e = (match e[i]? with
  | some (.va d) => some (.va d, e)
  | some (.ow o) => some (.ow o, e.set i .no)
  | _ => none) := rfl
theorem xItK_e (i : Nat) (e : En) : xItK i e = (match e[i]? with
  | some (.va (.dct ks _)) => some (ks.map kyD, e)
  | _ => none) := rfl
theorem xItI_e (i : Nat) (e : En) : xItI i e = (match e[i]? with
  | some (.va (.dct ks ds)) => some ((ks.zip ds).map fun p => .tup false [kyD p.1, p.2], e)
  | _ => none) := rfl
section
variable (i j : Int)
theorem pAdd_e : pAdd [.int i, .int j] = some (.va (.int (i + j))) := rfl
theorem pSub_e : pSub [.int i, .int j] = some (.va (.int (i - j))) := rfl
theorem pLt_e : pLt [.int i, .int j] = some (.va (.bl (decide (i < j)))) := rfl
theorem pLe_e : pLe [.int i, .int j] = some (.va (.bl (decide (i ≤ j)))) := rfl
theorem pGt_e : pGt [.int i, .int j] = some (.va (.bl (decide (j < i)))) := rfl
theorem pGe_e : pGe [.int i, .int j] = some (.va (.bl (decide (j ≤ i)))) := rfl
theorem pNeg_e : pNeg [.int i] = some (.va (.int (-i))) := rfl
theorem pMul_e : pMul [.int i, .int j] = if i.natAbs.log2 + j.natAbs.log2 < 1000000 then some (.va (.int (i * j))) else none := by
  show (if cMul i j = true then _ else _) = _
  unfold cMul
  by_cases h : i.natAbs.log2 + j.natAbs.log2 < 1000000 <;> simp [h]
theorem pDiv_e : pDiv [.int i, .int j] = if 0 < j ∧ j.natAbs.log2 < 9000 then some (.va (.int (i / j))) else none := by
  show (if cDiv i j = true then _ else _) = _
  unfold cDiv
  by_cases h : 0 < j <;> by_cases h2 : j.natAbs.log2 < 9000 <;> simp [h, h2]
theorem pMod_e : pMod [.int i, .int j] = if 0 < j then some (.va (.int (i % j))) else none := by
  show (if cPos i j = true then _ else _) = _
  unfold cPos
  by_cases h : 0 < j <;> simp [h]
theorem pPow_e : pPow [.int i, .int j] = if 0 ≤ j ∧ j ≤ 1000000 ∧ i.natAbs < 2 ^ 64 then some (.va (.int (i ^ j.toNat))) else none := by
  show (if cPow i j = true then _ else _) = _
  unfold cPow
  by_cases h : 0 ≤ j <;> by_cases h2 : j ≤ 1000000 <;> by_cases h3 : i.natAbs < 2 ^ 64 <;> simp [h, h2, h3]
theorem pAbs_e : pAbs [.int i] = some (.va (.int (if i < 0 then -i else i))) := rfl
theorem pInt_e : pInt [.int i] = some (.va (.int i)) := rfl
theorem pMax2_e : pMax2 [.int i, .int j] = some (.va (.int (if j > i then j else i))) := rfl
theorem pMin2_e : pMin2 [.int i, .int j] = some (.va (.int (if j < i then j else i))) := rfl
end
theorem pLenL_e (ds : List D) : pLen [.lst ds] = some (.va (.int ds.length)) := rfl
theorem pLenS_e (ds : List Int) : pLen [.scr ds] = some (.va (.int ds.length)) := rfl
theorem pLenT_e (k : Bool) (ds : List D) : pLen [.tup k ds] = some (.va (.int ds.length)) := rfl
theorem pIxL_e (ds : List D) (i : Int) : pIxL [.lst ds, .int i] = (@bnd _ _ ((atI ds i)) ⟨fun d => some (.va d)⟩) := rfl
theorem pIxS_e (ds : List Int) (i : Int) : pIxL [.scr ds, .int i] = (@bnd _ _ ((atI ds i)) ⟨fun d => some (.va (.int d))⟩) := rfl
theorem pIxT_e (k : Bool) (ds : List D) (i : Int) : pIxT [.tup k ds, .int i] = (@bnd _ _ ((atI ds i)) ⟨fun d => some (.va d)⟩) := rfl
theorem atI_nat {α : Type} (xs : List α) (n : Nat) : atI xs (n : Int) = xs[n]? := by
  unfold atI ixN
  rw [if_pos (by omega)]
  by_cases h : n < xs.length
  · rw [if_pos (by omega)]; simp
  · rw [if_neg (by omega)]
    simp only [Option.bind_none]
    exact (List.getElem?_eq_none (by omega)).symm
theorem atI_lit {α : Type} (xs : List α) (n : Nat) : atI xs (no_index (OfNat.ofNat n) : Int) = xs[n]? := atI_nat xs n
theorem ixN_nat (n k : Nat) : ixN n (k : Int) = if k < n then some k else none := by
  unfold ixN
  rw [if_pos (by omega)]
  by_cases h : k < n
  · rw [if_pos (by omega), if_pos h]; simp
  · rw [if_neg (by omega), if_neg h]
theorem ixN_lit (n k : Nat) : ixN n (no_index (OfNat.ofNat k) : Int) = if k < n then some k else none := ixN_nat n k
def Sl.np : Sl → Bool
  | .pw _ => false
  | _ => true
theorem np_no : Sl.np .no = true := rfl
theorem np_va (d : D) : Sl.np (.va d) = true := rfl
theorem np_ow (o : O2) : Sl.np (.ow o) = true := rfl
theorem np_pw (o : O2) : Sl.np (.pw o) = false := rfl
theorem np_view (x : Sl) : x.view.np = true := by cases x <;> rfl
theorem fz_va (d : D) : Sl.fz (.va d) = some d := rfl
theorem fz_ow (o : O2) : Sl.fz (.ow o) = some o.fz := rfl
theorem fz_no : Sl.fz .no = none := rfl
theorem fz_pw (o : O2) : Sl.fz (.pw o) = none := rfl
theorem view_va (d : D) : Sl.view (.va d) = .va d := rfl
theorem view_ow (o : O2) : Sl.view (.ow o) = .va o.fz := rfl
theorem view_no : Sl.view .no = .no := rfl
theorem view_pw (o : O2) : Sl.view (.pw o) = .va o.fz := rfl
theorem own_va (d : D) : Sl.own (.va d) = false := rfl
theorem own_ow (o : O2) : Sl.own (.ow o) = true := rfl
theorem own_no : Sl.own .no = false := rfl
theorem own_pw (o : O2) : Sl.own (.pw o) = true := rfl
theorem ofz_1 (o : O1) : O2.fz (.o1 o) = o.fz := rfl
theorem ofz_2 (c : Str) (fs : List Str) (vs : List Fv) : O2.fz (.obj c fs vs) = .obj c fs (vs.map Fv.fz) := rfl
theorem o1_l (ds : List D) : O1.fz (.lst ds) = .lst ds := rfl
theorem o1_d (ks : List Key) (ds : List D) : O1.fz (.dct ks ds) = .dct ks ds := rfl
theorem o1_t (ks : List (List Key)) (ds : List D) : O1.fz (.dcT ks ds) = .dcT ks ds := rfl
theorem fvz_v (d : D) : Fv.fz (.va d) = d := rfl
theorem fvz_o (o : O1) : Fv.fz (.ow o) = o.fz := rfl
theorem isN_n : D.isN .non = true := rfl
theorem isN_i (i : Int) : D.isN (.int i) = false := rfl
theorem isN_t (k : Bool) (ds : List D) : D.isN (.tup k ds) = false := rfl
theorem isN_s (x : Str) : D.isN (.str x) = false := rfl
theorem isN_b (x : Bool) : D.isN (.bl x) = false := rfl
theorem isN_l (ds : List D) : D.isN (.lst ds) = false := rfl
theorem fl_n : D.fl .non = true := rfl
theorem fl_i (i : Int) : D.fl (.int i) = true := rfl
theorem fl_s (x : Str) : D.fl (.str x) = true := rfl
theorem fl_b (x : Bool) : D.fl (.bl x) = true := rfl
theorem set_same {e : En} {i : Nat} {x : Sl} (h : e[i]? = some x) : e.set i x = e := by
  apply List.ext_getElem?
  intro j
  rw [List.getElem?_set]
  by_cases hj : i = j
  · subst hj
    have := (List.getElem?_eq_some_iff.mp h).1
    rw [if_pos rfl, if_pos this, h]
  · rw [if_neg hj]
theorem xVar_f (i : Nat) (e : En) : xVar i e = (@bnd _ _ ((e[i]?)) ⟨fun x => if x.np = true then (@bnd _ _ (x.fz) ⟨fun d => some (.va d, e.set i (.va d))⟩) else none⟩) := by
  unfold xVar
  cases h : e[i]? with
  | none => rfl
  | some x =>
    cases x with
    | va d => show _ = some (Sl.va d, e.set i (.va d)); rw [set_same h]
    | _ => rfl
def chB : Sl → Option Bool
  | .va (.bl b) => some b
  | _ => none
theorem chB_b (b : Bool) : chB (.va (.bl b)) = some b := rfl
theorem xChain_f0 (p p' : List D → Option Sl) (f g h : En → Option (D × En)) (e : En) : xChain p p' f g h e = (f e).bind fun x => (g x.2).bind fun y => (p [x.1, y.1]).bind fun r => (chB r).bind fun b => if b = true then (h y.2).bind fun z => (p' [y.1, z.1]).bind fun r => (chB r).bind fun b => some (b, z.2) else some (false, y.2) := by
  unfold xChain
  cases f e with
  | none => rfl
  | some x =>
    simp only [Option.bind_some]
    cases g x.2 with
    | none => rfl
    | some y =>
      simp only [Option.bind_some]
      cases p [x.1, y.1] with
      | none => rfl
      | some r =>
        cases r with
        | va d =>
          cases d with
          | bl b =>
            cases b with
            | true =>
              simp only [Option.bind_some, chB, if_true]
              cases h y.2 with
              | none => rfl
              | some z =>
                simp only [Option.bind_some]
                cases p' [y.1, z.1] with
                | none => rfl
                | some r =>
                  cases r with
                  | va d => cases d <;> rfl
                  | _ => rfl
            | false => simp only [Option.bind_some, chB, Bool.false_eq_true, if_false]
          | _ => rfl
        | _ => rfl
theorem xChain_f (p p' : List D → Option Sl) (f g h : En → Option (D × En)) (e : En) : xChain p p' f g h e = (@bnd _ _ ((f e)) ⟨fun x => (@bnd _ _ ((g x.2)) ⟨fun y => (@bnd _ _ ((p [x.1, y.1])) ⟨fun r => (@bnd _ _ ((chB r)) ⟨fun b => if b = true then (@bnd _ _ ((h y.2)) ⟨fun z => (@bnd _ _ ((p' [y.1, z.1])) ⟨fun r => (@bnd _ _ ((chB r)) ⟨fun b => some (b, z.2)⟩)⟩)⟩) else some (false, y.2)⟩)⟩)⟩)⟩) := xChain_f0 p p' f g h e
def putR (e : En) (i : Nat) : Sl → Option En
  | .va d => some (e.set i (.va d))
  | .ow o => some (e.set i (.ow o))
  | _ => none
theorem putS_e (e : En) (i : Nat) (r : Sl) : putS e i r = (@bnd _ _ ((e[i]?)) ⟨fun x => if x.np = true then putR e i r else none⟩) := by
  unfold putS
  cases h : e[i]? with
  | none => rfl
  | some x => cases x <;> cases r <;> rfl
theorem freeS_e (e : En) (i : Nat) : freeS e i = ((e[i]?).map Sl.np).getD false := by
  unfold freeS
  cases h : e[i]? with
  | none => rfl
  | some x => cases x <;> rfl
theorem pEq_i (i j : Int) : pEq [.int i, .int j] = some (.va (.bl (i == j))) := rfl
theorem pNe_i (i j : Int) : pNe [.int i, .int j] = some (.va (.bl (!(i == j)))) := rfl
theorem pEq_e (x y : D) (h : (x.pl 40 && y.pl 40) = true) : pEq [x, y] = some (.va (.bl (x.eqv y))) := if_pos h
theorem pNe_e (x y : D) (h : (x.pl 40 && y.pl 40) = true) : pNe [x, y] = some (.va (.bl (!x.eqv y))) := if_pos h
theorem pInT_e (x : D) (k : Bool) (ys : List D) : pInT [x, .tup k ys] = if (x.fl && ys.all D.fl) = true then some (.va (.bl (ys.any fun y => y.eqv x))) else none := rfl
theorem pNinT_e (x : D) (k : Bool) (ys : List D) : pNinT [x, .tup k ys] = if (x.fl && ys.all D.fl) = true then some (.va (.bl (!ys.any fun y => y.eqv x))) else none := rfl
theorem pIsN_e (x : D) : pIsN [x, .non] = some (.va (.bl x.isN)) := rfl
theorem pNotN_e (x : D) : pNotN [x, .non] = some (.va (.bl (!x.isN))) := rfl
theorem pIsB_e (a b : Bool) : pIsB [.bl a, .bl b] = some (.va (.bl (decide (a = b)))) := rfl
theorem pNotB_e (a b : Bool) : pNotB [.bl a, .bl b] = some (.va (.bl (!decide (a = b)))) := rfl
theorem pLst_e (ds : List D) (h : ds.length ≤ 100000) : pLst ds = some (.ow (.o1 (.lst ds))) := if_pos h
theorem pTup_e (ds : List D) (h : ds.length ≤ 100000) : pTup ds = some (.va (.tup false ds)) := if_pos h
local macro_rules | `(tactic| push_cast [$ls,*]) => `(tactic| simp -implicitDefEqProofs only [xFz_e, xUp_e, xVar_f, xC_e, xNil_e, xCons_e, xPr_e, xB_e, xAnd_e, xOr_e, xNot_e, xOfB_e, xIfE_e, xYes_e, xChain_f, chB_b, xSet_e, xDrop_e, xRet_e, xRetN_e, xRetV_e, xNx_e, xBk_e, xCt_e, xNever_e, xIf_e, xSeq_e, gNm_e, gTp_e, gsNil_e, gsCons_e, xAsg_e, xPar_e, xFor_e, xItL_e, xItT_e, xItR1_e, xItR2_e, xItE_e, xItEt_e, gPutD_e, fnM_e, xCall_e, xMt_e, xPrp_e, xFld_e, xBor_e, xBorV_e, xBorT_e, xCallM_e, xMtM_e, xMk_e, qVar_e, qC_e, xIxP_e, xPutP_e, xInP_e, xApp_e, xExt_e, xFldS_e, xFS_e, xLc_e, xSl_e, xStar_e, xIsi_e, xIsi2_e, xO2_e, xLenO_e, xEqO_e, xDict0_e, xAndV_e, xOrV_e, bnd_some, bnd_none, xeNo_e, mkO_e, xAllL_n, xAllL_c, xMtT_e, xFnT2_e, xDict0T_e, xDisp_e, xGet2_e, xMkR_e, xMkS_e, xMkK_e, xDUp_e, xMv_e, xItK_e, xItI_e, xKl_e, xKb_e, xFr_e, killO_nx, killO_rt, killO_bk, killO_ct, killB_nx, killB_rt, killB_bk, killB_ct, klM_n, klM_t, klM_f, kill_pw, kill_ow, kill_va, kill_no, frE_z, frE_s, frz_pw, frz_ow, frz_va, frz_no, Option.bind_some, Option.bind_none, List.getElem?_cons_zero, List.getElem?_cons_succ, List.getElem?_nil, List.set_cons_zero, List.set_cons_succ, List.map_cons, List.map_nil, List.length_cons, List.length_nil, List.cons_append, List.nil_append, List.replicate_succ, List.replicate_zero, viewE, view_va, view_ow, view_no, view_pw, fz_va, fz_ow, fz_no, fz_pw, own_va, own_ow, own_no, own_pw, ofz_1, ofz_2, o1_l, o1_d, o1_t, fvz_v, fvz_o, putS_e, putR, np_no, np_va, np_ow, np_pw, np_view, freeS_e, Option.map_some, Option.map_none, Option.getD_some, Option.getD_none, pEq_i, pNe_i, pInT_e, pNinT_e, pIsN_e, pNotN_e, pIsB_e, pNotB_e, fl_n, fl_i, fl_s, fl_b, isN_n, isN_i, isN_t, isN_s, isN_b, isN_l, ownAt, reAt, pinned, leafAt, setLeaf, getO, putO, isLst, List.any_cons, List.any_nil, Bool.or_true, Bool.true_or, Bool.or_false, Bool.false_or, Bool.not_true, Bool.not_false, Bool.and_true, Bool.true_and, Bool.and_false, Bool.false_and, D.flat, D.flatL, D.leaf, Sl.leaf, O1.leaf, O2.leaf, Fv.leaf, wipeE, List.all_cons, List.all_nil, if_true, if_false, ite_true, ite_false, reduceIte, Bool.false_eq_true, decide_true, decide_false, reduceCtorEq, and_self, true_and, and_true, and_false, false_and, ixN_lit, ixN_nat, atI_nat, pLst_e, pTup_e, Nat.reduceAdd, Nat.reduceLT, Nat.reduceLeDiff, Nat.lt_add_left_iff_pos, Nat.zero_lt_succ, pPow_e, Int.reducePow, Int.reduceToNat, Int.reduceLT, not_true_eq_false, not_false_eq_true, pAdd_e, pSub_e, pLt_e, pLe_e, pGt_e, pGe_e, pNeg_e, pMul_e, pDiv_e, pMod_e, pAbs_e, pInt_e, pMax2_e, pMin2_e, pLenL_e, pLenS_e, pLenT_e, pIxL_e, pIxS_e, pIxT_e, atI_lit, ge_iff_le, gt_iff_lt, $ls,*])
section
variable {g : D → En → Option En} {b : En → Option Out}
theorem loop_nx (P : Nat → En → Prop) : ∀ {ds : List D} {e : En} (i0 : Nat), P i0 e → (∀ i d e, ds[i]? = some d → P (i0 + i) e → ∃ e1 o, g d e = some e1 ∧ b e1 = some o ∧ ((∃ e2, o = .nx e2 ∧ P (i0 + i + 1) e2) ∨ ∃ e2, o = .ct e2 ∧ P (i0 + i + 1) e2)) →
    ∃ e', loopM g b ds e = some (.nx e') ∧ P (i0 + ds.length) e'
  | [], e, i0, h, _ => ⟨e, rfl, h⟩
  | d :: ds, e, i0, h, st => by
    obtain ⟨e1, o, h1, h2, h3⟩ := st 0 d e rfl h
    have rest : ∀ e2, P (i0 + 1) e2 → ∃ e', loopM g b ds e2 = some (.nx e') ∧ P (i0 + (d :: ds).length) e' := fun e2 hp => by
      obtain ⟨e', k1, k2⟩ := loop_nx P (ds := ds) (e := e2) (i0 + 1) hp fun i d e hd hp => by
        have := st (i + 1) d e (by simpa using hd) (by rw [show i0 + (i + 1) = i0 + 1 + i by omega]; exact hp)
        rw [show i0 + (i + 1) + 1 = i0 + 1 + i + 1 by omega] at this
        exact this
      exact ⟨e', k1, by rw [List.length_cons, show i0 + (ds.length + 1) = i0 + 1 + ds.length by omega]; exact k2⟩
    rcases h3 with ⟨e2, rfl, hp⟩ | ⟨e2, rfl, hp⟩
    · obtain ⟨e', k1, k2⟩ := rest e2 hp
      exact ⟨e', by unfold loopM; rw [h1]; simp only [Option.bind_some]; rw [h2]; simp only [Option.bind_some]; exact k1, k2⟩
    · obtain ⟨e', k1, k2⟩ := rest e2 hp
      exact ⟨e', by unfold loopM; rw [h1]; simp only [Option.bind_some]; rw [h2]; simp only [Option.bind_some]; exact k1, k2⟩
theorem loop_rt (P : Nat → En → Prop) (R : Sl → En → Prop) : ∀ {ds : List D} {e : En} (i0 : Nat), P i0 e → (∀ i d e, ds[i]? = some d → P (i0 + i) e → ∃ e1 o, g d e = some e1 ∧ b e1 = some o ∧ ((∃ e2, o = .nx e2 ∧ P (i0 + i + 1) e2) ∨ (∃ e2, o = .ct e2 ∧ P (i0 + i + 1) e2) ∨ ∃ r e2, o = .rt r e2 ∧ R r e2)) →
    (∃ e', loopM g b ds e = some (.nx e') ∧ P (i0 + ds.length) e') ∨ ∃ r e', loopM g b ds e = some (.rt r e') ∧ R r e'
  | [], e, i0, h, _ => .inl ⟨e, rfl, h⟩
  | d :: ds, e, i0, h, st => by
    obtain ⟨e1, o, h1, h2, h3⟩ := st 0 d e rfl h
    have rest : ∀ e2, P (i0 + 1) e2 → (∃ e', loopM g b ds e2 = some (.nx e') ∧ P (i0 + (d :: ds).length) e') ∨ ∃ r e', loopM g b ds e2 = some (.rt r e') ∧ R r e' := fun e2 hp => by
      rcases loop_rt P R (ds := ds) (e := e2) (i0 + 1) hp fun i d e hd hp => by
        have := st (i + 1) d e (by simpa using hd) (by rw [show i0 + (i + 1) = i0 + 1 + i by omega]; exact hp)
        rw [show i0 + (i + 1) + 1 = i0 + 1 + i + 1 by omega] at this
        exact this with ⟨e', k1, k2⟩ | z
      · exact .inl ⟨e', k1, by rw [List.length_cons, show i0 + (ds.length + 1) = i0 + 1 + ds.length by omega]; exact k2⟩
      · exact .inr z
    have one : ∀ e2, (o = .nx e2 ∨ o = .ct e2) → loopM g b (d :: ds) e = loopM g b ds e2 := fun e2 z => by
      rcases z with rfl | rfl
      · conv => lhs; unfold loopM
        rw [h1]; simp only [Option.bind_some]; rw [h2]; simp only [Option.bind_some]
      · conv => lhs; unfold loopM
        rw [h1]; simp only [Option.bind_some]; rw [h2]; simp only [Option.bind_some]
    rcases h3 with ⟨e2, ho, hp⟩ | ⟨e2, ho, hp⟩ | ⟨r, e2, ho, hr⟩
    · rw [one e2 (.inl ho)]; exact rest e2 hp
    · rw [one e2 (.inr ho)]; exact rest e2 hp
    · refine .inr ⟨r, e2, ?_, hr⟩
      subst ho
      unfold loopM
      rw [h1]; simp only [Option.bind_some]; rw [h2]; simp only [Option.bind_some]
end
section
variable {vs : List Nat} {g : D → En → Option En} {c : En → Option (Bool × En)} {f : En → Option (D × En)}
theorem lc_map (p : D → Bool) (h : D → D) (e : En) : ∀ {ds : List D}, (∀ d ∈ ds, ∃ e1 e2, g d e = some e1 ∧ c e1 = some (p d, e2) ∧ (p d = true → ∃ e3, f e2 = some (h d, e3) ∧ vs.all (freeS e3) = true ∧ wipeE e3 vs = e) ∧ (p d = false → vs.all (freeS e2) = true ∧ wipeE e2 vs = e)) →
    lcM vs g c f ds e = some ((ds.filter p).map h, e)
  | [], _ => rfl
  | d :: ds, st => by
    obtain ⟨e1, e2, h1, h2, h3, h4⟩ := st d (by simp)
    have ih := lc_map p h e (ds := ds) fun d hd => st d (by simp [hd])
    unfold lcM
    rw [h1]; simp only [Option.bind_some]; rw [h2]; simp only [Option.bind_some]
    cases hp : p d with
    | true =>
      obtain ⟨e3, k1, k2, k3⟩ := h3 hp
      simp only [hp, if_true, k1, Option.bind_some, k2, k3, ih, List.filter_cons, List.map_cons]
    | false =>
      obtain ⟨k2, k3⟩ := h4 hp
      simp only [hp, Bool.false_eq_true, if_false, k2, k3, if_true, ih, List.filter_cons]
end
end Ag
namespace Ag
open PySem L2
local macro_rules | `(tactic| push_cast [$ls,*]) => `(tactic| simp -implicitDefEqProofs only [xFz_e, xUp_e, xVar_f, xC_e, xNil_e, xCons_e, xPr_e, xB_e, xAnd_e, xOr_e, xNot_e, xOfB_e, xIfE_e, xYes_e, xChain_f, chB_b, xSet_e, xDrop_e, xRet_e, xRetN_e, xRetV_e, xNx_e, xBk_e, xCt_e, xNever_e, xIf_e, xSeq_e, gNm_e, gTp_e, gsNil_e, gsCons_e, xAsg_e, xPar_e, xFor_e, xItL_e, xItT_e, xItR1_e, xItR2_e, xItE_e, xItEt_e, gPutD_e, fnM_e, xCall_e, xMt_e, xPrp_e, xFld_e, xBor_e, xBorV_e, xBorT_e, xCallM_e, xMtM_e, xMk_e, qVar_e, qC_e, xIxP_e, xPutP_e, xInP_e, xApp_e, xExt_e, xFldS_e, xFS_e, xLc_e, xSl_e, xStar_e, xIsi_e, xIsi2_e, xO2_e, xLenO_e, xEqO_e, xDict0_e, xAndV_e, xOrV_e, bnd_some, bnd_none, xeNo_e, mkO_e, xAllL_n, xAllL_c, xMtT_e, xFnT2_e, xDict0T_e, xDisp_e, xGet2_e, xMkR_e, xMkS_e, xMkK_e, xDUp_e, xMv_e, xItK_e, xItI_e, xKl_e, xKb_e, xFr_e, killO_nx, killO_rt, killO_bk, killO_ct, killB_nx, killB_rt, killB_bk, killB_ct, klM_n, klM_t, klM_f, kill_pw, kill_ow, kill_va, kill_no, frE_z, frE_s, frz_pw, frz_ow, frz_va, frz_no, Option.bind_some, Option.bind_none, List.getElem?_cons_zero, List.getElem?_cons_succ, List.getElem?_nil, List.set_cons_zero, List.set_cons_succ, List.map_cons, List.map_nil, List.length_cons, List.length_nil, List.cons_append, List.nil_append, List.replicate_succ, List.replicate_zero, viewE, view_va, view_ow, view_no, view_pw, fz_va, fz_ow, fz_no, fz_pw, own_va, own_ow, own_no, own_pw, ofz_1, ofz_2, o1_l, o1_d, o1_t, fvz_v, fvz_o, putS_e, putR, np_no, np_va, np_ow, np_pw, np_view, freeS_e, Option.map_some, Option.map_none, Option.getD_some, Option.getD_none, pEq_i, pNe_i, pInT_e, pNinT_e, pIsN_e, pNotN_e, pIsB_e, pNotB_e, fl_n, fl_i, fl_s, fl_b, isN_n, isN_i, isN_t, isN_s, isN_b, isN_l, ownAt, reAt, pinned, leafAt, setLeaf, getO, putO, isLst, List.any_cons, List.any_nil, Bool.or_true, Bool.true_or, Bool.or_false, Bool.false_or, Bool.not_true, Bool.not_false, Bool.and_true, Bool.true_and, Bool.and_false, Bool.false_and, D.flat, D.flatL, D.leaf, Sl.leaf, O1.leaf, O2.leaf, Fv.leaf, wipeE, List.all_cons, List.all_nil, if_true, if_false, ite_true, ite_false, reduceIte, Bool.false_eq_true, decide_true, decide_false, reduceCtorEq, and_self, true_and, and_true, and_false, false_and, ixN_lit, ixN_nat, atI_nat, pLst_e, pTup_e, Nat.reduceAdd, Nat.reduceLT, Nat.reduceLeDiff, Nat.lt_add_left_iff_pos, Nat.zero_lt_succ, pPow_e, Int.reducePow, Int.reduceToNat, Int.reduceLT, not_true_eq_false, not_false_eq_true, pAdd_e, pSub_e, pLt_e, pLe_e, pGt_e, pGe_e, pNeg_e, pMul_e, pDiv_e, pMod_e, pAbs_e, pInt_e, pMax2_e, pMin2_e, pLenL_e, pLenS_e, pLenT_e, pIxL_e, pIxS_e, pIxT_e, atI_lit, ge_iff_le, gt_iff_lt, $ls,*])
def Res {α : Type} (o : Option α) (Q : α → Prop) : Prop := ∃ x, o = some x ∧ Q x
section
variable {α β : Type} {Q : α → Prop} {R : β → Prop}
theorem res_some {x : α} (h : Q x) : Res (some x) Q := ⟨x, rfl, h⟩
theorem res_bind {α β : Type} {R : β → Prop} {o : Option α} {k : Kont α β} (h : Res o fun x => Res (k.run x) R) : Res (@bnd α β o k) R := by
  obtain ⟨x, e, y, e2, r⟩ := h
  exact ⟨y, by rw [e]; exact e2, r⟩
theorem res_mono {o : Option α} {Q' : α → Prop} (h : Res o Q) (i : ∀ x, Q x → Q' x) : Res o Q' := by
  obtain ⟨x, e, r⟩ := h
  exact ⟨x, e, i x r⟩
end
theorem res_loop {g : D → En → Option En} {b : En → Option Out} {ds : List D} {e : En} {Q : Out → Prop} (P : Nat → En → Prop) (h0 : P 0 e)
    (st : ∀ i d e, ds[i]? = some d → P i e → Res ((g d e).bind b) fun o => ∃ e2, (o = .nx e2 ∨ o = .ct e2) ∧ P (i + 1) e2) (q : ∀ e, P ds.length e → Q (.nx e)) : Res (loopM g b ds e) Q := by
  obtain ⟨e', h1, h2⟩ := loop_nx (g := g) (b := b) P (ds := ds) (e := e) 0 h0 fun i d e hd hp => by
    rw [Nat.zero_add] at hp
    obtain ⟨o, ho, e2, hh, hp2⟩ := st i d e hd hp
    obtain ⟨e1, k1, k2⟩ := Option.bind_eq_some_iff.mp ho
    refine ⟨e1, o, k1, k2, ?_⟩
    rw [Nat.zero_add]
    rcases hh with rfl | rfl
    · exact .inl ⟨e2, rfl, hp2⟩
    · exact .inr ⟨e2, rfl, hp2⟩
  exact ⟨_, h1, q e' (by rw [Nat.zero_add] at h2; exact h2)⟩
theorem res_loopR {g : D → En → Option En} {b : En → Option Out} {ds : List D} {e : En} {Q : Out → Prop} (P : Nat → En → Prop) (R : Sl → En → Prop) (h0 : P 0 e)
    (st : ∀ i d e, ds[i]? = some d → P i e → Res ((g d e).bind b) fun o => (∃ e2, (o = .nx e2 ∨ o = .ct e2) ∧ P (i + 1) e2) ∨ ∃ r e2, o = .rt r e2 ∧ R r e2) (q : ∀ e, P ds.length e → Q (.nx e)) (q2 : ∀ r e, R r e → Q (.rt r e)) : Res (loopM g b ds e) Q := by
  have := loop_rt (g := g) (b := b) P R (ds := ds) (e := e) 0 h0 fun i d e hd hp => by
    rw [Nat.zero_add] at hp
    obtain ⟨o, ho, hh⟩ := st i d e hd hp
    obtain ⟨e1, k1, k2⟩ := Option.bind_eq_some_iff.mp ho
    refine ⟨e1, o, k1, k2, ?_⟩
    rw [Nat.zero_add]
    rcases hh with ⟨e2, rfl | rfl, hp2⟩ | ⟨r, e2, rfl, hr⟩
    · exact .inl ⟨e2, rfl, hp2⟩
    · exact .inr (.inl ⟨e2, rfl, hp2⟩)
    · exact .inr (.inr ⟨r, e2, rfl, hr⟩)
  rcases this with ⟨e', h1, h2⟩ | ⟨r, e', h1, h2⟩
  · exact ⟨_, h1, q e' (by rw [Nat.zero_add] at h2; exact h2)⟩
  · exact ⟨_, h1, q2 r e' h2⟩
theorem rng_at {lo : Int} {n i : Nat} {d : D} (h : (rngD lo n)[i]? = some d) : i < n ∧ d = .int (lo + i) := by
  unfold rngD at h
  rw [List.getElem?_map] at h
  obtain ⟨k, hk, rfl⟩ := Option.map_eq_some_iff.mp h
  obtain ⟨h1, h2⟩ := List.getElem?_eq_some_iff.mp hk
  simp at h1 h2
  subst h2
  exact ⟨h1, rfl⟩
theorem rng_len (lo : Int) (n : Nat) : (rngD lo n).length = n := by simp [rngD]
theorem small_of {j : Int} (h1 : -4611686018427387904 ≤ j) (h2 : j < 4611686018427387904) : small62 j = true := by
  unfold small62
  simp
  omega
theorem res_lc {vs : List Nat} {g : D → En → Option En} {c : En → Option (Bool × En)} {f : En → Option (D × En)} {ds : List D} {e : En} {Q : List D × En → Prop} (p : D → Bool) (h : D → D)
    (st : ∀ d ∈ ds, Res ((g d e).bind c) fun q => q.1 = p d ∧ ((p d = true → Res (f q.2) fun r => r.1 = h d ∧ vs.all (freeS r.2) = true ∧ wipeE r.2 vs = e) ∧ (p d = false → vs.all (freeS q.2) = true ∧ wipeE q.2 vs = e))) (q : Q ((ds.filter p).map h, e)) : Res (lcM vs g c f ds e) Q := by
  refine ⟨_, lc_map p h e (fun d hd => ?_), q⟩
  obtain ⟨⟨b, e2⟩, h1, h2, h3, h4⟩ := st d hd
  obtain ⟨e1, k1, k2⟩ := Option.bind_eq_some_iff.mp h1
  cases h2
  refine ⟨e1, e2, k1, k2, fun z => ?_, h4⟩
  obtain ⟨⟨y, e3⟩, l1, l2, l3, l4⟩ := h3 z
  cases l2
  exact ⟨e3, l1, l3, l4⟩
theorem xO_n (e : En) : xO none e = some (none, e) := rfl
theorem xO_c (i : Int) (e : En) : xO (some (xC (.int i))) e = some (some i, e) := rfl
theorem pSlT_f (ds : List D) (lo hi : Option Int) : pSlT (.tup false ds) lo hi = some (.va (.tup false (cutD ds lo hi))) := rfl
theorem cut5_2 (x y z u v : D) : cutD [x, y, z, u, v] none (some 2) = [x, y] := rfl
theorem cut5_4 (x y z u v : D) : cutD [x, y, z, u, v] none (some 4) = [x, y, z, u] := rfl
theorem pCatT_c (k j : Bool) (x : D) (xs : List D) (y : D) (ys : List D) (h : (x :: xs).length + (y :: ys).length ≤ 100000) : pCatT [.tup k (x :: xs), .tup j (y :: ys)] = some (.va (.tup false (x :: xs ++ y :: ys))) := by
  show (if (x :: xs).length + (y :: ys).length ≤ 100000 then _ else _) = _
  rw [if_pos h]
theorem pNin_e (x : D) (ys : List D) (h : (x.pl 40 && D.pls 39 ys) = true) : pNin [x, .lst ys] = some (.va (.bl (!ys.any fun y => y.eqv x))) := if_pos h
theorem pIn_e (x : D) (ys : List D) (h : (x.pl 40 && D.pls 39 ys) = true) : pIn [x, .lst ys] = some (.va (.bl (ys.any fun y => y.eqv x))) := if_pos h
theorem pNe_s {x y : Str} (hx : PyData.strOk x = true) (hy : PyData.strOk y = true) : pNe [.str x, .str y] = some (.va (.bl (!(x == y)))) := by
  rw [pNe_e _ _ (by simp [D.pl, hx, hy])]
  simp [D.eqv]
theorem pEq_s {x y : Str} (hx : PyData.strOk x = true) (hy : PyData.strOk y = true) : pEq [.str x, .str y] = some (.va (.bl (x == y))) := by
  rw [pEq_e _ _ (by simp [D.pl, hx, hy])]
  simp [D.eqv]
theorem flatL_all : ∀ {ds : List D}, D.flatL ds = true ↔ ∀ d ∈ ds, d.flat = true
  | [] => by simp [D.flatL]
  | d :: ds => by simp [D.flatL, flatL_all (ds := ds)]
theorem pls_all {n : Nat} : ∀ {ds : List D}, D.pls n ds = true ↔ ∀ d ∈ ds, d.pl n = true
  | [] => by simp [D.pls]
  | d :: ds => by simp [D.pls, pls_all (ds := ds)]
theorem res_step {α β : Type} {x : α} {o : α → Option β} {R : α → β → Prop} (h : Res (o x) (R x)) : Res (some x) fun y => Res (o y) (R y) := ⟨x, rfl, h⟩
local macro_rules | `(tactic| dsimp! [$ls,*]) => `(tactic| (push_cast [$ls,*]; repeat (with_reducible refine res_step ?_; push_cast [$ls,*])))
theorem isD_non_int (cls : List Str) (sub : Str → Str → Bool)  : isD cls sub .non (.b "int") = some false := (by decide +kernel : (if (bT0.contains "NoneType" && bT.contains "int") = true then some (isBB "NoneType" "int") else none) = some false)
theorem isD_non_bool (cls : List Str) (sub : Str → Str → Bool)  : isD cls sub .non (.b "bool") = some false := (by decide +kernel : (if (bT0.contains "NoneType" && bT.contains "bool") = true then some (isBB "NoneType" "bool") else none) = some false)
theorem isD_non_str (cls : List Str) (sub : Str → Str → Bool)  : isD cls sub .non (.b "str") = some false := (by decide +kernel : (if (bT0.contains "NoneType" && bT.contains "str") = true then some (isBB "NoneType" "str") else none) = some false)
theorem isD_non_list (cls : List Str) (sub : Str → Str → Bool)  : isD cls sub .non (.b "list") = some false := (by decide +kernel : (if (bT0.contains "NoneType" && bT.contains "list") = true then some (isBB "NoneType" "list") else none) = some false)
theorem isD_non_tuple (cls : List Str) (sub : Str → Str → Bool)  : isD cls sub .non (.b "tuple") = some false := (by decide +kernel : (if (bT0.contains "NoneType" && bT.contains "tuple") = true then some (isBB "NoneType" "tuple") else none) = some false)
theorem isD_non_dict (cls : List Str) (sub : Str → Str → Bool)  : isD cls sub .non (.b "dict") = some false := (by decide +kernel : (if (bT0.contains "NoneType" && bT.contains "dict") = true then some (isBB "NoneType" "dict") else none) = some false)
theorem isD_non_o (cls : List Str) (sub : Str → Str → Bool)  (c : Str) : isD cls sub .non (.o c) = if cls.contains c = true then some false else none := by
  show (if (bT0.contains "NoneType" && cls.contains c) = true then some false else none) = _
  rw [show bT0.contains "NoneType" = true by decide +kernel, Bool.true_and]
theorem isD_bl_int (cls : List Str) (sub : Str → Str → Bool) (x : Bool) : isD cls sub (.bl x) (.b "int") = some true := (by decide +kernel : (if (bT0.contains "bool" && bT.contains "int") = true then some (isBB "bool" "int") else none) = some true)
theorem isD_bl_bool (cls : List Str) (sub : Str → Str → Bool) (x : Bool) : isD cls sub (.bl x) (.b "bool") = some true := (by decide +kernel : (if (bT0.contains "bool" && bT.contains "bool") = true then some (isBB "bool" "bool") else none) = some true)
theorem isD_bl_str (cls : List Str) (sub : Str → Str → Bool) (x : Bool) : isD cls sub (.bl x) (.b "str") = some false := (by decide +kernel : (if (bT0.contains "bool" && bT.contains "str") = true then some (isBB "bool" "str") else none) = some false)
theorem isD_bl_list (cls : List Str) (sub : Str → Str → Bool) (x : Bool) : isD cls sub (.bl x) (.b "list") = some false := (by decide +kernel : (if (bT0.contains "bool" && bT.contains "list") = true then some (isBB "bool" "list") else none) = some false)
theorem isD_bl_tuple (cls : List Str) (sub : Str → Str → Bool) (x : Bool) : isD cls sub (.bl x) (.b "tuple") = some false := (by decide +kernel : (if (bT0.contains "bool" && bT.contains "tuple") = true then some (isBB "bool" "tuple") else none) = some false)
theorem isD_bl_dict (cls : List Str) (sub : Str → Str → Bool) (x : Bool) : isD cls sub (.bl x) (.b "dict") = some false := (by decide +kernel : (if (bT0.contains "bool" && bT.contains "dict") = true then some (isBB "bool" "dict") else none) = some false)
theorem isD_bl_o (cls : List Str) (sub : Str → Str → Bool) (x : Bool) (c : Str) : isD cls sub (.bl x) (.o c) = if cls.contains c = true then some false else none := by
  show (if (bT0.contains "bool" && cls.contains c) = true then some false else none) = _
  rw [show bT0.contains "bool" = true by decide +kernel, Bool.true_and]
theorem isD_int_int (cls : List Str) (sub : Str → Str → Bool) (x : Int) : isD cls sub (.int x) (.b "int") = some true := (by decide +kernel : (if (bT0.contains "int" && bT.contains "int") = true then some (isBB "int" "int") else none) = some true)
theorem isD_int_bool (cls : List Str) (sub : Str → Str → Bool) (x : Int) : isD cls sub (.int x) (.b "bool") = some false := (by decide +kernel : (if (bT0.contains "int" && bT.contains "bool") = true then some (isBB "int" "bool") else none) = some false)
theorem isD_int_str (cls : List Str) (sub : Str → Str → Bool) (x : Int) : isD cls sub (.int x) (.b "str") = some false := (by decide +kernel : (if (bT0.contains "int" && bT.contains "str") = true then some (isBB "int" "str") else none) = some false)
theorem isD_int_list (cls : List Str) (sub : Str → Str → Bool) (x : Int) : isD cls sub (.int x) (.b "list") = some false := (by decide +kernel : (if (bT0.contains "int" && bT.contains "list") = true then some (isBB "int" "list") else none) = some false)
theorem isD_int_tuple (cls : List Str) (sub : Str → Str → Bool) (x : Int) : isD cls sub (.int x) (.b "tuple") = some false := (by decide +kernel : (if (bT0.contains "int" && bT.contains "tuple") = true then some (isBB "int" "tuple") else none) = some false)
theorem isD_int_dict (cls : List Str) (sub : Str → Str → Bool) (x : Int) : isD cls sub (.int x) (.b "dict") = some false := (by decide +kernel : (if (bT0.contains "int" && bT.contains "dict") = true then some (isBB "int" "dict") else none) = some false)
theorem isD_int_o (cls : List Str) (sub : Str → Str → Bool) (x : Int) (c : Str) : isD cls sub (.int x) (.o c) = if cls.contains c = true then some false else none := by
  show (if (bT0.contains "int" && cls.contains c) = true then some false else none) = _
  rw [show bT0.contains "int" = true by decide +kernel, Bool.true_and]
theorem isD_str_int (cls : List Str) (sub : Str → Str → Bool) (x : Str) : isD cls sub (.str x) (.b "int") = some false := (by decide +kernel : (if (bT0.contains "str" && bT.contains "int") = true then some (isBB "str" "int") else none) = some false)
theorem isD_str_bool (cls : List Str) (sub : Str → Str → Bool) (x : Str) : isD cls sub (.str x) (.b "bool") = some false := (by decide +kernel : (if (bT0.contains "str" && bT.contains "bool") = true then some (isBB "str" "bool") else none) = some false)
theorem isD_str_str (cls : List Str) (sub : Str → Str → Bool) (x : Str) : isD cls sub (.str x) (.b "str") = some true := (by decide +kernel : (if (bT0.contains "str" && bT.contains "str") = true then some (isBB "str" "str") else none) = some true)
theorem isD_str_list (cls : List Str) (sub : Str → Str → Bool) (x : Str) : isD cls sub (.str x) (.b "list") = some false := (by decide +kernel : (if (bT0.contains "str" && bT.contains "list") = true then some (isBB "str" "list") else none) = some false)
theorem isD_str_tuple (cls : List Str) (sub : Str → Str → Bool) (x : Str) : isD cls sub (.str x) (.b "tuple") = some false := (by decide +kernel : (if (bT0.contains "str" && bT.contains "tuple") = true then some (isBB "str" "tuple") else none) = some false)
theorem isD_str_dict (cls : List Str) (sub : Str → Str → Bool) (x : Str) : isD cls sub (.str x) (.b "dict") = some false := (by decide +kernel : (if (bT0.contains "str" && bT.contains "dict") = true then some (isBB "str" "dict") else none) = some false)
theorem isD_str_o (cls : List Str) (sub : Str → Str → Bool) (x : Str) (c : Str) : isD cls sub (.str x) (.o c) = if cls.contains c = true then some false else none := by
  show (if (bT0.contains "str" && cls.contains c) = true then some false else none) = _
  rw [show bT0.contains "str" = true by decide +kernel, Bool.true_and]
theorem isD_scr_int (cls : List Str) (sub : Str → Str → Bool) (x : List Int) : isD cls sub (.scr x) (.b "int") = some false := (by decide +kernel : (if (bT0.contains "list" && bT.contains "int") = true then some (isBB "list" "int") else none) = some false)
theorem isD_scr_bool (cls : List Str) (sub : Str → Str → Bool) (x : List Int) : isD cls sub (.scr x) (.b "bool") = some false := (by decide +kernel : (if (bT0.contains "list" && bT.contains "bool") = true then some (isBB "list" "bool") else none) = some false)
theorem isD_scr_str (cls : List Str) (sub : Str → Str → Bool) (x : List Int) : isD cls sub (.scr x) (.b "str") = some false := (by decide +kernel : (if (bT0.contains "list" && bT.contains "str") = true then some (isBB "list" "str") else none) = some false)
theorem isD_scr_list (cls : List Str) (sub : Str → Str → Bool) (x : List Int) : isD cls sub (.scr x) (.b "list") = some true := (by decide +kernel : (if (bT0.contains "list" && bT.contains "list") = true then some (isBB "list" "list") else none) = some true)
theorem isD_scr_tuple (cls : List Str) (sub : Str → Str → Bool) (x : List Int) : isD cls sub (.scr x) (.b "tuple") = some false := (by decide +kernel : (if (bT0.contains "list" && bT.contains "tuple") = true then some (isBB "list" "tuple") else none) = some false)
theorem isD_scr_dict (cls : List Str) (sub : Str → Str → Bool) (x : List Int) : isD cls sub (.scr x) (.b "dict") = some false := (by decide +kernel : (if (bT0.contains "list" && bT.contains "dict") = true then some (isBB "list" "dict") else none) = some false)
theorem isD_scr_o (cls : List Str) (sub : Str → Str → Bool) (x : List Int) (c : Str) : isD cls sub (.scr x) (.o c) = if cls.contains c = true then some false else none := by
  show (if (bT0.contains "list" && cls.contains c) = true then some false else none) = _
  rw [show bT0.contains "list" = true by decide +kernel, Bool.true_and]
theorem isD_lst_int (cls : List Str) (sub : Str → Str → Bool) (x : List D) : isD cls sub (.lst x) (.b "int") = some false := (by decide +kernel : (if (bT0.contains "list" && bT.contains "int") = true then some (isBB "list" "int") else none) = some false)
theorem isD_lst_bool (cls : List Str) (sub : Str → Str → Bool) (x : List D) : isD cls sub (.lst x) (.b "bool") = some false := (by decide +kernel : (if (bT0.contains "list" && bT.contains "bool") = true then some (isBB "list" "bool") else none) = some false)
theorem isD_lst_str (cls : List Str) (sub : Str → Str → Bool) (x : List D) : isD cls sub (.lst x) (.b "str") = some false := (by decide +kernel : (if (bT0.contains "list" && bT.contains "str") = true then some (isBB "list" "str") else none) = some false)
theorem isD_lst_list (cls : List Str) (sub : Str → Str → Bool) (x : List D) : isD cls sub (.lst x) (.b "list") = some true := (by decide +kernel : (if (bT0.contains "list" && bT.contains "list") = true then some (isBB "list" "list") else none) = some true)
theorem isD_lst_tuple (cls : List Str) (sub : Str → Str → Bool) (x : List D) : isD cls sub (.lst x) (.b "tuple") = some false := (by decide +kernel : (if (bT0.contains "list" && bT.contains "tuple") = true then some (isBB "list" "tuple") else none) = some false)
theorem isD_lst_dict (cls : List Str) (sub : Str → Str → Bool) (x : List D) : isD cls sub (.lst x) (.b "dict") = some false := (by decide +kernel : (if (bT0.contains "list" && bT.contains "dict") = true then some (isBB "list" "dict") else none) = some false)
theorem isD_lst_o (cls : List Str) (sub : Str → Str → Bool) (x : List D) (c : Str) : isD cls sub (.lst x) (.o c) = if cls.contains c = true then some false else none := by
  show (if (bT0.contains "list" && cls.contains c) = true then some false else none) = _
  rw [show bT0.contains "list" = true by decide +kernel, Bool.true_and]
theorem isD_tup_int (cls : List Str) (sub : Str → Str → Bool) (k : Bool) (x : List D) : isD cls sub (.tup k x) (.b "int") = some false := (by decide +kernel : (if (bT0.contains "tuple" && bT.contains "int") = true then some (isBB "tuple" "int") else none) = some false)
theorem isD_tup_bool (cls : List Str) (sub : Str → Str → Bool) (k : Bool) (x : List D) : isD cls sub (.tup k x) (.b "bool") = some false := (by decide +kernel : (if (bT0.contains "tuple" && bT.contains "bool") = true then some (isBB "tuple" "bool") else none) = some false)
theorem isD_tup_str (cls : List Str) (sub : Str → Str → Bool) (k : Bool) (x : List D) : isD cls sub (.tup k x) (.b "str") = some false := (by decide +kernel : (if (bT0.contains "tuple" && bT.contains "str") = true then some (isBB "tuple" "str") else none) = some false)
theorem isD_tup_list (cls : List Str) (sub : Str → Str → Bool) (k : Bool) (x : List D) : isD cls sub (.tup k x) (.b "list") = some false := (by decide +kernel : (if (bT0.contains "tuple" && bT.contains "list") = true then some (isBB "tuple" "list") else none) = some false)
theorem isD_tup_tuple (cls : List Str) (sub : Str → Str → Bool) (k : Bool) (x : List D) : isD cls sub (.tup k x) (.b "tuple") = some true := (by decide +kernel : (if (bT0.contains "tuple" && bT.contains "tuple") = true then some (isBB "tuple" "tuple") else none) = some true)
theorem isD_tup_dict (cls : List Str) (sub : Str → Str → Bool) (k : Bool) (x : List D) : isD cls sub (.tup k x) (.b "dict") = some false := (by decide +kernel : (if (bT0.contains "tuple" && bT.contains "dict") = true then some (isBB "tuple" "dict") else none) = some false)
theorem isD_tup_o (cls : List Str) (sub : Str → Str → Bool) (k : Bool) (x : List D) (c : Str) : isD cls sub (.tup k x) (.o c) = if cls.contains c = true then some false else none := by
  show (if (bT0.contains "tuple" && cls.contains c) = true then some false else none) = _
  rw [show bT0.contains "tuple" = true by decide +kernel, Bool.true_and]
theorem isD_dct_int (cls : List Str) (sub : Str → Str → Bool) (k : List Key) (x : List D) : isD cls sub (.dct k x) (.b "int") = some false := (by decide +kernel : (if (bT0.contains "dict" && bT.contains "int") = true then some (isBB "dict" "int") else none) = some false)
theorem isD_dct_bool (cls : List Str) (sub : Str → Str → Bool) (k : List Key) (x : List D) : isD cls sub (.dct k x) (.b "bool") = some false := (by decide +kernel : (if (bT0.contains "dict" && bT.contains "bool") = true then some (isBB "dict" "bool") else none) = some false)
theorem isD_dct_str (cls : List Str) (sub : Str → Str → Bool) (k : List Key) (x : List D) : isD cls sub (.dct k x) (.b "str") = some false := (by decide +kernel : (if (bT0.contains "dict" && bT.contains "str") = true then some (isBB "dict" "str") else none) = some false)
theorem isD_dct_list (cls : List Str) (sub : Str → Str → Bool) (k : List Key) (x : List D) : isD cls sub (.dct k x) (.b "list") = some false := (by decide +kernel : (if (bT0.contains "dict" && bT.contains "list") = true then some (isBB "dict" "list") else none) = some false)
theorem isD_dct_tuple (cls : List Str) (sub : Str → Str → Bool) (k : List Key) (x : List D) : isD cls sub (.dct k x) (.b "tuple") = some false := (by decide +kernel : (if (bT0.contains "dict" && bT.contains "tuple") = true then some (isBB "dict" "tuple") else none) = some false)
theorem isD_dct_dict (cls : List Str) (sub : Str → Str → Bool) (k : List Key) (x : List D) : isD cls sub (.dct k x) (.b "dict") = some true := (by decide +kernel : (if (bT0.contains "dict" && bT.contains "dict") = true then some (isBB "dict" "dict") else none) = some true)
theorem isD_dct_o (cls : List Str) (sub : Str → Str → Bool) (k : List Key) (x : List D) (c : Str) : isD cls sub (.dct k x) (.o c) = if cls.contains c = true then some false else none := by
  show (if (bT0.contains "dict" && cls.contains c) = true then some false else none) = _
  rw [show bT0.contains "dict" = true by decide +kernel, Bool.true_and]
theorem isD_dcT_int (cls : List Str) (sub : Str → Str → Bool) (k : List (List Key)) (x : List D) : isD cls sub (.dcT k x) (.b "int") = some false := (by decide +kernel : (if (bT0.contains "dict" && bT.contains "int") = true then some (isBB "dict" "int") else none) = some false)
theorem isD_dcT_bool (cls : List Str) (sub : Str → Str → Bool) (k : List (List Key)) (x : List D) : isD cls sub (.dcT k x) (.b "bool") = some false := (by decide +kernel : (if (bT0.contains "dict" && bT.contains "bool") = true then some (isBB "dict" "bool") else none) = some false)
theorem isD_dcT_str (cls : List Str) (sub : Str → Str → Bool) (k : List (List Key)) (x : List D) : isD cls sub (.dcT k x) (.b "str") = some false := (by decide +kernel : (if (bT0.contains "dict" && bT.contains "str") = true then some (isBB "dict" "str") else none) = some false)
theorem isD_dcT_list (cls : List Str) (sub : Str → Str → Bool) (k : List (List Key)) (x : List D) : isD cls sub (.dcT k x) (.b "list") = some false := (by decide +kernel : (if (bT0.contains "dict" && bT.contains "list") = true then some (isBB "dict" "list") else none) = some false)
theorem isD_dcT_tuple (cls : List Str) (sub : Str → Str → Bool) (k : List (List Key)) (x : List D) : isD cls sub (.dcT k x) (.b "tuple") = some false := (by decide +kernel : (if (bT0.contains "dict" && bT.contains "tuple") = true then some (isBB "dict" "tuple") else none) = some false)
theorem isD_dcT_dict (cls : List Str) (sub : Str → Str → Bool) (k : List (List Key)) (x : List D) : isD cls sub (.dcT k x) (.b "dict") = some true := (by decide +kernel : (if (bT0.contains "dict" && bT.contains "dict") = true then some (isBB "dict" "dict") else none) = some true)
theorem isD_dcT_o (cls : List Str) (sub : Str → Str → Bool) (k : List (List Key)) (x : List D) (c : Str) : isD cls sub (.dcT k x) (.o c) = if cls.contains c = true then some false else none := by
  show (if (bT0.contains "dict" && cls.contains c) = true then some false else none) = _
  rw [show bT0.contains "dict" = true by decide +kernel, Bool.true_and]
theorem isD_obj_o (cls : List Str) (sub : Str → Str → Bool) (c : Str) (ns : List Str) (ds : List D) (c' : Str) : isD cls sub (.obj c ns ds) (.o c') = if (cls.contains c && cls.contains c') = true then some (sub c c') else none := rfl
local macro_rules | `(tactic| simp_all! [$ls,*]) => `(tactic| dsimp! [isD_non_int, isD_non_bool, isD_non_str, isD_non_list, isD_non_tuple, isD_non_dict, isD_non_o, isD_bl_int, isD_bl_bool, isD_bl_str, isD_bl_list, isD_bl_tuple, isD_bl_dict, isD_bl_o, isD_int_int, isD_int_bool, isD_int_str, isD_int_list, isD_int_tuple, isD_int_dict, isD_int_o, isD_str_int, isD_str_bool, isD_str_str, isD_str_list, isD_str_tuple, isD_str_dict, isD_str_o, isD_scr_int, isD_scr_bool, isD_scr_str, isD_scr_list, isD_scr_tuple, isD_scr_dict, isD_scr_o, isD_lst_int, isD_lst_bool, isD_lst_str, isD_lst_list, isD_lst_tuple, isD_lst_dict, isD_lst_o, isD_tup_int, isD_tup_bool, isD_tup_str, isD_tup_list, isD_tup_tuple, isD_tup_dict, isD_tup_o, isD_dct_int, isD_dct_bool, isD_dct_str, isD_dct_list, isD_dct_tuple, isD_dct_dict, isD_dct_o, isD_dcT_int, isD_dcT_bool, isD_dcT_str, isD_dcT_list, isD_dcT_tuple, isD_dcT_dict, isD_dcT_o, isD_obj_o, $ls,*])
section
variable {g : D → En → Option En} {b : En → Option Out}
end
local macro_rules | `(tactic| walk_at "rb") => `(tactic| repeat (with_reducible refine res_bind ?_))
end Ag
namespace Ag
open PySem PySem.Spec PyProof.Rows L2 Evl
local macro_rules | `(tactic| push_cast [$ls,*]) => `(tactic| simp -implicitDefEqProofs only [xFz_e, xUp_e, xVar_f, xC_e, xNil_e, xCons_e, xPr_e, xB_e, xAnd_e, xOr_e, xNot_e, xOfB_e, xIfE_e, xYes_e, xChain_f, chB_b, xSet_e, xDrop_e, xRet_e, xRetN_e, xRetV_e, xNx_e, xBk_e, xCt_e, xNever_e, xIf_e, xSeq_e, gNm_e, gTp_e, gsNil_e, gsCons_e, xAsg_e, xPar_e, xFor_e, xItL_e, xItT_e, xItR1_e, xItR2_e, xItE_e, xItEt_e, gPutD_e, fnM_e, xCall_e, xMt_e, xPrp_e, xFld_e, xBor_e, xBorV_e, xBorT_e, xCallM_e, xMtM_e, xMk_e, qVar_e, qC_e, xIxP_e, xPutP_e, xInP_e, xApp_e, xExt_e, xFldS_e, xFS_e, xLc_e, xSl_e, xStar_e, xIsi_e, xIsi2_e, xO2_e, xLenO_e, xEqO_e, xDict0_e, xAndV_e, xOrV_e, bnd_some, bnd_none, xeNo_e, mkO_e, xAllL_n, xAllL_c, xMtT_e, xFnT2_e, xDict0T_e, xDisp_e, xGet2_e, xMkR_e, xMkS_e, xMkK_e, xDUp_e, xMv_e, xItK_e, xItI_e, xKl_e, xKb_e, xFr_e, killO_nx, killO_rt, killO_bk, killO_ct, killB_nx, killB_rt, killB_bk, killB_ct, klM_n, klM_t, klM_f, kill_pw, kill_ow, kill_va, kill_no, frE_z, frE_s, frz_pw, frz_ow, frz_va, frz_no, Option.bind_some, Option.bind_none, List.getElem?_cons_zero, List.getElem?_cons_succ, List.getElem?_nil, List.set_cons_zero, List.set_cons_succ, List.map_cons, List.map_nil, List.length_cons, List.length_nil, List.cons_append, List.nil_append, List.replicate_succ, List.replicate_zero, viewE, view_va, view_ow, view_no, view_pw, fz_va, fz_ow, fz_no, fz_pw, own_va, own_ow, own_no, own_pw, ofz_1, ofz_2, o1_l, o1_d, o1_t, fvz_v, fvz_o, putS_e, putR, np_no, np_va, np_ow, np_pw, np_view, freeS_e, Option.map_some, Option.map_none, Option.getD_some, Option.getD_none, pEq_i, pNe_i, pInT_e, pNinT_e, pIsN_e, pNotN_e, pIsB_e, pNotB_e, fl_n, fl_i, fl_s, fl_b, isN_n, isN_i, isN_t, isN_s, isN_b, isN_l, ownAt, reAt, pinned, leafAt, setLeaf, getO, putO, isLst, List.any_cons, List.any_nil, Bool.or_true, Bool.true_or, Bool.or_false, Bool.false_or, Bool.not_true, Bool.not_false, Bool.and_true, Bool.true_and, Bool.and_false, Bool.false_and, D.flat, D.flatL, D.leaf, Sl.leaf, O1.leaf, O2.leaf, Fv.leaf, wipeE, List.all_cons, List.all_nil, if_true, if_false, ite_true, ite_false, reduceIte, Bool.false_eq_true, decide_true, decide_false, reduceCtorEq, and_self, true_and, and_true, and_false, false_and, ixN_lit, ixN_nat, atI_nat, pLst_e, pTup_e, Nat.reduceAdd, Nat.reduceLT, Nat.reduceLeDiff, Nat.lt_add_left_iff_pos, Nat.zero_lt_succ, pPow_e, Int.reducePow, Int.reduceToNat, Int.reduceLT, not_true_eq_false, not_false_eq_true, pAdd_e, pSub_e, pLt_e, pLe_e, pGt_e, pGe_e, pNeg_e, pMul_e, pDiv_e, pMod_e, pAbs_e, pInt_e, pMax2_e, pMin2_e, pLenL_e, pLenS_e, pLenT_e, pIxL_e, pIxS_e, pIxT_e, atI_lit, ge_iff_le, gt_iff_lt, $ls,*])
local macro_rules | `(tactic| dsimp! [$ls,*]) => `(tactic| (push_cast [$ls,*]; repeat (with_reducible refine res_step ?_; push_cast [$ls,*])))
local macro_rules | `(tactic| simp_all! [$ls,*]) => `(tactic| dsimp! [isD_non_int, isD_non_bool, isD_non_str, isD_non_list, isD_non_tuple, isD_non_dict, isD_non_o, isD_bl_int, isD_bl_bool, isD_bl_str, isD_bl_list, isD_bl_tuple, isD_bl_dict, isD_bl_o, isD_int_int, isD_int_bool, isD_int_str, isD_int_list, isD_int_tuple, isD_int_dict, isD_int_o, isD_str_int, isD_str_bool, isD_str_str, isD_str_list, isD_str_tuple, isD_str_dict, isD_str_o, isD_scr_int, isD_scr_bool, isD_scr_str, isD_scr_list, isD_scr_tuple, isD_scr_dict, isD_scr_o, isD_lst_int, isD_lst_bool, isD_lst_str, isD_lst_list, isD_lst_tuple, isD_lst_dict, isD_lst_o, isD_tup_int, isD_tup_bool, isD_tup_str, isD_tup_list, isD_tup_tuple, isD_tup_dict, isD_tup_o, isD_dct_int, isD_dct_bool, isD_dct_str, isD_dct_list, isD_dct_tuple, isD_dct_dict, isD_dct_o, isD_dcT_int, isD_dcT_bool, isD_dcT_str, isD_dcT_list, isD_dcT_tuple, isD_dcT_dict, isD_dcT_o, isD_obj_o, $ls,*])
local macro_rules | `(tactic| walk_at "rb") => `(tactic| repeat (with_reducible refine res_bind ?_))
section
variable {X : Cx} {CX : CXT} {k j : Nat} {C : Addr} {ps ks : List Str} {sp : Sp} {E : XK} {x : Str} {p pos : Pos} {e : Expr} {kws : List Keyword} {te : TE} {gV : List V → List V → List V}
end
section
variable {X : Cx}
end
section
variable {K : PySem.W.Frag} {B : Hp}
end
variable {W : WX}
section
variable {X : Cx}
end
variable {W : WX}
section
variable {X : Cx} {CX : CXT} {k j : Nat} {C : Addr} {ps : List Str} {sp : Sp} {E : XK}
end
section
variable {X : Cx} {st : Stmt} {F : FnT} {f : En → Option (D × En)} {g : En → Option D} {E : XK} {c : Str} {i : Nat}
end
def okTy (cls : List Str) (l : List String) (d : D) : Bool := match d.ty with
  | .b t => l.contains t
  | .o c => cls.contains c
def xEqA (cls : List Str) (l : List String) (c : Str) (F : FnT) (f g : En → Option (D × En)) : En → Option (Bool × En) := fun e => (f e).bind fun p => (g p.2).bind fun q => match p.1 with
  | .obj c' ns ds => if c' = c ∧ okTy cls l q.1 = true then (F [.va (.obj c' ns ds), .va q.1]).bind fun r => (match r.1 with
    | .va (.bl b) => some (b, q.2)
    | _ => none) else none
  | _ => none
section
variable {X : Cx} {e : Expr} {c : Str} {F : FnT} {f g : En → Option (D × En)} {E : XK}
theorem rd_eqA {K : PySem.W.Frag} {cls : List Str} {sub : Str → Str → Bool} {l : List String} (CF : ClF K cls sub) (hn : ∀ t ∈ l, PySem.W.notFirst K (He.ga K c) (.type t) = true) (ho : ∀ d ∈ cls, PySem.W.notFirst K (He.ga K c) (.ref (He.ga K d)) = true) :
    ∀ σ H (Q : Bool → Hp → Prop), rdT K (xEqA cls l c F f g) σ H Q → tOp (rOwnC K (He.ga K c) (spM K 2 F) E) (rdV K f) (rdV K g) σ H fun x H1 => ∃ b, x = .bl b ∧ Q b H1 := fun σ H Q ⟨s, e1, e2, ok, b0, en', hf, q⟩ => by
  obtain ⟨⟨d, en1⟩, k1, k2⟩ := Option.bind_eq_some_iff.mp hf
  obtain ⟨⟨d2, en2⟩, k3, k4⟩ := Option.bind_eq_some_iff.mp k2
  match d, k4, k1 with
  | .obj c' ns ds, k4', k1 =>
    clear k4
    have k4 := k4'
    clear k4'
    replace k4 : (if c' = c ∧ okTy cls l d2 = true then (F [.va (.obj c' ns ds), .va d2]).bind fun r => (match r.1 with
      | .va (.bl b) => some (b, en2)
      | _ => none) else none) = some (b0, en') := k4
    split at k4
    · rename_i hcc
      obtain ⟨rfl, hty⟩ := hcc
      obtain ⟨⟨r1, en3⟩, k5, k6⟩ := Option.bind_eq_some_iff.mp k4
      match r1, k6, k5 with
      | .va (.bl b), k6, k5 =>
        cases k6
        refine ⟨s, e1, e2, ok, _, en1, k1, fun v t tσ te okt st rp => ⟨t, tσ, rfl, okt, _, _, by rw [te]; exact k3, fun w u uσ ue oku st2 rp2 => ?_⟩⟩
        obtain ⟨a, dx, kvs, rfl, hb, hk, rl⟩ := id rp
        have h1 : ∀ c, d2.ty = .o c → c ∈ cls := fun c z => by
          unfold okTy at hty
          rw [z] at hty
          exact List.contains_iff_mem.mp hty
        have h2 : PySem.W.notFirst K (He.ga K c') (d2.ty.u K) = true := by
          unfold okTy at hty
          cases hz : d2.ty with
          | b t => rw [hz] at hty; exact hn t (List.contains_iff_mem.mp hty)
          | o d => rw [hz] at hty; exact ho d (List.contains_iff_mem.mp hty)
        refine ⟨a, dx, kvs, _, rfl, oku.ex _ _ (st2.bb _ _ hb), ty_rep CF oku.ex rp2 h1, h2, ?_⟩
        refine call0 (ds := [.obj c' ns ds, d2]) oku (st.trans st2) ⟨_, [w], rfl, rp.mono st2.bb, w, [], rfl, rp2, rfl⟩ rfl k5 fun v w fr wσ we okw stw sl sd => ?_
        obtain ⟨_, v', ev, rv⟩ := sl
        cases ev
        rw [rv]
        exact ⟨_, rfl, q w (wσ.trans uσ) (we.trans ue) okw stw⟩
    · cases k4
theorem xt_eqA {cls : List Str} {sub : Str → Str → Bool} {l : List String} (CF : ClF X.K cls sub) (hn : ∀ t ∈ l, PySem.W.notFirst X.K (He.ga X.K c) (.type t) = true) (ho : ∀ d ∈ cls, PySem.W.notFirst X.K (He.ga X.K c) (.ref (He.ga X.K d)) = true) (h : PT X e (tTest (tOp (rOwnC X.K (He.ga X.K c) (spM X.K 2 F) E) (rdV X.K f) (rdV X.K g)))) : PT X e (rdT X.K (xEqA cls l c F f g)) :=
  PTi h (rd_eqA (E := E) CF hn ho)
end
theorem xEqA_e (cls : List Str) (l : List String) (c : Str) (F : FnT) (f g : En → Option (D × En)) (e : En) : xEqA cls l c F f g e = (@bnd _ _ (f e) ⟨fun p => (@bnd _ _ (g p.2) ⟨fun q => match p.1 with
  | .obj c' ns ds => if c' = c ∧ okTy cls l q.1 = true then (@bnd _ _ (F [.va (.obj c' ns ds), .va q.1]) ⟨fun r => (match r.1 with
    | .va (.bl b) => some (b, q.2)
    | _ => none)⟩) else none
  | _ => none⟩)⟩) := rfl
theorem Fcts.all {fa : List FaV} {K : PySem.W.Frag} {mg : Str → Option Value} (V : Fcts fa K mg) {l : List Str} {p : PySem.W.Frag → Str → Bool} (i : Nat) (h : fa[i]? = some (.gen fun K => l.all fun d => p K d)) : ∀ d ∈ l, p K d = true := List.all_eq_true.mp (V.gen i h)
variable {W : WX}
section
variable {X : Cx} {CX : CXT} {k j : Nat} {C : Addr} {f : Str} {ps : List Str} {sp : Sp} {E : XK} {o value : Expr} {pos pos' : Pos} {ta tv : TE}
end
section
variable {X : Cx} {st : Stmt} {F : FnT} {f : En → Option (D × En)} {E : XK} {c : Str} {i : Nat}
end
section
variable {X : Cx} {tg e : Expr} {f : En → Option (Sl × En)}
end
section
variable {X : Cx} {e : Expr} {c m : Str} {n : Nat} {F : FnT} {f : En → Option (D × En)} {fa : En → Option (List D × En)} {E : XK}
end
section
variable {X : Cx} {CX : CXT} {C : Addr} {ps : List Str} {n j : Nat} {sp : Sp} {E : XK}
end
section
variable {X : Cx} {e : Expr} {c : Str} {F : FnT} {f g : En → Option (D × En)} {E : XK}
end
section
variable {K : PySem.W.Frag}
end
section
variable {X : Cx} {e : Expr} {i : Nat}
end
section
variable {X : Cx} {es : List Expr} {gs : List D → En → Option En} {pos : Pos}
end
section
variable {X : Cx} {e : Expr} {c : Str} {F : FnT} {f g : En → Option (D × En)} {E : XK}
end
section
variable {K : PySem.W.Frag}
end
section
variable {K : PySem.W.Frag} {B : Hp}
end
section
variable {X : Cx} {e : Expr} {F : FnT} {fa : En → Option (List D × En)} {E : XK} {c : Str} {j : Nat}
end
section
variable {P : Program} {w : World} {K : PySem.W.Frag} {mg : Str → Option Value} {base : Heap} {k n : Nat} {f : Addr} {N ps : List Str} {b : En → Option Out} {fd : FuncData} {x qual pv : Str} {st : Stmt}
end
section
variable {X : Cx} {CX : CXT} {k j : Nat} {sp : Sp} {E : XK} {x : Str} {e : Expr} {es : List Expr} {t : TA} {p pos : Pos}
end
end Ag
namespace Ag
open PySem L2
local macro_rules | `(tactic| push_cast [$ls,*]) => `(tactic| simp -implicitDefEqProofs only [xFz_e, xUp_e, xVar_f, xC_e, xNil_e, xCons_e, xPr_e, xB_e, xAnd_e, xOr_e, xNot_e, xOfB_e, xIfE_e, xYes_e, xChain_f, chB_b, xSet_e, xDrop_e, xRet_e, xRetN_e, xRetV_e, xNx_e, xBk_e, xCt_e, xNever_e, xIf_e, xSeq_e, gNm_e, gTp_e, gsNil_e, gsCons_e, xAsg_e, xPar_e, xFor_e, xItL_e, xItT_e, xItR1_e, xItR2_e, xItE_e, xItEt_e, gPutD_e, fnM_e, xCall_e, xMt_e, xPrp_e, xFld_e, xBor_e, xBorV_e, xBorT_e, xCallM_e, xMtM_e, xMk_e, qVar_e, qC_e, xIxP_e, xPutP_e, xInP_e, xApp_e, xExt_e, xFldS_e, xFS_e, xLc_e, xSl_e, xStar_e, xIsi_e, xIsi2_e, xO2_e, xLenO_e, xEqO_e, xDict0_e, xAndV_e, xOrV_e, bnd_some, bnd_none, xeNo_e, mkO_e, xAllL_n, xAllL_c, xMtT_e, xFnT2_e, xDict0T_e, xDisp_e, xGet2_e, xMkR_e, xMkS_e, xMkK_e, xDUp_e, xMv_e, xItK_e, xItI_e, xKl_e, xKb_e, xFr_e, killO_nx, killO_rt, killO_bk, killO_ct, killB_nx, killB_rt, killB_bk, killB_ct, klM_n, klM_t, klM_f, kill_pw, kill_ow, kill_va, kill_no, frE_z, frE_s, frz_pw, frz_ow, frz_va, frz_no, Option.bind_some, Option.bind_none, List.getElem?_cons_zero, List.getElem?_cons_succ, List.getElem?_nil, List.set_cons_zero, List.set_cons_succ, List.map_cons, List.map_nil, List.length_cons, List.length_nil, List.cons_append, List.nil_append, List.replicate_succ, List.replicate_zero, viewE, view_va, view_ow, view_no, view_pw, fz_va, fz_ow, fz_no, fz_pw, own_va, own_ow, own_no, own_pw, ofz_1, ofz_2, o1_l, o1_d, o1_t, fvz_v, fvz_o, putS_e, putR, np_no, np_va, np_ow, np_pw, np_view, freeS_e, Option.map_some, Option.map_none, Option.getD_some, Option.getD_none, pEq_i, pNe_i, pInT_e, pNinT_e, pIsN_e, pNotN_e, pIsB_e, pNotB_e, fl_n, fl_i, fl_s, fl_b, isN_n, isN_i, isN_t, isN_s, isN_b, isN_l, ownAt, reAt, pinned, leafAt, setLeaf, getO, putO, isLst, List.any_cons, List.any_nil, Bool.or_true, Bool.true_or, Bool.or_false, Bool.false_or, Bool.not_true, Bool.not_false, Bool.and_true, Bool.true_and, Bool.and_false, Bool.false_and, D.flat, D.flatL, D.leaf, Sl.leaf, O1.leaf, O2.leaf, Fv.leaf, wipeE, List.all_cons, List.all_nil, if_true, if_false, ite_true, ite_false, reduceIte, Bool.false_eq_true, decide_true, decide_false, reduceCtorEq, and_self, true_and, and_true, and_false, false_and, ixN_lit, ixN_nat, atI_nat, pLst_e, pTup_e, Nat.reduceAdd, Nat.reduceLT, Nat.reduceLeDiff, Nat.lt_add_left_iff_pos, Nat.zero_lt_succ, pPow_e, Int.reducePow, Int.reduceToNat, Int.reduceLT, not_true_eq_false, not_false_eq_true, pAdd_e, pSub_e, pLt_e, pLe_e, pGt_e, pGe_e, pNeg_e, pMul_e, pDiv_e, pMod_e, pAbs_e, pInt_e, pMax2_e, pMin2_e, pLenL_e, pLenS_e, pLenT_e, pIxL_e, pIxS_e, pIxT_e, atI_lit, ge_iff_le, gt_iff_lt, $ls,*])
local macro_rules | `(tactic| dsimp! [$ls,*]) => `(tactic| (push_cast [$ls,*]; repeat (with_reducible refine res_step ?_; push_cast [$ls,*])))
local macro_rules | `(tactic| simp_all! [$ls,*]) => `(tactic| dsimp! [isD_non_int, isD_non_bool, isD_non_str, isD_non_list, isD_non_tuple, isD_non_dict, isD_non_o, isD_bl_int, isD_bl_bool, isD_bl_str, isD_bl_list, isD_bl_tuple, isD_bl_dict, isD_bl_o, isD_int_int, isD_int_bool, isD_int_str, isD_int_list, isD_int_tuple, isD_int_dict, isD_int_o, isD_str_int, isD_str_bool, isD_str_str, isD_str_list, isD_str_tuple, isD_str_dict, isD_str_o, isD_scr_int, isD_scr_bool, isD_scr_str, isD_scr_list, isD_scr_tuple, isD_scr_dict, isD_scr_o, isD_lst_int, isD_lst_bool, isD_lst_str, isD_lst_list, isD_lst_tuple, isD_lst_dict, isD_lst_o, isD_tup_int, isD_tup_bool, isD_tup_str, isD_tup_list, isD_tup_tuple, isD_tup_dict, isD_tup_o, isD_dct_int, isD_dct_bool, isD_dct_str, isD_dct_list, isD_dct_tuple, isD_dct_dict, isD_dct_o, isD_dcT_int, isD_dcT_bool, isD_dcT_str, isD_dcT_list, isD_dcT_tuple, isD_dcT_dict, isD_dcT_o, isD_obj_o, $ls,*])
local macro_rules | `(tactic| walk_at "rb") => `(tactic| repeat (with_reducible refine res_bind ?_))
section
variable {g : D → En → Option En} {b : En → Option Out}
end
end Ag
namespace Ag
open PySem PySem.Spec PyProof.Rows L2 Evl LamX
local macro_rules | `(tactic| push_cast [$ls,*]) => `(tactic| simp -implicitDefEqProofs only [xFz_e, xUp_e, xVar_f, xC_e, xNil_e, xCons_e, xPr_e, xB_e, xAnd_e, xOr_e, xNot_e, xOfB_e, xIfE_e, xYes_e, xChain_f, chB_b, xSet_e, xDrop_e, xRet_e, xRetN_e, xRetV_e, xNx_e, xBk_e, xCt_e, xNever_e, xIf_e, xSeq_e, gNm_e, gTp_e, gsNil_e, gsCons_e, xAsg_e, xPar_e, xFor_e, xItL_e, xItT_e, xItR1_e, xItR2_e, xItE_e, xItEt_e, gPutD_e, fnM_e, xCall_e, xMt_e, xPrp_e, xFld_e, xBor_e, xBorV_e, xBorT_e, xCallM_e, xMtM_e, xMk_e, qVar_e, qC_e, xIxP_e, xPutP_e, xInP_e, xApp_e, xExt_e, xFldS_e, xFS_e, xLc_e, xSl_e, xStar_e, xIsi_e, xIsi2_e, xO2_e, xLenO_e, xEqO_e, xDict0_e, xAndV_e, xOrV_e, bnd_some, bnd_none, xeNo_e, mkO_e, xAllL_n, xAllL_c, xMtT_e, xFnT2_e, xDict0T_e, xDisp_e, xGet2_e, xMkR_e, xMkS_e, xMkK_e, xDUp_e, xMv_e, xItK_e, xItI_e, xKl_e, xKb_e, xFr_e, killO_nx, killO_rt, killO_bk, killO_ct, killB_nx, killB_rt, killB_bk, killB_ct, klM_n, klM_t, klM_f, kill_pw, kill_ow, kill_va, kill_no, frE_z, frE_s, frz_pw, frz_ow, frz_va, frz_no, Option.bind_some, Option.bind_none, List.getElem?_cons_zero, List.getElem?_cons_succ, List.getElem?_nil, List.set_cons_zero, List.set_cons_succ, List.map_cons, List.map_nil, List.length_cons, List.length_nil, List.cons_append, List.nil_append, List.replicate_succ, List.replicate_zero, viewE, view_va, view_ow, view_no, view_pw, fz_va, fz_ow, fz_no, fz_pw, own_va, own_ow, own_no, own_pw, ofz_1, ofz_2, o1_l, o1_d, o1_t, fvz_v, fvz_o, putS_e, putR, np_no, np_va, np_ow, np_pw, np_view, freeS_e, Option.map_some, Option.map_none, Option.getD_some, Option.getD_none, pEq_i, pNe_i, pInT_e, pNinT_e, pIsN_e, pNotN_e, pIsB_e, pNotB_e, fl_n, fl_i, fl_s, fl_b, isN_n, isN_i, isN_t, isN_s, isN_b, isN_l, ownAt, reAt, pinned, leafAt, setLeaf, getO, putO, isLst, List.any_cons, List.any_nil, Bool.or_true, Bool.true_or, Bool.or_false, Bool.false_or, Bool.not_true, Bool.not_false, Bool.and_true, Bool.true_and, Bool.and_false, Bool.false_and, D.flat, D.flatL, D.leaf, Sl.leaf, O1.leaf, O2.leaf, Fv.leaf, wipeE, List.all_cons, List.all_nil, if_true, if_false, ite_true, ite_false, reduceIte, Bool.false_eq_true, decide_true, decide_false, reduceCtorEq, and_self, true_and, and_true, and_false, false_and, ixN_lit, ixN_nat, atI_nat, pLst_e, pTup_e, Nat.reduceAdd, Nat.reduceLT, Nat.reduceLeDiff, Nat.lt_add_left_iff_pos, Nat.zero_lt_succ, pPow_e, Int.reducePow, Int.reduceToNat, Int.reduceLT, not_true_eq_false, not_false_eq_true, pAdd_e, pSub_e, pLt_e, pLe_e, pGt_e, pGe_e, pNeg_e, pMul_e, pDiv_e, pMod_e, pAbs_e, pInt_e, pMax2_e, pMin2_e, pLenL_e, pLenS_e, pLenT_e, pIxL_e, pIxS_e, pIxT_e, atI_lit, ge_iff_le, gt_iff_lt, $ls,*])
local macro_rules | `(tactic| dsimp! [$ls,*]) => `(tactic| (push_cast [$ls,*]; repeat (with_reducible refine res_step ?_; push_cast [$ls,*])))
local macro_rules | `(tactic| simp_all! [$ls,*]) => `(tactic| dsimp! [isD_non_int, isD_non_bool, isD_non_str, isD_non_list, isD_non_tuple, isD_non_dict, isD_non_o, isD_bl_int, isD_bl_bool, isD_bl_str, isD_bl_list, isD_bl_tuple, isD_bl_dict, isD_bl_o, isD_int_int, isD_int_bool, isD_int_str, isD_int_list, isD_int_tuple, isD_int_dict, isD_int_o, isD_str_int, isD_str_bool, isD_str_str, isD_str_list, isD_str_tuple, isD_str_dict, isD_str_o, isD_scr_int, isD_scr_bool, isD_scr_str, isD_scr_list, isD_scr_tuple, isD_scr_dict, isD_scr_o, isD_lst_int, isD_lst_bool, isD_lst_str, isD_lst_list, isD_lst_tuple, isD_lst_dict, isD_lst_o, isD_tup_int, isD_tup_bool, isD_tup_str, isD_tup_list, isD_tup_tuple, isD_tup_dict, isD_tup_o, isD_dct_int, isD_dct_bool, isD_dct_str, isD_dct_list, isD_dct_tuple, isD_dct_dict, isD_dct_o, isD_dcT_int, isD_dcT_bool, isD_dcT_str, isD_dcT_list, isD_dcT_tuple, isD_dcT_dict, isD_dcT_o, isD_obj_o, $ls,*])
local macro_rules | `(tactic| walk_at "rb") => `(tactic| repeat (with_reducible refine res_bind ?_))
section
variable {X : Cx} {pins : List (Addr × Obj)} {σ : L2.St} {H : Hp} {s : Shared}
end
section
variable {K : PySem.W.Frag}
end
section
variable {X : Cx} {x : Str} {kb kl n j : Nat} {fe : En → Option (Sl × En)} {l : List Hd} {m3 : En → Option Out} {mt : Str → Str → Option Bool} {bX : En → Option (Rs × En)} {c P : Addr} {q : Str} {params : Arguments} {body : Expr} {scope : Scope} {p lpos pos : Pos}
end
section
variable {P : Program} {w : World} {K : PySem.W.Frag} {mg mb : Str → Option Value} {CX : CXT} {k : Nat} {fa a : Addr} {fd : FuncData} {x : Str} {sp : Sp} {s₁ : Shared} {vs : List Value} {ns : List Int} {cs : List (Addr × Addr)}
def Bm (mg : Str → Option Value) (h : Heap) : Prop := ∃ (bm : Addr) (ob : Obj), mg "__builtins__" = some (.ref bm) ∧ bm ≠ builtinsNs ∧ h.get? bm = some ob ∧ ob.cls = .type "module" ∧ ob.dict = some builtinsNs ∧ ob.data = .plain
structure CsOk (K : PySem.W.Frag) (h : Heap) (cs : List (Addr × Addr)) : Prop where
  em : ∀ p ∈ cs, h.get? p.2 = some { cls := .none, data := .fields #[] }
  no : ∀ p ∈ cs, K.lookup p.2 = none
  hd : ∀ p ∈ cs, PySem.W.CodeHd h p.1 p.2
def isTb (cs : List (Addr × Addr)) (b : Addr) : Prop := ∃ p ∈ cs, p.2 = b
theorem coreGT (T : CsOk K s₁.heap cs) (KX : K.In s₁.heap) (hns : s₁.heap.Ns mainGlobals mg) (hb : s₁.heap.Ns builtinsNs mb) (hbb : ∀ x : Str, x ≠ "__name__" → mb x = bootBuiltins x) (hlim : s₁.heap.NoLimit) (hg : s₁.gens = #[]) (hbm : Bm mg s₁.heap)
    (ha : s₁.heap.get? a = some { cls := .type "list", data := .seq vs.toArray }) (hr : Room k callerA)
    (F : ∀ base : Heap, K.In base → base.Ns mainGlobals mg → (∀ p ∈ cs, TabB base mg p.1 p.2) → FnG P w K mg base CX k fa fd [x] sp) (hbind : ∀ (s : Shared) (u : Value), BindsTo s fd ⟨[u], []⟩ [(x, u)])
    (hCX : ∀ H e s', CX [] H s₁ (fun _ _ _ => False) e s' → False) {H : Hp} (hsp : sp [.ref a] H (fun v _ => v = .bl true) fun _ _ _ => False) (hok : HOk P w H s₁.heap) (hA : ∀ b, H b ≠ none → b = a ∨ isTb cs b) (hTb : ∀ p ∈ cs, H p.2 = some (.tbl #[]))
    (hFr : H a = none ∨ ∃ ob xs, H a = some (.frz ob (.lst xs))) (hK : H a ≠ none → K.lookup a = none) :
    codeAny (model P w) callerA (.call (.ref fa) ⟨[.ref a], []⟩) (fun r s' => r = .ok (.ret (.bool true)) ∧ OldK s₁.heap s'.heap ∧ s'.os = s₁.os ∧ AllBare s'.gens) s₁ := by
  have off : ∀ {b : Addr} {o : Obj}, s₁.heap.get? b = some o → (∀ vs n, o.data ≠ .seq vs n) → o.data ≠ .fields #[] → H b = none := by
    intro b o e h1 h2
    refine Classical.byContradiction fun z => ?_
    rcases hA b z with y | ⟨p, hp, y⟩
    · subst y; rw [ha] at e; cases e; exact h1 _ _ rfl
    · subst y; rw [T.em p hp] at e; cases e; exact h2 rfl
  have offD : ∀ {b : Addr} {o : Obj} {es : Array DictEntry} {ep : Nat}, s₁.heap.get? b = some o → o.data = .dict es ep → H b = none := by
    intro b o es ep e d
    exact off e (fun _ _ z => by rw [d] at z; cases z) fun z => by rw [d] at z; cases z
  have nsB : ∀ {b : Addr} {m : Str → Option Value}, s₁.heap.Ns b m → (hidT s₁.heap H).Ns b m := by
    rintro b m ⟨o, es, ep, e, d, r⟩
    exact ⟨o, es, ep, hidT_get e (offD e d), d, r⟩
  have kB : K.In (hidT s₁.heap H) := by
    intro b o e
    refine hidT_get (KX b o e) (Classical.byContradiction fun z => ?_)
    rcases hA b z with y | ⟨p, hp, y⟩
    · subst y; rw [hK z] at e; cases e
    · subst y; rw [T.no p hp] at e; cases e
  have tB : ∀ p ∈ cs, TabB (hidT s₁.heap H) mg p.1 p.2 := by
    intro p hp
    have e0 := T.em p hp
    obtain ⟨o, us, file, tf, flags, tg, inF, text, tt, e1, r1, r2, r3, r4⟩ := T.hd p hp
    obtain ⟨bm, ob, b1, b2, b3, b4, b5, b6⟩ := hbm
    obtain ⟨og, eg, epg, g1, g2, _⟩ := id hns
    refine ⟨⟨o, us, file, tf, flags, tg, inF, text, tt, hidT_get e1 (off e1 (fun _ _ z => by rw [r2] at z; cases z) fun z => ?_), r1, r2, r3, r4⟩, ⟨bm, ob, b1, b2, ?_, ?_, hidT_get b3 (off b3 (fun _ _ z => by rw [b6] at z; cases z) fun z => by rw [b6] at z; cases z), b4, b5, b6⟩, ?_⟩
    · rw [r2] at z; cases z; simp at r3
    · rintro rfl; rw [g1] at b3; cases b3; rw [g2] at b6; cases b6
    · rintro rfl; rw [e0] at b3; cases b3; cases b6
    · intro z; rw [← z, g1] at e0; cases e0; cases g2
  obtain ⟨mc, c1, c2⟩ := hlim
  have e0 : Env0 P w K mg (hidT s₁.heap H) callerA [] s₁ H := by
    refine ⟨rfl, ⟨kB, nsB hns, ⟨mb, nsB hb, hbb⟩, ⟨mc, nsB c1, c2⟩⟩, fun b o e => of_hidT e, Nat.le_of_eq (hidT_size _ _), trivial, fun b z => ?_, hok, .of_eq hg⟩
    cases (show b ∈ ([] : List Addr) from z)
  have run := (F _ kB (nsB hns) tB).go (args := ⟨[.ref a], []⟩) (us := [.ref a]) (vs := [.ref a]) rfl hr e0 (hbind s₁ (.ref a)) (.cons rfl .nil) hsp
  refine codeAny_mono run fun r s' h => ?_
  match r, h with
  | .error e, h => exact (hCX H e s' h).elim
  | .ok .next, h => exact False.elim h
  | .ok .brk, h => exact False.elim h
  | .ok .cont, h => exact False.elim h
  | .ok (.ret u), ⟨v, H', os, bare, un, hok', r', q⟩ =>
    have q' : v = .bl true := q
    subst q'
    obtain rfl : u = Value.bool true := r'
    have kept : ∀ b o, ¬ isTb cs b → s₁.heap.get? b = some o → s'.heap.get? b = some o := by
      intro b o nb e
      by_cases hz : H b = none
      · exact un.keep b o e hz (fun y => by cases (show b ∈ ([] : List Addr) from y)) (fun y => by cases y)
      · rcases hA b hz with y | y
        · subst y
          rcases hFr with z | ⟨ob, xs, z⟩
          · exact absurd z hz
          · have e1 := (hok b _ z).1
            have e2 := (hok' b _ (un.frzs b ob _ z)).1
            exact e2.trans (e1.symm.trans e)
        · exact absurd y nb
    have grown : ∀ p ∈ cs, ∃ more : Array Value, s'.heap.get? p.2 = some { cls := .none, data := .fields more } := fun p hp => by
      obtain ⟨more, z⟩ := un.tbls p.2 #[] (hTb p hp)
      exact ⟨_, hok' p.2 _ z⟩
    refine ⟨rfl, ⟨fun b o e => ?_, fun b o e => ?_⟩, os, bare⟩
    · by_cases h : isTb cs b
      · obtain ⟨p, hp, y⟩ := h
        subst y
        obtain ⟨more, hm⟩ := grown p hp
        have e1 := T.em p hp
        rw [e1] at e
        cases e
        exact .inr (.inl ⟨((T.hd p hp).tab e1).isCodeTable, rfl, #[], more, rfl, by rw [Array.empty_append]; exact hm⟩)
      · exact .inl (kept b o h e)
    · by_cases h : isTb cs b
      · obtain ⟨p, hp, y⟩ := h
        subst y
        obtain ⟨more, hm⟩ := grown p hp
        exact ⟨_, hm⟩
      · exact ⟨o, kept b o h e⟩
open Classical in
noncomputable def withT (cs : List (Addr × Addr)) (H0 : Hp) : Hp := fun b => if isTb cs b then some (.tbl #[]) else H0 b
theorem withT_in {H0 : Hp} {b : Addr} (h : isTb cs b) : withT cs H0 b = some (.tbl #[]) := by unfold withT; rw [if_pos h]
theorem withT_no {H0 : Hp} {b : Addr} (h : ¬ isTb cs b) : withT cs H0 b = H0 b := by unfold withT; rw [if_neg h]
theorem law_callGT (T : CsOk K s₁.heap cs) (KX : K.In s₁.heap) (hns : s₁.heap.Ns mainGlobals mg) (hb : s₁.heap.Ns builtinsNs mb) (hbb : ∀ x : Str, x ≠ "__name__" → mb x = bootBuiltins x) (hlim : s₁.heap.NoLimit) (hg : s₁.gens = #[]) (hbm : Bm mg s₁.heap)
    (ha : s₁.heap.get? a = some { cls := .type "list", data := .seq vs.toArray }) (hi : IntsAre vs ns) (hl : ns.length ≤ sizeLine) (hr : Room k callerA)
    (F : ∀ base : Heap, K.In base → base.Ns mainGlobals mg → (∀ p ∈ cs, TabB base mg p.1 p.2) → FnG P w K mg base CX k fa fd [x] sp) (hbind : ∀ (s : Shared) (u : Value), BindsTo s fd ⟨[u], []⟩ [(x, u)])
    (hsp : ∀ H : Hp, (∀ p ∈ cs, H p.2 = some (.tbl #[])) → SqL K H a (ns.map V.int) → sp [.ref a] H (fun v _ => v = .bl true) fun _ _ _ => False) (hCX : ∀ H e s', CX [] H s₁ (fun _ _ _ => False) e s' → False) :
    codeAny (model P w) callerA (.call (.ref fa) ⟨[.ref a], []⟩) (fun r s' => r = .ok (.ret (.bool true)) ∧ OldK s₁.heap s'.heap ∧ s'.os = s₁.os ∧ AllBare s'.gens) s₁ := by
  have rv := vals_ints hi
  have hz : (ns.map V.int).length ≤ sizeLine := by rw [List.length_map]; exact hl
  have na : ¬ isTb cs a := by
    rintro ⟨p, hp, rfl⟩
    rw [T.em p hp] at ha
    cases ha
  have inT : ∀ {p : Addr × Addr}, p ∈ cs → isTb cs p.2 := fun {p} hp => ⟨p, hp, rfl⟩
  cases hk : K.lookup a with
  | some o =>
    have e : o = { cls := .type "list", data := .seq vs.toArray } := Option.some.inj ((KX a o hk).symm.trans ha)
    subst e
    have hS : SqL K (withT cs fun _ => none) a (ns.map V.int) := .inr ⟨_, vs.toArray, _, hk, rfl, rfl, rfl, by rw [List.size_toArray, hi.length]; exact hl, by simpa using rv⟩
    have hTb : ∀ p ∈ cs, withT cs (fun _ => none) p.2 = some (.tbl #[]) := fun p hp => withT_in (inT hp)
    refine coreGT T KX hns hb hbb hlim hg hbm ha hr F hbind hCX (hsp _ hTb hS) (fun b u z => ?_) (fun b z => .inr (Classical.byContradiction fun y => z (withT_no y))) hTb (.inl (withT_no na)) fun z => absurd (withT_no na) z
    by_cases h : isTb cs b
    · rw [withT_in h] at z
      cases z
      obtain ⟨p, hp, rfl⟩ := h
      exact T.em p hp
    · rw [withT_no h] at z; cases z
  | none =>
    have at_ : withT cs (upd (fun _ => none) a (.frz { cls := .type "list", data := .seq vs.toArray } (.lst (ns.map V.int)))) a = some (.frz { cls := .type "list", data := .seq vs.toArray } (.lst (ns.map V.int))) := by rw [withT_no na, upd_same]
    have hTb : ∀ p ∈ cs, withT cs (upd (fun _ => none) a (.frz { cls := .type "list", data := .seq vs.toArray } (.lst (ns.map V.int)))) p.2 = some (.tbl #[]) := fun p hp => withT_in (inT hp)
    refine coreGT T KX hns hb hbb hlim hg hbm ha hr F hbind hCX (hsp _ hTb (.inl (.inr ⟨_, at_⟩))) (fun b u z => ?_) (fun b z => ?_) hTb (.inr ⟨_, _, at_⟩) fun _ => hk
    · by_cases h : isTb cs b
      · rw [withT_in h] at z
        cases z
        obtain ⟨p, hp, rfl⟩ := h
        exact T.em p hp
      · rw [withT_no h] at z
        by_cases h2 : b = a
        · subst h2
          rw [upd_same] at z
          cases z
          exact ⟨ha, hz, vs, _, rv, ha⟩
        · rw [upd_ne h2] at z; cases z
    · by_cases h : isTb cs b
      · exact .inr h
      · rw [withT_no h] at z
        by_cases h2 : b = a
        · exact .inl h2
        · rw [upd_ne h2] at z; exact absurd rfl z
end
theorem walk_ofGT {l : PySem.W.OpenLaw} {n k : Nat} {q : Program} {loose : List Str} {XP : (Str → Option Value) → Heap → Prop} {YP : World → Heap → Prop} {d : DefRec} {CX : CXT} {x : Str}
    (hn : l.most = some n) (hn2 : n ≤ sizeLine) (hdf : d.params.defaults = []) (hr : Room k callerA)
    (F : ∀ (w : World) (mg : Str → Option Value) (fa : Addr) (h : Heap), YP w h → h.Ns mainGlobals mg → mg d.name = some (.ref fa) →
      ∃ (K : PySem.W.Frag) (cs : List (Addr × Addr)) (fd : FuncData) (sp : Sp), K.In h ∧ CsOk K h cs ∧ (∀ (s : Shared) (u : Value), BindsTo s fd ⟨[u], []⟩ [(x, u)]) ∧
        (∀ (H : Hp) (a : Addr) (ns : List Int), ns.length ≤ n → (∀ p ∈ cs, H p.2 = some (.tbl #[])) → SqL K H a (ns.map V.int) → sp [.ref a] H (fun v _ => v = .bl true) fun _ _ _ => False) ∧
        ∀ base : Heap, K.In base → base.Ns mainGlobals mg → (∀ p ∈ cs, TabB base mg p.1 p.2) → FnG l.prog w K mg base CX k fa fd [x] sp)
    (hCX : ∀ (H : Hp) (s : Shared) (e : Value) (s' : Shared), CX [] H s (fun _ _ _ => False) e s' → False) :
    PySem.W.WalkO q loose XP YP l.row.toRowW d [] (fun f vs => PySem.call f vs) := by
  refine Att.attach_callB hn hdf fun w s₀ s₁ mg mb fa o pm cd doc a vs ns G Y ho hd hcd hmg hobj hints hlen hbits hg => ?_
  obtain ⟨K, cs, fd, sp, KX, T, hb, hsp, hF⟩ := F w mg fa _ Y G.T.g hmg
  exact law_callGT T KX G.T.g G.T.b G.T.builtins G.T.nolimit hg G.T.bmain hobj hints (Nat.le_trans hlen hn2) hr hF hb (fun H hH hS => hsp H a ns hlen hH hS) fun H e s' => hCX H s₁ e s'
section
variable {P : Program} {w : World} {K : PySem.W.Frag} {mg : Str → Option Value} {base : Heap} {x : Str} {st : Stmt} {fd : FuncData} {N ps : List Str} {k n : Nat} {b : En → Option Out} {c Pt : Addr}
end
theorem cdH_of {K : PySem.W.Frag} {h : Heap} {p : Addr × Addr} (X : K.In h) (e : cdHB K p = true) : PySem.W.CodeHd h p.1 p.2 ∧ K.lookup p.2 = none := by
  obtain ⟨e1, e2⟩ := He.ba e
  obtain ⟨e3, e4⟩ := He.ba e2
  refine ⟨?_, by simpa using e4⟩
  split at e1
  · rename_i t d vs sl hk
    obtain ⟨a1, b1⟩ := He.ba e1
    obtain ⟨a2, b2⟩ := He.ba b1
    obtain ⟨a3, b3⟩ := He.ba b2
    obtain ⟨a4, b4⟩ := He.ba b3
    obtain ⟨a5, b5⟩ := He.ba b4
    obtain ⟨a6, a7⟩ := He.ba b5
    cases of_decide_eq_true a1
    split at a2
    · rename_i P2 h2
      cases of_decide_eq_true a2
      split at a3
      · rename_i P3 h3
        cases of_decide_eq_true a3
        split at a4
        · rename_i s4 t4 h4
          split at a5
          · rename_i i5 t5 h5
            split at a6
            · rename_i b6 h6
              split at a7
              · rename_i i7 t7 h7
                exact ⟨_, vs, s4, t4, i5, t5, b6, i7, t7, X _ _ hk, rfl, rfl, h2, h3, h4, h5, h6, h7, of_decide_eq_true e3⟩
              · cases a7
            · cases a6
          · cases a5
        · cases a4
      · cases a3
    · cases a2
  · cases e1
theorem tbs0 {K : PySem.W.Frag} {H : Hp} (h : ∀ p ∈ tabCs K, H p.2 = some (.tbl #[])) : Tbs K H := fun p hp => by
  obtain ⟨y, hy, ey⟩ := List.mem_filterMap.mp hp
  obtain ⟨r, er, rfl⟩ := Option.map_eq_some_iff.mp ey
  exact TabS.nil (h r (List.mem_filterMap.mpr ⟨y, hy, er⟩))
theorem csOk {K : PySem.W.Frag} {h : Heap} (X : K.In h) (e : csB K = true) (em : ∀ p ∈ tabCs K, h.get? p.2 = some { cls := .none, data := .fields #[] }) : CsOk K h (tabCs K) :=
  ⟨em, fun p hp => (cdH_of X (List.all_eq_true.mp e p hp)).2, fun p hp => (cdH_of X (List.all_eq_true.mp e p hp)).1⟩
section
variable {X : Cx} {e : Expr} {c m : Str} {n : Nat} {F : FnX} {f : En → Option (D × En)} {fa : En → Option (List D × En)} {E : XK}
end
section
variable {P : Program} {w : World} {K : PySem.W.Frag} {mg : Str → Option Value} {base : Heap} {x qual : Str} {st : Stmt} {f : Addr} {fd : FuncData} {N : List Str} {k n : Nat} {b : En → Option Out} {pa pb : Arg} {kws : List (Str × V)}
end
end Ag
namespace Ag
open PySem PySem.Spec PyProof.Rows L2 Evl
local macro_rules | `(tactic| push_cast [$ls,*]) => `(tactic| simp -implicitDefEqProofs only [xFz_e, xUp_e, xVar_f, xC_e, xNil_e, xCons_e, xPr_e, xB_e, xAnd_e, xOr_e, xNot_e, xOfB_e, xIfE_e, xYes_e, xChain_f, chB_b, xSet_e, xDrop_e, xRet_e, xRetN_e, xRetV_e, xNx_e, xBk_e, xCt_e, xNever_e, xIf_e, xSeq_e, gNm_e, gTp_e, gsNil_e, gsCons_e, xAsg_e, xPar_e, xFor_e, xItL_e, xItT_e, xItR1_e, xItR2_e, xItE_e, xItEt_e, gPutD_e, fnM_e, xCall_e, xMt_e, xPrp_e, xFld_e, xBor_e, xBorV_e, xBorT_e, xCallM_e, xMtM_e, xMk_e, qVar_e, qC_e, xIxP_e, xPutP_e, xInP_e, xApp_e, xExt_e, xFldS_e, xFS_e, xLc_e, xSl_e, xStar_e, xIsi_e, xIsi2_e, xO2_e, xLenO_e, xEqO_e, xDict0_e, xAndV_e, xOrV_e, bnd_some, bnd_none, xeNo_e, mkO_e, xAllL_n, xAllL_c, xMtT_e, xFnT2_e, xDict0T_e, xDisp_e, xGet2_e, xMkR_e, xMkS_e, xMkK_e, xDUp_e, xMv_e, xItK_e, xItI_e, xKl_e, xKb_e, xFr_e, killO_nx, killO_rt, killO_bk, killO_ct, killB_nx, killB_rt, killB_bk, killB_ct, klM_n, klM_t, klM_f, kill_pw, kill_ow, kill_va, kill_no, frE_z, frE_s, frz_pw, frz_ow, frz_va, frz_no, Option.bind_some, Option.bind_none, List.getElem?_cons_zero, List.getElem?_cons_succ, List.getElem?_nil, List.set_cons_zero, List.set_cons_succ, List.map_cons, List.map_nil, List.length_cons, List.length_nil, List.cons_append, List.nil_append, List.replicate_succ, List.replicate_zero, viewE, view_va, view_ow, view_no, view_pw, fz_va, fz_ow, fz_no, fz_pw, own_va, own_ow, own_no, own_pw, ofz_1, ofz_2, o1_l, o1_d, o1_t, fvz_v, fvz_o, putS_e, putR, np_no, np_va, np_ow, np_pw, np_view, freeS_e, Option.map_some, Option.map_none, Option.getD_some, Option.getD_none, pEq_i, pNe_i, pInT_e, pNinT_e, pIsN_e, pNotN_e, pIsB_e, pNotB_e, fl_n, fl_i, fl_s, fl_b, isN_n, isN_i, isN_t, isN_s, isN_b, isN_l, ownAt, reAt, pinned, leafAt, setLeaf, getO, putO, isLst, List.any_cons, List.any_nil, Bool.or_true, Bool.true_or, Bool.or_false, Bool.false_or, Bool.not_true, Bool.not_false, Bool.and_true, Bool.true_and, Bool.and_false, Bool.false_and, D.flat, D.flatL, D.leaf, Sl.leaf, O1.leaf, O2.leaf, Fv.leaf, wipeE, List.all_cons, List.all_nil, if_true, if_false, ite_true, ite_false, reduceIte, Bool.false_eq_true, decide_true, decide_false, reduceCtorEq, and_self, true_and, and_true, and_false, false_and, ixN_lit, ixN_nat, atI_nat, pLst_e, pTup_e, Nat.reduceAdd, Nat.reduceLT, Nat.reduceLeDiff, Nat.lt_add_left_iff_pos, Nat.zero_lt_succ, pPow_e, Int.reducePow, Int.reduceToNat, Int.reduceLT, not_true_eq_false, not_false_eq_true, pAdd_e, pSub_e, pLt_e, pLe_e, pGt_e, pGe_e, pNeg_e, pMul_e, pDiv_e, pMod_e, pAbs_e, pInt_e, pMax2_e, pMin2_e, pLenL_e, pLenS_e, pLenT_e, pIxL_e, pIxS_e, pIxT_e, atI_lit, ge_iff_le, gt_iff_lt, $ls,*])
local macro_rules | `(tactic| dsimp! [$ls,*]) => `(tactic| (push_cast [$ls,*]; repeat (with_reducible refine res_step ?_; push_cast [$ls,*])))
local macro_rules | `(tactic| simp_all! [$ls,*]) => `(tactic| dsimp! [isD_non_int, isD_non_bool, isD_non_str, isD_non_list, isD_non_tuple, isD_non_dict, isD_non_o, isD_bl_int, isD_bl_bool, isD_bl_str, isD_bl_list, isD_bl_tuple, isD_bl_dict, isD_bl_o, isD_int_int, isD_int_bool, isD_int_str, isD_int_list, isD_int_tuple, isD_int_dict, isD_int_o, isD_str_int, isD_str_bool, isD_str_str, isD_str_list, isD_str_tuple, isD_str_dict, isD_str_o, isD_scr_int, isD_scr_bool, isD_scr_str, isD_scr_list, isD_scr_tuple, isD_scr_dict, isD_scr_o, isD_lst_int, isD_lst_bool, isD_lst_str, isD_lst_list, isD_lst_tuple, isD_lst_dict, isD_lst_o, isD_tup_int, isD_tup_bool, isD_tup_str, isD_tup_list, isD_tup_tuple, isD_tup_dict, isD_tup_o, isD_dct_int, isD_dct_bool, isD_dct_str, isD_dct_list, isD_dct_tuple, isD_dct_dict, isD_dct_o, isD_dcT_int, isD_dcT_bool, isD_dcT_str, isD_dcT_list, isD_dcT_tuple, isD_dcT_dict, isD_dcT_o, isD_obj_o, $ls,*])
local macro_rules | `(tactic| walk_at "rb") => `(tactic| repeat (with_reducible refine res_bind ?_))
section
variable {X : Cx} {K : PySem.W.Frag}
end
section
variable {K : PySem.W.Frag} {s : Sta} {B0 : Hp} {σw : L2.St} {vs : List Nat} {Dl : Addr}
variable {g : TG} {gD : D → En → Option En} {c : En → Option (Bool × En)} {f : En → Option (D × En)}
variable {vs1 : List Nat} {it it1 : En → Option (List D × En)} {g1 : TG} {gD1 : D → En → Option En} {c1 : En → Option (Bool × En)}
end
section
variable {X : Cx} {W : WX} {e : Expr} {st : Stmt} {i : Nat} {vs vs1 : List Nat} {it it1 : En → Option (List D × En)} {g g1 : TG} {gD gD1 : D → En → Option En} {c c1 : En → Option (Bool × En)} {f : En → Option (D × En)}
end
section
variable {X : Cx} {K : PySem.W.Frag}
end
section
variable {X : Cx} {e : Expr} {es : List Expr} {pos : Pos} {gs : List D → En → Option En}
end
end Ag
namespace Ag
open PySem PySem.Spec PyProof.Rows L2 Evl LamX
local macro_rules | `(tactic| push_cast [$ls,*]) => `(tactic| simp -implicitDefEqProofs only [xFz_e, xUp_e, xVar_f, xC_e, xNil_e, xCons_e, xPr_e, xB_e, xAnd_e, xOr_e, xNot_e, xOfB_e, xIfE_e, xYes_e, xChain_f, chB_b, xSet_e, xDrop_e, xRet_e, xRetN_e, xRetV_e, xNx_e, xBk_e, xCt_e, xNever_e, xIf_e, xSeq_e, gNm_e, gTp_e, gsNil_e, gsCons_e, xAsg_e, xPar_e, xFor_e, xItL_e, xItT_e, xItR1_e, xItR2_e, xItE_e, xItEt_e, gPutD_e, fnM_e, xCall_e, xMt_e, xPrp_e, xFld_e, xBor_e, xBorV_e, xBorT_e, xCallM_e, xMtM_e, xMk_e, qVar_e, qC_e, xIxP_e, xPutP_e, xInP_e, xApp_e, xExt_e, xFldS_e, xFS_e, xLc_e, xSl_e, xStar_e, xIsi_e, xIsi2_e, xO2_e, xLenO_e, xEqO_e, xDict0_e, xAndV_e, xOrV_e, bnd_some, bnd_none, xeNo_e, mkO_e, xAllL_n, xAllL_c, xMtT_e, xFnT2_e, xDict0T_e, xDisp_e, xGet2_e, xMkR_e, xMkS_e, xMkK_e, xDUp_e, xMv_e, xItK_e, xItI_e, xKl_e, xKb_e, xFr_e, killO_nx, killO_rt, killO_bk, killO_ct, killB_nx, killB_rt, killB_bk, killB_ct, klM_n, klM_t, klM_f, kill_pw, kill_ow, kill_va, kill_no, frE_z, frE_s, frz_pw, frz_ow, frz_va, frz_no, Option.bind_some, Option.bind_none, List.getElem?_cons_zero, List.getElem?_cons_succ, List.getElem?_nil, List.set_cons_zero, List.set_cons_succ, List.map_cons, List.map_nil, List.length_cons, List.length_nil, List.cons_append, List.nil_append, List.replicate_succ, List.replicate_zero, viewE, view_va, view_ow, view_no, view_pw, fz_va, fz_ow, fz_no, fz_pw, own_va, own_ow, own_no, own_pw, ofz_1, ofz_2, o1_l, o1_d, o1_t, fvz_v, fvz_o, putS_e, putR, np_no, np_va, np_ow, np_pw, np_view, freeS_e, Option.map_some, Option.map_none, Option.getD_some, Option.getD_none, pEq_i, pNe_i, pInT_e, pNinT_e, pIsN_e, pNotN_e, pIsB_e, pNotB_e, fl_n, fl_i, fl_s, fl_b, isN_n, isN_i, isN_t, isN_s, isN_b, isN_l, ownAt, reAt, pinned, leafAt, setLeaf, getO, putO, isLst, List.any_cons, List.any_nil, Bool.or_true, Bool.true_or, Bool.or_false, Bool.false_or, Bool.not_true, Bool.not_false, Bool.and_true, Bool.true_and, Bool.and_false, Bool.false_and, D.flat, D.flatL, D.leaf, Sl.leaf, O1.leaf, O2.leaf, Fv.leaf, wipeE, List.all_cons, List.all_nil, if_true, if_false, ite_true, ite_false, reduceIte, Bool.false_eq_true, decide_true, decide_false, reduceCtorEq, and_self, true_and, and_true, and_false, false_and, ixN_lit, ixN_nat, atI_nat, pLst_e, pTup_e, Nat.reduceAdd, Nat.reduceLT, Nat.reduceLeDiff, Nat.lt_add_left_iff_pos, Nat.zero_lt_succ, pPow_e, Int.reducePow, Int.reduceToNat, Int.reduceLT, not_true_eq_false, not_false_eq_true, pAdd_e, pSub_e, pLt_e, pLe_e, pGt_e, pGe_e, pNeg_e, pMul_e, pDiv_e, pMod_e, pAbs_e, pInt_e, pMax2_e, pMin2_e, pLenL_e, pLenS_e, pLenT_e, pIxL_e, pIxS_e, pIxT_e, atI_lit, ge_iff_le, gt_iff_lt, $ls,*])
local macro_rules | `(tactic| dsimp! [$ls,*]) => `(tactic| (push_cast [$ls,*]; repeat (with_reducible refine res_step ?_; push_cast [$ls,*])))
local macro_rules | `(tactic| simp_all! [$ls,*]) => `(tactic| dsimp! [isD_non_int, isD_non_bool, isD_non_str, isD_non_list, isD_non_tuple, isD_non_dict, isD_non_o, isD_bl_int, isD_bl_bool, isD_bl_str, isD_bl_list, isD_bl_tuple, isD_bl_dict, isD_bl_o, isD_int_int, isD_int_bool, isD_int_str, isD_int_list, isD_int_tuple, isD_int_dict, isD_int_o, isD_str_int, isD_str_bool, isD_str_str, isD_str_list, isD_str_tuple, isD_str_dict, isD_str_o, isD_scr_int, isD_scr_bool, isD_scr_str, isD_scr_list, isD_scr_tuple, isD_scr_dict, isD_scr_o, isD_lst_int, isD_lst_bool, isD_lst_str, isD_lst_list, isD_lst_tuple, isD_lst_dict, isD_lst_o, isD_tup_int, isD_tup_bool, isD_tup_str, isD_tup_list, isD_tup_tuple, isD_tup_dict, isD_tup_o, isD_dct_int, isD_dct_bool, isD_dct_str, isD_dct_list, isD_dct_tuple, isD_dct_dict, isD_dct_o, isD_dcT_int, isD_dcT_bool, isD_dcT_str, isD_dcT_list, isD_dcT_tuple, isD_dcT_dict, isD_dcT_o, isD_obj_o, $ls,*])
local macro_rules | `(tactic| walk_at "rb") => `(tactic| repeat (with_reducible refine res_bind ?_))
def LamO (f : Addr) (ob : Obj) : HO := .ext fun h => h.get? f = some ob
theorem lamO_nt {f : Addr} {ob : Obj} : NTbl (LamO f ob) := fun ps z => by unfold LamO at z; cases z
structure LamR where
  q : Str
  ps : Arguments
  bd : Expr
  sc : Scope
abbrev LamR.ob (r : LamR) (X : Cx) (pm : Value) (c' : Addr) (ctv : Value) : Obj := PySem.W.kla_obj "<lambda>" r.q r.ps r.bd r.sc (cloFrom X.env.cells r.sc.names []) pm c' ctv
def LamAt (X : Cx) (r : LamR) (f : Addr) (H : Hp) : Prop := ∃ (c' : Addr) (pm ctv : Value), H f = some (LamO f (r.ob X pm c' ctv)) ∧ H c' = some (CodeO c' r.q)
theorem LamAt.keep {X : Cx} {r : LamR} {f : Addr} {H H' : Hp} (h : LamAt X r f H) (k : ∀ a o, H a = some o → ¬ Mk1 o → NTbl o → H' a = some o) : LamAt X r f H' := by
  obtain ⟨c', pm, ctv, h1, h2⟩ := h
  exact ⟨c', pm, ctv, k _ _ h1 (fun m => m) lamO_nt, k _ _ h2 (fun m => m) codeO_ne⟩
theorem stp_keep {K : PySem.W.Frag} {s t : Sta} (ok : EnOk K s) (st : Stp s t) : ∀ a o, s.H a = some o → ¬ Mk1 o → NTbl o → t.H a = some o := fun a o e m n => st.hh a o e (fun z => by
  obtain ⟨u, hu, mu⟩ := ok.cell z
  rw [e] at hu; cases hu; exact m mu) n
section
variable {X : Cx} {pins : List (Addr × Obj)} {σ : L2.St} {H H1 : Hp} {s : Shared}
end
def LamL (X : Cx) (j : Nat) (ls : List LamR) (s0 s : Sta) : Prop := ∃ (l : Addr) (fs : List Addr), s0.H l = none ∧ s.B l = none ∧ s.σ[j]? = some (some (.ref l)) ∧ s.H l = some (.lst (fs.map V.ref)) ∧ ¬ inF s.fp l ∧ fs.length = ls.length ∧ ∀ (i : Nat) (r : LamR), ls[i]? = some r → ∃ f, fs[i]? = some f ∧ LamAt X r f s.H
theorem LamL.step {K : PySem.W.Frag} {X : Cx} {j : Nat} {ls : List LamR} {s0 s t : Sta} (h : LamL X j ls s0 s) (ok : EnOk K s) (st : Stp s t) (e : t.σ[j]? = s.σ[j]?) : LamL X j ls s0 t := by
  obtain ⟨l, fs, h0, hb, h1, h2, h3, h4, h5⟩ := h
  refine ⟨l, fs, h0, ?_, e.trans h1, st.hh l _ h2 h3 fun ps z => (by cases z), (fun z => (st.ff l z).elim h3 fun w => by rw [h2] at w; cases w), h4, fun i r hr => ?_⟩
  · cases e : t.B l with
    | none => rfl
    | some u =>
      rcases st.bn l u e with z | z | z
      · rw [hb] at z; cases z
      · rw [h2] at z; cases z
      · exact (h3 z).elim
  · obtain ⟨f, e1, e2⟩ := h5 i r hr
    exact ⟨f, e1, e2.keep (stp_keep ok st)⟩
section
variable {X : Cx} {W : WX} {j kl : Nat} {ls : List (LamR × (En → Option (Rs × En)))} {b : En → Option (Rs × En)} {m n : En → Option Out} {st : Stmt} {rest : List Stmt}
end
section
variable {X : Cx} {pins : List (Addr × Obj)} {σ : L2.St} {H : Hp} {s : Shared}
end
section
variable {X : Cx} {x : Str} {kb kl n j : Nat} {fe : En → Option (Sl × En)} {l : List Hd} {m3 : En → Option Out} {mt : Str → Str → Option Bool} {bX : En → Option (Rs × En)}
end
section
variable {K : PySem.W.Frag} {f : En → Option (Sl × En)} {g : En → Option (D × En)} {p : List D → Option Sl}
end
section
variable {X : Cx} {x y : Str} {kb kl n j k : Nat} {fe : En → Option (Sl × En)} {l : List Hd} {m3 : En → Option Out} {mt : Str → Str → Option Bool} {bX : En → Option (Rs × En)} {p p2 pos : Pos}
end
section
variable {X : Cx} {W : WX} {j k kl : Nat} {it tg test : Expr} {ret : List Stmt} {pi pos : Pos} {T : (En → Option (Rs × En)) → En → Option (Bool × En)} {ls : List (LamR × (En → Option (Rs × En)))}
end
section
variable {X : Cx} {W : WX} {j k kl : Nat} {it tg test elt : Expr} {y : Str} {scope : Scope} {pos : Pos} {T : (En → Option (Rs × En)) → En → Option (Bool × En)} {ls : List (LamR × (En → Option (Rs × En)))}
end
end Ag
namespace Ag
open PySem PySem.Spec PyProof.Rows L2 Evl
local macro_rules | `(tactic| push_cast [$ls,*]) => `(tactic| simp -implicitDefEqProofs only [xFz_e, xUp_e, xVar_f, xC_e, xNil_e, xCons_e, xPr_e, xB_e, xAnd_e, xOr_e, xNot_e, xOfB_e, xIfE_e, xYes_e, xChain_f, chB_b, xSet_e, xDrop_e, xRet_e, xRetN_e, xRetV_e, xNx_e, xBk_e, xCt_e, xNever_e, xIf_e, xSeq_e, gNm_e, gTp_e, gsNil_e, gsCons_e, xAsg_e, xPar_e, xFor_e, xItL_e, xItT_e, xItR1_e, xItR2_e, xItE_e, xItEt_e, gPutD_e, fnM_e, xCall_e, xMt_e, xPrp_e, xFld_e, xBor_e, xBorV_e, xBorT_e, xCallM_e, xMtM_e, xMk_e, qVar_e, qC_e, xIxP_e, xPutP_e, xInP_e, xApp_e, xExt_e, xFldS_e, xFS_e, xLc_e, xSl_e, xStar_e, xIsi_e, xIsi2_e, xO2_e, xLenO_e, xEqO_e, xDict0_e, xAndV_e, xOrV_e, bnd_some, bnd_none, xeNo_e, mkO_e, xAllL_n, xAllL_c, xMtT_e, xFnT2_e, xDict0T_e, xDisp_e, xGet2_e, xMkR_e, xMkS_e, xMkK_e, xDUp_e, xMv_e, xItK_e, xItI_e, xKl_e, xKb_e, xFr_e, killO_nx, killO_rt, killO_bk, killO_ct, killB_nx, killB_rt, killB_bk, killB_ct, klM_n, klM_t, klM_f, kill_pw, kill_ow, kill_va, kill_no, frE_z, frE_s, frz_pw, frz_ow, frz_va, frz_no, Option.bind_some, Option.bind_none, List.getElem?_cons_zero, List.getElem?_cons_succ, List.getElem?_nil, List.set_cons_zero, List.set_cons_succ, List.map_cons, List.map_nil, List.length_cons, List.length_nil, List.cons_append, List.nil_append, List.replicate_succ, List.replicate_zero, viewE, view_va, view_ow, view_no, view_pw, fz_va, fz_ow, fz_no, fz_pw, own_va, own_ow, own_no, own_pw, ofz_1, ofz_2, o1_l, o1_d, o1_t, fvz_v, fvz_o, putS_e, putR, np_no, np_va, np_ow, np_pw, np_view, freeS_e, Option.map_some, Option.map_none, Option.getD_some, Option.getD_none, pEq_i, pNe_i, pInT_e, pNinT_e, pIsN_e, pNotN_e, pIsB_e, pNotB_e, fl_n, fl_i, fl_s, fl_b, isN_n, isN_i, isN_t, isN_s, isN_b, isN_l, ownAt, reAt, pinned, leafAt, setLeaf, getO, putO, isLst, List.any_cons, List.any_nil, Bool.or_true, Bool.true_or, Bool.or_false, Bool.false_or, Bool.not_true, Bool.not_false, Bool.and_true, Bool.true_and, Bool.and_false, Bool.false_and, D.flat, D.flatL, D.leaf, Sl.leaf, O1.leaf, O2.leaf, Fv.leaf, wipeE, List.all_cons, List.all_nil, if_true, if_false, ite_true, ite_false, reduceIte, Bool.false_eq_true, decide_true, decide_false, reduceCtorEq, and_self, true_and, and_true, and_false, false_and, ixN_lit, ixN_nat, atI_nat, pLst_e, pTup_e, Nat.reduceAdd, Nat.reduceLT, Nat.reduceLeDiff, Nat.lt_add_left_iff_pos, Nat.zero_lt_succ, pPow_e, Int.reducePow, Int.reduceToNat, Int.reduceLT, not_true_eq_false, not_false_eq_true, pAdd_e, pSub_e, pLt_e, pLe_e, pGt_e, pGe_e, pNeg_e, pMul_e, pDiv_e, pMod_e, pAbs_e, pInt_e, pMax2_e, pMin2_e, pLenL_e, pLenS_e, pLenT_e, pIxL_e, pIxS_e, pIxT_e, atI_lit, ge_iff_le, gt_iff_lt, $ls,*])
local macro_rules | `(tactic| dsimp! [$ls,*]) => `(tactic| (push_cast [$ls,*]; repeat (with_reducible refine res_step ?_; push_cast [$ls,*])))
local macro_rules | `(tactic| simp_all! [$ls,*]) => `(tactic| dsimp! [isD_non_int, isD_non_bool, isD_non_str, isD_non_list, isD_non_tuple, isD_non_dict, isD_non_o, isD_bl_int, isD_bl_bool, isD_bl_str, isD_bl_list, isD_bl_tuple, isD_bl_dict, isD_bl_o, isD_int_int, isD_int_bool, isD_int_str, isD_int_list, isD_int_tuple, isD_int_dict, isD_int_o, isD_str_int, isD_str_bool, isD_str_str, isD_str_list, isD_str_tuple, isD_str_dict, isD_str_o, isD_scr_int, isD_scr_bool, isD_scr_str, isD_scr_list, isD_scr_tuple, isD_scr_dict, isD_scr_o, isD_lst_int, isD_lst_bool, isD_lst_str, isD_lst_list, isD_lst_tuple, isD_lst_dict, isD_lst_o, isD_tup_int, isD_tup_bool, isD_tup_str, isD_tup_list, isD_tup_tuple, isD_tup_dict, isD_tup_o, isD_dct_int, isD_dct_bool, isD_dct_str, isD_dct_list, isD_dct_tuple, isD_dct_dict, isD_dct_o, isD_dcT_int, isD_dcT_bool, isD_dcT_str, isD_dcT_list, isD_dcT_tuple, isD_dcT_dict, isD_dcT_o, isD_obj_o, $ls,*])
local macro_rules | `(tactic| walk_at "rb") => `(tactic| repeat (with_reducible refine res_bind ?_))
section
variable {X : Cx} {e a b : Expr} {rest : List Expr} {pos : Pos} {c : Str} {F : FnX} {f g : En → Option (D × En)} {E : XK} {W : WX} {bX : En → Option (Rs × En)}
end
section
variable {K : PySem.W.Frag} {B H : Hp}
theorem fvl_focus : ∀ {fs : List Fv} {vs : List V} {q : List Addr} {n : Nat} {o : O1}, FvL K B H fs vs q → fs[n]? = some (.ow o) →
    ∃ l, vs[n]? = some (.ref l) ∧ l ∈ q ∧ OwnL K B H o l ∧ ∀ (H' : Hp) (o' : O1), (∀ a ∈ q, a ≠ l → H' a = H a) → OwnL K B H' o' l → FvL K B H' (fs.set n (.ow o')) vs q
  | [], _, _, _, _, _, e => by cases e
  | g :: fs, _, _, 0, o, ⟨v, r, p, q, hv, hq, h1, h2, dj⟩, e => by
    subst hv hq
    cases e
    obtain ⟨l, rfl, rfl, hO⟩ := h1
    exact ⟨l, rfl, by simp, hO, fun H' o' k hO' => ⟨_, _, [l], q, rfl, rfl, ⟨l, rfl, rfl, hO'⟩, h2.mono (Ex.refl _) fun a ha => k a (by simp [ha]) fun z => dj l (by simp) (z ▸ ha), dj⟩⟩
  | g :: fs, _, _, n + 1, o, ⟨v, r, p, q, hv, hq, h1, h2, dj⟩, e => by
    subst hv hq
    obtain ⟨l, e1, e2, e3, e4⟩ := fvl_focus h2 (show fs[n]? = some (.ow o) from e)
    exact ⟨l, e1, List.mem_append_right _ e2, e3, fun H' o' k hO' => ⟨v, r, p, q, rfl, rfl, h1.mono (Ex.refl _) (fun a ha => k a (List.mem_append_left _ ha) fun z => dj a ha (z ▸ e2)), e4 H' o' (fun a ha => k a (List.mem_append_right _ ha)) hO', dj⟩⟩
end
def dpAt (e : En) (i : Nat) (g : En → Option D) : Option (Nat × O1) := match ownAt e i, g e with
  | some (.dp fs), some (.int j) => if 0 ≤ j then (match fs[j.toNat]? with
    | some (.ow o) => some (j.toNat, o)
    | _ => none) else none
  | _, _ => none
def setDp (e : En) (i n : Nat) (o' : O1) : En := match ownAt e i with
  | some (.dp fs) => reAt e i (.dp (fs.set n (.ow o')))
  | _ => e
theorem dpAt_of {e : En} {i n : Nat} {g : En → Option D} {o : O1} (h : dpAt e i g = some (n, o)) : ∃ fs, ownAt e i = some (.dp fs) ∧ g e = some (.int (n : Int)) ∧ fs[n]? = some (.ow o) := by
  unfold dpAt at h
  cases h1 : ownAt e i with
  | none => rw [h1] at h; cases h
  | some w =>
    rw [h1] at h
    cases w with
    | o1 _ => cases h
    | obj _ _ _ => cases h
    | dp fs =>
      cases h2 : g e with
      | none => rw [h2] at h; cases h
      | some d =>
        rw [h2] at h
        cases d with
        | int j =>
          replace h : (if 0 ≤ j then (match fs[j.toNat]? with
            | some (.ow o) => some (j.toNat, o)
            | _ => none) else none) = some (n, o) := h
          split at h
          · rename_i hj
            cases h3 : fs[j.toNat]? with
            | none => rw [h3] at h; cases h
            | some x =>
              rw [h3] at h
              cases x with
              | va _ => cases h
              | ow o1 =>
                cases h
                exact ⟨fs, rfl, by rw [Int.toNat_of_nonneg hj], h3⟩
          · cases h
        | _ => cases h
theorem dp_focus {K : PySem.W.Frag} {t : Sta} {i n : Nat} {g : En → Option D} {o : O1} (ok : EnOk K t) (h : dpAt t.en i g = some (n, o)) :
    ∃ x vs l, t.σ[i]? = some (some (.ref x)) ∧ t.H x = some (.lst vs) ∧ vs[n]? = some (V.ref l) ∧ g t.en = some (.int (n : Int)) ∧ OwnL K t.B t.H o l ∧
      ∀ (u : HO) (o' : O1), OwnL K t.B (upd t.H l u) o' l → EnOk K ⟨t.B, upd t.H l u, t.σ, setDp t.en i n o', t.fp⟩ ∧ Stp t ⟨t.B, upd t.H l u, t.σ, setDp t.en i n o', t.fp⟩ := by
  obtain ⟨fs, ho, hg, hf⟩ := dpAt_of h
  obtain ⟨v, ev, x, vs, q, rfl, hx, hF, hfp, nx⟩ := own_val ok ho
  obtain ⟨l, e1, e2, e3, e4⟩ := fvl_focus hF hf
  have lx : x ≠ l := fun z => nx (z ▸ e2)
  refine ⟨x, vs, l, ev, hx, e1, hg, e3, fun u o' hO' => ?_⟩
  unfold setDp
  rw [ho]
  refine own_upd ok ho ev ⟨x, vs, q, rfl, by rw [upd_ne lx]; exact hx, e4 _ o' (fun a _ na => upd_ne na) hO', hfp, nx⟩ (fun a ha => upd_ne fun z => ha (by rw [hfp, z]; exact List.mem_cons_of_mem _ e2)) fun a ha => ?_
  by_cases hal : a = l
  · exact ⟨u, by rw [hal]; exact upd_same⟩
  · obtain ⟨w, hw, _⟩ := ok.cell ⟨i, ha⟩
    exact ⟨w, by rw [upd_ne hal]; exact hw⟩
def tDp (K : PySem.W.Frag) (i : Nat) (g : En → Option D) : TE := tOp (rIxL K) (tVar i) (rdQ K g)
theorem rd_dp {K : PySem.W.Frag} {t : Sta} {i n : Nat} {g : En → Option D} {x l : Addr} {vs : List V} {Q : VK} (ok : EnOk K t) (hσ : t.σ[i]? = some (some (.ref x))) (hx : t.H x = some (.lst vs)) (hl : vs[n]? = some (V.ref l)) (hg : g t.en = some (.int (n : Int))) (q : Q (.ref l) t.H) : tDp K i g t.σ t.H Q :=
  ⟨.ref x, hσ, t, rfl, rfl, ok, .int n, hg, fun v rp => by
    cases (show v = .int (n : Int) from rp)
    exact ⟨x, vs, n, .ref l, rfl, rfl, SqL.of hx, by rw [atI_nat]; exact hl, q⟩⟩
def rdC (K : PySem.W.Frag) (g : En → Option D) : TE := fun σ H Q => ∃ s : Sta, s.σ = σ ∧ s.H = H ∧ EnOk K s ∧ ∃ d, g s.en = some d ∧ ∀ v B' H', EnOk K ⟨B', H', s.σ, s.en, s.fp⟩ → Stp s ⟨B', H', s.σ, s.en, s.fp⟩ → Ex s.H H' → Rep K B' d v → Q v H'
def rdCs (K : PySem.W.Frag) (g : En → Option (List D)) : TA := fun σ H Q => ∃ s : Sta, s.σ = σ ∧ s.H = H ∧ EnOk K s ∧ ∃ d, g s.en = some d ∧ ∀ v B' H', EnOk K ⟨B', H', s.σ, s.en, s.fp⟩ → Stp s ⟨B', H', s.σ, s.en, s.fp⟩ → Ex s.H H' → RepL K B' d v → Q v H'
def gcNil : En → Option (List D) := fun _ => some []
def gcCons (g : En → Option D) (h : En → Option (List D)) : En → Option (List D) := fun e => (g e).bind fun d => (h e).bind fun r => some (d :: r)
def gcTup (h : En → Option (List D)) : En → Option D := fun e => (h e).bind fun ds => if ds.length < 100000 then some (.tup false ds) else none
section
variable {X : Cx} {a e : Expr} {es : List Expr} {pos : Pos} {g : En → Option D} {h : En → Option (List D)}
theorem xc_q (ha : PE X a (rdQ X.K g)) : PE X a (rdC X.K g) := PEi ha fun σ H Q ⟨s, e1, e2, ok, d, hf, q⟩ => ⟨s, e1, e2, ok, d, hf, fun v rp => by rw [← e2]; exact q v s.B s.H ok (Stp.refl s) (Ex.refl _) rp⟩
theorem xcs_nil : PA X [] (rdCs X.K gcNil) := PAi pa_nil fun σ H Q ⟨s, e1, e2, ok, d, hf, q⟩ => by
  cases hf
  show Q [] H
  rw [← e2]
  exact q [] s.B s.H ok (Stp.refl s) (Ex.refl _) rfl
theorem xcs_cons (h1 : PE X e (rdC X.K g)) (h2 : PA X es (rdCs X.K h)) (hs : starEach (e :: es) X.env = (false, eval e X.env) :: starEach es X.env := by rfl) : PA X (e :: es) (rdCs X.K (gcCons g h)) := PAi (pa_cons h1 h2 hs) fun σ H Q ⟨s, e1, e2, ok, d, hf, q⟩ => by
  obtain ⟨d1, k1, k2⟩ := Option.bind_eq_some_iff.mp hf
  obtain ⟨d2, k3, k4⟩ := Option.bind_eq_some_iff.mp k2
  cases k4
  refine ⟨s, e1, e2, ok, d1, k1, fun v B1 H1 ok1 st1 ex1 rp1 => ⟨⟨B1, H1, s.σ, s.en, s.fp⟩, e1, rfl, ok1, d2, k3, fun w B2 H2 ok2 st2 ex2 rp2 => ?_⟩⟩
  exact q (v :: w) B2 H2 ok2 (st1.trans st2) (ex1.trans ex2) ⟨v, w, rfl, rp1.mono st2.bb, rp2⟩
theorem xc_tup {k} (h1 : PA X es (rdCs X.K h)) : PE X (.Tuple es k pos) (rdC X.K (gcTup h)) := PEi (pe_tup h1) fun σ H Q ⟨s, e1, e2, ok, d, hf, q⟩ => by
  obtain ⟨ds, k1, k2⟩ := Option.bind_eq_some_iff.mp hf
  split at k2
  · rename_i hl
    cases k2
    refine ⟨s, e1, e2, ok, ds, k1, fun vs B1 H1 ok1 st1 ex1 rp1 => ⟨sz_of (by rw [rp1.len]; omega), fun p hp => ?_⟩⟩
    have bp : B1 p = none := fresh_back ok1.ex hp
    have eb : Ex B1 (upd B1 p (.tup vs)) := Ex.new bp
    have eh : Ex H1 (upd H1 p (.tup vs)) := Ex.new hp
    have ok2 := ok1.alc (B' := upd B1 p (.tup vs)) (H' := upd H1 p (.tup vs)) eb eh (fun a o ea => by
      by_cases ha : a = p
      · subst ha; rw [upd_same] at ea ⊢; exact ea
      · rw [upd_ne ha] at ea ⊢; exact ok1.ex a o ea) fun i a ha => by
      rw [upd_ne fun z => ?_]
      · exact ok1.off i a ha
      · obtain ⟨w, hw, _⟩ := ok1.cell ⟨i, ha⟩
        rw [z] at hw
        rw [show H1 p = some w from hw] at hp; cases hp
    have st2 : Stp ⟨B1, H1, s.σ, s.en, s.fp⟩ ⟨upd B1 p (.tup vs), upd H1 p (.tup vs), s.σ, s.en, s.fp⟩ := Stp.alc eb eh fun a o ea => by
      by_cases ha : a = p
      · subst ha; exact .inr (.inl hp)
      · rw [upd_ne ha] at ea; exact .inl ea
    exact q (.ref p) _ _ ok2 (st1.trans st2) (ex1.trans eh) ⟨p, vs, rfl, upd_same, rp1.mono eb⟩
  · cases k2
def xAppD (i : Nat) (g f : En → Option D) : En → Option (Sl × En) := fun e => (dpAt e i g).bind fun p => (f e).bind fun d => match p.2 with
  | .lst ds => if ds.length < 100000 then some (.va .non, setDp e i p.1 (.lst (ds ++ [d]))) else none
  | _ => none
theorem xe_appD {i : Nat} {f : En → Option D} (h : PE X e (tBM X.K "list" rAppend (tDp X.K i g) (tCons (rdC X.K f) tNil))) : PE X e (rdE X.K (xAppD i g f)) := PEi h fun σ H Q ⟨s, e1, e2, ok, r, en', hf, q⟩ => by
  obtain ⟨⟨n, o⟩, k1, k2⟩ := Option.bind_eq_some_iff.mp hf
  obtain ⟨d, k3, k4⟩ := Option.bind_eq_some_iff.mp k2
  cases o with
  | lst ds =>
    replace k4 : (if ds.length < 100000 then some (Sl.va .non, setDp s.en i n (.lst (ds ++ [d]))) else none) = some (r, en') := k4
    split at k4
    · rename_i hz
      cases k4
      obtain ⟨x, vs, l, hσ, hx, hl, hg, hO, _⟩ := dp_focus ok k1
      obtain ⟨ws, hw, rl⟩ := id hO
      subst e1 e2
      refine rd_dp ok hσ hx hl hg ⟨.inl ⟨rfl, ws, SqL.of hw⟩, s, rfl, rfl, ok, d, k3, fun v B1 H1 ok1 st1 ex1 rp1 => ?_⟩
      obtain ⟨x', vs', l', hσ', hx', hl', _, hO', upk⟩ := dp_focus (t := ⟨B1, H1, s.σ, s.en, s.fp⟩) ok1 k1
      have ex : x' = x := by
        have := hσ'.symm.trans hσ
        cases this; rfl
      subst ex
      have hv : vs' = vs := by
        have := hx'.symm.trans (ex1 _ _ hx)
        cases this; rfl
      subst hv
      have hll : l' = l := by
        have := hl'.symm.trans hl
        cases this; rfl
      subst hll
      obtain ⟨ws2, hw2, rl2⟩ := hO'
      obtain ⟨u1, u2⟩ := upk (.lst (ws2 ++ [v])) (.lst (ds ++ [d])) ⟨_, upd_same, rl2.append (.one rp1)⟩
      exact ⟨l', ws2, v, rfl, rfl, hw2, sz_lt (by rw [rl2.len]; exact hz), q .non ⟨B1, upd H1 l' (.lst (ws2 ++ [v])), s.σ, setDp s.en i n (.lst (ds ++ [d])), s.fp⟩ [] rfl rfl u1 (st1.trans u2) ⟨rfl, _, rfl, rfl⟩ .nil⟩
    · cases k4
  | _ => cases k4
def toFv1 : Sl → Option Fv
  | .va d => some (.va d)
  | .ow (.o1 o) => some (.ow o)
  | _ => none
theorem fv_of {K : PySem.W.Frag} {B H : Hp} {v : V} {x : Sl} {w : Fv} {fr : List Addr} (sl : SlOk K B H (some v) x fr) (h : toFv1 x = some w) : FvOk K B H w v fr := by
  cases x with
  | no => cases h
  | pw o => cases h
  | va d =>
    cases h
    obtain ⟨h1, v', ev, rp⟩ := sl
    cases ev
    exact ⟨rp, h1⟩
  | ow o =>
    obtain ⟨v', ev, ho⟩ := sl
    cases ev
    cases o with
    | o1 o => cases h; exact ho
    | obj _ _ _ => cases h
    | dp _ => cases h
def xDp2 (f g : En → Option (Sl × En)) : En → Option (Sl × En) := fun e => (f e).bind fun p => (g p.2).bind fun q => (toFv1 p.1).bind fun a => (toFv1 q.1).bind fun b => some (.ow (.dp [a, b]), q.2)
theorem xe_dp2 {f g : En → Option (Sl × En)} (h : PE X e (tLst (tCons (rdE X.K f) (tCons (rdE X.K g) tNil)))) : PE X e (rdE X.K (xDp2 f g)) := PEi h fun σ H Q ⟨s, e1, e2, ok, r, en', hf, q⟩ => by
  obtain ⟨⟨r1, en1⟩, k1, k2⟩ := Option.bind_eq_some_iff.mp hf
  obtain ⟨⟨r2, en2⟩, k3, k4⟩ := Option.bind_eq_some_iff.mp k2
  obtain ⟨a1, k5, k6⟩ := Option.bind_eq_some_iff.mp k4
  obtain ⟨a2, k7, k8⟩ := Option.bind_eq_some_iff.mp k6
  cases k8
  refine ⟨s, e1, e2, ok, r1, en1, k1, fun v t fr tσ te okt st sl sd => ?_⟩
  refine ⟨t, tσ, rfl, okt, r2, en2, by rw [te]; exact k3, fun w u fr2 uσ ue oku st2 sl2 sd2 => ?_⟩
  have cell : ∀ a ∈ fr, ∃ o, t.H a = some o := fun a ha => by
    obtain ⟨o, e, _⟩ := sl.cell a ha
    exact ⟨o, e⟩
  have sl1 := sl.step st2 sd.no
  have sd1 := sd.step (K := X.K) cell st2
  refine ⟨sz_of (by simp), fun p hp => ?_⟩
  have kx : Ex u.H (upd u.H p (.lst [v, w])) := Ex.new hp
  have ok3 := oku.alc (Ex.refl _) kx (oku.ex.trans kx) oku.off
  have st3 : Stp u ⟨u.B, upd u.H p (.lst [v, w]), u.σ, u.en, u.fp⟩ := Stp.alc (Ex.refl _) kx fun _ _ z => .inl z
  have stA := st.trans st2
  have cu : ∀ a ∈ fr, ∃ o, u.H a = some o := fun a ha => by
    obtain ⟨o, e, _⟩ := sl1.cell a ha
    exact ⟨o, e⟩
  have cu2 : ∀ a ∈ fr2, ∃ o, u.H a = some o := fun a ha => by
    obtain ⟨o, e, _⟩ := sl2.cell a ha
    exact ⟨o, e⟩
  have np : ∀ a, (∃ o, u.H a = some o) → a ≠ p := fun a ⟨o, e⟩ z => by rw [z, hp] at e; cases e
  have kp : ∀ a, (∃ o, u.H a = some o) → upd u.H p (.lst [v, w]) a = u.H a := fun a h => upd_ne (np a h)
  have f1 : FvOk X.K u.B (upd u.H p (.lst [v, w])) a1 v fr := (fv_of sl1 k5).mono (Ex.refl _) fun a ha => kp a (cu a ha)
  have f2 : FvOk X.K u.B (upd u.H p (.lst [v, w])) a2 w fr2 := (fv_of sl2 k7).mono (Ex.refl _) fun a ha => kp a (cu2 a ha)
  have dj : ∀ a ∈ fr, a ∉ fr2 ++ [] := fun a ha hb => by
    rw [List.append_nil] at hb
    rcases sd2.new a hb with z | z
    · obtain ⟨o, e⟩ := cell a ha
      rw [e] at z; cases z
    · exact sd.no a ha z
  refine q (.ref p) ⟨u.B, upd u.H p (.lst [v, w]), u.σ, u.en, u.fp⟩ (p :: (fr ++ (fr2 ++ []))) uσ ue ok3 (stA.trans st3) ⟨.ref p, rfl, p, [v, w], fr ++ (fr2 ++ []), rfl, upd_same, ⟨v, [w], fr, fr2 ++ [], rfl, rfl, f1, ⟨w, [], fr2, [], rfl, rfl, f2, ⟨rfl, rfl⟩, fun _ _ z => (by cases z)⟩, dj⟩, rfl, fun z => ?_⟩ ⟨fun a ha => ?_, fun a ha => ?_, fun a ha => ?_⟩
  · rcases List.mem_append.mp z with z | z
    · exact np p (cu p z) rfl
    · exact np p (cu2 p (by simpa using z)) rfl
  · rcases List.mem_cons.mp ha with rfl | ha
    · intro z
      obtain ⟨o, e, _⟩ := oku.cell z
      rw [hp] at e; cases e
    · rcases List.mem_append.mp ha with z | z
      · exact sd1.no a z
      · exact sd2.no a (by simpa using z)
  · rcases List.mem_cons.mp ha with rfl | ha
    · exact fresh_back oku.ex hp
    · rcases List.mem_append.mp ha with z | z
      · exact sd1.b a z
      · exact sd2.b a (by simpa using z)
  · rcases List.mem_cons.mp ha with rfl | ha
    · exact .inl (stA.dm a hp)
    · rcases List.mem_append.mp ha with z | z
      · exact sd1.new a z
      · rcases sd2.new a (by simpa using z) with z | z
        · exact .inl (st.dm a z)
        · rcases st.ff a z with z | z
          · exact .inr z
          · exact .inl z
end
variable {W : WX}
def itD (enm : Bool) (k : Nat) (d : D) : D := if enm = true then .tup false [.int (k : Int), d] else d
def loopP (i : Nat) (enm : Bool) (g : D → En → Option En) (b : En → Option Out) : Nat → Nat → En → Option Out
  | 0, _, _ => none
  | f + 1, k, e => match e[i]? with
    | some (.pw (.o1 (.lst ds))) => (match ds[k]? with
      | none => some (.nx e)
      | some d => (g (itD enm k d) e).bind fun e1 => (b e1).bind fun o => match o with
        | .nx e2 => loopP i enm g b f (k + 1) e2
        | .ct e2 => loopP i enm g b f (k + 1) e2
        | .bk e2 => some (.nx e2)
        | .rt r e2 => some (.rt r e2)
        | .ex r e2 => some (.ex r e2))
    | _ => none
def unP (i : Nat) (e : En) : En := match e[i]? with
  | some (.pw o) => e.set i (.ow o)
  | _ => e
def outP (i : Nat) : Out → Out
  | .nx e => .nx (unP i e)
  | .bk e => .bk (unP i e)
  | .ct e => .ct (unP i e)
  | .rt r e => .rt r (unP i e)
  | .ex r e => .ex r (unP i e)
def xForP (i : Nat) (enm : Bool) (g : D → En → Option En) (b : En → Option Out) : En → Option Out := fun e => match e[i]? with
  | some (.ow (.o1 (.lst ds))) => (loopP i enm g b (ds.length + 1) 0 (e.set i (.pw (.o1 (.lst ds))))).bind fun o => some (outP i o)
  | _ => none
section
variable {K : PySem.W.Frag}
theorem enOk_set {s : Sta} {i : Nat} {x y : Sl} (ok : EnOk K s) (e : s.en[i]? = some x) (hx : ∀ ov fp, SlOk K s.B s.H ov x fp → SlOk K s.B s.H ov y fp) : EnOk K ⟨s.B, s.H, s.σ, s.en.set i y, s.fp⟩ where
  ex := ok.ex
  len := by show (s.en.set i y).length = _; rw [List.length_set]; exact ok.len
  sl := fun j z ez => by
    have ez : (s.en.set i y)[j]? = some z := ez
    by_cases hj : j = i
    · subst hj
      rw [List.getElem?_set_self (List.getElem?_eq_some_iff.mp e).1] at ez
      cases ez
      obtain ⟨ov, e1, h1⟩ := ok.sl j x e
      exact ⟨ov, e1, hx _ _ h1⟩
    · rw [List.getElem?_set_ne (Ne.symm hj)] at ez
      exact ok.sl j z ez
  out := fun j ez => by
    have ez : (s.en.set i y)[j]? = none := ez
    have hj : j ≠ i := by
      rintro rfl
      rw [List.getElem?_set_self (List.getElem?_eq_some_iff.mp e).1] at ez; cases ez
    rw [List.getElem?_set_ne (Ne.symm hj)] at ez
    exact ok.out j ez
  dj := ok.dj
  off := ok.off
  nt := ok.nt
  tb := ok.tb
theorem unP_ok {s t : Sta} {i : Nat} {o : O2} (e : s.en[i]? = some (.ow o)) (okt : EnOk K t) (st : Stp ⟨s.B, s.H, s.σ, s.en.set i (.pw o), s.fp⟩ t) : EnOk K ⟨t.B, t.H, t.σ, unP i t.en, t.fp⟩ ∧ Stp s ⟨t.B, t.H, t.σ, unP i t.en, t.fp⟩ := by
  have hi := (List.getElem?_eq_some_iff.mp e).1
  obtain ⟨_, o', h2⟩ := st.pn i o (by show (s.en.set i (.pw o))[i]? = _; exact List.getElem?_set_self hi)
  have hu : unP i t.en = t.en.set i (.ow o') := by unfold unP; rw [h2]
  rw [hu]
  refine ⟨enOk_set okt h2 fun _ _ h => h, ⟨st.bb, st.bn, st.hh, st.dm, st.ff, fun j p ej => ?_, ?_⟩⟩
  · have hj : j ≠ i := by rintro rfl; rw [e] at ej; cases ej
    obtain ⟨k1, p', k2⟩ := st.pn j p (by show (s.en.set i (.pw o))[j]? = _; rw [List.getElem?_set_ne (Ne.symm hj)]; exact ej)
    exact ⟨k1, p', by show (t.en.set i (.ow o'))[j]? = _; rw [List.getElem?_set_ne (Ne.symm hj)]; exact k2⟩
  · show (t.en.set i (.ow o')).length = s.en.length
    rw [List.length_set, st.ln]
    show (s.en.set i (.pw o)).length = _
    rw [List.length_set]
theorem endO_P {s : Sta} {i : Nat} {o : O2} {D : Ends} {r : Out} (e : s.en[i]? = some (.ow o)) (q : EndO K W D s (outP i r)) : EndO K W D ⟨s.B, s.H, s.σ, s.en.set i (.pw o), s.fp⟩ r := by
  cases r with
  | nx e1 => exact fun t te okt st => q ⟨t.B, t.H, t.σ, unP i t.en, t.fp⟩ (by rw [te]) (unP_ok e okt st).1 (unP_ok e okt st).2
  | bk e1 => exact fun t te okt st => q ⟨t.B, t.H, t.σ, unP i t.en, t.fp⟩ (by rw [te]) (unP_ok e okt st).1 (unP_ok e okt st).2
  | ct e1 => exact fun t te okt st => q ⟨t.B, t.H, t.σ, unP i t.en, t.fp⟩ (by rw [te]) (unP_ok e okt st).1 (unP_ok e okt st).2
  | rt r e1 => exact fun v t fr te okt st sl sd => q v ⟨t.B, t.H, t.σ, unP i t.en, t.fp⟩ fr (by rw [te]) (unP_ok e okt st).1 (unP_ok e okt st).2 sl ⟨sd.no, sd.b, sd.new⟩
  | ex er e1 => exact fun cls d t te okt st re => q cls d ⟨t.B, t.H, t.σ, unP i t.en, t.fp⟩ (by rw [te]) (unP_ok e okt st).1 (unP_ok e okt st).2 re
theorem xForP_of {i : Nat} {enm : Bool} {g : D → En → Option En} {b : En → Option Out} {e : En} {o : Out} (h : xForP i enm g b e = some o) : ∃ ds o0, e[i]? = some (.ow (.o1 (.lst ds))) ∧ loopP i enm g b (ds.length + 1) 0 (e.set i (.pw (.o1 (.lst ds)))) = some o0 ∧ o = outP i o0 := by
  unfold xForP at h
  cases e1 : e[i]? with
  | none => rw [e1] at h; cases h
  | some x =>
    rw [e1] at h
    cases x with
    | ow w =>
      cases w with
      | o1 l =>
        cases l with
        | lst ds =>
          obtain ⟨o0, k1, k2⟩ := Option.bind_eq_some_iff.mp h
          cases k2
          exact ⟨ds, o0, rfl, k1, rfl⟩
        | _ => cases h
      | _ => cases h
    | _ => cases h
theorem loopP_of {i : Nat} {enm : Bool} {g : D → En → Option En} {b : En → Option Out} {f k : Nat} {e : En} {o : Out} {w : O2} (hw : e[i]? = some (.pw w)) (h : loopP i enm g b (f + 1) k e = some o) : ∃ ds, w = .o1 (.lst ds) ∧ ((ds[k]? = none ∧ o = .nx e) ∨ ∃ d e1 o1, ds[k]? = some d ∧ g (itD enm k d) e = some e1 ∧ b e1 = some o1 ∧ (match o1 with
    | .nx e2 => loopP i enm g b f (k + 1) e2
    | .ct e2 => loopP i enm g b f (k + 1) e2
    | .bk e2 => some (.nx e2)
    | .rt r e2 => some (.rt r e2)
    | .ex r e2 => some (.ex r e2)) = some o) := by
  unfold loopP at h
  rw [hw] at h
  cases w with
  | o1 l =>
    cases l with
    | lst ds =>
      refine ⟨ds, rfl, ?_⟩
      replace h : (match ds[k]? with
        | none => some (.nx e)
        | some d => (g (itD enm k d) e).bind fun e1 => (b e1).bind fun o => match o with
          | .nx e2 => loopP i enm g b f (k + 1) e2
          | .ct e2 => loopP i enm g b f (k + 1) e2
          | .bk e2 => some (.nx e2)
          | .rt r e2 => some (.rt r e2)
          | .ex r e2 => some (.ex r e2)) = some o := h
      cases hd : ds[k]? with
      | none => rw [hd] at h; cases h; exact .inl ⟨rfl, rfl⟩
      | some d =>
        rw [hd] at h
        obtain ⟨e1, k1, k2⟩ := Option.bind_eq_some_iff.mp h
        obtain ⟨o1, k3, k4⟩ := Option.bind_eq_some_iff.mp k2
        exact .inr ⟨d, e1, o1, rfl, k1, k3, k4⟩
    | _ => cases h
  | _ => cases h
end
section
variable {X : Cx} {st : Stmt} {i : Nat} {g : D → En → Option En} {b : En → Option Out}
theorem xs_forPE (h : PS X st (tFor (iEnum X.K (tCons (tVar i) tNil)) (rdG X.K g) (rdS X.K W b))) : PS X st (rdS X.K W (xForP i true g b)) := PSi h fun D σ H ⟨s, e1, e2, ok, o, hf, q⟩ => by
  obtain ⟨ds, o0, es, hl0, rfl⟩ := xForP_of hf
  have ok1 : EnOk X.K ⟨s.B, s.H, s.σ, s.en.set i (.pw (.o1 (.lst ds))), s.fp⟩ := enOk_set ok es fun _ _ h => h
  have q1 := endO_P es q
  have hi := (List.getElem?_eq_some_iff.mp es).1
  have es1 : (s.en.set i (.pw (.o1 (.lst ds))))[i]? = some (.pw (.o1 (.lst ds))) := List.getElem?_set_self hi
  obtain ⟨ov, ev, v, rfl, l, rfl, hfp, vs, hv, rl⟩ := ok1.sl i _ es1
  subst e1 e2
  refine ⟨.ref l, ev, l, vs, rfl, SqL.of hv, fun k m σ' H' => ∃ u : Sta, u.σ = σ' ∧ u.H = H' ∧ EnOk X.K u ∧ Stp ⟨s.B, s.H, s.σ, s.en.set i (.pw (.o1 (.lst ds))), s.fp⟩ u ∧ loopP i true g b m k u.en = some o0, ⟨_, ⟨s.B, s.H, s.σ, s.en.set i (.pw (.o1 (.lst ds))), s.fp⟩, rfl, rfl, ok1, Stp.refl _, hl0⟩, ?_⟩
  rintro k m σ' H' ⟨u, rfl, rfl, oku, stu, hl⟩
  cases m with
  | zero => cases hl
  | succ m =>
    obtain ⟨hσ, w, hw⟩ := stu.pn i _ es1
    obtain ⟨ds2, rfl, hh⟩ := loopP_of hw hl
    obtain ⟨ov2, ev2, v2, rfl, l2, rfl, hfp2, vs2, hv2, rl2⟩ := oku.sl i _ hw
    have hll : l2 = l := by
      have := ev2.symm.trans (hσ.trans ev)
      cases this; rfl
    subst hll
    rcases hh with ⟨hd, rfl⟩ | ⟨d, en1, o1, hd, k1, k2, k3⟩
    · refine .inl ⟨⟨vs2, SqL.of hv2, ?_⟩, q1 u rfl oku stu⟩
      rw [rl2.len]
      exact List.getElem?_eq_none_iff.mp hd
    · obtain ⟨x0, hx0, rp0⟩ := rl2.at hd
      refine .inr ⟨⟨vs2, x0, SqL.of hv2, hx0⟩, fun σ2 H2 => ∃ u : Sta, u.σ = σ2 ∧ u.H = H2 ∧ EnOk X.K u ∧ Stp ⟨s.B, s.H, s.σ, s.en.set i (.pw (.o1 (.lst ds))), s.fp⟩ u ∧ loopP i true g b m (k + 1) u.en = some o0, fun σ2 H2 z => ⟨m, Nat.lt_succ_self m, z⟩, fun x H2 y => ?_⟩
      obtain ⟨T, x', rfl, hT, rfl, hx⟩ := y
      have hxx := (hx vs2 (SqL.of hv2)).symm.trans hx0
      cases hxx
      have bT : u.B T = none := fresh_back oku.ex hT
      have eb : Ex u.B (upd u.B T (.tup [.int (k : Nat), x0])) := Ex.new bT
      have eh : Ex u.H (upd u.H T (.tup [.int (k : Nat), x0])) := Ex.new hT
      have ok3 : EnOk X.K ⟨upd u.B T (.tup [.int (k : Nat), x0]), upd u.H T (.tup [.int (k : Nat), x0]), u.σ, u.en, u.fp⟩ := oku.alc eb eh (fun a o ea => by
        by_cases ha : a = T
        · subst ha; rw [upd_same] at ea ⊢; exact ea
        · rw [upd_ne ha] at ea ⊢; exact oku.ex a o ea) fun j a ha => by
        rw [upd_ne fun z => ?_]
        · exact oku.off j a ha
        · obtain ⟨w, hw, _⟩ := oku.cell ⟨j, ha⟩
          rw [z, hT] at hw; cases hw
      have st3 : Stp u ⟨upd u.B T (.tup [.int (k : Nat), x0]), upd u.H T (.tup [.int (k : Nat), x0]), u.σ, u.en, u.fp⟩ := Stp.alc eb eh fun a o ea => by
        by_cases ha : a = T
        · subst ha; exact .inr (.inl hT)
        · rw [upd_ne ha] at ea; exact .inl ea
      refine ⟨⟨upd u.B T (.tup [.int (k : Nat), x0]), upd u.H T (.tup [.int (k : Nat), x0]), u.σ, u.en, u.fp⟩, .tup false [.int (k : Int), d], rfl, rfl, ok3, ⟨T, _, rfl, upd_same, .int (k : Nat), [x0], rfl, rfl, x0, [], rfl, rp0.mono eb, rfl⟩, en1, k1, fun w2 we okw stw => ⟨w2, rfl, rfl, okw, o1, by rw [we]; exact k2, ?_⟩⟩
      have stB := (stu.trans st3).trans stw
      cases o1 with
      | nx e3 => exact fun z ze okz stz => ⟨z, rfl, rfl, okz, stB.trans stz, by rw [ze]; exact k3⟩
      | ct e3 => exact fun z ze okz stz => ⟨z, rfl, rfl, okz, stB.trans stz, by rw [ze]; exact k3⟩
      | bk e3 => cases k3; exact q1.from stB
      | rt r e3 => cases k3; exact q1.from stB
      | ex r e3 => cases k3; exact q1.from stB
end
def pIxB : List D → Option Sl
  | [.tup k xs, i] => pIxT [.tup k xs, i]
  | ds => pIxL ds
def rIxB (K : PySem.W.Frag) : R2 := fun x y H Q => rIxL K x y H Q ∨ rIxT K x y H Q
theorem ix_seq {X : Cx} : IxR X (rIxB X.K) := fun value slice pins s σ H x y v u Q I rx ry h hs => h.elim (fun h => ix_list value slice pins s σ H x y v u Q I rx ry h hs) fun h => ix_tup value slice pins s σ H x y v u Q I rx ry h hs
theorem ps_ixB {K : PySem.W.Frag} : PrS K (r2L (rIxB K)) pIxB := fun B H ds vs x e rp hg Q q => by
  have hL : pIxL ds = some x → r2L (rIxB K) vs H Q := fun h => by
    have := ps_ixL B H ds vs x e rp h Q q
    match vs, this with
    | [a, b], this => exact .inl this
  match ds, hg with
  | [.tup k xs, i], hg =>
    have := ps_ixT B H _ vs x e rp (show pIxT [.tup k xs, i] = some x from hg) Q q
    match vs, this with
    | [a, b], this => exact .inr this
  | [], hg => cases hg
  | [d], hg => cases d <;> cases hg
  | [.lst xs, i], hg => exact hL hg
  | [.scr xs, i], hg => exact hL hg
  | [.non, i], hg => cases hg
  | [.bl _, i], hg => cases hg
  | [.int _, i], hg => cases hg
  | [.str _, i], hg => cases hg
  | [.dct _ _, i], hg => cases hg
  | [.dcT _ _, i], hg => cases hg
  | [.obj _ _ _, i], hg => cases hg
  | a :: b :: c :: r, hg => simp [pIxB, pIxL] at hg
def xItB (f : En → Option (D × En)) : En → Option (List D × En) := fun e => (f e).bind fun p => match p.1 with
  | .lst ds => some (ds, p.2)
  | .tup _ ds => some (ds, p.2)
  | _ => none
def xItEb (f : En → Option (List D × En)) : En → Option (List D × En) := fun e => (f e).bind fun p => match p.1 with
  | [.lst ds] => some (enumD ds, p.2)
  | [.tup _ ds] => some (enumD ds, p.2)
  | _ => none
section
variable {X : Cx} {tg e : Expr} {f : En → Option (D × En)} {fa : En → Option (List D × En)}
theorem xi_seq (h1 : PI X tg e (iList X.K (rdV X.K f))) (h2 : PI X tg e (iTup X.K (rdV X.K f))) : PI X tg e (rdI X.K (xItB f)) := ⟨fun pins s0 σ H R I ⟨s, e1, e2, ok, ds, en', hf, q⟩ => by
  obtain ⟨⟨d, en1⟩, k1, k2⟩ := Option.bind_eq_some_iff.mp hf
  match d, k2, k1 with
  | .lst xs, k2, k1 => exact (xi_list h1).run pins s0 σ H R I ⟨s, e1, e2, ok, ds, en', Option.bind_eq_some_iff.mpr ⟨_, k1, k2⟩, q⟩
  | .tup k xs, k2, k1 => exact (xi_tup h2).run pins s0 σ H R I ⟨s, e1, e2, ok, ds, en', Option.bind_eq_some_iff.mpr ⟨_, k1, k2⟩, q⟩⟩
theorem xi_enumB (h1 : PI X tg e (iEnum X.K (rdA X.K fa))) (h2 : PI X tg e (iEnumT X.K (rdA X.K fa))) : PI X tg e (rdI X.K (xItEb fa)) := ⟨fun pins s0 σ H R I ⟨s, e1, e2, ok, ds, en', hf, q⟩ => by
  obtain ⟨⟨d, en1⟩, k1, k2⟩ := Option.bind_eq_some_iff.mp hf
  match d, k2, k1 with
  | [.lst xs], k2, k1 => exact (xi_enum h1).run pins s0 σ H R I ⟨s, e1, e2, ok, ds, en', Option.bind_eq_some_iff.mpr ⟨_, k1, k2⟩, q⟩
  | [.tup k xs], k2, k1 => exact (xi_enumT h2).run pins s0 σ H R I ⟨s, e1, e2, ok, ds, en', Option.bind_eq_some_iff.mpr ⟨_, k1, k2⟩, q⟩⟩
end
theorem xItB_e (f : En → Option (D × En)) (e : En) : xItB f e = (@bnd _ _ (f e) ⟨fun p => match p.1 with
  | .lst ds => some (ds, p.2)
  | .tup _ ds => some (ds, p.2)
  | _ => none⟩) := rfl
theorem xItEb_e (f : En → Option (List D × En)) (e : En) : xItEb f e = (@bnd _ _ (f e) ⟨fun p => match p.1 with
  | [.lst ds] => some (enumD ds, p.2)
  | [.tup _ ds] => some (enumD ds, p.2)
  | _ => none⟩) := rfl
theorem pIxB_l (ds : List D) (i : D) : pIxB [.lst ds, i] = pIxL [.lst ds, i] := rfl
theorem pIxB_t (k : Bool) (ds : List D) (i : D) : pIxB [.tup k ds, i] = pIxT [.tup k ds, i] := rfl
theorem xDp2_e (f g : En → Option (Sl × En)) (e : En) : xDp2 f g e = (@bnd _ _ (f e) ⟨fun p => (@bnd _ _ (g p.2) ⟨fun q => (@bnd _ _ (toFv1 p.1) ⟨fun a => (@bnd _ _ (toFv1 q.1) ⟨fun b => some (.ow (.dp [a, b]), q.2)⟩)⟩)⟩)⟩) := rfl
theorem sc__law_source : FnScope ["script", "turn", "cell", "number", "seed"] ["script", "turn"] (defScope s__law_source) := ⟨rfl, rfl, rfl, by decide +kernel, rfl, by decide +kernel, by decide +kernel⟩
theorem sc__law_draw : FnScope ["source", "amount", "digit", "found"] ["source", "amount"] (defScope s__law_draw) := ⟨rfl, rfl, rfl, by decide +kernel, rfl, by decide +kernel, by decide +kernel⟩
theorem sc__law_pick : FnScope ["source", "items"] ["source", "items"] (defScope s__law_pick) := ⟨rfl, rfl, rfl, by decide +kernel, rfl, by decide +kernel, by decide +kernel⟩
theorem sc__law_maker : FnScope ["source", "back"] ["source", "back"] (defScope s__law_maker) := ⟨rfl, rfl, rfl, by decide +kernel, rfl, by decide +kernel, by decide +kernel⟩
theorem sc__law_user : FnScope ["source", "back"] ["source", "back"] (defScope s__law_user) := ⟨rfl, rfl, rfl, by decide +kernel, rfl, by decide +kernel, by decide +kernel⟩
theorem sc__law_arrow : FnScope ["source", "start", "goal", "longest", "ends", "least", "most"] ["source", "start", "goal", "longest", "ends"] (defScope s__law_arrow) := ⟨rfl, rfl, rfl, by decide +kernel, rfl, by decide +kernel, by decide +kernel⟩
theorem sc__law_plan : FnScope ["source", "many", "longest", "back", "ends", "nodes", "k", "arrows", "goal", "turn", "arrow", "onward", "other"] ["source", "many", "longest", "back", "ends"] (defScope s__law_plan) := ⟨rfl, rfl, rfl, by decide +kernel, rfl, by decide +kernel, by decide +kernel⟩
theorem sc_is_listed : FnScope ["value"] ["value"] (defScope s_is_listed) := ⟨rfl, rfl, rfl, by decide +kernel, rfl, by decide +kernel, by decide +kernel⟩
theorem sc_is_whole : FnScope ["value"] ["value"] (defScope s_is_whole) := ⟨rfl, rfl, rfl, by decide +kernel, rfl, by decide +kernel, by decide +kernel⟩
theorem sc_is_between : FnScope ["value", "low", "high"] ["value", "low", "high"] (defScope s_is_between) := ⟨rfl, rfl, rfl, by decide +kernel, rfl, by decide +kernel, by decide +kernel⟩
theorem sc_is_time : FnScope ["value"] ["value"] (defScope s_is_time) := ⟨rfl, rfl, rfl, by decide +kernel, rfl, by decide +kernel, by decide +kernel⟩
theorem sc_is_deed : FnScope ["value"] ["value"] (defScope s_is_deed) := ⟨rfl, rfl, rfl, by decide +kernel, rfl, by decide +kernel, by decide +kernel⟩
theorem sc_makes : FnScope ["value"] ["value"] (defScope s_makes) := ⟨rfl, rfl, rfl, by decide +kernel, rfl, by decide +kernel, by decide +kernel⟩
theorem sc_is_part_of : FnScope ["value", "words"] ["value", "words"] (defScope s_is_part_of) := ⟨rfl, rfl, rfl, by decide +kernel, rfl, by decide +kernel, by decide +kernel⟩
theorem sc_is_arrow : FnScope ["value", "nodes", "word"] ["value", "nodes"] (defScope s_is_arrow) := ⟨rfl, rfl, rfl, by decide +kernel, rfl, by decide +kernel, by decide +kernel⟩
theorem sc_reached_from : FnScope ["nodes", "arrows", "found", "turn", "start", "goal", "least", "most", "word", "node"] ["nodes", "arrows"] (defScope s_reached_from) := ⟨rfl, rfl, rfl, by decide +kernel, rfl, by decide +kernel, by decide +kernel⟩
theorem sc_Way___init__ : FnScope ["self", "nodes", "arrows", "index", "node", "found", "arrow", "is_reached", "other"] ["self", "nodes", "arrows"] (defScope s_Way___init__) := ⟨rfl, rfl, rfl, by decide +kernel, rfl, by decide +kernel, by decide +kernel⟩
theorem sc_Way_nodes : FnScope ["self"] ["self"] (defScope s_Way_nodes) := ⟨rfl, rfl, rfl, by decide +kernel, rfl, by decide +kernel, by decide +kernel⟩
theorem sc_Way_arrows : FnScope ["self"] ["self"] (defScope s_Way_arrows) := ⟨rfl, rfl, rfl, by decide +kernel, rfl, by decide +kernel, by decide +kernel⟩
theorem sc_Way___len__ : FnScope ["self"] ["self"] (defScope s_Way___len__) := ⟨rfl, rfl, rfl, by decide +kernel, rfl, by decide +kernel, by decide +kernel⟩
theorem sc_Way___getitem__ : FnScope ["self", "node"] ["self", "node"] (defScope s_Way___getitem__) := ⟨rfl, rfl, rfl, by decide +kernel, rfl, by decide +kernel, by decide +kernel⟩
theorem sc_Way_arrow : FnScope ["self", "start", "goal", "arrow"] ["self", "start", "goal"] (defScope s_Way_arrow) := ⟨rfl, rfl, rfl, by decide +kernel, rfl, by decide +kernel, by decide +kernel⟩
theorem sc_Way___eq__ : FnScope ["self", "other"] ["self", "other"] (defScope s_Way___eq__) := ⟨rfl, rfl, rfl, by decide +kernel, rfl, by decide +kernel, by decide +kernel⟩
theorem sc_law : FnScope ["script", "turn", "source", "nodes", "arrows", "some", "first", "second", "way", "told", "start", "goal", "due", "odd", "more", "bent", "arrow", "k"] ["script"] (defScope s_law) := ⟨rfl, rfl, rfl, by decide +kernel, rfl, by decide +kernel, by decide +kernel⟩
abbrev FnQ (K : PySem.W.Frag) (x q : Str) (st : Stmt) (f : Addr) (fd : FuncData) : Prop := FunD K x q (defArgs st) (defBody st) (defScope st) [] [] f fd
theorem Fcts.b_len {K : PySem.W.Frag} {mg : Str → Option Value} (V : Fcts faL K mg) : mg "len" = none := V.free 0 rfl
theorem Fcts.b_abs {K : PySem.W.Frag} {mg : Str → Option Value} (V : Fcts faL K mg) : mg "abs" = none := V.free 1 rfl
theorem Fcts.b_int {K : PySem.W.Frag} {mg : Str → Option Value} (V : Fcts faL K mg) : mg "int" = none := V.free 2 rfl
theorem Fcts.b_range {K : PySem.W.Frag} {mg : Str → Option Value} (V : Fcts faL K mg) : mg "range" = none := V.free 3 rfl
theorem Fcts.cf {K : PySem.W.Frag} {mg : Str → Option Value} (V : Fcts faL K mg) : ClF K clsL subC := V.clf 4 rfl
theorem Fcts.b_isinstance {K : PySem.W.Frag} {mg : Str → Option Value} (V : Fcts faL K mg) : mg "isinstance" = none := V.free 5 rfl
theorem Fcts.b_list {K : PySem.W.Frag} {mg : Str → Option Value} (V : Fcts faL K mg) : mg "list" = none := V.free 6 rfl
theorem Fcts.b_tuple {K : PySem.W.Frag} {mg : Str → Option Value} (V : Fcts faL K mg) : mg "tuple" = none := V.free 7 rfl
theorem Fcts.b_bool {K : PySem.W.Frag} {mg : Str → Option Value} (V : Fcts faL K mg) : mg "bool" = none := V.free 8 rfl
theorem Fcts.g_LONGEST {K : PySem.W.Frag} {mg : Str → Option Value} (V : Fcts faL K mg) : ∃ t, mg "LONGEST" = some (.int (1000000000) t) := V.int 9 rfl
theorem Fcts.b_str {K : PySem.W.Frag} {mg : Str → Option Value} (V : Fcts faL K mg) : mg "str" = none := V.free 10 rfl
theorem Fcts.g_PLAIN {K : PySem.W.Frag} {mg : Str → Option Value} (V : Fcts faL K mg) : mg "PLAIN" = some (.ref (He.ga K "PLAIN")) := V.glo 11 rfl
def d_PLAIN : D := .tup true [.str "make", .str "read", .str "write", .str "rename", .str "touch"]
theorem rep_PLAIN {K : PySem.W.Frag} {mg : Str → Option Value} (V : Fcts faL K mg) (B : Hp) : Rep K B d_PLAIN (.ref (He.ga K "PLAIN")) := V.tup (vs := ["make", "read", "write", "rename", "touch"]) 12 rfl B
theorem Fcts.g_WORDS {K : PySem.W.Frag} {mg : Str → Option Value} (V : Fcts faL K mg) : mg "WORDS" = some (.ref (He.ga K "WORDS")) := V.glo 13 rfl
def d_WORDS : D := .tup true [.str "", .str "held", .str "anew"]
theorem rep_WORDS {K : PySem.W.Frag} {mg : Str → Option Value} (V : Fcts faL K mg) (B : Hp) : Rep K B d_WORDS (.ref (He.ga K "WORDS")) := V.tup (vs := ["", "held", "anew"]) 14 rfl B
theorem Fcts.g_MOST_NODES {K : PySem.W.Frag} {mg : Str → Option Value} (V : Fcts faL K mg) : ∃ t, mg "MOST_NODES" = some (.int (12) t) := V.int 15 rfl
theorem Fcts.b_enumerate {K : PySem.W.Frag} {mg : Str → Option Value} (V : Fcts faL K mg) : mg "enumerate" = none := V.free 16 rfl
theorem Fcts.g_MOST_ARROWS {K : PySem.W.Frag} {mg : Str → Option Value} (V : Fcts faL K mg) : ∃ t, mg "MOST_ARROWS" = some (.int (40) t) := V.int 17 rfl
theorem Fcts.b_any {K : PySem.W.Frag} {mg : Str → Option Value} (V : Fcts faL K mg) : mg "any" = none := V.free 18 rfl
theorem Fcts.cl_Way {K : PySem.W.Frag} {mg : Str → Option Value} (V : Fcts faL K mg) : Cls K (He.ga K "Way") := V.cls 19 rfl
theorem Fcts.n_Way_own_nodes {K : PySem.W.Frag} {mg : Str → Option Value} (V : Fcts faL K mg) : NoAttr K (He.ga K "Way") "own_nodes" := V.noat 20 rfl
theorem Fcts.n_Way_own_arrows {K : PySem.W.Frag} {mg : Str → Option Value} (V : Fcts faL K mg) : NoAttr K (He.ga K "Way") "own_arrows" := V.noat 21 rfl
theorem Fcts.c_Way {K : PySem.W.Frag} {mg : Str → Option Value} (V : Fcts faL K mg) : mg "Way" = some (.ref (He.ga K "Way")) := V.glo 22 rfl
theorem Fcts.b_max {K : PySem.W.Frag} {mg : Str → Option Value} (V : Fcts faL K mg) : mg "max" = none := V.free 23 rfl
theorem Fcts.b_min {K : PySem.W.Frag} {mg : Str → Option Value} (V : Fcts faL K mg) : mg "min" = none := V.free 24 rfl
theorem Fcts.fi_Way {K : PySem.W.Frag} {mg : Str → Option Value} (V : Fcts faL K mg) : ∀ f, PySem.W.findIn K (.ref (He.ga K "Way")) "__getitem__" = some (some (.ref f)) → PySem.W.fnIn K f = true := V.fni 25 rfl
theorem Fcts.f_Way {K : PySem.W.Frag} {mg : Str → Option Value} (V : Fcts faL K mg) : PySem.W.notFirst K (He.ga K "Way") (.ref (He.ga K "Way")) = true := V.nof 26 rfl
theorem Fcts.ne_Way {K : PySem.W.Frag} {mg : Str → Option Value} (V : Fcts faL K mg) : PySem.W.findIn K (.ref (He.ga K "Way")) "__ne__" = some (some (.builtin "object.__ne__")) := V.ne 27 rfl
theorem Fcts.ob_Way {K : PySem.W.Frag} {mg : Str → Option Value} (V : Fcts faL K mg) : PySem.W.subIn K (.ref (He.ga K "Way")) (.type "object") = some true := V.ob 28 rfl
theorem Fcts.nt_Way_list {K : PySem.W.Frag} {mg : Str → Option Value} (V : Fcts faL K mg) : PySem.W.notFirst K (He.ga K "Way") (.type "list") = true := V.gen 29 rfl
theorem Fcts.no_Way {K : PySem.W.Frag} {mg : Str → Option Value} (V : Fcts faL K mg) : ∀ d ∈ clsL, PySem.W.notFirst K (He.ga K "Way") (.ref (He.ga K d)) = true := V.all 30 rfl
def m__law_source : FnT := fnM 3 ((xSeq (xSet 2 (xUp (xC (.int 0))))
    (xSeq (xKl [true] (xIf (xB (xFz (xPr pLt (xCons (xFz (xVar 1)) (xCons (xFz (xPr pLen (xCons (xFz (xVar 0)) xNil))) xNil))))) (xKl [true] (xSet 2 (xPr pIxL (xCons (xFz (xVar 0)) (xCons (xFz (xVar 1)) xNil))))) xNx))
    (xSeq (xKl [false, false, true] (xSet 3 (xPr pAbs (xCons (xFz (xVar 2)) xNil))))
    (xSeq (xKl [false, true] (xSet 4 (xPr pMod (xCons (xFz (xPr pInt (xCons (xFz (xPr pAdd (xCons (xFz (xPr pAdd (xCons (xFz (xPr pMul (xCons (xFz (xPr pMod (xCons (xFz (xPr pInt (xCons (xFz (xVar 3)) xNil))) (xCons (xC (.int 2147483629)) xNil)))) (xCons (xC (.int 16807)) xNil)))) (xCons (xFz (xPr pMul (xCons (xC (.int 104729)) (xCons (xFz (xVar 1)) xNil)))) xNil)))) (xCons (xC (.int 11)) xNil)))) xNil))) (xCons (xC (.int 2147483647)) xNil)))))
    (xSeq (xIf (xB (xFz (xPr pLt (xCons (xFz (xVar 3)) (xCons (xFz (xPr pPow (xCons (xC (.int 10)) (xCons (xC (.int 18)) xNil)))) xNil))))) (xSet 3 (xUp (xC (.int 0)))) xNx)
    (xRet (xPr pLst (xCons (xFz (xVar 3)) (xCons (xFz (xVar 4)) xNil))))))))))
theorem ok__law_source {P : Program} {w : World} {K : PySem.W.Frag} {mg : Str → Option Value} {base : Heap} {f : Addr} {fd : FuncData} (F : FnQ K "_law_source" "_law_source" s__law_source f fd) (V : Fcts faL K mg)  :
    FnOk P w K mg base CX0 1 f fd ["script", "turn"] (spM K 2 m__law_source) :=
  xdef F sc__law_source rfl fun _ _ _ _ _ _ hr => (xss_cons (xs_set (ps_set (i := 2) sc__law_source.nd rfl (Or.inl rfl) (xu (xe_c pe_int fun _ => rfl))))
    (xss_cons (xs_kl [true] (xs_if (xt_cmp op_lt ps_lt (xv (xe_var (pv 1))) (xv (xe_cb ps_len (pe_callB call_len_seq (by rfl) V.b_len (by decide +kernel) (xa_cons (xv (xe_var (pv 0))) xa_nil)))) (nomark _)) (xss_one (xs_kl [true] (xs_set (ps_set (i := 2) sc__law_source.nd rfl (Or.inl rfl) (xe_ix ix_list ps_ixL (xv (xe_var (pv 0))) (xv (xe_var (pv 1))) (fun _ _ => rfl)))))) xss_nil))
    (xss_cons (xs_kl [false, false, true] (xs_set (ps_set (i := 3) sc__law_source.nd rfl (Or.inl rfl) (xe_cb ps_abs (pe_callB call_abs (by rfl) V.b_abs (by decide +kernel) (xa_cons (xv (xe_var (pv 2))) xa_nil))))))
    (xss_cons (xs_kl [false, true] (xs_set (ps_set (i := 4) sc__law_source.nd rfl (Or.inl rfl) (xe_op op_mod ps_mod (xv (xe_cb ps_int (pe_callTy call_int1 (by rfl) V.b_int (by decide +kernel) (xa_cons (xv (xe_op op_add ps_add (xv (xe_op op_add ps_add (xv (xe_op op_mulW ps_mul (xv (xe_op op_mod ps_mod (xv (xe_cb ps_int (pe_callTy call_int1 (by rfl) V.b_int (by decide +kernel) (xa_cons (xv (xe_var (pv 3))) xa_nil)))) (xe_c pe_int fun _ => rfl))) (xe_c pe_int fun _ => rfl))) (xv (xe_op op_mulW ps_mul (xe_c pe_int fun _ => rfl) (xv (xe_var (pv 1))))))) (xe_c pe_int fun _ => rfl))) xa_nil)))) (xe_c pe_int fun _ => rfl)))))
    (xss_cons (xs_if (xt_cmp op_lt ps_lt (xv (xe_var (pv 3))) (xv (xe_op op_pow ps_pow (xe_c pe_int fun _ => rfl) (xe_c pe_int fun _ => rfl))) (nomark _)) (xss_one (xs_set (ps_set (i := 3) sc__law_source.nd rfl (Or.inl rfl) (xu (xe_c pe_int fun _ => rfl))))) xss_nil)
    (xss_one (xs_ret (xe_lst (xa_cons (xv (xe_var (pv 3))) (xa_cons (xv (xe_var (pv 4))) xa_nil))))))))))
def m__law_draw : FnT := fnM 2 ((xSeq (xIf (xBorT (xB (xFz (xPr pGt (xCons (xFz (xPr pIxL (xCons (xFz (xVar 0)) (xCons (xC (.int 0)) xNil)))) (xCons (xC (.int 0)) xNil)))))) (xSeq (xSet 2 (xBor (xPr pMod (xCons (xFz (xPr pInt (xCons (xFz (xPr pIxL (xCons (xFz (xVar 0)) (xCons (xC (.int 0)) xNil)))) xNil))) (xCons (xFz (xVar 1)) xNil)))))
    (xSeq (xPutP true Str.empty 0 none (qC (.int 0)) (xBorV (xFz (xPr pDiv (xCons (xFz (xPr pIxL (xCons (xFz (xVar 0)) (xCons (xC (.int 0)) xNil)))) (xCons (xFz (xVar 1)) xNil))))))
    (xRetV 2))) xNx)
    (xSeq (xPutP true Str.empty 0 none (qC (.int 1)) (xBorV (xFz (xPr pMod (xCons (xFz (xPr pInt (xCons (xFz (xPr pAdd (xCons (xFz (xPr pMul (xCons (xFz (xPr pIxL (xCons (xFz (xVar 0)) (xCons (xC (.int 1)) xNil)))) (xCons (xC (.int 48271)) xNil)))) (xCons (xC (.int 11)) xNil)))) xNil))) (xCons (xC (.int 2147483647)) xNil))))))
    (xSeq (xSet 3 (xBor (xPr pDiv (xCons (xFz (xPr pMod (xCons (xFz (xPr pInt (xCons (xFz (xPr pMul (xCons (xFz (xPr pIxL (xCons (xFz (xVar 0)) (xCons (xC (.int 1)) xNil)))) (xCons (xFz (xPr pIxL (xCons (xFz (xVar 0)) (xCons (xC (.int 1)) xNil)))) xNil)))) xNil))) (xCons (xC (.int 2147483629)) xNil)))) (xCons (xC (.int 64)) xNil)))))
    (xSeq (xIf (xB (xFz (xPr pGt (xCons (xFz (xVar 1)) (xCons (xFz (xPr pPow (xCons (xC (.int 10)) (xCons (xC (.int 7)) xNil)))) xNil))))) (xSeq (xPutP true Str.empty 0 none (qC (.int 1)) (xBorV (xFz (xPr pMod (xCons (xFz (xPr pInt (xCons (xFz (xPr pAdd (xCons (xFz (xPr pMul (xCons (xFz (xPr pIxL (xCons (xFz (xVar 0)) (xCons (xC (.int 1)) xNil)))) (xCons (xC (.int 39373)) xNil)))) (xCons (xC (.int 17)) xNil)))) xNil))) (xCons (xC (.int 2147483647)) xNil))))))
    (xSet 3 (xBor (xPr pAdd (xCons (xFz (xPr pMul (xCons (xFz (xVar 3)) (xCons (xC (.int 33554393)) xNil)))) (xCons (xFz (xPr pDiv (xCons (xFz (xPr pMod (xCons (xFz (xPr pInt (xCons (xFz (xPr pMul (xCons (xFz (xPr pIxL (xCons (xFz (xVar 0)) (xCons (xC (.int 1)) xNil)))) (xCons (xFz (xPr pIxL (xCons (xFz (xVar 0)) (xCons (xC (.int 1)) xNil)))) xNil)))) xNil))) (xCons (xC (.int 2147483629)) xNil)))) (xCons (xC (.int 64)) xNil)))) xNil)))))) xNx)
    (xRet (xPr pMod (xCons (xFz (xPr pInt (xCons (xFz (xVar 3)) xNil))) (xCons (xFz (xVar 1)) xNil)))))))))
theorem ok__law_draw {P : Program} {w : World} {K : PySem.W.Frag} {mg : Str → Option Value} {base : Heap} {f : Addr} {fd : FuncData} (F : FnQ K "_law_draw" "_law_draw" s__law_draw f fd) (V : Fcts faL K mg)  :
    FnOk P w K mg base CX0 1 f fd ["source", "amount"] (spM K 2 m__law_draw) :=
  xdef F sc__law_draw rfl fun _ _ _ _ _ _ hr => (xss_cons (xs_if (xt_bor (xt_cmp op_gt ps_gt (xv (xe_ix ix_list ps_ixL (xv (xe_var (pv 0))) (xe_c pe_int fun _ => rfl) (fun _ _ => rfl))) (xe_c pe_int fun _ => rfl) (nomark _))) (xss_cons (xs_set (ps_set (i := 2) sc__law_draw.nd rfl (Or.inl rfl) (xe_bor (xe_op op_mod ps_mod (xv (xe_cb ps_int (pe_callTy call_int1 (by rfl) V.b_int (by decide +kernel) (xa_cons (xv (xe_ix ix_list ps_ixL (xv (xe_var (pv 0))) (xe_c pe_int fun _ => rfl) (fun _ _ => rfl))) xa_nil)))) (xv (xe_var (pv 1)))))))
    (xss_cons (xs_putL (c := Str.empty) (fo := none) (show PathC K Str.empty none from trivial) (ps_asg (xe_borV (xv (xe_op op_fdivW ps_div (xv (xe_ix ix_list ps_ixL (xv (xe_var (pv 0))) (xe_c pe_int fun _ => rfl) (fun _ _ => rfl))) (xv (xe_var (pv 1)))))) (pg_sub (pv 0) (xq_c pe_int fun _ => rfl) set_list)))
    (xss_one (xs_retV (pv 2))))) xss_nil)
    (xss_cons (xs_putL (c := Str.empty) (fo := none) (show PathC K Str.empty none from trivial) (ps_asg (xe_borV (xv (xe_op op_mod ps_mod (xv (xe_cb ps_int (pe_callTy call_int1 (by rfl) V.b_int (by decide +kernel) (xa_cons (xv (xe_op op_add ps_add (xv (xe_op op_mulW ps_mul (xv (xe_ix ix_list ps_ixL (xv (xe_var (pv 0))) (xe_c pe_int fun _ => rfl) (fun _ _ => rfl))) (xe_c pe_int fun _ => rfl))) (xe_c pe_int fun _ => rfl))) xa_nil)))) (xe_c pe_int fun _ => rfl)))) (pg_sub (pv 0) (xq_c pe_int fun _ => rfl) set_list)))
    (xss_cons (xs_set (ps_set (i := 3) sc__law_draw.nd rfl (Or.inl rfl) (xe_bor (xe_op op_fdivW ps_div (xv (xe_op op_mod ps_mod (xv (xe_cb ps_int (pe_callTy call_int1 (by rfl) V.b_int (by decide +kernel) (xa_cons (xv (xe_op op_mulW ps_mul (xv (xe_ix ix_list ps_ixL (xv (xe_var (pv 0))) (xe_c pe_int fun _ => rfl) (fun _ _ => rfl))) (xv (xe_ix ix_list ps_ixL (xv (xe_var (pv 0))) (xe_c pe_int fun _ => rfl) (fun _ _ => rfl))))) xa_nil)))) (xe_c pe_int fun _ => rfl))) (xe_c pe_int fun _ => rfl)))))
    (xss_cons (xs_if (xt_cmp op_gt ps_gt (xv (xe_var (pv 1))) (xv (xe_op op_pow ps_pow (xe_c pe_int fun _ => rfl) (xe_c pe_int fun _ => rfl))) (nomark _)) (xss_cons (xs_putL (c := Str.empty) (fo := none) (show PathC K Str.empty none from trivial) (ps_asg (xe_borV (xv (xe_op op_mod ps_mod (xv (xe_cb ps_int (pe_callTy call_int1 (by rfl) V.b_int (by decide +kernel) (xa_cons (xv (xe_op op_add ps_add (xv (xe_op op_mulW ps_mul (xv (xe_ix ix_list ps_ixL (xv (xe_var (pv 0))) (xe_c pe_int fun _ => rfl) (fun _ _ => rfl))) (xe_c pe_int fun _ => rfl))) (xe_c pe_int fun _ => rfl))) xa_nil)))) (xe_c pe_int fun _ => rfl)))) (pg_sub (pv 0) (xq_c pe_int fun _ => rfl) set_list)))
    (xss_one (xs_set (ps_set (i := 3) sc__law_draw.nd rfl (Or.inl rfl) (xe_bor (xe_op op_add ps_add (xv (xe_op op_mulW ps_mul (xv (xe_var (pv 3))) (xe_c pe_int fun _ => rfl))) (xv (xe_op op_fdivW ps_div (xv (xe_op op_mod ps_mod (xv (xe_cb ps_int (pe_callTy call_int1 (by rfl) V.b_int (by decide +kernel) (xa_cons (xv (xe_op op_mulW ps_mul (xv (xe_ix ix_list ps_ixL (xv (xe_var (pv 0))) (xe_c pe_int fun _ => rfl) (fun _ _ => rfl))) (xv (xe_ix ix_list ps_ixL (xv (xe_var (pv 0))) (xe_c pe_int fun _ => rfl) (fun _ _ => rfl))))) xa_nil)))) (xe_c pe_int fun _ => rfl))) (xe_c pe_int fun _ => rfl))))))))) xss_nil)
    (xss_one (xs_ret (xe_op op_mod ps_mod (xv (xe_cb ps_int (pe_callTy call_int1 (by rfl) V.b_int (by decide +kernel) (xa_cons (xv (xe_var (pv 3))) xa_nil)))) (xv (xe_var (pv 1))))))))))
def m__law_pick : FnT := fnM 0 ((xRet (xPr pIxL (xCons (xFz (xVar 1)) (xCons (xFz (xCallM 2 0 m__law_draw (xCons (xFz (xPr pLen (xCons (xFz (xVar 1)) xNil))) xNil))) xNil)))))
theorem ok__law_pick {P : Program} {w : World} {K : PySem.W.Frag} {mg : Str → Option Value} {base : Heap} {f : Addr} {fd : FuncData} (F : FnQ K "_law_pick" "_law_pick" s__law_pick f fd) (V : Fcts faL K mg) (c__law_draw : Fn P w K mg base "_law_draw" ["source", "amount"] CX0 1 (spM K 2 m__law_draw)) :
    FnOk P w K mg base CX0 2 f fd ["source", "items"] (spM K 2 m__law_pick) :=
  xdef F sc__law_pick rfl fun _ _ _ _ _ _ hr => (xss_one (xs_ret (xe_ix ix_list ps_ixL (xv (xe_var (pv 1))) (xv (xe_fnM (pe_fn c__law_draw hr pass0 (pa_cons (pv 0) (xa_cons (xv (xe_cb ps_len (pe_callB call_len_seq (by rfl) V.b_len (by decide +kernel) (xa_cons (xv (xe_var (pv 1))) xa_nil)))) xa_nil))))) (fun _ _ => rfl))))
def m__law_maker : FnT := fnM 0 ((xRet (xCallM 2 0 m__law_pick (xCons (xFz (xPr pLst (xCons (xFz (xPr pTup (xCons (xC (.str "make")) xNil))) (xCons (xFz (xPr pTup (xCons (xC (.str "make")) xNil))) (xCons (xFz (xPr pTup (xCons (xC (.str "unpack")) (xCons (xFz (xPr pAdd (xCons (xC (.int 1)) (xCons (xFz (xCallM 2 0 m__law_draw (xCons (xFz (xVar 1)) xNil))) xNil)))) xNil)))) xNil))))) xNil))))
theorem ok__law_maker {P : Program} {w : World} {K : PySem.W.Frag} {mg : Str → Option Value} {base : Heap} {f : Addr} {fd : FuncData} (F : FnQ K "_law_maker" "_law_maker" s__law_maker f fd) (V : Fcts faL K mg) (c__law_draw : Fn P w K mg base "_law_draw" ["source", "amount"] CX0 1 (spM K 2 m__law_draw)) (c__law_pick : Fn P w K mg base "_law_pick" ["source", "items"] CX0 2 (spM K 2 m__law_pick)) :
    FnOk P w K mg base CX0 3 f fd ["source", "back"] (spM K 2 m__law_maker) :=
  xdef F sc__law_maker rfl fun _ _ _ _ _ _ hr => (xss_one (xs_ret (xe_fnM (pe_fn c__law_pick hr pass0 (pa_cons (pv 0) (xa_cons (xv (xe_lst (xa_cons (xv (xe_tup (xa_cons (xe_c pe_str fun _ => rfl) xa_nil))) (xa_cons (xv (xe_tup (xa_cons (xe_c pe_str fun _ => rfl) xa_nil))) (xa_cons (xv (xe_tup (xa_cons (xe_c pe_str fun _ => rfl) (xa_cons (xv (xe_op op_add ps_add (xe_c pe_int fun _ => rfl) (xv (xe_fnM (pe_fn c__law_draw hr pass0 (pa_cons (pv 0) (xa_cons (xv (xe_var (pv 1))) xa_nil))))))) xa_nil)))) xa_nil))))) xa_nil))))))
def m__law_user : FnT := fnM 0 ((xRet (xCallM 2 0 m__law_pick (xCons (xFz (xPr pLst (xCons (xFz (xPr pTup (xCons (xC (.str "read")) xNil))) (xCons (xFz (xPr pTup (xCons (xC (.str "read")) xNil))) (xCons (xFz (xPr pTup (xCons (xC (.str "read")) xNil))) (xCons (xFz (xPr pTup (xCons (xC (.str "write")) xNil))) (xCons (xFz (xPr pTup (xCons (xC (.str "rename")) xNil))) (xCons (xFz (xPr pTup (xCons (xC (.str "touch")) xNil))) (xCons (xFz (xPr pTup (xCons (xC (.str "setback")) (xCons (xFz (xPr pAdd (xCons (xC (.int 1)) (xCons (xFz (xCallM 2 0 m__law_draw (xCons (xFz (xVar 1)) xNil))) xNil)))) xNil)))) xNil))))))))) xNil))))
theorem ok__law_user {P : Program} {w : World} {K : PySem.W.Frag} {mg : Str → Option Value} {base : Heap} {f : Addr} {fd : FuncData} (F : FnQ K "_law_user" "_law_user" s__law_user f fd) (V : Fcts faL K mg) (c__law_draw : Fn P w K mg base "_law_draw" ["source", "amount"] CX0 1 (spM K 2 m__law_draw)) (c__law_pick : Fn P w K mg base "_law_pick" ["source", "items"] CX0 2 (spM K 2 m__law_pick)) :
    FnOk P w K mg base CX0 3 f fd ["source", "back"] (spM K 2 m__law_user) :=
  xdef F sc__law_user rfl fun _ _ _ _ _ _ hr => (xss_one (xs_ret (xe_fnM (pe_fn c__law_pick hr pass0 (pa_cons (pv 0) (xa_cons (xv (xe_lst (xa_cons (xv (xe_tup (xa_cons (xe_c pe_str fun _ => rfl) xa_nil))) (xa_cons (xv (xe_tup (xa_cons (xe_c pe_str fun _ => rfl) xa_nil))) (xa_cons (xv (xe_tup (xa_cons (xe_c pe_str fun _ => rfl) xa_nil))) (xa_cons (xv (xe_tup (xa_cons (xe_c pe_str fun _ => rfl) xa_nil))) (xa_cons (xv (xe_tup (xa_cons (xe_c pe_str fun _ => rfl) xa_nil))) (xa_cons (xv (xe_tup (xa_cons (xe_c pe_str fun _ => rfl) xa_nil))) (xa_cons (xv (xe_tup (xa_cons (xe_c pe_str fun _ => rfl) (xa_cons (xv (xe_op op_add ps_add (xe_c pe_int fun _ => rfl) (xv (xe_fnM (pe_fn c__law_draw hr pass0 (pa_cons (pv 0) (xa_cons (xv (xe_var (pv 1))) xa_nil))))))) xa_nil)))) xa_nil))))))))) xa_nil))))))
def m__law_arrow : FnT := fnM 2 ((xSeq (xSet 5 (xPr pAdd (xCons (xC (.int 1)) (xCons (xFz (xCallM 2 0 m__law_draw (xCons (xFz (xVar 3)) xNil))) xNil))))
    (xSeq (xSet 6 (xPr pAdd (xCons (xFz (xVar 5)) (xCons (xFz (xCallM 2 0 m__law_draw (xCons (xFz (xVar 3)) xNil))) xNil))))
    (xSeq (xIf (xAnd (xB (xFz (xVar 4))) (xB (xFz (xPr pEq (xCons (xFz (xCallM 2 0 m__law_draw (xCons (xC (.int 8)) xNil))) (xCons (xC (.int 0)) xNil)))))) (xSet 6 (xUp (xC .non))) xNx)
    (xRet (xPr pTup (xCons (xFz (xVar 1)) (xCons (xFz (xVar 2)) (xCons (xFz (xVar 5)) (xCons (xFz (xVar 6)) (xCons (xFz (xCallM 2 0 m__law_pick (xCons (xFz (xPr pLst (xCons (xC (.str "")) (xCons (xC (.str "")) (xCons (xC (.str "held")) xNil))))) xNil))) xNil)))))))))))
theorem ok__law_arrow {P : Program} {w : World} {K : PySem.W.Frag} {mg : Str → Option Value} {base : Heap} {f : Addr} {fd : FuncData} (F : FnQ K "_law_arrow" "_law_arrow" s__law_arrow f fd) (V : Fcts faL K mg) (c__law_draw : Fn P w K mg base "_law_draw" ["source", "amount"] CX0 1 (spM K 2 m__law_draw)) (c__law_pick : Fn P w K mg base "_law_pick" ["source", "items"] CX0 2 (spM K 2 m__law_pick)) :
    FnOk P w K mg base CX0 3 f fd ["source", "start", "goal", "longest", "ends"] (spM K 5 m__law_arrow) :=
  xdef F sc__law_arrow rfl fun _ _ _ _ _ _ hr => (xss_cons (xs_set (ps_set (i := 5) sc__law_arrow.nd rfl (Or.inl rfl) (xe_op op_add ps_add (xe_c pe_int fun _ => rfl) (xv (xe_fnM (pe_fn c__law_draw hr pass0 (pa_cons (pv 0) (xa_cons (xv (xe_var (pv 3))) xa_nil))))))))
    (xss_cons (xs_set (ps_set (i := 6) sc__law_arrow.nd rfl (Or.inl rfl) (xe_op op_add ps_add (xv (xe_var (pv 5))) (xv (xe_fnM (pe_fn c__law_draw hr pass0 (pa_cons (pv 0) (xa_cons (xv (xe_var (pv 3))) xa_nil))))))))
    (xss_cons (xs_if (PW.pt (xw_and (xt_val (xv (xe_var (pv 4)))) (pw_and1 (xt_cmp (op_eqD hr.units) ps_eq (xv (xe_fnM (pe_fn c__law_draw hr pass0 (pa_cons (pv 0) (xa_cons (xe_c pe_int fun _ => rfl) xa_nil))))) (xe_c pe_int fun _ => rfl) (nomark _))))) (xss_one (xs_set (ps_set (i := 6) sc__law_arrow.nd rfl (Or.inl rfl) (xu (xe_c pe_non fun _ => rfl))))) xss_nil)
    (xss_one (xs_ret (xe_tup (xa_cons (xv (xe_var (pv 1))) (xa_cons (xv (xe_var (pv 2))) (xa_cons (xv (xe_var (pv 5))) (xa_cons (xv (xe_var (pv 6))) (xa_cons (xv (xe_fnM (pe_fn c__law_pick hr pass0 (pa_cons (pv 0) (xa_cons (xv (xe_lst (xa_cons (xe_c pe_str fun _ => rfl) (xa_cons (xe_c pe_str fun _ => rfl) (xa_cons (xe_c pe_str fun _ => rfl) xa_nil))))) xa_nil))))) xa_nil)))))))))))
def m__law_plan : FnT := fnM 8 ((xSeq (xSet 5 (xPr pLst (xCons (xFz (xCallM 2 0 m__law_maker (xCons (xFz (xVar 3)) xNil))) xNil)))
    (xSeq (xFor (xItR2 (xCons (xC (.int 1)) (xCons (xFz (xVar 1)) xNil))) (gNm 6) (xDrop (xApp 5 (xFz (xIfE (xAnd (xB (xFz (xPr pEq (xCons (xFz (xVar 6)) (xCons (xC (.int 2)) xNil))))) (xB (xFz (xPr pEq (xCons (xFz (xCallM 2 0 m__law_draw (xCons (xC (.int 4)) xNil))) (xCons (xC (.int 0)) xNil)))))) (xCallM 2 0 m__law_maker (xCons (xFz (xVar 3)) xNil)) (xCallM 2 0 m__law_user (xCons (xFz (xVar 3)) xNil)))))))
    (xSeq (xSet 7 (xPr pLst xNil))
    (xSeq (xFor (xItR2 (xCons (xC (.int 1)) (xCons (xFz (xVar 1)) xNil))) (gNm 8) (xIf (xB (xFz (xPr pNinT (xCons (xFz (xPr pIxT (xCons (xFz (xPr pIxL (xCons (xFz (xVar 5)) (xCons (xFz (xVar 8)) xNil)))) (xCons (xC (.int 0)) xNil)))) (xCons (xFz (xPr pTup (xCons (xC (.str "make")) (xCons (xC (.str "unpack")) xNil)))) xNil))))) (xDrop (xApp 7 (xFz (xCallM 5 0 m__law_arrow (xCons (xFz (xCallM 2 0 m__law_draw (xCons (xFz (xVar 8)) xNil))) (xCons (xFz (xVar 8)) (xCons (xFz (xVar 2)) (xCons (xFz (xVar 4)) xNil)))))))) xNx))
    (xSeq (xFor (xItR1 (xCons (xFz (xCallM 2 0 m__law_draw (xCons (xFz (xPr pAdd (xCons (xFz (xPr pMul (xCons (xC (.int 2)) (xCons (xFz (xVar 1)) xNil)))) (xCons (xC (.int 1)) xNil)))) xNil))) xNil)) (gNm 9) (xSeq (xSet 10 (xCallM 5 0 m__law_arrow (xCons (xFz (xCallM 2 0 m__law_draw (xCons (xFz (xVar 1)) xNil))) (xCons (xFz (xCallM 2 0 m__law_draw (xCons (xFz (xVar 1)) xNil))) (xCons (xFz (xVar 2)) (xCons (xFz (xVar 4)) xNil))))))
    (xSeq (xSet 11 (xBor (xLc [12] (xItL (xFz (xVar 7))) (gNm 12) (xAnd (xB (xFz (xPr pEq (xCons (xFz (xPr pIxT (xCons (xFz (xVar 12)) (xCons (xC (.int 0)) xNil)))) (xCons (xFz (xPr pIxT (xCons (xFz (xVar 10)) (xCons (xC (.int 1)) xNil)))) xNil))))) (xB (xFz (xPr pNe (xCons (xFz (xPr pIxT (xCons (xFz (xVar 12)) (xCons (xC (.int 4)) xNil)))) (xCons (xC (.str "anew")) xNil)))))) (xFz (xVar 12)))))
    (xSeq (xIf (xB (xFz (xPr pInT (xCons (xFz (xPr pIxT (xCons (xFz (xPr pIxL (xCons (xFz (xVar 5)) (xCons (xFz (xPr pIxT (xCons (xFz (xVar 10)) (xCons (xC (.int 1)) xNil)))) xNil)))) (xCons (xC (.int 0)) xNil)))) (xCons (xFz (xPr pTup (xCons (xC (.str "make")) (xCons (xC (.str "unpack")) xNil)))) xNil))))) (xSet 10 (xPr pCatT (xCons (xFz (xSl pSlT (xFz (xVar 10)) none (some (xC (.int 4))))) (xCons (xFz (xPr pTup (xCons (xC (.str "anew")) xNil))) xNil)))) xNx)
    (xIf (xBorT (xAnd (xB (xFz (xPr pNin (xCons (xFz (xSl pSlT (xFz (xVar 10)) none (some (xC (.int 2))))) (xCons (xFz (xLc [12] (xItL (xFz (xVar 7))) (gNm 12) xYes (xFz (xSl pSlT (xFz (xVar 12)) none (some (xC (.int 2))))))) xNil))))) (xOr (xB (xFz (xPr pNe (xCons (xFz (xPr pIxT (xCons (xFz (xVar 10)) (xCons (xC (.int 4)) xNil)))) (xCons (xC (.str "anew")) xNil))))) (xB (xFz (xPr pNe (xCons (xFz (xVar 11)) (xCons (xFz (xPr pLst xNil)) xNil)))))))) (xDrop (xApp 7 (xFz (xVar 10)))) xNx)))))
    (xRet (xPr pTup (xCons (xFz (xVar 5)) (xCons (xFz (xVar 7)) xNil))))))))))
theorem ok__law_plan {P : Program} {w : World} {K : PySem.W.Frag} {mg : Str → Option Value} {base : Heap} {f : Addr} {fd : FuncData} (F : FnQ K "_law_plan" "_law_plan" s__law_plan f fd) (V : Fcts faL K mg) (c__law_maker : Fn P w K mg base "_law_maker" ["source", "back"] CX0 3 (spM K 2 m__law_maker)) (c__law_draw : Fn P w K mg base "_law_draw" ["source", "amount"] CX0 1 (spM K 2 m__law_draw)) (c__law_user : Fn P w K mg base "_law_user" ["source", "back"] CX0 3 (spM K 2 m__law_user)) (c__law_arrow : Fn P w K mg base "_law_arrow" ["source", "start", "goal", "longest", "ends"] CX0 3 (spM K 5 m__law_arrow)) :
    FnOk P w K mg base CX0 4 f fd ["source", "many", "longest", "back", "ends"] (spM K 5 m__law_plan) :=
  xdef F sc__law_plan rfl fun _ _ _ _ _ _ hr => (xss_cons (xs_set (ps_set (i := 5) sc__law_plan.nd rfl (Or.inl rfl) (xe_lst (xa_cons (xv (xe_fnM (pe_fn c__law_maker hr pass0 (pa_cons (pv 0) (xa_cons (xv (xe_var (pv 3))) xa_nil))))) xa_nil))))
    (xss_cons (xs_for (ps_for PassesOwn.never rfl (xi_r2 (pi_range2 (by rfl) V.b_range (xa_cons (xe_c pe_int fun _ => rfl) (xa_cons (xv (xe_var (pv 1))) xa_nil)))) (xg_name (pg_name (i := 6) sc__law_plan.nd rfl (Or.inl rfl))) (xss_one (xs_drop (ps_expr (xe_app (pe_bm PySem.F.plainAttrs_list PySem.F.slot_list_append PySem.F.type_list_append mt_append (pv 5) (pa_cons (xv (xe_if (PW.pt (xw_and (xt_cmp (op_eqD hr.units) ps_eq (xv (xe_var (pv 6))) (xe_c pe_int fun _ => rfl) (nomark _)) (pw_and1 (xt_cmp (op_eqD hr.units) ps_eq (xv (xe_fnM (pe_fn c__law_draw hr pass0 (pa_cons (pv 0) (xa_cons (xe_c pe_int fun _ => rfl) xa_nil))))) (xe_c pe_int fun _ => rfl) (nomark _))))) (xe_fnM (pe_fn c__law_maker hr pass0 (pa_cons (pv 0) (xa_cons (xv (xe_var (pv 3))) xa_nil)))) (xe_fnM (pe_fn c__law_user hr pass0 (pa_cons (pv 0) (xa_cons (xv (xe_var (pv 3))) xa_nil)))))) pa_nil))))))))
    (xss_cons (xs_set (ps_set (i := 7) sc__law_plan.nd rfl (Or.inl rfl) (xe_lst xa_nil)))
    (xss_cons (xs_for (ps_for PassesOwn.never rfl (xi_r2 (pi_range2 (by rfl) V.b_range (xa_cons (xe_c pe_int fun _ => rfl) (xa_cons (xv (xe_var (pv 1))) xa_nil)))) (xg_name (pg_name (i := 8) sc__law_plan.nd rfl (Or.inl rfl))) (xss_one (xs_if (xt_cmp op_notIn_seq ps_ninT (xv (xe_ix ix_tup ps_ixT (xv (xe_ix ix_list ps_ixL (xv (xe_var (pv 5))) (xv (xe_var (pv 8))) (fun _ _ => rfl))) (xe_c pe_int fun _ => rfl) (fun _ _ => rfl))) (xv (xe_tup (xa_cons (xe_c pe_str fun _ => rfl) (xa_cons (xe_c pe_str fun _ => rfl) xa_nil)))) (by rfl)) (xss_one (xs_drop (ps_expr (xe_app (pe_bm PySem.F.plainAttrs_list PySem.F.slot_list_append PySem.F.type_list_append mt_append (pv 7) (pa_cons (xv (xe_fnM (pe_fn c__law_arrow hr pass0 (pa_cons (pv 0) (xa_cons (xv (xe_fnM (pe_fn c__law_draw hr pass0 (pa_cons (pv 0) (xa_cons (xv (xe_var (pv 8))) xa_nil))))) (xa_cons (xv (xe_var (pv 8))) (xa_cons (xv (xe_var (pv 2))) (xa_cons (xv (xe_var (pv 4))) xa_nil)))))))) pa_nil)))))) xss_nil))))
    (xss_cons (xs_for (ps_for PassesOwn.never rfl (xi_r1 (pi_range1 (by rfl) V.b_range (xa_cons (xv (xe_fnM (pe_fn c__law_draw hr pass0 (pa_cons (pv 0) (xa_cons (xv (xe_op op_add ps_add (xv (xe_op op_mulW ps_mul (xe_c pe_int fun _ => rfl) (xv (xe_var (pv 1))))) (xe_c pe_int fun _ => rfl))) xa_nil))))) xa_nil))) (xg_name (pg_name (i := 9) sc__law_plan.nd rfl (Or.inl rfl))) (xss_cons (xs_set (ps_set (i := 10) sc__law_plan.nd rfl (Or.inr rfl) (xe_fnM (pe_fn c__law_arrow hr pass0 (pa_cons (pv 0) (xa_cons (xv (xe_fnM (pe_fn c__law_draw hr pass0 (pa_cons (pv 0) (xa_cons (xv (xe_var (pv 1))) xa_nil))))) (xa_cons (xv (xe_fnM (pe_fn c__law_draw hr pass0 (pa_cons (pv 0) (xa_cons (xv (xe_var (pv 1))) xa_nil))))) (xa_cons (xv (xe_var (pv 2))) (xa_cons (xv (xe_var (pv 4))) xa_nil)))))))))
    (xss_cons (xs_setLcB (vs := [12]) (g := (gName 12)) (gD := (gNm 12)) (go_name (by decide)) (ps_setLc (i := 11) (own := [("other", 12)]) (g := (gName 12)) (tt := rdT K (xAnd (xB (xFz (xPr pEq (xCons (xFz (xPr pIxT (xCons (xFz (xVar 12)) (xCons (xC (.int 0)) xNil)))) (xCons (xFz (xPr pIxT (xCons (xFz (xVar 10)) (xCons (xC (.int 1)) xNil)))) xNil))))) (xB (xFz (xPr pNe (xCons (xFz (xPr pIxT (xCons (xFz (xVar 12)) (xCons (xC (.int 4)) xNil)))) (xCons (xC (.str "anew")) xNil))))))) (te := rdV K (xFz (xVar 12))) (by rfl) sc__law_plan.nd rfl rfl (sw_true rfl rfl rfl (by decide +kernel)) (xi_list (pi_list (xv (xe_var (pv 7))))) (blkOk_by (own := [("other", 12)]) (N := ["source", "many", "longest", "back", "ends", "nodes", "k", "arrows", "goal", "turn", "arrow", "onward", "other"]) (sc := defScope s__law_plan) (by decide +kernel)) (fun _ _ _ _ _ => (pg_name (i := 12) sc__law_plan.nd rfl (Or.inl rfl))) (fun _ _ _ _ _ => (pts_one (PW.pt (xw_and (xt_cmp (op_eqD hr.units) ps_eq (xv (xe_ix ix_tup ps_ixT (xv (xe_var (pv 12))) (xe_c pe_int fun _ => rfl) (fun _ _ => rfl))) (xv (xe_ix ix_tup ps_ixT (xv (xe_var (pv 10))) (xe_c pe_int fun _ => rfl) (fun _ _ => rfl))) (nomark _)) (pw_and1 (xt_cmp (op_neD hr.units) ps_ne (xv (xe_ix ix_tup ps_ixT (xv (xe_var (pv 12))) (xe_c pe_int fun _ => rfl) (fun _ _ => rfl))) (xe_c pe_str fun _ => rfl) (nomark _))))))) (fun _ _ _ _ _ => (xv (xe_var (pv 12))))))
    (xss_cons (xs_if (xt_cmp op_in_seq ps_inT (xv (xe_ix ix_tup ps_ixT (xv (xe_ix ix_list ps_ixL (xv (xe_var (pv 5))) (xv (xe_ix ix_tup ps_ixT (xv (xe_var (pv 10))) (xe_c pe_int fun _ => rfl) (fun _ _ => rfl))) (fun _ _ => rfl))) (xe_c pe_int fun _ => rfl) (fun _ _ => rfl))) (xv (xe_tup (xa_cons (xe_c pe_str fun _ => rfl) (xa_cons (xe_c pe_str fun _ => rfl) xa_nil)))) (by rfl)) (xss_one (xs_set (ps_set (i := 10) sc__law_plan.nd rfl (Or.inr rfl) (xe_op op_catA ps_catT (xv (xe_sl (lo := none) (hi := (some (xC (.int 4)))) ps_slT (pe_slice sl_tupA (xv (xe_var (pv 10))) po_none (po_some (xe_c pe_int fun _ => rfl))))) (xv (xe_tup (xa_cons (xe_c pe_str fun _ => rfl) xa_nil))))))) xss_nil)
    (xss_one (xs_if (xt_bor (PW.pt (xw_and (xt_cmp (op_notInD (room65 hr)) ps_nin (xv (xe_sl (lo := none) (hi := (some (xC (.int 2)))) ps_slT (pe_slice sl_tupA (xv (xe_var (pv 10))) po_none (po_some (xe_c pe_int fun _ => rfl))))) (xv (xe_lc (vs := [12]) (g := (gName 12)) (gD := (gNm 12)) (go_name (by decide)) (pe_lc (own := [("other", 12)]) (g := (gName 12)) (tt := rdT K xYes) (te := rdV K (xFz (xSl pSlT (xFz (xVar 12)) none (some (xC (.int 2)))))) (by rfl) sc__law_plan.nd  (xi_list (pi_list (xv (xe_var (pv 7))))) (blkOk_by (own := [("other", 12)]) (N := ["source", "many", "longest", "back", "ends", "nodes", "k", "arrows", "goal", "turn", "arrow", "onward", "other"]) (sc := defScope s__law_plan) (by decide +kernel)) (fun _ _ _ _ _ => (pg_name (i := 12) sc__law_plan.nd rfl (Or.inl rfl))) (fun _ _ _ _ _ => xts_nil) (fun _ _ _ _ _ => (xv (xe_sl (lo := none) (hi := (some (xC (.int 2)))) ps_slT (pe_slice sl_tupA (xv (xe_var (pv 12))) po_none (po_some (xe_c pe_int fun _ => rfl))))))))) (by rfl)) (pw_and1 (PW.pt (xw_or (xt_cmp (op_neD hr.units) ps_ne (xv (xe_ix ix_tup ps_ixT (xv (xe_var (pv 10))) (xe_c pe_int fun _ => rfl) (fun _ _ => rfl))) (xe_c pe_str fun _ => rfl) (nomark _)) (pw_or1 (xt_cmp (op_neD hr.units) ps_ne (xv (xe_var (pv 11))) (xv (xe_lst xa_nil)) (nomark _))))))))) (xss_one (xs_drop (ps_expr (xe_app (pe_bm PySem.F.plainAttrs_list PySem.F.slot_list_append PySem.F.type_list_append mt_append (pv 7) (pa_cons (xv (xe_var (pv 10))) pa_nil)))))) xss_nil)))))))
    (xss_one (xs_ret (xe_tup (xa_cons (xv (xe_var (pv 5))) (xa_cons (xv (xe_var (pv 7))) xa_nil))))))))))
def m_is_listed : FnT := fnM 0 ((xRet (xUp (xIsi2 clsL subC (.b "list") (.b "tuple") (xFz (xVar 0))))))
theorem ok_is_listed {P : Program} {w : World} {K : PySem.W.Frag} {mg : Str → Option Value} {base : Heap} {f : Addr} {fd : FuncData} (F : FnQ K "is_listed" "is_listed" s_is_listed f fd) (V : Fcts faL K mg)  :
    FnOk P w K mg base CX0 1 f fd ["value"] (spM K 1 m_is_listed) :=
  xdef F sc_is_listed rfl fun _ _ _ _ _ _ hr => (xss_one (xs_ret (xu (xe_isi2 (T := (.b "list")) (U := (.b "tuple")) V.cf (pe_callB call_isiT (by rfl) V.b_isinstance (by decide +kernel) (pa_cons (xv (xe_var (pv 0))) (pa_cons (pe_tup (pa_cons (pe_ty "list" (by rfl) V.b_list (by decide +kernel)) (pa_cons (pe_ty "tuple" (by rfl) V.b_tuple (by decide +kernel)) pa_nil))) pa_nil)))))))
def m_is_whole : FnT := fnM 0 ((xRet (xUp (xAndV (xIsi clsL subC (.b "int") (xFz (xVar 0))) (xOfB (xNot (xB (xIsi clsL subC (.b "bool") (xFz (xVar 0))))))))))
theorem ok_is_whole {P : Program} {w : World} {K : PySem.W.Frag} {mg : Str → Option Value} {base : Heap} {f : Addr} {fd : FuncData} (F : FnQ K "is_whole" "is_whole" s_is_whole f fd) (V : Fcts faL K mg)  :
    FnOk P w K mg base CX0 1 f fd ["value"] (spM K 1 m_is_whole) :=
  xdef F sc_is_whole rfl fun _ _ _ _ _ _ hr => (xss_one (xs_ret (xu (xe_andV (xe_isi (T := (.b "int")) V.cf (pe_callB call_isi (by rfl) V.b_isinstance (by decide +kernel) (pa_cons (xv (xe_var (pv 0))) (pa_cons (pe_ty "int" (by rfl) V.b_int (by decide +kernel)) pa_nil)))) (pe_one (xe_not (xe_isi (T := (.b "bool")) V.cf (pe_callB call_isi (by rfl) V.b_isinstance (by decide +kernel) (pa_cons (xv (xe_var (pv 0))) (pa_cons (pe_ty "bool" (by rfl) V.b_bool (by decide +kernel)) pa_nil))))))))))
def m_is_between : FnT := fnM 0 ((xRet (xUp (xAndV (xFz (xCall 1 m_is_whole (xCons (xFz (xVar 0)) xNil))) (xOfB (xChain pLe pLe (xFz (xVar 1)) (xFz (xVar 0)) (xFz (xVar 2))))))))
theorem ok_is_between {P : Program} {w : World} {K : PySem.W.Frag} {mg : Str → Option Value} {base : Heap} {f : Addr} {fd : FuncData} (F : FnQ K "is_between" "is_between" s_is_between f fd) (V : Fcts faL K mg) (c_is_whole : Fn P w K mg base "is_whole" ["value"] CX0 1 (spM K 1 m_is_whole)) :
    FnOk P w K mg base CX0 2 f fd ["value", "low", "high"] (spM K 3 m_is_between) :=
  xdef F sc_is_between rfl fun _ _ _ _ _ _ hr => (xss_one (xs_ret (xu (xe_andV (xv (xe_fn (pe_fn c_is_whole hr pass0 (xa_cons (xv (xe_var (pv 0))) xa_nil)))) (pe_one (xe_chain ps_le ps_le (pe_chain op_le op_le (xv (xe_var (pv 1))) (xv (xe_var (pv 0))) (xv (xe_var (pv 2))))))))))
def m_is_time : FnT := fnM 0 ((xRet (xCall 3 m_is_between (xCons (xFz (xVar 0)) (xCons (xC (.int 1)) (xCons (xC (.int (1000000000))) xNil))))))
theorem ok_is_time {P : Program} {w : World} {K : PySem.W.Frag} {mg : Str → Option Value} {base : Heap} {f : Addr} {fd : FuncData} (F : FnQ K "is_time" "is_time" s_is_time f fd) (V : Fcts faL K mg) (c_is_between : Fn P w K mg base "is_between" ["value", "low", "high"] CX0 2 (spM K 3 m_is_between)) :
    FnOk P w K mg base CX0 3 f fd ["value"] (spM K 1 m_is_time) :=
  xdef F sc_is_time rfl fun _ _ _ _ _ _ hr => (xss_one (xs_ret (xe_fn (pe_fn c_is_between hr pass0 (xa_cons (xv (xe_var (pv 0))) (xa_cons (xe_c pe_int fun _ => rfl) (xa_cons (xe_c (pe_gi V.g_LONGEST.choose_spec) fun _ => rfl) xa_nil)))))))
def m_is_deed : FnT := fnM 0 ((xSeq (xIf (xOr (xNot (xB (xIsi clsL subC (.b "tuple") (xFz (xVar 0))))) (xOr (xB (xFz (xPr pEq (xCons (xFz (xVar 0)) (xCons (xFz (xPr pTup xNil)) xNil))))) (xNot (xB (xIsi clsL subC (.b "str") (xFz (xPr pIxT (xCons (xFz (xVar 0)) (xCons (xC (.int 0)) xNil))))))))) (xRet (xUp (xC (.bl false)))) xNx)
    (xSeq (xIf (xB (xFz (xPr pInT (xCons (xFz (xPr pIxT (xCons (xFz (xVar 0)) (xCons (xC (.int 0)) xNil)))) (xCons (xC d_PLAIN) xNil))))) (xRet (xPr pEq (xCons (xFz (xPr pLen (xCons (xFz (xVar 0)) xNil))) (xCons (xC (.int 1)) xNil)))) xNx)
    (xRet (xUp (xAndV (xFz (xPr pInT (xCons (xFz (xPr pIxT (xCons (xFz (xVar 0)) (xCons (xC (.int 0)) xNil)))) (xCons (xFz (xPr pTup (xCons (xC (.str "unpack")) (xCons (xC (.str "setback")) xNil)))) xNil)))) (xAndV (xFz (xPr pEq (xCons (xFz (xPr pLen (xCons (xFz (xVar 0)) xNil))) (xCons (xC (.int 2)) xNil)))) (xFz (xCall 1 m_is_time (xCons (xFz (xPr pIxT (xCons (xFz (xVar 0)) (xCons (xC (.int 1)) xNil)))) xNil))))))))))
theorem ok_is_deed {P : Program} {w : World} {K : PySem.W.Frag} {mg : Str → Option Value} {base : Heap} {f : Addr} {fd : FuncData} (F : FnQ K "is_deed" "is_deed" s_is_deed f fd) (V : Fcts faL K mg) (c_is_time : Fn P w K mg base "is_time" ["value"] CX0 3 (spM K 1 m_is_time)) :
    FnOk P w K mg base CX0 4 f fd ["value"] (spM K 1 m_is_deed) :=
  xdef F sc_is_deed rfl fun _ _ _ _ _ _ hr => (xss_cons (xs_if (PW.pt (xw_or (xt_not (xt_val (xe_isi (T := (.b "tuple")) V.cf (pe_callB call_isi (by rfl) V.b_isinstance (by decide +kernel) (pa_cons (xv (xe_var (pv 0))) (pa_cons (pe_ty "tuple" (by rfl) V.b_tuple (by decide +kernel)) pa_nil)))))) (xw_or (xt_cmp (op_eqD hr.units) ps_eq (xv (xe_var (pv 0))) (xv (xe_tup xa_nil)) (nomark _)) (pw_or1 (xt_not (xt_val (xe_isi (T := (.b "str")) V.cf (pe_callB call_isi (by rfl) V.b_isinstance (by decide +kernel) (pa_cons (xv (xe_ix ix_tup ps_ixT (xv (xe_var (pv 0))) (xe_c pe_int fun _ => rfl) (fun _ _ => rfl))) (pa_cons (pe_ty "str" (by rfl) V.b_str (by decide +kernel)) pa_nil)))))))))) (xss_one (xs_ret (xu (xe_c pe_bl fun _ => rfl)))) xss_nil)
    (xss_cons (xs_if (xt_cmp op_in_seq ps_inT (xv (xe_ix ix_tup ps_ixT (xv (xe_var (pv 0))) (xe_c pe_int fun _ => rfl) (fun _ _ => rfl))) (xe_c (pe_gc V.g_PLAIN) fun B => rep_PLAIN V B) (by rfl)) (xss_one (xs_ret (xe_cmp (op_eqD hr.units) ps_eq (xv (xe_cb ps_len (pe_callB call_len_seq (by rfl) V.b_len (by decide +kernel) (xa_cons (xv (xe_var (pv 0))) xa_nil)))) (xe_c pe_int fun _ => rfl) (nomark _)))) xss_nil)
    (xss_one (xs_ret (xu (xe_andV (xv (xe_cmp op_in_seq ps_inT (xv (xe_ix ix_tup ps_ixT (xv (xe_var (pv 0))) (xe_c pe_int fun _ => rfl) (fun _ _ => rfl))) (xv (xe_tup (xa_cons (xe_c pe_str fun _ => rfl) (xa_cons (xe_c pe_str fun _ => rfl) xa_nil)))) (by rfl))) (xe_andV (xv (xe_cmp (op_eqD hr.units) ps_eq (xv (xe_cb ps_len (pe_callB call_len_seq (by rfl) V.b_len (by decide +kernel) (xa_cons (xv (xe_var (pv 0))) xa_nil)))) (xe_c pe_int fun _ => rfl) (nomark _))) (pe_one (xv (xe_fn (pe_fn c_is_time hr pass0 (xa_cons (xv (xe_ix ix_tup ps_ixT (xv (xe_var (pv 0))) (xe_c pe_int fun _ => rfl) (fun _ _ => rfl))) xa_nil))))))))))))
def m_makes : FnT := fnM 0 ((xRet (xUp (xAndV (xFz (xCall 1 m_is_deed (xCons (xFz (xVar 0)) xNil))) (xFz (xPr pInT (xCons (xFz (xPr pIxT (xCons (xFz (xVar 0)) (xCons (xC (.int 0)) xNil)))) (xCons (xFz (xPr pTup (xCons (xC (.str "make")) (xCons (xC (.str "unpack")) xNil)))) xNil))))))))
theorem ok_makes {P : Program} {w : World} {K : PySem.W.Frag} {mg : Str → Option Value} {base : Heap} {f : Addr} {fd : FuncData} (F : FnQ K "makes" "makes" s_makes f fd) (V : Fcts faL K mg) (c_is_deed : Fn P w K mg base "is_deed" ["value"] CX0 4 (spM K 1 m_is_deed)) :
    FnOk P w K mg base CX0 5 f fd ["value"] (spM K 1 m_makes) :=
  xdef F sc_makes rfl fun _ _ _ _ _ _ hr => (xss_one (xs_ret (xu (xe_andV (xv (xe_fn (pe_fn c_is_deed hr pass0 (xa_cons (xv (xe_var (pv 0))) xa_nil)))) (pe_one (xv (xe_cmp op_in_seq ps_inT (xv (xe_ix ix_tup ps_ixT (xv (xe_var (pv 0))) (xe_c pe_int fun _ => rfl) (fun _ _ => rfl))) (xv (xe_tup (xa_cons (xe_c pe_str fun _ => rfl) (xa_cons (xe_c pe_str fun _ => rfl) xa_nil)))) (by rfl))))))))
def m_is_part_of : FnT := fnM 0 ((xRet (xUp (xAndV (xIsi clsL subC (.b "str") (xFz (xVar 0))) (xFz (xPr pInT (xCons (xFz (xVar 0)) (xCons (xFz (xVar 1)) xNil))))))))
theorem ok_is_part_of {P : Program} {w : World} {K : PySem.W.Frag} {mg : Str → Option Value} {base : Heap} {f : Addr} {fd : FuncData} (F : FnQ K "is_part_of" "is_part_of" s_is_part_of f fd) (V : Fcts faL K mg)  :
    FnOk P w K mg base CX0 1 f fd ["value", "words"] (spM K 2 m_is_part_of) :=
  xdef F sc_is_part_of rfl fun _ _ _ _ _ _ hr => (xss_one (xs_ret (xu (xe_andV (xe_isi (T := (.b "str")) V.cf (pe_callB call_isi (by rfl) V.b_isinstance (by decide +kernel) (pa_cons (xv (xe_var (pv 0))) (pa_cons (pe_ty "str" (by rfl) V.b_str (by decide +kernel)) pa_nil)))) (pe_one (xv (xe_cmp op_in_seq ps_inT (xv (xe_var (pv 0))) (xv (xe_var (pv 1))) (by rfl))))))))
def m_is_arrow : FnT := fnM 1 ((xSeq (xIf (xOr (xNot (xB (xIsi clsL subC (.b "tuple") (xFz (xVar 0))))) (xB (xFz (xPr pNinT (xCons (xFz (xPr pLen (xCons (xFz (xVar 0)) xNil))) (xCons (xFz (xPr pTup (xCons (xC (.int 4)) (xCons (xC (.int 5)) xNil)))) xNil)))))) (xRet (xUp (xC (.bl false)))) xNx)
    (xSeq (xIf (xOr (xNot (xB (xFz (xCall 3 m_is_between (xCons (xFz (xPr pIxT (xCons (xFz (xVar 0)) (xCons (xC (.int 0)) xNil)))) (xCons (xC (.int 0)) (xCons (xFz (xPr pSub (xCons (xFz (xPr pLen (xCons (xFz (xVar 1)) xNil))) (xCons (xC (.int 1)) xNil)))) xNil))))))) (xNot (xB (xFz (xCall 3 m_is_between (xCons (xFz (xPr pIxT (xCons (xFz (xVar 0)) (xCons (xC (.int 1)) xNil)))) (xCons (xC (.int 0)) (xCons (xFz (xPr pSub (xCons (xFz (xPr pLen (xCons (xFz (xVar 1)) xNil))) (xCons (xC (.int 1)) xNil)))) xNil)))))))) (xRet (xUp (xC (.bl false)))) xNx)
    (xSeq (xIf (xOr (xNot (xB (xFz (xCall 1 m_is_time (xCons (xFz (xPr pIxT (xCons (xFz (xVar 0)) (xCons (xC (.int 2)) xNil)))) xNil))))) (xAnd (xB (xFz (xPr pNotN (xCons (xFz (xPr pIxT (xCons (xFz (xVar 0)) (xCons (xC (.int 3)) xNil)))) (xCons (xC .non) xNil))))) (xOr (xNot (xB (xFz (xCall 1 m_is_time (xCons (xFz (xPr pIxT (xCons (xFz (xVar 0)) (xCons (xC (.int 3)) xNil)))) xNil))))) (xB (xFz (xPr pLt (xCons (xFz (xPr pIxT (xCons (xFz (xVar 0)) (xCons (xC (.int 3)) xNil)))) (xCons (xFz (xPr pIxT (xCons (xFz (xVar 0)) (xCons (xC (.int 2)) xNil)))) xNil)))))))) (xRet (xUp (xC (.bl false)))) xNx)
    (xSeq (xSet 2 (xIfE (xB (xFz (xPr pEq (xCons (xFz (xPr pLen (xCons (xFz (xVar 0)) xNil))) (xCons (xC (.int 5)) xNil))))) (xPr pIxT (xCons (xFz (xVar 0)) (xCons (xC (.int 4)) xNil))) (xUp (xC (.str "")))))
    (xRet (xUp (xAndV (xFz (xCall 2 m_is_part_of (xCons (xFz (xVar 2)) (xCons (xC d_WORDS) xNil)))) (xFz (xPr pEq (xCons (xFz (xPr pEq (xCons (xFz (xVar 2)) (xCons (xC (.str "anew")) xNil)))) (xCons (xFz (xCall 1 m_makes (xCons (xFz (xPr pIxB (xCons (xFz (xVar 1)) (xCons (xFz (xPr pIxT (xCons (xFz (xVar 0)) (xCons (xC (.int 1)) xNil)))) xNil)))) xNil))) xNil))))))))))))
theorem ok_is_arrow {P : Program} {w : World} {K : PySem.W.Frag} {mg : Str → Option Value} {base : Heap} {f : Addr} {fd : FuncData} (F : FnQ K "is_arrow" "is_arrow" s_is_arrow f fd) (V : Fcts faL K mg) (c_is_between : Fn P w K mg base "is_between" ["value", "low", "high"] CX0 2 (spM K 3 m_is_between)) (c_is_time : Fn P w K mg base "is_time" ["value"] CX0 3 (spM K 1 m_is_time)) (c_makes : Fn P w K mg base "makes" ["value"] CX0 5 (spM K 1 m_makes)) (c_is_part_of : Fn P w K mg base "is_part_of" ["value", "words"] CX0 1 (spM K 2 m_is_part_of)) :
    FnOk P w K mg base CX0 6 f fd ["value", "nodes"] (spM K 2 m_is_arrow) :=
  xdef F sc_is_arrow rfl fun _ _ _ _ _ _ hr => (xss_cons (xs_if (PW.pt (xw_or (xt_not (xt_val (xe_isi (T := (.b "tuple")) V.cf (pe_callB call_isi (by rfl) V.b_isinstance (by decide +kernel) (pa_cons (xv (xe_var (pv 0))) (pa_cons (pe_ty "tuple" (by rfl) V.b_tuple (by decide +kernel)) pa_nil)))))) (pw_or1 (xt_cmp op_notIn_seq ps_ninT (xv (xe_cb ps_len (pe_callB call_len_seq (by rfl) V.b_len (by decide +kernel) (xa_cons (xv (xe_var (pv 0))) xa_nil)))) (xv (xe_tup (xa_cons (xe_c pe_int fun _ => rfl) (xa_cons (xe_c pe_int fun _ => rfl) xa_nil)))) (by rfl))))) (xss_one (xs_ret (xu (xe_c pe_bl fun _ => rfl)))) xss_nil)
    (xss_cons (xs_if (PW.pt (xw_or (xt_not (xt_val (xv (xe_fn (pe_fn c_is_between hr pass0 (xa_cons (xv (xe_ix ix_tup ps_ixT (xv (xe_var (pv 0))) (xe_c pe_int fun _ => rfl) (fun _ _ => rfl))) (xa_cons (xe_c pe_int fun _ => rfl) (xa_cons (xv (xe_op op_sub ps_sub (xv (xe_cb ps_len (pe_callB call_len_seq (by rfl) V.b_len (by decide +kernel) (xa_cons (xv (xe_var (pv 1))) xa_nil)))) (xe_c pe_int fun _ => rfl))) xa_nil)))))))) (pw_or1 (xt_not (xt_val (xv (xe_fn (pe_fn c_is_between hr pass0 (xa_cons (xv (xe_ix ix_tup ps_ixT (xv (xe_var (pv 0))) (xe_c pe_int fun _ => rfl) (fun _ _ => rfl))) (xa_cons (xe_c pe_int fun _ => rfl) (xa_cons (xv (xe_op op_sub ps_sub (xv (xe_cb ps_len (pe_callB call_len_seq (by rfl) V.b_len (by decide +kernel) (xa_cons (xv (xe_var (pv 1))) xa_nil)))) (xe_c pe_int fun _ => rfl))) xa_nil))))))))))) (xss_one (xs_ret (xu (xe_c pe_bl fun _ => rfl)))) xss_nil)
    (xss_cons (xs_if (PW.pt (xw_or (xt_not (xt_val (xv (xe_fn (pe_fn c_is_time hr pass0 (xa_cons (xv (xe_ix ix_tup ps_ixT (xv (xe_var (pv 0))) (xe_c pe_int fun _ => rfl) (fun _ _ => rfl))) xa_nil)))))) (pw_or1 (PW.pt (xw_and (xt_cmp op_notN ps_notN (xv (xe_ix ix_tup ps_ixT (xv (xe_var (pv 0))) (xe_c pe_int fun _ => rfl) (fun _ _ => rfl))) (xe_c pe_non fun _ => rfl) (nomark _)) (pw_and1 (PW.pt (xw_or (xt_not (xt_val (xv (xe_fn (pe_fn c_is_time hr pass0 (xa_cons (xv (xe_ix ix_tup ps_ixT (xv (xe_var (pv 0))) (xe_c pe_int fun _ => rfl) (fun _ _ => rfl))) xa_nil)))))) (pw_or1 (xt_cmp op_lt ps_lt (xv (xe_ix ix_tup ps_ixT (xv (xe_var (pv 0))) (xe_c pe_int fun _ => rfl) (fun _ _ => rfl))) (xv (xe_ix ix_tup ps_ixT (xv (xe_var (pv 0))) (xe_c pe_int fun _ => rfl) (fun _ _ => rfl))) (nomark _))))))))))) (xss_one (xs_ret (xu (xe_c pe_bl fun _ => rfl)))) xss_nil)
    (xss_cons (xs_set (ps_set (i := 2) sc_is_arrow.nd rfl (Or.inl rfl) (xe_if (xt_cmp (op_eqD hr.units) ps_eq (xv (xe_cb ps_len (pe_callB call_len_seq (by rfl) V.b_len (by decide +kernel) (xa_cons (xv (xe_var (pv 0))) xa_nil)))) (xe_c pe_int fun _ => rfl) (nomark _)) (xe_ix ix_tup ps_ixT (xv (xe_var (pv 0))) (xe_c pe_int fun _ => rfl) (fun _ _ => rfl)) (xu (xe_c pe_str fun _ => rfl)))))
    (xss_one (xs_ret (xu (xe_andV (xv (xe_fn (pe_fn c_is_part_of hr pass0 (xa_cons (xv (xe_var (pv 2))) (xa_cons (xe_c (pe_gc V.g_WORDS) fun B => rep_WORDS V B) xa_nil))))) (pe_one (xv (xe_cmp (op_eqD hr.units) ps_eq (xv (xe_cmp (op_eqD hr.units) ps_eq (xv (xe_var (pv 2))) (xe_c pe_str fun _ => rfl) (nomark _))) (xv (xe_fn (pe_fn c_makes hr pass0 (xa_cons (xv (xe_ix ix_seq ps_ixB (xv (xe_var (pv 1))) (xv (xe_ix ix_tup ps_ixT (xv (xe_var (pv 0))) (xe_c pe_int fun _ => rfl) (fun _ _ => rfl))) (fun _ _ => rfl))) xa_nil)))) (nomark _))))))))))))
def m_reached_from : FnT := fnM 8 ((xSeq (xSet 2 (xLc [9] (xItB (xFz (xVar 0))) (gNm 9) xYes (xFz (xCall 1 m_makes (xCons (xFz (xVar 9)) xNil)))))
    (xSeq (xFor (xItR1 (xCons (xFz (xPr pLen (xCons (xFz (xVar 0)) xNil))) xNil)) (gNm 3) (xFor (xItL (xFz (xVar 1))) (gTp 5 (gsCons (gNm 4) (gsCons (gNm 5) (gsCons (gNm 6) (gsCons (gNm 7) (gsCons (gNm 8) gsNil)))))) (xIf (xBorT (xAnd (xB (xFz (xPr pIxL (xCons (xFz (xVar 2)) (xCons (xFz (xVar 4)) xNil))))) (xB (xFz (xPr pNe (xCons (xFz (xVar 8)) (xCons (xC (.str "anew")) xNil))))))) (xPutP true Str.empty 2 none (qVar 5) (xC (.bl true))) xNx)))
    (xRetV 2))))
theorem ok_reached_from {P : Program} {w : World} {K : PySem.W.Frag} {mg : Str → Option Value} {base : Heap} {f : Addr} {fd : FuncData} (F : FnQ K "reached_from" "reached_from" s_reached_from f fd) (V : Fcts faL K mg) (c_makes : Fn P w K mg base "makes" ["value"] CX0 5 (spM K 1 m_makes)) :
    FnOk P w K mg base CX0 6 f fd ["nodes", "arrows"] (spM K 2 m_reached_from) :=
  xdef F sc_reached_from rfl fun _ _ _ _ _ _ hr => (xss_cons (xs_setLc (vs := [9]) (g := (gName 9)) (gD := (gNm 9)) (go_name (by decide)) (ps_setLc (i := 2) (own := [("node", 9)]) (g := (gName 9)) (tt := rdT K xYes) (te := rdV K (xFz (xCall 1 m_makes (xCons (xFz (xVar 9)) xNil)))) (by rfl) sc_reached_from.nd rfl rfl (sw_true rfl rfl rfl (by decide +kernel)) (xi_seq (pi_list (xv (xe_var (pv 0)))) (pi_tup (xv (xe_var (pv 0))))) (blkOk_by (own := [("node", 9)]) (N := ["nodes", "arrows", "found", "turn", "start", "goal", "least", "most", "word", "node"]) (sc := defScope s_reached_from) (by decide +kernel)) (fun _ _ _ _ _ => (pg_name (i := 9) sc_reached_from.nd rfl (Or.inl rfl))) (fun _ _ _ _ _ => xts_nil) (fun _ _ _ _ _ => (xv (xe_fn (pe_fn c_makes hr pass0 (xa_cons (xv (xe_var (pv 9))) xa_nil)))))))
    (xss_cons (xs_for (ps_for PassesOwn.never rfl (xi_r1 (pi_range1 (by rfl) V.b_range (xa_cons (xv (xe_cb ps_len (pe_callB call_len_seq (by rfl) V.b_len (by decide +kernel) (xa_cons (xv (xe_var (pv 0))) xa_nil)))) xa_nil))) (xg_name (pg_name (i := 3) sc_reached_from.nd rfl (Or.inl rfl))) (xss_one (xs_for (ps_for PassesOwn.never rfl (xi_list (pi_list (xv (xe_var (pv 1))))) (xg_tup rfl (xgs_cons (xg_name (pg_name (i := 4) sc_reached_from.nd rfl (Or.inl rfl))) (xgs_cons (xg_name (pg_name (i := 5) sc_reached_from.nd rfl (Or.inl rfl))) (xgs_cons (xg_name (pg_name (i := 6) sc_reached_from.nd rfl (Or.inl rfl))) (xgs_cons (xg_name (pg_name (i := 7) sc_reached_from.nd rfl (Or.inl rfl))) (xgs_cons (xg_name (pg_name (i := 8) sc_reached_from.nd rfl (Or.inl rfl))) xgs_nil)))))) (xss_one (xs_if (xt_bor (PW.pt (xw_and (xt_val (xv (xe_ix ix_list ps_ixL (xv (xe_var (pv 2))) (xv (xe_var (pv 4))) (fun _ _ => rfl)))) (pw_and1 (xt_cmp (op_neD hr.units) ps_ne (xv (xe_var (pv 8))) (xe_c pe_str fun _ => rfl) (nomark _)))))) (xss_one (xs_putL (c := Str.empty) (fo := none) (show PathC K Str.empty none from trivial) (ps_asg (xe_c pe_bl fun _ => rfl) (pg_sub (pv 2) (xq_var (pv 5)) set_list)))) xss_nil)))))))
    (xss_one (xs_retV (pv 2)))))
def m_Way___init__ : FnT := fnM 6 ((xSeq (xIf (xOr (xNot (xB (xFz (xCall 1 m_is_listed (xCons (xFz (xVar 1)) xNil))))) (xNot (xChain pLe pLe (xC (.int 1)) (xFz (xPr pLen (xCons (xFz (xVar 1)) xNil))) (xC (.int (12)))))) xNever xNx)
    (xSeq (xFor (xItEb (xCons (xFz (xVar 1)) xNil)) (gTp 2 (gsCons (gNm 3) (gsCons (gNm 4) gsNil))) (xIf (xNot (xB (xFz (xCall 1 m_is_deed (xCons (xFz (xVar 4)) xNil))))) xNever xNx))
    (xSeq (xIf (xOr (xNot (xB (xFz (xCall 1 m_is_listed (xCons (xFz (xVar 2)) xNil))))) (xB (xFz (xPr pGt (xCons (xFz (xPr pLen (xCons (xFz (xVar 2)) xNil))) (xCons (xC (.int (40))) xNil)))))) xNever xNx)
    (xSeq (xSet 5 (xPr pLst xNil))
    (xSeq (xFor (xItEb (xCons (xFz (xVar 2)) xNil)) (gTp 2 (gsCons (gNm 3) (gsCons (gNm 6) gsNil))) (xSeq (xIf (xBorT (xOr (xNot (xB (xFz (xCall 2 m_is_arrow (xCons (xFz (xVar 6)) (xCons (xFz (xVar 1)) xNil)))))) (xB (xFz (xPr pIn (xCons (xFz (xSl pSlT (xFz (xVar 6)) none (some (xC (.int 2))))) (xCons (xFz (xLc [8] (xItL (xFz (xVar 5))) (gNm 8) xYes (xFz (xSl pSlT (xFz (xVar 8)) none (some (xC (.int 2))))))) xNil))))))) xNever xNx)
    (xDrop (xApp 5 (xFz (xIfE (xB (xFz (xPr pEq (xCons (xFz (xPr pLen (xCons (xFz (xVar 6)) xNil))) (xCons (xC (.int 5)) xNil))))) (xVar 6) (xPr pTup (xStar (xFz (xVar 6)) (xCons (xC (.str "")) xNil)))))))))
    (xSeq (xForP 5 true (gTp 2 (gsCons (gNm 3) (gsCons (gNm 6) gsNil))) (xIf (xBorT (xAnd (xB (xFz (xPr pEq (xCons (xFz (xPr pIxT (xCons (xFz (xVar 6)) (xCons (xC (.int 4)) xNil)))) (xCons (xC (.str "anew")) xNil))))) (xNot (xB (xFz (xPr pAny (xCons (xFz (xLc [8] (xItL (xFz (xVar 5))) (gNm 8) xYes (xAndV (xFz (xPr pEq (xCons (xFz (xPr pIxT (xCons (xFz (xVar 8)) (xCons (xC (.int 0)) xNil)))) (xCons (xFz (xPr pIxT (xCons (xFz (xVar 6)) (xCons (xC (.int 1)) xNil)))) xNil)))) (xFz (xPr pNe (xCons (xFz (xPr pIxT (xCons (xFz (xVar 8)) (xCons (xC (.int 4)) xNil)))) (xCons (xC (.str "anew")) xNil))))))) xNil))))))) xNever xNx))
    (xSeq (xFor (xItE (xCons (xFz (xBor (xCall 2 m_reached_from (xCons (xFz (xVar 1)) (xCons (xFz (xVar 5)) xNil))))) xNil)) (gTp 2 (gsCons (gNm 3) (gsCons (gNm 7) gsNil))) (xIf (xNot (xB (xFz (xVar 7)))) xNever xNx))
    (xSeq (xFS "Way" 0 "own_nodes" (xPr pListOf (xCons (xFz (xVar 1)) xNil)))
    (xFS "Way" 0 "own_arrows" (xMv 5)))))))))))
theorem ok_Way___init__ {P : Program} {w : World} {K : PySem.W.Frag} {mg : Str → Option Value} {base : Heap} {f : Addr} {fd : FuncData} (F : FnQ K "__init__" "Way.__init__" s_Way___init__ f fd) (V : Fcts faL K mg) (c_is_listed : Fn P w K mg base "is_listed" ["value"] CX0 1 (spM K 1 m_is_listed)) (c_is_deed : Fn P w K mg base "is_deed" ["value"] CX0 4 (spM K 1 m_is_deed)) (c_is_arrow : Fn P w K mg base "is_arrow" ["value", "nodes"] CX0 6 (spM K 2 m_is_arrow)) (c_reached_from : Fn P w K mg base "reached_from" ["nodes", "arrows"] CX0 6 (spM K 2 m_reached_from)) :
    FnOk P w K mg base CX0 7 f fd ["self", "nodes", "arrows"] (spM K 3 m_Way___init__) :=
  xdef F sc_Way___init__ rfl fun _ _ _ _ _ _ hr => (xss_cons (xs_if (PW.pt (xw_or (xt_not (xt_val (xv (xe_fn (pe_fn c_is_listed hr pass0 (xa_cons (xv (xe_var (pv 1))) xa_nil)))))) (pw_or1 (xt_not (xt_chain ps_le ps_le (pt_chain op_le op_le (xe_c pe_int fun _ => rfl) (xv (xe_cb ps_len (pe_callB call_len_seq (by rfl) V.b_len (by decide +kernel) (xa_cons (xv (xe_var (pv 1))) xa_nil)))) (xe_c (pe_gi V.g_MOST_NODES.choose_spec) fun _ => rfl))))))) (xss_one xs_never) xss_nil)
    (xss_cons (xs_for (ps_for PassesOwn.never rfl (xi_enumB (pi_enum (by rfl) V.b_enumerate (xa_cons (xv (xe_var (pv 1))) xa_nil)) (pi_enumT (by rfl) V.b_enumerate (xa_cons (xv (xe_var (pv 1))) xa_nil))) (xg_tup rfl (xgs_cons (xg_name (pg_name (i := 3) sc_Way___init__.nd rfl (Or.inl rfl))) (xgs_cons (xg_name (pg_name (i := 4) sc_Way___init__.nd rfl (Or.inl rfl))) xgs_nil))) (xss_one (xs_if (xt_not (xt_val (xv (xe_fn (pe_fn c_is_deed hr pass0 (xa_cons (xv (xe_var (pv 4))) xa_nil)))))) (xss_one xs_never) xss_nil))))
    (xss_cons (xs_if (PW.pt (xw_or (xt_not (xt_val (xv (xe_fn (pe_fn c_is_listed hr pass0 (xa_cons (xv (xe_var (pv 2))) xa_nil)))))) (pw_or1 (xt_cmp op_gt ps_gt (xv (xe_cb ps_len (pe_callB call_len_seq (by rfl) V.b_len (by decide +kernel) (xa_cons (xv (xe_var (pv 2))) xa_nil)))) (xe_c (pe_gi V.g_MOST_ARROWS.choose_spec) fun _ => rfl) (nomark _))))) (xss_one xs_never) xss_nil)
    (xss_cons (xs_set (ps_set (i := 5) sc_Way___init__.nd rfl (Or.inl rfl) (xe_lst xa_nil)))
    (xss_cons (xs_for (ps_for PassesOwn.never rfl (xi_enumB (pi_enum (by rfl) V.b_enumerate (xa_cons (xv (xe_var (pv 2))) xa_nil)) (pi_enumT (by rfl) V.b_enumerate (xa_cons (xv (xe_var (pv 2))) xa_nil))) (xg_tup rfl (xgs_cons (xg_name (pg_name (i := 3) sc_Way___init__.nd rfl (Or.inl rfl))) (xgs_cons (xg_name (pg_name (i := 6) sc_Way___init__.nd rfl (Or.inr rfl))) xgs_nil))) (xss_cons (xs_if (xt_bor (PW.pt (xw_or (xt_not (xt_val (xv (xe_fn (pe_fn c_is_arrow hr pass0 (xa_cons (xv (xe_var (pv 6))) (xa_cons (xv (xe_var (pv 1))) xa_nil))))))) (pw_or1 (xt_cmp (op_inD (room65 hr)) ps_in (xv (xe_sl (lo := none) (hi := (some (xC (.int 2)))) ps_slT (pe_slice sl_tupA (xv (xe_var (pv 6))) po_none (po_some (xe_c pe_int fun _ => rfl))))) (xv (xe_lc (vs := [8]) (g := (gName 8)) (gD := (gNm 8)) (go_name (by decide)) (pe_lc (own := [("other", 8)]) (g := (gName 8)) (tt := rdT K xYes) (te := rdV K (xFz (xSl pSlT (xFz (xVar 8)) none (some (xC (.int 2)))))) (by rfl) sc_Way___init__.nd  (xi_list (pi_list (xv (xe_var (pv 5))))) (blkOk_by (own := [("other", 8)]) (N := ["self", "nodes", "arrows", "index", "node", "found", "arrow", "is_reached", "other"]) (sc := defScope s_Way___init__) (by decide +kernel)) (fun _ _ _ _ _ => (pg_name (i := 8) sc_Way___init__.nd rfl (Or.inl rfl))) (fun _ _ _ _ _ => xts_nil) (fun _ _ _ _ _ => (xv (xe_sl (lo := none) (hi := (some (xC (.int 2)))) ps_slT (pe_slice sl_tupA (xv (xe_var (pv 8))) po_none (po_some (xe_c pe_int fun _ => rfl))))))))) (by rfl)))))) (xss_one xs_never) xss_nil)
    (xss_one (xs_drop (ps_expr (xe_app (pe_bm PySem.F.plainAttrs_list PySem.F.slot_list_append PySem.F.type_list_append mt_append (pv 5) (pa_cons (xv (xe_if (xt_cmp (op_eqD hr.units) ps_eq (xv (xe_cb ps_len (pe_callB call_len_seq (by rfl) V.b_len (by decide +kernel) (xa_cons (xv (xe_var (pv 6))) xa_nil)))) (xe_c pe_int fun _ => rfl) (nomark _)) (xe_var (pv 6)) (xe_tup (xa_star (StX.pa_star (xv (xe_var (pv 6))) (xa_cons (xe_c pe_str fun _ => rfl) xa_nil)))))) pa_nil)))))))))
    (xss_cons (xs_forPE (ps_for PassesOwn.never rfl (pi_enum (by rfl) V.b_enumerate (pa_cons (pv 5) pa_nil)) (xg_tup rfl (xgs_cons (xg_name (pg_name (i := 3) sc_Way___init__.nd rfl (Or.inl rfl))) (xgs_cons (xg_name (pg_name (i := 6) sc_Way___init__.nd rfl (Or.inr rfl))) xgs_nil))) (xss_one (xs_if (xt_bor (PW.pt (xw_and (xt_cmp (op_eqD hr.units) ps_eq (xv (xe_ix ix_tup ps_ixT (xv (xe_var (pv 6))) (xe_c pe_int fun _ => rfl) (fun _ _ => rfl))) (xe_c pe_str fun _ => rfl) (nomark _)) (pw_and1 (xt_not (xt_val (xv (xe_cb ps_any (pe_callB (cr_any rfl) (by rfl) V.b_any (by decide +kernel) (xa_cons (xv (xe_lc (vs := [8]) (g := (gName 8)) (gD := (gNm 8)) (go_name (by decide)) (pe_lc (own := [("other", 8)]) (g := (gName 8)) (tt := rdT K xYes) (te := rdV K (xAndV (xFz (xPr pEq (xCons (xFz (xPr pIxT (xCons (xFz (xVar 8)) (xCons (xC (.int 0)) xNil)))) (xCons (xFz (xPr pIxT (xCons (xFz (xVar 6)) (xCons (xC (.int 1)) xNil)))) xNil)))) (xFz (xPr pNe (xCons (xFz (xPr pIxT (xCons (xFz (xVar 8)) (xCons (xC (.int 4)) xNil)))) (xCons (xC (.str "anew")) xNil)))))) (by rfl) sc_Way___init__.nd  (xi_list (pi_list (xv (xe_var (pv 5))))) (blkOk_by (own := [("other", 8)]) (N := ["self", "nodes", "arrows", "index", "node", "found", "arrow", "is_reached", "other"]) (sc := defScope s_Way___init__) (by decide +kernel)) (fun _ _ _ _ _ => (pg_name (i := 8) sc_Way___init__.nd rfl (Or.inl rfl))) (fun _ _ _ _ _ => xts_nil) (fun _ _ _ _ _ => (xe_andV (xv (xe_cmp (op_eqD hr.units) ps_eq (xv (xe_ix ix_tup ps_ixT (xv (xe_var (pv 8))) (xe_c pe_int fun _ => rfl) (fun _ _ => rfl))) (xv (xe_ix ix_tup ps_ixT (xv (xe_var (pv 6))) (xe_c pe_int fun _ => rfl) (fun _ _ => rfl))) (nomark _))) (pe_one (xv (xe_cmp (op_neD hr.units) ps_ne (xv (xe_ix ix_tup ps_ixT (xv (xe_var (pv 8))) (xe_c pe_int fun _ => rfl) (fun _ _ => rfl))) (xe_c pe_str fun _ => rfl) (nomark _))))))))) xa_nil)))))))))) (xss_one xs_never) xss_nil))))
    (xss_cons (xs_for (ps_for PassesOwn.never rfl (xi_enum (pi_enum (by rfl) V.b_enumerate (xa_cons (xv (xe_bor (xe_fn (pe_fn c_reached_from hr pass0 (xa_cons (xv (xe_var (pv 1))) (xa_cons (xv (xe_var (pv 5))) xa_nil)))))) xa_nil))) (xg_tup rfl (xgs_cons (xg_name (pg_name (i := 3) sc_Way___init__.nd rfl (Or.inl rfl))) (xgs_cons (xg_name (pg_name (i := 7) sc_Way___init__.nd rfl (Or.inl rfl))) xgs_nil))) (xss_one (xs_if (xt_not (xt_val (xv (xe_var (pv 7))))) (xss_one xs_never) xss_nil))))
    (xss_cons (xs_fs (c := "Way") (V.cl_Way) V.n_Way_own_nodes (ps_fld (pv 0) (xe_cb ps_listOf (pe_callTy call_list_of (by rfl) V.b_list (by decide +kernel) (xa_cons (xv (xe_var (pv 1))) xa_nil))) rfl))
    (xss_one (xs_fs (c := "Way") (V.cl_Way) V.n_Way_own_arrows (ps_fld (pv 0) (xe_mv (pv 5)) rfl)))))))))))
def m_Way_nodes : FnT := fnM 0 ((xRet (xPr pListOf (xCons (xFldS "Way" 0 "own_nodes") xNil))))
theorem ok_Way_nodes {P : Program} {w : World} {K : PySem.W.Frag} {mg : Str → Option Value} {base : Heap} {f : Addr} {fd : FuncData} (F : FnQ K "nodes" "Way.nodes" s_Way_nodes f fd) (V : Fcts faL K mg)  :
    FnOk P w K mg base CX0 1 f fd ["self"] (spM K 1 m_Way_nodes) :=
  xdef F sc_Way_nodes rfl fun _ _ _ _ _ _ hr => (xss_one (xs_ret (xe_cb ps_listOf (pe_callTy call_list_of (by rfl) V.b_list (by decide +kernel) (xa_cons (xe_fldS (c := "Way") (V.cl_Way) V.n_Way_own_nodes (pe_fld (pv 0) rfl)) xa_nil)))))
def m_Way_arrows : FnT := fnM 0 ((xRet (xPr pListOf (xCons (xFldS "Way" 0 "own_arrows") xNil))))
theorem ok_Way_arrows {P : Program} {w : World} {K : PySem.W.Frag} {mg : Str → Option Value} {base : Heap} {f : Addr} {fd : FuncData} (F : FnQ K "arrows" "Way.arrows" s_Way_arrows f fd) (V : Fcts faL K mg)  :
    FnOk P w K mg base CX0 1 f fd ["self"] (spM K 1 m_Way_arrows) :=
  xdef F sc_Way_arrows rfl fun _ _ _ _ _ _ hr => (xss_one (xs_ret (xe_cb ps_listOf (pe_callTy call_list_of (by rfl) V.b_list (by decide +kernel) (xa_cons (xe_fldS (c := "Way") (V.cl_Way) V.n_Way_own_arrows (pe_fld (pv 0) rfl)) xa_nil)))))
def m_Way___len__ : FnT := fnM 0 ((xRet (xPr pLen (xCons (xFldS "Way" 0 "own_nodes") xNil))))
theorem ok_Way___len__ {P : Program} {w : World} {K : PySem.W.Frag} {mg : Str → Option Value} {base : Heap} {f : Addr} {fd : FuncData} (F : FnQ K "__len__" "Way.__len__" s_Way___len__ f fd) (V : Fcts faL K mg)  :
    FnOk P w K mg base CX0 1 f fd ["self"] (spM K 1 m_Way___len__) :=
  xdef F sc_Way___len__ rfl fun _ _ _ _ _ _ hr => (xss_one (xs_ret (xe_cb ps_len (pe_callB call_len_seq (by rfl) V.b_len (by decide +kernel) (xa_cons (xe_fldS (c := "Way") (V.cl_Way) V.n_Way_own_nodes (pe_fld (pv 0) rfl)) xa_nil)))))
def m_Way___getitem__ : FnT := fnM 0 ((xSeq (xIf (xNot (xB (xFz (xCall 3 m_is_between (xCons (xFz (xVar 1)) (xCons (xC (.int 0)) (xCons (xFz (xPr pSub (xCons (xFz (xPr pLen (xCons (xFldS "Way" 0 "own_nodes") xNil))) (xCons (xC (.int 1)) xNil)))) xNil))))))) xNever xNx)
    (xRet (xPr pIxL (xCons (xFldS "Way" 0 "own_nodes") (xCons (xFz (xVar 1)) xNil))))))
theorem ok_Way___getitem__ {P : Program} {w : World} {K : PySem.W.Frag} {mg : Str → Option Value} {base : Heap} {f : Addr} {fd : FuncData} (F : FnQ K "__getitem__" "Way.__getitem__" s_Way___getitem__ f fd) (V : Fcts faL K mg) (c_is_between : Fn P w K mg base "is_between" ["value", "low", "high"] CX0 2 (spM K 3 m_is_between)) :
    FnOk P w K mg base CX0 3 f fd ["self", "node"] (spM K 2 m_Way___getitem__) :=
  xdef F sc_Way___getitem__ rfl fun _ _ _ _ _ _ hr => (xss_cons (xs_if (xt_not (xt_val (xv (xe_fn (pe_fn c_is_between hr pass0 (xa_cons (xv (xe_var (pv 1))) (xa_cons (xe_c pe_int fun _ => rfl) (xa_cons (xv (xe_op op_sub ps_sub (xv (xe_cb ps_len (pe_callB call_len_seq (by rfl) V.b_len (by decide +kernel) (xa_cons (xe_fldS (c := "Way") (V.cl_Way) V.n_Way_own_nodes (pe_fld (pv 0) rfl)) xa_nil)))) (xe_c pe_int fun _ => rfl))) xa_nil)))))))) (xss_one xs_never) xss_nil)
    (xss_one (xs_ret (xe_ix ix_list ps_ixL (xe_fldS (c := "Way") (V.cl_Way) V.n_Way_own_nodes (pe_fld (pv 0) rfl)) (xv (xe_var (pv 1))) (fun _ _ => rfl)))))
def b1_Way_arrow : En → Option Out := (xKb [false, false, false, true] (xIf (xB (xFz (xPr pEq (xCons (xFz (xSl pSlT (xFz (xVar 3)) none (some (xC (.int 2))))) (xCons (xFz (xPr pTup (xCons (xFz (xVar 1)) (xCons (xFz (xVar 2)) xNil)))) xNil))))) (xRetV 3) xNx))
def m_Way_arrow : FnT := fnM 1 ((xSeq (xIf (xOr (xNot (xB (xFz (xCall 3 m_is_between (xCons (xFz (xVar 1)) (xCons (xC (.int 0)) (xCons (xFz (xPr pSub (xCons (xLenO "Way" m_Way___len__ (xFz (xVar 0))) (xCons (xC (.int 1)) xNil)))) xNil))))))) (xNot (xB (xFz (xCall 3 m_is_between (xCons (xFz (xVar 2)) (xCons (xC (.int 0)) (xCons (xFz (xPr pSub (xCons (xLenO "Way" m_Way___len__ (xFz (xVar 0))) (xCons (xC (.int 1)) xNil)))) xNil)))))))) (xRet (xUp (xC .non))) xNx)
    (xSeq (xKl [true, true, true] (xFor (xItL (xFldS "Way" 0 "own_arrows")) (gNm 3) b1_Way_arrow))
    (xRet (xUp (xC .non))))))
theorem ok_Way_arrow {P : Program} {w : World} {K : PySem.W.Frag} {mg : Str → Option Value} {base : Heap} {f : Addr} {fd : FuncData} (F : FnQ K "arrow" "Way.arrow" s_Way_arrow f fd) (V : Fcts faL K mg) (c_Way___len__ : Mt P w K mg base (He.ga K "Way") "__len__" ["self"] CX0 1 (spM K 1 m_Way___len__)) (c_is_between : Fn P w K mg base "is_between" ["value", "low", "high"] CX0 2 (spM K 3 m_is_between)) :
    FnOk P w K mg base CX0 3 f fd ["self", "start", "goal"] (spM K 3 m_Way_arrow) :=
  xdef F sc_Way_arrow rfl fun _ _ _ _ _ _ hr => (xss_cons (xs_if (PW.pt (xw_or (xt_not (xt_val (xv (xe_fn (pe_fn c_is_between hr pass0 (xa_cons (xv (xe_var (pv 1))) (xa_cons (xe_c pe_int fun _ => rfl) (xa_cons (xv (xe_op op_sub ps_sub (xe_lenO (c := "Way") (pe_callB (call_lenO c_Way___len__ hr pass0) (by rfl) V.b_len (by decide +kernel) (pa_cons (xv (xe_var (pv 0))) pa_nil))) (xe_c pe_int fun _ => rfl))) xa_nil)))))))) (pw_or1 (xt_not (xt_val (xv (xe_fn (pe_fn c_is_between hr pass0 (xa_cons (xv (xe_var (pv 2))) (xa_cons (xe_c pe_int fun _ => rfl) (xa_cons (xv (xe_op op_sub ps_sub (xe_lenO (c := "Way") (pe_callB (call_lenO c_Way___len__ hr pass0) (by rfl) V.b_len (by decide +kernel) (pa_cons (xv (xe_var (pv 0))) pa_nil))) (xe_c pe_int fun _ => rfl))) xa_nil))))))))))) (xss_one (xs_ret (xu (xe_c pe_non fun _ => rfl)))) xss_nil)
    (xss_cons (xs_kl [true, true, true] (xs_for (ps_for PassesOwn.never rfl (xi_list (pi_list (xe_fldS (c := "Way") (V.cl_Way) V.n_Way_own_arrows (pe_fld (pv 0) rfl)))) (xg_name (pg_name (i := 3) sc_Way_arrow.nd rfl (Or.inl rfl))) (show PSs _ _ (rdS K _ b1_Way_arrow) from (xss_kb [false, false, false, true] (xss_one (xs_if (xt_cmp (op_eqD hr.units) ps_eq (xv (xe_sl (lo := none) (hi := (some (xC (.int 2)))) ps_slT (pe_slice sl_tupA (xv (xe_var (pv 3))) po_none (po_some (xe_c pe_int fun _ => rfl))))) (xv (xe_tup (xa_cons (xv (xe_var (pv 1))) (xa_cons (xv (xe_var (pv 2))) xa_nil)))) (nomark _)) (xss_one (xs_retV (pv 3))) xss_nil)))))))
    (xss_one (xs_ret (xu (xe_c pe_non fun _ => rfl))))))
def m_Way___eq__ : FnT := fnM 0 ((xSeq (xIf (xNot (xB (xIsi clsL subC (.o "Way") (xFz (xVar 1))))) (xRet (xUp (xC (.bl false)))) xNx)
    (xRet (xUp (xAndV (xFz (xPr pEq (xCons (xFldS "Way" 0 "own_nodes") (xCons (xFldS "Way" 1 "own_nodes") xNil)))) (xFz (xPr pEq (xCons (xFldS "Way" 0 "own_arrows") (xCons (xFldS "Way" 1 "own_arrows") xNil)))))))))
theorem ok_Way___eq__ {P : Program} {w : World} {K : PySem.W.Frag} {mg : Str → Option Value} {base : Heap} {f : Addr} {fd : FuncData} (F : FnQ K "__eq__" "Way.__eq__" s_Way___eq__ f fd) (V : Fcts faL K mg)  :
    FnOk P w K mg base CX0 1 f fd ["self", "other"] (spM K 2 m_Way___eq__) :=
  xdef F sc_Way___eq__ rfl fun _ _ _ _ _ _ hr => (xss_cons (xs_if (xt_not (xt_val (xe_isi (T := (.o "Way")) V.cf (pe_callB call_isi (by rfl) V.b_isinstance (by decide +kernel) (pa_cons (xv (xe_var (pv 1))) (pa_cons (pe_gc V.c_Way) pa_nil)))))) (xss_one (xs_ret (xu (xe_c pe_bl fun _ => rfl)))) xss_nil)
    (xss_one (xs_ret (xu (xe_andV (xv (xe_cmp (op_eqD hr.units) ps_eq (xe_fldS (c := "Way") (V.cl_Way) V.n_Way_own_nodes (pe_fld (pv 0) rfl)) (xe_fldS (c := "Way") (V.cl_Way) V.n_Way_own_nodes (pe_fld (pv 1) rfl)) (nomark _))) (pe_one (xv (xe_cmp (op_eqD hr.units) ps_eq (xe_fldS (c := "Way") (V.cl_Way) V.n_Way_own_arrows (pe_fld (pv 0) rfl)) (xe_fldS (c := "Way") (V.cl_Way) V.n_Way_own_arrows (pe_fld (pv 1) rfl)) (nomark _)))))))))
def b1_law : En → Option Out := (xKb [false, false, false, false, false, false, false, false, false, false, false, true, true] (xSeq (xSet 12 (xLc [16] (xItL (xFz (xVar 4))) (gNm 16) (xB (xFz (xPr pEq (xCons (xFz (xSl pSlT (xFz (xVar 16)) none (some (xC (.int 2))))) (xCons (xFz (xPr pTup (xCons (xFz (xVar 10)) (xCons (xFz (xVar 11)) xNil)))) xNil))))) (xFz (xVar 16))))
    (xIf (xB (xFz (xPr pNe (xCons (xFz (xMt "Way" "arrow" 3 m_Way_arrow (xFz (xVar 8)) (xCons (xFz (xVar 10)) (xCons (xFz (xVar 11)) xNil)))) (xCons (xFz (xIfE (xB (xFz (xPr pNe (xCons (xFz (xVar 12)) (xCons (xFz (xPr pLst xNil)) xNil))))) (xPr pIxL (xCons (xFz (xVar 12)) (xCons (xC (.int 0)) xNil))) (xUp (xC .non)))) xNil))))) (xRet (xUp (xC (.bl false)))) xNx)))
def b2_law : En → Option Out := (xKb [false, false, false, false, false, false, false, false, false, false, true, true, true] (xFor (xItR1 (xCons (xFz (xPr pLen (xCons (xFz (xVar 3)) xNil))) xNil)) (gNm 11) b1_law))
def b3_law : En → Option Out := (xKb [false, false, false, false, false, false, false, false, false, false, false, false, false, true] (xIf (xOr (xB (xFz (xPr pNotN (xCons (xFz (xMt "Way" "arrow" 3 m_Way_arrow (xFz (xVar 8)) (xCons (xFz (xVar 13)) (xCons (xC (.int 0)) xNil)))) (xCons (xC .non) xNil))))) (xB (xFz (xPr pNotN (xCons (xFz (xMt "Way" "arrow" 3 m_Way_arrow (xFz (xVar 8)) (xCons (xC (.int 0)) (xCons (xFz (xVar 13)) xNil)))) (xCons (xC .non) xNil)))))) (xRet (xUp (xC (.bl false)))) xNx))
def b4_law : En → Option Out := (xKb [false, true, true, true, true, true, true, true, true, true, true, true, true, true, true, true] (xSeq (xKl [false, true] (xSet 2 (xCall 2 m__law_source (xCons (xFz (xVar 0)) (xCons (xFz (xVar 1)) xNil)))))
    (xSeq (xAsg (xFz (xCallM 5 2 m__law_plan (xCons (xFz (xPr pAdd (xCons (xC (.int 1)) (xCons (xFz (xCallM 2 2 m__law_draw (xCons (xC (.int 6)) xNil))) xNil)))) (xCons (xFz (xPr pIxL (xCons (xFz (xPr pLst (xCons (xC (.int 5)) (xCons (xFz (xPr pPow (xCons (xC (.int 10)) (xCons (xC (.int 8)) xNil)))) xNil)))) (xCons (xFz (xCallM 2 2 m__law_draw (xCons (xC (.int 2)) xNil))) xNil)))) (xCons (xFz (xPr pPow (xCons (xC (.int 10)) (xCons (xC (.int 9)) xNil)))) (xCons (xC (.bl true)) xNil)))))) (gTp 2 (gsCons (gNm 3) (gsCons (gNm 4) gsNil))))
    (xSeq (xKl [false, false, true] (xSet 5 (xLc [16] (xItL (xFz (xVar 4))) (gNm 16) xYes (xFz (xIfE (xAnd (xB (xFz (xPr pEq (xCons (xFz (xPr pIxT (xCons (xFz (xVar 16)) (xCons (xC (.int 4)) xNil)))) (xCons (xC (.str "")) xNil))))) (xB (xFz (xPr pEq (xCons (xFz (xCallM 2 2 m__law_draw (xCons (xC (.int 2)) xNil))) (xCons (xC (.int 0)) xNil)))))) (xSl pSlT (xFz (xVar 16)) none (some (xC (.int 4)))) (xVar 16))))))
    (xSeq (xKl [false, false, false, false, false, true] (xParO 6 7 (xPr pListOf (xCons (xFz (xVar 3)) xNil)) (xPr pListOf (xCons (xFz (xVar 5)) xNil))))
    (xSeq (xSet 8 (xBor (xMk "Way" 3 m_Way___init__ (xCons (xFz (xVar 6)) (xCons (xFz (xVar 7)) xNil)))))
    (xSeq (xKl [false, false, false, false, false, false, true] (xDrop (xApp 6 (xFz (xPr pTup (xCons (xC (.str "touch")) xNil))))))
    (xSeq (xKl [false, false, false, false, false, false, false, true] (xDrop (xApp 7 (xC .non))))
    (xSeq (xSet 9 (xDp2 (xMt "Way" "nodes" 1 m_Way_nodes (xFz (xVar 8)) xNil) (xMt "Way" "arrows" 1 m_Way_arrows (xFz (xVar 8)) xNil)))
    (xSeq (xIf (xBorT (xOr (xB (xFz (xPr pNe (xCons (xFz (xVar 9)) (xCons (xFz (xPr pLst (xCons (xFz (xVar 3)) (xCons (xFz (xVar 4)) xNil)))) xNil))))) (xB (xFz (xPr pNe (xCons (xLenO "Way" m_Way___len__ (xFz (xVar 8))) (xCons (xFz (xPr pLen (xCons (xFz (xVar 3)) xNil))) xNil))))))) (xRet (xUp (xC (.bl false)))) xNx)
    (xSeq (xDrop (xAppD 9 (qC (.int 0)) (gcTup (gcCons (qC (.str "read")) gcNil))))
    (xSeq (xKl [false, false, false, false, false, false, false, false, false, true] (xDrop (xAppD 9 (qC (.int 1)) (gcTup (gcCons (qC (.int 0)) (gcCons (qC (.int 0)) (gcCons (qC (.int 1)) (gcCons (qC (.int 1)) (gcCons (qC (.str "")) gcNil)))))))))
    (xSeq (xIf (xB (xFz (xPr pNe (xCons (xFz (xPr pLst (xCons (xFz (xMt "Way" "nodes" 1 m_Way_nodes (xFz (xVar 8)) xNil)) (xCons (xFz (xMt "Way" "arrows" 1 m_Way_arrows (xFz (xVar 8)) xNil)) xNil)))) (xCons (xFz (xPr pLst (xCons (xFz (xVar 3)) (xCons (xFz (xVar 4)) xNil)))) xNil))))) (xRet (xUp (xC (.bl false)))) xNx)
    (xSeq (xIf (xB (xFz (xPr pNe (xCons (xFz (xLc [17] (xItR1 (xCons (xFz (xPr pLen (xCons (xFz (xVar 3)) xNil))) xNil)) (gNm 17) xYes (xFz (xO2 "Way" m_Way___getitem__ (xFz (xVar 8)) (xFz (xVar 17)))))) (xCons (xFz (xVar 3)) xNil))))) (xRet (xUp (xC (.bl false)))) xNx)
    (xSeq (xFor (xItR1 (xCons (xFz (xPr pLen (xCons (xFz (xVar 3)) xNil))) xNil)) (gNm 10) b2_law)
    (xSeq (xFor (xItL (xFz (xPr pLst (xCons (xFz (xPr pNeg (xCons (xC (.int 1)) xNil))) (xCons (xFz (xPr pLen (xCons (xFz (xVar 3)) xNil))) (xCons (xC .non) (xCons (xC (.bl true)) (xCons (xC (.str "0")) (xCons (xFz (xPr pLst (xCons (xC (.int 0)) xNil))) xNil))))))))) (gNm 13) b3_law)
    (xSeq (xIf (xOr (xEqO "Way" m_Way___eq__ true (xFz (xVar 8)) (xFz (xMk "Way" 3 m_Way___init__ (xCons (xFz (xPr pTupOf (xCons (xFz (xVar 3)) xNil))) (xCons (xFz (xPr pTupOf (xCons (xFz (xVar 4)) xNil))) xNil))))) (xEqA clsL ["list"] "Way" m_Way___eq__ (xFz (xVar 8)) (xFz (xVar 3)))) (xRet (xUp (xC (.bl false)))) xNx)
    (xSeq (xSet 14 (xSl pSlL (xFz (xVar 4)) none (some (xFz (xPr pNeg (xCons (xC (.int 1)) xNil))))))
    (xSeq (xIf (xOr (xAnd (xB (xFz (xPr pNe (xCons (xFz (xVar 4)) (xCons (xFz (xPr pLst xNil)) xNil))))) (xB (xFz (xPr pEq (xCons (xFz (xPr pLen (xCons (xFz (xVar 3)) xNil))) (xCons (xC (.int 1)) xNil)))))) (xB (xFz (xPr pEq (xCons (xFz (xVar 14)) (xCons (xFz (xVar 4)) xNil)))))) xCt xNx)
    (xIf (xB (xFz (xPr pNotN (xCons (xFz (xPr pIxT (xCons (xFz (xPr pIxL (xCons (xFz (xVar 4)) (xCons (xFz (xPr pNeg (xCons (xC (.int 1)) xNil))) xNil)))) (xCons (xC (.int 3)) xNil)))) (xCons (xC .non) xNil))))) (xSeq (xKl [false, false, false, false, true] (xSet 15 (xPr pCatT (xCons (xFz (xPr pCatT (xCons (xFz (xSl pSlT (xFz (xPr pIxL (xCons (xFz (xVar 4)) (xCons (xFz (xPr pNeg (xCons (xC (.int 1)) xNil))) xNil)))) none (some (xC (.int 3))))) (xCons (xFz (xPr pTup (xCons (xFz (xPr pAdd (xCons (xFz (xPr pIxT (xCons (xFz (xPr pIxL (xCons (xFz (xVar 4)) (xCons (xFz (xPr pNeg (xCons (xC (.int 1)) xNil))) xNil)))) (xCons (xC (.int 3)) xNil)))) (xCons (xC (.int 1)) xNil)))) xNil))) xNil)))) (xCons (xFz (xSl pSlT (xFz (xPr pIxL (xCons (xFz (xVar 4)) (xCons (xFz (xPr pNeg (xCons (xC (.int 1)) xNil))) xNil)))) (some (xC (.int 4))) none)) xNil)))))
    (xKl [false, false, false, true, false, false, false, false, true, false, false, false, false, false, true, true] (xIf (xEqO "Way" m_Way___eq__ false (xFz (xMk "Way" 3 m_Way___init__ (xCons (xFz (xVar 3)) (xCons (xFz (xPr pCat (xCons (xFz (xVar 14)) (xCons (xFz (xPr pLst (xCons (xFz (xVar 15)) xNil))) xNil)))) xNil)))) (xFz (xVar 8))) (xRet (xUp (xC (.bl false)))) xNx))) xNx))))))))))))))))))))
def m_law : FnT := fnM 17 ((xSeq (xKl [true] (xFor (xItR1 (xCons (xFz (xPr pMax2 (xCons (xC (.int 1)) (xCons (xFz (xPr pMin2 (xCons (xFz (xPr pLen (xCons (xFz (xVar 0)) xNil))) (xCons (xC (.int 20)) xNil)))) xNil)))) xNil)) (gNm 1) b4_law))
    (xRet (xUp (xC (.bl true))))))
theorem ok_law {P : Program} {w : World} {K : PySem.W.Frag} {mg : Str → Option Value} {base : Heap} {f : Addr} {fd : FuncData} (F : FnQ K "law" "law" s_law f fd) (V : Fcts faL K mg) (c__law_source : Fn P w K mg base "_law_source" ["script", "turn"] CX0 1 (spM K 2 m__law_source)) (c__law_draw : Fn P w K mg base "_law_draw" ["source", "amount"] CX0 1 (spM K 2 m__law_draw)) (c__law_plan : Fn P w K mg base "_law_plan" ["source", "many", "longest", "back", "ends"] CX0 4 (spM K 5 m__law_plan)) (c_Way___init__ : Nw P w K mg base "Way" (He.ga K "Way") ["self", "nodes", "arrows"] CX0 7 (spM K 3 m_Way___init__)) (c_Way_nodes : Mt P w K mg base (He.ga K "Way") "nodes" ["self"] CX0 1 (spM K 1 m_Way_nodes)) (c_Way_arrows : Mt P w K mg base (He.ga K "Way") "arrows" ["self"] CX0 1 (spM K 1 m_Way_arrows)) (c_Way___len__ : Mt P w K mg base (He.ga K "Way") "__len__" ["self"] CX0 1 (spM K 1 m_Way___len__)) (c_Way___getitem__ : Mt P w K mg base (He.ga K "Way") "__getitem__" ["self", "node"] CX0 3 (spM K 2 m_Way___getitem__)) (c_Way_arrow : Mt P w K mg base (He.ga K "Way") "arrow" ["self", "start", "goal"] CX0 3 (spM K 3 m_Way_arrow)) (c_Way___eq__ : Mt P w K mg base (He.ga K "Way") "__eq__" ["self", "other"] CX0 1 (spM K 2 m_Way___eq__)) :
    FnOk P w K mg base CX0 9 f fd ["script"] (spM K 1 m_law) :=
  xdef F sc_law rfl fun _ _ _ _ _ _ hr => (xss_cons (xs_kl [true] (xs_for (ps_for PassesOwn.never rfl (xi_r1 (pi_range1 (by rfl) V.b_range (xa_cons (xv (xe_cb ps_max2 (pe_callB (call_max2 rfl) (by rfl) V.b_max (by decide +kernel) (xa_cons (xe_c pe_int fun _ => rfl) (xa_cons (xv (xe_cb ps_min2 (pe_callB (call_min2 rfl) (by rfl) V.b_min (by decide +kernel) (xa_cons (xv (xe_cb ps_len (pe_callB call_len_seq (by rfl) V.b_len (by decide +kernel) (xa_cons (xv (xe_var (pv 0))) xa_nil)))) (xa_cons (xe_c pe_int fun _ => rfl) xa_nil))))) xa_nil))))) xa_nil))) (xg_name (pg_name (i := 1) sc_law.nd rfl (Or.inl rfl))) (show PSs _ _ (rdS K _ b4_law) from (xss_kb [false, true, true, true, true, true, true, true, true, true, true, true, true, true, true, true] (xss_cons (xs_kl [false, true] (xs_set (ps_set (i := 2) sc_law.nd rfl (Or.inr rfl) (xe_fn (pe_fn c__law_source hr pass0 (xa_cons (xv (xe_var (pv 0))) (xa_cons (xv (xe_var (pv 1))) xa_nil)))))))
    (xss_cons (xs_asg (ps_asg (xv (xe_fnM (pe_fn c__law_plan hr pass0 (pa_cons (pv 2) (xa_cons (xv (xe_op op_add ps_add (xe_c pe_int fun _ => rfl) (xv (xe_fnM (pe_fn c__law_draw hr pass0 (pa_cons (pv 2) (xa_cons (xe_c pe_int fun _ => rfl) xa_nil))))))) (xa_cons (xv (xe_ix ix_list ps_ixL (xv (xe_lst (xa_cons (xe_c pe_int fun _ => rfl) (xa_cons (xv (xe_op op_pow ps_pow (xe_c pe_int fun _ => rfl) (xe_c pe_int fun _ => rfl))) xa_nil)))) (xv (xe_fnM (pe_fn c__law_draw hr pass0 (pa_cons (pv 2) (xa_cons (xe_c pe_int fun _ => rfl) xa_nil))))) (fun _ _ => rfl))) (xa_cons (xv (xe_op op_pow ps_pow (xe_c pe_int fun _ => rfl) (xe_c pe_int fun _ => rfl))) (xa_cons (xe_c pe_bl fun _ => rfl) xa_nil)))))))) (xg_tup rfl (xgs_cons (xg_name (pg_name (i := 3) sc_law.nd rfl (Or.inl rfl))) (xgs_cons (xg_name (pg_name (i := 4) sc_law.nd rfl (Or.inl rfl))) xgs_nil)))))
    (xss_cons (xs_kl [false, false, true] (xs_setLc (vs := [16]) (g := (gName 16)) (gD := (gNm 16)) (go_name (by decide)) (ps_setLc (i := 5) (own := [("arrow", 16)]) (g := (gName 16)) (tt := rdT K xYes) (te := rdV K (xFz (xIfE (xAnd (xB (xFz (xPr pEq (xCons (xFz (xPr pIxT (xCons (xFz (xVar 16)) (xCons (xC (.int 4)) xNil)))) (xCons (xC (.str "")) xNil))))) (xB (xFz (xPr pEq (xCons (xFz (xCallM 2 2 m__law_draw (xCons (xC (.int 2)) xNil))) (xCons (xC (.int 0)) xNil)))))) (xSl pSlT (xFz (xVar 16)) none (some (xC (.int 4)))) (xVar 16)))) (by rfl) sc_law.nd rfl rfl (sw_true rfl rfl rfl (by decide +kernel)) (xi_list (pi_list (xv (xe_var (pv 4))))) (blkOk_by (own := [("arrow", 16)]) (N := ["script", "turn", "source", "nodes", "arrows", "some", "first", "second", "way", "told", "start", "goal", "due", "odd", "more", "bent", "arrow", "k"]) (sc := defScope s_law) (by decide +kernel)) (fun _ _ _ _ _ => (pg_name (i := 16) sc_law.nd rfl (Or.inl rfl))) (fun _ _ _ _ _ => xts_nil) (fun _ _ _ _ _ => (xv (xe_if (PW.pt (xw_and (xt_cmp (op_eqD hr.units) ps_eq (xv (xe_ix ix_tup ps_ixT (xv (xe_var (pv 16))) (xe_c pe_int fun _ => rfl) (fun _ _ => rfl))) (xe_c pe_str fun _ => rfl) (nomark _)) (pw_and1 (xt_cmp (op_eqD hr.units) ps_eq (xv (xe_fnM (pe_fn c__law_draw hr pass0 (pa_cons (pv 2) (xa_cons (xe_c pe_int fun _ => rfl) xa_nil))))) (xe_c pe_int fun _ => rfl) (nomark _))))) (xe_sl (lo := none) (hi := (some (xC (.int 4)))) ps_slT (pe_slice sl_tupA (xv (xe_var (pv 16))) po_none (po_some (xe_c pe_int fun _ => rfl)))) (xe_var (pv 16))))))))
    (xss_cons (xs_kl [false, false, false, false, false, true] (xs_parO (ps_par (i := 6) (j := 7) (by rfl) sc_law.nd rfl rfl (by decide) rfl rfl (pa_cons (xe_cb ps_listOf (pe_callTy call_list_of (by rfl) V.b_list (by decide +kernel) (xa_cons (xv (xe_var (pv 3))) xa_nil))) (pa_cons (xe_cb ps_listOf (pe_callTy call_list_of (by rfl) V.b_list (by decide +kernel) (xa_cons (xv (xe_var (pv 5))) xa_nil))) pa_nil)) (by rfl))))
    (xss_cons (xs_set (ps_set (i := 8) sc_law.nd rfl (Or.inr rfl) (xe_bor (xe_mk (c := "Way") (pe_nw c_Way___init__ hr pass0 (xa_cons (xv (xe_var (pv 6))) (xa_cons (xv (xe_var (pv 7))) xa_nil)))))))
    (xss_cons (xs_kl [false, false, false, false, false, false, true] (xs_drop (ps_expr (xe_app (pe_bm PySem.F.plainAttrs_list PySem.F.slot_list_append PySem.F.type_list_append mt_append (pv 6) (pa_cons (xv (xe_tup (xa_cons (xe_c pe_str fun _ => rfl) xa_nil))) pa_nil))))))
    (xss_cons (xs_kl [false, false, false, false, false, false, false, true] (xs_drop (ps_expr (xe_app (pe_bm PySem.F.plainAttrs_list PySem.F.slot_list_append PySem.F.type_list_append mt_append (pv 7) (pa_cons (xe_c pe_non fun _ => rfl) pa_nil))))))
    (xss_cons (xs_set (ps_set (i := 9) sc_law.nd rfl (Or.inl rfl) (xe_dp2 (pe_lst (pa_cons (xe_mt0 (c := "Way") (pe_mt0 (V.cl_Way) c_Way_nodes hr pass0 (xv (xe_var (pv 8))))) (pa_cons (xe_mt0 (c := "Way") (pe_mt0 (V.cl_Way) c_Way_arrows hr pass0 (xv (xe_var (pv 8))))) pa_nil))))))
    (xss_cons (xs_if (xt_bor (PW.pt (xw_or (xt_cmp (op_neD hr.units) ps_ne (xv (xe_var (pv 9))) (xv (xe_lst (xa_cons (xv (xe_var (pv 3))) (xa_cons (xv (xe_var (pv 4))) xa_nil)))) (nomark _)) (pw_or1 (xt_cmp (op_neD hr.units) ps_ne (xe_lenO (c := "Way") (pe_callB (call_lenO c_Way___len__ hr pass0) (by rfl) V.b_len (by decide +kernel) (pa_cons (xv (xe_var (pv 8))) pa_nil))) (xv (xe_cb ps_len (pe_callB call_len_seq (by rfl) V.b_len (by decide +kernel) (xa_cons (xv (xe_var (pv 3))) xa_nil)))) (nomark _)))))) (xss_one (xs_ret (xu (xe_c pe_bl fun _ => rfl)))) xss_nil)
    (xss_cons (xs_drop (ps_expr (xe_appD (pe_bm PySem.F.plainAttrs_list PySem.F.slot_list_append PySem.F.type_list_append mt_append (pe_ix ix_list (pv 9) (xq_c pe_int fun _ => rfl) (fun _ _ => rfl)) (pa_cons (xc_tup (xcs_cons (xc_q (xq_c pe_str fun _ => rfl)) xcs_nil)) pa_nil)))))
    (xss_cons (xs_kl [false, false, false, false, false, false, false, false, false, true] (xs_drop (ps_expr (xe_appD (pe_bm PySem.F.plainAttrs_list PySem.F.slot_list_append PySem.F.type_list_append mt_append (pe_ix ix_list (pv 9) (xq_c pe_int fun _ => rfl) (fun _ _ => rfl)) (pa_cons (xc_tup (xcs_cons (xc_q (xq_c pe_int fun _ => rfl)) (xcs_cons (xc_q (xq_c pe_int fun _ => rfl)) (xcs_cons (xc_q (xq_c pe_int fun _ => rfl)) (xcs_cons (xc_q (xq_c pe_int fun _ => rfl)) (xcs_cons (xc_q (xq_c pe_str fun _ => rfl)) xcs_nil)))))) pa_nil))))))
    (xss_cons (xs_if (xt_cmp (op_neD hr.units) ps_ne (xv (xe_lst (xa_cons (xv (xe_mt0 (c := "Way") (pe_mt0 (V.cl_Way) c_Way_nodes hr pass0 (xv (xe_var (pv 8)))))) (xa_cons (xv (xe_mt0 (c := "Way") (pe_mt0 (V.cl_Way) c_Way_arrows hr pass0 (xv (xe_var (pv 8)))))) xa_nil)))) (xv (xe_lst (xa_cons (xv (xe_var (pv 3))) (xa_cons (xv (xe_var (pv 4))) xa_nil)))) (nomark _)) (xss_one (xs_ret (xu (xe_c pe_bl fun _ => rfl)))) xss_nil)
    (xss_cons (xs_if (xt_cmp (op_neD hr.units) ps_ne (xv (xe_lc (vs := [17]) (g := (gName 17)) (gD := (gNm 17)) (go_name (by decide)) (pe_lc (own := [("k", 17)]) (g := (gName 17)) (tt := rdT K xYes) (te := rdV K (xFz (xO2 "Way" m_Way___getitem__ (xFz (xVar 8)) (xFz (xVar 17))))) (by rfl) sc_law.nd  (xi_r1 (pi_range1 (by rfl) V.b_range (xa_cons (xv (xe_cb ps_len (pe_callB call_len_seq (by rfl) V.b_len (by decide +kernel) (xa_cons (xv (xe_var (pv 3))) xa_nil)))) xa_nil))) (blkOk_by (own := [("k", 17)]) (N := ["script", "turn", "source", "nodes", "arrows", "some", "first", "second", "way", "told", "start", "goal", "due", "odd", "more", "bent", "arrow", "k"]) (sc := defScope s_law) (by decide +kernel)) (fun _ _ _ _ _ => (pg_name (i := 17) sc_law.nd rfl (Or.inl rfl))) (fun _ _ _ _ _ => xts_nil) (fun _ _ _ _ _ => (xv (xe_oix (c := "Way") (pe_oix c_Way___getitem__ V.fi_Way hr pass0 (xv (xe_var (pv 8))) (xv (xe_var (pv 17)))))))))) (xv (xe_var (pv 3))) (nomark _)) (xss_one (xs_ret (xu (xe_c pe_bl fun _ => rfl)))) xss_nil)
    (xss_cons (xs_for (ps_for PassesOwn.never rfl (xi_r1 (pi_range1 (by rfl) V.b_range (xa_cons (xv (xe_cb ps_len (pe_callB call_len_seq (by rfl) V.b_len (by decide +kernel) (xa_cons (xv (xe_var (pv 3))) xa_nil)))) xa_nil))) (xg_name (pg_name (i := 10) sc_law.nd rfl (Or.inr rfl))) (show PSs _ _ (rdS K _ b2_law) from (xss_kb [false, false, false, false, false, false, false, false, false, false, true, true, true] (xss_one (xs_for (ps_for PassesOwn.never rfl (xi_r1 (pi_range1 (by rfl) V.b_range (xa_cons (xv (xe_cb ps_len (pe_callB call_len_seq (by rfl) V.b_len (by decide +kernel) (xa_cons (xv (xe_var (pv 3))) xa_nil)))) xa_nil))) (xg_name (pg_name (i := 11) sc_law.nd rfl (Or.inr rfl))) (show PSs _ _ (rdS K _ b1_law) from (xss_kb [false, false, false, false, false, false, false, false, false, false, false, true, true] (xss_cons (xs_setLc (vs := [16]) (g := (gName 16)) (gD := (gNm 16)) (go_name (by decide)) (ps_setLc (i := 12) (own := [("arrow", 16)]) (g := (gName 16)) (tt := rdT K (xB (xFz (xPr pEq (xCons (xFz (xSl pSlT (xFz (xVar 16)) none (some (xC (.int 2))))) (xCons (xFz (xPr pTup (xCons (xFz (xVar 10)) (xCons (xFz (xVar 11)) xNil)))) xNil)))))) (te := rdV K (xFz (xVar 16))) (by rfl) sc_law.nd rfl rfl (sw_true rfl rfl rfl (by decide +kernel)) (xi_list (pi_list (xv (xe_var (pv 4))))) (blkOk_by (own := [("arrow", 16)]) (N := ["script", "turn", "source", "nodes", "arrows", "some", "first", "second", "way", "told", "start", "goal", "due", "odd", "more", "bent", "arrow", "k"]) (sc := defScope s_law) (by decide +kernel)) (fun _ _ _ _ _ => (pg_name (i := 16) sc_law.nd rfl (Or.inl rfl))) (fun _ _ _ _ _ => (pts_one (xt_cmp (op_eqD hr.units) ps_eq (xv (xe_sl (lo := none) (hi := (some (xC (.int 2)))) ps_slT (pe_slice sl_tupA (xv (xe_var (pv 16))) po_none (po_some (xe_c pe_int fun _ => rfl))))) (xv (xe_tup (xa_cons (xv (xe_var (pv 10))) (xa_cons (xv (xe_var (pv 11))) xa_nil)))) (nomark _)))) (fun _ _ _ _ _ => (xv (xe_var (pv 16))))))
    (xss_one (xs_if (xt_cmp (op_neD hr.units) ps_ne (xv (xe_mt (c := "Way") (pe_mt (V.cl_Way) c_Way_arrow hr pass0 (xv (xe_var (pv 8))) (xa_cons (xv (xe_var (pv 10))) (xa_cons (xv (xe_var (pv 11))) xa_nil))))) (xv (xe_if (xt_cmp (op_neD hr.units) ps_ne (xv (xe_var (pv 12))) (xv (xe_lst xa_nil)) (nomark _)) (xe_ix ix_list ps_ixL (xv (xe_var (pv 12))) (xe_c pe_int fun _ => rfl) (fun _ _ => rfl)) (xu (xe_c pe_non fun _ => rfl)))) (nomark _)) (xss_one (xs_ret (xu (xe_c pe_bl fun _ => rfl)))) xss_nil))))))))))))
    (xss_cons (xs_for (ps_for PassesOwn.never rfl (xi_list (pi_list (xv (xe_lst (xa_cons (xv (xe_un un_neg ps_neg (xe_c pe_int fun _ => rfl))) (xa_cons (xv (xe_cb ps_len (pe_callB call_len_seq (by rfl) V.b_len (by decide +kernel) (xa_cons (xv (xe_var (pv 3))) xa_nil)))) (xa_cons (xe_c pe_non fun _ => rfl) (xa_cons (xe_c pe_bl fun _ => rfl) (xa_cons (xe_c pe_str fun _ => rfl) (xa_cons (xv (xe_lst (xa_cons (xe_c pe_int fun _ => rfl) xa_nil))) xa_nil)))))))))) (xg_name (pg_name (i := 13) sc_law.nd rfl (Or.inl rfl))) (show PSs _ _ (rdS K _ b3_law) from (xss_kb [false, false, false, false, false, false, false, false, false, false, false, false, false, true] (xss_one (xs_if (PW.pt (xw_or (xt_cmp op_notN ps_notN (xv (xe_mt (c := "Way") (pe_mt (V.cl_Way) c_Way_arrow hr pass0 (xv (xe_var (pv 8))) (xa_cons (xv (xe_var (pv 13))) (xa_cons (xe_c pe_int fun _ => rfl) xa_nil))))) (xe_c pe_non fun _ => rfl) (nomark _)) (pw_or1 (xt_cmp op_notN ps_notN (xv (xe_mt (c := "Way") (pe_mt (V.cl_Way) c_Way_arrow hr pass0 (xv (xe_var (pv 8))) (xa_cons (xe_c pe_int fun _ => rfl) (xa_cons (xv (xe_var (pv 13))) xa_nil))))) (xe_c pe_non fun _ => rfl) (nomark _))))) (xss_one (xs_ret (xu (xe_c pe_bl fun _ => rfl)))) xss_nil))))))
    (xss_cons (xs_if (PW.pt (xw_or (xt_neO (c := "Way") V.cf (by decide +kernel) V.f_Way (pt_cmpR (op_neC c_Way___eq__ V.ne_Way V.ob_Way hr pass0) (xv (xe_var (pv 8))) (xv (xe_mk (c := "Way") (pe_nw c_Way___init__ hr pass0 (xa_cons (xv (xe_cb ps_tupOf (pe_callTy call_tuple_of (by rfl) V.b_tuple (by decide +kernel) (xa_cons (xv (xe_var (pv 3))) xa_nil)))) (xa_cons (xv (xe_cb ps_tupOf (pe_callTy call_tuple_of (by rfl) V.b_tuple (by decide +kernel) (xa_cons (xv (xe_var (pv 4))) xa_nil)))) xa_nil))))) (nomark _))) (pw_or1 (xt_eqA (l := ["list"]) V.cf (fun t h => by cases List.mem_singleton.mp h; exact V.nt_Way_list) V.no_Way (pt_cmpR (op_cmpC (op := .Eq) c_Way___eq__ hr pass0) (xv (xe_var (pv 8))) (xv (xe_var (pv 3))) (nomark _)))))) (xss_one (xs_ret (xu (xe_c pe_bl fun _ => rfl)))) xss_nil)
    (xss_cons (xs_set (ps_set (i := 14) sc_law.nd rfl (Or.inl rfl) (xe_sl (lo := none) (hi := (some (xFz (xPr pNeg (xCons (xC (.int 1)) xNil))))) ps_slL (pe_slice sl_list (xv (xe_var (pv 4))) po_none (po_some (xv (xe_un un_neg ps_neg (xe_c pe_int fun _ => rfl))))))))
    (xss_cons (xs_if (PW.pt (xw_or (PW.pt (xw_and (xt_cmp (op_neD hr.units) ps_ne (xv (xe_var (pv 4))) (xv (xe_lst xa_nil)) (nomark _)) (pw_and1 (xt_cmp (op_eqD hr.units) ps_eq (xv (xe_cb ps_len (pe_callB call_len_seq (by rfl) V.b_len (by decide +kernel) (xa_cons (xv (xe_var (pv 3))) xa_nil)))) (xe_c pe_int fun _ => rfl) (nomark _))))) (pw_or1 (xt_cmp (op_eqD hr.units) ps_eq (xv (xe_var (pv 14))) (xv (xe_var (pv 4))) (nomark _))))) (xss_one xs_ct) xss_nil)
    (xss_one (xs_if (xt_cmp op_notN ps_notN (xv (xe_ix ix_tup ps_ixT (xv (xe_ix ix_list ps_ixL (xv (xe_var (pv 4))) (xv (xe_un un_neg ps_neg (xe_c pe_int fun _ => rfl))) (fun _ _ => rfl))) (xe_c pe_int fun _ => rfl) (fun _ _ => rfl))) (xe_c pe_non fun _ => rfl) (nomark _)) (xss_cons (xs_kl [false, false, false, false, true] (xs_set (ps_set (i := 15) sc_law.nd rfl (Or.inl rfl) (xe_op op_catA ps_catT (xv (xe_op op_catA ps_catT (xv (xe_sl (lo := none) (hi := (some (xC (.int 3)))) ps_slT (pe_slice sl_tupA (xv (xe_ix ix_list ps_ixL (xv (xe_var (pv 4))) (xv (xe_un un_neg ps_neg (xe_c pe_int fun _ => rfl))) (fun _ _ => rfl))) po_none (po_some (xe_c pe_int fun _ => rfl))))) (xv (xe_tup (xa_cons (xv (xe_op op_add ps_add (xv (xe_ix ix_tup ps_ixT (xv (xe_ix ix_list ps_ixL (xv (xe_var (pv 4))) (xv (xe_un un_neg ps_neg (xe_c pe_int fun _ => rfl))) (fun _ _ => rfl))) (xe_c pe_int fun _ => rfl) (fun _ _ => rfl))) (xe_c pe_int fun _ => rfl))) xa_nil))))) (xv (xe_sl (lo := (some (xC (.int 4)))) (hi := none) ps_slT (pe_slice sl_tupA (xv (xe_ix ix_list ps_ixL (xv (xe_var (pv 4))) (xv (xe_un un_neg ps_neg (xe_c pe_int fun _ => rfl))) (fun _ _ => rfl))) (po_some (xe_c pe_int fun _ => rfl)) po_none)))))))
    (xss_one (xs_kl [false, false, false, true, false, false, false, false, true, false, false, false, false, false, true, true] (xs_if (xt_eqO (c := "Way") V.cf (by decide +kernel) V.f_Way (pt_cmpR (op_cmpC (op := .Eq) c_Way___eq__ hr pass0) (xv (xe_mk (c := "Way") (pe_nw c_Way___init__ hr pass0 (xa_cons (xv (xe_var (pv 3))) (xa_cons (xv (xe_op op_cat ps_cat (xv (xe_var (pv 14))) (xv (xe_lst (xa_cons (xv (xe_var (pv 15))) xa_nil))))) xa_nil))))) (xv (xe_var (pv 8))) (nomark _))) (xss_one (xs_ret (xu (xe_c pe_bl fun _ => rfl)))) xss_nil)))) xss_nil)))))))))))))))))))))))))
    (xss_one (xs_ret (xu (xe_c pe_bl fun _ => rfl)))))
end Ag
namespace Ag
open PySem
local macro_rules | `(tactic| push_cast [$ls,*]) => `(tactic| simp -implicitDefEqProofs only [xFz_e, xUp_e, xVar_f, xC_e, xNil_e, xCons_e, xPr_e, xB_e, xAnd_e, xOr_e, xNot_e, xOfB_e, xIfE_e, xYes_e, xChain_f, chB_b, xSet_e, xDrop_e, xRet_e, xRetN_e, xRetV_e, xNx_e, xBk_e, xCt_e, xNever_e, xIf_e, xSeq_e, gNm_e, gTp_e, gsNil_e, gsCons_e, xAsg_e, xPar_e, xFor_e, xItL_e, xItT_e, xItR1_e, xItR2_e, xItE_e, xItEt_e, gPutD_e, fnM_e, xCall_e, xMt_e, xPrp_e, xFld_e, xBor_e, xBorV_e, xBorT_e, xCallM_e, xMtM_e, xMk_e, qVar_e, qC_e, xIxP_e, xPutP_e, xInP_e, xApp_e, xExt_e, xFldS_e, xFS_e, xLc_e, xSl_e, xStar_e, xIsi_e, xIsi2_e, xO2_e, xLenO_e, xEqO_e, xDict0_e, xAndV_e, xOrV_e, bnd_some, bnd_none, xeNo_e, mkO_e, xAllL_n, xAllL_c, xMtT_e, xFnT2_e, xDict0T_e, xDisp_e, xGet2_e, xMkR_e, xMkS_e, xMkK_e, xDUp_e, xMv_e, xItK_e, xItI_e, xKl_e, xKb_e, xFr_e, killO_nx, killO_rt, killO_bk, killO_ct, killB_nx, killB_rt, killB_bk, killB_ct, klM_n, klM_t, klM_f, kill_pw, kill_ow, kill_va, kill_no, frE_z, frE_s, frz_pw, frz_ow, frz_va, frz_no, Option.bind_some, Option.bind_none, List.getElem?_cons_zero, List.getElem?_cons_succ, List.getElem?_nil, List.set_cons_zero, List.set_cons_succ, List.map_cons, List.map_nil, List.length_cons, List.length_nil, List.cons_append, List.nil_append, List.replicate_succ, List.replicate_zero, viewE, view_va, view_ow, view_no, view_pw, fz_va, fz_ow, fz_no, fz_pw, own_va, own_ow, own_no, own_pw, ofz_1, ofz_2, o1_l, o1_d, o1_t, fvz_v, fvz_o, putS_e, putR, np_no, np_va, np_ow, np_pw, np_view, freeS_e, Option.map_some, Option.map_none, Option.getD_some, Option.getD_none, pEq_i, pNe_i, pInT_e, pNinT_e, pIsN_e, pNotN_e, pIsB_e, pNotB_e, fl_n, fl_i, fl_s, fl_b, isN_n, isN_i, isN_t, isN_s, isN_b, isN_l, ownAt, reAt, pinned, leafAt, setLeaf, getO, putO, isLst, List.any_cons, List.any_nil, Bool.or_true, Bool.true_or, Bool.or_false, Bool.false_or, Bool.not_true, Bool.not_false, Bool.and_true, Bool.true_and, Bool.and_false, Bool.false_and, D.flat, D.flatL, D.leaf, Sl.leaf, O1.leaf, O2.leaf, Fv.leaf, wipeE, List.all_cons, List.all_nil, if_true, if_false, ite_true, ite_false, reduceIte, Bool.false_eq_true, decide_true, decide_false, reduceCtorEq, and_self, true_and, and_true, and_false, false_and, ixN_lit, ixN_nat, atI_nat, pLst_e, pTup_e, Nat.reduceAdd, Nat.reduceLT, Nat.reduceLeDiff, Nat.lt_add_left_iff_pos, Nat.zero_lt_succ, pPow_e, Int.reducePow, Int.reduceToNat, Int.reduceLT, not_true_eq_false, not_false_eq_true, pAdd_e, pSub_e, pLt_e, pLe_e, pGt_e, pGe_e, pNeg_e, pMul_e, pDiv_e, pMod_e, pAbs_e, pInt_e, pMax2_e, pMin2_e, pLenL_e, pLenS_e, pLenT_e, pIxL_e, pIxS_e, pIxT_e, atI_lit, ge_iff_le, gt_iff_lt, $ls,*])
local macro_rules | `(tactic| dsimp! [$ls,*]) => `(tactic| (push_cast [$ls,*]; repeat (with_reducible refine res_step ?_; push_cast [$ls,*])))
local macro_rules | `(tactic| simp_all! [$ls,*]) => `(tactic| dsimp! [isD_non_int, isD_non_bool, isD_non_str, isD_non_list, isD_non_tuple, isD_non_dict, isD_non_o, isD_bl_int, isD_bl_bool, isD_bl_str, isD_bl_list, isD_bl_tuple, isD_bl_dict, isD_bl_o, isD_int_int, isD_int_bool, isD_int_str, isD_int_list, isD_int_tuple, isD_int_dict, isD_int_o, isD_str_int, isD_str_bool, isD_str_str, isD_str_list, isD_str_tuple, isD_str_dict, isD_str_o, isD_scr_int, isD_scr_bool, isD_scr_str, isD_scr_list, isD_scr_tuple, isD_scr_dict, isD_scr_o, isD_lst_int, isD_lst_bool, isD_lst_str, isD_lst_list, isD_lst_tuple, isD_lst_dict, isD_lst_o, isD_tup_int, isD_tup_bool, isD_tup_str, isD_tup_list, isD_tup_tuple, isD_tup_dict, isD_tup_o, isD_dct_int, isD_dct_bool, isD_dct_str, isD_dct_list, isD_dct_tuple, isD_dct_dict, isD_dct_o, isD_dcT_int, isD_dcT_bool, isD_dcT_str, isD_dcT_list, isD_dcT_tuple, isD_dcT_dict, isD_dcT_o, isD_obj_o, $ls,*])
local macro_rules | `(tactic| walk_at "rb") => `(tactic| repeat (with_reducible refine res_bind ?_))
theorem log2_lt {n k : Nat} (h : n < 2 ^ k) (hk : 0 < k) : n.log2 < k := by
  by_cases h0 : n = 0
  · subst h0; simpa using hk
  · exact (Nat.log2_lt h0).mpr h
theorem log2_b {x : Int} {k : Nat} (h0 : 0 ≤ x) (h : x < 2 ^ k) (hk : 0 < k) : x.natAbs.log2 < k := log2_lt (by
  have : (x.natAbs : Int) < ((2 ^ k : Nat) : Int) := by rw [Int.natAbs_of_nonneg h0]; simpa using h
  exact_mod_cast this) hk
theorem lg_mod (x : Int) : (x % 2147483647).natAbs.log2 < 32 := log2_b (Int.emod_nonneg _ (by decide)) (by have := Int.emod_lt_of_pos x (show (0:Int) < 2147483647 by decide); omega) (by decide)
theorem lg_mod2 (x : Int) : (x % 2147483629).natAbs.log2 < 32 := log2_b (Int.emod_nonneg _ (by decide)) (by have := Int.emod_lt_of_pos x (show (0:Int) < 2147483629 by decide); omega) (by decide)
theorem lg_mod3 (x : Int) : (x % 2147483629 / 64).natAbs.log2 < 32 := log2_b (by have := Int.emod_nonneg x (show (2147483629 : Int) ≠ 0 by decide); omega) (by have := Int.emod_lt_of_pos x (show (0:Int) < 2147483629 by decide); omega) (by decide)
theorem lgm2 (x y : Int) : ((x % 2147483647).natAbs.log2 + (y % 2147483647).natAbs.log2 < 1000000) = True := by
  have h1 := lg_mod x
  have h2 := lg_mod y
  exact eq_true (by omega)
theorem lgm3 (x : Int) : ((x % 2147483629).natAbs.log2 + (Int.natAbs 16807).log2 < 1000000) = True := by
  have h1 := lg_mod2 x
  have h2 : (Int.natAbs 16807).log2 < 20 := by decide
  exact eq_true (by omega)
theorem lgm4 (x : Int) : ((x % 2147483629 / 64).natAbs.log2 + (Int.natAbs 33554393).log2 < 1000000) = True := by
  have h1 := lg_mod3 x
  have h2 : (Int.natAbs 33554393).log2 < 40 := by decide
  exact eq_true (by omega)
theorem lgm5 (x : Int) : ((x % 2147483647).natAbs.log2 + (Int.natAbs 39373).log2 < 1000000) = True := by
  have h1 := lg_mod x
  have h2 : (Int.natAbs 39373).log2 < 40 := by decide
  exact eq_true (by omega)
structure SrcI (a b : Int) : Prop where
  a0 : 0 ≤ a
  b0 : 0 ≤ b
  b1 : b < 2147483647
def src (a b : Int) : O2 := .o1 (.lst [.int a, .int b])
theorem draw_spec (a b m : Int) (hs : SrcI a b) (hm : 0 < m) (hm2 : m < 2 ^ 8000) : ∃ r a' b', m__law_draw [.pw (src a b), .va (.int m)] = some (.va (.int r), [.pw (src a' b'), .va (.int m)]) ∧ SrcI a' b' ∧ 0 ≤ r ∧ r < m := by
  have hl : m.natAbs.log2 < 9000 := by have := log2_b (Int.le_of_lt hm) hm2 (by decide); omega
  obtain ⟨ha, hb, hb2⟩ := hs
  unfold m__law_draw src
  by_cases h : 0 < a
  · push_cast [h, hm, hl]
    exact ⟨_, _, _, rfl, ⟨Int.ediv_nonneg ha (Int.le_of_lt hm), hb, hb2⟩, Int.emod_nonneg _ (by omega), Int.emod_lt_of_pos _ hm⟩
  · have f1 : b.natAbs.log2 + (Int.natAbs 48271).log2 < 1000000 := by
      have := log2_b (k := 32) hb (by omega) (by decide)
      have : (Int.natAbs 48271).log2 < 40 := by decide
      omega
    have f2 : (Int.natAbs 64).log2 < 9000 := by decide
    have f3 : Int.natAbs 10 < 2 ^ 64 := by decide
    have m1 : ∀ x : Int, 0 ≤ x % 2147483647 := fun x => Int.emod_nonneg x (by decide)
    have m2 : ∀ x : Int, x % 2147483647 < 2147483647 := fun x => Int.emod_lt_of_pos x (by decide)
    by_cases h2 : 10000000 < m
    · push_cast [h, hm, hl, f1, f2, f3, lgm2, lgm4, lgm5, h2, Int.reduceLE]
      exact ⟨_, _, _, rfl, ⟨ha, m1 _, m2 _⟩, Int.emod_nonneg _ (by omega), Int.emod_lt_of_pos _ hm⟩
    · push_cast [h, hm, hl, f1, f2, f3, lgm2, lgm4, lgm5, h2, Int.reduceLE]
      exact ⟨_, _, _, rfl, ⟨ha, m1 _, m2 _⟩, Int.emod_nonneg _ (by omega), Int.emod_lt_of_pos _ hm⟩
end Ag
namespace Ag
structure Ar where
  s : Nat
  g : Nat
  l : Int
  m : Option Int
  w : PySem.Str
  deriving DecidableEq
def relax (found : List Bool) (a : Ar) : List Bool := if (found.getD a.s false && !decide (a.w = "anew")) = true then found.set a.g true else found
def passF (as : List Ar) (found : List Bool) : List Bool := as.foldl relax found
def reachF (as : List Ar) : Nat → List Bool → List Bool
  | 0, found => found
  | n + 1, found => reachF as n (passF as found)
theorem relax_len (found : List Bool) (a : Ar) : (relax found a).length = found.length := by
  unfold relax
  split
  · rw [List.length_set]
  · rfl
theorem pass_len : ∀ (as : List Ar) (found : List Bool), (passF as found).length = found.length
  | [], _ => rfl
  | a :: r, found => by
    show (passF r (relax found a)).length = _
    rw [pass_len r, relax_len]
theorem reach_len (as : List Ar) : ∀ (n : Nat) (found : List Bool), (reachF as n found).length = found.length
  | 0, _ => rfl
  | n + 1, found => by
    show (reachF as n (passF as found)).length = _
    rw [reach_len as n, pass_len]
theorem relax_mono {found : List Bool} {a : Ar} {i : Nat} (h : found.getD i false = true) : (relax found a).getD i false = true := by
  unfold relax
  split
  · rw [List.getD_eq_getElem?_getD, List.getElem?_set]
    rw [List.getD_eq_getElem?_getD] at h
    split
    · rename_i e
      subst e
      split
      · rfl
      · rename_i hl
        rw [List.getElem?_eq_none (by omega)] at h
        exact h
    · exact h
  · exact h
theorem pass_mono {i : Nat} : ∀ {as : List Ar} {found : List Bool}, found.getD i false = true → (passF as found).getD i false = true
  | [], _, h => h
  | a :: r, found, h => pass_mono (as := r) (found := relax found a) (relax_mono h)
theorem pass_hits {a : Ar} : ∀ {as : List Ar} {found : List Bool}, a ∈ as → a.w ≠ "anew" → a.g < found.length → found.getD a.s false = true → (passF as found).getD a.g false = true
  | b :: r, found, h, hw, hg, hs => by
    show (passF r (relax found b)).getD a.g false = true
    rcases List.mem_cons.mp h with e | h
    · subst e
      refine pass_mono ?_
      unfold relax
      rw [hs, decide_eq_false hw]
      show (found.set a.g true).getD a.g false = true
      rw [List.getD_eq_getElem?_getD, List.getElem?_set, if_pos rfl, if_pos hg]
      rfl
    · exact pass_hits h hw (by rw [relax_len]; exact hg) (relax_mono hs)
def Tree (mk : List Bool) (as : List Ar) : Prop := ∀ g, g < mk.length → mk.getD g false = false → ∃ a ∈ as, a.g = g ∧ a.s < g ∧ a.w ≠ "anew"
theorem reach_upto {mk : List Bool} {as : List Ar} (t : Tree mk as) : ∀ {n : Nat} {found : List Bool} (k : Nat), found.length = mk.length → (∀ i, mk.getD i false = true → found.getD i false = true) → (∀ i, i < k → i < mk.length → found.getD i false = true) →
    ∀ i, i < k + n → i < mk.length → (reachF as n found).getD i false = true
  | 0, found, k, _, _, h => h
  | n + 1, found, k, hl, hm, h => fun i hi hn => by
    show (reachF as n (passF as found)).getD i false = true
    refine reach_upto t (k + 1) (by rw [pass_len]; exact hl) (fun i z => pass_mono (hm i z)) (fun i hi hn => ?_) i (by omega) hn
    by_cases hk : i < k
    · exact pass_mono (h i hk hn)
    · cases hmk : mk.getD i false with
      | true => exact pass_mono (hm i hmk)
      | false =>
        obtain ⟨a, ha, e, lt, nw⟩ := t i hn hmk
        have := pass_hits (found := found) ha nw (by rw [e, hl]; exact hn) (h a.s (by omega) (by omega))
        rw [e] at this
        exact this
theorem reach_all {mk : List Bool} {as : List Ar} (t : Tree mk as) : ∀ i, i < mk.length → (reachF as mk.length mk).getD i false = true := fun i hi =>
  reach_upto t 0 rfl (fun _ z => z) (fun i h => by omega) i (by omega) hi
end Ag
namespace Ag
open PySem L2
local macro_rules | `(tactic| push_cast [$ls,*]) => `(tactic| simp -implicitDefEqProofs only [xFz_e, xUp_e, xVar_f, xC_e, xNil_e, xCons_e, xPr_e, xB_e, xAnd_e, xOr_e, xNot_e, xOfB_e, xIfE_e, xYes_e, xChain_f, chB_b, xSet_e, xDrop_e, xRet_e, xRetN_e, xRetV_e, xNx_e, xBk_e, xCt_e, xNever_e, xIf_e, xSeq_e, gNm_e, gTp_e, gsNil_e, gsCons_e, xAsg_e, xPar_e, xFor_e, xItL_e, xItT_e, xItR1_e, xItR2_e, xItE_e, xItEt_e, gPutD_e, fnM_e, xCall_e, xMt_e, xPrp_e, xFld_e, xBor_e, xBorV_e, xBorT_e, xCallM_e, xMtM_e, xMk_e, qVar_e, qC_e, xIxP_e, xPutP_e, xInP_e, xApp_e, xExt_e, xFldS_e, xFS_e, xLc_e, xSl_e, xStar_e, xIsi_e, xIsi2_e, xO2_e, xLenO_e, xEqO_e, xDict0_e, xAndV_e, xOrV_e, bnd_some, bnd_none, xeNo_e, mkO_e, xAllL_n, xAllL_c, xMtT_e, xFnT2_e, xDict0T_e, xDisp_e, xGet2_e, xMkR_e, xMkS_e, xMkK_e, xDUp_e, xMv_e, xItK_e, xItI_e, xKl_e, xKb_e, xFr_e, killO_nx, killO_rt, killO_bk, killO_ct, killB_nx, killB_rt, killB_bk, killB_ct, klM_n, klM_t, klM_f, kill_pw, kill_ow, kill_va, kill_no, frE_z, frE_s, frz_pw, frz_ow, frz_va, frz_no, Option.bind_some, Option.bind_none, List.getElem?_cons_zero, List.getElem?_cons_succ, List.getElem?_nil, List.set_cons_zero, List.set_cons_succ, List.map_cons, List.map_nil, List.length_cons, List.length_nil, List.cons_append, List.nil_append, List.replicate_succ, List.replicate_zero, viewE, view_va, view_ow, view_no, view_pw, fz_va, fz_ow, fz_no, fz_pw, own_va, own_ow, own_no, own_pw, ofz_1, ofz_2, o1_l, o1_d, o1_t, fvz_v, fvz_o, putS_e, putR, np_no, np_va, np_ow, np_pw, np_view, freeS_e, Option.map_some, Option.map_none, Option.getD_some, Option.getD_none, pEq_i, pNe_i, pInT_e, pNinT_e, pIsN_e, pNotN_e, pIsB_e, pNotB_e, fl_n, fl_i, fl_s, fl_b, isN_n, isN_i, isN_t, isN_s, isN_b, isN_l, ownAt, reAt, pinned, leafAt, setLeaf, getO, putO, isLst, List.any_cons, List.any_nil, Bool.or_true, Bool.true_or, Bool.or_false, Bool.false_or, Bool.not_true, Bool.not_false, Bool.and_true, Bool.true_and, Bool.and_false, Bool.false_and, D.flat, D.flatL, D.leaf, Sl.leaf, O1.leaf, O2.leaf, Fv.leaf, wipeE, List.all_cons, List.all_nil, if_true, if_false, ite_true, ite_false, reduceIte, Bool.false_eq_true, decide_true, decide_false, reduceCtorEq, and_self, true_and, and_true, and_false, false_and, ixN_lit, ixN_nat, atI_nat, pLst_e, pTup_e, Nat.reduceAdd, Nat.reduceLT, Nat.reduceLeDiff, Nat.lt_add_left_iff_pos, Nat.zero_lt_succ, pPow_e, Int.reducePow, Int.reduceToNat, Int.reduceLT, not_true_eq_false, not_false_eq_true, pAdd_e, pSub_e, pLt_e, pLe_e, pGt_e, pGe_e, pNeg_e, pMul_e, pDiv_e, pMod_e, pAbs_e, pInt_e, pMax2_e, pMin2_e, pLenL_e, pLenS_e, pLenT_e, pIxL_e, pIxS_e, pIxT_e, atI_lit, ge_iff_le, gt_iff_lt, $ls,*])
local macro_rules | `(tactic| dsimp! [$ls,*]) => `(tactic| (push_cast [$ls,*]; repeat (with_reducible refine res_step ?_; push_cast [$ls,*])))
local macro_rules | `(tactic| simp_all! [$ls,*]) => `(tactic| dsimp! [isD_non_int, isD_non_bool, isD_non_str, isD_non_list, isD_non_tuple, isD_non_dict, isD_non_o, isD_bl_int, isD_bl_bool, isD_bl_str, isD_bl_list, isD_bl_tuple, isD_bl_dict, isD_bl_o, isD_int_int, isD_int_bool, isD_int_str, isD_int_list, isD_int_tuple, isD_int_dict, isD_int_o, isD_str_int, isD_str_bool, isD_str_str, isD_str_list, isD_str_tuple, isD_str_dict, isD_str_o, isD_scr_int, isD_scr_bool, isD_scr_str, isD_scr_list, isD_scr_tuple, isD_scr_dict, isD_scr_o, isD_lst_int, isD_lst_bool, isD_lst_str, isD_lst_list, isD_lst_tuple, isD_lst_dict, isD_lst_o, isD_tup_int, isD_tup_bool, isD_tup_str, isD_tup_list, isD_tup_tuple, isD_tup_dict, isD_tup_o, isD_dct_int, isD_dct_bool, isD_dct_str, isD_dct_list, isD_dct_tuple, isD_dct_dict, isD_dct_o, isD_dcT_int, isD_dcT_bool, isD_dcT_str, isD_dcT_list, isD_dcT_tuple, isD_dcT_dict, isD_dcT_o, isD_obj_o, $ls,*])
local macro_rules | `(tactic| walk_at "rb") => `(tactic| repeat (with_reducible refine res_bind ?_))
theorem atI_mem {α : Type} {ds : List α} {r : Int} (h0 : 0 ≤ r) (h1 : r < ds.length) : ∃ d ∈ ds, atI ds r = some d := by
  obtain ⟨n, rfl⟩ := Int.eq_ofNat_of_zero_le h0
  exact ⟨ds[n], List.getElem_mem _, by rw [atI_nat, List.getElem?_eq_getElem (by omega)]⟩
theorem pick_spec (a b : Int) (ds : List D) (hs : SrcI a b) (h0 : ds ≠ []) (hl : ds.length ≤ 1000) : ∃ d a' b', m__law_pick [.pw (src a b), .va (.lst ds)] = some (.va d, [.pw (src a' b'), .va (.lst ds)]) ∧ SrcI a' b' ∧ d ∈ ds := by
  have hp : 0 < ds.length := List.length_pos_iff.mpr h0
  obtain ⟨r, a1, b1, hd, s1, r0, r1⟩ := draw_spec a b ds.length hs (by omega) (by omega)
  obtain ⟨d, hm, hr⟩ := atI_mem r0 r1
  unfold m__law_pick
  push_cast [hd, hr]
  exact ⟨_, _, _, rfl, s1, hm⟩
def IsMk (B : Int) (d : D) : Prop := d = .tup false [.str "make"] ∨ ∃ t : Int, 1 ≤ t ∧ t ≤ B ∧ d = .tup false [.str "unpack", .int t]
def IsUse (B : Int) (d : D) : Prop := d ∈ [D.tup false [.str "read"], .tup false [.str "write"], .tup false [.str "rename"], .tup false [.str "touch"]] ∨ ∃ t : Int, 1 ≤ t ∧ t ≤ B ∧ d = .tup false [.str "setback", .int t]
theorem maker_spec (a b k : Int) (hs : SrcI a b) (h0 : 0 < k) (hk : k ≤ 1000000000) : ∃ d a' b', m__law_maker [.pw (src a b), .va (.int k)] = some (.va d, [.pw (src a' b'), .va (.int k)]) ∧ SrcI a' b' ∧ IsMk k d := by
  obtain ⟨r, a1, b1, hd, s1, r0, r1⟩ := draw_spec a b k hs (by omega) (by omega)
  obtain ⟨d, a2, b2, hp, s2, hm⟩ := pick_spec a1 b1 [.tup false [.str "make"], .tup false [.str "make"], .tup false [.str "unpack", .int (1 + r)]] s1 (by simp) (by simp)
  unfold m__law_maker
  push_cast [hd, hp]
  refine ⟨_, _, _, rfl, s2, ?_⟩
  simp only [List.mem_cons, List.not_mem_nil, or_false] at hm
  rcases hm with rfl | rfl | rfl
  · exact .inl rfl
  · exact .inl rfl
  · exact .inr ⟨_, by omega, by omega, rfl⟩
theorem user_spec (a b k : Int) (hs : SrcI a b) (h0 : 0 < k) (hk : k ≤ 1000000000) : ∃ d a' b', m__law_user [.pw (src a b), .va (.int k)] = some (.va d, [.pw (src a' b'), .va (.int k)]) ∧ SrcI a' b' ∧ IsUse k d := by
  obtain ⟨r, a1, b1, hd, s1, r0, r1⟩ := draw_spec a b k hs (by omega) (by omega)
  obtain ⟨d, a2, b2, hp, s2, hm⟩ := pick_spec a1 b1 [.tup false [.str "read"], .tup false [.str "read"], .tup false [.str "read"], .tup false [.str "write"], .tup false [.str "rename"], .tup false [.str "touch"], .tup false [.str "setback", .int (1 + r)]] s1 (by simp) (by simp)
  unfold m__law_user
  push_cast [hd, hp]
  refine ⟨_, _, _, rfl, s2, ?_⟩
  simp only [List.mem_cons, List.not_mem_nil, or_false] at hm
  rcases hm with rfl | rfl | rfl | rfl | rfl | rfl | rfl
  · exact .inl (by simp)
  · exact .inl (by simp)
  · exact .inl (by simp)
  · exact .inl (by simp)
  · exact .inl (by simp)
  · exact .inl (by simp)
  · exact .inr ⟨_, by omega, by omega, rfl⟩
def mostD : Option Int → D
  | none => .non
  | some m => .int m
def arD (a : Ar) : D := .tup false [.int a.s, .int a.g, .int a.l, mostD a.m, .str a.w]
structure ArL (M : Int) (a : Ar) : Prop where
  l1 : 1 ≤ a.l
  l2 : a.l ≤ M
  m : ∀ m, a.m = some m → a.l ≤ m ∧ m ≤ M
theorem arrow_spec (a b : Int) (st gl : Nat) (ln : Int) (en : Bool) (hs : SrcI a b) (h0 : 0 < ln) (hl : ln ≤ 500000000) :
    ∃ (l : Int) (m : Option Int) (w : Str) (a' b' : Int), m__law_arrow [.pw (src a b), .va (.int st), .va (.int gl), .va (.int ln), .va (.bl en)] = some (.va (arD ⟨st, gl, l, m, w⟩), [.pw (src a' b'), .va (.int st), .va (.int gl), .va (.int ln), .va (.bl en)]) ∧
      SrcI a' b' ∧ ArL (2 * ln) ⟨st, gl, l, m, w⟩ ∧ (w = "" ∨ w = "held") := by
  obtain ⟨r, a1, b1, hd, s1, r0, r1⟩ := draw_spec a b ln hs (by omega) (by omega)
  obtain ⟨r2, a2, b2, hd2, s2, q0, q1⟩ := draw_spec a1 b1 ln s1 (by omega) (by omega)
  have fin : ∀ a3 b3, SrcI a3 b3 → ∃ (w : Str) (a4 b4 : Int), m__law_pick [.pw (src a3 b3), .va (.lst [.str "", .str "", .str "held"])] = some (.va (.str w), [.pw (src a4 b4), .va (.lst [.str "", .str "", .str "held"])]) ∧ SrcI a4 b4 ∧ (w = "" ∨ w = "held") := fun a3 b3 s3 => by
    obtain ⟨d, a4, b4, hp, s4, hm⟩ := pick_spec a3 b3 [.str "", .str "", .str "held"] s3 (by simp) (by simp)
    simp only [List.mem_cons, List.not_mem_nil, or_false] at hm
    rcases hm with rfl | rfl | rfl
    · exact ⟨_, _, _, hp, s4, .inl rfl⟩
    · exact ⟨_, _, _, hp, s4, .inl rfl⟩
    · exact ⟨_, _, _, hp, s4, .inr rfl⟩
  unfold m__law_arrow arD mostD
  cases en with
  | false =>
    obtain ⟨w, a4, b4, hp, s4, hw⟩ := fin a2 b2 s2
    push_cast [hd, hd2, hp]
    exact ⟨1 + r, some (1 + r + r2), w, a4, b4, rfl, s4, ⟨by show 1 ≤ 1 + r; omega, by show 1 + r ≤ _; omega, fun m e => by cases e; show 1 + r ≤ _ ∧ _; omega⟩, hw⟩
  | true =>
    obtain ⟨r3, a3, b3, hd3, s3, t0, t1⟩ := draw_spec a2 b2 8 s2 (by omega) (by decide)
    obtain ⟨w, a4, b4, hp, s4, hw⟩ := fin a3 b3 s3
    by_cases hz : r3 = 0
    · push_cast [hd, hd2, hd3, hp, pEq_i, hz, beq_self_eq_true]
      exact ⟨1 + r, none, w, a4, b4, rfl, s4, ⟨by show 1 ≤ 1 + r; omega, by show 1 + r ≤ _; omega, fun m e => by cases e⟩, hw⟩
    · have hz2 : (r3 == 0) = false := by simpa using hz
      push_cast [hd, hd2, hd3, hp, pEq_i, hz2]
      exact ⟨1 + r, some (1 + r + r2), w, a4, b4, rfl, s4, ⟨by show 1 ≤ 1 + r; omega, by show 1 + r ≤ _; omega, fun m e => by cases e; show 1 + r ≤ _ ∧ _; omega⟩, hw⟩
def mkB : D → Bool
  | .tup _ (.str w :: _) => (w == "make") || (w == "unpack")
  | _ => false
def hdS : D → Str
  | .tup _ (.str w :: _) => w
  | _ => ""
theorem mk_head {B : Int} {d : D} (h : IsMk B d) : mkB d = true ∧ ∃ r, d = .tup false (.str (hdS d) :: r) := by
  rcases h with rfl | ⟨t, _, _, rfl⟩
  · exact ⟨by decide +kernel, _, rfl⟩
  · exact ⟨show ((("unpack" : Str) == "make") || (("unpack" : Str) == "unpack")) = true by decide +kernel, _, rfl⟩
theorem use_head {B : Int} {d : D} (h : IsUse B d) : mkB d = false ∧ ∃ r, d = .tup false (.str (hdS d) :: r) := by
  rcases h with h | ⟨t, _, _, rfl⟩
  · simp only [List.mem_cons, List.not_mem_nil, or_false] at h
    rcases h with rfl | rfl | rfl | rfl
    · exact ⟨by decide +kernel, _, rfl⟩
    · exact ⟨by decide +kernel, _, rfl⟩
    · exact ⟨by decide +kernel, _, rfl⟩
    · exact ⟨by decide +kernel, _, rfl⟩
  · exact ⟨show ((("setback" : Str) == "make") || (("setback" : Str) == "unpack")) = false by decide +kernel, _, rfl⟩
def Nd (B : Int) (d : D) : Prop := IsMk B d ∨ IsUse B d
theorem nd_head {B : Int} {d : D} (h : Nd B d) : ∃ r, d = .tup false (.str (hdS d) :: r) := h.elim (fun h => (mk_head h).2) fun h => (use_head h).2
theorem str_comm (x y : Str) : (x == y) = (y == x) := by
  by_cases h : x = y
  · subst h; rfl
  · rw [beq_eq_false_iff_ne.mpr h, beq_eq_false_iff_ne.mpr (Ne.symm h)]
theorem nd_any {B : Int} {d : D} (h : Nd B d) : ((D.str "make").eqv (.str (hdS d)) || (D.str "unpack").eqv (.str (hdS d))) = mkB d := by
  obtain ⟨r, hr⟩ := nd_head h
  rw [hr]
  show ((("make" : Str) == hdS d) || (("unpack" : Str) == hdS d)) = ((hdS d == "make") || (hdS d == "unpack"))
  rw [str_comm, str_comm "unpack"]
theorem nd_at {B : Int} {ds : List D} (h : ∀ d ∈ ds, Nd B d) {g : Nat} (hg : g < ds.length) : ∃ d r, ds[g]? = some d ∧ d ∈ ds ∧ Nd B d ∧ d = .tup false (.str (hdS d) :: r) := by
  obtain ⟨r, hr⟩ := nd_head (h ds[g] (List.getElem_mem _))
  exact ⟨ds[g], r, List.getElem?_eq_getElem hg, List.getElem_mem _, h _ (List.getElem_mem _), hr⟩
def mkAt (ds : List D) (g : Nat) : Bool := (ds.map mkB).getD g false
theorem mkAt_of {ds : List D} {g : Nat} {d : D} (h : ds[g]? = some d) : mkAt ds g = mkB d := by simp [mkAt, List.getD_eq_getElem?_getD, h]
structure ArP (M : Int) (n : Nat) (ds : List D) (a : Ar) : Prop where
  s : a.s < n
  g : a.g < n
  l : ArL M a
  w : a.w = "" ∨ a.w = "held" ∨ a.w = "anew"
  anew : (a.w == "anew") = mkAt ds a.g
structure PlanI (B M : Int) (n : Nat) (ds : List D) (as : List Ar) : Prop where
  len : ds.length = n
  n1 : 1 ≤ n
  first : ∃ d r, ds = d :: r ∧ IsMk B d
  nd : ∀ d ∈ ds, Nd B d
  al : ∀ a ∈ as, ArP M n ds a
  one : as.Pairwise fun a b => ¬ (a.s = b.s ∧ a.g = b.g)
  on : ∀ a ∈ as, a.w = "anew" → ∃ b ∈ as, b.s = a.g ∧ b.w ≠ "anew"
  tree : ∀ g, 1 ≤ g → g < n → mkAt ds g = false → ∃ a ∈ as, a.g = g ∧ a.s < g ∧ a.w ≠ "anew"
  hB : B ≤ 1000000000
  hM : M ≤ 1000000000
theorem so_w {w : Str} (h : w = "" ∨ w = "held" ∨ w = "anew") : PyData.strOk w = true := by rcases h with rfl | rfl | rfl <;> decide +kernel
theorem so_anew : PyData.strOk "anew" = true := by decide +kernel
def onP (gl : Nat) : D → Bool
  | .tup _ [.int s, _, _, _, .str w] => (s == (gl : Int)) && !(w == "anew")
  | _ => false
def two : D → D
  | .tup _ (x :: y :: _) => .tup false [x, y]
  | d => d
theorem ar_flat (a : Ar) : (arD a).flat = true := by
  unfold arD mostD
  cases a.m <;> simp [D.flat, D.flatL]
theorem ar_pl (a : Ar) (n : Nat) (h : PyData.strOk a.w = true) : (arD a).pl (n + 1) = true := by
  unfold arD mostD
  cases a.m <;> simp [D.pl, D.pls, h]
def onL (as : List Ar) (gl : Nat) : List D := ((as.map arD).filter (onP gl)).map fun d => d
theorem onL_mem {as : List Ar} {gl : Nat} {d : D} (h : d ∈ onL as gl) : ∃ x ∈ as, d = arD x ∧ x.s = gl ∧ x.w ≠ "anew" := by
  unfold onL at h
  rw [List.map_id'] at h
  obtain ⟨h1, h2⟩ := List.mem_filter.mp h
  obtain ⟨x, hx, rfl⟩ := List.mem_map.mp h1
  have h2 : (((x.s : Int) == (gl : Int)) && !(x.w == "anew")) = true := h2
  obtain ⟨h3, h4⟩ := Bool.and_eq_true_iff.mp h2
  refine ⟨x, hx, rfl, ?_, fun z => ?_⟩
  · have := eq_of_beq h3; omega
  · rw [z] at h4
    simp at h4
theorem onL_flat (as : List Ar) (gl : Nat) : D.flatL (onL as gl) = true := flatL_all.mpr fun d hd => by
  obtain ⟨x, _, rfl, _⟩ := onL_mem hd
  exact ar_flat x
theorem onL_pl {as : List Ar} {gl : Nat} (aw : ∀ x ∈ as, PyData.strOk x.w = true) (n : Nat) : D.pls (n + 1) (onL as gl) = true := pls_all.mpr fun d hd => by
  obtain ⟨x, hx, rfl, _⟩ := onL_mem hd
  exact ar_pl x n (aw x hx)
def twoL (as : List Ar) : List D := ((as.map arD).filter fun _ => true).map two
theorem twoL_eq (as : List Ar) : twoL as = as.map fun x => .tup false [.int x.s, .int x.g] := by
  unfold twoL
  have : ((as.map arD).filter fun _ => true) = as.map arD := List.filter_eq_self.mpr fun _ _ => rfl
  rw [this, List.map_map]
  rfl
theorem twoL_pl (as : List Ar) : D.pls 39 (twoL as) = true := pls_all.mpr fun d hd => by
  rw [twoL_eq] at hd
  obtain ⟨x, _, rfl⟩ := List.mem_map.mp hd
  simp [D.pl, D.pls]
theorem twoL_any (as : List Ar) (st gl : Nat) : ((twoL as).any fun y => y.eqv (.tup false [.int st, .int gl])) = as.any fun x => decide (x.s = st) && decide (x.g = gl) := by
  rw [twoL_eq, List.any_map]
  congr 1
  funext x
  simp [D.eqv, D.eqvs]
  by_cases h1 : x.s = st <;> by_cases h2 : x.g = gl <;> simp [h1, h2] <;> omega
theorem onE (l : List D) : (D.lst l).eqv (.lst []) = l.isEmpty := by cases l <;> simp [D.eqv, D.eqvs]
theorem plan_add {B M : Int} {n : Nat} {ds : List D} {as : List Ar} {x : Ar} (pl : PlanI B M n ds as) (h : ArP M n ds x) (hn : (as.any fun y => decide (y.s = x.s) && decide (y.g = x.g)) = false) (ho : x.w = "anew" → ∃ y ∈ as, y.s = x.g ∧ y.w ≠ "anew") : PlanI B M n ds (as ++ [x]) := by
  refine ⟨pl.len, pl.n1, pl.first, pl.nd, fun y hy => ?_, ?_, fun y hy hw => ?_, fun g h1 h2 h3 => ?_, pl.hB, pl.hM⟩
  · rcases List.mem_append.mp hy with hy | hy
    · exact pl.al y hy
    · cases List.mem_singleton.mp hy; exact h
  · rw [List.pairwise_append]
    refine ⟨pl.one, List.pairwise_singleton _ _, fun y hy z hz => ?_⟩
    cases List.mem_singleton.mp hz
    rintro ⟨e1, e2⟩
    have := List.any_eq_false.mp hn y hy
    simp [e1, e2] at this
  · rcases List.mem_append.mp hy with hy | hy
    · obtain ⟨z, hz, q⟩ := pl.on y hy hw
      exact ⟨z, List.mem_append_left _ hz, q⟩
    · cases List.mem_singleton.mp hy
      obtain ⟨z, hz, q⟩ := ho hw
      exact ⟨z, List.mem_append_left _ hz, q⟩
  · obtain ⟨z, hz, q⟩ := pl.tree g h1 h2 h3
    exact ⟨z, List.mem_append_left _ hz, q⟩
theorem plan_specU (a b : Int) (n : Nat) (ln bk : Int) (en : Bool) (hs : SrcI a b) (hn : 1 ≤ n) (hn2 : n ≤ 12) (h0 : 0 < ln) (hl : ln ≤ 500000000) (hb0 : 0 < bk) (hb : bk ≤ 1000000000) :
    Res (m__law_plan [.pw (src a b), .va (.int n), .va (.int ln), .va (.int bk), .va (.bl en)]) fun p => ∃ ds as a' b', p = (.va (.tup false [.lst ds, .lst (as.map arD)]), [.pw (src a' b'), .va (.int n), .va (.int ln), .va (.int bk), .va (.bl en)]) ∧ SrcI a' b' ∧ PlanI bk (2 * ln) n ds as ∧ as.length ≤ 3 * n ∧ (2 ≤ n → mkAt ds 1 = false) := by
  obtain ⟨d0, a1, b1, hm0, s1, mk0⟩ := maker_spec a b bk hs hb0 hb
  have sm1 : small62 1 = true := by decide
  have smn : small62 (n : Int) = true := small_of (by omega) (by omega)
  unfold m__law_plan
  push_cast [hm0, sm1, smn]
  refine res_bind (res_bind (res_loop (fun i e => ∃ a b ds x6, e = [.pw (src a b), .va (.int n), .va (.int ln), .va (.int bk), .va (.bl en), .ow (.o1 (.lst ds)), x6, .no, .no, .no, .no, .no, .no] ∧ SrcI a b ∧ x6.np = true ∧ ds.length = i + 1 ∧ (∃ d r, ds = d :: r ∧ IsMk bk d) ∧ (∀ d ∈ ds, Nd bk d) ∧ (2 ≤ ds.length → mkAt ds 1 = false)) ?i0 ?st ?q))
  case i0 => exact ⟨_, _, _, _, rfl, s1, rfl, rfl, ⟨_, _, rfl, mk0⟩, by simp [Nd, mk0], fun z => by simp at z⟩
  case st =>
    rintro i d e hd ⟨a, b, ds, x6, rfl, hs, hx, hlen, ⟨d1, r1, rfl, hmk⟩, hall, hone⟩
    obtain ⟨hi, rfl⟩ := rng_at hd
    have hlt : r1.length + 1 < 100000 := by have : r1.length + 1 = i + 1 := hlen
                                            omega
    have fin : ∀ d2 a3 b3, Nd bk d2 → (i = 0 → mkB d2 = false) → SrcI a3 b3 → Res (some (Out.nx [.pw (src a3 b3), .va (.int n), .va (.int ln), .va (.int bk), .va (.bl en), .ow (.o1 (.lst (d1 :: (r1 ++ [d2])))), .va (.int (1 + i)), .no, .no, .no, .no, .no, .no])) fun o => ∃ e2, (o = Out.nx e2 ∨ o = Out.ct e2) ∧ ∃ a b ds x6, e2 = [.pw (src a b), .va (.int n), .va (.int ln), .va (.int bk), .va (.bl en), .ow (.o1 (.lst ds)), x6, .no, .no, .no, .no, .no, .no] ∧ SrcI a b ∧ x6.np = true ∧ ds.length = i + 1 + 1 ∧ (∃ d r, ds = d :: r ∧ IsMk bk d) ∧ (∀ d ∈ ds, Nd bk d) ∧ (2 ≤ ds.length → mkAt ds 1 = false) := fun d2 a3 b3 hd2 hu s3 =>
      res_some ⟨_, .inl rfl, _, _, _, _, rfl, s3, rfl, by simp at hlen ⊢; omega, ⟨_, _, rfl, hmk⟩, fun d hd => by
        simp only [List.mem_cons, List.mem_append, List.not_mem_nil, or_false] at hd
        rcases hd with rfl | hd | rfl
        · exact .inl hmk
        · exact hall d (by simp [hd])
        · exact hd2, fun _ => by
        have hlen : r1.length + 1 = i + 1 := hlen
        cases r1 with
        | nil =>
          have hi0 : i = 0 := by simp at hlen; omega
          simp [mkAt, hu hi0]
        | cons y r2 =>
          have := hone (by simp)
          simpa [mkAt] using this⟩
    by_cases hk : ((1 + (i : Int)) == 2) = true
    · obtain ⟨r, a2, b2, hr, s2, r0, r1⟩ := draw_spec a b 4 hs (by omega) (by omega)
      by_cases hz : (r == 0) = true
      · obtain ⟨d2, a3, b3, hm, s3, mk⟩ := maker_spec a2 b2 bk s2 hb0 hb
        push_cast [hx, hk, hr, hz, hm, hlt]
        exact fin _ _ _ (.inl mk) (fun z => by subst z; exact absurd hk (by decide)) s3
      · obtain ⟨d2, a3, b3, hm, s3, mk⟩ := user_spec a2 b2 bk s2 hb0 hb
        push_cast [hx, hk, hr, hz, hm, hlt]
        exact fin _ _ _ (.inr mk) (fun _ => (use_head mk).1) s3
    · obtain ⟨d2, a3, b3, hm, s3, mk⟩ := user_spec a b bk hs hb0 hb
      push_cast [hx, hk, hm, hlt]
      exact fin _ _ _ (.inr mk) (fun _ => (use_head mk).1) s3
  case q =>
    rintro e ⟨a, b, ds, x6, rfl, hs, hx, hlen, hfirst, hall, hone⟩
    rw [rng_len] at hlen
    have hdl : ds.length = n := by omega
    push_cast [hx, sm1, smn]
    repeat refine res_bind ?_
    refine (res_loop (fun i e => ∃ (a b : Int) (y5 x8 : Sl) (as : List Ar), e = [.pw (src a b), .va (.int n), .va (.int ln), .va (.int bk), .va (.bl en), y5, x6, .ow (.o1 (.lst (as.map arD))), x8, .no, .no, .no, .no] ∧ SrcI a b ∧ y5.np = true ∧ y5.fz = some (.lst ds) ∧ x8.np = true ∧ as.length ≤ i ∧
      (∀ a ∈ as, ArP (2 * ln) n ds a ∧ a.g ≤ i ∧ a.w ≠ "anew") ∧ (as.Pairwise fun a b => ¬ (a.s = b.s ∧ a.g = b.g)) ∧ ∀ g, 1 ≤ g → g ≤ i → mkAt ds g = false → ∃ a ∈ as, a.g = g ∧ a.s < g ∧ a.w ≠ "anew") ?i0 ?st ?q)
    case i0 => exact ⟨_, _, _, _, [], rfl, hs, rfl, rfl, rfl, Nat.le_refl _, by simp, .nil, fun g h1 h2 => by omega⟩
    case st =>
      rintro i d e hd ⟨a, b, y5, x8, as, rfl, hs, hy, hyf, hx8, hal, hap, hpw, htr⟩
      obtain ⟨hi, rfl⟩ := rng_at hd
      obtain ⟨d, r, hg, hdm, hnd, hdr⟩ := nd_at hall (g := 1 + i) (by omega)
      have hat : atI ds (1 + (i : Int)) = some d := by
        have : (1 + (i : Int)) = ((1 + i : Nat) : Int) := by omega
        rw [this, atI_nat, hg]
      have h00 : atI (D.str (hdS d) :: r) 0 = some (.str (hdS d)) := by rw [show (0 : Int) = ((0 : Nat) : Int) from rfl, atI_nat]; rfl
      have hany := nd_any hnd
      have hmka := mkAt_of hg
      rw [hdr] at hat
      cases hmk : mkB d with
      | true =>
        rw [hmk] at hany hmka
        push_cast [hx8, hy, hyf, hat, h00, hany]
        refine res_some ⟨_, .inl rfl, a, b, _, _, as, rfl, hs, rfl, rfl, rfl, by omega, fun x hx => ⟨(hap x hx).1, by have := (hap x hx).2.1; omega, (hap x hx).2.2⟩, hpw, fun g h1 h2 h3 => ?_⟩
        by_cases hgi : g ≤ i
        · exact htr g h1 hgi h3
        · have : g = 1 + i := by omega
          rw [this, hmka] at h3
          cases h3
      | false =>
        rw [hmk] at hany hmka
        obtain ⟨r, a2, b2, hr, s2, r0, r1⟩ := draw_spec a b (1 + (i : Int)) hs (by omega) (by omega)
        obtain ⟨rn, rfl⟩ := Int.eq_ofNat_of_zero_le r0
        obtain ⟨l, m, w, a3, b3, ha, s3, hL, hw⟩ := arrow_spec a2 b2 rn (1 + i) ln en s2 h0 hl
        have hw2 : w ≠ "anew" := by rcases hw with rfl | rfl <;> decide +kernel
        have hw3 : (w == "anew") = false := beq_eq_false_iff_ne.mpr hw2
        have ecast : ((1 + i : Nat) : Int) = 1 + (i : Int) := by omega
        rw [ecast] at ha
        have hlt : as.length < 100000 := by omega
        push_cast [hx8, hy, hyf, hat, h00, hany, hr, ha, List.length_map, hlt]
        refine res_some ⟨_, .inl rfl, _, _, .va (.lst ds), .va (.int (1 + (i : Int))), as ++ [⟨rn, 1 + i, l, m, w⟩], by rw [List.map_append]; rfl, s3, rfl, rfl, rfl, by simp; omega, fun x hx => ?_, ?_, fun g h1 h2 h3 => ?_⟩
        · rcases List.mem_append.mp hx with hx | hx
          · exact ⟨(hap x hx).1, by have := (hap x hx).2.1; omega, (hap x hx).2.2⟩
          · cases List.mem_singleton.mp hx
            exact ⟨⟨by show rn < n; omega, by show 1 + i < n; omega, hL, hw.elim .inl fun z => .inr (.inl z), by rw [hmka]; exact hw3⟩, by show 1 + i ≤ i + 1; omega, hw2⟩
        · rw [List.pairwise_append]
          refine ⟨hpw, List.pairwise_singleton _ _, fun x hx y hy => ?_⟩
          cases List.mem_singleton.mp hy
          have := (hap x hx).2.1
          rintro ⟨_, h⟩
          have h : x.g = 1 + i := h
          omega
        · by_cases hgi : g ≤ i
          · obtain ⟨x, hx, z⟩ := htr g h1 hgi h3
            exact ⟨x, List.mem_append_left _ hx, z⟩
          · have : g = 1 + i := by omega
            exact ⟨_, List.mem_append_right _ (List.mem_singleton.mpr rfl), this.symm, by show rn < g; omega, hw2⟩
    case q =>
      rintro e ⟨a, b, y5, x8, as, rfl, hs, hy, hyf, hx8, hal, hap, hpw, htr⟩
      rw [rng_len] at hal hap htr
      have pl0 : PlanI bk (2 * ln) n ds as := ⟨hdl, hn, hfirst, hall, fun x hx => (hap x hx).1, hpw, fun x hx hw => ((hap x hx).2.2 hw).elim, fun g h1 h2 h3 => htr g h1 (by omega) h3, hb, by omega⟩
      obtain ⟨q, a2, b2, hq, s2, q0, q1⟩ := draw_spec a b (2 * (n : Int) + 1) hs (by omega) (by omega)
      have hmul : (Int.natAbs 2).log2 + (n : Int).natAbs.log2 < 1000000 := by
        have h1 := log2_b (x := (n : Int)) (k := 10) (by omega) (by omega) (by decide)
        have h2 : (Int.natAbs 2).log2 < 10 := by decide
        omega
      have smq : small62 q = true := small_of (by omega) (by omega)
      push_cast [hx8, hmul, hq, smq]
      repeat refine res_bind ?_
      refine (res_loop (fun i e => ∃ (a b : Int) (y5 y9 y10 y11 : Sl) (as : List Ar), e = [.pw (src a b), .va (.int n), .va (.int ln), .va (.int bk), .va (.bl en), y5, x6, .ow (.o1 (.lst (as.map arD))), x8, y9, y10, y11, .no] ∧ SrcI a b ∧ y5.np = true ∧ y5.fz = some (.lst ds) ∧ y9.np = true ∧ y10.np = true ∧ y11.np = true ∧ as.length ≤ n + i ∧ PlanI bk (2 * ln) n ds as) ?i0 ?st ?q)
      case i0 => exact ⟨a2, b2, y5, .no, .no, .no, as, rfl, s2, hy, hyf, rfl, rfl, rfl, by omega, pl0⟩
      case st =>
        rintro i d e hd ⟨a, b, y5, y9, y10, y11, as, rfl, hs, hy, hyf, hy9, hy10, hy11, hal, pl⟩
        obtain ⟨hi, rfl⟩ := rng_at hd
        obtain ⟨r1, a3, b3, hr1, s3, r10, r11⟩ := draw_spec a b n hs (by omega) (by omega)
        obtain ⟨st, rfl⟩ := Int.eq_ofNat_of_zero_le r10
        obtain ⟨r2, a4, b4, hr2, s4, r20, r21⟩ := draw_spec a3 b3 n s3 (by omega) (by omega)
        obtain ⟨gl, rfl⟩ := Int.eq_ofNat_of_zero_le r20
        obtain ⟨l, m, w, a5, b5, ha, s5, hL, hw⟩ := arrow_spec a4 b4 st gl ln en s4 h0 hl
        have hlt : as.length < 100000 := by omega
        have aw : ∀ x ∈ as, PyData.strOk x.w = true := fun x hx => so_w (pl.al x hx).w
        have hlt2 : n + i + 1 < 100000 := by omega
        obtain ⟨d, r, hg, hdm, hnd, hdr⟩ := nd_at hall (g := gl) (by omega)
        have hany := nd_any hnd
        have hmka := mkAt_of hg
        rw [hdr] at hg
        push_cast [hy9, hy10, hy11, hr1, hr2, ha, List.length_map, hlt, arD]
        repeat refine res_bind ?_
        refine res_lc (onP gl) (fun d => d) ?c1 ?q1
        case c1 =>
          intro d hd
          obtain ⟨x, hx, rfl⟩ := List.mem_map.mp hd
          have ho := pNe_s (aw x hx) so_anew
          by_cases hsg : ((x.s : Int) == (gl : Int)) = true
          · push_cast [arD, ho, hsg]
            exact res_some ⟨by show _ = (((x.s : Int) == (gl : Int)) && !(x.w == "anew")); rw [hsg]; rfl, fun _ => by push_cast [arD]; exact res_some ⟨rfl, rfl, rfl⟩, fun _ => ⟨rfl, rfl⟩⟩
          · push_cast [arD, ho, hsg]
            have hp : onP gl (D.tup false [.int x.s, .int x.g, .int x.l, mostD x.m, .str x.w]) = false := by
              show (((x.s : Int) == (gl : Int)) && !(x.w == "anew")) = false
              rw [Bool.eq_false_iff.mpr hsg]; rfl
            exact res_some ⟨hp.symm, fun z => absurd (hp.symm.trans z) Bool.false_ne_true, fun _ => ⟨rfl, rfl⟩⟩
        case q1 =>
          have hfl := onL_flat as gl
          unfold onL at hfl
          have hpl : ((D.tup false [.int st, .int gl]).pl 40 && D.pls 39 (List.map two (List.filter (fun _ => true) (List.map arD as)))) = true := by
            rw [Bool.and_eq_true_iff]
            exact ⟨by simp [D.pl, D.pls], twoL_pl as⟩
          have hN := pNin_e _ _ hpl
          have hA2 : ((List.map two (List.filter (fun _ => true) (List.map arD as))).any fun y => y.eqv (.tup false [.int st, .int gl])) = as.any fun x => decide (x.s = st) && decide (x.g = gl) := twoL_any as st gl
          have hO : pNe [.lst (List.map (fun d => d) (List.filter (onP gl) (List.map arD as))), .lst []] = some (.va (.bl (!(onL as gl).isEmpty))) := by
            rw [pNe_e _ _ (by rw [Bool.and_eq_true_iff]; exact ⟨by show D.pls 39 (onL as gl) = true; exact onL_pl aw 38, rfl⟩)]
            show some (Sl.va (D.bl (!(D.lst (onL as gl)).eqv (.lst [])))) = _
            rw [onE]
          cases hmk : mkB d with
          | true =>
            rw [hmk] at hany hmka
            dsimp! [hfl, hy11, hy, hyf, hg, hany, arD, xO_n, xO_c, pSlT_f, cut5_4, cut5_2, pCatT_c, List.length_map, hlt]
            repeat refine res_bind ?_
            refine res_lc (fun _ => true) two ?c2 ?q2
            case c2 =>
              intro d hd
              obtain ⟨x, hx, rfl⟩ := List.mem_map.mp hd
              dsimp! [arD, xO_n, xO_c, pSlT_f, cut5_2]
              exact res_some ⟨rfl, fun _ => by dsimp! [arD, xO_n, xO_c, pSlT_f, cut5_2]; exact res_some ⟨rfl, rfl, rfl⟩, fun z => by cases z⟩
            case q2 =>
              cases hin : (as.any fun x => decide (x.s = st) && decide (x.g = gl)) with
              | true =>
                rw [hin] at hA2
                dsimp! [hN, hA2, List.length_map, hlt]
                exact res_some ⟨_, .inl rfl, a5, b5, _, _, _, _, as, rfl, s5, rfl, rfl, rfl, rfl, rfl, by omega, pl⟩
              | false =>
                rw [hin] at hA2
                have hnn := pNe_s so_anew so_anew
                cases he : (onL as gl).isEmpty with
                | true =>
                  rw [he] at hO
                  dsimp! [hN, hA2, List.length_map, hlt, hnn, hO, beq_self_eq_true]
                  exact res_some ⟨_, .inl rfl, a5, b5, _, _, _, _, as, rfl, s5, rfl, rfl, rfl, rfl, rfl, by omega, pl⟩
                | false =>
                  rw [he] at hO
                  dsimp! [hN, hA2, List.length_map, hlt, hnn, hO, beq_self_eq_true]
                  refine res_some ⟨_, .inl rfl, a5, b5, _, _, _, _, as ++ [⟨st, gl, l, m, "anew"⟩], by rw [List.map_append]; rfl, s5, rfl, rfl, rfl, rfl, rfl, by simp; omega, plan_add pl ⟨by show st < n; omega, by show gl < n; omega, ⟨hL.l1, hL.l2, hL.m⟩, .inr (.inr rfl), by rw [hmka]; exact beq_self_eq_true _⟩ hin fun _ => ?_⟩
                  obtain ⟨y, hy⟩ := List.exists_mem_of_ne_nil (onL as gl) (by intro z; rw [z] at he; cases he)
                  obtain ⟨x, hx, _, e1, e2⟩ := onL_mem hy
                  exact ⟨x, hx, e1, e2⟩
          | false =>
            rw [hmk] at hany hmka
            dsimp! [hfl, hy11, hy, hyf, hg, hany, arD, xO_n, xO_c, pSlT_f, cut5_4, cut5_2, pCatT_c, List.length_map, hlt]
            repeat refine res_bind ?_
            refine res_lc (fun _ => true) two ?c2 ?q2
            case c2 =>
              intro d hd
              obtain ⟨x, hx, rfl⟩ := List.mem_map.mp hd
              dsimp! [arD, xO_n, xO_c, pSlT_f, cut5_2]
              exact res_some ⟨rfl, fun _ => by dsimp! [arD, xO_n, xO_c, pSlT_f, cut5_2]; exact res_some ⟨rfl, rfl, rfl⟩, fun z => by cases z⟩
            case q2 =>
              cases hin : (as.any fun x => decide (x.s = st) && decide (x.g = gl)) with
              | true =>
                rw [hin] at hA2
                dsimp! [hN, hA2, List.length_map, hlt]
                exact res_some ⟨_, .inl rfl, a5, b5, _, _, _, _, as, rfl, s5, rfl, rfl, rfl, rfl, rfl, by omega, pl⟩
              | false =>
                rw [hin] at hA2
                have hw2 : w ≠ "anew" := by rcases hw with rfl | rfl <;> decide +kernel
                have hw3 : (w == "anew") = false := beq_eq_false_iff_ne.mpr hw2
                have hnn := pNe_s (so_w (hw.elim .inl fun z => .inr (.inl z))) so_anew
                dsimp! [hN, hA2, List.length_map, hlt, hnn, hO, hw3]
                exact res_some ⟨_, .inl rfl, a5, b5, _, _, _, _, as ++ [⟨st, gl, l, m, w⟩], by rw [List.map_append]; rfl, s5, rfl, rfl, rfl, rfl, rfl, by simp; omega, plan_add pl ⟨by show st < n; omega, by show gl < n; omega, hL, hw.elim .inl fun z => .inr (.inl z), by rw [hmka]; exact hw3⟩ hin fun z => (hw2 z).elim⟩
      case q =>
        rintro e ⟨a, b, y5, y9, y10, y11, as, rfl, hs, hy, hyf, hy9, hy10, hy11, hal, pl⟩
        rw [rng_len] at hal
        dsimp! [hy, hyf]
        exact res_some ⟨ds, as, a, b, rfl, hs, pl, by omega, fun z => hone (by omega)⟩
theorem plan_spec (a b : Int) (n : Nat) (ln bk : Int) (en : Bool) (hs : SrcI a b) (hn : 1 ≤ n) (hn2 : n ≤ 12) (h0 : 0 < ln) (hl : ln ≤ 500000000) (hb0 : 0 < bk) (hb : bk ≤ 1000000000) :
    Res (m__law_plan [.pw (src a b), .va (.int n), .va (.int ln), .va (.int bk), .va (.bl en)]) fun p => ∃ ds as a' b', p = (.va (.tup false [.lst ds, .lst (as.map arD)]), [.pw (src a' b'), .va (.int n), .va (.int ln), .va (.int bk), .va (.bl en)]) ∧ SrcI a' b' ∧ PlanI bk (2 * ln) n ds as ∧ as.length ≤ 3 * n :=
  res_mono (plan_specU a b n ln bk en hs hn hn2 h0 hl hb0 hb) fun p ⟨ds, as, a', b', h1, h2, h3, h4, _⟩ => ⟨ds, as, a', b', h1, h2, h3, h4⟩
theorem natc (n : Nat) : ((no_index (OfNat.ofNat n) : Nat) : Int) = (OfNat.ofNat n : Int) := rfl
theorem pEq_c (x y : D) : pEq [x, y] = if (x.pl 40 && y.pl 40) = true then some (.va (.bl (x.eqv y))) else none := rfl
theorem pNe_c (x y : D) : pNe [x, y] = if (x.pl 40 && y.pl 40) = true then some (.va (.bl (!x.eqv y))) else none := rfl
theorem so_make : PyData.strOk "make" = true := by decide +kernel
theorem so_unpack : PyData.strOk "unpack" = true := by decide +kernel
theorem so_read : PyData.strOk "read" = true := by decide +kernel
theorem so_write : PyData.strOk "write" = true := by decide +kernel
theorem so_rename : PyData.strOk "rename" = true := by decide +kernel
theorem so_touch : PyData.strOk "touch" = true := by decide +kernel
theorem so_setback : PyData.strOk "setback" = true := by decide +kernel
theorem so_e : PyData.strOk "" = true := by decide +kernel
theorem so_held : PyData.strOk "held" = true := by decide +kernel
theorem sn_make_unpack : (("make" : Str) == "unpack") = false := by decide +kernel
theorem sn_make_read : (("make" : Str) == "read") = false := by decide +kernel
theorem sn_make_write : (("make" : Str) == "write") = false := by decide +kernel
theorem sn_make_rename : (("make" : Str) == "rename") = false := by decide +kernel
theorem sn_make_touch : (("make" : Str) == "touch") = false := by decide +kernel
theorem sn_make_setback : (("make" : Str) == "setback") = false := by decide +kernel
theorem sn_unpack_make : (("unpack" : Str) == "make") = false := by decide +kernel
theorem sn_unpack_read : (("unpack" : Str) == "read") = false := by decide +kernel
theorem sn_unpack_write : (("unpack" : Str) == "write") = false := by decide +kernel
theorem sn_unpack_rename : (("unpack" : Str) == "rename") = false := by decide +kernel
theorem sn_unpack_touch : (("unpack" : Str) == "touch") = false := by decide +kernel
theorem sn_unpack_setback : (("unpack" : Str) == "setback") = false := by decide +kernel
theorem sn_read_make : (("read" : Str) == "make") = false := by decide +kernel
theorem sn_read_unpack : (("read" : Str) == "unpack") = false := by decide +kernel
theorem sn_read_write : (("read" : Str) == "write") = false := by decide +kernel
theorem sn_read_rename : (("read" : Str) == "rename") = false := by decide +kernel
theorem sn_read_touch : (("read" : Str) == "touch") = false := by decide +kernel
theorem sn_read_setback : (("read" : Str) == "setback") = false := by decide +kernel
theorem sn_write_make : (("write" : Str) == "make") = false := by decide +kernel
theorem sn_write_unpack : (("write" : Str) == "unpack") = false := by decide +kernel
theorem sn_write_read : (("write" : Str) == "read") = false := by decide +kernel
theorem sn_write_rename : (("write" : Str) == "rename") = false := by decide +kernel
theorem sn_write_touch : (("write" : Str) == "touch") = false := by decide +kernel
theorem sn_write_setback : (("write" : Str) == "setback") = false := by decide +kernel
theorem sn_rename_make : (("rename" : Str) == "make") = false := by decide +kernel
theorem sn_rename_unpack : (("rename" : Str) == "unpack") = false := by decide +kernel
theorem sn_rename_read : (("rename" : Str) == "read") = false := by decide +kernel
theorem sn_rename_write : (("rename" : Str) == "write") = false := by decide +kernel
theorem sn_rename_touch : (("rename" : Str) == "touch") = false := by decide +kernel
theorem sn_rename_setback : (("rename" : Str) == "setback") = false := by decide +kernel
theorem sn_touch_make : (("touch" : Str) == "make") = false := by decide +kernel
theorem sn_touch_unpack : (("touch" : Str) == "unpack") = false := by decide +kernel
theorem sn_touch_read : (("touch" : Str) == "read") = false := by decide +kernel
theorem sn_touch_write : (("touch" : Str) == "write") = false := by decide +kernel
theorem sn_touch_rename : (("touch" : Str) == "rename") = false := by decide +kernel
theorem sn_touch_setback : (("touch" : Str) == "setback") = false := by decide +kernel
theorem sn_setback_make : (("setback" : Str) == "make") = false := by decide +kernel
theorem sn_setback_unpack : (("setback" : Str) == "unpack") = false := by decide +kernel
theorem sn_setback_read : (("setback" : Str) == "read") = false := by decide +kernel
theorem sn_setback_write : (("setback" : Str) == "write") = false := by decide +kernel
theorem sn_setback_rename : (("setback" : Str) == "rename") = false := by decide +kernel
theorem sn_setback_touch : (("setback" : Str) == "touch") = false := by decide +kernel
theorem sn_e_held : (("" : Str) == "held") = false := by decide +kernel
theorem sn_e_anew : (("" : Str) == "anew") = false := by decide +kernel
theorem sn_held_e : (("held" : Str) == "") = false := by decide +kernel
theorem sn_held_anew : (("held" : Str) == "anew") = false := by decide +kernel
theorem sn_anew_e : (("anew" : Str) == "") = false := by decide +kernel
theorem sn_anew_held : (("anew" : Str) == "held") = false := by decide +kernel
local macro_rules | `(tactic| dsimp? [$ls,*]) => `(tactic| simp_all! [pEq_c, pNe_c, natc, Int.reduceBEq, Int.reduceEq, D.pl, D.pls, D.eqv, D.eqvs, beq_self_eq_true, so_make, so_unpack, so_read, so_write, so_rename, so_touch, so_setback, so_e, so_held, so_anew, sn_make_unpack, sn_make_read, sn_make_write, sn_make_rename, sn_make_touch, sn_make_setback, sn_unpack_make, sn_unpack_read, sn_unpack_write, sn_unpack_rename, sn_unpack_touch, sn_unpack_setback, sn_read_make, sn_read_unpack, sn_read_write, sn_read_rename, sn_read_touch, sn_read_setback, sn_write_make, sn_write_unpack, sn_write_read, sn_write_rename, sn_write_touch, sn_write_setback, sn_rename_make, sn_rename_unpack, sn_rename_read, sn_rename_write, sn_rename_touch, sn_rename_setback, sn_touch_make, sn_touch_unpack, sn_touch_read, sn_touch_write, sn_touch_rename, sn_touch_setback, sn_setback_make, sn_setback_unpack, sn_setback_read, sn_setback_write, sn_setback_rename, sn_setback_touch, sn_e_held, sn_e_anew, sn_held_e, sn_held_anew, sn_anew_e, sn_anew_held, $ls,*])
def isObj : D → Bool
  | .obj _ _ _ => true
  | _ => false
def isW : D → Bool
  | .int _ => true
  | _ => false
theorem whole_spec {d : D} (h : isObj d = false) : m_is_whole [.va d] = some (.va (.bl (isW d)), [.va d]) := by
  unfold m_is_whole
  cases d with
  | obj _ _ _ => cases h
  | _ => simp_all! []; rfl
def isBt (d : D) (lo hi : Int) : Bool := match d with
  | .int i => decide (lo ≤ i) && decide (i ≤ hi)
  | _ => false
theorem between_spec {d : D} (lo hi : Int) (h : isObj d = false) : m_is_between [.va d, .va (.int lo), .va (.int hi)] = some (.va (.bl (isBt d lo hi)), [.va d, .va (.int lo), .va (.int hi)]) := by
  have hw := whole_spec h
  unfold m_is_between
  cases d with
  | obj _ _ _ => cases h
  | int i =>
    have hw : m_is_whole [.va (.int i)] = some (.va (.bl true), [.va (.int i)]) := hw
    by_cases h1 : lo ≤ i
    · simp_all! [hw, h1]
      simp [isBt, h1]
    · simp_all! [hw, h1]
      simp [isBt, h1]
  | _ => 
    simp only [isW] at hw
    simp_all! [hw]; rfl
theorem time_spec {d : D} (h : isObj d = false) : m_is_time [.va d] = some (.va (.bl (isBt d 1 1000000000)), [.va d]) := by
  have hb := between_spec (d := d) 1 1000000000 h
  unfold m_is_time
  simp_all! [hb]
theorem deed_spec {B : Int} {d : D} (hB : B ≤ 1000000000) (h : Nd B d) : m_is_deed [.va d] = some (.va (.bl true), [.va d]) := by
  unfold m_is_deed
  rcases h with (rfl | ⟨t, t1, t2, rfl⟩) | h | ⟨t, t1, t2, rfl⟩
  · dsimp? [d_PLAIN]
  · have ht : m_is_time [.va (.int t)] = some (.va (.bl true), [.va (.int t)]) := by
      have t3 : t ≤ 1000000000 := by omega
      rw [time_spec rfl]; simp [isBt, t1, t3]
    dsimp? [d_PLAIN, ht]
  · simp only [List.mem_cons, List.not_mem_nil, or_false] at h
    rcases h with rfl | rfl | rfl | rfl
    · dsimp? [d_PLAIN]
    · dsimp? [d_PLAIN]
    · dsimp? [d_PLAIN]
    · dsimp? [d_PLAIN]
  · have ht : m_is_time [.va (.int t)] = some (.va (.bl true), [.va (.int t)]) := by
      have t3 : t ≤ 1000000000 := by omega
      rw [time_spec rfl]; simp [isBt, t1, t3]
    dsimp? [d_PLAIN, ht]
theorem makes_spec {B : Int} {d : D} (hB : B ≤ 1000000000) (h : Nd B d) : m_makes [.va d] = some (.va (.bl (mkB d)), [.va d]) := by
  have hd := deed_spec hB h
  unfold m_makes
  rcases h with (rfl | ⟨t, t1, t2, rfl⟩) | h | ⟨t, t1, t2, rfl⟩
  · dsimp? [hd, mkB]
  · dsimp? [hd, mkB]
  · simp only [List.mem_cons, List.not_mem_nil, or_false] at h
    rcases h with rfl | rfl | rfl | rfl
    · dsimp? [hd, mkB]
    · dsimp? [hd, mkB]
    · dsimp? [hd, mkB]
    · dsimp? [hd, mkB]
  · dsimp? [hd, mkB]
theorem part_spec {w : Str} (h : w = "" ∨ w = "held" ∨ w = "anew") : m_is_part_of [.va (.str w), .va d_WORDS] = some (.va (.bl true), [.va (.str w), .va d_WORDS]) := by
  unfold m_is_part_of
  rcases h with rfl | rfl | rfl <;> dsimp? [d_WORDS, so_anew]
theorem between_t {i lo hi : Int} (h1 : lo ≤ i) (h2 : i ≤ hi) : m_is_between [.va (.int i), .va (.int lo), .va (.int hi)] = some (.va (.bl true), [.va (.int i), .va (.int lo), .va (.int hi)]) := by
  rw [between_spec lo hi rfl]
  simp [isBt, h1, h2]
theorem time_t {i : Int} (h1 : 1 ≤ i) (h2 : i ≤ 1000000000) : m_is_time [.va (.int i)] = some (.va (.bl true), [.va (.int i)]) := by
  rw [time_spec rfl]
  simp [isBt, h1, h2]
theorem reachF_succ (as : List Ar) : ∀ (i : Nat) (f : List Bool), reachF as (i + 1) f = passF as (reachF as i f)
  | 0, _ => rfl
  | i + 1, f => reachF_succ as i (passF as f)
theorem passF_take {as : List Ar} {j : Nat} {x : Ar} (h : as[j]? = some x) (f : List Bool) : passF (as.take (j + 1)) f = relax (passF (as.take j) f) x := by
  have : as.take (j + 1) = as.take j ++ [x] := by rw [List.take_add_one, h]; rfl
  rw [this]
  unfold passF
  rw [List.foldl_append]
  rfl
theorem mapmk {ds : List D} : (List.map (fun d => D.bl (mkB d)) (List.filter (fun _ => true) ds)) = (ds.map mkB).map D.bl := by
  have : (ds.filter fun _ => true) = ds := List.filter_eq_self.mpr fun _ _ => rfl
  rw [this, List.map_map]
  rfl
theorem enum_at {ds : List D} {i : Nat} {d : D} (h : (enumD ds)[i]? = some d) : ∃ x, ds[i]? = some x ∧ d = .tup false [.int i, x] := by
  unfold enumD at h
  rw [List.getElem?_map] at h
  obtain ⟨k, hk, rfl⟩ := Option.map_eq_some_iff.mp h
  obtain ⟨h1, h2⟩ := List.getElem?_eq_some_iff.mp hk
  simp at h1 h2
  subst h2
  exact ⟨ds[i], List.getElem?_eq_getElem h1, by simp [List.getD_eq_getElem?_getD, List.getElem?_eq_getElem h1]⟩
theorem enum_len (ds : List D) : (enumD ds).length = ds.length := by simp [enumD]
theorem listed_l (ds : List D) : m_is_listed [.va (.lst ds)] = some (.va (.bl true), [.va (.lst ds)]) := by
  unfold m_is_listed
  simp_all! [xIsi2_e]
def wayD (ds : List D) (as : List Ar) : D := .obj "Way" ["own_nodes", "own_arrows"] [.lst ds, .lst (as.map arD)]
theorem fld_nodes (ds : List D) (as : List Ar) : fldD ["own_nodes", "own_arrows"] [.lst ds, .lst (as.map arD)] "own_nodes" = some (.lst ds) := rfl
theorem fld_arrows (ds : List D) (as : List Ar) : fldD ["own_nodes", "own_arrows"] [.lst ds, .lst (as.map arD)] "own_arrows" = some (.lst (as.map arD)) := rfl
theorem wlen_spec (ds : List D) (as : List Ar) : m_Way___len__ [.va (wayD ds as)] = some (.va (.int ds.length), [.va (wayD ds as)]) := by
  unfold m_Way___len__ wayD
  push_cast [fld_nodes]
theorem xLenO_w {n : Nat} (hn : n ≤ 1000) : (decide ((0 : Int) ≤ (n : Int)) && decide ((n : Int) < 1152921504606846976)) = true := by
  rw [Bool.and_eq_true_iff, decide_eq_true_iff, decide_eq_true_iff]
  omega
theorem wget_spec {ds : List D} {as : List Ar} {i : Nat} {d : D} (h : ds[i]? = some d) : m_Way___getitem__ [.va (wayD ds as), .va (.int i)] = some (.va d, [.va (wayD ds as), .va (.int i)]) := by
  have hi := (List.getElem?_eq_some_iff.mp h).1
  have b := between_t (i := i) (lo := 0) (hi := (ds.length : Int) - 1) (by omega) (by omega)
  unfold m_Way___getitem__ wayD
  push_cast [fld_nodes, b, h]
def ar4 (a : Ar) : D := .tup false [.int a.s, .int a.g, .int a.l, mostD a.m]
theorem cut4_2 (a b c d : D) : cutD [a, b, c, d] none (some 2) = [a, b] := rfl
theorem arD_e4 (a : Ar) : arD a = .tup false [.int a.s, .int a.g, .int a.l, mostD a.m, .str a.w] := rfl
def AMz (z : D) (a : Ar) : Prop := z = arD a ∨ (a.w = "" ∧ z = ar4 a)
def AMs (zs : List D) (as : List Ar) : Prop := zs.length = as.length ∧ ∀ (i : Nat) (x : Ar), as[i]? = some x → ∃ z, zs[i]? = some z ∧ AMz z x
theorem loopP_nx {i : Nat} {enm : Bool} {g : D → En → Option En} {b : En → Option Out} {xs : List D} (P : Nat → En → Prop) (hi : ∀ k e, P k e → e[i]? = some (.pw (.o1 (.lst xs))))
    (st : ∀ k d e, xs[k]? = some d → P k e → Res ((g (itD enm k d) e).bind b) fun o => ∃ e2, (o = .nx e2 ∨ o = .ct e2) ∧ P (k + 1) e2) :
    ∀ (f k : Nat) (e : En), k ≤ xs.length → f = xs.length - k + 1 → P k e → ∃ e2, loopP i enm g b f k e = some (.nx e2) ∧ P xs.length e2 := by
  intro f
  induction f with
  | zero => intro k e _ h; omega
  | succ f ih =>
    intro k e hk hf hp
    have he := hi k e hp
    unfold loopP
    rw [he]
    cases hx : xs[k]? with
    | none =>
      have : xs.length ≤ k := List.getElem?_eq_none_iff.mp hx
      have hk2 : k = xs.length := by omega
      subst hk2
      exact ⟨e, by simp only [hx], hp⟩
    | some d =>
      have hlt := (List.getElem?_eq_some_iff.mp hx).1
      obtain ⟨o, ho, e2, hh, hp2⟩ := st k d e hx hp
      obtain ⟨e1, k1, k2⟩ := Option.bind_eq_some_iff.mp ho
      obtain ⟨e3, k3, k4⟩ := ih (k + 1) e2 (by omega) (by omega) hp2
      refine ⟨e3, ?_, k4⟩
      simp only [hx, k1, Option.bind_some, k2]
      rcases hh with rfl | rfl <;> exact k3
theorem res_forP {i : Nat} {enm : Bool} {g : D → En → Option En} {b : En → Option Out} {xs : List D} {e : En} {Q : Out → Prop} (he : e[i]? = some (.ow (.o1 (.lst xs)))) (P : Nat → En → Prop) (hi : ∀ k e, P k e → e[i]? = some (.pw (.o1 (.lst xs)))) (h0 : P 0 (e.set i (.pw (.o1 (.lst xs)))))
    (st : ∀ k d e, xs[k]? = some d → P k e → Res ((g (itD enm k d) e).bind b) fun o => ∃ e2, (o = .nx e2 ∨ o = .ct e2) ∧ P (k + 1) e2) (q : ∀ e, P xs.length e → Q (.nx (unP i e))) : Res (xForP i enm g b e) Q := by
  obtain ⟨e2, h1, h2⟩ := loopP_nx P hi st (xs.length + 1) 0 (e.set i (.pw (.o1 (.lst xs)))) (Nat.zero_le _) (by omega) h0
  refine ⟨.nx (unP i e2), ?_, q e2 h2⟩
  unfold xForP
  rw [he]
  simp only [h1, Option.bind_some]
  rfl
theorem flatL_bl : ∀ bs : List Bool, D.flatL (bs.map D.bl) = true
  | [] => rfl
  | _ :: bs => flatL_bl bs
theorem itD_t (k : Nat) (d : D) : itD true k d = .tup false [.int (k : Int), d] := rfl
theorem listed_t (ds : List D) : m_is_listed [.va (.tup false ds)] = some (.va (.bl true), [.va (.tup false ds)]) := by
  unfold m_is_listed
  simp_all! [xIsi2_e]
def wayP (ds : List D) (as : List Ar) : O2 := .obj "Way" ["own_nodes", "own_arrows"] [.ow (.lst ds), .ow (.lst (as.map arD))]
theorem is_arrow_L {B M : Int} {n : Nat} {ds : List D} {a : Ar} (hB : B ≤ 1000000000) (hM : M ≤ 1000000000) (hn : ds.length = n) (hall : ∀ d ∈ ds, Nd B d) (h : ArP M n ds a) : m_is_arrow [.va (arD a), .va (.lst ds)] = some (.va (.bl true), [.va (arD a), .va (.lst ds)]) := by
  obtain ⟨hs, hg, hl, hw, han⟩ := h
  have b1 := between_t (i := a.s) (lo := 0) (hi := (ds.length : Int) - 1) (by omega) (by omega)
  have b2 := between_t (i := a.g) (lo := 0) (hi := (ds.length : Int) - 1) (by omega) (by omega)
  have t1 := time_t hl.l1 (by have := hl.l2; omega)
  have pw := part_spec hw
  obtain ⟨d, r, hat, hdm, hnd, hdr⟩ := nd_at hall (g := a.g) (by omega)
  have hmk := makes_spec hB hnd
  have hm := mkAt_of hat
  have so := so_w hw
  unfold m_is_arrow arD
  cases hmm : a.m with
  | none =>
    dsimp? [mostD, b1, b2, t1, pw, hat, hmk, so, so_anew, pIxB_l]
    rw [han, hm, beq_self_eq_true]
  | some m =>
    have t2 := time_t (i := m) (by have := (hl.m m hmm).1; have := hl.l1; omega) (by have := (hl.m m hmm).2; omega)
    have lt : ¬ m < a.l := by have := (hl.m m hmm).1; omega
    dsimp? [mostD, b1, b2, t1, t2, pw, hat, hmk, so, so_anew, pIxB_l, lt]
    rw [han, hm, beq_self_eq_true]
theorem is_arrow_L4 {B M : Int} {n : Nat} {ds : List D} {a : Ar} (hB : B ≤ 1000000000) (hM : M ≤ 1000000000) (hn : ds.length = n) (hall : ∀ d ∈ ds, Nd B d) (h : ArP M n ds a) (hw0 : a.w = "") : m_is_arrow [.va (ar4 a), .va (.lst ds)] = some (.va (.bl true), [.va (ar4 a), .va (.lst ds)]) := by
  obtain ⟨hs, hg, hl, hw, han⟩ := h
  have b1 := between_t (i := a.s) (lo := 0) (hi := (ds.length : Int) - 1) (by omega) (by omega)
  have b2 := between_t (i := a.g) (lo := 0) (hi := (ds.length : Int) - 1) (by omega) (by omega)
  have t1 := time_t hl.l1 (by have := hl.l2; omega)
  rw [hw0] at hw han
  have pw := part_spec hw
  obtain ⟨d, r, hat, hdm, hnd, hdr⟩ := nd_at hall (g := a.g) (by omega)
  have hmk := makes_spec hB hnd
  have hm := mkAt_of hat
  have so := so_w hw
  have hne : (("" : Str) == "anew") = false := beq_eq_false_iff_ne.mpr (by decide +kernel)
  rw [hne] at han
  unfold m_is_arrow ar4
  cases hmm : a.m with
  | none =>
    dsimp? [mostD, b1, b2, t1, pw, hat, hmk, so, so_anew, pIxB_l]
    rw [← hm, ← han]; rfl
  | some m =>
    have t2 := time_t (i := m) (by have := (hl.m m hmm).1; have := hl.l1; omega) (by have := (hl.m m hmm).2; omega)
    have lt : ¬ m < a.l := by have := (hl.m m hmm).1; omega
    dsimp? [mostD, b1, b2, t1, t2, pw, hat, hmk, so, so_anew, pIxB_l, lt]
    rw [← hm, ← han]; rfl
theorem reached_L {B M : Int} {n : Nat} {ds : List D} {as : List Ar} (hB : B ≤ 1000000000) (hl : ds.length = n) (hnd : ∀ d ∈ ds, Nd B d) (hal : ∀ a ∈ as, ArP M n ds a) (hn : n ≤ 1000) (ha : as.length ≤ 1000) :
    Res (m_reached_from [.va (.lst ds), .va (.lst (as.map arD))]) fun p => p = (.ow (.o1 (.lst ((reachF as n (ds.map mkB)).map D.bl))), [.va (.lst ds), .va (.lst (as.map arD))]) := by
  have hlt : ds.length < 100000 := by omega
  unfold m_reached_from
  dsimp! [hlt, xItB_e]
  repeat refine res_bind ?_
  refine res_lc (fun _ => true) (fun d => .bl (mkB d)) ?c1 ?q1
  case c1 =>
    intro d hd
    have hm := makes_spec hB (hnd d hd)
    dsimp! []
    exact res_some ⟨rfl, fun _ => by dsimp! [hm]; exact res_some ⟨rfl, rfl, rfl⟩, fun z => by cases z⟩
  case q1 =>
    rw [mapmk]
    have sm : small62 (ds.length : Int) = true := small_of (by omega) (by omega)
    dsimp! [sm]
    repeat refine res_bind ?_
    refine res_loop (fun i e => ∃ (x3 x4 x5 x6 x7 x8 : Sl), e = [.va (.lst ds), .va (.lst (as.map arD)), .ow (.o1 (.lst ((reachF as i (ds.map mkB)).map D.bl))), x3, x4, x5, x6, x7, x8, .no] ∧ x3.np = true ∧ x4.np = true ∧ x5.np = true ∧ x6.np = true ∧ x7.np = true ∧ x8.np = true) ?i0 ?st ?q
    case i0 => exact ⟨_, _, _, _, _, _, rfl, rfl, rfl, rfl, rfl, rfl, rfl⟩
    case st =>
      rintro i d e hd ⟨x3, x4, x5, x6, x7, x8, rfl, h3, h4, h5, h6, h7, h8⟩
      obtain ⟨hi, rfl⟩ := rng_at hd
      dsimp! [h3]
      repeat refine res_bind ?_
      refine res_loop (fun j e => ∃ (x3 x4 x5 x6 x7 x8 : Sl), e = [.va (.lst ds), .va (.lst (as.map arD)), .ow (.o1 (.lst ((passF (as.take j) (reachF as i (ds.map mkB))).map D.bl))), x3, x4, x5, x6, x7, x8, .no] ∧ x3.np = true ∧ x4.np = true ∧ x5.np = true ∧ x6.np = true ∧ x7.np = true ∧ x8.np = true) ?j0 ?jst ?jq
      case j0 => exact ⟨_, _, _, _, _, _, rfl, rfl, h4, h5, h6, h7, h8⟩
      case jst =>
        rintro j d e hd ⟨x3, x4, x5, x6, x7, x8, rfl, h3, h4, h5, h6, h7, h8⟩
        rw [List.getElem?_map] at hd
        obtain ⟨x, hx, rfl⟩ := Option.map_eq_some_iff.mp hd
        have hxm : x ∈ as := List.mem_of_getElem? hx
        have ap := hal x hxm
        rw [passF_take hx]
        have hF : (passF (as.take j) (reachF as i (ds.map mkB))).length = n := by rw [pass_len, reach_len, List.length_map, hl]
        generalize passF (as.take j) (reachF as i (ds.map mkB)) = F at hF
        have hs := ap.s
        have hg := ap.g
        have e1 : (F.map D.bl)[x.s]? = some (.bl (F.getD x.s false)) := by
          rw [List.getElem?_map, List.getElem?_eq_getElem (by omega)]
          simp [List.getD_eq_getElem?_getD, List.getElem?_eq_getElem (show x.s < F.length by omega)]
        have e2 := pNe_s (so_w ap.w) so_anew
        have e3 : x.g < F.length := by omega
        unfold relax
        have e4 : (x.w == "anew") = decide (x.w = "anew") := by
          by_cases h : x.w = "anew"
          · rw [h]; decide +kernel
          · rw [beq_eq_false_iff_ne.mpr h, decide_eq_false h]
        cases b1 : F.getD x.s false with
        | false =>
          rw [b1] at e1
          dsimp! [arD, h4, h5, h6, h7, h8, e1, e2]
          exact res_some ⟨_, .inl rfl, _, _, _, _, _, _, rfl, h3, rfl, rfl, rfl, rfl, rfl⟩
        | true =>
          rw [b1] at e1
          rw [← e4]
          cases b2 : (x.w == "anew") with
          | true =>
            rw [b2] at e2
            dsimp! [arD, h4, h5, h6, h7, h8, e1, e2]
            exact res_some ⟨_, .inl rfl, _, _, _, _, _, _, rfl, h3, rfl, rfl, rfl, rfl, rfl⟩
          | false =>
            rw [b2] at e2
            dsimp! [arD, h4, h5, h6, h7, h8, e1, e2, List.length_map, e3]
            exact res_some ⟨_, .inl rfl, _, _, _, _, _, _, by rw [List.map_set], h3, rfl, rfl, rfl, rfl, rfl⟩
      case jq =>
        rintro e ⟨x3, x4, x5, x6, x7, x8, rfl, h3, h4, h5, h6, h7, h8⟩
        refine ⟨_, .inl rfl, x3, x4, x5, x6, x7, x8, ?_, h3, h4, h5, h6, h7, h8⟩
        rw [reachF_succ, List.length_map, List.take_length]
    case q =>
      rintro e ⟨x3, x4, x5, x6, x7, x8, rfl, h3, h4, h5, h6, h7, h8⟩
      rw [rng_len, Int.toNat_natCast, hl]
      dsimp! []
      exact res_some rfl
theorem init_L {B M : Int} {n : Nat} {ds zs : List D} {as : List Ar} (pl : PlanI B M n ds as) (hn : n ≤ 12) (ha : as.length ≤ 40) (hz : AMs zs as) :
    Res (m_Way___init__ [.pw (.obj "Way" [] []), .va (.lst ds), .va (.lst zs)]) fun p => p = (.va .non, [.pw (wayP ds as), .va (.lst ds), .va (.lst zs)]) := by
  have hl := pl.len
  have l1 := listed_l ds
  have l2 := listed_l zs
  have hzl := hz.1
  have n1 : (1 : Int) ≤ (ds.length : Int) := by have := pl.n1; omega
  have n2 : (ds.length : Int) ≤ 12 := by omega
  have n3 : ¬ (40 : Int) < (zs.length : Int) := by omega
  have hlt : as.length < 100000 := by omega
  unfold m_Way___init__
  dsimp! [l1, n1, n2, xItEb_e]
  repeat refine res_bind ?_
  refine res_loop (fun i e => ∃ (x3 x4 : Sl), e = [.pw (.obj "Way" [] []), .va (.lst ds), .va (.lst zs), x3, x4, .no, .no, .no, .no] ∧ x3.np = true ∧ x4.np = true) ?i0 ?st ?q
  case i0 => exact ⟨_, _, rfl, rfl, rfl⟩
  case st =>
    rintro i d e hd ⟨x3, x4, rfl, h3, h4⟩
    obtain ⟨x, hx, rfl⟩ := enum_at hd
    have hdd := deed_spec pl.hB (pl.nd x (List.mem_of_getElem? hx))
    dsimp! [h3, h4, hdd]
    exact res_some ⟨_, .inl rfl, _, _, rfl, rfl, rfl⟩
  case q =>
    rintro e ⟨x3, x4, rfl, h3, h4⟩
    dsimp! [l2, n3, xItEb_e]
    repeat refine res_bind ?_
    refine res_loop (fun i e => ∃ (x3 x6 : Sl), e = [.pw (.obj "Way" [] []), .va (.lst ds), .va (.lst zs), x3, x4, .ow (.o1 (.lst ((as.take i).map arD))), x6, .no, .no] ∧ x3.np = true ∧ x6.np = true) ?i0 ?st ?q
    case i0 => exact ⟨_, _, rfl, h3, rfl⟩
    case st =>
      rintro i d e hd ⟨x3, x6, rfl, h3, h6⟩
      obtain ⟨y, hy, rfl⟩ := enum_at hd
      have hil : i < as.length := by have := (List.getElem?_eq_some_iff.mp hy).1; omega
      obtain ⟨x, hx⟩ : ∃ x, as[i]? = some x := ⟨as[i], List.getElem?_eq_getElem hil⟩
      have hxm : x ∈ as := List.mem_of_getElem? hx
      have ap := pl.al x hxm
      obtain ⟨z, hz1, hz2⟩ := hz.2 i x hx
      rw [hy] at hz1
      cases hz1
      have hl5 : (as.take i).length < 100000 := by rw [List.length_take]; omega
      rcases hz2 with rfl | ⟨hw0, rfl⟩
      ·
        have hia := is_arrow_L pl.hB pl.hM hl pl.nd ap
        have hia2 : m_is_arrow [.va (.tup false [.int x.s, .int x.g, .int x.l, mostD x.m, .str x.w]), .va (.lst ds)] = some (.va (.bl true), [.va (.tup false [.int x.s, .int x.g, .int x.l, mostD x.m, .str x.w]), .va (.lst ds)]) := hia
        dsimp! [h3, h6, arD, hia2, xO_n, xO_c, pSlT_f, cut5_2, List.length_map, hl5]
        repeat refine res_bind ?_
        refine res_lc (fun _ => true) two ?c2 ?q2
        case c2 =>
          intro d hd
          obtain ⟨x, hx, rfl⟩ := List.mem_map.mp hd
          dsimp! [arD, xO_n, xO_c, pSlT_f, cut5_2]
          exact res_some ⟨rfl, fun _ => by dsimp! [arD, xO_n, xO_c, pSlT_f, cut5_2]; exact res_some ⟨rfl, rfl, rfl⟩, fun z => by cases z⟩
        case q2 =>
          have hpl : ((D.tup false [.int x.s, .int x.g]).pl 40 && D.pls 39 (List.map two (List.filter (fun _ => true) (List.map arD (as.take i))))) = true := by
            rw [Bool.and_eq_true_iff]
            exact ⟨by simp [D.pl, D.pls], twoL_pl _⟩
          have hN := pIn_e _ _ hpl
          have hA2 : ((List.map two (List.filter (fun _ => true) (List.map arD (as.take i)))).any fun y => y.eqv (.tup false [.int x.s, .int x.g])) = false := by
            rw [show List.map two (List.filter (fun _ => true) (List.map arD (as.take i))) = twoL (as.take i) from rfl, twoL_any]
            rw [List.any_eq_false]
            intro y hy hh
            obtain ⟨j, hj, rfl⟩ := List.mem_iff_getElem.mp hy
            rw [List.length_take] at hj
            have := (List.pairwise_iff_getElem.mp pl.one) j i (by omega) hil (by omega)
            rw [List.getElem_take] at hh
            have e0 : as[i] = x := by
              have := List.getElem?_eq_getElem hil
              rw [this] at hx
              exact Option.some.inj hx
            rw [e0] at this
            simp at hh
            exact this hh
          dsimp! [hN, hA2, List.length_map, hl5, pEq_i, Int.reduceBEq, natc]
          refine res_some ⟨_, .inl rfl, .va (.int i), .va (arD x), ?_, rfl, rfl⟩
          have : as.take (i + 1) = as.take i ++ [x] := by rw [List.take_add_one, hx]; rfl
          rw [this, List.map_append]
          rfl
      ·
        have hia := is_arrow_L4 pl.hB pl.hM hl pl.nd ap hw0
        have hia2 : m_is_arrow [.va (.tup false [.int x.s, .int x.g, .int x.l, mostD x.m]), .va (.lst ds)] = some (.va (.bl true), [.va (.tup false [.int x.s, .int x.g, .int x.l, mostD x.m]), .va (.lst ds)]) := hia
        dsimp! [h3, h6, ar4, hia2, xO_n, xO_c, pSlT_f, cut4_2, List.length_map, hl5]
        repeat refine res_bind ?_
        refine res_lc (fun _ => true) two ?c2 ?q2
        case c2 =>
          intro d hd
          obtain ⟨x, hx, rfl⟩ := List.mem_map.mp hd
          dsimp! [arD, xO_n, xO_c, pSlT_f, cut5_2]
          exact res_some ⟨rfl, fun _ => by dsimp! [arD, xO_n, xO_c, pSlT_f, cut5_2]; exact res_some ⟨rfl, rfl, rfl⟩, fun z => by cases z⟩
        case q2 =>
          have hpl : ((D.tup false [.int x.s, .int x.g]).pl 40 && D.pls 39 (List.map two (List.filter (fun _ => true) (List.map arD (as.take i))))) = true := by
            rw [Bool.and_eq_true_iff]
            exact ⟨by simp [D.pl, D.pls], twoL_pl _⟩
          have hN := pIn_e _ _ hpl
          have hA2 : ((List.map two (List.filter (fun _ => true) (List.map arD (as.take i)))).any fun y => y.eqv (.tup false [.int x.s, .int x.g])) = false := by
            rw [show List.map two (List.filter (fun _ => true) (List.map arD (as.take i))) = twoL (as.take i) from rfl, twoL_any]
            rw [List.any_eq_false]
            intro y hy hh
            obtain ⟨j, hj, rfl⟩ := List.mem_iff_getElem.mp hy
            rw [List.length_take] at hj
            have := (List.pairwise_iff_getElem.mp pl.one) j i (by omega) hil (by omega)
            rw [List.getElem_take] at hh
            have e0 : as[i] = x := by
              have := List.getElem?_eq_getElem hil
              rw [this] at hx
              exact Option.some.inj hx
            rw [e0] at this
            simp at hh
            exact this hh
          dsimp! [hN, hA2, List.length_map, hl5, pEq_i, Int.reduceBEq, natc]
          refine res_some ⟨_, .inl rfl, .va (.int i), .va (ar4 x), ?_, rfl, rfl⟩
          have : as.take (i + 1) = as.take i ++ [x] := by rw [List.take_add_one, hx]; rfl
          rw [this, List.map_append, List.map_singleton, arD_e4, hw0]
          rfl
    case q =>
      rintro e ⟨x3, x6, rfl, h3, h6⟩
      rw [enum_len, hzl, List.take_length]
      dsimp! []
      repeat refine res_bind ?_
      refine res_forP (xs := as.map arD) rfl (fun i e => ∃ (x3 x6 : Sl), e = [.pw (.obj "Way" [] []), .va (.lst ds), .va (.lst zs), x3, x4, .pw (.o1 (.lst (as.map arD))), x6, .no, .no] ∧ x3.np = true ∧ x6.np = true) ?khi ?k0 ?kst ?kq
      case khi => rintro k e ⟨x3, x6, rfl, h3, h6⟩; rfl
      case k0 => exact ⟨_, _, rfl, h3, h6⟩
      case kst =>
        rintro i d e hy ⟨x3, x6, rfl, h3, h6⟩
        rw [List.getElem?_map] at hy
        rw [itD_t]
        obtain ⟨x, hx, rfl⟩ := Option.map_eq_some_iff.mp hy
        have hxm : x ∈ as := List.mem_of_getElem? hx
        have ap := pl.al x hxm
        have e2 := pEq_s (so_w ap.w) so_anew
        cases b : (x.w == "anew") with
        | false =>
          rw [b] at e2
          dsimp! [h3, h6, arD, e2]
          exact res_some ⟨_, .inl rfl, _, _, rfl, rfl, rfl⟩
        | true =>
          rw [b] at e2
          dsimp! [h3, h6, arD, e2, List.length_map, hlt]
          repeat refine res_bind ?_
          refine res_lc (fun _ => true) (fun d => .bl (onP x.g d)) ?c2 ?q2
          case c2 =>
            intro d hd
            obtain ⟨z, hz, rfl⟩ := List.mem_map.mp hd
            have e3 := pNe_s (so_w (pl.al z hz).w) so_anew
            dsimp! []
            refine res_some ⟨rfl, fun _ => ?_, fun z => by cases z⟩
            cases hsg : ((z.s : Int) == (x.g : Int)) with
            | true =>
              dsimp! [arD, e3, pEq_i, hsg]
              exact res_some ⟨by show _ = D.bl (((z.s : Int) == (x.g : Int)) && !(z.w == "anew")); rw [hsg]; rfl, rfl, rfl⟩
            | false =>
              dsimp! [arD, e3, pEq_i, hsg]
              exact res_some ⟨by show _ = D.bl (((z.s : Int) == (x.g : Int)) && !(z.w == "anew")); rw [hsg]; rfl, rfl, rfl⟩
          case q2 =>
            have hbools : ∀ l : List D, boolsD (l.map fun d => D.bl (onP x.g d)) = some (l.map (onP x.g)) := by
              intro l
              induction l with
              | nil => rfl
              | cons a r ih => simp only [List.map_cons, boolsD, ih, Option.bind_some]
            have hany : pAny [.lst (List.map (fun d => D.bl (onP x.g d)) (List.filter (fun _ => true) (List.map arD as)))] = some (.va (.bl true)) := by
              have hf : (List.filter (fun _ => true) (List.map arD as)) = List.map arD as := List.filter_eq_self.mpr fun _ _ => rfl
              rw [hf]
              show (boolsD _).bind _ = _
              rw [hbools]
              simp only [Option.bind_some]
              obtain ⟨y, hy, h1, h2⟩ := pl.on x hxm (eq_of_beq b)
              have : ((List.map arD as).map (onP x.g)).any id = true := by
                rw [List.any_eq_true]
                refine ⟨true, List.mem_map.mpr ⟨arD y, List.mem_map.mpr ⟨y, hy, rfl⟩, ?_⟩, rfl⟩
                show (((y.s : Int) == (x.g : Int)) && !(y.w == "anew")) = true
                rw [h1, beq_self_eq_true, beq_eq_false_iff_ne.mpr h2]
                rfl
              rw [this]
            dsimp! [hany]
            exact res_some ⟨_, .inl rfl, _, _, rfl, rfl, rfl⟩
      case kq =>
        rintro e ⟨x3, x6, rfl, h3, h6⟩
        obtain ⟨p, hr, rfl⟩ := reached_L pl.hB pl.len pl.nd pl.al (by omega) (by omega)
        unfold unP
        dsimp! [hr, flatL_bl]
        repeat refine res_bind ?_
        refine res_loop (fun i e => ∃ (x3 x7 : Sl), e = [.pw (.obj "Way" [] []), .va (.lst ds), .va (.lst zs), x3, x4, .ow (.o1 (.lst (as.map arD))), x6, x7, .no] ∧ x3.np = true ∧ x7.np = true) ?m0 ?mst ?mq
        case m0 => exact ⟨_, _, rfl, h3, rfl⟩
        case mst =>
          rintro i d e hd ⟨x3, x7, rfl, h3, h7⟩
          obtain ⟨y, hy, rfl⟩ := enum_at hd
          rw [List.getElem?_map] at hy
          obtain ⟨x, hx, rfl⟩ := Option.map_eq_some_iff.mp hy
          have ht : x = true := by
            have hT : Tree (ds.map mkB) as := fun g hg hf => by
              rw [List.length_map] at hg
              have : 1 ≤ g := by
                rcases Nat.eq_zero_or_pos g with rfl | h
                · obtain ⟨d, r, e, hm⟩ := pl.first
                  rw [e] at hf
                  have hf : mkB d = false := hf
                  rw [(mk_head hm).1] at hf
                  cases hf
                · exact h
              exact pl.tree g this (by omega) hf
            have hlm : (ds.map mkB).length = n := by rw [List.length_map, hl]
            have hi : i < n := by
              have := (List.getElem?_eq_some_iff.mp hx).1
              rw [reach_len, hlm] at this
              exact this
            have := reach_all hT i (by rw [hlm]; exact hi)
            rw [hlm, List.getD_eq_getElem?_getD, hx] at this
            exact this
          subst ht
          dsimp! [h3, h7]
          exact res_some ⟨_, .inl rfl, _, _, rfl, rfl, rfl⟩
        case mq =>
          rintro e ⟨x3, x7, rfl, h3, h7⟩
          have hne : (("own_nodes" : Str) = "own_arrows") = False := eq_false (by decide +kernel)
          dsimp! [pListOf, toFv, nmPut, fvPut, wayP, hne]
          exact res_some rfl
theorem is_arrow_T {B M : Int} {n : Nat} {ds : List D} {a : Ar} (hB : B ≤ 1000000000) (hM : M ≤ 1000000000) (hn : ds.length = n) (hall : ∀ d ∈ ds, Nd B d) (h : ArP M n ds a) : m_is_arrow [.va (arD a), .va (.tup false ds)] = some (.va (.bl true), [.va (arD a), .va (.tup false ds)]) := by
  obtain ⟨hs, hg, hl, hw, han⟩ := h
  have b1 := between_t (i := a.s) (lo := 0) (hi := (ds.length : Int) - 1) (by omega) (by omega)
  have b2 := between_t (i := a.g) (lo := 0) (hi := (ds.length : Int) - 1) (by omega) (by omega)
  have t1 := time_t hl.l1 (by have := hl.l2; omega)
  have pw := part_spec hw
  obtain ⟨d, r, hat, hdm, hnd, hdr⟩ := nd_at hall (g := a.g) (by omega)
  have hmk := makes_spec hB hnd
  have hm := mkAt_of hat
  have so := so_w hw
  unfold m_is_arrow arD
  cases hmm : a.m with
  | none =>
    dsimp? [mostD, b1, b2, t1, pw, hat, hmk, so, so_anew, pIxB_t]
    rw [han, hm, beq_self_eq_true]
  | some m =>
    have t2 := time_t (i := m) (by have := (hl.m m hmm).1; have := hl.l1; omega) (by have := (hl.m m hmm).2; omega)
    have lt : ¬ m < a.l := by have := (hl.m m hmm).1; omega
    dsimp? [mostD, b1, b2, t1, t2, pw, hat, hmk, so, so_anew, pIxB_t, lt]
    rw [han, hm, beq_self_eq_true]
theorem is_arrow_T4 {B M : Int} {n : Nat} {ds : List D} {a : Ar} (hB : B ≤ 1000000000) (hM : M ≤ 1000000000) (hn : ds.length = n) (hall : ∀ d ∈ ds, Nd B d) (h : ArP M n ds a) (hw0 : a.w = "") : m_is_arrow [.va (ar4 a), .va (.tup false ds)] = some (.va (.bl true), [.va (ar4 a), .va (.tup false ds)]) := by
  obtain ⟨hs, hg, hl, hw, han⟩ := h
  have b1 := between_t (i := a.s) (lo := 0) (hi := (ds.length : Int) - 1) (by omega) (by omega)
  have b2 := between_t (i := a.g) (lo := 0) (hi := (ds.length : Int) - 1) (by omega) (by omega)
  have t1 := time_t hl.l1 (by have := hl.l2; omega)
  rw [hw0] at hw han
  have pw := part_spec hw
  obtain ⟨d, r, hat, hdm, hnd, hdr⟩ := nd_at hall (g := a.g) (by omega)
  have hmk := makes_spec hB hnd
  have hm := mkAt_of hat
  have so := so_w hw
  have hne : (("" : Str) == "anew") = false := beq_eq_false_iff_ne.mpr (by decide +kernel)
  rw [hne] at han
  unfold m_is_arrow ar4
  cases hmm : a.m with
  | none =>
    dsimp? [mostD, b1, b2, t1, pw, hat, hmk, so, so_anew, pIxB_t]
    rw [← hm, ← han]; rfl
  | some m =>
    have t2 := time_t (i := m) (by have := (hl.m m hmm).1; have := hl.l1; omega) (by have := (hl.m m hmm).2; omega)
    have lt : ¬ m < a.l := by have := (hl.m m hmm).1; omega
    dsimp? [mostD, b1, b2, t1, t2, pw, hat, hmk, so, so_anew, pIxB_t, lt]
    rw [← hm, ← han]; rfl
theorem reached_T {B M : Int} {n : Nat} {ds : List D} {as : List Ar} (hB : B ≤ 1000000000) (hl : ds.length = n) (hnd : ∀ d ∈ ds, Nd B d) (hal : ∀ a ∈ as, ArP M n ds a) (hn : n ≤ 1000) (ha : as.length ≤ 1000) :
    Res (m_reached_from [.va (.tup false ds), .va (.lst (as.map arD))]) fun p => p = (.ow (.o1 (.lst ((reachF as n (ds.map mkB)).map D.bl))), [.va (.tup false ds), .va (.lst (as.map arD))]) := by
  have hlt : ds.length < 100000 := by omega
  unfold m_reached_from
  dsimp! [hlt, xItB_e]
  repeat refine res_bind ?_
  refine res_lc (fun _ => true) (fun d => .bl (mkB d)) ?c1 ?q1
  case c1 =>
    intro d hd
    have hm := makes_spec hB (hnd d hd)
    dsimp! []
    exact res_some ⟨rfl, fun _ => by dsimp! [hm]; exact res_some ⟨rfl, rfl, rfl⟩, fun z => by cases z⟩
  case q1 =>
    rw [mapmk]
    have sm : small62 (ds.length : Int) = true := small_of (by omega) (by omega)
    dsimp! [sm]
    repeat refine res_bind ?_
    refine res_loop (fun i e => ∃ (x3 x4 x5 x6 x7 x8 : Sl), e = [.va (.tup false ds), .va (.lst (as.map arD)), .ow (.o1 (.lst ((reachF as i (ds.map mkB)).map D.bl))), x3, x4, x5, x6, x7, x8, .no] ∧ x3.np = true ∧ x4.np = true ∧ x5.np = true ∧ x6.np = true ∧ x7.np = true ∧ x8.np = true) ?i0 ?st ?q
    case i0 => exact ⟨_, _, _, _, _, _, rfl, rfl, rfl, rfl, rfl, rfl, rfl⟩
    case st =>
      rintro i d e hd ⟨x3, x4, x5, x6, x7, x8, rfl, h3, h4, h5, h6, h7, h8⟩
      obtain ⟨hi, rfl⟩ := rng_at hd
      dsimp! [h3]
      repeat refine res_bind ?_
      refine res_loop (fun j e => ∃ (x3 x4 x5 x6 x7 x8 : Sl), e = [.va (.tup false ds), .va (.lst (as.map arD)), .ow (.o1 (.lst ((passF (as.take j) (reachF as i (ds.map mkB))).map D.bl))), x3, x4, x5, x6, x7, x8, .no] ∧ x3.np = true ∧ x4.np = true ∧ x5.np = true ∧ x6.np = true ∧ x7.np = true ∧ x8.np = true) ?j0 ?jst ?jq
      case j0 => exact ⟨_, _, _, _, _, _, rfl, rfl, h4, h5, h6, h7, h8⟩
      case jst =>
        rintro j d e hd ⟨x3, x4, x5, x6, x7, x8, rfl, h3, h4, h5, h6, h7, h8⟩
        rw [List.getElem?_map] at hd
        obtain ⟨x, hx, rfl⟩ := Option.map_eq_some_iff.mp hd
        have hxm : x ∈ as := List.mem_of_getElem? hx
        have ap := hal x hxm
        rw [passF_take hx]
        have hF : (passF (as.take j) (reachF as i (ds.map mkB))).length = n := by rw [pass_len, reach_len, List.length_map, hl]
        generalize passF (as.take j) (reachF as i (ds.map mkB)) = F at hF
        have hs := ap.s
        have hg := ap.g
        have e1 : (F.map D.bl)[x.s]? = some (.bl (F.getD x.s false)) := by
          rw [List.getElem?_map, List.getElem?_eq_getElem (by omega)]
          simp [List.getD_eq_getElem?_getD, List.getElem?_eq_getElem (show x.s < F.length by omega)]
        have e2 := pNe_s (so_w ap.w) so_anew
        have e3 : x.g < F.length := by omega
        unfold relax
        have e4 : (x.w == "anew") = decide (x.w = "anew") := by
          by_cases h : x.w = "anew"
          · rw [h]; decide +kernel
          · rw [beq_eq_false_iff_ne.mpr h, decide_eq_false h]
        cases b1 : F.getD x.s false with
        | false =>
          rw [b1] at e1
          dsimp! [arD, h4, h5, h6, h7, h8, e1, e2]
          exact res_some ⟨_, .inl rfl, _, _, _, _, _, _, rfl, h3, rfl, rfl, rfl, rfl, rfl⟩
        | true =>
          rw [b1] at e1
          rw [← e4]
          cases b2 : (x.w == "anew") with
          | true =>
            rw [b2] at e2
            dsimp! [arD, h4, h5, h6, h7, h8, e1, e2]
            exact res_some ⟨_, .inl rfl, _, _, _, _, _, _, rfl, h3, rfl, rfl, rfl, rfl, rfl⟩
          | false =>
            rw [b2] at e2
            dsimp! [arD, h4, h5, h6, h7, h8, e1, e2, List.length_map, e3]
            exact res_some ⟨_, .inl rfl, _, _, _, _, _, _, by rw [List.map_set], h3, rfl, rfl, rfl, rfl, rfl⟩
      case jq =>
        rintro e ⟨x3, x4, x5, x6, x7, x8, rfl, h3, h4, h5, h6, h7, h8⟩
        refine ⟨_, .inl rfl, x3, x4, x5, x6, x7, x8, ?_, h3, h4, h5, h6, h7, h8⟩
        rw [reachF_succ, List.length_map, List.take_length]
    case q =>
      rintro e ⟨x3, x4, x5, x6, x7, x8, rfl, h3, h4, h5, h6, h7, h8⟩
      rw [rng_len, Int.toNat_natCast, hl]
      dsimp! []
      exact res_some rfl
theorem init_T {B M : Int} {n : Nat} {ds zs : List D} {as : List Ar} (pl : PlanI B M n ds as) (hn : n ≤ 12) (ha : as.length ≤ 40) (hz : AMs zs as) :
    Res (m_Way___init__ [.pw (.obj "Way" [] []), .va (.tup false ds), .va (.tup false zs)]) fun p => p = (.va .non, [.pw (wayP ds as), .va (.tup false ds), .va (.tup false zs)]) := by
  have hl := pl.len
  have l1 := listed_t ds
  have l2 := listed_t zs
  have hzl := hz.1
  have n1 : (1 : Int) ≤ (ds.length : Int) := by have := pl.n1; omega
  have n2 : (ds.length : Int) ≤ 12 := by omega
  have n3 : ¬ (40 : Int) < (zs.length : Int) := by omega
  have hlt : as.length < 100000 := by omega
  unfold m_Way___init__
  dsimp! [l1, n1, n2, xItEb_e]
  repeat refine res_bind ?_
  refine res_loop (fun i e => ∃ (x3 x4 : Sl), e = [.pw (.obj "Way" [] []), .va (.tup false ds), .va (.tup false zs), x3, x4, .no, .no, .no, .no] ∧ x3.np = true ∧ x4.np = true) ?i0 ?st ?q
  case i0 => exact ⟨_, _, rfl, rfl, rfl⟩
  case st =>
    rintro i d e hd ⟨x3, x4, rfl, h3, h4⟩
    obtain ⟨x, hx, rfl⟩ := enum_at hd
    have hdd := deed_spec pl.hB (pl.nd x (List.mem_of_getElem? hx))
    dsimp! [h3, h4, hdd]
    exact res_some ⟨_, .inl rfl, _, _, rfl, rfl, rfl⟩
  case q =>
    rintro e ⟨x3, x4, rfl, h3, h4⟩
    dsimp! [l2, n3, xItEb_e]
    repeat refine res_bind ?_
    refine res_loop (fun i e => ∃ (x3 x6 : Sl), e = [.pw (.obj "Way" [] []), .va (.tup false ds), .va (.tup false zs), x3, x4, .ow (.o1 (.lst ((as.take i).map arD))), x6, .no, .no] ∧ x3.np = true ∧ x6.np = true) ?i0 ?st ?q
    case i0 => exact ⟨_, _, rfl, h3, rfl⟩
    case st =>
      rintro i d e hd ⟨x3, x6, rfl, h3, h6⟩
      obtain ⟨y, hy, rfl⟩ := enum_at hd
      have hil : i < as.length := by have := (List.getElem?_eq_some_iff.mp hy).1; omega
      obtain ⟨x, hx⟩ : ∃ x, as[i]? = some x := ⟨as[i], List.getElem?_eq_getElem hil⟩
      have hxm : x ∈ as := List.mem_of_getElem? hx
      have ap := pl.al x hxm
      obtain ⟨z, hz1, hz2⟩ := hz.2 i x hx
      rw [hy] at hz1
      cases hz1
      have hl5 : (as.take i).length < 100000 := by rw [List.length_take]; omega
      rcases hz2 with rfl | ⟨hw0, rfl⟩
      ·
        have hia := is_arrow_T pl.hB pl.hM hl pl.nd ap
        have hia2 : m_is_arrow [.va (.tup false [.int x.s, .int x.g, .int x.l, mostD x.m, .str x.w]), .va (.tup false ds)] = some (.va (.bl true), [.va (.tup false [.int x.s, .int x.g, .int x.l, mostD x.m, .str x.w]), .va (.tup false ds)]) := hia
        dsimp! [h3, h6, arD, hia2, xO_n, xO_c, pSlT_f, cut5_2, List.length_map, hl5]
        repeat refine res_bind ?_
        refine res_lc (fun _ => true) two ?c2 ?q2
        case c2 =>
          intro d hd
          obtain ⟨x, hx, rfl⟩ := List.mem_map.mp hd
          dsimp! [arD, xO_n, xO_c, pSlT_f, cut5_2]
          exact res_some ⟨rfl, fun _ => by dsimp! [arD, xO_n, xO_c, pSlT_f, cut5_2]; exact res_some ⟨rfl, rfl, rfl⟩, fun z => by cases z⟩
        case q2 =>
          have hpl : ((D.tup false [.int x.s, .int x.g]).pl 40 && D.pls 39 (List.map two (List.filter (fun _ => true) (List.map arD (as.take i))))) = true := by
            rw [Bool.and_eq_true_iff]
            exact ⟨by simp [D.pl, D.pls], twoL_pl _⟩
          have hN := pIn_e _ _ hpl
          have hA2 : ((List.map two (List.filter (fun _ => true) (List.map arD (as.take i)))).any fun y => y.eqv (.tup false [.int x.s, .int x.g])) = false := by
            rw [show List.map two (List.filter (fun _ => true) (List.map arD (as.take i))) = twoL (as.take i) from rfl, twoL_any]
            rw [List.any_eq_false]
            intro y hy hh
            obtain ⟨j, hj, rfl⟩ := List.mem_iff_getElem.mp hy
            rw [List.length_take] at hj
            have := (List.pairwise_iff_getElem.mp pl.one) j i (by omega) hil (by omega)
            rw [List.getElem_take] at hh
            have e0 : as[i] = x := by
              have := List.getElem?_eq_getElem hil
              rw [this] at hx
              exact Option.some.inj hx
            rw [e0] at this
            simp at hh
            exact this hh
          dsimp! [hN, hA2, List.length_map, hl5, pEq_i, Int.reduceBEq, natc]
          refine res_some ⟨_, .inl rfl, .va (.int i), .va (arD x), ?_, rfl, rfl⟩
          have : as.take (i + 1) = as.take i ++ [x] := by rw [List.take_add_one, hx]; rfl
          rw [this, List.map_append]
          rfl
      ·
        have hia := is_arrow_T4 pl.hB pl.hM hl pl.nd ap hw0
        have hia2 : m_is_arrow [.va (.tup false [.int x.s, .int x.g, .int x.l, mostD x.m]), .va (.tup false ds)] = some (.va (.bl true), [.va (.tup false [.int x.s, .int x.g, .int x.l, mostD x.m]), .va (.tup false ds)]) := hia
        dsimp! [h3, h6, ar4, hia2, xO_n, xO_c, pSlT_f, cut4_2, List.length_map, hl5]
        repeat refine res_bind ?_
        refine res_lc (fun _ => true) two ?c2 ?q2
        case c2 =>
          intro d hd
          obtain ⟨x, hx, rfl⟩ := List.mem_map.mp hd
          dsimp! [arD, xO_n, xO_c, pSlT_f, cut5_2]
          exact res_some ⟨rfl, fun _ => by dsimp! [arD, xO_n, xO_c, pSlT_f, cut5_2]; exact res_some ⟨rfl, rfl, rfl⟩, fun z => by cases z⟩
        case q2 =>
          have hpl : ((D.tup false [.int x.s, .int x.g]).pl 40 && D.pls 39 (List.map two (List.filter (fun _ => true) (List.map arD (as.take i))))) = true := by
            rw [Bool.and_eq_true_iff]
            exact ⟨by simp [D.pl, D.pls], twoL_pl _⟩
          have hN := pIn_e _ _ hpl
          have hA2 : ((List.map two (List.filter (fun _ => true) (List.map arD (as.take i)))).any fun y => y.eqv (.tup false [.int x.s, .int x.g])) = false := by
            rw [show List.map two (List.filter (fun _ => true) (List.map arD (as.take i))) = twoL (as.take i) from rfl, twoL_any]
            rw [List.any_eq_false]
            intro y hy hh
            obtain ⟨j, hj, rfl⟩ := List.mem_iff_getElem.mp hy
            rw [List.length_take] at hj
            have := (List.pairwise_iff_getElem.mp pl.one) j i (by omega) hil (by omega)
            rw [List.getElem_take] at hh
            have e0 : as[i] = x := by
              have := List.getElem?_eq_getElem hil
              rw [this] at hx
              exact Option.some.inj hx
            rw [e0] at this
            simp at hh
            exact this hh
          dsimp! [hN, hA2, List.length_map, hl5, pEq_i, Int.reduceBEq, natc]
          refine res_some ⟨_, .inl rfl, .va (.int i), .va (ar4 x), ?_, rfl, rfl⟩
          have : as.take (i + 1) = as.take i ++ [x] := by rw [List.take_add_one, hx]; rfl
          rw [this, List.map_append, List.map_singleton, arD_e4, hw0]
          rfl
    case q =>
      rintro e ⟨x3, x6, rfl, h3, h6⟩
      rw [enum_len, hzl, List.take_length]
      dsimp! []
      repeat refine res_bind ?_
      refine res_forP (xs := as.map arD) rfl (fun i e => ∃ (x3 x6 : Sl), e = [.pw (.obj "Way" [] []), .va (.tup false ds), .va (.tup false zs), x3, x4, .pw (.o1 (.lst (as.map arD))), x6, .no, .no] ∧ x3.np = true ∧ x6.np = true) ?khi ?k0 ?kst ?kq
      case khi => rintro k e ⟨x3, x6, rfl, h3, h6⟩; rfl
      case k0 => exact ⟨_, _, rfl, h3, h6⟩
      case kst =>
        rintro i d e hy ⟨x3, x6, rfl, h3, h6⟩
        rw [List.getElem?_map] at hy
        rw [itD_t]
        obtain ⟨x, hx, rfl⟩ := Option.map_eq_some_iff.mp hy
        have hxm : x ∈ as := List.mem_of_getElem? hx
        have ap := pl.al x hxm
        have e2 := pEq_s (so_w ap.w) so_anew
        cases b : (x.w == "anew") with
        | false =>
          rw [b] at e2
          dsimp! [h3, h6, arD, e2]
          exact res_some ⟨_, .inl rfl, _, _, rfl, rfl, rfl⟩
        | true =>
          rw [b] at e2
          dsimp! [h3, h6, arD, e2, List.length_map, hlt]
          repeat refine res_bind ?_
          refine res_lc (fun _ => true) (fun d => .bl (onP x.g d)) ?c2 ?q2
          case c2 =>
            intro d hd
            obtain ⟨z, hz, rfl⟩ := List.mem_map.mp hd
            have e3 := pNe_s (so_w (pl.al z hz).w) so_anew
            dsimp! []
            refine res_some ⟨rfl, fun _ => ?_, fun z => by cases z⟩
            cases hsg : ((z.s : Int) == (x.g : Int)) with
            | true =>
              dsimp! [arD, e3, pEq_i, hsg]
              exact res_some ⟨by show _ = D.bl (((z.s : Int) == (x.g : Int)) && !(z.w == "anew")); rw [hsg]; rfl, rfl, rfl⟩
            | false =>
              dsimp! [arD, e3, pEq_i, hsg]
              exact res_some ⟨by show _ = D.bl (((z.s : Int) == (x.g : Int)) && !(z.w == "anew")); rw [hsg]; rfl, rfl, rfl⟩
          case q2 =>
            have hbools : ∀ l : List D, boolsD (l.map fun d => D.bl (onP x.g d)) = some (l.map (onP x.g)) := by
              intro l
              induction l with
              | nil => rfl
              | cons a r ih => simp only [List.map_cons, boolsD, ih, Option.bind_some]
            have hany : pAny [.lst (List.map (fun d => D.bl (onP x.g d)) (List.filter (fun _ => true) (List.map arD as)))] = some (.va (.bl true)) := by
              have hf : (List.filter (fun _ => true) (List.map arD as)) = List.map arD as := List.filter_eq_self.mpr fun _ _ => rfl
              rw [hf]
              show (boolsD _).bind _ = _
              rw [hbools]
              simp only [Option.bind_some]
              obtain ⟨y, hy, h1, h2⟩ := pl.on x hxm (eq_of_beq b)
              have : ((List.map arD as).map (onP x.g)).any id = true := by
                rw [List.any_eq_true]
                refine ⟨true, List.mem_map.mpr ⟨arD y, List.mem_map.mpr ⟨y, hy, rfl⟩, ?_⟩, rfl⟩
                show (((y.s : Int) == (x.g : Int)) && !(y.w == "anew")) = true
                rw [h1, beq_self_eq_true, beq_eq_false_iff_ne.mpr h2]
                rfl
              rw [this]
            dsimp! [hany]
            exact res_some ⟨_, .inl rfl, _, _, rfl, rfl, rfl⟩
      case kq =>
        rintro e ⟨x3, x6, rfl, h3, h6⟩
        obtain ⟨p, hr, rfl⟩ := reached_T pl.hB pl.len pl.nd pl.al (by omega) (by omega)
        unfold unP
        dsimp! [hr, flatL_bl]
        repeat refine res_bind ?_
        refine res_loop (fun i e => ∃ (x3 x7 : Sl), e = [.pw (.obj "Way" [] []), .va (.tup false ds), .va (.tup false zs), x3, x4, .ow (.o1 (.lst (as.map arD))), x6, x7, .no] ∧ x3.np = true ∧ x7.np = true) ?m0 ?mst ?mq
        case m0 => exact ⟨_, _, rfl, h3, rfl⟩
        case mst =>
          rintro i d e hd ⟨x3, x7, rfl, h3, h7⟩
          obtain ⟨y, hy, rfl⟩ := enum_at hd
          rw [List.getElem?_map] at hy
          obtain ⟨x, hx, rfl⟩ := Option.map_eq_some_iff.mp hy
          have ht : x = true := by
            have hT : Tree (ds.map mkB) as := fun g hg hf => by
              rw [List.length_map] at hg
              have : 1 ≤ g := by
                rcases Nat.eq_zero_or_pos g with rfl | h
                · obtain ⟨d, r, e, hm⟩ := pl.first
                  rw [e] at hf
                  have hf : mkB d = false := hf
                  rw [(mk_head hm).1] at hf
                  cases hf
                · exact h
              exact pl.tree g this (by omega) hf
            have hlm : (ds.map mkB).length = n := by rw [List.length_map, hl]
            have hi : i < n := by
              have := (List.getElem?_eq_some_iff.mp hx).1
              rw [reach_len, hlm] at this
              exact this
            have := reach_all hT i (by rw [hlm]; exact hi)
            rw [hlm, List.getD_eq_getElem?_getD, hx] at this
            exact this
          subst ht
          dsimp! [h3, h7]
          exact res_some ⟨_, .inl rfl, _, _, rfl, rfl, rfl⟩
        case mq =>
          rintro e ⟨x3, x7, rfl, h3, h7⟩
          have hne : (("own_nodes" : Str) = "own_arrows") = False := eq_false (by decide +kernel)
          dsimp! [pListOf, toFv, nmPut, fvPut, wayP, hne]
          exact res_some rfl
theorem xO_s6 (f : En → Option (D × En)) (e : En) : xO (some f) e = @bnd _ _ (f e) ⟨fun p => match p.1 with
  | .int i => some (some i, p.2)
  | _ => none⟩ := rfl
theorem xParO_e6 (i j : Nat) (f g : En → Option (Sl × En)) (e : En) : xParO i j f g e = @bnd _ _ (f e) ⟨fun p => @bnd _ _ (g p.2) ⟨fun q => @bnd _ _ (putS q.2 i p.1) ⟨fun e1 => @bnd _ _ (putS e1 j q.1) ⟨fun e2 => some (.nx e2)⟩⟩⟩⟩ := rfl
mutual
theorem eqv_rfl : ∀ {n : Nat} {d : D}, d.pl n = true → d.eqv d = true
  | _, .non, _ => rfl
  | _, .bl b, _ => by simp [D.eqv]
  | _, .int i, _ => by simp [D.eqv]
  | _, .str x, _ => by simp [D.eqv]
  | n + 1, .lst ds, h => by simp only [D.pl] at h; simp only [D.eqv]; exact eqvs_rfl h
  | n + 1, .tup k ds, h => by simp only [D.pl] at h; simp only [D.eqv]; exact eqvs_rfl h
  | 0, .lst ds, h => by simp [D.pl] at h
  | 0, .tup k ds, h => by simp [D.pl] at h
  | n, .scr _, h => by cases n <;> simp [D.pl] at h
  | n, .dct _ _, h => by cases n <;> simp [D.pl] at h
  | n, .dcT _ _, h => by cases n <;> simp [D.pl] at h
  | n, .obj _ _ _, h => by cases n <;> simp [D.pl] at h
theorem eqvs_rfl : ∀ {n : Nat} {ds : List D}, D.pls n ds = true → D.eqvs ds ds = true
  | _, [], _ => rfl
  | n, d :: ds, h => by
    obtain ⟨h1, h2⟩ : d.pl n = true ∧ D.pls n ds = true := by rw [D.pls] at h; exact Bool.and_eq_true_iff.mp h
    simp only [D.eqvs]
    rw [eqv_rfl h1, eqvs_rfl h2]
    rfl
end
theorem pNe_rfl {x : D} (h : x.pl 40 = true) : pNe [x, x] = some (.va (.bl false)) := by
  rw [pNe_e _ _ (by rw [h]; rfl), eqv_rfl h]
  rfl
theorem pEq_rfl {x : D} (h : x.pl 40 = true) : pEq [x, x] = some (.va (.bl true)) := by
  rw [pEq_e _ _ (by rw [h]; rfl), eqv_rfl h]
theorem res_lcR {α : Type} {vs : List Nat} {g : D → En → Option En} {c : En → Option (Bool × En)} {f : En → Option (D × En)} {k : α → D} (R : α → D → Prop) (P : En → Prop) : ∀ {xs : List α} {e : En} {Q : List D × En → Prop}, P e →
    (∀ x e, x ∈ xs → P e → Res ((g (k x) e).bind c) fun q => q.1 = true ∧ Res (f q.2) fun r => R x r.1 ∧ vs.all (freeS r.2) = true ∧ P (wipeE r.2 vs)) →
    (∀ zs e, P e → zs.length = xs.length → (∀ (i : Nat) (x : α), xs[i]? = some x → ∃ z, zs[i]? = some z ∧ R x z) → Q (zs, e)) → Res (lcM vs g c f (xs.map k) e) Q
  | [], e, Q, h0, _, q => ⟨_, rfl, q [] e h0 rfl fun i x hx => by simp at hx⟩
  | x :: xs, e, Q, h0, st, q => by
    obtain ⟨⟨b, e2⟩, h1, hb, ⟨d, e3⟩, h2, hR, h3, h4⟩ := st x e (by simp) h0
    cases hb
    obtain ⟨e1, k1, k2⟩ := Option.bind_eq_some_iff.mp h1
    obtain ⟨⟨zs, e'⟩, ih, hq⟩ := res_lcR R P (xs := xs) (e := wipeE e3 vs) (Q := fun r => Q (d :: r.1, r.2)) h4 (fun y e hy hp => st y e (by simp [hy]) hp) fun zs e hp hl hr => q (d :: zs) e hp (by simp [hl]) fun i y hy => by
      cases i with
      | zero => cases hy; exact ⟨d, rfl, hR⟩
      | succ i => exact hr i y hy
    refine ⟨(d :: zs, e'), ?_, hq⟩
    rw [List.map_cons]
    unfold lcM
    rw [k1]; simp only [Option.bind_some]; rw [k2]; simp only [Option.bind_some, if_true]
    rw [h2]; simp only [Option.bind_some, h3, if_true, ih]
theorem wnodes_t (ds : List D) (as : List Ar) : m_Way_nodes [.va (wayD ds as)] = some (.ow (.o1 (.lst ds)), [.va (wayD ds as)]) := by
  unfold m_Way_nodes wayD
  push_cast [fld_nodes, pListOf]
theorem warrows_t (ds : List D) (as : List Ar) : m_Way_arrows [.va (wayD ds as)] = some (.ow (.o1 (.lst (as.map arD))), [.va (wayD ds as)]) := by
  unfold m_Way_arrows wayD
  push_cast [fld_arrows, pListOf]
def hitB (s g : Nat) (a : Ar) : Bool := a.s == s && a.g == g
def faD (as : List Ar) (s g : Nat) : D := match as.find? (hitB s g) with
  | some a => arD a
  | none => .non
theorem hit_eqv (a : Ar) (s g : Nat) : (D.tup false [.int a.s, .int a.g]).eqv (.tup false [.int s, .int g]) = hitB s g a := by
  simp only [D.eqv, D.eqvs, Bool.and_true, hitB]
  have h (x y : Nat) : ((x : Int) == (y : Int)) = (x == y) := by
    by_cases h : x = y
    · subst h; simp
    · rw [beq_eq_false_iff_ne.mpr h, beq_eq_false_iff_ne.mpr (fun z => h (by omega))]
  rw [h, h]
theorem pEq_hit (a : Ar) (s g : Nat) : pEq [.tup false [.int a.s, .int a.g], .tup false [.int s, .int g]] = some (.va (.bl (hitB s g a))) := by
  rw [pEq_e _ _ (by simp [D.pl, D.pls]), hit_eqv]
theorem warrow_t {ds : List D} {as : List Ar} {n : Nat} (hl : ds.length = n) (hn : n ≤ 1000) {s g : Nat} (hs : s < n) (hg : g < n) : Res (m_Way_arrow [.va (wayD ds as), .va (.int s), .va (.int g)]) fun p => p = (.va (faD as s g), [.va (wayD ds as), .va (.int s), .va (.int g)]) := by
  have h1 := wlen_spec ds as
  have h60 := xLenO_w (n := ds.length) (by omega)
  have b1 := between_t (i := (s : Int)) (lo := 0) (hi := (ds.length : Int) - 1) (by omega) (by omega)
  have b2 := between_t (i := (g : Int)) (lo := 0) (hi := (ds.length : Int) - 1) (by omega) (by omega)
  unfold m_Way_arrow
  unfold wayD at *
  dsimp! [h1, h60, b1, b2, fld_arrows]
  walk_at "rb"
  refine res_loopR (fun i e => ∃ x3 : Sl, (e = [.va (.obj "Way" ["own_nodes", "own_arrows"] [.lst ds, .lst (as.map arD)]), .va (.int s), .va (.int g), x3] ∧ x3.np = true) ∧ ∀ a ∈ as.take i, hitB s g a = false) (fun r e => r = .va (faD as s g) ∧ ∃ x3 : Sl, e = [.va (.obj "Way" ["own_nodes", "own_arrows"] [.lst ds, .lst (as.map arD)]), .va (.int s), .va (.int g), x3]) ?i0 ?st ?q ?q2
  case i0 => exact ⟨_, ⟨rfl, rfl⟩, fun a ha => by simp at ha⟩
  case st =>
    rintro i d e hd ⟨x3, ⟨rfl, h3⟩, hbefore⟩
    rw [List.getElem?_map] at hd
    obtain ⟨x, hx, rfl⟩ := Option.map_eq_some_iff.mp hd
    unfold b1_Way_arrow
    dsimp! [h3, arD, xO_n, xO_c, pSlT_f, cut5_2, pEq_hit]
    have hil : i < as.length := (List.getElem?_eq_some_iff.mp hx).1
    have htake : as.take (i + 1) = as.take i ++ [x] := by rw [List.take_add_one, hx]; rfl
    cases hh : hitB s g x with
    | false =>
      dsimp! []
      refine res_some (.inl ⟨_, .inl rfl, _, ⟨rfl, rfl⟩, fun a ha => ?_⟩)
      rw [htake] at ha
      rcases List.mem_append.mp ha with h | h
      · exact hbefore a h
      · rw [List.mem_singleton.mp h]; exact hh
    | true =>
      dsimp! []
      refine res_some (.inr ⟨_, _, rfl, ?_, _, rfl⟩)
      have e1 : as = as.take i ++ x :: as.drop (i + 1) := by
        rw [← List.singleton_append, ← List.append_assoc, ← htake, List.take_append_drop]
      have hf : as.find? (hitB s g) = some x := by
        rw [e1, List.find?_append, List.find?_eq_none.mpr fun a ha => by rw [hbefore a ha]; decide]
        simp [hh]
      unfold faD
      rw [hf]
      rfl
  case q =>
    rintro e ⟨x3, ⟨rfl, h3⟩, hb⟩
    dsimp! []
    refine res_some ?_
    rw [List.length_map, List.take_length] at hb
    have hf : as.find? (hitB s g) = none := List.find?_eq_none.mpr fun a ha => by rw [hb a ha]; decide
    unfold faD
    rw [hf]
  case q2 =>
    rintro r e ⟨rfl, x3, rfl⟩
    dsimp! []
    exact res_some rfl
theorem warrow_o1 {ds : List D} {as : List Ar} {n : Nat} (hl : ds.length = n) (hn : n ≤ 1000) {d : D} (ho : isObj d = false) (hb : isBt d 0 ((ds.length : Int) - 1) = false) (x : D) : m_Way_arrow [.va (wayD ds as), .va d, .va x] = some (.va .non, [.va (wayD ds as), .va d, .va x]) := by
  have h1 := wlen_spec ds as
  have h60 := xLenO_w (n := ds.length) (by omega)
  have b1 := between_spec 0 ((ds.length : Int) - 1) ho
  rw [hb] at b1
  unfold m_Way_arrow
  unfold wayD at *
  dsimp? [h1, h60, b1]
theorem warrow_o2 {ds : List D} {as : List Ar} {n : Nat} (hl : ds.length = n) (hn : n ≤ 1000) (h1n : 1 ≤ n) {d : D} (ho : isObj d = false) (hb : isBt d 0 ((ds.length : Int) - 1) = false) : m_Way_arrow [.va (wayD ds as), .va (.int 0), .va d] = some (.va .non, [.va (wayD ds as), .va (.int 0), .va d]) := by
  have h1 := wlen_spec ds as
  have h60 := xLenO_w (n := ds.length) (by omega)
  have b0 := between_t (i := (0 : Int)) (lo := 0) (hi := (ds.length : Int) - 1) (by omega) (by omega)
  have b1 := between_spec 0 ((ds.length : Int) - 1) ho
  rw [hb] at b1
  unfold m_Way_arrow
  unfold wayD at *
  dsimp? [h1, h60, b0, b1]
theorem cwW : clsL.contains (Str.ofString "Way") = true := by decide +kernel
theorem cwW2 : (clsL.contains (Str.ofString "Way") && clsL.contains (Str.ofString "Way")) = true := by decide +kernel
theorem sbW : subC (Str.ofString "Way") (Str.ofString "Way") = true := by decide +kernel
theorem weq_same {ds : List D} {as : List Ar} (h1 : D.pl 40 (.lst ds) = true) (h2 : D.pl 40 (.lst (as.map arD)) = true) : m_Way___eq__ [.va (wayD ds as), .va (wayD ds as)] = some (.va (.bl true), [.va (wayD ds as), .va (wayD ds as)]) := by
  unfold m_Way___eq__ wayD
  simp_all! [cwW2, sbW, fld_nodes, fld_arrows, pEq_rfl h1, pEq_rfl h2, xAndV_e]
theorem weq_list (ds : List D) (as : List Ar) (xs : List D) : m_Way___eq__ [.va (wayD ds as), .va (.lst xs)] = some (.va (.bl false), [.va (wayD ds as), .va (.lst xs)]) := by
  unfold m_Way___eq__ wayD
  simp_all! [cwW]
theorem weq_ne {ds : List D} {as bs : List Ar} (h1 : D.pl 40 (.lst ds) = true) (h2 : D.pl 40 (.lst (as.map arD)) = true) (h3 : D.pl 40 (.lst (bs.map arD)) = true) (hne : D.eqvs (bs.map arD) (as.map arD) = false) : m_Way___eq__ [.va (wayD ds bs), .va (wayD ds as)] = some (.va (.bl false), [.va (wayD ds bs), .va (wayD ds as)]) := by
  have e1 : pEq [.lst (bs.map arD), .lst (as.map arD)] = some (.va (.bl false)) := by
    rw [pEq_e _ _ (by rw [h2, h3]; rfl)]
    simp only [D.eqv, hne]
  unfold m_Way___eq__ wayD
  simp_all! [cwW2, sbW, fld_nodes, fld_arrows, pEq_rfl h1, e1, xAndV_e]
theorem nd_plain {B : Int} {d : D} (h : Nd B d) (n : Nat) : d.pl (n + 1) = true := by
  have e1 : PyData.strOk "make" = true := by decide +kernel
  have e2 : PyData.strOk "unpack" = true := by decide +kernel
  have e3 : PyData.strOk "read" = true := by decide +kernel
  have e4 : PyData.strOk "write" = true := by decide +kernel
  have e5 : PyData.strOk "rename" = true := by decide +kernel
  have e6 : PyData.strOk "touch" = true := by decide +kernel
  have e7 : PyData.strOk "setback" = true := by decide +kernel
  rcases h with (rfl | ⟨t, _, _, rfl⟩) | (h | ⟨t, _, _, rfl⟩)
  · simp [D.pl, D.pls, e1]
  · simp [D.pl, D.pls, e2]
  · simp only [List.mem_cons, List.not_mem_nil, or_false] at h
    rcases h with rfl | rfl | rfl | rfl <;> simp [D.pl, D.pls, e3, e4, e5, e6]
  · simp [D.pl, D.pls, e7]
theorem nd_flat {B : Int} {d : D} (h : Nd B d) : d.flat = true := by
  rcases h with (rfl | ⟨t, _, _, rfl⟩) | (h | ⟨t, _, _, rfl⟩)
  · rfl
  · rfl
  · simp only [List.mem_cons, List.not_mem_nil, or_false] at h
    rcases h with rfl | rfl | rfl | rfl <;> rfl
  · rfl
theorem nds_pl {B : Int} {ds : List D} (h : ∀ d ∈ ds, Nd B d) : D.pls 39 ds = true := pls_all.mpr fun d hd => nd_plain (h d hd) 38
theorem ars_pl {as : List Ar} (h : ∀ a ∈ as, PyData.strOk a.w = true) : D.pls 39 (as.map arD) = true := pls_all.mpr fun d hd => by
  obtain ⟨x, hx, rfl⟩ := List.mem_map.mp hd
  exact ar_pl x 38 (h x hx)
def hitD (s g : Nat) : D → Bool
  | .tup _ (.int a :: .int b :: _) => (a == (s : Int)) && (b == (g : Int))
  | _ => false
theorem hitD_ar (s g : Nat) (a : Ar) : hitD s g (arD a) = hitB s g a := by
  rw [← hit_eqv]
  simp only [D.eqv, D.eqvs, Bool.and_true]
  rfl
theorem due_e (as : List Ar) (s g : Nat) : (List.filter (hitD s g) (as.map arD)) = (as.filter (hitB s g)).map arD := by
  rw [List.filter_map]
  congr 1
  exact List.filter_congr fun a _ => hitD_ar s g a
theorem okB1 {ns : List Int} {ds : List D} {as : List Ar} {n : Nat} (hl : ds.length = n) (hn : n ≤ 1000) (ha : as.length ≤ 1000) (hw : ∀ a ∈ as, PyData.strOk a.w = true) {s g : Nat} (hs : s < n) (hg : g < n) :
    Res ((gNm 11 (.int (g : Int)) [.va (.scr ns), .no, .no, .va (.lst ds), .va (.lst (as.map arD)), .no, .no, .no, .va (wayD ds as), .no, .va (.int (s : Int)), .no, .no, .no, .no, .no, .no, .no]).bind b1_law) fun o => o = .nx [.va (.scr ns), .no, .no, .va (.lst ds), .va (.lst (as.map arD)), .no, .no, .no, .va (wayD ds as), .no, .va (.int (s : Int)), .no, .no, .no, .no, .no, .no, .no] := by
  have hlt : as.length < 100000 := by omega
  obtain ⟨p, hA, rfl⟩ := warrow_t (as := as) hl hn hs hg
  have hhead : (as.filter (hitB s g)).head? = as.find? (hitB s g) := List.head?_filter
  have hsub : ∀ a ∈ as.filter (hitB s g), PyData.strOk a.w = true := fun a h => hw a (List.mem_filter.mp h).1
  have m1 : (Str.ofString "arrow" ∈ [Str.ofString "own_nodes", Str.ofString "own_arrows"]) = False := eq_false (by decide +kernel)
  unfold b1_law
  unfold faD at hA
  unfold wayD at *
  dsimp! [List.length_map, hlt]
  walk_at "rb"
  refine res_lc (hitD s g) (fun d => d) ?c1 ?q1
  case c1 =>
    intro d hd
    obtain ⟨x, hx, rfl⟩ := List.mem_map.mp hd
    rw [hitD_ar]
    dsimp! [arD, xO_n, xO_c, pSlT_f, cut5_2, pEq_hit]
    refine res_some ⟨rfl, fun _ => ?_, fun _ => ⟨rfl, rfl⟩⟩
    dsimp! []
    exact res_some ⟨rfl, rfl, rfl⟩
  case q1 =>
    rw [List.map_id', due_e]
    cases hf : as.filter (hitB s g) with
    | nil =>
      rw [hf] at hhead
      rw [← hhead] at hA
      have e1 : pNe [.lst ([] : List D), .lst []] = some (.va (.bl false)) := pNe_rfl rfl
      have e2 : pNe [.non, .non] = some (.va (.bl false)) := pNe_rfl rfl
      simp only [List.head?_nil] at hA
      dsimp! [hA, List.map_nil, e1, e2, m1, not_false_eq_true]
      exact res_some rfl
    | cons a r =>
      rw [hf] at hhead hsub
      rw [← hhead] at hA
      have e1 : pNe [.lst (arD a :: r.map arD), .lst []] = some (.va (.bl true)) := by
        have h := ars_pl hsub
        rw [List.map_cons] at h
        rw [pNe_e _ _ (by simp only [D.pl]; rw [h]; rfl)]
        rfl
      have e2 : pNe [arD a, arD a] = some (.va (.bl false)) := pNe_rfl (ar_pl a 39 (hsub a (by simp)))
      simp only [List.head?_cons] at hA
      rw [List.map_cons]
      generalize arD a = ad at *
      dsimp! [hA, e1, e2, m1, not_false_eq_true, pIxL_e, atI_lit, List.getElem?_cons_zero]
      exact res_some rfl
theorem okB2 {ns : List Int} {ds : List D} {as : List Ar} {n : Nat} (hl : ds.length = n) (hn : n ≤ 1000) (ha : as.length ≤ 1000) (hw : ∀ a ∈ as, PyData.strOk a.w = true) {s : Nat} (hs : s < n) {x10 : Sl} (hx : x10.np = true) :
    Res ((gNm 10 (.int (s : Int)) [.va (.scr ns), .no, .no, .va (.lst ds), .va (.lst (as.map arD)), .no, .no, .no, .va (wayD ds as), .no, x10, .no, .no, .no, .no, .no, .no, .no]).bind b2_law) fun o => o = .nx [.va (.scr ns), .no, .no, .va (.lst ds), .va (.lst (as.map arD)), .no, .no, .no, .va (wayD ds as), .no, .no, .no, .no, .no, .no, .no, .no, .no] := by
  have sm : small62 (ds.length : Int) = true := small_of (by omega) (by omega)
  unfold b2_law
  dsimp! [hx, sm]
  walk_at "rb"
  refine res_loop (fun i e => e = [.va (.scr ns), .no, .no, .va (.lst ds), .va (.lst (as.map arD)), .no, .no, .no, .va (wayD ds as), .no, .va (.int (s : Int)), .no, .no, .no, .no, .no, .no, .no]) rfl ?st ?q
  case st =>
    rintro i d e hd rfl
    obtain ⟨hi, rfl⟩ := rng_at hd
    rw [Int.zero_add]
    exact res_mono (okB1 hl hn ha hw hs (by omega)) fun o ho => ⟨_, .inl ho, rfl⟩
  case q =>
    rintro e rfl
    dsimp! []
    exact res_some rfl
def wrK (n : Nat) : List D := [.int (-1), .int n, .non, .bl true, .str "0", .lst [.int 0]]
theorem wrK_bt {n : Nat} {ds : List D} (hl : ds.length = n) {d : D} (h : d ∈ wrK n) : isObj d = false ∧ isBt d 0 ((ds.length : Int) - 1) = false := by
  simp only [wrK, List.mem_cons, List.not_mem_nil, or_false] at h
  rcases h with rfl | rfl | rfl | rfl | rfl | rfl
  · exact ⟨rfl, by simp [isBt]⟩
  · refine ⟨rfl, ?_⟩
    have : ¬ (n : Int) ≤ (ds.length : Int) - 1 := by omega
    simp [isBt, this]
  all_goals exact ⟨rfl, rfl⟩
theorem okB3 {ns : List Int} {ds : List D} {as : List Ar} {n : Nat} (hl : ds.length = n) (hn : n ≤ 1000) (h1 : 1 ≤ n) {d : D} (hd : d ∈ wrK n) {x13 : Sl} (hx : x13.np = true) :
    Res ((gNm 13 d [.va (.scr ns), .no, .no, .va (.lst ds), .va (.lst (as.map arD)), .no, .no, .no, .va (wayD ds as), .no, .no, .no, .no, x13, .no, .no, .no, .no]).bind b3_law) fun o => o = .nx [.va (.scr ns), .no, .no, .va (.lst ds), .va (.lst (as.map arD)), .no, .no, .no, .va (wayD ds as), .no, .no, .no, .no, .no, .no, .no, .no, .no] := by
  obtain ⟨ho, hb⟩ := wrK_bt hl hd
  have a1 := warrow_o1 (as := as) hl hn ho hb (.int 0)
  have a2 := warrow_o2 (as := as) hl hn h1 ho hb
  have m1 : (Str.ofString "arrow" ∈ [Str.ofString "own_nodes", Str.ofString "own_arrows"]) = False := eq_false (by decide +kernel)
  have nn : pNotN [.non, .non] = some (.va (.bl false)) := rfl
  unfold b3_law
  unfold wayD at *
  dsimp! [hx, a1, a2, nn, m1, not_false_eq_true]
  exact res_some rfl
theorem source_spec (ns : List Int) (t : Nat) (ht : t < 1000) : ∃ a b, m__law_source [.va (.scr ns), .va (.int t)] = some (.ow (src a b), [.va (.scr ns), .va (.int t)]) ∧ SrcI a b := by
  have f3 : Int.natAbs 10 < 2 ^ 64 := by decide
  have f4 : (Int.natAbs 104729).log2 + (t : Int).natAbs.log2 < 1000000 := by
    have h1 := log2_b (x := (t : Int)) (k := 10) (by omega) (by omega) (by decide)
    have h2 : (Int.natAbs 104729).log2 < 40 := by decide
    omega
  have m1 : ∀ x : Int, 0 ≤ x % 2147483647 := fun x => Int.emod_nonneg x (by decide)
  have m2 : ∀ x : Int, x % 2147483647 < 2147483647 := fun x => Int.emod_lt_of_pos x (by decide)
  have main : ∀ c : Int, ∃ a b, SrcI a b ∧ ((if (if c < 0 then -c else c) < 1000000000000000000 then 0 else (if c < 0 then -c else c)) = a) ∧ (((if c < 0 then -c else c) % 2147483629 * 16807 + 104729 * (t : Int) + 11) % 2147483647 = b) := fun c =>
    ⟨_, _, ⟨by split <;> (try split) <;> omega, m1 _, m2 _⟩, rfl, rfl⟩
  unfold m__law_source src
  by_cases h : t < ns.length
  · have hat : atI ns (t : Int) = some ns[t] := by rw [atI_nat, List.getElem?_eq_getElem h]
    have hi : (t : Int) < (ns.length : Int) := by omega
    obtain ⟨a, b, hs, h1, h2⟩ := main ns[t]
    refine ⟨a, b, ?_, hs⟩
    subst h1 h2
    by_cases hc : (if ns[t] < 0 then -ns[t] else ns[t]) < 1000000000000000000
    · dsimp? [hi, hat, lgm3, f4, f3, Int.reduceLE, hc]
    · dsimp? [hi, hat, lgm3, f4, f3, Int.reduceLE, hc]
  · have hi : ¬ (t : Int) < (ns.length : Int) := by omega
    obtain ⟨a, b, hs, h1, h2⟩ := main 0
    refine ⟨a, b, ?_, hs⟩
    subst h1 h2
    dsimp? [hi, lgm3, f4, f3, Int.reduceLE, Int.lt_irrefl]
def envB (ns : List Int) (t : Sl) : En := [.va (.scr ns), t, .no, .no, .no, .no, .no, .no, .no, .no, .no, .no, .no, .no, .no, .no, .no, .no]
theorem cut_m1 {α : Type} (xs : List α) : cutD xs none (some (-1)) = xs.dropLast := by
  unfold cutD
  rw [HT.sIx_none]
  have : HT.sIx xs.length xs.length (some (-1)) = xs.length - 1 := by
    unfold HT.sIx
    simp
    omega
  rw [this, List.dropLast_eq_take]
  simp
theorem ar4_of {x : Ar} (h : x.w = "") : cutD [D.int x.s, .int x.g, .int x.l, mostD x.m, .str x.w] none (some 4) = [.int x.s, .int x.g, .int x.l, mostD x.m] := rfl
theorem eqvs_ne (x y : D) (h : x.eqv y = false) : ∀ xs : List D, D.eqvs (xs ++ [x]) (xs ++ [y]) = false
  | [] => by simp only [List.nil_append, D.eqvs, h, Bool.false_and]
  | a :: xs => by simp only [List.cons_append, D.eqvs, eqvs_ne x y h xs, Bool.and_false]
theorem appD_9 {f : En → Option D} {x0 x1 x2 x3 x4 x5 x6 x7 x8 y10 y11 y12 y13 y14 y15 y16 y17 : Sl} {xs ys : List D} : xAppD 9 (qC (.int 0)) f [x0, x1, x2, x3, x4, x5, x6, x7, x8, .ow (.dp [.ow (.lst xs), .ow (.lst ys)]), y10, y11, y12, y13, y14, y15, y16, y17] = @bnd _ _ (f [x0, x1, x2, x3, x4, x5, x6, x7, x8, .ow (.dp [.ow (.lst xs), .ow (.lst ys)]), y10, y11, y12, y13, y14, y15, y16, y17]) ⟨fun d => if xs.length < 100000 then some (.va .non, [x0, x1, x2, x3, x4, x5, x6, x7, x8, .ow (.dp [.ow (.lst (xs ++ [d])), .ow (.lst ys)]), y10, y11, y12, y13, y14, y15, y16, y17]) else none⟩ := rfl
theorem appD_91 {f : En → Option D} {x0 x1 x2 x3 x4 x5 x6 x7 x8 y10 y11 y12 y13 y14 y15 y16 y17 : Sl} {xs ys : List D} : xAppD 9 (qC (.int 1)) f [x0, x1, x2, x3, x4, x5, x6, x7, x8, .ow (.dp [.ow (.lst xs), .ow (.lst ys)]), y10, y11, y12, y13, y14, y15, y16, y17] = @bnd _ _ (f [x0, x1, x2, x3, x4, x5, x6, x7, x8, .ow (.dp [.ow (.lst xs), .ow (.lst ys)]), y10, y11, y12, y13, y14, y15, y16, y17]) ⟨fun d => if ys.length < 100000 then some (.va .non, [x0, x1, x2, x3, x4, x5, x6, x7, x8, .ow (.dp [.ow (.lst xs), .ow (.lst (ys ++ [d]))]), y10, y11, y12, y13, y14, y15, y16, y17]) else none⟩ := rfl
theorem gct1 (e : En) : gcTup (gcCons (qC (.str "read")) gcNil) e = some (.tup false [.str "read"]) := rfl
theorem gct5 (e : En) : gcTup (gcCons (qC (.int 0)) (gcCons (qC (.int 0)) (gcCons (qC (.int 1)) (gcCons (qC (.int 1)) (gcCons (qC (.str "")) gcNil))))) e = some (.tup false [.int 0, .int 0, .int 1, .int 1, .str ""]) := rfl
def getK (ds : List D) : D → D
  | .int i => ds.getD i.toNat .non
  | _ => .non
theorem get_all (ds : List D) : ((rngD 0 ds.length).filter (fun _ => true)).map (getK ds) = ds := by
  rw [List.filter_eq_self.mpr fun _ _ => rfl]
  apply List.ext_getElem
  · rw [List.length_map, rng_len]
  · intro i h1 h2
    rw [List.getElem_map]
    have := (rng_at (List.getElem?_eq_getElem (l := rngD 0 ds.length) (i := i) (by rw [rng_len]; exact h2))).2
    rw [this, Int.zero_add]
    simp [getK, h2]
theorem pSlL_f6 (ds : List D) (lo hi : Option Int) : pSlL (.lst ds) lo hi = some (.ow (.o1 (.lst (cutD ds lo hi)))) := rfl
theorem pTupOf_l6 (ds : List D) : pTupOf [.lst ds] = some (.va (.tup false ds)) := rfl
def upA (z : Ar) (m : Int) : Ar := ⟨z.s, z.g, z.l, some (m + 1), z.w⟩
theorem plan_up1 {B M : Int} {n : Nat} {ds : List D} {bs : List Ar} {z : Ar} (pl : PlanI B M n ds (bs ++ [z])) {m : Int} (hm : z.m = some m) (hM : M + 1 ≤ 1000000000) : PlanI B (M + 1) n ds (bs ++ [upA z m]) := by
  have hz := pl.al z (by simp)
  have hin : ∀ b ∈ bs ++ [z], ∃ b' ∈ bs ++ [upA z m], b'.s = b.s ∧ b'.g = b.g ∧ b'.w = b.w := fun b hb => by
    rcases List.mem_append.mp hb with h | h
    · exact ⟨b, by simp [h], rfl, rfl, rfl⟩
    · rw [List.mem_singleton.mp h]; exact ⟨upA z m, by simp, rfl, rfl, rfl⟩
  have hout : ∀ a ∈ bs ++ [upA z m], ∃ b ∈ bs ++ [z], b.s = a.s ∧ b.g = a.g ∧ b.w = a.w := fun a ha => by
    rcases List.mem_append.mp ha with h | h
    · exact ⟨a, by simp [h], rfl, rfl, rfl⟩
    · rw [List.mem_singleton.mp h]; exact ⟨z, by simp, rfl, rfl, rfl⟩
  refine ⟨pl.len, pl.n1, pl.first, pl.nd, fun a ha => ?_, ?_, fun a ha h => ?_, fun g h1 h2 h3 => ?_, pl.hB, hM⟩
  · rcases List.mem_append.mp ha with h | h
    · have ap := pl.al a (by simp [h])
      exact ⟨ap.s, ap.g, ⟨ap.l.l1, by have := ap.l.l2; omega, fun y e => by have := ap.l.m y e; exact ⟨this.1, by omega⟩⟩, ap.w, ap.anew⟩
    · rw [List.mem_singleton.mp h]
      have h2 := hz.l.m m hm
      refine ⟨hz.s, hz.g, ⟨hz.l.l1, by have := hz.l.l2; show z.l ≤ M + 1; omega, fun y e => ?_⟩, hz.w, hz.anew⟩
      have e : some (m + 1) = some y := e
      cases e
      exact ⟨by show z.l ≤ m + 1; omega, by omega⟩
  · have h1 := pl.one
    rw [List.pairwise_append] at h1 ⊢
    refine ⟨h1.1, by simp, fun a ha b hb => ?_⟩
    rw [List.mem_singleton.mp hb]
    exact h1.2.2 a ha z (by simp)
  · obtain ⟨b, hb, e1, e2, e3⟩ := hout a ha
    obtain ⟨c, hc, k1, k2⟩ := pl.on b hb (e3.trans h)
    obtain ⟨c', hc', q1, q2, q3⟩ := hin c hc
    exact ⟨c', hc', by rw [q1, k1, e2], fun z => k2 (q3.symm.trans z)⟩
  · obtain ⟨b, hb, e1, e2, e3⟩ := pl.tree g h1 h2 h3
    obtain ⟨b', hb', q1, q2, q3⟩ := hin b hb
    exact ⟨b', hb', q2.trans e1, by omega, fun z => e3 (q3.symm.trans z)⟩
theorem eqvs_len6 : ∀ (xs ys : List D), D.eqvs xs ys = true → xs.length = ys.length
  | [], [], _ => rfl
  | [], _ :: _, h => by simp [D.eqvs] at h
  | _ :: _, [], h => by simp [D.eqvs] at h
  | x :: xs, y :: ys, h => by
    simp only [D.eqvs, Bool.and_eq_true] at h
    simp [eqvs_len6 xs ys h.2]
theorem atI_m16 {α : Type} (xs : List α) (x : α) : atI (xs ++ [x]) (-1) = some x := by
  unfold atI ixN
  rw [if_neg (by omega), if_pos (by simp; omega)]
  have : (-1 + ((xs ++ [x]).length : Int)).toNat = xs.length := by simp; omega
  rw [this]
  simp
theorem cut5_36 (a b c d e : D) : cutD [a, b, c, d, e] none (some 3) = [a, b, c] := rfl
theorem cut5_46 (a b c d e : D) : cutD [a, b, c, d, e] (some 4) none = [e] := rfl
theorem pCat_f6 {xs ys : List D} (h : xs.length + ys.length ≤ 100000) : pCat [.lst xs, .lst ys] = some (.ow (.o1 (.lst (xs ++ ys)))) := if_pos h
theorem arUp_ne {z : Ar} {m : Int} (hm : z.m = some m) : (arD (upA z m)).eqv (arD z) = false := by
  have : ¬ (m + 1 = m) := by omega
  simp [arD, upA, hm, mostD, D.eqv, D.eqvs, this]
theorem dp_fz (xs ys : List D) : (O2.dp [.ow (.lst xs), .ow (.lst ys)]).fz = .lst [.lst xs, .lst ys] := rfl
theorem body_ok (ns : List Int) (t : Nat) (ht : t < 1000) : Res ((gNm 1 (.int t) (envB ns .no)).bind b4_law) fun o => o = .nx (envB ns .no) ∨ o = .ct (envB ns .no) := by
  obtain ⟨a, b, hsrc, s0⟩ := source_spec ns t ht
  obtain ⟨r, a1, b1, hd1, s1, r0, r1⟩ := draw_spec a b 6 s0 (by omega) (by omega)
  obtain ⟨m, rfl⟩ := Int.eq_ofNat_of_zero_le r0
  obtain ⟨q, a2, b2, hd2, s2, q0, q1⟩ := draw_spec a1 b1 2 s1 (by omega) (by omega)
  obtain ⟨ln, hln, hl1, hl2⟩ : ∃ ln : Int, atI [D.int 5, .int 100000000] q = some (.int ln) ∧ 0 < ln ∧ ln ≤ 100000000 := by
    have : q = 0 ∨ q = 1 := by omega
    rcases this with rfl | rfl
    · exact ⟨5, rfl, by omega, by omega⟩
    · exact ⟨100000000, rfl, by omega, by omega⟩
  obtain ⟨p, hp, ds, as, a3, b3, rfl, s3, pl, hal⟩ := plan_spec a2 b2 (1 + m) ln 1000000000 true s2 (by omega) (by omega) (by omega) (by omega) (by omega) (by omega)
  have hl := pl.len
  have ecast : (1 : Int) + (m : Int) = ((1 + m : Nat) : Int) := by omega
  have hlt : as.length < 100000 := by omega
  have pw8 : pPow [.int 10, .int 8] = some (.va (.int 100000000)) := rfl
  have pw9 : pPow [.int 10, .int 9] = some (.va (.int 1000000000)) := rfl
  unfold b4_law envB
  dsimp! [pw8, pw9, hsrc, hd1, ecast, hd2, hln, hp, List.length_map, hlt]
  walk_at "rb"
  refine res_lcR (fun x z => AMz z x) (fun e => ∃ a b, e = [.va (.scr ns), .no, .ow (src a b), .va (.lst ds), .va (.lst (as.map arD)), .no, .no, .no, .no, .no, .no, .no, .no, .no, .no, .no, .no, .no] ∧ SrcI a b) ⟨_, _, rfl, s3⟩ ?st ?q
  case st =>
    rintro x e hx ⟨a, b, rfl, s⟩
    have ap := pl.al x hx
    have e2 := pEq_s (so_w ap.w) (show PyData.strOk "" = true from by decide +kernel)
    cases hw0 : (x.w == "") with
    | false =>
      rw [hw0] at e2
      dsimp! [arD, e2]
      refine res_some ⟨rfl, ?_⟩
      dsimp! [arD, e2]
      exact res_some ⟨.inl rfl, rfl, _, _, rfl, s⟩
    | true =>
      rw [hw0] at e2
      obtain ⟨r, a', b', hd, s', r0, r1⟩ := draw_spec a b 2 s (by omega) (by omega)
      have hr : r = 0 ∨ r = 1 := by omega
      dsimp! [arD, e2, hd, pEq_i]
      refine res_some ⟨rfl, ?_⟩
      rcases hr with rfl | rfl
      · dsimp! [arD, e2, hd, pEq_i, Int.reduceBEq, xO_n, xO_c, pSlT_f, ar4_of (eq_of_beq hw0)]
        exact res_some ⟨.inr ⟨eq_of_beq hw0, rfl⟩, rfl, _, _, rfl, s'⟩
      · dsimp! [arD, e2, hd, pEq_i, Int.reduceBEq]
        exact res_some ⟨.inl rfl, rfl, _, _, rfl, s'⟩
  case q =>
    rintro zs e ⟨a, b, rfl, s⟩ hz1 hz2
    obtain ⟨p, hi, rfl⟩ := init_L (zs := zs) pl (by omega) (by omega) ⟨hz1, hz2⟩
    have hzl : zs.length < 100000 := by omega
    have hdl : ds.length < 100000 := by omega
    have hdl2 : ds.length < 1000 := by omega
    have hasl : as.length < 1000 := by omega
    have fl1 : D.flatL ds = true := flatL_all.mpr fun d hd => nd_flat (pl.nd d hd)
    have fl2 : D.flatL (as.map arD) = true := flatL_all.mpr fun d hd => by
      obtain ⟨x, _, rfl⟩ := List.mem_map.mp hd
      exact ar_flat x
    have n1 := wnodes_t ds as
    have n2 := warrows_t ds as
    have n3 := wlen_spec ds as
    have h60 := xLenO_w (n := ds.length) (by omega)
    have hwp : ∀ a ∈ as, PyData.strOk a.w = true := fun a h => so_w (pl.al a h).w
    have q1 : D.pls 39 ds = true := nds_pl pl.nd
    have q2 : D.pls 39 (as.map arD) = true := ars_pl hwp
    have q3 : pNe [.lst [.lst ds, .lst (as.map arD)], .lst [.lst ds, .lst (as.map arD)]] = some (.va (.bl false)) := pNe_rfl (by
      simp only [D.pl, D.pls, nds_pl, Bool.and_true, Bool.and_eq_true]
      exact ⟨pls_all.mpr fun d hd => nd_plain (pl.nd d hd) 37, pls_all.mpr fun d hd => by
        obtain ⟨x, hx, rfl⟩ := List.mem_map.mp hd
        exact ar_pl x 37 (hwp x hx)⟩)
    have q4 : pNe [.int (ds.length : Int), .int (ds.length : Int)] = some (.va (.bl false)) := pNe_rfl rfl
    have q5 : pNe [.lst ds, .lst ds] = some (.va (.bl false)) := pNe_rfl (by simp only [D.pl, q1])
    have m1 : (Str.ofString "nodes" ∈ [Str.ofString "own_nodes", Str.ofString "own_arrows"]) = False := eq_false (by decide +kernel)
    have m2 : (Str.ofString "arrows" ∈ [Str.ofString "own_nodes", Str.ofString "own_arrows"]) = False := eq_false (by decide +kernel)
    have sm : small62 (ds.length : Int) = true := small_of (by omega) (by omega)
    unfold wayD at *
    unfold wayP at hi
    dsimp! [xParO_e6, pListOf, hi, viewE, xMk_e, List.all_cons, List.all_nil, Fv.leaf, O1.leaf, fl1, fl2, Bool.and_true, xDp2_e, toFv1, n1, n2, n3, h60, q3, q4, appD_9, appD_91, gct1, gct5, hasl, hdl, hlt, hzl, List.length_map, m1, m2, not_false_eq_true, dp_fz, sm, rng_len, Int.toNat_natCast]
    walk_at "rb"
    refine res_lc (fun _ => true) (getK ds) ?c1 ?q1
    case c1 =>
      intro d hd
      obtain ⟨i, hi2⟩ := List.mem_iff_getElem?.mp hd
      obtain ⟨hi1, rfl⟩ := rng_at hi2
      rw [Int.zero_add]
      have hg := wget_spec (as := as) (List.getElem?_eq_getElem hi1)
      unfold wayD at hg
      dsimp! []
      refine res_some ⟨rfl, fun _ => ?_, fun z => by cases z⟩
      dsimp! [hg]
      refine res_some ⟨?_, rfl, rfl⟩
      simp [getK, hi1]
    case q1 =>
      rw [get_all]
      have qs : AMs (as.map arD) as := ⟨List.length_map .., fun i x hx => ⟨arD x, by rw [List.getElem?_map, hx]; rfl, .inl rfl⟩⟩
      obtain ⟨p, hiT, rfl⟩ := init_T (zs := as.map arD) pl (by omega) (by omega) qs
      have h1 : D.pl 40 (.lst ds) = true := by simp only [D.pl, q1]
      have h2 : D.pl 40 (.lst (as.map arD)) = true := by simp only [D.pl, q2]
      have w1 := weq_same h1 h2
      have w2 := weq_list ds as ds
      have okl : okTy clsL ["list"] (.lst ds) = true := rfl
      unfold wayD at w1 w2
      unfold wayP at hiT
      dsimp! [q5, sm]
      walk_at "rb"
      refine res_loop (fun i e => e = [.va (.scr ns), .no, .no, .va (.lst ds), .va (.lst (as.map arD)), .no, .no, .no, .va (wayD ds as), .no, .no, .no, .no, .no, .no, .no, .no, .no]) rfl ?st ?q
      case st =>
        rintro i d e hd rfl
        obtain ⟨hi, rfl⟩ := rng_at hd
        rw [Int.zero_add]
        exact res_mono (okB2 hl (by omega) (by omega) hwp (by omega) rfl) fun o ho => ⟨_, .inl ho, rfl⟩
      case q =>
        rintro e rfl
        unfold wayD
        dsimp! []
        walk_at "rb"
        refine res_loop (ds := wrK ds.length) (fun i e => e = [.va (.scr ns), .no, .no, .va (.lst ds), .va (.lst (as.map arD)), .no, .no, .no, .va (wayD ds as), .no, .no, .no, .no, .no, .no, .no, .no, .no]) rfl ?st ?q
        case st =>
          rintro i d e hd rfl
          exact res_mono (okB3 (n := ds.length) rfl (by omega) (by omega) (List.mem_of_getElem? hd) rfl) fun o ho => ⟨_, .inl ho, rfl⟩
        case q =>
          rintro e rfl
          unfold wayD
          dsimp! [xEqO_e, xEqA_e, xMk_e, pTupOf_l6, hiT, w1, w2, okl, xO_n, xO_s6, pSlL_f6, cut_m1]
          rcases List.eq_nil_or_concat as with e0 | ⟨bs, z, e0⟩
          · subst e0
            have e1 : pNe [.lst ([] : List D), .lst []] = some (.va (.bl false)) := rfl
            have e2 : pEq [.lst ([] : List D), .lst []] = some (.va (.bl true)) := rfl
            dsimp! [List.map_nil, List.dropLast_nil, e1, e2]
            exact res_some (.inr rfl)
          · have e0 : as = bs ++ [z] := by rw [e0]; simp
            have em : as.map arD = bs.map arD ++ [arD z] := by rw [e0, List.map_append]; rfl
            have e1 : pNe [.lst (as.map arD), .lst []] = some (.va (.bl true)) := by
              rw [pNe_e _ _ (by rw [h2]; rfl)]
              have : (D.lst (as.map arD)).eqv (.lst []) = false := by
                rw [em]
                cases bs <;> rfl
              rw [this]
              rfl
            have hmore : (as.map arD).dropLast = bs.map arD := by rw [em]; exact List.dropLast_concat
            have hbp : D.pls 39 (bs.map arD) = true := ars_pl fun a h => hwp a (by rw [e0]; simp [h])
            have e2 : pEq [.lst (bs.map arD), .lst (as.map arD)] = some (.va (.bl false)) := by
              rw [pEq_e _ _ (by rw [h2]; simp only [D.pl, hbp, Bool.and_self])]
              have : (D.lst (bs.map arD)).eqv (.lst (as.map arD)) = false := by
                by_cases h : D.eqvs (bs.map arD) (as.map arD) = true
                · have := eqvs_len6 _ _ h
                  rw [List.length_map, List.length_map, e0] at this
                  simp at this
                · simp only [D.eqv]
                  exact Bool.eq_false_iff.mpr h
              rw [this]
            have hat : atI (as.map arD) (-1) = some (arD z) := by rw [em]; exact atI_m16 _ _
            by_cases hn1 : ds.length = 1
            · have e3 : pEq [.int (ds.length : Int), .int 1] = some (.va (.bl true)) := by rw [hn1]; rfl
              dsimp! [e1, e3]
              exact res_some (.inr rfl)
            · have e3 : pEq [.int (ds.length : Int), .int 1] = some (.va (.bl false)) := by
                rw [pEq_i]
                rw [beq_eq_false_iff_ne.mpr (by omega)]
              cases hm : z.m with
              | none =>
                have hat2 : atI (as.map arD) (-1) = some (.tup false [.int z.s, .int z.g, .int z.l, .non, .str z.w]) := by rw [hat, arD_e4, hm]; rfl
                dsimp! [e1, e3, hmore, e2, Int.reduceNeg, hat2]
                exact res_some (.inl rfl)
              | some mm =>
                have hat2 : atI (as.map arD) (-1) = some (.tup false [.int z.s, .int z.g, .int z.l, .int mm, .str z.w]) := by rw [hat, arD_e4, hm]; rfl
                rw [e0] at pl
                have pl2 := plan_up1 pl hm (by omega)
                have hzz := pl.al z (by simp)
                have hmm := hzz.l.m mm hm
                have hlm := hzz.l.l1
                have qz : AMs (bs.map arD ++ [.tup false [.int z.s, .int z.g, .int z.l, .int (mm + 1), .str z.w]]) (bs ++ [upA z mm]) := ⟨by simp, fun i x hx => ⟨arD x, by
                  have : bs.map arD ++ [.tup false [.int z.s, .int z.g, .int z.l, .int (mm + 1), .str z.w]] = (bs ++ [upA z mm]).map arD := by rw [List.map_append]; rfl
                  rw [this, List.getElem?_map, hx]; rfl, .inl rfl⟩⟩
                have hlen : (bs ++ [upA z mm]).length = as.length := by rw [e0]; simp
                obtain ⟨p, hiB, rfl⟩ := init_L pl2 (by omega) (by omega) qz
                have h3 : D.pl 40 (.lst ((bs ++ [upA z mm]).map arD)) = true := by
                  simp only [D.pl]
                  exact ars_pl fun a ha => so_w (pl2.al a ha).w
                have w3 := weq_ne h1 h2 h3 (by rw [em, List.map_append]; exact eqvs_ne _ _ (arUp_ne hm) _)
                have ca (a b c d : D) : pCatT [.tup false [a, b, c], .tup false [d]] = some (.va (.tup false [a, b, c, d])) := rfl
                have cb (a b c d e : D) : pCatT [.tup false [a, b, c, d], .tup false [e]] = some (.va (.tup false [a, b, c, d, e])) := rfl
                have ce : pCat [.lst (bs.map arD), .lst [.tup false [.int z.s, .int z.g, .int z.l, .int (mm + 1), .str z.w]]] = some (.ow (.o1 (.lst (bs.map arD ++ [.tup false [.int z.s, .int z.g, .int z.l, .int (mm + 1), .str z.w]])))) := pCat_f6 (by rw [e0] at hal; simp at hal ⊢; omega)
                unfold wayD at w3
                unfold wayP at hiB
                generalize (bs ++ [upA z mm]).map arD = asu at *
                dsimp! [e1, e3, hmore, e2, Int.reduceNeg, hat2, xO_n, xO_c, xO_s6, pSlT_f, cut5_36, cut5_46, ca, cb, ce, xEqO_e, xMk_e, hiB, w3]
                exact res_some (.inl rfl)
theorem law_true (ns : List Int) (h : ns.length ≤ 63) : ∃ en, m_law [.va (.scr ns)] = some (.va (.bl true), en) := by
  have key : Res (m_law [.va (.scr ns)]) fun p => ∃ en, p = (.va (.bl true), en) := by
    have hm : ∃ k : Nat, (if (if (20 : Int) < (ns.length : Int) then 20 else (ns.length : Int)) > 1 then (if (20 : Int) < (ns.length : Int) then 20 else (ns.length : Int)) else 1) = (k : Int) ∧ k < 1000 := by
      refine ⟨((if (if (20 : Int) < (ns.length : Int) then 20 else (ns.length : Int)) > 1 then (if (20 : Int) < (ns.length : Int) then 20 else (ns.length : Int)) else 1)).toNat, ?_, ?_⟩ <;> split <;> (try split) <;> omega
    obtain ⟨k, hk, hk2⟩ := hm
    have sm : small62 (k : Int) = true := small_of (by omega) (by omega)
    unfold m_law
    simp only [gt_iff_lt] at hk
    dsimp! [hk, sm]
    walk_at "rb"
    refine res_loop (fun i e => e = envB ns .no) rfl ?st ?q
    case st =>
      rintro i d e hd rfl
      obtain ⟨hi, rfl⟩ := rng_at hd
      rw [Int.zero_add]
      obtain ⟨o, h1, h2⟩ := body_ok ns i (by omega)
      exact ⟨o, h1, _, h2, rfl⟩
    case q =>
      rintro e rfl
      unfold envB
      dsimp! []
      exact res_some ⟨_, rfl⟩
  obtain ⟨_, h1, en, rfl⟩ := key
  exact ⟨en, h1⟩
end Ag
namespace Ag
open PySem PySem.Spec PyProof.Rows L2 Evl
local macro_rules | `(tactic| push_cast [$ls,*]) => `(tactic| simp -implicitDefEqProofs only [xFz_e, xUp_e, xVar_f, xC_e, xNil_e, xCons_e, xPr_e, xB_e, xAnd_e, xOr_e, xNot_e, xOfB_e, xIfE_e, xYes_e, xChain_f, chB_b, xSet_e, xDrop_e, xRet_e, xRetN_e, xRetV_e, xNx_e, xBk_e, xCt_e, xNever_e, xIf_e, xSeq_e, gNm_e, gTp_e, gsNil_e, gsCons_e, xAsg_e, xPar_e, xFor_e, xItL_e, xItT_e, xItR1_e, xItR2_e, xItE_e, xItEt_e, gPutD_e, fnM_e, xCall_e, xMt_e, xPrp_e, xFld_e, xBor_e, xBorV_e, xBorT_e, xCallM_e, xMtM_e, xMk_e, qVar_e, qC_e, xIxP_e, xPutP_e, xInP_e, xApp_e, xExt_e, xFldS_e, xFS_e, xLc_e, xSl_e, xStar_e, xIsi_e, xIsi2_e, xO2_e, xLenO_e, xEqO_e, xDict0_e, xAndV_e, xOrV_e, bnd_some, bnd_none, xeNo_e, mkO_e, xAllL_n, xAllL_c, xMtT_e, xFnT2_e, xDict0T_e, xDisp_e, xGet2_e, xMkR_e, xMkS_e, xMkK_e, xDUp_e, xMv_e, xItK_e, xItI_e, xKl_e, xKb_e, xFr_e, killO_nx, killO_rt, killO_bk, killO_ct, killB_nx, killB_rt, killB_bk, killB_ct, klM_n, klM_t, klM_f, kill_pw, kill_ow, kill_va, kill_no, frE_z, frE_s, frz_pw, frz_ow, frz_va, frz_no, Option.bind_some, Option.bind_none, List.getElem?_cons_zero, List.getElem?_cons_succ, List.getElem?_nil, List.set_cons_zero, List.set_cons_succ, List.map_cons, List.map_nil, List.length_cons, List.length_nil, List.cons_append, List.nil_append, List.replicate_succ, List.replicate_zero, viewE, view_va, view_ow, view_no, view_pw, fz_va, fz_ow, fz_no, fz_pw, own_va, own_ow, own_no, own_pw, ofz_1, ofz_2, o1_l, o1_d, o1_t, fvz_v, fvz_o, putS_e, putR, np_no, np_va, np_ow, np_pw, np_view, freeS_e, Option.map_some, Option.map_none, Option.getD_some, Option.getD_none, pEq_i, pNe_i, pInT_e, pNinT_e, pIsN_e, pNotN_e, pIsB_e, pNotB_e, fl_n, fl_i, fl_s, fl_b, isN_n, isN_i, isN_t, isN_s, isN_b, isN_l, ownAt, reAt, pinned, leafAt, setLeaf, getO, putO, isLst, List.any_cons, List.any_nil, Bool.or_true, Bool.true_or, Bool.or_false, Bool.false_or, Bool.not_true, Bool.not_false, Bool.and_true, Bool.true_and, Bool.and_false, Bool.false_and, D.flat, D.flatL, D.leaf, Sl.leaf, O1.leaf, O2.leaf, Fv.leaf, wipeE, List.all_cons, List.all_nil, if_true, if_false, ite_true, ite_false, reduceIte, Bool.false_eq_true, decide_true, decide_false, reduceCtorEq, and_self, true_and, and_true, and_false, false_and, ixN_lit, ixN_nat, atI_nat, pLst_e, pTup_e, Nat.reduceAdd, Nat.reduceLT, Nat.reduceLeDiff, Nat.lt_add_left_iff_pos, Nat.zero_lt_succ, pPow_e, Int.reducePow, Int.reduceToNat, Int.reduceLT, not_true_eq_false, not_false_eq_true, pAdd_e, pSub_e, pLt_e, pLe_e, pGt_e, pGe_e, pNeg_e, pMul_e, pDiv_e, pMod_e, pAbs_e, pInt_e, pMax2_e, pMin2_e, pLenL_e, pLenS_e, pLenT_e, pIxL_e, pIxS_e, pIxT_e, atI_lit, ge_iff_le, gt_iff_lt, $ls,*])
local macro_rules | `(tactic| dsimp! [$ls,*]) => `(tactic| (push_cast [$ls,*]; repeat (with_reducible refine res_step ?_; push_cast [$ls,*])))
local macro_rules | `(tactic| simp_all! [$ls,*]) => `(tactic| dsimp! [isD_non_int, isD_non_bool, isD_non_str, isD_non_list, isD_non_tuple, isD_non_dict, isD_non_o, isD_bl_int, isD_bl_bool, isD_bl_str, isD_bl_list, isD_bl_tuple, isD_bl_dict, isD_bl_o, isD_int_int, isD_int_bool, isD_int_str, isD_int_list, isD_int_tuple, isD_int_dict, isD_int_o, isD_str_int, isD_str_bool, isD_str_str, isD_str_list, isD_str_tuple, isD_str_dict, isD_str_o, isD_scr_int, isD_scr_bool, isD_scr_str, isD_scr_list, isD_scr_tuple, isD_scr_dict, isD_scr_o, isD_lst_int, isD_lst_bool, isD_lst_str, isD_lst_list, isD_lst_tuple, isD_lst_dict, isD_lst_o, isD_tup_int, isD_tup_bool, isD_tup_str, isD_tup_list, isD_tup_tuple, isD_tup_dict, isD_tup_o, isD_dct_int, isD_dct_bool, isD_dct_str, isD_dct_list, isD_dct_tuple, isD_dct_dict, isD_dct_o, isD_dcT_int, isD_dcT_bool, isD_dcT_str, isD_dcT_list, isD_dcT_tuple, isD_dcT_dict, isD_dcT_o, isD_obj_o, $ls,*])
local macro_rules | `(tactic| walk_at "rb") => `(tactic| repeat (with_reducible refine res_bind ?_))
local macro_rules | `(tactic| dsimp? [$ls,*]) => `(tactic| simp_all! [pEq_c, pNe_c, natc, Int.reduceBEq, Int.reduceEq, D.pl, D.pls, D.eqv, D.eqvs, beq_self_eq_true, so_make, so_unpack, so_read, so_write, so_rename, so_touch, so_setback, so_e, so_held, so_anew, sn_make_unpack, sn_make_read, sn_make_write, sn_make_rename, sn_make_touch, sn_make_setback, sn_unpack_make, sn_unpack_read, sn_unpack_write, sn_unpack_rename, sn_unpack_touch, sn_unpack_setback, sn_read_make, sn_read_unpack, sn_read_write, sn_read_rename, sn_read_touch, sn_read_setback, sn_write_make, sn_write_unpack, sn_write_read, sn_write_rename, sn_write_touch, sn_write_setback, sn_rename_make, sn_rename_unpack, sn_rename_read, sn_rename_write, sn_rename_touch, sn_rename_setback, sn_touch_make, sn_touch_unpack, sn_touch_read, sn_touch_write, sn_touch_rename, sn_touch_setback, sn_setback_make, sn_setback_unpack, sn_setback_read, sn_setback_write, sn_setback_rename, sn_setback_touch, sn_e_held, sn_e_anew, sn_held_e, sn_held_anew, sn_anew_e, sn_anew_held, $ls,*])
theorem all_mk {P : Program} {w : World} {K : PySem.W.Frag} {h : Heap} {mg : Str → Option Value} {fa : Addr} (X : K.In h) (G : h.Ns mainGlobals mg) (hfa : mg ("law" : Str) = some (.ref fa)) (c : SaysV faL fnL K) :
    ∃ fd : FuncData, (∀ (s : Shared) (v : Value), BindsTo s fd ⟨[v], []⟩ [("script", v)]) ∧ ∀ base : Heap, K.In base → base.Ns mainGlobals mg → (∀ p ∈ tabCs K, LamX.TabB base mg p.1 p.2) → FnG P w K mg base CX0 9 fa fd ["script"] (spM K 1 m_law) := by
  have V : Fcts faL K mg := ⟨c.facts, h, X, G⟩
  have e := hfa.symm.trans (V.glo (x := "law") 55 rfl)
  cases e
  obtain ⟨fd__law_source, F__law_source⟩ := c.def_ 0 (d := ⟨.g "_law_source", "_law_source", "_law_source", defArgs s__law_source, defBody s__law_source, defScope s__law_source, [], []⟩) rfl
  replace F__law_source : FnQ K "_law_source" "_law_source" s__law_source _ fd__law_source := F__law_source
  have b__law_source : Binds K fd__law_source ["script", "turn"] [] := F__law_source.bindsN fun _ _ _ _ _ _ us hl => match us, hl with | [_, _], _ => rfl
  obtain ⟨fd__law_draw, F__law_draw⟩ := c.def_ 1 (d := ⟨.g "_law_draw", "_law_draw", "_law_draw", defArgs s__law_draw, defBody s__law_draw, defScope s__law_draw, [], []⟩) rfl
  replace F__law_draw : FnQ K "_law_draw" "_law_draw" s__law_draw _ fd__law_draw := F__law_draw
  have b__law_draw : Binds K fd__law_draw ["source", "amount"] [] := F__law_draw.bindsN fun _ _ _ _ _ _ us hl => match us, hl with | [_, _], _ => rfl
  obtain ⟨fd__law_pick, F__law_pick⟩ := c.def_ 2 (d := ⟨.g "_law_pick", "_law_pick", "_law_pick", defArgs s__law_pick, defBody s__law_pick, defScope s__law_pick, [], []⟩) rfl
  replace F__law_pick : FnQ K "_law_pick" "_law_pick" s__law_pick _ fd__law_pick := F__law_pick
  have b__law_pick : Binds K fd__law_pick ["source", "items"] [] := F__law_pick.bindsN fun _ _ _ _ _ _ us hl => match us, hl with | [_, _], _ => rfl
  obtain ⟨fd__law_maker, F__law_maker⟩ := c.def_ 3 (d := ⟨.g "_law_maker", "_law_maker", "_law_maker", defArgs s__law_maker, defBody s__law_maker, defScope s__law_maker, [], []⟩) rfl
  replace F__law_maker : FnQ K "_law_maker" "_law_maker" s__law_maker _ fd__law_maker := F__law_maker
  have b__law_maker : Binds K fd__law_maker ["source", "back"] [] := F__law_maker.bindsN fun _ _ _ _ _ _ us hl => match us, hl with | [_, _], _ => rfl
  obtain ⟨fd__law_user, F__law_user⟩ := c.def_ 4 (d := ⟨.g "_law_user", "_law_user", "_law_user", defArgs s__law_user, defBody s__law_user, defScope s__law_user, [], []⟩) rfl
  replace F__law_user : FnQ K "_law_user" "_law_user" s__law_user _ fd__law_user := F__law_user
  have b__law_user : Binds K fd__law_user ["source", "back"] [] := F__law_user.bindsN fun _ _ _ _ _ _ us hl => match us, hl with | [_, _], _ => rfl
  obtain ⟨fd__law_arrow, F__law_arrow⟩ := c.def_ 5 (d := ⟨.g "_law_arrow", "_law_arrow", "_law_arrow", defArgs s__law_arrow, defBody s__law_arrow, defScope s__law_arrow, [], []⟩) rfl
  replace F__law_arrow : FnQ K "_law_arrow" "_law_arrow" s__law_arrow _ fd__law_arrow := F__law_arrow
  have b__law_arrow : Binds K fd__law_arrow ["source", "start", "goal", "longest", "ends"] [] := F__law_arrow.bindsN fun _ _ _ _ _ _ us hl => match us, hl with | [_, _, _, _, _], _ => rfl
  obtain ⟨fd__law_plan, F__law_plan⟩ := c.def_ 6 (d := ⟨.g "_law_plan", "_law_plan", "_law_plan", defArgs s__law_plan, defBody s__law_plan, defScope s__law_plan, [], []⟩) rfl
  replace F__law_plan : FnQ K "_law_plan" "_law_plan" s__law_plan _ fd__law_plan := F__law_plan
  have b__law_plan : Binds K fd__law_plan ["source", "many", "longest", "back", "ends"] [] := F__law_plan.bindsN fun _ _ _ _ _ _ us hl => match us, hl with | [_, _, _, _, _], _ => rfl
  obtain ⟨fd_is_listed, F_is_listed⟩ := c.def_ 7 (d := ⟨.g "is_listed", "is_listed", "is_listed", defArgs s_is_listed, defBody s_is_listed, defScope s_is_listed, [], []⟩) rfl
  replace F_is_listed : FnQ K "is_listed" "is_listed" s_is_listed _ fd_is_listed := F_is_listed
  have b_is_listed : Binds K fd_is_listed ["value"] [] := F_is_listed.bindsN fun _ _ _ _ _ _ us hl => match us, hl with | [_], _ => rfl
  obtain ⟨fd_is_whole, F_is_whole⟩ := c.def_ 8 (d := ⟨.g "is_whole", "is_whole", "is_whole", defArgs s_is_whole, defBody s_is_whole, defScope s_is_whole, [], []⟩) rfl
  replace F_is_whole : FnQ K "is_whole" "is_whole" s_is_whole _ fd_is_whole := F_is_whole
  have b_is_whole : Binds K fd_is_whole ["value"] [] := F_is_whole.bindsN fun _ _ _ _ _ _ us hl => match us, hl with | [_], _ => rfl
  obtain ⟨fd_is_between, F_is_between⟩ := c.def_ 9 (d := ⟨.g "is_between", "is_between", "is_between", defArgs s_is_between, defBody s_is_between, defScope s_is_between, [], []⟩) rfl
  replace F_is_between : FnQ K "is_between" "is_between" s_is_between _ fd_is_between := F_is_between
  have b_is_between : Binds K fd_is_between ["value", "low", "high"] [] := F_is_between.bindsN fun _ _ _ _ _ _ us hl => match us, hl with | [_, _, _], _ => rfl
  obtain ⟨fd_is_time, F_is_time⟩ := c.def_ 10 (d := ⟨.g "is_time", "is_time", "is_time", defArgs s_is_time, defBody s_is_time, defScope s_is_time, [], []⟩) rfl
  replace F_is_time : FnQ K "is_time" "is_time" s_is_time _ fd_is_time := F_is_time
  have b_is_time : Binds K fd_is_time ["value"] [] := F_is_time.bindsN fun _ _ _ _ _ _ us hl => match us, hl with | [_], _ => rfl
  obtain ⟨fd_is_deed, F_is_deed⟩ := c.def_ 11 (d := ⟨.g "is_deed", "is_deed", "is_deed", defArgs s_is_deed, defBody s_is_deed, defScope s_is_deed, [], []⟩) rfl
  replace F_is_deed : FnQ K "is_deed" "is_deed" s_is_deed _ fd_is_deed := F_is_deed
  have b_is_deed : Binds K fd_is_deed ["value"] [] := F_is_deed.bindsN fun _ _ _ _ _ _ us hl => match us, hl with | [_], _ => rfl
  obtain ⟨fd_makes, F_makes⟩ := c.def_ 12 (d := ⟨.g "makes", "makes", "makes", defArgs s_makes, defBody s_makes, defScope s_makes, [], []⟩) rfl
  replace F_makes : FnQ K "makes" "makes" s_makes _ fd_makes := F_makes
  have b_makes : Binds K fd_makes ["value"] [] := F_makes.bindsN fun _ _ _ _ _ _ us hl => match us, hl with | [_], _ => rfl
  obtain ⟨fd_is_part_of, F_is_part_of⟩ := c.def_ 13 (d := ⟨.g "is_part_of", "is_part_of", "is_part_of", defArgs s_is_part_of, defBody s_is_part_of, defScope s_is_part_of, [], []⟩) rfl
  replace F_is_part_of : FnQ K "is_part_of" "is_part_of" s_is_part_of _ fd_is_part_of := F_is_part_of
  have b_is_part_of : Binds K fd_is_part_of ["value", "words"] [] := F_is_part_of.bindsN fun _ _ _ _ _ _ us hl => match us, hl with | [_, _], _ => rfl
  obtain ⟨fd_is_arrow, F_is_arrow⟩ := c.def_ 14 (d := ⟨.g "is_arrow", "is_arrow", "is_arrow", defArgs s_is_arrow, defBody s_is_arrow, defScope s_is_arrow, [], []⟩) rfl
  replace F_is_arrow : FnQ K "is_arrow" "is_arrow" s_is_arrow _ fd_is_arrow := F_is_arrow
  have b_is_arrow : Binds K fd_is_arrow ["value", "nodes"] [] := F_is_arrow.bindsN fun _ _ _ _ _ _ us hl => match us, hl with | [_, _], _ => rfl
  obtain ⟨fd_reached_from, F_reached_from⟩ := c.def_ 15 (d := ⟨.g "reached_from", "reached_from", "reached_from", defArgs s_reached_from, defBody s_reached_from, defScope s_reached_from, [], []⟩) rfl
  replace F_reached_from : FnQ K "reached_from" "reached_from" s_reached_from _ fd_reached_from := F_reached_from
  have b_reached_from : Binds K fd_reached_from ["nodes", "arrows"] [] := F_reached_from.bindsN fun _ _ _ _ _ _ us hl => match us, hl with | [_, _], _ => rfl
  obtain ⟨fd_Way___init__, F_Way___init__⟩ := c.def_ 16 (d := ⟨.m "Way" "__init__", "__init__", "Way.__init__", defArgs s_Way___init__, defBody s_Way___init__, defScope s_Way___init__, [], []⟩) rfl
  replace F_Way___init__ : FnQ K "__init__" "Way.__init__" s_Way___init__ _ fd_Way___init__ := F_Way___init__
  have b_Way___init__ : Binds K fd_Way___init__ ["self", "nodes", "arrows"] [] := F_Way___init__.bindsN fun _ _ _ _ _ _ us hl => match us, hl with | [_, _, _], _ => rfl
  obtain ⟨fd_Way_nodes, F_Way_nodes⟩ := c.def_ 17 (d := ⟨.m "Way" "nodes", "nodes", "Way.nodes", defArgs s_Way_nodes, defBody s_Way_nodes, defScope s_Way_nodes, [], []⟩) rfl
  replace F_Way_nodes : FnQ K "nodes" "Way.nodes" s_Way_nodes _ fd_Way_nodes := F_Way_nodes
  have b_Way_nodes : Binds K fd_Way_nodes ["self"] [] := F_Way_nodes.bindsN fun _ _ _ _ _ _ us hl => match us, hl with | [_], _ => rfl
  obtain ⟨fd_Way_arrows, F_Way_arrows⟩ := c.def_ 18 (d := ⟨.m "Way" "arrows", "arrows", "Way.arrows", defArgs s_Way_arrows, defBody s_Way_arrows, defScope s_Way_arrows, [], []⟩) rfl
  replace F_Way_arrows : FnQ K "arrows" "Way.arrows" s_Way_arrows _ fd_Way_arrows := F_Way_arrows
  have b_Way_arrows : Binds K fd_Way_arrows ["self"] [] := F_Way_arrows.bindsN fun _ _ _ _ _ _ us hl => match us, hl with | [_], _ => rfl
  obtain ⟨fd_Way___len__, F_Way___len__⟩ := c.def_ 19 (d := ⟨.m "Way" "__len__", "__len__", "Way.__len__", defArgs s_Way___len__, defBody s_Way___len__, defScope s_Way___len__, [], []⟩) rfl
  replace F_Way___len__ : FnQ K "__len__" "Way.__len__" s_Way___len__ _ fd_Way___len__ := F_Way___len__
  have b_Way___len__ : Binds K fd_Way___len__ ["self"] [] := F_Way___len__.bindsN fun _ _ _ _ _ _ us hl => match us, hl with | [_], _ => rfl
  obtain ⟨fd_Way___getitem__, F_Way___getitem__⟩ := c.def_ 20 (d := ⟨.m "Way" "__getitem__", "__getitem__", "Way.__getitem__", defArgs s_Way___getitem__, defBody s_Way___getitem__, defScope s_Way___getitem__, [], []⟩) rfl
  replace F_Way___getitem__ : FnQ K "__getitem__" "Way.__getitem__" s_Way___getitem__ _ fd_Way___getitem__ := F_Way___getitem__
  have b_Way___getitem__ : Binds K fd_Way___getitem__ ["self", "node"] [] := F_Way___getitem__.bindsN fun _ _ _ _ _ _ us hl => match us, hl with | [_, _], _ => rfl
  obtain ⟨fd_Way_arrow, F_Way_arrow⟩ := c.def_ 21 (d := ⟨.m "Way" "arrow", "arrow", "Way.arrow", defArgs s_Way_arrow, defBody s_Way_arrow, defScope s_Way_arrow, [], []⟩) rfl
  replace F_Way_arrow : FnQ K "arrow" "Way.arrow" s_Way_arrow _ fd_Way_arrow := F_Way_arrow
  have b_Way_arrow : Binds K fd_Way_arrow ["self", "start", "goal"] [] := F_Way_arrow.bindsN fun _ _ _ _ _ _ us hl => match us, hl with | [_, _, _], _ => rfl
  obtain ⟨fd_Way___eq__, F_Way___eq__⟩ := c.def_ 22 (d := ⟨.m "Way" "__eq__", "__eq__", "Way.__eq__", defArgs s_Way___eq__, defBody s_Way___eq__, defScope s_Way___eq__, [], []⟩) rfl
  replace F_Way___eq__ : FnQ K "__eq__" "Way.__eq__" s_Way___eq__ _ fd_Way___eq__ := F_Way___eq__
  have b_Way___eq__ : Binds K fd_Way___eq__ ["self", "other"] [] := F_Way___eq__.bindsN fun _ _ _ _ _ _ us hl => match us, hl with | [_, _], _ => rfl
  obtain ⟨fd_law, F_law⟩ := c.def_ 23 (d := ⟨.g "law", "law", "law", defArgs s_law, defBody s_law, defScope s_law, [], []⟩) rfl
  replace F_law : FnQ K "law" "law" s_law _ fd_law := F_law
  have b_law : Binds K fd_law ["script"] [] := F_law.bindsN fun _ _ _ _ _ _ us hl => match us, hl with | [_], _ => rfl
  have bL := FunD.bindsA (ps := ["script"]) F_law fun _ _ _ _ _ _ us hl => match us, hl with | [_], _ => rfl
  refine ⟨fd_law, fun s v => bL s [v] rfl, fun base _ _ hTB => ?_⟩
  have c__law_source : Fn P w K mg base "_law_source" ["script", "turn"] CX0 1 (spM K 2 m__law_source) := ⟨_, _, V.glo 31 rfl, F__law_source.kp, b__law_source, ok__law_source F__law_source V ⟩
  have c__law_draw : Fn P w K mg base "_law_draw" ["source", "amount"] CX0 1 (spM K 2 m__law_draw) := ⟨_, _, V.glo 32 rfl, F__law_draw.kp, b__law_draw, ok__law_draw F__law_draw V ⟩
  have c__law_pick : Fn P w K mg base "_law_pick" ["source", "items"] CX0 2 (spM K 2 m__law_pick) := ⟨_, _, V.glo 33 rfl, F__law_pick.kp, b__law_pick, ok__law_pick F__law_pick V c__law_draw⟩
  have c__law_maker : Fn P w K mg base "_law_maker" ["source", "back"] CX0 3 (spM K 2 m__law_maker) := ⟨_, _, V.glo 34 rfl, F__law_maker.kp, b__law_maker, ok__law_maker F__law_maker V c__law_draw c__law_pick⟩
  have c__law_user : Fn P w K mg base "_law_user" ["source", "back"] CX0 3 (spM K 2 m__law_user) := ⟨_, _, V.glo 35 rfl, F__law_user.kp, b__law_user, ok__law_user F__law_user V c__law_draw c__law_pick⟩
  have c__law_arrow : Fn P w K mg base "_law_arrow" ["source", "start", "goal", "longest", "ends"] CX0 3 (spM K 5 m__law_arrow) := ⟨_, _, V.glo 36 rfl, F__law_arrow.kp, b__law_arrow, ok__law_arrow F__law_arrow V c__law_draw c__law_pick⟩
  have c__law_plan : Fn P w K mg base "_law_plan" ["source", "many", "longest", "back", "ends"] CX0 4 (spM K 5 m__law_plan) := ⟨_, _, V.glo 37 rfl, F__law_plan.kp, b__law_plan, ok__law_plan F__law_plan V c__law_maker c__law_draw c__law_user c__law_arrow⟩
  have c_is_listed : Fn P w K mg base "is_listed" ["value"] CX0 1 (spM K 1 m_is_listed) := ⟨_, _, V.glo 38 rfl, F_is_listed.kp, b_is_listed, ok_is_listed F_is_listed V ⟩
  have c_is_whole : Fn P w K mg base "is_whole" ["value"] CX0 1 (spM K 1 m_is_whole) := ⟨_, _, V.glo 39 rfl, F_is_whole.kp, b_is_whole, ok_is_whole F_is_whole V ⟩
  have c_is_between : Fn P w K mg base "is_between" ["value", "low", "high"] CX0 2 (spM K 3 m_is_between) := ⟨_, _, V.glo 40 rfl, F_is_between.kp, b_is_between, ok_is_between F_is_between V c_is_whole⟩
  have c_is_time : Fn P w K mg base "is_time" ["value"] CX0 3 (spM K 1 m_is_time) := ⟨_, _, V.glo 41 rfl, F_is_time.kp, b_is_time, ok_is_time F_is_time V c_is_between⟩
  have c_is_deed : Fn P w K mg base "is_deed" ["value"] CX0 4 (spM K 1 m_is_deed) := ⟨_, _, V.glo 42 rfl, F_is_deed.kp, b_is_deed, ok_is_deed F_is_deed V c_is_time⟩
  have c_makes : Fn P w K mg base "makes" ["value"] CX0 5 (spM K 1 m_makes) := ⟨_, _, V.glo 43 rfl, F_makes.kp, b_makes, ok_makes F_makes V c_is_deed⟩
  have c_is_part_of : Fn P w K mg base "is_part_of" ["value", "words"] CX0 1 (spM K 2 m_is_part_of) := ⟨_, _, V.glo 44 rfl, F_is_part_of.kp, b_is_part_of, ok_is_part_of F_is_part_of V ⟩
  have c_is_arrow : Fn P w K mg base "is_arrow" ["value", "nodes"] CX0 6 (spM K 2 m_is_arrow) := ⟨_, _, V.glo 45 rfl, F_is_arrow.kp, b_is_arrow, ok_is_arrow F_is_arrow V c_is_between c_is_time c_makes c_is_part_of⟩
  have c_reached_from : Fn P w K mg base "reached_from" ["nodes", "arrows"] CX0 6 (spM K 2 m_reached_from) := ⟨_, _, V.glo 46 rfl, F_reached_from.kp, b_reached_from, ok_reached_from F_reached_from V c_makes⟩
  have c_Way___init__ : Nw P w K mg base "Way" (He.ga K "Way") ["self", "nodes", "arrows"] CX0 7 (spM K 3 m_Way___init__) := ⟨_, _, V.glo 47 rfl, V.mkr 48 rfl, b_Way___init__, ok_Way___init__ F_Way___init__ V c_is_listed c_is_deed c_is_arrow c_reached_from⟩
  have c_Way_nodes : Mt P w K mg base (He.ga K "Way") "nodes" ["self"] CX0 1 (spM K 1 m_Way_nodes) := ⟨_, _, V.meth 49 rfl, b_Way_nodes, ok_Way_nodes F_Way_nodes V ⟩
  have c_Way_arrows : Mt P w K mg base (He.ga K "Way") "arrows" ["self"] CX0 1 (spM K 1 m_Way_arrows) := ⟨_, _, V.meth 50 rfl, b_Way_arrows, ok_Way_arrows F_Way_arrows V ⟩
  have c_Way___len__ : Mt P w K mg base (He.ga K "Way") "__len__" ["self"] CX0 1 (spM K 1 m_Way___len__) := ⟨_, _, V.meth 51 rfl, b_Way___len__, ok_Way___len__ F_Way___len__ V ⟩
  have c_Way___getitem__ : Mt P w K mg base (He.ga K "Way") "__getitem__" ["self", "node"] CX0 3 (spM K 2 m_Way___getitem__) := ⟨_, _, V.meth 52 rfl, b_Way___getitem__, ok_Way___getitem__ F_Way___getitem__ V c_is_between⟩
  have c_Way_arrow : Mt P w K mg base (He.ga K "Way") "arrow" ["self", "start", "goal"] CX0 3 (spM K 3 m_Way_arrow) := ⟨_, _, V.meth 53 rfl, b_Way_arrow, ok_Way_arrow F_Way_arrow V c_Way___len__ c_is_between⟩
  have c_Way___eq__ : Mt P w K mg base (He.ga K "Way") "__eq__" ["self", "other"] CX0 1 (spM K 2 m_Way___eq__) := ⟨_, _, V.meth 54 rfl, b_Way___eq__, ok_Way___eq__ F_Way___eq__ V ⟩
  exact FnG.of (ok_law F_law V c__law_source c__law_draw c__law_plan c_Way___init__ c_Way_nodes c_Way_arrows c_Way___len__ c_Way___getitem__ c_Way_arrow c_Way___eq__)
end Ag
open PySem PySem.W PySem.Calls PyProof.Rows
set_option maxHeartbeats 0 in
theorem PySem.Challenge.cw_agedfiles_k11_ways_told_holds : PySem.Challenge.rw_agedfiles_k11_ways_told.Holds := by
  w_on; o_law
  refine HandSHeadRun.head_any (r := OpenLaw.row PySem.Challenge.rw_agedfiles_k11_ways_told) (q := view (OpenLaw.row PySem.Challenge.rw_agedfiles_k11_ways_told).prog [30]) (H := Ag.hk) (ob := Ag.ob) (M := 40000) (loose := Ag.nmL) (d := HandSHeadRun.topDef (OpenLaw.row PySem.Challenge.rw_agedfiles_k11_ways_told).prog 30) (kwd := []) Ag.ob_eq
    (by kernel_rfl) (fun s => by kernel_rfl) Ag.run (by kernel_rfl) (by kernel_rfl) (by kernel_rfl) (by rfl) (by first | assumption | decide +kernel) (by decide +kernel) ⟨rfl, rfl, rfl, rfl, rfl, by decide +kernel⟩ ?hw ?hc
  case hw => w_witness2
  case hc =>
    refine Ag.walk_ofGT (l := PySem.Challenge.rw_agedfiles_k11_ways_told) (n := 63) (k := 9) (x := "script") (CX := L2.CX0) rfl (by decide) (by kernel_rfl) ⟨rfl, by decide, by decide⟩ ?F (fun _ _ _ _ z => z)
    intro w mg fa h Y G hmg0
    obtain ⟨K, KX, c, em⟩ := Y
    have hmg : mg ("law" : PySem.Str) = some (.ref fa) := by
      have e : (HandSHeadRun.topDef (OpenLaw.row PySem.Challenge.rw_agedfiles_k11_ways_told).prog 30).name = ("law" : PySem.Str) := by kernel_rfl
      rw [← e]
      exact hmg0
    obtain ⟨fd, hb, hF⟩ := Ag.all_mk (P := (PySem.Challenge.rw_agedfiles_k11_ways_told).prog) (w := w) KX G hmg c
    exact ⟨K, Ag.tabCs K, fd, Ag.spM K 1 Ag.m_law, KX, Ag.csOk KX ((⟨c.facts, h, KX, G⟩ : Ag.Fcts Ag.faL K mg).gen 56 rfl) em, hb, fun H a ns hl hT hS => Ag.law_sp (n := 63) Ag.law_true H a ns hl hS (Ag.tbs0 hT) _, hF⟩
