import PyProof.Rows.All
import Wide.All
import OpenK.AllK
import Wide.FinOn
import HandS.Base
import HandS.Call
import HandS.Exc
import HandS.Defaults
import HandS.Property
import HandS.HeadHook1
import HandS.HeadHook2
import HandS.HeadHook3
import HandS.HeadHook4
import HandS.ExcField
import HandS.Lambda
import HandS.RaiseMore
import HandS.CallSlots
import HandS.TryMany
import HandS.ExcOwn
import HandS.ForMost
import PyProof.ExcBaseAll.LookupError
import PyProof.ExcBaseAll.ValueError
import PyProof.ExcBaseAll.ArithmeticError
import PyProof.InstStoreFacts
import KE.KExcInit
import KE.KTryMore
import KE.KIsAll
import KE.KLam
import KE.KStateDown
import Lean
import HandS.Ends
import HandS.More
import HandS.Words
import HandS.WordsExc
import HandS.Head0
import HandS.Head1
import HandS.Head2
import HandS.HeadEnd
import PySem.Challenge.RW_stoprows_k01_limits_and_errors
import HandS.Wide
import HandS.WideBits
import HandS.IsInst
import HandS.Style
import HandS.Flow
import HandS.Walk
import HandS.TupAny
import HandS.Deep
import HandS.Zip
import PyProof.StrLawsRepr
import PyProof.FitsInt
import HandS.NoneIn
import HandS.SortInts
import HandS.Text
import HandS.Dict
import PyProof.Draws
import HandS.Iter
import HandS.Star
import HandS.FStr
import HandS.MapJoin
import HandS.EndTab
import HandS.ExcInit
import HandS.ExcIs
import HandS.SetFor
import HandS.TupMul
import PyProof.ReprRoads
import KE.KCallOwn
set_option Elab.async false
set_option linter.all false
set_option maxRecDepth 100000
set_option maxHeartbeats 0
/-! EvH: what is read of the head: defs at any place, one more Bool, properties, static methods, tuples of the module. -/
namespace EvH
open PySem PySem.Spec PyProof.Rows L2 He
/-- a def that stands anywhere -/
structure DefA where
  adr : PySem.W.Frag → Addr
  name : Str
  qual : Str
  params : Arguments
  body : List Stmt
  scope : Scope
def fnA (K : PySem.W.Frag) (a : Addr) : FnW := match K.lookup a with
  | some ⟨_, _, .func f, _⟩ => some (f.name, f.qualname, f.params, f.body, f.scope, f.globals, f.closure, f.builtins)
  | _ => none
def DefA.val (d : DefA) : FnW := some (d.name, d.qual, d.params, .stmts d.body, d.scope, mainGlobals, [], builtinsNs)
def DefA.ok (K : PySem.W.Frag) (d : DefA) : Bool := PySem.W.keepIn K (.ref (d.adr K)) && (match K.lookup (d.adr K) with
  | some ⟨_, _, .func f, _⟩ => PySem.W.codeIn K f.code d.qual && (dflB K f.defaults [] && kwdB K f.kwdefaults [])
  | _ => false)
theorem DefA.funD {K : PySem.W.Frag} {d : DefA} (e : fnA K (d.adr K) = d.val) (c : d.ok K = true) : ∃ fd, FunD K d.name d.qual d.params d.body d.scope [] [] (d.adr K) fd := by
  obtain ⟨kp, c⟩ := ba c
  unfold fnA at e
  cases q : K.lookup (d.adr K) with
  | none => rw [q] at c; cases c
  | some o =>
    obtain ⟨oc, od, dt, sl⟩ := o
    rw [q] at c e
    cases dt with
    | func f =>
      obtain ⟨m1, m2, m3, m4, m5, m6, m7, m8, m9, m10, m11, m12, m13, m14, m15⟩ := f
      simp only [DefA.val, Option.some.injEq, Prod.mk.injEq] at e
      obtain ⟨e1, e2, e3, e4, e5, e6, e7, e8⟩ := e
      subst e1 e2 e3 e4 e5 e6 e7 e8
      obtain ⟨c1, c⟩ := ba c
      obtain ⟨c2, c3⟩ := ba c
      exact ⟨_, ⟨oc, od, m8, m9, m10, m11, m12, m13, m14, sl, rfl, q, c1, dflB_ok c2, kwdB_ok c3⟩, kp⟩
    | _ => cases c
/-! ### properties, static methods -/
/-- the first thing that the object at p keeps, if it is an object -/
def firstOf (K : PySem.W.Frag) (p : Addr) (T : String) : Addr := match PySem.W.recIn K p T with
  | some (.ref g :: _) => g
  | _ => 0
def isRec (K : PySem.W.Frag) (p : Addr) (T : String) : Bool := match PySem.W.recIn K p T with
  | some (.ref g :: _) => true
  | _ => false
theorem isRec_ok {K : PySem.W.Frag} {p : Addr} {T : String} (h : isRec K p T = true) : ∃ rest, PySem.W.recIn K p T = some (.ref (firstOf K p T) :: rest) := by
  unfold isRec at h
  unfold firstOf
  split at h
  · rename_i g r q
    rw [q]
    exact ⟨r, rfl⟩
  · cases h
/-- the getter of the property f of the class c -/
def getA (c f : Str) (K : PySem.W.Frag) : Addr := firstOf K (ma K (ga K c) f) "property"
def proB (K : PySem.W.Frag) (c f : Str) : Bool := eqO (PySem.W.findIn K (.ref (ga K c)) f) (some (some (.ref (ma K (ga K c) f)))) && (eqO (PySem.W.specialIn K (.ref (ma K (ga K c) f)) "__get__") (some (some (.builtin "property.__get__"))) &&
  (decide (PySem.W.takesIn K (.ref (ma K (ga K c) f)) = some true) && isRec K (ma K (ga K c) f) "property"))
theorem proB_ok {K : PySem.W.Frag} {c f : Str} (h : proB K c f = true) : PropOf K (ga K c) f (ma K (ga K c) f) (getA c f K) := by
  obtain ⟨h1, h⟩ := ba h
  obtain ⟨h2, h⟩ := ba h
  obtain ⟨h3, h4⟩ := ba h
  exact ⟨eqO_ok h1, eqO_ok h2, of_decide_eq_true h3, isRec_ok h4⟩
/-- the object that stands in the class c for its static method m -/
def smA (K : PySem.W.Frag) (c m : Str) : Addr := match PySem.W.findCls K (.ref (ga K c)) (.type "type") m with
  | some (.get _ (.ref p) _ _) => p
  | _ => 0
def staA (c m : Str) (K : PySem.W.Frag) : Addr := firstOf K (smA K c m) "staticmethod"
/-- what is known of it -/
structure StaOf (K : PySem.W.Frag) (C : Addr) (m : Str) (f : Addr) : Prop where
  attr : PySem.W.specialIn K (.ref C) "__getattribute__" = some (some (.builtin "type.__getattribute__"))
  ty : PySem.W.typeIn K (.ref C) = some (.type "type")
  reads : PySem.W.readsIn K C (.type "type") = true
  at_ : ∃ p rest, PySem.W.findCls K (.ref C) (.type "type") m = some (.get (.builtin "staticmethod.__get__") (.ref p) .none (.ref C)) ∧ PySem.W.recIn K p "staticmethod" = some (.ref f :: rest)
  kC : PySem.W.keepIn K (.ref C) = true
  kF : PySem.W.keepIn K (.ref f) = true
def fcB (K : PySem.W.Frag) (c m : Str) : Bool := match PySem.W.findCls K (.ref (ga K c)) (.type "type") m with
  | some (.get (.builtin b) (.ref p) .none (.ref C)) => decide (b = "staticmethod.__get__") && decide (C = ga K c)
  | _ => false
theorem fcB_ok {K : PySem.W.Frag} {c m : Str} (h : fcB K c m = true) : PySem.W.findCls K (.ref (ga K c)) (.type "type") m = some (.get (.builtin "staticmethod.__get__") (.ref (smA K c m)) .none (.ref (ga K c))) := by
  unfold fcB at h
  unfold smA
  split at h
  · rename_i b p C q
    obtain ⟨h1, h2⟩ := ba h
    have e1 := of_decide_eq_true h1
    have e2 := of_decide_eq_true h2
    subst e1
    rw [q, e2]
  · cases h
def staB (K : PySem.W.Frag) (c m : Str) : Bool := eqO (PySem.W.specialIn K (.ref (ga K c)) "__getattribute__") (some (some (.builtin "type.__getattribute__"))) && (decide (PySem.W.typeIn K (.ref (ga K c)) = some (.type "type")) &&
  (PySem.W.readsIn K (ga K c) (.type "type") && (fcB K c m && (isRec K (smA K c m) "staticmethod" && (PySem.W.keepIn K (.ref (ga K c)) && PySem.W.keepIn K (.ref (staA c m K)))))))
theorem staB_ok {K : PySem.W.Frag} {c m : Str} (h : staB K c m = true) : StaOf K (ga K c) m (staA c m K) := by
  obtain ⟨h1, h⟩ := ba h
  obtain ⟨h2, h⟩ := ba h
  obtain ⟨h3, h⟩ := ba h
  obtain ⟨h4, h⟩ := ba h
  obtain ⟨h5, h⟩ := ba h
  obtain ⟨h6, h7⟩ := ba h
  obtain ⟨rest, r⟩ := isRec_ok h5
  exact ⟨eqO_ok h1, of_decide_eq_true h2, h3, ⟨_, rest, fcB_ok h4, r⟩, h6, h7⟩
/-! ### the Hook -/
abbrev AlB : Type := AlX × List FnW
def allB : List (PySem.W.Frag → Bool) → PySem.W.Frag → Bool
  | [], _ => true
  | f :: r, K => f K && allB r K
theorem allB_ok : ∀ {l : List (PySem.W.Frag → Bool)} {K : PySem.W.Frag} (i : Nat) {f : PySem.W.Frag → Bool}, allB l K = true → l[i]? = some f → f K = true
  | [], _, i, _, _, e => by simp at e
  | g :: r, K, 0, f, h, e => by
    simp only [List.getElem?_cons_zero, Option.some.injEq] at e
    subst e
    exact (ba h).1
  | g :: r, K, i + 1, f, h, e => allB_ok (l := r) i (ba h).2 (by simpa using e)
def allD : List DefA → PySem.W.Frag → Bool
  | [], _ => true
  | d :: r, K => d.ok K && allD r K
theorem allD_ok : ∀ {l : List DefA} {K : PySem.W.Frag} (i : Nat) {d : DefA}, allD l K = true → l[i]? = some d → d.ok K = true
  | [], _, i, _, _, e => by simp at e
  | g :: r, K, 0, f, h, e => by
    simp only [List.getElem?_cons_zero, Option.some.injEq] at e
    subst e
    exact (ba h).1
  | g :: r, K, i + 1, f, h, e => allD_ok (l := r) i (ba h).2 (by simpa using e)
section
variable (n : Nat) (fa : List Fa) (fn : List DefD) (fx : List DefA) (ts : List Tab) (tf : List Defn) (ex : List (PySem.W.Frag → Bool))
def exB (fx : List DefA) (ex : List (PySem.W.Frag → Bool)) (K : PySem.W.Frag) : Bool := allB ex K && allD fx K
def obsB (g : Addr → Option Obj) : AlB := (obsX n fa fn ts tf (exB fx ex) g, fx.map fun d => fnA (frT g (asD g n)) (d.adr (frT g (asD g n))))
def valB (w : World) : AlB := (valX fn ts w, fx.map DefA.val)
structure SaysB (w : World) (h : Heap) (K : PySem.W.Frag) : Prop where
  x : SaysX fa fn ts tf (exB fx ex) w h K
  f : (fx.map fun d => fnA K (d.adr K)) = fx.map DefA.val
def hookB : PySem.W.Hook where
  α := AlB
  obs := fun s => obsB n fa fn fx ts tf ex s.heap.get?
  val := fun w => valB fn fx ts w
  says := fun w h => ∃ K : PySem.W.Frag, K.In h ∧ SaysB fa fn fx ts tf ex w h K
  of := fun _ _ e => ⟨_, frT_in, saysX_of (congrArg (fun z : AlB => z.1) e), congrArg (fun z : AlB => z.2) e⟩
  keeps := fun _ _ _ ⟨K, hK, c⟩ k => ⟨K, PySem.W.Frag.In.keeps hK k, ⟨⟨c.x.t, c.x.more, c.x.hd, c.x.out, fun p hp => k _ _ (c.x.empty p hp)⟩, c.f⟩⟩
theorem obsB_eq {g : Addr → Option Obj} {s : Shared} (h : ∀ a, g a = s.heap.get? a) : obsB n fa fn fx ts tf ex g = (hookB n fa fn fx ts tf ex).obs s := by
  have e : g = s.heap.get? := funext h
  rw [e] <;> rfl
end
section
variable {fa : List Fa} {fn : List DefD} {fx : List DefA} {ts : List Tab} {tf : List Defn} {ex : List (PySem.W.Frag → Bool)} {w : World} {h : Heap} {K : PySem.W.Frag}
theorem SaysB.fact (c : SaysB fa fn fx ts tf ex w h K) (i : Nat) {f : Fa} (e : fa[i]? = some f := by rfl) : f.ok K = true := c.x.t.d.fact i e
theorem SaysB.def_ (c : SaysB fa fn fx ts tf ex w h K) (i : Nat) {d : DefD} (e : fn[i]? = some d := by rfl) : ∃ fd, FunD K d.name d.qual d.params d.body d.scope (d.dvs K) (d.kws K) (fAd K d.at_) fd := c.x.t.d.def_ i e
theorem SaysB.more (c : SaysB fa fn fx ts tf ex w h K) (i : Nat) {f : PySem.W.Frag → Bool} (e : ex[i]? = some f := by rfl) : f K = true := allB_ok i (ba c.x.more).1 e
theorem SaysB.defA (c : SaysB fa fn fx ts tf ex w h K) (i : Nat) {d : DefA} (e : fx[i]? = some d := by rfl) : ∃ fd, FunD K d.name d.qual d.params d.body d.scope [] [] (d.adr K) fd := by
  have z : (fx.map fun d => fnA K (d.adr K))[i]? = (fx.map DefA.val)[i]? := by rw [c.f]
  rw [List.getElem?_map, List.getElem?_map, e] at z
  exact DefA.funD (Option.some.inj z) (allD_ok i (ba c.x.more).2 e)
end
end EvH
namespace EvH
open PySem PySem.Spec PyProof.Rows L2 He
/-! ### isinstance of an own class -/
def kinds : List String := ["NoneType", "bool", "int", "str", "tuple", "list", "dict"]
structure InsOf (K : PySem.W.Frag) (C : Addr) : Prop where
  cl : Cls K C
  ha : PySem.W.findIn K (.ref C) "__class__" = some (some (.builtin "object.__class__"))
  hn : PySem.W.specialIn K (.builtin "object.__class__") "__get__" = some (some (.builtin "getset_descriptor.__get__"))
  htk : PySem.W.takesIn K (.builtin "object.__class__") = some true
  hm : PySem.W.mroIn K C (.type "object") = some true
  me : PySem.W.kitOne K (.ref C) (.ref C) = some true
  no : ∀ t ∈ kinds, PySem.W.kitOne K (.type t) (.ref C) = some false
def insB (K : PySem.W.Frag) (c : Str) : Bool := eqO (PySem.W.findIn K (.ref (ga K c)) "__class__") (some (some (.builtin "object.__class__"))) && (eqO (PySem.W.specialIn K (.builtin "object.__class__") "__get__") (some (some (.builtin "getset_descriptor.__get__"))) &&
  (decide (PySem.W.takesIn K (.builtin "object.__class__") = some true) && (decide (PySem.W.mroIn K (ga K c) (.type "object") = some true) && (decide (PySem.W.kitOne K (.ref (ga K c)) (.ref (ga K c)) = some true) && kinds.all fun t => decide (PySem.W.kitOne K (.type t) (.ref (ga K c)) = some false)))))
theorem insB_ok {K : PySem.W.Frag} {c : Str} (hc : Cls K (ga K c)) (h : insB K c = true) : InsOf K (ga K c) := by
  obtain ⟨h1, h⟩ := ba h
  obtain ⟨h2, h⟩ := ba h
  obtain ⟨h3, h⟩ := ba h
  obtain ⟨h4, h⟩ := ba h
  obtain ⟨h5, h6⟩ := ba h
  exact ⟨hc, eqO_ok h1, eqO_ok h2, of_decide_eq_true h3, of_decide_eq_true h4, of_decide_eq_true h5, fun t ht => of_decide_eq_true (List.all_eq_true.mp h6 t ht)⟩
/-- an instance of C2 seen as one of C -/
def subB (K : PySem.W.Frag) (c2 c : Str) (b : Bool) : Bool := decide (PySem.W.kitOne K (.ref (ga K c2)) (.ref (ga K c)) = some b)
theorem subB_ok {K : PySem.W.Frag} {c2 c : Str} {b : Bool} (h : subB K c2 c b = true) : PySem.W.kitOne K (.ref (ga K c2)) (.ref (ga K c)) = some b := of_decide_eq_true h
end EvH

/-! the head is run -/
namespace K01Y
open PySem PySem.Spec PyProof.Rows L2
noncomputable section
abbrev top (i : Nat) : Stmt := PySem.Challenge.pw_stoprows_k01_limits_and_errors.main.body.getD i (.Pass ⟨0, 0, 0, 0⟩)
end
def excNB (K : PySem.W.Frag) (x : Str) (bm : List Value) (newId : String) : Bool := PySem.W.excIn K (He.ga K x) bm newId && (PySem.W.keepIn K (.ref (He.ga K x)) && (decide (PySem.W.subIn K (.ref (He.ga K x)) (.type "BaseException") = some true) && decide (PySem.W.typeIn K (.ref (He.ga K x)) = some (.type "type"))))
def gloB (K : PySem.W.Frag) (x : Str) : Bool := (He.Fa.glo x).ok K
def exCB (K : PySem.W.Frag) (c : Str) : Bool := He.eqO (PySem.W.findIn K (.ref (He.ga K c)) "__getattribute__") (some (some (.builtin "BaseException.__getattribute__"))) && (He.eqO (PySem.W.findIn K (.ref (He.ga K c)) "__getattr__") (some none) &&
  (decide (PySem.W.subIn K (.ref (He.ga K c)) (.type "BaseException") = some true) && (PySem.W.hasDictIn K (He.ga K c) && (He.eqO (PySem.W.findIn K (.ref (He.ga K c)) "__class__") (some (some (.builtin "object.__class__"))) &&
  (He.eqO (PySem.W.specialIn K (.builtin "object.__class__") "__get__") (some (some (.builtin "getset_descriptor.__get__"))) && (decide (PySem.W.takesIn K (.builtin "object.__class__") = some true) && decide (PySem.W.mroIn K (He.ga K c) (.type "object") = some true)))))))
abbrev Anc := List (Str × List Str)
def istB (K : PySem.W.Frag) (tab : Anc) (own blt : List Str) : Bool := tab.all (fun q => gloB K q.1 && exCB K q.1) && (own.all (gloB K) && (blt.all (fun k => (He.Fa.free k).ok K) && tab.all fun q => own.all (fun k => decide (PySem.W.kitOne K (.ref (He.ga K q.1)) (.ref (He.ga K k)) = some (q.2.contains k))) &&
  blt.all fun k => (match bootBuiltins k with | some (.type n) => decide (PySem.W.kitOne K (.ref (He.ga K q.1)) (.type n) = some (q.2.contains k)) | _ => false)))
def xftB (K : PySem.W.Frag) (known : List Str) (f : Str) : Bool := known.all fun c => gloB K c && (xfB K (He.ga K c) && He.eqO (PySem.W.findIn K (.ref (He.ga K c)) f) (some none))
def exiB (K : PySem.W.Frag) (c f : Str) (bm : List Value) (newId : String) : Bool := PySem.W.excInitIn K (He.ga K c) bm newId && (PySem.W.excOver K (He.ga K c) bm && (decide (PySem.W.takerIn K (He.ga K c) f = some none) && (PySem.W.hasDictIn K (He.ga K c) &&
  (He.eqO (PySem.W.findIn K (.ref (He.ga K c)) "__setattr__") (some (some (.builtin "object.__setattr__"))) && (PySem.W.keepIn K (.ref (He.ga K c)) && (decide (PySem.W.subIn K (.ref (He.ga K c)) (.type "BaseException") = some true) && decide (PySem.W.typeIn K (.ref (He.ga K c)) = some (.type "type"))))))))
abbrev ArithmeticError_bm : List Value := [.type "ArithmeticError", .type "Exception", .type "BaseException", .type "object"]
abbrev ValueError_bm : List Value := [.type "ValueError", .type "Exception", .type "BaseException", .type "object"]
abbrev LookupError_bm : List Value := [.type "LookupError", .type "Exception", .type "BaseException", .type "object"]
abbrev tabi : Anc := [("Broken", ["Broken", "NoAnswer", "ArithmeticError"]), ("InUse", ["InUse", "NoAnswer", "ArithmeticError"]), ("InvalidBells", ["InvalidBells", "WrongValue", "ValueError"]), ("InvalidDay", ["InvalidDay", "WrongValue", "ValueError"]), ("InvalidDeeds", ["InvalidDeeds", "WrongValue", "ValueError"]), ("InvalidIndex", ["InvalidIndex", "WrongValue", "ValueError"]), ("InvalidLine", ["InvalidLine", "WrongValue", "ValueError"]), ("InvalidLooks", ["InvalidLooks", "WrongValue", "ValueError"]), ("InvalidName", ["InvalidName", "WrongValue", "ValueError"]), ("InvalidNumber", ["InvalidNumber", "WrongValue", "ValueError"]), ("InvalidPattern", ["InvalidPattern", "WrongValue", "ValueError"]), ("InvalidRate", ["InvalidRate", "WrongValue", "ValueError"]), ("InvalidRoot", ["InvalidRoot", "WrongValue", "ValueError"]), ("InvalidStart", ["InvalidStart", "WrongValue", "ValueError"]), ("InvalidText", ["InvalidText", "WrongValue", "ValueError"]), ("InvalidWay", ["InvalidWay", "WrongValue", "ValueError"]), ("InvalidWish", ["InvalidWish", "WrongValue", "ValueError"]), ("NoAnswer", ["NoAnswer", "ArithmeticError"]), ("NoOther", ["NoOther", "NoAnswer", "ArithmeticError"]), ("NoStart", ["NoStart", "NoAnswer", "ArithmeticError"]), ("NotABell", ["NotABell", "WrongValue", "ValueError"]), ("NothingToUndo", ["NothingToUndo", "NoAnswer", "ArithmeticError"]), ("TooGreat", ["TooGreat", "NoAnswer", "ArithmeticError"]), ("UnknownName", ["UnknownName", "WrongName", "LookupError"]), ("WrongName", ["WrongName", "LookupError"]), ("WrongValue", ["WrongValue", "ValueError"])]
abbrev kni : List PySem.Str := ["Broken", "InUse", "InvalidBells", "InvalidDay", "InvalidDeeds", "InvalidIndex", "InvalidLine", "InvalidLooks", "InvalidName", "InvalidNumber", "InvalidPattern", "InvalidRate", "InvalidRoot", "InvalidStart", "InvalidText", "InvalidWay", "InvalidWish", "NoAnswer", "NoOther", "NoStart", "NotABell", "NothingToUndo", "TooGreat", "UnknownName", "WrongName", "WrongValue"]
abbrev knb : List PySem.Str := ["ArithmeticError", "LookupError", "ValueError"]
abbrev kn_given : List PySem.Str := ["InvalidDay", "InvalidIndex", "InvalidLine", "InvalidName", "InvalidNumber", "InvalidPattern", "InvalidRate", "InvalidRoot", "InvalidStart", "InvalidText", "InvalidWay", "InvalidWish", "NotABell", "TooGreat", "UnknownName"]
abbrev kn_index : List PySem.Str := ["Broken", "InUse", "InvalidBells", "InvalidDeeds", "InvalidLooks"]
def names0 : List PySem.Str := ["WrongValue", "InvalidText", "InvalidName", "InvalidNumber", "InvalidRoot", "InvalidRate", "InvalidStart", "InvalidWay", "InvalidDay", "InvalidPattern", "InvalidWish", "InvalidIndex", "InvalidLine", "NotABell", "InvalidBells", "InvalidLooks"]
def names1 : List PySem.Str := ["InvalidDeeds", "WrongName", "UnknownName", "NoAnswer", "NoStart", "NoOther", "TooGreat", "Broken", "InUse", "NothingToUndo", "MOST_ROOT", "MOST_SIZE", "MOST_RATE", "MOST_START", "MOST_BELLS", "MOST_DAY"]
def names2 : List PySem.Str := ["MOST_LOOKS", "MOST_PATTERN", "_law_dip", "_law_one_of", "_law_jar", "_law_sorts", "_law_given_errors", "_law_index_errors", "_law_right"]
def names : List PySem.Str := names0 ++ names1 ++ names2
def dx_Broken : He.DefD := ⟨("Broken", some "__init__"), "__init__", "Broken.__init__", defArgs (inClass (top 24) 0), defBody (inClass (top 24) 0), defScope (inClass (top 24) 0), [], []⟩
def dx_InUse : He.DefD := ⟨("InUse", some "__init__"), "__init__", "InUse.__init__", defArgs (inClass (top 25) 0), defBody (inClass (top 25) 0), defScope (inClass (top 25) 0), [], []⟩
def dx_InvalidBells : He.DefD := ⟨("InvalidBells", some "__init__"), "__init__", "InvalidBells.__init__", defArgs (inClass (top 15) 0), defBody (inClass (top 15) 0), defScope (inClass (top 15) 0), [], []⟩
def dx_InvalidDay : He.DefD := ⟨("InvalidDay", some "__init__"), "__init__", "InvalidDay.__init__", defArgs (inClass (top 9) 0), defBody (inClass (top 9) 0), defScope (inClass (top 9) 0), [], []⟩
def dx_InvalidDeeds : He.DefD := ⟨("InvalidDeeds", some "__init__"), "__init__", "InvalidDeeds.__init__", defArgs (inClass (top 17) 0), defBody (inClass (top 17) 0), defScope (inClass (top 17) 0), [], []⟩
def dx_InvalidIndex : He.DefD := ⟨("InvalidIndex", some "__init__"), "__init__", "InvalidIndex.__init__", defArgs (inClass (top 12) 0), defBody (inClass (top 12) 0), defScope (inClass (top 12) 0), [], []⟩
def dx_InvalidLine : He.DefD := ⟨("InvalidLine", some "__init__"), "__init__", "InvalidLine.__init__", defArgs (inClass (top 13) 0), defBody (inClass (top 13) 0), defScope (inClass (top 13) 0), [], []⟩
def dx_InvalidLooks : He.DefD := ⟨("InvalidLooks", some "__init__"), "__init__", "InvalidLooks.__init__", defArgs (inClass (top 16) 0), defBody (inClass (top 16) 0), defScope (inClass (top 16) 0), [], []⟩
def dx_InvalidName : He.DefD := ⟨("InvalidName", some "__init__"), "__init__", "InvalidName.__init__", defArgs (inClass (top 3) 0), defBody (inClass (top 3) 0), defScope (inClass (top 3) 0), [], []⟩
def dx_InvalidNumber : He.DefD := ⟨("InvalidNumber", some "__init__"), "__init__", "InvalidNumber.__init__", defArgs (inClass (top 4) 0), defBody (inClass (top 4) 0), defScope (inClass (top 4) 0), [], []⟩
def dx_InvalidPattern : He.DefD := ⟨("InvalidPattern", some "__init__"), "__init__", "InvalidPattern.__init__", defArgs (inClass (top 10) 0), defBody (inClass (top 10) 0), defScope (inClass (top 10) 0), [], []⟩
def dx_InvalidRate : He.DefD := ⟨("InvalidRate", some "__init__"), "__init__", "InvalidRate.__init__", defArgs (inClass (top 6) 0), defBody (inClass (top 6) 0), defScope (inClass (top 6) 0), [], []⟩
def dx_InvalidRoot : He.DefD := ⟨("InvalidRoot", some "__init__"), "__init__", "InvalidRoot.__init__", defArgs (inClass (top 5) 0), defBody (inClass (top 5) 0), defScope (inClass (top 5) 0), [], []⟩
def dx_InvalidStart : He.DefD := ⟨("InvalidStart", some "__init__"), "__init__", "InvalidStart.__init__", defArgs (inClass (top 7) 0), defBody (inClass (top 7) 0), defScope (inClass (top 7) 0), [], []⟩
def dx_InvalidText : He.DefD := ⟨("InvalidText", some "__init__"), "__init__", "InvalidText.__init__", defArgs (inClass (top 2) 0), defBody (inClass (top 2) 0), defScope (inClass (top 2) 0), [], []⟩
def dx_InvalidWay : He.DefD := ⟨("InvalidWay", some "__init__"), "__init__", "InvalidWay.__init__", defArgs (inClass (top 8) 0), defBody (inClass (top 8) 0), defScope (inClass (top 8) 0), [], []⟩
def dx_InvalidWish : He.DefD := ⟨("InvalidWish", some "__init__"), "__init__", "InvalidWish.__init__", defArgs (inClass (top 11) 0), defBody (inClass (top 11) 0), defScope (inClass (top 11) 0), [], []⟩
def dx_NotABell : He.DefD := ⟨("NotABell", some "__init__"), "__init__", "NotABell.__init__", defArgs (inClass (top 14) 0), defBody (inClass (top 14) 0), defScope (inClass (top 14) 0), [], []⟩
def dx_TooGreat : He.DefD := ⟨("TooGreat", some "__init__"), "__init__", "TooGreat.__init__", defArgs (inClass (top 23) 0), defBody (inClass (top 23) 0), defScope (inClass (top 23) 0), [], []⟩
def dx_UnknownName : He.DefD := ⟨("UnknownName", some "__init__"), "__init__", "UnknownName.__init__", defArgs (inClass (top 19) 0), defBody (inClass (top 19) 0), defScope (inClass (top 19) 0), [], []⟩
def df__law_dip : He.DefD := ⟨("_law_dip", none), "_law_dip", "_law_dip", defArgs (top 36), defBody (top 36), defScope (top 36), [], []⟩
def df__law_one_of : He.DefD := ⟨("_law_one_of", none), "_law_one_of", "_law_one_of", defArgs (top 37), defBody (top 37), defScope (top 37), [], []⟩
def df__law_jar : He.DefD := ⟨("_law_jar", none), "_law_jar", "_law_jar", defArgs (top 38), defBody (top 38), defScope (top 38), [], []⟩
def df__law_sorts : He.DefD := ⟨("_law_sorts", none), "_law_sorts", "_law_sorts", defArgs (top 39), defBody (top 39), defScope (top 39), [], []⟩
def df__law_given_errors : He.DefD := ⟨("_law_given_errors", none), "_law_given_errors", "_law_given_errors", defArgs (top 40), defBody (top 40), defScope (top 40), [], []⟩
def df__law_index_errors : He.DefD := ⟨("_law_index_errors", none), "_law_index_errors", "_law_index_errors", defArgs (top 41), defBody (top 41), defScope (top 41), [], []⟩
def df__law_right : He.DefD := ⟨("_law_right", none), "_law_right", "_law_right", defArgs (top 42), defBody (top 42), defScope (top 42), [], []⟩
def df_law : He.DefD := ⟨("law", none), "law", "law", defArgs (top 43), defBody (top 43), defScope (top 43), [], []⟩
def fn : List He.DefD := [df__law_dip, df__law_one_of, df__law_jar, df__law_sorts, df__law_given_errors, df__law_index_errors, df__law_right, df_law, dx_Broken, dx_InUse, dx_InvalidBells, dx_InvalidDay, dx_InvalidDeeds, dx_InvalidIndex, dx_InvalidLine, dx_InvalidLooks, dx_InvalidName, dx_InvalidNumber, dx_InvalidPattern, dx_InvalidRate, dx_InvalidRoot, dx_InvalidStart, dx_InvalidText, dx_InvalidWay, dx_InvalidWish, dx_NotABell, dx_TooGreat, dx_UnknownName]
def fx2 : List EvH.DefA := []
def fa : List He.Fa := [.glo "_law_dip", .glo "_law_one_of", .glo "_law_jar", .glo "_law_sorts", .glo "_law_given_errors", .glo "_law_index_errors", .glo "_law_right", .glo "law", .free "ArithmeticError", .free "LookupError", .free "ValueError", .free "abs", .free "all", .free "bool", .free "divmod", .free "enumerate", .free "int", .free "isinstance", .free "len", .free "list", .free "max", .free "min", .free "range", .free "repr", .free "str", .free "tuple", .int "MOST_ROOT" (30), .int "MOST_SIZE" (12), .int "MOST_RATE" (100), .int "MOST_START" (1000), .int "MOST_BELLS" (4), .int "MOST_DAY" (1000000000000000000000000000000), .int "MOST_LOOKS" (20), .int "MOST_PATTERN" (40), .glo "NoAnswer", .glo "NoOther", .glo "NoStart", .glo "NothingToUndo", .glo "WrongName", .glo "WrongValue", .glo "Broken", .glo "InUse", .glo "InvalidBells", .glo "InvalidDay", .glo "InvalidDeeds", .glo "InvalidIndex", .glo "InvalidLine", .glo "InvalidLooks", .glo "InvalidName", .glo "InvalidNumber", .glo "InvalidPattern", .glo "InvalidRate", .glo "InvalidRoot", .glo "InvalidStart", .glo "InvalidText", .glo "InvalidWay", .glo "InvalidWish", .glo "NotABell", .glo "TooGreat", .glo "UnknownName", .meth "Broken" "__init__", .meth "InUse" "__init__", .meth "InvalidBells" "__init__", .meth "InvalidDay" "__init__", .meth "InvalidDeeds" "__init__", .meth "InvalidIndex" "__init__", .meth "InvalidLine" "__init__", .meth "InvalidLooks" "__init__", .meth "InvalidName" "__init__", .meth "InvalidNumber" "__init__", .meth "InvalidPattern" "__init__", .meth "InvalidRate" "__init__", .meth "InvalidRoot" "__init__", .meth "InvalidStart" "__init__", .meth "InvalidText" "__init__", .meth "InvalidWay" "__init__", .meth "InvalidWish" "__init__", .meth "NotABell" "__init__", .meth "TooGreat" "__init__", .meth "UnknownName" "__init__"]
def ex : List (PySem.W.Frag → Bool) := [fun K => excNB K "NoAnswer" ArithmeticError_bm "ArithmeticError.__new__", fun K => excNB K "NoOther" ArithmeticError_bm "ArithmeticError.__new__", fun K => excNB K "NoStart" ArithmeticError_bm "ArithmeticError.__new__", fun K => excNB K "NothingToUndo" ArithmeticError_bm "ArithmeticError.__new__", fun K => excNB K "WrongName" LookupError_bm "LookupError.__new__", fun K => excNB K "WrongValue" ValueError_bm "ValueError.__new__", fun K => exiB K "Broken" "index" ArithmeticError_bm "ArithmeticError.__new__", fun K => exiB K "InUse" "index" ArithmeticError_bm "ArithmeticError.__new__", fun K => exiB K "InvalidBells" "index" ValueError_bm "ValueError.__new__", fun K => exiB K "InvalidDay" "given" ValueError_bm "ValueError.__new__", fun K => exiB K "InvalidDeeds" "index" ValueError_bm "ValueError.__new__", fun K => exiB K "InvalidIndex" "given" ValueError_bm "ValueError.__new__", fun K => exiB K "InvalidLine" "given" ValueError_bm "ValueError.__new__", fun K => exiB K "InvalidLooks" "index" ValueError_bm "ValueError.__new__", fun K => exiB K "InvalidName" "given" ValueError_bm "ValueError.__new__", fun K => exiB K "InvalidNumber" "given" ValueError_bm "ValueError.__new__", fun K => exiB K "InvalidPattern" "given" ValueError_bm "ValueError.__new__", fun K => exiB K "InvalidRate" "given" ValueError_bm "ValueError.__new__", fun K => exiB K "InvalidRoot" "given" ValueError_bm "ValueError.__new__", fun K => exiB K "InvalidStart" "given" ValueError_bm "ValueError.__new__", fun K => exiB K "InvalidText" "given" ValueError_bm "ValueError.__new__", fun K => exiB K "InvalidWay" "given" ValueError_bm "ValueError.__new__", fun K => exiB K "InvalidWish" "given" ValueError_bm "ValueError.__new__", fun K => exiB K "NotABell" "given" ValueError_bm "ValueError.__new__", fun K => exiB K "TooGreat" "given" ArithmeticError_bm "ArithmeticError.__new__", fun K => exiB K "UnknownName" "given" LookupError_bm "LookupError.__new__", fun K => istB K tabi kni knb, fun K => xftB K kn_given "given", fun K => xftB K kn_index "index"]
abbrev R : PySem.W.OpenRow := PySem.W.OpenLaw.row PySem.Challenge.rw_stoprows_k01_limits_and_errors
abbrev hk : PySem.W.Hook := EvH.hookB 4 fa fn fx2 [] [] ex
def ob (s : PySem.W.SharedT) : EvH.AlB := EvH.obsB 4 fa fn fx2 [] [] ex (HandSHeadRun.getT s)
theorem ob_eq (s : PySem.W.SharedT) : ob s = hk.obs s.abs := EvH.obsB_eq 4 fa fn fx2 [] [] ex (HandSHeadRun.getT_eq s)
theorem run1 (w : World) (os : OsState) : Option.map (fun s => HandSHeadRun.looksF R.prog (PySem.W.boot_heap w.params) s.abs) (HandSHeadRun.endF (HandSHeadRun.stepQ (HandSHeadRun.denQ HandSHeadRun.tabQ) R.prog w) 8000 R.prog w os) = some true := by
  kernel_rfl
theorem run2 (w : World) (os : OsState) : Option.map (fun s => HandSHeadRun.seenQ (PySem.W.view R.prog [43]) names (importedModules R.prog.main.body) (fun s => PySem.W.xlAt (PySem.W.view R.prog [43]) [] s && PySem.W.recOk R.records s) s.abs) (HandSHeadRun.endF (HandSHeadRun.stepQ (HandSHeadRun.denQ HandSHeadRun.tabQ) R.prog w) 8000 R.prog w os) = some (PySem.W.openGood (PySem.W.view R.prog [43]) names) := by
  kernel_rfl
theorem run3 (w : World) (os : OsState) : Option.map ob (HandSHeadRun.endF (HandSHeadRun.stepQ (HandSHeadRun.denQ HandSHeadRun.tabQ) R.prog w) 8000 R.prog w os) = some (hk.val w) := by
  kernel_rfl
theorem run (w : World) : HandSHeadRun.RunEq R (PySem.W.view R.prog [43]) hk ob 8000 names w := by
  intro os
  have h1 := run1 w os
  have h2 := run2 w os
  have h3 := run3 w os
  revert h1 h2 h3
  generalize (HandSHeadRun.endF (HandSHeadRun.stepQ (HandSHeadRun.denQ HandSHeadRun.tabQ) R.prog w) 8000 R.prog w os) = e
  intro h1 h2 h3
  cases e with
  | none => cases h1
  | some s => exact congrArg some (Prod.ext (Option.some.inj h1) (Prod.ext (Option.some.inj h2) (Option.some.inj h3)))
end K01Y

/-! Ev, part 1: plain data for Python values, how it stands in the heap, what a step keeps, readings made of plain functions. -/
namespace Ev
open PySem L2

/-- plain data: tuples, lists and frozen instances are told whole; a list or an instance that may still change is a number in the store -/
inductive D where
  | non | bl (b : Bool) | int (i : Int) | str (x : Str)
  | tup (xs : List D) | lst (xs : List D) | rol (xs : List D)
  | ref (n : Nat)
  | glo (x : Str)
  | obj (c : Str) (ns : List Str) (xs : List D)
  | dic (ks : List Key) (xs : List D)
  | exn (c : Str) (ns : List Str) (xs : List D)
  deriving Inhabited

/-- the written part and what the module's names hold -/
structure GC where
  K : PySem.W.Frag
  mg : Str → Option Value

def KTup (K : PySem.W.Frag) (a : Addr) (xs : List V) : Prop := ∃ (o : Obj) (its : Array Value) (n : Nat), K.lookup a = some o ∧ o.cls = .type "tuple" ∧ o.data = .seq its n ∧ its.size ≤ sizeLine ∧ Vals xs its.toList
def KLst (K : PySem.W.Frag) (a : Addr) (xs : List V) : Prop := ∃ (o : Obj) (its : Array Value) (n : Nat), K.lookup a = some o ∧ o.cls = .type "list" ∧ o.dict = none ∧ o.data = .seq its n ∧ its.size ≤ sizeLine ∧ Vals xs its.toList
/-- a stands outside of what may change -/
def Out (B : Addr → Prop) (ρ : List Addr) (a : Addr) : Prop := a ∉ ρ ∧ ¬ B a
def TupA (G : GC) (B : Addr → Prop) (ρ : List Addr) (H : Hp) (a : Addr) (vs : List V) : Prop := (H a = some (.tup vs) ∧ Out B ρ a) ∨ KTup G.K a vs
def RolA (G : GC) (B : Addr → Prop) (ρ : List Addr) (H : Hp) (a : Addr) (vs : List V) : Prop := (Rd H a (.lst vs) ∧ Out B ρ a) ∨ KLst G.K a vs
/-- an exception object as it is, its class, its dict -/
def ExnAt (H : Hp) (a C : Addr) (od : Option Addr) : Prop := ∃ φ : Heap → Prop, H a = some (.ext φ) ∧ ∀ h : Heap, φ h → ∃ oe vs, h.get? a = some oe ∧ oe.cls = .ref C ∧ oe.dict = od ∧ oe.data = .fields vs
def XdO (a : Addr) (fs : List (Str × V)) : HO → Prop
  | .xd gs => gs = fs
  | .ext φ => ∀ h : Heap, φ h → ∃ mA, h.Ns1 a mA ∧ ∀ f, RelO (fs.lookup f) (mA f)
  | _ => False
def XdOk (B : Addr → Prop) (ρ : List Addr) (H : Hp) (od : Option Addr) (fs : List (Str × V)) : Prop := (od = none ∧ fs = []) ∨ ∃ dd o, od = some dd ∧ H dd = some o ∧ XdO dd fs o ∧ Out B ρ dd
def GloV (G : GC) (x : Str) (v : V) : Prop := ∃ u, (G.mg x = some u ∨ (G.mg x = none ∧ bootBuiltins x = some u)) ∧ RelV v u

mutual
def Rep (G : GC) (B : Addr → Prop) (ρ : List Addr) (H : Hp) : D → V → Prop
  | .non, v => v = .non
  | .bl b, v => v = .bl b
  | .int i, v => v = .int i
  | .str x, v => v = .str x
  | .tup ds, v => ∃ a vs, v = .ref a ∧ TupA G B ρ H a vs ∧ RepL G B ρ H ds vs
  | .lst ds, v => ∃ a vs, v = .ref a ∧ H a = some (.lst vs) ∧ Out B ρ a ∧ RepL G B ρ H ds vs
  | .rol ds, v => ∃ a vs, v = .ref a ∧ RolA G B ρ H a vs ∧ RepL G B ρ H ds vs
  | .ref n, v => ∃ a, v = .ref a ∧ ρ[n]? = some a
  | .glo x, v => GloV G x v
  | .obj c ns ds, v => ∃ a C dx fs, v = .ref a ∧ H a = some (.ins C dx fs) ∧ Out B ρ a ∧ G.mg c = some (.ref C) ∧ fs.map (·.1) = ns ∧ RepL G B ρ H ds (fs.map (·.2))
  | .dic ks ds, v => ∃ a kvs, v = .ref a ∧ H a = some (.dK kvs) ∧ Out B ρ a ∧ kvs.map (·.1) = ks ∧ RepL G B ρ H ds (kvs.map (·.2))
  | .exn c ns ds, v => ∃ a C od fs, v = .ref a ∧ ExnAt H a C od ∧ Out B ρ a ∧ G.mg c = some (.ref C) ∧ fs.map (·.1) = ns ∧ RepL G B ρ H ds (fs.map (·.2)) ∧ XdOk B ρ H od fs
def RepL (G : GC) (B : Addr → Prop) (ρ : List Addr) (H : Hp) : List D → List V → Prop
  | [], vs => vs = []
  | d :: ds, vs => ∃ v r, vs = v :: r ∧ Rep G B ρ H d v ∧ RepL G B ρ H ds r
end

/-- what a step keeps: only what stands at ρ may change; what is new at ρ' was free -/
structure Ext (ρ : List Addr) (H : Hp) (ρ' : List Addr) (H' : Hp) : Prop where
  pre : ∀ (n : Nat) (a : Addr), ρ[n]? = some a → ρ'[n]? = some a
  keep : ∀ a o, H a = some o → a ∉ ρ → H' a = some o
  new : ∀ a, a ∈ ρ' → a ∉ ρ → H a = none
section
variable {G : GC} {B : Addr → Prop} {ρ ρ' ρ2 : List Addr} {H H' H2 : Hp}
theorem Ext.refl : Ext ρ H ρ H := ⟨fun _ _ h => h, fun _ _ h _ => h, fun _ h n => absurd h n⟩
theorem Ext.mem (e : Ext ρ H ρ' H') {a : Addr} (h : a ∈ ρ) : a ∈ ρ' := by
  obtain ⟨n, hn⟩ := List.mem_iff_getElem?.mp h
  exact List.mem_iff_getElem?.mpr ⟨n, e.pre n a hn⟩
theorem Ext.out (e : Ext ρ H ρ' H') {a : Addr} {o : HO} (h : H a = some o) (n : a ∉ ρ) : a ∉ ρ' := fun z => by
  have := e.new a z n
  rw [h] at this; cases this
theorem Ext.trans (e : Ext ρ H ρ' H') (f : Ext ρ' H' ρ2 H2) : Ext ρ H ρ2 H2 where
  pre := fun n a h => f.pre n a (e.pre n a h)
  keep := fun a o h n => f.keep a o (e.keep a o h n) (e.out h n)
  new := fun a h n => by
    by_cases h1 : a ∈ ρ'
    · exact e.new a h1 n
    · have := f.new a h h1
      cases q : H a with
      | none => rfl
      | some o => rw [e.keep a o q n] at this; cases this
/-- a new object outside of ρ -/
theorem Ext.laid {p : Addr} {o : HO} (h : H p = none) : Ext ρ H ρ (upd H p o) :=
  ⟨fun _ _ h => h, fun a u q _ => by rw [upd_ne (ne_of_none q h)]; exact q, fun _ h n => absurd h n⟩
/-- a new object at ρ's end -/
theorem Ext.push {p : Addr} {o : HO} (h : H p = none) : Ext ρ H (ρ ++ [p]) (upd H p o) :=
  ⟨fun n a e => by rw [List.getElem?_append_left (List.getElem?_eq_some_iff.mp e).1]; exact e, fun a u q _ => by rw [upd_ne (ne_of_none q h)]; exact q, fun a m n => by
    rcases List.mem_append.mp m with m | m
    · exact absurd m n
    · have : a = p := by simpa using m
      rw [this]; exact h⟩
theorem Ext.write {a : Addr} {o : HO} (h : a ∈ ρ) : Ext ρ H ρ (upd H a o) :=
  ⟨fun _ _ h => h, fun b u q n => by rw [upd_ne (fun z : b = a => n (z.symm ▸ h))]; exact q, fun _ h n => absurd h n⟩
theorem Ext.of_same (s : Same H H') : Ext ρ H ρ H' := ⟨fun _ _ h => h, fun a o h _ => s a o h, fun _ h n => absurd h n⟩
theorem Ext.same (e : Ext [] H ρ' H') : Same H H' := fun a o h => e.keep a o h (by simp)
theorem Out.mono (e : Ext ρ H ρ' H') {a : Addr} {o : HO} (h : H a = some o) (x : Out B ρ a) : Out B ρ' a := ⟨e.out h x.1, x.2⟩

section
variable {B' : Addr → Prop}
theorem ExnAt.move (k : ∀ a o, Out B ρ a → H a = some o → H' a = some o ∧ Out B' ρ' a) {a C : Addr} {od : Option Addr} (x : Out B ρ a) (h : ExnAt H a C od) : ExnAt H' a C od ∧ Out B' ρ' a := by
  obtain ⟨φ, h1, h2⟩ := h
  obtain ⟨z1, z2⟩ := k a _ x h1
  exact ⟨⟨φ, z1, h2⟩, z2⟩
theorem XdOk.move (k : ∀ a o, Out B ρ a → H a = some o → H' a = some o ∧ Out B' ρ' a) {od : Option Addr} {fs : List (Str × V)} (h : XdOk B ρ H od fs) : XdOk B' ρ' H' od fs := by
  rcases h with h | ⟨dd, o, h1, h2, h3, h4⟩
  · exact .inl h
  · obtain ⟨z1, z2⟩ := k dd _ h4 h2
    exact .inr ⟨dd, o, h1, z1, h3, z2⟩
mutual
/-- what stands outside stays as it is: the data are there, too -/
theorem Rep.move (p : ∀ (n : Nat) (a : Addr), ρ[n]? = some a → ρ'[n]? = some a) (k : ∀ a o, Out B ρ a → H a = some o → H' a = some o ∧ Out B' ρ' a) : ∀ {d : D} {v : V}, Rep G B ρ H d v → Rep G B' ρ' H' d v
  | .non, _, h => by simpa only [Rep] using h
  | .bl _, _, h => by simpa only [Rep] using h
  | .int _, _, h => by simpa only [Rep] using h
  | .str _, _, h => by simpa only [Rep] using h
  | .tup ds, v, h => by
    simp only [Rep] at h ⊢
    obtain ⟨a, vs, ev, ha, hl⟩ := h
    refine ⟨a, vs, ev, ?_, RepL.move p k hl⟩
    rcases ha with ⟨h1, h2⟩ | h1
    · obtain ⟨z1, z2⟩ := k a _ h2 h1
      exact .inl ⟨z1, z2⟩
    · exact .inr h1
  | .lst ds, v, h => by
    simp only [Rep] at h ⊢
    obtain ⟨a, vs, ev, h1, h2, hl⟩ := h
    obtain ⟨z1, z2⟩ := k a _ h2 h1
    exact ⟨a, vs, ev, z1, z2, RepL.move p k hl⟩
  | .rol ds, v, h => by
    simp only [Rep] at h ⊢
    obtain ⟨a, vs, ev, ha, hl⟩ := h
    refine ⟨a, vs, ev, ?_, RepL.move p k hl⟩
    rcases ha with ⟨h1 | ⟨o, h1⟩, h2⟩ | h1
    · obtain ⟨z1, z2⟩ := k a _ h2 h1
      exact .inl ⟨.inl z1, z2⟩
    · obtain ⟨z1, z2⟩ := k a _ h2 h1
      exact .inl ⟨.inr ⟨o, z1⟩, z2⟩
    · exact .inr h1
  | .ref n, v, h => by
    simp only [Rep] at h ⊢
    obtain ⟨a, ev, h1⟩ := h
    exact ⟨a, ev, p n a h1⟩
  | .glo _, _, h => by simpa only [Rep] using h
  | .obj c ns ds, v, h => by
    simp only [Rep] at h ⊢
    obtain ⟨a, C, dx, fs, ev, h1, h2, h3, h4, hl⟩ := h
    obtain ⟨z1, z2⟩ := k a _ h2 h1
    exact ⟨a, C, dx, fs, ev, z1, z2, h3, h4, RepL.move p k hl⟩
  | .dic ks ds, v, h => by
    simp only [Rep] at h ⊢
    obtain ⟨a, kvs, ev, h1, h2, h4, hl⟩ := h
    obtain ⟨z1, z2⟩ := k a _ h2 h1
    exact ⟨a, kvs, ev, z1, z2, h4, RepL.move p k hl⟩
  | .exn c ns ds, v, h => by
    simp only [Rep] at h ⊢
    obtain ⟨a, C, od, fs, ev, h1, h2, h3, h4, hl, h5⟩ := h
    obtain ⟨z1, z2⟩ := h1.move k h2
    exact ⟨a, C, od, fs, ev, z1, z2, h3, h4, RepL.move p k hl, h5.move k⟩
theorem RepL.move (p : ∀ (n : Nat) (a : Addr), ρ[n]? = some a → ρ'[n]? = some a) (k : ∀ a o, Out B ρ a → H a = some o → H' a = some o ∧ Out B' ρ' a) : ∀ {ds : List D} {vs : List V}, RepL G B ρ H ds vs → RepL G B' ρ' H' ds vs
  | [], _, h => by simpa only [RepL] using h
  | d :: ds, vs, h => by
    simp only [RepL] at h ⊢
    obtain ⟨v, r, ev, h1, h2⟩ := h
    exact ⟨v, r, ev, Rep.move p k h1, RepL.move p k h2⟩
end
end
theorem Rep.mono (e : Ext ρ H ρ' H') {d : D} {v : V} (h : Rep G B ρ H d v) : Rep G B ρ' H' d v := h.move e.pre fun a o x q => ⟨e.keep a o q x.1, x.mono e q⟩
theorem RepL.mono (e : Ext ρ H ρ' H') {ds : List D} {vs : List V} (h : RepL G B ρ H ds vs) : RepL G B ρ' H' ds vs := h.move e.pre fun a o x q => ⟨e.keep a o q x.1, x.mono e q⟩
end

/-- what stands in the store -/
inductive Ob where
  | lst (xs : List D)
  | ins (c : Str) (ns : List Str) (xs : List D)
  | dk (ks : List Key) (xs : List D)
  | dt (ks : List (List Key)) (xs : List D)
  | tbl (x q : Str)
  deriving Inhabited
abbrev Sto := List Ob
abbrev En := List (Option D)
def ObA (G : GC) (B : Addr → Prop) (ρ : List Addr) (H : Hp) : Ob → Addr → Prop
  | .lst ds, a => ∃ vs, H a = some (.lst vs) ∧ RepL G B ρ H ds vs
  | .ins c ns ds, a => ∃ C dx fs, H a = some (.ins C dx fs) ∧ G.mg c = some (.ref C) ∧ fs.map (·.1) = ns ∧ RepL G B ρ H ds (fs.map (·.2))
  | .dk ks ds, a => ∃ kvs, H a = some (.dK kvs) ∧ kvs.map (·.1) = ks ∧ RepL G B ρ H ds (kvs.map (·.2))
  | .dt ks ds, a => ∃ kvs, H a = some (.dT kvs) ∧ kvs.map (·.1) = ks ∧ RepL G B ρ H ds (kvs.map (·.2))
  | .tbl x q, a => a = (He.cT G.K (x, none)).2 ∧ ∃ ps : Array Value, H a = some (.tbl ps) ∧ TriplesOk ps.toList ∧ ∀ (pos : Pos) (cv : Value), codeAmong pos ps.toList = some cv → ∃ c, cv = .ref c ∧ H c = some (LamX.CodeO c q) ∧ Out B ρ c
structure SOk (G : GC) (B : Addr → Prop) (S : Sto) (ρ : List Addr) (H : Hp) : Prop where
  len : ρ.length = S.length
  nd : ρ.Nodup
  b : ∀ a, B a → ∃ o, H a = some o
  dis : ∀ a, a ∈ ρ → ¬ B a
  ob : ∀ (n : Nat) (o : Ob) (a : Addr), S[n]? = some o → ρ[n]? = some a → ObA G B ρ H o a
structure EnvOk (G : GC) (B : Addr → Prop) (ρ : List Addr) (H : Hp) (env : En) (σ : St) : Prop where
  len : env.length = σ.length
  at_ : ∀ (i : Nat) (d : D), env[i]? = some (some d) → ∃ v, σ[i]? = some (some v) ∧ Rep G B ρ H d v

section
variable {G : GC} {B : Addr → Prop} {ρ ρ' ρ2 : List Addr} {H H' H2 : Hp} {S S' : Sto} {env : En} {σ : St}
theorem ObA.there {o : Ob} {a : Addr} (h : ObA G B ρ H o a) : ∃ u, H a = some u := by
  cases o with
  | lst ds => obtain ⟨_, h, _⟩ := h; exact ⟨_, h⟩
  | ins c ns ds => obtain ⟨_, _, _, h, _⟩ := h; exact ⟨_, h⟩
  | dk ks ds => obtain ⟨_, h, _⟩ := h; exact ⟨_, h⟩
  | dt ks ds => obtain ⟨_, h, _⟩ := h; exact ⟨_, h⟩
  | tbl x q => obtain ⟨_, _, h, _⟩ := h; exact ⟨_, h⟩
theorem ObA.no_tup {o : Ob} {a : Addr} (h : ObA G B ρ H o a) : ∀ vs, H a ≠ some (.tup vs) := fun vs z => by
  cases o with
  | lst ds => obtain ⟨_, h, _⟩ := h; rw [z] at h; cases h
  | ins c ns ds => obtain ⟨_, _, _, h, _⟩ := h; rw [z] at h; cases h
  | dk ks ds => obtain ⟨_, h, _⟩ := h; rw [z] at h; cases h
  | dt ks ds => obtain ⟨_, h, _⟩ := h; rw [z] at h; cases h
  | tbl x q => obtain ⟨_, _, h, _⟩ := h; rw [z] at h; cases h
theorem SOk.there (s : SOk G B S ρ H) {a : Addr} (h : a ∈ ρ) : ∃ o, H a = some o := by
  obtain ⟨n, hn⟩ := List.mem_iff_getElem?.mp h
  have hl : n < S.length := by rw [← s.len]; exact (List.getElem?_eq_some_iff.mp hn).1
  exact (s.ob n S[n] a (by simp [hl]) hn).there
theorem SOk.fresh (s : SOk G B S ρ H) {p : Addr} (h : H p = none) : Out B ρ p := by
  constructor
  · intro m
    obtain ⟨o, e⟩ := s.there m
    rw [h] at e; cases e
  · intro b
    obtain ⟨o, e⟩ := s.b p b
    rw [h] at e; cases e
theorem EnvOk.mono (x : EnvOk G B ρ H env σ) (e : Ext ρ H ρ' H') : EnvOk G B ρ' H' env σ :=
  ⟨x.len, fun i d h => let ⟨v, h1, h2⟩ := x.at_ i d h; ⟨v, h1, h2.mono e⟩⟩
theorem EnvOk.set (x : EnvOk G B ρ H env σ) {d : D} {v : V} (r : Rep G B ρ H d v) (i : Nat) : EnvOk G B ρ H (env.set i (some d)) (σ.set i (some v)) := by
  refine ⟨by rw [List.length_set, List.length_set]; exact x.len, fun j d' h => ?_⟩
  by_cases hj : i = j
  · subst hj
    have hi : i < env.length := by
      have := (List.getElem?_eq_some_iff.mp h).1
      rwa [List.length_set] at this
    rw [List.getElem?_set_self hi] at h
    obtain rfl : d = d' := by injection h with h; injection h
    exact ⟨v, List.getElem?_set_self (by rw [← x.len]; exact hi), r⟩
  · rw [List.getElem?_set_ne hj] at h
    obtain ⟨v', h1, h2⟩ := x.at_ j d' h
    exact ⟨v', by rw [List.getElem?_set_ne hj]; exact h1, h2⟩
theorem ObA.move {B' : Addr → Prop} (p : ∀ (n : Nat) (a : Addr), ρ[n]? = some a → ρ'[n]? = some a) (k : ∀ a o, Out B ρ a → H a = some o → H' a = some o ∧ Out B' ρ' a) {o : Ob} {a : Addr} (h : ObA G B ρ H o a) (z : ∀ u, H a = some u → H' a = some u) : ObA G B' ρ' H' o a := by
  cases o with
  | lst ds => obtain ⟨vs, h, r⟩ := h; exact ⟨vs, z _ h, r.move p k⟩
  | ins c ns ds => obtain ⟨C, dx, fs, h, g, f, r⟩ := h; exact ⟨C, dx, fs, z _ h, g, f, r.move p k⟩
  | dk ks ds => obtain ⟨kvs, h, f, r⟩ := h; exact ⟨kvs, z _ h, f, r.move p k⟩
  | dt ks ds => obtain ⟨kvs, h, f, r⟩ := h; exact ⟨kvs, z _ h, f, r.move p k⟩
  | tbl x q =>
    obtain ⟨ea, ps, h, tr, cs⟩ := h
    refine ⟨ea, ps, z _ h, tr, fun pos cv hc => ?_⟩
    obtain ⟨c, e, h1, h2⟩ := cs pos cv hc
    obtain ⟨z1, z2⟩ := k c _ h2 h1
    exact ⟨c, e, z1, z2⟩
theorem ObA.mono (e : Ext ρ H ρ' H') {o : Ob} {a : Addr} (h : ObA G B ρ H o a) (k : H' a = H a) : ObA G B ρ' H' o a :=
  h.move e.pre (fun a o x q => ⟨e.keep a o q x.1, x.mono e q⟩) fun u q => by rw [k]; exact q
/-- nothing that stood has changed -/
theorem SOk.same (s : SOk G B S ρ H) (k : Same H H') : SOk G B S ρ H' :=
  ⟨s.len, s.nd, fun a h => let ⟨o, e⟩ := s.b a h; ⟨o, k a o e⟩, s.dis, fun n o a h1 h2 => by
    have q := s.ob n o a h1 h2
    obtain ⟨u, hu⟩ := q.there
    exact q.mono (Ext.of_same k) (by rw [k a u hu, hu])⟩
theorem same_laid {p : Addr} {o : HO} (h : H p = none) : Same H (upd H p o) := fun a u q => by rw [upd_ne (ne_of_none q h)]; exact q
theorem SOk.laid (s : SOk G B S ρ H) {p : Addr} {o : HO} (h : H p = none) : SOk G B S ρ (upd H p o) := s.same (same_laid h)
/-- a new object of the store -/
theorem SOk.push (s : SOk G B S ρ H) {p : Addr} {o : HO} {ob : Ob} (h : H p = none) (new : ObA G B (ρ ++ [p]) (upd H p o) ob p) : SOk G B (S ++ [ob]) (ρ ++ [p]) (upd H p o) := by
  have hp := s.fresh h
  refine ⟨by rw [List.length_append, List.length_append, s.len]; rfl, ?_, fun a b => ?_, fun a m => ?_, fun n u a h1 h2 => ?_⟩
  · rw [List.nodup_append]
    exact ⟨s.nd, by simp, fun a ha b hb => by
      have : b = p := by simpa using hb
      subst this
      exact fun z => hp.1 (z ▸ ha)⟩
  · obtain ⟨u, e⟩ := s.b a b
    exact ⟨u, by rw [upd_ne (ne_of_none e h)]; exact e⟩
  · rcases List.mem_append.mp m with m | m
    · exact s.dis a m
    · have : a = p := by simpa using m
      rw [this]; exact hp.2
  · by_cases hn : n < S.length
    · rw [List.getElem?_append_left hn] at h1
      rw [List.getElem?_append_left (by rw [s.len]; exact hn)] at h2
      have q := s.ob n u a h1 h2
      obtain ⟨w, hw⟩ := q.there
      exact q.mono (Ext.push h) (upd_ne (ne_of_none hw h))
    · have h3 : n = S.length := by
        have := (List.getElem?_eq_some_iff.mp h1).1
        rw [List.length_append] at this
        have e1 : ([ob] : List Ob).length = 1 := rfl
        omega
      subst h3
      rw [List.getElem?_append_right (Nat.le_refl _)] at h1
      rw [List.getElem?_append_right (by rw [s.len]; exact Nat.le_refl _), s.len] at h2
      simp only [Nat.sub_self, List.getElem?_cons_zero, Option.some.injEq] at h1 h2
      subst h1 h2
      exact new
/-- an object of the store is written -/
theorem SOk.write (s : SOk G B S ρ H) {n : Nat} {a : Addr} {o : HO} {ob : Ob} (hn : ρ[n]? = some a) (new : ObA G B ρ (upd H a o) ob a) : SOk G B (S.set n ob) ρ (upd H a o) := by
  have hm : a ∈ ρ := List.mem_iff_getElem?.mpr ⟨n, hn⟩
  refine ⟨by rw [List.length_set]; exact s.len, s.nd, fun b hb => ?_, s.dis, fun j u b h1 h2 => ?_⟩
  · by_cases e : b = a
    · exact ⟨o, by rw [e, upd_same]⟩
    · obtain ⟨u, q⟩ := s.b b hb
      exact ⟨u, by rw [upd_ne e]; exact q⟩
  · by_cases hj : n = j
    · subst hj
      rw [hn] at h2; cases h2
      have hl : n < S.length := by rw [← s.len]; exact (List.getElem?_eq_some_iff.mp hn).1
      rw [List.getElem?_set_self hl] at h1
      cases h1
      exact new
    · rw [List.getElem?_set_ne hj] at h1
      have hne : b ≠ a := fun z => by
        subst z
        obtain ⟨l1, e1⟩ := List.getElem?_eq_some_iff.mp hn
        obtain ⟨l2, e2⟩ := List.getElem?_eq_some_iff.mp h2
        exact hj ((List.getElem_inj s.nd).mp (e1.trans e2.symm))
      exact (s.ob j u b h1 h2).mono (Ext.write hm) (upd_ne hne)
end

/-! ### plain functions -/
inductive Rs (α : Type) where
  | ok (a : α) (S : Sto)
  | exc (c : Str) (p : Option (List Str × List D)) (S : Sto)
  | err
abbrev M := En → Sto → Rs D
abbrev ML := En → Sto → Rs (List D)
abbrev MT := En → Sto → Rs Bool
inductive Fl where
  | nx (e : En) | rt (d : D) | bk (e : En) | ct (e : En) | xc (e : En) (c : Str) (p : Option (List Str × List D))
abbrev MS := En → Sto → Option (Fl × Sto)

def Rs.bind {α β : Type} (x : Rs α) (f : α → Sto → Rs β) : Rs β :=
  match x with
  | .ok a S => f a S
  | .exc c p S => .exc c p S
  | .err => .err
@[simp] theorem Rs.bind_ok {α β : Type} (a : α) (S : Sto) (f : α → Sto → Rs β) : (Rs.ok a S).bind f = f a S := rfl
@[simp] theorem Rs.bind_exc {α β : Type} (c : Str) (p : Option (List Str × List D)) (S : Sto) (f : α → Sto → Rs β) : (Rs.exc c p S : Rs α).bind f = .exc c p S := rfl
@[simp] theorem Rs.bind_err {α β : Type} (f : α → Sto → Rs β) : (Rs.err : Rs α).bind f = .err := rfl
def Rs.of {α : Type} (o : Option α) (S : Sto) : Rs α := match o with | some a => .ok a S | none => .err
@[simp] theorem Rs.of_some {α : Type} (a : α) (S : Sto) : Rs.of (some a) S = .ok a S := rfl
@[simp] theorem Rs.of_none {α : Type} (S : Sto) : Rs.of (none : Option α) S = .err := rfl

/-! ### readings made of plain functions -/
abbrev WX := Value → Option Addr → St → Hp → Prop
/-- an exception of the class named c with these fields stands ready -/
def ExcA (G : GC) (B : Addr → Prop) (ρ : List Addr) (H : Hp) (c : Str) (p : Option (List Str × List D)) (C : Addr) (d : Option Addr) : Prop :=
  G.mg c = some (.ref C) ∧ match p with
  | none => d = none
  | some (ns, ds) => ∃ dx fs, d = some dx ∧ H dx = some (.xd fs) ∧ Out B ρ dx ∧ fs.map (·.1) = ns ∧ RepL G B ρ H ds (fs.map (·.2))
/-- what must hold behind a plain function's result -/
def Post {α : Type} (G : GC) (B : Addr → Prop) (ρ : List Addr) (H : Hp) (r : Rs α) (k : α → Sto → List Addr → Hp → Prop) (x : Addr → Option Addr → Hp → Prop) : Prop :=
  match r with
  | .ok a S' => ∀ ρ' H', Ext ρ H ρ' H' → SOk G B S' ρ' H' → k a S' ρ' H'
  | .exc c p S' => ∀ ρ' H' C d, Ext ρ H ρ' H' → SOk G B S' ρ' H' → ExcA G B ρ' H' c p C d → x C d H'
  | .err => False
theorem Post.mono {α : Type} {G : GC} {B : Addr → Prop} {ρ : List Addr} {H : Hp} {r : Rs α} {k k' : α → Sto → List Addr → Hp → Prop} {x x' : Addr → Option Addr → Hp → Prop} (h : Post G B ρ H r k x)
    (hk : ∀ a S' ρ' H', Ext ρ H ρ' H' → SOk G B S' ρ' H' → k a S' ρ' H' → k' a S' ρ' H') (hx : ∀ C d H', x C d H' → x' C d H') : Post G B ρ H r k' x' := by
  cases r with
  | ok a S' => exact fun ρ' H' e s => hk a S' ρ' H' e s (h ρ' H' e s)
  | exc c p S' => exact fun ρ' H' C d e s q => hx C d H' (h ρ' H' C d e s q)
  | err => exact h
/-- one after another -/
theorem Post.bind {α β : Type} {G : GC} {B : Addr → Prop} {ρ : List Addr} {H : Hp} {r : Rs α} {f : α → Sto → Rs β} {k : β → Sto → List Addr → Hp → Prop} {x : Addr → Option Addr → Hp → Prop}
    (h : Post G B ρ H (r.bind f) k x) : Post G B ρ H r (fun a S' ρ' H' => Post G B ρ' H' (f a S') k x) x := by
  cases r with
  | ok a S' =>
    intro ρ' H' e s
    have h : Post G B ρ H (f a S') k x := h
    show Post G B ρ' H' (f a S') k x
    cases q : f a S' with
    | ok b S2 => rw [q] at h; exact fun ρ2 H2 e2 s2 => h ρ2 H2 (e.trans e2) s2
    | exc c p S2 => rw [q] at h; exact fun ρ2 H2 C d e2 s2 z => h ρ2 H2 C d (e.trans e2) s2 z
    | err => rw [q] at h; exact h
  | exc c p S' => exact h
  | err => exact h

section
variable (G : GC) (W : WX)
def tE (m : M) : TE := fun σ H Q => ∃ B env S ρ, EnvOk G B ρ H env σ ∧ SOk G B S ρ H ∧
  Post G B ρ H (m env S) (fun d _ ρ' H' => ∀ v, Rep G B ρ' H' d v → Q v H') fun C d H' => W (.ref C) d σ H'
def tA (m : ML) : TA := fun σ H Q => ∃ B env S ρ, EnvOk G B ρ H env σ ∧ SOk G B S ρ H ∧
  Post G B ρ H (m env S) (fun ds _ ρ' H' => ∀ vs, RepL G B ρ' H' ds vs → Q vs H') fun C d H' => W (.ref C) d σ H'
def tT (m : MT) : TT := fun σ H Q => ∃ B env S ρ, EnvOk G B ρ H env σ ∧ SOk G B S ρ H ∧
  Post G B ρ H (m env S) (fun b _ _ H' => Q b H') fun C d H' => W (.ref C) d σ H'
def PostS (B : Addr → Prop) (ρ : List Addr) (H : Hp) (r : Option (Fl × Sto)) (D : Ends) : Prop :=
  match r with
  | none => False
  | some (.nx e', S') => ∀ σ' ρ' H', Ext ρ H ρ' H' → SOk G B S' ρ' H' → EnvOk G B ρ' H' e' σ' → D.nx σ' H'
  | some (.bk e', S') => ∀ σ' ρ' H', Ext ρ H ρ' H' → SOk G B S' ρ' H' → EnvOk G B ρ' H' e' σ' → D.bk σ' H'
  | some (.ct e', S') => ∀ σ' ρ' H', Ext ρ H ρ' H' → SOk G B S' ρ' H' → EnvOk G B ρ' H' e' σ' → D.ct σ' H'
  | some (.rt d, S') => ∀ ρ' H' v, Ext ρ H ρ' H' → SOk G B S' ρ' H' → Rep G B ρ' H' d v → D.rt v H'
  | some (.xc e' c p, S') => ∀ σ' ρ' H' C d, Ext ρ H ρ' H' → SOk G B S' ρ' H' → EnvOk G B ρ' H' e' σ' → ExcA G B ρ' H' c p C d → W (.ref C) d σ' H'
def tS (m : MS) : TS := fun D σ H => ∃ B env S ρ, EnvOk G B ρ H env σ ∧ SOk G B S ρ H ∧ PostS G W B ρ H (m env S) D
end
theorem PostS.ext {G : GC} {W : WX} {B : Addr → Prop} {ρ ρ1 : List Addr} {H H1 : Hp} {r : Option (Fl × Sto)} {D : Ends} (h : PostS G W B ρ H r D) (e : Ext ρ H ρ1 H1) : PostS G W B ρ1 H1 r D := by
  cases r with
  | none => exact h
  | some r =>
    obtain ⟨f, S'⟩ := r
    cases f with
    | nx e' => exact fun σ' ρ' H' x => h σ' ρ' H' (e.trans x)
    | bk e' => exact fun σ' ρ' H' x => h σ' ρ' H' (e.trans x)
    | ct e' => exact fun σ' ρ' H' x => h σ' ρ' H' (e.trans x)
    | rt d => exact fun ρ' H' v x => h ρ' H' v (e.trans x)
    | xc e' c p => exact fun σ' ρ' H' C d x => h σ' ρ' H' C d (e.trans x)
/-- an expression, arguments, a test, a statement, a block are what the plain function says -/
abbrev SE (X : Cx) (W : WX) (x : Expr) (m : M) : Prop := PE X x (tE ⟨X.K, X.mg⟩ W m)
abbrev SA (X : Cx) (W : WX) (xs : List Expr) (m : ML) : Prop := PA X xs (tA ⟨X.K, X.mg⟩ W m)
abbrev ST (X : Cx) (W : WX) (x : Expr) (m : MT) : Prop := PT X x (tT ⟨X.K, X.mg⟩ W m)
abbrev SS (X : Cx) (W : WX) (st : Stmt) (m : MS) : Prop := PS X st (tS ⟨X.K, X.mg⟩ W m)
abbrev SSs (X : Cx) (W : WX) (st : List Stmt) (m : MS) : Prop := PSs X st (tS ⟨X.K, X.mg⟩ W m)

/-! ### weakening of readings -/
section
variable {X : Cx}
theorem PE.imp {x : Expr} {t u : TE} (h : PE X x t) (hi : ∀ σ H Q, u σ H Q → t σ H Q) : PE X x u := ⟨fun pins s σ H Q I q => h.run pins s σ H Q I (hi σ H Q q)⟩
theorem PT.imp {x : Expr} {t u : TT} (h : PT X x t) (hi : ∀ σ H Q, u σ H Q → t σ H Q) : PT X x u := ⟨fun pins s σ H Q I q => h.run pins s σ H Q I (hi σ H Q q)⟩
theorem PW.imp {x : Expr} {t u : TT} (h : PW X x t) (hi : ∀ σ H Q, u σ H Q → t σ H Q) : PW X x u := ⟨fun wh pins s σ H Q I q => h.run wh pins s σ H Q I (hi σ H Q q)⟩
theorem PA.imp {xs : List Expr} {t u : TA} (h : PA X xs t) (hi : ∀ σ H Q, u σ H Q → t σ H Q) : PA X xs u := ⟨fun pos pins s σ H Q I q => h.run pos pins s σ H Q I (hi σ H Q q)⟩
theorem PS.imp {x : Stmt} {t u : TS} (h : PS X x t) (hi : ∀ D σ H, u D σ H → t D σ H) : PS X x u := ⟨fun pins s σ H D I q => h.run pins s σ H D I (hi D σ H q)⟩
theorem PSs.imp {x : List Stmt} {t u : TS} (h : PSs X x t) (hi : ∀ D σ H, u D σ H → t D σ H) : PSs X x u := ⟨fun pins s σ H D I q => h.run pins s σ H D I (hi D σ H q)⟩
end
end Ev

/-! Ev, part 2: names, constants, operators, comparisons, displays, subscripts by plain functions. -/
namespace Ev
open PySem L2
section
variable {X : Cx} {W : WX}
abbrev Cx.G (X : Cx) : GC := ⟨X.K, X.mg⟩

/-! ### names, constants -/
def mVar (i : Nat) : M := fun env S => match env[i]? with | some (some d) => .ok d S | _ => .err
theorem se_var (i : Nat) {x : Str} {pos : Pos} (hN : X.N[i]? = some x := by rfl) (hv : Vis X.env.scope x := by first | exact Or.inl rfl | exact Or.inr (Or.inl rfl) | exact Or.inr (Or.inr rfl)) (hd : (x == ("__debug__" : Str)) = false := by decide)
    (hcd : (x == ("__classdict__" : Str)) = false := by decide) : SE X W (.Name x pos) (mVar i) := by
  refine PE.imp (pe_var hN hv hd hcd) fun σ H Q h => ?_
  obtain ⟨B, env, S, ρ, eo, so, P⟩ := h
  unfold mVar at P
  split at P
  · rename_i d he
    obtain ⟨v, h1, h2⟩ := eo.at_ i d he
    exact ⟨v, h1, P ρ H Ext.refl so v h2⟩
  · exact P.elim
def mC (d : D) : M := fun _ S => .ok d S
theorem tE_C {G : GC} {d : D} {v : V} (r : ∀ B ρ H, Rep G B ρ H d v) : ∀ σ H Q, tE G W (mC d) σ H Q → tC v σ H Q := fun σ H Q h => by
  obtain ⟨B, env, S, ρ, eo, so, P⟩ := h
  exact P ρ H Ext.refl so v (r B ρ H)
theorem se_int {i j pos} : SE X W (.Constant (.int i) j pos) (mC (.int i)) := PE.imp pe_int (tE_C fun _ _ _ => by simp only [Rep])
theorem se_bl {b j pos} : SE X W (.Constant (.bool b) j pos) (mC (.bl b)) := PE.imp pe_bl (tE_C fun _ _ _ => by simp only [Rep])
theorem se_non {j pos} : SE X W (.Constant .none j pos) (mC .non) := PE.imp pe_non (tE_C fun _ _ _ => by simp only [Rep])
theorem se_str {x j pos} : SE X W (.Constant (.str x) j pos) (mC (.str x)) := PE.imp pe_str (tE_C fun _ _ _ => by simp only [Rep])
/-- a module's constant whose data are known -/
structure KD (K : PySem.W.Frag) (mg : Str → Option Value) (x : Str) (d : D) : Prop where
  ex : ∃ u v, mg x = some u ∧ RelV v u ∧ ∀ B ρ H, Rep ⟨K, mg⟩ B ρ H d v
theorem se_glob {x : Str} {d : D} {pos : Pos} (k : KD X.K X.mg x d) (hg : Gl X x := by rfl) (hd : (x == ("__debug__" : Str)) = false := by decide) : SE X W (.Name x pos) (mC d) := by
  obtain ⟨u, v, hm, r, hr⟩ := k.ex
  exact PE.imp (pe_glob hg hm r hd) (tE_C hr)
/-- a class or a def of the module, as a value -/
theorem se_glo {x : Str} {u : Value} {v : V} {pos : Pos} (hm : X.mg x = some u) (r : RelV v u) (hg : Gl X x := by rfl) (hd : (x == ("__debug__" : Str)) = false := by decide) : SE X W (.Name x pos) (mC (.glo x)) :=
  PE.imp (pe_glob hg hm r hd) (tE_C fun _ _ _ => by simp only [Rep]; exact ⟨u, .inl hm, r⟩)
theorem se_blt {x : Str} {u : Value} {v : V} {pos : Pos} (hm : X.mg x = none) (hv : bootBuiltins x = some u) (r : RelV v u) (hg : Gl X x := by rfl) (hn : x ≠ "__name__" := by decide) (hd : (x == ("__debug__" : Str)) = false := by decide) : SE X W (.Name x pos) (mC (.glo x)) :=
  PE.imp (pe_bltn hg hm hv r hn hd) (tE_C fun _ _ _ => by simp only [Rep]; exact ⟨u, .inr ⟨hm, hv⟩, r⟩)

/-! ### two operands -/
/-- an operation on plain data, in the heap -/
def rOf (G : GC) (sem : Sto → D → D → Option D) : R2 := fun x y H Q => ∃ B S ρ dx dy, SOk G B S ρ H ∧ Rep G B ρ H dx x ∧ Rep G B ρ H dy y ∧ ∃ d, sem S dx dy = some d ∧
  ∀ ρ' H' v, Ext ρ H ρ' H' → SOk G B S ρ' H' → Rep G B ρ' H' d v → Q v H'
def mOp (sem : Sto → D → D → Option D) (a b : M) : M := fun env S => (a env S).bind fun x S1 => (b env S1).bind fun y S2 => Rs.of (sem S2 x y) S2
theorem tE_op {G : GC} {sem : Sto → D → D → Option D} {a b : M} : ∀ σ H Q, tE G W (mOp sem a b) σ H Q → tOp (rOf G sem) (tE G W a) (tE G W b) σ H Q := fun σ H Q h => by
  obtain ⟨B, env, S, ρ, eo, so, P⟩ := h
  refine ⟨B, env, S, ρ, eo, so, Post.mono P.bind (fun dx S1 ρ1 H1 e1 s1 P1 vx rx => ⟨B, env, S1, ρ1, eo.mono e1, s1, Post.mono P1.bind (fun dy S2 ρ2 H2 e2 s2 P2 vy ry => ?_) (fun _ _ _ z => z)⟩) (fun _ _ _ z => z)⟩
  cases q : sem S2 dx dy with
  | none => rw [q] at P2; exact P2.elim
  | some d =>
    rw [q] at P2
    exact ⟨B, S2, ρ2, dx, dy, s2, rx.mono e2, ry, d, q, fun ρ' H' v e s r => P2 ρ' H' e s v r⟩
/-- the operation f does what sem says -/
abbrev VOp (X : Cx) (f : Value → Value → Sem Value) (sem : Sto → D → D → Option D) : Prop := OpR X f (rOf ⟨X.K, X.mg⟩ sem)
theorem se_op {op : Operator} {sem : Sto → D → D → Option D} {a b : Expr} {ma mb : M} {pos : Pos} (ho : VOp X (binaryOp op) sem) (ha : SE X W a ma) (hb : SE X W b mb) : SE X W (.BinOp a op b pos) (mOp sem ma mb) :=
  PE.imp (pe_op ho ha hb) tE_op
/-- the items of a list -/
def lstOf (S : Sto) : D → Option (List D)
  | .lst ds => some ds
  | .rol ds => some ds
  | .ref n => match S[n]? with | some (.lst ds) => some ds | _ => none
  | _ => none
/-- .. of one that is no longer written, or ours -/
def lstM (S : Sto) : D → Option (List D)
  | .lst ds => some ds
  | .ref n => match S[n]? with | some (.lst ds) => some ds | _ => none
  | _ => none
section
variable {G : GC} {B : Addr → Prop} {ρ : List Addr} {H : Hp} {S : Sto} {d : D} {ds : List D} {v : V}
theorem ref_get (so : SOk G B S ρ H) {n : Nat} {o : Ob} {a : Addr} (h : S[n]? = some o) (r : ρ[n]? = some a) : ObA G B ρ H o a := so.ob n o a h r
theorem lstM_ok (so : SOk G B S ρ H) (r : Rep G B ρ H d v) (h : lstM S d = some ds) : ∃ a vs, v = .ref a ∧ H a = some (.lst vs) ∧ RepL G B ρ H ds vs := by
  unfold lstM at h
  split at h
  · cases h
    simp only [Rep] at r
    obtain ⟨a, vs, e, h1, _, h2⟩ := r
    exact ⟨a, vs, e, h1, h2⟩
  · split at h
    · rename_i q
      cases h
      simp only [Rep] at r
      obtain ⟨a, e, h1⟩ := r
      obtain ⟨vs, h2, h3⟩ := so.ob _ _ _ q h1
      exact ⟨a, vs, e, h2, h3⟩
    · cases h
  · cases h
theorem lstOf_ok {K : PySem.W.Frag} {mg : Str → Option Value} (so : SOk ⟨K, mg⟩ B S ρ H) (r : Rep ⟨K, mg⟩ B ρ H d v) (h : lstOf S d = some ds) : ∃ a vs, v = .ref a ∧ SqL K H a vs ∧ RepL ⟨K, mg⟩ B ρ H ds vs := by
  unfold lstOf at h
  split at h
  · cases h
    simp only [Rep] at r
    obtain ⟨a, vs, e, h1, _, h2⟩ := r
    exact ⟨a, vs, e, SqL.of h1, h2⟩
  · cases h
    simp only [Rep] at r
    obtain ⟨a, vs, e, h1 | h1, h2⟩ := r
    · exact ⟨a, vs, e, .inl h1.1, h2⟩
    · exact ⟨a, vs, e, .inr h1, h2⟩
  · split at h
    · rename_i q
      cases h
      simp only [Rep] at r
      obtain ⟨a, e, h1⟩ := r
      obtain ⟨vs, h2, h3⟩ := so.ob _ _ _ q h1
      exact ⟨a, vs, e, SqL.of h2, h3⟩
    · cases h
  · cases h
theorem tup_ok {K : PySem.W.Frag} {mg : Str → Option Value} (r : Rep ⟨K, mg⟩ B ρ H (.tup ds) v) : ∃ a vs, v = .ref a ∧ SqT K H a vs ∧ RepL ⟨K, mg⟩ B ρ H ds vs := by
  simp only [Rep] at r
  obtain ⟨a, vs, e, h1 | h1, h2⟩ := r
  · exact ⟨a, vs, e, SqT.of h1.1, h2⟩
  · exact ⟨a, vs, e, .inr h1, h2⟩
theorem RepL.length : ∀ {ds : List D} {vs : List V}, RepL G B ρ H ds vs → ds.length = vs.length
  | [], _, h => by simp only [RepL] at h; subst h; rfl
  | d :: ds, _, h => by
    simp only [RepL] at h
    obtain ⟨v, r, e, _, h2⟩ := h
    subst e
    simp [RepL.length h2]
theorem RepL.append : ∀ {ds es : List D} {vs ws : List V}, RepL G B ρ H ds vs → RepL G B ρ H es ws → RepL G B ρ H (ds ++ es) (vs ++ ws)
  | [], _, _, _, h, h' => by simp only [RepL] at h; subst h; exact h'
  | d :: ds, es, _, ws, h, h' => by
    simp only [RepL] at h
    obtain ⟨v, r, e, h1, h2⟩ := h
    subst e
    simp only [List.cons_append, RepL]
    exact ⟨v, r ++ ws, rfl, h1, RepL.append h2 h'⟩
theorem RepL.get : ∀ {ds : List D} {vs : List V} {i : Nat} {d : D}, RepL G B ρ H ds vs → ds[i]? = some d → ∃ v, vs[i]? = some v ∧ Rep G B ρ H d v
  | [], _, _, _, _, h => by simp at h
  | d :: ds, _, 0, d', h, e => by
    simp only [RepL] at h
    obtain ⟨v, r, e', h1, h2⟩ := h
    subst e'
    simp only [List.getElem?_cons_zero, Option.some.injEq] at e
    subst e
    exact ⟨v, rfl, h1⟩
  | d :: ds, _, i + 1, d', h, e => by
    simp only [RepL] at h
    obtain ⟨v, r, e', h1, h2⟩ := h
    subst e'
    simp only [List.getElem?_cons_succ] at e ⊢
    exact RepL.get h2 e
theorem RepL.set : ∀ {ds : List D} {vs : List V} {d : D} {v : V} (i : Nat), RepL G B ρ H ds vs → Rep G B ρ H d v → RepL G B ρ H (ds.set i d) (vs.set i v)
  | [], _, _, _, i, h, r => by simp only [RepL] at h; subst h; simp only [List.set_nil, RepL]
  | d :: ds, _, d', v', i, h, r => by
    simp only [RepL] at h
    obtain ⟨v, w, e', h1, h2⟩ := h
    subst e'
    cases i with
    | zero => simp only [List.set_cons_zero, RepL]; exact ⟨_, _, rfl, r, h2⟩
    | succ i => simp only [List.set_cons_succ, RepL]; exact ⟨_, _, rfl, h1, RepL.set i h2 r⟩
theorem RepL.take : ∀ {ds : List D} {vs : List V} (n : Nat), RepL G B ρ H ds vs → RepL G B ρ H (ds.take n) (vs.take n)
  | ds, vs, 0, h => by simp only [List.take_zero, RepL]
  | [], _, n + 1, h => by simp only [RepL] at h; subst h; simp only [List.take_nil, RepL]
  | d :: ds, _, n + 1, h => by
    simp only [RepL] at h
    obtain ⟨v, w, e', h1, h2⟩ := h
    subst e'
    simp only [List.take_succ_cons, RepL]
    exact ⟨_, _, rfl, h1, RepL.take n h2⟩
theorem RepL.drop : ∀ {ds : List D} {vs : List V} (n : Nat), RepL G B ρ H ds vs → RepL G B ρ H (ds.drop n) (vs.drop n)
  | ds, vs, 0, h => by simpa only [List.drop_zero] using h
  | [], _, n + 1, h => by simp only [RepL] at h; subst h; simp only [List.drop_nil, RepL]
  | d :: ds, _, n + 1, h => by
    simp only [RepL] at h
    obtain ⟨v, w, e', h1, h2⟩ := h
    subst e'
    simp only [List.drop_succ_cons]
    exact RepL.drop n h2
theorem RepL.rep {vs : List V} (h : RepL G B ρ H ds vs) : ∀ n : Nat, RepL G B ρ H (List.replicate n ds).flatten (List.replicate n vs).flatten
  | 0 => by simp only [List.replicate_zero, List.flatten_nil, RepL]
  | n + 1 => by
    simp only [List.replicate_succ, List.flatten_cons]
    exact RepL.append h (RepL.rep h n)
theorem RepL.nil_iff {vs : List V} (h : RepL G B ρ H ds vs) : ds = [] ↔ vs = [] := by
  have e := h.length
  constructor
  · intro z; subst z; exact List.length_eq_zero_iff.mp e.symm
  · intro z; subst z; exact List.length_eq_zero_iff.mp e
theorem rep_tup {a : Addr} {vs : List V} (h : H a = some (.tup vs)) (o : Out B ρ a) (r : RepL G B ρ H ds vs) : Rep G B ρ H (.tup ds) (.ref a) := by
  simp only [Rep]; exact ⟨a, vs, rfl, .inl ⟨h, o⟩, r⟩
theorem rep_lst {a : Addr} {vs : List V} (h : H a = some (.lst vs)) (o : Out B ρ a) (r : RepL G B ρ H ds vs) : Rep G B ρ H (.lst ds) (.ref a) := by
  simp only [Rep]; exact ⟨a, vs, rfl, h, o, r⟩
end
/-- a new list, a new tuple is what the store does not know of -/
theorem new_lst {G : GC} {B : Addr → Prop} {ρ : List Addr} {H : Hp} {S : Sto} {ds : List D} {vs : List V} (so : SOk G B S ρ H) (r : RepL G B ρ H ds vs) {p : Addr} (hp : H p = none) : Rep G B ρ (upd H p (.lst vs)) (.lst ds) (.ref p) :=
  rep_lst upd_same (so.fresh hp) (r.mono (Ext.laid hp))
theorem new_tup {G : GC} {B : Addr → Prop} {ρ : List Addr} {H : Hp} {S : Sto} {ds : List D} {vs : List V} (so : SOk G B S ρ H) (r : RepL G B ρ H ds vs) {p : Addr} (hp : H p = none) : Rep G B ρ (upd H p (.tup vs)) (.tup ds) (.ref p) :=
  rep_tup upd_same (so.fresh hp) (r.mono (Ext.laid hp))

/-! ### arithmetic -/
/-- lengths that are let -/
def room (n : Nat) : Bool := Nat.ble n 16000000
theorem room_le {n : Nat} (h : room n = true) : n ≤ sizeLine := by
  have := Nat.le_of_ble_eq_true h
  rw [sizeLine_eq]; omega
def sAdd (S : Sto) (x y : D) : Option D :=
  match x, y with
  | .int i, .int j => some (.int (i + j))
  | .str a, .str b => if room (a.length + b.length) then some (.str (a ++ b)) else none
  | .tup xs, .tup ys => if room (xs.length + ys.length) then some (.tup (xs ++ ys)) else none
  | x, y => match lstM S x, lstM S y with
    | some xs, some ys => if room (xs.length + ys.length) then some (.lst (xs ++ ys)) else none
    | _, _ => none
theorem op_sAdd : VOp X (binaryOp .Add) sAdd := by
  intro pins s σ H x y v u Q I rx ry h
  obtain ⟨B, S, ρ, dx, dy, so, hx, hy, d, he, k⟩ := h
  unfold sAdd at he
  split at he
  · cases he
    simp only [Rep] at hx hy
    subst hx hy
    exact op_add pins s σ H _ _ v u Q I rx ry ⟨_, _, rfl, rfl, k ρ H _ Ext.refl so (by simp only [Rep])⟩
  · split at he
    · rename_i hz
      cases he
      simp only [Rep] at hx hy
      subst hx hy
      exact op_add_str pins s σ H _ _ v u Q I rx ry ⟨_, _, rfl, rfl, room_le hz, k ρ H _ Ext.refl so (by simp only [Rep])⟩
    · cases he
  · rename_i xs ys
    split at he
    · rename_i hz
      cases he
      have hx0 := hx
      have hy0 := hy
      obtain ⟨a, vs, rfl, h1, h2⟩ := tup_ok hx
      obtain ⟨b, ws, rfl, h3, h4⟩ := tup_ok hy
      refine op_catA pins s σ H _ _ v u Q I rx ry ⟨a, b, vs, ws, rfl, rfl, h1, h3, by rw [← h2.length, ← h4.length]; exact room_le hz, fun e => ?_, fun e1 e2 => ?_, fun e1 e2 p hp => ?_⟩
      · have e' := h2.nil_iff.mpr e
        subst e'
        exact k ρ H _ Ext.refl so hy0
      · have e' := h4.nil_iff.mpr e2
        subst e'
        exact k ρ H _ Ext.refl so (by rw [List.append_nil]; exact hx0)
      · exact k ρ _ _ (Ext.laid hp) (so.laid hp) (new_tup so (h2.append h4) hp)
    · cases he
  · split at he
    · rename_i xs ys e1 e2
      split at he
      · rename_i hz
        cases he
        obtain ⟨a, vs, rfl, h1, h2⟩ := lstM_ok so hx e1
        obtain ⟨b, ws, rfl, h3, h4⟩ := lstM_ok so hy e2
        refine op_cat pins s σ H _ _ v u Q I rx ry ⟨a, b, vs, ws, rfl, rfl, h1, h3, by rw [← h2.length, ← h4.length]; exact room_le hz, fun p hp => ?_⟩
        exact k ρ _ _ (Ext.laid hp) (so.laid hp) (new_lst so (h2.append h4) hp)
      · cases he
    · cases he
/-- two ints, under a condition -/
def sI (c : Int → Int → Bool) (g : Int → Int → D) (_ : Sto) (x y : D) : Option D := match x, y with | .int i, .int j => if c i j then some (g i j) else none | _, _ => none
theorem op_sI {f : Value → Value → Sem Value} {c : Int → Int → Bool} {C : Int → Int → Prop} {g : Int → Int → Int} (h : OpR X f (rI C fun i j => .int (g i j))) (hc : ∀ i j, c i j = true → C i j) : VOp X f (sI c fun i j => .int (g i j)) := by
  intro pins s σ H x y v u Q I rx ry ⟨B, S, ρ, dx, dy, so, hx, hy, d, he, k⟩
  unfold sI at he
  split at he
  · split at he
    · rename_i hz
      cases he
      simp only [Rep] at hx hy
      subst hx hy
      exact h pins s σ H _ _ v u Q I rx ry ⟨_, _, rfl, rfl, hc _ _ hz, k ρ H _ Ext.refl so (by simp only [Rep])⟩
    · cases he
  · cases he
def yes2 (_ _ : Int) : Bool := true
abbrev sSub := sI yes2 fun i j => .int (i - j)
theorem op_sSub : VOp X (binaryOp .Sub) sSub := op_sI (C := fun _ _ => True) (opI fun _ _ _ _ _ _ _ _ q => PyProof.Rows.sub_int q) fun _ _ _ => trivial
def cMul (i j : Int) : Bool := Nat.blt i.natAbs 18446744073709551616 || Nat.blt j.natAbs 18446744073709551616 || Nat.blt (i.natAbs.log2 + j.natAbs.log2) 1000000
theorem cMul_ok {i j : Int} (h : cMul i j = true) : IntMulOk i j := by
  unfold cMul at h
  simp only [Bool.or_eq_true] at h
  rcases h with (h | h) | h
  · have := Nat.le_of_ble_eq_true h
    exact CMul.ok (.inl (by omega))
  · have := Nat.le_of_ble_eq_true h
    exact CMul.ok (.inr (by omega))
  · have := Nat.le_of_ble_eq_true h
    exact CMulW.ok (by unfold CMulW; omega)
def sMul (S : Sto) (x y : D) : Option D :=
  match x, y with
  | .int i, .int j => if cMul i j then some (.int (i * j)) else none
  | x, .int k => match lstM S x with
    | some xs => if Nat.ble k.natAbs 1000000 && room (xs.length * k.toNat) then some (.lst (List.replicate k.toNat xs).flatten) else none
    | none => none
  | _, _ => none
theorem op_sMul : VOp X (binaryOp .Mult) sMul := by
  intro pins s σ H x y v u Q I rx ry ⟨B, S, ρ, dx, dy, so, hx, hy, d, he, k⟩
  unfold sMul at he
  split at he
  · split at he
    · rename_i hz
      cases he
      simp only [Rep] at hx hy
      subst hx hy
      exact (opI (C := fun i j => IntMulOk i j) fun _ _ _ _ _ _ _ hc q => PyProof.Rows.mul_int q hc) pins s σ H _ _ v u Q I rx ry ⟨_, _, rfl, rfl, cMul_ok hz, k ρ H _ Ext.refl so (by simp only [Rep])⟩
    · cases he
  · rename_i k' _
    split at he
    · rename_i xs e1
      split at he
      · rename_i hz
        cases he
        simp only [Bool.and_eq_true] at hz
        have hb := Nat.le_of_ble_eq_true hz.1
        obtain ⟨a, vs, rfl, h1, h2⟩ := lstM_ok so hx e1
        simp only [Rep] at hy
        subst hy
        refine op_rep pins s σ H _ _ v u Q I rx ry ⟨a, k', vs, rfl, rfl, h1, by omega, by omega, by rw [← h2.length]; exact room_le hz.2, fun p hp => ?_⟩
        exact k ρ _ _ (Ext.laid hp) (so.laid hp) (new_lst so (RepL.rep h2 _) hp)
      · cases he
    · cases he
  · cases he
def cDivG (_ j : Int) : Bool := !(Nat.beq j.natAbs 0) && Nat.blt j.natAbs.log2 9000
abbrev sFdiv := sI cDivG fun i j => .int (i.fdiv j)
theorem cDivG_ok {i j : Int} (h : cDivG i j = true) : j ≠ 0 ∧ j.natAbs.log2 < 9000 := by
  unfold cDivG at h
  simp only [Bool.and_eq_true, Bool.not_eq_true'] at h
  refine ⟨fun z => ?_, Nat.le_of_ble_eq_true h.2⟩
  subst z
  exact absurd h.1 (by decide)
theorem op_sFdiv : VOp X (binaryOp .FloorDiv) sFdiv := op_sI (C := fun _ j => j ≠ 0 ∧ j.natAbs.log2 < 9000) (opI fun i j _ _ _ _ _ hc q => PyProof.Rows.floordiv_int hc.1 q (.inl (PyProof.noPylong_of_log2 hc.2))) fun _ _ h => cDivG_ok h
def cNz (_ j : Int) : Bool := !(Nat.beq j.natAbs 0)
abbrev sMod := sI cNz fun i j => .int (i.fmod j)
theorem cNz_ok {i j : Int} (h : cNz i j = true) : j ≠ 0 := fun z => by
  subst z
  have : (false : Bool) = true := h
  cases this
theorem op_sMod : VOp X (binaryOp .Mod) sMod := op_sI op_modN fun _ _ h => cNz_ok h
def cPow (i j : Int) : Bool := decide (0 ≤ j) && Nat.ble j.natAbs 1000 && Nat.blt i.natAbs 18446744073709551616
abbrev sPow := sI cPow fun i j => .int (i ^ j.toNat)
theorem op_sPow : VOp X (binaryOp .Pow) sPow := op_sI op_pow fun i j h => by
  unfold cPow at h
  simp only [Bool.and_eq_true, decide_eq_true_eq] at h
  have h1 := Nat.le_of_ble_eq_true h.1.2
  have h2 := Nat.le_of_ble_eq_true h.2
  exact ⟨h.1.1, by omega, by omega⟩

def sUn (sem : Sto → D → Option D) (a : M) : M := fun env S => (a env S).bind fun x S1 => Rs.of (sem S1 x) S1
def rOf1 (G : GC) (sem : Sto → D → Option D) : V → Hp → VK → Prop := fun x H Q => ∃ B S ρ dx, SOk G B S ρ H ∧ Rep G B ρ H dx x ∧ ∃ d, sem S dx = some d ∧
  ∀ ρ' H' v, Ext ρ H ρ' H' → SOk G B S ρ' H' → Rep G B ρ' H' d v → Q v H'
theorem tE_un {G : GC} {sem : Sto → D → Option D} {a : M} : ∀ σ H Q, tE G W (sUn sem a) σ H Q → tUn (rOf1 G sem) (tE G W a) σ H Q := fun σ H Q h => by
  obtain ⟨B, env, S, ρ, eo, so, P⟩ := h
  refine ⟨B, env, S, ρ, eo, so, Post.mono P.bind (fun dx S1 ρ1 H1 e1 s1 P1 vx rx => ?_) (fun _ _ _ z => z)⟩
  cases q : sem S1 dx with
  | none => rw [q] at P1; exact P1.elim
  | some d =>
    rw [q] at P1
    exact ⟨B, S1, ρ1, dx, s1, rx, d, q, fun ρ' H' v e s r => P1 ρ' H' e s v r⟩
def sNeg (_ : Sto) : D → Option D | .int i => some (.int (-i)) | _ => none
theorem un_sNeg : UnR X (unaryOp .USub) (rOf1 ⟨X.K, X.mg⟩ sNeg) := by
  intro pins s σ H x v Q I rx ⟨B, S, ρ, dx, so, hx, d, he, k⟩
  unfold sNeg at he
  split at he
  · cases he
    simp only [Rep] at hx
    subst hx
    exact un_neg pins s σ H _ v Q I rx ⟨_, rfl, k ρ H _ Ext.refl so (by simp only [Rep])⟩
  · cases he
theorem se_neg {a : Expr} {ma : M} {pos : Pos} (ha : SE X W a ma) : SE X W (.UnaryOp .USub a pos) (sUn sNeg ma) := PE.imp (pe_un un_sNeg ha) tE_un

/-! ### comparisons -/
/-! data that == and repr see whole -/
mutual
def pyOf (S : Sto) : D → Option PyData
  | .non => some .none
  | .bl b => some (.bool b)
  | .int i => some (.int i)
  | .str x => some (.str x)
  | .tup ds => (pyAll S ds).map .tuple
  | .lst ds => (pyAll S ds).map .list
  | .rol ds => (pyAll S ds).map .list
  | _ => none
def pyAll (S : Sto) : List D → Option (List PyData)
  | [] => some []
  | d :: ds => match pyOf S d, pyAll S ds with
    | some p, some q => some (p :: q)
    | _, _ => none
end
/-- .. a list of ours, too -/
def pyTop (S : Sto) : D → Option PyData
  | .ref n => match S[n]? with | some (.lst ds) => (pyAll S ds).map .list | _ => none
  | d => pyOf S d
section
variable {K : PySem.W.Frag} {mg : Str → Option Value} {B : Addr → Prop} {ρ : List Addr} {H : Hp} {S : Sto}
mutual
theorem dp_of (so : SOk ⟨K, mg⟩ B S ρ H) : ∀ {d : D} {v : V} {p : PyData}, Rep ⟨K, mg⟩ B ρ H d v → pyOf S d = some p → Dp K H v p
  | .non, _, _, r, h => by simp only [Rep] at r; subst r; cases h; exact .non
  | .bl b, _, _, r, h => by simp only [Rep] at r; subst r; cases h; exact .bl b
  | .int i, _, _, r, h => by simp only [Rep] at r; subst r; cases h; exact .int i
  | .str x, _, _, r, h => by simp only [Rep] at r; subst r; cases h; exact .str x
  | .tup ds, _, _, r, h => by
    simp only [pyOf, Option.map_eq_some_iff] at h
    obtain ⟨q, h, rfl⟩ := h
    obtain ⟨a, vs, rfl, h1, h2⟩ := tup_ok r
    exact .tup h1 (dpAll_of so h2 h)
  | .lst ds, v, _, r, h => by
    simp only [pyOf, Option.map_eq_some_iff] at h
    obtain ⟨q, h, rfl⟩ := h
    obtain ⟨a, vs, rfl, h1, h2⟩ := lstOf_ok (S := S) so (d := .lst ds) r rfl
    exact .lst h1 (dpAll_of so h2 h)
  | .rol ds, v, _, r, h => by
    simp only [pyOf, Option.map_eq_some_iff] at h
    obtain ⟨q, h, rfl⟩ := h
    obtain ⟨a, vs, rfl, h1, h2⟩ := lstOf_ok (S := S) so (d := .rol ds) r rfl
    exact .lst h1 (dpAll_of so h2 h)
  | .ref n, _, _, r, h => by simp [pyOf] at h
  | .glo x, _, _, r, h => by simp [pyOf] at h
  | .obj c ns ds, _, _, r, h => by simp [pyOf] at h
  | .dic ks ds, _, _, r, h => by simp [pyOf] at h
  | .exn c ns ds, _, _, r, h => by simp [pyOf] at h
theorem dpAll_of (so : SOk ⟨K, mg⟩ B S ρ H) : ∀ {ds : List D} {vs : List V} {ps : List PyData}, RepL ⟨K, mg⟩ B ρ H ds vs → pyAll S ds = some ps → DpAll K H vs ps
  | [], _, _, r, h => by simp only [RepL] at r; subst r; cases h; exact .nil
  | d :: ds, _, _, r, h => by
    simp only [RepL] at r
    obtain ⟨v, w, rfl, h1, h2⟩ := r
    simp only [pyAll] at h
    split at h
    · rename_i p q e1 e2
      cases h
      exact .cons (dp_of so h1 e1) (dpAll_of so h2 e2)
    · cases h
end
theorem dp_top (so : SOk ⟨K, mg⟩ B S ρ H) {d : D} {v : V} {p : PyData} (r : Rep ⟨K, mg⟩ B ρ H d v) (h : pyTop S d = some p) : Dp K H v p := by
  unfold pyTop at h
  split at h
  · rename_i n
    split at h
    · rename_i ds e
      simp only [Option.map_eq_some_iff] at h
      obtain ⟨q, h, rfl⟩ := h
      obtain ⟨a, vs, rfl, h1, h2⟩ := lstOf_ok (S := S) (ds := ds) so (d := .ref n) r (by simp only [lstOf, e])
      exact .lst h1 (dpAll_of so h2 h)
    · cases h
  · exact dp_of so r h
end
/-- equality of plain data, as Python's -/
def sEqD (S : Sto) (x y : D) : Option Bool := match pyTop S x, pyTop S y with
  | some p, some q => if SeqAt.shaped p && SeqAt.shaped q then some (PyData.eqv p q) else none
  | _, _ => none
def sEqB (S : Sto) (x y : D) : Option Bool := match x, y with
  | .int i, .int j => some (decide (i = j))
  | .str a, .str b => some (decide (a = b))
  | _, _ => sEqD S x y
def sEq (S : Sto) (x y : D) : Option D := (sEqB S x y).map .bl
def sNe (S : Sto) (x y : D) : Option D := (sEqB S x y).map fun b => .bl !b
theorem sEqD_ok {S : Sto} {x y : D} {b : Bool} (h : sEqD S x y = some b) : ∃ p q, pyTop S x = some p ∧ pyTop S y = some q ∧ SeqAt.shaped p = true ∧ SeqAt.shaped q = true ∧ b = PyData.eqv p q := by
  unfold sEqD at h
  split at h
  · rename_i p q e1 e2
    split at h
    · rename_i hz
      cases h
      simp only [Bool.and_eq_true] at hz
      exact ⟨p, q, e1, e2, hz.1, hz.2, rfl⟩
    · cases h
  · cases h
theorem op_sEq (hu : X.A.units + 64 < cLine) : VOp X (compareOp .Eq) sEq := by
  intro pins s σ H x y v u Q I rx ry ⟨B, S, ρ, dx, dy, so, hx, hy, d, he, k⟩
  unfold sEq at he
  simp only [Option.map_eq_some_iff] at he
  obtain ⟨b, he, rfl⟩ := he
  unfold sEqB at he
  split at he
  · cases he
    simp only [Rep] at hx hy
    subst hx hy
    exact op_eq pins s σ H _ _ v u Q I rx ry ⟨rfl, by simpa using k ρ H _ Ext.refl so (by simp only [Rep])⟩
  · cases he
    simp only [Rep] at hx hy
    subst hx hy
    exact op_eq pins s σ H _ _ v u Q I rx ry ⟨rfl, by simpa using k ρ H _ Ext.refl so (by simp only [Rep])⟩
  · obtain ⟨p, q, e1, e2, h1, h2, rfl⟩ := sEqD_ok he
    exact op_eqD hu pins s σ H _ _ v u Q I rx ry ⟨p, q, dp_top so hx e1, dp_top so hy e2, h1, h2, k ρ H _ Ext.refl so (by simp only [Rep])⟩
theorem op_sNe (hu : X.A.units + 64 < cLine) : VOp X (compareOp .NotEq) sNe := by
  intro pins s σ H x y v u Q I rx ry ⟨B, S, ρ, dx, dy, so, hx, hy, d, he, k⟩
  unfold sNe at he
  simp only [Option.map_eq_some_iff] at he
  obtain ⟨b, he, rfl⟩ := he
  unfold sEqB at he
  split at he
  · cases he
    simp only [Rep] at hx hy
    subst hx hy
    exact op_ne pins s σ H _ _ v u Q I rx ry ⟨rfl, by simpa using k ρ H _ Ext.refl so (by simp only [Rep])⟩
  · cases he
    simp only [Rep] at hx hy
    subst hx hy
    exact op_ne pins s σ H _ _ v u Q I rx ry ⟨rfl, by simpa using k ρ H _ Ext.refl so (by simp only [Rep])⟩
  · obtain ⟨p, q, e1, e2, h1, h2, rfl⟩ := sEqD_ok he
    exact op_neD hu pins s σ H _ _ v u Q I rx ry ⟨p, q, dp_top so hx e1, dp_top so hy e2, h1, h2, k ρ H _ Ext.refl so (by simp only [Rep])⟩
/-- order of ints, of texts -/
def sLt (_ : Sto) (x y : D) : Option D := match x, y with
  | .int i, .int j => some (.bl (decide (i < j)))
  | .str a, .str b => some (.bl (decide (a.cps.toList < b.cps.toList)))
  | _, _ => none
def sGt (S : Sto) (x y : D) : Option D := sLt S y x
def sLe (_ : Sto) (x y : D) : Option D := match x, y with
  | .int i, .int j => some (.bl (decide (i ≤ j)))
  | .str a, .str b => some (.bl (!decide (b.cps.toList < a.cps.toList)))
  | _, _ => none
def sGe (S : Sto) (x y : D) : Option D := sLe S y x
theorem op_sLt : VOp X (compareOp .Lt) sLt := by
  intro pins s σ H x y v u Q I rx ry ⟨B, S, ρ, dx, dy, so, hx, hy, d, he, k⟩
  unfold sLt at he
  split at he
  · cases he
    simp only [Rep] at hx hy
    subst hx hy
    exact op_lt pins s σ H _ _ v u Q I rx ry ⟨_, _, rfl, rfl, k ρ H _ Ext.refl so (by simp only [Rep])⟩
  · cases he
    simp only [Rep] at hx hy
    subst hx hy
    exact op_lt_str pins s σ H _ _ v u Q I rx ry ⟨_, _, rfl, rfl, k ρ H _ Ext.refl so (by simp only [Rep])⟩
  · cases he
theorem op_sGt : VOp X (compareOp .Gt) sGt := by
  intro pins s σ H x y v u Q I rx ry ⟨B, S, ρ, dx, dy, so, hx, hy, d, he, k⟩
  unfold sGt sLt at he
  split at he
  · cases he
    simp only [Rep] at hx hy
    subst hx hy
    exact op_gt pins s σ H _ _ v u Q I rx ry ⟨_, _, rfl, rfl, k ρ H _ Ext.refl so (by simp only [Rep])⟩
  · cases he
    simp only [Rep] at hx hy
    subst hx hy
    exact op_gt_str pins s σ H _ _ v u Q I rx ry ⟨_, _, rfl, rfl, k ρ H _ Ext.refl so (by simp only [Rep])⟩
  · cases he
theorem op_sLe : VOp X (compareOp .LtE) sLe := by
  intro pins s σ H x y v u Q I rx ry ⟨B, S, ρ, dx, dy, so, hx, hy, d, he, k⟩
  unfold sLe at he
  split at he
  · cases he
    simp only [Rep] at hx hy
    subst hx hy
    exact op_le pins s σ H _ _ v u Q I rx ry ⟨_, _, rfl, rfl, k ρ H _ Ext.refl so (by simp only [Rep])⟩
  · cases he
    simp only [Rep] at hx hy
    subst hx hy
    exact op_le_str pins s σ H _ _ v u Q I rx ry ⟨_, _, rfl, rfl, k ρ H _ Ext.refl so (by simp only [Rep])⟩
  · cases he
theorem op_sGe : VOp X (compareOp .GtE) sGe := by
  intro pins s σ H x y v u Q I rx ry ⟨B, S, ρ, dx, dy, so, hx, hy, d, he, k⟩
  unfold sGe sLe at he
  split at he
  · cases he
    simp only [Rep] at hx hy
    subst hx hy
    exact op_ge pins s σ H _ _ v u Q I rx ry ⟨_, _, rfl, rfl, k ρ H _ Ext.refl so (by simp only [Rep])⟩
  · cases he
    simp only [Rep] at hx hy
    subst hx hy
    exact op_ge_str pins s σ H _ _ v u Q I rx ry ⟨_, _, rfl, rfl, k ρ H _ Ext.refl so (by simp only [Rep])⟩
  · cases he
/-- is, is not: None or a truth value on the right -/
def sIs (_ : Sto) (x y : D) : Option D := match x, y with
  | .bl a, .bl b => some (.bl (a == b))
  | .non, .non => some (.bl true)
  | .bl _, .non => some (.bl false) | .int _, .non => some (.bl false) | .str _, .non => some (.bl false) | .tup _, .non => some (.bl false) | .lst _, .non => some (.bl false) | .obj _ _ _, .non => some (.bl false) | .ref _, .non => some (.bl false)
  | _, _ => none
def sIsNot (S : Sto) (x y : D) : Option D := match sIs S x y with | some (.bl b) => some (.bl !b) | _ => none
theorem rep_nn {G : GC} {B : Addr → Prop} {ρ : List Addr} {H : Hp} {d : D} {v : V} (r : Rep G B ρ H d v) (h : sIs [] d .non = some (.bl false)) : v ≠ .non := by
  unfold sIs at h
  split at h <;> (try cases h) <;> simp only [Rep] at r
  · rename_i q; cases q
  · subst r; exact nofun
  · subst r; exact nofun
  · subst r; exact nofun
  · obtain ⟨_, _, e, _⟩ := r; subst e; exact nofun
  · obtain ⟨_, _, e, _⟩ := r; subst e; exact nofun
  · obtain ⟨_, _, _, _, e, _⟩ := r; subst e; exact nofun
  · obtain ⟨_, e, _⟩ := r; subst e; exact nofun
theorem op_sIs : VOp X (compareOp .Is) sIs := by
  intro pins s σ H x y v u Q I rx ry ⟨B, S, ρ, dx, dy, so, hx, hy, d, he, k⟩
  have hN : ∀ b, dy = .non → sIs S dx .non = some (.bl b) → decide (x = .non) = b := fun b e q => by
    cases b with
    | false => exact decide_eq_false (rep_nn hx (by unfold sIs at q ⊢; exact q))
    | true =>
      unfold sIs at q
      split at q <;> (try cases q)
      · rename_i z; cases z
      · simp only [Rep] at hx; subst hx; rfl
  by_cases hd : dy = .non
  · subst hd
    have : ∃ b, d = .bl b := by
      unfold sIs at he
      split at he <;> cases he <;> exact ⟨_, rfl⟩
    obtain ⟨b, rfl⟩ := this
    have e := hN b rfl he
    simp only [Rep] at hy
    subst hy
    exact op_isN pins s σ H _ _ v u Q I rx ry ⟨rfl, by rw [e]; exact k ρ H _ Ext.refl so (by simp only [Rep])⟩
  · unfold sIs at he
    split at he <;> (try exact absurd rfl hd) <;> cases he
    simp only [Rep] at hx hy
    subst hx hy
    rename_i a b
    exact op_isBl pins s σ H _ _ v u Q I rx ry ⟨a, b, rfl, rfl, by
      have : decide (a = b) = (a == b) := by cases a <;> cases b <;> rfl
      rw [this]
      exact k ρ H _ Ext.refl so (by simp only [Rep])⟩
theorem op_sIsNot : VOp X (compareOp .IsNot) sIsNot := by
  intro pins s σ H x y v u Q I rx ry ⟨B, S, ρ, dx, dy, so, hx, hy, d, he, k⟩
  unfold sIsNot at he
  split at he
  · rename_i b he'
    cases he
    have hN : dy = .non → decide (x = .non) = b := fun e => by
      subst e
      cases b with
      | false => exact decide_eq_false (rep_nn hx (by unfold sIs at he' ⊢; exact he'))
      | true =>
        unfold sIs at he'
        split at he' <;> (try cases he')
        · rename_i z; cases z
        · simp only [Rep] at hx; subst hx; rfl
    by_cases hd : dy = .non
    · have e := hN hd
      subst hd
      simp only [Rep] at hy
      subst hy
      exact op_notN pins s σ H _ _ v u Q I rx ry ⟨rfl, by rw [e]; exact k ρ H _ Ext.refl so (by simp only [Rep])⟩
    · unfold sIs at he'
      split at he' <;> (try exact absurd rfl hd) <;> cases he'
      simp only [Rep] at hx hy
      subst hx hy
      rename_i a b
      exact op_notBl pins s σ H _ _ v u Q I rx ry ⟨a, b, rfl, rfl, by
        have : decide (a = b) = (a == b) := by cases a <;> cases b <;> rfl
        rw [this]
        exact k ρ H _ Ext.refl so (by simp only [Rep])⟩
  · cases he
end
end Ev

/-! Ev, part 3: tests, displays, subscripts, built-ins, what loops walk, list comprehensions. -/
namespace Ev
open PySem L2
section
variable {X : Cx} {W : WX}

/-! ### tests -/
/-- a value that is a truth value -/
def mBs (m : M) : MT := fun env S => (m env S).bind fun d S1 => match d with | .bl b => .ok b S1 | _ => .err
theorem tE_bs {G : GC} {m : M} {σ : L2.St} {H : Hp} {Q : Bool → Hp → Prop} (h : tT G W (mBs m) σ H Q) : tE G W m σ H fun x H' => ∃ k, x = .bl k ∧ Q k H' := by
  obtain ⟨B, env, S, ρ, eo, so, P⟩ := h
  refine ⟨B, env, S, ρ, eo, so, Post.mono P.bind (fun d S1 ρ1 H1 e1 s1 P1 v r => ?_) (fun _ _ _ z => z)⟩
  split at P1
  · rename_i b
    simp only [Rep] at r
    exact ⟨b, r, P1 ρ1 H1 Ext.refl s1⟩
  · exact P1.elim
theorem st_cmp {op : CmpOp} {sem : Sto → D → D → Option D} {a b : Expr} {ma mb : M} {pos : Pos} (ho : VOp X (compareOp op) sem) (ha : SE X W a ma) (hb : SE X W b mb) (hm : behindInMarks op b = false := by first | exact nomark _ | rfl) : ST X W (.Compare a [op] [b] pos) (mBs (mOp sem ma mb)) :=
  PT.imp (pt_cmpR ho ha hb hm) fun σ H Q h => tE_op _ _ _ (tE_bs h)
theorem se_cmp {op : CmpOp} {sem : Sto → D → D → Option D} {a b : Expr} {ma mb : M} {pos : Pos} (ho : VOp X (compareOp op) sem) (ha : SE X W a ma) (hb : SE X W b mb) (hm : behindInMarks op b = false := by first | exact nomark _ | rfl) : SE X W (.Compare a [op] [b] pos) (mOp sem ma mb) :=
  PE.imp (pe_cmpR ho ha hb hm) tE_op
/-- a < b < c -/
def mChain (sem sem' : Sto → D → D → Option D) (a b c : M) : M := fun env S => (a env S).bind fun x S1 => (b env S1).bind fun y S2 => match sem S2 x y with
  | some (.bl true) => (c env S2).bind fun z S3 => Rs.of (sem' S3 y z) S3
  | some (.bl false) => .ok (.bl false) S2
  | _ => .err
theorem tE_chain {G : GC} {sem sem' : Sto → D → D → Option D} {a b c : M} : ∀ σ H Q, tE G W (mChain sem sem' a b c) σ H Q → tChain (rOf G sem) (rOf G sem') (tE G W a) (tE G W b) (tE G W c) σ H Q := fun σ H Q h => by
  obtain ⟨B, env, S, ρ, eo, so, P⟩ := h
  refine ⟨B, env, S, ρ, eo, so, Post.mono P.bind (fun dx S1 ρ1 H1 e1 s1 P1 vx rx => ⟨B, env, S1, ρ1, eo.mono e1, s1, Post.mono P1.bind (fun dy S2 ρ2 H2 e2 s2 P2 vy ry => ?_) (fun _ _ _ z => z)⟩) (fun _ _ _ z => z)⟩
  split at P2
  · rename_i q
    refine ⟨B, S2, ρ2, dx, dy, s2, rx.mono e2, ry, _, q, fun ρ3 H3 v e3 s3 r3 => ?_⟩
    simp only [Rep] at r3
    refine ⟨true, r3, ?_⟩
    rw [if_pos rfl]
    refine ⟨B, env, S2, ρ3, ((eo.mono e1).mono e2).mono e3, s3, Post.mono (Post.mono (Post.bind (ρ := ρ2) (H := H2) P2) (fun _ _ _ _ _ _ z => z) (fun _ _ _ z => z) |> fun z => (?_ : Post G B ρ3 H3 (c env S2) (fun dz S4 ρ4 H4 => Post G B ρ4 H4 (Rs.of (sem' S4 dy dz) S4) (fun d _ ρ' H' => ∀ v, Rep G B ρ' H' d v → Q v H') fun C d H' => W (.ref C) d σ H') fun C d H' => W (.ref C) d σ H')) (fun dz S4 ρ4 H4 e4 s4 P4 vz rz => ?_) (fun _ _ _ z => z)⟩
    · cases q4 : c env S2 with
      | ok dz S4 => rw [q4] at z; exact fun ρ4 H4 e4 s4 => z ρ4 H4 (e3.trans e4) s4
      | exc c p S4 => rw [q4] at z; exact fun ρ4 H4 C d e4 s4 w => z ρ4 H4 C d (e3.trans e4) s4 w
      | err => rw [q4] at z; exact z
    · cases q5 : sem' S4 dy dz with
      | none => rw [q5] at P4; exact P4.elim
      | some d =>
        rw [q5] at P4
        exact ⟨B, S4, ρ4, dy, dz, s4, (ry.mono e3).mono e4, rz, d, q5, fun ρ' H' v e s r => P4 ρ' H' e s v r⟩
  · rename_i q
    refine ⟨B, S2, ρ2, dx, dy, s2, rx.mono e2, ry, _, q, fun ρ3 H3 v e3 s3 r3 => ?_⟩
    simp only [Rep] at r3
    refine ⟨false, r3, ?_⟩
    rw [if_neg Bool.false_ne_true]
    exact P2 ρ3 H3 e3 s3 _ (by simp only [Rep])
  · exact P2.elim
theorem se_chain {op op' : CmpOp} {sem sem' : Sto → D → D → Option D} {a b c : Expr} {ma mb mc : M} {pos : Pos} (ho : VOp X (compareOp op) sem) (ho' : VOp X (compareOp op') sem') (ha : SE X W a ma) (hb : SE X W b mb) (hc : SE X W c mc) (hm : lastMarks [op, op'] [b, c] = false := by with_unfolding_all rfl) : SE X W (.Compare a [op, op'] [b, c] pos) (mChain sem sem' ma mb mc) :=
  PE.imp (pe_chain ho ho' ha hb hc hm) tE_chain
theorem st_chain {op op' : CmpOp} {sem sem' : Sto → D → D → Option D} {a b c : Expr} {ma mb mc : M} {pos : Pos} (ho : VOp X (compareOp op) sem) (ho' : VOp X (compareOp op') sem') (ha : SE X W a ma) (hb : SE X W b mb) (hc : SE X W c mc) (hm : lastMarks [op, op'] [b, c] = false := by with_unfolding_all rfl) : ST X W (.Compare a [op, op'] [b, c] pos) (mBs (mChain sem sem' ma mb mc)) :=
  PT.imp (pt_chain ho ho' ha hb hc hm) fun σ H Q h => tE_chain _ _ _ (tE_bs h)
/-- a value's truth -/
def truB (S : Sto) : D → Option Bool
  | .non => some false
  | .bl b => some b
  | .int i => some (i != 0)
  | .str y => if room y.length then some ((y.length : Int) != 0) else none
  | .tup ds => some !ds.isEmpty
  | .lst ds => some !ds.isEmpty
  | .rol ds => some !ds.isEmpty
  | .ref n => match S[n]? with | some (.lst ds) => some !ds.isEmpty | _ => none
  | _ => none
theorem RepL.isEmpty {G : GC} {B : Addr → Prop} {ρ : List Addr} {H : Hp} {ds : List D} {vs : List V} (r : RepL G B ρ H ds vs) : ds.isEmpty = vs.isEmpty := by
  have e := r.length
  cases ds <;> cases vs <;> first | rfl | (simp at e)
theorem truB_ok {K : PySem.W.Frag} {mg : Str → Option Value} {B : Addr → Prop} {ρ : List Addr} {H : Hp} {S : Sto} {d : D} {v : V} {b : Bool} (so : SOk ⟨K, mg⟩ B S ρ H) (r : Rep ⟨K, mg⟩ B ρ H d v) (h : truB S d = some b) : TruV K v H b := by
  have L : ∀ ds, lstOf S d = some ds → (!ds.isEmpty) = b → TruV K v H b := fun ds e eb => by
    obtain ⟨a, vs, rfl, h1, h2⟩ := lstOf_ok so r e
    exact .inl ⟨vs, h1, by rw [← eb, h2.isEmpty]⟩
  unfold truB at h
  split at h
  · cases h; simp only [Rep] at r; subst r; exact rfl
  · cases h; simp only [Rep] at r; subst r; exact rfl
  · cases h; simp only [Rep] at r; subst r; exact rfl
  · split at h
    · rename_i hz
      cases h; simp only [Rep] at r; subst r; exact ⟨room_le hz, rfl⟩
    · cases h
  · cases h
    obtain ⟨a, vs, rfl, h1, h2⟩ := tup_ok r
    exact .inr (.inl ⟨vs, h1, by rw [h2.isEmpty]⟩)
  · exact L _ rfl (Option.some.inj h)
  · exact L _ rfl (Option.some.inj h)
  · split at h
    · rename_i ds q
      exact L ds (by simp only [lstOf, q]) (Option.some.inj h)
    · cases h
  · cases h
def mTru (m : M) : MT := fun env S => (m env S).bind fun d S1 => Rs.of (truB S1 d) S1
theorem st_truth {a : Expr} {ma : M} (ha : SE X W a ma) (he : ∀ whole, isTrue a X.env whole = (do let v ← whole; standAt a.pos; holding [v] (truthy v)) := by intro _; rfl) : ST X W a (mTru ma) :=
  PT.imp (pt_truth ha he) fun σ H Q h => by
    obtain ⟨B, env, S, ρ, eo, so, P⟩ := h
    refine ⟨B, env, S, ρ, eo, so, Post.mono P.bind (fun d S1 ρ1 H1 e1 s1 P1 v r => ?_) (fun _ _ _ z => z)⟩
    cases q : truB S1 d with
    | none => rw [q] at P1; exact P1.elim
    | some b =>
      rw [q] at P1
      exact ⟨b, truB_ok s1 r q, P1 ρ1 H1 Ext.refl s1⟩
abbrev SW (X : Cx) (W : WX) (x : Expr) (m : MT) : Prop := PW X x (tT ⟨X.K, X.mg⟩ W m)
def mAndT (a b : MT) : MT := fun env S => (a env S).bind fun c S1 => if c then b env S1 else .ok false S1
def mOrT (a b : MT) : MT := fun env S => (a env S).bind fun c S1 => if c then .ok true S1 else b env S1
def mNotT (a : MT) : MT := fun env S => (a env S).bind fun c S1 => .ok (!c) S1
theorem sw_one_and {a : Expr} {ma : MT} {pos : Pos} (ha : ST X W a ma) : SW X W (.BoolOp .And [a] pos) ma := pw_and1 ha
theorem sw_one_or {a : Expr} {ma : MT} {pos : Pos} (ha : ST X W a ma) : SW X W (.BoolOp .Or [a] pos) ma := pw_or1 ha
theorem sw_and {a b : Expr} {rest : List Expr} {ma mb : MT} {pos : Pos} (ha : ST X W a ma) (hb : SW X W (.BoolOp .And (b :: rest) pos) mb) : SW X W (.BoolOp .And (a :: b :: rest) pos) (mAndT ma mb) :=
  PW.imp (pw_and ha hb) fun σ H Q h => by
    obtain ⟨B, env, S, ρ, eo, so, P⟩ := h
    refine ⟨B, env, S, ρ, eo, so, Post.mono P.bind (fun c S1 ρ1 H1 e1 s1 P1 => ?_) (fun _ _ _ z => z)⟩
    cases c with
    | true => rw [if_pos rfl] at P1 ⊢; exact ⟨B, env, S1, ρ1, eo.mono e1, s1, P1⟩
    | false => rw [if_neg Bool.false_ne_true] at P1 ⊢; exact P1 ρ1 H1 Ext.refl s1
theorem sw_or {a b : Expr} {rest : List Expr} {ma mb : MT} {pos : Pos} (ha : ST X W a ma) (hb : SW X W (.BoolOp .Or (b :: rest) pos) mb) : SW X W (.BoolOp .Or (a :: b :: rest) pos) (mOrT ma mb) :=
  PW.imp (pw_or ha hb) fun σ H Q h => by
    obtain ⟨B, env, S, ρ, eo, so, P⟩ := h
    refine ⟨B, env, S, ρ, eo, so, Post.mono P.bind (fun c S1 ρ1 H1 e1 s1 P1 => ?_) (fun _ _ _ z => z)⟩
    cases c with
    | true => rw [if_pos rfl] at P1 ⊢; exact P1 ρ1 H1 Ext.refl s1
    | false => rw [if_neg Bool.false_ne_true] at P1 ⊢; exact ⟨B, env, S1, ρ1, eo.mono e1, s1, P1⟩
theorem st_not {a : Expr} {ma : MT} {pos : Pos} (ha : ST X W a ma) : ST X W (.UnaryOp .Not a pos) (mNotT ma) :=
  PT.imp (pt_not ha) fun σ H Q h => by
    obtain ⟨B, env, S, ρ, eo, so, P⟩ := h
    exact ⟨B, env, S, ρ, eo, so, Post.mono P.bind (fun c S1 ρ1 H1 e1 s1 P1 => P1 ρ1 H1 Ext.refl s1) (fun _ _ _ z => z)⟩
/-- .. as values: all but the last are truth values -/
def mAndV (a b : M) : M := fun env S => (a env S).bind fun d S1 => match d with | .bl true => b env S1 | .bl false => .ok (.bl false) S1 | _ => .err
def mOrV (a b : M) : M := fun env S => (a env S).bind fun d S1 => match d with | .bl true => .ok (.bl true) S1 | .bl false => b env S1 | _ => .err
def mNotV (a : M) : M := fun env S => (a env S).bind fun d S1 => Rs.of ((truB S1 d).map fun b => .bl !b) S1
theorem se_one {op : BoolOp} {a : Expr} {ma : M} {pos : Pos} (ha : SE X W a ma) : SE X W (.BoolOp op [a] pos) ma := pe_one ha
theorem se_and {a b : Expr} {rest : List Expr} {ma mb : M} {pos : Pos} (ha : SE X W a ma) (hb : SE X W (.BoolOp .And (b :: rest) pos) mb) : SE X W (.BoolOp .And (a :: b :: rest) pos) (mAndV ma mb) :=
  PE.imp (pe_and ha hb) fun σ H Q h => by
    obtain ⟨B, env, S, ρ, eo, so, P⟩ := h
    refine ⟨B, env, S, ρ, eo, so, Post.mono P.bind (fun d S1 ρ1 H1 e1 s1 P1 v r => ?_) (fun _ _ _ z => z)⟩
    split at P1
    · simp only [Rep] at r
      exact ⟨true, r, by rw [if_pos rfl]; exact ⟨B, env, S1, ρ1, eo.mono e1, s1, P1⟩⟩
    · simp only [Rep] at r
      exact ⟨false, r, by rw [if_neg Bool.false_ne_true]; exact P1 ρ1 H1 Ext.refl s1 _ (by simp only [Rep])⟩
    · exact P1.elim
theorem se_or {a b : Expr} {rest : List Expr} {ma mb : M} {pos : Pos} (ha : SE X W a ma) (hb : SE X W (.BoolOp .Or (b :: rest) pos) mb) : SE X W (.BoolOp .Or (a :: b :: rest) pos) (mOrV ma mb) :=
  PE.imp (pe_or ha hb) fun σ H Q h => by
    obtain ⟨B, env, S, ρ, eo, so, P⟩ := h
    refine ⟨B, env, S, ρ, eo, so, Post.mono P.bind (fun d S1 ρ1 H1 e1 s1 P1 v r => ?_) (fun _ _ _ z => z)⟩
    split at P1
    · simp only [Rep] at r
      exact ⟨true, r, by rw [if_pos rfl]; exact P1 ρ1 H1 Ext.refl s1 _ (by simp only [Rep])⟩
    · simp only [Rep] at r
      exact ⟨false, r, by rw [if_neg Bool.false_ne_true]; exact ⟨B, env, S1, ρ1, eo.mono e1, s1, P1⟩⟩
    · exact P1.elim
theorem se_not {a : Expr} {ma : M} {pos : Pos} (ha : SE X W a ma) : SE X W (.UnaryOp .Not a pos) (mNotV ma) :=
  PE.imp (pe_notT ha) fun σ H Q h => by
    obtain ⟨B, env, S, ρ, eo, so, P⟩ := h
    refine ⟨B, env, S, ρ, eo, so, Post.mono P.bind (fun d S1 ρ1 H1 e1 s1 P1 v r => ?_) (fun _ _ _ z => z)⟩
    cases q : truB S1 d with
    | none => rw [q] at P1; exact P1.elim
    | some b =>
      rw [q] at P1
      exact ⟨b, truB_ok s1 r q, P1 ρ1 H1 Ext.refl s1 _ (by simp only [Rep])⟩
/-- a if c else b -/
def mIf (c : MT) (a b : M) : M := fun env S => (c env S).bind fun k S1 => if k then a env S1 else b env S1
theorem se_ifExp {c a b : Expr} {mc : MT} {ma mb : M} {pos : Pos} (hc : ST X W c mc) (ha : SE X W a ma) (hb : SE X W b mb) : SE X W (.IfExp c a b pos) (mIf mc ma mb) :=
  PE.imp (pe_ifExp hc ha hb) fun σ H Q h => by
    obtain ⟨B, env, S, ρ, eo, so, P⟩ := h
    refine ⟨B, env, S, ρ, eo, so, Post.mono P.bind (fun c S1 ρ1 H1 e1 s1 P1 => ?_) (fun _ _ _ z => z)⟩
    cases c with
    | true => rw [if_pos rfl] at P1 ⊢; exact ⟨B, env, S1, ρ1, eo.mono e1, s1, P1⟩
    | false => rw [if_neg Bool.false_ne_true] at P1 ⊢; exact ⟨B, env, S1, ρ1, eo.mono e1, s1, P1⟩

/-! ### arguments, displays -/
def mNil : ML := fun _ S => .ok [] S
def mCons (a : M) (r : ML) : ML := fun env S => (a env S).bind fun d S1 => (r env S1).bind fun ds S2 => .ok (d :: ds) S2
theorem sa_nil : SA X W [] mNil := PA.imp pa_nil fun σ H Q h => by
  obtain ⟨B, env, S, ρ, eo, so, P⟩ := h
  exact P ρ H Ext.refl so [] (by simp only [RepL])
theorem sa_cons {e : Expr} {es : List Expr} {ma : M} {mr : ML} (ha : SE X W e ma) (hr : SA X W es mr) (hs : starEach (e :: es) X.env = (false, eval e X.env) :: starEach es X.env := by rfl) : SA X W (e :: es) (mCons ma mr) :=
  PA.imp (pa_cons ha hr hs) fun σ H Q h => by
    obtain ⟨B, env, S, ρ, eo, so, P⟩ := h
    refine ⟨B, env, S, ρ, eo, so, Post.mono P.bind (fun d S1 ρ1 H1 e1 s1 P1 v r => ⟨B, env, S1, ρ1, eo.mono e1, s1, Post.mono P1.bind (fun ds S2 ρ2 H2 e2 s2 P2 vs rs => ?_) (fun _ _ _ z => z)⟩) (fun _ _ _ z => z)⟩
    exact P2 ρ2 H2 Ext.refl s2 (v :: vs) (by simp only [RepL]; exact ⟨v, vs, rfl, r.mono e2, rs⟩)
def mTup (m : ML) : M := fun env S => (m env S).bind fun ds S1 => if room ds.length then .ok (.tup ds) S1 else .err
theorem se_tup {es : List Expr} {m : ML} {k : Nat} {pos : Pos} (h : SA X W es m) : SE X W (.Tuple es k pos) (mTup m) :=
  PE.imp (pe_tup h) fun σ H Q h => by
    obtain ⟨B, env, S, ρ, eo, so, P⟩ := h
    refine ⟨B, env, S, ρ, eo, so, Post.mono P.bind (fun ds S1 ρ1 H1 e1 s1 P1 vs r => ?_) (fun _ _ _ z => z)⟩
    split at P1
    · rename_i hz
      exact ⟨by rw [← r.length]; exact room_le hz, fun p hp => P1 ρ1 _ (Ext.laid hp) (s1.laid hp) _ (new_tup s1 r hp)⟩
    · exact P1.elim
def mLst (m : ML) : M := fun env S => (m env S).bind fun ds S1 => if room ds.length then .ok (.lst ds) S1 else .err
theorem se_lst {es : List Expr} {m : ML} {pos : Pos} (h : SA X W es m) : SE X W (.List es pos) (mLst m) :=
  PE.imp (pe_lst h) fun σ H Q h => by
    obtain ⟨B, env, S, ρ, eo, so, P⟩ := h
    refine ⟨B, env, S, ρ, eo, so, Post.mono P.bind (fun ds S1 ρ1 H1 e1 s1 P1 vs r => ?_) (fun _ _ _ z => z)⟩
    split at P1
    · rename_i hz
      exact ⟨by rw [← r.length]; exact room_le hz, fun p hp => P1 ρ1 _ (Ext.laid hp) (s1.laid hp) _ (new_lst s1 r hp)⟩
    · exact P1.elim
/-- a list display that will be written: it goes into the store -/
def mNew (m : ML) : M := fun env S => (m env S).bind fun ds S1 => if room ds.length then .ok (.ref S1.length) (S1 ++ [.lst ds]) else .err
theorem se_new {es : List Expr} {m : ML} {pos : Pos} (h : SA X W es m) : SE X W (.List es pos) (mNew m) :=
  PE.imp (pe_lst h) fun σ H Q h => by
    obtain ⟨B, env, S, ρ, eo, so, P⟩ := h
    refine ⟨B, env, S, ρ, eo, so, Post.mono P.bind (fun ds S1 ρ1 H1 e1 s1 P1 vs r => ?_) (fun _ _ _ z => z)⟩
    split at P1
    · rename_i hz
      refine ⟨by rw [← r.length]; exact room_le hz, fun p hp => P1 (ρ1 ++ [p]) _ (Ext.push hp) (s1.push hp ⟨vs, upd_same, r.mono (Ext.push hp)⟩) _ ?_⟩
      simp only [Rep]
      exact ⟨p, rfl, by rw [← s1.len]; simp⟩
    · exact P1.elim

/-! ### subscripts, slices -/
def sIx (S : Sto) (x y : D) : Option D := match x, y with
  | .tup ds, .int i => atI ds i
  | .str z, .int i => if room z.length then (atI z.cps.toList i).map fun c => .str ⟨#[c]⟩ else none
  | x, .int i => match lstOf S x with | some ds => atI ds i | none => none
  | _, _ => none
theorem RepL.atI {G : GC} {B : Addr → Prop} {ρ : List Addr} {H : Hp} {ds : List D} {vs : List V} (r : RepL G B ρ H ds vs) {i : Int} {d : D} (h : L2.atI ds i = some d) : ∃ v, L2.atI vs i = some v ∧ Rep G B ρ H d v := by
  unfold L2.atI at h ⊢
  rw [← r.length]
  cases q : ixN ds.length i with
  | none => rw [q] at h; cases h
  | some j => rw [q] at h; exact r.get h
theorem ix_sIx : IxR X (rOf ⟨X.K, X.mg⟩ sIx) := by
  intro value slice pins s σ H x y v u Q I rx ry ⟨B, S, ρ, dx, dy, so, hx, hy, d, he, k⟩ hs
  unfold sIx at he
  split at he
  · simp only [Rep] at hy
    subst hy
    obtain ⟨a, vs, rfl, h1, h2⟩ := tup_ok hx
    obtain ⟨w, h3, h4⟩ := h2.atI he
    exact ix_tup value slice pins s σ H _ _ v u Q I rx ry ⟨a, vs, _, w, rfl, rfl, h1, h3, k ρ H _ Ext.refl so h4⟩ hs
  · split at he
    · rename_i hz
      simp only [Option.map_eq_some_iff] at he
      obtain ⟨c, he, rfl⟩ := he
      simp only [Rep] at hx hy
      subst hx hy
      exact ix_str value slice pins s σ H _ _ v u Q I rx ry ⟨_, _, c, rfl, rfl, room_le hz, he, k ρ H _ Ext.refl so (by simp only [Rep])⟩ hs
    · cases he
  · simp only [Rep] at hy
    subst hy
    split at he
    · rename_i ds q
      obtain ⟨a, vs, rfl, h1, h2⟩ := lstOf_ok so hx q
      obtain ⟨w, h3, h4⟩ := h2.atI he
      exact ix_list value slice pins s σ H _ _ v u Q I rx ry ⟨a, vs, _, w, rfl, rfl, h1, h3, k ρ H _ Ext.refl so h4⟩ hs
    · cases he
  · cases he
theorem se_ix {a b : Expr} {ma mb : M} {pos : Pos} (ha : SE X W a ma) (hb : SE X W b mb) (hs : PlainIx b := by intro _ _; rfl) : SE X W (.Subscript a b pos) (mOp sIx ma mb) := PE.imp (pe_ix ix_sIx ha hb hs) tE_op
/-- a[lo:hi] -/
abbrev MO := En → Sto → Rs (Option Int)
def tO (G : GC) (W : WX) (m : MO) : TO := fun σ H Q => ∃ B env S ρ, EnvOk G B ρ H env σ ∧ SOk G B S ρ H ∧
  Post G B ρ H (m env S) (fun o _ _ H' => Q o H') fun C d H' => W (.ref C) d σ H'
abbrev SO (X : Cx) (W : WX) (e : Option Expr) (m : MO) : Prop := ∀ (pins : List (Addr × Obj)) (s : Shared) (σ : L2.St) (H : Hp) (Q : Option Int → Hp → Prop), Inv X pins σ H s → tO ⟨X.K, X.mg⟩ W m σ H Q →
    wpAny (model X.prog X.w) X.A (evalPart e X.env) (fun u s' => ∃ o H', Inv X pins σ H' s' ∧ IsPart u o ∧ Q o H') X.xe s
def mONone : MO := fun _ S => .ok none S
def mOSome (m : M) : MO := fun env S => (m env S).bind fun d S1 => match d with | .int i => .ok (some i) S1 | _ => .err
theorem so_none : PO X none (tO ⟨X.K, X.mg⟩ W mONone) := ⟨fun pins s σ H Q I h => by
  obtain ⟨B, env, S, ρ, eo, so, P⟩ := h
  exact po_none.run pins s σ H Q I (P ρ H Ext.refl so)⟩
theorem so_some {e : Expr} {m : M} (h : SE X W e m) : PO X (some e) (tO ⟨X.K, X.mg⟩ W (mOSome m)) := ⟨fun pins s σ H Q I hw => by
  refine (po_some h).run pins s σ H Q I ?_
  obtain ⟨B, env, S, ρ, eo, so, P⟩ := hw
  refine ⟨B, env, S, ρ, eo, so, Post.mono P.bind (fun d S1 ρ1 H1 e1 s1 P1 v r => ?_) (fun _ _ _ z => z)⟩
  split at P1
  · simp only [Rep] at r
    exact ⟨_, r, P1 ρ1 H1 Ext.refl s1⟩
  · exact P1.elim⟩
def cutD {α : Type} (xs : List α) (lo hi : Option Int) : List α := (xs.drop (HT.sIx xs.length 0 lo)).take (HT.sIx xs.length xs.length hi - HT.sIx xs.length 0 lo)
def sSl (S : Sto) (x : D) (lo hi : Option Int) : Option D := match x with
  | .tup ds => some (.tup (cutD ds lo hi))
  | .str z => if room z.length then some (.str (cutS z lo hi)) else none
  | x => (lstOf S x).map fun ds => .lst (cutD ds lo hi)
theorem RepL.cut {G : GC} {B : Addr → Prop} {ρ : List Addr} {H : Hp} {ds : List D} {vs : List V} (r : RepL G B ρ H ds vs) (lo hi : Option Int) : RepL G B ρ H (cutD ds lo hi) (cutV vs lo hi) := by
  unfold cutD cutV
  rw [r.length]
  exact (r.drop _).take _
def rSlOf (G : GC) : V → Option Int → Option Int → Hp → VK → Prop := fun x lo hi H Q => ∃ B S ρ dx, SOk G B S ρ H ∧ Rep G B ρ H dx x ∧ ∃ d, sSl S dx lo hi = some d ∧
  ∀ ρ' H' v, Ext ρ H ρ' H' → SOk G B S ρ' H' → Rep G B ρ' H' d v → Q v H'
theorem sl_sSl : SlR X (rSlOf ⟨X.K, X.mg⟩) := by
  intro pins s σ H x v vl vu lo hi sl Q I rx hs pl pu ⟨B, S, ρ, dx, so, hx, d, he, k⟩
  unfold sSl at he
  split at he
  · rename_i ds
    cases he
    have hx0 := hx
    obtain ⟨a, vs, rfl, h1, h2⟩ := tup_ok hx
    refine sl_tupA pins s σ H _ v vl vu lo hi sl Q I rx hs pl pu ⟨a, vs, rfl, h1, fun hw => ?_, fun hw p hp => ?_⟩
    · have : cutD ds lo hi = ds := by
        unfold cutD
        rw [h2.length, hw.1, hw.2, List.drop_zero, Nat.sub_zero, List.take_of_length_le (Nat.le_of_eq h2.length)]
      exact k ρ H _ Ext.refl so (by rw [this]; exact hx0)
    · exact k ρ _ _ (Ext.laid hp) (so.laid hp) (new_tup so (h2.cut lo hi) hp)
  · split at he
    · rename_i hz
      cases he
      simp only [Rep] at hx
      subst hx
      exact sl_str pins s σ H _ v vl vu lo hi sl Q I rx hs pl pu ⟨_, rfl, room_le hz, k ρ H _ Ext.refl so (by simp only [Rep])⟩
    · cases he
  · simp only [Option.map_eq_some_iff] at he
    obtain ⟨ds, he, rfl⟩ := he
    obtain ⟨a, vs, rfl, h1, h2⟩ := lstOf_ok so hx he
    exact sl_list pins s σ H _ v vl vu lo hi sl Q I rx hs pl pu ⟨a, vs, rfl, h1, fun p hp => k ρ _ _ (Ext.laid hp) (so.laid hp) (new_lst so (h2.cut lo hi) hp)⟩
def mSl (a : M) (l h : MO) : M := fun env S => (a env S).bind fun x S1 => (l env S1).bind fun lo S2 => (h env S2).bind fun hi S3 => Rs.of (sSl S3 x lo hi) S3
theorem se_slice {e : Expr} {lo hi : Option Expr} {ma : M} {ml mh : MO} {p2 pos : Pos} (ha : SE X W e ma) (hl : PO X lo (tO ⟨X.K, X.mg⟩ W ml)) (hh : PO X hi (tO ⟨X.K, X.mg⟩ W mh)) : SE X W (.Subscript e (.Slice lo hi none p2) pos) (mSl ma ml mh) :=
  PE.imp (pe_slice sl_sSl ha hl hh) fun σ H Q h => by
    obtain ⟨B, env, S, ρ, eo, so, P⟩ := h
    refine ⟨B, env, S, ρ, eo, so, Post.mono P.bind (fun d S1 ρ1 H1 e1 s1 P1 v r => ⟨B, env, S1, ρ1, eo.mono e1, s1, Post.mono P1.bind (fun lo S2 ρ2 H2 e2 s2 P2 => ⟨B, env, S2, ρ2, (eo.mono e1).mono e2, s2, Post.mono P2.bind (fun hi S3 ρ3 H3 e3 s3 P3 => ?_) (fun _ _ _ z => z)⟩) (fun _ _ _ z => z)⟩) (fun _ _ _ z => z)⟩
    cases q : sSl S3 d lo hi with
    | none => rw [q] at P3; exact P3.elim
    | some w =>
      rw [q] at P3
      exact ⟨B, S3, ρ3, d, s3, (r.mono e2).mono e3, w, q, fun ρ' H' v e s r => P3 ρ' H' e s v r⟩
end
end Ev

/-! Ev, part 4: built-ins, what loops walk, list comprehensions. -/
namespace Ev
open PySem L2
section
variable {X : Cx} {W : WX}

/-! ### built-ins by values -/
def rOfN (G : GC) (sem : Sto → List D → Option D) : List V → Hp → VK → Prop := fun xs H Q => ∃ B S ρ ds, SOk G B S ρ H ∧ RepL G B ρ H ds xs ∧ ∃ d, sem S ds = some d ∧
  ∀ ρ' H' v, Ext ρ H ρ' H' → SOk G B S ρ' H' → Rep G B ρ' H' d v → Q v H'
abbrev VCall (X : Cx) (f : Value) (sem : Sto → List D → Option D) : Prop := CallR X f (rOfN ⟨X.K, X.mg⟩ sem)
def mCB (sem : Sto → List D → Option D) (m : ML) : M := fun env S => (m env S).bind fun ds S1 => Rs.of (sem S1 ds) S1
theorem tE_cb {G : GC} {sem : Sto → List D → Option D} {m : ML} : ∀ σ H Q, tE G W (mCB sem m) σ H Q → tCB (rOfN G sem) (tA G W m) σ H Q := fun σ H Q h => by
  obtain ⟨B, env, S, ρ, eo, so, P⟩ := h
  refine ⟨B, env, S, ρ, eo, so, Post.mono P.bind (fun ds S1 ρ1 H1 e1 s1 P1 vs rs => ?_) (fun _ _ _ z => z)⟩
  cases q : sem S1 ds with
  | none => rw [q] at P1; exact P1.elim
  | some d =>
    rw [q] at P1
    exact ⟨B, S1, ρ1, ds, s1, rs, d, q, fun ρ' H' v e s r => P1 ρ' H' e s v r⟩
theorem se_callB {sem : Sto → List D → Option D} {id : String} {x : Str} {p pos : Pos} {e : Expr} {es : List Expr} {m : ML} (hc : VCall X (.builtin id) sem) (hm : X.mg x = none) (hv : bootBuiltins x = some (.builtin id)) (ha : SA X W (e :: es) m) (hg : Gl X x := by rfl)
    (hn : x ≠ "__name__" := by decide) (hdb : (x == ("__debug__" : Str)) = false := by decide)
    (he : starEach (e :: es) X.env = (false, eval e X.env) :: starEach es X.env := by rfl) (hpl : (backTo pos (starEach es X.env)).any (·.1) = false := by rfl) : SE X W (.Call (.Name x p) (e :: es) [] pos) (mCB sem m) :=
  PE.imp (pe_callB hc hg hm hv ha hn hdb he hpl) tE_cb
theorem se_callTy {sem : Sto → List D → Option D} {T : String} {x : Str} {p pos : Pos} {e : Expr} {es : List Expr} {m : ML} (hc : VCall X (.type T) sem) (hm : X.mg x = none) (hv : bootBuiltins x = some (.type T)) (ha : SA X W (e :: es) m) (hg : Gl X x := by rfl)
    (hn : x ≠ "__name__" := by decide) (hdb : (x == ("__debug__" : Str)) = false := by decide)
    (he : starEach (e :: es) X.env = (false, eval e X.env) :: starEach es X.env := by rfl) (hpl : (backTo pos (starEach es X.env)).any (·.1) = false := by rfl) : SE X W (.Call (.Name x p) (e :: es) [] pos) (mCB sem m) :=
  PE.imp (pe_callTy hc hg hm hv ha hn hdb he hpl) tE_cb
section
variable {G : GC} {B : Addr → Prop} {ρ : List Addr} {H : Hp}
theorem repL1 {d : D} {xs : List V} (r : RepL G B ρ H [d] xs) : ∃ v, xs = [v] ∧ Rep G B ρ H d v := by
  simp only [RepL] at r
  obtain ⟨v, w, rfl, h, rfl⟩ := r
  exact ⟨v, rfl, h⟩
theorem repL2 {d e : D} {xs : List V} (r : RepL G B ρ H [d, e] xs) : ∃ v w, xs = [v, w] ∧ Rep G B ρ H d v ∧ Rep G B ρ H e w := by
  simp only [RepL] at r
  obtain ⟨v, w, rfl, h, v2, w2, rfl, h2, rfl⟩ := r
  exact ⟨v, v2, rfl, h, h2⟩
end
/-- the type of plain data -/
def tyD (S : Sto) : D → Option String
  | .non => some "NoneType"
  | .bl _ => some "bool"
  | .int _ => some "int"
  | .str _ => some "str"
  | .tup _ => some "tuple"
  | .lst _ => some "list"
  | .rol _ => some "list"
  | .dic _ _ => some "dict"
  | .ref n => match S[n]? with | some (.lst _) => some "list" | some (.dk _ _) => some "dict" | _ => none
  | _ => none
theorem tyD_ok {K : PySem.W.Frag} {mg : Str → Option Value} {B : Addr → Prop} {ρ : List Addr} {H : Hp} {S : Sto} {d : D} {v : V} {t : String} (so : SOk ⟨K, mg⟩ B S ρ H) (r : Rep ⟨K, mg⟩ B ρ H d v) (h : tyD S d = some t) : TyX K H v (.type t) := by
  unfold tyD at h
  split at h
  · cases h; simp only [Rep] at r; subst r; exact .base .non
  · cases h; simp only [Rep] at r; subst r; exact .base (.bl _)
  · cases h; simp only [Rep] at r; subst r; exact .base (.int _)
  · cases h; simp only [Rep] at r; subst r; exact .base (.str _)
  · cases h; simp only [Rep] at r
    obtain ⟨a, vs, rfl, h1 | ⟨o, its, n, h1, h2, _⟩, _⟩ := r
    · exact .base (.tup h1.1)
    · exact .kTuple h1 h2
  · cases h; simp only [Rep] at r
    obtain ⟨a, vs, rfl, h1, _⟩ := r
    exact .base (.lst h1)
  · cases h; simp only [Rep] at r
    obtain ⟨a, vs, rfl, ⟨h1 | ⟨o, h1⟩, _⟩ | ⟨o, its, n, h1, h2, _⟩, _⟩ := r
    · exact .base (.lst h1)
    · exact .base (.frz h1)
    · exact .kList h1 h2
  · cases h; simp only [Rep] at r
    obtain ⟨a, kvs, rfl, h1, _⟩ := r
    exact .base (.dK h1)
  · split at h
    · rename_i q
      cases h; simp only [Rep] at r
      obtain ⟨a, rfl, h1⟩ := r
      obtain ⟨vs, h2, _⟩ := so.ob _ _ _ q h1
      exact .base (.lst h2)
    · rename_i q
      cases h; simp only [Rep] at r
      obtain ⟨a, rfl, h1⟩ := r
      obtain ⟨kvs, h2, _⟩ := so.ob _ _ _ q h1
      exact .base (.dK h2)
    · cases h
  · cases h
/-- isinstance(x, T), T a built-in class named by a global -/
def isB (T : String) (S : Sto) (d : D) : Option Bool := match tyD S d with | some t => L2.kitB t T | none => none
def sIsi (S : Sto) : List D → Option D
  | [d, .glo x] => match bootBuiltins x with | some (.type T) => (isB T S d).map .bl | _ => none
  | _ => none
/-- no module's name hides these built-in classes -/
def Unhid (mg : Str → Option Value) : Prop := mg "int" = none ∧ mg "bool" = none ∧ mg "str" = none ∧ mg "tuple" = none ∧ mg "list" = none
def tyNames : List Str := ["int", "bool", "str", "tuple", "list"]
def sIsiT (S : Sto) : List D → Option D
  | [d, .glo x] => if tyNames.contains x then match bootBuiltins x with | some (.type T) => (isB T S d).map .bl | _ => none else none
  | _ => none
theorem call_sIsi (u : ∀ x ∈ tyNames, X.mg x = none) : VCall X (.builtin "isinstance") sIsiT := by
  intro pins s σ H xs us Q I r ⟨B, S, ρ, ds, so, rs, d, he, k⟩
  unfold sIsiT at he
  split at he
  · rename_i d0 x
    split at he
    · rename_i hx
      split at he
      · rename_i T hT
        simp only [Option.map_eq_some_iff] at he
        obtain ⟨b, he, rfl⟩ := he
        obtain ⟨v, w, rfl, r1, r2⟩ := repL2 rs
        unfold isB at he
        split at he
        · rename_i t ht
          have ty := tyD_ok so r1 ht
          simp only [Rep] at r2
          obtain ⟨uu, h1, h2⟩ := r2
          have hmem : x ∈ tyNames := List.elem_iff.mp hx
          have hn := u x hmem
          rcases h1 with h1 | ⟨_, h1⟩
          · exact absurd (hn.symm.trans h1) nofun
          · rw [hT] at h1; cases h1
            have hw : w = .ty T := by
              cases w with
              | ty n => cases (show Value.type T = Value.type n from h2); rfl
              | non => exact nomatch h2
              | bl _ => exact nomatch h2
              | int _ => obtain ⟨_, z⟩ := h2; exact nomatch z
              | str _ => obtain ⟨_, z⟩ := h2; exact nomatch z
              | byt _ => obtain ⟨_, z⟩ := h2; exact nomatch z
              | flt _ => obtain ⟨_, z⟩ := h2; exact nomatch z
              | ref _ => exact nomatch h2
            subst hw
            exact call_isi pins s σ H _ us Q I r ⟨v, .ty T, .type t, .type T, b, rfl, .ty T, ty, kit_ty he, k ρ H _ Ext.refl so (by simp only [Rep])⟩
        · cases he
      · cases he
    · cases he
  · cases he
def sLen (S : Sto) : List D → Option D
  | [.tup ds] => some (.int (ds.length : Int))
  | [.str z] => if room z.length then some (.int (z.length : Int)) else none
  | [d] => (lstOf S d).map fun ds => .int (ds.length : Int)
  | _ => none
theorem call_sLen : VCall X (.builtin "len") sLen := by
  intro pins s σ H xs us Q I r ⟨B, S, ρ, ds, so, rs, d, he, k⟩
  unfold sLen at he
  split at he
  · cases he
    obtain ⟨v, rfl, r1⟩ := repL1 rs
    obtain ⟨a, vs, rfl, h1, h2⟩ := tup_ok r1
    exact call_len_seq pins s σ H _ us Q I r ⟨a, vs, rfl, .inr h1, by rw [← h2.length]; exact k ρ H _ Ext.refl so (by simp only [Rep])⟩
  · split at he
    · rename_i hz
      cases he
      obtain ⟨v, rfl, r1⟩ := repL1 rs
      simp only [Rep] at r1
      subst r1
      exact call_len_str pins s σ H _ us Q I r ⟨_, rfl, room_le hz, k ρ H _ Ext.refl so (by simp only [Rep])⟩
    · cases he
  · simp only [Option.map_eq_some_iff] at he
    obtain ⟨es, he, rfl⟩ := he
    obtain ⟨v, rfl, r1⟩ := repL1 rs
    obtain ⟨a, vs, rfl, h1, h2⟩ := lstOf_ok so r1 he
    exact call_len_seq pins s σ H _ us Q I r ⟨a, vs, rfl, .inl h1, by rw [← h2.length]; exact k ρ H _ Ext.refl so (by simp only [Rep])⟩
  · cases he
def sAbs (_ : Sto) : List D → Option D | [.int i] => some (.int (if i < 0 then -i else i)) | _ => none
theorem call_sAbs : VCall X (.builtin "abs") sAbs := by
  intro pins s σ H xs us Q I r ⟨B, S, ρ, ds, so, rs, d, he, k⟩
  unfold sAbs at he
  split at he
  · cases he
    obtain ⟨v, rfl, r1⟩ := repL1 rs
    simp only [Rep] at r1
    subst r1
    exact call_abs pins s σ H _ us Q I r ⟨_, rfl, k ρ H _ Ext.refl so (by simp only [Rep])⟩
  · cases he
def sMax (_ : Sto) : List D → Option D | [.int i, .int j] => some (.int (if j > i then j else i)) | _ => none
theorem call_sMax (hc : X.calm = true) : VCall X (.builtin "max") sMax := by
  intro pins s σ H xs us Q I r ⟨B, S, ρ, ds, so, rs, d, he, k⟩
  unfold sMax at he
  split at he
  · cases he
    obtain ⟨v, w, rfl, r1, r2⟩ := repL2 rs
    simp only [Rep] at r1 r2
    subst r1 r2
    exact call_max2 hc pins s σ H _ us Q I r ⟨_, _, rfl, k ρ H _ Ext.refl so (by simp only [Rep])⟩
  · cases he
def sMin (_ : Sto) : List D → Option D | [.int i, .int j] => some (.int (if j < i then j else i)) | _ => none
theorem call_sMin (hc : X.calm = true) : VCall X (.builtin "min") sMin := by
  intro pins s σ H xs us Q I r ⟨B, S, ρ, ds, so, rs, d, he, k⟩
  unfold sMin at he
  split at he
  · cases he
    obtain ⟨v, w, rfl, r1, r2⟩ := repL2 rs
    simp only [Rep] at r1 r2
    subst r1 r2
    exact call_min2 hc pins s σ H _ us Q I r ⟨_, _, rfl, k ρ H _ Ext.refl so (by simp only [Rep])⟩
  · cases he
def sInt (_ : Sto) : List D → Option D | [.int i] => some (.int i) | [.bl k] => some (.int (if k then 1 else 0)) | [.str a] => if Nat.ble a.length 640 then (PySem.intText? a).map .int else none | _ => none
theorem call_sInt : VCall X (.type "int") sInt := by
  intro pins s σ H xs us Q I r ⟨B, S, ρ, ds, so, rs, d, he, k⟩
  unfold sInt at he
  split at he
  · cases he
    obtain ⟨v, rfl, r1⟩ := repL1 rs
    simp only [Rep] at r1
    subst r1
    exact call_int1 pins s σ H _ us Q I r (.inl ⟨_, rfl, k ρ H _ Ext.refl so (by simp only [Rep])⟩)
  · cases he
    obtain ⟨v, rfl, r1⟩ := repL1 rs
    simp only [Rep] at r1
    subst r1
    exact call_int1 pins s σ H _ us Q I r (.inr ⟨_, rfl, k ρ H _ Ext.refl so (by simp only [Rep])⟩)
  · split at he
    · rename_i hz
      simp only [Option.map_eq_some_iff] at he
      obtain ⟨n, he, rfl⟩ := he
      obtain ⟨v, rfl, r1⟩ := repL1 rs
      simp only [Rep] at r1
      subst r1
      exact call_int_str pins s σ H _ us Q I r ⟨_, n, rfl, he, Nat.le_of_ble_eq_true hz, k ρ H _ Ext.refl so (by simp only [Rep])⟩
    · cases he
  · cases he
def sDivmod (_ : Sto) : List D → Option D
  | [.int i, .int j] => if decide (0 < j) && Nat.blt j.natAbs.log2 9000 then some (.tup [.int (i / j), .int (i % j)]) else none
  | _ => none
theorem call_sDivmod : VCall X (.builtin "divmod") sDivmod := by
  intro pins s σ H xs us Q I r ⟨B, S, ρ, ds, so, rs, d, he, k⟩
  unfold sDivmod at he
  split at he
  · split at he
    · rename_i i j hz
      cases he
      simp only [Bool.and_eq_true, decide_eq_true_eq] at hz
      obtain ⟨v, w, rfl, r1, r2⟩ := repL2 rs
      simp only [Rep] at r1 r2
      subst r1 r2
      refine call_divmodW pins s σ H _ us Q I r ⟨i, j, rfl, ⟨hz.1, PyProof.noPylong_of_log2 (Nat.le_of_ble_eq_true hz.2)⟩, fun p hp => ?_⟩
      exact k ρ _ _ (Ext.laid hp) (so.laid hp) (new_tup so (by simp only [RepL, Rep]; exact ⟨_, _, rfl, rfl, _, _, rfl, rfl, rfl⟩) hp)
    · cases he
  · cases he
/-- truth values alone -/
def blsOf : List D → Option (List Bool)
  | [] => some []
  | .bl b :: r => (blsOf r).map (b :: ·)
  | _ :: _ => none
theorem blsOf_ok {G : GC} {B : Addr → Prop} {ρ : List Addr} {H : Hp} : ∀ {ds : List D} {bs : List Bool} {vs : List V}, blsOf ds = some bs → RepL G B ρ H ds vs → vs = bs.map V.bl
  | [], bs, vs, h, r => by cases h; simp only [RepL] at r; exact r
  | d :: ds, bs, vs, h, r => by
    cases d with
    | bl b =>
      simp only [blsOf, Option.map_eq_some_iff] at h
      obtain ⟨cs, h, rfl⟩ := h
      simp only [RepL, Rep] at r
      obtain ⟨v, w, rfl, rfl, r⟩ := r
      rw [blsOf_ok h r]
      rfl
    | _ => simp [blsOf] at h
def sAll (S : Sto) : List D → Option D
  | [d] => (match lstOf S d with | some ds => (blsOf ds).map fun bs => .bl (bs.all id) | none => none)
  | _ => none
def sAny (S : Sto) : List D → Option D
  | [d] => (match lstOf S d with | some ds => (blsOf ds).map fun bs => .bl (bs.any id) | none => none)
  | _ => none
theorem call_sAll (hc : X.calm = true) : VCall X (.builtin "all") sAll := by
  intro pins s σ H xs us Q I r ⟨B, S, ρ, ds, so, rs, d, he, k⟩
  unfold sAll at he
  split at he
  · split at he
    · rename_i q
      simp only [Option.map_eq_some_iff] at he
      obtain ⟨bs, he, rfl⟩ := he
      obtain ⟨v, rfl, r1⟩ := repL1 rs
      obtain ⟨a, vs, rfl, h1, h2⟩ := lstOf_ok so r1 q
      exact cr_all hc pins s σ H _ us Q I r ⟨a, bs, rfl, by rw [← blsOf_ok he h2]; exact h1, k ρ H _ Ext.refl so (by simp only [Rep])⟩
    · cases he
  · cases he
theorem call_sAny (hc : X.calm = true) : VCall X (.builtin "any") sAny := by
  intro pins s σ H xs us Q I r ⟨B, S, ρ, ds, so, rs, d, he, k⟩
  unfold sAny at he
  split at he
  · split at he
    · rename_i q
      simp only [Option.map_eq_some_iff] at he
      obtain ⟨bs, he, rfl⟩ := he
      obtain ⟨v, rfl, r1⟩ := repL1 rs
      obtain ⟨a, vs, rfl, h1, h2⟩ := lstOf_ok so r1 q
      exact cr_any hc pins s σ H _ us Q I r ⟨a, bs, rfl, by rw [← blsOf_ok he h2]; exact h1, k ρ H _ Ext.refl so (by simp only [Rep])⟩
    · cases he
  · cases he

/-! ### what loops walk -/
structure Src (G : GC) (B : Addr → Prop) (J : It) (ds : List D) (ρ : List Addr) (H : Hp) : Prop where
  go : ∀ ρ' H' S, Ext ρ H ρ' H' → SOk G B S ρ' H' → ∀ i, i < ds.length → J.go i H'
  stop : ∀ ρ' H' S, Ext ρ H ρ' H' → SOk G B S ρ' H' → J.stop ds.length H'
  yld : ∀ ρ' H' S i x H2 d, Ext ρ H ρ' H' → SOk G B S ρ' H' → ds[i]? = some d → J.yld i H' x H2 → Same H' H2 ∧ Rep G B ρ' H2 d x
def tI (G : GC) (W : WX) (m : ML) : TI := fun σ H R => ∃ B env S ρ, EnvOk G B ρ H env σ ∧ SOk G B S ρ H ∧
  Post G B ρ H (m env S) (fun ds _ ρ' H' => ∀ J, (∀ B', (∀ a, B a → B' a) → (∀ a, B' a → ¬ B a → H' a = none) → ∀ ρ2 H2, Ext ρ' H' ρ2 H2 → Src G B' J ds ρ2 H2) → R J H') fun C d H' => W (.ref C) d σ H'
abbrev SI (X : Cx) (W : WX) (tg x : Expr) (m : ML) : Prop := PI X tg x (tI ⟨X.K, X.mg⟩ W m)
theorem PI.imp {tg x : Expr} {t u : TI} (h : PI X tg x t) (hi : ∀ σ H R, u σ H R → t σ H R) : PI X tg x u := ⟨fun pins s σ H R I q => h.run pins s σ H R I (hi σ H R q)⟩
/-- the protected set made larger by what is not tracked yet -/
theorem Rep.wide {G : GC} {B B' : Addr → Prop} {ρ : List Addr} {H : Hp} {d : D} {v : V} (hB : ∀ a, B' a → ¬ B a → H a = none) (r : Rep G B ρ H d v) : Rep G B' ρ H d v :=
  r.move (fun _ _ h => h) fun a o x q => ⟨q, x.1, fun b => by rw [hB a b x.2] at q; cases q⟩
theorem RepL.wide {G : GC} {B B' : Addr → Prop} {ρ : List Addr} {H : Hp} {d : List D} {v : List V} (hB : ∀ a, B' a → ¬ B a → H a = none) (r : RepL G B ρ H d v) : RepL G B' ρ H d v :=
  r.move (fun _ _ h => h) fun a o x q => ⟨q, x.1, fun b => by rw [hB a b x.2] at q; cases q⟩
theorem src_seq {K : PySem.W.Frag} {mg : Str → Option Value} {B : Addr → Prop} {ρ : List Addr} {H : Hp} {a : Addr} {ds : List D} {vs : List V} (hq : ∀ ρ' H', Ext ρ H ρ' H' → SqL K H' a vs) (r : RepL ⟨K, mg⟩ B ρ H ds vs) : Src ⟨K, mg⟩ B (Itl K a) ds ρ H where
  go := fun ρ' H' S e s i hi => ⟨vs, vs[i]'(by rw [← r.length]; exact hi), hq ρ' H' e, by simp⟩
  stop := fun ρ' H' S e s => ⟨vs, hq ρ' H' e, by rw [r.length]; exact Nat.le_refl _⟩
  yld := fun ρ' H' S i x H2 d e s hd y => by
    obtain ⟨e1, h1⟩ := y
    subst e1
    obtain ⟨v, h2, h3⟩ := (r.mono e).get hd
    rw [h1 vs (hq ρ' H2 e)] at h2
    cases h2
    exact ⟨Same.refl _, h3⟩
theorem src_tup {K : PySem.W.Frag} {mg : Str → Option Value} {B : Addr → Prop} {ρ : List Addr} {H : Hp} {a : Addr} {ds : List D} {vs : List V} (hq : ∀ ρ' H', Ext ρ H ρ' H' → SqT K H' a vs) (r : RepL ⟨K, mg⟩ B ρ H ds vs) : Src ⟨K, mg⟩ B (Itt K a) ds ρ H where
  go := fun ρ' H' S e s i hi => ⟨vs, vs[i]'(by rw [← r.length]; exact hi), hq ρ' H' e, by simp⟩
  stop := fun ρ' H' S e s => ⟨vs, hq ρ' H' e, by rw [r.length]; exact Nat.le_refl _⟩
  yld := fun ρ' H' S i x H2 d e s hd y => by
    obtain ⟨e1, h1⟩ := y
    subst e1
    obtain ⟨v, h2, h3⟩ := (r.mono e).get hd
    rw [h1 vs (hq ρ' H2 e)] at h2
    cases h2
    exact ⟨Same.refl _, h3⟩
/-- a list that does not change -/
def fixL : D → Option (List D) | .lst ds => some ds | .rol ds => some ds | _ => none
theorem fixL_ok {K : PySem.W.Frag} {mg : Str → Option Value} {B : Addr → Prop} {ρ : List Addr} {H : Hp} {d : D} {v : V} {ds : List D} (r : Rep ⟨K, mg⟩ B ρ H d v) (h : fixL d = some ds) : ∃ a vs, v = .ref a ∧ (∀ ρ' H', Ext ρ H ρ' H' → SqL K H' a vs) ∧ RepL ⟨K, mg⟩ B ρ H ds vs := by
  unfold fixL at h
  split at h
  · cases h
    simp only [Rep] at r
    obtain ⟨a, vs, e, h1, h2, h3⟩ := r
    exact ⟨a, vs, e, fun ρ' H' x => SqL.of (x.keep a _ h1 h2.1), h3⟩
  · cases h
    simp only [Rep] at r
    obtain ⟨a, vs, e, ⟨h1 | ⟨o, h1⟩, h2⟩ | h1, h3⟩ := r
    · exact ⟨a, vs, e, fun ρ' H' x => SqL.of (x.keep a _ h1 h2.1), h3⟩
    · exact ⟨a, vs, e, fun ρ' H' x => .inl (.inr ⟨o, x.keep a _ h1 h2.1⟩), h3⟩
    · exact ⟨a, vs, e, fun ρ' H' x => .inr h1, h3⟩
  · cases h
theorem tup_fix {K : PySem.W.Frag} {mg : Str → Option Value} {B : Addr → Prop} {ρ : List Addr} {H : Hp} {v : V} {ds : List D} (r : Rep ⟨K, mg⟩ B ρ H (.tup ds) v) : ∃ a vs, v = .ref a ∧ (∀ ρ' H', Ext ρ H ρ' H' → SqT K H' a vs) ∧ RepL ⟨K, mg⟩ B ρ H ds vs := by
  simp only [Rep] at r
  obtain ⟨a, vs, e, h1 | h1, h3⟩ := r
  · exact ⟨a, vs, e, fun ρ' H' x => SqT.of (x.keep a _ h1.1 h1.2.1), h3⟩
  · exact ⟨a, vs, e, fun ρ' H' x => .inr h1, h3⟩
def mItL (m : M) : ML := fun env S => (m env S).bind fun d S1 => Rs.of (fixL d) S1
def mItT (m : M) : ML := fun env S => (m env S).bind fun d S1 => match d with | .tup ds => .ok ds S1 | _ => .err
theorem si_list {l tg : Expr} {m : M} (hl : SE X W l m) : SI X W tg l (mItL m) :=
  PI.imp (pi_list hl) fun σ H R h => by
    obtain ⟨B, env, S, ρ, eo, so, P⟩ := h
    refine ⟨B, env, S, ρ, eo, so, Post.mono P.bind (fun d S1 ρ1 H1 e1 s1 P1 v r => ?_) (fun _ _ _ z => z)⟩
    cases q : fixL d with
    | none => rw [q] at P1; exact P1.elim
    | some ds =>
      rw [q] at P1
      obtain ⟨a, vs, rfl, h1, h2⟩ := fixL_ok r q
      refine ⟨a, rfl, ⟨vs, h1 ρ1 H1 Ext.refl⟩, P1 ρ1 H1 Ext.refl s1 _ fun B' hB1 hB ρ2 H2 e2 => ?_⟩
      exact src_seq (fun ρ' H' x => h1 ρ' H' (e2.trans x)) ((RepL.wide hB h2).mono e2)
theorem si_tup {l tg : Expr} {m : M} (hl : SE X W l m) : SI X W tg l (mItT m) :=
  PI.imp (pi_tup hl) fun σ H R h => by
    obtain ⟨B, env, S, ρ, eo, so, P⟩ := h
    refine ⟨B, env, S, ρ, eo, so, Post.mono P.bind (fun d S1 ρ1 H1 e1 s1 P1 v r => ?_) (fun _ _ _ z => z)⟩
    split at P1
    · obtain ⟨a, vs, rfl, h1, h2⟩ := tup_fix r
      refine ⟨a, rfl, ⟨vs, h1 ρ1 H1 Ext.refl⟩, P1 ρ1 H1 Ext.refl s1 _ fun B' hB1 hB ρ2 H2 e2 => ?_⟩
      exact src_tup (fun ρ' H' x => h1 ρ' H' (e2.trans x)) ((RepL.wide hB h2).mono e2)
    · exact P1.elim
def rngD (lo : Int) (n : Nat) : List D := (List.range n).map fun (i : Nat) => D.int (lo + (i : Int))
theorem src_rng {G : GC} {B : Addr → Prop} {ρ : List Addr} {H : Hp} {lo : Int} {n : Nat} : Src G B (Itr lo n) (rngD lo n) ρ H where
  go := fun ρ' H' S e s i hi => by
    unfold rngD at hi
    have h : i < n := by simpa using hi
    exact h
  stop := fun ρ' H' S e s => by show n ≤ _; unfold rngD; simp
  yld := fun ρ' H' S i x H2 d e s hd y => by
    obtain ⟨rfl, rfl⟩ := y
    unfold rngD at hd
    simp only [List.getElem?_map, Option.map_eq_some_iff] at hd
    obtain ⟨j, h1, rfl⟩ := hd
    have := List.getElem?_eq_some_iff.mp h1
    obtain ⟨h2, h3⟩ := this
    simp at h3
    subst h3
    exact ⟨Same.refl _, by simp only [Rep]⟩
def rngOk (i : Int) : Bool := Nat.blt i.natAbs 4000000000000000000
def mRng1 (m : ML) : ML := fun env S => (m env S).bind fun ds S1 => match ds with | [.int j] => if rngOk j then .ok (rngD 0 j.toNat) S1 else .err | _ => .err
def mRng2 (m : ML) : ML := fun env S => (m env S).bind fun ds S1 => match ds with | [.int i, .int j] => if rngOk i && rngOk j then .ok (rngD i (j - i).toNat) S1 else .err | _ => .err
theorem rngOk_ok {i : Int} (h : rngOk i = true) : -(2 ^ 62) ≤ i ∧ i < 2 ^ 62 := by
  have := Nat.le_of_ble_eq_true h
  omega
theorem si_range1 {a tg : Expr} {m : ML} {p pos : Pos} (hm : X.mg "range" = none) (ha : SA X W [a] m) (hg : Gl X "range" := by rfl) (hs : starEach [a] X.env = [(false, eval a X.env)] := by rfl) : SI X W tg (.Call (.Name "range" p) [a] [] pos) (mRng1 m) :=
  PI.imp (pi_range1 hg hm ha hs) fun σ H R h => by
    obtain ⟨B, env, S, ρ, eo, so, P⟩ := h
    refine ⟨B, env, S, ρ, eo, so, Post.mono P.bind (fun ds S1 ρ1 H1 e1 s1 P1 vs rs => ?_) (fun _ _ _ z => z)⟩
    split at P1
    · split at P1
      · rename_i j hz
        obtain ⟨v, rfl, r1⟩ := repL1 rs
        simp only [Rep] at r1
        subst r1
        obtain ⟨h1, h2⟩ := rngOk_ok hz
        exact ⟨j, rfl, h1, h2, P1 ρ1 H1 Ext.refl s1 _ fun B' hB1 hB ρ2 H2 e2 => src_rng⟩
      · exact P1.elim
    · exact P1.elim
theorem si_range2 {a b tg : Expr} {m : ML} {p pos : Pos} (hm : X.mg "range" = none) (ha : SA X W [a, b] m) (hg : Gl X "range" := by rfl) (hs : starEach [a, b] X.env = [(false, eval a X.env), (false, eval b X.env)] := by rfl) (hs2 : starEach [b] X.env = [(false, eval b X.env)] := by rfl) : SI X W tg (.Call (.Name "range" p) [a, b] [] pos) (mRng2 m) :=
  PI.imp (pi_range2 hg hm ha hs hs2) fun σ H R h => by
    obtain ⟨B, env, S, ρ, eo, so, P⟩ := h
    refine ⟨B, env, S, ρ, eo, so, Post.mono P.bind (fun ds S1 ρ1 H1 e1 s1 P1 vs rs => ?_) (fun _ _ _ z => z)⟩
    split at P1
    · split at P1
      · rename_i i j hz
        simp only [Bool.and_eq_true] at hz
        obtain ⟨v, w, rfl, r1, r2⟩ := repL2 rs
        simp only [Rep] at r1 r2
        subst r1 r2
        obtain ⟨h1, h2⟩ := rngOk_ok hz.1
        obtain ⟨h3, h4⟩ := rngOk_ok hz.2
        exact ⟨i, j, rfl, ⟨h1, h2, h3, h4⟩, P1 ρ1 H1 Ext.refl s1 _ fun B' hB1 hB ρ2 H2 e2 => src_rng⟩
      · exact P1.elim
    · exact P1.elim
end
end Ev

/-! Ev, part 5: targets, list comprehensions, statements. -/
namespace Ev
open PySem L2
section
variable {X : Cx} {W : WX}

/-! ### targets -/
abbrev MG := D → En → Sto → Option (En × Sto)
abbrev MGs := List D → En → Sto → Option (En × Sto)
/-- slots but ts are as they were -/
def Kept (ts : List Nat) (σ σ' : L2.St) : Prop := σ'.length = σ.length ∧ ∀ i, i ∉ ts → σ'[i]? = σ[i]?
def PostG (G : GC) (B : Addr → Prop) (ρ : List Addr) (H : Hp) (ts : List Nat) (σ : L2.St) (r : Option (En × Sto)) (Q : L2.St → Hp → Prop) : Prop :=
  match r with
  | some (e', S') => ∀ σ' ρ' H', Ext ρ H ρ' H' → SOk G B S' ρ' H' → EnvOk G B ρ' H' e' σ' → Kept ts σ σ' → Q σ' H'
  | none => False
def tG (G : GC) (g : MG) (ts : List Nat) : TG := fun v σ H Q => ∃ B env S ρ d, EnvOk G B ρ H env σ ∧ SOk G B S ρ H ∧ Rep G B ρ H d v ∧ PostG G B ρ H ts σ (g d env S) Q
def tGs (G : GC) (g : MGs) (ts : List Nat) : TGs := fun vs σ H Q => ∃ B env S ρ ds, EnvOk G B ρ H env σ ∧ SOk G B S ρ H ∧ RepL G B ρ H ds vs ∧ PostG G B ρ H ts σ (g ds env S) Q
abbrev SG (X : Cx) (tg : Expr) (g : MG) (ts : List Nat) : Prop := PG X tg (tG ⟨X.K, X.mg⟩ g ts)
abbrev SGs (X : Cx) (tg : List Expr) (g : MGs) (ts : List Nat) : Prop := PGs X tg (tGs ⟨X.K, X.mg⟩ g ts)
theorem PG.imp {x : Expr} {t u : TG} (h : PG X x t) (hi : ∀ v σ H Q, u v σ H Q → t v σ H Q) : PG X x u := ⟨fun pins s σ H v w Q I r q => h.run pins s σ H v w Q I r (hi v σ H Q q)⟩
theorem PGs.imp {x : List Expr} {t u : TGs} (h : PGs X x t) (hi : ∀ v σ H Q, u v σ H Q → t v σ H Q) : PGs X x u := ⟨fun pins s σ H v w Q I r q => h.run pins s σ H v w Q I r (hi v σ H Q q)⟩
def gNm (i : Nat) : MG := fun d env S => some (env.set i (some d), S)
theorem kept_set {σ : L2.St} {i : Nat} {v : Option V} : Kept [i] σ (σ.set i v) := ⟨List.length_set, fun j hj => List.getElem?_set_ne (fun e => hj (by simp [e]))⟩
theorem sg_name (i : Nat) {x : Str} {pos : Pos} (hN : X.N.Nodup) (hi : X.N[i]? = some x := by rfl) (hx : Loc X.env.scope x := by first | exact Or.inl rfl | exact Or.inr rfl) (hf : X.fn x = true ∨ X.env.scope.names.lookup x = some .local := by first | exact .inl rfl | exact .inr rfl | assumption) : SG X (.Name x pos) (gNm i) [i] :=
  PG.imp (pg_name hN hi hx hf) fun v σ H Q h => by
    obtain ⟨B, env, S, ρ, d, eo, so, r, P⟩ := h
    exact P _ ρ H Ext.refl so (eo.set r i) kept_set
def gsNil : MGs := fun ds env S => match ds with | [] => some (env, S) | _ => none
def gsCons (g : MG) (r : MGs) : MGs := fun ds env S => match ds with | d :: ds => (g d env S).bind fun p => r ds p.1 p.2 | _ => none
theorem sgs_nil : SGs X [] gsNil [] := PGs.imp pgs_nil fun vs σ H Q h => by
  obtain ⟨B, env, S, ρ, ds, eo, so, r, P⟩ := h
  unfold gsNil at P
  split at P
  · simp only [RepL] at r
    exact ⟨r, P σ ρ H Ext.refl so eo ⟨rfl, fun _ _ => rfl⟩⟩
  · exact P.elim
theorem sgs_cons {e : Expr} {es : List Expr} {g : MG} {gs : MGs} {ts us : List Nat} (h1 : SG X e g ts) (h2 : SGs X es gs us) (hs : (assignEach (e :: es) X.env).map (·.2) = assign e X.env :: (assignEach es X.env).map (·.2) := by rfl) : SGs X (e :: es) (gsCons g gs) (ts ++ us) :=
  PGs.imp (pgs_cons h1 h2 hs) fun vs σ H Q h => by
    obtain ⟨B, env, S, ρ, ds, eo, so, r, P⟩ := h
    unfold gsCons at P
    split at P
    · rename_i d ds
      simp only [RepL] at r
      obtain ⟨v, w, rfl, r1, r2⟩ := r
      refine ⟨v, w, rfl, B, env, S, ρ, d, eo, so, r1, ?_⟩
      cases q : g d env S with
      | none => rw [q] at P; exact P.elim
      | some p =>
        obtain ⟨e', S'⟩ := p
        rw [q] at P
        refine fun σ' ρ' H' x s' eo' k => ⟨B, e', S', ρ', ds, eo', s', r2.mono x, ?_⟩
        have P : PostG ⟨X.K, X.mg⟩ B ρ H (ts ++ us) σ (gs ds e' S') Q := P
        unfold PostG at P ⊢
        split at P
        · rename_i q2
          exact fun σ2 ρ2 H2 x2 s2 eo2 k2 => P σ2 ρ2 H2 (x.trans x2) s2 eo2 ⟨k2.1.trans k.1, fun i hi => by
            rw [k2.2 i (fun z => hi (List.mem_append_right _ z)), k.2 i (fun z => hi (List.mem_append_left _ z))]⟩
        · exact P.elim
    · exact P.elim
def gTp (n : Nat) (g : MGs) : MG := fun d env S => match d with | .tup ds => if ds.length = n then g ds env S else none | _ => none
theorem sg_tup {es : List Expr} {k : Nat} {g : MGs} {n : Nat} {ts : List Nat} {pos : Pos} (hc : X.calm = true) (h : SGs X es g ts) (hn : (assignEach es X.env).length = n := by rfl) (hst : (assignEach es X.env).findIdx? (·.1) = none := by rfl) : SG X (.Tuple es k pos) (gTp n g) ts :=
  PG.imp (pg_tup hc h hn hst) fun v σ H Q h => by
    obtain ⟨B, env, S, ρ, d, eo, so, r, P⟩ := h
    unfold gTp at P
    split at P
    · split at P
      · rename_i ds hl
        obtain ⟨a, vs, rfl, h1, h2⟩ := tup_ok r
        exact ⟨a, vs, rfl, h1, by rw [← h2.length]; exact hl, B, env, S, ρ, ds, eo, so, h2, P⟩
      · exact P.elim
    · exact P.elim
/-- o[i] = .. -/
def gSb (o i : M) : MG := fun d env S => match o env S with
  | .ok (.ref n) S1 => match i env S1 with
    | .ok (.int k) S2 => match S2[n]? with
      | some (.lst ds) => match ixN ds.length k with
        | some j => some (env, S2.set n (.lst (ds.set j d)))
        | none => none
      | _ => none
    | _ => none
  | _ => none
theorem sg_sub {o i : Expr} {mo mi : M} {pos : Pos} (ho : SE X W o mo) (hi : SE X W i mi)
    (ha : ∀ v, assign (.Subscript o i pos) X.env v = (do
      let ov ← holding [v] (eval o X.env)
      let iv ← holding [v, ov] (eval i X.env)
      standAt pos
      holding [v, ov, iv] (setItem ov iv v)
      release [v, ov, iv] []) := by intro _; rfl) : SG X (.Subscript o i pos) (gSb mo mi) [] :=
  PG.imp (pg_sub ho hi set_list ha) fun v σ H Q h => by
    obtain ⟨B, env, S, ρ, d, eo, so, r, P⟩ := h
    unfold gSb at P
    split at P
    · rename_i n S1 q1
      split at P
      · rename_i k S2 q2
        split at P
        · rename_i ds q3
          split at P
          · rename_i j q4
            refine ⟨B, env, S, ρ, eo, so, ?_⟩
            rw [q1]
            refine fun ρ1 H1 e1 s1 vo ro => ⟨B, env, S1, ρ1, eo.mono e1, s1, ?_⟩
            rw [q2]
            refine fun ρ2 H2 e2 s2 vi ri => ?_
            have ro := ro.mono e2
            simp only [Rep] at ro ri
            obtain ⟨a, rfl, hn⟩ := ro
            subst ri
            obtain ⟨vs, h1, h2⟩ := s2.ob _ _ _ q3 hn
            have hm : a ∈ ρ2 := List.mem_iff_getElem?.mpr ⟨n, hn⟩
            have r2 : Rep ⟨X.K, X.mg⟩ B ρ2 (upd H2 a (.lst (vs.set j v))) d v := ((r.mono e1).mono e2).mono (Ext.write hm)
            refine ⟨a, vs, k, j, rfl, rfl, h1, by rw [← h2.length]; exact q4, ?_⟩
            exact P σ ρ2 _ ((e1.trans e2).trans (Ext.write hm)) (s2.write hn ⟨_, upd_same, RepL.set j (h2.mono (Ext.write hm)) r2⟩) (((eo.mono e1).mono e2).mono (Ext.write hm)) ⟨rfl, fun _ _ => rfl⟩
          · exact P.elim
        · exact P.elim
      · exact P.elim
    · exact P.elim

/-! ### list comprehensions -/
def wipeE (env : En) : List Nat → En
  | [] => env
  | v :: vs => (wipeE env vs).set v none
theorem wipe_kept {ts vs : List Nat} (h : ∀ i ∈ ts, i ∈ vs) {σ σ' : L2.St} (k : Kept ts σ σ') : wipe σ' vs = wipe σ vs := by
  have key : ∀ (vs : List Nat) (σ : L2.St) (i : Nat), (wipe σ vs)[i]? = if i ∈ vs then (if i < σ.length then some none else none) else σ[i]? := by
    intro vs
    induction vs with
    | nil => intro σ i; simp [wipe]
    | cons v vs ih =>
      intro σ i
      unfold wipe
      by_cases hv : v = i
      · subst hv
        rw [List.getElem?_set_self']
        rw [ih]
        by_cases hl : v < σ.length
        · by_cases hm : v ∈ vs <;> simp [hm, hl]
        · by_cases hm : v ∈ vs <;> simp [hm, hl]
      · rw [List.getElem?_set_ne hv, ih]
        have hv' : ¬ i = v := fun e => hv e.symm
        simp [hv']
  apply List.ext_getElem?
  intro i
  rw [key, key, k.1]
  by_cases hi : i ∈ vs
  · rw [if_pos hi, if_pos hi]
  · rw [if_neg hi, if_neg hi, k.2 i (fun z => hi (h i z))]
theorem EnvOk.wipe {G : GC} {B : Addr → Prop} {ρ : List Addr} {H : Hp} {env : En} {σ : L2.St} (x : EnvOk G B ρ H env σ) : ∀ vs : List Nat, EnvOk G B ρ H (wipeE env vs) (L2.wipe σ vs)
  | [] => x
  | v :: vs => by
    have y := EnvOk.wipe x vs
    refine ⟨by unfold wipeE L2.wipe; rw [List.length_set, List.length_set]; exact y.len, fun i d h => ?_⟩
    unfold wipeE at h
    unfold L2.wipe
    by_cases hv : v = i
    · subst hv
      rw [List.getElem?_set_self'] at h
      cases q : (wipeE env vs)[v]? with
      | none => rw [q] at h; simp at h
      | some u => rw [q] at h; simp at h
    · rw [List.getElem?_set_ne hv] at h
      rw [List.getElem?_set_ne hv]
      exact y.at_ i d h
theorem wipe_wipe (σ : L2.St) (vs : List Nat) : wipe (wipe σ vs) vs = wipe σ vs := wipe_kept (ts := vs) (fun _ h => h) (by
  have : ∀ vs : List Nat, Kept vs σ (wipe σ vs) := fun vs => by
    induction vs with
    | nil => exact ⟨rfl, fun _ _ => rfl⟩
    | cons v vs ih =>
      unfold wipe
      refine ⟨by rw [List.length_set]; exact ih.1, fun i hi => ?_⟩
      rw [List.getElem?_set_ne (fun e => hi (by simp [e])), ih.2 i (fun z => hi (List.mem_cons_of_mem _ z))]
  exact this vs)
abbrev mYes : MT := fun _ S => .ok true S
/-- the turns: n items are there -/
def lcGo (g : MG) (mt : MT) (me : M) (env : En) : Nat → List D → Sto → Rs (List D)
  | _, [], S => .ok [] S
  | n, d :: ds, S => match g d env S with
    | none => .err
    | some (e', S1) => match mt e' S1 with
      | .ok true S2 => match me e' S2 with
        | .ok y S3 => if room n then match lcGo g mt me env (n + 1) ds S3 with
          | .ok ys S4 => .ok (y :: ys) S4
          | _ => .err else .err
        | _ => .err
      | .ok false S2 => lcGo g mt me env n ds S2
      | _ => .err
def mLC (mi : ML) (g : MG) (mt : MT) (me : M) (vs : List Nat) : M := fun env S => (mi env S).bind fun ds S1 => match lcGo g mt me (wipeE env vs) 0 ds S1 with
  | .ok ys S2 => .ok (.lst ys) S2
  | _ => .err
/-- no exception leaves a block -/
abbrev W0 : WX := fun _ _ _ _ => False
theorem Post.noX {α : Type} {G : GC} {B : Addr → Prop} {ρ : List Addr} {H : Hp} {a : α} {S' : Sto} {r : Rs α} {k : α → Sto → List Addr → Hp → Prop} {x : Addr → Option Addr → Hp → Prop} (e : r = .ok a S') (h : ∀ ρ' H', Ext ρ H ρ' H' → SOk G B S' ρ' H' → k a S' ρ' H') : Post G B ρ H r k x := by
  subst e; exact h
/-- the new list grows: what does not lean on it stays -/
theorem grow_rep {G : GC} {B : Addr → Prop} {ρ : List Addr} {H : Hp} {D0 : Addr} {o : HO} {d : D} {v : V} (hB : B D0) (r : Rep G B ρ H d v) : Rep G B ρ (upd H D0 o) d v :=
  r.move (fun _ _ h => h) fun a u x q => ⟨by rw [upd_ne (fun z : a = D0 => x.2 (z ▸ hB))]; exact q, x⟩
theorem grow_repL {G : GC} {B : Addr → Prop} {ρ : List Addr} {H : Hp} {D0 : Addr} {o : HO} {d : List D} {v : List V} (hB : B D0) (r : RepL G B ρ H d v) : RepL G B ρ (upd H D0 o) d v :=
  r.move (fun _ _ h => h) fun a u x q => ⟨by rw [upd_ne (fun z : a = D0 => x.2 (z ▸ hB))]; exact q, x⟩
theorem grow_sok {G : GC} {B : Addr → Prop} {S : Sto} {ρ : List Addr} {H : Hp} {D0 : Addr} {o : HO} (hB : B D0) (hρ : D0 ∉ ρ) (s : SOk G B S ρ H) : SOk G B S ρ (upd H D0 o) := by
  refine ⟨s.len, s.nd, fun a b => ?_, s.dis, fun n u a h1 h2 => ?_⟩
  · by_cases e : a = D0
    · exact ⟨o, by rw [e, upd_same]⟩
    · obtain ⟨w, q⟩ := s.b a b
      exact ⟨w, by rw [upd_ne e]; exact q⟩
  · have hne : a ≠ D0 := fun z => hρ (z ▸ List.mem_iff_getElem?.mpr ⟨n, h2⟩)
    have q := s.ob n u a h1 h2
    exact q.move (fun _ _ h => h) (fun a u x q => ⟨by rw [upd_ne (fun z : a = D0 => x.2 (z ▸ hB))]; exact q, x⟩) fun u q => by rw [upd_ne hne]; exact q
theorem grow_env {G : GC} {B : Addr → Prop} {ρ : List Addr} {H : Hp} {D0 : Addr} {o : HO} {env : En} {σ : L2.St} (hB : B D0) (x : EnvOk G B ρ H env σ) : EnvOk G B ρ (upd H D0 o) env σ :=
  ⟨x.len, fun i d h => let ⟨v, h1, h2⟩ := x.at_ i d h; ⟨v, h1, grow_rep hB h2⟩⟩
theorem SOk.wide {G : GC} {B B' : Addr → Prop} {S : Sto} {ρ : List Addr} {H H' : Hp} (s : SOk G B S ρ H) (hB : ∀ a, B' a → ¬ B a → H a = none) (hT : ∀ a, B' a → ∃ o, H' a = some o) (k : Same H H') : SOk G B' S ρ H' := by
  refine ⟨s.len, s.nd, hT, fun a m b => ?_, fun n u a h1 h2 => ?_⟩
  · obtain ⟨o, q⟩ := s.there m
    rw [hB a b (s.dis a m)] at q; cases q
  have q := s.ob n u a h1 h2
  exact q.move (fun _ _ h => h) (fun a o x q => ⟨k a o q, x.1, fun b => by rw [hB a b x.2] at q; cases q⟩) fun u q => k a u q
theorem EnvOk.wide {G : GC} {B B' : Addr → Prop} {ρ : List Addr} {H : Hp} {env : En} {σ : L2.St} (x : EnvOk G B ρ H env σ) (hB : ∀ a, B' a → ¬ B a → H a = none) : EnvOk G B' ρ H env σ :=
  ⟨x.len, fun i d h => let ⟨v, h1, h2⟩ := x.at_ i d h; ⟨v, h1, Rep.wide hB h2⟩⟩
theorem Rep.narrow {G : GC} {B B' : Addr → Prop} {ρ : List Addr} {H : Hp} {d : D} {v : V} (hB : ∀ a, B a → B' a) (r : Rep G B' ρ H d v) : Rep G B ρ H d v := r.move (fun _ _ h => h) fun a o x q => ⟨q, x.1, fun b => x.2 (hB a b)⟩
theorem RepL.narrow {G : GC} {B B' : Addr → Prop} {ρ : List Addr} {H : Hp} {d : List D} {v : List V} (hB : ∀ a, B a → B' a) (r : RepL G B' ρ H d v) : RepL G B ρ H d v := r.move (fun _ _ h => h) fun a o x q => ⟨q, x.1, fun b => x.2 (hB a b)⟩
theorem SOk.narrow {G : GC} {B B' : Addr → Prop} {S : Sto} {ρ : List Addr} {H : Hp} (hB : ∀ a, B a → B' a) (s : SOk G B' S ρ H) : SOk G B S ρ H := by
  refine ⟨s.len, s.nd, fun a b => s.b a (hB a b), fun a m b => s.dis a m (hB a b), fun n u a h1 h2 => ?_⟩
  have q := s.ob n u a h1 h2
  exact q.move (fun _ _ h => h) (fun a o x q => ⟨q, x.1, fun b => x.2 (hB a b)⟩) fun u q => q

/-- the reading of a comprehension -/
theorem tE_lc {G : GC} {mi : ML} {g : MG} {mt : MT} {me : M} {ts vs : List Nat} (hts : ∀ i ∈ ts, i ∈ vs) : ∀ σ H Q, tE G W (mLC mi g mt me vs) σ H Q → tLc (tI G W mi) (tG G g ts) (tT G W0 mt) (tE G W0 me) vs σ H Q := fun σ H Q h => by
  obtain ⟨B, env, S, ρ, eo, so, P⟩ := h
  refine ⟨B, env, S, ρ, eo, so, Post.mono P.bind (fun ds S1 ρ1 H1 e1 s1 P1 J hJ D0 hD => ?_) (fun _ _ _ z => z)⟩
  cases qr : lcGo g mt me (wipeE env vs) 0 ds S1 with
  | exc c p S2 => rw [qr] at P1; exact P1.elim
  | err => rw [qr] at P1; exact P1.elim
  | ok ys S9 =>
  rw [qr] at P1
  have fr := s1.fresh hD
  let B' : Addr → Prop := fun a => B a ∨ a = D0
  have hB1 : ∀ a, B a → B' a := fun a b => .inl b
  have hB2 : ∀ a, B' a → ¬ B a → H1 a = none := fun a b n => by
    rcases b with b | b
    · exact absurd b n
    · rw [b]; exact hD
  have hBD : B' D0 := .inr rfl
  have sameD : Same H1 (upd H1 D0 (.lst [])) := same_laid hD
  have s2 : SOk G B' S1 ρ1 (upd H1 D0 (.lst [])) := s1.wide hB2 (fun a b => by
    rcases b with b | b
    · obtain ⟨o, q⟩ := s1.b a b; exact ⟨o, sameD a o q⟩
    · exact ⟨_, by rw [b, upd_same]⟩) sameD
  have eo2 : EnvOk G B' ρ1 (upd H1 D0 (.lst [])) env σ := ((eo.mono e1).wide hB2).mono (Ext.of_same sameD)
  -- the invariant: by the turn and the heap
  let Pv : Nat → Hp → Prop := fun i H' => ∃ (ρ' : List Addr) (S' : Sto) (acc : List D) (avs : List V) (rest : List D), i ≤ ds.length ∧ (∀ (n : Nat) (a : Addr), ρ1[n]? = some a → ρ'[n]? = some a) ∧ (∀ a o, H1 a = some o → a ∉ ρ1 → H' a = some o) ∧ (∀ a, a ∈ ρ' → a ∉ ρ1 → H1 a = none) ∧ D0 ∉ ρ' ∧
    SOk G B' S' ρ' H' ∧ EnvOk G B' ρ' H' env σ ∧ H' D0 = some (.lst avs) ∧ RepL G B' ρ' H' acc avs ∧ lcGo g mt me (wipeE env vs) acc.length (ds.drop i) S' = .ok rest S9 ∧ acc ++ rest = ys
  have h0 : Pv 0 (upd H1 D0 (.lst [])) := ⟨ρ1, S1, [], [], ys, Nat.zero_le _, fun _ _ h => h, fun a o q _ => sameD a o q, fun _ h n => absurd h n, fr.1, s2, eo2, upd_same, by simp only [RepL], by simpa using qr, rfl⟩
  refine ⟨fun i m H' => m = ds.length - i ∧ Pv i H', ⟨_, rfl, h0⟩, ?_⟩
  rintro i m H' ⟨rfl, ρ', S', acc, avs, rest, hi, p1, p2, p3, p4, p5, p6, p7, p8, p9, p10⟩
  -- the source, under the wider protected set
  have hsrc : Src G B' J ds ρ' H' := by
    have ex1 : Ext ρ1 H1 ρ' H' := ⟨p1, p2, p3⟩
    exact hJ B' hB1 hB2 ρ' H' ex1
  by_cases hlt : i < ds.length
  · refine .inr ⟨hsrc.go ρ' H' S' Ext.refl p5 i hlt, fun H2 => Pv (i + 1) H2, fun H2 pv => ⟨ds.length - (i + 1), by omega, rfl, pv⟩, fun x H2 y => ?_⟩
    have hd : ds[i]? = some ds[i] := by simp [hlt]
    obtain ⟨k1, r1⟩ := hsrc.yld ρ' H' S' i x H2 ds[i] Ext.refl p5 hd y
    have hdrop : ds.drop i = ds[i] :: ds.drop (i + 1) := (List.drop_eq_getElem_cons hlt)
    rw [hdrop] at p9
    simp only [lcGo] at p9
    have ek := Ext.of_same (ρ := ρ') k1
    have s3 := p5.same k1
    have eo3 := p6.mono ek
    refine ⟨B', wipeE env vs, S', ρ', ds[i], eo3.wipe vs, s3, r1, ?_⟩
    split at p9
    · cases p9
    · rename_i e' S1' qg
      rw [qg]
      refine fun σ2 ρ2 H3 x2 s4 eo4 kp => ⟨(wipe_kept hts kp).trans (wipe_wipe σ vs), B', e', S1', ρ2, eo4, s4, ?_⟩
      split at p9
      · -- kept
        rename_i S2' qt
        refine Post.noX qt fun ρ3 H4 x3 s5 => ?_
        refine iteT ?_
        split at p9
        · rename_i yv S3' qe
          split at p9
          · rename_i hroom
            split at p9
            · rename_i ys' S4' qrest
              cases p9
              refine ⟨B', e', S2', ρ3, eo4.mono x3, s5, Post.noX qe fun ρ4 H5 x4 s6 w rw' => ?_⟩
              have X : Ext ρ' H' ρ4 H5 := ((ek.trans x2).trans x3).trans x4
              have hD5 : H5 D0 = some (.lst avs) := X.keep D0 _ p7 p4
              have hDρ : D0 ∉ ρ4 := X.out p7 p4
              refine ⟨avs, hD5, by rw [← (p8.length)]; exact Nat.lt_of_le_of_lt (Nat.le_of_ble_eq_true hroom) (by rw [sizeLine_eq]; decide), ρ4, S3', acc ++ [yv], avs ++ [w], ys', hlt, ?_, ?_, ?_, hDρ, grow_sok hBD hDρ s6, grow_env hBD (p6.mono X), upd_same, grow_repL hBD (RepL.append (p8.mono X) (by simp only [RepL]; exact ⟨w, [], rfl, rw', rfl⟩)), ?_, ?_⟩
              · exact fun n a q => X.pre n a (p1 n a q)
              · exact fun a o q n => by
                  have hne : a ≠ D0 := fun z => by rw [z, hD] at q; cases q
                  rw [upd_ne hne]
                  have q2 := p2 a o q n
                  exact X.keep a o q2 (fun z => by rw [p3 a z n] at q; cases q)
              · exact fun a m n => by
                  by_cases hm : a ∈ ρ'
                  · exact p3 a hm n
                  · have z := X.new a m hm
                    cases q : H1 a with
                    | none => rfl
                    | some o => rw [p2 a o q n] at z; cases z
              · simpa using qrest
              · rw [List.append_assoc]; exact p10
            · cases p9
          · cases p9
        · cases p9
      · -- left out
        rename_i S2' qt
        refine Post.noX qt fun ρ3 H4 x3 s5 => ?_
        refine iteF ?_
        have X : Ext ρ' H' ρ3 H4 := (ek.trans x2).trans x3
        have hD5 : H4 D0 = some (.lst avs) := X.keep D0 _ p7 p4
        have hDρ : D0 ∉ ρ3 := X.out p7 p4
        refine ⟨ρ3, S2', acc, avs, rest, hlt, fun n a q => X.pre n a (p1 n a q), fun a o q n => ?_, fun a m n => ?_, hDρ, s5, p6.mono X, hD5, p8.mono X, p9, p10⟩
        · have q2 := p2 a o q n
          exact X.keep a o q2 (fun z => by rw [p3 a z n] at q; cases q)
        · by_cases hm : a ∈ ρ'
          · exact p3 a hm n
          · have z := X.new a m hm
            cases q : H1 a with
            | none => rfl
            | some o => rw [p2 a o q n] at z; cases z
      · cases p9
  · have e : i = ds.length := by omega
    subst e
    refine .inl ⟨hsrc.stop ρ' H' S' Ext.refl p5, ?_⟩
    rw [List.drop_length] at p9
    simp only [lcGo] at p9
    cases p9
    rw [List.append_nil] at p10
    subst p10
    exact P1 ρ' H' ⟨p1, p2, p3⟩ (p5.narrow hB1) _ (by
      simp only [Rep]
      exact ⟨D0, avs, rfl, p7, ⟨p4, fr.2⟩, p8.narrow hB1⟩)
end
end Ev

/-! Ev, part 6: comprehensions as expressions, statements, calls of defs, what a def promises. -/
namespace Ev
open PySem L2
section
variable {X : Cx} {W : WX}
theorem se_lc {elt tg iter : Expr} {ifs : List Expr} {scope : Scope} {own : List (Str × Nat)} {pos : Pos} {mi : ML} {g : MG} {mt : MT} {me : M} {ts : List Nat} (hc : X.calm = true) (hN : X.N.Nodup) (hi : SI X W tg iter mi) (ok : BlkOk X.N X.env.scope scope own)
    (hg : ∀ (s : Shared) (H : Hp) (C : Addr) (cl : List (Str × Addr)) (fp : List Addr), SG (X.blk s H scope (compEnvC scope cl C X.env) fp) tg g ts) (ht : ∀ (s : Shared) (H : Hp) (C : Addr) (cl : List (Str × Addr)) (fp : List Addr), PTs (X.blk s H scope (compEnvC scope cl C X.env) fp) ifs (tT ⟨X.K, X.mg⟩ W0 mt))
    (he : ∀ (s : Shared) (H : Hp) (C : Addr) (cl : List (Str × Addr)) (fp : List Addr), SE (X.blk s H scope (compEnvC scope cl C X.env) fp) W0 elt me) (hts : ∀ i ∈ ts, i ∈ own.map (·.2) := by decide) (hs : ∀ x, foldedSetIterable iter X.env x = pure x := by intro _; rfl) :
    SE X W (.ListComp elt [⟨tg, iter, ifs, 0⟩] scope pos) (mLC mi g mt me (own.map (·.2))) :=
  PE.imp (pe_lc hc hN hi ok hg ht he hs) (tE_lc hts)
theorem sts_nil {X : Cx} {W : WX} : PTs X [] (tT ⟨X.K, X.mg⟩ W mYes) := ⟨fun pins s σ H Q I h => by
  obtain ⟨B, env, S, ρ, eo, so, P⟩ := h
  exact pts_nil.run pins s σ H Q I (P ρ H Ext.refl so)⟩
theorem sts_one {c : Expr} {m : MT} (h : ST X W c m) : PTs X [c] (tT ⟨X.K, X.mg⟩ W m) := pts_one h

theorem Post.ext1 {α : Type} {G : GC} {B : Addr → Prop} {ρ ρ1 : List Addr} {H H1 : Hp} {r : Rs α} {k : α → Sto → List Addr → Hp → Prop} {x : Addr → Option Addr → Hp → Prop} (h : Post G B ρ H r k x) (e : Ext ρ H ρ1 H1) : Post G B ρ1 H1 r k x := by
  cases r with
  | ok a S => exact fun ρ' H' e2 => h ρ' H' (e.trans e2)
  | exc c p S => exact fun ρ' H' C d e2 => h ρ' H' C d (e.trans e2)
  | err => exact h

/-! ### statements -/
def lft {α : Type} (r : Rs α) (env : En) (k : α → Sto → Option (Fl × Sto)) : Option (Fl × Sto) :=
  match r with
  | .ok a S => k a S
  | .exc c p S => some (.xc env c p, S)
  | .err => none
@[simp] theorem lft_ok {α : Type} (a : α) (S : Sto) (env : En) (k : α → Sto → Option (Fl × Sto)) : lft (.ok a S) env k = k a S := rfl
@[simp] theorem lft_exc {α : Type} (c : Str) (p : Option (List Str × List D)) (S : Sto) (env : En) (k : α → Sto → Option (Fl × Sto)) : lft (.exc c p S : Rs α) env k = some (.xc env c p, S) := rfl
@[simp] theorem lft_err {α : Type} (env : En) (k : α → Sto → Option (Fl × Sto)) : lft (.err : Rs α) env k = none := rfl
theorem PostS.lft {α : Type} {G : GC} {W : WX} {B : Addr → Prop} {ρ : List Addr} {H : Hp} {r : Rs α} {env : En} {σ : L2.St} {k : α → Sto → Option (Fl × Sto)} {D : Ends} (h : PostS G W B ρ H (Ev.lft r env k) D) (eo : EnvOk G B ρ H env σ) :
    Post G B ρ H r (fun a S' ρ' H' => PostS G W B ρ' H' (k a S') D) fun C d H' => W (.ref C) d σ H' := by
  cases r with
  | ok a S => exact fun ρ' H' e s => PostS.ext h e
  | exc c p S => exact fun ρ' H' C d e s q => h σ ρ' H' C d e s (eo.mono e) q
  | err => exact h
def mSkip : MS := fun env S => some (.nx env, S)
def mSeq (a b : MS) : MS := fun env S => match a env S with
  | some (.nx e', S') => b e' S'
  | r => r
theorem sss_nil : SSs X W [] mSkip := PSs.imp pss_nil fun D σ H h => by
  obtain ⟨B, env, S, ρ, eo, so, P⟩ := h
  exact P σ ρ H Ext.refl so eo
theorem sss_cons {st : Stmt} {rest : List Stmt} {ma mb : MS} (ha : SS X W st ma) (hb : SSs X W rest mb) : SSs X W (st :: rest) (mSeq ma mb) := PSs.imp (pss_cons ha hb) fun D σ H h => by
  obtain ⟨B, env, S, ρ, eo, so, P⟩ := h
  refine ⟨B, env, S, ρ, eo, so, ?_⟩
  have P : PostS ⟨X.K, X.mg⟩ W B ρ H (mSeq ma mb env S) D := P
  unfold mSeq at P
  cases q : ma env S with
  | none => rw [q] at P; exact P
  | some r =>
    obtain ⟨f, S'⟩ := r
    rw [q] at P
    cases f with
    | nx e' => exact fun σ' ρ' H' e s eo' => ⟨B, e', S', ρ', eo', s, PostS.ext P e⟩
    | rt d => exact P
    | bk e' => exact P
    | ct e' => exact P
    | xc e' c p => exact P
theorem sss_one {st : Stmt} {ma : MS} (ha : SS X W st ma) : SSs X W [st] ma := pss_one ha
def mIfS (c : MT) (a b : MS) : MS := fun env S => lft (c env S) env fun k S1 => if k then a env S1 else b env S1
theorem ss_if {c : Expr} {a b : List Stmt} {mc : MT} {ma mb : MS} {pos : Pos} (hc : ST X W c mc) (ha : SSs X W a ma) (hb : SSs X W b mb) : SS X W (.If c a b pos) (mIfS mc ma mb) := PS.imp (ps_if hc ha hb) fun D σ H h => by
  obtain ⟨B, env, S, ρ, eo, so, P⟩ := h
  refine ⟨B, env, S, ρ, eo, so, Post.mono (PostS.lft P eo) (fun k S1 ρ1 H1 e1 s1 P1 => ?_) (fun _ _ _ z => z)⟩
  cases k with
  | true => exact iteT ⟨B, env, S1, ρ1, eo.mono e1, s1, by simpa using P1⟩
  | false => exact iteF ⟨B, env, S1, ρ1, eo.mono e1, s1, by simpa using P1⟩
def mRet (m : M) : MS := fun env S => lft (m env S) env fun d S1 => some (.rt d, S1)
theorem ss_ret {e : Expr} {m : M} {pos : Pos} (he : SE X W e m) : SS X W (.Return (some e) pos) (mRet m) := PS.imp (ps_ret he) fun D σ H h => by
  obtain ⟨B, env, S, ρ, eo, so, P⟩ := h
  exact ⟨B, env, S, ρ, eo, so, Post.mono (PostS.lft P eo) (fun d S1 ρ1 H1 e1 s1 P1 v r => P1 ρ1 H1 v Ext.refl s1 r) (fun _ _ _ z => z)⟩
def mRetN : MS := fun _ S => some (.rt .non, S)
theorem ss_retN {pos : Pos} : SS X W (.Return none pos) mRetN := PS.imp ps_retN fun D σ H h => by
  obtain ⟨B, env, S, ρ, eo, so, P⟩ := h
  exact P ρ H _ Ext.refl so (by simp only [Rep])
def mDrop (m : M) : MS := fun env S => lft (m env S) env fun _ S1 => some (.nx env, S1)
theorem ss_expr {e : Expr} {m : M} {pos : Pos} (he : SE X W e m) (hs : swapsWith e none pos.line X.env = pure false := by rfl) : SS X W (.Expr e pos) (mDrop m) := PS.imp (ps_expr he hs) fun D σ H h => by
  obtain ⟨B, env, S, ρ, eo, so, P⟩ := h
  exact ⟨B, env, S, ρ, eo, so, Post.mono (PostS.lft P eo) (fun d S1 ρ1 H1 e1 s1 P1 v r => P1 σ ρ1 H1 Ext.refl s1 (eo.mono e1)) (fun _ _ _ z => z)⟩
theorem ss_pass {pos : Pos} : SS X W (.Pass pos) mSkip := PS.imp ps_pass fun D σ H h => by
  obtain ⟨B, env, S, ρ, eo, so, P⟩ := h
  exact P σ ρ H Ext.refl so eo
def mBrk : MS := fun env S => some (.bk env, S)
def mCnt : MS := fun env S => some (.ct env, S)
theorem ss_break {pos : Pos} : SS X W (.Break pos) mBrk := PS.imp ps_break fun D σ H h => by
  obtain ⟨B, env, S, ρ, eo, so, P⟩ := h
  exact P σ ρ H Ext.refl so eo
theorem ss_continue {pos : Pos} : SS X W (.Continue pos) mCnt := PS.imp ps_continue fun D σ H h => by
  obtain ⟨B, env, S, ρ, eo, so, P⟩ := h
  exact P σ ρ H Ext.refl so eo
/-- a statement, a block that is never come to -/
def mNever : MS := fun _ _ => none
theorem ss_never {st : Stmt} : SS X W st mNever := PS.imp ps_never fun D σ H h => by
  obtain ⟨B, env, S, ρ, eo, so, P⟩ := h
  exact P.elim
def mAsg (m : M) (g : MG) : MS := fun env S => lft (m env S) env fun d S1 => match g d env S1 with | some (e', S') => some (.nx e', S') | none => none
theorem tS_asg {m : M} {g : MG} {ts : List Nat} {G : GC} : ∀ D σ H, tS G W (mAsg m g) D σ H → tAsg (tE G W m) (tG G g ts) D σ H := fun D σ H h => by
  obtain ⟨B, env, S, ρ, eo, so, P⟩ := h
  refine ⟨B, env, S, ρ, eo, so, Post.mono (PostS.lft P eo) (fun d S1 ρ1 H1 e1 s1 P1 v r => ⟨B, env, S1, ρ1, d, eo.mono e1, s1, r, ?_⟩) (fun _ _ _ z => z)⟩
  unfold PostG
  cases q : g d env S1 with
  | none => rw [q] at P1; exact P1
  | some p =>
    obtain ⟨e', S'⟩ := p
    rw [q] at P1
    exact fun σ' ρ' H' e s eo' _ => P1 σ' ρ' H' e s eo'
theorem ss_asg {tg e : Expr} {m : M} {g : MG} {ts : List Nat} {pos : Pos} (he : SE X W e m) (hg : SG X tg g ts) (hs : swapsWithSole [tg] e pos.line X.env = pure false := by rfl) (hw : swappedStores [tg] e X.env = pure none := by rfl)
    (h1 : (assignEach [tg] X.env).map (·.2) = [assign tg X.env] := by rfl) : SS X W (.Assign [tg] e pos) (mAsg m g) := PS.imp (ps_asg he hg hs hw h1) tS_asg
theorem ss_set (i : Nat) {x : Str} {e : Expr} {m : M} {pos pos' : Pos} (hN : X.N.Nodup) (he : SE X W e m) (hi : X.N[i]? = some x := by rfl) (hx : Loc X.env.scope x := by first | exact Or.inl rfl | exact Or.inr rfl) (hs : swapsWith e (some (.Name x pos')) pos.line X.env = pure false := by rfl)
    (hf : X.fn x = true ∨ X.env.scope.names.lookup x = some .local := by first | exact .inl rfl | exact .inr rfl | assumption) : SS X W (.Assign [.Name x pos'] e pos) (mAsg m (gNm i)) := PS.imp (ps_set hN hi hx he hs hf) fun D σ H h => by
  have h := tS_asg (ts := [i]) D σ H h
  obtain ⟨B, env, S, ρ, eo, so, P⟩ := h
  refine ⟨B, env, S, ρ, eo, so, Post.mono P (fun d S1 ρ1 H1 e1 s1 P1 v r => ?_) (fun _ _ _ z => z)⟩
  obtain ⟨B2, env2, S2, ρ2, d2, eo2, so2, r2, P2⟩ := P1 v r
  exact P2 _ ρ2 H1 Ext.refl so2 (eo2.set r2 i) kept_set
theorem ss_setLc (i : Nat) {y : Str} {py : Pos} {elt tg iter : Expr} {ifs : List Expr} {scope : Scope} {own : List (Str × Nat)} {pos spos : Pos} {mi : ML} {g : MG} {mt : MT} {me : M} {ts : List Nat} (hc : X.calm = true) (hN : X.N.Nodup)
    (hi : SI X W tg iter mi) (ok : BlkOk X.N X.env.scope scope own)
    (hg : ∀ (s : Shared) (H : Hp) (C : Addr) (cl : List (Str × Addr)) (fp : List Addr), SG (X.blk s H scope (compEnvC scope cl C X.env) fp) tg g ts) (ht : ∀ (s : Shared) (H : Hp) (C : Addr) (cl : List (Str × Addr)) (fp : List Addr), PTs (X.blk s H scope (compEnvC scope cl C X.env) fp) ifs (tT ⟨X.K, X.mg⟩ W0 mt))
    (he : ∀ (s : Shared) (H : Hp) (C : Addr) (cl : List (Str × Addr)) (fp : List Addr), SE (X.blk s H scope (compEnvC scope cl C X.env) fp) W0 elt me)
    (hy : X.N[i]? = some y := by rfl) (hyl : X.env.scope.names.lookup y = some .local := by rfl)
    (hsw : swapsWith (.ListComp elt [⟨tg, iter, ifs, 0⟩] scope pos) (some (.Name y py)) spos.line X.env = pure true := by rfl) (hts : ∀ i ∈ ts, i ∈ own.map (·.2) := by decide) (hs : ∀ x, foldedSetIterable iter X.env x = pure x := by intro _; rfl) :
    SS X W (.Assign [.Name y py] (.ListComp elt [⟨tg, iter, ifs, 0⟩] scope pos) spos) (mAsg (mLC mi g mt me (own.map (·.2))) (gNm i)) := PS.imp (ps_setLc hc hN hy hyl hsw hi ok hg ht he hs) fun D σ H h => by
  have h := tS_asg (ts := [i]) D σ H h
  refine tE_lc (mi := mi) (g := g) (mt := mt) (me := me) hts σ H _ ?_
  obtain ⟨B, env, S, ρ, eo, so, P⟩ := h
  refine ⟨B, env, S, ρ, eo, so, Post.mono P (fun d S1 ρ1 H1 e1 s1 P1 v r => ?_) (fun _ _ _ z => z)⟩
  obtain ⟨B2, env2, S2, ρ2, d2, eo2, so2, r2, P2⟩ := P1 v r
  exact P2 _ ρ2 H1 Ext.refl so2 (eo2.set r2 i) kept_set
def mPar (i j : Nat) (m : ML) : MS := fun env S => lft (m env S) env fun ds S1 => match ds with | [a, b] => some (.nx ((env.set i (some a)).set j (some b)), S1) | _ => none
theorem ss_par (i j : Nat) {x y : Str} {a b : Expr} {m : ML} {px py pt pos : Pos} {kt k2 : Nat} {pt2 : Pos} (hc : X.calm = true) (hN : X.N.Nodup) (ha : SA X W [a, b] m) (hi : X.N[i]? = some x := by rfl) (hj : X.N[j]? = some y := by rfl) (hij : i ≠ j := by decide)
    (hx : X.env.scope.names.lookup x = some .local := by rfl) (hy : X.env.scope.names.lookup y = some .local := by rfl)
    (hw : swappedStores [.Tuple [.Name x px, .Name y py] kt pt] (.Tuple [a, b] k2 pt2) X.env = pure (some [x, y]) := by rfl)
    (hs : swapsWithSole [.Tuple [.Name x px, .Name y py] kt pt] (.Tuple [a, b] k2 pt2) pos.line X.env = pure false := by rfl) :
    SS X W (.Assign [.Tuple [.Name x px, .Name y py] kt pt] (.Tuple [a, b] k2 pt2) pos) (mPar i j m) := PS.imp (ps_par hc hN hi hj hij hx hy ha hw hs) fun D σ H h => by
  obtain ⟨B, env, S, ρ, eo, so, P⟩ := h
  refine ⟨B, env, S, ρ, eo, so, Post.mono (PostS.lft P eo) (fun ds S1 ρ1 H1 e1 s1 P1 vs r => ?_) (fun _ _ _ z => z)⟩
  split at P1
  · obtain ⟨v, w, rfl, r1, r2⟩ := repL2 r
    exact ⟨v, w, rfl, P1 _ ρ1 H1 Ext.refl s1 (((eo.mono e1).set r1 i).set r2 j)⟩
  · exact P1.elim
def mPar3 (i j l : Nat) (m : ML) : MS := fun env S => lft (m env S) env fun ds S1 => match ds with | [a, b, c] => some (.nx (((env.set i (some a)).set j (some b)).set l (some c)), S1) | _ => none
theorem ss_par3 (i j l : Nat) {x y z : Str} {a b c : Expr} {m : ML} {px py pz pt pos : Pos} {kt k2 : Nat} {pt2 : Pos} (hc : X.calm = true) (hN : X.N.Nodup) (ha : SA X W [a, b, c] m) (hi : X.N[i]? = some x := by rfl) (hj : X.N[j]? = some y := by rfl) (hl : X.N[l]? = some z := by rfl) (hij : i ≠ j := by decide) (hil : i ≠ l := by decide) (hjl : j ≠ l := by decide)
    (hx : X.env.scope.names.lookup x = some .local := by rfl) (hy : X.env.scope.names.lookup y = some .local := by rfl) (hz : X.env.scope.names.lookup z = some .local := by rfl)
    (hw : swappedStores [.Tuple [.Name x px, .Name y py, .Name z pz] kt pt] (.Tuple [a, b, c] k2 pt2) X.env = pure (some [x, y, z]) := by rfl)
    (hs : swapsWithSole [.Tuple [.Name x px, .Name y py, .Name z pz] kt pt] (.Tuple [a, b, c] k2 pt2) pos.line X.env = pure false := by rfl) :
    SS X W (.Assign [.Tuple [.Name x px, .Name y py, .Name z pz] kt pt] (.Tuple [a, b, c] k2 pt2) pos) (mPar3 i j l m) := PS.imp (ps_par3 hc hN hi hj hl hij hil hjl hx hy hz ha hw hs) fun D σ H h => by
  obtain ⟨B, env, S, ρ, eo, so, P⟩ := h
  refine ⟨B, env, S, ρ, eo, so, Post.mono (PostS.lft P eo) (fun ds S1 ρ1 H1 e1 s1 P1 vs r => ?_) (fun _ _ _ z => z)⟩
  split at P1
  · simp only [RepL] at r
    obtain ⟨v, _, rfl, r1, w, _, rfl, r2, u, _, rfl, r3, rfl⟩ := r
    exact ⟨v, w, u, rfl, P1 _ ρ1 H1 Ext.refl s1 ((((eo.mono e1).set r1 i).set r2 j).set r3 l)⟩
  · exact P1.elim
/-- while: at most n turns -/
def mWhile (c : MT) (b : MS) : Nat → MS
  | 0 => fun _ _ => none
  | n + 1 => fun env S => lft (c env S) env fun k S1 => if k then (match b env S1 with
    | some (.nx e', S2) => mWhile c b n e' S2
    | some (.ct e', S2) => mWhile c b n e' S2
    | some (.bk e', S2) => some (.nx e', S2)
    | r => r) else some (.nx env, S1)
theorem ss_while (n : Nat) {c : Expr} {body : List Stmt} {mc : MT} {mb : MS} {pos : Pos} (hp : PassesOwn (model X.prog X.w) X.A X.env X.xe) (hc : ST X W c mc) (hb : SSs X W body mb) : SS X W (.While c body [] pos) (mWhile mc mb n) := PS.imp (ps_while hp hc hb) fun D σ H h => by
  obtain ⟨B, env, S, ρ, eo, so, P⟩ := h
  refine ⟨fun m σ H => ∃ env S ρ, EnvOk ⟨X.K, X.mg⟩ B ρ H env σ ∧ SOk ⟨X.K, X.mg⟩ B S ρ H ∧ PostS ⟨X.K, X.mg⟩ W B ρ H (mWhile mc mb m env S) D, ⟨n, env, S, ρ, eo, so, P⟩, ?_⟩
  rintro m σ H ⟨env, S, ρ, eo, so, P⟩
  cases m with
  | zero => exact P.elim
  | succ m =>
    have P : PostS ⟨X.K, X.mg⟩ W B ρ H (lft (mc env S) env fun k S1 => if k then (match mb env S1 with
      | some (.nx e', S2) => mWhile mc mb m e' S2
      | some (.ct e', S2) => mWhile mc mb m e' S2
      | some (.bk e', S2) => some (.nx e', S2)
      | r => r) else some (.nx env, S1)) D := P
    refine ⟨B, env, S, ρ, eo, so, Post.mono (PostS.lft P eo) (fun k S1 ρ1 H1 e1 s1 P1 => ?_) (fun _ _ _ z => z)⟩
    cases k with
    | false => exact iteF (P1 σ ρ1 H1 Ext.refl s1 (eo.mono e1))
    | true =>
      refine iteT ⟨fun σ' H' => ∃ env S ρ, EnvOk ⟨X.K, X.mg⟩ B ρ H' env σ' ∧ SOk ⟨X.K, X.mg⟩ B S ρ H' ∧ PostS ⟨X.K, X.mg⟩ W B ρ H' (mWhile mc mb m env S) D, fun σ' H' w => ⟨m, Nat.lt_succ_self m, w⟩, B, env, S1, ρ1, eo.mono e1, s1, ?_⟩
      rw [if_pos rfl] at P1
      cases q : mb env S1 with
      | none => rw [q] at P1; exact P1
      | some r =>
        obtain ⟨f, S2⟩ := r
        rw [q] at P1
        cases f with
        | nx e' => exact fun σ' ρ' H' e s eo' => ⟨e', S2, ρ', eo', s, PostS.ext P1 e⟩
        | ct e' => exact fun σ' ρ' H' e s eo' => ⟨e', S2, ρ', eo', s, PostS.ext P1 e⟩
        | bk e' => exact P1
        | rt d => exact P1
        | xc e' c p => exact P1
def forGo (g : MG) (b : MS) : List D → MS
  | [] => fun env S => some (.nx env, S)
  | d :: ds => fun env S => match g d env S with
    | none => none
    | some (e', S1) => match b e' S1 with
      | some (.nx e2, S2) => forGo g b ds e2 S2
      | some (.ct e2, S2) => forGo g b ds e2 S2
      | some (.bk e2, S2) => some (.nx e2, S2)
      | r => r
def mFor (mi : ML) (g : MG) (b : MS) : MS := fun env S => lft (mi env S) env fun ds S1 => forGo g b ds env S1
theorem ss_for {tg iter : Expr} {body : List Stmt} {mi : ML} {g : MG} {mb : MS} {ts : List Nat} {pos : Pos} (hp : PassesOwn (model X.prog X.w) X.A X.env X.xe) (hc : X.calm = true) (hi : SI X W tg iter mi) (hg : SG X tg g ts) (hb : SSs X W body mb)
    (hs : ∀ x, foldedSetIterable iter X.env x = pure x := by intro _; rfl) : SS X W (.For tg iter body [] pos) (mFor mi g mb) := PS.imp (ps_for hp hc hi hg hb hs) fun D σ H h => by
  obtain ⟨B, env, S, ρ, eo, so, P⟩ := h
  refine ⟨B, env, S, ρ, eo, so, Post.mono (PostS.lft P eo) (fun ds S1 ρ1 H1 e1 s1 P1 J hJ => ?_) (fun _ _ _ z => z)⟩
  have hsrc : ∀ ρ2 H2, Ext ρ1 H1 ρ2 H2 → Src ⟨X.K, X.mg⟩ B J ds ρ2 H2 := hJ B (fun _ b => b) (fun a b n => absurd b n)
  refine ⟨fun i m σ H => m = ds.length - i ∧ i ≤ ds.length ∧ ∃ env S ρ, Ext ρ1 H1 ρ H ∧ EnvOk ⟨X.K, X.mg⟩ B ρ H env σ ∧ SOk ⟨X.K, X.mg⟩ B S ρ H ∧ PostS ⟨X.K, X.mg⟩ W B ρ H (forGo g mb (ds.drop i) env S) D,
    ⟨_, rfl, Nat.zero_le _, env, S1, ρ1, Ext.refl, eo.mono e1, s1, by simpa using P1⟩, ?_⟩
  rintro i m σ H ⟨rfl, hi, env, S, ρ, ex, eo, so, P⟩
  have sr := hsrc ρ H ex
  by_cases hlt : i < ds.length
  · refine .inr ⟨sr.go ρ H S Ext.refl so i hlt, fun σ' H' => ∃ env S ρ, Ext ρ1 H1 ρ H' ∧ EnvOk ⟨X.K, X.mg⟩ B ρ H' env σ' ∧ SOk ⟨X.K, X.mg⟩ B S ρ H' ∧ PostS ⟨X.K, X.mg⟩ W B ρ H' (forGo g mb (ds.drop (i + 1)) env S) D, fun σ' H' w => ⟨ds.length - (i + 1), by omega, rfl, hlt, w⟩, fun x H2 y => ?_⟩
    have hd : ds[i]? = some ds[i] := by simp [hlt]
    obtain ⟨k1, r1⟩ := sr.yld ρ H S i x H2 ds[i] Ext.refl so hd y
    have ek := Ext.of_same (ρ := ρ) k1
    rw [List.drop_eq_getElem_cons hlt] at P
    have P : PostS ⟨X.K, X.mg⟩ W B ρ H (match g ds[i] env S with
      | none => none
      | some (e', S1) => match mb e' S1 with
        | some (.nx e2, S2) => forGo g mb (ds.drop (i + 1)) e2 S2
        | some (.ct e2, S2) => forGo g mb (ds.drop (i + 1)) e2 S2
        | some (.bk e2, S2) => some (.nx e2, S2)
        | r => r) D := P
    refine ⟨B, env, S, ρ, ds[i], eo.mono ek, so.same k1, r1, ?_⟩
    unfold PostG
    cases qg : g ds[i] env S with
    | none => rw [qg] at P; exact P
    | some p =>
      obtain ⟨e', S'⟩ := p
      rw [qg] at P
      refine fun σ2 ρ2 H3 x2 s2 eo2 _ => ⟨B, e', S', ρ2, eo2, s2, ?_⟩
      have X2 : Ext ρ H ρ2 H3 := ek.trans x2
      have P := PostS.ext P X2
      cases q : mb e' S' with
      | none => simp only [q] at P; exact P
      | some r =>
        obtain ⟨f, S2⟩ := r
        simp only [q] at P
        cases f with
        | nx e2 => exact fun σ' ρ' H' e s eo' => ⟨e2, S2, ρ', (ex.trans X2).trans e, eo', s, PostS.ext P e⟩
        | ct e2 => exact fun σ' ρ' H' e s eo' => ⟨e2, S2, ρ', (ex.trans X2).trans e, eo', s, PostS.ext P e⟩
        | bk e2 => exact P
        | rt d => exact P
        | xc e2 c p => exact P
  · have e : i = ds.length := by omega
    subst e
    rw [List.drop_length] at P
    exact .inl ⟨sr.stop ρ H S Ext.refl so, P σ ρ H Ext.refl so eo⟩
/-- xs.append(e), xs a list of the store -/
def mApp (o : M) (e : M) : M := fun env S => match o env S with
  | .ok (.ref n) S1 => match S1[n]? with
    | some (.lst _) => (e env S1).bind fun d S2 => match S2[n]? with
      | some (.lst ds) => if room ds.length then .ok .non (S2.set n (.lst (ds ++ [d]))) else .err
      | _ => .err
    | _ => .err
  | _ => .err
theorem se_app {o e : Expr} {mo me : M} {apos cpos : Pos} (ho : SE X W o mo) (he : SE X W e me) (H1 : PE X (.Call (.Attribute o "append" apos) [e] [] cpos) (tBM X.K "list" rAppend (tE ⟨X.K, X.mg⟩ W mo) (tCons (tE ⟨X.K, X.mg⟩ W me) tNil))) : SE X W (.Call (.Attribute o "append" apos) [e] [] cpos) (mApp mo me) :=
  PE.imp H1 fun σ H Q h => by
    obtain ⟨B, env, S, ρ, eo, so, P⟩ := h
    unfold mApp at P
    split at P
    · rename_i n S1 q
      split at P
      · rename_i ds0 q0
        refine ⟨B, env, S, ρ, eo, so, ?_⟩
        rw [q]
        refine fun ρ1 H1 e1 s1 vo ro => ?_
        have ro' := ro
        simp only [Rep] at ro'
        obtain ⟨a, rfl, hn⟩ := ro'
        obtain ⟨vs0, h0, _⟩ := s1.ob _ _ _ q0 hn
        refine ⟨.inl ⟨rfl, _, SqL.of h0⟩, B, env, S1, ρ1, eo.mono e1, s1, Post.mono (Post.bind (Post.ext1 P e1)) (fun d S2 ρ2 H2 e2 s2 P2 v r => ?_) (fun _ _ _ z => z)⟩
        split at P2
        · rename_i ds q2
          split at P2
          · rename_i hz
            have hn2 := e2.pre n a hn
            obtain ⟨vs, h1, h2⟩ := s2.ob _ _ _ q2 hn2
            have hm : a ∈ ρ2 := List.mem_iff_getElem?.mpr ⟨n, hn2⟩
            refine ⟨a, vs, v, rfl, rfl, h1, by rw [← h2.length]; exact Nat.lt_of_le_of_lt (Nat.le_of_ble_eq_true hz) (by rw [sizeLine_eq]; decide), ?_⟩
            exact P2 ρ2 _ (Ext.write hm) (s2.write hn2 ⟨_, upd_same, RepL.append (h2.mono (Ext.write hm)) (by simp only [RepL]; exact ⟨v, [], rfl, r.mono (Ext.write hm), rfl⟩)⟩) _ (by simp only [Rep])
          · exact P2.elim
        · exact P2.elim
      · exact P.elim
    · exact P.elim

/-! ### what a def promises -/
/-! no object of the store in it -/
mutual
def noRef : D → Bool
  | .tup ds => noRefs ds
  | .lst ds => noRefs ds
  | .rol ds => noRefs ds
  | .ref _ => false
  | .obj _ _ ds => noRefs ds
  | .dic _ ds => noRefs ds
  | .exn _ _ ds => noRefs ds
  | _ => true
def noRefs : List D → Bool
  | [] => true
  | d :: ds => noRef d && noRefs ds
end
section
variable {G : GC} {B B' : Addr → Prop} {ρ ρ' : List Addr} {H H' : Hp}
mutual
theorem Rep.free (k : ∀ a o, Out B ρ a → H a = some o → H' a = some o ∧ Out B' ρ' a) : ∀ {d : D} {v : V}, noRef d = true → Rep G B ρ H d v → Rep G B' ρ' H' d v
  | .non, _, _, h => by simpa only [Rep] using h
  | .bl _, _, _, h => by simpa only [Rep] using h
  | .int _, _, _, h => by simpa only [Rep] using h
  | .str _, _, _, h => by simpa only [Rep] using h
  | .tup ds, v, n, h => by
    simp only [Rep] at h ⊢
    simp only [noRef] at n
    obtain ⟨a, vs, ev, ha, hl⟩ := h
    refine ⟨a, vs, ev, ?_, RepL.free k n hl⟩
    rcases ha with ⟨h1, h2⟩ | h1
    · obtain ⟨z1, z2⟩ := k a _ h2 h1
      exact .inl ⟨z1, z2⟩
    · exact .inr h1
  | .lst ds, v, n, h => by
    simp only [Rep] at h ⊢
    simp only [noRef] at n
    obtain ⟨a, vs, ev, h1, h2, hl⟩ := h
    obtain ⟨z1, z2⟩ := k a _ h2 h1
    exact ⟨a, vs, ev, z1, z2, RepL.free k n hl⟩
  | .rol ds, v, n, h => by
    simp only [Rep] at h ⊢
    simp only [noRef] at n
    obtain ⟨a, vs, ev, ha, hl⟩ := h
    refine ⟨a, vs, ev, ?_, RepL.free k n hl⟩
    rcases ha with ⟨h1 | ⟨o, h1⟩, h2⟩ | h1
    · obtain ⟨z1, z2⟩ := k a _ h2 h1
      exact .inl ⟨.inl z1, z2⟩
    · obtain ⟨z1, z2⟩ := k a _ h2 h1
      exact .inl ⟨.inr ⟨o, z1⟩, z2⟩
    · exact .inr h1
  | .ref n, v, q, h => by cases q
  | .glo _, _, _, h => by simpa only [Rep] using h
  | .obj c ns ds, v, n, h => by
    simp only [Rep] at h ⊢
    simp only [noRef] at n
    obtain ⟨a, C, dx, fs, ev, h1, h2, h3, h4, hl⟩ := h
    obtain ⟨z1, z2⟩ := k a _ h2 h1
    exact ⟨a, C, dx, fs, ev, z1, z2, h3, h4, RepL.free k n hl⟩
  | .dic ks ds, v, n, h => by
    simp only [Rep] at h ⊢
    simp only [noRef] at n
    obtain ⟨a, kvs, ev, h1, h2, h4, hl⟩ := h
    obtain ⟨z1, z2⟩ := k a _ h2 h1
    exact ⟨a, kvs, ev, z1, z2, h4, RepL.free k n hl⟩
  | .exn c ns ds, v, n, h => by
    simp only [Rep] at h ⊢
    simp only [noRef] at n
    obtain ⟨a, C, od, fs, ev, h1, h2, h3, h4, hl, h5⟩ := h
    obtain ⟨z1, z2⟩ := h1.move k h2
    exact ⟨a, C, od, fs, ev, z1, z2, h3, h4, RepL.free k n hl, h5.move k⟩
theorem RepL.free (k : ∀ a o, Out B ρ a → H a = some o → H' a = some o ∧ Out B' ρ' a) : ∀ {ds : List D} {vs : List V}, noRefs ds = true → RepL G B ρ H ds vs → RepL G B' ρ' H' ds vs
  | [], _, _, h => by simpa only [RepL] using h
  | d :: ds, vs, n, h => by
    simp only [RepL] at h ⊢
    simp only [noRefs, Bool.and_eq_true] at n
    obtain ⟨v, r, ev, h1, h2⟩ := h
    exact ⟨v, r, ev, Rep.free k n.1 h1, RepL.free k n.2 h2⟩
end
end
/-! what is handed out is no longer written -/
mutual
def frz (S : Sto) : D → Option D
  | .tup ds => (frzL S ds).map .tup
  | .ref n => match S[n]? with
    | some (.lst ds) => if noRefs ds then some (.lst ds) else none
    | some (.ins c ns ds) => if noRefs ds then some (.obj c ns ds) else none
    | some (.dk ks ds) => if noRefs ds then some (.dic ks ds) else none
    | _ => none
  | .lst ds => if noRefs ds then some (.lst ds) else none
  | .rol ds => if noRefs ds then some (.rol ds) else none
  | .obj c ns ds => if noRefs ds then some (.obj c ns ds) else none
  | .dic ks ds => if noRefs ds then some (.dic ks ds) else none
  | .exn c ns ds => if noRefs ds then some (.exn c ns ds) else none
  | d => some d
def frzL (S : Sto) : List D → Option (List D)
  | [] => some []
  | d :: ds => match frz S d, frzL S ds with
    | some x, some xs => some (x :: xs)
    | _, _ => none
end
section
variable {G : GC} {B : Addr → Prop} {ρ : List Addr} {H : Hp} {S : Sto}
theorem out_nil {a : Addr} (h : Out B ρ a) : Out B [] a := ⟨by simp, h.2⟩
mutual
theorem frz_ok (so : SOk G B S ρ H) : ∀ {d d' : D} {v : V}, frz S d = some d' → Rep G B ρ H d v → Rep G B [] H d' v
  | .non, _, _, e, h => by cases e; simpa only [Rep] using h
  | .bl _, _, _, e, h => by cases e; simpa only [Rep] using h
  | .int _, _, _, e, h => by cases e; simpa only [Rep] using h
  | .str _, _, _, e, h => by cases e; simpa only [Rep] using h
  | .glo _, _, _, e, h => by cases e; simpa only [Rep] using h
  | .tup ds, _, _, e, h => by
    simp only [frz, Option.map_eq_some_iff] at e
    obtain ⟨es, e, rfl⟩ := e
    simp only [Rep] at h ⊢
    obtain ⟨a, vs, ev, h1, h2⟩ := h
    refine ⟨a, vs, ev, ?_, frzL_ok so e h2⟩
    rcases h1 with h1 | h1
    · exact .inl ⟨h1.1, out_nil h1.2⟩
    · exact .inr h1
  | .lst ds, _, _, e, h => by
    simp only [frz] at e
    split at e
    · rename_i hz
      cases e
      exact Rep.free (fun a o x q => ⟨q, out_nil x⟩) (by simp only [noRef]; exact hz) h
    · cases e
  | .rol ds, _, _, e, h => by
    simp only [frz] at e
    split at e
    · rename_i hz
      cases e
      exact Rep.free (fun a o x q => ⟨q, out_nil x⟩) (by simp only [noRef]; exact hz) h
    · cases e
  | .obj c ns ds, _, _, e, h => by
    simp only [frz] at e
    split at e
    · rename_i hz
      cases e
      exact Rep.free (fun a o x q => ⟨q, out_nil x⟩) (by simp only [noRef]; exact hz) h
    · cases e
  | .exn c ns ds, _, _, e, h => by
    simp only [frz] at e
    split at e
    · rename_i hz
      cases e
      exact Rep.free (fun a o x q => ⟨q, out_nil x⟩) (by simp only [noRef]; exact hz) h
    · cases e
  | .dic ks ds, _, _, e, h => by
    simp only [frz] at e
    split at e
    · rename_i hz
      cases e
      exact Rep.free (fun a o x q => ⟨q, out_nil x⟩) (by simp only [noRef]; exact hz) h
    · cases e
  | .ref n, _, _, e, h => by
    simp only [frz] at e
    simp only [Rep] at h
    obtain ⟨a, rfl, hn⟩ := h
    have ha : a ∈ ρ := List.mem_iff_getElem?.mpr ⟨n, hn⟩
    have ho : Out B [] a := ⟨by simp, so.dis a ha⟩
    split at e
    · rename_i ds q
      split at e
      · rename_i hz
        cases e
        obtain ⟨vs, h1, h2⟩ := so.ob _ _ _ q hn
        simp only [Rep]
        exact ⟨a, vs, rfl, h1, ho, RepL.free (fun a o x q => ⟨q, out_nil x⟩) hz h2⟩
      · cases e
    · rename_i c ns ds q
      split at e
      · rename_i hz
        cases e
        obtain ⟨C, dx, fs, h1, h3, h4, h2⟩ := so.ob _ _ _ q hn
        simp only [Rep]
        exact ⟨a, C, dx, fs, rfl, h1, ho, h3, h4, RepL.free (fun a o x q => ⟨q, out_nil x⟩) hz h2⟩
      · cases e
    · rename_i ks ds q
      split at e
      · rename_i hz
        cases e
        obtain ⟨kvs, h1, h4, h2⟩ := so.ob _ _ _ q hn
        simp only [Rep]
        exact ⟨a, kvs, rfl, h1, ho, h4, RepL.free (fun a o x q => ⟨q, out_nil x⟩) hz h2⟩
      · cases e
    · cases e
theorem frzL_ok (so : SOk G B S ρ H) : ∀ {ds es : List D} {vs : List V}, frzL S ds = some es → RepL G B ρ H ds vs → RepL G B [] H es vs
  | [], _, _, e, h => by cases e; simpa only [RepL] using h
  | d :: ds, _, _, e, h => by
    simp only [frzL] at e
    split at e
    · rename_i x xs e1 e2
      cases e
      simp only [RepL] at h ⊢
      obtain ⟨v, r, ev, h1, h2⟩ := h
      exact ⟨v, r, ev, frz_ok so e1 h1, frzL_ok so e2 h2⟩
    · cases e
end
end
/-- what a pure def hands back -/
inductive Pr where
  | ok (d : D) | exc (c : Str) (p : Option (List Str × List D)) | err
  deriving Inhabited
/-- THE PROMISE of a def that takes and gives plain data -/
def spP (G : GC) (n : Nat) (g : List D → Pr) : Sp := fun vs H Q E => ∃ B ds, (∀ a, B a → ∃ o, H a = some o) ∧ RepL G B [] H ds vs ∧ ds.length = n ∧ match g ds with
  | .ok d => ∀ H' v, Same H H' → Rep G B [] H' d v → Q v H'
  | .exc c p => ∀ H' C d, Same H H' → ExcA G B [] H' c p C d → E (.ref C) d H'
  | .err => False
/-- .. of one that writes into objects handed in -/
def spI (G : GC) (n : Nat) (g : List D → Sto → Rs D) : Sp := fun vs H Q E => ∃ B S ρ ds, SOk G B S ρ H ∧ RepL G B ρ H ds vs ∧ ds.length = n ∧
  Post G B ρ H (g ds S) (fun d _ ρ' H' => ∀ v, Rep G B ρ' H' d v → Q v H') fun C d H' => E (.ref C) d H'
/-- a body run on plain data -/
def startE (N : Nat) (ds : List D) : En := ds.map some ++ List.replicate (N - ds.length) none
def frzX (S : Sto) : Option (List Str × List D) → Option (Option (List Str × List D))
  | none => some none
  | some (ns, ds) => (frzL S ds).map fun es => some (ns, es)
def runP (N : Nat) (b : MS) (ds : List D) : Pr := match b (startE N ds) [] with
  | some (.rt d, S) => (match frz S d with | some d' => .ok d' | none => .err)
  | some (.nx _, _) => .ok .non
  | some (.xc _ c p, S) => (match frzX S p with | some p' => .exc c p' | none => .err)
  | _ => .err
def runI (N : Nat) (b : MS) (ds : List D) (S : Sto) : Rs D := match b (startE N ds) S with
  | some (.rt d, S') => .ok d S'
  | some (.nx _, S') => .ok .non S'
  | some (.xc _ c p, S') => .exc c p S'
  | _ => .err
theorem start_ok {G : GC} {B : Addr → Prop} {ρ : List Addr} {H : Hp} {N : List Str} {ds : List D} {vs : List V} (r : RepL G B ρ H ds vs) : EnvOk G B ρ H (startE N.length ds) (L2.start N vs) := by
  have e := r.length
  unfold startE L2.start
  refine ⟨by simp [e], fun i d h => ?_⟩
  by_cases hi : i < ds.length
  · rw [List.getElem?_append_left (by simpa using hi), List.getElem?_map] at h
    have h' : ds[i]? = some d := by
      cases q : ds[i]? with
      | none => rw [q] at h; cases h
      | some x => rw [q] at h; simpa using h
    obtain ⟨v, h1, h2⟩ := r.get h'
    exact ⟨v, by rw [List.getElem?_append_left (by simp; omega), List.getElem?_map, h1]; rfl, h2⟩
  · rw [List.getElem?_append_right (by simpa using Nat.le_of_not_lt hi)] at h
    rw [List.getElem?_replicate] at h
    split at h <;> cases h
theorem ExcA.of_frz {G : GC} {B : Addr → Prop} {ρ : List Addr} {H : Hp} {S : Sto} {c : Str} {p p' : Option (List Str × List D)} {C : Addr} {d : Option Addr} (so : SOk G B S ρ H) (e : frzX S p = some p') (h : ExcA G B ρ H c p C d) : ExcA G B [] H c p' C d := by
  obtain ⟨h1, h2⟩ := h
  cases p with
  | none => cases e; exact ⟨h1, h2⟩
  | some q =>
    obtain ⟨ns, ds⟩ := q
    simp only [frzX, Option.map_eq_some_iff] at e
    obtain ⟨es, e, rfl⟩ := e
    obtain ⟨dx, fs, h3, h4, h7, h5, h6⟩ := h2
    exact ⟨h1, dx, fs, h3, h4, out_nil h7, h5, frzL_ok so e h6⟩
/-- a def's body keeps the promise -/
theorem body_P {G : GC} {N : List Str} {n : Nat} {b : MS} {vs : List V} {H : Hp} {Q : VK} {E : XK} (h : spP G n (runP N.length b) vs H Q E) :
    tS G (fun cls d _ H => E cls d H) b { nx := fun _ H' => Q .non H', rt := Q } (L2.start N vs) H := by
  obtain ⟨B, ds, hB, r, hn, P⟩ := h
  have so : SOk G B [] [] H := ⟨rfl, List.nodup_nil, hB, fun a m => absurd m (by simp), fun n o a h => by simp at h⟩
  refine ⟨B, startE N.length ds, [], [], start_ok r, so, ?_⟩
  unfold runP at P
  split at P
  · rename_i d S q
    split at q
    · rename_i d0 S' qb
      split at q
      · rename_i d' qf
        cases q
        rw [qb]
        exact fun ρ' H' v e s r' => P H' v e.same (frz_ok s qf r')
      · cases q
    · rename_i qb
      cases q
      rw [qb]
      exact fun σ' ρ' H' e s _ => P H' _ e.same (by simp only [Rep])
    · split at q <;> cases q
    · cases q
  · rename_i c p q
    split at q
    · split at q <;> cases q
    · cases q
    · rename_i e0 c0 p0 S' qb
      split at q
      · rename_i p' qf
        cases q
        rw [qb]
        exact fun σ' ρ' H' C d e s _ x => P H' C d e.same (x.of_frz s qf)
      · cases q
    · cases q
  · exact P.elim
theorem body_I {G : GC} {N : List Str} {n : Nat} {b : MS} {vs : List V} {H : Hp} {Q : VK} {E : XK} (h : spI G n (runI N.length b) vs H Q E) :
    tS G (fun cls d _ H => E cls d H) b { nx := fun _ H' => Q .non H', rt := Q } (L2.start N vs) H := by
  obtain ⟨B, S, ρ, ds, so, r, hn, P⟩ := h
  refine ⟨B, startE N.length ds, S, ρ, start_ok r, so, ?_⟩
  unfold runI at P
  split at P
  · rename_i qb
    rw [qb]
    exact fun ρ' H' v e s r' => P ρ' H' e s v r'
  · rename_i qb
    rw [qb]
    exact fun σ' ρ' H' e s _ => P ρ' H' e s _ (by simp only [Rep])
  · rename_i qb
    rw [qb]
    exact fun σ' ρ' H' C d e s _ x => P ρ' H' C d e s x
  · exact P.elim
end
end Ev

/-! Ev, part 7: defs where no repr is under way: their promise, their calls; repr; the law's end. -/
namespace Ev
open PySem L2

/-- the room of a call, no repr under way -/
structure RoomG (k : Nat) (A : Around) : Prop where
  r : Room k A
  g : A.guards = some []
theorem RoomG.mono {j k : Nat} {A : Around} (x : RoomG k A) (h : j ≤ k) : RoomG j A := ⟨x.r.mono h, x.g⟩
/-- the def at f keeps sp at level k, where no repr is under way -/
structure FnG (P : Program) (w : World) (K : PySem.W.Frag) (mg : Str → Option Value) (base : Heap) (k : Nat) (f : Addr) (fd : FuncData) (ps : List Str) (sp : Sp) : Prop where
  len : ∀ vs H Q E, sp vs H Q E → vs.length = ps.length
  go : ∀ (A : Around) (outer : List Env) (s : Shared) (H : Hp) (as : Args) (us : List Value) (vs : List V) (Q : VK) (E : XK), RoomG k A → Env0 P w K mg base A outer s H → BindsTo s fd as (ps.zip us) → Vals vs us → sp vs H Q E →
    codeAny (model P w) A (.call (.ref f) as) (CR (L2.CX P w) outer P w H s Q E) s
theorem FnG.mono {P : Program} {w : World} {K : PySem.W.Frag} {mg : Str → Option Value} {base : Heap} {j k : Nat} {f : Addr} {fd : FuncData} {ps : List Str} {sp : Sp} (F : FnG P w K mg base j f fd ps sp) (h : j ≤ k) : FnG P w K mg base k f fd ps sp :=
  ⟨F.len, fun A outer s H as us vs Q E hr => F.go A outer s H as us vs Q E (hr.mono h)⟩
theorem FnG.weak {P : Program} {w : World} {K : PySem.W.Frag} {mg : Str → Option Value} {base : Heap} {k : Nat} {f : Addr} {fd : FuncData} {ps : List Str} {sp sp' : Sp} (F : FnG P w K mg base k f fd ps sp) (h : ∀ vs H Q E, sp' vs H Q E → sp vs H Q E) : FnG P w K mg base k f fd ps sp' :=
  ⟨fun vs H Q E q => F.len vs H Q E (h _ _ _ _ q), fun A outer s H as us vs Q E hr he hb hv hs => F.go A outer s H as us vs Q E hr he hb hv (h _ _ _ _ hs)⟩
section
variable {P : Program} {w : World} {K : PySem.W.Frag} {mg : Str → Option Value} {base : Heap} {k : Nat} {f : Addr} {fd : FuncData} {sp : Sp}
/-- the rule for a def of the text: its body, run in a frame of its own -/
theorem FnG.of {x qual : Str} {prm : Arguments} {body : List Stmt} {scope : Scope} {dvs : List V} {kws : List (Str × V)} {N ps : List Str} (F : FunD K x qual prm body scope dvs kws f fd) (sc : FnScope N ps scope) (len : ∀ vs H Q E, sp vs H Q E → vs.length = ps.length)
    (hb : ∀ (cdv : Value) (A : Around) (outer : List Env) (s : Shared) (H : Hp) (vs : List V) (Q : VK) (E : XK), RoomG k (A.deeper (PyProof.Rows.envOfC qual scope s.heap.objs.size f cdv)) → sp vs H Q E →
      ∃ t, PSs (cxOf (L2.CX P w) P w K mg base N qual scope f cdv A outer s H E) body t ∧ t { nx := fun _ H' => Q .non H', rt := Q } (L2.start N vs) H) : FnG P w K mg base (k + 1) f fd ps sp := by
  obtain ⟨oc, od, dV, kV, doc, pm, an, cdv, ct, osl, rfl, lk, hcd, _, _⟩ := F.ex
  refine ⟨len, fun A outer s H as us vs Q E room e0 bnd rv hsp => ?_⟩
  have inK : K.In s.heap := e0.mod.kin.keeps fun b o e => (e0.bs b o e).1
  have noL : s.heap.NoLimit := e0.mod.nolimit.keeps fun b o e => (e0.bs b o e).1
  have par : ∀ y ∈ ps.zip us, scope.names.lookup y.1 = some .local ∨ (scope.names.lookup y.1 = some .cell ∧ ((cellsFrom (s.heap.objs.size + 1) scope.names []).lookup y.1).isSome = true) := by
    rintro ⟨y, u⟩ hy
    rcases sc.par y (List.of_mem_zip hy).1 with q | q
    · exact Or.inl q
    · exact Or.inr ⟨q, PySem.W.cellsFrom_some _ _ _ (Or.inl q)⟩
  apply codeAny_call_function room.r.depth (inK _ _ lk) rfl sc.co sc.gen rfl (PySem.W.codeRec_of inK hcd)
  apply bnd
  apply wpAny_newFunctionEnv_cells sc.kind par
  rintro env rfl s1 x
  refine ⟨noL.keeps x.toInCall.keep, ?_⟩
  apply codeAny_func
  obtain ⟨t, ht, hq⟩ := hb cdv A outer s H vs Q E ⟨room.r.deeper _, room.g⟩ hsp
  have J := inv_start (CX := L2.CX P w) (E := E) (cd := cdv) (f := f) (qual := qual) sc room.r.hd e0 (len _ _ _ _ hsp) rv x
  refine wpAny_mono (ht.run [] s1 _ H _ J hq) ?_ (fun e s' z => z)
  rintro fl s' z
  cases fl with
  | ret u =>
    obtain ⟨v, σ', H', J', r', q⟩ := z
    exact ⟨v, H', J'.os, J'.bare, J'.base, J'.hok, r', q⟩
  | next =>
    obtain ⟨σ', H', J', q⟩ := z
    exact ⟨.non, H', J'.os, J'.bare, J'.base, J'.hok, rfl, q⟩
  | brk =>
    obtain ⟨_, _, _, q⟩ := z
    exact q.elim
  | cont =>
    obtain ⟨_, _, _, q⟩ := z
    exact q.elim
end
section
variable {X : Cx} {W : WX} {k : Nat} {f : Addr} {fd : FuncData} {ps : List Str} {sp : Sp}
/-- the callee runs -/
theorem FnG.run {pins : List (Addr × Obj)} {σ : L2.St} {H : Hp} {s : Shared} {Q : VK} {us : List Value} {vs : List V} {as : Args} (F : FnG X.prog X.w X.K X.mg X.base k f fd ps sp) (hr : RoomG k X.A) (tk : L2.Takes X W)
    (I : L2.Inv X pins σ H s) (bnd : BindsTo s fd as (ps.zip us)) (r : Vals vs us) (h : sp vs H Q (L2.WE W σ)) : codeAny (model X.prog X.w) X.A (.call (.ref f) as) (fun r s' => match r with
      | .ok (.ret u) => EP X pins σ Q u s'
      | .ok _ => False
      | .error e => X.xe e s') s := by
  refine codeAny_mono (F.go X.A X.stack s H as us vs Q _ hr I.env0 bnd r h) ?_
  rintro r s' z
  cases r with
  | error e => exact passAt tk σ pins H s e s' I z
  | ok fl =>
    cases fl with
    | ret u => exact I.after z
    | next => exact z.elim
    | brk => exact z.elim
    | cont => exact z.elim
theorem call_back {pins : List (Addr × Obj)} {σ : L2.St} {Q : VK} {s : Shared} {us : List Value} {kw : List (Str × Value)} (h : codeAny (model X.prog X.w) X.A (.call (.ref f) ⟨us, kw⟩) (fun r s' => match r with
      | .ok (.ret u) => EP X pins σ Q u s'
      | .ok _ => False
      | .error e => X.xe e s') s) : wpAny (model X.prog X.w) X.A (call (.ref f) us kw) (EP X pins σ Q) X.xe s := by
  refine wpAny_call (codeAny_mono h ?_)
  rintro r s' z
  cases r with
  | error e => exact z
  | ok fl =>
    cases fl with
    | ret u => exact z
    | next => exact z.elim
    | brk => exact z.elim
    | cont => exact z.elim

/-! ### f(..) by places, by names -/
def tCl (sp : Sp) (W : WX) (t : TA) : TE := fun σ H Q => t σ H fun vs H1 => sp vs H1 Q (L2.WE W σ)
theorem pe_cl {x : Str} {p pos : Pos} {e : Expr} {es : List Expr} {t : TA} (F : FnG X.prog X.w X.K X.mg X.base k f fd ps sp) (hr : RoomG k X.A) (tk : L2.Takes X W) (hm : X.mg x = some (.ref f)) (hk : PySem.W.keepIn X.K (.ref f) = true) (hb : Binds X.K fd ps []) (ha : PA X (e :: es) t) (hg : Gl X x := by rfl)
    (hdb : (x == ("__debug__" : Str)) = false := by decide) (he : starEach (e :: es) X.env = (false, eval e X.env) :: starEach es X.env := by rfl) (hpl : (backTo pos (starEach es X.env)).any (·.1) = false := by rfl) : PE X (.Call (.Name x p) (e :: es) [] pos) (tCl sp W t) := by
  constructor
  intro pins s σ H Q I h
  apply wpAny_Call_Name_kw
  apply ld_glob I hg hm _ hdb
  apply PySem.W.callWith_K (h₀ := X.base) I.ok.mod.kin hk _ he hpl
  refine thn (ha.run pos pins s σ H _ I h) ?_
  rintro us s1 ⟨vs, H1, I1, r, q⟩
  refine ⟨I1.kIn, call_back ?_⟩
  have hl : (us ++ []).length = ps.length := by rw [List.append_nil, ← r.length]; exact F.len _ _ _ _ q
  have bnd := hb s1 us I1.kIn hl
  rw [List.append_nil] at bnd
  exact F.run hr tk I1 bnd r q
theorem pe_cl0 {x : Str} {p pos : Pos} (F : FnG X.prog X.w X.K X.mg X.base k f fd ps sp) (hr : RoomG k X.A) (tk : L2.Takes X W) (hm : X.mg x = some (.ref f)) (hk : PySem.W.keepIn X.K (.ref f) = true) (hb : Binds X.K fd ps []) (hg : Gl X x := by rfl)
    (hdb : (x == ("__debug__" : Str)) = false := by decide) : PE X (.Call (.Name x p) [] [] pos) (tCl sp W tNil) := by
  constructor
  intro pins s σ H Q I h
  apply wpAny_Call_Name_kw
  apply ld_glob I hg hm _ hdb
  apply PySem.W.callWith_K0 I.kIn hk
  have q : sp [] H Q (L2.WE W σ) := h
  have bnd := hb s [] I.kIn (by rw [List.append_nil]; exact F.len _ _ _ _ q)
  rw [List.append_nil] at bnd
  exact call_back (F.run hr tk I bnd .nil q)
/-- places of a list, put in an order -/
def perm {α : Type} (ix : List Nat) (xs : List α) : List α := ix.filterMap fun i => xs[i]?
theorem perm_vals {vs : List V} {us : List Value} (r : Vals vs us) : ∀ ix : List Nat, Vals (perm ix vs) (perm ix us)
  | [] => .nil
  | i :: ix => by
    have ih := perm_vals r ix
    unfold perm at ih ⊢
    cases q : vs[i]? with
    | none =>
      rw [List.filterMap_cons_none q, List.filterMap_cons_none (r.none_of q)]
      exact ih
    | some v =>
      obtain ⟨u, h1, h2⟩ := r.get q
      rw [List.filterMap_cons_some q, List.filterMap_cons_some h1]
      exact .cons h2 ih
theorem perm_rep {G : GC} {B : Addr → Prop} {ρ : List Addr} {H : Hp} {ds : List D} {vs : List V} (r : RepL G B ρ H ds vs) : ∀ ix : List Nat, RepL G B ρ H (perm ix ds) (perm ix vs)
  | [] => by unfold perm; simp only [List.filterMap_nil, RepL]
  | i :: ix => by
    have ih := perm_rep r ix
    unfold perm at ih ⊢
    cases q : ds[i]? with
    | none =>
      have q2 : vs[i]? = none := by
        rw [List.getElem?_eq_none_iff] at q ⊢
        rw [← r.length]; exact q
      rw [List.filterMap_cons_none q, List.filterMap_cons_none q2]
      exact ih
    | some d =>
      obtain ⟨v, h1, h2⟩ := r.get q
      rw [List.filterMap_cons_some q, List.filterMap_cons_some h1]
      simp only [RepL]
      exact ⟨v, _, rfl, h2, ih⟩
/-- n values by place, the others by the names ks; ix: the parameters' order -/
def BindsK (K : PySem.W.Frag) (fd : FuncData) (ps : List Str) (n : Nat) (ks : List Str) (ix : List Nat) : Prop :=
  ∀ (s : Shared) (us ws : List Value), K.In s.heap → us.length = n → ws.length = ks.length → BindsTo s fd ⟨us, ks.zip ws⟩ (ps.zip (perm ix (us ++ ws)))
def tClK (n m : Nat) (ix : List Nat) (sp : Sp) (W : WX) (t tk : TA) : TE := fun σ H Q => t σ H fun vs H1 => tk σ H1 fun zs H2 => vs.length = n ∧ zs.length = m ∧ sp (perm ix (vs ++ zs)) H2 Q (L2.WE W σ)
theorem pe_clK {x : Str} {p pos : Pos} {e : Expr} {es : List Expr} {kws : List Keyword} {ks : List Str} {n : Nat} {ix : List Nat} {t tkw : TA} (F : FnG X.prog X.w X.K X.mg X.base k f fd ps sp) (hr : RoomG k X.A) (tk : L2.Takes X W) (hm : X.mg x = some (.ref f)) (hk : PySem.W.keepIn X.K (.ref f) = true) (hb : BindsK X.K fd ps n ks ix) (ha : PA X (e :: es) t) (hkw : PK X kws tkw) (hg : Gl X x := by rfl)
    (hall : (backToKw pos (keywordEach kws X.env)).all (·.1.isSome) = true := by rfl) (hks : (backToKw pos (keywordEach kws X.env)).filterMap (·.1) = ks := by rfl)
    (hdb : (x == ("__debug__" : Str)) = false := by decide) (he : starEach (e :: es) X.env = (false, eval e X.env) :: starEach es X.env := by rfl)
    (hpl : ((backTo pos (starEach (e :: es) X.env)).any (·.1) || (backToKw pos (keywordEach kws X.env)).any (·.1.isNone)) = false := by rfl) : PE X (.Call (.Name x p) (e :: es) kws pos) (tClK n ks.length ix sp W t tkw) := by
  constructor
  intro pins s σ H Q I h
  apply wpAny_Call_Name_kw
  apply ld_glob I hg hm _ hdb
  apply PySem.W.callWith_KW (h₀ := X.base) I.ok.mod.kin hk hall _ hpl he
  refine thn (ha.run pos pins s σ H _ I h) ?_
  rintro us s1 ⟨vs, H1, I1, r1, q1⟩
  refine thn (hkw.run pos pins s1 σ H1 _ I1 q1) ?_
  rintro ws s2 ⟨zs, H2, I2, r2, l1, l2, q2⟩
  refine ⟨I2.kIn, ?_⟩
  rw [hks]
  exact call_back (F.run hr tk I2 (hb s2 us ws I2.kIn (r1.length.symm.trans l1) (r2.length.symm.trans l2)) (perm_vals (r1.append r2) ix) q2)
theorem pe_clK0 {x : Str} {p pos : Pos} {kws : List Keyword} {ks : List Str} {ix : List Nat} {tkw : TA} (F : FnG X.prog X.w X.K X.mg X.base k f fd ps sp) (hr : RoomG k X.A) (tk : L2.Takes X W) (hm : X.mg x = some (.ref f)) (hk : PySem.W.keepIn X.K (.ref f) = true) (hb : BindsK X.K fd ps 0 ks ix) (hkw : PK X kws tkw) (hg : Gl X x := by rfl)
    (hall : (backToKw pos (keywordEach kws X.env)).all (·.1.isSome) = true := by rfl) (hks : (backToKw pos (keywordEach kws X.env)).filterMap (·.1) = ks := by rfl)
    (hdb : (x == ("__debug__" : Str)) = false := by decide)
    (hpl : ((backTo pos (starEach [] X.env)).any (·.1) || (backToKw pos (keywordEach kws X.env)).any (·.1.isNone)) = false := by rfl) : PE X (.Call (.Name x p) [] kws pos) (tClK 0 ks.length ix sp W tNil tkw) := by
  constructor
  intro pins s σ H Q I h
  apply wpAny_Call_Name_kw
  apply ld_glob I hg hm _ hdb
  apply PySem.W.callWith_KW0 (h₀ := X.base) I.ok.mod.kin hk hall _ hpl
  refine thn (hkw.run pos pins s σ H _ I h) ?_
  rintro ws s2 ⟨zs, H2, I2, r2, l1, l2, q2⟩
  refine ⟨I2.kIn, ?_⟩
  rw [hks]
  exact call_back (F.run hr tk I2 (hb s2 [] ws I2.kIn rfl (r2.length.symm.trans l2)) (perm_vals (Vals.append .nil r2) ix) q2)
abbrev SK (X : Cx) (W : WX) (kws : List Keyword) (m : ML) : Prop := PK X kws (tA ⟨X.K, X.mg⟩ W m)
theorem PK.imp {xs : List Keyword} {t u : TA} (h : PK X xs t) (hi : ∀ σ H Q, u σ H Q → t σ H Q) : PK X xs u := ⟨fun pos pins s σ H Q I q => h.run pos pins s σ H Q I (hi σ H Q q)⟩
theorem sk_nil : SK X W [] mNil := PK.imp pk_nil fun σ H Q h => by
  obtain ⟨B, env, S, ρ, eo, so, P⟩ := h
  exact P ρ H Ext.refl so [] (by simp only [RepL])
theorem sk_cons {nm : Option Str} {e : Expr} {kpos : Pos} {kws : List Keyword} {ma : M} {mr : ML} (ha : SE X W e ma) (hr : SK X W kws mr) : SK X W (⟨nm, e, kpos⟩ :: kws) (mCons ma mr) :=
  PK.imp (pk_cons ha hr) fun σ H Q h => by
    obtain ⟨B, env, S, ρ, eo, so, P⟩ := h
    refine ⟨B, env, S, ρ, eo, so, Post.mono P.bind (fun d S1 ρ1 H1 e1 s1 P1 v r => ⟨B, env, S1, ρ1, eo.mono e1, s1, Post.mono P1.bind (fun ds S2 ρ2 H2 e2 s2 P2 vs rs => ?_) (fun _ _ _ z => z)⟩) (fun _ _ _ z => z)⟩
    exact P2 ρ2 H2 Ext.refl s2 (v :: vs) (by simp only [RepL]; exact ⟨v, vs, rfl, r.mono e2, rs⟩)

/-! ### calls of pure defs, of others -/
def prR (p : Pr) (S : Sto) : Rs D := match p with | .ok d => .ok d S | .exc c q => .exc c q S | .err => .err
def clP (n : Nat) (g : List D → Pr) (ds : List D) (S : Sto) : Rs D := if noRefs ds && Nat.beq ds.length n then prR (g ds) S else .err
def mCallP (n : Nat) (g : List D → Pr) (m : ML) : M := fun env S => (m env S).bind fun ds S1 => clP n g ds S1
def mCallI (n : Nat) (g : List D → Sto → Rs D) (m : ML) : M := fun env S => (m env S).bind fun ds S1 => if Nat.beq ds.length n then g ds S1 else .err
theorem spP_of {G : GC} {B : Addr → Prop} {S1 : Sto} {ρ1 : List Addr} {H1 : Hp} {n : Nat} {g : List D → Pr} {ds : List D} {vs : List V} {Q : VK} {E : XK} (s1 : SOk G B S1 ρ1 H1) (rs : RepL G B ρ1 H1 ds vs)
    (P : Post G B ρ1 H1 (clP n g ds S1) (fun d _ ρ' H' => ∀ v, Rep G B ρ' H' d v → Q v H') fun C d H' => E (.ref C) d H') : spP G n g vs H1 Q E := by
  unfold clP at P
  split at P
  · rename_i hz
    simp only [Bool.and_eq_true] at hz
    have hn := Nat.eq_of_beq_eq_true hz.2
    let B' : Addr → Prop := fun a => B a ∨ a ∈ ρ1
    have o1 : ∀ {a : Addr}, Out B ρ1 a → Out B' [] a := fun x => ⟨by simp, fun b => b.elim x.2 x.1⟩
    have o2 : ∀ {a : Addr}, Out B' [] a → Out B ρ1 a := fun x => ⟨fun m => x.2 (.inr m), fun b => x.2 (.inl b)⟩
    refine ⟨B', ds, fun a b => ?_, RepL.free (fun a o x q => ⟨q, o1 x⟩) hz.1 rs, hn, ?_⟩
    · rcases b with b | b
      · exact s1.b a b
      · exact s1.there b
    · cases q : g ds with
      | ok d =>
        rw [q] at P
        exact fun H' v k r => P ρ1 H' (Ext.of_same k) (s1.same k) v (r.move (fun n a h => by simp at h) fun a o x q => ⟨q, o2 x⟩)
      | exc c p =>
        rw [q] at P
        refine fun H' C d k x => P ρ1 H' C d (Ext.of_same k) (s1.same k) ?_
        obtain ⟨h1, h2⟩ := x
        cases p with
        | none => exact ⟨h1, h2⟩
        | some pq =>
          obtain ⟨ns, es⟩ := pq
          obtain ⟨dx, fs, h3, h4, h7, h5, h6⟩ := h2
          exact ⟨h1, dx, fs, h3, h4, o2 h7, h5, h6.move (fun n a h => by simp at h) fun a o x q => ⟨q, o2 x⟩⟩
      | err => rw [q] at P; exact P
  · exact P.elim
theorem spI_of {G : GC} {B : Addr → Prop} {S1 : Sto} {ρ1 : List Addr} {H1 : Hp} {n : Nat} {g : List D → Sto → Rs D} {ds : List D} {vs : List V} {Q : VK} {E : XK} (s1 : SOk G B S1 ρ1 H1) (rs : RepL G B ρ1 H1 ds vs)
    (P : Post G B ρ1 H1 (if Nat.beq ds.length n then g ds S1 else .err) (fun d _ ρ' H' => ∀ v, Rep G B ρ' H' d v → Q v H') fun C d H' => E (.ref C) d H') : spI G n g vs H1 Q E := by
  split at P
  · rename_i hz
    exact ⟨B, S1, ρ1, ds, s1, rs, Nat.eq_of_beq_eq_true hz, P⟩
  · exact P.elim
theorem len_P {G : GC} {n : Nat} {g : List D → Pr} : ∀ vs H Q E, spP G n g vs H Q E → vs.length = n := fun vs H Q E ⟨B, ds, _, r, hn, _⟩ => by rw [← r.length]; exact hn
theorem len_I {G : GC} {n : Nat} {g : List D → Sto → Rs D} : ∀ vs H Q E, spI G n g vs H Q E → vs.length = n := fun vs H Q E ⟨B, S, ρ, ds, _, r, hn, _⟩ => by rw [← r.length]; exact hn
end
end Ev

/-! Ev, part 8: while without a bound told, defs by name and their calls, repr, the law's end. -/
namespace Ev
open PySem L2
/-! ### while -/
theorem mWhile_le {c : MT} {b : MS} : ∀ {n m : Nat} {env : En} {S : Sto} {r : Fl × Sto}, n ≤ m → mWhile c b n env S = some r → mWhile c b m env S = some r
  | 0, _, _, _, _, _, h => by cases h
  | n + 1, 0, _, _, _, hm, _ => by omega
  | n + 1, m + 1, env, S, r, hm, h => by
    have ih := fun e T r => @mWhile_le c b n m e T r (Nat.le_of_succ_le_succ hm)
    simp only [mWhile] at h ⊢
    cases q : c env S with
    | err => rw [q] at h; cases h
    | exc x p S1 => rw [q] at h; exact h
    | ok k S1 =>
      rw [q] at h
      simp only [lft_ok] at h ⊢
      cases k with
      | false => exact h
      | true =>
        simp only [if_true] at h ⊢
        cases q2 : b env S1 with
        | none => rw [q2] at h; cases h
        | some f =>
          obtain ⟨f, S2⟩ := f
          rw [q2] at h
          cases f with
          | nx e' => exact ih _ _ _ h
          | ct e' => exact ih _ _ _ h
          | bk e' => exact h
          | rt d => exact h
          | xc e' x p => exact h
open Classical in
/-- while, for as many turns as it takes -/
noncomputable def mWh (c : MT) (b : MS) : MS := fun env S => if h : ∃ n r, mWhile c b n env S = some r then mWhile c b h.choose env S else none
theorem mWh_of {c : MT} {b : MS} {n : Nat} {env : En} {S : Sto} {r : Fl × Sto} (h : mWhile c b n env S = some r) : mWh c b env S = some r := by
  have hx : ∃ n r, mWhile c b n env S = some r := ⟨n, r, h⟩
  unfold mWh
  rw [dif_pos hx]
  obtain ⟨r', h'⟩ := hx.choose_spec
  rcases Nat.le_total n hx.choose with q | q
  · exact mWhile_le q h
  · have := mWhile_le q h'
    rw [h] at this
    cases this
    exact h'
theorem mWh_some {c : MT} {b : MS} {env : En} {S : Sto} {r : Fl × Sto} (h : mWh c b env S = some r) : ∃ n, mWhile c b n env S = some r := by
  unfold mWh at h
  split at h
  · exact ⟨_, h⟩
  · cases h
/-- one turn of it -/
theorem mWh_eq (c : MT) (b : MS) (env : En) (S : Sto) : mWh c b env S = lft (c env S) env fun k S1 => if k then (match b env S1 with
    | some (.nx e', S2) => mWh c b e' S2
    | some (.ct e', S2) => mWh c b e' S2
    | some (.bk e', S2) => some (.nx e', S2)
    | r => r) else some (.nx env, S1) := by
  cases q : c env S with
  | err =>
    simp only [lft_err]
    cases z : mWh c b env S with
    | none => rfl
    | some r =>
      obtain ⟨n, hn⟩ := mWh_some z
      cases n with
      | zero => cases hn
      | succ n => simp only [mWhile, q, lft_err] at hn; cases hn
  | exc x p S1 => exact mWh_of (n := 1) (by simp only [mWhile, q, lft_exc])
  | ok k S1 =>
    simp only [lft_ok]
    cases k with
    | false => exact mWh_of (n := 1) (by simp only [mWhile, q, lft_ok]; rfl)
    | true =>
      simp only [if_true]
      have go : ∀ e' S2, (∀ n, mWhile c b (n + 1) env S = mWhile c b n e' S2) → mWh c b env S = mWh c b e' S2 := fun e' S2 hq => by
        cases z : mWh c b e' S2 with
        | some r =>
          obtain ⟨n, hn⟩ := mWh_some z
          exact mWh_of (n := n + 1) ((hq n).trans hn)
        | none =>
          cases z2 : mWh c b env S with
          | none => rfl
          | some r =>
            obtain ⟨n, hn⟩ := mWh_some z2
            cases n with
            | zero => cases hn
            | succ n =>
              rw [hq n] at hn
              rw [mWh_of hn] at z
              cases z
      cases q2 : b env S1 with
      | none =>
        cases z2 : mWh c b env S with
        | none => rfl
        | some r =>
          obtain ⟨n, hn⟩ := mWh_some z2
          cases n with
          | zero => cases hn
          | succ n => simp only [mWhile, q, lft_ok, if_true, q2] at hn; cases hn
      | some f =>
        obtain ⟨f, S2⟩ := f
        cases f with
        | nx e' => exact go _ _ fun n => by simp only [mWhile, q, lft_ok, if_true, q2]
        | ct e' => exact go _ _ fun n => by simp only [mWhile, q, lft_ok, if_true, q2]
        | bk e' => exact mWh_of (n := 1) (by simp only [mWhile, q, lft_ok, if_true, q2])
        | rt d => exact mWh_of (n := 1) (by simp only [mWhile, q, lft_ok, if_true, q2])
        | xc e' x p => exact mWh_of (n := 1) (by simp only [mWhile, q, lft_ok, if_true, q2])
section
variable {X : Cx} {W : WX}
theorem ss_wh {c : Expr} {body : List Stmt} {mc : MT} {mb : MS} {pos : Pos} (hp : PassesOwn (model X.prog X.w) X.A X.env X.xe) (hc : ST X W c mc) (hb : SSs X W body mb) : SS X W (.While c body [] pos) (mWh mc mb) := ⟨fun pins s σ H D I h => by
  obtain ⟨B, env, S, ρ, eo, so, P⟩ := h
  cases q : mWh mc mb env S with
  | none => rw [q] at P; exact P.elim
  | some r =>
    obtain ⟨n, hn⟩ := mWh_some q
    exact (ss_while n hp hc hb).run pins s σ H D I ⟨B, env, S, ρ, eo, so, by rw [hn]; rw [q] at P; exact P⟩⟩
end

/-! ### defs by name -/
abbrev Shape := Nat × List Str × List Nat
structure DefP (P : Program) (w : World) (K : PySem.W.Frag) (mg : Str → Option Value) (base : Heap) (k : Nat) (x : Str) (ps : List Str) (g : List D → Pr) (kws : List Shape) : Prop where
  ex : ∃ f fd, FnG P w K mg base k f fd ps (spP ⟨K, mg⟩ ps.length g) ∧ mg x = some (.ref f) ∧ PySem.W.keepIn K (.ref f) = true ∧ Binds K fd ps [] ∧ ∀ q ∈ kws, BindsK K fd ps q.1 q.2.1 q.2.2
structure DefI (P : Program) (w : World) (K : PySem.W.Frag) (mg : Str → Option Value) (base : Heap) (k : Nat) (x : Str) (ps : List Str) (g : List D → Sto → Rs D) (kws : List Shape) : Prop where
  ex : ∃ f fd, FnG P w K mg base k f fd ps (spI ⟨K, mg⟩ ps.length g) ∧ mg x = some (.ref f) ∧ PySem.W.keepIn K (.ref f) = true ∧ Binds K fd ps [] ∧ ∀ q ∈ kws, BindsK K fd ps q.1 q.2.1 q.2.2
section
variable {X : Cx} {W : WX} {j k : Nat} {x : Str} {ps : List Str} {kws : List Shape} {p pos : Pos} {e : Expr} {es : List Expr} {m mk : ML}
theorem tE_clP {g : List D → Pr} {n : Nat} : ∀ σ H Q, tE ⟨X.K, X.mg⟩ W (mCallP n g m) σ H Q → tCl (spP ⟨X.K, X.mg⟩ n g) W (tA ⟨X.K, X.mg⟩ W m) σ H Q := fun σ H Q h => by
  obtain ⟨B, env, S, ρ, eo, so, P⟩ := h
  exact ⟨B, env, S, ρ, eo, so, Post.mono P.bind (fun ds S1 ρ1 H1 e1 s1 P1 vs rs => spP_of s1 rs P1) (fun _ _ _ z => z)⟩
theorem tE_clI {g : List D → Sto → Rs D} {n : Nat} : ∀ σ H Q, tE ⟨X.K, X.mg⟩ W (mCallI n g m) σ H Q → tCl (spI ⟨X.K, X.mg⟩ n g) W (tA ⟨X.K, X.mg⟩ W m) σ H Q := fun σ H Q h => by
  obtain ⟨B, env, S, ρ, eo, so, P⟩ := h
  exact ⟨B, env, S, ρ, eo, so, Post.mono P.bind (fun ds S1 ρ1 H1 e1 s1 P1 vs rs => spI_of s1 rs P1) (fun _ _ _ z => z)⟩
/-- first the values by place, then those by name -/
def mKw (n j : Nat) (ix : List Nat) (m mk : ML) : ML := fun env S => (m env S).bind fun ds S1 => (mk env S1).bind fun es S2 => if Nat.beq ds.length n && Nat.beq es.length j then .ok (perm ix (ds ++ es)) S2 else .err
theorem tE_clPK {g : List D → Pr} {n n2 j : Nat} {ix : List Nat} : ∀ σ H Q, tE ⟨X.K, X.mg⟩ W (mCallP n g (mKw n2 j ix m mk)) σ H Q → tClK n2 j ix (spP ⟨X.K, X.mg⟩ n g) W (tA ⟨X.K, X.mg⟩ W m) (tA ⟨X.K, X.mg⟩ W mk) σ H Q := fun σ H Q h => by
  obtain ⟨B, env, S, ρ, eo, so, P⟩ := h
  refine ⟨B, env, S, ρ, eo, so, Post.mono P.bind.bind (fun ds S1 ρ1 H1 e1 s1 P1 vs rs => ⟨B, env, S1, ρ1, eo.mono e1, s1, Post.mono P1.bind (fun es S2 ρ2 H2 e2 s2 P2 zs r2 => ?_) (fun _ _ _ z => z)⟩) (fun _ _ _ z => z)⟩
  split at P2
  · rename_i hz
    simp only [Bool.and_eq_true] at hz
    exact ⟨rs.length.symm.trans (Nat.eq_of_beq_eq_true hz.1), r2.length.symm.trans (Nat.eq_of_beq_eq_true hz.2), spP_of s2 (perm_rep ((rs.mono e2).append r2) ix) (P2 ρ2 H2 Ext.refl s2)⟩
  · exact P2.elim
theorem tE_clIK {g : List D → Sto → Rs D} {n n2 j : Nat} {ix : List Nat} : ∀ σ H Q, tE ⟨X.K, X.mg⟩ W (mCallI n g (mKw n2 j ix m mk)) σ H Q → tClK n2 j ix (spI ⟨X.K, X.mg⟩ n g) W (tA ⟨X.K, X.mg⟩ W m) (tA ⟨X.K, X.mg⟩ W mk) σ H Q := fun σ H Q h => by
  obtain ⟨B, env, S, ρ, eo, so, P⟩ := h
  refine ⟨B, env, S, ρ, eo, so, Post.mono P.bind.bind (fun ds S1 ρ1 H1 e1 s1 P1 vs rs => ⟨B, env, S1, ρ1, eo.mono e1, s1, Post.mono P1.bind (fun es S2 ρ2 H2 e2 s2 P2 zs r2 => ?_) (fun _ _ _ z => z)⟩) (fun _ _ _ z => z)⟩
  split at P2
  · rename_i hz
    simp only [Bool.and_eq_true] at hz
    exact ⟨rs.length.symm.trans (Nat.eq_of_beq_eq_true hz.1), r2.length.symm.trans (Nat.eq_of_beq_eq_true hz.2), spI_of s2 (perm_rep ((rs.mono e2).append r2) ix) (P2 ρ2 H2 Ext.refl s2)⟩
  · exact P2.elim
theorem se_callP {nn : Nat} {g : List D → Pr} (F : DefP X.prog X.w X.K X.mg X.base j x ps g kws) (hr : RoomG k X.A) (hj : j ≤ k) (tk : L2.Takes X W) (ha : SA X W (e :: es) m) (hg : Gl X x := by rfl) (hnn : ps.length = nn := by rfl)
    (hdb : (x == ("__debug__" : Str)) = false := by decide) (he : starEach (e :: es) X.env = (false, eval e X.env) :: starEach es X.env := by rfl) (hpl : (backTo pos (starEach es X.env)).any (·.1) = false := by rfl) :
    SE X W (.Call (.Name x p) (e :: es) [] pos) (mCallP nn g m) := by
  subst hnn
  obtain ⟨f, fd, F1, hm, hk, hb, _⟩ := F.ex
  exact PE.imp (pe_cl F1 (hr.mono hj) tk hm hk hb ha hg hdb he hpl) tE_clP
theorem se_callI {nn : Nat} {g : List D → Sto → Rs D} (F : DefI X.prog X.w X.K X.mg X.base j x ps g kws) (hr : RoomG k X.A) (hj : j ≤ k) (tk : L2.Takes X W) (ha : SA X W (e :: es) m) (hg : Gl X x := by rfl) (hnn : ps.length = nn := by rfl)
    (hdb : (x == ("__debug__" : Str)) = false := by decide) (he : starEach (e :: es) X.env = (false, eval e X.env) :: starEach es X.env := by rfl) (hpl : (backTo pos (starEach es X.env)).any (·.1) = false := by rfl) :
    SE X W (.Call (.Name x p) (e :: es) [] pos) (mCallI nn g m) := by
  subst hnn
  obtain ⟨f, fd, F1, hm, hk, hb, _⟩ := F.ex
  exact PE.imp (pe_cl F1 (hr.mono hj) tk hm hk hb ha hg hdb he hpl) tE_clI
theorem se_callP0 {nn : Nat} {g : List D → Pr} (F : DefP X.prog X.w X.K X.mg X.base j x ps g kws) (hr : RoomG k X.A) (hj : j ≤ k) (tk : L2.Takes X W) (hg : Gl X x := by rfl) (hnn : ps.length = nn := by rfl) (hdb : (x == ("__debug__" : Str)) = false := by decide) :
    SE X W (.Call (.Name x p) [] [] pos) (mCallP nn g mNil) := by
  subst hnn
  obtain ⟨f, fd, F1, hm, hk, hb, _⟩ := F.ex
  refine PE.imp (pe_cl0 F1 (hr.mono hj) tk hm hk hb hg hdb) fun σ H Q h => ?_
  obtain ⟨B, env, S, ρ, eo, so, P⟩ := h
  exact spP_of so (by simp only [RepL]) P
theorem se_callI0 {nn : Nat} {g : List D → Sto → Rs D} (F : DefI X.prog X.w X.K X.mg X.base j x ps g kws) (hr : RoomG k X.A) (hj : j ≤ k) (tk : L2.Takes X W) (hg : Gl X x := by rfl) (hnn : ps.length = nn := by rfl) (hdb : (x == ("__debug__" : Str)) = false := by decide) :
    SE X W (.Call (.Name x p) [] [] pos) (mCallI nn g mNil) := by
  subst hnn
  obtain ⟨f, fd, F1, hm, hk, hb, _⟩ := F.ex
  refine PE.imp (pe_cl0 F1 (hr.mono hj) tk hm hk hb hg hdb) fun σ H Q h => ?_
  obtain ⟨B, env, S, ρ, eo, so, P⟩ := h
  exact spI_of so (by simp only [RepL]) P
theorem se_callPK {nn : Nat} {g : List D → Pr} {kwl : List Keyword} {n : Nat} {ks : List Str} {ix : List Nat} (F : DefP X.prog X.w X.K X.mg X.base j x ps g kws) (hq : (n, ks, ix) ∈ kws) (hr : RoomG k X.A) (hj : j ≤ k) (tk : L2.Takes X W) (ha : SA X W (e :: es) m) (hkw : SK X W kwl mk) (hg : Gl X x := by rfl) (hnn : ps.length = nn := by rfl)
    (hall : (backToKw pos (keywordEach kwl X.env)).all (·.1.isSome) = true := by rfl) (hks : (backToKw pos (keywordEach kwl X.env)).filterMap (·.1) = ks := by rfl)
    (hdb : (x == ("__debug__" : Str)) = false := by decide) (he : starEach (e :: es) X.env = (false, eval e X.env) :: starEach es X.env := by rfl)
    (hpl : ((backTo pos (starEach (e :: es) X.env)).any (·.1) || (backToKw pos (keywordEach kwl X.env)).any (·.1.isNone)) = false := by rfl) :
    SE X W (.Call (.Name x p) (e :: es) kwl pos) (mCallP nn g (mKw n ks.length ix m mk)) := by
  subst hnn
  obtain ⟨f, fd, F1, hm, hk, _, hb⟩ := F.ex
  exact PE.imp (pe_clK F1 (hr.mono hj) tk hm hk (hb _ hq) ha hkw hg hall hks hdb he hpl) tE_clPK
theorem se_callPK0 {nn : Nat} {g : List D → Pr} {kwl : List Keyword} {ks : List Str} {ix : List Nat} (F : DefP X.prog X.w X.K X.mg X.base j x ps g kws) (hq : (0, ks, ix) ∈ kws) (hr : RoomG k X.A) (hj : j ≤ k) (tk : L2.Takes X W) (hkw : SK X W kwl mk) (hg : Gl X x := by rfl) (hnn : ps.length = nn := by rfl)
    (hall : (backToKw pos (keywordEach kwl X.env)).all (·.1.isSome) = true := by rfl) (hks : (backToKw pos (keywordEach kwl X.env)).filterMap (·.1) = ks := by rfl)
    (hdb : (x == ("__debug__" : Str)) = false := by decide)
    (hpl : ((backTo pos (starEach [] X.env)).any (·.1) || (backToKw pos (keywordEach kwl X.env)).any (·.1.isNone)) = false := by rfl) :
    SE X W (.Call (.Name x p) [] kwl pos) (mCallP nn g (mKw 0 ks.length ix mNil mk)) := by
  subst hnn
  obtain ⟨f, fd, F1, hm, hk, _, hb⟩ := F.ex
  refine PE.imp (pe_clK0 F1 (hr.mono hj) tk hm hk (hb _ hq) hkw hg hall hks hdb hpl) fun σ H Q h => ?_
  obtain ⟨t0, z⟩ : ∃ t : Unit, True := ⟨(), trivial⟩
  have q := tE_clPK σ H Q h
  obtain ⟨B, env, S, ρ, eo, so, P⟩ := q
  exact P ρ H Ext.refl so [] (by simp only [RepL])
theorem se_callIK {nn : Nat} {g : List D → Sto → Rs D} {kwl : List Keyword} {n : Nat} {ks : List Str} {ix : List Nat} (F : DefI X.prog X.w X.K X.mg X.base j x ps g kws) (hq : (n, ks, ix) ∈ kws) (hr : RoomG k X.A) (hj : j ≤ k) (tk : L2.Takes X W) (ha : SA X W (e :: es) m) (hkw : SK X W kwl mk) (hg : Gl X x := by rfl) (hnn : ps.length = nn := by rfl)
    (hall : (backToKw pos (keywordEach kwl X.env)).all (·.1.isSome) = true := by rfl) (hks : (backToKw pos (keywordEach kwl X.env)).filterMap (·.1) = ks := by rfl)
    (hdb : (x == ("__debug__" : Str)) = false := by decide) (he : starEach (e :: es) X.env = (false, eval e X.env) :: starEach es X.env := by rfl)
    (hpl : ((backTo pos (starEach (e :: es) X.env)).any (·.1) || (backToKw pos (keywordEach kwl X.env)).any (·.1.isNone)) = false := by rfl) :
    SE X W (.Call (.Name x p) (e :: es) kwl pos) (mCallI nn g (mKw n ks.length ix m mk)) := by
  subst hnn
  obtain ⟨f, fd, F1, hm, hk, _, hb⟩ := F.ex
  exact PE.imp (pe_clK F1 (hr.mono hj) tk hm hk (hb _ hq) ha hkw hg hall hks hdb he hpl) tE_clIK
theorem se_callIK0 {nn : Nat} {g : List D → Sto → Rs D} {kwl : List Keyword} {ks : List Str} {ix : List Nat} (F : DefI X.prog X.w X.K X.mg X.base j x ps g kws) (hq : (0, ks, ix) ∈ kws) (hr : RoomG k X.A) (hj : j ≤ k) (tk : L2.Takes X W) (hkw : SK X W kwl mk) (hg : Gl X x := by rfl) (hnn : ps.length = nn := by rfl)
    (hall : (backToKw pos (keywordEach kwl X.env)).all (·.1.isSome) = true := by rfl) (hks : (backToKw pos (keywordEach kwl X.env)).filterMap (·.1) = ks := by rfl)
    (hdb : (x == ("__debug__" : Str)) = false := by decide)
    (hpl : ((backTo pos (starEach [] X.env)).any (·.1) || (backToKw pos (keywordEach kwl X.env)).any (·.1.isNone)) = false := by rfl) :
    SE X W (.Call (.Name x p) [] kwl pos) (mCallI nn g (mKw 0 ks.length ix mNil mk)) := by
  subst hnn
  obtain ⟨f, fd, F1, hm, hk, _, hb⟩ := F.ex
  refine PE.imp (pe_clK0 F1 (hr.mono hj) tk hm hk (hb _ hq) hkw hg hall hks hdb hpl) fun σ H Q h => ?_
  have q := tE_clIK σ H Q h
  obtain ⟨B, env, S, ρ, eo, so, P⟩ := q
  exact P ρ H Ext.refl so [] (by simp only [RepL])
end

/-! ### how a def is shown to keep its promise -/
section
variable {P : Program} {w : World} {K : PySem.W.Frag} {mg : Str → Option Value} {base : Heap} {k : Nat} {f : Addr} {fd : FuncData} {x : Str} {prm : Arguments} {body : List Stmt} {scope : Scope} {N ps : List Str}
/-- the wish of a def's own body -/
abbrev WD (E : XK) : WX := fun cls d _ H => E cls d H
theorem DefP.of {m : MS} {kws : List Shape} (F : FunD K x x prm body scope [] [] f fd) (hm : mg x = some (.ref f)) (sc : FnScope N ps scope) (hb : Binds K fd ps []) (hk : ∀ q ∈ kws, BindsK K fd ps q.1 q.2.1 q.2.2)
    (go : ∀ (cdv : Value) (A : Around) (outer : List Env) (s : Shared) (H : Hp) (E : XK), RoomG k (A.deeper (PyProof.Rows.envOfC x scope s.heap.objs.size f cdv)) → SSs (cxOf (L2.CX P w) P w K mg base N x scope f cdv A outer s H E) (WD E) body m) :
    DefP P w K mg base (k + 1) x ps (runP N.length m) kws :=
  ⟨f, fd, FnG.of F sc len_P fun cdv A outer s H vs Q E hr h => ⟨_, go cdv A outer s H E hr, body_P h⟩, hm, F.kp, hb, hk⟩
theorem DefI.of {m : MS} {kws : List Shape} (F : FunD K x x prm body scope [] [] f fd) (hm : mg x = some (.ref f)) (sc : FnScope N ps scope) (hb : Binds K fd ps []) (hk : ∀ q ∈ kws, BindsK K fd ps q.1 q.2.1 q.2.2)
    (go : ∀ (cdv : Value) (A : Around) (outer : List Env) (s : Shared) (H : Hp) (E : XK), RoomG k (A.deeper (PyProof.Rows.envOfC x scope s.heap.objs.size f cdv)) → SSs (cxOf (L2.CX P w) P w K mg base N x scope f cdv A outer s H E) (WD E) body m) :
    DefI P w K mg base (k + 1) x ps (runI N.length m) kws :=
  ⟨f, fd, FnG.of F sc len_I fun cdv A outer s H vs Q E hr h => ⟨_, go cdv A outer s H E hr, body_I h⟩, hm, F.kp, hb, hk⟩
theorem kws_nil {K : PySem.W.Frag} {fd : FuncData} {ps : List Str} : ∀ q ∈ ([] : List Shape), BindsK K fd ps q.1 q.2.1 q.2.2 := fun _ h => nomatch h
theorem kws_cons {K : PySem.W.Frag} {fd : FuncData} {ps : List Str} {n : Nat} {ks : List Str} {ix : List Nat} {kws : List Shape} (h : BindsK K fd ps n ks ix) (r : ∀ q ∈ kws, BindsK K fd ps q.1 q.2.1 q.2.2) : ∀ q ∈ (n, ks, ix) :: kws, BindsK K fd ps q.1 q.2.1 q.2.2 := fun q m => by
  rcases List.mem_cons.mp m with e | m
  · subst e; exact h
  · exact r q m
theorem FunD.bindsK {ps : List Str} {n : Nat} {ks : List Str} {ix : List Nat} (F : FunD K x x prm body scope [] [] f fd)
    (h : ∀ (kV doc pm : Value) (an : Option Addr) (cdv ct : Value) (us ws : List Value), us.length = n → ws.length = ks.length → bindArgs (PySem.W.fnOf x x prm body scope .none kV doc pm an cdv ct) ⟨us, ks.zip ws⟩ = pure (ps.zip (perm ix (us ++ ws)))) : BindsK K fd ps n ks ix := by
  obtain ⟨oc, od, dV, kV, doc, pm, an, cdv, ct, osl, rfl, lk, hcd, hD, hK⟩ := F.ex
  rcases hD with ⟨_, rfl⟩ | ⟨e, _⟩
  · exact fun s us ws _ h1 h2 => .of_eq (h kV doc pm an cdv ct us ws h1 h2)
  · exact absurd rfl e
end
end Ev

/-! Ev, part 9: repr, the law's end. -/
namespace Ev
open PySem L2

/-! ### repr -/
/-! how long it gets at most -/
mutual
def szp : PyData → Nat
  | .none => 4
  | .bool _ => 5
  | .int _ => 2000
  | .str x => 10 * x.length + 2
  | .list xs => szpAll xs + 3
  | .tuple xs => szpAll xs + 3
  | .dict _ => 0
def szpAll : List PyData → Nat
  | [] => 0
  | x :: xs => szp x + 2 + szpAll xs
end
theorem textFrom_le : ∀ (ts : List Str) (k : Nat) (acc : Str), (textFrom k acc ts).length ≤ acc.length + (ts.map fun t => t.length + 2).sum
  | [], _, acc => by simp [textFrom]
  | t :: ts, k, acc => by
    unfold textFrom
    refine Nat.le_trans (textFrom_le ts (k + 1) _) ?_
    have e2 : ((if k > 0 then ", " else "" : String) : Str).length ≤ 2 := by split <;> decide
    rw [strLen_append, strLen_append, List.map_cons, List.sum_cons]
    omega
theorem join_le : ∀ ts : List Str, (Str.join ", " ts).length ≤ (ts.map fun t => t.length + 2).sum
  | [] => by show (Str.empty).length ≤ _; decide
  | [x] => by show x.length ≤ _; simp
  | x :: y :: r => by
    have ih := join_le (y :: r)
    show (x ++ ", " ++ Str.join ", " (y :: r)).length ≤ _
    have e2 : ((", " : String) : Str).length = 2 := rfl
    rw [strLen_append, strLen_append, e2, List.map_cons, List.sum_cons]; omega
mutual
theorem shown_le : ∀ p : PyData, p.canLay0 = true → p.showable = true → p.shown.length ≤ szp p
  | .none, _, _ => by simp only [PyData.shown, szp]; decide
  | .bool b, _, _ => by simp only [PyData.shown, szp]; cases b <;> decide
  | .int i, _, h => by
    simp only [PyData.showable, decide_eq_true_eq] at h
    simp only [PyData.shown, szp]
    have := int_text_length_le (by decide) h
    refine Nat.le_trans (Nat.le_of_eq (ofString_length _)) (Nat.le_trans this (by decide))
  | .str x, h, _ => by
    simp only [PyData.canLay0] at h
    simp only [PyData.shown, szp]
    refine StrLaws.reprText_len x fun c hc => ?_
    unfold PyData.strOk at h
    have h' := (Array.all_eq_true_iff_forall_mem.mp h) c (by simpa using hc)
    have h2 : c < 0x110000 := by simpa using h'
    exact Nat.lt_trans h2 (by decide)
  | .list xs, h, h2 => by
    simp only [PyData.canLay0] at h
    simp only [PyData.showable] at h2
    have ih := shownAll_le xs h h2
    simp only [PyData.shown, szp, listText]
    rw [strLen_append]
    have := textFrom_le (PyData.shownAll xs) 0 "["
    have e1 : (("[" : String) : Str).length = 1 := rfl
    have e2 : (("]" : String) : Str).length = 1 := rfl
    omega
  | .tuple xs, h, h2 => by
    simp only [PyData.canLay0] at h
    simp only [PyData.showable] at h2
    have ih := shownAll_le xs h h2
    simp only [PyData.shown, szp, tupleText]
    rw [strLen_append, strLen_append]
    have := join_le (PyData.shownAll xs)
    have e1 : (("(" : String) : Str).length = 1 := rfl
    have e2 : ((if (PyData.shownAll xs).length == 1 then ",)" else ")" : String) : Str).length ≤ 2 := by split <;> decide
    omega
  | .dict _, h, _ => by simp [PyData.canLay0] at h
theorem shownAll_le : ∀ ps : List PyData, PyData.canLayAll0 ps = true → PyData.showableAll ps = true → ((PyData.shownAll ps).map fun t => t.length + 2).sum ≤ szpAll ps
  | [], _, _ => by simp [PyData.shownAll, szpAll]
  | p :: ps, h, h2 => by
    simp only [PyData.canLayAll0, Bool.and_eq_true] at h
    simp only [PyData.showableAll, Bool.and_eq_true] at h2
    have h3 := shown_le p h.1 h2.1
    have h4 := shownAll_le ps h.2 h2.2
    simp only [PyData.shownAll, szpAll, List.map_cons, List.sum_cons]
    omega
end
def rprOk (p : PyData) : Bool := p.canLay0 && p.showable && Nat.ble p.depth 60 && Nat.ble (szp p) 16000000
def sRepr (S : Sto) : List D → Option D
  | [d] => match pyTop S d with | some p => if rprOk p then some (.str p.shown) else none | none => none
  | _ => none
theorem room_units {k : Nat} {X : Cx} (hr : RoomG k X.A) {n : Nat} (h : n ≤ 60) : X.A.units + (n + 1) < cLine := by have := hr.r.un; omega
theorem call_sRepr0 {X : Cx} (hg : X.A.guards = some []) (hu : ∀ n, n ≤ 60 → X.A.units + (n + 1) < cLine) : VCall X (.builtin "repr") sRepr := by
  intro pins s σ H xs us Q I r ⟨B, S, ρ, ds, so, rs, d, he, kk⟩
  unfold sRepr at he
  split at he
  · rename_i d0
    split at he
    · rename_i p hp
      split at he
      · rename_i hz
        cases he
        simp only [rprOk, Bool.and_eq_true] at hz
        obtain ⟨⟨⟨h1, h2⟩, h3⟩, h4⟩ := hz
        have h3 := Nat.le_of_ble_eq_true h3
        have h4 := Nat.le_of_ble_eq_true h4
        obtain ⟨v, rfl, r1⟩ := repL1 rs
        have dp := dp_top so r1 hp
        cases r with
        | cons ru rn =>
          cases rn
          rename_i u
          have hsz : p.shown.length ≤ sizeLine := Nat.le_trans (shown_le p h1 h2) (Nat.le_trans h4 (by rw [sizeLine_eq]; decide))
          have fin : ∀ (h' : Heap) (t : Tok) (tk : Tok), (∀ b o, s.heap.get? b = some o → h'.get? b = some o) → EP X pins σ Q (.str p.shown t) { s with heap := h', toks := tk } := fun h' t tk hk => ⟨.str p.shown, H, I.kept hk, ⟨t, rfl⟩, kk ρ H _ Ext.refl so (by simp only [Rep])⟩
          obtain ⟨as, rd⟩ := Dp.reads I p v u dp ru
          cases p with
          | none =>
            cases dp
            cases ru
            exact P.repr_of_none (fin _ _ _ fun _ _ e => e)
          | bool b =>
            cases dp
            cases ru
            exact P.repr_of_bool (fin _ _ _ fun _ _ e => e)
          | int i =>
            cases dp
            obtain ⟨t, rfl⟩ := ru
            simp only [PyData.showable, decide_eq_true_eq] at h2
            exact P.repr_of_int h2 (fin _ _ _ fun _ _ e => e)
          | str x =>
            cases dp
            obtain ⟨t, rfl⟩ := ru
            exact P.repr_of_str (fin _ _ _ fun _ _ e => e) hsz
          | list xs =>
            cases dp
            cases ru
            exact repr_of_reads' rd h2 (PyData.noDict_hsm (PyData.hasDict_of_canLay _ h1)) hg (hu _ h3) (fun _ _ e => e) (fun h' t tk hk => fin h' t tk hk) hsz
          | tuple xs =>
            cases dp
            cases ru
            exact repr_of_reads' rd h2 (PyData.noDict_hsm (PyData.hasDict_of_canLay _ h1)) hg (hu _ h3) (fun _ _ e => e) (fun h' t tk hk => fin h' t tk hk) hsz
          | dict kvs => simp [PyData.canLay0] at h1
      · cases he
    · cases he
  · cases he
theorem call_sRepr {X : Cx} {k : Nat} (hr : RoomG k X.A) : VCall X (.builtin "repr") sRepr := call_sRepr0 hr.g fun _ h => room_units hr h

/-! ### the law's end -/
/-- the law's def promises True of every script -/
theorem walkG {l : PySem.W.OpenLaw} {n k : Nat} {q : Program} {loose : List Str} {XP : (Str → Option Value) → Heap → Prop} {YP : World → Heap → Prop} {d : DefRec} {ps : List Str} {g : List D → Pr}
    (hn : l.most = some n) (hn2 : n ≤ sizeLine) (hdf : d.params.defaults = []) (hr : RoomG k callerA) (hp : ps.length = 1)
    (F : ∀ (w : World) (mg : Str → Option Value) (h : Heap), YP w h → h.Ns mainGlobals mg → ∃ K : PySem.W.Frag, K.In h ∧ ∀ base : Heap, K.In base → base.Ns mainGlobals mg → DefP l.prog w K mg base k d.name ps g [])
    (hg : ∀ ns : List Int, ns.length ≤ n → g [.rol (ns.map .int)] = .ok (.bl true)) : PySem.W.WalkO q loose XP YP l.row.toRowW d [] (fun f vs => PySem.call f vs) := by
  refine Att.attach_call hn hdf fun w s₀ s₁ mg mb fa o pm cd doc a vs ns G Y ho hd hcd hmg hobj hints hlen hgens => ?_
  obtain ⟨K, KX, hF⟩ := F w mg _ Y G.T.g
  obtain ⟨x, rfl⟩ : ∃ x, ps = [x] := by
    match ps, hp with
    | [x], _ => exact ⟨x, rfl⟩
  have rv := vals_ints hints
  have hl : ns.length ≤ sizeLine := Nat.le_trans hlen hn2
  -- where a stands, nothing else does
  have key : ∀ H : Hp, (∀ b, H b ≠ none → b = a) → (H a ≠ none → K.lookup a = none) → (∀ b, H b = none ∨ ∃ o xs, H b = some (.frz o (.lst xs))) → HOk l.prog w H s₁.heap → SqL K H a (ns.map V.int) →
      codeAny (model l.prog w) callerA (.call (.ref fa) ⟨[.ref a], []⟩) (fun r s' => r = .ok (.ret (.bool true)) ∧ OldK s₁.heap s'.heap ∧ s'.os = s₁.os ∧ PyProof.Rows.AllBare s'.gens) s₁ := by
    intro H only kl hO hok hS
    have free : ∀ b o, s₁.heap.get? b = some o → (∃ u, K.lookup b = some u) ∨ (∃ es ep, o.data = Data.dict es ep) → H b = none := fun b o e z => by
      cases q : H b with
      | none => rfl
      | some u =>
        have hb := only b (by rw [q]; simp)
        subst hb
        rcases z with ⟨u', z⟩ | ⟨es, ep, z⟩
        · rw [kl (by rw [q]; simp)] at z; cases z
        · rw [hobj] at e
          cases e
          have z' : Data.seq vs.toArray _ = Data.dict es ep := z
          cases z'
    have KB : K.In (hidT s₁.heap H) := fun b o e => hidT_get (KX b o e) (free b o (KX b o e) (.inl ⟨o, e⟩))
    have nsB : ∀ {b : Addr} {m : Str → Option Value}, s₁.heap.Ns b m → (hidT s₁.heap H).Ns b m := fun {b m} ⟨o, es, ep, e, dd, r⟩ => ⟨o, es, ep, hidT_get e (free b o e (.inr ⟨es, ep, dd⟩)), dd, r⟩
    have hM : Mod K mg (hidT s₁.heap H) := ⟨KB, nsB G.T.g, ⟨mb, nsB G.T.b, G.T.builtins⟩, (let ⟨mc, h1, h2⟩ := G.T.nolimit; ⟨mc, nsB h1, h2⟩)⟩
    have e0 : Env0 l.prog w K mg (hidT s₁.heap H) callerA [] s₁ H := ⟨rfl, hM, fun b o e => of_hidT e, Nat.le_of_eq (hidT_size _ _), trivial, fun b hb => absurd (show b ∈ ([] : List Addr) from hb) (by simp), hok, .of_eq hgens⟩
    obtain ⟨f, fd, FG, hm, hk, hb, _⟩ := (hF _ KB (nsB G.T.g)).ex
    have ef := hmg.symm.trans hm
    cases ef
    have bnd := hb s₁ [.ref a] KX rfl
    refine codeAny_mono (FG.go callerA [] s₁ H ⟨[.ref a], []⟩ [.ref a] [.ref a] (fun v _ => v = .bl true) (fun _ _ _ => False) hr e0 bnd (.cons rfl .nil) ?_) fun r s' h => ?_
    · refine ⟨fun _ => False, [.rol (ns.map .int)], fun a b => b.elim, ?_, rfl, ?_⟩
      · simp only [RepL]
        refine ⟨_, _, rfl, ?_, rfl⟩
        simp only [Rep]
        refine ⟨a, ns.map V.int, rfl, ?_, ?_⟩
        · rcases hS with z | z
          · exact .inl ⟨z, by simp, by simp⟩
          · exact .inr z
        · clear hS hints hlen hl rv
          induction ns with
          | nil => simp only [List.map_nil, RepL]
          | cons i is ih =>
            simp only [List.map_cons, RepL]
            exact ⟨_, _, rfl, by simp only [Rep], ih⟩
      · rw [hg ns hlen]
        intro H' v _ r
        simpa only [Rep] using r
    · cases r with
      | error e =>
        obtain ⟨_, _, _, _, _, _, _, _, _, _, _, _, _, z⟩ := h
      | ok fl =>
        cases fl with
        | next => exact h.elim
        | brk => exact h.elim
        | cont => exact h.elim
        | ret u =>
          obtain ⟨v, H', os, bare, un, hok', r', q⟩ := h
          have q' : v = .bl true := q
          subst q'
          obtain rfl : u = Value.bool true := r'
          refine ⟨rfl, OldK.of_keep fun b o e => ?_, os, bare⟩
          rcases hO b with q | ⟨ob, xs, q⟩
          · exact un.keep b o e q (by intro z; exact absurd (show b ∈ ([] : List Addr) from z) (by simp)) (by simp)
          · obtain ⟨e1, _⟩ := hok b _ q
            obtain ⟨e2, _⟩ := hok' b _ (un.frzs b ob _ q)
            rw [e] at e1
            cases e1
            exact e2
  cases hk : K.lookup a with
  | some o =>
    have e := KX a o hk
    rw [hobj] at e
    cases e
    exact key (fun _ => none) (fun b z => absurd rfl z) (fun z => absurd rfl z) (fun _ => .inl rfl) (fun b u z => by cases (show (none : Option HO) = some u from z)) (.inr ⟨_, vs.toArray, _, hk, rfl, rfl, rfl, by rw [List.size_toArray, hints.length]; exact hl, by simpa using rv⟩)
  | none =>
    let H : Hp := fun b => if b = a then some (.frz { cls := .type "list", data := .seq vs.toArray } (.lst (ns.map V.int))) else none
    have at_a : H a = some (.frz { cls := .type "list", data := .seq vs.toArray } (.lst (ns.map V.int))) := if_pos rfl
    have off : ∀ b, b ≠ a → H b = none := fun b h => if_neg h
    refine key H (fun b z => Classical.byContradiction fun n => z (off b n)) (fun _ => hk) (fun b => ?_) (fun b u z => ?_) (.inl (.inr ⟨_, at_a⟩))
    · by_cases hb : b = a
      · exact .inr ⟨_, _, hb ▸ at_a⟩
      · exact .inl (off b hb)
    · by_cases hb : b = a
      · subst hb
        rw [at_a] at z
        cases z
        exact ⟨hobj, by rw [List.length_map]; exact hl, vs, _, rv, hobj⟩
      · rw [off b hb] at z
        cases z
end Ev

/-! Ev, part 10: small things for the printed walks. -/
namespace Ev
open PySem L2
def nkB (o : Option NameKind) (k : NameKind) : Bool := match o with | some j => decide (j = k) | none => false
theorem nkB_ok {o : Option NameKind} {k : NameKind} (h : nkB o k = true) : o = some k := by
  cases o with
  | none => cases h
  | some j => rw [of_decide_eq_true h]
def blkB (N : List Str) (names : List (Str × NameKind)) (scope : Scope) (own : List (Str × Nat)) : Bool :=
  (match scope.kind with | .function => true | _ => false) && scope.names.all (fun y => nkB (scope.names.lookup y.1) y.2) && own.all (fun p => match N[p.2]? with | some x => x == p.1 | none => false) &&
    scope.names.all (fun y => match y.2 with | .free => nkB (names.lookup y.1) .cell || nkB (names.lookup y.1) .free | _ => true) &&
    scope.names.all (fun y => match y.2 with | .local => (own.map (·.1)).any (· == y.1) || !(N.any (· == y.1)) | .cell => (own.map (·.1)).any (· == y.1) || !(N.any (· == y.1)) | _ => true)
theorem BlkOk.of {N : List Str} {sc scope : Scope} {own : List (Str × Nat)} (h : blkB N sc.names scope own = true) : BlkOk N sc scope own := by
  simp only [blkB, Bool.and_eq_true, List.all_eq_true] at h
  obtain ⟨⟨⟨⟨h1, h2⟩, h3⟩, h4⟩, h5⟩ := h
  have anyS : ∀ (l : List Str) (x : Str), (l.any (· == x)) = true ↔ x ∈ l := fun l x => by simp
  have last : ∀ y : Str × NameKind, ((own.map (·.1)).any (· == y.1) || !(N.any (· == y.1))) = true → y.1 ∈ own.map (·.1) ∨ y.1 ∉ N := fun y q => by
    rw [Bool.or_eq_true] at q
    rcases q with q | q
    · exact .inl ((anyS _ _).mp q)
    · refine .inr fun m => ?_
      rw [(anyS N y.1).mpr m] at q
      cases q
  refine ⟨?_, fun y hy => nkB_ok (h2 y hy), fun p hp => ?_, fun y hy e => ?_, fun y hy e => ?_⟩
  · split at h1
    · assumption
    · cases h1
  · have := h3 p hp
    split at this
    · rename_i x q; rw [q, eq_of_beq this]
    · cases this
  · have := h4 y hy
    rw [e] at this
    simp only [Bool.or_eq_true] at this
    exact this.imp nkB_ok nkB_ok
  · have := h5 y hy
    rcases e with e | e <;> (rw [e] at this; exact last y this)
theorem KD.ofInt {K : PySem.W.Frag} {mg : Str → Option Value} {x : Str} {i : Int} (h : ∃ t, mg x = some (.int i t)) : KD K mg x (.int i) := let ⟨t, e⟩ := h; ⟨_, .int i, e, ⟨t, rfl⟩, fun _ _ _ => by simp only [Rep]⟩
theorem KD.ofStr {K : PySem.W.Frag} {mg : Str → Option Value} {x z : Str} (h : ∃ t, mg x = some (.str z t)) : KD K mg x (.str z) := let ⟨t, e⟩ := h; ⟨_, .str z, e, ⟨t, rfl⟩, fun _ _ _ => by simp only [Rep]⟩
section
variable {X : Cx} {W : WX}
/-- one or the other way to read -/
theorem SI.or {tg x : Expr} {m1 m2 : ML} (h1 : SI X W tg x m1) (h2 : SI X W tg x m2) : SI X W tg x (fun env S => match m1 env S with | .err => m2 env S | r => r) := ⟨fun pins s σ H R I h => by
  obtain ⟨B, env, S, ρ, eo, so, P⟩ := h
  cases q : m1 env S with
  | err => exact h2.run pins s σ H R I ⟨B, env, S, ρ, eo, so, by simpa only [q] using P⟩
  | ok a S1 => exact h1.run pins s σ H R I ⟨B, env, S, ρ, eo, so, by rw [q]; simpa only [q] using P⟩
  | exc c p S1 => exact h1.run pins s σ H R I ⟨B, env, S, ρ, eo, so, by rw [q]; simpa only [q] using P⟩⟩
/-- what stays as it is and can be walked: a tuple, a list that is not written -/
def fixS : D → Option (List D) | .lst ds => some ds | .rol ds => some ds | .tup ds => some ds | _ => none
def mItS (m : M) : ML := fun env S => (m env S).bind fun d S1 => Rs.of (fixS d) S1
theorem si_seq {l tg : Expr} {m : M} (hl : SE X W l m) : SI X W tg l (mItS m) := PI.imp (SI.or (si_list hl) (si_tup hl)) fun σ H R h => by
  obtain ⟨B, env, S, ρ, eo, so, P⟩ := h
  refine ⟨B, env, S, ρ, eo, so, ?_⟩
  have e : (match mItL m env S with | .err => mItT m env S | r => r) = mItS m env S := by
    unfold mItL mItT mItS
    cases q : m env S with
    | err => rfl
    | exc c p S1 => rfl
    | ok d S1 => cases d <;> rfl
  simp only [e]
  exact P
end
end Ev

/-! Ev, part 11: what is to be shown of plain functions, by going back from what is wanted. -/
namespace Ev
open PySem L2
abbrev XQ := Str → Option (List Str × List D) → Sto → Prop
def Rs.po {α : Type} (r : Rs α) (Q : α → Sto → Prop) (X : XQ) : Prop := match r with | .ok a S => Q a S | .exc c p S => X c p S | .err => False
def opo {α : Type} (o : Option α) (Q : α → Prop) : Prop := match o with | some a => Q a | none => False
def fpo (r : Option (Fl × Sto)) (Q : Fl → Sto → Prop) : Prop := match r with | some (f, S) => Q f S | none => False
def gpo (r : Option (En × Sto)) (Q : En → Sto → Prop) : Prop := match r with | some (e, S) => Q e S | none => False
def Pr.po (r : Pr) (Q : D → Prop) (X : Str → Option (List Str × List D) → Prop) : Prop := match r with | .ok d => Q d | .exc c p => X c p | .err => False
def blE (d : D) (A B : Prop) : Prop := match d with | .bl true => A | .bl false => B | _ => False
@[simp] theorem blE_bl {b : Bool} {A B : Prop} : blE (.bl b) A B = if b = true then A else B := by cases b <;> rfl
def clI (n : Nat) (g : List D → Sto → Rs D) (ds : List D) (S : Sto) : Rs D := if Nat.beq ds.length n then g ds S else .err
section
variable {α β : Type} {Q : α → Sto → Prop} {X : XQ} {env : En} {S : Sto}
@[simp] theorem po_ok {a : α} : (Rs.ok a S).po Q X = Q a S := rfl
@[simp] theorem po_exc {c : Str} {p : Option (List Str × List D)} : (Rs.exc c p S : Rs α).po Q X = X c p S := rfl
@[simp] theorem po_err : (Rs.err : Rs α).po Q X = False := rfl
@[simp] theorem po_bind {r : Rs β} {f : β → Sto → Rs α} : (r.bind f).po Q X = r.po (fun a S => (f a S).po Q X) X := by cases r <;> rfl
@[simp] theorem po_of {o : Option α} : (Rs.of o S).po Q X = opo o (fun a => Q a S) := by cases o <;> rfl
@[simp] theorem po_ite {c : Prop} [Decidable c] {a b : Rs α} : (if c then a else b).po Q X = if c then a.po Q X else b.po Q X := by split <;> rfl
@[simp] theorem opo_some {a : α} {Q : α → Prop} : opo (some a) Q = Q a := rfl
@[simp] theorem opo_none {Q : α → Prop} : opo none Q = False := rfl
@[simp] theorem opo_map {f : α → β} {o : Option α} {Q : β → Prop} : opo (o.map f) Q = opo o (fun a => Q (f a)) := by cases o <;> rfl
@[simp] theorem opo_ite {c : Prop} [Decidable c] {a : α} {Q : α → Prop} : opo (if c then some a else none) Q = (c ∧ Q a) := by
  split <;> simp [*]
@[simp] theorem gpo_some {e : En} {Q : En → Sto → Prop} : gpo (some (e, S)) Q = Q e S := rfl
@[simp] theorem gpo_none {Q : En → Sto → Prop} : gpo none Q = False := rfl
@[simp] theorem fpo_some {f : Fl} {Q : Fl → Sto → Prop} : fpo (some (f, S)) Q = Q f S := rfl
@[simp] theorem fpo_none {Q : Fl → Sto → Prop} : fpo none Q = False := rfl
@[simp] theorem prpo_ok {d : D} {Q : D → Prop} {X} : (Pr.ok d).po Q X = Q d := rfl
@[simp] theorem prpo_exc {c p} {Q : D → Prop} {X} : (Pr.exc c p).po Q X = X c p := rfl
@[simp] theorem prpo_err {Q : D → Prop} {X} : Pr.err.po Q X = False := rfl
theorem Rs.po.mono {r : Rs α} {Q Q' : α → Sto → Prop} {X X' : XQ} (h : r.po Q X) (hq : ∀ a S, Q a S → Q' a S) (hx : ∀ c p S, X c p S → X' c p S) : r.po Q' X' := by
  cases r with
  | ok a S => exact hq _ _ h
  | exc c p S => exact hx _ _ _ h
  | err => exact h
theorem fpo.mono {r : Option (Fl × Sto)} {Q Q' : Fl → Sto → Prop} (h : fpo r Q) (hq : ∀ f S, Q f S → Q' f S) : fpo r Q' := by
  cases r with
  | none => exact h
  | some p => exact hq _ _ h
theorem Pr.po.mono {r : Pr} {Q Q' : D → Prop} {X X'} (h : r.po Q X) (hq : ∀ a, Q a → Q' a) (hx : ∀ c p, X c p → X' c p) : r.po Q' X' := by
  cases r with
  | ok a => exact hq _ h
  | exc c p => exact hx _ _ h
  | err => exact h
theorem Pr.eq {r : Pr} {v : D} (h : r.po (fun d => d = v) fun _ _ => False) : r = .ok v := by
  cases r with
  | ok a => rw [show a = v from h]
  | exc c p => exact h.elim
  | err => exact h.elim
theorem Pr.eqx {r : Pr} {c : Str} {p : Option (List Str × List D)} (h : r.po (fun d => False) fun c' p' => c' = c ∧ p' = p) : r = .exc c p := by
  cases r with
  | ok a => exact h.elim
  | exc c p => obtain ⟨rfl, rfl⟩ := h; rfl
  | err => exact h.elim
end
section
variable {Q : D → Sto → Prop} {X : XQ} {env : En} {S : Sto} {P : D → Prop}
@[simp] theorem mVar_po {i : Nat} : (mVar i env S).po Q X = (match env[i]? with | some (some d) => Q d S | _ => False) := by
  unfold mVar
  generalize env[i]? = o
  cases o with
  | none => rfl
  | some o => cases o <;> rfl
@[simp] theorem mC_po {d : D} : (mC d env S).po Q X = Q d S := rfl
@[simp] theorem mOp_po {sem : Sto → D → D → Option D} {a b : M} : (mOp sem a b env S).po Q X = (a env S).po (fun x S1 => (b env S1).po (fun y S2 => opo (sem S2 x y) fun d => Q d S2) X) X := by simp [mOp]
@[simp] theorem sUn_po {sem : Sto → D → Option D} {a : M} : (sUn sem a env S).po Q X = (a env S).po (fun x S1 => opo (sem S1 x) fun d => Q d S1) X := by simp [sUn]
@[simp] theorem mIf_po {c : MT} {a b : M} : (mIf c a b env S).po Q X = (c env S).po (fun k S1 => if k = true then (a env S1).po Q X else (b env S1).po Q X) X := by simp [mIf]
@[simp] theorem mAndV_po {a b : M} : (mAndV a b env S).po Q X = (a env S).po (fun d S1 => blE d ((b env S1).po Q X) (Q (.bl false) S1)) X := by
  simp only [mAndV, po_bind]; congr; funext d S1
  cases d with
  | bl b => cases b <;> rfl
  | _ => rfl
@[simp] theorem mOrV_po {a b : M} : (mOrV a b env S).po Q X = (a env S).po (fun d S1 => blE d (Q (.bl true) S1) ((b env S1).po Q X)) X := by
  simp only [mOrV, po_bind]; congr; funext d S1
  cases d with
  | bl b => cases b <;> rfl
  | _ => rfl
@[simp] theorem mNotV_po {a : M} : (mNotV a env S).po Q X = (a env S).po (fun d S1 => opo (truB S1 d) fun b => Q (.bl !b) S1) X := by simp [mNotV]
@[simp] theorem mChain_po {sem sem' : Sto → D → D → Option D} {a b c : M} : (mChain sem sem' a b c env S).po Q X = (a env S).po (fun x S1 => (b env S1).po (fun y S2 => opo (sem S2 x y) fun d => blE d ((c env S2).po (fun z S3 => opo (sem' S3 y z) fun d => Q d S3) X) (Q (.bl false) S2)) X) X := by
  simp only [mChain, po_bind]; congr; funext x S1; congr; funext y S2
  cases sem S2 x y with
  | none => rfl
  | some d => cases d with
    | bl b => cases b <;> simp [blE]
    | _ => rfl
@[simp] theorem mTup_po {m : ML} : (mTup m env S).po Q X = (m env S).po (fun ds S1 => room ds.length = true ∧ Q (.tup ds) S1) X := by
  simp only [mTup, po_bind]; congr; funext ds S1; cases room ds.length <;> simp
@[simp] theorem mLst_po {m : ML} : (mLst m env S).po Q X = (m env S).po (fun ds S1 => room ds.length = true ∧ Q (.lst ds) S1) X := by
  simp only [mLst, po_bind]; congr; funext ds S1; cases room ds.length <;> simp
@[simp] theorem mNew_po {m : ML} : (mNew m env S).po Q X = (m env S).po (fun ds S1 => room ds.length = true ∧ Q (.ref S1.length) (S1 ++ [.lst ds])) X := by
  simp only [mNew, po_bind]; congr; funext ds S1; cases room ds.length <;> simp
@[simp] theorem mCB_po {sem : Sto → List D → Option D} {m : ML} : (mCB sem m env S).po Q X = (m env S).po (fun ds S1 => opo (sem S1 ds) fun d => Q d S1) X := by simp [mCB]
@[simp] theorem mCallP_po {n : Nat} {g : List D → Pr} {m : ML} : (mCallP n g m env S).po Q X = (m env S).po (fun ds S1 => (clP n g ds S1).po Q X) X := by simp [mCallP]
@[simp] theorem mCallI_po {n : Nat} {g : List D → Sto → Rs D} {m : ML} : (mCallI n g m env S).po Q X = (m env S).po (fun ds S1 => (clI n g ds S1).po Q X) X := by simp only [mCallI, clI, po_bind]
theorem clP_po {n : Nat} {g : List D → Pr} {ds : List D} : (clP n g ds S).po Q X = ((noRefs ds = true ∧ ds.length = n) ∧ (g ds).po (fun d => Q d S) fun c p => X c p S) := by
  unfold clP
  by_cases h : noRefs ds = true
  · by_cases h2 : ds.length = n
    · have : Nat.beq ds.length n = true := Nat.beq_eq.mpr h2
      simp only [h, h2, this, Bool.and_self, if_true, true_and]
      subst h2
      cases g ds <;> simp [prR]
    · have : Nat.beq ds.length n = false := by
        cases q : Nat.beq ds.length n
        · rfl
        · exact absurd (Nat.beq_eq.mp q) h2
      simp [h2, this]
  · simp [h]
theorem clP_eq {n : Nat} {g : List D → Pr} {ds : List D} {v : D} (h : g ds = .ok v) (h1 : noRefs ds = true := by rfl) (h2 : ds.length = n := by rfl) : clP n g ds S = .ok v S := by
  subst h2
  unfold clP
  rw [h1, h, if_pos (by simp)]
  rfl
theorem clI_po {n : Nat} {g : List D → Sto → Rs D} {ds : List D} (h : ds.length = n) : (clI n g ds S).po Q X = (g ds S).po Q X := by
  unfold clI
  rw [if_pos (Nat.beq_eq.mpr h)]
end
section
variable {Q : List D → Sto → Prop} {X : XQ} {env : En} {S : Sto}
@[simp] theorem mNil_po : (mNil env S).po Q X = Q [] S := rfl
@[simp] theorem mCons_po {a : M} {r : ML} : (mCons a r env S).po Q X = (a env S).po (fun d S1 => (r env S1).po (fun ds S2 => Q (d :: ds) S2) X) X := by simp [mCons]
@[simp] theorem mKw_po {n j : Nat} {ix : List Nat} {m mk : ML} : (mKw n j ix m mk env S).po Q X = (m env S).po (fun ds S1 => (mk env S1).po (fun es S2 => (ds.length = n ∧ es.length = j) ∧ Q (perm ix (ds ++ es)) S2) X) X := by
  simp only [mKw, po_bind]; congr; funext ds S1; congr; funext es S2
  by_cases h1 : ds.length = n
  · by_cases h2 : es.length = j
    · have e1 : Nat.beq ds.length n = true := Nat.beq_eq.mpr h1
      have e2 : Nat.beq es.length j = true := Nat.beq_eq.mpr h2
      simp [h1, h2]
    · have e2 : Nat.beq es.length j = false := by
        cases q : Nat.beq es.length j
        · rfl
        · exact absurd (Nat.beq_eq.mp q) h2
      simp [h2, e2]
  · have e1 : Nat.beq ds.length n = false := by
      cases q : Nat.beq ds.length n
      · rfl
      · exact absurd (Nat.beq_eq.mp q) h1
    simp [h1, e1]
@[simp] theorem mRng1_po {m : ML} : (mRng1 m env S).po Q X = (m env S).po (fun ds S1 => match ds with | [.int j] => rngOk j = true ∧ Q (rngD 0 j.toNat) S1 | _ => False) X := by
  simp only [mRng1, po_bind]; congr; funext ds S1
  rcases ds with _ | ⟨d, _ | ⟨e, ds⟩⟩
  · rfl
  · cases d with
    | int j => simp only [po_ite, po_ok, po_err]; split <;> simp [*]
    | _ => rfl
  · cases d <;> rfl
@[simp] theorem mRng2_po {m : ML} : (mRng2 m env S).po Q X = (m env S).po (fun ds S1 => match ds with | [.int i, .int j] => (rngOk i && rngOk j) = true ∧ Q (rngD i (j - i).toNat) S1 | _ => False) X := by
  simp only [mRng2, po_bind]; congr; funext ds S1
  rcases ds with _ | ⟨d, _ | ⟨e, _ | ⟨f, ds⟩⟩⟩
  · rfl
  · cases d <;> rfl
  · cases d with
    | int i => cases e with
      | int j => simp only [po_ite, po_ok, po_err]; split <;> simp_all
      | _ => rfl
    | _ => rfl
  · cases d with
    | int i => cases e <;> rfl
    | _ => rfl
@[simp] theorem mItS_po {m : M} : (mItS m env S).po Q X = (m env S).po (fun d S1 => opo (fixS d) fun ds => Q ds S1) X := by simp [mItS]
end
section
variable {Q : Bool → Sto → Prop} {X : XQ} {env : En} {S : Sto}
@[simp] theorem mBs_po {m : M} : (mBs m env S).po Q X = (m env S).po (fun d S1 => match d with | .bl b => Q b S1 | _ => False) X := by
  simp only [mBs, po_bind]; congr; funext d S1; cases d <;> rfl
@[simp] theorem mTru_po {m : M} : (mTru m env S).po Q X = (m env S).po (fun d S1 => opo (truB S1 d) fun b => Q b S1) X := by simp [mTru]
@[simp] theorem mAndT_po {a b : MT} : (mAndT a b env S).po Q X = (a env S).po (fun c S1 => if c = true then (b env S1).po Q X else Q false S1) X := by simp [mAndT]
@[simp] theorem mOrT_po {a b : MT} : (mOrT a b env S).po Q X = (a env S).po (fun c S1 => if c = true then Q true S1 else (b env S1).po Q X) X := by simp [mOrT]
@[simp] theorem mNotT_po {a : MT} : (mNotT a env S).po Q X = (a env S).po (fun c S1 => Q (!c) S1) X := by simp [mNotT]
@[simp] theorem mYes_po : (mYes env S).po Q X = Q true S := rfl
end
section
variable {Q : Option Int → Sto → Prop} {X : XQ} {env : En} {S : Sto}
@[simp] theorem mONone_po : (mONone env S).po Q X = Q none S := rfl
@[simp] theorem mOSome_po {m : M} : (mOSome m env S).po Q X = (m env S).po (fun d S1 => match d with | .int i => Q (some i) S1 | _ => False) X := by
  simp only [mOSome, po_bind]; congr; funext d S1; cases d <;> rfl
@[simp] theorem mSl_po {Q : D → Sto → Prop} {a : M} {l h : MO} : (mSl a l h env S).po Q X = (a env S).po (fun x S1 => (l env S1).po (fun lo S2 => (h env S2).po (fun hi S3 => opo (sSl S3 x lo hi) fun d => Q d S3) X) X) X := by simp [mSl]
end
@[simp] theorem room_eq (n : Nat) : room n = decide (n ≤ 16000000) := by
  unfold room
  rw [Bool.eq_iff_iff, Nat.ble_eq]; simp
/-! ### by kinds -/
section
variable {S : Sto} {P : D → Prop} {i j : Int} {a b : Str} {xs ys : List D}
@[simp] theorem sAdd_ii : sAdd S (.int i) (.int j) = some (.int (i + j)) := rfl
@[simp] theorem sAdd_ss : sAdd S (.str a) (.str b) = if room (a.length + b.length) = true then some (.str (a ++ b)) else none := rfl
@[simp] theorem sAdd_tt : sAdd S (.tup xs) (.tup ys) = if room (xs.length + ys.length) = true then some (.tup (xs ++ ys)) else none := rfl
@[simp] theorem sAdd_ll : sAdd S (.lst xs) (.lst ys) = if room (xs.length + ys.length) = true then some (.lst (xs ++ ys)) else none := rfl
@[simp] theorem sSub_ii : sSub S (.int i) (.int j) = some (.int (i - j)) := rfl
@[simp] theorem sMul_ii : sMul S (.int i) (.int j) = if cMul i j = true then some (.int (i * j)) else none := rfl
@[simp] theorem sFdiv_ii : sFdiv S (.int i) (.int j) = if cDivG i j = true then some (.int (i.fdiv j)) else none := rfl
@[simp] theorem sMod_ii : sMod S (.int i) (.int j) = if cNz i j = true then some (.int (i.fmod j)) else none := rfl
@[simp] theorem sPow_ii : sPow S (.int i) (.int j) = if cPow i j = true then some (.int (i ^ j.toNat)) else none := rfl
@[simp] theorem sNeg_i : sNeg S (.int i) = some (.int (-i)) := rfl
@[simp] theorem sEq_ii : sEq S (.int i) (.int j) = some (.bl (decide (i = j))) := rfl
@[simp] theorem sEq_ss : sEq S (.str a) (.str b) = some (.bl (decide (a = b))) := rfl
@[simp] theorem sNe_ii : sNe S (.int i) (.int j) = some (.bl !(decide (i = j))) := rfl
@[simp] theorem sNe_ss : sNe S (.str a) (.str b) = some (.bl !(decide (a = b))) := rfl
@[simp] theorem sLt_ii : sLt S (.int i) (.int j) = some (.bl (decide (i < j))) := rfl
@[simp] theorem sGt_ii : sGt S (.int i) (.int j) = some (.bl (decide (j < i))) := rfl
@[simp] theorem sLe_ii : sLe S (.int i) (.int j) = some (.bl (decide (i ≤ j))) := rfl
@[simp] theorem sGe_ii : sGe S (.int i) (.int j) = some (.bl (decide (j ≤ i))) := rfl
@[simp] theorem sIx_ti : sIx S (.tup xs) (.int i) = atI xs i := rfl
@[simp] theorem sIx_li : sIx S (.lst xs) (.int i) = atI xs i := rfl
@[simp] theorem sIx_ri : sIx S (.rol xs) (.int i) = atI xs i := rfl
theorem sIx_ref {n : Nat} (h : S[n]? = some (.lst xs)) : sIx S (.ref n) (.int i) = atI xs i := by simp [sIx, lstOf, h]
@[simp] theorem sLen_t : sLen S [.tup xs] = some (.int (xs.length : Int)) := rfl
@[simp] theorem sLen_l : sLen S [.lst xs] = some (.int (xs.length : Int)) := rfl
@[simp] theorem sLen_r : sLen S [.rol xs] = some (.int (xs.length : Int)) := rfl
theorem sLen_ref {n : Nat} (h : S[n]? = some (.lst xs)) : sLen S [.ref n] = some (.int (xs.length : Int)) := by simp [sLen, lstOf, h]
@[simp] theorem sAbs_i : sAbs S [.int i] = some (.int (if i < 0 then -i else i)) := rfl
@[simp] theorem sMax_i : sMax S [.int i, .int j] = some (.int (if j > i then j else i)) := rfl
@[simp] theorem sMin_i : sMin S [.int i, .int j] = some (.int (if j < i then j else i)) := rfl
@[simp] theorem sInt_i : sInt S [.int i] = some (.int i) := rfl
@[simp] theorem sDivmod_i : sDivmod S [.int i, .int j] = if (decide (0 < j) && Nat.blt j.natAbs.log2 9000) = true then some (.tup [.int (i / j), .int (i % j)]) else none := rfl
@[simp] theorem truB_bl {b : Bool} : truB S (.bl b) = some b := rfl
@[simp] theorem truB_int : truB S (.int i) = some (i != 0) := rfl
@[simp] theorem truB_non : truB S .non = some false := rfl
@[simp] theorem truB_tup : truB S (.tup xs) = some !xs.isEmpty := rfl
@[simp] theorem truB_lst : truB S (.lst xs) = some !xs.isEmpty := rfl
@[simp] theorem truB_rol : truB S (.rol xs) = some !xs.isEmpty := rfl
@[simp] theorem fixS_l : fixS (.lst xs) = some xs := rfl
@[simp] theorem fixS_r : fixS (.rol xs) = some xs := rfl
@[simp] theorem fixS_t : fixS (.tup xs) = some xs := rfl
@[simp] theorem frz_int : frz S (.int i) = some (.int i) := rfl
@[simp] theorem frz_bl {b : Bool} : frz S (.bl b) = some (.bl b) := rfl
@[simp] theorem frz_non : frz S .non = some .non := rfl
@[simp] theorem frz_str {x : Str} : frz S (.str x) = some (.str x) := rfl
@[simp] theorem frz_tup : frz S (.tup xs) = (frzL S xs).map .tup := by simp [frz]
@[simp] theorem frzL_nil : frzL S [] = some [] := rfl
theorem frzL_cons {d : D} {ds : List D} {e : D} {es : List D} (h1 : frz S d = some e) (h2 : frzL S ds = some es) : frzL S (d :: ds) = some (e :: es) := by simp only [frzL, h1, h2]
@[simp] theorem frzL_int : frzL S (.int i :: xs) = (frzL S xs).map (.int i :: ·) := by simp only [frzL, frz]; cases frzL S xs <;> rfl
@[simp] theorem frzL_bl {b : Bool} : frzL S (.bl b :: xs) = (frzL S xs).map (.bl b :: ·) := by simp only [frzL, frz]; cases frzL S xs <;> rfl
@[simp] theorem frzL_str {x : Str} : frzL S (.str x :: xs) = (frzL S xs).map (.str x :: ·) := by simp only [frzL, frz]; cases frzL S xs <;> rfl
theorem isiT_int {d : D} : sIsiT S [d, .glo "int"] = (isB "int" S d).map .bl := by kernel_rfl
theorem isiT_bool {d : D} : sIsiT S [d, .glo "bool"] = (isB "bool" S d).map .bl := by kernel_rfl
theorem isiT_str {d : D} : sIsiT S [d, .glo "str"] = (isB "str" S d).map .bl := by kernel_rfl
theorem isiT_tuple {d : D} : sIsiT S [d, .glo "tuple"] = (isB "tuple" S d).map .bl := by kernel_rfl
theorem isiT_list {d : D} : sIsiT S [d, .glo "list"] = (isB "list" S d).map .bl := by kernel_rfl
@[simp] theorem isi_non_int : sIsiT S [.non, .glo "int"] = some (.bl false) := by rw [isiT_int]; kernel_rfl
@[simp] theorem isi_non_bool : sIsiT S [.non, .glo "bool"] = some (.bl false) := by rw [isiT_bool]; kernel_rfl
@[simp] theorem isi_non_str : sIsiT S [.non, .glo "str"] = some (.bl false) := by rw [isiT_str]; kernel_rfl
@[simp] theorem isi_non_tuple : sIsiT S [.non, .glo "tuple"] = some (.bl false) := by rw [isiT_tuple]; kernel_rfl
@[simp] theorem isi_non_list : sIsiT S [.non, .glo "list"] = some (.bl false) := by rw [isiT_list]; kernel_rfl
@[simp] theorem isi_bl_int {b0 : Bool} : sIsiT S [(.bl b0), .glo "int"] = some (.bl true) := by rw [isiT_int]; kernel_rfl
@[simp] theorem isi_bl_bool {b0 : Bool} : sIsiT S [(.bl b0), .glo "bool"] = some (.bl true) := by rw [isiT_bool]; kernel_rfl
@[simp] theorem isi_bl_str {b0 : Bool} : sIsiT S [(.bl b0), .glo "str"] = some (.bl false) := by rw [isiT_str]; kernel_rfl
@[simp] theorem isi_bl_tuple {b0 : Bool} : sIsiT S [(.bl b0), .glo "tuple"] = some (.bl false) := by rw [isiT_tuple]; kernel_rfl
@[simp] theorem isi_bl_list {b0 : Bool} : sIsiT S [(.bl b0), .glo "list"] = some (.bl false) := by rw [isiT_list]; kernel_rfl
@[simp] theorem isi_int_int : sIsiT S [(.int i), .glo "int"] = some (.bl true) := by rw [isiT_int]; kernel_rfl
@[simp] theorem isi_int_bool : sIsiT S [(.int i), .glo "bool"] = some (.bl false) := by rw [isiT_bool]; kernel_rfl
@[simp] theorem isi_int_str : sIsiT S [(.int i), .glo "str"] = some (.bl false) := by rw [isiT_str]; kernel_rfl
@[simp] theorem isi_int_tuple : sIsiT S [(.int i), .glo "tuple"] = some (.bl false) := by rw [isiT_tuple]; kernel_rfl
@[simp] theorem isi_int_list : sIsiT S [(.int i), .glo "list"] = some (.bl false) := by rw [isiT_list]; kernel_rfl
@[simp] theorem isi_str_int : sIsiT S [(.str a), .glo "int"] = some (.bl false) := by rw [isiT_int]; kernel_rfl
@[simp] theorem isi_str_bool : sIsiT S [(.str a), .glo "bool"] = some (.bl false) := by rw [isiT_bool]; kernel_rfl
@[simp] theorem isi_str_str : sIsiT S [(.str a), .glo "str"] = some (.bl true) := by rw [isiT_str]; kernel_rfl
@[simp] theorem isi_str_tuple : sIsiT S [(.str a), .glo "tuple"] = some (.bl false) := by rw [isiT_tuple]; kernel_rfl
@[simp] theorem isi_str_list : sIsiT S [(.str a), .glo "list"] = some (.bl false) := by rw [isiT_list]; kernel_rfl
@[simp] theorem isi_tup_int : sIsiT S [(.tup xs), .glo "int"] = some (.bl false) := by rw [isiT_int]; kernel_rfl
@[simp] theorem isi_tup_bool : sIsiT S [(.tup xs), .glo "bool"] = some (.bl false) := by rw [isiT_bool]; kernel_rfl
@[simp] theorem isi_tup_str : sIsiT S [(.tup xs), .glo "str"] = some (.bl false) := by rw [isiT_str]; kernel_rfl
@[simp] theorem isi_tup_tuple : sIsiT S [(.tup xs), .glo "tuple"] = some (.bl true) := by rw [isiT_tuple]; kernel_rfl
@[simp] theorem isi_tup_list : sIsiT S [(.tup xs), .glo "list"] = some (.bl false) := by rw [isiT_list]; kernel_rfl
@[simp] theorem isi_lst_int : sIsiT S [(.lst xs), .glo "int"] = some (.bl false) := by rw [isiT_int]; kernel_rfl
@[simp] theorem isi_lst_bool : sIsiT S [(.lst xs), .glo "bool"] = some (.bl false) := by rw [isiT_bool]; kernel_rfl
@[simp] theorem isi_lst_str : sIsiT S [(.lst xs), .glo "str"] = some (.bl false) := by rw [isiT_str]; kernel_rfl
@[simp] theorem isi_lst_tuple : sIsiT S [(.lst xs), .glo "tuple"] = some (.bl false) := by rw [isiT_tuple]; kernel_rfl
@[simp] theorem isi_lst_list : sIsiT S [(.lst xs), .glo "list"] = some (.bl true) := by rw [isiT_list]; kernel_rfl
@[simp] theorem isi_rol_int : sIsiT S [(.rol xs), .glo "int"] = some (.bl false) := by rw [isiT_int]; kernel_rfl
@[simp] theorem isi_rol_bool : sIsiT S [(.rol xs), .glo "bool"] = some (.bl false) := by rw [isiT_bool]; kernel_rfl
@[simp] theorem isi_rol_str : sIsiT S [(.rol xs), .glo "str"] = some (.bl false) := by rw [isiT_str]; kernel_rfl
@[simp] theorem isi_rol_tuple : sIsiT S [(.rol xs), .glo "tuple"] = some (.bl false) := by rw [isiT_tuple]; kernel_rfl
@[simp] theorem isi_rol_list : sIsiT S [(.rol xs), .glo "list"] = some (.bl true) := by rw [isiT_list]; kernel_rfl
@[simp] theorem sAll_l : sAll S [.lst xs] = (blsOf xs).map fun bs => .bl (bs.all id) := rfl
@[simp] theorem sAny_l : sAny S [.lst xs] = (blsOf xs).map fun bs => .bl (bs.any id) := rfl
@[simp] theorem blsOf_nil : blsOf [] = some [] := rfl
@[simp] theorem blsOf_bl {b : Bool} : blsOf (.bl b :: xs) = (blsOf xs).map (b :: ·) := rfl
@[simp] theorem sSl_t {lo hi : Option Int} : sSl S (.tup xs) lo hi = some (.tup (cutD xs lo hi)) := rfl
@[simp] theorem sSl_l {lo hi : Option Int} : sSl S (.lst xs) lo hi = some (.lst (cutD xs lo hi)) := rfl
@[simp] theorem sSl_r {lo hi : Option Int} : sSl S (.rol xs) lo hi = some (.lst (cutD xs lo hi)) := rfl
theorem cutD_map {α β : Type} (f : α → β) (zs : List α) (lo hi : Option Int) : cutD (zs.map f) lo hi = (cutD zs lo hi).map f := by
  simp only [cutD, List.length_map, List.map_take, List.map_drop]
theorem cutD_len {α : Type} (zs : List α) (lo hi : Option Int) : (cutD zs lo hi).length ≤ zs.length := by
  simp only [cutD, List.length_take, List.length_drop]; omega
/-! bounds -/
theorem lt_two {i : Int} {n k : Nat} (h : i.natAbs < n) (hn : n ≤ 2 ^ k) (hk : 0 < k) : i.natAbs.log2 < k := by
  by_cases z : i.natAbs = 0
  · rw [z]; simpa using hk
  · exact (Nat.log2_lt z).mpr (by omega)
theorem cMul_s (h : j.natAbs < 18446744073709551616) : cMul i j = true := by
  have : Nat.blt j.natAbs 18446744073709551616 = true := by rw [Nat.blt_eq]; exact h
  simp only [cMul, this, Bool.or_true, Bool.true_or]
theorem cMul_l (h : i.natAbs < 18446744073709551616) : cMul i j = true := by
  have : Nat.blt i.natAbs 18446744073709551616 = true := by rw [Nat.blt_eq]; exact h
  simp only [cMul, this, Bool.true_or]
theorem cMul_b (hi : i.natAbs < 2 ^ 4000) (hj : j.natAbs < 2 ^ 4000) : cMul i j = true := by
  have : Nat.blt (i.natAbs.log2 + j.natAbs.log2) 1000000 = true := by
    rw [Nat.blt_eq]
    have h1 := lt_two hi (Nat.le_refl _) (by decide)
    have h2 := lt_two hj (Nat.le_refl _) (by decide)
    omega
  simp only [cMul, this, Bool.or_true]
theorem cDivG_b (h0 : j ≠ 0) (h : j.natAbs < 2 ^ 8000) : cDivG i j = true := by
  have h1 : Nat.beq j.natAbs 0 = false := by
    cases q : Nat.beq j.natAbs 0
    · rfl
    · have := Nat.beq_eq.mp q; omega
  have h2 : Nat.blt j.natAbs.log2 9000 = true := by
    rw [Nat.blt_eq]
    have := lt_two h (Nat.le_refl _) (by decide)
    omega
  simp only [cDivG, h1, h2, Bool.not_false, Bool.and_self]
theorem cNz_b (h0 : j ≠ 0) : cNz i j = true := by
  have h1 : Nat.beq j.natAbs 0 = false := by
    cases q : Nat.beq j.natAbs 0
    · rfl
    · have := Nat.beq_eq.mp q; omega
  simp only [cNz, h1, Bool.not_false]
end
/-! ### statements -/
section
variable {Q : Fl → Sto → Prop} {env : En} {S : Sto}
theorem lft_fpo {α : Type} {r : Rs α} {k : α → Sto → Option (Fl × Sto)} : fpo (lft r env k) Q = r.po (fun a S => fpo (k a S) Q) fun c p S => Q (.xc env c p) S := by cases r <;> rfl
@[simp] theorem mSkip_fpo : fpo (mSkip env S) Q = Q (.nx env) S := rfl
@[simp] theorem mSeq_fpo {a b : MS} : fpo (mSeq a b env S) Q = fpo (a env S) fun f S' => match f with | .nx e' => fpo (b e' S') Q | f => Q f S' := by
  unfold mSeq
  cases q : a env S with
  | none => rfl
  | some r =>
    obtain ⟨f, S'⟩ := r
    cases f <;> rfl
@[simp] theorem mIfS_fpo {c : MT} {a b : MS} : fpo (mIfS c a b env S) Q = (c env S).po (fun k S1 => if k = true then fpo (a env S1) Q else fpo (b env S1) Q) fun c p S => Q (.xc env c p) S := by
  simp only [mIfS, lft_fpo]; congr; funext k S1; split <;> rfl
@[simp] theorem mRet_fpo {m : M} : fpo (mRet m env S) Q = (m env S).po (fun d S1 => Q (.rt d) S1) fun c p S => Q (.xc env c p) S := by simp only [mRet, lft_fpo, fpo_some]
@[simp] theorem mRetN_fpo : fpo (mRetN env S) Q = Q (.rt .non) S := rfl
@[simp] theorem mDrop_fpo {m : M} : fpo (mDrop m env S) Q = (m env S).po (fun d S1 => Q (.nx env) S1) fun c p S => Q (.xc env c p) S := by simp only [mDrop, lft_fpo, fpo_some]
@[simp] theorem mBrk_fpo : fpo (mBrk env S) Q = Q (.bk env) S := rfl
@[simp] theorem mCnt_fpo : fpo (mCnt env S) Q = Q (.ct env) S := rfl
@[simp] theorem mNever_fpo : fpo (mNever env S) Q = False := rfl
@[simp] theorem mAsg_fpo {m : M} {g : MG} : fpo (mAsg m g env S) Q = (m env S).po (fun d S1 => gpo (g d env S1) fun e' S' => Q (.nx e') S') fun c p S => Q (.xc env c p) S := by
  simp only [mAsg, lft_fpo]; congr; funext d S1
  cases g d env S1 with
  | none => rfl
  | some p => rfl
@[simp] theorem mPar_fpo {i j : Nat} {m : ML} : fpo (mPar i j m env S) Q = (m env S).po (fun ds S1 => match ds with | [a, b] => Q (.nx ((env.set i (some a)).set j (some b))) S1 | _ => False) fun c p S => Q (.xc env c p) S := by
  simp only [mPar, lft_fpo]; congr; funext ds S1
  rcases ds with _ | ⟨a, _ | ⟨b, _ | ⟨c, ds⟩⟩⟩ <;> rfl
@[simp] theorem mPar3_fpo {i j l : Nat} {m : ML} : fpo (mPar3 i j l m env S) Q = (m env S).po (fun ds S1 => match ds with | [a, b, c] => Q (.nx (((env.set i (some a)).set j (some b)).set l (some c))) S1 | _ => False) fun c p S => Q (.xc env c p) S := by
  simp only [mPar3, lft_fpo]; congr; funext ds S1
  rcases ds with _ | ⟨a, _ | ⟨b, _ | ⟨c, _ | ⟨d, ds⟩⟩⟩⟩ <;> rfl
@[simp] theorem mFor_fpo {mi : ML} {g : MG} {b : MS} : fpo (mFor mi g b env S) Q = (mi env S).po (fun ds S1 => fpo (forGo g b ds env S1) Q) fun c p S => Q (.xc env c p) S := by simp only [mFor, lft_fpo]
@[simp] theorem gNm_gpo {i : Nat} {d : D} {Q : En → Sto → Prop} : gpo (gNm i d env S) Q = Q (env.set i (some d)) S := rfl
@[simp] theorem gTp_gpo {n : Nat} {g : MGs} {ds : List D} {Q : En → Sto → Prop} : gpo (gTp n g (.tup ds) env S) Q = (ds.length = n ∧ gpo (g ds env S) Q) := by
  unfold gTp; simp only
  split <;> simp [*]
@[simp] theorem gsNil_gpo {Q : En → Sto → Prop} : gpo (gsNil [] env S) Q = Q env S := rfl
@[simp] theorem gsCons_gpo {g : MG} {r : MGs} {d : D} {ds : List D} {Q : En → Sto → Prop} : gpo (gsCons g r (d :: ds) env S) Q = gpo (g d env S) fun e' S' => gpo (r ds e' S') Q := by
  unfold gsCons
  cases q : g d env S with
  | none => simp only [q]; rfl
  | some p => simp only [q]; rfl
/-- what a subscript's store asks: the readings of both parts as they are -/
theorem gSb_gpo {o i : M} {d : D} {Q : En → Sto → Prop} (h : (o env S).po (fun x S1 => (i env S1).po (fun y S2 => match x, y with
    | .ref n, .int k => opo S2[n]? fun ob => match ob with | .lst ds => opo (ixN ds.length k) fun j => Q env (S2.set n (.lst (ds.set j d))) | _ => False
    | _, _ => False) fun _ _ _ => False) fun _ _ _ => False) : gpo (gSb o i d env S) Q := by
  unfold gSb
  cases q : o env S with
  | err => rw [q] at h; exact h.elim
  | exc c p S1 => rw [q] at h; exact h.elim
  | ok x S1 =>
    rw [q] at h
    simp only [po_ok] at h
    cases q2 : i env S1 with
    | err => rw [q2] at h; exact h.elim
    | exc c p S1 => rw [q2] at h; exact h.elim
    | ok y S2 =>
      rw [q2] at h
      simp only [po_ok] at h
      split at h
      · rename_i n k
        simp only [q2]
        cases q3 : S2[n]? with
        | none => rw [q3] at h; exact h.elim
        | some ob =>
          rw [q3] at h
          cases ob with
          | lst ds =>
            simp only [opo_some] at h
            simp only
            cases q4 : ixN ds.length k with
            | none => rw [q4] at h; exact h.elim
            | some j => rw [q4] at h; exact h
          | _ => exact h.elim
      · exact h.elim
theorem runI_po {N : Nat} {b : MS} {ds : List D} {Q : D → Sto → Prop} {X : XQ} : (runI N b ds S).po Q X = fpo (b (startE N ds) S) fun f S' => match f with | .rt d => Q d S' | .nx _ => Q .non S' | .xc _ c p => X c p S' | _ => False := by
  unfold runI
  cases q : b (startE N ds) S with
  | none => rfl
  | some r =>
    obtain ⟨f, S'⟩ := r
    cases f <;> rfl
theorem runP_po {N : Nat} {b : MS} {ds : List D} {Q : D → Prop} {X} : (runP N b ds).po Q X = fpo (b (startE N ds) []) fun f S' => match f with | .rt d => opo (frz S' d) Q | .nx _ => Q .non | .xc _ c p => opo (frzX S' p) (fun p => X c p) | _ => False := by
  unfold runP
  cases q : b (startE N ds) [] with
  | none => rfl
  | some r =>
    obtain ⟨f, S'⟩ := r
    cases f with
    | rt d => simp only [fpo_some]; cases frz S' d <;> rfl
    | xc e c p => simp only [fpo_some]; cases frzX S' p <;> rfl
    | _ => rfl
/-! loops -/
theorem fpo_mWh {c : MT} {b : MS} (Inv : Nat → En → Sto → Prop)
    (step : ∀ n env S, Inv n env S → (c env S).po (fun k S1 => if k = true then fpo (b env S1) (fun f S2 => match f with | .nx e' => ∃ m, m < n ∧ Inv m e' S2 | .ct e' => ∃ m, m < n ∧ Inv m e' S2 | .bk e' => Q (.nx e') S2 | f => Q f S2) else Q (.nx env) S1) fun c p S1 => Q (.xc env c p) S1) :
    ∀ (n : Nat) (env : En) (S : Sto), Inv n env S → fpo (mWh c b env S) Q := by
  intro n
  induction n using Nat.strongRecOn with
  | _ n ih =>
    intro env S h
    have st := step n env S h
    rw [mWh_eq, lft_fpo]
    refine Rs.po.mono st (fun k S1 z => ?_) (fun _ _ _ z => z)
    cases k with
    | false => simpa using z
    | true =>
      simp only [if_true] at z ⊢
      cases q : b env S1 with
      | none => rw [q] at z; exact z
      | some r =>
        obtain ⟨f, S2⟩ := r
        rw [q] at z
        cases f with
        | nx e' => obtain ⟨m, hm, hi⟩ := z; exact ih m hm e' S2 hi
        | ct e' => obtain ⟨m, hm, hi⟩ := z; exact ih m hm e' S2 hi
        | bk e' => exact z
        | rt d => exact z
        | xc e' c p => exact z
theorem fpo_for {g : MG} {b : MS} (Inv : Nat → En → Sto → Prop) : ∀ (ds : List D) (i0 : Nat)
    (step : ∀ i d env S, ds[i]? = some d → Inv (i0 + i) env S → gpo (g d env S) fun e1 S1 => fpo (b e1 S1) fun f S2 => match f with | .nx e' => Inv (i0 + i + 1) e' S2 | .ct e' => Inv (i0 + i + 1) e' S2 | .bk e' => Q (.nx e') S2 | f => Q f S2)
    (fin : ∀ env S, Inv (i0 + ds.length) env S → Q (.nx env) S) (env : En) (S : Sto), Inv i0 env S → fpo (forGo g b ds env S) Q
  | [], i0, step, fin, env, S, h => fin env S h
  | d :: ds, i0, step, fin, env, S, h => by
    have st := step 0 d env S rfl h
    unfold forGo
    cases q : g d env S with
    | none => rw [q] at st; exact st
    | some r =>
      obtain ⟨e1, S1⟩ := r
      rw [q] at st
      simp only [gpo_some] at st
      simp only
      cases q2 : b e1 S1 with
      | none => rw [q2] at st; exact st.elim
      | some r =>
        obtain ⟨f, S2⟩ := r
        rw [q2] at st
        have ih := fpo_for Inv ds (i0 + 1) (fun i d' env' S' hd hi => by
          have := step (i + 1) d' env' S' hd (by rwa [Nat.add_right_comm, Nat.add_assoc] at hi)
          rwa [← Nat.add_assoc, Nat.add_right_comm i0 i 1] at this) (fun env' S' hi => fin env' S' (by
            rw [List.length_cons]
            rwa [Nat.add_right_comm, Nat.add_assoc] at hi))
        cases f with
        | nx e' => exact ih e' S2 st
        | ct e' => exact ih e' S2 st
        | bk e' => exact st
        | rt d => exact st
        | xc e' c p => exact st
end
/-- a comprehension by an invariant of the store and what is made -/
theorem po_lc {mi : ML} {g : MG} {mt : MT} {me : M} {vs : List Nat} {env : En} {S : Sto} {Q : D → Sto → Prop} {X : XQ} (Inv : Nat → List D → Sto → Prop)
    (h : (mi env S).po (fun ds S1 => ds.length ≤ 16000000 ∧ Inv 0 [] S1 ∧
      (∀ i d ys S, ds[i]? = some d → Inv i ys S → gpo (g d (wipeE env vs) S) fun e1 S1 => (mt e1 S1).po (fun k S2 => if k = true then (me e1 S2).po (fun y S3 => Inv (i + 1) (ys ++ [y]) S3) (fun _ _ _ => False) else Inv (i + 1) ys S2) fun _ _ _ => False) ∧
      ∀ ys S, Inv ds.length ys S → Q (.lst ys) S) X) : (mLC mi g mt me vs env S).po Q X := by
  simp only [mLC, po_bind]
  refine Rs.po.mono h (fun ds S1 z => ?_) (fun _ _ _ z => z)
  obtain ⟨hl, h0, st, fin⟩ := z
  have key : ∀ (es : List D) (n i : Nat) (ys : List D) (S : Sto), n ≤ i → i + es.length ≤ 16000000 → es = ds.drop i → i + es.length = ds.length → Inv i ys S → ∃ zs S', lcGo g mt me (wipeE env vs) n es S = .ok zs S' ∧ Inv ds.length (ys ++ zs) S' := by
    intro es
    induction es with
    | nil => exact fun n i ys S _ _ _ hd hi => ⟨[], S, rfl, by rw [List.append_nil, ← hd]; simpa using hi⟩
    | cons d es ih =>
      intro n i ys S hn hb he hd hi
      have e0 : ds[i]? = some d := by
        have : (ds.drop i)[0]? = some d := by rw [← he]; rfl
        rwa [List.getElem?_drop, Nat.add_zero] at this
      have e1 : es = ds.drop (i + 1) := by
        have : (ds.drop i).drop 1 = es := by rw [← he]; rfl
        rw [← this, List.drop_drop]
      rw [List.length_cons] at hb hd
      have s1 := st i d ys S e0 hi
      unfold lcGo
      cases q : g d (wipeE env vs) S with
      | none => rw [q] at s1; exact s1.elim
      | some r =>
        obtain ⟨e', S1⟩ := r
        rw [q] at s1
        simp only [gpo_some] at s1
        simp only
        cases q2 : mt e' S1 with
        | err => rw [q2] at s1; exact s1.elim
        | exc c p S2 => rw [q2] at s1; exact s1.elim
        | ok k S2 =>
          rw [q2] at s1
          simp only [po_ok] at s1
          cases k with
          | false =>
            simp only [Bool.false_eq_true, if_false] at s1
            simp only
            exact ih n (i + 1) ys S2 (by omega) (by omega) e1 (by omega) s1
          | true =>
            simp only [if_true] at s1
            simp only
            cases q3 : me e' S2 with
            | err => rw [q3] at s1; exact s1.elim
            | exc c p S3 => rw [q3] at s1; exact s1.elim
            | ok y S3 =>
              rw [q3] at s1
              have s1 : Inv (i + 1) (ys ++ [y]) S3 := s1
              obtain ⟨zs, S', h1, h2⟩ := ih (n + 1) (i + 1) (ys ++ [y]) S3 (by omega) (by omega) e1 (by omega) s1
              have hr : room n = true := by unfold room; exact Nat.ble_eq.mpr (by omega)
              refine ⟨y :: zs, S', ?_, by simpa using h2⟩
              simp only [hr, if_true, h1]
  obtain ⟨zs, S', h1, h2⟩ := key ds 0 0 [] S1 (Nat.le_refl _) (by omega) rfl (by omega) h0
  rw [h1]
  exact fin zs S' (by simpa using h2)
/-! comprehensions over told lists -/
def lcpo (r : Rs (List D)) (Q : List D → Sto → Prop) : Prop := match r with | .ok a S => Q a S | _ => False
theorem mLC_po {mi : ML} {g : MG} {mt : MT} {me : M} {vs : List Nat} {env : En} {S : Sto} {Q : D → Sto → Prop} {X : XQ} : (mLC mi g mt me vs env S).po Q X = (mi env S).po (fun ds S1 => lcpo (lcGo g mt me (wipeE env vs) 0 ds S1) fun ys S2 => Q (.lst ys) S2) X := by
  simp only [mLC, po_bind]; congr; funext ds S1
  cases lcGo g mt me (wipeE env vs) 0 ds S1 <;> rfl
section
variable {g : MG} {mt : MT} {me : M} {env : En} {S : Sto} {n : Nat} {d : D} {ds : List D} {Q : List D → Sto → Prop}
theorem lcGo_nil : lcpo (lcGo g mt me env n [] S) Q = Q [] S := rfl
theorem lcGo_cons : lcpo (lcGo g mt me env n (d :: ds) S) Q = gpo (g d env S) fun e' S1 => (mt e' S1).po (fun k S2 => if k = true then (me e' S2).po (fun y S3 => n ≤ 16000000 ∧ lcpo (lcGo g mt me env (n + 1) ds S3) fun ys S4 => Q (y :: ys) S4) (fun _ _ _ => False) else lcpo (lcGo g mt me env n ds S2) Q) fun _ _ _ => False := by
  conv => lhs; rw [lcGo]
  cases q : g d env S with
  | none => rfl
  | some r =>
    obtain ⟨e', S1⟩ := r
    simp only [gpo_some]
    cases q2 : mt e' S1 with
    | err => rfl
    | exc c p S2 => rfl
    | ok k S2 =>
      cases k with
      | false => simp
      | true =>
        simp only [po_ok, if_true]
        cases q3 : me e' S2 with
        | err => rfl
        | exc c p S3 => rfl
        | ok y S3 =>
          simp only [po_ok]
          by_cases hr : n ≤ 16000000
          · have hr' : room n = true := by simp [hr]
            simp only [hr', if_true, hr, true_and]
            cases lcGo g mt me env (n + 1) ds S3 <;> rfl
          · have hr' : room n = false := by simp [hr]
            simp only [hr', hr, false_and]
            rfl
end
section
variable {α : Type} {a b c d e f g h k : α} {xs : List α}
@[simp] theorem atI_0 : atI (a :: xs) 0 = some a := by simp [atI, ixN]
@[simp] theorem atI_1 : atI (a :: b :: xs) 1 = some b := by
  have h : (1 : Int) < ((a :: b :: xs).length : Nat) := by simp only [List.length_cons]; omega
  unfold atI ixN
  rw [if_pos (by decide), if_pos h]
  rfl
@[simp] theorem atI_2 : atI (a :: b :: c :: xs) 2 = some c := by
  have h : (2 : Int) < ((a :: b :: c :: xs).length : Nat) := by simp only [List.length_cons]; omega
  unfold atI ixN
  rw [if_pos (by decide), if_pos h]
  rfl
@[simp] theorem atI_3 : atI (a :: b :: c :: d :: xs) 3 = some d := by
  have h : (3 : Int) < ((a :: b :: c :: d :: xs).length : Nat) := by simp only [List.length_cons]; omega
  unfold atI ixN
  rw [if_pos (by decide), if_pos h]
  rfl
@[simp] theorem atI_4 : atI (a :: b :: c :: d :: e :: xs) 4 = some e := by
  have h : (4 : Int) < ((a :: b :: c :: d :: e :: xs).length : Nat) := by simp only [List.length_cons]; omega
  unfold atI ixN
  rw [if_pos (by decide), if_pos h]
  rfl
theorem atI_of {i : Nat} (h : i < xs.length) : atI xs (i : Int) = some xs[i] := by
  simp [atI, ixN, h]
end
theorem sEq_same {S : Sto} {xs : List D} {ps : List PyData} (h : pyAll S xs = some ps) (hs : SeqAt.shaped (.tuple ps) = true) : sEq S (.tup xs) (.tup xs) = some (.bl true) := by
  have e : pyTop S (.tup xs) = some (.tuple ps) := by simp [pyTop, pyOf, h]
  simp only [sEq, sEqB, sEqD, e, hs, Bool.and_self, if_true, Option.map_some]
  rw [SeqAt.eqv_refl _ (by simp only [SeqAt.shaped, Bool.and_eq_true] at hs; exact hs.1)]
theorem sRepr_of {S : Sto} {d : D} {p : PyData} (h : pyTop S d = some p) (hr : rprOk p = true) : sRepr S [d] = some (.str p.shown) := by
  simp only [sRepr, h, hr, if_true]
section
variable {g : MG} {b : MS} {d : D} {ds : List D} {env : En} {S : Sto} {Q : Fl → Sto → Prop}
theorem forGo_nil : fpo (forGo g b [] env S) Q = Q (.nx env) S := rfl
theorem forGo_cons : fpo (forGo g b (d :: ds) env S) Q = gpo (g d env S) fun e1 S1 => fpo (b e1 S1) fun f S2 => match f with | .nx e' => fpo (forGo g b ds e' S2) Q | .ct e' => fpo (forGo g b ds e' S2) Q | .bk e' => Q (.nx e') S2 | f => Q f S2 := by
  conv => lhs; rw [forGo]
  simp only
  cases q : g d env S with
  | none => simp only [gpo_none, fpo_none]
  | some r =>
    obtain ⟨e1, S1⟩ := r
    simp only [gpo_some]
    cases q2 : b e1 S1 with
    | none => simp only [fpo_none]
    | some r =>
      obtain ⟨f, S2⟩ := r
      cases f <;> simp only [fpo_some]
end
def lsE (o : Ob) (f : List D → Prop) : Prop := match o with | .lst ds => f ds | _ => False
@[simp] theorem lsE_lst {ds : List D} {f : List D → Prop} : lsE (.lst ds) f = f ds := rfl
section
variable {env : En} {S : Sto} {d : D} {Q : En → Sto → Prop}
@[simp] theorem gSb_vc {i : Nat} {k : Int} : gpo (gSb (mVar i) (mC (.int k)) d env S) Q = (match env[i]? with | some (some (.ref n)) => opo S[n]? fun o => lsE o fun ds => opo (ixN ds.length k) fun j => Q env (S.set n (.lst (ds.set j d))) | _ => False) := by
  unfold gSb mVar mC
  generalize env[i]? = o
  cases o with
  | none => rfl
  | some o =>
    cases o with
    | none => rfl
    | some v =>
      cases v with
      | ref n =>
        simp only
        cases S[n]? with
        | none => rfl
        | some ob =>
          cases ob with
          | lst ds => simp only [opo_some, lsE_lst]; cases ixN ds.length k <;> rfl
          | _ => rfl
      | _ => rfl
@[simp] theorem ixN_30 : ixN 3 0 = some 0 := rfl
@[simp] theorem ixN_31 : ixN 3 1 = some 1 := rfl
@[simp] theorem ixN_32 : ixN 3 2 = some 2 := rfl
end
end Ev

/-! Ev, part 12: unpacking of lists, own classes: fields, methods, making. -/
namespace Ev
open PySem L2
section
variable {X : Cx} {W : WX}
/-- the items of a tuple, a list -/
def seqOf (S : Sto) : D → Option (List D) | .tup ds => some ds | d => lstOf S d
@[simp] theorem seqOf_t {S : Sto} {ds : List D} : seqOf S (.tup ds) = some ds := rfl
@[simp] theorem seqOf_l {S : Sto} {ds : List D} : seqOf S (.lst ds) = some ds := rfl
@[simp] theorem seqOf_r {S : Sto} {ds : List D} : seqOf S (.rol ds) = some ds := rfl
theorem seqOf_ref {S : Sto} {n : Nat} {ds : List D} (h : S[n]? = some (.lst ds)) : seqOf S (.ref n) = some ds := by simp [seqOf, lstOf, h]
def gUn (n : Nat) (g : MGs) : MG := fun d env S => match seqOf S d with | some ds => if ds.length = n then g ds env S else none | none => none
theorem sg_un {es : List Expr} {k : Nat} {g : MGs} {n : Nat} {ts : List Nat} {pos : Pos} (hc : X.calm = true) (h : SGs X es g ts) (hn : (assignEach es X.env).length = n := by rfl) (hst : (assignEach es X.env).findIdx? (·.1) = none := by rfl) : SG X (.Tuple es k pos) (gUn n g) ts := ⟨fun pins s σ H v w Q I rw_ q => by
  obtain ⟨B, env, S, ρ, d, eo, so, r, P⟩ := q
  unfold gUn at P
  split at P
  · rename_i ds hq
    split at P
    · rename_i hl
      have lst : ∀ {a : Addr} {vs : List V}, v = .ref a → SqL X.K H a vs → RepL ⟨X.K, X.mg⟩ B ρ H ds vs → _ := fun {a vs} e h1 h2 => (pg_unl (pos := pos) (k := k) hc h hn hst).run pins s σ H v w Q I rw_ ⟨a, vs, e, h1, by rw [← h2.length]; exact hl, B, env, S, ρ, ds, eo, so, h2, P⟩
      cases d with
      | tup xs =>
        cases hq
        obtain ⟨a, vs, e, h1, h2⟩ := tup_ok r
        exact (pg_tup hc h hn hst).run pins s σ H v w Q I rw_ ⟨a, vs, e, h1, by rw [← h2.length]; exact hl, B, env, S, ρ, _, eo, so, h2, P⟩
      | _ =>
        obtain ⟨a, vs, e, h1, h2⟩ := lstOf_ok so r hq
        exact lst e h1 h2
    · exact P.elim
  · exact P.elim⟩
@[simp] theorem gUn_gpo {n : Nat} {g : MGs} {d : D} {env : En} {S : Sto} {Q : En → Sto → Prop} : gpo (gUn n g d env S) Q = opo (seqOf S d) fun ds => ds.length = n ∧ gpo (g ds env S) Q := by
  unfold gUn
  cases seqOf S d with
  | none => rfl
  | some ds => simp only [opo_some]; split <;> simp [*]

/-! ### fields -/
def getD (f : Str) (ns : List Str) (ds : List D) : Option D := (ns.zip ds).lookup f
def putD (f : Str) (d : D) : List Str → List D → List Str × List D
  | g :: ns, x :: ds => if g = f then (g :: ns, d :: ds) else (g :: (putD f d ns ds).1, x :: (putD f d ns ds).2)
  | _, _ => ([f], [d])
section
variable {G : GC} {B : Addr → Prop} {ρ : List Addr} {H : Hp}
theorem getD_ok {f : Str} : ∀ {ds : List D} {fs : List (Str × V)} {d : D}, RepL G B ρ H ds (fs.map (·.2)) → getD f (fs.map (·.1)) ds = some d → ∃ v, fs.lookup f = some v ∧ Rep G B ρ H d v
  | [], fs, d, _, h => by simp [getD] at h
  | x :: ds, [], d, r, _ => by simp only [List.map_nil, RepL] at r; obtain ⟨_, _, z, _⟩ := r; cases z
  | x :: ds, (g, v) :: fs, d, r, h => by
    simp only [List.map_cons, RepL] at r
    obtain ⟨v', w, e, r1, r2⟩ := r
    cases e
    unfold getD at h
    simp only [List.map_cons, List.zip_cons_cons, List.lookup_cons] at h ⊢
    split at h
    · cases h; rename_i q; exact ⟨v, rfl, r1⟩
    · exact getD_ok r2 h
theorem lookup_out {f : Str} : ∀ {fs : List (Str × V)}, f ∉ fs.map (·.1) → fs.lookup f = none
  | [], _ => rfl
  | (g, v) :: fs, h => by
    simp only [List.map_cons, List.mem_cons, not_or] at h
    rw [List.lookup_cons]
    have : (f == g) = false := beq_eq_false_iff_ne.mpr h.1
    rw [this]
    exact lookup_out h.2
theorem putD_ok {f : Str} {d : D} {v : V} (r : Rep G B ρ H d v) : ∀ {ds : List D} {fs : List (Str × V)}, RepL G B ρ H ds (fs.map (·.2)) → (putF f v fs).map (·.1) = (putD f d (fs.map (·.1)) ds).1 ∧ RepL G B ρ H (putD f d (fs.map (·.1)) ds).2 ((putF f v fs).map (·.2))
  | [], [], _ => by simp only [putF, putD, List.map_nil, List.map_cons, RepL]; exact ⟨trivial, _, _, rfl, r, rfl⟩
  | [], (g, u) :: fs, h => by simp only [List.map_cons, RepL] at h; cases h
  | x :: ds, [], h => by simp only [List.map_nil, RepL] at h; obtain ⟨_, _, z, _⟩ := h; cases z
  | x :: ds, (g, u) :: fs, h => by
    simp only [List.map_cons, RepL] at h
    obtain ⟨v', w, e, r1, r2⟩ := h
    cases e
    have ih := putD_ok (f := f) r r2
    simp only [putF, putD, List.map_cons]
    split
    · simp only [List.map_cons, RepL]; exact ⟨trivial, _, _, rfl, r, r2⟩
    · simp only [List.map_cons, RepL]; exact ⟨by rw [ih.1], _, _, rfl, r1, ih.2⟩
theorem putD_len {f : Str} {d : D} : ∀ (ns : List Str) (ds : List D), ns.length = ds.length → (putD f d ns ds).1.length ≤ ns.length + 1
  | [], _, _ => by simp [putD]
  | g :: ns, [], h => by simp at h
  | g :: ns, x :: ds, h => by
    have := putD_len (f := f) (d := d) ns ds (by simpa using h)
    simp only [putD]
    split
    · simp
    · simp only [List.length_cons]; omega
end
/-- a class whose instances have the field f, no class has it -/
structure FldF (K : PySem.W.Frag) (mg : Str → Option Value) (c f : Str) : Prop where
  ex : ∃ C, mg c = some (.ref C) ∧ Cls K C ∧ NoAttr K C f
/-- the instance: its class, names, values -/
def insOf (S : Sto) : D → Option (Str × List Str × List D)
  | .obj c ns ds => some (c, ns, ds)
  | .ref n => match S[n]? with | some (.ins c ns ds) => some (c, ns, ds) | _ => none
  | _ => none
@[simp] theorem insOf_o {S : Sto} {c : Str} {ns : List Str} {ds : List D} : insOf S (.obj c ns ds) = some (c, ns, ds) := rfl
theorem insOf_ref {S : Sto} {n : Nat} {c : Str} {ns : List Str} {ds : List D} (h : S[n]? = some (.ins c ns ds)) : insOf S (.ref n) = some (c, ns, ds) := by simp [insOf, h]
theorem insOf_ok {G : GC} {B : Addr → Prop} {ρ : List Addr} {H : Hp} {S : Sto} {d : D} {v : V} {c : Str} {ns : List Str} {ds : List D} (so : SOk G B S ρ H) (r : Rep G B ρ H d v) (h : insOf S d = some (c, ns, ds)) :
    ∃ a C dx fs, v = .ref a ∧ H a = some (.ins C dx fs) ∧ G.mg c = some (.ref C) ∧ fs.map (·.1) = ns ∧ RepL G B ρ H ds (fs.map (·.2)) := by
  unfold insOf at h
  split at h
  · cases h
    simp only [Rep] at r
    obtain ⟨a, C, dx, fs, e, h1, _, h3, h4, h5⟩ := r
    exact ⟨a, C, dx, fs, e, h1, h3, h4, h5⟩
  · split at h
    · rename_i n _ _ _ q
      cases h
      simp only [Rep] at r
      obtain ⟨a, e, hn⟩ := r
      obtain ⟨C, dx, fs, h1, h3, h4, h5⟩ := so.ob _ _ _ q hn
      exact ⟨a, C, dx, fs, e, h1, h3, h4, h5⟩
    · cases h
  · cases h
/-- o.f, o an instance of c -/
def mFld (c f : Str) (o : M) : M := fun env S => (o env S).bind fun d S1 => match insOf S1 d with
  | some (c', ns, ds) => if c' = c then Rs.of (getD f ns ds) S1 else .err
  | none => .err
theorem se_fld {o : Expr} {f c : Str} {m : M} {pos : Pos} (ff : FldF X.K X.mg c f) (ho : SE X W o m) (hb : attributeBase o f X.env (eval o X.env) = eval o X.env := by rfl) : SE X W (.Attribute o f pos) (mFld c f m) :=
  PE.imp (pe_fld ho hb) fun σ H Q h => by
    obtain ⟨B, env, S, ρ, eo, so, P⟩ := h
    refine ⟨B, env, S, ρ, eo, so, Post.mono P.bind (fun d S1 ρ1 H1 e1 s1 P1 v r => ?_) (fun _ _ _ z => z)⟩
    split at P1
    · rename_i c' ns ds hi
      split at P1
      · rename_i hc
        subst hc
        obtain ⟨a, C, dx, fs, rfl, h1, h3, h4, h5⟩ := insOf_ok s1 r hi
        obtain ⟨C', g1, g2, g3⟩ := ff.ex
        rw [show X.mg c' = some (.ref C) from h3] at g1
        cases g1
        cases q : getD f ns ds with
        | none => rw [q] at P1; exact P1.elim
        | some d' =>
          rw [q] at P1
          rw [← h4] at q
          obtain ⟨v', l, r'⟩ := getD_ok h5 q
          exact ⟨a, C, dx, fs, v', rfl, h1, g2, g3, l, P1 ρ1 H1 Ext.refl s1 _ r'⟩
      · exact P1.elim
    · exact P1.elim
/-- o.f = value, o an instance of c in the store -/
def mSetF (c f : Str) (o v : M) : MS := fun env S => lft (v env S) env fun d S1 => lft (o env S1) env fun x S2 => match x with
  | .ref n => match S2[n]? with
    | some (.ins c' ns ds) => if c' = c ∧ ns.length < 900 ∧ ns.length = ds.length then some (.nx env, S2.set n (.ins c (putD f d ns ds).1 (putD f d ns ds).2)) else none
    | _ => none
  | _ => none
theorem ss_setF {o e : Expr} {f c : Str} {mo mv : M} {pos pos' : Pos} (ff : FldF X.K X.mg c f) (ho : SE X W o mo) (hv : SE X W e mv) (hs : swapsWith e (some (.Attribute o f pos')) pos.line X.env = pure false := by rfl) : SS X W (.Assign [.Attribute o f pos'] e pos) (mSetF c f mo mv) :=
  PS.imp (ps_fld ho hv hs) fun D σ H h => by
    obtain ⟨B, env, S, ρ, eo, so, P⟩ := h
    refine ⟨B, env, S, ρ, eo, so, Post.mono (PostS.lft P eo) (fun d S1 ρ1 H1 e1 s1 P1 v r => ⟨B, env, S1, ρ1, eo.mono e1, s1, Post.mono (PostS.lft P1 (eo.mono e1)) (fun x S2 ρ2 H2 e2 s2 P2 w rw_ => ?_) (fun _ _ _ z => z)⟩) (fun _ _ _ z => z)⟩
    split at P2
    · rename_i n
      split at P2
      · rename_i c' ns ds q
        split at P2
        · rename_i hz
          obtain ⟨rfl, hz, hl⟩ := hz
          simp only [Rep] at rw_
          obtain ⟨a, rfl, hn⟩ := rw_
          obtain ⟨C, dx, fs, h1, h3, h4, h5⟩ := s2.ob _ _ _ q hn
          obtain ⟨C', g1, g2, g3⟩ := ff.ex
          rw [show X.mg c' = some (.ref C) from h3] at g1
          cases g1
          have hm : a ∈ ρ2 := List.mem_iff_getElem?.mpr ⟨n, hn⟩
          refine ⟨a, C, dx, fs, rfl, h1, g2, g3, ?_, ?_⟩
          · have := congrArg List.length h4
            rw [List.length_map] at this
            omega
          · have pk := putD_ok (f := f) ((r.mono e2).mono (Ext.write (o := .ins C dx (putF f v fs)) hm)) (h5.mono (Ext.write (o := .ins C dx (putF f v fs)) hm))
            rw [h4] at pk
            exact P2 σ ρ2 _ (Ext.write hm) (s2.write hn ⟨C, dx, putF f v fs, upd_same, h3, pk.1, pk.2⟩) ((((eo.mono e1)).mono e2).mono (Ext.write hm))
        · exact P2.elim
      · exact P2.elim
    · exact P2.elim
end
end Ev

/-! Ev, part 13: methods, properties, making of own classes. -/
namespace Ev
open PySem L2
theorem RoomG.deeper {k : Nat} {A : Around} (r : RoomG (k + 1) A) (env : Env) : RoomG k (A.deeper env) := ⟨r.r.deeper env, r.g⟩
theorem RoomG.in1 {k : Nat} {A : Around} (r : RoomG (k + 1) A) : RoomG k A.in1 := ⟨r.r.in1, r.g⟩
theorem make_guards {A : Around} {C : Addr} {us : List Value} {kw : List (Str × Value)} : (A.under (.builtin "type.__call__" ⟨.ref C :: us, kw⟩)).guards = A.guards := by
  first | rfl | simp [Around.under, Code.weight, Code.isCreation, Code.isGuard, Code.isCaller, Code.frames, Code.isFrame, guardIds]
theorem RoomG.make {k : Nat} {A : Around} (r : RoomG (k + 1) A) (C : Addr) (us : List Value) (kw : List (Str × Value)) : RoomG k (A.under (.builtin "type.__call__" ⟨.ref C :: us, kw⟩)) := ⟨r.r.make C us kw, by rw [make_guards]; exact r.g⟩

/-! ### methods -/
/-- the method m of the class c: pure, or one that writes -/
structure MetP (P : Program) (w : World) (K : PySem.W.Frag) (mg : Str → Option Value) (base : Heap) (k : Nat) (c m : Str) (ps : List Str) (g : List D → Pr) (kws : List Shape) : Prop where
  ex : ∃ C f fd, mg c = some (.ref C) ∧ Cls K C ∧ Meth K C m f ∧ FnG P w K mg base k f fd ps (spP ⟨K, mg⟩ ps.length g) ∧ Binds K fd ps [] ∧ ∀ q ∈ kws, BindsK K fd ps q.1 q.2.1 q.2.2
structure MetI (P : Program) (w : World) (K : PySem.W.Frag) (mg : Str → Option Value) (base : Heap) (k : Nat) (c m : Str) (ps : List Str) (g : List D → Sto → Rs D) (kws : List Shape) : Prop where
  ex : ∃ C f fd, mg c = some (.ref C) ∧ Cls K C ∧ Meth K C m f ∧ FnG P w K mg base k f fd ps (spI ⟨K, mg⟩ ps.length g) ∧ Binds K fd ps [] ∧ ∀ q ∈ kws, BindsK K fd ps q.1 q.2.1 q.2.2
section
variable {X : Cx} {W : WX} {j k : Nat} {c f : Str} {ps : List Str} {kws : List Shape} {apos pos : Pos} {o e : Expr} {es : List Expr} {mo : M} {m mk : ML} {sp : Sp}
/-- what stands between the object and the call -/
def okIns (c f : Str) (S : Sto) (d : D) : Bool := match insOf S d with | some (c', ns, _) => c' == c && !(ns.contains f) | none => false
theorem okIns_ok {G : GC} {B : Addr → Prop} {ρ : List Addr} {H : Hp} {S : Sto} {d : D} {v : V} (so : SOk G B S ρ H) (r : Rep G B ρ H d v) (h : okIns c f S d = true) :
    ∃ a C dx fs, v = .ref a ∧ H a = some (.ins C dx fs) ∧ G.mg c = some (.ref C) ∧ fs.lookup f = none := by
  unfold okIns at h
  split at h
  · rename_i c' ns ds hi
    simp only [Bool.and_eq_true, Bool.not_eq_true', beq_iff_eq] at h
    obtain ⟨rfl, h2⟩ := h
    obtain ⟨a, C, dx, fs, e, h1, h3, h4, _⟩ := insOf_ok so r hi
    refine ⟨a, C, dx, fs, e, h1, h3, lookup_out ?_⟩
    rw [h4]
    intro z
    rw [List.contains_iff_mem.mpr z] at h2
    cases h2
  · cases h
/-- o, then the values -/
def mSelf (c f : Str) (o : M) (m : ML) : ML := fun env S => (o env S).bind fun d S1 => if okIns c f S1 d then (m env S1).bind fun ds S2 => .ok (d :: ds) S2 else .err
theorem meth_run {C fa : Addr} {fd : FuncData} (hc : Cls X.K C) (hm : Meth X.K C f fa) (F : FnG X.prog X.w X.K X.mg X.base k fa fd ps sp) (hr : RoomG k X.A) (tk : L2.Takes X W) (hb : Binds X.K fd ps []) (he : PE X o (tE ⟨X.K, X.mg⟩ W mo)) (hg : X.mg c = some (.ref C))
    {t : TA} (ha : PA X (e :: es) t) {pl : Sem Bool} (hst : starEach (e :: es) X.env = (false, eval e X.env) :: starEach es X.env := by rfl) (hpl : (backTo pos (starEach es X.env)).any (·.1) = false := by rfl)
    (ht : eval (.Call (.Attribute o f apos) (e :: es) [] pos) X.env = (do
      let ov ← eval o X.env
      standAt apos.atName
      let (g, first) ← holding [ov] (getMethod ov f pl)
      callWith pos g first (backTo pos (starEach (e :: es) X.env)) (backToKw pos (keywordEach [] X.env))) := by rfl) :
    PE X (.Call (.Attribute o f apos) (e :: es) [] pos) fun σ H Q => tE ⟨X.K, X.mg⟩ W mo σ H fun v H1 => ∃ a dx fs, v = .ref a ∧ H1 a = some (.ins C dx fs) ∧ fs.lookup f = none ∧ t σ H1 fun vs H2 => sp (v :: vs) H2 Q (L2.WE W σ) := by
  refine ⟨fun pins s σ H Q I h => ?_⟩
  refine PySem.W.methodCall_KW (pl := pl) (thn (he.run pins s σ H _ I h) fun u s1 ⟨x, H1, I1, rx, a, dx, fs, ex, ea, l, q⟩ => ?_) ht
  subst ex
  obtain rfl : u = Value.ref a := rx
  refine getmeth_ok I1 ea hc hm l ?_
  refine PySem.W.callWith_K (first := [.ref a]) (h₀ := X.base) I.ok.mod.kin hm.kp (thn (ha.run pos pins s1 σ H1 _ I1 q) fun us s2 ⟨vs, H2, I2, r, q2⟩ => ⟨I2.kIn, ?_⟩) hst hpl
  have r2 : Vals (V.ref a :: vs) (Value.ref a :: us) := .cons rfl r
  have hl : (Value.ref a :: us ++ []).length = ps.length := by rw [List.append_nil, ← r2.length]; exact F.len _ _ _ _ q2
  have bnd := hb s2 (Value.ref a :: us) I2.kIn hl
  rw [List.append_nil] at bnd
  exact call_back (F.run hr tk I2 bnd r2 q2)
theorem meth_run0 {C fa : Addr} {fd : FuncData} (hc : Cls X.K C) (hm : Meth X.K C f fa) (F : FnG X.prog X.w X.K X.mg X.base k fa fd ps sp) (hr : RoomG k X.A) (tk : L2.Takes X W) (hb : Binds X.K fd ps []) (he : PE X o (tE ⟨X.K, X.mg⟩ W mo)) (hg : X.mg c = some (.ref C))
    {pl : Sem Bool} (ht : eval (.Call (.Attribute o f apos) [] [] pos) X.env = (do
      let ov ← eval o X.env
      standAt apos.atName
      let (g, first) ← holding [ov] (getMethod ov f pl)
      callWith pos g first (backTo pos (starEach [] X.env)) (backToKw pos (keywordEach [] X.env))) := by rfl) :
    PE X (.Call (.Attribute o f apos) [] [] pos) fun σ H Q => tE ⟨X.K, X.mg⟩ W mo σ H fun v H1 => ∃ a dx fs, v = .ref a ∧ H1 a = some (.ins C dx fs) ∧ fs.lookup f = none ∧ sp [v] H1 Q (L2.WE W σ) := by
  refine ⟨fun pins s σ H Q I h => ?_⟩
  refine PySem.W.methodCall_KW (pl := pl) (thn (he.run pins s σ H _ I h) fun u s1 ⟨x, H1, I1, rx, a, dx, fs, ex, ea, l, q⟩ => ?_) ht
  subst ex
  obtain rfl : u = Value.ref a := rx
  refine getmeth_ok I1 ea hc hm l ?_
  refine PySem.W.callWith_K0 (first := [.ref a]) I1.kIn hm.kp ?_
  have r2 : Vals [V.ref a] [Value.ref a] := .cons rfl .nil
  have hl : ([Value.ref a] ++ []).length = ps.length := by rw [List.append_nil, ← r2.length]; exact F.len _ _ _ _ q
  have bnd := hb s1 [Value.ref a] I1.kIn hl
  rw [List.append_nil] at bnd
  exact call_back (F.run hr tk I1 bnd r2 q)
/-- from a plain function that is told the object first -/
theorem self_imp {C : Addr} (hg : X.mg c = some (.ref C)) {r : List D → Sto → Rs D} {env : En} {S : Sto} {σ : L2.St} {B : Addr → Prop} {ρ : List Addr} {H : Hp} {Q : VK} (eo : EnvOk ⟨X.K, X.mg⟩ B ρ H env σ) (so : SOk ⟨X.K, X.mg⟩ B S ρ H)
    (hsp : ∀ {ρ1 H1 S1 ds vs}, SOk ⟨X.K, X.mg⟩ B S1 ρ1 H1 → RepL ⟨X.K, X.mg⟩ B ρ1 H1 ds vs → Post ⟨X.K, X.mg⟩ B ρ1 H1 (r ds S1) (fun d _ ρ' H' => ∀ v, Rep ⟨X.K, X.mg⟩ B ρ' H' d v → Q v H') (fun C d H' => L2.WE W σ (.ref C) d H') → sp vs H1 Q (L2.WE W σ))
    (P : Post ⟨X.K, X.mg⟩ B ρ H ((mSelf c f mo m env S).bind r) (fun d _ ρ' H' => ∀ v, Rep ⟨X.K, X.mg⟩ B ρ' H' d v → Q v H') fun C d H' => W (.ref C) d σ H') :
    tE ⟨X.K, X.mg⟩ W mo σ H fun v H1 => ∃ a dx fs, v = .ref a ∧ H1 a = some (.ins C dx fs) ∧ fs.lookup f = none ∧ tA ⟨X.K, X.mg⟩ W m σ H1 fun vs H2 => sp (v :: vs) H2 Q (L2.WE W σ) := by
  refine ⟨B, env, S, ρ, eo, so, Post.mono P.bind.bind (fun d S1 ρ1 H1 e1 s1 P1 v rv => ?_) (fun _ _ _ z => z)⟩
  split at P1
  · rename_i ho
    obtain ⟨a, C', dx, fs, rfl, h1, h3, hl⟩ := okIns_ok s1 rv ho
    rw [show X.mg c = some (.ref C') from h3] at hg
    cases hg
    refine ⟨a, dx, fs, rfl, h1, hl, B, env, S1, ρ1, eo.mono e1, s1, Post.mono P1.bind (fun ds S2 ρ2 H2 e2 s2 P2 vs rs => ?_) (fun _ _ _ z => z)⟩
    refine hsp s2 (ds := d :: ds) (by simp only [RepL]; exact ⟨_, _, rfl, rv.mono e2, rs⟩) (P2 ρ2 H2 Ext.refl s2)
  · exact P1.elim
theorem se_metP {nn : Nat} {g : List D → Pr} (F : MetP X.prog X.w X.K X.mg X.base j c f ps g kws) (hr : RoomG k X.A) (hj : j ≤ k) (tk : L2.Takes X W) (ho : SE X W o mo) (ha : SA X W (e :: es) m) (hnn : ps.length = nn := by rfl)
    {pl : Sem Bool} (hst : starEach (e :: es) X.env = (false, eval e X.env) :: starEach es X.env := by rfl) (hpl : (backTo pos (starEach es X.env)).any (·.1) = false := by rfl)
    (ht : eval (.Call (.Attribute o f apos) (e :: es) [] pos) X.env = (do
      let ov ← eval o X.env
      standAt apos.atName
      let (g, first) ← holding [ov] (getMethod ov f pl)
      callWith pos g first (backTo pos (starEach (e :: es) X.env)) (backToKw pos (keywordEach [] X.env))) := by rfl) : SE X W (.Call (.Attribute o f apos) (e :: es) [] pos) (mCallP nn g (mSelf c f mo m)) := by
  subst hnn
  obtain ⟨C, fa, fd, hg, hc, hm, F1, hb, _⟩ := F.ex
  refine PE.imp (meth_run (c := c) hc hm F1 (hr.mono hj) tk hb ho hg ha hst hpl ht) fun σ H Q h => ?_
  obtain ⟨B, env, S, ρ, eo, so, P⟩ := h
  exact self_imp hg eo so (fun s1 rs P1 => spP_of s1 rs P1) P
theorem se_metI {nn : Nat} {g : List D → Sto → Rs D} (F : MetI X.prog X.w X.K X.mg X.base j c f ps g kws) (hr : RoomG k X.A) (hj : j ≤ k) (tk : L2.Takes X W) (ho : SE X W o mo) (ha : SA X W (e :: es) m) (hnn : ps.length = nn := by rfl)
    {pl : Sem Bool} (hst : starEach (e :: es) X.env = (false, eval e X.env) :: starEach es X.env := by rfl) (hpl : (backTo pos (starEach es X.env)).any (·.1) = false := by rfl)
    (ht : eval (.Call (.Attribute o f apos) (e :: es) [] pos) X.env = (do
      let ov ← eval o X.env
      standAt apos.atName
      let (g, first) ← holding [ov] (getMethod ov f pl)
      callWith pos g first (backTo pos (starEach (e :: es) X.env)) (backToKw pos (keywordEach [] X.env))) := by rfl) : SE X W (.Call (.Attribute o f apos) (e :: es) [] pos) (mCallI nn g (mSelf c f mo m)) := by
  subst hnn
  obtain ⟨C, fa, fd, hg, hc, hm, F1, hb, _⟩ := F.ex
  refine PE.imp (meth_run (c := c) hc hm F1 (hr.mono hj) tk hb ho hg ha hst hpl ht) fun σ H Q h => ?_
  obtain ⟨B, env, S, ρ, eo, so, P⟩ := h
  exact self_imp hg eo so (fun s1 rs P1 => spI_of s1 rs P1) P
theorem self_imp0 {C : Addr} (hg : X.mg c = some (.ref C)) {r : List D → Sto → Rs D} {env : En} {S : Sto} {σ : L2.St} {B : Addr → Prop} {ρ : List Addr} {H : Hp} {Q : VK} (eo : EnvOk ⟨X.K, X.mg⟩ B ρ H env σ) (so : SOk ⟨X.K, X.mg⟩ B S ρ H)
    (hsp : ∀ {ρ1 H1 S1 ds vs}, SOk ⟨X.K, X.mg⟩ B S1 ρ1 H1 → RepL ⟨X.K, X.mg⟩ B ρ1 H1 ds vs → Post ⟨X.K, X.mg⟩ B ρ1 H1 (r ds S1) (fun d _ ρ' H' => ∀ v, Rep ⟨X.K, X.mg⟩ B ρ' H' d v → Q v H') (fun C d H' => L2.WE W σ (.ref C) d H') → sp vs H1 Q (L2.WE W σ))
    (P : Post ⟨X.K, X.mg⟩ B ρ H ((mSelf c f mo mNil env S).bind r) (fun d _ ρ' H' => ∀ v, Rep ⟨X.K, X.mg⟩ B ρ' H' d v → Q v H') fun C d H' => W (.ref C) d σ H') :
    tE ⟨X.K, X.mg⟩ W mo σ H fun v H1 => ∃ a dx fs, v = .ref a ∧ H1 a = some (.ins C dx fs) ∧ fs.lookup f = none ∧ sp [v] H1 Q (L2.WE W σ) := by
  refine ⟨B, env, S, ρ, eo, so, Post.mono P.bind.bind (fun d S1 ρ1 H1 e1 s1 P1 v rv => ?_) (fun _ _ _ z => z)⟩
  split at P1
  · rename_i ho
    obtain ⟨a, C', dx, fs, rfl, h1, h3, hl⟩ := okIns_ok s1 rv ho
    rw [show X.mg c = some (.ref C') from h3] at hg
    cases hg
    exact ⟨a, dx, fs, rfl, h1, hl, hsp s1 (ds := [d]) (by simp only [RepL]; exact ⟨_, _, rfl, rv, rfl⟩) (P1 ρ1 H1 Ext.refl s1)⟩
  · exact P1.elim
theorem se_metP0 {nn : Nat} {g : List D → Pr} (F : MetP X.prog X.w X.K X.mg X.base j c f ps g kws) (hr : RoomG k X.A) (hj : j ≤ k) (tk : L2.Takes X W) (ho : SE X W o mo) (hnn : ps.length = nn := by rfl)
    {pl : Sem Bool} (ht : eval (.Call (.Attribute o f apos) [] [] pos) X.env = (do
      let ov ← eval o X.env
      standAt apos.atName
      let (g, first) ← holding [ov] (getMethod ov f pl)
      callWith pos g first (backTo pos (starEach [] X.env)) (backToKw pos (keywordEach [] X.env))) := by rfl) : SE X W (.Call (.Attribute o f apos) [] [] pos) (mCallP nn g (mSelf c f mo mNil)) := by
  subst hnn
  obtain ⟨C, fa, fd, hg, hc, hm, F1, hb, _⟩ := F.ex
  refine PE.imp (meth_run0 (c := c) hc hm F1 (hr.mono hj) tk hb ho hg ht) fun σ H Q h => ?_
  obtain ⟨B, env, S, ρ, eo, so, P⟩ := h
  exact self_imp0 hg eo so (fun s1 rs P1 => spP_of s1 rs P1) P
theorem se_metI0 {nn : Nat} {g : List D → Sto → Rs D} (F : MetI X.prog X.w X.K X.mg X.base j c f ps g kws) (hr : RoomG k X.A) (hj : j ≤ k) (tk : L2.Takes X W) (ho : SE X W o mo) (hnn : ps.length = nn := by rfl)
    {pl : Sem Bool} (ht : eval (.Call (.Attribute o f apos) [] [] pos) X.env = (do
      let ov ← eval o X.env
      standAt apos.atName
      let (g, first) ← holding [ov] (getMethod ov f pl)
      callWith pos g first (backTo pos (starEach [] X.env)) (backToKw pos (keywordEach [] X.env))) := by rfl) : SE X W (.Call (.Attribute o f apos) [] [] pos) (mCallI nn g (mSelf c f mo mNil)) := by
  subst hnn
  obtain ⟨C, fa, fd, hg, hc, hm, F1, hb, _⟩ := F.ex
  refine PE.imp (meth_run0 (c := c) hc hm F1 (hr.mono hj) tk hb ho hg ht) fun σ H Q h => ?_
  obtain ⟨B, env, S, ρ, eo, so, P⟩ := h
  exact self_imp0 hg eo so (fun s1 rs P1 => spI_of s1 rs P1) P
end
@[simp] theorem mSelf_po {c f : Str} {o : M} {m : ML} {env : En} {S : Sto} {Q : List D → Sto → Prop} {X : XQ} : (mSelf c f o m env S).po Q X = (o env S).po (fun d S1 => okIns c f S1 d = true ∧ (m env S1).po (fun ds S2 => Q (d :: ds) S2) X) X := by
  simp only [mSelf, po_bind]; congr; funext d S1
  cases q : okIns c f S1 d <;> simp
@[simp] theorem mFld_po {c f : Str} {o : M} {env : En} {S : Sto} {Q : D → Sto → Prop} {X : XQ} : (mFld c f o env S).po Q X = (o env S).po (fun d S1 => opo (insOf S1 d) fun i => i.1 = c ∧ opo (getD f i.2.1 i.2.2) fun d => Q d S1) X := by
  simp only [mFld, po_bind]; congr; funext d S1
  cases q : insOf S1 d with
  | none => rfl
  | some i =>
    obtain ⟨c', ns, ds⟩ := i
    simp only [opo_some]
    by_cases h : c' = c <;> simp [h]

/-! ### making an instance -/
/-- the class c, its __init__ -/
structure NewI (P : Program) (w : World) (K : PySem.W.Frag) (mg : Str → Option Value) (base : Heap) (k : Nat) (c : Str) (ps : List Str) (g : List D → Sto → Rs D) (kws : List Shape) : Prop where
  ex : ∃ C f fd, mg c = some (.ref C) ∧ Mk K C f ∧ FnG P w K mg base k f fd ps (spI ⟨K, mg⟩ ps.length g) ∧ Binds K fd ps [] ∧ ∀ q ∈ kws, BindsK K fd ps q.1 q.2.1 q.2.2
/-- an instance that is never written again -/
def mkP (c : Str) (g : List D → Sto → Rs D) (ds : List D) : Pr := match g (.ref 0 :: ds) [.ins c [] []] with
  | .ok .non S' => (match frz S' (.ref 0) with | some d => .ok d | none => .err)
  | .exc x p S' => (match frzX S' p with | some p' => .exc x p' | none => .err)
  | _ => .err
section
variable {X : Cx} {W : WX} {j k : Nat} {c : Str} {ps : List Str} {kws : List Shape} {p pos : Pos} {e : Expr} {es : List Expr} {m mk : ML} {sp : Sp}
theorem make_run {C f : Addr} {fd : FuncData} {pins : List (Addr × Obj)} {σ : L2.St} {H : Hp} {s : Shared} {Q : VK} {us : List Value} {vs : List V} (M : Mk X.K C f) (F : FnG X.prog X.w X.K X.mg X.base k f fd ps sp) (hr : RoomG (k + 1) X.A) (hb : Binds X.K fd ps []) (tk : L2.Takes X W)
    (I : L2.Inv X pins σ H s) (r : Vals vs us)
    (h : ∀ x dx, H x = none → H dx = none → dx ≠ x → sp (.ref x :: vs) (upd (upd H dx (.own x)) x (.ins C dx [])) (fun v H2 => v = .non ∧ Q (.ref x) H2) (L2.WE W σ)) : wpAny (model X.prog X.w) X.A (call (.ref C) us) (EP X pins σ Q) X.xe s := by
  have hq := h (s.heap.objs.size + 1) s.heap.objs.size (I.hok.fresh (Nat.le_succ _)) (I.hok.fresh (Nat.le_refl _)) (Nat.ne_of_lt (Nat.lt_succ_self _))
  have I2 := Inv.made (C := C) I
  have r2 : Vals (V.ref (s.heap.objs.size + 1) :: vs) (Value.ref (s.heap.objs.size + 1) :: us) := .cons rfl r
  have hl : (Value.ref (s.heap.objs.size + 1) :: us ++ []).length = ps.length := by rw [List.append_nil, ← r2.length]; exact F.len _ _ _ _ hq
  have bnd := hb _ (Value.ref (s.heap.objs.size + 1) :: us) I2.kIn hl
  rw [List.append_nil] at bnd
  refine wpAny_call (make_map (f := f) I.kIn M.makes M.init (beq_iff_eq.mp M.fn) (codeAny_mono (F.go _ X.stack _ _ ⟨Value.ref (s.heap.objs.size + 1) :: us, []⟩ _ _ _ _ (hr.make C us []) (I2.env0.make C us []) bnd r2 hq) fun r s' hq' => ?_))
  cases r with
  | error e => exact passAt tk σ pins _ _ e s' I2 hq'
  | ok fl =>
    cases fl with
    | ret u =>
      obtain ⟨v, H', I3, rv, ev, q3⟩ := I2.after hq'
      subst ev
      exact ⟨rv, ⟨V.ref (s.heap.objs.size + 1), H', I3, rfl, q3⟩⟩
    | next => exact False.elim hq'
    | brk => exact False.elim hq'
    | cont => exact False.elim hq'
theorem new_imp {C : Addr} (hg : X.mg c = some (.ref C)) {g : List D → Sto → Rs D} {n : Nat} {S1 : Sto} {σ : L2.St} {B : Addr → Prop} {ρ1 : List Addr} {H1 : Hp} {Q : VK} {E : XK} {ds : List D} {vs : List V} (s1 : SOk ⟨X.K, X.mg⟩ B S1 ρ1 H1) (rs : RepL ⟨X.K, X.mg⟩ B ρ1 H1 ds vs)
    (P : Post ⟨X.K, X.mg⟩ B ρ1 H1 (clP n (mkP c g) ds S1) (fun d _ ρ' H' => ∀ v, Rep ⟨X.K, X.mg⟩ B ρ' H' d v → Q v H') fun C d H' => E (.ref C) d H') {x dx : Addr} (hx : H1 x = none) (hdx : H1 dx = none) (hne : dx ≠ x) :
    spI ⟨X.K, X.mg⟩ (n + 1) g (.ref x :: vs) (upd (upd H1 dx (.own x)) x (.ins C dx [])) (fun v H2 => v = .non ∧ Q (.ref x) H2) E := by
  unfold clP at P
  split at P
  · rename_i hz
    simp only [Bool.and_eq_true] at hz
    have hn := Nat.eq_of_beq_eq_true hz.2
    let H2 : Hp := upd (upd H1 dx (.own x)) x (.ins C dx [])
    let B' : Addr → Prop := fun a => B a ∨ a ∈ ρ1
    have hk : Same H1 H2 := fun a o q => by
      show upd (upd H1 dx (.own x)) x (.ins C dx []) a = some o
      rw [upd_ne (ne_of_none q hx), upd_ne (ne_of_none q hdx)]
      exact q
    have outx : ∀ a o, H1 a = some o → a ∉ [x] := fun a o q m => by
      have : a = x := by simpa using m
      subst this
      rw [hx] at q; cases q
    have o1 : ∀ {a : Addr} {o : HO}, H1 a = some o → Out B ρ1 a → Out B' [x] a := fun q z => ⟨outx _ _ q, fun b => b.elim z.2 z.1⟩
    have so : SOk ⟨X.K, X.mg⟩ B' [.ins c [] []] [x] H2 := by
      refine ⟨rfl, by simp, fun a b => ?_, fun a m b => ?_, fun n o a h1 h2 => ?_⟩
      · rcases b with b | b
        · obtain ⟨o, q⟩ := s1.b a b; exact ⟨o, hk a o q⟩
        · obtain ⟨o, q⟩ := s1.there b; exact ⟨o, hk a o q⟩
      · have : a = x := by simpa using m
        subst this
        rcases b with b | b
        · obtain ⟨o, q⟩ := s1.b a b; rw [hx] at q; cases q
        · obtain ⟨o, q⟩ := s1.there b; rw [hx] at q; cases q
      · cases n with
        | zero =>
          simp only [List.getElem?_cons_zero, Option.some.injEq] at h1 h2
          subst h1 h2
          exact ⟨C, dx, [], upd_same, hg, rfl, by simp only [List.map_nil, RepL]⟩
        | succ n => simp at h1
    refine ⟨B', [.ins c [] []], [x], .ref 0 :: ds, so, ?_, by rw [List.length_cons, hn], ?_⟩
    · simp only [RepL]
      refine ⟨_, _, rfl, by simp only [Rep]; exact ⟨x, rfl, rfl⟩, ?_⟩
      exact RepL.free (fun a o z q => ⟨hk a o q, o1 q z⟩) hz.1 rs
    · have back : ∀ {ρ3 : List Addr} {H3 : Hp} {a : Addr}, Out B' [] a → Out B ρ1 a := fun z => ⟨fun m => z.2 (.inr m), fun b => z.2 (.inl b)⟩
      have same3 : ∀ {ρ3 : List Addr} {H3 : Hp}, Ext [x] H2 ρ3 H3 → Same H1 H3 := fun e3 a o q => e3.keep a o (hk a o q) (outx a o q)
      unfold mkP at P
      cases q : g (.ref 0 :: ds) [.ins c [] []] with
      | err => rw [q] at P; exact P
      | exc y p S' =>
        rw [q] at P
        simp only at P
        cases q2 : frzX S' p with
        | none => rw [q2] at P; exact P.elim
        | some p' =>
          rw [q2] at P
          refine fun ρ3 H3 C' d e3 s3 z => P ρ1 H3 C' d (Ext.of_same (same3 e3)) (s1.same (same3 e3)) ?_
          have z2 := z.of_frz s3 q2
          obtain ⟨h1, h2⟩ := z2
          cases p' with
          | none => exact ⟨h1, h2⟩
          | some pq =>
            obtain ⟨ns, es⟩ := pq
            obtain ⟨dx', fs, h3, h4, h7, h5, h6⟩ := h2
            exact ⟨h1, dx', fs, h3, h4, back (ρ3 := ρ3) (H3 := H3) h7, h5, h6.move (fun n a h => by simp at h) fun a o w q => ⟨q, back (ρ3 := ρ3) (H3 := H3) w⟩⟩
      | ok d S' =>
        rw [q] at P
        cases d with
        | non =>
          simp only at P
          cases q2 : frz S' (.ref 0) with
          | none => rw [q2] at P; exact P.elim
          | some d' =>
            rw [q2] at P
            refine fun ρ3 H3 e3 s3 v rv => ⟨by simpa only [Rep] using rv, ?_⟩
            have r0 : Rep ⟨X.K, X.mg⟩ B' ρ3 H3 (.ref 0) (.ref x) := by simp only [Rep]; exact ⟨x, rfl, e3.pre 0 x rfl⟩
            exact P ρ1 H3 (Ext.of_same (same3 e3)) (s1.same (same3 e3)) (.ref x) ((frz_ok s3 q2 r0).move (fun n a h => by simp at h) fun a o w q => ⟨q, back (ρ3 := ρ3) (H3 := H3) w⟩)
        | _ => exact P.elim
  · exact P.elim
theorem se_newP {nn : Nat} {g : List D → Sto → Rs D} (F : NewI X.prog X.w X.K X.mg X.base j c ps g kws) (hr : RoomG k X.A) (hj : j + 1 ≤ k) (tk : L2.Takes X W) (ha : SA X W (e :: es) m) (hg : Gl X c := by rfl) (hnn : ps.length = nn + 1 := by rfl)
    (hdb : (c == ("__debug__" : Str)) = false := by decide) (he : starEach (e :: es) X.env = (false, eval e X.env) :: starEach es X.env := by rfl) (hpl : (backTo pos (starEach es X.env)).any (·.1) = false := by rfl) :
    SE X W (.Call (.Name c p) (e :: es) [] pos) (mCallP nn (mkP c g) m) := by
  obtain ⟨C, f, fd, hm, M, F1, hb, _⟩ := F.ex
  rw [hnn] at F1
  refine ⟨fun pins s σ H Q I h => ?_⟩
  refine wpAny_Call_Name_kw (ld_glob I hg hm ?_ hdb)
  obtain ⟨B, env, S, ρ, eo, so, P⟩ := h
  refine PySem.W.callWith_K (h₀ := X.base) I.ok.mod.kin M.kp (thn (ha.run pos pins s σ H (fun vs H1 => ∀ x dx, H1 x = none → H1 dx = none → dx ≠ x → spI ⟨X.K, X.mg⟩ (nn + 1) g (.ref x :: vs) (upd (upd H1 dx (.own x)) x (.ins C dx [])) (fun v H2 => v = .non ∧ Q (.ref x) H2) (L2.WE W σ)) I ?_) fun us s1 ⟨vs, H1, I1, r, q⟩ => ⟨I1.kIn, ?_⟩) he hpl
  · exact ⟨B, env, S, ρ, eo, so, Post.mono P.bind (fun ds S1 ρ1 H1 e1 s1 P1 vs rs x dx hx hdx hne => new_imp (σ := σ) hm s1 rs P1 hx hdx hne) (fun _ _ _ z => z)⟩
  · exact make_run M F1 (hr.mono hj) hb tk I1 r q
end
end Ev

/-! Ev, part 14: in, sorted of ints. -/
namespace Ev
open PySem L2
section
variable {X : Cx} {W : WX}
/-- flat data as a value -/
def vOf : D → Option V
  | .non => some .non
  | .bl b => some (.bl b)
  | .int i => some (.int i)
  | .str x => some (.str x)
  | _ => none
def vsOf : List D → Option (List V)
  | [] => some []
  | d :: ds => match vOf d, vsOf ds with | some v, some vs => some (v :: vs) | _, _ => none
theorem vOf_ok {G : GC} {B : Addr → Prop} {ρ : List Addr} {H : Hp} {d : D} {v u : V} (h : vOf d = some u) (r : Rep G B ρ H d v) : v = u ∧ flatV u = true := by
  cases d <;> first | (cases h; simp only [Rep] at r; exact ⟨r, rfl⟩) | (simp [vOf] at h)
theorem vsOf_ok {G : GC} {B : Addr → Prop} {ρ : List Addr} {H : Hp} : ∀ {ds : List D} {vs us : List V}, vsOf ds = some us → RepL G B ρ H ds vs → vs = us ∧ us.all flatV = true
  | [], vs, us, h, r => by cases h; simp only [RepL] at r; exact ⟨r, rfl⟩
  | d :: ds, vs, us, h, r => by
    simp only [vsOf] at h
    split at h
    · rename_i v ws e1 e2
      cases h
      simp only [RepL] at r
      obtain ⟨v', w, rfl, r1, r2⟩ := r
      obtain ⟨rfl, f1⟩ := vOf_ok e1 r1
      obtain ⟨rfl, f2⟩ := vsOf_ok e2 r2
      exact ⟨rfl, by simp [f1, f2]⟩
    · cases h
/-- x in a tuple, a list of flat items -/
def sInB (S : Sto) (x y : D) : Option Bool := match vOf x, seqOf S y with
  | some v, some ds => (vsOf ds).map fun vs => inV v vs
  | _, _ => none
def sIn (S : Sto) (x y : D) : Option D := (sInB S x y).map .bl
def sNotIn (S : Sto) (x y : D) : Option D := (sInB S x y).map fun b => .bl !b
theorem seqOf_ok {K : PySem.W.Frag} {mg : Str → Option Value} {B : Addr → Prop} {ρ : List Addr} {H : Hp} {S : Sto} {d : D} {v : V} {ds : List D} (so : SOk ⟨K, mg⟩ B S ρ H) (r : Rep ⟨K, mg⟩ B ρ H d v) (h : seqOf S d = some ds) : ∃ a vs, v = .ref a ∧ (SqL K H a vs ∨ SqT K H a vs) ∧ RepL ⟨K, mg⟩ B ρ H ds vs := by
  cases d with
  | tup xs =>
    cases h
    obtain ⟨a, vs, e, h1, h2⟩ := tup_ok r
    exact ⟨a, vs, e, .inr h1, h2⟩
  | _ =>
    obtain ⟨a, vs, e, h1, h2⟩ := lstOf_ok so r h
    exact ⟨a, vs, e, .inl h1, h2⟩
theorem sInB_ok {K : PySem.W.Frag} {mg : Str → Option Value} {B : Addr → Prop} {ρ : List Addr} {H : Hp} {S : Sto} {x y : D} {u v : V} {b : Bool} (so : SOk ⟨K, mg⟩ B S ρ H) (rx : Rep ⟨K, mg⟩ B ρ H x u) (ry : Rep ⟨K, mg⟩ B ρ H y v) (h : sInB S x y = some b) :
    ∃ p vs, v = .ref p ∧ (SqL K H p vs ∨ SqT K H p vs) ∧ flatV u = true ∧ vs.all flatV = true ∧ inV u vs = b := by
  unfold sInB at h
  split at h
  · rename_i w ds e1 e2
    simp only [Option.map_eq_some_iff] at h
    obtain ⟨ws, h, rfl⟩ := h
    obtain ⟨rfl, f1⟩ := vOf_ok e1 rx
    obtain ⟨a, vs, e, hs, r⟩ := seqOf_ok so ry e2
    obtain ⟨rfl, f2⟩ := vsOf_ok h r
    exact ⟨a, vs, e, hs, f1, f2, rfl⟩
  · cases h
theorem op_sIn : VOp X (compareOp .In) sIn := by
  intro pins s σ H x y v u Q I rx ry ⟨B, S, ρ, dx, dy, so, hx, hy, d, he, k⟩
  unfold sIn at he
  simp only [Option.map_eq_some_iff] at he
  obtain ⟨b, he, rfl⟩ := he
  obtain ⟨p, vs, e, hs, f1, f2, e2⟩ := sInB_ok so hx hy he
  refine op_in_seq pins s σ H _ _ v u Q I rx ry ⟨p, vs, e, hs, f1, f2, ?_⟩
  exact k ρ H _ Ext.refl so (by simp only [Rep]; simp [e2])
theorem op_sNotIn : VOp X (compareOp .NotIn) sNotIn := by
  intro pins s σ H x y v u Q I rx ry ⟨B, S, ρ, dx, dy, so, hx, hy, d, he, k⟩
  unfold sNotIn at he
  simp only [Option.map_eq_some_iff] at he
  obtain ⟨b, he, rfl⟩ := he
  obtain ⟨p, vs, e, hs, f1, f2, e2⟩ := sInB_ok so hx hy he
  refine op_notIn_seq pins s σ H _ _ v u Q I rx ry ⟨p, vs, e, hs, f1, f2, ?_⟩
  exact k ρ H _ Ext.refl so (by simp only [Rep]; simp [e2])
/-- ints -/
def intsOf : List D → Option (List Int)
  | [] => some []
  | .int i :: r => (intsOf r).map (i :: ·)
  | _ :: _ => none
theorem intsOf_map : ∀ is : List Int, intsOf (is.map .int) = some is
  | [] => rfl
  | i :: is => by simp [intsOf, intsOf_map is]
theorem intsOf_ok {G : GC} {B : Addr → Prop} {ρ : List Addr} {H : Hp} : ∀ {ds : List D} {is : List Int} {vs : List V}, intsOf ds = some is → RepL G B ρ H ds vs → vs = is.map V.int
  | [], _, _, h, r => by cases h; simp only [RepL] at r; exact r
  | d :: ds, is, vs, h, r => by
    cases d with
    | int i =>
      simp only [intsOf, Option.map_eq_some_iff] at h
      obtain ⟨js, h, rfl⟩ := h
      simp only [RepL, Rep] at r
      obtain ⟨v, w, rfl, rfl, r⟩ := r
      rw [intsOf_ok h r]
      rfl
    | _ => simp [intsOf] at h
theorem rep_ints {G : GC} {B : Addr → Prop} {ρ : List Addr} {H : Hp} : ∀ is : List Int, RepL G B ρ H (is.map .int) (is.map V.int)
  | [] => by simp only [List.map_nil, RepL]
  | i :: is => by simp only [List.map_cons, RepL, Rep]; exact ⟨_, _, rfl, rfl, rep_ints is⟩
def insI (i : Int) : List Int → List Int
  | [] => [i]
  | j :: r => if i ≤ j then i :: j :: r else j :: insI i r
def sortI : List Int → List Int
  | [] => []
  | i :: r => insI i (sortI r)
theorem insI_perm (i : Int) : ∀ l : List Int, (insI i l).Perm (i :: l)
  | [] => .refl _
  | j :: r => by
    unfold insI
    split
    · exact .refl _
    · exact (List.Perm.cons j (insI_perm i r)).trans (List.Perm.swap i j r)
theorem sortI_perm : ∀ l : List Int, (sortI l).Perm l
  | [] => .refl _
  | i :: r => (insI_perm i _).trans (List.Perm.cons i (sortI_perm r))
theorem insI_sorted (i : Int) : ∀ {l : List Int}, l.Pairwise (· ≤ ·) → (insI i l).Pairwise (· ≤ ·)
  | [], _ => by simp [insI]
  | j :: r, h => by
    unfold insI
    have hj := List.pairwise_cons.mp h
    split
    · rename_i q
      refine List.pairwise_cons.mpr ⟨fun a ha => ?_, h⟩
      rcases List.mem_cons.mp ha with e | ha
      · subst e; exact q
      · exact Int.le_trans q (hj.1 a ha)
    · rename_i q
      refine List.pairwise_cons.mpr ⟨fun a ha => ?_, insI_sorted i hj.2⟩
      have := (insI_perm i r).mem_iff.mp ha
      rcases List.mem_cons.mp this with e | ha
      · subst e; omega
      · exact hj.1 a ha
theorem sortI_sorted : ∀ l : List Int, (sortI l).Pairwise (· ≤ ·)
  | [] => .nil
  | i :: r => insI_sorted i (sortI_sorted r)
theorem sorted_uniq : ∀ {l l' : List Int}, l.Perm l' → l.Pairwise (· ≤ ·) → l'.Pairwise (· ≤ ·) → l = l'
  | [], l', p, _, _ => (List.nil_perm.mp p).symm
  | a :: r, [], p, _, _ => absurd (List.Perm.length_eq p) (by simp)
  | a :: r, b :: r', p, h, h' => by
    have ha := List.pairwise_cons.mp h
    have hb := List.pairwise_cons.mp h'
    have e : a = b := by
      have m1 : a ∈ b :: r' := p.mem_iff.mp (by simp)
      have m2 : b ∈ a :: r := p.mem_iff.mpr (by simp)
      rcases List.mem_cons.mp m1 with q | q
      · exact q
      · rcases List.mem_cons.mp m2 with q2 | q2
        · exact q2.symm
        · have := ha.1 b q2; have := hb.1 a q; omega
    subst e
    rw [sorted_uniq (List.Perm.cons_inv p) ha.2 hb.2]
/-- sorted(xs), ints -/
def sSorted (S : Sto) : List D → Option D
  | [d] => (match lstOf S d with | some ds => (intsOf ds).map fun is => .lst ((sortI is).map .int) | none => none)
  | _ => none
theorem call_sSorted : VCall X (.builtin "sorted") sSorted := by
  intro pins s σ H xs us Q I r ⟨B, S, ρ, ds, so, rs, d, he, k⟩
  unfold sSorted at he
  split at he
  · split at he
    · rename_i q
      simp only [Option.map_eq_some_iff] at he
      obtain ⟨is, he, rfl⟩ := he
      obtain ⟨v, rfl, r1⟩ := repL1 rs
      obtain ⟨a, vs, rfl, h1, h2⟩ := lstOf_ok so r1 q
      rw [intsOf_ok he h2] at h1
      refine cr_sortedI pins s σ H _ us Q I r ⟨a, is, rfl, h1, fun ns' p hp hs hn => ?_⟩
      have e : ns' = sortI is := sorted_uniq (hp.trans (sortI_perm is).symm) hs (sortI_sorted is)
      subst e
      exact k ρ _ _ (Ext.laid hn) (so.laid hn) (new_lst so (rep_ints _) hn)
    · cases he
  · cases he
end
section
variable {S : Sto} {xs : List D}
@[simp] theorem sSorted_l : sSorted S [.lst xs] = (intsOf xs).map fun is => .lst ((sortI is).map .int) := rfl
@[simp] theorem intsOf_nil : intsOf [] = some [] := rfl
@[simp] theorem intsOf_cons {i : Int} : intsOf (.int i :: xs) = (intsOf xs).map (i :: ·) := rfl
end
end Ev

/-! Ev, part 15: how methods, makers are shown to keep their promise; append. -/
namespace Ev
open PySem L2
section
variable {P : Program} {w : World} {K : PySem.W.Frag} {mg : Str → Option Value} {base : Heap} {k : Nat} {f C : Addr} {fd : FuncData} {c x qual : Str} {prm : Arguments} {body : List Stmt} {scope : Scope} {N ps : List Str} {kws : List Shape} {m : MS}
theorem FunD.bindsKq {ps : List Str} {n : Nat} {ks : List Str} {ix : List Nat} (F : FunD K x qual prm body scope [] [] f fd)
    (h : ∀ (kV doc pm : Value) (an : Option Addr) (cdv ct : Value) (us ws : List Value), us.length = n → ws.length = ks.length → bindArgs (PySem.W.fnOf x qual prm body scope .none kV doc pm an cdv ct) ⟨us, ks.zip ws⟩ = pure (ps.zip (perm ix (us ++ ws)))) : BindsK K fd ps n ks ix := by
  obtain ⟨oc, od, dV, kV, doc, pm, an, cdv, ct, osl, rfl, lk, hcd, hD, hK⟩ := F.ex
  rcases hD with ⟨_, rfl⟩ | ⟨e, _⟩
  · exact fun s us ws _ h1 h2 => .of_eq (h kV doc pm an cdv ct us ws h1 h2)
  · exact absurd rfl e
theorem MetP.of (F : FunD K x qual prm body scope [] [] f fd) (hg : mg c = some (.ref C)) (hc : Cls K C) (hm : Meth K C x f) (sc : FnScope N ps scope) (hb : Binds K fd ps []) (hk : ∀ q ∈ kws, BindsK K fd ps q.1 q.2.1 q.2.2)
    (go : ∀ (cdv : Value) (A : Around) (outer : List Env) (s : Shared) (H : Hp) (E : XK), RoomG k (A.deeper (PyProof.Rows.envOfC qual scope s.heap.objs.size f cdv)) → SSs (cxOf (L2.CX P w) P w K mg base N qual scope f cdv A outer s H E) (WD E) body m) :
    MetP P w K mg base (k + 1) c x ps (runP N.length m) kws :=
  ⟨C, f, fd, hg, hc, hm, FnG.of F sc len_P fun cdv A outer s H vs Q E hr h => ⟨_, go cdv A outer s H E hr, body_P h⟩, hb, hk⟩
theorem MetI.of (F : FunD K x qual prm body scope [] [] f fd) (hg : mg c = some (.ref C)) (hc : Cls K C) (hm : Meth K C x f) (sc : FnScope N ps scope) (hb : Binds K fd ps []) (hk : ∀ q ∈ kws, BindsK K fd ps q.1 q.2.1 q.2.2)
    (go : ∀ (cdv : Value) (A : Around) (outer : List Env) (s : Shared) (H : Hp) (E : XK), RoomG k (A.deeper (PyProof.Rows.envOfC qual scope s.heap.objs.size f cdv)) → SSs (cxOf (L2.CX P w) P w K mg base N qual scope f cdv A outer s H E) (WD E) body m) :
    MetI P w K mg base (k + 1) c x ps (runI N.length m) kws :=
  ⟨C, f, fd, hg, hc, hm, FnG.of F sc len_I fun cdv A outer s H vs Q E hr h => ⟨_, go cdv A outer s H E hr, body_I h⟩, hb, hk⟩
theorem NewI.of (F : FunD K x qual prm body scope [] [] f fd) (hg : mg c = some (.ref C)) (M : Mk K C f) (sc : FnScope N ps scope) (hb : Binds K fd ps []) (hk : ∀ q ∈ kws, BindsK K fd ps q.1 q.2.1 q.2.2)
    (go : ∀ (cdv : Value) (A : Around) (outer : List Env) (s : Shared) (H : Hp) (E : XK), RoomG k (A.deeper (PyProof.Rows.envOfC qual scope s.heap.objs.size f cdv)) → SSs (cxOf (L2.CX P w) P w K mg base N qual scope f cdv A outer s H E) (WD E) body m) :
    NewI P w K mg base (k + 1) c ps (runI N.length m) kws :=
  ⟨C, f, fd, hg, M, FnG.of F sc len_I fun cdv A outer s H vs Q E hr h => ⟨_, go cdv A outer s H E hr, body_I h⟩, hb, hk⟩
end
section
variable {X : Cx} {W : WX}
theorem se_appA {o e : Expr} {mo me : M} {apos cpos : Pos} (ho : SE X W o mo) (he : SE X W e me) (hbase : attributeBase o "append" X.env (eval o X.env) = eval o X.env := by rfl)
    (hfew : ((backTo cpos (starEach [e] X.env)).all (fun x => !x.1) && (backToKw cpos (keywordEach [] X.env)).all (fun x => x.1.isSome)
      && decide (([e] : List Expr).length + ([] : List Keyword).length + (if ([] : List Keyword).isEmpty then 0 else 1) < 30)) = true := by rfl)
    (hline : (apos.endLine == cpos.line) = true := by rfl) (hs : starEach [e] X.env = (false, eval e X.env) :: starEach [] X.env := by rfl) (hplain : (backTo cpos (starEach [] X.env)).any (·.1) = false := by rfl) : SE X W (.Call (.Attribute o "append" apos) [e] [] cpos) (mApp mo me) :=
  se_app ho he (pe_bm PySem.F.plainAttrs_list PySem.F.slot_list_append PySem.F.type_list_append mt_append ho (pa_cons he pa_nil hs) hbase hfew hline hs hplain)
end
/-- append, going back: the list may have been written while the item was made -/
theorem mApp_po {o e : M} {env : En} {S : Sto} {Q : D → Sto → Prop} {X : XQ} (h : (o env S).po (fun d S1 => match d with
    | .ref n => (match S1[n]? with | some (.lst _) => True | _ => False) ∧ (e env S1).po (fun x S2 => opo S2[n]? fun ob => lsE ob fun ds => ds.length ≤ 16000000 ∧ Q .non (S2.set n (.lst (ds ++ [x])))) X
    | _ => False) fun _ _ _ => False) : (mApp o e env S).po Q X := by
  unfold mApp
  cases q : o env S with
  | err => rw [q] at h; exact h.elim
  | exc c p S1 => rw [q] at h; exact h.elim
  | ok d S1 =>
    rw [q] at h
    simp only [po_ok] at h
    cases d with
    | ref n =>
      obtain ⟨h1, h2⟩ := h
      simp only
      cases q1 : S1[n]? with
      | none => rw [q1] at h1; exact h1.elim
      | some ob =>
        cases ob with
        | lst ds0 =>
          simp only [po_bind]
          refine Rs.po.mono h2 (fun x S2 z => ?_) (fun _ _ _ z => z)
          cases q2 : S2[n]? with
          | none => rw [q2] at z; exact z.elim
          | some ob =>
            rw [q2] at z
            cases ob with
            | lst ds =>
              simp only [opo_some, lsE_lst] at z
              have hr : room ds.length = true := by simp [z.1]
              simp only [hr, if_true, po_ok]
              exact z.2
            | _ => exact z.elim
        | _ => rw [q1] at h1; exact h1.elim
    | _ => exact h.elim
@[simp] theorem mSetF_fpo {c f : Str} {o v : M} {env : En} {S : Sto} {Q : Fl → Sto → Prop} : fpo (mSetF c f o v env S) Q = (v env S).po (fun d S1 => (o env S1).po (fun x S2 => match x with
    | .ref n => (match S2[n]? with
      | some (.ins c' ns ds) => (c' = c ∧ ns.length < 900 ∧ ns.length = ds.length) ∧ Q (.nx env) (S2.set n (.ins c (putD f d ns ds).1 (putD f d ns ds).2))
      | _ => False)
    | _ => False) fun c p S => Q (.xc env c p) S) fun c p S => Q (.xc env c p) S := by
  simp only [mSetF, lft_fpo]; congr; funext d S1; congr; funext x S2
  cases x with
  | ref n =>
    simp only
    cases S2[n]? with
    | none => rfl
    | some ob =>
      cases ob with
      | ins c' ns ds =>
        simp only
        split
        · rename_i h; exact propext ⟨fun q => ⟨h, q⟩, fun q => q.2⟩
        · rename_i h; simp only [fpo_none, h, false_and]
      | _ => rfl
  | _ => rfl
theorem Rs.eq {r : Rs D} {v : D} {S' : Sto} (h : r.po (fun d T => d = v ∧ T = S') fun _ _ _ => False) : r = .ok v S' := by
  cases r with
  | ok d T => obtain ⟨rfl, rfl⟩ := h; rfl
  | exc c p T => exact h.elim
  | err => exact h.elim
end Ev

/-! Ev, part 16: str(), join. -/
namespace Ev
open PySem L2
section
variable {X : Cx} {W : WX}
def cShow (i : Int) : Bool := Nat.blt i.natAbs.log2 1920
def sStr (_ : Sto) : List D → Option D
  | [.int i] => if cShow i then some (.str (toString i)) else none
  | [.str a] => some (.str a)
  | _ => none
theorem call_sStr : VCall X (.type "str") sStr := by
  intro pins s σ H xs us Q I r ⟨B, S, ρ, ds, so, rs, d, he, k⟩
  unfold sStr at he
  split at he
  · split at he
    · rename_i i hz
      cases he
      obtain ⟨v, rfl, r1⟩ := repL1 rs
      simp only [Rep] at r1
      subst r1
      exact call_str_int pins s σ H _ us Q I r ⟨i, rfl, Nat.le_of_ble_eq_true hz, k ρ H _ Ext.refl so (by simp only [Rep])⟩
    · cases he
  · cases he
    obtain ⟨v, rfl, r1⟩ := repL1 rs
    simp only [Rep] at r1
    subst r1
    exact SkE.call_str_str pins s σ H _ us Q I r ⟨_, rfl, k ρ H _ Ext.refl so (by simp only [Rep])⟩
  · cases he
/-- texts -/
def strsOf : List D → Option (List Str)
  | [] => some []
  | .str x :: r => (strsOf r).map (x :: ·)
  | _ :: _ => none
theorem strsOf_ok {G : GC} {B : Addr → Prop} {ρ : List Addr} {H : Hp} : ∀ {ds : List D} {is : List Str} {vs : List V}, strsOf ds = some is → RepL G B ρ H ds vs → vs = is.map V.str
  | [], _, _, h, r => by cases h; simp only [RepL] at r; exact r
  | d :: ds, is, vs, h, r => by
    cases d with
    | str i =>
      simp only [strsOf, Option.map_eq_some_iff] at h
      obtain ⟨js, h, rfl⟩ := h
      simp only [RepL, Rep] at r
      obtain ⟨v, w, rfl, rfl, r⟩ := r
      rw [strsOf_ok h r]
      rfl
    | _ => simp [strsOf] at h
/-- a.join(xs) -/
def jnD (S : Sto) (a : Str) (x : D) : Option D := match seqOf S x with
  | some ds => (match strsOf ds with
    | some ys => if Nat.ble ((ys.map (·.length)).sum + ys.length * a.length) 16000000 then some (.str (Txt.join a ys)) else none
    | none => none)
  | none => none
def mJoin (o e : M) : M := fun env S => (o env S).bind fun x S1 => match x with
  | .str a => (e env S1).bind fun y S2 => Rs.of (jnD S2 a y) S2
  | _ => .err
theorem se_join {o e : Expr} {mo me : M} {apos pos : Pos} (ho : SE X W o mo) (he : SE X W e me) (hs : starEach [e] X.env = [(false, eval e X.env)] := by rfl) (hbase : attributeBase o "join" X.env (eval o X.env) = eval o X.env := by rfl) (hline : (apos.endLine == pos.line) = true := by rfl) :
    SE X W (.Call (.Attribute o "join" apos) [e] [] pos) (mJoin mo me) :=
  PE.imp (pe_join ho he hs hbase hline) fun σ H Q h => by
    obtain ⟨B, env, S, ρ, eo, so, P⟩ := h
    refine ⟨B, env, S, ρ, eo, so, Post.mono P.bind (fun x S1 ρ1 H1 e1 s1 P1 v r => ?_) (fun _ _ _ z => z)⟩
    split at P1
    · simp only [Rep] at r
      subst r
      refine ⟨⟨_, rfl⟩, B, env, S1, ρ1, eo.mono e1, s1, Post.mono P1.bind (fun y S2 ρ2 H2 e2 s2 P2 w rw_ => ?_) (fun _ _ _ z => z)⟩
      unfold jnD at P2
      split at P2
      · rename_i ds hd
        split at P2
        · rename_i ys hy
          split at P2
          · rename_i hz
            obtain ⟨p, vs, rfl, hq, h2⟩ := seqOf_ok s2 rw_ hd
            rw [strsOf_ok hy h2] at hq
            exact ⟨_, p, ys, rfl, rfl, hq, Nat.le_trans (Nat.le_of_ble_eq_true hz) (by decide), P2 ρ2 H2 Ext.refl s2 _ (by simp only [Rep])⟩
          · exact P2.elim
        · exact P2.elim
      · exact P2.elim
    · exact P1.elim
end
end Ev

/-! Ev, part 17: properties. -/
namespace Ev
open PySem L2
/-- the property f of the class c, its getter raises nothing -/
structure ProP (P : Program) (w : World) (K : PySem.W.Frag) (mg : Str → Option Value) (base : Heap) (k : Nat) (c f : Str) (g : List D → Pr) : Prop where
  ex : ∃ C p q fd ps, mg c = some (.ref C) ∧ Cls K C ∧ PropOf K C f p q ∧ ps.length = 1 ∧ FnG P w K mg base k q fd ps (spP ⟨K, mg⟩ ps.length g) ∧ Binds K fd ps []
section
variable {X : Cx} {W : WX} {j k : Nat} {c f : Str} {pos : Pos} {o : Expr} {mo : M} {sp : Sp}
theorem prop_run {pins : List (Addr × Obj)} {σ : L2.St} {H : Hp} {s : Shared} {Q : VK} {b : Bool} {E' : Value → Shared → Prop} {a dx C p g : Addr} {fs : List (Str × V)} {fd : FuncData} {ps : List Str} (I : L2.Inv X pins σ H s) (ea : H a = some (.ins C dx fs)) (c : Cls X.K C) (hp : PropOf X.K C f p g)
    (F : FnG X.prog X.w X.K X.mg X.base k g fd ps sp) (hr : RoomG (k + 1) X.A) (hb : Binds X.K fd ps []) (h : sp [.ref a] H Q fun _ _ _ => False) : wpAny (model X.prog X.w) X.A (getAttr (.ref a) f b) (EP X pins σ Q) E' s := by
  obtain ⟨mA, O, _, _, _, _⟩ := ins_get I.hok ea
  obtain ⟨od, J, _⟩ := O.look
  obtain ⟨rest, hrec⟩ := hp.rec_
  have I1 := I.tok (s.toks + 1)
  have hl : ([Value.ref a] ++ []).length = ps.length := (F.len _ _ _ _ h)
  have hc : (PySem.W.clsIn X.K C).isSome = true := by
    obtain ⟨cd, hc, _⟩ := PySem.W.any_some c.hd
    rw [hc]
    rfl
  have bnd := hb _ [.ref a] I1.kIn hl
  rw [List.append_nil] at bnd
  refine PySem.W.get_bind I.kIn J (PySem.W.plainGet_of (c.get f)).1 (PySem.W.findObj_data hc hp.at_ hp.get hp.tak) (PySem.W.plainGet_of (c.get f)).2 (wpAny_call (PySem.W.prop_get (s := { s with toks := s.toks + 1 }) I.kIn hrec ?_))
  refine codeAny_mono (F.go X.A.in1 X.stack { s with toks := s.toks + 1 } H ⟨[.ref a], []⟩ [.ref a] [.ref a] Q (fun _ _ _ => False) hr.in1 I1.env0.in1 bnd (.cons rfl .nil) h) fun r s' hq => ?_
  cases r with
  | error er =>
    obtain ⟨_, _, _, _, _, _, _, _, _, _, _, _, _, z⟩ := hq
  | ok fl =>
    cases fl with
    | ret u =>
      obtain ⟨v, H', I3, rv, q3⟩ := I1.after hq
      show wpAny _ _ (handedOut u) _ _ _
      rw [PySem.W.handedOut_of (handed_of rv)]
      exact wpAny_pure ⟨v, H', I3, rv, q3⟩
    | next => exact False.elim hq
    | brk => exact False.elim hq
    | cont => exact False.elim hq
/-- o.f, f a property of c -/
def mProp (c : Str) (g : List D → Pr) (o : M) : M := fun env S => (o env S).bind fun d S1 => match insOf S1 d with
  | some (c', _, _) => if c' = c ∧ noRef d = true then (match g [d] with | .ok v => .ok v S1 | _ => .err) else .err
  | none => .err
theorem se_prop {g : List D → Pr} (F : ProP X.prog X.w X.K X.mg X.base j c f g) (hr : RoomG k X.A) (hj : j + 1 ≤ k) (ho : SE X W o mo) (hb : attributeBase o f X.env (eval o X.env) = eval o X.env := by rfl) : SE X W (.Attribute o f pos) (mProp c g mo) := by
  obtain ⟨C, p, q, fd, ps, hg, hc, hp, hps, F1, hbn⟩ := F.ex
  refine ⟨fun pins s σ H Q I h => ?_⟩
  obtain ⟨B, env, S, ρ, eo, so, P⟩ := h
  refine attr_of hb (thn (ho.run pins s σ H (fun v H1 => ∃ a dx fs, v = .ref a ∧ H1 a = some (.ins C dx fs) ∧ spP ⟨X.K, X.mg⟩ ps.length g [.ref a] H1 Q fun _ _ _ => False) I ?_) fun u s1 ⟨x, H1, I1, rx, a, dx, fs, ex, ea, q⟩ => ?_)
  · refine ⟨B, env, S, ρ, eo, so, Post.mono P.bind (fun d S1 ρ1 H1 e1 s1 P1 v r => ?_) (fun _ _ _ z => z)⟩
    split at P1
    · rename_i c' ns ds hi
      split at P1
      · rename_i hz
        obtain ⟨rfl, hz⟩ := hz
        obtain ⟨a, C', dx, fs, rfl, h1, h3, _, _⟩ := insOf_ok s1 r hi
        rw [show X.mg c' = some (.ref C') from h3] at hg
        cases hg
        refine ⟨a, dx, fs, rfl, h1, ?_⟩
        cases qg : g [d] with
        | ok v =>
          rw [qg] at P1
          refine spP_of (ds := [d]) s1 (by simp only [RepL]; exact ⟨_, _, rfl, r, rfl⟩) ?_
          have e : clP ps.length g [d] S1 = .ok v S1 := by
            unfold clP
            rw [hps, qg]
            simp [noRefs, hz, prR]
          rw [e]
          exact P1
        | exc _ _ => rw [qg] at P1; exact P1.elim
        | err => rw [qg] at P1; exact P1.elim
      · exact P1.elim
    · exact P1.elim
  · subst ex
    obtain rfl : u = Value.ref a := rx
    exact prop_run I1 ea hc hp F1 (hr.mono hj) hbn q
end
end Ev

/-! Ev, part 18: dicts with ints and texts as keys; tuple(), list(). -/
namespace Ev
open PySem L2
section
variable {κ : Type} [DecidableEq κ] {α : Type}
/-- what stands at a key; a table with a key put in its place or at the end -/
def getE (es : List (κ × α)) (k : κ) : Option α := (es.find? fun e => decide (e.1 = k)).map (·.2)
def putE (es : List (κ × α)) (k : κ) (d : α) : List (κ × α) := if (es.any fun e => decide (e.1 = k)) = true then es.map (fun e => if e.1 = k then (e.1, d) else e) else es ++ [(k, d)]
theorem getE_nil {k : κ} : getE ([] : List (κ × α)) k = none := rfl
theorem getE_cons {k j : κ} {d : α} {es : List (κ × α)} : getE ((j, d) :: es) k = if j = k then some d else getE es k := by
  unfold getE
  rw [List.find?_cons]
  by_cases h : j = k <;> simp [h]
end
/-- data that are keys -/
def keyD : D → Option Key | .int i => some (.inl i) | .str x => some (.inr x) | _ => none
section
variable {G : GC} {B : Addr → Prop} {ρ : List Addr} {H : Hp} {κ : Type} [DecidableEq κ]
theorem keyD_ok {d : D} {v : V} {k : Key} (r : Rep G B ρ H d v) (h : keyD d = some k) : v = kV k := by
  cases d <;> first | (cases h; simp only [Rep] at r; exact r) | (simp [keyD] at h)
theorem getE_ok {k : κ} : ∀ {es : List (κ × D)} {kvs : List (κ × V)}, kvs.map (·.1) = es.map (·.1) → RepL G B ρ H (es.map (·.2)) (kvs.map (·.2)) →
    (∀ d, getE es k = some d → ∃ v, valV kvs k = some v ∧ Rep G B ρ H d v) ∧ (getE es k = none → valV kvs k = none)
  | [], [], _, _ => ⟨fun d h => (by cases h), fun _ => rfl⟩
  | [], _ :: _, h, _ => by simp at h
  | _ :: _, [], h, _ => by simp at h
  | (j, d) :: es, (j', v) :: kvs, h, r => by
    simp only [List.map_cons, List.cons.injEq] at h
    obtain ⟨rfl, h⟩ := h
    simp only [List.map_cons, RepL] at r
    obtain ⟨v', w, e, r1, r2⟩ := r
    cases e
    obtain ⟨i1, i2⟩ := getE_ok (k := k) h r2
    by_cases hj : j' = k
    · refine ⟨fun d' q => ⟨v, valV_pos hj, ?_⟩, fun q => ?_⟩
      · rw [getE_cons, if_pos hj] at q; cases q; exact r1
      · rw [getE_cons, if_pos hj] at q; cases q
    · refine ⟨fun d' q => ?_, fun q => ?_⟩
      · rw [getE_cons, if_neg hj] at q
        obtain ⟨u, h1, h2⟩ := i1 d' q
        exact ⟨u, (valV_neg hj).trans h1, h2⟩
      · rw [getE_cons, if_neg hj] at q
        exact (valV_neg hj).trans (i2 q)
theorem keys_any {k : κ} : ∀ {es : List (κ × D)} {kvs : List (κ × V)}, kvs.map (·.1) = es.map (·.1) → (kvs.any fun e => decide (e.1 = k)) = es.any fun e => decide (e.1 = k)
  | [], [], _ => rfl
  | [], _ :: _, h => by simp at h
  | _ :: _, [], h => by simp at h
  | (j, d) :: es, (j', v) :: kvs, h => by
    simp only [List.map_cons, List.cons.injEq] at h
    simp only [List.any_cons, h.1, keys_any (k := k) h.2]
theorem mapE_ok {k : κ} {d : D} {v : V} (rv : Rep G B ρ H d v) : ∀ {es : List (κ × D)} {kvs : List (κ × V)}, kvs.map (·.1) = es.map (·.1) → RepL G B ρ H (es.map (·.2)) (kvs.map (·.2)) →
    (kvs.map fun e => if e.1 = k then (e.1, v) else e).map (·.1) = (es.map fun e => if e.1 = k then (e.1, d) else e).map (·.1) ∧ RepL G B ρ H ((es.map fun e => if e.1 = k then (e.1, d) else e).map (·.2)) ((kvs.map fun e => if e.1 = k then (e.1, v) else e).map (·.2))
  | [], [], _, r => ⟨rfl, r⟩
  | [], _ :: _, h, _ => by simp at h
  | _ :: _, [], h, _ => by simp at h
  | (j, x) :: es, (j', y) :: kvs, h, r => by
    simp only [List.map_cons, List.cons.injEq] at h
    obtain ⟨rfl, h⟩ := h
    simp only [List.map_cons, RepL] at r
    obtain ⟨v', w, e, r1, r2⟩ := r
    cases e
    obtain ⟨i1, i2⟩ := mapE_ok (k := k) rv h r2
    by_cases hj : j' = k
    · simp only [List.map_cons, if_pos hj, RepL]
      exact ⟨by rw [i1], _, _, rfl, rv, i2⟩
    · simp only [List.map_cons, if_neg hj, RepL]
      exact ⟨by rw [i1], _, _, rfl, r1, i2⟩
theorem putE_ok {k : κ} {d : D} {v : V} {es : List (κ × D)} {kvs : List (κ × V)} (rv : Rep G B ρ H d v) (h : kvs.map (·.1) = es.map (·.1)) (r : RepL G B ρ H (es.map (·.2)) (kvs.map (·.2))) :
    (putK kvs k v).map (·.1) = (putE es k d).map (·.1) ∧ RepL G B ρ H ((putE es k d).map (·.2)) ((putK kvs k v).map (·.2)) := by
  unfold putK putE
  rw [keys_any h]
  split
  · exact mapE_ok rv h r
  · simp only [List.map_append, h, List.map_cons, List.map_nil]
    exact ⟨trivial, r.append (by simp only [RepL]; exact ⟨_, _, rfl, rv, rfl⟩)⟩
end
theorem map_zip1 {α β : Type} : ∀ {ks : List α} {ds : List β}, ks.length = ds.length → (ks.zip ds).map (·.1) = ks
  | [], [], _ => rfl
  | k :: ks, d :: ds, h => by simp [map_zip1 (ks := ks) (ds := ds) (by simpa using h)]
  | [], _ :: _, h => by simp at h
  | _ :: _, [], h => by simp at h
theorem map_zip2 {α β : Type} : ∀ {ks : List α} {ds : List β}, ks.length = ds.length → (ks.zip ds).map (·.2) = ds
  | [], [], _ => rfl
  | k :: ks, d :: ds, h => by simp [map_zip2 (ks := ks) (ds := ds) (by simpa using h)]
  | [], _ :: _, h => by simp at h
  | _ :: _, [], h => by simp at h
/-- the pairs of a dict -/
def dicE (S : Sto) : D → Option (List (Key × D))
  | .ref n => match S[n]? with | some (.dk ks ds) => if ks.length = ds.length then some (ks.zip ds) else none | _ => none
  | .dic ks ds => if ks.length = ds.length then some (ks.zip ds) else none
  | _ => none
theorem dicE_ok {G : GC} {B : Addr → Prop} {ρ : List Addr} {H : Hp} {S : Sto} {d : D} {v : V} {es : List (Key × D)} (so : SOk G B S ρ H) (r : Rep G B ρ H d v) (h : dicE S d = some es) :
    ∃ a kvs, v = .ref a ∧ H a = some (.dK kvs) ∧ kvs.map (·.1) = es.map (·.1) ∧ RepL G B ρ H (es.map (·.2)) (kvs.map (·.2)) := by
  unfold dicE at h
  split at h
  · split at h
    · rename_i q
      split at h
      · rename_i hl
        cases h
        simp only [Rep] at r
        obtain ⟨a, e, hn⟩ := r
        obtain ⟨kvs, h1, h2, h3⟩ := so.ob _ _ _ q hn
        exact ⟨a, kvs, e, h1, by rw [map_zip1 hl]; exact h2, by rw [map_zip2 hl]; exact h3⟩
      · cases h
    · cases h
  · split at h
    · rename_i hl
      cases h
      simp only [Rep] at r
      obtain ⟨a, kvs, e, h1, _, h2, h3⟩ := r
      exact ⟨a, kvs, e, h1, by rw [map_zip1 hl]; exact h2, by rw [map_zip2 hl]; exact h3⟩
    · cases h
  · cases h
def obK (es : List (Key × D)) : Ob := .dk (es.map (·.1)) (es.map (·.2))
theorem dicE_at {S : Sto} {n : Nat} {es : List (Key × D)} (h : S[n]? = some (obK es)) : dicE S (.ref n) = some es := by
  have z : (es.map (·.1)).zip (es.map (·.2)) = es := by
    clear h
    induction es with
    | nil => rfl
    | cons e es ih => simp only [List.map_cons, List.zip_cons_cons, ih]
  simp only [dicE, h, obK, List.length_map, if_true, z]
section
variable {X : Cx} {W : WX}
/-- {} -/
def mNewK : M := fun _ S => .ok (.ref S.length) (S ++ [obK []])
theorem se_newK {pos : Pos} : SE X W (.Dict [] [] pos) mNewK := PE.imp pe_dnewK fun σ H Q h p hp => by
  obtain ⟨B, env, S, ρ, eo, so, P⟩ := h
  refine P (ρ ++ [p]) _ (Ext.push hp) (so.push hp ⟨[], upd_same, rfl, by simp only [obK, List.map_nil, RepL]⟩) _ ?_
  simp only [Rep]
  exact ⟨p, rfl, by rw [← so.len]; simp⟩
/-- d[k] -/
def mDGet (o i : M) : M := fun env S => (o env S).bind fun x S1 => (i env S1).bind fun y S2 => match dicE S2 x, keyD y with
  | some es, some k => Rs.of (getE es k) S2
  | _, _ => .err
theorem se_dget {o i : Expr} {mo mi : M} {pos : Pos} {k : Nat} (hr : RoomG k X.A) (ho : SE X W o mo) (hi : SE X W i mi) (hs : NoSl i := by intro _ _; rfl) : SE X W (.Subscript o i pos) (mDGet mo mi) :=
  PE.imp (pe_dget (by have := room_units hr (n := 0) (by decide); omega) ho hi hs) fun σ H Q h => by
    obtain ⟨B, env, S, ρ, eo, so, P⟩ := h
    refine ⟨B, env, S, ρ, eo, so, Post.mono P.bind (fun x S1 ρ1 H1 e1 s1 P1 vx rx => ⟨B, env, S1, ρ1, eo.mono e1, s1, Post.mono P1.bind (fun y S2 ρ2 H2 e2 s2 P2 vy ry => ?_) (fun _ _ _ z => z)⟩) (fun _ _ _ z => z)⟩
    split at P2
    · rename_i es k q1 q2
      obtain ⟨a, kvs, rfl, h1, h2, h3⟩ := dicE_ok s2 (rx.mono e2) q1
      have ek := keyD_ok ry q2
      subst ek
      cases q : getE es k with
      | none => rw [q] at P2; exact P2.elim
      | some d =>
        rw [q] at P2
        obtain ⟨v, hv, r⟩ := (getE_ok (k := k) h2 h3).1 d q
        exact ⟨a, v, rfl, by rw [← hv]; exact DGet.k h1, P2 ρ2 H2 Ext.refl s2 v r⟩
    · exact P2.elim
/-- d[k] = v -/
def mDPut (o i v : M) : MS := fun env S => lft (v env S) env fun d S1 => lft (o env S1) env fun x S2 => lft (i env S2) env fun y S3 => match x, keyD y with
  | .ref n, some k => match dicE S3 (.ref n) with
    | some es => if es.length < 1000000 then some (.nx env, S3.set n (obK (putE es k d))) else none
    | none => none
  | _, _ => none
theorem ss_dput {o i e : Expr} {mo mi me : M} {pos pos' : Pos} {k : Nat} (hr : RoomG k X.A) (ho : SE X W o mo) (hi : SE X W i mi) (he : SE X W e me) (hs : swapsWith e (some (.Subscript o i pos')) pos.line X.env = pure false := by rfl) :
    SS X W (.Assign [.Subscript o i pos'] e pos) (mDPut mo mi me) :=
  PS.imp (ps_dput (by have := room_units hr (n := 0) (by decide); omega) ho hi he hs) fun D σ H h => by
    obtain ⟨B, env, S, ρ, eo, so, P⟩ := h
    refine ⟨B, env, S, ρ, eo, so, Post.mono (PostS.lft P eo) (fun d S1 ρ1 H1 e1 s1 P1 v r => ⟨B, env, S1, ρ1, eo.mono e1, s1, Post.mono (PostS.lft P1 (eo.mono e1)) (fun x S2 ρ2 H2 e2 s2 P2 u rx =>
      ⟨B, env, S2, ρ2, (eo.mono e1).mono e2, s2, Post.mono (PostS.lft P2 ((eo.mono e1).mono e2)) (fun y S3 ρ3 H3 e3 s3 P3 w ry => ?_) (fun _ _ _ z => z)⟩) (fun _ _ _ z => z)⟩) (fun _ _ _ z => z)⟩
    split at P3
    · rename_i n k q2
      split at P3
      · rename_i es q1
        split at P3
        · rename_i hl
          have rx' := rx.mono e3
          obtain ⟨a, kvs, rfl, h1, h2, h3⟩ := dicE_ok s3 rx' q1
          have ek := keyD_ok ry q2
          subst ek
          simp only [Rep] at rx'
          obtain ⟨a', ea, hn⟩ := rx'
          cases ea
          have hm : a ∈ ρ3 := List.mem_iff_getElem?.mpr ⟨n, hn⟩
          have ew : Ext ρ3 H3 ρ3 (upd H3 a (.dK (putK kvs k v))) := Ext.write hm
          have pk := putE_ok (k := k) (((r.mono e2).mono e3).mono ew) h2 (h3.mono ew)
          refine ⟨a, _, rfl, DPut.k h1 ?_, P3 σ ρ3 _ ew (s3.write hn ⟨_, upd_same, pk.1, pk.2⟩) ((((eo.mono e1).mono e2).mono e3).mono ew)⟩
          have := congrArg List.length h2
          simp only [List.length_map] at this
          rw [this, sizeLine_eq]; omega
        · exact P3.elim
      · exact P3.elim
    · exact P3.elim
/-- sorted(d), keys ints -/
def intK : List Key → Option (List Int)
  | [] => some []
  | .inl i :: r => (intK r).map (i :: ·)
  | _ :: _ => none
theorem intK_ok : ∀ {ks : List Key} {is : List Int}, intK ks = some is → ks = is.map Sum.inl
  | [], _, h => by cases h; rfl
  | .inl i :: r, is, h => by
    simp only [intK, Option.map_eq_some_iff] at h
    obtain ⟨js, h, rfl⟩ := h
    rw [intK_ok h]; rfl
  | .inr _ :: _, _, h => by cases h
def sSortedD (S : Sto) : List D → Option D
  | [d] => match dicE S d with | some es => (match intK (es.map (·.1)) with | some is => if is.length < 64 then some (.lst ((sortI is).map .int)) else none | none => none) | none => none
  | _ => none
theorem call_sSortedD (hc : X.calm = true) : VCall X (.builtin "sorted") sSortedD := by
  intro pins s σ H xs us Q I r ⟨B, S, ρ, ds, so, rs, d, he, k⟩
  unfold sSortedD at he
  split at he
  · split at he
    · rename_i q
      split at he
      · rename_i is hi
        split at he
        · rename_i hl
          cases he
          obtain ⟨v, rfl, r1⟩ := repL1 rs
          obtain ⟨a, kvs, rfl, h1, h2, h3⟩ := dicE_ok so r1 q
          refine call_sortedDI hc pins s σ H _ us Q I r ⟨a, kvs, is, rfl, .inl h1, by rw [h2]; exact intK_ok hi, hl, fun ys p hp hs hn => ?_⟩
          have e : ys = sortI is := sorted_uniq (hp.trans (sortI_perm is).symm) hs (sortI_sorted is)
          subst e
          exact k ρ _ _ (Ext.laid hn) (so.laid hn) (new_lst so (rep_ints _) hn)
        · cases he
      · cases he
    · cases he
  · cases he
/-- tuple(xs), list(xs) -/
def sTuple (S : Sto) : List D → Option D | [.tup ds] => some (.tup ds) | [d] => (lstOf S d).map .tup | _ => none
theorem call_sTuple : VCall X (.type "tuple") sTuple := by
  intro pins s σ H xs us Q I r ⟨B, S, ρ, ds, so, rs, d, he, k⟩
  unfold sTuple at he
  split at he
  · cases he
    obtain ⟨v, rfl, r1⟩ := repL1 rs
    have r2 := r1
    obtain ⟨a, vs, rfl, hq, h2⟩ := tup_ok r1
    exact call_tuple_of pins s σ H _ us Q I r ⟨a, vs, rfl, .inr ⟨hq, k ρ H _ Ext.refl so r2⟩⟩
  · simp only [Option.map_eq_some_iff] at he
    obtain ⟨es, he, rfl⟩ := he
    obtain ⟨v, rfl, r1⟩ := repL1 rs
    obtain ⟨a, vs, rfl, hq, h2⟩ := lstOf_ok so r1 he
    exact call_tuple_of pins s σ H _ us Q I r ⟨a, vs, rfl, .inl ⟨hq, fun l hl => k ρ _ _ (Ext.laid hl) (so.laid hl) (new_tup so h2 hl)⟩⟩
  · cases he
def sList (S : Sto) : List D → Option D | [d] => (seqOf S d).map .lst | _ => none
theorem call_sList : VCall X (.type "list") sList := by
  intro pins s σ H xs us Q I r ⟨B, S, ρ, ds, so, rs, d, he, k⟩
  unfold sList at he
  split at he
  · simp only [Option.map_eq_some_iff] at he
    obtain ⟨es, he, rfl⟩ := he
    obtain ⟨v, rfl, r1⟩ := repL1 rs
    obtain ⟨a, vs, rfl, hq, h2⟩ := seqOf_ok so r1 he
    exact call_list_of pins s σ H _ us Q I r ⟨a, vs, rfl, hq, fun l hl => k ρ _ _ (Ext.laid hl) (so.laid hl) (new_lst so h2 hl)⟩
  · cases he
end
/-! going back -/
section
variable {S : Sto} {xs : List D} {env : En} {Q : D → Sto → Prop} {X : XQ}
@[simp] theorem sTuple_t : sTuple S [.tup xs] = some (.tup xs) := rfl
@[simp] theorem sTuple_l : sTuple S [.lst xs] = some (.tup xs) := rfl
theorem sTuple_ref {n : Nat} (h : S[n]? = some (.lst xs)) : sTuple S [.ref n] = some (.tup xs) := by simp [sTuple, lstOf, h]
@[simp] theorem sList_t : sList S [.tup xs] = some (.lst xs) := rfl
@[simp] theorem sList_l : sList S [.lst xs] = some (.lst xs) := rfl
@[simp] theorem mNewK_po : (mNewK env S).po Q X = Q (.ref S.length) (S ++ [obK []]) := rfl
@[simp] theorem keyD_i {i : Int} : keyD (.int i) = some (.inl i) := rfl
@[simp] theorem keyD_s {x : Str} : keyD (.str x) = some (.inr x) := rfl
@[simp] theorem mDGet_po {o i : M} : (mDGet o i env S).po Q X = (o env S).po (fun x S1 => (i env S1).po (fun y S2 => opo (dicE S2 x) fun es => opo (keyD y) fun k => opo (getE es k) fun d => Q d S2) X) X := by
  simp only [mDGet, po_bind]; congr; funext x S1; congr; funext y S2
  cases dicE S2 x with
  | none => rfl
  | some es => cases keyD y with
    | none => rfl
    | some k => simp
@[simp] theorem mDPut_fpo {o i v : M} {Q : Fl → Sto → Prop} : fpo (mDPut o i v env S) Q = (v env S).po (fun d S1 => (o env S1).po (fun x S2 => (i env S2).po (fun y S3 => match x with
    | .ref n => opo (keyD y) fun k => opo (dicE S3 (.ref n)) fun es => es.length < 1000000 ∧ Q (.nx env) (S3.set n (obK (putE es k d)))
    | _ => False) fun c p S => Q (.xc env c p) S) fun c p S => Q (.xc env c p) S) fun c p S => Q (.xc env c p) S := by
  simp only [mDPut, lft_fpo]; congr; funext d S1; congr; funext x S2; congr; funext y S3
  cases x with
  | ref n =>
    cases keyD y with
    | none => rfl
    | some k =>
      simp only [opo_some]
      cases dicE S3 (.ref n) with
      | none => rfl
      | some es =>
        simp only [opo_some]
        split
        · rename_i h; simp [h]
        · rename_i h; simp [h]
  | _ => rfl
end
end Ev

/-! Ev, part 19: enumerate of tuples, lists; zip; signs of a text; range with a step. -/
namespace EvT
open PySem AutoSeq1
/-! enumerate(tuple): how it is made, how it turns -/
theorem meets_enumT (l : Addr) (its : Array Value) :
    Meets (Builtin.«enumerate.__new__» ⟨[.type "enumerate", .ref l], []⟩) (fun _ R s => s.heap.IsTuple l its ∧
      R (.ok (.ret (.ref (s.heap.push { cls := .type "tuple_iterator", data := .fields #[.ref l, .int 0 0] }).objs.size)))
        { s with heap := Heap.push (s.heap.push { cls := .type "tuple_iterator", data := .fields #[.ref l, .int 0 0] }) { cls := .type "enumerate", data := .fields #[.none, .bool false, .ref s.heap.objs.size, rawInt 0, .none, .none] } }) :=
  .of_wp fun prog w A R s h => by
    obtain ⟨hp, g, d, tk, os⟩ := s; obtain ⟨hT, h⟩ := h
    have hs := sub_enumerate
    have hT' : Heap.IsTuple (Shared.heap ⟨hp, g, d, tk, os⟩) l its := hT
    wp_walk
    refine wpAny_stack_any fun st => wpAny_pure ?_
    split
    · rename_i c _ _ _ _ _
      cases (c == Value.type "enumerate") <;> (wp_walk using wpAny_pyIter_tuple hT'; exact ⟨_, rfl, h⟩)
    · wp_walk using wpAny_pyIter_tuple hT'
      exact ⟨_, rfl, h⟩
section
variable {prog : Program} {w : World} {A : Around} {E : Value → Shared → Prop} {s : Shared}
theorem call_enumT {l : Addr} {its : Array Value} {Q : Value → Shared → Prop} (hT : s.heap.IsTuple l its)
    (h : ∀ h', IsEnum h' (s.heap.objs.size + 1) s.heap.objs.size 0 .none → h'.IsTupleIter s.heap.objs.size l 0 →
      (∀ b o, s.heap.get? b = some o → h'.get? b = some o) → Q (.ref (s.heap.objs.size + 1)) { s with heap := h' }) :
    wpAny (model prog w) A (call (.type "enumerate") [.ref l]) Q E s := by
  refine callType_new F.called_enumerate (by decide) (F.typeCall_enumerate_1 _) (F.newCall_enumerate_1 _) (fun obj => F.args_object_init_2 obj _) F.entry_enumerate_new (meets_enumT l its) ⟨hT, ?_⟩
  generalize hh : s.heap.push { cls := .type "tuple_iterator", data := .fields #[.ref l, .int 0 0] } = h1
  have z1 : h1.objs.size = s.heap.objs.size + 1 := by rw [← hh]; exact Heap.size_push ..
  have i1 : h1.IsTupleIter s.heap.objs.size l 0 := by rw [← hh]; exact ⟨_, Heap.get?_push_size _ rfl, rfl, rfl⟩
  have k1 : ∀ b o, s.heap.get? b = some o → h1.get? b = some o := fun b o q => by rw [← hh]; exact Heap.get?_push_of_some _ q
  have e2 := Heap.get?_push_size h1 (o := { cls := .type "enumerate", data := .fields #[.none, .bool false, .ref s.heap.objs.size, rawInt 0, .none, .none] }) rfl
  rw [z1] at e2 ⊢
  exact ⟨⟨_, e2, rfl⟩, h _ e2 (i1.at fun o q => Heap.get?_push_of_some _ q) fun b o q => Heap.get?_push_of_some _ (k1 b o q)⟩
theorem drawsT (hh : A.handled = none) (it l : Addr) (hne : l ≠ it) (its : Array Value) :
    Draws prog w A it [it, l] its.size (fun i v => its[i]? = some v) (fun i h => h.IsTupleIter it l i ∧ h.IsTuple l its) where
  live := fun i h st => by obtain ⟨⟨o, q, _⟩, _⟩ := st; exact ⟨o, q⟩
  frame := fun i h h' st k => ⟨st.1.at fun o q => k it (by simp) o q, st.2.at fun o q => k l (by simp) o q⟩
  item := fun i s Q E hi st hQ => RZ.nextOf_tuple_item st.1 st.2 (x := its[i]) (by simp [hi]) fun h' a sb => hQ _ h' s.toks (by simp [hi]) ⟨a, st.2.extBut sb.extBut hne⟩ sb
  done := fun s Q E st hE => RZ.nextOf_tuple_end hh st.1 st.2 (by simp) hE
end
end EvT
namespace Ev
open PySem L2
/-- enumerate of the tuple at a -/
def IteT (K : PySem.W.Frag) (a : Addr) : It where
  go := fun i H => ∃ xs x, SqT K H a xs ∧ xs[i]? = some x
  yld := fun i H v H' => ∃ T x, v = .ref T ∧ H T = none ∧ H' = upd H T (.tup [.int (i : Nat), x]) ∧ ∀ xs, SqT K H a xs → xs[i]? = some x
  stop := fun i H => ∃ xs, SqT K H a xs ∧ xs.length ≤ i
theorem turn_enumT {P : Program} {w : World} {K : PySem.W.Frag} {elts : List Expr} {kk : Nat} {tpos : Pos} (a e it : Addr) :
    Turn P w K (.Tuple elts kk tpos) (IteT K a) [e, it] e (fun i h => (∃ old, IsEnum h e it ((i : Nat) : Int) old) ∧ h.IsTupleIter it a i ∧ e ≠ it) where
  mem := List.mem_cons_self
  obj := fun i h ⟨⟨old, he⟩, ⟨o, ho, hc, hd⟩, _⟩ b hb => by
    have : b = e ∨ b = it := by simpa using hb
    rcases this with rfl | rfl
    · exact ⟨_, he, fun v q => nomatch q⟩
    · exact ⟨o, ho, fun v q => by rw [hd] at q; cases q⟩
  keep := fun i h h' ⟨⟨old, he⟩, hi, hne⟩ k => ⟨⟨old, k e (by simp) _ he⟩, hi.at fun o q => k it (by simp) o q, hne⟩
  item := by
    intro X hP hw hK hc i pins s σ H E I hf ⟨⟨old, he⟩, hit, hne⟩ ⟨xs, x, hq, hx⟩
    subst hP; subst hw; subst hK
    obtain ⟨us, rv, p, _⟩ := I.tuple hq
    obtain ⟨u, hu, ru⟩ := rv.get hx
    obtain ⟨ot, hot, _⟩ := id hit
    have hel := Heap.lt_size he
    have hil := Heap.lt_size hot
    have hai : a ≠ it := fun z => by
      obtain ⟨o2, h2, c2, _⟩ := id p
      obtain ⟨o3, h3, c3, _⟩ := id hit
      rw [z, h3] at h2; cases h2
      rw [c3] at c2
      injection c2 with c2
      exact absurd c2 (by decide)
    have hae : a ≠ e := fun z => by
      obtain ⟨o2, h2, c2, _⟩ := id p
      rw [z, he] at h2; cases h2
      injection c2 with c2
      exact absurd c2 (by decide)
    have hi' : i < us.toArray.size := by
      have := (List.getElem?_eq_some_iff.mp hu).1
      simpa using this
    refine wpAny_pyNext_enum_itemD (EvT.drawsT (A := X.A.in1) (show X.A.in1.handled = none from I.ok.hd hc) it a hai us.toArray) he ⟨hit, p⟩ hi' hne (by simp [hne, Ne.symm hae]) fun y h1 tk hy ho st hT hsz hk => ?_
    have ey : y = u := by
      have : us.toArray[i]? = some u := by simpa using hu
      rw [this] at hy; cases hy; rfl
    subst ey
    refine ⟨_, rfl, wpAny_letOwnedTupleGo_enum (s := { s with heap := h1, toks := tk + 1 }) ho fun h2 he2 sb => ?_⟩
    have hT2 := (sb.2 s.heap.objs.size (Nat.ne_of_gt hel)).trans hT
    have ok : ObjOk X.prog X.w (upd H s.heap.objs.size (.tup [.int (i : Nat), x])) h2 s.heap.objs.size (.tup [.int (i : Nat), x]) :=
      ⟨by show 2 ≤ sizeLine; decide, _, .cons ⟨_, rfl⟩ (.cons ru .nil), ⟨_, hT2, rfl, _, rfl⟩⟩
    have J := I.turnedNew (t' := tk + 1) (ch := [e, it]) (h' := h2) (fun b o nb q => (sb.2 b fun z => nb (by simp [z])).trans (hk b o (fun z => nb (by simp [z])) (fun z => nb (by simp [z])) q)) hf (Nat.le_refl _) ok
    refine ⟨.ref s.heap.objs.size, _, J, rfl, ⟨_, x, rfl, I.hok.fresh (Nat.le_refl _), rfl, fun ys h => by rw [I.tuple_inj h hq]; exact hx⟩, ⟨⟨y, ?_⟩, st.1.at fun o q => (sb.2 it (Ne.symm hne)).trans q, hne⟩, fun b hb => ?_⟩
    · rw [show ((i + 1 : Nat) : Int) = (i : Int) + 1 by omega]
      exact he2
    · have : b = e ∨ b = it := by simpa using hb
      have lt : b < s.heap.objs.size := by
        rcases this with rfl | rfl
        · exact hel
        · exact hil
      rw [upd_ne (Nat.ne_of_lt lt)]
      exact (hf b hb).1
  done := by
    intro X hP hw hK hc i pins s σ H E I hf ⟨⟨old, he⟩, hit, hne⟩ ⟨xs, hq, hx⟩
    subst hP; subst hw; subst hK
    obtain ⟨us, rv, p, _⟩ := I.tuple hq
    have hai : a ≠ it := fun z => by
      obtain ⟨o2, h2, c2, _⟩ := id p
      obtain ⟨o3, h3, c3, _⟩ := id hit
      rw [z, h3] at h2; cases h2
      rw [c3] at c2
      injection c2 with c2
      exact absurd c2 (by decide)
    obtain ⟨f0, f1, f2, f3, f4, f5⟩ := hf it (by simp)
    have hT : s.TypeIs (.ref e) "enumerate" := ⟨_, he, rfl⟩
    unfold pyNext
    refine wpAny_bind (wpAny_attempt (wpAny_callSpecial?_slot (name := Str.ofString "__next__") hT F.slot_enumerate_next (wpAny_call_entry F.slot_enumerate_next hT F.entry_enumerate_next ?_ (F.args_enumerate_next_1 _))))
    show wpAny _ _ (field (.ref e) 2 >>= _) _ _ _
    refine wpAny_bind (wpAny_field he rfl (x := .ref it) rfl (wpAny_bind ?_))
    refine RZ.nextOf_tuple_end (show X.A.in1.handled = none from I.ok.hd hc) hit p (by have := rv.length; simp; omega) fun h1 y eb ⟨o, ho, hcl⟩ => ?_
    exact wpAny_bind (wpAny_isInstance (T := "StopIteration") (b := true) ⟨o, ho, hcl⟩ isSubtype_stop (wpAny_pure ⟨rfl, I.turned (t' := s.toks) (fun b o hb q => eb b o hb q) f0 f1 f3 f4 f5⟩))
  self := fun A i s Q E st h => let ⟨⟨_, he⟩, _⟩ := st; wpAny_pyIter_enum he h
def iEnumS (K : PySem.W.Frag) (ta : TA) : L2.TI := fun σ H R => ta σ H fun vs H1 => ∃ a xs, vs = [.ref a] ∧ ((SqL K H1 a xs ∧ R (Ite K a) H1) ∨ (SqT K H1 a xs ∧ R (IteT K a) H1))
section
variable {X : Cx} {W : WX}
theorem pi_enumS {e : Expr} {ta : TA} {p pos tpos : Pos} {elts : List Expr} {kk : Nat} (hm : X.mg "enumerate" = none) (ha : PA X [e] ta) (hg : Gl X "enumerate" := by rfl) (hs : starEach [e] X.env = [(false, eval e X.env)] := by rfl) :
    PI X (.Tuple elts kk tpos) (.Call (.Name "enumerate" p) [e] [] pos) (iEnumS X.K ta) := by
  refine ⟨fun pins s σ H R I h => PyProof.Rows.Call_ (ld_blt I hg hm PyProof.Rows.boot_enumerate (PyProof.Rows.callWith_type1 (thn (ha.run pos pins s σ H _ I h) fun us s1 ⟨vs, H1, I1, r1, q1⟩ => ?_) hs rfl))⟩
  obtain ⟨a, xs, rfl, q1⟩ := q1
  cases r1 with
  | cons r rr =>
    cases rr
    cases r
    have fp : ∀ b ∈ [s1.heap.objs.size + 1, s1.heap.objs.size], FpOk X pins H1 b := fun b hb => by
      have : s1.heap.objs.size ≤ b := by
        have : b = s1.heap.objs.size + 1 ∨ b = s1.heap.objs.size := by simpa using hb
        omega
      exact I1.fpOk this (I1.hok.fresh this)
    rcases q1 with ⟨hq, q⟩ | ⟨hq, q⟩
    · obtain ⟨us, rv, p', _⟩ := I1.list hq
      refine call_enumerate_list p'.isList fun h' he hit _ hk => wpAny_pyIter_enum he ?_
      exact ⟨_, _, _, _, H1, rfl, I1.kept (t' := s1.toks) hk, turn_enum a (s1.heap.objs.size + 1) s1.heap.objs.size, ⟨⟨.none, he⟩, hit, Nat.succ_ne_self _⟩, fp, q⟩
    · obtain ⟨us, rv, p', _⟩ := I1.tuple hq
      refine EvT.call_enumT (show s1.heap.IsTuple a us.toArray from p') fun h' he hit hk => wpAny_pyIter_enum he ?_
      exact ⟨_, _, _, _, H1, rfl, I1.kept (t' := s1.toks) hk, turn_enumT a (s1.heap.objs.size + 1) s1.heap.objs.size, ⟨⟨.none, he⟩, hit, Nat.succ_ne_self _⟩, fp, q⟩
/-- numbered items -/
def numD : Nat → List D → List D
  | _, [] => []
  | n, d :: ds => .tup [.int (n : Int), d] :: numD (n + 1) ds
theorem numD_get : ∀ {ds : List D} {n i : Nat} {x : D}, (numD n ds)[i]? = some x → ∃ d, ds[i]? = some d ∧ x = .tup [.int ((n + i : Nat) : Int), d]
  | [], _, _, _, h => by simp [numD] at h
  | d :: ds, n, 0, x, h => by simp only [numD, List.getElem?_cons_zero, Option.some.injEq] at h; exact ⟨d, rfl, by rw [← h]; rfl⟩
  | d :: ds, n, i + 1, x, h => by
    simp only [numD, List.getElem?_cons_succ] at h
    obtain ⟨e, h1, h2⟩ := numD_get h
    exact ⟨e, by simpa using h1, by rw [h2, show n + 1 + i = n + (i + 1) by omega]⟩
theorem numD_len : ∀ {ds : List D} {n : Nat}, (numD n ds).length = ds.length
  | [], _ => rfl
  | d :: ds, n => by simp [numD, numD_len (ds := ds)]
theorem pair_rep {G : GC} {B : Addr → Prop} {S : Sto} {ρ : List Addr} {H : Hp} {T : Addr} {c d : D} {u x : V} (s : SOk G B S ρ H) (n : H T = none) (rc : Rep G B ρ H c u) (r : Rep G B ρ H d x) : Same H (upd H T (.tup [u, x])) ∧ Rep G B ρ (upd H T (.tup [u, x])) (.tup [c, d]) (.ref T) :=
  ⟨same_laid n, new_tup s (by simp only [RepL]; exact ⟨_, _, rfl, rc, _, _, rfl, r, rfl⟩) n⟩
theorem src_enum {K : PySem.W.Frag} {mg : Str → Option Value} {B : Addr → Prop} {ρ : List Addr} {H : Hp} {a : Addr} {ds : List D} {vs : List V} (hq : ∀ ρ' H', Ext ρ H ρ' H' → SqL K H' a vs) (r : RepL ⟨K, mg⟩ B ρ H ds vs) : Src ⟨K, mg⟩ B (Ite K a) (numD 0 ds) ρ H where
  go := fun ρ' H' S e s i hi => by
    rw [numD_len] at hi
    exact ⟨vs, vs[i]'(by rw [← r.length]; exact hi), hq ρ' H' e, by simp⟩
  stop := fun ρ' H' S e s => ⟨vs, hq ρ' H' e, by rw [numD_len, r.length]; exact Nat.le_refl _⟩
  yld := fun ρ' H' S i x H2 d e s hd ⟨T, y, ex, hn, e2, hy⟩ => by
    obtain ⟨d1, h1, rfl⟩ := numD_get hd
    obtain ⟨v, h2, h3⟩ := (r.mono e).get h1
    have := hy vs (hq ρ' H' e)
    rw [h2] at this; cases this
    subst e2; subst ex
    rw [Nat.zero_add]
    exact pair_rep s hn (by simp only [Rep]) h3
theorem src_enumT {K : PySem.W.Frag} {mg : Str → Option Value} {B : Addr → Prop} {ρ : List Addr} {H : Hp} {a : Addr} {ds : List D} {vs : List V} (hq : ∀ ρ' H', Ext ρ H ρ' H' → SqT K H' a vs) (r : RepL ⟨K, mg⟩ B ρ H ds vs) : Src ⟨K, mg⟩ B (IteT K a) (numD 0 ds) ρ H where
  go := fun ρ' H' S e s i hi => by
    rw [numD_len] at hi
    exact ⟨vs, vs[i]'(by rw [← r.length]; exact hi), hq ρ' H' e, by simp⟩
  stop := fun ρ' H' S e s => ⟨vs, hq ρ' H' e, by rw [numD_len, r.length]; exact Nat.le_refl _⟩
  yld := fun ρ' H' S i x H2 d e s hd ⟨T, y, ex, hn, e2, hy⟩ => by
    obtain ⟨d1, h1, rfl⟩ := numD_get hd
    obtain ⟨v, h2, h3⟩ := (r.mono e).get h1
    have := hy vs (hq ρ' H' e)
    rw [h2] at this; cases this
    subst e2; subst ex
    rw [Nat.zero_add]
    exact pair_rep s hn (by simp only [Rep]) h3
def mEnum (m : ML) : ML := fun env S => (m env S).bind fun ds S1 => match ds with | [d] => Rs.of ((fixS d).map (numD 0)) S1 | _ => .err
theorem si_enum {e : Expr} {m : ML} {p pos tpos : Pos} {elts : List Expr} {kk : Nat} (hm : X.mg "enumerate" = none) (ha : SA X W [e] m) (hg : Gl X "enumerate" := by rfl) (hs : starEach [e] X.env = [(false, eval e X.env)] := by rfl) :
    SI X W (.Tuple elts kk tpos) (.Call (.Name "enumerate" p) [e] [] pos) (mEnum m) :=
  PI.imp (pi_enumS hm ha hg hs) fun σ H R h => by
    obtain ⟨B, env, S, ρ, eo, so, P⟩ := h
    refine ⟨B, env, S, ρ, eo, so, Post.mono P.bind (fun ds S1 ρ1 H1 e1 s1 P1 vs rs => ?_) (fun _ _ _ z => z)⟩
    split at P1
    · rename_i d
      obtain ⟨v, rfl, r1⟩ := repL1 rs
      cases d with
      | tup es =>
        obtain ⟨a, ws, rfl, h1, h2⟩ := tup_fix r1
        exact ⟨a, ws, rfl, .inr ⟨h1 ρ1 H1 Ext.refl, P1 ρ1 H1 Ext.refl s1 _ fun B' hB1 hB ρ2 H2 e2 => src_enumT (fun ρ' H' x => h1 ρ' H' (e2.trans x)) ((RepL.wide hB h2).mono e2)⟩⟩
      | lst es =>
        obtain ⟨a, ws, rfl, h1, h2⟩ := fixL_ok r1 rfl
        exact ⟨a, ws, rfl, .inl ⟨h1 ρ1 H1 Ext.refl, P1 ρ1 H1 Ext.refl s1 _ fun B' hB1 hB ρ2 H2 e2 => src_enum (fun ρ' H' x => h1 ρ' H' (e2.trans x)) ((RepL.wide hB h2).mono e2)⟩⟩
      | rol es =>
        obtain ⟨a, ws, rfl, h1, h2⟩ := fixL_ok r1 rfl
        exact ⟨a, ws, rfl, .inl ⟨h1 ρ1 H1 Ext.refl, P1 ρ1 H1 Ext.refl s1 _ fun B' hB1 hB ρ2 H2 e2 => src_enum (fun ρ' H' x => h1 ρ' H' (e2.trans x)) ((RepL.wide hB h2).mono e2)⟩⟩
      | _ => exact P1.elim
    · exact P1.elim
/-! zip of two lists, of two tuples -/
def zipD : List D → List D → List D
  | x :: xs, y :: ys => .tup [x, y] :: zipD xs ys
  | _, _ => []
theorem zipD_get : ∀ {xs ys : List D} {i : Nat} {z : D}, (zipD xs ys)[i]? = some z → ∃ x y, xs[i]? = some x ∧ ys[i]? = some y ∧ z = .tup [x, y]
  | [], _, _, _, h => by simp [zipD] at h
  | _ :: _, [], _, _, h => by simp [zipD] at h
  | x :: xs, y :: ys, 0, z, h => by simp only [zipD, List.getElem?_cons_zero, Option.some.injEq] at h; exact ⟨x, y, rfl, rfl, h.symm⟩
  | x :: xs, y :: ys, i + 1, z, h => by
    simp only [zipD, List.getElem?_cons_succ] at h
    obtain ⟨a, b, h1, h2, h3⟩ := zipD_get h
    exact ⟨a, b, by simpa using h1, by simpa using h2, h3⟩
theorem zipD_len : ∀ {xs ys : List D}, (zipD xs ys).length = min xs.length ys.length
  | [], _ => by simp [zipD]
  | _ :: _, [] => by simp [zipD]
  | x :: xs, y :: ys => by simp only [zipD, List.length_cons, zipD_len (xs := xs) (ys := ys)]; omega
theorem src_zip {K : PySem.W.Frag} {mg : Str → Option Value} {B : Addr → Prop} {ρ : List Addr} {H : Hp} {a b : Addr} {ds es : List D} {vs ws : List V} (hq : ∀ ρ' H', Ext ρ H ρ' H' → SqL K H' a vs) (hq2 : ∀ ρ' H', Ext ρ H ρ' H' → SqL K H' b ws) (r : RepL ⟨K, mg⟩ B ρ H ds vs) (r2 : RepL ⟨K, mg⟩ B ρ H es ws) : Src ⟨K, mg⟩ B (Itz K a b) (zipD ds es) ρ H where
  go := fun ρ' H' S e s i hi => by
    rw [zipD_len] at hi
    exact ⟨vs, ws, vs[i]'(by rw [← r.length]; omega), ws[i]'(by rw [← r2.length]; omega), hq ρ' H' e, hq2 ρ' H' e, by simp, by simp⟩
  stop := fun ρ' H' S e s => ⟨vs, ws, hq ρ' H' e, hq2 ρ' H' e, by rw [zipD_len, ← r.length, ← r2.length]; omega⟩
  yld := fun ρ' H' S i x H2 d e s hd ⟨T, y, z, ex, hn, e2, hy, hz⟩ => by
    obtain ⟨d1, d2, h1, h1', rfl⟩ := zipD_get hd
    obtain ⟨v, h2, h3⟩ := (r.mono e).get h1
    obtain ⟨v', h2', h3'⟩ := (r2.mono e).get h1'
    have t1 := hy vs (hq ρ' H' e)
    have t2 := hz ws (hq2 ρ' H' e)
    rw [h2] at t1; cases t1
    rw [h2'] at t2; cases t2
    subst e2; subst ex
    exact pair_rep s hn h3 h3'
theorem src_zipT {K : PySem.W.Frag} {mg : Str → Option Value} {B : Addr → Prop} {ρ : List Addr} {H : Hp} {a b : Addr} {ds es : List D} {vs ws : List V} (hq : ∀ ρ' H', Ext ρ H ρ' H' → SqT K H' a vs) (hq2 : ∀ ρ' H', Ext ρ H ρ' H' → SqT K H' b ws) (r : RepL ⟨K, mg⟩ B ρ H ds vs) (r2 : RepL ⟨K, mg⟩ B ρ H es ws) : Src ⟨K, mg⟩ B (RZ.ItzT K a b) (zipD ds es) ρ H where
  go := fun ρ' H' S e s i hi => by
    rw [zipD_len] at hi
    exact ⟨vs, ws, vs[i]'(by rw [← r.length]; omega), ws[i]'(by rw [← r2.length]; omega), hq ρ' H' e, hq2 ρ' H' e, by simp, by simp⟩
  stop := fun ρ' H' S e s => ⟨vs, ws, hq ρ' H' e, hq2 ρ' H' e, by rw [zipD_len, ← r.length, ← r2.length]; omega⟩
  yld := fun ρ' H' S i x H2 d e s hd ⟨T, y, z, ex, hn, e2, hy, hz⟩ => by
    obtain ⟨d1, d2, h1, h1', rfl⟩ := zipD_get hd
    obtain ⟨v, h2, h3⟩ := (r.mono e).get h1
    obtain ⟨v', h2', h3'⟩ := (r2.mono e).get h1'
    have t1 := hy vs (hq ρ' H' e)
    have t2 := hz ws (hq2 ρ' H' e)
    rw [h2] at t1; cases t1
    rw [h2'] at t2; cases t2
    subst e2; subst ex
    exact pair_rep s hn h3 h3'
def zipS (x y : D) : Option (List D) := match x, y with
  | .tup xs, .tup ys => some (zipD xs ys)
  | x, y => match fixL x, fixL y with | some xs, some ys => some (zipD xs ys) | _, _ => none
def mZip (m : ML) : ML := fun env S => (m env S).bind fun ds S1 => match ds with | [x, y] => Rs.of (zipS x y) S1 | _ => .err
theorem si_zip {e e2 : Expr} {m : ML} {p pos tpos : Pos} {elts : List Expr} {kk : Nat} (hm : X.mg "zip" = none) (ha : SA X W [e, e2] m) (hg : Gl X "zip" := by rfl)
    (hs : starEach [e, e2] X.env = (false, eval e X.env) :: starEach [e2] X.env := by rfl) (hpl : (backTo pos (starEach [e2] X.env)).any (·.1) = false := by rfl) :
    SI X W (.Tuple elts kk tpos) (.Call (.Name "zip" p) [e, e2] [] pos) (mZip m) :=
  PI.imp (RZ.pi_zipA hg hm ha hs hpl) fun σ H R h => by
    obtain ⟨B, env, S, ρ, eo, so, P⟩ := h
    refine ⟨B, env, S, ρ, eo, so, Post.mono P.bind (fun ds S1 ρ1 H1 e1 s1 P1 vs rs => ?_) (fun _ _ _ z => z)⟩
    split at P1
    · rename_i x y
      obtain ⟨v, w, rfl, r1, r2⟩ := repL2 rs
      unfold zipS at P1
      split at P1
      · obtain ⟨a, us, rfl, h1, h2⟩ := tup_fix r1
        obtain ⟨b, ws, rfl, h3, h4⟩ := tup_fix r2
        exact ⟨a, b, us, ws, rfl, .inr ⟨h1 ρ1 H1 Ext.refl, h3 ρ1 H1 Ext.refl, P1 ρ1 H1 Ext.refl s1 _ fun B' hB1 hB ρ2 H2 e2 => src_zipT (fun ρ' H' x => h1 ρ' H' (e2.trans x)) (fun ρ' H' x => h3 ρ' H' (e2.trans x)) ((RepL.wide hB h2).mono e2) ((RepL.wide hB h4).mono e2)⟩⟩
      · split at P1
        · rename_i xs ys q1 q2
          obtain ⟨a, us, rfl, h1, h2⟩ := fixL_ok r1 q1
          obtain ⟨b, ws, rfl, h3, h4⟩ := fixL_ok r2 q2
          exact ⟨a, b, us, ws, rfl, .inl ⟨h1 ρ1 H1 Ext.refl, h3 ρ1 H1 Ext.refl, P1 ρ1 H1 Ext.refl s1 _ fun B' hB1 hB ρ2 H2 e2 => src_zip (fun ρ' H' x => h1 ρ' H' (e2.trans x)) (fun ρ' H' x => h3 ρ' H' (e2.trans x)) ((RepL.wide hB h2).mono e2) ((RepL.wide hB h4).mono e2)⟩⟩
        · exact P1.elim
    · exact P1.elim
end
section
variable {S : Sto} {env : En} {Q : List D → Sto → Prop} {X : XQ}
@[simp] theorem mEnum_po {m : ML} : (mEnum m env S).po Q X = (m env S).po (fun ds S1 => match ds with | [d] => opo (fixS d) fun xs => Q (numD 0 xs) S1 | _ => False) X := by
  simp only [mEnum, po_bind]; congr; funext ds S1
  rcases ds with _ | ⟨d, _ | ⟨e, ds⟩⟩ <;> simp
@[simp] theorem mZip_po {m : ML} : (mZip m env S).po Q X = (m env S).po (fun ds S1 => match ds with | [x, y] => opo (zipS x y) fun xs => Q xs S1 | _ => False) X := by
  simp only [mZip, po_bind]; congr; funext ds S1
  rcases ds with _ | ⟨d, _ | ⟨e, _ | ⟨f, ds⟩⟩⟩ <;> simp
@[simp] theorem zipS_tt {xs ys : List D} : zipS (.tup xs) (.tup ys) = some (zipD xs ys) := rfl
@[simp] theorem zipS_ll {xs ys : List D} : zipS (.lst xs) (.lst ys) = some (zipD xs ys) := rfl
end
end Ev

/-! Ev, part 20: how properties, static methods keep their promise; calls of these; stars, steps, signs, tries that catch nothing. -/
namespace Ev
open PySem L2
section
variable {P : Program} {w : World} {K : PySem.W.Frag} {mg : Str → Option Value} {base : Heap} {k : Nat} {f C p : Addr} {fd : FuncData} {c x qual : Str} {prm : Arguments} {body : List Stmt} {scope : Scope} {N ps : List Str} {kws : List Shape} {m : MS}
theorem ProP.of (F : FunD K x qual prm body scope [] [] f fd) (hg : mg c = some (.ref C)) (hc : Cls K C) (hp : PropOf K C x p f) (h1 : ps.length = 1) (sc : FnScope N ps scope) (hb : Binds K fd ps [])
    (go : ∀ (cdv : Value) (A : Around) (outer : List Env) (s : Shared) (H : Hp) (E : XK), RoomG k (A.deeper (PyProof.Rows.envOfC qual scope s.heap.objs.size f cdv)) → SSs (cxOf (L2.CX P w) P w K mg base N qual scope f cdv A outer s H E) (WD E) body m) :
    ProP P w K mg base (k + 1) c x (runP N.length m) :=
  ⟨C, p, f, fd, ps, hg, hc, hp, h1, FnG.of F sc len_P fun cdv A outer s H vs Q E hr h => ⟨_, go cdv A outer s H E hr, body_P h⟩, hb⟩
/-- the static method m of the class c -/
structure StaP (P : Program) (w : World) (K : PySem.W.Frag) (mg : Str → Option Value) (base : Heap) (k : Nat) (c m : Str) (ps : List Str) (g : List D → Pr) (kws : List Shape) : Prop where
  ex : ∃ C f fd, mg c = some (.ref C) ∧ EvH.StaOf K C m f ∧ FnG P w K mg base k f fd ps (spP ⟨K, mg⟩ ps.length g) ∧ Binds K fd ps [] ∧ ∀ q ∈ kws, BindsK K fd ps q.1 q.2.1 q.2.2
theorem StaP.of (F : FunD K x qual prm body scope [] [] f fd) (hg : mg c = some (.ref C)) (hs : EvH.StaOf K C x f) (sc : FnScope N ps scope) (hb : Binds K fd ps []) (hk : ∀ q ∈ kws, BindsK K fd ps q.1 q.2.1 q.2.2)
    (go : ∀ (cdv : Value) (A : Around) (outer : List Env) (s : Shared) (H : Hp) (E : XK), RoomG k (A.deeper (PyProof.Rows.envOfC qual scope s.heap.objs.size f cdv)) → SSs (cxOf (L2.CX P w) P w K mg base N qual scope f cdv A outer s H E) (WD E) body m) :
    StaP P w K mg base (k + 1) c x ps (runP N.length m) kws :=
  ⟨C, f, fd, hg, hs, FnG.of F sc len_P fun cdv A outer s H vs Q E hr h => ⟨_, go cdv A outer s H E hr, body_P h⟩, hb, hk⟩
end
section
variable {X : Cx} {W : WX} {j k : Nat} {c f : Str} {ps : List Str} {kws : List Shape} {np apos pos : Pos} {e : Expr} {es : List Expr} {m mk : ML} {sp : Sp}
/-- the def that c.m stands for -/
theorem sta_get {C fa : Addr} (hs : EvH.StaOf X.K C f fa) (hg : Gl X c) (hm : X.mg c = some (.ref C)) (hdb : (c == ("__debug__" : Str)) = false) {pl : Sem Bool} {pins : List (Addr × Obj)} {σ : L2.St} {H : Hp} {s : Shared} (I : L2.Inv X pins σ H s)
    {Q : Value × List Value → Shared → Prop} (h : Q (.ref fa, []) { s with toks := s.toks + 1 }) : wpAny (model X.prog X.w) X.A (eval (.Name c np) X.env) (fun ov s1 => wpAny (model X.prog X.w) X.A (getMethod ov f pl) Q X.xe s1) X.xe s := by
  obtain ⟨p, rest, e1, e2⟩ := hs.at_
  obtain ⟨mm, F⟩ := I.fr
  exact ld_glob I hg hm (PySem.W.method_of_cls F I.ok.mod.kin hs.attr (PySem.W.cls_sm F I.ok.mod.kin hs.ty hs.reads e1 e2 rfl h)) hdb
theorem se_staP {nn : Nat} {g : List D → Pr} (F : StaP X.prog X.w X.K X.mg X.base j c f ps g kws) (hr : RoomG k X.A) (hj : j ≤ k) (tk : L2.Takes X W) (ha : SA X W (e :: es) m) (hg : Gl X c := by rfl) (hnn : ps.length = nn := by rfl) (hdb : (c == ("__debug__" : Str)) = false := by decide)
    {pl : Sem Bool} (hst : starEach (e :: es) X.env = (false, eval e X.env) :: starEach es X.env := by rfl) (hpl : (backTo pos (starEach es X.env)).any (·.1) = false := by rfl)
    (ht : eval (.Call (.Attribute (.Name c np) f apos) (e :: es) [] pos) X.env = (do
      let ov ← eval (.Name c np) X.env
      standAt apos.atName
      let (g, first) ← holding [ov] (getMethod ov f pl)
      callWith pos g first (backTo pos (starEach (e :: es) X.env)) (backToKw pos (keywordEach [] X.env))) := by rfl) : SE X W (.Call (.Attribute (.Name c np) f apos) (e :: es) [] pos) (mCallP nn g m) := by
  subst hnn
  obtain ⟨C, fa, fd, hm, hs, F1, hb, _⟩ := F.ex
  refine PE.imp (t := tCl (spP ⟨X.K, X.mg⟩ ps.length g) W (tA ⟨X.K, X.mg⟩ W m)) ⟨fun pins s σ H Q I h => ?_⟩ tE_clP
  refine PySem.W.methodCall_KW (pl := pl) (sta_get hs hg hm hdb I ?_) ht
  refine PySem.W.callWith_K (first := []) (h₀ := X.base) I.ok.mod.kin hs.kF ?_ hst hpl
  refine thn (ha.run pos pins _ σ H _ (I.tok (s.toks + 1)) h) fun us s1 ⟨vs, H1, I1, r, q⟩ => ⟨I1.kIn, ?_⟩
  have hl : (us ++ []).length = ps.length := by rw [List.append_nil, ← r.length]; exact F1.len _ _ _ _ q
  have bnd := hb s1 us I1.kIn hl
  rw [List.append_nil] at bnd
  exact call_back (F1.run (hr.mono hj) tk I1 bnd r q)
theorem se_staPK0 {nn : Nat} {g : List D → Pr} {kwl : List Keyword} {ks : List Str} {ix : List Nat} (F : StaP X.prog X.w X.K X.mg X.base j c f ps g kws) (hq : (0, ks, ix) ∈ kws) (hr : RoomG k X.A) (hj : j ≤ k) (tk : L2.Takes X W) (hkw : SK X W kwl mk) (hg : Gl X c := by rfl) (hnn : ps.length = nn := by rfl) (hdb : (c == ("__debug__" : Str)) = false := by decide)
    {pl : Sem Bool} (hall : (backToKw pos (keywordEach kwl X.env)).all (·.1.isSome) = true := by rfl) (hks : (backToKw pos (keywordEach kwl X.env)).filterMap (·.1) = ks := by rfl)
    (hpl : ((backTo pos (starEach [] X.env)).any (·.1) || (backToKw pos (keywordEach kwl X.env)).any (·.1.isNone)) = false := by rfl)
    (ht : eval (.Call (.Attribute (.Name c np) f apos) [] kwl pos) X.env = (do
      let ov ← eval (.Name c np) X.env
      standAt apos.atName
      let (g, first) ← holding [ov] (getMethod ov f pl)
      callWith pos g first (backTo pos (starEach [] X.env)) (backToKw pos (keywordEach kwl X.env))) := by rfl) : SE X W (.Call (.Attribute (.Name c np) f apos) [] kwl pos) (mCallP nn g (mKw 0 ks.length ix mNil mk)) := by
  subst hnn
  obtain ⟨C, fa, fd, hm, hs, F1, _, hb⟩ := F.ex
  refine PE.imp (t := tClK 0 ks.length ix (spP ⟨X.K, X.mg⟩ ps.length g) W tNil (tA ⟨X.K, X.mg⟩ W mk)) ⟨fun pins s σ H Q I h => ?_⟩ fun σ H Q h => ?_
  · refine PySem.W.methodCall_KW (pl := pl) (sta_get hs hg hm hdb I ?_) ht
    refine PySem.W.callWith_KW0 (first := []) (h₀ := X.base) I.ok.mod.kin hs.kF hall ?_ hpl
    refine thn (hkw.run pos pins _ σ H _ (I.tok (s.toks + 1)) h) fun ws s2 ⟨zs, H2, I2, r2, l1, l2, q2⟩ => ⟨I2.kIn, ?_⟩
    rw [hks]
    exact call_back (F1.run (hr.mono hj) tk I2 (hb _ hq s2 [] ws I2.kIn rfl (r2.length.symm.trans l2)) (perm_vals (Vals.append .nil r2) ix) q2)
  · obtain ⟨B, env, S, ρ, eo, so, P⟩ := tE_clPK σ H Q h
    exact P ρ H Ext.refl so [] (by simp only [RepL])
/-! methods with values by name -/
theorem se_metPK {nn : Nat} {g : List D → Pr} {o : Expr} {mo : M} {kwl : List Keyword} {ks : List Str} {ix : List Nat} (F : MetP X.prog X.w X.K X.mg X.base j c f ps g kws) (hq : (1, ks, ix) ∈ kws) (hr : RoomG k X.A) (hj : j ≤ k) (tk : L2.Takes X W) (ho : SE X W o mo) (hkw : SK X W kwl mk) (hnn : ps.length = nn := by rfl)
    {pl : Sem Bool} (hall : (backToKw pos (keywordEach kwl X.env)).all (·.1.isSome) = true := by rfl) (hks : (backToKw pos (keywordEach kwl X.env)).filterMap (·.1) = ks := by rfl)
    (hpl : ((backTo pos (starEach [] X.env)).any (·.1) || (backToKw pos (keywordEach kwl X.env)).any (·.1.isNone)) = false := by rfl)
    (ht : eval (.Call (.Attribute o f apos) [] kwl pos) X.env = (do
      let ov ← eval o X.env
      standAt apos.atName
      let (g, first) ← holding [ov] (getMethod ov f pl)
      callWith pos g first (backTo pos (starEach [] X.env)) (backToKw pos (keywordEach kwl X.env))) := by rfl) : SE X W (.Call (.Attribute o f apos) [] kwl pos) (mCallP nn g (mKw 1 ks.length ix (mSelf c f mo mNil) mk)) := by
  subst hnn
  obtain ⟨C, fa, fd, hm, hc, hme, F1, _, hb⟩ := F.ex
  refine ⟨fun pins s σ H Q I h => ?_⟩
  obtain ⟨B, env, S, ρ, eo, so, P⟩ := h
  have z : tE ⟨X.K, X.mg⟩ W mo σ H fun v H1 => ∃ a dx fs, v = .ref a ∧ H1 a = some (.ins C dx fs) ∧ fs.lookup f = none ∧ tA ⟨X.K, X.mg⟩ W mk σ H1 fun zs H2 => zs.length = ks.length ∧ spP ⟨X.K, X.mg⟩ ps.length g (perm ix ([v] ++ zs)) H2 Q (L2.WE W σ) := by
    refine ⟨B, env, S, ρ, eo, so, Post.mono P.bind.bind.bind (fun d S1 ρ1 H1 e1 s1 P1 v rv => ?_) (fun _ _ _ z => z)⟩
    split at P1
    · rename_i hok
      obtain ⟨a, C', dx, fs, rfl, h1, h3, hl⟩ := okIns_ok s1 rv hok
      rw [show X.mg c = some (.ref C') from h3] at hm
      cases hm
      refine ⟨a, dx, fs, rfl, h1, hl, B, env, S1, ρ1, eo.mono e1, s1, ?_⟩
      have P2 := (Post.bind P1) ρ1 H1 Ext.refl s1
      have P3 := P2 ρ1 H1 Ext.refl s1
      refine Post.mono (Post.bind P3) (fun es S2 ρ2 H2 e2 s2 P4 zs rs => ?_) (fun _ _ _ z => z)
      split at P4
      · rename_i hz
        simp only [Bool.and_eq_true] at hz
        exact ⟨by rw [← rs.length]; exact Nat.eq_of_beq_eq_true hz.2, spP_of s2 (perm_rep (RepL.append (show RepL ⟨X.K, X.mg⟩ B ρ2 H2 [d] [V.ref a] by simp only [RepL]; exact ⟨_, _, rfl, rv.mono e2, rfl⟩) rs) ix) (P4 ρ2 H2 Ext.refl s2)⟩
      · exact P4.elim
    · exact P1.elim
  refine PySem.W.methodCall_KW (pl := pl) (thn (ho.run pins s σ H _ I z) fun u s1 ⟨x, H1, I1, rx, a, dx, fs, ex, ea, l, q⟩ => ?_) ht
  subst ex
  obtain rfl : u = Value.ref a := rx
  refine getmeth_ok I1 ea hc hme l ?_
  refine PySem.W.callWith_KW0 (first := [.ref a]) (h₀ := X.base) I.ok.mod.kin hme.kp hall ?_ hpl
  refine thn (hkw.run pos pins s1 σ H1 _ I1 q) fun ws s2 ⟨zs, H2, I2, r2, l2, q2⟩ => ⟨I2.kIn, ?_⟩
  rw [hks]
  exact call_back (F1.run (hr.mono hj) tk I2 (hb _ hq s2 [.ref a] ws I2.kIn rfl (r2.length.symm.trans l2)) (perm_vals (Vals.append (show Vals [V.ref a] [Value.ref a] from .cons rfl .nil) r2) ix) q2)
/-! stars in displays, in calls -/
def mStar (a : M) (r : ML) : ML := fun env S => (a env S).bind fun d S1 => match seqOf S1 d with
  | some xs => (r env S1).bind fun ys S2 => .ok (xs ++ ys) S2
  | none => .err
theorem sa_star {a : Expr} {sp_ : Pos} {rest : List Expr} {ma : M} {mr : ML} (h1 : SE X W a ma) (h2 : SA X W rest mr) (hs : starEach (.Starred a sp_ :: rest) X.env = (true, eval a X.env) :: starEach rest X.env := by rfl) : SA X W (.Starred a sp_ :: rest) (mStar ma mr) :=
  PA.imp (StX.pa_star h1 h2 hs) fun σ H Q h => by
    obtain ⟨B, env, S, ρ, eo, so, P⟩ := h
    refine ⟨B, env, S, ρ, eo, so, Post.mono P.bind (fun d S1 ρ1 H1 e1 s1 P1 v r => ?_) (fun _ _ _ z => z)⟩
    split at P1
    · rename_i xs q
      obtain ⟨a, vs, rfl, hq, h2⟩ := seqOf_ok s1 r q
      refine ⟨a, vs, rfl, hq.symm, B, env, S1, ρ1, eo.mono e1, s1, Post.mono P1.bind (fun ds S2 ρ2 H2 e2 s2 P2 ws rs => ?_) (fun _ _ _ z => z)⟩
      exact P2 ρ2 H2 Ext.refl s2 _ ((h2.mono e2).append rs)
    · exact P1.elim
/-! signs of a text -/
def chrD (x : Str) : List D := x.cps.toList.map fun c => .str ⟨#[c]⟩
def mItC (m : M) : ML := fun env S => (m env S).bind fun d S1 => match d with | .str x => .ok (chrD x) S1 | _ => .err
theorem si_str {l tg : Expr} {m : M} (hl : SE X W l m) : SI X W tg l (mItC m) :=
  PI.imp (pi_str hl) fun σ H R h => by
    obtain ⟨B, env, S, ρ, eo, so, P⟩ := h
    refine ⟨B, env, S, ρ, eo, so, Post.mono P.bind (fun d S1 ρ1 H1 e1 s1 P1 v r => ?_) (fun _ _ _ z => z)⟩
    split at P1
    · rename_i x
      simp only [Rep] at r
      refine ⟨x, r, P1 ρ1 H1 Ext.refl s1 _ fun B' hB1 hB ρ2 H2 e2 => ⟨fun ρ' H' S e s i hi => ?_, fun ρ' H' S e s => ?_, fun ρ' H' S i y H3 d e s hd hy => ?_⟩⟩
      · show i < x.cps.size
        simpa [chrD] using hi
      · show x.cps.size ≤ _
        simp [chrD]
      · obtain ⟨rfl, c, h1, rfl⟩ := hy
        simp only [chrD, List.getElem?_map, Option.map_eq_some_iff] at hd
        obtain ⟨c', h2, rfl⟩ := hd
        have : x.cps[i]? = some c' := by simpa using h2
        rw [h1] at this; cases this
        exact ⟨Same.refl _, by simp only [Rep]⟩
    · exact P1.elim
/-! range with a step -/
def stepD (lo c : Int) (n : Nat) : List D := (List.range n).map fun (i : Nat) => D.int (lo + (i : Int) * c)
def mRng3 (m : ML) : ML := fun env S => (m env S).bind fun ds S1 => match ds with
  | [.int i, .int j, .int c] => if decide (c ≠ 0) && (Nat.blt c.natAbs 1073741824 && (Builtin.Range.small i j c && decide (0 ≤ Builtin.Range.rangeSize i j c))) then .ok (stepD i c (Builtin.Range.rangeSize i j c).toNat) S1 else .err
  | _ => .err
theorem si_range3 {a b d tg : Expr} {m : ML} {p pos : Pos} (hm : X.mg "range" = none) (ha : SA X W [a, b, d] m) (hg : Gl X "range" := by rfl) (hs : starEach [a, b, d] X.env = (false, eval a X.env) :: starEach [b, d] X.env := by rfl) (hpl : (backTo pos (starEach [b, d] X.env)).any (·.1) = false := by rfl) :
    SI X W tg (.Call (.Name "range" p) [a, b, d] [] pos) (mRng3 m) :=
  PI.imp (pi_range3 hg hm ha hs hpl) fun σ H R h => by
    obtain ⟨B, env, S, ρ, eo, so, P⟩ := h
    refine ⟨B, env, S, ρ, eo, so, Post.mono P.bind (fun ds S1 ρ1 H1 e1 s1 P1 vs rs => ?_) (fun _ _ _ z => z)⟩
    split at P1
    · rename_i i j c
      split at P1
      · rename_i hz
        simp only [Bool.and_eq_true, decide_eq_true_eq] at hz
        simp only [RepL, Rep] at rs
        obtain ⟨_, _, rfl, rfl, _, _, rfl, rfl, _, _, rfl, rfl, rfl⟩ := rs
        refine ⟨i, j, c, (Builtin.Range.rangeSize i j c).toNat, rfl, ⟨hz.1, Nat.le_of_ble_eq_true hz.2.1, hz.2.2.1, (Int.toNat_of_nonneg hz.2.2.2).symm⟩, P1 ρ1 H1 Ext.refl s1 _ fun B' hB1 hB ρ2 H2 e2 => ⟨fun ρ' H' S e s t ht => ?_, fun ρ' H' S e s => ?_, fun ρ' H' S t y H3 d e s hd hy => ?_⟩⟩
        · show t < _
          simpa [stepD] using ht
        · show _ ≤ _
          simp [stepD]
        · obtain ⟨rfl, rfl⟩ := hy
          simp only [stepD, List.getElem?_map, Option.map_eq_some_iff] at hd
          obtain ⟨t', h1, rfl⟩ := hd
          obtain ⟨h2, h3⟩ := List.getElem?_eq_some_iff.mp h1
          simp at h3
          subst h3
          exact ⟨Same.refl _, by simp only [Rep]⟩
      · exact P1.elim
    · exact P1.elim
/-! a try whose body raises nothing -/
def mTryN (b : MS) : MS := fun env S => match b env S with | some (.xc _ _ _, _) => none | r => r
theorem ss_tryN {body : List Stmt} {h₀ : ExceptHandler} {hs : List ExceptHandler} {mb : MS} (hb : SSs X.nox W0 body mb) : SS X W (.Try body (h₀ :: hs) [] [] pos) (mTryN mb) :=
  PS.imp (ps_try_thru0 hb) fun D σ H h => by
    obtain ⟨B, env, S, ρ, eo, so, P⟩ := h
    refine ⟨B, env, S, ρ, eo, so, ?_⟩
    unfold mTryN at P
    cases q : mb env S with
    | none => rw [q] at P; exact P
    | some r =>
      obtain ⟨f, S'⟩ := r
      rw [q] at P
      cases f with
      | xc e' c p => exact P.elim
      | nx e' => exact P
      | rt d => exact P
      | bk e' => exact P
      | ct e' => exact P
/-! f'..{x}..', x a text or an int -/
def fmtS (d : D) : Option Str := match d with | .str y => if room y.length then some y else none | .int i => if cShow i then some (toString i) else none | _ => none
def mFmt (m : M) : M := fun env S => (m env S).bind fun d S1 => Rs.of ((fmtS d).map .str) S1
theorem se_fmt {a : Expr} {ma : M} (ha : SE X W a ma) : SE X W (.FormattedValue a (-1) none pos) (mFmt ma) :=
  PE.imp (pe_fmt ha) fun σ H Q h => by
    obtain ⟨B, env, S, ρ, eo, so, P⟩ := h
    refine ⟨B, env, S, ρ, eo, so, Post.mono P.bind (fun d S1 ρ1 H1 e1 s1 P1 v r => ?_) (fun _ _ _ z => z)⟩
    unfold fmtS at P1
    split at P1
    · rename_i y
      split at P1
      · rename_i hz
        simp only [Rep] at r
        exact .inl ⟨y, r, room_le hz, P1 ρ1 H1 Ext.refl s1 _ (by simp only [Rep])⟩
      · exact P1.elim
    · rename_i i
      split at P1
      · rename_i hz
        simp only [Rep] at r
        exact .inr ⟨i, r, Nat.le_of_ble_eq_true hz, P1 ρ1 H1 Ext.refl s1 _ (by simp only [Rep])⟩
      · exact P1.elim
    · exact P1.elim
/-- two parts -/
def mJs2 (a b : M) : M := fun env S => (a env S).bind fun x S1 => match x with
  | .str y => if room (Str.empty ++ y).length then (b env S1).bind fun z S2 => (match z with | .str u => if room ((Str.empty ++ y) ++ u).length then .ok (.str ((Str.empty ++ y) ++ u)) S2 else .err | _ => .err) else .err
  | _ => .err
theorem se_js2 {a b : Expr} {ma mb : M} (ha : SE X W a ma) (hb : SE X W b mb) : SE X W (.JoinedStr [a, b] pos) (mJs2 ma mb) :=
  PE.imp (pe_joined (.cons ha (.cons hb .nil))) fun σ H Q h => by
    obtain ⟨B, env, S, ρ, eo, so, P⟩ := h
    refine ⟨B, env, S, ρ, eo, so, Post.mono P.bind (fun d S1 ρ1 H1 e1 s1 P1 v r => ?_) (fun _ _ _ z => z)⟩
    split at P1
    · rename_i y
      split at P1
      · rename_i hz
        simp only [Rep] at r
        refine ⟨y, r, room_le hz, B, env, S1, ρ1, eo.mono e1, s1, Post.mono P1.bind (fun d2 S2 ρ2 H2 e2 s2 P2 v2 r2 => ?_) (fun _ _ _ z => z)⟩
        split at P2
        · rename_i u
          split at P2
          · rename_i hz2
            simp only [Rep] at r2
            exact ⟨u, r2, room_le hz2, P2 ρ2 H2 Ext.refl s2 _ (by simp only [Rep])⟩
          · exact P2.elim
        · exact P2.elim
      · exact P1.elim
    · exact P1.elim
end
/-- a tuple of the module -/
def dvD : He.Dv → Option D | .non => some .non | .bl b => some (.bl b) | .int i => some (.int i) | .str x => some (.str x) | _ => none
def dvsD : List He.Dv → Option (List D)
  | [] => some []
  | d :: r => match dvD d, dvsD r with | some x, some xs => some (x :: xs) | _, _ => none
theorem dvs_rep {G : GC} {B : Addr → Prop} {ρ : List Addr} {H : Hp} : ∀ {vs : List He.Dv} {ds : List D}, dvsD vs = some ds → RepL G B ρ H ds (vs.map (He.Dv.v G.K))
  | [], _, h => by cases h; simp only [List.map_nil, RepL]
  | v :: vs, _, h => by
    simp only [dvsD] at h
    split at h
    · rename_i x xs e1 e2
      cases h
      simp only [List.map_cons, RepL]
      refine ⟨_, _, rfl, ?_, dvs_rep e2⟩
      cases v <;> first | (cases e1; simp only [Rep, He.Dv.v]) | (cases e1)
    · cases h
theorem KD.ofTup {K : PySem.W.Frag} {mg : Str → Option Value} {x : Str} {vs : List He.Dv} {ds : List D} (hg : mg x = some (.ref (He.ga K x))) (h : He.tupB K x vs = true) (e : dvsD vs = some ds) : KD K mg x (.tup ds) := by
  refine ⟨_, .ref (He.ga K x), hg, rfl, fun B ρ H => ?_⟩
  simp only [Rep]
  refine ⟨_, vs.map (He.Dv.v K), rfl, .inr ?_, dvs_rep (G := ⟨K, mg⟩) e⟩
  rcases He.tupB_ok h (fun _ => none) with (z | ⟨o, z⟩) | z
  · cases z
  · cases z
  · exact z
section
variable {S : Sto} {env : En} {X : XQ}
@[simp] theorem mStar_po {a : M} {r : ML} {Q : List D → Sto → Prop} : (mStar a r env S).po Q X = (a env S).po (fun d S1 => opo (seqOf S1 d) fun xs => (r env S1).po (fun ys S2 => Q (xs ++ ys) S2) X) X := by
  simp only [mStar, po_bind]; congr; funext d S1
  cases seqOf S1 d <;> simp
@[simp] theorem mItC_po {m : M} {Q : List D → Sto → Prop} : (mItC m env S).po Q X = (m env S).po (fun d S1 => match d with | .str x => Q (chrD x) S1 | _ => False) X := by
  simp only [mItC, po_bind]; congr; funext d S1
  cases d <;> rfl
@[simp] theorem mRng3_po {m : ML} {Q : List D → Sto → Prop} : (mRng3 m env S).po Q X = (m env S).po (fun ds S1 => match ds with
  | [.int i, .int j, .int c] => (c ≠ 0 ∧ Nat.blt c.natAbs 1073741824 = true ∧ Builtin.Range.small i j c = true ∧ 0 ≤ Builtin.Range.rangeSize i j c) ∧ Q (stepD i c (Builtin.Range.rangeSize i j c).toNat) S1
  | _ => False) X := by
  simp only [mRng3, po_bind]; congr; funext ds S1
  split
  · simp only [po_ite, po_ok, po_err]
    split
    · rename_i h
      simp only [Bool.and_eq_true, decide_eq_true_eq] at h
      exact propext ⟨fun q => ⟨h, q⟩, fun q => q.2⟩
    · rename_i h
      simp only [Bool.and_eq_true, decide_eq_true_eq] at h
      exact propext ⟨fun q => q.elim, fun q => (h q.1).elim⟩
  · rfl
@[simp] theorem mFmt_po {m : M} {Q : D → Sto → Prop} : (mFmt m env S).po Q X = (m env S).po (fun d S1 => opo (fmtS d) fun x => Q (.str x) S1) X := by simp [mFmt]
theorem mTryN_fpo {b : MS} {Q : Fl → Sto → Prop} : fpo (mTryN b env S) Q = fpo (b env S) fun f S' => match f with | .xc _ _ _ => False | f => Q f S' := by
  unfold mTryN
  cases q : b env S with
  | none => rfl
  | some r =>
    obtain ⟨f, S'⟩ := r
    cases f <;> rfl
end
@[simp] theorem mProp_po {c : Str} {g : List D → Pr} {o : M} {env : En} {S : Sto} {Q : D → Sto → Prop} {X : XQ} : (mProp c g o env S).po Q X = (o env S).po (fun d S1 => opo (insOf S1 d) fun i => (i.1 = c ∧ noRef d = true) ∧ (g [d]).po (fun v => Q v S1) fun _ _ => False) X := by
  simp only [mProp, po_bind]; congr; funext d S1
  cases insOf S1 d with
  | none => rfl
  | some i =>
    obtain ⟨c', ns, ds⟩ := i
    simp only [opo_some]
    split
    · rename_i h
      cases g [d] <;> simp [h]
    · rename_i h
      simp only [po_err, false_iff, h, false_and]
end Ev

/-! Ev, part 21: x += .., what loops walk (any kind), methods of texts and lists. -/
namespace Ev
open PySem L2
section
variable {X : Cx} {W : WX}
/-- x += e, ints -/
def mAug (sem : Int → Int → Int) (i : Nat) (m : M) : MS := fun env S => match env[i]? with
  | some (some (.int a)) => lft (m env S) env fun d S1 => (match d with | .int b => some (.nx (env.set i (some (.int (sem a b)))), S1) | _ => none)
  | _ => none
theorem ss_aug {op : Operator} {sem : Int → Int → Int} {x : Str} {e : Expr} {m : M} {pos pos' : Pos} (i : Nat) (ho : PIp X op (ipI sem)) (hN : X.N.Nodup) (he : SE X W e m) (hi : X.N[i]? = some x := by rfl) (hx : Loc X.env.scope x := by first | exact Or.inl rfl | exact Or.inr rfl)
    (hf : X.fn x = true ∨ X.env.scope.names.lookup x = some .local := by first | exact .inl rfl | exact .inr rfl | assumption) : SS X W (.AugAssign (.Name x pos') op e pos) (mAug sem i m) :=
  PS.imp (ps_aug hN hi hx he ho hf) fun D σ H h => by
    obtain ⟨B, env, S, ρ, eo, so, P⟩ := h
    unfold mAug at P
    split at P
    · rename_i a he
      obtain ⟨v, h1, r⟩ := eo.at_ i _ he
      simp only [Rep] at r
      subst r
      refine ⟨_, h1, B, env, S, ρ, eo, so, Post.mono (PostS.lft P eo) (fun d S1 ρ1 H1 e1 s1 P1 w rw_ => ?_) (fun _ _ _ z => z)⟩
      split at P1
      · rename_i b
        simp only [Rep] at rw_
        subst rw_
        exact ⟨a, b, rfl, rfl, P1 _ ρ1 H1 Ext.refl s1 ((eo.mono e1).set (d := .int (sem a b)) (v := .int (sem a b)) (by simp only [Rep]) i)⟩
      · exact P1.elim
    · exact P.elim
/-- what can be walked: a tuple, a list that is not written, a text -/
def itX : D → Option (List D) | .str x => some (chrD x) | d => fixS d
def mItX (m : M) : ML := fun env S => (m env S).bind fun d S1 => Rs.of (itX d) S1
theorem si_any {l tg : Expr} {m : M} (hl : SE X W l m) : SI X W tg l (mItX m) := PI.imp (SI.or (si_seq hl) (si_str hl)) fun σ H R h => by
  obtain ⟨B, env, S, ρ, eo, so, P⟩ := h
  refine ⟨B, env, S, ρ, eo, so, ?_⟩
  have e : (match mItS m env S with | .err => mItC m env S | r => r) = mItX m env S := by
    unfold mItS mItC mItX
    cases q : m env S with
    | err => rfl
    | exc c p S1 => rfl
    | ok d S1 => cases d <;> rfl
  rw [← e] at P
  exact P
/-! methods of built-in kinds that write nothing -/
def strQ (_ : Sto) (d : D) : Bool := match d with | .str _ => true | _ => false
def lstQ (S : Sto) (d : D) : Bool := (lstOf S d).isSome
abbrev TyQ (X : Cx) (T : String) (q : Sto → D → Bool) : Prop := ∀ {B ρ H S d v}, SOk ⟨X.K, X.mg⟩ B S ρ H → Rep ⟨X.K, X.mg⟩ B ρ H d v → q S d = true → tyV X.K T v H
theorem strQ_ok : TyQ X "str" strQ := fun {B ρ H S d v} s r h => by
  cases d with
  | str x => simp only [Rep] at r; subst r; exact rfl
  | _ => cases h
theorem lstQ_ok : TyQ X "list" lstQ := fun {B ρ H S d v} s r h => by
  obtain ⟨ds, e⟩ := Option.isSome_iff_exists.mp h
  obtain ⟨a, vs, rfl, h1, _⟩ := lstOf_ok s r e
  exact .inl ⟨rfl, vs, h1⟩
def rMtOf (G : GC) (sem : Sto → D → List D → Option D) : V → List V → Hp → VK → Prop := fun x xs H Q => ∃ B S ρ d ds, SOk G B S ρ H ∧ Rep G B ρ H d x ∧ RepL G B ρ H ds xs ∧ ∃ y, sem S d ds = some y ∧
  ∀ ρ' H' v, Ext ρ H ρ' H' → SOk G B S ρ' H' → Rep G B ρ' H' y v → Q v H'
abbrev VMt (X : Cx) (id : String) (sem : Sto → D → List D → Option D) : Prop := MtR X id (rMtOf ⟨X.K, X.mg⟩ sem)
def mBM (q : Sto → D → Bool) (sem : Sto → D → List D → Option D) (o : M) (m : ML) : M := fun env S => (o env S).bind fun d S1 => if q S1 d then (m env S1).bind fun ds S2 => Rs.of (sem S2 d ds) S2 else .err
theorem se_bm {T id : String} {q : Sto → D → Bool} {sem : Sto → D → List D → Option D} {o e : Expr} {es : List Expr} {name : Str} {apos cpos : Pos} {mo : M} {m : ML} (tq : TyQ X T q) (pa : PlainAttrs T) (slot : Slot T name id) (hty : typeOf (.builtin id) = pure (.type "method_descriptor")) (hm : VMt X id sem) (ho : SE X W o mo) (ha : SA X W (e :: es) m)
    (hbase : attributeBase o name X.env (eval o X.env) = eval o X.env := by rfl)
    (hfew : ((backTo cpos (starEach (e :: es) X.env)).all (fun x => !x.1) && (backToKw cpos (keywordEach [] X.env)).all (fun x => x.1.isSome)
      && decide ((e :: es).length + ([] : List Keyword).length + (if ([] : List Keyword).isEmpty then 0 else 1) < 30)) = true := by rfl)
    (hline : (apos.endLine == cpos.line) = true := by rfl) (hs : starEach (e :: es) X.env = (false, eval e X.env) :: starEach es X.env := by rfl) (hplain : (backTo cpos (starEach es X.env)).any (·.1) = false := by rfl) :
    SE X W (.Call (.Attribute o name apos) (e :: es) [] cpos) (mBM q sem mo m) :=
  PE.imp (pe_bm pa slot hty hm ho ha hbase hfew hline hs hplain) fun σ H Q h => by
    obtain ⟨B, env, S, ρ, eo, so, P⟩ := h
    refine ⟨B, env, S, ρ, eo, so, Post.mono P.bind (fun d S1 ρ1 H1 e1 s1 P1 v r => ?_) (fun _ _ _ z => z)⟩
    split at P1
    · rename_i hq
      refine ⟨tq s1 r hq, B, env, S1, ρ1, eo.mono e1, s1, Post.mono P1.bind (fun ds S2 ρ2 H2 e2 s2 P2 vs rs => ?_) (fun _ _ _ z => z)⟩
      cases q2 : sem S2 d ds with
      | none => rw [q2] at P2; exact P2.elim
      | some y =>
        rw [q2] at P2
        exact ⟨B, S2, ρ2, d, ds, s2, r.mono e2, rs, y, q2, fun ρ' H' v e s r => P2 ρ' H' e s v r⟩
    · exact P1.elim
/-- a.split(b) -/
theorem rep_strs {G : GC} {B : Addr → Prop} {ρ : List Addr} {H : Hp} : ∀ is : List Str, RepL G B ρ H (is.map .str) (is.map V.str)
  | [] => by simp only [List.map_nil, RepL]
  | i :: is => by simp only [List.map_cons, RepL, Rep]; exact ⟨_, _, rfl, rfl, rep_strs is⟩
def sSplit (_ : Sto) : D → List D → Option D
  | .str a, [.str b] => if b.length ≠ 0 ∧ a.length ≤ 16000000 then some (.lst ((Txt.split a b).map .str)) else none
  | _, _ => none
theorem vm_split : VMt X "str.split" sSplit := by
  intro pins s σ H x xs v us Q I rx rv ⟨B, S, ρ, d, ds, so, r, rs, y, he, k⟩
  unfold sSplit at he
  split at he
  · split at he
    · rename_i a b hz
      cases he
      obtain ⟨u, rfl, r1⟩ := repL1 rs
      simp only [Rep] at r r1
      subst r r1
      refine mt_split pins s σ H _ _ v us Q I rx rv ⟨a, b, rfl, rfl, by simpa using hz.1, by rw [sizeLine_eq]; omega, fun p hp => ?_⟩
      exact k ρ _ _ (Ext.laid hp) (so.laid hp) (new_lst so (rep_strs _) hp)
    · cases he
  · cases he
theorem se_split {o e : Expr} {apos cpos : Pos} {mo : M} {me : M} (ho : SE X W o mo) (he : SE X W e me) (hbase : attributeBase o "split" X.env (eval o X.env) = eval o X.env := by rfl)
    (hfew : ((backTo cpos (starEach [e] X.env)).all (fun x => !x.1) && (backToKw cpos (keywordEach [] X.env)).all (fun x => x.1.isSome)
      && decide (([e] : List Expr).length + ([] : List Keyword).length + (if ([] : List Keyword).isEmpty then 0 else 1) < 30)) = true := by rfl)
    (hline : (apos.endLine == cpos.line) = true := by rfl) (hs : starEach [e] X.env = (false, eval e X.env) :: starEach [] X.env := by rfl) (hplain : (backTo cpos (starEach [] X.env)).any (·.1) = false := by rfl) :
    SE X W (.Call (.Attribute o "split" apos) [e] [] cpos) (mBM strQ sSplit mo (mCons me mNil)) :=
  se_bm strQ_ok PySem.F.plainAttrs_str PySem.F.slot_str_split PySem.F.type_str_split vm_split ho (sa_cons he sa_nil hs) hbase hfew hline hs hplain
/-- xs.insert(i, e), xs a list of the store -/
def mIns (o i e : M) : M := fun env S => match o env S with
  | .ok (.ref n) S1 => match S1[n]? with
    | some (.lst _) => (i env S1).bind fun a S2 => (e env S2).bind fun d S3 => match a, S3[n]? with
      | .int k, some (.lst ds) => if room ds.length && (decide (0 ≤ k) && Nat.blt k.toNat 1000000000) then .ok .non (S3.set n (.lst (ds.take k.toNat ++ [d] ++ ds.drop k.toNat))) else .err
      | _, _ => .err
    | _ => .err
  | _ => .err
theorem se_ins {o i e : Expr} {mo mi me : M} {apos cpos : Pos} (ho : SE X W o mo) (hi : SE X W i mi) (he : SE X W e me) (hbase : attributeBase o "insert" X.env (eval o X.env) = eval o X.env := by rfl)
    (hfew : ((backTo cpos (starEach [i, e] X.env)).all (fun x => !x.1) && (backToKw cpos (keywordEach [] X.env)).all (fun x => x.1.isSome)
      && decide (([i, e] : List Expr).length + ([] : List Keyword).length + (if ([] : List Keyword).isEmpty then 0 else 1) < 30)) = true := by rfl)
    (hline : (apos.endLine == cpos.line) = true := by rfl) (hs : starEach [i, e] X.env = (false, eval i X.env) :: starEach [e] X.env := by rfl) (hs2 : starEach [e] X.env = (false, eval e X.env) :: starEach [] X.env := by rfl) (hplain : (backTo cpos (starEach [e] X.env)).any (·.1) = false := by rfl) :
    SE X W (.Call (.Attribute o "insert" apos) [i, e] [] cpos) (mIns mo mi me) :=
  PE.imp (pe_bm PySem.F.plainAttrs_list PySem.F.slot_list_insert PySem.F.type_list_insert mt_insert ho (pa_cons hi (pa_cons he pa_nil hs2) hs) hbase hfew hline hs hplain) fun σ H Q h => by
    obtain ⟨B, env, S, ρ, eo, so, P⟩ := h
    unfold mIns at P
    split at P
    · rename_i n S1 q
      split at P
      · rename_i ds0 q0
        refine ⟨B, env, S, ρ, eo, so, ?_⟩
        rw [q]
        refine fun ρ1 H1 e1 s1 vo ro => ?_
        have ro' := ro
        simp only [Rep] at ro'
        obtain ⟨a, rfl, hn⟩ := ro'
        obtain ⟨vs0, h0, _⟩ := s1.ob _ _ _ q0 hn
        refine ⟨.inl ⟨rfl, _, SqL.of h0⟩, B, env, S1, ρ1, eo.mono e1, s1, Post.mono (Post.bind (Post.ext1 P e1)) (fun x S2 ρ2 H2 e2 s2 P2 vx rx => ⟨B, env, S2, ρ2, (eo.mono e1).mono e2, s2, Post.mono P2.bind (fun d S3 ρ3 H3 e3 s3 P3 vd rd => ?_) (fun _ _ _ z => z)⟩) (fun _ _ _ z => z)⟩
        split at P3
        · rename_i k ds q3
          split at P3
          · rename_i hz
            simp only [Bool.and_eq_true, decide_eq_true_eq] at hz
            have hk := Nat.le_of_ble_eq_true hz.2.2
            simp only [Rep] at rx
            subst rx
            have hn3 := e3.pre n a (e2.pre n a hn)
            obtain ⟨vs, h1, h2⟩ := s3.ob _ _ _ q3 hn3
            have hm : a ∈ ρ3 := List.mem_iff_getElem?.mpr ⟨n, hn3⟩
            refine ⟨a, vs, k, vd, rfl, rfl, h1, by rw [← h2.length]; exact Nat.lt_of_le_of_lt (Nat.le_of_ble_eq_true hz.1) (by rw [sizeLine_eq]; decide), hz.2.1, by omega, ?_⟩
            have h3 := h2.mono (Ext.write (o := .lst (vs.take k.toNat ++ [vd] ++ vs.drop k.toNat)) hm)
            exact P3 ρ3 _ (Ext.write hm) (s3.write hn3 ⟨_, upd_same, ((h3.take _).append (by simp only [RepL]; exact ⟨vd, [], rfl, rd.mono (Ext.write hm), rfl⟩)).append (h3.drop _)⟩) _ (by simp only [Rep])
          · exact P3.elim
        · exact P3.elim
      · exact P.elim
    · exact P.elim
end
section
variable {S : Sto} {env : En} {X : XQ}
@[simp] theorem itX_s {x : Str} : itX (.str x) = some (chrD x) := rfl
@[simp] theorem itX_l {xs : List D} : itX (.lst xs) = some xs := rfl
@[simp] theorem itX_r {xs : List D} : itX (.rol xs) = some xs := rfl
@[simp] theorem itX_t {xs : List D} : itX (.tup xs) = some xs := rfl
@[simp] theorem mItX_po {m : M} {Q : List D → Sto → Prop} : (mItX m env S).po Q X = (m env S).po (fun d S1 => opo (itX d) fun ds => Q ds S1) X := by simp [mItX]
@[simp] theorem mBM_po {q : Sto → D → Bool} {sem : Sto → D → List D → Option D} {o : M} {m : ML} {Q : D → Sto → Prop} : (mBM q sem o m env S).po Q X = (o env S).po (fun d S1 => q S1 d = true ∧ (m env S1).po (fun ds S2 => opo (sem S2 d ds) fun y => Q y S2) X) X := by
  simp only [mBM, po_bind]; congr; funext d S1
  cases h : q S1 d <;> simp
@[simp] theorem mAug_fpo {sem : Int → Int → Int} {i : Nat} {m : M} {Q : Fl → Sto → Prop} : fpo (mAug sem i m env S) Q = (match env[i]? with
  | some (some (.int a)) => (m env S).po (fun d S1 => match d with | .int b => Q (.nx (env.set i (some (.int (sem a b))))) S1 | _ => False) fun c p S => Q (.xc env c p) S
  | _ => False) := by
  unfold mAug
  split
  · rename_i a h
    simp only [lft_fpo]; congr; funext d S1
    cases d <;> rfl
  · rfl
end
end Ev
namespace Ev
open PySem L2
/-- what isinstance(.., c) asks of an own class -/
structure InsF (K : PySem.W.Frag) (mg : Str → Option Value) (c : Str) : Prop where
  ex : ∃ C, mg c = some (.ref C) ∧ EvH.InsOf K C
def isC (c : Str) (S : Sto) (d : D) : Option Bool := match insOf S d with
  | some (c', _, _) => if c' = c then some true else none
  | none => (match tyD S d with | some _ => some false | none => none)
def sIsiO (c : Str) (S : Sto) : List D → Option D
  | [d, .glo x] => if x = c then (isC c S d).map .bl else none
  | _ => none
theorem tyD_kinds {S : Sto} {d : D} {t : String} (h : tyD S d = some t) : t ∈ EvH.kinds := by
  unfold tyD at h
  split at h <;> first | (cases h; decide) | (split at h <;> first | (cases h; decide) | cases h) | cases h
theorem call_sIsiO {X : Cx} {c : Str} (F : InsF X.K X.mg c) : VCall X (.builtin "isinstance") (sIsiO c) := by
  obtain ⟨C, hC, I0⟩ := F.ex
  intro pins s σ H xs us Q I r ⟨B, S, ρ, ds, so, rs, d, he, k⟩
  unfold sIsiO at he
  split at he
  · rename_i d0 x
    split at he
    · rename_i hx
      subst hx
      simp only [Option.map_eq_some_iff] at he
      obtain ⟨b, he, rfl⟩ := he
      obtain ⟨v, w, rfl, r1, r2⟩ := repL2 rs
      simp only [Rep] at r2
      obtain ⟨uu, h1, h2⟩ := r2
      have hu : uu = .ref C := by
        rcases h1 with h1 | ⟨h1, _⟩
        · have : X.mg x = some uu := h1
          rw [hC] at this; cases this; rfl
        · have : X.mg x = none := h1
          rw [hC] at this; cases this
      subst hu
      have hw : w = .ref C := by
        cases w with
        | ref n => cases (show Value.ref C = Value.ref n from h2); rfl
        | ty n => exact nomatch h2
        | non => exact nomatch h2
        | bl b => exact nomatch h2
        | int _ => obtain ⟨_, z⟩ := h2; exact nomatch z
        | str _ => obtain ⟨_, z⟩ := h2; exact nomatch z
        | byt _ => obtain ⟨_, z⟩ := h2; exact nomatch z
        | flt _ => obtain ⟨_, z⟩ := h2; exact nomatch z
      subst hw
      unfold isC at he
      split at he
      · rename_i c' ns es hi
        split at he
        · rename_i hc
          subst hc
          cases he
          obtain ⟨a, C', dx, fs, rfl, e1, e2, _, _⟩ := insOf_ok so r1 hi
          rw [show X.mg c' = some (.ref C') from e2] at hC
          cases hC
          exact call_isi pins s σ H _ us Q I r ⟨.ref a, .ref C, .ref C, .ref C, true, rfl, .own C, .base (.ins e1 I0.cl I0.ha I0.hn I0.htk I0.hm), I0.me, k ρ H _ Ext.refl so (by simp only [Rep])⟩
        · cases he
      · split at he
        · rename_i t ht
          cases he
          exact call_isi pins s σ H _ us Q I r ⟨v, .ref C, .type t, .ref C, false, rfl, .own C, tyD_ok so r1 ht, I0.no t (tyD_kinds ht), k ρ H _ Ext.refl so (by simp only [Rep])⟩
        · cases he
    · cases he
  · cases he
@[simp] theorem sIsiO_obj {c : Str} {S : Sto} {ns : List Str} {xs : List D} : sIsiO c S [.obj c ns xs, .glo c] = some (.bl true) := by simp [sIsiO, isC]
end Ev
namespace Ev
open PySem L2
theorem se_gloI {X : Cx} {W : WX} {x : Str} {pos : Pos} (F : InsF X.K X.mg x) (hg : Gl X x := by rfl) (hd : (x == ("__debug__" : Str)) = false := by decide) : SE X W (.Name x pos) (mC (.glo x)) := by
  obtain ⟨C, hC, _⟩ := F.ex
  exact se_glo hC (v := .ref C) rfl hg hd
end Ev

/-! Ev, part 22: in, deep. -/
namespace Ev
open PySem L2
theorem units66 {k : Nat} {A : Around} (r : L2.Room k A) : A.units + 66 < cLine := by have := r.un; omega
section
variable {X : Cx} {W : WX}
/-- x in a list of data of any depth -/
def sInDB (S : Sto) (x y : D) : Option Bool := match sInB S x y with
  | some b => some b
  | none => match pyTop S x, pyTop S y with
    | some d, some (.list ds) => if SeqAt.shaped d && SeqAt.shaped (.list ds) then some (ds.any fun z => PyData.eqv z d) else none
    | _, _ => none
def sInX (S : Sto) (x y : D) : Option D := (sInDB S x y).map .bl
def sNotInX (S : Sto) (x y : D) : Option D := (sInDB S x y).map fun b => .bl !b
theorem op_sInX (hu : X.A.units + 66 < cLine) : VOp X (compareOp .In) sInX := by
  intro pins s σ H x y v u Q I rx ry ⟨B, S, ρ, dx, dy, so, hx, hy, d, he, k⟩
  unfold sInX at he
  simp only [Option.map_eq_some_iff] at he
  obtain ⟨b, he, rfl⟩ := he
  unfold sInDB at he
  split at he
  · rename_i b' e
    cases he
    exact op_sIn pins s σ H x y v u Q I rx ry ⟨B, S, ρ, dx, dy, so, hx, hy, .bl b, by simp [sIn, e], k⟩
  · split at he
    · rename_i p ds e1 e2
      split at he
      · rename_i hz
        cases he
        simp only [Bool.and_eq_true] at hz
        exact op_inD (by omega) pins s σ H _ _ v u Q I rx ry ⟨p, ds, dp_top so hx e1, dp_top so hy e2, hz.1, hz.2, k ρ H _ Ext.refl so (by simp only [Rep])⟩
      · cases he
    · cases he
theorem op_sNotInX (hu : X.A.units + 66 < cLine) : VOp X (compareOp .NotIn) sNotInX := by
  intro pins s σ H x y v u Q I rx ry ⟨B, S, ρ, dx, dy, so, hx, hy, d, he, k⟩
  unfold sNotInX at he
  simp only [Option.map_eq_some_iff] at he
  obtain ⟨b, he, rfl⟩ := he
  unfold sInDB at he
  split at he
  · rename_i b' e
    cases he
    exact op_sNotIn pins s σ H x y v u Q I rx ry ⟨B, S, ρ, dx, dy, so, hx, hy, .bl !b, by simp [sNotIn, e], k⟩
  · split at he
    · rename_i p ds e1 e2
      split at he
      · rename_i hz
        cases he
        simp only [Bool.and_eq_true] at hz
        exact op_notInD (by omega) pins s σ H _ _ v u Q I rx ry ⟨p, ds, dp_top so hx e1, dp_top so hy e2, hz.1, hz.2, k ρ H _ Ext.refl so (by simp only [Rep])⟩
      · cases he
    · cases he
/-- a list of ints in a list of lists of ints -/
theorem eqvI : ∀ xs ys : List Int, PyData.eqvAll (xs.map .int) (ys.map .int) = decide (xs = ys)
  | [], [] => by simp [PyData.eqvAll]
  | [], y :: ys => by simp [PyData.eqvAll]
  | x :: xs, [] => by simp [PyData.eqvAll]
  | x :: xs, y :: ys => by
    simp [PyData.eqvAll, PyData.eqv, eqvI xs ys]; rfl
end
end Ev

/-! Ev, part 23: equality and in, of tuples and lists of ints (plain). -/
namespace Ev
open PySem L2
mutual
theorem frz_nr {S : Sto} : ∀ {d : D}, noRef d = true → frz S d = some d
  | .non, _ => rfl
  | .bl _, _ => rfl
  | .int _, _ => rfl
  | .str _, _ => rfl
  | .tup ds, h => by
    simp only [noRef] at h
    simp only [frz, frzL_nr h, Option.map_some]
  | .lst ds, h => by simp only [noRef] at h; simp only [frz, h, if_true]
  | .rol ds, h => by simp only [noRef] at h; simp only [frz, h, if_true]
  | .obj _ _ ds, h => by simp only [noRef] at h; simp only [frz, h, if_true]
  | .dic _ ds, h => by simp only [noRef] at h; simp only [frz, h, if_true]
  | .exn _ _ ds, h => by simp only [noRef] at h; simp only [frz, h, if_true]
  | .glo _, _ => rfl
theorem frzL_nr {S : Sto} : ∀ {ds : List D}, noRefs ds = true → frzL S ds = some ds
  | [], _ => rfl
  | d :: ds, h => by
    simp only [noRefs, Bool.and_eq_true] at h
    simp only [frzL, frz_nr h.1, frzL_nr h.2]
end
section
variable {S : Sto}
theorem pyAllI : ∀ xs : List Int, pyAll S (xs.map .int) = some (xs.map .int)
  | [] => rfl
  | x :: xs => by simp [pyAll, pyOf, pyAllI xs]
theorem layI : ∀ xs : List Int, PyData.canLayAll0 (xs.map .int) = true
  | [] => rfl
  | x :: xs => by simp [PyData.canLayAll0, PyData.canLay0, layI xs]
theorem depI : ∀ xs : List Int, PyData.depthAll (xs.map .int) = 0
  | [] => rfl
  | x :: xs => by simp [PyData.depthAll, PyData.depth, depI xs]
theorem shTI (xs : List Int) : SeqAt.shaped (.tuple (xs.map .int)) = true := by simp [SeqAt.shaped, PyData.canLay0, layI, PyData.depth, depI]
theorem shLI (xs : List Int) : SeqAt.shaped (.list (xs.map .int)) = true := by simp [SeqAt.shaped, PyData.canLay0, layI, PyData.depth, depI]
theorem eqvTI (xs ys : List Int) : PyData.eqv (.tuple (xs.map .int)) (.tuple (ys.map .int)) = decide (xs = ys) := by simp [PyData.eqv, eqvI]
theorem eqvLI (xs ys : List Int) : PyData.eqv (.list (xs.map .int)) (.list (ys.map .int)) = decide (xs = ys) := by simp [PyData.eqv, eqvI]
/-- what stands for a list of ints -/
def isLI (S : Sto) (d : D) (xs : List Int) : Prop := pyTop S d = some (.list (xs.map .int))
theorem isLI_lst (xs : List Int) : isLI S (.lst (xs.map .int)) xs := by simp [isLI, pyTop, pyOf, pyAllI]
theorem isLI_ref {n : Nat} {xs : List Int} (h : S[n]? = some (.lst (xs.map .int))) : isLI S (.ref n) xs := by simp [isLI, pyTop, h, pyAllI]
theorem sEqTI (xs ys : List Int) : sEq S (.tup (xs.map .int)) (.tup (ys.map .int)) = some (.bl (decide (xs = ys))) := by
  simp [sEq, sEqB, sEqD, pyTop, pyOf, pyAllI, shTI, eqvTI]
theorem sNeTI (xs ys : List Int) : sNe S (.tup (xs.map .int)) (.tup (ys.map .int)) = some (.bl (!decide (xs = ys))) := by
  simp [sNe, sEqB, sEqD, pyTop, pyOf, pyAllI, shTI, eqvTI]
@[simp] theorem sEqT2 (a b a' b' : Int) : sEq S (.tup [.int a, .int b]) (.tup [.int a', .int b']) = some (.bl (decide (a = a' ∧ b = b'))) := by
  have := sEqTI (S := S) [a, b] [a', b']
  simpa using this
@[simp] theorem sNeT2 (a b a' b' : Int) : sNe S (.tup [.int a, .int b]) (.tup [.int a', .int b']) = some (.bl (!decide (a = a' ∧ b = b'))) := by
  have := sNeTI (S := S) [a, b] [a', b']
  simpa using this
@[simp] theorem sEqT3 (a b c a' b' c' : Int) : sEq S (.tup [.int a, .int b, .int c]) (.tup [.int a', .int b', .int c']) = some (.bl (decide (a = a' ∧ b = b' ∧ c = c'))) := by
  have := sEqTI (S := S) [a, b, c] [a', b', c']
  simpa using this
@[simp] theorem sNeT3 (a b c a' b' c' : Int) : sNe S (.tup [.int a, .int b, .int c]) (.tup [.int a', .int b', .int c']) = some (.bl (!decide (a = a' ∧ b = b' ∧ c = c'))) := by
  have := sNeTI (S := S) [a, b, c] [a', b', c']
  simpa using this
theorem lf {d e : D} {xs ys : List Int} (h1 : isLI S d xs) (h2 : isLI S e ys) (n1 : ∀ i, d ≠ .int i) (n2 : ∀ i, d ≠ .str i) : sEqB S d e = some (decide (xs = ys)) := by
  unfold isLI at h1 h2
  have : sEqB S d e = sEqD S d e := by
    unfold sEqB
    split
    · rename_i i _; exact absurd rfl (n1 i)
    · rename_i i _; exact absurd rfl (n2 i)
    · rfl
  rw [this]
  simp [sEqD, h1, h2, shLI, eqvLI]
/-- a list of ints in a list of two such lists -/
theorem isLI_nm {d : D} {xs : List Int} (h : isLI S d xs) : vOf d = none := by
  unfold isLI at h
  cases d <;> first | rfl | (simp [pyTop, pyOf] at h)
theorem inX2 {d : D} {xs ys zs : List Int} (h : isLI S d xs) : sNotInX S d (.lst [.lst (ys.map .int), .lst (zs.map .int)]) = some (.bl (!(decide (ys = xs) || decide (zs = xs)))) := by
  have e := isLI_nm h
  unfold isLI at h
  have sh : SeqAt.shaped (.list [.list (ys.map .int), .list (zs.map .int)]) = true := by simp [SeqAt.shaped, PyData.canLay0, PyData.canLayAll0, layI, PyData.depth, PyData.depthAll, depI]
  have pt : pyTop S (.lst [.lst (ys.map .int), .lst (zs.map .int)]) = some (.list [.list (ys.map .int), .list (zs.map .int)]) := by simp [pyTop, pyOf, pyAll, pyAllI]
  simp only [sNotInX, sInDB, sInB, e, h, pt, shLI, sh, Bool.and_self, if_true, Option.map_some, List.any_cons, List.any_nil, eqvLI, Bool.or_false]
theorem vsOfI : ∀ xs : List Int, vsOf (xs.map .int) = some (xs.map V.int)
  | [] => rfl
  | x :: xs => by simp [vsOf, vOf, vsOfI xs]
theorem inVI (x : Int) : ∀ xs : List Int, inV (.int x) (xs.map V.int) = decide (x ∈ xs)
  | [] => rfl
  | y :: ys => by
    have := inVI x ys
    simp only [inV, List.map_cons, List.any_cons, eqV, List.mem_cons] at this ⊢
    rw [this]
    by_cases h : x = y
    · subst h; simp
    · have : ¬ y = x := fun z => h z.symm
      simp [h, this]
theorem inI {d : D} {x : Int} {xs : List Int} (h : seqOf S d = some (xs.map .int)) : sIn S (.int x) d = some (.bl (decide (x ∈ xs))) := by
  simp [sIn, sInB, vOf, h, vsOfI, inVI]
theorem notInI {d : D} {x : Int} {xs : List Int} (h : seqOf S d = some (xs.map .int)) : sNotIn S (.int x) d = some (.bl (!decide (x ∈ xs))) := by
  simp [sNotIn, sInB, vOf, h, vsOfI, inVI]
end
end Ev

/-! Ev, part 24: displays of dicts with ints and texts as keys. -/
namespace Ev
open PySem L2
/-- the pairs, from the left -/
def mPairs : List (M × M) → En → Sto → Rs (List (Key × D))
  | [], _, S => .ok [] S
  | (a, b) :: r, env, S => (a env S).bind fun x S1 => (b env S1).bind fun y S2 => match keyD x with
    | some k => (mPairs r env S2).bind fun es S3 => .ok ((k, y) :: es) S3
    | none => .err
def mergeE (es more : List (Key × D)) : List (Key × D) := more.foldl (fun acc kv => putE acc kv.1 kv.2) es
/-- {k: v, ..} -/
def mDisp (ms : List (M × M)) : M := fun env S => (mPairs ms env (S ++ [obK []])).bind fun es S1 => match dicE S1 (.ref S.length) with
  | some [] => .ok (.ref S.length) (S1.set S.length (obK (mergeE [] es)))
  | _ => .err
/-- the pairs as they stand -/
def PsRep (G : GC) (B : Addr → Prop) (ρ : List Addr) (H : Hp) (es : List (Key × D)) (kvs : List (Key × V)) : Prop := kvs.map (·.1) = es.map (·.1) ∧ RepL G B ρ H (es.map (·.2)) (kvs.map (·.2))
theorem merge_ok {G : GC} {B : Addr → Prop} {ρ : List Addr} {H : Hp} : ∀ {more : List (Key × D)} {mk : List (Key × V)} {es : List (Key × D)} {kvs : List (Key × V)}, PsRep G B ρ H more mk → PsRep G B ρ H es kvs → PsRep G B ρ H (mergeE es more) (mergeK kvs mk)
  | [], [], _, _, _, h => h
  | [], _ :: _, _, _, ⟨h, _⟩, _ => by simp at h
  | _ :: _, [], _, _, ⟨h, _⟩, _ => by simp at h
  | (k, d) :: more, (k', v) :: mk, es, kvs, ⟨h1, h2⟩, ⟨h3, h4⟩ => by
    simp only [List.map_cons, List.cons.injEq] at h1
    obtain ⟨rfl, h1⟩ := h1
    simp only [List.map_cons, RepL] at h2
    obtain ⟨v', w, e, r1, r2⟩ := h2
    cases e
    have := merge_ok (more := more) (mk := mk) (es := putE es k' d) (kvs := putK kvs k' v) ⟨h1, r2⟩ (putE_ok (k := k') r1 h3 h4)
    exact this
section
variable {X : Cx} {W : WX}
theorem pairs_ok {B : Addr → Prop} {env : En} {σ : St} : ∀ {ms : List (M × M)} {S : Sto} {ρ : List Addr} {H : Hp} {Q : List (V × V) → Hp → Prop}, EnvOk ⟨X.K, X.mg⟩ B ρ H env σ → SOk ⟨X.K, X.mg⟩ B S ρ H →
    Post ⟨X.K, X.mg⟩ B ρ H (mPairs ms env S) (fun es _ ρ' H' => es.length = ms.length → ∀ kvs, PsRep ⟨X.K, X.mg⟩ B ρ' H' es kvs → Q (kvs.map fun kv => (kV kv.1, kv.2)) H') (fun C d H' => W (.ref C) d σ H') →
    tPairs (ms.map fun p => (tE ⟨X.K, X.mg⟩ W p.1, tE ⟨X.K, X.mg⟩ W p.2)) σ H Q
  | [], S, ρ, H, Q, eo, so, P => P ρ H Ext.refl so rfl [] ⟨rfl, by simp only [List.map_nil, RepL]⟩
  | (a, b) :: r, S, ρ, H, Q, eo, so, P => by
    show tE ⟨X.K, X.mg⟩ W a σ H _
    refine ⟨B, env, S, ρ, eo, so, Post.mono P.bind (fun x S1 ρ1 H1 e1 s1 P1 vx rx => ⟨B, env, S1, ρ1, eo.mono e1, s1, Post.mono P1.bind (fun y S2 ρ2 H2 e2 s2 P2 vy ry => ?_) (fun _ _ _ z => z)⟩) (fun _ _ _ z => z)⟩
    split at P2
    · rename_i k hk
      have ek := keyD_ok (rx.mono e2) hk
      subst ek
      refine pairs_ok ((eo.mono e1).mono e2) s2 (Post.mono P2.bind (fun es S3 ρ3 H3 e3 s3 P3 hl kvs pr => ?_) (fun _ _ _ z => z))
      exact P3 ρ3 H3 Ext.refl s3 (by simp [hl]) ((k, vy) :: kvs) ⟨by simp only [List.map_cons, pr.1], by
        simp only [List.map_cons, RepL]
        exact ⟨_, _, rfl, ry.mono e3, pr.2⟩⟩
    · exact P2.elim
theorem se_disp {ms : List (M × M)} {keys : List (Option Expr)} {values : List Expr} {pos : Pos} (h : PPs X pos keys values (ms.map fun p => (tE ⟨X.K, X.mg⟩ W p.1, tE ⟨X.K, X.mg⟩ W p.2))) (hall : keys.all (·.isSome) = true := by rfl) (hl : keys.length = values.length := by rfl) (h0 : keys ≠ [] := by simp)
    (h15 : keys.length ≤ 15 := by decide) (hm : ms.length = keys.length := by rfl) : SE X W (.Dict keys values pos) (mDisp ms) := PE.imp (pe_disp h hall hl h0 h15) fun σ H Q h p hp => by
  obtain ⟨B, env, S, ρ, eo, so, P⟩ := h
  have s1 : SOk ⟨X.K, X.mg⟩ B (S ++ [obK []]) (ρ ++ [p]) (upd H p (.dK [])) := so.push hp ⟨[], upd_same, rfl, by simp only [obK, List.map_nil, RepL]⟩
  have e1 : Ext ρ H (ρ ++ [p]) (upd H p (.dK [])) := Ext.push hp
  have hn : (ρ ++ [p])[S.length]? = some p := by rw [← so.len]; simp
  refine pairs_ok (eo.mono e1) s1 (Post.mono (Post.bind (Post.ext1 P e1)) (fun es S2 ρ2 H2 e2 s2 P2 hl kvs pr => ?_) (fun _ _ _ z => z))
  split at P2
  · rename_i q
    have rp : Rep ⟨X.K, X.mg⟩ B ρ2 H2 (.ref S.length) (.ref p) := by
      simp only [Rep]
      exact ⟨p, rfl, e2.pre _ _ hn⟩
    obtain ⟨a, kvs0, ea, h1, h2, h3⟩ := dicE_ok s2 rp q
    cases ea
    have : kvs0 = [] := by simpa using h2
    subst this
    refine ⟨h1, kvs, rfl, ?_, ?_⟩
    · have := congrArg List.length pr.1
      simp only [List.length_map] at this
      omega
    · have hm2 : p ∈ ρ2 := List.mem_iff_getElem?.mpr ⟨_, e2.pre _ _ hn⟩
      have ew : Ext ρ2 H2 ρ2 (upd H2 p (.dK (mergeK [] kvs))) := Ext.write hm2
      have mo := merge_ok (⟨pr.1, pr.2.mono ew⟩ : PsRep ⟨X.K, X.mg⟩ B ρ2 (upd H2 p (.dK (mergeK [] kvs))) es kvs) (es := []) (kvs := []) ⟨rfl, by simp only [List.map_nil, RepL]⟩
      refine P2 ρ2 _ ew (s2.write (e2.pre _ _ hn) ⟨mergeK [] kvs, upd_same, mo.1, mo.2⟩) _ ?_
      simp only [Rep]
      exact ⟨p, rfl, e2.pre _ _ hn⟩
  · exact P2.elim
theorem sp_nil {pos : Pos} : PPs X pos [] [] (([] : List (M × M)).map fun p => (tE ⟨X.K, X.mg⟩ W p.1, tE ⟨X.K, X.mg⟩ W p.2)) := pps_nil
theorem sp_cons {pos : Pos} {k v : Expr} {ks : List (Option Expr)} {vs : List Expr} {a b : M} {ms : List (M × M)} (hk : SE X W k a) (hv : SE X W v b) (hr : PPs X pos ks vs (ms.map fun p => (tE ⟨X.K, X.mg⟩ W p.1, tE ⟨X.K, X.mg⟩ W p.2))) :
    PPs X pos (some k :: ks) (v :: vs) (((a, b) :: ms).map fun p => (tE ⟨X.K, X.mg⟩ W p.1, tE ⟨X.K, X.mg⟩ W p.2)) := pps_cons hk hv hr
end
section
variable {Q : D → Sto → Prop} {X : XQ} {env : En} {S : Sto}
@[simp] theorem mDisp1_po {a b : M} : (mDisp [(a, b)] env S).po Q X = (a env (S ++ [obK []])).po (fun x S1 => (b env S1).po (fun y S2 => opo (keyD x) fun k => opo (dicE S2 (.ref S.length)) fun es => es = [] ∧ Q (.ref S.length) (S2.set S.length (obK [(k, y)]))) X) X := by
  simp only [mDisp, mPairs, po_bind]
  congr; funext x S1; congr; funext y S2
  cases keyD x with
  | none => rfl
  | some k =>
    simp only [Rs.bind_ok, po_bind, po_ok, opo_some]
    cases dicE S2 (.ref S.length) with
    | none => rfl
    | some es => cases es <;> simp [mergeE, putE]
end
end Ev

/-! Px: more of going back; data that are shown and compared whole -/
namespace Ev
open PySem L2
section
variable {env : En} {S : Sto} {d : D}
@[simp] theorem mAppV_po {i : Nat} {e : M} {Q : D → Sto → Prop} {X : XQ} : (mApp (mVar i) e env S).po Q X = (match env[i]? with
    | some (some (.ref n)) => opo S[n]? fun ob => lsE ob fun _ => (e env S).po (fun x S2 => opo S2[n]? fun ob => lsE ob fun ds => ds.length ≤ 16000000 ∧ Q .non (S2.set n (.lst (ds ++ [x])))) X
    | _ => False) := by
  unfold mApp mVar
  generalize env[i]? = o
  cases o with
  | none => rfl
  | some o =>
    cases o with
    | none => rfl
    | some v =>
      cases v with
      | ref n =>
        simp only
        cases S[n]? with
        | none => rfl
        | some ob =>
          cases ob with
          | lst ds =>
            simp only [opo_some, lsE_lst, po_bind]
            congr; funext x S2
            cases S2[n]? with
            | none => rfl
            | some ob =>
              cases ob with
              | lst ds =>
                simp only [opo_some, lsE_lst]
                by_cases h : ds.length ≤ 16000000
                · have hr : room ds.length = true := by simp [h]
                  simp [hr, h]
                · have hr : room ds.length = false := by simp [h]
                  simp [hr, h]
              | _ => rfl
          | _ => rfl
      | _ => rfl
@[simp] theorem gSb_vn {i : Nat} {k : Int} {Q : En → Sto → Prop} : gpo (gSb (mVar i) (sUn sNeg (mC (.int k))) d env S) Q = (match env[i]? with | some (some (.ref n)) => opo S[n]? fun o => lsE o fun ds => opo (ixN ds.length (-k)) fun j => Q env (S.set n (.lst (ds.set j d))) | _ => False) := by
  have : (sUn sNeg (mC (.int k))) = mC (.int (-k)) := by
    funext env S
    simp only [sUn, mC, Rs.bind_ok, sNeg_i, Rs.of_some]
  rw [this]
  exact gSb_vc
@[simp] theorem gSb_vv {i j : Nat} {Q : En → Sto → Prop} : gpo (gSb (mVar i) (mVar j) d env S) Q = (match env[i]? with | some (some (.ref n)) => (match env[j]? with | some (some (.int k)) => opo S[n]? fun o => lsE o fun ds => opo (ixN ds.length k) fun j => Q env (S.set n (.lst (ds.set j d))) | _ => False) | _ => False) := by
  unfold gSb mVar
  generalize env[i]? = o
  cases o with
  | none => rfl
  | some o =>
    cases o with
    | none => rfl
    | some v =>
      cases v with
      | ref n =>
        simp only
        generalize env[j]? = o
        cases o with
        | none => rfl
        | some o =>
          cases o with
          | none => rfl
          | some v =>
            cases v with
            | int k =>
              simp only
              cases S[n]? with
              | none => rfl
              | some ob =>
                cases ob with
                | lst ds => simp only [opo_some, lsE_lst]; cases ixN ds.length k <;> rfl
                | _ => rfl
            | _ => rfl
      | _ => rfl
end
/-- told whole, shown and compared -/
structure Pd (h z : Nat) (d : D) (p : PyData) : Prop where
  py : ∀ S, pyOf S d = some p
  lay : p.canLay0 = true
  sh : p.showable = true
  dep : p.depth ≤ h
  sz : szp p ≤ z
structure PdL (h z : Nat) (ds : List D) (ps : List PyData) : Prop where
  py : ∀ S, pyAll S ds = some ps
  lay : PyData.canLayAll0 ps = true
  sh : PyData.showableAll ps = true
  dep : PyData.depthAll ps ≤ h
  sz : szpAll ps ≤ z
  len : ds.length = ps.length
theorem Pd.mono {h h' z z' : Nat} {d : D} {p : PyData} (a : Pd h z d p) (h1 : h ≤ h') (h2 : z ≤ z') : Pd h' z' d p := ⟨a.py, a.lay, a.sh, Nat.le_trans a.dep h1, Nat.le_trans a.sz h2⟩
theorem PdL.mono {h h' z z' : Nat} {d : List D} {p : List PyData} (a : PdL h z d p) (h1 : h ≤ h') (h2 : z ≤ z') : PdL h' z' d p := ⟨a.py, a.lay, a.sh, Nat.le_trans a.dep h1, Nat.le_trans a.sz h2, a.len⟩
theorem Pd.int {i : Int} (h : i.natAbs < 2 ^ 1900) : Pd 0 2000 (.int i) (.int i) := ⟨fun _ => rfl, rfl, by
  simp only [PyData.showable, decide_eq_true_eq]
  exact Nat.lt_trans (lt_two h (Nat.le_refl _) (by decide)) (by decide), by simp [PyData.depth], by simp [szp]⟩
theorem Pd.bl {b : Bool} : Pd 0 5 (.bl b) (.bool b) := ⟨fun _ => rfl, rfl, rfl, by simp [PyData.depth], by simp [szp]⟩
theorem Pd.non : Pd 0 4 .non .none := ⟨fun _ => rfl, rfl, rfl, by simp [PyData.depth], by simp [szp]⟩
theorem Pd.str {x : Str} (h : PyData.strOk x = true) : Pd 0 (10 * x.length + 2) (.str x) (.str x) := ⟨fun _ => rfl, by simp only [PyData.canLay0, h], rfl, by simp [PyData.depth], by simp [szp]⟩
theorem PdL.nil {h : Nat} : PdL h 0 [] [] := ⟨fun _ => rfl, rfl, rfl, by simp [PyData.depthAll], by simp [szpAll], rfl⟩
theorem PdL.cons {h z y : Nat} {d : D} {p : PyData} {ds : List D} {ps : List PyData} (a : Pd h z d p) (b : PdL h y ds ps) : PdL h (z + 2 + y) (d :: ds) (p :: ps) := ⟨fun S => by simp only [pyAll, a.py, b.py], by simp only [PyData.canLayAll0, a.lay, b.lay, Bool.and_self], by simp only [PyData.showableAll, a.sh, b.sh, Bool.and_self], by
  have := a.dep; have := b.dep
  simp only [PyData.depthAll]; omega, by
  have := a.sz; have := b.sz
  simp only [szpAll]; omega, by simp [b.len]⟩
theorem Pd.tup {h z : Nat} {ds : List D} {ps : List PyData} (a : PdL h z ds ps) : Pd (h + 1) (z + 3) (.tup ds) (.tuple ps) := ⟨fun S => by simp only [pyOf, a.py, Option.map_some], by simp only [PyData.canLay0, a.lay], by simp only [PyData.showable, a.sh], by
  have := a.dep
  simp only [PyData.depth]; omega, by
  have := a.sz
  simp only [szp]; omega⟩
theorem Pd.lst {h z : Nat} {ds : List D} {ps : List PyData} (a : PdL h z ds ps) : Pd (h + 1) (z + 3) (.lst ds) (.list ps) := ⟨fun S => by simp only [pyOf, a.py, Option.map_some], by simp only [PyData.canLay0, a.lay], by simp only [PyData.showable, a.sh], by
  have := a.dep
  simp only [PyData.depth]; omega, by
  have := a.sz
  simp only [szp]; omega⟩
theorem PdL.map {α : Type} {f : α → D} {h z : Nat} : ∀ (xs : List α), (∀ x ∈ xs, ∃ p, Pd h z (f x) p) → ∃ ps, PdL h (xs.length * (z + 2)) (xs.map f) ps
  | [], _ => ⟨[], by simpa using PdL.nil⟩
  | x :: xs, hx => by
    obtain ⟨p, a⟩ := hx x (by simp)
    obtain ⟨ps, b⟩ := PdL.map xs fun y hy => hx y (by simp [hy])
    exact ⟨p :: ps, (PdL.cons a b).mono (Nat.le_refl _) (by simp only [List.length_cons, Nat.succ_mul]; omega)⟩
theorem Pd.top {h z : Nat} {d : D} {p : PyData} (a : Pd h z d p) {S : Sto} : pyTop S d = some p := by
  have := a.py S
  cases d with
  | ref n => simp [pyOf] at this
  | _ => exact this
theorem Pd.repr {h z : Nat} {d : D} {p : PyData} (a : Pd h z d p) (h1 : h ≤ 60 := by decide) (h2 : z ≤ 16000000 := by decide) : ∀ S, sRepr S [d] = some (.str p.shown) := fun S => sRepr_of a.top (by
  have e1 := Nat.ble_eq.mpr (Nat.le_trans a.dep h1)
  have e2 := Nat.ble_eq.mpr (Nat.le_trans a.sz h2)
  simp only [rprOk, a.lay, a.sh, e1, e2, Bool.and_self])
theorem Pd.shaped {h z : Nat} {d : D} {p : PyData} (a : Pd h z d p) (h1 : h ≤ 60) : SeqAt.shaped p = true := by
  have := a.dep
  simp only [SeqAt.shaped, a.lay, Bool.true_and, decide_eq_true_eq]; omega
theorem Pd.eq {h z h' z' : Nat} {d e : D} {p q : PyData} (a : Pd h z d p) (b : Pd h' z' e q) (h1 : h ≤ 60 := by decide) (h2 : h' ≤ 60 := by decide) {S : Sto} : sEqD S d e = some (PyData.eqv p q) := by
  simp only [sEqD, a.top, b.top, a.shaped h1, b.shaped h2, Bool.and_self, if_true]
theorem eqv_nil_list : ∀ {ps : List PyData}, PyData.eqv (.list ps) (.list []) = ps.isEmpty
  | [] => rfl
  | _ :: _ => rfl
theorem eqv_nil_tuple : ∀ {ps : List PyData}, PyData.eqv (.tuple ps) (.tuple []) = ps.isEmpty
  | [] => rfl
  | _ :: _ => rfl
theorem PdL.emp {h z : Nat} {ds : List D} {ps : List PyData} (a : PdL h z ds ps) : ps.isEmpty = ds.isEmpty := by
  have := a.len
  cases ds <;> cases ps <;> simp_all
theorem sNe_lnil {h z : Nat} {ds : List D} {ps : List PyData} (a : PdL h z ds ps) (h1 : h + 1 ≤ 60 := by decide) {S : Sto} : sNe S (.lst ds) (.lst []) = some (.bl (!ds.isEmpty)) := by
  have e := (Pd.lst a).eq (Pd.lst (PdL.nil (h := 0))) h1 (by decide) (S := S)
  have : sEqB S (.lst ds) (.lst []) = sEqD S (.lst ds) (.lst []) := rfl
  simp only [sNe, this, e, eqv_nil_list, a.emp, Option.map_some]
theorem sNe_rnil {h z n : Nat} {ds : List D} {ps : List PyData} {S : Sto} (hn : S[n]? = some (.lst ds)) (a : PdL h z ds ps) (h1 : h + 1 ≤ 60 := by decide) : sNe S (.ref n) (.lst []) = some (.bl (!ds.isEmpty)) := by
  have a' := Pd.lst a
  have e1 : pyTop S (.ref n) = some (.list ps) := by simp only [pyTop, hn, a.py, Option.map_some]
  have e2 : pyTop S (.lst []) = some (.list []) := rfl
  have : sEqB S (.ref n) (.lst []) = sEqD S (.ref n) (.lst []) := rfl
  simp only [sNe, this, sEqD, e1, e2, a'.shaped h1, (Pd.lst (PdL.nil (h := 0))).shaped (by decide), Bool.and_self, if_true, eqv_nil_list, a.emp, Option.map_some]
theorem sEq_lnil {h z : Nat} {ds : List D} {ps : List PyData} (a : PdL h z ds ps) (h1 : h + 1 ≤ 60 := by decide) {S : Sto} : sEq S (.lst ds) (.lst []) = some (.bl ds.isEmpty) := by
  have e := (Pd.lst a).eq (Pd.lst (PdL.nil (h := 0))) h1 (by decide) (S := S)
  have : sEqB S (.lst ds) (.lst []) = sEqD S (.lst ds) (.lst []) := rfl
  simp only [sEq, this, e, eqv_nil_list, a.emp, Option.map_some]
theorem sNe_tnil {h z : Nat} {ds : List D} {ps : List PyData} (a : PdL h z ds ps) (h1 : h + 1 ≤ 60 := by decide) {S : Sto} : sNe S (.tup ds) (.tup []) = some (.bl (!ds.isEmpty)) := by
  have e := (Pd.tup a).eq (Pd.tup (PdL.nil (h := 0))) h1 (by decide) (S := S)
  have : sEqB S (.tup ds) (.tup []) = sEqD S (.tup ds) (.tup []) := rfl
  simp only [sNe, this, e, eqv_nil_tuple, a.emp, Option.map_some]
theorem sIx_last {xs : List D} {x : D} {S : Sto} {n : Nat} (h : S[n]? = some (.lst (xs ++ [x]))) : sIx S (.ref n) (.int (-1)) = some x := by
  rw [sIx_ref h]
  unfold atI ixN
  have e : (-1 + ((xs.length : Int) + 1)).toNat = xs.length := by omega
  have e2 : (1 : Int) ≤ (xs.length : Int) + 1 := by omega
  simp [e, e2]
/-- a comprehension over a told list, pure: items kept by c, made by h -/
theorem lc_fm {α : Type} {mi : ML} {g : MG} {mt : MT} {me : M} {vs : List Nat} {env : En} {S : Sto} {Q : D → Sto → Prop} {X : XQ} (xs : List α) (f : α → D) (c : α → Bool) (h : α → D)
    (hm : (mi env S).po (fun ds S1 => (ds = xs.map f ∧ S1 = S ∧ xs.length ≤ 16000000) ∧ (∀ x ∈ xs, gpo (g (f x) (wipeE env vs) S) fun e1 S1 => (mt e1 S1).po (fun k S2 => k = c x ∧ if c x = true then (me e1 S2).po (fun y S3 => y = h x ∧ S3 = S) (fun _ _ _ => False) else S2 = S) fun _ _ _ => False) ∧
      Q (.lst ((xs.filter c).map h)) S) X) : (mLC mi g mt me vs env S).po Q X := by
  refine po_lc (fun i ys S' => ys = ((xs.take i).filter c).map h ∧ S' = S) (Rs.po.mono hm ?_ fun _ _ _ z => z)
  rintro ds S1 ⟨⟨rfl, rfl, hl⟩, hx, hq⟩
  refine ⟨by simpa using hl, ⟨by simp, rfl⟩, ?_, ?_⟩
  · rintro i d ys S2 hd ⟨rfl, rfl⟩
    simp only [List.getElem?_map, Option.map_eq_some_iff] at hd
    obtain ⟨x, hx1, rfl⟩ := hd
    have hmem := List.mem_of_getElem? hx1
    obtain ⟨hi, hxi⟩ := List.getElem?_eq_some_iff.mp hx1
    have tk : xs.take (i + 1) = xs.take i ++ [x] := by rw [List.take_succ, hx1]; rfl
    have z := hx x hmem
    cases q : g (f x) (wipeE env vs) S2 with
    | none => rw [q] at z; exact z.elim
    | some r =>
      obtain ⟨e1, S3⟩ := r
      rw [q] at z
      simp only [gpo_some] at z ⊢
      refine Rs.po.mono z (fun k S4 y => ?_) (fun _ _ _ z => z)
      obtain ⟨rfl, y⟩ := y
      rw [tk, List.filter_append, List.map_append]
      cases hc : c x with
      | true =>
        simp only [hc, if_true] at y ⊢
        refine Rs.po.mono y (fun v S5 w => ?_) (fun _ _ _ z => z)
        obtain ⟨rfl, rfl⟩ := w
        exact ⟨by simp [hc], rfl⟩
      | false =>
        simp only [hc, Bool.false_eq_true, if_false] at y ⊢
        exact ⟨by simp [hc], y⟩
  · rintro ys S2 ⟨rfl, rfl⟩
    simp only [List.length_map, List.take_length]
    exact hq
theorem lc_mp {α : Type} {mi : ML} {g : MG} {mt : MT} {me : M} {vs : List Nat} {env : En} {S : Sto} {Q : D → Sto → Prop} {X : XQ} (xs : List α) (f : α → D) (h : α → D)
    (hm : (mi env S).po (fun ds S1 => (ds = xs.map f ∧ S1 = S ∧ xs.length ≤ 16000000) ∧ (∀ x ∈ xs, gpo (g (f x) (wipeE env vs) S) fun e1 S1 => (mt e1 S1).po (fun k S2 => k = true ∧ (me e1 S2).po (fun y S3 => y = h x ∧ S3 = S) (fun _ _ _ => False)) fun _ _ _ => False) ∧
      Q (.lst (xs.map h)) S) X) : (mLC mi g mt me vs env S).po Q X := by
  refine lc_fm xs f (fun _ => true) h (Rs.po.mono hm ?_ fun _ _ _ z => z)
  rintro ds S1 ⟨h1, h2, h3⟩
  refine ⟨h1, fun x hx => ?_, by rw [List.filter_eq_self.mpr (by simp)]; exact h3⟩
  simpa using h2 x hx
theorem blsOf_map {α : Type} (f : α → Bool) : ∀ xs : List α, blsOf (xs.map fun x => .bl (f x)) = some (xs.map f)
  | [] => rfl
  | x :: xs => by simp [blsOf_map f xs]
theorem zipD_map {α : Type} (f g : α → D) : ∀ (xs ys : List α), zipD (xs.map f) (ys.map g) = (xs.zip ys).map fun p => .tup [f p.1, g p.2]
  | [], _ => by simp [zipD]
  | _ :: _, [] => by simp [zipD]
  | x :: xs, y :: ys => by simp [zipD, zipD_map f g xs ys]
end Ev

/-! Ev, part 25: loops and comprehensions over a list of the store that stays as it is while they run. -/
namespace Ev
open PySem L2
/-- the list n still holds ds -/
noncomputable def liv (n : Nat) (ds : List D) (S : Sto) : Bool := @decide (S[n]? = some (Ob.lst ds)) (Classical.propDecidable _)
theorem liv_iff {n : Nat} {ds : List D} {S : Sto} : liv n ds S = true ↔ S[n]? = some (.lst ds) := by unfold liv; exact @decide_eq_true_iff _ (Classical.propDecidable _)
noncomputable def gR (n : Nat) (ds : List D) (g : MG) : MG := fun d env S => if liv n ds S = true then g d env S else none
theorem gR_some {n : Nat} {ds : List D} {g : MG} {d : D} {env e' : En} {S S' : Sto} (h : gR n ds g d env S = some (e', S')) : g d env S = some (e', S') ∧ S[n]? = some (.lst ds) := by
  unfold gR at h
  split at h
  · rename_i hl
    exact ⟨h, liv_iff.mp hl⟩
  · cases h
theorem gR_eq {n : Nat} {ds : List D} {g : MG} {d : D} {env : En} {S : Sto} (h : S[n]? = some (.lst ds)) : gR n ds g d env S = g d env S := by
  unfold gR
  rw [if_pos (liv_iff.mpr h)]
noncomputable def mLCR (m : M) (g : MG) (mt : MT) (me : M) (vs : List Nat) : M := fun env S => (m env S).bind fun d S1 => match d with
  | .ref n => (match S1[n]? with
    | some (.lst ds) => (match lcGo (gR n ds g) mt me (wipeE env vs) 0 ds S1 with
      | .ok ys S2 => if liv n ds S2 = true then .ok (.lst ys) S2 else .err
      | _ => .err)
    | _ => .err)
  | _ => .err
def tIR (G : GC) (W : WX) (m : M) : TI := fun σ H R => ∃ B env S ρ, EnvOk G B ρ H env σ ∧ SOk G B S ρ H ∧
  Post G B ρ H (m env S) (fun d S' ρ' H' => ∃ n ds a, d = .ref n ∧ S'[n]? = some (.lst ds) ∧ ρ'[n]? = some a ∧ R (Itl G.K a) H') fun C d H' => W (.ref C) d σ H'
section
variable {X : Cx} {W : WX}
theorem si_ref {l tg : Expr} {m : M} (hl : SE X W l m) : PI X tg l (tIR ⟨X.K, X.mg⟩ W m) :=
  PI.imp (pi_list hl) fun σ H R h => by
    obtain ⟨B, env, S, ρ, eo, so, P⟩ := h
    refine ⟨B, env, S, ρ, eo, so, Post.mono P (fun d S1 ρ1 H1 e1 s1 P1 v r => ?_) (fun _ _ _ z => z)⟩
    obtain ⟨n, ds, a, rfl, hn, ha, q⟩ := P1
    simp only [Rep] at r
    obtain ⟨a', rfl, ha'⟩ := r
    rw [ha] at ha'
    cases ha'
    obtain ⟨vs, h1, _⟩ := s1.ob _ _ _ hn ha
    exact ⟨a, rfl, ⟨vs, SqL.of h1⟩, q⟩
theorem live_go {G : GC} {B : Addr → Prop} {S : Sto} {ρ : List Addr} {H : Hp} {n i : Nat} {ds : List D} {a : Addr} (so : SOk G B S ρ H) (hn : S[n]? = some (.lst ds)) (ha : ρ[n]? = some a) (hi : i < ds.length) : (Itl G.K a).go i H := by
  obtain ⟨vs, h1, h2⟩ := so.ob _ _ _ hn ha
  exact ⟨vs, vs[i]'(by rw [← h2.length]; exact hi), SqL.of h1, by simp⟩
theorem live_stop {G : GC} {B : Addr → Prop} {S : Sto} {ρ : List Addr} {H : Hp} {n : Nat} {ds : List D} {a : Addr} (so : SOk G B S ρ H) (hn : S[n]? = some (.lst ds)) (ha : ρ[n]? = some a) : (Itl G.K a).stop ds.length H := by
  obtain ⟨vs, h1, h2⟩ := so.ob _ _ _ hn ha
  exact ⟨vs, SqL.of h1, by rw [h2.length]; exact Nat.le_refl _⟩
theorem live_yld {G : GC} {B : Addr → Prop} {S : Sto} {ρ : List Addr} {H H2 : Hp} {n i : Nat} {ds : List D} {a : Addr} {d : D} {x : V} (so : SOk G B S ρ H) (hn : S[n]? = some (.lst ds)) (ha : ρ[n]? = some a) (hd : ds[i]? = some d) (y : (Itl G.K a).yld i H x H2) : Same H H2 ∧ Rep G B ρ H2 d x := by
  obtain ⟨e1, h1⟩ := y
  subst e1
  obtain ⟨vs, q1, q2⟩ := so.ob _ _ _ hn ha
  obtain ⟨v, h2, h3⟩ := q2.get hd
  rw [h1 vs (SqL.of q1)] at h2
  cases h2
  exact ⟨Same.refl _, h3⟩
/-- the reading of a comprehension -/
theorem tE_lcR {G : GC} {m : M} {g : MG} {mt : MT} {me : M} {ts vs : List Nat} (hts : ∀ i ∈ ts, i ∈ vs) : ∀ σ H Q, tE G W (mLCR m g mt me vs) σ H Q → tLc (tIR G W m) (tG G g ts) (tT G W0 mt) (tE G W0 me) vs σ H Q := fun σ H Q h => by
  obtain ⟨B, env, S, ρ, eo, so, P⟩ := h
  refine ⟨B, env, S, ρ, eo, so, Post.mono P.bind (fun d S1 ρ1 H1 e1 s1 P1 => ?_) (fun _ _ _ z => z)⟩
  split at P1
  case h_2 => exact P1.elim
  rename_i n
  split at P1
  case h_2 => exact P1.elim
  rename_i ds hn1
  have hal : n < ρ1.length := by rw [s1.len]; exact (List.getElem?_eq_some_iff.mp hn1).1
  obtain ⟨a, ha1⟩ : ∃ a, ρ1[n]? = some a := ⟨ρ1[n], by simp [hal]⟩
  refine ⟨n, ds, a, rfl, hn1, ha1, fun D0 hD => ?_⟩
  cases qr : lcGo (gR n ds g) mt me (wipeE env vs) 0 ds S1 with
  | exc c p S2 => rw [qr] at P1; exact P1.elim
  | err => rw [qr] at P1; exact P1.elim
  | ok ys S9 =>
  rw [qr] at P1
  simp only at P1
  split at P1
  case isFalse => exact P1.elim
  rename_i hl9
  have hl9 := liv_iff.mp hl9
  have fr := s1.fresh hD
  let B' : Addr → Prop := fun a => B a ∨ a = D0
  have hB1 : ∀ a, B a → B' a := fun a b => .inl b
  have hB2 : ∀ a, B' a → ¬ B a → H1 a = none := fun a b n => by
    rcases b with b | b
    · exact absurd b n
    · rw [b]; exact hD
  have hBD : B' D0 := .inr rfl
  have sameD : Same H1 (upd H1 D0 (.lst [])) := same_laid hD
  have s2 : SOk G B' S1 ρ1 (upd H1 D0 (.lst [])) := s1.wide hB2 (fun a b => by
    rcases b with b | b
    · obtain ⟨o, q⟩ := s1.b a b; exact ⟨o, sameD a o q⟩
    · exact ⟨_, by rw [b, upd_same]⟩) sameD
  have eo2 : EnvOk G B' ρ1 (upd H1 D0 (.lst [])) env σ := ((eo.mono e1).wide hB2).mono (Ext.of_same sameD)
  -- the invariant: by the turn and the heap
  let Pv : Nat → Hp → Prop := fun i H' => ∃ (ρ' : List Addr) (S' : Sto) (acc : List D) (avs : List V) (rest : List D), i ≤ ds.length ∧ (∀ (n : Nat) (a : Addr), ρ1[n]? = some a → ρ'[n]? = some a) ∧ (∀ a o, H1 a = some o → a ∉ ρ1 → H' a = some o) ∧ (∀ a, a ∈ ρ' → a ∉ ρ1 → H1 a = none) ∧ D0 ∉ ρ' ∧
    SOk G B' S' ρ' H' ∧ EnvOk G B' ρ' H' env σ ∧ H' D0 = some (.lst avs) ∧ RepL G B' ρ' H' acc avs ∧ lcGo (gR n ds g) mt me (wipeE env vs) acc.length (ds.drop i) S' = .ok rest S9 ∧ acc ++ rest = ys
  have h0 : Pv 0 (upd H1 D0 (.lst [])) := ⟨ρ1, S1, [], [], ys, Nat.zero_le _, fun _ _ h => h, fun a o q _ => sameD a o q, fun _ h n => absurd h n, fr.1, s2, eo2, upd_same, by simp only [RepL], by simpa using qr, rfl⟩
  refine ⟨fun i m H' => m = ds.length - i ∧ Pv i H', ⟨_, rfl, h0⟩, ?_⟩
  rintro i m H' ⟨rfl, ρ', S', acc, avs, rest, hi, p1, p2, p3, p4, p5, p6, p7, p8, p9, p10⟩
  have ha : ρ'[n]? = some a := p1 n a ha1
  by_cases hlt : i < ds.length
  · have hdrop : ds.drop i = ds[i] :: ds.drop (i + 1) := (List.drop_eq_getElem_cons hlt)
    rw [hdrop] at p9
    simp only [lcGo] at p9
    obtain ⟨e', S1', qR⟩ : ∃ e' S1', gR n ds g ds[i] (wipeE env vs) S' = some (e', S1') := by
      split at p9
      · cases p9
      · rename_i e' S1' qg
        exact ⟨_, _, qg⟩
    obtain ⟨qg, hn'⟩ := gR_some qR
    rw [qR] at p9
    simp only at p9
    refine .inr ⟨live_go p5 hn' ha hlt, fun H2 => Pv (i + 1) H2, fun H2 pv => ⟨ds.length - (i + 1), by omega, rfl, pv⟩, fun x H2 y => ?_⟩
    have hd : ds[i]? = some ds[i] := by simp [hlt]
    obtain ⟨k1, r1⟩ := live_yld p5 hn' ha hd y
    have ek := Ext.of_same (ρ := ρ') k1
    have s3 := p5.same k1
    have eo3 := p6.mono ek
    refine ⟨B', wipeE env vs, S', ρ', ds[i], eo3.wipe vs, s3, r1, ?_⟩
    · rw [qg]
      refine fun σ2 ρ2 H3 x2 s4 eo4 kp => ⟨(wipe_kept hts kp).trans (wipe_wipe σ vs), B', e', S1', ρ2, eo4, s4, ?_⟩
      split at p9
      · -- kept
        rename_i S2' qt
        refine Post.noX qt fun ρ3 H4 x3 s5 => ?_
        refine iteT ?_
        split at p9
        · rename_i yv S3' qe
          split at p9
          · rename_i hroom
            split at p9
            · rename_i ys' S4' qrest
              cases p9
              refine ⟨B', e', S2', ρ3, eo4.mono x3, s5, Post.noX qe fun ρ4 H5 x4 s6 w rw' => ?_⟩
              have X : Ext ρ' H' ρ4 H5 := ((ek.trans x2).trans x3).trans x4
              have hD5 : H5 D0 = some (.lst avs) := X.keep D0 _ p7 p4
              have hDρ : D0 ∉ ρ4 := X.out p7 p4
              refine ⟨avs, hD5, by rw [← (p8.length)]; exact Nat.lt_of_le_of_lt (Nat.le_of_ble_eq_true hroom) (by rw [sizeLine_eq]; decide), ρ4, S3', acc ++ [yv], avs ++ [w], ys', hlt, ?_, ?_, ?_, hDρ, grow_sok hBD hDρ s6, grow_env hBD (p6.mono X), upd_same, grow_repL hBD (RepL.append (p8.mono X) (by simp only [RepL]; exact ⟨w, [], rfl, rw', rfl⟩)), ?_, ?_⟩
              · exact fun n a q => X.pre n a (p1 n a q)
              · exact fun a o q n => by
                  have hne : a ≠ D0 := fun z => by rw [z, hD] at q; cases q
                  rw [upd_ne hne]
                  have q2 := p2 a o q n
                  exact X.keep a o q2 (fun z => by rw [p3 a z n] at q; cases q)
              · exact fun a m n => by
                  by_cases hm : a ∈ ρ'
                  · exact p3 a hm n
                  · have z := X.new a m hm
                    cases q : H1 a with
                    | none => rfl
                    | some o => rw [p2 a o q n] at z; cases z
              · simpa using qrest
              · rw [List.append_assoc]; exact p10
            · cases p9
          · cases p9
        · cases p9
      · -- left out
        rename_i S2' qt
        refine Post.noX qt fun ρ3 H4 x3 s5 => ?_
        refine iteF ?_
        have X : Ext ρ' H' ρ3 H4 := (ek.trans x2).trans x3
        have hD5 : H4 D0 = some (.lst avs) := X.keep D0 _ p7 p4
        have hDρ : D0 ∉ ρ3 := X.out p7 p4
        refine ⟨ρ3, S2', acc, avs, rest, hlt, fun n a q => X.pre n a (p1 n a q), fun a o q n => ?_, fun a m n => ?_, hDρ, s5, p6.mono X, hD5, p8.mono X, p9, p10⟩
        · have q2 := p2 a o q n
          exact X.keep a o q2 (fun z => by rw [p3 a z n] at q; cases q)
        · by_cases hm : a ∈ ρ'
          · exact p3 a hm n
          · have z := X.new a m hm
            cases q : H1 a with
            | none => rfl
            | some o => rw [p2 a o q n] at z; cases z
      · cases p9
  · have e : i = ds.length := by omega
    subst e
    rw [List.drop_length] at p9
    simp only [lcGo] at p9
    cases p9
    refine .inl ⟨live_stop p5 hl9 ha, ?_⟩
    rw [List.append_nil] at p10
    subst p10
    exact P1 ρ' H' ⟨p1, p2, p3⟩ (p5.narrow hB1) _ (by
      simp only [Rep]
      exact ⟨D0, avs, rfl, p7, ⟨p4, fr.2⟩, p8.narrow hB1⟩)
theorem se_lcR {elt tg iter : Expr} {ifs : List Expr} {scope : Scope} {own : List (Str × Nat)} {pos : Pos} {m : M} {g : MG} {mt : MT} {me : M} {ts : List Nat} (hc : X.calm = true) (hN : X.N.Nodup) (hi : PI X tg iter (tIR ⟨X.K, X.mg⟩ W m)) (ok : BlkOk X.N X.env.scope scope own)
    (hg : ∀ (s : Shared) (H : Hp) (C : Addr) (cl : List (Str × Addr)) (fp : List Addr), SG (X.blk s H scope (compEnvC scope cl C X.env) fp) tg g ts) (ht : ∀ (s : Shared) (H : Hp) (C : Addr) (cl : List (Str × Addr)) (fp : List Addr), PTs (X.blk s H scope (compEnvC scope cl C X.env) fp) ifs (tT ⟨X.K, X.mg⟩ W0 mt))
    (he : ∀ (s : Shared) (H : Hp) (C : Addr) (cl : List (Str × Addr)) (fp : List Addr), SE (X.blk s H scope (compEnvC scope cl C X.env) fp) W0 elt me) (hts : ∀ i ∈ ts, i ∈ own.map (·.2) := by decide) (hs : ∀ x, foldedSetIterable iter X.env x = pure x := by intro _; rfl) :
    SE X W (.ListComp elt [⟨tg, iter, ifs, 0⟩] scope pos) (mLCR m g mt me (own.map (·.2))) :=
  PE.imp (pe_lc hc hN hi ok hg ht he hs) (tE_lcR hts)
theorem ss_setLcR (i : Nat) {y : Str} {py : Pos} {elt tg iter : Expr} {ifs : List Expr} {scope : Scope} {own : List (Str × Nat)} {pos spos : Pos} {m : M} {g : MG} {mt : MT} {me : M} {ts : List Nat} (hc : X.calm = true) (hN : X.N.Nodup)
    (hi : PI X tg iter (tIR ⟨X.K, X.mg⟩ W m)) (ok : BlkOk X.N X.env.scope scope own)
    (hg : ∀ (s : Shared) (H : Hp) (C : Addr) (cl : List (Str × Addr)) (fp : List Addr), SG (X.blk s H scope (compEnvC scope cl C X.env) fp) tg g ts) (ht : ∀ (s : Shared) (H : Hp) (C : Addr) (cl : List (Str × Addr)) (fp : List Addr), PTs (X.blk s H scope (compEnvC scope cl C X.env) fp) ifs (tT ⟨X.K, X.mg⟩ W0 mt))
    (he : ∀ (s : Shared) (H : Hp) (C : Addr) (cl : List (Str × Addr)) (fp : List Addr), SE (X.blk s H scope (compEnvC scope cl C X.env) fp) W0 elt me)
    (hy : X.N[i]? = some y := by rfl) (hyl : X.env.scope.names.lookup y = some .local := by rfl)
    (hsw : swapsWith (.ListComp elt [⟨tg, iter, ifs, 0⟩] scope pos) (some (.Name y py)) spos.line X.env = pure true := by rfl) (hts : ∀ i ∈ ts, i ∈ own.map (·.2) := by decide) (hs : ∀ x, foldedSetIterable iter X.env x = pure x := by intro _; rfl) :
    SS X W (.Assign [.Name y py] (.ListComp elt [⟨tg, iter, ifs, 0⟩] scope pos) spos) (mAsg (mLCR m g mt me (own.map (·.2))) (gNm i)) := PS.imp (ps_setLc hc hN hy hyl hsw hi ok hg ht he hs) fun D σ H h => by
  have h := tS_asg (ts := [i]) D σ H h
  refine tE_lcR (m := m) (g := g) (mt := mt) (me := me) hts σ H _ ?_
  obtain ⟨B, env, S, ρ, eo, so, P⟩ := h
  refine ⟨B, env, S, ρ, eo, so, Post.mono P (fun d S1 ρ1 H1 e1 s1 P1 v r => ?_) (fun _ _ _ z => z)⟩
  obtain ⟨B2, env2, S2, ρ2, d2, eo2, so2, r2, P2⟩ := P1 v r
  exact P2 _ ρ2 H1 Ext.refl so2 (eo2.set r2 i) kept_set
/-- for, over a list of the store -/
noncomputable def chkR (n : Nat) (ds : List D) (r : Option (Fl × Sto)) : Option (Fl × Sto) := match r with
  | some (.nx e, S) => if liv n ds S = true then some (.nx e, S) else none
  | r => r
noncomputable def mForR (m : M) (g : MG) (b : MS) : MS := fun env S => lft (m env S) env fun d S1 => match d with
  | .ref n => (match S1[n]? with
    | some (.lst ds) => chkR n ds (forGo (gR n ds g) b ds env S1)
    | _ => none)
  | _ => none
theorem ss_forR {tg iter : Expr} {body : List Stmt} {m : M} {g : MG} {mb : MS} {ts : List Nat} {pos : Pos} (hp : PassesOwn (model X.prog X.w) X.A X.env X.xe) (hc : X.calm = true) (hi : PI X tg iter (tIR ⟨X.K, X.mg⟩ W m)) (hg : SG X tg g ts) (hb : SSs X W body mb)
    (hs : ∀ x, foldedSetIterable iter X.env x = pure x := by intro _; rfl) : SS X W (.For tg iter body [] pos) (mForR m g mb) := PS.imp (ps_for hp hc hi hg hb hs) fun D σ H h => by
  obtain ⟨B, env, S, ρ, eo, so, P⟩ := h
  refine ⟨B, env, S, ρ, eo, so, Post.mono (PostS.lft P eo) (fun d S1 ρ1 H1 e1 s1 P1 => ?_) (fun _ _ _ z => z)⟩
  split at P1
  case h_2 => exact P1.elim
  rename_i n
  split at P1
  case h_2 => exact P1.elim
  rename_i ds hn1
  have hal : n < ρ1.length := by rw [s1.len]; exact (List.getElem?_eq_some_iff.mp hn1).1
  obtain ⟨a, ha1⟩ : ∃ a, ρ1[n]? = some a := ⟨ρ1[n], by simp [hal]⟩
  refine ⟨n, ds, a, rfl, hn1, ha1, ?_⟩
  refine ⟨fun i m σ H => m = ds.length - i ∧ i ≤ ds.length ∧ ∃ env S ρ, Ext ρ1 H1 ρ H ∧ EnvOk ⟨X.K, X.mg⟩ B ρ H env σ ∧ SOk ⟨X.K, X.mg⟩ B S ρ H ∧ PostS ⟨X.K, X.mg⟩ W B ρ H (chkR n ds (forGo (gR n ds g) mb (ds.drop i) env S)) D,
    ⟨_, rfl, Nat.zero_le _, env, S1, ρ1, Ext.refl, eo.mono e1, s1, by simpa using P1⟩, ?_⟩
  rintro i m σ H ⟨rfl, hi, env, S, ρ, ex, eo, so, P⟩
  have ha : ρ[n]? = some a := ex.pre n a ha1
  by_cases hlt : i < ds.length
  · rw [List.drop_eq_getElem_cons hlt] at P
    have P : PostS ⟨X.K, X.mg⟩ W B ρ H (chkR n ds (match gR n ds g ds[i] env S with
      | none => none
      | some (e', S1) => match mb e' S1 with
        | some (.nx e2, S2) => forGo (gR n ds g) mb (ds.drop (i + 1)) e2 S2
        | some (.ct e2, S2) => forGo (gR n ds g) mb (ds.drop (i + 1)) e2 S2
        | some (.bk e2, S2) => some (.nx e2, S2)
        | r => r)) D := P
    cases qR : gR n ds g ds[i] env S with
    | none => rw [qR] at P; exact P.elim
    | some p =>
    obtain ⟨e', S'⟩ := p
    rw [qR] at P
    obtain ⟨qg, hn'⟩ := gR_some qR
    refine .inr ⟨live_go so hn' ha hlt, fun σ' H' => ∃ env S ρ, Ext ρ1 H1 ρ H' ∧ EnvOk ⟨X.K, X.mg⟩ B ρ H' env σ' ∧ SOk ⟨X.K, X.mg⟩ B S ρ H' ∧ PostS ⟨X.K, X.mg⟩ W B ρ H' (chkR n ds (forGo (gR n ds g) mb (ds.drop (i + 1)) env S)) D, fun σ' H' w => ⟨ds.length - (i + 1), by omega, rfl, hlt, w⟩, fun x H2 y => ?_⟩
    have hd : ds[i]? = some ds[i] := by simp [hlt]
    obtain ⟨k1, r1⟩ := live_yld so hn' ha hd y
    have ek := Ext.of_same (ρ := ρ) k1
    refine ⟨B, env, S, ρ, ds[i], eo.mono ek, so.same k1, r1, ?_⟩
    unfold PostG
    rw [qg]
    refine fun σ2 ρ2 H3 x2 s2 eo2 _ => ⟨B, e', S', ρ2, eo2, s2, ?_⟩
    have X2 : Ext ρ H ρ2 H3 := ek.trans x2
    have P := PostS.ext P X2
    cases q : mb e' S' with
    | none => simp only [q] at P; exact P
    | some r =>
      obtain ⟨f, S2⟩ := r
      simp only [q] at P
      cases f with
      | nx e2 => exact fun σ' ρ' H' e s eo' => ⟨e2, S2, ρ', (ex.trans X2).trans e, eo', s, PostS.ext P e⟩
      | ct e2 => exact fun σ' ρ' H' e s eo' => ⟨e2, S2, ρ', (ex.trans X2).trans e, eo', s, PostS.ext P e⟩
      | bk e2 =>
        unfold chkR at P
        simp only at P
        split at P
        · exact P
        · exact P.elim
      | rt d => exact P
      | xc e2 c p => exact P
  · have e : i = ds.length := by omega
    subst e
    rw [List.drop_length] at P
    have P : PostS ⟨X.K, X.mg⟩ W B ρ H (chkR n ds (some (.nx env, S))) D := P
    unfold chkR at P
    simp only at P
    split at P
    · rename_i hl
      exact .inl ⟨live_stop so (liv_iff.mp hl) ha, P σ ρ H Ext.refl so eo⟩
    · exact P.elim
end
/-! going back -/
section
variable {env : En} {S : Sto}
/-- a comprehension over a list of the store, pure -/
theorem lc_fmR {α : Type} {m : M} {g : MG} {mt : MT} {me : M} {vs : List Nat} {Q : D → Sto → Prop} {X : XQ} (n : Nat) (xs : List α) (f : α → D) (c : α → Bool) (h : α → D)
    (hm : (m env S).po (fun d S1 => (d = .ref n ∧ S1 = S ∧ S[n]? = some (.lst (xs.map f)) ∧ xs.length ≤ 16000000) ∧ (∀ x ∈ xs, gpo (g (f x) (wipeE env vs) S) fun e1 S1 => (mt e1 S1).po (fun k S2 => k = c x ∧ if c x = true then (me e1 S2).po (fun y S3 => y = h x ∧ S3 = S) (fun _ _ _ => False) else S2 = S) fun _ _ _ => False) ∧
      Q (.lst ((xs.filter c).map h)) S) X) : (mLCR m g mt me vs env S).po Q X := by
  simp only [mLCR, po_bind]
  refine Rs.po.mono hm (fun d S1 z => ?_) (fun _ _ _ z => z)
  obtain ⟨⟨rfl, rfl, hn, hl⟩, hx, hq⟩ := z
  have key : (mLC (fun _ S => .ok (xs.map f) S) (gR n (xs.map f) g) mt me vs env S1).po (fun d S2 => d = .lst ((xs.filter c).map h) ∧ S2 = S1) X := by
    refine lc_fm xs f c h ?_
    simp only [po_ok]
    refine ⟨⟨trivial, trivial, hl⟩, fun x hm => ?_, trivial, trivial⟩
    rw [gR_eq hn]
    exact hx x hm
  simp only [hn]
  simp only [mLC, Rs.bind_ok] at key
  cases q : lcGo (gR n (xs.map f) g) mt me (wipeE env vs) 0 (xs.map f) S1 with
  | err => rw [q] at key; exact key.elim
  | exc c p S2 => rw [q] at key; exact key.elim
  | ok ys S2 =>
    rw [q] at key
    simp only [po_ok] at key
    obtain ⟨e1, rfl⟩ := key
    simp only [D.lst.injEq] at e1
    subst e1
    simp only [liv_iff.mpr hn, if_true, po_ok]
    exact hq
theorem lc_mpR {α : Type} {m : M} {g : MG} {mt : MT} {me : M} {vs : List Nat} {Q : D → Sto → Prop} {X : XQ} (n : Nat) (xs : List α) (f : α → D) (h : α → D)
    (hm : (m env S).po (fun d S1 => (d = .ref n ∧ S1 = S ∧ S[n]? = some (.lst (xs.map f)) ∧ xs.length ≤ 16000000) ∧ (∀ x ∈ xs, gpo (g (f x) (wipeE env vs) S) fun e1 S1 => (mt e1 S1).po (fun k S2 => k = true ∧ (me e1 S2).po (fun y S3 => y = h x ∧ S3 = S) (fun _ _ _ => False)) fun _ _ _ => False) ∧
      Q (.lst (xs.map h)) S) X) : (mLCR m g mt me vs env S).po Q X := by
  refine lc_fmR n xs f (fun _ => true) h (Rs.po.mono hm ?_ fun _ _ _ z => z)
  rintro ds S1 ⟨h1, h2, h3⟩
  refine ⟨h1, fun x hx => ?_, by rw [List.filter_eq_self.mpr (by simp)]; exact h3⟩
  simpa using h2 x hx
/-- for, over a list of the store, by an invariant that keeps the list -/
theorem fpo_forR {m : M} {g : MG} {b : MS} {Q : Fl → Sto → Prop} (Inv : Nat → En → Sto → Prop) (n : Nat) (ds : List D)
    (hm : (m env S).po (fun d S1 => d = .ref n ∧ S1[n]? = some (.lst ds) ∧ Inv 0 env S1) fun c p S => Q (.xc env c p) S)
    (keep : ∀ i env S, Inv i env S → S[n]? = some (.lst ds))
    (step : ∀ i d env S, ds[i]? = some d → Inv i env S → gpo (g d env S) fun e1 S1 => fpo (b e1 S1) fun f S2 => match f with | .nx e' => Inv (i + 1) e' S2 | .ct e' => Inv (i + 1) e' S2 | .bk e' => S2[n]? = some (.lst ds) ∧ Q (.nx e') S2 | f => Q f S2)
    (fin : ∀ env S, Inv ds.length env S → Q (.nx env) S) : fpo (mForR m g b env S) Q := by
  simp only [mForR, lft_fpo]
  refine Rs.po.mono hm (fun d S1 z => ?_) (fun _ _ _ z => z)
  obtain ⟨rfl, hn, h0⟩ := z
  simp only [hn]
  have key : fpo (forGo (gR n ds g) b ds env S1) fun f S2 => match f with | .nx e => S2[n]? = some (.lst ds) ∧ Q (.nx e) S2 | f => Q f S2 := by
    refine fpo_for Inv ds 0 ?_ ?_ env S1 h0
    · intro i d env S hd hi
      rw [Nat.zero_add] at hi ⊢
      rw [gR_eq (keep _ _ _ hi)]
      have st := step i d env S hd hi
      cases q : g d env S with
      | none => rw [q] at st; exact st
      | some r =>
        obtain ⟨e1, S3⟩ := r
        rw [q] at st
        simp only [gpo_some] at st ⊢
        refine fpo.mono st ?_
        intro f S4 w
        cases f <;> exact w
    · intro env S hi
      rw [Nat.zero_add] at hi
      exact ⟨keep _ _ _ hi, fin _ _ hi⟩
  cases q : forGo (gR n ds g) b ds env S1 with
  | none => rw [q] at key; exact key
  | some r =>
    obtain ⟨f, S2⟩ := r
    rw [q] at key
    simp only [fpo_some] at key
    unfold chkR
    cases f with
    | nx e =>
      simp only [liv_iff.mpr key.1, if_true, fpo_some]
      exact key.2
    | _ => exact key
end
end Ev

/-! Ev, part 26: lists of the store handed to defs that only read. -/
namespace Ev
open PySem L2
/-- a list of the store as it is now -/
def frzT (S : Sto) : D → D
  | .ref n => (match S[n]? with | some (.lst xs) => .lst xs | _ => .ref n)
  | d => d
mutual
def noLst : D → Bool
  | .tup ds => noLsts ds
  | .obj _ _ ds => noLsts ds
  | .lst _ => false
  | .rol _ => false
  | .ref _ => false
  | .dic _ _ => false
  | .exn _ _ _ => false
  | _ => true
def noLsts : List D → Bool
  | [] => true
  | d :: ds => noLst d && noLsts ds
end
def prF (p : Pr) (S : Sto) : Rs D := match p with
  | .ok d => if noLst d = true then .ok d S else .err
  | .exc c none => .exc c none S
  | .exc c (some (ns, es)) => if noLsts es = true then .exc c (some (ns, es)) S else .err
  | .err => .err
def clPF (n : Nat) (g : List D → Pr) (ds : List D) (S : Sto) : Rs D := if noRefs (ds.map (frzT S)) && Nat.beq ds.length n then prF (g (ds.map (frzT S))) S else .err
def mCallPF (n : Nat) (g : List D → Pr) (m : ML) : M := fun env S => (m env S).bind fun ds S1 => clPF n g ds S1
section
variable {G : GC} {B : Addr → Prop} {ρ : List Addr} {H : Hp} {S : Sto}
/-- the addresses of the lists handed over -/
def LA (S : Sto) (ρ : List Addr) (a : Addr) : Prop := ∃ (n : Nat) (xs : List D), S[n]? = some (.lst xs) ∧ ρ[n]? = some a
theorem frzT_rep (so : SOk G B S ρ H) {B' : Addr → Prop} (hB : ∀ a, B' a → B a ∨ (a ∈ ρ ∧ ¬ LA S ρ a)) {d : D} {v : V} (n : noRef (frzT S d) = true) (h : Rep G B ρ H d v) : Rep G B' [] H (frzT S d) v := by
  have o1 : ∀ a o, Out B ρ a → H a = some o → H a = some o ∧ Out B' [] a := fun a o x q => ⟨q, by simp, fun b => (hB a b).elim x.2 fun z => x.1 z.1⟩
  cases d with
  | ref k =>
    unfold frzT at n ⊢
    simp only at n ⊢
    split at n
    · rename_i xs hk
      simp only [Rep] at h ⊢
      obtain ⟨a, rfl, ha⟩ := h
      obtain ⟨vs, h1, h2⟩ := so.ob _ _ _ hk ha
      have hm : a ∈ ρ := List.mem_iff_getElem?.mpr ⟨k, ha⟩
      refine ⟨a, vs, rfl, h1, ⟨by simp, fun b => (hB a b).elim (so.dis a hm) fun z => z.2 ⟨k, xs, hk, ha⟩⟩, ?_⟩
      simp only [noRef] at n
      exact RepL.free o1 n h2
    · simp [noRef] at n
  | _ => exact Rep.free o1 n h
theorem frzT_repL (so : SOk G B S ρ H) {B' : Addr → Prop} (hB : ∀ a, B' a → B a ∨ (a ∈ ρ ∧ ¬ LA S ρ a)) : ∀ {ds : List D} {vs : List V}, noRefs (ds.map (frzT S)) = true → RepL G B ρ H ds vs → RepL G B' [] H (ds.map (frzT S)) vs
  | [], _, _, h => by simpa only [List.map_nil, RepL] using h
  | d :: ds, vs, n, h => by
    simp only [List.map_cons, noRefs, Bool.and_eq_true] at n
    simp only [RepL, List.map_cons] at h ⊢
    obtain ⟨v, r, ev, h1, h2⟩ := h
    exact ⟨v, r, ev, frzT_rep so hB n.1 h1, frzT_repL so hB n.2 h2⟩
variable {H' : Hp} {B' : Addr → Prop}
/-- what comes back holds no list: it stands outside of what was handed over -/
structure BackOk (B B' : Addr → Prop) (ρ : List Addr) (H' : Hp) : Prop where
  b : ∀ a, B a → B' a
  r : ∀ a, a ∈ ρ → ¬ B' a → ∃ vs, H' a = some (.lst vs)
theorem BackOk.out (k : BackOk B B' ρ H') {a : Addr} {o : HO} (h : H' a = some o) (hl : ∀ vs, o ≠ .lst vs) (x : Out B' [] a) : Out B ρ a :=
  ⟨fun m => by
    obtain ⟨vs, e⟩ := k.r a m x.2
    rw [h] at e
    cases e
    exact hl vs rfl, fun b => x.2 (k.b a b)⟩
mutual
theorem Rep.back (k : BackOk B B' ρ H') : ∀ {d : D} {v : V}, noLst d = true → Rep G B' [] H' d v → Rep G B ρ H' d v
  | .non, _, _, h => by simpa only [Rep] using h
  | .bl _, _, _, h => by simpa only [Rep] using h
  | .int _, _, _, h => by simpa only [Rep] using h
  | .str _, _, _, h => by simpa only [Rep] using h
  | .glo _, _, _, h => by simpa only [Rep] using h
  | .tup ds, v, n, h => by
    simp only [Rep] at h ⊢
    simp only [noLst] at n
    obtain ⟨a, vs, ev, ha, hl⟩ := h
    refine ⟨a, vs, ev, ?_, RepL.back k n hl⟩
    rcases ha with ⟨h1, h2⟩ | h1
    · exact .inl ⟨h1, k.out h1 (fun _ => by simp) h2⟩
    · exact .inr h1
  | .obj c ns ds, v, n, h => by
    simp only [Rep] at h ⊢
    simp only [noLst] at n
    obtain ⟨a, C, dx, fs, ev, h1, h2, h3, h4, hl⟩ := h
    exact ⟨a, C, dx, fs, ev, h1, k.out h1 (fun _ => by simp) h2, h3, h4, RepL.back k n hl⟩
  | .lst _, _, n, _ => by simp [noLst] at n
  | .rol _, _, n, _ => by simp [noLst] at n
  | .ref _, _, n, _ => by simp [noLst] at n
  | .dic _ _, _, n, _ => by simp [noLst] at n
  | .exn _ _ _, _, n, _ => by simp [noLst] at n
theorem RepL.back (k : BackOk B B' ρ H') : ∀ {ds : List D} {vs : List V}, noLsts ds = true → RepL G B' [] H' ds vs → RepL G B ρ H' ds vs
  | [], _, _, h => by simpa only [RepL] using h
  | d :: ds, vs, n, h => by
    simp only [noLsts, Bool.and_eq_true] at n
    simp only [RepL] at h ⊢
    obtain ⟨v, r, ev, h1, h2⟩ := h
    exact ⟨v, r, ev, Rep.back k n.1 h1, RepL.back k n.2 h2⟩
end
theorem spP_ofF {S1 : Sto} {ρ1 : List Addr} {H1 : Hp} {n : Nat} {g : List D → Pr} {ds : List D} {vs : List V} {Q : VK} {E : XK} (s1 : SOk G B S1 ρ1 H1) (rs : RepL G B ρ1 H1 ds vs)
    (P : Post G B ρ1 H1 (clPF n g ds S1) (fun d _ ρ' H' => ∀ v, Rep G B ρ' H' d v → Q v H') fun C d H' => E (.ref C) d H') : spP G n g vs H1 Q E := by
  unfold clPF at P
  split at P
  · rename_i hz
    simp only [Bool.and_eq_true] at hz
    have hn := Nat.eq_of_beq_eq_true hz.2
    let B' : Addr → Prop := fun a => B a ∨ (a ∈ ρ1 ∧ ¬ LA S1 ρ1 a)
    have bk : ∀ H', Same H1 H' → BackOk B B' ρ1 H' := fun H' k => ⟨fun a b => .inl b, fun a m nb => by
      have : LA S1 ρ1 a := Classical.byContradiction fun z => nb (.inr ⟨m, z⟩)
      obtain ⟨j, xs, h1, h2⟩ := this
      obtain ⟨ws, h3, _⟩ := s1.ob _ _ _ h1 h2
      exact ⟨ws, k a _ h3⟩⟩
    refine ⟨B', ds.map (frzT S1), fun a b => ?_, frzT_repL s1 (fun a b => b) hz.1 rs, by rw [List.length_map]; exact hn, ?_⟩
    · rcases b with b | b
      · exact s1.b a b
      · exact s1.there b.1
    · cases q : g (ds.map (frzT S1)) with
      | ok d =>
        rw [q] at P
        simp only [prF] at P
        split at P
        · rename_i hl
          exact fun H' v k r => P ρ1 H' (Ext.of_same k) (s1.same k) v (Rep.back (bk H' k) hl r)
        · exact P.elim
      | exc c p =>
        rw [q] at P
        cases p with
        | none =>
          simp only [prF] at P
          exact fun H' C d k x => P ρ1 H' C d (Ext.of_same k) (s1.same k) x
        | some pq =>
          obtain ⟨ns, es⟩ := pq
          simp only [prF] at P
          split at P
          · rename_i hl
            refine fun H' C d k x => P ρ1 H' C d (Ext.of_same k) (s1.same k) ?_
            obtain ⟨h1, dx, fs, h3, h4, h7, h5, h6⟩ := x
            exact ⟨h1, dx, fs, h3, h4, (bk H' k).out h4 (fun _ => by simp) h7, h5, RepL.back (bk H' k) hl h6⟩
          · exact P.elim
      | err => rw [q] at P; exact P
  · exact P.elim
end
section
variable {X : Cx} {W : WX} {j k : Nat} {x : Str} {ps : List Str} {kws : List Shape} {p pos : Pos} {e : Expr} {es : List Expr} {m mk : ML}
theorem tE_clPF {g : List D → Pr} {n : Nat} : ∀ σ H Q, tE ⟨X.K, X.mg⟩ W (mCallPF n g m) σ H Q → tCl (spP ⟨X.K, X.mg⟩ n g) W (tA ⟨X.K, X.mg⟩ W m) σ H Q := fun σ H Q h => by
  obtain ⟨B, env, S, ρ, eo, so, P⟩ := h
  exact ⟨B, env, S, ρ, eo, so, Post.mono P.bind (fun ds S1 ρ1 H1 e1 s1 P1 vs rs => spP_ofF s1 rs P1) (fun _ _ _ z => z)⟩
theorem se_callPF {nn : Nat} {g : List D → Pr} (F : DefP X.prog X.w X.K X.mg X.base j x ps g kws) (hr : RoomG k X.A) (hj : j ≤ k) (tk : L2.Takes X W) (ha : SA X W (e :: es) m) (hg : Gl X x := by rfl) (hnn : ps.length = nn := by rfl)
    (hdb : (x == ("__debug__" : Str)) = false := by decide) (he : starEach (e :: es) X.env = (false, eval e X.env) :: starEach es X.env := by rfl) (hpl : (backTo pos (starEach es X.env)).any (·.1) = false := by rfl) :
    SE X W (.Call (.Name x p) (e :: es) [] pos) (mCallPF nn g m) := by
  subst hnn
  obtain ⟨f, fd, F1, hm, hk, hb, _⟩ := F.ex
  exact PE.imp (pe_cl F1 (hr.mono hj) tk hm hk hb ha hg hdb he hpl) tE_clPF
end
section
variable {env : En} {S : Sto} {Q : D → Sto → Prop} {X : XQ}
@[simp] theorem mCallPF_po {n : Nat} {g : List D → Pr} {m : ML} : (mCallPF n g m env S).po Q X = (m env S).po (fun ds S1 => (clPF n g ds S1).po Q X) X := by simp [mCallPF]
theorem clPF_eq {n : Nat} {g : List D → Pr} {ds : List D} {v : D} (h : g (ds.map (frzT S)) = .ok v) (h1 : noRefs (ds.map (frzT S)) = true) (h3 : noLst v = true) (h2 : ds.length = n := by rfl) : clPF n g ds S = .ok v S := by
  subst h2
  unfold clPF
  rw [h1, h, if_pos (by simp)]
  simp [prF, h3]
/-- by what is told of the def called in the other way -/
theorem clPF_of {n : Nat} {g : List D → Pr} {ds : List D} {v : D} (h : clP n g (ds.map (frzT S)) S = .ok v S) (h3 : noLst v = true) : clPF n g ds S = .ok v S := by
  unfold clP at h
  split at h
  · rename_i hz
    simp only [Bool.and_eq_true, List.length_map] at hz
    cases q : g (ds.map (frzT S)) with
    | ok d =>
      rw [q] at h
      simp only [prR, Rs.ok.injEq, and_true] at h
      subst h
      exact clPF_eq q hz.1 h3 (Nat.eq_of_beq_eq_true hz.2)
    | exc c p => rw [q] at h; cases h
    | err => rw [q] at h; cases h
  · cases h
theorem frzT_at {n : Nat} {xs : List D} (h : S[n]? = some (.lst xs)) : frzT S (.ref n) = .lst xs := by simp [frzT, h]
end
end Ev

/-! Ev, part 27: comprehensions whose list is written later: it stands in the store. -/
namespace Ev
open PySem L2
def mLCN (mi : ML) (g : MG) (mt : MT) (me : M) (vs : List Nat) : M := fun env S => (mi env S).bind fun ds S1 => match lcGo g mt me (wipeE env vs) 0 ds S1 with
  | .ok ys S2 => .ok (.ref S2.length) (S2 ++ [.lst ys])
  | _ => .err
section
variable {X : Cx} {W : WX}
/-- a new list becomes one of the store -/
theorem SOk.adopt {G : GC} {B B' : Addr → Prop} {S : Sto} {ρ : List Addr} {H : Hp} {D0 : Addr} {avs : List V} {acc : List D} (s : SOk G B' S ρ H) (hB : ∀ a, B a → B' a) (hD : B' D0) (hn : D0 ∉ ρ) (hb : ¬ B D0) (h : H D0 = some (.lst avs)) (r : RepL G B' ρ H acc avs) : SOk G B (S ++ [.lst acc]) (ρ ++ [D0]) H := by
  have pr : ∀ (n : Nat) (a : Addr), ρ[n]? = some a → (ρ ++ [D0])[n]? = some a := fun n a e => by
    rw [List.getElem?_append_left (List.getElem?_eq_some_iff.mp e).1]; exact e
  have ot : ∀ a o, Out B' ρ a → H a = some o → H a = some o ∧ Out B (ρ ++ [D0]) a := fun a o x q => ⟨q, fun m => by
    rcases List.mem_append.mp m with m | m
    · exact x.1 m
    · have : a = D0 := by simpa using m
      exact x.2 (this ▸ hD), fun b => x.2 (hB a b)⟩
  refine ⟨by rw [List.length_append, List.length_append, s.len]; rfl, ?_, fun a b => s.b a (hB a b), fun a m b => ?_, fun n u a h1 h2 => ?_⟩
  · rw [List.nodup_append]
    exact ⟨s.nd, by simp, fun a ha b hb' => by
      have : b = D0 := by simpa using hb'
      subst this
      exact fun z => hn (z ▸ ha)⟩
  · rcases List.mem_append.mp m with m | m
    · exact s.dis a m (hB a b)
    · have : a = D0 := by simpa using m
      subst this
      exact hb b
  · by_cases hl : n < S.length
    · rw [List.getElem?_append_left hl] at h1
      rw [List.getElem?_append_left (by rw [s.len]; exact hl)] at h2
      exact (s.ob n u a h1 h2).move pr ot fun u q => q
    · have h3 : n = S.length := by
        have := (List.getElem?_eq_some_iff.mp h1).1
        rw [List.length_append] at this
        have e1 : ([Ob.lst acc] : List Ob).length = 1 := rfl
        omega
      subst h3
      rw [List.getElem?_append_right (Nat.le_refl _)] at h1
      rw [List.getElem?_append_right (by rw [s.len]; exact Nat.le_refl _), s.len] at h2
      simp only [Nat.sub_self, List.getElem?_cons_zero, Option.some.injEq] at h1 h2
      subst h1 h2
      exact ⟨avs, h, r.move pr ot⟩
/-- the reading of a comprehension -/
theorem tE_lcN {G : GC} {mi : ML} {g : MG} {mt : MT} {me : M} {ts vs : List Nat} (hts : ∀ i ∈ ts, i ∈ vs) : ∀ σ H Q, tE G W (mLCN mi g mt me vs) σ H Q → tLc (tI G W mi) (tG G g ts) (tT G W0 mt) (tE G W0 me) vs σ H Q := fun σ H Q h => by
  obtain ⟨B, env, S, ρ, eo, so, P⟩ := h
  refine ⟨B, env, S, ρ, eo, so, Post.mono P.bind (fun ds S1 ρ1 H1 e1 s1 P1 J hJ D0 hD => ?_) (fun _ _ _ z => z)⟩
  cases qr : lcGo g mt me (wipeE env vs) 0 ds S1 with
  | exc c p S2 => rw [qr] at P1; exact P1.elim
  | err => rw [qr] at P1; exact P1.elim
  | ok ys S9 =>
  rw [qr] at P1
  have fr := s1.fresh hD
  let B' : Addr → Prop := fun a => B a ∨ a = D0
  have hB1 : ∀ a, B a → B' a := fun a b => .inl b
  have hB2 : ∀ a, B' a → ¬ B a → H1 a = none := fun a b n => by
    rcases b with b | b
    · exact absurd b n
    · rw [b]; exact hD
  have hBD : B' D0 := .inr rfl
  have sameD : Same H1 (upd H1 D0 (.lst [])) := same_laid hD
  have s2 : SOk G B' S1 ρ1 (upd H1 D0 (.lst [])) := s1.wide hB2 (fun a b => by
    rcases b with b | b
    · obtain ⟨o, q⟩ := s1.b a b; exact ⟨o, sameD a o q⟩
    · exact ⟨_, by rw [b, upd_same]⟩) sameD
  have eo2 : EnvOk G B' ρ1 (upd H1 D0 (.lst [])) env σ := ((eo.mono e1).wide hB2).mono (Ext.of_same sameD)
  -- the invariant: by the turn and the heap
  let Pv : Nat → Hp → Prop := fun i H' => ∃ (ρ' : List Addr) (S' : Sto) (acc : List D) (avs : List V) (rest : List D), i ≤ ds.length ∧ (∀ (n : Nat) (a : Addr), ρ1[n]? = some a → ρ'[n]? = some a) ∧ (∀ a o, H1 a = some o → a ∉ ρ1 → H' a = some o) ∧ (∀ a, a ∈ ρ' → a ∉ ρ1 → H1 a = none) ∧ D0 ∉ ρ' ∧
    SOk G B' S' ρ' H' ∧ EnvOk G B' ρ' H' env σ ∧ H' D0 = some (.lst avs) ∧ RepL G B' ρ' H' acc avs ∧ lcGo g mt me (wipeE env vs) acc.length (ds.drop i) S' = .ok rest S9 ∧ acc ++ rest = ys
  have h0 : Pv 0 (upd H1 D0 (.lst [])) := ⟨ρ1, S1, [], [], ys, Nat.zero_le _, fun _ _ h => h, fun a o q _ => sameD a o q, fun _ h n => absurd h n, fr.1, s2, eo2, upd_same, by simp only [RepL], by simpa using qr, rfl⟩
  refine ⟨fun i m H' => m = ds.length - i ∧ Pv i H', ⟨_, rfl, h0⟩, ?_⟩
  rintro i m H' ⟨rfl, ρ', S', acc, avs, rest, hi, p1, p2, p3, p4, p5, p6, p7, p8, p9, p10⟩
  -- the source, under the wider protected set
  have hsrc : Src G B' J ds ρ' H' := by
    have ex1 : Ext ρ1 H1 ρ' H' := ⟨p1, p2, p3⟩
    exact hJ B' hB1 hB2 ρ' H' ex1
  by_cases hlt : i < ds.length
  · refine .inr ⟨hsrc.go ρ' H' S' Ext.refl p5 i hlt, fun H2 => Pv (i + 1) H2, fun H2 pv => ⟨ds.length - (i + 1), by omega, rfl, pv⟩, fun x H2 y => ?_⟩
    have hd : ds[i]? = some ds[i] := by simp [hlt]
    obtain ⟨k1, r1⟩ := hsrc.yld ρ' H' S' i x H2 ds[i] Ext.refl p5 hd y
    have hdrop : ds.drop i = ds[i] :: ds.drop (i + 1) := (List.drop_eq_getElem_cons hlt)
    rw [hdrop] at p9
    simp only [lcGo] at p9
    have ek := Ext.of_same (ρ := ρ') k1
    have s3 := p5.same k1
    have eo3 := p6.mono ek
    refine ⟨B', wipeE env vs, S', ρ', ds[i], eo3.wipe vs, s3, r1, ?_⟩
    split at p9
    · cases p9
    · rename_i e' S1' qg
      rw [qg]
      refine fun σ2 ρ2 H3 x2 s4 eo4 kp => ⟨(wipe_kept hts kp).trans (wipe_wipe σ vs), B', e', S1', ρ2, eo4, s4, ?_⟩
      split at p9
      · -- kept
        rename_i S2' qt
        refine Post.noX qt fun ρ3 H4 x3 s5 => ?_
        refine iteT ?_
        split at p9
        · rename_i yv S3' qe
          split at p9
          · rename_i hroom
            split at p9
            · rename_i ys' S4' qrest
              cases p9
              refine ⟨B', e', S2', ρ3, eo4.mono x3, s5, Post.noX qe fun ρ4 H5 x4 s6 w rw' => ?_⟩
              have X : Ext ρ' H' ρ4 H5 := ((ek.trans x2).trans x3).trans x4
              have hD5 : H5 D0 = some (.lst avs) := X.keep D0 _ p7 p4
              have hDρ : D0 ∉ ρ4 := X.out p7 p4
              refine ⟨avs, hD5, by rw [← (p8.length)]; exact Nat.lt_of_le_of_lt (Nat.le_of_ble_eq_true hroom) (by rw [sizeLine_eq]; decide), ρ4, S3', acc ++ [yv], avs ++ [w], ys', hlt, ?_, ?_, ?_, hDρ, grow_sok hBD hDρ s6, grow_env hBD (p6.mono X), upd_same, grow_repL hBD (RepL.append (p8.mono X) (by simp only [RepL]; exact ⟨w, [], rfl, rw', rfl⟩)), ?_, ?_⟩
              · exact fun n a q => X.pre n a (p1 n a q)
              · exact fun a o q n => by
                  have hne : a ≠ D0 := fun z => by rw [z, hD] at q; cases q
                  rw [upd_ne hne]
                  have q2 := p2 a o q n
                  exact X.keep a o q2 (fun z => by rw [p3 a z n] at q; cases q)
              · exact fun a m n => by
                  by_cases hm : a ∈ ρ'
                  · exact p3 a hm n
                  · have z := X.new a m hm
                    cases q : H1 a with
                    | none => rfl
                    | some o => rw [p2 a o q n] at z; cases z
              · simpa using qrest
              · rw [List.append_assoc]; exact p10
            · cases p9
          · cases p9
        · cases p9
      · -- left out
        rename_i S2' qt
        refine Post.noX qt fun ρ3 H4 x3 s5 => ?_
        refine iteF ?_
        have X : Ext ρ' H' ρ3 H4 := (ek.trans x2).trans x3
        have hD5 : H4 D0 = some (.lst avs) := X.keep D0 _ p7 p4
        have hDρ : D0 ∉ ρ3 := X.out p7 p4
        refine ⟨ρ3, S2', acc, avs, rest, hlt, fun n a q => X.pre n a (p1 n a q), fun a o q n => ?_, fun a m n => ?_, hDρ, s5, p6.mono X, hD5, p8.mono X, p9, p10⟩
        · have q2 := p2 a o q n
          exact X.keep a o q2 (fun z => by rw [p3 a z n] at q; cases q)
        · by_cases hm : a ∈ ρ'
          · exact p3 a hm n
          · have z := X.new a m hm
            cases q : H1 a with
            | none => rfl
            | some o => rw [p2 a o q n] at z; cases z
      · cases p9
  · have e : i = ds.length := by omega
    subst e
    refine .inl ⟨hsrc.stop ρ' H' S' Ext.refl p5, ?_⟩
    rw [List.drop_length] at p9
    simp only [lcGo] at p9
    cases p9
    rw [List.append_nil] at p10
    subst p10
    have pr : ∀ (n : Nat) (a : Addr), ρ'[n]? = some a → (ρ' ++ [D0])[n]? = some a := fun n a e => by
      rw [List.getElem?_append_left (List.getElem?_eq_some_iff.mp e).1]; exact e
    have sl : S9.length = ρ'.length := p5.len.symm
    exact P1 (ρ' ++ [D0]) H' ⟨fun n a h => pr n a (p1 n a h), p2, fun a m n => by
      rcases List.mem_append.mp m with m | m
      · exact p3 a m n
      · have : a = D0 := by simpa using m
        rw [this]; exact hD⟩ (p5.adopt hB1 hBD p4 fr.2 p7 p8) _ (by
      simp only [Rep]
      exact ⟨D0, rfl, by rw [sl]; simp⟩)
theorem se_lcN {elt tg iter : Expr} {ifs : List Expr} {scope : Scope} {own : List (Str × Nat)} {pos : Pos} {mi : ML} {g : MG} {mt : MT} {me : M} {ts : List Nat} (hc : X.calm = true) (hN : X.N.Nodup) (hi : SI X W tg iter mi) (ok : BlkOk X.N X.env.scope scope own)
    (hg : ∀ (s : Shared) (H : Hp) (C : Addr) (cl : List (Str × Addr)) (fp : List Addr), SG (X.blk s H scope (compEnvC scope cl C X.env) fp) tg g ts) (ht : ∀ (s : Shared) (H : Hp) (C : Addr) (cl : List (Str × Addr)) (fp : List Addr), PTs (X.blk s H scope (compEnvC scope cl C X.env) fp) ifs (tT ⟨X.K, X.mg⟩ W0 mt))
    (he : ∀ (s : Shared) (H : Hp) (C : Addr) (cl : List (Str × Addr)) (fp : List Addr), SE (X.blk s H scope (compEnvC scope cl C X.env) fp) W0 elt me) (hts : ∀ i ∈ ts, i ∈ own.map (·.2) := by decide) (hs : ∀ x, foldedSetIterable iter X.env x = pure x := by intro _; rfl) :
    SE X W (.ListComp elt [⟨tg, iter, ifs, 0⟩] scope pos) (mLCN mi g mt me (own.map (·.2))) :=
  PE.imp (pe_lc hc hN hi ok hg ht he hs) (tE_lcN hts)
theorem ss_setLcN (i : Nat) {y : Str} {py : Pos} {elt tg iter : Expr} {ifs : List Expr} {scope : Scope} {own : List (Str × Nat)} {pos spos : Pos} {mi : ML} {g : MG} {mt : MT} {me : M} {ts : List Nat} (hc : X.calm = true) (hN : X.N.Nodup)
    (hi : SI X W tg iter mi) (ok : BlkOk X.N X.env.scope scope own)
    (hg : ∀ (s : Shared) (H : Hp) (C : Addr) (cl : List (Str × Addr)) (fp : List Addr), SG (X.blk s H scope (compEnvC scope cl C X.env) fp) tg g ts) (ht : ∀ (s : Shared) (H : Hp) (C : Addr) (cl : List (Str × Addr)) (fp : List Addr), PTs (X.blk s H scope (compEnvC scope cl C X.env) fp) ifs (tT ⟨X.K, X.mg⟩ W0 mt))
    (he : ∀ (s : Shared) (H : Hp) (C : Addr) (cl : List (Str × Addr)) (fp : List Addr), SE (X.blk s H scope (compEnvC scope cl C X.env) fp) W0 elt me)
    (hy : X.N[i]? = some y := by rfl) (hyl : X.env.scope.names.lookup y = some .local := by rfl)
    (hsw : swapsWith (.ListComp elt [⟨tg, iter, ifs, 0⟩] scope pos) (some (.Name y py)) spos.line X.env = pure true := by rfl) (hts : ∀ i ∈ ts, i ∈ own.map (·.2) := by decide) (hs : ∀ x, foldedSetIterable iter X.env x = pure x := by intro _; rfl) :
    SS X W (.Assign [.Name y py] (.ListComp elt [⟨tg, iter, ifs, 0⟩] scope pos) spos) (mAsg (mLCN mi g mt me (own.map (·.2))) (gNm i)) := PS.imp (ps_setLc hc hN hy hyl hsw hi ok hg ht he hs) fun D σ H h => by
  have h := tS_asg (ts := [i]) D σ H h
  refine tE_lcN (mi := mi) (g := g) (mt := mt) (me := me) hts σ H _ ?_
  obtain ⟨B, env, S, ρ, eo, so, P⟩ := h
  refine ⟨B, env, S, ρ, eo, so, Post.mono P (fun d S1 ρ1 H1 e1 s1 P1 v r => ?_) (fun _ _ _ z => z)⟩
  obtain ⟨B2, env2, S2, ρ2, d2, eo2, so2, r2, P2⟩ := P1 v r
  exact P2 _ ρ2 H1 Ext.refl so2 (eo2.set r2 i) kept_set
end
section
variable {env : En} {S : Sto}
theorem mLCN_po {mi : ML} {g : MG} {mt : MT} {me : M} {vs : List Nat} {Q : D → Sto → Prop} {X : XQ} (h : (mLC mi g mt me vs env S).po (fun d S2 => match d with | .lst ys => Q (.ref S2.length) (S2 ++ [.lst ys]) | _ => False) X) : (mLCN mi g mt me vs env S).po Q X := by
  simp only [mLC, mLCN, po_bind] at h ⊢
  refine Rs.po.mono h (fun ds S1 z => ?_) (fun _ _ _ z => z)
  cases q : lcGo g mt me (wipeE env vs) 0 ds S1 with
  | err => rw [q] at z; exact z
  | exc c p S2 => rw [q] at z; exact z
  | ok ys S2 => rw [q] at z; exact z
end
end Ev

/-! Ev, part 28: d.get(k, x). -/
namespace Ev
open PySem L2
section
variable {X : Cx} {W : WX}
def mDGetD (o i x : M) : M := fun env S => (o env S).bind fun d S1 => match dicE S1 d with
  | some _ => (i env S1).bind fun y S2 => (x env S2).bind fun z S3 => (match dicE S3 d, keyD y with
    | some es, some k => .ok ((getE es k).getD z) S3
    | _, _ => .err)
  | none => .err
theorem se_dgetD {o e f : Expr} {mo me mf : M} {apos cpos : Pos} {k : Nat} (hr : RoomG k X.A) (ho : SE X W o mo) (he : SE X W e me) (hf : SE X W f mf) (hbase : attributeBase o "get" X.env (eval o X.env) = eval o X.env := by rfl)
    (hfew : ((backTo cpos (starEach [e, f] X.env)).all (fun x => !x.1) && (backToKw cpos (keywordEach [] X.env)).all (fun x => x.1.isSome)
      && decide (([e, f] : List Expr).length + ([] : List Keyword).length + (if ([] : List Keyword).isEmpty then 0 else 1) < 30)) = true := by rfl)
    (hline : (apos.endLine == cpos.line) = true := by rfl) (htrees : backTo cpos (starEach [e, f] X.env) = [(false, eval e X.env), (false, eval f X.env)] := by rfl) :
    SE X W (.Call (.Attribute o "get" apos) [e, f] [] cpos) (mDGetD mo me mf) :=
  PE.imp (pe_dget2 (by have := room_units hr (n := 0) (by decide); omega) ho he hf ⟨hbase, hfew, hline, htrees⟩) fun σ H Q h => by
    obtain ⟨B, env, S, ρ, eo, so, P⟩ := h
    refine ⟨B, env, S, ρ, eo, so, Post.mono P.bind (fun d S1 ρ1 H1 e1 s1 P1 vx rx => ?_) (fun _ _ _ z => z)⟩
    split at P1
    · rename_i es0 q0
      obtain ⟨a, kvs0, rfl, h1, h2, h3⟩ := dicE_ok s1 rx q0
      refine ⟨a, rfl, .inl ⟨kvs0, .inl h1⟩, B, env, S1, ρ1, eo.mono e1, s1, Post.mono P1.bind (fun y S2 ρ2 H2 e2 s2 P2 vy ry => ⟨B, env, S2, ρ2, (eo.mono e1).mono e2, s2, Post.mono P2.bind (fun z S3 ρ3 H3 e3 s3 P3 vz rz => ?_) (fun _ _ _ z => z)⟩) (fun _ _ _ z => z)⟩
      split at P3
      · rename_i es k q1 q2
        obtain ⟨a', kvs, ea, g1, g2, g3⟩ := dicE_ok s3 ((rx.mono e2).mono e3) q1
        cases ea
        have ek := keyD_ok (ry.mono e3) q2
        subst ek
        refine ⟨valV kvs k, DGet.k g1, ?_⟩
        cases q : getE es k with
        | none =>
          rw [q] at P3
          rw [(getE_ok (k := k) g2 g3).2 q]
          exact P3 ρ3 H3 Ext.refl s3 vz rz
        | some v =>
          rw [q] at P3
          obtain ⟨w, hw, r⟩ := (getE_ok (k := k) g2 g3).1 v q
          rw [hw]
          exact P3 ρ3 H3 Ext.refl s3 w r
      · exact P3.elim
    · exact P1.elim
end
section
variable {env : En} {S : Sto} {Q : D → Sto → Prop} {X : XQ}
@[simp] theorem mDGetD_po {o i x : M} : (mDGetD o i x env S).po Q X = (o env S).po (fun d S1 => opo (dicE S1 d) fun _ => (i env S1).po (fun y S2 => (x env S2).po (fun z S3 => opo (dicE S3 d) fun es => opo (keyD y) fun k => Q ((getE es k).getD z) S3) X) X) X := by
  simp only [mDGetD, po_bind]; congr; funext d S1
  cases dicE S1 d with
  | none => rfl
  | some es0 =>
    simp only [po_bind, opo_some]; congr; funext y S2; congr; funext z S3
    cases dicE S3 d with
    | none => rfl
    | some es => cases keyD y <;> rfl
end
end Ev

/-! Ev, part 29: raise of an own class without an own __init__; a lambda without parameters handed to a def that tries it. -/
namespace Ev
open PySem PySem.Spec PyProof.Rows L2

/-! ### raise C() -/
/-- an own exception class without own __init__ -/
structure ExcN (K : PySem.W.Frag) (mg : Str → Option Value) (x : Str) : Prop where
  ex : ∃ (C : Addr) (bmB : List Value) (B newId initId : String), ExcBaseFacts B newId initId bmB ∧ PySem.W.excIn K C bmB newId = true ∧ mg x = some (.ref C) ∧ PySem.W.keepIn K (.ref C) = true ∧
    PySem.W.subIn K (.ref C) (.type "BaseException") = some true ∧ PySem.W.typeIn K (.ref C) = some (.type "type")
def mRaise0 (c : Str) : MS := fun env S => some (.xc env c none, S)
section
variable {X : Cx} {W : WX}
theorem pmk_own0 {C : Addr} {bmB : List Value} {B newId initId : String} {x : Str} {p pos : Pos} (F : ExcBaseFacts B newId initId bmB) (q : PySem.W.excIn X.K C bmB newId = true) (gC : X.mg x = some (.ref C)) (kC : PySem.W.keepIn X.K (.ref C) = true) (r : Raises X (.ref C)) (hg : Gl X x)
    (hdb : (x == ("__debug__" : Str)) = false) : PMk X (.Call (.Name x p) [] [] pos) (fun _ H Q => Q (.ref C) none H) := by
  intro pins s σ H Q I h
  apply wpAny_Call_Name_kw
  apply ld_glob I hg gC _ hdb
  apply PySem.W.callWith_K0 I.kIn kC
  obtain ⟨bm, N, nm, qn, bs, hdct, sn, sub, ab, col, dd, k0, k1, k2, k3, k5, mN, hC, hN, hni, T⟩ := exc_obj I.kIn q
  show wpAny _ _ (call (.ref C) []) _ _ _
  exact wpAny_call_exc_subT F T hC hN hni (fun h' e hm => mk_of I hm r h (I.hok.gone hm.new)) (by show 0 ≤ sizeLine; exact Nat.zero_le _)
theorem ss_raise0 {x : Str} {p p2 pos : Pos} (F : ExcN X.K X.mg x) (hc : X.calm = true) (tk : L2.Takes X W) (hg : Gl X x := by rfl) (hdb : (x == ("__debug__" : Str)) = false := by decide) :
    SS X W (.Raise (some (.Call (.Name x p) [] [] p2)) none pos) (mRaise0 x) := by
  obtain ⟨C, bmB, B, newId, initId, hF, hq, gC, kC, e1, e2⟩ := F.ex
  refine PS.imp (ps_raise hc tk (pmk_own0 hF hq gC kC (raises_own e1 e2) hg hdb)) fun D σ H h => ?_
  obtain ⟨B, env, S, ρ, eo, so, P⟩ := h
  exact P σ ρ H C none Ext.refl so eo ⟨gC, rfl⟩
end

/-! ### a lambda -/
/-- what is known of the def in which the lambda stands -/
structure LamG (X : Cx) (x : Str) : Prop where
  tb : LamX.TabB X.base X.mg (He.cT X.K (x, none)).1 (He.cT X.K (x, none)).2
  code : X.env.code = .ref (He.cT X.K (x, none)).1
section
variable {X : Cx} {pins : List (Addr × Obj)} {σ : L2.St} {H : Hp} {s : Shared}
theorem set_self {α : Type} : ∀ {l : List α} {n : Nat} {a : α}, l[n]? = some a → l.set n a = l
  | [], n, a, h => by simp at h
  | x :: xs, 0, a, h => by
    simp only [List.getElem?_cons_zero, Option.some.injEq] at h
    simp [h]
  | x :: xs, n + 1, a, h => by
    simp only [List.getElem?_cons_succ] at h
    simp [set_self h]
/-- the lambda is made: its code object is new, or found in the table -/
theorem lam_make3 {x : Str} {n : Nat} {S : Sto} {ρ : List Addr} {B : Addr → Prop} {params : Arguments} {body : Expr} {scope : Scope} {pos : Pos} {E : Value → Shared → Prop} {Q : Value → Shared → Prop} (I : Inv X pins σ H s) (LG : LamG X x)
    (hS : S[n]? = some (.tbl x (X.env.qual ++ "<lambda>"))) (so : SOk ⟨X.K, X.mg⟩ B S ρ H) (hdef : defaultsOf params X.env = ([], [])) (hfree : ∀ y ∈ scope.names, y.2 = .free → ∃ c, X.env.cells.lookup y.1 = some c)
    (h : ∀ (f c' : Addr) (pm ctv : Value) (H1 : Hp) (s' : Shared), Inv X pins σ H1 s' → Ext ρ H ρ H1 → SOk ⟨X.K, X.mg⟩ B S ρ H1 →
      s'.heap.get? f = some (PySem.W.kla_obj "<lambda>" (X.env.qual ++ "<lambda>") params body scope (cloFrom X.env.cells scope.names []) pm c' ctv) → H1 f = none → f ∉ frs X.stack → H1 c' = some (LamX.CodeO c' (X.env.qual ++ "<lambda>")) → Q (.ref f) s') :
    wpAny (model X.prog X.w) X.A (eval (.Lambda params body scope pos) X.env) Q E s := by
  have hl : n < ρ.length := by rw [so.len]; exact (List.getElem?_eq_some_iff.mp hS).1
  have hn : ρ[n]? = some ρ[n] := by simp [hl]
  have ob := so.ob n _ _ hS hn
  obtain ⟨eP, ps, hP, ht, ha⟩ := ob
  generalize ρ[n] = P at hn eP hP
  have eP : P = (He.cT X.K (x, none)).2 := eP
  have TB := LG.tb
  rw [← eP] at TB
  refine PySem.W.kla_eval hdef ?_
  have bP : s.heap.BuiltinsAt X.mg P := TB.bm.keeps I.bk
  have hP' : s.heap.get? P = some { cls := .none, data := .fields ps } := I.hok P _ hP
  have nofr : ∀ f, s.heap.objs.size ≤ f → f ∉ frs X.stack := fun f hf z => by
    rcases List.mem_cons.mp (I.stkSub _ z) with e | e
    · have h1 := I.lt
      rw [← e] at h1
      exact Nat.lt_irrefl _ (Nat.lt_of_lt_of_le h1 hf)
    · exact I.nofs hf e
  cases hc : codeAmong pos ps.toList with
  | none =>
    refine PySem.W.kla_makeFunction (mg := X.mg) (P := P) (ps := ps) (closure_ok hfree) I.ok.glob (I.mod.glob.keeps I.bk) LG.code (TB.code.keeps I.bk) hP' ht hc TB.gP bP fun c' ctv h' tk hx hge hlt hrec htb => ?_
    obtain ⟨c2, oc, vs, t, e2, hoc, hd, hv⟩ := hrec
    cases e2
    have hsz : s.heap.objs.size ≤ h'.objs.size := Nat.le_trans hge (Nat.le_of_lt hlt)
    have nC : H c' = none := I.hok.fresh hge
    have nPc : P ≠ c' := ne_of_none hP nC
    have I1 := LamX.inv_table (t' := tk) (more := #[rawInt pos.line, rawInt pos.col, .ref c']) (h' := h'.push (PySem.W.kla_obj "<lambda>" (X.env.qual ++ "<lambda>") params body scope (cloFrom X.env.cells scope.names []) ((X.mg "__name__").getD .none) c' ctv)) I hP
      (fun b o hb e => Heap.get?_push_of_some _ (hx b o hb e)) (Heap.get?_push_of_some _ htb) hge ⟨oc, vs, t, Heap.get?_push_of_some _ hoc, hd, hv⟩
    have eL : (ps ++ #[rawInt pos.line, rawInt pos.col, .ref c']).toList = ps.toList ++ [rawInt pos.line, rawInt pos.col, .ref c'] := by simp
    have eH : upd (upd H P (.tbl (ps ++ #[rawInt pos.line, rawInt pos.col, .ref c']))) c' (LamX.CodeO c' (X.env.qual ++ "<lambda>")) = upd (upd H c' (LamX.CodeO c' (X.env.qual ++ "<lambda>"))) P (.tbl (ps ++ #[rawInt pos.line, rawInt pos.col, .ref c'])) := by
      funext b
      by_cases h1 : b = c'
      · rw [h1, upd_same, upd_ne (Ne.symm nPc), upd_same]
      · by_cases h2 : b = P
        · rw [h2, upd_same, upd_ne nPc, upd_same]
        · rw [upd_ne h1, upd_ne h2, upd_ne h2, upd_ne h1]
    rw [eH] at I1
    have hm : P ∈ ρ := List.mem_iff_getElem?.mpr ⟨n, hn⟩
    have so1 : SOk ⟨X.K, X.mg⟩ B S ρ (upd H c' (LamX.CodeO c' (X.env.qual ++ "<lambda>"))) := so.laid nC
    have new : ObA ⟨X.K, X.mg⟩ B ρ (upd (upd H c' (LamX.CodeO c' (X.env.qual ++ "<lambda>"))) P (.tbl (ps ++ #[rawInt pos.line, rawInt pos.col, .ref c']))) (.tbl x (X.env.qual ++ "<lambda>")) P := by
      refine ⟨eP, _, upd_same, by rw [eL]; exact PySem.TriplesOk_snoc _ _ _ _ ht, fun p' cv hcv => ?_⟩
      rw [eL] at hcv
      rcases LamX.among_app _ ht hcv with z | z
      · obtain ⟨c0, e1, e2, e3⟩ := ha p' cv z
        have n0 : c0 ≠ P := fun q => by
          rw [q, hP] at e2
          exact LamX.codeO_ne _ (Option.some.inj e2).symm
        exact ⟨c0, e1, by rw [upd_ne n0, upd_ne (ne_of_none e2 nC)]; exact e2, e3⟩
      · exact ⟨c', z, by rw [upd_ne (Ne.symm nPc), upd_same], so.fresh nC⟩
    have so2 := so1.write hn new
    rw [set_self hS] at so2
    refine h h'.objs.size c' ((X.mg "__name__").getD .none) ctv _ _ I1 ((Ext.laid nC).trans (Ext.write hm)) so2 (Heap.get?_push_size _ rfl) ?_ (nofr _ hsz) (by rw [upd_ne (Ne.symm nPc), upd_same])
    have n1 : h'.objs.size ≠ c' := Nat.ne_of_gt hlt
    have n2 : h'.objs.size ≠ P := Nat.ne_of_gt (Nat.lt_of_lt_of_le (Heap.lt_size hP') hsz)
    rw [upd_ne n2, upd_ne n1]
    exact I.hok.fresh hsz
  | some cv =>
    obtain ⟨c', e, hco, _⟩ := ha pos cv hc
    subst e
    refine PySem.W.kla_makeFunctionHit (mg := X.mg) (P := P) (ps := ps) (closure_ok hfree) I.ok.glob (I.mod.glob.keeps I.bk) LG.code (TB.code.keeps I.bk) hP' ht hc bP fun ctv h' tk hx hsz => ?_
    have I1 : Inv X pins σ H { s with heap := h'.push (PySem.W.kla_obj "<lambda>" (X.env.qual ++ "<lambda>") params body scope (cloFrom X.env.cells scope.names []) ((X.mg "__name__").getD .none) c' ctv), toks := tk } := I.kept fun b o e => Heap.get?_push_of_some _ (hx b o e)
    exact h h'.objs.size c' ((X.mg "__name__").getD .none) ctv H _ I1 Ext.refl so (Heap.get?_push_size _ rfl) (I.hok.fresh hsz) (nofr _ hsz) hco
/-- x(), in the def that got the lambda, no repr under way -/
theorem pe_actG {CXg : CXT} {Eg : XK} {Ng : List Str} {qg : Str} {sg : Scope} {g f c' : Addr} {cdg pm ctv : Value} {params : Arguments} {body : Expr} {scope : Scope} {k i : Nat} {a : Str} {pn : List (Addr × Obj)} {xe : Value → Shared → Prop} {W : WX} {E : XK} {tb : TE} {p1 p2 : Pos}
    (I : Inv X pins σ H s) (L : LamX.LamS X.env.scope scope) (hf : s.heap.get? f = some (PySem.W.kla_obj "<lambda>" (X.env.qual ++ "<lambda>") params body scope (cloFrom X.env.cells scope.names []) pm c' ctv)) (hfn : H f = none) (hfr : f ∉ frs X.stack)
    (hbind : bindArgs (PySem.W.kla_fn "<lambda>" (X.env.qual ++ "<lambda>") params body scope (cloFrom X.env.cells scope.names []) pm (.ref c') ctv) ⟨[], []⟩ = pure [])
    (tk : Takes ((cxOf CXg X.prog X.w X.K X.mg X.base Ng qg sg g cdg X.A X.stack s H Eg).tr pn xe) W) (hW : ∀ cls d σ' H', E cls d H' → W cls d σ' H') (hr : Room (k + 1) (X.A.deeper (envOfC qg sg s.heap.objs.size g cdg))) (hgu : X.A.guards = some [])
    (hbody : ∀ (A : Around) (outer : List Env) (s : Shared) (H : Hp), RoomG k (A.deeper (LamX.lamEnv X scope s.heap.objs.size f c')) → PE (LamX.lamCx X A outer s H E scope f c') body tb)
    (hN : Ng[i]? = some a) (hv : Vis sg a) (hd : (a == ("__debug__" : Str)) = false) (hcd : (a == ("__classdict__" : Str)) = false) :
    PE ((cxOf CXg X.prog X.w X.K X.mg X.base Ng qg sg g cdg X.A X.stack s H Eg).tr pn xe) (.Call (.Name a p1) [] [] p2)
      (fun σZ HZ Q => σZ[i]? = some (some (.ref f)) ∧ HZ c' = some (LamX.CodeO c' (X.env.qual ++ "<lambda>")) ∧ tb σ HZ Q) := by
  refine ⟨fun pinsZ sZ σZ HZ Q IZ h => ?_⟩
  obtain ⟨hs, hc, ht⟩ := h
  refine wpAny_Call_Name_kw (thn ((pe_var (pos := p1) (i := i) hN hv hd hcd).run pinsZ sZ σZ HZ (fun v H1 => v = .ref f ∧ H1 = HZ) IZ ⟨.ref f, hs, rfl, rfl⟩) fun u s1 ⟨v, H1, I1, r1, q1⟩ => ?_)
  obtain ⟨ev, eH⟩ := q1
  subst ev
  rw [eH] at I1
  obtain rfl : u = Value.ref f := r1
  have of1 : s1.heap.get? f = some (PySem.W.kla_obj "<lambda>" (X.env.qual ++ "<lambda>") params body scope (cloFrom X.env.cells scope.names []) pm c' ctv) := I1.base.keep f _ hf hfn hfr (fun z => nomatch (show f ∈ ([] : List Addr) from z))
  refine PySem.W.callWith_F0 ⟨_, _, _, _, of1⟩ ?_
  have un : Un (frs X.stack) [] H HZ s.heap s1.heap := I1.base
  obtain ⟨⟨oc, vs, t, hoc, hdc, hvc⟩, _, _⟩ := I1.hok c' _ hc
  have rc : codeAny (model X.prog X.w) (X.A.deeper (envOfC qg sg s.heap.objs.size g cdg)) (.call (.ref f) ⟨[], []⟩) (CR (L2.CX X.prog X.w) (envOfC qg sg s.heap.objs.size g cdg :: X.stack) X.prog X.w HZ s1 Q E) s1 := by
    refine PySem.W.kla_callFunE hr.depth of1 rfl L.co L.gen rfl ⟨c', oc, vs, t, rfl, hoc, hdc, hvc⟩ ?_
    rw [hbind]
    refine wpAny_pure (wpAny_newFunctionEnv (fun y hy => (L.own y hy).2) (fun y hy => absurd hy (by simp)) (fun h₁ hns hsb => ⟨I1.nolimit.fresh _ hsb, ?_⟩) L.kind)
    show codeAny _ _ (.expr body (LamX.lamEnv X scope s1.heap.objs.size f c')) _ _
    have kp : ∀ b o, s1.heap.get? b = some o → h₁.get? b = some o := fun b o e => hsb.extBut b o (Nat.ne_of_lt (Heap.lt_size e)) (Heap.get?_push_of_some _ e)
    have J : Inv (LamX.lamCx X (X.A.deeper (envOfC qg sg s.heap.objs.size g cdg)) (envOfC qg sg s.heap.objs.size g cdg :: X.stack) s1 HZ E scope f c') [] σ HZ { s1 with heap := h₁, toks := s1.toks + ([] : List (Str × Value)).length } :=
      LamX.lam_start2 I L I1.env0 hr.hd un hns kp
    refine PySem.W.kla_codeExpr (wpAny_mono ((hbody _ _ s1 HZ ⟨hr.deeper _, hgu⟩).run [] _ _ HZ Q J ht) (fun v s' hq => ?_) fun e s' hq => hq)
    obtain ⟨w', H', J', rv, q⟩ := hq
    exact ⟨w', H', J'.os, J'.bare, J'.base, J'.hok, rv, q⟩
  have hx : Passes (L2.CX X.prog X.w) ((cxOf CXg X.prog X.w X.K X.mg X.base Ng qg sg g cdg X.A X.stack s H Eg).tr pn xe) E := passes_call tk hW
  refine wpAny_call (codeAny_mono rc fun r s' hq => ?_)
  cases r with
  | error e => exact hx pinsZ σZ HZ s1 e s' I1 hq
  | ok fl =>
    cases fl with
    | ret u => exact I1.after hq
    | next => exact False.elim hq
    | brk => exact False.elim hq
    | cont => exact False.elim hq
end

/-! ### told(lambda: ..), told = try: return a() / except e: return ret -/
structure ToldD (K : PySem.W.Frag) (mg : Str → Option Value) (x a e ret : Str) : Prop where
  ex : ∃ (g CS : Addr) (fd : FuncData) (prm : Arguments) (sg : Scope) (j : Nat) (p1 p2 p3 p4 p5 p6 p7 p8 : Pos),
    FunD K x x prm [.Try [.Return (some (.Call (.Name a p1) [] [] p2)) p3] [.ExceptHandler (some (.Name e p4)) none [.Return (some (.Constant (.str ret) j p5)) p6] p7] [] [] p8] sg [] [] g fd ∧
    mg x = some (.ref g) ∧ FnScope [a] [a] sg ∧ Vis sg a ∧ L2.Binds K fd [a] [] ∧ sg.names.lookup e = some .globalImplicit ∧ mg e = some (.ref CS) ∧ PySem.W.exmOne K (.ref CS) (.ref CS) = some true ∧
    (e == ("__debug__" : Str)) = false ∧ (a == ("__debug__" : Str)) = false ∧ (a == ("__classdict__" : Str)) = false
open Classical in
noncomputable def mTold (n : Nat) (x q e ret : Str) (m : M) : M := fun env S => if S[n]? = some (.tbl x q) then (match m env S with
  | .exc c p S' => if c = e then .ok (.str ret) S' else .err
  | r => r) else .err
section
variable {X : Cx} {W : WX}
theorem se_told {n k : Nat} {x0 x a e ret : Str} {params : Arguments} {body : Expr} {scope : Scope} {p lpos pos : Pos} {m : M} (T : ToldD X.K X.mg x a e ret) (LG : LamG X x0) (hr : RoomG (k + 2) X.A) (L : LamX.LamS X.env.scope scope)
    (hbody : ∀ (A : Around) (outer : List Env) (s : Shared) (H : Hp) (E : XK) (f c' : Addr), RoomG k (A.deeper (LamX.lamEnv X scope s.heap.objs.size f c')) → SE (LamX.lamCx X A outer s H E scope f c') (WD E) body m)
    (hdef : defaultsOf params X.env = ([], []) := by rfl)
    (hbind : ∀ (q : Str) (cl : List (Str × Addr)) (pm cv ctv : Value), bindArgs (PySem.W.kla_fn "<lambda>" q params body scope cl pm cv ctv) ⟨[], []⟩ = pure [] := by intros; rfl)
    (hg : Gl X x := by rfl) (hdb : (x == ("__debug__" : Str)) = false := by decide) :
    SE X W (.Call (.Name x p) [.Lambda params body scope lpos] [] pos) (mTold n x0 (X.env.qual ++ "<lambda>") e ret m) := by
  obtain ⟨g, CS, fd, prm, sg, j, p1, p2, p3, p4, p5, p6, p7, p8, F, hm, Sg, hva, hb, hge, hme, hex, hde, hd, hcd⟩ := T.ex
  have hk := F.kp
  obtain ⟨oc, od, dV, kV, doc, pm0, an, cdv, ct, osl, rfl, lk, hcg, _, _⟩ := F.ex
  refine ⟨fun pins s σ H Q I h => ?_⟩
  obtain ⟨B, env, S, ρ, eo, so, P⟩ := h
  have hS : S[n]? = some (.tbl x0 (X.env.qual ++ "<lambda>")) := by
    apply Classical.byContradiction
    intro hn
    unfold mTold at P
    rw [if_neg hn] at P
    exact P
  unfold mTold at P
  rw [if_pos hS] at P
  refine wpAny_Call_Name_kw (ld_glob I hg hm ?_ hdb)
  refine PySem.W.callWith_K (h₀ := X.base) I.ok.mod.kin hk ?_ (by rfl) (by rfl)
  show wpAny _ _ (spliced ((false, eval (.Lambda params body scope lpos) X.env) :: backTo pos (starEach [] X.env))) _ _ s
  refine Calls.spliced_cons (lam_make3 I LG hS so hdef (L.has I.ok) fun f c' pm' ctv H1 s' I1 e1 so1 hf hfn hfr hco => ?_)
  refine Calls.spliced_nil ⟨I1.kIn, ?_⟩
  have rc : codeAny (model X.prog X.w) X.A (.call (.ref g) ⟨[.ref f], []⟩) (CR C8.CX0 X.stack X.prog X.w H1 s' Q C8.E0) s' := by
    refine LamX.run_ofS (N := [a]) (ps := [a]) (us := [.ref f]) (vs := [.ref f]) lk hcg Sg hr.r I1.env0 (hb s' [.ref f] I1.kIn rfl) (.cons rfl .nil) rfl fun hr' => ?_
    have hG := LamX.told_gives (X := X) (Ng := [a]) (x := x) (a := a) (e := e) (q := X.env.qual ++ "<lambda>") (ret := ret) (sg := sg) (g := g) (CS := CS) (cdg := cdv) (j := j) (p1 := p1) (p2 := p2) (p3 := p3) (p4 := p4) (p5 := p5) (p6 := p6) (p7 := p7) (p8 := p8) hge hme hde (fun f => rfl)
    have tt : LamX.TTold X.K CS ret (fun E H' Q' => tE ⟨X.K, X.mg⟩ (WD E) m σ H' Q') H1 Q := by
      refine ⟨B, env, S, ρ, eo.mono e1, so1, ?_⟩
      cases qm : m env S with
      | ok d S' =>
        rw [qm] at P
        exact Post.ext1 P e1
      | exc c pl S' =>
        rw [qm] at P
        intro ρ' H' C d e2 s2 xa
        by_cases hce : c = e
        · subst hce
          have P : Post ⟨X.K, X.mg⟩ B ρ H (Rs.ok (D.str ret) S') (fun d _ ρ' H' => ∀ v, Rep ⟨X.K, X.mg⟩ B ρ' H' d v → Q v H') fun C d H' => W (.ref C) d σ H' := by simpa using P
          have hC : C = CS := by
            have z := xa.1
            have z : X.mg c = some (.ref C) := z
            rw [hme] at z
            cases z
            rfl
          subst hC
          exact ⟨true, hex, fun _ => P ρ' H' (e1.trans e2) s2 _ (by simp only [Rep]), fun z => by cases z⟩
        · simp only [if_neg hce] at P
          exact P.elim
      | err =>
        rw [qm] at P
        exact P.elim
    obtain ⟨t', ht', hq'⟩ := hG f c' s' H1 Q (fun E H' Q' => tE ⟨X.K, X.mg⟩ (WD E) m σ H' Q') (fun W pn xe E p1 p2 tk hW => pe_actG (i := 0) I1 L hf hfn hfr (hbind _ _ _ _ _) tk hW hr' hr.g (fun A outer s H hr2 => hbody A outer s H E f c' hr2) rfl hva hd hcd) hco tt
    exact ⟨t', ht'.nox, hq'⟩
  refine wpAny_call (codeAny_mono rc fun r s2 hq => ?_)
  cases r with
  | error e => exact (show False from hq).elim
  | ok fl =>
    cases fl with
    | ret u => exact I1.after hq
    | next => exact False.elim hq
    | brk => exact False.elim hq
    | cont => exact False.elim hq
end
end Ev

/-! Ev, part 30: defs in which a lambda stands; the law's end with tables. -/
namespace Ev
open PySem PySem.Spec PyProof.Rows L2
section
variable {P : Program} {w : World} {K : PySem.W.Frag} {mg : Str → Option Value} {base : Heap} {k : Nat} {f : Addr} {fd : FuncData} {sp : Sp} {x : Str} {prm : Arguments} {body : List Stmt} {scope : Scope}
/-- FnG.of, the code object told -/
theorem FnG.ofC {qual : Str} {dvs : List V} {kws : List (Str × V)} {N ps : List Str} (F : FunD K x qual prm body scope dvs kws f fd) (sc : FnScope N ps scope) (len : ∀ vs H Q E, sp vs H Q E → vs.length = ps.length) (hf : He.fAd K (x, none) = f)
    (hb : ∀ (cdv : Value) (A : Around) (outer : List Env) (s : Shared) (H : Hp) (vs : List V) (Q : VK) (E : XK), cdv = .ref (He.cT K (x, none)).1 → RoomG k (A.deeper (PyProof.Rows.envOfC qual scope s.heap.objs.size f cdv)) → sp vs H Q E →
      ∃ t, PSs (cxOf (L2.CX P w) P w K mg base N qual scope f cdv A outer s H E) body t ∧ t { nx := fun _ H' => Q .non H', rt := Q } (L2.start N vs) H) : FnG P w K mg base (k + 1) f fd ps sp := by
  obtain ⟨oc, od, dV, kV, doc, pm, an, cdv, ct, osl, rfl, lk, hcd, _, _⟩ := F.ex
  have hcode : cdv = .ref (He.cT K (x, none)).1 := by
    obtain ⟨c, e⟩ := He.codeIn_ref hcd
    rw [← hf] at lk
    have z := He.codeOf_eq lk (c := c) e
    rw [e]
    show Value.ref c = Value.ref (He.codeOf K (x, none))
    rw [z]
  refine ⟨len, fun A outer s H as us vs Q E room e0 bnd rv hsp => ?_⟩
  have inK : K.In s.heap := e0.mod.kin.keeps fun b o e => (e0.bs b o e).1
  have noL : s.heap.NoLimit := e0.mod.nolimit.keeps fun b o e => (e0.bs b o e).1
  have par : ∀ y ∈ ps.zip us, scope.names.lookup y.1 = some .local ∨ (scope.names.lookup y.1 = some .cell ∧ ((cellsFrom (s.heap.objs.size + 1) scope.names []).lookup y.1).isSome = true) := by
    rintro ⟨y, u⟩ hy
    rcases sc.par y (List.of_mem_zip hy).1 with q | q
    · exact Or.inl q
    · exact Or.inr ⟨q, PySem.W.cellsFrom_some _ _ _ (Or.inl q)⟩
  apply codeAny_call_function room.r.depth (inK _ _ lk) rfl sc.co sc.gen rfl (PySem.W.codeRec_of inK hcd)
  apply bnd
  apply wpAny_newFunctionEnv_cells sc.kind par
  rintro env rfl s1 x1
  refine ⟨noL.keeps x1.toInCall.keep, ?_⟩
  apply codeAny_func
  obtain ⟨t, ht, hq⟩ := hb cdv A outer s H vs Q E hcode ⟨room.r.deeper _, room.g⟩ hsp
  have J := inv_start (CX := L2.CX P w) (E := E) (cd := cdv) (f := f) (qual := qual) sc room.r.hd e0 (len _ _ _ _ hsp) rv x1
  refine wpAny_mono (ht.run [] s1 _ H _ J hq) ?_ (fun e s' z => z)
  rintro fl s' z
  cases fl with
  | ret u =>
    obtain ⟨v, σ', H', J', r', q⟩ := z
    exact ⟨v, H', J'.os, J'.bare, J'.base, J'.hok, r', q⟩
  | next =>
    obtain ⟨σ', H', J', q⟩ := z
    exact ⟨.non, H', J'.os, J'.bare, J'.base, J'.hok, rfl, q⟩
  | brk =>
    obtain ⟨_, _, _, q⟩ := z
    exact q.elim
  | cont =>
    obtain ⟨_, _, _, q⟩ := z
    exact q.elim
theorem DefI.ofC {N ps : List Str} {m : MS} {kws : List Shape} (F : FunD K x x prm body scope [] [] f fd) (hm : mg x = some (.ref f)) (sc : FnScope N ps scope) (hb : Binds K fd ps []) (hk : ∀ q ∈ kws, BindsK K fd ps q.1 q.2.1 q.2.2) (hf : He.fAd K (x, none) = f)
    (go : ∀ (cdv : Value) (A : Around) (outer : List Env) (s : Shared) (H : Hp) (E : XK), cdv = .ref (He.cT K (x, none)).1 → RoomG k (A.deeper (PyProof.Rows.envOfC x scope s.heap.objs.size f cdv)) → SSs (cxOf (L2.CX P w) P w K mg base N x scope f cdv A outer s H E) (WD E) body m) :
    DefI P w K mg base (k + 1) x ps (runI N.length m) kws :=
  ⟨f, fd, FnG.ofC F sc len_I hf fun cdv A outer s H vs Q E hc hr h => ⟨_, go cdv A outer s H E hc hr, body_I h⟩, hm, F.kp, hb, hk⟩
end

/-! ### an exception class of the head -/
abbrev ArithmeticError_bm : List Value := [.type "ArithmeticError", .type "Exception", .type "BaseException", .type "object"]
abbrev ValueError_bm : List Value := [.type "ValueError", .type "Exception", .type "BaseException", .type "object"]
abbrev LookupError_bm : List Value := [.type "LookupError", .type "Exception", .type "BaseException", .type "object"]
def excNB (K : PySem.W.Frag) (x : Str) (bm : List Value) (newId : String) : Bool := PySem.W.excIn K (He.ga K x) bm newId && (PySem.W.keepIn K (.ref (He.ga K x)) && (decide (PySem.W.subIn K (.ref (He.ga K x)) (.type "BaseException") = some true) && decide (PySem.W.typeIn K (.ref (He.ga K x)) = some (.type "type"))))
theorem excNB_ok {K : PySem.W.Frag} {mg : Str → Option Value} {x : Str} {bm : List Value} {B newId initId : String} (F : ExcBaseFacts B newId initId bm) (hm : mg x = some (.ref (He.ga K x))) (h : excNB K x bm newId = true) : ExcN K mg x := by
  obtain ⟨h1, h⟩ := He.ba h
  obtain ⟨h2, h⟩ := He.ba h
  obtain ⟨h3, h4⟩ := He.ba h
  exact ⟨_, bm, B, newId, initId, F, h1, hm, h2, of_decide_eq_true h3, of_decide_eq_true h4⟩

/-! ### the law's end with tables -/
/-- the address of a def's table -/
abbrev tabA (K : PySem.W.Frag) (x : Str) : Addr := (He.cT K (x, none)).2
structure TabsK (K : PySem.W.Frag) (ts : List (Str × Str)) (h : Heap) : Prop where
  hd : ∀ t ∈ ts, PySem.W.codeHdIn K (He.cT K (t.1, none)).1 (tabA K t.1) = true
  out : ∀ t ∈ ts, K.lookup (tabA K t.1) = none
  empty : ∀ t ∈ ts, h.get? (tabA K t.1) = some { cls := .none, data := .fields #[] }
  nd : (ts.map fun t => tabA K t.1).Nodup
theorem walkT {l : PySem.W.OpenLaw} {n k : Nat} {q : Program} {loose : List Str} {XP : (Str → Option Value) → Heap → Prop} {YP : World → Heap → Prop} {d : DefRec} {ps : List Str} {g : List D → Sto → Rs D} {ts : List (Str × Str)}
    (hn : l.most = some n) (hn2 : n ≤ sizeLine) (hdf : d.params.defaults = []) (hr : RoomG k callerA) (hp : ps.length = 1)
    (F : ∀ (w : World) (mg : Str → Option Value) (h : Heap), YP w h → h.Ns mainGlobals mg → ∃ K : PySem.W.Frag, K.In h ∧ TabsK K ts h ∧ ∀ base : Heap, K.In base → base.Ns mainGlobals mg →
      (∀ t ∈ ts, LamX.TabB base mg (He.cT K (t.1, none)).1 (tabA K t.1)) → DefI l.prog w K mg base k d.name ps g [])
    (hg : ∀ ns : List Int, ns.length ≤ n → ∃ S', g [.rol (ns.map .int)] (ts.map fun t => .tbl t.1 t.2) = .ok (.bl true) S') : PySem.W.WalkO q loose XP YP l.row.toRowW d [] (fun f vs => PySem.call f vs) := by
  refine Att.attach_call hn hdf fun w s₀ s₁ mg mb fa o pm cd doc a vs ns G Y ho hd hcd hmg hobj hints hlen hgens => ?_
  obtain ⟨K, KX, hc, hF⟩ := F w mg _ Y G.T.g
  obtain ⟨x, rfl⟩ : ∃ x, ps = [x] := by
    match ps, hp with
    | [x], _ => exact ⟨x, rfl⟩
  have rv := vals_ints hints
  have hl : ns.length ≤ sizeLine := Nat.le_trans hlen hn2
  generalize hT : (ts.map fun t => tabA K t.1) = T
  have memT : ∀ t ∈ ts, tabA K t.1 ∈ T := fun t ht => by rw [← hT]; exact List.mem_map.mpr ⟨t, ht, rfl⟩
  have fromT : ∀ b ∈ T, ∃ t ∈ ts, b = tabA K t.1 := fun b hb => by
    rw [← hT] at hb
    obtain ⟨t, ht, e⟩ := List.mem_map.mp hb
    exact ⟨t, ht, e.symm⟩
  have isT : ∀ b ∈ T, s₁.heap.get? b = some { cls := .none, data := .fields #[] } := fun b hb => by
    obtain ⟨t, ht, e⟩ := fromT b hb
    rw [e]
    exact hc.empty t ht
  have aT : a ∉ T := fun z => by
    have q := isT a z
    rw [hobj] at q
    have z' : Data.seq vs.toArray _ = Data.fields #[] := congrArg Obj.data (Option.some.inj q)
    cases z'
  have C : ∀ t ∈ ts, PySem.W.CodeHd s₁.heap (He.cT K (t.1, none)).1 (tabA K t.1) := fun t ht => PySem.W.codeHd_of_K KX (hc.hd t ht)
  have key : ∀ H : Hp, (∀ b ∈ T, H b = some (.tbl #[])) → (∀ b, H b ≠ none → b = a ∨ b ∈ T) → (H a ≠ none → K.lookup a = none) → (∀ b, H b = none ∨ b ∈ T ∨ ∃ o xs, H b = some (.frz o (.lst xs))) → HOk l.prog w H s₁.heap → SqL K H a (ns.map V.int) →
      codeAny (model l.prog w) callerA (.call (.ref fa) ⟨[.ref a], []⟩) (fun r s' => r = .ok (.ret (.bool true)) ∧ OldK s₁.heap s'.heap ∧ s'.os = s₁.os ∧ PyProof.Rows.AllBare s'.gens) s₁ := by
    intro H hH hA hK hO hok hS
    have base_of : ∀ {b : Addr} {o : Obj}, s₁.heap.get? b = some o → H b = none → (hidT s₁.heap H).get? b = some o := fun e n => hidT_get e n
    have noD : ∀ {b : Addr} {o : Obj}, s₁.heap.get? b = some o → (∀ vs n, o.data ≠ .seq vs n) → o.data ≠ .fields #[] → H b = none := fun {b o} e h1 h2 => by
      cases q : H b with
      | none => rfl
      | some u =>
        rcases hA b (by rw [q]; simp) with e' | e'
        · rw [e', hobj] at e
          cases e
          exact (h1 _ _ rfl).elim
        · rw [isT b e'] at e
          cases e
          exact (h2 rfl).elim
    have noA : ∀ {b : Addr} {o : Obj} {es : Array DictEntry} {ep : Nat}, s₁.heap.get? b = some o → o.data = .dict es ep → H b = none := fun {b o es ep} e d => by
      refine noD e (fun vs n z => ?_) fun z => ?_
      · rw [d] at z
        cases z
      · rw [d] at z
        cases z
    have nsK : ∀ {b : Addr} {m : Str → Option Value}, s₁.heap.Ns b m → (hidT s₁.heap H).Ns b m := fun {b m} ⟨o, es, ep, e, d, r⟩ => ⟨o, es, ep, base_of e (noA e d), d, r⟩
    have hKb : K.In (hidT s₁.heap H) := fun b o e => base_of (KX b o e) (by
      cases q : H b with
      | none => rfl
      | some u =>
        rcases hA b (by rw [q]; simp) with e' | e'
        · rw [e'] at e q
          rw [hK (by rw [q]; simp)] at e
          cases e
        · obtain ⟨t, ht, ep⟩ := fromT b e'
          rw [ep, hc.out t ht] at e
          cases e)
    have hM : L2.Mod K mg (hidT s₁.heap H) := ⟨hKb, nsK G.T.g, ⟨mb, nsK G.T.b, G.T.builtins⟩, let ⟨mc, h1, h2⟩ := G.T.nolimit; ⟨mc, nsK h1, h2⟩⟩
    have TB : ∀ t ∈ ts, LamX.TabB (hidT s₁.heap H) mg (He.cT K (t.1, none)).1 (tabA K t.1) := fun t ht => by
      have hTp := hc.empty t ht
      refine ⟨PySem.W.codeHd_of_K hKb (hc.hd t ht), ?_, fun z => ?_⟩
      · obtain ⟨bm, ob, b1, b2, b3, b4, b5, b6⟩ := G.T.bmain
        have nG : bm ≠ mainGlobals := fun q => by
          obtain ⟨o, es, ep, e, hd, _⟩ := G.T.g
          rw [q, e] at b3
          cases b3
          rw [hd] at b6
          cases b6
        have nP : bm ≠ tabA K t.1 := fun q => by
          rw [q, hTp] at b3
          cases b3
          cases b6
        refine ⟨bm, ob, b1, b2, nG, nP, base_of b3 (noD b3 (fun vs n z => ?_) fun z => ?_), b4, b5, b6⟩
        · rw [b6] at z
          cases z
        · rw [b6] at z
          cases z
      · obtain ⟨o, es, ep, e, hd, _⟩ := G.T.g
        rw [z, hTp] at e
        cases e
        cases hd
    have e0 : Env0 l.prog w K mg (hidT s₁.heap H) callerA [] s₁ H := ⟨rfl, hM, fun b o e => of_hidT e, Nat.le_of_eq (hidT_size _ _), trivial, fun b hb => absurd (show b ∈ ([] : List Addr) from hb) (by simp), hok, .of_eq hgens⟩
    obtain ⟨f, fd, FG, hm, hk, hb, _⟩ := (hF _ hKb (nsK G.T.g) TB).ex
    have ef := hmg.symm.trans hm
    cases ef
    have bnd := hb s₁ [.ref a] KX rfl
    refine codeAny_mono (FG.go callerA [] s₁ H ⟨[.ref a], []⟩ [.ref a] [.ref a] (fun v _ => v = .bl true) (fun _ _ _ => False) hr e0 bnd (.cons rfl .nil) ?_) fun r s' h => ?_
    · refine ⟨fun _ => False, ts.map fun t => .tbl t.1 t.2, T, [.rol (ns.map .int)], ?_, ?_, rfl, ?_⟩
      · refine ⟨by rw [← hT]; simp, by rw [← hT]; exact hc.nd, fun a b => b.elim, fun a _ b => b, fun i o b h1 h2 => ?_⟩
        rw [List.getElem?_map] at h1
        rw [← hT, List.getElem?_map] at h2
        cases qt : ts[i]? with
        | none => rw [qt] at h1; cases h1
        | some t =>
          rw [qt] at h1 h2
          simp only [Option.map_some, Option.some.injEq] at h1 h2
          subst h1 h2
          refine ⟨rfl, #[], hH _ (memT t (List.mem_of_getElem? qt)), trivial, fun pos cv hcv => ?_⟩
          have z : codeAmong pos [] = some cv := hcv
          simp [codeAmong] at z
      · simp only [RepL]
        refine ⟨_, _, rfl, ?_, rfl⟩
        simp only [Rep]
        refine ⟨a, ns.map V.int, rfl, ?_, ?_⟩
        · rcases hS with z | z
          · exact .inl ⟨z, aT, by simp⟩
          · exact .inr z
        · clear hS hints hlen hl rv
          induction ns with
          | nil => simp only [List.map_nil, RepL]
          | cons i is ih =>
            simp only [List.map_cons, RepL]
            exact ⟨_, _, rfl, by simp only [Rep], ih⟩
      · obtain ⟨S', hS'⟩ := hg ns hlen
        rw [hS']
        intro ρ' H' _ _ v r
        simpa only [Rep] using r
    · cases r with
      | error e =>
        obtain ⟨_, _, _, _, _, _, _, _, _, _, _, _, _, z⟩ := h
      | ok fl =>
        cases fl with
        | next => exact h.elim
        | brk => exact h.elim
        | cont => exact h.elim
        | ret u =>
          obtain ⟨v, H', os, bare, un, hok', r', q⟩ := h
          have q' : v = .bl true := q
          subst q'
          obtain rfl : u = Value.bool true := r'
          have stay : ∀ b o, b ∉ T → s₁.heap.get? b = some o → s'.heap.get? b = some o := fun b o nb e => by
            rcases hO b with q | z | ⟨ob, xs, q⟩
            · exact un.keep b o e q (by intro z; exact absurd (show b ∈ ([] : List Addr) from z) (by simp)) (by simp)
            · exact absurd z nb
            · obtain ⟨e1, _⟩ := hok b _ q
              obtain ⟨e2, _⟩ := hok' b _ (un.frzs b ob _ q)
              rw [e] at e1
              cases e1
              exact e2
          have grown : ∀ t ∈ ts, ∃ more : Array Value, s'.heap.get? (tabA K t.1) = some { cls := .none, data := .fields more } := fun t ht => by
            obtain ⟨more, z⟩ := un.tbls _ #[] (hH _ (memT t ht))
            exact ⟨_, hok' _ _ z⟩
          refine ⟨rfl, ⟨fun b o e => ?_, fun b o e => ?_⟩, os, bare⟩
          · by_cases hb : b ∈ T
            · obtain ⟨t, ht, ep⟩ := fromT b hb
              obtain ⟨more, hm⟩ := grown t ht
              rw [ep] at e ⊢
              rw [hc.empty t ht] at e
              cases e
              exact .inr (.inl ⟨((C t ht).tab (hc.empty t ht)).isCodeTable, rfl, #[], more, rfl, by rw [Array.empty_append]; exact hm⟩)
            · exact .inl (stay b o hb e)
          · by_cases hb : b ∈ T
            · obtain ⟨t, ht, ep⟩ := fromT b hb
              obtain ⟨more, hm⟩ := grown t ht
              rw [ep]
              exact ⟨_, hm⟩
            · exact ⟨o, stay b o hb e⟩
  cases hk : K.lookup a with
  | some o =>
    have e := KX a o hk
    rw [hobj] at e
    cases e
    refine key (fun b => if b ∈ T then some (.tbl #[]) else none) (fun b hb => if_pos hb) (fun b z => ?_) (fun z => absurd (show (if a ∈ T then some (HO.tbl #[]) else none) = none from if_neg aT) z) (fun b => ?_) (fun b u z => ?_) (.inr ⟨_, vs.toArray, _, hk, rfl, rfl, rfl, by rw [List.size_toArray, hints.length]; exact hl, by simpa using rv⟩)
    · by_cases hb : b ∈ T
      · exact .inr hb
      · exact absurd (if_neg hb) z
    · by_cases hb : b ∈ T
      · exact .inr (.inl hb)
      · exact .inl (if_neg hb)
    · by_cases hb : b ∈ T
      · have z' := (if_pos hb).symm.trans z
        cases z'
        exact isT b hb
      · have z' := (if_neg hb).symm.trans z
        cases z'
  | none =>
    refine key (fun b => if b = a then some (.frz { cls := .type "list", data := .seq vs.toArray } (.lst (ns.map V.int))) else if b ∈ T then some (.tbl #[]) else none) (fun b hb => (if_neg (show ¬ b = a from fun z => aT (by rw [← z]; exact hb))).trans (if_pos hb)) (fun b z => ?_) (fun _ => hk) (fun b => ?_) (fun b u z => ?_)
      (.inl (.inr ⟨{ cls := .type "list", data := .seq vs.toArray }, if_pos rfl⟩))
    · by_cases hb : b = a
      · exact .inl hb
      · by_cases hb2 : b ∈ T
        · exact .inr hb2
        · exact absurd ((if_neg hb).trans (if_neg hb2)) z
    · by_cases hb : b = a
      · exact .inr (.inr ⟨_, _, if_pos hb⟩)
      · by_cases hb2 : b ∈ T
        · exact .inr (.inl hb2)
        · exact .inl ((if_neg hb).trans (if_neg hb2))
    · by_cases hb : b = a
      · have z' := (if_pos hb).symm.trans z
        cases z'
        rw [hb]
        exact ⟨hobj, by rw [List.length_map]; exact hl, vs, _, rv, hobj⟩
      · have z1 := (if_neg hb).symm.trans z
        by_cases hb2 : b ∈ T
        · have z' := (if_pos hb2).symm.trans z1
          cases z'
          exact isT b hb2
        · have z' := (if_neg hb2).symm.trans z1
          cases z'
end Ev

/-! Ev, part 31: try with handlers that are walked; the exception that is held is plain data there. -/
namespace Ev
open PySem PySem.Spec PyProof.Rows L2

/-! ### the exception is laid among what is tracked -/
def exv (a : Addr) (oe : Obj) : HO := .ext fun h => h.get? a = some oe
theorem exv_not {a b : Addr} {oe : Obj} : (exv a oe : HO) ≠ .own b := fun z => by
  have z2 : HO.ext _ = HO.own b := z
  cases z2
section
variable {X : Cx} {pins : List (Addr × Obj)} {σ : L2.St} {H : Hp} {s : Shared} {a : Addr} {oe : Obj} {vs : Array Value}
theorem layX (I : Inv X pins σ H s) (ha : s.heap.get? a = some oe) (hd : oe.data = .fields vs) (na : H a = none) (n0 : X.s_0.heap.get? a = none) (nL : a ≠ X.env.locals) (nP : ∀ p ∈ X.pn ++ pins, p.1 ≠ a) : Inv X pins σ (upd H a (exv a oe)) s := by
  have ne : ∀ {b : Addr} {o : HO}, H b = some o → b ≠ a := fun q => ne_of_none q na
  have nC : ∀ x c, X.env.cells.lookup x = some c → c ≠ a := fun x c e z => by
    obtain ⟨v, o, ho, hv⟩ := I.cell x c e
    rw [z, ha] at ho
    cases ho
    rw [hd] at hv
    cases hv
  refine ⟨I.ok, I.os, I.bare, ⟨I.base.keep, I.base.slot, fun b o e n hb => ?_, I.base.there, fun b xs q => ?_, fun b o xs q => ?_, fun b ps q => ?_⟩, I.loc, I.cell, ?_, fun x c e => ?_, fun p hp => ?_, fun b o q => ?_, I.len⟩
  · have nb : b ≠ a := fun z => by rw [z, n0] at e; cases e
    rw [upd_ne nb]
    exact I.base.free b o e n hb
  · have z := I.base.tups b xs q
    rw [upd_ne (ne z)]; exact z
  · have z := I.base.frzs b o xs q
    rw [upd_ne (ne z)]; exact z
  · obtain ⟨m, z⟩ := I.base.tbls b ps q
    exact ⟨m, by rw [upd_ne (ne z)]; exact z⟩
  · rw [upd_ne (Ne.symm nL)]; exact I.free
  · rw [upd_ne (nC x c e)]; exact I.freeC x c e
  · obtain ⟨e1, e2, e3⟩ := I.pin p hp
    exact ⟨e1, by rw [upd_ne (nP p hp)]; exact e2, e3⟩
  · by_cases hb : b = a
    · subst hb
      rw [upd_same] at q
      cases q
      exact ⟨ha, ⟨_, ha⟩, fun h1 h2 z k => k _ z⟩
    · rw [upd_ne hb] at q
      exact (I.hok b o q).stay (fun c v _ z => z) (fun c hc => by rw [upd_ne (ne hc)]; exact hc) fun c xs hc => by rw [upd_ne (ne hc)]; exact hc
theorem suite0 (I : Inv X pins σ H s) : Inv (X.suite a (X.pn ++ pins)) [] σ H s :=
  ⟨I.ok.suite _ _, I.os, I.bare, I.base, I.loc, I.cell, I.free, I.freeC, fun p hp => I.pin p (by rw [List.append_nil] at hp; exact hp), I.hok, I.len⟩
theorem unsuite0 {pn' : List (Addr × Obj)} (I : Inv (X.suite a (X.pn ++ pins)) pn' σ H s) (ok : X.Ok) : Inv X pins σ H s :=
  ⟨ok, I.os, I.bare, I.base, I.loc, I.cell, I.free, I.freeC, fun p hp => I.pin p (List.mem_append_left _ hp), I.hok, I.len⟩
end

/-! ### what an except clause names -/
inductive NmC (X : Cx) : List Expr → List Str → List Value → Prop
  | nil : NmC X [] [] []
  | cons {x : Str} {p : Pos} {c : Value} {es : List Expr} {ks : List Str} {cs : List Value} (hg : Gl X x) (hd : (x == ("__debug__" : Str)) = false) (hm : X.mg x = some c) (r : NmC X es ks cs) : NmC X (.Name x p :: es) (x :: ks) (c :: cs)
inductive ClsC (X : Cx) : Expr → List Str → List Value → Prop
  | one {x : Str} {p : Pos} {c : Value} (hg : Gl X x) (hd : (x == ("__debug__" : Str)) = false) (hm : X.mg x = some c) : ClsC X (.Name x p) [x] [c]
  | tup {es : List Expr} {k : Nat} {p : Pos} {x y z : Str} {c d e : Value} (h : NmC X es [x, y, z] [c, d, e]) : ClsC X (.Tuple es k p) [x, y, z] [c, d, e]
theorem splN {X : Cx} {pins : List (Addr × Obj)} {σ : L2.St} {H : Hp} {s : Shared} {pos : Pos} {E : Value → Shared → Prop} (I : Inv X pins σ H s) : ∀ {es : List Expr} {ks : List Str} {cs : List Value} {Q : List Value → Shared → Prop}, NmC X es ks cs → Q cs s →
    wpAny (model X.prog X.w) X.A (spliced (backTo pos (starEach es X.env))) Q E s
  | _, _, _, _, .nil, h => Calls.spliced_nil h
  | _, _, _, _, .cons (es := es) (p := p) hg hd hm r, h => by
    show wpAny _ _ (spliced ((false, eval (.Name _ p) X.env) :: backTo pos (starEach es X.env))) _ _ s
    exact Calls.spliced_cons (ld_glob I hg hm (splN I r h) hd)
end Ev

/-! Ev, part 32: the rule for try. -/
namespace Ev
open PySem PySem.Spec PyProof.Rows L2

theorem flying_up {B : Heap} {l : List Env} {a : Addr} {Z : Obj → Prop} {h h1 : Heap} (k : ∀ b o, h.get? b = some o → h1.get? b = some o) (f : HandSPX.FlyingZ B l a Z h) : HandSPX.FlyingZ B l a Z h1 := by
  obtain ⟨f1, f2, f3, oe, vs, T, oT, ts, g1, g2, g3, g4, g5, g6, g7, g8, g9⟩ := f
  exact ⟨fun b o e => k b o (f1 b o e), f2, f3.of_keeps fun b o e _ => ⟨o, k b o e, rfl⟩, oe, vs, T, oT, ts, k _ _ g1, g2, g3, g4, g5, g6, k _ _ g7, g8, g9⟩
/-- what the clause names is evaluated, the exception is held against it -/
theorem cls_test {X : Cx} {pins : List (Addr × Obj)} {σ : L2.St} {H : Hp} {s : Shared} {a : Addr} {ce : Expr} {ks : List Str} {cs : List Value} {cls : Value} {b : Bool} {Q : Bool → Shared → Prop} {E E2 : Value → Shared → Prop} (I : Inv X pins σ H s) (hc : ClsC X ce ks cs)
    (LT : PySem.W.Looks (model X.prog X.w) s.heap (typeOf (.ref a)) cls) (hx : PySem.W.exmAny X.K cls cs = some b) (h : ∀ h1, (∀ b o, s.heap.get? b = some o → h1.get? b = some o) → Q b { s with heap := h1 }) :
    wpAny (model X.prog X.w) X.A (eval ce X.env) (fun c s1 => wpAny (model X.prog X.w) X.A (excMatches (.ref a) c) Q E2 s1) E s := by
  cases hc with
  | one hg hd hm =>
    obtain ⟨b1, d1, x1, y1, z1⟩ := PySem.W.exmAny_cons hx
    have y1 : some false = some d1 := y1
    cases y1
    have eb : b = b1 := by rw [z1, Bool.or_false]
    subst eb
    have LM := PySem.W.exm_one (M := model X.prog X.w) I.kIn LT x1
    exact ld_glob I hg hm (LM.here (h s.heap fun _ _ e => e)) hd
  | @tup es k p x y z c d e hn =>
    refine wpAny_Tuple_spliced (splN I hn ⟨by show 3 ≤ sizeLine; rw [sizeLine_eq]; decide, ?_⟩)
    have kk : ∀ b o, s.heap.get? b = some o → (s.heap.push { cls := .type "tuple", data := .seq [c, d, e].toArray }).get? b = some o := fun _ _ q => Heap.get?_push_of_some _ q
    have LM := PySem.W.exm_tup3 (M := model X.prog X.w) (tp := s.heap.objs.size) (I.kIn.keeps kk) (LT.keeps kk) (Heap.get?_push_size _ rfl) hx
    exact LM.here (h _ kk)

/-- the slot of the clause's name -/
def σX : Option Nat → Addr → L2.St → L2.St
  | none, _, σ => σ
  | some i, a, σ => σ.set i (some (.ref a))
def endsX : Option Nat → Ends → Ends
  | none, D => D
  | some i, D => { nx := fun σ' H' => D.nx (σ'.set i none) H', rt := D.rt, bk := fun σ' H' => D.bk (σ'.set i none) H', ct := fun σ' H' => D.ct (σ'.set i none) H' }
abbrev ClX := List Value × Option Nat × TS
def wX (K : PySem.W.Frag) (Wout : L2.WX) (D : Ends) : List ClX → L2.WX
  | [] => Wout
  | (cs, i, ts) :: r => fun cls d σ H => ∃ b, PySem.W.exmAny K cls cs = some b ∧ (b = true → ∀ a oe, H a = none → Zc cls d oe → (∃ vs, oe.data = .fields vs) → ts (endsX i D) (σX i a σ) (upd H a (exv a oe))) ∧ (b = false → wX K Wout D r cls d σ H)
inductive HdsX (X : Cx) : List ExceptHandler → List ClX → Prop
  | nil : HdsX X [] []
  | cons0 {ce : Expr} {ks : List Str} {cs : List Value} {ts : TS} {b₀ : Stmt} {suite : List Stmt} {p : Pos} {hds : List ExceptHandler} {l : List ClX} (hc : ∀ a pn, ClsC (X.suite a pn) ce ks cs) (hsu : ∀ (a : Addr) (pn : List (Addr × Obj)), PSs (X.suite a pn) (b₀ :: suite) ts) (r : HdsX X hds l) :
      HdsX X (.ExceptHandler (some ce) none (b₀ :: suite) p :: hds) ((cs, none, ts) :: l)
  | cons1 {ce : Expr} {ks : List Str} {cs : List Value} {i : Nat} {n : Str} {ts : TS} {b₀ : Stmt} {suite : List Stmt} {p : Pos} {hds : List ExceptHandler} {l : List ClX} (hc : ∀ a pn, ClsC (X.suite a pn) ce ks cs) (hi : X.N[i]? = some n) (hl : X.env.kindOf n = some .local)
      (hsu : ∀ (a : Addr) (pn : List (Addr × Obj)), PSs (X.suite a pn) (b₀ :: suite) ts) (r : HdsX X hds l) : HdsX X (.ExceptHandler (some ce) (some n) (b₀ :: suite) p :: hds) ((cs, some i, ts) :: l)
section
variable {X : Cx} {body : List Stmt} {h₀ : ExceptHandler} {hds : List ExceptHandler} {l : List ClX} {pos : Pos} {tb : L2.WX → TS} {Wout : L2.WX}
theorem ps_tryX (hs : X.stack = X.env :: X.outer) (hf : X.env.frame = some X.env.locals) (hex : X.ex = []) (hN : X.N.Nodup) (tk : L2.Takes X Wout)
    (hb : ∀ (W : L2.WX) (pn : List (Addr × Obj)) (xe : Value → Shared → Prop), L2.Takes (X.tr pn xe) W → PassesOwn (model X.prog X.w) X.A X.env xe → PSs (X.tr pn xe) body (tb W))
    (hh : HdsX X (h₀ :: hds) l) : PS X (.Try body (h₀ :: hds) [] [] pos) (fun D σ H => tb (wX X.K Wout D l) D σ H) := by
  refine ⟨fun pins s σ H D I h => ?_⟩
  have ok := I.ok
  have hfr : X.A.frames = some (X.env :: X.outer) := by rw [ok.frames, hs]
  refine wpAny_Try_except ?_
  let xe' : Value → Shared → Prop := fun e s₁ => wpAny (model X.prog X.w) X.A (noteFrame e X.env) (fun _ s₂ => wpAny (model X.prog X.w) X.A (setFlight e none) (fun _ s₃ => wpAny (model X.prog X.w) X.A (handleBy e X.env (h₀ :: hds)) (SP X pins D) X.xe s₃) X.xe s₂) X.xe s₁
  have tk' : L2.Takes (X.tr (X.pn ++ pins) xe') (wX X.K Wout D l) := by
    rintro u s' ⟨a, B, sI, pins', σ1, H1, cls, d, rfl, J', nb, up, sky, na, os, ag, w⟩
    have J : Inv X pins σ1 H1 sI := J'.ofTry ok
    have sky1 : L2.Sky B (X.env :: X.outer) a (Zc cls d) X.env.locals s'.heap := by rw [← hs]; exact sky
    show wpAny (model X.prog X.w) X.A (noteFrame (.ref a) X.env) _ _ _
    refine Sky.land Zc.steady hfr hf sky1 fun hA flA upA => ?_
    obtain ⟨oeA, vsA, heA, hzA, hdA⟩ := flA.there
    have notFr : ∀ {g : Heap} {o : Obj} {vs : Array Value}, g.FunFrames B (X.env :: X.outer) → g.get? a = some o → o.data = .fields vs → a ∉ frs (X.env :: X.outer) := fun {g o vs} ff e dd hm => by
      obtain ⟨_, o2, e2, hnf⟩ := ff.mem hm
      rw [e] at e2
      cases e2
      exact hnf _ dd
    have nfr := notFr flA.2.2.1 heA hdA
    have nL : a ≠ X.env.locals := fun z => nfr (List.mem_filterMap.mpr ⟨X.env, List.mem_cons_self, by rw [hf, z]⟩)
    have nI : sI.heap.get? a = none := by
      cases q : sI.heap.get? a with
      | none => rfl
      | some o =>
        have z := nb a o q (by rw [hs]; exact nfr)
        rw [flA.2.1] at z
        cases z
    have n0 : X.s_0.heap.get? a = none := by
      cases q : X.s_0.heap.get? a with
      | none => rfl
      | some o =>
        obtain ⟨o2, z⟩ := J.base.there a o q (by rw [hex]; simp)
        rw [nI] at z
        cases z
    have nP : ∀ p ∈ X.pn ++ pins, p.1 ≠ a := fun p hp z => by
      have e := (J.pin p hp).1
      rw [z, nI] at e
      cases e
    have land : ∀ {g : Heap}, HandSPX.FlyingZ B (X.env :: X.outer) a (Zc cls d) g → s'.heap.UpToSlots g → Inv X pins σ1 H1 { s' with heap := g } := fun fl u => J.landed nb fl.1 (up.trans u) os ag
    -- clause after clause
    have go : ∀ {hds' : List ExceptHandler} {l' : List ClX}, HdsX X hds' l' → wX X.K Wout D l' cls d σ1 H1 → ∀ g : Heap, HandSPX.FlyingZ B (X.env :: X.outer) a (Zc cls d) g → s'.heap.UpToSlots g →
        wpAny (model X.prog X.w) X.A (handleBy (.ref a) X.env hds') (SP X pins D) X.xe { s' with heap := g } := by
      intro hds' l' hk
      -- the suite's end
      have run : ∀ {ts : TS} {b₀ : Stmt} {suite : List Stmt} {i : Option Nat} {g2 : Heap} {Q : Flow → Shared → Prop} {E2 : Value → Shared → Prop}, (∀ (a : Addr) (pn : List (Addr × Obj)), PSs (X.suite a pn) (b₀ :: suite) ts) → ∀ {s2 : Shared} {σ2 : L2.St} {H2 : Hp} {D2 : Ends},
          Inv (X.suite a (X.pn ++ pins)) [] σ2 H2 s2 → ts D2 σ2 H2 → (∀ f s6, SP (X.suite a (X.pn ++ pins)) [] D2 f s6 → Q f s6) → wpAny (model X.prog X.w) (X.A.mark (some (.ref a))) (execs (b₀ :: suite) X.env) Q E2 s2 :=
        by
        intro ts b₀ suite i g2 Q E2 hsu s2 σ2 H2 D2 S2 ht hq
        exact wpAny_mono ((hsu a (X.pn ++ pins)).run [] s2 σ2 H2 D2 S2 ht) hq fun _ _ z => False.elim z
      induction hk with
      | nil =>
        intro w g fl u
        refine wpAny_handleBy_nil ?_
        obtain ⟨k1, k2, k3, oe, vs, T, oT, tr, he, hz, hd, h1, hr⟩ := id fl
        unfold PySem.passOn
        refine wpAny_bind (wpAny_field he hd h1 ?_)
        rw [if_neg (show ¬ ((Value.ref T == Value.none) = true) from by simp)]
        have fin : wpAny (model X.prog X.w) X.A (setFlight (.ref a) X.env.frame) (fun _ s4 => wpAny (model X.prog X.w) X.A (throw (.ref a) : Sem Flow) (SP X pins D) X.xe s4) X.xe { s' with heap := g } := by
          rw [hf]
          refine HandSPX.setFlight_upZ fl fun g4 hh4 up4 => wpAny_throw (tk _ _ ?_)
          exact ⟨a, B, sI, pins, σ1, H1, cls, d, rfl, J, nb, (up.trans u).trans up4, .inr (.inr (by rw [hs]; exact hh4)), na, os, ag, w⟩
        first
        | exact wpAny_bind fin
        | exact wpAny_bind (wpAny_pure (wpAny_bind fin))
      | @cons0 ce ks cs ts b₀ suite p hds2 l2 hc hsu r ih =>
        intro w g fl u
        obtain ⟨b, hb1, hyes, hno⟩ := w
        obtain ⟨oe1, vs1, he1, hz1, hd1⟩ := fl.there
        have LT : PySem.W.Looks (model X.prog X.w) g (typeOf (.ref a)) cls := fun A Q E s k q => wpAny_typeOf_ref (k _ _ he1) (by rw [hz1.1]; exact q)
        refine wpAny_handleBy_cons (codeAny_handlers_test ?_) nofun
        refine cls_test (suite0 (a := a) (land fl u)) (hc a _) LT hb1 fun g2 k2 => ?_
        have fl2 := flying_up k2 fl
        have u2 : s'.heap.UpToSlots g2 := u.trans fun b o e _ => ⟨o.slots, k2 b o e⟩
        cases b with
        | false => exact ih (hno rfl) g2 fl2 u2
        | true =>
          refine codeAny_handlers_suite (HandSPX.lands_againZ fl2 fun g4 fl4 up4 => ?_)
          obtain ⟨oe4, vs4, he4, hz4, hd4⟩ := fl4.there
          have S4 := suite0 (a := a) (layX (land fl4 (u2.trans up4)) he4 hd4 na n0 nL nP)
          refine run (i := none) (g2 := g) hsu S4 (hyes rfl a oe4 na hz4 ⟨_, hd4⟩) fun f s6 hsp => ?_
          cases f with
          | next =>
            obtain ⟨σ6, H6, S6, q6⟩ := hsp
            exact ⟨σ6, H6, unsuite0 S6 ok, q6⟩
          | brk =>
            obtain ⟨σ6, H6, S6, q6⟩ := hsp
            exact ⟨σ6, H6, unsuite0 S6 ok, q6⟩
          | cont =>
            obtain ⟨σ6, H6, S6, q6⟩ := hsp
            exact ⟨σ6, H6, unsuite0 S6 ok, q6⟩
          | ret v =>
            obtain ⟨v6, σ6, H6, S6, r6, q6⟩ := hsp
            exact ⟨v6, σ6, H6, unsuite0 S6 ok, r6, q6⟩
      | @cons1 ce ks cs i n ts b₀ suite p hds2 l2 hc hi hl hsu r ih =>
        intro w g fl u
        obtain ⟨b, hb1, hyes, hno⟩ := w
        obtain ⟨oe1, vs1, he1, hz1, hd1⟩ := fl.there
        have LT : PySem.W.Looks (model X.prog X.w) g (typeOf (.ref a)) cls := fun A Q E s k q => wpAny_typeOf_ref (k _ _ he1) (by rw [hz1.1]; exact q)
        refine wpAny_handleBy_cons (codeAny_handlers_test ?_) nofun
        refine cls_test (suite0 (a := a) (land fl u)) (hc a _) LT hb1 fun g2 k2 => ?_
        have fl2 := flying_up k2 fl
        have u2 : s'.heap.UpToSlots g2 := u.trans fun b o e _ => ⟨o.slots, k2 b o e⟩
        cases b with
        | false => exact ih (hno rfl) g2 fl2 u2
        | true =>
          refine codeAny_handlers_suite_as (HandSPX.lands_againZ fl2 fun g4 fl4 up4 => ?_)
          obtain ⟨oe4, vs4, he4, hz4, hd4⟩ := fl4.there
          have S4 := suite0 (a := a) (layX (land fl4 (u2.trans up4)) he4 hd4 na n0 nL nP)
          refine store_ok (X := X.suite a (X.pn ++ pins)) (v := .ref a) S4 hN hi (.inl hl) rfl (fun s5 S5 => ?_) (.inr hl)
          have back : ∀ {σ6 : L2.St} {H6 : Hp} {s6 : Shared} {Q : Shared → Prop}, Inv (X.suite a (X.pn ++ pins)) [] σ6 H6 s6 → (∀ s7, Inv X pins (σ6.set i none) H6 s7 → Q s7) →
              wpAny (model X.prog X.w) X.A (do bindName X.env n .none; unbindBehindTheSuite X.env n p) (fun _ s7 => Q s7) X.xe s6 := fun S6 hq => gone_ok (unsuite0 S6 ok) hN hi hl hq
          refine run (i := none) (g2 := g) hsu S5 (hyes rfl a oe4 na hz4 ⟨_, hd4⟩) fun f s6 hsp => ?_
          cases f with
          | next =>
            obtain ⟨σ6, H6, S6, q6⟩ := hsp
            exact back S6 fun s7 J7 => ⟨_, H6, J7, q6⟩
          | brk =>
            obtain ⟨σ6, H6, S6, q6⟩ := hsp
            exact back S6 fun s7 J7 => ⟨_, H6, J7, q6⟩
          | cont =>
            obtain ⟨σ6, H6, S6, q6⟩ := hsp
            exact back S6 fun s7 J7 => ⟨_, H6, J7, q6⟩
          | ret v =>
            obtain ⟨v6, σ6, H6, S6, r6, q6⟩ := hsp
            exact back S6 fun s7 J7 => ⟨v6, _, H6, J7, r6, q6⟩
    exact go hh w hA flA upA
  refine wpAny_mono ((hb (wX X.K Wout D l) (X.pn ++ pins) xe' tk' PassesOwn.looking).run [] s σ H D (I.toTry _) h) (fun f s1 hsp => ?_) (fun e s1 he => he)
  cases f with
  | next =>
    obtain ⟨σ1, H1, J, q⟩ := hsp
    exact wpAny_execs_nil ⟨σ1, H1, J.ofTry ok, q⟩
  | brk =>
    obtain ⟨σ1, H1, J, q⟩ := hsp
    exact ⟨σ1, H1, J.ofTry ok, q⟩
  | cont =>
    obtain ⟨σ1, H1, J, q⟩ := hsp
    exact ⟨σ1, H1, J.ofTry ok, q⟩
  | ret v =>
    obtain ⟨v1, σ1, H1, J, r, q⟩ := hsp
    exact ⟨v1, σ1, H1, J.ofTry ok, r, q⟩
end
end Ev

/-! Ev, part 33: try as a plain function. -/
namespace Ev
open PySem PySem.Spec PyProof.Rows L2

/-- which own exception class is (under) which one -/
structure ExT (K : PySem.W.Frag) (mg : Str → Option Value) (T : Str → Str → Option Bool) : Prop where
  ok : ∀ c k b, T c k = some b → ∃ C D, mg c = some (.ref C) ∧ mg k = some (.ref D) ∧ PySem.W.exmOne K (.ref C) (.ref D) = some b
def anyT (T : Str → Str → Option Bool) (c : Str) : List Str → Option Bool
  | [] => some false
  | k :: r => match T c k, anyT T c r with
    | some b, some d => some (b || d)
    | _, _ => none
theorem anyT_ok {K : PySem.W.Frag} {mg : Str → Option Value} {T : Str → Str → Option Bool} (h : ExT K mg T) {c : Str} {C : Addr} (hc : mg c = some (.ref C)) : ∀ {ks : List Str} {cs : List Value} {b : Bool}, ks.map mg = cs.map some → anyT T c ks = some b → PySem.W.exmAny K (.ref C) cs = some b
  | [], [], b, _, e => by cases e; rfl
  | k :: ks, v :: cs, b, hm, e => by
    simp only [List.map_cons, List.cons.injEq] at hm
    simp only [anyT] at e
    split at e
    · rename_i b1 d1 h1 h2
      cases e
      obtain ⟨C2, D, g1, g2, g3⟩ := h.ok _ _ _ h1
      rw [hc] at g1
      cases g1
      rw [g2] at hm
      cases hm.1
      unfold PySem.W.exmAny
      rw [g3, anyT_ok h hc hm.2 h2]
    · cases e
def exnD (c : Str) : Option (List Str × List D) → D
  | none => .exn c [] []
  | some (ns, ds) => .exn c ns ds
abbrev ClM := List Str × Option Nat × MS
def setX : Option Nat → D → En → En
  | none, _, e => e
  | some i, d, e => e.set i (some d)
def unX : Option Nat → Option (Fl × Sto) → Option (Fl × Sto)
  | none, r => (match r with
    | some (.xc _ _ _, _) => none
    | r => r)
  | some i, r => match r with
    | some (.nx e, S) => some (.nx (e.set i none), S)
    | some (.bk e, S) => some (.bk (e.set i none), S)
    | some (.ct e, S) => some (.ct (e.set i none), S)
    | some (.rt d, S) => some (.rt d, S)
    | _ => none
def hGo (T : Str → Str → Option Bool) (e : En) (c : Str) (p : Option (List Str × List D)) (S : Sto) : List ClM → Option (Fl × Sto)
  | [] => some (.xc e c p, S)
  | (ks, i, h) :: r => match anyT T c ks with
    | some true => unX i (h (setX i (exnD c p) e) S)
    | some false => hGo T e c p S r
    | none => none
def mTry (T : Str → Str → Option Bool) (b : MS) (cs : List ClM) : MS := fun env S => match b env S with
  | some (.xc e c p, S1) => hGo T e c p S1 cs
  | r => r
/-- a wish that nothing fulfils -/
abbrev WF : L2.WX := fun _ _ _ _ => False
section
variable {G : GC} {B : Addr → Prop} {ρ : List Addr} {H : Hp} {S : Sto} {env : En} {σ : L2.St}
theorem EnvOk.unset (x : EnvOk G B ρ H env σ) (i : Nat) : EnvOk G B ρ H (env.set i none) (σ.set i none) := by
  refine ⟨by rw [List.length_set, List.length_set]; exact x.len, fun j d h => ?_⟩
  by_cases hj : i = j
  · subst hj
    by_cases hi : i < env.length
    · rw [List.getElem?_set_self hi] at h; cases h
    · rw [List.getElem?_eq_none (by rw [List.length_set]; omega)] at h; cases h
  · rw [List.getElem?_set_ne hj] at h ⊢
    exact x.at_ j d h
theorem exn_rep (so : SOk G B S ρ H) {c : Str} {p : Option (List Str × List D)} {C a : Addr} {d : Option Addr} {oe : Obj} {vs : Array Value} (xa : ExcA G B ρ H c p C d) (na : H a = none) (hz : Zc (.ref C) d oe) (hv : oe.data = .fields vs) : Rep G B ρ (upd H a (exv a oe)) (exnD c p) (.ref a) := by
  have E := Ext.laid (ρ := ρ) (o := exv a oe) na
  have fa := so.fresh na
  have at_ : ExnAt (upd H a (exv a oe)) a C d := ⟨_, upd_same, fun h z => ⟨oe, vs, z, hz.1, hz.2, hv⟩⟩
  obtain ⟨h1, h2⟩ := xa
  cases p with
  | none =>
    have h2 : d = none := h2
    subst h2
    simp only [exnD, Rep]
    exact ⟨a, C, none, [], rfl, at_, fa, h1, rfl, by simp only [List.map_nil, RepL], .inl ⟨rfl, rfl⟩⟩
  | some q =>
    obtain ⟨ns, ds⟩ := q
    obtain ⟨dx, fs, rfl, h4, h7, h5, h6⟩ := h2
    simp only [exnD, Rep]
    exact ⟨a, C, some dx, fs, rfl, at_, fa, h1, h5, h6.mono E, .inr ⟨dx, .xd fs, rfl, by rw [upd_ne (ne_of_none h4 na)]; exact h4, rfl, h7⟩⟩
end
/-- the clauses, as statements and as plain functions -/
inductive HdX (X : Cx) : List ExceptHandler → List ClM → Prop
  | nil : HdX X [] []
  | cons0 {ce : Expr} {ks : List Str} {m : MS} {b₀ : Stmt} {suite : List Stmt} {p : Pos} {hds : List ExceptHandler} {l : List ClM} (hc : ∃ cs, ks.map X.mg = cs.map some ∧ ∀ a pn, ClsC (X.suite a pn) ce ks cs) (hsu : ∀ (a : Addr) (pn : List (Addr × Obj)), SSs (X.suite a pn) WF (b₀ :: suite) m) (r : HdX X hds l) :
      HdX X (.ExceptHandler (some ce) none (b₀ :: suite) p :: hds) ((ks, none, m) :: l)
  | cons1 {ce : Expr} {ks : List Str} {i : Nat} {n : Str} {m : MS} {b₀ : Stmt} {suite : List Stmt} {p : Pos} {hds : List ExceptHandler} {l : List ClM} (hc : ∃ cs, ks.map X.mg = cs.map some ∧ ∀ a pn, ClsC (X.suite a pn) ce ks cs) (hi : X.N[i]? = some n) (hl : X.env.kindOf n = some .local)
      (hsu : ∀ (a : Addr) (pn : List (Addr × Obj)), SSs (X.suite a pn) WF (b₀ :: suite) m) (r : HdX X hds l) : HdX X (.ExceptHandler (some ce) (some n) (b₀ :: suite) p :: hds) ((ks, some i, m) :: l)
/-- what the reading of the handlers needs -/
theorem HdX.go {X : Cx} {T : Str → Str → Option Bool} (hT : ExT X.K X.mg T) {Wout : L2.WX} : ∀ {hds : List ExceptHandler} {l : List ClM}, HdX X hds l → ∃ l' : List ClX, HdsX X hds l' ∧
    ∀ (De : Ends) (B : Addr → Prop) (e : En) (c : Str) (p : Option (List Str × List D)) (S1 : Sto) (σ1 : L2.St) (ρ1 : List Addr) (H1 : Hp) (C : Addr) (d : Option Addr), EnvOk ⟨X.K, X.mg⟩ B ρ1 H1 e σ1 → SOk ⟨X.K, X.mg⟩ B S1 ρ1 H1 → ExcA ⟨X.K, X.mg⟩ B ρ1 H1 c p C d →
      PostS ⟨X.K, X.mg⟩ Wout B ρ1 H1 (hGo T e c p S1 l) De → wX X.K Wout De l' (.ref C) d σ1 H1 := by
  have unset : ∀ {D : Ends} {B : Addr → Prop} {ρ : List Addr} {H : Hp} {r : Option (Fl × Sto)} (i : Option Nat), PostS ⟨X.K, X.mg⟩ Wout B ρ H (unX i r) D → PostS ⟨X.K, X.mg⟩ WF B ρ H r (endsX i D) := by
    intro D B ρ H r i P
    cases r with
    | none => cases i <;> exact P.elim
    | some r =>
      obtain ⟨f, S2⟩ := r
      cases i with
      | none =>
        cases f with
        | xc e c p => exact (show False from P).elim
        | nx e => exact P
        | bk e => exact P
        | ct e => exact P
        | rt d => exact P
      | some i =>
        cases f with
        | xc e c p => exact (show False from P).elim
        | nx e => exact fun σ' ρ' H' x so eo => P _ ρ' H' x so (eo.unset i)
        | bk e => exact fun σ' ρ' H' x so eo => P _ ρ' H' x so (eo.unset i)
        | ct e => exact fun σ' ρ' H' x so eo => P _ ρ' H' x so (eo.unset i)
        | rt d => exact P
  intro hds l h
  induction h with
  | nil =>
    refine ⟨[], .nil, fun D B e c p S1 σ1 ρ1 H1 C d eo so xa P => ?_⟩
    have P : PostS ⟨X.K, X.mg⟩ Wout B ρ1 H1 (some (.xc e c p, S1)) D := P
    exact P σ1 ρ1 H1 C d Ext.refl so eo xa
  | @cons0 ce ks m b₀ suite p hds l hc hsu r ih =>
    obtain ⟨l', hl', go⟩ := ih
    obtain ⟨cs, hm, hcl⟩ := hc
    refine ⟨(cs, none, tS ⟨X.K, X.mg⟩ WF m) :: l', .cons0 hcl hsu hl', fun D B e c p S1 σ1 ρ1 H1 C d eo so xa P => ?_⟩
    simp only [hGo] at P
    split at P
    · rename_i hT1
      refine ⟨true, anyT_ok hT xa.1 hm hT1, fun _ a oe na hz hv => ?_, fun z => nomatch z⟩
      have E := Ext.laid (ρ := ρ1) (o := exv a oe) na
      exact ⟨B, e, S1, ρ1, eo.mono E, so.laid na, unset none (PostS.ext P E)⟩
    · rename_i hT1
      exact ⟨false, anyT_ok hT xa.1 hm hT1, fun z => (nomatch z), fun _ => go D B e c p S1 σ1 ρ1 H1 C d eo so xa P⟩
    · exact P.elim
  | @cons1 ce ks i n m b₀ suite p hds l hc hi hl hsu r ih =>
    obtain ⟨l', hl', go⟩ := ih
    obtain ⟨cs, hm, hcl⟩ := hc
    refine ⟨(cs, some i, tS ⟨X.K, X.mg⟩ WF m) :: l', .cons1 hcl hi hl hsu hl', fun D B e c p S1 σ1 ρ1 H1 C d eo so xa P => ?_⟩
    simp only [hGo] at P
    split at P
    · rename_i hT1
      refine ⟨true, anyT_ok hT xa.1 hm hT1, fun _ a oe na hz hv => ?_, fun z => nomatch z⟩
      have E := Ext.laid (ρ := ρ1) (o := exv a oe) na
      obtain ⟨vs, hv⟩ := hv
      exact ⟨B, e.set i (some (exnD c p)), S1, ρ1, (eo.mono E).set (exn_rep so xa na hz hv) i, so.laid na, unset (some i) (PostS.ext P E)⟩
    · rename_i hT1
      exact ⟨false, anyT_ok hT xa.1 hm hT1, fun z => (nomatch z), fun _ => go D B e c p S1 σ1 ρ1 H1 C d eo so xa P⟩
    · exact P.elim
theorem tS_try {X : Cx} {T : Str → Str → Option Bool} {Wout : L2.WX} {l : List ClM} {l' : List ClX} (go : ∀ (De : Ends) (B : Addr → Prop) (e : En) (c : Str) (p : Option (List Str × List D)) (S1 : Sto) (σ1 : L2.St) (ρ1 : List Addr) (H1 : Hp) (C : Addr) (d : Option Addr), EnvOk ⟨X.K, X.mg⟩ B ρ1 H1 e σ1 → SOk ⟨X.K, X.mg⟩ B S1 ρ1 H1 → ExcA ⟨X.K, X.mg⟩ B ρ1 H1 c p C d →
      PostS ⟨X.K, X.mg⟩ Wout B ρ1 H1 (hGo T e c p S1 l) De → wX X.K Wout De l' (.ref C) d σ1 H1) {De : Ends} {B : Addr → Prop} {ρ : List Addr} {H : Hp} {r : Option (Fl × Sto)}
    (P : PostS ⟨X.K, X.mg⟩ Wout B ρ H (match r with | some (.xc e c p, S1) => hGo T e c p S1 l | r => r) De) : PostS ⟨X.K, X.mg⟩ (wX X.K Wout De l') B ρ H r De := by
  cases r with
  | none => exact P
  | some r =>
    obtain ⟨f, S2⟩ := r
    cases f with
    | nx e => exact P
    | bk e => exact P
    | ct e => exact P
    | rt d => exact P
    | xc e c p => exact fun σ' ρ' H' C d x so eo xa => go De B e c p S2 σ' ρ' H' C d eo so xa (PostS.ext P x)
theorem ss_try {X : Cx} {T : Str → Str → Option Bool} {Wout : L2.WX} {body : List Stmt} {h₀ : ExceptHandler} {hds : List ExceptHandler} {l : List ClM} {mb : MS} {pos : Pos} (hT : ExT X.K X.mg T) (hs : X.stack = X.env :: X.outer) (hf : X.env.frame = some X.env.locals) (hex : X.ex = []) (hN : X.N.Nodup) (tk : L2.Takes X Wout)
    (hb : ∀ (W : L2.WX) (pn : List (Addr × Obj)) (xe : Value → Shared → Prop), L2.Takes (X.tr pn xe) W → PassesOwn (model X.prog X.w) X.A X.env xe → SSs (X.tr pn xe) W body mb)
    (hh : HdX X (h₀ :: hds) l) : SS X Wout (.Try body (h₀ :: hds) [] [] pos) (mTry T mb l) := by
  obtain ⟨l', hl', go⟩ := hh.go hT (Wout := Wout)
  refine PS.imp (ps_tryX hs hf hex hN tk (tb := fun W => tS ⟨X.K, X.mg⟩ W mb) hb hl') fun D σ H h => ?_
  obtain ⟨B, env, S, ρ, eo, so, P⟩ := h
  exact ⟨B, env, S, ρ, eo, so, tS_try go P⟩
end Ev

/-! Ev, part 34: what is asked of an exception that is plain data: isinstance, its fields; repr anywhere. -/
namespace Ev
open PySem PySem.Spec PySem.Calls PyProof.Rows L2
section
variable {prog : Program} {w : World} {A : Around} {E : Value → Shared → Prop} {s : Shared} {K : PySem.W.Frag} {x D : Addr} {ox : Obj} {od : Option Obj}
theorem exq_class {Q : Option Value → Shared → Prop} (C : ExcC K D) (X : K.In s.heap) (J : PySem.W.InstAt s.heap x ox D od) (h : Q (some (.ref D)) { s with toks := s.toks + 1 }) : wpAny (model prog w) A (getAttr? (.ref x) "__class__") Q E s := by
  have found : PySem.W.findObj K D od "__class__" = some (.bind (.builtin "getset_descriptor.__get__") (.builtin "object.__class__")) := by
    obtain ⟨cd, hc, _⟩ := PySem.W.any_some C.hd
    unfold PySem.W.findObj
    rw [hc, Option.bind_some, C.ha, Option.bind_some]
    simp [C.hn, C.ht]
  obtain ⟨hp, gs, dr, tk, os⟩ := s
  have la := J.type (M := model prog w)
  have lb := PySem.W.looks_findIn (M := model prog w) X C.hg
  have lc := PySem.W.looks_findIn (M := model prog w) X C.hk
  have ld := PySem.W.looks_find (M := model prog w) X J found
  have isB : PySem.W.Looks (model prog w) hp (isInstance (.ref x) (.type "BaseException")) true := la.andThen (PySem.W.looks_subIn X C.hs)
  have z1 : (false && onTheHeap (Value.builtin "BaseException.__getattribute__")) = false := rfl
  have z2 : (onTheHeap (Value.ref D) && Value.builtin "BaseException.__getattribute__" == Value.builtin "object.__getattribute__") = false := by
    rw [show (Value.builtin "BaseException.__getattribute__" == Value.builtin "object.__getattribute__") = false from by decide +kernel]; rfl
  unfold getAttr? getAttrBy? getAttrBy
  refine wpAny_bind (wpAny_mkText (wpAny_bind (wpAny_attempt (wpAny_holding (wpAny_bind (la.at (wpAny_bind (lb.at ?_))))))))
  show wpAny _ _ (ite ((onTheHeap (Value.ref D) && Value.builtin "BaseException.__getattribute__" == Value.builtin "object.__getattribute__") = true) _ _) _ _ _
  rw [z2, if_neg Bool.false_ne_true]
  unfold getAttrByItsOwn hookBefore
  refine wpAny_bind ?_
  rw [if_pos (show onTheHeap (Value.ref D) = true from rfl)]
  refine lc.at (wpAny_bind (wpAny_attempt (wpAny_holding ?_)))
  unfold callGetattribute
  rw [z1, if_neg Bool.false_ne_true]
  unfold boundAndCalled
  rw [PySem.F.excAttr_ValueError.ga.bind (.ref x)]
  refine wpAny_bind (wpAny_pure ?_)
  show wpAny _ _ (call (Value.builtin "BaseException.__getattribute__") [Value.ref x, Value.str "__class__" tk]) _ _ _
  refine wpAny_call (codeAny_call_builtin PySem.F.excAttr_ValueError.ga.plain PySem.F.entry_bexc_ga ?_)
  refine @PySem.W.check_slot (model prog w) _ _ (Shared.mk hp gs dr (tk + 1) os) "BaseException.__getattribute__" "BaseException" "__getattribute__" (.ref x) [.str "__class__" tk] [] _ (by decide +kernel) (by decide +kernel) isB (PySem.F.args_bexc_ga (.ref x) (.str "__class__" tk)) ?_
  unfold Builtin.«object.__getattribute__»
  refine wpAny_bind (wpAny_of_eq (a := (Prod.mk (Value.ref x) [Value.str "__class__" tk])) (by first | rfl | (simp only [slotArgs]; rfl)) (wpAny_bind (wpAny_pure (wpAny_bind (la.at (wpAny_bind (ld.at ?_)))))))
  show wpAny _ _ (holding [Value.builtin "object.__class__"] (call (Value.builtin "getset_descriptor.__get__") [Value.builtin "object.__class__", Value.ref x, Value.ref D]) >>= ret) _ _ _
  refine wpAny_bind (wpAny_holding (wpAny_call (PySem.W.class_get (s := Shared.mk hp gs dr (tk + 1) os) (ox := ox) (od := od) X J C.hm (wpAny_pure ?_))))
  show wpAny _ _ (handedOut (.ref D)) _ _ _
  rw [PySem.W.handedOut_of (v := .ref D) rfl]
  first
  | exact wpAny_pure h
  | exact wpAny_pure (wpAny_pure h)
  | exact wpAny_pure (wpAny_bind (wpAny_pure (wpAny_pure h)))
theorem exq_kit (C : ExcC K D) : PySem.W.KitX K (.ref x) (.ref D) (fun h => ∃ ox od, PySem.W.InstAt h x ox D od) where
  ty := fun _ _ _ ⟨_, _, J⟩ => J.type
  it := fun M h X _ => by
    obtain ⟨cd, hc, _⟩ := PySem.W.any_some C.hd
    unfold PySem.W.clsIn at hc
    split at hc
    · rename_i e1 e2 e3 e4 ho
      intro A' Q' E' s' k q
      unfold isType loadHead
      exact wpAny_bind (wpAny_loadPart (k _ _ (X _ _ ho)) (wpAny_pure q))
    · cases hc
  ne := fun h tp dd its n sl X htp => by
    obtain ⟨cd, hc, _⟩ := PySem.W.any_some C.hd
    refine Bool.eq_false_iff.mpr fun q => ?_
    obtain rfl : D = tp := Value.ref.inj (beq_iff_eq.mp q)
    unfold PySem.W.clsIn at hc
    split at hc
    · rename_i e1 e2 e3 e4 ho
      exact nomatch (X _ _ ho).symm.trans htp
    · cases hc
  ca := fun X ⟨_, _, J⟩ k => exq_class C X J k
end
/-- the exception as an instance -/
theorem exn_inst {X : Cx} {pins : List (Addr × Obj)} {σ : L2.St} {H : Hp} {s : Shared} {a C : Addr} {od : Option Addr} {fs : List (Str × V)} {B : Addr → Prop} {ρ : List Addr} (I : Inv X pins σ H s) (h : ExnAt H a C od) (hd : XdOk B ρ H od fs) : ∃ ox o, PySem.W.InstAt s.heap a ox C o := by
  obtain ⟨φ, h1, h2⟩ := h
  have q : ObjOk X.prog X.w H s.heap a (.ext φ) := I.hok a _ h1
  obtain ⟨oe, vs, g1, g2, g3, g4⟩ := h2 _ q.1
  have hn : PySem.W.notCls oe = true := by unfold PySem.W.notCls; rw [g4]
  rcases hd with ⟨e, _⟩ | ⟨dd, o, e, hh, hx, _⟩
  · subst e
    exact ⟨oe, none, g1, g2, hn, by rw [g3]; trivial⟩
  · subst e
    have q2 := I.hok dd _ hh
    obtain ⟨ob, z⟩ : ∃ ob, s.heap.get? dd = some ob := by
      cases o with
      | xd gs =>
        obtain ⟨mA, ⟨o, _, _, e1, _⟩, _⟩ := (show ObjOk X.prog X.w H s.heap dd (.xd gs) from q2)
        exact ⟨o, e1⟩
      | ext ψ => exact (show ObjOk X.prog X.w H s.heap dd (.ext ψ) from q2).2.1
      | _ => exact hx.elim
    exact ⟨oe, some ob, g1, g2, hn, by rw [g3]; exact z⟩
end Ev

/-! Ev, part 35: raise C(e), C an own class over any base whose __init__ keeps what it is given. -/
namespace Ev
open PySem PySem.Spec PySem.Calls PyProof.Rows L2
/-- how self.f = x goes on a fresh instance of the class at C -/
structure ExcS (K : PySem.W.Frag) (C : Addr) (f : Str) : Prop where
  base : ∃ (B : String) (bmB : List Value), StoreFacts B bmB "object.__setattr__" "object" ∧ PySem.W.excOver K C bmB = true
  taker : PySem.W.takerIn K C f = some none
  dict : PySem.W.hasDictIn K C = true
  sa : PySem.W.findIn K (.ref C) "__setattr__" = some (some (.builtin "object.__setattr__"))
theorem exg_store {prog : Program} {w : World} {A : Around} {R : Result → Shared → Prop} {hp : Heap} {g : Array GenState} {d : Drawn} {t : Nat} {os : OsState} {K : PySem.W.Frag} {f : Str} {tk : Tok} {v : Value} {x C t1 : Addr} (S : ExcS K C f) (X : K.In hp)
    (hx : hp.get? x = some ({ cls := .ref C, data := .fields #[.ref t1, .none, .none, .none, .bool false, .none] } : Obj))
    (hq : ∀ h' tk' dx, (∀ b o, b ≠ x → hp.get? b = some o → h'.get? b = some o) → hp.objs.size ≤ dx → dx ≠ x → h'.get? x = some ({ cls := .ref C, dict := some dx, data := .fields #[.ref t1, .none, .none, .none, .bool false, .none] } : Obj) →
      h'.Ns1 dx (fun y => if y = f then some v else none) → R (.ok (.ret .none)) ⟨h', g, d, tk', os⟩) :
    codeAny (model prog w) A (.call (.builtin "object.__setattr__") ⟨[.ref x, .str f tk, v], []⟩) R ⟨hp, g, d, t, os⟩ := by
  obtain ⟨B, bmB, SF, ov⟩ := S.base
  have nx : x ≠ hp.objs.size := Nat.ne_of_lt (Heap.lt_size hx)
  refine PySem.W.osa_openX (od := none) SF X ⟨hx, rfl, rfl, trivial⟩ ov S.taker fun b => ?_
  obtain ⟨cd, hc, hd⟩ := PySem.W.any_some S.dict
  refine wpAny_bind (wpAny_pure (wpAny_bind (PySem.W.instanceDict_exc (t := t1) (c2 := .none) hx (PySem.W.looks_clsIn X hc) hd ?_)))
  show wpAny _ _ (Builtin.ObjectAttr.storeInDict hp.objs.size (.str f tk) f v) _ _ _
  refine PySem.HandSPX.store_in_new ⟨_, #[], _, (Heap.get?_update_ne _ _ _ _ nx.symm).trans (Heap.get?_push_at rfl rfl), rfl, fun e he => absurd he (by simp), fun _ => rfl⟩ fun h' tk' hn hs => ?_
  refine hq h' tk' hp.objs.size (fun b o hb ho => ?_) (Nat.le_refl _) nx.symm ?_ hn
  · exact (hs.2 b (Nat.ne_of_lt (Heap.lt_size ho))).trans ((Heap.get?_update_ne _ _ _ _ hb).trans (Heap.get?_push_of_some _ ho))
  · exact (hs.2 x nx).trans (Heap.get?_update_self _ (Heap.get?_push_of_some _ hx) rfl)
section
variable {X : Cx} {pins : List (Addr × Obj)} {σ : L2.St} {H : Hp} {s : Shared} {a C : Addr} {f : Str} {y : V} {u : Value} {Q : Unit → Shared → Prop} {E : Value → Shared → Prop} {A : Around}
theorem exg_set (S : ExcS X.K C f) (I : Inv X pins σ H s) (e : H a = some (exo a C none)) (ry : RelV y u)
    (h : ∀ dx s', H dx = none → dx ≠ a → Inv X pins σ (upd (upd H dx (exd dx [(f, y)])) a (exo a C (some dx))) s' → Q () s') : wpAny (model X.prog X.w) A (setAttr (.ref a) f u) Q E s := by
  obtain ⟨t1, at1⟩ := exo_at I.hok e
  obtain ⟨hp, g, d, t, os⟩ := s
  refine PySem.W.set_plain I.kIn (ox := { cls := .ref C, dict := none, data := .fields #[.ref t1, .none, .none, .none, .bool false, .none] }) (od := none) ⟨at1, rfl, rfl, trivial⟩ S.sa ?_
  refine exg_store S I.kIn at1 fun h' tk' dx kp new dne hx hn => ?_
  have free : H dx = none := I.hok.fresh new
  have apart : ∀ {b : Addr} {o : Obj}, hp.get? b = some o → b ≠ dx := fun q => Nat.ne_of_lt (Nat.lt_of_lt_of_le (Heap.lt_size q) new)
  have off : ∀ {b : Addr}, H b = none → b ≠ a := fun n z => by rw [z, e] at n; cases n
  have T : ∀ {b : Addr} {xs : List V}, H b = some (.tup xs) → upd (upd H dx (exd dx [(f, y)])) a (exo a C (some dx)) b = some (.tup xs) := fun q => by rw [upd_ne (at_ne e q exo_tup), upd_ne (ne_of_none q free)]; exact q
  have W : ∀ {b c : Addr}, H b = some (.own c) → upd (upd H dx (exd dx [(f, y)])) a (exo a C (some dx)) b = some (.own c) := fun q => by rw [upd_ne (at_ne e q exo_own), upd_ne (ne_of_none q free)]; exact q
  have U : Un X.fs [] H (upd (upd H dx (exd dx [(f, y)])) a (exo a C (some dx))) hp h' := by
    refine ⟨fun b o q n _ _ => kp b o (off n) q, fun b o q n _ _ => ⟨o.slots, kp b o (off n) q⟩, fun b o q n _ => ?_, fun b o q _ => ?_, fun b xs q => T q, fun b o v q => ?_, fun b ps q => ⟨#[], ?_⟩⟩
    · rw [upd_ne (off n), upd_ne (apart q)]; exact n
    · by_cases hb : b = a
      · exact ⟨_, hb ▸ hx⟩
      · exact ⟨o, kp b o hb q⟩
    · rw [upd_ne (at_ne e q exo_frz), upd_ne (ne_of_none q free)]; exact q
    · rw [upd_ne (at_ne e q exo_tbl), upd_ne (ne_of_none q free), q]; simp
  refine h dx _ free dne (I.un (t' := tk') U fun b o q => ?_)
  by_cases hb : b = a
  · rw [hb] at q ⊢
    rw [upd_same] at q
    cases q
    exact exo_ok hx
  · rw [upd_ne hb] at q
    by_cases hd : b = dx
    · rw [hd] at q ⊢
      rw [upd_same] at q
      cases q
      exact exd_ok hn (relO_put (fs := []) ry fun _ => trivial)
    · rw [upd_ne hd] at q
      refine (I.hok b o q).stay (fun c v hc z => kp c v ?_ z) (fun c hc => W hc) fun c xs hc => T hc
      rcases hc with hc | hc
      · exact hc ▸ hb
      · exact at_ne e hc exo_own
def tOsg (C : Addr) (f : Str) (te to : TE) : TS := fun D σ H => te σ H fun y H1 => to σ H1 fun x H2 => ∃ a, x = .ref a ∧ H2 a = some (exo a C none) ∧ ∀ dx, H2 dx = none → dx ≠ a → D.nx σ (upd (upd H2 dx (exd dx [(f, y)])) a (exo a C (some dx)))
theorem ps_osg {o e : Expr} {te to : TE} {p' pos : Pos} (S : ExcS X.K C f) (ho : PE X o to) (he : PE X e te) (hs : swapsWith e (some (.Attribute o f p')) pos.line X.env = pure false := by rfl) : PS X (.Assign [.Attribute o f p'] e pos) (tOsg C f te to) :=
  ⟨fun pins s σ H D I h => plainObj_wpAny_Assign_Attribute (thn (he.run pins s σ H _ I h) fun v s1 ⟨y, H1, I1, r1, q1⟩ => thn (ho.run pins s1 σ H1 _ I1 q1) fun u s2 ⟨x, H2, I2, r2, a, ex, ea, q⟩ => by
    subst ex
    obtain rfl : u = Value.ref a := r2
    exact exg_set S I2 ea r1 fun dx s' n ne J => ⟨σ, _, J, q dx n ne⟩) hs⟩
end
/-! ### the class's __init__ -/
def initSp (C : Addr) (f : Str) : Sp := fun vs H Q _ => ∃ a y, vs = [.ref a, y] ∧ H a = some (exo a C none) ∧ ∀ dx, H dx = none → dx ≠ a → Q .non (upd (upd H dx (exd dx [(f, y)])) a (exo a C (some dx)))
theorem initG {P : Program} {w : World} {K : PySem.W.Frag} {mg : Str → Option Value} {base : Heap} {fI C : Addr} {fd : FuncData} {x qual s0 g0 f : Str} {prm : Arguments} {body : List Stmt} {scope : Scope} (F : FunD K x qual prm body scope [] [] fI fd) (hb : ∃ p1 p2 p3 p4, body = [.Assign [.Attribute (.Name s0 p1) f p2] (.Name g0 p3) p4]) (sc : FnScope [s0, g0] [s0, g0] scope) (S : ExcS K C f)
    (d1 : (s0 == ("__debug__" : Str)) = false) (d2 : (s0 == ("__classdict__" : Str)) = false) (d3 : (g0 == ("__debug__" : Str)) = false) (d4 : (g0 == ("__classdict__" : Str)) = false)
    (hs : ∀ (env : Env) (p1 p2 p3 p4 : Pos), swapsWith (.Name g0 p3) (some (.Attribute (.Name s0 p1) f p2)) p4.line env = pure false) : FnG P w K mg base 1 fI fd [s0, g0] (initSp C f) := by
  obtain ⟨p1, p2, p3, p4, rfl⟩ := hb
  have vis : ∀ y ∈ [s0, g0], Vis scope y := fun y hy => (sc.par y hy).elim .inl fun z => .inr (.inl z)
  refine FnG.of F sc (fun vs H Q E ⟨a, y, e, _⟩ => by rw [e]; rfl) fun cdv A outer s H vs Q E hr h => ?_
  obtain ⟨a, y, rfl, ea, q⟩ := h
  refine ⟨_, pss_one (ps_osg (C := C) S (pe_var (i := 0) rfl (vis s0 (by simp)) d1 d2) (pe_var (i := 1) rfl (vis g0 (by simp)) d3 d4) (hs _ _ _ _ _)), ?_⟩
  exact ⟨y, rfl, .ref a, rfl, a, rfl, ea, fun dx n ne => q dx n ne⟩
structure ExcI (P : Program) (w : World) (K : PySem.W.Frag) (mg : Str → Option Value) (base : Heap) (c f : Str) : Prop where
  ex : ∃ (C fI : Addr) (fd : FuncData) (ps : List Str) (B newId initId : String) (bmB : List Value), mg c = some (.ref C) ∧ PySem.W.keepIn K (.ref C) = true ∧ ExcBaseFacts B newId initId bmB ∧ PySem.W.excInitIn K C bmB newId = true ∧
    PySem.W.findIn K (.ref C) "__init__" = some (some (.ref fI)) ∧ PySem.W.isFn K (.ref fI) = true ∧ FnG P w K mg base 1 fI fd ps (initSp C f) ∧ ps.length = 2 ∧ Binds K fd ps [] ∧ PySem.W.subIn K (.ref C) (.type "BaseException") = some true ∧ PySem.W.typeIn K (.ref C) = some (.type "type")
section
variable {X : Cx} {W : L2.WX}
def tMk1 (mg : Str → Option Value) (c f : Str) (te : TE) : L2.St → Hp → XK → Prop := fun σ H Q => te σ H fun y H1 => ∀ C dx, mg c = some (.ref C) → H1 dx = none → Q (.ref C) (some dx) (upd H1 dx (.xd [(f, y)]))
theorem pmk_g1 {x f : Str} {e : Expr} {te : TE} {p pos : Pos} (T : ExcI X.prog X.w X.K X.mg X.base x f) (hr : RoomG 2 X.A) (hg : Gl X x) (he : PE X e te) (hdb : (x == ("__debug__" : Str)) = false)
    (hst : starEach [e] X.env = (false, eval e X.env) :: starEach [] X.env := by rfl) : PMk X (.Call (.Name x p) [e] [] pos) (tMk1 X.mg x f te) := by
  intro pins s σ H Q I h
  obtain ⟨C, fI, fd, ps, B, newId, initId, bmB, hC, kC, FB, q, iC, hf, F1, hps, hb, exC, tyC⟩ := T.ex
  refine wpAny_Call_Name_kw (ld_glob I hg hC ?_ hdb)
  refine PySem.W.callWith_K (h₀ := X.base) I.ok.mod.kin kC ?_ hst (by rfl)
  show wpAny _ _ (spliced (backTo pos (starEach [e] X.env))) _ _ s
  rw [hst]
  refine Calls.spliced_cons (thn (he.run pins s σ H _ I h) fun u s1 ⟨y, H1, I1, r1, qq⟩ => Calls.spliced_nil ⟨I1.kIn, ?_⟩)
  show wpAny _ _ (call (.ref C) [u]) _ _ _
  obtain ⟨hp, gs, dr, tk, os⟩ := s1
  obtain ⟨nm, N', qn, bs, bm, hdct, sn, sub, ab, col, dd, k0, k1, k2, k3, k5, hCl, hT⟩ := PySem.W.excInit_of I1.kIn q
  obtain ⟨oI, hoI, hcI⟩ : ∃ oI, hp.get? fI = some oI ∧ oI.cls = .type "function" := by
    obtain ⟨o, ho, hc⟩ := Option.map_eq_some_iff.mp (show (X.K.lookup fI).map (·.cls) = some (.type "function") from beq_iff_eq.mp hf)
    exact ⟨o, I1.kIn _ _ ho, hc⟩
  have big : hp.objs.size ≤ hp.objs.size + 1 := Nat.le_succ _
  have free : H1 (hp.objs.size + 1) = none := I1.hok.fresh big
  have up : ∀ b o, hp.get? b = some o → ((hp.push (PySem.W.kdv_tup [u])).push (PySem.HandSPX.excO C hp.objs.size)).get? b = some o := fun b o z => Heap.get?_push_of_some _ (Heap.get?_push_of_some _ z)
  have there : ((hp.push (PySem.W.kdv_tup [u])).push (PySem.HandSPX.excO C hp.objs.size)).get? (hp.objs.size + 1) = some (PySem.HandSPX.excO C hp.objs.size) := by heap_get
  have I2 := I1.laid (t' := tk) (a := hp.objs.size + 1) (o := exo (hp.objs.size + 1) C none) up big (exo_ok there)
  have rv : Vals [.ref (hp.objs.size + 1), y] [.ref (hp.objs.size + 1), u] := .cons rfl (.cons r1 .nil)
  have bnd := hb _ [.ref (hp.objs.size + 1), u] I2.kIn (by rw [List.append_nil, hps]; rfl)
  rw [List.append_nil] at bnd
  have hr1 : RoomG 1 (X.A.under (.builtin "type.__call__" ⟨.ref C :: [u], []⟩)) := RoomG.make hr C [u] []
  refine wpAny_call (PySem.HandSPX.call_own FB hT hCl (PySem.W.looks_findIn I1.kIn iC) (fun self => PySem.W.exc_bind hoI hcI self) (by show 1 ≤ sizeLine; rw [sizeLine_eq]; decide)
    (codeAny_mono (F1.go _ X.stack _ _ ⟨[.ref (hp.objs.size + 1), u], []⟩ _ _ (fun v H2 => v = .non ∧ ∃ d, H2 (hp.objs.size + 1) = some (exo (hp.objs.size + 1) C (some d)) ∧ H2 d = some (exd d [(f, y)]) ∧ H1 d = none ∧ Q (.ref C) (some d) (upd (del H2 (hp.objs.size + 1)) d (.xd [(f, y)]))) (fun _ _ _ => False) hr1 (I2.env0.make C [u] []) bnd rv ?_) fun r s' hq => ?_))
  · refine ⟨_, y, rfl, upd_same, fun dx n ne => ⟨rfl, dx, upd_same, ?_, ?_, ?_⟩⟩
    · rw [upd_ne ne, upd_same]
    · rw [upd_ne ne] at n; exact n
    · rw [upd_ne ne] at n
      have z := qq C dx hC n
      have eq : upd (del (upd (upd (upd H1 (hp.objs.size + 1) (exo (hp.objs.size + 1) C none)) dx (exd dx [(f, y)])) (hp.objs.size + 1) (exo (hp.objs.size + 1) C (some dx))) (hp.objs.size + 1)) dx (.xd [(f, y)]) = upd H1 dx (.xd [(f, y)]) := by
        funext b
        by_cases h1 : b = dx
        · rw [h1, upd_same, upd_same]
        · rw [upd_ne h1, upd_ne h1]
          by_cases h2 : b = hp.objs.size + 1
          · rw [h2, del_same, free]
          · rw [del_ne h2, upd_ne h2, upd_ne h1, upd_ne h2]
      rw [eq]; exact z
  · cases r with
    | error er =>
      obtain ⟨_, _, _, _, _, _, _, _, _, _, _, _, _, z⟩ := hq
    | ok fl =>
      cases fl with
      | ret v0 =>
        obtain ⟨v, H2, os2, bare2, un2, hok2, rv2, ev, d, ea, ed, hd1, q2⟩ := hq
        subst ev
        obtain ⟨h2, g2, d2, t2, os'⟩ := s'
        exact ⟨rv2, mk_end (raises_own exC tyC) I1 big up un2 hok2 os2 bare2 ea ed hd1 q2⟩
      | next => exact hq.elim
      | brk => exact hq.elim
      | cont => exact hq.elim
def mRaise1 (c f : Str) (m : M) : MS := fun env S => lft (m env S) env fun d S1 => some (.xc env c (some ([f], [d])), S1)
theorem ss_raise1 {x f : Str} {e : Expr} {m : M} {p p2 pos : Pos} {k : Nat} (T : ExcI X.prog X.w X.K X.mg X.base x f) (hc : X.calm = true) (tk : L2.Takes X W) (hr : RoomG k X.A) (hk : 2 ≤ k) (he : SE X W e m) (hg : Gl X x := by rfl) (hdb : (x == ("__debug__" : Str)) = false := by decide)
    (hst : starEach [e] X.env = (false, eval e X.env) :: starEach [] X.env := by rfl) : SS X W (.Raise (some (.Call (.Name x p) [e] [] p2)) none pos) (mRaise1 x f m) := by
  refine PS.imp (ps_raise hc tk (pmk_g1 T (hr.mono hk) hg he hdb hst)) fun D σ H h => ?_
  obtain ⟨B, env, S, ρ, eo, so, P⟩ := h
  refine ⟨B, env, S, ρ, eo, so, Post.mono (PostS.lft P eo) (fun d S1 ρ1 H1 e1 s1 P1 v r => ?_) (fun _ _ _ z => z)⟩
  intro C dx hC n
  have E := Ext.laid (ρ := ρ1) (o := HO.xd [(f, v)]) n
  exact P1 σ ρ1 _ C (some dx) E (s1.laid n) ((eo.mono e1).mono E) ⟨hC, dx, [(f, v)], rfl, upd_same, s1.fresh n, rfl, by simp only [List.map_cons, List.map_nil, RepL]; exact ⟨v, [], rfl, r.mono E, rfl⟩⟩
end
end Ev

/-! Ev, part 36: xs.count(x), xs.index(x); isinstance and fields of exceptions; defs that are called where an exception is handled and raise nothing. -/
namespace Ev
open PySem PySem.Spec PySem.Calls PyProof.Rows L2
section
variable {X : Cx} {W : L2.WX}
/-! ### count, index -/
def sCount (S : Sto) (d : D) : List D → Option D
  | [x] => (match lstOf S d, vOf x with
    | some ds, some y => (vsOf ds).map fun vs => .int (vs.countP fun z => eqV z y)
    | _, _ => none)
  | _ => none
def sIndex (S : Sto) (d : D) : List D → Option D
  | [x] => (match lstOf S d, vOf x with
    | some ds, some y => (match vsOf ds with
      | some vs => (vs.findIdx? fun z => eqV z y).map fun j => .int (j : Nat)
      | none => none)
    | _, _ => none)
  | _ => none
theorem countP_rel {y : V} : ∀ {vs : List V} {us : List Value}, Vals vs us → vs.all flatV = true → us.countP (eqU y) = vs.countP fun z => eqV z y
  | _, _, .nil, _ => rfl
  | v :: vs, u :: us, .cons r t, f => by
    rw [List.all_cons, Bool.and_eq_true] at f
    rw [List.countP_cons, List.countP_cons, countP_rel t f.2, eqU_of r f.1]
theorem mt_countF : MtR X "list.count" (fun x xs H Q => ∃ (a : Addr) (ys : List V) (y : V), x = V.ref a ∧ xs = [y] ∧ SqL X.K H a ys ∧ flatV y = true ∧ ys.all flatV = true ∧ Q (.int ((ys.countP fun z => eqV z y : Nat) : Int)) H) := by
  intro pins s σ H x xs v us Q I rx rxs h
  obtain ⟨p, ys, y, rfl, rfl, hs, fy, fys, q⟩ := h
  cases rx
  obtain ⟨u, rfl, ru⟩ := rxs.one
  obtain ⟨its, rv, ⟨⟨cls, dd, data, sl⟩, n, ho, hc, hdn, hd⟩, hlen⟩ := I.list hs
  dsimp only at hc hd
  subst hc hd
  refine call_meets PySem.F.slot_list_count ⟨_, ho, rfl⟩ PySem.F.entry_list_count (PySem.F.args_list_count_2 _ _) (SeqAt.list_countAt p its.toArray n dd sl u (eqU y)) ⟨ho, fun z hz => mem_eqAt ru fy rv fys z (by simpa using hz), ?_⟩
  have ec : its.toArray.toList.countP (eqU y) = ys.countP fun z => eqV z y := countP_rel rv fys
  rw [ec]
  exact ⟨.int ((ys.countP fun z => eqV z y : Nat) : Int), H, I.tok _, ⟨_, rfl⟩, q⟩
theorem vOf_flat {G : GC} {B : Addr → Prop} {ρ : List Addr} {H : Hp} {d : D} {v y : V} (h : vOf d = some y) (r : Rep G B ρ H d v) : v = y ∧ flatV y = true := by
  have z := vsOf_ok (ds := [d]) (vs := [v]) (us := [y]) (by simp [vsOf, h]) (by simp only [RepL]; exact ⟨v, [], rfl, r, rfl⟩)
  simpa using z
theorem vm_count : VMt X "list.count" sCount := by
  intro pins s σ H x xs v us Q I rx rv ⟨B, S, ρ, d, ds, so, r, rs, y, he, k⟩
  unfold sCount at he
  split at he
  · rename_i x0
    split at he
    · rename_i ls y0 h1 h2
      simp only [Option.map_eq_some_iff] at he
      obtain ⟨vs, h3, rfl⟩ := he
      obtain ⟨w, rfl, r1⟩ := repL1 rs
      obtain ⟨a, ws, rfl, hs, rl⟩ := lstOf_ok so r h1
      obtain ⟨rfl, fy⟩ := vOf_flat h2 r1
      obtain ⟨rfl, fl⟩ := vsOf_ok h3 rl
      exact mt_countF pins s σ H _ _ v us Q I rx rv ⟨a, _, _, rfl, rfl, hs, fy, fl, k ρ H _ Ext.refl so (by simp only [Rep])⟩
    · cases he
  · cases he
theorem vm_index : VMt X "list.index" sIndex := by
  intro pins s σ H x xs v us Q I rx rv ⟨B, S, ρ, d, ds, so, r, rs, y, he, k⟩
  unfold sIndex at he
  split at he
  · rename_i x0
    split at he
    · rename_i ls y0 h1 h2
      split at he
      · rename_i vs h3
        simp only [Option.map_eq_some_iff] at he
        obtain ⟨j, h4, rfl⟩ := he
        obtain ⟨w, rfl, r1⟩ := repL1 rs
        obtain ⟨a, ws, rfl, hs, rl⟩ := lstOf_ok so r h1
        obtain ⟨rfl, fy⟩ := vOf_flat h2 r1
        obtain ⟨rfl, fl⟩ := vsOf_ok h3 rl
        obtain ⟨hj, e, no⟩ := List.findIdx?_eq_some_iff_getElem.mp h4
        exact mt_index pins s σ H _ _ v us Q I rx rv ⟨a, ws, w, j, ws[j], rfl, rfl, hs, fy, fl, List.getElem?_eq_getElem hj, e, fun m z hm hz => by
          obtain ⟨hml, rfl⟩ := List.getElem?_eq_some_iff.mp hz
          have := no m hm
          simpa using this, k ρ H _ Ext.refl so (by simp only [Rep])⟩
      · cases he
    · cases he
  · cases he
theorem se_count {o e : Expr} {apos cpos : Pos} {mo me : M} (ho : SE X W o mo) (he : SE X W e me) (hbase : attributeBase o "count" X.env (eval o X.env) = eval o X.env := by rfl)
    (hfew : ((backTo cpos (starEach [e] X.env)).all (fun x => !x.1) && (backToKw cpos (keywordEach [] X.env)).all (fun x => x.1.isSome)
      && decide (([e] : List Expr).length + ([] : List Keyword).length + (if ([] : List Keyword).isEmpty then 0 else 1) < 30)) = true := by rfl)
    (hline : (apos.endLine == cpos.line) = true := by rfl) (hs : starEach [e] X.env = (false, eval e X.env) :: starEach [] X.env := by rfl) (hplain : (backTo cpos (starEach [] X.env)).any (·.1) = false := by rfl) :
    SE X W (.Call (.Attribute o "count" apos) [e] [] cpos) (mBM lstQ sCount mo (mCons me mNil)) :=
  se_bm lstQ_ok PySem.F.plainAttrs_list PySem.F.slot_list_count PySem.F.type_list_count vm_count ho (sa_cons he sa_nil hs) hbase hfew hline hs hplain
theorem se_index {o e : Expr} {apos cpos : Pos} {mo me : M} (ho : SE X W o mo) (he : SE X W e me) (hbase : attributeBase o "index" X.env (eval o X.env) = eval o X.env := by rfl)
    (hfew : ((backTo cpos (starEach [e] X.env)).all (fun x => !x.1) && (backToKw cpos (keywordEach [] X.env)).all (fun x => x.1.isSome)
      && decide (([e] : List Expr).length + ([] : List Keyword).length + (if ([] : List Keyword).isEmpty then 0 else 1) < 30)) = true := by rfl)
    (hline : (apos.endLine == cpos.line) = true := by rfl) (hs : starEach [e] X.env = (false, eval e X.env) :: starEach [] X.env := by rfl) (hplain : (backTo cpos (starEach [] X.env)).any (·.1) = false := by rfl) :
    SE X W (.Call (.Attribute o "index" apos) [e] [] cpos) (mBM lstQ sIndex mo (mCons me mNil)) :=
  se_bm lstQ_ok PySem.F.plainAttrs_list PySem.F.slot_list_index PySem.F.type_list_index vm_index ho (sa_cons he sa_nil hs) hbase hfew hline hs hplain
/-! ### isinstance(e, c) -/
structure IsT (K : PySem.W.Frag) (mg : Str → Option Value) (T : Str → Str → Option Bool) : Prop where
  ok : ∀ c k b, T c k = some b → ∃ C v, mg c = some (.ref C) ∧ ExcC K C ∧ (mg k = some v ∨ (mg k = none ∧ bootBuiltins k = some v)) ∧ ((∃ D, v = .ref D) ∨ ∃ n, v = .type n) ∧ PySem.W.kitOne K (.ref C) v = some b
def sIsX (T : Str → Str → Option Bool) (_ : Sto) : List D → Option D
  | [.exn c _ _, .glo k] => (T c k).map .bl
  | _ => none
theorem call_sIsX {T : Str → Str → Option Bool} (F : IsT X.K X.mg T) : VCall X (.builtin "isinstance") (sIsX T) := by
  intro pins s σ H xs us Q I r ⟨B, S, ρ, ds, so, rs, d, he, kk⟩
  unfold sIsX at he
  split at he
  · rename_i c ns es k
    simp only [Option.map_eq_some_iff] at he
    obtain ⟨b, he, rfl⟩ := he
    obtain ⟨v, w, rfl, r1, r2⟩ := repL2 rs
    obtain ⟨C, v0, hC, EC, hk, hv, hkit⟩ := F.ok _ _ _ he
    simp only [Rep] at r1 r2
    obtain ⟨a, C2, od, fs, rfl, at_, _, hC2, _, _, hd⟩ := r1
    have hC2 : X.mg c = some (.ref C2) := hC2
    rw [hC] at hC2
    cases hC2
    obtain ⟨uu, h1, h2⟩ := r2
    have euu : uu = v0 := by
      have h1 : X.mg k = some uu ∨ (X.mg k = none ∧ bootBuiltins k = some uu) := h1
      rcases h1 with h1 | ⟨h1, h1'⟩ <;> rcases hk with hk | ⟨hk, hk'⟩
      · rw [h1] at hk; cases hk; rfl
      · rw [h1] at hk; cases hk
      · rw [h1] at hk; cases hk
      · rw [h1'] at hk'; cases hk'; rfl
    subst euu
    obtain ⟨u1, u2, rfl, q1, q2⟩ := vals2 r
    obtain rfl : u1 = Value.ref a := q1
    have eu2 : u2 = uu := by
      rcases hv with ⟨D, rfl⟩ | ⟨n, rfl⟩
      · cases w with
        | ref m => cases (show Value.ref D = Value.ref m from h2); exact q2
        | ty m => exact nomatch h2
        | non => exact nomatch h2
        | bl b => exact nomatch h2
        | int _ => obtain ⟨_, z⟩ := h2; exact nomatch z
        | str _ => obtain ⟨_, z⟩ := h2; exact nomatch z
        | byt _ => obtain ⟨_, z⟩ := h2; exact nomatch z
        | flt _ => obtain ⟨_, z⟩ := h2; exact nomatch z
      · cases w with
        | ty m => cases (show Value.type n = Value.type m from h2); exact q2
        | ref m => exact nomatch h2
        | non => exact nomatch h2
        | bl b => exact nomatch h2
        | int _ => obtain ⟨_, z⟩ := h2; exact nomatch z
        | str _ => obtain ⟨_, z⟩ := h2; exact nomatch z
        | byt _ => obtain ⟨_, z⟩ := h2; exact nomatch z
        | flt _ => obtain ⟨_, z⟩ := h2; exact nomatch z
    subst eu2
    obtain ⟨ox, o, J⟩ := exn_inst I at_ hd
    exact PySem.W.kia_one (exq_kit EC) I.kIn ⟨ox, o, J⟩ hkit (fun z => nomatch z) fun tk => ⟨.bl b, H, I.kept (t' := tk) fun _ _ z => z, rfl, kk ρ H _ Ext.refl so (by simp only [Rep])⟩
  · cases he
theorem se_gloX {x : Str} {pos : Pos} (h : ∃ C, X.mg x = some (.ref C)) (hg : Gl X x := by rfl) (hd : (x == ("__debug__" : Str)) = false := by decide) : SE X W (.Name x pos) (mC (.glo x)) := by
  obtain ⟨C, hC⟩ := h
  exact se_glo hC (v := .ref C) rfl hg hd
/-! ### e.f -/
structure XfT (K : PySem.W.Frag) (mg : Str → Option Value) (known : List Str) (f : Str) : Prop where
  ok : ∀ c ∈ known, ∃ C, mg c = some (.ref C) ∧ XfC K C ∧ PySem.W.findIn K (.ref C) f = some none
def mXf (known : List Str) (f : Str) (o : M) : M := fun env S => (o env S).bind fun d S1 => match d with
  | .exn c ns ds => if known.contains c then (match getD f ns ds with | some x => .ok x S1 | none => .err) else .err
  | _ => .err
theorem se_xf {known : List Str} {f : Str} {o : Expr} {mo : M} {pos : Pos} (F : XfT X.K X.mg known f) (ho : SE X W o mo) (hb : attributeBase o f X.env (eval o X.env) = eval o X.env := by rfl) : SE X W (.Attribute o f pos) (mXf known f mo) := by
  refine ⟨fun pins s σ H Q I h => ?_⟩
  obtain ⟨B, env, S, ρ, eo, so, P⟩ := h
  refine attr_of hb (thn (ho.run pins s σ H (fun x H1 => ∃ a C od fs v, x = .ref a ∧ ExnAt H1 a C od ∧ XdOk B [] H1 od fs ∧ XfC X.K C ∧ PySem.W.findIn X.K (.ref C) f = some none ∧ fs.lookup f = some v ∧ Q v H1) I ⟨B, env, S, ρ, eo, so, Post.mono P.bind (fun d S1 ρ1 H1 e1 s1 P1 v r => ?_) (fun _ _ _ z => z)⟩) fun u s1 hh => ?_)
  · split at P1
    · rename_i c ns ds
      split at P1
      · rename_i hk
        split at P1
        · rename_i x hx
          simp only [Rep] at r
          obtain ⟨a, C, od, fs, rfl, at_, _, hC, hn, rl, hd⟩ := r
          obtain ⟨C2, hC2, xc, hf⟩ := F.ok c (List.elem_iff.mp hk)
          have hC : X.mg c = some (.ref C) := hC
          rw [hC] at hC2
          cases hC2
          subst hn
          obtain ⟨v, hv, rv⟩ := getD_ok rl hx
          refine ⟨a, C, od, fs, v, rfl, at_, ?_, xc, hf, hv, P1 ρ1 H1 Ext.refl s1 v rv⟩
          rcases hd with z | ⟨dd, o', z1, z2, z3, z4⟩
          · exact .inl z
          · exact .inr ⟨dd, o', z1, z2, z3, out_nil z4⟩
        · exact P1.elim
      · exact P1.elim
    · exact P1.elim
  · obtain ⟨x, H1, I1, rx, a, C, od, fs, v, rfl, at_, hd, T, hno, l, q⟩ := hh
    obtain rfl : u = Value.ref a := rx
    rcases hd with ⟨_, e⟩ | ⟨dd, o', rfl, hh, hx, _⟩
    · subst e; cases l
    · obtain ⟨φ, h1, h2⟩ := at_
      have q1 : ObjOk X.prog X.w H1 s1.heap a (.ext φ) := I1.hok a _ h1
      obtain ⟨oe, vs, g1, g2, g3, g4⟩ := h2 _ q1.1
      have q2 := I1.hok dd _ hh
      obtain ⟨mA, hns, hr⟩ : ∃ mA, s1.heap.Ns1 dd mA ∧ ∀ g, RelO (fs.lookup g) (mA g) := by
        cases o' with
        | xd gs => obtain rfl : gs = fs := hx; exact q2
        | ext ψ => exact hx _ (show ObjOk X.prog X.w H1 s1.heap dd (.ext ψ) from q2).1
        | _ => exact hx.elim
      obtain ⟨ob, ho1, hl⟩ := lookIn_ns hns
      obtain ⟨u, hu, ru⟩ := RelO.some_of (v := v) (o := mA f) (by rw [← l]; exact hr f)
      have J : PySem.W.InstAt s1.heap a oe C (some ob) := ⟨g1, g2, by unfold PySem.W.notCls; rw [g4], by rw [g3]; exact ho1⟩
      exact HandSPX.exc_get I1.kIn J T.ga T.gg T.exC (PySem.W.findObj_own T.hdC hno rfl (by rw [hl, hu])) (handed_of ru) ⟨v, H1, I1.tok _, ru, q⟩
end
end Ev

/-! Ev, part 37: defs that raise nothing, called where an exception is handled. -/
namespace Ev
open PySem PySem.Spec PyProof.Rows L2
structure RoomC (k : Nat) (A : Around) : Prop where
  dp : A.depth + 3 * k + 5 < recursionLimit
  un : A.units + 16 * k + 200 < cLine
  g : A.guards = some []
theorem RoomG.c {k : Nat} {A : Around} (r : RoomG k A) : RoomC k A := ⟨r.r.dp, r.r.un, r.g⟩
theorem RoomC.mark {k : Nat} {A : Around} (r : RoomC k A) (v : Option Value) : RoomC k (A.mark v) := ⟨r.dp, r.un, r.g⟩
theorem RoomC.mono {j k : Nat} {A : Around} (r : RoomC k A) (h : j ≤ k) : RoomC j A := ⟨by have := r.dp; omega, by have := r.un; omega, r.g⟩
theorem RoomC.deeper {k : Nat} {A : Around} (r : RoomC (k + 1) A) (env : Env) : RoomC k (A.deeper env) :=
  ⟨by have := r.dp; show A.depth + 1 + 3 * k + 5 < _; omega, by have := r.un; show A.units + 3 + 16 * k + 200 < _; omega, r.g⟩
theorem RoomC.rep {k : Nat} {A : Around} (r : RoomC k A) : ∀ n, n ≤ 60 → A.units + (n + 1) < cLine := fun n h => by have := r.un; omega
theorem call_sReprC {X : Cx} {k : Nat} (hr : RoomC k X.A) : VCall X (.builtin "repr") sRepr := call_sRepr0 hr.g hr.rep
/-- the context of such a def's body -/
abbrev cxC (P : Program) (w : World) (K : PySem.W.Frag) (mg : Str → Option Value) (base : Heap) (N : List Str) (qual : Str) (scope : Scope) (f : Addr) (cd : Value) (A : Around) (outer : List Env) (s : Shared) (H : Hp) : Cx :=
  { cxOf (L2.CX P w) P w K mg base N qual scope f cd A outer s H (fun _ _ _ => False) with calm := false }
theorem inv_startC {P : Program} {w : World} {K : PySem.W.Frag} {mg : Str → Option Value} {base : Heap} {N ps : List Str} {qual : Str} {scope : Scope} {f : Addr} {cd : Value} {A : Around} {outer : List Env} {s s1 : Shared} {H : Hp} {us : List Value} {vs : List V} (sc : FnScope N ps scope) (e0 : Env0 P w K mg base A outer s H) (hl : vs.length = ps.length) (r : Vals vs us)
    (x : InCallC s s.heap.objs.size (bindL (envOfC qual scope s.heap.objs.size f cd).kindOf (ps.zip us) fun _ => none) (cellsFrom (s.heap.objs.size + 1) scope.names []) (bindC (envOfC qual scope s.heap.objs.size f cd).kindOf (ps.zip us) fun _ => none) s1) :
    Inv (cxC P w K mg base N qual scope f cd A outer s H) [] (L2.start N vs) H s1 := by
  have e1 : Env0 P w K mg base { A with handled := none } outer s H := ⟨e0.frames, e0.mod, e0.bs, e0.bsz, e0.funs, e0.frf, e0.hok, e0.bare⟩
  have J := inv_start (CX := L2.CX P w) (E := fun _ _ _ => False) (cd := cd) (f := f) (qual := qual) (A := { A with handled := none }) sc rfl e1 hl r x
  have o := J.ok
  exact ⟨⟨o.mod, o.kind, o.glob, o.blt, o.above, o.inj, o.has, o.cab, fun z => (nomatch z), o.frames, o.stk, o.exf, o.bs, o.bsz, o.noex, o.exfs, o.funs, o.frf⟩, J.os, J.bare, J.base, J.loc, J.cell, J.free, J.freeC, J.pin, J.hok, J.len⟩
structure FnC (P : Program) (w : World) (K : PySem.W.Frag) (mg : Str → Option Value) (base : Heap) (k : Nat) (f : Addr) (fd : FuncData) (ps : List Str) (sp : Sp) : Prop where
  len : ∀ vs H Q E, sp vs H Q E → vs.length = ps.length
  go : ∀ (A : Around) (outer : List Env) (s : Shared) (H : Hp) (as : Args) (us : List Value) (vs : List V) (Q : VK), RoomC k A → Env0 P w K mg base A outer s H → BindsTo s fd as (ps.zip us) → Vals vs us → sp vs H Q (fun _ _ _ => False) →
    codeAny (model P w) A (.call (.ref f) as) (CR (L2.CX P w) outer P w H s Q fun _ _ _ => False) s
section
variable {P : Program} {w : World} {K : PySem.W.Frag} {mg : Str → Option Value} {base : Heap} {k : Nat} {f : Addr} {fd : FuncData} {sp : Sp}
theorem FnC.of {x qual : Str} {prm : Arguments} {body : List Stmt} {scope : Scope} {dvs : List V} {kws : List (Str × V)} {N ps : List Str} (F : FunD K x qual prm body scope dvs kws f fd) (sc : FnScope N ps scope) (len : ∀ vs H Q E, sp vs H Q E → vs.length = ps.length)
    (hb : ∀ (cdv : Value) (A : Around) (outer : List Env) (s : Shared) (H : Hp) (vs : List V) (Q : VK), RoomC k (A.deeper (PyProof.Rows.envOfC qual scope s.heap.objs.size f cdv)) → sp vs H Q (fun _ _ _ => False) →
      ∃ t, PSs (cxC P w K mg base N qual scope f cdv A outer s H) body t ∧ t { nx := fun _ H' => Q .non H', rt := Q } (L2.start N vs) H) : FnC P w K mg base (k + 1) f fd ps sp := by
  obtain ⟨oc, od, dV, kV, doc, pm, an, cdv, ct, osl, rfl, lk, hcd, _, _⟩ := F.ex
  refine ⟨len, fun A outer s H as us vs Q room e0 bnd rv hsp => ?_⟩
  have inK : K.In s.heap := e0.mod.kin.keeps fun b o e => (e0.bs b o e).1
  have noL : s.heap.NoLimit := e0.mod.nolimit.keeps fun b o e => (e0.bs b o e).1
  have par : ∀ y ∈ ps.zip us, scope.names.lookup y.1 = some .local ∨ (scope.names.lookup y.1 = some .cell ∧ ((cellsFrom (s.heap.objs.size + 1) scope.names []).lookup y.1).isSome = true) := by
    rintro ⟨y, u⟩ hy
    rcases sc.par y (List.of_mem_zip hy).1 with q | q
    · exact Or.inl q
    · exact Or.inr ⟨q, PySem.W.cellsFrom_some _ _ _ (Or.inl q)⟩
  apply codeAny_call_function (by have := room.dp; omega) (inK _ _ lk) rfl sc.co sc.gen rfl (PySem.W.codeRec_of inK hcd)
  apply bnd
  apply wpAny_newFunctionEnv_cells sc.kind par
  rintro env rfl s1 x1
  refine ⟨noL.keeps x1.toInCall.keep, ?_⟩
  apply codeAny_func
  obtain ⟨t, ht, hq⟩ := hb cdv A outer s H vs Q (room.deeper _) hsp
  have J := inv_startC (cd := cdv) (f := f) (qual := qual) sc e0 (len _ _ _ _ hsp) rv x1
  refine wpAny_mono (ht.run [] s1 _ H _ J hq) ?_ (fun e s' z => z)
  rintro fl s' z
  cases fl with
  | ret u =>
    obtain ⟨v, σ', H', J', r', q⟩ := z
    exact ⟨v, H', J'.os, J'.bare, J'.base, J'.hok, r', q⟩
  | next =>
    obtain ⟨σ', H', J', q⟩ := z
    exact ⟨.non, H', J'.os, J'.bare, J'.base, J'.hok, rfl, q⟩
  | brk =>
    obtain ⟨_, _, _, q⟩ := z
    exact q.elim
  | cont =>
    obtain ⟨_, _, _, q⟩ := z
    exact q.elim
end
structure DefC (P : Program) (w : World) (K : PySem.W.Frag) (mg : Str → Option Value) (base : Heap) (k : Nat) (x : Str) (ps : List Str) (g : List D → Pr) : Prop where
  ex : ∃ f fd, FnC P w K mg base k f fd ps (spP ⟨K, mg⟩ ps.length g) ∧ mg x = some (.ref f) ∧ PySem.W.keepIn K (.ref f) = true ∧ Binds K fd ps []
theorem DefC.of {P : Program} {w : World} {K : PySem.W.Frag} {mg : Str → Option Value} {base : Heap} {k : Nat} {f : Addr} {fd : FuncData} {x : Str} {prm : Arguments} {body : List Stmt} {scope : Scope} {N ps : List Str} {m : MS} (F : FunD K x x prm body scope [] [] f fd) (hm : mg x = some (.ref f)) (sc : FnScope N ps scope) (hb : Binds K fd ps [])
    (go : ∀ (cdv : Value) (A : Around) (outer : List Env) (s : Shared) (H : Hp), RoomC k (A.deeper (PyProof.Rows.envOfC x scope s.heap.objs.size f cdv)) → SSs (cxC P w K mg base N x scope f cdv A outer s H) WF body m) :
    DefC P w K mg base (k + 1) x ps (runP N.length m) :=
  ⟨f, fd, FnC.of F sc len_P fun cdv A outer s H vs Q hr h => ⟨_, go cdv A outer s H hr, body_P (E := fun _ _ _ => False) h⟩, hm, F.kp, hb⟩
section
variable {X : Cx} {j k : Nat} {x : Str} {ps : List Str} {p pos : Pos} {e : Expr} {es : List Expr} {m : ML}
theorem se_callC {nn : Nat} {g : List D → Pr} (F : DefC X.prog X.w X.K X.mg X.base j x ps g) (hr : RoomC k X.A) (hj : j ≤ k) (ha : SA X WF (e :: es) m) (hg : Gl X x := by rfl) (hnn : ps.length = nn := by rfl)
    (hdb : (x == ("__debug__" : Str)) = false := by decide) (he : starEach (e :: es) X.env = (false, eval e X.env) :: starEach es X.env := by rfl) (hpl : (backTo pos (starEach es X.env)).any (·.1) = false := by rfl) :
    SE X WF (.Call (.Name x p) (e :: es) [] pos) (mCallP nn g m) := by
  subst hnn
  obtain ⟨f, fd, F1, hm, hk, hb⟩ := F.ex
  refine ⟨fun pins s σ H Q I h => ?_⟩
  obtain ⟨B, env, S, ρ, eo, so, P⟩ := h
  refine wpAny_Call_Name_kw (ld_glob I hg hm ?_ hdb)
  refine PySem.W.callWith_K (h₀ := X.base) I.ok.mod.kin hk (thn (ha.run pos pins s σ H (fun vs H1 => spP ⟨X.K, X.mg⟩ ps.length g vs H1 Q fun _ _ _ => False) I ⟨B, env, S, ρ, eo, so, Post.mono P.bind (fun ds S1 ρ1 H1 e1 s1 P1 vs rs => spP_of s1 rs P1) (fun _ _ _ z => z)⟩) fun us s1 ⟨vs, H1, I1, r, q⟩ => ⟨I1.kIn, ?_⟩) he hpl
  have bnd := hb s1 us I1.kIn (by rw [List.append_nil, ← r.length]; exact F1.len _ _ _ _ q)
  rw [List.append_nil] at bnd
  refine call_back (codeAny_mono (F1.go X.A X.stack s1 H1 ⟨us, []⟩ us vs Q (hr.mono hj) I1.env0 bnd r q) fun r s' z => ?_)
  cases r with
  | error e => obtain ⟨_, _, _, _, _, _, _, _, _, _, _, _, _, z⟩ := z
  | ok fl =>
    cases fl with
    | ret u => exact I1.after z
    | next => exact z.elim
    | brk => exact z.elim
    | cont => exact z.elim
end
end Ev

/-! Ev, part 38: a lambda handed to a def that tries it, with handlers that are walked. -/
namespace Ev
open PySem PySem.Spec PyProof.Rows L2
section
variable {X : Cx} {pins : List (Addr × Obj)} {σ : L2.St} {H : Hp} {s : Shared}
/-- x(), in the def that got the lambda: what the lambda lets out is wished for at the def's slots -/
theorem pe_actS {CXg : CXT} {Eg : XK} {Ng : List Str} {qg : Str} {sg : Scope} {g f c' : Addr} {cdg pm ctv : Value} {params : Arguments} {body : Expr} {scope : Scope} {k i : Nat} {a : Str} {pn : List (Addr × Obj)} {xe : Value → Shared → Prop} {W : L2.WX} {m : M} {p1 p2 : Pos}
    (I : Inv X pins σ H s) (L : LamX.LamS X.env.scope scope) (hf : s.heap.get? f = some (PySem.W.kla_obj "<lambda>" (X.env.qual ++ "<lambda>") params body scope (cloFrom X.env.cells scope.names []) pm c' ctv)) (hfn : H f = none) (hfr : f ∉ frs X.stack)
    (hbind : bindArgs (PySem.W.kla_fn "<lambda>" (X.env.qual ++ "<lambda>") params body scope (cloFrom X.env.cells scope.names []) pm (.ref c') ctv) ⟨[], []⟩ = pure [])
    (tk : L2.Takes ((cxOf CXg X.prog X.w X.K X.mg X.base Ng qg sg g cdg X.A X.stack s H Eg).tr pn xe) W) (hr : Room (k + 1) (X.A.deeper (envOfC qg sg s.heap.objs.size g cdg))) (hgu : X.A.guards = some [])
    (hbody : ∀ (A : Around) (outer : List Env) (s : Shared) (H : Hp) (E : XK), RoomG k (A.deeper (LamX.lamEnv X scope s.heap.objs.size f c')) → SE (LamX.lamCx X A outer s H E scope f c') (WD E) body m)
    (hN : Ng[i]? = some a) (hv : Vis sg a) (hd : (a == ("__debug__" : Str)) = false) (hcd : (a == ("__classdict__" : Str)) = false) :
    PE ((cxOf CXg X.prog X.w X.K X.mg X.base Ng qg sg g cdg X.A X.stack s H Eg).tr pn xe) (.Call (.Name a p1) [] [] p2)
      (fun σZ HZ Q => σZ[i]? = some (some (.ref f)) ∧ HZ c' = some (LamX.CodeO c' (X.env.qual ++ "<lambda>")) ∧ tE ⟨X.K, X.mg⟩ (fun cls d _ H' => W cls d σZ H') m σ HZ Q) := by
  refine ⟨fun pinsZ sZ σZ HZ Q IZ h => ?_⟩
  obtain ⟨hs, hc, ht⟩ := h
  refine wpAny_Call_Name_kw (thn ((pe_var (pos := p1) (i := i) hN hv hd hcd).run pinsZ sZ σZ HZ (fun v H1 => v = .ref f ∧ H1 = HZ) IZ ⟨.ref f, hs, rfl, rfl⟩) fun u s1 ⟨v, H1, I1, r1, q1⟩ => ?_)
  obtain ⟨ev, eH⟩ := q1
  subst ev
  rw [eH] at I1
  obtain rfl : u = Value.ref f := r1
  have of1 : s1.heap.get? f = some (PySem.W.kla_obj "<lambda>" (X.env.qual ++ "<lambda>") params body scope (cloFrom X.env.cells scope.names []) pm c' ctv) := I1.base.keep f _ hf hfn hfr (fun z => nomatch (show f ∈ ([] : List Addr) from z))
  refine PySem.W.callWith_F0 ⟨_, _, _, _, of1⟩ ?_
  have un : Un (frs X.stack) [] H HZ s.heap s1.heap := I1.base
  obtain ⟨⟨oc, vs, t, hoc, hdc, hvc⟩, _, _⟩ := I1.hok c' _ hc
  have rc : codeAny (model X.prog X.w) (X.A.deeper (envOfC qg sg s.heap.objs.size g cdg)) (.call (.ref f) ⟨[], []⟩) (CR (L2.CX X.prog X.w) (envOfC qg sg s.heap.objs.size g cdg :: X.stack) X.prog X.w HZ s1 Q (L2.WE W σZ)) s1 := by
    refine PySem.W.kla_callFunE hr.depth of1 rfl L.co L.gen rfl ⟨c', oc, vs, t, rfl, hoc, hdc, hvc⟩ ?_
    rw [hbind]
    refine wpAny_pure (wpAny_newFunctionEnv (fun y hy => (L.own y hy).2) (fun y hy => absurd hy (by simp)) (fun h₁ hns hsb => ⟨I1.nolimit.fresh _ hsb, ?_⟩) L.kind)
    show codeAny _ _ (.expr body (LamX.lamEnv X scope s1.heap.objs.size f c')) _ _
    have kp : ∀ b o, s1.heap.get? b = some o → h₁.get? b = some o := fun b o e => hsb.extBut b o (Nat.ne_of_lt (Heap.lt_size e)) (Heap.get?_push_of_some _ e)
    have J : Inv (LamX.lamCx X (X.A.deeper (envOfC qg sg s.heap.objs.size g cdg)) (envOfC qg sg s.heap.objs.size g cdg :: X.stack) s1 HZ (L2.WE W σZ) scope f c') [] σ HZ { s1 with heap := h₁, toks := s1.toks + ([] : List (Str × Value)).length } :=
      LamX.lam_start2 I L I1.env0 hr.hd un hns kp
    refine PySem.W.kla_codeExpr (wpAny_mono ((hbody _ _ s1 HZ (L2.WE W σZ) ⟨hr.deeper _, hgu⟩).run [] _ _ HZ Q J ht) (fun v s' hq => ?_) fun e s' hq => hq)
    obtain ⟨w', H', J', rv, q⟩ := hq
    exact ⟨w', H', J'.os, J'.bare, J'.base, J'.hok, rv, q⟩
  refine wpAny_call (codeAny_mono rc fun r s' hq => ?_)
  cases r with
  | error e => exact passAt tk σZ pinsZ HZ s1 e s' I1 hq
  | ok fl =>
    cases fl with
    | ret u => exact I1.after hq
    | next => exact False.elim hq
    | brk => exact False.elim hq
    | cont => exact False.elim hq
end

/-! ### the def that tries: assignments; try; the rest -/
inductive KA where
  | asg (i : Nat) | drop | ret
def actK : KA → D → MS
  | .asg i, d => fun env S => some (.nx (env.set i (some d)), S)
  | .drop, _ => fun env S => some (.nx env, S)
  | .ret, d => fun _ S => some (.rt d, S)
def tK : KA → TE → TS
  | .asg i, t => tAsg t (gName i)
  | .drop, t => tDrop t
  | .ret, t => tRet t
def preGo : List (Nat × M) → MS
  | [] => mSkip
  | (i, m) :: r => fun env S => lft (m env S) env fun d S1 => preGo r (env.set i (some d)) S1
def mTryA (T : Str → Str → Option Bool) (k : KA) (cs : List ClM) (act : Sto → Rs D) : MS := fun env S => match act S with
  | .ok d S1 => actK k d env S1
  | .exc c p S1 => hGo T env c p S1 cs
  | .err => none
def gHrd (n : Nat) (pre : List (Nat × M)) (T : Str → Str → Option Bool) (k : KA) (cs : List ClM) (post : MS) (act : Sto → Rs D) (S : Sto) : Rs D := runI n (mSeq (preGo pre) (mSeq (mTryA T k cs act) post)) [] S
inductive PreS (X : Cx) (W : L2.WX) : List Stmt → List (Nat × M) → Prop
  | nil : PreS X W [] []
  | cons {st : Stmt} {sts : List Stmt} {i : Nat} {m : M} {pre : List (Nat × M)} (h : PS X st (tAsg (tE ⟨X.K, X.mg⟩ W m) (gName i))) (hi : 0 < i) (r : PreS X W sts pre) : PreS X W (st :: sts) ((i, m) :: pre)
def tPre (G : GC) (W : L2.WX) : List (Nat × M) → TS → TS
  | [], u => u
  | (i, m) :: r, u => fun D σ H => tE G W m σ H fun v H1 => tPre G W r u D (σ.set i (some v)) H1
theorem PreS.run {X : Cx} {W : L2.WX} {rest : List Stmt} {u : TS} : ∀ {sts : List Stmt} {pre : List (Nat × M)}, PreS X W sts pre → PSs X rest u → PSs X (sts ++ rest) (tPre ⟨X.K, X.mg⟩ W pre u)
  | _, _, .nil, hr => hr
  | _, _, .cons h _ r, hr => pss_cons h (r.run hr)
theorem PostS.seq {G : GC} {W : L2.WX} {B : Addr → Prop} {ρ : List Addr} {H : Hp} {r : Option (Fl × Sto)} {b : MS} {De : Ends} (P : PostS G W B ρ H (match r with
    | some (.nx e', S') => b e' S'
    | r => r) De) : PostS G W B ρ H r { De with nx := tS G W b De } := by
  cases r with
  | none => exact P
  | some r =>
    obtain ⟨f, S2⟩ := r
    cases f with
    | nx e => exact fun σ' ρ' H' x so eo => ⟨B, e, S2, ρ', eo, so, PostS.ext P x⟩
    | bk e => exact P
    | ct e => exact P
    | rt d => exact P
    | xc e c p => exact P
/-- what the try's body, the call alone, reads -/
def tAct (G : GC) (σO : L2.St) (f c' : Addr) (q : Str) (m : M) (W : L2.WX) : TE := fun σZ HZ Q => σZ[0]? = some (some (.ref f)) ∧ HZ c' = some (LamX.CodeO c' q) ∧ tE G (fun cls d _ H' => W cls d σZ H') m σO HZ Q
theorem code_out {G : GC} {B : Addr → Prop} {S : Sto} {ρ : List Addr} {H : Hp} {c' : Addr} {q : Str} (so : SOk G B S ρ H) (h : H c' = some (LamX.CodeO c' q)) : c' ∉ ρ := fun hm => by
  obtain ⟨n, hn⟩ := List.mem_iff_getElem?.mp hm
  have hl : n < S.length := by rw [← so.len]; exact (List.getElem?_eq_some_iff.mp hn).1
  have ob := so.ob n S[n] c' (by simp [hl]) hn
  obtain ⟨φ, hφ⟩ : ∃ φ : Heap → Prop, LamX.CodeO c' q = .ext φ := ⟨_, rfl⟩
  rw [hφ] at h
  generalize S[n] = o at ob
  cases o with
  | lst ds => obtain ⟨_, z, _⟩ := ob; rw [z] at h; cases h
  | ins c ns ds => obtain ⟨_, _, _, z, _⟩ := ob; rw [z] at h; cases h
  | dk ks ds => obtain ⟨_, z, _⟩ := ob; rw [z] at h; cases h
  | dt ks ds => obtain ⟨_, z, _⟩ := ob; rw [z] at h; cases h
  | tbl x q => obtain ⟨_, _, z, _⟩ := ob; rw [z] at h; cases h
section
variable {K : PySem.W.Frag} {mg : Str → Option Value} {σO : L2.St} {envO : En} {f c' : Addr} {q : Str} {m : M} {W : L2.WX} {T : Str → Str → Option Bool} {k : KA} {cs : List ClM} {l' : List ClX} {post : MS} {B : Addr → Prop}
theorem hrd_try (go : ∀ (De : Ends) (B : Addr → Prop) (e : En) (c : Str) (p : Option (List Str × List D)) (S1 : Sto) (σ1 : L2.St) (ρ1 : List Addr) (H1 : Hp) (C : Addr) (d : Option Addr), EnvOk ⟨K, mg⟩ B ρ1 H1 e σ1 → SOk ⟨K, mg⟩ B S1 ρ1 H1 → ExcA ⟨K, mg⟩ B ρ1 H1 c p C d →
      PostS ⟨K, mg⟩ W B ρ1 H1 (hGo T e c p S1 cs) De → wX K W De l' (.ref C) d σ1 H1) {De : Ends} {σ : L2.St} {env : En} {S : Sto} {ρ : List Addr} {H : Hp} (eO : EnvOk ⟨K, mg⟩ B ρ H envO σO) (eo : EnvOk ⟨K, mg⟩ B ρ H env σ) (so : SOk ⟨K, mg⟩ B S ρ H) (h0 : σ[0]? = some (some (.ref f))) (hc : H c' = some (LamX.CodeO c' q))
    (P : PostS ⟨K, mg⟩ W B ρ H (mSeq (mTryA T k cs fun S1 => m envO S1) post env S) De) :
    tK k (tAct ⟨K, mg⟩ σO f c' q m (wX K W { De with nx := tS ⟨K, mg⟩ W post De } l')) { De with nx := tS ⟨K, mg⟩ W post De } σ H := by
  have key : ∀ {Q : VK}, (∀ d S1, m envO S = .ok d S1 → ∀ ρ' H' v, Ext ρ H ρ' H' → SOk ⟨K, mg⟩ B S1 ρ' H' → Rep ⟨K, mg⟩ B ρ' H' d v → Q v H') → tAct ⟨K, mg⟩ σO f c' q m (wX K W { De with nx := tS ⟨K, mg⟩ W post De } l') σ H Q := by
    intro Q hq
    refine ⟨h0, hc, B, envO, S, ρ, eO, so, ?_⟩
    cases qm : m envO S with
    | ok d S1 => exact fun ρ' H' x s v r => hq d S1 qm ρ' H' v x s r
    | err =>
      unfold mSeq mTryA at P
      simp only [qm] at P
      exact P.elim
    | exc c p S1 =>
      unfold mSeq mTryA at P
      simp only [qm] at P
      exact fun ρ' H' C d x s xa => go { De with nx := tS ⟨K, mg⟩ W post De } B env c p S1 σ ρ' H' C d (eo.mono x) s xa (PostS.ext P.seq x)
  cases k with
  | asg i =>
    refine key fun d S1 qm ρ' H' v x s r => ?_
    unfold mSeq mTryA at P
    simp only [qm, actK] at P
    exact ⟨B, env.set i (some d), S1, ρ', (eo.mono x).set r i, s, PostS.ext P x⟩
  | drop =>
    refine key fun d S1 qm ρ' H' v x s r => ?_
    unfold mSeq mTryA at P
    simp only [qm, actK] at P
    exact ⟨B, env, S1, ρ', eo.mono x, s, PostS.ext P x⟩
  | ret =>
    refine key fun d S1 qm ρ' H' v x s r => ?_
    unfold mSeq mTryA at P
    simp only [qm, actK] at P
    exact P ρ' H' v x s r
theorem hrd_pre {u : TS} {rest : MS} (fin : ∀ {De : Ends} {σ : L2.St} {env : En} {S : Sto} {ρ : List Addr} {H : Hp}, EnvOk ⟨K, mg⟩ B ρ H envO σO → EnvOk ⟨K, mg⟩ B ρ H env σ → SOk ⟨K, mg⟩ B S ρ H → σ[0]? = some (some (.ref f)) → H c' = some (LamX.CodeO c' q) → PostS ⟨K, mg⟩ W B ρ H (rest env S) De → u De σ H) :
    ∀ {pre : List (Nat × M)} {De : Ends} {σ : L2.St} {env : En} {S : Sto} {ρ : List Addr} {H : Hp}, (∀ p ∈ pre, 0 < p.1) → EnvOk ⟨K, mg⟩ B ρ H envO σO → EnvOk ⟨K, mg⟩ B ρ H env σ → SOk ⟨K, mg⟩ B S ρ H → σ[0]? = some (some (.ref f)) → H c' = some (LamX.CodeO c' q) → PostS ⟨K, mg⟩ W B ρ H (mSeq (preGo pre) rest env S) De → tPre ⟨K, mg⟩ W pre u De σ H
  | [], De, σ, env, S, ρ, H, _, eO, eo, so, h0, hc, P => fin eO eo so h0 hc P
  | (i, m0) :: pre, De, σ, env, S, ρ, H, hp, eO, eo, so, h0, hc, P => by
    have P2 : PostS ⟨K, mg⟩ W B ρ H (lft (m0 env S) env fun d S1 => mSeq (preGo pre) rest (env.set i (some d)) S1) De := by
      unfold mSeq preGo at P
      cases q0 : m0 env S with
      | ok d S1 => simp only [q0, lft_ok] at P ⊢; exact P
      | exc c p S1 => simp only [q0, lft_exc] at P ⊢; exact P
      | err => simp only [q0, lft_err] at P; exact P.elim
    have hi : 0 < i := hp (i, m0) (List.mem_cons_self ..)
    refine ⟨B, env, S, ρ, eo, so, Post.mono (PostS.lft P2 eo) (fun d S1 ρ1 H1 e1 s1 P1 v r => ?_) (fun _ _ _ z => z)⟩
    exact hrd_pre fin (fun p hm => hp p (List.mem_cons_of_mem _ hm)) (eO.mono e1) ((eo.mono e1).set r i) s1 (by rw [List.getElem?_set_ne (by omega)]; exact h0) (e1.keep c' _ hc (code_out so hc)) P1
end
/-- the def x that takes a lambda and tries it -/
structure HeardD (P : Program) (w : World) (K : PySem.W.Frag) (mg : Str → Option Value) (base : Heap) (k : Nat) (x : Str) (g : (Sto → Rs D) → Sto → Rs D) : Prop where
  ex : ∃ (fg : Addr) (fd : FuncData) (prm : Arguments) (sg : Scope) (a : Str) (N : List Str) (pst tb post : List Stmt) (h₀ : ExceptHandler) (hds : List ExceptHandler) (p p1 p2 : Pos) (pre : List (Nat × M)) (T : Str → Str → Option Bool) (ka : KA) (cs : List ClM) (mp : MS),
    FunD K x x prm (pst ++ .Try tb (h₀ :: hds) [] [] p :: post) sg [] [] fg fd ∧ mg x = some (.ref fg) ∧ FnScope N [a] sg ∧ L2.Binds K fd [a] [] ∧ (a == ("__debug__" : Str)) = false ∧ (a == ("__classdict__" : Str)) = false ∧ ExT K mg T ∧ g = gHrd N.length pre T ka cs mp ∧
    (∀ p ∈ pre, 0 < p.1) ∧ ∀ (cdv : Value) (A : Around) (outer : List Env) (s : Shared) (H : Hp) (E : XK), RoomG k (A.deeper (envOfC x sg s.heap.objs.size fg cdv)) →
      PreS (cxOf (L2.CX P w) P w K mg base N x sg fg cdv A outer s H E) (WD E) pst pre ∧ HdX (cxOf (L2.CX P w) P w K mg base N x sg fg cdv A outer s H E) (h₀ :: hds) cs ∧ SSs (cxOf (L2.CX P w) P w K mg base N x sg fg cdv A outer s H E) (WD E) post mp ∧
      ∀ pn xe t, PE ((cxOf (L2.CX P w) P w K mg base N x sg fg cdv A outer s H E).tr pn xe) (.Call (.Name a p1) [] [] p2) t → PSs ((cxOf (L2.CX P w) P w K mg base N x sg fg cdv A outer s H E).tr pn xe) tb (tK ka t)
open Classical in
noncomputable def mHeard (n : Nat) (x q : Str) (g : (Sto → Rs D) → Sto → Rs D) (m : M) : M := fun env S => if S[n]? = some (.tbl x q) then g (fun S1 => m env S1) S else .err
section
variable {X : Cx} {W : L2.WX}
theorem se_heard {n j k : Nat} {x0 x : Str} {g : (Sto → Rs D) → Sto → Rs D} {params : Arguments} {body : Expr} {scope : Scope} {p0 lpos pos : Pos} {m : M} (TD : HeardD X.prog X.w X.K X.mg X.base j x g) (LG : LamG X x0) (hr : RoomG (k + 2) X.A) (hj : j ≤ k + 1) (tk : L2.Takes X W) (L : LamX.LamS X.env.scope scope)
    (hbody : ∀ (A : Around) (outer : List Env) (s : Shared) (H : Hp) (E : XK) (f c' : Addr), RoomG k (A.deeper (LamX.lamEnv X scope s.heap.objs.size f c')) → SE (LamX.lamCx X A outer s H E scope f c') (WD E) body m)
    (hdef : defaultsOf params X.env = ([], []) := by rfl)
    (hbind : ∀ (q : Str) (cl : List (Str × Addr)) (pm cv ctv : Value), bindArgs (PySem.W.kla_fn "<lambda>" q params body scope cl pm cv ctv) ⟨[], []⟩ = pure [] := by intros; rfl)
    (hg : Gl X x := by rfl) (hdb : (x == ("__debug__" : Str)) = false := by decide) :
    SE X W (.Call (.Name x p0) [.Lambda params body scope lpos] [] pos) (mHeard n x0 (X.env.qual ++ "<lambda>") g m) := by
  obtain ⟨fg, fd, prm, sg, a, N, pst, tb, post, h₀, hds, p, p1, p2, pre, T, ka, cs, mp, F, hm, Sg, hb, hd, hcd, hT, rfl, hpre, parts⟩ := TD.ex
  have hk := F.kp
  obtain ⟨oc, od, dV, kV, doc, pm0, an, cdv, ct, osl, rfl, lk, hcg, _, _⟩ := F.ex
  refine ⟨fun pins s σ H Q I h => ?_⟩
  obtain ⟨B, env, S, ρ, eo, so, P⟩ := h
  have hS : S[n]? = some (.tbl x0 (X.env.qual ++ "<lambda>")) := by
    apply Classical.byContradiction
    intro hn
    unfold mHeard at P
    rw [if_neg hn] at P
    exact P
  unfold mHeard at P
  rw [if_pos hS] at P
  refine wpAny_Call_Name_kw (ld_glob I hg hm ?_ hdb)
  refine PySem.W.callWith_K (h₀ := X.base) I.ok.mod.kin hk ?_ (by rfl) (by rfl)
  show wpAny _ _ (spliced ((false, eval (.Lambda params body scope lpos) X.env) :: backTo pos (starEach [] X.env))) _ _ s
  refine Calls.spliced_cons (lam_make3 I LG hS so hdef (L.has I.ok) fun f c' pm' ctv H1 s' I1 e1 so1 hf hfn hfr hco => ?_)
  refine Calls.spliced_nil ⟨I1.kIn, ?_⟩
  have hva : Vis sg a := (Sg.par a (by simp)).elim .inl fun z => .inr (.inl z)
  have hNa : N[0]? = some a := by
    have z := Sg.pre
    cases hN : N with
    | nil => rw [hN] at z; simp at z
    | cons y ys =>
      rw [hN] at z
      simp only [List.length_singleton, List.take_succ_cons, List.take_zero, List.cons.injEq, and_true] at z
      rw [z]; rfl
  have rc : codeAny (model X.prog X.w) X.A (.call (.ref fg) ⟨[.ref f], []⟩) (CR (L2.CX X.prog X.w) X.stack X.prog X.w H1 s' Q (L2.WE W σ)) s' := by
    refine LamX.run_ofS (k := k + 1) (N := N) (ps := [a]) (us := [.ref f]) (vs := [.ref f]) lk hcg Sg hr.r I1.env0 (hb s' [.ref f] I1.kIn rfl) (.cons rfl .nil) rfl fun hr2 => ?_
    have hr2G : RoomG (k + 1) (X.A.deeper (envOfC x sg s'.heap.objs.size fg cdv)) := ⟨hr2, hr.g⟩
    obtain ⟨hp, hh, hpost, htb⟩ := parts cdv X.A X.stack s' H1 (L2.WE W σ) (hr2G.mono hj)
    obtain ⟨l', hl', go⟩ := HdX.go (X := cxOf (L2.CX X.prog X.w) X.prog X.w X.K X.mg X.base N x sg fg cdv X.A X.stack s' H1 (L2.WE W σ)) hT (Wout := WD (L2.WE W σ)) hh
    have tkG : L2.Takes (cxOf (L2.CX X.prog X.w) X.prog X.w X.K X.mg X.base N x sg fg cdv X.A X.stack s' H1 (L2.WE W σ)) (WD (L2.WE W σ)) := takes_of rfl rfl rfl rfl
    refine ⟨_, hp.run (pss_cons (ps_tryX (tb := fun W2 => tK ka (tAct ⟨X.K, X.mg⟩ σ f c' (X.env.qual ++ "<lambda>") m W2)) rfl rfl rfl Sg.nd tkG (fun W2 pn xe tk2 _ => ?_) hl') hpost), ?_⟩
    · exact htb pn xe _ (pe_actS (W := W2) I1 L hf hfn hfr (hbind _ _ _ _ _) tk2 hr2 hr.g (fun A outer s H E hr3 => hbody A outer s H E f c' hr3) hNa hva hd hcd)
    · refine hrd_pre (rest := mSeq (mTryA T ka cs fun S1 => m env S1) mp) (fun eO ei so2 h0 hc P2 => hrd_try go eO ei so2 h0 hc P2) hpre (eo.mono e1) (env := startE N.length []) ?_ so1 ?_ hco ?_
      · refine ⟨?_, fun i d hi => ?_⟩
        · unfold startE L2.start
          have z := congrArg List.length Sg.pre
          rw [List.length_take] at z
          simp only [List.length_singleton] at z
          simp; omega
        · unfold startE at hi
          rw [List.map_nil, List.nil_append, List.getElem?_replicate] at hi
          split at hi <;> cases hi
      · unfold L2.start; rfl
      · unfold gHrd runI at P
        split at P
        · rename_i d S' qb
          rw [qb]
          exact fun ρ' H' v e s r' => P ρ' H' (e1.trans e) s v r'
        · rename_i qb
          rw [qb]
          exact fun σ' ρ' H' e s _ => P ρ' H' (e1.trans e) s _ (by simp only [Rep])
        · rename_i qb
          rw [qb]
          exact fun σ' ρ' H' C d e s _ x => P ρ' H' C d (e1.trans e) s x
        · exact P.elim
  refine wpAny_call (codeAny_mono rc fun r s2 hq => ?_)
  cases r with
  | error e => exact passAt tk σ pins H1 s' e s2 I1 hq
  | ok fl =>
    cases fl with
    | ret u => exact I1.after hq
    | next => exact False.elim hq
    | brk => exact False.elim hq
    | cont => exact False.elim hq
end
end Ev

/-! Ev, part 39: what is read of the head about exceptions; the plain side of tries. -/
namespace Ev
open PySem PySem.Spec PyProof.Rows L2
theorem hc_one {X : Cx} {x : Str} {p : Pos} (h : ∃ C, X.mg x = some (.ref C)) (hg : Gl X x := by rfl) (hd : (x == ("__debug__" : Str)) = false := by decide) : ∃ cs, [x].map X.mg = cs.map some ∧ ∀ a pn, ClsC (X.suite a pn) (.Name x p) [x] cs := by
  obtain ⟨C, hC⟩ := h
  exact ⟨[.ref C], by simp [hC], fun a pn => .one hg hd hC⟩
theorem hc_tup3 {X : Cx} {x y z : Str} {px py pz p : Pos} {k : Nat} (h1 : ∃ C, X.mg x = some (.ref C)) (h2 : ∃ C, X.mg y = some (.ref C)) (h3 : ∃ C, X.mg z = some (.ref C)) (g1 : Gl X x := by rfl) (g2 : Gl X y := by rfl) (g3 : Gl X z := by rfl)
    (d1 : (x == ("__debug__" : Str)) = false := by decide) (d2 : (y == ("__debug__" : Str)) = false := by decide) (d3 : (z == ("__debug__" : Str)) = false := by decide) :
    ∃ cs, [x, y, z].map X.mg = cs.map some ∧ ∀ a pn, ClsC (X.suite a pn) (.Tuple [.Name x px, .Name y py, .Name z pz] k p) [x, y, z] cs := by
  obtain ⟨A, hA⟩ := h1
  obtain ⟨B, hB⟩ := h2
  obtain ⟨C, hC⟩ := h3
  exact ⟨[.ref A, .ref B, .ref C], by simp [hA, hB, hC], fun a pn => .tup (.cons g1 d1 hA (.cons g2 d2 hB (.cons g3 d3 hC .nil)))⟩
/-! ### tables of classes -/
abbrev Anc := List (Str × List Str)
def tabT (tab : Anc) (known : List Str) (c k : Str) : Option Bool := match tab.lookup c with
  | some l => if known.contains k then some (l.contains k) else none
  | none => none
theorem lookup_mem {tab : Anc} {c : Str} {l : List Str} (h : tab.lookup c = some l) : (c, l) ∈ tab := by
  induction tab with
  | nil => cases h
  | cons q r ih =>
    obtain ⟨d, m⟩ := q
    simp only [List.lookup] at h
    split at h
    · rename_i e
      cases h
      have : c = d := by simpa using e
      subst this
      exact List.mem_cons_self ..
    · exact List.mem_cons_of_mem _ (ih h)
def gloB (K : PySem.W.Frag) (x : Str) : Bool := (He.Fa.glo x).ok K
def extB (K : PySem.W.Frag) (tab : Anc) (known : List Str) : Bool := tab.all (fun q => gloB K q.1) && (known.all (gloB K) && tab.all fun q => known.all fun k => decide (PySem.W.exmOne K (.ref (He.ga K q.1)) (.ref (He.ga K k)) = some (q.2.contains k)))
section
variable {K : PySem.W.Frag} {h : Heap} {mg : Str → Option Value}
theorem extB_ok (X : K.In h) (G : h.Ns mainGlobals mg) {tab : Anc} {known : List Str} (c : extB K tab known = true) : ExT K mg (tabT tab known) := by
  obtain ⟨c1, c⟩ := He.ba c
  obtain ⟨c2, c3⟩ := He.ba c
  refine ⟨fun x k b e => ?_⟩
  unfold tabT at e
  split at e
  · rename_i l hl
    have hm := lookup_mem hl
    split at e
    · rename_i hk
      cases e
      have hk := List.elem_iff.mp hk
      exact ⟨_, _, He.glo_ok X G (List.all_eq_true.mp c1 _ hm), He.glo_ok X G (List.all_eq_true.mp c2 _ hk), of_decide_eq_true (List.all_eq_true.mp (List.all_eq_true.mp c3 _ hm) _ hk)⟩
    · cases e
  · cases e
def exCB (K : PySem.W.Frag) (c : Str) : Bool := He.eqO (PySem.W.findIn K (.ref (He.ga K c)) "__getattribute__") (some (some (.builtin "BaseException.__getattribute__"))) && (He.eqO (PySem.W.findIn K (.ref (He.ga K c)) "__getattr__") (some none) &&
  (decide (PySem.W.subIn K (.ref (He.ga K c)) (.type "BaseException") = some true) && (PySem.W.hasDictIn K (He.ga K c) && (He.eqO (PySem.W.findIn K (.ref (He.ga K c)) "__class__") (some (some (.builtin "object.__class__"))) &&
  (He.eqO (PySem.W.specialIn K (.builtin "object.__class__") "__get__") (some (some (.builtin "getset_descriptor.__get__"))) && (decide (PySem.W.takesIn K (.builtin "object.__class__") = some true) && decide (PySem.W.mroIn K (He.ga K c) (.type "object") = some true)))))))
theorem exCB_ok {c : Str} (q : exCB K c = true) : ExcC K (He.ga K c) := by
  obtain ⟨h1, q⟩ := He.ba q
  obtain ⟨h2, q⟩ := He.ba q
  obtain ⟨h3, q⟩ := He.ba q
  obtain ⟨h4, q⟩ := He.ba q
  obtain ⟨h5, q⟩ := He.ba q
  obtain ⟨h6, q⟩ := He.ba q
  obtain ⟨h7, h8⟩ := He.ba q
  exact ⟨He.eqO_ok h1, He.eqO_ok h2, of_decide_eq_true h3, h4, He.eqO_ok h5, He.eqO_ok h6, of_decide_eq_true h7, of_decide_eq_true h8⟩
/-- own: own classes asked for; blt: built-in ones -/
def istB (K : PySem.W.Frag) (tab : Anc) (own blt : List Str) : Bool := tab.all (fun q => gloB K q.1 && exCB K q.1) && (own.all (gloB K) && (blt.all (fun k => (He.Fa.free k).ok K) && tab.all fun q => own.all (fun k => decide (PySem.W.kitOne K (.ref (He.ga K q.1)) (.ref (He.ga K k)) = some (q.2.contains k))) &&
  blt.all fun k => (match bootBuiltins k with | some (.type n) => decide (PySem.W.kitOne K (.ref (He.ga K q.1)) (.type n) = some (q.2.contains k)) | _ => false)))
theorem istB_ok (X : K.In h) (G : h.Ns mainGlobals mg) {tab : Anc} {own blt : List Str} (c : istB K tab own blt = true) : IsT K mg (tabT tab (own ++ blt)) := by
  obtain ⟨c1, c⟩ := He.ba c
  obtain ⟨c2, c⟩ := He.ba c
  obtain ⟨c3, c4⟩ := He.ba c
  refine ⟨fun x k b e => ?_⟩
  unfold tabT at e
  split at e
  · rename_i l hl
    have hm := lookup_mem hl
    split at e
    · rename_i hk
      cases e
      have hk := List.elem_iff.mp hk
      obtain ⟨g1, g2⟩ := He.ba (List.all_eq_true.mp c1 _ hm)
      obtain ⟨g3, g4⟩ := He.ba (List.all_eq_true.mp c4 _ hm)
      rcases List.mem_append.mp hk with hk | hk
      · exact ⟨_, .ref (He.ga K k), He.glo_ok X G g1, exCB_ok g2, .inl (He.glo_ok X G (List.all_eq_true.mp c2 _ hk)), .inl ⟨_, rfl⟩, of_decide_eq_true (List.all_eq_true.mp g3 _ hk)⟩
      · have z := List.all_eq_true.mp g4 _ hk
        split at z
        · rename_i n hn
          exact ⟨_, .type n, He.glo_ok X G g1, exCB_ok g2, .inr ⟨He.free_ok X G (List.all_eq_true.mp c3 _ hk), hn⟩, .inr ⟨n, rfl⟩, of_decide_eq_true z⟩
        · cases z
    · cases e
  · cases e
def xftB (K : PySem.W.Frag) (known : List Str) (f : Str) : Bool := known.all fun c => gloB K c && (xfB K (He.ga K c) && He.eqO (PySem.W.findIn K (.ref (He.ga K c)) f) (some none))
theorem xftB_ok (X : K.In h) (G : h.Ns mainGlobals mg) {known : List Str} {f : Str} (c : xftB K known f = true) : XfT K mg known f := ⟨fun x hx => by
  obtain ⟨c1, c⟩ := He.ba (List.all_eq_true.mp c x hx)
  obtain ⟨c2, c3⟩ := He.ba c
  exact ⟨_, He.glo_ok X G c1, xfB_ok c2, He.eqO_ok c3⟩⟩
/-! ### a class whose instances are raised with what they keep -/
def exiB (K : PySem.W.Frag) (c f : Str) (bm : List Value) (newId : String) : Bool := PySem.W.excInitIn K (He.ga K c) bm newId && (PySem.W.excOver K (He.ga K c) bm && (decide (PySem.W.takerIn K (He.ga K c) f = some none) && (PySem.W.hasDictIn K (He.ga K c) &&
  (He.eqO (PySem.W.findIn K (.ref (He.ga K c)) "__setattr__") (some (some (.builtin "object.__setattr__"))) && (PySem.W.keepIn K (.ref (He.ga K c)) && (decide (PySem.W.subIn K (.ref (He.ga K c)) (.type "BaseException") = some true) && decide (PySem.W.typeIn K (.ref (He.ga K c)) = some (.type "type"))))))))
theorem exiB_ok {P : Program} {w : World} {base : Heap} {c f x qual s0 g0 : Str} {bm : List Value} {B newId initId : String} {prm : Arguments} {body : List Stmt} {scope : Scope} {fd : FuncData} (FB : ExcBaseFacts B newId initId bm) (SF : StoreFacts B bm "object.__setattr__" "object") (hm : mg c = some (.ref (He.ga K c))) (q : exiB K c f bm newId = true)
    (me : Meth K (He.ga K c) "__init__" (He.fAd K (c, some "__init__"))) (F : FunD K x qual prm body scope [] [] (He.fAd K (c, some "__init__")) fd) (hb : ∃ p1 p2 p3 p4, body = [.Assign [.Attribute (.Name s0 p1) f p2] (.Name g0 p3) p4]) (sc : FnScope [s0, g0] [s0, g0] scope) (bn : Binds K fd [s0, g0] [])
    (d1 : (s0 == ("__debug__" : Str)) = false) (d2 : (s0 == ("__classdict__" : Str)) = false) (d3 : (g0 == ("__debug__" : Str)) = false) (d4 : (g0 == ("__classdict__" : Str)) = false)
    (hs : ∀ (env : Env) (p1 p2 p3 p4 : Pos), swapsWith (.Name g0 p3) (some (.Attribute (.Name s0 p1) f p2)) p4.line env = pure false) : ExcI P w K mg base c f := by
  obtain ⟨h1, q⟩ := He.ba q
  obtain ⟨h2, q⟩ := He.ba q
  obtain ⟨h3, q⟩ := He.ba q
  obtain ⟨h4, q⟩ := He.ba q
  obtain ⟨h5, q⟩ := He.ba q
  obtain ⟨h6, q⟩ := He.ba q
  obtain ⟨h7, h8⟩ := He.ba q
  have S : ExcS K (He.ga K c) f := ⟨⟨B, bm, SF, h2⟩, of_decide_eq_true h3, h4, He.eqO_ok h5⟩
  exact ⟨_, _, fd, _, B, newId, initId, bm, hm, h6, FB, h1, me.at_, me.fn, initG F hb sc S d1 d2 d3 d4 hs, rfl, bn, of_decide_eq_true h7, of_decide_eq_true h8⟩
end
/-! ### the plain side -/
section
variable {env : En} {S : Sto}
@[simp] theorem mRaise1_fpo {c f : Str} {m : M} {Q : Fl → Sto → Prop} : fpo (mRaise1 c f m env S) Q = (m env S).po (fun d S1 => Q (.xc env c (some ([f], [d]))) S1) (fun c p S1 => Q (.xc env c p) S1) := by
  unfold mRaise1
  cases m env S <;> rfl
end
end Ev
namespace Ev
open PySem PySem.Spec PyProof.Rows L2
section
variable {P : Program} {w : World} {K : PySem.W.Frag} {mg : Str → Option Value} {base : Heap} {k : Nat} {fg : Addr} {fd : FuncData} {x a : Str} {prm : Arguments} {sg : Scope} {N : List Str} {s1 s2 s3 : Stmt} {tb post : List Stmt} {h₀ : ExceptHandler} {hds : List ExceptHandler} {p p1 p2 : Pos} {pre : List (Nat × M)} {T : Str → Str → Option Bool} {ka : KA} {cs : List ClM} {mp : MS}
theorem HeardD.of0 (F : FunD K x x prm (.Try tb (h₀ :: hds) [] [] p :: post) sg [] [] fg fd) (hm : mg x = some (.ref fg)) (sc : FnScope N [a] sg) (hb : L2.Binds K fd [a] []) (d1 : (a == ("__debug__" : Str)) = false) (d2 : (a == ("__classdict__" : Str)) = false) (hT : ExT K mg T)
    (go : ∀ (cdv : Value) (A : Around) (outer : List Env) (s : Shared) (H : Hp) (E : XK), RoomG k (A.deeper (envOfC x sg s.heap.objs.size fg cdv)) →
      HdX (cxOf (L2.CX P w) P w K mg base N x sg fg cdv A outer s H E) (h₀ :: hds) cs ∧ SSs (cxOf (L2.CX P w) P w K mg base N x sg fg cdv A outer s H E) (WD E) post mp ∧
      ∀ pn xe t, PE ((cxOf (L2.CX P w) P w K mg base N x sg fg cdv A outer s H E).tr pn xe) (.Call (.Name a p1) [] [] p2) t → PSs ((cxOf (L2.CX P w) P w K mg base N x sg fg cdv A outer s H E).tr pn xe) tb (tK ka t)) : HeardD P w K mg base k x (gHrd N.length [] T ka cs mp) :=
  ⟨fg, fd, prm, sg, a, N, [], tb, post, h₀, hds, p, p1, p2, [], T, ka, cs, mp, F, hm, sc, hb, d1, d2, hT, rfl, fun _ h => (nomatch h), fun cdv A outer s H E hr => ⟨.nil, go cdv A outer s H E hr⟩⟩
theorem HeardD.of3 (F : FunD K x x prm (s1 :: s2 :: s3 :: .Try tb (h₀ :: hds) [] [] p :: post) sg [] [] fg fd) (hm : mg x = some (.ref fg)) (sc : FnScope N [a] sg) (hb : L2.Binds K fd [a] []) (d1 : (a == ("__debug__" : Str)) = false) (d2 : (a == ("__classdict__" : Str)) = false) (hT : ExT K mg T) (hp : ∀ q ∈ pre, 0 < q.1)
    (go : ∀ (cdv : Value) (A : Around) (outer : List Env) (s : Shared) (H : Hp) (E : XK), RoomG k (A.deeper (envOfC x sg s.heap.objs.size fg cdv)) →
      PreS (cxOf (L2.CX P w) P w K mg base N x sg fg cdv A outer s H E) (WD E) [s1, s2, s3] pre ∧ HdX (cxOf (L2.CX P w) P w K mg base N x sg fg cdv A outer s H E) (h₀ :: hds) cs ∧ SSs (cxOf (L2.CX P w) P w K mg base N x sg fg cdv A outer s H E) (WD E) post mp ∧
      ∀ pn xe t, PE ((cxOf (L2.CX P w) P w K mg base N x sg fg cdv A outer s H E).tr pn xe) (.Call (.Name a p1) [] [] p2) t → PSs ((cxOf (L2.CX P w) P w K mg base N x sg fg cdv A outer s H E).tr pn xe) tb (tK ka t)) : HeardD P w K mg base k x (gHrd N.length pre T ka cs mp) :=
  ⟨fg, fd, prm, sg, a, N, [s1, s2, s3], tb, post, h₀, hds, p, p1, p2, pre, T, ka, cs, mp, F, hm, sc, hb, d1, d2, hT, rfl, hp, go⟩
end
theorem RoomC.units {k : Nat} {A : Around} (r : RoomC k A) : A.units + 64 < cLine := by have := r.un; omega
theorem RoomC.units66 {k : Nat} {A : Around} (r : RoomC k A) : A.units + 66 < cLine := by have := r.un; omega
section
variable {env : En} {S : Sto}
@[simp] theorem mTry_fpo {T : Str → Str → Option Bool} {b : MS} {cs : List ClM} {Q : Fl → Sto → Prop} : fpo (mTry T b cs env S) Q = fpo (b env S) fun f S1 => match f with
    | .xc e c p => fpo (hGo T e c p S1 cs) Q
    | f => Q f S1 := by
  unfold mTry
  cases b env S with
  | none => rfl
  | some r =>
    obtain ⟨f, S1⟩ := r
    cases f <;> rfl
theorem mTryA_fpo {T : Str → Str → Option Bool} {k : KA} {cs : List ClM} {act : Sto → Rs D} {Q : Fl → Sto → Prop} : fpo (mTryA T k cs act env S) Q = (act S).po (fun d S1 => fpo (actK k d env S1) Q) fun c p S1 => fpo (hGo T env c p S1 cs) Q := by
  unfold mTryA
  cases act S <;> rfl
theorem gHrd_po {n : Nat} {pre : List (Nat × M)} {T : Str → Str → Option Bool} {k : KA} {cs : List ClM} {post : MS} {act : Sto → Rs D} {Q : D → Sto → Prop} {X : XQ} : (gHrd n pre T k cs post act S).po Q X = fpo (mSeq (preGo pre) (mSeq (mTryA T k cs act) post) (startE n []) S) (fun f S' => match f with
    | .rt d => Q d S'
    | .nx _ => Q .non S'
    | .xc _ c p => X c p S'
    | _ => False) := by
  unfold gHrd runI
  cases mSeq (preGo pre) (mSeq (mTryA T k cs act) post) (startE n []) S with
  | none => rfl
  | some r =>
    obtain ⟨f, S1⟩ := r
    cases f <;> rfl
theorem mHeard_po {n : Nat} {x q : Str} {g : (Sto → Rs D) → Sto → Rs D} {m : M} {Q : D → Sto → Prop} {X : XQ} (hS : S[n]? = some (.tbl x q)) : (mHeard n x q g m env S).po Q X = (g (fun S1 => m env S1) S).po Q X := by
  unfold mHeard
  rw [if_pos hS]
@[simp] theorem mXf_po {known : List Str} {f : Str} {o : M} {Q : D → Sto → Prop} {X : XQ} : (mXf known f o env S).po Q X = (o env S).po (fun d S1 => match d with
    | .exn c ns ds => known.contains c = true ∧ opo (getD f ns ds) fun x => Q x S1
    | _ => False) X := by
  unfold mXf
  rw [po_bind]
  congr; funext d S1
  cases d with
  | exn c ns ds =>
    by_cases h : known.contains c = true
    · simp only [h, if_true, true_and]
      cases getD f ns ds <;> rfl
    · simp only [h, if_false, false_and]
      simp [Rs.po]
  | _ => rfl
end
end Ev

/-! Ev, part 40: a tuple times an int -/
namespace Ev
open PySem PySem.Spec PyProof.Rows L2
def sMulT (_ : Sto) (x y : D) : Option D := match x, y with
  | .tup xs, .int k => if Nat.ble 2 k.toNat && Nat.ble k.toNat 1000 && Nat.ble xs.length 1000 && !xs.isEmpty then some (.tup (List.replicate k.toNat xs).flatten) else none
  | _, _ => none
theorem op_sMulT {X : Cx} : VOp X (binaryOp .Mult) sMulT := by
  intro pins s σ H x y v u Q I rx ry ⟨B, S, ρ, dx, dy, so, hx, hy, d, he, k⟩
  unfold sMulT at he
  split at he
  · rename_i xs k'
    split at he
    · rename_i hz
      cases he
      simp only [Bool.and_eq_true] at hz
      obtain ⟨⟨⟨z1, z2⟩, z3⟩, z4⟩ := hz
      have z1 := Nat.le_of_ble_eq_true z1
      have z2 := Nat.le_of_ble_eq_true z2
      have z3 := Nat.le_of_ble_eq_true z3
      obtain ⟨a, vs, rfl, h1, h2⟩ := tup_ok hx
      simp only [Rep] at hy
      subst hy
      refine op_repT pins s σ H _ _ v u Q I rx ry ⟨a, k', vs, rfl, rfl, h1, fun e => ?_, by omega, by omega, by rw [← h2.length]; exact z3, fun p hp => ?_⟩
      · have e' := h2.nil_iff.mpr e
        subst e'
        cases z4
      · exact k ρ _ _ (Ext.laid hp) (so.laid hp) (new_tup so (RepL.rep h2 _) hp)
    · cases he
  · cases he
@[simp] theorem sMulT_t {S : Sto} {xs : List D} {k : Int} : sMulT S (.tup xs) (.int k) = if (Nat.ble 2 k.toNat && Nat.ble k.toNat 1000 && Nat.ble xs.length 1000 && !xs.isEmpty) = true then some (.tup (List.replicate k.toNat xs).flatten) else none := rfl
end Ev

/-! Ev, part 41: sum of a list of ints; a tuple backwards -/
namespace HT
open PySem PySem.Spec PyProof.Rows
section
variable {prog : Program} {w : World} {A : Around} {E : Value → Shared → Prop} {s : Shared}
theorem adjust_rev (n : Nat) : Builtin.Slice.sliceAdjust none none (-1) (n : Int) = ((n : Int) - 1, -1) := by
  unfold Builtin.Slice.sliceAdjust
  simp
theorem places_rev (n : Nat) : Builtin.Slice.slicePlaces ((n : Int) - 1) (-1) (-1) = n := by
  unfold Builtin.Slice.slicePlaces
  have h1 : ¬ ((-1 : Int) > 0) := by omega
  simp only [h1, if_false, Int.neg_neg, Int.ediv_one]
  split <;> omega
theorem fm_congr {α β : Type} {f g : α → Option β} : ∀ {l : List α}, (∀ x ∈ l, f x = g x) → l.filterMap f = l.filterMap g
  | [], _ => rfl
  | x :: l, h => by
    rw [List.filterMap_cons, List.filterMap_cons, h x (List.mem_cons_self ..), fm_congr fun y hy => h y (List.mem_cons_of_mem _ hy)]
theorem sliceApplied_rev {sl : Addr} {vl vu vs : Value} {n : Nat} {Q : Int × Int × Nat → Shared → Prop} (hs : s.heap.IsSliceOf sl vl vu vs) (pl : IsPart vl none) (pu : IsPart vu none) (ps : IsPart vs (some (-1)))
    (h : Q ((n : Int) - 1, -1, n) s) : wpAny (model prog w) A (Builtin.Slice.sliceApplied (.ref sl) (pure (n : Int))) Q E s := by
  obtain ⟨os, hos, hcs, hds⟩ := id hs
  unfold Builtin.Slice.sliceApplied Builtin.Slice.sliceFields
  refine wpAny_bind (wpAny_bind (wpAny_field hos hds (x := vl) rfl (wpAny_bind (wpAny_field hos hds (x := vu) rfl (wpAny_bind (wpAny_field hos hds (x := vs) rfl (wpAny_pure ?_)))))))
  refine wpAny_bind (slicePart_ ps ?_)
  show wpAny _ _ (if ((-1 : Int) == 0) = true then _ else _) _ _ s
  rw [if_neg (by decide)]
  refine wpAny_bind (slicePart_ pl (wpAny_bind (slicePart_ pu (wpAny_bind (wpAny_pure ?_)))))
  show wpAny _ _ (match Builtin.Slice.sliceAdjust none none (-1) (n : Int) with | (lo, hi) => pure (lo, (-1 : Int), Builtin.Slice.slicePlaces lo hi (-1))) _ _ s
  rw [adjust_rev n]
  show wpAny _ _ (pure ((n : Int) - 1, (-1 : Int), Builtin.Slice.slicePlaces ((n : Int) - 1) (-1) (-1))) _ _ s
  rw [places_rev]
  exact wpAny_pure h
theorem pick_rev (xs : Array Value) : ((List.range xs.size).filterMap fun (m : Nat) => xs[(((xs.size : Int) - 1) + (m : Int) * (-1)).toNat]?).toArray = xs.toList.reverse.toArray := by
  congr 1
  have e : (List.range xs.size).filterMap (fun (m : Nat) => xs[(((xs.size : Int) - 1) + (m : Int) * (-1)).toNat]?) = (List.range xs.size).filterMap (fun m => xs.toList.reverse[m]?) := by
    refine fm_congr fun m hm => ?_
    have hm := List.mem_range.mp hm
    rw [List.getElem?_reverse (by simpa using hm), Array.length_toList, Array.getElem?_toList]
    have : (((xs.size : Int) - 1) + (m : Int) * (-1)).toNat = xs.size - 1 - m := by omega
    rw [this]
  rw [e]
  have key : ∀ ys : List Value, (List.range ys.length).filterMap (fun m => ys[m]?) = ys := fun ys => by
    induction ys with
    | nil => rfl
    | cons y ys ih =>
      rw [List.length_cons, List.range_succ_eq_map, List.filterMap_cons, List.filterMap_map]
      show y :: _ = _
      congr 1
  have := key xs.toList.reverse
  rw [List.length_reverse, Array.length_toList] at this
  exact this
theorem getItem_tuple_rev {t sl : Addr} {items : Array Value} {vl vu vs : Value} {Q : Value → Shared → Prop} (ht : IsTup s.heap t items) (hs : s.heap.IsSliceOf sl vl vu vs) (pl : IsPart vl none) (pu : IsPart vu none) (ps : IsPart vs (some (-1)))
    (h : Q (.ref s.heap.objs.size) { s with heap := s.heap.push { cls := .type "tuple", data := .seq items.toList.reverse.toArray } })
    (hsz : items.size ≤ sizeLine) : wpAny (model prog w) A (getItem (.ref t) (.ref sl)) Q E s := by
  have htake : sizeOk (.seq items.toList.reverse.toArray) := by
    show items.toList.reverse.toArray.size ≤ sizeLine
    rw [List.size_toArray, List.length_reverse, Array.length_toList]
    exact hsz
  obtain ⟨os, hos, hcs, hds⟩ := id hs
  have hTs : s.TypeIs (.ref sl) "slice" := ⟨os, hos, hcs⟩
  unfold getItem
  try with_reducible refine wpAny_holding ?_
  first | refine wpAny_bind (wpAny_pure ?_) | skip
  refine wpAny_bind (wpAny_sequenceKey ht.typeIs (by decide) ?_)
  refine wpAny_bind (wpAny_callSpecial?_slot (name := Str.ofString "__getitem__") ht.typeIs PyProof.Rows.slot_tuple_getitem
    (wpAny_call_entry PyProof.Rows.slot_tuple_getitem ht.typeIs entry_tuple_getitem ?_ (args_tuple_getitem _ _)))
  show wpAny _ _ (Builtin.Tuple.tupleItemsOf (.ref t) >>= _) _ _ s
  refine wpAny_bind (tupleItemsOf_ ht ?_)
  refine wpAny_bind (wpAny_typeOf hTs ?_)
  rw [if_pos (by decide)]
  refine wpAny_bind (sliceApplied_rev hs pl pu ps ?_)
  have hno : ¬ ((((items.size : Int) - 1) == 0 && (-1 : Int) == 1 && items.size == items.size) = true) := by
    intro q
    rw [Bool.and_eq_true, Bool.and_eq_true] at q
    exact absurd q.1.2 (by decide)
  show wpAny _ _ (if (((items.size : Int) - 1) == 0 && (-1 : Int) == 1 && items.size == items.size) = true then _ else _) _ _ s
  rw [if_neg hno, pick_rev]
  first
    | exact wpAny_bind (m := Builtin.Tuple.tupleExact _) (wpAny_newObj_type (wpAny_pure ⟨_, rfl, wpAny_pure h⟩) htake)
    | exact wpAny_bind (m := Builtin.Tuple.tupleExact _) (wpAny_newObj_type (wpAny_bind (wpAny_pure (wpAny_pure ⟨_, rfl, wpAny_pure h⟩))) htake)
    | exact wpAny_bind (wpAny_bind (m := Builtin.Tuple.tupleExact _) (wpAny_newObj_type (wpAny_pure (wpAny_pure ⟨_, rfl, wpAny_pure h⟩)) htake))
    | exact wpAny_bind (wpAny_bind (m := Builtin.Tuple.tupleExact _) (wpAny_newObj_type (wpAny_pure ⟨_, rfl, wpAny_pure h⟩) htake))
end
end HT
namespace Ev
open PySem PySem.Spec PyProof.Rows L2
section
variable {X : Cx} {W : L2.WX}
def tRevT (K : PySem.W.Frag) (te : TE) : TE := fun σ H Q => te σ H fun x H1 => ∃ a xs, x = .ref a ∧ SqT K H1 a xs ∧ ∀ p, H1 p = none → Q (.ref p) (upd H1 p (.tup xs.reverse))
theorem pe_revT {e : Expr} {te : TE} {k : Nat} {p1 p2 p3 pos : Pos} (he : PE X e te) : PE X (.Subscript e (.Slice none none (some (.UnaryOp .USub (.Constant (.int 1) k p1) p2)) p3) pos) (tRevT X.K te) := by
  refine ⟨fun pins s σ H Q I h => ?_⟩
  refine Subscript_ (thn (he.run pins s σ H _ I h) fun v s1 ⟨x, H1, I1, r1, q1⟩ => ?_)
  obtain ⟨a, xs, ex, hx, q⟩ := q1
  subst ex
  cases r1
  have hst : PO X (some (.UnaryOp .USub (.Constant (.int 1) k p1) p2)) (tPart (tUn (rU fun i => .int (-i)) (tC (.int 1)))) := po_some (pe_un un_neg pe_int)
  refine wpAny_Slice (thn (po_none.run pins s1 σ H1 (fun o H2 => o = none ∧ H2 = H1) I1 ⟨rfl, rfl⟩) fun vl s2 ⟨l, H2, I2, pl, el, e2⟩ => ?_)
  subst el e2
  refine thn (po_none.run pins s2 σ H2 (fun o H3 => o = none ∧ H3 = H2) I2 ⟨rfl, rfl⟩) fun vu s3 ⟨u, H3, I3, pu, eu, e3⟩ => ?_
  subst eu e3
  refine thn (hst.run pins s3 σ H3 (fun o H4 => o = some (-1) ∧ H4 = H3) I3 ⟨1, rfl, -1, rfl, rfl, rfl⟩) fun vs s4 ⟨o, H4, I4, ps, eo, e4⟩ => ?_
  subst eo e4
  have I5 : Inv X pins σ H4 { s4 with heap := s4.heap.push { cls := .type "slice", data := .fields #[vl, vu, vs] } } := I4.kept (t' := s4.toks) fun b ob q => Heap.get?_push_of_some _ q
  obtain ⟨its, r, ht, hz⟩ := I5.tuple hx
  have hlen := r.length
  show wpAny (model X.prog X.w) X.A (subscriptTail e (.Slice none none (some (.UnaryOp .USub (.Constant (.int 1) k p1) p2)) p3) (.ref a) (.ref s4.heap.objs.size)) (EP X pins σ Q) X.xe { s4 with heap := s4.heap.push { cls := .type "slice", data := .fields #[vl, vu, vs] } }
  refine tail_any (ops := [.ref a, .ref s4.heap.objs.size]) ht.typeIs (PyProof.Rows.slot_tuple_getitem.lookup) ?_ (by with_unfolding_all rfl)
  refine HT.getItem_tuple_rev ht (Heap.IsSliceOf.new _ vl vu vs) pl pu ps ?_ (by rw [List.size_toArray]; omega)
  refine ⟨.ref _, _, I5.laid (t' := s4.toks) (o := .tup xs.reverse) (fun b ob q => Heap.get?_push_of_some _ q) (Nat.le_refl _) ?_, rfl, q _ (I5.hok.fresh (Nat.le_refl _))⟩
  exact ⟨by rw [List.length_reverse]; exact hz, _, r.reverse, IsTup.new _ _⟩
theorem RepL.rev {G : GC} {B : Addr → Prop} {ρ : List Addr} {H : Hp} : ∀ {ds : List D} {vs : List V}, RepL G B ρ H ds vs → RepL G B ρ H ds.reverse vs.reverse
  | [], vs, h => by
    simp only [RepL] at h
    subst h
    simp only [List.reverse_nil, RepL]
  | d :: ds, vs, h => by
    simp only [RepL] at h
    obtain ⟨v, r, rfl, h1, h2⟩ := h
    rw [List.reverse_cons, List.reverse_cons]
    refine RepL.append (RepL.rev h2) ?_
    simp only [RepL]
    exact ⟨v, [], rfl, h1, rfl⟩
def sRevT (_ : Sto) (x : D) : Option D := match x with | .tup xs => some (.tup xs.reverse) | _ => none
theorem se_revT {e : Expr} {ma : M} {k : Nat} {p1 p2 p3 pos : Pos} (ha : SE X W e ma) : SE X W (.Subscript e (.Slice none none (some (.UnaryOp .USub (.Constant (.int 1) k p1) p2)) p3) pos) (sUn sRevT ma) :=
  PE.imp (pe_revT ha) fun σ H Q h => by
    obtain ⟨B, env, S, ρ, eo, so, P⟩ := h
    refine ⟨B, env, S, ρ, eo, so, Post.mono P.bind (fun d S1 ρ1 H1 e1 s1 P1 v r => ?_) (fun _ _ _ z => z)⟩
    cases q : sRevT S1 d with
    | none => rw [q] at P1; exact P1.elim
    | some w =>
      rw [q] at P1
      unfold sRevT at q
      split at q
      · rename_i xs
        cases q
        obtain ⟨a, vs, rfl, h1, h2⟩ := tup_ok r
        exact ⟨a, vs, rfl, h1, fun p hp => P1 ρ1 _ (Ext.laid hp) (s1.laid hp) _ (new_tup s1 (RepL.rev h2) hp)⟩
      · cases q
/-- sum(xs), ints -/
def sSum (S : Sto) : List D → Option D
  | [d] => (match lstOf S d with | some ds => (intsOf ds).map fun is => .int is.sum | none => none)
  | _ => none
theorem call_sSum (hc : X.calm = true) : VCall X (.builtin "sum") sSum := by
  intro pins s σ H xs us Q I r ⟨B, S, ρ, ds, so, rs, d, he, k⟩
  unfold sSum at he
  split at he
  · split at he
    · rename_i q
      simp only [Option.map_eq_some_iff] at he
      obtain ⟨is, he, rfl⟩ := he
      obtain ⟨v, rfl, r1⟩ := repL1 rs
      obtain ⟨a, vs, rfl, h1, h2⟩ := lstOf_ok so r1 q
      rw [intsOf_ok he h2] at h1
      exact cr_sum hc pins s σ H _ us Q I r ⟨a, is, rfl, h1, k ρ H _ Ext.refl so (by simp only [Rep])⟩
    · cases he
  · cases he
@[simp] theorem sSum_l {S : Sto} {xs : List D} : sSum S [.lst xs] = (intsOf xs).map fun is => .int is.sum := rfl
@[simp] theorem sRevT_t {S : Sto} {xs : List D} : sRevT S (.tup xs) = some (.tup xs.reverse) := rfl
end
end Ev

/-! Ev, part 42: an exception of an own class made as a value, by place and by name. -/
namespace PySem
namespace EvX
open HandSPX Builtin Builtin.ObjectAttr
section
variable {M : Model} {A : Around} {E : Value → Shared → Prop} {h : Heap} {g : Array GenState} {d : Drawn} {t : Nat} {os : OsState}
variable {nm q : Str} {C N : Addr} {bs bm bmB : List Value} {hdct : Bool} {sn : List Str} {sub : List Value} {ab : Bool} {col : Option Bool} {dd : Option Addr} {k0 k1 k2 k3 k5 : Option Value} {B newId initId : String}
theorem check_newK (F : ExcBaseFacts B newId initId bmB) (hT : ∀ X : String, bm.contains (.type X) = bmB.contains (.type X)) {kw : List (Str × Value)} {Q : Unit → Shared → Prop}
    (hC : h.get? C = some (excClassObj nm q C N bs bm hdct sn sub ab col dd k0 k1 k2 k3 k5 newId)) (hq : Q () ⟨h, g, d, t, os⟩) : wpAny M A (checkBuiltinCall newId ⟨[.ref C], kw⟩) Q E ⟨h, g, d, t, os⟩ := by
  have hcont : (Value.ref C :: bm).contains (.type B) = true := by rw [List.contains_cons, hT, F.hasB, Bool.or_true]
  have hstar := F.noStar
  simp only [checkBuiltinCall, F.newKind, F.newSplit, F.newRow]
  repeat (first | refine wpAny_loadPart_at hC ?_ | (refine wpAny_isSubtype_exc hC ?_; rw [hcont]) | refine wpAny_staticBase_exc hC ?_ | refine wpAny_madeBy_exc hC ?_ | simp only [bne_self_eq_false, Bool.false_eq_true, if_false] | wp_step)
  exact hq
end
section
variable {prog : Program} {w : World} {A : Around} {E : Value → Shared → Prop} {R : Result → Shared → Prop} {h : Heap} {g : Array GenState} {d : Drawn} {t : Nat} {os : OsState}
variable {nm q : Str} {C N : Addr} {bs bm bmB : List Value} {hdct : Bool} {sn : List Str} {sub : List Value} {ab : Bool} {col : Option Bool} {dd : Option Addr} {k0 k1 k2 k3 k5 : Option Value} {B newId initId : String}
theorem newK (F : ExcBaseFacts B newId initId bmB) (hT : ∀ X : String, bm.contains (.type X) = bmB.contains (.type X)) {kw : List (Str × Value)}
    (hC : h.get? C = some (excClassObj nm q C N bs bm hdct sn sub ab col dd k0 k1 k2 k3 k5 newId))
    (hq : R (.ok (.ret (.ref (h.objs.size + 1)))) ⟨(h.push { cls := .type "tuple", data := .seq ([] : List Value).toArray }).push
      { cls := .ref C, data := .fields #[.ref h.objs.size, .none, .none, .none, .bool false, .none] }, g, d, t, os⟩) :
    codeAny (model prog w) A (.builtin newId ⟨[.ref C], kw⟩) R ⟨h, g, d, t, os⟩ := by
  have hends := F.ends
  have hcB : (Value.ref C :: bm).contains (.type B) = true := by rw [List.contains_cons, hT, F.hasB, Bool.or_true]
  have hcA : (Value.ref C :: bm).contains (.type "AttributeError") = false := by rw [List.contains_cons, hT, F.noAttr]; rfl
  have hcN : (Value.ref C :: bm).contains (.type "NameError") = false := by rw [List.contains_cons, hT, F.noName]; rfl
  refine codeAny_builtinAt F.entry ?_
  unfold Builtin.«BaseException.__new__»
  refine wpAt_bind ?_
  show wpAt _ _ _ (stack >>= _) _ _ _
  refine wpAt_bind (wpAt_stack fun p below => wpAt_of_wpAny ?_)
  wp_walk
  refine wpAt_of_wpAny ?_
  rw [F.owner]
  repeat (first | with_reducible refine wpAny_madeHere_exc F.canon hC ?_ | with_reducible refine wpAny_loadPart_at hC ?_ | (with_reducible refine wpAny_isSubtype_exc hC ?_; first | rw [hcB] | rw [hcA] | rw [hcN]) | wp_step)
  show R _ _
  rw [Heap.size_push]
  exact hq
theorem type_callK (F : ExcBaseFacts B newId initId bmB) (hT : ∀ X : String, bm.contains (.type X) = bmB.contains (.type X)) {kw : List (Str × Value)} {fI : Addr} {Q : Fin → Shared → Prop}
    (hC : h.get? C = some (excClassObj nm q C N bs bm hdct sn sub ab col dd k0 k1 k2 k3 k5 newId))
    (hi : PySem.W.Looks (model prog w) h (typeLookup (.ref C) "__init__") (some (.ref fI))) (hb : ∀ self, PySem.W.Looks (model prog w) h (bindSpecial (.ref fI) self) (.ref fI, [self]))
    (hq : codeAny (model prog w) A (.call (.ref fI) ⟨[.ref (h.objs.size + 1)], kw⟩)
      (fun r s' => match r with | .ok (.ret v) => v = .none ∧ Q (.done (.ret (.ref (h.objs.size + 1)))) s' | .ok _ => False | .error e => E e s')
      ⟨(h.push (PySem.W.kdv_tup [])).push (excO C h.objs.size), g, d, t, os⟩) :
    wpAny (model prog w) A (Builtin.«type.__call__» ⟨[.ref C], kw⟩) Q E ⟨h, g, d, t, os⟩ := by
  repeat (first | with_reducible refine wpAny_loadPart_at hC ?_ | with_reducible refine wpAny_madeBy_exc hC ?_ | wp_step)
  refine codeAny_call_builtin_code (Code.quiet_builtin _ F.quiet) (check_newK F hT hC ?_)
  refine newK F hT hC ?_
  show wpAny _ _ _ _ _ _
  have k : ∀ b o, h.get? b = some o → ((h.push (PySem.W.kdv_tup [])).push (excO C h.objs.size)).get? b = some o := fun b o e => Heap.get?_push_of_some _ (Heap.get?_push_of_some _ e)
  have hC₁ := k _ _ hC
  have hget : ((h.push (PySem.W.kdv_tup [])).push (excO C h.objs.size)).get? (h.objs.size + 1) = some (excO C h.objs.size) := by heap_get
  have hcC : (Value.ref C :: bm).contains (.ref C) = true := by simp
  have i1 := hi.keeps k
  have b1 := (hb (.ref (h.objs.size + 1))).keeps k
  unfold isInstance
  repeat (first | with_reducible refine wpAny_loadPart_at hget ?_ | (with_reducible refine wpAny_isSubtype_exc hC₁ ?_; rw [hcC]) | wp_step)
  show wpAny _ _ (typeLookup (.ref C) _) _ _ _
  refine i1.at ?_
  refine wpAny_holding (wpAny_bind (b1.at ?_))
  refine wpAny_bind (wpAny_call (codeAny_mono hq fun r s' z => ?_))
  rcases r with e | (v | _ | _ | _) <;> first | exact z | exact z.elim | skip
  obtain ⟨rfl, z⟩ := z
  first
    | exact wpAny_pure (wpAny_pure z)
    | (wp_walk; exact z)
theorem call_ownK (F : ExcBaseFacts B newId initId bmB) (hT : ∀ X : String, bm.contains (.type X) = bmB.contains (.type X)) {kw : List (Str × Value)} {fI : Addr}
    (hC : h.get? C = some (excClassObj nm q C N bs bm hdct sn sub ab col dd k0 k1 k2 k3 k5 newId))
    (hi : PySem.W.Looks (model prog w) h (typeLookup (.ref C) "__init__") (some (.ref fI))) (hb : ∀ self, PySem.W.Looks (model prog w) h (bindSpecial (.ref fI) self) (.ref fI, [self]))
    (hq : codeAny (model prog w) (A.under (.builtin "type.__call__" ⟨[.ref C], kw⟩)) (.call (.ref fI) ⟨[.ref (h.objs.size + 1)], kw⟩) (PySem.W.InitBack (h.objs.size + 1) R)
      ⟨(h.push (PySem.W.kdv_tup [])).push (excO C h.objs.size), g, d, t, os⟩) :
    codeAny (model prog w) A (.call (.ref C) ⟨[], kw⟩) R ⟨h, g, d, t, os⟩ := by
  have f1 := tc_lookup
  have f2 := tc_bind (.ref C)
  have hTy : (⟨h, g, d, t, os⟩ : Shared).TypeIs (.ref C) "type" := ⟨_, hC, rfl⟩
  refine codeAny_of_tree ?_
  show wpAny _ _ (callAny (.ref C) _) _ _ _
  repeat (any_goals (first | assumption | with_reducible refine wpAny_loadPart_at hC ?_ | wp_step))
  refine ⟨rfl, ?_⟩
  refine codeAny_call_builtin_at (Code.quiet_builtin _ (by decide +kernel)) entry_typeCall (wpAny_check_type_call_sub hC (type_callK F hT hC hi hb ?_))
  refine codeAny_mono hq fun r s' z => ?_
  rcases r with e | (v | _ | _ | _) <;> exact z
end
end EvX
end PySem
namespace Ev
open PySem PySem.Spec PySem.Calls PyProof.Rows L2
section
variable {X : Cx} {W : L2.WX}
/-- the exception and its dict are laid -/
def tExn (mg : Str → Option Value) (c f : Str) (te : TE) : TE := fun σ H Q => te σ H fun y H1 => ∀ C a dx, mg c = some (.ref C) → H1 a = none → H1 dx = none → dx ≠ a → Q (.ref a) (upd (upd H1 dx (exd dx [(f, y)])) a (exo a C (some dx)))
theorem pe_exn1 {x f : Str} {e : Expr} {te : TE} {p pos : Pos} (T : ExcI X.prog X.w X.K X.mg X.base x f) (hr : RoomG 2 X.A) (hg : Gl X x) (he : PE X e te) (hdb : (x == ("__debug__" : Str)) = false)
    (hst : starEach [e] X.env = (false, eval e X.env) :: starEach [] X.env := by rfl) : PE X (.Call (.Name x p) [e] [] pos) (tExn X.mg x f te) := by
  constructor
  intro pins s σ H Q I h
  obtain ⟨C, fI, fd, ps, B, newId, initId, bmB, hC, kC, FB, q, iC, hf, F1, hps, hb, exC, tyC⟩ := T.ex
  refine wpAny_Call_Name_kw (ld_glob I hg hC ?_ hdb)
  refine PySem.W.callWith_K (h₀ := X.base) I.ok.mod.kin kC ?_ hst (by rfl)
  show wpAny _ _ (spliced (backTo pos (starEach [e] X.env))) _ _ s
  rw [hst]
  refine Calls.spliced_cons (thn (he.run pins s σ H _ I h) fun u s1 ⟨y, H1, I1, r1, qq⟩ => Calls.spliced_nil ⟨I1.kIn, ?_⟩)
  show wpAny _ _ (call (.ref C) [u]) _ _ _
  obtain ⟨hp, gs, dr, tk, os⟩ := s1
  obtain ⟨nm, N', qn, bs, bm, hdct, sn, sub, ab, col, dd, k0, k1, k2, k3, k5, hCl, hT⟩ := PySem.W.excInit_of I1.kIn q
  obtain ⟨oI, hoI, hcI⟩ : ∃ oI, hp.get? fI = some oI ∧ oI.cls = .type "function" := by
    obtain ⟨o, ho, hc⟩ := Option.map_eq_some_iff.mp (show (X.K.lookup fI).map (·.cls) = some (.type "function") from beq_iff_eq.mp hf)
    exact ⟨o, I1.kIn _ _ ho, hc⟩
  have big : hp.objs.size ≤ hp.objs.size + 1 := Nat.le_succ _
  have free : H1 (hp.objs.size + 1) = none := I1.hok.fresh big
  have up : ∀ b o, hp.get? b = some o → ((hp.push (PySem.W.kdv_tup [u])).push (PySem.HandSPX.excO C hp.objs.size)).get? b = some o := fun b o z => Heap.get?_push_of_some _ (Heap.get?_push_of_some _ z)
  have there : ((hp.push (PySem.W.kdv_tup [u])).push (PySem.HandSPX.excO C hp.objs.size)).get? (hp.objs.size + 1) = some (PySem.HandSPX.excO C hp.objs.size) := by heap_get
  have I2 := I1.laid (t' := tk) (a := hp.objs.size + 1) (o := exo (hp.objs.size + 1) C none) up big (exo_ok there)
  have rv : Vals [.ref (hp.objs.size + 1), y] [.ref (hp.objs.size + 1), u] := .cons rfl (.cons r1 .nil)
  have bnd := hb _ [.ref (hp.objs.size + 1), u] I2.kIn (by rw [List.append_nil, hps]; rfl)
  rw [List.append_nil] at bnd
  have hr1 : RoomG 1 (X.A.under (.builtin "type.__call__" ⟨.ref C :: [u], []⟩)) := RoomG.make hr C [u] []
  refine wpAny_call (PySem.HandSPX.call_own FB hT hCl (PySem.W.looks_findIn I1.kIn iC) (fun self => PySem.W.exc_bind hoI hcI self) (by show 1 ≤ sizeLine; rw [sizeLine_eq]; decide)
    (codeAny_mono (F1.go _ X.stack _ _ ⟨[.ref (hp.objs.size + 1), u], []⟩ _ _ (fun v H2 => v = .non ∧ Q (.ref (hp.objs.size + 1)) H2) (fun _ _ _ => False) hr1 (I2.env0.make C [u] []) bnd rv ?_) fun r s' hq => ?_))
  · refine ⟨_, y, rfl, upd_same, fun dx n ne => ⟨rfl, ?_⟩⟩
    rw [upd_ne ne] at n
    have z := qq C (hp.objs.size + 1) dx hC free n ne
    have eq : upd (upd (upd H1 (hp.objs.size + 1) (exo (hp.objs.size + 1) C none)) dx (exd dx [(f, y)])) (hp.objs.size + 1) (exo (hp.objs.size + 1) C (some dx)) = upd (upd H1 dx (exd dx [(f, y)])) (hp.objs.size + 1) (exo (hp.objs.size + 1) C (some dx)) := by
      funext b
      by_cases h2 : b = hp.objs.size + 1
      · rw [h2, upd_same, upd_same]
      · rw [upd_ne h2, upd_ne h2]
        by_cases h1 : b = dx
        · rw [h1, upd_same, upd_same]
        · rw [upd_ne h1, upd_ne h1, upd_ne h2]
    rw [eq]; exact z
  · cases r with
    | error er =>
      obtain ⟨_, _, _, _, _, _, _, _, _, _, _, _, _, z⟩ := hq
    | ok fl =>
      cases fl with
      | ret v0 =>
        obtain ⟨v, H2, I3, rv2, ev, q2⟩ := I2.after hq
        subst ev
        exact ⟨rv2, .ref (hp.objs.size + 1), H2, I3, rfl, q2⟩
      | next => exact hq.elim
      | brk => exact hq.elim
      | cont => exact hq.elim
/-- __init__ takes its argument by name, too -/
structure ExcK (P : Program) (w : World) (K : PySem.W.Frag) (mg : Str → Option Value) (base : Heap) (c f g : Str) : Prop where
  ex : ∃ (C fI : Addr) (fd : FuncData) (ps : List Str) (B newId initId : String) (bmB : List Value), mg c = some (.ref C) ∧ PySem.W.keepIn K (.ref C) = true ∧ ExcBaseFacts B newId initId bmB ∧ PySem.W.excInitIn K C bmB newId = true ∧
    PySem.W.findIn K (.ref C) "__init__" = some (some (.ref fI)) ∧ PySem.W.isFn K (.ref fI) = true ∧ FnG P w K mg base 1 fI fd ps (initSp C f) ∧ ps.length = 2 ∧ BindsK K fd ps 1 [g] [0, 1]
theorem pe_exn1k {x f g : Str} {kws : List Keyword} {tkw : TA} {te : TE} {p pos : Pos} (T : ExcK X.prog X.w X.K X.mg X.base x f g) (hr : RoomG 2 X.A) (hg : Gl X x) (hkw : PK X kws tkw) (hte : ∀ σ H Q, te σ H Q → tkw σ H fun vs H1 => ∃ y, vs = [y] ∧ Q y H1) (hdb : (x == ("__debug__" : Str)) = false)
    (hall : (backToKw pos (keywordEach kws X.env)).all (·.1.isSome) = true := by rfl) (hks : (backToKw pos (keywordEach kws X.env)).filterMap (·.1) = [g] := by rfl)
    (hpl : ((backTo pos (starEach [] X.env)).any (·.1) || (backToKw pos (keywordEach kws X.env)).any (·.1.isNone)) = false := by rfl) : PE X (.Call (.Name x p) [] kws pos) (tExn X.mg x f te) := by
  constructor
  intro pins s σ H Q I h
  obtain ⟨C, fI, fd, ps, B, newId, initId, bmB, hC, kC, FB, q, iC, hf, F1, hps, hb⟩ := T.ex
  refine wpAny_Call_Name_kw (ld_glob I hg hC ?_ hdb)
  refine PySem.W.callWith_KW0 (h₀ := X.base) I.ok.mod.kin kC hall ?_ hpl
  refine thn (hkw.run pos pins s σ H _ I (hte _ _ _ h)) ?_
  rintro ws s1 ⟨zs, H1, I1, r0, y, rfl, qq⟩
  obtain ⟨u, rfl, r1⟩ : ∃ u, ws = [u] ∧ RelV y u := by
    cases r0 with
    | cons r1 r2 => cases r2; exact ⟨_, rfl, r1⟩
  refine ⟨I1.kIn, ?_⟩
  rw [hks]
  show wpAny _ _ (call (.ref C) [] [(g, u)]) _ _ _
  obtain ⟨hp, gs, dr, tk, os⟩ := s1
  obtain ⟨nm, N', qn, bs, bm, hdct, sn, sub, ab, col, dd, k0, k1, k2, k3, k5, hCl, hT⟩ := PySem.W.excInit_of I1.kIn q
  obtain ⟨oI, hoI, hcI⟩ : ∃ oI, hp.get? fI = some oI ∧ oI.cls = .type "function" := by
    obtain ⟨o, ho, hc⟩ := Option.map_eq_some_iff.mp (show (X.K.lookup fI).map (·.cls) = some (.type "function") from beq_iff_eq.mp hf)
    exact ⟨o, I1.kIn _ _ ho, hc⟩
  have big : hp.objs.size ≤ hp.objs.size + 1 := Nat.le_succ _
  have free : H1 (hp.objs.size + 1) = none := I1.hok.fresh big
  have up : ∀ b o, hp.get? b = some o → ((hp.push (PySem.W.kdv_tup [])).push (PySem.HandSPX.excO C hp.objs.size)).get? b = some o := fun b o z => Heap.get?_push_of_some _ (Heap.get?_push_of_some _ z)
  have there : ((hp.push (PySem.W.kdv_tup [])).push (PySem.HandSPX.excO C hp.objs.size)).get? (hp.objs.size + 1) = some (PySem.HandSPX.excO C hp.objs.size) := by heap_get
  have I2 := I1.laid (t' := tk) (a := hp.objs.size + 1) (o := exo (hp.objs.size + 1) C none) up big (exo_ok there)
  have rv : Vals [.ref (hp.objs.size + 1), y] [.ref (hp.objs.size + 1), u] := .cons rfl (.cons r1 .nil)
  have bnd := hb _ [.ref (hp.objs.size + 1)] [u] I2.kIn rfl rfl
  have hr1 : RoomG 1 (X.A.under (.builtin "type.__call__" ⟨.ref C :: [], [(g, u)]⟩)) := RoomG.make hr C [] [(g, u)]
  refine wpAny_call (PySem.EvX.call_ownK FB hT hCl (PySem.W.looks_findIn I1.kIn iC) (fun self => PySem.W.exc_bind hoI hcI self)
    (codeAny_mono (F1.go _ X.stack _ _ ⟨[.ref (hp.objs.size + 1)], [(g, u)]⟩ _ _ (fun v H2 => v = .non ∧ Q (.ref (hp.objs.size + 1)) H2) (fun _ _ _ => False) hr1 (I2.env0.make C [] [(g, u)]) bnd rv ?_) fun r s' hq => ?_))
  · refine ⟨_, y, rfl, upd_same, fun dx n ne => ⟨rfl, ?_⟩⟩
    rw [upd_ne ne] at n
    have z := qq C (hp.objs.size + 1) dx hC free n ne
    have eq : upd (upd (upd H1 (hp.objs.size + 1) (exo (hp.objs.size + 1) C none)) dx (exd dx [(f, y)])) (hp.objs.size + 1) (exo (hp.objs.size + 1) C (some dx)) = upd (upd H1 dx (exd dx [(f, y)])) (hp.objs.size + 1) (exo (hp.objs.size + 1) C (some dx)) := by
      funext b
      by_cases h2 : b = hp.objs.size + 1
      · rw [h2, upd_same, upd_same]
      · rw [upd_ne h2, upd_ne h2]
        by_cases h1 : b = dx
        · rw [h1, upd_same, upd_same]
        · rw [upd_ne h1, upd_ne h1, upd_ne h2]
    rw [eq]; exact z
  · cases r with
    | error er =>
      obtain ⟨_, _, _, _, _, _, _, _, _, _, _, _, _, z⟩ := hq
    | ok fl =>
      cases fl with
      | ret v0 =>
        obtain ⟨v, H2, I3, rv2, ev, q2⟩ := I2.after hq
        subst ev
        exact ⟨rv2, .ref (hp.objs.size + 1), H2, I3, rfl, q2⟩
      | next => exact hq.elim
      | brk => exact hq.elim
      | cont => exact hq.elim
/-- C(e), C(f=e) -/
def mExn1 (c f : Str) (m : M) : M := fun env S => (m env S).bind fun d S1 => .ok (.exn c [f] [d]) S1
theorem exn_new {G : GC} {B : Addr → Prop} {S : Sto} {ρ : List Addr} {H : Hp} {c f : Str} {d : D} {y : V} {C a dx : Addr} (so : SOk G B S ρ H) (hC : G.mg c = some (.ref C)) (r : Rep G B ρ H d y) (na : H a = none) (nd : H dx = none) (ne : dx ≠ a) :
    Ext ρ H ρ (upd (upd H dx (exd dx [(f, y)])) a (exo a C (some dx))) ∧ SOk G B S ρ (upd (upd H dx (exd dx [(f, y)])) a (exo a C (some dx))) ∧ Rep G B ρ (upd (upd H dx (exd dx [(f, y)])) a (exo a C (some dx))) (.exn c [f] [d]) (.ref a) := by
  have n2 : upd H dx (exd dx [(f, y)]) a = none := by rw [upd_ne (Ne.symm ne)]; exact na
  have E1 := Ext.laid (ρ := ρ) (o := exd dx [(f, y)]) nd
  have E2 := Ext.laid (ρ := ρ) (o := exo a C (some dx)) n2
  have E := E1.trans E2
  refine ⟨E, (so.laid nd).laid n2, ?_⟩
  simp only [Rep]
  refine ⟨a, C, some dx, [(f, y)], rfl, ⟨_, upd_same, fun h ⟨t1, ht⟩ => ⟨_, _, ht, rfl, rfl, rfl⟩⟩, so.fresh na, hC, rfl, ?_, .inr ⟨dx, exd dx [(f, y)], rfl, ?_, fun h z => z, so.fresh nd⟩⟩
  · simp only [List.map_cons, List.map_nil, RepL]
    exact ⟨y, [], rfl, r.mono E, rfl⟩
  · rw [upd_ne ne, upd_same]
theorem se_exn1 {x f : Str} {e : Expr} {m : M} {p pos : Pos} {k : Nat} (T : ExcI X.prog X.w X.K X.mg X.base x f) (hr : RoomG k X.A) (hk : 2 ≤ k) (he : SE X W e m) (hg : Gl X x := by rfl) (hdb : (x == ("__debug__" : Str)) = false := by decide)
    (hst : starEach [e] X.env = (false, eval e X.env) :: starEach [] X.env := by rfl) : SE X W (.Call (.Name x p) [e] [] pos) (mExn1 x f m) := by
  refine PE.imp (pe_exn1 T (hr.mono hk) hg he hdb hst) fun σ H Q h => ?_
  obtain ⟨B, env, S, ρ, eo, so, P⟩ := h
  refine ⟨B, env, S, ρ, eo, so, Post.mono P.bind (fun d S1 ρ1 H1 e1 s1 P1 v r => ?_) (fun _ _ _ z => z)⟩
  intro C a dx hC na nd ne
  obtain ⟨E, so2, rp⟩ := exn_new (f := f) s1 hC r na nd ne
  exact P1 ρ1 _ E so2 _ rp
theorem se_exn1k {x f g : Str} {e : Expr} {m : M} {p pos kp : Pos} {k : Nat} (T : ExcK X.prog X.w X.K X.mg X.base x f g) (hr : RoomG k X.A) (hk : 2 ≤ k) (he : SE X W e m) (hg : Gl X x := by rfl) (hdb : (x == ("__debug__" : Str)) = false := by decide)
    (hall : (backToKw pos (keywordEach [⟨some g, e, kp⟩] X.env)).all (·.1.isSome) = true := by rfl) (hks : (backToKw pos (keywordEach [⟨some g, e, kp⟩] X.env)).filterMap (·.1) = [g] := by rfl)
    (hpl : ((backTo pos (starEach [] X.env)).any (·.1) || (backToKw pos (keywordEach [⟨some g, e, kp⟩] X.env)).any (·.1.isNone)) = false := by rfl) : SE X W (.Call (.Name x p) [] [⟨some g, e, kp⟩] pos) (mExn1 x f m) := by
  refine PE.imp (pe_exn1k T (hr.mono hk) hg (pk_cons he pk_nil) (te := tE ⟨X.K, X.mg⟩ W m) ?_ hdb hall hks hpl) fun σ H Q h => ?_
  · intro σ H Q h
    obtain ⟨B, env, S, ρ, eo, so, P⟩ := h
    exact ⟨B, env, S, ρ, eo, so, Post.mono P (fun d S1 ρ1 H1 e1 s1 P1 v r => ⟨v, rfl, P1 v r⟩) (fun _ _ _ z => z)⟩
  obtain ⟨B, env, S, ρ, eo, so, P⟩ := h
  refine ⟨B, env, S, ρ, eo, so, Post.mono P.bind (fun d S1 ρ1 H1 e1 s1 P1 v r => ?_) (fun _ _ _ z => z)⟩
  intro C a dx hC na nd ne
  obtain ⟨E, so2, rp⟩ := exn_new (f := f) s1 hC r na nd ne
  exact P1 ρ1 _ E so2 _ rp
@[simp] theorem mExn1_po {c f : Str} {m : M} {env : En} {S : Sto} {Q : D → Sto → Prop} {X : XQ} : (mExn1 c f m env S).po Q X = (m env S).po (fun d S1 => Q (.exn c [f] [d]) S1) X := by
  simp only [mExn1, po_bind]; rfl
theorem pe_exn0 {C : Addr} {bmB : List Value} {B newId initId : String} {x : Str} {p pos : Pos} (F : ExcBaseFacts B newId initId bmB) (q : PySem.W.excIn X.K C bmB newId = true) (gC : X.mg x = some (.ref C)) (kC : PySem.W.keepIn X.K (.ref C) = true) (hg : Gl X x)
    (hdb : (x == ("__debug__" : Str)) = false) : PE X (.Call (.Name x p) [] [] pos) (fun _ H Q => ∀ a, H a = none → Q (.ref a) (upd H a (exo a C none))) := by
  constructor
  intro pins s σ H Q I h
  apply wpAny_Call_Name_kw
  apply ld_glob I hg gC _ hdb
  apply PySem.W.callWith_K0 I.kIn kC
  obtain ⟨bm, N, nm, qn, bs, hdct, sn, sub, ab, col, dd, k0, k1, k2, k3, k5, mN, hC, hN, hni, T⟩ := exc_obj I.kIn q
  show wpAny _ _ (call (.ref C) []) _ _ _
  refine wpAny_call_exc_subT F T hC hN hni (fun h' e hm => ?_) (by show 0 ≤ sizeLine; exact Nat.zero_le _)
  obtain ⟨t, he, _, _⟩ := hm.there
  have na : H e = none := I.hok.gone hm.new
  have apart : ∀ {b : Addr} {o : Obj}, s.heap.get? b = some o → b ≠ e := fun q z => by rw [z, hm.new] at q; cases q
  have U : Un X.fs [] H (upd H e (exo e C none)) s.heap h' := by
    refine ⟨fun b o q n _ _ => hm.keeps b o q, fun b o q n _ _ => ⟨o.slots, hm.keeps b o q⟩, fun b o q n _ => ?_, fun b o q _ => ⟨o, hm.keeps b o q⟩, fun b xs q => ?_, fun b o v q => ?_, fun b ps q => ⟨#[], ?_⟩⟩
    · rw [upd_ne (apart q)]; exact n
    · rw [upd_ne (ne_of_none q na)]; exact q
    · rw [upd_ne (ne_of_none q na)]; exact q
    · rw [upd_ne (ne_of_none q na), q]; simp
  refine ⟨.ref e, _, I.un (t' := s.toks) U fun b o q => ?_, rfl, h e na⟩
  by_cases hb : b = e
  · rw [hb] at q ⊢
    rw [upd_same] at q
    cases q
    exact exo_ok he
  · rw [upd_ne hb] at q
    refine (I.hok b o q).stay (fun c v hc z => hm.keeps c v z) (fun c hc => ?_) fun c xs hc => ?_
    · rw [upd_ne (ne_of_none hc na)]; exact hc
    · rw [upd_ne (ne_of_none hc na)]; exact hc
def mExn0 (c : Str) : M := fun _ S => .ok (.exn c [] []) S
theorem se_exn0 {x : Str} {p pos : Pos} (F : ExcN X.K X.mg x) (hg : Gl X x := by rfl) (hdb : (x == ("__debug__" : Str)) = false := by decide) : SE X W (.Call (.Name x p) [] [] pos) (mExn0 x) := by
  obtain ⟨C, bmB, B, newId, initId, hF, hq, gC, kC, e1, e2⟩ := F.ex
  refine PE.imp (pe_exn0 hF hq gC kC hg hdb) fun σ H Q h => ?_
  obtain ⟨Bd, env, S, ρ, eo, so, P⟩ := h
  intro a na
  have E := Ext.laid (ρ := ρ) (o := exo a C none) na
  refine P ρ _ E (so.laid na) _ ?_
  simp only [Rep]
  exact ⟨a, C, none, [], rfl, ⟨_, upd_same, fun h ⟨t1, ht⟩ => ⟨_, _, ht, rfl, rfl, rfl⟩⟩, so.fresh na, gC, rfl, by simp [RepL], .inl ⟨rfl, rfl⟩⟩
@[simp] theorem mExn0_po {c : Str} {env : En} {S : Sto} {Q : D → Sto → Prop} {X : XQ} : (mExn0 c env S).po Q X = Q (.exn c [] []) S := by
  simp only [mExn0]; rfl
theorem exkB_ok {P : Program} {w : World} {K : PySem.W.Frag} {mg : Str → Option Value} {base : Heap} {c f x qual s0 g0 : Str} {bm : List Value} {B newId initId : String} {prm : Arguments} {body : List Stmt} {scope : Scope} {fd : FuncData} (FB : ExcBaseFacts B newId initId bm) (SF : StoreFacts B bm "object.__setattr__" "object") (hm : mg c = some (.ref (He.ga K c))) (q : exiB K c f bm newId = true)
    (me : Meth K (He.ga K c) "__init__" (He.fAd K (c, some "__init__"))) (F : FunD K x qual prm body scope [] [] (He.fAd K (c, some "__init__")) fd) (hb : ∃ p1 p2 p3 p4, body = [.Assign [.Attribute (.Name s0 p1) f p2] (.Name g0 p3) p4]) (sc : FnScope [s0, g0] [s0, g0] scope) (bn : BindsK K fd [s0, g0] 1 [g0] [0, 1])
    (d1 : (s0 == ("__debug__" : Str)) = false) (d2 : (s0 == ("__classdict__" : Str)) = false) (d3 : (g0 == ("__debug__" : Str)) = false) (d4 : (g0 == ("__classdict__" : Str)) = false)
    (hs : ∀ (env : Env) (p1 p2 p3 p4 : Pos), swapsWith (.Name g0 p3) (some (.Attribute (.Name s0 p1) f p2)) p4.line env = pure false) : ExcK P w K mg base c f g0 := by
  obtain ⟨h1, q⟩ := He.ba q
  obtain ⟨h2, q⟩ := He.ba q
  obtain ⟨h3, q⟩ := He.ba q
  obtain ⟨h4, q⟩ := He.ba q
  obtain ⟨h5, q⟩ := He.ba q
  obtain ⟨h6, q⟩ := He.ba q
  have S : ExcS K (He.ga K c) f := ⟨⟨B, bm, SF, h2⟩, of_decide_eq_true h3, h4, He.eqO_ok h5⟩
  exact ⟨_, _, fd, _, B, newId, initId, bm, hm, h6, FB, h1, me.at_, me.fn, initG F hb sc S d1 d2 d3 d4 hs, rfl, bn⟩
end
end Ev

/-! Ev, part 43: dict displays as values ({}, {"a": 1}), repr of such a dict. -/
namespace Ev
open PySem PySem.Spec PySem.Calls PyProof.Rows L2
section
variable {X : Cx} {W : L2.WX}
def mDic0 : M := fun _ S => .ok (.dic [] []) S
theorem dic_new {G : GC} {B : Addr → Prop} {S : Sto} {ρ : List Addr} {H : Hp} {p : Addr} {kvs : List (Key × V)} {ks : List Key} {ds : List D} (so : SOk G B S ρ H) (hp : H p = none) (hk : kvs.map (·.1) = ks) (r : RepL G B ρ H ds (kvs.map (·.2))) : Rep G B ρ (upd H p (.dK kvs)) (.dic ks ds) (.ref p) := by
  simp only [Rep]
  exact ⟨p, kvs, rfl, upd_same, so.fresh hp, hk, r.mono (Ext.laid hp)⟩
theorem se_dic0 {pos : Pos} : SE X W (.Dict [] [] pos) mDic0 := PE.imp pe_dnewK fun σ H Q h p hp => by
  obtain ⟨B, env, S, ρ, eo, so, P⟩ := h
  exact P ρ _ (Ext.laid hp) (so.laid hp) _ (dic_new so hp rfl (by simp [RepL]))
def mDic1 (x : Str) (i : Int) : M := fun _ S => .ok (.dic [.inr x] [.int i]) S
theorem se_dic1 {x : Str} {i : Int} {j1 j2 : _} {p1 p2 pos : Pos} : SE X W (.Dict [some (.Constant (.str x) j1 p1)] [.Constant (.int i) j2 p2] pos) (mDic1 x i) := PE.imp (pe_disp (pps_cons pe_str pe_int pps_nil) rfl rfl (by simp) (by show 1 ≤ 15; decide)) fun σ H Q h p hp => by
  obtain ⟨B, env, S, ρ, eo, so, P⟩ := h
  show _ ∧ _
  refine ⟨upd_same, [(.inr x, .int i)], rfl, by show 1 ≤ 15; decide, ?_⟩
  have e : upd (upd H p (.dK [])) p (.dK (mergeK [] [(.inr x, .int i)])) = upd H p (.dK [(.inr x, .int i)]) := by
    funext b
    by_cases h1 : b = p
    · rw [h1, upd_same, upd_same]; rfl
    · rw [upd_ne h1, upd_ne h1, upd_ne h1]
  rw [e]
  refine P ρ _ (Ext.laid hp) (so.laid hp) _ (dic_new so hp rfl ?_)
  simp only [List.map_cons, List.map_nil, RepL]
  exact ⟨_, _, rfl, by simp only [Rep], rfl⟩
@[simp] theorem mDic0_po {env : En} {S : Sto} {Q : D → Sto → Prop} {X : XQ} : (mDic0 env S).po Q X = Q (.dic [] []) S := by simp only [mDic0]; rfl
@[simp] theorem mDic1_po {x : Str} {i : Int} {env : En} {S : Sto} {Q : D → Sto → Prop} {X : XQ} : (mDic1 x i env S).po Q X = Q (.dic [.inr x] [.int i]) S := by simp only [mDic1]; rfl
end
/-! ### repr -/
def atomP : D → Option PyData
  | .non => some .none
  | .bl b => some (.bool b)
  | .int i => some (.int i)
  | .str x => some (.str x)
  | _ => none
def keyP : Key → PyData
  | .inl i => .int i
  | .inr x => .str x
def pyDic : List Key → List D → Option (List (PyData × PyData))
  | [], [] => some []
  | k :: ks, d :: ds => match atomP d, pyDic ks ds with | some p, some r => some ((keyP k, p) :: r) | _, _ => none
  | _, _ => none
theorem atom_reads {G : GC} {B : Addr → Prop} {ρ : List Addr} {H : Hp} {h : Heap} {d : D} {p : PyData} {v : V} {u : Value} (e : atomP d = some p) (r : Rep G B ρ H d v) (rv : RelV v u) : Reads h u p [] := by
  cases d <;> simp only [atomP, Option.some.injEq, reduceCtorEq] at e
  all_goals subst e; simp only [Rep] at r; subst r
  · cases rv; exact .none
  · cases rv; exact .bool _
  · obtain ⟨t, rfl⟩ := rv; exact .int _ _
  · obtain ⟨t, rfl⟩ := rv; exact .str _ _
theorem key_reads {h : Heap} {k : Key} {u : Value} (e : keyIs k u = true) : Reads h u (keyP k) [] := by
  rcases keyIs_shape e with ⟨i, t, rfl, rfl⟩ | ⟨x, t, rfl, rfl⟩
  · exact .int _ _
  · exact .str _ _
theorem dic_reads {P : Program} {w : World} {G : GC} {B : Addr → Prop} {ρ : List Addr} {H : Hp} {h : Heap} : ∀ {ks : List Key} {ds : List D} {kvs : List (PyData × PyData)} {vs : List (Key × V)} {us : List (Key × Value)} {es : List DictEntry}, pyDic ks ds = some kvs → vs.map (·.1) = ks → RepL G B ρ H ds (vs.map (·.2)) → KV vs us → Pairs (mixKind P w) es us →
    ReadsAll h (es.map (·.key)) (kvs.map (·.1)) [] ∧ ReadsAll h (es.map (·.val)) (kvs.map (·.2)) []
  | [], [], kvs, vs, us, es, e, e1, r, q, c => by
    simp only [pyDic, Option.some.injEq] at e
    subst e
    have : vs = [] := by simpa using e1
    subst this
    cases q
    cases c
    exact ⟨.nil, .nil⟩
  | [], _ :: _, kvs, vs, us, es, e, e1, r, q, c => by simp [pyDic] at e
  | _ :: _, [], kvs, vs, us, es, e, e1, r, q, c => by simp [pyDic] at e
  | k :: ks, d :: ds, kvs, vs, us, es, e, e1, r, q, c => by
    simp only [pyDic] at e
    cases ea : atomP d with
    | none => rw [ea] at e; simp at e
    | some p =>
      cases eb : pyDic ks ds with
      | none => rw [ea, eb] at e; simp at e
      | some rr =>
        rw [ea, eb] at e
        simp only [Option.some.injEq] at e
        subst e
        cases vs with
        | nil => simp at e1
        | cons kv vs =>
          simp only [List.map_cons, List.cons.injEq] at e1
          obtain ⟨e1, e2⟩ := e1
          simp only [List.map_cons, RepL] at r
          obtain ⟨v', w', ew, r1, r2⟩ := r
          cases ew
          cases q with
          | cons q1 q2 =>
            cases c with
            | cons c1 c2 c3 =>
              obtain ⟨i1, i2⟩ := dic_reads (h := h) eb e2 r2 q2 c3
              subst e1
              rw [← q1.1] at c1
              refine ⟨?_, ?_⟩
              · simp only [List.map_cons]
                exact ReadsAll.cons (as := []) (key_reads c1) i1
              · simp only [List.map_cons]
                rw [c2]
                exact ReadsAll.cons (as := []) (atom_reads ea r1 q1.2) i2
def rprD (kvs : List (PyData × PyData)) : Bool := (PyData.dict kvs).showable && Nat.ble (PyData.dict kvs).depth 60 && Nat.ble (PyData.dict kvs).shown.length 16000000
def sReprX (S : Sto) : List D → Option D
  | [.dic ks ds] => match pyDic ks ds with | some kvs => if rprD kvs then some (.str (PyData.dict kvs).shown) else none | none => none
  | ds => sRepr S ds
theorem call_sReprX {X : Cx} {k : Nat} (hr : RoomG k X.A) : VCall X (.builtin "repr") sReprX := by
  intro pins s σ H xs us Q I r ⟨B, S, ρ, ds, so, rs, d, he, kk⟩
  unfold sReprX at he
  split at he
  · rename_i ks ds0
    split at he
    · rename_i kvs hp
      split at he
      · rename_i hz
        cases he
        simp only [rprD, Bool.and_eq_true] at hz
        obtain ⟨⟨h2, h3⟩, h4⟩ := hz
        have h3 := Nat.le_of_ble_eq_true h3
        have h4 := Nat.le_of_ble_eq_true h4
        obtain ⟨v, rfl, r1⟩ := repL1 rs
        simp only [Rep] at r1
        obtain ⟨a, vs, rfl, hA, -, hk, rl⟩ := r1
        cases r with
        | cons ru rn =>
          cases rn
          cases ru
          have ok : ObjOk X.prog X.w H s.heap a (.dK vs) := I.hok a _ hA
          obtain ⟨x1, hns, us, kv, o, es, ep, ho, hx, hd, x2, hpr, x3⟩ := ok
          obtain ⟨q1, q2⟩ := dic_reads (h := s.heap) hp hk rl kv hpr
          have rd : Reads s.heap (.ref a) (.dict kvs) (a :: [] ++ []) := Reads.dict ho hx.1 hd q1 q2
          have hsz : (PyData.dict kvs).shown.length ≤ sizeLine := Nat.le_trans h4 (by rw [sizeLine_eq]; decide)
          have fin : ∀ (h' : Heap) (t : Tok) (tk : Tok), (∀ b o, s.heap.get? b = some o → h'.get? b = some o) → EP X pins σ Q (.str (PyData.dict kvs).shown t) { s with heap := h', toks := tk } := fun h' t tk hk => ⟨.str (PyData.dict kvs).shown, H, I.kept hk, ⟨t, rfl⟩, kk ρ H _ Ext.refl so (by simp only [Rep])⟩
          refine repr_of_reads' rd h2 (fun _ z => ?_) hr.g (room_units hr h3) (fun _ _ e => e) (fun h' t tk hk => fin h' t tk hk) hsz
          have e : sysModules = a := by simpa using z
          rw [← e] at hns
          simp at hns
      · cases he
    · cases he
  · exact call_sRepr hr pins s σ H xs us Q I r ⟨B, S, ρ, _, so, rs, d, he, kk⟩
/-! ### a + b, a list that is written later -/
section
variable {X : Cx} {W : L2.WX}
def mAddN (a b : M) : M := fun env S => (a env S).bind fun x S1 => (b env S1).bind fun y S2 => match lstM S2 x, lstM S2 y with
  | some xs, some ys => if room (xs.length + ys.length) then .ok (.ref S2.length) (S2 ++ [.lst (xs ++ ys)]) else .err
  | _, _ => .err
theorem se_addN {a b : Expr} {ma mb : M} {pos : Pos} (ha : SE X W a ma) (hb : SE X W b mb) : SE X W (.BinOp a .Add b pos) (mAddN ma mb) :=
  PE.imp (pe_op op_cat ha hb) fun σ H Q h => by
    obtain ⟨B, env, S, ρ, eo, so, P⟩ := h
    refine ⟨B, env, S, ρ, eo, so, Post.mono P.bind (fun dx S1 ρ1 H1 e1 s1 P1 vx rx => ⟨B, env, S1, ρ1, eo.mono e1, s1, Post.mono P1.bind (fun dy S2 ρ2 H2 e2 s2 P2 vy ry => ?_) (fun _ _ _ z => z)⟩) (fun _ _ _ z => z)⟩
    split at P2
    · rename_i xs ys q1 q2
      split at P2
      · rename_i hz
        obtain ⟨a, vs, rfl, h1, h2⟩ := lstM_ok s2 (rx.mono e2) q1
        obtain ⟨b, ws, rfl, h3, h4⟩ := lstM_ok s2 ry q2
        refine ⟨a, b, vs, ws, rfl, rfl, h1, h3, by rw [← h2.length, ← h4.length]; exact room_le hz, fun p hp => ?_⟩
        refine P2 (ρ2 ++ [p]) _ (Ext.push hp) (s2.push hp ⟨vs ++ ws, upd_same, (h2.append h4).mono (Ext.push hp)⟩) _ ?_
        simp only [Rep]
        exact ⟨p, rfl, by rw [← s2.len]; simp⟩
      · exact P2.elim
    · exact P2.elim
@[simp] theorem mAddN_po {a b : M} {env : En} {S : Sto} {Q : D → Sto → Prop} {Xq : XQ} : (mAddN a b env S).po Q Xq = (a env S).po (fun x S1 => (b env S1).po (fun y S2 => opo (lstM S2 x) fun xs => opo (lstM S2 y) fun ys => room (xs.length + ys.length) = true ∧ Q (.ref S2.length) (S2 ++ [.lst (xs ++ ys)])) Xq) Xq := by
  simp only [mAddN, po_bind]
  congr; funext x S1; congr; funext y S2
  cases lstM S2 x with
  | none => rfl
  | some xs =>
    cases lstM S2 y with
    | none => rfl
    | some ys =>
      by_cases e : room (xs.length + ys.length) = true
      · simp [e, opo_some]
      · simp [e, opo_some]
end
end Ev

/-! Ev, part 44: instances that stay in the store; properties of such. -/
namespace Ev
open PySem PySem.Spec PySem.Calls PyProof.Rows L2
/-! ### C(..), an instance that is written later -/
section
variable {X : Cx} {W : WX} {j k : Nat} {c : Str} {ps : List Str} {kws : List Shape} {p pos : Pos} {e : Expr} {es : List Expr} {m mk : ML}
def newI (n : Nat) (c : Str) (g : List D → Sto → Rs D) (ds : List D) (S : Sto) : Rs D := if Nat.beq ds.length n then (match g (.ref S.length :: ds) (S ++ [.ins c [] []]) with
  | .ok .non S2 => .ok (.ref S.length) S2
  | .exc x p S2 => .exc x p S2
  | _ => .err) else .err
def mNewI (n : Nat) (c : Str) (g : List D → Sto → Rs D) (m : ML) : M := fun env S => (m env S).bind fun ds S1 => newI n c g ds S1
theorem newI_imp {C : Addr} (hg : X.mg c = some (.ref C)) {g : List D → Sto → Rs D} {n : Nat} {S1 : Sto} {σ : L2.St} {B : Addr → Prop} {ρ1 : List Addr} {H1 : Hp} {Q : VK} {E : XK} {ds : List D} {vs : List V} (s1 : SOk ⟨X.K, X.mg⟩ B S1 ρ1 H1) (rs : RepL ⟨X.K, X.mg⟩ B ρ1 H1 ds vs)
    (P : Post ⟨X.K, X.mg⟩ B ρ1 H1 (newI n c g ds S1) (fun d _ ρ' H' => ∀ v, Rep ⟨X.K, X.mg⟩ B ρ' H' d v → Q v H') fun C d H' => E (.ref C) d H') {x dx : Addr} (hx : H1 x = none) (hdx : H1 dx = none) (hne : dx ≠ x) :
    spI ⟨X.K, X.mg⟩ (n + 1) g (.ref x :: vs) (upd (upd H1 dx (.own x)) x (.ins C dx [])) (fun v H2 => v = .non ∧ Q (.ref x) H2) E := by
  unfold newI at P
  split at P
  · rename_i hz
    have hn := Nat.eq_of_beq_eq_true hz
    have hx2 : upd H1 dx (.own x) x = none := by rw [upd_ne (Ne.symm hne)]; exact hx
    have E1 : Ext ρ1 H1 ρ1 (upd H1 dx (.own x)) := Ext.laid hdx
    have E2 : Ext ρ1 (upd H1 dx (.own x)) (ρ1 ++ [x]) (upd (upd H1 dx (.own x)) x (.ins C dx [])) := Ext.push hx2
    have E0 := E1.trans E2
    have so : SOk ⟨X.K, X.mg⟩ B (S1 ++ [.ins c [] []]) (ρ1 ++ [x]) (upd (upd H1 dx (.own x)) x (.ins C dx [])) := (s1.laid hdx).push hx2 ⟨C, dx, [], upd_same, hg, rfl, by simp only [List.map_nil, RepL]⟩
    have hnx : (ρ1 ++ [x])[S1.length]? = some x := by rw [← s1.len]; simp
    refine ⟨B, S1 ++ [.ins c [] []], ρ1 ++ [x], .ref S1.length :: ds, so, ?_, by rw [List.length_cons, hn], ?_⟩
    · simp only [RepL]
      exact ⟨_, _, rfl, by simp only [Rep]; exact ⟨x, rfl, hnx⟩, rs.mono E0⟩
    · cases q : g (.ref S1.length :: ds) (S1 ++ [.ins c [] []]) with
      | err => rw [q] at P; exact P
      | exc y p S' =>
        rw [q] at P
        exact fun ρ3 H3 C' d e3 s3 z => P ρ3 H3 C' d (E0.trans e3) s3 z
      | ok d S' =>
        rw [q] at P
        cases d with
        | non =>
          refine fun ρ3 H3 e3 s3 v rv => ⟨by simpa only [Rep] using rv, ?_⟩
          exact P ρ3 H3 (E0.trans e3) s3 (.ref x) (by simp only [Rep]; exact ⟨x, rfl, e3.pre _ _ hnx⟩)
        | _ => exact P.elim
  · exact P.elim
theorem se_newI {nn : Nat} {g : List D → Sto → Rs D} (F : NewI X.prog X.w X.K X.mg X.base j c ps g kws) (hr : RoomG k X.A) (hj : j + 1 ≤ k) (tk : L2.Takes X W) (ha : SA X W (e :: es) m) (hg : Gl X c := by rfl) (hnn : ps.length = nn + 1 := by rfl)
    (hdb : (c == ("__debug__" : Str)) = false := by decide) (he : starEach (e :: es) X.env = (false, eval e X.env) :: starEach es X.env := by rfl) (hpl : (backTo pos (starEach es X.env)).any (·.1) = false := by rfl) :
    SE X W (.Call (.Name c p) (e :: es) [] pos) (mNewI nn c g m) := by
  obtain ⟨C, f, fd, hm, M, F1, hb, _⟩ := F.ex
  rw [hnn] at F1
  refine ⟨fun pins s σ H Q I h => ?_⟩
  refine wpAny_Call_Name_kw (ld_glob I hg hm ?_ hdb)
  obtain ⟨B, env, S, ρ, eo, so, P⟩ := h
  refine PySem.W.callWith_K (h₀ := X.base) I.ok.mod.kin M.kp (thn (ha.run pos pins s σ H (fun vs H1 => ∀ x dx, H1 x = none → H1 dx = none → dx ≠ x → spI ⟨X.K, X.mg⟩ (nn + 1) g (.ref x :: vs) (upd (upd H1 dx (.own x)) x (.ins C dx [])) (fun v H2 => v = .non ∧ Q (.ref x) H2) (L2.WE W σ)) I ?_) fun us s1 ⟨vs, H1, I1, r, q⟩ => ⟨I1.kIn, ?_⟩) he hpl
  · exact ⟨B, env, S, ρ, eo, so, Post.mono P.bind (fun ds S1 ρ1 H1 e1 s1 P1 vs rs x dx hx hdx hne => newI_imp (σ := σ) hm s1 rs P1 hx hdx hne) (fun _ _ _ z => z)⟩
  · exact make_run M F1 (hr.mono hj) hb tk I1 r q
@[simp] theorem mNewI_po {n : Nat} {g : List D → Sto → Rs D} {env : En} {S : Sto} {Q : D → Sto → Prop} {Xq : XQ} : (mNewI n c g m env S).po Q Xq = (m env S).po (fun ds S1 => (newI n c g ds S1).po Q Xq) Xq := by
  simp only [mNewI, po_bind]
end
/-! ### properties of instances that are written -/
structure ProI (P : Program) (w : World) (K : PySem.W.Frag) (mg : Str → Option Value) (base : Heap) (k : Nat) (c f : Str) (g : List D → Sto → Rs D) : Prop where
  ex : ∃ C p q fd ps, mg c = some (.ref C) ∧ Cls K C ∧ PropOf K C f p q ∧ ps.length = 1 ∧ FnG P w K mg base k q fd ps (spI ⟨K, mg⟩ ps.length g) ∧ Binds K fd ps []
section
variable {P : Program} {w : World} {K : PySem.W.Frag} {mg : Str → Option Value} {base : Heap} {k : Nat} {c x qual : Str} {p f C : Addr} {fd : FuncData} {prm : Arguments} {body : List Stmt} {scope : Scope} {N ps : List Str} {m : MS}
theorem ProI.of (F : FunD K x qual prm body scope [] [] f fd) (hg : mg c = some (.ref C)) (hc : Cls K C) (hp : PropOf K C x p f) (h1 : ps.length = 1) (sc : FnScope N ps scope) (hb : Binds K fd ps [])
    (go : ∀ (cdv : Value) (A : Around) (outer : List Env) (s : Shared) (H : Hp) (E : XK), RoomG k (A.deeper (PyProof.Rows.envOfC qual scope s.heap.objs.size f cdv)) → SSs (cxOf (L2.CX P w) P w K mg base N qual scope f cdv A outer s H E) (WD E) body m) :
    ProI P w K mg base (k + 1) c x (runI N.length m) :=
  ⟨C, p, f, fd, ps, hg, hc, hp, h1, FnG.of F sc len_I fun cdv A outer s H vs Q E hr h => ⟨_, go cdv A outer s H E hr, body_I h⟩, hb⟩
end
section
variable {X : Cx} {W : WX} {j k : Nat} {c f : Str} {pos : Pos} {o : Expr} {mo : M}
def mPropI (c : Str) (g : List D → Sto → Rs D) (o : M) : M := fun env S => (o env S).bind fun d S1 => match insOf S1 d with
  | some (c', _, _) => if c' = c then (match g [d] S1 with | .ok v S2 => .ok v S2 | _ => .err) else .err
  | none => .err
theorem se_propI {g : List D → Sto → Rs D} (F : ProI X.prog X.w X.K X.mg X.base j c f g) (hr : RoomG k X.A) (hj : j + 1 ≤ k) (ho : SE X W o mo) (hb : attributeBase o f X.env (eval o X.env) = eval o X.env := by rfl) : SE X W (.Attribute o f pos) (mPropI c g mo) := by
  obtain ⟨C, p, q, fd, ps, hg, hc, hp, hps, F1, hbn⟩ := F.ex
  refine ⟨fun pins s σ H Q I h => ?_⟩
  obtain ⟨B, env, S, ρ, eo, so, P⟩ := h
  refine attr_of hb (thn (ho.run pins s σ H (fun v H1 => ∃ a dx fs, v = .ref a ∧ H1 a = some (.ins C dx fs) ∧ spI ⟨X.K, X.mg⟩ ps.length g [.ref a] H1 Q fun _ _ _ => False) I ?_) fun u s1 ⟨x, H1, I1, rx, a, dx, fs, ex, ea, q⟩ => ?_)
  · refine ⟨B, env, S, ρ, eo, so, Post.mono P.bind (fun d S1 ρ1 H1 e1 s1 P1 v r => ?_) (fun _ _ _ z => z)⟩
    split at P1
    · rename_i c' ns ds hi
      split at P1
      · rename_i hz
        subst hz
        obtain ⟨a, C', dx, fs, rfl, h1, h3, _, _⟩ := insOf_ok s1 r hi
        rw [show X.mg c' = some (.ref C') from h3] at hg
        cases hg
        refine ⟨a, dx, fs, rfl, h1, ?_⟩
        refine ⟨B, S1, ρ1, [d], s1, by simp only [RepL]; exact ⟨_, _, rfl, r, rfl⟩, by rw [hps]; rfl, ?_⟩
        cases qg : g [d] S1 with
        | ok v S2 => rw [qg] at P1; exact P1
        | exc _ _ _ => rw [qg] at P1; exact P1.elim
        | err => rw [qg] at P1; exact P1.elim
      · exact P1.elim
    · exact P1.elim
  · subst ex
    obtain rfl : u = Value.ref a := rx
    exact prop_run I1 ea hc hp F1 (hr.mono hj) hbn q
@[simp] theorem mPropI_po {g : List D → Sto → Rs D} {env : En} {S : Sto} {Q : D → Sto → Prop} {Xq : XQ} : (mPropI c g mo env S).po Q Xq = (mo env S).po (fun d S1 => match insOf S1 d with
    | some (c', _, _) => c' = c ∧ (g [d] S1).po Q fun _ _ _ => False
    | none => False) Xq := by
  simp only [mPropI, po_bind]
  congr; funext d S1
  cases insOf S1 d with
  | none => rfl
  | some t =>
    obtain ⟨c', ns, ds⟩ := t
    by_cases e : c' = c
    · simp only [e, if_true, true_and]
      cases g [d] S1 <;> rfl
    · simp only [e, if_false, false_and]; rfl
end
end Ev

/-! Ev, part 45: str(x), x of an own class with __str__. -/
namespace Ev
open PySem PySem.Spec PySem.Calls PyProof.Rows L2
def sStrO (c : Str) (g : List D → Pr) (S : Sto) (ds : List D) : Option D := match ds with
  | [.obj c' ns es] => if c' = c ∧ noRefs es = true then (match g [.obj c' ns es] with | .ok (.str z) => some (.str z) | _ => none) else none
  | ds => sStr S ds
theorem call_sStrO {X : Cx} {j k : Nat} {c : Str} {ps : List Str} {g : List D → Pr} {kws : List Shape} (F : MetP X.prog X.w X.K X.mg X.base j c "__str__" ps g kws) (hr : RoomG k X.A) (hj : j + 2 ≤ k) (hps : ps.length = 1 := by rfl) : VCall X (.type "str") (sStrO c g) := by
  obtain ⟨C, f, fd, hg, hc, hm, F1, hb, _⟩ := F.ex
  intro pins s σ H xs us Q I r ⟨B, S, ρ, ds, so, rs, d, he, kk⟩
  unfold sStrO at he
  split at he
  · rename_i c' ns es
    split at he
    · rename_i hz
      obtain ⟨rfl, hz⟩ := hz
      split at he
      · rename_i z hgz
        cases he
        obtain ⟨v, rfl, r1⟩ := repL1 rs
        have r0 := r1
        simp only [Rep] at r1
        obtain ⟨a, C', dx, fs, rfl, ha, -, hC, -, -⟩ := r1
        rw [hC] at hg
        cases hg
        cases r with
        | cons ru rn =>
          cases rn
          cases ru
          obtain ⟨mA, O, _, _, _, _⟩ := ins_get I.hok ha
          obtain ⟨od, J, _⟩ := O.look
          have hr2 : RoomG (j + 2) X.A := hr.mono hj
          have sp : spP ⟨X.K, X.mg⟩ ps.length g [.ref a] H (fun v H1 => v = .str z ∧ Q (.str z) H1) (fun _ _ _ => False) := by
            refine spP_of (ds := [.obj c' ns es]) so (by simp only [RepL]; exact ⟨_, _, rfl, r0, rfl⟩) ?_
            have e : clP ps.length g [.obj c' ns es] S = .ok (.str z) S := by
              unfold clP
              rw [hps, hgz]
              simp [noRefs, noRef, hz, prR]
            rw [e]
            exact fun ρ' H' ex so' v rv => by
              simp only [Rep] at rv
              subst rv
              exact ⟨rfl, kk ρ' H' _ ex so' (by simp only [Rep])⟩
          have hl : ([Value.ref a] ++ []).length = ps.length := F1.len _ _ _ _ sp
          have bnd := hb s [.ref a] I.kIn hl
          rw [List.append_nil] at bnd
          refine PySem.W.kso_call (by have := hr2.r.un; simp [Around.in1]; omega) I.kIn J hm.at_ hm.fn (wpAny_call (codeAny_mono (F1.go X.A.in1.in1 X.stack s H ⟨[.ref a], []⟩ [.ref a] [.ref a] _ _ (hr2.in1.in1) I.env0.in1.in1 bnd (.cons rfl .nil) sp) fun r s' hq => ?_))
          cases r with
          | error er =>
            obtain ⟨_, _, _, _, _, _, _, _, _, _, _, _, _, z⟩ := hq
          | ok fl =>
            cases fl with
            | ret u =>
              obtain ⟨v, H', I3, rv, ev, q3⟩ := I.after hq
              subst ev
              obtain ⟨t, rfl⟩ := rv
              exact ⟨.str z, H', I3, ⟨t, rfl⟩, q3⟩
            | next => exact False.elim hq
            | brk => exact False.elim hq
            | cont => exact False.elim hq
      · cases he
    · cases he
  · exact call_sStr pins s σ H xs us Q I r ⟨B, S, ρ, _, so, rs, d, he, kk⟩
end Ev

/-! Ma, part 1: whole numbers: bits, square roots, floors of p + q√r over n, common divisors. Plain Lean, no program in sight. -/
namespace Ma
/-- fewer than k bits -/
def Bt (k : Nat) (i : Int) : Prop := i.natAbs < 2 ^ k
instance (k : Nat) (i : Int) : Decidable (Bt k i) := by unfold Bt; infer_instance
theorem Bt.mono {k l : Nat} {i : Int} (h : Bt k i) (hl : k ≤ l) : Bt l i := Nat.lt_of_lt_of_le h (Nat.pow_le_pow_right (by decide) hl)
theorem Bt.le {k : Nat} {i j : Int} (h : Bt k i) (hl : j.natAbs ≤ i.natAbs) : Bt k j := Nat.lt_of_le_of_lt hl h
theorem Bt.neg {k : Nat} {i : Int} (h : Bt k i) : Bt k (-i) := by unfold Bt at *; omega
theorem Bt.add {k l : Nat} {i j : Int} (h : Bt k i) (h' : Bt l j) : Bt (max k l + 1) (i + j) := by
  have a := h.mono (Nat.le_max_left k l)
  have b := h'.mono (Nat.le_max_right k l)
  unfold Bt at *
  rw [Nat.pow_succ]; omega
theorem Bt.sub {k l : Nat} {i j : Int} (h : Bt k i) (h' : Bt l j) : Bt (max k l + 1) (i - j) := by
  rw [Int.sub_eq_add_neg]; exact h.add h'.neg
theorem Bt.mul {k l : Nat} {i j : Int} (h : Bt k i) (h' : Bt l j) : Bt (k + l) (i * j) := by
  unfold Bt at *
  rw [Int.natAbs_mul, Nat.pow_add]
  exact Nat.mul_lt_mul'' h h'
theorem Bt.of_lt {k : Nat} {i : Int} (h1 : -(2 ^ k : Int) < i) (h2 : i < 2 ^ k) : Bt k i := by
  unfold Bt
  have : ((2 ^ k : Nat) : Int) = 2 ^ k := by simp
  omega
theorem Bt.bd {k : Nat} {i : Int} (h : Bt k i) : -(2 ^ k : Int) < i ∧ i < 2 ^ k := by
  unfold Bt at h
  have : ((2 ^ k : Nat) : Int) = 2 ^ k := by simp
  omega
theorem Bt.ediv {k : Nat} {i : Int} (h : Bt k i) (j : Int) : Bt k (i / j) := by
  unfold Bt at *
  refine Nat.lt_of_le_of_lt ?_ h
  rw [Int.natAbs_ediv]
  by_cases hj : 0 ≤ i ∨ j = 0 ∨ j ∣ i
  · simp only [hj, if_true, Nat.add_zero]
    exact Nat.div_le_self _ _
  · simp only [hj, if_false]
    have h0 : j ≠ 0 := fun z => hj (.inr (.inl z))
    have hi : i < 0 := Int.not_le.mp fun z => hj (.inl z)
    by_cases h1 : j.natAbs = 1
    · exfalso
      refine hj (.inr (.inr ?_))
      rcases Int.natAbs_eq j with e | e <;> rw [h1] at e
      · rw [e]; exact ⟨i, by simp⟩
      · rw [e]; exact ⟨-i, by simp⟩
    · have h2 : 2 ≤ j.natAbs := by omega
      have : i.natAbs / j.natAbs ≤ i.natAbs / 2 := Nat.div_le_div_left h2 (by decide)
      omega
/-! ### square roots -/
def isqN : Nat → Nat
  | 0 => 0
  | n + 1 => if (isqN n + 1) * (isqN n + 1) ≤ n + 1 then isqN n + 1 else isqN n
theorem isqN_spec : ∀ n : Nat, isqN n * isqN n ≤ n ∧ n < (isqN n + 1) * (isqN n + 1)
  | 0 => by simp [isqN]
  | n + 1 => by
    obtain ⟨h1, h2⟩ := isqN_spec n
    unfold isqN
    split
    · rename_i h
      refine ⟨h, ?_⟩
      generalize isqN n = r at *
      have : (r + 1 + 1) * (r + 1 + 1) = (r + 1) * (r + 1) + 2 * r + 3 := by
        rw [Nat.add_mul, Nat.mul_add]; omega
      omega
    · omega
/-- the whole part of the root -/
def isq (n : Int) : Int := (isqN n.toNat : Int)
def IsSq (n r : Int) : Prop := 0 ≤ r ∧ r * r ≤ n ∧ n < (r + 1) * (r + 1)
theorem isq_spec {n : Int} (h : 0 ≤ n) : IsSq n (isq n) := by
  obtain ⟨h1, h2⟩ := isqN_spec n.toNat
  have e : ((n.toNat : Nat) : Int) = n := Int.toNat_of_nonneg h
  refine ⟨Int.natCast_nonneg _, ?_, ?_⟩
  · have : ((isqN n.toNat * isqN n.toNat : Nat) : Int) ≤ (n.toNat : Int) := by exact_mod_cast h1
    rw [e] at this
    simpa [isq] using this
  · have : (n.toNat : Int) < (((isqN n.toNat + 1) * (isqN n.toNat + 1) : Nat) : Int) := by exact_mod_cast h2
    rw [e] at this
    simpa [isq] using this
theorem sq_lt {a b : Int} (ha : 0 ≤ a) (hb : 0 ≤ b) (h : a * a < b * b) : a < b := by
  refine Int.not_le.mp fun z => ?_
  have := Int.mul_self_le_mul_self hb z
  omega
theorem sq_le {a b : Int} (ha : 0 ≤ a) (h : a ≤ b) : a * a ≤ b * b := Int.mul_self_le_mul_self ha h
theorem IsSq.uniq {n r s : Int} (h : IsSq n r) (h' : IsSq n s) : r = s := by
  obtain ⟨a1, a2, a3⟩ := h
  obtain ⟨b1, b2, b3⟩ := h'
  have h1 : r < s + 1 := sq_lt a1 (by omega) (by omega)
  have h2 : s < r + 1 := sq_lt b1 (by omega) (by omega)
  omega
theorem IsSq.eq {n r : Int} (h : IsSq n r) : r = isq n := h.uniq (isq_spec (by have := h.2.1; have := Int.mul_nonneg h.1 h.1; omega))
theorem self_le_sq {a : Int} (h : 0 ≤ a) : a ≤ a * a := by
  by_cases z : a = 0
  · subst z; decide
  · have : 1 * a ≤ a * a := Int.mul_le_mul_of_nonneg_right (by omega) h
    omega
theorem isq_le {n : Int} (h : 0 ≤ n) : isq n ≤ n := by
  obtain ⟨a1, a2, a3⟩ := isq_spec h
  have := self_le_sq a1
  omega
theorem isq_nonneg (n : Int) : 0 ≤ isq n := Int.natCast_nonneg _
/-- m above the root -/
theorem isq_lt_iff {n m : Int} (h : 0 ≤ n) (hm : 0 ≤ m) : isq n < m ↔ n < m * m := by
  obtain ⟨a1, a2, a3⟩ := isq_spec h
  constructor
  · intro q
    have := sq_le (show 0 ≤ isq n + 1 by omega) (show isq n + 1 ≤ m by omega)
    omega
  · intro q
    exact sq_lt a1 hm (by omega)
/-! ### no square -/
def NoSq (r : Int) : Prop := ∀ k : Int, k * k ≠ r
theorem noSq_of {r s : Int} (h : IsSq r s) (hn : s * s ≠ r) : NoSq r := by
  obtain ⟨a1, a2, a3⟩ := h
  intro k hk
  have e : (k.natAbs : Int) * (k.natAbs : Int) = r := by rw [← hk]; exact Int.natAbs_mul_self
  have h1 : (k.natAbs : Int) < s + 1 := sq_lt (by omega) (by omega) (by omega)
  have h2 : s < (k.natAbs : Int) + 1 := by
    refine sq_lt a1 (by omega) ?_
    have : (k.natAbs : Int) * (k.natAbs : Int) < ((k.natAbs : Int) + 1) * ((k.natAbs : Int) + 1) := by
      rw [Int.add_mul, Int.mul_add]; omega
    omega
  have : (k.natAbs : Int) = s := by omega
  rw [this] at e
  exact hn e
theorem NoSq.ne {r : Int} (h : NoSq r) {p q : Int} (hq : q ≠ 0) : p * p ≠ q * q * r := fun e => by
  have hd : q ^ 2 ∣ p ^ 2 := ⟨r, by rw [Int.pow_succ, Int.pow_succ, Int.pow_zero, Int.one_mul, Int.pow_succ, Int.pow_succ, Int.pow_zero, Int.one_mul]; exact e⟩
  obtain ⟨k, rfl⟩ := (Int.pow_dvd_pow_iff (by decide)).mp hd
  have e2 : q * q * (k * k) = q * q * r := by
    rw [← e, Int.mul_assoc q k (q * k), ← Int.mul_assoc k q k, Int.mul_comm k q, Int.mul_assoc, Int.mul_assoc]
  have hqq : q * q ≠ 0 := Int.mul_ne_zero hq hq
  exact h k (Int.eq_of_mul_eq_mul_left hqq e2)
/-- the floor of q√r -/
def fl (q r : Int) : Int := if q < 0 then -(isq (q * q * r)) - 1 else isq (q * q * r)
/-- p + q√r < 0, as the laws ask it -/
def under (p q r : Int) : Prop := ¬ (0 ≤ p ∧ 0 ≤ q) ∧ ((p < 0 ∧ q ≤ 0) ∨ if p < 0 then q * q * r < p * p else p * p < q * q * r)
instance (p q r : Int) : Decidable (under p q r) := by unfold under; infer_instance
theorem sqn (a : Int) : 0 ≤ a * a := by
  rw [← Int.natAbs_mul_self]; exact Int.natCast_nonneg _
theorem under_iff {p q r : Int} (hr : 0 < r) (hs : NoSq r) : under p q r ↔ p + fl q r < 0 := by
  have hN : 0 ≤ q * q * r := Int.mul_nonneg (sqn q) (Int.le_of_lt hr)
  have hi := isq_nonneg (q * q * r)
  unfold under fl
  by_cases hq : q < 0
  · simp only [hq, if_true]
    by_cases hp : p < 0
    · simp only [hp, if_true]
      constructor
      · intro _; omega
      · intro _; exact ⟨by omega, .inl ⟨trivial, by omega⟩⟩
    · simp only [hp, if_false]
      have ne := hs.ne (p := p) (show q ≠ 0 by omega)
      have h1 := isq_lt_iff (n := q * q * r) (m := p) hN (by omega)
      constructor
      · rintro ⟨_, h | h⟩
        · exact absurd h.1 (by simp)
        · have : ¬ isq (q * q * r) < p := fun z => by have := h1.mp z; omega
          omega
      · intro h
        refine ⟨by omega, .inr ?_⟩
        have : ¬ (q * q * r < p * p) := fun z => by have := h1.mpr z; omega
        omega
  · simp only [hq, if_false]
    by_cases hp : p < 0
    · simp only [hp, if_true]
      have h1 := isq_lt_iff (n := q * q * r) (m := -p) hN (by omega)
      rw [Int.neg_mul_neg] at h1
      constructor
      · rintro ⟨_, h | h⟩
        · have q0 : q = 0 := by omega
          subst q0
          have : isq (0 * 0 * r) < -p := by
            refine (isq_lt_iff hN (by omega)).mpr ?_
            have : (-p) * (-p) ≥ -p := self_le_sq (by omega)
            simp only [Int.zero_mul]; omega
          omega
        · have := h1.mpr h
          omega
      · intro h
        exact ⟨by omega, .inr (h1.mp (by omega))⟩
    · simp only [hp, if_false]
      constructor
      · rintro ⟨h, _⟩; omega
      · intro h; omega
theorem fl_two {q r : Int} : fl q r + fl (-q) r ≥ -1 := by
  unfold fl
  rw [Int.neg_mul_neg]
  have hi := isq_nonneg (q * q * r)
  split <;> split <;> omega
/-! ### common divisors -/
def g3 (p q n : Int) : Nat := Nat.gcd (Nat.gcd p.natAbs q.natAbs) n.natAbs
theorem g3_pos {p q n : Int} (h : n ≠ 0) : 0 < g3 p q n := Nat.gcd_pos_of_pos_right _ (by omega)
theorem g3_dvd {p q n : Int} : g3 p q n ∣ p.natAbs ∧ g3 p q n ∣ q.natAbs ∧ g3 p q n ∣ n.natAbs :=
  ⟨Nat.dvd_trans (Nat.gcd_dvd_left _ _) (Nat.gcd_dvd_left _ _), Nat.dvd_trans (Nat.gcd_dvd_left _ _) (Nat.gcd_dvd_right _ _), Nat.gcd_dvd_right _ _⟩
/-- what stands under the fraction's bar in the lowest form -/
def cof (p q n : Int) : Int := if 0 < n then (g3 p q n : Int) else -(g3 p q n : Int)
theorem cof_ne {p q n : Int} (h : n ≠ 0) : cof p q n ≠ 0 := by
  have := g3_pos (p := p) (q := q) h
  unfold cof; split <;> omega
theorem cof_abs {p q n : Int} : (cof p q n).natAbs = g3 p q n := by unfold cof; split <;> omega
theorem cof_dvd {p q n : Int} : cof p q n ∣ p ∧ cof p q n ∣ q ∧ cof p q n ∣ n := by
  obtain ⟨a, b, c⟩ := g3_dvd (p := p) (q := q) (n := n)
  refine ⟨Int.natAbs_dvd_natAbs.mp ?_, Int.natAbs_dvd_natAbs.mp ?_, Int.natAbs_dvd_natAbs.mp ?_⟩ <;> rw [cof_abs] <;> assumption
theorem fdiv_dvd {a b : Int} (h : b ∣ a) : a.fdiv b = a / b := by
  obtain ⟨k, rfl⟩ := h
  by_cases z : b = 0
  · subst z; simp
  · rw [Int.mul_fdiv_cancel_left _ z, Int.mul_ediv_cancel_left _ z]
structure Low (p q n : Int) : Prop where
  pos : 0 < n
  one : g3 p q n = 1
theorem low_of {p q n : Int} (h : n ≠ 0) : Low (p / cof p q n) (q / cof p q n) (n / cof p q n) := by
  obtain ⟨a, b, c⟩ := cof_dvd (p := p) (q := q) (n := n)
  have g0 := g3_pos (p := p) (q := q) h
  obtain ⟨d1, d2, d3⟩ := g3_dvd (p := p) (q := q) (n := n)
  have nd : ∀ {x : Int}, cof p q n ∣ x → (x / cof p q n).natAbs = x.natAbs / g3 p q n := fun {x} hx => by
    rw [Int.natAbs_ediv, if_pos (.inr (.inr hx)), Nat.add_zero, cof_abs]
  constructor
  · obtain ⟨k, hk⟩ := c
    have e : n / cof p q n = k := by rw [hk, ← hk]; exact Int.ediv_eq_of_eq_mul_right (cof_ne h) hk
    rw [e]
    unfold cof at hk
    by_cases hn : 0 < n
    · rw [if_pos hn] at hk
      by_cases hk0 : 0 < k
      · exact hk0
      · have : (g3 p q n : Int) * k ≤ 0 := Int.mul_nonpos_of_nonneg_of_nonpos (by omega) (by omega)
        omega
    · rw [if_neg hn] at hk
      by_cases hk0 : 0 < k
      · exact hk0
      · have : (g3 p q n : Int) * k ≤ 0 := Int.mul_nonpos_of_nonneg_of_nonpos (by omega) (by omega)
        rw [Int.neg_mul] at hk
        omega
  · show Nat.gcd (Nat.gcd _ _) _ = 1
    rw [nd a, nd b, nd c, Nat.gcd_div d1 d2, Nat.gcd_div (Nat.dvd_gcd d1 d2) d3]
    exact Nat.div_self g0
theorem Low.cof {p q n : Int} (h : Low p q n) : cof p q n = 1 := by
  unfold Ma.cof; rw [if_pos h.pos, h.one]; rfl
theorem abs_ediv_le (a b : Int) (h : b ∣ a) : (a / b).natAbs ≤ a.natAbs := by
  rw [Int.natAbs_ediv, if_pos (.inr (.inr h)), Nat.add_zero]
  exact Nat.div_le_self _ _
theorem ediv_of {v n l : Int} (hn : 0 < n) (h1 : n * l ≤ v) (h2 : v < n * l + n) : l = v / n := by
  have a : l ≤ v / n := Int.le_ediv_of_mul_le hn (by rw [Int.mul_comm]; exact h1)
  have b : v / n < l + 1 := Int.ediv_lt_of_lt_mul hn (by rw [Int.add_mul, Int.one_mul, Int.mul_comm]; exact h2)
  omega
end Ma

/-! Ma, part 2: the floor of q√r adds up; bells: what is shown, day by day. -/
namespace Ma
theorem sq_mul_le {s t a b r : Int} (hs : 0 ≤ s) (ht : 0 ≤ t) (ha : 0 ≤ a) (hb : 0 ≤ b) (hr : 0 ≤ r) (h1 : s * s ≤ a * a * r) (h2 : t * t ≤ b * b * r) : s * t ≤ a * b * r := by
  refine Int.not_lt.mp fun z => ?_
  have e0 : 0 ≤ a * b * r := Int.mul_nonneg (Int.mul_nonneg ha hb) hr
  have l1 : (s * s) * (t * t) ≤ (a * a * r) * (b * b * r) := Int.mul_le_mul h1 h2 (sqn t) (Int.mul_nonneg (sqn a) hr)
  have e1 : (s * s) * (t * t) = (s * t) * (s * t) := by
    simp only [Int.mul_assoc, Int.mul_comm, Int.mul_left_comm]
  have e2 : (a * a * r) * (b * b * r) = (a * b * r) * (a * b * r) := by
    simp only [Int.mul_assoc, Int.mul_comm, Int.mul_left_comm]
  rw [e1, e2] at l1
  have l2 : (a * b * r) * (a * b * r) < (s * t) * (s * t) := by
    have h3 : (a * b * r) * (a * b * r) ≤ (a * b * r) * (s * t) := Int.mul_le_mul_of_nonneg_left (Int.le_of_lt z) e0
    have h4 : (a * b * r) * (s * t) < (s * t) * (s * t) := Int.mul_lt_mul_of_pos_right z (by omega)
    omega
  omega
theorem sq_mul_lt {s t a b r : Int} (hs : 0 ≤ s) (ht : 0 ≤ t) (ha : 0 ≤ a) (hb : 0 ≤ b) (hr : 0 ≤ r) (h1 : a * a * r < s * s) (h2 : b * b * r < t * t) : a * b * r < s * t := by
  refine Int.not_le.mp fun z => ?_
  have e0 : 0 ≤ s * t := Int.mul_nonneg hs ht
  have p1 : 0 ≤ a * a * r := Int.mul_nonneg (sqn a) hr
  have p2 : 0 ≤ b * b * r := Int.mul_nonneg (sqn b) hr
  have l1 : (a * a * r) * (b * b * r) < (s * s) * (t * t) := by
    have h3 : (a * a * r) * (b * b * r) ≤ (a * a * r) * (t * t) := Int.mul_le_mul_of_nonneg_left (Int.le_of_lt h2) p1
    have h4 : (a * a * r) * (t * t) < (s * s) * (t * t) := Int.mul_lt_mul_of_pos_right h1 (by omega)
    omega
  have e1 : (s * s) * (t * t) = (s * t) * (s * t) := by
    simp only [Int.mul_assoc, Int.mul_comm, Int.mul_left_comm]
  have e2 : (a * a * r) * (b * b * r) = (a * b * r) * (a * b * r) := by
    simp only [Int.mul_assoc, Int.mul_comm, Int.mul_left_comm]
  rw [e1, e2] at l1
  have := Int.mul_self_le_mul_self e0 z
  omega
theorem sq_add (a b : Int) : (a + b) * (a + b) = a * a + 2 * (a * b) + b * b := by
  rw [Int.add_mul, Int.mul_add, Int.mul_add, Int.mul_comm b a]; omega
theorem sqr_add (a b r : Int) : (a + b) * (a + b) * r = a * a * r + 2 * (a * b * r) + b * b * r := by
  rw [sq_add, Int.add_mul, Int.add_mul]
  have : 2 * (a * b) * r = 2 * (a * b * r) := Int.mul_assoc _ _ _
  omega
section
variable {a b r : Int}
theorem isq_sup (ha : 0 ≤ a) (hb : 0 ≤ b) (hr : 0 ≤ r) : isq (a * a * r) + isq (b * b * r) ≤ isq ((a + b) * (a + b) * r) := by
  have hA := Int.mul_nonneg (sqn a) hr
  have hB := Int.mul_nonneg (sqn b) hr
  have hC := Int.mul_nonneg (sqn (a + b)) hr
  obtain ⟨s0, s1, s2⟩ := isq_spec hA
  obtain ⟨t0, t1, t2⟩ := isq_spec hB
  refine Int.not_lt.mp fun z => ?_
  have := (isq_lt_iff hC (by omega)).mp z
  have m := sq_mul_le s0 t0 ha hb hr s1 t1
  rw [sqr_add, sq_add] at this
  omega
theorem isq_sub (ha : 0 ≤ a) (hb : 0 ≤ b) (hr : 0 ≤ r) : isq ((a + b) * (a + b) * r) ≤ isq (a * a * r) + isq (b * b * r) + 1 := by
  have hA := Int.mul_nonneg (sqn a) hr
  have hB := Int.mul_nonneg (sqn b) hr
  have hC := Int.mul_nonneg (sqn (a + b)) hr
  obtain ⟨s0, s1, s2⟩ := isq_spec hA
  obtain ⟨t0, t1, t2⟩ := isq_spec hB
  have m := sq_mul_lt (s := isq (a * a * r) + 1) (t := isq (b * b * r) + 1) (by omega) (by omega) ha hb hr s2 t2
  have : isq ((a + b) * (a + b) * r) < (isq (a * a * r) + 1) + (isq (b * b * r) + 1) := by
    refine (isq_lt_iff hC (by omega)).mpr ?_
    rw [sqr_add, sq_add]
    omega
  omega
end
theorem fl_neg {q r : Int} (h : q ≠ 0) : fl (-q) r = -(fl q r) - 1 := by
  unfold fl
  rw [Int.neg_mul_neg]
  split <;> split <;> omega
theorem fl_zero {r : Int} : fl 0 r = 0 := by simp [fl, isq, isqN]
theorem fl_nn {q r : Int} (h : 0 ≤ q) : fl q r = isq (q * q * r) := by unfold fl; rw [if_neg (by omega)]
/-- the floor adds up, to one -/
theorem fl_add {a b r : Int} (hr : 0 ≤ r) : fl a r + fl b r ≤ fl (a + b) r ∧ fl (a + b) r ≤ fl a r + fl b r + 1 := by
  have pp : ∀ {a b : Int}, 0 ≤ a → 0 ≤ b → fl a r + fl b r ≤ fl (a + b) r ∧ fl (a + b) r ≤ fl a r + fl b r + 1 := fun {a b} ha hb => by
    rw [fl_nn ha, fl_nn hb, fl_nn (by omega)]
    exact ⟨isq_sup ha hb hr, isq_sub ha hb hr⟩
  have pn : ∀ {a b : Int}, 0 ≤ a → b < 0 → fl a r + fl b r ≤ fl (a + b) r ∧ fl (a + b) r ≤ fl a r + fl b r + 1 := fun {a b} ha hb => by
    have eb := fl_neg (q := -b) (r := r) (by omega)
    rw [Int.neg_neg] at eb
    by_cases hab : 0 ≤ a + b
    · have := pp hab (show 0 ≤ -b by omega)
      rw [show a + b + -b = a by omega] at this
      omega
    · have := pp ha (show 0 ≤ -(a + b) by omega)
      rw [show a + -(a + b) = -b by omega] at this
      have e2 := fl_neg (q := -(a + b)) (r := r) (by omega)
      rw [Int.neg_neg] at e2
      omega
  by_cases ha : 0 ≤ a
  · by_cases hb : 0 ≤ b
    · exact pp ha hb
    · exact pn ha (by omega)
  · by_cases hb : 0 ≤ b
    · have := pn hb (show a < 0 by omega)
      rw [Int.add_comm b a] at this
      omega
    · have := pp (show 0 ≤ -a by omega) (show 0 ≤ -b by omega)
      have ea := fl_neg (q := -a) (r := r) (by omega)
      have eb := fl_neg (q := -b) (r := r) (by omega)
      have ec := fl_neg (q := -a + -b) (r := r) (by omega)
      rw [Int.neg_neg] at ea eb
      rw [show -(-a + -b) = a + b by omega] at ec
      omega
/-- a rate above 0 shows 1 behind 2|p| + 1 days -/
theorem grow {p q r : Int} (hr : 0 < r) (hs : NoSq r) (h : -p + fl (-q) r < 0) : 1 ≤ (2 * (p.natAbs : Int) + 1) * p + fl ((2 * (p.natAbs : Int) + 1) * q) r := by
  have hr0 : 0 ≤ r := Int.le_of_lt hr
  generalize hk : 2 * (p.natAbs : Int) + 1 = k
  have k1 : 1 ≤ k := by omega
  by_cases q0 : q = 0
  · subst q0
    rw [Int.neg_zero, fl_zero] at h
    rw [Int.mul_zero, fl_zero]
    have : 1 * p ≤ k * p := Int.mul_le_mul_of_nonneg_right k1 (by omega)
    omega
  · have hN := hs.ne (p := p) q0
    have hqr : 0 ≤ q * q * r := Int.mul_nonneg (sqn q) hr0
    have eN : (k * q) * (k * q) * r = (k * k) * (q * q * r) := by
      simp only [Int.mul_assoc, Int.mul_comm, Int.mul_left_comm]
    have kk : 0 ≤ k * k := sqn k
    have hNk : 0 ≤ (k * q) * (k * q) * r := Int.mul_nonneg (sqn _) hr0
    have ek : ∀ x : Int, (k * x) * (k * x) = k * k * (x * x) := fun x => by simp only [Int.mul_assoc, Int.mul_comm, Int.mul_left_comm]
    by_cases hq : 0 < q
    · rw [fl_nn (Int.mul_nonneg (by omega) (by omega))]
      have hi := isq_nonneg ((k * q) * (k * q) * r)
      by_cases hp : 0 < p
      · have : 1 * p ≤ k * p := Int.mul_le_mul_of_nonneg_right k1 (by omega)
        omega
      · -- p ≤ 0 < q: q²r > p²
        have h1 : isq (q * q * r) ≥ -p := by
          rw [fl_neg q0, fl_nn (by omega)] at h
          omega
        have h2 : (-p) * (-p) ≤ q * q * r := by
          obtain ⟨s0, s1, s2⟩ := isq_spec hqr
          have := sq_le (show 0 ≤ -p by omega) h1
          omega
        rw [Int.neg_mul_neg] at h2
        have h3 : p * p + 1 ≤ q * q * r := by omega
        have h4 : k * k * (p * p + 1) ≤ k * k * (q * q * r) := Int.mul_le_mul_of_nonneg_left h3 kk
        refine Int.not_lt.mp fun z => ?_
        have h5 : isq ((k * q) * (k * q) * r) < k * (-p) + 1 := by rw [Int.mul_neg]; omega
        have hkp : 0 ≤ k * (-p) := Int.mul_nonneg (by omega) (by omega)
        have h6 := (isq_lt_iff hNk (by omega)).mp h5
        rw [eN, sq_add, ek, Int.neg_mul_neg, Int.mul_one, Int.mul_one] at h6
        rw [Int.mul_add, Int.mul_one] at h4
        -- k² ≥ 2 k a + 1
        have h7 : k * (2 * (-p) + 1) = k * k := by
          have : k = 2 * (-p) + 1 := by omega
          rw [← this]
        rw [Int.mul_add, Int.mul_one, ← Int.mul_assoc, Int.mul_comm k 2, Int.mul_assoc] at h7
        omega
    · -- q < 0 < p: p² > q²r
      have hq' : q < 0 := by omega
      have h1 : isq (q * q * r) < p := by
        have := fl_nn (q := -q) (r := r) (by omega)
        rw [Int.neg_mul_neg] at this
        omega
      have hp : 0 < p := by have := isq_nonneg (q * q * r); omega
      have h2 := (isq_lt_iff hqr (by omega)).mp h1
      have e := fl_neg (q := -(k * q)) (r := r) (by
        intro z
        have : k * q ≠ 0 := Int.mul_ne_zero (by omega) q0
        omega)
      rw [Int.neg_neg] at e
      rw [e, fl_nn (by
        have : k * (-q) ≥ 0 := Int.mul_nonneg (by omega) (by omega)
        rw [Int.mul_neg] at this
        omega), Int.neg_mul_neg]
      have hkp : k * p ≥ 1 * p := Int.mul_le_mul_of_nonneg_right k1 (by omega)
      have h3 : isq ((k * q) * (k * q) * r) < k * p - 1 := by
        refine (isq_lt_iff hNk (by
          have : k * p ≥ 3 * p := Int.mul_le_mul_of_nonneg_right (by omega) (by omega)
          omega)).mpr ?_
        have h4 : k * k * (q * q * r + 1) ≤ k * k * (p * p) := Int.mul_le_mul_of_nonneg_left (by omega) kk
        have e5 : (k * p - 1) * (k * p - 1) = k * k * (p * p) - 2 * (k * p) + 1 := by
          rw [Int.sub_eq_add_neg, sq_add, ek]; omega
        rw [eN, e5]
        rw [Int.mul_add, Int.mul_one] at h4
        have h7 : k * (2 * p + 1) = k * k := by
          have : k = 2 * p + 1 := by omega
          rw [← this]
        rw [Int.mul_add, Int.mul_one, ← Int.mul_assoc, Int.mul_comm k 2, Int.mul_assoc] at h7
        omega
      omega
end Ma

/-! Ma, part 3: bells: what is shown on each day. -/
namespace Ma
/-- a rate that is let: above 0, n at most -/
structure Rate (r n p q : Int) : Prop where
  n0 : 0 < n
  lo : -p + fl (-q) r < 0
  hi : 0 ≤ n - p + fl (-q) r
theorem Rate.inc {r n p q : Int} (h : Rate r n p q) (hr : 0 ≤ r) (P Q : Int) : P + fl Q r ≤ P + p + fl (Q + q) r ∧ P + p + fl (Q + q) r ≤ P + fl Q r + n := by
  obtain ⟨n0, lo, hi⟩ := h
  by_cases q0 : q = 0
  · subst q0
    rw [Int.neg_zero, fl_zero] at lo hi
    rw [Int.add_zero]; omega
  · have a := fl_add (a := Q) (b := q) hr
    rw [fl_neg q0] at lo hi
    omega
theorem ediv_step {X Y n : Int} (hn : 0 < n) (h1 : X ≤ Y) (h2 : Y ≤ X + n) : X / n ≤ Y / n ∧ Y / n ≤ X / n + 1 := by
  have a := Int.ediv_le_ediv hn h1
  have b := Int.ediv_le_ediv hn h2
  rw [Int.add_ediv_of_dvd_right (Int.dvd_refl n), Int.ediv_self (by omega)] at b
  exact ⟨a, b⟩
/-- what a bell shows on the day d -/
def shown (r n p q s t : Int) (down : Bool) (d : Int) : Int := if down then (s + d * p + fl (t + d * q) r) / n else -((-(s + d * p) + fl (-(t + d * q)) r) / n)
structure Meter (sh : Int → Int) : Prop where
  inc : ∀ d, sh d ≤ sh (d + 1) ∧ sh (d + 1) ≤ sh d + 1
  grow : ∃ T : Int, 1 ≤ T ∧ T ≤ 1000000 ∧ ∀ d, sh d + 1 ≤ sh (d + T)
theorem Meter.mono {sh : Int → Int} (m : Meter sh) {d e : Int} (h : d ≤ e) : sh d ≤ sh e := by
  have : ∀ k : Nat, sh d ≤ sh (d + k) := fun k => by
    induction k with
    | zero => simp
    | succ k ih =>
      have := (m.inc (d + k)).1
      rw [show d + ((k + 1 : Nat) : Int) = d + k + 1 by omega]
      omega
  have := this (e - d).toNat
  rwa [show d + ((e - d).toNat : Int) = e by omega] at this
theorem Meter.grown {sh : Int → Int} (m : Meter sh) : ∃ T : Int, 1 ≤ T ∧ T ≤ 1000000 ∧ ∀ (k : Nat) d, sh d + k ≤ sh (d + k * T) := by
  obtain ⟨T, h1, h2, h3⟩ := m.grow
  refine ⟨T, h1, h2, fun k => ?_⟩
  induction k with
  | zero => intro d; simp
  | succ k ih =>
    intro d
    have a := ih d
    have b := h3 (d + k * T)
    rw [show d + ((k + 1 : Nat) : Int) * T = d + k * T + T by
      rw [show ((k + 1 : Nat) : Int) = (k : Int) + 1 by omega, Int.add_mul]; omega]
    omega
theorem grow_many {r p q : Int} (hr : 0 < r) (hs : NoSq r) (lo : -p + fl (-q) r < 0) (P Q : Int) : ∀ m : Nat, P + fl Q r + m ≤ P + (m * (2 * (p.natAbs : Int) + 1)) * p + fl (Q + (m * (2 * (p.natAbs : Int) + 1)) * q) r
  | 0 => by simp
  | m + 1 => by
    have ih := grow_many hr hs lo P Q m
    have g := grow hr hs lo
    generalize (2 * (p.natAbs : Int) + 1) = k at *
    have e : ∀ x : Int, ((m + 1 : Nat) : Int) * k * x = m * k * x + k * x := fun x => by
      rw [show ((m + 1 : Nat) : Int) = (m : Int) + 1 by omega, Int.add_mul, Int.add_mul, Int.one_mul]
    rw [e p, e q]
    have a := (fl_add (a := Q + m * k * q) (b := k * q) (r := r) (Int.le_of_lt hr)).1
    rw [show Q + (m * k * q + k * q) = Q + m * k * q + k * q by omega]
    have e2 : ((m + 1 : Nat) : Int) = (m : Int) + 1 := by omega
    omega
theorem meter_of {r n p q s t : Int} {down : Bool} (hr : 0 < r) (hs : NoSq r) (h : Rate r n p q) (hn : n ≤ 1000) (hp : p.natAbs ≤ 400) : Meter (shown r n p q s t down) := by
  have hr0 : 0 ≤ r := Int.le_of_lt hr
  have n0 := h.n0
  have ed : ∀ d x : Int, (d + 1) * x = d * x + x := fun d x => by rw [Int.add_mul, Int.one_mul]
  refine ⟨fun d => ?_, n * (2 * (p.natAbs : Int) + 1), ?_, ?_, fun d => ?_⟩
  · unfold shown
    cases down with
    | true =>
      simp only [if_true]
      rw [ed d p, ed d q]
      have i := h.inc hr0 (s + d * p) (t + d * q)
      rw [show s + (d * p + p) = s + d * p + p by omega, show t + (d * q + q) = t + d * q + q by omega]
      exact ediv_step n0 i.1 i.2
    | false =>
      simp only [Bool.false_eq_true, if_false]
      rw [ed d p, ed d q]
      have i := h.inc hr0 (-(s + (d * p + p))) (-(t + (d * q + q)))
      rw [show -(s + (d * p + p)) + p = -(s + d * p) by omega, show -(t + (d * q + q)) + q = -(t + d * q) by omega] at i
      have := ediv_step n0 i.1 i.2
      omega
  · have : 1 * 1 ≤ n * (2 * (p.natAbs : Int) + 1) := Int.mul_le_mul (by omega) (by omega) (by decide) (by omega)
    omega
  · have : n * (2 * (p.natAbs : Int) + 1) ≤ 1000 * 801 := Int.mul_le_mul hn (by omega) (by omega) (by decide)
    omega
  · have en : ((n.toNat : Nat) : Int) = n := Int.toNat_of_nonneg (by omega)
    have ed2 : ∀ k x : Int, (d + k) * x = d * x + k * x := fun k x => Int.add_mul _ _ _
    have one : ∀ {X Y : Int}, X + n ≤ Y → X / n + 1 ≤ Y / n := fun {X Y} z => by
      have := Int.ediv_le_ediv n0 z
      rwa [Int.add_ediv_of_dvd_right (Int.dvd_refl n), Int.ediv_self (by omega)] at this
    unfold shown
    cases down with
    | true =>
      simp only [if_true]
      have g := grow_many hr hs h.lo (s + d * p) (t + d * q) n.toNat
      rw [en] at g
      rw [ed2, ed2, show ∀ x : Int, s + (d * p + x) = s + d * p + x from fun x => by omega, show ∀ x : Int, t + (d * q + x) = t + d * q + x from fun x => by omega]
      exact one g
    | false =>
      simp only [Bool.false_eq_true, if_false]
      generalize hk : n * (2 * (p.natAbs : Int) + 1) = k
      have g := grow_many hr hs h.lo (-(s + (d + k) * p)) (-(t + (d + k) * q)) n.toNat
      rw [en, hk, ed2, ed2, show -(s + (d * p + k * p)) + k * p = -(s + d * p) by omega, show -(t + (d * q + k * q)) + k * q = -(t + d * q) by omega] at g
      have := one g
      rw [ed2, ed2]
      omega
end Ma

/-! Qd: numbers a + b * root, an ordered field -/
namespace Qd
/-- a root: a number above 0 that is no square -/
structure Rt where
  d : Int
  pos : 0 < d
  ns : ∀ k : Int, k * k ≠ d
/-- numbers with a root -/
structure Q (R : Rt) where
  re : Rat
  im : Rat
section
theorem sq_nn (x : Rat) : 0 ≤ x * x := by
  rcases Rat.le_total (a := 0) (b := x) with h | h
  · exact Rat.mul_nonneg h h
  · have := Rat.mul_nonneg (a := -x) (b := -x) (by grind) (by grind)
    grind
theorem mono_sq {x y : Rat} (hx : 0 ≤ x) (h : x ≤ y) : x * x ≤ y * y := by
  have h1 := Rat.mul_le_mul_of_nonneg_left h hx
  have h2 := Rat.mul_le_mul_of_nonneg_right h (show 0 ≤ y by grind)
  grind
theorem mono_lt {x y : Rat} (hx : 0 ≤ x) (h : x < y) : x * x < y * y := by
  have h1 := Rat.mul_le_mul_of_nonneg_left (show x ≤ y by grind) hx
  have h2 := Rat.mul_lt_mul_of_pos_right h (show 0 < y by grind)
  grind
theorem le_of_sq {x y : Rat} (hy : 0 ≤ y) (h : x * x ≤ y * y) : x ≤ y := by
  refine Rat.not_lt.mp fun z => ?_
  have := mono_lt hy z
  grind
theorem lt_of_sq {x y : Rat} (hy : 0 ≤ y) (h : x * x < y * y) : x < y := by
  refine Rat.not_le.mp fun z => ?_
  have := mono_sq hy z
  grind
variable {R : Rt}
abbrev dr (R : Rt) : Rat := (R.d : Rat)
theorem dr_pos : 0 < dr R :=
  Rat.intCast_pos.mpr R.pos
/-- the root is no fraction -/
theorem no_root {a b : Rat} (h : a * a = b * b * dr R) : a = 0 ∧ b = 0 := by
  have hb : b = 0 := by
    refine Classical.byContradiction fun hb => ?_
    have hx : (a / b) * (a / b) = dr R := by grind
    generalize a / b = x at hx
    have hd : (x.den : Rat) ≠ 0 := fun z => x.den_nz (by exact_mod_cast z)
    have hn : (x.num : Rat) = x * (x.den : Rat) := by
      have h1 := Rat.num_divInt_den x
      rw [Rat.divInt_eq_div] at h1
      have h2 : ((x.den : Int) : Rat) = (x.den : Rat) := rfl
      rw [h2] at h1
      generalize (x.num : Rat) = u at *
      generalize (x.den : Rat) = v at *
      grind
    have e : ((x.num * x.num : Int) : Rat) = ((x.den : Int) * (x.den : Int) * R.d : Int) := by
      rw [Rat.intCast_mul, Rat.intCast_mul, Rat.intCast_mul, hn, show (R.d : Rat) = dr R from rfl, ← hx]
      have h2 : ((x.den : Int) : Rat) = (x.den : Rat) := rfl
      rw [h2]
      generalize (x.den : Rat) = v
      grind
    exact Ma.NoSq.ne (r := R.d) R.ns (q := (x.den : Int)) (by have := x.den_nz; omega) (Rat.intCast_inj.mp e)
  subst hb
  refine ⟨?_, rfl⟩
  have : a * a = 0 := by grind
  grind
end
theorem Q.ext {R : Rt} {x y : Q R} (h1 : x.re = y.re) (h2 : x.im = y.im) : x = y := by
  cases x; cases y; simp only at h1 h2; subst h1 h2; rfl
section
variable {R : Rt}
instance : Add (Q R) := ⟨fun x y => ⟨x.re + y.re, x.im + y.im⟩⟩
instance : Neg (Q R) := ⟨fun x => ⟨-x.re, -x.im⟩⟩
instance : Sub (Q R) := ⟨fun x y => ⟨x.re - y.re, x.im - y.im⟩⟩
instance : Mul (Q R) := ⟨fun x y => ⟨x.re * y.re + dr R * x.im * y.im, x.re * y.im + x.im * y.re⟩⟩
instance : NatCast (Q R) := ⟨fun n => ⟨(n : Rat), 0⟩⟩
instance : IntCast (Q R) := ⟨fun n => ⟨(n : Rat), 0⟩⟩
instance (n : Nat) : OfNat (Q R) n := ⟨((n : Nat) : Q R)⟩
instance : SMul Nat (Q R) := ⟨fun n x => ((n : Nat) : Q R) * x⟩
instance : SMul Int (Q R) := ⟨fun n x => ((n : Int) : Q R) * x⟩
def nm (x : Q R) : Rat := x.re * x.re - dr R * (x.im * x.im)
instance : Inv (Q R) := ⟨fun x => ⟨x.re / nm x, -x.im / nm x⟩⟩
instance : Div (Q R) := ⟨fun x y => x * y⁻¹⟩
def npw (x : Q R) : Nat → Q R
  | 0 => 1
  | n + 1 => npw x n * x
instance : HPow (Q R) Nat (Q R) := ⟨npw⟩
def zpw (x : Q R) : Int → Q R
  | .ofNat n => npw x n
  | .negSucc n => (npw x (n + 1))⁻¹
instance : HPow (Q R) Int (Q R) := ⟨zpw⟩
variable {x y z : Q R}
@[simp] theorem add_re : (x + y).re = x.re + y.re := rfl
@[simp] theorem add_im : (x + y).im = x.im + y.im := rfl
@[simp] theorem neg_re : (-x).re = -x.re := rfl
@[simp] theorem neg_im : (-x).im = -x.im := rfl
@[simp] theorem sub_re : (x - y).re = x.re - y.re := rfl
@[simp] theorem sub_im : (x - y).im = x.im - y.im := rfl
@[simp] theorem mul_re : (x * y).re = x.re * y.re + dr R * x.im * y.im := rfl
@[simp] theorem mul_im : (x * y).im = x.re * y.im + x.im * y.re := rfl
@[simp] theorem nat_re {n : Nat} : ((n : Nat) : Q R).re = (n : Rat) := rfl
@[simp] theorem nat_im {n : Nat} : ((n : Nat) : Q R).im = 0 := rfl
@[simp] theorem int_re {n : Int} : ((n : Int) : Q R).re = (n : Rat) := rfl
@[simp] theorem int_im {n : Int} : ((n : Int) : Q R).im = 0 := rfl
theorem ofNat_eq {n : Nat} : (OfNat.ofNat n : Q R) = ((n : Nat) : Q R) := rfl
@[simp] theorem zero_re : (0 : Q R).re = 0 := rfl
@[simp] theorem zero_im : (0 : Q R).im = 0 := rfl
@[simp] theorem one_re : (1 : Q R).re = 1 := rfl
@[simp] theorem one_im : (1 : Q R).im = 0 := rfl
@[simp] theorem inv_re : (x⁻¹).re = x.re / nm x := rfl
@[simp] theorem inv_im : (x⁻¹).im = -x.im / nm x := rfl
theorem nm_ne (h : x ≠ 0) : nm x ≠ 0 := fun z => h (by
  have e : x.re * x.re = x.im * x.im * dr R := by unfold nm at z; grind
  obtain ⟨h1, h2⟩ := no_root e
  exact Q.ext h1 h2)
instance : Lean.Grind.CommRing (Q R) where
  add_zero a := Q.ext (by simp; grind) (by simp; grind)
  add_comm a b := Q.ext (by simp; grind) (by simp; grind)
  add_assoc a b c := Q.ext (by simp; grind) (by simp; grind)
  mul_assoc a b c := Q.ext (by simp; grind) (by simp; grind)
  mul_one a := Q.ext (by simp; grind) (by simp; grind)
  one_mul a := Q.ext (by simp; grind) (by simp; grind)
  mul_comm a b := Q.ext (by simp; grind) (by simp; grind)
  left_distrib a b c := Q.ext (by simp; grind) (by simp; grind)
  right_distrib a b c := Q.ext (by simp; grind) (by simp; grind)
  zero_mul a := Q.ext (by simp; grind) (by simp; grind)
  mul_zero a := Q.ext (by simp; grind) (by simp; grind)
  pow_zero a := rfl
  pow_succ a n := rfl
  ofNat_succ n := Q.ext (by show ((n + 1 : Nat) : Rat) = (n : Rat) + ((1 : Nat) : Rat); exact_mod_cast rfl) (by show (0 : Rat) = 0 + 0; grind)
  ofNat_eq_natCast n := rfl
  nsmul_eq_natCast_mul n a := rfl
  neg_add_cancel a := Q.ext (by simp; grind) (by simp; grind)
  sub_eq_add_neg a b := Q.ext (by simp; grind) (by simp; grind)
  neg_zsmul i a := Q.ext (by show ((-i : Int) : Rat) * a.re + dr R * 0 * a.im = -(((i : Int) : Rat) * a.re + dr R * 0 * a.im); rw [Rat.intCast_neg]; grind) (by show ((-i : Int) : Rat) * a.im + 0 * a.re = -(((i : Int) : Rat) * a.im + 0 * a.re); rw [Rat.intCast_neg]; grind)
  zsmul_natCast_eq_nsmul n a := rfl
  intCast_ofNat n := rfl
  intCast_neg i := Q.ext (by show ((-i : Int) : Rat) = -((i : Int) : Rat); rw [Rat.intCast_neg]) (by show (0 : Rat) = -0; grind)
theorem mul_inv (h : x ≠ 0) : x * x⁻¹ = 1 := by
  have hn := nm_ne h
  refine Q.ext ?_ ?_
  · simp
    have : nm x = x.re * x.re - dr R * (x.im * x.im) := rfl
    generalize nm x = n at *
    grind
  · simp
    have : nm x = x.re * x.re - dr R * (x.im * x.im) := rfl
    generalize nm x = n at *
    grind
theorem inv_zero' : (0 : Q R)⁻¹ = 0 := Q.ext (by show (0 : Rat) / _ = 0; grind) (by show -(0 : Rat) / _ = 0; grind)
theorem zero_ne : (0 : Q R) ≠ 1 := fun z => by
  have : (0 : Rat) = 1 := congrArg Q.re z
  grind
theorem inv_inv' : x⁻¹⁻¹ = x := by
  by_cases h : x = 0
  · subst h; rw [inv_zero', inv_zero']
  · have h1 := mul_inv h
    have h2 : x⁻¹ ≠ 0 := fun z => by rw [z] at h1; exact zero_ne ((Lean.Grind.Semiring.mul_zero x).symm.trans h1)
    have h3 := mul_inv h2
    generalize x⁻¹⁻¹ = u at *
    generalize x⁻¹ = v at *
    have : u = u * (x * v) := by rw [h1]; grind
    rw [this]; grind
instance : Lean.Grind.Field (Q R) where
  div_eq_mul_inv a b := rfl
  zero_ne_one := zero_ne
  inv_zero := inv_zero'
  mul_inv_cancel h := mul_inv h
  zpow_zero a := rfl
  zpow_succ a n := rfl
  zpow_neg a n := by
    cases n with
    | ofNat n => cases n with
      | zero => show npw a 0 = (npw a 0)⁻¹; exact Q.ext (by show (1 : Rat) = 1 / nm (1 : Q R); simp [nm]; grind) (by show (0 : Rat) = -0 / nm (1 : Q R); simp [nm]; grind)
      | succ n => rfl
    | negSucc n => show npw a (n + 1) = ((npw a (n + 1))⁻¹)⁻¹; rw [inv_inv']
/-! ### the order -/
/-- not below 0 -/
def Nn (x : Q R) : Prop := (0 ≤ x.re ∧ 0 ≤ x.im) ∨ (0 ≤ x.re ∧ x.im ≤ 0 ∧ dr R * (x.im * x.im) ≤ x.re * x.re) ∨ (x.re ≤ 0 ∧ 0 ≤ x.im ∧ x.re * x.re ≤ dr R * (x.im * x.im))
theorem prod_le {a b c d r : Rat} (ha : 0 ≤ a) (hb : 0 ≤ b) (hc : 0 ≤ c) (hd : 0 ≤ d) (hr : 0 < r) (h1 : a * a ≤ r * (b * b)) (h2 : c * c ≤ r * (d * d)) : a * c ≤ r * (b * d) := by
  have bd := Rat.mul_nonneg hb hd
  have e1 : (a * c) * (a * c) ≤ (r * (b * d)) * (r * (b * d)) := by
    have t1 : (a * a) * (c * c) ≤ (r * (b * b)) * (c * c) := Rat.mul_le_mul_of_nonneg_right h1 (sq_nn c)
    have t2 : (r * (b * b)) * (c * c) ≤ (r * (b * b)) * (r * (d * d)) := Rat.mul_le_mul_of_nonneg_left h2 (Rat.mul_nonneg (by grind) (sq_nn b))
    grind
  exact le_of_sq (Rat.mul_nonneg (by grind) bd) e1
theorem prod_le' {a b c d r : Rat} (ha : 0 ≤ a) (hb : 0 ≤ b) (hc : 0 ≤ c) (hd : 0 ≤ d) (hr : 0 < r) (h1 : r * (b * b) ≤ a * a) (h2 : r * (d * d) ≤ c * c) : r * (b * d) ≤ a * c := by
  have ac := Rat.mul_nonneg ha hc
  have e1 : (r * (b * d)) * (r * (b * d)) ≤ (a * c) * (a * c) := by
    have t1 : (r * (b * b)) * (r * (d * d)) ≤ (a * a) * (r * (d * d)) := Rat.mul_le_mul_of_nonneg_right h1 (Rat.mul_nonneg (by grind) (sq_nn d))
    have t2 : (a * a) * (r * (d * d)) ≤ (a * a) * (c * c) := Rat.mul_le_mul_of_nonneg_left h2 (sq_nn a)
    grind
  exact le_of_sq ac e1
theorem Nn.scale {q : Rat} (hq : 0 ≤ q) (h : Nn x) : Nn (⟨q * x.re, q * x.im⟩ : Q R) := by
  have qq := sq_nn q
  rcases h with ⟨h1, h2⟩ | ⟨h1, h2, h3⟩ | ⟨h1, h2, h3⟩
  · exact .inl ⟨Rat.mul_nonneg hq h1, Rat.mul_nonneg hq h2⟩
  · refine .inr (.inl ⟨Rat.mul_nonneg hq h1, ?_, ?_⟩)
    · have := Rat.mul_nonneg hq (show 0 ≤ -x.im by grind); show q * x.im ≤ 0; grind
    · have := Rat.mul_le_mul_of_nonneg_left h3 qq; show dr R * ((q * x.im) * (q * x.im)) ≤ (q * x.re) * (q * x.re); grind
  · refine .inr (.inr ⟨?_, Rat.mul_nonneg hq h2, ?_⟩)
    · have := Rat.mul_nonneg hq (show 0 ≤ -x.re by grind); show q * x.re ≤ 0; grind
    · have := Rat.mul_le_mul_of_nonneg_left h3 qq; show (q * x.re) * (q * x.re) ≤ dr R * ((q * x.im) * (q * x.im)); grind
/-- times the root -/
theorem Nn.root (h : Nn x) : Nn (⟨dr R * x.im, x.re⟩ : Q R) := by
  have hd := dr_pos (R := R)
  have hd' : 0 ≤ dr R := by grind
  rcases h with ⟨h1, h2⟩ | ⟨h1, h2, h3⟩ | ⟨h1, h2, h3⟩
  · exact .inl ⟨Rat.mul_nonneg hd' h2, h1⟩
  · refine .inr (.inr ⟨?_, h1, ?_⟩)
    · have := Rat.mul_nonneg hd' (show 0 ≤ -x.im by grind); show dr R * x.im ≤ 0; grind
    · have := Rat.mul_le_mul_of_nonneg_left h3 hd'; show (dr R * x.im) * (dr R * x.im) ≤ dr R * (x.re * x.re); grind
  · refine .inr (.inl ⟨Rat.mul_nonneg hd' h2, h1, ?_⟩)
    have := Rat.mul_le_mul_of_nonneg_left h3 hd'; show dr R * (x.re * x.re) ≤ (dr R * x.im) * (dr R * x.im); grind
theorem Nn.total (x : Q R) : Nn x ∨ Nn (-x) := by
  unfold Nn
  simp only [neg_re, neg_im]
  rcases Rat.le_total (a := 0) (b := x.re) with h1 | h1 <;> rcases Rat.le_total (a := 0) (b := x.im) with h2 | h2 <;> rcases Rat.le_total (a := dr R * (x.im * x.im)) (b := x.re * x.re) with h3 | h3 <;> grind
theorem Nn.anti (h : Nn x) (h' : Nn (-x)) : x = 0 := by
  have e : x.re * x.re = x.im * x.im * dr R := by
    have hA := sq_nn x.re
    have hB := Rat.mul_nonneg (show 0 ≤ dr R by have := dr_pos (R := R); grind) (sq_nn x.im)
    unfold Nn at h h'
    simp only [neg_re, neg_im] at h'
    have z1 : x.re = 0 → x.re * x.re = 0 := fun z => by rw [z]; grind
    have z2 : x.im = 0 → dr R * (x.im * x.im) = 0 := fun z => by rw [z]; grind
    rcases h with ⟨h1, h2⟩ | ⟨h1, h2, h3⟩ | ⟨h1, h2, h3⟩ <;> rcases h' with ⟨k1, k2⟩ | ⟨k1, k2, k3⟩ | ⟨k1, k2, k3⟩ <;> grind
  obtain ⟨h1, h2⟩ := no_root e
  exact Q.ext h1 h2
theorem nn_zero : Nn (0 : Q R) := .inl ⟨by simp, by simp⟩
theorem add12 {a b c e r : Rat} (hr : 0 < r) (ha : 0 ≤ a) (hb : 0 ≤ b) (hc : 0 ≤ c) (he : e ≤ 0) (h : r * (e * e) ≤ c * c) (hs : b + e ≤ 0) : r * ((b + e) * (b + e)) ≤ (a + c) * (a + c) := by
  have t1 := mono_sq (x := -(b + e)) (y := -e) (by grind) (by grind)
  have t2 := Rat.mul_le_mul_of_nonneg_left t1 (show 0 ≤ r by grind)
  have t3 := mono_sq hc (show c ≤ a + c by grind)
  grind
theorem add13 {a b c e r : Rat} (hr : 0 < r) (ha : 0 ≤ a) (hb : 0 ≤ b) (hc : c ≤ 0) (he : 0 ≤ e) (h : c * c ≤ r * (e * e)) (hs : a + c ≤ 0) : (a + c) * (a + c) ≤ r * ((b + e) * (b + e)) := by
  have t1 := mono_sq (x := -(a + c)) (y := -c) (by grind) (by grind)
  have t3 := mono_sq he (show e ≤ b + e by grind)
  have t2 := Rat.mul_le_mul_of_nonneg_left t3 (show 0 ≤ r by grind)
  grind
theorem add23a {a b c e r : Rat} (hr : 0 < r) (hb : b ≤ 0) (h : r * (b * b) ≤ a * a) (hc : c ≤ 0) (he : 0 ≤ e) (h' : c * c ≤ r * (e * e)) (h1 : 0 ≤ a + c) (h2 : b + e ≤ 0) : r * ((b + e) * (b + e)) ≤ (a + c) * (a + c) := by
  refine Rat.not_lt.mp fun z => ?_
  have := prod_le (a := a + c) (b := -(b + e)) (c := -c) (d := e) (r := r) h1 (by grind) (by grind) he hr (by grind) (by grind)
  grind
theorem add23b {a b c e r : Rat} (hr : 0 < r) (ha : 0 ≤ a) (hb : b ≤ 0) (h : r * (b * b) ≤ a * a) (hc : c ≤ 0) (he : 0 ≤ e) (h' : c * c ≤ r * (e * e)) (h1 : a + c ≤ 0) (h2 : 0 ≤ b + e) : (a + c) * (a + c) ≤ r * ((b + e) * (b + e)) := by
  refine Rat.not_lt.mp fun z => ?_
  have := prod_le' (a := -(a + c)) (b := b + e) (c := a) (d := -b) (r := r) (by grind) h2 ha (by grind) hr (by grind) (by grind)
  grind
theorem add23 (h : 0 ≤ x.re ∧ x.im ≤ 0 ∧ dr R * (x.im * x.im) ≤ x.re * x.re) (h' : y.re ≤ 0 ∧ 0 ≤ y.im ∧ y.re * y.re ≤ dr R * (y.im * y.im)) : Nn (x + y) := by
  have hd := dr_pos (R := R)
  obtain ⟨h1, h2, h3⟩ := h
  obtain ⟨k1, k2, k3⟩ := h'
  rcases Rat.le_total (a := 0) (b := x.re + y.re) with s1 | s1 <;> rcases Rat.le_total (a := 0) (b := x.im + y.im) with s2 | s2
  · exact .inl ⟨s1, s2⟩
  · exact .inr (.inl ⟨s1, s2, add23a hd h2 h3 k1 k2 k3 s1 s2⟩)
  · exact .inr (.inr ⟨s1, s2, add23b hd h1 h2 h3 k1 k2 k3 s1 s2⟩)
  · have t1 := mono_sq (x := x.re) (y := -y.re) h1 (by grind)
    have t2 := mono_sq (x := y.im) (y := -x.im) k2 (by grind)
    have t3 := Rat.mul_le_mul_of_nonneg_left t2 (show 0 ≤ dr R by grind)
    have e1 : x.re * x.re = x.im * x.im * dr R := by grind
    have e2 : y.re * y.re = y.im * y.im * dr R := by grind
    obtain ⟨a1, a2⟩ := no_root e1
    obtain ⟨b1, b2⟩ := no_root e2
    exact .inl ⟨by simp; grind, by simp; grind⟩
theorem Nn.add (h : Nn x) (h' : Nn y) : Nn (x + y) := by
  have hd := dr_pos (R := R)
  have c12 : ∀ {x y : Q R}, (0 ≤ x.re ∧ 0 ≤ x.im) → (0 ≤ y.re ∧ y.im ≤ 0 ∧ dr R * (y.im * y.im) ≤ y.re * y.re) → Nn (x + y) := fun {x y} ⟨h1, h2⟩ ⟨k1, k2, k3⟩ => by
    rcases Rat.le_total (a := 0) (b := x.im + y.im) with s | s
    · exact .inl ⟨by simp; grind, s⟩
    · exact .inr (.inl ⟨by simp; grind, s, add12 hd h1 h2 k1 k2 k3 s⟩)
  have c13 : ∀ {x y : Q R}, (0 ≤ x.re ∧ 0 ≤ x.im) → (y.re ≤ 0 ∧ 0 ≤ y.im ∧ y.re * y.re ≤ dr R * (y.im * y.im)) → Nn (x + y) := fun {x y} ⟨h1, h2⟩ ⟨k1, k2, k3⟩ => by
    rcases Rat.le_total (a := 0) (b := x.re + y.re) with s | s
    · exact .inl ⟨s, by simp; grind⟩
    · exact .inr (.inr ⟨s, by simp; grind, add13 hd h1 h2 k1 k2 k3 s⟩)
  have cm : ∀ {x y : Q R}, Nn (y + x) → Nn (x + y) := fun {x y} z => by
    have : x + y = y + x := Q.ext (by simp; grind) (by simp; grind)
    rw [this]; exact z
  rcases h with h | h | h <;> rcases h' with k | k | k
  · exact .inl ⟨by simp; grind, by simp; grind⟩
  · exact c12 h k
  · exact c13 h k
  · exact cm (c12 k h)
  · obtain ⟨h1, h2, h3⟩ := h
    obtain ⟨k1, k2, k3⟩ := k
    have := prod_le' (a := x.re) (b := -x.im) (c := y.re) (d := -y.im) (r := dr R) h1 (by grind) k1 (by grind) hd (by grind) (by grind)
    exact .inr (.inl ⟨by simp; grind, by simp; grind, by simp; grind⟩)
  · exact add23 h k
  · exact cm (c13 k h)
  · exact cm (add23 k h)
  · obtain ⟨h1, h2, h3⟩ := h
    obtain ⟨k1, k2, k3⟩ := k
    have := prod_le (a := -x.re) (b := x.im) (c := -y.re) (d := y.im) (r := dr R) (by grind) h2 (by grind) k2 hd (by grind) (by grind)
    exact .inr (.inr ⟨by simp; grind, by simp; grind, by simp; grind⟩)
theorem Nn.mul (h : Nn x) (h' : Nn y) : Nn (x * y) := by
  have hd := dr_pos (R := R)
  have hd' : 0 ≤ dr R := by grind
  have c1 : ∀ {x y : Q R}, (0 ≤ x.re ∧ 0 ≤ x.im) → Nn y → Nn (x * y) := fun {x y} ⟨h1, h2⟩ k => by
    have z := (k.scale h1).add (k.root.scale h2)
    have e : x * y = (⟨x.re * y.re, x.re * y.im⟩ : Q R) + (⟨x.im * (dr R * y.im), x.im * y.re⟩ : Q R) := Q.ext (by simp; grind) (by simp)
    rw [e]; exact z
  have cm : ∀ {x y : Q R}, Nn (y * x) → Nn (x * y) := fun {x y} z => by
    have : x * y = y * x := Q.ext (by simp; grind) (by simp; grind)
    rw [this]; exact z
  have pp : ∀ {a b : Rat}, 0 ≤ a → b ≤ 0 → a * b ≤ 0 := fun {a b} h1 h2 => by have := Rat.mul_nonneg h1 (show 0 ≤ -b by grind); grind
  have qq : ∀ {a b : Rat}, a ≤ 0 → b ≤ 0 → 0 ≤ a * b := fun {a b} h1 h2 => by have := Rat.mul_nonneg (show 0 ≤ -a by grind) (show 0 ≤ -b by grind); grind
  rcases h with h | h | h
  · exact c1 h h'
  · rcases h' with k | k | k
    · exact cm (c1 k (.inr (.inl h)))
    · obtain ⟨h1, h2, h3⟩ := h
      obtain ⟨k1, k2, k3⟩ := k
      have a1 := Rat.mul_nonneg h1 k1
      have a2 := Rat.mul_nonneg hd' (qq h2 k2)
      have a3 := pp h1 k2
      have a4 := pp k1 h2
      have a5 := Rat.mul_nonneg (show 0 ≤ x.re * x.re - dr R * (x.im * x.im) by grind) (show 0 ≤ y.re * y.re - dr R * (y.im * y.im) by grind)
      exact .inr (.inl ⟨by simp; grind, by simp; grind, by simp; grind⟩)
    · obtain ⟨h1, h2, h3⟩ := h
      obtain ⟨k1, k2, k3⟩ := k
      have a1 := pp h1 k1
      have a2 := Rat.mul_nonneg hd' (show 0 ≤ -(x.im * y.im) by have := pp k2 h2; grind)
      have a3 := Rat.mul_nonneg h1 k2
      have a4 := qq h2 k1
      have a5 := Rat.mul_nonneg (show 0 ≤ x.re * x.re - dr R * (x.im * x.im) by grind) (show 0 ≤ dr R * (y.im * y.im) - y.re * y.re by grind)
      exact .inr (.inr ⟨by simp; grind, by simp; grind, by simp; grind⟩)
  · rcases h' with k | k | k
    · exact cm (c1 k (.inr (.inr h)))
    · obtain ⟨h1, h2, h3⟩ := h
      obtain ⟨k1, k2, k3⟩ := k
      have a1 := pp k1 h1
      have a2 := Rat.mul_nonneg hd' (show 0 ≤ -(x.im * y.im) by have := pp h2 k2; grind)
      have a3 := Rat.mul_nonneg h2 k1
      have a4 := qq h1 k2
      have a5 := Rat.mul_nonneg (show 0 ≤ dr R * (x.im * x.im) - x.re * x.re by grind) (show 0 ≤ y.re * y.re - dr R * (y.im * y.im) by grind)
      exact .inr (.inr ⟨by simp; grind, by simp; grind, by simp; grind⟩)
    · obtain ⟨h1, h2, h3⟩ := h
      obtain ⟨k1, k2, k3⟩ := k
      have a1 := qq h1 k1
      have a2 := Rat.mul_nonneg hd' (Rat.mul_nonneg h2 k2)
      have a3 := pp k2 h1
      have a4 := pp h2 k1
      have a5 := Rat.mul_nonneg (show 0 ≤ dr R * (x.im * x.im) - x.re * x.re by grind) (show 0 ≤ dr R * (y.im * y.im) - y.re * y.re by grind)
      exact .inr (.inl ⟨by simp; grind, by simp; grind, by simp; grind⟩)
instance : LE (Q R) := ⟨fun x y => Nn (y - x)⟩
instance : LT (Q R) := ⟨fun x y => x ≤ y ∧ ¬ y ≤ x⟩
theorem le_def : x ≤ y ↔ Nn (y - x) := Iff.rfl
instance : Std.IsLinearOrder (Q R) where
  le_refl a := by
    show Nn (a - a)
    have : a - a = 0 := by grind
    rw [this]; exact nn_zero
  le_trans a b c h1 h2 := by
    have z := Nn.add (le_def.mp h1) (le_def.mp h2)
    have : b - a + (c - b) = c - a := by grind
    rw [this] at z; exact z
  le_antisymm a b h1 h2 := by
    have e : -(b - a) = a - b := by grind
    have := Nn.anti (le_def.mp h1) (by rw [e]; exact h2)
    grind
  le_total a b := by
    have e : -(b - a) = a - b := by grind
    have := Nn.total (b - a)
    rw [e] at this; exact this
instance : Std.LawfulOrderLT (Q R) where
  lt_iff a b := Iff.rfl
instance : Lean.Grind.OrderedRing (Q R) where
  add_le_left_iff {a b} c := by
    show Nn (b - a) ↔ Nn (b + c - (a + c))
    have : b + c - (a + c) = b - a := by grind
    rw [this]
  zero_lt_one := by
    refine ⟨.inl ⟨by simp [Rat.sub_eq_add_neg]; grind, by simp [Rat.sub_eq_add_neg]; grind⟩, fun z => ?_⟩
    have z' : Nn (-(1 - 0 : Q R)) := by
      have : -(1 - 0 : Q R) = 0 - 1 := by grind
      rw [this]; exact z
    have := Nn.anti (x := (1 - 0 : Q R)) (.inl ⟨by simp [Rat.sub_eq_add_neg]; grind, by simp [Rat.sub_eq_add_neg]; grind⟩) z'
    exact zero_ne (R := R) (show (0 : Q R) = 1 by grind)
  mul_lt_mul_of_pos_left {a b c} h1 h2 := by
    have ha : a ≠ b := fun z => by subst z; exact h1.2 h1.1
    have hc : c ≠ 0 := fun z => by subst z; exact h2.2 h2.1
    have z1 : Nn (c * b - c * a) := by
      have := Nn.mul (le_def.mp h2.1) (le_def.mp h1.1)
      have e : (c - 0) * (b - a) = c * b - c * a := by grind
      rw [e] at this; exact this
    refine ⟨z1, fun z => ?_⟩
    have e : -(c * b - c * a) = c * a - c * b := by grind
    have q := Nn.anti z1 (by rw [e]; exact z)
    have q2 : c * (b - a) = 0 := by grind
    have q3 := mul_inv hc
    have : b - a = 0 := by
      have : b - a = (c * c⁻¹) * (b - a) := by rw [q3]; grind
      grind
    exact ha (by grind)
  mul_lt_mul_of_pos_right {a b c} h1 h2 := by
    have ha : a ≠ b := fun z => by subst z; exact h1.2 h1.1
    have hc : c ≠ 0 := fun z => by subst z; exact h2.2 h2.1
    have z1 : Nn (b * c - a * c) := by
      have := Nn.mul (le_def.mp h2.1) (le_def.mp h1.1)
      have e : (c - 0) * (b - a) = b * c - a * c := by grind
      rw [e] at this; exact this
    refine ⟨z1, fun z => ?_⟩
    have e : -(b * c - a * c) = a * c - b * c := by grind
    have q := Nn.anti z1 (by rw [e]; exact z)
    have q2 : c * (b - a) = 0 := by grind
    have q3 := mul_inv hc
    have : b - a = 0 := by
      have : b - a = (c * c⁻¹) * (b - a) := by rw [q3]; grind
      grind
    exact ha (by grind)
example (a b c : Q R) (h : a < b) (h2 : 0 < c) : 2 * a < 2 * b + c := by grind
end
end Qd

/-! Qb: ints beside the field -/
namespace Qd
open Ma
section
variable {R : Rt}
def rt : Q R := ⟨0, 1⟩
def ev (R : Rt) (p q : Int) : Q R := ⟨(p : Rat), (q : Rat)⟩
theorem rt_sq : (rt : Q R) * rt = (R.d : Q R) := Q.ext (by simp [rt, dr]; grind) (by simp [rt]; grind)
theorem ev_eq (p q : Int) : ev R p q = (p : Q R) + (q : Q R) * rt := Q.ext (by simp [ev, rt]; grind) (by simp [ev, rt]; grind)
theorem ev_int (p : Int) : ev R p 0 = (p : Q R) := Q.ext (by simp [ev]) (by simp [ev])
theorem ev_add (p q s t : Int) : ev R (p + s) (q + t) = ev R p q + ev R s t := Q.ext (by simp [ev, Rat.intCast_add]) (by simp [ev, Rat.intCast_add])
theorem ev_neg (p q : Int) : ev R (-p) (-q) = -ev R p q := Q.ext (by simp [ev, Rat.intCast_neg]) (by simp [ev, Rat.intCast_neg])
theorem ev_mul (p q s t : Int) : ev R (p * s + R.d * (q * t)) (p * t + q * s) = ev R p q * ev R s t := Q.ext (by simp [ev, Rat.intCast_add, Rat.intCast_mul, dr]; grind) (by simp [ev, Rat.intCast_add, Rat.intCast_mul])
theorem ev_smul (k p q : Int) : ev R (k * p) (k * q) = (k : Q R) * ev R p q := Q.ext (by simp [ev, Rat.intCast_mul]; grind) (by simp [ev, Rat.intCast_mul]; grind)
theorem ev_inj {p q s t : Int} (h : ev R p q = ev R s t) : p = s ∧ q = t :=
  ⟨Rat.intCast_inj.mp (congrArg Q.re h), Rat.intCast_inj.mp (congrArg Q.im h)⟩
theorem ev_zero {p q : Int} : ev R p q = 0 ↔ p = 0 ∧ q = 0 := by
  constructor
  · intro h
    rw [show (0 : Q R) = ev R 0 0 from Q.ext (by simp [ev]) (by simp [ev])] at h
    exact ev_inj h
  · rintro ⟨rfl, rfl⟩
    exact Q.ext (by simp [ev]) (by simp [ev])
theorem nosq (R : Rt) : NoSq R.d := R.ns
theorem nn_ev {p q : Int} : (0 : Q R) ≤ ev R p q ↔ 0 ≤ p + fl q R.d := by
  have u := under_iff (p := p) (q := q) R.pos (nosq R)
  have e : (0 : Q R) ≤ ev R p q ↔ ¬ under p q R.d := by
    rw [le_def, show ev R p q - 0 = ev R p q by grind]
    have a1 : (0 : Rat) ≤ (p : Rat) ↔ 0 ≤ p := Rat.intCast_nonneg
    have a2 : (0 : Rat) ≤ (q : Rat) ↔ 0 ≤ q := Rat.intCast_nonneg
    have a3 : (p : Rat) ≤ 0 ↔ p ≤ 0 := Rat.intCast_nonpos
    have a4 : (q : Rat) ≤ 0 ↔ q ≤ 0 := Rat.intCast_nonpos
    have b1 : dr R * ((q : Rat) * (q : Rat)) ≤ (p : Rat) * (p : Rat) ↔ q * q * R.d ≤ p * p := by
      rw [← Rat.intCast_le_intCast, Rat.intCast_mul, Rat.intCast_mul, Rat.intCast_mul, show dr R * ((q : Rat) * (q : Rat)) = (q : Rat) * q * (R.d : Rat) by grind]
    have b2 : (p : Rat) * (p : Rat) ≤ dr R * ((q : Rat) * (q : Rat)) ↔ p * p ≤ q * q * R.d := by
      rw [← Rat.intCast_le_intCast, Rat.intCast_mul, Rat.intCast_mul, Rat.intCast_mul, show dr R * ((q : Rat) * (q : Rat)) = (q : Rat) * q * (R.d : Rat) by grind]
    simp only [Nn, ev, a1, a2, a3, a4, b1, b2]
    have z0 : q = 0 → q * q * R.d = 0 := fun z => by subst z; simp
    have z1 : p = 0 → p * p = 0 := fun z => by subst z; simp
    have z2 := sqn p
    have z3 : 0 ≤ q * q * R.d := Int.mul_nonneg (sqn q) (Int.le_of_lt R.pos)
    have z4 : p ≠ 0 → 0 < p * p := fun z => by
      have : p * p ≠ 0 := Int.mul_ne_zero z z
      omega
    have z5 : q ≠ 0 → 0 < q * q * R.d := fun z => by
      have h1 : q * q * R.d ≠ 0 := Int.mul_ne_zero (Int.mul_ne_zero z z) (by have := R.pos; omega)
      omega
    unfold under
    generalize q * q * R.d = A at *
    generalize p * p = C at *
    constructor
    · rintro h ⟨h1, h2⟩
      rcases h with h | h | h
      · exact h1 h
      · rcases h2 with h2 | h2
        · omega
        · split at h2 <;> omega
      · rcases h2 with h2 | h2
        · by_cases hp : p = 0
          · omega
          · have := z4 hp; by_cases hq : q = 0
            · have := z0 hq; omega
            · omega
        · split at h2 <;> omega
    · intro h
      by_cases hp : 0 ≤ p
      · by_cases hq : 0 ≤ q
        · exact .inl ⟨hp, hq⟩
        · refine .inr (.inl ⟨hp, by omega, ?_⟩)
          refine Int.not_lt.mp fun z => h ⟨by omega, .inr ?_⟩
          rw [if_neg (by omega)]; omega
      · by_cases hq : 0 ≤ q
        · by_cases hq0 : q = 0
          · exact absurd ⟨by omega, .inl ⟨by omega, by omega⟩⟩ h
          · refine .inr (.inr ⟨by omega, hq, ?_⟩)
            refine Int.not_lt.mp fun z => h ⟨by omega, .inr ?_⟩
            rw [if_pos (by omega)]; omega
        · exact absurd ⟨by omega, .inl ⟨by omega, by omega⟩⟩ h
  rw [e, u]; omega
theorem cast_le {a b : Int} : (a : Q R) ≤ (b : Q R) ↔ a ≤ b := by
  have h := nn_ev (R := R) (p := b - a) (q := 0)
  rw [fl_zero] at h
  have e : ev R (b - a) 0 = (b : Q R) - (a : Q R) := by
    rw [ev_int]
    exact Q.ext (by simp [Rat.intCast_sub]) (by simp; try grind)
  rw [e] at h
  constructor
  · intro z
    have : (0 : Q R) ≤ b - a := by grind
    have := h.mp this
    omega
  · intro z
    have := h.mpr (by omega)
    grind
theorem cast_lt {a b : Int} : (a : Q R) < (b : Q R) ↔ a < b := by
  have h := cast_le (R := R) (a := b) (b := a)
  constructor
  · intro z
    refine Int.not_le.mp fun y => ?_
    have := h.mpr y
    grind
  · intro z
    have := mt h.mp (by omega)
    grind
theorem cast_add (a b : Int) : ((a + b : Int) : Q R) = (a : Q R) + (b : Q R) := Q.ext (by simp [Rat.intCast_add]) (by simp; try grind)
theorem cast_sub (a b : Int) : ((a - b : Int) : Q R) = (a : Q R) - (b : Q R) := Q.ext (by simp [Rat.intCast_sub]) (by simp; try grind)
theorem cast_neg (a : Int) : ((-a : Int) : Q R) = -(a : Q R) := Q.ext (by simp [Rat.intCast_neg]) (by simp)
theorem cast_mul (a b : Int) : ((a * b : Int) : Q R) = (a : Q R) * (b : Q R) := Q.ext (by simp [Rat.intCast_mul]; grind) (by simp; try grind)
theorem cast_one : ((1 : Int) : Q R) = 1 := Q.ext (by simp) (by simp)
theorem cast_zero : ((0 : Int) : Q R) = 0 := Q.ext (by simp) (by simp)
theorem mul_le_r {a b c : Q R} (h : a ≤ b) (hc : 0 ≤ c) : a * c ≤ b * c := by
  have z := Nn.mul (le_def.mp h) (le_def.mp hc)
  rw [show (b - a) * (c - 0) = b * c - a * c by grind] at z
  exact le_def.mpr z
/-- floors -/
theorem floor_le {p q n k : Int} (hn : 0 < n) : k ≤ (p + fl q R.d) / n ↔ (k : Q R) * (n : Q R) ≤ ev R p q := by
  rw [Int.le_ediv_iff_mul_le hn]
  have h := nn_ev (R := R) (p := p - k * n) (q := q)
  have e : ev R (p - k * n) q = ev R p q - (k : Q R) * (n : Q R) := by
    rw [ev_eq, ev_eq, cast_sub, cast_mul]; grind
  rw [e] at h
  constructor
  · intro z
    have := h.mpr (by omega)
    grind
  · intro z
    have := h.mp (by grind)
    omega
theorem floor_lt {p q n k : Int} (hn : 0 < n) : (p + fl q R.d) / n < k ↔ ev R p q < (k : Q R) * (n : Q R) := by
  have h := floor_le (R := R) (p := p) (q := q) (k := k) hn
  constructor
  · intro z
    have := mt h.mpr (by omega)
    grind
  · intro z
    refine Int.not_le.mp fun y => ?_
    have := h.mp y
    grind
theorem pos_ev {p q : Int} : (0 : Q R) < ev R p q ↔ ¬ (0 ≤ -p + fl (-q) R.d) := by
  have h := nn_ev (R := R) (p := -p) (q := -q)
  rw [ev_neg] at h
  rw [← h]
  constructor
  · intro z y; grind
  · intro z; grind
end
end Qd

/-! Qc: triples (p + q * root) / n -/
namespace Qd
open Ma
section
variable {R : Rt}
def vl (R : Rt) (p q n : Int) : Q R := ev R p q * (n : Q R)⁻¹
theorem cast_ne {n : Int} (h : n ≠ 0) : (n : Q R) ≠ 0 := fun z => by
  have e : ev R n 0 = 0 := by rw [ev_int]; exact z
  exact h (ev_zero.mp e).1
theorem cast_pos {n : Int} (h : 0 < n) : (0 : Q R) < (n : Q R) := by
  have := (cast_lt (R := R)).mpr h
  rwa [cast_zero] at this
theorem inv_pos {x : Q R} (h : 0 < x) : 0 < x⁻¹ := by
  have h0 : x ≠ 0 := fun z => by grind
  have h1 := mul_inv h0
  rcases Std.le_total (a := x⁻¹) (b := 0) with h2 | h2
  · exfalso
    have := mul_le_r h2 (c := x) (by grind)
    have e : x⁻¹ * x = 1 := by grind
    rw [e] at this
    grind
  · have : x⁻¹ ≠ 0 := fun z => by rw [z] at h1; grind
    grind
theorem vl_mul {p q n : Int} (h : n ≠ 0) : vl R p q n * (n : Q R) = ev R p q := by
  have := mul_inv (cast_ne (R := R) h)
  unfold vl
  grind
theorem vl_eq {p q n s t m : Int} (h : n ≠ 0) (h' : m ≠ 0) : vl R p q n = vl R s t m ↔ ev R p q * (m : Q R) = ev R s t * (n : Q R) := by
  have a := cast_ne (R := R) h
  have b := cast_ne (R := R) h'
  have c := mul_inv a
  have d := mul_inv b
  unfold vl
  constructor
  · intro z; grind
  · intro z; grind
theorem vl_cof {p q n : Int} (h : n ≠ 0) : vl R (p / cof p q n) (q / cof p q n) (n / cof p q n) = vl R p q n := by
  have c0 := cof_ne (p := p) (q := q) h
  have l := low_of (p := p) (q := q) h
  obtain ⟨d1, d2, d3⟩ := cof_dvd (p := p) (q := q) (n := n)
  have e1 := Int.mul_ediv_cancel' d1
  have e2 := Int.mul_ediv_cancel' d2
  have e3 := Int.mul_ediv_cancel' d3
  rw [vl_eq (by have := l.pos; omega) h]
  generalize p / cof p q n = x at *
  generalize q / cof p q n = y at *
  generalize n / cof p q n = z at *
  generalize cof p q n = c at *
  subst e1 e2 e3
  rw [ev_smul, cast_mul]
  grind
theorem g3_mul (k p q n : Int) : g3 (k * p) (k * q) (k * n) = k.natAbs * g3 p q n := by
  unfold g3
  rw [Int.natAbs_mul, Int.natAbs_mul, Int.natAbs_mul, Nat.gcd_mul_left, Nat.gcd_mul_left]
theorem low_uniq {p q n s t m : Int} (a : Low p q n) (b : Low s t m) (h : vl R p q n = vl R s t m) : p = s ∧ q = t ∧ n = m := by
  have n0 := a.pos
  have m0 := b.pos
  rw [vl_eq (by omega) (by omega)] at h
  rw [show ev R p q * (m : Q R) = (m : Q R) * ev R p q by grind, show ev R s t * (n : Q R) = (n : Q R) * ev R s t by grind, ← ev_smul, ← ev_smul] at h
  obtain ⟨h1, h2⟩ := ev_inj h
  have g := g3_mul m p q n
  rw [h1, h2, show m * n = n * m from Int.mul_comm _ _, g3_mul, a.one, b.one] at g
  have e : n = m := by omega
  subst e
  exact ⟨Int.eq_of_mul_eq_mul_left (by omega) h1, Int.eq_of_mul_eq_mul_left (by omega) h2, rfl⟩
/-- sums -/
theorem vl_add {p q n s t m : Int} (h : n ≠ 0) (h' : m ≠ 0) : vl R (p * m + s * n) (q * m + t * n) (n * m) = vl R p q n + vl R s t m := by
  have a := vl_mul (R := R) (p := p) (q := q) h
  have b := vl_mul (R := R) (p := s) (q := t) h'
  have c := vl_mul (R := R) (p := p * m + s * n) (q := q * m + t * n) (n := n * m) (Int.mul_ne_zero h h')
  rw [ev_eq, cast_add, cast_add, cast_mul, cast_mul, cast_mul, cast_mul, cast_mul] at c
  rw [ev_eq] at a b
  have := cast_ne (R := R) h
  have := cast_ne (R := R) h'
  generalize vl R (p * m + s * n) (q * m + t * n) (n * m) = x at *
  generalize vl R p q n = y at *
  generalize vl R s t m = z at *
  grind
theorem vl_smul {k p q n : Int} : vl R (k * p) (k * q) n = (k : Q R) * vl R p q n := by
  unfold vl
  rw [ev_smul]
  grind
theorem vl_int (k : Int) : vl R k 0 1 = (k : Q R) := by
  have := vl_mul (R := R) (p := k) (q := 0) (n := 1) (by decide)
  rw [cast_one, ev_int] at this
  grind
theorem vl_one : vl R 1 0 1 = 1 := by rw [vl_int, cast_one]
theorem vl_zero : vl R 0 0 1 = 0 := by rw [vl_int, cast_zero]
theorem vl_pos {p q n : Int} (h : 0 < n) : 0 < vl R p q n ↔ 0 < ev R p q := by
  have a := inv_pos (cast_pos (R := R) h)
  have b := vl_mul (R := R) (p := p) (q := q) (n := n) (by omega)
  have c := cast_pos (R := R) h
  constructor
  · intro z
    have := Lean.Grind.OrderedRing.mul_pos z c
    grind
  · intro z
    exact Lean.Grind.OrderedRing.mul_pos z a
/-- the turned number -/
theorem norm_ne {p q : Int} (h : ev R p q ≠ 0) : p * p - R.d * q * q ≠ 0 := by
  intro z
  by_cases hq : q = 0
  · subst hq
    have : p * p = 0 := by simpa using z
    have : p = 0 := by
      refine Classical.byContradiction fun hp => ?_
      exact absurd this (Int.mul_ne_zero hp hp)
    exact h (ev_zero.mpr ⟨this, rfl⟩)
  · refine (nosq R).ne hq (p := p) ?_
    have : R.d * q * q = q * q * R.d := by grind
    omega
theorem vl_inv {p q n : Int} (hn : n ≠ 0) (h : ev R p q ≠ 0) : vl R (n * p) (-n * q) (p * p - R.d * q * q) * vl R p q n = 1 := by
  have N := norm_ne h
  have a := vl_mul (R := R) (p := n * p) (q := -n * q) N
  have b := vl_mul (R := R) (p := p) (q := q) hn
  have s := rt_sq (R := R)
  rw [ev_eq] at a b
  rw [cast_mul, cast_mul, cast_neg, cast_sub, cast_mul, cast_mul, cast_mul] at a
  have n1 := cast_ne (R := R) N
  rw [cast_sub, cast_mul, cast_mul, cast_mul] at n1
  have n2 := cast_ne (R := R) hn
  generalize vl R (n * p) (-n * q) (p * p - R.d * q * q) = x at *
  generalize vl R p q n = y at *
  generalize (rt : Q R) = w at *
  generalize (p : Q R) = P at *
  generalize (q : Q R) = T at *
  generalize (n : Q R) = M at *
  generalize (R.d : Q R) = D at *
  have e : x * y * (M * (P * P - D * T * T)) = M * (P * P - D * T * T) := by grind
  have n3 : M * (P * P - D * T * T) ≠ 0 := fun z => by
    rcases Lean.Grind.Field.of_mul_eq_zero z with z | z
    · exact n2 z
    · exact n1 z
  have := mul_inv n3
  grind
/-- floors of triples -/
theorem vfloor_le {p q n k : Int} (hn : 0 < n) : k ≤ (p + fl q R.d) / n ↔ (k : Q R) ≤ vl R p q n := by
  rw [floor_le hn, ← vl_mul (R := R) (show n ≠ 0 by omega)]
  have c := cast_pos (R := R) hn
  have a := inv_pos c
  have d := mul_inv (cast_ne (R := R) (show n ≠ 0 by omega))
  constructor
  · intro z
    have := mul_le_r z (c := (n : Q R)⁻¹) (by grind)
    rwa [show (k : Q R) * (n : Q R) * (n : Q R)⁻¹ = (k : Q R) by grind, show vl R p q n * (n : Q R) * (n : Q R)⁻¹ = vl R p q n by grind] at this
  · intro z
    exact mul_le_r z (by grind)
theorem vfloor {p q n : Int} (hn : 0 < n) : (((p + fl q R.d) / n : Int) : Q R) ≤ vl R p q n ∧ vl R p q n < (((p + fl q R.d) / n : Int) : Q R) + 1 := by
  refine ⟨(vfloor_le hn).mp (Int.le_refl _), ?_⟩
  have := mt (vfloor_le (R := R) (p := p) (q := q) (n := n) (k := (p + fl q R.d) / n + 1) hn).mpr (by omega)
  rw [cast_add, cast_one] at this
  grind
/-- a rate as a number -/
theorem rate_v {n p q : Int} (h : Rate R.d n p q) : 0 < vl R p q n ∧ vl R p q n ≤ 1 := by
  obtain ⟨n0, lo, hi⟩ := h
  constructor
  · rw [vl_pos n0, pos_ev]; omega
  · have z : (0 : Q R) ≤ ev R (n - p) (-q) := nn_ev.mpr hi
    rw [show n - p = n + -p by omega, show -q = 0 + -q by omega, ev_add, ev_neg, ev_int] at z
    have := vl_mul (R := R) (p := p) (q := q) (n := n) (by omega)
    have c := cast_pos (R := R) n0
    have a := inv_pos c
    have d := mul_inv (cast_ne (R := R) (show n ≠ 0 by omega))
    have := mul_le_r (a := ev R p q) (b := (n : Q R)) (c := (n : Q R)⁻¹) (by grind) (by grind)
    unfold vl
    grind
/-- what a bell shows, as floor or ceiling -/
theorem shown_down {n p q s t d : Int} (hn : 0 < n) {k : Int} : k ≤ shown R.d n p q s t true d ↔ (k : Q R) ≤ vl R s t n + (d : Q R) * vl R p q n := by
  simp only [shown, if_true]
  rw [vfloor_le hn, show vl R (s + d * p) (t + d * q) n = vl R s t n + (d : Q R) * vl R p q n by
    unfold vl; rw [ev_add, ev_smul]; grind]
theorem shown_up {n p q s t d : Int} (hn : 0 < n) {k : Int} : shown R.d n p q s t false d ≤ k ↔ vl R s t n + (d : Q R) * vl R p q n ≤ (k : Q R) := by
  simp only [shown, Bool.false_eq_true, if_false]
  have := vfloor_le (R := R) (p := -(s + d * p)) (q := -(t + d * q)) (n := n) (k := -k) hn
  rw [show vl R (-(s + d * p)) (-(t + d * q)) n = -(vl R s t n + (d : Q R) * vl R p q n) by
    unfold vl; rw [ev_neg, ev_add, ev_smul]; grind, cast_neg] at this
  constructor
  · intro z
    have := this.mp (by omega)
    grind
  · intro z
    have := this.mpr (by grind)
    omega
/-- gaps between a ring and the next one -/
theorem gap_of {n p q s t a b : Int} {dn : Bool} (h : Rate R.d n p q) (h1 : shown R.d n p q s t dn (a + 1) = shown R.d n p q s t dn a + 1) (h2 : shown R.d n p q s t dn b = shown R.d n p q s t dn (a + 1)) (h3 : shown R.d n p q s t dn (b + 1) = shown R.d n p q s t dn b + 1) :
    ((b - a : Int) : Q R) * vl R p q n - vl R p q n < 1 ∧ 1 < ((b - a : Int) : Q R) * vl R p q n + vl R p q n := by
  have n0 := h.n0
  rw [cast_sub]
  cases dn with
  | true =>
    have e1 := (shown_down (R := R) (p := p) (q := q) (s := s) (t := t) (d := a + 1) n0).mp (Int.le_refl _)
    have e2 := mt (shown_down (R := R) (p := p) (q := q) (s := s) (t := t) (d := a) (k := shown R.d n p q s t true a + 1) n0).mpr (by omega)
    have e3 := mt (shown_down (R := R) (p := p) (q := q) (s := s) (t := t) (d := b) (k := shown R.d n p q s t true b + 1) n0).mpr (by omega)
    have e4 := (shown_down (R := R) (p := p) (q := q) (s := s) (t := t) (d := b + 1) n0).mp (Int.le_refl _)
    rw [h3, h2, h1] at e4
    rw [h2, h1] at e3
    rw [h1] at e1
    simp only [cast_add, cast_one] at e1 e2 e3 e4
    constructor <;> grind
  | false =>
    have e1 := mt (shown_up (R := R) (p := p) (q := q) (s := s) (t := t) (d := a + 1) (k := shown R.d n p q s t false a) n0).mpr (by omega)
    have e2 := (shown_up (R := R) (p := p) (q := q) (s := s) (t := t) (d := a) n0).mp (Int.le_refl _)
    have e3 := (shown_up (R := R) (p := p) (q := q) (s := s) (t := t) (d := b) n0).mp (Int.le_refl _)
    have e4 := mt (shown_up (R := R) (p := p) (q := q) (s := s) (t := t) (d := b + 1) (k := shown R.d n p q s t false b) n0).mpr (by omega)
    rw [h2, h1] at e4
    rw [h2, h1] at e3
    simp only [cast_add, cast_one] at e1 e2 e3 e4
    constructor <;> grind
theorem gap_days {r u : Q R} {d g : Int} (r0 : 0 < r) (hu : u * r = 1) (h1 : (d : Q R) ≤ u) (h2 : u < (d : Q R) + 1) (g1 : (g : Q R) * r - r < 1) (g2 : 1 < (g : Q R) * r + r) : g = d ∨ (g = d + 1 ∧ u ≠ (d : Q R)) := by
  have u0 : 0 < u := by
    rcases Std.le_total (a := u) (b := 0) with z | z
    · have := mul_le_r z (c := r) (by grind); grind
    · have : u ≠ 0 := fun y => by rw [y] at hu; grind
      grind
  have a := Lean.Grind.OrderedRing.mul_lt_mul_of_pos_right g1 u0
  have b := Lean.Grind.OrderedRing.mul_lt_mul_of_pos_right g2 u0
  rw [show ((g : Q R) * r - r) * u = (g : Q R) - 1 by grind] at a
  rw [show ((g : Q R) * r + r) * u = (g : Q R) + 1 by grind] at b
  have a' : (g : Q R) - 1 < u := by grind
  have b' : u < (g : Q R) + 1 := by grind
  have c1 : ((g - 1 : Int) : Q R) < ((d + 1 : Int) : Q R) := by rw [cast_sub, cast_add, cast_one]; grind
  have c2 : (d : Q R) < ((g + 1 : Int) : Q R) := by rw [cast_add, cast_one]; grind
  rw [cast_lt] at c1 c2
  by_cases e : g = d
  · exact .inl e
  · have e2 : g = d + 1 := by omega
    refine .inr ⟨e2, fun z => ?_⟩
    rw [e2, cast_add, cast_one] at a'
    grind
end
end Qd

/-! Qg: rings and days without a ring, beside the rate -/
namespace Qd
open Ma
section
variable {R : Rt}
theorem dn_b {n p q s t : Int} (hn : 0 < n) (d : Int) : (shown R.d n p q s t true d : Q R) ≤ vl R s t n + (d : Q R) * vl R p q n ∧ vl R s t n + (d : Q R) * vl R p q n < (shown R.d n p q s t true d : Q R) + 1 := by
  refine ⟨(shown_down hn).mp (Int.le_refl _), ?_⟩
  have := mt (shown_down (R := R) (p := p) (q := q) (s := s) (t := t) (d := d) (k := shown R.d n p q s t true d + 1) hn).mpr (by omega)
  rw [cast_add, cast_one] at this
  grind
theorem up_b {n p q s t : Int} (hn : 0 < n) (d : Int) : vl R s t n + (d : Q R) * vl R p q n ≤ (shown R.d n p q s t false d : Q R) ∧ (shown R.d n p q s t false d : Q R) < vl R s t n + (d : Q R) * vl R p q n + 1 := by
  refine ⟨(shown_up hn).mp (Int.le_refl _), ?_⟩
  have := mt (shown_up (R := R) (p := p) (q := q) (s := s) (t := t) (d := d) (k := shown R.d n p q s t false d - 1) hn).mpr (by omega)
  rw [cast_sub, cast_one] at this
  grind
theorem dull_of {n p q s t a b : Int} {dn : Bool} (hn : 0 < n) (h1 : shown R.d n p q s t dn (a + 1) = shown R.d n p q s t dn a) (h2 : shown R.d n p q s t dn b = shown R.d n p q s t dn (a + 1) + (b - a - 1)) (h3 : shown R.d n p q s t dn (b + 1) = shown R.d n p q s t dn b) :
    ((b - a : Int) : Q R) * (1 - vl R p q n) - (1 - vl R p q n) < 1 ∧ 1 < ((b - a : Int) : Q R) * (1 - vl R p q n) + (1 - vl R p q n) := by
  have c1 := congrArg (fun x : Int => (x : Q R)) h1
  have c2 := congrArg (fun x : Int => (x : Q R)) h2
  have c3 := congrArg (fun x : Int => (x : Q R)) h3
  simp only [cast_add, cast_sub, cast_one] at c1 c2 c3
  rw [cast_sub]
  cases dn with
  | true =>
    have e1 := dn_b (R := R) (p := p) (q := q) (s := s) (t := t) hn a
    have e2 := dn_b (R := R) (p := p) (q := q) (s := s) (t := t) hn (a + 1)
    have e3 := dn_b (R := R) (p := p) (q := q) (s := s) (t := t) hn b
    have e4 := dn_b (R := R) (p := p) (q := q) (s := s) (t := t) hn (b + 1)
    simp only [cast_add, cast_one] at e2 e4
    constructor <;> grind
  | false =>
    have e1 := up_b (R := R) (p := p) (q := q) (s := s) (t := t) hn a
    have e2 := up_b (R := R) (p := p) (q := q) (s := s) (t := t) hn (a + 1)
    have e3 := up_b (R := R) (p := p) (q := q) (s := s) (t := t) hn b
    have e4 := up_b (R := R) (p := p) (q := q) (s := s) (t := t) hn (b + 1)
    simp only [cast_add, cast_one] at e2 e4
    constructor <;> grind
theorem vl_neg {p q n : Int} : vl R (-p) (-q) n = -vl R p q n := by unfold vl; rw [ev_neg]; grind
theorem vl_negs {p q n : Int} (h : n ≠ 0) : vl R (-p) (-q) (-n) = vl R p q n := by
  rw [vl_eq (by omega) h, ev_neg, cast_neg]; grind
theorem vl_sub {p q n s t m : Int} (h : n ≠ 0) (h' : m ≠ 0) : vl R (p * m - s * n) (q * m - t * n) (n * m) = vl R p q n - vl R s t m := by
  have := vl_add (R := R) (p := p) (q := q) (s := -s) (t := -t) h h'
  rw [vl_neg, Int.neg_mul, Int.neg_mul] at this
  rw [Int.sub_eq_add_neg, Int.sub_eq_add_neg, this]; grind
theorem vl_nn {p q n : Int} (h : 0 < n) : 0 ≤ vl R p q n ↔ 0 ≤ ev R p q := by
  have a := inv_pos (cast_pos (R := R) h)
  have b := vl_mul (R := R) (p := p) (q := q) (n := n) (by omega)
  have c := cast_pos (R := R) h
  constructor
  · intro z
    have := mul_le_r z (c := (n : Q R)) (by grind)
    grind
  · intro z
    have := mul_le_r z (c := (n : Q R)⁻¹) (by grind)
    unfold vl
    grind
theorem vl_lt {p q n s t m : Int} (h : 0 < n) (h' : 0 < m) : vl R p q n < vl R s t m ↔ p * m - s * n + fl (q * m - t * n) R.d < 0 := by
  have a := vl_sub (R := R) (p := p) (q := q) (s := s) (t := t) (show n ≠ 0 by omega) (show m ≠ 0 by omega)
  have b := vl_nn (R := R) (p := p * m - s * n) (q := q * m - t * n) (n := n * m) (Int.mul_pos h h')
  have c := nn_ev (R := R) (p := p * m - s * n) (q := q * m - t * n)
  rw [a] at b
  constructor
  · intro z
    refine Int.not_le.mp fun y => ?_
    have := b.mpr (c.mpr y)
    grind
  · intro z
    have : ¬ (0 : Q R) ≤ vl R p q n - vl R s t m := fun y => by
      have := c.mp (b.mp y)
      omega
    grind
/-- the sign, told from p, q alone -/
theorem ev_sgn {p q : Int} : (0 < ev R p q ∧ ¬ (p ≤ 0 ∧ q ≤ 0) ∧ (0 < p ∧ q < 0 → q * q * R.d < p * p) ∧ (p < 0 ∧ 0 < q → p * p < q * q * R.d)) ∨ (ev R p q = 0 ∧ p = 0 ∧ q = 0) ∨
    (ev R p q < 0 ∧ ¬ (0 ≤ p ∧ 0 ≤ q) ∧ (0 < p ∧ q < 0 → p * p < q * q * R.d) ∧ (p < 0 ∧ 0 < q → q * q * R.d < p * p)) := by
  by_cases h0 : p = 0 ∧ q = 0
  · exact .inr (.inl ⟨ev_zero.mpr h0, h0⟩)
  have ne : ev R p q ≠ 0 := fun z => h0 (ev_zero.mp z)
  have h1 := nn_ev (R := R) (p := p) (q := q)
  have u1 := under_iff (p := p) (q := q) R.pos (nosq R)
  have u2 := under_iff (p := -p) (q := -q) R.pos (nosq R)
  have h2 := nn_ev (R := R) (p := -p) (q := -q)
  rw [ev_neg] at h2
  by_cases hz : 0 ≤ ev R p q
  · have hp : 0 < ev R p q := by grind
    have hn : ¬ (0 : Q R) ≤ -ev R p q := by grind
    have := u2.mpr (by have := mt h2.mpr hn; omega)
    unfold under at this
    rw [Int.neg_mul_neg, Int.neg_mul_neg] at this
    obtain ⟨a1, a2⟩ := this
    refine .inl ⟨hp, by omega, fun z => ?_, fun z => ?_⟩
    · rcases a2 with a2 | a2
      · omega
      · rwa [if_pos (by omega)] at a2
    · rcases a2 with a2 | a2
      · omega
      · rwa [if_neg (by omega)] at a2
  · have := u1.mpr (by have := mt h1.mpr hz; omega)
    unfold under at this
    obtain ⟨a1, a2⟩ := this
    refine .inr (.inr ⟨by grind, a1, fun z => ?_, fun z => ?_⟩)
    · rcases a2 with a2 | a2
      · omega
      · rwa [if_neg (by omega)] at a2
    · rcases a2 with a2 | a2
      · omega
      · rwa [if_pos (by omega)] at a2
theorem two_rings {n p q s t a : Int} {dn : Bool} (hn : 0 < n) (h : shown R.d n p q s t dn (a + 2) = shown R.d n p q s t dn a + 2) : 1 < 2 * vl R p q n := by
  have c := congrArg (fun x : Int => (x : Q R)) h
  have t2 : ((2 : Int) : Q R) = 2 := by have := cast_add (R := R) 1 1; rw [cast_one] at this; grind
  simp only [cast_add, t2] at c
  cases dn with
  | true =>
    have e1 := dn_b (R := R) (p := p) (q := q) (s := s) (t := t) hn a
    have e2 := dn_b (R := R) (p := p) (q := q) (s := s) (t := t) hn (a + 2)
    simp only [cast_add, t2] at e2
    grind
  | false =>
    have e1 := up_b (R := R) (p := p) (q := q) (s := s) (t := t) hn a
    have e2 := up_b (R := R) (p := p) (q := q) (s := s) (t := t) hn (a + 2)
    simp only [cast_add, t2] at e2
    grind
theorem two_dull {n p q s t a : Int} {dn : Bool} (hn : 0 < n) (h : shown R.d n p q s t dn (a + 2) = shown R.d n p q s t dn a) : 2 * vl R p q n < 1 := by
  have c := congrArg (fun x : Int => (x : Q R)) h
  have t2 : ((2 : Int) : Q R) = 2 := by have := cast_add (R := R) 1 1; rw [cast_one] at this; grind
  cases dn with
  | true =>
    have e1 := dn_b (R := R) (p := p) (q := q) (s := s) (t := t) hn a
    have e2 := dn_b (R := R) (p := p) (q := q) (s := s) (t := t) hn (a + 2)
    simp only [cast_add, t2] at e2
    grind
  | false =>
    have e1 := up_b (R := R) (p := p) (q := q) (s := s) (t := t) hn a
    have e2 := up_b (R := R) (p := p) (q := q) (s := s) (t := t) hn (a + 2)
    simp only [cast_add, t2] at e2
    grind
theorem one_dull {n p q s t a : Int} {dn : Bool} (hn : 0 < n) (h : shown R.d n p q s t dn (a + 1) = shown R.d n p q s t dn a) : vl R p q n < 1 := by
  have c := congrArg (fun x : Int => (x : Q R)) h
  cases dn with
  | true =>
    have e1 := dn_b (R := R) (p := p) (q := q) (s := s) (t := t) hn a
    have e2 := dn_b (R := R) (p := p) (q := q) (s := s) (t := t) hn (a + 1)
    simp only [cast_add, cast_one] at e2
    grind
  | false =>
    have e1 := up_b (R := R) (p := p) (q := q) (s := s) (t := t) hn a
    have e2 := up_b (R := R) (p := p) (q := q) (s := s) (t := t) hn (a + 1)
    simp only [cast_add, cast_one] at e2
    grind
end
end Qd

/-! Pl: what the plain parts share, no program in sight -/
namespace Pl
open PySem L2 Ev Ma Qd
section
variable {S : Sto} {R : Rt}
theorem abs_i (p : Int) : (if p < 0 then -p else p) = (p.natAbs : Int) := by split <;> omega
def lowT (p q n : Int) : D := .tup [.int (p / cof p q n), .int (q / cof p q n), .int (n / cof p q n)]
def Root (r : Int) : Prop := 2 ≤ r ∧ r ≤ 30 ∧ isq r * isq r ≠ r
theorem Root.nosq {r : Int} (h : Root r) : NoSq r := noSq_of (isq_spec (by have := h.1; omega)) h.2.2
structure In30 (p : Int) : Prop where
  lo : -1000000000000000000000000000000 ≤ p
  hi : p ≤ 1000000000000000000000000000000
structure Num (p q n : Int) : Prop where
  p1 : -1000000000000000000000000000000 ≤ p
  p2 : p ≤ 1000000000000000000000000000000
  q1 : -1000000000000000000000000000000 ≤ q
  q2 : q ≤ 1000000000000000000000000000000
  n1 : 1 ≤ n
  n2 : n ≤ 1000000000000000000000000000000
  one : g3 p q n = 1
theorem Num.low {p q n : Int} (h : Num p q n) : Low p q n := ⟨by have := h.n1; omega, h.one⟩
theorem Num.lowEq {p q n : Int} (h : Num p q n) : lowT p q n = .tup [.int p, .int q, .int n] := by
  unfold lowT; rw [h.low.cof]; simp
@[simp] theorem eq_self3 (p q n : Int) : sEq S (.tup [.int p, .int q, .int n]) (.tup [.int p, .int q, .int n]) = some (.bl true) :=
  sEq_same (ps := [.int p, .int q, .int n]) (by simp [pyAll, pyOf]) (by simp [SeqAt.shaped, PyData.canLay0, PyData.canLayAll0, PyData.depth, PyData.depthAll])
theorem Num.bt {p q n : Int} (h : Num p q n) : Bt 100 p ∧ Bt 100 q ∧ Bt 100 n := by
  obtain ⟨a, b, c, d, e, f, _⟩ := h
  exact ⟨Bt.of_lt (by omega) (by omega), Bt.of_lt (by omega) (by omega), Bt.of_lt (by omega) (by omega)⟩
theorem num_low {p q n : Int} (hp : In30 p) (hq : In30 q) (hn : In30 n) (h0 : n ≠ 0) : Num (p / cof p q n) (q / cof p q n) (n / cof p q n) := by
  obtain ⟨d1, d2, d3⟩ := cof_dvd (p := p) (q := q) (n := n)
  have l := low_of (p := p) (q := q) h0
  have a := abs_ediv_le _ _ d1
  have b := abs_ediv_le _ _ d2
  have c := abs_ediv_le _ _ d3
  obtain ⟨p1, p2⟩ := hp
  obtain ⟨q1, q2⟩ := hq
  obtain ⟨n1, n2⟩ := hn
  have := l.pos
  exact ⟨by omega, by omega, by omega, by omega, by omega, by omega, l.one⟩
theorem fl_b {q r : Int} {k : Nat} (hr : 0 ≤ r) (h : Bt k (q * q * r)) : Bt (k + 1) (fl q r) := by
  have h0 := isq_nonneg (q * q * r)
  have h1 := isq_le (n := q * q * r) (Int.mul_nonneg (sqn q) hr)
  have e : ((2 ^ (k + 1) : Nat) : Int) = 2 * (2 ^ k : Nat) := by rw [Nat.pow_succ]; omega
  unfold Bt at *
  unfold fl
  split <;> omega
abbrev nT (p q n : Int) : D := .tup [.int p, .int q, .int n]
def Jar (n : Nat) (S : Sto) : Prop := ∃ a b c : Int, S[n]? = some (.lst [.int a, .int b, .int c])
structure Step (n : Nat) (S S' : Sto) : Prop where
  jar : Jar n S'
  len : S'.length = S.length
theorem Jar.set {n : Nat} {S : Sto} {o : Ob} (h : S[n]? = some o) {o' : Ob} : (S.set n o')[n]? = some o' := by
  have := (List.getElem?_eq_some_iff.mp h).1
  exact List.getElem?_set_self this
theorem Step.trans {n : Nat} {S S1 S2 : Sto} (a : Step n S S1) (b : Step n S1 S2) : Step n S S2 := ⟨b.jar, by rw [b.len, a.len]⟩
theorem bls_true : ∀ n : Nat, blsOf (List.replicate n (.bl true)) = some (List.replicate n true)
  | 0 => rfl
  | n + 1 => by rw [List.replicate_succ, blsOf_bl, bls_true n]; rfl
theorem In30.bt {p : Int} (h : In30 p) : Bt 100 p := Bt.of_lt (by have := h.lo; omega) (by have := h.hi; omega)
structure BOk (r n p q s t : Int) : Prop where
  root : Root r
  n12 : n ≤ 12
  rate : Rate r n p q
  p1 : -100 ≤ p
  p2 : p ≤ 100
  q1 : -100 ≤ q
  q2 : q ≤ 100
  s1 : -1000 ≤ s
  s2 : s ≤ 1000
  t1 : -1000 ≤ t
  t2 : t ≤ 1000
def wayS (dn : Bool) : PySem.Str := if dn then "down" else "up"
abbrev bParts (r n p q s t : Int) (dn : Bool) : List D := [.int r, .int n, .tup [.int p, .int q], .tup [.int s, .int t], .str (wayS dn)]
abbrev bellD (r n p q s t : Int) (dn : Bool) : D := .obj "Bell" ["held"] [.tup (bParts r n p q s t dn)]
theorem rate_one {r n p q : Int} (h : Rate r n p q) : (-p + fl (-q) r) / n = -1 := by
  have := h.n0
  have := h.lo
  have := h.hi
  exact (ediv_of h.n0 (l := -1) (by omega) (by omega)).symm
@[simp] theorem rngD_len {lo : Int} {n : Nat} : (rngD lo n).length = n := by simp [rngD]
def Tr (R : Rt) (k : Nat) (v : Q R) (d : D) : Prop := ∃ x y z : Int, d = .tup [.int x, .int y, .int z] ∧ Low x y z ∧ Bt k x ∧ Bt k y ∧ Bt k z ∧ vl R x y z = v
theorem Tr.mono {k l : Nat} {v : Q R} {d : D} (h : Tr R k v d) (hl : k ≤ l) : Tr R l v d := by
  obtain ⟨x, y, z, e, lo, bx, b2, bz, ev⟩ := h
  exact ⟨x, y, z, e, lo, bx.mono hl, b2.mono hl, bz.mono hl, ev⟩
theorem lowT_tr {k : Nat} {p q n : Int} (hn : n ≠ 0) (bp : Bt k p) (bq : Bt k q) (bn : Bt k n) : Tr R k (vl R p q n) (lowT p q n) := by
  obtain ⟨d1, d2, d3⟩ := cof_dvd (p := p) (q := q) (n := n)
  exact ⟨_, _, _, rfl, low_of hn, bp.le (abs_ediv_le _ _ d1), bq.le (abs_ediv_le _ _ d2), bn.le (abs_ediv_le _ _ d3), vl_cof hn⟩
@[simp] theorem frz_lowT {p q n : Int} : frz S (lowT p q n) = some (lowT p q n) := rfl
@[simp] theorem frz_t3 {p q n : Int} : frz S (.tup [.int p, .int q, .int n]) = some (.tup [.int p, .int q, .int n]) := rfl
theorem Tr.nr {k : Nat} {v : Q R} {d : D} (h : Tr R k v d) : noRef d = true := by
  obtain ⟨_, _, _, rfl, _⟩ := h
  rfl
theorem Tr.fz {k : Nat} {v : Q R} {d : D} (h : Tr R k v d) : frz S d = some d := by
  obtain ⟨_, _, _, rfl, _⟩ := h
  rfl
theorem cM {i j : Int} {k l : Nat} (hi : Bt k i) (hj : Bt l j) (hk : k ≤ 4000) (hl : l ≤ 4000) : cMul i j = true := cMul_b (hi.mono hk) (hj.mono hl)
theorem int_tr {k : Nat} {i : Int} (hi : Bt k i) (hk : 1 ≤ k) : Tr R k (i : Q R) (.tup [.int i, .int 0, .int 1]) :=
  ⟨i, 0, 1, rfl, ⟨by decide, by simp [g3]⟩, hi, Nat.pow_pos (by decide), Nat.lt_of_lt_of_le (show 1 < 2 ^ 1 by decide) (Nat.pow_le_pow_right (by decide) hk), vl_int i⟩
theorem fl_b6 {q : Int} {k : Nat} (hr : Root R.d) (h : Bt k q) : Bt (k + 3) (fl q R.d) := by
  have h0 := isq_nonneg (q * q * R.d)
  have a := isq_lt_iff (n := q * q * R.d) (m := 6 * (q.natAbs : Int) + 1) (Int.mul_nonneg (sqn q) (by have := hr.1; omega)) (by omega)
  have b : q * q * R.d < (6 * (q.natAbs : Int) + 1) * (6 * (q.natAbs : Int) + 1) := by
    have e : q * q = (q.natAbs : Int) * (q.natAbs : Int) := by
      rw [← Int.natAbs_mul_self, Int.natCast_mul]
    have h1 : q * q * R.d ≤ q * q * 30 := Int.mul_le_mul_of_nonneg_left hr.2.1 (sqn q)
    rw [e] at h1 ⊢
    have : 0 ≤ (q.natAbs : Int) * (q.natAbs : Int) := Int.mul_nonneg (by omega) (by omega)
    grind
  have c := a.mpr b
  have e : ((2 ^ (k + 3) : Nat) : Int) = 8 * (2 ^ k : Nat) := by rw [Nat.pow_add]; omega
  unfold Bt at *
  unfold fl
  split <;> omega
theorem ins_bell {r n p q s t : Int} {dn : Bool} : insOf S (bellD r n p q s t dn) = some (("Bell" : PySem.Str), (["held"] : List PySem.Str), ([.tup (bParts r n p q s t dn)] : List D)) := rfl
theorem nr_bell {r n p q s t : Int} {dn : Bool} : noRef (bellD r n p q s t dn) = true := rfl
theorem rngD_get {lo : Int} {n i : Nat} {d : D} (h : (rngD lo n)[i]? = some d) : i < n ∧ d = .int (lo + i) := by
  unfold rngD at h
  simp only [List.getElem?_map, Option.map_eq_some_iff] at h
  obtain ⟨j, h1, rfl⟩ := h
  obtain ⟨h2, h3⟩ := List.getElem?_eq_some_iff.mp h1
  simp at h2 h3
  subst h3
  exact ⟨h2, rfl⟩
/-- one turn of the root's search from above -/
theorem newton {n g : Int} (hg : 0 < g) (hn : 0 ≤ n) (h : isq n ≤ g) : isq n ≤ (g + n / g) / 2 ∧ (isq n < g → (g + n / g) / 2 < g ∧ 2 * ((g + n / g) / 2 - isq n) ≤ g - isq n) ∧ (g = isq n → g ≤ (g + n / g) / 2) := by
  obtain ⟨s0, s1, s2⟩ := isq_spec hn
  generalize isq n = s at *
  have a : 2 * s - g ≤ n / g := by
    refine Int.le_ediv_of_mul_le hg ?_
    have : (2 * s - g) * g ≤ s * s := by
      have := sqn (s - g)
      grind
    omega
  refine ⟨by omega, fun z => ?_, fun z => by omega⟩
  have b : n / g < s + 1 := by
    refine Int.ediv_lt_of_lt_mul hg ?_
    have : (s + 1) * (s + 1) ≤ (s + 1) * g := Int.mul_le_mul_of_nonneg_left (by omega) (by omega)
    omega
  omega
theorem sEqBl {a b : Bool} : sEq S (.bl a) (.bl b) = some (.bl (decide (a = b))) := by cases a <;> cases b <;> rfl
theorem halve (A B : Nat) (h : B ≤ A) : 2 * (B * (A % B)) ≤ A * B := by
  by_cases z : B = 0
  · subst z; simp
  have : 2 * (A % B) ≤ A := by
    · have h1 := Nat.mod_lt A (show 0 < B by omega)
      have h2 := Nat.div_add_mod A B
      have h3 : 1 ≤ A / B := Nat.div_pos h (by omega)
      have h4 : B * 1 ≤ B * (A / B) := Nat.mul_le_mul_left _ h3
      omega
  have := Nat.mul_le_mul_left B this
  rw [Nat.mul_comm A B]
  rw [show 2 * (B * (A % B)) = B * (2 * (A % B)) by grind]
  exact this
theorem fmod_nat (A B : Nat) : (A : Int).fmod (B : Int) = ((A % B : Nat) : Int) := by
  rw [Int.fmod_eq_emod_of_nonneg _ (by omega)]; rfl
def Pool (n : Nat) (S : Sto) : Prop := ∃ a b : Int, S[n]? = some (.lst [.int a, .int b])
structure Stp (n : Nat) (S S' : Sto) : Prop where
  jar : Pool n S'
  len : S'.length = S.length
theorem Stp.trans {n : Nat} {S S1 S2 : Sto} (a : Stp n S S1) (b : Stp n S1 S2) : Stp n S S2 := ⟨b.jar, by rw [b.len, a.len]⟩
theorem root_sq {r : Int} (s : Int) (h : 2 ≤ r ∧ r ≤ 30 ∧ 0 ≤ s ∧ s * s < r ∧ r < (s + 1) * (s + 1)) : Root r := by
  obtain ⟨h1, h2, h3, h4, h5⟩ := h
  have e := IsSq.eq (n := r) (r := s) ⟨h3, by omega, h5⟩
  exact ⟨h1, h2, by rw [← e]; omega⟩
structure KOk (r n p q : Int) : Prop where
  root : Root r
  n12 : n ≤ 12
  rate : Rate r n p q
  p1 : -100 ≤ p
  p2 : p ≤ 100
  q1 : -100 ≤ q
  q2 : q ≤ 100
theorem Root.rt {r : Int} (h : Root r) : ∃ R : Rt, R.d = r := ⟨⟨r, by have := h.1; omega, h.nosq⟩, rfl⟩
theorem fl_lo {q r : Int} (hr : Root r) (h1 : -11 ≤ q) (h2 : q ≤ 15) : -82 ≤ fl q r ∧ fl q r ≤ 90 := by
  have hi := isq_nonneg (q * q * r)
  have h30 : q * q * r ≤ 225 * 30 := by
    have : q * q ≤ 225 := by
      have : q * q ≤ 15 * 15 := by
        by_cases z : 0 ≤ q
        · exact sq_le z h2
        · have := sq_le (a := -q) (b := 15) (by omega) (by omega)
          rwa [Int.neg_mul_neg] at this
      omega
    have h0 := hr.1
    exact Int.mul_le_mul this hr.2.1 (by omega) (by omega)
  have a := (isq_lt_iff (n := q * q * r) (m := 90) (Int.mul_nonneg (sqn q) (by have := hr.1; omega)) (by omega)).mpr (by omega)
  unfold fl
  split
  · have h121 : q * q * r ≤ 121 * 30 := by
      have : q * q ≤ 11 * 11 := by
        have := sq_le (a := -q) (b := 11) (by omega) (by omega)
        rwa [Int.neg_mul_neg] at this
      have := hr.1; have := hr.2.1
      exact Int.mul_le_mul (by omega) hr.2.1 (by omega) (by omega)
    have a := (isq_lt_iff (n := q * q * r) (m := 61) (Int.mul_nonneg (sqn q) (by have := hr.1; omega)) (by omega)).mpr (by omega)
    omega
  · omega
theorem KOk.bok {r n p q s t : Int} (h : KOk r n p q) (h1 : -1000 ≤ s) (h2 : s ≤ 1000) (h3 : -1000 ≤ t) (h4 : t ≤ 1000) : BOk r n p q s t :=
  ⟨h.root, h.n12, h.rate, h.p1, h.p2, h.q1, h.q2, h1, h2, h3, h4⟩
/-- a triple, not always lowest -/
def Tv (R : Rt) (k : Nat) (v : Q R) (d : D) : Prop := ∃ x y z : Int, d = .tup [.int x, .int y, .int z] ∧ 0 < z ∧ Bt k x ∧ Bt k y ∧ Bt k z ∧ vl R x y z = v
theorem Tr.tv {k : Nat} {v : Q R} {d : D} (h : Tr R k v d) : Tv R k v d := by
  obtain ⟨x, y, z, e, l, b⟩ := h
  exact ⟨x, y, z, e, l.pos, b⟩
theorem Tr.tuple {k : Nat} {v : Q R} {d : D} (h : Tr R k v d) : ∃ x y z : Int, d = .tup [.int x, .int y, .int z] ∧ Low x y z ∧ Bt k x ∧ Bt k y ∧ Bt k z ∧ vl R x y z = v := h
theorem Tr.one {k : Nat} {e : D} (h : Tr R k 1 e) : e = .tup [.int 1, .int 0, .int 1] := by
  obtain ⟨x, y, z, rfl, lo, -, -, -, hv⟩ := h
  obtain ⟨rfl, rfl, rfl⟩ := low_uniq (R := R) lo (show Low 1 0 1 from ⟨by decide, by decide⟩) (by rw [hv, vl_one])
  rfl
theorem one_tr : Tr R 1 1 (.tup [.int 1, .int 0, .int 1]) := by
  have := int_tr (R := R) (k := 1) (i := 1) (by decide) (by decide)
  rwa [cast_one] at this
theorem inX_1 {d : Int} : sNotInX S (.lst [.int d]) (.lst [.lst [.int d], .lst [.int d, .int (d + 1)]]) = some (.bl false) := by
  have := inX2 (S := S) (d := .lst [.int d]) (xs := [d]) (ys := [d]) (zs := [d, d + 1]) (isLI_lst [d])
  simpa using this
theorem inX_2 {d : Int} : sNotInX S (.lst [.int d, .int (d + 1)]) (.lst [.lst [.int d], .lst [.int d, .int (d + 1)]]) = some (.bl false) := by
  have := inX2 (S := S) (d := .lst [.int d, .int (d + 1)]) (xs := [d, d + 1]) (ys := [d]) (zs := [d, d + 1]) (isLI_lst [d, d + 1])
  simpa using this
/-- the mean times the rate is 1 -/
theorem mean_ok {x y z n p q : Int} {u : Q R} (hz : 0 < z) (hn : 0 < n) (hv : vl R x y z = u) (hu : u * vl R p q n = 1) : x * p + y * q * R.d = z * n ∧ x * q + y * p = 0 := by
  have a := vl_mul (R := R) (p := x) (q := y) (n := z) (by omega)
  have b := vl_mul (R := R) (p := p) (q := q) (n := n) (by omega)
  have c := ev_mul (R := R) x y p q
  have e : ev R (x * p + R.d * (y * q)) (x * q + y * p) = ev R (z * n) 0 := by
    rw [c, ev_int, cast_mul, ← a, ← b, hv]
    generalize vl R p q n = w at *
    grind
  obtain ⟨e1, e2⟩ := ev_inj e
  refine ⟨?_, e2⟩
  rw [← e1]; grind
theorem Root.sq5 {r : Int} (h : Root r) : Bt 5 r := Bt.of_lt (by have := h.1; omega) (by have := h.2.1; omega)
theorem way_eq (dn : Bool) : decide (wayS dn = ("down" : PySem.Str)) = dn := by cases dn <;> rfl
theorem day_b {r n p q s t d : Int} (h : BOk r n p q s t) (hd : Bt 200 d) : Bt 600 (s + d * p) ∧ Bt 600 (t + d * q) ∧ Bt 600 n ∧ cMul d p = true ∧ cMul d q = true := by
  have bp : Bt 10 p := Bt.of_lt (by have := h.p1; omega) (by have := h.p2; omega)
  have bq : Bt 10 q := Bt.of_lt (by have := h.q1; omega) (by have := h.q2; omega)
  have bs : Bt 10 s := Bt.of_lt (by have := h.s1; omega) (by have := h.s2; omega)
  have bt : Bt 10 t := Bt.of_lt (by have := h.t1; omega) (by have := h.t2; omega)
  have bn : Bt 10 n := Bt.of_lt (by have := h.rate.n0; omega) (by have := h.n12; omega)
  exact ⟨(bs.add (hd.mul bp)).mono (by decide), (bt.add (hd.mul bq)).mono (by decide), bn.mono (by decide), cMul_b (hd.mono (by decide)) (bp.mono (by decide)), cMul_b (hd.mono (by decide)) (bq.mono (by decide))⟩
@[simp] theorem ok_bell {r n p q s t : Int} {dn : Bool} {m : PySem.Str} : okIns "Bell" m S (bellD r n p q s t dn) = !((["held"] : List PySem.Str).contains m) := by simp [okIns]
theorem BOk.meter {r n p q s t : Int} (h : BOk r n p q s t) (dn : Bool) : Meter (shown r n p q s t dn) :=
  meter_of (by have := h.root.1; omega) h.root.nosq h.rate (by have := h.n12; omega) (by have := h.p1; have := h.p2; omega)
end
end Pl

/-! Sp: texts of two signs, split -/
namespace Sp
open PySem L2 Ev TL
@[simp] theorem mJoin_po {o e : M} {env : En} {S : Sto} {Q : D → Sto → Prop} {X : XQ} : (mJoin o e env S).po Q X = (o env S).po (fun x S1 => match x with | .str a => (e env S1).po (fun y S2 => opo (jnD S2 a y) fun d => Q d S2) X | _ => False) X := by
  simp only [mJoin, po_bind]
  congr; funext x S1
  cases x <;> simp
/-- each part but the last one ends at a c and begins at the start or behind a c -/
theorem spl_mid (c : Nat) : ∀ (n : Nat) (l : List Nat), l.length ≤ n → spl [c] 0 [] l ≠ [] ∧ ∀ e ∈ (spl [c] 0 [] l).dropLast, ∃ i, l[i + e.length]? = some c ∧ (∀ k, k < e.length → l[i + k]? ≠ some c) ∧ (i = 0 ∨ l[i - 1]? = some c)
  | 0, l, h => by
    have : l = [] := List.length_eq_zero_iff.mp (by omega)
    subst this
    rw [spl_nil]
    simp
  | n + 1, l, h => by
    by_cases hc : c ∈ l
    · obtain ⟨p, r, rfl, hp⟩ := List.eq_append_cons_of_mem hc
      have e := spl_part1 (S := []) (rest := r) (acc := []) hp
      rw [show p ++ ([c] ++ r) = p ++ c :: r from rfl, List.nil_append] at e
      have hr : r.length ≤ n := by simp at h; omega
      obtain ⟨h1, h2⟩ := spl_mid c n r hr
      rw [e]
      refine ⟨by simp, fun x hx => ?_⟩
      rw [List.dropLast_cons_of_ne_nil h1] at hx
      rcases List.mem_cons.mp hx with rfl | hx
      · refine ⟨0, by simp, fun k hk => ?_, .inl rfl⟩
        rw [Nat.zero_add, List.getElem?_append_left hk]
        intro z
        exact hp (List.mem_of_getElem? z)
      · obtain ⟨i, g1, g2, g3⟩ := h2 x hx
        have sh : ∀ j, (p ++ c :: r)[p.length + 1 + j]? = r[j]? := fun j => by
          rw [List.getElem?_append_right (by omega), show p.length + 1 + j - p.length = j + 1 by omega, List.getElem?_cons_succ]
        refine ⟨p.length + 1 + i, ?_, fun k hk => ?_, .inr ?_⟩
        · rw [Nat.add_assoc, sh]; exact g1
        · rw [Nat.add_assoc, sh]; exact g2 k hk
        · by_cases z : i = 0
          · subst z
            rw [show p.length + 1 + 0 - 1 = p.length by omega, List.getElem?_append_right (by omega)]
            simp
          · rcases g3 with g3 | g3
            · exact absurd g3 z
            · rw [show p.length + 1 + i - 1 = p.length + 1 + (i - 1) by omega, sh]; exact g3
    · have e := spl_last1 (S := []) (acc := []) hc
      rw [e]
      simp
/-- .. the parts between -/
theorem spl_in (c : Nat) (l : List Nat) : ∀ e ∈ (spl [c] 0 [] l).tail.dropLast, ∃ i, 0 < i ∧ l[i + e.length]? = some c ∧ (∀ k, k < e.length → l[i + k]? ≠ some c) ∧ l[i - 1]? = some c := by
  intro x hx
  by_cases hc : c ∈ l
  · obtain ⟨p, r, rfl, hp⟩ := List.eq_append_cons_of_mem hc
    have e := spl_part1 (S := []) (rest := r) (acc := []) hp
    rw [show p ++ ([c] ++ r) = p ++ c :: r from rfl, List.nil_append] at e
    rw [e, List.tail_cons] at hx
    obtain ⟨i, g1, g2, g3⟩ := (spl_mid c r.length r (Nat.le_refl _)).2 x hx
    have sh : ∀ j, (p ++ c :: r)[p.length + 1 + j]? = r[j]? := fun j => by
      rw [List.getElem?_append_right (by omega), show p.length + 1 + j - p.length = j + 1 by omega, List.getElem?_cons_succ]
    refine ⟨p.length + 1 + i, by omega, ?_, fun k hk => ?_, ?_⟩
    · rw [Nat.add_assoc, sh]; exact g1
    · rw [Nat.add_assoc, sh]; exact g2 k hk
    · by_cases z : i = 0
      · subst z
        rw [show p.length + 1 + 0 - 1 = p.length by omega, List.getElem?_append_right (by omega)]
        simp
      · rcases g3 with g3 | g3
        · exact absurd g3 z
        · rw [show p.length + 1 + i - 1 = p.length + 1 + (i - 1) by omega, sh]; exact g3
  · have e := spl_last1 (S := []) (acc := []) hc
    rw [e] at hx
    simp at hx
theorem joinL_one : ∀ (xs : List Nat), joinL [] (xs.map fun x => [x]) = xs
  | [] => rfl
  | [x] => rfl
  | x :: y :: r => by
    have := joinL_one (y :: r)
    simp only [List.map_cons] at this ⊢
    simp only [joinL, List.nil_append, this]
    rfl
/-- a text of two signs -/
def bits (m : Nat) (f : Nat → Bool) : PySem.Str := Txt.join "" ((List.range m).map fun k => if f k then "1" else "0")
def b01 (b : Bool) : Nat := if b then 49 else 48
theorem tl_bits (m : Nat) (f : Nat → Bool) : tl (bits m f) = (List.range m).map fun k => b01 (f k) := by
  unfold bits
  rw [join_eq, tl_join, List.map_map, show tl ("" : PySem.Str) = [] from rfl]
  have e : (List.range m).map (tl ∘ fun k => if f k then ("1" : PySem.Str) else "0") = ((List.range m).map fun k => b01 (f k)).map fun x => [x] := by
    rw [List.map_map]
    refine List.map_congr_left fun k _ => ?_
    simp only [Function.comp_apply, b01]
    cases f k <;> rfl
  rw [e, joinL_one]
theorem cutD_mid {α : Type} (xs : List α) : cutD xs (some 1) (some (-1)) = xs.tail.dropLast := by
  unfold cutD
  rw [List.dropLast_eq_take, ← List.drop_one, List.length_drop]
  match xs with
  | [] => simp
  | [x] => simp [HT.sIx]
  | x :: y :: r =>
    have e1 : HT.sIx (x :: y :: r).length 0 (some 1) = 1 := by simp [HT.sIx]
    have e2 : HT.sIx (x :: y :: r).length (x :: y :: r).length (some (-1)) = (x :: y :: r).length - 1 := by
      simp [HT.sIx]; omega
    rw [e1, e2]
def sgn (b : Bool) : PySem.Str := if b then "1" else "0"
/-- the parts between, of a text of two signs, split at one of them -/
theorem bits_in {m : Nat} {f : Nat → Bool} {b : Bool} : ∀ p ∈ cutD (Txt.split (bits m f) (sgn b)) (some 1) (some (-1)), ∃ i, 0 < i ∧ i + p.length < m ∧ f (i + p.length) = b ∧ (∀ k, k < p.length → f (i + k) = !b) ∧ f (i - 1) = b := by
  intro p hp
  rw [cutD_mid] at hp
  have et : tl (sgn b) = [b01 b] := by cases b <;> rfl
  have hs := split_spl (bits m f) (sgn b) (by rw [et]; simp) (kind_ok (by rw [← Array.all_toList, show (sgn b).cps.toList = [b01 b] from et]; cases b <;> rfl))
  have hm : tl p ∈ (spl [b01 b] 0 [] (tl (bits m f))).tail.dropLast := by
    rw [← et, ← hs, ← List.map_tail, ← List.map_dropLast]
    exact List.mem_map_of_mem hp
  obtain ⟨i, i0, g1, g2, g3⟩ := spl_in _ _ _ hm
  rw [tl_bits, ← len_tl] at g1
  rw [tl_bits] at g3
  have inj : ∀ x y : Bool, b01 x = b01 y → x = y := by decide
  have at_ : ∀ j : Nat, ((List.range m).map fun k => b01 (f k))[j]? = some (b01 b) → j < m ∧ f j = b := fun j hj => by
    simp only [List.getElem?_map, Option.map_eq_some_iff] at hj
    obtain ⟨k, h1, h2⟩ := hj
    obtain ⟨h3, h4⟩ := List.getElem?_eq_some_iff.mp h1
    simp at h3 h4
    subst h4
    exact ⟨h3, inj _ _ h2⟩
  obtain ⟨a1, a2⟩ := at_ _ g1
  obtain ⟨a3, a4⟩ := at_ _ g3
  refine ⟨i, i0, a1, a2, fun k hk => ?_, a4⟩
  have := g2 k (by rw [← len_tl]; exact hk)
  rw [tl_bits] at this
  have hk2 : i + k < m := by omega
  have e : ((List.range m).map fun k => b01 (f k))[i + k]? = some (b01 (f (i + k))) := by
    simp [List.getElem?_map, List.getElem?_range hk2]
  rw [e] at this
  cases hf : f (i + k) <;> cases b <;> simp_all [b01]
end Sp

/-! St: floors of numbers, ends of ringing, stretches of starts -/
namespace Qd
open Ma
section
variable {R : Rt}
noncomputable instance (a b : Q R) : Decidable (a = b) := Classical.propDecidable _
noncomputable instance (a b : Q R) : Decidable (a ≤ b) := Classical.propDecidable _
noncomputable instance (a b : Q R) : Decidable (a < b) := Classical.propDecidable _
theorem floor_uniq {u : Q R} {a b : Int} (h1 : (a : Q R) ≤ u) (h2 : u < (a : Q R) + 1) (h3 : (b : Q R) ≤ u) (h4 : u < (b : Q R) + 1) : a = b := by
  have c1 : (a : Q R) < ((b + 1 : Int) : Q R) := by rw [cast_add, cast_one]; grind
  have c2 : (b : Q R) < ((a + 1 : Int) : Q R) := by rw [cast_add, cast_one]; grind
  rw [cast_lt] at c1 c2
  omega
theorem rat_num (x : Rat) : x * ((x.den : Int) : Rat) = (x.num : Rat) := by
  have h : (x.num : Rat) / ((x.den : Int) : Rat) = x := by rw [← Rat.divInt_eq_div, Rat.num_divInt_den]
  have hb : ((x.den : Int) : Rat) ≠ 0 := by simp [x.den_nz]
  have := Rat.div_mul_cancel (a := (x.num : Rat)) hb
  rwa [h] at this
theorem exists_vl (v : Q R) : ∃ p q n : Int, 0 < n ∧ vl R p q n = v := by
  have d1 : (0 : Int) < v.re.den := by have := v.re.den_pos; omega
  have d2 : (0 : Int) < v.im.den := by have := v.im.den_pos; omega
  have hn : (0 : Int) < v.re.den * v.im.den := Int.mul_pos d1 d2
  refine ⟨v.re.num * v.im.den, v.im.num * v.re.den, v.re.den * v.im.den, hn, ?_⟩
  have a := vl_mul (R := R) (p := v.re.num * v.im.den) (q := v.im.num * v.re.den) (n := v.re.den * v.im.den) (by omega)
  have e : ev R (v.re.num * v.im.den) (v.im.num * v.re.den) = v * ((v.re.den * v.im.den : Int) : Q R) := by
    have e1 := rat_num v.re
    have e2 := rat_num v.im
    generalize ((v.re.den : Int)) = a at *
    generalize ((v.im.den : Int)) = b at *
    generalize v.re.num = c at *
    generalize v.im.num = d at *
    refine Q.ext ?_ ?_
    · simp [ev, Rat.intCast_mul]
      rw [← e1]
      grind
    · simp [ev, Rat.intCast_mul]
      rw [← e2]
      grind
  rw [e] at a
  have c := mul_inv (cast_ne (R := R) (show (v.re.den * v.im.den : Int) ≠ 0 by omega))
  generalize vl R (v.re.num * v.im.den) (v.im.num * v.re.den) (v.re.den * v.im.den) = x at *
  generalize ((v.re.den * v.im.den : Int) : Q R) = n at *
  grind
theorem exists_low (v : Q R) : ∃ p q n : Int, Low p q n ∧ vl R p q n = v := by
  obtain ⟨p, q, n, hn, rfl⟩ := exists_vl v
  exact ⟨_, _, _, low_of (p := p) (q := q) (show n ≠ 0 by omega), vl_cof (by omega)⟩
theorem exists_fv (v : Q R) : ∃ k : Int, (k : Q R) ≤ v ∧ v < (k : Q R) + 1 := by
  obtain ⟨p, q, n, hn, rfl⟩ := exists_vl v
  exact ⟨_, vfloor hn⟩
/-- the whole part -/
noncomputable def fv (v : Q R) : Int := (exists_fv v).choose
theorem fv_lo (v : Q R) : (fv v : Q R) ≤ v := (exists_fv v).choose_spec.1
theorem fv_hi (v : Q R) : v < (fv v : Q R) + 1 := (exists_fv v).choose_spec.2
theorem fv_eq {v : Q R} {k : Int} (h1 : (k : Q R) ≤ v) (h2 : v < (k : Q R) + 1) : fv v = k := floor_uniq (fv_lo v) (fv_hi v) h1 h2
theorem fv_vl {p q n : Int} (hn : 0 < n) : fv (vl R p q n) = (p + fl q R.d) / n := fv_eq (vfloor hn).1 (vfloor hn).2
theorem le_fv {v : Q R} {k : Int} : k ≤ fv v ↔ (k : Q R) ≤ v := by
  have a := fv_lo v
  have b := fv_hi v
  constructor
  · intro h
    have := (cast_le (R := R)).mpr h
    grind
  · intro h
    have : (k : Q R) < ((fv v + 1 : Int) : Q R) := by rw [cast_add, cast_one]; grind
    rw [cast_lt] at this
    omega
theorem fv_int (k : Int) : fv (k : Q R) = k := fv_eq (by grind) (by grind)
theorem fv_add (v : Q R) (k : Int) : fv (v + (k : Q R)) = fv v + k := fv_eq (by have := fv_lo v; rw [cast_add]; grind) (by have := fv_hi v; rw [cast_add]; grind)
theorem fv_mono {v w : Q R} (h : v ≤ w) : fv v ≤ fv w := le_fv.mpr (by have := fv_lo v; grind)
/-- the rest -/
noncomputable def fr (v : Q R) : Q R := v - (fv v : Q R)
theorem fr_lo (v : Q R) : 0 ≤ fr v := by have := fv_lo v; unfold fr; grind
theorem fr_hi (v : Q R) : fr v < 1 := by have := fv_hi v; unfold fr; grind
theorem fr_id {v : Q R} (h0 : 0 ≤ v) (h1 : v < 1) : fr v = v := by
  have : fv v = 0 := fv_eq (by rw [cast_zero]; exact h0) (by rw [cast_zero]; grind)
  unfold fr
  rw [this, cast_zero]; grind
/-- the start at which the meter of the day is whole -/
noncomputable def endv (r : Q R) (k : Int) : Q R := fr (-((k : Q R) * r))
theorem endv_zero (r : Q R) : endv r 0 = 0 := by
  unfold endv
  rw [cast_zero, show -(0 * r) = (0 : Q R) by grind]
  exact fr_id (by grind) (by grind)
theorem fv_at {r x : Q R} {k : Int} (h0 : 0 ≤ x) (h1 : x < 1) : fv (x + (k : Q R) * r) = -fv (-((k : Q R) * r)) - (if endv r k ≤ x then 0 else 1) := by
  have a := fr_lo (-((k : Q R) * r))
  have b := fr_hi (-((k : Q R) * r))
  unfold endv
  have e : fr (-((k : Q R) * r)) = -((k : Q R) * r) - (fv (-((k : Q R) * r)) : Q R) := rfl
  generalize fr (-((k : Q R) * r)) = z at *
  generalize fv (-((k : Q R) * r)) = f at *
  split
  · refine fv_eq ?_ ?_
    · rw [cast_sub, cast_neg, cast_zero]; grind
    · rw [cast_sub, cast_neg, cast_zero]; grind
  · refine fv_eq ?_ ?_
    · rw [cast_sub, cast_neg, cast_one]; grind
    · rw [cast_sub, cast_neg, cast_one]; grind
/-- a bell with this start rings on the day -/
noncomputable def ringv (r x : Q R) (d : Int) : Bool := decide (fv (x + (d : Q R) * r) < fv (x + ((d + 1 : Int) : Q R) * r))
theorem ring_same {r x y : Q R} {d : Int} (x0 : 0 ≤ x) (x1 : x < 1) (y0 : 0 ≤ y) (y1 : y < 1) (h : endv r d ≤ x ↔ endv r d ≤ y) (h' : endv r (d + 1) ≤ x ↔ endv r (d + 1) ≤ y) : ringv r x d = ringv r y d := by
  unfold ringv
  rw [fv_at x0 x1, fv_at x0 x1, fv_at y0 y1, fv_at y0 y1]
  simp only [h, h']
abbrev Look := Int × Bool
def fits (r : Q R) (L : List Look) (x : Q R) : Prop := ∀ l ∈ L, ringv r x l.1 = l.2
noncomputable instance (r : Q R) (L : List Look) (x : Q R) : Decidable (fits r L x) := by unfold fits; infer_instance
theorem fits_nil {r x : Q R} : fits r [] x := fun _ h => by cases h
theorem fits_cons {r x : Q R} {l : Look} {L : List Look} : fits r (l :: L) x ↔ ringv r x l.1 = l.2 ∧ fits r L x := by
  unfold fits; simp
/-! ascending lists -/
abbrev Asc (es : List (Q R)) : Prop := es.Pairwise (· < ·)
theorem asc_uniq : ∀ {xs ys : List (Q R)}, Asc xs → Asc ys → (∀ v, v ∈ xs ↔ v ∈ ys) → xs = ys
  | [], [], _, _, _ => rfl
  | [], y :: ys, _, _, h => by have := (h y).mpr (by simp); simp at this
  | x :: xs, [], _, _, h => by have := (h x).mp (by simp); simp at this
  | x :: xs, y :: ys, hx, hy, h => by
    obtain ⟨a1, a2⟩ := List.pairwise_cons.mp hx
    obtain ⟨b1, b2⟩ := List.pairwise_cons.mp hy
    have e : x = y := by
      have h1 := (h x).mp (by simp)
      have h2 := (h y).mpr (by simp)
      rcases List.mem_cons.mp h1 with e | h1
      · exact e
      · rcases List.mem_cons.mp h2 with e | h2
        · exact e.symm
        · have := b1 x h1
          have := a1 y h2
          grind
    subst e
    rw [asc_uniq a2 b2 fun v => ?_]
    constructor
    · intro hv
      rcases List.mem_cons.mp ((h v).mp (by simp [hv])) with e | z
      · subst e; have := a1 v hv; grind
      · exact z
    · intro hv
      rcases List.mem_cons.mp ((h v).mpr (by simp [hv])) with e | z
      · subst e; have := b1 v hv; grind
      · exact z
/-! the ends of looks -/
noncomputable def insv (v : Q R) : List (Q R) → List (Q R)
  | [] => [v]
  | x :: xs => if v < x then v :: x :: xs else if v = x then x :: xs else x :: insv v xs
theorem mem_insv {v w : Q R} : ∀ {xs : List (Q R)}, w ∈ insv v xs ↔ w = v ∨ w ∈ xs
  | [] => by simp [insv]
  | x :: xs => by
    unfold insv
    split
    · simp
    · split
      · rename_i e; subst e; simp
      · simp only [List.mem_cons, mem_insv (xs := xs)]
        constructor
        · rintro (h | h | h) <;> simp [h]
        · rintro (h | h | h) <;> simp [h]
theorem insv_asc {v : Q R} : ∀ {xs : List (Q R)}, Asc xs → Asc (insv v xs)
  | [], _ => by simp [insv]
  | x :: xs, h => by
    obtain ⟨a1, a2⟩ := List.pairwise_cons.mp h
    unfold insv
    split
    · rename_i hv
      refine List.pairwise_cons.mpr ⟨fun y hy => ?_, h⟩
      rcases List.mem_cons.mp hy with rfl | hy
      · exact hv
      · have := a1 y hy; grind
    · split
      · exact h
      · refine List.pairwise_cons.mpr ⟨fun y hy => ?_, insv_asc a2⟩
        rcases mem_insv.mp hy with rfl | hy
        · grind
        · exact a1 y hy
noncomputable def endsv (r : Q R) (ks : List Int) : List (Q R) := ks.foldl (fun es k => insv (endv r k) es) [0]
theorem foldl_ins {r : Q R} : ∀ (ks : List Int) {es : List (Q R)}, Asc es → Asc (ks.foldl (fun es k => insv (endv r k) es) es) ∧ ∀ v, v ∈ ks.foldl (fun es k => insv (endv r k) es) es ↔ v ∈ es ∨ ∃ k ∈ ks, v = endv r k
  | [], es, h => ⟨h, fun v => by simp⟩
  | k :: ks, es, h => by
    obtain ⟨a, b⟩ := foldl_ins ks (insv_asc (v := endv r k) h)
    refine ⟨a, fun v => ?_⟩
    rw [List.foldl_cons, b, mem_insv]
    constructor
    · rintro ((e | h) | ⟨j, h, e⟩)
      · exact .inr ⟨k, by simp, e⟩
      · exact .inl h
      · exact .inr ⟨j, by simp [h], e⟩
    · rintro (h | ⟨j, h, e⟩)
      · exact .inl (.inr h)
      · rcases List.mem_cons.mp h with rfl | h
        · exact .inl (.inl e)
        · exact .inr ⟨j, h, e⟩
theorem endsv_asc {r : Q R} {ks : List Int} : Asc (endsv r ks) := (foldl_ins ks (List.pairwise_singleton _ _)).1
theorem mem_endsv {r : Q R} {ks : List Int} {v : Q R} : v ∈ endsv r ks ↔ v = 0 ∨ ∃ k ∈ ks, v = endv r k := by
  unfold endsv
  rw [(foldl_ins ks (List.pairwise_singleton _ _)).2]
  simp
/-! stretches between neighbours -/
noncomputable def pairsv : List (Q R) → List (Q R × Q R)
  | [] => []
  | [x] => [(x, 1)]
  | x :: y :: r => (x, y) :: pairsv (y :: r)
theorem pairsv_zip : ∀ es : List (Q R), es ≠ [] → pairsv es = es.zip (es.tail ++ [1])
  | [], h => absurd rfl h
  | [x], _ => rfl
  | x :: y :: r, _ => by
    have := pairsv_zip (y :: r) (by simp)
    simp only [pairsv, this, List.tail_cons, List.cons_append, List.zip_cons_cons]
/-- each number from the first end on is in just one of the stretches, and sees the same ends as its low end does -/
theorem pairsv_in {x : Q R} (x1 : x < 1) : ∀ {es : List (Q R)}, Asc es → (∀ e ∈ es, e < 1) → ∀ a, es.head? = some a → a ≤ x → ∃ p ∈ pairsv es, p.1 ≤ x ∧ x < p.2 ∧ ∀ e ∈ es, e ≤ x ↔ e ≤ p.1
  | [], _, _, a, h, _ => by cases h
  | [e], _, _, a, h, ha => by
    cases h
    exact ⟨(e, 1), by simp [pairsv], ha, x1, fun b hb => by
      simp at hb
      subst hb
      exact ⟨fun _ => by grind, fun _ => ha⟩⟩
  | e :: f :: r, h, hl, a, ha, hx => by
    cases ha
    obtain ⟨a1, a2⟩ := List.pairwise_cons.mp h
    by_cases hf : f ≤ x
    · obtain ⟨p, h1, h2, h3, h4⟩ := pairsv_in x1 a2 (fun b hb => hl b (by simp [hb])) f rfl hf
      refine ⟨p, by simp [pairsv, h1], h2, h3, fun b hb => ?_⟩
      rcases List.mem_cons.mp hb with rfl | hb
      · have := a1 f (by simp)
        have := (h4 f (by simp)).mp hf
        exact ⟨fun _ => by grind, fun _ => hx⟩
      · exact h4 b hb
    · refine ⟨(e, f), by simp [pairsv], hx, by grind, fun b hb => ?_⟩
      rcases List.mem_cons.mp hb with rfl | hb
      · exact ⟨fun _ => by grind, fun _ => hx⟩
      · have : f ≤ b := by
          rcases List.mem_cons.mp hb with rfl | hb
          · grind
          · have := (List.pairwise_cons.mp a2).1 b hb; grind
        have := a1 b hb
        exact ⟨fun _ => by grind, fun _ => by grind⟩
theorem pairsv_lt : ∀ {es : List (Q R)}, Asc es → (∀ e ∈ es, e < 1) → ∀ p ∈ pairsv es, p.1 ∈ es ∧ p.1 < p.2
  | [], _, _, p, h => by simp [pairsv] at h
  | [e], _, hl, p, h => by
    simp [pairsv] at h
    subst h
    exact ⟨by simp, hl e (by simp)⟩
  | e :: f :: r, h, hl, p, hp => by
    obtain ⟨a1, a2⟩ := List.pairwise_cons.mp h
    rcases List.mem_cons.mp (show p ∈ (e, f) :: pairsv (f :: r) from hp) with rfl | hp
    · exact ⟨by simp, a1 f (by simp)⟩
    · obtain ⟨h1, h2⟩ := pairsv_lt a2 (fun b hb => hl b (by simp [hb])) p hp
      exact ⟨by simp [h1], h2⟩
/-- each stretch ends at or ahead of the later ones' beginnings -/
theorem pairsv_pw : ∀ {es : List (Q R)}, Asc es → (∀ e ∈ es, e < 1) → (pairsv es).Pairwise fun p q => p.2 ≤ q.1
  | [], _, _ => by simp [pairsv]
  | [e], _, _ => by simp [pairsv]
  | e :: f :: r, h, hl => by
    obtain ⟨a1, a2⟩ := List.pairwise_cons.mp h
    refine List.pairwise_cons.mpr ⟨fun p hp => ?_, pairsv_pw a2 (fun b hb => hl b (by simp [hb]))⟩
    obtain ⟨h1, -⟩ := pairsv_lt a2 (fun b hb => hl b (by simp [hb])) p hp
    show f ≤ p.1
    rcases List.mem_cons.mp h1 with h1 | h1
    · grind
    · have := (List.pairwise_cons.mp a2).1 p.1 h1; grind
/-! joined -/
noncomputable def joinS (acc : List (Q R × Q R)) (p : Q R × Q R) : List (Q R × Q R) := match acc.getLast? with
  | some l => if l.2 = p.1 then acc.dropLast ++ [(l.1, p.2)] else acc ++ [p]
  | none => [p]
noncomputable def joinv (ps : List (Q R × Q R)) : List (Q R × Q R) := ps.foldl joinS []
def inS (x : Q R) (ps : List (Q R × Q R)) : Prop := ∃ p ∈ ps, p.1 ≤ x ∧ x < p.2
/-- apart, and each one is a stretch -/
def Apart (ps : List (Q R × Q R)) : Prop := ps.Pairwise (fun p q => p.2 < q.1) ∧ ∀ p ∈ ps, p.1 < p.2
noncomputable def lens : List (Q R × Q R) → Q R
  | [] => 0
  | p :: ps => (p.2 - p.1) + lens ps
theorem lens_app : ∀ (ps qs : List (Q R × Q R)), lens (ps ++ qs) = lens ps + lens qs
  | [], qs => by simp only [List.nil_append, lens]; grind
  | p :: ps, qs => by simp only [List.cons_append, lens, lens_app ps qs]; grind
theorem joinS_none {p : Q R × Q R} : joinS [] p = [p] := rfl
theorem joinS_some {acc : List (Q R × Q R)} {l p : Q R × Q R} : joinS (acc ++ [l]) p = if l.2 = p.1 then acc ++ [(l.1, p.2)] else acc ++ [l] ++ [p] := by
  simp [joinS]
theorem joinS_lens {acc : List (Q R × Q R)} {p : Q R × Q R} : lens (joinS acc p) = lens acc + (p.2 - p.1) := by
  rcases List.eq_nil_or_concat acc with rfl | ⟨a, l, rfl⟩
  · simp only [joinS_none, lens]; grind
  · rw [List.concat_eq_append, joinS_some]
    split
    · rename_i e
      simp only [lens_app, lens]; grind
    · simp only [lens_app, lens]; grind
theorem joinv_lens (ps : List (Q R × Q R)) : lens (joinv ps) = lens ps := by
  have key : ∀ (ps acc : List (Q R × Q R)), lens (ps.foldl joinS acc) = lens acc + lens ps := by
    intro ps
    induction ps with
    | nil => intro acc; simp only [List.foldl_nil, lens]; grind
    | cons p ps ih => intro acc; simp only [List.foldl_cons, ih, joinS_lens, lens]; grind
  rw [joinv, key]; simp only [lens]; grind
theorem inS_app {x : Q R} {ps qs : List (Q R × Q R)} : inS x (ps ++ qs) ↔ inS x ps ∨ inS x qs := by
  unfold inS
  constructor
  · rintro ⟨p, hp, h⟩
    rcases List.mem_append.mp hp with hp | hp
    · exact .inl ⟨p, hp, h⟩
    · exact .inr ⟨p, hp, h⟩
  · rintro (⟨p, hp, h⟩ | ⟨p, hp, h⟩)
    · exact ⟨p, List.mem_append.mpr (.inl hp), h⟩
    · exact ⟨p, List.mem_append.mpr (.inr hp), h⟩
theorem inS_one {x : Q R} {p : Q R × Q R} : inS x [p] ↔ p.1 ≤ x ∧ x < p.2 := by simp [inS]
theorem joinS_ok {acc : List (Q R × Q R)} {p : Q R × Q R} (h : Apart acc) (hp : p.1 < p.2) (hb : ∀ a ∈ acc, a.2 ≤ p.1) : Apart (joinS acc p) ∧ (∀ x, inS x (joinS acc p) ↔ inS x acc ∨ inS x [p]) ∧ ∀ a ∈ joinS acc p, a.2 ≤ p.2 := by
  obtain ⟨h1, h2⟩ := h
  rcases List.eq_nil_or_concat acc with rfl | ⟨a, l, rfl⟩
  · refine ⟨⟨by simp [joinS_none], by simpa [joinS_none] using hp⟩, fun x => ?_, ?_⟩
    · rw [joinS_none]
      constructor
      · exact .inr
      · rintro (⟨q, hq, -⟩ | h)
        · cases hq
        · exact h
    · intro q hq; simp [joinS_none] at hq; subst hq; grind
  · rw [List.concat_eq_append] at *
    obtain ⟨g1, g2, g3⟩ := List.pairwise_append.mp h1
    have hl := hb l (by simp)
    have hl2 := h2 l (by simp)
    have hlt : ∀ b ∈ a, b.2 < l.1 := fun b hbm => g3 b hbm l (by simp)
    rw [joinS_some]
    split
    · rename_i e
      refine ⟨⟨List.pairwise_append.mpr ⟨g1, by simp, fun b hbm q hq => ?_⟩, fun q hq => ?_⟩, fun x => ?_, fun q hq => ?_⟩
      · simp at hq; subst hq; exact hlt b hbm
      · rcases List.mem_append.mp hq with hq | hq
        · exact h2 q (by simp [hq])
        · simp at hq; subst hq
          show l.1 < p.2
          grind
      · rw [inS_app, inS_app, inS_one, inS_one, inS_one]
        constructor
        · rintro (h | ⟨y1, y2⟩)
          · exact .inl (.inl h)
          · by_cases z : x < l.2
            · exact .inl (.inr ⟨y1, z⟩)
            · exact .inr ⟨by grind, y2⟩
        · rintro ((h | ⟨y1, y2⟩) | ⟨y1, y2⟩)
          · exact .inl h
          · refine .inr ⟨y1, ?_⟩
            show x < p.2
            grind
          · refine .inr ⟨?_, y2⟩
            show l.1 ≤ x
            grind
      · rcases List.mem_append.mp hq with hq | hq
        · have := hb q (by simp [hq]); grind
        · simp at hq; subst hq
          show p.2 ≤ p.2
          grind
    · rename_i e
      refine ⟨⟨List.pairwise_append.mpr ⟨h1, by simp, fun b hbm q hq => ?_⟩, fun q hq => ?_⟩, fun x => inS_app, fun q hq => ?_⟩
      · simp only [List.mem_singleton] at hq
        subst hq
        rcases List.mem_append.mp hbm with hbm | hbm
        · have := hlt b hbm; grind
        · simp only [List.mem_singleton] at hbm
          subst hbm
          grind
      · rcases List.mem_append.mp hq with hq | hq
        · exact h2 q hq
        · simp only [List.mem_singleton] at hq; subst hq; exact hp
      · rcases List.mem_append.mp hq with hq | hq
        · have := hb q hq; grind
        · simp only [List.mem_singleton] at hq; subst hq; grind
theorem joinv_ok {ps : List (Q R × Q R)} (h : ps.Pairwise fun p q => p.2 ≤ q.1) (hl : ∀ p ∈ ps, p.1 < p.2) : Apart (joinv ps) ∧ ∀ x, inS x (joinv ps) ↔ inS x ps := by
  have key : ∀ (ps acc : List (Q R × Q R)), Apart acc → (ps.Pairwise fun p q => p.2 ≤ q.1) → (∀ p ∈ ps, p.1 < p.2) → (∀ a ∈ acc, ∀ p ∈ ps, a.2 ≤ p.1) → Apart (ps.foldl joinS acc) ∧ ∀ x, inS x (ps.foldl joinS acc) ↔ inS x acc ∨ inS x ps := by
    intro ps
    induction ps with
    | nil => intro acc ha _ _ _; exact ⟨ha, fun x => by simp [inS]⟩
    | cons p ps ih =>
      intro acc ha hw hl hb
      obtain ⟨w1, w2⟩ := List.pairwise_cons.mp hw
      obtain ⟨j1, j2, j3⟩ := joinS_ok ha (hl p (by simp)) (fun a h => hb a h p (by simp))
      obtain ⟨k1, k2⟩ := ih (joinS acc p) j1 w2 (fun q hq => hl q (by simp [hq])) (fun a hA q hq => by
        have := j3 a hA
        have := w1 q hq
        grind)
      refine ⟨k1, fun x => ?_⟩
      rw [List.foldl_cons, k2, j2, show p :: ps = [p] ++ ps from rfl, inS_app]
      constructor
      · rintro ((h | h) | h)
        · exact .inl h
        · exact .inr (.inl h)
        · exact .inr (.inr h)
      · rintro (h | h | h)
        · exact .inl (.inl h)
        · exact .inl (.inr h)
        · exact .inr h
  obtain ⟨a, b⟩ := key ps [] ⟨by simp, by simp⟩ h hl (by simp)
  exact ⟨a, fun x => by rw [joinv, b]; simp [inS]⟩
/-! starts that fit -/
def lookEnds (ks : List Int) : List Int := ks.flatMap fun k => [k, k + 1]
theorem mem_lookEnds {ks : List Int} {j : Int} : j ∈ lookEnds ks ↔ ∃ k ∈ ks, j = k ∨ j = k + 1 := by simp [lookEnds]
noncomputable def partsv (r : Q R) (L : List Look) (ks : List Int) : List (Q R × Q R) := (pairsv (endsv r (lookEnds ks))).filter fun p => decide (fits r L p.1)
noncomputable def strv (r : Q R) (L : List Look) : List (Q R × Q R) := joinv (partsv r L (L.map (·.1)))
theorem endsv_lt {r : Q R} {ks : List Int} : ∀ e ∈ endsv r ks, 0 ≤ e ∧ e < 1 := fun e h => by
  rcases mem_endsv.mp h with rfl | ⟨k, -, rfl⟩
  · exact ⟨by grind, by grind⟩
  · exact ⟨fr_lo _, fr_hi _⟩
theorem endsv_head {r : Q R} {ks : List Int} : (endsv r ks).head? = some 0 := by
  have h0 : (0 : Q R) ∈ endsv r ks := mem_endsv.mpr (.inl rfl)
  have ha := endsv_asc (r := r) (ks := ks)
  have hl := endsv_lt (r := r) (ks := ks)
  generalize endsv r ks = es at *
  cases es with
  | nil => cases h0
  | cons e es =>
    rcases List.mem_cons.mp h0 with h0 | h0
    · rw [← h0]; rfl
    · have := (List.pairwise_cons.mp ha).1 0 h0
      have := (hl e (by simp)).1
      grind
theorem parts_wf {r : Q R} {L : List Look} {ks : List Int} : ((partsv r L ks).Pairwise fun p q => p.2 ≤ q.1) ∧ (∀ p ∈ partsv r L ks, p.1 < p.2 ∧ p.1 ∈ endsv r (lookEnds ks)) :=
  ⟨(pairsv_pw endsv_asc fun e h => (endsv_lt e h).2).sublist List.filter_sublist, fun p hp => by
    have := pairsv_lt (es := endsv r (lookEnds ks)) endsv_asc (fun e h => (endsv_lt e h).2) p ((List.mem_filter.mp hp).1)
    exact ⟨this.2, this.1⟩⟩
theorem fits_piece {r x y : Q R} {L : List Look} {ks : List Int} (hk : ∀ l ∈ L, l.1 ∈ ks) (x0 : 0 ≤ x) (x1 : x < 1) (y0 : 0 ≤ y) (y1 : y < 1) (h : ∀ e ∈ endsv r (lookEnds ks), e ≤ x ↔ e ≤ y) : fits r L x ↔ fits r L y := by
  have key : ∀ l ∈ L, ringv r x l.1 = ringv r y l.1 := fun l hl => by
    have h1 := hk l hl
    exact ring_same x0 x1 y0 y1 (h _ (mem_endsv.mpr (.inr ⟨l.1, mem_lookEnds.mpr ⟨l.1, h1, .inl rfl⟩, rfl⟩))) (h _ (mem_endsv.mpr (.inr ⟨l.1 + 1, mem_lookEnds.mpr ⟨l.1, h1, .inr rfl⟩, rfl⟩)))
  exact ⟨fun z l hl => (key l hl).symm.trans (z l hl), fun z l hl => (key l hl).trans (z l hl)⟩
theorem parts_fit {r x : Q R} {L : List Look} {ks : List Int} (hk : ∀ l ∈ L, l.1 ∈ ks) (x0 : 0 ≤ x) (x1 : x < 1) : inS x (partsv r L ks) ↔ fits r L x := by
  have hlt := fun e h => (endsv_lt (r := r) (ks := lookEnds ks) e h).2
  obtain ⟨p, h1, h2, h3, h4⟩ := pairsv_in x1 (endsv_asc (r := r) (ks := lookEnds ks)) hlt 0 endsv_head x0
  have hp := pairsv_lt endsv_asc hlt p h1
  have fp := fits_piece hk x0 x1 (endsv_lt _ hp.1).1 (endsv_lt _ hp.1).2 h4
  constructor
  · rintro ⟨q, hq, g1, g2⟩
    obtain ⟨q1, q2⟩ := List.mem_filter.mp hq
    have pw := pairsv_pw (endsv_asc (r := r) (ks := lookEnds ks)) hlt
    have : p = q := by
      obtain ⟨i, hi, rfl⟩ := List.mem_iff_getElem.mp h1
      obtain ⟨j, hj, rfl⟩ := List.mem_iff_getElem.mp q1
      rcases Nat.lt_trichotomy i j with z | z | z
      · have := List.pairwise_iff_getElem.mp pw i j hi hj z
        grind
      · subst z; rfl
      · have := List.pairwise_iff_getElem.mp pw j i hj hi z
        grind
    subst this
    exact fp.mpr (of_decide_eq_true q2)
  · intro z
    exact ⟨p, List.mem_filter.mpr ⟨h1, by simpa using fp.mp z⟩, h2, h3⟩
theorem str_apart {r : Q R} {L : List Look} : Apart (strv r L) := (joinv_ok parts_wf.1 fun p hp => (parts_wf.2 p hp).1).1
/-- just the starts that fit are in the stretches -/
theorem str_fit {r x : Q R} {L : List Look} (x0 : 0 ≤ x) (x1 : x < 1) : inS x (strv r L) ↔ fits r L x :=
  ((joinv_ok parts_wf.1 fun p hp => (parts_wf.2 p hp).1).2 x).trans (parts_fit (fun l hl => List.mem_map_of_mem hl) x0 x1)
end
end Qd

/-! Sd: numbers as lowest triples; keys of ends -/
namespace Pl
open PySem L2 Ev Ma Qd
section
variable {S : Sto} {R : Rt}
noncomputable def tp (v : Q R) : Int := (exists_low v).choose
noncomputable def tq (v : Q R) : Int := (exists_low v).choose_spec.choose
noncomputable def tn (v : Q R) : Int := (exists_low v).choose_spec.choose_spec.choose
theorem t_low (v : Q R) : Low (tp v) (tq v) (tn v) := (exists_low v).choose_spec.choose_spec.choose_spec.1
theorem t_vl (v : Q R) : vl R (tp v) (tq v) (tn v) = v := (exists_low v).choose_spec.choose_spec.choose_spec.2
theorem t_pos (v : Q R) : 0 < tn v := (t_low v).pos
theorem t_uniq {x y z : Int} {v : Q R} (l : Low x y z) (e : vl R x y z = v) : x = tp v ∧ y = tq v ∧ z = tn v := low_uniq l (t_low v) (e.trans (t_vl v).symm)
noncomputable abbrev tD (v : Q R) : D := .tup [.int (tp v), .int (tq v), .int (tn v)]
theorem low_tD {x y z : Int} (l : Low x y z) : (.tup [.int x, .int y, .int z] : D) = tD (vl R x y z) := by
  obtain ⟨h1, h2, h3⟩ := t_uniq l rfl
  unfold tD
  rw [← h1, ← h2, ← h3]
def Bnd (k : Nat) (v : Q R) : Prop := Bt k (tp v) ∧ Bt k (tq v) ∧ Bt k (tn v)
theorem Bnd.mono {k l : Nat} {v : Q R} (h : Bnd k v) (hl : k ≤ l) : Bnd l v := ⟨h.1.mono hl, h.2.1.mono hl, h.2.2.mono hl⟩
theorem Bnd.tr {k : Nat} {v : Q R} (h : Bnd k v) : Tr R k v (tD v) := ⟨_, _, _, rfl, t_low v, h.1, h.2.1, h.2.2, t_vl v⟩
theorem Tr.eq_tD {k : Nat} {v : Q R} {d : D} (h : Tr R k v d) : d = tD v ∧ Bnd k v := by
  obtain ⟨x, y, z, rfl, l, b1, b2, b3, e⟩ := h
  obtain ⟨h1, h2, h3⟩ := t_uniq l e
  unfold tD
  rw [← h1, ← h2, ← h3]
  refine ⟨rfl, ?_⟩
  unfold Bnd
  rw [← h1, ← h2, ← h3]
  exact ⟨b1, b2, b3⟩
theorem lowT_tD {p q n : Int} (h : n ≠ 0) : lowT p q n = tD (vl R p q n) := by
  unfold lowT
  rw [low_tD (R := R) (low_of h), vl_cof h]
theorem bnd_vl {k : Nat} {p q n : Int} (hn : n ≠ 0) (bp : Bt k p) (bq : Bt k q) (bn : Bt k n) : Bnd k (vl R p q n) := (lowT_tr hn bp bq bn).eq_tD.2
theorem t_inj {v w : Q R} : (tp v = tp w ∧ tq v = tq w ∧ tn v = tn w) ↔ v = w := by
  constructor
  · rintro ⟨h1, h2, h3⟩
    rw [← t_vl v, ← t_vl w, h1, h2, h3]
  · rintro rfl; exact ⟨rfl, rfl, rfl⟩
theorem sEq_tD {v w : Q R} : sEq S (tD v) (tD w) = some (.bl (decide (v = w))) := by
  rw [sEqT3]
  congr 2
  rw [decide_eq_decide]
  exact t_inj
theorem tD_inj {v w : Q R} (h : tD v = tD w) : v = w := by
  simp only [tD, D.tup.injEq, List.cons.injEq, D.int.injEq, and_true] at h
  exact t_inj.mp h
theorem t_zero : tp (0 : Q R) = 0 ∧ tq (0 : Q R) = 0 ∧ tn (0 : Q R) = 1 := by
  obtain ⟨h1, h2, h3⟩ := t_uniq (R := R) (show Low 0 0 1 from ⟨by decide, by decide⟩) vl_zero
  exact ⟨h1.symm, h2.symm, h3.symm⟩
theorem t_one : tp (1 : Q R) = 1 ∧ tq (1 : Q R) = 0 ∧ tn (1 : Q R) = 1 := by
  obtain ⟨h1, h2, h3⟩ := t_uniq (R := R) (show Low 1 0 1 from ⟨by decide, by decide⟩) vl_one
  exact ⟨h1.symm, h2.symm, h3.symm⟩
theorem zero_tD : (.tup [.int 0, .int 0, .int 1] : D) = tD (0 : Q R) := by
  obtain ⟨h1, h2, h3⟩ := t_zero (R := R)
  unfold tD; rw [h1, h2, h3]
theorem one_tD : (.tup [.int 1, .int 0, .int 1] : D) = tD (1 : Q R) := by
  obtain ⟨h1, h2, h3⟩ := t_one (R := R)
  unfold tD; rw [h1, h2, h3]
theorem bnd_zero {k : Nat} (hk : 1 ≤ k) : Bnd k (0 : Q R) := by
  obtain ⟨h1, h2, h3⟩ := t_zero (R := R)
  refine Bnd.mono (k := 1) ?_ hk
  unfold Bnd; rw [h1, h2, h3]; exact ⟨by decide, by decide, by decide⟩
theorem bnd_one {k : Nat} (hk : 1 ≤ k) : Bnd k (1 : Q R) := by
  obtain ⟨h1, h2, h3⟩ := t_one (R := R)
  refine Bnd.mono (k := 1) ?_ hk
  unfold Bnd; rw [h1, h2, h3]; exact ⟨by decide, by decide, by decide⟩
theorem Pd.tD {k : Nat} {v : Q R} (h : Bnd k v) (hk : k ≤ 1900 := by decide) : ∃ p, Pd 1 6009 (Pl.tD v) p :=
  ⟨_, (Ev.Pd.tup (.cons (.int (h.1.mono hk)) (.cons (.int (h.2.1.mono hk)) (.cons (.int (h.2.2.mono hk)) .nil)))).mono (by decide) (by decide)⟩
end
end Pl
namespace Qd
open Ma
section
variable {R : Rt}
theorem rt_pos : (0 : Q R) ≤ rt := by
  have e : ev R 0 1 = rt := by rw [ev_eq, cast_zero, cast_one]; grind
  rw [← e, nn_ev]
  have := isq_nonneg (1 * 1 * R.d)
  unfold fl
  rw [if_neg (by decide)]
  omega
theorem rt_six (h : R.d ≤ 36) : (rt : Q R) ≤ 6 := by
  have s := rt_sq (R := R)
  have p := rt_pos (R := R)
  have c : (R.d : Q R) ≤ ((36 : Int) : Q R) := cast_le.mpr h
  have e : ((36 : Int) : Q R) = 36 := rfl
  rw [e] at c
  refine Classical.byContradiction fun z => ?_
  have z : (6 : Q R) < rt := by grind
  have a := Lean.Grind.OrderedRing.mul_lt_mul_of_pos_right z (show (0 : Q R) < 6 by grind)
  have b := Lean.Grind.OrderedRing.mul_lt_mul_of_pos_right z (show (0 : Q R) < rt by grind)
  grind
/-- a number with a root is not near 0 -/
theorem ev_gap {x y B : Int} (hd : R.d ≤ 36) (hx : -B ≤ x ∧ x ≤ B) (hy : -B ≤ y ∧ y ≤ B) (h : 0 < ev R x y) : 1 < ev R x y * ((7 * B + 1 : Int) : Q R) := by
  have s := rt_sq (R := R)
  have p := rt_pos (R := R)
  have six := rt_six hd
  have ne : ev R x y ≠ 0 := by grind
  have N := norm_ne ne
  have x1 := (cast_le (R := R)).mpr hx.1
  have x2 := (cast_le (R := R)).mpr hx.2
  have y1 := (cast_le (R := R)).mpr hy.1
  have y2 := (cast_le (R := R)).mpr hy.2
  have B0 : (0 : Q R) ≤ (B : Q R) := by
    have := (cast_le (R := R)).mpr (show 0 ≤ B by omega)
    rwa [cast_zero] at this
  have w1 : (y : Q R) * rt ≤ (B : Q R) * 6 := by
    have a := mul_le_r y2 p
    have b := mul_le_r six B0
    grind
  have w2 : -((B : Q R) * 6) ≤ (y : Q R) * rt := by
    have a := mul_le_r y1 p
    have b := mul_le_r six B0
    rw [cast_neg] at a
    grind
  rw [cast_neg] at x1
  have c := ev_mul (R := R) x y x (-y)
  have e : ev R (x * x + R.d * (y * -y)) (x * -y + y * x) = ((x * x - R.d * y * y : Int) : Q R) := by
    rw [show x * -y + y * x = 0 by grind, ev_int, show x * x + R.d * (y * -y) = x * x - R.d * y * y by grind]
  rw [e] at c
  have cj : ev R x (-y) = (x : Q R) - (y : Q R) * rt := by rw [ev_eq, cast_neg]; grind
  have m1 : ev R x (-y) < ((7 * B + 1 : Int) : Q R) := by
    rw [cj, cast_add, cast_mul, cast_one]
    have : ((7 : Int) : Q R) = 7 := rfl
    grind
  have m2 : -((7 * B + 1 : Int) : Q R) < ev R x (-y) := by
    rw [cj, cast_add, cast_mul, cast_one]
    have : ((7 : Int) : Q R) = 7 := rfl
    grind
  generalize ev R x (-y) = u at *
  generalize ev R x y = v at *
  generalize ((7 * B + 1 : Int) : Q R) = M at *
  rcases Int.lt_or_lt_of_ne N with z | z
  · have : ((x * x - R.d * y * y : Int) : Q R) ≤ ((-1 : Int) : Q R) := cast_le.mpr (by omega)
    rw [cast_neg, cast_one, c] at this
    have a := Lean.Grind.OrderedRing.mul_lt_mul_of_pos_right m2 h
    grind
  · have : ((1 : Int) : Q R) ≤ ((x * x - R.d * y * y : Int) : Q R) := cast_le.mpr (by omega)
    rw [cast_one, c] at this
    have a := Lean.Grind.OrderedRing.mul_lt_mul_of_pos_right m1 h
    grind
/-- numbers of one bottom, not great -/
def Near (n : Int) (v : Q R) : Prop := ∃ a b : Int, Bt 40 a ∧ Bt 40 b ∧ v = vl R a b n
noncomputable def keyv (v : Q R) : Int := fv (((10000000000000000000000000000000000000000 : Int) : Q R) * v)
theorem key_lt {n : Int} {v w : Q R} (hd : R.d ≤ 36) (hn : 0 < n) (h12 : n ≤ 1000000) (hv : Near n v) (hw : Near n w) (h : v < w) : keyv v < keyv w := by
  obtain ⟨a, b, ba, bb, rfl⟩ := hv
  obtain ⟨c, e, bc, be, rfl⟩ := hw
  have n0 := cast_pos (R := R) hn
  have m1 := vl_mul (R := R) (p := a) (q := b) (n := n) (by omega)
  have m2 := vl_mul (R := R) (p := c) (q := e) (n := n) (by omega)
  have d : ev R (c - a) (e - b) = (vl R c e n - vl R a b n) * (n : Q R) := by
    rw [show c - a = c + -a by omega, show e - b = e + -b by omega, ev_add, ev_neg, ← m1, ← m2]; grind
  have pos : 0 < ev R (c - a) (e - b) := by
    rw [d]
    exact Lean.Grind.OrderedRing.mul_pos (by grind) n0
  have g := ev_gap (B := 2199023255552) hd (x := c - a) (y := e - b) (by unfold Bt at *; omega) (by unfold Bt at *; omega) pos
  rw [d] at g
  have big : (n : Q R) * ((7 * 2199023255552 + 1 : Int) : Q R) ≤ ((10000000000000000000000000000000000000000 : Int) : Q R) := by
    rw [← cast_mul, cast_le]
    omega
  unfold keyv
  generalize vl R c e n = w at *
  generalize vl R a b n = v at *
  generalize ((10000000000000000000000000000000000000000 : Int) : Q R) = T at *
  generalize ((7 * 2199023255552 + 1 : Int) : Q R) = M at *
  have k := mul_le_r big (c := w - v) (by grind)
  have l : T * v + ((1 : Int) : Q R) ≤ T * w := by rw [cast_one]; grind
  have := fv_mono l
  rw [fv_add] at this
  omega
end
end Qd

/-! Se: ends of looks, as the program's table keeps them -/
namespace Pl
open PySem L2 Ev Ma Qd
section
variable {S : Sto} {R : Rt}
abbrev kD (R : Rt) (n p q : Int) : D := .tup [.int R.d, .int n, .tup [.int p, .int q]]
theorem KOk.bp {n p q : Int} (h : KOk R.d n p q) : Bt 7 p ∧ Bt 7 q ∧ Bt 7 n :=
  ⟨Bt.of_lt (by have := h.p1; omega) (by have := h.p2; omega), Bt.of_lt (by have := h.q1; omega) (by have := h.q2; omega), Bt.of_lt (by have := h.rate.n0; omega) (by have := h.n12; omega)⟩
theorem day_fv {n p q : Int} (h : KOk R.d n p q) (v : Q R) (k : Int) : ((tp v * n + k * p * tn v) + fl (tq v * n + k * q * tn v) R.d) / (tn v * n) = fv (v + (k : Q R) * vl R p q n) := by
  have n0 := h.rate.n0
  have t0 := t_pos v
  rw [← fv_vl (Int.mul_pos t0 n0), vl_add (by omega) (by omega), t_vl, vl_smul]
theorem endv_vl {n p q : Int} (hn : 0 < n) (d : Int) : vl R (-d * p - fv (vl R (-d * p) (-d * q) n) * n) (-d * q) n = endv (vl R p q n) d := by
  have e : vl R (-d * p) (-d * q) n = -((d : Q R) * vl R p q n) := by rw [vl_smul, cast_neg]; grind
  rw [e]
  have a := vl_add (R := R) (p := -d * p) (q := -d * q) (n := n) (s := -fv (-((d : Q R) * vl R p q n))) (t := 0) (m := 1) (by omega) (by decide)
  rw [e, vl_int, cast_neg] at a
  rw [show -d * p * 1 + -fv (-((d : Q R) * vl R p q n)) * n = -d * p - fv (-((d : Q R) * vl R p q n)) * n by rw [Int.neg_mul _ n]; omega, show -d * q * 1 + 0 * n = -d * q by omega, Int.mul_one] at a
  rw [a]
  unfold endv fr
  grind
theorem fv_bt {n p q : Int} (h : KOk R.d n p q) {d : Int} (hd : -2000 ≤ d ∧ d ≤ 2000) : Bt 25 (fv (vl R (-d * p) (-d * q) n)) := by
  obtain ⟨bp, bq, bn⟩ := h.bp
  have b : Bt 12 (-d) := Bt.of_lt (by omega) (by omega)
  rw [fv_vl h.rate.n0]
  exact (((b.mul bp).add (fl_b6 h.root (b.mul bq))).ediv n).mono (by decide)
theorem end_b {n p q : Int} (h : KOk R.d n p q) {d : Int} (hd : -2000 ≤ d ∧ d ≤ 2000) : Bt 36 (-d * p - fv (vl R (-d * p) (-d * q) n) * n) ∧ Bt 36 (-d * q) := by
  obtain ⟨bp, bq, bn⟩ := h.bp
  have b : Bt 12 (-d) := Bt.of_lt (by omega) (by omega)
  exact ⟨((b.mul bp).sub ((fv_bt h hd).mul bn)).mono (by decide), (b.mul bq).mono (by decide)⟩
theorem near_end {n p q : Int} (h : KOk R.d n p q) {d : Int} (hd : -2000 ≤ d ∧ d ≤ 2000) : Near n (endv (vl R p q n) d) := by
  obtain ⟨b1, b2⟩ := end_b h hd
  exact ⟨_, _, b1.mono (by decide), b2.mono (by decide), (endv_vl h.rate.n0 d).symm⟩
theorem bnd_end {n p q : Int} (h : KOk R.d n p q) {d : Int} (hd : -2000 ≤ d ∧ d ≤ 2000) : Bnd 40 (endv (vl R p q n) d) := by
  obtain ⟨b1, b2⟩ := end_b h hd
  have n0 := h.rate.n0
  rw [← endv_vl n0]
  exact bnd_vl (by omega) (b1.mono (by decide)) (b2.mono (by decide)) (h.bp.2.2.mono (by decide))
theorem near_zero {n : Int} (hn : 0 < n) : Near n (0 : Q R) := ⟨0, 0, by decide, by decide, by
  have : ev R 0 0 = 0 := ev_zero.mpr ⟨rfl, rfl⟩
  unfold vl
  rw [this]; grind⟩
theorem key_inj {n p q : Int} (h : KOk R.d n p q) {v w : Q R} (hv : Near n v) (hw : Near n w) (e : keyv v = keyv w) : v = w := by
  have d := h.root.2.1
  have n0 := h.rate.n0
  have n12 := h.n12
  refine Classical.byContradiction fun z => ?_
  rcases Std.le_total (a := v) (b := w) with y | y
  · have := key_lt (by omega) n0 (by omega) hv hw (by grind)
    omega
  · have := key_lt (by omega) n0 (by omega) hw hv (by grind)
    omega
/-- the table -/
noncomputable def gk (v : Q R) : Key × D := (.inl (keyv v), tD v)
noncomputable def put (v : Q R) (vs : List (Q R)) : List (Q R) := if v ∈ vs then vs else vs ++ [v]
theorem mem_put {v w : Q R} {vs : List (Q R)} : w ∈ put v vs ↔ w = v ∨ w ∈ vs := by
  unfold put
  split
  · constructor
    · exact .inr
    · rintro (rfl | h) <;> assumption
  · simp only [List.mem_append, List.mem_singleton]
    exact ⟨fun h => h.elim .inr .inl, fun h => h.elim .inr .inl⟩
theorem put_nodup {v : Q R} {vs : List (Q R)} (h : vs.Nodup) : (put v vs).Nodup := by
  unfold put
  split
  · exact h
  · rename_i z
    rw [List.nodup_append]
    refine ⟨h, by simp, fun a ha b hb => ?_⟩
    simp only [List.mem_singleton] at hb
    subst hb
    exact fun y => z (y ▸ ha)
theorem put_len {v : Q R} {vs : List (Q R)} : (put v vs).length ≤ vs.length + 1 := by
  unfold put
  split <;> simp
theorem putE_gk {v : Q R} {vs : List (Q R)} (hi : ∀ w ∈ vs, keyv w = keyv v → w = v) : putE (vs.map gk) (.inl (keyv v)) (tD v) = (put v vs).map gk := by
  unfold putE put
  by_cases hv : v ∈ vs
  · rw [if_pos hv, if_pos]
    · rw [List.map_map]
      refine List.map_congr_left fun w hw => ?_
      show (if (gk w).1 = .inl (keyv v) then ((gk w).1, tD v) else gk w) = gk w
      by_cases e : keyv w = keyv v
      · have e1 : (gk w).1 = .inl (keyv v) := by rw [← e]; rfl
        have := hi w hw e
        subst this
        rw [if_pos e1]; rfl
      · have e1 : ¬ (gk w).1 = .inl (keyv v) := fun z => e (by injection z)
        rw [if_neg e1]
    · rw [List.any_map]
      exact List.any_eq_true.mpr ⟨v, hv, by simp [gk]⟩
  · rw [if_neg hv, if_neg]
    · simp [gk]
    · intro z
      rw [List.any_map] at z
      obtain ⟨w, hw, e⟩ := List.any_eq_true.mp z
      have : w = v := hi w hw (by simpa [gk] using e)
      exact hv (this ▸ hw)
theorem getE_gk {v : Q R} : ∀ {vs : List (Q R)}, (∀ w ∈ vs, keyv w = keyv v → w = v) → v ∈ vs → getE (vs.map gk) (.inl (keyv v)) = some (tD v)
  | [], _, h => by cases h
  | w :: vs, hi, h => by
    rw [List.map_cons, gk, getE_cons]
    by_cases e : keyv w = keyv v
    · rw [if_pos (by rw [e]), hi w (by simp) e]
    · rw [if_neg (by simpa using e)]
      rcases List.mem_cons.mp h with rfl | h
      · exact absurd rfl e
      · exact getE_gk (fun w hw => hi w (by simp [hw])) h
theorem intK_gk : ∀ vs : List (Q R), intK ((vs.map gk).map (·.1)) = some (vs.map keyv)
  | [] => rfl
  | v :: vs => by
    have := intK_gk vs
    simp only [List.map_cons, gk, intK] at this ⊢
    rw [this]; rfl
theorem sort_gk {n p q : Int} (h : KOk R.d n p q) {vs es : List (Q R)} (hn : vs.Nodup) (ha : Asc es) (hm : ∀ v, v ∈ vs ↔ v ∈ es) (hk : ∀ v ∈ es, Near n v) : sortI (vs.map keyv) = es.map keyv := by
  have en : es.Nodup := ha.imp fun z y => by subst y; grind
  have pm : vs.Perm es := (List.perm_ext_iff_of_nodup hn en).mpr hm
  refine sorted_uniq ((sortI_perm _).trans (pm.map _)) (sortI_sorted _) ?_
  rw [List.pairwise_map]
  refine List.Pairwise.imp_of_mem ?_ ha
  intro a b hA hB z
  have d := h.root.2.1
  have n12 := h.n12
  have := key_lt (by omega) h.rate.n0 (by omega) (hk a hA) (hk b hB) z
  omega
theorem sortedD_gk {n p q : Int} (h : KOk R.d n p q) {vs es : List (Q R)} (hn : vs.Nodup) (ha : Asc es) (hm : ∀ v, v ∈ vs ↔ v ∈ es) (hk : ∀ v ∈ es, Near n v) (hl : vs.length < 64) : sSortedD [obK (vs.map gk)] [.ref 0] = some (.lst ((es.map keyv).map .int)) := by
  have e : dicE [obK (vs.map gk)] (.ref 0) = some (vs.map gk) := dicE_at rfl
  simp only [sSortedD, e, intK_gk, List.length_map, hl, if_true, sort_gk h hn ha hm hk]
theorem noRefs_map {α : Type} {f : α → D} (hf : ∀ x, noRef (f x) = true) : ∀ xs : List α, noRefs (xs.map f) = true
  | [] => rfl
  | x :: xs => by simp [noRefs, hf, noRefs_map hf xs]
theorem nr_tD (v : Q R) : noRef (tD v) = true := rfl
noncomputable abbrev pD (a : Q R × Q R) : D := .tup [tD a.1, tD a.2]
theorem nr_pD (a : Q R × Q R) : noRef (pD a) = true := rfl
abbrev lookD (l : Look) : D := .tup [.int l.1, .bl l.2]
theorem Pd.pD {k : Nat} {a : Q R × Q R} (h1 : Bnd k a.1) (h2 : Bnd k a.2) (hk : k ≤ 1900 := by decide) : ∃ p, Pd 2 12025 (Pl.pD a) p := by
  obtain ⟨p, a1⟩ := Pd.tD h1 hk
  obtain ⟨q, a2⟩ := Pd.tD h2 hk
  exact ⟨_, (Ev.Pd.tup (.cons a1 (.cons a2 .nil))).mono (by decide) (by decide)⟩
end
end Pl
namespace Qd
section
variable {R : Rt}
theorem joinS_all {P : Q R → Prop} {acc : List (Q R × Q R)} {q : Q R × Q R} (h : ∀ p ∈ acc, P p.1 ∧ P p.2) (hq : P q.1 ∧ P q.2) : ∀ p ∈ joinS acc q, P p.1 ∧ P p.2 := by
  rcases List.eq_nil_or_concat acc with rfl | ⟨a, l, rfl⟩
  · intro p hp; simp [joinS_none] at hp; subst hp; exact hq
  · rw [List.concat_eq_append] at *
    have hl := h l (by simp)
    rw [joinS_some]
    split
    · intro p hp
      rcases List.mem_append.mp hp with hp | hp
      · exact h p (by simp [hp])
      · simp only [List.mem_singleton] at hp; subst hp; exact ⟨hl.1, hq.2⟩
    · intro p hp
      rcases List.mem_append.mp hp with hp | hp
      · exact h p hp
      · simp only [List.mem_singleton] at hp; subst hp; exact hq
theorem foldl_all {P : Q R → Prop} : ∀ {ps acc : List (Q R × Q R)}, (∀ p ∈ acc, P p.1 ∧ P p.2) → (∀ p ∈ ps, P p.1 ∧ P p.2) → ∀ p ∈ ps.foldl joinS acc, P p.1 ∧ P p.2
  | [], acc, h, _ => h
  | q :: ps, acc, h, hp => fun p z => foldl_all (ps := ps) (acc := joinS acc q) (joinS_all h (hp q (by simp))) (fun p z => hp p (by simp [z])) p z
theorem joinv_all {P : Q R → Prop} {ps : List (Q R × Q R)} (h : ∀ p ∈ ps, P p.1 ∧ P p.2) : ∀ p ∈ joinv ps, P p.1 ∧ P p.2 := foldl_all (by simp) h
theorem joinS_len {acc : List (Q R × Q R)} {q : Q R × Q R} : (joinS acc q).length ≤ acc.length + 1 := by
  rcases List.eq_nil_or_concat acc with rfl | ⟨a, l, rfl⟩
  · simp [joinS_none]
  · rw [List.concat_eq_append, joinS_some]
    split <;> simp
theorem joinv_len (ps : List (Q R × Q R)) : (joinv ps).length ≤ ps.length := by
  have key : ∀ (ps acc : List (Q R × Q R)), (ps.foldl joinS acc).length ≤ acc.length + ps.length := by
    intro ps
    induction ps with
    | nil => intro acc; simp
    | cons p ps ih =>
      intro acc
      have := ih (joinS acc p)
      have := joinS_len (acc := acc) (q := p)
      simp only [List.foldl_cons, List.length_cons]; omega
  have := key ps []
  simpa [joinv] using this
theorem joinv_snoc {ps : List (Q R × Q R)} {p : Q R × Q R} : joinv (ps ++ [p]) = joinS (joinv ps) p := by simp [joinv]
theorem pairsv_mem : ∀ {es : List (Q R)}, ∀ p ∈ pairsv es, p.1 ∈ es ∧ (p.2 ∈ es ∨ p.2 = 1)
  | [], p, h => by simp [pairsv] at h
  | [e], p, h => by simp [pairsv] at h; subst h; simp
  | e :: f :: r, p, h => by
    rcases List.mem_cons.mp (show p ∈ (e, f) :: pairsv (f :: r) from h) with rfl | h
    · simp
    · obtain ⟨h1, h2⟩ := pairsv_mem p h
      exact ⟨by simp [h1], h2.elim (fun z => .inl (by simp [z])) .inr⟩
theorem pairsv_len : ∀ es : List (Q R), (pairsv es).length = es.length
  | [] => rfl
  | [e] => rfl
  | e :: f :: r => by simp [pairsv, pairsv_len (f :: r)]
theorem insv_len {v : Q R} : ∀ {xs : List (Q R)}, (insv v xs).length ≤ xs.length + 1
  | [] => by simp [insv]
  | x :: xs => by
    unfold insv
    have := insv_len (v := v) (xs := xs)
    split
    · simp
    · split
      · simp
      · simp; omega
theorem endsv_len {r : Q R} (ks : List Int) : (endsv r ks).length ≤ ks.length + 1 := by
  have key : ∀ (ks : List Int) (es : List (Q R)), (ks.foldl (fun es k => insv (endv r k) es) es).length ≤ es.length + ks.length := by
    intro ks
    induction ks with
    | nil => intro es; simp
    | cons k ks ih =>
      intro es
      have := ih (insv (endv r k) es)
      have := insv_len (v := endv r k) (xs := es)
      simp only [List.foldl_cons, List.length_cons]; omega
  have := key ks [0]
  simp only [List.length_singleton] at this
  unfold endsv; omega
theorem lookEnds_len (ks : List Int) : (lookEnds ks).length = 2 * ks.length := by
  induction ks with
  | nil => rfl
  | cons k ks ih => simp only [lookEnds, List.flatMap_cons, List.length_append, List.length_cons, List.length_nil] at *; omega
end
end Qd

/-! Py: inserting, pairs of ints in lists -/
namespace Ev
open PySem L2
section
variable {env : En} {S : Sto}
@[simp] theorem mInsV_po {i j k : Nat} {Q : D → Sto → Prop} {X : XQ} : (mIns (mVar i) (mVar j) (mVar k) env S).po Q X = (match env[i]? with
    | some (some (.ref n)) => (match env[j]? with
      | some (some (.int a)) => (match env[k]? with
        | some (some d) => opo S[n]? fun ob => lsE ob fun ds => (ds.length ≤ 16000000 ∧ 0 ≤ a ∧ a < 1000000000) ∧ Q .non (S.set n (.lst (ds.take a.toNat ++ [d] ++ ds.drop a.toNat)))
        | _ => False)
      | _ => False)
    | _ => False) := by
  unfold mIns mVar
  generalize env[i]? = o
  cases o with
  | none => rfl
  | some o =>
    cases o with
    | none => rfl
    | some v =>
      cases v with
      | ref n =>
        simp only
        cases q : S[n]? with
        | none =>
          generalize env[j]? = o
          generalize env[k]? = o'
          cases o with
          | none => rfl
          | some o => cases o with
            | none => rfl
            | some v => cases v with
              | int a => cases o' with
                | none => rfl
                | some o' => cases o' <;> rfl
              | _ => rfl
        | some ob =>
          generalize env[j]? = o
          generalize env[k]? = o'
          cases ob with
          | lst ds =>
            cases o with
            | none => rfl
            | some o => cases o with
              | none => rfl
              | some v => cases v with
                | int a => cases o' with
                  | none => rfl
                  | some o' => cases o' with
                    | none => rfl
                    | some d =>
                      simp only [Rs.bind_ok, q, opo_some, lsE_lst]
                      by_cases h : ds.length ≤ 16000000 ∧ 0 ≤ a ∧ a < 1000000000
                      · have hb : Nat.blt a.toNat 1000000000 = true := by rw [Nat.blt_eq]; omega
                        have hr : room ds.length = true := by simp [h.1]
                        simp [hr, h, hb]
                      · have : (room ds.length && (decide (0 ≤ a) && Nat.blt a.toNat 1000000000)) = false := by
                          rw [Bool.eq_false_iff]
                          intro z
                          simp only [Bool.and_eq_true, decide_eq_true_iff, Nat.blt_eq, room_eq] at z
                          exact h ⟨z.1, z.2.1, by omega⟩
                        simp only [this, Bool.false_eq_true, if_false, po_err, h, false_and]
                | _ =>
                  cases o' with
                  | none => rfl
                  | some o' => cases o' <;> rfl
          | _ =>
            cases o with
            | none => rfl
            | some o => cases o with
              | none => rfl
              | some v => cases v with
                | int a => cases o' with
                  | none => rfl
                  | some o' => cases o' <;> rfl
                | _ => rfl
      | _ => rfl
/-- pairs of ints -/
abbrev ipD (a : Int × Int) : D := .tup [.int a.1, .int a.2]
theorem pyAllP : ∀ xs : List (Int × Int), pyAll S (xs.map ipD) = some (xs.map fun a => .tuple [.int a.1, .int a.2])
  | [] => rfl
  | x :: xs => by simp [pyAll, pyOf, pyAllP xs]
theorem layP : ∀ xs : List (Int × Int), PyData.canLayAll0 (xs.map fun a => .tuple [.int a.1, .int a.2]) = true
  | [] => rfl
  | x :: xs => by simp [PyData.canLayAll0, PyData.canLay0, layP xs]
theorem depP : ∀ xs : List (Int × Int), PyData.depthAll (xs.map fun a => .tuple [.int a.1, .int a.2]) ≤ 2
  | [] => by simp [PyData.depthAll]
  | x :: xs => by
    have := depP xs
    simp [PyData.depthAll, PyData.depth]; omega
theorem inP {a : Int × Int} {xs : List (Int × Int)} {d : D} (h : pyTop S d = some (.list (xs.map fun a => .tuple [.int a.1, .int a.2]))) : sNotInX S (ipD a) d = some (.bl (!decide (a ∈ xs))) := by
  have e : sInB S (ipD a) d = none := by simp [sInB, vOf]
  have pt : pyTop S (ipD a) = some (.tuple [.int a.1, .int a.2]) := by simp [pyTop, pyOf, pyAll]
  have s1 : SeqAt.shaped (.tuple [.int a.1, .int a.2]) = true := by simp [SeqAt.shaped, PyData.canLay0, PyData.canLayAll0, PyData.depth, PyData.depthAll]
  have s2 : SeqAt.shaped (.list (xs.map fun a => .tuple [.int a.1, .int a.2])) = true := by
    have := depP xs
    simp [SeqAt.shaped, PyData.canLay0, layP, PyData.depth]; omega
  have any : ∀ ys : List (Int × Int), ((ys.map fun a => PyData.tuple [.int a.1, .int a.2]).any fun z => PyData.eqv z (.tuple [.int a.1, .int a.2])) = decide (a ∈ ys) := by
    intro ys
    induction ys with
    | nil => rfl
    | cons y ys ih =>
      rw [List.map_cons, List.any_cons, ih]
      simp only [PyData.eqv, PyData.eqvAll, Bool.and_true, List.mem_cons]
      rw [Bool.eq_iff_iff]
      simp only [Bool.or_eq_true, Bool.and_eq_true, beq_iff_eq, decide_eq_true_iff]
      constructor
      · rintro (⟨h1, h2⟩ | h)
        · exact .inl (Prod.ext h1.symm h2.symm)
        · exact .inr h
      · rintro (rfl | h)
        · exact .inl ⟨rfl, rfl⟩
        · exact .inr h
  simp only [sNotInX, sInDB, e, pt, h, s1, s2, Bool.and_self, if_true, Option.map_some, any]
theorem inP_ref {a : Int × Int} {xs : List (Int × Int)} {n : Nat} (h : S[n]? = some (.lst (xs.map ipD))) : sNotInX S (ipD a) (.ref n) = some (.bl (!decide (a ∈ xs))) := inP (by simp [pyTop, h, pyAllP])
theorem sLen_lst {n : Nat} {xs : List D} (h : S[n]? = some (.lst xs)) : sLen S [.ref n] = some (.int (xs.length : Int)) := sLen_ref h
end
end Ev

/-! Sl: ends and stretches as pairs of ints over one bottom, as the laws keep them -/
namespace Pl
open PySem L2 Ev Ma Qd
section
variable {S : Sto} {R : Rt}
abbrev kQ (R : Rt) (n p q : Int) : D := .tup [.int R.d, .int n, .int p, .int q]
abbrev P2 := Int × Int
noncomputable def va (R : Rt) (n : Int) (a : P2) : Q R := vl R a.1 a.2 n
theorem va_inj {n : Int} (hn : 0 < n) {a b : P2} (h : va R n a = va R n b) : a = b := by
  unfold va at h
  rw [vl_eq (by omega) (by omega)] at h
  have c := mul_inv (cast_ne (R := R) (show n ≠ 0 by omega))
  have : ev R a.1 a.2 = ev R b.1 b.2 := by
    generalize ev R a.1 a.2 = x at *
    generalize ev R b.1 b.2 = y at *
    generalize (n : Q R) = m at *
    have : x * m * m⁻¹ = y * m * m⁻¹ := by rw [h]
    grind
  obtain ⟨h1, h2⟩ := ev_inj this
  exact Prod.ext h1 h2
theorem vl_lin {a b p q n d : Int} : vl R (a + d * p) (b + d * q) n = vl R a b n + (d : Q R) * vl R p q n := by
  unfold vl; rw [ev_add, ev_smul]; grind
theorem vl_n0 {n : Int} (hn : 0 < n) : vl R n 0 n = 1 := by
  have c := mul_inv (cast_ne (R := R) (show n ≠ 0 by omega))
  unfold vl; rw [ev_int]; exact c
theorem va_sub {n : Int} (hn : 0 < n) (a b : P2) : ev R (a.1 - b.1) (a.2 - b.2) = (va R n a - va R n b) * (n : Q R) := by
  have m1 := vl_mul (R := R) (p := a.1) (q := a.2) (n := n) (by omega)
  have m2 := vl_mul (R := R) (p := b.1) (q := b.2) (n := n) (by omega)
  unfold va
  rw [show a.1 - b.1 = a.1 + -b.1 by omega, show a.2 - b.2 = a.2 + -b.2 by omega, ev_add, ev_neg, ← m1, ← m2]; grind
theorem va_lt {n : Int} (hn : 0 < n) {a b : P2} : 0 < ev R (a.1 - b.1) (a.2 - b.2) ↔ va R n b < va R n a := by
  have c := cast_pos (R := R) hn
  have i := inv_pos c
  have m := mul_inv (cast_ne (R := R) (show n ≠ 0 by omega))
  rw [va_sub hn]
  generalize va R n a = x at *
  generalize va R n b = y at *
  generalize (n : Q R) = z at *
  constructor
  · intro h
    have := Lean.Grind.OrderedRing.mul_pos h i
    rw [show (x - y) * z * z⁻¹ = x - y by grind] at this
    grind
  · intro h
    exact Lean.Grind.OrderedRing.mul_pos (by grind) c
/-- put where it belongs -/
theorem ins_at {α : Type} (f : α → Q R) (v : α) : ∀ xs : List α, xs.Pairwise (fun a b => f a < f b) → (∀ x ∈ xs, f x ≠ f v) →
    (xs.take (xs.filter fun x => decide (f x < f v)).length ++ [v] ++ xs.drop (xs.filter fun x => decide (f x < f v)).length).Pairwise fun a b => f a < f b
  | [], _, _ => by simp
  | x :: xs, h, hne => by
    obtain ⟨a1, a2⟩ := List.pairwise_cons.mp h
    by_cases hx : f x < f v
    · have ih := ins_at f v xs a2 fun y hy => hne y (by simp [hy])
      have e : ((x :: xs).filter fun x => decide (f x < f v)).length = (xs.filter fun x => decide (f x < f v)).length + 1 := by
        rw [List.filter_cons_of_pos (by simpa using hx), List.length_cons]
      rw [e, List.take_succ_cons, List.drop_succ_cons, List.cons_append, List.cons_append]
      refine List.pairwise_cons.mpr ⟨fun y hy => ?_, ih⟩
      rw [List.append_assoc, List.mem_append, List.mem_append] at hy
      rcases hy with hy | hy | hy
      · exact a1 y (List.mem_of_mem_take hy)
      · simp only [List.mem_singleton] at hy; subst hy; exact hx
      · exact a1 y (List.mem_of_mem_drop hy)
    · have hv : f v < f x := by
        have := hne x (by simp)
        grind
      have e : (x :: xs).filter (fun x => decide (f x < f v)) = [] := by
        rw [List.filter_eq_nil_iff]
        intro y hy
        rcases List.mem_cons.mp hy with rfl | hy
        · simpa using hx
        · have := a1 y hy
          simp only [decide_eq_true_eq]; grind
      rw [e]
      simp only [List.length_nil, List.take_zero, List.nil_append, List.drop_zero, List.singleton_append]
      refine List.pairwise_cons.mpr ⟨fun y hy => ?_, h⟩
      rcases List.mem_cons.mp hy with rfl | hy
      · exact hv
      · have := a1 y hy; grind
theorem mem_ins {α : Type} {xs : List α} {v y : α} {c : Nat} : y ∈ xs.take c ++ [v] ++ xs.drop c ↔ y = v ∨ y ∈ xs := by
  have : y ∈ xs ↔ y ∈ xs.take c ∨ y ∈ xs.drop c := by rw [← List.mem_append, List.take_append_drop]
  rw [this, List.mem_append, List.mem_append, List.mem_singleton]
  constructor
  · rintro ((h | h) | h)
    · exact .inr (.inl h)
    · exact .inl h
    · exact .inr (.inr h)
  · rintro (h | h | h)
    · exact .inl (.inr h)
    · exact .inl (.inl h)
    · exact .inr h
theorem len_ins {α : Type} {xs : List α} {v : α} {c : Nat} : (xs.take c ++ [v] ++ xs.drop c).length = xs.length + 1 := by
  simp only [List.length_append, List.length_take, List.length_drop, List.length_singleton]; omega
/-- stretches between neighbours -/
def pairsI (z : P2) : List P2 → List (P2 × P2)
  | [] => []
  | [x] => [(x, z)]
  | x :: y :: r => (x, y) :: pairsI z (y :: r)
theorem pairsI_len {z : P2} : ∀ xs : List P2, (pairsI z xs).length = xs.length
  | [] => rfl
  | [x] => rfl
  | x :: y :: r => by simp [pairsI, pairsI_len (y :: r)]
theorem pairsI_get {z : P2} : ∀ {xs : List P2} {k : Nat} {a : P2}, xs[k]? = some a → (pairsI z xs)[k]? = some (a, (xs[k + 1]?).getD z)
  | [], _, _, h => by simp at h
  | [x], 0, a, h => by simp at h; subst h; rfl
  | [x], k + 1, a, h => by simp at h
  | x :: y :: r, 0, a, h => by simp at h; subst h; rfl
  | x :: y :: r, k + 1, a, h => by
    rw [List.getElem?_cons_succ] at h
    have := pairsI_get (z := z) h
    simp only [pairsI, List.getElem?_cons_succ]
    exact this
noncomputable def va2 (R : Rt) (n : Int) (a : P2 × P2) : Q R × Q R := (va R n a.1, va R n a.2)
theorem pairsI_va {n : Int} {z : P2} (hz : va R n z = 1) : ∀ xs : List P2, (pairsI z xs).map (va2 R n) = pairsv (xs.map (va R n))
  | [] => rfl
  | [x] => by simp [pairsI, pairsv, va2, hz]
  | x :: y :: r => by
    have := pairsI_va hz (y :: r)
    simp only [pairsI, List.map_cons, pairsv] at this ⊢
    rw [this]; rfl
theorem pairsI_mem {z : P2} : ∀ {xs : List P2}, ∀ p ∈ pairsI z xs, p.1 ∈ xs ∧ (p.2 ∈ xs ∨ p.2 = z)
  | [], p, h => by simp [pairsI] at h
  | [e], p, h => by simp [pairsI] at h; subst h; simp
  | e :: f :: r, p, h => by
    rcases List.mem_cons.mp (show p ∈ (e, f) :: pairsI z (f :: r) from h) with rfl | h
    · simp
    · obtain ⟨h1, h2⟩ := pairsI_mem p h
      exact ⟨by simp [h1], h2.elim (fun z => .inl (by simp [z])) .inr⟩
def joinI (acc : List (P2 × P2)) (p : P2 × P2) : List (P2 × P2) := match acc.getLast? with
  | some l => if l.2 = p.1 then acc.dropLast ++ [(l.1, p.2)] else acc ++ [p]
  | none => [p]
theorem joinI_none {p : P2 × P2} : joinI [] p = [p] := rfl
theorem joinI_some {acc : List (P2 × P2)} {l p : P2 × P2} : joinI (acc ++ [l]) p = if l.2 = p.1 then acc ++ [(l.1, p.2)] else acc ++ [l] ++ [p] := by
  simp [joinI]
theorem joinI_va {n : Int} (hn : 0 < n) {acc : List (P2 × P2)} {p : P2 × P2} : (joinI acc p).map (va2 R n) = joinS (acc.map (va2 R n)) (va2 R n p) := by
  rcases List.eq_nil_or_concat acc with rfl | ⟨a, l, rfl⟩
  · rfl
  · rw [List.concat_eq_append, joinI_some, List.map_append, List.map_cons, List.map_nil, joinS_some]
    by_cases e : l.2 = p.1
    · have e2 : (va2 R n l).2 = (va2 R n p).1 := by show va R n l.2 = va R n p.1; rw [e]
      rw [if_pos e, if_pos e2]
      simp [va2]
    · have e2 : ¬ (va2 R n l).2 = (va2 R n p).1 := fun z => e (va_inj hn z)
      rw [if_neg e, if_neg e2]
      simp
theorem foldI_va {n : Int} (hn : 0 < n) : ∀ {ps acc : List (P2 × P2)}, (ps.foldl joinI acc).map (va2 R n) = (ps.map (va2 R n)).foldl joinS (acc.map (va2 R n))
  | [], acc => rfl
  | p :: ps, acc => by rw [List.foldl_cons, foldI_va hn, joinI_va hn]; rfl
theorem joinI_all {P : P2 → Prop} {acc : List (P2 × P2)} {q : P2 × P2} (h : ∀ p ∈ acc, P p.1 ∧ P p.2) (hq : P q.1 ∧ P q.2) : ∀ p ∈ joinI acc q, P p.1 ∧ P p.2 := by
  rcases List.eq_nil_or_concat acc with rfl | ⟨a, l, rfl⟩
  · intro p hp; simp [joinI_none] at hp; subst hp; exact hq
  · rw [List.concat_eq_append] at *
    have hl := h l (by simp)
    rw [joinI_some]
    split
    · intro p hp
      rcases List.mem_append.mp hp with hp | hp
      · exact h p (by simp [hp])
      · simp only [List.mem_singleton] at hp; subst hp; exact ⟨hl.1, hq.2⟩
    · intro p hp
      rcases List.mem_append.mp hp with hp | hp
      · exact h p hp
      · simp only [List.mem_singleton] at hp; subst hp; exact hq
theorem joinI_len {acc : List (P2 × P2)} {q : P2 × P2} : (joinI acc q).length ≤ acc.length + 1 := by
  rcases List.eq_nil_or_concat acc with rfl | ⟨a, l, rfl⟩
  · simp [joinI_none]
  · rw [List.concat_eq_append, joinI_some]
    split <;> simp
abbrev ppD (a : P2 × P2) : D := .tup [ipD a.1, ipD a.2]
theorem Pd.ip {a : P2} (h1 : Bt 1900 a.1) (h2 : Bt 1900 a.2) : ∃ p, Pd 1 4007 (ipD a) p := ⟨_, (Ev.Pd.tup (.cons (.int h1) (.cons (.int h2) .nil))).mono (by decide) (by decide)⟩
theorem Pd.pp {a : P2 × P2} (h1 : Bt 1900 a.1.1 ∧ Bt 1900 a.1.2) (h2 : Bt 1900 a.2.1 ∧ Bt 1900 a.2.2) : ∃ p, Pd 2 8021 (ppD a) p := by
  obtain ⟨p, a1⟩ := Pd.ip (a := a.1) h1.1 h1.2
  obtain ⟨q, a2⟩ := Pd.ip (a := a.2) h2.1 h2.2
  exact ⟨_, (Ev.Pd.tup (.cons a1 (.cons a2 .nil))).mono (by decide) (by decide)⟩
theorem Pd.look {l : Look} (h : Bt 1900 l.1) : ∃ p, Pd 1 2012 (lookD l) p := ⟨_, (Ev.Pd.tup (.cons (.int h) (.cons .bl .nil))).mono (by decide) (by decide)⟩
theorem sNeBl {a b : Bool} : sNe S (.bl a) (.bl b) = some (.bl (!decide (a = b))) := by cases a <;> cases b <;> rfl
end
end Pl

/-! Sm: lengths of stretches; finer ends keep them; a day's rings have the rate -/
namespace Qd
open Ma
section
variable {R : Rt}
theorem pairsv_cons (e : Q R) : ∀ {xs : List (Q R)} {f : Q R}, xs.head? = some f → pairsv (e :: xs) = (e, f) :: pairsv xs
  | [], _, h => by cases h
  | x :: xs, f, h => by cases h; rfl
theorem insv_head {v f : Q R} {xs : List (Q R)} (h : xs.head? = some f) (hv : f ≤ v) : (insv v xs).head? = some f := by
  cases xs with
  | nil => cases h
  | cons x xs =>
    simp only [List.head?_cons, Option.some.injEq] at h
    subst h
    unfold insv
    rw [if_neg (by grind)]
    split
    · rfl
    · rfl
/-- one end more, within a stretch on which P does not change -/
theorem lens_ins {P : Q R → Bool} {v : Q R} (v1 : v < 1) : ∀ {es : List (Q R)} {f : Q R}, Asc es → es.head? = some f → f ≤ v → (∀ p ∈ pairsv es, p.1 ≤ v → v < p.2 → P v = P p.1) →
    lens ((pairsv (insv v es)).filter fun p => P p.1) = lens ((pairsv es).filter fun p => P p.1)
  | [], _, _, h, _, _ => by cases h
  | [e], f, ha, h, hf, hp => by
    cases h
    unfold insv
    rw [if_neg (by grind)]
    split
    · rfl
    · have q := hp (e, 1) (by simp [pairsv]) hf v1
      simp only at q
      have e1 : pairsv (e :: insv v []) = [(e, v), (v, 1)] := by simp [insv, pairsv]
      rw [e1]
      simp only [pairsv, List.filter_cons, List.filter_nil, q]
      cases P e
      · simp only [Bool.false_eq_true, if_false]
      · simp only [if_true, lens]; grind
  | e :: g :: r, f, ha, h, hf, hp => by
    cases h
    obtain ⟨a1, a2⟩ := List.pairwise_cons.mp ha
    have eg := a1 g (by simp)
    unfold insv
    rw [if_neg (by grind)]
    by_cases he : v = e
    · rw [if_pos he]
    · rw [if_neg he]
      by_cases hg : g ≤ v
      · have ih := lens_ins (P := P) v1 a2 rfl hg fun p hm => hp p (by simp [pairsv, hm])
        rw [pairsv_cons e (insv_head (xs := g :: r) rfl hg), pairsv_cons e (xs := g :: r) rfl, List.filter_cons, List.filter_cons]
        split
        · simp only [lens, ih]
        · exact ih
      · have hin : insv v (g :: r) = v :: g :: r := by
          rw [insv, if_pos (by grind)]
        have q := hp (e, g) (by simp [pairsv]) hf (by grind)
        simp only at q
        rw [hin, pairsv_cons e (xs := v :: g :: r) rfl, pairsv_cons v (xs := g :: r) rfl, pairsv_cons e (xs := g :: r) rfl]
        simp only [List.filter_cons, q]
        cases P e
        · simp only [Bool.false_eq_true, if_false]
        · simp only [if_true, lens]; grind
/-- weights -/
noncomputable def wsum (g : Q R → Q R) : List (Q R × Q R) → Q R
  | [] => 0
  | p :: ps => (p.2 - p.1) * g p.1 + wsum g ps
theorem lens_wsum (P : Q R → Bool) : ∀ ps : List (Q R × Q R), lens (ps.filter fun p => P p.1) = wsum (fun x => if P x = true then 1 else 0) ps
  | [] => rfl
  | p :: ps => by
    have ih := lens_wsum P ps
    rw [List.filter_cons]
    cases h : P p.1
    · simp only [Bool.false_eq_true, if_false, wsum, h, ih]; grind
    · simp only [if_true, lens, wsum, h, ih]; grind
theorem wsum_congr {g g' : Q R → Q R} : ∀ {ps : List (Q R × Q R)}, (∀ p ∈ ps, g p.1 = g' p.1) → wsum g ps = wsum g' ps
  | [], _ => rfl
  | p :: ps, h => by simp only [wsum, h p (by simp), wsum_congr (ps := ps) fun q hq => h q (by simp [hq])]
theorem wsum_add {g g' : Q R → Q R} : ∀ ps : List (Q R × Q R), wsum (fun x => g x + g' x) ps = wsum g ps + wsum g' ps
  | [] => by simp only [wsum]; grind
  | p :: ps => by simp only [wsum, wsum_add ps]; grind
theorem wsum_sub {g g' : Q R → Q R} : ∀ ps : List (Q R × Q R), wsum (fun x => g x - g' x) ps = wsum g ps - wsum g' ps
  | [] => by simp only [wsum]; grind
  | p :: ps => by simp only [wsum, wsum_sub ps]; grind
theorem wsum_const {c : Q R} : ∀ {es : List (Q R)} {a : Q R}, es.head? = some a → wsum (fun _ => c) (pairsv es) = (1 - a) * c
  | [], _, h => by cases h
  | [e], a, h => by cases h; simp only [pairsv, wsum]; grind
  | e :: f :: r, a, h => by
    cases h
    have ih := wsum_const (c := c) (es := f :: r) rfl
    simp only [pairsv, wsum] at ih ⊢
    rw [ih]; grind
/-- up to one of the ends -/
theorem wsum_lt {v : Q R} : ∀ {es : List (Q R)} {a : Q R}, Asc es → es.head? = some a → v ∈ es → wsum (fun x => if x < v then 1 else 0) (pairsv es) = v - a
  | [], _, _, h, _ => by cases h
  | [e], a, _, h, hv => by
    cases h
    simp only [List.mem_singleton] at hv
    subst hv
    simp only [pairsv, wsum]
    rw [if_neg (by grind)]; grind
  | e :: f :: r, a, ha, h, hv => by
    cases h
    obtain ⟨a1, a2⟩ := List.pairwise_cons.mp ha
    have ef := a1 f (by simp)
    rcases List.mem_cons.mp hv with rfl | hv
    · have z : wsum (fun x => if x < v then (1 : Q R) else 0) (pairsv (v :: f :: r)) = wsum (fun _ => 0) (pairsv (v :: f :: r)) := wsum_congr fun p hp => by
        have := (pairsv_mem p hp).1
        rcases List.mem_cons.mp this with e | e
        · rw [if_neg (by grind)]
        · have := a1 p.1 e
          rw [if_neg (by grind)]
      rw [z, wsum_const (a := v) rfl]; grind
    · have ih := wsum_lt a2 rfl hv
      have fv_ : f ≤ v := by
        rcases List.mem_cons.mp hv with rfl | hv
        · grind
        · have := (List.pairwise_cons.mp a2).1 v hv; grind
      simp only [pairsv, wsum] at ih ⊢
      rw [ih, if_pos (by grind)]; grind
/-- the share of all starts -/
noncomputable def sharev (r : Q R) (L : List Look) (ks : List Int) : Q R := lens (partsv r L ks)
theorem str_lens (r : Q R) (L : List Look) : lens (strv r L) = sharev r L (L.map (·.1)) := joinv_lens _
theorem share_eq (r : Q R) (L : List Look) (ks : List Int) : sharev r L ks = wsum (fun x => if fits r L x then 1 else 0) (pairsv (endsv r (lookEnds ks))) := by
  unfold sharev partsv
  have := lens_wsum (fun x => decide (fits r L x)) (pairsv (endsv r (lookEnds ks)))
  rw [this]
  exact wsum_congr fun p _ => by simp
theorem ends_app (r : Q R) (ks js : List Int) : endsv r (ks ++ js) = js.foldl (fun es k => insv (endv r k) es) (endsv r ks) := by simp [endsv]
/-- finer ends: the same share -/
theorem share_more {r : Q R} {L : List Look} {ks : List Int} (hk : ∀ l ∈ L, l.1 ∈ ks) (js : List Int) : lens ((pairsv (endsv r (lookEnds ks ++ js))).filter fun p => decide (fits r L p.1)) = sharev r L ks := by
  have key : ∀ (js : List Int) (es : List (Q R)), Asc es → es.head? = some 0 → (∀ e ∈ es, 0 ≤ e ∧ e < 1) → (∀ e ∈ endsv r (lookEnds ks), e ∈ es) →
      lens ((pairsv (js.foldl (fun es k => insv (endv r k) es) es)).filter fun p => decide (fits r L p.1)) = lens ((pairsv es).filter fun p => decide (fits r L p.1)) := by
    intro js
    induction js with
    | nil => intro es _ _ _ _; rfl
    | cons j js ih =>
      intro es ha hh hl hs
      have e0 : (0 : Q R) ≤ endv r j := fr_lo _
      have e1 : endv r j < 1 := fr_hi _
      rw [List.foldl_cons, ih (insv (endv r j) es) (insv_asc ha) (insv_head hh e0) (fun e he => by
        rcases mem_insv.mp he with rfl | he
        · exact ⟨e0, e1⟩
        · exact hl e he) (fun e he => mem_insv.mpr (.inr (hs e he)))]
      refine lens_ins (P := fun x => decide (fits r L x)) e1 ha hh e0 fun p hp h1 h2 => ?_
      have hm := pairsv_lt ha (fun e he => (hl e he).2) p hp
      have fp := fits_piece (r := r) (L := L) (ks := ks) hk e0 e1 (hl _ hm.1).1 (hl _ hm.1).2 fun e he => by
        have hes := hs e he
        constructor
        · intro z
          -- no end stands within the stretch
          refine Classical.byContradiction fun y => ?_
          have pw := pairsv_pw ha fun e he => (hl e he).2
          obtain ⟨q, q1, q2, q3, q4⟩ := pairsv_in (hl e hes).2 ha (fun e he => (hl e he).2) 0 hh (hl e hes).1
          have hq := (q4 e hes).mp (by grind)
          obtain ⟨i, hi, rfl⟩ := List.mem_iff_getElem.mp hp
          obtain ⟨k, hk', rfl⟩ := List.mem_iff_getElem.mp q1
          rcases Nat.lt_trichotomy i k with w | w | w
          · have := List.pairwise_iff_getElem.mp pw i k hi hk' w
            grind
          · subst w; grind
          · have := List.pairwise_iff_getElem.mp pw k i hk' hi w
            grind
        · intro z; grind
      show decide _ = decide _
      rw [decide_eq_decide]
      exact fp
  rw [ends_app, key js (endsv r (lookEnds ks)) endsv_asc endsv_head (fun e he => endsv_lt e he) (fun e he => he)]
  rfl
/-- with a day more, rung and silent: both make the one without it -/
theorem share_both {r : Q R} {L : List Look} {d : Int} : lens (strv r (L ++ [(d, true)])) + lens (strv r (L ++ [(d, false)])) = lens (strv r L) := by
  have e : ∀ t : Bool, lookEnds ((L ++ [(d, t)]).map (·.1)) = lookEnds (L.map (·.1)) ++ [d, d + 1] := fun t => by simp [lookEnds]
  have m := share_more (r := r) (L := L) (ks := L.map (·.1)) (fun l hl => List.mem_map_of_mem hl) [d, d + 1]
  have f : ∀ t x, fits r (L ++ [(d, t)]) x ↔ fits r L x ∧ ringv r x d = t := fun t x => by
    unfold fits
    simp only [List.mem_append, List.mem_singleton]
    constructor
    · intro h; exact ⟨fun l hl => h l (.inl hl), h (d, t) (.inr rfl)⟩
    · rintro ⟨h1, h2⟩ l (hl | rfl)
      · exact h1 l hl
      · exact h2
  rw [str_lens, str_lens, str_lens, share_eq, share_eq, e, e, ← m, lens_wsum (fun x => decide (fits r L x)), ← wsum_add]
  refine wsum_congr fun p _ => ?_
  simp only [f]
  by_cases h : fits r L p.1
  · cases hb : ringv r p.1 d <;> simp [h] <;> grind
  · simp [h]; grind
/-- one ring alone: the rate -/
theorem share_ring {r : Q R} {d : Int} (r0 : 0 < r) (r1 : r ≤ 1) : lens (strv r [(d, true)]) = r := by
  rw [str_lens, share_eq]
  have e : lookEnds ([(d, true)].map (·.1)) = [d, d + 1] := by simp [lookEnds]
  rw [e]
  have asc := endsv_asc (r := r) (ks := [d, d + 1])
  have hd := endsv_head (r := r) (ks := [d, d + 1])
  have lt := endsv_lt (r := r) (ks := [d, d + 1])
  have m1 : endv r d ∈ endsv r [d, d + 1] := mem_endsv.mpr (.inr ⟨d, by simp, rfl⟩)
  have m2 : endv r (d + 1) ∈ endsv r [d, d + 1] := mem_endsv.mpr (.inr ⟨d + 1, by simp, rfl⟩)
  have w1 := wsum_lt asc hd m1
  have w2 := wsum_lt asc hd m2
  have d1 : endv r d = -((d : Q R) * r) - (fv (-((d : Q R) * r)) : Q R) := rfl
  have d2 : endv r (d + 1) = -(((d + 1 : Int) : Q R) * r) - (fv (-(((d + 1 : Int) : Q R) * r)) : Q R) := rfl
  have key : ∀ p ∈ pairsv (endsv r [d, d + 1]), (if fits r [(d, true)] p.1 then (1 : Q R) else 0) = ((fv (-((d : Q R) * r)) - fv (-(((d + 1 : Int) : Q R) * r)) : Int) : Q R) + (if p.1 < endv r d then 1 else 0) - (if p.1 < endv r (d + 1) then 1 else 0) := by
    intro p hp
    have hm := lt _ (pairsv_mem p hp).1
    have f1 := fv_at (r := r) (k := d) hm.1 hm.2
    have f2 := fv_at (r := r) (k := d + 1) hm.1 hm.2
    have st : p.1 + ((d + 1 : Int) : Q R) * r = p.1 + (d : Q R) * r + r := by rw [cast_add, cast_one]; grind
    have g1 : fv (p.1 + (d : Q R) * r) ≤ fv (p.1 + ((d + 1 : Int) : Q R) * r) := fv_mono (by rw [st]; grind)
    have g2 : fv (p.1 + ((d + 1 : Int) : Q R) * r) ≤ fv (p.1 + (d : Q R) * r) + 1 := by
      rw [← fv_add]
      exact fv_mono (by rw [st, cast_one]; grind)
    have ft : fits r [(d, true)] p.1 ↔ fv (p.1 + (d : Q R) * r) < fv (p.1 + ((d + 1 : Int) : Q R) * r) := by
      unfold fits ringv
      simp
    simp only [ft]
    generalize fv (p.1 + (d : Q R) * r) = A at *
    generalize fv (p.1 + ((d + 1 : Int) : Q R) * r) = B at *
    generalize fv (-((d : Q R) * r)) = F at *
    generalize fv (-(((d + 1 : Int) : Q R) * r)) = G at *
    by_cases h1 : endv r d ≤ p.1
    · rw [if_pos h1] at f1
      rw [if_neg (show ¬ p.1 < endv r d by grind)]
      by_cases h2 : endv r (d + 1) ≤ p.1
      · rw [if_pos h2] at f2
        rw [if_neg (show ¬ p.1 < endv r (d + 1) by grind)]
        by_cases h3 : A < B
        · rw [if_pos h3, show F - G = 1 by omega, cast_one]; grind
        · rw [if_neg h3, show F - G = 0 by omega, cast_zero]; grind
      · rw [if_neg h2] at f2
        rw [if_pos (show p.1 < endv r (d + 1) by grind)]
        by_cases h3 : A < B
        · rw [if_pos h3, show F - G = 1 + 1 by omega, cast_add, cast_one]; grind
        · rw [if_neg h3, show F - G = 1 by omega, cast_one]; grind
    · rw [if_neg h1] at f1
      rw [if_pos (show p.1 < endv r d by grind)]
      by_cases h2 : endv r (d + 1) ≤ p.1
      · rw [if_pos h2] at f2
        rw [if_neg (show ¬ p.1 < endv r (d + 1) by grind)]
        by_cases h3 : A < B
        · rw [if_pos h3, show F - G = 0 by omega, cast_zero]; grind
        · rw [if_neg h3, show F - G = -1 by omega, cast_neg, cast_one]; grind
      · rw [if_neg h2] at f2
        rw [if_pos (show p.1 < endv r (d + 1) by grind)]
        by_cases h3 : A < B
        · rw [if_pos h3, show F - G = 1 by omega, cast_one]; grind
        · rw [if_neg h3, show F - G = 0 by omega, cast_zero]; grind
  rw [wsum_congr (g := fun x => if fits r [(d, true)] x then (1 : Q R) else 0) (g' := fun x => ((fv (-((d : Q R) * r)) - fv (-(((d + 1 : Int) : Q R) * r)) : Int) : Q R) + (if x < endv r d then 1 else 0) - (if x < endv r (d + 1) then 1 else 0)) key]
  have s1 := wsum_sub (g := fun x => ((fv (-((d : Q R) * r)) - fv (-(((d + 1 : Int) : Q R) * r)) : Int) : Q R) + (if x < endv r d then 1 else 0)) (g' := fun x => if x < endv r (d + 1) then (1 : Q R) else 0) (pairsv (endsv r [d, d + 1]))
  have s2 := wsum_add (g := fun _ => ((fv (-((d : Q R) * r)) - fv (-(((d + 1 : Int) : Q R) * r)) : Int) : Q R)) (g' := fun x => if x < endv r d then (1 : Q R) else 0) (pairsv (endsv r [d, d + 1]))
  rw [s1, s2, wsum_const hd, w1, w2, d1, d2, cast_sub, cast_add, cast_one]
  grind
end
end Qd

/-! Sn: sizes of sums over one bottom -/
namespace Pl
open PySem L2 Ev Ma Qd
section
variable {S : Sto} {R : Rt}
/-- numbers over one bottom, so many great ones -/
def NB (R : Rt) (c : Nat) (n : Int) (v : Q R) : Prop := ∃ a b : Int, a.natAbs ≤ c * 1099511627776 ∧ b.natAbs ≤ c * 1099511627776 ∧ v = vl R a b n
theorem NB.add {c e : Nat} {n : Int} {v w : Q R} (h : NB R c n v) (h' : NB R e n w) : NB R (c + e) n (v + w) := by
  obtain ⟨a, b, h1, h2, rfl⟩ := h
  obtain ⟨x, y, h3, h4, rfl⟩ := h'
  refine ⟨a + x, b + y, by omega, by omega, ?_⟩
  unfold vl; rw [ev_add]; grind
theorem NB.neg {c : Nat} {n : Int} {v : Q R} (h : NB R c n v) : NB R c n (-v) := by
  obtain ⟨a, b, h1, h2, rfl⟩ := h
  exact ⟨-a, -b, by omega, by omega, vl_neg.symm⟩
theorem NB.mono {c e : Nat} {n : Int} {v : Q R} (h : NB R c n v) (he : c ≤ e) : NB R e n v := by
  obtain ⟨a, b, h1, h2, rfl⟩ := h
  exact ⟨a, b, Nat.le_trans h1 (Nat.mul_le_mul_right _ he), Nat.le_trans h2 (Nat.mul_le_mul_right _ he), rfl⟩
theorem NB.bnd {c : Nat} {n : Int} {v : Q R} (h : NB R c n v) (hc : c ≤ 1000) (hn : 0 < n) (h12 : n ≤ 12) : Bnd 50 v := by
  obtain ⟨a, b, h1, h2, rfl⟩ := h
  exact bnd_vl (by omega) (Nat.lt_of_le_of_lt (Nat.le_trans h1 (Nat.mul_le_mul_right _ hc)) (by decide)) (Nat.lt_of_le_of_lt (Nat.le_trans h2 (Nat.mul_le_mul_right _ hc)) (by decide)) (Bt.mono (k := 20) (Bt.of_lt (by omega) (by omega)) (by decide))
theorem Near.nb {n : Int} {v : Q R} (h : Near n v) : NB R 1 n v := by
  obtain ⟨a, b, h1, h2, rfl⟩ := h
  unfold Bt at h1 h2
  exact ⟨a, b, by omega, by omega, rfl⟩
theorem NB.zero {n : Int} (hn : 0 < n) : NB R 0 n (0 : Q R) := ⟨0, 0, by decide, by decide, by
  have : ev R 0 0 = 0 := ev_zero.mpr ⟨rfl, rfl⟩
  unfold vl
  rw [this]; grind⟩
theorem str_near {n p q : Int} (h : KOk R.d n p q) {L : List Look} (hL : ∀ l ∈ L, -2000 ≤ l.1 ∧ l.1 < 2000) : ∀ a ∈ strv (vl R p q n) L, Near n a.1 ∧ Near n a.2 := by
  have n0 := h.rate.n0
  have hd : ∀ d ∈ L.map (·.1), -2000 ≤ d ∧ d < 2000 := fun d hd => by
    obtain ⟨l, hl, rfl⟩ := List.mem_map.mp hd
    exact hL l hl
  have ne : ∀ e ∈ endsv (vl R p q n) (lookEnds (L.map (·.1))), Near n e := fun e he => by
    rcases mem_endsv.mp he with rfl | ⟨k, hk, rfl⟩
    · exact near_zero n0
    · obtain ⟨j, hj, hk⟩ := mem_lookEnds.mp hk
      have := hd j hj
      exact near_end h (by omega)
  have n1 : Near n (1 : Q R) := ⟨n, 0, h.bp.2.2.mono (by decide), by decide, (vl_n0 n0).symm⟩
  refine joinv_all (P := Near n) fun p' hp => ?_
  obtain ⟨h1, h2⟩ := pairsv_mem p' (List.mem_filter.mp hp).1
  refine ⟨ne _ h1, ?_⟩
  rcases h2 with h2 | h2
  · exact ne _ h2
  · rw [h2]; exact n1
theorem ends_ln {r : Q R} {ds : List Int} (hl : ds.length ≤ 30) : (endsv r (lookEnds ds)).length ≤ 61 := by
  have := endsv_len (r := r) (lookEnds ds)
  rw [lookEnds_len] at this
  omega
theorem str_len {r : Q R} {L : List Look} (hl : L.length ≤ 30) : (strv r L).length ≤ 61 := by
  have el := ends_ln (r := r) (ds := L.map (·.1)) (by simpa using hl)
  have a1 := joinv_len (partsv r L (L.map (·.1)))
  have a2 := List.length_filter_le (fun p' : Q R × Q R => decide (fits r L p'.1)) (pairsv (endsv r (lookEnds (L.map (·.1)))))
  rw [pairsv_len] at a2
  unfold strv
  unfold partsv at a1 ⊢
  omega
theorem lens_nb {n : Int} (hn : 0 < n) : ∀ {ps : List (Q R × Q R)}, (∀ a ∈ ps, NB R 1 n a.1 ∧ NB R 1 n a.2) → NB R (2 * ps.length) n (lens ps)
  | [], _ => NB.zero hn
  | p :: ps, h => by
    have ih := lens_nb hn (ps := ps) fun a ha => h a (by simp [ha])
    have hp := h p (by simp)
    have := (hp.2.add hp.1.neg).add ih
    simp only [lens, List.length_cons]
    rw [show p.2 - p.1 = p.2 + -p.1 by grind]
    exact this.mono (by omega)
theorem share_nb {n p q : Int} (h : KOk R.d n p q) {L : List Look} (hL : ∀ l ∈ L, -2000 ≤ l.1 ∧ l.1 < 2000) (hl : L.length ≤ 30) : NB R 122 n (lens (strv (vl R p q n) L)) := by
  have := lens_nb h.rate.n0 (ps := strv (vl R p q n) L) fun a ha => ⟨Near.nb (str_near h hL a ha).1, Near.nb (str_near h hL a ha).2⟩
  exact this.mono (by have := str_len (r := vl R p q n) hl; omega)
noncomputable def sumv : List (Q R) → Q R
  | [] => 0
  | x :: xs => x + sumv xs
theorem sumv_app : ∀ xs ys : List (Q R), sumv (xs ++ ys) = sumv xs + sumv ys
  | [], ys => by simp only [List.nil_append, sumv]; grind
  | x :: xs, ys => by simp only [List.cons_append, sumv, sumv_app xs ys]; grind
theorem lens_sumv : ∀ ps : List (Q R × Q R), lens ps = sumv (ps.map fun p => p.2 - p.1)
  | [] => rfl
  | p :: ps => by simp only [lens, List.map_cons, sumv, lens_sumv ps]
end
end Pl

/-! Sv: verdicts -/
namespace Qd
open Ma
section
variable {R : Rt}
/-- an end within one of the stretches -/
noncomputable def inner (ps : List (Q R × Q R)) (e : Q R) : Bool := (ps.map fun a => decide (a.1 < e) && decide (e < a.2)).any id
/-- the points at which a day is looked at -/
noncomputable def pointsv (r : Q R) (ps : List (Q R × Q R)) (d : Int) : List (Q R) :=
  let p1 := ps.map (·.1)
  let p2 := if inner ps (endv r d) = true then p1 ++ [endv r d] else p1
  if inner ps (endv r (d + 1)) = true then p2 ++ [endv r (d + 1)] else p2
noncomputable def wordv (r : Q R) (ps : List (Q R × Q R)) (d : Int) : PySem.Str :=
  if ((pointsv r ps d).map fun x => ringv r x d).all id = true then "surely" else if ((pointsv r ps d).map fun x => ringv r x d).any id = true then "perhaps" else "never"
theorem inner_iff {ps : List (Q R × Q R)} {e : Q R} : inner ps e = true ↔ ∃ a ∈ ps, a.1 < e ∧ e < a.2 := by
  unfold inner
  rw [List.any_map, List.any_eq_true]
  constructor
  · rintro ⟨a, ha, h⟩
    simp only [Function.comp_apply, id, Bool.and_eq_true, decide_eq_true_iff] at h
    exact ⟨a, ha, h⟩
  · rintro ⟨a, ha, h⟩
    exact ⟨a, ha, by simp only [Function.comp_apply, id, Bool.and_eq_true, decide_eq_true_iff]; exact h⟩
theorem mem_points {r : Q R} {ps : List (Q R × Q R)} {d : Int} {x : Q R} : x ∈ pointsv r ps d ↔ (∃ a ∈ ps, x = a.1) ∨ (inner ps (endv r d) = true ∧ x = endv r d) ∨ (inner ps (endv r (d + 1)) = true ∧ x = endv r (d + 1)) := by
  unfold pointsv
  simp only
  have m1 : x ∈ ps.map (·.1) ↔ ∃ a ∈ ps, x = a.1 := by
    rw [List.mem_map]
    exact ⟨fun ⟨a, h, e⟩ => ⟨a, h, e.symm⟩, fun ⟨a, h, e⟩ => ⟨a, h, e.symm⟩⟩
  by_cases h1 : inner ps (endv r d) = true <;> by_cases h2 : inner ps (endv r (d + 1)) = true <;> simp only [h1, h2, if_true, Bool.false_eq_true, if_false, List.mem_append, List.mem_singleton, m1, true_and, false_and, or_false, false_or] <;> first | rfl | exact ⟨fun z => z.elim (fun z => z.elim .inl fun z => .inr (.inl z)) fun z => .inr (.inr z), fun z => z.elim (fun z => .inl (.inl z)) fun z => z.elim (fun z => .inl (.inr z)) .inr⟩
/-- each point is a start that fits -/
theorem points_in {r : Q R} {ps : List (Q R × Q R)} (ha : ∀ p ∈ ps, p.1 < p.2) {d : Int} {x : Q R} (h : x ∈ pointsv r ps d) : inS x ps := by
  rcases mem_points.mp h with ⟨a, h1, rfl⟩ | ⟨h1, rfl⟩ | ⟨h1, rfl⟩
  · have := ha a h1
    exact ⟨a, h1, by grind, this⟩
  · obtain ⟨a, h2, h3, h4⟩ := inner_iff.mp h1
    exact ⟨a, h2, by grind, h4⟩
  · obtain ⟨a, h2, h3, h4⟩ := inner_iff.mp h1
    exact ⟨a, h2, by grind, h4⟩
/-- each start that fits sees the day as one of the points does -/
theorem points_all {r : Q R} {ps : List (Q R × Q R)} (hb : ∀ p ∈ ps, 0 ≤ p.1 ∧ p.2 ≤ 1) {d : Int} {x : Q R} (h : inS x ps) : ∃ y ∈ pointsv r ps d, ringv r y d = ringv r x d := by
  obtain ⟨a, ha, h1, h2⟩ := h
  have b := hb a ha
  have e0 : (0 : Q R) ≤ endv r d := fr_lo _
  have e1 : endv r d < 1 := fr_hi _
  have f0 : (0 : Q R) ≤ endv r (d + 1) := fr_lo _
  have f1 : endv r (d + 1) < 1 := fr_hi _
  have ml : a.1 ∈ pointsv r ps d := mem_points.mpr (.inl ⟨a, ha, rfl⟩)
  have me : a.1 < endv r d → endv r d < a.2 → endv r d ∈ pointsv r ps d := fun z w => mem_points.mpr (.inr (.inl ⟨inner_iff.mpr ⟨a, ha, z, w⟩, rfl⟩))
  have mf : a.1 < endv r (d + 1) → endv r (d + 1) < a.2 → endv r (d + 1) ∈ pointsv r ps d := fun z w => mem_points.mpr (.inr (.inr ⟨inner_iff.mpr ⟨a, ha, z, w⟩, rfl⟩))
  have same := fun (y : Q R) (y0 : 0 ≤ y) (y1 : y < 1) (g : endv r d ≤ y ↔ endv r d ≤ x) (g' : endv r (d + 1) ≤ y ↔ endv r (d + 1) ≤ x) => ring_same (r := r) (x := y) (y := x) (d := d) y0 y1 (by grind) (by grind) g g'
  generalize endv r d = e at *
  generalize endv r (d + 1) = f at *
  by_cases h3 : a.1 < e ∧ e ≤ x
  · by_cases h4 : a.1 < f ∧ f ≤ x
    · by_cases h5 : e ≤ f
      · exact ⟨f, mf h4.1 (by grind), same f f0 f1 ⟨fun _ => h3.2, fun _ => h5⟩ ⟨fun _ => h4.2, fun _ => by grind⟩⟩
      · exact ⟨e, me h3.1 (by grind), same e e0 e1 ⟨fun _ => h3.2, fun _ => by grind⟩ ⟨fun _ => h4.2, fun _ => by grind⟩⟩
    · exact ⟨e, me h3.1 (by grind), same e e0 e1 ⟨fun _ => h3.2, fun _ => by grind⟩ ⟨fun z => by grind, fun z => by grind⟩⟩
  · by_cases h4 : a.1 < f ∧ f ≤ x
    · exact ⟨f, mf h4.1 (by grind), same f f0 f1 ⟨fun z => by grind, fun z => by grind⟩ ⟨fun _ => h4.2, fun _ => by grind⟩⟩
    · exact ⟨a.1, ml, same a.1 b.1 (by grind) ⟨fun z => by grind, fun z => by grind⟩ ⟨fun z => by grind, fun z => by grind⟩⟩
theorem ne_sp : ("surely" : PySem.Str) ≠ "perhaps" := by decide
theorem ne_sn : ("surely" : PySem.Str) ≠ "never" := by decide
theorem ne_pn : ("perhaps" : PySem.Str) ≠ "never" := by decide
theorem word_surely {r : Q R} {ps : List (Q R × Q R)} {d : Int} : wordv r ps d = "surely" ↔ ∀ x ∈ pointsv r ps d, ringv r x d = true := by
  have e : ((pointsv r ps d).map fun x => ringv r x d).all id = true ↔ ∀ x ∈ pointsv r ps d, ringv r x d = true := by simp
  unfold wordv
  rw [← e]
  split
  · rename_i h; exact ⟨fun _ => h, fun _ => rfl⟩
  · rename_i h
    split
    · exact ⟨fun z => absurd z.symm ne_sp, fun z => absurd z h⟩
    · exact ⟨fun z => absurd z.symm ne_sn, fun z => absurd z h⟩
theorem word_never {r : Q R} {ps : List (Q R × Q R)} {d : Int} (hne : ps ≠ []) : wordv r ps d = "never" ↔ ∀ x ∈ pointsv r ps d, ringv r x d = false := by
  have e : ((pointsv r ps d).map fun x => ringv r x d).any id = true ↔ ∃ x ∈ pointsv r ps d, ringv r x d = true := by simp
  have e2 : ((pointsv r ps d).map fun x => ringv r x d).all id = true ↔ ∀ x ∈ pointsv r ps d, ringv r x d = true := by simp
  have some_ : ∃ x, x ∈ pointsv r ps d := by
    cases ps with
    | nil => exact absurd rfl hne
    | cons a ps => exact ⟨a.1, mem_points.mpr (.inl ⟨a, by simp, rfl⟩)⟩
  unfold wordv
  split
  · rename_i h
    obtain ⟨x, hx⟩ := some_
    exact ⟨fun z => absurd z ne_sn, fun z => by have h1 := e2.mp h x hx; rw [z x hx] at h1; cases h1⟩
  · split
    · rename_i h
      obtain ⟨x, hx, h1⟩ := e.mp h
      exact ⟨fun z => absurd z ne_pn, fun z => by rw [z x hx] at h1; cases h1⟩
    · rename_i h
      refine ⟨fun _ x hx => ?_, fun _ => rfl⟩
      cases q : ringv r x d with
      | false => rfl
      | true => exact absurd (e.mpr ⟨x, hx, q⟩) h
theorem word_cases (r : Q R) (ps : List (Q R × Q R)) (d : Int) : wordv r ps d = "surely" ∨ wordv r ps d = "perhaps" ∨ wordv r ps d = "never" := by
  unfold wordv
  split
  · exact .inl rfl
  · split
    · exact .inr (.inl rfl)
    · exact .inr (.inr rfl)
/-- .. for all starts that fit -/
theorem surely_all {r : Q R} {ps : List (Q R × Q R)} (ha : ∀ p ∈ ps, p.1 < p.2) (hb : ∀ p ∈ ps, 0 ≤ p.1 ∧ p.2 ≤ 1) {d : Int} : wordv r ps d = "surely" ↔ ∀ x, inS x ps → ringv r x d = true := by
  rw [word_surely]
  constructor
  · intro h x hx
    obtain ⟨y, hy, e⟩ := points_all (r := r) hb (d := d) hx
    rw [← e]; exact h y hy
  · exact fun h x hx => h x (points_in ha hx)
theorem never_all {r : Q R} {ps : List (Q R × Q R)} (hne : ps ≠ []) (ha : ∀ p ∈ ps, p.1 < p.2) (hb : ∀ p ∈ ps, 0 ≤ p.1 ∧ p.2 ≤ 1) {d : Int} : wordv r ps d = "never" ↔ ∀ x, inS x ps → ringv r x d = false := by
  rw [word_never hne]
  constructor
  · intro h x hx
    obtain ⟨y, hy, e⟩ := points_all (r := r) hb (d := d) hx
    rw [← e]; exact h y hy
  · exact fun h x hx => h x (points_in ha hx)
theorem str_01 {r : Q R} {L : List Look} : ∀ p ∈ strv r L, 0 ≤ p.1 ∧ p.2 ≤ 1 := by
  have key := joinv_all (P := fun x : Q R => 0 ≤ x ∧ x ≤ 1) (ps := partsv r L (L.map (·.1))) fun p hp => by
    obtain ⟨h1, h2⟩ := pairsv_mem p (List.mem_filter.mp hp).1
    have b1 := endsv_lt _ h1
    refine ⟨⟨b1.1, by grind⟩, ?_⟩
    rcases h2 with h2 | h2
    · have b2 := endsv_lt _ h2
      exact ⟨b2.1, by grind⟩
    · rw [h2]; exact ⟨by grind, by grind⟩
  exact fun p hp => ⟨(key p hp).1.1, (key p hp).2.2⟩
/-- a start moved by a whole number -/
theorem ring_shift {r v : Q R} {k d : Int} : ringv r (v + (k : Q R)) d = ringv r v d := by
  unfold ringv
  have e : ∀ j : Int, fv (v + (k : Q R) + (j : Q R) * r) = fv (v + (j : Q R) * r) + k := fun j => by
    rw [← fv_add]
    congr 1
    grind
  rw [e, e, decide_eq_decide]
  omega
theorem ring_fr {r v : Q R} {d : Int} : ringv r (fr v) d = ringv r v d := by
  have := ring_shift (r := r) (v := fr v) (k := fv v) (d := d)
  rw [← this]
  congr 1
  unfold fr; grind
end
end Qd

/-! Su: stretches are told by their starts; starts within them -/
namespace Qd
open Ma
section
variable {R : Rt}
/-- stretches apart are told by their points -/
theorem apart_uniq : ∀ {ps qs : List (Q R × Q R)}, Apart ps → Apart qs → (∀ p ∈ ps, 0 ≤ p.1 ∧ p.2 ≤ 1) → (∀ p ∈ qs, 0 ≤ p.1 ∧ p.2 ≤ 1) → (∀ x, 0 ≤ x → x < 1 → (inS x ps ↔ inS x qs)) → ps = qs
  | [], [], _, _, _, _, _ => rfl
  | [], q :: qs, _, hq, _, bq, h => by
    have l := hq.2 q (by simp)
    have b := bq q (by simp)
    have := (h q.1 b.1 (by grind)).mpr ⟨q, by simp, by grind, l⟩
    obtain ⟨a, ha, -⟩ := this
    cases ha
  | p :: ps, [], hp, _, bp, _, h => by
    have l := hp.2 p (by simp)
    have b := bp p (by simp)
    have := (h p.1 b.1 (by grind)).mp ⟨p, by simp, by grind, l⟩
    obtain ⟨a, ha, -⟩ := this
    cases ha
  | p :: ps, q :: qs, hp, hq, bp, bq, h => by
    obtain ⟨p1, p2⟩ := List.pairwise_cons.mp hp.1
    obtain ⟨q1, q2⟩ := List.pairwise_cons.mp hq.1
    have lp := hp.2 p (by simp)
    have lq := hq.2 q (by simp)
    have ap := bp p (by simp)
    have aq := bq q (by simp)
    have in_p : ∀ x, inS x (p :: ps) → p.1 ≤ x := fun x ⟨a, ha, h1, h2⟩ => by
      rcases List.mem_cons.mp ha with rfl | ha
      · exact h1
      · have := p1 a ha; grind
    have in_q : ∀ x, inS x (q :: qs) → q.1 ≤ x := fun x ⟨a, ha, h1, h2⟩ => by
      rcases List.mem_cons.mp ha with rfl | ha
      · exact h1
      · have := q1 a ha; grind
    have e1 : p.1 = q.1 := by
      have a := in_q _ ((h p.1 ap.1 (by grind)).mp ⟨p, by simp, by grind, lp⟩)
      have b := in_p _ ((h q.1 aq.1 (by grind)).mpr ⟨q, by simp, by grind, lq⟩)
      grind
    have out_p : ¬ inS p.2 (p :: ps) := fun ⟨a, ha, h1, h2⟩ => by
      rcases List.mem_cons.mp ha with rfl | ha
      · grind
      · have := p1 a ha; grind
    have out_q : ¬ inS q.2 (q :: qs) := fun ⟨a, ha, h1, h2⟩ => by
      rcases List.mem_cons.mp ha with rfl | ha
      · grind
      · have := q1 a ha; grind
    have e2 : p.2 = q.2 := by
      rcases Std.le_total (a := p.2) (b := q.2) with z | z
      · refine Classical.byContradiction fun y => ?_
        exact out_p ((h p.2 (by grind) (by grind)).mpr ⟨q, by simp, by grind, by grind⟩)
      · refine Classical.byContradiction fun y => ?_
        exact out_q ((h q.2 (by grind) (by grind)).mp ⟨p, by simp, by grind, by grind⟩)
    have e : p = q := Prod.ext e1 e2
    subst e
    rw [apart_uniq (ps := ps) (qs := qs) ⟨p2, fun a ha => hp.2 a (by simp [ha])⟩ ⟨q2, fun a ha => hq.2 a (by simp [ha])⟩ (fun a ha => bp a (by simp [ha])) (fun a ha => bq a (by simp [ha])) fun x x0 x1 => ?_]
    constructor
    · rintro ⟨a, ha, h1, h2⟩
      obtain ⟨b, hb, h3, h4⟩ := (h x x0 x1).mp ⟨a, by simp [ha], h1, h2⟩
      rcases List.mem_cons.mp hb with rfl | hb
      · have := p1 a ha; grind
      · exact ⟨b, hb, h3, h4⟩
    · rintro ⟨a, ha, h1, h2⟩
      obtain ⟨b, hb, h3, h4⟩ := (h x x0 x1).mpr ⟨a, by simp [ha], h1, h2⟩
      rcases List.mem_cons.mp hb with rfl | hb
      · have := q1 a ha; grind
      · exact ⟨b, hb, h3, h4⟩
/-- a look that tells nothing new changes no stretch -/
theorem str_same {r : Q R} {L : List Look} {d : Int} {b : Bool} (h : ∀ x, inS x (strv r L) → ringv r x d = b) : strv r (L ++ [(d, b)]) = strv r L := by
  refine apart_uniq str_apart str_apart str_01 str_01 fun x x0 x1 => ?_
  rw [str_fit x0 x1, str_fit x0 x1]
  constructor
  · exact fun z l hl => z l (by simp [hl])
  · intro z l hl
    rcases List.mem_append.mp hl with hl | hl
    · exact z l hl
    · simp only [List.mem_singleton] at hl
      subst hl
      exact h x ((str_fit x0 x1).mpr z)
/-- more looks: fewer starts -/
theorem inS_more {r : Q R} {L : List Look} {l : Look} {x : Q R} (h : inS x (strv r (L ++ [l]))) : inS x (strv r L) := by
  have b : 0 ≤ x ∧ x < 1 := by
    obtain ⟨p, hp, h1, h2⟩ := h
    have := str_01 p hp
    exact ⟨by grind, by grind⟩
  rw [str_fit b.1 b.2] at h ⊢
  exact fun k hk => h k (by simp [hk])
theorem vl_wh {x y z k : Int} (hz : z ≠ 0) : vl R (x - z * k) y z = vl R x y z - (k : Q R) := by
  have a := vl_mul (R := R) (p := x - z * k) (q := y) (n := z) hz
  have b := vl_mul (R := R) (p := x) (q := y) (n := z) hz
  have c := mul_inv (cast_ne (R := R) hz)
  rw [show x - z * k = x + -(z * k) by omega, show (y : Int) = y + -0 by omega, ev_add, ev_neg, ev_int, cast_mul, ← b] at a
  rw [show y + -0 = y by omega, show x + -(z * k) = x - z * k by omega] at a
  generalize vl R (x - z * k) y z = u at *
  generalize vl R x y z = v at *
  generalize (z : Q R) = m at *
  generalize (k : Q R) = j at *
  have : u * m * m⁻¹ = (v * m + -(m * j)) * m⁻¹ := by rw [a]
  grind
end
end Qd

/-! the walk, printed by gen.py -/
namespace K01
open PySem PySem.Spec L2 Ev
/-! the row's top -/
noncomputable section
abbrev top (i : Nat) : Stmt := PySem.Challenge.pw_stoprows_k01_limits_and_errors.main.body.getD i (.Pass ⟨0, 0, 0, 0⟩)
end
abbrev k_MOST_ROOT : D := (.int 30)
abbrev k_MOST_SIZE : D := (.int 12)
abbrev k_MOST_RATE : D := (.int 100)
abbrev k_MOST_START : D := (.int 1000)
abbrev k_MOST_BELLS : D := (.int 4)
abbrev k_MOST_DAY : D := (.int 1000000000000000000000000000000)
abbrev k_MOST_LOOKS : D := (.int 20)
abbrev k_MOST_PATTERN : D := (.int 40)
theorem bt_ArithmeticError : bootBuiltins "ArithmeticError" = some (.type "ArithmeticError") := by kernel_rfl
theorem bt_LookupError : bootBuiltins "LookupError" = some (.type "LookupError") := by kernel_rfl
theorem bt_ValueError : bootBuiltins "ValueError" = some (.type "ValueError") := by kernel_rfl
theorem bt_abs : bootBuiltins "abs" = some (.builtin "abs") := by kernel_rfl
theorem bt_all : bootBuiltins "all" = some (.builtin "all") := by kernel_rfl
theorem bt_bool : bootBuiltins "bool" = some (.type "bool") := by kernel_rfl
theorem bt_divmod : bootBuiltins "divmod" = some (.builtin "divmod") := by kernel_rfl
theorem bt_int : bootBuiltins "int" = some (.type "int") := by kernel_rfl
theorem bt_isinstance : bootBuiltins "isinstance" = some (.builtin "isinstance") := by kernel_rfl
theorem bt_len : bootBuiltins "len" = some (.builtin "len") := by kernel_rfl
theorem bt_list : bootBuiltins "list" = some (.type "list") := by kernel_rfl
theorem bt_max : bootBuiltins "max" = some (.builtin "max") := by kernel_rfl
theorem bt_min : bootBuiltins "min" = some (.builtin "min") := by kernel_rfl
theorem bt_repr : bootBuiltins "repr" = some (.builtin "repr") := by kernel_rfl
theorem bt_str : bootBuiltins "str" = some (.type "str") := by kernel_rfl
theorem bt_tuple : bootBuiltins "tuple" = some (.type "tuple") := by kernel_rfl
abbrev tabi : Anc := [("Broken", ["Broken", "NoAnswer", "ArithmeticError"]), ("InUse", ["InUse", "NoAnswer", "ArithmeticError"]), ("InvalidBells", ["InvalidBells", "WrongValue", "ValueError"]), ("InvalidDay", ["InvalidDay", "WrongValue", "ValueError"]), ("InvalidDeeds", ["InvalidDeeds", "WrongValue", "ValueError"]), ("InvalidIndex", ["InvalidIndex", "WrongValue", "ValueError"]), ("InvalidLine", ["InvalidLine", "WrongValue", "ValueError"]), ("InvalidLooks", ["InvalidLooks", "WrongValue", "ValueError"]), ("InvalidName", ["InvalidName", "WrongValue", "ValueError"]), ("InvalidNumber", ["InvalidNumber", "WrongValue", "ValueError"]), ("InvalidPattern", ["InvalidPattern", "WrongValue", "ValueError"]), ("InvalidRate", ["InvalidRate", "WrongValue", "ValueError"]), ("InvalidRoot", ["InvalidRoot", "WrongValue", "ValueError"]), ("InvalidStart", ["InvalidStart", "WrongValue", "ValueError"]), ("InvalidText", ["InvalidText", "WrongValue", "ValueError"]), ("InvalidWay", ["InvalidWay", "WrongValue", "ValueError"]), ("InvalidWish", ["InvalidWish", "WrongValue", "ValueError"]), ("NoAnswer", ["NoAnswer", "ArithmeticError"]), ("NoOther", ["NoOther", "NoAnswer", "ArithmeticError"]), ("NoStart", ["NoStart", "NoAnswer", "ArithmeticError"]), ("NotABell", ["NotABell", "WrongValue", "ValueError"]), ("NothingToUndo", ["NothingToUndo", "NoAnswer", "ArithmeticError"]), ("TooGreat", ["TooGreat", "NoAnswer", "ArithmeticError"]), ("UnknownName", ["UnknownName", "WrongName", "LookupError"]), ("WrongName", ["WrongName", "LookupError"]), ("WrongValue", ["WrongValue", "ValueError"])]
abbrev kni : List PySem.Str := ["Broken", "InUse", "InvalidBells", "InvalidDay", "InvalidDeeds", "InvalidIndex", "InvalidLine", "InvalidLooks", "InvalidName", "InvalidNumber", "InvalidPattern", "InvalidRate", "InvalidRoot", "InvalidStart", "InvalidText", "InvalidWay", "InvalidWish", "NoAnswer", "NoOther", "NoStart", "NotABell", "NothingToUndo", "TooGreat", "UnknownName", "WrongName", "WrongValue"]
abbrev knb : List PySem.Str := ["ArithmeticError", "LookupError", "ValueError"]
def Ix : PySem.Str → PySem.Str → Option Bool := tabT tabi (kni ++ knb)
abbrev kn_given : List PySem.Str := ["InvalidDay", "InvalidIndex", "InvalidLine", "InvalidName", "InvalidNumber", "InvalidPattern", "InvalidRate", "InvalidRoot", "InvalidStart", "InvalidText", "InvalidWay", "InvalidWish", "NotABell", "TooGreat", "UnknownName"]
abbrev kn_index : List PySem.Str := ["Broken", "InUse", "InvalidBells", "InvalidDeeds", "InvalidLooks"]
structure Fx (K : PySem.W.Frag) (mg : PySem.Str → Option Value) : Prop where
  z : True
  f_ArithmeticError : mg "ArithmeticError" = none
  f_LookupError : mg "LookupError" = none
  f_ValueError : mg "ValueError" = none
  f_abs : mg "abs" = none
  f_all : mg "all" = none
  f_bool : mg "bool" = none
  f_divmod : mg "divmod" = none
  f_enumerate : mg "enumerate" = none
  f_int : mg "int" = none
  f_isinstance : mg "isinstance" = none
  f_len : mg "len" = none
  f_list : mg "list" = none
  f_max : mg "max" = none
  f_min : mg "min" = none
  f_range : mg "range" = none
  f_repr : mg "repr" = none
  f_str : mg "str" = none
  f_tuple : mg "tuple" = none
  k_MOST_ROOT : KD K mg "MOST_ROOT" k_MOST_ROOT
  k_MOST_SIZE : KD K mg "MOST_SIZE" k_MOST_SIZE
  k_MOST_RATE : KD K mg "MOST_RATE" k_MOST_RATE
  k_MOST_START : KD K mg "MOST_START" k_MOST_START
  k_MOST_BELLS : KD K mg "MOST_BELLS" k_MOST_BELLS
  k_MOST_DAY : KD K mg "MOST_DAY" k_MOST_DAY
  k_MOST_LOOKS : KD K mg "MOST_LOOKS" k_MOST_LOOKS
  k_MOST_PATTERN : KD K mg "MOST_PATTERN" k_MOST_PATTERN
  X_NoAnswer : ExcN K mg "NoAnswer"
  X_NoOther : ExcN K mg "NoOther"
  X_NoStart : ExcN K mg "NoStart"
  X_NothingToUndo : ExcN K mg "NothingToUndo"
  X_WrongName : ExcN K mg "WrongName"
  X_WrongValue : ExcN K mg "WrongValue"
  G_Broken : ∃ C, mg "Broken" = some (.ref C)
  G_InUse : ∃ C, mg "InUse" = some (.ref C)
  G_InvalidBells : ∃ C, mg "InvalidBells" = some (.ref C)
  G_InvalidDay : ∃ C, mg "InvalidDay" = some (.ref C)
  G_InvalidDeeds : ∃ C, mg "InvalidDeeds" = some (.ref C)
  G_InvalidIndex : ∃ C, mg "InvalidIndex" = some (.ref C)
  G_InvalidLine : ∃ C, mg "InvalidLine" = some (.ref C)
  G_InvalidLooks : ∃ C, mg "InvalidLooks" = some (.ref C)
  G_InvalidName : ∃ C, mg "InvalidName" = some (.ref C)
  G_InvalidNumber : ∃ C, mg "InvalidNumber" = some (.ref C)
  G_InvalidPattern : ∃ C, mg "InvalidPattern" = some (.ref C)
  G_InvalidRate : ∃ C, mg "InvalidRate" = some (.ref C)
  G_InvalidRoot : ∃ C, mg "InvalidRoot" = some (.ref C)
  G_InvalidStart : ∃ C, mg "InvalidStart" = some (.ref C)
  G_InvalidText : ∃ C, mg "InvalidText" = some (.ref C)
  G_InvalidWay : ∃ C, mg "InvalidWay" = some (.ref C)
  G_InvalidWish : ∃ C, mg "InvalidWish" = some (.ref C)
  G_NoAnswer : ∃ C, mg "NoAnswer" = some (.ref C)
  G_NoOther : ∃ C, mg "NoOther" = some (.ref C)
  G_NoStart : ∃ C, mg "NoStart" = some (.ref C)
  G_NotABell : ∃ C, mg "NotABell" = some (.ref C)
  G_NothingToUndo : ∃ C, mg "NothingToUndo" = some (.ref C)
  G_TooGreat : ∃ C, mg "TooGreat" = some (.ref C)
  G_UnknownName : ∃ C, mg "UnknownName" = some (.ref C)
  G_WrongName : ∃ C, mg "WrongName" = some (.ref C)
  G_WrongValue : ∃ C, mg "WrongValue" = some (.ref C)
  IX : IsT K mg Ix
  XF_given : XfT K mg kn_given "given"
  XF_index : XfT K mg kn_index "index"
structure FxI (P : Program) (w : World) (K : PySem.W.Frag) (mg : PySem.Str → Option Value) (base : Heap) : Prop where
  z : True
  E_Broken : ExcI P w K mg base "Broken" "index"
  E_InUse : ExcI P w K mg base "InUse" "index"
  E_InvalidBells : ExcI P w K mg base "InvalidBells" "index"
  E_InvalidDay : ExcI P w K mg base "InvalidDay" "given"
  E_InvalidDeeds : ExcI P w K mg base "InvalidDeeds" "index"
  E_InvalidIndex : ExcI P w K mg base "InvalidIndex" "given"
  E_InvalidLine : ExcI P w K mg base "InvalidLine" "given"
  E_InvalidLooks : ExcI P w K mg base "InvalidLooks" "index"
  E_InvalidName : ExcI P w K mg base "InvalidName" "given"
  E_InvalidNumber : ExcI P w K mg base "InvalidNumber" "given"
  E_InvalidPattern : ExcI P w K mg base "InvalidPattern" "given"
  E_InvalidRate : ExcI P w K mg base "InvalidRate" "given"
  E_InvalidRoot : ExcI P w K mg base "InvalidRoot" "given"
  E_InvalidStart : ExcI P w K mg base "InvalidStart" "given"
  E_InvalidText : ExcI P w K mg base "InvalidText" "given"
  E_InvalidWay : ExcI P w K mg base "InvalidWay" "given"
  E_InvalidWish : ExcI P w K mg base "InvalidWish" "given"
  E_NotABell : ExcI P w K mg base "NotABell" "given"
  E_TooGreat : ExcI P w K mg base "TooGreat" "given"
  E_UnknownName : ExcI P w K mg base "UnknownName" "given"
  K_Broken : ExcK P w K mg base "Broken" "index" "index"
  K_InUse : ExcK P w K mg base "InUse" "index" "index"
  K_InvalidBells : ExcK P w K mg base "InvalidBells" "index" "index"
  K_InvalidDay : ExcK P w K mg base "InvalidDay" "given" "given"
  K_InvalidDeeds : ExcK P w K mg base "InvalidDeeds" "index" "index"
  K_InvalidIndex : ExcK P w K mg base "InvalidIndex" "given" "given"
  K_InvalidLine : ExcK P w K mg base "InvalidLine" "given" "given"
  K_InvalidLooks : ExcK P w K mg base "InvalidLooks" "index" "index"
  K_InvalidName : ExcK P w K mg base "InvalidName" "given" "given"
  K_InvalidNumber : ExcK P w K mg base "InvalidNumber" "given" "given"
  K_InvalidPattern : ExcK P w K mg base "InvalidPattern" "given" "given"
  K_InvalidRate : ExcK P w K mg base "InvalidRate" "given" "given"
  K_InvalidRoot : ExcK P w K mg base "InvalidRoot" "given" "given"
  K_InvalidStart : ExcK P w K mg base "InvalidStart" "given" "given"
  K_InvalidText : ExcK P w K mg base "InvalidText" "given" "given"
  K_InvalidWay : ExcK P w K mg base "InvalidWay" "given" "given"
  K_InvalidWish : ExcK P w K mg base "InvalidWish" "given" "given"
  K_NotABell : ExcK P w K mg base "NotABell" "given" "given"
  K_TooGreat : ExcK P w K mg base "TooGreat" "given" "given"
  K_UnknownName : ExcK P w K mg base "UnknownName" "given" "given"
theorem Fx.ty {K : PySem.W.Frag} {mg : PySem.Str → Option Value} (fx : Fx K mg) : ∀ x ∈ tyNames, mg x = none := fun x hx => by
  simp only [tyNames, List.mem_cons, List.not_mem_nil, or_false] at hx
  rcases hx with rfl | rfl | rfl | rfl | rfl
  · exact fx.f_int
  · exact fx.f_bool
  · exact fx.f_str
  · exact fx.f_tuple
  · exact fx.f_list

noncomputable def q__law_dip_4 : MS := (mRet (mVar 2))
noncomputable def q__law_dip_6 : MS := (mRet (mOp sMod (mCB sInt (mCons (mOp sFdiv (mOp sIx (mVar 0) (mC (.int 1))) (mC (.int 512))) mNil)) (mVar 1)))
noncomputable def q__law_dip_5 : MS := (mSeq (mAsg (mOp sMod (mCB sInt (mCons (mOp sAdd (mOp sMul (mOp sIx (mVar 0) (mC (.int 1))) (mC (.int 48271))) (mOp sMul (mC (.int 50021)) (mOp sIx (mVar 0) (mC (.int 2))))) mNil)) (mC (.int 2147483399))) (gSb (mVar 0) (mC (.int 1)))) q__law_dip_6)
noncomputable def q__law_dip_2 : MS := (mSeq (mIfS (mBs (mOp sGt (mOp sIx (mVar 0) (mC (.int 0))) (mC (.int 0)))) (mSeq (mAsg (mCB sDivmod (mCons (mOp sIx (mVar 0) (mC (.int 0))) (mCons (mVar 1) mNil))) (gUn 2 (gsCons (gSb (mVar 0) (mC (.int 0))) (gsCons (gNm 2) gsNil)))) q__law_dip_4) mSkip) q__law_dip_5)
noncomputable def b__law_dip : MS := (mSeq (mAsg (mOp sAdd (mOp sIx (mVar 0) (mC (.int 2))) (mC (.int 1))) (gSb (mVar 0) (mC (.int 2)))) q__law_dip_2)
@[irreducible] noncomputable def m__law_dip : List D → Sto → Rs D := runI 3 b__law_dip
abbrev N__law_dip : List PySem.Str := ["_law_jar_here", "_law_top", "_law_digit"]
abbrev P__law_dip : List PySem.Str := ["_law_jar_here", "_law_top"]
abbrev S__law_dip : List Ev.Shape := []
theorem sc__law_dip : FnScope N__law_dip P__law_dip (defScope (top 36)) := ⟨rfl, rfl, rfl, by decide +kernel, rfl, by decide +kernel, by decide +kernel⟩
theorem d__law_dip {P : Program} {w : World} {K : PySem.W.Frag} {mg : PySem.Str → Option Value} {base : Heap} {f : Addr} {fd : FuncData} (fx : Fx K mg) (F : FunD K "_law_dip" "_law_dip" (defArgs (top 36)) (defBody (top 36)) (defScope (top 36)) [] [] f fd) (hm : mg "_law_dip" = some (.ref f)) (fi : FxI P w K mg base)  : DefI P w K mg base 5 "_law_dip" P__law_dip m__law_dip S__law_dip := by
  unfold m__law_dip
  refine DefI.of F hm sc__law_dip (F.bindsN fun _ _ _ _ _ _ us hl => match us, hl with | [_, _], _ => rfl) kws_nil fun cdv A outer s H E hr => ?_
  have tk : L2.Takes (cxOf (L2.CX P w) P w K mg base N__law_dip "_law_dip" (defScope (top 36)) f cdv A outer s H E) (WD E) := takes_of rfl rfl rfl rfl
  have hp : PassesOwn (model P w) (A.deeper (PyProof.Rows.envOfC "_law_dip" (defScope (top 36)) s.heap.objs.size f cdv)) (PyProof.Rows.envOfC "_law_dip" (defScope (top 36)) s.heap.objs.size f cdv) (cxOf (L2.CX P w) P w K mg base N__law_dip "_law_dip" (defScope (top 36)) f cdv A outer s H E).xe := passes_of rfl
  have hN : N__law_dip.Nodup := sc__law_dip.nd
  have hc : (cxOf (L2.CX P w) P w K mg base N__law_dip "_law_dip" (defScope (top 36)) f cdv A outer s H E).calm = true := rfl
  have hu := hr.r.units
  have hu6 := units66 hr.r
  exact (sss_cons (ss_asg (se_op op_sAdd (se_ix (se_var 0) se_int) se_int) (sg_sub (W := (WD E)) (se_var 0) se_int)) (sss_cons (ss_if (st_cmp op_sGt (se_ix (se_var 0) se_int) se_int) (sss_cons (ss_asg (se_callB call_sDivmod fx.f_divmod bt_divmod (sa_cons (se_ix (se_var 0) se_int) (sa_cons (se_var 1) sa_nil))) (sg_un hc (sgs_cons (sg_sub (W := (WD E)) (se_var 0) se_int) (sgs_cons (sg_name 2 hN) sgs_nil)))) (sss_one (ss_ret (se_var 2)))) sss_nil) (sss_cons (ss_asg (se_op op_sMod (se_callTy call_sInt fx.f_int bt_int (sa_cons (se_op op_sAdd (se_op op_sMul (se_ix (se_var 0) se_int) se_int) (se_op op_sMul se_int (se_ix (se_var 0) se_int))) sa_nil)) se_int) (sg_sub (W := (WD E)) (se_var 0) se_int)) (sss_one (ss_ret (se_op op_sMod (se_callTy call_sInt fx.f_int bt_int (sa_cons (se_op op_sFdiv (se_ix (se_var 0) se_int) se_int) sa_nil)) (se_var 1)))))))

noncomputable def b__law_one_of : MS := (mRet (mOp sIx (mVar 1) (mCallI 2 m__law_dip (mCons (mVar 0) (mCons (mCB sLen (mCons (mVar 1) mNil)) mNil)))))
@[irreducible] noncomputable def m__law_one_of : List D → Sto → Rs D := runI 2 b__law_one_of
abbrev N__law_one_of : List PySem.Str := ["_law_jar_here", "_law_some"]
abbrev P__law_one_of : List PySem.Str := ["_law_jar_here", "_law_some"]
abbrev S__law_one_of : List Ev.Shape := []
theorem sc__law_one_of : FnScope N__law_one_of P__law_one_of (defScope (top 37)) := ⟨rfl, rfl, rfl, by decide +kernel, rfl, by decide +kernel, by decide +kernel⟩
theorem d__law_one_of {P : Program} {w : World} {K : PySem.W.Frag} {mg : PySem.Str → Option Value} {base : Heap} {f : Addr} {fd : FuncData} (fx : Fx K mg) (F : FunD K "_law_one_of" "_law_one_of" (defArgs (top 37)) (defBody (top 37)) (defScope (top 37)) [] [] f fd) (hm : mg "_law_one_of" = some (.ref f)) (fi : FxI P w K mg base) (h__law_dip : DefI P w K mg base 5 "_law_dip" P__law_dip m__law_dip S__law_dip) : DefI P w K mg base 6 "_law_one_of" P__law_one_of m__law_one_of S__law_one_of := by
  unfold m__law_one_of
  refine DefI.of F hm sc__law_one_of (F.bindsN fun _ _ _ _ _ _ us hl => match us, hl with | [_, _], _ => rfl) kws_nil fun cdv A outer s H E hr => ?_
  have tk : L2.Takes (cxOf (L2.CX P w) P w K mg base N__law_one_of "_law_one_of" (defScope (top 37)) f cdv A outer s H E) (WD E) := takes_of rfl rfl rfl rfl
  have hp : PassesOwn (model P w) (A.deeper (PyProof.Rows.envOfC "_law_one_of" (defScope (top 37)) s.heap.objs.size f cdv)) (PyProof.Rows.envOfC "_law_one_of" (defScope (top 37)) s.heap.objs.size f cdv) (cxOf (L2.CX P w) P w K mg base N__law_one_of "_law_one_of" (defScope (top 37)) f cdv A outer s H E).xe := passes_of rfl
  have hN : N__law_one_of.Nodup := sc__law_one_of.nd
  have hc : (cxOf (L2.CX P w) P w K mg base N__law_one_of "_law_one_of" (defScope (top 37)) f cdv A outer s H E).calm = true := rfl
  have hu := hr.r.units
  have hu6 := units66 hr.r
  exact (sss_one (ss_ret (se_ix (se_var 1) (se_callI h__law_dip hr (by decide) tk (sa_cons (se_var 0) (sa_cons (se_callB call_sLen fx.f_len bt_len (sa_cons (se_var 1) sa_nil)) sa_nil))))))

noncomputable def fb__law_jar_3 : MS := (mAsg (mOp sMod (mCB sInt (mCons (mOp sAdd (mOp sMul (mVar 3) (mC (.int 23011))) (mVar 4)) mNil)) (mC (.int 2147482577))) (gNm 3))
noncomputable def q__law_jar_5 : MS := (mRet (mNew (mCons (mIf (mOrT (mBs (mOp sLt (mVar 2) (mC (.int 0)))) (mBs (mOp sGe (mVar 2) (mOp sPow (mC (.int 10)) (mC (.int 18)))))) (mCB sAbs (mCons (mVar 2) mNil)) (mC (.int 0))) (mCons (mVar 3) (mCons (mC (.int 0)) mNil)))))
noncomputable def q__law_jar_3 : MS := (mSeq (mFor (mItX (mOp sAdd (mSl (mVar 0) mONone (mOSome (mC (.int 5)))) (mLst (mCons (mVar 2) mNil)))) (gNm 4) fb__law_jar_3) q__law_jar_5)
noncomputable def q__law_jar_2 : MS := (mSeq (mAsg (mOp sAdd (mC (.int 80021)) (mOp sMul (mC (.int 6007)) (mVar 1))) (gNm 3)) q__law_jar_3)
noncomputable def b__law_jar : MS := (mSeq (mAsg (mIf (mBs (mOp sLt (mVar 1) (mCB sLen (mCons (mVar 0) mNil)))) (mOp sIx (mVar 0) (mVar 1)) (mOp sAdd (mOp sMul (mC (.int 43)) (mVar 1)) (mC (.int 9)))) (gNm 2)) q__law_jar_2)
@[irreducible] noncomputable def m__law_jar : List D → Sto → Rs D := runI 5 b__law_jar
abbrev N__law_jar : List PySem.Str := ["_law_cells", "_law_turn", "_law_cell", "_law_mixed", "_law_each"]
abbrev P__law_jar : List PySem.Str := ["_law_cells", "_law_turn"]
abbrev S__law_jar : List Ev.Shape := []
theorem sc__law_jar : FnScope N__law_jar P__law_jar (defScope (top 38)) := ⟨rfl, rfl, rfl, by decide +kernel, rfl, by decide +kernel, by decide +kernel⟩
theorem d__law_jar {P : Program} {w : World} {K : PySem.W.Frag} {mg : PySem.Str → Option Value} {base : Heap} {f : Addr} {fd : FuncData} (fx : Fx K mg) (F : FunD K "_law_jar" "_law_jar" (defArgs (top 38)) (defBody (top 38)) (defScope (top 38)) [] [] f fd) (hm : mg "_law_jar" = some (.ref f)) (fi : FxI P w K mg base)  : DefI P w K mg base 5 "_law_jar" P__law_jar m__law_jar S__law_jar := by
  unfold m__law_jar
  refine DefI.of F hm sc__law_jar (F.bindsN fun _ _ _ _ _ _ us hl => match us, hl with | [_, _], _ => rfl) kws_nil fun cdv A outer s H E hr => ?_
  have tk : L2.Takes (cxOf (L2.CX P w) P w K mg base N__law_jar "_law_jar" (defScope (top 38)) f cdv A outer s H E) (WD E) := takes_of rfl rfl rfl rfl
  have hp : PassesOwn (model P w) (A.deeper (PyProof.Rows.envOfC "_law_jar" (defScope (top 38)) s.heap.objs.size f cdv)) (PyProof.Rows.envOfC "_law_jar" (defScope (top 38)) s.heap.objs.size f cdv) (cxOf (L2.CX P w) P w K mg base N__law_jar "_law_jar" (defScope (top 38)) f cdv A outer s H E).xe := passes_of rfl
  have hN : N__law_jar.Nodup := sc__law_jar.nd
  have hc : (cxOf (L2.CX P w) P w K mg base N__law_jar "_law_jar" (defScope (top 38)) f cdv A outer s H E).calm = true := rfl
  have hu := hr.r.units
  have hu6 := units66 hr.r
  exact (sss_cons (ss_asg (se_ifExp (st_cmp op_sLt (se_var 1) (se_callB call_sLen fx.f_len bt_len (sa_cons (se_var 0) sa_nil))) (se_ix (se_var 0) (se_var 1)) (se_op op_sAdd (se_op op_sMul se_int (se_var 1)) se_int)) (sg_name 2 hN)) (sss_cons (ss_asg (se_op op_sAdd se_int (se_op op_sMul se_int (se_var 1))) (sg_name 3 hN)) (sss_cons (ss_for hp hc (si_any (se_op op_sAdd (se_slice (se_var 0) so_none (so_some se_int)) (se_lst (sa_cons (se_var 2) sa_nil)))) (sg_name 4 hN) (sss_one (ss_asg (se_op op_sMod (se_callTy call_sInt fx.f_int bt_int (sa_cons (se_op op_sAdd (se_op op_sMul (se_var 3) se_int) (se_var 4)) sa_nil)) se_int) (sg_name 3 hN)))) (sss_one (ss_ret (se_new (sa_cons (se_ifExp ((sw_or (st_cmp op_sLt (se_var 2) se_int) (sw_one_or (st_cmp op_sGe (se_var 2) (se_op op_sPow se_int se_int))))).pt (se_callB call_sAbs fx.f_abs bt_abs (sa_cons (se_var 2) sa_nil)) se_int) (sa_cons (se_var 3) (sa_cons se_int sa_nil)))))))))

abbrev ow__law_sorts_0 : List (PySem.Str × Nat) := [("_law_k", 3)]
abbrev ow__law_sorts_1 : List (PySem.Str × Nat) := [("_law_k", 3)]
noncomputable def q__law_sorts_11 : MS := (mRet (mOp sAdd (mLC (mRng1 (mCons (mC (.int 23)) mNil)) (gNm 3) (mTru (mOp sIx (mVar 1) (mVar 3))) (mVar 3) (ow__law_sorts_0.map (·.2))) (mLC (mRng1 (mCons (mC (.int 6)) mNil)) (gNm 3) (mTru (mOp sIx (mVar 2) (mVar 3))) (mOp sAdd (mC (.int 50)) (mVar 3)) (ow__law_sorts_1.map (·.2)))))
noncomputable def q__law_sorts_10 : MS := (mSeq (mAsg (mOp sAdd (mVar 2) (mLst (mCons (mCB (sIsX Ix) (mCons (mVar 0) (mCons (mC (.glo "ValueError")) mNil))) (mCons (mCB (sIsX Ix) (mCons (mVar 0) (mCons (mC (.glo "LookupError")) mNil))) (mCons (mCB (sIsX Ix) (mCons (mVar 0) (mCons (mC (.glo "ArithmeticError")) mNil))) mNil))))) (gNm 2)) q__law_sorts_11)
noncomputable def q__law_sorts_9 : MS := (mSeq (mAsg (mLst (mCons (mCB (sIsX Ix) (mCons (mVar 0) (mCons (mC (.glo "WrongValue")) mNil))) (mCons (mCB (sIsX Ix) (mCons (mVar 0) (mCons (mC (.glo "WrongName")) mNil))) (mCons (mCB (sIsX Ix) (mCons (mVar 0) (mCons (mC (.glo "NoAnswer")) mNil))) mNil)))) (gNm 2)) q__law_sorts_10)
noncomputable def q__law_sorts_8 : MS := (mSeq (mDrop (mApp (mVar 1) (mCB (sIsX Ix) (mCons (mVar 0) (mCons (mC (.glo "NothingToUndo")) mNil))))) q__law_sorts_9)
noncomputable def q__law_sorts_7 : MS := (mSeq (mAsg (mAddN (mVar 1) (mLst (mCons (mCB (sIsX Ix) (mCons (mVar 0) (mCons (mC (.glo "Broken")) mNil))) (mCons (mCB (sIsX Ix) (mCons (mVar 0) (mCons (mC (.glo "InUse")) mNil))) (mCons (mCB (sIsX Ix) (mCons (mVar 0) (mCons (mC (.glo "NoStart")) mNil))) (mCons (mCB (sIsX Ix) (mCons (mVar 0) (mCons (mC (.glo "NoOther")) mNil))) mNil)))))) (gNm 1)) q__law_sorts_8)
noncomputable def q__law_sorts_6 : MS := (mSeq (mAsg (mAddN (mVar 1) (mLst (mCons (mCB (sIsX Ix) (mCons (mVar 0) (mCons (mC (.glo "InvalidDeeds")) mNil))) (mCons (mCB (sIsX Ix) (mCons (mVar 0) (mCons (mC (.glo "UnknownName")) mNil))) (mCons (mCB (sIsX Ix) (mCons (mVar 0) (mCons (mC (.glo "TooGreat")) mNil))) mNil))))) (gNm 1)) q__law_sorts_7)
noncomputable def q__law_sorts_5 : MS := (mSeq (mAsg (mAddN (mVar 1) (mLst (mCons (mCB (sIsX Ix) (mCons (mVar 0) (mCons (mC (.glo "NotABell")) mNil))) (mCons (mCB (sIsX Ix) (mCons (mVar 0) (mCons (mC (.glo "InvalidBells")) mNil))) (mCons (mCB (sIsX Ix) (mCons (mVar 0) (mCons (mC (.glo "InvalidLooks")) mNil))) mNil))))) (gNm 1)) q__law_sorts_6)
noncomputable def q__law_sorts_4 : MS := (mSeq (mAsg (mAddN (mVar 1) (mLst (mCons (mCB (sIsX Ix) (mCons (mVar 0) (mCons (mC (.glo "InvalidWish")) mNil))) (mCons (mCB (sIsX Ix) (mCons (mVar 0) (mCons (mC (.glo "InvalidIndex")) mNil))) (mCons (mCB (sIsX Ix) (mCons (mVar 0) (mCons (mC (.glo "InvalidLine")) mNil))) mNil))))) (gNm 1)) q__law_sorts_5)
noncomputable def q__law_sorts_3 : MS := (mSeq (mAsg (mAddN (mVar 1) (mLst (mCons (mCB (sIsX Ix) (mCons (mVar 0) (mCons (mC (.glo "InvalidWay")) mNil))) (mCons (mCB (sIsX Ix) (mCons (mVar 0) (mCons (mC (.glo "InvalidDay")) mNil))) (mCons (mCB (sIsX Ix) (mCons (mVar 0) (mCons (mC (.glo "InvalidPattern")) mNil))) mNil))))) (gNm 1)) q__law_sorts_4)
noncomputable def q__law_sorts_2 : MS := (mSeq (mAsg (mAddN (mVar 1) (mLst (mCons (mCB (sIsX Ix) (mCons (mVar 0) (mCons (mC (.glo "InvalidRoot")) mNil))) (mCons (mCB (sIsX Ix) (mCons (mVar 0) (mCons (mC (.glo "InvalidRate")) mNil))) (mCons (mCB (sIsX Ix) (mCons (mVar 0) (mCons (mC (.glo "InvalidStart")) mNil))) mNil))))) (gNm 1)) q__law_sorts_3)
noncomputable def b__law_sorts : MS := (mSeq (mAsg (mNew (mCons (mCB (sIsX Ix) (mCons (mVar 0) (mCons (mC (.glo "InvalidText")) mNil))) (mCons (mCB (sIsX Ix) (mCons (mVar 0) (mCons (mC (.glo "InvalidName")) mNil))) (mCons (mCB (sIsX Ix) (mCons (mVar 0) (mCons (mC (.glo "InvalidNumber")) mNil))) mNil)))) (gNm 1)) q__law_sorts_2)
@[irreducible] noncomputable def m__law_sorts : List D → Pr := runP 4 b__law_sorts
abbrev N__law_sorts : List PySem.Str := ["_law_e", "_law_found", "_law_above", "_law_k"]
abbrev P__law_sorts : List PySem.Str := ["_law_e"]
abbrev S__law_sorts : List Ev.Shape := []
theorem sc__law_sorts : FnScope N__law_sorts P__law_sorts (defScope (top 39)) := ⟨rfl, rfl, rfl, by decide +kernel, rfl, by decide +kernel, by decide +kernel⟩
theorem d__law_sorts {P : Program} {w : World} {K : PySem.W.Frag} {mg : PySem.Str → Option Value} {base : Heap} {f : Addr} {fd : FuncData} (fx : Fx K mg) (F : FunD K "_law_sorts" "_law_sorts" (defArgs (top 39)) (defBody (top 39)) (defScope (top 39)) [] [] f fd) (hm : mg "_law_sorts" = some (.ref f)) (fi : FxI P w K mg base)  : DefP P w K mg base 5 "_law_sorts" P__law_sorts m__law_sorts S__law_sorts := by
  unfold m__law_sorts
  refine DefP.of F hm sc__law_sorts (F.bindsN fun _ _ _ _ _ _ us hl => match us, hl with | [_], _ => rfl) kws_nil fun cdv A outer s H E hr => ?_
  have tk : L2.Takes (cxOf (L2.CX P w) P w K mg base N__law_sorts "_law_sorts" (defScope (top 39)) f cdv A outer s H E) (WD E) := takes_of rfl rfl rfl rfl
  have hp : PassesOwn (model P w) (A.deeper (PyProof.Rows.envOfC "_law_sorts" (defScope (top 39)) s.heap.objs.size f cdv)) (PyProof.Rows.envOfC "_law_sorts" (defScope (top 39)) s.heap.objs.size f cdv) (cxOf (L2.CX P w) P w K mg base N__law_sorts "_law_sorts" (defScope (top 39)) f cdv A outer s H E).xe := passes_of rfl
  have hN : N__law_sorts.Nodup := sc__law_sorts.nd
  have hc : (cxOf (L2.CX P w) P w K mg base N__law_sorts "_law_sorts" (defScope (top 39)) f cdv A outer s H E).calm = true := rfl
  have hu := hr.r.units
  have hu6 := units66 hr.r
  exact (sss_cons (ss_asg (se_new (sa_cons (se_callB (call_sIsX fx.IX) fx.f_isinstance bt_isinstance (sa_cons (se_var 0) (sa_cons (se_gloX fx.G_InvalidText) sa_nil))) (sa_cons (se_callB (call_sIsX fx.IX) fx.f_isinstance bt_isinstance (sa_cons (se_var 0) (sa_cons (se_gloX fx.G_InvalidName) sa_nil))) (sa_cons (se_callB (call_sIsX fx.IX) fx.f_isinstance bt_isinstance (sa_cons (se_var 0) (sa_cons (se_gloX fx.G_InvalidNumber) sa_nil))) sa_nil)))) (sg_name 1 hN)) (sss_cons (ss_asg (se_addN (se_var 1) (se_lst (sa_cons (se_callB (call_sIsX fx.IX) fx.f_isinstance bt_isinstance (sa_cons (se_var 0) (sa_cons (se_gloX fx.G_InvalidRoot) sa_nil))) (sa_cons (se_callB (call_sIsX fx.IX) fx.f_isinstance bt_isinstance (sa_cons (se_var 0) (sa_cons (se_gloX fx.G_InvalidRate) sa_nil))) (sa_cons (se_callB (call_sIsX fx.IX) fx.f_isinstance bt_isinstance (sa_cons (se_var 0) (sa_cons (se_gloX fx.G_InvalidStart) sa_nil))) sa_nil))))) (sg_name 1 hN)) (sss_cons (ss_asg (se_addN (se_var 1) (se_lst (sa_cons (se_callB (call_sIsX fx.IX) fx.f_isinstance bt_isinstance (sa_cons (se_var 0) (sa_cons (se_gloX fx.G_InvalidWay) sa_nil))) (sa_cons (se_callB (call_sIsX fx.IX) fx.f_isinstance bt_isinstance (sa_cons (se_var 0) (sa_cons (se_gloX fx.G_InvalidDay) sa_nil))) (sa_cons (se_callB (call_sIsX fx.IX) fx.f_isinstance bt_isinstance (sa_cons (se_var 0) (sa_cons (se_gloX fx.G_InvalidPattern) sa_nil))) sa_nil))))) (sg_name 1 hN)) (sss_cons (ss_asg (se_addN (se_var 1) (se_lst (sa_cons (se_callB (call_sIsX fx.IX) fx.f_isinstance bt_isinstance (sa_cons (se_var 0) (sa_cons (se_gloX fx.G_InvalidWish) sa_nil))) (sa_cons (se_callB (call_sIsX fx.IX) fx.f_isinstance bt_isinstance (sa_cons (se_var 0) (sa_cons (se_gloX fx.G_InvalidIndex) sa_nil))) (sa_cons (se_callB (call_sIsX fx.IX) fx.f_isinstance bt_isinstance (sa_cons (se_var 0) (sa_cons (se_gloX fx.G_InvalidLine) sa_nil))) sa_nil))))) (sg_name 1 hN)) (sss_cons (ss_asg (se_addN (se_var 1) (se_lst (sa_cons (se_callB (call_sIsX fx.IX) fx.f_isinstance bt_isinstance (sa_cons (se_var 0) (sa_cons (se_gloX fx.G_NotABell) sa_nil))) (sa_cons (se_callB (call_sIsX fx.IX) fx.f_isinstance bt_isinstance (sa_cons (se_var 0) (sa_cons (se_gloX fx.G_InvalidBells) sa_nil))) (sa_cons (se_callB (call_sIsX fx.IX) fx.f_isinstance bt_isinstance (sa_cons (se_var 0) (sa_cons (se_gloX fx.G_InvalidLooks) sa_nil))) sa_nil))))) (sg_name 1 hN)) (sss_cons (ss_asg (se_addN (se_var 1) (se_lst (sa_cons (se_callB (call_sIsX fx.IX) fx.f_isinstance bt_isinstance (sa_cons (se_var 0) (sa_cons (se_gloX fx.G_InvalidDeeds) sa_nil))) (sa_cons (se_callB (call_sIsX fx.IX) fx.f_isinstance bt_isinstance (sa_cons (se_var 0) (sa_cons (se_gloX fx.G_UnknownName) sa_nil))) (sa_cons (se_callB (call_sIsX fx.IX) fx.f_isinstance bt_isinstance (sa_cons (se_var 0) (sa_cons (se_gloX fx.G_TooGreat) sa_nil))) sa_nil))))) (sg_name 1 hN)) (sss_cons (ss_asg (se_addN (se_var 1) (se_lst (sa_cons (se_callB (call_sIsX fx.IX) fx.f_isinstance bt_isinstance (sa_cons (se_var 0) (sa_cons (se_gloX fx.G_Broken) sa_nil))) (sa_cons (se_callB (call_sIsX fx.IX) fx.f_isinstance bt_isinstance (sa_cons (se_var 0) (sa_cons (se_gloX fx.G_InUse) sa_nil))) (sa_cons (se_callB (call_sIsX fx.IX) fx.f_isinstance bt_isinstance (sa_cons (se_var 0) (sa_cons (se_gloX fx.G_NoStart) sa_nil))) (sa_cons (se_callB (call_sIsX fx.IX) fx.f_isinstance bt_isinstance (sa_cons (se_var 0) (sa_cons (se_gloX fx.G_NoOther) sa_nil))) sa_nil)))))) (sg_name 1 hN)) (sss_cons (ss_expr (se_appA (se_var 1) (se_callB (call_sIsX fx.IX) fx.f_isinstance bt_isinstance (sa_cons (se_var 0) (sa_cons (se_gloX fx.G_NothingToUndo) sa_nil))))) (sss_cons (ss_asg (se_lst (sa_cons (se_callB (call_sIsX fx.IX) fx.f_isinstance bt_isinstance (sa_cons (se_var 0) (sa_cons (se_gloX fx.G_WrongValue) sa_nil))) (sa_cons (se_callB (call_sIsX fx.IX) fx.f_isinstance bt_isinstance (sa_cons (se_var 0) (sa_cons (se_gloX fx.G_WrongName) sa_nil))) (sa_cons (se_callB (call_sIsX fx.IX) fx.f_isinstance bt_isinstance (sa_cons (se_var 0) (sa_cons (se_gloX fx.G_NoAnswer) sa_nil))) sa_nil)))) (sg_name 2 hN)) (sss_cons (ss_asg (se_op op_sAdd (se_var 2) (se_lst (sa_cons (se_callB (call_sIsX fx.IX) fx.f_isinstance bt_isinstance (sa_cons (se_var 0) (sa_cons (se_blt (v := .ty "ValueError") fx.f_ValueError bt_ValueError rfl) sa_nil))) (sa_cons (se_callB (call_sIsX fx.IX) fx.f_isinstance bt_isinstance (sa_cons (se_var 0) (sa_cons (se_blt (v := .ty "LookupError") fx.f_LookupError bt_LookupError rfl) sa_nil))) (sa_cons (se_callB (call_sIsX fx.IX) fx.f_isinstance bt_isinstance (sa_cons (se_var 0) (sa_cons (se_blt (v := .ty "ArithmeticError") fx.f_ArithmeticError bt_ArithmeticError rfl) sa_nil))) sa_nil))))) (sg_name 2 hN)) (sss_one (ss_ret (se_op op_sAdd (se_lc hc hN (si_range1 fx.f_range (sa_cons se_int sa_nil)) (own := ow__law_sorts_0) (BlkOk.of (by rfl)) (fun _ _ _ _ _ => (sg_name 3 hN)) (fun _ _ _ _ _ => (sts_one (st_truth (se_ix (se_var 1) (se_var 3))))) (fun _ _ _ _ _ => (se_var 3))) (se_lc hc hN (si_range1 fx.f_range (sa_cons se_int sa_nil)) (own := ow__law_sorts_1) (BlkOk.of (by rfl)) (fun _ _ _ _ _ => (sg_name 3 hN)) (fun _ _ _ _ _ => (sts_one (st_truth (se_ix (se_var 2) (se_var 3))))) (fun _ _ _ _ _ => (se_op op_sAdd se_int (se_var 3)))))))))))))))))

noncomputable def q__law_given_errors_12 : MS := (mRet (mOp sAdd (mVar 1) (mLst (mCons (mLst (mCons (mExn1 "NotABell" "given" (mVar 0)) (mCons (mExn1 "NotABell" "given" (mVar 0)) mNil))) mNil))))
noncomputable def q__law_given_errors_11 : MS := (mSeq (mDrop (mApp (mVar 1) (mLst (mCons (mExn1 "InvalidLine" "given" (mVar 0)) (mCons (mExn1 "InvalidLine" "given" (mVar 0)) mNil))))) q__law_given_errors_12)
noncomputable def q__law_given_errors_10 : MS := (mSeq (mDrop (mApp (mVar 1) (mLst (mCons (mExn1 "InvalidIndex" "given" (mVar 0)) (mCons (mExn1 "InvalidIndex" "given" (mVar 0)) mNil))))) q__law_given_errors_11)
noncomputable def q__law_given_errors_9 : MS := (mSeq (mDrop (mApp (mVar 1) (mLst (mCons (mExn1 "InvalidWish" "given" (mVar 0)) (mCons (mExn1 "InvalidWish" "given" (mVar 0)) mNil))))) q__law_given_errors_10)
noncomputable def q__law_given_errors_8 : MS := (mSeq (mDrop (mApp (mVar 1) (mLst (mCons (mExn1 "InvalidPattern" "given" (mVar 0)) (mCons (mExn1 "InvalidPattern" "given" (mVar 0)) mNil))))) q__law_given_errors_9)
noncomputable def q__law_given_errors_7 : MS := (mSeq (mDrop (mApp (mVar 1) (mLst (mCons (mExn1 "InvalidDay" "given" (mVar 0)) (mCons (mExn1 "InvalidDay" "given" (mVar 0)) mNil))))) q__law_given_errors_8)
noncomputable def q__law_given_errors_6 : MS := (mSeq (mDrop (mApp (mVar 1) (mLst (mCons (mExn1 "InvalidWay" "given" (mVar 0)) (mCons (mExn1 "InvalidWay" "given" (mVar 0)) mNil))))) q__law_given_errors_7)
noncomputable def q__law_given_errors_5 : MS := (mSeq (mDrop (mApp (mVar 1) (mLst (mCons (mExn1 "InvalidStart" "given" (mVar 0)) (mCons (mExn1 "InvalidStart" "given" (mVar 0)) mNil))))) q__law_given_errors_6)
noncomputable def q__law_given_errors_4 : MS := (mSeq (mDrop (mApp (mVar 1) (mLst (mCons (mExn1 "InvalidRate" "given" (mVar 0)) (mCons (mExn1 "InvalidRate" "given" (mVar 0)) mNil))))) q__law_given_errors_5)
noncomputable def q__law_given_errors_3 : MS := (mSeq (mDrop (mApp (mVar 1) (mLst (mCons (mExn1 "InvalidRoot" "given" (mVar 0)) (mCons (mExn1 "InvalidRoot" "given" (mVar 0)) mNil))))) q__law_given_errors_4)
noncomputable def q__law_given_errors_2 : MS := (mSeq (mDrop (mApp (mVar 1) (mLst (mCons (mExn1 "InvalidNumber" "given" (mVar 0)) (mCons (mExn1 "InvalidNumber" "given" (mVar 0)) mNil))))) q__law_given_errors_3)
noncomputable def b__law_given_errors : MS := (mSeq (mAsg (mNew (mCons (mLst (mCons (mExn1 "InvalidText" "given" (mVar 0)) (mCons (mExn1 "InvalidText" "given" (mVar 0)) mNil))) (mCons (mLst (mCons (mExn1 "InvalidName" "given" (mVar 0)) (mCons (mExn1 "InvalidName" "given" (mVar 0)) mNil))) mNil))) (gNm 1)) q__law_given_errors_2)
@[irreducible] noncomputable def m__law_given_errors : List D → Pr := runP 2 b__law_given_errors
abbrev N__law_given_errors : List PySem.Str := ["_law_thing", "_law_found"]
abbrev P__law_given_errors : List PySem.Str := ["_law_thing"]
abbrev S__law_given_errors : List Ev.Shape := []
theorem sc__law_given_errors : FnScope N__law_given_errors P__law_given_errors (defScope (top 40)) := ⟨rfl, rfl, rfl, by decide +kernel, rfl, by decide +kernel, by decide +kernel⟩
theorem d__law_given_errors {P : Program} {w : World} {K : PySem.W.Frag} {mg : PySem.Str → Option Value} {base : Heap} {f : Addr} {fd : FuncData} (fx : Fx K mg) (F : FunD K "_law_given_errors" "_law_given_errors" (defArgs (top 40)) (defBody (top 40)) (defScope (top 40)) [] [] f fd) (hm : mg "_law_given_errors" = some (.ref f)) (fi : FxI P w K mg base)  : DefP P w K mg base 5 "_law_given_errors" P__law_given_errors m__law_given_errors S__law_given_errors := by
  unfold m__law_given_errors
  refine DefP.of F hm sc__law_given_errors (F.bindsN fun _ _ _ _ _ _ us hl => match us, hl with | [_], _ => rfl) kws_nil fun cdv A outer s H E hr => ?_
  have tk : L2.Takes (cxOf (L2.CX P w) P w K mg base N__law_given_errors "_law_given_errors" (defScope (top 40)) f cdv A outer s H E) (WD E) := takes_of rfl rfl rfl rfl
  have hp : PassesOwn (model P w) (A.deeper (PyProof.Rows.envOfC "_law_given_errors" (defScope (top 40)) s.heap.objs.size f cdv)) (PyProof.Rows.envOfC "_law_given_errors" (defScope (top 40)) s.heap.objs.size f cdv) (cxOf (L2.CX P w) P w K mg base N__law_given_errors "_law_given_errors" (defScope (top 40)) f cdv A outer s H E).xe := passes_of rfl
  have hN : N__law_given_errors.Nodup := sc__law_given_errors.nd
  have hc : (cxOf (L2.CX P w) P w K mg base N__law_given_errors "_law_given_errors" (defScope (top 40)) f cdv A outer s H E).calm = true := rfl
  have hu := hr.r.units
  have hu6 := units66 hr.r
  exact (sss_cons (ss_asg (se_new (sa_cons (se_lst (sa_cons (se_exn1 fi.E_InvalidText hr (by decide) (se_var 0)) (sa_cons (se_exn1k fi.K_InvalidText hr (by decide) (se_var 0)) sa_nil))) (sa_cons (se_lst (sa_cons (se_exn1 fi.E_InvalidName hr (by decide) (se_var 0)) (sa_cons (se_exn1k fi.K_InvalidName hr (by decide) (se_var 0)) sa_nil))) sa_nil))) (sg_name 1 hN)) (sss_cons (ss_expr (se_appA (se_var 1) (se_lst (sa_cons (se_exn1 fi.E_InvalidNumber hr (by decide) (se_var 0)) (sa_cons (se_exn1k fi.K_InvalidNumber hr (by decide) (se_var 0)) sa_nil))))) (sss_cons (ss_expr (se_appA (se_var 1) (se_lst (sa_cons (se_exn1 fi.E_InvalidRoot hr (by decide) (se_var 0)) (sa_cons (se_exn1k fi.K_InvalidRoot hr (by decide) (se_var 0)) sa_nil))))) (sss_cons (ss_expr (se_appA (se_var 1) (se_lst (sa_cons (se_exn1 fi.E_InvalidRate hr (by decide) (se_var 0)) (sa_cons (se_exn1k fi.K_InvalidRate hr (by decide) (se_var 0)) sa_nil))))) (sss_cons (ss_expr (se_appA (se_var 1) (se_lst (sa_cons (se_exn1 fi.E_InvalidStart hr (by decide) (se_var 0)) (sa_cons (se_exn1k fi.K_InvalidStart hr (by decide) (se_var 0)) sa_nil))))) (sss_cons (ss_expr (se_appA (se_var 1) (se_lst (sa_cons (se_exn1 fi.E_InvalidWay hr (by decide) (se_var 0)) (sa_cons (se_exn1k fi.K_InvalidWay hr (by decide) (se_var 0)) sa_nil))))) (sss_cons (ss_expr (se_appA (se_var 1) (se_lst (sa_cons (se_exn1 fi.E_InvalidDay hr (by decide) (se_var 0)) (sa_cons (se_exn1k fi.K_InvalidDay hr (by decide) (se_var 0)) sa_nil))))) (sss_cons (ss_expr (se_appA (se_var 1) (se_lst (sa_cons (se_exn1 fi.E_InvalidPattern hr (by decide) (se_var 0)) (sa_cons (se_exn1k fi.K_InvalidPattern hr (by decide) (se_var 0)) sa_nil))))) (sss_cons (ss_expr (se_appA (se_var 1) (se_lst (sa_cons (se_exn1 fi.E_InvalidWish hr (by decide) (se_var 0)) (sa_cons (se_exn1k fi.K_InvalidWish hr (by decide) (se_var 0)) sa_nil))))) (sss_cons (ss_expr (se_appA (se_var 1) (se_lst (sa_cons (se_exn1 fi.E_InvalidIndex hr (by decide) (se_var 0)) (sa_cons (se_exn1k fi.K_InvalidIndex hr (by decide) (se_var 0)) sa_nil))))) (sss_cons (ss_expr (se_appA (se_var 1) (se_lst (sa_cons (se_exn1 fi.E_InvalidLine hr (by decide) (se_var 0)) (sa_cons (se_exn1k fi.K_InvalidLine hr (by decide) (se_var 0)) sa_nil))))) (sss_one (ss_ret (se_op op_sAdd (se_var 1) (se_lst (sa_cons (se_lst (sa_cons (se_exn1 fi.E_NotABell hr (by decide) (se_var 0)) (sa_cons (se_exn1k fi.K_NotABell hr (by decide) (se_var 0)) sa_nil))) sa_nil))))))))))))))))

noncomputable def q__law_index_errors_2 : MS := (mRet (mOp sAdd (mVar 1) (mLst (mCons (mLst (mCons (mExn1 "InvalidDeeds" "index" (mVar 0)) (mCons (mExn1 "InvalidDeeds" "index" (mVar 0)) mNil))) mNil))))
noncomputable def b__law_index_errors : MS := (mSeq (mAsg (mLst (mCons (mLst (mCons (mExn1 "InvalidBells" "index" (mVar 0)) (mCons (mExn1 "InvalidBells" "index" (mVar 0)) mNil))) (mCons (mLst (mCons (mExn1 "InvalidLooks" "index" (mVar 0)) (mCons (mExn1 "InvalidLooks" "index" (mVar 0)) mNil))) mNil))) (gNm 1)) q__law_index_errors_2)
@[irreducible] noncomputable def m__law_index_errors : List D → Pr := runP 2 b__law_index_errors
abbrev N__law_index_errors : List PySem.Str := ["_law_thing", "_law_found"]
abbrev P__law_index_errors : List PySem.Str := ["_law_thing"]
abbrev S__law_index_errors : List Ev.Shape := []
theorem sc__law_index_errors : FnScope N__law_index_errors P__law_index_errors (defScope (top 41)) := ⟨rfl, rfl, rfl, by decide +kernel, rfl, by decide +kernel, by decide +kernel⟩
theorem d__law_index_errors {P : Program} {w : World} {K : PySem.W.Frag} {mg : PySem.Str → Option Value} {base : Heap} {f : Addr} {fd : FuncData} (fx : Fx K mg) (F : FunD K "_law_index_errors" "_law_index_errors" (defArgs (top 41)) (defBody (top 41)) (defScope (top 41)) [] [] f fd) (hm : mg "_law_index_errors" = some (.ref f)) (fi : FxI P w K mg base)  : DefP P w K mg base 5 "_law_index_errors" P__law_index_errors m__law_index_errors S__law_index_errors := by
  unfold m__law_index_errors
  refine DefP.of F hm sc__law_index_errors (F.bindsN fun _ _ _ _ _ _ us hl => match us, hl with | [_], _ => rfl) kws_nil fun cdv A outer s H E hr => ?_
  have tk : L2.Takes (cxOf (L2.CX P w) P w K mg base N__law_index_errors "_law_index_errors" (defScope (top 41)) f cdv A outer s H E) (WD E) := takes_of rfl rfl rfl rfl
  have hp : PassesOwn (model P w) (A.deeper (PyProof.Rows.envOfC "_law_index_errors" (defScope (top 41)) s.heap.objs.size f cdv)) (PyProof.Rows.envOfC "_law_index_errors" (defScope (top 41)) s.heap.objs.size f cdv) (cxOf (L2.CX P w) P w K mg base N__law_index_errors "_law_index_errors" (defScope (top 41)) f cdv A outer s H E).xe := passes_of rfl
  have hN : N__law_index_errors.Nodup := sc__law_index_errors.nd
  have hc : (cxOf (L2.CX P w) P w K mg base N__law_index_errors "_law_index_errors" (defScope (top 41)) f cdv A outer s H E).calm = true := rfl
  have hu := hr.r.units
  have hu6 := units66 hr.r
  exact (sss_cons (ss_asg (se_lst (sa_cons (se_lst (sa_cons (se_exn1 fi.E_InvalidBells hr (by decide) (se_var 0)) (sa_cons (se_exn1k fi.K_InvalidBells hr (by decide) (se_var 0)) sa_nil))) (sa_cons (se_lst (sa_cons (se_exn1 fi.E_InvalidLooks hr (by decide) (se_var 0)) (sa_cons (se_exn1k fi.K_InvalidLooks hr (by decide) (se_var 0)) sa_nil))) sa_nil))) (sg_name 1 hN)) (sss_one (ss_ret (se_op op_sAdd (se_var 1) (se_lst (sa_cons (se_lst (sa_cons (se_exn1 fi.E_InvalidDeeds hr (by decide) (se_var 0)) (sa_cons (se_exn1k fi.K_InvalidDeeds hr (by decide) (se_var 0)) sa_nil))) sa_nil))))))

abbrev ow__law_right_0 : List (PySem.Str × Nat) := [("_law_e", 4)]
noncomputable def fb__law_right_2 : MS := (mIfS (mBs (mOp sNe (mLC (mItX (mVar 2)) (gNm 4) mYes (mOp sAdd (mCallP 1 m__law_sorts (mCons (mVar 4) mNil)) (mLst (mCons (mCB sReprX (mCons (mXf kn_given "given" (mVar 4)) mNil)) mNil))) (ow__law_right_0.map (·.2))) (mOp sMul (mLst (mCons (mLst (mCons (mVar 3) (mCons (mC (.int 50)) (mCons (mC (.int 53)) (mCons (mCB sReprX (mCons (mVar 1) mNil)) mNil))))) mNil)) (mC (.int 2))))) (mRet (mC (.bl false))) mSkip)
abbrev ow__law_right_1 : List (PySem.Str × Nat) := [("_law_e", 4)]
noncomputable def fb__law_right_5 : MS := (mIfS (mBs (mOp sNe (mLC (mItX (mVar 2)) (gNm 4) mYes (mOp sAdd (mCallP 1 m__law_sorts (mCons (mVar 4) mNil)) (mLst (mCons (mCB sReprX (mCons (mXf kn_index "index" (mVar 4)) mNil)) mNil))) (ow__law_right_1.map (·.2))) (mOp sMul (mLst (mCons (mLst (mCons (mOp sAdd (mC (.int 13)) (mVar 3)) (mCons (mC (.int 50)) (mCons (mC (.int 53)) (mCons (mCB sReprX (mCons (mVar 1) mNil)) mNil))))) mNil)) (mC (.int 2))))) (mRet (mC (.bl false))) mSkip)
abbrev ow__law_right_2 : List (PySem.Str × Nat) := [("_law_e", 4)]
abbrev ow__law_right_3 : List (PySem.Str × Nat) := [("_law_e", 4)]
abbrev ow__law_right_4 : List (PySem.Str × Nat) := [("_law_e", 4)]
noncomputable def fb__law_right_14 : MS := (mIfS (mBs (mOp sNe (mLC (mItX (mVar 2)) (gNm 4) mYes (mOp sAdd (mCallP 1 m__law_sorts (mCons (mVar 4) mNil)) (mLst (mCons (mCB sReprX (mCons (mXf kn_index "index" (mVar 4)) mNil)) mNil))) (ow__law_right_4.map (·.2))) (mOp sMul (mLst (mCons (mLst (mCons (mVar 3) (mCons (mC (.int 52)) (mCons (mC (.int 55)) (mCons (mCB sReprX (mCons (mVar 1) mNil)) mNil))))) mNil)) (mC (.int 2))))) (mRet (mC (.bl false))) mSkip)
noncomputable def q__law_right_17 : MS := (mRet (mC (.bl true)))
noncomputable def q__law_right_14 : MS := (mSeq (mFor (mItX (mLst (mCons (mTup (mCons (mC (.int 18)) (mCons (mLst (mCons (mExn1 "Broken" "index" (mVar 1)) (mCons (mExn1 "Broken" "index" (mVar 1)) mNil))) mNil))) (mCons (mTup (mCons (mC (.int 19)) (mCons (mLst (mCons (mExn1 "InUse" "index" (mVar 1)) (mCons (mExn1 "InUse" "index" (mVar 1)) mNil))) mNil))) mNil)))) (gUn 2 (gsCons (gNm 3) (gsCons (gNm 2) gsNil))) fb__law_right_14) q__law_right_17)
noncomputable def q__law_right_12 : MS := (mSeq (mIfS (mBs (mOp sNe (mLC (mItX (mVar 2)) (gNm 4) mYes (mOp sAdd (mCallP 1 m__law_sorts (mCons (mVar 4) mNil)) (mLst (mCons (mCB sReprX (mCons (mXf kn_given "given" (mVar 4)) mNil)) mNil))) (ow__law_right_3.map (·.2))) (mOp sMul (mLst (mCons (mLst (mCons (mC (.int 17)) (mCons (mC (.int 52)) (mCons (mC (.int 55)) (mCons (mCB sReprX (mCons (mVar 1) mNil)) mNil))))) mNil)) (mC (.int 2))))) (mRet (mC (.bl false))) mSkip) q__law_right_14)
noncomputable def q__law_right_11 : MS := (mSeq (mAsg (mLst (mCons (mExn1 "TooGreat" "given" (mVar 1)) (mCons (mExn1 "TooGreat" "given" (mVar 1)) mNil))) (gNm 2)) q__law_right_12)
noncomputable def q__law_right_9 : MS := (mSeq (mIfS (mBs (mOp sNe (mLC (mItX (mVar 2)) (gNm 4) mYes (mOp sAdd (mCallP 1 m__law_sorts (mCons (mVar 4) mNil)) (mLst (mCons (mCB sReprX (mCons (mXf kn_given "given" (mVar 4)) mNil)) mNil))) (ow__law_right_2.map (·.2))) (mOp sMul (mLst (mCons (mLst (mCons (mC (.int 16)) (mCons (mC (.int 51)) (mCons (mC (.int 54)) (mCons (mCB sReprX (mCons (mVar 1) mNil)) mNil))))) mNil)) (mC (.int 2))))) (mRet (mC (.bl false))) mSkip) q__law_right_11)
noncomputable def q__law_right_8 : MS := (mSeq (mAsg (mLst (mCons (mExn1 "UnknownName" "given" (mVar 1)) (mCons (mExn1 "UnknownName" "given" (mVar 1)) mNil))) (gNm 2)) q__law_right_9)
noncomputable def q__law_right_5 : MS := (mSeq (mFor (mEnum (mCons (mCallP 1 m__law_index_errors (mCons (mVar 1) mNil)) mNil)) (gUn 2 (gsCons (gNm 3) (gsCons (gNm 2) gsNil))) fb__law_right_5) q__law_right_8)
noncomputable def q__law_right_2 : MS := (mSeq (mFor (mEnum (mCons (mCallP 1 m__law_given_errors (mCons (mVar 1) mNil)) mNil)) (gUn 2 (gsCons (gNm 3) (gsCons (gNm 2) gsNil))) fb__law_right_2) q__law_right_5)
noncomputable def b__law_right : MS := (mSeq (mAsg (mCallI 2 m__law_one_of (mCons (mVar 0) (mCons (mLst (mCons (mC .non) (mCons (mC (.int 0)) (mCons (sUn sNeg (mC (.int 3))) (mCons (mC (.bl true)) (mCons (mC (.str "a")) (mCons (mC (.str "")) (mCons (mTup mNil) (mCons (mTup (mCons (mC (.int 1)) (mCons (mC (.int 2)) mNil))) (mCons (mLst mNil) (mCons (mLst (mCons (mC (.int 7)) mNil)) (mCons mDic0 (mCons (mDic1 "a" 1) (mCons (mOp sPow (mC (.int 10)) (mC (.int 30))) (mCons (mTup (mCons (mTup (mCons (mC (.int 0)) (mCons (mC (.int 0)) mNil))) mNil)) mNil))))))))))))))) mNil))) (gNm 1)) q__law_right_2)
@[irreducible] noncomputable def m__law_right : List D → Sto → Rs D := runI 5 b__law_right
abbrev N__law_right : List PySem.Str := ["_law_jar_here", "_law_thing", "_law_both", "_law_at", "_law_e"]
abbrev P__law_right : List PySem.Str := ["_law_jar_here"]
abbrev S__law_right : List Ev.Shape := []
theorem sc__law_right : FnScope N__law_right P__law_right (defScope (top 42)) := ⟨rfl, rfl, rfl, by decide +kernel, rfl, by decide +kernel, by decide +kernel⟩
theorem d__law_right {P : Program} {w : World} {K : PySem.W.Frag} {mg : PySem.Str → Option Value} {base : Heap} {f : Addr} {fd : FuncData} (fx : Fx K mg) (F : FunD K "_law_right" "_law_right" (defArgs (top 42)) (defBody (top 42)) (defScope (top 42)) [] [] f fd) (hm : mg "_law_right" = some (.ref f)) (fi : FxI P w K mg base) (h__law_given_errors : DefP P w K mg base 5 "_law_given_errors" P__law_given_errors m__law_given_errors S__law_given_errors) (h__law_index_errors : DefP P w K mg base 5 "_law_index_errors" P__law_index_errors m__law_index_errors S__law_index_errors) (h__law_one_of : DefI P w K mg base 6 "_law_one_of" P__law_one_of m__law_one_of S__law_one_of) (h__law_sorts : DefP P w K mg base 5 "_law_sorts" P__law_sorts m__law_sorts S__law_sorts) : DefI P w K mg base 7 "_law_right" P__law_right m__law_right S__law_right := by
  unfold m__law_right
  refine DefI.of F hm sc__law_right (F.bindsN fun _ _ _ _ _ _ us hl => match us, hl with | [_], _ => rfl) kws_nil fun cdv A outer s H E hr => ?_
  have tk : L2.Takes (cxOf (L2.CX P w) P w K mg base N__law_right "_law_right" (defScope (top 42)) f cdv A outer s H E) (WD E) := takes_of rfl rfl rfl rfl
  have hp : PassesOwn (model P w) (A.deeper (PyProof.Rows.envOfC "_law_right" (defScope (top 42)) s.heap.objs.size f cdv)) (PyProof.Rows.envOfC "_law_right" (defScope (top 42)) s.heap.objs.size f cdv) (cxOf (L2.CX P w) P w K mg base N__law_right "_law_right" (defScope (top 42)) f cdv A outer s H E).xe := passes_of rfl
  have hN : N__law_right.Nodup := sc__law_right.nd
  have hc : (cxOf (L2.CX P w) P w K mg base N__law_right "_law_right" (defScope (top 42)) f cdv A outer s H E).calm = true := rfl
  have hu := hr.r.units
  have hu6 := units66 hr.r
  exact (sss_cons (ss_asg (se_callI h__law_one_of hr (by decide) tk (sa_cons (se_var 0) (sa_cons (se_lst (sa_cons se_non (sa_cons se_int (sa_cons (se_neg se_int) (sa_cons se_bl (sa_cons se_str (sa_cons se_str (sa_cons (se_tup sa_nil) (sa_cons (se_tup (sa_cons se_int (sa_cons se_int sa_nil))) (sa_cons (se_lst sa_nil) (sa_cons (se_lst (sa_cons se_int sa_nil)) (sa_cons se_dic0 (sa_cons se_dic1 (sa_cons (se_op op_sPow se_int se_int) (sa_cons (se_tup (sa_cons (se_tup (sa_cons se_int (sa_cons se_int sa_nil))) sa_nil)) sa_nil))))))))))))))) sa_nil))) (sg_name 1 hN)) (sss_cons (ss_for hp hc (si_enum fx.f_enumerate (sa_cons (se_callP h__law_given_errors hr (by decide) tk (sa_cons (se_var 1) sa_nil)) sa_nil)) (sg_un hc (sgs_cons (sg_name 3 hN) (sgs_cons (sg_name 2 hN) sgs_nil))) (sss_one (ss_if (st_cmp (op_sNe hu) (se_lc hc hN (si_any (se_var 2)) (own := ow__law_right_0) (BlkOk.of (by rfl)) (fun _ _ _ _ _ => (sg_name 4 hN)) (fun _ _ _ _ _ => sts_nil) (fun _ _ _ _ _ => (se_op op_sAdd (se_callP h__law_sorts hr (by decide) takes0 (sa_cons (se_var 4) sa_nil)) (se_lst (sa_cons (se_callB (call_sReprX hr) fx.f_repr bt_repr (sa_cons (se_xf fx.XF_given (se_var 4)) sa_nil)) sa_nil))))) (se_op op_sMul (se_lst (sa_cons (se_lst (sa_cons (se_var 3) (sa_cons se_int (sa_cons se_int (sa_cons (se_callB (call_sReprX hr) fx.f_repr bt_repr (sa_cons (se_var 1) sa_nil)) sa_nil))))) sa_nil)) se_int)) (sss_one (ss_ret se_bl)) sss_nil))) (sss_cons (ss_for hp hc (si_enum fx.f_enumerate (sa_cons (se_callP h__law_index_errors hr (by decide) tk (sa_cons (se_var 1) sa_nil)) sa_nil)) (sg_un hc (sgs_cons (sg_name 3 hN) (sgs_cons (sg_name 2 hN) sgs_nil))) (sss_one (ss_if (st_cmp (op_sNe hu) (se_lc hc hN (si_any (se_var 2)) (own := ow__law_right_1) (BlkOk.of (by rfl)) (fun _ _ _ _ _ => (sg_name 4 hN)) (fun _ _ _ _ _ => sts_nil) (fun _ _ _ _ _ => (se_op op_sAdd (se_callP h__law_sorts hr (by decide) takes0 (sa_cons (se_var 4) sa_nil)) (se_lst (sa_cons (se_callB (call_sReprX hr) fx.f_repr bt_repr (sa_cons (se_xf fx.XF_index (se_var 4)) sa_nil)) sa_nil))))) (se_op op_sMul (se_lst (sa_cons (se_lst (sa_cons (se_op op_sAdd se_int (se_var 3)) (sa_cons se_int (sa_cons se_int (sa_cons (se_callB (call_sReprX hr) fx.f_repr bt_repr (sa_cons (se_var 1) sa_nil)) sa_nil))))) sa_nil)) se_int)) (sss_one (ss_ret se_bl)) sss_nil))) (sss_cons (ss_asg (se_lst (sa_cons (se_exn1 fi.E_UnknownName hr (by decide) (se_var 1)) (sa_cons (se_exn1k fi.K_UnknownName hr (by decide) (se_var 1)) sa_nil))) (sg_name 2 hN)) (sss_cons (ss_if (st_cmp (op_sNe hu) (se_lc hc hN (si_any (se_var 2)) (own := ow__law_right_2) (BlkOk.of (by rfl)) (fun _ _ _ _ _ => (sg_name 4 hN)) (fun _ _ _ _ _ => sts_nil) (fun _ _ _ _ _ => (se_op op_sAdd (se_callP h__law_sorts hr (by decide) takes0 (sa_cons (se_var 4) sa_nil)) (se_lst (sa_cons (se_callB (call_sReprX hr) fx.f_repr bt_repr (sa_cons (se_xf fx.XF_given (se_var 4)) sa_nil)) sa_nil))))) (se_op op_sMul (se_lst (sa_cons (se_lst (sa_cons se_int (sa_cons se_int (sa_cons se_int (sa_cons (se_callB (call_sReprX hr) fx.f_repr bt_repr (sa_cons (se_var 1) sa_nil)) sa_nil))))) sa_nil)) se_int)) (sss_one (ss_ret se_bl)) sss_nil) (sss_cons (ss_asg (se_lst (sa_cons (se_exn1 fi.E_TooGreat hr (by decide) (se_var 1)) (sa_cons (se_exn1k fi.K_TooGreat hr (by decide) (se_var 1)) sa_nil))) (sg_name 2 hN)) (sss_cons (ss_if (st_cmp (op_sNe hu) (se_lc hc hN (si_any (se_var 2)) (own := ow__law_right_3) (BlkOk.of (by rfl)) (fun _ _ _ _ _ => (sg_name 4 hN)) (fun _ _ _ _ _ => sts_nil) (fun _ _ _ _ _ => (se_op op_sAdd (se_callP h__law_sorts hr (by decide) takes0 (sa_cons (se_var 4) sa_nil)) (se_lst (sa_cons (se_callB (call_sReprX hr) fx.f_repr bt_repr (sa_cons (se_xf fx.XF_given (se_var 4)) sa_nil)) sa_nil))))) (se_op op_sMul (se_lst (sa_cons (se_lst (sa_cons se_int (sa_cons se_int (sa_cons se_int (sa_cons (se_callB (call_sReprX hr) fx.f_repr bt_repr (sa_cons (se_var 1) sa_nil)) sa_nil))))) sa_nil)) se_int)) (sss_one (ss_ret se_bl)) sss_nil) (sss_cons (ss_for hp hc (si_any (se_lst (sa_cons (se_tup (sa_cons se_int (sa_cons (se_lst (sa_cons (se_exn1 fi.E_Broken hr (by decide) (se_var 1)) (sa_cons (se_exn1k fi.K_Broken hr (by decide) (se_var 1)) sa_nil))) sa_nil))) (sa_cons (se_tup (sa_cons se_int (sa_cons (se_lst (sa_cons (se_exn1 fi.E_InUse hr (by decide) (se_var 1)) (sa_cons (se_exn1k fi.K_InUse hr (by decide) (se_var 1)) sa_nil))) sa_nil))) sa_nil)))) (sg_un hc (sgs_cons (sg_name 3 hN) (sgs_cons (sg_name 2 hN) sgs_nil))) (sss_one (ss_if (st_cmp (op_sNe hu) (se_lc hc hN (si_any (se_var 2)) (own := ow__law_right_4) (BlkOk.of (by rfl)) (fun _ _ _ _ _ => (sg_name 4 hN)) (fun _ _ _ _ _ => sts_nil) (fun _ _ _ _ _ => (se_op op_sAdd (se_callP h__law_sorts hr (by decide) takes0 (sa_cons (se_var 4) sa_nil)) (se_lst (sa_cons (se_callB (call_sReprX hr) fx.f_repr bt_repr (sa_cons (se_xf fx.XF_index (se_var 4)) sa_nil)) sa_nil))))) (se_op op_sMul (se_lst (sa_cons (se_lst (sa_cons (se_var 3) (sa_cons se_int (sa_cons se_int (sa_cons (se_callB (call_sReprX hr) fx.f_repr bt_repr (sa_cons (se_var 1) sa_nil)) sa_nil))))) sa_nil)) se_int)) (sss_one (ss_ret se_bl)) sss_nil))) (sss_one (ss_ret se_bl))))))))))

abbrev ow_law_0 : List (PySem.Str × Nat) := [("_law_e", 4)]
abbrev ow_law_1 : List (PySem.Str × Nat) := [("_law_turn", 5)]
noncomputable def q_law_8 : MS := (mRet (mCB sAll (mCons (mLC (mRng1 (mCons (mCB sMax (mCons (mC (.int 2)) (mCons (mCB sMin (mCons (mCB sLen (mCons (mVar 0) mNil)) (mCons (mC (.int 6)) mNil))) mNil))) mNil)) (gNm 5) mYes (mCallI 1 m__law_right (mCons (mCallI 2 m__law_jar (mCons (mVar 0) (mCons (mVar 5) mNil))) mNil)) (ow_law_1.map (·.2))) mNil)))
noncomputable def q_law_6 : MS := (mSeq (mIfS (mBs (mOp sNe (mLC (mItX (mVar 2)) (gNm 4) mYes (mCallP 1 m__law_sorts (mCons (mVar 4) mNil)) (ow_law_0.map (·.2))) (mVar 3))) (mRet (mC (.bl false))) mSkip) q_law_8)
noncomputable def q_law_5 : MS := (mSeq (mAsg (mLst (mCons (mLst (mCons (mC (.int 20)) (mCons (mC (.int 52)) (mCons (mC (.int 55)) mNil)))) (mCons (mLst (mCons (mC (.int 21)) (mCons (mC (.int 52)) (mCons (mC (.int 55)) mNil)))) (mCons (mLst (mCons (mC (.int 22)) (mCons (mC (.int 52)) (mCons (mC (.int 55)) mNil)))) (mCons (mLst (mCons (mC (.int 50)) (mCons (mC (.int 53)) mNil))) (mCons (mLst (mCons (mC (.int 51)) (mCons (mC (.int 54)) mNil))) (mCons (mLst (mCons (mC (.int 52)) (mCons (mC (.int 55)) mNil))) mNil))))))) (gNm 3)) q_law_6)
noncomputable def q_law_4 : MS := (mSeq (mAsg (mLst (mCons (mExn0 "NoStart") (mCons (mExn0 "NoOther") (mCons (mExn0 "NothingToUndo") (mCons (mExn0 "WrongValue") (mCons (mExn0 "WrongName") (mCons (mExn0 "NoAnswer") mNil))))))) (gNm 2)) q_law_5)
noncomputable def q_law_2 : MS := (mSeq (mIfS (mBs (mOp sNe (mCB sReprX (mCons (mVar 1) mNil)) (mCB sReprX (mCons (mLst (mCons (mC (.int 30)) (mCons (mC (.int 12)) (mCons (mC (.int 100)) (mCons (mC (.int 1000)) (mCons (mC (.int 4)) (mCons (mOp sPow (mC (.int 10)) (mC (.int 30))) (mCons (mC (.int 20)) (mCons (mC (.int 40)) mNil))))))))) mNil)))) (mRet (mC (.bl false))) mSkip) q_law_4)
noncomputable def b_law : MS := (mSeq (mAsg (mLst (mCons (mC k_MOST_ROOT) (mCons (mC k_MOST_SIZE) (mCons (mC k_MOST_RATE) (mCons (mC k_MOST_START) (mCons (mC k_MOST_BELLS) (mCons (mC k_MOST_DAY) (mCons (mC k_MOST_LOOKS) (mCons (mC k_MOST_PATTERN) mNil))))))))) (gNm 1)) q_law_2)
@[irreducible] noncomputable def m_law : List D → Pr := runP 6 b_law
abbrev N_law : List PySem.Str := ["_law_cells", "_law_told", "_law_bare", "_law_due", "_law_e", "_law_turn"]
abbrev P_law : List PySem.Str := ["_law_cells"]
abbrev S_law : List Ev.Shape := []
theorem sc_law : FnScope N_law P_law (defScope (top 43)) := ⟨rfl, rfl, rfl, by decide +kernel, rfl, by decide +kernel, by decide +kernel⟩
theorem d_law {P : Program} {w : World} {K : PySem.W.Frag} {mg : PySem.Str → Option Value} {base : Heap} {f : Addr} {fd : FuncData} (fx : Fx K mg) (F : FunD K "law" "law" (defArgs (top 43)) (defBody (top 43)) (defScope (top 43)) [] [] f fd) (hm : mg "law" = some (.ref f)) (fi : FxI P w K mg base) (h__law_jar : DefI P w K mg base 5 "_law_jar" P__law_jar m__law_jar S__law_jar) (h__law_right : DefI P w K mg base 7 "_law_right" P__law_right m__law_right S__law_right) (h__law_sorts : DefP P w K mg base 5 "_law_sorts" P__law_sorts m__law_sorts S__law_sorts) : DefP P w K mg base 8 "law" P_law m_law S_law := by
  unfold m_law
  refine DefP.of F hm sc_law (F.bindsN fun _ _ _ _ _ _ us hl => match us, hl with | [_], _ => rfl) kws_nil fun cdv A outer s H E hr => ?_
  have tk : L2.Takes (cxOf (L2.CX P w) P w K mg base N_law "law" (defScope (top 43)) f cdv A outer s H E) (WD E) := takes_of rfl rfl rfl rfl
  have hp : PassesOwn (model P w) (A.deeper (PyProof.Rows.envOfC "law" (defScope (top 43)) s.heap.objs.size f cdv)) (PyProof.Rows.envOfC "law" (defScope (top 43)) s.heap.objs.size f cdv) (cxOf (L2.CX P w) P w K mg base N_law "law" (defScope (top 43)) f cdv A outer s H E).xe := passes_of rfl
  have hN : N_law.Nodup := sc_law.nd
  have hc : (cxOf (L2.CX P w) P w K mg base N_law "law" (defScope (top 43)) f cdv A outer s H E).calm = true := rfl
  have hu := hr.r.units
  have hu6 := units66 hr.r
  exact (sss_cons (ss_asg (se_lst (sa_cons (se_glob fx.k_MOST_ROOT) (sa_cons (se_glob fx.k_MOST_SIZE) (sa_cons (se_glob fx.k_MOST_RATE) (sa_cons (se_glob fx.k_MOST_START) (sa_cons (se_glob fx.k_MOST_BELLS) (sa_cons (se_glob fx.k_MOST_DAY) (sa_cons (se_glob fx.k_MOST_LOOKS) (sa_cons (se_glob fx.k_MOST_PATTERN) sa_nil))))))))) (sg_name 1 hN)) (sss_cons (ss_if (st_cmp (op_sNe hu) (se_callB (call_sReprX hr) fx.f_repr bt_repr (sa_cons (se_var 1) sa_nil)) (se_callB (call_sReprX hr) fx.f_repr bt_repr (sa_cons (se_lst (sa_cons se_int (sa_cons se_int (sa_cons se_int (sa_cons se_int (sa_cons se_int (sa_cons (se_op op_sPow se_int se_int) (sa_cons se_int (sa_cons se_int sa_nil))))))))) sa_nil))) (sss_one (ss_ret se_bl)) sss_nil) (sss_cons (ss_asg (se_lst (sa_cons (se_exn0 fx.X_NoStart) (sa_cons (se_exn0 fx.X_NoOther) (sa_cons (se_exn0 fx.X_NothingToUndo) (sa_cons (se_exn0 fx.X_WrongValue) (sa_cons (se_exn0 fx.X_WrongName) (sa_cons (se_exn0 fx.X_NoAnswer) sa_nil))))))) (sg_name 2 hN)) (sss_cons (ss_asg (se_lst (sa_cons (se_lst (sa_cons se_int (sa_cons se_int (sa_cons se_int sa_nil)))) (sa_cons (se_lst (sa_cons se_int (sa_cons se_int (sa_cons se_int sa_nil)))) (sa_cons (se_lst (sa_cons se_int (sa_cons se_int (sa_cons se_int sa_nil)))) (sa_cons (se_lst (sa_cons se_int (sa_cons se_int sa_nil))) (sa_cons (se_lst (sa_cons se_int (sa_cons se_int sa_nil))) (sa_cons (se_lst (sa_cons se_int (sa_cons se_int sa_nil))) sa_nil))))))) (sg_name 3 hN)) (sss_cons (ss_if (st_cmp (op_sNe hu) (se_lc hc hN (si_any (se_var 2)) (own := ow_law_0) (BlkOk.of (by rfl)) (fun _ _ _ _ _ => (sg_name 4 hN)) (fun _ _ _ _ _ => sts_nil) (fun _ _ _ _ _ => (se_callP h__law_sorts hr (by decide) takes0 (sa_cons (se_var 4) sa_nil)))) (se_var 3)) (sss_one (ss_ret se_bl)) sss_nil) (sss_one (ss_ret (se_callB (call_sAll hc) fx.f_all bt_all (sa_cons (se_lc hc hN (si_range1 fx.f_range (sa_cons (se_callB (call_sMax hc) fx.f_max bt_max (sa_cons se_int (sa_cons (se_callB (call_sMin hc) fx.f_min bt_min (sa_cons (se_callB call_sLen fx.f_len bt_len (sa_cons (se_var 0) sa_nil)) (sa_cons se_int sa_nil))) sa_nil))) sa_nil)) (own := ow_law_1) (BlkOk.of (by rfl)) (fun _ _ _ _ _ => (sg_name 5 hN)) (fun _ _ _ _ _ => sts_nil) (fun _ _ _ _ _ => (se_callI h__law_right hr (by decide) takes0 (sa_cons (se_callI h__law_jar hr (by decide) takes0 (sa_cons (se_var 0) (sa_cons (se_var 5) sa_nil))) sa_nil)))) sa_nil)))))))))
end K01

namespace K01
open PySem PySem.Spec L2 Ev
open K01Y (names fn fx2 fa ex R hk ob ob_eq run dx_Broken dx_InUse dx_InvalidBells dx_InvalidDay dx_InvalidDeeds dx_InvalidIndex dx_InvalidLine dx_InvalidLooks dx_InvalidName dx_InvalidNumber dx_InvalidPattern dx_InvalidRate dx_InvalidRoot dx_InvalidStart dx_InvalidText dx_InvalidWay dx_InvalidWish dx_NotABell dx_TooGreat dx_UnknownName df__law_dip df__law_one_of df__law_jar df__law_sorts df__law_given_errors df__law_index_errors df__law_right df_law)
theorem facts {P : Program} {w : World} {K : PySem.W.Frag} {h : Heap} {mg : PySem.Str → Option Value} (X : K.In h) (G : h.Ns mainGlobals mg) (c : EvH.SaysB fa fn fx2 [] [] ex w h K) (base : Heap) : DefP P w K mg base 8 "law" P_law m_law S_law := by
  have fx : Fx K mg := {
    z := trivial
    f_ArithmeticError := He.free_ok X G (c.fact 8 (f := .free "ArithmeticError") rfl)
    f_LookupError := He.free_ok X G (c.fact 9 (f := .free "LookupError") rfl)
    f_ValueError := He.free_ok X G (c.fact 10 (f := .free "ValueError") rfl)
    f_abs := He.free_ok X G (c.fact 11 (f := .free "abs") rfl)
    f_all := He.free_ok X G (c.fact 12 (f := .free "all") rfl)
    f_bool := He.free_ok X G (c.fact 13 (f := .free "bool") rfl)
    f_divmod := He.free_ok X G (c.fact 14 (f := .free "divmod") rfl)
    f_enumerate := He.free_ok X G (c.fact 15 (f := .free "enumerate") rfl)
    f_int := He.free_ok X G (c.fact 16 (f := .free "int") rfl)
    f_isinstance := He.free_ok X G (c.fact 17 (f := .free "isinstance") rfl)
    f_len := He.free_ok X G (c.fact 18 (f := .free "len") rfl)
    f_list := He.free_ok X G (c.fact 19 (f := .free "list") rfl)
    f_max := He.free_ok X G (c.fact 20 (f := .free "max") rfl)
    f_min := He.free_ok X G (c.fact 21 (f := .free "min") rfl)
    f_range := He.free_ok X G (c.fact 22 (f := .free "range") rfl)
    f_repr := He.free_ok X G (c.fact 23 (f := .free "repr") rfl)
    f_str := He.free_ok X G (c.fact 24 (f := .free "str") rfl)
    f_tuple := He.free_ok X G (c.fact 25 (f := .free "tuple") rfl)
    k_MOST_ROOT := KD.ofInt (He.int_ok X G (c.fact 26 (f := .int "MOST_ROOT" (30)) rfl))
    k_MOST_SIZE := KD.ofInt (He.int_ok X G (c.fact 27 (f := .int "MOST_SIZE" (12)) rfl))
    k_MOST_RATE := KD.ofInt (He.int_ok X G (c.fact 28 (f := .int "MOST_RATE" (100)) rfl))
    k_MOST_START := KD.ofInt (He.int_ok X G (c.fact 29 (f := .int "MOST_START" (1000)) rfl))
    k_MOST_BELLS := KD.ofInt (He.int_ok X G (c.fact 30 (f := .int "MOST_BELLS" (4)) rfl))
    k_MOST_DAY := KD.ofInt (He.int_ok X G (c.fact 31 (f := .int "MOST_DAY" (1000000000000000000000000000000)) rfl))
    k_MOST_LOOKS := KD.ofInt (He.int_ok X G (c.fact 32 (f := .int "MOST_LOOKS" (20)) rfl))
    k_MOST_PATTERN := KD.ofInt (He.int_ok X G (c.fact 33 (f := .int "MOST_PATTERN" (40)) rfl))
    X_NoAnswer := excNB_ok F.excBase_ArithmeticError (He.glo_ok X G (c.fact 34 (f := .glo "NoAnswer") rfl)) (c.more 0 (f := fun K => excNB K "NoAnswer" ArithmeticError_bm "ArithmeticError.__new__") rfl)
    X_NoOther := excNB_ok F.excBase_ArithmeticError (He.glo_ok X G (c.fact 35 (f := .glo "NoOther") rfl)) (c.more 1 (f := fun K => excNB K "NoOther" ArithmeticError_bm "ArithmeticError.__new__") rfl)
    X_NoStart := excNB_ok F.excBase_ArithmeticError (He.glo_ok X G (c.fact 36 (f := .glo "NoStart") rfl)) (c.more 2 (f := fun K => excNB K "NoStart" ArithmeticError_bm "ArithmeticError.__new__") rfl)
    X_NothingToUndo := excNB_ok F.excBase_ArithmeticError (He.glo_ok X G (c.fact 37 (f := .glo "NothingToUndo") rfl)) (c.more 3 (f := fun K => excNB K "NothingToUndo" ArithmeticError_bm "ArithmeticError.__new__") rfl)
    X_WrongName := excNB_ok F.excBase_LookupError (He.glo_ok X G (c.fact 38 (f := .glo "WrongName") rfl)) (c.more 4 (f := fun K => excNB K "WrongName" LookupError_bm "LookupError.__new__") rfl)
    X_WrongValue := excNB_ok F.excBase_ValueError (He.glo_ok X G (c.fact 39 (f := .glo "WrongValue") rfl)) (c.more 5 (f := fun K => excNB K "WrongValue" ValueError_bm "ValueError.__new__") rfl)
    G_Broken := ⟨_, He.glo_ok X G (c.fact 40 (f := .glo "Broken") rfl)⟩
    G_InUse := ⟨_, He.glo_ok X G (c.fact 41 (f := .glo "InUse") rfl)⟩
    G_InvalidBells := ⟨_, He.glo_ok X G (c.fact 42 (f := .glo "InvalidBells") rfl)⟩
    G_InvalidDay := ⟨_, He.glo_ok X G (c.fact 43 (f := .glo "InvalidDay") rfl)⟩
    G_InvalidDeeds := ⟨_, He.glo_ok X G (c.fact 44 (f := .glo "InvalidDeeds") rfl)⟩
    G_InvalidIndex := ⟨_, He.glo_ok X G (c.fact 45 (f := .glo "InvalidIndex") rfl)⟩
    G_InvalidLine := ⟨_, He.glo_ok X G (c.fact 46 (f := .glo "InvalidLine") rfl)⟩
    G_InvalidLooks := ⟨_, He.glo_ok X G (c.fact 47 (f := .glo "InvalidLooks") rfl)⟩
    G_InvalidName := ⟨_, He.glo_ok X G (c.fact 48 (f := .glo "InvalidName") rfl)⟩
    G_InvalidNumber := ⟨_, He.glo_ok X G (c.fact 49 (f := .glo "InvalidNumber") rfl)⟩
    G_InvalidPattern := ⟨_, He.glo_ok X G (c.fact 50 (f := .glo "InvalidPattern") rfl)⟩
    G_InvalidRate := ⟨_, He.glo_ok X G (c.fact 51 (f := .glo "InvalidRate") rfl)⟩
    G_InvalidRoot := ⟨_, He.glo_ok X G (c.fact 52 (f := .glo "InvalidRoot") rfl)⟩
    G_InvalidStart := ⟨_, He.glo_ok X G (c.fact 53 (f := .glo "InvalidStart") rfl)⟩
    G_InvalidText := ⟨_, He.glo_ok X G (c.fact 54 (f := .glo "InvalidText") rfl)⟩
    G_InvalidWay := ⟨_, He.glo_ok X G (c.fact 55 (f := .glo "InvalidWay") rfl)⟩
    G_InvalidWish := ⟨_, He.glo_ok X G (c.fact 56 (f := .glo "InvalidWish") rfl)⟩
    G_NoAnswer := ⟨_, He.glo_ok X G (c.fact 34 (f := .glo "NoAnswer") rfl)⟩
    G_NoOther := ⟨_, He.glo_ok X G (c.fact 35 (f := .glo "NoOther") rfl)⟩
    G_NoStart := ⟨_, He.glo_ok X G (c.fact 36 (f := .glo "NoStart") rfl)⟩
    G_NotABell := ⟨_, He.glo_ok X G (c.fact 57 (f := .glo "NotABell") rfl)⟩
    G_NothingToUndo := ⟨_, He.glo_ok X G (c.fact 37 (f := .glo "NothingToUndo") rfl)⟩
    G_TooGreat := ⟨_, He.glo_ok X G (c.fact 58 (f := .glo "TooGreat") rfl)⟩
    G_UnknownName := ⟨_, He.glo_ok X G (c.fact 59 (f := .glo "UnknownName") rfl)⟩
    G_WrongName := ⟨_, He.glo_ok X G (c.fact 38 (f := .glo "WrongName") rfl)⟩
    G_WrongValue := ⟨_, He.glo_ok X G (c.fact 39 (f := .glo "WrongValue") rfl)⟩
    IX := istB_ok X G (c.more 26 (f := fun K => istB K tabi kni knb) rfl)
    XF_given := xftB_ok X G (c.more 27 (f := fun K => xftB K kn_given "given") rfl)
    XF_index := xftB_ok X G (c.more 28 (f := fun K => xftB K kn_index "index") rfl)
  }
  obtain ⟨_, G_Broken⟩ := c.def_ 8 (d := dx_Broken) rfl
  obtain ⟨_, G_InUse⟩ := c.def_ 9 (d := dx_InUse) rfl
  obtain ⟨_, G_InvalidBells⟩ := c.def_ 10 (d := dx_InvalidBells) rfl
  obtain ⟨_, G_InvalidDay⟩ := c.def_ 11 (d := dx_InvalidDay) rfl
  obtain ⟨_, G_InvalidDeeds⟩ := c.def_ 12 (d := dx_InvalidDeeds) rfl
  obtain ⟨_, G_InvalidIndex⟩ := c.def_ 13 (d := dx_InvalidIndex) rfl
  obtain ⟨_, G_InvalidLine⟩ := c.def_ 14 (d := dx_InvalidLine) rfl
  obtain ⟨_, G_InvalidLooks⟩ := c.def_ 15 (d := dx_InvalidLooks) rfl
  obtain ⟨_, G_InvalidName⟩ := c.def_ 16 (d := dx_InvalidName) rfl
  obtain ⟨_, G_InvalidNumber⟩ := c.def_ 17 (d := dx_InvalidNumber) rfl
  obtain ⟨_, G_InvalidPattern⟩ := c.def_ 18 (d := dx_InvalidPattern) rfl
  obtain ⟨_, G_InvalidRate⟩ := c.def_ 19 (d := dx_InvalidRate) rfl
  obtain ⟨_, G_InvalidRoot⟩ := c.def_ 20 (d := dx_InvalidRoot) rfl
  obtain ⟨_, G_InvalidStart⟩ := c.def_ 21 (d := dx_InvalidStart) rfl
  obtain ⟨_, G_InvalidText⟩ := c.def_ 22 (d := dx_InvalidText) rfl
  obtain ⟨_, G_InvalidWay⟩ := c.def_ 23 (d := dx_InvalidWay) rfl
  obtain ⟨_, G_InvalidWish⟩ := c.def_ 24 (d := dx_InvalidWish) rfl
  obtain ⟨_, G_NotABell⟩ := c.def_ 25 (d := dx_NotABell) rfl
  obtain ⟨_, G_TooGreat⟩ := c.def_ 26 (d := dx_TooGreat) rfl
  obtain ⟨_, G_UnknownName⟩ := c.def_ 27 (d := dx_UnknownName) rfl
  have fi : FxI P w K mg base := {
    z := trivial
    E_Broken := exiB_ok (s0 := "self") (g0 := "index") F.excBase_ArithmeticError F.store_ArithmeticError (He.glo_ok X G (c.fact 40 (f := .glo "Broken") rfl)) (c.more 6 (f := fun K => exiB K "Broken" "index" ArithmeticError_bm "ArithmeticError.__new__") rfl) (He.meth_ok (c.fact 60 (f := .meth "Broken" "__init__") rfl)) G_Broken ⟨_, _, _, _, rfl⟩ ⟨rfl, rfl, rfl, by decide +kernel, rfl, by decide +kernel, by decide +kernel⟩ (G_Broken.bindsN fun _ _ _ _ _ _ us hl => match us, hl with | [_, _], _ => rfl) (by decide) (by decide) (by decide) (by decide) (fun _ _ _ _ _ => rfl)
    K_Broken := exkB_ok (s0 := "self") (g0 := "index") F.excBase_ArithmeticError F.store_ArithmeticError (He.glo_ok X G (c.fact 40 (f := .glo "Broken") rfl)) (c.more 6 (f := fun K => exiB K "Broken" "index" ArithmeticError_bm "ArithmeticError.__new__") rfl) (He.meth_ok (c.fact 60 (f := .meth "Broken" "__init__") rfl)) G_Broken ⟨_, _, _, _, rfl⟩ ⟨rfl, rfl, rfl, by decide +kernel, rfl, by decide +kernel, by decide +kernel⟩ (Ev.FunD.bindsKq G_Broken fun _ _ _ _ _ _ us ws h1 h2 => match us, ws, h1, h2 with | [_], [_], _, _ => rfl) (by decide) (by decide) (by decide) (by decide) (fun _ _ _ _ _ => rfl)
    E_InUse := exiB_ok (s0 := "self") (g0 := "index") F.excBase_ArithmeticError F.store_ArithmeticError (He.glo_ok X G (c.fact 41 (f := .glo "InUse") rfl)) (c.more 7 (f := fun K => exiB K "InUse" "index" ArithmeticError_bm "ArithmeticError.__new__") rfl) (He.meth_ok (c.fact 61 (f := .meth "InUse" "__init__") rfl)) G_InUse ⟨_, _, _, _, rfl⟩ ⟨rfl, rfl, rfl, by decide +kernel, rfl, by decide +kernel, by decide +kernel⟩ (G_InUse.bindsN fun _ _ _ _ _ _ us hl => match us, hl with | [_, _], _ => rfl) (by decide) (by decide) (by decide) (by decide) (fun _ _ _ _ _ => rfl)
    K_InUse := exkB_ok (s0 := "self") (g0 := "index") F.excBase_ArithmeticError F.store_ArithmeticError (He.glo_ok X G (c.fact 41 (f := .glo "InUse") rfl)) (c.more 7 (f := fun K => exiB K "InUse" "index" ArithmeticError_bm "ArithmeticError.__new__") rfl) (He.meth_ok (c.fact 61 (f := .meth "InUse" "__init__") rfl)) G_InUse ⟨_, _, _, _, rfl⟩ ⟨rfl, rfl, rfl, by decide +kernel, rfl, by decide +kernel, by decide +kernel⟩ (Ev.FunD.bindsKq G_InUse fun _ _ _ _ _ _ us ws h1 h2 => match us, ws, h1, h2 with | [_], [_], _, _ => rfl) (by decide) (by decide) (by decide) (by decide) (fun _ _ _ _ _ => rfl)
    E_InvalidBells := exiB_ok (s0 := "self") (g0 := "index") F.excBase_ValueError F.store_ValueError (He.glo_ok X G (c.fact 42 (f := .glo "InvalidBells") rfl)) (c.more 8 (f := fun K => exiB K "InvalidBells" "index" ValueError_bm "ValueError.__new__") rfl) (He.meth_ok (c.fact 62 (f := .meth "InvalidBells" "__init__") rfl)) G_InvalidBells ⟨_, _, _, _, rfl⟩ ⟨rfl, rfl, rfl, by decide +kernel, rfl, by decide +kernel, by decide +kernel⟩ (G_InvalidBells.bindsN fun _ _ _ _ _ _ us hl => match us, hl with | [_, _], _ => rfl) (by decide) (by decide) (by decide) (by decide) (fun _ _ _ _ _ => rfl)
    K_InvalidBells := exkB_ok (s0 := "self") (g0 := "index") F.excBase_ValueError F.store_ValueError (He.glo_ok X G (c.fact 42 (f := .glo "InvalidBells") rfl)) (c.more 8 (f := fun K => exiB K "InvalidBells" "index" ValueError_bm "ValueError.__new__") rfl) (He.meth_ok (c.fact 62 (f := .meth "InvalidBells" "__init__") rfl)) G_InvalidBells ⟨_, _, _, _, rfl⟩ ⟨rfl, rfl, rfl, by decide +kernel, rfl, by decide +kernel, by decide +kernel⟩ (Ev.FunD.bindsKq G_InvalidBells fun _ _ _ _ _ _ us ws h1 h2 => match us, ws, h1, h2 with | [_], [_], _, _ => rfl) (by decide) (by decide) (by decide) (by decide) (fun _ _ _ _ _ => rfl)
    E_InvalidDay := exiB_ok (s0 := "self") (g0 := "given") F.excBase_ValueError F.store_ValueError (He.glo_ok X G (c.fact 43 (f := .glo "InvalidDay") rfl)) (c.more 9 (f := fun K => exiB K "InvalidDay" "given" ValueError_bm "ValueError.__new__") rfl) (He.meth_ok (c.fact 63 (f := .meth "InvalidDay" "__init__") rfl)) G_InvalidDay ⟨_, _, _, _, rfl⟩ ⟨rfl, rfl, rfl, by decide +kernel, rfl, by decide +kernel, by decide +kernel⟩ (G_InvalidDay.bindsN fun _ _ _ _ _ _ us hl => match us, hl with | [_, _], _ => rfl) (by decide) (by decide) (by decide) (by decide) (fun _ _ _ _ _ => rfl)
    K_InvalidDay := exkB_ok (s0 := "self") (g0 := "given") F.excBase_ValueError F.store_ValueError (He.glo_ok X G (c.fact 43 (f := .glo "InvalidDay") rfl)) (c.more 9 (f := fun K => exiB K "InvalidDay" "given" ValueError_bm "ValueError.__new__") rfl) (He.meth_ok (c.fact 63 (f := .meth "InvalidDay" "__init__") rfl)) G_InvalidDay ⟨_, _, _, _, rfl⟩ ⟨rfl, rfl, rfl, by decide +kernel, rfl, by decide +kernel, by decide +kernel⟩ (Ev.FunD.bindsKq G_InvalidDay fun _ _ _ _ _ _ us ws h1 h2 => match us, ws, h1, h2 with | [_], [_], _, _ => rfl) (by decide) (by decide) (by decide) (by decide) (fun _ _ _ _ _ => rfl)
    E_InvalidDeeds := exiB_ok (s0 := "self") (g0 := "index") F.excBase_ValueError F.store_ValueError (He.glo_ok X G (c.fact 44 (f := .glo "InvalidDeeds") rfl)) (c.more 10 (f := fun K => exiB K "InvalidDeeds" "index" ValueError_bm "ValueError.__new__") rfl) (He.meth_ok (c.fact 64 (f := .meth "InvalidDeeds" "__init__") rfl)) G_InvalidDeeds ⟨_, _, _, _, rfl⟩ ⟨rfl, rfl, rfl, by decide +kernel, rfl, by decide +kernel, by decide +kernel⟩ (G_InvalidDeeds.bindsN fun _ _ _ _ _ _ us hl => match us, hl with | [_, _], _ => rfl) (by decide) (by decide) (by decide) (by decide) (fun _ _ _ _ _ => rfl)
    K_InvalidDeeds := exkB_ok (s0 := "self") (g0 := "index") F.excBase_ValueError F.store_ValueError (He.glo_ok X G (c.fact 44 (f := .glo "InvalidDeeds") rfl)) (c.more 10 (f := fun K => exiB K "InvalidDeeds" "index" ValueError_bm "ValueError.__new__") rfl) (He.meth_ok (c.fact 64 (f := .meth "InvalidDeeds" "__init__") rfl)) G_InvalidDeeds ⟨_, _, _, _, rfl⟩ ⟨rfl, rfl, rfl, by decide +kernel, rfl, by decide +kernel, by decide +kernel⟩ (Ev.FunD.bindsKq G_InvalidDeeds fun _ _ _ _ _ _ us ws h1 h2 => match us, ws, h1, h2 with | [_], [_], _, _ => rfl) (by decide) (by decide) (by decide) (by decide) (fun _ _ _ _ _ => rfl)
    E_InvalidIndex := exiB_ok (s0 := "self") (g0 := "given") F.excBase_ValueError F.store_ValueError (He.glo_ok X G (c.fact 45 (f := .glo "InvalidIndex") rfl)) (c.more 11 (f := fun K => exiB K "InvalidIndex" "given" ValueError_bm "ValueError.__new__") rfl) (He.meth_ok (c.fact 65 (f := .meth "InvalidIndex" "__init__") rfl)) G_InvalidIndex ⟨_, _, _, _, rfl⟩ ⟨rfl, rfl, rfl, by decide +kernel, rfl, by decide +kernel, by decide +kernel⟩ (G_InvalidIndex.bindsN fun _ _ _ _ _ _ us hl => match us, hl with | [_, _], _ => rfl) (by decide) (by decide) (by decide) (by decide) (fun _ _ _ _ _ => rfl)
    K_InvalidIndex := exkB_ok (s0 := "self") (g0 := "given") F.excBase_ValueError F.store_ValueError (He.glo_ok X G (c.fact 45 (f := .glo "InvalidIndex") rfl)) (c.more 11 (f := fun K => exiB K "InvalidIndex" "given" ValueError_bm "ValueError.__new__") rfl) (He.meth_ok (c.fact 65 (f := .meth "InvalidIndex" "__init__") rfl)) G_InvalidIndex ⟨_, _, _, _, rfl⟩ ⟨rfl, rfl, rfl, by decide +kernel, rfl, by decide +kernel, by decide +kernel⟩ (Ev.FunD.bindsKq G_InvalidIndex fun _ _ _ _ _ _ us ws h1 h2 => match us, ws, h1, h2 with | [_], [_], _, _ => rfl) (by decide) (by decide) (by decide) (by decide) (fun _ _ _ _ _ => rfl)
    E_InvalidLine := exiB_ok (s0 := "self") (g0 := "given") F.excBase_ValueError F.store_ValueError (He.glo_ok X G (c.fact 46 (f := .glo "InvalidLine") rfl)) (c.more 12 (f := fun K => exiB K "InvalidLine" "given" ValueError_bm "ValueError.__new__") rfl) (He.meth_ok (c.fact 66 (f := .meth "InvalidLine" "__init__") rfl)) G_InvalidLine ⟨_, _, _, _, rfl⟩ ⟨rfl, rfl, rfl, by decide +kernel, rfl, by decide +kernel, by decide +kernel⟩ (G_InvalidLine.bindsN fun _ _ _ _ _ _ us hl => match us, hl with | [_, _], _ => rfl) (by decide) (by decide) (by decide) (by decide) (fun _ _ _ _ _ => rfl)
    K_InvalidLine := exkB_ok (s0 := "self") (g0 := "given") F.excBase_ValueError F.store_ValueError (He.glo_ok X G (c.fact 46 (f := .glo "InvalidLine") rfl)) (c.more 12 (f := fun K => exiB K "InvalidLine" "given" ValueError_bm "ValueError.__new__") rfl) (He.meth_ok (c.fact 66 (f := .meth "InvalidLine" "__init__") rfl)) G_InvalidLine ⟨_, _, _, _, rfl⟩ ⟨rfl, rfl, rfl, by decide +kernel, rfl, by decide +kernel, by decide +kernel⟩ (Ev.FunD.bindsKq G_InvalidLine fun _ _ _ _ _ _ us ws h1 h2 => match us, ws, h1, h2 with | [_], [_], _, _ => rfl) (by decide) (by decide) (by decide) (by decide) (fun _ _ _ _ _ => rfl)
    E_InvalidLooks := exiB_ok (s0 := "self") (g0 := "index") F.excBase_ValueError F.store_ValueError (He.glo_ok X G (c.fact 47 (f := .glo "InvalidLooks") rfl)) (c.more 13 (f := fun K => exiB K "InvalidLooks" "index" ValueError_bm "ValueError.__new__") rfl) (He.meth_ok (c.fact 67 (f := .meth "InvalidLooks" "__init__") rfl)) G_InvalidLooks ⟨_, _, _, _, rfl⟩ ⟨rfl, rfl, rfl, by decide +kernel, rfl, by decide +kernel, by decide +kernel⟩ (G_InvalidLooks.bindsN fun _ _ _ _ _ _ us hl => match us, hl with | [_, _], _ => rfl) (by decide) (by decide) (by decide) (by decide) (fun _ _ _ _ _ => rfl)
    K_InvalidLooks := exkB_ok (s0 := "self") (g0 := "index") F.excBase_ValueError F.store_ValueError (He.glo_ok X G (c.fact 47 (f := .glo "InvalidLooks") rfl)) (c.more 13 (f := fun K => exiB K "InvalidLooks" "index" ValueError_bm "ValueError.__new__") rfl) (He.meth_ok (c.fact 67 (f := .meth "InvalidLooks" "__init__") rfl)) G_InvalidLooks ⟨_, _, _, _, rfl⟩ ⟨rfl, rfl, rfl, by decide +kernel, rfl, by decide +kernel, by decide +kernel⟩ (Ev.FunD.bindsKq G_InvalidLooks fun _ _ _ _ _ _ us ws h1 h2 => match us, ws, h1, h2 with | [_], [_], _, _ => rfl) (by decide) (by decide) (by decide) (by decide) (fun _ _ _ _ _ => rfl)
    E_InvalidName := exiB_ok (s0 := "self") (g0 := "given") F.excBase_ValueError F.store_ValueError (He.glo_ok X G (c.fact 48 (f := .glo "InvalidName") rfl)) (c.more 14 (f := fun K => exiB K "InvalidName" "given" ValueError_bm "ValueError.__new__") rfl) (He.meth_ok (c.fact 68 (f := .meth "InvalidName" "__init__") rfl)) G_InvalidName ⟨_, _, _, _, rfl⟩ ⟨rfl, rfl, rfl, by decide +kernel, rfl, by decide +kernel, by decide +kernel⟩ (G_InvalidName.bindsN fun _ _ _ _ _ _ us hl => match us, hl with | [_, _], _ => rfl) (by decide) (by decide) (by decide) (by decide) (fun _ _ _ _ _ => rfl)
    K_InvalidName := exkB_ok (s0 := "self") (g0 := "given") F.excBase_ValueError F.store_ValueError (He.glo_ok X G (c.fact 48 (f := .glo "InvalidName") rfl)) (c.more 14 (f := fun K => exiB K "InvalidName" "given" ValueError_bm "ValueError.__new__") rfl) (He.meth_ok (c.fact 68 (f := .meth "InvalidName" "__init__") rfl)) G_InvalidName ⟨_, _, _, _, rfl⟩ ⟨rfl, rfl, rfl, by decide +kernel, rfl, by decide +kernel, by decide +kernel⟩ (Ev.FunD.bindsKq G_InvalidName fun _ _ _ _ _ _ us ws h1 h2 => match us, ws, h1, h2 with | [_], [_], _, _ => rfl) (by decide) (by decide) (by decide) (by decide) (fun _ _ _ _ _ => rfl)
    E_InvalidNumber := exiB_ok (s0 := "self") (g0 := "given") F.excBase_ValueError F.store_ValueError (He.glo_ok X G (c.fact 49 (f := .glo "InvalidNumber") rfl)) (c.more 15 (f := fun K => exiB K "InvalidNumber" "given" ValueError_bm "ValueError.__new__") rfl) (He.meth_ok (c.fact 69 (f := .meth "InvalidNumber" "__init__") rfl)) G_InvalidNumber ⟨_, _, _, _, rfl⟩ ⟨rfl, rfl, rfl, by decide +kernel, rfl, by decide +kernel, by decide +kernel⟩ (G_InvalidNumber.bindsN fun _ _ _ _ _ _ us hl => match us, hl with | [_, _], _ => rfl) (by decide) (by decide) (by decide) (by decide) (fun _ _ _ _ _ => rfl)
    K_InvalidNumber := exkB_ok (s0 := "self") (g0 := "given") F.excBase_ValueError F.store_ValueError (He.glo_ok X G (c.fact 49 (f := .glo "InvalidNumber") rfl)) (c.more 15 (f := fun K => exiB K "InvalidNumber" "given" ValueError_bm "ValueError.__new__") rfl) (He.meth_ok (c.fact 69 (f := .meth "InvalidNumber" "__init__") rfl)) G_InvalidNumber ⟨_, _, _, _, rfl⟩ ⟨rfl, rfl, rfl, by decide +kernel, rfl, by decide +kernel, by decide +kernel⟩ (Ev.FunD.bindsKq G_InvalidNumber fun _ _ _ _ _ _ us ws h1 h2 => match us, ws, h1, h2 with | [_], [_], _, _ => rfl) (by decide) (by decide) (by decide) (by decide) (fun _ _ _ _ _ => rfl)
    E_InvalidPattern := exiB_ok (s0 := "self") (g0 := "given") F.excBase_ValueError F.store_ValueError (He.glo_ok X G (c.fact 50 (f := .glo "InvalidPattern") rfl)) (c.more 16 (f := fun K => exiB K "InvalidPattern" "given" ValueError_bm "ValueError.__new__") rfl) (He.meth_ok (c.fact 70 (f := .meth "InvalidPattern" "__init__") rfl)) G_InvalidPattern ⟨_, _, _, _, rfl⟩ ⟨rfl, rfl, rfl, by decide +kernel, rfl, by decide +kernel, by decide +kernel⟩ (G_InvalidPattern.bindsN fun _ _ _ _ _ _ us hl => match us, hl with | [_, _], _ => rfl) (by decide) (by decide) (by decide) (by decide) (fun _ _ _ _ _ => rfl)
    K_InvalidPattern := exkB_ok (s0 := "self") (g0 := "given") F.excBase_ValueError F.store_ValueError (He.glo_ok X G (c.fact 50 (f := .glo "InvalidPattern") rfl)) (c.more 16 (f := fun K => exiB K "InvalidPattern" "given" ValueError_bm "ValueError.__new__") rfl) (He.meth_ok (c.fact 70 (f := .meth "InvalidPattern" "__init__") rfl)) G_InvalidPattern ⟨_, _, _, _, rfl⟩ ⟨rfl, rfl, rfl, by decide +kernel, rfl, by decide +kernel, by decide +kernel⟩ (Ev.FunD.bindsKq G_InvalidPattern fun _ _ _ _ _ _ us ws h1 h2 => match us, ws, h1, h2 with | [_], [_], _, _ => rfl) (by decide) (by decide) (by decide) (by decide) (fun _ _ _ _ _ => rfl)
    E_InvalidRate := exiB_ok (s0 := "self") (g0 := "given") F.excBase_ValueError F.store_ValueError (He.glo_ok X G (c.fact 51 (f := .glo "InvalidRate") rfl)) (c.more 17 (f := fun K => exiB K "InvalidRate" "given" ValueError_bm "ValueError.__new__") rfl) (He.meth_ok (c.fact 71 (f := .meth "InvalidRate" "__init__") rfl)) G_InvalidRate ⟨_, _, _, _, rfl⟩ ⟨rfl, rfl, rfl, by decide +kernel, rfl, by decide +kernel, by decide +kernel⟩ (G_InvalidRate.bindsN fun _ _ _ _ _ _ us hl => match us, hl with | [_, _], _ => rfl) (by decide) (by decide) (by decide) (by decide) (fun _ _ _ _ _ => rfl)
    K_InvalidRate := exkB_ok (s0 := "self") (g0 := "given") F.excBase_ValueError F.store_ValueError (He.glo_ok X G (c.fact 51 (f := .glo "InvalidRate") rfl)) (c.more 17 (f := fun K => exiB K "InvalidRate" "given" ValueError_bm "ValueError.__new__") rfl) (He.meth_ok (c.fact 71 (f := .meth "InvalidRate" "__init__") rfl)) G_InvalidRate ⟨_, _, _, _, rfl⟩ ⟨rfl, rfl, rfl, by decide +kernel, rfl, by decide +kernel, by decide +kernel⟩ (Ev.FunD.bindsKq G_InvalidRate fun _ _ _ _ _ _ us ws h1 h2 => match us, ws, h1, h2 with | [_], [_], _, _ => rfl) (by decide) (by decide) (by decide) (by decide) (fun _ _ _ _ _ => rfl)
    E_InvalidRoot := exiB_ok (s0 := "self") (g0 := "given") F.excBase_ValueError F.store_ValueError (He.glo_ok X G (c.fact 52 (f := .glo "InvalidRoot") rfl)) (c.more 18 (f := fun K => exiB K "InvalidRoot" "given" ValueError_bm "ValueError.__new__") rfl) (He.meth_ok (c.fact 72 (f := .meth "InvalidRoot" "__init__") rfl)) G_InvalidRoot ⟨_, _, _, _, rfl⟩ ⟨rfl, rfl, rfl, by decide +kernel, rfl, by decide +kernel, by decide +kernel⟩ (G_InvalidRoot.bindsN fun _ _ _ _ _ _ us hl => match us, hl with | [_, _], _ => rfl) (by decide) (by decide) (by decide) (by decide) (fun _ _ _ _ _ => rfl)
    K_InvalidRoot := exkB_ok (s0 := "self") (g0 := "given") F.excBase_ValueError F.store_ValueError (He.glo_ok X G (c.fact 52 (f := .glo "InvalidRoot") rfl)) (c.more 18 (f := fun K => exiB K "InvalidRoot" "given" ValueError_bm "ValueError.__new__") rfl) (He.meth_ok (c.fact 72 (f := .meth "InvalidRoot" "__init__") rfl)) G_InvalidRoot ⟨_, _, _, _, rfl⟩ ⟨rfl, rfl, rfl, by decide +kernel, rfl, by decide +kernel, by decide +kernel⟩ (Ev.FunD.bindsKq G_InvalidRoot fun _ _ _ _ _ _ us ws h1 h2 => match us, ws, h1, h2 with | [_], [_], _, _ => rfl) (by decide) (by decide) (by decide) (by decide) (fun _ _ _ _ _ => rfl)
    E_InvalidStart := exiB_ok (s0 := "self") (g0 := "given") F.excBase_ValueError F.store_ValueError (He.glo_ok X G (c.fact 53 (f := .glo "InvalidStart") rfl)) (c.more 19 (f := fun K => exiB K "InvalidStart" "given" ValueError_bm "ValueError.__new__") rfl) (He.meth_ok (c.fact 73 (f := .meth "InvalidStart" "__init__") rfl)) G_InvalidStart ⟨_, _, _, _, rfl⟩ ⟨rfl, rfl, rfl, by decide +kernel, rfl, by decide +kernel, by decide +kernel⟩ (G_InvalidStart.bindsN fun _ _ _ _ _ _ us hl => match us, hl with | [_, _], _ => rfl) (by decide) (by decide) (by decide) (by decide) (fun _ _ _ _ _ => rfl)
    K_InvalidStart := exkB_ok (s0 := "self") (g0 := "given") F.excBase_ValueError F.store_ValueError (He.glo_ok X G (c.fact 53 (f := .glo "InvalidStart") rfl)) (c.more 19 (f := fun K => exiB K "InvalidStart" "given" ValueError_bm "ValueError.__new__") rfl) (He.meth_ok (c.fact 73 (f := .meth "InvalidStart" "__init__") rfl)) G_InvalidStart ⟨_, _, _, _, rfl⟩ ⟨rfl, rfl, rfl, by decide +kernel, rfl, by decide +kernel, by decide +kernel⟩ (Ev.FunD.bindsKq G_InvalidStart fun _ _ _ _ _ _ us ws h1 h2 => match us, ws, h1, h2 with | [_], [_], _, _ => rfl) (by decide) (by decide) (by decide) (by decide) (fun _ _ _ _ _ => rfl)
    E_InvalidText := exiB_ok (s0 := "self") (g0 := "given") F.excBase_ValueError F.store_ValueError (He.glo_ok X G (c.fact 54 (f := .glo "InvalidText") rfl)) (c.more 20 (f := fun K => exiB K "InvalidText" "given" ValueError_bm "ValueError.__new__") rfl) (He.meth_ok (c.fact 74 (f := .meth "InvalidText" "__init__") rfl)) G_InvalidText ⟨_, _, _, _, rfl⟩ ⟨rfl, rfl, rfl, by decide +kernel, rfl, by decide +kernel, by decide +kernel⟩ (G_InvalidText.bindsN fun _ _ _ _ _ _ us hl => match us, hl with | [_, _], _ => rfl) (by decide) (by decide) (by decide) (by decide) (fun _ _ _ _ _ => rfl)
    K_InvalidText := exkB_ok (s0 := "self") (g0 := "given") F.excBase_ValueError F.store_ValueError (He.glo_ok X G (c.fact 54 (f := .glo "InvalidText") rfl)) (c.more 20 (f := fun K => exiB K "InvalidText" "given" ValueError_bm "ValueError.__new__") rfl) (He.meth_ok (c.fact 74 (f := .meth "InvalidText" "__init__") rfl)) G_InvalidText ⟨_, _, _, _, rfl⟩ ⟨rfl, rfl, rfl, by decide +kernel, rfl, by decide +kernel, by decide +kernel⟩ (Ev.FunD.bindsKq G_InvalidText fun _ _ _ _ _ _ us ws h1 h2 => match us, ws, h1, h2 with | [_], [_], _, _ => rfl) (by decide) (by decide) (by decide) (by decide) (fun _ _ _ _ _ => rfl)
    E_InvalidWay := exiB_ok (s0 := "self") (g0 := "given") F.excBase_ValueError F.store_ValueError (He.glo_ok X G (c.fact 55 (f := .glo "InvalidWay") rfl)) (c.more 21 (f := fun K => exiB K "InvalidWay" "given" ValueError_bm "ValueError.__new__") rfl) (He.meth_ok (c.fact 75 (f := .meth "InvalidWay" "__init__") rfl)) G_InvalidWay ⟨_, _, _, _, rfl⟩ ⟨rfl, rfl, rfl, by decide +kernel, rfl, by decide +kernel, by decide +kernel⟩ (G_InvalidWay.bindsN fun _ _ _ _ _ _ us hl => match us, hl with | [_, _], _ => rfl) (by decide) (by decide) (by decide) (by decide) (fun _ _ _ _ _ => rfl)
    K_InvalidWay := exkB_ok (s0 := "self") (g0 := "given") F.excBase_ValueError F.store_ValueError (He.glo_ok X G (c.fact 55 (f := .glo "InvalidWay") rfl)) (c.more 21 (f := fun K => exiB K "InvalidWay" "given" ValueError_bm "ValueError.__new__") rfl) (He.meth_ok (c.fact 75 (f := .meth "InvalidWay" "__init__") rfl)) G_InvalidWay ⟨_, _, _, _, rfl⟩ ⟨rfl, rfl, rfl, by decide +kernel, rfl, by decide +kernel, by decide +kernel⟩ (Ev.FunD.bindsKq G_InvalidWay fun _ _ _ _ _ _ us ws h1 h2 => match us, ws, h1, h2 with | [_], [_], _, _ => rfl) (by decide) (by decide) (by decide) (by decide) (fun _ _ _ _ _ => rfl)
    E_InvalidWish := exiB_ok (s0 := "self") (g0 := "given") F.excBase_ValueError F.store_ValueError (He.glo_ok X G (c.fact 56 (f := .glo "InvalidWish") rfl)) (c.more 22 (f := fun K => exiB K "InvalidWish" "given" ValueError_bm "ValueError.__new__") rfl) (He.meth_ok (c.fact 76 (f := .meth "InvalidWish" "__init__") rfl)) G_InvalidWish ⟨_, _, _, _, rfl⟩ ⟨rfl, rfl, rfl, by decide +kernel, rfl, by decide +kernel, by decide +kernel⟩ (G_InvalidWish.bindsN fun _ _ _ _ _ _ us hl => match us, hl with | [_, _], _ => rfl) (by decide) (by decide) (by decide) (by decide) (fun _ _ _ _ _ => rfl)
    K_InvalidWish := exkB_ok (s0 := "self") (g0 := "given") F.excBase_ValueError F.store_ValueError (He.glo_ok X G (c.fact 56 (f := .glo "InvalidWish") rfl)) (c.more 22 (f := fun K => exiB K "InvalidWish" "given" ValueError_bm "ValueError.__new__") rfl) (He.meth_ok (c.fact 76 (f := .meth "InvalidWish" "__init__") rfl)) G_InvalidWish ⟨_, _, _, _, rfl⟩ ⟨rfl, rfl, rfl, by decide +kernel, rfl, by decide +kernel, by decide +kernel⟩ (Ev.FunD.bindsKq G_InvalidWish fun _ _ _ _ _ _ us ws h1 h2 => match us, ws, h1, h2 with | [_], [_], _, _ => rfl) (by decide) (by decide) (by decide) (by decide) (fun _ _ _ _ _ => rfl)
    E_NotABell := exiB_ok (s0 := "self") (g0 := "given") F.excBase_ValueError F.store_ValueError (He.glo_ok X G (c.fact 57 (f := .glo "NotABell") rfl)) (c.more 23 (f := fun K => exiB K "NotABell" "given" ValueError_bm "ValueError.__new__") rfl) (He.meth_ok (c.fact 77 (f := .meth "NotABell" "__init__") rfl)) G_NotABell ⟨_, _, _, _, rfl⟩ ⟨rfl, rfl, rfl, by decide +kernel, rfl, by decide +kernel, by decide +kernel⟩ (G_NotABell.bindsN fun _ _ _ _ _ _ us hl => match us, hl with | [_, _], _ => rfl) (by decide) (by decide) (by decide) (by decide) (fun _ _ _ _ _ => rfl)
    K_NotABell := exkB_ok (s0 := "self") (g0 := "given") F.excBase_ValueError F.store_ValueError (He.glo_ok X G (c.fact 57 (f := .glo "NotABell") rfl)) (c.more 23 (f := fun K => exiB K "NotABell" "given" ValueError_bm "ValueError.__new__") rfl) (He.meth_ok (c.fact 77 (f := .meth "NotABell" "__init__") rfl)) G_NotABell ⟨_, _, _, _, rfl⟩ ⟨rfl, rfl, rfl, by decide +kernel, rfl, by decide +kernel, by decide +kernel⟩ (Ev.FunD.bindsKq G_NotABell fun _ _ _ _ _ _ us ws h1 h2 => match us, ws, h1, h2 with | [_], [_], _, _ => rfl) (by decide) (by decide) (by decide) (by decide) (fun _ _ _ _ _ => rfl)
    E_TooGreat := exiB_ok (s0 := "self") (g0 := "given") F.excBase_ArithmeticError F.store_ArithmeticError (He.glo_ok X G (c.fact 58 (f := .glo "TooGreat") rfl)) (c.more 24 (f := fun K => exiB K "TooGreat" "given" ArithmeticError_bm "ArithmeticError.__new__") rfl) (He.meth_ok (c.fact 78 (f := .meth "TooGreat" "__init__") rfl)) G_TooGreat ⟨_, _, _, _, rfl⟩ ⟨rfl, rfl, rfl, by decide +kernel, rfl, by decide +kernel, by decide +kernel⟩ (G_TooGreat.bindsN fun _ _ _ _ _ _ us hl => match us, hl with | [_, _], _ => rfl) (by decide) (by decide) (by decide) (by decide) (fun _ _ _ _ _ => rfl)
    K_TooGreat := exkB_ok (s0 := "self") (g0 := "given") F.excBase_ArithmeticError F.store_ArithmeticError (He.glo_ok X G (c.fact 58 (f := .glo "TooGreat") rfl)) (c.more 24 (f := fun K => exiB K "TooGreat" "given" ArithmeticError_bm "ArithmeticError.__new__") rfl) (He.meth_ok (c.fact 78 (f := .meth "TooGreat" "__init__") rfl)) G_TooGreat ⟨_, _, _, _, rfl⟩ ⟨rfl, rfl, rfl, by decide +kernel, rfl, by decide +kernel, by decide +kernel⟩ (Ev.FunD.bindsKq G_TooGreat fun _ _ _ _ _ _ us ws h1 h2 => match us, ws, h1, h2 with | [_], [_], _, _ => rfl) (by decide) (by decide) (by decide) (by decide) (fun _ _ _ _ _ => rfl)
    E_UnknownName := exiB_ok (s0 := "self") (g0 := "given") F.excBase_LookupError F.store_LookupError (He.glo_ok X G (c.fact 59 (f := .glo "UnknownName") rfl)) (c.more 25 (f := fun K => exiB K "UnknownName" "given" LookupError_bm "LookupError.__new__") rfl) (He.meth_ok (c.fact 79 (f := .meth "UnknownName" "__init__") rfl)) G_UnknownName ⟨_, _, _, _, rfl⟩ ⟨rfl, rfl, rfl, by decide +kernel, rfl, by decide +kernel, by decide +kernel⟩ (G_UnknownName.bindsN fun _ _ _ _ _ _ us hl => match us, hl with | [_, _], _ => rfl) (by decide) (by decide) (by decide) (by decide) (fun _ _ _ _ _ => rfl)
    K_UnknownName := exkB_ok (s0 := "self") (g0 := "given") F.excBase_LookupError F.store_LookupError (He.glo_ok X G (c.fact 59 (f := .glo "UnknownName") rfl)) (c.more 25 (f := fun K => exiB K "UnknownName" "given" LookupError_bm "LookupError.__new__") rfl) (He.meth_ok (c.fact 79 (f := .meth "UnknownName" "__init__") rfl)) G_UnknownName ⟨_, _, _, _, rfl⟩ ⟨rfl, rfl, rfl, by decide +kernel, rfl, by decide +kernel, by decide +kernel⟩ (Ev.FunD.bindsKq G_UnknownName fun _ _ _ _ _ _ us ws h1 h2 => match us, ws, h1, h2 with | [_], [_], _, _ => rfl) (by decide) (by decide) (by decide) (by decide) (fun _ _ _ _ _ => rfl)
  }
  obtain ⟨_, F__law_dip⟩ := c.def_ 0 (d := df__law_dip) rfl
  have h__law_dip := d__law_dip (P := P) (w := w) (base := base) fx F__law_dip (He.glo_ok X G (c.fact 0 (f := .glo "_law_dip") rfl)) fi 
  obtain ⟨_, F__law_one_of⟩ := c.def_ 1 (d := df__law_one_of) rfl
  have h__law_one_of := d__law_one_of (P := P) (w := w) (base := base) fx F__law_one_of (He.glo_ok X G (c.fact 1 (f := .glo "_law_one_of") rfl)) fi h__law_dip
  obtain ⟨_, F__law_jar⟩ := c.def_ 2 (d := df__law_jar) rfl
  have h__law_jar := d__law_jar (P := P) (w := w) (base := base) fx F__law_jar (He.glo_ok X G (c.fact 2 (f := .glo "_law_jar") rfl)) fi 
  obtain ⟨_, F__law_sorts⟩ := c.def_ 3 (d := df__law_sorts) rfl
  have h__law_sorts := d__law_sorts (P := P) (w := w) (base := base) fx F__law_sorts (He.glo_ok X G (c.fact 3 (f := .glo "_law_sorts") rfl)) fi 
  obtain ⟨_, F__law_given_errors⟩ := c.def_ 4 (d := df__law_given_errors) rfl
  have h__law_given_errors := d__law_given_errors (P := P) (w := w) (base := base) fx F__law_given_errors (He.glo_ok X G (c.fact 4 (f := .glo "_law_given_errors") rfl)) fi 
  obtain ⟨_, F__law_index_errors⟩ := c.def_ 5 (d := df__law_index_errors) rfl
  have h__law_index_errors := d__law_index_errors (P := P) (w := w) (base := base) fx F__law_index_errors (He.glo_ok X G (c.fact 5 (f := .glo "_law_index_errors") rfl)) fi 
  obtain ⟨_, F__law_right⟩ := c.def_ 6 (d := df__law_right) rfl
  have h__law_right := d__law_right (P := P) (w := w) (base := base) fx F__law_right (He.glo_ok X G (c.fact 6 (f := .glo "_law_right") rfl)) fi h__law_given_errors h__law_index_errors h__law_one_of h__law_sorts
  obtain ⟨_, F_law⟩ := c.def_ 7 (d := df_law) rfl
  have h_law := d_law (P := P) (w := w) (base := base) fx F_law (He.glo_ok X G (c.fact 7 (f := .glo "law") rfl)) fi h__law_jar h__law_right h__law_sorts
  exact h_law
theorem holds (hg : ∀ ns : List Int, ns.length ≤ 63 → m_law [.rol (ns.map .int)] = .ok (.bl true)) : PySem.Challenge.rw_stoprows_k01_limits_and_errors.Holds := by
  w_on; o_law
  refine HandSHeadRun.head_any (r := PySem.W.OpenLaw.row PySem.Challenge.rw_stoprows_k01_limits_and_errors) (q := PySem.W.view (PySem.W.OpenLaw.row PySem.Challenge.rw_stoprows_k01_limits_and_errors).prog [43]) (H := hk) (ob := ob) (M := 8000) (loose := names) (d := HandSHeadRun.topDef (PySem.W.OpenLaw.row PySem.Challenge.rw_stoprows_k01_limits_and_errors).prog 43) (kwd := []) ob_eq
    (by kernel_rfl) (fun s => by kernel_rfl) run (by kernel_rfl) (by kernel_rfl) (by kernel_rfl) (by rfl) (by first | assumption | decide +kernel) (by decide +kernel) ⟨rfl, rfl, rfl, rfl, rfl, by decide +kernel⟩ ?hw ?hc
  case hw => w_witness2
  case hc =>
    have en : (HandSHeadRun.topDef (PySem.W.OpenLaw.row PySem.Challenge.rw_stoprows_k01_limits_and_errors).prog 43).name = ("law" : PySem.Str) := by kernel_rfl
    refine walkG (l := PySem.Challenge.rw_stoprows_k01_limits_and_errors) (n := 63) (k := 8) (ps := P_law) (g := m_law) rfl (by decide) (by kernel_rfl) ⟨⟨rfl, by decide, by decide⟩, rfl⟩ rfl ?F hg
    intro w mg h Y G
    obtain ⟨K, KX, c⟩ := Y
    exact ⟨K, KX, fun base _ _ => en ▸ facts (P := (PySem.Challenge.rw_stoprows_k01_limits_and_errors).prog) (w := w) KX G c base⟩
end K01

namespace K01
open PySem L2 Ev Ma Qd Pl
section
variable {S : Sto} {R : Rt}
theorem dip_po {n : Nat} {S : Sto} {top : Int} {Q : D → Sto → Prop} {X : XQ} (hj : Jar n S) (ht : 0 < top) (hb : Bt 8000 top) (h : ∀ d S', 0 ≤ d → d < top → Step n S S' → Q (.int d) S') : (clI 2 m__law_dip [.ref n, .int top] S).po Q X := by
  obtain ⟨a, b, c, e⟩ := hj
  rw [clI_po (n := 2) rfl, m__law_dip, runI_po]
  have s1 : ∀ {o' : Ob}, (S.set n o')[n]? = some o' := Jar.set e
  have ft : ∀ x : Int, x.fmod top = x % top := fun x => Int.fmod_eq_emod_of_nonneg _ (by omega)
  simp [b__law_dip, startE, sIx_ref, e, s1, q__law_dip_2, q__law_dip_4, q__law_dip_5, q__law_dip_6]
  split
  · refine ⟨⟨ht, lt_two hb (Nat.pow_le_pow_right (by decide) (by decide)) (by decide)⟩, h _ _ (Int.emod_nonneg _ (by omega)) (Int.emod_lt_of_pos _ ht) ⟨⟨_, _, _, s1⟩, by simp⟩⟩
  · refine ⟨cMul_s (by decide), cMul_l (by decide), cNz_b (by decide), cDivG_b (by decide) (by decide), cNz_b (by omega), ?_⟩
    rw [ft]
    exact h _ _ (Int.emod_nonneg _ (by omega)) (Int.emod_lt_of_pos _ ht) ⟨⟨_, _, _, s1⟩, by simp⟩
/-- one of told things -/
theorem one_of_po {n : Nat} {S : Sto} {ds : List D} {Q : D → Sto → Prop} {X : XQ} (hj : Jar n S) (h0 : ds ≠ []) (hl : ds.length < 1000) (h : ∀ d S', d ∈ ds → Step n S S' → Q d S') : (clI 2 m__law_one_of [.ref n, .lst ds] S).po Q X := by
  rw [clI_po (n := 2) rfl, m__law_one_of, runI_po]
  have hp : 0 < ds.length := List.length_pos_iff.mpr h0
  simp [b__law_one_of, startE]
  refine dip_po hj (by omega) ((Bt.of_lt (k := 10) (by omega) (by omega)).mono (by decide)) fun d S' d0 d1 st => ?_
  have e : atI ds d = some (ds[d.toNat]'(by omega)) := by
    have := atI_of (xs := ds) (i := d.toNat) (by omega)
    rwa [Int.toNat_of_nonneg d0] at this
  simp [e]
  exact h _ _ (List.getElem_mem _) st
/-- a jar is made -/
theorem jar_po {S : Sto} {ns : List Int} {t : Int} {Q : D → Sto → Prop} {X : XQ} (h0 : 0 ≤ t) (ht : t < 1000) (hl : ns.length ≤ 63) (h : ∀ S', Jar S.length S' → S'.length = S.length + 1 → Q (.ref S.length) S') : (clI 2 m__law_jar [.rol (ns.map .int), .int t] S).po Q X := by
  rw [clI_po (n := 2) rfl, m__law_jar, runI_po]
  have p18 : cPow 10 18 = true := by decide
  obtain ⟨c, hc⟩ : ∃ c : Int, ∀ Q : Fl → Sto → Prop, fpo (b__law_jar [some (.rol (ns.map .int)), some (.int t), none, none, none] S) Q = fpo (q__law_jar_2 [some (.rol (ns.map .int)), some (.int t), some (.int c), none, none] S) Q := by
    by_cases hlt : t < (ns.length : Int)
    · have e : atI (ns.map D.int) t = some (.int (ns[t.toNat]'(by omega))) := by
        have := atI_of (xs := ns.map D.int) (i := t.toNat) (by simp; omega)
        rw [Int.toNat_of_nonneg h0] at this
        simpa using this
      exact ⟨ns[t.toNat]'(by omega), fun Q => by simp [b__law_jar, hlt, e]⟩
    · exact ⟨43 * t + 9, fun Q => by simp [b__law_jar, hlt, cMul_l (show (43 : Int).natAbs < 18446744073709551616 by decide)]⟩
  simp only [startE]
  simp
  rw [hc]
  simp [q__law_jar_2, cMul_l (show (6007 : Int).natAbs < 18446744073709551616 by decide), q__law_jar_3]
  have hz : (cutD (ns.map D.int) none (some 5)).length ≤ 63 := Nat.le_trans (cutD_len _ _ _) (by simpa using hl)
  refine ⟨by omega, ?_⟩
  refine fpo_for (fun _ env S' => S' = S ∧ ∃ (m : Int) (x : Option D), env = [some (.rol (ns.map .int)), some (.int t), some (.int c), some (.int m), x]) _ 0 ?_ ?_ _ _ ⟨rfl, _, _, rfl⟩
  · rintro i d env S1 hd ⟨rfl, m, x, rfl⟩
    obtain ⟨k, rfl⟩ : ∃ k : Int, d = .int k := by
      have hm := List.mem_of_getElem? hd
      rw [cutD_map] at hm
      simp only [List.mem_append, List.mem_map, List.mem_singleton] at hm
      rcases hm with ⟨k, _, rfl⟩ | rfl
      · exact ⟨_, rfl⟩
      · exact ⟨_, rfl⟩
    simp [fb__law_jar_3]
    exact ⟨cMul_s (by decide), cNz_b (by decide)⟩
  · rintro env S1 ⟨rfl, m, x, rfl⟩
    simp [q__law_jar_5, p18]
    split
    · exact h _ ⟨_, _, _, List.getElem?_concat_length⟩ (by simp)
    · split
      · exact h _ ⟨_, _, _, List.getElem?_concat_length⟩ (by simp)
      · exact h _ ⟨_, _, _, List.getElem?_concat_length⟩ (by simp)
end
end K01

namespace K01
open PySem L2 Ev Pl
/-- an error made of d -/
abbrev eG (c : PySem.Str) (d : D) : D := .exn c ["given"] [d]
abbrev eI (c : PySem.Str) (d : D) : D := .exn c ["index"] [d]
theorem nr1 {c f : PySem.Str} {d : D} (h : noRef d = true) : noRefs [.exn c [f] [d]] = true := by
  simp [noRefs, noRef, h]
theorem so_InvalidText {d : D} (h : noRef d = true) : ∀ S, clP 1 m__law_sorts [.exn "InvalidText" ["given"] [d]] S = .ok (.lst [.int 0, .int 50, .int 53]) S := fun S => clP_eq (by
  unfold m__law_sorts
  kernel_rfl) (nr1 h)
theorem so_InvalidName {d : D} (h : noRef d = true) : ∀ S, clP 1 m__law_sorts [.exn "InvalidName" ["given"] [d]] S = .ok (.lst [.int 1, .int 50, .int 53]) S := fun S => clP_eq (by
  unfold m__law_sorts
  kernel_rfl) (nr1 h)
theorem so_InvalidNumber {d : D} (h : noRef d = true) : ∀ S, clP 1 m__law_sorts [.exn "InvalidNumber" ["given"] [d]] S = .ok (.lst [.int 2, .int 50, .int 53]) S := fun S => clP_eq (by
  unfold m__law_sorts
  kernel_rfl) (nr1 h)
theorem so_InvalidRoot {d : D} (h : noRef d = true) : ∀ S, clP 1 m__law_sorts [.exn "InvalidRoot" ["given"] [d]] S = .ok (.lst [.int 3, .int 50, .int 53]) S := fun S => clP_eq (by
  unfold m__law_sorts
  kernel_rfl) (nr1 h)
theorem so_InvalidRate {d : D} (h : noRef d = true) : ∀ S, clP 1 m__law_sorts [.exn "InvalidRate" ["given"] [d]] S = .ok (.lst [.int 4, .int 50, .int 53]) S := fun S => clP_eq (by
  unfold m__law_sorts
  kernel_rfl) (nr1 h)
theorem so_InvalidStart {d : D} (h : noRef d = true) : ∀ S, clP 1 m__law_sorts [.exn "InvalidStart" ["given"] [d]] S = .ok (.lst [.int 5, .int 50, .int 53]) S := fun S => clP_eq (by
  unfold m__law_sorts
  kernel_rfl) (nr1 h)
theorem so_InvalidWay {d : D} (h : noRef d = true) : ∀ S, clP 1 m__law_sorts [.exn "InvalidWay" ["given"] [d]] S = .ok (.lst [.int 6, .int 50, .int 53]) S := fun S => clP_eq (by
  unfold m__law_sorts
  kernel_rfl) (nr1 h)
theorem so_InvalidDay {d : D} (h : noRef d = true) : ∀ S, clP 1 m__law_sorts [.exn "InvalidDay" ["given"] [d]] S = .ok (.lst [.int 7, .int 50, .int 53]) S := fun S => clP_eq (by
  unfold m__law_sorts
  kernel_rfl) (nr1 h)
theorem so_InvalidPattern {d : D} (h : noRef d = true) : ∀ S, clP 1 m__law_sorts [.exn "InvalidPattern" ["given"] [d]] S = .ok (.lst [.int 8, .int 50, .int 53]) S := fun S => clP_eq (by
  unfold m__law_sorts
  kernel_rfl) (nr1 h)
theorem so_InvalidWish {d : D} (h : noRef d = true) : ∀ S, clP 1 m__law_sorts [.exn "InvalidWish" ["given"] [d]] S = .ok (.lst [.int 9, .int 50, .int 53]) S := fun S => clP_eq (by
  unfold m__law_sorts
  kernel_rfl) (nr1 h)
theorem so_InvalidIndex {d : D} (h : noRef d = true) : ∀ S, clP 1 m__law_sorts [.exn "InvalidIndex" ["given"] [d]] S = .ok (.lst [.int 10, .int 50, .int 53]) S := fun S => clP_eq (by
  unfold m__law_sorts
  kernel_rfl) (nr1 h)
theorem so_InvalidLine {d : D} (h : noRef d = true) : ∀ S, clP 1 m__law_sorts [.exn "InvalidLine" ["given"] [d]] S = .ok (.lst [.int 11, .int 50, .int 53]) S := fun S => clP_eq (by
  unfold m__law_sorts
  kernel_rfl) (nr1 h)
theorem so_NotABell {d : D} (h : noRef d = true) : ∀ S, clP 1 m__law_sorts [.exn "NotABell" ["given"] [d]] S = .ok (.lst [.int 12, .int 50, .int 53]) S := fun S => clP_eq (by
  unfold m__law_sorts
  kernel_rfl) (nr1 h)
theorem so_InvalidBells {d : D} (h : noRef d = true) : ∀ S, clP 1 m__law_sorts [.exn "InvalidBells" ["index"] [d]] S = .ok (.lst [.int 13, .int 50, .int 53]) S := fun S => clP_eq (by
  unfold m__law_sorts
  kernel_rfl) (nr1 h)
theorem so_InvalidLooks {d : D} (h : noRef d = true) : ∀ S, clP 1 m__law_sorts [.exn "InvalidLooks" ["index"] [d]] S = .ok (.lst [.int 14, .int 50, .int 53]) S := fun S => clP_eq (by
  unfold m__law_sorts
  kernel_rfl) (nr1 h)
theorem so_InvalidDeeds {d : D} (h : noRef d = true) : ∀ S, clP 1 m__law_sorts [.exn "InvalidDeeds" ["index"] [d]] S = .ok (.lst [.int 15, .int 50, .int 53]) S := fun S => clP_eq (by
  unfold m__law_sorts
  kernel_rfl) (nr1 h)
theorem so_UnknownName {d : D} (h : noRef d = true) : ∀ S, clP 1 m__law_sorts [.exn "UnknownName" ["given"] [d]] S = .ok (.lst [.int 16, .int 51, .int 54]) S := fun S => clP_eq (by
  unfold m__law_sorts
  kernel_rfl) (nr1 h)
theorem so_TooGreat {d : D} (h : noRef d = true) : ∀ S, clP 1 m__law_sorts [.exn "TooGreat" ["given"] [d]] S = .ok (.lst [.int 17, .int 52, .int 55]) S := fun S => clP_eq (by
  unfold m__law_sorts
  kernel_rfl) (nr1 h)
theorem so_Broken {d : D} (h : noRef d = true) : ∀ S, clP 1 m__law_sorts [.exn "Broken" ["index"] [d]] S = .ok (.lst [.int 18, .int 52, .int 55]) S := fun S => clP_eq (by
  unfold m__law_sorts
  kernel_rfl) (nr1 h)
theorem so_InUse {d : D} (h : noRef d = true) : ∀ S, clP 1 m__law_sorts [.exn "InUse" ["index"] [d]] S = .ok (.lst [.int 19, .int 52, .int 55]) S := fun S => clP_eq (by
  unfold m__law_sorts
  kernel_rfl) (nr1 h)
theorem so_NoStart : ∀ S, clP 1 m__law_sorts [.exn "NoStart" [] []] S = .ok (.lst [.int 20, .int 52, .int 55]) S := fun S => clP_eq (by
  unfold m__law_sorts
  kernel_rfl)
theorem so_NoOther : ∀ S, clP 1 m__law_sorts [.exn "NoOther" [] []] S = .ok (.lst [.int 21, .int 52, .int 55]) S := fun S => clP_eq (by
  unfold m__law_sorts
  kernel_rfl)
theorem so_NothingToUndo : ∀ S, clP 1 m__law_sorts [.exn "NothingToUndo" [] []] S = .ok (.lst [.int 22, .int 52, .int 55]) S := fun S => clP_eq (by
  unfold m__law_sorts
  kernel_rfl)
theorem so_WrongValue : ∀ S, clP 1 m__law_sorts [.exn "WrongValue" [] []] S = .ok (.lst [.int 50, .int 53]) S := fun S => clP_eq (by
  unfold m__law_sorts
  kernel_rfl)
theorem so_WrongName : ∀ S, clP 1 m__law_sorts [.exn "WrongName" [] []] S = .ok (.lst [.int 51, .int 54]) S := fun S => clP_eq (by
  unfold m__law_sorts
  kernel_rfl)
theorem so_NoAnswer : ∀ S, clP 1 m__law_sorts [.exn "NoAnswer" [] []] S = .ok (.lst [.int 52, .int 55]) S := fun S => clP_eq (by
  unfold m__law_sorts
  kernel_rfl)
theorem given_i {d : D} (h : noRef d = true) : ∀ S, clP 1 m__law_given_errors [d] S = .ok (.lst [.lst [eG "InvalidText" d, eG "InvalidText" d], .lst [eG "InvalidName" d, eG "InvalidName" d], .lst [eG "InvalidNumber" d, eG "InvalidNumber" d], .lst [eG "InvalidRoot" d, eG "InvalidRoot" d], .lst [eG "InvalidRate" d, eG "InvalidRate" d], .lst [eG "InvalidStart" d, eG "InvalidStart" d], .lst [eG "InvalidWay" d, eG "InvalidWay" d], .lst [eG "InvalidDay" d, eG "InvalidDay" d], .lst [eG "InvalidPattern" d, eG "InvalidPattern" d], .lst [eG "InvalidWish" d, eG "InvalidWish" d], .lst [eG "InvalidIndex" d, eG "InvalidIndex" d], .lst [eG "InvalidLine" d, eG "InvalidLine" d], .lst [eG "NotABell" d, eG "NotABell" d]]) S := fun S => clP_eq (by
  have hb : b__law_given_errors (startE 2 [d]) [] = some (.rt (.lst [.lst [eG "InvalidText" d, eG "InvalidText" d], .lst [eG "InvalidName" d, eG "InvalidName" d], .lst [eG "InvalidNumber" d, eG "InvalidNumber" d], .lst [eG "InvalidRoot" d, eG "InvalidRoot" d], .lst [eG "InvalidRate" d, eG "InvalidRate" d], .lst [eG "InvalidStart" d, eG "InvalidStart" d], .lst [eG "InvalidWay" d, eG "InvalidWay" d], .lst [eG "InvalidDay" d, eG "InvalidDay" d], .lst [eG "InvalidPattern" d, eG "InvalidPattern" d], .lst [eG "InvalidWish" d, eG "InvalidWish" d], .lst [eG "InvalidIndex" d, eG "InvalidIndex" d], .lst [eG "InvalidLine" d, eG "InvalidLine" d], .lst [eG "NotABell" d, eG "NotABell" d]]), [.lst [.lst [eG "InvalidText" d, eG "InvalidText" d], .lst [eG "InvalidName" d, eG "InvalidName" d], .lst [eG "InvalidNumber" d, eG "InvalidNumber" d], .lst [eG "InvalidRoot" d, eG "InvalidRoot" d], .lst [eG "InvalidRate" d, eG "InvalidRate" d], .lst [eG "InvalidStart" d, eG "InvalidStart" d], .lst [eG "InvalidWay" d, eG "InvalidWay" d], .lst [eG "InvalidDay" d, eG "InvalidDay" d], .lst [eG "InvalidPattern" d, eG "InvalidPattern" d], .lst [eG "InvalidWish" d, eG "InvalidWish" d], .lst [eG "InvalidIndex" d, eG "InvalidIndex" d], .lst [eG "InvalidLine" d, eG "InvalidLine" d]]]) := by kernel_rfl
  unfold m__law_given_errors runP
  rw [hb]
  simp [frz, noRefs, noRef, h]) (by simp [noRefs, h])
theorem index_i {d : D} (h : noRef d = true) : ∀ S, clP 1 m__law_index_errors [d] S = .ok (.lst [.lst [eI "InvalidBells" d, eI "InvalidBells" d], .lst [eI "InvalidLooks" d, eI "InvalidLooks" d], .lst [eI "InvalidDeeds" d, eI "InvalidDeeds" d]]) S := fun S => clP_eq (by
  have hb : b__law_index_errors (startE 2 [d]) [] = some (.rt (.lst [.lst [eI "InvalidBells" d, eI "InvalidBells" d], .lst [eI "InvalidLooks" d, eI "InvalidLooks" d], .lst [eI "InvalidDeeds" d, eI "InvalidDeeds" d]]), []) := by kernel_rfl
  unfold m__law_index_errors runP
  rw [hb]
  simp [frz, noRefs, noRef, h]) (by simp [noRefs, h])
end K01

namespace K01
open PySem L2 Ev Pl
theorem ll_same {k b c : Int} {z : PySem.Str} {S : Sto} (hz : PyData.strOk z = true) : sNe S (.lst [.lst [.int k, .int b, .int c, .str z], .lst [.int k, .int b, .int c, .str z]]) (.lst [.lst [.int k, .int b, .int c, .str z], .lst [.int k, .int b, .int c, .str z]]) = some (.bl false) := by
  have e : pyTop S (.lst [.lst [.int k, .int b, .int c, .str z], .lst [.int k, .int b, .int c, .str z]]) = some (.list [.list [.int k, .int b, .int c, .str z], .list [.int k, .int b, .int c, .str z]]) := by simp [pyTop, pyOf, pyAll]
  have hs : SeqAt.shaped (.list [.list [.int k, .int b, .int c, .str z], .list [.int k, .int b, .int c, .str z]]) = true := by
    simp [SeqAt.shaped, PyData.canLay0, PyData.canLayAll0, PyData.depth, PyData.depthAll, hz]
  simp only [sNe, sEqB, sEqD, e, hs, Bool.and_self, if_true, Option.map_some]
  rw [SeqAt.eqv_refl _ (by simp only [SeqAt.shaped, Bool.and_eq_true] at hs; exact hs.1)]
  rfl
theorem getD1 {f : PySem.Str} {d : D} : getD f [f] [d] = some d := by simp [getD]
/-- both errors told -/
theorem two_po {kn : List PySem.Str} {cc f : PySem.Str} {d : D} {k b c : Int} {z : PySem.Str} {x0 x3 x4 : Option D} {S : Sto} {Q : D → Sto → Prop} {X : XQ} {ow : List (PySem.Str × Nat)} (how : ow.map (·.2) = [4]) (hs : ∀ S, clP 1 m__law_sorts [.exn cc [f] [d]] S = .ok (.lst [.int k, .int b, .int c]) S) (hk : kn.contains cc = true) (hr : ∀ S, sReprX S [d] = some (.str z))
    (h : Q (.lst [.lst [.int k, .int b, .int c, .str z], .lst [.int k, .int b, .int c, .str z]]) S) :
    (mLC (mItX (mVar 2)) (gNm 4) mYes (mOp sAdd (mCallP 1 m__law_sorts (mCons (mVar 4) mNil)) (mLst (mCons (mCB sReprX (mCons (mXf kn f (mVar 4)) mNil)) mNil))) (ow.map (·.2)) [x0, some d, some (.lst [.exn cc [f] [d], .exn cc [f] [d]]), x3, x4] S).po Q X := by
  rw [how]
  refine lc_mp [(), ()] (fun _ => .exn cc [f] [d]) (fun _ => .lst [.int k, .int b, .int c, .str z]) ?_
  simp only [mItX_po, mVar_po, List.getElem?_cons_zero, List.getElem?_cons_succ, itX, fixS_l, opo_some]
  refine ⟨⟨rfl, trivial, by decide⟩, fun x hx => ?_, h⟩
  have g1 := getD1 (f := f) (d := d)
  have hk2 : cc ∈ kn := by simpa using hk
  simp [wipeE, hs, hk2, hr, g1, mXf_po]
end K01

namespace K01
open PySem L2 Ev Pl
/-- a thing that is put into errors -/
structure Th (d : D) (z : PySem.Str) : Prop where
  nr : noRef d = true
  ok : PyData.strOk z = true
  rp : ∀ S, sReprX S [d] = some (.str z)
theorem th_of {d : D} {p : PyData} (nr : noRef d = true) (h : ∀ S, sReprX S [d] = sRepr S [d]) (hp : ∀ S, pyTop S d = some p) (h1 : rprOk p = true) (h2 : PyData.strOk p.shown = true) : ∃ z, Th d z := ⟨_, nr, h2, fun S => by rw [h, sRepr_of (hp S) h1]⟩
theorem th_dic {ks : List Key} {ds : List D} {kvs : List (PyData × PyData)} (nr : noRefs ds = true) (hp : pyDic ks ds = some kvs) (h1 : rprD kvs = true) (h2 : PyData.strOk (PyData.dict kvs).shown = true) : ∃ z, Th (.dic ks ds) z := ⟨_, by simpa [noRef] using nr, h2, fun S => by simp only [sReprX, hp, h1, if_true]⟩
def things : List D := [.non, .int 0, .int (-3), .bl true, .str "a", .str "", .tup [], .tup [.int 1, .int 2], .lst [], .lst [.int 7], .dic [] [], .dic [.inr "a"] [.int 1], .int (10 ^ 30), .tup [.tup [.int 0, .int 0]]]
theorem things_ok : ∀ d ∈ things, ∃ z, Th d z := fun d hd => by
  simp only [things, List.mem_cons, List.not_mem_nil, or_false] at hd
  rcases hd with rfl | rfl | rfl | rfl | rfl | rfl | rfl | rfl | rfl | rfl | rfl | rfl | rfl | rfl
  · exact th_of (p := .none) rfl (fun _ => rfl) (fun _ => rfl) (by decide +kernel) (by decide +kernel)
  · exact th_of (p := .int 0) rfl (fun _ => rfl) (fun _ => rfl) (by decide +kernel) (by decide +kernel)
  · exact th_of (p := .int (-3)) rfl (fun _ => rfl) (fun _ => rfl) (by decide +kernel) (by decide +kernel)
  · exact th_of (p := .bool true) rfl (fun _ => rfl) (fun _ => rfl) (by decide +kernel) (by decide +kernel)
  · exact th_of (p := .str "a") rfl (fun _ => rfl) (fun _ => rfl) (by decide +kernel) (by decide +kernel)
  · exact th_of (p := .str "") rfl (fun _ => rfl) (fun _ => rfl) (by decide +kernel) (by decide +kernel)
  · exact th_of (p := .tuple []) rfl (fun _ => rfl) (fun _ => rfl) (by decide +kernel) (by decide +kernel)
  · exact th_of (p := .tuple [.int 1, .int 2]) rfl (fun _ => rfl) (fun _ => rfl) (by decide +kernel) (by decide +kernel)
  · exact th_of (p := .list []) rfl (fun _ => rfl) (fun _ => rfl) (by decide +kernel) (by decide +kernel)
  · exact th_of (p := .list [.int 7]) rfl (fun _ => rfl) (fun _ => rfl) (by decide +kernel) (by decide +kernel)
  · exact th_dic (kvs := []) rfl rfl (by decide +kernel) (by decide +kernel)
  · exact th_dic (kvs := [(.str "a", .int 1)]) rfl rfl (by decide +kernel) (by decide +kernel)
  · exact th_of (p := .int (10 ^ 30)) rfl (fun _ => rfl) (fun _ => rfl) (by decide +kernel) (by decide +kernel)
  · exact th_of (p := .tuple [.tuple [.int 0, .int 0]]) rfl (fun _ => rfl) (fun _ => rfl) (by decide +kernel) (by decide +kernel)
theorem mul2 {S : Sto} {l : D} : sMul S (.lst [l]) (.int 2) = some (.lst [l, l]) := rfl
section
variable {d : D} {z : PySem.Str} {cc : PySem.Str} {k : Int} {x0 x4 : Option D} {S : Sto} {Q : Fl → Sto → Prop}
theorem given_po (t : Th d z) (hs : ∀ S, clP 1 m__law_sorts [eG cc d] S = .ok (.lst [.int k, .int 50, .int 53]) S) (hk : kn_given.contains cc = true) (h : Q (.nx [x0, some d, some (.lst [eG cc d, eG cc d]), some (.int k), x4]) S) :
    fpo (fb__law_right_2 [x0, some d, some (.lst [eG cc d, eG cc d]), some (.int k), x4] S) Q := by
  have rp := t.rp
  have same := fun {S : Sto} => ll_same (k := k) (b := 50) (c := 53) (S := S) t.ok
  simp only [fb__law_right_2, mIfS_fpo, mBs_po]
  rw [mOp_po]
  refine two_po rfl hs hk rp ?_
  simp [rp, mul2, same]
  exact h
theorem index_po (t : Th d z) (hs : ∀ S, clP 1 m__law_sorts [eI cc d] S = .ok (.lst [.int (13 + k), .int 50, .int 53]) S) (hk : kn_index.contains cc = true) (h : Q (.nx [x0, some d, some (.lst [eI cc d, eI cc d]), some (.int k), x4]) S) :
    fpo (fb__law_right_5 [x0, some d, some (.lst [eI cc d, eI cc d]), some (.int k), x4] S) Q := by
  have rp := t.rp
  have same := fun {S : Sto} => ll_same (k := 13 + k) (b := 50) (c := 53) (S := S) t.ok
  simp only [fb__law_right_5, mIfS_fpo, mBs_po]
  rw [mOp_po]
  refine two_po rfl hs hk rp ?_
  simp [rp, mul2, same]
  exact h
theorem use_po (t : Th d z) (hs : ∀ S, clP 1 m__law_sorts [eI cc d] S = .ok (.lst [.int k, .int 52, .int 55]) S) (hk : kn_index.contains cc = true) (h : Q (.nx [x0, some d, some (.lst [eI cc d, eI cc d]), some (.int k), x4]) S) :
    fpo (fb__law_right_14 [x0, some d, some (.lst [eI cc d, eI cc d]), some (.int k), x4] S) Q := by
  have rp := t.rp
  have same := fun {S : Sto} => ll_same (k := k) (b := 52) (c := 55) (S := S) t.ok
  simp only [fb__law_right_14, mIfS_fpo, mBs_po]
  rw [mOp_po]
  refine two_po rfl hs hk rp ?_
  simp [rp, mul2, same]
  exact h
end
end K01

namespace K01
open PySem L2 Ev Pl
section
variable {S : Sto}
theorem rngD_get {lo : Int} {n i : Nat} {d : D} (h : (rngD lo n)[i]? = some d) : i < n ∧ d = .int (lo + i) := by
  unfold rngD at h
  simp only [List.getElem?_map, Option.map_eq_some_iff] at h
  obtain ⟨a, ha, rfl⟩ := h
  obtain ⟨h1, h2⟩ := List.getElem?_eq_some_iff.mp ha
  simp only [List.length_range] at h1
  rw [List.getElem_range] at h2
  subst h2
  exact ⟨h1, rfl⟩
theorem right_po {j : Nat} {S : Sto} {Q : D → Sto → Prop} {X : XQ} (hj : Jar j S) (h : ∀ S', Step j S S' → Q (.bl true) S') : (clI 1 m__law_right [.ref j] S).po Q X := by
  rw [clI_po (n := 1) rfl, m__law_right, runI_po]
  have st : ∀ A : D, startE 5 [A] = [some A, none, none, none, none] := fun _ => rfl
  rw [st]
  have p30 : cPow 10 30 = true := by decide
  simp only [b__law_right, mSeq_fpo, mAsg_fpo, mCallI_po, mCons_po, mNil_po, mVar_po, mC_po, mLst_po, mTup_po, mOp_po, sUn_po, mDic0_po, mDic1_po, List.getElem?_cons_zero, List.getElem?_cons_succ]
  simp [p30]
  refine one_of_po hj (by simp) (by simp) fun y S1 hy st1 => ?_
  obtain ⟨z, t⟩ := things_ok y (by simpa [things] using hy)
  clear hy
  have hh := h S1 st1
  have nr := t.nr
  have g1 := given_i nr
  have i1 := index_i nr
  simp only [gNm_gpo, List.set_cons_succ, List.set_cons_zero, q__law_right_2, mSeq_fpo, mFor_fpo, mEnum_po, mCallP_po, mCons_po, mNil_po, mVar_po, List.getElem?_cons_zero, List.getElem?_cons_succ, g1, po_ok, fixS_l, opo_some]
  refine fpo_for (fun i env S' => S' = S1 ∧ ∃ x2 x3 x4, env = [some (.ref j), some y, x2, x3, x4]) _ 0 ?_ ?_ _ _ ⟨rfl, _, _, _, rfl⟩
  · rintro i d env S' hd ⟨rfl, x2, x3, x4, rfl⟩
    obtain ⟨k, c, rfl, hs, hk⟩ : ∃ (k : Int) (c : PySem.Str), d = .tup [.int k, .lst [eG c y, eG c y]] ∧ (∀ S, clP 1 m__law_sorts [eG c y] S = .ok (.lst [.int k, .int 50, .int 53]) S) ∧ kn_given.contains c = true := by
      have hm := List.mem_of_getElem? hd
      simp only [numD, List.mem_cons, List.not_mem_nil, or_false] at hm
      rcases hm with rfl | rfl | rfl | rfl | rfl | rfl | rfl | rfl | rfl | rfl | rfl | rfl | rfl
      · exact ⟨_, _, rfl, so_InvalidText nr, rfl⟩
      · exact ⟨_, _, rfl, so_InvalidName nr, rfl⟩
      · exact ⟨_, _, rfl, so_InvalidNumber nr, rfl⟩
      · exact ⟨_, _, rfl, so_InvalidRoot nr, rfl⟩
      · exact ⟨_, _, rfl, so_InvalidRate nr, rfl⟩
      · exact ⟨_, _, rfl, so_InvalidStart nr, rfl⟩
      · exact ⟨_, _, rfl, so_InvalidWay nr, rfl⟩
      · exact ⟨_, _, rfl, so_InvalidDay nr, rfl⟩
      · exact ⟨_, _, rfl, so_InvalidPattern nr, rfl⟩
      · exact ⟨_, _, rfl, so_InvalidWish nr, rfl⟩
      · exact ⟨_, _, rfl, so_InvalidIndex nr, rfl⟩
      · exact ⟨_, _, rfl, so_InvalidLine nr, rfl⟩
      · exact ⟨_, _, rfl, so_NotABell nr, rfl⟩
    simp only [gUn, seqOf_t, List.length_cons, List.length_nil, if_true, gsCons_gpo, gsNil_gpo, gNm_gpo, List.set_cons_succ, List.set_cons_zero]
    refine given_po t hs hk ?_
    exact ⟨rfl, _, _, _, rfl⟩
  rintro env S' ⟨rfl, x2, x3, x4, rfl⟩
  simp only [q__law_right_5, mSeq_fpo, mFor_fpo, mEnum_po, mCallP_po, mCons_po, mNil_po, mVar_po, List.getElem?_cons_zero, List.getElem?_cons_succ, i1, po_ok, fixS_l, opo_some]
  refine fpo_for (fun i env S'' => S'' = S' ∧ ∃ x2 x3 x4, env = [some (.ref j), some y, x2, x3, x4]) _ 0 ?_ ?_ _ _ ⟨rfl, _, _, _, rfl⟩
  · rintro i d env S'' hd ⟨rfl, x2, x3, x4, rfl⟩
    obtain ⟨k, c, rfl, hs, hk⟩ : ∃ (k : Int) (c : PySem.Str), d = .tup [.int k, .lst [eI c y, eI c y]] ∧ (∀ S, clP 1 m__law_sorts [eI c y] S = .ok (.lst [.int (13 + k), .int 50, .int 53]) S) ∧ kn_index.contains c = true := by
      have hm := List.mem_of_getElem? hd
      simp only [numD, List.mem_cons, List.not_mem_nil, or_false] at hm
      rcases hm with rfl | rfl | rfl
      · exact ⟨_, _, rfl, so_InvalidBells nr, rfl⟩
      · exact ⟨_, _, rfl, so_InvalidLooks nr, rfl⟩
      · exact ⟨_, _, rfl, so_InvalidDeeds nr, rfl⟩
    simp only [gUn, seqOf_t, List.length_cons, List.length_nil, if_true, gsCons_gpo, gsNil_gpo, gNm_gpo, List.set_cons_succ, List.set_cons_zero]
    refine index_po t hs hk ?_
    exact ⟨rfl, _, _, _, rfl⟩
  rintro env S'' ⟨rfl, x2, x3, x4, rfl⟩
  have rp := t.rp
  have same := fun {k b c : Int} {S : Sto} => ll_same (k := k) (b := b) (c := c) (S := S) t.ok
  simp only [q__law_right_8, mSeq_fpo, mAsg_fpo, mLst_po, mCons_po, mNil_po, mVar_po, mExn1_po, List.getElem?_cons_zero, List.getElem?_cons_succ, gNm_gpo, List.set_cons_succ, List.set_cons_zero]
  refine ⟨rfl, ?_⟩
  simp only [q__law_right_9, mSeq_fpo, mIfS_fpo, mBs_po]
  rw [mOp_po]
  refine two_po rfl (so_UnknownName nr) rfl rp ?_
  simp [rp, mul2, same]
  simp only [q__law_right_11, mSeq_fpo, mAsg_fpo, mLst_po, mCons_po, mNil_po, mVar_po, mExn1_po, List.getElem?_cons_zero, List.getElem?_cons_succ, gNm_gpo, List.set_cons_succ, List.set_cons_zero]
  refine ⟨rfl, ?_⟩
  simp only [q__law_right_12, mSeq_fpo, mIfS_fpo, mBs_po]
  rw [mOp_po]
  refine two_po rfl (so_TooGreat nr) rfl rp ?_
  simp [rp, mul2, same]
  simp [q__law_right_14]
  refine fpo_for (fun i env S4 => S4 = S'' ∧ ∃ x2 x3 x4, env = [some (.ref j), some y, x2, x3, x4]) _ 0 ?_ ?_ _ _ ⟨rfl, _, _, _, rfl⟩
  · rintro i d env S4 hd ⟨rfl, x2, x3, x4, rfl⟩
    obtain ⟨k, c, rfl, hs, hk⟩ : ∃ (k : Int) (c : PySem.Str), d = .tup [.int k, .lst [eI c y, eI c y]] ∧ (∀ S, clP 1 m__law_sorts [eI c y] S = .ok (.lst [.int k, .int 52, .int 55]) S) ∧ kn_index.contains c = true := by
      have hm := List.mem_of_getElem? hd
      simp only [List.mem_cons, List.not_mem_nil, or_false] at hm
      rcases hm with rfl | rfl
      · exact ⟨_, _, rfl, so_Broken nr, rfl⟩
      · exact ⟨_, _, rfl, so_InUse nr, rfl⟩
    simp only [gUn, seqOf_t, List.length_cons, List.length_nil, if_true, gsCons_gpo, gsNil_gpo, gNm_gpo, List.set_cons_succ, List.set_cons_zero]
    refine use_po t hs hk ?_
    exact ⟨rfl, _, _, _, rfl⟩
  rintro env S4 ⟨rfl, x2, x3, x4, rfl⟩
  simp [q__law_right_17]
  exact hh
end
end K01

namespace K01
open PySem L2 Ev Pl
theorem law_ok (ns : List Int) (hl : ns.length ≤ 63) : m_law [.rol (ns.map .int)] = .ok (.bl true) := by
  apply Pr.eq
  rw [m_law, runP_po]
  have st : ∀ A : D, startE 6 [A] = [some A, none, none, none, none, none] := fun _ => rfl
  rw [st]
  have p30 : cPow 10 30 = true := by decide
  have same : ∀ S, sNe S (.lst [.lst [.int 20, .int 52, .int 55], .lst [.int 21, .int 52, .int 55], .lst [.int 22, .int 52, .int 55], .lst [.int 50, .int 53], .lst [.int 51, .int 54], .lst [.int 52, .int 55]]) (.lst [.lst [.int 20, .int 52, .int 55], .lst [.int 21, .int 52, .int 55], .lst [.int 22, .int 52, .int 55], .lst [.int 50, .int 53], .lst [.int 51, .int 54], .lst [.int 52, .int 55]]) = some (.bl false) := fun _ => rfl
  obtain ⟨z, -, -, hz⟩ : ∃ z : PySem.Str, Th (.lst [.int 30, .int 12, .int 100, .int 1000, .int 4, .int 1000000000000000000000000000000, .int 20, .int 40]) z := th_of (p := .list [.int 30, .int 12, .int 100, .int 1000, .int 4, .int 1000000000000000000000000000000, .int 20, .int 40]) rfl (fun _ => rfl) (fun _ => rfl) (by decide +kernel) (by decide +kernel)
  simp [b_law, k_MOST_ROOT, k_MOST_SIZE, k_MOST_RATE, k_MOST_START, k_MOST_BELLS, k_MOST_DAY, k_MOST_LOOKS, k_MOST_PATTERN, q_law_2, p30, hz, q_law_4, q_law_5, q_law_6, mLC_po, lcGo_cons, lcGo_nil, wipeE, itX, fixS, so_NoStart, so_NoOther, so_NothingToUndo, so_WrongValue, so_WrongName, so_NoAnswer, same]
  simp [q_law_8]
  refine po_lc (fun i ys S => ys = List.replicate i (.bl true)) ?_
  simp
  obtain ⟨k, hk, k0, k1⟩ : ∃ k : Int, (if 2 < if 6 < (ns.length : Int) then 6 else (ns.length : Int) then if 6 < (ns.length : Int) then 6 else (ns.length : Int) else 2) = k ∧ 0 ≤ k ∧ k ≤ 6 := ⟨_, rfl, by split <;> (try split) <;> omega, by split <;> (try split) <;> omega⟩
  rw [hk]
  refine ⟨by unfold rngOk; rw [Nat.blt_eq]; omega, ?_, ?_, ?_⟩
  · first | omega | (simp [rngD]; omega)
  · intro i d ys S hd hy
    subst hy
    obtain ⟨t, rfl, t0, t1⟩ : ∃ t : Int, d = .int t ∧ 0 ≤ t ∧ t < 1000 := by
      obtain ⟨ht, rfl⟩ := rngD_get hd
      exact ⟨_, rfl, by omega, by omega⟩
    simp [wipeE]
    refine jar_po t0 t1 hl fun S1 hj hlen => ?_
    refine right_po hj fun S2 st => ?_
    rw [List.replicate_succ']
  · simp [bls_true]
end K01

theorem PySem.Challenge.cw_stoprows_k01_limits_and_errors_holds : PySem.Challenge.rw_stoprows_k01_limits_and_errors.Holds := by
  exact K01.holds K01.law_ok
