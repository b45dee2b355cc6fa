import PyProof.Rows.All
import Wide.All
import OpenK.AllK
import Wide.FinOn
import HandS.HeadHook2
import HandS.HeadEnd
import HandS.Head0
import HandS.Head1
import HandS.Head2
import HandS.Words
import PySem.Challenge.RW_gangruns_k25_weighings_made
import KE.KStateDown
import HandS.ForMost
import HandS.Exc
import HandS.ExcInit
import HandS.WordsExc
import HandS.Defaults
import HandS.Flow
import HandS.Wide
import HandS.SlotsOwn
import HandS.Property
import HandS.ClsMeth
import HandS.OwnEq
import KE.KEqDict
import HandS.Style
import HandS.IsInst
import PyProof.ReprRoads
import KE.KCallOwn
import HandS.RaiseMore
import HandS.Text
import HandS.DictComp
import HandS.Conv
import HandS.More
import HandS.ListItems
import HandS.Small
import HandS.Zip
import PyProof.AutoSeq1
import HandS.Star
import HandS.FStr
import PyProof.FString5
import PyProof.StrBlock
import KE.KFmtOwn
import HandS.IterVal
import HandS.Comp
import KE.KParD
import PyProof.ReprLen
import PyProof.Rows.SortStr
import PyProof.ReprBulk
set_option Elab.async false
set_option linter.all false
set_option autoImplicit false
set_option maxRecDepth 100000
set_option maxHeartbeats 4000000
/-! # Trees of data; the tables of a text and their checks (all that the head's run wants) -/
namespace PyD
open PySem PySem.Spec PyProof.Rows L2

/-- data as a tree: what never changes; `loc` points to a thing that does -/
inductive D where
  | non | bl (b : Bool) | int (i : Int) | str (x : Str)
  | tup (xs : List D) | lst (xs : List D) | dct (kvs : List (Key × D))
  | obj (c : Nat) (fs : List (Nat × D))
  | loc (a : Addr) | cls (c : Nat) | ty (n : String)

/-- types of data -/
inductive Ty where
  | b (n : String) | c (c : Nat)
  deriving DecidableEq
/-- the names by number that the operators go by; a text's own names follow -/
def dunders : List Str := ["__add__", "__radd__", "__sub__", "__rsub__", "__mul__", "__rmul__", "__floordiv__", "__rfloordiv__", "__mod__", "__rmod__", "__or__", "__ror__", "__and__", "__rand__",
  "__lt__", "__le__", "__gt__", "__ge__", "__eq__", "__neg__", "__bool__", "__len__", "__contains__", "__getitem__", "__iter__", "__call__", "__str__", "__init__", "__setitem__"]
def opk : Operator → Nat
  | .Add => 0 | .Sub => 2 | .Mult => 4 | .FloorDiv => 6 | .Mod => 8 | .BitOr => 10 | .BitAnd => 12 | _ => 1000
/-- the built-in types that an own operator may meet on its other side -/
def sideTs : List String := ["int", "bool", "str", "NoneType", "list", "tuple", "dict"]
/-- the names of built-ins that the text may call -/
def bltNames : List Str := ["abs", "all", "any", "bool", "dict", "enumerate", "int", "isinstance", "iter", "len", "list", "max", "min", "range", "repr", "set", "sorted", "str", "sum", "tuple", "zip"]
/-- where a callable stands: a global, a method, the getter of a property, a static method, a class method -/
inductive At where
  | glo (x : Str) | meth (c m : Str) | prop (c m : Str) | stat (c m : Str) | cmet (c m : Str)
  deriving DecidableEq
def recA (K : PySem.W.Frag) (a : Addr) (t : String) : Addr := match PySem.W.recIn K a t with
  | some (.ref g :: _) => g
  | _ => 0
def At.ad (K : PySem.W.Frag) : At → Addr
  | .glo x => He.ga K x
  | .meth c m => He.ma K (He.ga K c) m
  | .prop c m => recA K (He.ma K (He.ga K c) m) "property"
  | .stat c m => recA K (He.ma K (He.ga K c) m) "staticmethod"
  | .cmet c m => recA K (He.ma K (He.ga K c) m) "classmethod"
structure Tb where
  cls : List Str
  nms : List Str
  fld : List (Nat × Nat)
  dn : List (Nat × Nat × Nat)
  pr : List (Nat × Nat × Nat)
  dm : List (Nat × Nat × List Str × Nat)
  sm : List (Nat × Nat × List Str × Nat)
  cm : List (Nat × Nat × List Str × Nat)
  at_ : List At
  ks : List (List Str)
  gn : List (Option Str)
  kon : List (Str × D)
  ist : List (Ty × Ty × Bool)
  isC : List Nat
  mks : List Nat
  /-- a class, the fields that its __iter__ goes through -/
  it : List (Nat × List Nat) := []
  /-- constants of classes -/
  cv : List (Nat × Nat × D) := []
  nsub : List (Nat × Nat) := []
  /-- constants of classes, seen through instances -/
  iv : List (Nat × Nat × D) := []
def nmAll (l : List Str) (i : Nat) : Str := match (dunders ++ l)[i]? with
  | some x => x
  | none => ⟨Array.replicate (1000 + i) 0⟩
def okN (l : List Str) : Bool := decide ((dunders ++ l).Nodup) && (dunders ++ l).all fun x => decide (x.cps.size < 1000)
/-- a class's address; numbers of no class stand apart -/
def clA (T : Tb) (K : PySem.W.Frag) (c : Nat) : Addr := match T.cls[c]? with
  | some x => He.ga K x
  | none => 1000000000 + c
/-! ## the checks -/
section
variable (K : PySem.W.Frag)
def clsB (C : Addr) : Bool := PySem.W.plainGet K C Str.empty && (PySem.W.hasDictIn K C && (PySem.W.plainOver K C && He.eqO (PySem.W.findIn K (.ref C) "__setattr__") (some (some (.builtin "object.__setattr__")))))
def methB (C : Addr) (m : Str) (f : Addr) : Bool := He.eqO (PySem.W.findIn K (.ref C) m) (some (some (.ref f))) && (PySem.W.isFn K (.ref f) && PySem.W.keepIn K (.ref f))
def opsAll : List Operator := [.Add, .Sub, .Mult, .FloorDiv, .Mod, .BitOr, .BitAnd]
def noIB (C : Addr) (k : Nat) : Bool := opsAll.all fun op => !(opk op == k) || (match PySem.W.clsIn K C with
  | some cd => cd.mro.all fun t => He.eqO (PySem.W.findIn K t (PySem.dunderI op.info.2)) (some none)
  | none => false)
def dnB (C : Addr) (k : Nat) (m : Str) (f : Addr) : Bool := clsB K C && (methB K C m f && (PySem.W.selfFirst K C && ((!decide (k < 14) || ((sideTs.all fun T => (PySem.W.findIn K (.type T) m).isSome) && noIB K C k)) &&
  ((!decide (k < 19) || ((sideTs.all fun T => decide (PySem.W.subIn K (.type T) (.ref C) = some false)) && decide (PySem.W.subIn K (.ref C) (.type "int") = some false))) &&
  ((!(k == 26) || (He.eqO (PySem.W.findIn K (.ref C) "__format__") (some (some (.builtin "object.__format__"))) && decide (PySem.W.mroIn K C (.type "object") = some true))) &&
  ((!(k == 23 || k == 25) || PySem.W.fnIn K f) &&
  (!(k == 18) || (He.eqO (PySem.W.findIn K (.ref C) "__ne__") (some (some (.builtin "object.__ne__"))) && decide (PySem.W.mroIn K C (.type "object") = some true)))))))))
def prB (C : Addr) (m : Str) (f : Addr) : Bool := clsB K C && (He.eqO (PySem.W.findIn K (.ref C) m) (some (some (.ref (He.ma K C m)))) && (He.eqO (PySem.W.specialIn K (.ref (He.ma K C m)) "__get__") (some (some (.builtin "property.__get__"))) &&
  (decide (PySem.W.takesIn K (.ref (He.ma K C m)) = some true) && (match PySem.W.recIn K (He.ma K C m) "property" with
    | some (.ref g :: _) => g == f
    | _ => false))))
def readB (C : Addr) : Bool := He.eqO (PySem.W.specialIn K (.ref C) "__getattribute__") (some (some (.builtin "type.__getattribute__"))) && (match PySem.W.typeIn K (.ref C) with
  | some mc => PySem.W.readsIn K C mc
  | none => false)
def getB (C : Addr) (m : Str) (g : String) (p : Addr) : Bool := match PySem.W.typeIn K (.ref C) with
  | some mc => (match PySem.W.findCls K (.ref C) mc m with
    | some (.get (.builtin h) (.ref q) .none (.ref D)) => (h == g) && ((q == p) && (D == C))
    | _ => false)
  | none => false
def smB (C : Addr) (m : Str) (f : Addr) : Bool := readB K C && (getB K C m "staticmethod.__get__" (He.ma K C m) && ((match PySem.W.recIn K (He.ma K C m) "staticmethod" with
    | some (.ref g :: _) => g == f
    | _ => false) && PySem.W.keepIn K (.ref f)))
def cmB (C : Addr) (m : Str) (f : Addr) : Bool := readB K C && (getB K C m "classmethod.__get__" (He.ma K C m) && ((match PySem.W.recIn K (He.ma K C m) "classmethod" with
    | some (.ref g :: _) => g == f
    | _ => false) && PySem.W.fnIn K f))
def insB (C : Addr) : Bool := clsB K C && (He.eqO (PySem.W.findIn K (.ref C) "__class__") (some (some (.builtin "object.__class__"))) && (He.eqO (PySem.W.specialIn K (.builtin "object.__class__") "__get__") (some (some (.builtin "getset_descriptor.__get__"))) &&
  (decide (PySem.W.takesIn K (.builtin "object.__class__") = some true) && decide (PySem.W.mroIn K C (.type "object") = some true))))
mutual
/-- a constant is this datum -/
def konB : D → Value → Bool
  | .non, v => (match v with
    | .none => true
    | _ => false)
  | .bl b, v => (match v with
    | .bool c => b == c
    | _ => false)
  | .int i, v => (match v with
    | .int j _ => decide (i = j)
    | _ => false)
  | .str x, v => (match v with
    | .str y _ => decide (x = y)
    | _ => false)
  | .tup ds, v => (match v with
    | .ref a => (match K.lookup a with
      | some ⟨.type n, _, .seq its _, _⟩ => (n == "tuple") && (decide (its.size ≤ sizeLine) && konBs ds its.toList)
      | _ => false)
    | _ => false)
  | .lst ds, v => (match v with
    | .ref a => (match K.lookup a with
      | some ⟨.type n, none, .seq its _, _⟩ => (n == "list") && (decide (its.size ≤ sizeLine) && konBs ds its.toList)
      | _ => false)
    | _ => false)
  | _, _ => false
def konBs : List D → List Value → Bool
  | [], vs => vs.isEmpty
  | d :: ds, vs => (match vs with
    | v :: r => konB d v && konBs ds r
    | [] => false)
end
end
section
variable (T : Tb) (hN : okN T.nms = true) (K : PySem.W.Frag)
def adA (i : Nat) : Addr := match T.at_[i]? with
  | some a => a.ad K
  | none => 0
def ksA (i : Nat) : List Str := match T.ks[i]? with
  | some l => l
  | none => []
def gloB (x : Str) (a : Addr) : Bool := He.eqO (PySem.W.nsIn K mainGlobals x) (some (some (.ref a)))
def Ty.w (T : Tb) (K : PySem.W.Frag) : Ty → Value
  | Ty.b n => .type n
  | Ty.c j => .ref (clA T K j)
def mkB (C : Addr) : Bool := PySem.W.makesIn K C && (He.eqO (PySem.W.findIn K (.ref C) "__init__") (some (some (.ref (He.ma K C "__init__")))) && (PySem.W.isFn K (.ref (He.ma K C "__init__")) && PySem.W.keepIn K (.ref C)))
/-- all of it -/
def cvB (C : Addr) (m : Str) (d : D) : Bool := readB K C && (match PySem.W.typeIn K (.ref C) with
  | some mc => (match PySem.W.findCls K (.ref C) mc m with
    | some (.val u) => konB K d u
    | _ => false)
  | none => false)
def ivB (C : Addr) (m : Str) (d : D) : Bool := clsB K C && (match PySem.W.findIn K (.ref C) m with
  | some (some u) => konB K d u && (He.eqO (PySem.W.specialIn K u "__get__") (some none) && !PySem.W.copiedNames.contains m)
  | _ => false)
def tbB : Bool :=
  (decide ((T.cls.map (He.ga K)).Nodup) && (T.cls.all fun x => decide (He.ga K x < 1000000000) && (gloB K x (He.ga K x) && !(x == ("__debug__" : Str))))) &&
  ((T.fld.all fun q => clsB K (clA T K q.1) && He.eqO (PySem.W.findIn K (.ref (clA T K q.1)) (nmAll T.nms q.2)) (some none)) &&
  ((T.dn.all fun q => dnB K (clA T K q.1) q.2.1 (nmAll T.nms q.2.1) (adA T K q.2.2)) &&
  ((T.pr.all fun q => prB K (clA T K q.1) (nmAll T.nms q.2.1) (adA T K q.2.2) && ((ksA T q.2.2).isEmpty && !(T.isC.contains q.2.2))) &&
  ((T.dm.all fun q => clsB K (clA T K q.1) && (methB K (clA T K q.1) (nmAll T.nms q.2.1) (adA T K q.2.2.2) && (ksA T q.2.2.2 == q.2.2.1))) &&
  ((T.sm.all fun q => smB K (clA T K q.1) (nmAll T.nms q.2.1) (adA T K q.2.2.2) && (ksA T q.2.2.2 == q.2.2.1)) &&
  ((T.cm.all fun q => cmB K (clA T K q.1) (nmAll T.nms q.2.1) (adA T K q.2.2.2) && (ksA T q.2.2.2 == q.2.2.1)) &&
  (((List.range T.gn.length).all fun i => match T.gn[i]? with
    | some (some x) => gloB K x (adA T K i) && (PySem.W.keepIn K (.ref (adA T K i)) && !(x == ("__debug__" : Str)))
    | _ => true) &&
  ((T.kon.all fun q => (match PySem.W.nsIn K mainGlobals q.1 with
    | some (some v) => konB K q.2 v
    | _ => false) && !(q.1 == ("__debug__" : Str))) &&
  ((T.ist.all fun q => decide (PySem.W.kitOne K (q.1.w T K) (q.2.1.w T K) = some q.2.2) && (match q.1 with
    | .c c => insB K (clA T K c)
    | .b _ => true)) &&
  ((bltNames.all fun x => He.eqO (PySem.W.nsIn K mainGlobals x) (some none)) && ((T.mks.all fun c => mkB K (clA T K c)) && ((T.it.all fun q => clsB K (clA T K q.1) && methB K (clA T K q.1) "__iter__" (He.ma K (clA T K q.1) "__iter__")) && ((T.nsub.all fun q => decide (PySem.W.subIn K (.ref (clA T K q.2)) (.ref (clA T K q.1)) = some false)) && ((T.cv.all fun q => cvB K (clA T K q.1) (nmAll T.nms q.2.1) q.2.2) && (T.iv.all fun q => ivB K (clA T K q.1) (nmAll T.nms q.2.1) q.2.2)))))))))))))))
end
/-! ## the defs -/
structure Df where
  at_ : At
  name : Str
  qual : Str
  params : Arguments
  body : List Stmt
  scope : Scope
  dfl : List D
def fnAt (K : PySem.W.Frag) (f : Addr) : He.FnW := match K.lookup f with
  | some ⟨_, _, .func fd, _⟩ => some (fd.name, fd.qualname, fd.params, fd.body, fd.scope, fd.globals, fd.closure, fd.builtins)
  | _ => none
def Df.val (d : Df) : He.FnW := some (d.name, d.qual, d.params, .stmts d.body, d.scope, mainGlobals, [], builtinsNs)
def dflD (K : PySem.W.Frag) (dV : Value) : List D → Bool
  | [] => (match dV with
    | .none => true
    | _ => false)
  | d :: ds => (match dV with
    | .ref T => (match K.lookup T with
      | some ⟨_, _, .seq its _, _⟩ => konBs K (d :: ds) its.toList
      | _ => false)
    | _ => false)
def Df.ok (K : PySem.W.Frag) (d : Df) : Bool := PySem.W.keepIn K (.ref (d.at_.ad K)) && (match K.lookup (d.at_.ad K) with
  | some ⟨_, _, .func fd, _⟩ => PySem.W.codeIn K fd.code d.qual && dflD K fd.defaults d.dfl
  | _ => false)
/-! ## the Hook -/
/-- of these the ones that the mask does not hold, each once -/
def addB : List Addr → Nat → List Addr × Nat
  | [], m => ([], m)
  | a :: r, m => match Nat.land (Nat.shiftRight m a) 1 with
    | 0 => HandSHeadRun.frNat (Nat.lor m (Nat.shiftLeft 1 a)) fun m1 => (match addB r m1 with
      | (l, m2) => (a :: l, m2))
    | _ => addB r m
def growB (g : Addr → Option Obj) : Nat → List Addr → Nat → List Addr
  | 0, f, _ => f
  | n + 1, f, m => match addB (f.flatMap fun a => match g a with
    | some o => He.refsD o
    | none => []) m with
    | (l, m2) => f ++ growB g n l m2
def asP (g : Addr → Option Obj) (n : Nat) : List Addr := HandSHeadRun.frNat (Nat.lor (Nat.shiftLeft 1 mainGlobals) (Nat.shiftLeft 1 cStatics)) fun m => growB g n [mainGlobals, cStatics] m
def obsP (T : Tb) (fn : List Df) (K : PySem.W.Frag) : He.AlD := (tbB T K && fn.all fun d => d.ok K, fn.map fun d => fnAt K (d.at_.ad K))
def valP (fn : List Df) : He.AlD := (true, fn.map Df.val)
def SaysP (T : Tb) (fn : List Df) (K : PySem.W.Frag) : Prop := obsP T fn K = valP fn
def obsPG (n : Nat) (T : Tb) (fn : List Df) (g : Addr → Option Obj) : He.AlD := obsP T fn (He.frG g (asP g n))
def hookP (n : Nat) (T : Tb) (fn : List Df) : PySem.W.Hook where
  α := He.AlD
  obs := fun s => obsPG n T fn s.heap.get?
  val := fun _ => valP fn
  says := fun _ h => ∃ K : PySem.W.Frag, K.In h ∧ SaysP T fn K
  of := fun _ _ e => ⟨_, He.frG_in, e⟩
  keeps := fun _ _ _ ⟨K, kin, c⟩ k => ⟨K, PySem.W.Frag.In.keeps kin k, c⟩
theorem obsPG_eq {n : Nat} {T : Tb} {fn : List Df} {g : Addr → Option Obj} {s : Shared} (h : ∀ a, g a = s.heap.get? a) : obsPG n T fn g = (hookP n T fn).obs s := by
  obtain rfl : g = s.heap.get? := funext h
  rfl
end PyD
set_option Elab.async false
set_option linter.all false
set_option autoImplicit false
set_option maxRecDepth 100000
set_option maxHeartbeats 4000000
/-! # The head's run, looked at in parts -/
namespace PyD
open PySem PySem.Spec PySem.W HandSHeadRun L2
/-- what is seen behind the top -/
def RunC {α : Type} (r : OpenRow) (M : Nat) (w : World) (f : SharedT → α) (v : α) : Prop := ∀ os : OsState, (endF (stepQ (denQ tabQ) r.prog w) M r.prog w os).map f = some v
theorem RunC.two {α β : Type} {r : OpenRow} {M : Nat} {w : World} {f : SharedT → α} {g : SharedT → β} {a : α} {b : β} (h1 : RunC r M w f a) (h2 : RunC r M w g b) : RunC r M w (fun s => (f s, g s)) (a, b) := by
  intro os
  obtain ⟨s, e, rfl⟩ := Option.map_eq_some_iff.mp (h1 os)
  have := h2 os
  rw [e, Option.map_some] at this
  rw [e, Option.map_some]
  injection this with this
  rw [this]
theorem RunC.both {r : OpenRow} {M : Nat} {w : World} {f g : SharedT → Bool} (h1 : RunC r M w f true) (h2 : RunC r M w g true) : RunC r M w (fun s => f s && g s) true := by
  intro os
  obtain ⟨s, e, e1⟩ := Option.map_eq_some_iff.mp (h1 os)
  have := h2 os
  rw [e, Option.map_some] at this
  rw [e, Option.map_some]
  injection this with this
  rw [this, e1]
  rfl
theorem run_of2 {r : OpenRow} {q : Program} {H : Hook} {ob : SharedT → H.α} {M : Nat} {loose : List PySem.Str} {w : World}
    (h : RunC r M w (fun s => (looksF r.prog (boot_heap w.params) s.abs, seenQ q loose (importedModules r.prog.main.body) (fun s => xlAt q [] s && recOk r.toRowW.records s) s.abs)) (true, openGood q loose)) (h3 : RunC r M w ob (H.val w)) : RunEq r q H ob M loose w := by
  intro os
  obtain ⟨s, e, e1⟩ := Option.map_eq_some_iff.mp (h os)
  have e3 := h3 os
  rw [e, Option.map_some] at e3
  rw [e, Option.map_some]
  injection e3 with e3
  injection e1 with e1 e2
  rw [e1, e2, e3]
theorem run_of {r : OpenRow} {q : Program} {H : Hook} {ob : SharedT → H.α} {M : Nat} {loose : List PySem.Str} {w : World} (h1 : RunC r M w (fun s => looksF r.prog (boot_heap w.params) s.abs) true)
    (h2 : RunC r M w (fun s => seenQ q loose (importedModules r.prog.main.body) (fun s => xlAt q [] s && recOk r.toRowW.records s) s.abs) (openGood q loose)) (h3 : RunC r M w ob (H.val w)) : RunEq r q H ob M loose w := by
  intro os
  exact (h1.two (h2.two h3)) os
end PyD
set_option Elab.async false
set_option linter.all false
set_option autoImplicit false
set_option maxRecDepth 100000
set_option maxHeartbeats 4000000
open PySem PySem.Spec L2
namespace PyD
namespace L25
def prog : Program := PySem.Challenge.pw_gangruns_k25_weighings_made
def top (i : Nat) : Stmt := PySem.Challenge.pw_gangruns_k25_weighings_made.main.body.getD i (.Pass ⟨0, 0, 0, 0⟩)
def s0 : Stmt := top 7
def s1 : Stmt := top 8
def s2 : Stmt := top 9
def s3 : Stmt := top 10
def s4 : Stmt := top 12
def s5 : Stmt := inClass (top 35) 0
def s6 : Stmt := top 36
def s7 : Stmt := top 37
def s8 : Stmt := top 38
def s9 : Stmt := top 46
def s10 : Stmt := top 48
def s11 : Stmt := inClass (top 49) 0
def s12 : Stmt := inClass (top 49) 3
def s13 : Stmt := inClass (top 49) 7
def s14 : Stmt := top 29
def s15 : Stmt := top 30
def s16 : Stmt := inClass (top 32) 0
def s17 : Stmt := inClass (top 32) 1
def s18 : Stmt := inClass (top 32) 2
def s19 : Stmt := inClass (top 32) 3
def s20 : Stmt := inClass (top 32) 9
def s21 : Stmt := inClass (top 32) 10
def s22 : Stmt := inClass (top 32) 13
def s23 : Stmt := inClass (top 32) 14
def s24 : Stmt := inClass (top 32) 20
def s25 : Stmt := inClass (top 32) 22
def s26 : Stmt := inClass (top 55) 0
def s27 : Stmt := inClass (top 55) 2
def s28 : Stmt := inClass (top 55) 3
def s29 : Stmt := inClass (top 55) 4
def s30 : Stmt := inClass (top 55) 6
def s31 : Stmt := inClass (top 55) 12
def s32 : Stmt := inClass (top 55) 13
def s33 : Stmt := top 57
def s34 : Stmt := top 58
def s35 : Stmt := top 59
def s36 : Stmt := top 60
def s37 : Stmt := top 61
def s38 : Stmt := top 62
def s39 : Stmt := top 63
def s40 : Stmt := top 64
def s41 : Stmt := top 65
def s42 : Stmt := top 66
def d0 : Df := ⟨.glo "is_integer", "is_integer", "is_integer", defArgs s0, defBody s0, defScope s0, []⟩
def d1 : Df := ⟨.glo "is_between", "is_between", "is_between", defArgs s1, defBody s1, defScope s1, []⟩
def d2 : Df := ⟨.glo "is_count", "is_count", "is_count", defArgs s2, defBody s2, defScope s2, []⟩
def d3 : Df := ⟨.glo "is_name", "is_name", "is_name", defArgs s3, defBody s3, defScope s3, []⟩
def d4 : Df := ⟨.glo "in_order", "in_order", "in_order", defArgs s4, defBody s4, defScope s4, []⟩
def d5 : Df := ⟨.meth "Kept" "__init__", "__init__", "Kept.__init__", defArgs s5, defBody s5, defScope s5, []⟩
def d6 : Df := ⟨.glo "told_pairs", "told_pairs", "told_pairs", defArgs s6, defBody s6, defScope s6, []⟩
def d7 : Df := ⟨.glo "need_counts", "need_counts", "need_counts", defArgs s7, defBody s7, defScope s7, []⟩
def d8 : Df := ⟨.glo "kept_counts", "kept_counts", "kept_counts", defArgs s8, defBody s8, defScope s8, []⟩
def d9 : Df := ⟨.glo "need_kinds", "need_kinds", "need_kinds", defArgs s9, defBody s9, defScope s9, []⟩
def d10 : Df := ⟨.glo "checked_counts", "checked_counts", "checked_counts", defArgs s10, defBody s10, defScope s10, []⟩
def d11 : Df := ⟨.meth "Order" "__init__", "__init__", "Order.__init__", defArgs s11, defBody s11, defScope s11, [.non]⟩
def d12 : Df := ⟨.prop "Order" "kinds", "kinds", "Order.kinds", defArgs s12, defBody s12, defScope s12, []⟩
def d13 : Df := ⟨.meth "Order" "__getitem__", "__getitem__", "Order.__getitem__", defArgs s13, defBody s13, defScope s13, []⟩
def d14 : Df := ⟨.glo "shared_divisor", "shared_divisor", "shared_divisor", defArgs s14, defBody s14, defScope s14, []⟩
def d15 : Df := ⟨.glo "parts_of", "parts_of", "parts_of", defArgs s15, defBody s15, defScope s15, []⟩
def d16 : Df := ⟨.meth "Amount" "__init__", "__init__", "Amount.__init__", defArgs s16, defBody s16, defScope s16, [(.int 1)]⟩
def d17 : Df := ⟨.stat "Amount" "is_number", "is_number", "Amount.is_number", defArgs s17, defBody s17, defScope s17, []⟩
def d18 : Df := ⟨.stat "Amount" "of", "of", "Amount.of", defArgs s18, defBody s18, defScope s18, []⟩
def d19 : Df := ⟨.stat "Amount" "sum_of", "sum_of", "Amount.sum_of", defArgs s19, defBody s19, defScope s19, []⟩
def d20 : Df := ⟨.meth "Amount" "__add__", "__add__", "Amount.__add__", defArgs s20, defBody s20, defScope s20, []⟩
def d21 : Df := ⟨.meth "Amount" "__radd__", "__radd__", "Amount.__radd__", defArgs s21, defBody s21, defScope s21, []⟩
def d22 : Df := ⟨.meth "Amount" "__mul__", "__mul__", "Amount.__mul__", defArgs s22, defBody s22, defScope s22, []⟩
def d23 : Df := ⟨.meth "Amount" "__rmul__", "__rmul__", "Amount.__rmul__", defArgs s23, defBody s23, defScope s23, []⟩
def d24 : Df := ⟨.meth "Amount" "__eq__", "__eq__", "Amount.__eq__", defArgs s24, defBody s24, defScope s24, []⟩
def d25 : Df := ⟨.meth "Amount" "__str__", "__str__", "Amount.__str__", defArgs s25, defBody s25, defScope s25, []⟩
def d26 : Df := ⟨.meth "Weighing" "__init__", "__init__", "Weighing.__init__", defArgs s26, defBody s26, defScope s26, []⟩
def d27 : Df := ⟨.meth "Weighing" "__getitem__", "__getitem__", "Weighing.__getitem__", defArgs s27, defBody s27, defScope s27, []⟩
def d28 : Df := ⟨.meth "Weighing" "__contains__", "__contains__", "Weighing.__contains__", defArgs s28, defBody s28, defScope s28, []⟩
def d29 : Df := ⟨.meth "Weighing" "__len__", "__len__", "Weighing.__len__", defArgs s29, defBody s29, defScope s29, []⟩
def d30 : Df := ⟨.meth "Weighing" "__call__", "__call__", "Weighing.__call__", defArgs s30, defBody s30, defScope s30, []⟩
def d31 : Df := ⟨.meth "Weighing" "__eq__", "__eq__", "Weighing.__eq__", defArgs s31, defBody s31, defScope s31, []⟩
def d32 : Df := ⟨.meth "Weighing" "__str__", "__str__", "Weighing.__str__", defArgs s32, defBody s32, defScope s32, []⟩
def d33 : Df := ⟨.glo "_law_bag", "_law_bag", "_law_bag", defArgs s33, defBody s33, defScope s33, []⟩
def d34 : Df := ⟨.glo "_law_draw", "_law_draw", "_law_draw", defArgs s34, defBody s34, defScope s34, []⟩
def d35 : Df := ⟨.glo "_law_pick", "_law_pick", "_law_pick", defArgs s35, defBody s35, defScope s35, []⟩
def d36 : Df := ⟨.glo "_law_low", "_law_low", "_law_low", defArgs s36, defBody s36, defScope s36, []⟩
def d37 : Df := ⟨.glo "_law_total", "_law_total", "_law_total", defArgs s37, defBody s37, defScope s37, []⟩
def d38 : Df := ⟨.glo "_law_weigh", "_law_weigh", "_law_weigh", defArgs s38, defBody s38, defScope s38, []⟩
def d39 : Df := ⟨.glo "_law_weights", "_law_weights", "_law_weights", defArgs s39, defBody s39, defScope s39, []⟩
def d40 : Df := ⟨.glo "_law_made", "_law_made", "_law_made", defArgs s40, defBody s40, defScope s40, []⟩
def d41 : Df := ⟨.glo "_law_is", "_law_is", "_law_is", defArgs s41, defBody s41, defScope s41, []⟩
def d42 : Df := ⟨.glo "law", "law", "law", defArgs s42, defBody s42, defScope s42, []⟩
def si0 : Stmt := inClass (top 55) 5
def di0 : Df := ⟨.meth "Weighing" "__iter__", "__iter__", "Weighing.__iter__", defArgs si0, defBody si0, defScope si0, []⟩
def fn : List Df := [d0, d1, d2, d3, d4, d5, d6, d7, d8, d9, d10, d11, d12, d13, d14, d15, d16, d17, d18, d19, d20, d21, d22, d23, d24, d25, d26, d27, d28, d29, d30, d31, d32, d33, d34, d35, d36, d37, d38, d39, d40, d41, d42, di0]
def T : Tb where
  cls := ["Kept", "Order", "Amount", "Weighing"]
  nms := ["rows", "counts", "top", "bottom", "is_number", "numbers", "of", "kinds", "sum_of"]
  fld := [(0, 29), (1, 30), (2, 31), (2, 32), (3, 34)]
  dn := [(1, 23, 14), (2, 0, 22), (2, 1, 23), (2, 4, 24), (2, 5, 25), (2, 18, 26), (2, 26, 27), (3, 23, 29), (3, 22, 30), (3, 21, 31), (3, 25, 32), (3, 18, 33), (3, 26, 34)]
  pr := [(1, 36, 13)]
  dm := []
  sm := [(2, 33, [], 19), (2, 35, [], 20), (2, 37, [], 21)]
  cm := []
  at_ := [.glo "is_integer", .glo "is_between", .glo "is_count", .glo "is_name", .glo "in_order", .glo "Kept", .glo "told_pairs", .glo "need_counts", .glo "kept_counts", .glo "need_kinds", .glo "checked_counts", .glo "Order", .glo "Order", .prop "Order" "kinds", .meth "Order" "__getitem__", .glo "shared_divisor", .glo "parts_of", .glo "Amount", .glo "Amount", .stat "Amount" "is_number", .stat "Amount" "of", .stat "Amount" "sum_of", .meth "Amount" "__add__", .meth "Amount" "__radd__", .meth "Amount" "__mul__", .meth "Amount" "__rmul__", .meth "Amount" "__eq__", .meth "Amount" "__str__", .glo "Weighing", .meth "Weighing" "__getitem__", .meth "Weighing" "__contains__", .meth "Weighing" "__len__", .meth "Weighing" "__call__", .meth "Weighing" "__eq__", .meth "Weighing" "__str__", .glo "_law_bag", .glo "_law_draw", .glo "_law_pick", .glo "_law_low", .glo "_law_total", .glo "_law_weigh", .glo "_law_weights", .glo "_law_made", .glo "_law_is", .glo "law"]
  ks := [([] : List Str), ([] : List Str), ([] : List Str), ([] : List Str), ([] : List Str), ([] : List Str), ([] : List Str), ([] : List Str), ([] : List Str), ([] : List Str), ([] : List Str), ([] : List Str), ([] : List Str), ([] : List Str), ([] : List Str), ([] : List Str), ([] : List Str), ([] : List Str), ([] : List Str), ([] : List Str), ([] : List Str), ([] : List Str), ([] : List Str), ([] : List Str), ([] : List Str), ([] : List Str), ([] : List Str), ([] : List Str), ([] : List Str), ([] : List Str), ([] : List Str), ([] : List Str), ([] : List Str), ([] : List Str), ([] : List Str), ([] : List Str), ([] : List Str), ([] : List Str), ([] : List Str), ([] : List Str), ([] : List Str), ([] : List Str), ([] : List Str), ([] : List Str), ([] : List Str)]
  gn := [(some ("is_integer" : Str)), (some ("is_between" : Str)), (some ("is_count" : Str)), (some ("is_name" : Str)), (some ("in_order" : Str)), (some ("Kept" : Str)), (some ("told_pairs" : Str)), (some ("need_counts" : Str)), (some ("kept_counts" : Str)), (some ("need_kinds" : Str)), (some ("checked_counts" : Str)), (some ("Order" : Str)), (some ("Order" : Str)), none, none, (some ("shared_divisor" : Str)), (some ("parts_of" : Str)), (some ("Amount" : Str)), (some ("Amount" : Str)), none, none, none, none, none, none, none, none, none, (some ("Weighing" : Str)), none, none, none, none, none, none, (some ("_law_bag" : Str)), (some ("_law_draw" : Str)), (some ("_law_pick" : Str)), (some ("_law_low" : Str)), (some ("_law_total" : Str)), (some ("_law_weigh" : Str)), (some ("_law_weights" : Str)), (some ("_law_made" : Str)), (some ("_law_is" : Str)), (some ("law" : Str))]
  kon := [("MOST_COUNT", (.int 1000000000000000000000000000000)), ("LETTERS", (.str "abcdefghijklmnopqrstuvwxyz")), ("MOST_LETTERS", (.int 8)), ("NONE", (.str "-"))]
  ist := [(.b "int", .b "int", true), (.b "bool", .b "int", true), (.b "str", .b "int", false), (.b "NoneType", .b "int", false), (.b "list", .b "int", false), (.b "tuple", .b "int", false), (.b "dict", .b "int", false), (.c 0, .b "int", false), (.c 1, .b "int", false), (.c 2, .b "int", false), (.c 3, .b "int", false), (.b "int", .b "bool", false), (.b "bool", .b "bool", true), (.b "str", .b "bool", false), (.b "NoneType", .b "bool", false), (.b "list", .b "bool", false), (.b "tuple", .b "bool", false), (.b "dict", .b "bool", false), (.c 0, .b "bool", false), (.c 1, .b "bool", false), (.c 2, .b "bool", false), (.c 3, .b "bool", false), (.b "int", .b "str", false), (.b "bool", .b "str", false), (.b "str", .b "str", true), (.b "NoneType", .b "str", false), (.b "list", .b "str", false), (.b "tuple", .b "str", false), (.b "dict", .b "str", false), (.c 0, .b "str", false), (.c 1, .b "str", false), (.c 2, .b "str", false), (.c 3, .b "str", false), (.b "int", .b "dict", false), (.b "bool", .b "dict", false), (.b "str", .b "dict", false), (.b "NoneType", .b "dict", false), (.b "list", .b "dict", false), (.b "tuple", .b "dict", false), (.b "dict", .b "dict", true), (.c 0, .b "dict", false), (.c 1, .b "dict", false), (.c 2, .b "dict", false), (.c 3, .b "dict", false), (.b "int", .c 0, false), (.b "bool", .c 0, false), (.b "str", .c 0, false), (.b "NoneType", .c 0, false), (.b "list", .c 0, false), (.b "tuple", .c 0, false), (.b "dict", .c 0, false), (.c 0, .c 0, true), (.c 1, .c 0, false), (.c 2, .c 0, false), (.c 3, .c 0, false), (.b "int", .c 2, false), (.b "bool", .c 2, false), (.b "str", .c 2, false), (.b "NoneType", .c 2, false), (.b "list", .c 2, false), (.b "tuple", .c 2, false), (.b "dict", .c 2, false), (.c 0, .c 2, false), (.c 1, .c 2, false), (.c 2, .c 2, true), (.c 3, .c 2, false), (.b "int", .c 1, false), (.b "bool", .c 1, false), (.b "str", .c 1, false), (.b "NoneType", .c 1, false), (.b "list", .c 1, false), (.b "tuple", .c 1, false), (.b "dict", .c 1, false), (.c 0, .c 1, false), (.c 1, .c 1, true), (.c 2, .c 1, false), (.c 3, .c 1, false), (.b "int", .c 3, false), (.b "bool", .c 3, false), (.b "str", .c 3, false), (.b "NoneType", .c 3, false), (.b "list", .c 3, false), (.b "tuple", .c 3, false), (.b "dict", .c 3, false), (.c 0, .c 3, false), (.c 1, .c 3, false), (.c 2, .c 3, false), (.c 3, .c 3, true)]
  isC := [5, 11, 12, 17, 18, 28]
  mks := [0, 1, 2, 3]
  nsub := []
  cv := []
  iv := []
  it := [(3, [34])]
theorem hN : okN T.nms = true := by decide +kernel
end L25
end PyD
set_option Elab.async false
set_option linter.all false
set_option maxRecDepth 100000
set_option maxHeartbeats 0
namespace PyD.L25
open PySem PySem.Spec L2 PyD
abbrev R : PySem.W.OpenRow := PySem.W.OpenLaw.row PySem.Challenge.rw_gangruns_k25_weighings_made
abbrev hk : PySem.W.Hook := hookP 6 T fn
def ob (s : PySem.W.SharedT) : He.AlD := obsPG 6 T fn (HandSHeadRun.getT s)
theorem ob_eq (s : PySem.W.SharedT) : ob s = hk.obs s.abs := obsPG_eq (HandSHeadRun.getT_eq s)
def loose : List Str := (["_wall", "MOST_COUNT", "MOST_LETTERS", "MOST_FIGURES_checks", "LETTERS", "FIGURES_checks", "is_integer", "is_between", "is_count", "is_name", "number_in", "in_order", "words_of", "RunsError", "BadInput", "BadAmount", "BadCount", "BadKind", "BadOrder", "BadText"] : List Str) ++ (["BadWeighing", "Empty", "Short", "Unlike", "MOST_FIGURES_amounts", "FIGURES_amounts", "shared_divisor", "parts_of", "integer_in", "Amount", "MOST", "Kept", "told_pairs", "need_counts", "kept_counts", "need_times", "lessened", "is_within", "text_of", "read_pairs"] : List Str) ++ (["read_counts", "need_kinds", "need_order", "checked_counts", "Order", "order_with", "NONE", "number_told", "words_told", "Weighing", "_law_bag", "_law_draw", "_law_pick", "_law_low", "_law_total", "_law_weigh", "_law_weights", "_law_made", "_law_is"] : List Str)
open PySem.W HandSHeadRun
theorem r12 (w : World) : RunC R 20000 w (fun s => (looksF R.prog (boot_heap w.params) s.abs, seenQ (PySem.W.view R.prog [66]) loose (importedModules R.prog.main.body) (fun s => xlAt (PySem.W.view R.prog [66]) [] s && recOk R.toRowW.records s) s.abs)) (true, openGood (PySem.W.view R.prog [66]) loose) := by
  intro os
  kernel_rfl
theorem r3 (w : World) : RunC R 20000 w (fun s => (ob s).1) true := by
  intro os
  kernel_rfl
theorem r4 (w : World) : RunC R 20000 w (fun s => (ob s).2) (fn.map Df.val) := by
  intro os
  kernel_rfl
theorem run (w : World) : HandSHeadRun.RunEq R (PySem.W.view R.prog [66]) hk ob 20000 loose w := run_of2 (r12 w) (RunC.two (r3 w) (r4 w))
end PyD.L25
set_option Elab.async false
set_option linter.all false
set_option maxRecDepth 100000
set_option maxHeartbeats 4000000
/-! # Trees of data over the abstract heap -/
namespace PyD
open PySem PySem.Spec PyProof.Rows L2

/-- a thing that changes -/
inductive MO where
  | inst (c : Nat) (fs : List (Nat × D)) | lst (xs : List D) | dct (kvs : List (Key × D))
  /-- a dict that is locked for a while: its object stays the one -/
  | lok (ob : Obj) (vs : List (Key × V)) (kvs : List (Key × D))

abbrev Mst := Addr → Option MO
def updM (M : Mst) (a : Addr) (o : MO) : Mst := fun b => if b = a then some o else M b
def delM (M : Mst) (a : Addr) : Mst := fun b => if b = a then none else M b
theorem updM_same {M : Mst} {a : Addr} {o : MO} : updM M a o a = some o := if_pos rfl
theorem updM_ne {M : Mst} {a b : Addr} {o : MO} (h : b ≠ a) : updM M a o b = M b := if_neg h
theorem updM_updM {M : Mst} {a : Addr} {o u : MO} : updM (updM M a o) a u = updM M a u := by
  funext b; unfold updM; split <;> rfl
theorem delM_same {M : Mst} {a : Addr} : delM M a a = none := if_pos rfl
theorem delM_ne {M : Mst} {a b : Addr} (h : b ≠ a) : delM M a b = M b := if_neg h
theorem delM_updM {M : Mst} {a : Addr} {o : MO} (h : M a = none) : delM (updM M a o) a = M := by
  funext b
  unfold delM updM
  by_cases e : b = a
  · subst e; rw [if_pos rfl, h]
  · rw [if_neg e, if_neg e]
theorem updM_self {M : Mst} {a : Addr} {o : MO} (h : M a = some o) : updM M a o = M := by
  funext b
  unfold updM
  by_cases e : b = a
  · subst e; rw [if_pos rfl, h]
  · rw [if_neg e]
theorem updM_comm {M : Mst} {a b : Addr} {o u : MO} (h : a ≠ b) : updM (updM M a o) b u = updM (updM M b u) a o := by
  funext c
  unfold updM
  by_cases e : c = a
  · subst e; rw [if_neg h, if_pos rfl, if_pos rfl]
  · by_cases e2 : c = b
    · subst e2; rw [if_pos rfl, if_neg e, if_pos rfl]
    · rw [if_neg e2, if_neg e, if_neg e, if_neg e2]

/-- what the text's numbers stand for: classes, names, callables -/
structure Gam where
  cl : Nat → Addr
  nm : Nat → Str
  inj : ∀ i j, nm i = nm j → i = j
  /-- a class and a field of its instances -/
  fld : Nat → Nat → Bool
  /-- a class and a name: the def that stands there; as a property; with these keywords as a method, a static method, a class method -/
  dn : Nat → Nat → Option Nat
  pr : Nat → Nat → Option Nat
  dm : Nat → Nat → List Str → Option Nat
  sm : Nat → Nat → List Str → Option Nat
  cm : Nat → Nat → List Str → Option Nat
  /-- a callable: where it stands, the keywords of the call, its global name -/
  adr : Nat → Addr
  ks : Nat → List Str
  gn : Nat → Option Str
  /-- a class's global name; the module's constants -/
  cn : Nat → Option Str
  kon : Nat → Option (Str × D)
  ist : Ty → Ty → Option Bool
  /-- a callable that is a class -/
  isC : Nat → Bool
  /-- a class whose __iter__ is iter(self.a.b..), the def's address -/
  itf : Nat → Option (List Nat)
  ita : Nat → Addr
  /-- a class and a name: the constant that stands there -/
  cv : Nat → Nat → Option D
  /-- classes: the second is not below the first -/
  nsub : Nat → Nat → Bool
  /-- a class and a name: the constant that its instances show -/
  iv : Nat → Nat → Option D

section
variable (K : PySem.W.Frag) (G : Gam) (I : Hp)
mutual
/-- v is the datum, by what never changes -/
def Rep : D → V → Prop
  | .non, v => v = .non
  | .bl b, v => v = .bl b
  | .int i, v => v = .int i
  | .str x, v => v = .str x
  | .tup ds, v => ∃ a vs, v = .ref a ∧ SqT K I a vs ∧ Reps ds vs
  | .lst ds, v => ∃ a vs, v = .ref a ∧ SqL K I a vs ∧ Reps ds vs
  | .dct kds, v => ∃ a ob kvs, v = .ref a ∧ I a = some (.frz ob (.dK kvs)) ∧ RepK kds kvs
  | .obj c fs, v => ∃ a dx vfs, v = .ref a ∧ I a = some (.ins (G.cl c) dx vfs) ∧ RepF fs vfs
  | .loc a, v => v = .ref a
  | .cls c, v => v = .ref (G.cl c)
  | .ty n, v => v = .ty n
def Reps : List D → List V → Prop
  | [], vs => vs = []
  | d :: ds, vs => ∃ v r, vs = v :: r ∧ Rep d v ∧ Reps ds r
def RepK : List (Key × D) → List (Key × V) → Prop
  | [], vs => vs = []
  | (k, d) :: ds, vs => ∃ v r, vs = (k, v) :: r ∧ Rep d v ∧ RepK ds r
def RepF : List (Nat × D) → List (Str × V) → Prop
  | [], vs => vs = []
  | (k, d) :: ds, vs => ∃ v r, vs = (G.nm k, v) :: r ∧ Rep d v ∧ RepF ds r
end
/-- a changing thing, as it stands -/
def MRep : MO → HO → Prop
  | .inst c fs, o => ∃ dx vfs, o = .ins (G.cl c) dx vfs ∧ RepF K G I fs vfs
  | .lst ds, o => ∃ vs, o = .lst vs ∧ Reps K G I ds vs
  | .dct kds, o => ∃ kvs, o = .dK kvs ∧ RepK K G I kds kvs
  | .lok ob vs kds, o => o = .frz ob (.dK vs) ∧ RepK K G I kds vs
end

def Ext (I I' : Hp) : Prop := ∀ a o, I a = some o → I' a = some o
theorem Ext.refl (I : Hp) : Ext I I := fun _ _ h => h
theorem Ext.trans {I J L : Hp} (a : Ext I J) (b : Ext J L) : Ext I L := fun c o h => b c o (a c o h)
theorem Ext.rd {I J : Hp} (e : Ext I J) {a : Addr} {u : HO} (h : Rd I a u) : Rd J a u := by
  rcases h with h | ⟨o, h⟩
  · exact .inl (e _ _ h)
  · exact .inr ⟨o, e _ _ h⟩
theorem Ext.sql {K : PySem.W.Frag} {I J : Hp} (e : Ext I J) {a : Addr} {xs : List V} (h : SqL K I a xs) : SqL K J a xs := h.imp e.rd id
theorem Ext.sqt {K : PySem.W.Frag} {I J : Hp} (e : Ext I J) {a : Addr} {xs : List V} (h : SqT K I a xs) : SqT K J a xs := h.imp e.rd id

section
variable {K : PySem.W.Frag} {G : Gam} {I I' : Hp}
mutual
theorem Rep.ext (e : Ext I I') : ∀ {d : D} {v : V}, Rep K G I d v → Rep K G I' d v
  | .non, _, h => h
  | .bl _, _, h => h
  | .int _, _, h => h
  | .str _, _, h => h
  | .tup ds, _, ⟨a, vs, h1, h2, h3⟩ => ⟨a, vs, h1, e.sqt h2, Reps.ext e h3⟩
  | .lst ds, _, ⟨a, vs, h1, h2, h3⟩ => ⟨a, vs, h1, e.sql h2, Reps.ext e h3⟩
  | .dct kds, _, ⟨a, ob, kvs, h1, h2, h3⟩ => ⟨a, ob, kvs, h1, e _ _ h2, RepK.ext e h3⟩
  | .obj c fs, _, ⟨a, dx, vfs, h1, h2, h3⟩ => ⟨a, dx, vfs, h1, e _ _ h2, RepF.ext e h3⟩
  | .loc _, _, h => h
  | .cls _, _, h => h
  | .ty _, _, h => h
theorem Reps.ext (e : Ext I I') : ∀ {ds : List D} {vs : List V}, Reps K G I ds vs → Reps K G I' ds vs
  | [], _, h => h
  | d :: ds, _, ⟨v, r, h1, h2, h3⟩ => ⟨v, r, h1, Rep.ext e h2, Reps.ext e h3⟩
theorem RepK.ext (e : Ext I I') : ∀ {ds : List (Key × D)} {vs : List (Key × V)}, RepK K G I ds vs → RepK K G I' ds vs
  | [], _, h => h
  | (k, d) :: ds, _, ⟨v, r, h1, h2, h3⟩ => ⟨v, r, h1, Rep.ext e h2, RepK.ext e h3⟩
theorem RepF.ext (e : Ext I I') : ∀ {ds : List (Nat × D)} {vs : List (Str × V)}, RepF K G I ds vs → RepF K G I' ds vs
  | [], _, h => h
  | (k, d) :: ds, _, ⟨v, r, h1, h2, h3⟩ => ⟨v, r, h1, Rep.ext e h2, RepF.ext e h3⟩
end
theorem MRep.ext (e : Ext I I') {m : MO} {o : HO} (h : MRep K G I m o) : MRep K G I' m o := by
  cases m with
  | inst c fs => obtain ⟨dx, vfs, h1, h2⟩ := h; exact ⟨dx, vfs, h1, h2.ext e⟩
  | lst ds => obtain ⟨vs, h1, h2⟩ := h; exact ⟨vs, h1, h2.ext e⟩
  | dct kds => obtain ⟨kvs, h1, h2⟩ := h; exact ⟨kvs, h1, h2.ext e⟩
  | lok ob vs kds => obtain ⟨h1, h2⟩ := h; exact ⟨h1, h2.ext e⟩
theorem Reps.nil : Reps K G I [] [] := by unfold Reps; rfl
theorem Reps.cons {d : D} {v : V} {ds : List D} {vs : List V} (h : Rep K G I d v) (t : Reps K G I ds vs) : Reps K G I (d :: ds) (v :: vs) := by
  unfold Reps; exact ⟨v, vs, rfl, h, t⟩
theorem Reps.length : ∀ {ds : List D} {vs : List V}, Reps K G I ds vs → vs.length = ds.length
  | [], vs, h => by unfold Reps at h; subst h; rfl
  | d :: ds, vs, h => by
    unfold Reps at h
    obtain ⟨v, r, rfl, _, t⟩ := h
    simp [Reps.length t]
theorem RepK.length : ∀ {ds : List (Key × D)} {vs : List (Key × V)}, RepK K G I ds vs → vs.length = ds.length
  | [], vs, h => by unfold RepK at h; subst h; rfl
  | (k, d) :: ds, vs, h => by
    unfold RepK at h
    obtain ⟨v, r, rfl, _, t⟩ := h
    simp [RepK.length t]
theorem Reps.get : ∀ {ds : List D} {vs : List V} {i : Nat} {d : D}, Reps K G I ds vs → ds[i]? = some d → ∃ v, vs[i]? = some v ∧ Rep K G I d v
  | [], _, _, _, _, e => by simp at e
  | d :: ds, vs, i, x, h, e => by
    unfold Reps at h
    obtain ⟨v, r, rfl, hv, t⟩ := h
    cases i with
    | zero => simp at e; subst e; exact ⟨v, rfl, hv⟩
    | succ i => simpa using Reps.get (i := i) t (by simpa using e)
theorem Reps.get' : ∀ {ds : List D} {vs : List V} {i : Nat} {v : V}, Reps K G I ds vs → vs[i]? = some v → ∃ d, ds[i]? = some d ∧ Rep K G I d v
  | [], vs, _, _, h, e => by unfold Reps at h; subst h; simp at e
  | d :: ds, vs, i, x, h, e => by
    unfold Reps at h
    obtain ⟨v, r, rfl, hv, t⟩ := h
    cases i with
    | zero => simp at e; subst e; exact ⟨d, rfl, hv⟩
    | succ i => simpa using Reps.get' (i := i) t (by simpa using e)
theorem Reps.append : ∀ {ds es : List D} {vs ws : List V}, Reps K G I ds vs → Reps K G I es ws → Reps K G I (ds ++ es) (vs ++ ws)
  | [], _, vs, _, h, t => by unfold Reps at h; subst h; exact t
  | d :: ds, _, vs, _, h, t => by
    unfold Reps at h
    obtain ⟨v, r, rfl, hv, q⟩ := h
    exact .cons hv (q.append t)
theorem Reps.set : ∀ {ds : List D} {vs : List V} {d : D} {v : V} (i : Nat), Rep K G I d v → Reps K G I ds vs → Reps K G I (ds.set i d) (vs.set i v)
  | [], vs, _, _, _, _, h => by unfold Reps at h; subst h; exact .nil
  | x :: ds, vs, d, v, i, hr, h => by
    unfold Reps at h
    obtain ⟨y, r, rfl, hv, q⟩ := h
    cases i with
    | zero => exact .cons hr q
    | succ i => exact .cons hv (q.set i hr)
theorem Reps.erase : ∀ {ds : List D} {vs : List V} (i : Nat), Reps K G I ds vs → Reps K G I (ds.eraseIdx i) (vs.eraseIdx i)
  | [], vs, i, h => by unfold Reps at h; subst h; exact .nil
  | x :: ds, vs, i, h => by
    unfold Reps at h
    obtain ⟨y, r, rfl, hv, q⟩ := h
    cases i with
    | zero => exact q
    | succ i => exact .cons hv (q.erase i)
theorem Reps.take : ∀ {ds : List D} {vs : List V} (n : Nat), Reps K G I ds vs → Reps K G I (ds.take n) (vs.take n)
  | _, _, 0, _ => .nil
  | [], vs, n + 1, h => by unfold Reps at h; subst h; exact .nil
  | x :: ds, vs, n + 1, h => by
    unfold Reps at h
    obtain ⟨y, r, rfl, hv, q⟩ := h
    exact .cons hv (q.take n)
theorem Reps.drop : ∀ {ds : List D} {vs : List V} (n : Nat), Reps K G I ds vs → Reps K G I (ds.drop n) (vs.drop n)
  | _, _, 0, h => h
  | [], vs, n + 1, h => by unfold Reps at h; subst h; exact .nil
  | x :: ds, vs, n + 1, h => by
    unfold Reps at h
    obtain ⟨y, r, rfl, hv, q⟩ := h
    exact q.drop n
theorem Reps.ints : ∀ (ns : List Int), Reps K G I (ns.map D.int) (ns.map V.int)
  | [] => .nil
  | n :: ns => .cons (by unfold Rep; rfl) (Reps.ints ns)
end

/-- what stands in I stands in H -/
def Sub (I H : Hp) : Prop := ∀ a o, I a = some o → H a = some o
section
variable {K : PySem.W.Frag} {I H : Hp} {a : Addr}
theorem Sub.rd (s : Sub I H) {u : HO} (h : Rd I a u) : Rd H a u := by
  rcases h with h | ⟨o, h⟩
  · exact .inl (s _ _ h)
  · exact .inr ⟨o, s _ _ h⟩
theorem Sub.sql (s : Sub I H) {xs : List V} (h : SqL K I a xs) : SqL K H a xs := h.imp s.rd id
theorem Sub.sqt (s : Sub I H) {xs : List V} (h : SqT K I a xs) : SqT K H a xs := h.imp s.rd id
theorem Sub.ins (s : Sub I H) {C dx : Addr} {fs : List (Str × V)} (h : I a = some (.ins C dx fs)) : H a = some (.ins C dx fs) := s _ _ h
theorem Sub.dK (s : Sub I H) {ob : Obj} {kvs : List (Key × V)} (h : I a = some (.frz ob (.dK kvs))) : Rd H a (.dK kvs) := .inr ⟨ob, s _ _ h⟩
end

/-- the three heaps go together -/
structure Good (K : PySem.W.Frag) (G : Gam) (I : Hp) (M : Mst) (H : Hp) : Prop where
  sub : Sub I H
  mst : ∀ a mo, M a = some mo → I a = none ∧ ∃ o, H a = some o ∧ MRep K G I mo o
  inI : ∀ a o, I a = some o → (∃ xs, o = .lst xs) ∨ (∃ xs, o = .tup xs) ∨ (∃ xs, o = .dK xs) ∨ (∃ C dx fs, o = .ins C dx fs) ∨ ∃ ob u, o = .frz ob u

/-- what is locked stays locked -/
def Lk (M M' : Mst) : Prop := ∀ a ob vs kds, M a = some (.lok ob vs kds) → M' a = some (.lok ob vs kds)
theorem Lk.refl (M : Mst) : Lk M M := fun _ _ _ _ h => h
theorem Lk.trans {M M1 M2 : Mst} (a : Lk M M1) (b : Lk M1 M2) : Lk M M2 := fun c ob vs kds h => b c ob vs kds (a c ob vs kds h)
/-- a dict at an address, changing or locked -/
def Dat (M : Mst) (a : Addr) (kds : List (Key × D)) : Prop := M a = some (.dct kds) ∨ ∃ ob vs, M a = some (.lok ob vs kds)
/-- from one state to a later one; what neither may change stands (at Lk: dicts that are locked meanwhile) -/
structure Frm (I : Hp) (M : Mst) (H : Hp) (I' : Hp) (M' : Mst) (H' : Hp) : Prop where
  ext : Ext I I'
  kept : ∀ a o, H a = some o → M a = none → H' a = some o
  apart : ∀ a o, H a = some o → I a = none → M a = none → I' a = none ∧ M' a = none
  there : ∀ a o, H a = some o → ∃ o', H' a = some o'
  lok : Lk M M'
theorem Frm.refl {I : Hp} {M : Mst} {H : Hp} : Frm I M H I M H := ⟨.refl I, fun _ _ h _ => h, fun _ _ _ h h' => ⟨h, h'⟩, fun a o h => ⟨o, h⟩, .refl M⟩
theorem Frm.trans {K : PySem.W.Frag} {G : Gam} {I I1 I2 : Hp} {M M1 M2 : Mst} {H H1 H2 : Hp} (g : Good K G I1 M1 H1) (a : Frm I M H I1 M1 H1) (b : Frm I1 M1 H1 I2 M2 H2) : Frm I M H I2 M2 H2 := by
  refine ⟨a.ext.trans b.ext, fun c o h1 h2 => ?_, fun c o h1 h2 h3 => ?_, fun c o h => ?_, a.lok.trans b.lok⟩
  · have hM : M1 c = none := by
      cases e : I c with
      | none => exact (a.apart c o h1 e h2).2
      | some u =>
        cases q : M1 c with
        | none => rfl
        | some mo =>
          have := (g.mst c mo q).1
          rw [a.ext c u e] at this
          cases this
    exact b.kept c o (a.kept c o h1 h2) hM
  · obtain ⟨e1, e2⟩ := a.apart c o h1 h2 h3
    obtain ⟨o', e3⟩ := a.there c o h1
    exact b.apart c o' e3 e1 e2
  · obtain ⟨o', e⟩ := a.there c o h
    exact b.there c o' e

section
variable {K : PySem.W.Frag} {G : Gam} {I : Hp} {M : Mst} {H : Hp} {p : Addr} {o : HO}
theorem Good.freeI (g : Good K G I M H) (n : H p = none) : I p = none := by
  cases e : I p with
  | none => rfl
  | some u =>
    have h := g.sub p u e
    rw [n] at h; cases h
theorem Good.freeM (g : Good K G I M H) (n : H p = none) : M p = none := by
  cases e : M p with
  | none => rfl
  | some u =>
    obtain ⟨_, o, h, _⟩ := g.mst p u e
    rw [n] at h; cases h
/-- a new thing that never changes -/
theorem Good.addI (g : Good K G I M H) (n : H p = none) (ok : (∃ xs, o = .lst xs) ∨ (∃ xs, o = .tup xs) ∨ (∃ xs, o = .dK xs) ∨ (∃ C dx fs, o = .ins C dx fs) ∨ ∃ ob u, o = .frz ob u) : Good K G (upd I p o) M (upd H p o) := by
  have nI := g.freeI n
  have ex : Ext I (upd I p o) := fun a u h => by rw [upd_ne (ne_of_none h nI)]; exact h
  refine ⟨fun a u h => ?_, fun a mo h => ?_, fun a u h => ?_⟩
  · by_cases e : a = p
    · subst e; rw [upd_same] at h; cases h; exact upd_same
    · rw [upd_ne e] at h ⊢; exact g.sub a u h
  · obtain ⟨h1, u, h2, h3⟩ := g.mst a mo h
    have e : a ≠ p := ne_of_none h2 n
    exact ⟨by rw [upd_ne e]; exact h1, u, by rw [upd_ne e]; exact h2, h3.ext ex⟩
  · by_cases e : a = p
    · subst e; rw [upd_same] at h; cases h; exact ok
    · rw [upd_ne e] at h; exact g.inI a u h
theorem Good.addI_frm (g : Good K G I M H) (n : H p = none) : Frm I M H (upd I p o) M (upd H p o) := by
  have nI := g.freeI n
  refine ⟨fun a u h => by rw [upd_ne (ne_of_none h nI)]; exact h, fun a u h _ => ?_, fun a u h h1 h2 => ⟨?_, h2⟩, fun a u h => ⟨u, ?_⟩, .refl M⟩
  · rw [upd_ne (ne_of_none h n)]; exact h
  · rw [upd_ne (ne_of_none h n)]; exact h1
  · rw [upd_ne (ne_of_none h n)]; exact h
/-- a thing of H alone, untracked by I and M -/
theorem Good.addH (g : Good K G I M H) (n : H p = none) : Good K G I M (upd H p o) := by
  refine ⟨fun a u h => ?_, fun a mo h => ?_, g.inI⟩
  · have e : a ≠ p := ne_of_none h (g.freeI n)
    rw [upd_ne e]; exact g.sub a u h
  · obtain ⟨h1, u, h2, h3⟩ := g.mst a mo h
    exact ⟨h1, u, by rw [upd_ne (ne_of_none h2 n)]; exact h2, h3⟩
theorem Good.addH_frm (g : Good K G I M H) (n : H p = none) : Frm I M H I M (upd H p o) :=
  ⟨.refl I, fun a u h _ => (by rw [upd_ne (ne_of_none h n)]; exact h), fun a u h h1 h2 => ⟨h1, h2⟩, fun a u h => ⟨u, by rw [upd_ne (ne_of_none h n)]; exact h⟩, .refl M⟩
/-- a new thing that changes -/
theorem Good.addM {mo : MO} (g : Good K G I M H) (n : H p = none) (r : MRep K G I mo o) : Good K G I (updM M p mo) (upd H p o) := by
  refine ⟨fun a u h => ?_, fun a m h => ?_, g.inI⟩
  · have e : a ≠ p := ne_of_none h (g.freeI n)
    rw [upd_ne e]; exact g.sub a u h
  · by_cases e : a = p
    · subst e; rw [updM_same] at h; cases h; exact ⟨g.freeI n, o, upd_same, r⟩
    · rw [updM_ne e] at h
      obtain ⟨h1, u, h2, h3⟩ := g.mst a m h
      exact ⟨h1, u, by rw [upd_ne e]; exact h2, h3⟩
theorem Good.addM_frm {mo : MO} (g : Good K G I M H) (n : H p = none) : Frm I M H I (updM M p mo) (upd H p o) :=
  ⟨.refl I, fun a u h _ => (by rw [upd_ne (ne_of_none h n)]; exact h), fun a u h h1 h2 => ⟨h1, by rw [updM_ne (ne_of_none h n)]; exact h2⟩, fun a u h => ⟨u, by rw [upd_ne (ne_of_none h n)]; exact h⟩, fun a ob vs kds h => by rw [updM_ne (fun z => by subst z; rw [g.freeM n] at h; cases h)]; exact h⟩
/-- a changing thing is changed -/
theorem Good.setM {mo mo' : MO} (g : Good K G I M H) (h : M p = some mo) (r : MRep K G I mo' o) : Good K G I (updM M p mo') (upd H p o) := by
  have nI := (g.mst p mo h).1
  refine ⟨fun a u h => ?_, fun a m h => ?_, g.inI⟩
  · have e : a ≠ p := ne_of_none h nI
    rw [upd_ne e]; exact g.sub a u h
  · by_cases e : a = p
    · subst e; rw [updM_same] at h; cases h; exact ⟨nI, o, upd_same, r⟩
    · rw [updM_ne e] at h
      obtain ⟨h1, u, h2, h3⟩ := g.mst a m h
      exact ⟨h1, u, by rw [upd_ne e]; exact h2, h3⟩
theorem Good.setM_frm {mo mo' : MO} (g : Good K G I M H) (h : M p = some mo) (nl : ∀ ob vs kds, mo ≠ .lok ob vs kds := by intro _ _ _ h; cases h) : Frm I M H I (updM M p mo') (upd H p o) := by
  refine ⟨.refl I, fun a u h1 h2 => ?_, fun a u h1 h2 h3 => ⟨h2, ?_⟩, fun a u h1 => ?_, fun a ob vs kds h1 => by rw [updM_ne (fun z => by subst z; rw [h] at h1; cases h1; exact nl _ _ _ rfl)]; exact h1⟩
  · have e : a ≠ p := fun z => by subst z; rw [h] at h2; cases h2
    rw [upd_ne e]; exact h1
  · have e : a ≠ p := fun z => by subst z; rw [h] at h3; cases h3
    rw [updM_ne e]; exact h3
  · by_cases e : a = p
    · subst e; exact ⟨o, upd_same⟩
    · exact ⟨u, by rw [upd_ne e]; exact h1⟩
/-- from here on it never changes -/
theorem Good.freeze {mo : MO} (g : Good K G I M H) (h : M p = some mo) (nl : ∀ ob vs kds, mo ≠ .lok ob vs kds := by intro _ _ _ h; cases h) : ∃ o, H p = some o ∧ MRep K G I mo o ∧ Good K G (upd I p o) (delM M p) H ∧ Frm I M H (upd I p o) (delM M p) H := by
  obtain ⟨nI, o, ho, r⟩ := g.mst p mo h
  have ex : Ext I (upd I p o) := fun a u h => by rw [upd_ne (ne_of_none h nI)]; exact h
  refine ⟨o, ho, r, ⟨fun a u h => ?_, fun a m h => ?_, fun a u h => ?_⟩, ex, fun a u h _ => h, fun a u h1 h2 h3 => ?_, fun a u h => ⟨u, h⟩, fun a ob vs kds h1 => by rw [delM_ne (fun z => by subst z; rw [h] at h1; cases h1; exact nl _ _ _ rfl)]; exact h1⟩
  · by_cases e : a = p
    · subst e; rw [upd_same] at h; cases h; exact ho
    · rw [upd_ne e] at h; exact g.sub a u h
  · have e : a ≠ p := fun z => by subst z; rw [delM_same] at h; cases h
    rw [delM_ne e] at h
    obtain ⟨h1, u, h2, h3⟩ := g.mst a m h
    exact ⟨by rw [upd_ne e]; exact h1, u, h2, h3.ext ex⟩
  · by_cases e : a = p
    · subst e; rw [upd_same] at h; cases h
      cases mo with
      | inst c fs => obtain ⟨dx, vfs, e, _⟩ := r; exact .inr (.inr (.inr (.inl ⟨_, _, _, e⟩)))
      | lst ds => obtain ⟨vs, e, _⟩ := r; exact .inl ⟨_, e⟩
      | dct kds => obtain ⟨kvs, e, _⟩ := r; exact .inr (.inr (.inl ⟨_, e⟩))
      | lok ob vs kds => exact (nl _ _ _ rfl).elim
    · rw [upd_ne e] at h; exact g.inI a u h
  · have e : a ≠ p := fun z => by subst z; rw [h] at h3; cases h3
    exact ⟨by rw [upd_ne e]; exact h2, by rw [delM_ne e]; exact h3⟩
/-- a dict that was changed is locked; it never changes from here on -/
theorem Good.freezeD {kds : List (Key × D)} {ob : Obj} {kvs : List (Key × V)} (g : Good K G I M H) (h : M p = some (.dct kds)) (ho : H p = some (.dK kvs)) :
    Good K G (upd I p (.frz ob (.dK kvs))) (delM M p) (upd H p (.frz ob (.dK kvs))) ∧ Frm I M H (upd I p (.frz ob (.dK kvs))) (delM M p) (upd H p (.frz ob (.dK kvs))) := by
  obtain ⟨nI, o, ho', r⟩ := g.mst p _ h
  have ex : Ext I (upd I p (.frz ob (.dK kvs))) := fun a u h => by rw [upd_ne (ne_of_none h nI)]; exact h
  refine ⟨⟨fun a u h => ?_, fun a m h => ?_, fun a u h => ?_⟩, ex, fun a o h1 h2 => ?_, fun a u h1 h2 h3 => ?_, fun a u h1 => ?_, fun a ob vs kds h1 => by rw [delM_ne (fun z => by subst z; rw [h] at h1; cases h1)]; exact h1⟩
  · by_cases e : a = p
    · subst e; rw [upd_same] at h; cases h; exact upd_same
    · rw [upd_ne e] at h ⊢; exact g.sub a u h
  · have e : a ≠ p := fun z => by subst z; rw [delM_same] at h; cases h
    rw [delM_ne e] at h
    obtain ⟨h1, u, h2, h3⟩ := g.mst a m h
    exact ⟨by rw [upd_ne e]; exact h1, u, by rw [upd_ne e]; exact h2, h3.ext ex⟩
  · by_cases e : a = p
    · subst e; rw [upd_same] at h; cases h; exact .inr (.inr (.inr (.inr ⟨_, _, rfl⟩)))
    · rw [upd_ne e] at h; exact g.inI a u h
  · have e : a ≠ p := fun z => by subst z; rw [h] at h2; cases h2
    rw [upd_ne e]; exact h1
  · have e : a ≠ p := fun z => by subst z; rw [h] at h3; cases h3
    exact ⟨by rw [upd_ne e]; exact h2, by rw [delM_ne e]; exact h3⟩
  · by_cases e : a = p
    · subst e; exact ⟨_, upd_same⟩
    · exact ⟨u, by rw [upd_ne e]; exact h1⟩
/-- a dict is locked for a while -/
theorem Good.lockD {kds : List (Key × D)} {ob : Obj} {vs : List (Key × V)} (g : Good K G I M H) (h : M p = some (.dct kds)) (r : RepK K G I kds vs) :
    Good K G I (updM M p (.lok ob vs kds)) (upd H p (.frz ob (.dK vs))) ∧ Frm I M H I (updM M p (.lok ob vs kds)) (upd H p (.frz ob (.dK vs))) :=
  ⟨g.setM h ⟨rfl, r⟩, g.setM_frm h⟩
/-- and unlocked -/
theorem Good.unlockD {kds : List (Key × D)} {ob : Obj} {vs : List (Key × V)} (g : Good K G I M H) (h : M p = some (.lok ob vs kds)) :
    H p = some (.frz ob (.dK vs)) ∧ Good K G I (updM M p (.dct kds)) (upd H p (.dK vs)) := by
  obtain ⟨nI, o, ho, rfl, r⟩ := g.mst p _ h
  exact ⟨ho, g.setM h ⟨vs, rfl, r⟩⟩
/-- over both -/
theorem Frm.unlockD {I1 : Hp} {M1 : Mst} {H1 : Hp} {kds kds' : List (Key × D)} {ob : Obj} {vs : List (Key × V)} {o o' : HO} (h : M p = some (.dct kds)) (f : Frm I (updM M p (.lok ob vs kds)) (upd H p o) I1 M1 H1) :
    Frm I M H I1 (updM M1 p (.dct kds')) (upd H1 p o') := by
  have ne : ∀ {a : Addr} {mo : Option MO}, M a = mo → mo ≠ some (.dct kds) → a ≠ p := fun e n z => by subst z; rw [h] at e; exact n e.symm
  refine ⟨f.ext, fun a u h1 h2 => ?_, fun a u h1 h2 h3 => ?_, fun a u h1 => ?_, fun a ob' ws ks h1 => ?_⟩
  · have e : a ≠ p := ne h2 (by intro z; cases z)
    rw [upd_ne e]
    exact f.kept a u (by rw [upd_ne e]; exact h1) (by rw [updM_ne e]; exact h2)
  · have e : a ≠ p := ne h3 (by intro z; cases z)
    have := f.apart a u (by rw [upd_ne e]; exact h1) h2 (by rw [updM_ne e]; exact h3)
    exact ⟨this.1, by rw [updM_ne e]; exact this.2⟩
  · by_cases e : a = p
    · subst e; exact ⟨o', upd_same⟩
    · obtain ⟨u', q⟩ := f.there a u (by rw [upd_ne e]; exact h1)
      exact ⟨u', by rw [upd_ne e]; exact q⟩
  · have e : a ≠ p := ne h1 (by intro z; cases z)
    rw [updM_ne e]
    exact f.lok a ob' ws ks (by rw [updM_ne e]; exact h1)
end
end PyD
set_option Elab.async false
set_option linter.all false
set_option maxRecDepth 100000
set_option maxHeartbeats 4000000
/-! # Readings over trees, and their soundness: the general part -/
namespace PyD
open PySem PySem.Spec L2

abbrev KD := D → Mst → Prop
abbrev ED := Nat → List (Nat × D) → Mst → Prop
abbrev SpD := List D → Mst → KD → ED → Prop
abbrev Slots := List (Option D)
/-- an expression's meaning over trees -/
abbrev TD := Slots → Mst → KD → ED → Prop
/-- an argument list's -/
abbrev TDs := Slots → Mst → (List D → Mst → Prop) → ED → Prop

/-- where a def was entered -/
structure Bs where
  I : Hp
  M : Mst
  H : Hp

section
variable (K : PySem.W.Frag) (G : Gam)
def EnvRep (I : Hp) (σ : St) (ρ : Slots) : Prop := ρ.length = σ.length ∧ ∀ (i : Nat) (d : D), ρ[i]? = some (some d) → ∃ v, σ[i]? = some (some v) ∧ Rep K G I d v
structure SR (B : Bs) (σ : St) (H : Hp) (ρ : Slots) (M : Mst) (I : Hp) : Prop where
  env : EnvRep K G I σ ρ
  good : Good K G I M H
  frm : Frm B.I B.M B.H I M H
/-- an exception: its class, the dict of its fields -/
def ERep (I H : Hp) (c : Nat) (fs : List (Nat × D)) (cls : Value) (dx : Option Addr) : Prop :=
  cls = .ref (G.cl c) ∧ ((fs = [] ∧ dx = none) ∨ ∃ d vfs, dx = some d ∧ H d = some (.xd vfs) ∧ RepF K G I fs vfs)
def OkC (B : Bs) (σ : St) (ρ : Slots) (I : Hp) (K1 : KD) (Q : VK) : Prop :=
  ∀ d M' v H' I', K1 d M' → Ext I I' → SR K G B σ H' ρ M' I' → Rep K G I' d v → Q v H'
def OkCs (B : Bs) (σ : St) (ρ : Slots) (I : Hp) (K1 : List D → Mst → Prop) (Q : List V → Hp → Prop) : Prop :=
  ∀ ds M' vs H' I', K1 ds M' → Ext I I' → SR K G B σ H' ρ M' I' → Reps K G I' ds vs → Q vs H'
def ErC (B : Bs) (W : WX) (σ : St) (ρ : Slots) (E1 : ED) : Prop :=
  ∀ c fs M' cls dx H' I', E1 c fs M' → SR K G B σ H' ρ M' I' → ERep K G I' H' c fs cls dx → W cls dx σ H'
def TEx (B : Bs) (W : WX) (t : TD) : TE := fun σ H Q => ∃ ρ M I K1 E1, SR K G B σ H ρ M I ∧ t ρ M K1 E1 ∧ OkC K G B σ ρ I K1 Q ∧ ErC K G B W σ ρ E1
def TAx (B : Bs) (W : WX) (t : TDs) : TA := fun σ H Q => ∃ ρ M I K1 E1, SR K G B σ H ρ M I ∧ t ρ M K1 E1 ∧ OkCs K G B σ ρ I K1 Q ∧ ErC K G B W σ ρ E1
/-- a test -/
def TTx (B : Bs) (W : WX) (t : TD) : TT := fun σ H Q => ∃ ρ M I K1 E1, SR K G B σ H ρ M I ∧ t ρ M K1 E1 ∧
  (∀ d M' H' I', K1 d M' → Ext I I' → SR K G B σ H' ρ M' I' → ∃ b, d = .bl b ∧ Q b H') ∧ ErC K G B W σ ρ E1
/-- behind a value -/
def TEd (B : Bs) (W : WX) (t : D → TD) (x : V) : St → Hp → VK → Prop := fun σ H Q => ∃ ρ M I K1 E1 d, SR K G B σ H ρ M I ∧ Rep K G I d x ∧ t d ρ M K1 E1 ∧ OkC K G B σ ρ I K1 Q ∧ ErC K G B W σ ρ E1
def TEd2 (B : Bs) (W : WX) (t : D → D → TD) (x y : V) : St → Hp → VK → Prop := fun σ H Q => ∃ ρ M I K1 E1 d e, SR K G B σ H ρ M I ∧ Rep K G I d x ∧ Rep K G I e y ∧ t d e ρ M K1 E1 ∧ OkC K G B σ ρ I K1 Q ∧ ErC K G B W σ ρ E1
def TEds (B : Bs) (W : WX) (t : List D → TD) (xs : List V) : St → Hp → VK → Prop := fun σ H Q => ∃ ρ M I K1 E1 ds, SR K G B σ H ρ M I ∧ Reps K G I ds xs ∧ t ds ρ M K1 E1 ∧ OkC K G B σ ρ I K1 Q ∧ ErC K G B W σ ρ E1
end
/-- one behind another -/
def bindD (a : TD) (f : D → TD) : TD := fun ρ M K E => a ρ M (fun d M1 => f d ρ M1 K E) E
def bind2 (a b : TD) (f : D → D → TD) : TD := bindD a fun d => bindD b fun e => f d e
def bindDs (a : TDs) (f : List D → TD) : TD := fun ρ M K E => a ρ M (fun ds M1 => f ds ρ M1 K E) E
def consD (a : TD) (b : TDs) : TDs := fun ρ M K E => a ρ M (fun d M1 => b ρ M1 (fun ds M2 => K (d :: ds) M2) E) E
def nilD : TDs := fun _ M K _ => K [] M

section
variable {K : PySem.W.Frag} {G : Gam} {B : Bs} {W : WX} {σ : St} {H : Hp} {ρ : Slots} {M : Mst} {I I' : Hp} {K1 : KD} {E1 : ED} {Q : VK}
theorem OkC.mono (h : OkC K G B σ ρ I K1 Q) (e : Ext I I') : OkC K G B σ ρ I' K1 Q := fun d M' v H' J k x s r => h d M' v H' J k (e.trans x) s r
theorem SR.set (s : SR K G B σ H ρ M I) {i : Nat} {d : D} {v : V} (r : Rep K G I d v) : SR K G B (σ.set i (some v)) H (ρ.set i (some d)) M I := by
  obtain ⟨⟨l, e⟩, g, f⟩ := s
  refine ⟨⟨by simp [l], fun j x h => ?_⟩, g, f⟩
  by_cases c : j = i
  · subst c
    have lt : j < ρ.length := by
      have := List.getElem?_eq_some_iff.mp h
      obtain ⟨q, _⟩ := this
      simpa using q
    rw [List.getElem?_set_self lt] at h
    cases h
    exact ⟨v, by rw [List.getElem?_set_self (by omega)], r⟩
  · rw [List.getElem?_set_ne (Ne.symm c)] at h ⊢
    exact e j x h
theorem SR.step (s : SR K G B σ H ρ M I) {H' : Hp} {M' : Mst} (g : Good K G I' M' H') (f : Frm I M H I' M' H') : SR K G B σ H' ρ M' I' := by
  obtain ⟨⟨l, e⟩, g0, f0⟩ := s
  exact ⟨⟨l, fun j x h => let ⟨v, a, b⟩ := e j x h; ⟨v, a, b.ext f.ext⟩⟩, g, f0.trans g0 f⟩
theorem tex_bind {a : TD} {f : D → TD} (h : TEx K G B W (bindD a f) σ H Q) : TEx K G B W a σ H fun x H1 => TEd K G B W f x σ H1 Q := by
  obtain ⟨ρ, M, I, K1, E1, s, t, ok, er⟩ := h
  exact ⟨ρ, M, I, _, E1, s, t, fun d M' v H' I' k e s' r => ⟨ρ, M', I', K1, E1, d, s', r, k, ok.mono e, er⟩, er⟩
theorem tex_bind2 {a b : TD} {f : D → D → TD} (h : TEx K G B W (bind2 a b f) σ H Q) : TEx K G B W a σ H fun x H1 => TEx K G B W b σ H1 fun y H2 => TEd2 K G B W f x y σ H2 Q := by
  obtain ⟨ρ, M, I, K1, E1, s, t, ok, er⟩ := h
  exact ⟨ρ, M, I, _, E1, s, t, fun d M' v H' I' k e s' r => ⟨ρ, M', I', _, E1, s', k, fun d2 M2 v2 H2 I2 k2 e2 s2 r2 => ⟨ρ, M2, I2, K1, E1, d, d2, s2, r.ext e2, r2, k2, ok.mono (e.trans e2), er⟩, er⟩, er⟩
theorem tex_binds {a : TDs} {f : List D → TD} (h : TEx K G B W (bindDs a f) σ H Q) : TAx K G B W a σ H fun xs H1 => TEds K G B W f xs σ H1 Q := by
  obtain ⟨ρ, M, I, K1, E1, s, t, ok, er⟩ := h
  exact ⟨ρ, M, I, _, E1, s, t, fun ds M' vs H' I' k e s' r => ⟨ρ, M', I', K1, E1, ds, s', r, k, ok.mono e, er⟩, er⟩
end

/-- operations by values -/
def Op1 (X : Cx) (G : Gam) (B : Bs) (W : WX) (f : Value → Sem Value) (t : D → TD) : Prop :=
  ∀ pins s σ H Q x v, Inv X pins σ H s → RelV x v → TEd X.K G B W t x σ H Q → wpAny (model X.prog X.w) X.A (f v) (EP X pins σ Q) X.xe s
def Op2 (X : Cx) (G : Gam) (B : Bs) (W : WX) (f : Value → Value → Sem Value) (t : D → D → TD) : Prop :=
  ∀ pins s σ H Q x y v u, Inv X pins σ H s → RelV x v → RelV y u → TEd2 X.K G B W t x y σ H Q → wpAny (model X.prog X.w) X.A (f v u) (EP X pins σ Q) X.xe s
def OpN (X : Cx) (G : Gam) (B : Bs) (W : WX) (f : List Value → Sem Value) (t : List D → TD) : Prop :=
  ∀ pins s σ H Q xs us, Inv X pins σ H s → Vals xs us → TEds X.K G B W t xs σ H Q → wpAny (model X.prog X.w) X.A (f us) (EP X pins σ Q) X.xe s
section
variable {X : Cx} {G : Gam} {B : Bs} {W : WX}
theorem PE.imp {e : Expr} {t t' : TE} (h : PE X e t) (k : ∀ σ H Q, t' σ H Q → t σ H Q) : PE X e t' := ⟨fun pins s σ H Q I q => h.run pins s σ H Q I (k σ H Q q)⟩
theorem PT.imp {e : Expr} {t t' : TT} (h : PT X e t) (k : ∀ σ H Q, t' σ H Q → t σ H Q) : PT X e t' := ⟨fun pins s σ H Q I q => h.run pins s σ H Q I (k σ H Q q)⟩
theorem PA.imp {e : List Expr} {t t' : TA} (h : PA X e t) (k : ∀ σ H Q, t' σ H Q → t σ H Q) : PA X e t' := ⟨fun pos pins s σ H Q I q => h.run pos pins s σ H Q I (k σ H Q q)⟩
theorem pd_bin {a b : Expr} {ta tb : TD} {f : D → D → TD} {op : Operator} {pos : Pos} (ha : PE X a (TEx X.K G B W ta)) (hb : PE X b (TEx X.K G B W tb)) (ho : Op2 X G B W (binaryOp op) f) :
    PE X (.BinOp a op b pos) (TEx X.K G B W (bind2 ta tb f)) := by
  refine ⟨fun pins s σ H Q I h => wpAny_BinOp (L2.bin ha hb I (tex_bind2 h) fun v u s2 x y H2 I2 rx ry q => ?_)⟩
  exact ho pins s2 σ H2 Q x y v u I2 rx ry q
theorem pd_cmp {a b : Expr} {ta tb : TD} {f : D → D → TD} {op : CmpOp} {pos : Pos} (ha : PE X a (TEx X.K G B W ta)) (hb : PE X b (TEx X.K G B W tb)) (ho : Op2 X G B W (compareOp op) f) (hm : behindInMarks op b = false) :
    PE X (.Compare a [op] [b] pos) (TEx X.K G B W (bind2 ta tb f)) := by
  refine ⟨fun pins s σ H Q I h => wpAny_Compare1 (L2.bin ha hb I (tex_bind2 h) fun v u s2 x y H2 I2 rx ry q => ?_) hm⟩
  exact ho pins s2 σ H2 Q x y v u I2 rx ry q
theorem pd_nil : PA X [] (TAx X.K G B W nilD) := by
  refine PA.imp pa_nil fun σ H Q h => ?_
  obtain ⟨ρ, M, I, K1, E1, s, t, ok, er⟩ := h
  exact ok [] M [] H I t (.refl I) s .nil
theorem pd_cons {e : Expr} {es : List Expr} {te : TD} {t : TDs} (ha : PE X e (TEx X.K G B W te)) (hr : PA X es (TAx X.K G B W t)) (hs : starEach (e :: es) X.env = (false, eval e X.env) :: starEach es X.env) :
    PA X (e :: es) (TAx X.K G B W (consD te t)) := by
  refine PA.imp (pa_cons ha hr hs) fun σ H Q h => ?_
  obtain ⟨ρ, M, I, K1, E1, s, q, ok, er⟩ := h
  exact ⟨ρ, M, I, _, E1, s, q, fun d M' v H' I' k e s' r => ⟨ρ, M', I', _, E1, s', k, fun ds M2 vs H2 I2 k2 e2 s2 r2 => ok _ _ _ _ _ k2 (e.trans e2) s2 (.cons (r.ext e2) r2), er⟩, er⟩
/-! names, constants -/
def varD (i : Nat) : TD := fun ρ M K _ => match ρ[i]? with
  | some (some d) => K d M
  | _ => False
def conD (d : D) : TD := fun _ M K _ => K d M
theorem pd_var {i : Nat} {x : Str} {pos : Pos} (h : PE X (.Name x pos) (tVar i)) : PE X (.Name x pos) (TEx X.K G B W (varD i)) := by
  refine PE.imp h fun σ H Q h => ?_
  obtain ⟨ρ, M, I, K1, E1, s, q, ok, er⟩ := h
  unfold varD at q
  split at q
  · rename_i d e
    obtain ⟨v, h1, h2⟩ := s.env.2 i d e
    exact ⟨v, h1, ok d M v H I q (.refl I) s h2⟩
  · exact q.elim
theorem pd_con {e : Expr} {d : D} {v : V} (h : PE X e (tC v)) (r : ∀ I, Rep X.K G I d v) : PE X e (TEx X.K G B W (conD d)) := by
  refine PE.imp h fun σ H Q h => ?_
  obtain ⟨ρ, M, I, K1, E1, s, q, ok, er⟩ := h
  exact ok d M v H I q (.refl I) s (r I)
/-! displays -/
def tupD (ds : List D) : TD := fun _ M K _ => ds.length ≤ 1000000 ∧ K (.tup ds) M
def lstD (ds : List D) : TD := fun _ M K _ => ds.length ≤ 1000000 ∧ K (.lst ds) M
/-- a list that will change -/
def mlstD (ds : List D) : TD := fun _ M K _ => ds.length ≤ 1000000 ∧ ∀ a, M a = none → K (.loc a) (updM M a (.lst ds))
theorem line_le {n : Nat} (h : n ≤ 1000000) : n ≤ sizeLine := by rw [sizeLine_eq]; omega
theorem pd_tup {es : List Expr} {t : TDs} {x1 pos} (h : PA X es (TAx X.K G B W t)) : PE X (.Tuple es x1 pos) (TEx X.K G B W (bindDs t tupD)) := by
  refine PE.imp (pe_tup h) fun σ H Q h => ?_
  obtain ⟨ρ, M, I, K1, E1, s, q, ok, er⟩ := h
  refine ⟨ρ, M, I, _, E1, s, q, fun ds M' vs H' I' k e s' r => ⟨?_, fun p np => ?_⟩, er⟩
  · rw [r.length]; exact line_le k.1
  · have n := s'.good.freeI np
    exact ok _ _ _ _ (upd I' p (.tup vs)) k.2 (e.trans (s'.good.addI_frm np).ext) (s'.step (s'.good.addI np (.inr (.inl ⟨_, rfl⟩))) (s'.good.addI_frm np)) (by
      unfold Rep; exact ⟨p, vs, rfl, .of upd_same, r.ext (s'.good.addI_frm (o := .tup vs) np).ext⟩)
theorem pd_lst {es : List Expr} {t : TDs} {pos} (h : PA X es (TAx X.K G B W t)) : PE X (.List es pos) (TEx X.K G B W (bindDs t lstD)) := by
  refine PE.imp (pe_lst h) fun σ H Q h => ?_
  obtain ⟨ρ, M, I, K1, E1, s, q, ok, er⟩ := h
  refine ⟨ρ, M, I, _, E1, s, q, fun ds M' vs H' I' k e s' r => ⟨?_, fun p np => ?_⟩, er⟩
  · rw [r.length]; exact line_le k.1
  · exact ok _ _ _ _ (upd I' p (.lst vs)) k.2 (e.trans (s'.good.addI_frm np).ext) (s'.step (s'.good.addI np (.inl ⟨_, rfl⟩)) (s'.good.addI_frm np)) (by
      unfold Rep; exact ⟨p, vs, rfl, .of upd_same, r.ext (s'.good.addI_frm (o := .lst vs) np).ext⟩)
theorem pd_mlst {es : List Expr} {t : TDs} {pos} (h : PA X es (TAx X.K G B W t)) : PE X (.List es pos) (TEx X.K G B W (bindDs t mlstD)) := by
  refine PE.imp (pe_lst h) fun σ H Q h => ?_
  obtain ⟨ρ, M, I, K1, E1, s, q, ok, er⟩ := h
  refine ⟨ρ, M, I, _, E1, s, q, fun ds M' vs H' I' k e s' r => ⟨?_, fun p np => ?_⟩, er⟩
  · rw [r.length]; exact line_le k.1
  · refine ok _ _ _ _ I' (k.2 p (s'.good.freeM np)) e (s'.step (s'.good.addM np ?_) (s'.good.addM_frm np)) ?_
    · unfold MRep; exact ⟨vs, rfl, r⟩
    · unfold Rep; rfl
end
end PyD
set_option Elab.async false
set_option linter.all false
set_option autoImplicit false
set_option maxRecDepth 100000
set_option maxHeartbeats 4000000
/-! # Defs and statements over trees -/
namespace PyD
open PySem PySem.Spec L2

def spT (sd : SpD) : List D → TD := fun ds _ M K E => sd ds M K E
/-- what is at f keeps sd: called with so many positional values and the keywords ks -/
structure FnD (P : Program) (w : World) (K : PySem.W.Frag) (mg : Str → Option Value) (base : Heap) (G : Gam) (k : Nat) (f : Value) (ks : List Str) (sd : SpD) : Prop where
  run : ∀ (A : Around) (outer : List Env) (s : Shared) (H : Hp) (us ws : List Value) (vs : List V) (ds : List D) (M : Mst) (I : Hp) (K1 : KD) (E1 : ED) (Q : VK) (E : XK),
    Room k A → A.guards = some [] → Env0 P w K mg base A outer s H → Vals vs (us ++ ws) → ws.length = ks.length → Good K G I M H → Reps K G I ds vs → sd ds M K1 E1 →
    (∀ d M' v H' I', K1 d M' → Good K G I' M' H' → Frm I M H I' M' H' → Rep K G I' d v → Q v H') →
    (∀ c fs M' cls dx H' I', E1 c fs M' → Good K G I' M' H' → Frm I M H I' M' H' → ERep K G I' H' c fs cls dx → E cls dx H') →
    codeAny (model P w) A (.call f ⟨us, ks.zip ws⟩) (CR (CX P w) outer P w H s Q E) s
section
variable {P : Program} {w : World} {K : PySem.W.Frag} {mg : Str → Option Value} {base : Heap} {G : Gam} {k j : Nat} {f : Value} {ks : List Str} {sd sd' : SpD}
theorem FnD.mono (F : FnD P w K mg base G j f ks sd) (h : j ≤ k) : FnD P w K mg base G k f ks sd :=
  ⟨fun A outer s H us ws vs ds M I K1 E1 Q E hr => F.run A outer s H us ws vs ds M I K1 E1 Q E (hr.mono h)⟩
theorem FnD.imp (F : FnD P w K mg base G k f ks sd) (h : ∀ ds M K1 E1, sd' ds M K1 E1 → sd ds M K1 E1) : FnD P w K mg base G k f ks sd' :=
  ⟨fun A outer s H us ws vs ds M I K1 E1 Q E hr hg e0 r hl g r2 hs => F.run A outer s H us ws vs ds M I K1 E1 Q E hr hg e0 r hl g r2 (h _ _ _ _ hs)⟩
end
section
variable {X : Cx} {G : Gam} {B : Bs} {W : WX} {k : Nat} {f : Value} {ks : List Str} {sd : SpD}
/-- it is called, anywhere within the body -/
theorem FnD.call {A : Around} {pins : List (Addr × Obj)} {s : Shared} {σ : L2.St} {H : Hp} {Q : VK} {xs : List V} {us ws : List Value} (F : FnD X.prog X.w X.K X.mg X.base G k f ks sd) (hr : Room k A) (hg : A.guards = some []) (hf : A.frames = some X.stack)
    (tk : Takes X W) (I : L2.Inv X pins σ H s) (r : Vals xs (us ++ ws)) (hl : ws.length = ks.length) (t : TEds X.K G B W (spT sd) xs σ H Q) : wpAny (model X.prog X.w) A (PySem.call f us (ks.zip ws)) (EP X pins σ Q) X.xe s := by
  obtain ⟨ρ, M, J, K1, E1, ds, sr, r2, t, ok, er⟩ := t
  have e0 := I.env0
  have e1 : Env0 X.prog X.w X.K X.mg X.base A X.stack s H := ⟨hf, e0.mod, e0.bs, e0.bsz, e0.funs, e0.frf, e0.hok, e0.bare⟩
  refine wpAny_call (codeAny_mono (F.run A X.stack s H us ws xs ds M J K1 E1 Q (fun cls dx H' => W cls dx σ H') hr hg e1 r hl sr.good r2 t (fun d M' v H' I' h g fr q => ok d M' v H' I' h fr.ext (sr.step g fr) q)
    (fun c fs M' cls dx H' I' h g fr q => er c fs M' cls dx H' I' h (sr.step g fr) q)) fun z s' hq => ?_)
  cases z with
  | error e => exact tk e s' (XE.of_call I (fun _ _ _ h => h) hq)
  | ok fl =>
    cases fl with
    | ret u => exact I.after hq
    | next => exact False.elim hq
    | brk => exact False.elim hq
    | cont => exact False.elim hq
end

/-! ## statements -/
structure EndD where
  nx : Slots → Mst → Prop
  rt : KD
  bk : Slots → Mst → Prop := fun _ _ => False
  ct : Slots → Mst → Prop := fun _ _ => False
  er : Nat → List (Nat × D) → Slots → Mst → Prop := fun _ _ _ _ => False
abbrev TSd := Slots → Mst → EndD → Prop
section
variable (K : PySem.W.Frag) (G : Gam)
structure EndOk (B : Bs) (W : WX) (En : EndD) (D : Ends) : Prop where
  nx : ∀ ρ M σ H I, En.nx ρ M → SR K G B σ H ρ M I → D.nx σ H
  bk : ∀ ρ M σ H I, En.bk ρ M → SR K G B σ H ρ M I → D.bk σ H
  ct : ∀ ρ M σ H I, En.ct ρ M → SR K G B σ H ρ M I → D.ct σ H
  rt : ∀ d ρ M σ H I v, En.rt d M → SR K G B σ H ρ M I → Rep K G I d v → D.rt v H
  er : ∀ c fs ρ M σ H I cls dx, En.er c fs ρ M → SR K G B σ H ρ M I → ERep K G I H c fs cls dx → W cls dx σ H
def TSx (B : Bs) (W : WX) (t : TSd) : TS := fun D σ H => ∃ ρ M I En, SR K G B σ H ρ M I ∧ t ρ M En ∧ EndOk K G B W En D
end
def nextS : TSd := fun ρ M En => En.nx ρ M
def seqS (t u : TSd) : TSd := fun ρ M En => t ρ M { En with nx := fun ρ' M' => u ρ' M' En }
def erE (En : EndD) (ρ : Slots) : ED := fun c fs M => En.er c fs ρ M
def asgS (i : Nat) (t : TD) : TSd := fun ρ M En => t ρ M (fun d M' => En.nx (ρ.set i (some d)) M') (erE En ρ)
def retS (t : TD) : TSd := fun ρ M En => t ρ M En.rt (erE En ρ)
def retnS : TSd := fun _ M En => En.rt .non M
def dropS (t : TD) : TSd := fun ρ M En => t ρ M (fun _ M' => En.nx ρ M') (erE En ρ)
/-- on, by a truth -/
def brb (b : Bool) (P Q : Prop) : Prop := match b with
  | true => P
  | false => Q
def br (d : D) (P Q : Prop) : Prop := match d with
  | .bl b => brb b P Q
  | _ => False
theorem br_ok {d : D} {P Q : Prop} (h : br d P Q) : ∃ b, d = .bl b ∧ brb b P Q := by
  unfold br at h
  split at h
  · exact ⟨_, rfl, h⟩
  · exact h.elim
def iteS (c : TD) (t u : TSd) : TSd := fun ρ M En => c ρ M (fun d M' => br d (t ρ M' En) (u ρ M' En)) (erE En ρ)
/-- a while, by so many turns -/
def whlS (c : TD) (t : TSd) : Nat → TSd
  | 0 => fun _ _ _ => False
  | n + 1 => fun ρ M En => c ρ M (fun d M' => br d (t ρ M' { En with nx := fun ρ2 M2 => whlS c t n ρ2 M2 En, ct := fun ρ2 M2 => whlS c t n ρ2 M2 En, bk := En.nx }) (En.nx ρ M')) (erE En ρ)
/-- a for, over items -/
def forS (g : D → Slots → Option Slots) (t : TSd) : List D → TSd
  | [] => fun ρ M En => En.nx ρ M
  | d :: ds => fun ρ M En => match g d ρ with
    | some ρ1 => t ρ1 M { En with nx := fun ρ2 M2 => forS g t ds ρ2 M2 En, ct := fun ρ2 M2 => forS g t ds ρ2 M2 En, bk := En.nx }
    | none => False
section
variable {X : Cx} {G : Gam} {B : Bs} {W : WX}
theorem PS.imp {st : Stmt} {t t' : TS} (h : PS X st t) (k : ∀ D σ H, t' D σ H → t D σ H) : PS X st t' := ⟨fun pins s σ H D I q => h.run pins s σ H D I (k D σ H q)⟩
theorem PSs.imp {st : List Stmt} {t t' : TS} (h : PSs X st t) (k : ∀ D σ H, t' D σ H → t D σ H) : PSs X st t' := ⟨fun pins s σ H D I q => h.run pins s σ H D I (k D σ H q)⟩
theorem erC {K : PySem.W.Frag} {En : EndD} {D : Ends} {σ : L2.St} {ρ : Slots} (h : EndOk K G B W En D) : ErC K G B W σ ρ (erE En ρ) := fun c fs M' cls dx H' I' e s r => h.er c fs ρ M' σ H' I' cls dx e s r
theorem pds_nil : PSs X [] (TSx X.K G B W nextS) := PSs.imp pss_nil fun D σ H ⟨ρ, M, I, En, s, t, ok⟩ => ok.nx _ _ _ _ _ t s
theorem pds_cons {st : Stmt} {rest : List Stmt} {t u : TSd} (h1 : PS X st (TSx X.K G B W t)) (h2 : PSs X rest (TSx X.K G B W u)) : PSs X (st :: rest) (TSx X.K G B W (seqS t u)) := by
  refine PSs.imp (pss_cons h1 h2) fun D σ H ⟨ρ, M, I, En, s, t, ok⟩ => ?_
  exact ⟨ρ, M, I, _, s, t, ⟨fun ρ' M' σ' H' I' h s' => ⟨ρ', M', I', En, s', h, ok⟩, ok.bk, ok.ct, ok.rt, ok.er⟩⟩
theorem pds_never {st : Stmt} : PS X st (TSx X.K G B W fun _ _ _ => False) := ⟨fun _ _ _ _ _ _ ⟨_, _, _, _, _, h, _⟩ => h.elim⟩
theorem pds_pass {pos : Pos} : PS X (.Pass pos) (TSx X.K G B W nextS) := PS.imp ps_pass fun D σ H ⟨ρ, M, I, En, s, t, ok⟩ => ok.nx _ _ _ _ _ t s
theorem pds_break {pos : Pos} : PS X (.Break pos) (TSx X.K G B W fun ρ M En => En.bk ρ M) := PS.imp ps_break fun D σ H ⟨ρ, M, I, En, s, t, ok⟩ => ok.bk _ _ _ _ _ t s
theorem pds_asg {i : Nat} {x : Str} {e : Expr} {t : TD} {pos pos' : Pos} (hN : X.N.Nodup) (hi : X.N[i]? = some x) (hx : Loc X.env.scope x) (he : PE X e (TEx X.K G B W t)) (hs : swapsWith e (some (.Name x pos')) pos.line X.env = pure false)
    (hf : X.fn x = true ∨ X.env.scope.names.lookup x = some .local) : PS X (.Assign [.Name x pos'] e pos) (TSx X.K G B W (asgS i t)) := by
  refine PS.imp (ps_set hN hi hx he hs hf) fun D σ H ⟨ρ, M, I, En, s, t, ok⟩ => ?_
  exact ⟨ρ, M, I, _, _, s, t, fun d M' v H' I' k e s' r => ok.nx _ _ _ _ I' k (s'.set r), erC ok⟩
theorem pds_ret {e : Expr} {t : TD} {pos : Pos} (he : PE X e (TEx X.K G B W t)) : PS X (.Return (some e) pos) (TSx X.K G B W (retS t)) := by
  refine PS.imp (ps_ret he) fun D σ H ⟨ρ, M, I, En, s, t, ok⟩ => ?_
  exact ⟨ρ, M, I, _, _, s, t, fun d M' v H' I' k e s' r => ok.rt d ρ M' σ H' I' v k s' r, erC ok⟩
theorem pds_retn {pos : Pos} : PS X (.Return none pos) (TSx X.K G B W retnS) := PS.imp ps_retN fun D σ H ⟨ρ, M, I, En, s, t, ok⟩ => ok.rt .non ρ M σ H I _ t s (by unfold Rep; rfl)
theorem pds_drop {e : Expr} {t : TD} {pos : Pos} (he : PE X e (TEx X.K G B W t)) (hs : swapsWith e none pos.line X.env = pure false) : PS X (.Expr e pos) (TSx X.K G B W (dropS t)) := by
  refine PS.imp (ps_expr he hs) fun D σ H ⟨ρ, M, I, En, s, t, ok⟩ => ?_
  exact ⟨ρ, M, I, _, _, s, t, fun d M' v H' I' k e s' r => ok.nx _ _ _ _ I' k s', erC ok⟩
theorem pds_if {c : Expr} {a b : List Stmt} {tc : TD} {t u : TSd} {pos : Pos} (hc : PT X c (TTx X.K G B W tc)) (ha : PSs X a (TSx X.K G B W t)) (hb : PSs X b (TSx X.K G B W u)) : PS X (.If c a b pos) (TSx X.K G B W (iteS tc t u)) := by
  refine PS.imp (ps_if hc ha hb) fun D σ H ⟨ρ, M, I, En, s, t, ok⟩ => ?_
  refine ⟨ρ, M, I, _, _, s, t, fun d M' H' I' k e s' => ?_, erC ok⟩
  obtain ⟨b, rfl, k⟩ := br_ok k
  cases b with
  | true => exact ⟨true, rfl, iteT ⟨ρ, M', I', En, s', k, ok⟩⟩
  | false => exact ⟨false, rfl, iteF ⟨ρ, M', I', En, s', k, ok⟩⟩
theorem pds_while {c : Expr} {b : List Stmt} {tc : TD} {t : TSd} {pos : Pos} (hp : PassesOwn (model X.prog X.w) X.A X.env X.xe) (hc : PT X c (TTx X.K G B W tc)) (hb : PSs X b (TSx X.K G B W t)) :
    PS X (.While c b [] pos) (TSx X.K G B W fun ρ M En => ∃ n, whlS tc t n ρ M En) := by
  refine PS.imp (ps_while hp hc hb) fun D σ H ⟨ρ, M, I, En, s, ⟨n, h⟩, ok⟩ => ?_
  refine ⟨fun m σ1 H1 => ∃ ρ1 M1 I1, SR X.K G B σ1 H1 ρ1 M1 I1 ∧ whlS tc t m ρ1 M1 En, ⟨n, ρ, M, I, s, h⟩, ?_⟩
  rintro m σ1 H1 ⟨ρ1, M1, I1, s1, h1⟩
  cases m with
  | zero => exact h1.elim
  | succ m =>
    refine ⟨ρ1, M1, I1, _, _, s1, h1, fun d M' H' I' k e s' => ?_, erC ok⟩
    obtain ⟨b, rfl, k⟩ := br_ok k
    cases b with
    | true =>
      refine ⟨true, rfl, ?_⟩
      refine iteT ⟨fun σ2 H2 => ∃ ρ2 M2 I2, SR X.K G B σ2 H2 ρ2 M2 I2 ∧ whlS tc t m ρ2 M2 En, fun σ2 H2 q => ⟨m, Nat.lt_succ_self m, q⟩, ρ1, M', I', _, s', k, ?_⟩
      exact ⟨fun ρ2 M2 σ2 H2 I2 q s2 => ⟨ρ2, M2, I2, s2, q⟩, fun ρ2 M2 σ2 H2 I2 q s2 => ok.nx _ _ _ _ _ q s2, fun ρ2 M2 σ2 H2 I2 q s2 => ⟨ρ2, M2, I2, s2, q⟩, ok.rt, ok.er⟩
    | false => exact ⟨false, rfl, iteF (ok.nx _ _ _ _ I' k s')⟩
end
end PyD
set_option Elab.async false
set_option linter.all false
set_option autoImplicit false
set_option maxRecDepth 100000
set_option maxHeartbeats 4000000
/-! # A def by its body; loops; stores -/
namespace PyD
open PySem PySem.Spec L2

def startD (N : List Str) (ds : List D) : Slots := ds.map some ++ List.replicate (N.length - ds.length) none
theorem startD_ok {K : PySem.W.Frag} {G : Gam} {I : Hp} {N : List Str} {ds : List D} {vs : List V} (r : Reps K G I ds vs) : EnvRep K G I (L2.start N vs) (startD N ds) := by
  have l := r.length
  refine ⟨by simp [startD, L2.start, l], fun i d h => ?_⟩
  unfold startD at h
  unfold L2.start
  by_cases hi : i < ds.length
  · rw [List.getElem?_append_left (by simpa using hi), List.getElem?_map] at h
    rw [List.getElem?_append_left (by simpa [l] using hi), List.getElem?_map]
    cases e : ds[i]? with
    | none => rw [e] at h; cases h
    | some x =>
      rw [e] at h
      cases h
      obtain ⟨v, h1, h2⟩ := r.get e
      exact ⟨v, by rw [h1]; rfl, h2⟩
  · rw [List.getElem?_append_right (by simpa using hi), List.getElem?_replicate] at h
    split at h <;> cases h
/-- how the values of a call come to the parameters -/
def ArgOk (K : PySem.W.Frag) (G : Gam) (fd : FuncData) (ps ks : List Str) (n : Nat) (gD : List D → List D) : Prop :=
  ∀ (s : Shared) (us ws : List Value) (vs : List V) (ds : List D) (I : Hp), K.In s.heap → us.length = n → ws.length = ks.length → Vals vs (us ++ ws) → Reps K G I ds vs →
    ∃ bs vbs, BindsTo s fd ⟨us, ks.zip ws⟩ (ps.zip bs) ∧ Vals vbs bs ∧ vbs.length = ps.length ∧ Reps K G I (gD ds) vbs
theorem argOk_pos {K : PySem.W.Frag} {G : Gam} {fd : FuncData} {ps : List Str} (b : Binds K fd ps []) : ArgOk K G fd ps [] ps.length id := by
  intro s us ws vs ds I hK hu hw r r2
  have e : ws = [] := List.length_eq_zero_iff.mp hw
  subst e
  rw [List.append_nil] at r
  refine ⟨us, vs, ?_, r, by rw [r.length, hu], r2⟩
  have := b s us hK (by rw [List.append_nil]; exact hu)
  rw [List.append_nil] at this
  exact this
section
variable {P : Program} {w : World} {K : PySem.W.Frag} {mg : Str → Option Value} {base : Heap} {G : Gam}
theorem fnd_of {name qual : Str} {params : Arguments} {body : List Stmt} {scope : Scope} {dvs : List V} {kws : List (Str × V)} {f : Addr} {fd : FuncData} {N ps ks : List Str} {k n : Nat} {gD : List D → List D} {sd : SpD} {tb : TSd}
    (F : FunD K name qual params body scope dvs kws f fd) (S : FnScope N ps scope) (bind : ArgOk K G fd ps ks n gD) (len : ∀ ds M K1 E1, sd ds M K1 E1 → ds.length = n + ks.length)
    (hbody : ∀ (cdv : Value) (A : Around) (outer : List Env) (s : Shared) (H : Hp) (E : XK) (B : Bs), Room k (A.deeper (PyProof.Rows.envOfC qual scope s.heap.objs.size f cdv)) → (A.deeper (PyProof.Rows.envOfC qual scope s.heap.objs.size f cdv)).guards = some [] →
      PSs (cxOf (CX P w) P w K mg base N qual scope f cdv A outer s H E) body (TSx K G B (fun cls dx _ H => E cls dx H) tb))
    (hsp : ∀ ds M K1 E1, sd ds M K1 E1 → tb (startD N (gD ds)) M { nx := fun _ M' => K1 .non M', rt := K1, er := fun c fs _ M' => E1 c fs M' }) :
    FnD P w K mg base G (k + 1) (.ref f) ks sd := by
  obtain ⟨oc, od, dV, kV, doc, pm, an, cdv, ct, osl, hfd, lk, hcd, _, _⟩ := F.ex
  refine ⟨fun A outer s H us ws vs ds M I K1 E1 Q E hr hg e0 r hl g r2 hs hK hE => ?_⟩
  have KX : K.In s.heap := e0.mod.kin.keeps fun b o e => (e0.bs b o e).1
  have lim : s.heap.NoLimit := e0.mod.nolimit.keeps fun b o e => (e0.bs b o e).1
  have hlen := len _ _ _ _ hs
  have hn : us.length = n := by
    have h1 := r.length
    have h2 := r2.length
    rw [List.length_append] at h1
    omega
  obtain ⟨bs, vbs, hbind, rb, hvl, rd⟩ := bind s us ws vs ds I KX hn hl r r2
  have kinds : ∀ y ∈ ps.zip bs, scope.names.lookup y.1 = some .local ∨ (scope.names.lookup y.1 = some .cell ∧ ((cellsFrom (s.heap.objs.size + 1) scope.names []).lookup y.1).isSome = true) := fun ⟨m, v⟩ hy => by
    rcases S.par m (List.of_mem_zip hy).1 with q | q
    · exact .inl q
    · exact .inr ⟨q, PySem.W.cellsFrom_some _ _ _ (.inl q)⟩
  subst hfd
  refine codeAny_call_function hr.depth (KX _ _ lk) rfl S.co S.gen rfl (PySem.W.codeRec_of KX hcd) (hbind _ _ _ _ ?_)
  refine wpAny_newFunctionEnv_cells S.kind kinds fun env he s1 x => ?_
  subst he
  refine ⟨lim.keeps x.toInCall.keep, codeAny_func ?_⟩
  have hb := hbody cdv A outer s H E ⟨I, M, H⟩ (hr.deeper _) hg
  have J : L2.Inv (cxOf (CX P w) P w K mg base N qual scope f cdv A outer s H E) [] (L2.start N vbs) H s1 := inv_start S hr.hd e0 hvl rb x
  have fin : ∀ {σ' : L2.St} {H' : Hp} {v : V} {u : Value} {s' : Shared}, L2.Inv (cxOf (CX P w) P w K mg base N qual scope f cdv A outer s H E) [] σ' H' s' → RelV v u → Q v H' → CE outer P w H s Q u s' :=
    fun {σ' H' v u s'} J' rv q => ⟨v, H', J'.os, J'.bare, J'.base, J'.hok, rv, q⟩
  have start_ok : TSx K G ⟨I, M, H⟩ (fun cls dx _ H => E cls dx H) tb { nx := fun _ H' => Q .non H', rt := Q } (L2.start N vbs) H := by
    refine ⟨startD N (gD ds), M, I, _, ⟨startD_ok rd, g, .refl⟩, hsp ds M K1 E1 hs, ⟨fun ρ M' σ H' I' h s' => ?_, fun _ _ _ _ _ h _ => h.elim, fun _ _ _ _ _ h _ => h.elim, fun d ρ M' σ H' I' v h s' q => ?_, fun c fs ρ M' σ H' I' cls dx h s' q => ?_⟩⟩
    · exact hK _ _ _ _ _ h s'.good s'.frm (by unfold Rep; rfl)
    · exact hK _ _ _ _ _ h s'.good s'.frm q
    · exact hE _ _ _ _ _ _ _ h s'.good s'.frm q
  refine wpAny_mono (hb.run [] s1 (L2.start N vbs) H _ J start_ok) (fun fl s' hq => ?_) fun e s' hq => hq
  cases fl with
  | ret u =>
    obtain ⟨v, σ', H', J', rv, q⟩ := hq
    exact fin J' rv q
  | next =>
    obtain ⟨σ', H', J', q⟩ := hq
    exact fin (v := V.non) (u := Value.none) J' rfl q
  | brk =>
    obtain ⟨_, _, _, q⟩ := hq
    exact False.elim q
  | cont =>
    obtain ⟨_, _, _, q⟩ := hq
    exact False.elim q
/-- a def's own wish about exceptions -/
theorem takes_cx {N : List Str} {qual : Str} {scope : Scope} {f : Addr} {cdv : Value} {A : Around} {outer : List Env} {s : Shared} {H : Hp} {E : XK} :
    Takes (cxOf (CX P w) P w K mg base N qual scope f cdv A outer s H E) (fun cls dx _ H => E cls dx H) := takes_of rfl rfl rfl rfl
theorem passes_cx {N : List Str} {qual : Str} {scope : Scope} {f : Addr} {cdv : Value} {A : Around} {outer : List Env} {s : Shared} {H : Hp} {E : XK} :
    PassesOwn (model P w) (cxOf (CX P w) P w K mg base N qual scope f cdv A outer s H E).A (cxOf (CX P w) P w K mg base N qual scope f cdv A outer s H E).env (cxOf (CX P w) P w K mg base N qual scope f cdv A outer s H E).xe :=
  passes_of (X := cxOf (CX P w) P w K mg base N qual scope f cdv A outer s H E) (K := fun e s'' => CX P w outer H s E e s'') rfl
end

/-! ## loops -/
section
variable {X : Cx} {G : Gam} {B : Bs} {W : WX}
/-- what is walked, over trees: these items come one by one -/
structure Walk (K : PySem.W.Frag) (G : Gam) (I : Hp) (M : Mst) (ds : List D) (J : It) : Prop where
  go : ∀ i d Hn I2 M2, ds[i]? = some d → Good K G I2 M2 Hn → Ext I I2 → Lk M M2 → J.go i Hn
  yld : ∀ i d Hn y Hn' I2 M2, ds[i]? = some d → Good K G I2 M2 Hn → Ext I I2 → Lk M M2 → J.yld i Hn y Hn' → ∃ I3, Good K G I3 M2 Hn' ∧ Frm I2 M2 Hn I3 M2 Hn' ∧ Rep K G I3 d y
  stop : ∀ Hn I2 M2, Good K G I2 M2 Hn → Ext I I2 → Lk M M2 → J.stop ds.length Hn
def PId (X : Cx) (G : Gam) (B : Bs) (W : WX) (tg iter : Expr) (ti : TDs) : Prop :=
  ∃ wi, PI X tg iter wi ∧ ∀ σ H ρ M I K1 E1 (R : It → Hp → Prop), SR X.K G B σ H ρ M I → ti ρ M K1 E1 → ErC X.K G B W σ ρ E1 →
    (∀ ds M' H' I' J, K1 ds M' → Ext I I' → SR X.K G B σ H' ρ M' I' → Walk X.K G I' M' ds J → R J H') → wi σ H R
/-- the base moved to where one is -/
theorem SR.here {K : PySem.W.Frag} {G : Gam} {B : Bs} {σ : L2.St} {H : Hp} {ρ : Slots} {M : Mst} {I : Hp} (s : SR K G B σ H ρ M I) : SR K G ⟨I, M, H⟩ σ H ρ M I := ⟨s.env, s.good, .refl⟩
theorem SR.back {K : PySem.W.Frag} {G : Gam} {B : Bs} {σ σ' : L2.St} {H H' : Hp} {ρ ρ' : Slots} {M M' : Mst} {I I' : Hp} (s : SR K G B σ H ρ M I) (s' : SR K G ⟨I, M, H⟩ σ' H' ρ' M' I') : SR K G B σ' H' ρ' M' I' := ⟨s'.env, s'.good, s.frm.trans s.good s'.frm⟩
/-- a target -/
def PGd (X : Cx) (G : Gam) (B : Bs) (tg : Expr) (g : D → Slots → Option Slots) (gv : TG) : Prop :=
  PG X tg gv ∧ ∀ (d : D) (v : V) (σ : L2.St) (H : Hp) (ρ ρ1 : Slots) (M : Mst) (I : Hp) (Q : L2.St → Hp → Prop), SR X.K G B σ H ρ M I → Rep X.K G I d v → g d ρ = some ρ1 → (∀ σ1, SR X.K G B σ1 H ρ1 M I → Q σ1 H) → gv v σ H Q
def set1 (i : Nat) : D → Slots → Option Slots := fun d ρ => some (ρ.set i (some d))
/-- several names, from a tuple -/
def setAll : List Nat → List D → Slots → Option Slots
  | [], [], ρ => some ρ
  | i :: is, d :: ds, ρ => setAll is ds (ρ.set i (some d))
  | _, _, _ => none
def setT (is : List Nat) : D → Slots → Option Slots := fun d ρ => match d with
  | .tup ds => setAll is ds ρ
  | _ => none
theorem pgd_name {i : Nat} {x : Str} {pos : Pos} (h : PG X (.Name x pos) (gName i)) : PGd X G B (.Name x pos) (set1 i) (gName i) :=
  ⟨h, fun d v σ H ρ ρ1 M I Q s r e q => by cases e; exact q _ (s.set r)⟩
/-- the names of a tuple target -/
def gAll : List Nat → TGs
  | [] => gNil
  | i :: is => gCons (gName i) (gAll is)
theorem gAll_ok {K : PySem.W.Frag} : ∀ {is : List Nat} {ds : List D} {vs : List V} {σ : L2.St} {H : Hp} {ρ ρ1 : Slots} {M : Mst} {I : Hp} {Q : L2.St → Hp → Prop}, SR K G B σ H ρ M I → Reps K G I ds vs → setAll is ds ρ = some ρ1 → (∀ σ1, SR K G B σ1 H ρ1 M I → Q σ1 H) → gAll is vs σ H Q
  | [], [], vs, _, _, _, _, _, _, _, s, r, e, q => by
    unfold Reps at r
    unfold setAll at e
    cases e
    exact ⟨r, q _ s⟩
  | i :: is, d :: ds, vs, _, _, _, _, _, _, _, s, r, e, q => by
    unfold Reps at r
    obtain ⟨v, t, rfl, r1, r2⟩ := r
    exact ⟨v, t, rfl, gAll_ok (s.set r1) r2 e q⟩
  | [], _ :: _, _, _, _, _, _, _, _, _, _, _, e, _ => by simp [setAll] at e
  | _ :: _, [], _, _, _, _, _, _, _, _, _, _, e, _ => by simp [setAll] at e
theorem setAll_len : ∀ {is : List Nat} {ds : List D} {ρ ρ1 : Slots}, setAll is ds ρ = some ρ1 → ds.length = is.length
  | [], [], _, _, _ => rfl
  | i :: is, d :: ds, _, _, e => by
    have := setAll_len (is := is) (ds := ds) e
    simp [this]
  | [], _ :: _, _, _, e => by simp [setAll] at e
  | _ :: _, [], _, _, e => by simp [setAll] at e
theorem pgd_tup {es : List Expr} {is : List Nat} {k : Nat} {pos : Pos} (h : PG X (.Tuple es k pos) (gTup X.K is.length (gAll is))) : PGd X G B (.Tuple es k pos) (setT is) (gTup X.K is.length (gAll is)) := by
  refine ⟨h, fun d v σ H ρ ρ1 M I Q s r e q => ?_⟩
  unfold setT at e
  split at e
  · rename_i ds
    unfold Rep at r
    obtain ⟨a, vs, rfl, ht, hr⟩ := r
    exact ⟨a, vs, rfl, s.good.sub.sqt ht, by rw [hr.length, setAll_len e], gAll_ok s hr e q⟩
  · cases e
/-- a for over such a walk -/
theorem pds_for {tg iter : Expr} {body : List Stmt} {tb : TSd} {g : D → Slots → Option Slots} {gv : TG} {ti : TDs} {pos : Pos} (hp : PassesOwn (model X.prog X.w) X.A X.env X.xe) (hc : X.calm = true)
    (hi : PId X G B W tg iter ti) (hg : ∀ B, PGd X G B tg g gv) (hb : ∀ B, PSs X body (TSx X.K G B W tb)) (hs : ∀ x, foldedSetIterable iter X.env x = pure x) :
    PS X (.For tg iter body [] pos) (TSx X.K G B W fun ρ M En => ti ρ M (fun ds M' => forS g tb ds ρ M' En) (erE En ρ)) := by
  obtain ⟨wi, hpi, hw⟩ := hi
  have hb' : PSs X body (fun D σ H => ∃ B, TSx X.K G B W tb D σ H) := ⟨fun pins s σ H D I ⟨B, h⟩ => (hb B).run pins s σ H D I h⟩
  refine PS.imp (ps_for hp hc hpi (hg B).1 hb' hs) fun D σ H ⟨ρ, M, I, En, s0, t, ok⟩ => ?_
  refine hw σ H ρ M I _ _ _ s0 t (erC ok) fun ds M' H' I' J k e s' wk => ?_
  refine ⟨fun i m σ2 H2 => m = ds.length - i ∧ i ≤ ds.length ∧ ∃ ρ2 M2 I2, SR X.K G ⟨I', M', H'⟩ σ2 H2 ρ2 M2 I2 ∧ forS g tb (ds.drop i) ρ2 M2 En, ⟨ds.length, by simp, Nat.zero_le _, ρ, M', I', s'.here, k⟩, ?_⟩
  rintro i m σ2 H2 ⟨rfl, hi2, ρ2, M2, I2, s2, h2⟩
  by_cases hlt : i < ds.length
  · have hg2 : ds[i]? = some ds[i] := by simp [hlt]
    refine .inr ⟨wk.go i _ H2 I2 M2 hg2 s2.good s2.frm.ext s2.frm.lok, fun σ3 H3 => ∃ ρ3 M3 I3, SR X.K G ⟨I', M', H'⟩ σ3 H3 ρ3 M3 I3 ∧ forS g tb (ds.drop (i + 1)) ρ3 M3 En, fun σ3 H3 ⟨ρ3, M3, I3, s3, h3⟩ => ⟨ds.length - (i + 1), by omega, rfl, hlt, ρ3, M3, I3, s3, h3⟩, fun y H3 hy => ?_⟩
    obtain ⟨I3, g3, f3, r3⟩ := wk.yld i _ H2 y H3 I2 M2 hg2 s2.good s2.frm.ext s2.frm.lok hy
    have s3 := s2.step g3 f3
    rw [List.drop_eq_getElem_cons hlt] at h2
    unfold forS at h2
    split at h2
    · rename_i ρ1 eg
      refine (hg ⟨I', M', H'⟩).2 ds[i] y σ2 _ ρ2 ρ1 M2 I3 _ s3 r3 eg fun σ1 s1 => ?_
      exact ⟨⟨I', M', H'⟩, ρ1, M2, I3, _, s1, h2, ⟨fun ρ3 M3 σ3 H3 I3 q s3 => ⟨ρ3, M3, I3, s3, q⟩, fun ρ3 M3 σ3 H3 I3 q s3 => ok.nx _ _ _ _ _ q (s'.back s3), fun ρ3 M3 σ3 H3 I3 q s3 => ⟨ρ3, M3, I3, s3, q⟩,
        fun d ρ3 M3 σ3 H3 I3 v q s3 r => ok.rt d ρ3 M3 σ3 H3 I3 v q (s'.back s3) r, fun c fs ρ3 M3 σ3 H3 I3 cls dx q s3 r => ok.er c fs ρ3 M3 σ3 H3 I3 cls dx q (s'.back s3) r⟩⟩
    · exact h2.elim
  · have ei : i = ds.length := by omega
    subst ei
    refine .inl ⟨wk.stop _ _ _ s2.good s2.frm.ext s2.frm.lok, ?_⟩
    rw [List.drop_length] at h2
    exact ok.nx _ _ _ _ _ h2 (s'.back s2)

/-! what is walked -/
/-- a list, a tuple -/
def lstI (t : TD) : TDs := fun ρ M K E => t ρ M (fun d M' => match d with
  | .lst ds => K ds M'
  | _ => False) E
def tupI (t : TD) : TDs := fun ρ M K E => t ρ M (fun d M' => match d with
  | .tup ds => K ds M'
  | _ => False) E
theorem walk_list {K : PySem.W.Frag} {G : Gam} {I : Hp} {M : Mst} {a : Addr} {ds : List D} {vs : List V} (h : SqL K I a vs) (r : Reps K G I ds vs) : Walk K G I M ds (Itl K a) := by
  refine ⟨fun i d Hn I2 M2 e g x lk => ?_, fun i d Hn y Hn' I2 M2 e g x lk hy => ?_, fun Hn I2 M2 g x lk => ?_⟩
  · obtain ⟨v, h1, _⟩ := r.get e
    exact ⟨vs, v, g.sub.sql (x.sql h), h1⟩
  · obtain ⟨v, h1, h2⟩ := r.get e
    obtain ⟨rfl, hy⟩ := hy
    have h3 := hy vs (g.sub.sql (x.sql h))
    rw [h1] at h3
    cases h3
    exact ⟨I2, g, .refl, h2.ext x⟩
  · exact ⟨vs, g.sub.sql (x.sql h), by rw [r.length]; exact Nat.le_refl _⟩
theorem walk_tup {K : PySem.W.Frag} {G : Gam} {I : Hp} {M : Mst} {a : Addr} {ds : List D} {vs : List V} (h : SqT K I a vs) (r : Reps K G I ds vs) : Walk K G I M ds (Itt K a) := by
  refine ⟨fun i d Hn I2 M2 e g x lk => ?_, fun i d Hn y Hn' I2 M2 e g x lk hy => ?_, fun Hn I2 M2 g x lk => ?_⟩
  · obtain ⟨v, h1, _⟩ := r.get e
    exact ⟨vs, v, g.sub.sqt (x.sqt h), h1⟩
  · obtain ⟨v, h1, h2⟩ := r.get e
    obtain ⟨rfl, hy⟩ := hy
    have h3 := hy vs (g.sub.sqt (x.sqt h))
    rw [h1] at h3
    cases h3
    exact ⟨I2, g, .refl, h2.ext x⟩
  · exact ⟨vs, g.sub.sqt (x.sqt h), by rw [r.length]; exact Nat.le_refl _⟩
theorem pid_list {tg e : Expr} {t : TD} (h : PE X e (TEx X.K G B W t)) : PId X G B W tg e (lstI t) := by
  refine ⟨_, pi_list h, fun σ H ρ M I K1 E1 R s q er k => ?_⟩
  refine ⟨ρ, M, I, _, _, s, q, fun d M' v H' I' z e s' r => ?_, er⟩
  dsimp only at z
  split at z
  · unfold Rep at r
    obtain ⟨a, vs, rfl, hs, hr⟩ := r
    exact ⟨a, rfl, ⟨vs, s'.good.sub.sql hs⟩, k _ _ _ _ _ z e s' (walk_list hs hr)⟩
  · exact z.elim
theorem pid_tup {tg e : Expr} {t : TD} (h : PE X e (TEx X.K G B W t)) : PId X G B W tg e (tupI t) := by
  refine ⟨_, pi_tup h, fun σ H ρ M I K1 E1 R s q er k => ?_⟩
  refine ⟨ρ, M, I, _, _, s, q, fun d M' v H' I' z e s' r => ?_, er⟩
  dsimp only at z
  split at z
  · unfold Rep at r
    obtain ⟨a, vs, rfl, hs, hr⟩ := r
    exact ⟨a, rfl, ⟨vs, s'.good.sub.sqt hs⟩, k _ _ _ _ _ z e s' (walk_tup hs hr)⟩
  · exact z.elim
/-- range(n) -/
def rngL (lo : Int) : Nat → List D
  | 0 => []
  | n + 1 => .int lo :: rngL (lo + 1) n
theorem rngL_len (n : Nat) : ∀ lo : Int, (rngL lo n).length = n := by
  induction n with
  | zero => intro lo; rfl
  | succ n ih => intro lo; simp [rngL, ih]
theorem rngL_get (n : Nat) : ∀ (lo : Int) (i : Nat), i < n → (rngL lo n)[i]? = some (.int (lo + i)) := by
  induction n with
  | zero => intro lo i h; omega
  | succ n ih =>
    intro lo i h
    cases i with
    | zero => simp [rngL]
    | succ i =>
      have := ih (lo + 1) i (by omega)
      simp only [rngL, List.getElem?_cons_succ]
      rw [this]
      congr 2
      push_cast
      omega
theorem walk_rng {K : PySem.W.Frag} {G : Gam} {I : Hp} {M : Mst} (lo : Int) (n : Nat) : Walk K G I M (rngL lo n) (Itr lo n) := by
  refine ⟨fun i d Hn I2 M2 e g x lk => ?_, fun i d Hn y Hn' I2 M2 e g x lk hy => ?_, fun Hn I2 M2 g x lk => ?_⟩
  · have := (List.getElem?_eq_some_iff.mp e).1
    rw [rngL_len] at this
    exact this
  · have hl := (List.getElem?_eq_some_iff.mp e).1
    rw [rngL_len] at hl
    rw [rngL_get n lo i hl] at e
    cases e
    obtain ⟨rfl, rfl⟩ := hy
    exact ⟨I2, g, .refl, by unfold Rep; rfl⟩
  · show n ≤ (rngL lo n).length
    rw [rngL_len]
    exact Nat.le_refl _
def rng1I (t : TDs) : TDs := fun ρ M K E => t ρ M (fun ds M' => match ds with
  | [.int j] => (-(2 ^ 62) ≤ j ∧ j < 2 ^ 62) ∧ K (rngL 0 j.toNat) M'
  | _ => False) E
theorem pid_rng1 {tg a : Expr} {t : TDs} {p pos : Pos} (hg : Gl X "range") (hm : X.mg "range" = none) (h : PA X [a] (TAx X.K G B W t)) (hs : starEach [a] X.env = [(false, eval a X.env)]) : PId X G B W tg (.Call (.Name "range" p) [a] [] pos) (rng1I t) := by
  refine ⟨_, pi_range1 hg hm h hs, fun σ H ρ M I K1 E1 R s q er k => ?_⟩
  refine ⟨ρ, M, I, _, _, s, q, fun ds M' vs H' I' z e s' r => ?_, er⟩
  dsimp only at z
  split at z
  · rename_i j
    unfold Reps at r
    obtain ⟨v, t', rfl, r1, r2⟩ := r
    unfold Reps at r2
    subst r2
    unfold Rep at r1
    subst r1
    exact ⟨j, rfl, z.1.1, z.1.2, k _ _ _ _ _ z.2 e s' (walk_rng 0 j.toNat)⟩
  · exact z.elim
end
end PyD
set_option Elab.async false
set_option linter.all false
set_option autoImplicit false
set_option maxRecDepth 100000
set_option maxHeartbeats 4000000
/-! # Fields, items, numbers, truth -/
namespace PyD
open PySem PySem.Spec L2

def putD (k : Nat) (d : D) : List (Nat × D) → List (Nat × D)
  | [] => [(k, d)]
  | (j, e) :: r => if j = k then (j, d) :: r else (j, e) :: putD k d r
def getD (k : Nat) : List (Nat × D) → Option D
  | [] => none
  | (j, e) :: r => if j = k then some e else getD k r
section
variable {K : PySem.W.Frag} {G : Gam} {I : Hp}
theorem RepF.get : ∀ {fs : List (Nat × D)} {vfs : List (Str × V)} {k : Nat} {d : D}, RepF K G I fs vfs → getD k fs = some d → ∃ v, vfs.lookup (G.nm k) = some v ∧ Rep K G I d v
  | [], _, _, _, _, e => by simp [getD] at e
  | (j, x) :: r, vfs, k, d, h, e => by
    unfold RepF at h
    obtain ⟨v, t, rfl, h1, h2⟩ := h
    unfold getD at e
    by_cases c : j = k
    · rw [if_pos c] at e
      cases e
      subst c
      exact ⟨v, by simp [List.lookup], h1⟩
    · rw [if_neg c] at e
      obtain ⟨y, h3, h4⟩ := h2.get e
      have ne : (G.nm k == G.nm j) = false := beq_eq_false_iff_ne.mpr fun q => c (G.inj _ _ q).symm
      exact ⟨y, by simp [List.lookup, ne, h3], h4⟩
theorem RepF.none : ∀ {fs : List (Nat × D)} {vfs : List (Str × V)} {k : Nat}, RepF K G I fs vfs → getD k fs = none → vfs.lookup (G.nm k) = none
  | [], vfs, _, h, _ => by unfold RepF at h; subst h; rfl
  | (j, x) :: r, vfs, k, h, e => by
    unfold RepF at h
    obtain ⟨v, t, rfl, h1, h2⟩ := h
    unfold getD at e
    by_cases c : j = k
    · rw [if_pos c] at e; cases e
    · rw [if_neg c] at e
      have ne : (G.nm k == G.nm j) = false := beq_eq_false_iff_ne.mpr fun q => c (G.inj _ _ q).symm
      simp [List.lookup, ne, h2.none e]
theorem RepF.length : ∀ {fs : List (Nat × D)} {vfs : List (Str × V)}, RepF K G I fs vfs → vfs.length = fs.length
  | [], vfs, h => by unfold RepF at h; subst h; rfl
  | (j, x) :: r, vfs, h => by
    unfold RepF at h
    obtain ⟨v, t, rfl, h1, h2⟩ := h
    simp [h2.length]
theorem RepF.put {k : Nat} {d : D} {v : V} (hd : Rep K G I d v) : ∀ {fs : List (Nat × D)} {vfs : List (Str × V)}, RepF K G I fs vfs → RepF K G I (putD k d fs) (putF (G.nm k) v vfs)
  | [], vfs, h => by
    unfold RepF at h
    subst h
    show RepF K G I [(k, d)] [(G.nm k, v)]
    unfold RepF
    exact ⟨v, [], rfl, hd, by unfold RepF; rfl⟩
  | (j, x) :: r, vfs, h => by
    unfold RepF at h
    obtain ⟨y, t, rfl, h1, h2⟩ := h
    unfold putD putF
    by_cases c : j = k
    · subst c
      rw [if_pos rfl, if_pos rfl]
      unfold RepF
      exact ⟨v, t, rfl, hd, h2⟩
    · rw [if_neg c, if_neg fun q => c (G.inj _ _ q)]
      unfold RepF
      exact ⟨y, _, rfl, h1, h2.put hd⟩
end

/-- what the text's tables say is so -/
structure GOk (K : PySem.W.Frag) (G : Gam) : Prop where
  fld : ∀ c k, G.fld c k = true → Cls K (G.cl c) ∧ NoAttr K (G.cl c) (G.nm k)
  dn : ∀ c k i, G.dn c k = some i → Cls K (G.cl c) ∧ Meth K (G.cl c) (G.nm k) (G.adr i) ∧ PySem.W.selfFirst K (G.cl c) = true
section
variable {X : Cx} {G : Gam} {B : Bs} {W : WX}

/-! ## fields -/
def instD (d : D) (M : Mst) : Option (Nat × List (Nat × D)) := match d with
  | .obj c fs => some (c, fs)
  | .loc a => match M a with
    | some (.inst c fs) => some (c, fs)
    | _ => none
  | _ => none
theorem instD_ok {K : PySem.W.Frag} {I H : Hp} {M : Mst} {d : D} {x : V} {c : Nat} {fs : List (Nat × D)} (g : Good K G I M H) (r : Rep K G I d x) (e : instD d M = some (c, fs)) : ∃ a dx vfs, x = .ref a ∧ H a = some (.ins (G.cl c) dx vfs) ∧ RepF K G I fs vfs := by
  cases d with
  | obj c' fs' =>
    cases e
    unfold Rep at r
    obtain ⟨a, dx, vfs, rfl, h1, h2⟩ := r
    exact ⟨a, dx, vfs, rfl, g.sub.ins h1, h2⟩
  | loc a =>
    unfold Rep at r
    unfold instD at e
    dsimp only at e
    split at e
    · rename_i c' fs' h
      cases e
      obtain ⟨_, o, h1, dx, vfs, rfl, h2⟩ := g.mst a _ h
      exact ⟨a, dx, vfs, r, h1, h2⟩
    · cases e
  | _ => cases e
/-- an instance, as it stands -/
def instX (d : D) (M : Mst) (P : Nat → List (Nat × D) → Prop) : Prop := match d with
  | .obj c fs => P c fs
  | .loc a => ∃ c fs, M a = some (.inst c fs) ∧ P c fs
  | _ => False
theorem instX_ok {d : D} {M : Mst} {P : Nat → List (Nat × D) → Prop} (h : instX d M P) : ∃ c fs, instD d M = some (c, fs) ∧ P c fs := by
  unfold instX at h
  split at h
  · exact ⟨_, _, rfl, h⟩
  · obtain ⟨c, fs, hm, h⟩ := h
    refine ⟨c, fs, ?_, h⟩
    unfold instD
    dsimp only
    rw [hm]
  · exact h.elim
def fldD (k : Nat) (d : D) : TD := fun _ M K _ => match instD d M with
  | some (c, fs) => G.fld c k = true ∧ (match getD k fs with
    | some e => K e M
    | none => False)
  | none => False
theorem pd_fld {e : Expr} {t : TD} {k : Nat} {pos : Pos} (gok : GOk X.K G) (h : PE X e (TEx X.K G B W t)) (hb : attributeBase e (G.nm k) X.env (eval e X.env) = eval e X.env) : PE X (.Attribute e (G.nm k) pos) (TEx X.K G B W (bindD t (fldD (G := G) k))) := by
  refine PE.imp (pe_fld h hb) fun σ H Q h => ?_
  obtain ⟨ρ, M, I, K1, E1, s, q, ok, er⟩ := h
  refine ⟨ρ, M, I, _, _, s, q, fun d M' v H' I' z e s' r => ?_, er⟩
  dsimp only [fldD] at z
  split at z
  · rename_i c fs hi
    obtain ⟨hf, z⟩ := z
    split at z
    · rename_i y hy
      obtain ⟨a, dx, vfs, rfl, h1, h2⟩ := instD_ok s'.good r hi
      obtain ⟨v, h3, h4⟩ := h2.get hy
      obtain ⟨c1, c2⟩ := gok.fld c k hf
      exact ⟨a, _, dx, vfs, v, rfl, h1, c1, c2, h3, ok _ _ _ _ _ z e s' h4⟩
    · exact z.elim
  · exact z.elim
/-- self.k = e -/
def setfS (k : Nat) (to te : TD) : TSd := fun ρ M En => te ρ M (fun d M1 => to ρ M1 (fun o M2 => match o with
  | .loc a => ∃ c fs, M2 a = some (.inst c fs) ∧ G.fld c k = true ∧ fs.length ≤ 900 ∧ En.nx ρ (updM M2 a (.inst c (putD k d fs)))
  | _ => False) (erE En ρ)) (erE En ρ)
theorem pds_setf {o e : Expr} {to te : TD} {k : Nat} {pos pos' : Pos} (gok : GOk X.K G) (ho : PE X o (TEx X.K G B W to)) (he : PE X e (TEx X.K G B W te)) (hs : swapsWith e (some (.Attribute o (G.nm k) pos')) pos.line X.env = pure false) :
    PS X (.Assign [.Attribute o (G.nm k) pos'] e pos) (TSx X.K G B W (setfS (G := G) k to te)) := by
  refine PS.imp (ps_fld ho he hs) fun D σ H ⟨ρ, M, I, En, s, t, ok⟩ => ?_
  refine ⟨ρ, M, I, _, _, s, t, fun d M1 v H1 I1 z1 e1 s1 r1 => ⟨ρ, M1, I1, _, _, s1, z1, fun o M2 y H2 I2 z2 e2 s2 r2 => ?_, erC ok⟩, erC ok⟩
  dsimp only at z2
  split at z2
  · rename_i a
    obtain ⟨c, fs, hm, hf, hl, z2⟩ := z2
    obtain ⟨c1, c2⟩ := gok.fld c k hf
    obtain ⟨_, ob, h1, dx, vfs, rfl, h2⟩ := s2.good.mst a _ hm
    unfold Rep at r2
    have r3 := h2.put (r1.ext e2) (k := k)
    refine ⟨a, _, dx, vfs, r2, h1, c1, c2, by rw [h2.length]; omega, ?_⟩
    exact ok.nx _ _ _ _ I2 z2 (s2.step (s2.good.setM hm ⟨dx, _, rfl, r3⟩) (s2.good.setM_frm hm))
  · exact z2.elim

/-! ## items -/
def seqD (d : D) (M : Mst) : Option (List D) := match d with
  | .lst ds => some ds
  | .tup ds => some ds
  | .loc a => match M a with
    | some (.lst ds) => some ds
    | _ => none
  | _ => none
theorem seqD_ok {K : PySem.W.Frag} {I H : Hp} {M : Mst} {d : D} {x : V} {ds : List D} (g : Good K G I M H) (r : Rep K G I d x) (e : seqD d M = some ds) : ∃ a vs, x = .ref a ∧ (SqL K H a vs ∨ SqT K H a vs) ∧ Reps K G I ds vs := by
  cases d with
  | lst ds' =>
    cases e
    unfold Rep at r
    obtain ⟨a, vs, rfl, h1, h2⟩ := r
    exact ⟨a, vs, rfl, .inl (g.sub.sql h1), h2⟩
  | tup ds' =>
    cases e
    unfold Rep at r
    obtain ⟨a, vs, rfl, h1, h2⟩ := r
    exact ⟨a, vs, rfl, .inr (g.sub.sqt h1), h2⟩
  | loc a =>
    unfold Rep at r
    unfold seqD at e
    dsimp only at e
    split at e
    · rename_i ds' h
      cases e
      obtain ⟨_, o, h1, vs, rfl, h2⟩ := g.mst a _ h
      exact ⟨a, vs, r, .inl (.of h1), h2⟩
    · cases e
  | _ => cases e
/-- a list, a tuple, as it stands -/
def seqX (d : D) (M : Mst) (P : List D → Prop) : Prop := match d with
  | .lst ds => P ds
  | .tup ds => P ds
  | .loc a => ∃ ds, M a = some (.lst ds) ∧ P ds
  | _ => False
theorem seqX_ok {d : D} {M : Mst} {P : List D → Prop} (h : seqX d M P) : ∃ ds, seqD d M = some ds ∧ P ds := by
  unfold seqX at h
  split at h
  · exact ⟨_, rfl, h⟩
  · exact ⟨_, rfl, h⟩
  · obtain ⟨ds, hm, h⟩ := h
    refine ⟨ds, ?_, h⟩
    unfold seqD
    dsimp only
    rw [hm]
  · exact h.elim
theorem atI_rep {K : PySem.W.Frag} {I : Hp} {ds : List D} {vs : List V} {i : Int} {d : D} (r : Reps K G I ds vs) (e : atI ds i = some d) : ∃ v, atI vs i = some v ∧ Rep K G I d v := by
  unfold atI at e ⊢
  rw [r.length]
  cases q : ixN ds.length i with
  | none => rw [q] at e; cases e
  | some j =>
    rw [q] at e
    exact r.get e
/-- xs[i] -/
def subD (d i : D) : TD := fun _ M K _ => match i with
  | .int n => seqX d M fun ds => ∃ e, atI ds n = some e ∧ K e M
  | _ => False
theorem pd_sub {a b : Expr} {ta tb : TD} {pos : Pos} (ha : PE X a (TEx X.K G B W ta)) (hb : PE X b (TEx X.K G B W tb)) (hs : PlainIx b) : PE X (.Subscript a b pos) (TEx X.K G B W (bind2 ta tb subD)) := by
  refine PE.imp (pe_ix ix_seq ha hb hs) fun σ H Q h => ?_
  obtain ⟨ρ, M, I, K1, E1, s, t, ok, er⟩ := h
  refine ⟨ρ, M, I, _, _, s, t, fun d M1 v H1 I1 z1 e1 s1 r1 => ⟨ρ, M1, I1, _, _, s1, z1, fun i M2 y H2 I2 z2 e2 s2 r2 => ?_, er⟩, er⟩
  dsimp only [subD] at z2
  split at z2
  · rename_i n
    obtain ⟨ds, hd, x, hx, z2⟩ := seqX_ok z2
    obtain ⟨a, vs, rfl, h1, h2⟩ := seqD_ok s2.good (r1.ext e2) hd
    unfold Rep at r2
    subst r2
    obtain ⟨u, h3, h4⟩ := atI_rep h2 hx
    rcases h1 with h1 | h1
    · exact .inl ⟨a, vs, n, u, rfl, rfl, h1, h3, ok _ _ _ _ _ z2 (e1.trans e2) s2 h4⟩
    · exact .inr (.inl ⟨a, vs, n, u, rfl, rfl, h1, h3, ok _ _ _ _ _ z2 (e1.trans e2) s2 h4⟩)
  · exact z2.elim
/-- xs[i] = e of a list that changes -/
def setiS (to ti te : TD) : TSd := fun ρ M En => te ρ M (fun d M1 => to ρ M1 (fun o M2 => ti ρ M2 (fun i M3 => match o, i with
  | .loc a, .int n => ∃ ds j, M3 a = some (.lst ds) ∧ ixN ds.length n = some j ∧ En.nx ρ (updM M3 a (.lst (ds.set j d)))
  | _, _ => False) (erE En ρ)) (erE En ρ)) (erE En ρ)
theorem pds_seti {o i e : Expr} {to ti te : TD} {pos pos' : Pos} (ho : PE X o (TEx X.K G B W to)) (hi : PE X i (TEx X.K G B W ti)) (he : PE X e (TEx X.K G B W te))
    (ha : ∀ v, assign (.Subscript o i pos') X.env v = (do
      let ov ← holding [v] (eval o X.env)
      let iv ← holding [v, ov] (eval i X.env)
      standAt pos'
      holding [v, ov, iv] (setItem ov iv v)
      release [v, ov, iv] []))
    (hs : swapsWithSole [.Subscript o i pos'] e pos.line X.env = pure false) (hw : swappedStores [.Subscript o i pos'] e X.env = pure none) (h1 : (assignEach [.Subscript o i pos'] X.env).map (·.2) = [assign (.Subscript o i pos') X.env]) :
    PS X (.Assign [.Subscript o i pos'] e pos) (TSx X.K G B W (setiS to ti te)) := by
  refine PS.imp (ps_asg he (pg_sub ho hi set_list ha) hs hw h1) fun D σ H ⟨ρ, M, I, En, s, t, ok⟩ => ?_
  refine ⟨ρ, M, I, _, _, s, t, fun d M1 v H1 I1 z1 e1 s1 r1 => ⟨ρ, M1, I1, _, _, s1, z1, fun o M2 y H2 I2 z2 e2 s2 r2 => ⟨ρ, M2, I2, _, _, s2, z2, fun i M3 y3 H3 I3 z3 e3 s3 r3 => ?_, erC ok⟩, erC ok⟩, erC ok⟩
  dsimp only at z3
  split at z3
  · rename_i a n
    obtain ⟨ds, j, hm, hj, z3⟩ := z3
    obtain ⟨_, ob, g1, vs, rfl, g2⟩ := s3.good.mst a _ hm
    unfold Rep at r2 r3
    subst r2 r3
    refine ⟨a, vs, n, j, rfl, rfl, g1, by rw [g2.length]; exact hj, ?_⟩
    exact ok.nx _ _ _ _ I3 z3 (s3.step (s3.good.setM hm ⟨_, rfl, g2.set j (r1.ext (e2.trans e3))⟩) (s3.good.setM_frm hm))
  · exact z3.elim
/-- xs[lo:hi] of a list -/
def cutD (ds : List D) (lo hi : Option Int) : List D := (ds.drop (HT.sIx ds.length 0 lo)).take (HT.sIx ds.length ds.length hi - HT.sIx ds.length 0 lo)
theorem cut_rep {K : PySem.W.Frag} {I : Hp} {ds : List D} {vs : List V} (lo hi : Option Int) (r : Reps K G I ds vs) : Reps K G I (cutD ds lo hi) (cutV vs lo hi) := by
  unfold cutD cutV
  rw [r.length]
  exact (r.drop _).take _
end
end PyD
set_option Elab.async false
set_option linter.all false
set_option autoImplicit false
set_option maxRecDepth 100000
set_option maxHeartbeats 4000000
/-! # Own operators at the model's level -/
namespace PyD
open PySem PySem.W PySem.Calls PyProof.Rows
section
variable {y : Addr} {oc : Value} {od : Option Addr} {sl : Array (Option Value)}
/-- an object that holds no data of a built-in -/
def PlainAt (h : Heap) (y : Addr) : Prop := ∃ oc od sl, h.get? y = some ⟨oc, od, .plain, sl⟩
theorem declines_add (a : Int) (t : Tok) : Meets (Builtin.«int.__add__» ⟨[.int a t, .ref y], []⟩) (fun _ R s => s.heap.get? y = some ⟨oc, od, .plain, sl⟩ ∧ R (.ok (.ret Value.notImplemented)) s) :=
  .of_wp fun prog w A R s h => by obtain ⟨hp, g, d, tk, os⟩ := s; obtain ⟨hl, h⟩ := h; wp_walk; exact ⟨_, rfl, h⟩
theorem declines_sub (a : Int) (t : Tok) : Meets (Builtin.«int.__sub__» ⟨[.int a t, .ref y], []⟩) (fun _ R s => s.heap.get? y = some ⟨oc, od, .plain, sl⟩ ∧ R (.ok (.ret Value.notImplemented)) s) :=
  .of_wp fun prog w A R s h => by obtain ⟨hp, g, d, tk, os⟩ := s; obtain ⟨hl, h⟩ := h; wp_walk; exact ⟨_, rfl, h⟩
theorem declines_mul (a : Int) (t : Tok) : Meets (Builtin.«int.__mul__» ⟨[.int a t, .ref y], []⟩) (fun _ R s => s.heap.get? y = some ⟨oc, od, .plain, sl⟩ ∧ R (.ok (.ret Value.notImplemented)) s) :=
  .of_wp fun prog w A R s h => by obtain ⟨hp, g, d, tk, os⟩ := s; obtain ⟨hl, h⟩ := h; wp_walk; exact ⟨_, rfl, h⟩
theorem declines_lt (a : Int) (t : Tok) : Meets (Builtin.«int.__lt__» ⟨[.int a t, .ref y], []⟩) (fun _ R s => s.heap.get? y = some ⟨oc, od, .plain, sl⟩ ∧ R (.ok (.ret Value.notImplemented)) s) :=
  .of_wp fun prog w A R s h => by obtain ⟨hp, g, d, tk, os⟩ := s; obtain ⟨hl, h⟩ := h; wp_walk; exact ⟨_, rfl, h⟩
theorem declines_le (a : Int) (t : Tok) : Meets (Builtin.«int.__le__» ⟨[.int a t, .ref y], []⟩) (fun _ R s => s.heap.get? y = some ⟨oc, od, .plain, sl⟩ ∧ R (.ok (.ret Value.notImplemented)) s) :=
  .of_wp fun prog w A R s h => by obtain ⟨hp, g, d, tk, os⟩ := s; obtain ⟨hl, h⟩ := h; wp_walk; exact ⟨_, rfl, h⟩
theorem declines_gt (a : Int) (t : Tok) : Meets (Builtin.«int.__gt__» ⟨[.int a t, .ref y], []⟩) (fun _ R s => s.heap.get? y = some ⟨oc, od, .plain, sl⟩ ∧ R (.ok (.ret Value.notImplemented)) s) :=
  .of_wp fun prog w A R s h => by obtain ⟨hp, g, d, tk, os⟩ := s; obtain ⟨hl, h⟩ := h; wp_walk; exact ⟨_, rfl, h⟩
theorem declines_ge (a : Int) (t : Tok) : Meets (Builtin.«int.__ge__» ⟨[.int a t, .ref y], []⟩) (fun _ R s => s.heap.get? y = some ⟨oc, od, .plain, sl⟩ ∧ R (.ok (.ret Value.notImplemented)) s) :=
  .of_wp fun prog w A R s h => by obtain ⟨hp, g, d, tk, os⟩ := s; obtain ⟨hl, h⟩ := h; wp_walk; exact ⟨_, rfl, h⟩
theorem declines_eq (a : Int) (t : Tok) : Meets (Builtin.«int.__eq__» ⟨[.int a t, .ref y], []⟩) (fun _ R s => s.heap.get? y = some ⟨oc, od, .plain, sl⟩ ∧ R (.ok (.ret Value.notImplemented)) s) :=
  .of_wp fun prog w A R s h => by obtain ⟨hp, g, d, tk, os⟩ := s; obtain ⟨hl, h⟩ := h; wp_walk; exact ⟨_, rfl, h⟩
end
section
variable {prog : Program} {w : World} {A : Around} {E : Value → Shared → Prop} {s : Shared} {K : Frag} {x y C L f : Addr} {h₀ : Heap} {m : Str → Option Value} {ox oy : Obj} {od odd : Option Obj} {nm : String}
/-- a op b, both of one own class -/
theorem own_same {op : Operator} {Q : Value → Shared → Prop} (F : Fr h₀ L s.heap m) (X₀ : K.In h₀) (I : InstAt s.heap x ox C od) (J : InstAt s.heap y oy C odd) (hc : selfFirst K C = true)
    (hs : findIn K (.ref C) (PySem.dunder op.info.2) = some (some (.ref f))) (hf : isFn K (.ref f) = true)
    (h : wpAny (model prog w) A (call (.ref f) [.ref x, .ref y]) (W.CmpBack Q) E s) : wpAny (model prog w) A (binaryOp op (.ref x) (.ref y)) Q E s := by
  have X := X₀.keeps F.keep
  obtain ⟨cd, rest, hcd, hm⟩ := ksp_first hc
  rcases hi : op.info with ⟨sym, nm'⟩
  rw [hi] at hs
  dsimp only at hs
  have one := ksp_try X I hs hf h
  obtain ⟨hh, g, d, tt, os⟩ := s
  have L1 : Looks (model prog w) hh (typeOf (.ref x)) (.ref C) := I.type
  have L2 : Looks (model prog w) hh (typeOf (.ref y)) (.ref C) := J.type
  have L3 : Looks (model prog w) hh (fillsNumberSlot (.ref C) nm') true := fills_K X hcd hm hs
  simp only [binaryOp, hi]
  refine wpAny_holding (wpAny_bind ?_)
  unfold binaryOp1
  refine wpAny_bind (L1.at (wpAny_bind (L2.at (wpAny_bind (L3.at ?_)))))
  simp only [beq_self_eq_true, if_true, pure_bind, Bool.and_false, Bool.false_eq_true, if_false, Bool.false_and]
  ksp_lk
  refine wpAny_mono one (fun r s' hr' => ?_) fun _ _ e => e
  obtain ⟨v, rfl, hq⟩ := hr'
  ksp_lk
  exact hq
/-- an own instance op a value of a built-in type -/
theorem own_side {op : Operator} {T : String} {b : Value} {fo ro rc : Option Value} {Q : Value → Shared → Prop} (F : Fr h₀ L s.heap m) (X₀ : K.In h₀) (I : InstAt s.heap x ox C od) (J : Looks (model prog w) s.heap (typeOf b) (.type T))
    (hc : selfFirst K C = true) (hs : findIn K (.ref C) (PySem.dunder op.info.2) = some (some (.ref f))) (hf : isFn K (.ref f) = true) (hr : findIn K (.ref C) (dunderR op.info.2) = some rc) (hp : rc = none ∨ ∃ g : Addr, rc = some (.ref g))
    (k1 : findIn K (.type T) (PySem.dunder op.info.2) = some fo) (k2 : findIn K (.type T) (dunderR op.info.2) = some ro) (hsub : subIn K (.type T) (.ref C) = some false)
    (h : wpAny (model prog w) A (call (.ref f) [.ref x, b]) (W.CmpBack Q) E s) : wpAny (model prog w) A (binaryOp op (.ref x) b) Q E s := by
  have X := X₀.keeps F.keep
  obtain ⟨cd, rest, hcd, hm⟩ := ksp_first hc
  rcases hi : op.info with ⟨sym, nm'⟩
  rw [hi] at hs hr k1 k2
  dsimp only at hs hr k1 k2
  have one := ksp_try X I hs hf h
  obtain ⟨hh, g, d, tt, os⟩ := s
  have A1 : Looks (model prog w) hh (typeOf (.ref x)) (.ref C) := I.type
  have A2 : Looks (model prog w) hh (typeOf b) (.type T) := J
  have A3 : Looks (model prog w) hh (fillsNumberSlot (.ref C) nm') true := fills_K X hcd hm hs
  have A4 : Looks (model prog w) hh (fillsNumberSlot (.type T) nm') ((fo.isSome && !isSeqSlot fo) || (ro.isSome && !isSeqSlot ro)) := ksp_fillsT X k1 k2
  have A5 : Looks (model prog w) hh (isSubtype (.type T) (.ref C)) false := looks_subIn X hsub
  have A6 : Looks (model prog w) hh (numberSlotInPython (.ref C) nm') true := ksp_inPy X hs hr hp
  have A7 : Looks (model prog w) hh (numberSlotInPython (.type T) nm') false := Looks.of_pure rfl
  have A8 : Looks (model prog w) hh (typeLookup (.type T) (dunderR nm')) ro := looks_findIn X k2
  generalize ((fo.isSome && !isSeqSlot fo) || (ro.isSome && !isSeqSlot ro)) = right at A4
  have hne : (Value.ref C == Value.type T) = false := Bool.eq_false_iff.mpr fun q => by cases beq_iff_eq.mp q
  simp only [binaryOp, hi]
  refine wpAny_holding (wpAny_bind ?_)
  unfold binaryOp1
  refine wpAny_bind (A1.at (wpAny_bind (A2.at (wpAny_bind (A3.at ?_)))))
  simp only [hne, Bool.false_eq_true, if_false]
  cases right <;>
  · ksp_lk
    refine wpAny_mono one (fun r s' hr' => ?_) fun _ _ e => e
    obtain ⟨v, rfl, hq⟩ := hr'
    ksp_lk
    exact hq
/-- an int op an own instance: by the reflected name -/
theorem own_refl {op : Operator} {a : Int} {t : Tok} {idl : String} {g0 : Addr} {Q : Value → Shared → Prop} (F : Fr h₀ L s.heap m) (X₀ : K.In h₀) (J : InstAt s.heap y oy C odd)
    (hc : selfFirst K C = true) (hs : findIn K (.ref C) (dunderR op.info.2) = some (some (.ref f))) (hf : isFn K (.ref f) = true) (hl0 : findIn K (.ref C) (PySem.dunder op.info.2) = some (some (.ref g0)))
    (hfT : fillsNumberSlot (.type "int") op.info.2 = pure true) (hsub : subIn K (.ref C) (.type "int") = some false) (sl : Slot "int" (PySem.dunder op.info.2) idl)
    (hdec : ∀ (Q' : Value → Shared → Prop), Q' .notImplemented s → wpAny (model prog w) A (call (.builtin idl) [.int a t, .ref y]) Q' E s)
    (h : wpAny (model prog w) A (call (.ref f) [.ref y, .int a t]) (W.CmpBack Q) E s) : wpAny (model prog w) A (binaryOp op (.int a t) (.ref y)) Q E s := by
  have X := X₀.keeps F.keep
  rcases hi : op.info with ⟨sym, nm'⟩
  rw [hi] at hs hl0 hfT sl
  dsimp only at hs hl0 hfT sl
  obtain ⟨cd, rest, hcd, hm⟩ := ksp_first hc
  have one := ksp_try X J hs hf h
  have e1 : s.TypeIs (.int a t) "int" := typeIs_int s a t
  obtain ⟨hh, g, d, tt, os⟩ := s
  have L2 : Looks (model prog w) hh (typeOf (.ref y)) (.ref C) := J.type
  have L3 : Looks (model prog w) hh (fillsNumberSlot (.ref C) nm') true := fills_K X hcd hm hl0
  have L5 : Looks (model prog w) hh (isSubtype (.ref C) (.type "int")) false := looks_subIn X hsub
  have hne : (Value.type "int" == Value.ref C) = false := Bool.eq_false_iff.mpr fun q => by cases beq_iff_eq.mp q
  have hpy : numberSlotInPython (.type "int") nm' = pure false := rfl
  simp only [binaryOp, hi]
  refine wpAny_holding (wpAny_bind ?_)
  unfold binaryOp1
  refine wpAny_bind (wpAny_typeOf e1 (wpAny_bind (L2.at (wpAny_bind (wpAny_of_eq hfT ?_)))))
  simp only [hne, Bool.false_eq_true, if_false]
  refine wpAny_bind (L3.at ?_)
  simp only [Bool.and_self, if_true]
  refine wpAny_bind (L5.at ?_)
  simp only [Bool.false_eq_true, if_false, pure_bind, Bool.not_false, Bool.and_self, if_true, hpy]
  refine wpAny_bind (wpAny_tryMethod_declines e1 sl (hdec _ ⟨rfl, ?_⟩))
  ksp_lk
  refine wpAny_mono one (fun r s' hr' => ?_) fun _ _ e => e
  obtain ⟨v, rfl, hq⟩ := hr'
  ksp_lk
  exact hq
end
end PyD
set_option Elab.async false
set_option linter.all false
set_option autoImplicit false
set_option maxRecDepth 100000
set_option maxHeartbeats 4000000
/-! # Own comparisons at the model's level -/
namespace PyD
open PySem PySem.W PySem.Calls PyProof.Rows
section
variable {prog : Program} {w : World} {A : Around} {E : Value → Shared → Prop} {s : Shared} {K : Frag} {x y C L f : Addr} {h₀ : Heap} {m : Str → Option Value} {ox oy : Obj} {od odd : Option Obj} {b : Value}
/-- an own comparison answers -/
theorem own_tryCmp {name : Str} {Q : Option Value → Shared → Prop} (X : K.In s.heap) (I : InstAt s.heap x ox C od) (hs : findIn K (.ref C) name = some (some (.ref f))) (hf : isFn K (.ref f) = true)
    (h : wpAny (model prog w) A (call (.ref f) [.ref x, b]) (W.CmpBack fun v s' => Q (some v) s') E s) : wpAny (model prog w) A (tryCompare (.ref x) name b) Q E s := by
  unfold tryCompare
  refine wpAny_bind (ifBound_K X I hs hf (wpAny_mono h (fun v s' hv => ?_) fun _ _ e => e))
  cases v <;> first | exact hv.elim | exact wpAny_pure hv
/-- an int compared with an own instance: by the reflected name -/
theorem own_cmp_refl {op : CmpOp} {a : Int} {t : Tok} {idl : String} {Q : Value → Shared → Prop} (hu : A.units < cLine) (X : K.In s.heap) (J : InstAt s.heap y oy C odd)
    (hs : findIn K (.ref C) (cmpInfo op).2.2 = some (some (.ref f))) (hf : isFn K (.ref f) = true) (hsub : subIn K (.ref C) (.type "int") = some false) (sl : Slot "int" (cmpInfo op).2.1 idl)
    (hdec : ∀ (Q' : Value → Shared → Prop), Q' .notImplemented s → wpAny (model prog w) A (call (.builtin idl) [.int a t, .ref y]) Q' E s)
    (h1 : oneThing? op (.int a t) (.ref y) = none)
    (h : wpAny (model prog w) A (call (.ref f) [.ref y, .int a t]) (W.CmpBack Q) E s) : wpAny (model prog w) A (richCompare op (.int a t) (.ref y)) Q E s := by
  have e1 : s.TypeIs (.int a t) "int" := typeIs_int s a t
  have hne : (Value.type "int" != Value.ref C) = true := rfl
  unfold richCompare
  simp only [h1]
  refine wpAny_holding (wpAny_bind (wpAny_cRoomFor hu ?_))
  refine wpAny_bind (wpAny_typeOf e1 (wpAny_bind (J.type.here ?_)))
  simp only [hne, if_true]
  refine wpAny_bind ((looks_subIn X hsub).here ?_)
  simp only [Bool.false_eq_true, if_false, Bool.not_false, if_true]
  refine wpAny_bind (m := tryCompare (.int a t) _ (.ref y)) (wpAny_tryCompare_declines e1 sl (hdec _ ⟨rfl, ?_⟩))
  refine wpAny_bind (m := tryCompare (.ref y) _ (.int a t)) (own_tryCmp X J hs hf (wpAny_mono h (fun v s' hv => ?_) fun _ _ e => e))
  cases v <;> first | exact hv.elim | exact wpAny_pure hv
/-- != where the class has __eq__ alone -/
theorem own_ne {tb : Value} {Q : Value → Shared → Prop} (hu : A.units + 1 < cLine) (X : K.In s.heap) (I : InstAt s.heap x ox C od) (hb : Looks (model prog w) s.heap (typeOf b) tb) (hn : notFirst K C tb = true)
    (hs : findIn K (.ref C) "__eq__" = some (some (.ref f))) (hf : isFn K (.ref f) = true) (hne : findIn K (.ref C) "__ne__" = some (some (.builtin "object.__ne__"))) (hm : mroIn K C (.type "object") = some true)
    (h : wpAny (model prog w) A.in1 (call (.ref f) [.ref x, b]) (fun v s' => ∃ k, v = .bool k ∧ Q (.bool (!k)) s') E s) : wpAny (model prog w) A (richCompare .NotEq (.ref x) b) Q E s := by
  have ent : wpAny (model prog w) A.in1 (Builtin.«object.__ne__» ⟨[.ref x, b], []⟩) (fun fin s' => ∃ k, fin = .done (.ret (.bool k)) ∧ Q (.bool k) s') E s := by
    unfold Builtin.«object.__ne__»
    repeat (first
      | with_reducible refine wpAny_cRoomFor hu ?_
      | (refine wpAny_bind (m := callSpecialIfBound? (.ref x) (Str.ofString "__eq__") [b])
          (ifBound_K X I hs hf (wpAny_mono h (fun r s' hr => by
            obtain ⟨k, rfl, hq⟩ := hr
            repeat (first | exact ⟨_, rfl, hq⟩ | exact wpAny_pure ⟨_, rfl, hq⟩ | exact wpAny_truthy_bool ⟨_, rfl, hq⟩ | (refine wpAny_bind (m := truthy (.bool _)) (wpAny_truthy_bool ?_)) | wp_step)) fun _ _ e => e)))
      | wp_step)
  have one : wpAny (model prog w) A (tryCompare (.ref x) "__ne__" b) (fun r s' => ∃ k, r = some (.bool k) ∧ Q (.bool k) s') E s := by
    have cl : wpAny (model prog w) A (call (.builtin "object.__ne__") [.ref x, b]) (fun v s' => ∃ k, v = .bool k ∧ Q (.bool k) s') E s := by
      refine wpAny_call (codeAny_call_builtin F.cmp_object.ne.plain F.cmpEntry_ne (PySem.W.check_slot F.cmpKind_ne F.cmpSplit_ne (I.type.andThen (PySem.W.looks_mroIn X hm)) (F.cmpArgs_ne _ _) (wpAny_mono ent (fun fin s' hq => ?_) fun _ _ e => e)))
      obtain ⟨k, rfl, hq⟩ := hq
      exact ⟨k, rfl, hq⟩
    unfold tryCompare
    simp only [callSpecialIfBound?, bindSpecialIfBound?]
    refine wpAny_bind ?_
    refine wpAny_holding (wpAny_bind (wpAny_bind (wpAny_bind (I.type.here ((PySem.W.looks_findIn X hne).here ?_)))))
    refine wpAny_bind (wpAny_askSetting (wpAny_ite ?_))
    have fin : wpAny (model prog w) A (call (.builtin "object.__ne__") ([.ref x] ++ [b]) >>= fun v => pure (some v)) (fun o s' => ∃ k, o = some (.bool k) ∧ Q (.bool k) s') E s :=
      wpAny_bind (wpAny_mono cl (fun v s' ⟨k, h1, h2⟩ => wpAny_pure ⟨k, by rw [h1], h2⟩) fun _ _ h' => h')
    have fin2 : wpAny (model prog w) A (call (.builtin "object.__ne__") ([.ref x] ++ [b]) >>= fun v => pure (some v)) (fun o s' => wpAny (model prog w) A (match o with | some .notImplemented | none => pure none | some v => pure (some v)) (fun r s' => ∃ k, r = some (.bool k) ∧ Q (.bool k) s') E s') E s :=
      wpAny_mono fin (fun o s' ⟨k, h1, h2⟩ => by subst h1; exact wpAny_pure ⟨k, rfl, h2⟩) fun _ _ h' => h'
    split
    · exact wpAny_bind (wpAny_of_eq (F.cmp_object.ne.bind _) (wpAny_pure (by exact fin2)))
    · exact wpAny_tryCatch (wpAny_bind (wpAny_of_eq (F.cmp_object.ne.bind _) (wpAny_pure (by exact fin2))))
  unfold richCompare
  simp only [oneThing_ref]
  refine wpAny_holding (wpAny_bind (wpAny_cRoomFor (Nat.lt_of_succ_lt hu) ?_))
  refine wpAny_bind (I.type.here (wpAny_bind (hb.here ?_)))
  rw [cmpInfo_NotEq]
  dsimp only
  split
  · rename_i q
    have e : subIn K tb (.ref C) = some false := by
      rcases Bool.or_eq_true_iff.mp hn with e | e
      · rw [beq_iff_eq.mp e] at q; simp at q
      · exact beq_iff_eq.mp e
    refine wpAny_bind ((looks_subIn X e).here ?_)
    simp only [Bool.false_eq_true, if_false]
    refine wpAny_bind (wpAny_mono one (fun r s' z => ?_) fun _ _ e => e)
    obtain ⟨k, rfl, hq⟩ := z
    exact wpAny_pure hq
  · refine wpAny_bind (wpAny_pure ?_)
    simp only [Bool.false_eq_true, if_false]
    refine wpAny_bind (wpAny_mono one (fun r s' z => ?_) fun _ _ e => e)
    obtain ⟨k, rfl, hq⟩ := z
    exact wpAny_pure hq
end
end PyD
set_option Elab.async false
set_option linter.all false
set_option autoImplicit false
set_option maxRecDepth 100000
set_option maxHeartbeats 4000000
/-! # Own operators in place: by the plain ones -/
namespace PyD
open PySem PySem.W PySem.Calls PyProof.Rows
section
variable {prog : Program} {w : World} {A : Around} {E : Value → Shared → Prop} {s : Shared} {K : Frag} {x y C L f : Addr} {h₀ : Heap} {m : Str → Option Value} {ox oy : Obj} {od odd : Option Obj} {nm : String}
theorem none_of_all {M : Model} {h : Heap} {nm : String} {add : Bool} (X : K.In h) : ∀ {l : List Value}, (∀ t ∈ l, findIn K t (dunderI nm) = some none) → Looks M h (l.anyM fun c => do
    let some x ← typeLookup c (dunderI nm) | return false
    if let .type _ := c then return !isSeqSlot (some x)
    if !ownNameWrapper x (dunderI nm) then return true
    if !(← inheritsSeqSlot c (dunderI nm)) then return true
    if add then return (← seqSlot? c (dunderI nm)).isSome
    return false) false
  | [], _ => Looks.of_pure rfl
  | t :: l, hl => by
    have ih := none_of_all (M := M) (add := add) X (l := l) fun t h => hl t (List.mem_cons_of_mem _ h)
    have h1 : Looks M h (typeLookup t (dunderI nm)) none := looks_findIn X (hl t List.mem_cons_self)
    rw [List.anyM_cons]
    intro A Q E s k q
    refine wpAny_bind (wpAny_bind (h1 A _ E s k ?_))
    refine wpAny_pure ?_
    exact ih A _ E s k q
theorem noFillI {M : Model} {h : Heap} {cd : ClassData} {nm : String} {add : Bool} (X : K.In h) (hc : clsIn K C = some cd) (hn : ∀ t ∈ cd.mro, findIn K t (dunderI nm) = some none) : Looks M h (fillsInplaceSlot (.ref C) nm add) false := by
  intro A Q E s k q
  have Lm : Looks M h (mroOf (.ref C)) cd.mro := (looks_clsIn X hc).andThen (f := fun cd => pure cd.mro) .now
  unfold fillsInplaceSlot
  exact wpAny_bind (Lm A _ E s k (none_of_all X hn A _ E s k q))
/-- a op= b, both of one own class -/
theorem own_same_in {op : Operator} {cd : ClassData} {Q : Value → Shared → Prop} (F : Fr h₀ L s.heap m) (X₀ : K.In h₀) (I : InstAt s.heap x ox C od) (J : InstAt s.heap y oy C odd) (hc : selfFirst K C = true) (hcd : clsIn K C = some cd) (hn : ∀ t ∈ cd.mro, findIn K t (dunderI op.info.2) = some none)
    (hs : findIn K (.ref C) (PySem.dunder op.info.2) = some (some (.ref f))) (hf : isFn K (.ref f) = true)
    (h : wpAny (model prog w) A (call (.ref f) [.ref x, .ref y]) (W.CmpBack Q) E s) : wpAny (model prog w) A (inplaceOp op (.ref x) (.ref y)) Q E s := by
  have X := X₀.keeps F.keep
  obtain ⟨cd', rest, hcd', hm⟩ := ksp_first hc
  have one := ksp_try X I hs hf h
  have L3 : Looks (model prog w) s.heap (fillsNumberSlot (.ref C) op.info.2) true := fills_K X hcd' hm hs
  have L4 : Looks (model prog w) s.heap (fillsInplaceSlot (.ref C) op.info.2 (op == .Add)) false := noFillI X hcd hn
  obtain ⟨hh, g, d, tt, os⟩ := s
  have L1 : Looks (model prog w) hh (typeOf (.ref x)) (.ref C) := I.type
  have L2 : Looks (model prog w) hh (typeOf (.ref y)) (.ref C) := J.type
  unfold inplaceOp
  refine wpAny_holding (wpAny_bind (L1.at (wpAny_bind (L4.at ?_))))
  simp only [Bool.false_eq_true, if_false]
  refine wpAny_bind ?_
  unfold binaryOp1
  refine wpAny_bind (L1.at (wpAny_bind (L2.at (wpAny_bind (L3.at ?_)))))
  simp only [beq_self_eq_true, if_true, pure_bind, Bool.and_false, Bool.false_eq_true, if_false, Bool.false_and]
  ksp_lk
  refine wpAny_mono one (fun r s' hr' => ?_) fun _ _ e => e
  obtain ⟨v, rfl, hq⟩ := hr'
  ksp_lk
  exact hq
/-- an own instance op= a value of a built-in type -/
theorem own_side_in {op : Operator} {cd : ClassData} {T : String} {b : Value} {fo ro rc : Option Value} {Q : Value → Shared → Prop} (F : Fr h₀ L s.heap m) (X₀ : K.In h₀) (I : InstAt s.heap x ox C od) (J : Looks (model prog w) s.heap (typeOf b) (.type T))
    (hc : selfFirst K C = true) (hcd : clsIn K C = some cd) (hn : ∀ t ∈ cd.mro, findIn K t (dunderI op.info.2) = some none) (hs : findIn K (.ref C) (PySem.dunder op.info.2) = some (some (.ref f))) (hf : isFn K (.ref f) = true) (hr : findIn K (.ref C) (dunderR op.info.2) = some rc) (hp : rc = none ∨ ∃ g : Addr, rc = some (.ref g))
    (k1 : findIn K (.type T) (PySem.dunder op.info.2) = some fo) (k2 : findIn K (.type T) (dunderR op.info.2) = some ro) (hsub : subIn K (.type T) (.ref C) = some false)
    (h : wpAny (model prog w) A (call (.ref f) [.ref x, b]) (W.CmpBack Q) E s) : wpAny (model prog w) A (inplaceOp op (.ref x) b) Q E s := by
  have X := X₀.keeps F.keep
  obtain ⟨cd', rest, hcd', hm⟩ := ksp_first hc
  have one := ksp_try X I hs hf h
  have A3 : Looks (model prog w) s.heap (fillsNumberSlot (.ref C) op.info.2) true := fills_K X hcd' hm hs
  have A4 : Looks (model prog w) s.heap (fillsNumberSlot (.type T) op.info.2) ((fo.isSome && !isSeqSlot fo) || (ro.isSome && !isSeqSlot ro)) := ksp_fillsT X k1 k2
  have A6 : Looks (model prog w) s.heap (numberSlotInPython (.ref C) op.info.2) true := ksp_inPy X hs hr hp
  have A8 : Looks (model prog w) s.heap (typeLookup (.type T) (dunderR op.info.2)) ro := looks_findIn X k2
  have A9 : Looks (model prog w) s.heap (fillsInplaceSlot (.ref C) op.info.2 (op == .Add)) false := noFillI X hcd hn
  obtain ⟨hh, g, d, tt, os⟩ := s
  have A1 : Looks (model prog w) hh (typeOf (.ref x)) (.ref C) := I.type
  have A2 : Looks (model prog w) hh (typeOf b) (.type T) := J
  have A5 : Looks (model prog w) hh (isSubtype (.type T) (.ref C)) false := looks_subIn X hsub
  have A7 : Looks (model prog w) hh (numberSlotInPython (.type T) op.info.2) false := Looks.of_pure rfl
  generalize ((fo.isSome && !isSeqSlot fo) || (ro.isSome && !isSeqSlot ro)) = right at A4
  have hne : (Value.ref C == Value.type T) = false := Bool.eq_false_iff.mpr fun q => by cases beq_iff_eq.mp q
  unfold inplaceOp
  refine wpAny_holding (wpAny_bind (A1.at (wpAny_bind (A9.at ?_))))
  simp only [Bool.false_eq_true, if_false]
  refine wpAny_bind ?_
  unfold binaryOp1
  refine wpAny_bind (A1.at (wpAny_bind (A2.at (wpAny_bind (A3.at ?_)))))
  simp only [hne, Bool.false_eq_true, if_false]
  cases right <;>
  · ksp_lk
    refine wpAny_mono one (fun r s' hr' => ?_) fun _ _ e => e
    obtain ⟨v, rfl, hq⟩ := hr'
    ksp_lk
    exact hq
end
end PyD
set_option Elab.async false
set_option linter.all false
set_option autoImplicit false
set_option maxRecDepth 100000
set_option maxHeartbeats 4000000
/-! # Operators over trees -/
namespace PyD
open PySem PySem.Spec L2

def cmk : CmpOp → Nat
  | .Lt => 14 | .LtE => 15 | .Gt => 16 | .GtE => 17 | .Eq => 18 | _ => 1000
def cmr : CmpOp → Nat
  | .Lt => 16 | .LtE => 17 | .Gt => 14 | .GtE => 15 | .Eq => 18 | _ => 1000
def Ty.v (G : Gam) : Ty → Value
  | Ty.b n => .type n
  | Ty.c j => .ref (G.cl j)
/-- what the operators want of the classes -/
structure GOps (K : PySem.W.Frag) (G : Gam) : Prop where
  ok : GOk K G
  dund : ∀ i, i < dunders.length → G.nm i = dunders.getD i ""
  /-- a class whose instances meet built-in values in operators -/
  side : ∀ c k i, G.dn c k = some i → k < 14 → ∀ T ∈ sideTs, (PySem.W.findIn K (.type T) (G.nm k)).isSome = true
  sub : ∀ c k i, G.dn c k = some i → k < 19 → ∀ T ∈ sideTs, PySem.W.subIn K (.type T) (.ref (G.cl c)) = some false
  subI : ∀ c k i, G.dn c k = some i → k < 19 → PySem.W.subIn K (.ref (G.cl c)) (.type "int") = some false
  inj : ∀ c c', G.cl c = G.cl c' → c = c'
  inI : ∀ c op i, G.dn c (opk op) = some i → opk op < 14 → ∃ cd, PySem.W.clsIn K (G.cl c) = some cd ∧ ∀ t ∈ cd.mro, PySem.W.findIn K t (PySem.dunderI op.info.2) = some none
  gi : ∀ c k i, (k = 23 ∨ k = 25) → G.dn c k = some i → PySem.W.fnIn K (G.adr i) = true
  ne : ∀ c i, G.dn c 18 = some i → PySem.W.findIn K (.ref (G.cl c)) "__ne__" = some (some (.builtin "object.__ne__")) ∧ PySem.W.mroIn K (G.cl c) (.type "object") = some true
  fmt : ∀ c i, G.dn c 26 = some i → PySem.W.findIn K (.ref (G.cl c)) "__format__" = some (some (.builtin "object.__format__")) ∧ PySem.W.mroIn K (G.cl c) (.type "object") = some true
  nsub : ∀ c c', G.nsub c c' = true → PySem.W.subIn K (.ref (G.cl c')) (.ref (G.cl c)) = some false
/-- C.m is the def at f, called without the class -/
def SmOf (K : PySem.W.Frag) (C : Addr) (m : Str) (f : Addr) : Prop :=
  ∃ (mc : Value) (p : Addr) (rest : List Value), PySem.W.specialIn K (.ref C) "__getattribute__" = some (some (.builtin "type.__getattribute__")) ∧ PySem.W.typeIn K (.ref C) = some mc ∧ PySem.W.readsIn K C mc = true ∧
    PySem.W.findCls K (.ref C) mc m = some (.get (.builtin "staticmethod.__get__") (.ref p) .none (.ref C)) ∧ PySem.W.recIn K p "staticmethod" = some (.ref f :: rest) ∧ PySem.W.handedIn (.ref f) = true ∧ PySem.W.keepIn K (.ref f) = true
/-- what isinstance asks of an own class -/
def InsOf (K : PySem.W.Frag) (C : Addr) : Prop := Cls K C ∧ PySem.W.findIn K (.ref C) "__class__" = some (some (.builtin "object.__class__")) ∧ PySem.W.specialIn K (.builtin "object.__class__") "__get__" = some (some (.builtin "getset_descriptor.__get__")) ∧
  PySem.W.takesIn K (.builtin "object.__class__") = some true ∧ PySem.W.mroIn K C (.type "object") = some true
structure GG (K : PySem.W.Frag) (mg : Str → Option Value) (G : Gam) : Prop where
  ops : GOps K G
  dm : ∀ c k n i, G.dm c k n = some i → Cls K (G.cl c) ∧ Meth K (G.cl c) (G.nm k) (G.adr i) ∧ G.ks i = n
  pr : ∀ c k i, G.pr c k = some i → Cls K (G.cl c) ∧ G.ks i = [] ∧ G.isC i = false ∧ ∃ p, PropOf K (G.cl c) (G.nm k) p (G.adr i)
  sm : ∀ c k n i, G.sm c k n = some i → SmOf K (G.cl c) (G.nm k) (G.adr i) ∧ G.ks i = n
  cm : ∀ c k n i, G.cm c k n = some i → (∃ mc p, ClX.CRead K (G.cl c) mc ∧ ClX.CMet K (G.cl c) mc (G.nm k) p (G.adr i)) ∧ G.ks i = n
  gn : ∀ i x, G.gn i = some x → mg x = some (.ref (G.adr i)) ∧ PySem.W.keepIn K (.ref (G.adr i)) = true ∧ (x == ("__debug__" : Str)) = false
  cn : ∀ c x, G.cn c = some x → mg x = some (.ref (G.cl c)) ∧ (x == ("__debug__" : Str)) = false
  kon : ∀ j x d, G.kon j = some (x, d) → (∃ u v, mg x = some u ∧ RelV v u ∧ ∀ I, Rep K G I d v) ∧ (x == ("__debug__" : Str)) = false
  ist : ∀ t c b, G.ist t c = some b → PySem.W.kitOne K (t.v G) (c.v G) = some b
  isc : ∀ c t b, G.ist (.c c) t = some b → InsOf K (G.cl c)
  blt : ∀ x, x ∈ bltNames → mg x = none
  cv : ∀ c k d, G.cv c k = some d → ∃ mc u v, ClX.CRead K (G.cl c) mc ∧ ClX.CVal K (G.cl c) mc (G.nm k) v u ∧ ∀ I, Rep K G I d v
  iv : ∀ c k d, G.iv c k = some d → Cls K (G.cl c) ∧ ∃ u v, Con K (G.cl c) (G.nm k) v u ∧ ∀ I, Rep K G I d v
/-- what may be called: a def, or a class by its __init__ -/
def FnQ (P : Program) (w : World) (K : PySem.W.Frag) (mg : Str → Option Value) (base : Heap) (G : Gam) (k : Nat) (b : Bool) (f : Value) (ks : List Str) (sd : SpD) : Prop := match b with
  | false => FnD P w K mg base G k f ks sd
  | true => ∃ k' c fi si, k = k' + 1 ∧ f = .ref (G.cl c) ∧ Mk K (G.cl c) fi ∧ FnD P w K mg base G k' (.ref fi) ks si ∧
      ∀ ds M K1 E1, sd ds M K1 E1 → ∀ a, M a = none → si (.loc a :: ds) (updM M a (.inst c [])) (fun d M' => d = .non ∧ ((∃ fs, M' a = some (.inst c fs) ∧ K1 (.obj c fs) (delM M' a)) ∨ K1 (.loc a) M')) E1
theorem FnQ.mono {P : Program} {w : World} {K : PySem.W.Frag} {mg : Str → Option Value} {base : Heap} {G : Gam} {j k : Nat} {b : Bool} {f : Value} {ks : List Str} {sd : SpD} (F : FnQ P w K mg base G j b f ks sd) (h : j ≤ k) : FnQ P w K mg base G k b f ks sd := by
  cases b with
  | false => exact FnD.mono F h
  | true =>
    obtain ⟨k', c, fi, si, rfl, e, m, F, hs⟩ := F
    obtain ⟨n, rfl⟩ : ∃ n, k = n + 1 := ⟨k - 1, by omega⟩
    exact ⟨n, c, fi, si, rfl, e, m, F.mono (by omega), hs⟩
theorem FnQ.call {X : Cx} {G : Gam} {B : Bs} {W : WX} {k : Nat} {b : Bool} {f : Value} {ks : List Str} {sd : SpD} {A : Around} {pins : List (Addr × Obj)} {s : Shared} {σ : L2.St} {H : Hp} {Q : VK} {xs : List V} {us ws : List Value} (F : FnQ X.prog X.w X.K X.mg X.base G k b f ks sd) (hr : Room k A) (hg : A.guards = some []) (hf : A.frames = some X.stack)
    (tk : Takes X W) (I : L2.Inv X pins σ H s) (r : Vals xs (us ++ ws)) (hl : ws.length = ks.length) (t : TEds X.K G B W (spT sd) xs σ H Q) : wpAny (model X.prog X.w) A (PySem.call f us (ks.zip ws)) (EP X pins σ Q) X.xe s := by
  cases b with
  | false => exact FnD.call F hr hg hf tk I r hl t
  | true =>
    obtain ⟨k, c, fi, si, rfl, rfl, M, F, hs⟩ := F
    obtain ⟨ρ, M0, J, K1, E1, ds, sr, r2, t, ok, er⟩ := t
    have np : H (s.heap.objs.size) = none := I.hok.fresh (Nat.le_refl _)
    have nq : H (s.heap.objs.size + 1) = none := I.hok.fresh (Nat.le_succ _)
    have nM := sr.good.freeM nq
    have I2 := Inv.made (C := G.cl c) I
    have g1 := sr.good.addH (o := .own (s.heap.objs.size + 1)) np
    have f1 := sr.good.addH_frm (o := .own (s.heap.objs.size + 1)) np
    have nq2 : upd H s.heap.objs.size (.own (s.heap.objs.size + 1)) (s.heap.objs.size + 1) = none := by rw [upd_ne (Nat.succ_ne_self s.heap.objs.size)]; exact nq
    have mr : MRep X.K G J (.inst c []) (.ins (G.cl c) s.heap.objs.size []) := ⟨_, [], rfl, by unfold RepF; rfl⟩
    have g2 := g1.addM (o := .ins (G.cl c) s.heap.objs.size []) nq2 mr
    have f2 := g1.addM_frm (o := .ins (G.cl c) s.heap.objs.size []) (mo := .inst c []) nq2
    have sr2 := (sr.step g1 f1).step g2 f2
    have hq := hs ds M0 K1 E1 t _ nM
    have hg2 : (A.under (.builtin "type.__call__" ⟨.ref (G.cl c) :: us, ks.zip ws⟩)).guards = some [] := by
      first | exact hg | (simpa [Around.under, Code.isGuard, guardIds] using hg)
    have e0 := I2.env0
    have e1 : Env0 X.prog X.w X.K X.mg X.base A X.stack _ _ := ⟨hf, e0.mod, e0.bs, e0.bsz, e0.funs, e0.frf, e0.hok, e0.bare⟩
    refine wpAny_call (make_map (f := fi) I.kIn M.makes M.init (beq_iff_eq.mp M.fn) (codeAny_mono (F.run _ X.stack _ _ (.ref (s.heap.objs.size + 1) :: us) ws (.ref (s.heap.objs.size + 1) :: xs) (.loc (s.heap.objs.size + 1) :: ds) _ J _ E1 (fun v H' => v = .non ∧ Q (.ref (s.heap.objs.size + 1)) H') (fun cls dx H' => W cls dx σ H')
      (hr.make (G.cl c) us (ks.zip ws)) hg2 (e1.make (G.cl c) us (ks.zip ws)) (.cons (rfl : RelV (.ref _) (.ref _)) r) hl g2 (.cons (by unfold Rep; rfl) r2) hq ?_ (fun c' fs M' cls dx H' I' h g fr q => er c' fs M' cls dx H' I' h (sr2.step g fr) q)) fun z s' hz => ?_))
    · rintro d M' v H' I' ⟨rfl, h⟩ g fr q
      unfold Rep at q
      refine ⟨q, ?_⟩
      rcases h with ⟨fs, hm, h⟩ | h
      · obtain ⟨o, ho, mr2, g3, f3⟩ := g.freeze hm
        have sr3 := (sr2.step g fr).step g3 f3
        obtain ⟨dx, vfs, rfl, hF⟩ := mr2
        exact ok _ _ _ _ _ h (fr.ext.trans f3.ext) sr3 (by
          unfold Rep
          exact ⟨_, dx, vfs, rfl, upd_same, hF.ext f3.ext⟩)
      · exact ok _ _ _ _ _ h fr.ext (sr2.step g fr) (by unfold Rep; rfl)
    · cases z with
      | error e => exact tk e s' (XE.of_call I2 (fun _ _ _ h => h) hz)
      | ok fl =>
        cases fl with
        | ret u =>
          obtain ⟨v, H', I3, rv, ev, q3⟩ := I2.after hz
          subst ev
          exact ⟨rv, ⟨V.ref (s.heap.objs.size + 1), H', I3, rfl, q3⟩⟩
        | next => exact False.elim hz
        | brk => exact False.elim hz
        | cont => exact False.elim hz

/-- fields behind fields (the last one first) -/
def pathX (G : Gam) : List Nat → D → Mst → (D → Prop) → Prop
  | [], d, _, P => P d
  | k :: r, d, M, P => pathX G r d M fun e => instX e M fun c fs => G.fld c k = true ∧ ∃ y, getD k fs = some y ∧ P y
/-- what is at f is called with an instance, and gives an iterator over the keys of the dict that stands behind the fields -/
structure ItD (P : Program) (w : World) (K : PySem.W.Frag) (mg : Str → Option Value) (base : Heap) (G : Gam) (f : Addr) (path : List Nat) : Prop where
  run : ∀ (A : Around) (outer : List Env) (s : Shared) (H : Hp) (u : Value) (x : V) (d : D) (M : Mst) (I : Hp) (R : List (Key × D) → Prop) (Q : VK),
    Room 3 A → A.guards = some [] → Env0 P w K mg base A outer s H → RelV x u → Good K G I M H → Rep K G I d x → pathX G path d M (fun e => ∃ kds, e = .dct kds ∧ R kds) →
    (∀ it a ob kvs es ep kds, R kds → RepK K G I kds kvs → I a = some (.frz ob (.dK kvs)) → ob.data = .dict es ep → H it = none → s.heap.objs.size ≤ it → Q (.ref it) (upd H it (.ext fun h => h.IsKeyIter it a 0 kvs.length ep))) →
    codeAny (model P w) A (.call (.ref f) ⟨[u], []⟩) (CR (CX P w) outer P w H s Q (fun _ _ _ => False)) s

/-- what stands around a body's operations -/
structure Ctx (X : Cx) (G : Gam) (W : WX) (Γ : Nat → SpD) (kx : Nat) : Prop where
  gg : GG X.K X.mg G
  calls : ∀ i ds M K E, Γ i ds M K E → FnQ X.prog X.w X.K X.mg X.base G kx (G.isC i) (.ref (G.adr i)) (G.ks i) (Γ i)
  room : Room (kx + 6) X.A
  guards : X.A.guards = some []
  takes : Takes X W
  calm : X.calm = true
  own : PassesOwn (model X.prog X.w) X.A X.env X.xe
  iters : ∀ cc p, G.itf cc = some p → Cls X.K (G.cl cc) ∧ Meth X.K (G.cl cc) "__iter__" (G.ita cc) ∧ ItD X.prog X.w X.K X.mg X.base G (G.ita cc) p
theorem Ctx.ops {X : Cx} {G : Gam} {W : WX} {Γ : Nat → SpD} {kx : Nat} (c : Ctx X G W Γ kx) : GOps X.K G := c.gg.ops

/-! ## ints -/
def Bd (n : Nat) (i : Int) : Prop := i.natAbs < 2 ^ n
def MulOk (i j : Int) : Prop := Bd 63 i ∨ Bd 63 j ∨ ∃ a b, Bd a i ∧ Bd b j ∧ 0 < a ∧ 0 < b ∧ a + b ≤ 1000000
def DivOk (j : Int) : Prop := j ≠ 0 ∧ Bd 8000 j
def PowOk (i j : Int) : Prop := 0 ≤ j ∧ j ≤ 1000000 ∧ Bd 64 i
def intBin (op : Operator) (i j : Int) (K : D → Prop) : Prop := match op with
  | .Add => K (.int (i + j))
  | .Sub => K (.int (i - j))
  | .Mult => MulOk i j ∧ K (.int (i * j))
  | .FloorDiv => DivOk j ∧ K (.int (i.fdiv j))
  | .Mod => j ≠ 0 ∧ K (.int (i.fmod j))
  | .Pow => PowOk i j ∧ K (.int (i ^ j.toNat))
  | _ => False
def sameOrSide (c : Nat) (b : D) (M : Mst) : Prop := match b with
  | .non | .bl _ | .int _ | .str _ => True
  | .lst _ | .tup _ | .dct _ => True
  | _ => instX b M fun c' _ => c' = c
/-- .. or an instance of a class that is not below -/
def sideE (G : Gam) (c : Nat) (b : D) (M : Mst) : Prop := match b with
  | .non | .bl _ | .int _ | .str _ => True
  | .lst _ | .tup _ | .dct _ => True
  | _ => instX b M fun c' _ => (c' == c || G.nsub c c') = true
section
variable (G : Gam) (Γ : Nat → SpD)
def ownD (k : Nat) (a : D) (bs : List D) : TD := fun _ M K E => instX a M fun c _ => match G.dn c k with
    | some i => G.ks i = [] ∧ Γ i (a :: bs) M K E
    | none => False
theorem ownD_at {k : Nat} {a : D} {bs : List D} {ρ : Slots} {M : Mst} {K : KD} {E : ED} {c : Nat} {fs : List (Nat × D)} (h : ownD G Γ k a bs ρ M K E) (hi : instD a M = some (c, fs)) : ∃ i, G.dn c k = some i ∧ G.ks i = [] ∧ Γ i (a :: bs) M K E := by
  obtain ⟨c', fs', hi', h⟩ := instX_ok h
  rw [hi] at hi'
  cases hi'
  split at h
  · rename_i i e; exact ⟨i, e, h⟩
  · exact h.elim
/-- the reflected one, where the other side isn't an instance -/
def sideR (G : Gam) (c k : Nat) (b : D) : Prop := match b with
  | .obj _ _ => True
  | .loc _ => True
  | _ => (G.dn c k).isSome = true
def ownL (k : Nat) (a b : D) : TD := fun ρ M K E => instX a M fun c _ => sameOrSide c b M ∧ k < 14 ∧ sideR G c (k + 1) b ∧ ownD G Γ k a [b] ρ M K E
def ownR (k : Nat) (a b : D) : TD := fun ρ M K E => instX b M fun c _ => k < 6 ∧ (G.dn c k).isSome = true ∧ ownD G Γ (k + 1) b [a] ρ M K E
def binD (op : Operator) (a b : D) : TD := fun ρ M K E => match a with
  | .int i => (match b with
    | .int j => intBin op i j fun d => K d M
    | .obj _ _ => ownR G Γ (opk op) a b ρ M K E
    | _ => False)
  | .str x => (match b with
    | .str y => op = .Add ∧ x.length + y.length ≤ 1000000 ∧ K (.str (x ++ y)) M
    | _ => False)
  | .lst xs => (match b with
    | .lst ys => op = .Add ∧ xs.length + ys.length ≤ 1000000 ∧ K (.lst (xs ++ ys)) M
    | _ => False)
  | .obj _ _ => ownL G Γ (opk op) a b ρ M K E
  | .loc _ => ownL G Γ (opk op) a b ρ M K E
  | _ => False
end
section
variable {X : Cx} {G : Gam} {B : Bs} {W : WX} {Γ : Nat → SpD} {kx : Nat}
theorem mulOk_ok {i j : Int} (h : MulOk i j) : PySem.IntMulOk i j := by
  rcases h with h | h | ⟨a, b, ha, hb, h0, h1, hl⟩
  · exact CMul.ok (.inl (by unfold Bd at h; omega))
  · exact CMul.ok (.inr (by unfold Bd at h; omega))
  · exact (wide_mul ha hb h0 h1 hl).ok
theorem int_ok {op : Operator} {i j : Int} {t u : Tok} {pins : List (Addr × Obj)} {s : Shared} {σ : L2.St} {H : Hp} {Q : VK} (I : L2.Inv X pins σ H s) (h : intBin op i j fun d => ∀ n, d = .int n → Q (.int n) H) :
    wpAny (model X.prog X.w) X.A (binaryOp op (.int i t) (.int j u)) (EP X pins σ Q) X.xe s := by
  cases op <;> unfold intBin at h <;> first | exact h.elim | skip
  · exact op_add pins s σ H (.int i) (.int j) _ _ Q I ⟨t, rfl⟩ ⟨u, rfl⟩ ⟨i, j, rfl, rfl, h _ rfl⟩
  · exact op_sub pins s σ H (.int i) (.int j) _ _ Q I ⟨t, rfl⟩ ⟨u, rfl⟩ ⟨i, j, rfl, rfl, h _ rfl⟩
  · exact PyProof.Rows.mul_int ⟨.int _, H, I.tok _, ⟨_, rfl⟩, h.2 _ rfl⟩ (mulOk_ok h.1)
  · exact PyProof.Rows.mod_int' h.1 ⟨.int _, H, I.tok _, ⟨_, rfl⟩, h.2 _ rfl⟩
  · exact op_pow pins s σ H (.int i) (.int j) _ _ Q I ⟨t, rfl⟩ ⟨u, rfl⟩ ⟨i, j, rfl, rfl, ⟨h.1.1, h.1.2.1, h.1.2.2⟩, h.2 _ rfl⟩
  · exact PyProof.Rows.floordiv_int h.1.1 ⟨.int _, H, I.tok _, ⟨_, rfl⟩, h.2 _ rfl⟩ (.inl (PyProof.noPylong_of_log2 (Nat.lt_of_lt_of_le (PySem.Flt.log2_lt_of (by decide) h.1.2) (by decide))))
/-- the end of a step that changes nothing -/
theorem fin_ok {σ : L2.St} {H : Hp} {Q : VK} {ρ : Slots} {M : Mst} {J : Hp} {K1 : KD} {d : D} {v : V} (sr : SR X.K G B σ H ρ M J) (ok : OkC X.K G B σ ρ J K1 Q) (r : Rep X.K G J d v) (h : K1 d M) : Q v H := ok d M v H J h (.refl J) sr r
theorem rep_int {K : PySem.W.Frag} {I : Hp} {i : Int} : Rep K G I (.int i) (.int i) := by unfold Rep; rfl
theorem rep_bl {K : PySem.W.Frag} {I : Hp} {b : Bool} : Rep K G I (.bl b) (.bl b) := by unfold Rep; rfl
theorem rep_str {K : PySem.W.Frag} {I : Hp} {x : Str} : Rep K G I (.str x) (.str x) := by unfold Rep; rfl
theorem rep_non {K : PySem.W.Frag} {I : Hp} : Rep K G I .non .non := by unfold Rep; rfl
theorem intBin_imp {op : Operator} {i j : Int} {P Q : D → Prop} (h : intBin op i j P) (k : ∀ n, P (.int n) → Q (.int n)) : intBin op i j Q := by
  cases op <;> unfold intBin at h ⊢ <;> first | exact h.elim | exact k _ h | exact ⟨h.1, k _ h.2⟩
/-- an instance as the model sees it -/
theorem inst_at {pins : List (Addr × Obj)} {s : Shared} {σ : L2.St} {H : Hp} {a C dx : Addr} {fs : List (Str × V)} (I : L2.Inv X pins σ H s) (h : H a = some (.ins C dx fs)) : ∃ od, PySem.W.InstAt s.heap a (PySem.W.instObj C dx) C (some od) := by
  obtain ⟨mA, O, _⟩ := ins_get I.hok h
  obtain ⟨od, J, _⟩ := O.look
  exact ⟨od, J⟩
/-- an own callable found on a class runs -/
theorem own_run (c : Ctx X G W Γ kx) {A : Around} {pins : List (Addr × Obj)} {s : Shared} {σ : L2.St} {H : Hp} {Q : VK} {ρ : Slots} {M : Mst} {J : Hp} {K1 : KD} {E1 : ED} {i : Nat} {ds : List D} {xs : List V} {us : List Value}
    (hr : Room kx A) (hg : A.guards = some []) (hf : A.frames = some X.stack) (I : L2.Inv X pins σ H s) (sr : SR X.K G B σ H ρ M J) (rs : Reps X.K G J ds xs) (rv : Vals xs us) (hk : G.ks i = []) (h : Γ i ds M K1 E1) (ok : OkC X.K G B σ ρ J K1 Q) (er : ErC X.K G B W σ ρ E1) :
    wpAny (model X.prog X.w) A (PySem.call (.ref (G.adr i)) us) (EP X pins σ Q) X.xe s := by
  have F := c.calls i _ _ _ _ h
  have := F.call (us := us) (ws := []) hr hg hf c.takes I (by rw [List.append_nil]; exact rv) (by rw [hk]; rfl) (⟨ρ, M, J, K1, E1, ds, sr, rs, h, ok, er⟩ : TEds X.K G B W (spT (Γ i)) xs σ H Q)
  simpa using this
/-- the model's type of a datum -/
theorem cmpback {P : Value → Shared → Prop} {z : V} {v : Value} {s' : Shared} (r : RelV z v) (h : P v s') : PySem.W.CmpBack P v s' := by
  cases z <;> first
    | (obtain rfl : v = _ := r; exact h)
    | (obtain ⟨t, rfl⟩ := r; exact h)
theorem ep_back {pins : List (Addr × Obj)} {σ : L2.St} {Q : VK} {v : Value} {s' : Shared} (h : EP X pins σ Q v s') : PySem.W.CmpBack (EP X pins σ Q) v s' := by
  obtain ⟨z, H', I', r, q⟩ := h
  exact cmpback r ⟨z, H', I', r, q⟩
theorem dunder_nm (o : GOps X.K G) {op : Operator} (h : opk op < 14) : G.nm (opk op) = PySem.dunder op.info.2 ∧ G.nm (opk op + 1) = PySem.dunderR op.info.2 := by
  have h1 := o.dund (opk op) (Nat.lt_of_lt_of_le h (by decide))
  have h2 := o.dund (opk op + 1) (Nat.lt_of_le_of_lt h (by decide))
  rw [h1, h2]
  cases op <;> first | exact ⟨rfl, rfl⟩ | (exfalso; revert h; decide)
theorem side_bin (c : Ctx X G W Γ kx) {T : String} {cc i j : Nat} {op : Operator} {a : Addr} {pins : List (Addr × Obj)} {s : Shared} {σ : L2.St} {H : Hp} {dx : Addr} {vfs : List (Str × V)} {Q : Value → Shared → Prop} {u : Value} (I : L2.Inv X pins σ H s) (ha : H a = some (.ins (G.cl cc) dx vfs))
    (hT : T ∈ sideTs) (hu : PySem.W.Looks (model X.prog X.w) s.heap (typeOf u) (.type T)) (hk : opk op < 14) (h1 : G.dn cc (opk op) = some i) (h2 : G.dn cc (opk op + 1) = some j)
    (h : wpAny (model X.prog X.w) X.A (PySem.call (.ref (G.adr i)) [.ref a, u]) (PySem.W.CmpBack Q) X.xe s) : wpAny (model X.prog X.w) X.A (binaryOp op (.ref a) u) Q X.xe s := by
  obtain ⟨e1, e2⟩ := dunder_nm c.ops hk
  obtain ⟨_, m1, sf⟩ := c.ops.ok.dn _ _ _ h1
  obtain ⟨_, m2, _⟩ := c.ops.ok.dn _ _ _ h2
  obtain ⟨od, J⟩ := inst_at I ha
  obtain ⟨mf, F⟩ := I.fr
  have s1 := c.ops.side _ _ _ h1 hk T hT
  have s2 : (PySem.W.findIn X.K (.type T) (G.nm (opk op + 1))).isSome = true := c.ops.side _ _ _ h2 (by
    cases op <;> first | decide | (exfalso; revert hk; decide)) T hT
  obtain ⟨fo, s1⟩ := Option.isSome_iff_exists.mp s1
  obtain ⟨ro, s2⟩ := Option.isSome_iff_exists.mp s2
  rw [e1] at s1
  rw [e2] at s2
  obtain ⟨m11, m12, m13⟩ := m1
  obtain ⟨m21, m22, m23⟩ := m2
  rw [e1] at m11
  rw [e2] at m21
  exact own_side F I.mod.kin J hu sf m11 m12 m21 (.inr ⟨_, rfl⟩) s1 s2 (c.ops.sub _ _ _ h1 (by omega) T hT) h
theorem looks_ty {M : Model} {h : Heap} {a : Addr} {o : Obj} (ho : h.get? a = some o) : PySem.W.Looks M h (typeOf (.ref a)) o.cls := (PySem.W.Looks.ld (part := none) ho).andThen .now
theorem op2_ownL (c : Ctx X G W Γ kx) (op : Operator) : Op2 X G B W (binaryOp op) (ownL G Γ (opk op)) := by
  rintro pins s σ H Q x y v u I rx ry ⟨ρ, M, J, K1, E1, d, e, sr, r1, r2, t, ok, er⟩
  unfold ownL at t
  obtain ⟨cc, fs, hi, hs, hk, h2, t⟩ := instX_ok t
  obtain ⟨i, h1, hks, t⟩ := ownD_at _ _ t hi
  · skip
    · skip
      obtain ⟨a, dx, vfs, rfl, ha, _⟩ := instD_ok sr.good r1 hi
      obtain rfl : v = Value.ref a := rx
      have run : wpAny (model X.prog X.w) X.A (PySem.call (.ref (G.adr i)) [.ref a, u]) (PySem.W.CmpBack (EP X pins σ Q)) X.xe s :=
        thn (own_run c (c.room.mono (by omega)) c.guards I.ok.frames I sr (.cons r1 (.cons r2 .nil)) (.cons rfl (.cons ry .nil)) hks t ok er) fun _ _ h => ep_back h
      unfold sameOrSide at hs
      split at hs
      · unfold Rep at r2; subst r2
        obtain rfl : u = Value.none := ry
        obtain ⟨j, h2⟩ := Option.isSome_iff_exists.mp h2
        exact side_bin c I ha (T := "NoneType") (by decide) (PySem.W.Looks.of_pure rfl) hk h1 h2 run
      · unfold Rep at r2; subst r2
        obtain rfl : u = Value.bool _ := ry
        obtain ⟨j, h2⟩ := Option.isSome_iff_exists.mp h2
        exact side_bin c I ha (T := "bool") (by decide) (PySem.W.Looks.of_pure rfl) hk h1 h2 run
      · unfold Rep at r2; subst r2
        obtain ⟨tk, rfl⟩ := ry
        obtain ⟨j, h2⟩ := Option.isSome_iff_exists.mp h2
        exact side_bin c I ha (T := "int") (by decide) (PySem.W.Looks.of_pure rfl) hk h1 h2 run
      · unfold Rep at r2; subst r2
        obtain ⟨tk, rfl⟩ := ry
        obtain ⟨j, h2⟩ := Option.isSome_iff_exists.mp h2
        exact side_bin c I ha (T := "str") (by decide) (PySem.W.Looks.of_pure rfl) hk h1 h2 run
      · unfold Rep at r2
        obtain ⟨b, vs, rfl, hb, _⟩ := r2
        obtain rfl : u = Value.ref b := ry
        obtain ⟨its, _, ⟨o, n, ho, hc, _⟩, _⟩ := I.list (sr.good.sub.sql hb)
        obtain ⟨j, h2⟩ := Option.isSome_iff_exists.mp h2
        exact side_bin c I ha (T := "list") (by decide) (by rw [← hc]; exact looks_ty ho) hk h1 h2 run
      · unfold Rep at r2
        obtain ⟨b, vs, rfl, hb, _⟩ := r2
        obtain rfl : u = Value.ref b := ry
        obtain ⟨its, _, ⟨o, ho, hc, _⟩, _⟩ := I.tuple (sr.good.sub.sqt hb)
        obtain ⟨j, h2⟩ := Option.isSome_iff_exists.mp h2
        exact side_bin c I ha (T := "tuple") (by decide) (by rw [← hc]; exact looks_ty ho) hk h1 h2 run
      · unfold Rep at r2
        obtain ⟨b, ob, kvs, rfl, hb, _⟩ := r2
        obtain rfl : u = Value.ref b := ry
        obtain ⟨_, _, _, _, dd⟩ := dk_rd I.hok (sr.good.sub.dK hb)
        obtain ⟨o, ho, hc⟩ := dd.typeIs
        obtain ⟨j, h2⟩ := Option.isSome_iff_exists.mp h2
        exact side_bin c I ha (T := "dict") (by decide) (by rw [← hc]; exact looks_ty ho) hk h1 h2 run
      · obtain ⟨c', fs', hj, hs⟩ := instX_ok hs
        · skip
          subst hs
          obtain ⟨b, dy, vgs, rfl, hb, _⟩ := instD_ok sr.good r2 hj
          obtain rfl : u = Value.ref b := ry
          obtain ⟨e1, e2⟩ := dunder_nm c.ops hk
          obtain ⟨_, ⟨m11, m12, m13⟩, sf⟩ := c.ops.ok.dn _ _ _ h1
          obtain ⟨od, J1⟩ := inst_at I ha
          obtain ⟨od2, J2⟩ := inst_at I hb
          obtain ⟨mf, F⟩ := I.fr
          rw [e1] at m11
          exact own_same F I.mod.kin J1 J2 sf m11 m12 run
end
end PyD
set_option Elab.async false
set_option linter.all false
set_option autoImplicit false
set_option maxRecDepth 100000
set_option maxHeartbeats 4000000
/-! # Operators over trees: reflected, joined, all together -/
namespace PyD
open PySem PySem.Spec L2

theorem cat_lists (l b : Addr) (xs ys : Array Value) (n m : Nat) (sx sy : Array (Option Value)) (hz : xs.size + ys.size ≤ sizeLine) :
    Meets (Builtin.«list.__add__» ⟨[.ref l, .ref b], []⟩) (fun _ R s => s.heap.get? l = some ⟨.type "list", none, .seq xs n, sx⟩ ∧ s.heap.get? b = some ⟨.type "list", none, .seq ys m, sy⟩ ∧ R (.ok (.ret (Value.ref s.heap.objs.size))) { s with heap := s.heap.push { cls := Value.type "list", data := Data.seq (xs ++ ys) }, toks := s.toks }) :=
  .of_wp fun prog w A R s h => by
    obtain ⟨hp, g, d, tk, os⟩ := s
    obtain ⟨h1, h2, h⟩ := h
    have f1 := PySem.AutoSeq1.idx_int; have f2 := PySem.AutoSeq1.sub_tuple_tuple; have f3 := PySem.AutoSeq1.sub_list_list; have f4 := PySem.AutoSeq1.sub_tuple_list; have f5 := PySem.AutoSeq1.sub_list_tuple
    wp_walk using wpAny_loadPart' h1, wpAny_loadPart' h2
    exact ⟨_, rfl, h⟩
section
variable {X : Cx} {G : Gam} {B : Bs} {W : WX} {Γ : Nat → SpD} {kx : Nat}
theorem op2_cat : Op2 X G B W (binaryOp .Add) (fun a b _ M K _ => match a, b with
    | .lst xs, .lst ys => xs.length + ys.length ≤ 1000000 ∧ K (.lst (xs ++ ys)) M
    | _, _ => False) := by
  rintro pins s σ H Q x y v u I rx ry ⟨ρ, M, J, K1, E1, d, e, sr, r1, r2, t, ok, er⟩
  split at t
  · rename_i xs ys
    unfold Rep at r1 r2
    obtain ⟨a, vs, rfl, ha, h1⟩ := r1
    obtain ⟨b, ws, rfl, hb, h2⟩ := r2
    obtain rfl : v = Value.ref a := rx
    obtain rfl : u = Value.ref b := ry
    obtain ⟨is1, q1, ⟨o1, n1, e1, c1, d1, t1⟩, z1⟩ := I.list (sr.good.sub.sql ha)
    obtain ⟨is2, q2, ⟨o2, n2, e2, c2, d2, t2⟩, z2⟩ := I.list (sr.good.sub.sql hb)
    obtain ⟨oc1, od1, dd1, sl1⟩ := o1
    obtain ⟨oc2, od2, dd2, sl2⟩ := o2
    dsimp only at c1 d1 t1 c2 d2 t2
    subst c1 d1 t1 c2 d2 t2
    have hl1 := q1.length
    have hl2 := q2.length
    have hz : is1.toArray.size + is2.toArray.size ≤ sizeLine := by
      rw [List.size_toArray, List.size_toArray, ← hl1, ← hl2, h1.length, h2.length]
      exact line_le t.1
    refine concat_meets ⟨_, e1, rfl⟩ ⟨_, e2, rfl⟩ noFill_list_add seq_list_add F.slot_list_add F.entry_list_add (F.args_list_add_2 _ _) (cat_lists a b _ _ n1 n2 sl1 sl2 hz) ⟨e1, e2, ?_⟩
    have ea : is1.toArray ++ is2.toArray = (is1 ++ is2).toArray := by simp
    rw [ea]
    have np : H s.heap.objs.size = none := I.fresh
    refine ⟨.ref _, _, I.lnew (t' := s.toks) (q1.append q2) (by rw [List.length_append, h1.length, h2.length]; exact line_le t.1), rfl, ?_⟩
    exact ok _ _ _ _ _ t.2 (sr.good.addI_frm np).ext (sr.step (sr.good.addI np (.inl ⟨_, rfl⟩)) (sr.good.addI_frm np)) (by
      unfold Rep
      exact ⟨_, _, rfl, .of upd_same, (h1.append h2).ext (sr.good.addI_frm (o := .lst (vs ++ ws)) np).ext⟩)
  · exact t.elim
/-- an int, then an own instance -/
theorem refl_one (c : Ctx X G W Γ kx) {op : Operator} {cc i j : Nat} {idl : String} {a : Addr} {n : Int} {tk : Tok} {pins : List (Addr × Obj)} {s : Shared} {σ : L2.St} {H : Hp} {dx : Addr} {vfs : List (Str × V)} {Q : Value → Shared → Prop} (I : L2.Inv X pins σ H s) (ha : H a = some (.ins (G.cl cc) dx vfs))
    (hk : opk op < 6) (h1 : G.dn cc (opk op) = some i) (h2 : G.dn cc (opk op + 1) = some j) (hf : fillsNumberSlot (.type "int") op.info.2 = pure true) (sl : Slot "int" (PySem.dunder op.info.2) idl)
    (hdec : ∀ (oc : Value) (od : Option Addr) (ss : Array (Option Value)) (Q' : Value → Shared → Prop), s.heap.get? a = some ⟨oc, od, .plain, ss⟩ → Q' .notImplemented s → wpAny (model X.prog X.w) X.A (PySem.call (.builtin idl) [.int n tk, .ref a]) Q' X.xe s)
    (h : wpAny (model X.prog X.w) X.A (PySem.call (.ref (G.adr j)) [.ref a, .int n tk]) (PySem.W.CmpBack Q) X.xe s) : wpAny (model X.prog X.w) X.A (binaryOp op (.int n tk) (.ref a)) Q X.xe s := by
  obtain ⟨e1, e2⟩ := dunder_nm c.ops (Nat.lt_of_lt_of_le hk (by decide))
  obtain ⟨_, ⟨m11, m12, m13⟩, sf⟩ := c.ops.ok.dn _ _ _ h1
  obtain ⟨_, ⟨m21, m22, m23⟩, _⟩ := c.ops.ok.dn _ _ _ h2
  obtain ⟨od, J⟩ := inst_at I ha
  obtain ⟨mf, F⟩ := I.fr
  rw [e1] at m11
  rw [e2] at m21
  exact own_refl F I.mod.kin J sf m21 m22 m11 hf (c.ops.subI _ _ _ h1 (by omega)) sl (fun Q' q => hdec _ _ _ Q' J.at_ q) h
theorem own_of (c : Ctx X G W Γ kx) {k : Nat} {a b : D} {xa xb : V} {ua ub : Value} {cc : Nat} {fs : List (Nat × D)} {pins : List (Addr × Obj)} {s : Shared} {σ : L2.St} {H : Hp} {Q : VK} {ρ : Slots} {M : Mst} {J : Hp} {K1 : KD} {E1 : ED}
    (I : L2.Inv X pins σ H s) (sr : SR X.K G B σ H ρ M J) (r1 : Rep X.K G J a xa) (r2 : Rep X.K G J b xb) (v1 : RelV xa ua) (v2 : RelV xb ub) (hi : instD a M = some (cc, fs)) (t : ownD G Γ k a [b] ρ M K1 E1) (ok : OkC X.K G B σ ρ J K1 Q) (er : ErC X.K G B W σ ρ E1) :
    ∃ i, G.dn cc k = some i ∧ wpAny (model X.prog X.w) X.A (PySem.call (.ref (G.adr i)) [ua, ub]) (PySem.W.CmpBack (EP X pins σ Q)) X.xe s := by
  obtain ⟨i, h1, hks, t⟩ := ownD_at _ _ t hi
  exact ⟨i, h1, thn (own_run c (c.room.mono (by omega)) c.guards I.ok.frames I sr (.cons r1 (.cons r2 .nil)) (.cons v1 (.cons v2 .nil)) hks t ok er) fun _ _ h => ep_back h⟩
theorem op2_bin (c : Ctx X G W Γ kx) (op : Operator) : Op2 X G B W (binaryOp op) (binD G Γ op) := by
  rintro pins s σ H Q x y v u I rx ry ⟨ρ, M, J, K1, E1, d, e, sr, r1, r2, t, ok, er⟩
  unfold binD at t
  split at t
  · rename_i i
    unfold Rep at r1
    subst r1
    obtain ⟨tk, rfl⟩ := rx
    split at t
    · rename_i j
      unfold Rep at r2
      subst r2
      obtain ⟨tk2, rfl⟩ := ry
      exact int_ok I (intBin_imp t fun n h m e => by cases e; exact fin_ok sr ok rep_int h)
    · rename_i cc fs
      unfold ownR at t
      obtain ⟨hk, h1, t⟩ := t
      obtain ⟨i0, h1⟩ := Option.isSome_iff_exists.mp h1
      have r2' := r2
      unfold Rep at r2'
      obtain ⟨a, dx, vfs, rfl, ha, _⟩ := r2'
      have hA := sr.good.sub.ins ha
      obtain rfl : u = Value.ref a := ry
      obtain ⟨j, h2, run⟩ := own_of c I sr r2 rep_int rfl ⟨tk, rfl⟩ (rfl : instD (.obj cc fs) M = some (cc, fs)) t ok er
      cases op <;> first | exact absurd hk (by decide) | skip
      · exact refl_one c I hA hk h1 h2 F.fills_int_add F.slot_int_add (fun _ _ _ Q' g q => call_meets F.slot_int_add (typeIs_int s i tk) F.entry_int_add (F.args_int_add_2 _ _) (declines_add i tk) ⟨g, q⟩) run
      · exact refl_one c I hA hk h1 h2 F.fills_int_sub F.slot_int_sub (fun _ _ _ Q' g q => call_meets F.slot_int_sub (typeIs_int s i tk) F.entry_int_sub (F.args_int_sub_2 _ _) (declines_sub i tk) ⟨g, q⟩) run
      · exact refl_one c I hA hk h1 h2 F.fills_int_mul F.slot_int_mul (fun _ _ _ Q' g q => call_meets F.slot_int_mul (typeIs_int s i tk) F.entry_int_mul (F.args_int_mul_2 _ _) (declines_mul i tk) ⟨g, q⟩) run
    · exact t.elim
  · rename_i p
    split at t
    · rename_i q
      obtain ⟨rfl, hz, t⟩ := t
      unfold Rep at r1 r2
      subst r1 r2
      exact op_add_str pins s σ H _ _ _ _ Q I rx ry ⟨p, q, rfl, rfl, line_le hz, fin_ok sr ok rep_str t⟩
    · exact t.elim
  · rename_i p
    split at t
    · rename_i q
      obtain ⟨rfl, hz, t⟩ := t
      exact op2_cat pins s σ H Q x y v u I rx ry ⟨ρ, M, J, K1, E1, _, _, sr, r1, r2, ⟨hz, t⟩, ok, er⟩
    · exact t.elim
  · exact op2_ownL c op pins s σ H Q x y v u I rx ry ⟨ρ, M, J, K1, E1, _, _, sr, r1, r2, t, ok, er⟩
  · exact op2_ownL c op pins s σ H Q x y v u I rx ry ⟨ρ, M, J, K1, E1, _, _, sr, r1, r2, t, ok, er⟩
  · exact t.elim
end
end PyD
set_option Elab.async false
set_option linter.all false
set_option autoImplicit false
set_option maxRecDepth 100000
set_option maxHeartbeats 4000000
/-! # Equality over trees -/
namespace PyD
open PySem PySem.Spec L2

/-! ## the two loops, with both answers -/
section
open PySem.AutoSeq1 (wpAny_loadPart')
open PySem.MeetsSeq PySem.MeetsSeq2 PySem.MeetsSeq3 PySem.SeqRoads2
variable {prog : Program} {w : World} {A : Around} {R : Result → Shared → Prop}
def LstAt (h : Heap) (l : Addr) (N : Nat) (xs : Array Value) : Prop := ∃ n ss, h.get? l = some ⟨.type "list", none, .seq xs n, ss⟩ ∧ xs.size = N
/-- at each turn both lists are read anew -/
def TurnL (prog : Program) (w : World) (A : Around) (E : Value → Shared → Prop) (l b : Addr) (N : Nat) (I : Nat → Shared → Prop) (J : Shared → Prop) : Prop :=
  (∀ i s, I i s → ∃ xs ys, LstAt s.heap l N xs ∧ LstAt s.heap b N ys ∧ ∀ (h1 : i < xs.size) (h2 : i < ys.size), wpAny (model prog w) A.in1 (eqBool xs[i] ys[i]) (fun r s' => match r with
    | true => I (i + 1) s'
    | false => J s') E s) ∧ ∀ s, J s → ∃ xs ys, LstAt s.heap l N xs ∧ LstAt s.heap b N ys
theorem loop_eq (l b : Addr) (N : Nat) (I : Nat → Shared → Prop) (J : Shared → Prop) (hl : TurnL prog w A (fun e s' => R (.error e) s') l b N I J)
    (fin : ∀ s, I N s → R (.ok (.ret (.bool true))) s) (finF : ∀ s, J s → R (.ok (.ret (.bool false))) s) (k : Nat) :
    ∀ i : Nat, N - i = k → i ≤ N → ∀ s, I i s →
      wpAny (model prog w) A.in1 (Builtin.«list.__eq__.loop» ⟨[.ref l, .ref b, rawInt i, rawInt 2], []⟩) (GQ.FinOf prog w A R) (fun e s' => R (.error e) s') s := by
  induction k with
  | zero =>
    intro i hk hi s h
    obtain ⟨xs, ys, ⟨n1, s1, e1, z1⟩, ⟨n2, s2, e2, z2⟩, _⟩ := hl.1 _ _ h
    have hi' : i = N := by omega
    have hR : R (.ok (.ret (.bool true))) s := fin s (hi' ▸ h)
    obtain ⟨hp, g, d, tk, os⟩ := s
    wp_walk using wpAny_loadPart' e1, wpAny_loadPart' e2
    have q1 : xs[((i : Nat) : Int).toNat]? = none := by simp; omega
    have q2 : ys[((i : Nat) : Int).toNat]? = none := by simp; omega
    rw [q1, q2]
    wp_walk using wpAny_loadPart' e1, wpAny_loadPart' e2
    show R (.ok (.ret (.bool (xs.size == ys.size)))) _
    rw [z1, z2]
    simpa using hR
  | succ k ih =>
    intro i hk hi s h
    obtain ⟨xs, ys, ⟨n1, s1, e1, z1⟩, ⟨n2, s2, e2, z2⟩, turn⟩ := hl.1 _ _ h
    have c1 : i < xs.size := by omega
    have c2 : i < ys.size := by omega
    have ht := turn c1 c2
    obtain ⟨hp, g, d, tk, os⟩ := s
    wp_walk using wpAny_loadPart' e1, wpAny_loadPart' e2
    have q1 : xs[((i : Nat) : Int).toNat]? = some xs[i] := by simp [c1]
    have q2 : ys[((i : Nat) : Int).toNat]? = some ys[i] := by simp [c2]
    have hc : ((i : Int) + 1) = ((i + 1 : Nat) : Int) := by omega
    rw [q1, q2]
    refine wpAny_bind (wpAny_mono ht (fun r s2 h2 => ?_) fun _ _ x => x)
    cases r with
    | true =>
      have hrec := ih (i + 1) (by omega) (by omega) s2 h2
      obtain ⟨hp2, g2, d2, tk2, os2⟩ := s2
      wp_walk
      rw [hc]
      exact ⟨plainId_quiet plain_eq_loop _, codeAny_builtin entry_eq_loop (by
        rw [Around.under_plainId plain_eq_loop _]
        exact hrec)⟩
    | false =>
      have hF := finF s2 h2
      obtain ⟨us, vs, ⟨m1, t1, f1, y1⟩, ⟨m2, t2, f2, y2⟩⟩ := hl.2 _ h2
      obtain ⟨hp2, g2, d2, tk2, os2⟩ := s2
      have c3 : i < us.size := by omega
      have c4 : i < vs.size := by omega
      have q3 : us[((i : Nat) : Int).toNat]? = some us[i] := by simp [c3]
      have q4 : vs[((i : Nat) : Int).toNat]? = some vs[i] := by simp [c4]
      wp_walk using wpAny_loadPart' f1, wpAny_loadPart' f2
      rw [q3, q4]
      wp_walk
      exact hF
theorem loop_ne (l b : Addr) (N : Nat) (I : Nat → Shared → Prop) (J : Shared → Prop) (hl : TurnL prog w A (fun e s' => R (.error e) s') l b N I J)
    (fin : ∀ s, I N s → R (.ok (.ret (.bool false))) s) (finF : ∀ s, J s → R (.ok (.ret (.bool true))) s) (k : Nat) :
    ∀ i : Nat, N - i = k → i ≤ N → ∀ s, I i s →
      wpAny (model prog w) A.in1 (Builtin.«list.__eq__.loop» ⟨[.ref l, .ref b, rawInt i, rawInt 3], []⟩) (GQ.FinOf prog w A R) (fun e s' => R (.error e) s') s := by
  induction k with
  | zero =>
    intro i hk hi s h
    obtain ⟨xs, ys, ⟨n1, s1, e1, z1⟩, ⟨n2, s2, e2, z2⟩, _⟩ := hl.1 _ _ h
    have hi' : i = N := by omega
    have hR : R (.ok (.ret (.bool false))) s := fin s (hi' ▸ h)
    obtain ⟨hp, g, d, tk, os⟩ := s
    wp_walk using wpAny_loadPart' e1, wpAny_loadPart' e2
    have q1 : xs[((i : Nat) : Int).toNat]? = none := by simp; omega
    have q2 : ys[((i : Nat) : Int).toNat]? = none := by simp; omega
    rw [q1, q2]
    wp_walk using wpAny_loadPart' e1, wpAny_loadPart' e2
    show R (.ok (.ret (.bool (xs.size != ys.size)))) _
    rw [z1, z2]
    simpa using hR
  | succ k ih =>
    intro i hk hi s h
    obtain ⟨xs, ys, ⟨n1, s1, e1, z1⟩, ⟨n2, s2, e2, z2⟩, turn⟩ := hl.1 _ _ h
    have c1 : i < xs.size := by omega
    have c2 : i < ys.size := by omega
    have ht := turn c1 c2
    obtain ⟨hp, g, d, tk, os⟩ := s
    wp_walk using wpAny_loadPart' e1, wpAny_loadPart' e2
    have q1 : xs[((i : Nat) : Int).toNat]? = some xs[i] := by simp [c1]
    have q2 : ys[((i : Nat) : Int).toNat]? = some ys[i] := by simp [c2]
    have hc : ((i : Int) + 1) = ((i + 1 : Nat) : Int) := by omega
    rw [q1, q2]
    refine wpAny_bind (wpAny_mono ht (fun r s2 h2 => ?_) fun _ _ x => x)
    cases r with
    | true =>
      have hrec := ih (i + 1) (by omega) (by omega) s2 h2
      obtain ⟨hp2, g2, d2, tk2, os2⟩ := s2
      wp_walk
      rw [hc]
      exact ⟨plainId_quiet plain_eq_loop _, codeAny_builtin entry_eq_loop (by
        rw [Around.under_plainId plain_eq_loop _]
        exact hrec)⟩
    | false =>
      have hF := finF s2 h2
      obtain ⟨us, vs, ⟨m1, t1, f1, y1⟩, ⟨m2, t2, f2, y2⟩⟩ := hl.2 _ h2
      obtain ⟨hp2, g2, d2, tk2, os2⟩ := s2
      have c3 : i < us.size := by omega
      have c4 : i < vs.size := by omega
      have q3 : us[((i : Nat) : Int).toNat]? = some us[i] := by simp [c3]
      have q4 : vs[((i : Nat) : Int).toNat]? = some vs[i] := by simp [c4]
      wp_walk using wpAny_loadPart' f1, wpAny_loadPart' f2
      rw [q3, q4]
      wp_walk
      exact hF
/-- of different lengths -/
theorem lens_eq {l b : Addr} {N N' : Nat} {xs ys : Array Value} {s : Shared} (h1 : LstAt s.heap l N xs) (h2 : LstAt s.heap b N' ys) (ne : N ≠ N') (hF : R (.ok (.ret (.bool false))) s) :
    wpAny (model prog w) A.in1 (Builtin.«list.__eq__» ⟨[.ref l, .ref b], []⟩) (GQ.FinOf prog w A R) (fun e s' => R (.error e) s') s := by
  obtain ⟨n1, s1, e1, z1⟩ := h1
  obtain ⟨n2, s2, e2, z2⟩ := h2
  obtain ⟨hp, g, d, tk, os⟩ := s
  have f3 := AutoSeq1.sub_list_list
  have hne : (xs.size != ys.size) = true := by rw [z1, z2]; simpa using ne
  wp_walk using wpAny_loadPart' e1, wpAny_loadPart' e2
  exact hF
theorem lens_ne {l b : Addr} {N N' : Nat} {xs ys : Array Value} {s : Shared} (h1 : LstAt s.heap l N xs) (h2 : LstAt s.heap b N' ys) (ne : N ≠ N') (hF : R (.ok (.ret (.bool true))) s) :
    wpAny (model prog w) A.in1 (Builtin.«list.__ne__» ⟨[.ref l, .ref b], []⟩) (GQ.FinOf prog w A R) (fun e s' => R (.error e) s') s := by
  obtain ⟨n1, s1, e1, z1⟩ := h1
  obtain ⟨n2, s2, e2, z2⟩ := h2
  obtain ⟨hp, g, d, tk, os⟩ := s
  have f3 := AutoSeq1.sub_list_list
  have hne : (xs.size != ys.size) = true := by rw [z1, z2]; simpa using ne
  wp_walk using wpAny_loadPart' e1, wpAny_loadPart' e2
  exact hF
theorem body_eq (l b : Addr) (N : Nat) (I : Nat → Shared → Prop) (J : Shared → Prop) (hl : TurnL prog w A (fun e s' => R (.error e) s') l b N I J)
    (fin : ∀ s, I N s → R (.ok (.ret (.bool true))) s) (finF : ∀ s, J s → R (.ok (.ret (.bool false))) s) {s : Shared} (h : I 0 s) :
    wpAny (model prog w) A.in1 (Builtin.«list.__eq__» ⟨[.ref l, .ref b], []⟩) (GQ.FinOf prog w A R) (fun e s' => R (.error e) s') s := by
  obtain ⟨xs, ys, ⟨n1, s1, e1, z1⟩, ⟨n2, s2, e2, z2⟩, _⟩ := hl.1 _ _ h
  have hrec := loop_eq (A := A) (R := R) l b N I J hl fin finF _ 0 rfl (Nat.zero_le _) s h
  obtain ⟨hp, g, d, tk, os⟩ := s
  have f3 := AutoSeq1.sub_list_list
  have hne : ¬ (xs.size != ys.size) = true := by simp [z1, z2]
  wp_walk using wpAny_loadPart' e1, wpAny_loadPart' e2
  exact ⟨plainId_quiet plain_eq_loop _, codeAny_builtin entry_eq_loop (by
    rw [Around.under_plainId plain_eq_loop _]
    exact hrec)⟩
theorem body_ne (l b : Addr) (N : Nat) (I : Nat → Shared → Prop) (J : Shared → Prop) (hl : TurnL prog w A (fun e s' => R (.error e) s') l b N I J)
    (fin : ∀ s, I N s → R (.ok (.ret (.bool false))) s) (finF : ∀ s, J s → R (.ok (.ret (.bool true))) s) {s : Shared} (h : I 0 s) :
    wpAny (model prog w) A.in1 (Builtin.«list.__ne__» ⟨[.ref l, .ref b], []⟩) (GQ.FinOf prog w A R) (fun e s' => R (.error e) s') s := by
  obtain ⟨xs, ys, ⟨n1, s1, e1, z1⟩, ⟨n2, s2, e2, z2⟩, _⟩ := hl.1 _ _ h
  have hrec := loop_ne (A := A) (R := R) l b N I J hl fin finF _ 0 rfl (Nat.zero_le _) s h
  obtain ⟨hp, g, d, tk, os⟩ := s
  have f3 := AutoSeq1.sub_list_list
  have hne : ¬ (xs.size != ys.size) = true := by simp [z1, z2]
  wp_walk using wpAny_loadPart' e1, wpAny_loadPart' e2
  exact ⟨plainId_quiet plain_eq_loop _, codeAny_builtin entry_eq_loop (by
    rw [Around.under_plainId plain_eq_loop _]
    exact hrec)⟩
end
end PyD
set_option Elab.async false
set_option linter.all false
set_option autoImplicit false
set_option maxRecDepth 100000
set_option maxHeartbeats 4000000
namespace PyD
open PySem PySem.Spec L2
section
open PySem.AutoSeq1 (wpAny_loadPart')
open PySem.MeetsSeq PySem.MeetsSeq2 PySem.MeetsSeq3 PySem.SeqRoads2
variable {prog : Program} {w : World} {A : Around} {R : Result → Shared → Prop}
theorem tup_eq (l b : Addr) (xs ys : Array Value) (n n2 : Nat) (dd dd2 : Option Addr) (sl sl2 : Array (Option Value)) (hsz : xs.size = ys.size) (I : Nat → Shared → Prop) (J : Shared → Prop)
    (turn : ∀ i (h1 : i < xs.size) (h2 : i < ys.size) s, I i s → wpAny (model prog w) A.in1 (eqBool xs[i] ys[i]) (fun r s' => match r with
      | true => I (i + 1) s'
      | false => J s') (fun e s' => R (.error e) s') s)
    (fin : ∀ s, I xs.size s → R (.ok (.ret (.bool true))) s) (finF : ∀ s, J s → R (.ok (.ret (.bool false))) s) {s : Shared} (e1 : s.heap.get? l = some { cls := .type "tuple", dict := dd, data := .seq xs n, slots := sl }) (e2 : s.heap.get? b = some { cls := .type "tuple", dict := dd2, data := .seq ys n2, slots := sl2 }) (h : I 0 s) :
    wpAny (model prog w) A.in1 (Builtin.«tuple.__eq__» ⟨[.ref l, .ref b], []⟩) (GQ.FinOf prog w A R) (fun e s' => R (.error e) s') s := by
  have f2 := AutoSeq1.sub_tuple_tuple
  have hZ : (xs.toList.zip ys.toList).length = xs.size := by simp [hsz]
  have h0 := h
  obtain ⟨hp, g, d, tk, os⟩ := s
  wp_walk using wpAny_loadPart' e1, wpAny_loadPart' e2, wpAny_forIn_list _ (fun rest b s' => b.1 = none ∧ ∃ i, rest = (xs.toList.zip ys.toList).drop i ∧ i ≤ xs.size ∧ I i s') _
  case turn =>
    rintro ⟨y, x⟩ rest b s' ⟨hb', i, hz, hi, hI⟩
    have hlt : i < (xs.toList.zip ys.toList).length := by
      rcases Nat.lt_or_ge i (xs.toList.zip ys.toList).length with h' | h'
      · exact h'
      · rw [List.drop_of_length_le h'] at hz; cases hz
    have h1 : i < xs.size := hZ ▸ hlt
    have h2 : i < ys.size := hsz ▸ h1
    rw [List.drop_eq_getElem_cons hlt] at hz
    injection hz with hyx hrest
    have hy : y = xs[i] := by have := congrArg Prod.fst hyx; simpa using this
    have hx : x = ys[i] := by have := congrArg Prod.snd hyx; simpa using this
    subst hy hx
    refine wpAny_bind (wpAny_mono (turn i h1 h2 s' hI) (fun r s2 q2 => ?_) fun _ _ x => x)
    cases r with
    | true =>
      wp_walk
      exact ⟨rfl, i + 1, hrest, h1, q2⟩
    | false =>
      wp_walk
      exact finF s2 q2
  case fin =>
    rintro ⟨b1, b2⟩ s' ⟨hb', i, hz, hi, hI⟩
    simp only at hb'
    subst hb'
    have hge : xs.size ≤ i := by
      rcases Nat.lt_or_ge i (xs.toList.zip ys.toList).length with h' | h'
      · rw [List.drop_eq_getElem_cons h'] at hz; cases hz
      · exact hZ ▸ h'
    have hi' : i = xs.size := by omega
    have hR : R (.ok (.ret (.bool true))) s' := fin s' (hi' ▸ hI)
    wp_walk
    simpa [Builtin.Tuple.tupleCompareSizes, hsz] using hR
  case h =>
    exact ⟨rfl, 0, rfl, Nat.zero_le _, h0⟩
end
end PyD
set_option Elab.async false
set_option linter.all false
set_option autoImplicit false
set_option maxRecDepth 100000
set_option maxHeartbeats 4000000
/-! # Equality over trees: meaning and soundness -/
namespace PyD
open PySem PySem.Spec L2

mutual
/-- a tree of plain data -/
def toP : D → Option PyData
  | .non => some .none
  | .bl b => some (.bool b)
  | .int i => some (.int i)
  | .str x => some (.str x)
  | .lst ds => (toPs ds).map .list
  | .tup ds => (toPs ds).map .tuple
  | _ => none
def toPs : List D → Option (List PyData)
  | [] => some []
  | d :: ds => match toP d, toPs ds with
    | some p, some ps => some (p :: ps)
    | _, _ => none
end
section
variable {K : PySem.W.Frag} {G : Gam} {I H : Hp}
mutual
theorem dp_of (sb : Sub I H) : ∀ {d : D} {p : PyData} {v : V}, toP d = some p → Rep K G I d v → Dp K H v p
  | .non, _, _, e, r => by unfold toP at e; cases e; unfold Rep at r; subst r; exact .non
  | .bl _, _, _, e, r => by unfold toP at e; cases e; unfold Rep at r; subst r; exact .bl _
  | .int _, _, _, e, r => by unfold toP at e; cases e; unfold Rep at r; subst r; exact .int _
  | .str _, _, _, e, r => by unfold toP at e; cases e; unfold Rep at r; subst r; exact .str _
  | .lst ds, _, _, e, r => by
    unfold toP at e
    unfold Rep at r
    obtain ⟨a, vs, rfl, h1, h2⟩ := r
    cases q : toPs ds with
    | none => rw [q] at e; cases e
    | some ps => rw [q] at e; cases e; exact .lst (sb.sql h1) (dps_of sb q h2)
  | .tup ds, _, _, e, r => by
    unfold toP at e
    unfold Rep at r
    obtain ⟨a, vs, rfl, h1, h2⟩ := r
    cases q : toPs ds with
    | none => rw [q] at e; cases e
    | some ps => rw [q] at e; cases e; exact .tup (sb.sqt h1) (dps_of sb q h2)
  | .dct _, _, _, e, _ => by unfold toP at e; cases e
  | .obj _ _, _, _, e, _ => by unfold toP at e; cases e
  | .loc _, _, _, e, _ => by unfold toP at e; cases e
  | .cls _, _, _, e, _ => by unfold toP at e; cases e
  | .ty _, _, _, e, _ => by unfold toP at e; cases e
theorem dps_of (sb : Sub I H) : ∀ {ds : List D} {ps : List PyData} {vs : List V}, toPs ds = some ps → Reps K G I ds vs → DpAll K H vs ps
  | [], _, _, e, r => by unfold toPs at e; cases e; unfold Reps at r; subst r; exact .nil
  | d :: ds, _, _, e, r => by
    unfold toPs at e
    unfold Reps at r
    obtain ⟨v, t, rfl, h1, h2⟩ := r
    split at e
    · rename_i p ps e1 e2
      cases e
      exact .cons (dp_of sb e1 h1) (dps_of sb e2 h2)
    · cases e
end
end
/-- what may stand for anything -/
def loose : D → Prop
  | .loc _ => True
  | .cls _ => True
  | .ty _ => True
  | _ => False
mutual
/-- trees of one and the same value -/
def same : D → D → Prop
  | .non, e => e = .non ∨ loose e
  | .bl b, e => e = .bl b ∨ loose e
  | .int i, e => e = .int i ∨ loose e
  | .str x, e => e = .str x ∨ loose e
  | .tup xs, e => (∃ ys, e = .tup ys ∧ sames xs ys) ∨ loose e
  | .lst xs, e => (∃ ys, e = .lst ys ∧ sames xs ys) ∨ loose e
  | .dct xs, e => (∃ ys, e = .dct ys ∧ samek xs ys) ∨ loose e
  | .obj c fs, e => (∃ gs, e = .obj c gs ∧ samef fs gs) ∨ loose e
  | .loc _, _ => True
  | .cls _, _ => True
  | .ty _, _ => True
def sames : List D → List D → Prop
  | [], es => es = []
  | d :: ds, es => ∃ e r, es = e :: r ∧ same d e ∧ sames ds r
def samek : List (Key × D) → List (Key × D) → Prop
  | [], es => es = []
  | (k, d) :: ds, es => ∃ e r, es = (k, e) :: r ∧ same d e ∧ samek ds r
def samef : List (Nat × D) → List (Nat × D) → Prop
  | [], es => es = []
  | (k, d) :: ds, es => ∃ e r, es = (k, e) :: r ∧ same d e ∧ samef ds r
end
def tagC : Value → Nat
  | .type n => if n = "list" then 4 else if n = "tuple" then 5 else if n = "dict" then 6 else 9
  | .ref _ => 7
  | _ => 8
/-- the kind of a value -/
def TagV (h : Heap) (v : V) (n : Nat) : Prop := match v with
  | .non => n = 0
  | .bl _ => n = 1
  | .int _ => n = 2
  | .str _ => n = 3
  | .ref a => ∃ o, h.get? a = some o ∧ tagC o.cls = n
  | _ => False
theorem TagV.one {h : Heap} {v : V} {n m : Nat} (a : TagV h v n) (b : TagV h v m) : n = m := by
  cases v <;> simp only [TagV] at a b <;> first | exact a.elim | (subst a; exact b.symm) | skip
  obtain ⟨o, h1, rfl⟩ := a
  obtain ⟨u, h2, rfl⟩ := b
  rw [h1] at h2
  cases h2
  rfl
def tagD : D → Nat
  | .non => 0 | .bl _ => 1 | .int _ => 2 | .str _ => 3 | .lst _ => 4 | .tup _ => 5 | .dct _ => 6 | .obj _ _ => 7 | _ => 10
section
variable {X : Cx} {G : Gam} {I : Hp} {M : Mst} {H : Hp} {pins : List (Addr × Obj)} {σ : L2.St} {s : Shared}
theorem tag_of (J : L2.Inv X pins σ H s) (g : Good X.K G I M H) {d : D} {v : V} (r : Rep X.K G I d v) : loose d ∨ TagV s.heap v (tagD d) := by
  cases d <;> unfold Rep at r <;> first | (left; exact trivial) | (right; subst r; rfl) | skip
  · obtain ⟨a, vs, rfl, h, _⟩ := r
    obtain ⟨its, _, ⟨o, ho, hc, _⟩, _⟩ := J.tuple (g.sub.sqt h)
    exact .inr ⟨o, ho, by rw [hc]; rfl⟩
  · obtain ⟨a, vs, rfl, h, _⟩ := r
    obtain ⟨its, _, ⟨o, n, ho, hc, _⟩, _⟩ := J.list (g.sub.sql h)
    exact .inr ⟨o, ho, by rw [hc]; rfl⟩
  · obtain ⟨a, ob, kvs, rfl, h, _⟩ := r
    obtain ⟨_, _, vs, _, o, es, ep, h1, h2, _⟩ := (show ObjOk X.prog X.w H s.heap a (.dK kvs) from (g.sub.dK h).ok J.hok)
    exact .inr ⟨o, h1, by rw [h2.1]; rfl⟩
  · obtain ⟨a, dx, vfs, rfl, h, _⟩ := r
    obtain ⟨od, K⟩ := inst_at J (g.sub.ins h)
    exact .inr ⟨_, K.at_, by rw [K.cls]; rfl⟩
theorem sql_one (J : L2.Inv X pins σ H s) (g : Good X.K G I M H) {a : Addr} {xs ys : List V} (h1 : SqL X.K I a xs) (h2 : SqL X.K I a ys) : xs = ys := by
  obtain ⟨i1, r1, ⟨o1, n1, e1, _, _, d1⟩, _⟩ := J.list (g.sub.sql h1)
  obtain ⟨i2, r2, ⟨o2, n2, e2, _, _, d2⟩, _⟩ := J.list (g.sub.sql h2)
  rw [e1] at e2
  cases e2
  rw [d1] at d2
  cases d2
  exact r1.inj r2
theorem sqt_one (J : L2.Inv X pins σ H s) (g : Good X.K G I M H) {a : Addr} {xs ys : List V} (h1 : SqT X.K I a xs) (h2 : SqT X.K I a ys) : xs = ys := by
  obtain ⟨i1, r1, ⟨o1, e1, _, n1, d1⟩, _⟩ := J.tuple (g.sub.sqt h1)
  obtain ⟨i2, r2, ⟨o2, e2, _, n2, d2⟩, _⟩ := J.tuple (g.sub.sqt h2)
  rw [e1] at e2
  cases e2
  rw [d1] at d2
  cases d2
  exact r1.inj r2
theorem tag_eq (J : L2.Inv X pins σ H s) (g : Good X.K G I M H) {d e : D} {v : V} (r1 : Rep X.K G I d v) (r2 : Rep X.K G I e v) (h : ¬ loose d) : loose e ∨ tagD e = tagD d := by
  rcases tag_of J g r1 with q | q
  · exact absurd q h
  · rcases tag_of J g r2 with p | p
    · exact .inl p
    · exact .inr (p.one q)
mutual
theorem rep_same (ci : ∀ c c', G.cl c = G.cl c' → c = c') (J : L2.Inv X pins σ H s) (g : Good X.K G I M H) : ∀ {d e : D} {v : V}, Rep X.K G I d v → Rep X.K G I e v → same d e
  | .non, e, v, r1, r2 => by
    unfold same
    rcases tag_eq J g r1 r2 (fun h => h) with q | q
    · exact .inr q
    · cases e <;> first | (left; rfl) | (exfalso; simp [tagD] at q; done)
  | .bl b, e, v, r1, r2 => by
    unfold same
    rcases tag_eq J g r1 r2 (fun h => h) with q | q
    · exact .inr q
    · cases e <;> first | (exfalso; simp [tagD] at q; done) | (unfold Rep at r1 r2; rw [r1] at r2; cases r2; exact .inl rfl)
  | .int i, e, v, r1, r2 => by
    unfold same
    rcases tag_eq J g r1 r2 (fun h => h) with q | q
    · exact .inr q
    · cases e <;> first | (exfalso; simp [tagD] at q; done) | (unfold Rep at r1 r2; rw [r1] at r2; cases r2; exact .inl rfl)
  | .str x, e, v, r1, r2 => by
    unfold same
    rcases tag_eq J g r1 r2 (fun h => h) with q | q
    · exact .inr q
    · cases e <;> first | (exfalso; simp [tagD] at q; done) | (unfold Rep at r1 r2; rw [r1] at r2; cases r2; exact .inl rfl)
  | .tup xs, e, v, r1, r2 => by
    unfold same
    rcases tag_eq J g r1 r2 (fun h => h) with q | q
    · exact .inr q
    · cases e <;> first | (exfalso; simp [tagD] at q; done) | skip
      rename_i ys
      unfold Rep at r1 r2
      obtain ⟨a, vs, rfl, h1, h2⟩ := r1
      obtain ⟨b, ws, e, h3, h4⟩ := r2
      cases e
      obtain rfl := sqt_one J g h1 h3
      exact .inl ⟨ys, rfl, reps_same ci J g h2 h4⟩
  | .lst xs, e, v, r1, r2 => by
    unfold same
    rcases tag_eq J g r1 r2 (fun h => h) with q | q
    · exact .inr q
    · cases e <;> first | (exfalso; simp [tagD] at q; done) | skip
      rename_i ys
      unfold Rep at r1 r2
      obtain ⟨a, vs, rfl, h1, h2⟩ := r1
      obtain ⟨b, ws, e, h3, h4⟩ := r2
      cases e
      obtain rfl := sql_one J g h1 h3
      exact .inl ⟨ys, rfl, reps_same ci J g h2 h4⟩
  | .dct xs, e, v, r1, r2 => by
    unfold same
    rcases tag_eq J g r1 r2 (fun h => h) with q | q
    · exact .inr q
    · cases e <;> first | (exfalso; simp [tagD] at q; done) | skip
      rename_i ys
      unfold Rep at r1 r2
      obtain ⟨a, ob, vs, rfl, h1, h2⟩ := r1
      obtain ⟨b, oc, ws, e, h3, h4⟩ := r2
      cases e
      rw [h1] at h3
      cases h3
      exact .inl ⟨ys, rfl, repk_same ci J g h2 h4⟩
  | .obj c fs, e, v, r1, r2 => by
    unfold same
    rcases tag_eq J g r1 r2 (fun h => h) with q | q
    · exact .inr q
    · cases e <;> first | (exfalso; simp [tagD] at q; done) | skip
      rename_i c' gs
      unfold Rep at r1 r2
      obtain ⟨a, dx, vs, rfl, h1, h2⟩ := r1
      obtain ⟨b, dy, ws, e, h3, h4⟩ := r2
      cases e
      rw [h1] at h3
      injection h3 with h3
      injection h3 with e1 e2 e3
      subst e3
      obtain rfl := ci _ _ e1
      exact .inl ⟨gs, rfl, repf_same ci J g h2 h4⟩
  | .loc _, e, v, r1, r2 => by unfold same; trivial
  | .cls _, e, v, r1, r2 => by unfold same; trivial
  | .ty _, e, v, r1, r2 => by unfold same; trivial
theorem reps_same (ci : ∀ c c', G.cl c = G.cl c' → c = c') (J : L2.Inv X pins σ H s) (g : Good X.K G I M H) : ∀ {ds es : List D} {vs : List V}, Reps X.K G I ds vs → Reps X.K G I es vs → sames ds es
  | [], es, vs, r1, r2 => by
    unfold Reps at r1
    subst r1
    unfold sames
    cases es with
    | nil => rfl
    | cons e es => unfold Reps at r2; obtain ⟨_, _, q, _⟩ := r2; cases q
  | d :: ds, es, vs, r1, r2 => by
    unfold Reps at r1
    obtain ⟨v, t, rfl, h1, h2⟩ := r1
    unfold sames
    cases es with
    | nil => unfold Reps at r2; cases r2
    | cons e es =>
      unfold Reps at r2
      obtain ⟨_, _, q, h3, h4⟩ := r2
      cases q
      exact ⟨e, es, rfl, rep_same ci J g h1 h3, reps_same ci J g h2 h4⟩
theorem repk_same (ci : ∀ c c', G.cl c = G.cl c' → c = c') (J : L2.Inv X pins σ H s) (g : Good X.K G I M H) : ∀ {ds es : List (Key × D)} {vs : List (Key × V)}, RepK X.K G I ds vs → RepK X.K G I es vs → samek ds es
  | [], es, vs, r1, r2 => by
    unfold RepK at r1
    subst r1
    unfold samek
    cases es with
    | nil => rfl
    | cons e es => obtain ⟨k, e⟩ := e; unfold RepK at r2; obtain ⟨_, _, q, _⟩ := r2; cases q
  | (k, d) :: ds, es, vs, r1, r2 => by
    unfold RepK at r1
    obtain ⟨v, t, rfl, h1, h2⟩ := r1
    unfold samek
    cases es with
    | nil => unfold RepK at r2; cases r2
    | cons e es =>
      obtain ⟨k', e⟩ := e
      unfold RepK at r2
      obtain ⟨_, _, q, h3, h4⟩ := r2
      cases q
      exact ⟨e, es, rfl, rep_same ci J g h1 h3, repk_same ci J g h2 h4⟩
theorem repf_same (ci : ∀ c c', G.cl c = G.cl c' → c = c') (J : L2.Inv X pins σ H s) (g : Good X.K G I M H) : ∀ {ds es : List (Nat × D)} {vs : List (Str × V)}, RepF X.K G I ds vs → RepF X.K G I es vs → samef ds es
  | [], es, vs, r1, r2 => by
    unfold RepF at r1
    subst r1
    unfold samef
    cases es with
    | nil => rfl
    | cons e es => obtain ⟨k, e⟩ := e; unfold RepF at r2; obtain ⟨_, _, q, _⟩ := r2; cases q
  | (k, d) :: ds, es, vs, r1, r2 => by
    unfold RepF at r1
    obtain ⟨v, t, rfl, h1, h2⟩ := r1
    unfold samef
    cases es with
    | nil => unfold RepF at r2; cases r2
    | cons e es =>
      obtain ⟨k', e⟩ := e
      unfold RepF at r2
      obtain ⟨v', t', q, h3, h4⟩ := r2
      injection q with q1 q2
      injection q1 with q3 q4
      subst q4 q2
      obtain rfl := G.inj _ _ q3
      exact ⟨e, es, rfl, rep_same ci J g h1 h3, repf_same ci J g h2 h4⟩
end
end
end PyD
set_option Elab.async false
set_option linter.all false
set_option autoImplicit false
set_option maxRecDepth 100000
set_option maxHeartbeats 4000000
/-! # Two dicts side by side -/
namespace PyD
open PySem PySem.Spec L2
def valD (kds : List (Key × D)) (k : Key) : Option D := (kds.find? fun kv => decide (kv.1 = k)).map (·.2)
section
variable {K : PySem.W.Frag} {G : Gam} {I : Hp}
theorem RepK.val {k : Key} : ∀ {kds : List (Key × D)} {kvs : List (Key × V)}, RepK K G I kds kvs → (valD kds k = none ∧ valV kvs k = none) ∨ ∃ d v, valD kds k = some d ∧ valV kvs k = some v ∧ Rep K G I d v
  | [], kvs, h => by unfold RepK at h; subst h; exact .inl ⟨rfl, rfl⟩
  | (j, x) :: r, kvs, h => by
    unfold RepK at h
    obtain ⟨y, t, rfl, h1, h2⟩ := h
    by_cases c : j = k
    · exact .inr ⟨x, y, by simp [valD, List.find?_cons, c], valV_pos c, h1⟩
    · rcases h2.val (k := k) with ⟨e1, e2⟩ | ⟨d, v, e1, e2, e3⟩
      · exact .inl ⟨by rw [← e1]; simp [valD, List.find?_cons, c], by rw [valV_neg c]; exact e2⟩
      · exact .inr ⟨d, v, by rw [← e1]; simp [valD, List.find?_cons, c], by rw [valV_neg c]; exact e2, e3⟩
theorem RepK.get' : ∀ {ds : List (Key × D)} {vs : List (Key × V)} {i : Nat} {k : Key} {v : V}, RepK K G I ds vs → vs[i]? = some (k, v) → ∃ d, ds[i]? = some (k, d) ∧ Rep K G I d v
  | [], vs, _, _, _, h, e => by unfold RepK at h; subst h; simp at e
  | (j, d) :: ds, vs, i, k, x, h, e => by
    unfold RepK at h
    obtain ⟨v, r, rfl, hv, t⟩ := h
    cases i with
    | zero => simp at e; obtain ⟨rfl, rfl⟩ := e; exact ⟨d, rfl, hv⟩
    | succ i => simpa using RepK.get' (i := i) t (by simpa using e)
end
theorem kv_at' {κ : Type} {kvs : List (κ × V)} {vs : List (κ × Value)} (h : KV kvs vs) : ∀ {i : Nat} {k : κ} {v : Value}, vs[i]? = some (k, v) → ∃ x, kvs[i]? = some (k, x) ∧ RelV x v := by
  unfold KV at h
  induction h with
  | nil => intro i k v e; simp at e
  | cons r t ih =>
    rename_i p q _ _
    intro i k v e
    cases i with
    | zero =>
      simp at e
      subst e
      obtain ⟨e1, e2⟩ := r
      exact ⟨p.2, by simp [Prod.ext_iff, e1], e2⟩
    | succ i => simpa using ih (i := i) (by simpa using e)
section
variable {prog : Program} {w : World} {A : Around} {E : Value → Shared → Prop} {s : Shared}
/-- what a frozen dict's object holds -/
structure DObj (knd : PySem.KeyKind prog w Key) (o : Obj) (es : Array DictEntry) (ep : Nat) (ks : List (Key × Value)) : Prop where
  exact : o.ExactDict
  data : o.data = .dict es ep
  keys : KeysOf knd es
  pairs : Pairs knd es.toList ks
theorem dobj_of {knd : PySem.KeyKind prog w Key} {a : Addr} {o : Obj} {ks : List (Key × Value)} (d : s.heap.DictOf knd a ks) (h : s.heap.get? a = some o) : ∃ es ep, DObj knd o es ep ks := by
  obtain ⟨o', es, ep, h1, h2, h3, h4, h5, _⟩ := d
  rw [h] at h1
  cases h1
  exact ⟨es, ep, h2, h3, h4, h5⟩
theorem own_samePairs {knd : PySem.KeyKind prog w Key} {nm : String} {a b : Addr} {oa ob : Obj} {es es' : Array DictEntry} {ep ep' : Nat} {ka kb : List (Key × Value)} {Q : Bool → Shared → Prop} (Iv : Nat → Shared → Prop)
    (ha : (a == sysModules) = false) (hb : (b == sysModules) = false) (da : DObj knd oa es ep ka) (db : DObj knd ob es' ep' kb)
    (at_ : ∀ i s', Iv i s' → s'.heap.get? a = some oa ∧ s'.heap.get? b = some ob)
    (h0 : Iv 0 s)
    (hl : ka.length ≠ kb.length → ∀ s', Iv 0 s' → Q false s')
    (step : ka.length = kb.length → ∀ i k v s', ka[i]? = some (k, v) → Iv i s' → (valueAt kb k = none → Q false s') ∧ ∀ y, valueAt kb k = some y → wpAny (model prog w) A (eqBool v y) (fun r s2 => if r = true then Iv (i + 1) s2 else Q false s2) E s')
    (step' : ∀ i s', Iv i s' → ka.length = kb.length → i = ka.length → Q true s') :
    wpAny (model prog w) A (Builtin.Dict.samePairs nm a b) Q E s := by
  obtain ⟨_, hda, hka, hpa⟩ := da
  obtain ⟨_, hdb, hkb, hpb⟩ := db
  obtain ⟨hoa, hob⟩ := at_ _ _ h0
  have hla : ka.length = es.size := by rw [← hpa.length]; exact Array.length_toList
  have hlb : kb.length = es'.size := by rw [← hpb.length]; exact Array.length_toList
  have hfind : ∀ k, findBy knd.is es' k = valueAt kb k := fun k => by
    rw [← hpb.find k]
    clear hlb hpb hkb hdb hob at_
    obtain ⟨l⟩ := es'
    simp [findBy]
  unfold Builtin.Dict.samePairs Builtin.Dict.showsAll
  rw [if_neg (show ¬ (a == sysModules) = true by rw [ha]; exact Bool.false_ne_true), if_neg (show ¬ (b == sysModules) = true by rw [hb]; exact Bool.false_ne_true)]
  refine wpAny_bind (wpAny_pure (wpAny_bind (wpAny_pure ?_)))
  refine wpAny_bind (wpAny_dictEntries hoa hda ?_)
  dsimp only
  refine wpAny_bind (wpAny_dictEntries hob hdb ?_)
  by_cases hsz : es.size = es'.size
  case neg =>
    rw [if_pos (by simpa using hsz)]
    exact wpAny_bind (wpAny_rule (wpAny_pure (hl (by rw [hla, hlb]; exact hsz) _ h0)))
  case pos =>
    have hsz' : ka.length = kb.length := by rw [hla, hlb]; exact hsz
    rw [if_neg (by rw [hsz]; simp)]
    refine wpAny_bind (wpAny_dictEpoch hoa hda ?_)
    refine wpAny_bind ?_
    rw [Std.Legacy.Range.forIn_eq_forIn_range']
    simp only [Std.Legacy.Range.size, Nat.sub_zero, Nat.add_sub_cancel, Nat.div_one]
    refine wpAny_forIn_list _
      (fun rest q s' => q = (none, ()) ∧ ∃ i, rest = List.range' i (es.size - i) ∧ i ≤ es.size ∧ Iv i s')
      _ ?_ ?_ _ _ ⟨rfl, 0, by simp, Nat.zero_le _, h0⟩
    · rintro x rest q s' ⟨rfl, i, hr, hi, hiv⟩
      have hlt : i < es.size := by
        rcases Nat.lt_or_ge i es.size with h | h
        · exact h
        · rw [Nat.sub_eq_zero_of_le h] at hr; simp at hr
      obtain ⟨rfl, hrest⟩ : x = i ∧ rest = List.range' (i + 1) (es.size - (i + 1)) := by
        have e : es.size - i = (es.size - (i + 1)) + 1 := by omega
        rw [e, List.range'_succ] at hr
        injection hr with h1 h2
        exact ⟨h1, h2⟩
      obtain ⟨hoa', hob'⟩ := at_ _ _ hiv
      refine wpAny_bind (wpAny_dictEntries hoa' hda ?_)
      rw [Array.getElem?_eq_getElem hlt]
      have hlt' : x < ka.length := by rw [hla]; exact hlt
      obtain ⟨k, v, hkv⟩ : ∃ k v, ka[x] = (k, v) := ⟨_, _, rfl⟩
      obtain ⟨hkey, hval⟩ := hpa.get? (i := x) (e := es[x]) (k := k) (v := v) (by rw [Array.getElem?_toList]; exact Array.getElem?_eq_getElem hlt) (by rw [List.getElem?_eq_getElem hlt', hkv])
      obtain ⟨k', hk', hh⟩ := hka es[x] (Array.getElem_mem hlt)
      have ekk : k' = k := knd.inj _ _ _ hk' hkey
      rw [ekk] at hh
      obtain ⟨hn1, hs1⟩ := step hsz' x k v s' (by rw [List.getElem?_eq_getElem hlt', hkv]) hiv
      show wpAny _ _ (holding [es[x].key, es[x].val] _ >>= _) _ _ _
      rw [hh]
      refine wpAny_bind (wpAny_holding (wpAny_bind (wpAny_dictFind_of hkey hob' hdb hkb ?_)))
      cases hj : es'.findIdx? fun e => knd.is k e.key with
      | none =>
        have hn : valueAt kb k = none := by rw [← hfind k, findBy_of_findIdx?, hj]
        refine wpAny_pure ?_
        show wpAny _ _ (if (!false) = true then _ else _) _ _ _
        rw [if_pos (by decide)]
        exact wpAny_pure (wpAny_pure (hn1 hn))
      | some j =>
        obtain ⟨hjlt, _, _⟩ := Array.findIdx?_eq_some_iff_getElem.mp hj
        have hv' : valueAt kb k = some es'[j].val := by
          rw [← hfind k, findBy_of_findIdx?, hj]
          simp [Array.getElem?_eq_getElem hjlt]
        refine wpAny_bind (wpAny_dictEntries hob' hdb ?_)
        rw [Array.getElem?_eq_getElem hjlt]
        refine wpAny_holding ?_
        rw [hval]
        refine wpAny_mono (hs1 _ hv') (fun r s2 q2 => ?_) fun _ _ z => z
        cases r with
        | false =>
          show wpAny _ _ (if (!false) = true then _ else _) _ _ _
          rw [if_pos (by decide)]
          exact wpAny_pure (wpAny_pure q2)
        | true =>
          show wpAny _ _ (if (!true) = true then _ else _) _ _ _
          rw [if_neg (by decide)]
          have q2' : Iv (x + 1) s2 := q2
          obtain ⟨hoa2, hob2⟩ := at_ _ _ q2'
          refine wpAny_bind (wpAny_dictEpoch hoa2 hda ?_)
          rw [if_neg (by simp)]
          exact wpAny_pure ⟨rfl, x + 1, hrest, hlt, q2'⟩
    · rintro q s' ⟨rfl, i, hr, hi, hiv⟩
      have hin : i = es.size := by
        rcases Nat.lt_or_ge i es.size with h | h
        · have e : es.size - i = (es.size - (i + 1)) + 1 := by omega
          rw [e, List.range'_succ] at hr; exact nomatch hr
        · exact Nat.le_antisymm hi h
      refine wpAny_pure ?_
      exact step' i s' hiv hsz' (by rw [hla]; exact hin)
theorem own_dict_eq {a b : Addr} {Q : Value → Shared → Prop} (ta : s.TypeIs (.ref a) "dict") (tb : s.TypeIs (.ref b) "dict") (hu : A.units < cLine)
    (h : ∀ nm, wpAny (model prog w) A.in1 (Builtin.Dict.samePairs nm a b) (fun r s' => Q (.bool r) s') E s) : wpAny (model prog w) A (richCompare .Eq (.ref a) (.ref b)) Q E s := by
  refine wpAny_richCompare_same_room (op := .Eq) ta tb PySem.F.slot_dict_eq (wpAny_call_entry PySem.F.slot_dict_eq ta PySem.F.entry_dict_eq ?_ (PySem.F.args_dict_eq_2 _ _)) hu
  show wpAny _ _ (Builtin.Dict.dictSlotArgs "__eq__" ⟨[.ref a, .ref b], []⟩ >>= _) _ _ s
  refine wpAny_bind ?_
  unfold Builtin.Dict.dictSlotArgs
  refine wpAny_bind (wpAny_notOrdered_dict ta ?_)
  show wpAny _ _ (pure (Value.ref a, Value.ref b)) _ _ s
  refine wpAny_pure ?_
  refine wpAny_bind (wpAny_isInstance (T := "dict") tb PySem.F.sub_dict_dict ?_)
  simp only [Bool.not_true, Bool.false_eq_true, if_false]
  refine wpAny_bind (wpAny_pure (wpAny_bind (wpAny_pure ?_)))
  refine wpAny_bind (wpAny_mono (h _) (fun r s' q => ?_) fun _ _ z => z)
  refine wpAny_pure ⟨_, rfl, ?_, ?_⟩
  · exact fun x => nomatch x
  · simpa using q
theorem own_dict_ne {a b : Addr} {Q : Value → Shared → Prop} (ta : s.TypeIs (.ref a) "dict") (tb : s.TypeIs (.ref b) "dict") (hu : A.units < cLine)
    (h : ∀ nm, wpAny (model prog w) A.in1 (Builtin.Dict.samePairs nm a b) (fun r s' => Q (.bool (!r)) s') E s) : wpAny (model prog w) A (richCompare .NotEq (.ref a) (.ref b)) Q E s := by
  refine wpAny_richCompare_same_room (op := .NotEq) ta tb PySem.F.slot_dict_ne (wpAny_call_entry PySem.F.slot_dict_ne ta PySem.F.entry_dict_ne ?_ (PySem.F.args_dict_ne_2 _ _)) hu
  show wpAny _ _ (Builtin.Dict.dictSlotArgs "__ne__" ⟨[.ref a, .ref b], []⟩ >>= _) _ _ s
  refine wpAny_bind ?_
  unfold Builtin.Dict.dictSlotArgs
  refine wpAny_bind (wpAny_notOrdered_dict ta ?_)
  show wpAny _ _ (pure (Value.ref a, Value.ref b)) _ _ s
  refine wpAny_pure ?_
  refine wpAny_bind (wpAny_isInstance (T := "dict") tb PySem.F.sub_dict_dict ?_)
  simp only [Bool.not_true, Bool.false_eq_true, if_false]
  refine wpAny_bind (wpAny_pure (wpAny_bind (wpAny_pure ?_)))
  refine wpAny_bind (wpAny_mono (h _) (fun r s' q => ?_) fun _ _ z => z)
  refine wpAny_pure ⟨_, rfl, ?_, ?_⟩
  · exact fun x => nomatch x
  · simpa using q
end
end PyD
set_option Elab.async false
set_option linter.all false
set_option autoImplicit false
set_option maxRecDepth 100000
set_option maxHeartbeats 4000000
namespace PyD
open PySem PySem.Spec L2
abbrev KB := Bool → Mst → Prop
/-- item by item, up to the first two that differ -/
def allT (f : D → D → KB → Mst → ED → Prop) : List D → List D → KB → Mst → ED → Prop
  | [], _ => fun K M _ => K true M
  | d :: ds, es => fun K M E => match es with
    | [] => K true M
    | e :: es => f d e (fun b M' => brb b (allT f ds es K M' E) (K false M')) M E
/-- entry by entry of the first, up to the first that differs -/
def dctT (f : D → D → KB → Mst → ED → Prop) (ys : List (Key × D)) : List (Key × D) → KB → Mst → ED → Prop
  | [] => fun K M _ => K true M
  | (k, d) :: r => fun K M E => match valD ys k with
    | none => K false M
    | some e => f d e (fun b M' => brb b (dctT f ys r K M' E) (K false M')) M E
def dctE (f : D → D → KB → Mst → ED → Prop) (xs ys : List (Key × D)) (K : KB) (M : Mst) (E : ED) : Prop := if xs.length = ys.length then dctT f ys xs K M E else K false M
section
variable (G : Gam) (Γ : Nat → SpD)
def ownEqT (d e : D) (K : KB) (M : Mst) (E : ED) : Prop := instX d M fun c _ => sideE G c e M ∧ ownD G Γ 18 d [e] [] M (fun r M' => match r with
    | .bl b => K b M'
    | _ => False) E
def eqT : Nat → D → D → KB → Mst → ED → Prop
  | 0 => fun _ _ _ _ _ => False
  | n + 1 => fun d e K M E => match toP d, toP e with
    | some p, some q => SeqAt.shaped p = true ∧ SeqAt.shaped q = true ∧ K (PyData.eqv p q) M
    | _, _ => match d with
      | .lst xs => (match e with
        | .lst ys => if xs.length = ys.length then allT (eqT n) xs ys K M E else K false M
        | _ => False)
      | .tup xs => (match e with
        | .tup ys => xs.length = ys.length ∧ allT (eqT n) xs ys K M E
        | _ => False)
      | .dct xs => (match e with
        | .dct ys => (same (.dct xs) (.dct ys) → K true M) ∧ dctE (eqT n) xs ys K M E
        | _ => False)
      | .obj c fs => (same (.obj c fs) e → K true M) ∧ ownEqT G Γ (.obj c fs) e K M E
      | .loc a => (same (.loc a) e → K true M) ∧ ownEqT G Γ (.loc a) e K M E
      | _ => False
end
section
variable {X : Cx} {G : Gam} {B : Bs} {W : WX} {Γ : Nat → SpD} {kx : Nat}
/-- what stands behind such a comparison -/
def PB (X : Cx) (G : Gam) (B : Bs) (pins : List (Addr × Obj)) (σ : L2.St) (ρ : Slots) (J : Hp) (K : KB) : Bool → Shared → Prop :=
  fun b s' => ∃ M' H' J', K b M' ∧ Ext J J' ∧ SR X.K G B σ H' ρ M' J' ∧ L2.Inv X pins σ H' s'
theorem PB.ext {pins : List (Addr × Obj)} {σ : L2.St} {ρ : Slots} {J J1 : Hp} {K K' : KB} (e : Ext J J1) {b : Bool} {s' : Shared} (h : PB X G B pins σ ρ J1 K b s') (k : ∀ M', K b M' → K' b M') : PB X G B pins σ ρ J K' b s' := by
  obtain ⟨M', H', J', h1, h2, h3, h4⟩ := h
  exact ⟨M', H', J', k _ h1, e.trans h2, h3, h4⟩
theorem eqBool_at {M : Model} {A : Around} {s : Shared} {E : Value → Shared → Prop} {Q : Bool → Shared → Prop} {a : Addr} {v : Value} (h1 : Value.ref a = v → Q true s) (h2 : wpAny M A (richCompare .Eq (.ref a) v) (fun v s' => ∃ r, v = .bool r ∧ Q r s') E s) : wpAny M A (eqBool (.ref a) v) Q E s := by
  unfold eqBool
  refine wpAny_holding ?_
  refine wpAny_ite_split (fun hab => ?_) (fun _ => ?_)
  · exact wpAny_bind (wpAny_rule (wpAny_pure (h1 (eq_of_beq hab))))
  · refine wpAny_bind (wpAny_mono h2 (fun v s' hv => ?_) fun _ _ x => x)
    obtain ⟨r, rfl, q⟩ := hv
    exact wpAny_truthy_bool q
/-- an own instance and what it is compared with -/
theorem notFirst_of (c : Ctx X G W Γ kx) {k cc i : Nat} {e : D} {M : Mst} {J H : Hp} {y : V} {v : Value} {pins : List (Addr × Obj)} {s : Shared} {σ : L2.St} (I : L2.Inv X pins σ H s) (g : Good X.K G J M H) (h1 : G.dn cc k = some i) (hk : k < 19) (hs : sideE G cc e M) (r2 : Rep X.K G J e y) (ry : RelV y v) :
    ∃ tb, PySem.W.Looks (model X.prog X.w) s.heap (typeOf v) tb ∧ PySem.W.notFirst X.K (G.cl cc) tb = true := by
  have side : ∀ T ∈ sideTs, PySem.W.notFirst X.K (G.cl cc) (.type T) = true := fun T hT => by
    unfold PySem.W.notFirst
    rw [c.ops.sub _ _ _ h1 hk T hT]
    simp
  unfold sideE at hs
  split at hs
  · unfold Rep at r2; subst r2
    obtain rfl : v = Value.none := ry
    exact ⟨_, PySem.W.Looks.of_pure rfl, side "NoneType" (by decide)⟩
  · unfold Rep at r2; subst r2
    obtain rfl : v = Value.bool _ := ry
    exact ⟨_, PySem.W.Looks.of_pure rfl, side "bool" (by decide)⟩
  · unfold Rep at r2; subst r2
    obtain ⟨tk, rfl⟩ := ry
    exact ⟨_, PySem.W.Looks.of_pure rfl, side "int" (by decide)⟩
  · unfold Rep at r2; subst r2
    obtain ⟨tk, rfl⟩ := ry
    exact ⟨_, PySem.W.Looks.of_pure rfl, side "str" (by decide)⟩
  · unfold Rep at r2
    obtain ⟨b, vs, rfl, hb, _⟩ := r2
    obtain rfl : v = Value.ref b := ry
    obtain ⟨its, _, ⟨o, n, ho, hc, _⟩, _⟩ := I.list (g.sub.sql hb)
    exact ⟨o.cls, looks_ty ho, by rw [hc]; exact side "list" (by decide)⟩
  · unfold Rep at r2
    obtain ⟨b, vs, rfl, hb, _⟩ := r2
    obtain rfl : v = Value.ref b := ry
    obtain ⟨its, _, ⟨o, ho, hc, _⟩, _⟩ := I.tuple (g.sub.sqt hb)
    exact ⟨o.cls, looks_ty ho, by rw [hc]; exact side "tuple" (by decide)⟩
  · unfold Rep at r2
    obtain ⟨b, ob, kvs, rfl, hb, _⟩ := r2
    obtain rfl : v = Value.ref b := ry
    obtain ⟨_, _, _, _, dd⟩ := dk_rd I.hok (g.sub.dK hb)
    obtain ⟨o, ho, hc⟩ := dd.typeIs
    exact ⟨o.cls, looks_ty ho, by rw [hc]; exact side "dict" (by decide)⟩
  · obtain ⟨c', fs', hj, hs⟩ := instX_ok hs
    obtain ⟨b, dy, vgs, rfl, hb, _⟩ := instD_ok g r2 hj
    obtain rfl : v = Value.ref b := ry
    obtain ⟨od2, J2⟩ := inst_at I hb
    refine ⟨_, J2.type, ?_⟩
    unfold PySem.W.notFirst
    rcases Bool.or_eq_true_iff.mp hs with hs | hs
    · obtain rfl := beq_iff_eq.mp hs
      simp
    · rw [c.ops.nsub _ _ hs]
      simp
/-- == by an own __eq__ -/
theorem own_eq_ok (c : Ctx X G W Γ kx) {A : Around} {pins : List (Addr × Obj)} {s : Shared} {σ : L2.St} {H : Hp} {ρ : Slots} {M : Mst} {J : Hp} {d e : D} {x y : V} {u v : Value} {K : KB} {E1 : ED}
    (hr : Room kx A) (hg : A.guards = some []) (hf : A.frames = some X.stack) (I : L2.Inv X pins σ H s) (sr : SR X.K G B σ H ρ M J) (r1 : Rep X.K G J d x) (r2 : Rep X.K G J e y) (rx : RelV x u) (ry : RelV y v) (h : ownEqT G Γ d e K M E1) (er : ErC X.K G B W σ ρ E1) :
    wpAny (model X.prog X.w) A (richCompare .Eq u v) (fun z s' => ∃ b, z = .bool b ∧ PB X G B pins σ ρ J K b s') X.xe s := by
  unfold ownEqT at h
  obtain ⟨cc, fs, hi, hs, t⟩ := instX_ok h
  obtain ⟨i, h1, hks, t⟩ := ownD_at _ _ t hi
  · skip
    · skip
      obtain ⟨a, dx, vfs, rfl, ha, _⟩ := instD_ok sr.good r1 hi
      obtain rfl : u = Value.ref a := rx
      obtain ⟨tb, l1, l2⟩ := notFirst_of c I sr.good h1 (by decide) hs r2 ry
      obtain ⟨_, ⟨m11, m12, m13⟩, sf⟩ := c.ops.ok.dn _ _ _ h1
      obtain ⟨od, J1⟩ := inst_at I ha
      obtain ⟨mf, F⟩ := I.fr
      have e1 : G.nm 18 = "__eq__" := c.ops.dund 18 (by decide)
      rw [e1] at m11
      refine PySem.W.cmp_K (op := .Eq) hr.units0 F I.mod.kin J1 l1 l2 m11 m12 ?_
      refine thn (own_run c (Q := fun z H' => ∃ b M' J', z = .bl b ∧ K b M' ∧ Ext J J' ∧ SR X.K G B σ H' ρ M' J') hr hg hf I sr (.cons r1 (.cons r2 .nil)) (.cons rfl (.cons ry .nil)) hks t (fun d' M' z H' J' k x' s' r' => ?_) er) fun z s' hz => ?_
      · split at k
        · unfold Rep at r'
          exact ⟨_, M', J', r', k, x', s'⟩
        · exact k.elim
      · obtain ⟨z', H', I', rz, b, M', J', rfl, k, x', s''⟩ := hz
        exact cmpback rz ⟨b, rz, M', H', J', k, x', s'', I'⟩
/-- the pair at an index -/
theorem allT_at {f : D → D → KB → Mst → ED → Prop} {ds es : List D} {i : Nat} {d e : D} {K : KB} {M : Mst} {E : ED} (h1 : ds[i]? = some d) (h2 : es[i]? = some e) (h : allT f (ds.drop i) (es.drop i) K M E) :
    f d e (fun b M' => brb b (allT f (ds.drop (i + 1)) (es.drop (i + 1)) K M' E) (K false M')) M E := by
  obtain ⟨l1, q1⟩ := List.getElem?_eq_some_iff.mp h1
  obtain ⟨l2, q2⟩ := List.getElem?_eq_some_iff.mp h2
  rw [List.drop_eq_getElem_cons l1, List.drop_eq_getElem_cons l2, q1, q2] at h
  exact h
theorem allT_end {f : D → D → KB → Mst → ED → Prop} {ds es : List D} {i : Nat} {K : KB} {M : Mst} {E : ED} (h1 : ds.length ≤ i) (h : allT f (ds.drop i) (es.drop i) K M E) : K true M := by
  rw [List.drop_of_length_le h1] at h
  exact h
theorem lst_at {pins : List (Addr × Obj)} {s : Shared} {σ : L2.St} {H : Hp} {a : Addr} {xs : List V} (I : L2.Inv X pins σ H s) (h : SqL X.K H a xs) : ∃ its : List Value, Vals xs its ∧ LstAt s.heap a xs.length its.toArray := by
  obtain ⟨its, r, ⟨⟨oc, od, dd, sl⟩, n, e, c, d, t⟩, _⟩ := I.list h
  dsimp only at c d t
  subst c d t
  exact ⟨its, r, ⟨n, sl, e, by rw [List.size_toArray, r.length]⟩⟩
theorem vals_at {xs : List V} {its : List Value} {i : Nat} (r : Vals xs its) (h : i < its.toArray.size) : ∃ x, xs[i]? = some x ∧ RelV x its.toArray[i] := by
  have h' : i < its.length := by simpa using h
  have e : its[i]? = some its.toArray[i] := by rw [List.getElem?_eq_getElem h']; simp
  have l : i < xs.length := by rw [r.length]; exact h'
  obtain ⟨u, h1, h2⟩ := r.get (List.getElem?_eq_getElem l)
  rw [e] at h1
  cases h1
  exact ⟨xs[i], List.getElem?_eq_getElem l, h2⟩
theorem loose_none {e : D} (h : loose e) : toP e = none := by
  cases e <;> first | exact h.elim | rfl
mutual
theorem eqv_same : ∀ {d e : D} {p q : PyData}, same d e → toP d = some p → toP e = some q → PyData.eqv p q = true
  | .non, e, p, q, h, hp, hq => by
    unfold same at h
    rcases h with rfl | h
    · unfold toP at hp hq; cases hp; cases hq; simp [PyData.eqv]
    · rw [loose_none h] at hq; cases hq
  | .bl _, e, p, q, h, hp, hq => by
    unfold same at h
    rcases h with rfl | h
    · unfold toP at hp hq; cases hp; cases hq; simp [PyData.eqv]
    · rw [loose_none h] at hq; cases hq
  | .int _, e, p, q, h, hp, hq => by
    unfold same at h
    rcases h with rfl | h
    · unfold toP at hp hq; cases hp; cases hq; simp [PyData.eqv]
    · rw [loose_none h] at hq; cases hq
  | .str _, e, p, q, h, hp, hq => by
    unfold same at h
    rcases h with rfl | h
    · unfold toP at hp hq; cases hp; cases hq; simp [PyData.eqv]
    · rw [loose_none h] at hq; cases hq
  | .lst xs, e, p, q, h, hp, hq => by
    unfold same at h
    rcases h with ⟨ys, rfl, h⟩ | h
    · unfold toP at hp hq
      cases a : toPs xs with
      | none => rw [a] at hp; cases hp
      | some ps =>
        cases b : toPs ys with
        | none => rw [b] at hq; cases hq
        | some qs =>
          rw [a] at hp
          rw [b] at hq
          cases hp
          cases hq
          unfold PyData.eqv
          exact eqvs_same h a b
    · rw [loose_none h] at hq; cases hq
  | .tup xs, e, p, q, h, hp, hq => by
    unfold same at h
    rcases h with ⟨ys, rfl, h⟩ | h
    · unfold toP at hp hq
      cases a : toPs xs with
      | none => rw [a] at hp; cases hp
      | some ps =>
        cases b : toPs ys with
        | none => rw [b] at hq; cases hq
        | some qs =>
          rw [a] at hp
          rw [b] at hq
          cases hp
          cases hq
          unfold PyData.eqv
          exact eqvs_same h a b
    · rw [loose_none h] at hq; cases hq
  | .dct _, e, p, q, h, hp, hq => by unfold toP at hp; cases hp
  | .obj _ _, e, p, q, h, hp, hq => by unfold toP at hp; cases hp
  | .loc _, e, p, q, h, hp, hq => by unfold toP at hp; cases hp
  | .cls _, e, p, q, h, hp, hq => by unfold toP at hp; cases hp
  | .ty _, e, p, q, h, hp, hq => by unfold toP at hp; cases hp
theorem eqvs_same : ∀ {ds es : List D} {ps qs : List PyData}, sames ds es → toPs ds = some ps → toPs es = some qs → PyData.eqvAll ps qs = true
  | [], es, ps, qs, h, hp, hq => by
    unfold sames at h
    subst h
    unfold toPs at hp hq
    cases hp
    cases hq
    simp [PyData.eqvAll]
  | d :: ds, es, ps, qs, h, hp, hq => by
    unfold sames at h
    obtain ⟨e, r, rfl, h1, h2⟩ := h
    unfold toPs at hp hq
    split at hp
    · rename_i p1 ps1 a1 a2
      cases hp
      split at hq
      · rename_i q1 qs1 b1 b2
        cases hq
        unfold PyData.eqvAll
        rw [eqv_same h1 a1 b1, eqvs_same h2 a2 b2]
        rfl
      · cases hq
    · cases hp
end
theorem sames_len : ∀ {ds es : List D}, sames ds es → ds.length = es.length
  | [], es, h => by unfold sames at h; subst h; rfl
  | d :: ds, es, h => by
    unfold sames at h
    obtain ⟨e, r, rfl, _, h2⟩ := h
    simp [sames_len h2]
theorem allT_refl {f : D → D → KB → Mst → ED → Prop} (hf : ∀ d e K M E, same d e → f d e K M E → K true M) : ∀ {ds es : List D} {K : KB} {M : Mst} {E : ED}, sames ds es → allT f ds es K M E → K true M
  | [], _, _, _, _, _, h => h
  | d :: ds, es, K, M, E, sm, h => by
    unfold sames at sm
    obtain ⟨e, r, rfl, h1, h2⟩ := sm
    have := hf _ _ _ _ _ h1 h
    exact allT_refl hf h2 this
theorem eqT_refl : ∀ {n : Nat} {d e : D} {K : KB} {M : Mst} {E1 : ED}, same d e → eqT G Γ n d e K M E1 → K true M
  | 0, _, _, _, _, _, _, h => h.elim
  | n + 1, d, e, K, M, E1, sm, h => by
    unfold eqT at h
    split at h
    · rename_i p q hp hq
      rw [eqv_same sm hp hq] at h
      exact h.2.2
    · rename_i hneg
      clear hneg
      split at h
      · rename_i xs
        split at h
        · rename_i ys
          unfold same at sm
          rcases sm with ⟨zs, e, sm⟩ | sm
          · cases e
            rw [if_pos (sames_len sm)] at h
            exact allT_refl (fun _ _ _ _ _ s h => eqT_refl s h) sm h
          · exact sm.elim
        · exact h.elim
      · rename_i xs
        split at h
        · rename_i ys
          unfold same at sm
          rcases sm with ⟨zs, e, sm⟩ | sm
          · cases e
            exact allT_refl (fun _ _ _ _ _ s h => eqT_refl s h) sm h.2
          · exact sm.elim
        · exact h.elim
      · rename_i xs
        split at h
        · exact h.1 sm
        · exact h.elim
      · exact h.1 sm
      · exact h.1 sm
      · exact h.elim
/-- two dicts side by side -/
theorem pairs_ok {A : Around} {f : D → D → KB → Mst → ED → Prop}
    (hf : ∀ {pins : List (Addr × Obj)} {s : Shared} {σ : L2.St} {H : Hp} {ρ : Slots} {M : Mst} {J : Hp} {d e : D} {x y : V} {u v : Value} {K : KB} {E1 : ED},
      L2.Inv X pins σ H s → SR X.K G B σ H ρ M J → Rep X.K G J d x → Rep X.K G J e y → RelV x u → RelV y v → f d e K M E1 → ErC X.K G B W σ ρ E1 → wpAny (model X.prog X.w) A (eqBool u v) (PB X G B pins σ ρ J K) X.xe s)
    {pins : List (Addr × Obj)} {s : Shared} {σ : L2.St} {H : Hp} {ρ : Slots} {M : Mst} {J : Hp} {xs ys : List (Key × D)} {a b : Addr} {oa ob : Obj} {ka kb : List (Key × V)} {K : KB} {E1 : ED} {nm : String}
    (I : L2.Inv X pins σ H s) (sr : SR X.K G B σ H ρ M J) (h1 : J a = some (.frz oa (.dK ka))) (r1 : RepK X.K G J xs ka) (h2 : J b = some (.frz ob (.dK kb))) (r2 : RepK X.K G J ys kb) (h : dctE f xs ys K M E1) (er : ErC X.K G B W σ ρ E1) :
    wpAny (model X.prog X.w) A (Builtin.Dict.samePairs nm a b) (PB X G B pins σ ρ J K) X.xe s := by
  have at_ : ∀ {H1 : Hp} {M1 : Mst} {J1 : Hp} {s1 : Shared}, L2.Inv X pins σ H1 s1 → SR X.K G B σ H1 ρ M1 J1 → Ext J J1 → s1.heap.get? a = some oa ∧ s1.heap.get? b = some ob := fun I1 sr1 x1 => by
    obtain ⟨p, _⟩ := (show ObjOk X.prog X.w _ _ a (.frz oa (.dK ka)) from I1.hok a _ (sr1.good.sub _ _ (x1 _ _ h1)))
    obtain ⟨q, _⟩ := (show ObjOk X.prog X.w _ _ b (.frz ob (.dK kb)) from I1.hok b _ (sr1.good.sub _ _ (x1 _ _ h2)))
    exact ⟨p, q⟩
  obtain ⟨ga, gb⟩ := at_ I sr (.refl J)
  obtain ⟨_, na, va, kva, da⟩ := dk_rd I.hok (sr.good.sub.dK h1)
  obtain ⟨_, nb, vb, kvb, db⟩ := dk_rd I.hok (sr.good.sub.dK h2)
  obtain ⟨es, ep, Da⟩ := dobj_of da ga
  obtain ⟨es', ep', Db⟩ := dobj_of db gb
  have la : va.length = xs.length := by rw [← kva.length, r1.length]
  have lb : vb.length = ys.length := by rw [← kvb.length, r2.length]
  unfold dctE at h
  refine own_samePairs (fun i s' => ∃ M' H' J', Ext J J' ∧ SR X.K G B σ H' ρ M' J' ∧ L2.Inv X pins σ H' s' ∧ (xs.length = ys.length → dctT f ys (xs.drop i) K M' E1) ∧ (xs.length ≠ ys.length → K false M')) na nb Da Db ?_ ⟨M, H, J, .refl J, sr, I, fun e => by rw [if_pos e] at h; simpa using h, fun e => by rw [if_neg e] at h; exact h⟩ ?_ ?_ ?_
  · rintro i s' ⟨M1, H1, J1, x1, sr1, I1, _⟩
    exact at_ I1 sr1 x1
  · rintro hl s' ⟨M1, H1, J1, x1, sr1, I1, _, k⟩
    exact ⟨M1, H1, J1, k (by rw [← la, ← lb]; exact hl), x1, sr1, I1⟩
  · rintro hl i k v s' hk ⟨M1, H1, J1, x1, sr1, I1, t, _⟩
    have t := t (by rw [← la, ← lb]; exact hl)
    obtain ⟨x, q1, q2⟩ := kv_at' kva hk
    obtain ⟨d, q3, q4⟩ := (r1.ext x1).get' q1
    obtain ⟨l1, q5⟩ := List.getElem?_eq_some_iff.mp q3
    rw [List.drop_eq_getElem_cons l1, q5] at t
    unfold dctT at t
    have rv := kvb.val k
    rcases (r2.ext x1).val (k := k) with ⟨e1, e2⟩ | ⟨e, y, e1, e2, e3⟩
    · rw [e1] at t
      rw [e2] at rv
      refine ⟨fun _ => ⟨M1, H1, J1, t, x1, sr1, I1⟩, fun y hy => ?_⟩
      rw [hy] at rv
      exact rv.elim
    · rw [e1] at t
      rw [e2] at rv
      refine ⟨fun hn => by rw [hn] at rv; exact rv.elim, fun z hz => ?_⟩
      rw [hz] at rv
      refine thn (hf I1 sr1 q4 e3 q2 rv t er) fun r s2 hq => ?_
      obtain ⟨M2, H2, J2, z1, z2, z3, z4⟩ := hq
      cases r with
      | true => exact ⟨M2, H2, J2, x1.trans z2, z3, z4, fun _ => z1, fun n => (n (by rw [← la, ← lb]; exact hl)).elim⟩
      | false => exact ⟨M2, H2, J2, z1, x1.trans z2, z3, z4⟩
  · rintro i s' ⟨M1, H1, J1, x1, sr1, I1, t, _⟩ hl hi
    have t := t (by rw [← la, ← lb]; exact hl)
    rw [List.drop_of_length_le (by rw [hi, la]; exact Nat.le_refl _)] at t
    exact ⟨M1, H1, J1, t, x1, sr1, I1⟩
theorem eqT_ok (c : Ctx X G W Γ kx) : ∀ (n : Nat), (∀ {A : Around} {pins : List (Addr × Obj)} {s : Shared} {σ : L2.St} {H : Hp} {ρ : Slots} {M : Mst} {J : Hp} {d e : D} {x y : V} {u v : Value} {K : KB} {E1 : ED},
      Room (kx + n) A → A.guards = some [] → A.frames = some X.stack → L2.Inv X pins σ H s → SR X.K G B σ H ρ M J → Rep X.K G J d x → Rep X.K G J e y → RelV x u → RelV y v → eqT G Γ n d e K M E1 → ErC X.K G B W σ ρ E1 →
      wpAny (model X.prog X.w) A (richCompare .Eq u v) (fun z s' => ∃ b, z = .bool b ∧ PB X G B pins σ ρ J K b s') X.xe s) ∧
    (∀ {A : Around} {pins : List (Addr × Obj)} {s : Shared} {σ : L2.St} {H : Hp} {ρ : Slots} {M : Mst} {J : Hp} {d e : D} {x y : V} {u v : Value} {K : KB} {E1 : ED},
      Room (kx + n) A → A.guards = some [] → A.frames = some X.stack → L2.Inv X pins σ H s → SR X.K G B σ H ρ M J → Rep X.K G J d x → Rep X.K G J e y → RelV x u → RelV y v → eqT G Γ n d e K M E1 → ErC X.K G B W σ ρ E1 →
      wpAny (model X.prog X.w) A (eqBool u v) (PB X G B pins σ ρ J K) X.xe s) := by
  intro n
  induction n with
  | zero => exact ⟨fun _ _ _ _ _ _ _ _ _ h => h.elim, fun _ _ _ _ _ _ _ _ _ h => h.elim⟩
  | succ n ih =>
    have one : ∀ {A : Around} {pins : List (Addr × Obj)} {s : Shared} {σ : L2.St} {H : Hp} {ρ : Slots} {M : Mst} {J : Hp} {d e : D} {x y : V} {u v : Value} {K : KB} {E1 : ED},
        Room (kx + (n + 1)) A → A.guards = some [] → A.frames = some X.stack → L2.Inv X pins σ H s → SR X.K G B σ H ρ M J → Rep X.K G J d x → Rep X.K G J e y → RelV x u → RelV y v → eqT G Γ (n + 1) d e K M E1 → ErC X.K G B W σ ρ E1 →
        wpAny (model X.prog X.w) A (richCompare .Eq u v) (fun z s' => ∃ b, z = .bool b ∧ PB X G B pins σ ρ J K b s') X.xe s := by
      intro A pins s σ H ρ M J d e x y u v K E1 hr hg hf I sr r1 r2 rx ry h er
      unfold eqT at h
      split at h
      · rename_i p q hp hq
        obtain ⟨as, ra⟩ := Dp.reads I p x u (dp_of sr.good.sub hp r1) rx
        obtain ⟨bs, rb⟩ := Dp.reads I q y v (dp_of sr.good.sub hq r2) ry
        exact SeqAt.eqOverData _ _ _ _ _ _ _ _ _ _ _ _ ra rb (SeqAt.canLay_of_shaped h.1) (SeqAt.canLay_of_shaped h.2.1) (SeqAt.room_of_shaped h.1 hr.units) ⟨_, rfl, M, H, J, h.2.2, .refl J, sr, I⟩
      · rename_i hneg
        clear hneg
        split at h
        · rename_i xs
          split at h
          · rename_i ys
            unfold Rep at r1 r2
            obtain ⟨a, vs, rfl, h1, h2⟩ := r1
            obtain ⟨b, ws, rfl, h3, h4⟩ := r2
            obtain rfl : u = Value.ref a := rx
            obtain rfl : v = Value.ref b := ry
            obtain ⟨i1, q1, l1⟩ := lst_at I (sr.good.sub.sql h1)
            obtain ⟨i2, q2, l2⟩ := lst_at I (sr.good.sub.sql h3)
            obtain ⟨n1, t1, e1, z1⟩ := id l1
            obtain ⟨n2, t2, e2, z2⟩ := id l2
            refine wpAny_richCompare_same_room (op := .Eq) ⟨_, e1, rfl⟩ ⟨_, e2, rfl⟩ F.slot_list_eq (GQ.call_here F.slot_list_eq ⟨_, e1, rfl⟩ F.entry_list_eq (F.args_list_eq_2 _ _) ?_) hr.units0
            split at h
            · rename_i hlen
              refine body_eq (R := wants (fun v s' => v ≠ .notImplemented ∧ ∃ b, v = .bool b ∧ PB X G B pins σ ρ J K b s') X.xe) a b vs.length
                (fun i s' => ∃ M' H' J', Ext J J' ∧ SR X.K G B σ H' ρ M' J' ∧ L2.Inv X pins σ H' s' ∧ allT (eqT G Γ n) (xs.drop i) (ys.drop i) K M' E1)
                (fun s' => PB X G B pins σ ρ J K false s') ⟨?_, ?_⟩ ?_ (fun s' q => ⟨(fun z => nomatch z), false, rfl, q⟩) ⟨M, H, J, .refl J, sr, I, by simpa using h⟩
              · rintro i s1 ⟨M1, H1, J1, x1, sr1, I1, t⟩
                obtain ⟨j1, p1, m1⟩ := lst_at I1 (sr1.good.sub.sql (x1.sql h1))
                obtain ⟨j2, p2, m2⟩ := lst_at I1 (sr1.good.sub.sql (x1.sql h3))
                refine ⟨_, _, m1, by rw [h2.length, hlen, ← h4.length]; exact m2, fun g1 g2 => ?_⟩
                obtain ⟨xi, k1, k2⟩ := vals_at p1 g1
                obtain ⟨yi, k3, k4⟩ := vals_at p2 g2
                obtain ⟨di, k5, k6⟩ := (h2.ext x1).get' k1
                obtain ⟨ei, k7, k8⟩ := (h4.ext x1).get' k3
                refine thn (ih.2 (hr.in1 : Room (kx + n) A.in1) hg hf I1 sr1 k6 k8 k2 k4 (allT_at k5 k7 t) er) fun r s2 hq => ?_
                obtain ⟨M2, H2, J2, z1, z2, z3, z4⟩ := hq
                cases r with
                | true => exact ⟨M2, H2, J2, x1.trans z2, z3, z4, z1⟩
                | false => exact ⟨M2, H2, J2, z1, x1.trans z2, z3, z4⟩
              · rintro s1 ⟨M1, H1, J1, _, x1, sr1, I1⟩
                obtain ⟨j1, p1, m1⟩ := lst_at I1 (sr1.good.sub.sql (x1.sql h1))
                obtain ⟨j2, p2, m2⟩ := lst_at I1 (sr1.good.sub.sql (x1.sql h3))
                exact ⟨_, _, m1, by rw [h2.length, hlen, ← h4.length]; exact m2⟩
              · rintro s1 ⟨M1, H1, J1, x1, sr1, I1, t⟩
                exact ⟨(fun z => nomatch z), true, rfl, M1, H1, J1, allT_end (by rw [← h2.length]; exact Nat.le_refl _) t, x1, sr1, I1⟩
            · rename_i hlen
              exact lens_eq (R := wants (fun v s' => v ≠ .notImplemented ∧ ∃ b, v = .bool b ∧ PB X G B pins σ ρ J K b s') X.xe) l1 l2 (by rw [h2.length, h4.length]; exact hlen) ⟨(fun z => nomatch z), false, rfl, M, H, J, h, .refl J, sr, I⟩
          · exact h.elim
        · rename_i xs
          split at h
          · rename_i ys
            obtain ⟨hlen, h⟩ := h
            unfold Rep at r1 r2
            obtain ⟨a, vs, rfl, h1, h2⟩ := r1
            obtain ⟨b, ws, rfl, h3, h4⟩ := r2
            obtain rfl : u = Value.ref a := rx
            obtain rfl : v = Value.ref b := ry
            obtain ⟨i1, q1, ⟨⟨oc1, od1, dd1, sl1⟩, e1, c1, n1, d1⟩, _⟩ := I.tuple (sr.good.sub.sqt h1)
            obtain ⟨i2, q2, ⟨⟨oc2, od2, dd2, sl2⟩, e2, c2, n2, d2⟩, _⟩ := I.tuple (sr.good.sub.sqt h3)
            dsimp only at c1 d1 c2 d2
            subst c1 d1 c2 d2
            refine wpAny_richCompare_same_room (op := .Eq) ⟨_, e1, rfl⟩ ⟨_, e2, rfl⟩ F.slot_tuple_eq (GQ.call_here F.slot_tuple_eq ⟨_, e1, rfl⟩ F.entry_tuple_eq (F.args_tuple_eq_2 _ _) ?_) hr.units0
            refine tup_eq (R := wants (fun v s' => v ≠ .notImplemented ∧ ∃ b, v = .bool b ∧ PB X G B pins σ ρ J K b s') X.xe) a b i1.toArray i2.toArray n1 n2 od1 od2 sl1 sl2 (by rw [List.size_toArray, List.size_toArray, ← q1.length, ← q2.length, h2.length, h4.length, hlen])
              (fun i s' => ∃ M' H' J', Ext J J' ∧ SR X.K G B σ H' ρ M' J' ∧ L2.Inv X pins σ H' s' ∧ allT (eqT G Γ n) (xs.drop i) (ys.drop i) K M' E1)
              (fun s' => PB X G B pins σ ρ J K false s') ?_ ?_ (fun s' q => ⟨(fun z => nomatch z), false, rfl, q⟩) e1 e2 ⟨M, H, J, .refl J, sr, I, by simpa using h⟩
            · rintro i g1 g2 s1 ⟨M1, H1, J1, x1, sr1, I1, t⟩
              obtain ⟨xi, k1, k2⟩ := vals_at q1 g1
              obtain ⟨yi, k3, k4⟩ := vals_at q2 g2
              obtain ⟨di, k5, k6⟩ := (h2.ext x1).get' k1
              obtain ⟨ei, k7, k8⟩ := (h4.ext x1).get' k3
              refine thn (ih.2 (hr.in1 : Room (kx + n) A.in1) hg hf I1 sr1 k6 k8 k2 k4 (allT_at k5 k7 t) er) fun r s2 hq => ?_
              obtain ⟨M2, H2, J2, z1, z2, z3, z4⟩ := hq
              cases r with
              | true => exact ⟨M2, H2, J2, x1.trans z2, z3, z4, z1⟩
              | false => exact ⟨M2, H2, J2, z1, x1.trans z2, z3, z4⟩
            · rintro s1 ⟨M1, H1, J1, x1, sr1, I1, t⟩
              refine ⟨(fun z => nomatch z), true, rfl, M1, H1, J1, allT_end ?_ t, x1, sr1, I1⟩
              rw [← h2.length, q1.length, List.size_toArray]
              exact Nat.le_refl _
          · exact h.elim
        · rename_i xs
          split at h
          · rename_i ys
            unfold Rep at r1 r2
            obtain ⟨a, oa, ka, rfl, h1, h2⟩ := r1
            obtain ⟨b, ob, kb, rfl, h3, h4⟩ := r2
            obtain rfl : u = Value.ref a := rx
            obtain rfl : v = Value.ref b := ry
            obtain ⟨_, _, _, _, d1⟩ := dk_rd I.hok (sr.good.sub.dK h1)
            obtain ⟨_, _, _, _, d2⟩ := dk_rd I.hok (sr.good.sub.dK h3)
            refine own_dict_eq d1.typeIs d2.typeIs hr.units0 fun nm => ?_
            exact thn (pairs_ok (fun I sr r1 r2 rx ry h er => ih.2 (hr.in1 : Room (kx + n) A.in1) hg hf I sr r1 r2 rx ry h er) I sr h1 h2 h3 h4 h.2 er) fun b s' q => ⟨b, rfl, q⟩
          · exact h.elim
        · exact own_eq_ok c (hr.mono (by omega)) hg hf I sr r1 r2 rx ry h.2 er
        · exact own_eq_ok c (hr.mono (by omega)) hg hf I sr r1 r2 rx ry h.2 er
        · exact h.elim
    refine ⟨one, ?_⟩
    intro A pins s σ H ρ M J d e x y u v K E1 hr hg hf I sr r1 r2 rx ry h er
    have rc := one hr hg hf I sr r1 r2 rx ry h er
    have byRef : ∀ {a : Addr}, x = .ref a → (same d e → K true M) → wpAny (model X.prog X.w) A (eqBool u v) (PB X G B pins σ ρ J K) X.xe s := by
      intro a ex hk
      subst ex
      obtain rfl : u = Value.ref a := rx
      refine eqBool_at (fun hv => ?_) rc
      subst hv
      obtain rfl : y = .ref a := RelV.inj ry rfl
      exact ⟨M, H, J, hk (rep_same c.ops.inj I sr.good r1 r2), .refl J, sr, I⟩
    have hfull := h
    unfold eqT at h
    split at h
    · rename_i p q hp hq
      obtain ⟨as, ra⟩ := Dp.reads I p x u (dp_of sr.good.sub hp r1) rx
      obtain ⟨bs, rb⟩ := Dp.reads I q y v (dp_of sr.good.sub hq r2) ry
      exact SeqAt.eqBoolOverData _ _ _ _ _ _ _ _ _ _ _ _ ra rb (SeqAt.canLay_of_shaped h.1) (SeqAt.canLay_of_shaped h.2.1) (SeqAt.room_of_shaped h.1 hr.units) ⟨M, H, J, h.2.2, .refl J, sr, I⟩
    · rename_i hneg
      have h0 := h
      clear hneg
      split at h
      · rename_i xs
        split at h
        · rename_i ys
          have r1' := r1
          unfold Rep at r1'
          obtain ⟨a, vs, ex, h1, h2⟩ := r1'
          exact byRef ex fun sm => eqT_refl sm hfull
        · exact h.elim
      · rename_i xs
        split at h
        · rename_i ys
          have r1' := r1
          unfold Rep at r1'
          obtain ⟨a, vs, ex, h1, h2⟩ := r1'
          exact byRef ex fun sm => eqT_refl sm hfull
        · exact h.elim
      · rename_i xs
        split at h
        · rename_i ys
          have r1' := r1
          unfold Rep at r1'
          obtain ⟨a, ob, kvs, ex, _⟩ := r1'
          exact byRef ex h.1
        · exact h.elim
      · have r1' := r1
        unfold Rep at r1'
        obtain ⟨a, dx, vs, ex, _⟩ := r1'
        exact byRef ex h.1
      · have r1' := r1
        unfold Rep at r1'
        exact byRef r1' h.1
      · exact h.elim
end
end PyD
set_option Elab.async false
set_option linter.all false
set_option autoImplicit false
set_option maxRecDepth 100000
set_option maxHeartbeats 4000000
/-! # Comparisons over trees -/
namespace PyD
open PySem PySem.Spec L2
section
variable (G : Gam) (Γ : Nat → SpD)
/-- an int met by an own instance on the right -/
def reflT (k : Nat) (a b : D) : TD := fun ρ M K E => instX b M fun _ _ => ownD G Γ k b [a] ρ M K E
def eqC (a b : D) (K : KB) : Mst → ED → Prop := fun M E => match a with
  | .int i => (match b with
    | .int j => K (i == j) M
    | .obj c fs => reflT G Γ 18 a b [] M (fun r M' => match r with
      | .bl z => K z M'
      | _ => False) E
    | _ => eqT G Γ 6 a b K M E)
  | .str x => (match b with
    | .str y => K (x == y) M
    | _ => eqT G Γ 6 a b K M E)
  | .obj c fs => ownEqT G Γ (.obj c fs) b K M E
  | .loc p => ownEqT G Γ (.loc p) b K M E
  | .dct xs => (match b with
    | .dct ys => dctE (eqT G Γ 5) xs ys K M E
    | _ => False)
  | _ => eqT G Γ 6 a b K M E
def neP (a b : D) (K : KB) : Mst → ED → Prop := fun M E => match toP a, toP b with
    | some p, some q => SeqAt.shaped p = true ∧ SeqAt.shaped q = true ∧ K (!PyData.eqv p q) M
    | _, _ => match a with
      | .lst xs => (match b with
        | .lst ys => if xs.length = ys.length then allT (eqT G Γ 5) xs ys (fun z M' => K (!z) M') M E else K true M
        | _ => False)
      | _ => False
def neC (a b : D) (K : KB) : Mst → ED → Prop := fun M E => match a with
  | .obj c fs => ownEqT G Γ a b (fun z M' => K (!z) M') M E
  | .loc p => ownEqT G Γ a b (fun z M' => K (!z) M') M E
  | .int i => (match b with
    | .int j => K (!(i == j)) M
    | _ => neP G Γ a b K M E)
  | .str x => (match b with
    | .str y => K (!(x == y)) M
    | _ => neP G Γ a b K M E)
  | .dct xs => (match b with
    | .dct ys => dctE (eqT G Γ 5) xs ys (fun z M' => K (!z) M') M E
    | _ => False)
  | _ => neP G Γ a b K M E
def intCmp (op : CmpOp) (i j : Int) : Option Bool := match op with
  | .Lt => some (decide (i < j))
  | .LtE => some (decide (i ≤ j))
  | .Gt => some (decide (j < i))
  | .GtE => some (decide (j ≤ i))
  | _ => none
def strCmp (op : CmpOp) (x y : Str) : Option Bool := match op with
  | .Lt => some (decide (x.cps.toList < y.cps.toList))
  | .LtE => some (!decide (y.cps.toList < x.cps.toList))
  | .Gt => some (decide (y.cps.toList < x.cps.toList))
  | .GtE => some (!decide (x.cps.toList < y.cps.toList))
  | _ => none
def ordD (op : CmpOp) (a b : D) : TD := fun ρ M K E => match a with
  | .int i => (match b with
    | .int j => (match intCmp op i j with
      | some z => K (.bl z) M
      | none => False)
    | .obj c fs => reflT G Γ (cmr op) a b ρ M K E
    | _ => False)
  | .str x => (match b with
    | .str y => (match strCmp op x y with
      | some z => K (.bl z) M
      | none => False)
    | _ => False)
  | _ => instX a M fun c _ => sideE G c b M ∧ ownD G Γ (cmk op) a [b] ρ M K E
def isN : D → Option Bool
  | .non => some true
  | .loc _ => some false
  | .bl _ => some false
  | .int _ => some false
  | .str _ => some false
  | .tup _ => some false
  | .lst _ => some false
  | .dct _ => some false
  | .obj _ _ => some false
  | .cls _ => some false
  | .ty _ => some false
def isC (neg : Bool) (a b : D) (K : D → Prop) : Prop := match b with
  | .non => (match isN a with
    | some z => K (.bl (if neg then !z else z))
    | none => False)
  | .bl z => (match a with
    | .bl y => K (.bl (if neg then !(decide (y = z)) else decide (y = z)))
    | _ => False)
  | _ => False
def cmpD (op : CmpOp) (a b : D) : TD := fun ρ M K E => match op with
  | .Eq => eqC G Γ a b (fun z M' => K (.bl z) M') M E
  | .NotEq => neC G Γ a b (fun z M' => K (.bl z) M') M E
  | .Lt => ordD G Γ .Lt a b ρ M K E
  | .LtE => ordD G Γ .LtE a b ρ M K E
  | .Gt => ordD G Γ .Gt a b ρ M K E
  | .GtE => ordD G Γ .GtE a b ρ M K E
  | .Is => isC false a b fun d => K d M
  | .IsNot => isC true a b fun d => K d M
  | _ => False
end
section
variable {X : Cx} {G : Gam} {B : Bs} {W : WX} {Γ : Nat → SpD} {kx : Nat}
theorem ep_of_pb {pins : List (Addr × Obj)} {σ : L2.St} {ρ : Slots} {J : Hp} {K : KB} {K1 : KD} {Q : VK} {z : Value} {s' : Shared} (ok : OkC X.K G B σ ρ J K1 Q) (k : ∀ b M', K b M' → K1 (.bl b) M') (h : ∃ b, z = .bool b ∧ PB X G B pins σ ρ J K b s') : EP X pins σ Q z s' := by
  obtain ⟨b, rfl, M', H', J', h1, h2, h3, h4⟩ := h
  exact ⟨.bl b, H', h4, rfl, ok _ _ _ _ _ (k _ _ h1) h2 h3 rep_bl⟩
/-- a bool from an own callable -/
theorem own_bool (c : Ctx X G W Γ kx) {A : Around} {k : Nat} {a b : D} {xa xb : V} {ua ub : Value} {cc : Nat} {fs : List (Nat × D)} {pins : List (Addr × Obj)} {s : Shared} {σ : L2.St} {H : Hp} {ρ ρ1 : Slots} {M : Mst} {J : Hp} {K : KB} {E1 : ED}
    (hr : Room kx A) (hg : A.guards = some []) (hf : A.frames = some X.stack)
    (I : L2.Inv X pins σ H s) (sr : SR X.K G B σ H ρ M J) (r1 : Rep X.K G J a xa) (r2 : Rep X.K G J b xb) (v1 : RelV xa ua) (v2 : RelV xb ub) (hi : instD a M = some (cc, fs)) (t : ownD G Γ k a [b] ρ1 M (fun r M' => match r with
      | .bl z => K z M'
      | _ => False) E1) (er : ErC X.K G B W σ ρ E1) :
    ∃ i, G.dn cc k = some i ∧ wpAny (model X.prog X.w) A (PySem.call (.ref (G.adr i)) [ua, ub]) (fun z s' => ∃ b, z = .bool b ∧ PB X G B pins σ ρ J K b s') X.xe s := by
  obtain ⟨i, h1, hks, t⟩ := ownD_at _ _ t hi
  · refine ⟨i, h1, thn (own_run c (Q := fun z H' => ∃ b M' J', z = .bl b ∧ K b M' ∧ Ext J J' ∧ SR X.K G B σ H' ρ M' J') hr hg hf I sr (.cons r1 (.cons r2 .nil)) (.cons v1 (.cons v2 .nil)) hks t (fun d' M' z H' J' k x' s' r' => ?_) er) fun z s' hz => ?_⟩
    · split at k
      · unfold Rep at r'
        exact ⟨_, M', J', r', k, x', s'⟩
      · exact k.elim
    · obtain ⟨z', H', I', rz, b, M', J', rfl, k, x', s''⟩ := hz
      exact ⟨b, rz, M', H', J', k, x', s'', I'⟩
theorem room_eq (c : Ctx X G W Γ kx) : Room (kx + 6) X.A := c.room
theorem dunder_cm (o : GOps X.K G) {op : CmpOp} (h : cmk op < 19) : G.nm (cmk op) = (cmpInfo op).2.1 := by
  have h1 := o.dund (cmk op) (Nat.lt_of_lt_of_le h (by decide))
  rw [h1]
  cases op <;> first | rfl | (exfalso; revert h; decide)
theorem dunder_cr (o : GOps X.K G) {op : CmpOp} (h : cmr op < 19) : G.nm (cmr op) = (cmpInfo op).2.2 := by
  have h1 := o.dund (cmr op) (Nat.lt_of_lt_of_le h (by decide))
  rw [h1]
  cases op <;> first | rfl | (exfalso; revert h; decide)
/-- an int compared with an own instance -/
theorem refl_cmp (c : Ctx X G W Γ kx) {op : CmpOp} {cc j : Nat} {a : Addr} {n : Int} {tk : Tok} {pins : List (Addr × Obj)} {s : Shared} {σ : L2.St} {H : Hp} {dx : Addr} {vfs : List (Str × V)} {Q : Value → Shared → Prop} (I : L2.Inv X pins σ H s) (ha : H a = some (.ins (G.cl cc) dx vfs))
    (hop : op = .Eq ∨ op = .Lt ∨ op = .LtE ∨ op = .Gt ∨ op = .GtE) (h1 : G.dn cc (cmr op) = some j)
    (h : wpAny (model X.prog X.w) X.A (PySem.call (.ref (G.adr j)) [.ref a, .int n tk]) (PySem.W.CmpBack Q) X.xe s) : wpAny (model X.prog X.w) X.A (richCompare op (.int n tk) (.ref a)) Q X.xe s := by
  have hk : cmr op < 19 := by rcases hop with rfl | rfl | rfl | rfl | rfl <;> decide
  have e1 := dunder_cr c.ops hk
  obtain ⟨_, ⟨m11, m12, m13⟩, sf⟩ := c.ops.ok.dn _ _ _ h1
  obtain ⟨od, J⟩ := inst_at I ha
  obtain ⟨mf, Fr⟩ := I.fr
  rw [e1] at m11
  have X0 := I.mod.kin.keeps Fr.keep
  have sb := c.ops.subI _ _ _ h1 hk
  rcases hop with rfl | rfl | rfl | rfl | rfl
  · exact own_cmp_refl c.room.units0 X0 J m11 m12 sb F.slot_int_eq (fun Q' q => call_meets F.slot_int_eq (typeIs_int s n tk) F.entry_int_eq (F.args_int_eq_2 _ _) (declines_eq n tk) ⟨J.at_, q⟩) rfl h
  · exact own_cmp_refl c.room.units0 X0 J m11 m12 sb F.slot_int_lt (fun Q' q => call_meets F.slot_int_lt (typeIs_int s n tk) F.entry_int_lt (F.args_int_lt_2 _ _) (declines_lt n tk) ⟨J.at_, q⟩) rfl h
  · exact own_cmp_refl c.room.units0 X0 J m11 m12 sb F.slot_int_le (fun Q' q => call_meets F.slot_int_le (typeIs_int s n tk) F.entry_int_le (F.args_int_le_2 _ _) (declines_le n tk) ⟨J.at_, q⟩) rfl h
  · exact own_cmp_refl c.room.units0 X0 J m11 m12 sb F.slot_int_gt (fun Q' q => call_meets F.slot_int_gt (typeIs_int s n tk) F.entry_int_gt (F.args_int_gt_2 _ _) (declines_gt n tk) ⟨J.at_, q⟩) rfl h
  · exact own_cmp_refl c.room.units0 X0 J m11 m12 sb F.slot_int_ge (fun Q' q => call_meets F.slot_int_ge (typeIs_int s n tk) F.entry_int_ge (F.args_int_ge_2 _ _) (declines_ge n tk) ⟨J.at_, q⟩) rfl h
theorem op2_eq (c : Ctx X G W Γ kx) : Op2 X G B W (compareOp .Eq) (fun a b ρ M K E => eqC G Γ a b (fun z M' => K (.bl z) M') M E) := by
  rintro pins s σ H Q x y v u I rx ry ⟨ρ, M, J, K1, E1, d, e, sr, r1, r2, t, ok, er⟩
  have byT : eqT G Γ 6 d e (fun z M' => K1 (.bl z) M') M E1 → wpAny (model X.prog X.w) X.A (compareOp .Eq v u) (EP X pins σ Q) X.xe s := fun t =>
    thn ((eqT_ok c 6).1 (room_eq c) c.guards I.ok.frames I sr r1 r2 rx ry t er) fun z s' h => ep_of_pb ok (fun _ _ k => k) h
  have byO : ownEqT G Γ d e (fun z M' => K1 (.bl z) M') M E1 → wpAny (model X.prog X.w) X.A (compareOp .Eq v u) (EP X pins σ Q) X.xe s := fun t =>
    thn (own_eq_ok c (c.room.mono (by omega)) c.guards I.ok.frames I sr r1 r2 rx ry t er) fun z s' h => ep_of_pb ok (fun _ _ k => k) h
  unfold eqC at t
  split at t
  · rename_i i
    split at t
    · rename_i j
      unfold Rep at r1 r2
      subst r1 r2
      refine op_eq pins s σ H _ _ _ _ Q I rx ry ⟨rfl, ?_⟩
      rw [dec_int]
      exact fin_ok sr ok rep_bl t
    · rename_i cc fs
      unfold reflT at t
      unfold Rep at r1
      subst r1
      obtain ⟨tk, rfl⟩ := rx
      have r2' := r2
      unfold Rep at r2'
      obtain ⟨a, dx, vfs, rfl, ha, _⟩ := r2'
      obtain rfl : u = Value.ref a := ry
      obtain ⟨j, h2, run⟩ := own_bool c (ρ1 := []) (c.room.mono (by omega)) c.guards I.ok.frames I sr r2 rep_int rfl ⟨tk, rfl⟩ (rfl : instD (.obj cc fs) M = some (cc, fs)) t er
      exact refl_cmp c (op := .Eq) I (sr.good.sub.ins ha) (.inl rfl) h2 (thn run fun z s' h => by
        have := ep_of_pb ok (fun _ _ k => k) h
        obtain ⟨b, rfl, _⟩ := h
        exact this)
    · exact byT t
  · rename_i p
    split at t
    · rename_i q
      unfold Rep at r1 r2
      subst r1 r2
      refine op_eq pins s σ H _ _ _ _ Q I rx ry ⟨rfl, ?_⟩
      rw [dec_str]
      exact fin_ok sr ok rep_bl t
    · exact byT t
  · exact byO t
  · exact byO t
  · split at t
    · unfold Rep at r1 r2
      obtain ⟨a, oa, ka, rfl, h1, h2⟩ := r1
      obtain ⟨b, ob, kb, rfl, h3, h4⟩ := r2
      obtain rfl : v = Value.ref a := rx
      obtain rfl : u = Value.ref b := ry
      obtain ⟨_, _, _, _, d1⟩ := dk_rd I.hok (sr.good.sub.dK h1)
      obtain ⟨_, _, _, _, d2⟩ := dk_rd I.hok (sr.good.sub.dK h3)
      have hr : Room (kx + 6) X.A := c.room
      refine own_dict_eq d1.typeIs d2.typeIs hr.units0 fun nm => ?_
      refine thn (pairs_ok (fun I sr r1 r2 rx ry h er => (eqT_ok c 5).2 (hr.in1 : Room (kx + 5) X.A.in1) c.guards I.ok.frames I sr r1 r2 rx ry h er) I sr h1 h2 h3 h4 t er) fun b s' q => ?_
      exact ep_of_pb ok (fun _ _ k => k) ⟨b, rfl, q⟩
    · exact t.elim
  · exact byT t
theorem op2_ord (c : Ctx X G W Γ kx) {op : CmpOp} (hop : op = .Lt ∨ op = .LtE ∨ op = .Gt ∨ op = .GtE) : Op2 X G B W (compareOp op) (ordD G Γ op) := by
  rintro pins s σ H Q x y v u I rx ry ⟨ρ, M, J, K1, E1, d, e, sr, r1, r2, t, ok, er⟩
  have hk : cmk op < 19 := by rcases hop with rfl | rfl | rfl | rfl <;> decide
  have hco : ∀ a b : Value, compareOp op a b = richCompare op a b := by rcases hop with rfl | rfl | rfl | rfl <;> exact fun _ _ => rfl
  have byI : (instX d M fun c _ => sideE G c e M ∧ ownD G Γ (cmk op) d [e] ρ M K1 E1) → wpAny (model X.prog X.w) X.A (compareOp op v u) (EP X pins σ Q) X.xe s := by
    intro t
    obtain ⟨cc, fs, hi, hs, t⟩ := instX_ok t
    · skip
      obtain ⟨i, h1, run⟩ := own_of c I sr r1 r2 rx ry hi t ok er
      obtain ⟨a, dx, vfs, rfl, ha, _⟩ := instD_ok sr.good r1 hi
      obtain rfl : v = Value.ref a := rx
      obtain ⟨tb, l1, l2⟩ := notFirst_of c I sr.good h1 hk hs r2 ry
      obtain ⟨_, ⟨m11, m12, m13⟩, sf⟩ := c.ops.ok.dn _ _ _ h1
      obtain ⟨od, J1⟩ := inst_at I ha
      obtain ⟨mf, F⟩ := I.fr
      rw [dunder_cm c.ops hk] at m11
      rw [hco]
      exact PySem.W.cmp_K c.room.units0 F I.mod.kin J1 l1 l2 m11 m12 run
  unfold ordD at t
  split at t
  · rename_i i
    split at t
    · rename_i j
      unfold Rep at r1 r2
      subst r1 r2
      rcases hop with rfl | rfl | rfl | rfl
      · exact op_lt pins s σ H _ _ _ _ Q I rx ry ⟨i, j, rfl, rfl, fin_ok sr ok rep_bl t⟩
      · exact op_le pins s σ H _ _ _ _ Q I rx ry ⟨i, j, rfl, rfl, fin_ok sr ok rep_bl t⟩
      · exact op_gt pins s σ H _ _ _ _ Q I rx ry ⟨i, j, rfl, rfl, fin_ok sr ok rep_bl t⟩
      · exact op_ge pins s σ H _ _ _ _ Q I rx ry ⟨i, j, rfl, rfl, fin_ok sr ok rep_bl t⟩
    · rename_i cc fs
      unfold reflT at t
      unfold Rep at r1
      subst r1
      obtain ⟨tk, rfl⟩ := rx
      have r2' := r2
      unfold Rep at r2'
      obtain ⟨a, dx, vfs, rfl, ha, _⟩ := r2'
      obtain rfl : u = Value.ref a := ry
      obtain ⟨j, h2, run⟩ := own_of c I sr r2 rep_int rfl ⟨tk, rfl⟩ (rfl : instD (.obj cc fs) M = some (cc, fs)) t ok er
      rw [hco]
      exact refl_cmp c I (sr.good.sub.ins ha) (.inr hop) h2 run
    · exact t.elim
  · rename_i p
    split at t
    · rename_i q
      unfold Rep at r1 r2
      subst r1 r2
      obtain ⟨t1, rfl⟩ := rx
      obtain ⟨t2, rfl⟩ := ry
      rcases hop with rfl | rfl | rfl | rfl
      · exact op_lt_str pins s σ H (.str p) (.str q) _ _ Q I ⟨t1, rfl⟩ ⟨t2, rfl⟩ ⟨p, q, rfl, rfl, fin_ok sr ok rep_bl t⟩
      · exact PySem.P.le_str ⟨.bl _, H, I, rfl, fin_ok sr ok rep_bl (by rw [strCmp] at t; exact t)⟩
      · exact PySem.P.gt_str ⟨.bl _, H, I, rfl, fin_ok sr ok rep_bl t⟩
      · exact PySem.P.ge_str ⟨.bl _, H, I, rfl, fin_ok sr ok rep_bl t⟩
    · exact t.elim
  · exact byI t
/-- != of two lists, item by item -/
theorem ne_lists (c : Ctx X G W Γ kx) {xs ys : List D} {a b : Addr} {vs ws : List V} {pins : List (Addr × Obj)} {s : Shared} {σ : L2.St} {H : Hp} {ρ : Slots} {M : Mst} {J : Hp} {K : KB} {E1 : ED} (I : L2.Inv X pins σ H s) (sr : SR X.K G B σ H ρ M J)
    (h1 : SqL X.K J a vs) (h2 : Reps X.K G J xs vs) (h3 : SqL X.K J b ws) (h4 : Reps X.K G J ys ws) (h : if xs.length = ys.length then allT (eqT G Γ 5) xs ys (fun z M' => K (!z) M') M E1 else K true M) (er : ErC X.K G B W σ ρ E1) :
    wpAny (model X.prog X.w) X.A (richCompare .NotEq (.ref a) (.ref b)) (fun z s' => ∃ b, z = .bool b ∧ PB X G B pins σ ρ J K b s') X.xe s := by
  have hr : Room (kx + 6) X.A := c.room
  obtain ⟨i1, q1, l1⟩ := lst_at I (sr.good.sub.sql h1)
  obtain ⟨i2, q2, l2⟩ := lst_at I (sr.good.sub.sql h3)
  obtain ⟨n1, t1, e1, z1⟩ := id l1
  obtain ⟨n2, t2, e2, z2⟩ := id l2
  refine wpAny_richCompare_same_room (op := .NotEq) ⟨_, e1, rfl⟩ ⟨_, e2, rfl⟩ F.slot_list_ne (GQ.call_here F.slot_list_ne ⟨_, e1, rfl⟩ F.entry_list_ne (F.args_list_ne_2 _ _) ?_) hr.units0
  split at h
  · rename_i hlen
    refine body_ne (R := wants (fun v s' => v ≠ .notImplemented ∧ ∃ b, v = .bool b ∧ PB X G B pins σ ρ J K b s') X.xe) a b vs.length
      (fun i s' => ∃ M' H' J', Ext J J' ∧ SR X.K G B σ H' ρ M' J' ∧ L2.Inv X pins σ H' s' ∧ allT (eqT G Γ 5) (xs.drop i) (ys.drop i) (fun z M' => K (!z) M') M' E1)
      (fun s' => PB X G B pins σ ρ J K true s') ⟨?_, ?_⟩ ?_ (fun s' q => ⟨(fun z => nomatch z), true, rfl, q⟩) ⟨M, H, J, .refl J, sr, I, by simpa using h⟩
    · rintro i s1 ⟨M1, H1, J1, x1, sr1, I1, t⟩
      obtain ⟨j1, p1, m1⟩ := lst_at I1 (sr1.good.sub.sql (x1.sql h1))
      obtain ⟨j2, p2, m2⟩ := lst_at I1 (sr1.good.sub.sql (x1.sql h3))
      refine ⟨_, _, m1, by rw [h2.length, hlen, ← h4.length]; exact m2, fun g1 g2 => ?_⟩
      obtain ⟨xi, k1, k2⟩ := vals_at p1 g1
      obtain ⟨yi, k3, k4⟩ := vals_at p2 g2
      obtain ⟨di, k5, k6⟩ := (h2.ext x1).get' k1
      obtain ⟨ei, k7, k8⟩ := (h4.ext x1).get' k3
      refine thn ((eqT_ok c 5).2 (hr.in1 : Room (kx + 5) X.A.in1) c.guards I.ok.frames I1 sr1 k6 k8 k2 k4 (allT_at k5 k7 t) er) fun r s2 hq => ?_
      obtain ⟨M2, H2, J2, z1, z2, z3, z4⟩ := hq
      cases r with
      | true => exact ⟨M2, H2, J2, x1.trans z2, z3, z4, z1⟩
      | false => exact ⟨M2, H2, J2, z1, x1.trans z2, z3, z4⟩
    · rintro s1 ⟨M1, H1, J1, _, x1, sr1, I1⟩
      obtain ⟨j1, p1, m1⟩ := lst_at I1 (sr1.good.sub.sql (x1.sql h1))
      obtain ⟨j2, p2, m2⟩ := lst_at I1 (sr1.good.sub.sql (x1.sql h3))
      exact ⟨_, _, m1, by rw [h2.length, hlen, ← h4.length]; exact m2⟩
    · rintro s1 ⟨M1, H1, J1, x1, sr1, I1, t⟩
      exact ⟨(fun z => nomatch z), false, rfl, M1, H1, J1, allT_end (by rw [← h2.length]; exact Nat.le_refl _) t, x1, sr1, I1⟩
  · rename_i hlen
    exact lens_ne (R := wants (fun v s' => v ≠ .notImplemented ∧ ∃ b, v = .bool b ∧ PB X G B pins σ ρ J K b s') X.xe) l1 l2 (by rw [h2.length, h4.length]; exact hlen) ⟨(fun z => nomatch z), true, rfl, M, H, J, h, .refl J, sr, I⟩
theorem op2_ne (c : Ctx X G W Γ kx) : Op2 X G B W (compareOp .NotEq) (fun a b ρ M K E => neC G Γ a b (fun z M' => K (.bl z) M') M E) := by
  rintro pins s σ H Q x y v u I rx ry ⟨ρ, M, J, K1, E1, d, e, sr, r1, r2, t, ok, er⟩
  have byI : ownEqT G Γ d e (fun z M' => K1 (.bl (!z)) M') M E1 → wpAny (model X.prog X.w) X.A (compareOp .NotEq v u) (EP X pins σ Q) X.xe s := by
    intro t
    unfold ownEqT at t
    obtain ⟨cc, fs, hi, hs, t⟩ := instX_ok t
    · skip
      obtain ⟨i, h1, run⟩ := own_bool c (A := X.A.in1) ((c.room.mono (by omega) : Room (kx + 1) X.A).in1) c.guards I.ok.frames I sr r1 r2 rx ry hi t er
      obtain ⟨a, dx, vfs, rfl, ha, _⟩ := instD_ok sr.good r1 hi
      obtain rfl : v = Value.ref a := rx
      obtain ⟨tb, l1, l2⟩ := notFirst_of c I sr.good h1 (by decide) hs r2 ry
      obtain ⟨_, ⟨m11, m12, m13⟩, sf⟩ := c.ops.ok.dn _ _ _ h1
      obtain ⟨n1, n2⟩ := c.ops.ne _ _ h1
      obtain ⟨od, J1⟩ := inst_at I ha
      obtain ⟨mf, Fr⟩ := I.fr
      rw [show G.nm 18 = "__eq__" from c.ops.dund 18 (by decide)] at m11
      refine own_ne (by have := c.room.units; omega) (I.mod.kin.keeps Fr.keep) J1 l1 l2 m11 m12 n1 n2 (thn run fun z s' h => ?_)
      obtain ⟨b, rfl, h⟩ := h
      refine ⟨b, rfl, ?_⟩
      obtain ⟨M', H', J', h1, h2, h3, h4⟩ := h
      exact ⟨.bl (!b), H', h4, rfl, ok _ _ _ _ _ h1 h2 h3 rep_bl⟩
  have byP : neP G Γ d e (fun z M' => K1 (.bl z) M') M E1 → wpAny (model X.prog X.w) X.A (compareOp .NotEq v u) (EP X pins σ Q) X.xe s := by
    intro t
    unfold neP at t
    split at t
    · rename_i p q hp hq
      exact op_neD (by have := c.room.units; omega) pins s σ H _ _ _ _ Q I rx ry ⟨p, q, dp_of sr.good.sub hp r1, dp_of sr.good.sub hq r2, t.1, t.2.1, fin_ok sr ok rep_bl t.2.2⟩
    · rename_i hneg
      clear hneg
      split at t
      · rename_i xs
        split at t
        · rename_i ys
          unfold Rep at r1 r2
          obtain ⟨a, vs, rfl, h1, h2⟩ := r1
          obtain ⟨b, ws, rfl, h3, h4⟩ := r2
          obtain rfl : v = Value.ref a := rx
          obtain rfl : u = Value.ref b := ry
          exact thn (ne_lists c I sr h1 h2 h3 h4 t er) fun z s' h => ep_of_pb ok (fun _ _ k => k) h
        · exact t.elim
      · exact t.elim
  unfold neC at t
  split at t
  · exact byI t
  · exact byI t
  · rename_i i
    split at t
    · rename_i j
      unfold Rep at r1 r2
      subst r1 r2
      refine op_ne pins s σ H _ _ _ _ Q I rx ry ⟨rfl, ?_⟩
      rw [dec_int]
      exact fin_ok sr ok rep_bl t
    · exact byP t
  · rename_i i
    split at t
    · rename_i j
      unfold Rep at r1 r2
      subst r1 r2
      refine op_ne pins s σ H _ _ _ _ Q I rx ry ⟨rfl, ?_⟩
      rw [dec_str]
      exact fin_ok sr ok rep_bl t
    · exact byP t
  · split at t
    · unfold Rep at r1 r2
      obtain ⟨a, oa, ka, rfl, h1, h2⟩ := r1
      obtain ⟨b, ob, kb, rfl, h3, h4⟩ := r2
      obtain rfl : v = Value.ref a := rx
      obtain rfl : u = Value.ref b := ry
      obtain ⟨_, _, _, _, d1⟩ := dk_rd I.hok (sr.good.sub.dK h1)
      obtain ⟨_, _, _, _, d2⟩ := dk_rd I.hok (sr.good.sub.dK h3)
      have hr : Room (kx + 6) X.A := c.room
      refine own_dict_ne d1.typeIs d2.typeIs hr.units0 fun nm => ?_
      refine thn (pairs_ok (fun I sr r1 r2 rx ry h er => (eqT_ok c 5).2 (hr.in1 : Room (kx + 5) X.A.in1) c.guards I.ok.frames I sr r1 r2 rx ry h er) I sr h1 h2 h3 h4 t er) fun b s' q => ?_
      have q' : PB X G B pins σ ρ J (fun z M' => K1 (.bl z) M') (!b) s' := by
        obtain ⟨M', H', J', q1, q2, q3, q4⟩ := q
        exact ⟨M', H', J', q1, q2, q3, q4⟩
      exact ep_of_pb ok (fun _ _ k => k) ⟨!b, rfl, q'⟩
    · exact t.elim
  · exact byP t
theorem isN_ok {I : Hp} {d : D} {v : V} {z : Bool} (r : Rep X.K G I d v) (h : isN d = some z) : decide (v = .non) = z := by
  cases d <;> cases h <;> unfold Rep at r <;> first | (subst r; rfl) | (obtain ⟨a, vs, rfl, _⟩ := r; rfl) | (obtain ⟨a, dx, vs, rfl, _⟩ := r; rfl) | (subst r; simp)
theorem op2_is (neg : Bool) : Op2 X G B W (compareOp (if neg then .IsNot else .Is)) (fun a b _ M K _ => isC neg a b fun d => K d M) := by
  rintro pins s σ H Q x y v u I rx ry ⟨ρ, M, J, K1, E1, d, e, sr, r1, r2, t, ok, er⟩
  unfold isC at t
  split at t
  · split at t
    · rename_i z hz
      have hz' := isN_ok r1 hz
      unfold Rep at r2
      subst r2
      cases neg with
      | true => exact op_notN pins s σ H _ _ _ _ Q I rx ry ⟨rfl, by rw [hz']; exact fin_ok sr ok rep_bl t⟩
      | false => exact op_isN pins s σ H _ _ _ _ Q I rx ry ⟨rfl, by rw [hz']; exact fin_ok sr ok rep_bl t⟩
    · exact t.elim
  · split at t
    · unfold Rep at r1 r2
      subst r1
      subst r2
      cases neg with
      | true => exact op_notBl pins s σ H _ _ _ _ Q I rx ry ⟨_, _, rfl, rfl, fin_ok sr ok rep_bl t⟩
      | false => exact op_isBl pins s σ H _ _ _ _ Q I rx ry ⟨_, _, rfl, rfl, fin_ok sr ok rep_bl t⟩
    · exact t.elim
  · exact t.elim
theorem op2_cmp (c : Ctx X G W Γ kx) (op : CmpOp) : Op2 X G B W (compareOp op) (cmpD G Γ op) := by
  cases op
  all_goals first
    | exact op2_eq c
    | exact op2_ne c
    | exact op2_ord c (.inl rfl)
    | exact op2_ord c (.inr (.inl rfl))
    | exact op2_ord c (.inr (.inr (.inl rfl)))
    | exact op2_ord c (.inr (.inr (.inr rfl)))
    | exact op2_is false
    | exact op2_is true
    | exact fun pins s σ H Q x y v u I rx ry ⟨ρ, M, J, K1, E1, d, e, sr, r1, r2, t, ok, er⟩ => t.elim
end
end PyD
set_option Elab.async false
set_option linter.all false
set_option autoImplicit false
set_option maxRecDepth 100000
set_option maxHeartbeats 4000000
/-! # Shapes of expressions; calls -/
namespace PyD
open PySem PySem.Spec L2

/-! ## shapes -/
def noStar : Expr → Bool
  | .Starred _ _ => false
  | _ => true
def plainBase : Expr → Bool
  | .Call (.Name id _) [] [] _ => id != ("super" : Str)
  | _ => true
def noSlice : Expr → Bool
  | .Slice _ _ _ _ => false
  | _ => true
def noCompr : Expr → Bool
  | .ListComp _ _ _ _ => false
  | .SetComp _ _ _ _ => false
  | .DictComp _ _ _ _ _ => false
  | _ => true
def noSet : Expr → Bool
  | .Set _ _ _ => false
  | _ => true
def testPlain : Expr → Bool
  | .UnaryOp .Not _ _ => false
  | .BoolOp _ _ _ => false
  | .IfExp _ _ _ _ => false
  | .Compare _ _ _ _ => false
  | _ => true
theorem star_cons {e : Expr} {es : List Expr} {env : Env} (h : noStar e = true) : starEach (e :: es) env = (false, eval e env) :: starEach es env := by
  cases e <;> first | rfl | cases h
theorem star_any {env : Env} {pos : Pos} : ∀ {es : List Expr}, es.all noStar = true → (backTo pos (starEach es env)).any (·.1) = false
  | [], _ => rfl
  | e :: es, h => by
    rw [List.all_cons, Bool.and_eq_true] at h
    rw [star_cons h.1]
    have := star_any (env := env) (pos := pos) h.2
    simp only [backTo, List.map_cons, List.any_cons, Bool.false_or] at this ⊢
    exact this
theorem star_all {env : Env} {pos : Pos} : ∀ {es : List Expr}, es.all noStar = true → (backTo pos (starEach es env)).all (fun x => !x.1) = true
  | [], _ => rfl
  | e :: es, h => by
    rw [List.all_cons, Bool.and_eq_true] at h
    rw [star_cons h.1]
    have := star_all (env := env) (pos := pos) h.2
    simp only [backTo, List.map_cons, List.all_cons, Bool.not_false, Bool.true_and] at this ⊢
    exact this
/-- the keywords' names -/
def kwNames (kws : List Keyword) : List Str := kws.filterMap fun k => k.arg
def kwNamed (kws : List Keyword) : Bool := kws.all fun k => k.arg.isSome
theorem kw_cons {k : Keyword} {kws : List Keyword} {env : Env} {pos : Pos} : backToKw pos (keywordEach (k :: kws) env) = (k.arg, do let v ← eval k.value env; standAt pos; pure v) :: backToKw pos (keywordEach kws env) := by
  obtain ⟨a, v, p⟩ := k
  rfl
theorem kw_all {env : Env} {pos : Pos} : ∀ {kws : List Keyword}, kwNamed kws = true → (backToKw pos (keywordEach kws env)).all (·.1.isSome) = true
  | [], _ => rfl
  | k :: kws, h => by
    unfold kwNamed at h
    rw [List.all_cons, Bool.and_eq_true] at h
    rw [kw_cons, List.all_cons, Bool.and_eq_true]
    exact ⟨h.1, kw_all h.2⟩
theorem kw_any {env : Env} {pos : Pos} : ∀ {kws : List Keyword}, kwNamed kws = true → (backToKw pos (keywordEach kws env)).any (·.1.isNone) = false
  | [], _ => rfl
  | k :: kws, h => by
    unfold kwNamed at h
    rw [List.all_cons, Bool.and_eq_true] at h
    rw [kw_cons, List.any_cons, Bool.or_eq_false_iff]
    exact ⟨by simpa using h.1, kw_any h.2⟩
theorem kw_names {env : Env} {pos : Pos} : ∀ {kws : List Keyword}, (backToKw pos (keywordEach kws env)).filterMap (·.1) = kwNames kws
  | [] => rfl
  | k :: kws => by
    rw [kw_cons]
    unfold kwNames
    rw [List.filterMap_cons, List.filterMap_cons, kw_names]
    cases k.arg <;> rfl
theorem kw_len {env : Env} {pos : Pos} : ∀ {kws : List Keyword}, (backToKw pos (keywordEach kws env)).length = kws.length
  | [] => rfl
  | k :: kws => by rw [kw_cons, List.length_cons, List.length_cons, kw_len]
theorem base_of {o : Expr} {f : Str} {env : Env} {w : Sem Value} (h : plainBase o = true) : attributeBase o f env w = w := by
  unfold attributeBase
  split
  · unfold plainBase at h
    dsimp only at h
    rw [h]
    rfl
  · rfl
theorem ix_of {b : Expr} (h : noSlice b = true) : PlainIx b := fun o i => by
  cases b <;> first | rfl | cases h
theorem swaps_of {e : Expr} {t : Option Expr} {l : Nat} {env : Env} (h : noCompr e = true) : swapsWith e t l env = pure false := by
  cases e <;> first | rfl | cases h
theorem marks_of {op : CmpOp} {b : Expr} (h : noSet b = true) : behindInMarks op b = false := by
  cases b <;> first | rfl | cases h
theorem folds_of {e : Expr} {env : Env} (h : noSet e = true) (x : Value) : foldedSetIterable e env x = pure x := by
  cases e <;> first | rfl | cases h
theorem test_of {e : Expr} {env : Env} (h : testPlain e = true) (whole : Sem Value) : isTrue e env whole = (do let v ← whole; standAt e.pos; holding [v] (truthy v)) := by
  cases e <;> first | rfl | skip
  · cases h
  · rename_i op _ _
    cases op <;> first | rfl | cases h
  · cases h
  · cases h
/-- a method's call, as the evaluator takes it -/
def methShape (o : Expr) (apos pos : Pos) (es : List Expr) (kws : List Keyword) : Bool :=
  plainBase o && es.all noStar && kwNamed kws && decide (es.length + kws.length + 1 < 30) && (apos.endLine == pos.line)
theorem meth_shape {o : Expr} {m : Str} {apos pos : Pos} {es : List Expr} {kws : List Keyword} {env : Env} (h : methShape o apos pos es kws = true) :
    eval (.Call (.Attribute o m apos) es kws pos) env = (do
      let ov ← eval o env
      standAt apos.atName
      let (f, first) ← holding [ov] (getMethod ov m (do return (← importBound o env).getD true))
      callWith pos f first (backTo pos (starEach es env)) (backToKw pos (keywordEach kws env))) := by
  unfold methShape at h
  simp only [Bool.and_eq_true, decide_eq_true_eq] at h
  obtain ⟨⟨⟨⟨h1, h2⟩, h3⟩, h4⟩, h5⟩ := h
  rw [arm_eval_Call, base_of h1]
  have hf : methodCallForm (es.length + kws.length) (backTo pos (starEach es env)) (backToKw pos (keywordEach kws env)) = true := by
    unfold methodCallForm
    rw [star_all h2, kw_all h3]
    have : es.length + kws.length + (if (backToKw pos (keywordEach kws env)).isEmpty = true then 0 else 1) < 30 := by split <;> omega
    simp only [Bool.true_and, decide_eq_true_eq]
    exact this
  have hp : methodCallPos true o env apos pos = pure pos := by
    unfold methodCallPos
    rw [h5]
    rfl
  unfold methodCall
  rw [hf, hp]
  rfl
/-! ## calls -/
section
variable {M : Model} {A : Around} {E : Value → Shared → Prop} {s : Shared} {K : PySem.W.Frag} {env : Env} {pos : Pos} {f : Value} {first : List Value} {Q : Value → Shared → Prop}
theorem wpAny_join {α β : Type} {a : α} {t : α → Sem β} {Q : β → Shared → Prop} (h : wpAny M A (pure a) (fun v s' => wpAny M A (t v) Q E s') E s) : wpAny M A (t a) Q E s := fun Γ p hi => h Γ p hi Γ p hi
theorem back_nil : backTo pos (starEach [] env) = [] := rfl
/-- arguments, then keywords -/
theorem callWith_any {h₀ : Heap} {es : List Expr} {kws : List Keyword} (X0 : K.In h₀) (hk : PySem.W.keepIn K f = true) (h1 : es.all noStar = true) (h2 : kwNamed kws = true)
    (h : wpAny M A (spliced (backTo pos (starEach es env))) (fun vs s₁ => wpAny M A (evalAll ((backToKw pos (keywordEach kws env)).map (·.2)))
      (fun ks s₂ => K.In s₂.heap ∧ wpAny M A (PySem.call f (first ++ vs) ((kwNames kws).zip ks)) Q E s₂) E s₁) E s) :
    wpAny M A (callWith pos f first (backTo pos (starEach es env)) (backToKw pos (keywordEach kws env))) Q E s := by
  rw [← kw_names (env := env) (pos := pos)] at h
  have hpl : ((backTo pos (starEach es env)).any (·.1) || (backToKw pos (keywordEach kws env)).any (·.1.isNone)) = false := by rw [star_any h1, kw_any h2]; rfl
  cases es with
  | cons e rest =>
    rw [List.all_cons, Bool.and_eq_true] at h1
    exact PySem.W.callWith_KW X0 hk (kw_all h2) h hpl (star_cons h1.1)
  | nil =>
    refine PySem.W.callWith_KW0 X0 hk (kw_all h2) ?_ hpl
    have : wpAny M A (pure ([] : List Value)) (fun vs s₁ => wpAny M A (evalAll ((backToKw pos (keywordEach kws env)).map (·.2)))
      (fun ks s₂ => K.In s₂.heap ∧ wpAny M A (PySem.call f (first ++ vs) (((backToKw pos (keywordEach kws env)).filterMap (·.1)).zip ks)) Q E s₂) E s₁) E s := h
    exact fun Γ p hi => this Γ p hi Γ p hi
end
/-- args, then keywords -/
def argsD (ta tk : TDs) (f : List D → TD) : TD := fun ρ M K E => ta ρ M (fun ds M1 => tk ρ M1 (fun ws M2 => f (ds ++ ws) ρ M2 K E) E) E
structure PKd (X : Cx) (G : Gam) (B : Bs) (W : WX) (kws : List Keyword) (t : TDs) : Prop where
  run : ∀ (pos : Pos) (pins : List (Addr × Obj)) (s : Shared) (σ : L2.St) (H : Hp) (Q : List V → Hp → Prop), L2.Inv X pins σ H s → TAx X.K G B W t σ H Q →
    wpAny (model X.prog X.w) X.A (evalAll ((backToKw pos (keywordEach kws X.env)).map (·.2))) (fun us s' => us.length = kws.length ∧ AP X pins σ Q us s') X.xe s
section
variable {X : Cx} {G : Gam} {B : Bs} {W : WX} {Γ : Nat → SpD} {kx : Nat}
theorem pkd_nil : PKd X G B W [] nilD := by
  refine ⟨fun pos pins s σ H Q I h => wpAny_evalAll_nil ?_⟩
  obtain ⟨ρ, M, J, K1, E1, sr, t, ok, er⟩ := h
  exact ⟨rfl, [], H, I, .nil, ok [] M [] H J t (.refl J) sr .nil⟩
theorem pkd_cons {nm : Option Str} {e : Expr} {kpos : Pos} {kws : List Keyword} {te : TD} {t : TDs} (ha : PE X e (TEx X.K G B W te)) (hr : PKd X G B W kws t) : PKd X G B W (⟨nm, e, kpos⟩ :: kws) (consD te t) := by
  refine ⟨fun pos pins s σ H Q I h => ?_⟩
  obtain ⟨ρ, M, J, K1, E1, sr, q, ok, er⟩ := h
  show wpAny _ _ (evalAll ((do let v ← eval e X.env; standAt pos; pure v) :: (backToKw pos (keywordEach kws X.env)).map (·.2))) _ _ s
  refine wpAny_evalAll_cons (wpAny_bind (thn (ha.run pins s σ H (fun x H1 => TAx X.K G B W t σ H1 fun xs H2 => Q (x :: xs) H2) I ?_) fun u s1 ⟨x, H1, I1, r1, q1⟩ => wpAny_bind (wpAny_standAt (wpAny_pure ?_))))
  · exact ⟨ρ, M, J, _, E1, sr, q, fun d M' v H' I' k e s' r => ⟨ρ, M', I', _, E1, s', k, fun ds M2 vs H2 I2 k2 e2 s2 r2 => ok _ _ _ _ _ k2 (e.trans e2) s2 (.cons (r.ext e2) r2), er⟩, er⟩
  · exact thn (hr.run pos pins s1 σ H1 _ I1 q1) fun us s2 ⟨hl, xs, H2, I2, r2, q2⟩ => ⟨by rw [List.length_cons, List.length_cons, hl], x :: xs, H2, I2, .cons r1 r2, q2⟩
theorem named_len : ∀ {kws : List Keyword}, kwNamed kws = true → (kwNames kws).length = kws.length
  | [], _ => rfl
  | k :: kws, h => by
    unfold kwNamed at h
    rw [List.all_cons, Bool.and_eq_true] at h
    obtain ⟨x, e⟩ := Option.isSome_iff_exists.mp h.1
    unfold kwNames
    rw [List.filterMap_cons, e]
    show (x :: kwNames kws).length = (k :: kws).length
    rw [List.length_cons, List.length_cons, named_len h.2]
/-- arguments and keywords are laid, then a call -/
theorem call_args {es : List Expr} {kws : List Keyword} {ta tk : TDs} {f : List D → TD} {fv : Value} {first : List Value} {pos : Pos} {pins : List (Addr × Obj)} {s : Shared} {σ : L2.St} {H : Hp} {Q : VK} {ρ : Slots} {M : Mst} {J : Hp} {K1 : KD} {E1 : ED}
    (I : L2.Inv X pins σ H s) (sr : SR X.K G B σ H ρ M J) (ha : PA X es (TAx X.K G B W ta)) (hk : PKd X G B W kws tk) (kp : PySem.W.keepIn X.K fv = true) (h1 : es.all noStar = true) (h2 : kwNamed kws = true)
    (t : argsD ta tk f ρ M K1 E1) (ok : OkC X.K G B σ ρ J K1 Q) (er : ErC X.K G B W σ ρ E1)
    (go : ∀ us ws vs ds s2 H2 M2 J2, ws.length = (kwNames kws).length → L2.Inv X pins σ H2 s2 → Ext J J2 → SR X.K G B σ H2 ρ M2 J2 → Vals vs (us ++ ws) → Reps X.K G J2 ds vs → f ds ρ M2 K1 E1 →
      wpAny (model X.prog X.w) X.A (PySem.call fv (first ++ us) ((kwNames kws).zip ws)) (EP X pins σ Q) X.xe s2) :
    wpAny (model X.prog X.w) X.A (callWith pos fv first (backTo pos (starEach es X.env)) (backToKw pos (keywordEach kws X.env))) (EP X pins σ Q) X.xe s := by
  refine callWith_any (h₀ := X.base) I.ok.mod.kin kp h1 h2 ?_
  refine thn (ha.run pos pins s σ H (fun xs H1 => ∃ M1 J1 ds, Ext J J1 ∧ SR X.K G B σ H1 ρ M1 J1 ∧ Reps X.K G J1 ds xs ∧ tk ρ M1 (fun ws M2 => f (ds ++ ws) ρ M2 K1 E1) E1) I ⟨ρ, M, J, _, E1, sr, t, fun ds M' vs H' I' k e s' r => ⟨M', I', ds, e, s', r, k⟩, er⟩) fun us s1 ⟨xs, H1, I1, r1, M1, J1, ds, e1, sr1, q1, t1⟩ => ?_
  refine thn (hk.run pos pins s1 σ H1 (fun ys H2 => ∃ M2 J2 es, Ext J1 J2 ∧ SR X.K G B σ H2 ρ M2 J2 ∧ Reps X.K G J2 es ys ∧ f (ds ++ es) ρ M2 K1 E1) I1 ⟨ρ, M1, J1, _, E1, sr1, t1, fun es M' vs H' I' k e s' r => ⟨M', I', es, e, s', r, k⟩, er⟩) fun ws s2 ⟨hl, ys, H2, I2, r2, M2, J2, es, e2, sr2, q2, t2⟩ => ⟨I2.kIn, ?_⟩
  exact go us ws (xs ++ ys) (ds ++ es) s2 H2 M2 J2 (by rw [named_len h2]; exact hl) I2 (e1.trans e2) sr2 (r1.append r2) ((q1.ext e2).append q2) t2
/-- f(..), f a global def or class -/
theorem pd_call (c : Ctx X G W Γ kx) {i : Nat} {x : Str} {p pos : Pos} {es : List Expr} {kws : List Keyword} {ta tk : TDs} (hn : G.gn i = some x) (hg : Gl X x) (hks : G.ks i = kwNames kws) (ha : PA X es (TAx X.K G B W ta)) (hk : PKd X G B W kws tk)
    (h1 : es.all noStar = true) (h2 : kwNamed kws = true) : PE X (.Call (.Name x p) es kws pos) (TEx X.K G B W (argsD ta tk fun ds => spT (Γ i) ds)) := by
  obtain ⟨hm, kp, hd⟩ := c.gg.gn _ _ hn
  refine ⟨fun pins s σ H Q I h => wpAny_Call_Name_kw (ld_glob I hg hm ?_ hd)⟩
  obtain ⟨ρ, M, J, K1, E1, sr, t, ok, er⟩ := h
  refine call_args I sr ha hk kp h1 h2 t ok er fun us ws vs ds s2 H2 M2 J2 hl I2 x2 sr2 rv rs q => ?_
  have F := c.calls i _ _ _ _ q
  rw [← hks]
  exact F.call (c.room.mono (by omega)) c.guards I.ok.frames c.takes I2 rv (by rw [hks]; exact hl) ⟨ρ, M2, J2, K1, E1, ds, sr2, rs, q, ok.mono x2, er⟩
/-- o.m(..) -/
def methD (G : Gam) (Γ : Nat → SpD) (k : Nat) (n : List Str) (o : D) (ta tk : TDs) : TD := fun ρ M K E => instX o M fun c fs => match G.dm c k n with
    | some i => getD k fs = none ∧ argsD ta tk (fun ds => spT (Γ i) (o :: ds)) ρ M K E
    | none => False
theorem pd_meth (c : Ctx X G W Γ kx) {o : Expr} {k : Nat} {apos pos : Pos} {es : List Expr} {kws : List Keyword} {to : TD} {ta tk : TDs} (ho : PE X o (TEx X.K G B W to)) (ha : PA X es (TAx X.K G B W ta)) (hk : PKd X G B W kws tk) (hs : methShape o apos pos es kws = true) :
    PE X (.Call (.Attribute o (G.nm k) apos) es kws pos) (TEx X.K G B W (bindD to fun d => methD G Γ k (kwNames kws) d ta tk)) := by
  have hs' := hs
  unfold methShape at hs'
  simp only [Bool.and_eq_true] at hs'
  obtain ⟨⟨⟨⟨_, h1⟩, h2⟩, _⟩, _⟩ := hs'
  refine ⟨fun pins s σ H Q I h => ?_⟩
  obtain ⟨ρ, M, J, K1, E1, sr, t, ok, er⟩ := h
  refine PySem.W.methodCall_KW (thn (ho.run pins s σ H (fun x H1 => ∃ M1 J1 d, Ext J J1 ∧ SR X.K G B σ H1 ρ M1 J1 ∧ Rep X.K G J1 d x ∧ methD G Γ k (kwNames kws) d ta tk ρ M1 K1 E1) I ⟨ρ, M, J, _, E1, sr, t, fun d M' v H' I' z e s' r => ⟨M', I', d, e, s', r, z⟩, er⟩) fun u s1 ⟨x, H1, I1, rx, M1, J1, d, e1, sr1, r1, t1⟩ => ?_) (meth_shape hs)
  unfold methD at t1
  obtain ⟨cc, fs, hi, t1⟩ := instX_ok t1
  · split at t1
    · rename_i i hm
      obtain ⟨hno, t1⟩ := t1
      obtain ⟨cls, me, hks⟩ := c.gg.dm _ _ _ _ hm
      obtain ⟨a, dx, vfs, rfl, hA, hF⟩ := instD_ok sr1.good r1 hi
      obtain rfl : u = Value.ref a := rx
      refine getmeth_ok I1 hA cls me (hF.none hno) ?_
      refine call_args I1 sr1 ha hk me.kp h1 h2 t1 (ok.mono e1) er fun us ws vs ds s2 H2 M2 J2 hl I2 x2 sr2 rv rs q => ?_
      have F := c.calls i _ _ _ _ q
      rw [← hks]
      exact F.call (us := .ref a :: us) (c.room.mono (by omega)) c.guards I.ok.frames c.takes I2 (.cons (show RelV (V.ref a) (Value.ref a) from rfl) rv) (by rw [hks]; exact hl) ⟨ρ, M2, J2, K1, E1, d :: ds, sr2, .cons (r1.ext x2) rs, q, (ok.mono e1).mono x2, er⟩
    · exact t1.elim
/-- C.m(..), a static method of the class C -/
theorem pd_stat (c : Ctx X G W Γ kx) {cc i : Nat} {x : Str} {k : Nat} {p apos pos : Pos} {es : List Expr} {kws : List Keyword} {ta tk : TDs} (hn : G.cn cc = some x) (hg : Gl X x) (hm : G.sm cc k (kwNames kws) = some i) (ha : PA X es (TAx X.K G B W ta)) (hk : PKd X G B W kws tk)
    (hs : methShape (.Name x p) apos pos es kws = true) : PE X (.Call (.Attribute (.Name x p) (G.nm k) apos) es kws pos) (TEx X.K G B W (argsD ta tk fun ds => spT (Γ i) ds)) := by
  have hs' := hs
  unfold methShape at hs'
  simp only [Bool.and_eq_true] at hs'
  obtain ⟨⟨⟨⟨_, h1⟩, h2⟩, _⟩, _⟩ := hs'
  obtain ⟨hm0, hd⟩ := c.gg.cn _ _ hn
  obtain ⟨⟨mc, pa, rest, f1, f2, f3, f4, f5, f6, f7⟩, hks⟩ := c.gg.sm _ _ _ _ hm
  refine ⟨fun pins s σ H Q I h => ?_⟩
  obtain ⟨ρ, M, J, K1, E1, sr, t, ok, er⟩ := h
  refine PySem.W.methodCall_KW (ld_glob I hg hm0 ?_ hd) (meth_shape hs)
  obtain ⟨mf, Fr⟩ := I.fr
  refine PySem.W.method_of_cls Fr I.mod.kin f1 (PySem.W.cls_sm Fr I.mod.kin f2 f3 f4 f5 f6 ?_)
  have I1 := I.tok (s.toks + 1)
  refine call_args I1 sr ha hk f7 h1 h2 t ok er fun us ws vs ds s2 H2 M2 J2 hl I2 x2 sr2 rv rs q => ?_
  have F := c.calls i _ _ _ _ q
  rw [← hks]
  exact F.call (c.room.mono (by omega)) c.guards I.ok.frames c.takes I2 rv (by rw [hks]; exact hl) ⟨ρ, M2, J2, K1, E1, ds, sr2, rs, q, ok.mono x2, er⟩
/-- an attribute: a field, or a property -/
def attI (G : Gam) (Γ : Nat → SpD) (k : Nat) (d : D) : TD := fun _ M K _ => instX d M fun c fs => match G.fld c k with
    | true => (match getD k fs with
      | some e => K e M
      | none => False)
    | false => (match G.pr c k with
      | some i => Γ i [d] M K (fun _ _ _ => False)
      | none => (match G.iv c k with
        | some e => getD k fs = none ∧ K e M
        | none => False))
theorem fn_got {A : Around} {sd : SpD} {pins : List (Addr × Obj)} {s : Shared} {σ : L2.St} {H : Hp} {Q : VK} {us : List Value} {vs : List V} {ds : List D} {ρ : Slots} {M : Mst} {J : Hp} {K1 : KD} {f : Value} (F : FnD X.prog X.w X.K X.mg X.base G kx f [] sd) (hr : Room kx A) (hg : A.guards = some []) (hf : A.frames = some X.stack)
    (I : L2.Inv X pins σ H s) (sr : SR X.K G B σ H ρ M J) (rv : Vals vs us) (rs : Reps X.K G J ds vs) (t : sd ds M K1 (fun _ _ _ => False)) (ok : OkC X.K G B σ ρ J K1 Q) :
    codeAny (model X.prog X.w) A (.call f ⟨us, []⟩) (fun r s' => match r with
      | .ok (.ret u) => ∃ v H', L2.Inv X pins σ H' s' ∧ RelV v u ∧ Q v H'
      | _ => False) s := by
  have e0 := I.env0
  have e1 : Env0 X.prog X.w X.K X.mg X.base A X.stack s H := ⟨hf, e0.mod, e0.bs, e0.bsz, e0.funs, e0.frf, e0.hok, e0.bare⟩
  have := F.run A X.stack s H us [] vs ds M J K1 (fun _ _ _ => False) Q (fun _ _ _ => False) hr hg e1 (by rw [List.append_nil]; exact rv) rfl sr.good rs t (fun d M' v H' I' h g fr q => ok d M' v H' I' h fr.ext (sr.step g fr) q) (fun _ _ _ _ _ _ _ h _ _ _ => h.elim)
  refine codeAny_mono this fun z s' hq => ?_
  cases z with
  | error e =>
    obtain ⟨_, _, _, _, _, _, _, _, _, _, _, _, h⟩ := hq
    exact h.elim
  | ok fl =>
    cases fl with
    | ret u => exact I.after hq
    | next => exact False.elim hq
    | brk => exact False.elim hq
    | cont => exact False.elim hq
def attD (G : Gam) (Γ : Nat → SpD) (k : Nat) (d : D) : TD := fun ρ M K E => match d with
  | .cls c => (match G.cv c k with
    | some e => K e M
    | none => False)
  | .obj c fs => attI G Γ k (.obj c fs) ρ M K E
  | .loc a => attI G Γ k (.loc a) ρ M K E
  | _ => False
theorem attD_i {G : Gam} {Γ : Nat → SpD} {k : Nat} {d : D} {ρ : Slots} {M : Mst} {K : KD} {E : ED} (h : attD G Γ k d ρ M K E) : (∃ c e, d = .cls c ∧ G.cv c k = some e ∧ K e M) ∨ attI G Γ k d ρ M K E := by
  unfold attD at h
  split at h
  · split at h
    · rename_i c e he
      exact .inl ⟨_, _, rfl, he, h⟩
    · exact h.elim
  · exact .inr h
  · exact .inr h
  · exact h.elim
theorem pd_att (c : Ctx X G W Γ kx) {e : Expr} {k : Nat} {pos : Pos} {te : TD} (he : PE X e (TEx X.K G B W te)) (hb : plainBase e = true) : PE X (.Attribute e (G.nm k) pos) (TEx X.K G B W (bindD te (attD G Γ k))) := by
  refine ⟨fun pins s σ H Q I h => ?_⟩
  obtain ⟨ρ, M, J, K1, E1, sr, t, ok, er⟩ := h
  refine attr_of (base_of hb) (thn (he.run pins s σ H (fun x H1 => ∃ M1 J1 d, Ext J J1 ∧ SR X.K G B σ H1 ρ M1 J1 ∧ Rep X.K G J1 d x ∧ attD G Γ k d ρ M1 K1 E1) I ⟨ρ, M, J, _, E1, sr, t, fun d M' v H' I' z e s' r => ⟨M', I', d, e, s', r, z⟩, er⟩) fun u s1 ⟨x, H1, I1, rx, M1, J1, d, e1, sr1, r1, t1⟩ => ?_)
  rcases attD_i t1 with ⟨cc, e2, rfl, hcv, t1⟩ | t1
  · unfold Rep at r1
    subst r1
    obtain rfl : u = Value.ref _ := rx
    obtain ⟨mc, uu, vv, c1, c2, c3⟩ := c.gg.cv _ _ _ hcv
    exact ClX.getcval_ok I1 c1 c2 fun s2 I2 => ⟨vv, H1, I2, c2.rel, ok _ _ _ _ _ t1 e1 sr1 (c3 _)⟩
  unfold attI at t1
  obtain ⟨cc, fs, hi, t1⟩ := instX_ok t1
  · obtain ⟨a, dx, vfs, rfl, hA, hF⟩ := instD_ok sr1.good r1 hi
    obtain rfl : u = Value.ref a := rx
    split at t1
    · rename_i hf
      split at t1
      · rename_i y hy
        obtain ⟨v, h3, h4⟩ := hF.get hy
        obtain ⟨c1, c2⟩ := c.ops.ok.fld cc k hf
        exact getattr_ok I1 hA c1 c2 h3 fun u' s2 I2 ru => ⟨v, H1, I2, ru, ok _ _ _ _ _ t1 e1 sr1 h4⟩
      · exact t1.elim
    · split at t1
      · rename_i i hp
        obtain ⟨cls, hks, hnc, p, po⟩ := c.gg.pr _ _ _ hp
        obtain ⟨mA, O, _, _, _, _⟩ := ins_get I1.hok hA
        obtain ⟨od, J2, _⟩ := O.look
        obtain ⟨rest, hrec⟩ := po.rec_
        have I2 := I1.tok (s1.toks + 1)
        have hc : (PySem.W.clsIn X.K (G.cl cc)).isSome = true := by
          obtain ⟨cd, hc, _⟩ := PySem.W.any_some cls.hd
          rw [hc]
          rfl
        have F := c.calls i _ _ _ _ t1
        rw [hks, hnc] at F
        refine PySem.W.get_bind I1.kIn J2 (PySem.W.plainGet_of (cls.get (G.nm k))).1 (PySem.W.findObj_data hc po.at_ po.get po.tak) (PySem.W.plainGet_of (cls.get (G.nm k))).2 (wpAny_call (PySem.W.prop_get (s := { s1 with toks := s1.toks + 1 }) I1.kIn hrec ?_))
        refine codeAny_mono (fn_got F ((c.room.mono (by omega) : Room (kx + 1) X.A).in1) c.guards I.ok.frames I2 sr1 (.cons (show RelV (V.ref a) (Value.ref a) from rfl) .nil) (.cons r1 .nil) t1 (ok.mono e1)) fun r s' hq => ?_
        cases r with
        | error er => exact False.elim hq
        | ok fl =>
          cases fl with
          | ret u =>
            obtain ⟨v, H', I3, rv, q3⟩ := hq
            show wpAny _ _ (handedOut u) _ _ _
            rw [PySem.W.handedOut_of (handed_of rv)]
            exact wpAny_pure ⟨v, H', I3, rv, q3⟩
          | next => exact False.elim hq
          | brk => exact False.elim hq
          | cont => exact False.elim hq
      · split at t1
        · rename_i e2 hv
          obtain ⟨t0, t1⟩ := t1
          obtain ⟨cls, uu, vv, con, rp⟩ := c.gg.iv _ _ _ hv
          exact getcon_ok I1 hA cls con (hF.none t0) fun s2 I2 => ⟨vv, H1, I2, con.rel, ok _ _ _ _ _ t1 e1 sr1 (rp _)⟩
        · exact t1.elim
end
end PyD
set_option Elab.async false
set_option linter.all false
set_option autoImplicit false
set_option maxRecDepth 100000
set_option maxHeartbeats 4000000
/-! # Truth, types, built-in functions -/
namespace PyD
open PySem PySem.Spec L2

/-- a datum's truth; the answer as a bool -/
def truD (G : Gam) (Γ : Nat → SpD) (d : D) : TD := fun ρ M K E => match d with
  | .non => K (.bl false) M
  | .bl b => K (.bl b) M
  | .int i => K (.bl (i != 0)) M
  | .str x => x.length ≤ 1000000 ∧ K (.bl ((x.length : Int) != 0)) M
  | .lst xs => K (.bl (!xs.isEmpty)) M
  | .tup xs => K (.bl (!xs.isEmpty)) M
  | .dct xs => False
  | _ => instX d M fun _ _ => ownD G Γ 20 d [] ρ M (fun r M' => match r with
        | .bl z => K (.bl z) M'
        | _ => False) E
section
variable {X : Cx} {G : Gam} {B : Bs} {W : WX} {Γ : Nat → SpD} {kx : Nat}
theorem reps_empty {K : PySem.W.Frag} {I : Hp} {ds : List D} {vs : List V} (r : Reps K G I ds vs) : vs.isEmpty = ds.isEmpty := by
  cases ds with
  | nil => unfold Reps at r; subst r; rfl
  | cons d ds => unfold Reps at r; obtain ⟨v, t, rfl, _⟩ := r; rfl
theorem tru_any (c : Ctx X G W Γ kx) {A : Around} {pins : List (Addr × Obj)} {s : Shared} {σ : L2.St} {H : Hp} {ρ : Slots} {M : Mst} {J : Hp} {d : D} {x : V} {v : Value} {K1 : KD} {E1 : ED} (hr : Room kx A) (hg : A.guards = some []) (hf : A.frames = some X.stack)
    (I : L2.Inv X pins σ H s) (sr : SR X.K G B σ H ρ M J) (r1 : Rep X.K G J d x) (rx : RelV x v) (t : truD G Γ d ρ M K1 E1) (er : ErC X.K G B W σ ρ E1) :
    wpAny (model X.prog X.w) A (truthy v) (PB X G B pins σ ρ J fun b M' => K1 (.bl b) M') X.xe s := by
  have hl := line63
  have hs : sizeLine = 16777216 := sizeLine_eq
  have byI : (instX d M fun _ _ => ownD G Γ 20 d [] ρ M (fun r M' => match r with
        | .bl z => K1 (.bl z) M'
        | _ => False) E1) → wpAny (model X.prog X.w) A (truthy v) (PB X G B pins σ ρ J fun b M' => K1 (.bl b) M') X.xe s := by
    intro t
    obtain ⟨cc, fs, hi, t⟩ := instX_ok t
    obtain ⟨i, h1, hks, t⟩ := ownD_at _ _ t hi
    · skip
      · skip
        obtain ⟨a, dx, vfs, rfl, ha, _⟩ := instD_ok sr.good r1 hi
        obtain rfl : v = Value.ref a := rx
        obtain ⟨_, ⟨m11, m12, m13⟩, sf⟩ := c.ops.ok.dn _ _ _ h1
        obtain ⟨od, J1⟩ := inst_at I ha
        obtain ⟨mf, Fr⟩ := I.fr
        have e1 : G.nm 20 = "__bool__" := c.ops.dund 20 (by decide)
        rw [e1] at m11
        refine PySem.W.truthy_K Fr I.mod.kin J1 m11 m12 ?_
        refine thn (own_run c (Q := fun z H' => ∃ b M' J', z = .bl b ∧ K1 (.bl b) M' ∧ Ext J J' ∧ SR X.K G B σ H' ρ M' J') hr hg hf I sr (.cons r1 .nil) (.cons (show RelV (V.ref a) (Value.ref a) from rfl) .nil) hks t (fun d' M' z H' J' k x' s' r' => ?_) er) fun z s' hz => ?_
        · split at k
          · unfold Rep at r'
            exact ⟨_, M', J', r', k, x', s'⟩
          · exact k.elim
        · obtain ⟨z', H', I', rz, b, M', J', rfl, k, x', s''⟩ := hz
          obtain rfl : z = Value.bool b := rz
          exact ⟨M', H', J', k, x', s'', I'⟩
  unfold truD at t
  split at t
  · unfold Rep at r1; subst r1
    obtain rfl : v = Value.none := rx
    exact PyProof.Rows.truthy_none ⟨M, H, J, t, .refl J, sr, I⟩
  · unfold Rep at r1; subst r1
    obtain rfl : v = Value.bool _ := rx
    exact wpAny_truthy_bool ⟨M, H, J, t, .refl J, sr, I⟩
  · unfold Rep at r1; subst r1
    obtain ⟨tk, rfl⟩ := rx
    exact PySem.P.truthy_int ⟨M, H, J, t, .refl J, sr, I⟩
  · unfold Rep at r1; subst r1
    obtain ⟨tk, rfl⟩ := rx
    exact PySem.P.truthy_str (by have := t.1; omega) ⟨M, H, J, t.2, .refl J, sr, I.tok _⟩
  · unfold Rep at r1
    obtain ⟨a, vs, rfl, h1, h2⟩ := r1
    obtain rfl : v = Value.ref a := rx
    obtain ⟨its, r, pl, hz⟩ := I.list (sr.good.sub.sql h1)
    have hlen := r.length
    exact wpAny_truthy_list pl.isList (by simp only [List.size_toArray]; omega) ⟨M, H, J, by rw [isEmpty_of r, reps_empty h2]; exact t, .refl J, sr, I.tok _⟩
  · unfold Rep at r1
    obtain ⟨a, vs, rfl, h1, h2⟩ := r1
    obtain rfl : v = Value.ref a := rx
    obtain ⟨its, r, pl, hz⟩ := I.tuple (sr.good.sub.sqt h1)
    have hlen := r.length
    exact PyProof.Rows.truthy_tuple pl (by simp only [List.size_toArray]; omega) ⟨M, H, J, by rw [isEmpty_of r, reps_empty h2]; exact t, .refl J, sr, I.tok _⟩
  · exact t.elim
  · exact byI t
end
end PyD
set_option Elab.async false
set_option linter.all false
set_option autoImplicit false
set_option maxRecDepth 100000
set_option maxHeartbeats 4000000
/-! # Texts and lengths of own instances -/
namespace PyD
open PySem PySem.Spec L2
section
variable (G : Gam) (Γ : Nat → SpD)
/-- an own def that answers a text -/
def ownTxt (k : Nat) (d : D) : TD := fun ρ M K E => instX d M fun _ _ => ownD G Γ k d [] ρ M (fun r M' => match r with
  | .str x => x.length ≤ 1000000 ∧ K (.str x) M'
  | _ => False) E
/-- an own def that answers a number -/
def ownNum (k : Nat) (d : D) : TD := fun ρ M K E => instX d M fun _ _ => ownD G Γ k d [] ρ M (fun r M' => match r with
  | .int n => (0 ≤ n ∧ n < 2 ^ 63) ∧ K (.int n) M'
  | _ => False) E
end
section
variable {X : Cx} {G : Gam} {B : Bs} {W : WX} {Γ : Nat → SpD} {kx : Nat}
theorem own_txt (c : Ctx X G W Γ kx) {A : Around} {k : Nat} {d : D} {x : V} {pins : List (Addr × Obj)} {s : Shared} {σ : L2.St} {H : Hp} {Q : VK} {ρ ρ1 : Slots} {M : Mst} {J : Hp} {K1 : KD} {E1 : ED}
    (hr : Room kx A) (hg : A.guards = some []) (hf : A.frames = some X.stack) (I : L2.Inv X pins σ H s) (sr : SR X.K G B σ H ρ M J) (r1 : Rep X.K G J d x) (t : ownTxt G Γ k d ρ1 M K1 E1) (ok : OkC X.K G B σ ρ J K1 Q) (er : ErC X.K G B W σ ρ E1) :
    ∃ a cc dx vfs i, x = .ref a ∧ H a = some (.ins (G.cl cc) dx vfs) ∧ G.dn cc k = some i ∧
      wpAny (model X.prog X.w) A (PySem.call (.ref (G.adr i)) [.ref a]) (fun z s' => ∃ y t, z = .str y t ∧ y.length ≤ 1000000 ∧ EP X pins σ Q z s') X.xe s := by
  unfold ownTxt at t
  obtain ⟨cc, fs, hi, t⟩ := instX_ok t
  obtain ⟨i, h1, hks, t⟩ := ownD_at _ _ t hi
  obtain ⟨a, dx, vfs, rfl, ha, _⟩ := instD_ok sr.good r1 hi
  refine ⟨a, cc, dx, vfs, i, rfl, ha, h1, ?_⟩
  refine thn (own_run c (Q := fun z H' => ∃ y, z = .str y ∧ y.length ≤ 1000000 ∧ Q z H') hr hg hf I sr (.cons r1 .nil) (.cons (show RelV (V.ref a) (Value.ref a) from rfl) .nil) hks t (fun d' M' z H' J' k x' s' r' => ?_) er) fun z s' hz => ?_
  · split at k
    · obtain ⟨k1, k2⟩ := k
      have r2 := r'
      unfold Rep at r2
      exact ⟨_, r2, k1, ok _ _ _ _ _ k2 x' s' r'⟩
    · exact k.elim
  · obtain ⟨z', H', I', rz, y, rfl, hl, q⟩ := hz
    obtain ⟨tk, rfl⟩ := rz
    exact ⟨y, tk, rfl, hl, .str y, H', I', ⟨tk, rfl⟩, q⟩
theorem own_num (c : Ctx X G W Γ kx) {A : Around} {k : Nat} {d : D} {x : V} {pins : List (Addr × Obj)} {s : Shared} {σ : L2.St} {H : Hp} {Q : VK} {ρ ρ1 : Slots} {M : Mst} {J : Hp} {K1 : KD} {E1 : ED}
    (hr : Room kx A) (hg : A.guards = some []) (hf : A.frames = some X.stack) (I : L2.Inv X pins σ H s) (sr : SR X.K G B σ H ρ M J) (r1 : Rep X.K G J d x) (t : ownNum G Γ k d ρ1 M K1 E1) (ok : OkC X.K G B σ ρ J K1 Q) (er : ErC X.K G B W σ ρ E1) :
    ∃ a cc dx vfs i, x = .ref a ∧ H a = some (.ins (G.cl cc) dx vfs) ∧ G.dn cc k = some i ∧
      wpAny (model X.prog X.w) A (PySem.call (.ref (G.adr i)) [.ref a]) (fun z s' => ∃ y t, z = .int y t ∧ (0 ≤ y ∧ y < 2 ^ 63) ∧ EP X pins σ Q z s') X.xe s := by
  unfold ownNum at t
  obtain ⟨cc, fs, hi, t⟩ := instX_ok t
  obtain ⟨i, h1, hks, t⟩ := ownD_at _ _ t hi
  obtain ⟨a, dx, vfs, rfl, ha, _⟩ := instD_ok sr.good r1 hi
  refine ⟨a, cc, dx, vfs, i, rfl, ha, h1, ?_⟩
  refine thn (own_run c (Q := fun z H' => ∃ y, z = .int y ∧ (0 ≤ y ∧ y < 2 ^ 63) ∧ Q z H') hr hg hf I sr (.cons r1 .nil) (.cons (show RelV (V.ref a) (Value.ref a) from rfl) .nil) hks t (fun d' M' z H' J' k x' s' r' => ?_) er) fun z s' hz => ?_
  · split at k
    · obtain ⟨k1, k2⟩ := k
      have r2 := r'
      unfold Rep at r2
      exact ⟨_, r2, k1, ok _ _ _ _ _ k2 x' s' r'⟩
    · exact k.elim
  · obtain ⟨z', H', I', rz, y, rfl, hl, q⟩ := hz
    obtain ⟨tk, rfl⟩ := rz
    exact ⟨y, tk, rfl, hl, .int y, H', I', ⟨tk, rfl⟩, q⟩
theorem str_nm (c : Ctx X G W Γ kx) {cc i : Nat} (h : G.dn cc 26 = some i) : PySem.W.findIn X.K (.ref (G.cl cc)) "__str__" = some (some (.ref (G.adr i))) ∧ PySem.W.isFn X.K (.ref (G.adr i)) = true := by
  obtain ⟨_, ⟨m11, m12, m13⟩, sf⟩ := c.ops.ok.dn _ _ _ h
  rw [show G.nm 26 = "__str__" from c.ops.dund 26 (by decide)] at m11
  exact ⟨m11, m12⟩
/-! ## str(x), len(x) of own instances -/
theorem call_own_str (c : Ctx X G W Γ kx) {d : D} {x : V} {v : Value} {pins : List (Addr × Obj)} {s : Shared} {σ : L2.St} {H : Hp} {Q : VK} {ρ : Slots} {M : Mst} {J : Hp} {K1 : KD} {E1 : ED} (I : L2.Inv X pins σ H s) (sr : SR X.K G B σ H ρ M J) (r : Rep X.K G J d x) (rx : RelV x v)
    (t : ownTxt G Γ 26 d ρ M K1 E1) (ok : OkC X.K G B σ ρ J K1 Q) (er : ErC X.K G B W σ ρ E1) : wpAny (model X.prog X.w) X.A (PySem.call (.type "str") [v]) (EP X pins σ Q) X.xe s := by
  have r6 := c.room
  have r4 : Room (kx + 4) X.A.in1.in1 := r6.in1.in1
  obtain ⟨a, cc, dx, vfs, i, rfl, ha, h1, run⟩ := own_txt c (A := X.A.in1.in1) (r4.mono (by omega)) c.guards I.ok.frames I sr r t ok er
  obtain rfl : v = Value.ref a := rx
  obtain ⟨od, J1⟩ := inst_at I ha
  obtain ⟨n1, n2⟩ := str_nm c h1
  refine PySem.W.kso_call r4.units0 I.kIn J1 n1 n2 (thn run fun z s' hz => ?_)
  obtain ⟨y, tk, rfl, _, q⟩ := hz
  exact q
theorem call_own_len (c : Ctx X G W Γ kx) {d : D} {x : V} {v : Value} {pins : List (Addr × Obj)} {s : Shared} {σ : L2.St} {H : Hp} {Q : VK} {ρ : Slots} {M : Mst} {J : Hp} {K1 : KD} {E1 : ED} (I : L2.Inv X pins σ H s) (sr : SR X.K G B σ H ρ M J) (r : Rep X.K G J d x) (rx : RelV x v)
    (t : ownNum G Γ 21 d ρ M K1 E1) (ok : OkC X.K G B σ ρ J K1 Q) (er : ErC X.K G B W σ ρ E1) : wpAny (model X.prog X.w) X.A (PySem.call (.builtin "len") [v]) (EP X pins σ Q) X.xe s := by
  have r6 := c.room
  have r5 : Room (kx + 5) X.A.in1 := r6.in1
  obtain ⟨a, cc, dx, vfs, i, rfl, ha, h1, run⟩ := own_num c (A := X.A.in1) (r5.mono (by omega)) c.guards I.ok.frames I sr r t ok er
  obtain rfl : v = Value.ref a := rx
  obtain ⟨od, J1⟩ := inst_at I ha
  obtain ⟨_, ⟨m11, m12, m13⟩, sf⟩ := c.ops.ok.dn _ _ _ h1
  rw [show G.nm 21 = "__len__" from c.ops.dund 21 (by decide)] at m11
  obtain ⟨mf, F⟩ := I.fr
  refine PySem.W.len_K F I.mod.kin J1 m11 m12 (thn run fun z s' hz => ?_)
  obtain ⟨y, tk, rfl, hl, z', H', I', rz, q⟩ := hz
  obtain ⟨y', rfl⟩ : ∃ y', z' = .int y' := by cases z' <;> first | exact ⟨_, rfl⟩ | (exfalso; first | exact nomatch rz | (obtain ⟨_, e⟩ := rz; exact nomatch e))
  obtain ⟨tk', e⟩ := rz
  cases e
  exact ⟨hl, .int _, H', I'.tok _, ⟨_, rfl⟩, q⟩
end
end PyD
set_option Elab.async false
set_option linter.all false
set_option autoImplicit false
set_option maxRecDepth 100000
set_option maxHeartbeats 4000000
/-! # Built-in functions over trees -/
namespace PyD
open PySem PySem.Spec L2

inductive Blt where
  | abs | len | int | bool | list | repr | isi | max | min | str | leno | stro | rpr
  deriving DecidableEq
def Blt.nm : Blt → Str
  | .abs => "abs" | .len => "len" | .int => "int" | .bool => "bool" | .list => "list" | .repr => "repr" | .isi => "isinstance" | .max => "max" | .min => "min" | .str => "str" | .leno => "len" | .stro => "str" | .rpr => "repr"
def Blt.val : Blt → Value
  | .abs => .builtin "abs" | .len => .builtin "len" | .int => .type "int" | .bool => .type "bool" | .list => .type "list" | .repr => .builtin "repr" | .isi => .builtin "isinstance" | .max => .builtin "max" | .min => .builtin "min" | .str => .type "str" | .leno => .builtin "len" | .stro => .type "str" | .rpr => .builtin "repr"
theorem Blt.boot (b : Blt) : bootBuiltins b.nm = some b.val := by cases b <;> rfl
theorem Blt.ne (b : Blt) : b.nm ≠ "__name__" := by cases b <;> decide
theorem Blt.nd (b : Blt) : (b.nm == ("__debug__" : Str)) = false := by cases b <;> decide
theorem Blt.mem (b : Blt) : b.nm ∈ bltNames := by cases b <;> decide
/-- a datum's type -/
def tyD (d : D) (M : Mst) : Option Ty := match d with
  | .non => some (.b "NoneType")
  | .bl _ => some (.b "bool")
  | .int _ => some (.b "int")
  | .str _ => some (.b "str")
  | .lst _ => some (.b "list")
  | .tup _ => some (.b "tuple")
  | .dct _ => some (.b "dict")
  | .obj c _ => some (.c c)
  | .loc a => (match M a with
    | some (.inst c _) => some (.c c)
    | some (.lst _) => some (.b "list")
    | some (.dct _) => some (.b "dict")
    | some (.lok _ _ _) => some (.b "dict")
    | none => none)
  | _ => none
/-- a type as a datum -/
def asTy : D → Option Ty
  | .ty n => some (.b n)
  | .cls c => some (.c c)
  | _ => none
def lenX (d : D) (M : Mst) (P : Nat → Prop) : Prop := match d with
  | .dct kvs => P kvs.length
  | _ => seqX d M fun ds => P ds.length
section
variable (G : Gam) (Γ : Nat → SpD)
def bltD (b : Blt) (ds : List D) : TD := fun ρ M K E => match b, ds with
  | .abs, [.int i] => K (.int (if i < 0 then -i else i)) M
  | .int, [.int i] => K (.int i) M
  | .int, [.bl z] => K (.int (if z then 1 else 0)) M
  | .len, [.str x] => x.length ≤ 1000000 ∧ K (.int x.length) M
  | .len, [d] => lenX d M fun n => K (.int n) M
  | .bool, [d] => truD G Γ d ρ M K E
  | .list, [d] => seqX d M fun xs => K (.lst xs) M
  | .repr, [d] => (match toP d with
    | some p => PyData.showable p = true ∧ PyData.depth p ≤ 50 ∧ PyData.hasDict p = false ∧ (PyData.shown p).length ≤ 1000000 ∧ (match d with
      | .lst _ => True
      | .tup _ => True
      | _ => False) ∧ K (.str (PyData.shown p)) M
    | none => False)
  | .isi, [d, t] => (match tyD d M, asTy t with
    | some a, some b => (match G.ist a b with
      | some z => K (.bl z) M
      | none => False)
    | _, _ => False)
  | .max, [.int i, .int j] => K (.int (if j > i then j else i)) M
  | .min, [.int i, .int j] => K (.int (if j < i then j else i)) M
  | .str, [.str x] => K (.str x) M
  | .str, [.int i] => i.natAbs.log2 < 1920 ∧ K (.str (toString i)) M
  | .int, [.str x] => ∃ n, intText? x = some n ∧ x.length ≤ 640 ∧ K (.int n) M
  | .leno, [d] => ownNum G Γ 21 d ρ M K E
  | .stro, [d] => ownTxt G Γ 26 d ρ M K E
  | .rpr, [.int i] => i.natAbs.log2 < 1920 ∧ K (.str (toString i)) M
  | .rpr, [.bl b] => K (.str (if b then "True" else "False")) M
  | _, _ => False
end
section
variable {X : Cx} {G : Gam} {B : Bs} {W : WX} {Γ : Nat → SpD} {kx : Nat}
/-- a kit's rule of a built-in, over trees -/
theorem opN_of {f : Value} {r : List V → Hp → VK → Prop} {t : List D → TD} (h : CallR X f r) (k : ∀ σ H Q ρ M J K1 E1 ds vs, SR X.K G B σ H ρ M J → Reps X.K G J ds vs → t ds ρ M K1 E1 → OkC X.K G B σ ρ J K1 Q → r vs H Q) : OpN X G B W (fun us => PySem.call f us) t := by
  rintro pins s σ H Q xs us I rs ⟨ρ, M, J, K1, E1, ds, sr, r2, t, ok, er⟩
  exact h pins s σ H xs us Q I rs (k _ _ _ _ _ _ _ _ _ _ sr r2 t ok)
theorem call_bool_tru {prog : Program} {w : World} {A : Around} {E : Value → Shared → Prop} {s : Shared} {x : Value} {Q : Value → Shared → Prop} (h : wpAny (model prog w) A.in1.in1 (truthy x) (fun b s' => Q (.bool b) s') E s) : wpAny (model prog w) A (PySem.call (.type "bool") [x]) Q E s := by
  refine callType_newIn F.called_bool F.newNe_bool (F.typeCall_bool_1 x) (F.newCall_bool_1 x) (fun obj => F.args_object_init_2 obj x) F.entry_bool_new
    (S := fun A R s => wpAny (model prog w) A.in1 (truthy x) (fun b s' => R (.ok (.ret (.bool b))) s') (fun e s' => R (.error e) s') s) ?_ (wpAny_mono h (fun b s' q => ⟨rfl, q⟩) fun _ _ q => q)
  intro A R s h
  obtain ⟨hp, g, d, tk, os⟩ := s
  have f1 := F.conv_sub_bool
  unfold Builtin.«bool.__new__»
  repeat (any_goals (first | (refine wpAny_bind (m := truthy x) (wpAny_mono h (fun b s' q => ?_) fun _ _ q => q)) | (refine wpAny_mono (t := truthy x) h (fun b s' q => ?_) fun _ _ q => q) | wp_step))
  exact q
theorem ty_of (c : Ctx X G W Γ kx) {pins : List (Addr × Obj)} {s : Shared} {σ : L2.St} {H : Hp} {ρ : Slots} {M : Mst} {J : Hp} {d : D} {v : V} {T U : Ty} {z : Bool} (I : L2.Inv X pins σ H s) (sr : SR X.K G B σ H ρ M J) (r : Rep X.K G J d v) (h : tyD d M = some T) (hi : G.ist T U = some z) : TyX X.K H v (T.v G) := by
  have ins : ∀ {cc : Nat} {a dx : Addr} {vfs : List (Str × V)}, H a = some (.ins (G.cl cc) dx vfs) → G.ist (.c cc) U = some z → TyX X.K H (.ref a) (.ref (G.cl cc)) := fun ha hi => by
    obtain ⟨cl, f1, f2, f3, f4⟩ := c.gg.isc _ _ _ hi
    exact .base (.ins ha cl f1 f2 f3 f4)
  have lst : ∀ {a : Addr} {xs : List V}, SqL X.K H a xs → TyX X.K H (.ref a) (.type "list") := fun h => by
    rcases h with (h | ⟨o, h⟩) | ⟨o, its, n, h, hc, _⟩
    · exact .base (.lst h)
    · exact .base (.frz h)
    · exact .kList h hc
  cases d with
  | non => cases h; unfold Rep at r; subst r; exact .base .non
  | bl b => cases h; unfold Rep at r; subst r; exact .base (.bl _)
  | int i => cases h; unfold Rep at r; subst r; exact .base (.int _)
  | str x => cases h; unfold Rep at r; subst r; exact .base (.str _)
  | tup ds =>
    cases h
    unfold Rep at r
    obtain ⟨a, vs, rfl, h1, _⟩ := r
    rcases sr.good.sub.sqt h1 with (h | ⟨o, h⟩) | ⟨o, its, n, h, hc, _⟩
    · exact .base (.tup h)
    · exact .fTuple h
    · exact .kTuple h hc
  | lst ds =>
    cases h
    unfold Rep at r
    obtain ⟨a, vs, rfl, h1, _⟩ := r
    exact lst (sr.good.sub.sql h1)
  | dct kds =>
    cases h
    unfold Rep at r
    obtain ⟨a, ob, kvs, rfl, h1, _⟩ := r
    rcases sr.good.sub.dK h1 with h | ⟨o, h⟩
    · exact .base (.dK h)
    · exact .fDict h
  | obj cc fs =>
    cases h
    unfold Rep at r
    obtain ⟨a, dx, vfs, rfl, h1, _⟩ := r
    exact ins (sr.good.sub.ins h1) hi
  | loc a =>
    unfold Rep at r
    subst r
    unfold tyD at h
    dsimp only at h
    split at h
    · rename_i cc fs hm
      cases h
      obtain ⟨_, o, h1, dx, vfs, rfl, _⟩ := sr.good.mst a _ hm
      exact ins h1 hi
    · rename_i ds hm
      cases h
      obtain ⟨_, o, h1, vs, rfl, _⟩ := sr.good.mst a _ hm
      exact lst (.of h1)
    · rename_i ds hm
      cases h
      obtain ⟨_, o, h1, kvs, rfl, _⟩ := sr.good.mst a _ hm
      exact .base (.dK h1)
    · rename_i ob vs ds hm
      cases h
      obtain ⟨_, o, h1, rfl, _⟩ := sr.good.mst a _ hm
      exact .fDict h1
    · cases h
  | cls cc => cases h
  | ty n => cases h
theorem asTy_ok {K : PySem.W.Frag} {I : Hp} {t : D} {v : V} {T : Ty} (r : Rep K G I t v) (h : asTy t = some T) : ClsV v (T.v G) := by
  cases t <;> cases h <;> unfold Rep at r <;> subst r
  · exact .own _
  · exact .ty _
theorem reps1 {K : PySem.W.Frag} {I : Hp} {d : D} {vs : List V} (r : Reps K G I [d] vs) : ∃ v, vs = [v] ∧ Rep K G I d v := by
  unfold Reps at r
  obtain ⟨v, t, rfl, h, q⟩ := r
  unfold Reps at q
  subst q
  exact ⟨v, rfl, h⟩
theorem reps2 {K : PySem.W.Frag} {I : Hp} {d e : D} {vs : List V} (r : Reps K G I [d, e] vs) : ∃ v w, vs = [v, w] ∧ Rep K G I d v ∧ Rep K G I e w := by
  unfold Reps at r
  obtain ⟨v, t, rfl, h, q⟩ := r
  obtain ⟨w, rfl, q2⟩ := reps1 q
  exact ⟨v, w, rfl, h, q2⟩
theorem opN_blt (c : Ctx X G W Γ kx) (b : Blt) : OpN X G B W (fun us => PySem.call b.val us) (bltD G Γ b) := by
  rintro pins s σ H Q xs us I rs ⟨ρ, M, J, K1, E1, ds, sr, r2, t, ok, er⟩
  unfold bltD at t
  split at t
  · obtain ⟨v, rfl, r⟩ := reps1 r2
    unfold Rep at r; subst r
    exact call_abs pins s σ H _ us Q I rs ⟨_, rfl, fin_ok sr ok rep_int t⟩
  · obtain ⟨v, rfl, r⟩ := reps1 r2
    unfold Rep at r; subst r
    exact call_int1 pins s σ H _ us Q I rs (.inl ⟨_, rfl, fin_ok sr ok rep_int t⟩)
  · obtain ⟨v, rfl, r⟩ := reps1 r2
    unfold Rep at r; subst r
    exact call_int1 pins s σ H _ us Q I rs (.inr ⟨_, rfl, fin_ok sr ok rep_int t⟩)
  · obtain ⟨v, rfl, r⟩ := reps1 r2
    unfold Rep at r; subst r
    exact call_len_str pins s σ H _ us Q I rs ⟨_, rfl, line_le t.1, fin_ok sr ok rep_int t.2⟩
  · rename_i d hnot
    obtain ⟨v, rfl, r⟩ := reps1 r2
    unfold lenX at t
    split at t
    · rename_i kds
      unfold Rep at r
      obtain ⟨a, ob, kvs, rfl, h1, h2⟩ := r
      obtain ⟨u, rfl, ru⟩ := vals1 rs
      obtain rfl : u = Value.ref a := ru
      exact d_len I (sr.good.sub.dK h1) fun tk s' I' => ⟨.int kvs.length, H, I', ⟨tk, rfl⟩, by rw [h2.length]; exact fin_ok sr ok rep_int t⟩
    · obtain ⟨ys, hs, t⟩ := seqX_ok t
      obtain ⟨a, vs, rfl, h1, h2⟩ := seqD_ok sr.good r hs
      exact call_len_seq pins s σ H _ us Q I rs ⟨a, vs, rfl, h1, by rw [h2.length]; exact fin_ok sr ok rep_int t⟩
  · rename_i d
    obtain ⟨v, rfl, r⟩ := reps1 r2
    obtain ⟨u, rfl, ru⟩ := vals1 rs
    refine call_bool_tru (thn (tru_any c (A := X.A.in1.in1) ((c.room.mono (by omega) : Room (kx + 2) X.A).in1.in1) c.guards I.ok.frames I sr r ru t er) fun b s' h => ?_)
    exact ep_of_pb ok (fun _ _ k => k) ⟨b, rfl, h⟩
  · rename_i d
    obtain ⟨v, rfl, r⟩ := reps1 r2
    obtain ⟨ys, hs, t⟩ := seqX_ok t
    · obtain ⟨a, vs, rfl, h1, h2⟩ := seqD_ok sr.good r hs
      refine call_list_of pins s σ H _ us Q I rs ⟨a, vs, rfl, h1, fun p np => ?_⟩
      exact ok _ _ _ _ _ t (sr.good.addI_frm np).ext (sr.step (sr.good.addI np (.inl ⟨_, rfl⟩)) (sr.good.addI_frm np)) (by
        unfold Rep; exact ⟨p, vs, rfl, .of upd_same, h2.ext (sr.good.addI_frm (o := .lst vs) np).ext⟩)
  · rename_i d
    obtain ⟨v, rfl, r⟩ := reps1 r2
    obtain ⟨u, rfl, ru⟩ := vals1 rs
    split at t
    · rename_i p hp
      obtain ⟨h1, h2, h3, h4, h5, t⟩ := t
      have dp := dp_of sr.good.sub hp r
      obtain ⟨as, rd⟩ := Dp.reads I p v u dp ru
      have ea : ∃ a, v = .ref a := by
        split at h5
        · unfold Rep at r; obtain ⟨a, _, e, _⟩ := r; exact ⟨a, e⟩
        · unfold Rep at r; obtain ⟨a, _, e, _⟩ := r; exact ⟨a, e⟩
        · exact h5.elim
      obtain ⟨a, rfl⟩ := ea
      obtain rfl : u = Value.ref a := ru
      exact repr_of_reads' rd h1 (by rw [h3]; intro z; cases z) c.guards (by have := c.room.units; omega) (fun b o z => z) (fun h' u tk hk => ⟨.str _, H, I.kept hk, ⟨_, rfl⟩, fin_ok sr ok rep_str t⟩) (line_le h4)
    · exact t.elim
  · rename_i d T
    obtain ⟨v, w, rfl, r, q⟩ := reps2 r2
    split at t
    · rename_i a b ha hb
      split at t
      · rename_i z hz
        exact call_isi pins s σ H _ us Q I rs ⟨v, w, a.v G, b.v G, z, rfl, asTy_ok q hb, ty_of c I sr r ha hz, c.gg.ist _ _ _ hz, fin_ok sr ok rep_bl t⟩
      · exact t.elim
    · exact t.elim
  · obtain ⟨v, w, rfl, r, q⟩ := reps2 r2
    unfold Rep at r q; subst r q
    exact call_max2 c.calm pins s σ H _ us Q I rs ⟨_, _, rfl, fin_ok sr ok rep_int t⟩
  · obtain ⟨v, w, rfl, r, q⟩ := reps2 r2
    unfold Rep at r q; subst r q
    exact call_min2 c.calm pins s σ H _ us Q I rs ⟨_, _, rfl, fin_ok sr ok rep_int t⟩
  · obtain ⟨v, rfl, r⟩ := reps1 r2
    unfold Rep at r; subst r
    exact SkE.call_str_str pins s σ H _ us Q I rs ⟨_, rfl, fin_ok sr ok rep_str t⟩
  · obtain ⟨v, rfl, r⟩ := reps1 r2
    unfold Rep at r; subst r
    exact call_str_int pins s σ H _ us Q I rs ⟨_, rfl, t.1, fin_ok sr ok rep_str t.2⟩
  · obtain ⟨n, h1, h2, t⟩ := t
    obtain ⟨v, rfl, r⟩ := reps1 r2
    unfold Rep at r; subst r
    exact call_int_str pins s σ H _ us Q I rs ⟨_, n, rfl, h1, h2, fin_ok sr ok rep_int t⟩
  · obtain ⟨v, rfl, r⟩ := reps1 r2
    obtain ⟨u, rfl, ru⟩ := vals1 rs
    exact call_own_len c I sr r ru t ok er
  · obtain ⟨v, rfl, r⟩ := reps1 r2
    obtain ⟨u, rfl, ru⟩ := vals1 rs
    exact call_own_str c I sr r ru t ok er
  · obtain ⟨v, rfl, r⟩ := reps1 r2
    unfold Rep at r; subst r
    exact SkE.call_repr_int pins s σ H _ us Q I rs ⟨_, rfl, t.1, fin_ok sr ok rep_str t.2⟩
  · obtain ⟨v, rfl, r⟩ := reps1 r2
    unfold Rep at r; subst r
    obtain ⟨u, rfl, ru⟩ := vals1 rs
    obtain rfl : u = Value.bool _ := ru
    exact PySem.P.repr_of_bool ⟨.str _, H, I.tok _, ⟨_, rfl⟩, fin_ok sr ok rep_str t⟩
  · exact t.elim
end
end PyD
set_option Elab.async false
set_option linter.all false
set_option autoImplicit false
set_option maxRecDepth 100000
set_option maxHeartbeats 4000000
/-! # Comprehensions over trees -/
namespace PyD
open PySem PySem.Spec L2

def noErr : ED := fun _ _ _ => False
def wipeD (ρ : Slots) : List Nat → Slots
  | [] => ρ
  | v :: vs => (wipeD ρ vs).set v none
/-- the test of a clause, if there is one -/
def tst (tc : Option TD) (ρ : Slots) (M : Mst) (P Q : Mst → Prop) : Prop := match tc with
  | none => P M
  | some t => t ρ M (fun z M1 => br z (P M1) (Q M1)) noErr
/-- the turns of a list comprehension -/
def lcL (g : D → Slots → Option Slots) (tc : Option TD) (te : TD) (ρ : Slots) : List D → List D → Mst → (List D → Mst → Prop) → Prop
  | [], acc, M, K => K acc M
  | d :: ds, acc, M, K => ∃ ρ1, g d ρ = some ρ1 ∧ tst tc ρ1 M (fun M1 => te ρ1 M1 (fun y M2 => lcL g tc te ρ ds (acc ++ [y]) M2 K) noErr) (fun M1 => lcL g tc te ρ ds acc M1 K)
def putKD (k : Key) (d : D) (kds : List (Key × D)) : List (Key × D) :=
  if (kds.any fun kv => decide (kv.1 = k)) = true then kds.map (fun kv => if kv.1 = k then (kv.1, d) else kv) else kds ++ [(k, d)]
def keyD : D → Option Key
  | .int i => some (.inl i)
  | .str x => some (.inr x)
  | _ => none
/-- .. of a dict comprehension -/
def dcL (g : D → Slots → Option Slots) (tc : Option TD) (tk tv : TD) (ρ : Slots) : List D → List (Key × D) → Mst → (List (Key × D) → Mst → Prop) → Prop
  | [], acc, M, K => K acc M
  | d :: ds, acc, M, K => ∃ ρ1, g d ρ = some ρ1 ∧ tst tc ρ1 M (fun M1 => tk ρ1 M1 (fun y M2 => ∃ k, keyD y = some k ∧ tv ρ1 M2 (fun z M3 => dcL g tc tk tv ρ ds (putKD k z acc) M3 K) noErr) noErr) (fun M1 => dcL g tc tk tv ρ ds acc M1 K)
section
variable {K : PySem.W.Frag} {G : Gam} {I I' : Hp} {M : Mst} {H : Hp} {p : Addr} {o o' : HO} {B : Bs} {σ : L2.St} {ρ : Slots}
theorem wipe_rep : ∀ {vs : List Nat} {σ : L2.St} {ρ : Slots}, EnvRep K G I σ ρ → EnvRep K G I (wipe σ vs) (wipeD ρ vs)
  | [], σ, ρ, h => h
  | v :: vs, σ, ρ, h => by
    have ih := wipe_rep (vs := vs) h
    unfold wipe wipeD
    obtain ⟨l, e⟩ := ih
    refine ⟨by simp [l], fun i d q => ?_⟩
    by_cases c : v = i
    · subst c
      by_cases lt : v < (wipeD ρ vs).length
      · rw [List.getElem?_set_self lt] at q; cases q
      · rw [List.getElem?_eq_none (by simpa using lt)] at q; cases q
    · rw [List.getElem?_set_ne c] at q ⊢
      exact e i d q
theorem wipe_other {x : Option V} {i : Nat} : ∀ {vs : List Nat} {σ : L2.St}, i ∉ vs → wipe (σ.set i x) vs = (wipe σ vs).set i x
  | [], σ, _ => rfl
  | v :: vs, σ, h => by
    unfold wipe
    rw [wipe_other (fun z => h (List.mem_cons_of_mem _ z))]
    exact List.set_comm _ _ (fun z => h (by rw [z]; exact List.mem_cons_self))
theorem wipe_set {x : Option V} {i : Nat} : ∀ {vs : List Nat} {σ : L2.St}, i ∈ vs → wipe (σ.set i x) vs = wipe σ vs
  | v :: vs, σ, h => by
    unfold wipe
    by_cases c : i ∈ vs
    · rw [wipe_set c]
    · have e : i = v := by
        rcases List.mem_cons.mp h with e | e
        · exact e
        · exact absurd e c
      subst e
      rw [wipe_other c, List.set_set]
theorem wipe_sub {ws : List Nat} : ∀ {vs : List Nat} {σ : L2.St}, (∀ v ∈ vs, v ∈ ws) → wipe (wipe σ vs) ws = wipe σ ws
  | [], σ, _ => rfl
  | v :: vs, σ, h => by
    rw [show wipe σ (v :: vs) = (wipe σ vs).set v none from rfl, wipe_set (h v List.mem_cons_self)]
    exact wipe_sub fun u hu => h u (List.mem_cons_of_mem _ hu)
theorem wipe_wipe {vs : List Nat} {σ : L2.St} : wipe (wipe σ vs) vs = wipe σ vs := wipe_sub fun _ h => h
/-- a thing of H that neither follows is changed -/
theorem Good.setH (g : Good K G I M H) (nI : I p = none) (nM : M p = none) : Good K G I M (upd H p o) := by
  refine ⟨fun a u h => ?_, fun a m h => ?_, g.inI⟩
  · rw [upd_ne (ne_of_none h nI)]; exact g.sub a u h
  · obtain ⟨h1, u, h2, h3⟩ := g.mst a m h
    have e : a ≠ p := fun z => by subst z; rw [nM] at h; cases h
    exact ⟨h1, u, by rw [upd_ne e]; exact h2, h3⟩
/-- .. is followed from here on -/
theorem Good.take (g : Good K G I M H) (nI : I p = none) (nM : M p = none) (ok : (∃ xs, o = .lst xs) ∨ (∃ xs, o = .tup xs) ∨ (∃ xs, o = .dK xs) ∨ (∃ C dx fs, o = .ins C dx fs) ∨ ∃ ob u, o = .frz ob u) : Good K G (upd I p o) M (upd H p o) := by
  have ex : Ext I (upd I p o) := fun a u h => by rw [upd_ne (ne_of_none h nI)]; exact h
  refine ⟨fun a u h => ?_, fun a m h => ?_, fun a u h => ?_⟩
  · by_cases e : a = p
    · subst e; rw [upd_same] at h; cases h; exact upd_same
    · rw [upd_ne e] at h ⊢; exact g.sub a u h
  · have e : a ≠ p := fun z => by subst z; rw [nM] at h; cases h
    obtain ⟨h1, u, h2, h3⟩ := g.mst a m h
    exact ⟨by rw [upd_ne e]; exact h1, u, by rw [upd_ne e]; exact h2, h3.ext ex⟩
  · by_cases e : a = p
    · subst e; rw [upd_same] at h; cases h; exact ok
    · rw [upd_ne e] at h; exact g.inI a u h
theorem SR.setH (s : SR K G B σ H ρ M I) (nI : I p = none) (nM : M p = none) (nB : B.H p = none) : SR K G B σ (upd H p o) ρ M I := by
  obtain ⟨e, g, f⟩ := s
  refine ⟨e, g.setH nI nM, f.ext, fun a u h1 h2 => ?_, f.apart, fun a u h1 => ?_, f.lok⟩
  · rw [upd_ne (ne_of_none h1 nB)]; exact f.kept a u h1 h2
  · obtain ⟨u', h2⟩ := f.there a u h1
    exact ⟨u', by rw [upd_ne (ne_of_none h1 nB)]; exact h2⟩
theorem EnvRep.ext (x : Ext I I') (h : EnvRep K G I σ ρ) : EnvRep K G I' σ ρ := ⟨h.1, fun j d q => let ⟨v, a, b⟩ := h.2 j d q; ⟨v, a, b.ext x⟩⟩
theorem SR.take (s : SR K G B σ H ρ M I) (nI : I p = none) (nM : M p = none) (nB : B.H p = none) (ok : (∃ xs, o = .lst xs) ∨ (∃ xs, o = .tup xs) ∨ (∃ xs, o = .dK xs) ∨ (∃ C dx fs, o = .ins C dx fs) ∨ ∃ ob u, o = .frz ob u) : SR K G B σ (upd H p o) ρ M (upd I p o) ∧ Ext I (upd I p o) := by
  have ex : Ext I (upd I p o) := fun a u h => by rw [upd_ne (ne_of_none h nI)]; exact h
  obtain ⟨e, g, f⟩ := s
  refine ⟨⟨e.ext ex, g.take nI nM ok, f.ext.trans ex, fun a u h1 h2 => ?_, fun a u h1 h2 h3 => ?_, fun a u h1 => ?_, f.lok⟩, ex⟩
  · rw [upd_ne (ne_of_none h1 nB)]; exact f.kept a u h1 h2
  · rw [upd_ne (ne_of_none h1 nB)]; exact f.apart a u h1 h2 h3
  · obtain ⟨u', h2⟩ := f.there a u h1
    exact ⟨u', by rw [upd_ne (ne_of_none h1 nB)]; exact h2⟩
theorem SR.freeB (s : SR K G B σ H ρ M I) (n : H p = none) : B.H p = none := by
  cases e : B.H p with
  | none => rfl
  | some u =>
    obtain ⟨u', h⟩ := s.frm.there p u e
    rw [n] at h; cases h
/-- the environment exchanged -/
theorem SR.env' {σ' : L2.St} {ρ' : Slots} (s : SR K G B σ H ρ M I) (e : EnvRep K G I σ' ρ') : SR K G B σ' H ρ' M I := ⟨e, s.good, s.frm⟩
theorem RepK.any {k : Key} : ∀ {kds : List (Key × D)} {kvs : List (Key × V)}, RepK K G I kds kvs → (kvs.any fun kv => decide (kv.1 = k)) = (kds.any fun kv => decide (kv.1 = k))
  | [], kvs, h => by unfold RepK at h; subst h; rfl
  | (j, x) :: r, kvs, h => by
    unfold RepK at h
    obtain ⟨y, t, rfl, h1, h2⟩ := h
    simp only [List.any_cons, h2.any]
theorem RepK.app : ∀ {kds eds : List (Key × D)} {kvs evs : List (Key × V)}, RepK K G I kds kvs → RepK K G I eds evs → RepK K G I (kds ++ eds) (kvs ++ evs)
  | [], _, kvs, _, h, e => by unfold RepK at h; subst h; exact e
  | (j, x) :: r, _, kvs, _, h, e => by
    unfold RepK at h
    obtain ⟨y, t, rfl, h1, h2⟩ := h
    show RepK K G I ((j, x) :: (r ++ _)) ((j, y) :: (t ++ _))
    unfold RepK
    exact ⟨y, _, rfl, h1, h2.app e⟩
theorem RepK.repl {k : Key} {d : D} {v : V} (hd : Rep K G I d v) : ∀ {kds : List (Key × D)} {kvs : List (Key × V)}, RepK K G I kds kvs → RepK K G I (kds.map (fun kv => if kv.1 = k then (kv.1, d) else kv)) (kvs.map (fun kv => if kv.1 = k then (kv.1, v) else kv))
  | [], kvs, h => by unfold RepK at h; subst h; unfold RepK; rfl
  | (j, x) :: r, kvs, h => by
    unfold RepK at h
    obtain ⟨y, t, rfl, h1, h2⟩ := h
    rw [List.map_cons, List.map_cons]
    by_cases c : j = k
    · rw [if_pos c, if_pos c]
      unfold RepK
      exact ⟨v, _, rfl, hd, h2.repl hd⟩
    · rw [if_neg c, if_neg c]
      unfold RepK
      exact ⟨y, _, rfl, h1, h2.repl hd⟩
theorem RepK.put {k : Key} {d : D} {v : V} (hd : Rep K G I d v) {kds : List (Key × D)} {kvs : List (Key × V)} (h : RepK K G I kds kvs) : RepK K G I (putKD k d kds) (putK kvs k v) := by
  unfold putKD putK
  rw [h.any]
  split
  · exact h.repl hd
  · refine h.app ?_
    unfold RepK
    exact ⟨v, [], rfl, hd, by unfold RepK; rfl⟩
theorem putKD_len {k : Key} {d : D} {kds : List (Key × D)} : (putKD k d kds).length ≤ kds.length + 1 := by
  unfold putKD
  split <;> simp
theorem key_ok {d : D} {k : Key} {v : V} (h : keyD d = some k) (r : Rep K G I d v) : v = kV k := by
  cases d <;> simp only [keyD, Option.some.injEq, reduceCtorEq] at h
  · subst h; unfold Rep at r; exact r
  · subst h; unfold Rep at r; exact r
end
/-- a comprehension's target; its slots are forgotten behind -/
def PGw (X : Cx) (G : Gam) (tg : Expr) (vs : List Nat) (g : D → Slots → Option Slots) (gv : TG) : Prop :=
  PG X tg gv ∧ ∀ (B : Bs) (d : D) (v : V) (σ : L2.St) (H : Hp) (ρ ρ1 : Slots) (M : Mst) (I : Hp) (Q : L2.St → Hp → Prop), SR X.K G B σ H ρ M I → Rep X.K G I d v → g d ρ = some ρ1 → (∀ σ1, wipe σ1 vs = wipe σ vs → SR X.K G B σ1 H ρ1 M I → Q σ1 H) → gv v σ H Q
section
variable {X : Cx} {G : Gam}
theorem pgw_name {i : Nat} {x : Str} {pos : Pos} (h : PG X (.Name x pos) (gName i)) : PGw X G (.Name x pos) [i] (set1 i) (gName i) :=
  ⟨h, fun B d v σ H ρ ρ1 M I Q s r e q => by cases e; exact q _ (wipe_set (by simp)) (s.set r)⟩
theorem gAll_w {K : PySem.W.Frag} {B : Bs} {ws : List Nat} : ∀ {is : List Nat} {ds : List D} {vs : List V} {σ : L2.St} {H : Hp} {ρ ρ1 : Slots} {M : Mst} {I : Hp} {Q : L2.St → Hp → Prop}, (∀ i ∈ is, i ∈ ws) → SR K G B σ H ρ M I → Reps K G I ds vs → setAll is ds ρ = some ρ1 → (∀ σ1, wipe σ1 ws = wipe σ ws → SR K G B σ1 H ρ1 M I → Q σ1 H) → gAll is vs σ H Q
  | [], [], vs, _, _, _, _, _, _, _, _, s, r, e, q => by
    unfold Reps at r
    unfold setAll at e
    cases e
    exact ⟨r, q _ rfl s⟩
  | i :: is, d :: ds, vs, _, _, _, _, _, _, _, hm, s, r, e, q => by
    unfold Reps at r
    obtain ⟨v, t, rfl, r1, r2⟩ := r
    refine ⟨v, t, rfl, gAll_w (fun j hj => hm j (List.mem_cons_of_mem _ hj)) (s.set r1) r2 e fun σ1 hw s1 => q σ1 ?_ s1⟩
    rw [hw, wipe_set (hm i List.mem_cons_self)]
  | [], _ :: _, _, _, _, _, _, _, _, _, _, _, _, e, _ => by simp [setAll] at e
  | _ :: _, [], _, _, _, _, _, _, _, _, _, _, _, e, _ => by simp [setAll] at e
theorem pgw_tup {es : List Expr} {is : List Nat} {k : Nat} {pos : Pos} (h : PG X (.Tuple es k pos) (gTup X.K is.length (gAll is))) : PGw X G (.Tuple es k pos) is (setT is) (gTup X.K is.length (gAll is)) := by
  refine ⟨h, fun B d v σ H ρ ρ1 M I Q s r e q => ?_⟩
  unfold setT at e
  split at e
  · rename_i ds
    unfold Rep at r
    obtain ⟨a, vs, rfl, ht, hr⟩ := r
    exact ⟨a, vs, rfl, s.good.sub.sqt ht, by rw [hr.length, setAll_len e], gAll_w (fun i h => h) s hr e q⟩
  · cases e
end
/-- a block's context -/
abbrev CxB (X : Cx) (scope : Scope) (s : Shared) (H : Hp) (C : Addr) (cl : List (Str × Addr)) (fp : List Addr) : Cx := X.blk s H scope (compEnvC scope cl C X.env) fp
def noW : WX := fun _ _ _ _ => False
/-- a clause's test, or none -/
inductive PTo (X : Cx) (G : Gam) (scope : Scope) : List Expr → Option TD → Prop where
  | no : PTo X G scope [] none
  | one {c : Expr} {t : TD} (h : ∀ s H C cl fp B, PT (CxB X scope s H C cl fp) c (TTx X.K G B noW t)) : PTo X G scope [c] (some t)
def ttO (K : PySem.W.Frag) (G : Gam) : Option TD → TT
  | none => tYes
  | some t => fun σ H Q => ∃ B, TTx K G B noW t σ H Q
section
variable {X : Cx} {G : Gam} {B : Bs} {W : WX}
theorem PTo.ok {scope : Scope} {ifs : List Expr} {tc : Option TD} (h : PTo X G scope ifs tc) : ∀ s H C cl fp, PTs (CxB X scope s H C cl fp) ifs (ttO X.K G tc) := by
  intro s H C cl fp
  cases h with
  | no => exact pts_nil
  | one h => exact pts_one ⟨fun pins s' σ H' Q I ⟨B, q⟩ => (h s H C cl fp B).run pins s' σ H' Q I q⟩
theorem no_er {K : PySem.W.Frag} {B : Bs} {σ : L2.St} {ρ : Slots} : ErC K G B noW σ ρ noErr := fun _ _ _ _ _ _ _ h _ _ => h.elim
/-- behind a clause's test -/
theorem tst_ok {K : PySem.W.Frag} {tc : Option TD} {σ : L2.St} {H : Hp} {ρ : Slots} {M : Mst} {I : Hp} {P Q : Mst → Prop} {R : Bool → Hp → Prop} (s : SR K G B σ H ρ M I) (h : tst tc ρ M P Q)
    (hP : ∀ H' M' I', Ext I I' → SR K G ⟨I, M, H⟩ σ H' ρ M' I' → P M' → R true H') (hQ : ∀ H' M' I', Ext I I' → SR K G ⟨I, M, H⟩ σ H' ρ M' I' → Q M' → R false H') : ttO K G tc σ H R := by
  cases tc with
  | none => exact hP H M I (.refl I) s.here h
  | some t =>
    refine ⟨⟨I, M, H⟩, ρ, M, I, _, _, s.here, h, fun d M' H' I' k e s' => ?_, no_er⟩
    obtain ⟨b, rfl, k⟩ := br_ok k
    cases b with
    | true => exact ⟨true, rfl, hP H' M' I' e s' k⟩
    | false => exact ⟨false, rfl, hQ H' M' I' e s' k⟩
theorem pd_lc {elt tg iter : Expr} {ifs : List Expr} {scope : Scope} {own : List (Str × Nat)} {pos : Pos} {ti : TDs} {vs : List Nat} {g : D → Slots → Option Slots} {gv : TG} {tc : Option TD} {te : TD} (hc : X.calm = true) (hN : X.N.Nodup) (hi : PId X G B W tg iter ti) (ok : BlkOk X.N X.env.scope scope own) (hv : own.map (·.2) = vs)
    (hg : ∀ s H C cl fp, PGw (CxB X scope s H C cl fp) G tg vs g gv) (ht : PTo X G scope ifs tc) (he : ∀ s H C cl fp B, PE (CxB X scope s H C cl fp) elt (TEx X.K G B noW te)) (hs : ∀ x, foldedSetIterable iter X.env x = pure x) :
    PE X (.ListComp elt [⟨tg, iter, ifs, 0⟩] scope pos) (TEx X.K G B W fun ρ M K1 E1 => ti ρ M (fun ds M' => ds.length ≤ 1000000 ∧ lcL g tc te (wipeD ρ vs) ds [] M' fun acc M2 => K1 (.lst acc) M2) E1) ∧
    ∀ (i : Nat) (y : Str) (py spos : Pos), X.N[i]? = some y → X.env.scope.names.lookup y = some .local → swapsWith (.ListComp elt [⟨tg, iter, ifs, 0⟩] scope pos) (some (.Name y py)) spos.line X.env = pure true →
      PS X (.Assign [.Name y py] (.ListComp elt [⟨tg, iter, ifs, 0⟩] scope pos) spos) (TSx X.K G B W (asgS i fun ρ M K1 E1 => ti ρ M (fun ds M' => ds.length ≤ 1000000 ∧ lcL g tc te (wipeD ρ vs) ds [] M' fun acc M2 => K1 (.lst acc) M2) E1)) := by
  subst hv
  obtain ⟨wi, hpi, hw⟩ := hi
  have he' : ∀ s H C cl fp, PE (CxB X scope s H C cl fp) elt (fun σ H Q => ∃ B, TEx X.K G B noW te σ H Q) := fun s H C cl fp => ⟨fun pins s' σ H' Q I ⟨B, q⟩ => (he s H C cl fp B).run pins s' σ H' Q I q⟩
  have core : ∀ σ H Q, TEx X.K G B W (fun ρ M K1 E1 => ti ρ M (fun ds M' => ds.length ≤ 1000000 ∧ lcL g tc te (wipeD ρ (own.map (·.2))) ds [] M' fun acc M2 => K1 (.lst acc) M2) E1) σ H Q → tLc wi gv (ttO X.K G tc) (fun σ H Q => ∃ B, TEx X.K G B noW te σ H Q) (own.map (·.2)) σ H Q := by
    rintro σ H Q ⟨ρ, M, I, K1, E1, s0, t, fin, er⟩
    refine hw σ H ρ M I _ _ _ s0 t er fun ds M' H' I' J k e s' wk => ?_
    obtain ⟨hlen, k⟩ := k
    intro A nA
    have nB := s'.freeB nA
    have nI := s'.good.freeI nA
    have nM := s'.good.freeM nA
    refine ⟨fun i m H2 => m = ds.length - i ∧ i ≤ ds.length ∧ ∃ acc vs M2 I2, Ext I' I2 ∧ Lk M' M2 ∧ SR X.K G B σ H2 ρ M2 I2 ∧ I2 A = none ∧ M2 A = none ∧ H2 A = some (.lst vs) ∧ Reps X.K G I2 acc vs ∧ acc.length ≤ i ∧
      lcL g tc te (wipeD ρ (own.map (·.2))) (ds.drop i) acc M2 fun acc M2 => K1 (.lst acc) M2, ⟨ds.length, by simp, Nat.zero_le _, [], [], M', I', .refl _, .refl _, s'.setH nI nM nB, nI, nM, upd_same, .nil, Nat.zero_le _, k⟩, ?_⟩
    rintro i m H2 ⟨rfl, hi2, acc, vs, M2, I2, x2, y2, s2, n2, m2, h2, r2, l2, k2⟩
    by_cases hlt : i < ds.length
    · have hg2 : ds[i]? = some ds[i] := by simp [hlt]
      refine .inr ⟨wk.go i _ H2 I2 M2 hg2 s2.good x2 y2, fun H3 => ∃ acc vs M2 I2, Ext I' I2 ∧ Lk M' M2 ∧ SR X.K G B σ H3 ρ M2 I2 ∧ I2 A = none ∧ M2 A = none ∧ H3 A = some (.lst vs) ∧ Reps X.K G I2 acc vs ∧ acc.length ≤ i + 1 ∧
        lcL g tc te (wipeD ρ (own.map (·.2))) (ds.drop (i + 1)) acc M2 fun acc M2 => K1 (.lst acc) M2, fun H3 q => ⟨ds.length - (i + 1), by omega, rfl, hlt, q⟩, fun y H3 hy => ?_⟩
      obtain ⟨I3, g3, f3, r3⟩ := wk.yld i _ H2 y H3 I2 M2 hg2 s2.good x2 y2 hy
      have s3 := s2.step g3 f3
      have h3 := f3.kept A _ h2 m2
      obtain ⟨n3, m3⟩ := f3.apart A _ h2 n2 m2
      rw [List.drop_eq_getElem_cons hlt] at k2
      unfold lcL at k2
      obtain ⟨ρ1, eg, k2⟩ := k2
      have sw : SR X.K G ⟨I3, M2, H3⟩ (wipe σ (own.map (·.2))) H3 (wipeD ρ (own.map (·.2))) M2 I3 := (s3.env' (wipe_rep s3.env)).here
      refine (hg X.s_0 H 0 [] []).2 ⟨I3, M2, H3⟩ ds[i] y _ _ _ ρ1 M2 I3 _ sw r3 eg fun σ1 hσ s1 => ⟨hσ.trans wipe_wipe, ?_⟩
      refine tst_ok s1 k2 (fun H4 M4 I4 x4 s4 k4 => ?_) (fun H4 M4 I4 x4 s4 k4 => ?_)
      · refine ⟨⟨I4, M4, H4⟩, ρ1, M4, I4, _, _, s4.here, k4, fun d M5 v H5 I5 k5 x5 s5 r5 => ?_, no_er⟩
        have h4 := s4.frm.kept A _ h3 m3
        obtain ⟨n4, m4⟩ := s4.frm.apart A _ h3 n3 m3
        have h5 := s5.frm.kept A _ h4 m4
        obtain ⟨n5, m5⟩ := s5.frm.apart A _ h4 n4 m4
        have x25 : Ext I2 I5 := (f3.ext.trans x4).trans x5
        refine ⟨vs, h5, by rw [r2.length]; have := sizeLine_eq; omega, acc ++ [d], vs ++ [v], M5, I5, x2.trans x25, y2.trans (s4.frm.lok.trans s5.frm.lok), ?_, n5, m5, upd_same, (r2.ext x25).append (.cons r5 .nil), by simp; omega, k5⟩
        have sB : SR X.K G B σ H5 ρ M5 I5 := (s3.step s4.good (Frm.mk s4.frm.ext s4.frm.kept s4.frm.apart s4.frm.there s4.frm.lok)).step s5.good s5.frm
        exact sB.setH n5 m5 nB
      · have h4 := s4.frm.kept A _ h3 m3
        obtain ⟨n4, m4⟩ := s4.frm.apart A _ h3 n3 m3
        exact ⟨acc, vs, M4, I4, x2.trans (f3.ext.trans x4), y2.trans s4.frm.lok, s3.step s4.good s4.frm, n4, m4, h4, r2.ext (f3.ext.trans x4), by omega, k4⟩
    · have ei : i = ds.length := by omega
      subst ei
      refine .inl ⟨wk.stop _ _ _ s2.good x2 y2, ?_⟩
      rw [List.drop_length] at k2
      have eH : upd H2 A (.lst vs) = H2 := by
        funext b
        by_cases c : b = A
        · subst c; rw [upd_same, h2]
        · rw [upd_ne c]
      obtain ⟨sf, xf⟩ := s2.take (o := .lst vs) n2 m2 nB (.inl ⟨_, rfl⟩)
      rw [eH] at sf
      exact fin _ _ _ _ _ k2 ((e.trans x2).trans xf) sf (by unfold Rep; exact ⟨A, vs, rfl, .of upd_same, r2.ext xf⟩)
  refine ⟨PE.imp (pe_lc hc hN hpi ok (fun s H C cl fp => (hg s H C cl fp).1) (PTo.ok ht) he' hs) core, fun i y py spos hy hyl hsw => ?_⟩
  refine PS.imp (ps_setLc hc hN hy hyl hsw hpi ok (fun s H C cl fp => (hg s H C cl fp).1) (PTo.ok ht) he' hs) fun D σ H ⟨ρ, M, I, En, s, t, ok⟩ => ?_
  exact core σ H _ ⟨ρ, M, I, (fun d M' => En.nx (ρ.set i (some d)) M'), (erE En ρ), s, t, fun d M' v H' I' k e s' r => ok.nx _ _ _ _ I' k (s'.set r), erC ok⟩
end
end PyD
set_option Elab.async false
set_option linter.all false
set_option autoImplicit false
set_option maxRecDepth 100000
set_option maxHeartbeats 4000000
/-! # Dict comprehensions over trees -/
namespace PyD
open PySem PySem.Spec L2
def dcT (ti : TDs) (g : D → Slots → Option Slots) (tc : Option TD) (tk tv : TD) (vs : List Nat) : TD := fun ρ M K1 E1 => ti ρ M (fun ds M' => ds.length ≤ 1000000 ∧ dcL g tc tk tv (wipeD ρ vs) ds [] M' fun acc M2 => K1 (.dct acc) M2) E1
section
variable {X : Cx} {G : Gam} {B : Bs} {W : WX}
theorem dc_lock {pins : List (Addr × Obj)} {s : Shared} {σ : L2.St} {H : Hp} {Q : VK} {kx vx tg iter : Expr} {ifs : List Expr} {scope : Scope} {own : List (Str × Nat)} {pos pos' : Pos} {use : Option (Value → Sem Unit)} {Qf : Value → Shared → Prop} {ti : TDs} {g : D → Slots → Option Slots} {gv : TG} {tc : Option TD} {tk tv : TD}
    (hc : X.calm = true) (hN : X.N.Nodup) (J0 : L2.Inv X pins σ H s) (hi : PId X G B W tg iter ti) (ok : BlkOk X.N X.env.scope scope own)
    (hg : ∀ s H C cl fp, PGw (CxB X scope s H C cl fp) G tg (own.map (·.2)) g gv) (ht : PTo X G scope ifs tc) (hk : ∀ s H C cl fp B, PE (CxB X scope s H C cl fp) kx (TEx X.K G B noW tk)) (he : ∀ s H C cl fp B, PE (CxB X scope s H C cl fp) vx (TEx X.K G B noW tv)) (hs : ∀ x, foldedSetIterable iter X.env x = pure x)
    (h : TEx X.K G B W (dcT ti g tc tk tv (own.map (·.2))) σ H Q)
    (hRR : ∀ D C s' m H', L2.Inv X pins σ H' s' → Q (.ref D) H' → s'.heap.Ns C m → FpOk X pins H' C → compPost (model X.prog X.w) X.A X.xe use Qf (.ref D) C (.ok .next) s') :
    wpAny (model X.prog X.w) X.A (comprehension (.DictComp kx vx [⟨tg, iter, ifs, 0⟩] scope pos) scope X.env pos' newDict false (eval iter X.env) use) Qf X.xe s := by
  obtain ⟨wi, hpi, hw⟩ := hi
  have hk' : ∀ s H C cl fp, PE (CxB X scope s H C cl fp) kx (fun σ H Q => ∃ B, TEx X.K G B noW tk σ H Q) := fun s H C cl fp => ⟨fun pins s' σ H' Q I ⟨B, q⟩ => (hk s H C cl fp B).run pins s' σ H' Q I q⟩
  have he' : ∀ s H C cl fp, PE (CxB X scope s H C cl fp) vx (fun σ H Q => ∃ B, TEx X.K G B noW tv σ H Q) := fun s H C cl fp => ⟨fun pins s' σ H' Q I ⟨B, q⟩ => (he s H C cl fp B).run pins s' σ H' Q I q⟩
  obtain ⟨ρ, M, I, K1, E1, s0, t, fin, er⟩ := h
  refine dc_core (Q := fun v H' => ∃ A kds kvs M2 I2, v = .ref A ∧ H' A = some (.dK kvs) ∧ Ext I I2 ∧ SR X.K G B σ H' ρ M2 I2 ∧ I2 A = none ∧ M2 A = none ∧ B.H A = none ∧ RepK X.K G I2 kds kvs ∧ K1 (.dct kds) M2) hc hN J0 hpi ok (fun s H C cl fp => (hg s H C cl fp).1) (PTo.ok ht) hk' he' hs ?_ fun D C s' m H' I' q hn f => ?_
  · refine hw σ H ρ M I _ _ _ s0 t er fun ds M' H' I' J k e s' wk => ?_
    obtain ⟨hlen, k⟩ := k
    intro A nA
    have nB := s'.freeB nA
    have nI := s'.good.freeI nA
    have nM := s'.good.freeM nA
    refine ⟨fun i m H2 => m = ds.length - i ∧ i ≤ ds.length ∧ ∃ acc vs M2 I2, Ext I' I2 ∧ Lk M' M2 ∧ SR X.K G B σ H2 ρ M2 I2 ∧ I2 A = none ∧ M2 A = none ∧ H2 A = some (.dK vs) ∧ RepK X.K G I2 acc vs ∧ acc.length ≤ i ∧
      dcL g tc tk tv (wipeD ρ (own.map (·.2))) (ds.drop i) acc M2 fun acc M2 => K1 (.dct acc) M2, ⟨ds.length, by simp, Nat.zero_le _, [], [], M', I', .refl _, .refl _, s'.setH nI nM nB, nI, nM, upd_same, by unfold RepK; rfl, Nat.zero_le _, k⟩, ?_⟩
    rintro i m H2 ⟨rfl, hi2, acc, vs, M2, I2, x2, y2, s2, n2, m2, h2, r2, l2, k2⟩
    by_cases hlt : i < ds.length
    · have hg2 : ds[i]? = some ds[i] := by simp [hlt]
      refine .inr ⟨wk.go i _ H2 I2 M2 hg2 s2.good x2 y2, fun H3 => ∃ acc vs M2 I2, Ext I' I2 ∧ Lk M' M2 ∧ SR X.K G B σ H3 ρ M2 I2 ∧ I2 A = none ∧ M2 A = none ∧ H3 A = some (.dK vs) ∧ RepK X.K G I2 acc vs ∧ acc.length ≤ i + 1 ∧
        dcL g tc tk tv (wipeD ρ (own.map (·.2))) (ds.drop (i + 1)) acc M2 fun acc M2 => K1 (.dct acc) M2, fun H3 q => ⟨ds.length - (i + 1), by omega, rfl, hlt, q⟩, fun y H3 hy => ?_⟩
      obtain ⟨I3, g3, f3, r3⟩ := wk.yld i _ H2 y H3 I2 M2 hg2 s2.good x2 y2 hy
      have s3 := s2.step g3 f3
      have h3 := f3.kept A _ h2 m2
      obtain ⟨n3, m3⟩ := f3.apart A _ h2 n2 m2
      rw [List.drop_eq_getElem_cons hlt] at k2
      unfold dcL at k2
      obtain ⟨ρ1, eg, k2⟩ := k2
      have sw : SR X.K G ⟨I3, M2, H3⟩ (wipe σ (own.map (·.2))) H3 (wipeD ρ (own.map (·.2))) M2 I3 := (s3.env' (wipe_rep s3.env)).here
      refine (hg X.s_0 H 0 [] []).2 ⟨I3, M2, H3⟩ ds[i] y _ _ _ ρ1 M2 I3 _ sw r3 eg fun σ1 hσ s1 => ⟨hσ.trans wipe_wipe, ?_⟩
      refine tst_ok s1 k2 (fun H4 M4 I4 x4 s4 k4 => ?_) (fun H4 M4 I4 x4 s4 k4 => ?_)
      · refine ⟨⟨I4, M4, H4⟩, ρ1, M4, I4, _, _, s4.here, k4, fun d M5 v H5 I5 k5 x5 s5 r5 => ?_, no_er⟩
        obtain ⟨ky, hky, k5⟩ := k5
        have h4 := s4.frm.kept A _ h3 m3
        obtain ⟨n4, m4⟩ := s4.frm.apart A _ h3 n3 m3
        have h5 := s5.frm.kept A _ h4 m4
        obtain ⟨n5, m5⟩ := s5.frm.apart A _ h4 n4 m4
        refine ⟨⟨I5, M5, H5⟩, ρ1, M5, I5, _, _, s5.here, k5, fun d6 M6 v6 H6 I6 k6 x6 s6 r6 => ?_, no_er⟩
        have h6 := s6.frm.kept A _ h5 m5
        obtain ⟨n6, m6⟩ := s6.frm.apart A _ h5 n5 m5
        have x26 : Ext I2 I6 := ((f3.ext.trans x4).trans x5).trans x6
        refine ⟨vs, ky, key_ok hky r5, h6, by rw [r2.length]; have := sizeLine_eq; omega, putKD ky d6 acc, putK vs ky v6, M6, I6, x2.trans x26, y2.trans ((s4.frm.lok.trans s5.frm.lok).trans s6.frm.lok), ?_, n6, m6, upd_same, (r2.ext x26).put r6, ?_, k6⟩
        · have sB : SR X.K G B σ H6 ρ M6 I6 := ((s3.step s4.good s4.frm).step s5.good s5.frm).step s6.good s6.frm
          exact sB.setH n6 m6 nB
        · have := putKD_len (k := ky) (d := d6) (kds := acc)
          omega
      · have h4 := s4.frm.kept A _ h3 m3
        obtain ⟨n4, m4⟩ := s4.frm.apart A _ h3 n3 m3
        exact ⟨acc, vs, M4, I4, x2.trans (f3.ext.trans x4), y2.trans s4.frm.lok, s3.step s4.good s4.frm, n4, m4, h4, r2.ext (f3.ext.trans x4), by omega, k4⟩
    · have ei : i = ds.length := by omega
      subst ei
      rw [List.drop_length] at k2
      exact .inl ⟨wk.stop _ _ _ s2.good x2 y2, A, acc, vs, M2, I2, rfl, h2, e.trans x2, s2, n2, m2, nB, r2, k2⟩
  · obtain ⟨A, kds, kvs, M2, I2, eA, hA, xI, sr, n2, m2, nB, r2, k2⟩ := q
    cases eA
    obtain ⟨od, I3⟩ := I'.lock hA True.intro
    obtain ⟨sf, xf⟩ := sr.take (o := .frz od (.dK kvs)) n2 m2 nB (.inr (.inr (.inr (.inr ⟨_, _, rfl⟩))))
    have ne : C ≠ D := fun z => by have := f.1; rw [z, hA] at this; cases this
    refine hRR D C s' m _ I3 (fin _ _ _ _ _ k2 (xI.trans xf) sf (by unfold Rep; exact ⟨D, od, kvs, rfl, upd_same, r2.ext xf⟩)) hn ⟨?_, f.2⟩
    rw [upd_ne ne]
    exact f.1
theorem pd_dc {kx vx tg iter : Expr} {ifs : List Expr} {scope : Scope} {own : List (Str × Nat)} {pos : Pos} {ti : TDs} {vs : List Nat} {g : D → Slots → Option Slots} {gv : TG} {tc : Option TD} {tk tv : TD} (hc : X.calm = true) (hN : X.N.Nodup) (hi : PId X G B W tg iter ti) (ok : BlkOk X.N X.env.scope scope own) (hv : own.map (·.2) = vs)
    (hg : ∀ s H C cl fp, PGw (CxB X scope s H C cl fp) G tg vs g gv) (ht : PTo X G scope ifs tc) (hk : ∀ s H C cl fp B, PE (CxB X scope s H C cl fp) kx (TEx X.K G B noW tk)) (he : ∀ s H C cl fp B, PE (CxB X scope s H C cl fp) vx (TEx X.K G B noW tv)) (hs : ∀ x, foldedSetIterable iter X.env x = pure x) :
    PE X (.DictComp kx vx [⟨tg, iter, ifs, 0⟩] scope pos) (TEx X.K G B W (dcT ti g tc tk tv vs)) ∧
    ∀ (i : Nat) (y : Str) (py spos : Pos), X.N[i]? = some y → X.env.scope.names.lookup y = some .local → swapsWith (.DictComp kx vx [⟨tg, iter, ifs, 0⟩] scope pos) (some (.Name y py)) spos.line X.env = pure true →
      PS X (.Assign [.Name y py] (.DictComp kx vx [⟨tg, iter, ifs, 0⟩] scope pos) spos) (TSx X.K G B W (asgS i (dcT ti g tc tk tv vs))) := by
  subst hv
  refine ⟨⟨fun pins s σ H Q I h => ?_⟩, fun i y py spos hy hyl hsw => ⟨fun pins s σ H D I ⟨ρ, M, J, En, sr, t, okk⟩ => ?_⟩⟩
  · rw [arm_eval_DictComp]
    refine dc_lock hc hN I hi ok hg ht hk he hs h fun D C s' m H' I' q hn f => ⟨m, hn, fun h'' sb => ?_⟩
    obtain ⟨f0, f1, f2, f3, f4, f5⟩ := f
    exact ⟨.ref D, H', I'.turned (t' := s'.toks) (fun b o hb e => (sb.2 b hb).trans e) f0 f1 f3 f4 f5, rfl, q⟩
  · rw [exec_Assign_Name_used _ _ _ _ hsw]
    refine wpAny_bind (wpAny_standAt (wpAny_bind ?_))
    show wpAny _ X.A (do let _ ← comprehension (.DictComp kx vx [⟨tg, iter, ifs, 0⟩] scope pos) scope X.env (firstIterPos [⟨tg, iter, ifs, 0⟩] pos) newDict false (eval iter X.env) (some (assign (.Name y py) X.env))) _ _ s
    have h : TEx X.K G B W (dcT ti g tc tk tv (own.map (·.2))) σ H (fun x H1 => gName i x σ H1 D.nx) := ⟨ρ, M, J, (fun d M' => En.nx (ρ.set i (some d)) M'), erE En ρ, sr, t, fun d M' v H' I' k e s' r => okk.nx _ _ _ _ I' k (s'.set r), erC okk⟩
    refine wpAny_bind (thn (dc_lock (Qf := fun _ s' => SP X pins D .next s') hc hN I hi ok hg ht hk he hs h fun L C s' m H' I' q hn f => ?_) fun _ s' hq => wpAny_pure (wpAny_pure hq))
    show wpAny _ _ (assign (.Name y py) X.env (.ref L)) _ _ _
    refine wpAny_assign_Name (store_ok2 (v := V.ref L) I' hN hy (.inl hyl) rfl (fun s2 I2 ⟨a, sb, ha⟩ => ?_) (.inr hyl))
    obtain ⟨f0, f1, f2, f3, f4, f5⟩ := f
    have haC : C ≠ a := by
      rcases ha with z | z
      · rw [z]; exact f1
      · exact fun e => f4 y a z e.symm
    refine ⟨m, hn.sameBut sb haC, fun h3 sb3 => ?_⟩
    exact ⟨_, H', I2.turned (t' := s2.toks) (fun b o hb e => (sb3.2 b hb).trans e) f0 f1 f3 f4 f5, q⟩
theorem sw_trueD {kx vx : Expr} {gs : List Comprehension} {scope : Scope} {pos py : Pos} {y : Str} {l : Nat} {env : Env} (hk : env.scope.kind = .function) (hy : env.scope.names.lookup y = some .local) (hl : (py.line == pos.line) = true)
    (ha : (scope.names.any fun (n, k) => n == y && (k == .local || k == .cell)) = false) : swapsWith (.DictComp kx vx gs scope pos) (some (.Name y py)) l env = pure true := by
  have ky : env.kindOf y = some .local := hy
  have hb : env.blockKind = .function := by unfold Env.blockKind; rw [hk]; rfl
  unfold swapsWith
  simp only [hb, ky, ha, Expr.pos, hl]
  rfl
end
end PyD
set_option Elab.async false
set_option linter.all false
set_option autoImplicit false
set_option maxRecDepth 100000
set_option maxHeartbeats 4000000
/-! # {k: v for a in xs for b in ys}, at the model's level and over the abstract heap -/
namespace PyD
open PySem PySem.Spec PyProof.Rows L2

/-- the comprehension -/
abbrev dx2 (kx vx ta ia tb ib : Expr) (sc : Scope) (p : Pos) : Expr := .DictComp kx vx [⟨ta, ia, [], 0⟩, ⟨tb, ib, [], 0⟩] sc p
section
variable {P : Program} {w : World} {A : Around} {R : Result → Shared → Prop} {s : Shared} {kx vx ta ia tb ib : Expr} {sc : Scope} {p : Pos} {it acc : Value} {D : Addr} {env : Env}
theorem turnA : compTurn (dx2 kx vx ta ia tb ib sc p) 0 it acc env = (do
      standAt ia.pos
      match ← pyNext it with
      | none => pure (.done .next)
      | some v =>
        letOwnedTupleGo ta it v; assign ta env v
        let y ← eval ib env
        standAt ib.pos
        let z ← foldedSetIterable ib env y
        let _ ← runOwn (.compStart (dx2 kx vx ta ia tb ib sc p) 1 (← holding [z] (pyIter z)) acc env) env
        again (.compLoop (dx2 kx vx ta ia tb ib sc p) 0 it acc env)) := by rfl
theorem turnB : compTurn (dx2 kx vx ta ia tb ib sc p) 1 it (.ref D) env = (do
      standAt ib.pos
      match ← pyNext it with
      | none => pure (.done .next)
      | some v =>
        letOwnedTupleGo tb it v; assign tb env v
        (do
          let a ← eval kx env
          let b ← holding [a] (eval vx env)
          standAt { kx.pos with endLine := vx.pos.endLine, endCol := vx.pos.endCol }
          holding [a, b] (dictSet D a b))
        again (.compLoop (dx2 kx vx ta ia tb ib sc p) 1 it (.ref D) env)) := by rfl
/-- what is wished for when something is raised -/
abbrev nbd (P : Program) (w : World) (A : Around) (env : Env) (R : Result → Shared → Prop) : Value → Shared → Prop := notedBy (model P w) A env fun e s' => R (.error e) s'
theorem loopA (hs : ∀ x, foldedSetIterable ib env x = pure x) (I : Nat → Shared → Prop)
    (step : ∀ n s, I n s → wpAny (model P w) A (pyNext it) (fun r s1 => match r with
      | none => R (.ok .next) s1
      | some v => wpAny (model P w) A (letOwnedTupleGo ta it v) (fun _ s2 => wpAny (model P w) A (assign ta env v) (fun _ s3 => wpAny (model P w) A (eval ib env) (fun y s4 => wpAny (model P w) A (pyIter y) (fun z s5 =>
          codeAny (model P w) A (.compStart (dx2 kx vx ta ia tb ib sc p) 1 z acc env) (fun r s6 => match r with
            | .ok _ => ∃ m, m < n ∧ I m s6
            | .error _ => False) s5) (nbd P w A env R) s4) (nbd P w A env R) s3) (nbd P w A env R) s2) (nbd P w A env R) s1) (nbd P w A env R) s)
    (n : Nat) (h : I n s) : codeAny (model P w) A (.compLoop (dx2 kx vx ta ia tb ib sc p) 0 it acc env) R s := by
  refine codeAny_loop rfl I (fun k u hI => ?_) n h
  show wpAny _ A ((compTurn (dx2 kx vx ta ia tb ib sc p) 0 it acc env).onRaise (fun x => do noteFrame x env; theTreesLotGoes x)) _ _ u
  refine wpAny_noted ?_
  rw [turnA]
  refine wpAny_bind (wpAny_standAt (wpAny_bind (wpAny_mono (step k u hI) (fun r u1 g1 => ?_) fun _ _ q => q)))
  cases r with
  | none => exact wpAny_pure g1
  | some v =>
    refine wpAny_bind (wpAny_mono g1 (fun _ u2 g2 => wpAny_bind (wpAny_mono g2 (fun _ u3 g3 => wpAny_bind (wpAny_mono g3 (fun y u4 g4 => ?_) fun _ _ q => q)) fun _ _ q => q)) fun _ _ q => q)
    refine wpAny_bind (wpAny_standAt (wpAny_bind (wpAny_of_eq (hs y) (wpAny_bind (wpAny_holding (wpAny_mono g4 (fun z u5 g5 => wpAny_bind (wpAny_runOwn ?_)) fun _ _ q => q))))))
    rw [Around.mark_none]
    refine codeAny_mono g5 fun r u6 hr => ?_
    cases r with
    | error e => exact hr.elim
    | ok f => first
      | exact wpAny_pure ⟨rfl, hr⟩
      | exact wpAny_bind (wpAny_pure (wpAny_pure ⟨rfl, hr⟩))
theorem loopB (I : Nat → Shared → Prop)
    (step : ∀ n s, I n s → wpAny (model P w) A (pyNext it) (fun r s1 => match r with
      | none => R (.ok .next) s1
      | some v => wpAny (model P w) A (letOwnedTupleGo tb it v) (fun _ s2 => wpAny (model P w) A (assign tb env v) (fun _ s3 => wpAny (model P w) A (eval kx env) (fun a s4 => wpAny (model P w) A (eval vx env) (fun b s5 =>
          wpAny (model P w) A (dictSet D a b) (fun _ s6 => ∃ m, m < n ∧ I m s6) (nbd P w A env R) s5) (nbd P w A env R) s4) (nbd P w A env R) s3) (nbd P w A env R) s2) (nbd P w A env R) s1) (nbd P w A env R) s)
    (n : Nat) (h : I n s) : codeAny (model P w) A (.compLoop (dx2 kx vx ta ia tb ib sc p) 1 it (.ref D) env) R s := by
  refine codeAny_loop rfl I (fun k u hI => ?_) n h
  show wpAny _ A ((compTurn (dx2 kx vx ta ia tb ib sc p) 1 it (.ref D) env).onRaise (fun x => do noteFrame x env; theTreesLotGoes x)) _ _ u
  refine wpAny_noted ?_
  rw [turnB]
  refine wpAny_bind (wpAny_standAt (wpAny_bind (wpAny_mono (step k u hI) (fun r u1 g1 => ?_) fun _ _ q => q)))
  cases r with
  | none => exact wpAny_pure g1
  | some v =>
    refine wpAny_bind (wpAny_mono g1 (fun _ u2 g2 => wpAny_bind (wpAny_mono g2 (fun _ u3 g3 => ?_) fun _ _ q => q)) fun _ _ q => q)
    refine wpAny_bind (wpAny_bind (wpAny_mono g3 (fun a u4 g4 => wpAny_bind (wpAny_holding (wpAny_mono g4 (fun b u5 g5 => ?_) fun _ _ q => q))) fun _ _ q => q))
    exact wpAny_bind (wpAny_standAt (wpAny_holding (wpAny_mono g5 (fun _ u6 g6 => wpAny_pure ⟨rfl, g6⟩) fun _ _ q => q)))
theorem startB (h0 : codeAny (model P w) A (.compLoop (dx2 kx vx ta ia tb ib sc p) 1 it acc env) R s)
    (h : wpAny (model P w) A (pyIter it) (fun z s' => codeAny (model P w) A (.compLoop (dx2 kx vx ta ia tb ib sc p) 1 z acc env) R s') (nbd P w A env R) s) :
    codeAny (model P w) A (.compStart (dx2 kx vx ta ia tb ib sc p) 1 it acc env) R s := by
  refine codeAny_of_tree ?_
  show wpAny _ _ ((compStart (dx2 kx vx ta ia tb ib sc p) 1 it acc env).onRaise (fun x => do noteFrame x env; standAt theWindowsPlace)) _ _ s
  refine wpAny_notedAt ?_
  unfold compStart
  show wpAny _ _ (ask >>= _) _ _ s
  refine wpAny_bind (wpAny_askSetting (wpAny_ite ?_))
  split
  · first
      | exact wpAny_bind (wpAny_pure (wpAny_pure ⟨rfl, h0⟩))
      | exact wpAny_pure ⟨rfl, h0⟩
  · refine wpAny_bind (wpAny_rule ?_)
    first
      | exact wpAny_bind (wpAny_standAt (wpAny_bind (wpAny_mono h (fun z s' q => wpAny_pure ⟨rfl, q⟩) fun _ _ q => q)))
      | (show wpAny _ _ (standAt ib.pos >>= _) _ _ s; exact wpAny_bind (wpAny_standAt (wpAny_bind (wpAny_mono h (fun z s' q => wpAny_pure ⟨rfl, q⟩) fun _ _ q => q))))
end

/-! ## over the abstract heap -/
section
variable {X : Cx}
/-- behind the first target's store the second source's own loop; D the new dict -/
def tDd (wi : TI) (g : TG) (wj : TI) (gj : TG) (tk tv : TE) (vs vj : List Nat) : TE := fun σ H Q => wi σ H fun J H1 => ∀ D, H1 D = none → ∃ Wa : Nat → Nat → Hp → Prop, (∃ m, Wa 0 m (upd H1 D (.dK []))) ∧ ∀ i m H2, Wa i m H2 →
  (J.stop i H2 ∧ Q (.ref D) H2) ∨ (J.go i H2 ∧ ∃ Na : Hp → Prop, (∀ H3, Na H3 → ∃ m1, m1 < m ∧ Wa (i + 1) m1 H3) ∧ ∀ x H3, J.yld i H2 x H3 → g x (wipe σ vs) H3 fun τ H4 => wipe τ vs = wipe σ vs ∧
    wj τ H4 fun L H5 => ∃ Wb : Nat → Nat → Hp → Prop, (∃ m, Wb 0 m H5) ∧ ∀ j k H6, Wb j k H6 →
      (L.stop j H6 ∧ Na H6) ∨ (L.go j H6 ∧ ∃ Nb : Hp → Prop, (∀ H7, Nb H7 → ∃ k1, k1 < k ∧ Wb (j + 1) k1 H7) ∧ ∀ y H7, L.yld j H6 y H7 → gj y (wipe τ vj) H7 fun υ H8 => wipe υ vj = wipe τ vj ∧
        tk υ H8 fun a H9 => tv υ H9 fun b HA => ∃ kvs ky, a = kV ky ∧ HA D = some (.dK kvs) ∧ kvs.length < sizeLine ∧ Nb (upd HA D (.dK (putK kvs ky b)))))
theorem dd_core {pins : List (Addr × Obj)} {s : Shared} {σ : L2.St} {H : Hp} {Q : VK} {kx vx ta ia tb ib : Expr} {sc : Scope} {own : List (Str × Nat)} {vj : List Nat} {p p' : Pos} {wi wj : TI} {g gj : TG} {tk tv : TE} {use : Option (Value → Sem Unit)} {Qf : Value → Shared → Prop}
    (calm : X.calm = true) (nd : X.N.Nodup) (I0 : L2.Inv X pins σ H s) (hi : PI X ta ia wi) (ok : BlkOk X.N X.env.scope sc own) (hv : ∀ i ∈ vj, i ∈ own.map (·.2))
    (hg : ∀ s H C cl fp, PG (X.blk s H sc (compEnvC sc cl C X.env) fp) ta g) (hj : ∀ s H C cl fp, PI (X.blk s H sc (compEnvC sc cl C X.env) fp) tb ib wj) (hh : ∀ s H C cl fp, PG (X.blk s H sc (compEnvC sc cl C X.env) fp) tb gj)
    (hk : ∀ s H C cl fp, PE (X.blk s H sc (compEnvC sc cl C X.env) fp) kx tk) (hx : ∀ s H C cl fp, PE (X.blk s H sc (compEnvC sc cl C X.env) fp) vx tv) (fa : ∀ x, foldedSetIterable ia X.env x = pure x) (fb : ∀ e x, foldedSetIterable ib e x = pure x)
    (t : tDd wi g wj gj tk tv (own.map (·.2)) vj σ H Q)
    (fin : ∀ D C s' m H', L2.Inv X pins σ H' s' → Q (.ref D) H' → s'.heap.Ns C m → FpOk X pins H' C → compPost (model X.prog X.w) X.A X.xe use Qf (.ref D) C (.ok .next) s') :
    wpAny (model X.prog X.w) X.A (comprehension (dx2 kx vx ta ia tb ib sc p) sc X.env p' newDict false (eval ia X.env) use) Qf X.xe s := by
  have free : ∀ y ∈ sc.names, y.2 = .free → ∃ c, X.env.cells.lookup y.1 = some c := fun y hy e =>
    (ok.free y hy e).elim (fun z => I0.ok.has _ (.inl z)) (fun z => I0.ok.has _ (.inr z))
  refine wpAny_comprehension_free (use := use) rfl fa (closure_ok free) ok.kind (fun y hy e => by rw [ok.uniq y hy, e]) (thn (hi.run pins s σ H _ I0 t) fun _ _ q0 => thn q0 fun _ s2 q2 => ?_)
  obtain ⟨it, fp, tn, J, H2, rfl, I2, T, w2, f2, q⟩ := q2
  refine wpAny_newObj_type (newEnv_comp ?_)
  generalize eD : s2.heap.objs.size = D
  have nD : H2 D = none := I2.hok.fresh (Nat.le_of_eq eD)
  obtain ⟨Wa, ⟨m0, wa0⟩, stepA⟩ := q D nD
  -- the new dict stands at D
  generalize es3 : ({ s2 with heap := s2.heap.push ⟨.type "dict", none, .dict #[], #[]⟩ } : Shared) = s3
  have eh : s3.heap = s2.heap.push ⟨.type "dict", none, .dict #[], #[]⟩ := by rw [← es3]
  have kp : ∀ (b : Addr) (o : Obj), s2.heap.get? b = some o → s3.heap.get? b = some o := fun b o e => by rw [eh]; exact Heap.get?_push_of_some _ e
  have I3 : L2.Inv X pins σ (upd H2 D (.dK [])) s3 := by
    subst es3
    refine I2.laid (t' := s2.toks) (fun b o e => Heap.get?_push_of_some _ e) (Nat.le_of_eq eD) ?_
    subst eD
    exact dk_empty s2.heap I2.big
  have f3 : ∀ b ∈ fp, FpOk X pins (upd H2 D (.dK [])) b ∧ b < s3.heap.objs.size := fun b hb => by
    obtain ⟨o, eo, _⟩ := T.obj _ _ w2 b hb
    have lt := Heap.lt_size eo
    have bD : b ≠ D := by rw [← eD]; exact Nat.ne_of_lt lt
    exact ⟨⟨(upd_ne bD).trans (f2 b hb).1, (f2 b hb).2⟩, by rw [eh, Heap.size_push]; exact Nat.lt_succ_of_lt lt⟩
  have w3 : tn 0 s3.heap := T.keep _ _ _ w2 fun b _ o e => kp b o e
  have I4 := block_start I3 ok nd f3
  generalize ecl : cellsFrom (s3.heap.objs.size + 1) sc.names (cloFrom X.env.cells sc.names []) = cl at I4 ⊢
  show codeAny _ _ (.compStart (dx2 kx vx ta ia tb ib sc p) 0 (.ref it) (.ref D) (compEnvC sc cl s3.heap.objs.size X.env)) (compPost (model X.prog X.w) X.A X.xe use Qf (.ref D) s3.heap.objs.size) { s3 with heap := pushCells (s3.heap.push { cls := .type "dict", data := .dict #[] }) sc.names }
  generalize eH3 : upd H2 D (.dK []) = H3 at I3 I4 wa0 f3
  have pga := hg s3 H3 s3.heap.objs.size cl fp
  have pib := hj s3 H3 s3.heap.objs.size cl fp
  have pgb := hh s3 H3 s3.heap.objs.size cl fp
  have pek := hk s3 H3 s3.heap.objs.size cl fp
  have pev := hx s3 H3 s3.heap.objs.size cl fp
  generalize ece : compEnvC sc cl s3.heap.objs.size X.env = ce at I4 pga pib pgb pek pev ⊢
  have ceL : ce.locals = s3.heap.objs.size := by subst ece; rfl
  generalize es4 : ({ s3 with heap := pushCells (s3.heap.push { cls := .type "dict", data := .dict #[] }) sc.names } : Shared) = s4 at I4 ⊢
  have w4 : tn 0 s4.heap := T.keep _ _ _ w3 fun b _ o e => by rw [← es4]; exact pushCells_keeps _ _ _ _ (Heap.get?_push_of_some _ e)
  -- what the iterator of the first source owns is nobody else's
  have offA : ∀ {τ : L2.St} {HH : Hp} {u : Shared}, L2.Inv (X.blk s3 H3 sc ce fp) [] τ HH u → (∀ b ∈ fp, HH b = none) → ∀ b ∈ fp, FpOk (X.blk s3 H3 sc ce fp) [] HH b := fun {τ HH u} IB hn b hb =>
    ⟨hn b hb, (IB.ok.exf b hb).1, IB.ok.exfs b hb, .inl hb, (fun x c e => (IB.ok.exf b hb).2 x c e), fun q hq => absurd (show q ∈ ([] : List (Addr × Obj)) ++ [] from hq) (by simp)⟩
  let GA : Nat → Shared → Prop := fun n u => ∃ i HH, L2.Inv (X.blk s3 H3 sc ce fp) [] (wipe σ (own.map (·.2))) HH u ∧ tn i u.heap ∧ (∀ b ∈ fp, HH b = none) ∧ Wa i n HH
  have main : codeAny (model X.prog X.w) X.A (.compLoop (dx2 kx vx ta ia tb ib sc p) 0 (.ref it) (.ref D) ce) (compPost (model X.prog X.w) X.A X.xe use Qf (.ref D) s3.heap.objs.size) s4 := by
    refine loopA (fb ce) GA (fun n u gu => ?_) m0 ⟨0, H3, I4, w4, (fun b hb => (f3 b hb).1.1), wa0⟩
    obtain ⟨i, H5, I5, w5, n5, wa5⟩ := gu
    rcases stepA i n H5 wa5 with ⟨st, qd⟩ | ⟨go, Na, hNa, next⟩
    · refine thnF (T.done (X.blk s3 H3 sc ce fp) rfl rfl rfl calm i [] u _ H5 (fun _ _ => False) I5 (offA I5 n5) w5 st) fun r v hr => ?_
      obtain ⟨rfl, I6⟩ := hr
      have I7 : L2.Inv X pins σ H5 v := I3.call' (ch := fp) I6.os I6.base I6.hok I6.bare fun b hb => by
        obtain ⟨_, z1, _, z3, z4, z5⟩ := (f3 b hb).1
        exact ⟨z3, z1, z4, z5⟩
      have nC : H5 s3.heap.objs.size = none := ceL ▸ (show H5 ce.locals = none from I6.free)
      obtain ⟨mm, hm, _⟩ := I6.loc
      have hm : v.heap.Ns s3.heap.objs.size mm := ceL ▸ (show v.heap.Ns ce.locals mm from hm)
      exact fin D s3.heap.objs.size v mm H5 I7 qd hm (I3.fpOk (Nat.le_refl _) nC)
    · refine thnF (T.item (X.blk s3 H3 sc ce fp) rfl rfl rfl calm i [] u _ H5 (fun _ _ => False) I5 (offA I5 n5) w5 go) fun r v hr => ?_
      obtain ⟨a, rfl, h6⟩ := hr
      refine thnF h6 fun _ v7 h7 => ?_
      obtain ⟨x, H7, I7, r7, y7, w7, n7⟩ := h7
      refine thnF (pga.run _ v7 _ H7 x a _ (I7.pinned (offA I7 n7) (T.obj _ _ w7)) r7 (next x H7 y7)) fun _ v8 h8 => ?_
      obtain ⟨τ, H8, I8, hw8, q8⟩ := h8
      -- how a turn of the first loop ends
      have endA : ∀ {υ : L2.St} {v : Shared} {HH : Hp}, L2.Inv (X.blk s3 H3 sc ce fp) ([] ++ pinsAt fp v7.heap) υ HH v → υ.length = (wipe σ (own.map (·.2))).length → (∀ (j : Nat) z, (wipe σ (own.map (·.2)))[j]? = some (some z) → υ[j]? = some (some z)) → Na HH → ∃ m, m < n ∧ GA m v := fun {υ v HH} IE le ke na => by
        obtain ⟨m1, lm, wa⟩ := hNa HH na
        have stay : ∀ b ∈ fp, ∀ o, v7.heap.get? b = some o → v.heap.get? b = some o ∧ HH b = none := fun b hb o e => by
          have z := IE.pin (b, o) (List.mem_append_right _ (List.mem_append_right _ (mem_pinsAt hb e)))
          exact ⟨z.1, z.2.1⟩
        refine ⟨m1, lm, i + 1, HH, (IE.unpinned (pins := [])).weak le.symm ke, T.keep _ _ _ w7 (fun b hb o e => (stay b hb o e).1), fun b hb => ?_, wa⟩
        obtain ⟨o, e, _⟩ := T.obj _ _ w7 b hb
        exact (stay b hb o e).2
      have lT : τ.length = (wipe σ (own.map (·.2))).length := by rw [← hw8, wipe_length]
      have kT : ∀ (j : Nat) z, (wipe σ (own.map (·.2)))[j]? = some (some z) → τ[j]? = some (some z) ∧ j ∉ own.map (·.2) := fun j z e => wipe_some (by rw [hw8]; exact e)
      refine thnF (pib.run _ v8 τ H8 _ I8 q8) fun _ v9 h9 => thnF h9 fun _ vA hA => ?_
      obtain ⟨jt, fq, tq, L, HA, rfl, IA, U, wA, fA, Wb, ⟨k0, wb0⟩, stepB⟩ := hA
      have offB : ∀ {HH : Hp}, (∀ b ∈ fq, HH b = none) → ∀ b ∈ fq, FpOk (X.blk s3 H3 sc ce fp) ([] ++ pinsAt fp v7.heap) HH b := fun hn b hb => ⟨hn b hb, (fA b hb).2⟩
      let GB : Nat → Shared → Prop := fun k u => ∃ j HH, L2.Inv (X.blk s3 H3 sc ce fp) ([] ++ pinsAt fp v7.heap) (wipe τ vj) HH u ∧ tq j u.heap ∧ (∀ b ∈ fq, HH b = none) ∧ Wb j k HH
      have inner : codeAny (model X.prog X.w) X.A (.compLoop (dx2 kx vx ta ia tb ib sc p) 1 (.ref jt) (.ref D) ce) (fun r u => match r with
          | .ok _ => ∃ m, m < n ∧ GA m u
          | .error _ => False) vA := by
        refine loopB GB (fun k u gu => ?_) k0 ⟨0, HA, IA.weak (wipe_length _ _) (fun j z e => (wipe_some e).1), wA, (fun b hb => (fA b hb).1), wb0⟩
        obtain ⟨j, HB, IB, wB, nB, wbB⟩ := gu
        rcases stepB j k HB wbB with ⟨st, na⟩ | ⟨go, Nb, hNb, nextB⟩
        · refine thnF (U.done (X.blk s3 H3 sc ce fp) rfl rfl rfl calm j _ u (wipe τ vj) HB (fun _ _ => False) IB (offB nB) wB st) fun r v hr => ?_
          obtain ⟨rfl, IC⟩ := hr
          refine endA IC ((wipe_length τ vj).trans lT) (fun j z e => ?_) na
          obtain ⟨z1, z2⟩ := kT j z e
          rw [wipe_out fun q => z2 (hv j q)]
          exact z1
        · refine thnF (U.item (X.blk s3 H3 sc ce fp) rfl rfl rfl calm j _ u (wipe τ vj) HB (fun _ _ => False) IB (offB nB) wB go) fun r v hr => ?_
          obtain ⟨c, rfl, hC⟩ := hr
          refine thnF hC fun _ vC hC => ?_
          obtain ⟨y, HC, IC, rC, yC, wC, nC⟩ := hC
          refine thnF (pgb.run _ vC (wipe τ vj) HC y c _ (IC.pinned (offB nC) (U.obj _ _ wC)) rC (nextB y HC yC)) fun _ vD hD => ?_
          obtain ⟨υ, HD, ID, hwD, qD⟩ := hD
          have endB : ∀ {v : Shared} {HH : Hp}, L2.Inv (X.blk s3 H3 sc ce fp) (([] ++ pinsAt fp v7.heap) ++ pinsAt fq vC.heap) υ HH v → Nb HH → ∃ m, m < k ∧ GB m v := fun {v HH} IE nb => by
            obtain ⟨m1, lm, wb⟩ := hNb HH nb
            have stay : ∀ b ∈ fq, ∀ o, vC.heap.get? b = some o → v.heap.get? b = some o ∧ HH b = none := fun b hb o e => by
              have z := IE.pin (b, o) (List.mem_append_right _ (List.mem_append_right _ (mem_pinsAt hb e)))
              exact ⟨z.1, z.2.1⟩
            refine ⟨m1, lm, j + 1, HH, IE.unpinned.weak (by rw [← hwD, wipe_length]) (fun l z e => (wipe_some (by rw [hwD]; exact e)).1), U.keep _ _ _ wC (fun b hb o e => (stay b hb o e).1), fun b hb => ?_, wb⟩
            obtain ⟨o, e, _⟩ := U.obj _ _ wC b hb
            exact (stay b hb o e).2
          refine thnF (pek.run _ vD υ HD _ ID qD) fun _ vE hE => ?_
          obtain ⟨yk, HE, IE, rE, qE⟩ := hE
          refine thnF (pev.run _ vE υ HE _ IE qE) fun _ vF hF => ?_
          obtain ⟨yv, HF, IF, rF, kvs, ky, rfl, hDF, hzF, nb⟩ := hF
          exact d_dictSet (X := X.blk s3 H3 sc ce fp) IF hDF hzF rE rF fun vG IG => endB IG nb
      exact startB inner (U.self X.A 0 _ _ _ wA inner)
  exact codeAny_compStart_dict main (T.self X.A 0 _ _ _ w4 main)
end
end PyD
set_option Elab.async false
set_option linter.all false
set_option autoImplicit false
set_option maxRecDepth 100000
set_option maxHeartbeats 4000000
/-! # {k: v for a in xs for b in ys} over trees -/
namespace PyD
open PySem PySem.Spec L2
def dcL2 (g gj : D → Slots → Option Slots) (tj : TDs) (tk tv : TD) (vj : List Nat) (ρ : Slots) : List D → List (Key × D) → Mst → (List (Key × D) → Mst → Prop) → Prop
  | [], acc, M, K => K acc M
  | d :: ds, acc, M, K => ∃ ρ1, g d ρ = some ρ1 ∧ tj ρ1 M (fun es M1 => acc.length + es.length ≤ 1000000 ∧ dcL gj none tk tv (wipeD ρ1 vj) es acc M1 fun acc M2 => dcL2 g gj tj tk tv vj ρ ds acc M2 K) noErr
def dc2T (ti : TDs) (g : D → Slots → Option Slots) (tj : TDs) (gj : D → Slots → Option Slots) (tk tv : TD) (vs vj : List Nat) : TD := fun ρ M K1 E1 => ti ρ M (fun ds M' => dcL2 g gj tj tk tv vj (wipeD ρ vs) ds [] M' fun acc M2 => K1 (.dct acc) M2) E1
section
variable {X : Cx} {G : Gam} {B : Bs} {W : WX}
theorem pgw_in {i : Nat} {x : Str} {pos : Pos} {vs : List Nat} (hi : i ∈ vs) (h : PG X (.Name x pos) (gName i)) : PGw X G (.Name x pos) vs (set1 i) (gName i) :=
  ⟨h, fun B d v σ H ρ ρ1 M I Q s r e q => by cases e; exact q _ (wipe_set hi) (s.set r)⟩
theorem d2_lock {pins : List (Addr × Obj)} {s : Shared} {σ : L2.St} {H : Hp} {Q : VK} {kx vx ta ia tb ib : Expr} {sc : Scope} {own : List (Str × Nat)} {vj : List Nat} {pos pos' : Pos} {use : Option (Value → Sem Unit)} {Qf : Value → Shared → Prop} {ti tj : TDs} {g gj : D → Slots → Option Slots} {gv gw : TG} {tk tv : TD}
    (hc : X.calm = true) (hN : X.N.Nodup) (J0 : L2.Inv X pins σ H s) (hi : PId X G B W ta ia ti) (ok : BlkOk X.N X.env.scope sc own) (hv : ∀ i ∈ vj, i ∈ own.map (·.2))
    (hg : ∀ s H C cl fp, PGw (CxB X sc s H C cl fp) G ta (own.map (·.2)) g gv) (hj : ∀ s H C cl fp B, PId (CxB X sc s H C cl fp) G B noW tb ib tj) (hh : ∀ s H C cl fp, PGw (CxB X sc s H C cl fp) G tb vj gj gw)
    (hk : ∀ s H C cl fp B, PE (CxB X sc s H C cl fp) kx (TEx X.K G B noW tk)) (he : ∀ s H C cl fp B, PE (CxB X sc s H C cl fp) vx (TEx X.K G B noW tv)) (fa : ∀ x, foldedSetIterable ia X.env x = pure x) (fb : ∀ e x, foldedSetIterable ib e x = pure x)
    (h : TEx X.K G B W (dc2T ti g tj gj tk tv (own.map (·.2)) vj) σ H Q)
    (hRR : ∀ D C s' m H', L2.Inv X pins σ H' s' → Q (.ref D) H' → s'.heap.Ns C m → FpOk X pins H' C → compPost (model X.prog X.w) X.A X.xe use Qf (.ref D) C (.ok .next) s') :
    wpAny (model X.prog X.w) X.A (comprehension (dx2 kx vx ta ia tb ib sc pos) sc X.env pos' newDict false (eval ia X.env) use) Qf X.xe s := by
  obtain ⟨wi, hpi, hw⟩ := hi
  have hk' : ∀ s H C cl fp, PE (CxB X sc s H C cl fp) kx (fun σ H Q => ∃ B, TEx X.K G B noW tk σ H Q) := fun s H C cl fp => ⟨fun pins s' σ H' Q I ⟨B, q⟩ => (hk s H C cl fp B).run pins s' σ H' Q I q⟩
  have he' : ∀ s H C cl fp, PE (CxB X sc s H C cl fp) vx (fun σ H Q => ∃ B, TEx X.K G B noW tv σ H Q) := fun s H C cl fp => ⟨fun pins s' σ H' Q I ⟨B, q⟩ => (he s H C cl fp B).run pins s' σ H' Q I q⟩
  -- the second source, in any block
  let wj : TI := fun σ H R => ∃ (B : Bs) (ρ : Slots) (M : Mst) (I : Hp) (K1 : List D → Mst → Prop), SR X.K G B σ H ρ M I ∧ tj ρ M K1 noErr ∧ ∀ ds M' H' I' J, K1 ds M' → Ext I I' → SR X.K G B σ H' ρ M' I' → Walk X.K G I' M' ds J → R J H'
  have hj' : ∀ s H C cl fp, PI (CxB X sc s H C cl fp) tb ib wj := fun s H C cl fp => ⟨fun pins s' σ H' R I q => by
    obtain ⟨B2, ρ2, M2, I2, K2, sr, t, fin⟩ := q
    obtain ⟨wi2, p2, q2⟩ := hj s H C cl fp B2
    exact p2.run pins s' σ H' R I (q2 σ H' ρ2 M2 I2 K2 noErr R sr t no_er fin)⟩
  obtain ⟨ρ, M, I, K1, E1, s0, t, fin, er⟩ := h
  refine dd_core (Q := fun v H' => ∃ A kds kvs M2 I2, v = .ref A ∧ H' A = some (.dK kvs) ∧ Ext I I2 ∧ SR X.K G B σ H' ρ M2 I2 ∧ I2 A = none ∧ M2 A = none ∧ B.H A = none ∧ RepK X.K G I2 kds kvs ∧ K1 (.dct kds) M2) hc hN J0 hpi ok hv (fun s H C cl fp => (hg s H C cl fp).1) hj' (fun s H C cl fp => (hh s H C cl fp).1) hk' he' fa fb ?_ fun D C s' m H' I' q hn f => ?_
  · refine hw σ H ρ M I _ _ _ s0 t er fun ds M' H' I' J k e s' wk => ?_
    intro A nA
    have nB := s'.freeB nA
    have nI := s'.good.freeI nA
    have nM := s'.good.freeM nA
    refine ⟨fun i m H2 => m = ds.length - i ∧ i ≤ ds.length ∧ ∃ acc vs M2 I2, Ext I' I2 ∧ Lk M' M2 ∧ SR X.K G B σ H2 ρ M2 I2 ∧ I2 A = none ∧ M2 A = none ∧ H2 A = some (.dK vs) ∧ RepK X.K G I2 acc vs ∧
      dcL2 g gj tj tk tv vj (wipeD ρ (own.map (·.2))) (ds.drop i) acc M2 fun acc M2 => K1 (.dct acc) M2, ⟨ds.length, by simp, Nat.zero_le _, [], [], M', I', .refl _, .refl _, s'.setH nI nM nB, nI, nM, upd_same, by unfold RepK; rfl, k⟩, ?_⟩
    rintro i m H2 ⟨rfl, hi2, acc, vs, M2, I2, x2, y2, s2, n2, m2, h2, r2, k2⟩
    by_cases hlt : i < ds.length
    · have hg2 : ds[i]? = some ds[i] := by simp [hlt]
      refine .inr ⟨wk.go i _ H2 I2 M2 hg2 s2.good x2 y2, fun H3 => ∃ acc vs M2 I2, Ext I' I2 ∧ Lk M' M2 ∧ SR X.K G B σ H3 ρ M2 I2 ∧ I2 A = none ∧ M2 A = none ∧ H3 A = some (.dK vs) ∧ RepK X.K G I2 acc vs ∧
        dcL2 g gj tj tk tv vj (wipeD ρ (own.map (·.2))) (ds.drop (i + 1)) acc M2 fun acc M2 => K1 (.dct acc) M2, fun H3 q => ⟨ds.length - (i + 1), by omega, rfl, hlt, q⟩, fun y H3 hy => ?_⟩
      obtain ⟨I3, g3, f3, r3⟩ := wk.yld i _ H2 y H3 I2 M2 hg2 s2.good x2 y2 hy
      have s3 := s2.step g3 f3
      have h3 := f3.kept A _ h2 m2
      obtain ⟨n3, m3⟩ := f3.apart A _ h2 n2 m2
      rw [List.drop_eq_getElem_cons hlt] at k2
      unfold dcL2 at k2
      obtain ⟨ρ1, eg, k2⟩ := k2
      have sw : SR X.K G ⟨I3, M2, H3⟩ (wipe σ (own.map (·.2))) H3 (wipeD ρ (own.map (·.2))) M2 I3 := (s3.env' (wipe_rep s3.env)).here
      refine (hg X.s_0 H 0 [] []).2 ⟨I3, M2, H3⟩ ds[i] y _ _ _ ρ1 M2 I3 _ sw r3 eg fun τ hτ s1 => ⟨hτ.trans wipe_wipe, ?_⟩
      refine ⟨⟨I3, M2, H3⟩, ρ1, M2, I3, _, s1, k2, fun es M4 H4 I4 L k4 x4 s4 wkb => ?_⟩
      obtain ⟨hlen, k4⟩ := k4
      have h4 := s4.frm.kept A _ h3 m3
      obtain ⟨n4, m4⟩ := s4.frm.apart A _ h3 n3 m3
      have sB4 : SR X.K G B τ H4 ρ1 M4 I4 := (s3.step s4.good s4.frm).env' s4.env
      have xx : Ext I' I4 := x2.trans (f3.ext.trans x4)
      refine ⟨fun j k HH => k = es.length - j ∧ j ≤ es.length ∧ ∃ ac vv M5 I5, Ext I4 I5 ∧ Lk M4 M5 ∧ SR X.K G B τ HH ρ1 M5 I5 ∧ I5 A = none ∧ M5 A = none ∧ HH A = some (.dK vv) ∧ RepK X.K G I5 ac vv ∧ ac.length ≤ acc.length + j ∧
        dcL gj none tk tv (wipeD ρ1 vj) (es.drop j) ac M5 fun ac M6 => dcL2 g gj tj tk tv vj (wipeD ρ (own.map (·.2))) (ds.drop (i + 1)) ac M6 fun ac M7 => K1 (.dct ac) M7, ⟨es.length, by simp, Nat.zero_le _, acc, vs, M4, I4, .refl _, .refl _, sB4, n4, m4, h4, r2.ext (f3.ext.trans x4), Nat.le_refl _, k4⟩, ?_⟩
      rintro j k HH ⟨rfl, hj2, ac, vv, M5, I5, x5, y5, s5, n5, m5, h5, r5, l5, k5⟩
      by_cases jlt : j < es.length
      · have hg5 : es[j]? = some es[j] := by simp [jlt]
        refine .inr ⟨wkb.go j _ HH I5 M5 hg5 s5.good x5 y5, fun H6 => ∃ ac vv M5 I5, Ext I4 I5 ∧ Lk M4 M5 ∧ SR X.K G B τ H6 ρ1 M5 I5 ∧ I5 A = none ∧ M5 A = none ∧ H6 A = some (.dK vv) ∧ RepK X.K G I5 ac vv ∧ ac.length ≤ acc.length + (j + 1) ∧
          dcL gj none tk tv (wipeD ρ1 vj) (es.drop (j + 1)) ac M5 fun ac M6 => dcL2 g gj tj tk tv vj (wipeD ρ (own.map (·.2))) (ds.drop (i + 1)) ac M6 fun ac M7 => K1 (.dct ac) M7, fun H6 q => ⟨es.length - (j + 1), by omega, rfl, jlt, q⟩, fun z H6 hz => ?_⟩
        obtain ⟨I6, g6, f6, r6⟩ := wkb.yld j _ HH z H6 I5 M5 hg5 s5.good x5 y5 hz
        have s6 := s5.step g6 f6
        have h6 := f6.kept A _ h5 m5
        obtain ⟨n6, m6⟩ := f6.apart A _ h5 n5 m5
        rw [List.drop_eq_getElem_cons jlt] at k5
        unfold dcL at k5
        obtain ⟨ρ2, eg2, k5⟩ := k5
        have sw2 : SR X.K G ⟨I6, M5, H6⟩ (wipe τ vj) H6 (wipeD ρ1 vj) M5 I6 := (s6.env' (wipe_rep s6.env)).here
        refine (hh X.s_0 H 0 [] []).2 ⟨I6, M5, H6⟩ es[j] z _ _ _ ρ2 M5 I6 _ sw2 r6 eg2 fun υ hυ s7 => ⟨hυ.trans wipe_wipe, ?_⟩
        refine ⟨⟨I6, M5, H6⟩, ρ2, M5, I6, _, _, s7, k5, fun d M8 v H8 I8 k8 x8 s8 r8 => ?_, no_er⟩
        obtain ⟨ky, hky, k8⟩ := k8
        have h8 := s8.frm.kept A _ h6 m6
        obtain ⟨n8, m8⟩ := s8.frm.apart A _ h6 n6 m6
        refine ⟨⟨I8, M8, H8⟩, ρ2, M8, I8, _, _, s8.here, k8, fun d9 M9 v9 H9 I9 k9 x9 s9 r9 => ?_, no_er⟩
        have h9 := s9.frm.kept A _ h8 m8
        obtain ⟨n9, m9⟩ := s9.frm.apart A _ h8 n8 m8
        have x59 : Ext I5 I9 := (f6.ext.trans x8).trans x9
        refine ⟨vv, ky, key_ok hky r8, h9, by rw [r5.length]; have := sizeLine_eq; omega, putKD ky d9 ac, putK vv ky v9, M9, I9, x5.trans x59, y5.trans (s8.frm.lok.trans s9.frm.lok), ?_, n9, m9, upd_same, (r5.ext x59).put r9, ?_, k9⟩
        · have sB : SR X.K G B τ H9 ρ1 M9 I9 := (s6.step s8.good s8.frm).step s9.good s9.frm
          exact sB.setH n9 m9 nB
        · have := putKD_len (k := ky) (d := d9) (kds := ac)
          omega
      · have ej : j = es.length := by omega
        subst ej
        rw [List.drop_length] at k5
        refine .inl ⟨wkb.stop _ _ _ s5.good x5 y5, ac, vv, M5, I5, xx.trans x5, (y2.trans s4.frm.lok).trans y5, s5.env' (s2.env.ext ((f3.ext.trans x4).trans x5)), n5, m5, h5, r5, k5⟩
    · have ei : i = ds.length := by omega
      subst ei
      rw [List.drop_length] at k2
      exact .inl ⟨wk.stop _ _ _ s2.good x2 y2, A, acc, vs, M2, I2, rfl, h2, e.trans x2, s2, n2, m2, nB, r2, k2⟩
  · obtain ⟨A, kds, kvs, M2, I2, eA, hA, xI, sr, n2, m2, nB, r2, k2⟩ := q
    cases eA
    obtain ⟨od, I3⟩ := I'.lock hA True.intro
    obtain ⟨sf, xf⟩ := sr.take (o := .frz od (.dK kvs)) n2 m2 nB (.inr (.inr (.inr (.inr ⟨_, _, rfl⟩))))
    have ne : C ≠ D := fun z => by have := f.1; rw [z, hA] at this; cases this
    refine hRR D C s' m _ I3 (fin _ _ _ _ _ k2 (xI.trans xf) sf (by unfold Rep; exact ⟨D, od, kvs, rfl, upd_same, r2.ext xf⟩)) hn ⟨?_, f.2⟩
    rw [upd_ne ne]
    exact f.1
theorem pd_d2 {kx vx ta ia tb ib : Expr} {sc : Scope} {own : List (Str × Nat)} {pos : Pos} {ti tj : TDs} {vs vj : List Nat} {g gj : D → Slots → Option Slots} {gv gw : TG} {tk tv : TD} (hc : X.calm = true) (hN : X.N.Nodup) (hi : PId X G B W ta ia ti) (ok : BlkOk X.N X.env.scope sc own) (hv : own.map (·.2) = vs) (hvj : ∀ i ∈ vj, i ∈ vs)
    (hg : ∀ s H C cl fp, PGw (CxB X sc s H C cl fp) G ta vs g gv) (hj : ∀ s H C cl fp B, PId (CxB X sc s H C cl fp) G B noW tb ib tj) (hh : ∀ s H C cl fp, PGw (CxB X sc s H C cl fp) G tb vj gj gw)
    (hk : ∀ s H C cl fp B, PE (CxB X sc s H C cl fp) kx (TEx X.K G B noW tk)) (he : ∀ s H C cl fp B, PE (CxB X sc s H C cl fp) vx (TEx X.K G B noW tv)) (fa : ∀ x, foldedSetIterable ia X.env x = pure x) (fb : ∀ e x, foldedSetIterable ib e x = pure x) :
    PE X (dx2 kx vx ta ia tb ib sc pos) (TEx X.K G B W (dc2T ti g tj gj tk tv vs vj)) := by
  subst hv
  refine ⟨fun pins s σ H Q I h => ?_⟩
  rw [arm_eval_DictComp]
  refine d2_lock hc hN I hi ok hvj hg hj hh hk he fa fb h fun D C s' m H' I' q hn f => ⟨m, hn, fun h'' sb => ?_⟩
  obtain ⟨f0, f1, f2, f3, f4, f5⟩ := f
  exact ⟨.ref D, H', I'.turned (t' := s'.toks) (fun b o hb e => (sb.2 b hb).trans e) f0 f1 f3 f4 f5, rfl, q⟩
end
end PyD
set_option Elab.async false
set_option linter.all false
set_option autoImplicit false
set_option maxRecDepth 100000
set_option maxHeartbeats 4000000
/-! # More built-in functions over trees -/
namespace PyD
open PySem PySem.Spec L2

/-- a key as a datum -/
def kD : Key → D
  | .inl i => .int i
  | .inr x => .str x
def mergeKD (kds more : List (Key × D)) : List (Key × D) := more.foldl (fun acc kv => putKD kv.1 kv.2 acc) kds
def dropKD (kds : List (Key × D)) (k : Key) : List (Key × D) := kds.filter fun kv => decide (kv.1 ≠ k)
section
variable {K : PySem.W.Frag} {G : Gam} {I : Hp}
theorem rep_key (k : Key) : Rep K G I (kD k) (kV k) := by
  cases k with
  | inl i => exact rep_int
  | inr x => exact rep_str
theorem reps_lit {α : Type} {f : α → D} {g : α → V} (h : ∀ a v, Rep K G I (f a) v → v = g a) : ∀ {xs : List α} {vs : List V}, Reps K G I (xs.map f) vs → vs = xs.map g
  | [], vs, r => by unfold Reps at r; exact r
  | x :: xs, vs, r => by
    rw [List.map_cons] at r
    unfold Reps at r
    obtain ⟨v, t, rfl, h1, h2⟩ := r
    rw [h x v h1, reps_lit h h2, List.map_cons]
theorem reps_bls {bs : List Bool} {vs : List V} (r : Reps K G I (bs.map D.bl) vs) : vs = bs.map V.bl := reps_lit (fun a v h => by unfold Rep at h; exact h) r
theorem reps_ints {ns : List Int} {vs : List V} (r : Reps K G I (ns.map D.int) vs) : vs = ns.map V.int := reps_lit (fun a v h => by unfold Rep at h; exact h) r
theorem reps_strs {xs : List Str} {vs : List V} (r : Reps K G I (xs.map D.str) vs) : vs = xs.map V.str := reps_lit (fun a v h => by unfold Rep at h; exact h) r
theorem Reps.strs : ∀ (xs : List Str), Reps K G I (xs.map D.str) (xs.map V.str)
  | [] => .nil
  | n :: ns => .cons rep_str (Reps.strs ns)
theorem Reps.keys : ∀ (kds : List (Key × D)) {kvs : List (Key × V)}, RepK K G I kds kvs → Reps K G I (kds.map fun p => kD p.1) (kvs.map fun p => kV p.1)
  | [], kvs, h => by unfold RepK at h; subst h; exact .nil
  | (k, d) :: r, kvs, h => by
    unfold RepK at h
    obtain ⟨v, t, rfl, h1, h2⟩ := h
    exact .cons (rep_key k) (Reps.keys r h2)
theorem RepK.nil : RepK K G I [] [] := by unfold RepK; rfl
theorem RepK.merge : ∀ {more : List (Key × D)} {moreV : List (Key × V)} {kds : List (Key × D)} {kvs : List (Key × V)}, RepK K G I kds kvs → RepK K G I more moreV → RepK K G I (mergeKD kds more) (mergeK kvs moreV)
  | [], mv, kds, kvs, h, m => by unfold RepK at m; subst m; exact h
  | (k, d) :: r, mv, kds, kvs, h, m => by
    unfold RepK at m
    obtain ⟨v, t, rfl, h1, h2⟩ := m
    show RepK K G I (mergeKD (putKD k d kds) r) (mergeK (putK kvs k v) t)
    exact RepK.merge (h.put h1) h2
theorem RepK.drop {k : Key} : ∀ {kds : List (Key × D)} {kvs : List (Key × V)}, RepK K G I kds kvs → RepK K G I (dropKD kds k) (dropK kvs k)
  | [], kvs, h => by unfold RepK at h; subst h; exact RepK.nil
  | (j, x) :: r, kvs, h => by
    unfold RepK at h
    obtain ⟨y, t, rfl, h1, h2⟩ := h
    have ih := h2.drop (k := k)
    unfold dropKD dropK at ih ⊢
    by_cases c : j = k
    · simpa [List.filter_cons, c] using ih
    · simp only [List.filter_cons, ne_eq, c, not_false_eq_true, decide_true, if_true]
      unfold RepK
      exact ⟨y, _, rfl, h1, ih⟩
end
/-- a dict, as it stands -/
def dctX (d : D) (M : Mst) (P : List (Key × D) → Prop) : Prop := match d with
  | .dct kds => P kds
  | .loc a => ∃ kds, Dat M a kds ∧ P kds
  | _ => False
/-- pairs as data -/
def pairD (p : Key × D) : D := .tup [kD p.1, p.2]
inductive Blx where
  | all | any | sum | minl | maxl | sorted | tuple | dict | mdict | keys
  deriving DecidableEq
def Blx.nm : Blx → Str
  | .all => "all" | .any => "any" | .sum => "sum" | .minl => "min" | .maxl => "max" | .sorted => "sorted" | .tuple => "tuple" | .dict => "dict" | .mdict => "dict" | .keys => "list"
def Blx.val : Blx → Value
  | .all => .builtin "all" | .any => .builtin "any" | .sum => .builtin "sum" | .minl => .builtin "min" | .maxl => .builtin "max" | .sorted => .builtin "sorted" | .tuple => .type "tuple" | .dict => .type "dict" | .mdict => .type "dict" | .keys => .type "list"
theorem Blx.boot (b : Blx) : bootBuiltins b.nm = some b.val := by cases b <;> rfl
theorem Blx.ne (b : Blx) : b.nm ≠ "__name__" := by cases b <;> decide
theorem Blx.nd (b : Blx) : (b.nm == ("__debug__" : Str)) = false := by cases b <;> decide
section
def blxD (b : Blx) (d : D) : TD := fun ρ M K E => match b with
  | .all => (match d with
    | .lst xs => ∃ bs : List Bool, xs = bs.map D.bl ∧ K (.bl (bs.all id)) M
    | _ => False)
  | .any => (match d with
    | .lst xs => ∃ bs : List Bool, xs = bs.map D.bl ∧ K (.bl (bs.any id)) M
    | _ => False)
  | .sum => (match d with
    | .lst xs => ∃ ns : List Int, xs = ns.map D.int ∧ K (.int ns.sum) M
    | _ => False)
  | .minl => (match d with
    | .lst xs => ∃ ns : List Int, xs = ns.map D.int ∧ 0 < ns.length ∧ ∀ m, m ∈ ns → (∀ y, y ∈ ns → m ≤ y) → K (.int m) M
    | _ => False)
  | .maxl => (match d with
    | .lst xs => ∃ ns : List Int, xs = ns.map D.int ∧ 0 < ns.length ∧ ∀ m, m ∈ ns → (∀ y, y ∈ ns → y ≤ m) → K (.int m) M
    | _ => False)
  | .sorted => (match d with
    | .lst xs => ∃ ss : List Str, xs = ss.map D.str ∧ ss.length < 64 ∧ ∀ ys : List Str, ys.Perm ss → PyProof.Rows.sortedS ys = true → K (.lst (ys.map D.str)) M
    | _ => False)
  | .tuple => (match d with
    | .lst xs => K (.tup xs) M
    | .tup xs => K (.tup xs) M
    | _ => False)
  | .dict => (match d with
    | .lst xs => ∃ kds : List (Key × D), xs = kds.map pairD ∧ K (.dct (mergeKD [] kds)) M
    | _ => dctX d M fun kds => K (.dct kds) M)
  | .mdict => (match d with
    | .lst xs => ∃ kds : List (Key × D), xs = kds.map pairD ∧ ∀ a, M a = none → K (.loc a) (updM M a (.dct (mergeKD [] kds)))
    | _ => dctX d M fun kds => ∀ a, M a = none → K (.loc a) (updM M a (.dct kds)))
  | .keys => dctX d M fun kds => K (.lst (kds.map fun p => kD p.1)) M
end
section
variable {X : Cx} {G : Gam} {B : Bs} {W : WX}
theorem dctX_ok {K : PySem.W.Frag} {I H : Hp} {M : Mst} {d : D} {x : V} {P : List (Key × D) → Prop} (g : Good K G I M H) (r : Rep K G I d x) (h : dctX d M P) : ∃ a kds kvs, x = .ref a ∧ Rd H a (.dK kvs) ∧ RepK K G I kds kvs ∧ P kds := by
  unfold dctX at h
  split at h
  · unfold Rep at r
    obtain ⟨a, ob, kvs, rfl, h1, h2⟩ := r
    exact ⟨a, _, kvs, rfl, g.sub.dK h1, h2, h⟩
  · rename_i a
    obtain ⟨kds, hm, h⟩ := h
    unfold Rep at r
    rcases hm with hm | ⟨ob, vs, hm⟩
    · obtain ⟨_, o, h1, kvs, rfl, h2⟩ := g.mst a _ hm
      exact ⟨a, kds, kvs, r, .inl h1, h2, h⟩
    · obtain ⟨_, o, h1, rfl, h2⟩ := g.mst a _ hm
      exact ⟨a, kds, vs, r, .inr ⟨ob, h1⟩, h2, h⟩
  · exact h.elim
/-- a new dict, locked at once -/
theorem new_dct {pins : List (Addr × Obj)} {s' : Shared} {σ : L2.St} {H : Hp} {Q : VK} {ρ : Slots} {M : Mst} {J : Hp} {K1 : KD} {p : Addr} {kds : List (Key × D)} {kvs : List (Key × V)} (I : L2.Inv X pins σ (upd H p (.dK kvs)) s') (np : H p = none) (sr : SR X.K G B σ H ρ M J) (rk : RepK X.K G J kds kvs) (k : K1 (.dct kds) M) (ok : OkC X.K G B σ ρ J K1 Q) :
    EP X pins σ Q (.ref p) s' := by
  obtain ⟨od, I2⟩ := I.lock upd_same True.intro
  rw [upd_upd] at I2
  have g := sr.good.addI (o := .frz od (.dK kvs)) np (.inr (.inr (.inr (.inr ⟨_, _, rfl⟩))))
  have f := sr.good.addI_frm (o := .frz od (.dK kvs)) np
  exact ⟨.ref p, _, I2, rfl, ok _ _ _ _ _ k f.ext (sr.step g f) (by unfold Rep; exact ⟨p, od, kvs, rfl, upd_same, rk.ext f.ext⟩)⟩
/-- a new dict that will change -/
theorem new_mdct {pins : List (Addr × Obj)} {s' : Shared} {σ : L2.St} {H : Hp} {Q : VK} {ρ : Slots} {M : Mst} {J : Hp} {K1 : KD} {p : Addr} {kds : List (Key × D)} {kvs : List (Key × V)} (I : L2.Inv X pins σ (upd H p (.dK kvs)) s') (np : H p = none) (sr : SR X.K G B σ H ρ M J) (rk : RepK X.K G J kds kvs) (k : ∀ a, M a = none → K1 (.loc a) (updM M a (.dct kds))) (ok : OkC X.K G B σ ρ J K1 Q) :
    EP X pins σ Q (.ref p) s' := by
  refine ⟨.ref p, _, I, rfl, ok _ _ _ _ J (k p (sr.good.freeM np)) (.refl J) (sr.step (sr.good.addM np ?_) (sr.good.addM_frm np)) (by unfold Rep; rfl)⟩
  unfold MRep
  exact ⟨kvs, rfl, rk⟩
theorem new_lst {H : Hp} {Q : VK} {σ : L2.St} {ρ : Slots} {M : Mst} {J : Hp} {K1 : KD} {p : Addr} {ds : List D} {vs : List V} (np : H p = none) (sr : SR X.K G B σ H ρ M J) (rk : Reps X.K G J ds vs) (k : K1 (.lst ds) M) (ok : OkC X.K G B σ ρ J K1 Q) : Q (.ref p) (upd H p (.lst vs)) :=
  ok _ _ _ _ _ k (sr.good.addI_frm np).ext (sr.step (sr.good.addI np (.inl ⟨_, rfl⟩)) (sr.good.addI_frm np)) (by
    unfold Rep; exact ⟨p, vs, rfl, .of upd_same, rk.ext (sr.good.addI_frm (o := .lst vs) np).ext⟩)
theorem new_tup {H : Hp} {Q : VK} {σ : L2.St} {ρ : Slots} {M : Mst} {J : Hp} {K1 : KD} {p : Addr} {ds : List D} {vs : List V} (np : H p = none) (sr : SR X.K G B σ H ρ M J) (rk : Reps X.K G J ds vs) (k : K1 (.tup ds) M) (ok : OkC X.K G B σ ρ J K1 Q) : Q (.ref p) (upd H p (.tup vs)) :=
  ok _ _ _ _ _ k (sr.good.addI_frm np).ext (sr.step (sr.good.addI np (.inr (.inl ⟨_, rfl⟩))) (sr.good.addI_frm np)) (by
    unfold Rep; exact ⟨p, vs, rfl, .of upd_same, rk.ext (sr.good.addI_frm (o := .tup vs) np).ext⟩)
theorem pairs_rep {K : PySem.W.Frag} {I H : Hp} (sb : Sub I H) : ∀ {kds : List (Key × D)} {vs : List V}, Reps K G I (kds.map pairD) vs → ∃ (ps : List Addr) (kvs : List (Key × V)), vs = ps.map V.ref ∧ Paired (fun p kv => SqT K H p [kV kv.1, kv.2]) ps kvs ∧ RepK K G I kds kvs
  | [], vs, r => by
    unfold Reps at r
    exact ⟨[], [], r, .nil, RepK.nil⟩
  | (k, d) :: kds, vs, r => by
    rw [List.map_cons] at r
    unfold Reps at r
    obtain ⟨v, t, rfl, h1, h2⟩ := r
    obtain ⟨ps, kvs, rfl, h3, h4⟩ := pairs_rep sb h2
    unfold pairD Rep at h1
    obtain ⟨a, ws, rfl, hs, hr⟩ := h1
    obtain ⟨x, y, rfl, r1, r2⟩ := reps2 hr
    have ek : x = kV k := by
      cases k with
      | inl i => unfold kD Rep at r1; exact r1
      | inr i => unfold kD Rep at r1; exact r1
    subst ek
    refine ⟨a :: ps, (k, y) :: kvs, rfl, .cons (sb.sqt hs) h3, ?_⟩
    unfold RepK
    exact ⟨y, kvs, rfl, r2, h4⟩
theorem op1_blx (hc : X.calm = true) (b : Blx) : ∀ pins s σ H Q x v, L2.Inv X pins σ H s → RelV x v → TEd X.K G B W (blxD b) x σ H Q → wpAny (model X.prog X.w) X.A (PySem.call b.val [v]) (EP X pins σ Q) X.xe s := by
  rintro pins s σ H Q x v I rv ⟨ρ, M, J, K1, E1, d, sr, r, t, ok, er⟩
  have rs : Vals [x] [v] := .cons rv .nil
  have lst : ∀ {xs : List D}, Rep X.K G J (.lst xs) x → ∃ a vs, x = .ref a ∧ SqL X.K H a vs ∧ Reps X.K G J xs vs := by
    intro xs r
    unfold Rep at r
    obtain ⟨a, vs, rfl, h1, h2⟩ := r
    exact ⟨a, vs, rfl, sr.good.sub.sql h1, h2⟩
  cases b <;> unfold blxD at t <;> dsimp only at t
  · split at t
    · obtain ⟨bs, rfl, t⟩ := t
      obtain ⟨a, vs, rfl, h1, h2⟩ := lst r
      obtain rfl := reps_bls h2
      exact cr_all hc pins s σ H _ _ Q I rs ⟨a, bs, rfl, h1, fin_ok sr ok rep_bl t⟩
    · exact t.elim
  · split at t
    · obtain ⟨bs, rfl, t⟩ := t
      obtain ⟨a, vs, rfl, h1, h2⟩ := lst r
      obtain rfl := reps_bls h2
      exact cr_any hc pins s σ H _ _ Q I rs ⟨a, bs, rfl, h1, fin_ok sr ok rep_bl t⟩
    · exact t.elim
  · split at t
    · obtain ⟨ns, rfl, t⟩ := t
      obtain ⟨a, vs, rfl, h1, h2⟩ := lst r
      obtain rfl := reps_ints h2
      exact cr_sum hc pins s σ H _ _ Q I rs ⟨a, ns, rfl, h1, fin_ok sr ok rep_int t⟩
    · exact t.elim
  · split at t
    · obtain ⟨ns, rfl, hn, t⟩ := t
      obtain ⟨a, vs, rfl, h1, h2⟩ := lst r
      obtain rfl := reps_ints h2
      exact cr_min hc pins s σ H _ _ Q I rs ⟨a, ns, rfl, h1, hn, fun m h3 h4 => fin_ok sr ok rep_int (t m h3 h4)⟩
    · exact t.elim
  · split at t
    · obtain ⟨ns, rfl, hn, t⟩ := t
      obtain ⟨a, vs, rfl, h1, h2⟩ := lst r
      obtain rfl := reps_ints h2
      exact cr_max hc pins s σ H _ _ Q I rs ⟨a, ns, rfl, h1, hn, fun m h3 h4 => fin_ok sr ok rep_int (t m h3 h4)⟩
    · exact t.elim
  · split at t
    · obtain ⟨ss, rfl, hn, t⟩ := t
      obtain ⟨a, vs, rfl, h1, h2⟩ := lst r
      obtain rfl := reps_strs h2
      exact cr_sortedS pins s σ H _ _ Q I rs ⟨a, ss, rfl, h1, hn, fun ys p h3 h4 np => new_lst np sr (Reps.strs ys) (t ys h3 h4) ok⟩
    · exact t.elim
  · split at t
    · obtain ⟨a, vs, rfl, h1, h2⟩ := lst r
      exact call_tuple_of pins s σ H _ _ Q I rs ⟨a, vs, rfl, .inl ⟨h1, fun p np => new_tup np sr h2 t ok⟩⟩
    · have r0 := r
      unfold Rep at r
      obtain ⟨a, vs, rfl, h1, h2⟩ := r
      exact call_tuple_of pins s σ H _ _ Q I rs ⟨a, vs, rfl, .inr ⟨sr.good.sub.sqt h1, fin_ok sr ok r0 t⟩⟩
    · exact t.elim
  · split at t
    · obtain ⟨kds, rfl, t⟩ := t
      obtain ⟨a, vs, rfl, h1, h2⟩ := lst r
      obtain ⟨ps, kvs, rfl, h3, h4⟩ := pairs_rep sr.good.sub h2
      refine thn (call_dictP hc pins s σ H _ _ (fun v H' => ∃ p, v = .ref p ∧ H p = none ∧ H' = upd H p (.dK (mergeK [] kvs))) I rs ⟨a, ps, kvs, rfl, h1, h3, fun p np => ⟨p, rfl, np, rfl⟩⟩) fun u s' ⟨z, H', I', rz, p, e, np, eH⟩ => ?_
      subst e eH
      obtain rfl : u = Value.ref p := rz
      exact new_dct I' np sr (RepK.nil.merge h4) t ok
    · obtain ⟨a, kds, kvs, rfl, h1, h2, t⟩ := dctX_ok sr.good r t
      refine thn (call_dictD pins s σ H _ _ (fun v H' => ∃ p, v = .ref p ∧ H p = none ∧ H' = upd H p (.dK kvs)) I rs ⟨a, kvs, rfl, h1, fun p np => ⟨p, rfl, np, rfl⟩⟩) fun u s' ⟨z, H', I', rz, p, e, np, eH⟩ => ?_
      subst e eH
      obtain rfl : u = Value.ref p := rz
      exact new_dct I' np sr h2 t ok
  · split at t
    · obtain ⟨kds, rfl, t⟩ := t
      obtain ⟨a, vs, rfl, h1, h2⟩ := lst r
      obtain ⟨ps, kvs, rfl, h3, h4⟩ := pairs_rep sr.good.sub h2
      refine thn (call_dictP hc pins s σ H _ _ (fun v H' => ∃ p, v = .ref p ∧ H p = none ∧ H' = upd H p (.dK (mergeK [] kvs))) I rs ⟨a, ps, kvs, rfl, h1, h3, fun p np => ⟨p, rfl, np, rfl⟩⟩) fun u s' ⟨z, H', I', rz, p, e, np, eH⟩ => ?_
      subst e eH
      obtain rfl : u = Value.ref p := rz
      exact new_mdct I' np sr (RepK.nil.merge h4) t ok
    · obtain ⟨a, kds, kvs, rfl, h1, h2, t⟩ := dctX_ok sr.good r t
      refine thn (call_dictD pins s σ H _ _ (fun v H' => ∃ p, v = .ref p ∧ H p = none ∧ H' = upd H p (.dK kvs)) I rs ⟨a, kvs, rfl, h1, fun p np => ⟨p, rfl, np, rfl⟩⟩) fun u s' ⟨z, H', I', rz, p, e, np, eH⟩ => ?_
      subst e eH
      obtain rfl : u = Value.ref p := rz
      exact new_mdct I' np sr h2 t ok
  · obtain ⟨a, kds, kvs, rfl, h1, h2, t⟩ := dctX_ok sr.good r t
    exact call_listD hc pins s σ H _ _ Q I rs ⟨a, kvs, rfl, h1, fun p np => new_lst np sr (Reps.keys kds h2) t ok⟩
end
end PyD
set_option Elab.async false
set_option linter.all false
set_option autoImplicit false
set_option maxRecDepth 100000
set_option maxHeartbeats 4000000
/-! # Subscripts, membership, dicts compared -/
namespace PyD
open PySem PySem.Spec L2

/-- o[i] of any kind -/
def subX (G : Gam) (Γ : Nat → SpD) (d i : D) : TD := fun ρ M K E => match d with
  | .str z => (match i with
    | .int n => z.length ≤ 1000000 ∧ ∃ c, atI z.cps.toList n = some c ∧ K (.str ⟨#[c]⟩) M
    | _ => False)
  | .dct kds => ∃ k e, keyD i = some k ∧ valD kds k = some e ∧ K e M
  | .obj c fs => ownD G Γ 23 (.obj c fs) [i] ρ M K E
  | .loc a => (match i with
    | .str x => ∃ kds e, Dat M a kds ∧ valD kds (.inr x) = some e ∧ K e M
    | _ => subD d i ρ M K E)
  | _ => subD d i ρ M K E
/-- own o[i] of an instance that changes -/
def subO (G : Gam) (Γ : Nat → SpD) (d i : D) : TD := ownD G Γ 23 d [i]
/-- x in y -/
def inX (G : Gam) (Γ : Nat → SpD) (neg : Bool) (d e : D) : TD := fun ρ M K E => match e with
  | .str z => (match d with
    | .str x => ∃ c, x = ⟨#[c]⟩ ∧ K (.bl (if neg then !decide (c ∈ z.cps.toList) else decide (c ∈ z.cps.toList))) M
    | _ => False)
  | .obj c fs => ownD G Γ 22 (.obj c fs) [d] ρ M (fun r M' => match r with
    | .bl z => K (.bl (if neg then !z else z)) M'
    | _ => False) E
  | .lst xs => ∃ (x : Str) (ys : List Str), d = .str x ∧ xs = ys.map D.str ∧ K (.bl (if neg then !ys.contains x else ys.contains x)) M
  | _ => dctX e M fun kds => ∃ k, keyD d = some k ∧ K (.bl (if neg then !(valD kds k).isSome else (valD kds k).isSome)) M
/-- dicts of ints as pairs -/
def mkI (p : Key × Int) : Key × D := (p.1, .int p.2)
def valI (li : List (Key × Int)) (k : Key) : Option Int := (li.find? fun kv => decide (kv.1 = k)).map (·.2)
def eqI (ki li : List (Key × Int)) : Bool := ki.length == li.length && ki.all fun p => valI li p.1 == some p.2
/-- two dicts of ints -/
def eqdX (neg : Bool) (d e : D) : TD := fun _ M K _ => dctX d M fun ks => dctX e M fun ls => ∃ ki li, ks = ki.map mkI ∧ ls = li.map mkI ∧ K (.bl (if neg then !eqI ki li else eqI ki li)) M
section
variable {X : Cx} {G : Gam} {B : Bs} {W : WX} {Γ : Nat → SpD} {kx : Nat}
theorem ix_dict (hu : X.A.units + 1 < cLine) : IxR X (fun x y H Q => ∃ a v, x = .ref a ∧ DGet H a y (some v) ∧ Q v H) := by
  intro value slice pins s σ H x y v u Q I rx ry h hs
  obtain ⟨a, z, rfl, g, q⟩ := h
  obtain rfl : v = Value.ref a := rx
  have hT := dict_typeIs I g
  unfold PyProof.Rows.subscriptTail
  refine wpAny_bind ?_
  rw [getitemInPython_of_ne hT.not_modules]
  refine wpAny_bind (wpAny_specialOf hT PySem.F.slot_dict_getitem.lookup ?_)
  have fin : wpAny (model X.prog X.w) X.A (subscripted slice false (.ref a) u) (fun r s₃ => wpAny (model X.prog X.w) X.A (letTemporaryGo value (.ref a) r >>= fun _ => pure r) (EP X pins σ Q) X.xe s₃) X.xe s := by
    rw [hs]
    exact wpAny_operating (wpAny_mono (d_getItem hu I g ry (Q := EP X pins σ Q) fun w' s3 I3 rw' => ⟨z, H, I3, rw', q⟩) (fun r s₃ h₃ => wpAny_bind (wpAny_letTemporaryGo (wpAny_pure h₃))) fun _ _ x => x)
  first
    | exact wpAny_pure (wpAny_bind fin)
    | exact wpAny_bind (wpAny_pure (wpAny_bind fin))
    | exact wpAny_bind fin
theorem ix_true {b : Expr} (h : noSlice b = true) (o i : Value) : subscripted b true o i = runValue (.builtin "lifetime.subscript" ⟨[o, i], []⟩) := by
  cases b <;> first | rfl | cases h
theorem dget_of {K : PySem.W.Frag} {I H : Hp} {a : Addr} {kds : List (Key × D)} {kvs : List (Key × V)} {k : Key} {e : D} (h : Rd H a (.dK kvs)) (r : RepK K G I kds kvs) (hv : valD kds k = some e) : ∃ v, DGet H a (kV k) (some v) ∧ Rep K G I e v := by
  rcases r.val (k := k) with ⟨e1, _⟩ | ⟨d, v, e1, e2, e3⟩
  · rw [hv] at e1; cases e1
  · rw [hv] at e1; cases e1
    exact ⟨v, .inl ⟨kvs, k, h, rfl, e2.symm⟩, e3⟩
theorem units1 (c : Ctx X G W Γ kx) : X.A.units + 1 < cLine := by have := c.room.units; omega
theorem pd_subX (c : Ctx X G W Γ kx) {a b : Expr} {ta tb : TD} {pos : Pos} (ha : PE X a (TEx X.K G B W ta)) (hb : PE X b (TEx X.K G B W tb)) (hs : noSlice b = true) : PE X (.Subscript a b pos) (TEx X.K G B W (bind2 ta tb (subX G Γ))) := by
  refine ⟨fun pins s σ H Q I h => PyProof.Rows.Subscript_ (L2.bin ha hb I (tex_bind2 h) fun v u s2 x y H2 I2 rx ry q => ?_)⟩
  obtain ⟨ρ, M, J, K1, E1, d, e, sr, r1, r2, t, ok, er⟩ := q
  have plain : subD d e ρ M K1 E1 → wpAny (model X.prog X.w) X.A (PyProof.Rows.subscriptTail a b v u) (EP X pins σ Q) X.xe s2 := by
    intro t9
    unfold subD at t9
    split at t9
    · rename_i n
      obtain ⟨ds, hd, z, hx, t8⟩ := seqX_ok t9
      obtain ⟨p, vs, rfl, h1, h2⟩ := seqD_ok sr.good r1 hd
      unfold Rep at r2
      subst r2
      obtain ⟨w, h3, h4⟩ := atI_rep h2 hx
      rcases h1 with h1 | h1
      · exact ix_list a b pins s2 σ H2 _ _ v u Q I2 rx ry ⟨p, vs, n, w, rfl, rfl, h1, h3, fin_ok sr ok h4 t8⟩ (ix_of hs _ _)
      · exact ix_tup a b pins s2 σ H2 _ _ v u Q I2 rx ry ⟨p, vs, n, w, rfl, rfl, h1, h3, fin_ok sr ok h4 t8⟩ (ix_of hs _ _)
    · exact t9.elim
  unfold subX at t
  split at t
  · rename_i z
    split at t
    · rename_i n
      obtain ⟨hz, cc, hc, t⟩ := t
      unfold Rep at r1 r2
      subst r1 r2
      exact ix_str a b pins s2 σ H2 _ _ v u Q I2 rx ry ⟨z, n, cc, rfl, rfl, line_le hz, hc, fin_ok sr ok rep_str t⟩ (ix_of hs _ _)
    · exact t.elim
  · rename_i kds
    obtain ⟨k, w, hk, hv, t⟩ := t
    unfold Rep at r1
    obtain ⟨p, ob, kvs, rfl, h1, h2⟩ := r1
    obtain rfl := key_ok hk r2
    obtain ⟨z, g, rz⟩ := dget_of (sr.good.sub.dK h1) h2 hv
    exact ix_dict (units1 c) a b pins s2 σ H2 _ _ v u Q I2 rx ry ⟨p, z, rfl, g, fin_ok sr ok rz t⟩ (ix_of hs _ _)
  · rename_i cc fs
    obtain ⟨i, h1, hks, t⟩ := ownD_at _ _ t rfl
    obtain ⟨p, dx, vfs, rfl, hA, _⟩ := instD_ok sr.good r1 rfl
    obtain rfl : v = Value.ref p := rx
    obtain ⟨_, ⟨m11, m12, m13⟩, sf⟩ := c.ops.ok.dn _ _ _ h1
    obtain ⟨od, J2⟩ := inst_at I2 hA
    obtain ⟨mf, Fr⟩ := I2.fr
    rw [show G.nm 23 = "__getitem__" from c.ops.dund 23 (by decide)] at m11
    exact PySem.W.sub_K Fr I2.mod.kin J2 m11 (c.ops.gi _ _ _ (.inl rfl) h1) m12 (own_run c ((c.room.mono (by omega) : Room (kx + 1) X.A).in1) c.guards I.ok.frames I2 sr (.cons r1 (.cons r2 .nil)) (.cons (show RelV (V.ref p) (Value.ref p) from rfl) (.cons ry .nil)) hks t ok er) (ix_true hs _ _)
  · rename_i p
    split at t
    · rename_i z
      obtain ⟨kds, w, hm, hv, t⟩ := t
      unfold Rep at r1 r2
      subst r1 r2
      obtain ⟨kvs, h1, h2⟩ : ∃ kvs, Rd H2 p (.dK kvs) ∧ RepK X.K G J kds kvs := by
        rcases hm with hm | ⟨ob, vs, hm⟩
        · obtain ⟨_, o, h1, kvs, rfl, h2⟩ := sr.good.mst p _ hm
          exact ⟨kvs, .inl h1, h2⟩
        · obtain ⟨_, o, h1, rfl, h2⟩ := sr.good.mst p _ hm
          exact ⟨vs, .inr ⟨ob, h1⟩, h2⟩
      obtain ⟨q, g, rz⟩ := dget_of h1 h2 hv
      exact ix_dict (units1 c) a b pins s2 σ H2 _ _ v u Q I2 rx ry ⟨p, q, rfl, g, fin_ok sr ok rz t⟩ (ix_of hs _ _)
    · exact plain t
  · exact plain t
theorem pd_subO (c : Ctx X G W Γ kx) {a b : Expr} {ta tb : TD} {pos : Pos} (ha : PE X a (TEx X.K G B W ta)) (hb : PE X b (TEx X.K G B W tb)) (hs : noSlice b = true) : PE X (.Subscript a b pos) (TEx X.K G B W (bind2 ta tb (subO G Γ))) := by
  refine ⟨fun pins s σ H Q I h => PyProof.Rows.Subscript_ (L2.bin ha hb I (tex_bind2 h) fun v u s2 x y H2 I2 rx ry q => ?_)⟩
  obtain ⟨ρ, M, J, K1, E1, d, e, sr, r1, r2, t, ok, er⟩ := q
  unfold subO at t
  have t' := t
  unfold ownD at t'
  obtain ⟨cc, fs, hi, _⟩ := instX_ok t'
  obtain ⟨i, h1, hks, t⟩ := ownD_at _ _ t hi
  obtain ⟨p, dx, vfs, rfl, hA, _⟩ := instD_ok sr.good r1 hi
  obtain rfl : v = Value.ref p := rx
  obtain ⟨_, ⟨m11, m12, m13⟩, sf⟩ := c.ops.ok.dn _ _ _ h1
  obtain ⟨od, J2⟩ := inst_at I2 hA
  obtain ⟨mf, Fr⟩ := I2.fr
  rw [show G.nm 23 = "__getitem__" from c.ops.dund 23 (by decide)] at m11
  exact PySem.W.sub_K Fr I2.mod.kin J2 m11 (c.ops.gi _ _ _ (.inl rfl) h1) m12 (own_run c ((c.room.mono (by omega) : Room (kx + 1) X.A).in1) c.guards I.ok.frames I2 sr (.cons r1 (.cons r2 .nil)) (.cons (show RelV (V.ref p) (Value.ref p) from rfl) (.cons ry .nil)) hks t ok er) (ix_true hs _ _)
theorem op2_in (c : Ctx X G W Γ kx) (neg : Bool) : Op2 X G B W (compareOp (if neg then .NotIn else .In)) (inX G Γ neg) := by
  rintro pins s σ H Q x y v u I rx ry ⟨ρ, M, J, K1, E1, d, e, sr, r1, r2, t, ok, er⟩
  unfold inX at t
  split at t
  · rename_i z
    split at t
    · rename_i w
      obtain ⟨cc, rfl, t⟩ := t
      unfold Rep at r1 r2
      subst r1 r2
      cases neg with
      | true => exact op_notIn_sign pins s σ H _ _ v u Q I rx ry ⟨cc, z, rfl, rfl, fin_ok sr ok rep_bl t⟩
      | false => exact op_in_sign pins s σ H _ _ v u Q I rx ry ⟨cc, z, rfl, rfl, fin_ok sr ok rep_bl t⟩
    · exact t.elim
  · rename_i cc fs
    obtain ⟨i, h1, hks, t⟩ := ownD_at _ _ t rfl
    obtain ⟨p, dx, vfs, rfl, hA, _⟩ := instD_ok sr.good r2 rfl
    obtain rfl : u = Value.ref p := ry
    obtain ⟨_, ⟨m11, m12, m13⟩, sf⟩ := c.ops.ok.dn _ _ _ h1
    obtain ⟨od, J2⟩ := inst_at I hA
    obtain ⟨mf, Fr⟩ := I.fr
    rw [show G.nm 22 = "__contains__" from c.ops.dund 22 (by decide)] at m11
    have run : wpAny (model X.prog X.w) X.A (PySem.call (.ref (G.adr i)) [.ref p, v]) (fun r s' => wpAny (model X.prog X.w) X.A (truthy r) (fun b s'' => EP X pins σ Q (.bool (if neg then !b else b)) s'') X.xe s') X.xe s := by
      refine thn (own_run c (Q := fun z H' => ∃ b M' J', z = .bl b ∧ K1 (.bl (if neg then !b else b)) M' ∧ Ext J J' ∧ SR X.K G B σ H' ρ M' J') (c.room.mono (by omega)) c.guards I.ok.frames I sr (.cons r2 (.cons r1 .nil)) (.cons (show RelV (V.ref p) (Value.ref p) from rfl) (.cons rx .nil)) hks t (fun d' M' z H' J' k x' s' r' => ?_) er) fun z s' hz => ?_
      · split at k
        · unfold Rep at r'
          exact ⟨_, M', J', r', k, x', s'⟩
        · exact k.elim
      · obtain ⟨z', H', I', rz, b, M', J', rfl, k, x', s''⟩ := hz
        obtain rfl : z = Value.bool b := rz
        exact wpAny_truthy_bool ⟨.bl _, H', I', rfl, ok _ _ _ _ _ k x' s'' rep_bl⟩
    cases neg with
    | true => exact PySem.W.notIn_K Fr I.mod.kin J2 m11 m12 run
    | false => exact PySem.W.in_K Fr I.mod.kin J2 m11 m12 run
  · rename_i xs
    obtain ⟨w, ys, rfl, rfl, t⟩ := t
    unfold Rep at r1 r2
    subst r1
    obtain ⟨a, vs, rfl, h1, h2⟩ := r2
    obtain rfl := reps_strs h2
    have fl : (ys.map V.str).all flatV = true := by simp [flatV]
    have ei : inV (V.str w) (ys.map V.str) = ys.contains w := by
      unfold inV
      rw [List.any_map, List.contains_eq_any_beq]
      congr 1
      funext y
      rw [Bool.eq_iff_iff]
      show (y == w) = true ↔ (w == y) = true
      rw [beq_iff_eq, beq_iff_eq]
      exact eq_comm
    cases neg with
    | true => exact op_notIn_seq pins s σ H _ _ v u Q I rx ry ⟨a, _, rfl, .inl (sr.good.sub.sql h1), rfl, fl, by rw [ei]; exact fin_ok sr ok rep_bl t⟩
    | false => exact op_in_seq pins s σ H _ _ v u Q I rx ry ⟨a, _, rfl, .inl (sr.good.sub.sql h1), rfl, fl, by rw [ei]; exact fin_ok sr ok rep_bl t⟩
  · obtain ⟨a, kds, kvs, rfl, h1, h2, k, hk, t⟩ := dctX_ok sr.good r2 t
    obtain rfl : u = Value.ref a := ry
    obtain rfl := key_ok hk r1
    have hv : (valV kvs k).isSome = (valD kds k).isSome := by
      rcases h2.val (k := k) with ⟨e1, e2⟩ | ⟨d, v, e1, e2, e3⟩
      · rw [e1, e2]; rfl
      · rw [e1, e2]; rfl
    have g : DGet H a (kV k) (valV kvs k) := .inl ⟨kvs, k, h1, rfl, rfl⟩
    cases neg with
    | true => exact d_notIn (units1 c) I g rx fun s' I' => ⟨.bl _, H, I', rfl, by rw [hv]; exact fin_ok sr ok rep_bl t⟩
    | false => exact d_in (units1 c) I g rx fun s' I' => ⟨.bl _, H, I', rfl, by rw [hv]; exact fin_ok sr ok rep_bl t⟩
theorem repk_ints {K : PySem.W.Frag} {I : Hp} : ∀ {ki : List (Key × Int)} {kvs : List (Key × V)}, RepK K G I (ki.map mkI) kvs → kvs = ki.map fun p => (p.1, V.int p.2)
  | [], kvs, h => by unfold RepK at h; exact h
  | (k, i) :: r, kvs, h => by
    rw [List.map_cons] at h
    unfold mkI RepK at h
    obtain ⟨v, t, rfl, h1, h2⟩ := h
    unfold Rep at h1
    subst h1
    rw [repk_ints h2]
    rfl
theorem hits_ints {A : Around} {s : Shared} {li : List (Key × Int)} {vb : List (Key × Value)} (rb : KV (li.map fun p => (p.1, V.int p.2)) vb) : ∀ {ki : List (Key × Int)} {va : List (Key × Value)}, KV (ki.map fun p => (p.1, V.int p.2)) va → PySem.W.KeqHits A s vb va (ki.all fun p => valI li p.1 == some p.2)
  | [], va, ra => by unfold KV at ra; cases ra; exact .nil
  | (k, i) :: r, va, ra => by
    unfold KV at ra
    rw [List.map_cons] at ra
    cases ra with
    | @cons _ q _ qs h t =>
      obtain ⟨k', u⟩ := q
      obtain ⟨h1, h2⟩ := h
      dsimp only at h1 h2
      subst h1
      obtain ⟨tk, rfl⟩ := h2
      have ev : valV (li.map fun p => (p.1, V.int p.2)) k = (valI li k).map V.int := by
        clear rb t
        induction li with
        | nil => rfl
        | cons p l ih =>
          rw [List.map_cons]
          by_cases c : p.1 = k
          · rw [valV_pos (p := (p.1, V.int p.2)) c]
            simp [valI, List.find?_cons, c]
          · rw [valV_neg (p := (p.1, V.int p.2)) c, ih]
            simp [valI, List.find?_cons, c]
      have rr : RelO ((valI li k).map V.int) (valueAt vb k) := by rw [← ev]; exact rb.val k
      rw [List.all_cons]
      cases hq : valI li k with
      | none =>
        rw [hq] at rr
        have z := RelO.none_of rr
        have : ((none : Option Int) == some i && r.all fun p => valI li p.1 == some p.2) = false := rfl
        rw [this]
        exact .miss z
      | some j =>
        rw [hq] at rr
        obtain ⟨y, hy, ry⟩ := rr.some_of
        obtain ⟨tj, rfl⟩ := ry
        have e : ((some j : Option Int) == some i) = (i == j) := by
          rw [Bool.eq_iff_iff]
          simp only [beq_iff_eq, Option.some.injEq]
          exact eq_comm
        rw [e]
        exact .hit hy (SeqAt.EqAt.int_int i tk j tj) (hits_ints rb t)
theorem op2_eqd (c : Ctx X G W Γ kx) (neg : Bool) : Op2 X G B W (compareOp (if neg then .NotEq else .Eq)) (eqdX neg) := by
  rintro pins s σ H Q x y v u I rx ry ⟨ρ, M, J, K1, E1, d, e, sr, r1, r2, t, ok, er⟩
  unfold eqdX at t
  obtain ⟨a, ks, kvs, rfl, h1, h2, t⟩ := dctX_ok sr.good r1 t
  obtain ⟨b, ls, lvs, rfl, h3, h4, t⟩ := dctX_ok sr.good r2 t
  obtain ⟨ki, li, rfl, rfl, t⟩ := t
  obtain rfl : v = Value.ref a := rx
  obtain rfl : u = Value.ref b := ry
  obtain rfl := repk_ints h2
  obtain rfl := repk_ints h4
  obtain ⟨_, ya, va, ra, da⟩ := dk_rd I.hok h1
  obtain ⟨_, yb, vb, rb, db⟩ := dk_rd I.hok h3
  have la : va.length = ki.length := by rw [← ra.length, List.length_map]
  have lb : vb.length = li.length := by rw [← rb.length, List.length_map]
  have hu : X.A.units < cLine := by have := c.room.units; omega
  have e : (va.length == vb.length && ki.all fun p => valI li p.1 == some p.2) = eqI ki li := by rw [la, lb]; rfl
  cases neg with
  | true => exact PySem.W.keq_ne (knd := mixKind X.prog X.w) ya yb da db hu (fun _ => hits_ints rb ra) ⟨.bl _, H, I, rfl, by rw [e]; exact fin_ok sr ok rep_bl t⟩
  | false => exact PySem.W.keq_eq (knd := mixKind X.prog X.w) ya yb da db hu (fun _ => hits_ints rb ra) ⟨.bl _, H, I, rfl, by rw [e]; exact fin_ok sr ok rep_bl t⟩
end
end PyD
set_option Elab.async false
set_option linter.all false
set_option autoImplicit false
set_option maxRecDepth 100000
set_option maxHeartbeats 4000000
/-! # What is walked -/
namespace PyD
open PySem PySem.Spec L2

theorem repk_get {K : PySem.W.Frag} {G : Gam} {I : Hp} : ∀ {kds : List (Key × D)} {kvs : List (Key × V)} {i : Nat} {k : Key} {d : D}, RepK K G I kds kvs → kds[i]? = some (k, d) → ∃ v, kvs[i]? = some (k, v) ∧ Rep K G I d v
  | [], _, _, _, _, _, e => by simp at e
  | (j, x) :: r, kvs, i, k, d, h, e => by
    unfold RepK at h
    obtain ⟨y, t, rfl, h1, h2⟩ := h
    cases i with
    | zero => simp at e; obtain ⟨rfl, rfl⟩ := e; exact ⟨y, rfl, h1⟩
    | succ i => simpa using repk_get (i := i) h2 (by simpa using e)
theorem walkL_keys {K : PySem.W.Frag} {G : Gam} {I : Hp} {M : Mst} {a : Addr} {ob : Obj} {kds : List (Key × D)} {kvs : List (Key × V)} (h : ∀ Hn I2 M2, Good K G I2 M2 Hn → Ext I I2 → Lk M M2 → Hn a = some (.frz ob (.dK kvs))) (r : RepK K G I kds kvs) : Walk K G I M (kds.map fun p => kD p.1) (Itk a ob kvs) := by
  refine ⟨fun i d Hn I2 M2 e g x lk => ?_, fun i d Hn y Hn' I2 M2 e g x lk hy => ?_, fun Hn I2 M2 g x lk => ?_⟩
  · have l := (List.getElem?_eq_some_iff.mp e).1
    rw [List.length_map] at l
    exact ⟨h _ _ _ g x lk, by rw [r.length]; exact l⟩
  · obtain ⟨rfl, k, v, hk, rfl⟩ := hy
    rw [List.getElem?_map] at e
    cases q : kds[i]? with
    | none => rw [q] at e; cases e
    | some p =>
      rw [q] at e
      cases e
      obtain ⟨k', d'⟩ := p
      obtain ⟨v', h1, _⟩ := repk_get r q
      rw [hk] at h1
      cases h1
      exact ⟨I2, g, .refl, rep_key k⟩
  · exact ⟨h _ _ _ g x lk, by rw [r.length, List.length_map]; exact Nat.le_refl _⟩
theorem walk_keys {K : PySem.W.Frag} {G : Gam} {I : Hp} {M : Mst} {a : Addr} {ob : Obj} {kds : List (Key × D)} {kvs : List (Key × V)} (h : I a = some (.frz ob (.dK kvs))) (r : RepK K G I kds kvs) : Walk K G I M (kds.map fun p => kD p.1) (Itk a ob kvs) := walkL_keys (fun _ _ _ g x _ => g.sub _ _ (x _ _ h)) r
theorem walkL_vals {K : PySem.W.Frag} {G : Gam} {I : Hp} {M : Mst} {a : Addr} {ob : Obj} {kds : List (Key × D)} {kvs : List (Key × V)} (h : ∀ Hn I2 M2, Good K G I2 M2 Hn → Ext I I2 → Lk M M2 → Hn a = some (.frz ob (.dK kvs))) (r : RepK K G I kds kvs) : Walk K G I M (kds.map fun p => p.2) (Itd a ob kvs) := by
  refine ⟨fun i d Hn I2 M2 e g x lk => ?_, fun i d Hn y Hn' I2 M2 e g x lk hy => ?_, fun Hn I2 M2 g x lk => ?_⟩
  · have l := (List.getElem?_eq_some_iff.mp e).1
    rw [List.length_map] at l
    exact ⟨h _ _ _ g x lk, by rw [r.length]; exact l⟩
  · obtain ⟨rfl, k, hk⟩ := hy
    rw [List.getElem?_map] at e
    cases q : kds[i]? with
    | none => rw [q] at e; cases e
    | some p =>
      rw [q] at e
      cases e
      obtain ⟨k', d'⟩ := p
      obtain ⟨v', h1, h2⟩ := repk_get r q
      rw [hk] at h1
      cases h1
      exact ⟨I2, g, .refl, h2.ext x⟩
  · exact ⟨h _ _ _ g x lk, by rw [r.length, List.length_map]; exact Nat.le_refl _⟩
theorem walk_vals {K : PySem.W.Frag} {G : Gam} {I : Hp} {M : Mst} {a : Addr} {ob : Obj} {kds : List (Key × D)} {kvs : List (Key × V)} (h : I a = some (.frz ob (.dK kvs))) (r : RepK K G I kds kvs) : Walk K G I M (kds.map fun p => p.2) (Itd a ob kvs) := walkL_vals (fun _ _ _ g x _ => g.sub _ _ (x _ _ h)) r
/-- a new tuple of two comes -/
theorem walk_pair {K : PySem.W.Frag} {G : Gam} {I2 : Hp} {M2 : Mst} {Hn : Hp} {T : Addr} {d e : D} {v w : V} (g : Good K G I2 M2 Hn) (nT : Hn T = none) (r1 : Rep K G I2 d v) (r2 : Rep K G I2 e w) :
    ∃ I3, Good K G I3 M2 (upd Hn T (.tup [v, w])) ∧ Frm I2 M2 Hn I3 M2 (upd Hn T (.tup [v, w])) ∧ Rep K G I3 (.tup [d, e]) (.ref T) := by
  have f := g.addI_frm (o := .tup [v, w]) nT
  refine ⟨_, g.addI nT (.inr (.inl ⟨_, rfl⟩)), f, ?_⟩
  unfold Rep
  exact ⟨T, [v, w], rfl, .of upd_same, .cons (r1.ext f.ext) (.cons (r2.ext f.ext) .nil)⟩
theorem walkL_items {K : PySem.W.Frag} {G : Gam} {I : Hp} {M : Mst} {a : Addr} {ob : Obj} {kds : List (Key × D)} {kvs : List (Key × V)} (h : ∀ Hn I2 M2, Good K G I2 M2 Hn → Ext I I2 → Lk M M2 → Hn a = some (.frz ob (.dK kvs))) (r : RepK K G I kds kvs) : Walk K G I M (kds.map pairD) (Iti a ob kvs) := by
  refine ⟨fun i d Hn I2 M2 e g x lk => ?_, fun i d Hn y Hn' I2 M2 e g x lk hy => ?_, fun Hn I2 M2 g x lk => ?_⟩
  · have l := (List.getElem?_eq_some_iff.mp e).1
    rw [List.length_map] at l
    exact ⟨h _ _ _ g x lk, by rw [r.length]; exact l⟩
  · obtain ⟨T, k, v, hk, rfl, nT, rfl⟩ := hy
    rw [List.getElem?_map] at e
    cases q : kds[i]? with
    | none => rw [q] at e; cases e
    | some p =>
      rw [q] at e
      cases e
      obtain ⟨k', d'⟩ := p
      obtain ⟨v', h1, h2⟩ := repk_get r q
      rw [hk] at h1
      cases h1
      exact walk_pair g nT (rep_key k) (h2.ext x)
  · exact ⟨h _ _ _ g x lk, by rw [r.length, List.length_map]; exact Nat.le_refl _⟩
/-- a dict that is locked for a while -/
theorem lok_at {K : PySem.W.Frag} {G : Gam} {I : Hp} {M : Mst} {H : Hp} {a : Addr} {ob : Obj} {vs : List (Key × V)} {kds : List (Key × D)} (g : Good K G I M H) (h : M a = some (.lok ob vs kds)) :
    RepK K G I kds vs ∧ H a = some (.frz ob (.dK vs)) ∧ ∀ Hn I2 M2, Good K G I2 M2 Hn → Ext I I2 → Lk M M2 → Hn a = some (.frz ob (.dK vs)) := by
  obtain ⟨_, o, h1, rfl, h2⟩ := g.mst a _ h
  refine ⟨h2, h1, fun Hn I2 M2 g2 x lk => ?_⟩
  obtain ⟨_, o, h3, rfl, _⟩ := g2.mst a _ (lk a ob vs kds h)
  exact h3
def zipDD : List D → List D → List D
  | d :: ds, e :: es => .tup [d, e] :: zipDD ds es
  | _, _ => []
theorem walk_items {K : PySem.W.Frag} {G : Gam} {I : Hp} {M : Mst} {a : Addr} {ob : Obj} {kds : List (Key × D)} {kvs : List (Key × V)} (h : I a = some (.frz ob (.dK kvs))) (r : RepK K G I kds kvs) : Walk K G I M (kds.map pairD) (Iti a ob kvs) := walkL_items (fun _ _ _ g x _ => g.sub _ _ (x _ _ h)) r
theorem zipDD_len : ∀ {ds es : List D}, (zipDD ds es).length = min ds.length es.length
  | [], _ => by simp [zipDD]
  | _ :: _, [] => by simp [zipDD]
  | d :: ds, e :: es => by simp only [zipDD, List.length_cons, zipDD_len (ds := ds)]; omega
theorem zipDD_get : ∀ {ds es : List D} {i : Nat} {x : D}, (zipDD ds es)[i]? = some x → ∃ d e, ds[i]? = some d ∧ es[i]? = some e ∧ x = .tup [d, e]
  | [], _, _, _, h => by simp [zipDD] at h
  | _ :: _, [], _, _, h => by simp [zipDD] at h
  | d :: ds, e :: es, i, x, h => by
    cases i with
    | zero => simp [zipDD] at h; exact ⟨d, e, rfl, rfl, h.symm⟩
    | succ i => simpa using zipDD_get (ds := ds) (es := es) (i := i) (by simpa [zipDD] using h)
theorem walk_zip {K : PySem.W.Frag} {G : Gam} {I : Hp} {M : Mst} {a b : Addr} {ds es : List D} {vs ws : List V} (h1 : SqL K I a vs) (h2 : SqL K I b ws) (r1 : Reps K G I ds vs) (r2 : Reps K G I es ws) : Walk K G I M (zipDD ds es) (Itz K a b) := by
  refine ⟨fun i d Hn I2 M2 e g x lk => ?_, fun i d Hn y Hn' I2 M2 e g x lk hy => ?_, fun Hn I2 M2 g x lk => ?_⟩
  · obtain ⟨p, q, e1, e2, _⟩ := zipDD_get e
    obtain ⟨v, f1, _⟩ := r1.get e1
    obtain ⟨w, f2, _⟩ := r2.get e2
    exact ⟨vs, ws, v, w, g.sub.sql (x.sql h1), g.sub.sql (x.sql h2), f1, f2⟩
  · obtain ⟨p, q, e1, e2, rfl⟩ := zipDD_get e
    obtain ⟨v, f1, g1⟩ := r1.get e1
    obtain ⟨w, f2, g2⟩ := r2.get e2
    obtain ⟨T, v', w', rfl, nT, rfl, k1, k2⟩ := hy
    have z1 := k1 vs (g.sub.sql (x.sql h1))
    have z2 := k2 ws (g.sub.sql (x.sql h2))
    rw [f1] at z1
    rw [f2] at z2
    cases z1
    cases z2
    exact walk_pair g nT (g1.ext x) (g2.ext x)
  · refine ⟨vs, ws, g.sub.sql (x.sql h1), g.sub.sql (x.sql h2), ?_⟩
    rw [zipDD_len, r1.length, r2.length]
    omega
def charsD (x : Str) : List D := x.cps.toList.map fun c => .str ⟨#[c]⟩
theorem walk_str {K : PySem.W.Frag} {G : Gam} {I : Hp} {M : Mst} (x : Str) : Walk K G I M (charsD x) (Its x) := by
  refine ⟨fun i d Hn I2 M2 e g xx lk => ?_, fun i d Hn y Hn' I2 M2 e g xx lk hy => ?_, fun Hn I2 M2 g xx lk => ?_⟩
  · have l := (List.getElem?_eq_some_iff.mp e).1
    unfold charsD at l
    rw [List.length_map] at l
    show i < x.cps.size
    simpa using l
  · obtain ⟨rfl, c, hc, rfl⟩ := hy
    unfold charsD at e
    rw [List.getElem?_map, Array.getElem?_toList, hc] at e
    cases e
    exact ⟨I2, g, .refl, rep_str⟩
  · show x.cps.size ≤ (charsD x).length
    unfold charsD
    simp
section
variable {X : Cx} {G : Gam} {B : Bs} {W : WX} {Γ : Nat → SpD} {kx : Nat}
/-- a list, a tuple, a locked dict, a text -/
def iAny (K : PySem.W.Frag) (tl : TE) : TI := fun σ H R => tl σ H fun x H1 => (∃ a, x = .ref a ∧ (((∃ xs, SqL K H1 a xs) ∧ R (Itl K a) H1) ∨ ((∃ xs, SqT K H1 a xs) ∧ R (Itt K a) H1) ∨ ∃ o kvs, H1 a = some (.frz o (.dK kvs)) ∧ R (Itk a o kvs) H1)) ∨ ∃ y, x = .str y ∧ R (Its y) H1
theorem pi_any {tg l : Expr} {tl : TE} (hl : PE X l tl) : PI X tg l (iAny X.K tl) := by
  refine ⟨fun pins s σ H R I h => ?_⟩
  refine thn (hl.run pins s σ H _ I h) fun v s1 ⟨x, H1, I1, r1, q1⟩ => ?_
  have own : ∀ b ∈ [s1.heap.objs.size], FpOk X pins H1 b := fun b hb => by
    obtain rfl := List.mem_singleton.mp hb
    exact I1.fpOk (Nat.le_refl _) (I1.hok.fresh (Nat.le_refl _))
  rcases q1 with ⟨a, rfl, q⟩ | ⟨y, rfl, q⟩
  · obtain rfl : v = Value.ref a := r1
    rcases q with ⟨⟨xs, hq⟩, q⟩ | ⟨⟨xs, hq⟩, q⟩ | ⟨o, kvs, hd, q⟩
    · obtain ⟨its, rv, p, hz⟩ := I1.list hq
      exact wpAny_pyIter_list p.isList ⟨s1.heap.objs.size, _, _, _, H1, rfl, I1.kept (t' := s1.toks) fun b o e => Heap.get?_push_of_some _ e, turn_list a _, ⟨_, Heap.get?_push_size _ rfl, rfl, rfl⟩, own, q⟩
    · obtain ⟨its, rv, p, hz⟩ := I1.tuple hq
      exact wpAny_pyIter_tuple (show s1.heap.IsTuple a its.toArray from p) ⟨s1.heap.objs.size, _, _, _, H1, rfl, I1.kept (t' := s1.toks) fun b o e => Heap.get?_push_of_some _ e, turn_tuple a _, ⟨_, Heap.get?_push_size _ rfl, rfl, rfl⟩, own, q⟩
    · obtain ⟨hs, hgd, hx, es, ep, vs, hdt, hsz, kv, hm⟩ := I1.frzK hd
      refine iter_keys hs hgd hx hdt (pi_one (tk := s1.toks) I1 _ (turn_keys _ hdt) ⟨_, Heap.get?_push_size _ rfl, rfl, ?_⟩ q)
      rw [hsz] <;> rfl
  · obtain ⟨t, rfl⟩ := r1
    cases ha : y.cps.all (· < 128)
    · exact PySem.wpAny_pyIter_wide ha (pi_one (tk := s1.toks) I1 _ (turn_str _ y t "str_iterator" (.inr rfl)) ⟨_, Heap.get?_push_size _ rfl, rfl, rfl⟩ q)
    · exact PySem.wpAny_pyIter_ascii ha (pi_one (tk := s1.toks) I1 _ (turn_str _ y t "str_ascii_iterator" (.inl rfl)) ⟨_, Heap.get?_push_size _ rfl, rfl, rfl⟩ q)
def anyI (t : TD) : TDs := fun ρ M K E => t ρ M (fun d M' => match d with
  | .lst ds => K ds M'
  | .tup ds => K ds M'
  | .dct kds => K (kds.map fun p => kD p.1) M'
  | .str x => K (charsD x) M'
  | .loc a => ∃ ob vs kds, M' a = some (.lok ob vs kds) ∧ K (kds.map fun p => kD p.1) M'
  | _ => False) E
theorem pid_any {tg e : Expr} {t : TD} (h : PE X e (TEx X.K G B W t)) : PId X G B W tg e (anyI t) := by
  refine ⟨_, pi_any h, fun σ H ρ M I K1 E1 R s q er k => ?_⟩
  refine ⟨ρ, M, I, _, _, s, q, fun d M' v H' I' z e s' r => ?_, er⟩
  dsimp only at z
  split at z
  · unfold Rep at r
    obtain ⟨a, vs, rfl, hs, hr⟩ := r
    exact .inl ⟨a, rfl, .inl ⟨⟨vs, s'.good.sub.sql hs⟩, k _ _ _ _ _ z e s' (walk_list hs hr)⟩⟩
  · unfold Rep at r
    obtain ⟨a, vs, rfl, hs, hr⟩ := r
    exact .inl ⟨a, rfl, .inr (.inl ⟨⟨vs, s'.good.sub.sqt hs⟩, k _ _ _ _ _ z e s' (walk_tup hs hr)⟩)⟩
  · unfold Rep at r
    obtain ⟨a, ob, kvs, rfl, hs, hr⟩ := r
    exact .inl ⟨a, rfl, .inr (.inr ⟨ob, kvs, s'.good.sub _ _ hs, k _ _ _ _ _ z e s' (walk_keys hs hr)⟩)⟩
  · rename_i x
    unfold Rep at r
    subst r
    exact .inr ⟨x, rfl, k _ _ _ _ _ z e s' (walk_str x)⟩
  · rename_i a
    obtain ⟨ob, vs, kds, hm, z⟩ := z
    unfold Rep at r
    subst r
    obtain ⟨rk, ha, hl⟩ := lok_at s'.good hm
    exact .inl ⟨a, rfl, .inr (.inr ⟨ob, vs, ha, k _ _ _ _ _ z e s' (walkL_keys hl rk)⟩)⟩
  · exact z.elim
def itemsI (t : TD) : TDs := fun ρ M K E => t ρ M (fun d M' => match d with
  | .dct kds => K (kds.map pairD) M'
  | .loc a => ∃ ob vs kds, M' a = some (.lok ob vs kds) ∧ K (kds.map pairD) M'
  | _ => False) E
theorem pid_items {elts : List Expr} {kk : Nat} {tpos apos cpos : Pos} {e : Expr} {t : TD} (h : PE X e (TEx X.K G B W t)) (hb : plainBase e = true) (hl : (apos.endLine == cpos.line) = true) : PId X G B W (.Tuple elts kk tpos) (.Call (.Attribute e "items" apos) [] [] cpos) (itemsI t) := by
  refine ⟨_, pi_items h (base_of hb) hl, fun σ H ρ M I K1 E1 R s q er k => ?_⟩
  refine ⟨ρ, M, I, _, _, s, q, fun d M' v H' I' z e s' r => ?_, er⟩
  dsimp only at z
  split at z
  · unfold Rep at r
    obtain ⟨a, ob, kvs, rfl, hs, hr⟩ := r
    exact ⟨a, ob, kvs, rfl, s'.good.sub _ _ hs, k _ _ _ _ _ z e s' (walk_items hs hr)⟩
  · rename_i a
    obtain ⟨ob, vs, kds, hm, z⟩ := z
    unfold Rep at r
    subst r
    obtain ⟨rk, ha, hl⟩ := lok_at s'.good hm
    exact ⟨a, ob, vs, rfl, ha, k _ _ _ _ _ z e s' (walkL_items hl rk)⟩
  · exact z.elim
def valsI (t : TD) : TDs := fun ρ M K E => t ρ M (fun d M' => match d with
  | .dct kds => K (kds.map fun p => p.2) M'
  | .loc a => ∃ ob vs kds, M' a = some (.lok ob vs kds) ∧ K (kds.map fun p => p.2) M'
  | _ => False) E
theorem pid_vals {tg : Expr} {apos cpos : Pos} {e : Expr} {t : TD} (h : PE X e (TEx X.K G B W t)) (hb : plainBase e = true) (hl : (apos.endLine == cpos.line) = true) : PId X G B W tg (.Call (.Attribute e "values" apos) [] [] cpos) (valsI t) := by
  refine ⟨_, pi_values h (base_of hb) hl, fun σ H ρ M I K1 E1 R s q er k => ?_⟩
  refine ⟨ρ, M, I, _, _, s, q, fun d M' v H' I' z e s' r => ?_, er⟩
  dsimp only at z
  split at z
  · unfold Rep at r
    obtain ⟨a, ob, kvs, rfl, hs, hr⟩ := r
    exact ⟨a, ob, kvs, rfl, s'.good.sub _ _ hs, k _ _ _ _ _ z e s' (walk_vals hs hr)⟩
  · rename_i a
    obtain ⟨ob, vs, kds, hm, z⟩ := z
    unfold Rep at r
    subst r
    obtain ⟨rk, ha, hl⟩ := lok_at s'.good hm
    exact ⟨a, ob, vs, rfl, ha, k _ _ _ _ _ z e s' (walkL_vals hl rk)⟩
  · exact z.elim
def zipI (t : TDs) : TDs := fun ρ M K E => t ρ M (fun ds M' => match ds with
  | [.lst xs, .lst ys] => K (zipDD xs ys) M'
  | _ => False) E
theorem pid_zip {elts : List Expr} {kk : Nat} {tpos p pos : Pos} {a b : Expr} {t : TDs} (hg : Gl X "zip") (hm : X.mg "zip" = none) (h : PA X [a, b] (TAx X.K G B W t)) (h1 : noStar a = true) (h2 : noStar b = true) : PId X G B W (.Tuple elts kk tpos) (.Call (.Name "zip" p) [a, b] [] pos) (zipI t) := by
  refine ⟨_, RZ.pi_zipA hg hm h (star_cons h1) (star_any (by simp [h2])), fun σ H ρ M I K1 E1 R s q er k => ?_⟩
  refine ⟨ρ, M, I, _, _, s, q, fun ds M' vs H' I' z e s' r => ?_, er⟩
  dsimp only at z
  split at z
  · obtain ⟨v, w, rfl, r1, r2⟩ := reps2 r
    unfold Rep at r1 r2
    obtain ⟨a, vs, rfl, hs, hr⟩ := r1
    obtain ⟨b, ws, rfl, hs2, hr2⟩ := r2
    exact ⟨a, b, vs, ws, rfl, .inl ⟨s'.good.sub.sql hs, s'.good.sub.sql hs2, k _ _ _ _ _ z e s' (walk_zip hs hs2 hr hr2)⟩⟩
  · exact z.elim
end
end PyD
set_option Elab.async false
set_option linter.all false
set_option autoImplicit false
set_option maxRecDepth 100000
set_option maxHeartbeats 4000000
/-! # Methods of lists, at the model's level -/
namespace PyD
open PySem PySem.Spec L2

section
open PySem.AutoSeq1
open PySem.MeetsSeq PySem.MeetsSeq2 PySem.MeetsSeq3 PySem.SeqRoads2
theorem ext_any (l b : Addr) (us ws : Array Value) (n m : Nat) (sl : Array (Option Value)) (hc : ¬(!us.isEmpty && Builtin.List.listTooLong (us.size + ws.size)) = true) (hz : us.size ≤ sizeLine) (hs : us.size + ws.size ≤ sizeLine + 1) :
    Meets (Builtin.«list.extend» ⟨[.ref l, .ref b], []⟩) (fun _ R s => s.heap.get? l = some ⟨.type "list", none, .seq us n, #[]⟩ ∧ s.heap.get? b = some ⟨.type "list", none, .seq ws m, sl⟩ ∧ R (.ok (.ret Value.none)) { s with heap := s.heap.update l (Obj.mapSeq fun x => x ++ ws), toks := s.toks }) :=
  .of_wp fun prog w A R s h => by
    obtain ⟨hp, g, d, tk, os⟩ := s
    obtain ⟨e1, e2, h⟩ := h
    have f1 := idx_int
    have f2 := sub_tuple_tuple
    have f3 := sub_list_list
    have f4 := sub_tuple_list
    have f5 := sub_list_tuple
    have hz' : (us ++ ws).size ≤ sizeLine + 1 := by rw [Array.size_append]; exact hs
    wp_walk using (wpAny_updateSeq e1 rfl (hz := hz) (_hz' := hz')), wpAny_loadPart' e1, wpAny_loadPart' e2
    exact ⟨_, rfl, h⟩
end
def rExtS (K : PySem.W.Frag) : V → List V → Hp → VK → Prop := fun x vs H Q => ∃ l b xs zs, x = .ref l ∧ vs = [.ref b] ∧ H l = some (.lst xs) ∧ SqL K H b zs ∧ xs.length + zs.length ≤ sizeLine ∧ Q .non (upd H l (.lst (xs ++ zs)))
theorem mt_extS {X : Cx} : MtM X "list.extend" (rExtS X.K) := by
  intro pins s σ H x vs v us Q I rx rv h
  obtain ⟨l, b, xs, zs, rfl, rfl, h1, h2, hz, q⟩ := h
  cases rx
  obtain ⟨u, rfl, ru⟩ := rv.one
  cases ru
  obtain ⟨z, its, n, r, hl, e⟩ := I.lstM h1
  obtain ⟨jts, r2, ⟨o, m, e2, oc, od, oe⟩, _⟩ := I.list h2
  obtain ⟨c, dd, da, sl⟩ := o
  dsimp only at oc od oe
  subst oc od oe
  have ll := r2.length
  have hsz : its.toArray.size + jts.toArray.size ≤ sizeLine := by rw [List.size_toArray, List.size_toArray]; omega
  have hlong : ¬ (!its.toArray.isEmpty && Builtin.List.listTooLong (its.toArray.size + jts.toArray.size)) = true := by
    rw [notLongL hsz, Bool.and_false]
    exact Bool.false_ne_true
  refine call_meets PySem.F.slot_list_extend ⟨_, e, rfl⟩ PySem.F.entry_list_extend (PySem.F.args_list_extend_2 _ _) (ext_any l b its.toArray jts.toArray n m sl hlong (by rw [List.size_toArray]; omega) (by omega)) ⟨e, e2, ?_⟩
  refine ⟨.non, _, I.lset (its' := its ++ jts) h1 e (by simp) (r.append r2) ?_, rfl, q⟩
  rw [List.length_append]
  omega
end PyD
set_option Elab.async false
set_option linter.all false
set_option autoImplicit false
set_option maxRecDepth 100000
set_option maxHeartbeats 4000000
/-! # Methods of built-in things, displays of dicts -/
namespace PyD
open PySem PySem.Spec L2

def getX (d k : D) (x : D) : TD := fun _ M K _ => dctX d M fun kds => ∃ ky, keyD k = some ky ∧ (match valD kds ky with
  | some e => K e M
  | none => K x M)
/-- d.get(k, x) -/
def getT (ta tk tx : TD) : TD := bindD ta fun d ρ M K E => dctX d M (fun _ => True) ∧ bindD tk (fun k => bindD tx fun x => getX d k x) ρ M K E
/-- d[k] = e, d a dict that changes; or a list -/
def setiX (to ti te : TD) : TSd := fun ρ M En => te ρ M (fun d M1 => to ρ M1 (fun o M2 => ti ρ M2 (fun i M3 => match o with
  | .loc a => (match i with
    | .str x => ∃ kds, M3 a = some (.dct kds) ∧ kds.length ≤ 1000000 ∧ En.nx ρ (updM M3 a (.dct (putKD (.inr x) d kds)))
    | .int n => ∃ ds j, M3 a = some (.lst ds) ∧ ixN ds.length n = some j ∧ En.nx ρ (updM M3 a (.lst (ds.set j d)))
    | _ => False)
  | _ => False) (erE En ρ)) (erE En ρ)) (erE En ρ)
def spD (x : Str) (seps : Str) : List D := (Txt.split x seps).map D.str
/-- one argument -/
inductive Bm where
  | append | split | join | pop | extend
  deriving DecidableEq
def Bm.nm : Bm → Str
  | .append => "append" | .split => "split" | .join => "join" | .pop => "pop" | .extend => "extend"
def bmX (m : Bm) (d x : D) : TD := fun _ M K _ => match m with
  | .append => (match d with
    | .loc a => ∃ ds, M a = some (.lst ds) ∧ ds.length < 1000000 ∧ K .non (updM M a (.lst (ds ++ [x])))
    | _ => False)
  | .split => (match d with
    | .str s => (match x with
      | .str sp => (sp.length == 0) = false ∧ s.length ≤ 1000000 ∧ K (.lst (spD s sp)) M
      | _ => False)
    | _ => False)
  | .pop => (match d with
    | .loc a => (match x with
      | .int n => ∃ ds j y, M a = some (.lst ds) ∧ ds.length ≤ 1000000 ∧ ixN ds.length n = some j ∧ ds[j]? = some y ∧ K y (updM M a (.lst (ds.eraseIdx j)))
      | _ => False)
    | _ => False)
  | .extend => (match d with
    | .loc a => (match x with
      | .lst xs => ∃ ds, M a = some (.lst ds) ∧ ds.length + xs.length ≤ 1000000 ∧ K .non (updM M a (.lst (ds ++ xs)))
      | _ => False)
    | _ => False)
  | .join => (match d with
    | .str s => (match x with
      | .lst xs => ∃ ys : List Str, xs = ys.map D.str ∧ (ys.map (·.length)).sum + ys.length * s.length ≤ 16777216 ∧ K (.str (Txt.join s ys)) M
      | _ => False)
    | _ => False)
/-- what the receiver must be ahead of the argument -/
def bmPre (m : Bm) (d : D) (M : Mst) : Prop := match m with
  | .append | .pop | .extend => (match d with
    | .loc a => ∃ ds, M a = some (.lst ds)
    | _ => False)
  | _ => (match d with
    | .str _ => True
    | _ => False)
def bmT (m : Bm) (ta tx : TD) : TD := bindD ta fun d ρ M K E => bmPre m d M ∧ bindD tx (fun x => bmX m d x) ρ M K E
def mdctD : TD := fun _ M K _ => ∀ a, M a = none → K (.loc a) (updM M a (.dct []))
section
variable {X : Cx} {G : Gam} {B : Bs} {W : WX} {Γ : Nat → SpD} {kx : Nat}
theorem pd_mdct {pos : Pos} : PE X (.Dict [] [] pos) (TEx X.K G B W mdctD) := by
  refine PE.imp pe_dnewK fun σ H Q ⟨ρ, M, J, K1, E1, sr, t, ok, er⟩ p np => ?_
  refine ok _ _ _ _ J (t p (sr.good.freeM np)) (.refl J) (sr.step (sr.good.addM np ?_) (sr.good.addM_frm np)) (by unfold Rep; rfl)
  unfold MRep
  exact ⟨[], rfl, RepK.nil⟩
theorem pd_dct0 {pos : Pos} : PE X (.Dict [] [] pos) (TEx X.K G B W (conD (.dct []))) := by
  refine ⟨fun pins s σ H Q I ⟨ρ, M, J, K1, E1, sr, t, ok, er⟩ => ?_⟩
  refine thn (pe_dnewK.run pins s σ H (fun v H' => ∃ p, v = .ref p ∧ H p = none ∧ H' = upd H p (.dK [])) I fun p np => ⟨p, rfl, np, rfl⟩) fun u s' ⟨z, H', I', rz, p, e, np, eH⟩ => ?_
  subst e eH
  obtain rfl : u = Value.ref p := rz
  exact new_dct I' np sr RepK.nil t ok
theorem few_of {es : List Expr} {cpos : Pos} {env : Env} (h : es.all noStar = true) (hl : es.length < 29) : ((backTo cpos (starEach es env)).all (fun x => !x.1) && (backToKw cpos (keywordEach [] env)).all (fun x => x.1.isSome)
    && decide (es.length + ([] : List Keyword).length + (if ([] : List Keyword).isEmpty then 0 else 1) < 30)) = true := by
  rw [star_all h]
  simp only [Bool.true_and, Bool.and_eq_true, decide_eq_true_eq]
  refine ⟨rfl, ?_⟩
  simp only [List.length_nil, List.isEmpty_nil, if_true]
  omega
theorem isD_of {K : PySem.W.Frag} {I H : Hp} {M : Mst} {d : D} {x : V} {P : List (Key × D) → Prop} (g : Good K G I M H) (r : Rep K G I d x) (h : dctX d M P) : ∃ a, x = .ref a ∧ IsD H a := by
  obtain ⟨a, kds, kvs, rfl, h1, _⟩ := dctX_ok g r h
  exact ⟨a, rfl, .inl ⟨kvs, h1⟩⟩
theorem pd_get2 (c : Ctx X G W Γ kx) {o k f : Expr} {to tk tf : TD} {apos cpos : Pos} (ho : PE X o (TEx X.K G B W to)) (hk : PE X k (TEx X.K G B W tk)) (hf : PE X f (TEx X.K G B W tf)) (hb : plainBase o = true) (h1 : noStar k = true) (h2 : noStar f = true) (hl : (apos.endLine == cpos.line) = true) :
    PE X (.Call (.Attribute o "get" apos) [k, f] [] cpos) (TEx X.K G B W (getT to tk tf)) := by
  have m : M2 X o "get" apos k f cpos := ⟨base_of hb, few_of (by simp [h1, h2]) (by simp), hl, by
    rw [star_cons h1, star_cons h2]; rfl⟩
  refine PE.imp (pe_dget2 (units1 c) ho hk hf m) fun σ H Q ⟨ρ, M, J, K1, E1, sr, t, ok, er⟩ => ?_
  refine ⟨ρ, M, J, _, E1, sr, t, fun d M1 v H1 J1 k1 e1 s1 r1 => ?_, er⟩
  obtain ⟨p0, k1⟩ := k1
  obtain ⟨a, rfl, isd⟩ := isD_of s1.good r1 p0
  refine ⟨a, rfl, isd, ?_⟩
  refine ⟨ρ, M1, J1, _, E1, s1, k1, fun ky M2 y H2 J2 k2 e2 s2 r2 => ?_, er⟩
  refine ⟨ρ, M2, J2, _, E1, s2, k2, fun x M3 z H3 J3 k3 e3 s3 r3 => ?_, er⟩
  unfold getX at k3
  obtain ⟨a', kds, kvs, ea, h1, h2, kk, hkk, k3⟩ := dctX_ok s3.good ((r1.ext e2).ext e3) k3
  cases ea
  obtain rfl := key_ok hkk r2
  refine ⟨valV kvs kk, .inl ⟨kvs, kk, h1, rfl, rfl⟩, ?_⟩
  have xx := (e1.trans e2).trans e3
  rcases h2.val (k := kk) with ⟨f1, f2⟩ | ⟨dd, vv, f1, f2, f3⟩
  · rw [f1] at k3
    rw [f2]
    exact ok _ _ _ _ _ k3 xx s3 r3
  · rw [f1] at k3
    rw [f2]
    exact ok _ _ _ _ _ k3 xx s3 f3
theorem pd_get1 (c : Ctx X G W Γ kx) {o k : Expr} {to tk : TD} {apos cpos : Pos} (ho : PE X o (TEx X.K G B W to)) (hk : PE X k (TEx X.K G B W tk)) (hb : plainBase o = true) (h1 : noStar k = true) (hl : (apos.endLine == cpos.line) = true) :
    PE X (.Call (.Attribute o "get" apos) [k] [] cpos) (TEx X.K G B W (getT to tk (conD .non))) := by
  have m : M1 X o "get" apos k cpos := ⟨base_of hb, few_of (by simp [h1]) (by simp), hl, by
    rw [star_cons h1]; rfl⟩
  refine PE.imp (pe_dget1 (units1 c) ho hk m) fun σ H Q ⟨ρ, M, J, K1, E1, sr, t, ok, er⟩ => ?_
  refine ⟨ρ, M, J, _, E1, sr, t, fun d M1 v H1 J1 k1 e1 s1 r1 => ?_, er⟩
  obtain ⟨p0, k1⟩ := k1
  obtain ⟨a, rfl, isd⟩ := isD_of s1.good r1 p0
  refine ⟨a, rfl, isd, ?_⟩
  refine ⟨ρ, M1, J1, _, E1, s1, k1, fun ky M2 y H2 J2 k2 e2 s2 r2 => ?_, er⟩
  have k3 : getX d ky .non ρ M2 K1 E1 := k2
  unfold getX at k3
  obtain ⟨a', kds, kvs, ea, h1, h2, kk, hkk, k3⟩ := dctX_ok s2.good (r1.ext e2) k3
  cases ea
  obtain rfl := key_ok hkk r2
  refine ⟨valV kvs kk, .inl ⟨kvs, kk, h1, rfl, rfl⟩, ?_⟩
  have xx := e1.trans e2
  rcases h2.val (k := kk) with ⟨f1, f2⟩ | ⟨dd, vv, f1, f2, f3⟩
  · rw [f1] at k3
    rw [f2]
    exact ok _ _ _ _ _ k3 xx s2 rep_non
  · rw [f1] at k3
    rw [f2]
    exact ok _ _ _ _ _ k3 xx s2 f3
theorem pd_bm (c : Ctx X G W Γ kx) (m : Bm) {o k : Expr} {to tk : TD} {apos cpos : Pos} (ho : PE X o (TEx X.K G B W to)) (hk : PE X k (TEx X.K G B W tk)) (hb : plainBase o = true) (h1 : noStar k = true) (hl : (apos.endLine == cpos.line) = true) :
    PE X (.Call (.Attribute o m.nm apos) [k] [] cpos) (TEx X.K G B W (bmT m to tk)) := by
  have hs1 : starEach [k] X.env = [(false, eval k X.env)] := star_cons h1
  cases m with
  | append =>
    refine PE.imp (pe_bm PySem.F.plainAttrs_list PySem.F.slot_list_append PySem.F.type_list_append mt_append ho (pa_cons hk pa_nil (star_cons h1)) (base_of hb) (few_of (by simp [h1]) (by simp)) hl (star_cons h1) rfl) fun σ H Q ⟨ρ, M, J, K1, E1, sr, t, ok, er⟩ => ?_
    refine ⟨ρ, M, J, _, E1, sr, t, fun d M1 v H1 J1 k1 e1 s1 r1 => ?_, er⟩
    obtain ⟨p0, k1⟩ := k1
    unfold bmPre at p0
    dsimp only at p0
    split at p0
    · rename_i a
      obtain ⟨ds, hm⟩ := p0
      have r1' := r1
      unfold Rep at r1'
      subst r1'
      obtain ⟨_, ob, g1, vs, rfl, g2⟩ := s1.good.mst a _ hm
      refine ⟨.inl ⟨rfl, _, SqL.of g1⟩, ?_⟩
      refine ⟨ρ, M1, J1, _, E1, s1, k1, fun x M2 y H2 J2 k2 e2 s2 r2 => ?_, er⟩
      obtain ⟨ds2, hm2, hz, k2⟩ := k2
      obtain ⟨_, ob2, f1, vs2, rfl, f2⟩ := s2.good.mst a _ hm2
      refine ⟨a, vs2, y, rfl, rfl, f1, by rw [f2.length]; have := sizeLine_eq; omega, ?_⟩
      exact ok _ _ _ _ J2 k2 (e1.trans e2) (s2.step (s2.good.setM hm2 ⟨_, rfl, f2.append (.cons r2 .nil)⟩) (s2.good.setM_frm hm2)) rep_non
    · exact p0.elim
  | pop =>
    refine PE.imp (pe_bm PySem.F.plainAttrs_list PySem.F.slot_list_pop PySem.F.type_list_pop mt_popAt ho (pa_cons hk pa_nil (star_cons h1)) (base_of hb) (few_of (by simp [h1]) (by simp)) hl (star_cons h1) rfl) fun σ H Q ⟨ρ, M, J, K1, E1, sr, t, ok, er⟩ => ?_
    refine ⟨ρ, M, J, _, E1, sr, t, fun d M1 v H1 J1 k1 e1 s1 r1 => ?_, er⟩
    obtain ⟨p0, k1⟩ := k1
    unfold bmPre at p0
    dsimp only at p0
    split at p0
    · rename_i a
      obtain ⟨ds, hm⟩ := p0
      have r1' := r1
      unfold Rep at r1'
      subst r1'
      obtain ⟨_, ob, g1, vs, rfl, g2⟩ := s1.good.mst a _ hm
      refine ⟨.inl ⟨rfl, _, SqL.of g1⟩, ?_⟩
      refine ⟨ρ, M1, J1, _, E1, s1, k1, fun x M2 y H2 J2 k2 e2 s2 r2 => ?_, er⟩
      unfold bmX at k2
      dsimp only at k2
      split at k2
      · rename_i n
        obtain ⟨ds2, j, w, hm2, hz, hj, hw, k2⟩ := k2
        obtain ⟨_, ob2, f1, vs2, rfl, f2⟩ := s2.good.mst a _ hm2
        unfold Rep at r2
        subst r2
        obtain ⟨q1, q2, q3, q4⟩ := ixN_seq hj
        obtain ⟨wv, hwv, rw_⟩ := f2.get hw
        have hlen := f2.length
        refine ⟨a, vs2, n, j, wv, rfl, rfl, f1, by omega, by omega, by rw [hlen]; exact q1, hwv, ?_⟩
        exact ok _ _ _ _ J2 k2 (e1.trans e2) (s2.step (s2.good.setM hm2 ⟨_, rfl, f2.erase j⟩) (s2.good.setM_frm hm2)) rw_
      · exact k2.elim
    · exact p0.elim
  | extend =>
    refine PE.imp (pe_bm PySem.F.plainAttrs_list PySem.F.slot_list_extend PySem.F.type_list_extend mt_extS ho (pa_cons hk pa_nil (star_cons h1)) (base_of hb) (few_of (by simp [h1]) (by simp)) hl (star_cons h1) rfl) fun σ H Q ⟨ρ, M, J, K1, E1, sr, t, ok, er⟩ => ?_
    refine ⟨ρ, M, J, _, E1, sr, t, fun d M1 v H1 J1 k1 e1 s1 r1 => ?_, er⟩
    obtain ⟨p0, k1⟩ := k1
    unfold bmPre at p0
    dsimp only at p0
    split at p0
    · rename_i a
      obtain ⟨ds, hm⟩ := p0
      have r1' := r1
      unfold Rep at r1'
      subst r1'
      obtain ⟨_, ob, g1, vs, rfl, g2⟩ := s1.good.mst a _ hm
      refine ⟨.inl ⟨rfl, _, SqL.of g1⟩, ?_⟩
      refine ⟨ρ, M1, J1, _, E1, s1, k1, fun x M2 y H2 J2 k2 e2 s2 r2 => ?_, er⟩
      unfold bmX at k2
      dsimp only at k2
      split at k2
      · rename_i xs
        obtain ⟨ds2, hm2, hz, k2⟩ := k2
        obtain ⟨_, ob2, f1, vs2, rfl, f2⟩ := s2.good.mst a _ hm2
        unfold Rep at r2
        obtain ⟨b, ws, rfl, hs, hr⟩ := r2
        refine ⟨a, b, vs2, ws, rfl, rfl, f1, s2.good.sub.sql hs, by rw [f2.length, hr.length]; have := sizeLine_eq; omega, ?_⟩
        exact ok _ _ _ _ J2 k2 (e1.trans e2) (s2.step (s2.good.setM hm2 ⟨_, rfl, f2.append hr⟩) (s2.good.setM_frm hm2)) rep_non
      · exact k2.elim
    · exact p0.elim
  | split =>
    refine PE.imp (pe_split ho hk hs1 (base_of hb) hl) fun σ H Q ⟨ρ, M, J, K1, E1, sr, t, ok, er⟩ => ?_
    refine ⟨ρ, M, J, _, E1, sr, t, fun d M1 v H1 J1 k1 e1 s1 r1 => ?_, er⟩
    obtain ⟨p0, k1⟩ := k1
    unfold bmPre at p0
    dsimp only at p0
    split at p0
    · rename_i a
      unfold Rep at r1
      subst r1
      refine ⟨⟨a, rfl⟩, ρ, M1, J1, _, E1, s1, k1, fun x M2 y H2 J2 k2 e2 s2 r2 => ?_, er⟩
      unfold bmX at k2
      dsimp only at k2
      split at k2
      · rename_i b
        obtain ⟨hb0, hz, k2⟩ := k2
        unfold Rep at r2
        subst r2
        refine ⟨a, b, rfl, rfl, hb0, by have := sizeLine_eq; omega, fun p np => ?_⟩
        exact new_lst np s2 (Reps.strs _) k2 (ok.mono (e1.trans e2))
      · exact k2.elim
    · exact p0.elim
  | join =>
    refine PE.imp (pe_join ho hk hs1 (base_of hb) hl) fun σ H Q ⟨ρ, M, J, K1, E1, sr, t, ok, er⟩ => ?_
    refine ⟨ρ, M, J, _, E1, sr, t, fun d M1 v H1 J1 k1 e1 s1 r1 => ?_, er⟩
    obtain ⟨p0, k1⟩ := k1
    unfold bmPre at p0
    dsimp only at p0
    split at p0
    · rename_i a
      unfold Rep at r1
      subst r1
      refine ⟨⟨a, rfl⟩, ρ, M1, J1, _, E1, s1, k1, fun x M2 y H2 J2 k2 e2 s2 r2 => ?_, er⟩
      unfold bmX at k2
      dsimp only at k2
      split at k2
      · rename_i xs
        obtain ⟨ys, rfl, hz, k2⟩ := k2
        unfold Rep at r2
        obtain ⟨b, ws, rfl, hs, hr⟩ := r2
        obtain rfl := reps_strs hr
        exact ⟨a, b, ys, rfl, rfl, .inl (s2.good.sub.sql hs), hz, fin_ok s2 (ok.mono (e1.trans e2)) rep_str k2⟩
      · exact k2.elim
    · exact p0.elim
def rSetX : TSet := fun o i v H Q => rSetL o i v H Q ∨ rSetD o i v H Q
theorem set_any (hu : X.A.units + 1 < cLine) : PSet X rSetX := by
  intro pins s σ H o i v ov iv u Q I ro ri rv h
  rcases h with h | h
  · exact set_list pins s σ H o i v ov iv u Q I ro ri rv h
  · exact set_dict hu pins s σ H o i v ov iv u Q I ro ri rv h
theorem pds_setiX (c : Ctx X G W Γ kx) {o i e : Expr} {to ti te : TD} {pos pos' : Pos} (ho : PE X o (TEx X.K G B W to)) (hi : PE X i (TEx X.K G B W ti)) (he : PE X e (TEx X.K G B W te))
    (ha : ∀ v, assign (.Subscript o i pos') X.env v = (do
      let ov ← holding [v] (eval o X.env)
      let iv ← holding [v, ov] (eval i X.env)
      standAt pos'
      holding [v, ov, iv] (setItem ov iv v)
      release [v, ov, iv] []))
    (hs : swapsWithSole [.Subscript o i pos'] e pos.line X.env = pure false) (hw : swappedStores [.Subscript o i pos'] e X.env = pure none) (h1 : (assignEach [.Subscript o i pos'] X.env).map (·.2) = [assign (.Subscript o i pos') X.env]) :
    PS X (.Assign [.Subscript o i pos'] e pos) (TSx X.K G B W (setiX to ti te)) := by
  refine PS.imp (ps_asg he (pg_sub ho hi (set_any (units1 c)) ha) hs hw h1) fun D σ H ⟨ρ, M, I, En, s, t, ok⟩ => ?_
  refine ⟨ρ, M, I, _, _, s, t, fun d M1 v H1 I1 z1 e1 s1 r1 => ⟨ρ, M1, I1, _, _, s1, z1, fun o M2 y H2 I2 z2 e2 s2 r2 => ⟨ρ, M2, I2, _, _, s2, z2, fun i M3 y3 H3 I3 z3 e3 s3 r3 => ?_, erC ok⟩, erC ok⟩, erC ok⟩
  dsimp only at z3
  split at z3
  · rename_i a
    unfold Rep at r2
    subst r2
    split at z3
    · rename_i x
      obtain ⟨kds, hm, hz, z3⟩ := z3
      obtain ⟨_, ob, g1, kvs, rfl, g2⟩ := s3.good.mst a _ hm
      unfold Rep at r3
      subst r3
      refine .inr ⟨a, _, rfl, DPut.k (k := Sum.inr x) g1 (by rw [g2.length]; have := sizeLine_eq; omega), ?_⟩
      exact ok.nx _ _ _ _ I3 z3 (s3.step (s3.good.setM hm ⟨_, rfl, g2.put (r1.ext (e2.trans e3))⟩) (s3.good.setM_frm hm))
    · rename_i n
      obtain ⟨ds, j, hm, hj, z3⟩ := z3
      obtain ⟨_, ob, g1, vs, rfl, g2⟩ := s3.good.mst a _ hm
      unfold Rep at r3
      subst r3
      refine .inl ⟨a, vs, n, j, rfl, rfl, g1, by rw [g2.length]; exact hj, ?_⟩
      exact ok.nx _ _ _ _ I3 z3 (s3.step (s3.good.setM hm ⟨_, rfl, g2.set j (r1.ext (e2.trans e3))⟩) (s3.good.setM_frm hm))
    · exact z3.elim
  · exact z3.elim
end
end PyD
set_option Elab.async false
set_option linter.all false
set_option autoImplicit false
set_option maxRecDepth 100000
set_option maxHeartbeats 4000000
/-! # Displays with stars -/
namespace PyD
open PySem PySem.Spec L2
section
variable {prog : Program} {w : World} {A : Around} {E : Value → Shared → Prop} {s : Shared}
theorem wpAny_dictPut_pairs {d : Addr} {kvs : List (Key × Value)} {k : Key} {key v : Value} {Q : Unit → Shared → Prop} (hkey : (mixKind prog w).is k key = true) (hm : s.heap.DictOf (mixKind prog w) d kvs)
    (hQ : ∀ h', h'.DictOf (mixKind prog w) d (stored kvs k v) → Heap.SameBut d s.heap h' → Q () { s with heap := h' })
    (hsz : kvs.length ≤ sizeLine) :
    wpAny (model prog w) A (dictPut d ((mixKind prog w).hash k) key v) Q E s := by
  obtain ⟨o, es, ep, ho, hc, hd, hk, hp, hn⟩ := hm
  have hes : es.size ≤ sizeLine := by have e1 := hp.length; have e2 : es.toList.length = es.size := by simp
                                      omega
  unfold dictPut
  refine wpAny_bind (wpAny_dictFind_of hkey ho hd hk ?_)
  have hidx : (es.findIdx? fun e => (mixKind prog w).is k e.key) = kvs.findIdx? fun kv => decide (kv.1 = k) := by
    rw [← hp.findIdx k]; obtain ⟨l⟩ := es; simp
  cases hi : es.findIdx? fun e => (mixKind prog w).is k e.key with
  | some i =>
    refine wpAny_updateDict ho hd (hQ _ ⟨_, _, ep, Heap.get?_update_self _ ho (Obj.isFreed_of_dict (Obj.data_mapDict hd _)),
      hc.mapDict _, Obj.data_mapDict hd _, hk.modify _ _, ?_, ?_⟩ (Heap.SameBut.update ..))
    · rw [stored, if_pos (any_of_findIdx_some (hidx ▸ hi))]
      have hl : (es.toList.findIdx? fun e => (mixKind prog w).is k e.key) = some i := by rw [← hi]; obtain ⟨l⟩ := es; simp
      have := hp.modify hn hl v
      obtain ⟨l⟩ := es
      simpa using this
    · rw [stored, if_pos (any_of_findIdx_some (hidx ▸ hi)), keys_map_store]; exact hn
  | none =>
    have hnot : k ∉ kvs.map (·.1) := not_mem_of_findIdx_none (hidx ▸ hi)
    have hany : ¬ (kvs.any fun kv => decide (kv.1 = k)) = true := by
      rw [List.any_eq_true]; rintro ⟨kv, hkv, he⟩
      exact hnot (List.mem_map.mpr ⟨kv, hkv, of_decide_eq_true he⟩)
    refine wpAny_updateDictKeys (hz := hes) ho hd (hQ _ ⟨_, _, ep + 1, Heap.get?_update_self _ ho (Obj.isFreed_of_dict (Obj.data_mapDictKeys hd _)),
      hc.mapDictKeys _, Obj.data_mapDictKeys hd _, hk.push hkey _, ?_, ?_⟩ (Heap.SameBut.update ..))
    · rw [stored, if_neg hany]
      have := hp.append hkey ((mixKind prog w).hash k) v
      obtain ⟨l⟩ := es
      simpa using this
    · rw [stored, if_neg hany, List.map_append, List.nodup_append]
      refine ⟨hn, by simp, ?_⟩
      intro a ha b hb
      simp only [List.map_cons, List.map_nil, List.mem_singleton] at hb
      subst hb
      exact fun e => hnot (e ▸ ha)
theorem key_noRef {k : Key} {a : Addr} (h : (mixKind prog w).is k (.ref a) = true) : False := by
  have h : keyIs k (.ref a) = true := h
  cases k <;> cases h
theorem wpAny_mergeMapping {d o : Addr} {kvs more : List (Key × Value)} {Q : Unit → Shared → Prop} (hdo : d ≠ o) (hoS : (o == sysModules) = false) (hd : s.heap.DictOf (mixKind prog w) d kvs) (ho : s.heap.DictOf (mixKind prog w) o more) (hsz : kvs.length + more.length ≤ sizeLine)
    (hQ : ∀ h', h'.DictOf (mixKind prog w) d (merged kvs more) → h'.DictOf (mixKind prog w) o more → Heap.SameBut d s.heap h' → Q () { s with heap := h' }) :
    wpAny (model prog w) A (mergeMapping d (.ref o) false) Q E s := by
  obtain ⟨od, esd, epd, hod, hcd, hdd, hkd, hpd, hnd⟩ := id hd
  obtain ⟨oo, eso, epo, hoo, hco, hdo', hko, hpo, hno⟩ := id ho
  have hlen : more.length = eso.size := by rw [← hpo.length]; simp
  unfold mergeMapping
  refine wpAny_bind (wpAny_isInstance ho.typeIs isSubtype_dict_dict ?_)
  rw [if_pos rfl]
  refine wpAny_bind (wpAny_specialOf ho.typeIs PySem.F.slot_dict_iter.lookup ?_)
  refine wpAny_bind (wpAny_pure ?_)
  dsimp only
  have eb : (some (Value.builtin "dict.__iter__") == some (Value.builtin "dict.__iter__")) = true := by decide
  rw [eb]
  dsimp only
  rw [if_neg (by rw [hoS]; exact Bool.false_ne_true)]
  refine wpAny_bind (wpAny_dictEntries hod hdd ?_)
  have loop : wpAny (model prog w) A (do
      let l ← dictEntries o
      let epoch ← dictEpoch o
      forIn (List.range l.size) PUnit.unit fun i (_ : PUnit) => (do
        let l' ← dictEntries o
        match l'[i]? with
          | some e => do
            holding [e.key, e.val] (dictPut d e.hash e.key e.val)
            let ep' ← dictEpoch o
            if (ep' != epoch) = true then do
                (unsupported "dict.changed-during-merge" : Sem PUnit)
                pure (ForInStep.yield PUnit.unit)
              else pure (ForInStep.yield PUnit.unit)
          | _ => do
            (unsupported "dict.changed-during-merge" : Sem PUnit)
            pure (ForInStep.yield PUnit.unit) : Sem (ForInStep PUnit))
      pure ()) Q E s := by
    refine wpAny_bind (wpAny_dictEntries hoo hdo' ?_)
    refine wpAny_bind (wpAny_dictEpoch hoo hdo' ?_)
    refine wpAny_bind ?_
    rw [List.range_eq_range']
    refine wpAny_forIn_list _
      (fun rest _ s' => ∃ h' i, s' = { s with heap := h' } ∧ rest = List.range' i (eso.size - i) ∧ i ≤ eso.size ∧ h'.DictOf (mixKind prog w) d (merged kvs (more.take i)) ∧ h'.get? o = some oo ∧ Heap.SameBut d s.heap h')
      _ ?_ ?_ _ _ ⟨s.heap, 0, rfl, by simp, Nat.zero_le _, by simpa [merged] using hd, hoo, Heap.SameBut.refl _ _⟩
    · rintro x rest b s' ⟨h', i, rfl, hr, hi, hd', hoo', hs'⟩
      have hlt : i < eso.size := by
        rcases Nat.lt_or_ge i eso.size with h | h
        · exact h
        · rw [Nat.sub_eq_zero_of_le h] at hr; simp at hr
      obtain ⟨rfl, hrest⟩ : x = i ∧ rest = List.range' (i + 1) (eso.size - (i + 1)) := by
        have e : eso.size - i = (eso.size - (i + 1)) + 1 := by omega
        rw [e, List.range'_succ] at hr
        injection hr with h1 h2
        exact ⟨h1, h2⟩
      refine wpAny_bind (wpAny_dictEntries hoo' hdo' ?_)
      rw [Array.getElem?_eq_getElem hlt]
      obtain ⟨kv, hkv⟩ : ∃ kv, more[x]? = some kv := ⟨more[x]'(by rw [hlen]; exact hlt), List.getElem?_eq_getElem _⟩
      obtain ⟨k, v⟩ := kv
      obtain ⟨hkey, hval⟩ := hpo.get? (e := eso[x]) (by simp [hlt]) hkv
      obtain ⟨k', hkey', hhash⟩ := hko eso[x] (Array.getElem_mem hlt)
      obtain rfl : k' = k := (mixKind prog w).inj _ _ _ hkey' hkey
      show wpAny _ _ (holding [eso[x].key, eso[x].val] (dictPut d eso[x].hash eso[x].key eso[x].val) >>= _) _ _ _
      rw [hhash, hval]
      have hmx : (merged kvs (more.take x)).length ≤ sizeLine := by
        have e1 := merged_length_le kvs (more.take x)
        have e2 : (more.take x).length ≤ more.length := by rw [List.length_take]; omega
        omega
      refine wpAny_bind (wpAny_holding (wpAny_dictPut_pairs (hsz := hmx) hkey hd' fun h'' hd'' hs'' => ?_))
      have hoo'' : h''.get? o = some oo := (hs''.2 o (Ne.symm hdo)).trans hoo'
      refine wpAny_bind (wpAny_dictEpoch hoo'' hdo' ?_)
      rw [if_neg (by simp)]
      exact wpAny_pure ⟨h'', x + 1, rfl, hrest, hlt, by rw [merged_take_succ kvs more x (k', v) hkv]; exact hd'', hoo'', hs'.trans hs''⟩
    · rintro b s' ⟨h', i, rfl, hr, hi, hd', hoo', hs'⟩
      have hin : i = eso.size := by
        rcases Nat.lt_or_ge i eso.size with h | h
        · have e : eso.size - i = (eso.size - (i + 1)) + 1 := by omega
          rw [e, List.range'_succ] at hr; exact nomatch hr
        · exact Nat.le_antisymm hi h
      refine wpAny_pure (hQ h' ?_ ⟨oo, eso, epo, hoo', hco, hdo', hko, hpo, hno⟩ hs')
      rw [hin, ← hlen, List.take_length] at hd'; exact hd'
  split
  · refine wpAny_bind (wpAny_dictEntries hoo hdo' ?_)
    refine wpAny_bind ?_
    rw [← Array.forIn_toList]
    refine wpAny_forIn_list _ (fun rest _ s' => s' = s ∧ ∀ e ∈ rest, e ∈ eso.toList) _ ?_ ?_ _ _ ⟨rfl, fun e he => he⟩
    · rintro x rest b s' ⟨rfl, hx⟩
      have hm := hx x List.mem_cons_self
      obtain ⟨k', hkey', _⟩ := hko x (by simpa using hm)
      split
      · rename_i a e1
        rw [e1] at hkey'
        exact (key_noRef hkey').elim
      · exact wpAny_pure ⟨rfl, fun e he => hx e (List.mem_cons_of_mem _ he)⟩
    · rintro b s' ⟨rfl, _⟩
      exact loop
  · exact loop
/-- two dicts put together -/
theorem wpAny_disp2 {x y : Sem Value} {Q : Value → Shared → Prop}
    (h : wpAny (model prog w) A x (fun u s1 => wpAny (model prog w) A (mergeMapping s.heap.objs.size u false) (fun _ s2 => wpAny (model prog w) A y (fun v s3 => wpAny (model prog w) A (mergeMapping s.heap.objs.size v false) (fun _ s4 => Q (.ref s.heap.objs.size) s4) (fun _ _ => False) s3) E s2) (fun _ _ => False) s1) E { s with heap := s.heap.push { cls := .type "dict", data := .dict #[] } }) :
    wpAny (model prog w) A (dictDisplay [(none, x), (none, y)]) Q E s := by
  unfold dictDisplay
  dsimp only
  rw [List.forIn_cons]
  simp only [List.isEmpty_nil, if_true]
  refine wpAny_bind (wpAny_bind (wpAny_bind (wpAny_pure ?_)))
  dsimp only
  refine wpAny_bind (wpAny_alloc (wpAny_bind (wpAny_holding (thn h fun u s1 h1 => ?_))))
  refine wpAny_bind (wpAny_onRaise (wpAny_tryCatch (wpAny_onRaise (wpAny_holding (wpAny_mono h1 (fun _ s2 h2 => ?_) fun _ _ z => z.elim)))))
  refine wpAny_pure ?_
  dsimp only
  rw [List.forIn_cons]
  simp only [List.isEmpty_nil, if_true]
  refine wpAny_bind (wpAny_bind (wpAny_pure ?_))
  dsimp only
  refine wpAny_bind (wpAny_pure (wpAny_bind (wpAny_holding (thn h2 fun v s3 h3 => ?_))))
  refine wpAny_bind (wpAny_onRaise (wpAny_tryCatch (wpAny_onRaise (wpAny_holding (wpAny_mono h3 (fun _ s4 h4 => ?_) fun _ _ z => z.elim)))))
  refine wpAny_pure ?_
  dsimp only
  rw [List.forIn_nil]
  refine wpAny_pure ?_
  dsimp only
  simp only [List.isEmpty_nil, if_true]
  refine wpAny_bind (wpAny_pure ?_)
  exact wpAny_pure h4
end
/-- {**a, **b} -/
def mrgT (ta tb : TD) : TD := fun ρ M K E => ∀ p, M p = none → ta ρ (updM M p (.dct [])) (fun x M1 => M1 p = some (.dct []) ∧ x ≠ .loc p ∧ dctX x M1 fun kx => kx.length ≤ 1000000 ∧ tb ρ (updM M1 p (.dct (mergeKD [] kx))) (fun y M2 => M2 p = some (.dct (mergeKD [] kx)) ∧ y ≠ .loc p ∧ dctX y M2 fun ky => ky.length ≤ 1000000 ∧ K (.loc p) (updM M2 p (.dct (mergeKD (mergeKD [] kx) ky)))) E) E
section
variable {X : Cx} {G : Gam} {B : Bs} {W : WX}
theorem length_mergeKD : ∀ (more kds : List (Key × D)), (mergeKD kds more).length ≤ kds.length + more.length
  | [], kds => by simp [mergeKD]
  | (k, d) :: r, kds => by
    have h := length_mergeKD r (putKD k d kds)
    have h2 : (putKD k d kds).length ≤ kds.length + 1 := by
      clear h
      unfold putKD
      split <;> simp
    show (mergeKD (putKD k d kds) r).length ≤ _
    rw [List.length_cons]
    omega
/-- a dict is merged into one of ours -/
theorem merge_step {pins : List (Addr × Obj)} {s : Shared} {σ : L2.St} {H : Hp} {M : Mst} {J : Hp} {ρ : Slots} {p : Addr} {x : V} {u : Value} {d : D} {kp : List (Key × D)} {P : List (Key × D) → Prop} {R : Shared → Prop} (I : L2.Inv X pins σ H s) (sr : SR X.K G B σ H ρ M J) (r : Rep X.K G J d x) (ru : RelV x u)
    (hp : M p = some (.dct kp)) (hne : d ≠ .loc p) (hd : dctX d M P) (hz : ∀ kd, P kd → kp.length + kd.length ≤ sizeLine)
    (go : ∀ s' kd H', P kd → SR X.K G B σ H' ρ (updM M p (.dct (mergeKD kp kd))) J → L2.Inv X pins σ H' s' → R s') : wpAny (model X.prog X.w) X.A (mergeMapping p u false) (fun _ s' => R s') (fun _ _ => False) s := by
  obtain ⟨nI, o, ho, mr⟩ := sr.good.mst p _ hp
  unfold MRep at mr
  obtain ⟨kvp, rfl, rp⟩ := mr
  obtain ⟨a, kd, kvs, rfl, h1, h2, hP⟩ := dctX_ok sr.good r hd
  obtain rfl : u = Value.ref a := ru
  have hpa : p ≠ a := by
    rintro rfl
    unfold dctX at hd
    split at hd
    · unfold Rep at r
      obtain ⟨a', ob, kvs', e, h3, _⟩ := r
      cases e
      rw [nI] at h3
      cases h3
    · rename_i a'
      unfold Rep at r
      cases r
      exact hne rfl
    · exact hd
  obtain ⟨z1, y1, vs1, r1, dd1⟩ := dk_of I.hok ho
  obtain ⟨z2, y2, vs2, r2, dd2⟩ := dk_rd I.hok h1
  have hzz : kvp.length + kvs.length ≤ sizeLine := by
    have := hz kd hP
    rw [rp.length, h2.length]
    omega
  refine wpAny_mergeMapping hpa y2 dd1 dd2 (by rw [← Paired.length r1, ← Paired.length r2]; exact hzz) fun h' dd' dd2' hs => ?_
  have hl : (mergeK kvp kvs).length ≤ sizeLine := Nat.le_trans (length_mergeK kvs kvp) hzz
  have he : ∃ q, h'.get? p = some q := let ⟨q, _, _, hq, _⟩ := dd'; ⟨q, hq⟩
  exact go _ kd _ hP (sr.step (sr.good.setM hp (by unfold MRep; exact ⟨_, rfl, rp.merge h2⟩)) (sr.good.setM_frm hp)) (d_write I (by rw [ho]; exact True.intro) hs he (dk_new hl y1 (r2.merge r1) dd'))
theorem pd_mrg {a b : Expr} {ta tb : TD} {pos : Pos} (ha : PE X a (TEx X.K G B W ta)) (hb : PE X b (TEx X.K G B W tb)) : PE X (.Dict [none, none] [a, b] pos) (TEx X.K G B W (mrgT ta tb)) := by
  refine ⟨fun pins s σ H Q I ⟨ρ, M, J, K1, E1, sr, t, ok, er⟩ => ?_⟩
  rw [arm_eval_Dict]
  refine wpAny_bind (wpAny_standAt ?_)
  have np : H s.heap.objs.size = none := I.hok.fresh (Nat.le_refl _)
  have I1 := I.laid (a := s.heap.objs.size) (o := .dK []) (h' := s.heap.push { cls := .type "dict", data := .dict #[] }) (t' := s.toks) (fun _ _ q => Heap.get?_push_of_some _ q) (Nat.le_refl _) (dk_empty s.heap I.big)
  have sr1 : SR X.K G B σ (upd H s.heap.objs.size (.dK [])) ρ (updM M s.heap.objs.size (.dct [])) J := sr.step (sr.good.addM np (by unfold MRep; exact ⟨_, rfl, RepK.nil⟩)) (sr.good.addM_frm np)
  have t1 := t s.heap.objs.size (sr.good.freeM np)
  have at_ : ∀ {e : Expr} {R : Value → Shared → Prop} {s2 : Shared}, wpAny (model X.prog X.w) X.A (eval e X.env) R X.xe s2 → wpAny (model X.prog X.w) X.A (do let x ← eval e X.env; standAt pos; pure x) R X.xe s2 := fun h => wpAny_bind (thn h fun _ _ z => wpAny_bind (wpAny_standAt (wpAny_pure z)))
  refine wpAny_disp2 (x := do let x ← eval a X.env; standAt pos; pure x) (y := do let x ← eval b X.env; standAt pos; pure x) (at_ ?_)
  refine thn (ha.run pins _ σ _ (fun v H1 => ∃ M1 J1 d, Ext J J1 ∧ SR X.K G B σ H1 ρ M1 J1 ∧ Rep X.K G J1 d v ∧ M1 s.heap.objs.size = some (.dct []) ∧ d ≠ .loc s.heap.objs.size ∧ dctX d M1 fun kx => kx.length ≤ 1000000 ∧ tb ρ (updM M1 s.heap.objs.size (.dct (mergeKD [] kx))) (fun y M2 => M2 s.heap.objs.size = some (.dct (mergeKD [] kx)) ∧ y ≠ .loc s.heap.objs.size ∧ dctX y M2 fun ky => ky.length ≤ 1000000 ∧ K1 (.loc s.heap.objs.size) (updM M2 s.heap.objs.size (.dct (mergeKD (mergeKD [] kx) ky)))) E1) I1 ⟨ρ, _, J, _, E1, sr1, t1, fun d M' v H' I' z e s' r => ⟨M', I', d, e, s', r, z⟩, er⟩) fun u s1 ⟨z, H1, I2, rz, M1, J1, d, e1, sr2, r1, m1, n1, t2⟩ => ?_
  have lim := sizeLine_eq
  refine merge_step I2 sr2 r1 rz m1 n1 t2 (fun kd hP => by have := hP.1; simp; omega) fun s2 kd H2 hP sr3 I3 => at_ ?_
  obtain ⟨z1, t3⟩ := hP
  refine thn (hb.run pins _ σ _ (fun v H3 => ∃ M2 J2 d, Ext J1 J2 ∧ SR X.K G B σ H3 ρ M2 J2 ∧ Rep X.K G J2 d v ∧ M2 s.heap.objs.size = some (.dct (mergeKD [] kd)) ∧ d ≠ .loc s.heap.objs.size ∧ dctX d M2 fun ky => ky.length ≤ 1000000 ∧ K1 (.loc s.heap.objs.size) (updM M2 s.heap.objs.size (.dct (mergeKD (mergeKD [] kd) ky)))) I3 ⟨ρ, _, J1, _, E1, sr3, t3, fun d M' v H' I' z e s' r => ⟨M', I', d, e, s', r, z⟩, er⟩) fun u s3 ⟨z, H3, I4, rz, M2, J2, d, e2, sr4, r2, m2, n2, t4⟩ => ?_
  refine merge_step I4 sr4 r2 rz m2 n2 t4 (fun ky hP => by
    have h1 := hP.1
    have h2 := length_mergeKD kd []
    simp at h2
    omega) fun s4 ky H4 hP sr5 I5 => ?_
  exact ⟨.ref s.heap.objs.size, H4, I5, rfl, ok _ _ _ _ _ hP.2 (e1.trans e2) sr5 (by unfold Rep; rfl)⟩
/-- tuples laid for the pairs of a dict -/
theorem putT_good {σ : L2.St} {ρ : Slots} {M : Mst} : ∀ (as : List Addr) (kds : List (Key × D)) {kvs : List (Key × V)} {H J : Hp}, as.Nodup → (∀ t ∈ as, H t = none) → as.length = kvs.length → SR X.K G B σ H ρ M J → RepK X.K G J kds kvs →
    ∃ J', Ext J J' ∧ SR X.K G B σ (LiI.putT H as kvs) ρ M J' ∧ Reps X.K G J' (kds.map pairD) (as.map V.ref)
  | [], kds, kvs, H, J, nd, fr, hl, sr, rk => by
    have : kvs = [] := List.length_eq_zero_iff.mp hl.symm
    subst this
    have hk : kds = [] := by
      have := rk.length
      exact List.length_eq_zero_iff.mp this.symm
    subst hk
    exact ⟨J, .refl J, sr, .nil⟩
  | a :: as, [], kvs, H, J, nd, fr, hl, sr, rk => by
    have := rk.length
    rw [← hl] at this
    cases this
  | a :: as, (k, d) :: kds, kvs, H, J, nd, fr, hl, sr, rk => by
    unfold RepK at rk
    obtain ⟨v, t, rfl, r1, r2⟩ := rk
    have na := fr a List.mem_cons_self
    obtain ⟨n1, n2⟩ := List.nodup_cons.mp nd
    have g := sr.good.addI (o := .tup [kV k, v]) na (.inr (.inl ⟨_, rfl⟩))
    have f := sr.good.addI_frm (o := .tup [kV k, v]) na
    obtain ⟨J', e, s', rs⟩ := putT_good as kds n2 (fun b hb => by
      rw [upd_ne (fun z => n1 (by rw [← z]; exact hb))]
      exact fr b (List.mem_cons_of_mem _ hb)) (Nat.succ.inj hl) (sr.step g f) (r2.ext f.ext)
    refine ⟨J', f.ext.trans e, s', .cons ?_ rs⟩
    unfold pairD Rep
    exact ⟨a, _, rfl, .of (e _ _ upd_same), (Reps.cons (rep_key k) (.cons r1 .nil)).ext (f.ext.trans e)⟩
/-- a star's data, ahead of others -/
def starT (t : TD) (r : TDs) : TDs := fun ρ M K E => t ρ M (fun d M1 => match d with
  | .tup xs => r ρ M1 (fun ds M2 => K (xs ++ ds) M2) E
  | _ => seqX d M1 fun xs => r ρ M1 (fun ds M2 => K (xs ++ ds) M2) E) E
/-- the pairs of a dict, ahead of others -/
def stariT (t : TD) (r : TDs) : TDs := fun ρ M K E => t ρ M (fun d M1 => dctX d M1 fun kds => r ρ M1 (fun ds M2 => K (kds.map pairD ++ ds) M2) E) E
theorem pd_star {e : Expr} {es : List Expr} {p : Pos} {t : TD} {r : TDs} (he : PE X e (TEx X.K G B W t)) (hr : PA X es (TAx X.K G B W r)) : PA X (.Starred e p :: es) (TAx X.K G B W (starT t r)) := by
  refine PA.imp (StX.pa_star he hr) fun σ H Q ⟨ρ, M, J, K1, E1, sr, q, ok, er⟩ => ?_
  refine ⟨ρ, M, J, _, E1, sr, q, fun d M1 v H1 J1 z e1 s1 r1 => ?_, er⟩
  have fin : ∀ {xs : List D} {vs : List V}, Reps X.K G J1 xs vs → r ρ M1 (fun ds M2 => K1 (xs ++ ds) M2) E1 → TAx X.K G B W r σ H1 fun ys H2 => Q (vs ++ ys) H2 := fun hx t => ⟨ρ, M1, J1, _, E1, s1, t, fun ds M2 ws H2 J2 k2 e2 s2 r2 => ok _ _ _ _ _ k2 (e1.trans e2) s2 ((hx.ext e2).append r2), er⟩
  dsimp only at z
  split at z
  · unfold Rep at r1
    obtain ⟨a, vs, rfl, h1, h2⟩ := r1
    exact ⟨a, vs, rfl, .inl (s1.good.sub.sqt h1), fin h2 z⟩
  · obtain ⟨xs, hs, z2⟩ := seqX_ok z
    cases d with
    | lst ys =>
      cases hs
      unfold Rep at r1
      obtain ⟨a, vs, rfl, h1, h2⟩ := r1
      exact ⟨a, vs, rfl, .inr (s1.good.sub.sql h1), fin h2 z2⟩
    | loc a =>
      unfold Rep at r1
      subst r1
      unfold seqD at hs
      dsimp only at hs
      split at hs
      · rename_i ys hm
        cases hs
        obtain ⟨_, o, h1, vs, rfl, h2⟩ := s1.good.mst a _ hm
        exact ⟨a, vs, rfl, .inr (.of h1), fin h2 z2⟩
      · cases hs
    | tup ys => rename_i hx; exact absurd rfl (hx ys)
    | _ => cases hs
theorem items_laid0 {pins : List (Addr × Obj)} {σ : L2.St} {H : Hp} {s : Shared} {h' : Heap} {tk : Nat} {kvs : List (Key × V)} {vs : List (Key × Value)} {as : List Addr} (I : L2.Inv X pins σ H s) (kv : KV kvs vs)
    (hk : ∀ b o, s.heap.get? b = some o → h'.get? b = some o) (hl : as.length = vs.length) (hG : PySem.W.KdxG (mixKind X.prog X.w) vs s.heap.objs.size h' as) :
    as.Nodup ∧ (∀ t ∈ as, H t = none) ∧ as.length = kvs.length ∧ L2.Inv X pins σ (LiI.putT H as kvs) { s with heap := h', toks := tk } := by
  have lk : kvs.length = vs.length := Paired.length kv
  have nd : as.Nodup := List.Pairwise.imp (fun {a b} (h : a < b) => Nat.ne_of_lt h) hG.rise
  have new : ∀ t ∈ as, H t = none := fun t ht => I.hok.fresh (Nat.le_of_lt (hG.above t ht))
  have atP := LiI.putT_at as kvs H (by omega) nd
  have off : ∀ b, b ∉ as → LiI.putT H as kvs b = H b := fun b h1 => LiI.putT_off as kvs _ h1
  have low : ∀ b o, s.heap.get? b = some o → b ∉ as := fun b o e z => absurd (Heap.lt_size e) (Nat.not_lt.mpr (Nat.le_of_lt (hG.above b z)))
  have kp : ∀ b u, H b = some u → (LiI.putT H as kvs) b = some u := fun b u e => by
    rw [off b (fun z => by rw [new b z] at e; cases e)]
    exact e
  refine ⟨nd, new, by omega, I.call' (ch := []) rfl ⟨fun b o q _ _ _ => hk b o q, fun b o q _ _ _ => ⟨o.slots, hk b o q⟩, fun b o q n _ => ?_, fun b o q _ => ⟨o, hk b o q⟩, fun b xs q => kp b _ q, fun b o u q => kp b _ q, fun b ps q => ⟨#[], by rw [kp b _ q]; simp⟩⟩ (fun b u q => ?_) I.bare fun b z => by simp at z⟩
  · rw [off b (low b o q)]
    exact n
  · by_cases hb : b ∈ as
    · obtain ⟨j, pk, e1, e2, e3⟩ := LiI.paired_ix atP hb
      rw [e3] at q
      cases q
      obtain ⟨key, k, x, f1, f2, f3⟩ := hG.pairs j b e1
      obtain ⟨qv, g1, g2, g3⟩ := LiI.paired_get kv e2
      rw [f1] at g1
      cases g1
      have rk : RelV (kV pk.1) key := by
        rw [g2]
        exact relV_key (show keyIs k key = true from f2)
      exact ⟨by show 2 ≤ sizeLine; decide, [key, x], .cons rk (.cons g3 .nil), ⟨_, f3, rfl, _, rfl⟩⟩
    · rw [off b hb] at q
      exact (I.hok b u q).stay (fun d v _ y => hk d v y) (fun d y => kp d _ y) fun d xs y => kp d _ y
theorem pd_stari {e : Expr} {es : List Expr} {p apos cpos : Pos} {t : TD} {r : TDs} (hc : X.calm = true) (he : PE X e (TEx X.K G B W t)) (hb : plainBase e = true) (hl : (apos.endLine == cpos.line) = true) (hr : PA X es (TAx X.K G B W r)) :
    PA X (.Starred (.Call (.Attribute e "items" apos) [] [] cpos) p :: es) (TAx X.K G B W (stariT t r)) := by
  refine ⟨fun pos pins s σ H Q I ⟨ρ, M, J, K1, E1, sr, q, ok, er⟩ => ?_⟩
  refine PySem.W.items_star ?_ rfl
  refine wpAny_Call_method (T := "dict") (id := "dict.items") (base_of hb) rfl hl PySem.F.plainAttrs_dict PySem.F.slot_dict_items PySem.F.type_dict_items (thn (he.run pins s σ H (fun v H1 => ∃ M1 J1 d, Ext J J1 ∧ SR X.K G B σ H1 ρ M1 J1 ∧ Rep X.K G J1 d v ∧ dctX d M1 fun kds => r ρ M1 (fun ds M2 => K1 (kds.map pairD ++ ds) M2) E1) I ⟨ρ, M, J, _, E1, sr, q, fun d M' v H' I' z e s' r => ⟨M', I', d, e, s', r, z⟩, er⟩) fun v s1 ⟨z, H1, I1, rz, M1, J1, d, e1, sr1, r1, t1⟩ => ?_)
  obtain ⟨a, kds, kvs, rfl, hd, rk, t1⟩ := dctX_ok sr1.good r1 t1
  obtain rfl : v = Value.ref a := rz
  obtain ⟨hz, hs0, vs, kv, hdo⟩ := dk_rd I1.hok hd
  obtain ⟨ep, hat⟩ := hdo.dictAt
  have lk : kvs.length = vs.length := Paired.length kv
  have I2 : L2.Inv X pins σ H1 { s1 with heap := s1.heap.push { cls := .type "dict_items", data := .fields #[.ref a] } } := I1.kept (t' := s1.toks) fun b ob q => Heap.get?_push_of_some _ q
  refine ⟨hdo.typeIs, hdo.mapOf.noDict, ?_⟩
  show wpAny _ _ (callWith cpos (.builtin "dict.items") [.ref a] [] []) _ X.xe s1
  refine PySem.method_meetsIn PySem.F.slot_dict_items PySem.F.entry_dict_items rfl (PySem.evalArgs_none ⟨rfl, hdo.typeIs, PySem.F.args_dict_items_1 _, _, meets_dict_items (mixKind X.prog X.w) a hs0, ⟨vs, hdo⟩, ?_⟩)
  have hv : Shared.TypeIs { s1 with heap := s1.heap.push { cls := .type "dict_items", data := .fields #[.ref a] } } (.ref s1.heap.objs.size) "dict_items" := ⟨_, Heap.get?_push_size _ rfl, rfl⟩
  unfold PySem.W.StarOf notIterableAtAll
  refine wpAny_bind (wpAny_specialOf hv PySem.F.slot_dict_items_iter.lookup (wpAny_pure ⟨rfl, ?_⟩))
  refine PySem.W.kdx_collect (knd := mixKind X.prog X.w) (kvs := vs) (ep := ep) (I1.ok.hd hc) ⟨_, Heap.get?_push_size _ rfl, rfl, rfl⟩ (hat.push _) (by omega) fun h' tk as hk hl' hG => ?_
  obtain ⟨nd, fr, hl2, J3⟩ := items_laid0 (tk := tk) I2 kv hk hl' hG
  obtain ⟨J', e2, sr2, rs⟩ := putT_good (X := X) as kds nd fr hl2 sr1 rk
  refine thn (hr.run pos pins _ σ _ (fun ys H2 => Q (as.map V.ref ++ ys) H2) J3 ⟨ρ, M1, J', _, E1, sr2, t1, fun ds M2 ws H2 J2 k2 e3 s2 r2 => ok _ _ _ _ _ k2 ((e1.trans e2).trans e3) s2 ((rs.ext e3).append r2), er⟩) fun ws s3 ⟨ys, H3, I3, r3, q3⟩ => ?_
  exact ⟨as.map V.ref ++ ys, H3, I3, (LiI.vals_refs as).append r3, q3⟩
end
end PyD
set_option Elab.async false
set_option linter.all false
set_option autoImplicit false
set_option maxRecDepth 100000
set_option maxHeartbeats 4000000
/-! # Texts of values, calls of classes -/
namespace PyD
open PySem PySem.Spec L2
/-- {x} and {x!s} -/
def fmtD (G : Gam) (Γ : Nat → SpD) (d : D) : TD := fun ρ M K E => match d with
  | .str x => x.length ≤ 1000000 ∧ K (.str x) M
  | .int i => i.natAbs.log2 < 1920 ∧ K (.str (toString i)) M
  | _ => ownTxt G Γ 26 d ρ M K E
section
variable {X : Cx} {G : Gam} {B : Bs} {W : WX} {Γ : Nat → SpD} {kx : Nat}
theorem pd_fmt (c : Ctx X G W Γ kx) {e : Expr} {pos : Pos} {te : TD} (he : PE X e (TEx X.K G B W te)) : PE X (.FormattedValue e (-1) none pos) (TEx X.K G B W (bindD te (fmtD G Γ))) := by
  refine ⟨fun pins s σ H Q I h => wpAny_FormattedValue_plain (thn (he.run pins s σ H _ I (tex_bind h)) fun v s1 ⟨x, H1, I1, rx, q⟩ => ?_)⟩
  obtain ⟨ρ, M, J, K1, E1, d, sr, r, t, ok, er⟩ := q
  unfold fmtD at t
  split at t
  · unfold Rep at r; subst r
    obtain ⟨tk, rfl⟩ := rx
    exact wpAny_formatField_str ⟨.str _, H1, I1, ⟨_, rfl⟩, fin_ok sr ok rep_str t.2⟩ ⟨.str _, H1, I1.tok _, ⟨_, rfl⟩, fin_ok sr ok rep_str t.2⟩ (line_le t.1)
  · unfold Rep at r; subst r
    obtain ⟨tk, rfl⟩ := rx
    exact wpAny_formatField_int t.1 ⟨.str _, H1, I1.tok _, ⟨_, rfl⟩, fin_ok sr ok rep_str t.2⟩
  · have I2 := I1.tok (s1.toks + 1)
    have r6 := c.room
    have r1 : Room (kx + 5) X.A.in1 := r6.in1
    obtain ⟨a, cc, dx, vfs, i, rfl, ha, h1, run⟩ := own_txt c (A := X.A.in1) (r1.mono (by omega)) c.guards I.ok.frames I2 sr r t ok er
    obtain rfl : v = Value.ref a := rx
    obtain ⟨od, J1⟩ := inst_at I1 ha
    obtain ⟨f1, f2⟩ := c.ops.fmt _ _ h1
    obtain ⟨n1, n2⟩ := str_nm c h1
    refine PySem.W.kfo_fieldS r1.units0 I1.kIn J1 f1 f2 n1 n2 (thn run fun z s' hz => ?_)
    obtain ⟨y, tk, rfl, _, q⟩ := hz
    exact q
theorem pd_fmtS (c : Ctx X G W Γ kx) {e : Expr} {pos : Pos} {te : TD} (he : PE X e (TEx X.K G B W te)) : PE X (.FormattedValue e 115 none pos) (TEx X.K G B W (bindD te (fmtD G Γ))) := by
  refine ⟨fun pins s σ H Q I h => wpAny_FormattedValue_s (thn (he.run pins s σ H _ I (tex_bind h)) fun v s1 ⟨x, H1, I1, rx, q⟩ => ?_)⟩
  obtain ⟨ρ, M, J, K1, E1, d, sr, r, t, ok, er⟩ := q
  unfold fmtD at t
  split at t
  · unfold Rep at r; subst r
    obtain ⟨tk, rfl⟩ := rx
    exact SB.convS_str (fun t' k => SB.field_str (fun t'' k' => ⟨.str _, H1, I1.tok _, ⟨_, rfl⟩, fin_ok sr ok rep_str t.2⟩) (line_le t.1)) (line_le t.1)
  · unfold Rep at r; subst r
    obtain ⟨tk, rfl⟩ := rx
    exact SB.convS_int t.1 (SB.field_str (fun t'' k' => ⟨.str _, H1, I1.tok _, ⟨_, rfl⟩, fin_ok sr ok rep_str t.2⟩) (int_text_fits t.1))
  · have r6 := c.room
    obtain ⟨a, cc, dx, vfs, i, rfl, ha, h1, run⟩ := own_txt c (A := X.A) (r6.mono (by omega)) c.guards I.ok.frames I1 sr r t ok er
    obtain rfl : v = Value.ref a := rx
    obtain ⟨od, J1⟩ := inst_at I1 ha
    obtain ⟨n1, n2⟩ := str_nm c h1
    show wpAny _ _ (pyStrObj (.ref a)) _ _ _
    refine PySem.W.kfo_str r6.units0 I1.kIn J1 n1 n2 (thn run fun z s' hz => ?_)
    obtain ⟨y, tk, rfl, hl, z', H', I', rz, q⟩ := hz
    obtain ⟨y', rfl⟩ : ∃ y', z' = .str y' := by cases z' <;> first | exact ⟨_, rfl⟩ | (exfalso; first | exact nomatch rz | (obtain ⟨_, e⟩ := rz; exact nomatch e))
    obtain ⟨tk', e⟩ := rz
    cases e
    exact SB.field_str (fun t'' k' => ⟨.str _, H', I'.tok _, ⟨_, rfl⟩, q⟩) (line_le hl)
/-! ## C.m(..), a class method of the class C -/
theorem fnd_code {k : Nat} {f : Value} {sd : SpD} {A : Around} {pins : List (Addr × Obj)} {s : Shared} {σ : L2.St} {H : Hp} {Q : VK} {xs : List V} {us : List Value} (F : FnD X.prog X.w X.K X.mg X.base G k f [] sd) (hr : Room k A) (hg : A.guards = some []) (hf : A.frames = some X.stack)
    (tk : Takes X W) (I : L2.Inv X pins σ H s) (r : Vals xs us) (t : TEds X.K G B W (spT sd) xs σ H Q) : codeAny (model X.prog X.w) A (.call f ⟨us, []⟩) (fun z s' => match z with
      | .error e => X.xe e s'
      | .ok (.ret u) => EP X pins σ Q u s'
      | _ => False) s := by
  obtain ⟨ρ, M, J, K1, E1, ds, sr, r2, t, ok, er⟩ := t
  have e0 := I.env0
  have e1 : Env0 X.prog X.w X.K X.mg X.base A X.stack s H := ⟨hf, e0.mod, e0.bs, e0.bsz, e0.funs, e0.frf, e0.hok, e0.bare⟩
  have run := F.run A X.stack s H us [] xs ds M J K1 E1 Q (fun cls dx H' => W cls dx σ H') hr hg e1 (by rw [List.append_nil]; exact r) rfl sr.good r2 t (fun d M' v H' I' h g fr q => ok d M' v H' I' h fr.ext (sr.step g fr) q)
    (fun c fs M' cls dx H' I' h g fr q => er c fs M' cls dx H' I' h (sr.step g fr) q)
  refine codeAny_mono run fun z s' hq => ?_
  cases z with
  | error e => exact tk e s' (XE.of_call I (fun _ _ _ h => h) hq)
  | ok fl =>
    cases fl with
    | ret u => exact I.after hq
    | next => exact False.elim hq
    | brk => exact False.elim hq
    | cont => exact False.elim hq
theorem pd_cmet (c : Ctx X G W Γ kx) {cc i : Nat} {x : Str} {k : Nat} {p apos pos : Pos} {e : Expr} {es : List Expr} {ta : TDs} (hn : G.cn cc = some x) (hg : Gl X x) (hm : G.cm cc k [] = some i) (hC : G.isC i = false) (ha : PA X (e :: es) (TAx X.K G B W ta))
    (hs : methShape (.Name x p) apos pos (e :: es) [] = true) : PE X (.Call (.Attribute (.Name x p) (G.nm k) apos) (e :: es) [] pos) (TEx X.K G B W (bindDs ta fun ds => spT (Γ i) (.cls cc :: ds))) := by
  have hs' := hs
  unfold methShape at hs'
  simp only [Bool.and_eq_true] at hs'
  obtain ⟨⟨⟨⟨_, h1⟩, h2⟩, _⟩, _⟩ := hs'
  obtain ⟨hm0, hd⟩ := c.gg.cn _ _ hn
  obtain ⟨⟨mc, pa, f1, f2⟩, hks⟩ := c.gg.cm _ _ _ _ hm
  rw [List.all_cons, Bool.and_eq_true] at h1
  refine ⟨fun pins s σ H Q I h => ?_⟩
  obtain ⟨ρ, M, J, K1, E1, sr, t, ok, er⟩ := h
  refine PySem.W.methodCall_KW (ld_glob I hg hm0 ?_ hd) (meth_shape hs)
  refine ClX.getmethcm_ok I f1 f2 fun s2 I2 => ?_
  refine ClX.callwith_cm I2 (ClX.base_none I (Nat.le_refl _)) f2.fi (thn (ha.run pos _ s2 σ H (fun xs H1 => ∃ M1 J1 ds, Ext J J1 ∧ SR X.K G B σ H1 ρ M1 J1 ∧ Reps X.K G J1 ds xs ∧ Γ i (.cls cc :: ds) M1 K1 E1) I2 ⟨ρ, M, J, _, E1, sr, t, fun ds M' vs H' I' k e s' r => ⟨M', I', ds, e, s', r, k⟩, er⟩)
    fun us s3 ⟨xs, H3, I3, rv, M1, J1, ds, e1, sr1, rs, q⟩ => ⟨⟨ClX.pin_at I3, I3.kIn⟩, ?_⟩) (star_cons h1.1) (star_any h1.2)
  have F := c.calls i _ _ _ _ q
  have F' : FnD X.prog X.w X.K X.mg X.base G kx (.ref (G.adr i)) [] (Γ i) := by
    have F2 := F
    rw [hks] at F2
    unfold FnQ at F2
    rw [hC] at F2
    exact F2
  have z : wpAny (model X.prog X.w) X.A (PySem.call (.ref s.heap.objs.size) us) (EP X ((s.heap.objs.size, PySem.W.methodObj (.ref (G.adr i)) (.ref (G.cl cc))) :: pins) σ Q) X.xe s3 := by
    refine wpAny_call (PySem.W.method_call (ClX.pin_at I3) (codeAny_mono (fnd_code F' (c.room.mono (by omega)) c.guards I.ok.frames c.takes I3 (us := .ref (G.cl cc) :: us) (.cons (show RelV (V.ref (G.cl cc)) (Value.ref (G.cl cc)) from rfl) rv) ⟨ρ, M1, J1, K1, E1, .cls cc :: ds, sr1, .cons (by unfold Rep; rfl) rs, q, ok.mono e1, er⟩) fun z s' hq => ?_))
    cases z with
    | error e => exact hq
    | ok fl =>
      cases fl with
      | ret u => exact hq
      | next => exact False.elim hq
      | brk => exact False.elim hq
      | cont => exact False.elim hq
  exact thn z fun _ _ y => ClX.unpinE y
/-! ## x(..), x a local name that holds a class -/
def callvD (Γ : Nat → SpD) (cc i : Nat) (ta tk : TDs) (d : D) : TD := fun ρ M K E => match d with
  | .cls c' => c' = cc ∧ argsD ta tk (fun ds => spT (Γ i) ds) ρ M K E
  | _ => False
theorem pd_callv (c : Ctx X G W Γ kx) {i cc : Nat} {x y : Str} {p pos : Pos} {es : List Expr} {kws : List Keyword} {tn : TD} {ta tk : TDs} (h0 : PE X (.Name x p) (TEx X.K G B W tn)) (hn : G.gn i = some y) (hc : G.cn cc = some y) (hks : G.ks i = kwNames kws) (ha : PA X es (TAx X.K G B W ta)) (hk : PKd X G B W kws tk)
    (h1 : es.all noStar = true) (h2 : kwNamed kws = true) : PE X (.Call (.Name x p) es kws pos) (TEx X.K G B W (bindD tn (callvD Γ cc i ta tk))) := by
  obtain ⟨hm, kp, hd⟩ := c.gg.gn _ _ hn
  obtain ⟨hm2, _⟩ := c.gg.cn _ _ hc
  have ea : G.adr i = G.cl cc := by
    rw [hm] at hm2
    injection hm2 with e
    injection e
  refine ⟨fun pins s σ H Q I h => wpAny_Call_Name_kw (thn (h0.run pins s σ H _ I (tex_bind h)) fun u s1 ⟨z, H1, I1, rz, q⟩ => ?_)⟩
  obtain ⟨ρ, M, J, K1, E1, d, sr, r, t, ok, er⟩ := q
  unfold callvD at t
  split at t
  · obtain ⟨rfl, t⟩ := t
    unfold Rep at r
    subst r
    obtain rfl : u = Value.ref _ := rz
    rw [← ea]
    refine call_args I1 sr ha hk kp h1 h2 t ok er fun us ws vs ds s2 H2 M2 J2 hl I2 x2 sr2 rv rs q => ?_
    have F := c.calls i _ _ _ _ q
    rw [← hks]
    exact F.call (c.room.mono (by omega)) c.guards I.ok.frames c.takes I2 rv (by rw [hks]; exact hl) ⟨ρ, M2, J2, K1, E1, ds, sr2, rs, q, ok.mono x2, er⟩
  · exact t.elim
/-! ## texts joined -/
structure PJd (X : Cx) (G : Gam) (B : Bs) (W : WX) (xs : List Expr) (t : Str → TD) : Prop where
  ex : ∃ ts, PJ X xs ts ∧ ∀ (acc : Str) (σ : L2.St) (H : Hp) (ρ : Slots) (M : Mst) (J : Hp) (K1 : KD) (E1 : ED) (Q : Str → Hp → Prop), SR X.K G B σ H ρ M J → t acc ρ M K1 E1 → ErC X.K G B W σ ρ E1 →
    (∀ x M' H' J', Ext J J' → SR X.K G B σ H' ρ M' J' → K1 (.str x) M' → Q x H') → tJs ts acc σ H Q
theorem pjd_nil {t : Str → TD} (h : ∀ acc ρ M K E, t acc ρ M K E → K (.str acc) M) : PJd X G B W [] t :=
  ⟨⟨[], .nil, fun acc σ H ρ M J K1 E1 Q sr q er k => k acc M H J (.refl J) sr (h _ _ _ _ _ q)⟩⟩
theorem pjd_cons {e : Expr} {es : List Expr} {te : TD} {r t : Str → TD} (he : PE X e (TEx X.K G B W te)) (hr : PJd X G B W es r) (h : ∀ acc ρ M K E, t acc ρ M K E → te ρ M (fun d M1 => match d with
    | .str y => (acc ++ y).length ≤ 1000000 ∧ r (acc ++ y) ρ M1 K E
    | _ => False) E) : PJd X G B W (e :: es) t := by
  obtain ⟨ts, h1, h2⟩ := hr.ex
  refine ⟨⟨_, .cons he h1, fun acc σ H ρ M J K1 E1 Q sr q er k => ?_⟩⟩
  refine ⟨ρ, M, J, _, E1, sr, h _ _ _ _ _ q, fun d M1 v H1 J1 z e1 s1 r1 => ?_, er⟩
  dsimp only at z
  split at z
  · unfold Rep at r1
    exact ⟨_, r1, line_le z.1, h2 _ σ H1 ρ M1 J1 K1 E1 Q s1 z.2 er fun x M' H' J' e2 s2 kk => k x M' H' J' (e1.trans e2) s2 kk⟩
  · exact z.elim
theorem pd_jn {x y : Expr} {r : List Expr} {t : Str → TD} {pos : Pos} (h : PJd X G B W (x :: y :: r) t) : PE X (.JoinedStr (x :: y :: r) pos) (TEx X.K G B W (t Str.empty)) := by
  obtain ⟨ts, h1, h2⟩ := h.ex
  refine PE.imp (pe_joined h1) fun σ H Q ⟨ρ, M, J, K1, E1, sr, q, ok, er⟩ => ?_
  exact h2 _ σ H ρ M J K1 E1 _ sr q er fun z M' H' J' e1 s1 k => ok _ _ _ _ _ k e1 s1 rep_str
/-! ## displays of dicts -/
/-- pairs one behind another -/
abbrev TPs := Slots → Mst → (List (Key × D) → Mst → Prop) → ED → Prop
def nilP : TPs := fun _ M K _ => K [] M
def consP (tk tv : TD) (r : TPs) : TPs := fun ρ M K E => tk ρ M (fun dk M1 => tv ρ M1 (fun dv M2 => ∃ ky, keyD dk = some ky ∧ r ρ M2 (fun kds M3 => K ((ky, dv) :: kds) M3) E) E) E
/-- {k: v, ..}: the new dict stands empty meanwhile -/
def mdspD (t : TPs) : TD := fun ρ M K E => ∀ p, M p = none → t ρ (updM M p (.dct [])) (fun kds M' => M' p = some (.dct []) ∧ K (.loc p) (updM M' p (.dct (mergeKD [] kds)))) E
structure PPd (X : Cx) (G : Gam) (B : Bs) (W : WX) (pos : Pos) (keys : List (Option Expr)) (values : List Expr) (t : TPs) : Prop where
  ex : ∃ trs, PPs X pos keys values trs ∧ ∀ (σ : L2.St) (H : Hp) (ρ : Slots) (M : Mst) (J : Hp) (K1 : List (Key × D) → Mst → Prop) (E1 : ED) (Q : List (V × V) → Hp → Prop), SR X.K G B σ H ρ M J → t ρ M K1 E1 → ErC X.K G B W σ ρ E1 →
    (∀ kds M' H' J' kvs, Ext J J' → SR X.K G B σ H' ρ M' J' → RepK X.K G J' kds kvs → kds.length = keys.length → K1 kds M' → Q (kvs.map fun kv => (kV kv.1, kv.2)) H') → tPairs trs σ H Q
theorem ppd_nil {pos : Pos} : PPd X G B W pos [] [] nilP :=
  ⟨⟨[], pps_nil, fun σ H ρ M J K1 E1 Q sr t er k => k [] M H J [] (.refl J) sr RepK.nil rfl t⟩⟩
theorem repK_cons {K : PySem.W.Frag} {I : Hp} {k : Key} {d : D} {v : V} {kds : List (Key × D)} {kvs : List (Key × V)} (h : Rep K G I d v) (t : RepK K G I kds kvs) : RepK K G I ((k, d) :: kds) ((k, v) :: kvs) := by
  unfold RepK; exact ⟨v, kvs, rfl, h, t⟩
theorem RepK.ext' {K : PySem.W.Frag} {I I' : Hp} (e : Ext I I') {kds : List (Key × D)} {kvs : List (Key × V)} (h : RepK K G I kds kvs) : RepK K G I' kds kvs := RepK.ext e h
theorem ppd_cons {pos : Pos} {k v : Expr} {ks : List (Option Expr)} {vs : List Expr} {tk tv : TD} {r : TPs} (hk : PE X k (TEx X.K G B W tk)) (hv : PE X v (TEx X.K G B W tv)) (hr : PPd X G B W pos ks vs r) : PPd X G B W pos (some k :: ks) (v :: vs) (consP tk tv r) := by
  obtain ⟨trs, h1, h2⟩ := hr.ex
  refine ⟨⟨_, pps_cons hk hv h1, fun σ H ρ M J K1 E1 Q sr t er kk => ?_⟩⟩
  show TEx X.K G B W tk σ H fun x H1 => TEx X.K G B W tv σ H1 fun y H2 => tPairs trs σ H2 fun ps H3 => Q ((x, y) :: ps) H3
  refine ⟨ρ, M, J, _, E1, sr, t, fun dk M1 x H1 J1 t1 e1 s1 r1 => ?_, er⟩
  refine ⟨ρ, M1, J1, _, E1, s1, t1, fun dv M2 y H2 J2 t2 e2 s2 r2 => ?_, er⟩
  obtain ⟨ky, hky, t2⟩ := t2
  refine h2 σ H2 ρ M2 J2 _ E1 _ s2 t2 er fun kds M3 H3 J3 kvs e3 s3 rk hl q => ?_
  obtain rfl := key_ok hky (r1.ext e2)
  exact kk ((ky, dv) :: kds) M3 H3 J3 ((ky, y) :: kvs) ((e1.trans e2).trans e3) s3 (repK_cons (r2.ext e3) rk) (by rw [List.length_cons, List.length_cons, hl]) q
theorem pd_mdsp {pos : Pos} {keys : List (Option Expr)} {values : List Expr} {t : TPs} (h : PPd X G B W pos keys values t) (hall : keys.all (·.isSome) = true) (hl : keys.length = values.length) (h0 : keys ≠ []) (h15 : keys.length ≤ 15) : PE X (.Dict keys values pos) (TEx X.K G B W (mdspD t)) := by
  obtain ⟨trs, h1, h2⟩ := h.ex
  refine PE.imp (pe_disp h1 hall hl h0 h15) fun σ H Q ⟨ρ, M, J, K1, E1, sr, t, ok, er⟩ p np => ?_
  have nM := sr.good.freeM np
  have g := sr.good.addM (o := .dK []) (mo := .dct []) np (by unfold MRep; exact ⟨[], rfl, RepK.nil⟩)
  have f := sr.good.addM_frm (o := .dK []) (mo := .dct []) np
  refine h2 σ _ ρ _ J _ E1 _ (sr.step g f) (t p nM) er fun kds M' H' J' kvs e s' rk hlen q => ?_
  obtain ⟨hm, q⟩ := q
  obtain ⟨nI, o, ho, vs, rfl, hF⟩ := s'.good.mst _ _ hm
  unfold RepK at hF
  subst hF
  refine ⟨ho, kvs, rfl, by rw [rk.length, hlen]; exact h15, ?_⟩
  refine ok _ _ _ _ J' q e (s'.step (s'.good.setM hm ?_) (s'.good.setM_frm hm)) (by unfold Rep; rfl)
  unfold MRep
  exact ⟨_, rfl, RepK.nil.merge rk⟩
end
end PyD
set_option Elab.async false
set_option linter.all false
set_option autoImplicit false
set_option maxRecDepth 100000
set_option maxHeartbeats 4000000
/-! # Own instances that are called -/
namespace PyD
open PySem PySem.Spec L2
section
variable {X : Cx} {G : Gam} {B : Bs} {W : WX} {Γ : Nat → SpD} {kx : Nat}
/-- as it stands in the code -/
theorem FnD.code {X : Cx} {G : Gam} {B : Bs} {W : WX} {k : Nat} {f : Value} {sd : SpD} {A : Around} {pins : List (Addr × Obj)} {s : Shared} {σ : L2.St} {H : Hp} {Q : VK} {xs : List V} {us : List Value} (F : FnD X.prog X.w X.K X.mg X.base G k f [] sd) (hr : Room k A) (hg : A.guards = some []) (hf : A.frames = some X.stack)
    (tk : Takes X W) (I : L2.Inv X pins σ H s) (r : Vals xs us) (t : TEds X.K G B W (spT sd) xs σ H Q) :
    codeAny (model X.prog X.w) A (.call f ⟨us, []⟩) (fun r s' => match r with | .ok (.ret v) => EP X pins σ Q v s' | .ok _ => False | .error e => X.xe e s') s := by
  obtain ⟨ρ, M, J, K1, E1, ds, sr, r2, t, ok, er⟩ := t
  have e0 := I.env0
  have e1 : Env0 X.prog X.w X.K X.mg X.base A X.stack s H := ⟨hf, e0.mod, e0.bs, e0.bsz, e0.funs, e0.frf, e0.hok, e0.bare⟩
  refine codeAny_mono (F.run A X.stack s H us [] xs ds M J K1 E1 Q (fun cls dx H' => W cls dx σ H') hr hg e1 (by rw [List.append_nil]; exact r) rfl sr.good r2 t (fun d M' v H' I' h g fr q => ok d M' v H' I' h fr.ext (sr.step g fr) q)
    (fun c fs M' cls dx H' I' h g fr q => er c fs M' cls dx H' I' h (sr.step g fr) q)) fun z s' hq => ?_
  cases z with
  | error e => exact tk e s' (XE.of_call I (fun _ _ _ h => h) hq)
  | ok fl =>
    cases fl with
    | ret u => exact I.after hq
    | next => exact False.elim hq
    | brk => exact False.elim hq
    | cont => exact False.elim hq
/-- obj(..) -/
def calD (G : Gam) (Γ : Nat → SpD) (d : D) (ta : TDs) : TD := fun ρ M K E => instX d M fun _ _ => ta ρ M (fun ds M' => instX d M' fun c _ => match G.dn c 25 with
    | some i => G.ks i = [] ∧ G.isC i = false ∧ Γ i (d :: ds) M' K E
    | none => False) E
theorem pd_cal (c : Ctx X G W Γ kx) {fe e : Expr} {es : List Expr} {pos : Pos} {tf : TD} {ta : TDs} (hf : PE X fe (TEx X.K G B W tf)) (ha : PA X (e :: es) (TAx X.K G B W ta)) (h1 : (e :: es).all noStar = true)
    (ht : ∀ (Q : Value → Shared → Prop) (s : Shared), wpAny (model X.prog X.w) X.A (eval fe X.env) (fun f s1 => wpAny (model X.prog X.w) X.A (callWith pos f [] (backTo pos (starEach (e :: es) X.env)) (backToKw pos (keywordEach [] X.env))) Q X.xe s1) X.xe s → wpAny (model X.prog X.w) X.A (eval (.Call fe (e :: es) [] pos) X.env) Q X.xe s) :
    PE X (.Call fe (e :: es) [] pos) (TEx X.K G B W (bindD tf fun d => calD G Γ d ta)) := by
  refine ⟨fun pins s σ H Q I h => ?_⟩
  obtain ⟨ρ, M, J, K1, E1, sr, t, ok, er⟩ := h
  refine ht _ _ (thn (hf.run pins s σ H (fun x H1 => ∃ M1 J1 d, Ext J J1 ∧ SR X.K G B σ H1 ρ M1 J1 ∧ Rep X.K G J1 d x ∧ calD G Γ d ta ρ M1 K1 E1) I ⟨ρ, M, J, _, E1, sr, t, fun d M' v H' I' z e s' r => ⟨M', I', d, e, s', r, z⟩, er⟩) fun u s1 ⟨x, H1, I1, rx, M1, J1, d, e1, sr1, r1, t1⟩ => ?_)
  unfold calD at t1
  obtain ⟨cc, fs, hi, t1⟩ := instX_ok t1
  obtain ⟨a, dx, vfs, rfl, hA, _⟩ := instD_ok sr1.good r1 hi
  obtain rfl : u = Value.ref a := rx
  rw [List.all_cons, Bool.and_eq_true] at h1
  refine StX.callO_with (thn (ha.run pos pins s1 σ H1 (fun xs H2 => ∃ M2 J2 ds, Ext J1 J2 ∧ SR X.K G B σ H2 ρ M2 J2 ∧ Reps X.K G J2 ds xs ∧ _) I1 ⟨ρ, M1, J1, _, E1, sr1, t1, fun ds M' vs H' I' k e s' r => ⟨M', I', ds, e, s', r, k⟩, er⟩) fun us s2 ⟨xs, H2, I2, rv, M2, J2, ds, e2, sr2, q2, t2⟩ => ?_) (star_cons h1.1) (star_any h1.2)
  obtain ⟨cc2, fs2, hi2, t2⟩ := instX_ok t2
  obtain ⟨a2, dx2, vfs2, ea, hA2, _⟩ := instD_ok sr2.good (r1.ext e2) hi2
  cases ea
  split at t2
  · rename_i i hdn
    obtain ⟨hks, hisC, t2⟩ := t2
    obtain ⟨_, ⟨m11, m12, m13⟩, sf⟩ := c.ops.ok.dn _ _ _ hdn
    rw [show G.nm 25 = "__call__" from c.ops.dund 25 (by decide)] at m11
    obtain ⟨ox, od, J3, hd⟩ := StX.insC_at (C := G.cl cc2) I2 (.inr ⟨_, _, hA2⟩)
    refine ⟨⟨_, ox, od, J3, hd⟩, ?_⟩
    have F := c.calls i _ _ _ _ t2
    rw [hisC, hks] at F
    exact wpAny_call (PySem.W.kco_code I2.kIn J3 hd m11 m12 (c.ops.gi _ _ _ (.inr rfl) hdn) (FnD.code F (c.room.mono (by omega)) c.guards I2.ok.frames c.takes I2 (.cons (show RelV (V.ref a) (Value.ref a) from rfl) rv) ⟨ρ, M2, J2, K1, E1, d :: ds, sr2, .cons (r1.ext e2) q2, t2, (ok.mono e1).mono e2, er⟩))
  · exact t2.elim
end
end PyD
set_option Elab.async false
set_option linter.all false
set_option autoImplicit false
set_option maxRecDepth 100000
set_option maxHeartbeats 4000000
/-! # Instances walked by their own __iter__ -/
namespace PyD
open PySem PySem.Spec L2 ItX

section
variable {X : Cx} {G : Gam} {B : Bs} {W : WX} {Γ : Nat → SpD} {kx : Nat}
/-- at a an instance whose __iter__ gives an iterator over a locked dict's keys -/
def OwnR (X : Cx) (a : Addr) (H : Hp) (R : L2.It → Hp → Prop) : Prop := ∃ C dx vfs f, H a = some (.ins C dx vfs) ∧ PySem.W.findIn X.K (.ref C) "__iter__" = some (some (.ref f)) ∧ PySem.W.isFn X.K (.ref f) = true ∧
  ∀ s, Env0 X.prog X.w X.K X.mg X.base X.A X.stack s H → codeAny (model X.prog X.w) X.A (.call (.ref f) ⟨[.ref a], []⟩) (CR (CX X.prog X.w) X.stack X.prog X.w H s (fun v H' => ∃ it d ob kvs es ep, v = .ref it ∧ H d = some (.frz ob (.dK kvs)) ∧ ob.data = .dict es ep ∧ H it = none ∧ s.heap.objs.size ≤ it ∧ H' = upd H it (.ext fun h => h.IsKeyIter it d 0 kvs.length ep) ∧ R (Itk d ob kvs) H) (fun _ _ _ => False)) s
theorem pie_own {tg : Expr} {pins : List (Addr × Obj)} {σ : L2.St} {H : Hp} {s : Shared} {a : Addr} {R : L2.It → Hp → Prop} (I : L2.Inv X pins σ H s) (h : OwnR X a H R) :
    wpAny (model X.prog X.w) X.A (pyIter (.ref a)) (PIE X pins σ tg R) X.xe s := by
  obtain ⟨C, dx, vfs, f, ha, hi, hf, hr⟩ := h
  obtain ⟨od, J⟩ := inst_at I ha
  obtain ⟨m, hF⟩ := I.fr
  refine PySem.W.owit_iter hF I.ok.mod.kin J hi hf (wpAny_call (codeAny_mono (hr s I.env0) fun r s' hq => ?_))
  cases r with
  | error e =>
    obtain ⟨a1, B1, H1, c1, d1, e1, fl, hok, ub, na, os, ag, hE⟩ := hq
    exact hE.elim
  | ok fl =>
    cases fl with
    | ret u =>
      obtain ⟨v, H', I', rv, it, d, ob, kvs, es, ep, rfl, hd, hdt, hn, hz, rfl, q⟩ := I.after hq
      obtain rfl : u = Value.ref it := rv
      have hx : s'.heap.IsKeyIter it d 0 kvs.length ep := (I'.hok it _ upd_same).1
      have I2 := inv_drop I' upd_same
      have fp := inv_fp I' upd_same (Nat.le_trans I.sz hz)
      rw [dropH_upd hn] at I2 fp
      have hT : s'.TypeIs (.ref it) "dict_keyiterator" := by
        obtain ⟨o, ho, hc, _⟩ := hx
        exact ⟨o, ho, hc⟩
      unfold PySem.W.OwitIt
      refine wpAny_specialOf hT F.slot_dict_keyiterator_next.lookup ?_
      exact ⟨it, [it], _, _, H, rfl, I2, turn_keys it hdt, hx, fun b hb => by
        obtain rfl := List.mem_singleton.mp hb
        exact fp, q⟩
    | next => exact False.elim hq
    | brk => exact False.elim hq
    | cont => exact False.elim hq
/-- a list, a tuple, a locked dict, a text, an own instance -/
def iAnyO (X : Cx) (tl : TE) : TI := fun σ H R => tl σ H fun x H1 => ((∃ a, x = .ref a ∧ (((∃ xs, SqL X.K H1 a xs) ∧ R (Itl X.K a) H1) ∨ ((∃ xs, SqT X.K H1 a xs) ∧ R (Itt X.K a) H1) ∨ ∃ o kvs, H1 a = some (.frz o (.dK kvs)) ∧ R (Itk a o kvs) H1)) ∨ ∃ y, x = .str y ∧ R (Its y) H1) ∨ ∃ a, x = .ref a ∧ OwnR X a H1 R
theorem pi_anyO {tg l : Expr} {tl : TE} (hl : PE X l tl) : PI X tg l (iAnyO X tl) := by
  refine ⟨fun pins s σ H R I h => ?_⟩
  refine thn (hl.run pins s σ H _ I h) fun v s1 ⟨x, H1, I1, r1, q0⟩ => ?_
  have own : ∀ b ∈ [s1.heap.objs.size], FpOk X pins H1 b := fun b hb => by
    obtain rfl := List.mem_singleton.mp hb
    exact I1.fpOk (Nat.le_refl _) (I1.hok.fresh (Nat.le_refl _))
  rcases q0 with q1 | ⟨a, rfl, q1⟩
  · rcases q1 with ⟨a, rfl, q⟩ | ⟨y, rfl, q⟩
    · obtain rfl : v = Value.ref a := r1
      rcases q with ⟨⟨xs, hq⟩, q⟩ | ⟨⟨xs, hq⟩, q⟩ | ⟨o, kvs, hd, q⟩
      · obtain ⟨its, rv, p, hz⟩ := I1.list hq
        exact wpAny_pyIter_list p.isList ⟨s1.heap.objs.size, _, _, _, H1, rfl, I1.kept (t' := s1.toks) fun b o e => Heap.get?_push_of_some _ e, turn_list a _, ⟨_, Heap.get?_push_size _ rfl, rfl, rfl⟩, own, q⟩
      · obtain ⟨its, rv, p, hz⟩ := I1.tuple hq
        exact wpAny_pyIter_tuple (show s1.heap.IsTuple a its.toArray from p) ⟨s1.heap.objs.size, _, _, _, H1, rfl, I1.kept (t' := s1.toks) fun b o e => Heap.get?_push_of_some _ e, turn_tuple a _, ⟨_, Heap.get?_push_size _ rfl, rfl, rfl⟩, own, q⟩
      · obtain ⟨hs, hgd, hx, es, ep, vs, hdt, hsz, kv, hm⟩ := I1.frzK hd
        refine iter_keys hs hgd hx hdt (pi_one (tk := s1.toks) I1 _ (turn_keys _ hdt) ⟨_, Heap.get?_push_size _ rfl, rfl, ?_⟩ q)
        rw [hsz] <;> rfl
    · obtain ⟨t, rfl⟩ := r1
      cases ha : y.cps.all (· < 128)
      · exact PySem.wpAny_pyIter_wide ha (pi_one (tk := s1.toks) I1 _ (turn_str _ y t "str_iterator" (.inr rfl)) ⟨_, Heap.get?_push_size _ rfl, rfl, rfl⟩ q)
      · exact PySem.wpAny_pyIter_ascii ha (pi_one (tk := s1.toks) I1 _ (turn_str _ y t "str_ascii_iterator" (.inl rfl)) ⟨_, Heap.get?_push_size _ rfl, rfl, rfl⟩ q)
  · obtain rfl : v = Value.ref a := r1
    exact pie_own I1 q1
/-- what an own instance is walked by -/
def ownK (G : Gam) (d : D) (M : Mst) (K : List D → Prop) : Prop := instX d M fun c _ => match G.itf c with
  | some p => pathX G p d M fun e => match e with
    | .dct kds => K (kds.map fun p => kD p.1)
    | _ => False
  | none => False
def anyO (G : Gam) (t : TD) : TDs := fun ρ M K E => t ρ M (fun d M' => match d with
  | .lst ds => K ds M'
  | .tup ds => K ds M'
  | .dct kds => K (kds.map fun p => kD p.1) M'
  | .str x => K (charsD x) M'
  | .obj c fs => ownK G (.obj c fs) M' fun ds => K ds M'
  | .loc a => (∃ ob vs kds, M' a = some (.lok ob vs kds) ∧ K (kds.map fun p => kD p.1) M') ∨ ownK G (.loc a) M' fun ds => K ds M'
  | _ => False) E
theorem pathX_imp {G : Gam} {d : D} {M : Mst} : ∀ {p : List Nat} {P Q : D → Prop}, pathX G p d M P → (∀ e, P e → Q e) → pathX G p d M Q
  | [], _, _, h, k => k _ h
  | j :: r, P, Q, h, k => by
    unfold pathX at h ⊢
    refine pathX_imp h fun e h => ?_
    cases e with
    | obj c fs =>
      obtain ⟨h1, y, h2, h3⟩ := h
      exact ⟨h1, y, h2, k _ h3⟩
    | loc a =>
      obtain ⟨c, fs, hm, h1, y, h2, h3⟩ := h
      exact ⟨c, fs, hm, h1, y, h2, k _ h3⟩
    | _ => exact h.elim
theorem own_at (c : Ctx X G W Γ kx) {ρ : Slots} {M : Mst} {I : Hp} {σ : L2.St} {H : Hp} {d : D} {v : V} {K1 : List D → Prop} {R : L2.It → Hp → Prop} (s : SR X.K G B σ H ρ M I) (r : Rep X.K G I d v) (h : ownK G d M K1)
    (k : ∀ ds J, K1 ds → Walk X.K G I M ds J → R J H) : ∃ a, v = .ref a ∧ OwnR X a H R := by
  obtain ⟨cc, fs, hi, h⟩ := instX_ok h
  obtain ⟨a, dx, vfs, rfl, h1, h2⟩ := instD_ok s.good r hi
  split at h
  · rename_i p hp
    obtain ⟨i1, i2, i3⟩ := c.iters cc p hp
    refine ⟨a, rfl, G.cl cc, dx, vfs, G.ita cc, h1, i2.at_, i2.fn, fun s0 e0 => ?_⟩
    refine i3.run X.A X.stack s0 H (.ref a) (.ref a) d M I (fun kds => K1 (kds.map fun p => kD p.1)) _ (c.room.mono (by omega)) c.guards e0 (show RelV (.ref a) (.ref a) from rfl) s.good r (pathX_imp h fun e he => ?_) fun it a' ob kvs es ep kds hR rk ha hdt hn hz => ?_
    · cases e with
      | dct kds => exact ⟨kds, rfl, he⟩
      | _ => exact he.elim
    · exact ⟨it, a', ob, kvs, es, ep, rfl, s.good.sub _ _ ha, hdt, hn, hz, rfl, k _ _ hR (walk_keys ha rk)⟩
  · exact h.elim
theorem pid_anyO (c : Ctx X G W Γ kx) {tg e : Expr} {t : TD} (h : PE X e (TEx X.K G B W t)) : PId X G B W tg e (anyO G t) := by
  refine ⟨_, pi_anyO h, fun σ H ρ M I K1 E1 R s q er k => ?_⟩
  refine ⟨ρ, M, I, _, _, s, q, fun d M' v H' I' z e s' r => ?_, er⟩
  dsimp only at z
  split at z
  · unfold Rep at r
    obtain ⟨a, vs, rfl, hs, hr⟩ := r
    exact .inl (.inl ⟨a, rfl, .inl ⟨⟨vs, s'.good.sub.sql hs⟩, k _ _ _ _ _ z e s' (walk_list hs hr)⟩⟩)
  · unfold Rep at r
    obtain ⟨a, vs, rfl, hs, hr⟩ := r
    exact .inl (.inl ⟨a, rfl, .inr (.inl ⟨⟨vs, s'.good.sub.sqt hs⟩, k _ _ _ _ _ z e s' (walk_tup hs hr)⟩)⟩)
  · unfold Rep at r
    obtain ⟨a, ob, kvs, rfl, hs, hr⟩ := r
    exact .inl (.inl ⟨a, rfl, .inr (.inr ⟨ob, kvs, s'.good.sub _ _ hs, k _ _ _ _ _ z e s' (walk_keys hs hr)⟩)⟩)
  · rename_i x
    unfold Rep at r
    subst r
    exact .inl (.inr ⟨x, rfl, k _ _ _ _ _ z e s' (walk_str x)⟩)
  · exact .inr (own_at c s' r z fun ds J h1 h2 => k _ _ _ _ _ h1 e s' h2)
  · rename_i a
    rcases z with ⟨ob, vs, kds, hm, z⟩ | z
    · unfold Rep at r
      subst r
      obtain ⟨rk, ha, hl⟩ := lok_at s'.good hm
      exact .inl (.inl ⟨a, rfl, .inr (.inr ⟨ob, vs, ha, k _ _ _ _ _ z e s' (walkL_keys hl rk)⟩)⟩)
    · exact .inr (own_at c s' r z fun ds J h1 h2 => k _ _ _ _ _ h1 e s' h2)
  · exact z.elim
end
end PyD
set_option Elab.async false
set_option linter.all false
set_option autoImplicit false
set_option maxRecDepth 100000
set_option maxHeartbeats 4000000
/-! # Expressions, resolved: what they look like, what they mean -/
namespace PyD
open PySem PySem.Spec L2

mutual
inductive E where
  | no | var (i : Nat) | con (d : D) | kon (j : Nat) | kls (c : Nat) | ty (n : String)
  | bin (op : Operator) (a b : E) | cmp (op : CmpOp) (a b : E) | chn (op op' : CmpOp) (a b c : E)
  | neg (a : E) | not (a : E) | and (a b : E) | or (a b : E) | ite (c a b : E)
  | att (a : E) (k : Nat) | sub (a b : E) | cut (a lo hi : E)
  | tup (es : Es) | lst (es : Es) | mlst (es : Es)
  | call (i : Nat) (es ks : Es) | meth (a : E) (k : Nat) (n : List Str) (es ks : Es) | stat (c k : Nat) (n : List Str) (es ks : Es) | blt (b : Blt) (es : Es)
  | frz (a : E)
  | lc (e : E) (tg : List Nat) (one : Bool) (it : It) (c : E) | dc (k v : E) (tg : List Nat) (one : Bool) (it : It) (c : E)
  | inn (neg : Bool) (a b : E) | eqd (neg : Bool) (a b : E) | subo (a b : E) | get (a k x : E) | bm (m : Bm) (a x : E) | blx (b : Blx) (a : E) | dct0 | mdct0
  | mrg (a b : E) | tups (ss : Sts) | lsts (ss : Sts) | mlsts (ss : Sts)
  | fmt (s : Bool) (a : E) | jn (es : Es) | jn1 (a : E) | cmet (c k : Nat) (es : Es) | callv (v cc i : Nat) (es ks : Es) | mdsp (ps : Ps)
  | dc2 (k v : E) (i : Nat) (it : It) (j : Nat) (it2 : It)
  | cal (a : E) (es : Es)
inductive Es where
  | nil | cons (e : E) (es : Es)
/-- items with stars -/
inductive Sts where
  | nil | one (e : E) (r : Sts) | star (e : E) (r : Sts) | itms (e : E) (r : Sts)
/-- pairs -/
inductive Ps where
  | nil | cons (k v : E) (r : Ps)
/-- what is walked -/
inductive It where
  | seq (e : E) | rng (e : E) | itm (e : E) | val (e : E) | zip (a b : E)
end
/-- what may stand ahead of the brackets -/
def calF : Expr → Bool
  | .Name _ _ => true
  | .BinOp _ _ _ _ => true
  | _ => false
def isNo : E → Bool
  | .no => true
  | _ => false
/-- the names of a body and their kinds -/
structure Sc where
  N : List Str
  sc : Scope
def visB (s : Sc) (x : Str) : Bool := match s.sc.names.lookup x with
  | some .local => true
  | some .cell => true
  | some .free => true
  | _ => false
def locB (s : Sc) (x : Str) : Bool := match s.sc.names.lookup x with
  | some .local => true
  | some .cell => true
  | _ => false
def glB (s : Sc) (x : Str) : Bool := s.sc.names.lookup x == some .globalImplicit
def okNm (x : Str) : Bool := !(x == ("__debug__" : Str)) && !(x == ("__classdict__" : Str))
def conB : Const → D → Bool
  | .none, .non => true
  | .bool a, .bl b => a == b
  | .int i, .int j => i == j
  | .str x, .str y => x == y
  | _, _ => false
def nameIs (s : Sc) (o : Option Str) : Expr → Bool
  | .Name y _ => glB s y && (o == some y)
  | _ => false
def ownB (scope : Scope) (y : Str) : Bool := (scope.names.lookup y == some .local) || (scope.names.lookup y == some .cell)
/-- the names of a comprehension's target, with their places -/
def ownOf (N : List Str) (scope : Scope) : List Nat → List Expr → Option (List (Str × Nat))
  | [], xs => if xs.isEmpty then some [] else none
  | i :: is, xs => match xs with
    | .Name y _ :: t => if ((N[i]? == some y) && ownB scope y) = true then (ownOf N scope is t).map ((y, i) :: ·) else none
    | _ => none
def ownT (N : List Str) (scope : Scope) (is : List Nat) (one : Bool) : Expr → Option (List (Str × Nat))
  | .Name y p => if one = true then ownOf N scope is [.Name y p] else none
  | .Tuple ts _ _ => if one = true then none else ownOf N scope is ts
  | _ => none
def blkB (s : Sc) (scope : Scope) (is : List Nat) (one : Bool) (tg : Expr) : Bool := match ownT s.N scope is one tg with
  | some own => blkC s.N s.sc scope own && (!one || is.length == 1)
  | none => false
def Sc.blk (s : Sc) (scope : Scope) : Sc := ⟨s.N, relS scope s.sc⟩
def isTup : Expr → Bool
  | .Tuple _ _ _ => true
  | _ => false
section
variable (G : Gam)
mutual
def chk (s : Sc) : E → Expr → Bool
  | .no, _ => false
  | .var i, x => match x with
    | .Name y _ => (s.N[i]? == some y) && visB s y && okNm y
    | _ => false
  | .con d, x => match x with
    | .Constant c _ _ => conB c d
    | _ => false
  | .kon j, x => nameIs s ((G.kon j).map (·.1)) x
  | .kls c, x => nameIs s (G.cn c) x
  | .ty n, x => match x with
    | .Name y _ => glB s y && (y == Str.ofString n) && bltNames.contains y && (bootBuiltins y == some (.type n)) && !(y == ("__name__" : Str)) && okNm y
    | _ => false
  | .bin op a b, x => match x with
    | .BinOp l o r _ => chk s a l && (o == op) && chk s b r
    | _ => false
  | .cmp op a b, x => match x with
    | .Compare l [o] [r] _ => chk s a l && (o == op) && chk s b r && noSet r
    | _ => false
  | .chn op op' a b c, x => match x with
    | .Compare l [o, o'] [r, r'] _ => chk s a l && (o == op) && (o' == op') && chk s b r && chk s c r' && noSet r && noSet r'
    | _ => false
  | .neg a, x => match x with
    | .UnaryOp .USub e _ => chk s a e
    | _ => false
  | .not a, x => match x with
    | .UnaryOp .Not e _ => chk s a e
    | _ => false
  | .and a b, x => match x with
    | .BoolOp .And (e :: r) p => chk s a e && (match r with
      | [] => false
      | [f] => chk s b f
      | f :: g :: t => chk s b (.BoolOp .And (f :: g :: t) p))
    | _ => false
  | .or a b, x => match x with
    | .BoolOp .Or (e :: r) p => chk s a e && (match r with
      | [] => false
      | [f] => chk s b f
      | f :: g :: t => chk s b (.BoolOp .Or (f :: g :: t) p))
    | _ => false
  | .ite c a b, x => match x with
    | .IfExp t y z _ => chk s c t && chk s a y && chk s b z
    | _ => false
  | .att a k, x => match x with
    | .Attribute e m _ => chk s a e && (m == G.nm k) && plainBase e
    | _ => false
  | .sub a b, x => match x with
    | .Subscript e f _ => chk s a e && chk s b f && noSlice f
    | _ => false
  | .cut a lo hi, x => match x with
    | .Subscript e (.Slice l h none _) _ => chk s a e && (match l with
      | none => isNo lo
      | some y => chk s lo y) && (match h with
      | none => isNo hi
      | some y => chk s hi y)
    | _ => false
  | .tup es, x => match x with
    | .Tuple xs _ _ => chks s es xs
    | _ => false
  | .lst es, x => match x with
    | .List xs _ => chks s es xs
    | _ => false
  | .mlst es, x => match x with
    | .List xs _ => chks s es xs
    | _ => false
  | .call i es ks, x => match x with
    | .Call f xs kws _ => nameIs s (G.gn i) f && (kwNames kws == G.ks i) && kwNamed kws && chks s es xs && chkk s ks kws
    | _ => false
  | .meth a k n es ks, x => match x with
    | .Call (.Attribute o m apos) xs kws pos => chk s a o && (m == G.nm k) && methShape o apos pos xs kws && (kwNames kws == n) && chks s es xs && chkk s ks kws
    | _ => false
  | .stat c k n es ks, x => match x with
    | .Call (.Attribute o m apos) xs kws pos => nameIs s (G.cn c) o && (m == G.nm k) && methShape o apos pos xs kws && (kwNames kws == n) && chks s es xs && chkk s ks kws
    | _ => false
  | .blt b es, x => match x with
    | .Call f xs [] _ => nameIs s (some b.nm) f && chks s es xs && !xs.isEmpty
    | _ => false
  | .frz a, x => chk s a x
  | .cal a es, x => match x with
    | .Call f (e :: xs) [] _ => chk s a f && chks s es (e :: xs) && calF f
    | _ => false
  | .lc e tg one it c, x => match x with
    | .ListComp elt [⟨t, iter, ifs, 0⟩] scope _ => blkB s scope tg one t && chkI s it t iter && noSet iter && chk (s.blk scope) e elt && (match ifs with
      | [] => isNo c
      | [f] => !isNo c && chk (s.blk scope) c f
      | _ => false)
    | _ => false
  | .dc k v tg one it c, x => match x with
    | .DictComp kx vx [⟨t, iter, ifs, 0⟩] scope _ => blkB s scope tg one t && chkI s it t iter && noSet iter && chk (s.blk scope) k kx && chk (s.blk scope) v vx && (match ifs with
      | [] => isNo c
      | [f] => !isNo c && chk (s.blk scope) c f
      | _ => false)
    | _ => false
  | .inn neg a b, x => match x with
    | .Compare l [o] [r] _ => chk s a l && (o == (if neg then .NotIn else .In)) && chk s b r && noSet r
    | _ => false
  | .eqd neg a b, x => match x with
    | .Compare l [o] [r] _ => chk s a l && (o == (if neg then .NotEq else .Eq)) && chk s b r && noSet r
    | _ => false
  | .subo a b, x => match x with
    | .Subscript e f _ => chk s a e && chk s b f && noSlice f
    | _ => false
  | .get a k d, x => match x with
    | .Call (.Attribute o m apos) [kx] [] cpos => chk s a o && (m == "get") && plainBase o && chk s k kx && noStar kx && (apos.endLine == cpos.line) && isNo d
    | .Call (.Attribute o m apos) [kx, fx] [] cpos => chk s a o && (m == "get") && plainBase o && chk s k kx && noStar kx && (apos.endLine == cpos.line) && chk s d fx && noStar fx
    | _ => false
  | .bm n a d, x => match x with
    | .Call (.Attribute o m apos) [kx] [] cpos => chk s a o && (m == n.nm) && plainBase o && chk s d kx && noStar kx && (apos.endLine == cpos.line)
    | _ => false
  | .blx b a, x => match x with
    | .Call f [kx] [] _ => nameIs s (some b.nm) f && chk s a kx && noStar kx
    | _ => false
  | .dct0, x => match x with
    | .Dict [] [] _ => true
    | _ => false
  | .mdct0, x => match x with
    | .Dict [] [] _ => true
    | _ => false
  | .mrg a b, x => match x with
    | .Dict [none, none] [y, z] _ => chk s a y && chk s b z
    | _ => false
  | .tups ss, x => match x with
    | .Tuple xs _ _ => chkT s ss xs
    | _ => false
  | .lsts ss, x => match x with
    | .List xs _ => chkT s ss xs
    | _ => false
  | .mlsts ss, x => match x with
    | .List xs _ => chkT s ss xs
    | _ => false
  | .fmt b a, x => match x with
    | .FormattedValue e c none _ => chk s a e && (c == (if b then 115 else -1))
    | _ => false
  | .jn es, x => match x with
    | .JoinedStr (y :: z :: r) _ => chks s es (y :: z :: r)
    | _ => false
  | .jn1 a, x => match x with
    | .JoinedStr [y] _ => chk s a y
    | _ => false
  | .cmet c k es, x => match x with
    | .Call (.Attribute o m apos) xs [] pos => nameIs s (G.cn c) o && (m == G.nm k) && methShape o apos pos xs [] && chks s es xs && !xs.isEmpty
    | _ => false
  | .callv v c i es ks, x => match x with
    | .Call (.Name y _) xs kws _ => (s.N[v]? == some y) && visB s y && okNm y && (G.gn i).isSome && (G.gn i == G.cn c) && (kwNames kws == G.ks i) && kwNamed kws && chks s es xs && chkk s ks kws
    | _ => false
  | .mdsp ps, x => match x with
    | .Dict keys values _ => keys.all (·.isSome) && decide (keys.length = values.length) && !keys.isEmpty && decide (keys.length ≤ 15) && chkP s ps keys values
    | _ => false
  | .dc2 k v a ia b ib, x => match x with
    | .DictComp kx vx [⟨.Name y p, ea, [], 0⟩, ⟨.Name z q, eb, [], 0⟩] scope _ => (s.N[a]? == some y) && ownB scope y && (s.N[b]? == some z) && ownB scope z && blkC s.N s.sc scope [(y, a), (z, b)] && chkI s ia (.Name y p) ea && noSet ea && chkI (s.blk scope) ib (.Name z q) eb && noSet eb && chk (s.blk scope) k kx && chk (s.blk scope) v vx
    | _ => false
def chkP (s : Sc) : Ps → List (Option Expr) → List Expr → Bool
  | .nil, ks, vs => ks.isEmpty && vs.isEmpty
  | .cons k v r, ks, vs => match ks, vs with
    | some x :: ks, y :: vs => chk s k x && chk s v y && chkP s r ks vs
    | _, _ => false
def chkT (s : Sc) : Sts → List Expr → Bool
  | .nil, xs => xs.isEmpty
  | .one e r, xs => match xs with
    | x :: t => chk s e x && noStar x && chkT s r t
    | [] => false
  | .star e r, xs => match xs with
    | .Starred x _ :: t => chk s e x && chkT s r t
    | _ => false
  | .itms e r, xs => match xs with
    | .Starred (.Call (.Attribute o m apos) [] [] cpos) _ :: t => chk s e o && (m == "items") && plainBase o && (apos.endLine == cpos.line) && chkT s r t
    | _ => false
def chkI (s : Sc) : It → Expr → Expr → Bool
  | .seq e, _, x => chk s e x
  | .rng e, _, x => match x with
    | .Call (.Name y _) [a] [] _ => (y == "range") && glB s y && chk s e a && noStar a
    | _ => false
  | .itm e, t, x => match x with
    | .Call (.Attribute o m apos) [] [] cpos => isTup t && chk s e o && (m == "items") && plainBase o && (apos.endLine == cpos.line)
    | _ => false
  | .val e, _, x => match x with
    | .Call (.Attribute o m apos) [] [] cpos => chk s e o && (m == "values") && plainBase o && (apos.endLine == cpos.line)
    | _ => false
  | .zip a b, t, x => match x with
    | .Call (.Name y _) [e, f] [] _ => isTup t && (y == "zip") && glB s y && chk s a e && chk s b f && noStar e && noStar f
    | _ => false
def chks (s : Sc) : Es → List Expr → Bool
  | .nil, xs => xs.isEmpty
  | .cons e es, xs => match xs with
    | x :: t => chk s e x && noStar x && chks s es t
    | [] => false
def chkk (s : Sc) : Es → List Keyword → Bool
  | .nil, xs => xs.isEmpty
  | .cons e es, xs => match xs with
    | x :: t => chk s e x.value && chkk s es t
    | [] => false
end
end
/-! ## meaning -/
def notD (d : D) : TD := fun _ M K _ => match d with
  | .bl z => K (.bl (!z)) M
  | _ => False
def negD (G : Gam) (Γ : Nat → SpD) (d : D) : TD := fun ρ M K E => match d with
  | .int i => K (.int (-i)) M
  | _ => instX d M fun _ _ => ownD G Γ 19 d [] ρ M K E
/-- from here on it never changes -/
def frzD (d : D) : TD := fun _ M K _ => match d with
  | .loc a => (match M a with
    | some (.inst c fs) => K (.obj c fs) (delM M a)
    | some (.lst xs) => K (.lst xs) (delM M a)
    | some (.dct xs) => K (.dct xs) (delM M a)
    | _ => False)
  | _ => False
/-- on, by a truth -/
def thenD (t u : TD) (z : D) : TD := fun ρ M K E => br z (t ρ M K E) (u ρ M K E)
def chnD (G : Gam) (Γ : Nat → SpD) (op op' : CmpOp) (ta tb tc : TD) : TD := bind2 ta tb fun d e => bindD (cmpD G Γ op d e) fun z => thenD (bindD tc fun f => cmpD G Γ op' e f) (conD (.bl false)) z
def partD (d : D) : Option (Option Int) := match d with
  | .int i => some (some i)
  | _ => none
def cutV2 (d : D) (lo hi : Option Int) : TD := fun _ M K _ => match d with
  | .str x => x.length ≤ 1000000 ∧ K (.str (cutS x lo hi)) M
  | .tup xs => ¬ (HT.sIx xs.length 0 lo = 0 ∧ HT.sIx xs.length xs.length hi = xs.length) ∧ K (.tup (cutD xs lo hi)) M
  | _ => seqX d M fun xs => K (.lst (cutD xs lo hi)) M
/-- an end of a cut -/
def endD (e : E) (t : TD) (f : Option Int → TD) : TD := match e with
  | .no => f none
  | _ => bindD t fun d => match d with
    | .int i => f (some i)
    | _ => fun _ _ _ _ => False
def tgS (one : Bool) (tg : List Nat) : D → Slots → Option Slots := match one with
  | true => set1 (tg.headD 0)
  | false => setT tg
def optT (c : E) (t : TD) : Option TD := match c with
  | .no => none
  | _ => some t
def lcT (ti : TDs) (g : D → Slots → Option Slots) (tc : Option TD) (te : TD) (vs : List Nat) : TD := fun ρ M K1 E1 => ti ρ M (fun ds M' => ds.length ≤ 1000000 ∧ lcL g tc te (wipeD ρ vs) ds [] M' fun acc M2 => K1 (.lst acc) M2) E1
section
variable (G : Gam) (Γ : Nat → SpD)
def both (t : TD) : TD × TD := (t, bindD t (truD G Γ))
mutual
def sem : E → TD × TD
  | .no => both G Γ fun _ _ _ _ => False
  | .var i => both G Γ (varD i)
  | .con d => both G Γ (conD d)
  | .kon j => both G Γ fun _ M K _ => match G.kon j with
    | some (_, d) => K d M
    | none => False
  | .kls c => both G Γ (conD (.cls c))
  | .ty n => both G Γ (conD (.ty n))
  | .bin op a b => both G Γ (bind2 (sem a).1 (sem b).1 (binD G Γ op))
  | .cmp op a b => both G Γ (bind2 (sem a).1 (sem b).1 (cmpD G Γ op))
  | .chn op op' a b c => both G Γ (chnD G Γ op op' (sem a).1 (sem b).1 (sem c).1)
  | .neg a => both G Γ (bindD (sem a).1 (negD G Γ))
  | .not a => (bindD (bindD (sem a).1 (truD G Γ)) notD, bindD (sem a).2 notD)
  | .and a b => (bindD (sem a).1 fun d => bindD (truD G Γ d) (thenD (sem b).1 (conD d)), bindD (sem a).2 (thenD (sem b).2 (conD (.bl false))))
  | .or a b => (bindD (sem a).1 fun d => bindD (truD G Γ d) (thenD (conD d) (sem b).1), bindD (sem a).2 (thenD (conD (.bl true)) (sem b).2))
  | .ite c a b => (bindD (sem c).2 (thenD (sem a).1 (sem b).1), bindD (sem c).2 (thenD (sem a).2 (sem b).2))
  | .att a k => both G Γ (bindD (sem a).1 (attD G Γ k))
  | .sub a b => both G Γ (bind2 (sem a).1 (sem b).1 (subX G Γ))
  | .cut a lo hi => both G Γ (bindD (sem a).1 fun d => endD lo (sem lo).1 fun l => endD hi (sem hi).1 fun h => cutV2 d l h)
  | .tup es => both G Γ (bindDs (sems es) tupD)
  | .lst es => both G Γ (bindDs (sems es) lstD)
  | .mlst es => both G Γ (bindDs (sems es) mlstD)
  | .call i es ks => both G Γ (argsD (sems es) (sems ks) fun ds => spT (Γ i) ds)
  | .meth a k n es ks => both G Γ (bindD (sem a).1 fun d => methD G Γ k n d (sems es) (sems ks))
  | .stat c k n es ks => both G Γ (match G.sm c k n with
    | some i => argsD (sems es) (sems ks) fun ds => spT (Γ i) ds
    | none => fun _ _ _ _ => False)
  | .blt b es => both G Γ (bindDs (sems es) (bltD G Γ b))
  | .cal a es => both G Γ (bindD (sem a).1 fun d => calD G Γ d (sems es))
  | .frz a => (bindD (sem a).1 frzD, fun _ _ _ _ => False)
  | .lc e tg one it c => both G Γ (lcT (semI it) (tgS one tg) (optT c (sem c).2) (sem e).1 tg)
  | .dc k v tg one it c => both G Γ (dcT (semI it) (tgS one tg) (optT c (sem c).2) (sem k).1 (sem v).1 tg)
  | .inn neg a b => both G Γ (bind2 (sem a).1 (sem b).1 (inX G Γ neg))
  | .eqd neg a b => both G Γ (bind2 (sem a).1 (sem b).1 (eqdX neg))
  | .subo a b => both G Γ (bind2 (sem a).1 (sem b).1 (subO G Γ))
  | .get a k d => both G Γ (getT (sem a).1 (sem k).1 (match d with
    | .no => conD .non
    | _ => (sem d).1))
  | .bm n a d => both G Γ (bmT n (sem a).1 (sem d).1)
  | .blx b a => both G Γ (bindD (sem a).1 (blxD b))
  | .dct0 => both G Γ (conD (.dct []))
  | .mdct0 => both G Γ mdctD
  | .mrg a b => both G Γ (mrgT (sem a).1 (sem b).1)
  | .tups ss => both G Γ (bindDs (semT ss) tupD)
  | .lsts ss => both G Γ (bindDs (semT ss) lstD)
  | .mlsts ss => both G Γ (bindDs (semT ss) mlstD)
  | .fmt _ a => both G Γ (bindD (sem a).1 (fmtD G Γ))
  | .jn es => both G Γ (semJ es Str.empty)
  | .jn1 a => both G Γ (sem a).1
  | .cmet c k es => both G Γ (match G.cm c k [] with
    | some i => (match G.isC i with
      | false => bindDs (sems es) fun ds => spT (Γ i) (.cls c :: ds)
      | true => fun _ _ _ _ => False)
    | none => fun _ _ _ _ => False)
  | .callv v c i es ks => both G Γ (bindD (varD v) (callvD Γ c i (sems es) (sems ks)))
  | .mdsp ps => both G Γ (mdspD (semP ps))
  | .dc2 k v a ia b ib => both G Γ (dc2T (semI ia) (set1 a) (semI ib) (set1 b) (sem k).1 (sem v).1 [a, b] [b])
/-- texts one behind another -/
def semJ : Es → Str → TD
  | .nil, acc => fun _ M K _ => K (.str acc) M
  | .cons e es, acc => fun ρ M K E => (sem e).1 ρ M (fun d M1 => match d with
    | .str y => (acc ++ y).length ≤ 1000000 ∧ semJ es (acc ++ y) ρ M1 K E
    | _ => False) E
def semP : Ps → TPs
  | .nil => nilP
  | .cons k v r => consP (sem k).1 (sem v).1 (semP r)
def semT : Sts → TDs
  | .nil => nilD
  | .one e r => consD (sem e).1 (semT r)
  | .star e r => starT (sem e).1 (semT r)
  | .itms e r => stariT (sem e).1 (semT r)
def semI : It → TDs
  | .seq e => anyO G (sem e).1
  | .rng e => rng1I (consD (sem e).1 nilD)
  | .itm e => itemsI (sem e).1
  | .val e => valsI (sem e).1
  | .zip a b => zipI (consD (sem a).1 (consD (sem b).1 nilD))
def sems : Es → TDs
  | .nil => nilD
  | .cons e es => consD (sem e).1 (sems es)
end
end
end PyD
set_option Elab.async false
set_option linter.all false
set_option autoImplicit false
set_option maxRecDepth 100000
set_option maxHeartbeats 4000000
/-! # Expressions: soundness -/
namespace PyD
open PySem PySem.Spec L2
section
variable {X : Cx} {G : Gam} {B : Bs} {W : WX} {Γ : Nat → SpD} {kx : Nat}
theorem pt_val (c : Ctx X G W Γ kx) {x : Expr} {t : TD} (h : PE X x (TEx X.K G B W t)) (hp : testPlain x = true) : PT X x (TTx X.K G B W (bindD t (truD G Γ))) := by
  refine ⟨fun pins s σ H Q I hq => ?_⟩
  obtain ⟨ρ, M, J, K1, E1, sr, q, ok, er⟩ := hq
  refine PyProof.Rows.isTrue_plain (thn (h.run pins s σ H (fun v H1 => ∃ M1 J1 d, Ext J J1 ∧ SR X.K G B σ H1 ρ M1 J1 ∧ Rep X.K G J1 d v ∧ truD G Γ d ρ M1 K1 E1) I ⟨ρ, M, J, _, E1, sr, q, fun d M' v H' I' z e s' r => ⟨M', I', d, e, s', r, z⟩, er⟩) fun v s1 ⟨z, H1, I1, rz, M1, J1, d, e1, sr1, r1, t1⟩ => ?_) (test_of hp _)
  refine thn (tru_any c (c.room.mono (by omega)) c.guards I.ok.frames I1 sr1 r1 rz t1 er) fun b s2 h2 => ?_
  obtain ⟨M2, H2, J2, k, e2, sr2, I2⟩ := h2
  obtain ⟨b', eb, q2⟩ := ok _ _ _ _ k (e1.trans e2) sr2
  cases eb
  exact ⟨H2, I2, q2⟩
theorem both_ok (c : Ctx X G W Γ kx) {x : Expr} {t : TD} (h : PE X x (TEx X.K G B W t)) (hp : testPlain x = true) : PE X x (TEx X.K G B W (both G Γ t).1) ∧ PT X x (TTx X.K G B W (both G Γ t).2) := ⟨h, pt_val c h hp⟩
/-- a comparison as a test -/
theorem pt_cmpD (c : Ctx X G W Γ kx) {a b : Expr} {ta tb : TD} {op : CmpOp} {pos : Pos} (ha : PE X a (TEx X.K G B W ta)) (hb : PE X b (TEx X.K G B W tb)) (hm : behindInMarks op b = false) :
    PT X (.Compare a [op] [b] pos) (TTx X.K G B W (bindD (bind2 ta tb (cmpD G Γ op)) (truD G Γ))) := by
  refine ⟨fun pins s σ H Q I hq => ?_⟩
  obtain ⟨ρ, M, J, K1, E1, sr, q, ok, er⟩ := hq
  refine wpAny_isTrue_Compare1 (L2.bin ha hb I (tex_bind2 (f := cmpD G Γ op) (Q := fun v H1 => ∃ M1 J1 d, Ext J J1 ∧ SR X.K G B σ H1 ρ M1 J1 ∧ Rep X.K G J1 d v ∧ truD G Γ d ρ M1 K1 E1) ⟨ρ, M, J, _, E1, sr, q, fun d M' v H' I' z e s' r => ⟨M', I', d, e, s', r, z⟩, er⟩) fun v u s2 x y H2 I2 rx ry q2 => ?_) hm
  refine thn (op2_cmp c op pins s2 σ H2 _ x y v u I2 rx ry q2) fun w s3 ⟨z, H3, I3, rz, M3, J3, d, e3, sr3, r3, t3⟩ => ?_
  refine thn (tru_any c (c.room.mono (by omega)) c.guards I.ok.frames I3 sr3 r3 rz t3 er) fun b s2 h2 => ?_
  obtain ⟨M2, H2, J2, k, e2, sr2, I2⟩ := h2
  obtain ⟨b', eb, q2⟩ := ok _ _ _ _ k (e3.trans e2) sr2
  cases eb
  exact ⟨H2, I2, q2⟩
/-- two comparisons, one behind the other -/
theorem chn_any (c : Ctx X G W Γ kx) {pins : List (Addr × Obj)} {s : Shared} {σ : L2.St} {H : Hp} {ρ : Slots} {M : Mst} {J : Hp} {K1 : KD} {E1 : ED} {op : CmpOp} {x y : V} {u v : Value} {d e : D} {tl : TD}
    (I : L2.Inv X pins σ H s) (sr : SR X.K G B σ H ρ M J) (r1 : Rep X.K G J d x) (r2 : Rep X.K G J e y) (rx : RelV x u) (ry : RelV y v) (t : bindD (cmpD G Γ op d e) (fun z => thenD tl (conD (.bl false)) z) ρ M K1 E1) (er : ErC X.K G B W σ ρ E1) :
    wpAny (model X.prog X.w) X.A (compareOp op u v) (fun w s' => ∃ b M' H' J', w = .bool b ∧ Ext J J' ∧ SR X.K G B σ H' ρ M' J' ∧ L2.Inv X pins σ H' s' ∧ (if b = true then tl ρ M' K1 E1 else K1 (.bl false) M')) X.xe s := by
  refine thn (op2_cmp c op pins s σ H (fun w H' => ∃ b M' J', w = .bl b ∧ Ext J J' ∧ SR X.K G B σ H' ρ M' J' ∧ (if b = true then tl ρ M' K1 E1 else K1 (.bl false) M')) x y u v I rx ry ⟨ρ, M, J, _, E1, d, e, sr, r1, r2, t, fun z M' w H' J' k e1 s' r => ?_, er⟩) fun w s' ⟨z, H', I', rz, b, M', J', e, e1, sr', q⟩ => ?_
  · obtain ⟨b, rfl, k⟩ := br_ok k
    unfold Rep at r
    cases b with
    | true => exact ⟨true, M', J', r, e1, s', PyProof.Rows.ite_tt k⟩
    | false => exact ⟨false, M', J', r, e1, s', PyProof.Rows.ite_ff k⟩
  · subst e
    exact ⟨b, M', H', J', rz, e1, sr', I', q⟩
theorem pe_chnD (c : Ctx X G W Γ kx) {a b d : Expr} {ta tb tc : TD} {op op' : CmpOp} {pos : Pos} (ha : PE X a (TEx X.K G B W ta)) (hb : PE X b (TEx X.K G B W tb)) (hc : PE X d (TEx X.K G B W tc)) (hm : noSet b = true) (hm2 : noSet d = true) :
    PE X (.Compare a [op, op'] [b, d] pos) (TEx X.K G B W (chnD G Γ op op' ta tb tc)) ∧ PT X (.Compare a [op, op'] [b, d] pos) (TTx X.K G B W (bindD (chnD G Γ op op' ta tb tc) (truD G Γ))) := by
  have hl : lastMarks [op, op'] [b, d] = false := marks_of hm2
  constructor
  · refine ⟨fun pins s σ H Q I hq => ?_⟩
    obtain ⟨ρ, M, J, K1, E1, sr, q, ok, er⟩ := hq
    refine PyProof.Rows.Compare_chain (thn (ha.run pins s σ H (fun x H1 => ∃ M1 J1 dx, Ext J J1 ∧ SR X.K G B σ H1 ρ M1 J1 ∧ Rep X.K G J1 dx x ∧ bindD tb (fun e => bindD (cmpD G Γ op dx e) fun z => thenD (bindD tc fun f => cmpD G Γ op' e f) (conD (.bl false)) z) ρ M1 K1 E1) I ⟨ρ, M, J, _, E1, sr, q, fun d M' v H' I' z e s' r => ⟨M', I', d, e, s', r, z⟩, er⟩) fun v s1 ⟨x, H1, I1, rx, M1, J1, dx, e1, sr1, r1, t1⟩ => PyProof.Rows.chain_link (thn (hb.run pins s1 σ H1 (fun y H2 => ∃ M2 J2 dy, Ext J1 J2 ∧ SR X.K G B σ H2 ρ M2 J2 ∧ Rep X.K G J2 dy y ∧ bindD (cmpD G Γ op dx dy) (fun z => thenD (bindD tc fun f => cmpD G Γ op' dy f) (conD (.bl false)) z) ρ M2 K1 E1) I1 ⟨ρ, M1, J1, _, E1, sr1, t1, fun d M' v H' I' z e s' r => ⟨M', I', d, e, s', r, z⟩, er⟩) fun u s2 ⟨y, H2, I2, ry, M2, J2, dy, e2, sr2, r2, t2⟩ =>
      thn (chn_any c I2 sr2 (r1.ext e2) r2 rx ry t2 er) fun w s3 ⟨k, M3, H3, J3, ew, e3, sr3, I3, t3⟩ => ?_)) hl
    subst ew
    refine wpAny_truthy_bool ?_
    have x3 := (e1.trans e2).trans e3
    cases k with
    | false => exact PyProof.Rows.ite_ff ⟨.bl false, H3, I3, rfl, ok _ _ _ _ _ t3 x3 sr3 rep_bl⟩
    | true =>
      refine PyProof.Rows.ite_tt (PyProof.Rows.chain_last (thn (hc.run pins s3 σ H3 (fun y' H4 => ∃ M4 J4 de, Ext J3 J4 ∧ SR X.K G B σ H4 ρ M4 J4 ∧ Rep X.K G J4 de y' ∧ cmpD G Γ op' dy de ρ M4 K1 E1) I3 ⟨ρ, M3, J3, _, E1, sr3, t3, fun d M' v H' I' z e s' r => ⟨M', I', d, e, s', r, z⟩, er⟩) fun w' s4 ⟨z', H4, I4, r4, M4, J4, de, e4, sr4, q4, t4⟩ => ?_))
      exact op2_cmp c op' pins s4 σ H4 Q y z' u w' I4 ry r4 ⟨ρ, M4, J4, K1, E1, dy, de, sr4, (r2.ext e3).ext e4, q4, t4, ok.mono (x3.trans e4), er⟩
  · refine ⟨fun pins s σ H Q I hq => ?_⟩
    obtain ⟨ρ, M, J, K0, E1, sr, q, ok, er⟩ := hq
    refine PyProof.Rows.isTrue_chain (thn (ha.run pins s σ H (fun x H1 => ∃ M1 J1 dx, Ext J J1 ∧ SR X.K G B σ H1 ρ M1 J1 ∧ Rep X.K G J1 dx x ∧ bindD tb (fun e => bindD (cmpD G Γ op dx e) fun z => thenD (bindD tc fun f => cmpD G Γ op' e f) (conD (.bl false)) z) ρ M1 (fun z M' => truD G Γ z ρ M' K0 E1) E1) I ⟨ρ, M, J, _, E1, sr, q, fun d M' v H' I' z e s' r => ⟨M', I', d, e, s', r, z⟩, er⟩) fun v s1 ⟨x, H1, I1, rx, M1, J1, dx, e1, sr1, r1, t1⟩ => PyProof.Rows.test_link (thn (hb.run pins s1 σ H1 (fun y H2 => ∃ M2 J2 dy, Ext J1 J2 ∧ SR X.K G B σ H2 ρ M2 J2 ∧ Rep X.K G J2 dy y ∧ bindD (cmpD G Γ op dx dy) (fun z => thenD (bindD tc fun f => cmpD G Γ op' dy f) (conD (.bl false)) z) ρ M2 (fun z M' => truD G Γ z ρ M' K0 E1) E1) I1 ⟨ρ, M1, J1, _, E1, sr1, t1, fun d M' v H' I' z e s' r => ⟨M', I', d, e, s', r, z⟩, er⟩) fun u s2 ⟨y, H2, I2, ry, M2, J2, dy, e2, sr2, r2, t2⟩ =>
      thn (chn_any c I2 sr2 (r1.ext e2) r2 rx ry t2 er) fun w s3 ⟨k, M3, H3, J3, ew, e3, sr3, I3, t3⟩ => ?_)) hl
    subst ew
    refine wpAny_truthy_bool ?_
    have x3 := (e1.trans e2).trans e3
    have fin : ∀ {s4 : Shared} {H4 : Hp} {M4 : Mst} {J4 : Hp} {d4 : D} {z4 : V} {u4 : Value}, L2.Inv X pins σ H4 s4 → Ext J J4 → SR X.K G B σ H4 ρ M4 J4 → Rep X.K G J4 d4 z4 → RelV z4 u4 → truD G Γ d4 ρ M4 K0 E1 → wpAny (model X.prog X.w) X.A (truthy u4) (TP X pins σ Q) X.xe s4 := by
      intro s4 H4 M4 J4 d4 z4 u4 I4 e4 sr4 r4 rz4 t4
      refine thn (tru_any c (c.room.mono (by omega)) c.guards I.ok.frames I4 sr4 r4 rz4 t4 er) fun b s5 h5 => ?_
      obtain ⟨M5, H5, J5, k5, e5, sr5, I5⟩ := h5
      obtain ⟨b', eb, q5⟩ := ok _ _ _ _ k5 (e4.trans e5) sr5
      cases eb
      exact ⟨H5, I5, q5⟩
    cases k with
    | false =>
      refine PyProof.Rows.ite_ff ?_
      obtain ⟨b', eb, q5⟩ := ok (.bl false) M3 H3 J3 t3 x3 sr3
      cases eb
      exact ⟨H3, I3, q5⟩
    | true =>
      refine PyProof.Rows.ite_tt (PyProof.Rows.test_last (thn (hc.run pins s3 σ H3 (fun y' H4 => ∃ M4 J4 de, Ext J3 J4 ∧ SR X.K G B σ H4 ρ M4 J4 ∧ Rep X.K G J4 de y' ∧ cmpD G Γ op' dy de ρ M4 (fun z M' => truD G Γ z ρ M' K0 E1) E1) I3 ⟨ρ, M3, J3, _, E1, sr3, t3, fun d M' v H' I' z e s' r => ⟨M', I', d, e, s', r, z⟩, er⟩) fun w' s4 ⟨z', H4, I4, r4, M4, J4, de, e4, sr4, q4, t4⟩ => ?_))
      refine thn (op2_cmp c op' pins s4 σ H4 (fun w H5 => ∃ M5 J5 d5, Ext J4 J5 ∧ SR X.K G B σ H5 ρ M5 J5 ∧ Rep X.K G J5 d5 w ∧ truD G Γ d5 ρ M5 K0 E1) y z' u w' I4 ry r4 ⟨ρ, M4, J4, _, E1, dy, de, sr4, (r2.ext e3).ext e4, q4, t4, fun d M' v H' I' z e s' r => ⟨M', I', d, e, s', r, z⟩, er⟩) fun w5 s5 ⟨z5, H5, I5, r5, M5, J5, d5, e5, sr5, q5, t5⟩ => ?_
      exact fin I5 ((x3.trans e4).trans e5) sr5 q5 r5 t5
/-- behind an expression -/
theorem run_e {x : Expr} {t : TD} {f : D → TD} {pins : List (Addr × Obj)} {s : Shared} {σ : L2.St} {H : Hp} {ρ : Slots} {M : Mst} {J : Hp} {K1 : KD} {E1 : ED} {R : Value → Shared → Prop} (h : PE X x (TEx X.K G B W t)) (I : L2.Inv X pins σ H s) (sr : SR X.K G B σ H ρ M J) (q : bindD t f ρ M K1 E1) (er : ErC X.K G B W σ ρ E1)
    (go : ∀ v s1 z H1 M1 J1 d, L2.Inv X pins σ H1 s1 → RelV z v → Ext J J1 → SR X.K G B σ H1 ρ M1 J1 → Rep X.K G J1 d z → f d ρ M1 K1 E1 → R v s1) : wpAny (model X.prog X.w) X.A (eval x X.env) R X.xe s :=
  thn (h.run pins s σ H (fun v H1 => ∃ M1 J1 d, Ext J J1 ∧ SR X.K G B σ H1 ρ M1 J1 ∧ Rep X.K G J1 d v ∧ f d ρ M1 K1 E1) I ⟨ρ, M, J, _, E1, sr, q, fun d M' v H' I' z e s' r => ⟨M', I', d, e, s', r, z⟩, er⟩) fun v s1 ⟨z, H1, I1, rz, M1, J1, d, e1, sr1, r1, t1⟩ => go v s1 z H1 M1 J1 d I1 rz e1 sr1 r1 t1
/-- behind a test -/
theorem run_t {x : Expr} {t : TD} {f : D → TD} {pins : List (Addr × Obj)} {s : Shared} {σ : L2.St} {H : Hp} {ρ : Slots} {M : Mst} {J : Hp} {K1 : KD} {E1 : ED} {R : Bool → Shared → Prop} (h : PT X x (TTx X.K G B W t)) (I : L2.Inv X pins σ H s) (sr : SR X.K G B σ H ρ M J) (q : bindD t f ρ M K1 E1) (er : ErC X.K G B W σ ρ E1)
    (ev : ∀ d ρ M K E, f d ρ M K E → ∃ b, d = .bl b)
    (go : ∀ b s1 H1 M1 J1, L2.Inv X pins σ H1 s1 → Ext J J1 → SR X.K G B σ H1 ρ M1 J1 → f (.bl b) ρ M1 K1 E1 → R b s1) : wpAny (model X.prog X.w) X.A (isTrue x X.env (eval x X.env)) R X.xe s :=
  thn (h.run pins s σ H (fun b H1 => ∃ M1 J1, Ext J J1 ∧ SR X.K G B σ H1 ρ M1 J1 ∧ f (.bl b) ρ M1 K1 E1) I ⟨ρ, M, J, _, E1, sr, q, fun d M' H' I' z e s' => by
    obtain ⟨b, rfl⟩ := ev _ _ _ _ _ z
    exact ⟨b, rfl, M', I', e, s', z⟩, er⟩) fun b s1 ⟨H1, I1, M1, J1, e1, sr1, t1⟩ => go b s1 H1 M1 J1 I1 e1 sr1 t1
theorem then_bl {t u : TD} (d : D) (ρ : Slots) (M : Mst) (K : KD) (E : ED) (h : thenD t u d ρ M K E) : ∃ b, d = .bl b := by
  obtain ⟨b, e, _⟩ := br_ok h
  exact ⟨b, e⟩
theorem not_bl (d : D) (ρ : Slots) (M : Mst) (K : KD) (E : ED) (h : notD d ρ M K E) : ∃ b, d = .bl b := by
  unfold notD at h
  split at h
  · exact ⟨_, rfl⟩
  · exact h.elim
theorem pd_neg (c : Ctx X G W Γ kx) {a : Expr} {ta : TD} {pos : Pos} (ha : PE X a (TEx X.K G B W ta)) : PE X (.UnaryOp .USub a pos) (TEx X.K G B W (bindD ta (negD G Γ))) := by
  refine ⟨fun pins s σ H Q I hq => ?_⟩
  obtain ⟨ρ, M, J, K1, E1, sr, q, ok, er⟩ := hq
  refine PyProof.Rows.UnaryOp_ (run_e ha I sr q er fun v s1 z H1 M1 J1 d I1 rz e1 sr1 r1 t1 => ?_)
  have byI : (instX d M1 fun _ _ => ownD G Γ 19 d [] ρ M1 K1 E1) → wpAny (model X.prog X.w) X.A (unaryOp .USub v) (EP X pins σ Q) X.xe s1 := by
    intro t
    obtain ⟨cc, fs, hi, t⟩ := instX_ok t
    obtain ⟨i, h1, hks, t⟩ := ownD_at _ _ t hi
    · skip
      · skip
        obtain ⟨a, dx, vfs, rfl, hA, _⟩ := instD_ok sr1.good r1 hi
        obtain rfl : v = Value.ref a := rz
        obtain ⟨_, ⟨m11, m12, m13⟩, sf⟩ := c.ops.ok.dn _ _ _ h1
        obtain ⟨od, J2⟩ := inst_at I1 hA
        obtain ⟨mf, Fr⟩ := I1.fr
        rw [show G.nm 19 = "__neg__" from c.ops.dund 19 (by decide)] at m11
        exact PySem.W.ksp_neg Fr I1.mod.kin J2 m11 m12 (own_run c (c.room.mono (by omega)) c.guards I.ok.frames I1 sr1 (.cons r1 .nil) (.cons (show RelV (V.ref a) (Value.ref a) from rfl) .nil) hks t (ok.mono e1) er)
  unfold negD at t1
  split at t1
  · unfold Rep at r1
    subst r1
    exact un_neg pins s1 σ H1 _ v Q I1 rz ⟨_, rfl, fin_ok sr1 (ok.mono e1) rep_int t1⟩
  · exact byI t1
theorem pd_not (c : Ctx X G W Γ kx) {a : Expr} {ta : TD} {pos : Pos} (ha : PE X a (TEx X.K G B W ta)) : PE X (.UnaryOp .Not a pos) (TEx X.K G B W (bindD (bindD ta (truD G Γ)) notD)) := by
  refine ⟨fun pins s σ H Q I hq => ?_⟩
  obtain ⟨ρ, M, J, K1, E1, sr, q, ok, er⟩ := hq
  refine PyProof.Rows.UnaryOp_ (run_e (f := fun d => bindD (truD G Γ d) notD) ha I sr q er fun v s1 z H1 M1 J1 d I1 rz e1 sr1 r1 t1 => ?_)
  refine PyProof.Rows.not_of (thn (tru_any c (c.room.mono (by omega)) c.guards I.ok.frames I1 sr1 r1 rz t1 er) fun b s2 h2 => ?_)
  obtain ⟨M2, H2, J2, k, e2, sr2, I2⟩ := h2
  exact ⟨.bl (!b), H2, I2, rfl, ok _ _ _ _ _ k (e1.trans e2) sr2 rep_bl⟩
theorem ptd_not {a : Expr} {ta : TD} {pos : Pos} (ha : PT X a (TTx X.K G B W ta)) : PT X (.UnaryOp .Not a pos) (TTx X.K G B W (bindD ta notD)) := by
  refine ⟨fun pins s σ H Q I hq => ?_⟩
  obtain ⟨ρ, M, J, K1, E1, sr, q, ok, er⟩ := hq
  refine PyProof.Rows.isTrue_not (run_t ha I sr q er not_bl fun b s1 H1 M1 J1 I1 e1 sr1 t1 => ?_)
  obtain ⟨b', eb, q2⟩ := ok _ _ _ _ t1 e1 sr1
  cases eb
  exact ⟨H1, I1, q2⟩
theorem pd_and (c : Ctx X G W Γ kx) {a b : Expr} {rest : List Expr} {ta tb : TD} {pos : Pos} (ha : PE X a (TEx X.K G B W ta)) (hb : PE X (.BoolOp .And (b :: rest) pos) (TEx X.K G B W tb)) :
    PE X (.BoolOp .And (a :: b :: rest) pos) (TEx X.K G B W (bindD ta fun d => bindD (truD G Γ d) (thenD tb (conD d)))) := by
  refine ⟨fun pins s σ H Q I hq => ?_⟩
  obtain ⟨ρ, M, J, K1, E1, sr, q, ok, er⟩ := hq
  refine PyProof.Rows.BoolOp_and (run_e (f := fun d => bindD (truD G Γ d) (thenD tb (conD d))) ha I sr q er fun v s1 z H1 M1 J1 d I1 rz e1 sr1 r1 t1 => ?_)
  refine thn (tru_any c (c.room.mono (by omega)) c.guards I.ok.frames I1 sr1 r1 rz t1 er) fun k s2 h2 => ?_
  obtain ⟨M2, H2, J2, h, e2, sr2, I2⟩ := h2
  cases k with
  | true => exact hb.run pins s2 σ H2 Q I2 ⟨ρ, M2, J2, K1, E1, sr2, h, ok.mono (e1.trans e2), er⟩
  | false => exact ⟨z, H2, I2, rz, ok _ _ _ _ _ h (e1.trans e2) sr2 (r1.ext e2)⟩
theorem pd_or (c : Ctx X G W Γ kx) {a b : Expr} {rest : List Expr} {ta tb : TD} {pos : Pos} (ha : PE X a (TEx X.K G B W ta)) (hb : PE X (.BoolOp .Or (b :: rest) pos) (TEx X.K G B W tb)) :
    PE X (.BoolOp .Or (a :: b :: rest) pos) (TEx X.K G B W (bindD ta fun d => bindD (truD G Γ d) (thenD (conD d) tb))) := by
  refine ⟨fun pins s σ H Q I hq => ?_⟩
  obtain ⟨ρ, M, J, K1, E1, sr, q, ok, er⟩ := hq
  refine PyProof.Rows.BoolOp_or (run_e (f := fun d => bindD (truD G Γ d) (thenD (conD d) tb)) ha I sr q er fun v s1 z H1 M1 J1 d I1 rz e1 sr1 r1 t1 => ?_)
  refine thn (tru_any c (c.room.mono (by omega)) c.guards I.ok.frames I1 sr1 r1 rz t1 er) fun k s2 h2 => ?_
  obtain ⟨M2, H2, J2, h, e2, sr2, I2⟩ := h2
  cases k with
  | false => exact hb.run pins s2 σ H2 Q I2 ⟨ρ, M2, J2, K1, E1, sr2, h, ok.mono (e1.trans e2), er⟩
  | true => exact ⟨z, H2, I2, rz, ok _ _ _ _ _ h (e1.trans e2) sr2 (r1.ext e2)⟩
theorem ptd_and {a b : Expr} {rest : List Expr} {ta tb : TD} {pos : Pos} (ha : PT X a (TTx X.K G B W ta)) (hb : ∀ whole, ∀ (pins : List (Addr × Obj)) (s : Shared) (σ : L2.St) (H : Hp) (Q : Bool → Hp → Prop), L2.Inv X pins σ H s → TTx X.K G B W tb σ H Q → wpAny (model X.prog X.w) X.A (isTrue (.BoolOp .And (b :: rest) pos) X.env whole) (TP X pins σ Q) X.xe s) :
    ∀ whole, ∀ (pins : List (Addr × Obj)) (s : Shared) (σ : L2.St) (H : Hp) (Q : Bool → Hp → Prop), L2.Inv X pins σ H s → TTx X.K G B W (bindD ta (thenD tb (conD (.bl false)))) σ H Q → wpAny (model X.prog X.w) X.A (isTrue (.BoolOp .And (a :: b :: rest) pos) X.env whole) (TP X pins σ Q) X.xe s := by
  intro whole pins s σ H Q I hq
  obtain ⟨ρ, M, J, K1, E1, sr, q, ok, er⟩ := hq
  refine PyProof.Rows.isTrue_and (run_t ha I sr q er then_bl fun k s1 H1 M1 J1 I1 e1 sr1 t1 => ?_)
  cases k with
  | true => exact hb whole pins s1 σ H1 Q I1 ⟨ρ, M1, J1, K1, E1, sr1, t1, fun d M' H' I' z e s' => ok d M' H' I' z (e1.trans e) s', er⟩
  | false =>
    obtain ⟨b', eb, q2⟩ := ok _ _ _ _ t1 e1 sr1
    cases eb
    exact ⟨H1, I1, q2⟩
theorem ptd_or {a b : Expr} {rest : List Expr} {ta tb : TD} {pos : Pos} (ha : PT X a (TTx X.K G B W ta)) (hb : ∀ whole, ∀ (pins : List (Addr × Obj)) (s : Shared) (σ : L2.St) (H : Hp) (Q : Bool → Hp → Prop), L2.Inv X pins σ H s → TTx X.K G B W tb σ H Q → wpAny (model X.prog X.w) X.A (isTrue (.BoolOp .Or (b :: rest) pos) X.env whole) (TP X pins σ Q) X.xe s) :
    ∀ whole, ∀ (pins : List (Addr × Obj)) (s : Shared) (σ : L2.St) (H : Hp) (Q : Bool → Hp → Prop), L2.Inv X pins σ H s → TTx X.K G B W (bindD ta (thenD (conD (.bl true)) tb)) σ H Q → wpAny (model X.prog X.w) X.A (isTrue (.BoolOp .Or (a :: b :: rest) pos) X.env whole) (TP X pins σ Q) X.xe s := by
  intro whole pins s σ H Q I hq
  obtain ⟨ρ, M, J, K1, E1, sr, q, ok, er⟩ := hq
  refine PyProof.Rows.isTrue_or (run_t ha I sr q er then_bl fun k s1 H1 M1 J1 I1 e1 sr1 t1 => ?_)
  cases k with
  | false => exact hb whole pins s1 σ H1 Q I1 ⟨ρ, M1, J1, K1, E1, sr1, t1, fun d M' H' I' z e s' => ok d M' H' I' z (e1.trans e) s', er⟩
  | true =>
    obtain ⟨b', eb, q2⟩ := ok _ _ _ _ t1 e1 sr1
    cases eb
    exact ⟨H1, I1, q2⟩
theorem pd_ite {a b d : Expr} {tc ta tb : TD} {pos : Pos} (hc : PT X d (TTx X.K G B W tc)) (ha : PE X a (TEx X.K G B W ta)) (hb : PE X b (TEx X.K G B W tb)) : PE X (.IfExp d a b pos) (TEx X.K G B W (bindD tc (thenD ta tb))) := by
  refine ⟨fun pins s σ H Q I hq => ?_⟩
  obtain ⟨ρ, M, J, K1, E1, sr, q, ok, er⟩ := hq
  refine PyProof.Rows.IfExp_ (run_t hc I sr q er then_bl fun k s1 H1 M1 J1 I1 e1 sr1 t1 => ?_)
  cases k with
  | true => exact ha.run pins s1 σ H1 Q I1 ⟨ρ, M1, J1, K1, E1, sr1, t1, ok.mono e1, er⟩
  | false => exact hb.run pins s1 σ H1 Q I1 ⟨ρ, M1, J1, K1, E1, sr1, t1, ok.mono e1, er⟩
theorem ptd_ite {a b d : Expr} {tc ta tb : TD} {pos : Pos} (hc : PT X d (TTx X.K G B W tc)) (ha : PT X a (TTx X.K G B W ta)) (hb : PT X b (TTx X.K G B W tb)) : PT X (.IfExp d a b pos) (TTx X.K G B W (bindD tc (thenD ta tb))) := by
  refine ⟨fun pins s σ H Q I hq => ?_⟩
  obtain ⟨ρ, M, J, K1, E1, sr, q, ok, er⟩ := hq
  refine PyProof.Rows.isTrue_IfExp (run_t hc I sr q er then_bl fun k s1 H1 M1 J1 I1 e1 sr1 t1 => ?_)
  cases k with
  | true => exact ha.run pins s1 σ H1 Q I1 ⟨ρ, M1, J1, K1, E1, sr1, t1, fun d M' H' I' z e s' => ok d M' H' I' z (e1.trans e) s', er⟩
  | false => exact hb.run pins s1 σ H1 Q I1 ⟨ρ, M1, J1, K1, E1, sr1, t1, fun d M' H' I' z e s' => ok d M' H' I' z (e1.trans e) s', er⟩
theorem pd_frz {a : Expr} {ta : TD} (ha : PE X a (TEx X.K G B W ta)) : PE X a (TEx X.K G B W (bindD ta frzD)) := by
  refine ⟨fun pins s σ H Q I hq => ?_⟩
  obtain ⟨ρ, M, J, K1, E1, sr, q, ok, er⟩ := hq
  refine run_e ha I sr q er fun v s1 z H1 M1 J1 d I1 rz e1 sr1 r1 t1 => ?_
  unfold frzD at t1
  split at t1
  · rename_i a
    unfold Rep at r1
    subst r1
    split at t1
    · rename_i cc fs hm
      obtain ⟨o, ho, mr, g, f⟩ := sr1.good.freeze hm
      obtain ⟨dx, vfs, rfl, hF⟩ := mr
      exact ⟨_, H1, I1, rz, ok _ _ _ _ _ t1 (e1.trans f.ext) (sr1.step g f) (by unfold Rep; exact ⟨a, dx, vfs, rfl, upd_same, hF.ext f.ext⟩)⟩
    · rename_i xs hm
      obtain ⟨o, ho, mr, g, f⟩ := sr1.good.freeze hm
      obtain ⟨vs, rfl, hF⟩ := mr
      exact ⟨_, H1, I1, rz, ok _ _ _ _ _ t1 (e1.trans f.ext) (sr1.step g f) (by unfold Rep; exact ⟨a, vs, rfl, .of upd_same, hF.ext f.ext⟩)⟩
    · rename_i xs hm
      obtain ⟨nI, o, ho, vs, rfl, hF⟩ := sr1.good.mst _ _ hm
      obtain ⟨od, I2⟩ := I1.lock ho True.intro
      obtain ⟨g, f⟩ := sr1.good.freezeD (ob := od) hm ho
      exact ⟨_, _, I2, rz, ok _ _ _ _ _ t1 (e1.trans f.ext) (sr1.step g f) (by unfold Rep; exact ⟨a, od, vs, rfl, upd_same, hF.ext f.ext⟩)⟩
    · exact t1.elim
  · exact t1.elim
theorem pd_blt (c : Ctx X G W Γ kx) {b : Blt} {p pos : Pos} {es : List Expr} {ta : TDs} (hg : Gl X b.nm) (ha : PA X es (TAx X.K G B W ta)) (h1 : es.all noStar = true) (hn : es ≠ []) : PE X (.Call (.Name b.nm p) es [] pos) (TEx X.K G B W (bindDs ta (bltD G Γ b))) := by
  have hm := c.gg.blt _ b.mem
  cases es with
  | nil => exact absurd rfl hn
  | cons e es =>
    rw [List.all_cons, Bool.and_eq_true] at h1
    have hv := b.boot
    refine ⟨fun pins s σ H Q I hq => ?_⟩
    have go : wpAny (model X.prog X.w) X.A (spliced (backTo pos (starEach (e :: es) X.env))) (fun vs s₁ => wpAny (model X.prog X.w) X.A (PySem.call b.val vs) (EP X pins σ Q) X.xe s₁) X.xe s := by
      refine thn (ha.run pos pins s σ H _ I (tex_binds hq)) fun us s1 ⟨vs, H1, I1, r1, q1⟩ => ?_
      exact opN_blt c b pins s1 σ H1 Q vs us I1 r1 q1
    refine wpAny_Call_Name_kw (ld_blt I hg hm hv ?_ b.ne b.nd)
    have hty : (∃ id, b.val = .builtin id) ∨ ∃ T, b.val = .type T := by cases b <;> first | exact .inl ⟨_, rfl⟩ | exact .inr ⟨_, rfl⟩
    rcases hty with ⟨id, e1⟩ | ⟨T, e1⟩
    · rw [e1] at go ⊢
      exact PyProof.Rows.callWith_builtin1 go (star_cons h1.1) (star_any h1.2)
    · rw [e1] at go ⊢
      exact PyProof.Rows.callWith_type1 go (star_cons h1.1) (star_any h1.2)
end
end PyD
set_option Elab.async false
set_option linter.all false
set_option autoImplicit false
set_option maxRecDepth 100000
set_option maxHeartbeats 4000000
/-! # Expressions: soundness of the whole reading -/
namespace PyD
open PySem PySem.Spec L2
section
variable {X : Cx} {G : Gam} {B : Bs} {W : WX} {Γ : Nat → SpD} {kx : Nat}
def POd (X : Cx) (G : Gam) (B : Bs) (W : WX) (x : Option Expr) (e : E) (t : TD) : Prop := ∃ tl, PO X x tl ∧ ∀ σ H ρ M J K1 E1 (f : Option Int → TD) (R : Option Int → Hp → Prop), SR X.K G B σ H ρ M J → endD e t f ρ M K1 E1 → ErC X.K G B W σ ρ E1 →
  (∀ o M' H' J', Ext J J' → SR X.K G B σ H' ρ M' J' → f o ρ M' K1 E1 → R o H') → tl σ H R
theorem pod_none {e : E} {t : TD} (h : isNo e = true) : POd X G B W none e t := by
  refine ⟨_, po_none, fun σ H ρ M J K1 E1 f R sr q er go => ?_⟩
  cases e <;> first | exact Bool.noConfusion (show false = true from h) | exact go none M H J (.refl J) sr q
theorem pod_some {x : Expr} {e : E} {t : TD} (hx : PE X x (TEx X.K G B W t)) (h : isNo e = false) : POd X G B W (some x) e t := by
  refine ⟨_, po_some hx, fun σ H ρ M J K1 E1 f R sr q er go => ?_⟩
  have q' : bindD t (fun d => match d with
    | .int i => f (some i)
    | _ => fun _ _ _ _ => False) ρ M K1 E1 := by
    cases e <;> first | exact q | exact Bool.noConfusion (show true = false from h)
  refine ⟨ρ, M, J, _, E1, sr, q', fun d M' v H' J' z e1 s' r => ?_, er⟩
  dsimp only at z
  split at z
  · unfold Rep at r
    exact ⟨_, r, go _ M' H' J' e1 s' z⟩
  · exact z.elim
theorem pd_cut {a : Expr} {lo hi : Option Expr} {el eh : E} {ta tl th : TD} {p2 pos : Pos} (ha : PE X a (TEx X.K G B W ta)) (hl : POd X G B W lo el tl) (hh : POd X G B W hi eh th) :
    PE X (.Subscript a (.Slice lo hi none p2) pos) (TEx X.K G B W (bindD ta fun d => endD el tl fun l => endD eh th fun h => cutV2 d l h)) := by
  obtain ⟨ol, pl, gl⟩ := hl
  obtain ⟨oh, ph, gh⟩ := hh
  refine PE.imp (pe_slice (SlR.or (SlR.or sl_list sl_tup) sl_str) ha pl ph) fun σ H Q hq => ?_
  obtain ⟨ρ, M, J, K1, E1, sr, q, ok, er⟩ := hq
  refine ⟨ρ, M, J, _, E1, sr, q, fun d M1 v H1 J1 z e1 sr1 r1 => ?_, er⟩
  refine gl σ H1 ρ M1 J1 K1 E1 _ _ sr1 z er fun l M2 H2 J2 e2 sr2 z2 => ?_
  refine gh σ H2 ρ M2 J2 K1 E1 _ _ sr2 z2 er fun h M3 H3 J3 e3 sr3 z3 => ?_
  have r3 := r1.ext (e2.trans e3)
  have x3 := (e1.trans e2).trans e3
  have lst : ∀ {xs : List D}, seqD d M3 = some xs → (∃ a vs, v = .ref a ∧ SqL X.K H3 a vs ∧ Reps X.K G J3 xs vs) → K1 (.lst (cutD xs l h)) M3 → rSlL X.K v l h H3 Q := by
    rintro xs _ ⟨a, vs, rfl, h1, h2⟩ k
    refine ⟨a, vs, rfl, h1, fun p np => ?_⟩
    exact ok _ _ _ _ _ k (x3.trans (sr3.good.addI_frm np).ext) (sr3.step (sr3.good.addI np (.inl ⟨_, rfl⟩)) (sr3.good.addI_frm np)) (by
      unfold Rep; exact ⟨p, _, rfl, .of upd_same, (cut_rep l h h2).ext (sr3.good.addI_frm (o := .lst (cutV vs l h)) np).ext⟩)
  unfold cutV2 at z3
  split at z3
  · unfold Rep at r3
    subst r3
    exact .inr ⟨_, rfl, line_le z3.1, fin_ok sr3 (ok.mono x3) rep_str z3.2⟩
  · rename_i xs
    unfold Rep at r3
    obtain ⟨a, vs, rfl, h1, h2⟩ := r3
    refine .inl (.inr ⟨a, vs, rfl, sr3.good.sub.sqt h1, by rw [h2.length]; exact z3.1, fun p np => ?_⟩)
    exact ok _ _ _ _ _ z3.2 (x3.trans (sr3.good.addI_frm np).ext) (sr3.step (sr3.good.addI np (.inr (.inl ⟨_, rfl⟩))) (sr3.good.addI_frm np)) (by
      unfold Rep; exact ⟨p, _, rfl, .of upd_same, (cut_rep l h h2).ext (sr3.good.addI_frm (o := .tup (cutV vs l h)) np).ext⟩)
  · rename_i hx1 hx2
    obtain ⟨xs, hs, z3⟩ := seqX_ok z3
    · refine .inl (.inl (lst hs ?_ z3))
      cases d with
      | lst ys =>
        cases hs
        unfold Rep at r3
        obtain ⟨a, vs, rfl, h1, h2⟩ := r3
        exact ⟨a, vs, rfl, sr3.good.sub.sql h1, h2⟩
      | tup ys => exact absurd rfl (hx2 ys)
      | loc a =>
        unfold Rep at r3
        subst r3
        unfold seqD at hs
        dsimp only at hs
        split at hs
        · rename_i ys hm
          cases hs
          obtain ⟨_, o, h1, vs, rfl, h2⟩ := sr3.good.mst a _ hm
          exact ⟨a, vs, rfl, .of h1, h2⟩
        · cases hs
      | _ => cases hs
structure In (X : Cx) (s : Sc) : Prop where
  N : X.N = s.N
  sc : X.env.scope = s.sc
  nd : X.N.Nodup
  fk : X.env.scope.kind = .function
/-- where names are stored, too -/
structure InS (X : Cx) (s : Sc) : Prop extends In X s where
  fn : ∀ y, X.fn y = true ∨ X.env.scope.names.lookup y = some .local
theorem gl_of {s : Sc} {x : Str} (i : In X s) (h : glB s x = true) : Gl X x := by
  unfold glB at h
  show X.env.scope.names.lookup x = _
  rw [i.sc]
  exact beq_iff_eq.mp h
theorem vis_of {s : Sc} {x : Str} (i : In X s) (h : visB s x = true) : Vis X.env.scope x := by
  unfold Vis
  rw [i.sc]
  unfold visB at h
  split at h
  · rename_i e; exact .inl e
  · rename_i e; exact .inr (.inl e)
  · rename_i e; exact .inr (.inr e)
  · cases h
theorem loc_of {s : Sc} {x : Str} (i : In X s) (h : locB s x = true) : Loc X.env.scope x := by
  unfold L2.Loc
  rw [i.sc]
  unfold locB at h
  split at h
  · rename_i e; exact .inl e
  · rename_i e; exact .inr e
  · cases h
theorem nm_of {x : Str} (h : okNm x = true) : (x == ("__debug__" : Str)) = false ∧ (x == ("__classdict__" : Str)) = false := by
  unfold okNm at h
  rw [Bool.and_eq_true] at h
  exact ⟨by simpa using h.1, by simpa using h.2⟩
theorem name_of {s : Sc} {o : Option Str} {x : Expr} (h : nameIs s o x = true) : ∃ y p, x = .Name y p ∧ glB s y = true ∧ o = some y := by
  unfold nameIs at h
  split at h
  · rw [Bool.and_eq_true] at h
    exact ⟨_, _, rfl, h.1, beq_iff_eq.mp h.2⟩
  · cases h
theorem con_ok {cst : Const} {d : D} {k : Nat} {pos : Pos} (h : conB cst d = true) : PE X (.Constant cst k pos) (TEx X.K G B W (conD d)) := by
  unfold conB at h
  split at h
  · exact pd_con pe_non fun I => rep_non
  · rw [beq_iff_eq.mp h]; exact pd_con pe_bl fun I => rep_bl
  · rw [beq_iff_eq.mp h]; exact pd_con pe_int fun I => rep_int
  · rw [beq_iff_eq.mp h]; exact pd_con pe_str fun I => rep_str
  · cases h
/-- a bool's parts -/
theorem and2 {a b : Bool} (h : (a && b) = true) : a = true ∧ b = true := Bool.and_eq_true_iff.mp h
theorem ctx_blk (c : Ctx X G W Γ kx) (scope : Scope) (s : Shared) (H : Hp) (C : Addr) (cl : List (Str × Addr)) (fp : List Addr) : Ctx (CxB X scope s H C cl fp) G noW Γ kx :=
  ⟨c.gg, c.calls, c.room, c.guards, fun u s' ⟨a, B, sI, pins, σ, H, cls, d, e, I, nb, up, sky, na, os, ag, w⟩ => w.elim, c.calm, PassesOwn.never, c.iters⟩
theorem in_blk {sc : Sc} (i : In X sc) {scope : Scope} {own : List (Str × Nat)} (ok : BlkOk X.N X.env.scope scope own) (s : Shared) (H : Hp) (C : Addr) (cl : List (Str × Addr)) (fp : List Addr) : In (CxB X scope s H C cl fp) (sc.blk scope) :=
  ⟨i.N, by show relS scope X.env.scope = relS scope sc.sc; rw [i.sc], i.nd, ok.kind⟩
theorem own_names {N : List Str} {scope : Scope} : ∀ {is : List Nat} {ts : List Expr} {own : List (Str × Nat)}, ownOf N scope is ts = some own → own.map (·.2) = is
  | [], ts, own, h => by
    unfold ownOf at h
    split at h
    · cases h; rfl
    · cases h
  | i :: is, ts, own, h => by
    unfold ownOf at h
    split at h
    · split at h
      · rename_i y p t hc
        cases q : ownOf N scope is t with
        | none => rw [q] at h; cases h
        | some o =>
          rw [q] at h
          cases h
          show i :: o.map (·.2) = i :: is
          rw [own_names q]
      · cases h
    · cases h
theorem blk_loc {scope : Scope} {y : Str} (h : ownB scope y = true) (s : Shared) (H : Hp) (C : Addr) (cl : List (Str × Addr)) (fp : List Addr) : L2.Loc (CxB X scope s H C cl fp).env.scope y ∧ ((CxB X scope s H C cl fp).fn y = true ∨ (CxB X scope s H C cl fp).env.scope.names.lookup y = some .local) := by
  unfold ownB at h
  rcases Bool.or_eq_true_iff.mp h with h | h
  · have z := lookup_relS_keep (sc := X.env.scope) (names := scope.names) (x := y) (k := .local) (by intro z; cases z) (beq_iff_eq.mp h)
    exact ⟨.inl z, .inr z⟩
  · have z := lookup_relS_keep (sc := X.env.scope) (names := scope.names) (x := y) (k := .cell) (by intro z; cases z) (beq_iff_eq.mp h)
    exact ⟨.inr z, .inl h⟩
theorem own_tgt {sc : Sc} (i : In X sc) {scope : Scope} (s : Shared) (H : Hp) (C : Addr) (cl : List (Str × Addr)) (fp : List Addr) : ∀ {is : List Nat} {ts : List Expr} {own : List (Str × Nat)}, ownOf sc.N scope is ts = some own →
    PGs (CxB X scope s H C cl fp) ts (gAll is) ∧ (assignEach ts (CxB X scope s H C cl fp).env).length = is.length ∧ (assignEach ts (CxB X scope s H C cl fp).env).findIdx? (·.1) = none
  | [], ts, own, h => by
    unfold ownOf at h
    split at h
    · rename_i q
      obtain rfl := List.isEmpty_iff.mp q
      exact ⟨pgs_nil, rfl, rfl⟩
    · cases h
  | k :: is, ts, own, h => by
    unfold ownOf at h
    split at h
    · rename_i y p t
      split at h
      · rename_i hc
        obtain ⟨h1, h2⟩ := and2 hc
        cases q : ownOf sc.N scope is t with
        | none => rw [q] at h; cases h
        | some o =>
          obtain ⟨q1, q2, q3⟩ := own_tgt i s H C cl fp q
          obtain ⟨b1, b2⟩ := blk_loc (X := X) h2 s H C cl fp
          refine ⟨pgs_cons (pg_name (X := CxB X scope s H C cl fp) i.nd (by show X.N[k]? = _; rw [i.N]; exact beq_iff_eq.mp h1) b1 b2) q1 rfl, ?_, ?_⟩
          · show (assignEach t (CxB X scope s H C cl fp).env).length + 1 = is.length + 1
            rw [q2]
          · show List.findIdx? (·.1) ((false, assign (.Name y p) (CxB X scope s H C cl fp).env) :: assignEach t (CxB X scope s H C cl fp).env) = none
            rw [List.findIdx?_cons]
            simp [q3]
      · cases h
    · cases h
/-- a comprehension's target, as it is checked -/
theorem blk_ok (c : Ctx X G W Γ kx) {sc : Sc} (i : In X sc) {scope : Scope} {is : List Nat} {one : Bool} {tg : Expr} (h : blkB sc scope is one tg = true) :
    ∃ own gv, BlkOk X.N X.env.scope scope own ∧ own.map (·.2) = is ∧ ∀ s H C cl fp, PGw (CxB X scope s H C cl fp) G tg is (tgS one is) gv := by
  unfold blkB at h
  split at h
  · rename_i own ho
    obtain ⟨h1, h2⟩ := and2 h
    have ok : BlkOk X.N X.env.scope scope own := by rw [i.N, i.sc]; exact blkOk_by h1
    unfold ownT at ho
    split at ho
    · rename_i y p
      split at ho
      · rename_i e1
        subst e1
        have hm := own_names ho
        have hl : is.length = 1 := by simpa using h2
        obtain ⟨k, rfl⟩ := List.length_eq_one_iff.mp hl
        refine ⟨own, gName k, ok, hm, fun s H C cl fp => ?_⟩
        by_cases hc : ((sc.N[k]? == some y) && ownB scope y) = true
        · obtain ⟨z1, z2⟩ := and2 hc
          obtain ⟨b1, b2⟩ := blk_loc (X := X) z2 s H C cl fp
          exact pgw_name (pg_name (X := CxB X scope s H C cl fp) i.nd (by show X.N[k]? = _; rw [i.N]; exact beq_iff_eq.mp z1) b1 b2)
        · have z : ownOf sc.N scope [k] [.Name y p] = none := by unfold ownOf; exact if_neg hc
          rw [z] at ho
          cases ho
      · cases ho
    · rename_i ts kk p
      split at ho
      · cases ho
      · rename_i e1
        have e1 : one = false := by cases one with
          | true => exact absurd rfl e1
          | false => rfl
        subst e1
        refine ⟨own, gTup X.K is.length (gAll is), ok, own_names ho, fun s H C cl fp => ?_⟩
        obtain ⟨q1, q2, q3⟩ := own_tgt i s H C cl fp ho
        exact pgw_tup (pg_tup (X := CxB X scope s H C cl fp) c.calm q1 q2 q3)
    · cases ho
  · cases h
theorem folds_of' {e : Expr} {env : Env} (h : noSet e = true) (x : Value) : foldedSetIterable e env x = pure x := folds_of h x
/-- a comparison of any kind as a test -/
theorem pt_cmpF (c : Ctx X G W Γ kx) {a b : Expr} {ta tb : TD} {op : CmpOp} {pos : Pos} {f : D → D → TD} (ha : PE X a (TEx X.K G B W ta)) (hb : PE X b (TEx X.K G B W tb)) (ho : Op2 X G B W (compareOp op) f) (hm : behindInMarks op b = false) :
    PT X (.Compare a [op] [b] pos) (TTx X.K G B W (bindD (bind2 ta tb f) (truD G Γ))) := by
  refine ⟨fun pins s σ H Q I hq => ?_⟩
  obtain ⟨ρ, M, J, K1, E1, sr, q, ok, er⟩ := hq
  refine wpAny_isTrue_Compare1 (L2.bin ha hb I (tex_bind2 (f := f) (Q := fun v H1 => ∃ M1 J1 d, Ext J J1 ∧ SR X.K G B σ H1 ρ M1 J1 ∧ Rep X.K G J1 d v ∧ truD G Γ d ρ M1 K1 E1) ⟨ρ, M, J, _, E1, sr, q, fun d M' v H' I' z e s' r => ⟨M', I', d, e, s', r, z⟩, er⟩) fun v u s2 x y H2 I2 rx ry q2 => ?_) hm
  refine thn (ho pins s2 σ H2 _ x y v u I2 rx ry q2) fun w s3 ⟨z, H3, I3, rz, M3, J3, d, e3, sr3, r3, t3⟩ => ?_
  refine thn (tru_any c (c.room.mono (by omega)) c.guards I.ok.frames I3 sr3 r3 rz t3 er) fun b s2 h2 => ?_
  obtain ⟨M2, H2, J2, k, e2, sr2, I2⟩ := h2
  obtain ⟨b', eb, q2⟩ := ok _ _ _ _ k (e3.trans e2) sr2
  cases eb
  exact ⟨H2, I2, q2⟩
theorem tex_bind_p {K : PySem.W.Frag} {σ : L2.St} {H : Hp} {Q : VK} {a : TD} {f : D → TD} (h : TEx K G B W (bindD a f) σ H Q) : TEx K G B W a σ H fun x H1 => ∃ y, [x] = [y] ∧ TEd K G B W f y σ H1 Q := by
  obtain ⟨ρ, M, I, K1, E1, s, t, ok, er⟩ := h
  exact ⟨ρ, M, I, _, E1, s, t, fun d M' v H' I' k e s' r => ⟨v, rfl, ρ, M', I', K1, E1, d, s', r, k, ok.mono e, er⟩, er⟩
theorem pd_blx (c : Ctx X G W Γ kx) {b : Blx} {p pos : Pos} {e : Expr} {ta : TD} (hg : Gl X b.nm) (ha : PE X e (TEx X.K G B W ta)) (h1 : noStar e = true) : PE X (.Call (.Name b.nm p) [e] [] pos) (TEx X.K G B W (bindD ta (blxD b))) := by
  have hm : X.mg b.nm = none := c.gg.blt _ (by cases b <;> decide)
  have hv := b.boot
  refine ⟨fun pins s σ H Q I hq => ?_⟩
  have go : wpAny (model X.prog X.w) X.A (spliced (backTo pos (starEach [e] X.env))) (fun vs s₁ => wpAny (model X.prog X.w) X.A (PySem.call b.val vs) (EP X pins σ Q) X.xe s₁) X.xe s := by
    refine thn ((pa_cons ha pa_nil (star_cons h1)).run pos pins s σ H (fun us H' => ∃ x, us = [x] ∧ TEd X.K G B W (blxD b) x σ H' Q) I (tex_bind_p hq)) fun us s1 ⟨vs, H1, I1, r1, x, ex, q1⟩ => ?_
    subst ex
    obtain ⟨u, rfl, ru⟩ := vals1 r1
    exact op1_blx c.calm b pins s1 σ H1 Q x u I1 ru q1
  refine wpAny_Call_Name_kw (ld_blt I hg hm hv ?_ b.ne b.nd)
  have hty : (∃ id, b.val = .builtin id) ∨ ∃ T, b.val = .type T := by cases b <;> first | exact .inl ⟨_, rfl⟩ | exact .inr ⟨_, rfl⟩
  rcases hty with ⟨id, e1⟩ | ⟨T, e1⟩
  · rw [e1] at go ⊢
    exact PyProof.Rows.callWith_builtin1 go (star_cons h1) rfl
  · rw [e1] at go ⊢
    exact PyProof.Rows.callWith_type1 go (star_cons h1) rfl
end
section
variable {G : Gam} {Γ : Nat → SpD}
theorem opt_no {c : E} {t : TD} (h : isNo c = true) : optT c t = none := by cases c <;> first | rfl | exact Bool.noConfusion (show false = true from h)
theorem opt_some {c : E} {t : TD} (h : (!isNo c) = true) : optT c t = some t := by cases c <;> first | rfl | exact Bool.noConfusion (show false = true from h)
mutual
theorem sem_ok {X : Cx} {B : Bs} {W : WX} {kx : Nat} (c : Ctx X G W Γ kx) {s : Sc} (i : In X s) : ∀ (e : E) {x : Expr}, chk G s e x = true → PE X x (TEx X.K G B W (sem G Γ e).1) ∧ PT X x (TTx X.K G B W (sem G Γ e).2)
  | .no, _, h => by unfold chk at h; cases h
  | .var n, x, h => by
    unfold chk at h
    split at h
    · obtain ⟨h, h3⟩ := and2 h
      obtain ⟨h1, h2⟩ := and2 h
      obtain ⟨n1, n2⟩ := nm_of h3
      exact both_ok c (pd_var (pe_var (by rw [i.N]; exact beq_iff_eq.mp h1) (vis_of i h2) n1 n2)) rfl
    · cases h
  | .con d, x, h => by
    unfold chk at h
    split at h
    · exact both_ok c (con_ok h) rfl
    · cases h
  | .kon j, x, h => by
    unfold chk at h
    obtain ⟨y, p, rfl, hg, e⟩ := name_of h
    cases q : G.kon j with
    | none => rw [q] at e; cases e
    | some z =>
      obtain ⟨z, d⟩ := z
      rw [q] at e
      cases e
      obtain ⟨⟨u, v, hm, rv, r⟩, hd⟩ := c.gg.kon _ _ _ q
      unfold sem
      rw [q]
      exact both_ok c (pd_con (pe_glob (gl_of i hg) hm rv hd) r) rfl
  | .kls k, x, h => by
    unfold chk at h
    obtain ⟨y, p, rfl, hg, e⟩ := name_of h
    obtain ⟨hm, hd⟩ := c.gg.cn _ _ e
    exact both_ok c (pd_con (pe_glob (gl_of i hg) hm (show RelV (V.ref (G.cl k)) (Value.ref (G.cl k)) from rfl) hd) fun I => by unfold Rep; rfl) rfl
  | .ty n, x, h => by
    unfold chk at h
    split at h
    · obtain ⟨h, h6⟩ := and2 h
      obtain ⟨h, h5⟩ := and2 h
      obtain ⟨h, h4⟩ := and2 h
      obtain ⟨h, h3⟩ := and2 h
      obtain ⟨h1, h2⟩ := and2 h
      exact both_ok c (pd_con (pe_bltn (gl_of i h1) (c.gg.blt _ (List.contains_iff_mem.mp h3)) (beq_iff_eq.mp h4) (show RelV (V.ty n) (Value.type n) from rfl) (by simpa using h5) (nm_of h6).1) fun I => by unfold Rep; rfl) rfl
    · cases h
  | .bin op a b, x, h => by
    unfold chk at h
    split at h
    · obtain ⟨h, h3⟩ := and2 h
      obtain ⟨h1, h2⟩ := and2 h
      obtain rfl := beq_iff_eq.mp h2
      exact both_ok c (pd_bin (sem_ok c i a h1).1 (sem_ok c i b h3).1 (op2_bin c _)) rfl
    · cases h
  | .cmp op a b, x, h => by
    unfold chk at h
    split at h
    · obtain ⟨h, h4⟩ := and2 h
      obtain ⟨h, h3⟩ := and2 h
      obtain ⟨h1, h2⟩ := and2 h
      obtain rfl := beq_iff_eq.mp h2
      have pa := (sem_ok (B := B) (W := W) c i a h1).1
      have pb := (sem_ok (B := B) (W := W) c i b h3).1
      exact ⟨pd_cmp pa pb (op2_cmp c _) (marks_of h4), pt_cmpD c pa pb (marks_of h4)⟩
    · cases h
  | .chn op op' a b d, x, h => by
    unfold chk at h
    split at h
    · obtain ⟨h, h7⟩ := and2 h
      obtain ⟨h, h6⟩ := and2 h
      obtain ⟨h, h5⟩ := and2 h
      obtain ⟨h, h4⟩ := and2 h
      obtain ⟨h, h3⟩ := and2 h
      obtain ⟨h1, h2⟩ := and2 h
      obtain rfl := beq_iff_eq.mp h2
      obtain rfl := beq_iff_eq.mp h3
      exact pe_chnD c (sem_ok c i a h1).1 (sem_ok c i b h4).1 (sem_ok c i d h5).1 h6 h7
    · cases h
  | .neg a, x, h => by
    unfold chk at h
    split at h
    · exact both_ok c (pd_neg c (sem_ok c i a h).1) rfl
    · cases h
  | .not a, x, h => by
    unfold chk at h
    split at h
    · have q := sem_ok (B := B) (W := W) c i a h
      exact ⟨pd_not c q.1, ptd_not q.2⟩
    · cases h
  | .and a b, x, h => by
    unfold chk at h
    split at h
    · rename_i e r p
      obtain ⟨h1, h2⟩ := and2 h
      have qa := sem_ok (B := B) (W := W) c i a h1
      split at h2
      · cases h2
      · have qb := sem_ok (B := B) (W := W) c i b h2
        refine ⟨pd_and c qa.1 ⟨fun pins s σ H Q I hq => qb.1.run pins s σ H Q I hq⟩, ?_⟩
        refine ⟨fun pins s σ H Q I hq => ptd_and qa.2 (fun whole pins s σ H Q I hq => ?_) _ pins s σ H Q I hq⟩
        refine PyProof.Rows.isTrue_and (thn (qb.2.run pins s σ H Q I hq) fun k s1 q => ?_)
        cases k with
        | true => exact PyProof.Rows.ite_tt (PyProof.Rows.isTrue_and_nil q)
        | false => exact PyProof.Rows.ite_ff q
      · have qb := sem_ok (B := B) (W := W) c i b h2
        refine ⟨pd_and c qa.1 qb.1, ?_⟩
        refine ⟨fun pins s σ H Q I hq => ptd_and qa.2 (fun whole pins s σ H Q I hq => ?_) _ pins s σ H Q I hq⟩
        exact qb.2.run pins s σ H Q I hq
    · cases h
  | .or a b, x, h => by
    unfold chk at h
    split at h
    · rename_i e r p
      obtain ⟨h1, h2⟩ := and2 h
      have qa := sem_ok (B := B) (W := W) c i a h1
      split at h2
      · cases h2
      · have qb := sem_ok (B := B) (W := W) c i b h2
        refine ⟨pd_or c qa.1 ⟨fun pins s σ H Q I hq => qb.1.run pins s σ H Q I hq⟩, ?_⟩
        refine ⟨fun pins s σ H Q I hq => ptd_or qa.2 (fun whole pins s σ H Q I hq => ?_) _ pins s σ H Q I hq⟩
        refine PyProof.Rows.isTrue_or (thn (qb.2.run pins s σ H Q I hq) fun k s1 q => ?_)
        cases k with
        | true => exact PyProof.Rows.ite_tt q
        | false => exact PyProof.Rows.ite_ff (PyProof.Rows.isTrue_or_nil q)
      · have qb := sem_ok (B := B) (W := W) c i b h2
        refine ⟨pd_or c qa.1 qb.1, ?_⟩
        refine ⟨fun pins s σ H Q I hq => ptd_or qa.2 (fun whole pins s σ H Q I hq => ?_) _ pins s σ H Q I hq⟩
        exact qb.2.run pins s σ H Q I hq
    · cases h
  | .ite t a b, x, h => by
    unfold chk at h
    split at h
    · obtain ⟨h, h3⟩ := and2 h
      obtain ⟨h1, h2⟩ := and2 h
      have q1 := sem_ok (B := B) (W := W) c i t h1
      have q2 := sem_ok (B := B) (W := W) c i a h2
      have q3 := sem_ok (B := B) (W := W) c i b h3
      exact ⟨pd_ite q1.2 q2.1 q3.1, ptd_ite q1.2 q2.2 q3.2⟩
    · cases h
  | .att a k, x, h => by
    unfold chk at h
    split at h
    · obtain ⟨h, h3⟩ := and2 h
      obtain ⟨h1, h2⟩ := and2 h
      obtain rfl := beq_iff_eq.mp h2
      exact both_ok c (pd_att c (sem_ok c i a h1).1 h3) rfl
    · cases h
  | .sub a b, x, h => by
    unfold chk at h
    split at h
    · obtain ⟨h, h3⟩ := and2 h
      obtain ⟨h1, h2⟩ := and2 h
      exact both_ok c (pd_subX c (sem_ok c i a h1).1 (sem_ok c i b h2).1 h3) rfl
    · cases h
  | .cut a lo hi, x, h => by
    unfold chk at h
    split at h
    · obtain ⟨h, h3⟩ := and2 h
      obtain ⟨h1, h2⟩ := and2 h
      refine both_ok c (pd_cut (sem_ok c i a h1).1 ?_ ?_) rfl
      · split at h2
        · exact pod_none h2
        · refine pod_some (sem_ok c i lo h2).1 ?_
          cases lo <;> first | rfl | (unfold chk at h2; cases h2)
      · split at h3
        · exact pod_none h3
        · refine pod_some (sem_ok c i hi h3).1 ?_
          cases hi <;> first | rfl | (unfold chk at h3; cases h3)
    · cases h
  | .tup es, x, h => by
    unfold chk at h
    split at h
    · exact both_ok c (pd_tup (sems_ok c i es h).1) rfl
    · cases h
  | .lst es, x, h => by
    unfold chk at h
    split at h
    · exact both_ok c (pd_lst (sems_ok c i es h).1) rfl
    · cases h
  | .mlst es, x, h => by
    unfold chk at h
    split at h
    · exact both_ok c (pd_mlst (sems_ok c i es h).1) rfl
    · cases h
  | .call k es ks, x, h => by
    unfold chk at h
    split at h
    · obtain ⟨h, h5⟩ := and2 h
      obtain ⟨h, h4⟩ := and2 h
      obtain ⟨h, h3⟩ := and2 h
      obtain ⟨h1, h2⟩ := and2 h
      obtain ⟨y, p, rfl, hg, e⟩ := name_of h1
      have q := sems_ok (B := B) (W := W) c i es h4
      exact both_ok c (pd_call c e (gl_of i hg) (beq_iff_eq.mp h2).symm q.1 (semk_ok c i ks h5) q.2 h3) rfl
    · cases h
  | .cal a es, x, h => by
    unfold chk at h
    split at h
    · rename_i f e xs pos
      obtain ⟨h, h3⟩ := and2 h
      obtain ⟨h1, h2⟩ := and2 h
      have q := sems_ok (B := B) (W := W) c i es h2
      refine both_ok c (pd_cal c (sem_ok c i a h1).1 q.1 q.2 ?_) rfl
      unfold calF at h3
      split at h3
      · exact fun Q s h => wpAny_Call_Name_kw h
      · exact fun Q s h => PyProof.Rows.Call_ h
      · cases h3
    · cases h
  | .meth a k n es ks, x, h => by
    unfold chk at h
    split at h
    · obtain ⟨h, h6⟩ := and2 h
      obtain ⟨h, h5⟩ := and2 h
      obtain ⟨h, h4⟩ := and2 h
      obtain ⟨h, h3⟩ := and2 h
      obtain ⟨h1, h2⟩ := and2 h
      obtain rfl := beq_iff_eq.mp h2
      obtain rfl := beq_iff_eq.mp h4
      exact both_ok c (pd_meth c (sem_ok c i a h1).1 (sems_ok c i es h5).1 (semk_ok c i ks h6) h3) rfl
    · cases h
  | .stat cc k n es ks, x, h => by
    unfold chk at h
    split at h
    · obtain ⟨h, h6⟩ := and2 h
      obtain ⟨h, h5⟩ := and2 h
      obtain ⟨h, h4⟩ := and2 h
      obtain ⟨h, h3⟩ := and2 h
      obtain ⟨h1, h2⟩ := and2 h
      obtain ⟨y, p, rfl, hg, e⟩ := name_of h1
      obtain rfl := beq_iff_eq.mp h2
      obtain rfl := beq_iff_eq.mp h4
      unfold sem
      split
      · rename_i j hj
        exact both_ok c (pd_stat c e (gl_of i hg) hj (sems_ok c i es h5).1 (semk_ok c i ks h6) h3) rfl
      · exact both_ok c ⟨fun pins s σ H Q I ⟨_, _, _, _, _, _, q, _⟩ => q.elim⟩ rfl
    · cases h
  | .blt b es, x, h => by
    unfold chk at h
    split at h
    · obtain ⟨h, h3⟩ := and2 h
      obtain ⟨h1, h2⟩ := and2 h
      obtain ⟨y, p, rfl, hg, e⟩ := name_of h1
      cases e
      have q := sems_ok (B := B) (W := W) c i es h2
      exact both_ok c (pd_blt c (gl_of i hg) q.1 q.2 (by intro z; rw [z] at h3; cases h3)) rfl
    · cases h
  | .frz a, x, h => by
    unfold chk at h
    exact ⟨pd_frz (sem_ok c i a h).1, ⟨fun pins s σ H Q I ⟨_, _, _, _, _, _, q, _⟩ => q.elim⟩⟩
  | .lc e tg one it d, x, h => by
    unfold chk at h
    split at h
    · rename_i elt t iter ifs scope pos
      obtain ⟨h, h5⟩ := and2 h
      obtain ⟨h, h4⟩ := and2 h
      obtain ⟨h, h3⟩ := and2 h
      obtain ⟨h1, h2⟩ := and2 h
      obtain ⟨own, gv, ok, hv, hg⟩ := blk_ok c i h1
      have ht : PTo X G scope ifs (optT d (sem G Γ d).2) := by
        split at h5
        · rw [opt_no h5]; exact .no
        · obtain ⟨z1, z2⟩ := and2 h5
          rw [opt_some z1]
          exact .one fun s H C cl fp B => (sem_ok (ctx_blk c scope s H C cl fp) (in_blk i ok s H C cl fp) d z2).2
        · cases h5
      exact both_ok c (pd_lc c.calm i.nd (semI_ok c i it h2) ok hv hg ht (fun s H C cl fp B => (sem_ok (ctx_blk c scope s H C cl fp) (in_blk i ok s H C cl fp) e h4).1) (folds_of h3)).1 rfl
    · cases h
  | .dc k v tg one it d, x, h => by
    unfold chk at h
    split at h
    · rename_i kxx vx t iter ifs scope pos
      obtain ⟨h, h6⟩ := and2 h
      obtain ⟨h, h5⟩ := and2 h
      obtain ⟨h, h4⟩ := and2 h
      obtain ⟨h, h3⟩ := and2 h
      obtain ⟨h1, h2⟩ := and2 h
      obtain ⟨own, gv, ok, hv, hg⟩ := blk_ok c i h1
      have ht : PTo X G scope ifs (optT d (sem G Γ d).2) := by
        split at h6
        · rw [opt_no h6]; exact .no
        · obtain ⟨z1, z2⟩ := and2 h6
          rw [opt_some z1]
          exact .one fun s H C cl fp B => (sem_ok (ctx_blk c scope s H C cl fp) (in_blk i ok s H C cl fp) d z2).2
        · cases h6
      exact both_ok c (pd_dc c.calm i.nd (semI_ok c i it h2) ok hv hg ht (fun s H C cl fp B => (sem_ok (ctx_blk c scope s H C cl fp) (in_blk i ok s H C cl fp) k h4).1) (fun s H C cl fp B => (sem_ok (ctx_blk c scope s H C cl fp) (in_blk i ok s H C cl fp) v h5).1) (folds_of h3)).1 rfl
    · cases h
  | .dc2 k v a ia b ib, x, h => by
    unfold chk at h
    split at h
    · rename_i kxx vx y p ea z q eb scope pos
      obtain ⟨h, hB⟩ := and2 h
      obtain ⟨h, hA⟩ := and2 h
      obtain ⟨h, h9⟩ := and2 h
      obtain ⟨h, h8⟩ := and2 h
      obtain ⟨h, h7⟩ := and2 h
      obtain ⟨h, h6⟩ := and2 h
      obtain ⟨h, h5⟩ := and2 h
      obtain ⟨h, h4⟩ := and2 h
      obtain ⟨h, h3⟩ := and2 h
      obtain ⟨h1, h2⟩ := and2 h
      have ok : BlkOk X.N X.env.scope scope [(y, a), (z, b)] := by rw [i.N, i.sc]; exact blkOk_by h5
      have na : ∀ s H C cl fp, PG (CxB X scope s H C cl fp) (.Name y p) (gName a) := fun s H C cl fp => by
        obtain ⟨b1, b2⟩ := blk_loc (X := X) h2 s H C cl fp
        exact pg_name (X := CxB X scope s H C cl fp) i.nd (by show X.N[a]? = _; rw [i.N]; exact beq_iff_eq.mp h1) b1 b2
      have nb : ∀ s H C cl fp, PG (CxB X scope s H C cl fp) (.Name z q) (gName b) := fun s H C cl fp => by
        obtain ⟨b1, b2⟩ := blk_loc (X := X) h4 s H C cl fp
        exact pg_name (X := CxB X scope s H C cl fp) i.nd (by show X.N[b]? = _; rw [i.N]; exact beq_iff_eq.mp h3) b1 b2
      exact both_ok c (pd_d2 (own := [(y, a), (z, b)]) (vs := [a, b]) (vj := [b]) c.calm i.nd (semI_ok c i ia h6) ok rfl (by simp) (fun s H C cl fp => pgw_in (by simp) (na s H C cl fp)) (fun s H C cl fp B => semI_ok (ctx_blk c scope s H C cl fp) (in_blk i ok s H C cl fp) ib h8) (fun s H C cl fp => pgw_name (nb s H C cl fp))
        (fun s H C cl fp B => (sem_ok (ctx_blk c scope s H C cl fp) (in_blk i ok s H C cl fp) k hA).1) (fun s H C cl fp B => (sem_ok (ctx_blk c scope s H C cl fp) (in_blk i ok s H C cl fp) v hB).1) (folds_of h7) (fun e x => folds_of' h9 x)) rfl
    · cases h
  | .inn neg a b, x, h => by
    unfold chk at h
    split at h
    · obtain ⟨h, h4⟩ := and2 h
      obtain ⟨h, h3⟩ := and2 h
      obtain ⟨h1, h2⟩ := and2 h
      obtain rfl := beq_iff_eq.mp h2
      have pa := (sem_ok (B := B) (W := W) c i a h1).1
      have pb := (sem_ok (B := B) (W := W) c i b h3).1
      exact ⟨pd_cmp pa pb (op2_in c neg) (marks_of h4), pt_cmpF c pa pb (op2_in c neg) (marks_of h4)⟩
    · cases h
  | .eqd neg a b, x, h => by
    unfold chk at h
    split at h
    · obtain ⟨h, h4⟩ := and2 h
      obtain ⟨h, h3⟩ := and2 h
      obtain ⟨h1, h2⟩ := and2 h
      obtain rfl := beq_iff_eq.mp h2
      have pa := (sem_ok (B := B) (W := W) c i a h1).1
      have pb := (sem_ok (B := B) (W := W) c i b h3).1
      exact ⟨pd_cmp pa pb (op2_eqd c neg) (marks_of h4), pt_cmpF c pa pb (op2_eqd c neg) (marks_of h4)⟩
    · cases h
  | .subo a b, x, h => by
    unfold chk at h
    split at h
    · obtain ⟨h, h3⟩ := and2 h
      obtain ⟨h1, h2⟩ := and2 h
      exact both_ok c (pd_subO c (sem_ok c i a h1).1 (sem_ok c i b h2).1 h3) rfl
    · cases h
  | .get a k d, x, h => by
    unfold chk at h
    split at h
    · rename_i o m apos kxx cpos
      obtain ⟨h, h7⟩ := and2 h
      obtain ⟨h, h6⟩ := and2 h
      obtain ⟨h, h5⟩ := and2 h
      obtain ⟨h, h4⟩ := and2 h
      obtain ⟨h, h3⟩ := and2 h
      obtain ⟨h1, h2⟩ := and2 h
      obtain rfl := beq_iff_eq.mp h2
      have := pd_get1 c (apos := apos) (cpos := cpos) (sem_ok (B := B) (W := W) c i a h1).1 (sem_ok c i k h4).1 h3 h5 h6
      cases d <;> first | exact both_ok c this rfl | exact Bool.noConfusion (show false = true from h7)
    · rename_i o m apos kxx fx cpos
      obtain ⟨h, h8⟩ := and2 h
      obtain ⟨h, h7⟩ := and2 h
      obtain ⟨h, h6⟩ := and2 h
      obtain ⟨h, h5⟩ := and2 h
      obtain ⟨h, h4⟩ := and2 h
      obtain ⟨h, h3⟩ := and2 h
      obtain ⟨h1, h2⟩ := and2 h
      obtain rfl := beq_iff_eq.mp h2
      have := pd_get2 c (apos := apos) (cpos := cpos) (sem_ok (B := B) (W := W) c i a h1).1 (sem_ok c i k h4).1 (sem_ok c i d h7).1 h3 h5 h8 h6
      cases d <;> first | exact both_ok c this rfl | (unfold chk at h7; cases h7)
    · cases h
  | .bm n a d, x, h => by
    unfold chk at h
    split at h
    · obtain ⟨h, h6⟩ := and2 h
      obtain ⟨h, h5⟩ := and2 h
      obtain ⟨h, h4⟩ := and2 h
      obtain ⟨h, h3⟩ := and2 h
      obtain ⟨h1, h2⟩ := and2 h
      obtain rfl := beq_iff_eq.mp h2
      exact both_ok c (pd_bm c n (sem_ok c i a h1).1 (sem_ok c i d h4).1 h3 h5 h6) rfl
    · cases h
  | .blx b a, x, h => by
    unfold chk at h
    split at h
    · obtain ⟨h, h3⟩ := and2 h
      obtain ⟨h1, h2⟩ := and2 h
      obtain ⟨y, p, rfl, hg, e⟩ := name_of h1
      cases e
      exact both_ok c (pd_blx c (gl_of i hg) (sem_ok c i a h2).1 h3) rfl
    · cases h
  | .dct0, x, h => by
    unfold chk at h
    split at h
    · exact both_ok c pd_dct0 rfl
    · cases h
  | .mdct0, x, h => by
    unfold chk at h
    split at h
    · exact both_ok c pd_mdct rfl
    · cases h
  | .mrg a b, x, h => by
    unfold chk at h
    split at h
    · obtain ⟨h1, h2⟩ := and2 h
      exact both_ok c (pd_mrg (sem_ok c i a h1).1 (sem_ok c i b h2).1) rfl
    · cases h
  | .tups ss, x, h => by
    unfold chk at h
    split at h
    · exact both_ok c (pd_tup (semT_ok c i ss h)) rfl
    · cases h
  | .lsts ss, x, h => by
    unfold chk at h
    split at h
    · exact both_ok c (pd_lst (semT_ok c i ss h)) rfl
    · cases h
  | .mlsts ss, x, h => by
    unfold chk at h
    split at h
    · exact both_ok c (pd_mlst (semT_ok c i ss h)) rfl
    · cases h
  | .fmt b a, x, h => by
    unfold chk at h
    split at h
    · obtain ⟨h1, h2⟩ := and2 h
      obtain rfl := beq_iff_eq.mp h2
      have q := (sem_ok (B := B) (W := W) c i a h1).1
      cases b with
      | true => exact both_ok c (pd_fmtS c q) rfl
      | false => exact both_ok c (pd_fmt c q) rfl
    · cases h
  | .jn es, x, h => by
    unfold chk at h
    split at h
    · exact both_ok c (pd_jn (semJ_ok c i es h)) rfl
    · cases h
  | .jn1 a, x, h => by
    unfold chk at h
    split at h
    · exact both_ok c (pe_joined1 (sem_ok c i a h).1) rfl
    · cases h
  | .cmet cc k es, x, h => by
    unfold chk at h
    split at h
    · rename_i o m apos xs pos
      obtain ⟨h, h5⟩ := and2 h
      obtain ⟨h, h4⟩ := and2 h
      obtain ⟨h, h3⟩ := and2 h
      obtain ⟨h1, h2⟩ := and2 h
      obtain ⟨y, p, rfl, hg, e⟩ := name_of h1
      obtain rfl := beq_iff_eq.mp h2
      have q := (sems_ok (B := B) (W := W) c i es h4).1
      unfold sem
      cases xs with
      | nil => cases h5
      | cons x0 xr =>
        split
        · rename_i j hj
          split
          · rename_i hC
            exact both_ok c (pd_cmet c e (gl_of i hg) hj hC q h3) rfl
          · exact both_ok c ⟨fun pins s σ H Q I ⟨_, _, _, _, _, _, q, _⟩ => q.elim⟩ rfl
        · exact both_ok c ⟨fun pins s σ H Q I ⟨_, _, _, _, _, _, q, _⟩ => q.elim⟩ rfl
    · cases h
  | .callv v cc j es ks, x, h => by
    unfold chk at h
    split at h
    · obtain ⟨h, h9⟩ := and2 h
      obtain ⟨h, h8⟩ := and2 h
      obtain ⟨h, h7⟩ := and2 h
      obtain ⟨h, h6⟩ := and2 h
      obtain ⟨h, h5⟩ := and2 h
      obtain ⟨h, h4⟩ := and2 h
      obtain ⟨h, h3⟩ := and2 h
      obtain ⟨h1, h2⟩ := and2 h
      obtain ⟨n1, n2⟩ := nm_of h3
      obtain ⟨y, hy⟩ := Option.isSome_iff_exists.mp h4
      have q := sems_ok (B := B) (W := W) c i es h8
      exact both_ok c (pd_callv c (pd_var (pe_var (by rw [i.N]; exact beq_iff_eq.mp h1) (vis_of i h2) n1 n2)) hy ((beq_iff_eq.mp h5).symm.trans hy) (beq_iff_eq.mp h6).symm q.1 (semk_ok c i ks h9) q.2 h7) rfl
    · cases h
  | .mdsp ps, x, h => by
    unfold chk at h
    split at h
    · obtain ⟨h, h5⟩ := and2 h
      obtain ⟨h, h4⟩ := and2 h
      obtain ⟨h, h3⟩ := and2 h
      obtain ⟨h1, h2⟩ := and2 h
      exact both_ok c (pd_mdsp (semP_ok c i ps h5) h1 (of_decide_eq_true h2) (by intro z; rw [z] at h3; cases h3) (of_decide_eq_true h4)) rfl
    · cases h
theorem semP_ok {X : Cx} {B : Bs} {W : WX} {kx : Nat} (c : Ctx X G W Γ kx) {s : Sc} (i : In X s) {pos : Pos} : ∀ (ps : Ps) {ks : List (Option Expr)} {vs : List Expr}, chkP G s ps ks vs = true → PPd X G B W pos ks vs (semP G Γ ps)
  | .nil, ks, vs, h => by
    unfold chkP at h
    obtain ⟨h1, h2⟩ := and2 h
    obtain rfl := List.isEmpty_iff.mp h1
    obtain rfl := List.isEmpty_iff.mp h2
    exact ppd_nil
  | .cons k v r, ks, vs, h => by
    unfold chkP at h
    split at h
    · obtain ⟨h, h3⟩ := and2 h
      obtain ⟨h1, h2⟩ := and2 h
      exact ppd_cons (sem_ok c i k h1).1 (sem_ok c i v h2).1 (semP_ok c i r h3)
    · cases h
theorem semJ_ok {X : Cx} {B : Bs} {W : WX} {kx : Nat} (c : Ctx X G W Γ kx) {s : Sc} (i : In X s) : ∀ (es : Es) {xs : List Expr}, chks G s es xs = true → PJd X G B W xs (semJ G Γ es)
  | .nil, xs, h => by
    unfold chks at h
    obtain rfl := List.isEmpty_iff.mp h
    exact pjd_nil fun acc ρ M K E q => q
  | .cons e es, xs, h => by
    unfold chks at h
    split at h
    · obtain ⟨h, h3⟩ := and2 h
      obtain ⟨h1, h2⟩ := and2 h
      exact pjd_cons (sem_ok c i e h1).1 (semJ_ok c i es h3) fun acc ρ M K E q => q
    · cases h
theorem semT_ok {X : Cx} {B : Bs} {W : WX} {kx : Nat} (c : Ctx X G W Γ kx) {s : Sc} (i : In X s) : ∀ (ss : Sts) {xs : List Expr}, chkT G s ss xs = true → PA X xs (TAx X.K G B W (semT G Γ ss))
  | .nil, xs, h => by
    unfold chkT at h
    obtain rfl := List.isEmpty_iff.mp h
    exact pd_nil
  | .one e r, xs, h => by
    unfold chkT at h
    split at h
    · obtain ⟨h, h3⟩ := and2 h
      obtain ⟨h1, h2⟩ := and2 h
      exact pd_cons (sem_ok c i e h1).1 (semT_ok c i r h3) (star_cons h2)
    · cases h
  | .star e r, xs, h => by
    unfold chkT at h
    split at h
    · obtain ⟨h1, h2⟩ := and2 h
      exact pd_star (sem_ok c i e h1).1 (semT_ok c i r h2)
    · cases h
  | .itms e r, xs, h => by
    unfold chkT at h
    split at h
    · obtain ⟨h, h5⟩ := and2 h
      obtain ⟨h, h4⟩ := and2 h
      obtain ⟨h, h3⟩ := and2 h
      obtain ⟨h1, h2⟩ := and2 h
      obtain rfl := beq_iff_eq.mp h2
      exact pd_stari c.calm (sem_ok c i e h1).1 h3 h4 (semT_ok c i r h5)
    · cases h
theorem semI_ok {X : Cx} {B : Bs} {W : WX} {kx : Nat} (c : Ctx X G W Γ kx) {s : Sc} (i : In X s) : ∀ (it : It) {tg x : Expr}, chkI G s it tg x = true → PId X G B W tg x (semI G Γ it)
  | .seq e, tg, x, h => by
    unfold chkI at h
    exact pid_anyO c (sem_ok c i e h).1
  | .rng e, tg, x, h => by
    unfold chkI at h
    split at h
    · rename_i y p a pos
      obtain ⟨h, h4⟩ := and2 h
      obtain ⟨h, h3⟩ := and2 h
      obtain ⟨h1, h2⟩ := and2 h
      obtain rfl := beq_iff_eq.mp h1
      exact pid_rng1 (gl_of i h2) (c.gg.blt _ (by decide)) (pd_cons (sem_ok c i e h3).1 pd_nil (star_cons h4)) (star_cons h4)
    · cases h
  | .itm e, tg, x, h => by
    unfold chkI at h
    split at h
    · obtain ⟨h, h5⟩ := and2 h
      obtain ⟨h, h4⟩ := and2 h
      obtain ⟨h, h3⟩ := and2 h
      obtain ⟨h1, h2⟩ := and2 h
      obtain rfl := beq_iff_eq.mp h3
      unfold isTup at h1
      split at h1
      · exact pid_items (sem_ok c i e h2).1 h4 h5
      · cases h1
    · cases h
  | .val e, tg, x, h => by
    unfold chkI at h
    split at h
    · obtain ⟨h, h5⟩ := and2 h
      obtain ⟨h, h4⟩ := and2 h
      obtain ⟨h2, h3⟩ := and2 h
      obtain rfl := beq_iff_eq.mp h3
      exact pid_vals (sem_ok c i e h2).1 h4 h5
    · cases h
  | .zip a b, tg, x, h => by
    unfold chkI at h
    split at h
    · obtain ⟨h, h7⟩ := and2 h
      obtain ⟨h, h6⟩ := and2 h
      obtain ⟨h, h5⟩ := and2 h
      obtain ⟨h, h4⟩ := and2 h
      obtain ⟨h, h3⟩ := and2 h
      obtain ⟨h1, h2⟩ := and2 h
      obtain rfl := beq_iff_eq.mp h2
      unfold isTup at h1
      split at h1
      · exact pid_zip (gl_of i h3) (c.gg.blt _ (by decide)) (pd_cons (sem_ok c i a h4).1 (pd_cons (sem_ok c i b h5).1 pd_nil (star_cons h7)) (star_cons h6)) h6 h7
      · cases h1
    · cases h
theorem sems_ok {X : Cx} {B : Bs} {W : WX} {kx : Nat} (c : Ctx X G W Γ kx) {s : Sc} (i : In X s) : ∀ (es : Es) {xs : List Expr}, chks G s es xs = true → PA X xs (TAx X.K G B W (sems G Γ es)) ∧ xs.all noStar = true
  | .nil, xs, h => by
    unfold chks at h
    obtain rfl := List.isEmpty_iff.mp h
    exact ⟨pd_nil, rfl⟩
  | .cons e es, xs, h => by
    unfold chks at h
    split at h
    · obtain ⟨h, h3⟩ := and2 h
      obtain ⟨h1, h2⟩ := and2 h
      have q := sems_ok (B := B) (W := W) c i es h3
      refine ⟨pd_cons (sem_ok c i e h1).1 q.1 (star_cons h2), ?_⟩
      rw [List.all_cons, h2, q.2]
      rfl
    · cases h
theorem semk_ok {X : Cx} {B : Bs} {W : WX} {kx : Nat} (c : Ctx X G W Γ kx) {s : Sc} (i : In X s) : ∀ (es : Es) {xs : List Keyword}, chkk G s es xs = true → PKd X G B W xs (sems G Γ es)
  | .nil, xs, h => by
    unfold chkk at h
    obtain rfl := List.isEmpty_iff.mp h
    exact pkd_nil
  | .cons e es, xs, h => by
    unfold chkk at h
    split at h
    · rename_i x t
      obtain ⟨h1, h2⟩ := and2 h
      obtain ⟨a, v, p⟩ := x
      exact pkd_cons (sem_ok c i e h1).1 (semk_ok c i es h2)
    · cases h
end
end
end PyD
set_option Elab.async false
set_option linter.all false
set_option autoImplicit false
set_option maxRecDepth 100000
set_option maxHeartbeats 4000000
/-! # In place; several targets -/
namespace PyD
open PySem PySem.Spec L2
section
variable (G : Gam) (Γ : Nat → SpD)
def inpD (op : Operator) (a b : D) : TD := fun ρ M K E => match a with
  | .int i => (match b with
    | .int j => op ≠ .Pow ∧ intBin op i j fun d => K d M
    | _ => False)
  | .str x => (match b with
    | .str y => op = .Add ∧ x.length + y.length ≤ 1000000 ∧ K (.str (x ++ y)) M
    | _ => False)
  | .obj _ _ => ownL G Γ (opk op) a b ρ M K E
  | .loc _ => ownL G Γ (opk op) a b ρ M K E
  | _ => False
end
section
variable {X : Cx} {G : Gam} {B : Bs} {W : WX} {Γ : Nat → SpD} {kx : Nat}
theorem int_in {op : Operator} {i j : Int} {t u : Tok} {pins : List (Addr × Obj)} {s : Shared} {σ : L2.St} {H : Hp} {Q : VK} (I : L2.Inv X pins σ H s) (ho : op ≠ .Pow) (h : intBin op i j fun d => ∀ n, d = .int n → Q (.int n) H) :
    wpAny (model X.prog X.w) X.A (inplaceOp op (.int i t) (.int j u)) (EP X pins σ Q) X.xe s := by
  cases op <;> unfold intBin at h <;> first | exact h.elim | exact absurd rfl ho | skip
  · exact iop_add pins s σ H (.int i) (.int j) _ _ Q I ⟨t, rfl⟩ ⟨u, rfl⟩ ⟨i, j, rfl, rfl, h _ rfl⟩
  · exact iop_sub pins s σ H (.int i) (.int j) _ _ Q I ⟨t, rfl⟩ ⟨u, rfl⟩ ⟨i, j, rfl, rfl, h _ rfl⟩
  · exact PySem.P.imul_int ⟨.int _, H, I.tok _, ⟨_, rfl⟩, h.2 _ rfl⟩ (mulOk_ok h.1)
  · exact PyProof.Rows.imod_int h.1 ⟨.int _, H, I.tok _, ⟨_, rfl⟩, h.2 _ rfl⟩
  · exact PyProof.Rows.ifloordiv_int h.1.1 ⟨.int _, H, I.tok _, ⟨_, rfl⟩, h.2 _ rfl⟩ (.inl (PyProof.noPylong_of_log2 (Nat.lt_of_lt_of_le (PySem.Flt.log2_lt_of (by decide) h.1.2) (by decide))))
theorem side_in (c : Ctx X G W Γ kx) {T : String} {cc i j : Nat} {op : Operator} {a : Addr} {pins : List (Addr × Obj)} {s : Shared} {σ : L2.St} {H : Hp} {dx : Addr} {vfs : List (Str × V)} {Q : Value → Shared → Prop} {u : Value} (I : L2.Inv X pins σ H s) (ha : H a = some (.ins (G.cl cc) dx vfs))
    (hT : T ∈ sideTs) (hu : PySem.W.Looks (model X.prog X.w) s.heap (typeOf u) (.type T)) (hk : opk op < 14) (h1 : G.dn cc (opk op) = some i) (h2 : G.dn cc (opk op + 1) = some j)
    (h : wpAny (model X.prog X.w) X.A (PySem.call (.ref (G.adr i)) [.ref a, u]) (PySem.W.CmpBack Q) X.xe s) : wpAny (model X.prog X.w) X.A (inplaceOp op (.ref a) u) Q X.xe s := by
  obtain ⟨e1, e2⟩ := dunder_nm c.ops hk
  obtain ⟨_, m1, sf⟩ := c.ops.ok.dn _ _ _ h1
  obtain ⟨_, m2, _⟩ := c.ops.ok.dn _ _ _ h2
  obtain ⟨od, J⟩ := inst_at I ha
  obtain ⟨mf, F⟩ := I.fr
  obtain ⟨cd, hcd, hn⟩ := c.ops.inI _ _ _ h1 hk
  have s1 := c.ops.side _ _ _ h1 hk T hT
  have s2 : (PySem.W.findIn X.K (.type T) (G.nm (opk op + 1))).isSome = true := c.ops.side _ _ _ h2 (by
    cases op <;> first | decide | (exfalso; revert hk; decide)) T hT
  obtain ⟨fo, s1⟩ := Option.isSome_iff_exists.mp s1
  obtain ⟨ro, s2⟩ := Option.isSome_iff_exists.mp s2
  rw [e1] at s1
  rw [e2] at s2
  obtain ⟨m11, m12, m13⟩ := m1
  obtain ⟨m21, m22, m23⟩ := m2
  rw [e1] at m11
  rw [e2] at m21
  exact own_side_in F I.mod.kin J hu sf hcd hn m11 m12 m21 (.inr ⟨_, rfl⟩) s1 s2 (c.ops.sub _ _ _ h1 (by omega) T hT) h
theorem op2_inL (c : Ctx X G W Γ kx) (op : Operator) : Op2 X G B W (inplaceOp op) (ownL G Γ (opk op)) := by
  rintro pins s σ H Q x y v u I rx ry ⟨ρ, M, J, K1, E1, d, e, sr, r1, r2, t, ok, er⟩
  unfold ownL at t
  obtain ⟨cc, fs, hi, hs, hk, h2, t⟩ := instX_ok t
  · skip
    obtain ⟨i, h1, run⟩ := own_of c I sr r1 r2 rx ry hi t ok er
    obtain ⟨a, dx, vfs, rfl, ha, _⟩ := instD_ok sr.good r1 hi
    obtain rfl : v = Value.ref a := rx
    unfold sameOrSide at hs
    split at hs
    · unfold Rep at r2; subst r2
      obtain rfl : u = Value.none := ry
      obtain ⟨j, h2⟩ := Option.isSome_iff_exists.mp h2
      exact side_in c I ha (T := "NoneType") (by decide) (PySem.W.Looks.of_pure rfl) hk h1 h2 run
    · unfold Rep at r2; subst r2
      obtain rfl : u = Value.bool _ := ry
      obtain ⟨j, h2⟩ := Option.isSome_iff_exists.mp h2
      exact side_in c I ha (T := "bool") (by decide) (PySem.W.Looks.of_pure rfl) hk h1 h2 run
    · unfold Rep at r2; subst r2
      obtain ⟨tk, rfl⟩ := ry
      obtain ⟨j, h2⟩ := Option.isSome_iff_exists.mp h2
      exact side_in c I ha (T := "int") (by decide) (PySem.W.Looks.of_pure rfl) hk h1 h2 run
    · unfold Rep at r2; subst r2
      obtain ⟨tk, rfl⟩ := ry
      obtain ⟨j, h2⟩ := Option.isSome_iff_exists.mp h2
      exact side_in c I ha (T := "str") (by decide) (PySem.W.Looks.of_pure rfl) hk h1 h2 run
    · unfold Rep at r2
      obtain ⟨b, vs, rfl, hb, _⟩ := r2
      obtain rfl : u = Value.ref b := ry
      obtain ⟨its, _, ⟨o, n, ho, hc, _⟩, _⟩ := I.list (sr.good.sub.sql hb)
      obtain ⟨j, h2⟩ := Option.isSome_iff_exists.mp h2
      exact side_in c I ha (T := "list") (by decide) (by rw [← hc]; exact looks_ty ho) hk h1 h2 run
    · unfold Rep at r2
      obtain ⟨b, vs, rfl, hb, _⟩ := r2
      obtain rfl : u = Value.ref b := ry
      obtain ⟨its, _, ⟨o, ho, hc, _⟩, _⟩ := I.tuple (sr.good.sub.sqt hb)
      obtain ⟨j, h2⟩ := Option.isSome_iff_exists.mp h2
      exact side_in c I ha (T := "tuple") (by decide) (by rw [← hc]; exact looks_ty ho) hk h1 h2 run
    · unfold Rep at r2
      obtain ⟨b, ob, kvs, rfl, hb, _⟩ := r2
      obtain rfl : u = Value.ref b := ry
      obtain ⟨_, _, _, _, dd⟩ := dk_rd I.hok (sr.good.sub.dK hb)
      obtain ⟨o, ho, hc⟩ := dd.typeIs
      obtain ⟨j, h2⟩ := Option.isSome_iff_exists.mp h2
      exact side_in c I ha (T := "dict") (by decide) (by rw [← hc]; exact looks_ty ho) hk h1 h2 run
    · obtain ⟨c', fs', hj, hs⟩ := instX_ok hs
      · subst hs
        obtain ⟨b, dy, vgs, rfl, hb, _⟩ := instD_ok sr.good r2 hj
        obtain rfl : u = Value.ref b := ry
        obtain ⟨e1, e2⟩ := dunder_nm c.ops hk
        obtain ⟨_, ⟨m11, m12, m13⟩, sf⟩ := c.ops.ok.dn _ _ _ h1
        obtain ⟨cd, hcd, hn⟩ := c.ops.inI _ _ _ h1 hk
        obtain ⟨od, J1⟩ := inst_at I ha
        obtain ⟨od2, J2⟩ := inst_at I hb
        obtain ⟨mf, F⟩ := I.fr
        rw [e1] at m11
        exact own_same_in F I.mod.kin J1 J2 sf hcd hn m11 m12 run
theorem op2_inp (c : Ctx X G W Γ kx) (op : Operator) : Op2 X G B W (inplaceOp op) (inpD G Γ op) := by
  rintro pins s σ H Q x y v u I rx ry ⟨ρ, M, J, K1, E1, d, e, sr, r1, r2, t, ok, er⟩
  unfold inpD at t
  split at t
  · rename_i i
    split at t
    · rename_i j
      unfold Rep at r1 r2
      subst r1 r2
      obtain ⟨tk, rfl⟩ := rx
      obtain ⟨tk2, rfl⟩ := ry
      exact int_in I t.1 (intBin_imp t.2 fun n h m e => by cases e; exact fin_ok sr ok rep_int h)
    · exact t.elim
  · rename_i p
    split at t
    · rename_i q
      obtain ⟨rfl, hz, t⟩ := t
      unfold Rep at r1 r2
      subst r1 r2
      exact iop_add_str pins s σ H _ _ _ _ Q I rx ry ⟨p, q, rfl, rfl, line_le hz, fin_ok sr ok rep_str t⟩
    · exact t.elim
  · exact op2_inL c op pins s σ H Q x y v u I rx ry ⟨ρ, M, J, K1, E1, _, _, sr, r1, r2, t, ok, er⟩
  · exact op2_inL c op pins s σ H Q x y v u I rx ry ⟨ρ, M, J, K1, E1, _, _, sr, r1, r2, t, ok, er⟩
  · exact t.elim
/-- x op= e -/
def augS (G : Gam) (Γ : Nat → SpD) (op : Operator) (i : Nat) (te : TD) : TSd := fun ρ M En => match ρ[i]? with
  | some (some x) => te ρ M (fun y M1 => inpD G Γ op x y ρ M1 (fun z M2 => En.nx (ρ.set i (some z)) M2) (erE En ρ)) (erE En ρ)
  | _ => False
theorem pds_aug (c : Ctx X G W Γ kx) {i : Nat} {x : Str} {e : Expr} {op : Operator} {t : TD} {pos pos' : Pos} (hN : X.N.Nodup) (hi : X.N[i]? = some x) (hx : L2.Loc X.env.scope x) (he : PE X e (TEx X.K G B W t)) (hf : X.fn x = true ∨ X.env.scope.names.lookup x = some .local) :
    PS X (.AugAssign (.Name x pos') op e pos) (TSx X.K G B W (augS G Γ op i t)) := by
  refine ⟨fun pins s σ H D I h => ?_⟩
  obtain ⟨ρ, M, J, En, sr, t, ok⟩ := h
  unfold augS at t
  split at t
  · rename_i d hd
    obtain ⟨xv, e1, r0⟩ := sr.env.2 i d hd
    obtain ⟨m, hn, hl⟩ := I.loc
    have vis : Vis X.env.scope x := by rcases hx with k | k; exact .inl k; exact .inr (.inl k)
    obtain ⟨u, r, l⟩ := hl i x xv hi e1 vis
    refine wpAny_AugAssign_Name ?_
    have go : wpAny (model X.prog X.w) X.A (eval e X.env) (fun w s₂ => wpAny (model X.prog X.w) X.A (inplaceOp op u w) (fun r s₃ => wpAny (model X.prog X.w) X.A (storeName X.env x r) (fun _ => SP X pins D .next) X.xe s₃) X.xe s₂) X.xe s := by
      refine run_e (f := fun y ρ M1 _ _ => inpD G Γ op d y ρ M1 (fun z M2 => En.nx (ρ.set i (some z)) M2) (erE En ρ)) (K1 := fun _ _ => True) he I sr t (erC ok) fun w s1 y H1 M1 J1 dy I1 r1 x1 sr1 q1 t1 => ?_
      refine thn (op2_inp c op pins s1 σ H1 (fun z H2 => ∃ M2 J2 dz, Ext J1 J2 ∧ SR X.K G B σ H2 ρ M2 J2 ∧ Rep X.K G J2 dz z ∧ En.nx (ρ.set i (some dz)) M2) xv y u w I1 r r1 ⟨ρ, M1, J1, _, _, d, dy, sr1, r0.ext x1, q1, t1, fun z M2 v H2 J2 k e s' r => ⟨M2, J2, z, e, s', r, k⟩, erC ok⟩) fun z s2 ⟨zv, H2, I2, r2, M2, J2, dz, e2, sr2, q2, k2⟩ => ?_
      exact store_ok I2 hN hi hx r2 (fun s3 I3 => ⟨_, H2, I3, ok.nx _ _ _ _ _ k2 (sr2.set q2)⟩) hf
    rcases l with ⟨hk, hm⟩ | ⟨hk, c, hc, hcell⟩
    · exact wpAny_loadName_local I.ok.kind hk hn hm go
    · rcases hk with hk | hk
      · exact wpAny_loadName_cell I.ok.kind hk hc hcell go
      · rcases hx with k | k
        · have : X.env.scope.names.lookup x = some .free := hk
          rw [k] at this; cases this
        · have : X.env.scope.names.lookup x = some .free := hk
          rw [k] at this; cases this
  · exact t.elim
/-- several names at once -/
def unpS (g : D → Slots → Option Slots) (t : TD) : TSd := fun ρ M En => t ρ M (fun d M' => match g d ρ with
  | some ρ1 => En.nx ρ1 M'
  | none => False) (erE En ρ)
theorem pds_unp {tg e : Expr} {t : TD} {g : D → Slots → Option Slots} {gv : TG} {pos : Pos} (he : PE X e (TEx X.K G B W t)) (hg : PGd X G B tg g gv) (hs : swapsWithSole [tg] e pos.line X.env = pure false) (hw : swappedStores [tg] e X.env = pure none)
    (h1 : (assignEach [tg] X.env).map (·.2) = [assign tg X.env]) : PS X (.Assign [tg] e pos) (TSx X.K G B W (unpS g t)) := by
  refine PS.imp (ps_asg he hg.1 hs hw h1) fun D σ H ⟨ρ, M, J, En, sr, t, ok⟩ => ?_
  refine ⟨ρ, M, J, _, _, sr, t, fun d M' v H' J' k e s' r => ?_, erC ok⟩
  dsimp only at k
  split at k
  · rename_i ρ1 h
    exact hg.2 d v σ H' ρ ρ1 M' J' _ s' r h fun σ1 s1 => ok.nx _ _ _ _ _ k s1
  · exact k.elim
/-- a, b = x, y stored as one -/
def parS (is : List Nat) (t : TDs) : TSd := fun ρ M En => t ρ M (fun ds M' => match setAll is ds ρ with
  | some ρ1 => En.nx ρ1 M'
  | none => False) (erE En ρ)
theorem pds_par2 {i j : Nat} {x y : Str} {a b : Expr} {t : TDs} {px py pt pos : Pos} {kt k2 pt2} (hc : X.calm = true) (hN : X.N.Nodup) (hi : X.N[i]? = some x) (hj : X.N[j]? = some y) (hij : i ≠ j)
    (hx : X.env.scope.names.lookup x = some .local) (hy : X.env.scope.names.lookup y = some .local) (ha : PA X [a, b] (TAx X.K G B W t))
    (hw : swappedStores [.Tuple [.Name x px, .Name y py] kt pt] (.Tuple [a, b] k2 pt2) X.env = pure (some [x, y])) :
    PS X (.Assign [.Tuple [.Name x px, .Name y py] kt pt] (.Tuple [a, b] k2 pt2) pos) (TSx X.K G B W (parS [i, j] t)) := by
  refine PS.imp (ps_par hc hN hi hj hij hx hy ha hw) fun D σ H ⟨ρ, M, J, En, sr, t, ok⟩ => ?_
  refine ⟨ρ, M, J, _, _, sr, t, fun ds M' vs H' J' k e s' r => ?_, erC ok⟩
  dsimp only at k
  split at k
  · rename_i ρ1 h
    have hl := setAll_len h
    match ds, hl with
    | [d1, d2], _ =>
      obtain ⟨v, w, rfl, r1, r2⟩ := reps2 r
      unfold setAll at h
      unfold setAll at h
      unfold setAll at h
      cases h
      exact ⟨v, w, rfl, ok.nx _ _ _ _ _ k ((s'.set r1).set r2)⟩
  · exact k.elim
theorem pds_par3 {i j l : Nat} {x y z : Str} {a b d : Expr} {t : TDs} {px py pz pt pos : Pos} {kt k2 pt2} (hc : X.calm = true) (hN : X.N.Nodup) (hi : X.N[i]? = some x) (hj : X.N[j]? = some y) (hl : X.N[l]? = some z) (hij : i ≠ j) (hil : i ≠ l) (hjl : j ≠ l)
    (hx : X.env.scope.names.lookup x = some .local) (hy : X.env.scope.names.lookup y = some .local) (hz : X.env.scope.names.lookup z = some .local) (ha : PA X [a, b, d] (TAx X.K G B W t))
    (hw : swappedStores [.Tuple [.Name x px, .Name y py, .Name z pz] kt pt] (.Tuple [a, b, d] k2 pt2) X.env = pure (some [x, y, z])) :
    PS X (.Assign [.Tuple [.Name x px, .Name y py, .Name z pz] kt pt] (.Tuple [a, b, d] k2 pt2) pos) (TSx X.K G B W (parS [i, j, l] t)) := by
  refine PS.imp (ps_par3 hc hN hi hj hl hij hil hjl hx hy hz ha hw) fun D σ H ⟨ρ, M, J, En, sr, t, ok⟩ => ?_
  refine ⟨ρ, M, J, _, _, sr, t, fun ds M' vs H' J' k e s' r => ?_, erC ok⟩
  dsimp only at k
  split at k
  · rename_i ρ1 h
    have hl := setAll_len h
    match ds, hl with
    | [d1, d2, d3], _ =>
      unfold Reps at r
      obtain ⟨u, q, rfl, r0, r⟩ := r
      obtain ⟨v, w, rfl, r1, r2⟩ := reps2 r
      unfold setAll at h
      unfold setAll at h
      unfold setAll at h
      unfold setAll at h
      cases h
      exact ⟨u, v, w, rfl, ok.nx _ _ _ _ _ k (((s'.set r0).set r1).set r2)⟩
  · exact k.elim
/-- a list or a tuple is walked -/
def iSeq (K : PySem.W.Frag) (tl : TE) : TI := fun σ H R => tl σ H fun x H1 => ∃ a, x = .ref a ∧ (((∃ xs, SqL K H1 a xs) ∧ R (Itl K a) H1) ∨ ((∃ xs, SqT K H1 a xs) ∧ R (Itt K a) H1))
theorem pi_seq {tg l : Expr} {tl : TE} (hl : PE X l tl) : PI X tg l (iSeq X.K tl) := by
  refine ⟨fun pins s σ H R I h => ?_⟩
  refine thn (hl.run pins s σ H _ I h) fun v s1 ⟨x, H1, I1, r1, q1⟩ => ?_
  obtain ⟨a, rfl, q⟩ := q1
  obtain rfl : v = Value.ref a := r1
  have own : ∀ b ∈ [s1.heap.objs.size], FpOk X pins H1 b := fun b hb => by
    obtain rfl := List.mem_singleton.mp hb
    exact I1.fpOk (Nat.le_refl _) (I1.hok.fresh (Nat.le_refl _))
  rcases q with ⟨⟨xs, hq⟩, q⟩ | ⟨⟨xs, hq⟩, q⟩
  · obtain ⟨its, rv, p, hz⟩ := I1.list hq
    exact wpAny_pyIter_list p.isList ⟨s1.heap.objs.size, _, _, _, H1, rfl, I1.kept (t' := s1.toks) fun b o e => Heap.get?_push_of_some _ e, turn_list a _, ⟨_, Heap.get?_push_size _ rfl, rfl, rfl⟩, own, q⟩
  · obtain ⟨its, rv, p, hz⟩ := I1.tuple hq
    exact wpAny_pyIter_tuple (show s1.heap.IsTuple a its.toArray from p) ⟨s1.heap.objs.size, _, _, _, H1, rfl, I1.kept (t' := s1.toks) fun b o e => Heap.get?_push_of_some _ e, turn_tuple a _, ⟨_, Heap.get?_push_size _ rfl, rfl, rfl⟩, own, q⟩
def seqI (t : TD) : TDs := fun ρ M K E => t ρ M (fun d M' => match d with
  | .lst ds => K ds M'
  | .tup ds => K ds M'
  | _ => False) E
theorem pid_seq {tg e : Expr} {t : TD} (h : PE X e (TEx X.K G B W t)) : PId X G B W tg e (seqI t) := by
  refine ⟨_, pi_seq h, fun σ H ρ M I K1 E1 R s q er k => ?_⟩
  refine ⟨ρ, M, I, _, _, s, q, fun d M' v H' I' z e s' r => ?_, er⟩
  dsimp only at z
  split at z
  · unfold Rep at r
    obtain ⟨a, vs, rfl, hs, hr⟩ := r
    exact ⟨a, rfl, .inl ⟨⟨vs, s'.good.sub.sql hs⟩, k _ _ _ _ _ z e s' (walk_list hs hr)⟩⟩
  · unfold Rep at r
    obtain ⟨a, vs, rfl, hs, hr⟩ := r
    exact ⟨a, rfl, .inr ⟨⟨vs, s'.good.sub.sqt hs⟩, k _ _ _ _ _ z e s' (walk_tup hs hr)⟩⟩
  · exact z.elim
end
end PyD
set_option Elab.async false
set_option linter.all false
set_option autoImplicit false
set_option maxRecDepth 100000
set_option maxHeartbeats 4000000
/-! # Statements, resolved -/
namespace PyD
open PySem PySem.Spec L2

mutual
inductive S where
  | pass | brk | cont | nev | frz (i : Nat)
  | asg (i : Nat) (e : E) | unp (is : List Nat) (e : E) | par (is : List Nat) (es : Es) | setf (o : E) (k : Nat) (e : E) | seti (o i e : E) | aug (op : Operator) (i : Nat) (e : E)
  | ret (e : E) | retn | drop (e : E)
  | lck (i : Nat) (s : S)
  | ite (c : E) (a b : Ss) | whl (c : E) (b : Ss) | for1 (i : Nat) (it : It) (b : Ss) | forT (is : List Nat) (it : It) (b : Ss)
inductive Ss where
  | nil | cons (s : S) (r : Ss)
end
/-- names as targets -/
def chkN (s : Sc) : List Nat → List Expr → Bool
  | [], xs => xs.isEmpty
  | i :: is, xs => match xs with
    | .Name y _ :: t => (s.N[i]? == some y) && locB s y && chkN s is t
    | _ => false
def noSwap : Expr → Bool
  | .Tuple vs _ _ => vs.all (foldedForSure 8)
  | _ => true
/-- more than three targets, or one that isn't a local name -/
def wideB (s : Sc) (ts : List Expr) : Bool := decide (3 < ts.length) || ts.any fun t => match t with
  | .Name y _ => s.sc.names.lookup y == some .cell
  | _ => false
def lcl (s : Sc) (y : Str) : Bool := s.sc.names.lookup y == some .local
/-- two, three local names that are stored as one -/
def swap2 (s : Sc) (i j : Nat) (ts vs : List Expr) : Bool := match ts, vs with
  | [.Name x p, .Name y q], [a, b] => (s.N[i]? == some x) && (s.N[j]? == some y) && !(i == j) && lcl s x && lcl s y && (q.line == p.line) && !([a, b].all (foldedForSure 8)) && !([a, b].all (constantsAlone 8)) && noStar a && noStar b && !(x == y)
  | _, _ => false
def swap3 (s : Sc) (i j l : Nat) (ts vs : List Expr) : Bool := match ts, vs with
  | [.Name x p, .Name y q, .Name z r], [a, b, c] => (s.N[i]? == some x) && (s.N[j]? == some y) && (s.N[l]? == some z) && !(i == j) && !(i == l) && !(j == l) && lcl s x && lcl s y && lcl s z && (q.line == p.line) && (r.line == p.line) && !([a, b, c].all (foldedForSure 8)) && !([a, b, c].all (constantsAlone 8)) && noStar a && noStar b && noStar c && !(x == y) && !(x == z) && !(y == z)
  | _, _ => false
/-- a name that inner defs or comprehensions see -/
def celB (s : Sc) (y : Str) : Bool := s.sc.names.lookup y == some .cell
/-- a comprehension that stores its result by itself -/
def selfB (s : Sc) (y : Str) (p : Pos) (e : E) : Expr → Bool
  | .ListComp _ _ scope pos => (match e with
    | .lc _ _ _ _ _ => lcl s y && (p.line == pos.line) && !(scope.names.any fun (n, k) => n == y && (k == .local || k == .cell))
    | _ => false)
  | .DictComp _ _ _ scope pos => (match e with
    | .dc _ _ _ _ _ _ => lcl s y && (p.line == pos.line) && !(scope.names.any fun (n, k) => n == y && (k == .local || k == .cell))
    | _ => false)
  | _ => false
/-- nothing of the program stands here -/
def ghost : S → Bool
  | .frz _ => true
  | _ => false
section
variable (G : Gam)
mutual
def chkS (s : Sc) : S → Stmt → Bool
  | .nev, _ => true
  | .frz _, _ => false
  | .lck _ t, x => chkS s t x
  | .pass, x => match x with
    | .Pass _ => true
    | _ => false
  | .brk, x => match x with
    | .Break _ => true
    | _ => false
  | .cont, x => match x with
    | .Continue _ => true
    | _ => false
  | .asg i e, x => match x with
    | .Assign [.Name y p0] v _ => (s.N[i]? == some y) && locB s y && chk G s e v && (noCompr v || (selfB s y p0 e v || celB s y))
    | _ => false
  | .unp is e, x => match x with
    | .Assign [.Tuple ts _ _] v _ => chkN s is ts && chk G s e v && (noSwap v || wideB s ts)
    | _ => false
  | .par is es, x => match x with
    | .Assign [.Tuple ts _ _] (.Tuple vs _ _) _ => chks G s es vs && (match is with
      | [i, j] => swap2 s i j ts vs
      | [i, j, l] => swap3 s i j l ts vs
      | _ => false)
    | _ => false
  | .setf o k e, x => match x with
    | .Assign [.Attribute b m _] v _ => chk G s o b && (m == G.nm k) && chk G s e v
    | _ => false
  | .seti o i e, x => match x with
    | .Assign [.Subscript b d _] v _ => chk G s o b && chk G s i d && noSlice d && chk G s e v
    | _ => false
  | .aug op i e, x => match x with
    | .AugAssign (.Name y _) p v _ => (s.N[i]? == some y) && locB s y && (p == op) && chk G s e v
    | _ => false
  | .ret e, x => match x with
    | .Return (some v) _ => chk G s e v
    | _ => false
  | .retn, x => match x with
    | .Return none _ => true
    | _ => false
  | .drop e, x => match x with
    | .Expr v _ => chk G s e v && noCompr v
    | _ => false
  | .ite c a b, x => match x with
    | .If t p q _ => chk G s c t && chkSs s a p && chkSs s b q
    | _ => false
  | .whl c b, x => match x with
    | .While t p [] _ => chk G s c t && chkSs s b p
    | _ => false
  | .for1 i it b, x => match x with
    | .For (.Name y p0) t p [] _ => (s.N[i]? == some y) && locB s y && chkI G s it (.Name y p0) t && noSet t && chkSs s b p
    | _ => false
  | .forT is it b, x => match x with
    | .For (.Tuple ts k0 p0) t p [] _ => chkN s is ts && chkI G s it (.Tuple ts k0 p0) t && noSet t && chkSs s b p
    | _ => false
def chkSs (s : Sc) : Ss → List Stmt → Bool
  | .nil, xs => xs.isEmpty
  | .cons a r, xs => if ghost a = true then chkSs s r xs else match xs with
    | x :: t => chkS s a x && chkSs s r t
    | [] => false
end
variable (Γ : Nat → SpD)
/-- what a name holds never changes from here on -/
def frzS (i : Nat) : TSd := fun ρ M En => match ρ[i]? with
  | some (some d) => frzD d ρ M (fun e M' => En.nx (ρ.set i (some e)) M') (fun _ _ _ => False)
  | _ => False
/-- while this runs, the dict that a name holds is locked -/
def lckS (i : Nat) (t : TSd) : TSd := fun ρ M En => match ρ[i]? with
  | some (some (.loc a)) => ∃ kds, M a = some (.dct kds) ∧ ∀ ob vs, t ρ (updM M a (.lok ob vs kds))
      ⟨fun ρ' M' => M' a = some (.lok ob vs kds) → En.nx ρ' (updM M' a (.dct kds)), fun _ _ => False, fun _ _ => False, fun _ _ => False, fun _ _ _ _ => False⟩
  | _ => False
mutual
def semS : S → TSd
  | .nev => fun _ _ _ => False
  | .frz i => frzS i
  | .lck i t => lckS i (semS t)
  | .pass => nextS
  | .brk => fun ρ M En => En.bk ρ M
  | .cont => fun ρ M En => En.ct ρ M
  | .asg i e => asgS i (sem G Γ e).1
  | .unp is e => unpS (setT is) (sem G Γ e).1
  | .par is es => parS is (sems G Γ es)
  | .setf o k e => setfS (G := G) k (sem G Γ o).1 (sem G Γ e).1
  | .seti o i e => setiX (sem G Γ o).1 (sem G Γ i).1 (sem G Γ e).1
  | .aug op i e => augS G Γ op i (sem G Γ e).1
  | .ret e => retS (sem G Γ e).1
  | .retn => retnS
  | .drop e => dropS (sem G Γ e).1
  | .ite c a b => iteS (sem G Γ c).2 (semSs a) (semSs b)
  | .whl c b => fun ρ M En => ∃ n, whlS (sem G Γ c).2 (semSs b) n ρ M En
  | .for1 i it b => fun ρ M En => semI G Γ it ρ M (fun ds M' => forS (set1 i) (semSs b) ds ρ M' En) (erE En ρ)
  | .forT is it b => fun ρ M En => semI G Γ it ρ M (fun ds M' => forS (setT is) (semSs b) ds ρ M' En) (erE En ρ)
def semSs : Ss → TSd
  | .nil => nextS
  | .cons a r => seqS (semS a) (semSs r)
end
end
section
variable {X : Cx} {G : Gam} {B : Bs} {W : WX} {Γ : Nat → SpD} {kx : Nat}
theorem names_ok {s : Sc} (i : InS X s) : ∀ {is : List Nat} {ts : List Expr}, chkN s is ts = true → PGs X ts (gAll is) ∧ (assignEach ts X.env).length = is.length ∧ (assignEach ts X.env).findIdx? (·.1) = none
  | [], xs, h => by
    unfold chkN at h
    obtain rfl := List.isEmpty_iff.mp h
    exact ⟨pgs_nil, rfl, rfl⟩
  | k :: is, xs, h => by
    unfold chkN at h
    split at h
    · rename_i y p t
      obtain ⟨h, h3⟩ := and2 h
      obtain ⟨h1, h2⟩ := and2 h
      obtain ⟨q1, q2, q3⟩ := names_ok i h3
      refine ⟨pgs_cons (pg_name i.nd (by rw [i.N]; exact beq_iff_eq.mp h1) (loc_of i.toIn h2) (i.fn y)) q1 rfl, ?_, ?_⟩
      · show (assignEach t X.env).length + 1 = is.length + 1
        rw [q2]
      · show List.findIdx? (·.1) ((false, assign (.Name y p) X.env) :: assignEach t X.env) = none
        rw [List.findIdx?_cons]
        simp [q3]
    · cases h
theorem noSwap_ok {ts : List Expr} {k : Nat} {p : Pos} {v : Expr} {env : Env} (h : noSwap v = true) : swappedStores [.Tuple ts k p] v env = pure none := by
  unfold swappedStores
  cases v <;> first | rfl | skip
  rename_i vs k2 p2
  have h' : vs.all (foldedForSure 8) = true := h
  dsimp only
  split
  · rfl
  · split
    · rfl
    · split
      · rfl
      · first | rfl | rw [if_pos h']
theorem fm_lt {α β : Type} {f : α → Option β} : ∀ {l : List α}, (∃ x, x ∈ l ∧ f x = none) → (l.filterMap f).length < l.length
  | [], ⟨x, h, _⟩ => by cases h
  | y :: l, ⟨x, h, e⟩ => by
    rw [List.filterMap_cons]
    rcases List.mem_cons.mp h with rfl | h
    · rw [e]
      exact Nat.lt_succ_of_le (List.length_filterMap_le _ _)
    · have ih := fm_lt (f := f) ⟨x, h, e⟩
      cases f y with
      | none => exact Nat.lt_succ_of_lt ih
      | some z => exact Nat.succ_lt_succ ih
theorem wide_ok {s : Sc} {ts : List Expr} {k : Nat} {p : Pos} {v : Expr} (i : In X s) (h : wideB s ts = true) : swappedStores [.Tuple ts k p] v X.env = pure none := by
  unfold swappedStores
  cases v <;> first | rfl | skip
  rename_i vs k2 p2
  dsimp only
  rcases Bool.or_eq_true_iff.mp h with h | h
  · have l := of_decide_eq_true h
    refine if_pos ?_
    have e2 : (ts.length == 2) = false := by rw [beq_eq_false_iff_ne]; omega
    have e3 : (ts.length == 3) = false := by rw [beq_eq_false_iff_ne]; omega
    rw [e2, e3]
    rfl
  · split
    · rfl
    · split
      · rfl
      · refine if_pos ?_
        obtain ⟨t, ht, q⟩ := List.any_eq_true.mp h
        split at q
        · rename_i y py
          have hk : X.env.kindOf y = some .cell := by
            show X.env.scope.names.lookup y = _
            rw [i.sc]
            exact beq_iff_eq.mp q
          rw [Bool.or_eq_true]
          refine .inl ?_
          rw [bne_iff_ne]
          refine Nat.ne_of_lt (fm_lt ⟨_, ht, ?_⟩)
          simp only [hk]
          rfl
        · cases q
theorem noSwap_sub {a b : Expr} {p : Pos} {v : Expr} {env : Env} : swappedStores [.Subscript a b p] v env = pure none := by
  unfold swappedStores
  cases v <;> rfl
theorem block_of {s : Sc} (i : In X s) : X.env.blockKind = .function := by
  unfold Env.blockKind
  rw [i.fk]
  rfl
theorem sole_of {t e : Expr} {l : Nat} {env : Env} (h : noCompr e = true) : swapsWithSole [t] e l env = pure false := by
  unfold swapsWithSole
  exact swaps_of h
theorem any_star {f : Expr → Bool} (hf : ∀ e, noStar e = true → f e = false) : ∀ {es : List Expr}, es.all noStar = true → es.any f = false
  | [], _ => rfl
  | e :: es, h => by
    rw [List.all_cons, Bool.and_eq_true] at h
    rw [List.any_cons, hf e h.1, any_star hf h.2]
    rfl
theorem swap2_ok {s : Sc} (i : In X s) {n m k k2 : Nat} {p2 p3 : Pos} {ts vs : List Expr} (h : swap2 s n m ts vs = true) :
    ∃ x px y py a b, ts = [.Name x px, .Name y py] ∧ vs = [a, b] ∧ X.N[n]? = some x ∧ X.N[m]? = some y ∧ n ≠ m ∧ X.env.scope.names.lookup x = some .local ∧ X.env.scope.names.lookup y = some .local ∧
      swappedStores [.Tuple [.Name x px, .Name y py] k p2] (.Tuple [a, b] k2 p3) X.env = pure (some [x, y]) := by
  unfold swap2 at h
  split at h
  · rename_i x p y q a b
    simp only [Bool.and_eq_true, Bool.not_eq_true', lcl, beq_iff_eq, beq_eq_false_iff_ne] at h
    obtain ⟨⟨⟨⟨⟨⟨⟨⟨⟨⟨h1, h2⟩, h3⟩, h4⟩, h5⟩, h6⟩, h7⟩, h8⟩, h9⟩, h10⟩, h11⟩ := h
    have l1 : X.env.scope.names.lookup x = some .local := by rw [i.sc]; exact h4
    have l2 : X.env.scope.names.lookup y = some .local := by rw [i.sc]; exact h5
    refine ⟨x, p, y, q, a, b, rfl, rfl, by rw [i.N]; exact h1, by rw [i.N]; exact h2, h3, l1, l2, ?_⟩
    have k1 : X.env.kindOf x = some .local := l1
    have k2 : X.env.kindOf y = some .local := l2
    have hb := block_of i
    have hyx : (y == x) = false := beq_eq_false_iff_ne.mpr fun z => h11 z.symm
    unfold swappedStores
    dsimp only
    refine (if_neg ?_).trans ((if_neg ?_).trans ((if_neg ?_).trans ((if_neg ?_).trans ((if_neg ?_).trans ?_))))
    · rw [hb]; simp
    · rw [any_star (es := [a, b]) (fun e he => by cases e <;> first | rfl | cases he) (by simp [h9, h10])]
      exact Bool.false_ne_true
    · simp [List.filterMap_cons, k1, k2, h6, Expr.pos, List.eraseDups_cons, hyx]
    · rw [h7]; exact Bool.false_ne_true
    · rw [h8]; exact Bool.false_ne_true
    · simp [List.filterMap_cons, k1, k2, h6, Expr.pos]
  · cases h
theorem swap3_ok {s : Sc} (i : In X s) {n m l k k2 : Nat} {p2 p3 : Pos} {ts vs : List Expr} (h : swap3 s n m l ts vs = true) :
    ∃ x px y py z pz a b c, ts = [.Name x px, .Name y py, .Name z pz] ∧ vs = [a, b, c] ∧ X.N[n]? = some x ∧ X.N[m]? = some y ∧ X.N[l]? = some z ∧ n ≠ m ∧ n ≠ l ∧ m ≠ l ∧ X.env.scope.names.lookup x = some .local ∧ X.env.scope.names.lookup y = some .local ∧ X.env.scope.names.lookup z = some .local ∧
      swappedStores [.Tuple [.Name x px, .Name y py, .Name z pz] k p2] (.Tuple [a, b, c] k2 p3) X.env = pure (some [x, y, z]) := by
  unfold swap3 at h
  split at h
  · rename_i x p y q z r a b c
    simp only [Bool.and_eq_true, Bool.not_eq_true', lcl, beq_iff_eq, beq_eq_false_iff_ne] at h
    obtain ⟨⟨⟨⟨⟨⟨⟨⟨⟨⟨⟨⟨⟨⟨⟨⟨⟨⟨h1, h2⟩, h3⟩, h4⟩, h5⟩, h6⟩, h7⟩, h8⟩, h9⟩, h10⟩, h11⟩, h12⟩, h13⟩, h14⟩, h15⟩, h16⟩, h17⟩, h18⟩, h19⟩ := h
    have l1 : X.env.scope.names.lookup x = some .local := by rw [i.sc]; exact h7
    have l2 : X.env.scope.names.lookup y = some .local := by rw [i.sc]; exact h8
    have l3 : X.env.scope.names.lookup z = some .local := by rw [i.sc]; exact h9
    refine ⟨x, p, y, q, z, r, a, b, c, rfl, rfl, by rw [i.N]; exact h1, by rw [i.N]; exact h2, by rw [i.N]; exact h3, h4, h5, h6, l1, l2, l3, ?_⟩
    have k1 : X.env.kindOf x = some .local := l1
    have k2 : X.env.kindOf y = some .local := l2
    have k3 : X.env.kindOf z = some .local := l3
    have hb := block_of i
    have hyx : (y == x) = false := beq_eq_false_iff_ne.mpr fun z => h17 z.symm
    have hzx : (z == x) = false := beq_eq_false_iff_ne.mpr fun z => h18 z.symm
    have hzy : (z == y) = false := beq_eq_false_iff_ne.mpr fun z => h19 z.symm
    unfold swappedStores
    dsimp only
    refine (if_neg ?_).trans ((if_neg ?_).trans ((if_neg ?_).trans ((if_neg ?_).trans ((if_neg ?_).trans ?_))))
    · rw [hb]; simp
    · rw [any_star (es := [a, b, c]) (fun e he => by cases e <;> first | rfl | cases he) (by simp [h14, h15, h16])]
      exact Bool.false_ne_true
    · simp [List.filterMap_cons, k1, k2, k3, h10, h11, Expr.pos, List.eraseDups_cons, hyx, hzx, hzy]
    · rw [h12]; exact Bool.false_ne_true
    · rw [h13]; exact Bool.false_ne_true
    · simp [List.filterMap_cons, k1, k2, k3, h10, h11, Expr.pos]
  · cases h
theorem swaps_att {e o : Expr} {k : Str} {p : Pos} {l : Nat} {env : Env} : swapsWith e (some (.Attribute o k p)) l env = pure false := by
  cases e <;> rfl
theorem sole_sub {e o d : Expr} {p : Pos} {l : Nat} {env : Env} : swapsWithSole [.Subscript o d p] e l env = pure false := by
  unfold swapsWithSole
  cases e <;> rfl
theorem sole_tup {ts : List Expr} {k : Nat} {p : Pos} {e : Expr} {l : Nat} {env : Env} : swapsWithSole [.Tuple ts k p] e l env = pure false := by
  unfold swapsWithSole
  cases e <;> rfl
theorem lcl_of {s : Sc} {y : Str} (i : In X s) (h : lcl s y = true) : X.env.scope.names.lookup y = some .local := by
  rw [i.sc]
  exact beq_iff_eq.mp h
theorem swaps_cel {e : Expr} {y : Str} {p : Pos} {l : Nat} {env : Env} (h : env.scope.names.lookup y = some .cell) : swapsWith e (some (.Name y p)) l env = pure false := by
  have ky : (env.kindOf y == some .local) = false := by
    rw [show env.kindOf y = some .cell from h]
    rfl
  unfold swapsWith
  cases e <;> first | rfl | (simp only [ky, Bool.and_false, Bool.false_and])
/-- name = [.. for ..] -/
theorem self_ok (c : Ctx X G W Γ kx) {s : Sc} (i : InS X s) {n : Nat} {y : Str} {p pos : Pos} {e : E} {v : Expr} (hn : X.N[n]? = some y) (h : chk G s e v = true) (hs : selfB s y p e v = true) : PS X (.Assign [.Name y p] v pos) (TSx X.K G B W (asgS n (sem G Γ e).1)) := by
  unfold selfB at hs
  split at hs
  · rename_i scope0 pos0
    split at hs
    · rename_i a tg one it d
      obtain ⟨hs, z3⟩ := and2 hs
      obtain ⟨z1, z2⟩ := and2 hs
      have hl := lcl_of i.toIn z1
      unfold chk at h
      split at h
      · rename_i xx1 t iter ifs xx2 xx3 he
        cases he
        obtain ⟨h, h5⟩ := and2 h
        obtain ⟨h, h4⟩ := and2 h
        obtain ⟨h, h3⟩ := and2 h
        obtain ⟨h1, h2⟩ := and2 h
        obtain ⟨own, gv, ok, hv, hg⟩ := blk_ok c i.toIn h1
        have ht : PTo X G scope0 ifs (optT d (sem G Γ d).2) := by
          split at h5
          · rw [opt_no h5]; exact .no
          · obtain ⟨z1, z2⟩ := and2 h5
            rw [opt_some z1]
            exact .one fun s H C cl fp B => (sem_ok (ctx_blk c scope0 s H C cl fp) (in_blk i.toIn ok s H C cl fp) d z2).2
          · cases h5
        exact (pd_lc c.calm i.nd (semI_ok c i.toIn it h2) ok hv hg ht (fun s H C cl fp B => (sem_ok (ctx_blk c scope0 s H C cl fp) (in_blk i.toIn ok s H C cl fp) a h4).1) (folds_of h3)).2 n y p pos hn hl (sw_true i.fk hl z2 (by simpa using z3))
      · cases h
    · cases hs
  · rename_i scope0 pos0
    split at hs
    · rename_i k a tg one it d
      obtain ⟨hs, z3⟩ := and2 hs
      obtain ⟨z1, z2⟩ := and2 hs
      have hl := lcl_of i.toIn z1
      unfold chk at h
      split at h
      · rename_i xx1 t iter ifs xx2 xx3 he
        cases he
        obtain ⟨h, h6⟩ := and2 h
        obtain ⟨h, h5⟩ := and2 h
        obtain ⟨h, h4⟩ := and2 h
        obtain ⟨h, h3⟩ := and2 h
        obtain ⟨h1, h2⟩ := and2 h
        obtain ⟨own, gv, ok, hv, hg⟩ := blk_ok c i.toIn h1
        have ht : PTo X G scope0 ifs (optT d (sem G Γ d).2) := by
          split at h6
          · rw [opt_no h6]; exact .no
          · obtain ⟨z1, z2⟩ := and2 h6
            rw [opt_some z1]
            exact .one fun s H C cl fp B => (sem_ok (ctx_blk c scope0 s H C cl fp) (in_blk i.toIn ok s H C cl fp) d z2).2
          · cases h6
        exact (pd_dc c.calm i.nd (semI_ok c i.toIn it h2) ok hv hg ht (fun s H C cl fp B => (sem_ok (ctx_blk c scope0 s H C cl fp) (in_blk i.toIn ok s H C cl fp) k h4).1) (fun s H C cl fp B => (sem_ok (ctx_blk c scope0 s H C cl fp) (in_blk i.toIn ok s H C cl fp) a h5).1) (folds_of h3)).2 n y p pos hn hl (sw_trueD i.fk hl z2 (by simpa using z3))
      · cases h
    · cases hs
  · cases hs
/-- a step that no statement makes -/
theorem pds_frz {xs : List Stmt} {i : Nat} {t : TSd} (h : PSs X xs (TSx X.K G B W t)) : PSs X xs (TSx X.K G B W (seqS (frzS i) t)) := by
  refine ⟨fun pins s σ H D I ⟨ρ, M, J, En, sr, q, ok⟩ => ?_⟩
  unfold seqS frzS at q
  split at q
  · rename_i d hd
    obtain ⟨xv, e1, r1⟩ := sr.env.2 i d hd
    have same : ∀ {J' : Hp} {M' : Mst} {H' : Hp} {e : PyD.D}, SR X.K G B σ H' ρ M' J' → Rep X.K G J' e xv → SR X.K G B σ H' (ρ.set i (some e)) M' J' := by
      intro J' M' H' e s' r
      have z := s'.set (i := i) r
      have e2 : σ.set i (some xv) = σ := List.ext_getElem? fun n => by
        rw [List.getElem?_set]
        split
        · subst_vars
          split
          · exact e1.symm
          · rename_i hl
            rw [List.getElem?_eq_none (by omega)]
        · rfl
      rw [e2] at z
      exact z
    unfold frzD at q
    split at q
    · rename_i a
      unfold Rep at r1
      subst r1
      split at q
      · rename_i cc fs hm
        obtain ⟨o, ho, mr, g, f⟩ := sr.good.freeze hm
        obtain ⟨dx, vfs, rfl, hF⟩ := mr
        exact h.run pins s σ H D I ⟨_, _, _, En, same (sr.step g f) (by unfold Rep; exact ⟨a, dx, vfs, rfl, upd_same, hF.ext f.ext⟩), q, ok⟩
      · rename_i ys hm
        obtain ⟨o, ho, mr, g, f⟩ := sr.good.freeze hm
        obtain ⟨vs, rfl, hF⟩ := mr
        exact h.run pins s σ H D I ⟨_, _, _, En, same (sr.step g f) (by unfold Rep; exact ⟨a, vs, rfl, .of upd_same, hF.ext f.ext⟩), q, ok⟩
      · rename_i ys hm
        obtain ⟨nI, o, ho, vs, rfl, hF⟩ := sr.good.mst _ _ hm
        obtain ⟨od, I2⟩ := I.lock ho True.intro
        obtain ⟨g, f⟩ := sr.good.freezeD (ob := od) hm ho
        exact h.run pins s σ _ D I2 ⟨_, _, _, En, same (sr.step g f) (by unfold Rep; exact ⟨a, od, vs, rfl, upd_same, hF.ext f.ext⟩), q, ok⟩
      · exact q.elim
    · exact q.elim
  · exact q.elim
theorem pds_lck {x : Stmt} {i : Nat} {t : TSd} (h : ∀ B, PS X x (TSx X.K G B W t)) : PS X x (TSx X.K G B W (lckS i t)) := by
  have h' : PS X x (fun D σ H => ∃ B, TSx X.K G B W t D σ H) := ⟨fun pins s σ H D I ⟨B, q⟩ => (h B).run pins s σ H D I q⟩
  refine PS.imp (ps_lock h') fun D σ H ⟨ρ, M, J, En, sr, q, ok⟩ => ?_
  unfold lckS at q
  split at q
  · rename_i a ha
    obtain ⟨kds, hm, q⟩ := q
    obtain ⟨nI, o, ho, vs, rfl, hF⟩ := sr.good.mst _ _ hm
    refine ⟨a, .dK vs, ho, True.intro, fun od => ?_⟩
    obtain ⟨g, f⟩ := sr.good.lockD (ob := od) hm hF
    refine ⟨_, ρ, _, J, _, (sr.step g f).here, q od vs, ⟨fun ρ' M' σ' H' J' k s' => ?_, fun _ _ _ _ _ z _ => z.elim, fun _ _ _ _ _ z _ => z.elim, fun _ _ _ _ _ _ _ z _ _ => z.elim, fun _ _ _ _ _ _ _ _ _ z _ _ => z.elim⟩⟩
    have hl : M' a = some (.lok od vs kds) := s'.frm.lok a _ _ _ updM_same
    obtain ⟨hH, g2⟩ := s'.good.unlockD hl
    exact ⟨hH, ok.nx ρ' _ σ' _ J' (k hl) ⟨s'.env, g2, sr.frm.trans sr.good (Frm.unlockD hm s'.frm)⟩⟩
  · exact q.elim
mutual
theorem semS_ok (c : Ctx X G W Γ kx) {s : Sc} (i : InS X s) : ∀ (st : S) {x : Stmt} {B : Bs}, chkS G s st x = true → PS X x (TSx X.K G B W (semS G Γ st))
  | .nev, x, B, h => pds_never
  | .frz i, x, B, h => by unfold chkS at h; cases h
  | .lck n t, x, B, h => by
    unfold chkS at h
    exact pds_lck fun B => semS_ok c i t h
  | .pass, x, B, h => by
    unfold chkS at h
    split at h
    · exact pds_pass
    · cases h
  | .brk, x, B, h => by
    unfold chkS at h
    split at h
    · exact pds_break
    · cases h
  | .cont, x, B, h => by
    unfold chkS at h
    split at h
    · exact PS.imp ps_continue fun D σ H ⟨ρ, M, I, En, s, t, ok⟩ => ok.ct _ _ _ _ _ t s
    · cases h
  | .asg n e, x, B, h => by
    unfold chkS at h
    split at h
    · rename_i y p v pos
      obtain ⟨h, h4⟩ := and2 h
      obtain ⟨h, h3⟩ := and2 h
      obtain ⟨h1, h2⟩ := and2 h
      have hn : X.N[n]? = some y := by rw [i.N]; exact beq_iff_eq.mp h1
      rcases Bool.or_eq_true_iff.mp h4 with h4 | h4
      · exact pds_asg i.nd hn (loc_of i.toIn h2) (sem_ok c i.toIn e h3).1 (swaps_of h4) (i.fn y)
      · rcases Bool.or_eq_true_iff.mp h4 with h4 | h4
        · exact self_ok c i hn h3 h4
        · exact pds_asg i.nd hn (loc_of i.toIn h2) (sem_ok c i.toIn e h3).1 (swaps_cel (by rw [i.sc]; exact beq_iff_eq.mp h4)) (i.fn y)
    · cases h
  | .unp is e, x, B, h => by
    unfold chkS at h
    split at h
    · obtain ⟨h, h4⟩ := and2 h
      obtain ⟨h1, h2⟩ := and2 h
      obtain ⟨q1, q2, q3⟩ := names_ok i h1
      refine pds_unp (sem_ok c i.toIn e h2).1 (pgd_tup (pg_tup c.calm q1 q2 q3)) sole_tup ?_ rfl
      rcases Bool.or_eq_true_iff.mp h4 with h4 | h4
      · exact noSwap_ok h4
      · exact wide_ok i.toIn h4
    · cases h
  | .par is es, x, B, h => by
    unfold chkS at h
    split at h
    · obtain ⟨h1, h2⟩ := and2 h
      have q := (sems_ok (B := B) (W := W) c i.toIn es h1).1
      split at h2
      · obtain ⟨x, px, y, py, a, b, rfl, rfl, n1, n2, hne, l1, l2, hw⟩ := swap2_ok i.toIn h2
        exact pds_par2 c.calm i.nd n1 n2 hne l1 l2 q hw
      · obtain ⟨x, px, y, py, z, pz, a, b, d, rfl, rfl, n1, n2, n3, d1, d2, d3, l1, l2, l3, hw⟩ := swap3_ok i.toIn h2
        exact pds_par3 c.calm i.nd n1 n2 n3 d1 d2 d3 l1 l2 l3 q hw
      · cases h2
    · cases h
  | .setf o k e, x, B, h => by
    unfold chkS at h
    split at h
    · obtain ⟨h, h3⟩ := and2 h
      obtain ⟨h1, h2⟩ := and2 h
      obtain rfl := beq_iff_eq.mp h2
      exact pds_setf c.ops.ok (sem_ok c i.toIn o h1).1 (sem_ok c i.toIn e h3).1 swaps_att
    · cases h
  | .seti o d e, x, B, h => by
    unfold chkS at h
    split at h
    · rename_i b dx p v pos
      obtain ⟨h, h4⟩ := and2 h
      obtain ⟨h, h3⟩ := and2 h
      obtain ⟨h1, h2⟩ := and2 h
      refine pds_setiX c (sem_ok c i.toIn o h1).1 (sem_ok c i.toIn d h2).1 (sem_ok c i.toIn e h4).1 (fun v => ?_) sole_sub noSwap_sub rfl
      cases dx <;> first | rfl | cases h3
    · cases h
  | .aug op n e, x, B, h => by
    unfold chkS at h
    split at h
    · rename_i y p o v pos
      obtain ⟨h, h4⟩ := and2 h
      obtain ⟨h, h3⟩ := and2 h
      obtain ⟨h1, h2⟩ := and2 h
      obtain rfl := beq_iff_eq.mp h3
      exact pds_aug c i.nd (by rw [i.N]; exact beq_iff_eq.mp h1) (loc_of i.toIn h2) (sem_ok c i.toIn e h4).1 (i.fn y)
    · cases h
  | .ret e, x, B, h => by
    unfold chkS at h
    split at h
    · exact pds_ret (sem_ok c i.toIn e h).1
    · cases h
  | .retn, x, B, h => by
    unfold chkS at h
    split at h
    · exact pds_retn
    · cases h
  | .drop e, x, B, h => by
    unfold chkS at h
    split at h
    · obtain ⟨h1, h2⟩ := and2 h
      exact pds_drop (sem_ok c i.toIn e h1).1 (swaps_of h2)
    · cases h
  | .ite t a b, x, B, h => by
    unfold chkS at h
    split at h
    · obtain ⟨h, h3⟩ := and2 h
      obtain ⟨h1, h2⟩ := and2 h
      exact pds_if (sem_ok c i.toIn t h1).2 (semSs_ok c i a h2) (semSs_ok c i b h3)
    · cases h
  | .whl t b, x, B, h => by
    unfold chkS at h
    split at h
    · obtain ⟨h1, h2⟩ := and2 h
      exact pds_while c.own (sem_ok c i.toIn t h1).2 (semSs_ok c i b h2)
    · cases h
  | .for1 n it b, x, B, h => by
    unfold chkS at h
    split at h
    · rename_i y p t bd pos
      obtain ⟨h, h5⟩ := and2 h
      obtain ⟨h, h4⟩ := and2 h
      obtain ⟨h, h3⟩ := and2 h
      obtain ⟨h1, h2⟩ := and2 h
      exact pds_for c.own c.calm (semI_ok c i.toIn it h3) (fun B => pgd_name (pg_name i.nd (by rw [i.N]; exact beq_iff_eq.mp h1) (loc_of i.toIn h2) (i.fn y))) (fun B => semSs_ok c i b h5) (folds_of h4)
    · cases h
  | .forT is it b, x, B, h => by
    unfold chkS at h
    split at h
    · obtain ⟨h, h4⟩ := and2 h
      obtain ⟨h, h3⟩ := and2 h
      obtain ⟨h1, h2⟩ := and2 h
      obtain ⟨q1, q2, q3⟩ := names_ok i h1
      exact pds_for c.own c.calm (semI_ok c i.toIn it h2) (fun B => pgd_tup (pg_tup c.calm q1 q2 q3)) (fun B => semSs_ok c i b h4) (folds_of h3)
    · cases h
theorem semSs_ok (c : Ctx X G W Γ kx) {s : Sc} (i : InS X s) : ∀ (st : Ss) {x : List Stmt} {B : Bs}, chkSs G s st x = true → PSs X x (TSx X.K G B W (semSs G Γ st))
  | .nil, x, B, h => by
    unfold chkSs at h
    obtain rfl := List.isEmpty_iff.mp h
    exact pds_nil
  | .cons a r, x, B, h => by
    unfold chkSs at h
    split at h
    · rename_i hgh
      have q := semSs_ok c i r (B := B) h
      cases a <;> first | exact Bool.noConfusion (show false = true from hgh) | exact pds_frz q
    split at h
    · obtain ⟨h1, h2⟩ := and2 h
      exact pds_cons (semS_ok c i a h1) (semSs_ok c i r h2)
    · cases h
end
end
end PyD
set_option Elab.async false
set_option linter.all false
set_option autoImplicit false
set_option maxRecDepth 100000
set_option maxHeartbeats 4000000
/-! # The end of a law -/
namespace PyD
open PySem PySem.Spec L2

section
variable {P : Program} {w : World} {K : PySem.W.Frag} {mg mb : Str → Option Value} {G : Gam} {k : Nat} {fa a : Addr} {sd : SpD} {s : Shared} {vs : List Value} {ns : List Int}
/-- where nothing but the script is followed -/
theorem law_from (H : Hp) (KX : K.In s.heap) (hns : s.heap.Ns mainGlobals mg) (hb : s.heap.Ns builtinsNs mb) (hbb : ∀ x : Str, x ≠ "__name__" → mb x = bootBuiltins x) (hlim : s.heap.NoLimit) (hg : s.gens = #[])
    (ha : s.heap.get? a = some { cls := .type "list", data := .seq vs.toArray }) (hr : Room k callerA) (hN : ∀ b u, H b = some u → b = a ∧ ∃ o xs, u = .frz o (.lst xs)) (hS : SqL K H a (ns.map V.int)) (hok : HOk P w H s.heap) (hK : H a ≠ none → K.lookup a = none)
    (F : ∀ base : Heap, K.In base → base.Ns mainGlobals mg → FnD P w K mg base G k (.ref fa) [] sd) (hsd : sd [.lst (ns.map D.int)] (fun _ => none) (fun d _ => d = .bl true) (fun _ _ _ => False)) :
    codeAny (model P w) callerA (.call (.ref fa) ⟨[.ref a], []⟩) (fun r s' => r = .ok (.ret (.bool true)) ∧ OldK s.heap s'.heap ∧ s'.os = s.os ∧ PyProof.Rows.AllBare s'.gens) s := by
  have only : ∀ {b : Addr} {o : Obj}, s.heap.get? b = some o → (b = a → K.lookup a = none → False) → H b = none := by
    intro b o e q
    cases h : H b with
    | none => rfl
    | some u =>
      obtain ⟨rfl, _⟩ := hN b u h
      exact (q rfl (hK (by rw [h]; exact fun z => nomatch z))).elim
  have dicts : ∀ {b : Addr} {m : Str → Option Value}, s.heap.Ns b m → (hidT s.heap H).Ns b m := by
    rintro b m ⟨o, es, ep, e, d, r⟩
    refine ⟨o, es, ep, hidT_get e (only e fun z _ => ?_), d, r⟩
    subst z
    rw [ha] at e
    cases e
    exact (nomatch d)
  have kin : K.In (hidT s.heap H) := fun b o e => hidT_get (KX b o e) (only (KX b o e) fun z q => by
    subst z
    rw [q] at e
    cases e)
  have md : Mod K mg (hidT s.heap H) := ⟨kin, dicts hns, ⟨mb, dicts hb, hbb⟩, by
    obtain ⟨mc, h1, h2⟩ := hlim
    exact ⟨mc, dicts h1, h2⟩⟩
  have env : Env0 P w K mg (hidT s.heap H) callerA [] s H := ⟨rfl, md, fun b o e => of_hidT e, Nat.le_of_eq (hidT_size _ _), trivial, fun b q => (List.not_mem_nil q).elim, hok, .of_eq hg⟩
  have gd : Good K G H (fun _ => none) H := ⟨fun b o h => h, fun b mo h => (nomatch h), fun b u h => by
    obtain ⟨_, o, xs, rfl⟩ := hN b u h
    exact .inr (.inr (.inr (.inr ⟨o, _, rfl⟩)))⟩
  have rp : Reps K G H [.lst (ns.map D.int)] [.ref a] := .cons (by unfold Rep; exact ⟨a, _, rfl, hS, Reps.ints ns⟩) .nil
  refine codeAny_mono ((F _ kin (dicts hns)).run callerA [] s H [.ref a] [] [.ref a] _ _ H (fun d _ => d = .bl true) (fun _ _ _ => False) (fun v _ => v = .bl true) (fun _ _ _ => False) hr rfl env (.cons (show RelV (V.ref a) (Value.ref a) from rfl) .nil) rfl gd rp hsd
    (fun d M' v H' I' e g f r => by subst e; unfold Rep at r; exact r) (fun _ _ _ _ _ _ _ h _ _ _ => h.elim)) fun r s' h => ?_
  cases r with
  | error e =>
    obtain ⟨_, _, _, _, _, _, _, _, _, _, _, _, z⟩ := h
    exact z.elim
  | ok fl =>
    cases fl with
    | next => exact False.elim h
    | brk => exact False.elim h
    | cont => exact False.elim h
    | ret u =>
      obtain ⟨v, H', os, bare, un, hok', rv, rfl⟩ := h
      obtain rfl : u = Value.bool true := rv
      refine ⟨rfl, OldK.of_keep fun b o e => ?_, os, bare⟩
      cases q : H b with
      | none => exact un.keep b o e q (fun z => (List.not_mem_nil z).elim) (by simp)
      | some t =>
        obtain ⟨rfl, ob, xs, rfl⟩ := hN b t q
        have later := un.frzs b ob _ q
        obtain ⟨at0, _⟩ := hok b _ q
        obtain ⟨at1, _⟩ := hok' b _ later
        rw [e] at at0
        cases at0
        exact at1
theorem law_run (KX : K.In s.heap) (hns : s.heap.Ns mainGlobals mg) (hb : s.heap.Ns builtinsNs mb) (hbb : ∀ x : Str, x ≠ "__name__" → mb x = bootBuiltins x) (hlim : s.heap.NoLimit) (hg : s.gens = #[])
    (ha : s.heap.get? a = some { cls := .type "list", data := .seq vs.toArray }) (hi : PyProof.Rows.IntsAre vs ns) (hl : ns.length ≤ sizeLine) (hr : Room k callerA)
    (F : ∀ base : Heap, K.In base → base.Ns mainGlobals mg → FnD P w K mg base G k (.ref fa) [] sd) (hsd : sd [.lst (ns.map D.int)] (fun _ => none) (fun d _ => d = .bl true) (fun _ _ _ => False)) :
    codeAny (model P w) callerA (.call (.ref fa) ⟨[.ref a], []⟩) (fun r s' => r = .ok (.ret (.bool true)) ∧ OldK s.heap s'.heap ∧ s'.os = s.os ∧ PyProof.Rows.AllBare s'.gens) s := by
  have rel := vals_ints hi
  have same := hi.length
  cases hk : K.lookup a with
  | some o =>
    have e := KX a o hk
    rw [ha] at e
    cases e
    refine law_from (fun _ => none) KX hns hb hbb hlim hg ha hr (fun b u q => (nomatch q)) (.inr ⟨_, vs.toArray, _, hk, rfl, rfl, rfl, ?_, ?_⟩) (fun b u q => (nomatch q)) (fun q => (q rfl).elim) F hsd
    · rw [List.size_toArray, same]; exact hl
    · simpa using rel
  | none =>
    have at_ : ∀ b u, (if b = a then some (HO.frz { cls := .type "list", data := .seq vs.toArray } (.lst (ns.map V.int))) else none) = some u → b = a ∧ u = HO.frz { cls := .type "list", data := .seq vs.toArray } (.lst (ns.map V.int)) := by
      intro b u q
      by_cases c : b = a
      · rw [if_pos c] at q
        cases q
        exact ⟨c, rfl⟩
      · rw [if_neg c] at q
        cases q
    refine law_from (fun b => if b = a then some (.frz { cls := .type "list", data := .seq vs.toArray } (.lst (ns.map V.int))) else none) KX hns hb hbb hlim hg ha hr (fun b u q => ?_) (.inl (.inr ⟨_, if_pos rfl⟩)) (fun b u q => ?_) (fun _ => hk) F hsd
    · obtain ⟨h1, h2⟩ := at_ b u q
      exact ⟨h1, _, _, h2⟩
    · obtain ⟨rfl, rfl⟩ := at_ b u q
      exact ⟨ha, by rw [List.length_map]; exact hl, vs, _, rel, ha⟩
end
/-- a law, by the meaning of its def -/
theorem walk_ofD {l : PySem.W.OpenLaw} {n k : Nat} {q : Program} {loose : List Str} {XP : (Str → Option Value) → Heap → Prop} {YP : World → Heap → Prop} {d : DefRec}
    (hn : l.most = some n) (hn2 : n ≤ sizeLine) (hdf : d.params.defaults = []) (hr : Room k callerA)
    (F : ∀ (w : World) (mg : Str → Option Value) (fa : Addr) (h : Heap), YP w h → h.Ns mainGlobals mg → mg d.name = some (.ref fa) →
      ∃ (K : PySem.W.Frag) (G : Gam) (sd : SpD), K.In h ∧ (∀ ns : List Int, ns.length ≤ n → sd [.lst (ns.map D.int)] (fun _ => none) (fun d _ => d = .bl true) (fun _ _ _ => False)) ∧
        ∀ base : Heap, K.In base → base.Ns mainGlobals mg → FnD l.prog w K mg base G k (.ref fa) [] sd) :
    PySem.W.WalkO q loose XP YP l.row.toRowW d [] (fun f vs => PySem.call f vs) := by
  refine Att.attach_call hn hdf fun w s0 s1 mg mb fa o pm cd doc a vs ns Gr Y ho hd hcd hmg hobj hints hlen hg => ?_
  obtain ⟨K, G, sd, kin, hsd, hF⟩ := F w mg fa _ Y Gr.T.g hmg
  exact law_run kin Gr.T.g Gr.T.b Gr.T.builtins Gr.T.nolimit hg hobj hints (Nat.le_trans hlen hn2) hr hF (hsd ns hlen)
end PyD
set_option Elab.async false
set_option linter.all false
set_option autoImplicit false
set_option maxRecDepth 100000
set_option maxHeartbeats 4000000
/-! # Tables of a text, checked on the heap behind its top -/
namespace PyD
open PySem PySem.Spec L2

def find3 (l : List (Nat × Nat × Nat)) (c k : Nat) : Option Nat := match l with
  | [] => none
  | (a, b, i) :: r => if a = c ∧ b = k then some i else find3 r c k
def find4 (l : List (Nat × Nat × List Str × Nat)) (c k : Nat) (n : List Str) : Option Nat := match l with
  | [] => none
  | (a, b, m, i) :: r => if a = c ∧ b = k ∧ m = n then some i else find4 r c k n
def findT (l : List (Ty × Ty × Bool)) (a b : Ty) : Option Bool := match l with
  | [] => none
  | (x, y, z) :: r => if x = a ∧ y = b then some z else findT r a b
theorem find3_mem : ∀ {l : List (Nat × Nat × Nat)} {c k i : Nat}, find3 l c k = some i → (c, k, i) ∈ l
  | [], _, _, _, h => by cases h
  | (a, b, j) :: r, c, k, i, h => by
    unfold find3 at h
    split at h
    · rename_i q
      obtain ⟨rfl, rfl⟩ := q
      cases h
      exact List.mem_cons_self
    · exact List.mem_cons_of_mem _ (find3_mem h)
theorem find4_mem : ∀ {l : List (Nat × Nat × List Str × Nat)} {c k : Nat} {n : List Str} {i : Nat}, find4 l c k n = some i → (c, k, n, i) ∈ l
  | [], _, _, _, _, h => by cases h
  | (a, b, m, j) :: r, c, k, n, i, h => by
    unfold find4 at h
    split at h
    · rename_i q
      obtain ⟨rfl, rfl, rfl⟩ := q
      cases h
      exact List.mem_cons_self
    · exact List.mem_cons_of_mem _ (find4_mem h)
theorem findT_mem : ∀ {l : List (Ty × Ty × Bool)} {a b : Ty} {z : Bool}, findT l a b = some z → (a, b, z) ∈ l
  | [], _, _, _, h => by cases h
  | (x, y, w) :: r, a, b, z, h => by
    unfold findT at h
    split at h
    · rename_i q
      obtain ⟨rfl, rfl⟩ := q
      cases h
      exact List.mem_cons_self
    · exact List.mem_cons_of_mem _ (findT_mem h)
theorem nmAll_inj {l : List Str} (h : okN l = true) : ∀ i j, nmAll l i = nmAll l j → i = j := by
  obtain ⟨h1, h2⟩ := and2 h
  have nd : (dunders ++ l).Nodup := of_decide_eq_true h1
  have sz : ∀ {i : Nat} {x : Str}, (dunders ++ l)[i]? = some x → x.cps.size < 1000 := fun {i x} e => of_decide_eq_true (List.all_eq_true.mp h2 x (List.mem_of_getElem? e))
  intro i j e
  unfold nmAll at e
  cases a : (dunders ++ l)[i]? with
  | none =>
    rw [a] at e
    cases b : (dunders ++ l)[j]? with
    | none =>
      rw [b] at e
      have := congrArg (fun x : Str => x.cps.size) e
      simp only [Array.size_replicate] at this
      omega
    | some y =>
      rw [b] at e
      have := congrArg (fun x : Str => x.cps.size) e
      simp only [Array.size_replicate] at this
      have := sz b
      omega
  | some x =>
    rw [a] at e
    cases b : (dunders ++ l)[j]? with
    | none =>
      rw [b] at e
      have := congrArg (fun x : Str => x.cps.size) e
      simp only [Array.size_replicate] at this
      have := sz a
      omega
    | some y =>
      rw [b] at e
      dsimp only at e
      subst e
      exact (List.getElem?_inj (List.getElem?_eq_some_iff.mp a).1 nd).mp (a.trans b.symm)
def gamOf (T : Tb) (hN : okN T.nms = true) (K : PySem.W.Frag) : Gam where
  cl := clA T K
  nm := nmAll T.nms
  inj := nmAll_inj hN
  fld c k := T.fld.contains (c, k)
  dn := find3 T.dn
  pr := find3 T.pr
  dm := find4 T.dm
  sm := find4 T.sm
  cm := find4 T.cm
  adr i := match T.at_[i]? with
    | some a => a.ad K
    | none => 0
  ks i := match T.ks[i]? with
    | some l => l
    | none => []
  gn i := match T.gn[i]? with
    | some o => o
    | none => none
  cn c := T.cls[c]?
  kon j := T.kon[j]?
  ist := findT T.ist
  isC i := T.isC.contains i
  itf c := (T.it.find? fun q => q.1 == c).map (·.2)
  ita c := He.ma K (clA T K c) "__iter__"
  nsub c c' := T.nsub.contains (c, c')
  cv c k := (T.cv.find? fun q => q.1 == c && q.2.1 == k).map (·.2.2)
  iv c k := (T.iv.find? fun q => q.1 == c && q.2.1 == k).map (·.2.2)
section
variable {K : PySem.W.Frag} {G : Gam}
mutual
theorem konB_ok : ∀ (d : D) {u : Value}, konB K d u = true → ∃ v, RelV v u ∧ ∀ I, Rep K G I d v
  | .non, u, h => by
    unfold konB at h
    split at h
    · exact ⟨.non, rfl, fun I => rep_non⟩
    · cases h
  | .bl b, u, h => by
    unfold konB at h
    split at h
    · obtain rfl := beq_iff_eq.mp h
      exact ⟨.bl _, rfl, fun I => rep_bl⟩
    · cases h
  | .int i, u, h => by
    unfold konB at h
    split at h
    · obtain rfl := of_decide_eq_true h
      exact ⟨.int _, ⟨_, rfl⟩, fun I => rep_int⟩
    · cases h
  | .str x, u, h => by
    unfold konB at h
    split at h
    · obtain rfl := of_decide_eq_true h
      exact ⟨.str _, ⟨_, rfl⟩, fun I => rep_str⟩
    · cases h
  | .tup ds, u, h => by
    unfold konB at h
    split at h
    · rename_i a
      split at h
      · rename_i n od its m sl hl
        obtain ⟨h1, h⟩ := and2 h
        obtain ⟨h2, h3⟩ := and2 h
        obtain rfl := beq_iff_eq.mp h1
        obtain ⟨vs, r, q⟩ := konBs_ok ds h3
        exact ⟨.ref a, rfl, fun I => by unfold Rep; exact ⟨a, vs, rfl, .inr ⟨_, its, m, hl, rfl, rfl, of_decide_eq_true h2, r⟩, q I⟩⟩
      · cases h
    · cases h
  | .lst ds, u, h => by
    unfold konB at h
    split at h
    · rename_i a
      split at h
      · rename_i n its m sl hl
        obtain ⟨h1, h⟩ := and2 h
        obtain ⟨h2, h3⟩ := and2 h
        obtain rfl := beq_iff_eq.mp h1
        obtain ⟨vs, r, q⟩ := konBs_ok ds h3
        exact ⟨.ref a, rfl, fun I => by unfold Rep; exact ⟨a, vs, rfl, .inr ⟨_, its, m, hl, rfl, rfl, rfl, of_decide_eq_true h2, r⟩, q I⟩⟩
      · cases h
    · cases h
  | .dct _, u, h => by unfold konB at h; cases h
  | .obj _ _, u, h => by unfold konB at h; cases h
  | .loc _, u, h => by unfold konB at h; cases h
  | .cls _, u, h => by unfold konB at h; cases h
  | .ty _, u, h => by unfold konB at h; cases h
theorem konBs_ok : ∀ (ds : List D) {us : List Value}, konBs K ds us = true → ∃ vs, Vals vs us ∧ ∀ I, Reps K G I ds vs
  | [], us, h => by
    unfold konBs at h
    obtain rfl := List.isEmpty_iff.mp h
    exact ⟨[], .nil, fun I => .nil⟩
  | d :: ds, us, h => by
    unfold konBs at h
    split at h
    · obtain ⟨h1, h2⟩ := and2 h
      obtain ⟨v, r, q⟩ := konB_ok d h1
      obtain ⟨vs, rs, qs⟩ := konBs_ok ds h2
      exact ⟨v :: vs, .cons r rs, fun I => .cons (q I) (qs I)⟩
    · cases h
end
theorem clsB_ok {C : Addr} (h : clsB K C = true) : Cls K C := by
  obtain ⟨h1, h⟩ := and2 h
  obtain ⟨h2, h⟩ := and2 h
  obtain ⟨h3, h4⟩ := and2 h
  exact ⟨h1, h2, h3, He.eqO_ok h4⟩
theorem methB_ok {C f : Addr} {m : Str} (h : methB K C m f = true) : Meth K C m f := by
  obtain ⟨h1, h⟩ := and2 h
  obtain ⟨h2, h3⟩ := and2 h
  exact ⟨He.eqO_ok h1, h2, h3⟩
theorem insB_ok {C : Addr} (h : insB K C = true) : InsOf K C := by
  obtain ⟨h1, h⟩ := and2 h
  obtain ⟨h2, h⟩ := and2 h
  obtain ⟨h3, h⟩ := and2 h
  obtain ⟨h4, h5⟩ := and2 h
  exact ⟨clsB_ok h1, He.eqO_ok h2, He.eqO_ok h3, of_decide_eq_true h4, of_decide_eq_true h5⟩
theorem rec_is {p f : Addr} {t : String} (h : (match PySem.W.recIn K p t with
    | some (.ref g :: _) => g == f
    | _ => false) = true) : ∃ rest, PySem.W.recIn K p t = some (.ref f :: rest) := by
  split at h
  · rename_i g r e
    obtain rfl := beq_iff_eq.mp h
    exact ⟨r, e⟩
  · cases h
theorem readB_ok {C : Addr} (h : readB K C = true) : ∃ mc, PySem.W.specialIn K (.ref C) "__getattribute__" = some (some (.builtin "type.__getattribute__")) ∧ PySem.W.typeIn K (.ref C) = some mc ∧ PySem.W.readsIn K C mc = true := by
  obtain ⟨h1, h⟩ := and2 h
  split at h
  · rename_i mc e
    exact ⟨mc, He.eqO_ok h1, e, h⟩
  · cases h
theorem getB_ok {C p : Addr} {m : Str} {g : String} {mc : Value} (h : getB K C m g p = true) (e : PySem.W.typeIn K (.ref C) = some mc) : PySem.W.findCls K (.ref C) mc m = some (.get (.builtin g) (.ref p) .none (.ref C)) := by
  unfold getB at h
  rw [e] at h
  dsimp only at h
  split at h
  · rename_i a b d e
    obtain ⟨h1, h⟩ := and2 h
    obtain ⟨h2, h3⟩ := and2 h
    obtain rfl := beq_iff_eq.mp h1
    obtain rfl := beq_iff_eq.mp h2
    obtain rfl := beq_iff_eq.mp h3
    exact e
  · cases h
end
end PyD
set_option Elab.async false
set_option linter.all false
set_option autoImplicit false
set_option maxRecDepth 100000
set_option maxHeartbeats 4000000
/-! # The tables say what the layer wants -/
namespace PyD
open PySem PySem.Spec L2
section
variable {T : Tb} {hN : okN T.nms = true} {K : PySem.W.Frag} {h : Heap} {mg : Str → Option Value}
theorem far {a c : Nat} (h : a < 1000000000) (e : 1000000000 + c = a) : False := by omega
theorem near {c d : Nat} (e : 1000000000 + c = 1000000000 + d) : c = d := by omega
theorem clA_inj (h1 : (T.cls.map (He.ga K)).Nodup) (h2 : ∀ x ∈ T.cls, He.ga K x < 1000000000) : ∀ c d, clA T K c = clA T K d → c = d := by
  intro c d e
  unfold clA at e
  cases a : T.cls[c]? with
  | none =>
    rw [a] at e
    cases b : T.cls[d]? with
    | none => rw [b] at e; exact near e
    | some y => rw [b] at e; exact (far (h2 y (List.mem_of_getElem? b)) e).elim
  | some x =>
    rw [a] at e
    cases b : T.cls[d]? with
    | none => rw [b] at e; exact (far (h2 x (List.mem_of_getElem? a)) e.symm).elim
    | some y =>
      rw [b] at e
      dsimp only at e
      have l := (List.getElem?_eq_some_iff.mp a).1
      have p : (T.cls.map (He.ga K))[c]? = (T.cls.map (He.ga K))[d]? := by
        rw [List.getElem?_map, List.getElem?_map, a, b]
        show some (He.ga K x) = some (He.ga K y)
        rw [e]
      exact (List.getElem?_inj (by rw [List.length_map]; exact l) h1).mp p
theorem dnB_ok {C f : Addr} {k : Nat} {m : Str} (q : dnB K C k m f = true) : (Cls K C ∧ Meth K C m f ∧ PySem.W.selfFirst K C = true) ∧ (k < 14 → (∀ t ∈ sideTs, (PySem.W.findIn K (.type t) m).isSome = true) ∧ noIB K C k = true) ∧
    (k < 19 → (∀ t ∈ sideTs, PySem.W.subIn K (.type t) (.ref C) = some false) ∧ PySem.W.subIn K (.ref C) (.type "int") = some false) ∧
    (k = 18 → PySem.W.findIn K (.ref C) "__ne__" = some (some (.builtin "object.__ne__")) ∧ PySem.W.mroIn K C (.type "object") = some true) ∧ ((k = 23 ∨ k = 25) → PySem.W.fnIn K f = true) ∧
    (k = 26 → PySem.W.findIn K (.ref C) "__format__" = some (some (.builtin "object.__format__")) ∧ PySem.W.mroIn K C (.type "object") = some true) := by
  obtain ⟨q1, q⟩ := and2 q
  obtain ⟨q2, q⟩ := and2 q
  obtain ⟨q3, q⟩ := and2 q
  obtain ⟨q4, q⟩ := and2 q
  obtain ⟨q5, q⟩ := and2 q
  obtain ⟨q8, q⟩ := and2 q
  obtain ⟨q7, q6⟩ := and2 q
  refine ⟨⟨clsB_ok q1, methB_ok q2, q3⟩, fun lt => ?_, fun lt => ?_, fun e => ?_, fun e => ?_, fun e => ?_⟩
  · rcases Bool.or_eq_true_iff.mp q4 with z | z
    · simp [lt] at z
    · obtain ⟨z1, z2⟩ := and2 z
      exact ⟨fun t ht => List.all_eq_true.mp z1 t ht, z2⟩
  · rcases Bool.or_eq_true_iff.mp q5 with z | z
    · simp [lt] at z
    · obtain ⟨z1, z2⟩ := and2 z
      exact ⟨fun t ht => of_decide_eq_true (List.all_eq_true.mp z1 t ht), of_decide_eq_true z2⟩
  · rcases Bool.or_eq_true_iff.mp q6 with z | z
    · subst e; cases z
    · obtain ⟨z1, z2⟩ := and2 z
      exact ⟨He.eqO_ok z1, of_decide_eq_true z2⟩
  · rcases Bool.or_eq_true_iff.mp q7 with z | z
    · rcases e with rfl | rfl <;> cases z
    · exact z
  · rcases Bool.or_eq_true_iff.mp q8 with z | z
    · subst e; cases z
    · obtain ⟨z1, z2⟩ := and2 z
      exact ⟨He.eqO_ok z1, of_decide_eq_true z2⟩
theorem noIB_ok {C : Addr} {op : Operator} (q : noIB K C (opk op) = true) (hk : opk op < 14) : ∃ cd, PySem.W.clsIn K C = some cd ∧ ∀ t ∈ cd.mro, PySem.W.findIn K t (PySem.dunderI op.info.2) = some none := by
  have mem : op ∈ opsAll := by
    cases op <;> first | decide | (exfalso; revert hk; decide)
  have z := List.all_eq_true.mp q op mem
  rcases Bool.or_eq_true_iff.mp z with z | z
  · simp at z
  · split at z
    · rename_i cd e
      exact ⟨cd, e, fun t ht => He.eqO_ok (List.all_eq_true.mp z t ht)⟩
    · cases z
theorem not_of_not {b : Bool} (h : (!b) = true) : b = false := by
  cases b
  · rfl
  · cases h
theorem gg_of (X : K.In h) (N : h.Ns mainGlobals mg) (q : tbB T K = true) : GG K mg (gamOf T hN K) := by
  obtain ⟨q0, q⟩ := and2 q
  obtain ⟨q1, q2⟩ := and2 q0
  obtain ⟨q3, q⟩ := and2 q
  obtain ⟨q4, q⟩ := and2 q
  obtain ⟨q5, q⟩ := and2 q
  obtain ⟨q6, q⟩ := and2 q
  obtain ⟨q7, q⟩ := and2 q
  obtain ⟨q8, q⟩ := and2 q
  obtain ⟨q9, q⟩ := and2 q
  obtain ⟨q10, q⟩ := and2 q
  obtain ⟨q11, q⟩ := and2 q
  obtain ⟨q12, q⟩ := and2 q
  obtain ⟨_, q⟩ := and2 q
  obtain ⟨_, q⟩ := and2 q
  obtain ⟨q15, q14⟩ := and2 q
  obtain ⟨q14, q16⟩ := and2 q14
  have one : ∀ x ∈ T.cls, He.ga K x < 1000000000 ∧ gloB K x (He.ga K x) = true ∧ (x == ("__debug__" : Str)) = false := fun x hx => by
    obtain ⟨z1, z⟩ := and2 (List.all_eq_true.mp q2 x hx)
    obtain ⟨z2, z3⟩ := and2 z
    exact ⟨of_decide_eq_true z1, z2, by simpa using z3⟩
  have dn : ∀ c k i, find3 T.dn c k = some i → dnB K (clA T K c) k (nmAll T.nms k) (adA T K i) = true := fun c k i e => List.all_eq_true.mp q4 (c, k, i) (find3_mem e)
  have ops : GOps K (gamOf T hN K) := by
    refine ⟨⟨fun c k e => ?_, fun c k i e => (dnB_ok (dn c k i e)).1⟩, fun i hi => ?_, fun c k i e lt t ht => ((dnB_ok (dn c k i e)).2.1 lt).1 t ht, fun c k i e lt t ht => ((dnB_ok (dn c k i e)).2.2.1 lt).1 t ht,
      fun c k i e lt => ((dnB_ok (dn c k i e)).2.2.1 lt).2, clA_inj (of_decide_eq_true q1) fun x hx => (one x hx).1, fun c op i e lt => noIB_ok ((dnB_ok (dn c _ i e)).2.1 lt).2 lt, fun c k i hk e => (dnB_ok (dn c k i e)).2.2.2.2.1 hk, fun c i e => (dnB_ok (dn c 18 i e)).2.2.2.1 rfl, fun c i e => (dnB_ok (dn c 26 i e)).2.2.2.2.2 rfl, fun c c' e => of_decide_eq_true (List.all_eq_true.mp q15 (c, c') (List.contains_iff_mem.mp e))⟩
    · have z := List.all_eq_true.mp q3 (c, k) (List.contains_iff_mem.mp e)
      obtain ⟨z1, z2⟩ := and2 z
      exact ⟨clsB_ok z1, He.eqO_ok z2⟩
    · show nmAll T.nms i = _
      unfold nmAll
      rw [List.getElem?_append_left hi, List.getElem?_eq_getElem hi]
      rw [List.getD_eq_getElem?_getD, List.getElem?_eq_getElem hi]
      rfl
  refine ⟨ops, fun c k n i e => ?_, fun c k i e => ?_, fun c k n i e => ?_, fun c k n i e => ?_, fun i x e => ?_, fun c x e => ?_, fun j x d e => ?_, fun t u b e => ?_, fun c t b e => ?_, fun x hx => ?_, fun c k d e => ?_, fun c k d e => ?_⟩
  · obtain ⟨z1, z⟩ := and2 (List.all_eq_true.mp q6 (c, k, n, i) (find4_mem e))
    obtain ⟨z2, z3⟩ := and2 z
    exact ⟨clsB_ok z1, methB_ok z2, beq_iff_eq.mp z3⟩
  · obtain ⟨z1, z⟩ := and2 (List.all_eq_true.mp q5 (c, k, i) (find3_mem e))
    obtain ⟨z2, z3⟩ := and2 z
    obtain ⟨y1, y⟩ := and2 z1
    obtain ⟨y2, y⟩ := and2 y
    obtain ⟨y3, y⟩ := and2 y
    obtain ⟨y4, y5⟩ := and2 y
    exact ⟨clsB_ok y1, List.isEmpty_iff.mp z2, not_of_not z3, _, He.eqO_ok y2, He.eqO_ok y3, of_decide_eq_true y4, rec_is y5⟩
  · obtain ⟨z1, z2⟩ := and2 (List.all_eq_true.mp q7 (c, k, n, i) (find4_mem e))
    obtain ⟨y1, y⟩ := and2 z1
    obtain ⟨y2, y⟩ := and2 y
    obtain ⟨y3, y4⟩ := and2 y
    obtain ⟨mc, r1, r2, r3⟩ := readB_ok y1
    obtain ⟨rest, r4⟩ := rec_is y3
    exact ⟨⟨mc, _, rest, r1, r2, r3, getB_ok y2 r2, r4, rfl, y4⟩, beq_iff_eq.mp z2⟩
  · obtain ⟨z1, z2⟩ := and2 (List.all_eq_true.mp q8 (c, k, n, i) (find4_mem e))
    obtain ⟨y1, y⟩ := and2 z1
    obtain ⟨y2, y⟩ := and2 y
    obtain ⟨y3, y4⟩ := and2 y
    obtain ⟨mc, r1, r2, r3⟩ := readB_ok y1
    exact ⟨⟨mc, _, ⟨r3, r1⟩, ⟨getB_ok y2 r2, rec_is y3, y4⟩⟩, beq_iff_eq.mp z2⟩
  · have e' : (match T.gn[i]? with
      | some o => o
      | none => none) = some x := e
    split at e'
    · rename_i o ho
      subst e'
      have lt := (List.getElem?_eq_some_iff.mp ho).1
      have z := List.all_eq_true.mp q9 i (List.mem_range.mpr lt)
      rw [ho] at z
      obtain ⟨z1, z⟩ := and2 z
      obtain ⟨z2, z3⟩ := and2 z
      exact ⟨PySem.W.mg_of X N (He.eqO_ok z1), z2, by simpa using z3⟩
    · cases e'
  · have e' : T.cls[c]? = some x := e
    obtain ⟨z1, z2, z3⟩ := one x (List.mem_of_getElem? e')
    refine ⟨?_, z3⟩
    show mg x = some (.ref (clA T K c))
    unfold clA
    rw [e']
    exact PySem.W.mg_of X N (He.eqO_ok z2)
  · obtain ⟨z1, z2⟩ := and2 (List.all_eq_true.mp q10 (x, d) (List.mem_of_getElem? e))
    refine ⟨?_, by simpa using z2⟩
    split at z1
    · rename_i v hv
      obtain ⟨w, r, p⟩ := konB_ok (G := gamOf T hN K) d z1
      exact ⟨v, w, PySem.W.mg_of X N hv, r, p⟩
    · cases z1
  · obtain ⟨z1, z2⟩ := and2 (List.all_eq_true.mp q11 (t, u, b) (findT_mem e))
    have z := of_decide_eq_true z1
    cases t <;> cases u <;> exact z
  · obtain ⟨z1, z2⟩ := and2 (List.all_eq_true.mp q11 (.c c, t, b) (findT_mem e))
    exact insB_ok z2
  · exact PySem.W.mg_none_of X N (He.eqO_ok (List.all_eq_true.mp q12 x hx))
  · obtain ⟨y, hy, ey⟩ := Option.map_eq_some_iff.mp (show (T.cv.find? fun q => q.1 == c && q.2.1 == k).map (·.2.2) = some d from e)
    have m := List.mem_of_find?_eq_some hy
    have e1 := List.find?_some hy
    obtain ⟨y1, y2, y3⟩ := y
    obtain ⟨e1, e2⟩ := and2 e1
    obtain rfl : y1 = c := beq_iff_eq.mp e1
    obtain rfl : y2 = k := beq_iff_eq.mp e2
    obtain rfl : y3 = d := ey
    obtain ⟨z1, z⟩ := and2 (List.all_eq_true.mp q14 _ m)
    obtain ⟨mc, r1, r2, r3⟩ := readB_ok z1
    rw [r2] at z
    dsimp only at z
    split at z
    · rename_i u hu
      obtain ⟨v, rv, p⟩ := konB_ok (G := gamOf T hN K) y3 z
      exact ⟨mc, u, v, ⟨r3, r1⟩, ⟨hu, rv⟩, p⟩
    · cases z
  · obtain ⟨y, hy, ey⟩ := Option.map_eq_some_iff.mp (show (T.iv.find? fun q => q.1 == c && q.2.1 == k).map (·.2.2) = some d from e)
    have m := List.mem_of_find?_eq_some hy
    have e1 := List.find?_some hy
    obtain ⟨y1, y2, y3⟩ := y
    obtain ⟨e1, e2⟩ := and2 e1
    obtain rfl : y1 = c := beq_iff_eq.mp e1
    obtain rfl : y2 = k := beq_iff_eq.mp e2
    obtain rfl : y3 = d := ey
    obtain ⟨z1, z⟩ := and2 (List.all_eq_true.mp q16 _ m)
    split at z
    · rename_i u hu
      obtain ⟨z2, z⟩ := and2 z
      obtain ⟨z3, z4⟩ := and2 z
      obtain ⟨v, rv, p⟩ := konB_ok (G := gamOf T hN K) y3 z2
      exact ⟨clsB_ok z1, u, v, ⟨hu, rv, He.eqO_ok z3, by rw [Bool.not_eq_true'] at z4; exact z4⟩, p⟩
    · cases z
end
theorem mk_of {T : Tb} {K : PySem.W.Frag} (q : tbB T K = true) {c : Nat} (hc : c ∈ T.mks) : Mk K (clA T K c) (He.ma K (clA T K c) "__init__") := by
  obtain ⟨_, q⟩ := and2 q
  obtain ⟨_, q⟩ := and2 q
  obtain ⟨_, q⟩ := and2 q
  obtain ⟨_, q⟩ := and2 q
  obtain ⟨_, q⟩ := and2 q
  obtain ⟨_, q⟩ := and2 q
  obtain ⟨_, q⟩ := and2 q
  obtain ⟨_, q⟩ := and2 q
  obtain ⟨_, q⟩ := and2 q
  obtain ⟨_, q⟩ := and2 q
  obtain ⟨_, q⟩ := and2 q
  obtain ⟨z1, z⟩ := and2 (List.all_eq_true.mp (and2 q).1 c hc)
  obtain ⟨z2, z⟩ := and2 z
  obtain ⟨z3, z4⟩ := and2 z
  exact ⟨z1, He.eqO_ok z2, z3, z4⟩
theorem it_of {T : Tb} {hN : okN T.nms = true} {K : PySem.W.Frag} (q : tbB T K = true) {c : Nat} {p : List Nat} (e : (gamOf T hN K).itf c = some p) : (c, p) ∈ T.it ∧ Cls K (clA T K c) ∧ Meth K (clA T K c) "__iter__" (He.ma K (clA T K c) "__iter__") := by
  obtain ⟨_, q⟩ := and2 q
  obtain ⟨_, q⟩ := and2 q
  obtain ⟨_, q⟩ := and2 q
  obtain ⟨_, q⟩ := and2 q
  obtain ⟨_, q⟩ := and2 q
  obtain ⟨_, q⟩ := and2 q
  obtain ⟨_, q⟩ := and2 q
  obtain ⟨_, q⟩ := and2 q
  obtain ⟨_, q⟩ := and2 q
  obtain ⟨_, q⟩ := and2 q
  obtain ⟨_, q⟩ := and2 q
  obtain ⟨_, q⟩ := and2 q
  obtain ⟨y, hy, ey⟩ := Option.map_eq_some_iff.mp (show (T.it.find? fun q => q.1 == c).map (·.2) = some p from e)
  have m := List.mem_of_find?_eq_some hy
  have e1 := List.find?_some hy
  obtain ⟨y1, y2⟩ := y
  obtain rfl : y1 = c := beq_iff_eq.mp e1
  obtain rfl : y2 = p := ey
  obtain ⟨z1, z2⟩ := and2 (List.all_eq_true.mp (and2 q).1 _ m)
  exact ⟨m, clsB_ok z1, methB_ok z2⟩
theorem dflD_ok {K : PySem.W.Frag} {G : Gam} {dV : Value} {ds : List D} (h : dflD K dV ds = true) : ∃ vs, DflV K dV vs ∧ ∀ I, Reps K G I ds vs := by
  cases ds with
  | nil =>
    cases dV with
    | none => exact ⟨[], .inl ⟨rfl, rfl⟩, fun I => .nil⟩
    | _ => cases h
  | cons d ds =>
    cases dV with
    | ref T =>
      have h : (match K.lookup T with
        | some ⟨_, _, .seq its _, _⟩ => konBs K (d :: ds) its.toList
        | _ => false) = true := h
      split at h
      · rename_i oc od its n sl hl
        obtain ⟨vs, r, q⟩ := konBs_ok (G := G) (d :: ds) h
        refine ⟨vs, .inr ⟨?_, T, _, its.toList, n, rfl, hl, by simp, r⟩, q⟩
        intro z
        have := (q (fun _ => none)).length
        rw [z] at this
        simp at this
      · cases h
    | _ => cases h
theorem Df.funD {K : PySem.W.Frag} {G : Gam} {d : Df} (e : fnAt K (d.at_.ad K) = d.val) (c : d.ok K = true) : ∃ fd vs, FunD K d.name d.qual d.params d.body d.scope vs [] (d.at_.ad K) fd ∧ ∀ I, Reps K G I d.dfl vs := by
  obtain ⟨kp, c⟩ := and2 c
  unfold fnAt at e
  split at c
  · rename_i oc od fd sl hl
    rw [hl] at e
    dsimp only at e
    obtain ⟨k1, k2⟩ := and2 c
    obtain ⟨vs, k3, k4⟩ := dflD_ok (G := G) k2
    obtain ⟨n1, n2, n3, n4, n5, n6, n7, n8, n9, n10, n11, n12, n13, n14, n15⟩ := fd
    unfold Df.val at e
    simp only [Option.some.injEq, Prod.mk.injEq] at e
    obtain ⟨e1, e2, e3, e4, e5, e6, e7, e8⟩ := e
    subst e1 e2 e3 e4 e5 e6 e7 e8
    exact ⟨_, vs, ⟨⟨oc, od, n8, n9, n10, n11, n12, n13, n14, sl, rfl, hl, k1, k3, .inl rfl⟩, kp⟩, k4⟩
  · cases c
theorem SaysP.tb {T : Tb} {fn : List Df} {K : PySem.W.Frag} (c : SaysP T fn K) : tbB T K = true := (and2 (show (tbB T K && fn.all fun d => d.ok K) = true from congrArg (fun z : He.AlD => z.1) c)).1
theorem SaysP.df {T : Tb} {fn : List Df} {K : PySem.W.Frag} {G : Gam} (c : SaysP T fn K) {d : Df} (hd : d ∈ fn) : ∃ fd vs, FunD K d.name d.qual d.params d.body d.scope vs [] (d.at_.ad K) fd ∧ ∀ I, Reps K G I d.dfl vs := by
  have c2 := (and2 (show (tbB T K && fn.all fun d => d.ok K) = true from congrArg (fun z : He.AlD => z.1) c)).2
  have e : fn.map (fun d => fnAt K (d.at_.ad K)) = fn.map Df.val := congrArg (fun z : He.AlD => z.2) c
  have e2 : fnAt K (d.at_.ad K) = d.val := List.map_inj_left.mp e d hd
  exact Df.funD e2 (List.all_eq_true.mp c2 d hd)
end PyD
set_option Elab.async false
set_option linter.all false
set_option autoImplicit false
set_option maxRecDepth 100000
set_option maxHeartbeats 4000000
/-! # Defs that make a tuple or a dict while they bind -/
namespace PyD
open PySem PySem.Spec L2
section
variable {prog : Program} {w : World} {A : Around} {E : Value → Shared → Prop} {d : Addr}
theorem ns_own {s : Shared} {es : List DictEntry} {n : Nat} {k : Str} {v : Value} {Q : Unit → Shared → Prop} (D : s.heap.get? d = some (PySem.W.dictOf es n))
    (hs : ∀ e ∈ es, e.key.isStr k = false) (hr : ∀ e ∈ es, e.refKey = false)
    (h : ∀ h', h'.get? d = some (PySem.W.dictOf (es ++ [⟨PyData.keyHash w.params k, .str k s.toks, v⟩]) (n + 1)) → (∀ b u, b ≠ d → s.heap.get? b = some u → h'.get? b = some u) → h'.objs.size = s.heap.objs.size → Q () { s with heap := h', toks := s.toks + 1 }) :
    wpAny (model prog w) A (nsSet d k v) Q E s := by
  have e1 : es.any (·.key.isStr k) = false := by
    cases q : es.any (·.key.isStr k) with
    | false => rfl
    | true => obtain ⟨e, he, z⟩ := List.any_eq_true.mp q; rw [hs e he] at z; cases z
  have e2 : es.any (·.refKey) = false := by
    cases q : es.any (·.refKey) with
    | false => rfl
    | true => obtain ⟨e, he, z⟩ := List.any_eq_true.mp q; rw [hr e he] at z; cases z
  have e : Obj.putName k (PyData.keyHash w.params k) (.str k s.toks) v (PySem.W.dictOf es n) = PySem.W.dictOf (es ++ [⟨PyData.keyHash w.params k, .str k s.toks, v⟩]) (n + 1) := by
    rw [PySem.W.putName_dict, PySem.W.putL_new hs]
    show PySem.W.dictOf _ (if es.any (·.key.isStr k) then n else n + 1) = _
    rw [e1, if_neg Bool.false_ne_true]
  have c : aRefKeyMayBeTheName k es.toArray = false := by
    rw [aRefKeyMayBeTheName_at, ← Array.any_toList, ← Array.any_toList]
    show (!es.any (·.key.isStr k) && es.any (·.refKey)) = false
    rw [e2, Bool.and_false]
  unfold nsSet
  refine wpAny_bind (wpAny_bind (wpAny_askSetting (wpAny_pure (wpAny_bind (wpAny_mkText (wpAny_bind (wpAny_loadPart D ?_)))))))
  dsimp only
  rw [c]
  refine wpAny_updatePart D (h _ ?_ ?_ ?_)
  · have := Heap.get?_update_self (Obj.putName k (PyData.keyHash w.params k) (.str k s.toks) v) D (by rw [e]; rfl)
    rw [e] at this
    exact this
  · intro b u hb hu
    exact (Heap.get?_update_other s.heap _ (Ne.symm hb)).trans hu
  · exact Heap.size_update _ _ _
theorem ns_fill {Q : PUnit → Shared → Prop} : ∀ (ex : List (Str × Value)) (s : Shared) (es : List DictEntry) (n : Nat), s.heap.get? d = some (PySem.W.dictOf es n) →
    (∀ e ∈ es, ∀ x ∈ ex, e.key.isStr x.1 = false) → (∀ e ∈ es, e.refKey = false) → (ex.map (·.1)).Nodup →
    (∀ h', h'.get? d = some (PySem.W.dictOf (es ++ PySem.W.kwEs w.params s.toks ex) (n + ex.length)) → (∀ b u, b ≠ d → s.heap.get? b = some u → h'.get? b = some u) → h'.objs.size = s.heap.objs.size → Q ⟨⟩ { s with heap := h', toks := s.toks + ex.length }) →
    wpAny (model prog w) A (forIn ex PUnit.unit fun x _ => (nsSet d x.1 x.2 >>= fun _ => pure (ForInStep.yield PUnit.unit))) Q E s
  | [], s, es, n, D, _, _, _, h => by
    rw [List.forIn_nil]
    refine wpAny_pure (h s.heap ?_ (fun b u _ e => e) rfl)
    show s.heap.get? d = some (PySem.W.dictOf (es ++ []) n)
    rw [List.append_nil]
    exact D
  | x :: r, s, es, n, D, hs, hr, hn, h => by
    obtain ⟨hn1, hn2⟩ := List.nodup_cons.mp (show (x.1 :: r.map (·.1)).Nodup from hn)
    rw [List.forIn_cons]
    refine wpAny_bind (wpAny_bind (ns_own D (fun e he => hs e he x (.head _)) hr fun h' D' k' z' => wpAny_pure ?_))
    show wpAny (model prog w) A (forIn r PUnit.unit fun x _ => (nsSet d x.1 x.2 >>= fun _ => pure (ForInStep.yield PUnit.unit))) Q E { s with heap := h', toks := s.toks + 1 }
    refine ns_fill r { s with heap := h', toks := s.toks + 1 } _ _ D' (fun e he y hy => ?_) (fun e he => ?_) hn2 fun h'' D'' k'' z'' => ?_
    · rcases List.mem_append.mp he with he | he
      · exact hs e he y (.tail _ hy)
      · obtain rfl := List.mem_singleton.mp he
        show (x.1 == y.1) = false
        exact beq_eq_false_iff_ne.mpr fun q => hn1 (by rw [q]; exact List.mem_map_of_mem hy)
    · rcases List.mem_append.mp he with he | he
      · exact hr e he
      · obtain rfl := List.mem_singleton.mp he
        rfl
    · have t1 : s.toks + 1 + r.length = s.toks + (r.length + 1) := by omega
      have t2 : n + 1 + r.length = n + (r.length + 1) := by omega
      show Q ⟨⟩ { s with heap := h'', toks := s.toks + 1 + r.length }
      rw [t1]
      refine h h'' ?_ (fun b u hb e => k'' b u hb (k' b u hb e)) (z''.trans z')
      rw [t2, List.append_assoc] at D''
      exact D''
theorem kwEs_mix : ∀ (ex : List (Str × Value)) (t : Tok), Pairs (mixKind prog w) (PySem.W.kwEs w.params t ex) (ex.map fun x => (Sum.inr x.1, x.2))
  | [], _ => Pairs.nil
  | x :: r, t => Pairs.cons (mixKind_str prog w x.1 t) rfl (kwEs_mix r (t + 1))
end
theorem ne_str : ∀ {exs : List (Str × Value)}, (exs.map (·.1)).Nodup → ((exs.map fun x => ((Sum.inr x.1 : Key), x.2)).map (·.1)).Nodup
  | [], _ => List.nodup_nil
  | x :: r, h => by
    obtain ⟨h1, h2⟩ := List.nodup_cons.mp (show (x.1 :: r.map (·.1)).Nodup from h)
    refine List.nodup_cons.mpr ⟨fun hx => ?_, ne_str h2⟩
    rw [List.map_map] at hx
    obtain ⟨y, hy, e⟩ := List.mem_map.mp hx
    exact h1 (List.mem_map.mpr ⟨y, hy, Sum.inr.inj e⟩)
section
variable {P : Program} {w : World} {K : PySem.W.Frag} {mg : Str → Option Value} {base : Heap} {A : Around} {outer : List Env} {s : Shared} {H : Hp}
theorem env0_new {h' : Heap} {tk : Nat} {a : Addr} {u : HO} (e0 : Env0 P w K mg base A outer s H) (kp : ∀ b x, s.heap.get? b = some x → h'.get? b = some x) (ha : s.heap.objs.size ≤ a) (hz : s.heap.objs.size ≤ h'.objs.size) (new : ObjOk P w (upd H a u) h' a u) :
    Env0 P w K mg base A outer { s with heap := h', toks := tk } (upd H a u) := by
  refine ⟨e0.frames, e0.mod, fun b x e => ⟨kp b x (e0.bs b x e).1, ?_⟩, Nat.le_trans e0.bsz hz, Heap.FunFrames.of_keeps (fun b x e _ => ⟨x, kp b x e, rfl⟩) e0.funs, fun b hb => ?_, e0.hok.laid kp ha new, e0.bare⟩
  · rw [upd_ne (Nat.ne_of_lt (Nat.lt_of_lt_of_le (Heap.lt_size (e0.bs b x e).1) ha))]
    exact (e0.bs b x e).2
  · obtain ⟨_, x, hx, _⟩ := e0.funs.mem hb
    rw [upd_ne (Nat.ne_of_lt (Nat.lt_of_lt_of_le (Heap.lt_size hx) ha))]
    exact e0.frf b hb
end
/-- how the values of a call come to the parameters, with things made for it -/
def ArgX (K : PySem.W.Frag) (G : Gam) (fd : FuncData) (ps ks : List Str) (n : Nat) (gX : List D → List D) : Prop :=
  ∀ (P : Program) (w : World) (mg : Str → Option Value) (base : Heap) (A : Around) (outer : List Env) (s : Shared) (H : Hp) (us ws : List Value) (vs : List V) (ds : List D) (I : Hp) (M : Mst) (E : XK), Env0 P w K mg base A outer s H →
    us.length = n → ws.length = ks.length → Vals vs (us ++ ws) → Reps K G I ds vs → Good K G I M H →
    StX.Bnd (CX P w) P w K mg base fd ⟨us, ks.zip ws⟩ ps A outer s H E fun vbs H2 => ∃ I2, Good K G I2 M H2 ∧ Frm I M H I2 M H2 ∧ Reps K G I2 (gX ds) vbs
theorem ArgOk.x {K : PySem.W.Frag} {G : Gam} {fd : FuncData} {ps ks : List Str} {n : Nat} {gD : List D → List D} (h : ArgOk K G fd ps ks n gD) : ArgX K G fd ps ks n gD := by
  intro P w mg base A outer s H us ws vs ds I M E e0 hu hw r q g A' Ex Q k
  obtain ⟨bs, vbs, hb, rb, hl, rd⟩ := h s us ws vs ds I (e0.mod.kin.keeps fun b o e => (e0.bs b o e).1) hu hw r q
  exact hb _ _ _ _ (k s H vbs bs e0 (Un.kept fun b o e => e) rfl (fun e s' z => z) rb hl ⟨I, g, .refl, rd⟩)
section
variable {P : Program} {w : World} {K : PySem.W.Frag} {mg : Str → Option Value} {base : Heap} {G : Gam}
theorem fnd_ofX {name qual : Str} {params : Arguments} {body : List Stmt} {scope : Scope} {dvs : List V} {kws : List (Str × V)} {f : Addr} {fd : FuncData} {N ps ks : List Str} {k n : Nat} {gD : List D → List D} {sd : SpD} {tb : TSd}
    (F : FunD K name qual params body scope dvs kws f fd) (S : FnScope N ps scope) (bind : ArgX K G fd ps ks n gD) (len : ∀ ds M K1 E1, sd ds M K1 E1 → ds.length = n + ks.length)
    (hbody : ∀ (cdv : Value) (A : Around) (outer : List Env) (s : Shared) (H : Hp) (E : XK) (B : Bs), Room k (A.deeper (PyProof.Rows.envOfC qual scope s.heap.objs.size f cdv)) → (A.deeper (PyProof.Rows.envOfC qual scope s.heap.objs.size f cdv)).guards = some [] →
      PSs (cxOf (CX P w) P w K mg base N qual scope f cdv A outer s H E) body (TSx K G B (fun cls dx _ H => E cls dx H) tb))
    (hsp : ∀ ds M K1 E1, sd ds M K1 E1 → tb (startD N (gD ds)) M { nx := fun _ M' => K1 .non M', rt := K1, er := fun c fs _ M' => E1 c fs M' }) :
    FnD P w K mg base G (k + 1) (.ref f) ks sd := by
  obtain ⟨oc, od, dV, kV, doc, pm, an, cdv, ct, osl, hfd, lk, hcd, _, _⟩ := F.ex
  subst hfd
  refine ⟨fun A outer s H us ws vs ds M I K1 E1 Q E hr hg e0 r hl g r2 hs hK hE => ?_⟩
  have hlen := len _ _ _ _ hs
  have hn : us.length = n := by
    have h1 := r.length
    have h2 := r2.length
    rw [List.length_append] at h1
    omega
  refine StX.run_bnd lk hcd S hr e0 (bind P w mg base A outer s H us ws vs ds I M E e0 hn hl r r2 g) fun s2 H2 vbs ⟨I2, g2, f2, rd⟩ hr' => ?_
  have hb := hbody cdv A outer s2 H2 E ⟨I2, M, H2⟩ hr' hg
  refine ⟨_, hb, startD N (gD ds), M, I2, _, ⟨startD_ok rd, g2, .refl⟩, hsp ds M K1 E1 hs, ⟨fun ρ M' σ H' I' h s' => ?_, fun _ _ _ _ _ h _ => h.elim, fun _ _ _ _ _ h _ => h.elim, fun d ρ M' σ H' I' v h s' q => ?_, fun c fs ρ M' σ H' I' cls dx h s' q => ?_⟩⟩
  · exact hK _ _ _ _ _ h s'.good (f2.trans g2 s'.frm) (by unfold Rep; rfl)
  · exact hK _ _ _ _ _ h s'.good (f2.trans g2 s'.frm) q
  · exact hE _ _ _ _ _ _ _ h s'.good (f2.trans g2 s'.frm) q
end
end PyD
set_option Elab.async false
set_option linter.all false
set_option autoImplicit false
set_option maxRecDepth 100000
set_option maxHeartbeats 4000000
/-! # All defs of a text keep what is said of them -/
namespace PyD
open PySem PySem.Spec L2

def pick {α : Type} (sel : List (Bool × Nat)) (l its : List α) : List α := sel.filterMap fun q => if q.1 then its[q.2]? else l[q.2]?
/-- a callable: its def (a class: its __init__), its names, its parameters, how many values a call gives by position, where each parameter's value comes from, its body -/
inductive Tail where
  | no | rest (nm : Str) (np : Nat) | kw (nm : Str) (ex : List (Str × Nat))
structure Cb where
  d : Df
  N : List Str
  ps : List Str
  n : Nat
  sel : List (Bool × Nat)
  body : Ss
  cl : Option Nat := none
  tail : Tail := .no
def Tail.len : Tail → Nat
  | .no => 0
  | _ => 1
/-- the extra keywords and their values -/
def exV {α : Type} (ex : List (Str × Nat)) (l : List α) : List (Str × α) := ex.filterMap fun p => l[p.2]?.map (p.1, ·)
def tailD (t : Tail) (n : Nat) (ds : List D) : List D := match t with
  | .no => []
  | .rest _ np => [.tup ((ds.take n).drop np)]
  | .kw _ ex => [.dct ((exV ex ds).map fun p => (Sum.inr p.1, p.2))]
def tailB (t : Tail) (n : Nat) : Bool := match t with
  | .no => true
  | .rest _ np => decide (n ≤ 1000)
  | .kw _ ex => decide ((ex.map (·.1)).Nodup) && decide (ex.length ≤ 1000)
def tailM (t : Tail) (us ws : List Value) (bs : List (Str × Value)) : Sem (List (Str × Value)) := match t with
  | .no => pure bs
  | .rest nm np => newTuple (us.drop np) >>= fun t => pure (bs ++ [(nm, t)])
  | .kw nm ex => (alloc ({ cls := .type "dict", data := .dict #[] } : Obj) : Sem Addr) >>= fun d => (forIn (exV ex (us ++ ws)) PUnit.unit fun x _ => (nsSet d x.1 x.2 >>= fun _ => pure (ForInStep.yield PUnit.unit))) >>= fun _ => pure (bs ++ [(nm, Value.ref d)])
def Tail.nms : Tail → List Str
  | .no => []
  | .rest nm _ => [nm]
  | .kw nm _ => [nm]
def selB (sel : List (Bool × Nat)) (n m : Nat) : Bool := sel.all fun q => if q.1 then decide (q.2 < m) else decide (q.2 < n)
def scB (N ps : List Str) (s : Scope) : Bool := (s.kind == .function) && (!s.isCoroutine && (!s.isGenerator && (decide N.Nodup && ((N.take ps.length == ps) && ((ps.all fun x => (s.names.lookup x == some .local) || (s.names.lookup x == some .cell)) && (s.names.all fun y => !(y.2 == .free)))))))
def cbB (T : Tb) (G : Gam) (i : Nat) (cb : Cb) : Bool := scB cb.N cb.ps cb.d.scope && (chkSs G ⟨cb.N, cb.d.scope⟩ cb.body cb.d.body && (decide (cb.ps = cb.ps.take cb.sel.length ++ cb.tail.nms ∧ cb.sel.length + cb.tail.len = cb.ps.length) && ((selB cb.sel (cb.n + (G.ks i).length) cb.d.dfl.length && tailB cb.tail cb.n) && (match cb.cl with
  | none => decide (T.at_[i]? = some cb.d.at_) && !(T.isC.contains i)
  | some c => T.isC.contains i && (T.mks.contains c && (match T.cls[c]? with
    | some x => decide (T.at_[i]? = some (.glo x)) && decide (cb.d.at_ = .meth x "__init__")
    | none => false))))))
def cbsB (T : Tb) (G : Gam) (cbs : List Cb) : Bool := (List.range cbs.length).all fun i => match cbs[i]? with
  | some cb => cbB T G i cb
  | none => true
theorem scB_ok {N ps : List Str} {s : Scope} (h : scB N ps s = true) : FnScope N ps s := by
  obtain ⟨h1, h⟩ := and2 h
  obtain ⟨h2, h⟩ := and2 h
  obtain ⟨h3, h⟩ := and2 h
  obtain ⟨h4, h⟩ := and2 h
  obtain ⟨h5, h⟩ := and2 h
  obtain ⟨h6, h7⟩ := and2 h
  refine ⟨beq_iff_eq.mp h1, not_of_not h2, not_of_not h3, of_decide_eq_true h4, beq_iff_eq.mp h5, fun x hx => ?_, fun y hy z => ?_⟩
  · rcases Bool.or_eq_true_iff.mp (List.all_eq_true.mp h6 x hx) with z | z
    · exact .inl (beq_iff_eq.mp z)
    · exact .inr (beq_iff_eq.mp z)
  · have := List.all_eq_true.mp h7 y hy
    rw [z] at this
    exact absurd this (by decide)
theorem pick_length {α : Type} : ∀ {sel : List (Bool × Nat)} {l its : List α}, selB sel l.length its.length = true → (pick sel l its).length = sel.length
  | [], _, _, _ => rfl
  | (b, i) :: sel, l, its, h => by
    obtain ⟨h1, h2⟩ := and2 (show (_ && sel.all _) = true from h)
    have ih := pick_length (sel := sel) (l := l) (its := its) h2
    unfold pick at ih ⊢
    cases b with
    | true =>
      have lt : i < its.length := of_decide_eq_true h1
      simp only [List.filterMap_cons, if_true, List.getElem?_eq_getElem lt, List.length_cons, ih]
    | false =>
      have lt : i < l.length := of_decide_eq_true h1
      simp only [List.filterMap_cons, Bool.false_eq_true, if_false, List.getElem?_eq_getElem lt, List.length_cons, ih]
theorem pick_vals : ∀ {sel : List (Bool × Nat)} {vs dv : List V} {us its : List Value}, Vals vs us → Vals dv its → Vals (pick sel vs dv) (pick sel us its)
  | [], _, _, _, _, _, _ => .nil
  | (b, i) :: sel, vs, dv, us, its, r, q => by
    have ih := pick_vals (sel := sel) r q
    unfold pick at ih ⊢
    have one : ∀ {xs : List V} {ys : List Value}, Vals xs ys → (∃ x y, xs[i]? = some x ∧ ys[i]? = some y ∧ RelV x y) ∨ (xs[i]? = none ∧ ys[i]? = none) := by
      intro xs ys r
      cases e : xs[i]? with
      | some x =>
        obtain ⟨y, e1, e2⟩ := r.get e
        exact .inl ⟨x, y, rfl, e1, e2⟩
      | none =>
        refine .inr ⟨rfl, ?_⟩
        rw [List.getElem?_eq_none_iff] at e ⊢
        rw [← r.length]
        exact e
    cases b with
    | true =>
      simp only [List.filterMap_cons, if_true]
      rcases one q with ⟨x, y, e1, e2, e3⟩ | ⟨e1, e2⟩
      · rw [e1, e2]; exact .cons e3 ih
      · rw [e1, e2]; exact ih
    | false =>
      simp only [List.filterMap_cons, Bool.false_eq_true, if_false]
      rcases one r with ⟨x, y, e1, e2, e3⟩ | ⟨e1, e2⟩
      · rw [e1, e2]; exact .cons e3 ih
      · rw [e1, e2]; exact ih
theorem pick_reps {K : PySem.W.Frag} {G : Gam} {I : Hp} : ∀ {sel : List (Bool × Nat)} {ds dd : List D} {vs dv : List V}, Reps K G I ds vs → Reps K G I dd dv → Reps K G I (pick sel ds dd) (pick sel vs dv)
  | [], _, _, _, _, _, _ => .nil
  | (b, i) :: sel, ds, dd, vs, dv, r, q => by
    have ih := pick_reps (sel := sel) r q
    unfold pick at ih ⊢
    have one : ∀ {xs : List D} {ys : List V}, Reps K G I xs ys → (∃ x y, xs[i]? = some x ∧ ys[i]? = some y ∧ Rep K G I x y) ∨ (xs[i]? = none ∧ ys[i]? = none) := by
      intro xs ys r
      cases e : xs[i]? with
      | some x =>
        obtain ⟨y, e1, e2⟩ := r.get e
        exact .inl ⟨x, y, rfl, e1, e2⟩
      | none =>
        refine .inr ⟨rfl, ?_⟩
        rw [List.getElem?_eq_none_iff] at e ⊢
        rw [r.length]
        exact e
    cases b with
    | true =>
      simp only [List.filterMap_cons, if_true]
      rcases one q with ⟨x, y, e1, e2, e3⟩ | ⟨e1, e2⟩
      · rw [e1, e2]; exact .cons e3 ih
      · rw [e1, e2]; exact ih
    | false =>
      simp only [List.filterMap_cons, Bool.false_eq_true, if_false]
      rcases one r with ⟨x, y, e1, e2, e3⟩ | ⟨e1, e2⟩
      · rw [e1, e2]; exact .cons e3 ih
      · rw [e1, e2]; exact ih
/-- how the values of a call come to the parameters -/
def BindH (cb : Cb) (ks : List Str) : Prop := ∀ (T : Addr) (kV doc pm : Value) (an : Option Addr) (cdv ct : Value) (us ws its : List Value), us.length = cb.n → ws.length = ks.length → its.length = cb.d.dfl.length →
  (match cb.d.dfl with
  | [] => bindArgs (PySem.W.fnOf cb.d.name cb.d.qual cb.d.params cb.d.body cb.d.scope .none kV doc pm an cdv ct) ⟨us, ks.zip ws⟩ = tailM cb.tail us ws ((cb.ps.take cb.sel.length).zip (pick cb.sel (us ++ ws) its))
  | _ :: _ => ∃ k, bindArgs (PySem.W.fnOf cb.d.name cb.d.qual cb.d.params cb.d.body cb.d.scope (.ref T) kV doc pm an cdv ct) ⟨us, ks.zip ws⟩ = seqItems? (.ref T) >>= k ∧ k (some its.toArray) = tailM cb.tail us ws ((cb.ps.take cb.sel.length).zip (pick cb.sel (us ++ ws) its)))
theorem exV_reps {K : PySem.W.Frag} {G : Gam} {I : Hp} : ∀ {ex : List (Str × Nat)} {ds : List D} {vs : List V} {us : List Value}, Reps K G I ds vs → Vals vs us →
    ∃ kvs : List (Key × V), RepK K G I ((exV ex ds).map fun p => (Sum.inr p.1, p.2)) kvs ∧ KV kvs ((exV ex us).map fun p => ((Sum.inr p.1 : Key), p.2))
  | [], ds, vs, us, r, v => ⟨[], by unfold RepK; rfl, .nil⟩
  | (k, i) :: ex, ds, vs, us, r, v => by
    obtain ⟨kvs, h1, h2⟩ := exV_reps (ex := ex) r v
    unfold exV at h1 h2 ⊢
    rw [List.filterMap_cons, List.filterMap_cons]
    cases q : ds[i]? with
    | none =>
      have : us[i]? = none := by
        rw [List.getElem?_eq_none_iff] at q ⊢
        rw [← v.length, r.length]; exact q
      rw [this]
      exact ⟨kvs, h1, h2⟩
    | some d =>
      obtain ⟨x, e1, e2⟩ := r.get q
      obtain ⟨u, e3, e4⟩ := v.get e1
      rw [e3]
      refine ⟨(Sum.inr k, x) :: kvs, ?_, .cons ⟨rfl, e4⟩ h2⟩
      show RepK K G I ((Sum.inr k, d) :: _) _
      unfold RepK
      exact ⟨x, kvs, rfl, e2, h1⟩
theorem exV_names {α : Type} {l : List α} : ∀ {ex : List (Str × Nat)}, (ex.map (·.1)).Nodup → ((exV ex l).map (·.1)).Nodup ∧ ∀ x ∈ (exV ex l).map (·.1), x ∈ ex.map (·.1)
  | [], _ => ⟨List.nodup_nil, fun x h => h⟩
  | (k, i) :: ex, h => by
    obtain ⟨h1, h2⟩ := List.nodup_cons.mp (show (k :: ex.map (·.1)).Nodup from h)
    obtain ⟨q1, q2⟩ := exV_names (l := l) h2
    unfold exV at q1 q2 ⊢
    rw [List.filterMap_cons]
    cases l[i]? with
    | none => exact ⟨q1, fun x hx => List.mem_cons_of_mem _ (q2 x hx)⟩
    | some d =>
      refine ⟨List.nodup_cons.mpr ⟨fun z => h1 (q2 _ z), q1⟩, fun x hx => ?_⟩
      rcases List.mem_cons.mp hx with e | hx
      · rw [e]; exact List.mem_cons_self
      · exact List.mem_cons_of_mem _ (q2 x hx)
theorem exV_len {α : Type} {l : List α} {ex : List (Str × Nat)} : (exV ex l).length ≤ ex.length := List.length_filterMap_le _ _
theorem vals_drop : ∀ (np : Nat) {vs : List V} {us : List Value}, Vals vs us → Vals (vs.drop np) (us.drop np)
  | 0, _, _, r => r
  | _ + 1, _, _, .nil => .nil
  | np + 1, _, _, .cons _ t => vals_drop np t
/-- the tail of a binding -/
theorem tail_ok {K : PySem.W.Frag} {G : Gam} {P : Program} {w : World} {mg : Str → Option Value} {base : Heap} {A A' : Around} {outer : List Env} {s : Shared} {H : Hp} {us ws : List Value} {vs : List V} {ds : List D} {I : Hp} {M : Mst} {E : XK} {t : Tail} {n : Nat} {ps0 ps : List Str} {bs : List Value} {vbs : List V} {gs : List D} {Q : List (Str × Value) → Shared → Prop} {Ex : Value → Shared → Prop}
    (e0 : Env0 P w K mg base A outer s H) (ht : tailB t n = true) (hu : us.length = n) (r : Vals vs (us ++ ws)) (q : Reps K G I ds vs) (g : Good K G I M H) (rb : Vals vbs bs) (rg : Reps K G I gs vbs) (hl : vbs.length = ps0.length) (hps : ps = ps0 ++ t.nms)
    (k : ∀ (s2 : Shared) (H2 : Hp) (vs : List V) (us : List Value), Env0 P w K mg base A outer s2 H2 → Un (frs outer) [] H H2 s.heap s2.heap → s2.os = s.os → (∀ e s', CX P w outer H2 s2 E e s' → CX P w outer H s E e s') → Vals vs us → vs.length = ps.length →
      (∃ I2, Good K G I2 M H2 ∧ Frm I M H I2 M H2 ∧ Reps K G I2 (gs ++ tailD t n ds) vs) → Q (ps.zip us) s2) :
    wpAny (model P w) A' (tailM t us ws (ps0.zip bs)) Q Ex s := by
  have hlb : bs.length = ps0.length := by rw [← rb.length]; exact hl
  have hn : H s.heap.objs.size = Option.none := e0.hok.fresh (Nat.le_refl _)
  cases t with
  | no =>
    refine wpAny_pure ?_
    have := k s H vbs bs e0 (Un.kept fun b o e => e) rfl (fun e s' z => z) rb (by rw [hps, hl]; simp [Tail.nms]) ⟨I, g, .refl, by rw [show tailD Tail.no n ds = [] from rfl, List.append_nil]; exact rg⟩
    rw [hps, show Tail.no.nms = [] from rfl, List.append_nil] at this
    exact this
  | rest nm np =>
    have hz : (us.drop np).length ≤ sizeLine := by
      have : n ≤ 1000 := of_decide_eq_true ht
      rw [List.length_drop]; have := sizeLine_eq; omega
    obtain ⟨v1, v2, ev, r1, r2⟩ : ∃ v1 v2, vs = v1 ++ v2 ∧ Vals v1 us ∧ Vals v2 ws := by
      have key : ∀ (us : List Value) {vs : List V}, Vals vs (us ++ ws) → ∃ v1 v2, vs = v1 ++ v2 ∧ Vals v1 us ∧ Vals v2 ws := by
        intro us
        induction us with
        | nil => intro vs r; exact ⟨[], vs, rfl, .nil, r⟩
        | cons u us ih =>
          intro vs r
          cases r with
          | cons a t =>
            obtain ⟨v1, v2, rfl, h1, h2⟩ := ih t
            exact ⟨_ :: v1, v2, rfl, .cons a h1, h2⟩
      exact key us r
    have lv : v1.length = n := by rw [r1.length, hu]
    have rt : Reps K G I ((ds.take n).drop np) (v1.drop np) := by
      have := (q.take n).drop np
      rw [ev, ← lv, List.take_left] at this
      rw [lv] at this
      exact this
    have rv : Vals (v1.drop np) (us.drop np) := vals_drop np r1
    have new : ObjOk P w (upd H s.heap.objs.size (.tup (v1.drop np))) (s.heap.push ({ cls := .type "tuple", data := .seq (us.drop np).toArray } : Obj)) s.heap.objs.size (.tup (v1.drop np)) := ⟨by rw [rv.length]; exact hz, us.drop np, rv, ⟨_, Heap.get?_push_size _ rfl, rfl, _, rfl⟩⟩
    have un := StX.un_laid (fs := frs outer) (s := s) (o := ({ cls := .type "tuple", data := .seq (us.drop np).toArray } : Obj)) (u := .tup (v1.drop np)) hn
    have f := g.addI_frm (o := .tup (v1.drop np)) hn
    refine wpAny_bind (wpAny_newTuple (wpAny_pure ?_) hz)
    have z := k _ _ (vbs ++ [V.ref s.heap.objs.size]) (bs ++ [Value.ref s.heap.objs.size]) (StX.env0_laid e0 new) un rfl (fun e s' => StX.cxUp outer s H _ _ E e s' un (fun b o q => Heap.get?_push_of_some _ q) rfl) (rb.append (.cons rfl .nil))
      (by rw [hps, List.length_append, List.length_append, hl]; rfl) ⟨_, g.addI hn (.inr (.inl ⟨_, rfl⟩)), f, (rg.ext f.ext).append (.cons (by unfold Rep; exact ⟨_, _, rfl, .of upd_same, rt.ext f.ext⟩) .nil)⟩
    rw [hps, show (Tail.rest nm np).nms = [nm] from rfl, List.zip_append hlb.symm] at z
    exact z
  | kw nm ex =>
    obtain ⟨h1, h2⟩ := and2 ht
    have nd := (exV_names (l := us ++ ws) (of_decide_eq_true h1)).1
    obtain ⟨kvs, rk, kv⟩ := exV_reps (ex := ex) q r
    refine wpAny_bind (wpAny_alloc (wpAny_bind (ns_fill (d := s.heap.objs.size) (exV ex (us ++ ws)) _ [] 0 (Heap.get?_push_size _ rfl) (fun _ he => nomatch he) (fun _ he => nomatch he) nd fun h' D' k' z' => wpAny_pure ?_)))
    have kp : ∀ b x, s.heap.get? b = some x → h'.get? b = some x := fun b x e => k' b x (Nat.ne_of_lt (Heap.lt_size e)) (Heap.get?_push_of_some _ e)
    have hm : (s.heap.objs.size == sysModules) = false := beq_eq_false_iff_ne.mpr (Ne.symm (Nat.ne_of_lt (StX.env0_big e0)))
    have lk : kvs.length ≤ sizeLine := by
      have l1 : kvs.length = _ := Paired.length kv
      have l2 := exV_len (l := us ++ ws) (ex := ex)
      have l3 : ex.length ≤ 1000 := of_decide_eq_true h2
      rw [List.length_map] at l1
      have := sizeLine_eq
      omega
    have new : ObjOk P w (upd H s.heap.objs.size (.dK kvs)) h' s.heap.objs.size (.dK kvs) := by
      refine ⟨lk, hm, (exV ex (us ++ ws)).map (fun p => ((Sum.inr p.1 : Key), p.2)), kv, _, _, _, D', ⟨rfl, rfl, rfl⟩, rfl, fun e he => ?_, ?_, ne_str nd⟩
      · obtain ⟨kk, u, hk, hh⟩ := PySem.W.kwEs_key _ _ e (List.mem_toArray.mp he)
        exact ⟨Sum.inr kk, by rw [hk]; exact mixKind_str P w kk u, hh.trans rfl⟩
      · exact kwEs_mix _ _
    have hz : s.heap.objs.size ≤ h'.objs.size := by rw [z']; show _ ≤ (s.heap.push _).objs.size; rw [Heap.size_push]; exact Nat.le_succ _
    have e1 := env0_new (tk := s.toks + (exV ex (us ++ ws)).length) e0 kp (Nat.le_refl _) hz new
    have un : Un (frs outer) [] H (upd H s.heap.objs.size (.dK kvs)) s.heap h' := Un.laid kp (Nat.le_refl _) hn
    -- locked
    have new2 : ObjOk P w (upd H s.heap.objs.size (.frz (PySem.W.dictOf ([] ++ PySem.W.kwEs w.params s.toks (exV ex (us ++ ws))) (0 + (exV ex (us ++ ws)).length)) (.dK kvs))) h' s.heap.objs.size (.frz (PySem.W.dictOf ([] ++ PySem.W.kwEs w.params s.toks (exV ex (us ++ ws))) (0 + (exV ex (us ++ ws)).length)) (.dK kvs)) := ⟨D', new⟩
    have e2 := env0_new (tk := s.toks + (exV ex (us ++ ws)).length) e0 kp (Nat.le_refl _) hz new2
    have un2 : Un (frs outer) [] H (upd H s.heap.objs.size (.frz (PySem.W.dictOf ([] ++ PySem.W.kwEs w.params s.toks (exV ex (us ++ ws))) (0 + (exV ex (us ++ ws)).length)) (.dK kvs))) s.heap h' := Un.laid kp (Nat.le_refl _) hn
    have f := g.addI_frm (o := .frz (PySem.W.dictOf ([] ++ PySem.W.kwEs w.params s.toks (exV ex (us ++ ws))) (0 + (exV ex (us ++ ws)).length)) (.dK kvs)) hn
    have z := k _ _ (vbs ++ [V.ref s.heap.objs.size]) (bs ++ [Value.ref s.heap.objs.size]) e2 un2 rfl (fun e s' => StX.cxUp outer s H _ _ E e s' un2 kp rfl) (rb.append (.cons rfl .nil))
      (by rw [hps, List.length_append, List.length_append, hl]; rfl) ⟨_, g.addI hn (.inr (.inr (.inr (.inr ⟨_, _, rfl⟩)))), f, (rg.ext f.ext).append (.cons (by unfold Rep; exact ⟨_, _, kvs, rfl, upd_same, rk.ext f.ext⟩) .nil)⟩
    rw [hps, show (Tail.kw nm ex).nms = [nm] from rfl, List.zip_append hlb.symm] at z
    exact z
theorem arg_cb {K : PySem.W.Frag} {G : Gam} {cb : Cb} {f : Addr} {fd : FuncData} {dvs : List V} {ks : List Str} (F : FunD K cb.d.name cb.d.qual cb.d.params cb.d.body cb.d.scope dvs [] f fd) (hd : ∀ I, Reps K G I cb.d.dfl dvs) (hb : BindH cb ks)
    (hs : selB cb.sel (cb.n + ks.length) cb.d.dfl.length = true) (ht : tailB cb.tail cb.n = true) (hps : cb.ps = cb.ps.take cb.sel.length ++ cb.tail.nms ∧ cb.sel.length + cb.tail.len = cb.ps.length) : ArgX K G fd cb.ps ks cb.n (fun ds => pick cb.sel ds cb.d.dfl ++ tailD cb.tail cb.n ds) := by
  obtain ⟨oc, od, dV, kV, doc, pm, an, cdv, ct, osl, rfl, lk, hcd, hD, _⟩ := F.ex
  intro P w mg base A outer s H us ws vs ds I M E e0 hu hw r q g A' Ex Q k
  have kin : K.In s.heap := e0.mod.kin.keeps fun b o e => (e0.bs b o e).1
  have lv : vs.length = cb.n + ks.length := by rw [r.length, List.length_append, hu, hw]
  have ld : dvs.length = cb.d.dfl.length := (hd I).length
  have len : (pick cb.sel vs dvs).length = (cb.ps.take cb.sel.length).length := by
    rw [pick_length (by rw [lv, ld]; exact hs), List.length_take]
    omega
  rcases hD with ⟨e1, rfl⟩ | ⟨e1, T, o, its, m, rfl, lT, oT, rT⟩
  · subst e1
    have ez : cb.d.dfl = [] := List.length_eq_zero_iff.mp ld.symm
    have h := hb 0 kV doc pm an cdv ct us ws [] hu hw (by rw [ez]; rfl)
    rw [ez] at h
    rw [h]
    exact tail_ok e0 ht hu r q g (pick_vals r .nil) (pick_reps q (hd I)) len hps.1 k
  · have h := hb T kV doc pm an cdv ct us ws its hu hw (by rw [← rT.length, ld])
    cases ez : cb.d.dfl with
    | nil =>
      rw [ez] at ld
      exact absurd (List.length_eq_zero_iff.mp ld) e1
    | cons d0 dr =>
      rw [ez] at h
      obtain ⟨k0, h1, h2⟩ := h
      rw [h1]
      refine wpAny_bind (wpAny_seqItems (kin _ _ lT) oT ?_)
      rw [h2]
      have := tail_ok (A' := A') (Ex := Ex) e0 ht hu r q g (pick_vals r rT) (pick_reps q (hd I)) len hps.1 k
      exact this
end PyD
set_option Elab.async false
set_option linter.all false
set_option autoImplicit false
set_option maxRecDepth 100000
set_option maxHeartbeats 4000000
/-! # A def that gives iter(self.a.b..) -/
namespace PyD
open PySem PySem.Spec L2

/-- self.a.b.., the last field first -/
def chB (nm : Nat → Str) (x : Str) : List Nat → Expr → Bool
  | [], e => (match e with
    | .Name y _ => y == x
    | _ => false)
  | k :: r, e => (match e with
    | .Attribute e m _ => (m == nm k) && (plainBase e && chB nm x r e)
    | _ => false)
def tCh (K : PySem.W.Frag) (nm : Nat → Str) : List Nat → TE
  | [] => tVar 0
  | k :: r => tFld K (tCh K nm r) (nm k)
section
variable {X : Cx} {G : Gam} {B : Bs}
theorem pe_ch {x : Str} (hN : X.N[0]? = some x) (hv : Vis X.env.scope x) (h1 : (x == ("__debug__" : Str)) = false) (h2 : (x == ("__classdict__" : Str)) = false) : ∀ {p : List Nat} {e : Expr}, chB G.nm x p e = true → PE X e (tCh X.K G.nm p)
  | [], e, h => by
    unfold chB at h
    split at h
    · obtain rfl := beq_iff_eq.mp h
      exact pe_var hN hv h1 h2
    · cases h
  | k :: r, e, h => by
    unfold chB at h
    split at h
    · obtain ⟨q1, h⟩ := and2 h
      obtain ⟨q2, q3⟩ := and2 h
      obtain rfl := beq_iff_eq.mp q1
      exact pe_fld (pe_ch hN hv h1 h2 q3) (base_of q2)
    · cases h
theorem tCh_ok {K : PySem.W.Frag} (gok : GOk K G) {M : Mst} {I H : Hp} {σ : L2.St} {d : D} {x : V} (g : Good K G I M H) (h0 : σ[0]? = some (some x)) (r : Rep K G I d x) : ∀ {p : List Nat} {P : D → Prop} {Q : VK}, pathX G p d M P →
    (∀ e v, Rep K G I e v → P e → Q v H) → tCh K G.nm p σ H Q
  | [], P, Q, h, k => ⟨x, h0, k _ _ r h⟩
  | j :: t, P, Q, h, k => by
    unfold pathX at h
    unfold tCh
    refine tCh_ok gok g h0 r h fun e v re he => ?_
    obtain ⟨c, fs, hi, hf, y, hy, hP⟩ := instX_ok he
    obtain ⟨a, dx, vfs, rfl, a1, a2⟩ := instD_ok g re hi
    obtain ⟨u, b1, b2⟩ := a2.get hy
    obtain ⟨c1, c2⟩ := gok.fld c j hf
    exact ⟨a, _, dx, vfs, u, rfl, a1, c1, c2, b1, k _ _ b2 hP⟩
/-- iter(d), d a locked dict -/
def rIterD (n : Nat) : List V → Hp → VK → Prop := fun xs H Q => ∃ (d : Addr) (ob : Obj) (kvs : List (Key × V)), xs = [.ref d] ∧ H d = some (.frz ob (.dK kvs)) ∧ ∀ es ep it, ob.data = .dict es ep → H it = Option.none → n ≤ it → Q (.ref it) (upd H it (.ext fun h => h.IsKeyIter it d 0 kvs.length ep))
theorem call_iterD : CallR X (.builtin "iter") (rIterD X.s_0.heap.objs.size) := by
  intro pins s σ H xs us Q I r h
  obtain ⟨d, ob, kvs, rfl, hd, q⟩ := h
  obtain ⟨u, rfl, ru⟩ := r.one
  obtain rfl : u = Value.ref d := ru
  obtain ⟨hs, hgd, hx, es, ep, vs, hdt, hsz, kv, hm⟩ := I.frzK hd
  refine Calls.call_function_entry (by decide +kernel) (by decide +kernel) PySem.W.kdk_entry_iter (PySem.W.kdk_args_iter _) ?_
  unfold Builtin.«iter»
  refine wpAny_bind (m := someArgs "iter" 1 2 _) (wpAny_of_eq (a := [Value.ref d]) (by first | rfl | kernel_rfl!) ?_)
  show wpAny _ _ (pyIter (.ref d) >>= _) _ _ _
  refine wpAny_bind (iter_keys hs hgd hx hdt ?_)
  have e : (s.heap.push { cls := .type "dict_keyiterator", data := .fields #[.ref d, .int 0 0, .int es.size 0, .int ep 0] }).IsKeyIter s.heap.objs.size d 0 kvs.length ep := by
    rw [← hsz]
    exact ⟨_, Heap.get?_push_size _ rfl, rfl, rfl⟩
  refine wpAny_pure ⟨_, rfl, .ref s.heap.objs.size, _, I.laid (o := .ext fun h => h.IsKeyIter s.heap.objs.size d 0 kvs.length ep) (t' := s.toks) (fun b u e => Heap.get?_push_of_some _ e) (Nat.le_refl _) ?_, rfl, q es ep _ hdt (I.hok.fresh (Nat.le_refl _)) I.sz⟩
  exact ⟨e, ⟨_, Heap.get?_push_size _ rfl⟩, fun h1 h2 ⟨o, q1, q2⟩ k => ⟨o, k _ q1, q2⟩⟩
end
def retB (q : Expr → Bool) : List Stmt → Bool
  | [.Return (some (.Call (.Name i _) [e] [] _)) _] => (i == "iter") && q e
  | _ => false
theorem retB_ok {q : Expr → Bool} {b : List Stmt} (h : retB q b = true) : ∃ p1 e p2 p3, b = [.Return (some (.Call (.Name "iter" p1) [e] [] p2)) p3] ∧ q e = true := by
  unfold retB at h
  split at h
  · obtain ⟨h1, h2⟩ := and2 h
    obtain rfl := beq_iff_eq.mp h1
    exact ⟨_, _, _, _, rfl, h2⟩
  · cases h
def parB : Arguments → Bool
  | ⟨[], [⟨x, _, _⟩], none, [], [], none, []⟩ => x == "self"
  | _ => false
theorem parB_ok {a : Arguments} (h : parB a = true) : ∃ an p, a = ⟨[], [⟨"self", an, p⟩], none, [], [], none, []⟩ := by
  unfold parB at h
  split at h
  · obtain rfl := beq_iff_eq.mp h
    exact ⟨_, _, rfl⟩
  · cases h
/-- def __iter__(self): return iter(self.a.b..) -/
def itDf (nm : Nat → Str) (p : List Nat) (d : Df) : Bool := parB d.params && (scB ["self"] ["self"] d.scope && (d.dfl.isEmpty && ((d.scope.names.lookup ("iter" : Str) == some .globalImplicit) && retB (fun e => noStar e && chB nm "self" p e) d.body)))
section
variable {P : Program} {w : World} {K : PySem.W.Frag} {mg : Str → Option Value} {base : Heap} {G : Gam}
theorem itd_of (gg : GG K mg G) {d : Df} {f : Addr} {fd : FuncData} {dvs : List V} {p : List Nat} (F : FunD K d.name d.qual d.params d.body d.scope dvs [] f fd) (hd : ∀ I, Reps K G I d.dfl dvs) (h : itDf G.nm p d = true) : ItD P w K mg base G f p := by
  obtain ⟨at_, name, qual, params, body, scope, dfl⟩ := d
  unfold itDf at h
  dsimp only at h F hd
  obtain ⟨hpar, g1⟩ := and2 h
  obtain ⟨hs, g2⟩ := and2 g1
  obtain ⟨h0, g3⟩ := and2 g2
  obtain ⟨h3, g4⟩ := and2 g3
  obtain ⟨p1, e, p2, p3, rfl, g5⟩ := retB_ok g4
  obtain ⟨h5, h6⟩ := and2 g5
  obtain ⟨ann, xpos, rfl⟩ := parB_ok hpar
  have S := scB_ok hs
  obtain ⟨oc, od, dV, kV, doc, pm, an, cdv, ct, osl, hfd, lk, hcd, hD, _⟩ := F.ex
  subst hfd
  have ez : dfl = [] := List.isEmpty_iff.mp h0
  subst ez
  have ld : dvs = [] := List.length_eq_zero_iff.mp (hd (fun _ => none)).length
  have eV : dV = .none := by
    rcases hD with ⟨_, e⟩ | ⟨e, _⟩
    · exact e
    · exact absurd ld e
  subst eV
  refine ⟨fun A outer s H u xv dd M I R Q hr hg e0 rv g r hp k => ?_⟩
  have KX : K.In s.heap := e0.mod.kin.keeps fun b o e => (e0.bs b o e).1
  have lim : s.heap.NoLimit := e0.mod.nolimit.keeps fun b o e => (e0.bs b o e).1
  have kinds : ∀ y ∈ [("self" : Str)].zip [u], scope.names.lookup y.1 = some .local ∨ (scope.names.lookup y.1 = some .cell ∧ ((cellsFrom (s.heap.objs.size + 1) scope.names []).lookup y.1).isSome = true) := fun ⟨m, v⟩ hy => by
    rcases S.par m (List.of_mem_zip hy).1 with q | q
    · exact .inl q
    · exact .inr ⟨q, PySem.W.cellsFrom_some _ _ _ (.inl q)⟩
  refine codeAny_call_function hr.depth (KX _ _ lk) rfl S.co S.gen rfl (PySem.W.codeRec_of KX hcd) (wpAny_of_eq (a := [("self" : Str)].zip [u]) (by first | rfl | kernel_rfl!) ?_)
  refine wpAny_newFunctionEnv_cells S.kind kinds fun env he s1 xc => ?_
  subst he
  refine ⟨lim.keeps xc.toInCall.keep, codeAny_func ?_⟩
  have J : L2.Inv (cxOf (CX P w) P w K mg base ["self"] qual scope f cdv A outer s H fun _ _ _ => False) [] (L2.start ["self"] [xv]) H s1 := inv_start S hr.hd e0 rfl (.cons rv .nil) xc
  have vis : Vis (cxOf (CX P w) P w K mg base ["self"] qual scope f cdv A outer s H (fun _ _ _ => False)).env.scope "self" := by
    rcases S.par "self" (List.mem_singleton.mpr rfl) with q | q
    · exact .inl q
    · exact .inr (.inl q)
  have hx1 := pe_ch (X := cxOf (CX P w) P w K mg base ["self"] qual scope f cdv A outer s H (fun _ _ _ => False)) (G := G) (x := "self") rfl vis (by decide) (by decide) h6
  have hb : PSs (cxOf (CX P w) P w K mg base ["self"] qual scope f cdv A outer s H (fun _ _ _ => False)) [.Return (some (.Call (.Name "iter" p1) [e] [] p2)) p3] _ := pss_one (ps_ret (pe_callB call_iterD (show Gl _ _ from beq_iff_eq.mp h3) (gg.blt _ (by decide)) (by first | rfl | kernel_rfl) (pa_cons hx1 pa_nil (star_cons h5)) (by decide) (by decide) (star_cons h5) rfl))
  refine wpAny_mono (hb.run [] s1 (L2.start ["self"] [xv]) H { nx := fun _ H' => Q .non H', rt := Q } J (tCh_ok gg.ops.ok g rfl r hp fun e' v re he => ?_)) (fun fl s' hq => ?_) fun e s' hq => hq
  · obtain ⟨kds, rfl, hR⟩ := he
    unfold Rep at re
    obtain ⟨a, ob, kvs, rfl, ha, rk⟩ := re
    exact ⟨a, ob, kvs, rfl, g.sub _ _ ha, fun es ep it hdt hn hz => k it a ob kvs es ep kds hR rk ha hdt hn hz⟩
  · cases fl with
    | ret u' =>
      obtain ⟨v, σ', H', J', rv', q⟩ := hq
      exact ⟨v, H', J'.os, J'.bare, J'.base, J'.hok, rv', q⟩
    | next =>
      obtain ⟨σ', H', J', q⟩ := hq
      exact ⟨V.non, H', J'.os, J'.bare, J'.base, J'.hok, rfl, q⟩
    | brk =>
      obtain ⟨_, _, _, q⟩ := hq
      exact False.elim q
    | cont =>
      obtain ⟨_, _, _, q⟩ := hq
      exact False.elim q
/-- the defs __iter__ of the text -/
def itsB (T : Tb) (fn : List Df) : Bool := T.it.all fun q => match T.cls[q.1]? with
  | some x => fn.any fun d => decide (d.at_ = .meth x "__iter__") && itDf (nmAll T.nms) q.2 d
  | none => false
theorem its_ok {T : Tb} {hN : okN T.nms = true} {fn : List Df} (gg : GG K mg (gamOf T hN K)) (c : SaysP T fn K) (h : itsB T fn = true) (cc : Nat) (p : List Nat) (e : (gamOf T hN K).itf cc = some p) :
    Cls K ((gamOf T hN K).cl cc) ∧ Meth K ((gamOf T hN K).cl cc) "__iter__" ((gamOf T hN K).ita cc) ∧ ItD P w K mg base (gamOf T hN K) ((gamOf T hN K).ita cc) p := by
  obtain ⟨m, h1, h2⟩ := it_of c.tb e
  refine ⟨h1, h2, ?_⟩
  have z := List.all_eq_true.mp h _ m
  dsimp only at z
  split at z
  · rename_i x hx
    obtain ⟨d, hd, z⟩ := List.any_eq_true.mp z
    obtain ⟨z1, z2⟩ := and2 z
    obtain ⟨fd, vs, F, hr⟩ := c.df (G := gamOf T hN K) hd
    have ea : d.at_.ad K = (gamOf T hN K).ita cc := by
      rw [of_decide_eq_true z1]
      show He.ma K (He.ga K x) "__iter__" = He.ma K (clA T K cc) "__iter__"
      unfold clA
      rw [hx]
    rw [ea] at F
    exact itd_of gg F hr z2
  · cases z
end
end PyD
set_option Elab.async false
set_option linter.all false
set_option autoImplicit false
set_option maxRecDepth 100000
set_option maxHeartbeats 4000000
/-! # From bodies to calls -/
namespace PyD
open PySem PySem.Spec L2

/-- what a body does with the values of a call -/
def bodySp (G : Gam) (Γ : Nat → SpD) (cb : Cb) (ks : List Str) : SpD := fun ds M K E => ds.length = cb.n + ks.length ∧ semSs G Γ cb.body (startD cb.N (pick cb.sel ds cb.d.dfl ++ tailD cb.tail cb.n ds)) M { nx := fun _ M' => K .non M', rt := K, er := fun c fs _ M' => E c fs M' }
/-- only what stands below -/
def below (lv : Nat → Nat) (n : Nat) (Γ : Nat → SpD) : Nat → SpD := fun j => if lv j < n then Γ j else fun _ _ _ _ => False
/-- what is left to be shown of a callable -/
def SpecOk (G : Gam) (Γ : Nat → SpD) (lv : Nat → Nat) (i : Nat) (cb : Cb) : Prop := match cb.cl with
  | none => ∀ ds M K1 E1, Γ i ds M K1 E1 → bodySp G (below lv (lv i) Γ) cb (G.ks i) ds M K1 E1
  | some c => ∀ ds M K1 E1, Γ i ds M K1 E1 → ∀ a, M a = none → bodySp G (below lv (lv i) Γ) cb (G.ks i) (.loc a :: ds) (updM M a (.inst c [])) (fun d M' => d = .non ∧ ((∃ fs, M' a = some (.inst c fs) ∧ K1 (.obj c fs) (delM M' a)) ∨ K1 (.loc a) M')) E1
section
variable {P : Program} {w : World} {K : PySem.W.Frag} {mg : Str → Option Value} {base : Heap} {G : Gam} {Γ : Nat → SpD} {kx : Nat}
theorem fnd_cb (gg : GG K mg G) (iters : ∀ cc p, G.itf cc = some p → Cls K (G.cl cc) ∧ Meth K (G.cl cc) "__iter__" (G.ita cc) ∧ ItD P w K mg base G (G.ita cc) p) (calls : ∀ i ds M K1 E1, Γ i ds M K1 E1 → FnQ P w K mg base G kx (G.isC i) (.ref (G.adr i)) (G.ks i) (Γ i)) {cb : Cb} {f : Addr} {fd : FuncData} {dvs : List V} {ks : List Str}
    (F : FunD K cb.d.name cb.d.qual cb.d.params cb.d.body cb.d.scope dvs [] f fd) (hd : ∀ I, Reps K G I cb.d.dfl dvs) (hb : BindH cb ks) (hs : scB cb.N cb.ps cb.d.scope = true) (hc : chkSs G ⟨cb.N, cb.d.scope⟩ cb.body cb.d.body = true)
    (hsel : selB cb.sel (cb.n + ks.length) cb.d.dfl.length = true) (ht : tailB cb.tail cb.n = true) (hl : cb.ps = cb.ps.take cb.sel.length ++ cb.tail.nms ∧ cb.sel.length + cb.tail.len = cb.ps.length) : FnD P w K mg base G (kx + 7) (.ref f) ks (bodySp G Γ cb ks) := by
  have S := scB_ok hs
  refine fnd_ofX (k := kx + 6) F S (arg_cb F hd hb hsel ht hl) (fun ds M K1 E1 h => h.1) (fun cdv A outer s H E B hr hg => ?_) fun ds M K1 E1 h => h.2
  have c : Ctx (cxOf (CX P w) P w K mg base cb.N cb.d.qual cb.d.scope f cdv A outer s H E) G (fun cls dx _ H => E cls dx H) Γ kx := ⟨gg, calls, hr, hg, takes_cx, rfl, passes_cx, iters⟩
  exact semSs_ok c (s := ⟨cb.N, cb.d.scope⟩) ⟨⟨rfl, rfl, S.nd, S.kind⟩, fun y => .inl rfl⟩ cb.body hc
theorem all_ok {T : Tb} {hN : okN T.nms = true} {fn : List Df} {cbs : List Cb} {lv : Nat → Nat} (gg : GG K mg (gamOf T hN K)) (c : SaysP T fn K) (its : itsB T fn = true) (mem : ∀ cb ∈ cbs, cb.d ∈ fn) (chk : cbsB T (gamOf T hN K) cbs = true)
    (bind : ∀ i cb, cbs[i]? = some cb → BindH cb (ksA T i)) (no : ∀ i, cbs[i]? = none → ∀ ds M K1 E1, ¬ Γ i ds M K1 E1) (spec : ∀ i cb, cbs[i]? = some cb → SpecOk (gamOf T hN K) Γ lv i cb) :
    ∀ n i, lv i < n → ∀ ds M K1 E1, Γ i ds M K1 E1 → FnQ P w K mg base (gamOf T hN K) (8 * lv i + 8) ((gamOf T hN K).isC i) (.ref ((gamOf T hN K).adr i)) ((gamOf T hN K).ks i) (Γ i) := by
  intro n
  induction n with
  | zero => intro i h; omega
  | succ n ih =>
    intro i hi ds M K1 E1 hΓ
    cases e : cbs[i]? with
    | none => exact absurd hΓ (no i e _ _ _ _)
    | some cb =>
      have lt := (List.getElem?_eq_some_iff.mp e).1
      have q := List.all_eq_true.mp chk i (List.mem_range.mpr lt)
      rw [e] at q
      obtain ⟨q1, q⟩ := and2 q
      obtain ⟨q2, q⟩ := and2 q
      obtain ⟨q3, q⟩ := and2 q
      obtain ⟨q4, q⟩ := and2 q
      obtain ⟨q4, q5⟩ := and2 q4
      obtain ⟨fd, vs, F, hd⟩ := c.df (G := gamOf T hN K) (mem cb (List.mem_of_getElem? e))
      have calls : ∀ j ds M K1 E1, below lv (lv i) Γ j ds M K1 E1 → FnQ P w K mg base (gamOf T hN K) (8 * lv i) ((gamOf T hN K).isC j) (.ref ((gamOf T hN K).adr j)) ((gamOf T hN K).ks j) (below lv (lv i) Γ j) := by
        intro j ds M K1 E1 h
        unfold below at h ⊢
        by_cases lj : lv j < lv i
        · rw [if_pos lj] at h ⊢
          exact (ih j (by omega) _ _ _ _ h).mono (by omega)
        · rw [if_neg lj] at h
          exact h.elim
      have Fd := fnd_cb (P := P) (w := w) (base := base) gg (its_ok gg c its) calls F hd (bind i cb e) q1 q2 q4 q5 (of_decide_eq_true q3)
      have sp := spec i cb e
      unfold SpecOk at sp
      cases hcl : cb.cl with
      | none =>
        rw [hcl] at q sp
        obtain ⟨r1, r2⟩ := and2 q
        have ha : (gamOf T hN K).adr i = cb.d.at_.ad K := by
          show (match T.at_[i]? with
            | some a => a.ad K
            | none => 0) = _
          rw [of_decide_eq_true r1]
        have hc : (gamOf T hN K).isC i = false := not_of_not r2
        rw [ha, hc]
        exact (FnD.imp Fd sp).mono (by omega)
      | some cc =>
        rw [hcl] at q sp
        obtain ⟨r1, q⟩ := and2 q
        obtain ⟨r2, q⟩ := and2 q
        split at q
        · rename_i x hx
          obtain ⟨r3, r4⟩ := and2 q
          have hc : (gamOf T hN K).isC i = true := r1
          have hcl2 : (gamOf T hN K).cl cc = He.ga K x := by
            show clA T K cc = _
            unfold clA
            rw [hx]
          have ha : (gamOf T hN K).adr i = (gamOf T hN K).cl cc := by
            rw [hcl2]
            show (match T.at_[i]? with
              | some a => a.ad K
              | none => 0) = _
            rw [of_decide_eq_true r3]
            rfl
          have mk := mk_of c.tb (List.contains_iff_mem.mp r2)
          have hf : cb.d.at_.ad K = He.ma K (clA T K cc) "__init__" := by
            rw [of_decide_eq_true r4]
            show He.ma K (He.ga K x) "__init__" = _
            rw [← hcl2]
            rfl
          rw [hf] at Fd
          rw [hc]
          exact ⟨8 * lv i + 7, cc, _, _, rfl, by rw [ha], mk, Fd, sp⟩
        · cases q
end
/-- the law's def -/
theorem law_of {l : PySem.W.OpenLaw} {n m : Nat} {q : Program} {loose : List Str} {XP : (Str → Option Value) → Heap → Prop} {d : DefRec} {T : Tb} {hN : okN T.nms = true} {fn : List Df} {cbs : List Cb} {lv : Nat → Nat} {Γ : Nat → SpD} {i : Nat}
    (hn : l.most = some n) (hn2 : n ≤ sizeLine) (hdf : d.params.defaults = []) (hr : Room (8 * lv i + 8) callerA) (mem : ∀ cb ∈ cbs, cb.d ∈ fn) (chk : ∀ K, cbsB T (gamOf T hN K) cbs = true)
    (bind : ∀ i cb, cbs[i]? = some cb → BindH cb (ksA T i)) (no : ∀ i, cbs[i]? = none → ∀ ds M K1 E1, ¬ Γ i ds M K1 E1) (spec : ∀ K i cb, cbs[i]? = some cb → SpecOk (gamOf T hN K) Γ lv i cb)
    (hg : T.gn[i]? = some (some d.name)) (hk : ksA T i = []) (hc : T.isC.contains i = false)
    (law : ∀ ns : List Int, ns.length ≤ n → Γ i [.lst (ns.map D.int)] (fun _ => none) (fun d _ => d = .bl true) (fun _ _ _ => False)) (its : itsB T fn = true := by rfl) :
    PySem.W.WalkO q loose XP (hookP m T fn).says l.row.toRowW d [] (fun f vs => PySem.call f vs) := by
  refine walk_ofD (k := 8 * lv i + 8) hn hn2 hdf hr fun w mg fa h ⟨K, kin, c⟩ hns hmg => ?_
  have gg := gg_of (hN := hN) kin hns c.tb
  obtain ⟨hm, _, _⟩ := gg.gn i d.name (by
    show (match T.gn[i]? with
      | some o => o
      | none => none) = _
    rw [hg])
  rw [hmg] at hm
  injection hm with hm
  injection hm with hm
  refine ⟨K, gamOf T hN K, Γ i, kin, law, fun base _ _ => ?_⟩
  have F := all_ok (P := l.prog) (w := w) (base := base) (lv := lv) gg c its mem (chk K) bind no (spec K) (lv i + 1) i (by omega) _ _ _ _ (law [] (Nat.zero_le _))
  have hc' : (gamOf T hN K).isC i = false := hc
  have hk' : (gamOf T hN K).ks i = [] := hk
  rw [hc', hk', ← hm] at F
  exact F
end PyD
set_option Elab.async false
set_option linter.all false
set_option autoImplicit false
set_option maxRecDepth 100000
set_option maxHeartbeats 4000000
/-! # Steps through a meaning -/
namespace PyD
open PySem PySem.Spec L2
section
variable {P Q : Prop}
theorem brb_t (h : P) : brb true P Q := h
theorem brb_f (h : Q) : brb false P Q := h
theorem brb_not {b : Bool} (h : brb b Q P) : brb (!b) P Q := by cases b <;> exact h
theorem brb_dec {p : Prop} [Decidable p] (h1 : p → P) (h2 : ¬ p → Q) : brb (decide p) P Q := by
  by_cases h : p
  · rw [decide_eq_true h]; exact h1 h
  · rw [decide_eq_false h]; exact h2 h
theorem brb_eqI {i j : Int} (h1 : i = j → P) (h2 : i ≠ j → Q) : brb (i == j) P Q := by
  by_cases h : i = j
  · subst h; rw [beq_self_eq_true]; exact h1 rfl
  · rw [beq_eq_false_iff_ne.mpr h]; exact h2 h
theorem brb_neI {i j : Int} (h1 : i ≠ j → P) (h2 : i = j → Q) : brb (i != j) P Q := by
  by_cases h : i = j
  · subst h; rw [bne_self_eq_false]; exact h2 rfl
  · rw [bne_iff_ne.mpr h]; exact h1 h
theorem brb_eqS {i j : Str} (h1 : i = j → P) (h2 : i ≠ j → Q) : brb (i == j) P Q := by
  by_cases h : i = j
  · subst h; rw [beq_self_eq_true]; exact h1 rfl
  · rw [beq_eq_false_iff_ne.mpr h]; exact h2 h
theorem brb_i {b : Bool} (h1 : b = true → P) (h2 : b = false → Q) : brb b P Q := by
  cases b
  · exact h2 rfl
  · exact h1 rfl
theorem brb_and {a b : Bool} (h : brb a (brb b P Q) Q) : brb (a && b) P Q := by cases a <;> cases b <;> exact h
theorem brb_or {a b : Bool} (h : brb a P (brb b P Q)) : brb (a || b) P Q := by cases a <;> cases b <;> exact h
end
end PyD
set_option Elab.async false
set_option linter.all false
set_option autoImplicit false
set_option maxRecDepth 100000
set_option maxHeartbeats 4000000
set_option exponentiation.threshold 10000
/-! # The pens of the laws -/
namespace PyD
open PySem PySem.Spec L2
theorem le_d {a b : Nat} (h : Nat.ble a b = true) : a ≤ b := Nat.le_of_ble_eq_true h
theorem top_ints : ∀ cs : List Int, toPs (cs.map D.int) = some (cs.map PyData.int)
  | [] => by rfl
  | c :: cs => by
    show toPs (.int c :: cs.map D.int) = _
    unfold toPs
    rw [top_ints cs]
    rfl
theorem lay_ints : ∀ cs : List Int, PyData.canLayAll0 (cs.map PyData.int) = true ∧ PyData.depthAll (cs.map PyData.int) ≤ 1
  | [] => by simp [PyData.canLayAll0, PyData.depthAll]
  | c :: cs => by
    have := lay_ints cs
    simp only [List.map_cons, PyData.canLayAll0, PyData.canLay0, PyData.depthAll, PyData.depth, this, Bool.true_and]
    refine ⟨trivial, ?_⟩
    have := this.2
    omega
theorem shaped_ints (cs : List Int) : SeqAt.shaped (.list (cs.map PyData.int)) = true := by
  have := lay_ints cs
  unfold SeqAt.shaped
  rw [show (PyData.list (cs.map PyData.int)).canLay0 = true from by unfold PyData.canLay0; exact this.1, Bool.true_and]
  refine decide_eq_true ?_
  unfold PyData.depth
  have h2 := this.2
  omega
section
variable {G : Gam} {Γ : Nat → SpD}
theorem ne_ints {cs : List Int} {K : KB} {M : Mst} {E : ED} (h : K (!cs.isEmpty) M) : neC G Γ (.lst (cs.map D.int)) (.lst []) K M E := by
  show neP G Γ _ _ K M E
  unfold neP
  have e1 : toP (.lst (cs.map D.int)) = some (.list (cs.map PyData.int)) := by
    unfold toP
    rw [top_ints]
    rfl
  rw [e1, show toP (.lst []) = some (.list []) from rfl]
  refine ⟨shaped_ints cs, by decide, ?_⟩
  cases cs <;> exact h
/-- the pen, among what else there is -/
def Pen (M0 : Mst) (a : Addr) (n : Nat) (M : Mst) : Prop := M0 a = none ∧ ∃ (cs : List Int) (at_ g : Int), M = updM M0 a (.lst [.lst (cs.map D.int), .int at_, .int g]) ∧ 0 ≤ at_ ∧ at_ ≤ n ∧ 0 ≤ g
theorem Pen.up {M0 M : Mst} {a : Addr} {n m : Nat} (h : Pen M0 a n M) (l : n ≤ m) : Pen M0 a m M := by
  obtain ⟨h0, cs, p, g, e, h1, h2, h3⟩ := h
  exact ⟨h0, cs, p, g, e, h1, by omega, h3⟩
structure DrawK where
  k0 : Int
  k1 : Int
  p0 : Int
  k2 : Int
  k3 : Int
  p1 : Int
  k4 : Int
  k5 : Int
  k6 : Int
  p2 : Int
def drawHead (k : DrawK) (r : Ss) : Ss :=
    (.cons (.ite (.cmp .Gt (.sub (.var 0) (.con (.int 2))) (.con (.int 0)))
    (.cons (.asg 2 (.bin .Mod (.blt .int (.cons (.sub (.var 0) (.con (.int 2))) .nil)) (.var 1)))
    (.cons (.seti (.var 0) (.con (.int 2)) (.bin .FloorDiv (.blt .int (.cons (.sub (.var 0) (.con (.int 2))) .nil)) (.var 1)))
    (.cons (.ret (.var 2))
    .nil)))
    .nil)
    (.cons (.asg 3 (.sub (.var 0) (.con (.int 1))))
    (.cons (.seti (.var 0) (.con (.int 1)) (.bin .Add (.var 3) (.con (.int 1))))
    (.cons (.asg 4 (.bin .Add (.bin .Mult (.con (.int k.k0)) (.var 3)) (.con (.int k.k1))))
    (.cons (.ite (.cmp .NotEq (.sub (.var 0) (.con (.int 0))) (.lst .nil))
    (.cons (.asg 4 (.sub (.sub (.var 0) (.con (.int 0))) (.bin .Mod (.blt .int (.cons (.var 3) .nil)) (.blt .len (.cons (.sub (.var 0) (.con (.int 0))) .nil)))))
    .nil)
    .nil)
    (.cons (.ite (.and (.cmp .Lt (.var 3) (.blt .len (.cons (.sub (.var 0) (.con (.int 0))) .nil))) (.cmp .GtE (.blt .abs (.cons (.var 4) .nil)) (.bin .Pow (.con (.int 10)) (.con (.int 18)))))
    (.cons (.asg 5 (.bin .Add (.bin .Mult (.con (.int 2)) (.bin .Sub (.blt .abs (.cons (.var 4) .nil)) (.bin .Pow (.con (.int 10)) (.con (.int 18))))) (.blt .int (.cons (.cmp .Lt (.var 4) (.con (.int 0))) .nil))))
    (.cons (.seti (.var 0) (.con (.int 2)) (.bin .FloorDiv (.blt .int (.cons (.var 5) .nil)) (.var 1)))
    (.cons (.ret (.bin .Mod (.blt .int (.cons (.var 5) .nil)) (.var 1)))
    .nil)))
    .nil) r))))))
def mix1 (k : DrawK) : S := (.asg 6 (.bin .Mod (.blt .int (.cons (.bin .Pow (.bin .Add (.bin .Add (.bin .Mod (.blt .int (.cons (.var 4) .nil)) (.con (.int k.p0))) (.bin .Mult (.con (.int k.k2)) (.var 3))) (.con (.int k.k3))) (.con (.int 5))) .nil)) (.con (.int k.p1))))
/-- the draw of most laws -/
def drawA (k : DrawK) : Ss := drawHead k
    (.cons (mix1 k)
    (.cons (.asg 6 (.bin .Mod (.blt .int (.cons (.bin .Pow (.bin .Add (.bin .Add (.bin .Mult (.var 6) (.bin .Add (.bin .Mult (.con (.int 2)) (.var 3)) (.con (.int k.k4)))) (.bin .Mult (.bin .Mult (.con (.int k.k5)) (.var 3)) (.var 3))) (.con (.int k.k6))) (.con (.int 3))) .nil)) (.con (.int k.p2))))
    (.cons (.ret (.bin .Mod (.blt .int (.cons (.bin .FloorDiv (.var 6) (.con (.int 32))) .nil)) (.var 1)))
    .nil)))
/-- the constants of a draw -/
def DrawK.ok (k : DrawK) : Bool := decide (0 ≤ k.k0 ∧ k.k0 < 2 ^ 32 ∧ 0 < k.p0 ∧ k.p0 < 2 ^ 32 ∧ 0 ≤ k.k2 ∧ k.k2 < 2 ^ 32 ∧ 0 ≤ k.k3 ∧ k.k3 < 2 ^ 32 ∧ 0 < k.p1 ∧ k.p1 < 2 ^ 32 ∧ 0 ≤ k.k4 ∧ k.k4 < 2 ^ 20 ∧ 0 ≤ k.k5 ∧ k.k5 < 2 ^ 20 ∧ 0 ≤ k.k6 ∧ k.k6 < 2 ^ 32 ∧ 0 < k.p2)
theorem bd_nn {n : Nat} {i : Int} (h0 : 0 ≤ i) (h : i < (2 ^ n : Nat)) : Bd n i := by
  show i.natAbs < 2 ^ n
  omega
theorem fmod_lt {i m : Int} (h : 0 < m) : 0 ≤ i.fmod m ∧ i.fmod m < m := ⟨Int.fmod_nonneg_of_pos _ h, Int.fmod_lt_of_pos _ h⟩
theorem at_ints {cs : List Int} {i : Int} (f1 : 0 ≤ i) (f2 : i < (((cs.map D.int).length : Nat) : Int)) : ∃ z, atI (cs.map D.int) i = some (.int z) := by
  have l : i.toNat < cs.length := by rw [List.length_map] at f2; omega
  refine ⟨cs[i.toNat], ?_⟩
  unfold atI ixN
  rw [if_pos f1, if_pos f2]
  show (cs.map D.int)[i.toNat]? = _
  rw [List.getElem?_map, List.getElem?_eq_getElem l]
  rfl
variable {M0 M : Mst} {a : Addr} {n : Nat} {m : Int} {En : EndD}
theorem head_ok {k : DrawK} {r : Ss} (hk : k.ok = true) (hp : Pen M0 a n M) (hn : n < 2 ^ 19) (h0 : 0 < m) (hm : m < 2 ^ 200)
    (h : ∀ v M', 0 ≤ v → v < m → Pen M0 a (n + 1) M' → En.rt (.int v) M')
    (hr : ∀ (c at_ : Int) M', 0 ≤ at_ → at_ ≤ n → Pen M0 a (n + 1) M' → semSs G Γ r [some (.loc a), some (.int m), none, some (.int at_), some (.int c), none, none] M' En) :
    semSs G Γ (drawHead k r) [some (.loc a), some (.int m), none, none, none, none, none] M En := by
  obtain ⟨p0, cs, t, g, rfl, t1, t2, t3⟩ := hp
  have hk := of_decide_eq_true hk
  obtain ⟨c1, c2, c3, c4, c5, c6, c7, c8, c9, c10, c11, c12, c13, c14, c15, c16, c17⟩ := hk
  have dm : DivOk m := ⟨by omega, bd_nn (n := 8000) (by omega) (by
    have : (2 : Nat) ^ 40 < 2 ^ 8000 := Nat.pow_lt_pow_right (by omega) (by omega)
    omega)⟩
  refine ⟨_, updM_same, .int g, rfl, ?_⟩
  refine brb_dec (fun e => ?_) (fun e => ?_)
  · refine ⟨_, updM_same, .int g, rfl, by omega, ?_⟩
    refine ⟨_, updM_same, .int g, rfl, dm, _, _, updM_same, rfl, ?_⟩
    refine h _ _ (fmod_lt h0).1 (fmod_lt h0).2 ⟨p0, cs, t, g.fdiv m, updM_updM, t1, by omega, ?_⟩
    exact Int.fdiv_nonneg (by omega) (by omega)
  · refine ⟨_, updM_same, .int t, rfl, ?_⟩
    refine ⟨_, _, updM_same, rfl, ?_⟩
    rw [updM_updM]
    have rest : ∀ c : Int, semSs G Γ (.cons (.ite (.and (.cmp .Lt (.var 3) (.blt .len (.cons (.sub (.var 0) (.con (.int 0))) .nil))) (.cmp .GtE (.blt .abs (.cons (.var 4) .nil)) (.bin .Pow (.con (.int 10)) (.con (.int 18)))))
        (.cons (.asg 5 (.bin .Add (.bin .Mult (.con (.int 2)) (.bin .Sub (.blt .abs (.cons (.var 4) .nil)) (.bin .Pow (.con (.int 10)) (.con (.int 18))))) (.blt .int (.cons (.cmp .Lt (.var 4) (.con (.int 0))) .nil))))
        (.cons (.seti (.var 0) (.con (.int 2)) (.bin .FloorDiv (.blt .int (.cons (.var 5) .nil)) (.var 1)))
        (.cons (.ret (.bin .Mod (.blt .int (.cons (.var 5) .nil)) (.var 1)))
        .nil)))
        .nil) r) [some (.loc a), some (.int m), none, some (.int t), some (.int c), none, none] (updM M0 a (.lst [.lst (cs.map D.int), .int (t + 1), .int g])) En := by
      intro c
      have pen : Pen M0 a (n + 1) (updM M0 a (.lst [.lst (cs.map D.int), .int (t + 1), .int g])) := ⟨p0, cs, t + 1, g, rfl, by omega, by omega, t3⟩
      have two : Bd 64 (10 : Int) := show (10 : Nat) < 2 ^ 64 by decide
      have two2 : Bd 63 (2 : Int) := show (2 : Nat) < 2 ^ 63 by decide
      refine ⟨_, updM_same, .lst (cs.map D.int), rfl, ?_⟩
      refine brb_dec (fun e1 => ?_) (fun e1 => hr c t _ t1 t2 pen)
      refine ⟨⟨by decide, by decide, two⟩, ?_⟩
      refine brb_dec (fun e2 => ?_) (fun e2 => hr c t _ t1 t2 pen)
      refine ⟨⟨by decide, by decide, two⟩, .inl two2, ?_⟩
      refine ⟨dm, _, _, updM_same, rfl, ?_⟩
      rw [updM_updM]
      refine ⟨by omega, h _ _ (fmod_lt h0).1 (fmod_lt h0).2 ⟨p0, cs, t + 1, _, rfl, by omega, by omega, Int.fdiv_nonneg ?_ (by omega)⟩⟩
      have e3 : (10 : Int) ^ 18 ≤ if c < 0 then -c else c := e2
      split <;> omega
    refine ⟨.inr (.inr ⟨32, 20, ?_, ?_, by omega, by omega, by omega⟩), ?_⟩
    · exact bd_nn c1 c2
    · exact bd_nn t1 (by omega)
    refine ⟨_, updM_same, .lst (cs.map D.int), rfl, ?_⟩
    refine ⟨Nat.zero_le _, ?_⟩
    dsimp only [cmpD]
    refine ne_ints ?_
    cases cs with
    | nil => exact rest _
    | cons c cs =>
      refine ⟨_, updM_same, .lst ((c :: cs).map D.int), rfl, ?_⟩
      refine ⟨_, updM_same, .lst ((c :: cs).map D.int), rfl, ?_⟩
      have lp : (0 : Int) < ((((c :: cs).map D.int).length : Nat) : Int) := by simp
      refine ⟨by omega, ?_⟩
      obtain ⟨f1, f2⟩ := fmod_lt (i := t) lp
      have ex := at_ints f1 f2
      obtain ⟨z, hz⟩ := ex
      exact ⟨_, hz, rest z⟩
theorem drawA_ok {k : DrawK} (hk : k.ok = true) (hp : Pen M0 a n M) (hn : n < 2 ^ 19) (h0 : 0 < m) (hm : m < 2 ^ 200)
    (h : ∀ v M', 0 ≤ v → v < m → Pen M0 a (n + 1) M' → En.rt (.int v) M') :
    semSs G Γ (drawA k) [some (.loc a), some (.int m), none, none, none, none, none] M En := by
  refine head_ok hk hp hn h0 hm h fun c t M' t1 t2 pen => ?_
  have hk := of_decide_eq_true hk
  obtain ⟨c1, c2, c3, c4, c5, c6, c7, c8, c9, c10, c11, c12, c13, c14, c15, c16, c17⟩ := hk
  have tb : Bd 20 t := bd_nn t1 (by omega)
  obtain ⟨x1, x2⟩ := fmod_lt (i := c) c3
  have z1 : 0 ≤ k.k2 * t := Int.mul_nonneg c5 t1
  have z2 : k.k2 * t < 2 ^ 52 := by
    have : k.k2 * t ≤ 2 ^ 32 * 2 ^ 19 := Int.mul_le_mul (by omega) (by omega) t1 (by omega)
    omega
  refine ⟨by omega, .inr (.inr ⟨32, 20, bd_nn c5 c6, tb, by omega, by omega, by omega⟩), ?_⟩
  refine ⟨⟨by decide, by decide, bd_nn (n := 64) (by omega) (by omega)⟩, by omega, ?_⟩
  obtain ⟨y1, y2⟩ := fmod_lt (i := (c.fmod k.p0 + k.k2 * t + k.k3) ^ Int.toNat 5) c9
  have w1 : 0 ≤ ((c.fmod k.p0 + k.k2 * t + k.k3) ^ Int.toNat 5).fmod k.p1 * (2 * t + k.k4) := Int.mul_nonneg y1 (by omega)
  have w2 : ((c.fmod k.p0 + k.k2 * t + k.k3) ^ Int.toNat 5).fmod k.p1 * (2 * t + k.k4) ≤ 2 ^ 32 * 2 ^ 21 := Int.mul_le_mul (by omega) (by omega) (by omega) (by omega)
  have v1 : 0 ≤ k.k5 * t := Int.mul_nonneg c13 t1
  have v2 : k.k5 * t ≤ 2 ^ 20 * 2 ^ 19 := Int.mul_le_mul (by omega) (by omega) t1 (by omega)
  have v3 : 0 ≤ k.k5 * t * t := Int.mul_nonneg v1 t1
  have v4 : k.k5 * t * t ≤ 2 ^ 39 * 2 ^ 19 := Int.mul_le_mul (by omega) (by omega) t1 (by omega)
  have two2 : Bd 63 (2 : Int) := show (2 : Nat) < 2 ^ 63 by decide
  refine ⟨.inl two2, .inl (bd_nn y1 (by omega)), .inl (bd_nn c13 (by omega)), .inl (bd_nn v1 (by omega)), ⟨by decide, by decide, bd_nn (n := 64) (by omega) (by omega)⟩, by omega, ?_⟩
  refine ⟨⟨by decide, show (32 : Nat) < 2 ^ 8000 from Nat.lt_of_lt_of_le (by decide : 32 < 2 ^ 6) (Nat.pow_le_pow_right (by omega) (by omega))⟩, by omega, ?_⟩
  exact h _ _ (fmod_lt h0).1 (fmod_lt h0).2 pen
end
end PyD
set_option Elab.async false
set_option linter.all false
set_option autoImplicit false
set_option maxRecDepth 100000
set_option maxHeartbeats 4000000
set_option exponentiation.threshold 10000
/-! # The bags of the laws -/
namespace PyD
open PySem PySem.Spec L2
structure BagK where
  c : Int
  m : Int
  d : Int
def BagK.ok (k : BagK) : Bool := decide (0 ≤ k.c ∧ k.c < 2 ^ 20 ∧ 0 ≤ k.m ∧ k.m < 2 ^ 32 ∧ 0 ≤ k.d ∧ k.d < 2 ^ 20)
def bagBody (k : BagK) : Ss :=
    (.cons (.asg 2 (.blt .abs (.cons (.sub (.sub (.var 0) (.con (.str "cells"))) (.sub (.var 0) (.con (.str "at")))) .nil)))
    (.cons (.seti (.var 0) (.con (.str "at")) (.bin .Add (.sub (.var 0) (.con (.str "at"))) (.con (.int 1))))
    (.cons (.ite (.cmp .Lt (.var 2) (.bin .Pow (.con (.int 10)) (.con (.int 18))))
    (.cons (.asg 3 (.bin .Mod (.blt .int (.cons (.bin .Add (.bin .Pow (.bin .Add (.var 2) (.con (.int k.c))) (.con (.int 3))) (.bin .Mult (.sub (.var 0) (.con (.str "state"))) (.bin .Add (.sub (.var 0) (.con (.str "at"))) (.con (.int 1))))) .nil)) (.con (.int 2147483629))))
    (.cons (.ret (.bin .Mod (.var 3) (.var 1)))
    .nil))
    .nil)
    (.cons (.seti (.var 0) (.con (.str "rest")) (.var 2))
    .nil))))
def bagTail (k : BagK) : Ss :=
    (.cons (.ite (.cmp .GtE (.sub (.var 0) (.con (.str "rest"))) (.con (.int 2)))
    (.cons (.asg 4 (.bin .Mod (.blt .int (.cons (.sub (.var 0) (.con (.str "rest"))) .nil)) (.var 1)))
    (.cons (.seti (.var 0) (.con (.str "rest")) (.bin .FloorDiv (.sub (.var 0) (.con (.str "rest"))) (.var 1)))
    (.cons (.ret (.var 4))
    .nil)))
    .nil)
    (.cons (.seti (.var 0) (.con (.str "state")) (.bin .Mod (.blt .int (.cons (.bin .Add (.bin .Mult (.sub (.var 0) (.con (.str "state"))) (.con (.int k.m))) (.con (.int k.d))) .nil)) (.con (.int 2147483647))))
    (.cons (.ret (.bin .Mod (.bin .Mod (.blt .int (.cons (.bin .Pow (.sub (.var 0) (.con (.str "state"))) (.con (.int 5))) .nil)) (.con (.int 2147483629))) (.var 1)))
    .nil)))
def bagDraw (k : BagK) : Ss :=
    (.cons (.whl (.and (.cmp .Lt (.sub (.var 0) (.con (.str "rest"))) (.con (.int 2))) (.cmp .Lt (.sub (.var 0) (.con (.str "at"))) (.blt .len (.cons (.sub (.var 0) (.con (.str "cells"))) .nil)))) (bagBody k)) (bagTail k))
def bagL (ns : List Int) (i r s : Int) : List (Key × D) := [(.inr "cells", .lst (ns.map D.int)), (.inr "at", .int i), (.inr "rest", .int r), (.inr "state", .int s)]
/-- the bag that draws, beside another store -/
def Bag (M0 : Mst) (a : Addr) (M : Mst) : Prop := M0 a = none ∧ ∃ (ns : List Int) (i : Nat) (r s : Int), M = updM M0 a (.dct (bagL ns i r s)) ∧ i ≤ ns.length ∧ 0 ≤ r ∧ 0 ≤ s ∧ s < 2 ^ 31
section
variable {G : Gam} {Γ : Nat → SpD} {M0 M : Mst} {a : Addr} {m : Int} {En : EndD}
theorem bagTail_ok {k : BagK} (hk : k.ok = true) {ns : List Int} {i : Nat} {r s : Int} {x y : Option D} (p0 : M0 a = none) (hi : i ≤ ns.length) (hr : 0 ≤ r) (s0 : 0 ≤ s) (s1 : s < 2 ^ 31) (h0 : 0 < m) (hm : m < 2 ^ 40)
    (h : ∀ v M', 0 ≤ v → v < m → Bag M0 a M' → En.rt (.int v) M') : semSs G Γ (bagTail k) [some (.loc a), some (.int m), x, y, none] (updM M0 a (.dct (bagL ns i r s))) En := by
  obtain ⟨c1, c2, c3, c4, c5, c6⟩ := of_decide_eq_true hk
  have dm : DivOk m := ⟨by omega, bd_nn (n := 8000) (by omega) (by
    have : (2 : Nat) ^ 40 < 2 ^ 8000 := Nat.pow_lt_pow_right (by omega) (by omega)
    omega)⟩
  refine ⟨_, .int r, .inl updM_same, rfl, ?_⟩
  refine brb_dec (fun e => ?_) (fun e => ?_)
  · refine ⟨_, .int r, .inl updM_same, rfl, by omega, ?_⟩
    refine ⟨_, .int r, .inl updM_same, rfl, dm, _, updM_same, (show (4 : Nat) ≤ 1000000 by decide), ?_⟩
    rw [updM_updM]
    exact h _ _ (fmod_lt h0).1 (fmod_lt h0).2 ⟨p0, ns, i, r.fdiv m, s, rfl, hi, Int.fdiv_nonneg (by omega) (by omega), s0, s1⟩
  · obtain ⟨f1, f2⟩ := fmod_lt (i := s * k.m + k.d) (m := 2147483647) (by omega)
    refine ⟨_, .int s, .inl updM_same, rfl, .inl (bd_nn s0 (by omega)), by omega, _, updM_same, (show (4 : Nat) ≤ 1000000 by decide), ?_⟩
    rw [updM_updM]
    refine ⟨_, .int ((s * k.m + k.d).fmod 2147483647), .inl updM_same, rfl, ⟨by decide, by decide, bd_nn (n := 64) f1 (by omega)⟩, by omega, by omega, ?_⟩
    exact h _ _ (fmod_lt h0).1 (fmod_lt h0).2 ⟨p0, ns, i, r, _, rfl, hi, hr, f1, by omega⟩
theorem bagDraw_ok {k : BagK} (hk : k.ok = true) (hp : Bag M0 a M) (h0 : 0 < m) (hm : m < 2 ^ 40)
    (h : ∀ v M', 0 ≤ v → v < m → Bag M0 a M' → En.rt (.int v) M') :
    semSs G Γ (bagDraw k) [some (.loc a), some (.int m), none, none, none] M En := by
  obtain ⟨p0, ns, i, r, s, rfl, hi, hr, s0, s1⟩ := hp
  refine ⟨2, ?_⟩
  refine ⟨_, .int r, .inl updM_same, rfl, ?_⟩
  refine brb_dec (fun e1 => ?_) (fun e1 => bagTail_ok hk p0 hi hr s0 s1 h0 hm h)
  refine ⟨_, .int i, .inl updM_same, rfl, ?_⟩
  refine ⟨_, .lst (ns.map D.int), .inl updM_same, rfl, ?_⟩
  refine brb_dec (fun e2 => ?_) (fun e2 => bagTail_ok hk p0 hi hr s0 s1 h0 hm h)
  have two : Bd 64 (10 : Int) := show (10 : Nat) < 2 ^ 64 by decide
  obtain ⟨c1, c2, c3, c4, c5, c6⟩ := of_decide_eq_true hk
  obtain ⟨z, hz⟩ := at_ints (cs := ns) (i := (i : Int)) (by omega) e2
  have e2' : i < ns.length := by rw [List.length_map] at e2; omega
  refine ⟨_, .lst (ns.map D.int), .inl updM_same, rfl, _, .int i, .inl updM_same, rfl, _, hz, ?_⟩
  refine ⟨_, .int i, .inl updM_same, rfl, _, updM_same, (show (4 : Nat) ≤ 1000000 by decide), ?_⟩
  rw [updM_updM]
  refine ⟨⟨by decide, by decide, two⟩, ?_⟩
  have cz : (0 : Int) ≤ if z < 0 then -z else z := by split <;> omega
  refine brb_dec (fun e3 => ?_) (fun e3 => ?_)
  · have e3 : (if z < 0 then -z else z) < (10 : Int) ^ 18 := e3
    refine ⟨⟨by decide, by decide, bd_nn (n := 64) (by omega) (by omega)⟩, _, .int s, .inl updM_same, rfl, _, .int ((i : Int) + 1), .inl updM_same, rfl, .inl (bd_nn s0 (by omega)), by omega, by omega, ?_⟩
    exact h _ _ (fmod_lt h0).1 (fmod_lt h0).2 ⟨p0, ns, i + 1, r, s, rfl, e2', hr, s0, s1⟩
  · have e3 : ¬ (if z < 0 then -z else z) < (10 : Int) ^ 18 := e3
    refine ⟨_, updM_same, (show (4 : Nat) ≤ 1000000 by decide), ?_⟩
    rw [updM_updM]
    refine ⟨_, .int (if z < 0 then -z else z), .inl updM_same, rfl, ?_⟩
    refine brb_dec (fun e4 => ?_) (fun e4 => ?_)
    · have : (if z < 0 then -z else z) < 2 := e4
      omega
    · exact bagTail_ok (i := i + 1) hk p0 e2' cz s0 s1 h0 hm h
end
theorem Bag.ne {M0 M : Mst} {a b : Addr} (h : Bag M0 a M) (hb : M b = none) : b ≠ a := by
  obtain ⟨_, ns, i, r, s, rfl, _⟩ := h
  rintro rfl
  rw [updM_same] at hb
  cases hb
theorem Bag.base {M0 M : Mst} {a b : Addr} (h : Bag M0 a M) (hb : M b = none) : M0 b = none := by
  have ne := h.ne hb
  obtain ⟨_, ns, i, r, s, rfl, _⟩ := h
  rw [updM_ne ne] at hb
  exact hb
theorem Bag.add {M0 M : Mst} {a b : Addr} {o : MO} (h : Bag M0 a M) (ne : b ≠ a) : Bag (updM M0 b o) a (updM M b o) := by
  obtain ⟨h0, ns, i, r, s, rfl, h1⟩ := h
  exact ⟨by rw [updM_ne (Ne.symm ne)]; exact h0, ns, i, r, s, updM_comm (Ne.symm ne), h1⟩
theorem Bag.at_ {M0 M : Mst} {a b : Addr} {o : MO} (h : Bag (updM M0 b o) a M) (ne : b ≠ a) : M b = some o := by
  obtain ⟨h0, ns, i, r, s, rfl, h1⟩ := h
  rw [updM_ne ne, updM_same]
theorem Bag.put {M0 M : Mst} {a b : Addr} {o o' : MO} (h : Bag (updM M0 b o) a M) (ne : b ≠ a) : Bag (updM M0 b o') a (updM M b o') := by
  have z := h.add (b := b) (o := o') ne
  rw [updM_updM] at z
  exact z
theorem Bag.del {M0 M : Mst} {a b : Addr} {o : MO} (h : Bag (updM M0 b o) a M) (ne : b ≠ a) (hb : M0 b = none) : Bag M0 a (delM M b) := by
  obtain ⟨h0, ns, i, r, s, rfl, h1⟩ := h
  rw [updM_ne (Ne.symm ne)] at h0
  refine ⟨h0, ns, i, r, s, ?_, h1⟩
  rw [← updM_comm (Ne.symm ne), delM_updM]
  rw [updM_ne ne]
  exact hb
end PyD
set_option Elab.async false
set_option linter.all false
set_option autoImplicit false
set_option maxRecDepth 100000
set_option maxHeartbeats 4000000
set_option exponentiation.threshold 10000
/-! # What can be shown -/
namespace PyD
open PySem PySem.Spec L2
def leaf : PyData → Prop
  | .none => True
  | .bool _ => True
  | .int i => i.natAbs < 2 ^ 250
  | _ => False
def leaves : List PyData → Prop
  | [] => True
  | x :: xs => leaf x ∧ leaves xs
theorem log_of {n k : Nat} (h : n < 2 ^ k) (hk : 0 < k) : n.log2 < k := by
  by_cases e : n = 0
  · subst e; exact hk
  · exact (Nat.log2_lt e).mpr h
theorem leaf_ok {x : PyData} (h : leaf x) : PyData.showable x = true ∧ PyData.hasDict x = false ∧ PyData.depth x = 0 ∧ PyData.leavesShort 260 x = true ∧ PyData.weight x ≤ 260 := by
  cases x with
  | none => exact ⟨rfl, rfl, rfl, rfl, le_d rfl⟩
  | bool b => exact ⟨rfl, rfl, rfl, rfl, le_d rfl⟩
  | int i =>
    have h : i.natAbs < 2 ^ 250 := h
    have l := log_of h (by omega)
    have s := int_text_length_le (by omega : 0 < 250) l
    refine ⟨decide_eq_true (by omega), rfl, rfl, decide_eq_true ?_, ?_⟩
    · show (Str.ofString (toString i)).length ≤ 260
      rw [PySem.ofString_length]
      omega
    · show (if i == 0 then 0 else i.natAbs.log2 + 1) ≤ 260
      split <;> omega
  | _ => exact h.elim
theorem leaves_ok : ∀ {xs : List PyData}, leaves xs → PyData.showableAll xs = true ∧ PyData.hasDictAll xs = false ∧ PyData.depthAll xs = 0 ∧ PyData.leavesShortAll 260 xs = true ∧ PyData.weightAll xs ≤ 261 * xs.length
  | [], _ => by simp [PyData.showableAll, PyData.hasDictAll, PyData.depthAll, PyData.leavesShortAll, PyData.weightAll]
  | x :: xs, h => by
    obtain ⟨a1, a2, a3, a4, a5⟩ := leaf_ok h.1
    obtain ⟨b1, b2, b3, b4, b5⟩ := leaves_ok h.2
    refine ⟨?_, ?_, ?_, ?_, ?_⟩
    · unfold PyData.showableAll; rw [a1, b1]; rfl
    · unfold PyData.hasDictAll; rw [a2, b2]; rfl
    · unfold PyData.depthAll; rw [a3, b3]; rfl
    · unfold PyData.leavesShortAll; rw [a4, b4]; rfl
    · unfold PyData.weightAll; rw [List.length_cons]; omega
theorem repr_go {xs : List PyData} (h : leaves xs) (hl : xs.length ≤ 14) : PyData.showable (.list xs) = true ∧ PyData.depth (.list xs) ≤ 50 ∧ PyData.hasDict (.list xs) = false ∧ (PyData.shown (.list xs)).length ≤ 1000000 := by
  obtain ⟨b1, b2, b3, b4, b5⟩ := leaves_ok h
  have s := PyData.shown_le 260 (by omega) (.list xs) b4
  refine ⟨b1, ?_, b2, ?_⟩
  · show PyData.depthAll xs + 1 ≤ 50
    omega
  · have : PyData.weight (.list xs) ≤ 261 * 14 := by
      show PyData.weightAll xs ≤ _
      omega
    omega
end PyD
set_option Elab.async false
set_option linter.all false
set_option autoImplicit false
set_option maxRecDepth 100000
set_option maxHeartbeats 4000000
/-! # Kinds and their counts; comprehensions that only look -/
namespace PyD
open PySem PySem.Spec L2

section
variable {g : D → Slots → Option Slots} {te tc tk tv : TD} {ρ : Slots} {M : Mst}
theorem lcL_map {f : D → D} : ∀ {ds acc : List D} {K : List D → Mst → Prop}, (∀ d, d ∈ ds → ∃ ρ1, g d ρ = some ρ1 ∧ ∀ K, K (f d) M → te ρ1 M K noErr) → K (acc ++ ds.map f) M → lcL g none te ρ ds acc M K
  | [], acc, K, _, h => by rw [List.map_nil, List.append_nil] at h; exact h
  | d :: ds, acc, K, hd, h => by
    obtain ⟨ρ1, e, ht⟩ := hd d List.mem_cons_self
    refine ⟨ρ1, e, ht _ (lcL_map (f := f) (fun x hx => hd x (List.mem_cons_of_mem _ hx)) ?_)⟩
    rw [List.append_assoc]
    exact h
theorem lcL_filter {f : D → D} {p : D → Bool} : ∀ {ds acc : List D} {K : List D → Mst → Prop}, (∀ d, d ∈ ds → ∃ ρ1, g d ρ = some ρ1 ∧ (∀ K, K (.bl (p d)) M → tc ρ1 M K noErr) ∧ (p d = true → ∀ K, K (f d) M → te ρ1 M K noErr)) → K (acc ++ (ds.filter p).map f) M → lcL g (some tc) te ρ ds acc M K
  | [], acc, K, _, h => by rw [List.filter_nil, List.map_nil, List.append_nil] at h; exact h
  | d :: ds, acc, K, hd, h => by
    obtain ⟨ρ1, e, hc, ht⟩ := hd d List.mem_cons_self
    have rest := fun x hx => hd x (List.mem_cons_of_mem d hx)
    refine ⟨ρ1, e, hc _ ?_⟩
    by_cases z : p d = true
    · rw [List.filter_cons_of_pos z] at h
      rw [z]
      refine ht z _ (lcL_filter (f := f) (p := p) rest ?_)
      rw [List.append_assoc]
      exact h
    · rw [List.filter_cons_of_neg z] at h
      rw [Bool.not_eq_true] at z
      rw [z]
      exact lcL_filter (f := f) (p := p) rest h
def putAll (ps : List (Key × D)) (acc : List (Key × D)) : List (Key × D) := ps.foldl (fun a p => putKD p.1 p.2 a) acc
theorem dcL_filter {fk : D → Key} {f : D → D} {p : D → Bool} : ∀ {ds : List D} {acc : List (Key × D)} {K : List (Key × D) → Mst → Prop}, (∀ d, d ∈ ds → ∃ ρ1, g d ρ = some ρ1 ∧ (∀ K, K (.bl (p d)) M → tc ρ1 M K noErr) ∧ (p d = true → (∀ K, K (kD (fk d)) M → tk ρ1 M K noErr) ∧ ∀ K, K (f d) M → tv ρ1 M K noErr)) → K (putAll ((ds.filter p).map fun d => (fk d, f d)) acc) M → dcL g (some tc) tk tv ρ ds acc M K
  | [], acc, K, _, h => h
  | d :: ds, acc, K, hd, h => by
    obtain ⟨ρ1, e, hc, ht⟩ := hd d List.mem_cons_self
    have rest := fun x hx => hd x (List.mem_cons_of_mem d hx)
    refine ⟨ρ1, e, hc _ ?_⟩
    by_cases z : p d = true
    · rw [List.filter_cons_of_pos z] at h
      rw [z]
      obtain ⟨h1, h2⟩ := ht z
      refine h1 _ ⟨fk d, by cases fk d <;> rfl, h2 _ (dcL_filter (fk := fk) (f := f) (p := p) rest h)⟩
    · rw [List.filter_cons_of_neg z] at h
      rw [Bool.not_eq_true] at z
      rw [z]
      exact dcL_filter (fk := fk) (f := f) (p := p) rest h
end
/-! ## rows -/
abbrev Row := List (Str × Nat)
def ks (q : Row) : List Str := q.map (·.1)
def rowsD (q : Row) : List (Key × D) := q.map fun p => (Sum.inr p.1, D.int p.2)
def dctQ (q : Row) : D := .dct (rowsD q)
def cnt (q : Row) (k : Str) : Nat := ((q.find? fun p => decide (p.1 = k)).map (·.2)).getD 0
def putR (k : Str) (v : Nat) (q : Row) : Row := if (q.any fun p => decide (p.1 = k)) = true then q.map (fun p => if p.1 = k then (p.1, v) else p) else q ++ [(k, v)]
theorem cnt_nil (k : Str) : cnt [] k = 0 := rfl
theorem cnt_cons (p : Str × Nat) (q : Row) (k : Str) : cnt (p :: q) k = if p.1 = k then p.2 else cnt q k := by
  unfold cnt
  rw [List.find?_cons]
  by_cases h : p.1 = k
  · simp [h]
  · simp [h]
theorem valD_rows : ∀ (q : Row) (k : Str), valD (rowsD q) (.inr k) = if k ∈ ks q then some (.int (cnt q k)) else none
  | [], k => rfl
  | p :: q, k => by
    have ih := valD_rows q k
    unfold valD rowsD at ih ⊢
    rw [List.map_cons, List.find?_cons, cnt_cons]
    by_cases h : p.1 = k
    · simp [h, ks]
    · have h2 : (Sum.inr p.1 : Key) ≠ Sum.inr k := fun z => h (Sum.inr.inj z)
      have h3 : k ∈ ks (p :: q) ↔ k ∈ ks q := by simp [ks, Ne.symm h]
      simp only [h2, decide_false]
      rw [ih]
      simp only [h3, h, if_false]
theorem cnt_zero {q : Row} {k : Str} (h : k ∉ ks q) : cnt q k = 0 := by
  induction q with
  | nil => rfl
  | cons p q ih =>
    rw [cnt_cons]
    have h1 : p.1 ≠ k := fun z => h (by simp [ks, z])
    have h2 : k ∉ ks q := fun z => h (by simp [ks] at z ⊢; exact .inr z)
    rw [if_neg h1, ih h2]
theorem cnt_mem {q : Row} (nd : (ks q).Nodup) {p : Str × Nat} (h : p ∈ q) : cnt q p.1 = p.2 := by
  induction q with
  | nil => cases h
  | cons r q ih =>
    rw [cnt_cons]
    have nd' : (r.1 :: ks q).Nodup := nd
    obtain ⟨n1, n2⟩ := List.nodup_cons.mp nd'
    rcases List.mem_cons.mp h with rfl | h
    · rw [if_pos rfl]
    · have : r.1 ≠ p.1 := fun z => n1 (by rw [z]; exact List.mem_map_of_mem h)
      rw [if_neg this, ih n2 h]
theorem get_rows {q : Row} {k : Str} {ρ : Slots} {M : Mst} {K : KD} {E : ED} (h : K (.int (cnt q k)) M) : getX (dctQ q) (.str k) (.int 0) ρ M K E := by
  refine ⟨.inr k, rfl, ?_⟩
  rw [valD_rows]
  by_cases z : k ∈ ks q
  · rw [if_pos z]; exact h
  · rw [if_neg z]
    rw [cnt_zero z] at h
    exact h
theorem get_go {q : Row} {k : Str} {P : D → Prop} (h : P (.int (cnt q k))) : match valD (rowsD q) (.inr k) with
    | some e => P e
    | none => P (.int 0) := by
  rw [valD_rows]
  by_cases z : k ∈ ks q
  · rw [if_pos z]; exact h
  · rw [if_neg z]
    rw [cnt_zero z] at h
    exact h
theorem val_rows {q : Row} {k : Str} (z : k ∈ ks q) : valD (rowsD q) (.inr k) = some (.int (cnt q k)) := by rw [valD_rows, if_pos z]
theorem keys_rows (q : Row) : ((rowsD q).map fun p => kD p.1) = (ks q).map D.str := by
  unfold rowsD ks
  rw [List.map_map, List.map_map]
  rfl
theorem put_rows (k : Str) (v : Nat) (q : Row) : putKD (.inr k) (.int v) (rowsD q) = rowsD (putR k v q) := by
  unfold putKD putR rowsD
  have e : (List.map (fun p : Str × Nat => ((Sum.inr p.1 : Key), D.int p.2)) q).any (fun kv => decide (kv.1 = Sum.inr k)) = q.any fun p => decide (p.1 = k) := by
    rw [List.any_map]
    congr 1
    funext p
    simp
  rw [e]
  split
  · rw [List.map_map, List.map_map]
    congr 1
    funext p
    simp only [Function.comp]
    by_cases h : p.1 = k
    · simp [h]
    · have : (Sum.inr p.1 : Key) ≠ Sum.inr k := fun z => h (Sum.inr.inj z)
      simp [h, this]
  · rw [List.map_append]
    rfl
theorem cnt_app (q r : Row) (j : Str) : cnt (q ++ r) j = if j ∈ ks q then cnt q j else cnt r j := by
  induction q with
  | nil => simp [ks]
  | cons p q ih =>
    rw [List.cons_append, cnt_cons, cnt_cons, ih]
    by_cases h : p.1 = j
    · simp [h, ks]
    · have h3 : j ∈ ks (p :: q) ↔ j ∈ ks q := by simp [ks, Ne.symm h]
      simp only [h, h3, if_false]
theorem cnt_putR (k : Str) (v : Nat) (q : Row) (j : Str) : cnt (putR k v q) j = if j = k then v else cnt q j := by
  unfold putR
  split
  · rename_i h
    induction q with
    | nil => cases h
    | cons p q ih =>
      rw [List.map_cons, cnt_cons, cnt_cons]
      rw [List.any_cons, Bool.or_eq_true] at h
      by_cases hp : p.1 = k
      · simp only [hp, if_true]
        by_cases hj : j = k
        · subst hj; simp
        · simp only [hj, Ne.symm hj, if_false]
          by_cases hq : (q.any fun p => decide (p.1 = k)) = true
          · rw [ih hq, if_neg hj]
          · clear ih h
            have : ∀ r : Row, cnt (r.map fun p => if p.1 = k then (p.1, v) else p) j = cnt r j := by
              intro r
              induction r with
              | nil => rfl
              | cons x r ih =>
                rw [List.map_cons, cnt_cons, cnt_cons, ih]
                by_cases hx : x.1 = k
                · have hxj : x.1 ≠ j := fun z => hj (z.symm.trans hx)
                  have hkj : k ≠ j := Ne.symm hj
                  simp [hx, hkj]
                · simp [hx]
            exact this q
      · simp only [hp, if_false]
        rcases h with h | h
        · exact absurd (of_decide_eq_true h) hp
        · rw [ih h]
          by_cases hj : j = k
          · subst hj; simp [hp]
          · simp [hj]
  · rename_i h
    have nk : k ∉ ks q := fun z => h (by
      obtain ⟨p, hp, e⟩ := List.mem_map.mp z
      exact List.any_eq_true.mpr ⟨p, hp, decide_eq_true e⟩)
    rw [cnt_app]
    by_cases hj : j = k
    · subst hj
      rw [if_neg nk, if_pos rfl, cnt_cons, if_pos rfl]
    · rw [if_neg hj]
      by_cases z : j ∈ ks q
      · rw [if_pos z]
      · rw [if_neg z, cnt_zero z, cnt_cons, if_neg (fun z => hj z.symm)]
        rfl
theorem ks_putR (k : Str) (v : Nat) (q : Row) : ks (putR k v q) = if k ∈ ks q then ks q else ks q ++ [k] := by
  have e : (q.any fun p => decide (p.1 = k)) = true ↔ k ∈ ks q := by
    rw [List.any_eq_true]
    constructor
    · rintro ⟨p, h1, h2⟩
      exact List.mem_map.mpr ⟨p, h1, of_decide_eq_true h2⟩
    · intro h
      obtain ⟨p, h1, h2⟩ := List.mem_map.mp h
      exact ⟨p, h1, decide_eq_true h2⟩
  unfold putR
  by_cases h : k ∈ ks q
  · rw [if_pos (e.mpr h), if_pos h]
    unfold ks
    rw [List.map_map]
    congr 1
    funext p
    simp only [Function.comp]
    split <;> rfl
  · rw [if_neg (fun z => h (e.mp z)), if_neg h]
    unfold ks
    rw [List.map_append]
    rfl
theorem nodup_putR {k : Str} {v : Nat} {q : Row} (h : (ks q).Nodup) : (ks (putR k v q)).Nodup := by
  rw [ks_putR]
  split
  · exact h
  · rename_i n
    rw [List.nodup_append]
    refine ⟨h, by simp, fun a ha b hb => ?_⟩
    rw [List.mem_singleton] at hb
    subst hb
    exact fun z => n (z ▸ ha)
theorem len_rows (q : Row) : (rowsD q).length = q.length := by unfold rowsD; rw [List.length_map]
theorem len_putR (k : Str) (v : Nat) (q : Row) : (putR k v q).length ≤ q.length + 1 := by
  unfold putR
  split <;> simp
theorem mem_putR {k : Str} {v : Nat} {q : Row} {j : Str} (h : j ∈ ks (putR k v q)) : j ∈ ks q ∨ j = k := by
  rw [ks_putR] at h
  split at h
  · exact .inl h
  · rcases List.mem_append.mp h with h | h
    · exact .inl h
    · exact .inr (List.mem_singleton.mp h)
theorem sub_len {α : Type} [BEq α] [LawfulBEq α] : ∀ {a b : List α}, a.Nodup → (∀ x, x ∈ a → x ∈ b) → a.length ≤ b.length
  | [], b, _, _ => Nat.zero_le _
  | x :: a, b, nd, h => by
    obtain ⟨n1, n2⟩ := List.nodup_cons.mp nd
    have hx := h x List.mem_cons_self
    have ih := sub_len (b := b.erase x) n2 fun y hy => (List.mem_erase_of_ne (fun z => n1 (by rw [← z]; exact hy))).mpr (h y (List.mem_cons_of_mem _ hy))
    rw [List.length_erase_of_mem hx] at ih
    have : 0 < b.length := List.length_pos_of_mem hx
    rw [List.length_cons]
    omega
theorem sub_back {α : Type} [BEq α] [LawfulBEq α] {a b : List α} (na : a.Nodup) (h : ∀ x, x ∈ a → x ∈ b) (l : b.length ≤ a.length) : ∀ x, x ∈ b → x ∈ a := by
  intro x hx
  by_cases z : x ∈ a
  · exact z
  · have := sub_len (a := x :: a) (b := b) (List.nodup_cons.mpr ⟨z, na⟩) fun y hy => by
      rcases List.mem_cons.mp hy with rfl | hy
      · exact hx
      · exact h y hy
    rw [List.length_cons] at this
    omega
/-- sums by kind -/
def sumOf (ps : Row) (k : Str) : Nat := ((ps.filter fun p => decide (p.1 = k)).map (·.2)).sum
theorem sumOf_cons (p : Str × Nat) (ps : Row) (k : Str) : sumOf (p :: ps) k = (if p.1 = k then p.2 else 0) + sumOf ps k := by
  unfold sumOf
  rw [List.filter_cons]
  by_cases h : p.1 = k
  · simp [h]
  · simp [h]
theorem sumOf_app (ps rs : Row) (k : Str) : sumOf (ps ++ rs) k = sumOf ps k + sumOf rs k := by
  unfold sumOf
  rw [List.filter_append, List.map_append, List.sum_append]
theorem sumOf_nodup {q : Row} (nd : (ks q).Nodup) (k : Str) : sumOf q k = cnt q k := by
  induction q with
  | nil => rfl
  | cons p q ih =>
    have nd' : (p.1 :: ks q).Nodup := nd
    obtain ⟨n1, n2⟩ := List.nodup_cons.mp nd'
    rw [sumOf_cons, cnt_cons, ih n2]
    by_cases h : p.1 = k
    · subst h
      rw [if_pos rfl, if_pos rfl, cnt_zero n1]
      omega
    · rw [if_neg h, if_neg h]
      omega
/-- equal as dicts: equal counts -/
theorem eqI_rows {q r : Row} (hq : (ks q).Nodup) (hr : (ks r).Nodup) (pq : ∀ p, p ∈ q → 0 < p.2) (pr : ∀ p, p ∈ r → 0 < p.2) :
    eqI (q.map fun p => ((Sum.inr p.1 : Key), (p.2 : Int))) (r.map fun p => ((Sum.inr p.1 : Key), (p.2 : Int))) = true ↔ ∀ k, cnt q k = cnt r k := by
  have val : ∀ (r : Row) (k : Str) (v : Nat), valI (r.map fun p => ((Sum.inr p.1 : Key), (p.2 : Int))) (.inr k) = some (v : Int) ↔ k ∈ ks r ∧ cnt r k = v := by
    intro r k v
    induction r with
    | nil => simp [valI, ks]
    | cons p r ih =>
      unfold valI at ih ⊢
      rw [List.map_cons, List.find?_cons, cnt_cons]
      by_cases h : p.1 = k
      · simp [h, ks]
        omega
      · have h2 : (Sum.inr p.1 : Key) ≠ Sum.inr k := fun z => h (Sum.inr.inj z)
        have h3 : k ∈ ks (p :: r) ↔ k ∈ ks r := by simp [ks, Ne.symm h]
        simp only [h2, decide_false]
        rw [ih, h3, if_neg h]
  have pos : ∀ {q : Row}, (ks q).Nodup → (∀ p, p ∈ q → 0 < p.2) → ∀ k, k ∈ ks q ↔ 0 < cnt q k := by
    intro q nd hp k
    constructor
    · intro h
      obtain ⟨p, h1, rfl⟩ := List.mem_map.mp h
      rw [cnt_mem nd h1]
      exact hp p h1
    · intro h
      by_cases z : k ∈ ks q
      · exact z
      · rw [cnt_zero z] at h
        omega
  unfold eqI
  rw [Bool.and_eq_true, beq_iff_eq, List.length_map, List.length_map, List.all_eq_true]
  constructor
  · rintro ⟨hl, ha⟩ k
    have inc : ∀ p, p ∈ q → p.1 ∈ ks r ∧ cnt r p.1 = p.2 := fun p hp => by
      have := ha (.inr p.1, (p.2 : Int)) (List.mem_map.mpr ⟨p, hp, rfl⟩)
      exact (val r p.1 p.2).mp (beq_iff_eq.mp this)
    by_cases z : k ∈ ks q
    · obtain ⟨p, h1, rfl⟩ := List.mem_map.mp z
      rw [cnt_mem hq h1, (inc p h1).2]
    · have z2 : k ∉ ks r := fun y => z (sub_back hq (fun x hx => by
        obtain ⟨p, h1, rfl⟩ := List.mem_map.mp hx
        exact (inc p h1).1) (by unfold ks; rw [List.length_map, List.length_map]; omega) k y)
      rw [cnt_zero z, cnt_zero z2]
  · intro h
    have e : ∀ k, k ∈ ks q ↔ k ∈ ks r := fun k => by rw [pos hq pq, pos hr pr, h]
    refine ⟨?_, fun x hx => ?_⟩
    · have h1 := sub_len hq fun k hk => (e k).mp hk
      have h2 := sub_len hr fun k hk => (e k).mpr hk
      unfold ks at h1 h2
      rw [List.length_map, List.length_map] at h1 h2
      omega
    · obtain ⟨p, h1, rfl⟩ := List.mem_map.mp hx
      refine beq_iff_eq.mpr ((val r p.1 p.2).mpr ⟨(e p.1).mp (List.mem_map_of_mem h1), ?_⟩)
      rw [← h, cnt_mem hq h1]
theorem pos_iff {q : Row} (nd : (ks q).Nodup) (hp : ∀ p, p ∈ q → 0 < p.2) (k : Str) : k ∈ ks q ↔ 0 < cnt q k := by
  constructor
  · intro h
    obtain ⟨p, h1, rfl⟩ := List.mem_map.mp h
    rw [cnt_mem nd h1]
    exact hp p h1
  · intro h
    by_cases z : k ∈ ks q
    · exact z
    · rw [cnt_zero z] at h
      omega
/-! ## texts in order -/
theorem leC_trans : ∀ {a b c : List Nat}, ltCps b a = false → ltCps c b = false → ltCps c a = false
  | [], [], [], _, _ => rfl
  | [], [], _ :: _, _, _ => rfl
  | [], _ :: _, [], _, h => by simp [ltCps] at h
  | [], _ :: _, _ :: _, _, _ => rfl
  | _ :: _, [], _, h, _ => by simp [ltCps] at h
  | _ :: _, _ :: _, [], _, h => by simp [ltCps] at h
  | x :: a, y :: b, z :: c, h1, h2 => by
    simp only [ltCps, Bool.or_eq_false_iff, Bool.and_eq_false_iff, decide_eq_false_iff_not, beq_eq_false_iff_ne] at h1 h2 ⊢
    obtain ⟨p1, q1⟩ := h1
    obtain ⟨p2, q2⟩ := h2
    refine ⟨by omega, ?_⟩
    by_cases e : z = x
    · right
      have e1 : y = x := by omega
      have e2 : z = y := by omega
      rcases q1 with q1 | q1
      · exact absurd e1 q1
      · rcases q2 with q2 | q2
        · exact absurd e2 q2
        · exact leC_trans q1 q2
    · exact .inl e
theorem leC_anti : ∀ {a b : List Nat}, ltCps b a = false → ltCps a b = false → a = b
  | [], [], _, _ => rfl
  | [], _ :: _, _, h => by simp [ltCps] at h
  | _ :: _, [], h, _ => by simp [ltCps] at h
  | x :: a, y :: b, h1, h2 => by
    simp only [ltCps, Bool.or_eq_false_iff, Bool.and_eq_false_iff, decide_eq_false_iff_not, beq_eq_false_iff_ne] at h1 h2
    have e : x = y := by omega
    subst e
    rcases h1.2 with q1 | q1
    · exact absurd rfl q1
    · rcases h2.2 with q2 | q2
      · exact absurd rfl q2
      · rw [leC_anti q1 q2]
def leS (a b : Str) : Prop := ltCps b.cps.toList a.cps.toList = false
theorem rising_pair : ∀ {p : Str} {l : List Str}, PyProof.Rows.risingS p l = true → (p :: l).Pairwise leS
  | p, [], _ => List.pairwise_singleton ..
  | p, x :: r, h => by
    have h' : (!ltCps x.cps.toList p.cps.toList && PyProof.Rows.risingS x r) = true := h
    obtain ⟨h1, h2⟩ := Bool.and_eq_true_iff.mp h'
    have ih := rising_pair h2
    have px : leS p x := by unfold leS; simpa using h1
    refine List.pairwise_cons.mpr ⟨fun y hy => ?_, ih⟩
    rcases List.mem_cons.mp hy with rfl | hy
    · exact px
    · exact leC_trans px (List.rel_of_pairwise_cons ih hy)
theorem sorted_pair {l : List Str} (h : PyProof.Rows.sortedS l = true) : l.Pairwise leS := by
  cases l with
  | nil => exact .nil
  | cons x r => exact rising_pair h
theorem sorted_filter {l : List Str} (h : PyProof.Rows.sortedS l = true) (p : Str → Bool) : PyProof.Rows.sortedS (l.filter p) = true :=
  PyProof.Rows.sortedS_of_pairwise _ ((sorted_pair h).filter p)
/-! ## dicts written down -/
theorem putKD_fresh {k : Key} {d : D} {kds : List (Key × D)} (h : ∀ p, p ∈ kds → p.1 ≠ k) : putKD k d kds = kds ++ [(k, d)] := by
  unfold putKD
  rw [if_neg]
  intro z
  obtain ⟨p, h1, h2⟩ := List.any_eq_true.mp z
  exact h p h1 (of_decide_eq_true h2)
theorem putAll_fresh : ∀ (ps acc : List (Key × D)), ((acc ++ ps).map (·.1)).Nodup → putAll ps acc = acc ++ ps
  | [], acc, _ => by rw [List.append_nil]; rfl
  | p :: ps, acc, h => by
    have fr : ∀ x, x ∈ acc → x.1 ≠ p.1 := by
      intro x hx
      rw [List.map_append, List.map_cons, List.nodup_append] at h
      exact h.2.2 x.1 (List.mem_map_of_mem hx) p.1 List.mem_cons_self
    show putAll ps (putKD p.1 p.2 acc) = _
    rw [putKD_fresh fr, putAll_fresh ps (acc ++ [(p.1, p.2)]) (by simpa using h)]
    simp
theorem keys_inr (q : Row) : (rowsD q).map (·.1) = (ks q).map Sum.inr := by
  unfold rowsD ks
  rw [List.map_map, List.map_map]
  rfl
theorem nodup_map {α β : Type} {f : α → β} (hf : ∀ a b, f a = f b → a = b) : ∀ {l : List α}, l.Nodup → (l.map f).Nodup
  | [], _ => List.nodup_nil
  | a :: l, h => by
    obtain ⟨h1, h2⟩ := List.nodup_cons.mp h
    rw [List.map_cons]
    refine List.nodup_cons.mpr ⟨fun z => ?_, nodup_map hf h2⟩
    obtain ⟨b, hb, e⟩ := List.mem_map.mp z
    rw [← hf _ _ e] at h1
    exact h1 hb
theorem putAll_rows {q : Row} (h : (ks q).Nodup) : putAll (rowsD q) [] = rowsD q := by
  rw [putAll_fresh (rowsD q) [] (by
    rw [List.nil_append, keys_inr]
    exact nodup_map (fun a b e => Sum.inr.inj e) h), List.nil_append]
theorem frzS_dct {i : Nat} {ρ : Slots} {M : Mst} {a : Addr} {kds : List (Key × D)} {En : EndD} (hi : ρ[i]? = some (some (.loc a))) (hm : M a = some (.dct kds)) (h : En.nx (ρ.set i (some (.dct kds))) (delM M a)) : frzS i ρ M En := by
  unfold frzS
  rw [hi]
  show frzD (.loc a) ρ M _ _
  unfold frzD
  dsimp only
  rw [hm]
  exact h
theorem frz_go {G : Gam} {Γ : Nat → SpD} {i : Nat} {r : Ss} {ρ : Slots} {M : Mst} {a : Addr} {kds : List (Key × D)} {En : EndD} (hi : ρ[i]? = some (some (.loc a))) (hm : M a = some (.dct kds)) (h : semSs G Γ r (ρ.set i (some (.dct kds))) (delM M a) En) : semSs G Γ (.cons (.frz i) r) ρ M En := by
  unfold semSs
  unfold semS
  exact frzS_dct hi hm h
theorem frzD_dct {ρ : Slots} {M : Mst} {a : Addr} {kds : List (Key × D)} {K : KD} {E : ED} (hm : M a = some (.dct kds)) (h : K (.dct kds) (delM M a)) : frzD (.loc a) ρ M K E := by
  unfold frzD
  dsimp only
  rw [hm]
  exact h
def mergeR (q r : Row) : Row := r.foldl (fun acc p => putR p.1 p.2 acc) q
theorem merge_rows : ∀ (r q : Row), mergeKD (rowsD q) (rowsD r) = rowsD (mergeR q r)
  | [], q => rfl
  | p :: r, q => by
    show mergeKD (putKD (.inr p.1) (.int p.2) (rowsD q)) (rowsD r) = rowsD (mergeR (putR p.1 p.2 q) r)
    rw [put_rows, merge_rows r]
theorem merge_nil {q : Row} (h : (ks q).Nodup) : mergeKD [] (rowsD q) = rowsD q := putAll_rows h
theorem ks_merge : ∀ (r q : Row), (ks q).Nodup → (ks (mergeR q r)).Nodup ∧ (∀ k, k ∈ ks (mergeR q r) ↔ k ∈ ks q ∨ k ∈ ks r) ∧ (mergeR q r).length ≤ q.length + r.length
  | [], q, h => ⟨h, fun k => by simp [mergeR, ks], Nat.le_refl _⟩
  | p :: r, q, h => by
    obtain ⟨h1, h2, h3⟩ := ks_merge r (putR p.1 p.2 q) (nodup_putR h)
    refine ⟨h1, fun k => ?_, ?_⟩
    · show k ∈ ks (mergeR (putR p.1 p.2 q) r) ↔ _
      rw [h2, ks_putR]
      have e : k ∈ ks (p :: r) ↔ k = p.1 ∨ k ∈ ks r := by simp [ks]
      rw [e]
      split
      · rename_i m
        constructor
        · rintro (z | z)
          · exact .inl z
          · exact .inr (.inr z)
        · rintro (z | rfl | z)
          · exact .inl z
          · exact .inl m
          · exact .inr z
      · rw [List.mem_append, List.mem_singleton, or_assoc]
    · have := len_putR p.1 p.2 q
      show (mergeR (putR p.1 p.2 q) r).length ≤ _
      rw [List.length_cons]
      omega
/-- a row by a function -/
def mkP (ys : List Str) (f : Str → Nat) : Row := ys.map fun k => (k, f k)
theorem ks_mkP (ys : List Str) (f : Str → Nat) : ks (mkP ys f) = ys := by
  unfold ks mkP
  rw [List.map_map]
  exact List.map_id' _
theorem cnt_mkP {f : Str → Nat} : ∀ (zs : List Str) (k : Str), cnt (mkP zs f) k = if k ∈ zs then f k else 0
  | [], k => rfl
  | z :: zs, k => by
    show cnt ((z, f z) :: mkP zs f) k = _
    rw [cnt_cons, cnt_mkP zs k]
    by_cases h : z = k
    · subst h; simp
    · have : k ∈ z :: zs ↔ k ∈ zs := by simp [Ne.symm h]
      simp only [h, this, if_false]
theorem sum_mkP {f : Str → Nat} {ys : List Str} (nd : ys.Nodup) (k : Str) : sumOf (mkP ys f) k = if k ∈ ys then f k else 0 := by
  rw [sumOf_nodup (by rw [ks_mkP]; exact nd), cnt_mkP]
theorem len_ks (q : Row) : (ks q).length = q.length := by unfold ks; rw [List.length_map]
/-! ## the pen beside another thing that changes -/
theorem Pen.ne {M0 M : Mst} {a b : Addr} {n : Nat} (h : Pen M0 a n M) (hb : M b = none) : b ≠ a := by
  obtain ⟨_, cs, p, g, rfl, _⟩ := h
  rintro rfl
  rw [updM_same] at hb
  cases hb
theorem Pen.base {M0 M : Mst} {a b : Addr} {n : Nat} (h : Pen M0 a n M) (hb : M b = none) : M0 b = none := by
  have ne := h.ne hb
  obtain ⟨_, cs, p, g, rfl, _⟩ := h
  rw [updM_ne ne] at hb
  exact hb
theorem Pen.add {M0 M : Mst} {a b : Addr} {n : Nat} {o : MO} (h : Pen M0 a n M) (ne : b ≠ a) : Pen (updM M0 b o) a n (updM M b o) := by
  obtain ⟨h0, cs, p, g, rfl, h1⟩ := h
  exact ⟨by rw [updM_ne (Ne.symm ne)]; exact h0, cs, p, g, updM_comm (Ne.symm ne), h1⟩
theorem Pen.at_ {M0 M : Mst} {a b : Addr} {n : Nat} {o : MO} (h : Pen (updM M0 b o) a n M) (ne : b ≠ a) : M b = some o := by
  obtain ⟨h0, cs, p, g, rfl, h1⟩ := h
  rw [updM_ne ne, updM_same]
theorem Pen.put {M0 M : Mst} {a b : Addr} {n : Nat} {o o' : MO} (h : Pen (updM M0 b o) a n M) (ne : b ≠ a) : Pen (updM M0 b o') a n (updM M b o') := by
  have z := h.add (b := b) (o := o') ne
  rw [updM_updM] at z
  exact z
theorem Pen.del {M0 M : Mst} {a b : Addr} {n : Nat} {o : MO} (h : Pen (updM M0 b o) a n M) (ne : b ≠ a) (hb : M0 b = none) : Pen M0 a n (delM M b) := by
  obtain ⟨h0, cs, p, g, rfl, h1⟩ := h
  rw [updM_ne (Ne.symm ne)] at h0
  refine ⟨h0, cs, p, g, ?_, h1⟩
  rw [← updM_comm (Ne.symm ne), delM_updM]
  rw [updM_ne ne]
  exact hb
theorem val_putR {k : Str} {v : Nat} {q : Row} {p : Str × Nat} (h : p ∈ putR k v q) : p ∈ q ∨ p = (k, v) := by
  unfold putR at h
  split at h
  · obtain ⟨x, hx, e⟩ := List.mem_map.mp h
    split at e
    · rename_i z
      subst z
      exact .inr e.symm
    · subst e
      exact .inl hx
  · rcases List.mem_append.mp h with h | h
    · exact .inl h
    · exact .inr (List.mem_singleton.mp h)
end PyD
set_option Elab.async false
set_option linter.all false
set_option autoImplicit false
set_option maxRecDepth 100000
set_option maxHeartbeats 4000000
set_option exponentiation.threshold 10000
/-! # Texts of numbers, of kinds and counts -/
namespace PyD
open PySem PySem.Spec L2 TL
/-- a number's text -/
def natS (n : Nat) : Str := Str.ofString (toString (n : Int))
theorem tl_natS (n : Nat) : tl (natS n) = numL n := tl_num n
theorem len_natS (n : Nat) : (natS n).length = (numL n).length := by rw [len_tl, tl_natS]
theorem natS_pos (n : Nat) : 1 ≤ (natS n).length := by
  rw [len_natS]
  have := numL_ne n
  have := List.length_pos_iff.mpr this
  omega
theorem natS_len {n k : Nat} (hk : 0 < k) (h : n < 10 ^ k) : (natS n).length ≤ k := by rw [len_natS]; exact numL_len hk h
theorem natS_inj {m n : Nat} (h : natS m = natS n) : m = n := numL_inj (by rw [← tl_natS, h, tl_natS])
theorem int_natS {n : Nat} (h : (natS n).length ≤ 4300) : intText? (natS n) = some (n : Int) := int_num (by rw [← len_natS]; exact h)
theorem log_nat {n k : Nat} (h : n < 2 ^ k) (hk : 0 < k) : ((n : Int)).natAbs.log2 < k := by
  rw [Int.natAbs_natCast]
  exact log_of h hk
/-- the first figure is no 0 -/
theorem numL_head : ∀ n : Nat, 0 < n → ∃ c r, numL n = c :: r ∧ 49 ≤ c := by
  intro n
  induction n using Nat.strongRecOn with
  | _ n ih =>
    intro h
    by_cases l : n < 10
    · exact ⟨48 + n, [], numL_lt l, by omega⟩
    · obtain ⟨c, r, e, hc⟩ := ih (n / 10) (by omega) (by omega)
      refine ⟨c, r ++ [48 + n % 10], ?_, hc⟩
      rw [numL_step (by omega), e]
      rfl
theorem charsD_tl (x : Str) : charsD x = (tl x).map fun c => D.str ⟨#[c]⟩ := by
  unfold charsD tl
  rfl
theorem len_app (x y : Str) : (x ++ y).length = x.length + y.length := by
  rw [len_tl, len_tl, len_tl, tl_append, List.length_append]
theorem str_ext {x y : Str} (h : tl x = tl y) : x = y := map_tl_inj (l := [x]) (m := [y]) (by simp [h]) |> fun e => by injection e
theorem empty_app (x : Str) : Str.empty ++ x = x := str_ext (by rw [tl_append]; rfl)
theorem app_assoc (x y z : Str) : x ++ y ++ z = x ++ (y ++ z) := str_ext (by simp only [tl_append, List.append_assoc])
/-- the words of a row -/
def wordsQ (q : Row) : List Str := q.flatMap fun p => [p.1, natS p.2]
/-- its text -/
def txtQ (q : Row) : Str := if q = [] then "-" else Txt.join " " (q.map fun p => p.1 ++ " " ++ natS p.2)
theorem wordsQ_len : ∀ q : Row, (wordsQ q).length = 2 * q.length
  | [] => rfl
  | p :: q => by
    have := wordsQ_len q
    unfold wordsQ at this ⊢
    rw [List.flatMap_cons, List.length_append, this, List.length_cons]
    show 2 + 2 * q.length = 2 * (q.length + 1)
    omega
theorem wordsQ_cons (p : Str × Nat) (q : Row) : wordsQ (p :: q) = p.1 :: natS p.2 :: wordsQ q := rfl
theorem wordsQ_app (q r : Row) : wordsQ (q ++ r) = wordsQ q ++ wordsQ r := by
  unfold wordsQ
  rw [List.flatMap_append]
theorem sp_tl : tl (" " : Str) = [32] := by decide +kernel
/-- joined pairs are joined words -/
theorem join_words : ∀ {q : Row}, q ≠ [] → Txt.join " " (q.map fun p => p.1 ++ " " ++ natS p.2) = Txt.join " " (wordsQ q)
  | [], h => absurd rfl h
  | [p], _ => by
    rw [join_eq, join_eq]
    rfl
  | p :: r :: q, _ => by
    have ih := join_words (q := r :: q) (by simp)
    rw [join_eq, join_eq] at ih ⊢
    show (p.1 ++ " " ++ natS p.2) ++ " " ++ Str.join " " ((r :: q).map fun p => p.1 ++ " " ++ natS p.2) = p.1 ++ " " ++ (natS p.2 ++ " " ++ Str.join " " (wordsQ (r :: q)))
    rw [ih]
    simp only [app_assoc]
theorem txt_words {q : Row} (h : q ≠ []) : txtQ q = Txt.join " " (wordsQ q) := by
  unfold txtQ
  rw [if_neg h, join_words h]
theorem natS_free {n s : Nat} (h : s < 48 ∨ 57 < s) : s ∉ tl (natS n) := by rw [tl_natS]; exact numL_free h
/-- a joined text, split -/
theorem split_words {ws : List Str} (h : ws ≠ []) (hp : ∀ w ∈ ws, 32 ∉ tl w) : Txt.split (Txt.join " " ws) " " = ws :=
  split_join (y := " ") (s := 32) (S := []) sp_tl (by decide +kernel) h hp
theorem join_cons2 (x y : Str) (r : List Str) : Txt.join " " (x :: y :: r) = x ++ " " ++ Txt.join " " (y :: r) := by
  rw [join_eq, join_eq]; rfl
theorem join_app : ∀ {xs ys : List Str}, xs ≠ [] → ys ≠ [] → Txt.join " " (xs ++ ys) = Txt.join " " xs ++ " " ++ Txt.join " " ys
  | [], _, h, _ => absurd rfl h
  | [x], y :: ys, _, _ => by
    rw [join_eq, join_eq, join_eq]; rfl
  | [_], [], _, h => absurd rfl h
  | x :: z :: xs, ys, _, h => by
    have ih := join_app (xs := z :: xs) (ys := ys) (by simp) h
    show Txt.join " " (x :: z :: (xs ++ ys)) = _
    rw [join_cons2, join_cons2, show z :: (xs ++ ys) = (z :: xs) ++ ys from rfl, ih]
    simp only [app_assoc]
theorem join_len (ws : List Str) : (Txt.join " " ws).length ≤ (ws.map (·.length)).sum + ws.length := by
  rw [join_eq]
  induction ws with
  | nil => exact Nat.zero_le _
  | cons x r ih =>
    cases r with
    | nil =>
      show x.length ≤ x.length + 0 + 1
      omega
    | cons y r =>
      show (x ++ " " ++ Str.join " " (y :: r)).length ≤ _
      rw [len_app, len_app]
      have e : (" " : Str).length = 1 := by decide +kernel
      simp only [List.map_cons, List.sum_cons, List.length_cons] at ih ⊢
      omega
/-! ## order -/
theorem lt_of_le_ne {a b : Str} (h : leS a b) (ne : a ≠ b) : a.cps.toList < b.cps.toList := by
  have e := PyProof.Rows.ltCps_eq a.cps.toList b.cps.toList
  by_cases z : a.cps.toList < b.cps.toList
  · exact z
  · rw [decide_eq_false z] at e
    exact absurd (str_ext (leC_anti h e)) ne
theorem head_lt {k j : Str} {xs ys : List Str} (nd : (xs ++ k :: ys).Nodup) (h : PyProof.Rows.sortedS (xs ++ k :: ys) = true) (hj : j ∈ xs) : j.cps.toList < k.cps.toList := by
  have p := sorted_pair h
  rw [List.pairwise_append] at p
  refine lt_of_le_ne (p.2.2 j hj k List.mem_cons_self) fun e => ?_
  rw [List.nodup_append] at nd
  exact nd.2.2 j hj k List.mem_cons_self e
theorem empty_lt {k : Str} (h : 1 ≤ k.length) : ("" : Str).cps.toList < k.cps.toList := by
  rw [len_tl] at h
  have e : ("" : Str).cps.toList = [] := by decide +kernel
  rw [e]
  cases q : k.cps.toList with
  | nil =>
    have : tl k = [] := q
    rw [this] at h
    simp at h
  | cons c r => exact List.nil_lt_cons c r
/-! ## slices -/
theorem cut_from (ds : List D) (n : Nat) : cutD ds (some (n : Int)) none = ds.drop n := by
  unfold cutD
  rw [HT.sIx_none, HT.sIx_nat]
  by_cases h : n ≤ ds.length
  · rw [Nat.min_eq_left h, List.take_of_length_le]
    rw [List.length_drop]
    exact Nat.le_refl _
  · rw [Nat.min_eq_right (by omega), List.drop_length, List.drop_of_length_le (by omega), List.take_nil]
theorem cut_to (ds : List D) (n : Nat) : cutD ds none (some (n : Int)) = ds.take n := by
  unfold cutD
  rw [HT.sIx_none, HT.sIx_nat, List.drop_zero, Nat.sub_zero]
  by_cases h : n ≤ ds.length
  · rw [Nat.min_eq_left h]
  · rw [Nat.min_eq_right (by omega), List.take_of_length_le (Nat.le_refl _), List.take_of_length_le (by omega)]
/-- neighbours -/
def adjD : List Str → List D
  | x :: y :: r => .tup [.str x, .str y] :: adjD (y :: r)
  | _ => []
theorem zip_adj : ∀ ys : List Str, zipDD (ys.map D.str) ((ys.map D.str).drop 1) = adjD ys
  | [] => rfl
  | [_] => rfl
  | x :: y :: r => by
    have ih := zip_adj (y :: r)
    show D.tup [.str x, .str y] :: zipDD ((y :: r).map D.str) (r.map D.str) = .tup [.str x, .str y] :: adjD (y :: r)
    rw [← ih]
    rfl
theorem atI_zero {α : Type} (c : α) (r : List α) : atI (c :: r) 0 = some c := by
  unfold atI ixN
  rw [if_pos (by omega), if_pos (by rw [List.length_cons]; omega)]
  rfl
/-- equal orders are one -/
theorem sorted_eq : ∀ {xs ys : List Str}, xs.Nodup → ys.Nodup → xs.Pairwise leS → ys.Pairwise leS → (∀ k, k ∈ xs ↔ k ∈ ys) → xs = ys
  | [], [], _, _, _, _, _ => rfl
  | [], y :: ys, _, _, _, _, h => by have := (h y).mpr List.mem_cons_self; cases this
  | x :: xs, [], _, _, _, _, h => by have := (h x).mp List.mem_cons_self; cases this
  | x :: xs, y :: ys, n1, n2, p1, p2, h => by
    have e : x = y := by
      rcases List.mem_cons.mp ((h x).mp List.mem_cons_self) with e | hx
      · exact e
      · rcases List.mem_cons.mp ((h y).mpr List.mem_cons_self) with e | hy
        · exact e.symm
        · exact str_ext (leC_anti (List.rel_of_pairwise_cons p1 hy) (List.rel_of_pairwise_cons p2 hx))
    subst e
    obtain ⟨a1, a2⟩ := List.nodup_cons.mp n1
    obtain ⟨b1, b2⟩ := List.nodup_cons.mp n2
    rw [sorted_eq a2 b2 (List.pairwise_cons.mp p1).2 (List.pairwise_cons.mp p2).2 fun k => ?_]
    constructor
    · intro hk
      rcases List.mem_cons.mp ((h k).mp (List.mem_cons_of_mem _ hk)) with e | z
      · rw [e] at hk; exact absurd hk a1
      · exact z
    · intro hk
      rcases List.mem_cons.mp ((h k).mpr (List.mem_cons_of_mem _ hk)) with e | z
      · rw [e] at hk; exact absurd hk b1
      · exact z
theorem dcL_map {g : D → Slots → Option Slots} {tk tv : TD} {ρ : Slots} {M : Mst} {fk : D → Key} {f : D → D} : ∀ {ds : List D} {acc : List (Key × D)} {K : List (Key × D) → Mst → Prop}, (∀ d, d ∈ ds → ∃ ρ1, g d ρ = some ρ1 ∧ (∀ K, K (kD (fk d)) M → tk ρ1 M K noErr) ∧ ∀ K, K (f d) M → tv ρ1 M K noErr) → K (putAll (ds.map fun d => (fk d, f d)) acc) M → dcL g none tk tv ρ ds acc M K
  | [], acc, K, _, h => h
  | d :: ds, acc, K, hd, h => by
    obtain ⟨ρ1, e, h1, h2⟩ := hd d List.mem_cons_self
    have rest := fun x hx => hd x (List.mem_cons_of_mem d hx)
    exact ⟨ρ1, e, h1 _ ⟨fk d, by cases fk d <;> rfl, h2 _ (dcL_map (fk := fk) (f := f) rest h)⟩⟩
theorem frz_goL {G : Gam} {Γ : Nat → SpD} {i : Nat} {r : Ss} {ρ : Slots} {M : Mst} {a : Addr} {ds : List D} {En : EndD} (hi : ρ[i]? = some (some (.loc a))) (hm : M a = some (.lst ds)) (h : semSs G Γ r (ρ.set i (some (.lst ds))) (delM M a) En) : semSs G Γ (.cons (.frz i) r) ρ M En := by
  unfold semSs
  unfold semS
  show frzS i ρ M _
  unfold frzS
  rw [hi]
  show frzD (.loc a) ρ M _ _
  unfold frzD
  dsimp only
  rw [hm]
  exact h
theorem nil_go {G : Gam} {Γ' : Nat → SpD} {ρ : Slots} {M : Mst} {En : EndD} (h : En.nx ρ M) : semSs G Γ' .nil ρ M En := h
/-- what stands behind some statements -/
def tls : Nat → Ss → Ss
  | 0, b => b
  | n + 1, .cons _ b => tls n b
  | _, .nil => .nil
end PyD
set_option Elab.async false
set_option linter.all false
set_option autoImplicit false
set_option maxRecDepth 100000
set_option maxHeartbeats 4000000
set_option exponentiation.threshold 10000
/-! # What nested lists and tuples show -/
namespace PyD
open PySem PySem.Spec L2 TL
/-- d is the data p; so big, so deep -/
structure Shw (d : D) (p : PyData) (w dep : Nat) : Prop where
  to : toP d = some p
  sh : PyData.showable p = true
  hd : PyData.hasDict p = false
  de : PyData.depth p ≤ dep
  ls : PyData.leavesShort 260 p = true
  bk : PyData.bulk p ≤ w
structure Shws (ds : List D) (ps : List PyData) (w dep : Nat) : Prop where
  to : toPs ds = some ps
  sh : PyData.showableAll ps = true
  hd : PyData.hasDictAll ps = false
  de : PyData.depthAll ps ≤ dep
  ls : PyData.leavesShortAll 260 ps = true
  bk : PyData.bulkAll ps ≤ w
theorem shw_non : Shw .non .none 0 0 := ⟨by unfold toP; rfl, rfl, rfl, Nat.le_refl _, rfl, Nat.le_refl _⟩
theorem shw_bl (b : Bool) : Shw (.bl b) (.bool b) 0 0 := ⟨by unfold toP; rfl, rfl, rfl, Nat.le_refl _, rfl, Nat.le_refl _⟩
theorem shw_int {i : Int} (h : i.natAbs < 2 ^ 250) : Shw (.int i) (.int i) 0 0 := by
  have l := log_of h (by omega)
  have s := int_text_length_le (by omega : 0 < 250) l
  refine ⟨by unfold toP; rfl, decide_eq_true (by omega), rfl, Nat.le_refl _, decide_eq_true ?_, Nat.le_refl _⟩
  show (Str.ofString (toString i)).length ≤ 260
  rw [PySem.ofString_length]
  omega
theorem shw_nat {n : Nat} (h : n < 2 ^ 250) : Shw (.int n) (.int n) 0 0 := shw_int (by rw [Int.natAbs_natCast]; exact h)
theorem shw_str {x : Str} (h : ∀ c, c ∈ tl x → c < 16 ^ 8) : Shw (.str x) (.str x) x.length 0 := by
  refine ⟨by unfold toP; rfl, rfl, rfl, Nat.le_refl _, ?_, Nat.le_refl _⟩
  unfold PyData.leavesShort
  rw [List.all_eq_true]
  exact fun c hc => decide_eq_true (h c hc)
theorem shws_nil : Shws [] [] 0 0 := ⟨by unfold toPs; rfl, rfl, rfl, Nat.le_refl _, rfl, Nat.le_refl _⟩
theorem shws_cons {d : D} {ds : List D} {p : PyData} {ps : List PyData} {w v e f : Nat} (h : Shw d p w e) (t : Shws ds ps v f) : Shws (d :: ds) (p :: ps) (w + 1 + v) (max e f) := by
  refine ⟨by unfold toPs; rw [h.to, t.to], ?_, ?_, ?_, ?_, ?_⟩
  · unfold PyData.showableAll; rw [h.sh, t.sh]; rfl
  · unfold PyData.hasDictAll; rw [h.hd, t.hd]; rfl
  · unfold PyData.depthAll
    have := h.de
    have := t.de
    omega
  · unfold PyData.leavesShortAll; rw [h.ls, t.ls]; rfl
  · unfold PyData.bulkAll
    have := h.bk
    have := t.bk
    omega
theorem Shw.mono {d : D} {p : PyData} {w e w' e' : Nat} (h : Shw d p w e) (a : w ≤ w') (b : e ≤ e') : Shw d p w' e' := ⟨h.to, h.sh, h.hd, Nat.le_trans h.de b, h.ls, Nat.le_trans h.bk a⟩
theorem Shws.mono {d : List D} {p : List PyData} {w e w' e' : Nat} (h : Shws d p w e) (a : w ≤ w') (b : e ≤ e') : Shws d p w' e' := ⟨h.to, h.sh, h.hd, Nat.le_trans h.de b, h.ls, Nat.le_trans h.bk a⟩
theorem shw_lst {ds : List D} {ps : List PyData} {w e : Nat} (h : Shws ds ps w e) : Shw (.lst ds) (.list ps) w (e + 1) := by
  refine ⟨by unfold toP; rw [h.to]; rfl, h.sh, h.hd, ?_, h.ls, h.bk⟩
  show PyData.depthAll ps + 1 ≤ e + 1
  have := h.de
  omega
theorem shw_tup {ds : List D} {ps : List PyData} {w e : Nat} (h : Shws ds ps w e) : Shw (.tup ds) (.tuple ps) w (e + 1) := by
  refine ⟨by unfold toP; rw [h.to]; rfl, h.sh, h.hd, ?_, h.ls, h.bk⟩
  show PyData.depthAll ps + 1 ≤ e + 1
  have := h.de
  omega
theorem shws_all {α : Type} {f : α → D} {g : α → PyData} {w e : Nat} : ∀ {xs : List α}, (∀ x, x ∈ xs → Shw (f x) (g x) w e) → Shws (xs.map f) (xs.map g) ((w + 1) * xs.length) e
  | [], _ => shws_nil.mono (Nat.zero_le _) (Nat.zero_le _)
  | x :: xs, h => by
    have := shws_cons (h x List.mem_cons_self) (shws_all fun y hy => h y (List.mem_cons_of_mem _ hy))
    refine this.mono ?_ (by omega)
    rw [List.length_cons, Nat.mul_succ]
    omega
theorem Shw.len {d : D} {p : PyData} {w e : Nat} (h : Shw d p w e) (hw : w ≤ 3800) : (PyData.shown p).length ≤ 1000000 := by
  have := PyData.shown_le_bulk 260 (by omega) p h.ls
  have b := h.bk
  have : (260 + 2) * p.bulk ≤ 262 * w := Nat.mul_le_mul (Nat.le_refl _) b
  omega
theorem repr_lst {G : Gam} {Γ : Nat → SpD} {ds : List D} {p : PyData} {w e : Nat} {ρ : Slots} {M : Mst} {K1 : KD} {E1 : ED} (h : Shw (.lst ds) p w e) (hw : w ≤ 3800) (he : e ≤ 50) (k : K1 (.str (PyData.shown p)) M) : bltD G Γ .repr [.lst ds] ρ M K1 E1 := by
  show (match toP (.lst ds) with
    | some p => PyData.showable p = true ∧ PyData.depth p ≤ 50 ∧ PyData.hasDict p = false ∧ (PyData.shown p).length ≤ 1000000 ∧ True ∧ K1 (.str (PyData.shown p)) M
    | none => False)
  rw [h.to]
  exact ⟨h.sh, Nat.le_trans h.de he, h.hd, h.len hw, trivial, k⟩
theorem repr_tup {G : Gam} {Γ : Nat → SpD} {ds : List D} {p : PyData} {w e : Nat} {ρ : Slots} {M : Mst} {K1 : KD} {E1 : ED} (h : Shw (.tup ds) p w e) (hw : w ≤ 3800) (he : e ≤ 50) (k : K1 (.str (PyData.shown p)) M) : bltD G Γ .repr [.tup ds] ρ M K1 E1 := by
  show (match toP (.tup ds) with
    | some p => PyData.showable p = true ∧ PyData.depth p ≤ 50 ∧ PyData.hasDict p = false ∧ (PyData.shown p).length ≤ 1000000 ∧ True ∧ K1 (.str (PyData.shown p)) M
    | none => False)
  rw [h.to]
  exact ⟨h.sh, Nat.le_trans h.de he, h.hd, h.len hw, trivial, k⟩
/-- behind its argument -/
theorem repr_c {G : Gam} {Γ : Nat → SpD} {ds : List D} {p : PyData} {w e : Nat} {ρ : Slots} {M : Mst} {K1 : KD} {E1 : ED} (h : Shw (.lst ds) p w e) (hw : w ≤ 3800) (he : e ≤ 50) (k : K1 (.str (PyData.shown p)) M) : sems G Γ .nil ρ M (fun es M2 => bltD G Γ .repr (.lst ds :: es) ρ M2 K1 E1) E1 := repr_lst (G := G) (Γ := Γ) (ρ := ρ) (E1 := E1) h hw he k
theorem repr_ct {G : Gam} {Γ : Nat → SpD} {ds : List D} {p : PyData} {w e : Nat} {ρ : Slots} {M : Mst} {K1 : KD} {E1 : ED} (h : Shw (.tup ds) p w e) (hw : w ≤ 3800) (he : e ≤ 50) (k : K1 (.str (PyData.shown p)) M) : sems G Γ .nil ρ M (fun es M2 => bltD G Γ .repr (.tup ds :: es) ρ M2 K1 E1) E1 := repr_tup (G := G) (Γ := Γ) (ρ := ρ) (E1 := E1) h hw he k
theorem brb_neS {x y : Str} {P Q : Prop} (e : x = y) (h : Q) : brb (x != y) P Q := by
  subst e
  rw [show (x != x) = false by simp]
  exact h
end PyD
set_option Elab.async false
set_option linter.all false
set_option autoImplicit false
set_option maxRecDepth 100000
set_option maxHeartbeats 4000000
/-! # Lists by texts; sums of fractions -/
namespace PyD
open PySem PySem.Spec L2
section
variable {α : Type}
def kA (l : List (Str × α)) : List Str := l.map (·.1)
def vA (l : List (Str × α)) (k : Str) : Option α := (l.find? fun p => decide (p.1 = k)).map (·.2)
def putA (k : Str) (x : α) (l : List (Str × α)) : List (Str × α) := if k ∈ kA l then l.map (fun p => if p.1 = k then (p.1, x) else p) else l ++ [(k, x)]
def lA (f : α → D) (l : List (Str × α)) : List (Key × D) := l.map fun p => (Sum.inr p.1, f p.2)
theorem vA_cons (p : Str × α) (l : List (Str × α)) (k : Str) : vA (p :: l) k = if p.1 = k then some p.2 else vA l k := by
  unfold vA
  rw [List.find?_cons]
  by_cases h : p.1 = k <;> simp [h]
theorem vA_none {l : List (Str × α)} {k : Str} (h : k ∉ kA l) : vA l k = none := by
  induction l with
  | nil => rfl
  | cons p l ih =>
    have h2 : k ∉ p.1 :: kA l := h
    rw [List.mem_cons, not_or] at h2
    rw [vA_cons, if_neg fun e => h2.1 e.symm, ih h2.2]
theorem vA_mem {l : List (Str × α)} (nd : (kA l).Nodup) {p : Str × α} (h : p ∈ l) : vA l p.1 = some p.2 := by
  induction l with
  | nil => cases h
  | cons r l ih =>
    obtain ⟨n1, n2⟩ := List.nodup_cons.mp (show (r.1 :: kA l).Nodup from nd)
    rw [vA_cons]
    rcases List.mem_cons.mp h with rfl | h
    · rw [if_pos rfl]
    · rw [if_neg fun e => n1 (by rw [e]; exact List.mem_map_of_mem h), ih n2 h]
theorem vA_at {l : List (Str × α)} {k : Str} (h : k ∈ kA l) : ∃ x, vA l k = some x ∧ (k, x) ∈ l := by
  induction l with
  | nil => cases h
  | cons r l ih =>
    rw [vA_cons]
    by_cases e : r.1 = k
    · exact ⟨r.2, by rw [if_pos e], by rw [← e]; exact List.mem_cons_self⟩
    · obtain ⟨x, h1, h2⟩ := ih ((List.mem_cons.mp (show k ∈ r.1 :: kA l from h)).resolve_left fun z => e z.symm)
      exact ⟨x, by rw [if_neg e, h1], List.mem_cons_of_mem _ h2⟩
theorem kA_putA (k : Str) (x : α) (l : List (Str × α)) : kA (putA k x l) = if k ∈ kA l then kA l else kA l ++ [k] := by
  unfold putA
  split
  · unfold kA
    rw [List.map_map]
    refine List.map_congr_left fun p _ => ?_
    show (if p.1 = k then (p.1, x) else p).1 = p.1
    split <;> rfl
  · unfold kA
    rw [List.map_append]
    rfl
theorem mem_putA {k : Str} {x : α} {l : List (Str × α)} {p : Str × α} (h : p ∈ putA k x l) : p ∈ l ∨ p = (k, x) := by
  unfold putA at h
  split at h
  · obtain ⟨r, hr, rfl⟩ := List.mem_map.mp h
    by_cases e : r.1 = k
    · rw [if_pos e, ← e]; exact .inr rfl
    · rw [if_neg e]; exact .inl hr
  · rcases List.mem_append.mp h with h | h
    · exact .inl h
    · exact .inr (List.mem_singleton.mp h)
theorem nodup_putA {k : Str} {x : α} {l : List (Str × α)} (h : (kA l).Nodup) : (kA (putA k x l)).Nodup := by
  rw [kA_putA]
  split
  · exact h
  · rename_i c
    exact List.nodup_append.mpr ⟨h, by simp, fun a ha b hb => by rw [List.mem_singleton.mp hb]; rintro rfl; exact c ha⟩
theorem len_putA (k : Str) (x : α) (l : List (Str × α)) : (putA k x l).length ≤ l.length + 1 := by
  unfold putA
  split <;> simp
theorem vA_map {l : List (Str × α)} {k j : Str} {x : α} (h : k ∈ kA l) : vA (l.map fun p => if p.1 = k then (p.1, x) else p) j = if j = k then some x else vA l j := by
  induction l with
  | nil => cases h
  | cons p l ih =>
    rw [List.map_cons, vA_cons, vA_cons]
    by_cases e : p.1 = k
    · rw [if_pos e]
      by_cases ej : j = k
      · rw [if_pos ej, if_pos (e.trans ej.symm)]
      · have n1 : ¬ p.1 = j := fun z => ej (z.symm.trans e)
        rw [if_neg ej, if_neg n1]
        show vA _ j = if p.1 = j then _ else _
        rw [if_neg n1]
        clear ih h
        induction l with
        | nil => rfl
        | cons r l ih =>
          rw [List.map_cons, vA_cons, vA_cons, ih]
          by_cases er : r.1 = k
          · rw [if_pos er]
            have n2 : ¬ r.1 = j := fun z => ej (z.symm.trans er)
            show (if r.1 = j then _ else _) = _
            rw [if_neg n2, if_neg n2]
          · rw [if_neg er]
    · have hk : k ∈ kA l := (List.mem_cons.mp (show k ∈ p.1 :: kA l from h)).resolve_left fun z => e z.symm
      rw [if_neg e, ih hk]
      by_cases ej : j = k
      · rw [if_pos ej, if_pos ej, if_neg fun z => e (z.trans ej)]
      · rw [if_neg ej, if_neg ej]
theorem vA_app {l : List (Str × α)} {k j : Str} {x : α} (h : k ∉ kA l) : vA (l ++ [(k, x)]) j = if j = k then some x else vA l j := by
  induction l with
  | nil =>
    show vA [(k, x)] j = _
    rw [vA_cons]
    by_cases e : j = k
    · rw [if_pos e, if_pos e.symm]
    · rw [if_neg e, if_neg fun z => e z.symm]
  | cons p l ih =>
    have h2 : k ∉ p.1 :: kA l := h
    rw [List.mem_cons, not_or] at h2
    rw [List.cons_append, vA_cons, vA_cons, ih h2.2]
    by_cases e : j = k
    · rw [if_pos e, if_pos e, if_neg fun z => h2.1 (e.symm.trans z.symm)]
    · rw [if_neg e, if_neg e]
theorem vA_putA (k : Str) (x : α) (l : List (Str × α)) (j : Str) : vA (putA k x l) j = if j = k then some x else vA l j := by
  unfold putA
  split
  · exact vA_map (by assumption)
  · exact vA_app (by assumption)
theorem put_lA (f : α → D) (k : Str) (x : α) (l : List (Str × α)) : putKD (.inr k) (f x) (lA f l) = lA f (putA k x l) := by
  unfold putKD putA lA
  have e : (l.map fun p => ((Sum.inr p.1 : Key), f p.2)).any (fun kv => decide (kv.1 = Sum.inr k)) = decide (k ∈ kA l) := by
    rw [List.any_map, Bool.eq_iff_iff, List.any_eq_true, decide_eq_true_eq]
    constructor
    · rintro ⟨p, hp, hq⟩
      rw [← Sum.inr.inj (of_decide_eq_true hq)]
      exact List.mem_map_of_mem hp
    · intro h
      obtain ⟨p, hp, rfl⟩ := List.mem_map.mp h
      exact ⟨p, hp, decide_eq_true rfl⟩
  rw [e]
  by_cases c : k ∈ kA l
  · rw [decide_eq_true c, if_pos rfl, if_pos c, List.map_map, List.map_map]
    refine List.map_congr_left fun p _ => ?_
    show (if (Sum.inr p.1 : Key) = Sum.inr k then _ else _) = _
    by_cases h : p.1 = k
    · simp [h]
    · have : ¬ (Sum.inr p.1 : Key) = Sum.inr k := fun z => h (Sum.inr.inj z)
      simp [h, this]
  · rw [decide_eq_false c, if_neg Bool.false_ne_true, if_neg c, List.map_append]
    rfl
theorem val_lA (f : α → D) (l : List (Str × α)) (k : Str) : valD (lA f l) (.inr k) = (vA l k).map f := by
  induction l with
  | nil => rfl
  | cons p l ih =>
    rw [vA_cons]
    unfold lA valD at ih ⊢
    rw [List.map_cons, List.find?_cons]
    by_cases h : p.1 = k
    · simp [h]
    · have : ¬ (Sum.inr p.1 : Key) = Sum.inr k := fun z => h (Sum.inr.inj z)
      simp only [this, decide_false, if_neg h]
      exact ih
theorem keys_lA (f : α → D) (l : List (Str × α)) : (lA f l).map (fun p => kD p.1) = (kA l).map D.str := by
  unfold lA kA
  rw [List.map_map, List.map_map]
  rfl
theorem len_lA (f : α → D) (l : List (Str × α)) : (lA f l).length = l.length := by unfold lA; rw [List.length_map]
theorem len_kA (l : List (Str × α)) : (kA l).length = l.length := by unfold kA; rw [List.length_map]
end
/-! ## sums -/
def addAll : List Rat → Rat → Rat
  | [], s => s
  | q :: r, s => addAll r (s + q)
theorem addAll_eq : ∀ (l : List Rat) (s : Rat), addAll l s = s + addAll l 0
  | [], s => by
    show s = s + 0
    rw [Rat.add_zero]
  | q :: r, s => by
    show addAll r (s + q) = s + addAll r (0 + q)
    rw [addAll_eq r (s + q), addAll_eq r (0 + q), Rat.zero_add, Rat.add_assoc]
theorem addAll_cons (q : Rat) (l : List Rat) : addAll (q :: l) 0 = q + addAll l 0 := by
  show addAll l (0 + q) = _
  rw [addAll_eq, Rat.zero_add]
theorem addAll_perm {l m : List Rat} (h : l.Perm m) : addAll l 0 = addAll m 0 := by
  induction h with
  | nil => rfl
  | cons x _ ih => rw [addAll_cons, addAll_cons, ih]
  | swap x y l => rw [addAll_cons, addAll_cons, addAll_cons, addAll_cons, ← Rat.add_assoc, ← Rat.add_assoc, Rat.add_comm y x]
  | trans _ _ ih1 ih2 => exact ih1.trans ih2
theorem addAll_nz (f : Str → Rat) : ∀ l : List Str, addAll ((l.filter fun k => decide (f k ≠ 0)).map f) 0 = addAll (l.map f) 0
  | [] => rfl
  | k :: l => by
    by_cases h : f k = 0
    · rw [List.filter_cons_of_neg (by simp [h]), List.map_cons, addAll_cons, h, Rat.zero_add, addAll_nz f l]
    · rw [List.filter_cons_of_pos (by simp [h]), List.map_cons, List.map_cons, addAll_cons, addAll_cons, addAll_nz f l]
theorem addAll_ext {f : Str → Rat} {l m : List Str} (n1 : l.Nodup) (n2 : m.Nodup) (h : ∀ k, f k ≠ 0 → (k ∈ l ↔ k ∈ m)) : addAll (l.map f) 0 = addAll (m.map f) 0 := by
  rw [← addAll_nz f l, ← addAll_nz f m]
  refine addAll_perm (List.Perm.map f ((List.perm_ext_iff_of_nodup (n1.filter _) (n2.filter _)).mpr fun k => ?_))
  rw [List.mem_filter, List.mem_filter, decide_eq_true_eq]
  exact ⟨fun z => ⟨(h k z.2).mp z.1, z.2⟩, fun z => ⟨(h k z.2).mpr z.1, z.2⟩⟩
end PyD
set_option Elab.async false
set_option linter.all false
set_option autoImplicit false
set_option maxRecDepth 100000
set_option maxHeartbeats 4000000
open PySem PySem.Spec L2
namespace PyD
namespace L25
def N0 : List Str := ["value"]
/-- is_integer -/
def b0 : Ss :=
    (.cons (.ret (.and (.blt .isi (.cons (.var 0) (.cons (.ty "int") .nil))) (.not (.blt .isi (.cons (.var 0) (.cons (.ty "bool") .nil))))))
    .nil)
def N1 : List Str := ["value", "low", "high"]
/-- is_between -/
def b1 : Ss :=
    (.cons (.ret (.and (.call 0 (.cons (.var 0) .nil) .nil) (.chn .LtE .LtE (.var 1) (.var 0) (.var 2))))
    .nil)
def N2 : List Str := ["value"]
/-- is_count -/
def b2 : Ss :=
    (.cons (.ret (.call 1 (.cons (.var 0) (.cons (.con (.int 0)) (.cons (.kon 0) .nil))) .nil))
    .nil)
def N3 : List Str := ["value", "letter"]
/-- is_name -/
def b3 : Ss :=
    (.cons (.ite (.or (.not (.blt .isi (.cons (.var 0) (.cons (.ty "str") .nil)))) (.not (.chn .LtE .LtE (.con (.int 1)) (.blt .len (.cons (.var 0) .nil)) (.kon 2))))
    (.cons (.ret (.con (.bl false)))
    .nil)
    .nil)
    (.cons (.ret (.blx .all (.lc (.inn false (.var 1) (.kon 1)) [1] true (.seq (.var 0)) .no)))
    .nil))
def N4 : List Str := ["names", "name"]
/-- in_order -/
def b4 : Ss :=
    (.cons (.ret (.blx .sorted (.lc (.blt .str (.cons (.var 1) .nil)) [1] true (.seq (.var 0)) .no)))
    .nil)
def N5 : List Str := ["self", "rows"]
/-- Kept.__init__ -/
def b5 : Ss :=
    (.cons (.setf (.var 0) 29 (.var 1))
    .nil)
def N6 : List Str := ["told", "more"]
/-- told_pairs -/
def b6 : Ss :=
    (.cons (.ret (.lsts (.itms (.var 0) (.itms (.var 1) .nil))))
    .nil)
def N7 : List Str := ["pairs", "key", "value"]
def b7_1 : Ss :=
    (.cons (.ite (.not (.call 2 (.cons (.var 2) .nil) .nil))
    (.cons .nev
    .nil)
    .nil)
    .nil)
/-- need_counts -/
def b7 : Ss :=
    (.cons (.forT [1, 2] (.seq (.var 0)) b7_1)
    .nil)
def N8 : List Str := ["pairs", "found", "key", "value"]
def b8_1 : Ss :=
    (.cons (.seti (.var 1) (.var 2) (.bin .Add (.get (.var 1) (.var 2) (.con (.int 0))) (.var 3)))
    .nil)
/-- kept_counts -/
def b8 : Ss :=
    (.cons (.asg 1 .mdct0)
    (.cons (.forT [2, 3] (.seq (.var 0)) b8_1)
    (.cons (.frz 1) (.cons (.ret (.dc (.var 2) (.sub (.var 1) (.var 2)) [2] true (.seq (.call 4 (.cons (.var 1) .nil) .nil)) (.cmp .NotEq (.sub (.var 1) (.var 2)) (.con (.int 0)))))
    .nil))))
def N9 : List Str := ["kinds", "kind"]
def b9_1 : Ss :=
    (.cons (.ite (.not (.call 3 (.cons (.var 1) .nil) .nil))
    (.cons .nev
    .nil)
    .nil)
    .nil)
/-- need_kinds -/
def b9 : Ss :=
    (.cons (.for1 1 (.seq (.var 0)) b9_1)
    .nil)
def N10 : List Str := ["counts", "more", "told", "pairs", "kind", "value"]
/-- checked_counts -/
def b10 : Ss :=
    (.cons (.ite (.and (.cmp .IsNot (.var 0) (.con .non)) (.not (.blt .isi (.cons (.var 0) (.cons (.ty "dict") .nil)))))
    (.cons .nev
    .nil)
    .nil)
    (.cons (.asg 2 (.ite (.cmp .Is (.var 0) (.con .non)) .dct0 (.var 0)))
    (.cons (.asg 3 (.call 6 (.cons (.var 2) (.cons (.var 1) .nil)) .nil))
    (.cons (.drop (.call 9 (.cons (.lc (.var 4) [4, 5] false (.seq (.var 3)) .no) .nil) .nil))
    (.cons (.ite (.blx .any (.lc (.inn false (.var 4) (.var 2)) [4] true (.seq (.var 1)) .no))
    (.cons .nev
    .nil)
    .nil)
    (.cons (.drop (.call 7 (.cons (.var 3) .nil) .nil))
    (.cons (.ret (.call 8 (.cons (.var 3) .nil) .nil))
    .nil)))))))
def N11 : List Str := ["self", "counts", "more"]
/-- Order.__init__ -/
def b11 : Ss :=
    (.cons (.setf (.var 0) 30 (.ite (.blt .isi (.cons (.var 1) (.cons (.kls 0) .nil))) (.att (.var 1) 29) (.call 10 (.cons (.var 1) (.cons (.var 2) .nil)) .nil)))
    .nil)
def N12 : List Str := ["self", "kind"]
/-- Order.kinds -/
def b12 : Ss :=
    (.cons (.ret (.blx .tuple (.lc (.var 1) [1] true (.seq (.att (.var 0) 30)) .no)))
    .nil)
def N13 : List Str := ["self", "kind"]
/-- Order.__getitem__ -/
def b13 : Ss :=
    (.cons (.ite (.not (.call 3 (.cons (.var 1) .nil) .nil))
    (.cons .nev
    .nil)
    .nil)
    (.cons (.ret (.get (.att (.var 0) 30) (.var 1) (.con (.int 0))))
    .nil))
def N14 : List Str := ["one", "other"]
def b14_1 : Ss :=
    (.cons (.par [0, 1] (.cons (.var 1) (.cons (.bin .Mod (.var 0) (.var 1)) .nil)))
    .nil)
/-- shared_divisor -/
def b14 : Ss :=
    (.cons (.whl (.cmp .NotEq (.var 1) (.con (.int 0))) b14_1)
    (.cons (.ret (.var 0))
    .nil))
def N15 : List Str := ["number"]
/-- parts_of -/
def b15 : Ss :=
    (.cons (.ret (.ite (.blt .isi (.cons (.var 0) (.cons (.kls 2) .nil))) (.tup (.cons (.att (.var 0) 31) (.cons (.att (.var 0) 32) .nil))) (.tup (.cons (.var 0) (.cons (.con (.int 1)) .nil)))))
    .nil)
def N16 : List Str := ["self", "top", "bottom", "value", "divisor"]
def b16_1 : Ss :=
    (.cons (.ite (.not (.call 0 (.cons (.var 3) .nil) .nil))
    (.cons .nev
    .nil)
    .nil)
    .nil)
/-- Amount.__init__ -/
def b16 : Ss :=
    (.cons (.for1 3 (.seq (.tup (.cons (.var 1) (.cons (.var 2) .nil)))) b16_1)
    (.cons (.ite (.cmp .Eq (.var 2) (.con (.int 0)))
    (.cons .nev
    .nil)
    .nil)
    (.cons (.asg 4 (.call 15 (.cons (.blt .abs (.cons (.var 1) .nil)) (.cons (.blt .abs (.cons (.var 2) .nil)) .nil)) .nil))
    (.cons (.ite (.cmp .Lt (.var 2) (.con (.int 0)))
    (.cons (.asg 4 (.neg (.var 4)))
    .nil)
    .nil)
    (.cons (.setf (.var 0) 31 (.bin .FloorDiv (.var 1) (.var 4)))
    (.cons (.setf (.var 0) 32 (.bin .FloorDiv (.var 2) (.var 4)))
    .nil))))))
def N17 : List Str := ["value"]
/-- Amount.is_number -/
def b17 : Ss :=
    (.cons (.ret (.or (.blt .isi (.cons (.var 0) (.cons (.kls 2) .nil))) (.call 0 (.cons (.var 0) .nil) .nil)))
    .nil)
def N18 : List Str := ["value"]
/-- Amount.of -/
def b18 : Ss :=
    (.cons (.ite (.not (.stat 2 33 [] (.cons (.var 0) .nil) .nil))
    (.cons .nev
    .nil)
    .nil)
    (.cons (.ret (.ite (.blt .isi (.cons (.var 0) (.cons (.kls 2) .nil))) (.var 0) (.call 18 (.cons (.var 0) .nil) .nil)))
    .nil))
def N19 : List Str := ["numbers", "found", "number"]
def b19_1 : Ss :=
    (.cons (.asg 1 (.bin .Add (.var 1) (.var 2)))
    .nil)
/-- Amount.sum_of -/
def b19 : Ss :=
    (.cons (.asg 1 (.call 18 (.cons (.con (.int 0)) .nil) .nil))
    (.cons (.for1 2 (.seq (.var 0)) b19_1)
    (.cons (.ret (.var 1))
    .nil)))
def N20 : List Str := ["self", "other", "top", "bottom"]
/-- Amount.__add__ -/
def b20 : Ss :=
    (.cons (.ite (.not (.stat 2 33 [] (.cons (.var 1) .nil) .nil))
    (.cons .nev
    .nil)
    .nil)
    (.cons (.unp [2, 3] (.call 16 (.cons (.var 1) .nil) .nil))
    (.cons (.ret (.call 17 (.cons (.bin .Add (.bin .Mult (.att (.var 0) 31) (.var 3)) (.bin .Mult (.var 2) (.att (.var 0) 32))) (.cons (.bin .Mult (.att (.var 0) 32) (.var 3)) .nil)) .nil))
    .nil)))
def N21 : List Str := ["self", "other"]
/-- Amount.__radd__ -/
def b21 : Ss :=
    (.cons (.ret (.bin .Add (.var 0) (.var 1)))
    .nil)
def N22 : List Str := ["self", "other", "top", "bottom"]
/-- Amount.__mul__ -/
def b22 : Ss :=
    (.cons (.ite (.not (.stat 2 33 [] (.cons (.var 1) .nil) .nil))
    (.cons .nev
    .nil)
    .nil)
    (.cons (.unp [2, 3] (.call 16 (.cons (.var 1) .nil) .nil))
    (.cons (.ret (.call 17 (.cons (.bin .Mult (.att (.var 0) 31) (.var 2)) (.cons (.bin .Mult (.att (.var 0) 32) (.var 3)) .nil)) .nil))
    .nil)))
def N23 : List Str := ["self", "other"]
/-- Amount.__rmul__ -/
def b23 : Ss :=
    (.cons (.ret (.bin .Mult (.var 0) (.var 1)))
    .nil)
def N24 : List Str := ["self", "other"]
/-- Amount.__eq__ -/
def b24 : Ss :=
    (.cons (.ite (.not (.stat 2 33 [] (.cons (.var 1) .nil) .nil))
    (.cons (.ret (.con (.bl false)))
    .nil)
    .nil)
    (.cons (.ret (.cmp .Eq (.tup (.cons (.att (.var 0) 31) (.cons (.att (.var 0) 32) .nil))) (.call 16 (.cons (.var 1) .nil) .nil)))
    .nil))
def N25 : List Str := ["self"]
/-- Amount.__str__ -/
def b25 : Ss :=
    (.cons (.ite (.cmp .Eq (.att (.var 0) 32) (.con (.int 1)))
    (.cons (.ret (.blt .str (.cons (.att (.var 0) 31) .nil)))
    .nil)
    .nil)
    (.cons (.ret (.jn (.cons (.fmt false (.att (.var 0) 31)) (.cons (.con (.str "/")) (.cons (.fmt false (.att (.var 0) 32)) .nil)))))
    .nil))
def N26 : List Str := ["self", "weights", "kind", "number"]
def b26_1 : Ss :=
    (.cons (.ite (.not (.stat 2 33 [] (.cons (.var 3) .nil) .nil))
    (.cons .nev
    .nil)
    .nil)
    .nil)
def b26_2 : Ss :=
    (.cons (.ite (.not (.call 3 (.cons (.var 2) .nil) .nil))
    (.cons .nev
    .nil)
    .nil)
    .nil)
/-- Weighing.__init__ -/
def b26 : Ss :=
    (.cons (.ite (.not (.blt .isi (.cons (.var 1) (.cons (.ty "dict") .nil))))
    (.cons .nev
    .nil)
    .nil)
    (.cons (.for1 2 (.seq (.var 1)) b26_2)
    (.cons (.for1 3 (.val (.var 1)) b26_1)
    (.cons (.setf (.var 0) 34 (.dc (.var 2) (.stat 2 35 [] (.cons (.sub (.var 1) (.var 2)) .nil) .nil) [2] true (.seq (.call 4 (.cons (.var 1) .nil) .nil)) (.cmp .NotEq (.sub (.var 1) (.var 2)) (.con (.int 0)))))
    .nil))))
def N27 : List Str := ["self", "kind"]
/-- Weighing.__getitem__ -/
def b27 : Ss :=
    (.cons (.ite (.not (.call 3 (.cons (.var 1) .nil) .nil))
    (.cons .nev
    .nil)
    .nil)
    (.cons (.ret (.get (.att (.var 0) 34) (.var 1) (.call 18 (.cons (.con (.int 0)) .nil) .nil)))
    .nil))
def N28 : List Str := ["self", "kind"]
/-- Weighing.__contains__ -/
def b28 : Ss :=
    (.cons (.ret (.and (.call 3 (.cons (.var 1) .nil) .nil) (.inn false (.var 1) (.att (.var 0) 34))))
    .nil)
def N29 : List Str := ["self"]
/-- Weighing.__len__ -/
def b29 : Ss :=
    (.cons (.ret (.blt .len (.cons (.att (.var 0) 34) .nil)))
    .nil)
def N30 : List Str := ["self", "order", "kind"]
/-- Weighing.__call__ -/
def b30 : Ss :=
    (.cons (.ite (.not (.blt .isi (.cons (.var 1) (.cons (.kls 1) .nil))))
    (.cons .nev
    .nil)
    .nil)
    (.cons (.ret (.stat 2 37 [] (.cons (.lc (.bin .Mult (.sub (.var 0) (.var 2)) (.sub (.var 1) (.var 2))) [2] true (.seq (.att (.var 1) 36)) .no) .nil) .nil))
    .nil))
def N31 : List Str := ["self", "other"]
/-- Weighing.__eq__ -/
def b31 : Ss :=
    (.cons (.ret (.and (.blt .isi (.cons (.var 1) (.cons (.kls 3) .nil))) (.cmp .Eq (.att (.var 0) 34) (.att (.var 1) 34))))
    .nil)
def N32 : List Str := ["self", "words", "kind"]
/-- Weighing.__str__ -/
def b32 : Ss :=
    (.cons (.asg 1 (.lc (.jn (.cons (.fmt false (.var 2)) (.cons (.con (.str " ")) (.cons (.fmt false (.sub (.att (.var 0) 34) (.var 2))) .nil)))) [2] true (.seq (.att (.var 0) 34)) .no))
    (.cons (.ret (.blt .str (.cons (.or (.bm .join (.con (.str " ")) (.var 1)) (.kon 3)) .nil)))
    .nil))
def N33 : List Str := ["_law_script", "_law_state", "_law_cell"]
def b33_1 : Ss :=
    (.cons (.asg 1 (.bin .Mod (.blt .int (.cons (.bin .Add (.bin .Add (.bin .Mult (.var 1) (.con (.int 16807))) (.bin .Mod (.blt .abs (.cons (.var 2) .nil)) (.con (.int 2147483629)))) (.con (.int 103))) .nil)) (.con (.int 2147483647))))
    .nil)
/-- _law_bag -/
def b33 : Ss :=
    (.cons (.asg 1 (.con (.int 211)))
    (.cons (.for1 2 (.seq (.cut (.var 0) .no (.con (.int 63)))) b33_1)
    (.cons (.ret (.mdsp (.cons (.con (.str "cells")) (.blt .list (.cons (.cut (.var 0) .no (.con (.int 63))) .nil)) (.cons (.con (.str "at")) (.con (.int 0)) (.cons (.con (.str "rest")) (.con (.int 0)) (.cons (.con (.str "state")) (.var 1) .nil))))))
    .nil)))
def N34 : List Str := ["_law_bag_here", "_law_limit", "_law_cell", "_law_mixed", "_law_found"]
def b34_1 : Ss :=
    (.cons (.asg 2 (.blt .abs (.cons (.sub (.sub (.var 0) (.con (.str "cells"))) (.sub (.var 0) (.con (.str "at")))) .nil)))
    (.cons (.seti (.var 0) (.con (.str "at")) (.bin .Add (.sub (.var 0) (.con (.str "at"))) (.con (.int 1))))
    (.cons (.ite (.cmp .Lt (.var 2) (.bin .Pow (.con (.int 10)) (.con (.int 18))))
    (.cons (.asg 3 (.bin .Mod (.blt .int (.cons (.bin .Add (.bin .Pow (.bin .Add (.var 2) (.con (.int 79))) (.con (.int 3))) (.bin .Mult (.sub (.var 0) (.con (.str "state"))) (.bin .Add (.sub (.var 0) (.con (.str "at"))) (.con (.int 1))))) .nil)) (.con (.int 2147483629))))
    (.cons (.ret (.bin .Mod (.var 3) (.var 1)))
    .nil))
    .nil)
    (.cons (.seti (.var 0) (.con (.str "rest")) (.var 2))
    .nil))))
/-- _law_draw -/
def b34 : Ss :=
    (.cons (.whl (.and (.cmp .Lt (.sub (.var 0) (.con (.str "rest"))) (.con (.int 2))) (.cmp .Lt (.sub (.var 0) (.con (.str "at"))) (.blt .len (.cons (.sub (.var 0) (.con (.str "cells"))) .nil)))) b34_1)
    (.cons (.ite (.cmp .GtE (.sub (.var 0) (.con (.str "rest"))) (.con (.int 2)))
    (.cons (.asg 4 (.bin .Mod (.blt .int (.cons (.sub (.var 0) (.con (.str "rest"))) .nil)) (.var 1)))
    (.cons (.seti (.var 0) (.con (.str "rest")) (.bin .FloorDiv (.sub (.var 0) (.con (.str "rest"))) (.var 1)))
    (.cons (.ret (.var 4))
    .nil)))
    .nil)
    (.cons (.seti (.var 0) (.con (.str "state")) (.bin .Mod (.blt .int (.cons (.bin .Add (.bin .Mult (.sub (.var 0) (.con (.str "state"))) (.con (.int 16807))) (.con (.int 103))) .nil)) (.con (.int 2147483647))))
    (.cons (.ret (.bin .Mod (.bin .Mod (.blt .int (.cons (.bin .Pow (.sub (.var 0) (.con (.str "state"))) (.con (.int 5))) .nil)) (.con (.int 2147483629))) (.var 1)))
    .nil))))
def N35 : List Str := ["_law_bag_here", "_law_some"]
/-- _law_pick -/
def b35 : Ss :=
    (.cons (.ret (.sub (.var 1) (.call 36 (.cons (.var 0) (.cons (.blt .len (.cons (.var 1) .nil)) .nil)) .nil)))
    .nil)
def N36 : List Str := ["_law_top", "_law_bottom", "_law_one", "_law_other"]
def b36_1 : Ss :=
    (.cons (.par [2, 3] (.cons (.var 3) (.cons (.bin .Mod (.blt .int (.cons (.var 2) .nil)) (.var 3)) .nil)))
    .nil)
/-- _law_low -/
def b36 : Ss :=
    (.cons (.par [2, 3] (.cons (.blt .abs (.cons (.var 0) .nil)) (.cons (.blt .abs (.cons (.var 1) .nil)) .nil)))
    (.cons (.whl (.cmp .NotEq (.var 3) (.con (.int 0))) b36_1)
    (.cons (.asg 2 (.ite (.cmp .Gt (.var 1) (.con (.int 0))) (.var 2) (.neg (.var 2))))
    (.cons (.ret (.tup (.cons (.bin .FloorDiv (.var 0) (.var 2)) (.cons (.bin .FloorDiv (.var 1) (.var 2)) .nil))))
    .nil))))
def N37 : List Str := ["_law_pairs", "_law_top", "_law_bottom", "_law_one", "_law_other"]
def b37_1 : Ss :=
    (.cons (.unp [1, 2] (.call 38 (.cons (.bin .Add (.bin .Mult (.var 1) (.var 4)) (.bin .Mult (.var 3) (.var 2))) (.cons (.bin .Mult (.var 2) (.var 4)) .nil)) .nil))
    .nil)
/-- _law_total -/
def b37 : Ss :=
    (.cons (.unp [1, 2] (.tup (.cons (.con (.int 0)) (.cons (.con (.int 1)) .nil))))
    (.cons (.forT [3, 4] (.seq (.var 0)) b37_1)
    (.cons (.ret (.tup (.cons (.var 1) (.cons (.var 2) .nil))))
    .nil)))
def N38 : List Str := ["_law_weights_here", "_law_counts", "_law_kind"]
/-- _law_weigh -/
def b38 : Ss :=
    (.cons (.ret (.call 39 (.cons (.lc (.tup (.cons (.bin .Mult (.sub (.sub (.var 0) (.var 2)) (.con (.int 0))) (.get (.var 1) (.var 2) (.con (.int 0)))) (.cons (.sub (.sub (.var 0) (.var 2)) (.con (.int 1))) .nil))) [2] true (.seq (.var 0)) .no) .nil) .nil))
    .nil)
def N39 : List Str := ["_law_bag_here", "_law_kinds", "_law_is_signed", "_law_found", "_law_kind", "_law_top"]
def b39_1 : Ss :=
    (.cons (.asg 5 (.call 37 (.cons (.var 0) (.cons (.lst (.cons (.con (.int 0)) (.cons (.con (.int 1)) (.cons (.con (.int 1)) (.cons (.con (.int 2)) (.cons (.con (.int 3)) (.cons (.con (.int 5)) (.cons (.con (.int 7)) (.cons (.bin .Add (.bin .Pow (.con (.int 10)) (.con (.int 20))) (.con (.int 1))) .nil))))))))) .nil)) .nil))
    (.cons (.asg 5 (.ite (.and (.var 2) (.cmp .Eq (.call 36 (.cons (.var 0) (.cons (.con (.int 3)) .nil)) .nil) (.con (.int 0)))) (.neg (.var 5)) (.var 5)))
    (.cons (.seti (.var 3) (.var 4) (.call 38 (.cons (.var 5) (.cons (.call 37 (.cons (.var 0) (.cons (.lst (.cons (.con (.int 1)) (.cons (.con (.int 1)) (.cons (.con (.int 2)) (.cons (.con (.int 3)) (.cons (.con (.int 4)) (.cons (.con (.int 9)) (.cons (.bin .Pow (.con (.int 10)) (.con (.int 15))) .nil)))))))) .nil)) .nil) .nil)) .nil))
    .nil)))
/-- _law_weights -/
def b39 : Ss :=
    (.cons (.asg 3 .mdct0)
    (.cons (.for1 4 (.seq (.var 1)) b39_1)
    (.cons (.frz 3) (.cons (.ret (.var 3))
    .nil))))
def N40 : List Str := ["_law_weights_here", "_law_parts", "_law_kind", "_law_top", "_law_bottom"]
def b40_1 : Ss :=
    (.cons (.unp [3, 4] (.sub (.var 0) (.var 2)))
    (.cons (.seti (.var 1) (.var 2) (.ite (.cmp .Gt (.var 4) (.con (.int 1))) (.call 17 (.cons (.var 3) (.cons (.var 4) .nil)) .nil) (.var 3)))
    .nil))
/-- _law_made -/
def b40 : Ss :=
    (.cons (.asg 1 .mdct0)
    (.cons (.for1 2 (.seq (.var 0)) b40_1)
    (.cons (.frz 1) (.cons (.ret (.call 28 (.cons (.var 1) .nil) .nil))
    .nil))))
def N41 : List Str := ["_law_weighing", "_law_weights_here", "_law_kinds", "_law_kind", "_law_number", "_law_odd"]
def b41_1 : Ss :=
    (.cons (.asg 4 (.sub (.var 0) (.var 3)))
    (.cons (.ite (.or (.not (.blt .isi (.cons (.var 4) (.cons (.kls 2) .nil)))) (.cmp .NotEq (.tup (.cons (.att (.var 4) 31) (.cons (.att (.var 4) 32) .nil))) (.get (.var 1) (.var 3) (.tup (.cons (.con (.int 0)) (.cons (.con (.int 1)) .nil))))))
    (.cons (.ret (.con (.bl false)))
    .nil)
    .nil)
    (.cons (.ite (.cmp .NotEq (.inn false (.var 3) (.var 0)) (.inn false (.var 3) (.var 2)))
    (.cons (.ret (.con (.bl false)))
    .nil)
    .nil)
    .nil)))
/-- _law_is -/
def b41 : Ss :=
    (.cons (.asg 2 (.blx .sorted (.lc (.blt .str (.cons (.var 3) .nil)) [3] true (.seq (.var 1)) (.cmp .NotEq (.sub (.sub (.var 1) (.var 3)) (.con (.int 0))) (.con (.int 0))))))
    (.cons (.ite (.or (.cmp .NotEq (.lc (.var 3) [3] true (.seq (.var 0)) .no) (.var 2)) (.cmp .NotEq (.blt .leno (.cons (.var 0) .nil)) (.blt .len (.cons (.var 2) .nil))))
    (.cons (.ret (.con (.bl false)))
    .nil)
    .nil)
    (.cons (.for1 3 (.seq (.lst (.cons (.con (.str "a")) (.cons (.con (.str "b")) (.cons (.con (.str "c")) (.cons (.con (.str "d")) (.cons (.con (.str "zz")) (.cons (.con (.str "q")) .nil)))))))) b41_1)
    (.cons (.ret (.cmp .Eq (.lc (.var 5) [5] true (.seq (.lst (.cons (.con .non) (.cons (.con (.int 0)) (.cons (.con (.str "")) (.cons (.con (.str "A")) (.cons (.tup (.cons (.con (.str "a")) .nil)) (.cons (.lst (.cons (.con (.str "a")) .nil)) (.cons .dct0 (.cons (.con (.bl true)) (.cons (.con (.str "aaaaaaaaa")) .nil))))))))))) (.inn false (.var 5) (.var 0))) (.lst .nil)))
    .nil))))
def N42 : List Str := ["_law_script", "_law_bag_here", "_law_lap", "_law_kinds", "_law_weights_here", "_law_given", "_law_kind", "_law_weighing", "_law_counts", "_law_told", "_law_more"]
def b42_1 : Ss :=
    (.cons (.seti (.var 8) (.var 6) (.call 37 (.cons (.var 1) (.cons (.lst (.cons (.con (.int 0)) (.cons (.con (.int 1)) (.cons (.con (.int 2)) (.cons (.con (.int 3)) (.cons (.con (.int 40)) (.cons (.bin .Pow (.con (.int 10)) (.con (.int 30))) .nil))))))) .nil)) .nil))
    .nil)
def b42_2 : Ss :=
    (.cons (.seti (.var 5) (.var 6) (.call 17 (.cons (.sub (.sub (.var 4) (.var 6)) (.con (.int 0))) (.cons (.sub (.sub (.var 4) (.var 6)) (.con (.int 1))) .nil)) .nil))
    .nil)
def b42_3 : Ss :=
    (.cons (.asg 3 (.call 37 (.cons (.var 1) (.cons (.lst (.cons (.lst .nil) (.cons (.lst (.cons (.con (.str "b")) .nil)) (.cons (.lst (.cons (.con (.str "b")) (.cons (.con (.str "a")) .nil))) (.cons (.lst (.cons (.con (.str "zz")) (.cons (.con (.str "c")) (.cons (.con (.str "a")) .nil)))) (.cons (.lst (.cons (.con (.str "d")) (.cons (.con (.str "zz")) (.cons (.con (.str "a")) (.cons (.con (.str "b")) (.cons (.con (.str "c")) .nil)))))) .nil)))))) .nil)) .nil))
    (.cons (.asg 4 (.call 41 (.cons (.var 1) (.cons (.var 3) (.cons (.con (.bl true)) .nil))) .nil))
    (.cons (.asg 5 .mdct0)
    (.cons (.for1 6 (.seq (.var 4)) b42_2)
    (.cons (.lck 5 (.asg 7 (.call 28 (.cons (.var 5) .nil) .nil)))
    (.cons (.seti (.var 5) (.con (.str "q")) (.con (.int 5)))
    (.cons (.ite (.cmp .NotEq (.var 3) (.lst .nil))
    (.cons (.seti (.var 5) (.sub (.var 3) (.con (.int 0))) (.con (.int 77)))
    .nil)
    .nil)
    (.cons (.frz 5) (.cons (.ite (.or (.not (.call 43 (.cons (.var 7) (.cons (.var 4) .nil)) .nil)) (.or (.cmp .NotEq (.var 7) (.call 42 (.cons (.var 4) .nil) .nil)) (.cmp .NotEq (.call 42 (.cons (.var 4) .nil) .nil) (.var 7))))
    (.cons (.ret (.con (.bl false)))
    .nil)
    .nil)
    (.cons (.asg 8 .mdct0)
    (.cons (.for1 6 (.seq (.lst (.cons (.con (.str "a")) (.cons (.con (.str "b")) (.cons (.con (.str "c")) (.cons (.con (.str "d")) (.cons (.con (.str "q")) .nil))))))) b42_1)
    (.cons (.frz 8) (.cons (.asg 9 (.cal (.var 7) (.cons (.call 11 (.cons (.var 8) .nil) .nil) .nil)))
    (.cons (.ite (.or (.not (.blt .isi (.cons (.var 9) (.cons (.kls 2) .nil)))) (.cmp .NotEq (.tup (.cons (.att (.var 9) 31) (.cons (.att (.var 9) 32) .nil))) (.call 40 (.cons (.var 4) (.cons (.var 8) .nil)) .nil)))
    (.cons (.ret (.con (.bl false)))
    .nil)
    .nil)
    (.cons (.ite (.or (.cmp .NotEq (.cal (.var 7) (.cons (.call 12 .nil .nil) .nil)) (.con (.int 0))) (.not (.call 43 (.cons (.var 7) (.cons (.var 4) .nil)) .nil)))
    (.cons (.ret (.con (.bl false)))
    .nil)
    .nil)
    (.cons (.asg 10 (.blx .mdict (.var 4)))
    (.cons (.seti (.var 10) (.con (.str "c")) (.call 39 (.cons (.lst (.cons (.get (.var 4) (.con (.str "c")) (.tup (.cons (.con (.int 0)) (.cons (.con (.int 1)) .nil)))) (.cons (.tup (.cons (.con (.int 1)) (.cons (.con (.int 3)) .nil))) .nil))) .nil) .nil))
    (.cons (.frz 10) (.cons (.ite (.or (.cmp .Eq (.var 7) (.call 42 (.cons (.var 10) .nil) .nil)) (.or (.cmp .Eq (.var 7) (.var 5)) (.cmp .Eq (.var 7) (.blt .stro (.cons (.var 7) .nil)))))
    (.cons (.ret (.con (.bl false)))
    .nil)
    .nil)
    .nil)))))))))))))))))))
/-- law -/
def b42 : Ss :=
    (.cons (.asg 1 (.call 35 (.cons (.var 0) .nil) .nil))
    (.cons (.for1 2 (.rng (.con (.int 6))) b42_3)
    (.cons (.ret (.con (.bl true)))
    .nil)))
def c0 : Cb := ⟨d0, N0, ["value"], 1, [(false, 0)], b0, none, .no⟩
def c1 : Cb := ⟨d1, N1, ["value", "low", "high"], 3, [(false, 0), (false, 1), (false, 2)], b1, none, .no⟩
def c2 : Cb := ⟨d2, N2, ["value"], 1, [(false, 0)], b2, none, .no⟩
def c3 : Cb := ⟨d3, N3, ["value"], 1, [(false, 0)], b3, none, .no⟩
def c4 : Cb := ⟨d4, N4, ["names"], 1, [(false, 0)], b4, none, .no⟩
def c5 : Cb := ⟨d5, N5, ["self", "rows"], 2, [(false, 0), (false, 1)], b5, some 0, .no⟩
def c6 : Cb := ⟨d6, N6, ["told", "more"], 2, [(false, 0), (false, 1)], b6, none, .no⟩
def c7 : Cb := ⟨d7, N7, ["pairs"], 1, [(false, 0)], b7, none, .no⟩
def c8 : Cb := ⟨d8, N8, ["pairs"], 1, [(false, 0)], b8, none, .no⟩
def c9 : Cb := ⟨d9, N9, ["kinds"], 1, [(false, 0)], b9, none, .no⟩
def c10 : Cb := ⟨d10, N10, ["counts", "more"], 2, [(false, 0), (false, 1)], b10, none, .no⟩
def c11 : Cb := ⟨d11, N11, ["self", "counts", "more"], 2, [(false, 0), (false, 1)], b11, some 1, .kw "more" []⟩
def c12 : Cb := ⟨d11, N11, ["self", "counts", "more"], 1, [(false, 0), (true, 0)], b11, some 1, .kw "more" []⟩
def c13 : Cb := ⟨d12, N12, ["self"], 1, [(false, 0)], b12, none, .no⟩
def c14 : Cb := ⟨d13, N13, ["self", "kind"], 2, [(false, 0), (false, 1)], b13, none, .no⟩
def c15 : Cb := ⟨d14, N14, ["one", "other"], 2, [(false, 0), (false, 1)], b14, none, .no⟩
def c16 : Cb := ⟨d15, N15, ["number"], 1, [(false, 0)], b15, none, .no⟩
def c17 : Cb := ⟨d16, N16, ["self", "top", "bottom"], 3, [(false, 0), (false, 1), (false, 2)], b16, some 2, .no⟩
def c18 : Cb := ⟨d16, N16, ["self", "top", "bottom"], 2, [(false, 0), (false, 1), (true, 0)], b16, some 2, .no⟩
def c19 : Cb := ⟨d17, N17, ["value"], 1, [(false, 0)], b17, none, .no⟩
def c20 : Cb := ⟨d18, N18, ["value"], 1, [(false, 0)], b18, none, .no⟩
def c21 : Cb := ⟨d19, N19, ["numbers"], 1, [(false, 0)], b19, none, .no⟩
def c22 : Cb := ⟨d20, N20, ["self", "other"], 2, [(false, 0), (false, 1)], b20, none, .no⟩
def c23 : Cb := ⟨d21, N21, ["self", "other"], 2, [(false, 0), (false, 1)], b21, none, .no⟩
def c24 : Cb := ⟨d22, N22, ["self", "other"], 2, [(false, 0), (false, 1)], b22, none, .no⟩
def c25 : Cb := ⟨d23, N23, ["self", "other"], 2, [(false, 0), (false, 1)], b23, none, .no⟩
def c26 : Cb := ⟨d24, N24, ["self", "other"], 2, [(false, 0), (false, 1)], b24, none, .no⟩
def c27 : Cb := ⟨d25, N25, ["self"], 1, [(false, 0)], b25, none, .no⟩
def c28 : Cb := ⟨d26, N26, ["self", "weights"], 2, [(false, 0), (false, 1)], b26, some 3, .no⟩
def c29 : Cb := ⟨d27, N27, ["self", "kind"], 2, [(false, 0), (false, 1)], b27, none, .no⟩
def c30 : Cb := ⟨d28, N28, ["self", "kind"], 2, [(false, 0), (false, 1)], b28, none, .no⟩
def c31 : Cb := ⟨d29, N29, ["self"], 1, [(false, 0)], b29, none, .no⟩
def c32 : Cb := ⟨d30, N30, ["self", "order"], 2, [(false, 0), (false, 1)], b30, none, .no⟩
def c33 : Cb := ⟨d31, N31, ["self", "other"], 2, [(false, 0), (false, 1)], b31, none, .no⟩
def c34 : Cb := ⟨d32, N32, ["self"], 1, [(false, 0)], b32, none, .no⟩
def c35 : Cb := ⟨d33, N33, ["_law_script"], 1, [(false, 0)], b33, none, .no⟩
def c36 : Cb := ⟨d34, N34, ["_law_bag_here", "_law_limit"], 2, [(false, 0), (false, 1)], b34, none, .no⟩
def c37 : Cb := ⟨d35, N35, ["_law_bag_here", "_law_some"], 2, [(false, 0), (false, 1)], b35, none, .no⟩
def c38 : Cb := ⟨d36, N36, ["_law_top", "_law_bottom"], 2, [(false, 0), (false, 1)], b36, none, .no⟩
def c39 : Cb := ⟨d37, N37, ["_law_pairs"], 1, [(false, 0)], b37, none, .no⟩
def c40 : Cb := ⟨d38, N38, ["_law_weights_here", "_law_counts"], 2, [(false, 0), (false, 1)], b38, none, .no⟩
def c41 : Cb := ⟨d39, N39, ["_law_bag_here", "_law_kinds", "_law_is_signed"], 3, [(false, 0), (false, 1), (false, 2)], b39, none, .no⟩
def c42 : Cb := ⟨d40, N40, ["_law_weights_here"], 1, [(false, 0)], b40, none, .no⟩
def c43 : Cb := ⟨d41, N41, ["_law_weighing", "_law_weights_here"], 2, [(false, 0), (false, 1)], b41, none, .no⟩
def c44 : Cb := ⟨d42, N42, ["_law_script"], 1, [(false, 0)], b42, none, .no⟩
def cbs : List Cb := [c0, c1, c2, c3, c4, c5, c6, c7, c8, c9, c10, c11, c12, c13, c14, c15, c16, c17, c18, c19, c20, c21, c22, c23, c24, c25, c26, c27, c28, c29, c30, c31, c32, c33, c34, c35, c36, c37, c38, c39, c40, c41, c42, c43, c44]
theorem bd0 : BindH c0 [] := fun T kV doc pm an cdv ct us ws its h1 h2 h3 => match us, ws, its, h1, h2, h3 with
  | [u0], [], [], _, _, _ => rfl
theorem bd1 : BindH c1 [] := fun T kV doc pm an cdv ct us ws its h1 h2 h3 => match us, ws, its, h1, h2, h3 with
  | [u0, u1, u2], [], [], _, _, _ => rfl
theorem bd2 : BindH c2 [] := fun T kV doc pm an cdv ct us ws its h1 h2 h3 => match us, ws, its, h1, h2, h3 with
  | [u0], [], [], _, _, _ => rfl
theorem bd3 : BindH c3 [] := fun T kV doc pm an cdv ct us ws its h1 h2 h3 => match us, ws, its, h1, h2, h3 with
  | [u0], [], [], _, _, _ => rfl
theorem bd4 : BindH c4 [] := fun T kV doc pm an cdv ct us ws its h1 h2 h3 => match us, ws, its, h1, h2, h3 with
  | [u0], [], [], _, _, _ => rfl
theorem bd5 : BindH c5 [] := fun T kV doc pm an cdv ct us ws its h1 h2 h3 => match us, ws, its, h1, h2, h3 with
  | [u0, u1], [], [], _, _, _ => rfl
theorem bd6 : BindH c6 [] := fun T kV doc pm an cdv ct us ws its h1 h2 h3 => match us, ws, its, h1, h2, h3 with
  | [u0, u1], [], [], _, _, _ => rfl
theorem bd7 : BindH c7 [] := fun T kV doc pm an cdv ct us ws its h1 h2 h3 => match us, ws, its, h1, h2, h3 with
  | [u0], [], [], _, _, _ => rfl
theorem bd8 : BindH c8 [] := fun T kV doc pm an cdv ct us ws its h1 h2 h3 => match us, ws, its, h1, h2, h3 with
  | [u0], [], [], _, _, _ => rfl
theorem bd9 : BindH c9 [] := fun T kV doc pm an cdv ct us ws its h1 h2 h3 => match us, ws, its, h1, h2, h3 with
  | [u0], [], [], _, _, _ => rfl
theorem bd10 : BindH c10 [] := fun T kV doc pm an cdv ct us ws its h1 h2 h3 => match us, ws, its, h1, h2, h3 with
  | [u0, u1], [], [], _, _, _ => rfl
theorem bd11 : BindH c11 [] := fun T kV doc pm an cdv ct us ws its h1 h2 h3 => match us, ws, its, h1, h2, h3 with
  | [u0, u1], [], [t0], _, _, _ => ⟨_, rfl, rfl⟩
theorem bd12 : BindH c12 [] := fun T kV doc pm an cdv ct us ws its h1 h2 h3 => match us, ws, its, h1, h2, h3 with
  | [u0], [], [t0], _, _, _ => ⟨_, rfl, rfl⟩
theorem bd13 : BindH c13 [] := fun T kV doc pm an cdv ct us ws its h1 h2 h3 => match us, ws, its, h1, h2, h3 with
  | [u0], [], [], _, _, _ => rfl
theorem bd14 : BindH c14 [] := fun T kV doc pm an cdv ct us ws its h1 h2 h3 => match us, ws, its, h1, h2, h3 with
  | [u0, u1], [], [], _, _, _ => rfl
theorem bd15 : BindH c15 [] := fun T kV doc pm an cdv ct us ws its h1 h2 h3 => match us, ws, its, h1, h2, h3 with
  | [u0, u1], [], [], _, _, _ => rfl
theorem bd16 : BindH c16 [] := fun T kV doc pm an cdv ct us ws its h1 h2 h3 => match us, ws, its, h1, h2, h3 with
  | [u0], [], [], _, _, _ => rfl
theorem bd17 : BindH c17 [] := fun T kV doc pm an cdv ct us ws its h1 h2 h3 => match us, ws, its, h1, h2, h3 with
  | [u0, u1, u2], [], [t0], _, _, _ => ⟨_, rfl, rfl⟩
theorem bd18 : BindH c18 [] := fun T kV doc pm an cdv ct us ws its h1 h2 h3 => match us, ws, its, h1, h2, h3 with
  | [u0, u1], [], [t0], _, _, _ => ⟨_, rfl, rfl⟩
theorem bd19 : BindH c19 [] := fun T kV doc pm an cdv ct us ws its h1 h2 h3 => match us, ws, its, h1, h2, h3 with
  | [u0], [], [], _, _, _ => rfl
theorem bd20 : BindH c20 [] := fun T kV doc pm an cdv ct us ws its h1 h2 h3 => match us, ws, its, h1, h2, h3 with
  | [u0], [], [], _, _, _ => rfl
theorem bd21 : BindH c21 [] := fun T kV doc pm an cdv ct us ws its h1 h2 h3 => match us, ws, its, h1, h2, h3 with
  | [u0], [], [], _, _, _ => rfl
theorem bd22 : BindH c22 [] := fun T kV doc pm an cdv ct us ws its h1 h2 h3 => match us, ws, its, h1, h2, h3 with
  | [u0, u1], [], [], _, _, _ => rfl
theorem bd23 : BindH c23 [] := fun T kV doc pm an cdv ct us ws its h1 h2 h3 => match us, ws, its, h1, h2, h3 with
  | [u0, u1], [], [], _, _, _ => rfl
theorem bd24 : BindH c24 [] := fun T kV doc pm an cdv ct us ws its h1 h2 h3 => match us, ws, its, h1, h2, h3 with
  | [u0, u1], [], [], _, _, _ => rfl
theorem bd25 : BindH c25 [] := fun T kV doc pm an cdv ct us ws its h1 h2 h3 => match us, ws, its, h1, h2, h3 with
  | [u0, u1], [], [], _, _, _ => rfl
theorem bd26 : BindH c26 [] := fun T kV doc pm an cdv ct us ws its h1 h2 h3 => match us, ws, its, h1, h2, h3 with
  | [u0, u1], [], [], _, _, _ => rfl
theorem bd27 : BindH c27 [] := fun T kV doc pm an cdv ct us ws its h1 h2 h3 => match us, ws, its, h1, h2, h3 with
  | [u0], [], [], _, _, _ => rfl
theorem bd28 : BindH c28 [] := fun T kV doc pm an cdv ct us ws its h1 h2 h3 => match us, ws, its, h1, h2, h3 with
  | [u0, u1], [], [], _, _, _ => rfl
theorem bd29 : BindH c29 [] := fun T kV doc pm an cdv ct us ws its h1 h2 h3 => match us, ws, its, h1, h2, h3 with
  | [u0, u1], [], [], _, _, _ => rfl
theorem bd30 : BindH c30 [] := fun T kV doc pm an cdv ct us ws its h1 h2 h3 => match us, ws, its, h1, h2, h3 with
  | [u0, u1], [], [], _, _, _ => rfl
theorem bd31 : BindH c31 [] := fun T kV doc pm an cdv ct us ws its h1 h2 h3 => match us, ws, its, h1, h2, h3 with
  | [u0], [], [], _, _, _ => rfl
theorem bd32 : BindH c32 [] := fun T kV doc pm an cdv ct us ws its h1 h2 h3 => match us, ws, its, h1, h2, h3 with
  | [u0, u1], [], [], _, _, _ => rfl
theorem bd33 : BindH c33 [] := fun T kV doc pm an cdv ct us ws its h1 h2 h3 => match us, ws, its, h1, h2, h3 with
  | [u0, u1], [], [], _, _, _ => rfl
theorem bd34 : BindH c34 [] := fun T kV doc pm an cdv ct us ws its h1 h2 h3 => match us, ws, its, h1, h2, h3 with
  | [u0], [], [], _, _, _ => rfl
theorem bd35 : BindH c35 [] := fun T kV doc pm an cdv ct us ws its h1 h2 h3 => match us, ws, its, h1, h2, h3 with
  | [u0], [], [], _, _, _ => rfl
theorem bd36 : BindH c36 [] := fun T kV doc pm an cdv ct us ws its h1 h2 h3 => match us, ws, its, h1, h2, h3 with
  | [u0, u1], [], [], _, _, _ => rfl
theorem bd37 : BindH c37 [] := fun T kV doc pm an cdv ct us ws its h1 h2 h3 => match us, ws, its, h1, h2, h3 with
  | [u0, u1], [], [], _, _, _ => rfl
theorem bd38 : BindH c38 [] := fun T kV doc pm an cdv ct us ws its h1 h2 h3 => match us, ws, its, h1, h2, h3 with
  | [u0, u1], [], [], _, _, _ => rfl
theorem bd39 : BindH c39 [] := fun T kV doc pm an cdv ct us ws its h1 h2 h3 => match us, ws, its, h1, h2, h3 with
  | [u0], [], [], _, _, _ => rfl
theorem bd40 : BindH c40 [] := fun T kV doc pm an cdv ct us ws its h1 h2 h3 => match us, ws, its, h1, h2, h3 with
  | [u0, u1], [], [], _, _, _ => rfl
theorem bd41 : BindH c41 [] := fun T kV doc pm an cdv ct us ws its h1 h2 h3 => match us, ws, its, h1, h2, h3 with
  | [u0, u1, u2], [], [], _, _, _ => rfl
theorem bd42 : BindH c42 [] := fun T kV doc pm an cdv ct us ws its h1 h2 h3 => match us, ws, its, h1, h2, h3 with
  | [u0], [], [], _, _, _ => rfl
theorem bd43 : BindH c43 [] := fun T kV doc pm an cdv ct us ws its h1 h2 h3 => match us, ws, its, h1, h2, h3 with
  | [u0, u1], [], [], _, _, _ => rfl
theorem bd44 : BindH c44 [] := fun T kV doc pm an cdv ct us ws its h1 h2 h3 => match us, ws, its, h1, h2, h3 with
  | [u0], [], [], _, _, _ => rfl
end L25
end PyD
namespace PyD.L25
open PySem PySem.Spec L2 PyD
theorem chk (K : PySem.W.Frag) : cbsB T (gamOf T hN K) cbs = true := by kernel_rfl
end PyD.L25
set_option Elab.async false
set_option linter.all false
set_option autoImplicit false
set_option maxRecDepth 100000
set_option maxHeartbeats 4000000
set_option exponentiation.threshold 10000
namespace PyD
open PySem PySem.Spec L2 TL
namespace L25
def letters : Str := "abcdefghijklmnopqrstuvwxyz"
def inL (d : D) : Bool := match d with
  | .str ⟨#[c]⟩ => decide (c ∈ letters.cps.toList)
  | _ => false
def isName (x : Str) : Bool := decide (1 ≤ x.length) && decide (x.length ≤ 8) && (charsD x).all inL
theorem name_len {x : Str} (h : isName x = true) : x.length ≤ 8 := by
  unfold isName at h
  simp only [Bool.and_eq_true, decide_eq_true_eq] at h
  exact h.1.2
theorem name_pos {x : Str} (h : isName x = true) : 1 ≤ x.length := by
  unfold isName at h
  simp only [Bool.and_eq_true, decide_eq_true_eq] at h
  exact h.1.1
theorem name_let {x : Str} (h : isName x = true) {c : Nat} (hc : c ∈ tl x) : c ∈ tl letters := by
  unfold isName at h
  rw [Bool.and_eq_true, charsD_tl, List.all_map, List.all_eq_true] at h
  have := h.2 c hc
  exact of_decide_eq_true this
theorem name_free {x : Str} (h : isName x = true) {s : Nat} (hs : s ∉ tl letters) : s ∉ tl x := fun z => hs (name_let h z)
def figs : Str := "0123456789"
def inF (d : D) : Bool := match d with
  | .str ⟨#[c]⟩ => decide (c ∈ figs.cps.toList)
  | _ => false
/-- an order's counts: at most n kinds -/
structure Wf (n : Nat) (q : Row) : Prop where
  nd : (ks q).Nodup
  srt : PyProof.Rows.sortedS (ks q) = true
  pos : ∀ p, p ∈ q → 0 < p.2
  nm : ∀ k, k ∈ ks q → isName k = true
  len : q.length ≤ n
def pairsD (ps : Row) : List D := ps.map fun p => .tup [.str p.1, .int p.2]
def Nms (ps : Row) : Prop := ∀ k, k ∈ ks ps → isName k = true
theorem Wf.mono {n m : Nat} {q : Row} (h : Wf n q) (l : n ≤ m) : Wf m q := ⟨h.nd, h.srt, h.pos, h.nm, Nat.le_trans h.len l⟩
theorem Wf.sum {n : Nat} {q : Row} (h : Wf n q) (k : Str) : sumOf q k = cnt q k := sumOf_nodup h.nd k
theorem Wf.nil {n : Nat} : Wf n [] := ⟨List.nodup_nil, rfl, by simp, by simp [ks], Nat.zero_le _⟩
theorem wf_zero {q : Row} (h : Wf 0 q) : q = [] := List.length_eq_zero_iff.mp (Nat.le_zero.mp h.len)
theorem nms_app {q r : Row} (h1 : Nms q) (h2 : Nms r) : Nms (q ++ r) := by
  intro x hx
  unfold ks at hx
  rw [List.map_append] at hx
  rcases List.mem_append.mp hx with hx | hx
  · exact h1 x hx
  · exact h2 x hx
/-- at most so much of each kind -/
def Most (b : Nat) (q : Row) : Prop := ∀ k, cnt q k ≤ b
theorem Most.at_ {b : Nat} {q : Row} (h : Most b q) (nd : (ks q).Nodup) {p : Str × Nat} (hp : p ∈ q) : p.2 ≤ b := by
  rw [← cnt_mem nd hp]; exact h _
def strD : D → Str
  | .str x => x
  | _ => ""
theorem keys_len (q : Row) : ((rowsD q).map fun p => kD p.1).length = q.length := by rw [List.length_map, len_rows]
theorem bd_nat {b n : Nat} (h : n < 2 ^ b) : Bd b (n : Int) := by
  unfold Bd
  rw [Int.natAbs_natCast]
  exact h
theorem mul_nat {a b n m : Nat} (h1 : n < 2 ^ a) (h2 : m < 2 ^ b) (ha : 0 < a) (hb : 0 < b) (hl : a + b ≤ 1000000) : MulOk (n : Int) (m : Int) := .inr (.inr ⟨a, b, bd_nat h1, bd_nat h2, ha, hb, hl⟩)
def ordD (q : Row) : D := .obj 1 [(30, dctQ q)]
def keptD (q : Row) : D := .obj 0 [(29, dctQ q)]
/-- n times the one is within the other, and no more -/
structure IsDiv (q r : Row) (n : Nat) : Prop where
  le : ∀ k, n * cnt r k ≤ cnt q k
  lt : ∃ k, cnt q k < (n + 1) * cnt r k
theorem IsDiv.uniq {q r : Row} {n m : Nat} (h : IsDiv q r n) (g : IsDiv q r m) : n = m := by
  obtain ⟨k, hk⟩ := h.lt
  obtain ⟨j, hj⟩ := g.lt
  have a := g.le k
  have b := h.le j
  have c : m < n + 1 := Nat.lt_of_mul_lt_mul_right (Nat.lt_of_le_of_lt a hk)
  have d : n < m + 1 := Nat.lt_of_mul_lt_mul_right (Nat.lt_of_le_of_lt b hj)
  omega
/-- other kinds -/
abbrev Ren := List (Str × Str)
def dctR (f : Ren) : D := .dct (f.map fun p => (Sum.inr p.1, D.str p.2))
def ren (f : Ren) (k : Str) : Str := ((f.find? fun p => decide (p.1 = k)).map (·.2)).getD k
def amt (q : Rat) : D := .obj 2 [(31, .int q.num), (32, .int q.den)]
def Nmb (d : D) (q : Rat) : Prop := d = amt q ∨ ∃ n : Int, d = .int n ∧ q = (n : Rat)
def Sz (n : Nat) (q : Rat) : Prop := q.num.natAbs < 2 ^ n ∧ q.den < 2 ^ n
theorem abs_is (t : Int) : (if t < 0 then -t else t) = ((t.natAbs : Nat) : Int) := by
  split <;> omega
theorem fdiv_neg_dvd {t g : Int} (hg : 0 < g) (h : g ∣ t) : t.fdiv (-g) = -t / g := by
  obtain ⟨k, rfl⟩ := h
  rw [show g * k = (-g) * (-k) by rw [Int.neg_mul_neg], Int.mul_fdiv_cancel_left _ (by omega)]
  rw [show -((-g) * (-k)) = g * (-k) by rw [Int.neg_mul_neg, Int.mul_neg], Int.mul_ediv_cancel_left _ (by omega)]
theorem num_of {t b g : Int} (hb : b ≠ 0) (hg : g = (b.gcd t : Int)) : t.fdiv (if b < 0 then -g else g) = (Rat.divInt t b).num := by
  have hp : 0 < g := by
    have := Int.gcd_pos_of_ne_zero_left t hb
    omega
  have hd : g ∣ t := by rw [hg]; exact Int.gcd_dvd_right b t
  rw [Rat.num_divInt, ← hg]
  split
  · rename_i h
    rw [fdiv_neg_dvd hp hd, Int.sign_eq_neg_one_of_neg h, Int.neg_one_mul]
  · rename_i h
    rw [Int.fdiv_eq_ediv_of_nonneg _ (by omega), Int.sign_eq_one_of_pos (by omega), Int.one_mul]
theorem den_of {t b g : Int} (hb : b ≠ 0) (hg : g = (b.gcd t : Int)) : b.fdiv (if b < 0 then -g else g) = ((Rat.divInt t b).den : Int) := by
  have hp : 0 < g := by
    have := Int.gcd_pos_of_ne_zero_left t hb
    omega
  have hd : g ∣ b := by rw [hg]; exact Int.gcd_dvd_left b t
  rw [Rat.den_divInt, if_neg hb, Int.natCast_ediv, ← hg]
  split
  · rename_i h
    rw [fdiv_neg_dvd hp hd, Int.ofNat_natAbs_of_nonpos (by omega)]
  · rename_i h
    rw [Int.fdiv_eq_ediv_of_nonneg _ (by omega), Int.natAbs_of_nonneg (by omega)]
theorem divInt_one (t : Int) : Rat.divInt t 1 = (t : Rat) := by
  have h := Rat.num_divInt_den (t : Rat)
  rw [Rat.num_intCast, Rat.den_intCast] at h
  exact h
theorem num_le {t b : Int} : (Rat.divInt t b).num.natAbs ≤ t.natAbs := by
  by_cases hb : b = 0
  · subst hb; simp
  · rw [Rat.num_divInt]
    have h1 := Int.natAbs_ediv_le_natAbs (b.sign * t) (b.gcd t)
    have h2 : (b.sign * t).natAbs = t.natAbs := by
      rw [Int.natAbs_mul, Int.natAbs_sign_of_ne_zero hb, Nat.one_mul]
    omega
theorem den_le {t b : Int} (hb : b ≠ 0) : (Rat.divInt t b).den ≤ b.natAbs := by
  rw [Rat.den_divInt, if_neg hb]
  exact Nat.div_le_self _ _
def Nmbs : List D → List Rat → Prop
  | [], qs => qs = []
  | d :: ds, qs => ∃ q r, qs = q :: r ∧ Nmb d q ∧ Nmbs ds r
theorem nm_num {d : D} {q : Rat} (h : Nmb d q) : (∃ n : Int, d = .int n ∧ q = (n : Rat) ∧ q.num = n ∧ q.den = 1) ∨ d = amt q := by
  rcases h with h | ⟨n, rfl, rfl⟩
  · exact .inr h
  · exact .inl ⟨n, rfl, rfl, Rat.num_intCast n, Rat.den_intCast n⟩
theorem fmod_nat (x y : Nat) : (x : Int).fmod (y : Int) = ((x % y : Nat) : Int) := by
  rw [Int.fmod_eq_emod_of_nonneg _ (Int.natCast_nonneg y)]
  rfl
theorem bd_le {n : Nat} {i j : Int} (h : Bd n j) (e : i.natAbs ≤ j.natAbs) : Bd n i := Nat.lt_of_le_of_lt e h
theorem bd_up {n m : Nat} {i : Int} (h : Bd n i) (e : n ≤ m) : Bd m i := Nat.lt_of_lt_of_le h (Nat.pow_le_pow_right (by omega) e)
theorem gcd_bd {b t : Int} (hb : b ≠ 0) : b.gcd t ≤ b.natAbs := by
  rw [Int.gcd_eq_natAbs_gcd_natAbs]
  exact Nat.gcd_le_left _ (by omega)
theorem mo {i j : Int} {n m : Nat} (h1 : Bd n i) (h2 : Bd m j) (hn : 0 < n) (hm : 0 < m) (l : n + m ≤ 1000000) : MulOk i j := .inr (.inr ⟨n, m, h1, h2, hn, hm, l⟩)
theorem bd_mul {i j : Int} {n m : Nat} (h1 : Bd n i) (h2 : Bd m j) : Bd (n + m) (i * j) := by
  unfold Bd at *
  rw [Int.natAbs_mul, Nat.pow_add]
  exact Nat.mul_lt_mul'' h1 h2
theorem bd_add {i j : Int} {n : Nat} (h1 : Bd n i) (h2 : Bd n j) : Bd (n + 1) (i + j) := by
  unfold Bd at *
  rw [Nat.pow_succ]
  omega
theorem bd_sub {i j : Int} {n : Nat} (h1 : Bd n i) (h2 : Bd n j) : Bd (n + 1) (i - j) := by
  unfold Bd at *
  rw [Nat.pow_succ]
  omega
theorem bd_neg {i : Int} {n : Nat} (h1 : Bd n i) : Bd n (-i) := by
  unfold Bd at *
  omega
section
variable {n m : Nat} {p q : Rat}
theorem Sz.nu (h : Sz n p) : Bd n p.num := h.1
theorem Sz.de (h : Sz n p) : Bd n (p.den : Int) := h.2
theorem den0 (p : Rat) : (p.den : Int) ≠ 0 := by have := p.den_pos; omega
theorem den2 (p q : Rat) : (p.den : Int) * q.den ≠ 0 := Int.mul_ne_zero (den0 p) (den0 q)
theorem add_is (p q : Rat) : Rat.divInt (p.num * q.den + q.num * p.den) (p.den * q.den) = p + q := by
  have := Rat.divInt_add_divInt p.num q.num (den0 p) (den0 q)
  rw [Rat.num_divInt_den, Rat.num_divInt_den] at this
  exact this.symm
theorem sub_is (p q : Rat) : Rat.divInt (p.num * q.den - q.num * p.den) (p.den * q.den) = p - q := by
  have := Rat.divInt_sub_divInt p.num q.num (den0 p) (den0 q)
  rw [Rat.num_divInt_den, Rat.num_divInt_den] at this
  exact this.symm
theorem mul_is (p q : Rat) : Rat.divInt (p.num * q.num) (p.den * q.den) = p * q := by
  have := Rat.divInt_mul_divInt p.num q.num (d₁ := p.den) (d₂ := q.den)
  rw [Rat.num_divInt_den, Rat.num_divInt_den] at this
  exact this.symm
theorem div_is (p q : Rat) : Rat.divInt (p.num * q.den) (p.den * q.num) = p / q := by
  have h2 := Rat.inv_divInt q.num q.den
  rw [Rat.num_divInt_den] at h2
  have := Rat.divInt_mul_divInt p.num q.den (d₁ := p.den) (d₂ := q.num)
  rw [Rat.num_divInt_den, ← h2, ← Rat.div_def] at this
  exact this.symm
theorem neg_is (p : Rat) : Rat.divInt (-p.num) p.den = -p := by
  rw [← Rat.neg_divInt, Rat.num_divInt_den]
theorem eq_is (p q : Rat) : decide (p = q) = (p.num == q.num && ((p.den : Int) == (q.den : Int) && true)) := by
  rw [Bool.eq_iff_iff]
  simp only [decide_eq_true_eq, Bool.and_eq_true, beq_iff_eq, and_true]
  constructor
  · rintro rfl; exact ⟨rfl, rfl⟩
  · rintro ⟨h1, h2⟩; exact Rat.ext h1 (by omega)
theorem dv {n : Nat} {p : Rat} (h : Sz n p) (hn : n ≤ 8000) : DivOk (p.den : Int) := ⟨den0 p, bd_up h.de hn⟩
theorem num0 {q : Rat} (h : q ≠ 0) : q.num ≠ 0 := fun e => h (Rat.num_eq_zero.mp e)
theorem sz_le {a b : Nat} (h : Sz a p) (l : a ≤ b) : Sz b p := ⟨Nat.lt_of_lt_of_le h.1 (Nat.pow_le_pow_right (by omega) l), Nat.lt_of_lt_of_le h.2 (Nat.pow_le_pow_right (by omega) l)⟩
theorem sz_div {t b : Int} {a : Nat} (hb : b ≠ 0) (h1 : Bd a t) (h2 : Bd a b) : Sz a (Rat.divInt t b) := ⟨Nat.lt_of_le_of_lt num_le h1, Nat.lt_of_le_of_lt (den_le hb) h2⟩
theorem sz_add {a b : Nat} (h1 : Sz a p) (h2 : Sz b q) : Sz (a + b + 1) (p + q) := by
  rw [← add_is]
  refine sz_div (den2 p q) (bd_add (bd_mul h1.nu h2.de) ?_) (bd_up (bd_mul h1.de h2.de) (by omega))
  rw [Nat.add_comm]
  exact bd_mul h2.nu h1.de
theorem sz_sub {a b : Nat} (h1 : Sz a p) (h2 : Sz b q) : Sz (a + b + 1) (p - q) := by
  rw [← sub_is]
  refine sz_div (den2 p q) (bd_sub (bd_mul h1.nu h2.de) ?_) (bd_up (bd_mul h1.de h2.de) (by omega))
  rw [Nat.add_comm]
  exact bd_mul h2.nu h1.de
theorem sz_mul {a b : Nat} (h1 : Sz a p) (h2 : Sz b q) : Sz (a + b) (p * q) := by
  rw [← mul_is]
  exact sz_div (den2 p q) (bd_mul h1.nu h2.nu) (bd_mul h1.de h2.de)
end
def intS (i : Int) : Str := Str.ofString (toString i)
def ratS (q : Rat) : Str := if q.den = 1 then intS q.num else Str.empty ++ intS q.num ++ "/" ++ intS q.den
theorem log_lt {i : Int} (h : i.natAbs < 2 ^ 1900) : i.natAbs.log2 < 1920 := by
  by_cases e : i.natAbs = 0
  · rw [e]; decide
  · exact Nat.lt_trans ((Nat.log2_lt e).mpr h) (by decide)
theorem intS_len {i : Int} (h : i.natAbs < 2 ^ 1900) : (intS i).length ≤ 2000 := by
  have e := PySem.int_text_length_le (k := 1920) (by decide) (log_lt h)
  unfold intS
  rw [ofString_length]
  omega
theorem ratS_len {q : Rat} (h : Sz 1900 q) : (ratS q).length ≤ 4001 := by
  have e1 := intS_len h.1
  have e2 := intS_len (i := (q.den : Int)) (by rw [Int.natAbs_natCast]; exact h.2)
  unfold ratS
  split
  · omega
  · have s1 : ("/" : Str).length = 1 := by decide +kernel
    rw [len_app, len_app, empty_app, s1]
    omega
/-- a number for each kind -/
abbrev Wr := List (Str × Rat)
def wL (w : Wr) : List (Key × D) := w.map fun p => (Sum.inr p.1, amt p.2)
def wghD (w : Wr) : D := .obj 3 [(34, .dct (wL w))]
def wk (w : Wr) : List Str := w.map (·.1)
def wt (w : Wr) (k : Str) : Rat := ((w.find? fun p => decide (p.1 = k)).map (·.2)).getD 0
/-- what a weighing is made of -/
abbrev Wi := List (Str × D × Rat)
def wiL (z : Wi) : List (Key × D) := z.map fun p => (Sum.inr p.1, p.2.1)
def wik (z : Wi) : List Str := z.map (·.1)
def wiq (z : Wi) (k : Str) : Rat := ((z.find? fun p => decide (p.1 = k)).map (·.2.2)).getD 0
def wOf (z : Wi) (ys : List Str) : Wr := (ys.filter fun k => decide (wiq z k ≠ 0)).map fun k => (k, wiq z k)
structure WiOk (n : Nat) (z : Wi) : Prop where
  nd : (wik z).Nodup
  nm : ∀ k, k ∈ wik z → isName k = true
  len : z.length < 64
  num : ∀ p, p ∈ z → Nmb p.2.1 p.2.2 ∧ Sz n p.2.2
/-- a dict that never changes, or one that is locked -/
def DAt (d : D) (M : Mst) (kds : List (Key × D)) : Prop := d = .dct kds ∨ ∃ a ob vs, d = .loc a ∧ M a = some (.lok ob vs kds)
theorem wi_keys (z : Wi) : (wiL z).map (fun p => kD p.1) = (wik z).map D.str := by
  unfold wiL wik
  rw [List.map_map, List.map_map]
  rfl
theorem wi_at : ∀ {z : Wi} {k : Str}, k ∈ wik z → ∃ x q, (k, x, q) ∈ z ∧ valD (wiL z) (.inr k) = some x ∧ wiq z k = q
  | p :: r, k, h => by
    obtain ⟨j, x, q⟩ := p
    by_cases c : j = k
    · subst c
      exact ⟨x, q, List.mem_cons_self, by simp [wiL, valD, List.find?_cons], by simp [wiq, List.find?_cons]⟩
    · have hk : k ∈ wik r := by
        unfold wik at h ⊢
        rw [List.map_cons, List.mem_cons] at h
        rcases h with h | h
        · exact absurd h.symm c
        · exact h
      obtain ⟨y, q2, h1, h2, h3⟩ := wi_at hk
      have c2 : ¬ ((Sum.inr j : Key) = Sum.inr k) := fun e => c (Sum.inr.inj e)
      refine ⟨y, q2, List.mem_cons_of_mem _ h1, ?_, ?_⟩
      · rw [← h2]
        simp [wiL, valD, List.find?_cons, c2, c]
      · rw [← h3]
        simp [wiq, List.find?_cons, c]
theorem int_ne0 (n : Int) : (!(n == 0)) = decide ((n : Rat) ≠ 0) := by
  have e : ((n : Rat) = 0) ↔ n = 0 := by
    constructor
    · intro h
      have := congrArg Rat.num h
      rwa [Rat.num_intCast] at this
    · rintro rfl; rfl
  by_cases h : n = 0
  · subst h; rfl
  · have h2 : (n : Rat) ≠ 0 := fun z => h (e.mp z)
    rw [decide_eq_true h2, beq_eq_false_iff_ne.mpr h]
    rfl
theorem tyD_lok {M : Mst} {a : Addr} {ob : Obj} {vs : List (Key × V)} {kds : List (Key × D)} (h : M a = some (.lok ob vs kds)) : tyD (.loc a) M = some (.b "dict") := by
  unfold tyD
  dsimp only
  rw [h]
theorem isi_go {G : Gam} {Γ' : Nat → SpD} {d t : D} {ρ : Slots} {M : Mst} {K : KD} {E : ED} {a b : Ty} {z : Bool} (h1 : tyD d M = some a) (h2 : asTy t = some b) (h3 : G.ist a b = some z) (hk : K (.bl z) M) : bltD G Γ' .isi [d, t] ρ M K E := by
  unfold bltD
  dsimp only
  rw [h1, h2]
  dsimp only
  rw [h3]
  exact hk
theorem wt_none {v : Wr} {k : Str} (h : k ∉ wk v) : wt v k = 0 := by
  induction v with
  | nil => rfl
  | cons p r ih =>
    obtain ⟨j, q⟩ := p
    have h2 : k ∉ j :: wk r := h
    rw [List.mem_cons, not_or] at h2
    have c : ¬ j = k := fun e => h2.1 e.symm
    have e2 : wt ((j, q) :: r) k = wt r k := by simp [wt, List.find?_cons, c]
    rw [e2]
    exact ih h2.2
theorem wt_mem {v : Wr} (nd : (wk v).Nodup) {p : Str × Rat} (h : p ∈ v) : wt v p.1 = p.2 := by
  induction v with
  | nil => cases h
  | cons r v ih =>
    obtain ⟨j, q⟩ := r
    obtain ⟨n1, n2⟩ := List.nodup_cons.mp (show (j :: wk v).Nodup from nd)
    rcases List.mem_cons.mp h with rfl | h
    · simp [wt, List.find?_cons]
    · have c : ¬ j = p.1 := fun e => n1 (by rw [e]; exact List.mem_map_of_mem h)
      have e2 : wt ((j, q) :: v) p.1 = wt v p.1 := by simp [wt, List.find?_cons, c]
      rw [e2]
      exact ih n2 h
theorem wt_at {v : Wr} {k : Str} (h : k ∈ wk v) : ∃ p, p ∈ v ∧ p.1 = k := List.mem_map.mp h
theorem wr_mk {v : Wr} (nd : (wk v).Nodup) : v = (wk v).map fun k => (k, wt v k) := by
  unfold wk
  rw [List.map_map]
  conv => lhs; rw [← List.map_id v]
  refine List.map_congr_left fun p hp => ?_
  show p = (p.1, wt v p.1)
  rw [wt_mem nd hp]
theorem len_wk (v : Wr) : (wk v).length = v.length := by unfold wk; rw [List.length_map]
structure Wq (n : Nat) (w : Wr) : Prop where
  nd : (wk w).Nodup
  srt : PyProof.Rows.sortedS (wk w) = true
  nz : ∀ p, p ∈ w → p.2 ≠ 0
  nm : ∀ k, k ∈ wk w → isName k = true
  len : w.length ≤ n
theorem wq_mem {n : Nat} {w : Wr} (h : Wq n w) (k : Str) : k ∈ wk w ↔ wt w k ≠ 0 := by
  constructor
  · intro hk
    obtain ⟨p, hp, rfl⟩ := wt_at hk
    rw [wt_mem h.nd hp]
    exact h.nz p hp
  · intro hk
    by_cases c : k ∈ wk w
    · exact c
    · exact absurd (wt_none c) hk
theorem wq_ext {n m : Nat} {w v : Wr} (hw : Wq n w) (hv : Wq m v) (h : ∀ k, wt w k = wt v k) : w = v := by
  have e : wk w = wk v := sorted_eq hw.nd hv.nd (sorted_pair hw.srt) (sorted_pair hv.srt) fun k => by rw [wq_mem hw, wq_mem hv, h]
  rw [wr_mk hw.nd, wr_mk hv.nd, e]
  exact List.map_congr_left fun k _ => by rw [h]
theorem wk_wOf (z : Wi) (ys : List Str) : wk (wOf z ys) = ys.filter fun k => decide (wiq z k ≠ 0) := by
  unfold wk wOf
  rw [List.map_map, List.map_id'']
  intro x
  rfl
theorem wiq_none {z : Wi} {k : Str} (h : k ∉ wik z) : wiq z k = 0 := by
  unfold wiq
  cases e : z.find? fun p => decide (p.1 = k) with
  | none => rfl
  | some p =>
    have h1 := List.mem_of_find?_eq_some e
    have h2 := List.find?_some e
    exact absurd (by rw [← of_decide_eq_true h2]; exact List.mem_map_of_mem h1) h
theorem wOf_wq {n : Nat} {z : Wi} {ys : List Str} (hz : WiOk n z) (hp : ys.Perm (wik z)) (hs : PyProof.Rows.sortedS ys = true) : Wq z.length (wOf z ys) ∧ ∀ k, wt (wOf z ys) k = wiq z k := by
  have nd : (wk (wOf z ys)).Nodup := by
    rw [wk_wOf]
    exact (hp.nodup_iff.mpr hz.nd).filter _
  have vl : ∀ p, p ∈ wOf z ys → p.2 = wiq z p.1 ∧ p.2 ≠ 0 := fun p h => by
    obtain ⟨k, hk, rfl⟩ := List.mem_map.mp h
    exact ⟨rfl, of_decide_eq_true (List.mem_filter.mp hk).2⟩
  refine ⟨⟨nd, ?_, fun p h => (vl p h).2, fun k hk => ?_, ?_⟩, fun k => ?_⟩
  · rw [wk_wOf]
    exact sorted_filter hs _
  · rw [wk_wOf] at hk
    exact hz.nm k (hp.mem_iff.mp (List.mem_filter.mp hk).1)
  · rw [← len_wk, wk_wOf]
    have := List.length_filter_le (fun k => decide (wiq z k ≠ 0)) ys
    rw [hp.length_eq] at this
    unfold wik at this
    rw [List.length_map] at this
    exact this
  · by_cases c : k ∈ wk (wOf z ys)
    · obtain ⟨p, h1, rfl⟩ := wt_at c
      rw [wt_mem nd h1, (vl p h1).1]
    · rw [wt_none c]
      rw [wk_wOf, List.mem_filter, not_and] at c
      by_cases d : k ∈ ys
      · have := c d
        rw [decide_eq_true_eq, ne_eq, Classical.not_not] at this
        exact this.symm
      · exact (wiq_none fun e => d (hp.mem_iff.mpr e)).symm
theorem weq_iff {n m : Nat} {w v : Wr} (hw : Wq n w) (hv : Wq m v) : (w.length = v.length ∧ ∀ p, p ∈ w → valD (wL v) (.inr p.1) = some (amt p.2)) ↔ ∀ k, wt w k = wt v k := by
  constructor
  · rintro ⟨hl, h⟩ k
    have vk : ∀ p, p ∈ w → p.1 ∈ wk v ∧ wt v p.1 = p.2 := fun p hp => by
      have e := h p hp
      have hk : p.1 ∈ wk v := by
        by_cases c : p.1 ∈ wk v
        · exact c
        · exfalso
          clear h
          have : ∀ v : Wr, p.1 ∉ wk v → valD (wL v) (.inr p.1) = none := by
            intro v
            induction v with
            | nil => intro _; rfl
            | cons r v ih =>
              intro hn
              obtain ⟨j, q⟩ := r
              have h2 : p.1 ∉ j :: wk v := hn
              rw [List.mem_cons, not_or] at h2
              have c2 : ¬ ((Sum.inr j : Key) = Sum.inr p.1) := fun e => h2.1 (Sum.inr.inj e).symm
              have e1 : valD (wL ((j, q) :: v)) (.inr p.1) = valD (wL v) (.inr p.1) := by simp [wL, valD, List.find?_cons, c2]
              rw [e1]
              exact ih h2.2
          rw [this v c] at e
          cases e
      refine ⟨hk, ?_⟩
      obtain ⟨r, hr, e2⟩ := wt_at hk
      have : ∀ v : Wr, p.1 ∈ wk v → valD (wL v) (.inr p.1) = some (amt (wt v p.1)) := by
        intro v
        induction v with
        | nil => intro h; cases h
        | cons r v ih =>
          intro hn
          obtain ⟨j, q⟩ := r
          by_cases c : j = p.1
          · rw [← c]
            simp [wL, wt, valD, List.find?_cons]
          · have c2 : ¬ ((Sum.inr j : Key) = Sum.inr p.1) := fun e => c (Sum.inr.inj e)
            have e1 : valD (wL ((j, q) :: v)) (.inr p.1) = valD (wL v) (.inr p.1) := by simp [wL, valD, List.find?_cons, c2, c]
            have e2 : wt ((j, q) :: v) p.1 = wt v p.1 := by simp [wt, List.find?_cons, c]
            have hn2 : p.1 ∈ j :: wk v := hn
            rw [e1, e2]
            exact ih ((List.mem_cons.mp hn2).resolve_left fun z => c z.symm)
      rw [this v hk] at e
      have e3 := Option.some.inj e
      unfold amt at e3
      simp only [D.obj.injEq, List.cons.injEq, Prod.mk.injEq, D.int.injEq, and_true, true_and] at e3
      exact Rat.ext e3.1 (by omega)
    by_cases c : k ∈ wk w
    · obtain ⟨p, hp, rfl⟩ := wt_at c
      rw [wt_mem hw.nd hp, (vk p hp).2]
    · rw [wt_none c]
      by_cases d : k ∈ wk v
      · exfalso
        have s : ∀ x, x ∈ k :: wk w → x ∈ wk v := fun x hx => by
          rcases List.mem_cons.mp hx with rfl | hx
          · exact d
          · obtain ⟨p, hp, rfl⟩ := wt_at hx
            exact (vk p hp).1
        have := sub_len (List.nodup_cons.mpr ⟨c, hw.nd⟩) s
        rw [List.length_cons, len_wk, len_wk] at this
        omega
      · exact (wt_none d).symm
  · intro h
    obtain rfl := wq_ext hw hv h
    refine ⟨rfl, fun p hp => ?_⟩
    have : ∀ v : Wr, (wk v).Nodup → p ∈ v → valD (wL v) (.inr p.1) = some (amt p.2) := by
      intro v
      induction v with
      | nil => intro _ h; cases h
      | cons r v ih =>
        intro nd hn
        obtain ⟨j, q⟩ := r
        obtain ⟨n1, n2⟩ := List.nodup_cons.mp (show (j :: wk v).Nodup from nd)
        rcases List.mem_cons.mp hn with rfl | hn
        · simp [wL, valD, List.find?_cons]
        · have c : ¬ j = p.1 := fun e => n1 (by rw [e]; exact List.mem_map_of_mem hn)
          have c2 : ¬ ((Sum.inr j : Key) = Sum.inr p.1) := fun e => c (Sum.inr.inj e)
          have e1 : valD (wL ((j, q) :: v)) (.inr p.1) = valD (wL v) (.inr p.1) := by simp [wL, valD, List.find?_cons, c2, c]
          rw [e1]
          exact ih n2 hn
    exact this w hw.nd hp
def wPart (p : Str × Rat) : Str := Str.empty ++ p.1 ++ " " ++ ratS p.2
def wTxt (w : Wr) : Str := if w = [] then "-" else Txt.join " " (w.map wPart)
theorem val_wL {w : Wr} (nd : (wk w).Nodup) {p : Str × Rat} (hp : p ∈ w) : valD (wL w) (.inr p.1) = some (amt p.2) := by
  induction w with
  | nil => cases hp
  | cons r v ih =>
    obtain ⟨j, q⟩ := r
    obtain ⟨n1, n2⟩ := List.nodup_cons.mp (show (j :: wk v).Nodup from nd)
    rcases List.mem_cons.mp hp with rfl | hn
    · simp [wL, valD, List.find?_cons]
    · have c : ¬ j = p.1 := fun e => n1 (by rw [e]; exact List.mem_map_of_mem hn)
      have c2 : ¬ ((Sum.inr j : Key) = Sum.inr p.1) := fun e => c (Sum.inr.inj e)
      have e1 : valD (wL ((j, q) :: v)) (.inr p.1) = valD (wL v) (.inr p.1) := by simp [wL, valD, List.find?_cons, c2, c]
      rw [e1]
      exact ih n2 hn
theorem wL_kD (w : Wr) : (wL w).map (fun p => kD p.1) = (wk w).map D.str := by
  unfold wL wk
  rw [List.map_map, List.map_map]
  rfl
theorem sum_map_le {α : Type} {f : α → Nat} {c : Nat} : ∀ {l : List α}, (∀ x ∈ l, f x ≤ c) → (l.map f).sum ≤ c * l.length
  | [], _ => Nat.le_refl _
  | a :: l, h => by
    have h1 := h a List.mem_cons_self
    have h2 := sum_map_le (l := l) fun x hx => h x (List.mem_cons_of_mem _ hx)
    rw [List.map_cons, List.sum_cons, List.length_cons, Nat.mul_add, Nat.mul_one]
    omega
theorem wPart_len {p : Str × Rat} (h1 : isName p.1 = true) (h2 : Sz 1900 p.2) : (wPart p).length ≤ 4010 := by
  have := name_len h1
  have := ratS_len h2
  have s1 : (" " : Str).length = 1 := by decide +kernel
  unfold wPart
  rw [len_app, len_app, empty_app, s1]
  omega
def flatD : D → Prop
  | .str x => isName x = true
  | .int _ => True
  | _ => False
theorem nm_ok {x : Str} (h : isName x = true) : PyData.strOk x = true := by
  unfold PyData.strOk
  rw [← Array.all_toList, List.all_eq_true]
  intro c hc
  exact (show ∀ c ∈ tl letters, decide (c < 0x110000) = true from by decide +kernel) c (name_let h hc)
theorem flat_ok : ∀ {ds : List D}, (∀ d, d ∈ ds → flatD d) → ∃ ps, toPs ds = some ps ∧ PyData.canLayAll0 ps = true ∧ PyData.depthAll ps = 0 ∧ PyData.eqvAll ps ps = true
  | [], _ => ⟨[], by unfold toPs; rfl, by unfold PyData.canLayAll0; rfl, by unfold PyData.depthAll; rfl, by unfold PyData.eqvAll; rfl⟩
  | d :: ds, h => by
    obtain ⟨ps, e1, e2, e3, e4⟩ := flat_ok (ds := ds) fun d hd => h d (List.mem_cons_of_mem _ hd)
    have hd := h d List.mem_cons_self
    cases d with
    | str x =>
      refine ⟨.str x :: ps, by unfold toPs toP; rw [e1], ?_, ?_, ?_⟩
      · unfold PyData.canLayAll0 PyData.canLay0; rw [nm_ok hd, e2]; rfl
      · unfold PyData.depthAll PyData.depth; rw [e3]; rfl
      · unfold PyData.eqvAll PyData.eqv; rw [beq_self_eq_true, e4]; rfl
    | int i =>
      refine ⟨.int i :: ps, by unfold toPs toP; rw [e1], ?_, ?_, ?_⟩
      · unfold PyData.canLayAll0 PyData.canLay0; rw [e2]; rfl
      · unfold PyData.depthAll PyData.depth; rw [e3]; rfl
      · unfold PyData.eqvAll PyData.eqv; rw [beq_self_eq_true, e4]; rfl
    | _ => exact hd.elim
theorem ne_same {G : Gam} {Γ : Nat → SpD} {ds : List D} {ρ : Slots} {M : Mst} {K1 : KD} {E1 : ED} (h : ∀ d, d ∈ ds → flatD d) (hK : K1 (.bl false) M) : cmpD G Γ .NotEq (.lst ds) (.lst ds) ρ M K1 E1 := by
  obtain ⟨ps, e1, e2, e3, e4⟩ := flat_ok h
  have hp : toP (.lst ds) = some (.list ps) := by unfold toP; rw [e1]; rfl
  have hs : SeqAt.shaped (.list ps) = true := by
    unfold SeqAt.shaped PyData.canLay0 PyData.depth
    rw [e2, e3]
    rfl
  have he : PyData.eqv (.list ps) (.list ps) = true := by unfold PyData.eqv; exact e4
  show neP G Γ (.lst ds) (.lst ds) (fun z M' => K1 (.bl z) M') M E1
  unfold neP
  rw [hp]
  refine ⟨hs, hs, ?_⟩
  rw [he]
  exact hK
theorem var_ne {G : Gam} {Γ : Nat → SpD} {ds : List D} {ρ : Slots} {M : Mst} {K1 : KD} {E1 : ED} {i : Nat} (hi : ρ[i]? = some (some (.lst ds))) (h : ∀ d, d ∈ ds → flatD d) (hK : K1 (.bl false) M) : bindD (sem G Γ (.var i)).1 (fun e => cmpD G Γ .NotEq (.lst ds) e) ρ M K1 E1 := by
  show (match ρ[i]? with
    | some (some d) => (fun e => cmpD G Γ .NotEq (.lst ds) e) d ρ M K1 E1
    | _ => False)
  rw [hi]
  exact ne_same h hK
theorem ne_str {G : Gam} {Γ : Nat → SpD} {x y : Str} {ρ : Slots} {M : Mst} {K1 : KD} {E1 : ED} (e : x = y) (h : K1 (.bl false) M) : cmpD G Γ .NotEq (.str x) (.str y) ρ M K1 E1 := by
  subst e
  show K1 (.bl (!(x == x))) M
  rw [beq_self_eq_true]
  exact h
theorem eq_str {G : Gam} {Γ : Nat → SpD} {x y : Str} {ρ : Slots} {M : Mst} {K1 : KD} {E1 : ED} (e : x = y) (h : K1 (.bl true) M) : cmpD G Γ .Eq (.str x) (.str y) ρ M K1 E1 := by
  subst e
  show K1 (.bl (x == x)) M
  rw [beq_self_eq_true]
  exact h
theorem var_eq {G : Gam} {Γ : Nat → SpD} {x y : Str} {ρ : Slots} {M : Mst} {K1 : KD} {E1 : ED} {i : Nat} (hi : ρ[i]? = some (some (.str y))) (e : x = y) (h : K1 (.bl true) M) : bindD (sem G Γ (.var i)).1 (fun e => cmpD G Γ .Eq (.str x) e) ρ M K1 E1 := by
  show (match ρ[i]? with
    | some (some d) => (fun e => cmpD G Γ .Eq (.str x) e) d ρ M K1 E1
    | _ => False)
  rw [hi]
  exact eq_str e h
theorem and_no {G : Gam} {Γ : Nat → SpD} {t : TD} {ρ : Slots} {M : Mst} {K1 : KD} {E1 : ED} (h : K1 (.bl false) M) : bindD (truD G Γ (.bl false)) (thenD t (conD (.bl false))) ρ M K1 E1 := h
theorem and_yes {G : Gam} {Γ : Nat → SpD} {t : TD} {ρ : Slots} {M : Mst} {K1 : KD} {E1 : ED} (h : t ρ M K1 E1) : bindD (truD G Γ (.bl true)) (thenD t (conD (.bl true))) ρ M K1 E1 := h
theorem and_go {G : Gam} {Γ : Nat → SpD} {t : TD} {b : Bool} {ρ : Slots} {M : Mst} {K1 : KD} {E1 : ED} (h0 : b = false → K1 (.bl false) M) (h1 : b = true → t ρ M K1 E1) : bindD (truD G Γ (.bl b)) (thenD t (conD (.bl b))) ρ M K1 E1 := by
  cases b
  · exact h0 rfl
  · exact h1 rfl
theorem eqd_and {G : Gam} {Γ : Nat → SpD} {t : TD} {b : Bool} {ρ : Slots} {M : Mst} {K1 : KD} {E1 : ED} (h0 : b = false → K1 (.bl false) M) (h1 : b = true → t ρ M K1 E1) : bindD (truD G Γ (.bl (if false = true then !b else b))) (thenD t (conD (.bl (if false = true then !b else b)))) ρ M K1 E1 := by
  cases b
  · exact h0 rfl
  · exact h1 rfl
theorem bools {a b c d e f : Bool} (h1 : a = d) (h2 : b = e) (h3 : c = f) : PyData.shown (.list [.bool a, .bool b, .bool c]) = PyData.shown (.list [.bool d, .bool e, .bool f]) := by rw [h1, h2, h3]
theorem repr3 (a b c : Bool) : PyData.showable (.list [.bool a, .bool b, .bool c]) = true ∧ PyData.depth (.list [.bool a, .bool b, .bool c]) ≤ 50 ∧ PyData.hasDict (.list [.bool a, .bool b, .bool c]) = false ∧ (PyData.shown (.list [.bool a, .bool b, .bool c])).length ≤ 1000000 :=
  repr_go ⟨trivial, trivial, trivial, trivial⟩ (by show 3 ≤ 14; omega)
theorem eq_nil {G : Gam} {Γ : Nat → SpD} {ds : List D} {ρ : Slots} {M : Mst} {K1 : KD} {E1 : ED} (h : ∀ d, d ∈ ds → flatD d) (hK : K1 (.bl ds.isEmpty) M) : cmpD G Γ .Eq (.lst ds) (.lst []) ρ M K1 E1 := by
  obtain ⟨ps, e1, e2, e3, e4⟩ := flat_ok h
  have hp : toP (.lst ds) = some (.list ps) := by unfold toP; rw [e1]; rfl
  have hs : SeqAt.shaped (.list ps) = true := by
    unfold SeqAt.shaped PyData.canLay0 PyData.depth
    rw [e2, e3]
    rfl
  have he : PyData.eqv (.list ps) (.list []) = ds.isEmpty := by
    unfold PyData.eqv
    cases ds with
    | nil =>
      unfold toPs at e1
      cases e1
      unfold PyData.eqvAll
      rfl
    | cons d ds =>
      cases ps with
      | nil =>
        unfold toPs at e1
        split at e1 <;> cases e1
      | cons p ps =>
        unfold PyData.eqvAll
        rfl
  show eqT G Γ 6 (.lst ds) (.lst []) (fun z M' => K1 (.bl z) M') M E1
  unfold eqT
  rw [hp]
  refine ⟨hs, by decide, ?_⟩
  rw [he]
  exact hK
theorem strs_ok {xs : List Str} (h : ∀ x, x ∈ xs → isName x = true) : toPs (xs.map D.str) = some (xs.map PyData.str) ∧ PyData.canLayAll0 (xs.map PyData.str) = true ∧ PyData.depthAll (xs.map PyData.str) = 0 := by
  induction xs with
  | nil => exact ⟨by unfold toPs; rfl, by unfold PyData.canLayAll0; rfl, by unfold PyData.depthAll; rfl⟩
  | cons x xs ih =>
    obtain ⟨e1, e2, e3⟩ := ih fun y hy => h y (List.mem_cons_of_mem _ hy)
    rw [List.map_cons, List.map_cons]
    refine ⟨by unfold toPs toP; rw [e1], ?_, ?_⟩
    · unfold PyData.canLayAll0 PyData.canLay0; rw [nm_ok (h x List.mem_cons_self), e2]; rfl
    · unfold PyData.depthAll PyData.depth; rw [e3]; rfl
theorem strs_eqv : ∀ {xs ys : List Str}, PyData.eqvAll (xs.map PyData.str) (ys.map PyData.str) = decide (xs = ys)
  | [], [] => by unfold PyData.eqvAll; rfl
  | [], y :: ys => by rw [List.map_nil, List.map_cons]; unfold PyData.eqvAll; rfl
  | x :: xs, [] => by rw [List.map_nil, List.map_cons]; unfold PyData.eqvAll; rfl
  | x :: xs, y :: ys => by
    rw [List.map_cons, List.map_cons]
    unfold PyData.eqvAll PyData.eqv
    rw [strs_eqv]
    by_cases e : x = y
    · subst e
      rw [beq_self_eq_true, Bool.true_and]
      simp
    · rw [beq_eq_false_iff_ne.mpr e, Bool.false_and]
      simp [e]
theorem strs_shaped {xs : List Str} (h : ∀ x, x ∈ xs → isName x = true) : toP (.lst (xs.map D.str)) = some (.list (xs.map PyData.str)) ∧ SeqAt.shaped (.list (xs.map PyData.str)) = true := by
  obtain ⟨e1, e2, e3⟩ := strs_ok h
  refine ⟨by unfold toP; rw [e1]; rfl, ?_⟩
  unfold SeqAt.shaped PyData.canLay0 PyData.depth
  rw [e2, e3]
  rfl
theorem tstrs_shaped {xs : List Str} (h : ∀ x, x ∈ xs → isName x = true) : toP (.tup (xs.map D.str)) = some (.tuple (xs.map PyData.str)) ∧ SeqAt.shaped (.tuple (xs.map PyData.str)) = true := by
  obtain ⟨e1, e2, e3⟩ := strs_ok h
  refine ⟨by unfold toP; rw [e1]; rfl, ?_⟩
  unfold SeqAt.shaped PyData.canLay0 PyData.depth
  rw [e2, e3]
  rfl
theorem ne_strs {G : Gam} {Γ : Nat → SpD} {xs ys : List Str} {ρ : Slots} {M : Mst} {K1 : KD} {E1 : ED} (hx : ∀ x, x ∈ xs → isName x = true) (hy : ∀ x, x ∈ ys → isName x = true) (hK : K1 (.bl (!decide (xs = ys))) M) : cmpD G Γ .NotEq (.lst (xs.map D.str)) (.lst (ys.map D.str)) ρ M K1 E1 := by
  obtain ⟨p1, p2⟩ := strs_shaped hx
  obtain ⟨q1, q2⟩ := strs_shaped hy
  show neP G Γ (.lst (xs.map D.str)) (.lst (ys.map D.str)) (fun z M' => K1 (.bl z) M') M E1
  unfold neP
  rw [p1, q1]
  refine ⟨p2, q2, ?_⟩
  unfold PyData.eqv
  rw [strs_eqv]
  exact hK
theorem ne_tstrs {G : Gam} {Γ : Nat → SpD} {xs ys : List Str} {ρ : Slots} {M : Mst} {K1 : KD} {E1 : ED} (hx : ∀ x, x ∈ xs → isName x = true) (hy : ∀ x, x ∈ ys → isName x = true) (hK : K1 (.bl (!decide (xs = ys))) M) : cmpD G Γ .NotEq (.tup (xs.map D.str)) (.tup (ys.map D.str)) ρ M K1 E1 := by
  obtain ⟨p1, p2⟩ := tstrs_shaped hx
  obtain ⟨q1, q2⟩ := tstrs_shaped hy
  show neP G Γ (.tup (xs.map D.str)) (.tup (ys.map D.str)) (fun z M' => K1 (.bl z) M') M E1
  unfold neP
  rw [p1, q1]
  refine ⟨p2, q2, ?_⟩
  unfold PyData.eqv
  rw [strs_eqv]
  exact hK
theorem var_go {G : Gam} {Γ : Nat → SpD} {i : Nat} {d : D} {f : D → TD} {ρ : Slots} {M : Mst} {K1 : KD} {E1 : ED} (h : ρ[i]? = some (some d)) (k : f d ρ M K1 E1) : bindD (sem G Γ (.var i)).1 f ρ M K1 E1 := by
  show (match ρ[i]? with
    | some (some d) => f d ρ M K1 E1
    | _ => False)
  rw [h]
  exact k
def ratD (q : Rat) : D := .tup [.int q.num, .int q.den]
def wpL (v : Wr) : List (Key × D) := v.map fun p => (Sum.inr p.1, ratD p.2)
def wpD (v : Wr) : D := .dct (wpL v)
theorem one_lt_pow {n : Nat} (h : 0 < n) : (1 : Nat) < 2 ^ n := Nat.one_lt_two_pow (by omega)
theorem ten20 : (10 : Int) ^ Int.toNat 20 = ((10 ^ 20 : Nat) : Int) := by decide +kernel
theorem ten15 : (10 : Int) ^ Int.toNat 15 = ((10 ^ 15 : Nat) : Int) := by decide +kernel
theorem w64_10 : Bd 64 (10 : Int) := show (10 : Nat) < 2 ^ 64 by decide
theorem pow20 : PowOk 10 20 := ⟨by decide, by decide, w64_10⟩
theorem pow15 : PowOk 10 15 := ⟨by decide, by decide, w64_10⟩
structure WrOk (v : Wr) : Prop where
  nd : (wk v).Nodup
  nm : ∀ k, k ∈ wk v → isName k = true
  len : v.length < 64
  sz : ∀ p, p ∈ v → Sz 3000 p.2
def mk1 (p : Str × Rat) : Str × D × Rat := (p.1, if 1 < p.2.den then amt p.2 else .int p.2.num, p.2)
theorem wik_mk1 (v : Wr) : wik (v.map mk1) = wk v := by
  unfold wik wk
  rw [List.map_map]
  rfl
theorem wiq_mk1 (v : Wr) (k : Str) : wiq (v.map mk1) k = wt v k := by
  induction v with
  | nil => rfl
  | cons p r ih =>
    obtain ⟨j, q⟩ := p
    unfold wiq wt at ih ⊢
    rw [List.map_cons, List.find?_cons, List.find?_cons]
    by_cases c : j = k
    · simp [mk1, c]
    · simp only [mk1, c, decide_false]
      exact ih
theorem wi_ok {v : Wr} (h : WrOk v) : WiOk 3000 (v.map mk1) := by
  refine ⟨by rw [wik_mk1]; exact h.nd, fun k hk => h.nm k (by rw [wik_mk1] at hk; exact hk), by rw [List.length_map]; exact h.len, fun p hp => ?_⟩
  obtain ⟨r, hr, rfl⟩ := List.mem_map.mp hp
  refine ⟨?_, h.sz r hr⟩
  show Nmb (if 1 < r.2.den then amt r.2 else .int r.2.num) r.2
  split
  · exact .inl rfl
  · rename_i c
    have e : r.2.den = 1 := by have := r.2.den_pos; omega
    refine .inr ⟨r.2.num, rfl, ?_⟩
    refine Rat.ext ?_ ?_
    · rw [Rat.num_intCast]
    · rw [Rat.den_intCast, e]
def Γ : Nat → SpD
  | 0 => fun ds M K _ => match ds with
      | [.int y] => ∃ n, [D.int y] = [.int n] ∧ K (.bl true) M
      | [.obj 2 _] => K (.bl false) M
      | _ => False
  | 1 => fun ds M K _ => ∃ n l h, ds = [.int n, .int l, .int h] ∧ K (.bl (decide (l ≤ n ∧ n ≤ h))) M
  | 2 => fun ds M K _ => ∃ n, ds = [.int n] ∧ K (.bl (decide (0 ≤ n ∧ n ≤ 10 ^ 30))) M
  | 3 => fun ds M K _ => match ds with
      | [.str y] => ∃ x, [D.str y] = [.str x] ∧ x.length ≤ 1000000 ∧ K (.bl (isName x)) M
      | [.non] => K (.bl false) M
      | [.int _] => K (.bl false) M
      | [.bl _] => K (.bl false) M
      | [.lst _] => K (.bl false) M
      | [.tup _] => K (.bl false) M
      | [.dct _] => K (.bl false) M
      | [.obj 1 _] => K (.bl false) M
      | _ => False
  | 4 => fun ds M K _ => ∃ xs : List Str, (ds = [.lst (xs.map D.str)] ∨ (∃ q, ds = [dctQ q] ∧ xs = ks q) ∨ (∃ kds, ds = [.dct kds] ∧ kds.map (fun p => kD p.1) = xs.map D.str) ∨ ∃ a ob vs kds, ds = [.loc a] ∧ M a = some (.lok ob vs kds) ∧ kds.map (fun p => kD p.1) = xs.map D.str) ∧ xs.length < 64 ∧ ∀ ys : List Str, ys.Perm xs → PyProof.Rows.sortedS ys = true → K (.lst (ys.map D.str)) M
  | 5 => fun ds M K _ => ∃ q, ds = [dctQ q] ∧ K (.obj 0 [(29, dctQ q)]) M
  | 6 => fun ds M K _ => ∃ q r, ds = [dctQ q, dctQ r] ∧ q.length + r.length ≤ 1000000 ∧ K (.lst (pairsD (q ++ r))) M
  | 7 => fun ds M K _ => ∃ ps : Row, ds = [.lst (pairsD ps)] ∧ (∀ p, p ∈ ps → p.2 ≤ 10 ^ 30) ∧ K .non M
  | 8 => fun ds M K _ => ∃ ps, ds = [.lst (pairsD ps)] ∧ Nms ps ∧ ps.length < 64 ∧ ∀ q, Wf ps.length q → (∀ k, cnt q k = sumOf ps k) → K (dctQ q) M
  | 9 => fun ds M K _ => ∃ xs : List Str, (ds = [.lst (xs.map D.str)] ∨ ds = [.tup (xs.map D.str)]) ∧ (∀ x, x ∈ xs → isName x = true) ∧ K .non M
  | 10 => fun ds M K _ => ∃ q r, (ds = [dctQ q, dctQ r] ∨ (q = [] ∧ ds = [.non, dctQ r])) ∧ Nms q ∧ Nms r ∧ (∀ p, p ∈ q ++ r → p.2 ≤ 10 ^ 30) ∧ (∀ k, k ∈ ks r → k ∉ ks q) ∧ q.length + r.length < 64 ∧ ∀ q', Wf (q.length + r.length) q' → (∀ k, cnt q' k = sumOf (q ++ r) k) → K (dctQ q') M
  | 11 => fun ds M K _ => (∃ q, ds = [keptD q] ∧ K (ordD q) M) ∨ ∃ q, (ds = [dctQ q] ∨ (q = [] ∧ ds = [.non])) ∧ Nms q ∧ (∀ p, p ∈ q → p.2 ≤ 10 ^ 30) ∧ q.length < 64 ∧ ∀ q', Wf q.length q' → (∀ k, cnt q' k = sumOf q k) → K (ordD q') M
  | 12 => fun ds M K _ => ds = [] ∧ K (ordD []) M
  | 13 => fun ds M K _ => ∃ q, ds = [ordD q] ∧ q.length < 64 ∧ K (.tup ((ks q).map D.str)) M
  | 14 => fun ds M K _ => ∃ q x, ds = [ordD q, .str x] ∧ isName x = true ∧ K (.int (cnt q x)) M
  | 15 => fun ds M K _ => ∃ x y : Nat, ds = [.int x, .int y] ∧ x < 2 ^ 7900 ∧ y < 2 ^ 7900 ∧ K (.int (Nat.gcd x y : Nat)) M
  | 16 => fun ds M K _ => ∃ d q, ds = [d] ∧ Nmb d q ∧ K (.tup [.int q.num, .int q.den]) M
  | 17 => fun ds M K _ => ∃ t b, ds = [.int t, .int b] ∧ b ≠ 0 ∧ Bd 7800 t ∧ Bd 7800 b ∧ K (amt (Rat.divInt t b)) M
  | 18 => fun ds M K _ => ∃ t : Int, ds = [.int t] ∧ Bd 7800 t ∧ K (amt t) M
  | 19 => fun ds M K _ => ∃ d q, ds = [d] ∧ Nmb d q ∧ K (.bl true) M
  | 20 => fun ds M K _ => ∃ d q, ds = [d] ∧ Nmb d q ∧ Sz 7800 q ∧ K (amt q) M
  | 21 => fun ds M K _ => ∃ xs qs B, (ds = [.lst xs] ∨ ds = [.tup xs]) ∧ Nmbs xs qs ∧ (B + 1) * xs.length ≤ 2999 ∧ B ≤ 3000 ∧ (∀ q ∈ qs, Sz B q) ∧ K (amt (addAll qs 0)) M
  | 22 => fun ds M K _ => ∃ p d q, ds = [amt p, d] ∧ Nmb d q ∧ Sz 3000 p ∧ Sz 3000 q ∧ K (amt (p + q)) M
  | 23 => fun ds M K _ => ∃ p d q, ds = [amt p, d] ∧ Nmb d q ∧ Sz 3000 p ∧ Sz 3000 q ∧ K (amt (p + q)) M
  | 24 => fun ds M K _ => ∃ p d q, ds = [amt p, d] ∧ Nmb d q ∧ Sz 3000 p ∧ Sz 3000 q ∧ K (amt (p * q)) M
  | 25 => fun ds M K _ => ∃ p d q, ds = [amt p, d] ∧ Nmb d q ∧ Sz 3000 p ∧ Sz 3000 q ∧ K (amt (p * q)) M
  | 26 => fun ds M K _ => ∃ p d q, ds = [amt p, d] ∧ Nmb d q ∧ K (.bl (decide (p = q))) M
  | 27 => fun ds M K _ => ∃ p, ds = [amt p] ∧ Sz 1900 p ∧ K (.str (ratS p)) M
  | 28 => fun ds M K _ => ∃ z d, ds = [d] ∧ DAt d M (wiL z) ∧ WiOk 3000 z ∧ ∀ ys : List Str, ys.Perm (wik z) → PyProof.Rows.sortedS ys = true → K (wghD (wOf z ys)) M
  | 29 => fun ds M K _ => ∃ w k, ds = [wghD w, .str k] ∧ isName k = true ∧ K (amt (wt w k)) M
  | 30 => fun ds M K _ => (∃ w x, ds = [wghD w, .str x] ∧ x.length ≤ 1000000 ∧ K (.bl (isName x && decide (x ∈ wk w))) M) ∨ ∃ w d, ds = [wghD w, d] ∧ (match d with | .non => True | .int _ => True | .bl _ => True | .lst _ => True | .tup _ => True | .dct _ => True | _ => False) ∧ K (.bl false) M
  | 31 => fun ds M K _ => ∃ w, ds = [wghD w] ∧ K (.int (List.length w : Nat)) M
  | 32 => fun ds M K _ => ∃ w o B, ds = [wghD w, ordD o] ∧ List.length o < 64 ∧ (B + 1) * List.length o ≤ 2999 ∧ B ≤ 3000 ∧ (∀ k, k ∈ ks o → isName k = true ∧ Sz 3000 (wt w k) ∧ cnt o k < 2 ^ 3000 ∧ Sz B (wt w k * ((cnt o k : Int) : Rat))) ∧ K (amt (addAll ((ks o).map fun k => wt w k * ((cnt o k : Int) : Rat)) 0)) M
  | 33 => fun ds M K _ => ∃ w d, ds = [wghD w, d] ∧ ((∃ v, d = wghD v ∧ ∀ b : Bool, (b = true ↔ (List.length w = List.length v ∧ ∀ p, p ∈ w → valD (wL v) (.inr p.1) = some (amt p.2))) → K (.bl b) M) ∨ (((∃ x, d = .str x) ∨ ∃ x, d = .dct x) ∧ K (.bl false) M))
  | 34 => fun ds M K _ => ∃ w, ds = [wghD w] ∧ (wk w).Nodup ∧ List.length w < 64 ∧ (∀ p, p ∈ w → isName p.1 = true ∧ Sz 1900 p.2) ∧ K (.str (wTxt w)) M
  | 35 => fun ds M K _ => ∃ ns : List Int, ds = [.lst (ns.map D.int)] ∧ ∀ a M', M a = none → Bag M a M' → K (.loc a) M'
  | 36 => fun ds M K _ => ∃ M0 a m, ds = [.loc a, .int m] ∧ Bag M0 a M ∧ 0 < m ∧ m < 2 ^ 40 ∧ ∀ r M', 0 ≤ r → r < m → Bag M0 a M' → K (.int r) M'
  | 37 => fun ds M K _ => ∃ M0 a xs, ds = [.loc a, .lst xs] ∧ Bag M0 a M ∧ 0 < List.length xs ∧ List.length xs < 1000 ∧ ∀ x, x ∈ xs → ∀ M', Bag M0 a M' → K x M'
  | 38 => fun ds M K _ => ∃ t b : Int, ds = [.int t, .int b] ∧ b ≠ 0 ∧ Bd 7000 t ∧ Bd 7000 b ∧ K (ratD (Rat.divInt t b)) M
  | 39 => fun ds M K _ => ∃ (ps : List (Int × Int)) (B : Nat), ds = [.lst (ps.map fun p => .tup [.int p.1, .int p.2])] ∧ (∀ p, p ∈ ps → p.2 ≠ 0 ∧ Bd B p.1 ∧ Bd B p.2) ∧ (B + 1) * ps.length ≤ 2999 ∧ 0 < B ∧ B ≤ 3000 ∧ K (ratD (addAll (ps.map fun p => Rat.divInt p.1 p.2) 0)) M
  | 40 => fun ds M K _ => ∃ (v : Wr) (q : Row) (B : Nat), ds = [wpD v, dctQ q] ∧ (wk v).Nodup ∧ (∀ p, p ∈ v → Sz B p.2 ∧ Bd (B + B) (p.2.num * (cnt q p.1 : Int))) ∧ (∀ p, p ∈ v → MulOk p.2.num (cnt q p.1 : Int)) ∧ (B + B + 1) * v.length ≤ 2999 ∧ 0 < B ∧ B ≤ 1500 ∧ v.length ≤ 64 ∧ K (ratD (addAll (v.map fun p => p.2 * ((cnt q p.1 : Int) : Rat)) 0)) M
  | 41 => fun ds M K _ => ∃ M0 a xs s, ds = [.loc a, .lst (List.map D.str xs), .bl s] ∧ Bag M0 a M ∧ List.Nodup xs ∧ List.length xs ≤ 8 ∧ ∀ v M', wk v = xs → (∀ p, p ∈ v → Sz 80 p.2) → Bag M0 a M' → K (wpD v) M'
  | 42 => fun ds M K _ => ∃ v, ds = [wpD v] ∧ WrOk v ∧ ∀ w, Wq (List.length v) w → (∀ k, wt w k = wt v k) → K (wghD w) M
  | 43 => fun ds M K _ => ∃ w v, ds = [wghD w, wpD v] ∧ Wq 64 w ∧ WrOk v ∧ (∀ k, wt w k = wt v k) ∧ K (.bl true) M
  | 44 => fun ds M K _ => M = (fun _ => none) ∧ ∃ ns : List Int, ds = [.lst (ns.map D.int)] ∧ ∀ M', K (.bl true) M'
  | _ => fun _ _ _ _ => False
def lv : Nat → Nat
  | 0 => 0
  | 1 => 1
  | 2 => 2
  | 3 => 0
  | 4 => 0
  | 5 => 0
  | 6 => 0
  | 7 => 3
  | 8 => 1
  | 9 => 1
  | 10 => 4
  | 11 => 5
  | 12 => 5
  | 13 => 0
  | 14 => 1
  | 15 => 0
  | 16 => 0
  | 17 => 1
  | 18 => 1
  | 19 => 1
  | 20 => 2
  | 21 => 3
  | 22 => 2
  | 23 => 3
  | 24 => 2
  | 25 => 3
  | 26 => 2
  | 27 => 0
  | 28 => 3
  | 29 => 2
  | 30 => 1
  | 31 => 0
  | 32 => 4
  | 33 => 3
  | 34 => 1
  | 35 => 0
  | 36 => 0
  | 37 => 1
  | 38 => 0
  | 39 => 1
  | 40 => 2
  | 41 => 2
  | 42 => 4
  | 43 => 3
  | 44 => 6
  | _ => 0
section
variable (K : PySem.W.Frag)
abbrev GK : Gam := gamOf T hN K
end
end L25
end PyD
set_option Elab.async false
set_option linter.all false
set_option autoImplicit false
set_option maxRecDepth 100000
set_option maxHeartbeats 4000000
set_option exponentiation.threshold 10000
namespace PyD
open PySem PySem.Spec L2 TL
namespace L25
section
variable (K : PySem.W.Frag)
theorem sp_0 : SpecOk (GK K) Γ lv 0 c0 := by
  intro ds M K1 E1 h
  have h : (match (generalizing := false) ds with
    | [.int y] => ∃ n, [D.int y] = [.int n] ∧ K1 (.bl true) M
    | [.obj 2 _] => K1 (.bl false) M
    | _ => False) := h
  split at h
  · obtain ⟨n, _, h⟩ := h
    exact ⟨rfl, h⟩
  · exact ⟨rfl, h⟩
  · exact h.elim
theorem sp_1 : SpecOk (GK K) Γ lv 1 c1 := by
  rintro ds M K1 E1 ⟨n, l, u, rfl, h⟩
  refine ⟨rfl, n, rfl, ?_⟩
  refine brb_dec (fun h1 => ?_) (fun h1 => ?_)
  · have e : decide (l ≤ n ∧ n ≤ u) = decide (n ≤ u) := decide_eq_decide.mpr ⟨fun z => z.2, fun z => ⟨h1, z⟩⟩
    rw [e] at h
    exact h
  · have e : decide (l ≤ n ∧ n ≤ u) = false := decide_eq_false fun z => h1 z.1
    rw [e] at h
    exact h
theorem sp_2 : SpecOk (GK K) Γ lv 2 c2 := by
  rintro ds M K1 E1 ⟨n, rfl, h⟩
  exact ⟨rfl, n, 0, 10 ^ 30, rfl, h⟩
theorem charsD_one {x : Str} {d : D} (h : d ∈ charsD x) : ∃ c, d = .str ⟨#[c]⟩ := by
  unfold charsD at h
  obtain ⟨c, _, rfl⟩ := List.mem_map.mp h
  exact ⟨c, rfl⟩
theorem sp_3 : SpecOk (GK K) Γ lv 3 c3 := by
  intro ds M K1 E1 h0
  have h0 : (match (generalizing := false) ds with
    | [.str y] => ∃ x, [D.str y] = [.str x] ∧ x.length ≤ 1000000 ∧ K1 (.bl (isName x)) M
    | [.non] => K1 (.bl false) M
    | [.int _] => K1 (.bl false) M
    | [.bl _] => K1 (.bl false) M
    | [.lst _] => K1 (.bl false) M
    | [.tup _] => K1 (.bl false) M
    | [.dct _] => K1 (.bl false) M
    | [.obj 1 _] => K1 (.bl false) M
    | _ => False) := h0
  split at h0
  rotate_left
  · exact ⟨rfl, h0⟩
  · exact ⟨rfl, h0⟩
  · exact ⟨rfl, h0⟩
  · exact ⟨rfl, h0⟩
  · exact ⟨rfl, h0⟩
  · exact ⟨rfl, h0⟩
  · exact ⟨rfl, h0⟩
  · exact h0.elim
  obtain ⟨x, e, hx, h⟩ := h0
  rw [e]
  refine ⟨rfl, hx, ?_⟩
  have out : ∀ b, isName x = b → K1 (.bl b) M := fun b e => by rw [← e]; exact h
  refine brb_dec (fun h1 => ?_) (fun h1 => ?_)
  · refine brb_not (brb_dec (fun h2 => ?_) (fun h2 => ?_))
    · refine ⟨?_, lcL_map (f := fun d => .bl (inL d)) (fun d hd => ?_) ?_⟩
      · show (charsD x).length ≤ 1000000
        unfold charsD
        rw [List.length_map]
        show x.length ≤ 1000000
        exact hx
      · obtain ⟨c, rfl⟩ := charsD_one hd
        exact ⟨_, rfl, fun K h => ⟨c, rfl, h⟩⟩
      · refine ⟨(charsD x).map inL, ?_, out _ ?_⟩
        · rw [List.nil_append, List.map_map]
          rfl
        · unfold isName
          rw [decide_eq_true (by omega), decide_eq_true (by omega), List.all_map]
          rfl
    · refine out false ?_
      unfold isName
      have e : decide (x.length ≤ 8) = false := decide_eq_false (by omega)
      rw [e, Bool.and_false, Bool.false_and]
  · refine out false ?_
    unfold isName
    have e : decide (1 ≤ x.length) = false := decide_eq_false (by omega)
    rw [e, Bool.false_and, Bool.false_and]
theorem sp_4 : SpecOk (GK K) Γ lv 4 c4 := by
  rintro ds M K1 E1 ⟨xs, hds, hl, h⟩
  rcases hds with rfl | ⟨q, rfl, rfl⟩ | ⟨kds, rfl, ek⟩ | ⟨a, ob, vs, kds, rfl, hM, ek⟩
  · refine ⟨rfl, ?_⟩
    refine ⟨by rw [List.length_map]; omega, lcL_map (f := fun d => d) (fun d hd => ?_) ?_⟩
    · obtain ⟨k, _, rfl⟩ := List.mem_map.mp hd
      exact ⟨_, rfl, fun K h => h⟩
    · refine ⟨xs, ?_, hl, h⟩
      rw [List.nil_append, List.map_id']
  · refine ⟨rfl, ?_⟩
    refine ⟨?_, lcL_map (f := fun d => d) (fun d hd => ?_) ?_⟩
    · rw [keys_rows, List.length_map]
      omega
    · rw [keys_rows] at hd
      obtain ⟨k, _, rfl⟩ := List.mem_map.mp hd
      exact ⟨_, rfl, fun K h => h⟩
    · refine ⟨ks q, ?_, hl, h⟩
      rw [List.nil_append, keys_rows, List.map_id']
  · refine ⟨rfl, ?_⟩
    have ll : (kds.map fun p => kD p.1).length = xs.length := by rw [ek, List.length_map]
    refine ⟨by omega, lcL_map (f := fun d => d) (fun d hd => ?_) ?_⟩
    · rw [ek] at hd
      obtain ⟨k, _, rfl⟩ := List.mem_map.mp hd
      exact ⟨_, rfl, fun K h => h⟩
    · refine ⟨xs, ?_, hl, h⟩
      rw [List.nil_append, List.map_id', ek]
  · refine ⟨rfl, ?_⟩
    have ll : (kds.map fun p => kD p.1).length = xs.length := by rw [ek, List.length_map]
    refine .inl ⟨ob, vs, kds, hM, ?_⟩
    refine ⟨by omega, lcL_map (f := fun d => d) (fun d hd => ?_) ?_⟩
    · rw [ek] at hd
      obtain ⟨k, _, rfl⟩ := List.mem_map.mp hd
      exact ⟨_, rfl, fun K h => h⟩
    · refine ⟨xs, ?_, hl, h⟩
      rw [List.nil_append, List.map_id', ek]
end
end L25
end PyD
set_option Elab.async false
set_option linter.all false
set_option autoImplicit false
set_option maxRecDepth 100000
set_option maxHeartbeats 4000000
set_option exponentiation.threshold 10000
namespace PyD
open PySem PySem.Spec L2 TL
namespace L25
section
variable (K : PySem.W.Frag)
theorem sp_5 : SpecOk (GK K) Γ lv 5 c5 := by
  rintro ds M K1 E1 ⟨q, rfl, h⟩ a ha
  refine ⟨rfl, 0, [], updM_same, rfl, by simp, ?_⟩
  rw [updM_updM]
  refine ⟨rfl, .inl ⟨_, updM_same, ?_⟩⟩
  rw [delM_updM ha]
  exact h
theorem sp_6 : SpecOk (GK K) Γ lv 6 c6 := by
  rintro ds M K1 E1 ⟨q, r, rfl, hl, h⟩
  have e : (rowsD q).map pairD ++ ((rowsD r).map pairD ++ []) = pairsD (q ++ r) := by
    rw [List.append_nil, ← List.map_append]
    unfold rowsD pairsD
    rw [← List.map_append, List.map_map]
    rfl
  refine ⟨rfl, ?_⟩
  show _ ∧ _
  refine ⟨?_, ?_⟩
  · rw [e]
    unfold pairsD
    rw [List.length_map, List.length_append]
    exact hl
  · rw [e]
    exact h
theorem counts_loop {M : Mst} {En : EndD} {d0 : Option D} (fin : ∀ ρ, En.nx ρ M) : ∀ (ps : Row) (a b : Option D), (∀ p, p ∈ ps → p.2 ≤ 10 ^ 30) → forS (setT [1, 2]) (semSs (GK K) (below lv (lv 7) Γ) b7_1) (pairsD ps) [d0, a, b] M En
  | [], a, b, h => fin _
  | p :: ps, a, b, h => by
    refine ⟨p.2, rfl, ?_⟩
    have e : decide (0 ≤ (p.2 : Int) ∧ (p.2 : Int) ≤ 10 ^ 30) = true := decide_eq_true ⟨by omega, by have := h p List.mem_cons_self; exact_mod_cast this⟩
    rw [e]
    exact counts_loop fin ps _ _ fun q hq => h q (List.mem_cons_of_mem _ hq)
theorem sp_7 : SpecOk (GK K) Γ lv 7 c7 := by
  rintro ds M K1 E1 ⟨ps, rfl, hp, h⟩
  exact ⟨rfl, counts_loop K (fun ρ => h) ps _ _ hp⟩
theorem kept_loop {M0 : Mst} {a : Addr} {En : EndD} {d0 : Option D} {n : Nat} (hn : n ≤ 64) (ha : M0 a = none) {N0 : Str → Prop} : ∀ (ps : Row) (r : Row) (x y : Option D), (ks r).Nodup → r.length + ps.length ≤ n → (∀ k, k ∈ ks r → N0 k) → (∀ k, k ∈ ks ps → N0 k) →
    (∀ x y r', (ks r').Nodup → r'.length ≤ n → (∀ k, k ∈ ks r' → N0 k) → (∀ k, cnt r' k = cnt r k + sumOf ps k) → En.nx [d0, some (.loc a), x, y] (updM M0 a (.dct (rowsD r')))) →
    forS (setT [2, 3]) (semSs (GK K) (below lv (lv 8) Γ) b8_1) (pairsD ps) [d0, some (.loc a), x, y] (updM M0 a (.dct (rowsD r))) En
  | [], r, x, y, nd, hl, h1, h2, fin => fin _ _ _ nd (by simpa using hl) h1 fun k => rfl
  | p :: ps, r, x, y, nd, hl, h1, h2, fin => by
    have hlr : r.length ≤ 1000000 := by rw [List.length_cons] at hl; omega
    refine ⟨⟨_, .inl updM_same, trivial⟩, ?_⟩
    refine ⟨_, .inl updM_same, .inr p.1, rfl, ?_⟩
    refine get_go ?_
    refine ⟨_, updM_same, by rw [len_rows]; exact hlr, ?_⟩
    rw [updM_updM]
    have e : putKD (.inr p.1) (.int ((cnt r p.1 : Int) + (p.2 : Int))) (rowsD r) = rowsD (putR p.1 (cnt r p.1 + p.2) r) := by
      rw [← put_rows]
      rfl
    rw [e]
    refine kept_loop hn ha (N0 := N0) ps (putR p.1 (cnt r p.1 + p.2) r) _ _ (nodup_putR nd) ?_ ?_ ?_ ?_
    · have := len_putR p.1 (cnt r p.1 + p.2) r
      rw [List.length_cons] at hl
      omega
    · intro k hk
      rcases mem_putR hk with h | h
      · exact h1 k h
      · subst h
        exact h2 _ (by simp [ks])
    · exact fun k hk => h2 k (by simp only [ks, List.map_cons, List.mem_cons]; exact .inr hk)
    · intro x y r' a1 a2 a3 a4
      refine fin x y r' a1 a2 a3 fun k => ?_
      rw [a4, cnt_putR, sumOf_cons]
      by_cases h : k = p.1
      · subst h
        rw [if_pos rfl, if_pos rfl]
        omega
      · rw [if_neg h, if_neg (Ne.symm h)]
        omega
/-- what is kept of a row, in this order -/
def keepR (r : Row) (ys : List Str) : Row := (ys.filter fun k => decide (cnt r k ≠ 0)).map fun k => (k, cnt r k)
theorem ks_keep (r : Row) (ys : List Str) : ks (keepR r ys) = ys.filter fun k => decide (cnt r k ≠ 0) := by
  unfold ks keepR
  rw [List.map_map]
  exact List.map_id' _
theorem cnt_keep {r : Row} {ys : List Str} (h : ∀ k, k ∈ ks r → k ∈ ys) (k : Str) : cnt (keepR r ys) k = cnt r k := by
  have e : keepR r ys = mkP (ys.filter fun k => decide (cnt r k ≠ 0)) (cnt r) := rfl
  rw [e, cnt_mkP]
  by_cases z : k ∈ ys.filter fun k => decide (cnt r k ≠ 0)
  · rw [if_pos z]
  · rw [if_neg z]
    by_cases e : cnt r k = 0
    · exact e.symm
    · exact absurd (List.mem_filter.mpr ⟨h k (by
        by_cases m : k ∈ ks r
        · exact m
        · exact absurd (cnt_zero m) e), decide_eq_true e⟩) z
theorem wf_keep {r : Row} {ys : List Str} {n : Nat} (nd : (ks r).Nodup) (hp : ys.Perm (ks r)) (hs : PyProof.Rows.sortedS ys = true) (nm : ∀ k, k ∈ ks r → isName k = true) (hl : r.length ≤ n) : Wf n (keepR r ys) := by
  refine ⟨?_, ?_, ?_, ?_, ?_⟩
  · rw [ks_keep]
    exact (hp.nodup_iff.mpr nd).filter _
  · rw [ks_keep]
    exact sorted_filter hs _
  · intro p h
    unfold keepR at h
    obtain ⟨k, h1, rfl⟩ := List.mem_map.mp h
    have := of_decide_eq_true (List.mem_filter.mp h1).2
    show 0 < cnt r k
    omega
  · intro k h
    rw [ks_keep] at h
    exact nm k (hp.mem_iff.mp (List.mem_filter.mp h).1)
  · unfold keepR
    rw [List.length_map]
    have h1 := List.length_filter_le (fun k => decide (cnt r k ≠ 0)) ys
    have h2 := hp.length_eq
    unfold ks at h2
    rw [List.length_map] at h2
    omega
theorem sp_8 : SpecOk (GK K) Γ lv 8 c8 := by
  rintro ds M K1 E1 ⟨ps, rfl, nm, hl, h⟩
  refine ⟨rfl, fun a ha => ?_⟩
  refine kept_loop K (n := ps.length) (by omega) ha (N0 := fun k => isName k = true) ps [] none none List.nodup_nil (by simp) (by simp [ks]) nm ?_
  intro x y r nd rl rn rc
  show semSs _ _ _ _ _ _
  refine frz_go (a := a) (kds := rowsD r) rfl updM_same ?_
  rw [delM_updM ha]
  refine ⟨ks r, .inr (.inl ⟨r, rfl, rfl⟩), by rw [len_ks]; omega, fun ys hp hs => ?_⟩
  have yl : ys.length = r.length := by
    have := hp.length_eq
    rwa [len_ks] at this
  refine ⟨by rw [List.length_map]; omega, dcL_filter (fk := fun d => .inr (strD d)) (f := fun d => .int (cnt r (strD d))) (p := fun d => decide (cnt r (strD d) ≠ 0)) (fun d hd => ?_) ?_⟩
  · obtain ⟨k, hk, rfl⟩ := List.mem_map.mp hd
    have hv := val_rows (hp.mem_iff.mp hk)
    refine ⟨_, rfl, fun K h => ?_, fun z => ⟨fun K h => h, fun K h => ⟨.inr k, _, rfl, hv, h⟩⟩⟩
    refine ⟨.inr k, _, rfl, hv, ?_⟩
    have e : decide (cnt r (strD (.str k)) ≠ 0) = ((cnt r k : Int) != 0) := by
      show decide (cnt r k ≠ 0) = _
      by_cases z : cnt r k = 0
      · rw [z]; rfl
      · rw [decide_eq_true z]
        exact (bne_iff_ne.mpr (fun y => z (Int.ofNat.inj y))).symm
    rw [e] at h
    exact h
  · have e : ((ys.map D.str).filter fun d => decide (cnt r (strD d) ≠ 0)).map (fun d => ((Sum.inr (strD d) : Key), D.int (cnt r (strD d)))) = rowsD (keepR r ys) := by
      unfold rowsD keepR
      rw [List.filter_map, List.map_map, List.map_map]
      rfl
    rw [e, putAll_rows (by rw [ks_keep]; exact (hp.nodup_iff.mpr nd).filter _)]
    refine h _ (wf_keep nd hp hs rn rl) fun k => ?_
    rw [cnt_keep fun k hk => hp.mem_iff.mpr hk, rc]
    simp [cnt_nil]
end
end L25
end PyD
set_option Elab.async false
set_option linter.all false
set_option autoImplicit false
set_option maxRecDepth 100000
set_option maxHeartbeats 4000000
set_option exponentiation.threshold 10000
namespace PyD
open PySem PySem.Spec L2 TL
namespace L25
section
variable (K : PySem.W.Frag)
theorem kinds_loop {M : Mst} {En : EndD} {d0 : Option D} (fin : ∀ ρ, En.nx ρ M) : ∀ (xs : List Str) (a : Option D), (∀ x, x ∈ xs → isName x = true) → forS (set1 1) (semSs (GK K) (below lv (lv 9) Γ) b9_1) (xs.map D.str) [d0, a] M En
  | [], a, h => fin _
  | x :: xs, a, h => by
    have hx := h x List.mem_cons_self
    refine ⟨x, rfl, ?_, ?_⟩
    · have := name_len hx
      omega
    rw [hx]
    exact kinds_loop fin xs _ fun q hq => h q (List.mem_cons_of_mem _ hq)
theorem sp_9 : SpecOk (GK K) Γ lv 9 c9 := by
  rintro ds M K1 E1 ⟨xs, rfl | rfl, hp, h⟩
  · exact ⟨rfl, kinds_loop K (fun ρ => h) xs _ hp⟩
  · exact ⟨rfl, kinds_loop K (fun ρ => h) xs _ hp⟩
theorem sp_10 : SpecOk (GK K) Γ lv 10 c10 := by
  rintro ds M K1 E1 ⟨q, r, hds, nq, nr, lq, ap, ll, h⟩
  have rest : ∀ (d0 d1 d2 d3 d4 d5 : Option D) (En : EndD), (∀ q', Wf (q.length + r.length) q' → (∀ k, cnt q' k = sumOf (q ++ r) k) → En.rt (dctQ q') M) → d1 = some (dctQ r) → d2 = some (dctQ q) → d3 = some (.lst (pairsD (q ++ r))) →
      semSs (GK K) (below lv (lv 10) Γ) (.cons (.drop (.call 9 (.cons (.lc (.var 4) [4, 5] false (.seq (.var 3)) .no) .nil) .nil)) (.cons (.ite (.blx .any (.lc (.inn false (.var 4) (.var 2)) [4] true (.seq (.var 1)) .no)) (.cons .nev .nil) .nil) (.cons (.drop (.call 7 (.cons (.var 3) .nil) .nil)) (.cons (.ret (.call 8 (.cons (.var 3) .nil) .nil)) .nil)))) [d0, d1, d2, d3, d4, d5] M En := by
    rintro d0 d1 d2 d3 d4 d5 En hf rfl rfl rfl
    have pl : (pairsD (q ++ r)).length ≤ 1000000 := by
      unfold pairsD
      rw [List.length_map, List.length_append]
      omega
    refine ⟨pl, lcL_map (f := fun d => match d with
      | .tup [x, y] => x
      | _ => .non) (fun d hd => ?_) ?_⟩
    · obtain ⟨p, _, rfl⟩ := List.mem_map.mp hd
      exact ⟨_, rfl, fun K h => h⟩
    · refine ⟨ks (q ++ r), .inl ?_, nms_app nq nr, ?_⟩
      · rw [List.nil_append]
        unfold pairsD ks
        rw [List.map_map, List.map_map]
        rfl
      · refine ⟨by rw [keys_len]; omega, lcL_map (f := fun d => .bl false) (fun d hd => ?_) ?_⟩
        · rw [keys_rows] at hd
          obtain ⟨k, hk, rfl⟩ := List.mem_map.mp hd
          refine ⟨_, rfl, fun K h => ⟨.inr k, rfl, ?_⟩⟩
          have e : (valD (rowsD q) (.inr k)).isSome = false := by
            rw [valD_rows, if_neg (ap k hk)]
            rfl
          show K (.bl (valD (rowsD q) (.inr k)).isSome) M
          rw [e]
          exact h
        · refine ⟨(ks r).map fun _ => false, ?_, ?_⟩
          · rw [List.nil_append, keys_rows, List.map_map, List.map_map]
            rfl
          · have e : (((ks r).map fun _ => false).any id) = false := by
              rw [List.any_eq_false]
              intro x hx
              obtain ⟨_, _, rfl⟩ := List.mem_map.mp hx
              exact Bool.false_ne_true
            rw [e]
            refine ⟨q ++ r, rfl, lq, ?_⟩
            exact ⟨q ++ r, rfl, nms_app nq nr, by rw [List.length_append]; omega, fun q' w1 w2 => hf q' (by rw [List.length_append] at w1; exact w1) w2⟩
  rcases hds with rfl | ⟨rfl, rfl⟩
  · refine ⟨rfl, ?_⟩
    refine ⟨q, r, rfl, by omega, ?_⟩
    exact rest _ _ _ _ _ _ _ h rfl rfl rfl
  · refine ⟨rfl, ?_⟩
    refine ⟨[], r, rfl, by simp; omega, ?_⟩
    exact rest _ _ _ _ _ _ _ h rfl rfl rfl
theorem order_fin {M : Mst} {a : Addr} {q : Row} {K1 : KD} (ha : M a = none) (h : K1 (ordD q) M) : (fun d M' => d = D.non ∧ ((∃ fs, M' a = some (.inst 1 fs) ∧ K1 (.obj 1 fs) (delM M' a)) ∨ K1 (.loc a) M')) D.non (updM (updM M a (.inst 1 [])) a (.inst 1 [(30, dctQ q)])) := by
  rw [updM_updM]
  refine ⟨rfl, .inl ⟨_, updM_same, ?_⟩⟩
  rw [delM_updM ha]
  exact h
theorem sp_11 : SpecOk (GK K) Γ lv 11 c11 := by
  rintro ds M K1 E1 (⟨q, rfl, h⟩ | ⟨q, hds, nq, lq, ll, h⟩) a ha
  · refine ⟨rfl, 1, [], updM_same, rfl, by simp, ?_⟩
    exact order_fin ha h
  · rcases hds with rfl | ⟨rfl, rfl⟩
    · refine ⟨rfl, ?_⟩
      refine ⟨q, [], .inl rfl, nq, (fun k hk => by cases hk), (fun p hp => lq p (by simpa using hp)), (fun k hk => by cases hk), by simpa using ll, fun q' w1 w2 => ?_⟩
      refine ⟨1, [], updM_same, rfl, by simp, ?_⟩
      exact order_fin ha (h q' w1 fun k => by rw [w2, List.append_nil])
    · refine ⟨rfl, ?_⟩
      refine ⟨[], [], .inr ⟨rfl, rfl⟩, (fun k hk => by cases hk), (fun k hk => by cases hk), (fun p hp => by cases hp), (fun k hk => by cases hk), by simp, fun q' w1 w2 => ?_⟩
      refine ⟨1, [], updM_same, rfl, by simp, ?_⟩
      exact order_fin ha (h q' w1 fun k => by rw [w2, List.append_nil])
theorem sp_12 : SpecOk (GK K) Γ lv 12 c12 := by
  rintro ds M K1 E1 ⟨rfl, h⟩ a ha
  refine ⟨rfl, ?_⟩
  refine ⟨[], [], .inr ⟨rfl, rfl⟩, (fun k hk => by cases hk), (fun k hk => by cases hk), (fun p hp => by cases hp), (fun k hk => by cases hk), by simp, fun q' w1 w2 => ?_⟩
  refine ⟨1, [], updM_same, rfl, by simp, ?_⟩
  rw [wf_zero w1]
  exact order_fin ha h
theorem sp_14 : SpecOk (GK K) Γ lv 14 c14 := by
  rintro ds M K1 E1 ⟨q, x, rfl, hx, h⟩
  refine ⟨rfl, x, rfl, by have := name_len hx; omega, ?_⟩
  rw [hx]
  refine ⟨trivial, .inr x, rfl, ?_⟩
  exact get_go h
theorem sp_13 : SpecOk (GK K) Γ lv 13 c13 := by
  rintro ds M K1 E1 ⟨q, rfl, hl, h⟩
  refine ⟨rfl, by rw [keys_len]; omega, lcL_map (f := fun d => d) (fun d hd => ⟨_, rfl, fun K h => h⟩) ?_⟩
  rw [List.nil_append, List.map_id', keys_rows]
  exact h
end
end L25
end PyD
set_option Elab.async false
set_option linter.all false
set_option autoImplicit false
set_option maxRecDepth 100000
set_option maxHeartbeats 4000000
set_option exponentiation.threshold 10000
namespace PyD
open PySem PySem.Spec L2 TL
namespace L25
section
variable (K : PySem.W.Frag)
theorem gcd_loop {G : Gam} {Γ' : Nat → SpD} {M : Mst} {En : EndD} : ∀ (y x : Nat), x < 2 ^ 7900 → y < 2 ^ 7900 → En.nx [some (.int (Nat.gcd x y : Nat)), some (.int 0)] M →
    ∃ n, whlS (sem G Γ' (.cmp .NotEq (.var 1) (.con (.int 0)))).2 (semSs G Γ' (.cons (.par [0, 1] (.cons (.var 1) (.cons (.bin .Mod (.var 0) (.var 1)) .nil))) .nil)) n [some (.int x), some (.int y)] M En := by
  intro y
  induction y using Nat.strongRecOn with
  | _ y ih =>
    intro x hx hy h
    by_cases e : y = 0
    · subst e
      rw [Nat.gcd_zero_right] at h
      exact ⟨1, h⟩
    · have lt : x % y < y := Nat.mod_lt _ (by omega)
      obtain ⟨n, hn⟩ := ih (x % y) lt y hy (by omega) (by rw [Nat.gcd_comm x y, Nat.gcd_rec y x, Nat.gcd_comm] at h; exact h)
      refine ⟨n + 1, ?_⟩
      refine brb_not ?_
      refine brb_eqI (fun z => by omega) fun z => ⟨by omega, ?_⟩
      rw [← fmod_nat] at hn
      exact hn
theorem sp_15 : SpecOk (GK K) Γ lv 15 c15 := by
  rintro ds M K1 E1 ⟨x, y, rfl, hx, hy, h⟩
  exact ⟨rfl, gcd_loop y x hx hy h⟩
theorem sp_16 : SpecOk (GK K) Γ lv 16 c16 := by
  rintro ds M K1 E1 ⟨d, q, rfl, hd, h⟩
  rcases nm_num hd with ⟨n, rfl, rfl, e1, e2⟩ | rfl
  · rw [e1, e2] at h
    exact ⟨rfl, by simp, h⟩
  · exact ⟨rfl, by simp, h⟩
theorem init_ok {En : EndD} {a : Addr} {t b : Int} {M : Mst} (hb : b ≠ 0) (h1 : Bd 7800 t) (h2 : Bd 7800 b) (h : ∀ ρ, En.nx ρ (updM M a (.inst 2 [(31, .int (Rat.divInt t b).num), (32, .int (Rat.divInt t b).den)]))) :
    semSs (GK K) (below lv (lv 17) Γ) b16 (startD N16 [.loc a, .int t, .int b]) (updM M a (.inst 2 [])) En := by
  have hg := gcd_bd (t := t) hb
  have hp := Int.gcd_pos_of_ne_zero_left t hb
  have eN := num_of (t := t) hb rfl
  have eD := den_of (t := t) hb rfl
  have fin : ∀ (v : Int), v = (if b < 0 then -((b.gcd t : Nat) : Int) else ((b.gcd t : Nat) : Int)) → semSs (GK K) (below lv (lv 17) Γ) (.cons (.setf (.var 0) 31 (.bin .FloorDiv (.var 1) (.var 4))) (.cons (.setf (.var 0) 32 (.bin .FloorDiv (.var 2) (.var 4))) .nil))
      [some (.loc a), some (.int t), some (.int b), some (.int b), some (.int v)] (updM M a (.inst 2 [])) En := by
    intro v hv
    have d : DivOk v := by
      subst hv
      refine ⟨by split <;> omega, bd_up (bd_le h2 ?_) (by omega)⟩
      split <;> omega
    have e1 : t.fdiv v = (Rat.divInt t b).num := by rw [hv]; exact eN
    have e2 : b.fdiv v = ((Rat.divInt t b).den : Int) := by rw [hv]; exact eD
    refine ⟨d, 2, [], updM_same, rfl, by simp, ?_⟩
    refine ⟨d, 2, _, updM_same, rfl, by simp [putD], ?_⟩
    rw [e1, e2, updM_updM, updM_updM]
    exact h _
  refine ⟨by simp, ?_⟩
  refine ⟨t, rfl, ?_⟩
  refine ⟨b, rfl, ?_⟩
  refine brb_eqI (fun _ => ?_) (fun _ => ?_)
  · omega
  refine ⟨t.natAbs, b.natAbs, ?_, Nat.lt_trans h1 (Nat.pow_lt_pow_right (by omega) (by omega)), Nat.lt_trans h2 (Nat.pow_lt_pow_right (by omega) (by omega)), ?_⟩
  · show [D.int (if t < 0 then -t else t), D.int (if b < 0 then -b else b)] = _
    rw [abs_is, abs_is]
  have eg : (Nat.gcd t.natAbs b.natAbs) = b.gcd t := by rw [Int.gcd_eq_natAbs_gcd_natAbs, Nat.gcd_comm]
  rw [eg]
  refine brb_dec (fun _ => ?_) (fun _ => ?_)
  · exact fin _ (by rw [if_pos (by assumption)])
  · exact fin _ (by rw [if_neg (by assumption)])
theorem sp_17 : SpecOk (GK K) Γ lv 17 c17 := by
  rintro ds M K1 E1 ⟨t, b, rfl, hb, h1, h2, h⟩ a ha
  refine ⟨rfl, init_ok K hb h1 h2 fun ρ => ⟨rfl, .inl ⟨_, updM_same, ?_⟩⟩⟩
  rw [delM_updM ha]
  exact h
theorem sp_18 : SpecOk (GK K) Γ lv 18 c18 := by
  rintro ds M K1 E1 ⟨t, rfl, h1, h⟩ a ha
  refine ⟨rfl, init_ok K (b := 1) (by omega) h1 (by show (1 : Int).natAbs < 2 ^ 7800; exact Nat.one_lt_two_pow (by omega)) fun ρ => ⟨rfl, .inl ⟨_, updM_same, ?_⟩⟩⟩
  rw [delM_updM ha, divInt_one]
  exact h
theorem sp_19 : SpecOk (GK K) Γ lv 19 c19 := by
  rintro ds M K1 E1 ⟨d, q, rfl, hd, h⟩
  rcases nm_num hd with ⟨n, rfl, rfl, e1, e2⟩ | rfl
  · exact ⟨rfl, n, rfl, h⟩
  · exact ⟨rfl, h⟩
theorem sp_20 : SpecOk (GK K) Γ lv 20 c20 := by
  rintro ds M K1 E1 ⟨d, q, rfl, hd, hq, h⟩
  refine ⟨rfl, d, q, rfl, hd, ?_⟩
  rcases nm_num hd with ⟨n, rfl, rfl, e1, e2⟩ | rfl
  · have hn := hq.nu
    rw [e1] at hn
    exact ⟨n, rfl, hn, h⟩
  · exact h
theorem sp_22 : SpecOk (GK K) Γ lv 22 c22 := by
  rintro ds M K1 E1 ⟨p, d, q, rfl, hd, hp, hq, h⟩
  refine ⟨rfl, d, q, rfl, hd, d, q, rfl, hd, mo hp.nu hq.de (by omega) (by omega) (by omega), mo hq.nu hp.de (by omega) (by omega) (by omega), mo hp.de hq.de (by omega) (by omega) (by omega), _, _, rfl, den2 p q, bd_up (bd_add (bd_mul hp.nu hq.de) (bd_mul hq.nu hp.de)) (by omega), bd_up (bd_mul hp.de hq.de) (by omega), ?_⟩
  rw [add_is]
  exact h
theorem sp_24 : SpecOk (GK K) Γ lv 24 c24 := by
  rintro ds M K1 E1 ⟨p, d, q, rfl, hd, hp, hq, h⟩
  refine ⟨rfl, d, q, rfl, hd, d, q, rfl, hd, mo hp.nu hq.nu (by omega) (by omega) (by omega), mo hp.de hq.de (by omega) (by omega) (by omega), _, _, rfl, den2 p q, bd_up (bd_mul hp.nu hq.nu) (by omega), bd_up (bd_mul hp.de hq.de) (by omega), ?_⟩
  rw [mul_is]
  exact h
theorem sp_26 : SpecOk (GK K) Γ lv 26 c26 := by
  rintro ds M K1 E1 ⟨p, d, q, rfl, hd, h⟩
  refine ⟨rfl, d, q, rfl, hd, by simp, d, q, rfl, hd, rfl, rfl, ?_⟩
  rw [eq_is] at h
  exact h
theorem add_goS {p q : Rat} {d : D} {ρ : Slots} {M : Mst} {K1 : KD} {E1 : ED} (hd : Nmb d q) (hp : Sz 3000 p) (hq : Sz 3000 q) (h : K1 (amt (p + q)) M) : binD (GK K) (below lv (lv 21) Γ) .Add (amt p) d ρ M K1 E1 := by
  rcases nm_num hd with ⟨m, rfl, rfl, e1, e2⟩ | rfl
  · exact ⟨trivial, by decide, rfl, rfl, p, _, _, rfl, hd, hp, hq, h⟩
  · exact ⟨rfl, by decide, trivial, rfl, p, _, _, rfl, hd, hp, hq, h⟩
theorem sum_loop {B : Nat} {M : Mst} {En : EndD} : ∀ (xs : List D) (qs : List Rat) (s : Rat) (o : Option D) (x : Option D) (a : Nat), Nmbs xs qs → Sz a s → a + (B + 1) * xs.length ≤ 3000 → B ≤ 3000 → (∀ q ∈ qs, Sz B q) → (∀ o, En.nx [x, some (amt (addAll qs s)), o] M) →
    forS (set1 2) (semSs (GK K) (below lv (lv 21) Γ) b19_1) xs [x, some (amt s), o] M En
  | [], qs, s, o, x, a, hx, hs, hl, hb, hq, h => by
    unfold Nmbs at hx
    subst hx
    exact h o
  | d :: ds, qs, s, o, x, a, hx, hs, hl, hb, hq, h => by
    unfold Nmbs at hx
    obtain ⟨q, r, rfl, hd, hr⟩ := hx
    have hq1 := hq q List.mem_cons_self
    rw [List.length_cons, Nat.mul_add, Nat.mul_one] at hl
    refine add_goS (q := q) K hd (sz_le hs (by omega)) (sz_le hq1 (by omega)) ?_
    exact sum_loop ds r (s + q) (some d) x (a + B + 1) hr (sz_add hs hq1) (by omega) hb (fun y hy => hq y (List.mem_cons_of_mem _ hy)) h
theorem sp_21 : SpecOk (GK K) Γ lv 21 c21 := by
  rintro ds M K1 E1 ⟨xs, qs, B, hd, hx, hl, hb, hq, h⟩
  have z : Sz 1 ((0 : Int) : Rat) := ⟨by simp, by simp⟩
  have l := fun x => sum_loop (M := M) (B := B) K xs qs ((0 : Int) : Rat) none x 1 hx z (by omega) hb hq (En := { nx := fun ρ' M' => semSs (GK K) (below lv (lv 21) Γ) (.cons (.ret (.var 1)) .nil) ρ' M' { nx := fun _ M' => K1 .non M', rt := K1, er := fun c fs _ M' => E1 c fs M' }, rt := K1, er := fun c fs _ M' => E1 c fs M' }) fun o => h
  rcases hd with rfl | rfl
  · exact ⟨rfl, 0, rfl, Nat.one_lt_two_pow (by omega) |> Nat.lt_of_le_of_lt (Nat.zero_le _), l _⟩
  · exact ⟨rfl, 0, rfl, Nat.one_lt_two_pow (by omega) |> Nat.lt_of_le_of_lt (Nat.zero_le _), l _⟩
theorem sp_23 : SpecOk (GK K) Γ lv 23 c23 := by
  rintro ds M K1 E1 ⟨p, d, q, rfl, hd, hp, hq, h⟩
  rcases nm_num hd with ⟨n, rfl, rfl, e1, e2⟩ | rfl
  · exact ⟨rfl, trivial, by decide, rfl, rfl, p, _, _, rfl, hd, hp, hq, h⟩
  · exact ⟨rfl, rfl, by decide, trivial, rfl, p, _, _, rfl, hd, hp, hq, h⟩
theorem sp_25 : SpecOk (GK K) Γ lv 25 c25 := by
  rintro ds M K1 E1 ⟨p, d, q, rfl, hd, hp, hq, h⟩
  rcases nm_num hd with ⟨n, rfl, rfl, e1, e2⟩ | rfl
  · exact ⟨rfl, trivial, by decide, rfl, rfl, p, _, _, rfl, hd, hp, hq, h⟩
  · exact ⟨rfl, rfl, by decide, trivial, rfl, p, _, _, rfl, hd, hp, hq, h⟩
theorem sp_27 : SpecOk (GK K) Γ lv 27 c27 := by
  rintro ds M K1 E1 ⟨p, rfl, hp, h⟩
  unfold ratS at h
  refine ⟨rfl, ?_⟩
  refine brb_eqI (fun c => ?_) (fun c => ?_)
  · rw [if_pos (by omega)] at h
    exact ⟨log_lt hp.1, h⟩
  · rw [if_neg (by omega)] at h
    have e1 := intS_len hp.1
    have dd : ((p.den : Int)).natAbs < 2 ^ 1900 := by rw [Int.natAbs_natCast]; exact hp.2
    have e2 := intS_len dd
    have s1 : ("/" : Str).length = 1 := by decide +kernel
    have a1 : (Str.empty ++ intS p.num).length ≤ 2000 := by rw [empty_app]; exact e1
    have a2 : (Str.empty ++ intS p.num ++ "/").length ≤ 2001 := by rw [len_app, s1]; omega
    have a3 : (Str.empty ++ intS p.num ++ "/" ++ intS p.den).length ≤ 4001 := by rw [len_app]; omega
    exact ⟨log_lt hp.1, Nat.le_trans a1 (by omega), Nat.le_trans a2 (by omega), log_lt dd, Nat.le_trans a3 (by omega), h⟩
end
end L25
end PyD
set_option Elab.async false
set_option linter.all false
set_option autoImplicit false
set_option maxRecDepth 100000
set_option maxHeartbeats 4000000
set_option exponentiation.threshold 10000
namespace PyD
open PySem PySem.Spec L2 TL
namespace L25
section
variable (K : PySem.W.Frag)
theorem wn_loop {M : Mst} {En : EndD} {d0 d1 d3 : Option D} (fin : ∀ x, En.nx [d0, d1, x, d3] M) : ∀ (z : Wi) (x : Option D), (∀ k, k ∈ wik z → isName k = true) → forS (set1 2) (semSs (GK K) (below lv (lv 28) Γ) b26_2) ((wiL z).map fun p => kD p.1) [d0, d1, x, d3] M En
  | [], a, h => fin _
  | p :: z, a, h => by
    have hx := h p.1 (by simp [wik])
    refine ⟨p.1, rfl, ?_, ?_⟩
    · have := name_len hx
      omega
    rw [hx]
    exact wn_loop fin z _ fun q hq => h q (by
      unfold wik at hq ⊢
      rw [List.map_cons]
      exact List.mem_cons_of_mem _ hq)
theorem wv_loop {n : Nat} {M : Mst} {En : EndD} {d0 d1 d2 : Option D} (fin : ∀ x, En.nx [d0, d1, d2, x] M) : ∀ (z : Wi) (x : Option D), (∀ p, p ∈ z → Nmb p.2.1 p.2.2 ∧ Sz n p.2.2) → forS (set1 3) (semSs (GK K) (below lv (lv 28) Γ) b26_1) ((wiL z).map fun p => p.2) [d0, d1, d2, x] M En
  | [], a, h => fin _
  | p :: z, a, h => by
    have hx := h p List.mem_cons_self
    refine ⟨p.2.1, p.2.2, rfl, hx.1, ?_⟩
    exact wv_loop fin z _ fun q hq => h q (List.mem_cons_of_mem _ hq)
theorem w_ne0 {M : Mst} {d : D} {q : Rat} {K1 : KD} {E1 : ED} (hd : Nmb d q) (h : K1 (.bl (decide (q ≠ 0))) M) : neC (GK K) (below lv (lv 28) Γ) d (.int 0) (fun z M' => K1 (.bl z) M') M E1 := by
  rcases nm_num hd with ⟨m, rfl, rfl, e1, e2⟩ | rfl
  · show K1 (.bl (!(m == 0))) M
    rw [int_ne0]
    exact h
  · refine ⟨trivial, rfl, q, _, ((0 : Int) : Rat), rfl, .inr ⟨0, rfl, rfl⟩, ?_⟩
    show K1 (.bl (!decide (q = ((0 : Int) : Rat)))) M
    rw [← decide_not]
    exact h
theorem weigh_fin {M : Mst} {a : Addr} {w : Wr} {K1 : KD} (ha : M a = none) (h : K1 (wghD w) M) : (fun d M' => d = D.non ∧ ((∃ fs, M' a = some (.inst 3 fs) ∧ K1 (.obj 3 fs) (delM M' a)) ∨ K1 (.loc a) M')) D.non (updM (updM M a (.inst 3 [])) a (.inst 3 [(34, .dct (wL w))])) := by
  rw [updM_updM]
  refine ⟨rfl, .inl ⟨_, updM_same, ?_⟩⟩
  rw [delM_updM ha]
  exact h
theorem wL_keys (w : Wr) : (wL w).map (·.1) = (wk w).map (Sum.inr : Str → Key) := by
  unfold wL wk
  rw [List.map_map, List.map_map]
  rfl
theorem w_last {M1 : Mst} {a : Addr} {z : Wi} {x2 x3 : Option D} {En : EndD} (hz : WiOk 3000 z) (hm : M1 a = some (.inst 3 []))
    (h : ∀ ρ (ys : List Str), ys.Perm (wik z) → PyProof.Rows.sortedS ys = true → En.nx ρ (updM M1 a (.inst 3 [(34, .dct (wL (wOf z ys)))]))) :
    semSs (GK K) (below lv (lv 28) Γ) (tls 3 b26) [some (.loc a), some (.dct (wiL z)), x2, x3] M1 En := by
  have ek := wi_keys z
  have ll := hz.len
  have kl : (wik z).length = z.length := by unfold wik; rw [List.length_map]
  refine ⟨wik z, .inr (.inr (.inl ⟨wiL z, rfl, ek⟩)), by omega, fun ys hp hs => ?_⟩
  have yl : ys.length = z.length := by rw [hp.length_eq, kl]
  refine ⟨by rw [List.length_map]; omega, dcL_filter (fk := fun d => .inr (strD d)) (f := fun d => amt (wiq z (strD d))) (p := fun d => decide (wiq z (strD d) ≠ 0)) (fun d hd => ?_) ?_⟩
  · obtain ⟨k, hk, rfl⟩ := List.mem_map.mp hd
    obtain ⟨x, q, h1, h2, h3⟩ := wi_at (hp.mem_iff.mp hk)
    have hx := hz.num _ h1
    have e3 : wiq z (strD (.str k)) = q := h3
    rw [e3]
    refine ⟨_, rfl, fun K1 h => ⟨.inr k, x, rfl, h2, w_ne0 K hx.1 h⟩, fun _ => ⟨fun K1 h => h, fun K1 h => ⟨.inr k, x, rfl, h2, ?_⟩⟩⟩
    exact ⟨x, q, rfl, hx.1, sz_le hx.2 (by omega), h⟩
  · have e : ((ys.map D.str).filter fun d => decide (wiq z (strD d) ≠ 0)).map (fun d => ((Sum.inr (strD d) : Key), amt (wiq z (strD d)))) = wL (wOf z ys) := by
      unfold wL wOf
      rw [List.filter_map, List.map_map, List.map_map]
      rfl
    rw [e, putAll_fresh _ _ (by
      rw [List.nil_append, wL_keys, wk_wOf]
      exact nodup_map (fun a b e => Sum.inr.inj e) ((hp.nodup_iff.mpr hz.nd).filter _)), List.nil_append]
    exact ⟨3, [], hm, rfl, by simp, h _ ys hp hs⟩
theorem w_lastL {M1 : Mst} {a : Addr} {z : Wi} {x2 x3 : Option D} {En : EndD} {a0 : Addr} {ob : Obj} {vs : List (Key × V)} (hM1 : M1 a0 = some (.lok ob vs (wiL z))) (hz : WiOk 3000 z) (hm : M1 a = some (.inst 3 []))
    (h : ∀ ρ (ys : List Str), ys.Perm (wik z) → PyProof.Rows.sortedS ys = true → En.nx ρ (updM M1 a (.inst 3 [(34, .dct (wL (wOf z ys)))]))) :
    semSs (GK K) (below lv (lv 28) Γ) (tls 3 b26) [some (.loc a), some (.loc a0), x2, x3] M1 En := by
  have ek := wi_keys z
  have ll := hz.len
  have kl : (wik z).length = z.length := by unfold wik; rw [List.length_map]
  refine ⟨wik z, .inr (.inr (.inr ⟨a0, ob, vs, wiL z, rfl, hM1, ek⟩)), by omega, fun ys hp hs => ?_⟩
  have yl : ys.length = z.length := by rw [hp.length_eq, kl]
  refine ⟨by rw [List.length_map]; omega, dcL_filter (fk := fun d => .inr (strD d)) (f := fun d => amt (wiq z (strD d))) (p := fun d => decide (wiq z (strD d) ≠ 0)) (fun d hd => ?_) ?_⟩
  · obtain ⟨k, hk, rfl⟩ := List.mem_map.mp hd
    obtain ⟨x, q, h1, h2, h3⟩ := wi_at (hp.mem_iff.mp hk)
    have hx := hz.num _ h1
    have e3 : wiq z (strD (.str k)) = q := h3
    rw [e3]
    refine ⟨_, rfl, fun K1 h => ⟨wiL z, x, .inr ⟨ob, vs, hM1⟩, h2, w_ne0 K hx.1 h⟩, fun _ => ⟨fun K1 h => h, fun K1 h => ⟨wiL z, x, .inr ⟨ob, vs, hM1⟩, h2, ?_⟩⟩⟩
    exact ⟨x, q, rfl, hx.1, sz_le hx.2 (by omega), h⟩
  · have e : ((ys.map D.str).filter fun d => decide (wiq z (strD d) ≠ 0)).map (fun d => ((Sum.inr (strD d) : Key), amt (wiq z (strD d)))) = wL (wOf z ys) := by
      unfold wL wOf
      rw [List.filter_map, List.map_map, List.map_map]
      rfl
    rw [e, putAll_fresh _ _ (by
      rw [List.nil_append, wL_keys, wk_wOf]
      exact nodup_map (fun a b e => Sum.inr.inj e) ((hp.nodup_iff.mpr hz.nd).filter _)), List.nil_append]
    exact ⟨3, [], hm, rfl, by simp, h _ ys hp hs⟩
theorem sp_28 : SpecOk (GK K) Γ lv 28 c28 := by
  rintro ds M K1 E1 ⟨z, d, rfl, hd, hz, h⟩ a ha
  rcases hd with rfl | ⟨a0, ob, vs, rfl, hM⟩
  · refine ⟨rfl, ?_⟩
    refine wn_loop K (fun x => ?_) z none hz.nm
    refine wv_loop K (fun x => ?_) z none hz.num
    refine w_last K hz updM_same fun ρ ys hp hs => ?_
    exact weigh_fin ha (h ys hp hs)
  · have ne : a0 ≠ a := fun e => by subst e; rw [ha] at hM; cases hM
    have hM1 : updM M a (.inst 3 []) a0 = some (.lok ob vs (wiL z)) := by rw [updM_ne ne]; exact hM
    refine ⟨rfl, ?_⟩
    have ty : tyD (.loc a0) (updM M a (.inst 3 [])) = some (.b "dict") := tyD_lok hM1
    conv => whnf
    rw [ty]
    refine .inl ⟨ob, vs, wiL z, hM1, ?_⟩
    refine wn_loop K (fun x => ?_) z none hz.nm
    refine ⟨ob, vs, wiL z, hM1, ?_⟩
    refine wv_loop K (fun x => ?_) z none hz.num
    refine w_lastL K hM1 hz updM_same fun ρ ys hp hs => ?_
    exact weigh_fin ha (h ys hp hs)
theorem get_w {w : Wr} {k : Str} {P : D → Prop} (h : P (amt (wt w k))) : match valD (wL w) (.inr k) with
    | some e => P e
    | none => P (amt ((0 : Int) : Rat)) := by
  induction w with
  | nil => exact h
  | cons p r ih =>
    obtain ⟨j, q⟩ := p
    by_cases c : j = k
    · subst c
      have e1 : valD (wL ((j, q) :: r)) (.inr j) = some (amt q) := by simp [wL, valD, List.find?_cons]
      have e2 : wt ((j, q) :: r) j = q := by simp [wt, List.find?_cons]
      rw [e2] at h
      rw [e1]
      exact h
    · have c2 : ¬ ((Sum.inr j : Key) = Sum.inr k) := fun e => c (Sum.inr.inj e)
      have e1 : valD (wL ((j, q) :: r)) (.inr k) = valD (wL r) (.inr k) := by simp [wL, valD, List.find?_cons, c2, c]
      have e2 : wt ((j, q) :: r) k = wt r k := by simp [wt, List.find?_cons, c]
      rw [e2] at h
      rw [e1]
      exact ih h
theorem sp_29 : SpecOk (GK K) Γ lv 29 c29 := by
  rintro ds M K1 E1 ⟨w, k, rfl, hk, h⟩
  refine ⟨rfl, k, rfl, ?_, ?_⟩
  · have := name_len hk
    omega
  rw [hk]
  refine ⟨trivial, 0, rfl, Nat.one_lt_two_pow (by omega) |> Nat.lt_of_le_of_lt (Nat.zero_le _), ?_⟩
  exact ⟨.inr k, rfl, get_w h⟩
theorem sp_31 : SpecOk (GK K) Γ lv 31 c31 := by
  rintro ds M K1 E1 ⟨w, rfl, h⟩
  have e : (wL w).length = w.length := by unfold wL; rw [List.length_map]
  refine ⟨rfl, ?_⟩
  show K1 (.int ((wL w).length : Nat)) M
  rw [e]
  exact h
def nonNameW : D → Prop
  | .non => True
  | .int _ => True
  | .bl _ => True
  | .lst _ => True
  | .tup _ => True
  | .dct _ => True
  | _ => False
theorem some_w (w : Wr) (x : Str) : (valD (wL w) (.inr x)).isSome = decide (x ∈ wk w) := by
  induction w with
  | nil => rfl
  | cons p r ih =>
    obtain ⟨j, q⟩ := p
    by_cases c : j = x
    · subst c
      simp [wL, wk, valD, List.find?_cons]
    · have c2 : ¬ ((Sum.inr j : Key) = Sum.inr x) := fun e => c (Sum.inr.inj e)
      have e1 : valD (wL ((j, q) :: r)) (.inr x) = valD (wL r) (.inr x) := by simp [wL, valD, List.find?_cons, c2, c]
      rw [e1, ih]
      have c3 : ¬ x = j := fun e => c e.symm
      have e2 : wk ((j, q) :: r) = j :: wk r := rfl
      rw [e2]
      simp [List.mem_cons, c3]
theorem sp_30 : SpecOk (GK K) Γ lv 30 c30 := by
  rintro ds M K1 E1 (⟨w, x, rfl, hl, h⟩ | ⟨w, d, rfl, hd, h⟩)
  · refine ⟨rfl, x, rfl, hl, ?_⟩
    cases e : isName x with
    | false =>
      rw [e] at h
      exact h
    | true =>
      rw [e, Bool.true_and] at h
      refine ⟨.inr x, rfl, ?_⟩
      show K1 (.bl ((valD (wL w) (.inr x)).isSome)) M
      rw [some_w]
      exact h
  · cases d with
    | non => exact ⟨rfl, h⟩
    | int i => exact ⟨rfl, h⟩
    | bl i => exact ⟨rfl, h⟩
    | lst xs => exact ⟨rfl, h⟩
    | tup xs => exact ⟨rfl, h⟩
    | dct xs => exact ⟨rfl, h⟩
    | _ => exact hd.elim
theorem sp_32 : SpecOk (GK K) Γ lv 32 c32 := by
  rintro ds M K1 E1 ⟨w, o, B, rfl, hl, hB, hb, hk, h⟩
  refine ⟨rfl, o, rfl, by omega, ?_⟩
  refine ⟨by rw [List.length_map, len_ks]; omega, lcL_map (f := fun d => amt (wt w (strD d) * ((cnt o (strD d) : Int) : Rat))) (fun d hd => ?_) ?_⟩
  · obtain ⟨k, hk', rfl⟩ := List.mem_map.mp hd
    obtain ⟨n1, n2, n3, n4⟩ := hk k hk'
    refine ⟨_, rfl, fun K h => ⟨rfl, w, k, rfl, n1, rfl, o, k, rfl, n1, trivial, by decide, rfl, rfl, wt w k, _, _, rfl, .inr ⟨_, rfl, rfl⟩, n2, ⟨?_, ?_⟩, h⟩⟩
    · rw [Rat.num_intCast]
      exact n3
    · rw [Rat.den_intCast]
      exact Nat.one_lt_two_pow (by omega)
  · refine ⟨_, (ks o).map fun k => wt w k * ((cnt o k : Int) : Rat), B, .inl rfl, ?_, ?_, hb, ?_, h⟩
    · rw [List.nil_append, List.map_map]
      generalize ks o = l
      induction l with
      | nil => rfl
      | cons k r ih => exact ⟨_, _, rfl, .inl rfl, ih⟩
    · rw [List.nil_append, List.length_map, List.length_map, len_ks]
      exact hB
    · intro q hq
      obtain ⟨k, hk', rfl⟩ := List.mem_map.mp hq
      exact (hk k hk').2.2.2
theorem val_w {v : Wr} {k : Str} {e : D} (h : valD (wL v) (.inr k) = some e) : ∃ q, e = amt q := by
  induction v with
  | nil => cases h
  | cons p r ih =>
    obtain ⟨j, q⟩ := p
    by_cases c : j = k
    · subst c
      have e1 : valD (wL ((j, q) :: r)) (.inr j) = some (amt q) := by simp [wL, valD, List.find?_cons]
      rw [e1] at h
      cases h
      exact ⟨q, rfl⟩
    · have c2 : ¬ ((Sum.inr j : Key) = Sum.inr k) := fun e => c (Sum.inr.inj e)
      have e1 : valD (wL ((j, q) :: r)) (.inr k) = valD (wL r) (.inr k) := by simp [wL, valD, List.find?_cons, c2, c]
      rw [e1] at h
      exact ih h
theorem amt_inj {p q : Rat} (h : amt p = amt q) : p = q := by
  unfold amt at h
  simp only [D.obj.injEq, List.cons.injEq, Prod.mk.injEq, D.int.injEq, and_true, true_and] at h
  exact Rat.ext h.1 (by omega)
theorem same_amt {p q : Rat} (h : same (amt p) (amt q)) : p = q := by
  unfold amt at h
  unfold same at h
  rcases h with ⟨gs, e, h⟩ | h
  · cases e
    unfold samef at h
    obtain ⟨e1, r1, q1, q2, q3⟩ := h
    cases q1
    unfold samef at q3
    obtain ⟨e2, r2, q4, q5, _⟩ := q3
    cases q4
    unfold same at q2 q5
    rcases q2 with q2 | q2
    · rcases q5 with q5 | q5
      · injection q2 with q2
        injection q5 with q5
        exact Rat.ext q2.symm (by omega)
      · exact q5.elim
    · exact q2.elim
  · exact h.elim
theorem dctT_w {M : Mst} {E1 : ED} {v : Wr} : ∀ (ws : Wr) {K1 : KB}, (∀ b : Bool, (b = true ↔ ∀ p, p ∈ ws → valD (wL v) (.inr p.1) = some (amt p.2)) → K1 b M) → dctT (eqT (GK K) (below lv (lv 33) Γ) 5) (wL v) (wL ws) K1 M E1
  | [], K1, h => h true (by simp)
  | p :: ws, K1, h => by
    have e0 : wL (p :: ws) = (Sum.inr p.1, amt p.2) :: wL ws := rfl
    rw [e0]
    unfold dctT
    cases hv : valD (wL v) (.inr p.1) with
    | none =>
      refine h false ⟨fun z => (by cases z), fun z => ?_⟩
      have := z p List.mem_cons_self
      rw [hv] at this
      cases this
    | some e =>
      obtain ⟨q, rfl⟩ := val_w hv
      have yes : p.2 = q → dctT (eqT (GK K) (below lv (lv 33) Γ) 5) (wL v) (wL ws) K1 M E1 := fun eq => dctT_w ws fun b hb => h b (hb.trans ⟨fun z x hx => by
        rcases List.mem_cons.mp hx with rfl | hx
        · rw [hv, eq]
        · exact z x hx, fun z x hx => z x (List.mem_cons_of_mem _ hx)⟩)
      refine ⟨fun sm => yes (same_amt sm), rfl, rfl, p.2, _, q, rfl, .inl rfl, ?_⟩
      refine brb_dec (fun z => yes z) (fun z => ?_)
      refine h false ⟨fun z => (by cases z), fun y => ?_⟩
      have := y p List.mem_cons_self
      rw [hv] at this
      injection this with this
      exact absurd (amt_inj this).symm z
theorem sp_33 : SpecOk (GK K) Γ lv 33 c33 := by
  rintro ds M K1 E1 ⟨w, d, rfl, ⟨v, rfl, h⟩ | ⟨⟨x, rfl⟩ | ⟨x, rfl⟩, h⟩⟩
  · refine ⟨rfl, ?_⟩
    have lw : (wL w).length = w.length := by unfold wL; rw [List.length_map]
    have lv' : (wL v).length = v.length := by unfold wL; rw [List.length_map]
    show dctE (eqT (GK K) (below lv (lv 33) Γ) 5) (wL w) (wL v) (fun z M' => K1 (.bl z) M') M E1
    unfold dctE
    rw [lw, lv']
    by_cases e : w.length = v.length
    · rw [if_pos e]
      exact dctT_w K w fun b hb => h b ⟨fun z => ⟨e, hb.mp z⟩, fun z => hb.mpr z.2⟩
    · rw [if_neg e]
      exact h false ⟨fun z => (by cases z), fun z => absurd z.1 e⟩
  · exact ⟨rfl, h⟩
  · exact ⟨rfl, h⟩
theorem sp_34 : SpecOk (GK K) Γ lv 34 c34 := by
  rintro ds M K1 E1 ⟨w, rfl, nd, hl, hw, h⟩
  have s1 : (" " : Str).length = 1 := by decide +kernel
  have ll : (wL w).length = w.length := by unfold wL; rw [List.length_map]
  refine ⟨rfl, by rw [List.length_map, ll]; omega, lcL_map (f := fun d => .str (wPart (strD d, wt w (strD d)))) (fun d hd => ?_) ?_⟩
  · rw [wL_kD] at hd
    obtain ⟨k, hk, rfl⟩ := List.mem_map.mp hd
    obtain ⟨p, hp, rfl⟩ := wt_at hk
    obtain ⟨n1, n2⟩ := hw p hp
    have e := wPart_len n1 n2
    have hn := name_len n1
    have ew : wt w p.1 = p.2 := wt_mem nd hp
    have a1 : (Str.empty ++ p.1).length ≤ 8 := by rw [empty_app]; exact hn
    have a2 : (Str.empty ++ p.1 ++ " ").length ≤ 9 := by rw [len_app, s1]; omega
    refine ⟨_, rfl, fun K h => ?_⟩
    refine ⟨by omega, by omega, by omega, .inr p.1, _, rfl, val_wL nd hp, rfl, p.2, rfl, n2, by have := ratS_len n2; omega, Nat.le_trans e (by omega), ?_⟩
    have h' : K (.str (wPart (p.1, wt w p.1))) M := h
    rw [ew] at h'
    exact h'
  · have ek : (wk w).map (fun k => wPart (k, wt w k)) = w.map wPart := by
      unfold wk
      rw [List.map_map]
      refine List.map_congr_left fun p hp => ?_
      show wPart (p.1, wt w p.1) = wPart p
      rw [wt_mem nd hp]
    have hm : (((w.map wPart).map (·.length)).sum ≤ 4010 * w.length) := by
      rw [List.map_map]
      exact sum_map_le fun p hp => wPart_len (hw p hp).1 (hw p hp).2
    refine ⟨trivial, w.map wPart, by rw [List.nil_append, wL_kD, ← ek, List.map_map, List.map_map]; rfl, ?_, ?_⟩
    · rw [List.length_map, s1]
      omega
    · by_cases z : w = []
      · subst z
        exact ⟨by decide +kernel, h⟩
      · have e2 : wTxt w = Txt.join " " (w.map wPart) := by unfold wTxt; rw [if_neg z]
        rw [← e2]
        have jl := join_len (w.map wPart)
        rw [← e2, List.length_map] at jl
        have pos : 1 ≤ (wTxt w).length := by
          rw [e2]
          cases w with
          | nil => exact absurd rfl z
          | cons p r =>
            have h1 : 1 ≤ (wPart p).length := by
              unfold wPart
              rw [len_app, len_app, s1]
              omega
            cases r with
            | nil =>
              rw [join_eq]
              exact h1
            | cons r1 r2 =>
              rw [List.map_cons, List.map_cons, join_cons2, len_app, len_app]
              omega
        refine ⟨by omega, ?_⟩
        refine brb_neI (fun _ => h) (fun z => ?_)
        have : (wTxt w).length = 0 := by exact_mod_cast z
        omega
theorem wTxt_len {w : Wr} (hl : w.length < 64) (hw : ∀ p, p ∈ w → isName p.1 = true ∧ Sz 1900 p.2) : (wTxt w).length ≤ 300000 := by
  have hm : (((w.map wPart).map (·.length)).sum ≤ 4010 * w.length) := by
    rw [List.map_map]
    exact sum_map_le fun p hp => wPart_len (hw p hp).1 (hw p hp).2
  unfold wTxt
  split
  · decide +kernel
  · have jl := join_len (w.map wPart)
    rw [List.length_map] at jl
    omega
end
end L25
end PyD
set_option Elab.async false
set_option linter.all false
set_option autoImplicit false
set_option maxRecDepth 100000
set_option maxHeartbeats 4000000
set_option exponentiation.threshold 10000
namespace PyD
open PySem PySem.Spec L2 TL
namespace L25
section
variable (K : PySem.W.Frag)
theorem sp_37 : SpecOk (GK K) Γ lv 37 c37 := by
  rintro ds M K1 E1 ⟨M0, a, xs, rfl, hp, h0, hl, h⟩
  refine ⟨rfl, M0, a, _, rfl, hp, by omega, by omega, fun r M' r0 r1 hp' => ?_⟩
  have l : r.toNat < xs.length := by omega
  refine ⟨xs[r.toNat], ?_, h _ (List.getElem_mem _) _ hp'⟩
  unfold atI ixN
  rw [if_pos r0, if_pos r1]
  exact List.getElem?_eq_getElem l
theorem sp_36 : SpecOk (GK K) Γ lv 36 c36 := by
  rintro ds M K1 E1 ⟨M0, a, m, rfl, hp, h0, hm, h⟩
  exact ⟨rfl, bagDraw_ok (k := ⟨79, 16807, 103⟩) (by decide) hp h0 hm h⟩
theorem bag_loop {M : Mst} {En : EndD} {d0 : Option D} (fin : ∀ (s : Int) x, 0 ≤ s → s < 2 ^ 31 → En.nx [d0, some (.int s), x] M) : ∀ (cs : List Int) (s : Int) (x : Option D), 0 ≤ s → s < 2 ^ 31 → forS (set1 2) (semSs (GK K) (below lv (lv 35) Γ) b33_1) (cs.map D.int) [d0, some (.int s), x] M En
  | [], s, x, s0, s1 => fin s x s0 s1
  | c :: cs, s, x, s0, s1 => by
    refine ⟨.inl (bd_nn s0 (by omega)), by omega, by omega, ?_⟩
    exact bag_loop fin cs _ _ (fmod_lt (by omega)).1 (Int.lt_trans (fmod_lt (by omega)).2 (by omega))
theorem sp_35 : SpecOk (GK K) Γ lv 35 c35 := by
  rintro ds M K1 E1 ⟨ns, rfl, h⟩
  have ec : cutD (ns.map D.int) none (some 63) = ((ns.drop (HT.sIx (ns.map D.int).length 0 none)).take (HT.sIx (ns.map D.int).length (ns.map D.int).length (some 63) - HT.sIx (ns.map D.int).length 0 none)).map D.int := by
    rw [List.map_take, List.map_drop]
    rfl
  refine ⟨rfl, ?_⟩
  show forS (set1 2) (semSs (GK K) (below lv (lv 35) Γ) b33_1) (cutD (ns.map D.int) none (some 63)) [some (.lst (ns.map D.int)), some (.int _), none] M _
  rw [ec]
  refine bag_loop K (fun s x s0 s1 => ?_) _ _ none (by omega) (by omega)
  refine fun p hp => ⟨.inr "cells", rfl, .inr "at", rfl, .inr "rest", rfl, .inr "state", rfl, updM_same, h p _ hp ⟨hp, (ns.drop (HT.sIx (ns.map D.int).length 0 none)).take (HT.sIx (ns.map D.int).length (ns.map D.int).length (some 63) - HT.sIx (ns.map D.int).length 0 none), 0, 0, s, ?_, by omega, by omega, s0, s1⟩⟩
  rw [updM_updM, ec]
  rfl
end
end L25
end PyD
set_option Elab.async false
set_option linter.all false
set_option autoImplicit false
set_option maxRecDepth 100000
set_option maxHeartbeats 4000000
set_option exponentiation.threshold 10000
namespace PyD
open PySem PySem.Spec L2 TL
namespace L25
section
variable (K : PySem.W.Frag)
theorem low_loop {M : Mst} {En : EndD} {t b : Option D} : ∀ (y x : Nat), x < 2 ^ 7900 → y < 2 ^ 7900 → En.nx [t, b, some (.int (Nat.gcd x y : Nat)), some (.int 0)] M →
    ∃ n, whlS (sem (GK K) (below lv (lv 38) Γ) (.cmp .NotEq (.var 3) (.con (.int 0)))).2 (semSs (GK K) (below lv (lv 38) Γ) b36_1) n [t, b, some (.int x), some (.int y)] M En := by
  intro y
  induction y using Nat.strongRecOn with
  | _ y ih =>
    intro x hx hy h
    by_cases e : y = 0
    · subst e
      rw [Nat.gcd_zero_right] at h
      exact ⟨1, h⟩
    · have lt : x % y < y := Nat.mod_lt _ (by omega)
      obtain ⟨n, hn⟩ := ih (x % y) lt y hy (by omega) (by rw [Nat.gcd_comm x y, Nat.gcd_rec y x, Nat.gcd_comm] at h; exact h)
      refine ⟨n + 1, ?_⟩
      refine brb_not ?_
      refine brb_eqI (fun z => by omega) fun z => ⟨by omega, ?_⟩
      rw [← fmod_nat] at hn
      exact hn
theorem low_fin {M : Mst} {t b : Int} {K1 : KD} {E1 : ED} (hb : b ≠ 0) (h1 : Bd 7000 t) (h2 : Bd 7000 b) (h : K1 (ratD (Rat.divInt t b)) M) :
    semSs (GK K) (below lv (lv 38) Γ) (tls 2 b36) [some (.int t), some (.int b), some (.int (Nat.gcd t.natAbs b.natAbs : Nat)), some (.int 0)] M { nx := fun _ M' => K1 .non M', rt := K1, er := fun c fs _ M' => E1 c fs M' } := by
  have hg := gcd_bd (t := t) hb
  have hp := Int.gcd_pos_of_ne_zero_left t hb
  have eg : (Nat.gcd t.natAbs b.natAbs) = b.gcd t := by rw [Int.gcd_eq_natAbs_gcd_natAbs, Nat.gcd_comm]
  rw [eg]
  have fin : ∀ (v : Int), v = (if b < 0 then -((b.gcd t : Nat) : Int) else ((b.gcd t : Nat) : Int)) → semSs (GK K) (below lv (lv 38) Γ) (tls 3 b36) [some (.int t), some (.int b), some (.int v), some (.int 0)] M { nx := fun _ M' => K1 .non M', rt := K1, er := fun c fs _ M' => E1 c fs M' } := by
    intro v hv
    have d : DivOk v := by
      subst hv
      refine ⟨by split <;> omega, bd_up (bd_le h2 ?_) (by omega)⟩
      split <;> omega
    have e1 : t.fdiv v = (Rat.divInt t b).num := by rw [hv]; exact num_of (t := t) hb rfl
    have e2 : b.fdiv v = ((Rat.divInt t b).den : Int) := by rw [hv]; exact den_of (t := t) hb rfl
    refine ⟨d, d, by show 2 ≤ 1000000; omega, ?_⟩
    rw [e1, e2]
    exact h
  refine brb_dec (fun c => ?_) (fun c => ?_)
  · exact fin _ (by rw [if_neg (by omega)])
  · exact fin _ (by rw [if_pos (by omega)])
theorem sp_38 : SpecOk (GK K) Γ lv 38 c38 := by
  rintro ds M K1 E1 ⟨t, b, rfl, hb, h1, h2, h⟩
  have go := low_loop (M := M) (t := some (.int t)) (b := some (.int b)) (En := { nx := fun ρ M' => semSs (GK K) (below lv (lv 38) Γ) (tls 2 b36) ρ M' { nx := fun _ M' => K1 .non M', rt := K1, er := fun c fs _ M' => E1 c fs M' }, rt := K1, er := fun c fs _ M' => E1 c fs M' }) K b.natAbs t.natAbs (Nat.lt_trans h1 (Nat.pow_lt_pow_right (by omega) (by omega))) (Nat.lt_trans h2 (Nat.pow_lt_pow_right (by omega) (by omega))) (low_fin K hb h1 h2 h)
  rw [← abs_is, ← abs_is] at go
  exact ⟨rfl, go⟩
theorem sz_of {p : Int × Int} {B : Nat} (h : p.2 ≠ 0 ∧ Bd B p.1 ∧ Bd B p.2) : Sz B (Rat.divInt p.1 p.2) := sz_div h.1 h.2.1 h.2.2
theorem add_step (s : Rat) {n o : Int} (ho : o ≠ 0) : Rat.divInt (s.num * o + n * s.den) (s.den * o) = s + Rat.divInt n o := by
  have := Rat.divInt_add_divInt s.num n (den0 s) ho
  rw [Rat.num_divInt_den] at this
  exact this.symm
theorem total_loop {B : Nat} (hb : B ≤ 3000) (b0 : 0 < B) {M : Mst} {En : EndD} {x : Option D} : ∀ (ps : List (Int × Int)) (s : Rat) (y z : Option D) (a : Nat), 0 < a → Sz a s → (∀ p, p ∈ ps → p.2 ≠ 0 ∧ Bd B p.1 ∧ Bd B p.2) → a + (B + 1) * ps.length ≤ 3000 → (∀ y z, En.nx [x, some (.int (addAll (ps.map fun p => Rat.divInt p.1 p.2) s).num), some (.int (addAll (ps.map fun p => Rat.divInt p.1 p.2) s).den), y, z] M) →
    forS (setT [3, 4]) (semSs (GK K) (below lv (lv 39) Γ) b37_1) (ps.map fun p => .tup [.int p.1, .int p.2]) [x, some (.int s.num), some (.int s.den), y, z] M En
  | [], s, y, z, a, a0, hs, hp, hl, h => h y z
  | p :: ps, s, y, z, a, a0, hs, hp, hl, h => by
    have hq := hp p List.mem_cons_self
    rw [List.length_cons, Nat.mul_add, Nat.mul_one] at hl
    refine ⟨mo hs.nu hq.2.2 (by omega) (by omega) (by omega), mo hq.2.1 hs.de (by omega) (by omega) (by omega), mo hs.de hq.2.2 (by omega) (by omega) (by omega), _, _, rfl, Int.mul_ne_zero (den0 s) hq.1, bd_up (bd_add (bd_mul hs.nu hq.2.2) (n := a + B) (by rw [Nat.add_comm]; exact bd_mul hq.2.1 hs.de)) (by omega), bd_up (bd_mul hs.de hq.2.2) (by omega), ?_⟩
    rw [add_step s hq.1]
    exact total_loop hb b0 ps (s + Rat.divInt p.1 p.2) _ _ (a + B + 1) (by omega) (sz_add hs (sz_of hq)) (fun q hq => hp q (List.mem_cons_of_mem _ hq)) (by omega) h
theorem sp_39 : SpecOk (GK K) Γ lv 39 c39 := by
  rintro ds M K1 E1 ⟨ps, B, rfl, hp, hl, b0, hb, h⟩
  refine ⟨rfl, by show 2 ≤ 1000000; omega, ?_⟩
  have z : Sz 1 (0 : Rat) := ⟨by decide, by decide⟩
  refine total_loop K hb b0 ps 0 none none 1 (by omega) z hp (by omega) fun y z => ?_
  exact ⟨by show 2 ≤ 1000000; omega, h⟩
theorem wp_keys (v : Wr) : (wpL v).map (fun p => kD p.1) = (wk v).map D.str := by
  unfold wpL wk
  rw [List.map_map, List.map_map]
  rfl
theorem wp_val {v : Wr} {k : Str} (h : k ∈ wk v) : valD (wpL v) (.inr k) = some (ratD (wt v k)) := by
  induction v with
  | nil => cases h
  | cons p r ih =>
    obtain ⟨j, q⟩ := p
    by_cases c : j = k
    · subst c
      simp [wpL, wt, valD, List.find?_cons]
    · have c2 : ¬ ((Sum.inr j : Key) = Sum.inr k) := fun e => c (Sum.inr.inj e)
      have hk : k ∈ wk r := by
        have : k ∈ j :: wk r := h
        rcases List.mem_cons.mp this with e | e
        · exact absurd e.symm c
        · exact e
      have e1 : valD (wpL ((j, q) :: r)) (.inr k) = valD (wpL r) (.inr k) := by simp [wpL, valD, List.find?_cons, c2, c]
      have e2 : wt ((j, q) :: r) k = wt r k := by simp [wt, List.find?_cons, c]
      rw [e1, e2]
      exact ih hk
theorem wp_none {v : Wr} {k : Str} (h : k ∉ wk v) : valD (wpL v) (.inr k) = none := by
  induction v with
  | nil => rfl
  | cons p r ih =>
    obtain ⟨j, q⟩ := p
    have h2 : k ∉ j :: wk r := h
    rw [List.mem_cons, not_or] at h2
    have c2 : ¬ ((Sum.inr j : Key) = Sum.inr k) := fun e => h2.1 (Sum.inr.inj e).symm
    have e1 : valD (wpL ((j, q) :: r)) (.inr k) = valD (wpL r) (.inr k) := by simp [wpL, valD, List.find?_cons, c2]
    rw [e1]
    exact ih h2.2
theorem get_wp {v : Wr} {k : Str} {P : D → Prop} (h : P (ratD (wt v k))) : match valD (wpL v) (.inr k) with
    | some e => P e
    | none => P (.tup [.int 0, .int 1]) := by
  by_cases c : k ∈ wk v
  · rw [wp_val c]; exact h
  · rw [wp_none c]
    rw [wt_none c] at h
    exact h
theorem divInt_mul_int (q : Rat) (n : Int) : Rat.divInt (q.num * n) q.den = q * (n : Rat) := by
  have := mul_is q (n : Rat)
  rw [Rat.num_intCast, Rat.den_intCast] at this
  rw [← this]
  congr 1
  show (q.den : Int) = (q.den : Int) * ((1 : Nat) : Int)
  omega
theorem sp_40 : SpecOk (GK K) Γ lv 40 c40 := by
  rintro ds M K1 E1 ⟨v, q, B, rfl, nd, hv, hm, hl, b0, hb, l64, h⟩
  refine ⟨rfl, by rw [List.length_map]; unfold wpL; rw [List.length_map]; omega, lcL_map (f := fun d => .tup [.int ((wt v (strD d)).num * (cnt q (strD d) : Int)), .int (wt v (strD d)).den]) (fun d hd => ?_) ?_⟩
  · rw [wp_keys] at hd
    obtain ⟨k, hk, rfl⟩ := List.mem_map.mp hd
    obtain ⟨p, hp, rfl⟩ := wt_at hk
    have hm' := hm p hp
    rw [← wt_mem nd hp] at hm'
    refine ⟨_, rfl, fun K h => ?_⟩
    refine ⟨.inr p.1, _, rfl, wp_val hk, _, rfl, trivial, .inr p.1, rfl, get_go ?_⟩
    exact ⟨hm', .inr p.1, _, rfl, wp_val hk, _, rfl, by show 2 ≤ 1000000; omega, h⟩
  · rw [List.nil_append, wp_keys]
    refine ⟨v.map fun p => (p.2.num * (cnt q p.1 : Int), (p.2.den : Int)), B + B, ?_, ?_, by rw [List.length_map]; exact hl, by omega, by omega, ?_⟩
    · unfold wk
      rw [List.map_map, List.map_map, List.map_map]
      have e : v.map ((fun d => D.tup [.int ((wt v (strD d)).num * (cnt q (strD d) : Int)), .int (wt v (strD d)).den]) ∘ D.str ∘ fun p => p.1) = v.map ((fun p : Int × Int => D.tup [.int p.1, .int p.2]) ∘ fun p => (p.2.num * (cnt q p.1 : Int), (p.2.den : Int))) := List.map_congr_left fun p hp => by
        show D.tup [.int ((wt v p.1).num * (cnt q p.1 : Int)), .int (wt v p.1).den] = D.tup [.int (p.2.num * (cnt q p.1 : Int)), .int p.2.den]
        rw [wt_mem nd hp]
      exact congrArg (fun z => [D.lst z]) e
    · intro p hp
      obtain ⟨r, hr, rfl⟩ := List.mem_map.mp hp
      obtain ⟨h1, h2⟩ := hv r hr
      exact ⟨den0 r.2, h2, bd_up h1.de (by omega)⟩
    · rw [List.map_map]
      have e : v.map ((fun p : Int × Int => Rat.divInt p.1 p.2) ∘ fun p : Str × Rat => (p.2.num * (cnt q p.1 : Int), (p.2.den : Int))) = v.map fun p => p.2 * ((cnt q p.1 : Int) : Rat) := List.map_congr_left fun p hp => divInt_mul_int p.2 _
      rw [e]
      exact h
theorem put_new {k : Key} {d : D} : ∀ {l : List (Key × D)}, (∀ p, p ∈ l → p.1 ≠ k) → putKD k d l = l ++ [(k, d)] := by
  intro l h
  unfold putKD
  rw [if_neg]
  intro z
  obtain ⟨p, hp, e⟩ := List.any_eq_true.mp z
  exact h p hp (of_decide_eq_true e)
theorem put_wp {k : Str} {q : Rat} {v : Wr} (h : k ∉ wk v) : putKD (.inr k) (ratD q) (wpL v) = wpL (v ++ [(k, q)]) := by
  rw [put_new fun p hp => ?_]
  · unfold wpL; rw [List.map_append]; rfl
  · obtain ⟨r, hr, rfl⟩ := List.mem_map.mp hp
    intro e
    exact h (by rw [← Sum.inr.inj e]; exact List.mem_map_of_mem hr)
theorem weights_loop {a b : Addr} {M0 : Mst} {En : EndD} {x1 : Option D} {s : Bool} (ne : b ≠ a) : ∀ (xs : List Str) (v : Wr) (y z : Option D) (M : Mst), (wk v ++ xs).Nodup → v.length + xs.length ≤ 8 → (∀ p, p ∈ v → Sz 80 p.2) → Bag (updM M0 b (.dct (wpL v))) a M →
    (∀ v' y z M', wk v' = wk v ++ xs → (∀ p, p ∈ v' → Sz 80 p.2) → Bag (updM M0 b (.dct (wpL v'))) a M' → En.nx [some (.loc a), x1, some (.bl s), some (.loc b), y, z] M') →
    forS (set1 4) (semSs (GK K) (below lv (lv 41) Γ) b39_1) (xs.map D.str) [some (.loc a), x1, some (.bl s), some (.loc b), y, z] M En
  | [], v, y, z, M, nd, hl, hv, hp, fin => fin v y z M (by rw [List.append_nil]) hv hp
  | k :: xs, v, y, z, M, nd, hl, hv, hp, fin => by
    rw [List.length_cons] at hl
    have hk : k ∉ wk v := fun e => by
      have := (List.nodup_append.mp nd).2.2 k e k List.mem_cons_self
      exact this rfl
    refine ⟨pow20, ?_⟩
    rw [ten20]
    refine ⟨by show 8 ≤ 1000000; omega, _, a, _, rfl, hp, by show 0 < 8; omega, by show 8 < 1000; omega, fun x hx M1 p1 => ?_⟩
    have ex : ∃ t : Int, x = .int t ∧ Bd 70 t := by
      have hx' : x ∈ [D.int 0, .int 1, .int 1, .int 2, .int 3, .int 5, .int 7, .int (((10 ^ 20 : Nat) : Int) + 1)] := hx
      simp only [List.mem_cons, List.not_mem_nil, or_false] at hx'
      rcases hx' with rfl | rfl | rfl | rfl | rfl | rfl | rfl | rfl <;> exact ⟨_, rfl, by unfold Bd; decide +kernel⟩
    obtain ⟨t, rfl, ht⟩ := ex
    have step : ∀ (t : Int) (M : Mst), Bd 70 t → Bag (updM M0 b (.dct (wpL v))) a M → semSs (GK K) (below lv (lv 41) Γ) (tls 2 b39_1) [some (.loc a), x1, some (.bl s), some (.loc b), some (.str k), some (.int t)] M
        { En with nx := fun ρ2 M2 => forS (set1 4) (semSs (GK K) (below lv (lv 41) Γ) b39_1) (xs.map D.str) ρ2 M2 En, ct := fun ρ2 M2 => forS (set1 4) (semSs (GK K) (below lv (lv 41) Γ) b39_1) (xs.map D.str) ρ2 M2 En, bk := En.nx } := by
      intro t M ht hp
      refine ⟨pow15, ?_⟩
      rw [ten15]
      refine ⟨by show 7 ≤ 1000000; omega, _, a, _, rfl, hp, by show 0 < 7; omega, by show 7 < 1000; omega, fun x hx M2 p2 => ?_⟩
      have ex : ∃ d : Int, x = .int d ∧ d ≠ 0 ∧ Bd 70 d := by
        have hx' : x ∈ [D.int 1, .int 1, .int 2, .int 3, .int 4, .int 9, .int ((10 ^ 15 : Nat) : Int)] := hx
        simp only [List.mem_cons, List.not_mem_nil, or_false] at hx'
        rcases hx' with rfl | rfl | rfl | rfl | rfl | rfl | rfl <;> exact ⟨_, rfl, by decide, by unfold Bd; decide +kernel⟩
      obtain ⟨d, rfl, d0, hd⟩ := ex
      refine ⟨_, _, rfl, d0, bd_up ht (by omega), bd_up hd (by omega), ?_⟩
      refine ⟨_, p2.at_ ne, by unfold wpL; rw [List.length_map]; omega, ?_⟩
      have p3 := p2.put (o' := .dct (wpL (v ++ [(k, Rat.divInt t d)]))) ne
      have e : putKD (.inr k) (ratD (Rat.divInt t d)) (wpL v) = wpL (v ++ [(k, Rat.divInt t d)]) := put_wp hk
      have kv : wk (v ++ [(k, Rat.divInt t d)]) = wk v ++ [k] := by unfold wk; rw [List.map_append]; rfl
      show forS _ _ _ _ (updM M2 b (.dct (putKD (.inr k) (ratD (Rat.divInt t d)) (wpL v)))) _
      rw [e]
      refine weights_loop ne xs (v ++ [(k, Rat.divInt t d)]) _ _ _ (by rw [kv, List.append_assoc]; exact nd) (by rw [List.length_append, List.length_singleton]; omega) (fun p hp => ?_) p3 fun v' y z M' h1 h2 h3 => fin v' y z M' (by rw [h1, kv, List.append_assoc]; rfl) h2 h3
      rcases List.mem_append.mp hp with h | h
      · exact hv p h
      · rw [List.mem_singleton.mp h]
        exact sz_le (sz_div d0 ht hd) (by omega)
    cases s with
    | false => exact step t M1 ht p1
    | true =>
      refine ⟨_, a, 3, rfl, p1, by decide, by decide, fun r M2 r0 r1 p2 => ?_⟩
      refine brb_eqI (fun _ => step _ M2 (bd_neg ht) p2) (fun _ => step _ M2 ht p2)
theorem sp_41 : SpecOk (GK K) Γ lv 41 c41 := by
  rintro ds M K1 E1 ⟨M0, a, xs, s, rfl, hp, nd, hl, h⟩
  refine ⟨rfl, fun b hb => ?_⟩
  have ne := hp.ne hb
  have hb0 := hp.base hb
  refine weights_loop K ne xs [] none none _ nd (by simpa using hl) (fun p hp => by cases hp) (hp.add ne) fun v y z M' h1 h2 h3 => ?_
  show semSs _ _ _ _ _ _
  refine frz_go (a := b) (kds := wpL v) rfl (h3.at_ ne) ?_
  exact h v _ (by rw [h1]; rfl) h2 (h3.del ne hb0)
theorem put_wi {k : Str} {d : D} {q : Rat} {z : Wi} (h : k ∉ wik z) : putKD (.inr k) d (wiL z) = wiL (z ++ [(k, d, q)]) := by
  rw [put_new fun p hp => ?_]
  · unfold wiL; rw [List.map_append]; rfl
  · obtain ⟨r, hr, rfl⟩ := List.mem_map.mp hp
    intro e
    exact h (by rw [← Sum.inr.inj e]; exact List.mem_map_of_mem hr)
theorem made_loop {b : Addr} {M0 : Mst} {En : EndD} {v : Wr} (hv : WrOk v) : ∀ (r u : Wr) (x y z : Option D), v = u ++ r →
    (∀ x y z, En.nx [some (wpD v), some (.loc b), x, y, z] (updM M0 b (.dct (wiL (v.map mk1))))) →
    forS (set1 2) (semSs (GK K) (below lv (lv 42) Γ) b40_1) ((wk r).map D.str) [some (wpD v), some (.loc b), x, y, z] (updM M0 b (.dct (wiL (u.map mk1)))) En
  | [], u, x, y, z, e, fin => by
    rw [List.append_nil] at e
    rw [← e]
    exact fin x y z
  | p :: r, u, x, y, z, e, fin => by
    have hp : p ∈ v := by rw [e]; exact List.mem_append_right _ List.mem_cons_self
    have hk : p.1 ∈ wk v := List.mem_map_of_mem hp
    have hlen := hv.len
    have hul : u.length < 64 := by
      rw [e, List.length_append] at hlen
      omega
    have hn : p.1 ∉ wik (u.map mk1) := by
      rw [wik_mk1]
      have nd := hv.nd
      rw [e] at nd
      unfold wk at nd ⊢
      rw [List.map_append, List.map_cons] at nd
      exact fun z => (List.nodup_append.mp nd).2.2 _ z _ List.mem_cons_self rfl
    have ew : wt v p.1 = p.2 := wt_mem hv.nd hp
    have hs := hv.sz p hp
    have step : ∀ d, d = (if 1 < p.2.den then amt p.2 else .int p.2.num) → semSs (GK K) (below lv (lv 42) Γ) .nil [some (wpD v), some (.loc b), some (.str p.1), some (.int p.2.num), some (.int p.2.den)] (updM M0 b (.dct (putKD (.inr p.1) d (wiL (u.map mk1))))) { En with nx := fun ρ2 M2 => forS (set1 2) (semSs (GK K) (below lv (lv 42) Γ) b40_1) ((wk r).map D.str) ρ2 M2 En, ct := fun ρ2 M2 => forS (set1 2) (semSs (GK K) (below lv (lv 42) Γ) b40_1) ((wk r).map D.str) ρ2 M2 En, bk := En.nx } := by
      intro d hd
      have e2 : putKD (.inr p.1) d (wiL (u.map mk1)) = wiL ((u ++ [p]).map mk1) := by
        rw [put_wi (q := p.2) hn, hd, List.map_append]
        rfl
      rw [e2]
      exact made_loop hv r (u ++ [p]) _ _ _ (by rw [e, List.append_assoc]; rfl) fin
    refine ⟨.inr p.1, _, rfl, wp_val hk, ?_⟩
    rw [ew]
    have lz : (wiL (u.map mk1)).length ≤ 1000000 := by
      unfold wiL
      rw [List.length_map, List.length_map]
      omega
    refine brb_dec (fun c => ?_) (fun c => ?_)
    · refine ⟨_, _, rfl, den0 p.2, bd_up hs.nu (by omega), bd_up hs.de (by omega), ?_⟩
      rw [Rat.num_divInt_den]
      refine ⟨_, updM_same, lz, ?_⟩
      rw [updM_updM]
      exact step _ (by rw [if_pos (by omega)])
    · refine ⟨_, updM_same, lz, ?_⟩
      rw [updM_updM]
      exact step _ (by rw [if_neg (by omega)])
theorem sp_42 : SpecOk (GK K) Γ lv 42 c42 := by
  rintro ds M K1 E1 ⟨v, rfl, hv, h⟩
  refine ⟨rfl, fun b hb => ?_⟩
  show forS _ _ ((wpL v).map fun p => kD p.1) _ _ _
  rw [wp_keys]
  refine made_loop K hv v [] none none none rfl fun x y z => ?_
  show semSs _ _ _ _ _ _
  refine frz_go (a := b) (kds := wiL (v.map mk1)) rfl updM_same ?_
  rw [delM_updM hb]
  refine ⟨v.map mk1, _, rfl, .inl rfl, wi_ok hv, fun ys hp hs => ?_⟩
  obtain ⟨w1, w2⟩ := wOf_wq (wi_ok hv) hp hs
  rw [List.length_map] at w1
  exact h _ w1 fun k => by rw [w2, wiq_mk1]
theorem wpL_lA (v : Wr) : wpL v = lA ratD v := rfl
theorem wk_kA (v : Wr) : wk v = kA v := rfl
theorem wt_vA (v : Wr) (k : Str) : wt v k = (vA v k).getD 0 := rfl
theorem put_wpL (k : Str) (q : Rat) (v : Wr) : putKD (.inr k) (ratD q) (wpL v) = wpL (putA k q v) := put_lA ratD k q v
theorem wt_putA (k : Str) (q : Rat) (v : Wr) (j : Str) : wt (putA k q v) j = if j = k then q else wt v j := by
  rw [wt_vA, wt_vA, vA_putA]
  split <;> rfl
/-- a drawn one -/
structure Dr (v : Wr) : Prop where
  nd : (wk v).Nodup
  nm : ∀ k, k ∈ wk v → isName k = true
  len : v.length ≤ 8
  sz : ∀ p, p ∈ v → Sz 150 p.2
theorem Dr.ok {v : Wr} (h : Dr v) : WrOk v := ⟨h.nd, h.nm, by have := h.len; omega, fun p hp => sz_le (h.sz p hp) (by omega)⟩
theorem Dr.wt {v : Wr} (h : Dr v) (k : Str) : Sz 150 (wt v k) := by
  by_cases c : k ∈ wk v
  · obtain ⟨p, hp, rfl⟩ := wt_at c
    rw [wt_mem h.nd hp]
    exact h.sz p hp
  · rw [wt_none c]
    exact ⟨by decide +kernel, by decide +kernel⟩
theorem neg_num (q : Rat) : 0 - q.num = (-q).num := by rw [Rat.neg_num]; omega
end
end L25
end PyD
set_option Elab.async false
set_option linter.all false
set_option autoImplicit false
set_option maxRecDepth 100000
set_option maxHeartbeats 4000000
set_option exponentiation.threshold 10000
namespace PyD
open PySem PySem.Spec L2 TL
namespace L25
section
variable (K : PySem.W.Frag)
theorem is_loop {M : Mst} {En : EndD} {w v : Wr} {kk : List Str} (hw : Wq 64 w) (e : ∀ k, wt w k = wt v k) (hk : kk = wk w) : ∀ (xs : List Str) (x y z : Option D), (∀ k, k ∈ xs → isName k = true) → (∀ x y, En.nx [some (wghD w), some (wpD v), some (.lst (kk.map D.str)), x, y, z] M) →
    forS (set1 3) (semSs (GK K) (below lv (lv 43) Γ) b41_1) (xs.map D.str) [some (wghD w), some (wpD v), some (.lst (kk.map D.str)), x, y, z] M En
  | [], x, y, z, hx, fin => fin x y
  | k :: xs, x, y, z, hx, fin => by
    have hn := hx k List.mem_cons_self
    refine ⟨rfl, w, k, rfl, hn, ?_⟩
    refine ⟨by show 2 ≤ 1000000; omega, trivial, by show 2 ≤ 1000000; omega, .inr k, rfl, get_wp ?_⟩
    rw [← e]
    refine ⟨rfl, rfl, ?_⟩
    have cc : ∀ q : Rat, PyData.eqv (.tuple [.int q.num, .int q.den]) (.tuple [.int q.num, .int q.den]) = true := fun q => by
      show ((q.num == q.num) && (((q.den : Int) == q.den) && true)) = true
      simp
    rw [cc]
    refine ⟨rfl, .inl ⟨w, k, rfl, by have := name_len hn; omega, ?_⟩⟩
    refine ⟨k, kk, rfl, rfl, ?_⟩
    have hb : (isName k && decide (k ∈ wk w)) = kk.contains k := by
      rw [hn, Bool.true_and, hk, Bool.eq_iff_iff, decide_eq_true_eq, List.contains_iff_mem]
    have hc : (!PyData.eqv (.bool (if false = true then !(isName k && decide (k ∈ wk w)) else isName k && decide (k ∈ wk w))) (.bool (if false = true then !kk.contains k else kk.contains k))) = false := by
      rw [hb]
      simp [PyData.eqv]
    refine ⟨rfl, rfl, ?_⟩
    rw [hc]
    exact is_loop hw e hk xs _ _ z (fun j hj => hx j (List.mem_cons_of_mem _ hj)) fin
theorem sp_43 : SpecOk (GK K) Γ lv 43 c43 := by
  rintro ds M K1 E1 ⟨w, v, rfl, hw, hv, e, h⟩
  have lk : (wpL v).length < 64 := by unfold wpL; rw [List.length_map]; exact hv.len
  refine ⟨rfl, by rw [List.length_map]; omega, ?_⟩
  refine lcL_filter (f := fun d => d) (p := fun d => decide ((wt v (strD d)).num ≠ 0)) (fun d hd => ?_) ?_
  · rw [wp_keys] at hd
    obtain ⟨k, hk, rfl⟩ := List.mem_map.mp hd
    refine ⟨_, rfl, fun K h => ?_, fun _ K h => ?_⟩
    · refine ⟨.inr k, _, rfl, wp_val hk, _, rfl, ?_⟩
      have h' : K (.bl (decide ((wt v k).num ≠ 0))) M := h
      have e0 : (!((wt v k).num == 0)) = decide ((wt v k).num ≠ 0) := by
        by_cases c : (wt v k).num = 0
        · rw [c]; rfl
        · rw [beq_eq_false_iff_ne.mpr c, decide_eq_true c]; rfl
      rw [← e0] at h'
      exact h'
    · exact h
  · rw [List.nil_append, List.map_id', wp_keys]
    refine ⟨(wk v).filter fun k => decide ((wt v k).num ≠ 0), by rw [List.filter_map]; rfl, ?_, fun ys hp hs => ?_⟩
    · have := List.length_filter_le (fun k => decide ((wt v k).num ≠ 0)) (wk v)
      rw [len_wk] at this
      have := hv.len
      omega
    have ey : ys = wk w := sorted_eq (hp.nodup_iff.mpr (hv.nd.filter _)) hw.nd (sorted_pair hs) (sorted_pair hw.srt) fun k => by
      rw [hp.mem_iff, List.mem_filter, wq_mem hw, e, decide_eq_true_eq]
      constructor
      · rintro ⟨_, h2⟩ z
        exact h2 (by rw [z]; rfl)
      · intro h2
        refine ⟨?_, num0 h2⟩
        by_cases c : k ∈ wk v
        · exact c
        · exact absurd (wt_none c) h2
    subst ey
    refine ⟨rfl, _, rfl, by rw [List.length_map]; unfold wL; rw [List.length_map]; have := hw.len; omega, lcL_map (f := fun d => d) (fun d hd => ⟨_, rfl, fun K h => h⟩) ?_⟩
    rw [List.nil_append, List.map_id', wL_kD]
    refine var_go (d := .lst ((wk w).map D.str)) rfl ?_
    refine ne_strs hw.nm hw.nm ?_
    have e1 : (!decide (wk w = wk w)) = false := by rw [decide_eq_true rfl]; rfl
    rw [e1]
    refine ⟨rfl, w, rfl, ?_⟩
    have wl := hw.len
    refine ⟨by omega, ?_⟩
    refine brb_not (brb_eqI (fun _ => ?_) (fun c => absurd (by rw [List.length_map, len_wk]) c))
    refine ⟨by show 6 ≤ 1000000; omega, ?_⟩
    refine is_loop K (kk := wk w) hw e rfl ["a", "b", "c", "d", "zz", "q"] none none none (by decide +kernel) fun x y => ?_
    refine ⟨by decide, by decide, by decide, by decide, lcL_filter (f := fun d => d) (p := fun _ => false) (fun d hd => ?_) ?_⟩
    · have hd' : d ∈ [D.non, .int 0, .str "", .str "A", .tup [.str "a"], .lst [.str "a"], .dct [], .bl true, .str "aaaaaaaaa"] := hd
      simp only [List.mem_cons, List.not_mem_nil, or_false] at hd'
      have no : ∀ x : Str, isName x = false → x.length ≤ 1000000 → ∀ K : KD, K (.bl false) M → (isName x && decide (x ∈ wk w)) = false := fun x hx _ _ _ => by rw [hx, Bool.false_and]
      refine ⟨_, rfl, fun K h => ?_, fun z => (by cases z)⟩
      rcases hd' with rfl | rfl | rfl | rfl | rfl | rfl | rfl | rfl | rfl
      · exact ⟨rfl, .inr ⟨w, _, rfl, trivial, h⟩⟩
      · exact ⟨rfl, .inr ⟨w, _, rfl, trivial, h⟩⟩
      · exact ⟨rfl, .inl ⟨w, _, rfl, by decide +kernel, by rw [no "" (by decide +kernel) (by decide +kernel) K h]; exact h⟩⟩
      · exact ⟨rfl, .inl ⟨w, _, rfl, by decide +kernel, by rw [no "A" (by decide +kernel) (by decide +kernel) K h]; exact h⟩⟩
      · exact ⟨rfl, .inr ⟨w, _, rfl, trivial, h⟩⟩
      · exact ⟨rfl, .inr ⟨w, _, rfl, trivial, h⟩⟩
      · exact ⟨rfl, .inr ⟨w, _, rfl, trivial, h⟩⟩
      · exact ⟨rfl, .inr ⟨w, _, rfl, trivial, h⟩⟩
      · exact ⟨rfl, .inl ⟨w, _, rfl, by decide +kernel, by rw [no "aaaaaaaaa" (by decide +kernel) (by decide +kernel) K h]; exact h⟩⟩
    · exact ⟨by decide, rfl, rfl, h⟩
theorem fill_loop {g : Addr} {a : Addr} {M0 : Mst} {En : EndD} {v : Wr} {x0 x1 x2 x3 x7 x8 x9 x10 : Option D} (ne : g ≠ a) (hv : Dr v) : ∀ (r u : Wr) (x : Option D) (M : Mst), v = u ++ r → Bag (updM M0 g (.dct (wL u))) a M →
    (∀ x M', Bag (updM M0 g (.dct (wL v))) a M' → En.nx [x0, x1, x2, x3, some (wpD v), some (.loc g), x, x7, x8, x9, x10] M') →
    forS (set1 6) (semSs (GK K) (below lv (lv 44) Γ) b42_2) ((wk r).map D.str) [x0, x1, x2, x3, some (wpD v), some (.loc g), x, x7, x8, x9, x10] M En
  | [], u, x, M, e, hp, fin => by
    rw [List.append_nil] at e
    rw [← e] at hp
    exact fin x M hp
  | p :: r, u, x, M, e, hp, fin => by
    have hm : p ∈ v := by rw [e]; exact List.mem_append_right _ List.mem_cons_self
    have hk : p.1 ∈ wk v := List.mem_map_of_mem hm
    have hn : p.1 ∉ wk u := by
      have nd := hv.nd
      rw [e] at nd
      unfold wk at nd ⊢
      rw [List.map_append, List.map_cons] at nd
      exact fun z => (List.nodup_append.mp nd).2.2 _ z _ List.mem_cons_self rfl
    have hul : u.length ≤ 8 := by
      have := hv.len
      rw [e, List.length_append] at this
      omega
    have hs := hv.sz p hm
    refine ⟨.inr p.1, _, rfl, wp_val hk, _, rfl, .inr p.1, _, rfl, wp_val hk, _, rfl, ?_⟩
    rw [wt_mem hv.nd hm]
    refine ⟨_, _, rfl, den0 p.2, bd_up hs.nu (by omega), bd_up hs.de (by omega), ?_⟩
    rw [Rat.num_divInt_den]
    refine ⟨_, hp.at_ ne, by unfold wL; rw [List.length_map]; omega, ?_⟩
    have e2 : putKD (.inr p.1) (amt p.2) (wL u) = wL (u ++ [p]) := by
      rw [put_new fun q hq => ?_]
      · unfold wL; rw [List.map_append]; rfl
      · obtain ⟨r, hr, rfl⟩ := List.mem_map.mp hq
        intro z
        exact hn (by rw [← Sum.inr.inj z]; exact List.mem_map_of_mem hr)
    have p3 := hp.put (o' := .dct (wL (u ++ [p]))) ne
    show forS _ _ _ _ (updM M g (.dct (putKD (.inr p.1) (amt p.2) (wL u)))) _
    rw [e2]
    exact fill_loop ne hv r (u ++ [p]) _ _ (by rw [e, List.append_assoc]; rfl) p3 fin
theorem count_loop {b : Addr} {a : Addr} {M0 : Mst} {En : EndD} {x0 x2 x3 x4 x5 x7 x9 x10 : Option D} (ne : b ≠ a) : ∀ (xs : List Str) (r : Row) (x : Option D) (M : Mst), (∀ k, k ∈ xs → isName k = true) → (ks r).Nodup → Nms r → (∀ p, p ∈ r → p.2 ≤ 10 ^ 30) → r.length + xs.length ≤ 8 → Bag (updM M0 b (.dct (rowsD r))) a M →
    (∀ r x M', (ks r).Nodup → Nms r → (∀ p, p ∈ r → p.2 ≤ 10 ^ 30) → r.length ≤ 8 → Bag (updM M0 b (.dct (rowsD r))) a M' → En.nx [x0, some (.loc a), x2, x3, x4, x5, x, x7, some (.loc b), x9, x10] M') →
    forS (set1 6) (semSs (GK K) (below lv (lv 44) Γ) b42_1) (xs.map D.str) [x0, some (.loc a), x2, x3, x4, x5, x, x7, some (.loc b), x9, x10] M En
  | [], r, x, M, hx, nd, nm, mo, hl, hp, fin => fin r x M nd nm mo (by simpa using hl) hp
  | k :: xs, r, x, M, hx, nd, nm, mo, hl, hp, fin => by
    rw [List.length_cons] at hl
    refine ⟨⟨by decide, by decide, w64_10⟩, ?_⟩
    rw [show (10 : Int) ^ Int.toNat 30 = ((10 ^ 30 : Nat) : Int) by decide +kernel]
    refine ⟨by show 6 ≤ 1000000; omega, _, a, _, rfl, hp, by show 0 < 6; omega, by show 6 < 1000; omega, fun y hy M1 p1 => ?_⟩
    have ex : ∃ v : Nat, y = .int v ∧ v ≤ 10 ^ 30 := by
      have hy' : y ∈ [D.int 0, .int 1, .int 2, .int 3, .int 40, .int ((10 ^ 30 : Nat) : Int)] := hy
      simp only [List.mem_cons, List.not_mem_nil, or_false] at hy'
      rcases hy' with rfl | rfl | rfl | rfl | rfl | rfl
      · exact ⟨0, rfl, by omega⟩
      · exact ⟨1, rfl, by omega⟩
      · exact ⟨2, rfl, by omega⟩
      · exact ⟨3, rfl, by omega⟩
      · exact ⟨40, rfl, by omega⟩
      · exact ⟨10 ^ 30, rfl, Nat.le_refl _⟩
    obtain ⟨v, rfl, v2⟩ := ex
    refine ⟨_, p1.at_ ne, by rw [len_rows]; omega, ?_⟩
    have p4 := p1.put (o' := .dct (rowsD (putR k v r))) ne
    rw [put_rows]
    refine count_loop ne xs (putR k v r) _ _ (fun j hj => hx j (List.mem_cons_of_mem _ hj)) (nodup_putR nd) (fun j hj => ?_) (fun p hq => ?_) (by have := len_putR k v r; omega) p4 fin
    · rcases mem_putR hj with z | z
      · exact nm j z
      · rw [z]; exact hx k List.mem_cons_self
    · rcases val_putR hq with z | z
      · exact mo p z
      · rw [z]; exact v2
/-- the end of a lap -/
theorem lap_e {M : Mst} {M0 : Mst} {a : Addr} {v w : Wr} {gl : List (Key × D)} {x0 x2 x3 x6 x8 x9 x10 : Option D} {En : EndD} (hv : Dr v) (hw : Wq 64 w) (e : ∀ k, wt w k = wt v k) (hp : Bag M0 a M)
    (fin : ∀ x10 M', Bag M0 a M' → En.nx [x0, some (.loc a), x2, x3, some (wpD v), some (.dct gl), x6, some (wghD w), x8, x9, x10] M') :
    semSs (GK K) (below lv (lv 44) Γ) (tls 15 b42_3) [x0, some (.loc a), x2, x3, some (wpD v), some (.dct gl), x6, some (wghD w), x8, x9, x10] M En := by
  refine fun b hb => ?_
  have ne := hp.ne hb
  have hb0 := hp.base hb
  have lv8 := hv.len
  have z3 : Sz 150 (Rat.divInt 1 3) := ⟨by decide +kernel, by decide +kernel⟩
  have zc := hv.wt "c"
  refine ⟨trivial, by show 2 ≤ 1000000; omega, .inr "c", rfl, get_wp ?_⟩
  refine ⟨by show 2 ≤ 1000000; omega, by show 2 ≤ 1000000; omega, [((wt v "c").num, ((wt v "c").den : Int)), (1, 3)], 150, rfl, ?_, by show (150 + 1) * 2 ≤ 2999; omega, by omega, by omega, ?_⟩
  · intro p hp'
    simp only [List.mem_cons, List.not_mem_nil, or_false] at hp'
    rcases hp' with rfl | rfl
    · exact ⟨den0 _, zc.nu, zc.de⟩
    · exact ⟨by decide, by unfold Bd; decide +kernel, by unfold Bd; decide +kernel⟩
  have er : addAll ([((wt v "c").num, ((wt v "c").den : Int)), (1, 3)].map fun p => Rat.divInt p.1 p.2) 0 = wt v "c" + Rat.divInt 1 3 := by
    show (0 + Rat.divInt (wt v "c").num (wt v "c").den) + Rat.divInt 1 3 = _
    rw [Rat.zero_add, Rat.num_divInt_den]
  rw [er]
  have p1 := hp.add (o := .dct (wpL v)) ne
  refine ⟨_, p1.at_ ne, by unfold wpL; rw [List.length_map]; omega, ?_⟩
  have p2 := p1.put (o' := .dct (wpL (putA "c" (wt v "c" + Rat.divInt 1 3) v))) ne
  rw [put_wpL]
  generalize hq : wt v "c" + Rat.divInt 1 3 = q at p2 ⊢
  have hne : q ≠ wt v "c" := by
    intro z
    rw [← hq] at z
    have z2 : Rat.divInt 1 3 = 0 := by
      have z3 : -wt v "c" + (wt v "c" + Rat.divInt 1 3) = -wt v "c" + wt v "c" := by rw [z]
      rw [← Rat.add_assoc, Rat.neg_add_cancel, Rat.zero_add] at z3
      exact z3
    exact absurd z2 (by decide +kernel)
  have zq : Sz 500 q := by
    rw [← hq]
    exact sz_le (sz_add zc z3) (by omega)
  have ok : WrOk (putA "c" q v) := by
    refine ⟨nodup_putA hv.nd, fun k hk => ?_, by have := len_putA "c" q v; omega, fun p hp' => ?_⟩
    · rw [wk_kA, kA_putA] at hk
      split at hk
      · exact hv.nm k hk
      · rcases List.mem_append.mp hk with h | h
        · exact hv.nm k h
        · rw [List.mem_singleton.mp h]; decide +kernel
    · rcases mem_putA hp' with h | h
      · exact sz_le (hv.sz p h) (by omega)
      · rw [h]; exact sz_le zq (by omega)
  show semSs _ _ _ _ _ _
  refine frz_go (a := b) (kds := wpL (putA "c" q v)) rfl (p2.at_ ne) ?_
  have p3 := p2.del ne hb0
  refine ⟨_, rfl, ok, fun w2 q1 q2 => ?_⟩
  refine ⟨rfl, rfl, w, _, rfl, .inl ⟨w2, rfl, fun b hb => ?_⟩⟩
  obtain rfl : b = false := by
    cases b with
    | false => rfl
    | true =>
      have := (weq_iff hw q1).mp (hb.mp rfl) "c"
      rw [e, q2, wt_putA, if_pos rfl] at this
      exact absurd this.symm hne
  refine ⟨trivial, rfl, w, _, rfl, .inr ⟨.inr ⟨_, rfl⟩, ?_⟩⟩
  have hwt : ∀ p, p ∈ w → isName p.1 = true ∧ Sz 1900 p.2 := fun p hp' => by
    refine ⟨hw.nm _ (List.mem_map_of_mem hp'), ?_⟩
    rw [← wt_mem hw.nd hp', e]
    exact sz_le (hv.wt _) (by omega)
  have hwl : w.length < 64 := by
    have : w.length ≤ v.length := by
      rw [← len_wk, ← len_wk]
      refine sub_len hw.nd fun k hk => ?_
      rw [wq_mem hw, e] at hk
      by_cases c : k ∈ wk v
      · exact c
      · exact absurd (wt_none c) hk
    omega
  refine ⟨rfl, w, rfl, hw.nd, hwl, hwt, by have := wTxt_len hwl hwt; omega, ?_⟩
  refine ⟨trivial, rfl, w, _, rfl, .inr ⟨.inl ⟨_, rfl⟩, ?_⟩⟩
  exact fin _ _ p3
theorem sum_same {v w : Wr} {r o : Row} (hv : Dr v) (e : ∀ k, wt w k = wt v k) (no : (ks o).Nodup) (po : ∀ p, p ∈ o → 0 < p.2) (nr : (ks r).Nodup) (eo : ∀ k, cnt o k = cnt r k) :
    addAll ((ks o).map fun k => wt w k * ((cnt o k : Int) : Rat)) 0 = addAll (v.map fun p => p.2 * ((cnt r p.1 : Int) : Rat)) 0 := by
  have e1 : (v.map fun p => p.2 * ((cnt r p.1 : Int) : Rat)) = (wk v).map fun k => wt w k * ((cnt o k : Int) : Rat) := by
    unfold wk
    rw [List.map_map]
    refine List.map_congr_left fun p hp => ?_
    show _ = wt w p.1 * ((cnt o p.1 : Int) : Rat)
    rw [e, eo, wt_mem hv.nd hp]
  rw [e1]
  refine addAll_ext no hv.nd fun k hk => ?_
  have h1 : k ∈ ks o := by
    by_cases c : k ∈ ks o
    · exact c
    · rw [cnt_zero c] at hk
      exact absurd (Rat.mul_zero _) hk
  have h2 : k ∈ wk v := by
    by_cases c : k ∈ wk v
    · exact c
    · rw [e, wt_none c] at hk
      exact absurd (Rat.zero_mul _) hk
  exact ⟨fun _ => h2, fun _ => h1⟩
theorem cnt_bd {q : Row} (nd : (ks q).Nodup) (h : ∀ p, p ∈ q → p.2 ≤ 10 ^ 30) (k : Str) : cnt q k ≤ 10 ^ 30 := by
  by_cases c : k ∈ ks q
  · obtain ⟨p, hp, rfl⟩ := List.mem_map.mp c
    rw [cnt_mem nd hp]
    exact h p hp
  · rw [cnt_zero c]; omega
theorem int_sz {n : Nat} (h : n ≤ 10 ^ 30) : Sz 101 (((n : Int) : Rat)) := by
  refine ⟨?_, ?_⟩
  · rw [Rat.num_intCast, Int.natAbs_natCast]
    exact Nat.lt_of_le_of_lt h (by decide +kernel)
  · rw [Rat.den_intCast]
    exact Nat.one_lt_two_pow (by omega)
theorem ratP_ne (q : Rat) : (!PyData.eqv (.tuple [.int q.num, .int q.den]) (.tuple [.int q.num, .int q.den])) = false := by
  show (!((q.num == q.num) && (((q.den : Int) == q.den) && true))) = false
  simp
theorem lap_d {M : Mst} {M0 : Mst} {a : Addr} {v w : Wr} {r : Row} {gl : List (Key × D)} {x0 x2 x3 x6 x9 x10 : Option D} {En : EndD} (hv : Dr v) (hw : Wq 64 w) (e : ∀ k, wt w k = wt v k) (nd : (ks r).Nodup) (nm : Nms r) (mo' : ∀ p, p ∈ r → p.2 ≤ 10 ^ 30) (hl : r.length ≤ 8) (hp : Bag M0 a M)
    (fin : ∀ x9 x10 M', Bag M0 a M' → En.nx [x0, some (.loc a), x2, x3, some (wpD v), some (.dct gl), x6, some (wghD w), some (dctQ r), x9, x10] M') :
    semSs (GK K) (below lv (lv 44) Γ) (tls 12 b42_3) [x0, some (.loc a), x2, x3, some (wpD v), some (.dct gl), x6, some (wghD w), some (dctQ r), x9, x10] M En := by
  have lv8 := hv.len
  have cb := cnt_bd nd mo'
  refine .inr ⟨r, .inl rfl, nm, mo', by omega, fun o wo eo => ?_⟩
  have eo : ∀ k, cnt o k = cnt r k := fun k => by rw [eo, sumOf_nodup nd]
  have ol := wo.len
  have szt : ∀ k, Sz 350 (wt w k * ((cnt o k : Int) : Rat)) := fun k => by
    rw [e, eo]
    exact sz_le (sz_mul (hv.wt k) (int_sz (cb k))) (by omega)
  refine ⟨rfl, rfl, w, o, 350, rfl, by omega, by omega, by omega, (fun k hk => ⟨wo.nm k hk, by rw [e]; exact sz_le (hv.wt k) (by omega), by rw [eo]; exact Nat.lt_of_le_of_lt (cb k) (by decide +kernel), szt k⟩), ?_⟩
  rw [sum_same hv e wo.nd wo.pos nd eo]
  refine ⟨by show 2 ≤ 1000000; omega, v, r, 150, rfl, hv.nd, ?_, ?_, by omega, by omega, by omega, by omega, ?_⟩
  · intro p hp'
    have h1 := hv.sz p hp'
    have h2 : Bd 101 (cnt r p.1 : Int) := by
      have := int_sz (cb p.1)
      have h3 := this.1
      rw [Rat.num_intCast] at h3
      exact h3
    exact ⟨h1, bd_up (bd_mul h1.nu h2) (by omega)⟩
  · intro p hp'
    have h1 := hv.sz p hp'
    have h2 : Bd 101 (cnt r p.1 : Int) := by
      have := int_sz (cb p.1)
      have h3 := this.1
      rw [Rat.num_intCast] at h3
      exact h3
    exact mo h1.nu h2 (by omega) (by omega) (by omega)
  refine ⟨rfl, rfl, ?_⟩
  rw [ratP_ne]
  refine ⟨rfl, ?_⟩
  refine ⟨rfl, rfl, w, [], 1, rfl, by decide, by decide, by decide, (fun k hk => by cases hk), ?_⟩
  refine ⟨trivial, rfl, _, _, ((0 : Int) : Rat), rfl, .inr ⟨0, rfl, rfl⟩, ?_⟩
  have e0 : decide (addAll ((ks ([] : Row)).map fun k => wt w k * ((cnt [] k : Int) : Rat)) 0 = ((0 : Int) : Rat)) = true := by
    show decide ((0 : Rat) = ((0 : Int) : Rat)) = true
    decide +kernel
  rw [e0]
  refine ⟨w, v, rfl, hw, hv.ok, e, ?_⟩
  exact lap_e K hv hw e hp (fun x10 M' p => fin _ x10 M' p)
theorem len_put (k : Key) (d : D) (l : List (Key × D)) : (putKD k d l).length ≤ l.length + 1 := by
  unfold putKD
  split <;> simp
theorem lap_b {M : Mst} {M0 : Mst} {a g : Addr} {v : Wr} {kk : List Str} {x0 x2 x6 x7 x8 x9 x10 : Option D} {En : EndD} (ne : g ≠ a) (hg0 : M0 g = none) (hv : Dr v) (hk : wk v = kk) (hp : Bag (updM M0 g (.dct (wL v))) a M)
    (fin : ∀ x3 x4 x5 x6 x7 x8 x9 x10 M', Bag M0 a M' → En.nx [x0, some (.loc a), x2, x3, x4, x5, x6, x7, x8, x9, x10] M') :
    semSs (GK K) (below lv (lv 44) Γ) (tls 4 b42_3) [x0, some (.loc a), x2, some (.lst (kk.map D.str)), some (wpD v), some (.loc g), x6, x7, x8, x9, x10] M En := by
  have ok : WiOk 3000 (v.map fun p => (p.1, amt p.2, p.2)) := by
    refine ⟨?_, fun k hk => ?_, by rw [List.length_map]; have := hv.len; omega, fun p hp => ?_⟩
    · unfold wik; rw [List.map_map]; exact hv.nd
    · unfold wik at hk; rw [List.map_map] at hk; exact hv.nm k hk
    · obtain ⟨q, hq, rfl⟩ := List.mem_map.mp hp
      exact ⟨.inl rfl, sz_le (hv.sz q hq) (by omega)⟩
  have ez : wiL (v.map fun p => (p.1, amt p.2, p.2)) = wL v := by unfold wiL wL; rw [List.map_map]; rfl
  have ek : wik (v.map fun p => (p.1, amt p.2, p.2)) = wk v := by unfold wik wk; rw [List.map_map]; rfl
  have eq' : ∀ k, wiq (v.map fun p => (p.1, amt p.2, p.2)) k = wt v k := fun k => by
    have : ∀ v : Wr, wiq (v.map fun p => (p.1, amt p.2, p.2)) k = wt v k := by
      intro v
      induction v with
      | nil => rfl
      | cons p r ih =>
        unfold wiq wt at ih ⊢
        rw [List.map_cons, List.find?_cons, List.find?_cons]
        by_cases c : p.1 = k
        · simp [c]
        · simp only [c, decide_false]
          exact ih
    exact this v
  have lw : (wL v).length ≤ 8 := by unfold wL; rw [List.length_map]; exact hv.len
  refine ⟨_, hp.at_ ne, fun ob vs => ?_⟩
  refine ⟨v.map fun p => (p.1, amt p.2, p.2), _, rfl, .inr ⟨g, ob, vs, rfl, by rw [ez]; exact updM_same⟩, ok, fun ys hy hs => ?_⟩
  obtain ⟨w1, w2⟩ := wOf_wq ok hy hs
  rw [List.length_map] at w1
  generalize wOf (v.map fun p => (p.1, amt p.2, p.2)) ys = w at w1 w2
  have hw : Wq 64 w := ⟨w1.nd, w1.srt, w1.nz, w1.nm, Nat.le_trans w1.len (by have := hv.len; omega)⟩
  have e : ∀ k, wt w k = wt v k := fun k => by rw [w2, eq']
  refine fun _ => ?_
  rw [updM_updM, updM_self (hp.at_ ne)]
  refine ⟨_, hp.at_ ne, by omega, ?_⟩
  have p1 := hp.put (o' := .dct (putKD (.inr "q") (.int 5) (wL v))) ne
  have tail : ∀ (gl : List (Key × D)) (M : Mst), Bag (updM M0 g (.dct gl)) a M → semSs (GK K) (below lv (lv 44) Γ) (tls 7 b42_3) [x0, some (.loc a), x2, some (.lst (kk.map D.str)), some (wpD v), some (.loc g), x6, some (wghD w), x8, x9, x10] M En := by
    intro gl M hp
    refine frz_go (a := g) (kds := gl) rfl (hp.at_ ne) ?_
    have p2 := hp.del ne hg0
    refine ⟨w, v, rfl, hw, hv.ok, e, ?_⟩
    refine ⟨v, rfl, hv.ok, fun w2 q1 q2 => ?_⟩
    refine ⟨rfl, rfl, w, _, rfl, .inl ⟨w2, rfl, fun b hb => ?_⟩⟩
    obtain rfl : b = true := hb.mpr ((weq_iff hw q1).mpr fun k => by rw [e, q2])
    refine ⟨v, rfl, hv.ok, fun w3 q3 q4 => ?_⟩
    refine ⟨rfl, rfl, w3, _, rfl, .inl ⟨w, rfl, fun b hb => ?_⟩⟩
    obtain rfl : b = true := hb.mpr ((weq_iff q3 hw).mpr fun k => by rw [e, q4])
    refine fun c hc => ?_
    have nc := p2.ne hc
    have hc0 := p2.base hc
    refine ⟨by decide, ?_⟩
    refine count_loop K nc ["a", "b", "c", "d", "q"] [] _ _ (by decide +kernel) List.nodup_nil (fun k hk => by cases hk) (fun p hp => by cases hp) (by decide) (p2.add nc) fun r x M3 h1 h2 h3 h4 p3 => ?_
    show semSs _ _ _ _ _ _
    refine frz_go (a := c) (kds := rowsD r) rfl (p3.at_ nc) ?_
    exact lap_d K hv hw e h1 h2 h3 h4 (p3.del nc hc0) fun x9 x10 M' p => fin _ _ _ _ _ _ _ _ M' p
  by_cases z : kk = []
  · subst z
    refine ⟨by decide, rfl, rfl, ?_⟩
    exact tail _ _ p1
  · cases kk with
    | nil => exact absurd rfl z
    | cons k kr =>
      have nn : ∀ x, x ∈ k :: kr → isName x = true := fun x hx => hv.nm x (by rw [hk]; exact hx)
      have gl := fun x hx => hv.nm x (by rw [hk]; exact hx)
      refine ⟨by decide, ?_⟩
      refine ne_strs (xs := k :: kr) (ys := []) nn (fun x hx => by cases hx) ?_
      rw [decide_eq_false (show ¬ k :: kr = [] by simp)]
      have a0 : atI ((k :: kr).map D.str) 0 = some (.str k) := by
        unfold atI ixN
        rw [if_pos (by omega), if_pos (by rw [List.length_map, List.length_cons]; omega)]
        rfl
      refine ⟨_, a0, _, p1.at_ ne, ?_, ?_⟩
      · have := len_put (.inr "q") (.int 5) (wL v)
        omega
      · exact tail _ _ (p1.put ne)
theorem law_loop {a : Addr} {En : EndD} {x0 : Option D} : ∀ (ds : List D) (x2 x3 x4 x5 x6 x7 x8 x9 x10 : Option D) (M0 M : Mst), Bag M0 a M → (∀ x2 x3 x4 x5 x6 x7 x8 x9 x10 M', En.nx [x0, some (.loc a), x2, x3, x4, x5, x6, x7, x8, x9, x10] M') →
    forS (set1 2) (semSs (GK K) (below lv (lv 44) Γ) b42_3) ds [x0, some (.loc a), x2, x3, x4, x5, x6, x7, x8, x9, x10] M En
  | [], x2, x3, x4, x5, x6, x7, x8, x9, x10, M0, M, hp, fin => fin _ _ _ _ _ _ _ _ _ _
  | d :: ds, x2, x3, x4, x5, x6, x7, x8, x9, x10, M0, M, hp, fin => by
    refine ⟨by decide, by decide, by decide, by decide, by decide, by decide, ?_⟩
    refine ⟨_, a, _, rfl, hp, by show 0 < 5; omega, by show 5 < 1000; omega, fun y hy M1 p1 => ?_⟩
    have ex : ∃ kk : List Str, y = .lst (kk.map D.str) ∧ kk.Nodup ∧ kk.length ≤ 8 ∧ ∀ k, k ∈ kk → isName k = true := by
      have hy' : y ∈ [D.lst [], .lst [.str "b"], .lst [.str "b", .str "a"], .lst [.str "zz", .str "c", .str "a"], .lst [.str "d", .str "zz", .str "a", .str "b", .str "c"]] := hy
      simp only [List.mem_cons, List.not_mem_nil, or_false] at hy'
      rcases hy' with rfl | rfl | rfl | rfl | rfl
      · exact ⟨[], rfl, by decide, by decide, by decide +kernel⟩
      · exact ⟨["b"], rfl, by decide, by decide, by decide +kernel⟩
      · exact ⟨["b", "a"], rfl, by decide +kernel, by decide, by decide +kernel⟩
      · exact ⟨["zz", "c", "a"], rfl, by decide +kernel, by decide, by decide +kernel⟩
      · exact ⟨["d", "zz", "a", "b", "c"], rfl, by decide +kernel, by decide, by decide +kernel⟩
    obtain ⟨kk, rfl, kn, kl, km⟩ := ex
    refine ⟨_, a, kk, true, rfl, p1, kn, kl, fun v M2 hv1 hv2 p2 => ?_⟩
    have hv : Dr v := ⟨by rw [hv1]; exact kn, fun k hk => km k (by rw [hv1] at hk; exact hk), by rw [← len_wk, hv1]; exact kl, fun p hp => sz_le (hv2 p hp) (by omega)⟩
    refine fun g hg => ?_
    have ne := p2.ne hg
    have hg0 := p2.base hg
    show forS _ _ ((wpL v).map fun p => kD p.1) _ _ _
    rw [wp_keys]
    refine fill_loop K ne hv v [] _ _ rfl (p2.add ne) fun x M3 p3 => ?_
    refine lap_b K ne hg0 hv hv1 p3 fun x3 x4 x5 x6 x7 x8 x9 x10 M4 p4 => ?_
    exact law_loop ds _ _ _ _ _ _ _ _ _ M0 M4 p4 fin
theorem sp_44 : SpecOk (GK K) Γ lv 44 c44 := by
  rintro ds M K1 E1 ⟨rfl, ns, rfl, h⟩
  refine ⟨rfl, ns, rfl, fun a M1 ha p1 => ?_⟩
  refine ⟨⟨by decide, by decide⟩, ?_⟩
  refine law_loop K _ none none none none none none none none none _ M1 p1 fun x2 x3 x4 x5 x6 x7 x8 x9 x10 M2 => ?_
  show semSs _ _ _ _ _ _
  exact h M2
end
end L25
end PyD
set_option Elab.async false
set_option linter.all false
set_option autoImplicit false
set_option maxRecDepth 100000
set_option maxHeartbeats 4000000
namespace PyD
open PySem PySem.Spec L2
namespace L25
theorem spec (K : PySem.W.Frag) : ∀ i cb, cbs[i]? = some cb → SpecOk (gamOf T hN K) Γ lv i cb := by
  intro i cb h
  have lt : i < 45 := (List.getElem?_eq_some_iff.mp h).1
  match i, h with
  | 0, h => cases h; exact sp_0 K
  | 1, h => cases h; exact sp_1 K
  | 2, h => cases h; exact sp_2 K
  | 3, h => cases h; exact sp_3 K
  | 4, h => cases h; exact sp_4 K
  | 5, h => cases h; exact sp_5 K
  | 6, h => cases h; exact sp_6 K
  | 7, h => cases h; exact sp_7 K
  | 8, h => cases h; exact sp_8 K
  | 9, h => cases h; exact sp_9 K
  | 10, h => cases h; exact sp_10 K
  | 11, h => cases h; exact sp_11 K
  | 12, h => cases h; exact sp_12 K
  | 13, h => cases h; exact sp_13 K
  | 14, h => cases h; exact sp_14 K
  | 15, h => cases h; exact sp_15 K
  | 16, h => cases h; exact sp_16 K
  | 17, h => cases h; exact sp_17 K
  | 18, h => cases h; exact sp_18 K
  | 19, h => cases h; exact sp_19 K
  | 20, h => cases h; exact sp_20 K
  | 21, h => cases h; exact sp_21 K
  | 22, h => cases h; exact sp_22 K
  | 23, h => cases h; exact sp_23 K
  | 24, h => cases h; exact sp_24 K
  | 25, h => cases h; exact sp_25 K
  | 26, h => cases h; exact sp_26 K
  | 27, h => cases h; exact sp_27 K
  | 28, h => cases h; exact sp_28 K
  | 29, h => cases h; exact sp_29 K
  | 30, h => cases h; exact sp_30 K
  | 31, h => cases h; exact sp_31 K
  | 32, h => cases h; exact sp_32 K
  | 33, h => cases h; exact sp_33 K
  | 34, h => cases h; exact sp_34 K
  | 35, h => cases h; exact sp_35 K
  | 36, h => cases h; exact sp_36 K
  | 37, h => cases h; exact sp_37 K
  | 38, h => cases h; exact sp_38 K
  | 39, h => cases h; exact sp_39 K
  | 40, h => cases h; exact sp_40 K
  | 41, h => cases h; exact sp_41 K
  | 42, h => cases h; exact sp_42 K
  | 43, h => cases h; exact sp_43 K
  | 44, h => cases h; exact sp_44 K
  | n + 45, h => omega
theorem bind : ∀ i cb, cbs[i]? = some cb → BindH cb (ksA T i) := by
  intro i cb h
  have lt : i < 45 := (List.getElem?_eq_some_iff.mp h).1
  match i, h with
  | 0, h => cases h; exact bd0
  | 1, h => cases h; exact bd1
  | 2, h => cases h; exact bd2
  | 3, h => cases h; exact bd3
  | 4, h => cases h; exact bd4
  | 5, h => cases h; exact bd5
  | 6, h => cases h; exact bd6
  | 7, h => cases h; exact bd7
  | 8, h => cases h; exact bd8
  | 9, h => cases h; exact bd9
  | 10, h => cases h; exact bd10
  | 11, h => cases h; exact bd11
  | 12, h => cases h; exact bd12
  | 13, h => cases h; exact bd13
  | 14, h => cases h; exact bd14
  | 15, h => cases h; exact bd15
  | 16, h => cases h; exact bd16
  | 17, h => cases h; exact bd17
  | 18, h => cases h; exact bd18
  | 19, h => cases h; exact bd19
  | 20, h => cases h; exact bd20
  | 21, h => cases h; exact bd21
  | 22, h => cases h; exact bd22
  | 23, h => cases h; exact bd23
  | 24, h => cases h; exact bd24
  | 25, h => cases h; exact bd25
  | 26, h => cases h; exact bd26
  | 27, h => cases h; exact bd27
  | 28, h => cases h; exact bd28
  | 29, h => cases h; exact bd29
  | 30, h => cases h; exact bd30
  | 31, h => cases h; exact bd31
  | 32, h => cases h; exact bd32
  | 33, h => cases h; exact bd33
  | 34, h => cases h; exact bd34
  | 35, h => cases h; exact bd35
  | 36, h => cases h; exact bd36
  | 37, h => cases h; exact bd37
  | 38, h => cases h; exact bd38
  | 39, h => cases h; exact bd39
  | 40, h => cases h; exact bd40
  | 41, h => cases h; exact bd41
  | 42, h => cases h; exact bd42
  | 43, h => cases h; exact bd43
  | 44, h => cases h; exact bd44
  | n + 45, h => omega
theorem no : ∀ i, cbs[i]? = none → ∀ ds M K1 E1, ¬ Γ i ds M K1 E1 := by
  intro i h ds M K1 E1 z
  have le : 45 ≤ i := List.getElem?_eq_none_iff.mp h
  unfold Γ at z
  split at z <;> first | omega | exact z
theorem mem : ∀ cb ∈ cbs, cb.d ∈ fn := by
  intro cb hc
  obtain ⟨i, h⟩ := List.mem_iff_getElem?.mp hc
  have lt : i < 45 := (List.getElem?_eq_some_iff.mp h).1
  match i, h with
  | 0, h => cases h; exact List.mem_of_getElem? (i := 0) rfl
  | 1, h => cases h; exact List.mem_of_getElem? (i := 1) rfl
  | 2, h => cases h; exact List.mem_of_getElem? (i := 2) rfl
  | 3, h => cases h; exact List.mem_of_getElem? (i := 3) rfl
  | 4, h => cases h; exact List.mem_of_getElem? (i := 4) rfl
  | 5, h => cases h; exact List.mem_of_getElem? (i := 5) rfl
  | 6, h => cases h; exact List.mem_of_getElem? (i := 6) rfl
  | 7, h => cases h; exact List.mem_of_getElem? (i := 7) rfl
  | 8, h => cases h; exact List.mem_of_getElem? (i := 8) rfl
  | 9, h => cases h; exact List.mem_of_getElem? (i := 9) rfl
  | 10, h => cases h; exact List.mem_of_getElem? (i := 10) rfl
  | 11, h => cases h; exact List.mem_of_getElem? (i := 11) rfl
  | 12, h => cases h; exact List.mem_of_getElem? (i := 11) rfl
  | 13, h => cases h; exact List.mem_of_getElem? (i := 12) rfl
  | 14, h => cases h; exact List.mem_of_getElem? (i := 13) rfl
  | 15, h => cases h; exact List.mem_of_getElem? (i := 14) rfl
  | 16, h => cases h; exact List.mem_of_getElem? (i := 15) rfl
  | 17, h => cases h; exact List.mem_of_getElem? (i := 16) rfl
  | 18, h => cases h; exact List.mem_of_getElem? (i := 16) rfl
  | 19, h => cases h; exact List.mem_of_getElem? (i := 17) rfl
  | 20, h => cases h; exact List.mem_of_getElem? (i := 18) rfl
  | 21, h => cases h; exact List.mem_of_getElem? (i := 19) rfl
  | 22, h => cases h; exact List.mem_of_getElem? (i := 20) rfl
  | 23, h => cases h; exact List.mem_of_getElem? (i := 21) rfl
  | 24, h => cases h; exact List.mem_of_getElem? (i := 22) rfl
  | 25, h => cases h; exact List.mem_of_getElem? (i := 23) rfl
  | 26, h => cases h; exact List.mem_of_getElem? (i := 24) rfl
  | 27, h => cases h; exact List.mem_of_getElem? (i := 25) rfl
  | 28, h => cases h; exact List.mem_of_getElem? (i := 26) rfl
  | 29, h => cases h; exact List.mem_of_getElem? (i := 27) rfl
  | 30, h => cases h; exact List.mem_of_getElem? (i := 28) rfl
  | 31, h => cases h; exact List.mem_of_getElem? (i := 29) rfl
  | 32, h => cases h; exact List.mem_of_getElem? (i := 30) rfl
  | 33, h => cases h; exact List.mem_of_getElem? (i := 31) rfl
  | 34, h => cases h; exact List.mem_of_getElem? (i := 32) rfl
  | 35, h => cases h; exact List.mem_of_getElem? (i := 33) rfl
  | 36, h => cases h; exact List.mem_of_getElem? (i := 34) rfl
  | 37, h => cases h; exact List.mem_of_getElem? (i := 35) rfl
  | 38, h => cases h; exact List.mem_of_getElem? (i := 36) rfl
  | 39, h => cases h; exact List.mem_of_getElem? (i := 37) rfl
  | 40, h => cases h; exact List.mem_of_getElem? (i := 38) rfl
  | 41, h => cases h; exact List.mem_of_getElem? (i := 39) rfl
  | 42, h => cases h; exact List.mem_of_getElem? (i := 40) rfl
  | 43, h => cases h; exact List.mem_of_getElem? (i := 41) rfl
  | 44, h => cases h; exact List.mem_of_getElem? (i := 42) rfl
  | n + 45, h => omega
end L25
end PyD
open PySem PySem.W PySem.Calls PyProof.Rows
set_option Elab.async false
set_option maxRecDepth 100000 in
set_option maxHeartbeats 0 in
theorem PySem.Challenge.cw_gangruns_k25_weighings_made_holds : PySem.Challenge.rw_gangruns_k25_weighings_made.Holds := by
  w_on; o_law
  refine HandSHeadRun.head_any (r := OpenLaw.row PySem.Challenge.rw_gangruns_k25_weighings_made) (q := view (OpenLaw.row PySem.Challenge.rw_gangruns_k25_weighings_made).prog [66]) (H := PyD.L25.hk) (ob := PyD.L25.ob) (M := 20000) (loose := PyD.L25.loose) (d := HandSHeadRun.topDef (OpenLaw.row PySem.Challenge.rw_gangruns_k25_weighings_made).prog 66) (kwd := []) PyD.L25.ob_eq
    (by kernel_rfl) (fun s => by kernel_rfl) PyD.L25.run (by kernel_rfl) (by kernel_rfl) (by kernel_rfl) (by rfl) (by first | assumption | decide +kernel) (by decide +kernel) ⟨rfl, rfl, rfl, rfl, rfl, by decide +kernel⟩ ?hw ?hc
  case hw => w_witness2
  case hc =>
    refine PyD.law_of (l := PySem.Challenge.rw_gangruns_k25_weighings_made) (n := 63) (i := 44) (T := PyD.L25.T) (hN := PyD.L25.hN) (fn := PyD.L25.fn) (cbs := PyD.L25.cbs) (lv := PyD.L25.lv) (Γ := PyD.L25.Γ) rfl (by decide) (by kernel_rfl) ⟨rfl, by decide, by decide⟩ PyD.L25.mem PyD.L25.chk PyD.L25.bind PyD.L25.no PyD.L25.spec ?hg rfl (by decide) ?law
    case hg => kernel_rfl
    case law =>
      intro ns _
      exact ⟨rfl, ns, rfl, fun M' => rfl⟩
