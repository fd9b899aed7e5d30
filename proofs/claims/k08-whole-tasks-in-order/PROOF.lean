import PyProof.Rows.All
import HandS.Lambda
import Wide.FinOn
import HandS.ForMost
import HandS.Exc
import HandS.ExcOwn
import HandS.WordsExc
import HandS.Defaults
import HandS.HeadHook4
import KE.KDictCopyH
import HandS.Wide
import HandS.TupAny
import HandS.Flow
import HandS.FStr
import HandS.IsInst
import HandS.HeadEnd
import HandS.Head0
import HandS.Head1
import HandS.Head2
import HandS.HeadHook1
import HandS.HeadHook2
import HandS.HeadHook3
import HandS.Deep
import HandS.More
import HandS.SetFor
import HandS.Style
import HandS.ExcIs
import KE.KExcIs
import HandS.ExcInit
import HandS.ExcField
import HandS.Text
import PyProof.RowDictHeap
import HandS.MakeKwOnly
import KE.KAssignIn
import HandS.Iter
import HandS.StrMore
import PyProof.StrOps2
import HandS.Dict
import HandS.Conv
import HandS.Finally
import HandS.WordsDict
import HandS.Sort
import KE.KDictList
import HandS.ListItems
import HandS.Zip
import HandS.Codes
import KE.DataFind
import HandS.TryOnly
import HandS.DictComp
import HandS.EndTab
import PyProof.InstNe
import HandS.OwnEq
import KE.KUnpackStar
import KE.GoesEnum
import KE.GoesMore
import HandS.ExcValue
import KE.KCallOwn
import KE.KDictSum
import KE.DataMinMax
import HandS.SortKw
import HandS.List
import HandS.NoneIn
import HandS.ListEq
import HandS.DeepEq
import HandS.CallLocal
import HandS.Strs
import KE.GoesZip
import KE.KEqNest
import HandS.RaiseMore
import HandS.Flt
import HandS.SetBool
import HandS.SetTxt0
import KE.SortKeyHeap
import PySem.Challenge.RW_virtualturns_k08_whole_tasks_in_order
set_option Elab.async false
set_option linter.all false
set_option maxRecDepth 100000
namespace F3
open PySem PySem.Spec PyProof.Rows L2

/-- what a name or an item holds: plain things and trees that never change again; ref i: the i-th cell -/
inductive D where
  | non | bl (b : Bool) | int (i : Int) | str (x : Str)
  | tup (xs : List D) | lst (xs : List D)
  | dct (kvs : List (Key × D))
  | ref (i : Nat)
  | obj (c : String) (fs : List (String × D))
  | exc (c : String) (fs : List (String × D))
  | lam (f c : Addr) (q : Str) (sg : L2.St) (is : List Nat) (ds : List D)
  | fn (x : String)
  deriving Inhabited
/-- what changes -/
inductive Cell where
  | lst (xs : List D) | dct (kvs : List (Key × D)) | ins (c : String) (fs : List (String × D)) | lck (kvs : List (Key × D)) | tab (x : String) | dcn (kvs : List (Leaf × D)) | lckn (kvs : List (Leaf × D))
  deriving Inhabited
abbrev Store := List Cell
abbrev Env := List (Option D)
/-- how an expression ends -/
inductive Res (A : Type) where
  | ok (a : A) (st : Store)
  | exn (c : String) (fs : List (String × D)) (st : Store)
  | stuck
/-- how a statement ends -/
inductive Flow where
  | nx (env : Env) (st : Store)
  | rt (d : D) (st : Store)
  | bk (env : Env) (st : Store)
  | ct (env : Env) (st : Store)
  | ex (c : String) (fs : List (String × D)) (env : Env) (st : Store)
  | stuck
abbrev Sm := Env → Store → Flow

end F3

namespace F3
open PySem PySem.Spec PyProof.Rows L2

section
variable {P : Program} {w : World} {K : PySem.W.Frag} {mg : Str → Option Value} {base : Heap} {cl : ClW}
/-- a body as a def of n parameters and m further names -/
def fn (m : Nat) (f : Sm) : List D → Store → Res D := fun ds st => match f (ds.map some ++ List.replicate m none) st with
  | .rt d st' => .ok d st'
  | .nx _ st' => .ok .non st'
  | .ex c fs _ st' => .exn c fs st'
  | _ => .stuck
end

end F3

namespace F3
open PySem PySem.Spec PyProof.Rows L2

inductive Ty where
  | non | bl | int | str | tup | lst | dct
  deriving DecidableEq
def Ty.nm : Ty → String
  | .non => "NoneType" | .bl => "bool" | .int => "int" | .str => "str" | .tup => "tuple" | .lst => "list" | .dct => "dict"
end F3

namespace F3
open PySem PySem.Spec PyProof.Rows L2

def gaC (K : PySem.W.Frag) (x : String) : Addr := He.ga K (Str.ofString x)
def excCB (K : PySem.W.Frag) (x : String) : Bool := (PySem.W.findIn K (.ref (gaC K x)) "__getattribute__" == some (some (.builtin "BaseException.__getattribute__"))) && (PySem.W.findIn K (.ref (gaC K x)) "__getattr__" == some none) && (PySem.W.subIn K (.ref (gaC K x)) (.type "BaseException") == some true) && PySem.W.hasDictIn K (gaC K x) &&
  (PySem.W.findIn K (.ref (gaC K x)) "__class__" == some (some (.builtin "object.__class__"))) && (PySem.W.specialIn K (.builtin "object.__class__") "__get__" == some (some (.builtin "getset_descriptor.__get__"))) && (PySem.W.takesIn K (.builtin "object.__class__") == some true) && (PySem.W.mroIn K (gaC K x) (.type "object") == some true)
def allTy : List Ty := [.non, .bl, .int, .str, .tup, .lst, .dct]
end F3

namespace F3
open PySem PySem.Spec PyProof.Rows L2

/-- own classes, then the tail -/
def refsT (bt : List Value) : List Value → Bool
  | .ref _ :: r => refsT bt r
  | l => l == bt
/-- what the written part says of such a class: its tail, what makes it -/
def oxB (K : PySem.W.Frag) (C : Addr) (bt : List Value) (newId : String) : Bool := match K.lookup C with
  | some ⟨.type "type", _, .cls cd, sl⟩ => (match cd.mro, sl.toList with
    | .ref C' :: bm, [_, _, _, _, some (.builtin n), _] => C' == C && (n == newId) && !cd.hasDel && cd.hasDict && refsT bt bm
    | _, _ => false)
  | _ => false
end F3

namespace F3
open PySem PySem.Spec PyProof.Rows L2

def oxInfoB (K : PySem.W.Frag) (x fld : String) (bt : List Value) (newId : String) : Bool := oxB K (gaC K x) bt newId && (PySem.W.findIn K (.ref (gaC K x)) "__setattr__" == some (some (.builtin "object.__setattr__"))) && (PySem.W.subIn K (.ref (gaC K x)) (.type "BaseException") == some true) &&
  (PySem.W.typeIn K (.ref (gaC K x)) == some (.type "type")) && PySem.W.keepIn K (.ref (gaC K x)) && (PySem.W.findIn K (.ref (gaC K x)) (Str.ofString fld) == some none) &&
  (PySem.W.findIn K (.ref (gaC K x)) "__init__" == some (some (.ref (He.ma K (gaC K x) "__init__")))) && (PySem.W.typeIn K (.ref (He.ma K (gaC K x) "__init__")) == some (.type "function"))
def insCB (K : PySem.W.Frag) (x : String) : Bool := PySem.W.plainGet K (gaC K x) Str.empty && PySem.W.hasDictIn K (gaC K x) && PySem.W.plainOver K (gaC K x) && (PySem.W.findIn K (.ref (gaC K x)) "__setattr__" == some (some (.builtin "object.__setattr__"))) &&
  (PySem.W.findIn K (.ref (gaC K x)) "__class__" == some (some (.builtin "object.__class__"))) && (PySem.W.specialIn K (.builtin "object.__class__") "__get__" == some (some (.builtin "getset_descriptor.__get__"))) && (PySem.W.takesIn K (.builtin "object.__class__") == some true) && (PySem.W.mroIn K (gaC K x) (.type "object") == some true)
def kitGB (K : PySem.W.Frag) (kt : Value → Option Bool) (CE CI tb : List String) (tt : List Ty) : Bool := (CE.all fun x => (kt (.ref (gaC K x)) == some (decide (x ∈ tb))) && excCB K x) && (CI.all fun x => (kt (.ref (gaC K x)) == some (decide (x ∈ tb))) && insCB K x) && allTy.all fun t => kt (.type t.nm) == some (decide (t ∈ tt))
end F3

namespace F3
open PySem PySem.Spec PyProof.Rows L2

end F3
namespace F3
open PySem PySem.Spec PyProof.Rows L2
def iniV (o : Option PySem.W.CFound) (ini : String) : Bool := match o with
  | some (.val (.builtin s)) => s == ini
  | _ => false
def ownIniB (K : PySem.W.Frag) (B ini : String) : Bool := (PySem.W.specialIn K (.ref (gaC K B)) "__getattribute__" == some (some (.builtin "type.__getattribute__"))) && PySem.W.readsIn K (gaC K B) (.type "type") && iniV (PySem.W.findCls K (.ref (gaC K B)) (.type "type") "__init__") ini
end F3
namespace F3
open PySem PySem.Spec PyProof.Rows L2
structure SaysY (fa : List He.Fa) (fn : List He.DefD) (ex : PySem.W.Frag → Bool) (w : World) (K : PySem.W.Frag) : Prop where
  t : He.SaysT fa fn [] w K
  more : ex K = true
end F3

namespace F3
open PySem PySem.Spec PyProof.Rows L2

def ifldB (K : PySem.W.Frag) (CI : List String) (n : String) : Bool := CI.all fun c => insCB K c && (PySem.W.findIn K (.ref (gaC K c)) (Str.ofString n) == some none)
def methB (K : PySem.W.Frag) (c mn : String) : Bool := insCB K c && (PySem.W.findIn K (.ref (gaC K c)) (Str.ofString mn) == some (some (.ref (He.ma K (gaC K c) (Str.ofString mn))))) && PySem.W.isFn K (.ref (He.ma K (gaC K c) (Str.ofString mn))) && PySem.W.keepIn K (.ref (He.ma K (gaC K c) (Str.ofString mn)))
def mkB (K : PySem.W.Frag) (c : String) : Bool := PySem.W.makesIn K (gaC K c) && (PySem.W.findIn K (.ref (gaC K c)) "__init__" == some (some (.ref (He.ma K (gaC K c) "__init__")))) && PySem.W.isFn K (.ref (He.ma K (gaC K c) "__init__")) && PySem.W.keepIn K (.ref (gaC K c))
def eqoB (K : PySem.W.Frag) (c : String) : Bool := (PySem.W.findIn K (.ref (gaC K c)) "__eq__" == some (some (.ref (He.ma K (gaC K c) "__eq__")))) && PySem.W.isFn K (.ref (He.ma K (gaC K c) "__eq__")) && PySem.W.notFirst K (gaC K c) (.ref (gaC K c)) && (allTy.all fun t => PySem.W.notFirst K (gaC K c) (.type t.nm)) && insCB K c
end F3
namespace F3
open PySem PySem.Spec PyProof.Rows L2
end F3

namespace F3
open PySem PySem.Spec PyProof.Rows L2

def insZ (acc : List Addr) : List Addr → Nat → (Nat → List Addr → He.AlX) → He.AlX
  | [], m, k => k m acc
  | a :: r, m, k => match Nat.testBit m a with
    | true => insZ acc r m k
    | false => HandSHeadRun.frNat (m ||| (1 <<< a)) fun m' => insZ (a :: acc) r m' k
def refsZ (g : Addr → Option Obj) (a : Addr) : List Addr := match g a with
  | some o => He.refsD o
  | none => []
def stepZ (g : Addr → Option Obj) : List Addr → List Addr → Nat → (Nat → List Addr → He.AlX) → He.AlX
  | [], acc, m, k => k m acc
  | a :: r, acc, m, k => insZ acc (refsZ g a) m fun m' acc' => stepZ g r acc' m' k
def growZ (g : Addr → Option Obj) : Nat → List Addr → List Addr → Nat → (List Addr → He.AlX) → He.AlX
  | 0, _, all, _, k => k all
  | n + 1, fr, all, m, k => stepZ g fr [] m fun m' fr' => growZ g n fr' (all ++ fr') m' k
theorem insZ_as {P : He.AlX → Prop} : ∀ (r acc : List Addr) (m : Nat) (k : Nat → List Addr → He.AlX), P (insZ acc r m k) → ∃ m' acc', P (k m' acc')
  | [], acc, m, k, h => ⟨m, acc, h⟩
  | a :: r, acc, m, k, h => by
    unfold insZ at h
    cases hb : Nat.testBit m a with
    | true =>
      rw [hb] at h
      exact insZ_as r acc m k h
    | false =>
      rw [hb] at h
      dsimp only at h
      rw [HandSHeadRun.frNat_eq] at h
      exact insZ_as r (a :: acc) _ k h
theorem stepZ_as {P : He.AlX → Prop} (g : Addr → Option Obj) : ∀ (r acc : List Addr) (m : Nat) (k : Nat → List Addr → He.AlX), P (stepZ g r acc m k) → ∃ m' acc', P (k m' acc')
  | [], acc, m, k, h => ⟨m, acc, h⟩
  | a :: r, acc, m, k, h => by
    unfold stepZ at h
    obtain ⟨m', acc', h⟩ := insZ_as _ _ _ _ h
    exact stepZ_as g r acc' m' k h
theorem growZ_as {P : He.AlX → Prop} (g : Addr → Option Obj) : ∀ (n : Nat) (fr all : List Addr) (m : Nat) (k : List Addr → He.AlX), P (growZ g n fr all m k) → ∃ as, P (k as)
  | 0, fr, all, m, k, h => ⟨all, h⟩
  | n + 1, fr, all, m, k, h => by
    unfold growZ at h
    obtain ⟨m', acc', h⟩ := stepZ_as _ _ _ _ _ h
    exact growZ_as g n acc' _ m' k h
end F3

namespace F3
open PySem PySem.Spec PyProof.Rows L2

/-- a def's code object and its table -/
abbrev ct (K : PySem.W.Frag) (x : String) : Addr × Addr := He.cT K (Str.ofString x, none)
structure SaysV (fa : List He.Fa) (fn : List He.DefD) (tf : List String) (ex : PySem.W.Frag → Bool) (w : World) (h : Heap) (K : PySem.W.Frag) : Prop where
  y : SaysY fa fn ex w K
  hd : ∀ x ∈ tf, PySem.W.codeHdIn K (ct K x).1 (ct K x).2 = true
  out : ∀ x ∈ tf, K.lookup (ct K x).2 = none
  empty : ∀ x ∈ tf, h.get? (ct K x).2 = some { cls := .none, data := .fields #[] }
  nd : (tf.map fun x => (ct K x).2).Nodup
def tabsV (g : Addr → Option Obj) (tf : List String) (K : PySem.W.Frag) : Bool := (tf.all fun x => PySem.W.codeHdIn K (ct K x).1 (ct K x).2 && (match g (ct K x).2 with
  | some o => He.emptyTab o
  | none => false)) && decide (tf.map fun x => (ct K x).2).Nodup
def obsV (n : Nat) (fa : List He.Fa) (fn : List He.DefD) (tf : List String) (ex : PySem.W.Frag → Bool) (g : Addr → Option Obj) : He.AlX :=
  growZ g n [mainGlobals] [sysModules, cStatics, mainGlobals] (1 <<< mainGlobals) fun as => (He.obsT fa fn [] (He.frT g as), ex (He.frT g as) && tabsV g tf (He.frT g as))
def hookV (n : Nat) (fa : List He.Fa) (fn : List He.DefD) (tf : List String) (ex : PySem.W.Frag → Bool) : PySem.W.Hook where
  α := He.AlX
  obs := fun s => obsV n fa fn tf ex s.heap.get?
  val := fun w => He.valX fn [] w
  says := fun w h => ∃ K : PySem.W.Frag, K.In h ∧ SaysV fa fn tf ex w h K
  of := fun w s e => by
    obtain ⟨as, h⟩ := growZ_as (P := fun z => z = He.valX fn [] w) _ _ _ _ _ _ e
    have h1 := congrArg (fun z : He.AlX => z.1) h
    have h2 : (ex (He.frT s.heap.get? as) && tabsV s.heap.get? tf (He.frT s.heap.get? as)) = true := congrArg (fun z : He.AlX => z.2) h
    obtain ⟨h3, h4⟩ := He.ba h2
    obtain ⟨h5, h6⟩ := He.ba (show (_ && decide (tf.map fun x => (ct (He.frT s.heap.get? as) x).2).Nodup) = true from h4)
    have key : ∀ x ∈ tf, PySem.W.codeHdIn (He.frT s.heap.get? as) (ct (He.frT s.heap.get? as) x).1 (ct (He.frT s.heap.get? as) x).2 = true ∧ ∃ o, s.heap.get? (ct (He.frT s.heap.get? as) x).2 = some o ∧ He.emptyTab o = true := fun x hx => by
      obtain ⟨a1, a2⟩ := He.ba (List.all_eq_true.mp h5 x hx)
      refine ⟨a1, ?_⟩
      cases q : s.heap.get? (ct (He.frT s.heap.get? as) x).2 with
      | none => rw [q] at a2; cases a2
      | some o => rw [q] at a2; exact ⟨o, rfl, a2⟩
    exact ⟨_, He.frT_in, ⟨h1, h3⟩, fun x hx => (key x hx).1, fun x hx => let ⟨_, o, q, z⟩ := key x hx; He.frT_none q z, fun x hx => by
      obtain ⟨_, o, q, z⟩ := key x hx
      rw [q, He.emptyTab_eq z], of_decide_eq_true h6⟩
  keeps := fun _ _ _ ⟨K, hK, c⟩ k => ⟨K, PySem.W.Frag.In.keeps hK k, c.y, c.hd, c.out, fun x hx => k _ _ (c.empty x hx), c.nd⟩
theorem obsV_eq {n : Nat} {fa : List He.Fa} {fn : List He.DefD} {tf : List String} {ex : PySem.W.Frag → Bool} {g : Addr → Option Obj} {s : Shared} (h : ∀ a, g a = s.heap.get? a) : obsV n fa fn tf ex g = (hookV n fa fn tf ex).obs s := by
  have e : g = s.heap.get? := funext h
  rw [e] <;> rfl
end F3

namespace F3
open PySem PySem.Spec PyProof.Rows L2
def neoB (K : PySem.W.Frag) (c : String) : Bool := (PySem.W.findIn K (.ref (gaC K c)) "__ne__" == some (some (.builtin "object.__ne__"))) && (PySem.W.subIn K (.ref (gaC K c)) (.type "object") == some true)
end F3

namespace F3
open PySem PySem.Spec PyProof.Rows L2

def noaB (K : PySem.W.Frag) (c : String) : Bool := allTy.all fun t => PySem.W.subIn K (.ref (gaC K c)) (.type t.nm) == some false
end F3

set_option maxHeartbeats 4000000
namespace K08
open PySem PySem.Spec PyProof.Rows L2 F3
def CE : List String := ["TurnError", "NoName", "NoWeight", "NoWish"]
def CI : List String := ["Task"]
def CI_own_name : List String := ["Task"]
def CI_own_weight : List String := ["Task"]
def CI_own_wish : List String := ["Task"]
def tb_Task : List String := ["Task"]
def tt_Task : List Ty := []
def tabs : List String := ["_law_right"]
def top (i : Nat) : Stmt := PySem.Challenge.pw_virtualturns_k08_whole_tasks_in_order.main.body.getD i (.Pass ⟨0, 0, 0, 0⟩)
def mth (s : Stmt) (j : Nat) : Stmt := match s with
  | .ClassDef _ _ _ b _ _ _ _ _ _ _ => b.getD j (.Pass ⟨0, 0, 0, 0⟩)
  | _ => .Pass ⟨0, 0, 0, 0⟩
abbrev s_is_whole : Stmt := top 6
abbrev s_is_name : Stmt := top 13
abbrev s_is_weight : Stmt := top 14
abbrev s_is_wish : Stmt := top 15
abbrev s_look_at_name : Stmt := top 16
abbrev s_look_at_measure : Stmt := top 17
abbrev s_Task___init__ : Stmt := mth (top 18) 0
abbrev s_Task_key : Stmt := mth (top 18) 8
abbrev s_Task___eq__ : Stmt := mth (top 18) 1
abbrev s_Task___repr__ : Stmt := mth (top 18) 3
abbrev s_Task_name : Stmt := mth (top 18) 4
abbrev s_Task_weight : Stmt := mth (top 18) 5
abbrev s_Task_wish : Stmt := mth (top 18) 6
abbrev s_Task_turned : Stmt := mth (top 18) 7
abbrev s__law_pool : Stmt := top 20
abbrev s__law_take : Stmt := top 21
abbrev s__law_rising : Stmt := top 22
abbrev s__law_right : Stmt := top 23
abbrev s_law : Stmt := top 24
abbrev s_NoName___init__ : Stmt := mth (top 2) 0
abbrev s_NoWeight___init__ : Stmt := mth (top 3) 0
abbrev s_NoWish___init__ : Stmt := mth (top 4) 0
def d_is_whole : He.DefD := ⟨("is_whole", none), "is_whole", "is_whole", defArgs s_is_whole, defBody s_is_whole, defScope s_is_whole, [], []⟩
def d_is_name : He.DefD := ⟨("is_name", none), "is_name", "is_name", defArgs s_is_name, defBody s_is_name, defScope s_is_name, [], []⟩
def d_is_weight : He.DefD := ⟨("is_weight", none), "is_weight", "is_weight", defArgs s_is_weight, defBody s_is_weight, defScope s_is_weight, [], []⟩
def d_is_wish : He.DefD := ⟨("is_wish", none), "is_wish", "is_wish", defArgs s_is_wish, defBody s_is_wish, defScope s_is_wish, [], []⟩
def d_look_at_name : He.DefD := ⟨("look_at_name", none), "look_at_name", "look_at_name", defArgs s_look_at_name, defBody s_look_at_name, defScope s_look_at_name, [], []⟩
def d_look_at_measure : He.DefD := ⟨("look_at_measure", none), "look_at_measure", "look_at_measure", defArgs s_look_at_measure, defBody s_look_at_measure, defScope s_look_at_measure, [], []⟩
def d_Task___init__ : He.DefD := ⟨("Task", some "__init__"), "__init__", "Task.__init__", defArgs s_Task___init__, defBody s_Task___init__, defScope s_Task___init__, [], [("weight", .int 100), ("wish", .int 4)]⟩
def d_Task_key : He.DefD := ⟨("Task", some "key"), "key", "Task.key", defArgs s_Task_key, defBody s_Task_key, defScope s_Task_key, [], []⟩
def d_Task___eq__ : He.DefD := ⟨("Task", some "__eq__"), "__eq__", "Task.__eq__", defArgs s_Task___eq__, defBody s_Task___eq__, defScope s_Task___eq__, [], []⟩
def d_Task___repr__ : He.DefD := ⟨("Task", some "__repr__"), "__repr__", "Task.__repr__", defArgs s_Task___repr__, defBody s_Task___repr__, defScope s_Task___repr__, [], []⟩
def d_Task_name : He.DefD := ⟨("Task", some "name"), "name", "Task.name", defArgs s_Task_name, defBody s_Task_name, defScope s_Task_name, [], []⟩
def d_Task_weight : He.DefD := ⟨("Task", some "weight"), "weight", "Task.weight", defArgs s_Task_weight, defBody s_Task_weight, defScope s_Task_weight, [], []⟩
def d_Task_wish : He.DefD := ⟨("Task", some "wish"), "wish", "Task.wish", defArgs s_Task_wish, defBody s_Task_wish, defScope s_Task_wish, [], []⟩
def d_Task_turned : He.DefD := ⟨("Task", some "turned"), "turned", "Task.turned", defArgs s_Task_turned, defBody s_Task_turned, defScope s_Task_turned, [], [("weight", .non), ("wish", .non)]⟩
def d__law_pool : He.DefD := ⟨("_law_pool", none), "_law_pool", "_law_pool", defArgs s__law_pool, defBody s__law_pool, defScope s__law_pool, [], []⟩
def d__law_take : He.DefD := ⟨("_law_take", none), "_law_take", "_law_take", defArgs s__law_take, defBody s__law_take, defScope s__law_take, [], []⟩
def d__law_rising : He.DefD := ⟨("_law_rising", none), "_law_rising", "_law_rising", defArgs s__law_rising, defBody s__law_rising, defScope s__law_rising, [], []⟩
def d__law_right : He.DefD := ⟨("_law_right", none), "_law_right", "_law_right", defArgs s__law_right, defBody s__law_right, defScope s__law_right, [], []⟩
def d_law : He.DefD := ⟨("law", none), "law", "law", defArgs s_law, defBody s_law, defScope s_law, [], []⟩
def d_NoName___init__ : He.DefD := ⟨("NoName", some "__init__"), "__init__", "NoName.__init__", defArgs s_NoName___init__, defBody s_NoName___init__, defScope s_NoName___init__, [], []⟩
def d_NoWeight___init__ : He.DefD := ⟨("NoWeight", some "__init__"), "__init__", "NoWeight.__init__", defArgs s_NoWeight___init__, defBody s_NoWeight___init__, defScope s_NoWeight___init__, [], []⟩
def d_NoWish___init__ : He.DefD := ⟨("NoWish", some "__init__"), "__init__", "NoWish.__init__", defArgs s_NoWish___init__, defBody s_NoWish___init__, defScope s_NoWish___init__, [], []⟩
def fns : List He.DefD := [d_is_whole, d_is_name, d_is_weight, d_is_wish, d_look_at_name, d_look_at_measure, d_Task___init__, d_Task_key, d_Task___eq__, d_Task___repr__, d_Task_name, d_Task_weight, d_Task_wish, d_Task_turned, d__law_pool, d__law_take, d__law_rising, d__law_right, d_law, d_NoName___init__, d_NoWeight___init__, d_NoWish___init__]
def fas : List He.Fa := [.glo "is_whole", .glo "is_name", .glo "is_weight", .glo "is_wish", .glo "look_at_name", .glo "look_at_measure", .glo "_law_pool", .glo "_law_take", .glo "_law_rising", .glo "_law_right", .glo "law", .free "isinstance", .free "int", .free "bool", .free "str", .free "len", .free "all", .free "repr", .free "sorted", .free "range", .free "min", .free "max", .int "LONGEST" 6, .str "LETTERS" "abcdefghijklmnopqrstuvwxyz", .int "MOST" 1000, .int "WEIGHT" 100, .int "WISH" 4, .glo "Task", .glo "NoName", .glo "TurnError", .glo "NoWeight", .glo "NoWish"]
def exl (K : PySem.W.Frag) : List Bool := [(oxInfoB K "NoName" "thing" [.type "ValueError", .type "Exception", .type "BaseException", .type "object"] "ValueError.__new__" && ownIniB K "TurnError" "ValueError.__init__"), (oxInfoB K "NoWeight" "thing" [.type "ValueError", .type "Exception", .type "BaseException", .type "object"] "ValueError.__new__" && ownIniB K "TurnError" "ValueError.__init__"), (oxInfoB K "NoWish" "thing" [.type "ValueError", .type "Exception", .type "BaseException", .type "object"] "ValueError.__new__" && ownIniB K "TurnError" "ValueError.__init__"), (ifldB K CI_own_name "own_name"), (ifldB K CI_own_weight "own_weight"), (ifldB K CI_own_wish "own_wish"), (kitGB K (fun t => PySem.W.kitOne K t (.ref (gaC K "Task"))) CE CI tb_Task tt_Task), (eqoB K "Task"), (noaB K "Task"), (neoB K "Task"), mkB K "Task", methB K "Task" "key", methB K "Task" "__eq__", methB K "Task" "__repr__", methB K "Task" "name", methB K "Task" "weight", methB K "Task" "wish", methB K "Task" "turned"]
def exs (K : PySem.W.Frag) : Bool := (exl K).all id
abbrev R : PySem.W.OpenRow := PySem.W.OpenLaw.row PySem.Challenge.rw_virtualturns_k08_whole_tasks_in_order
abbrev hk : PySem.W.Hook := hookV 4 fas fns tabs exs
def ob (s : PySem.W.SharedT) : He.AlX := obsV 4 fas fns tabs exs (HandSHeadRun.getT s)
theorem ob_eq (s : PySem.W.SharedT) : ob s = hk.obs s.abs := obsV_eq (HandSHeadRun.getT_eq s)
def loose0 : List PySem.Str := ["TurnError", "NoName", "NoWeight", "NoWish", "is_whole", "WEIGHT", "WISH", "MOST", "LONGEST", "LETTERS", "is_name", "is_weight", "is_wish", "look_at_name", "look_at_measure", "Task", "_law_pool", "_law_take", "_law_rising", "_law_right"]
def looses : List PySem.Str := loose0
theorem run (w : World) : HandSHeadRun.RunEq R (PySem.W.view R.prog [24]) hk ob 20000 looses w := by
  intro os
  kernel_rfl
end K08
/-! F3, part a: data with cells; code as functions; how they stand for values and heaps; expressions. -/
namespace F3
open PySem PySem.Spec PyProof.Rows L2

/-- where a class stands; the world (whose texts hash as they do) -/
structure ClW where
  f : String → Addr
  w : World
instance : CoeFun ClW fun _ => String → Addr := ⟨ClW.f⟩
def Res.bind {A B : Type} (r : Res A) (k : A → Store → Res B) : Res B := match r with
  | .ok a st => k a st
  | .exn c fs st => .exn c fs st
  | .stuck => .stuck
abbrev Ex := Env → Store → Res D
abbrev Exs := Env → Store → Res (List D)
/-- the cells' addresses in order, and those that are kept aside (a list that a comprehension fills) -/
structure As where
  c : List Addr
  r : List Addr
instance : Membership Addr As := ⟨fun as a => a ∈ as.c ∨ a ∈ as.r⟩
theorem As.not {as : As} {a : Addr} (h1 : a ∉ as.c) (h2 : a ∉ as.r) : a ∉ as := fun h => Or.elim h h1 h2
/-- a list, a tuple that never changes: no cell, or the text's own -/
def FzL (K : PySem.W.Frag) (as : As) (H : Hp) (a : Addr) (xs : List V) : Prop := (a ∉ as ∧ Rd H a (.lst xs)) ∨ ∀ H, SqL K H a xs
def FzT (K : PySem.W.Frag) (as : As) (H : Hp) (a : Addr) (xs : List V) : Prop := (a ∉ as ∧ Rd H a (.tup xs)) ∨ ∀ H, SqT K H a xs
theorem FzL.sq {K : PySem.W.Frag} {as : As} {H : Hp} {a : Addr} {xs : List V} (h : FzL K as H a xs) : SqL K H a xs := h.elim (fun h => .inl h.2) fun h => h H
theorem FzT.sq {K : PySem.W.Frag} {as : As} {H : Hp} {a : Addr} {xs : List V} (h : FzT K as H a xs) : SqT K H a xs := h.elim (fun h => .inl h.2) fun h => h H
/-- the name of a lambda's code in the def x -/
def lamQ (x : String) : Str := Str.ofString x ++ ".<locals>." ++ "<lambda>"
/-- an exception object that is kept: its class, its dict -/
def KO (cls : Value) (d : Option Addr) (a : Addr) : HO := .ext fun h => ∃ (oe : Obj) (vs : Array Value), h.get? a = some oe ∧ Zc cls d oe ∧ oe.data = .fields vs
/-- a dict whose keys may be None, too -/
def DnO (w : World) (a : Addr) (kvs : List (Leaf × V)) : HO := .ext fun h => kvs.length ≤ sizeLine ∧ (a == sysModules) = false ∧ ∃ (P : Program) (vs : List (Leaf × Value)), KV kvs vs ∧ h.DictOf (leafKind P w) a vs
section
variable (K : PySem.W.Frag) (cl : ClW) (as : As) (H : Hp)
mutual
inductive Sh : V → D → Prop
  | non : Sh .non .non
  | bl (b : Bool) : Sh (.bl b) (.bl b)
  | int (i : Int) : Sh (.int i) (.int i)
  | str (x : Str) : Sh (.str x) (.str x)
  | ref {i : Nat} {a : Addr} : as.c[i]? = some a → Sh (.ref a) (.ref i)
  | lst {a : Addr} {xs : List V} {ds : List D} : FzL K as H a xs → ShL xs ds → Sh (.ref a) (.lst ds)
  | tup {a : Addr} {xs : List V} {ds : List D} : FzT K as H a xs → ShL xs ds → Sh (.ref a) (.tup ds)
  | dct {a : Addr} {kvs : List (Key × V)} {ds : List (Key × D)} : a ∉ as → H a = some (.dK kvs) → kvs.map (·.1) = ds.map (·.1) → ShL (kvs.map (·.2)) (ds.map (·.2)) → Sh (.ref a) (.dct ds)
  | obj {a dx : Addr} {c : String} {fv : List (Str × V)} {fs : List (String × D)} : a ∉ as → H a = some (.ins (cl c) dx fv) → fv.map (·.1) = fs.map (fun p => Str.ofString p.1) → ShL (fv.map (·.2)) (fs.map (·.2)) → Sh (.ref a) (.obj c fs)
  | exc0 {a : Addr} {c : String} : a ∉ as → H a = some (KO (.ref (cl c)) none a) → Sh (.ref a) (.exc c [])
  | exc1 {a dd : Addr} {c : String} {fv : List (Str × V)} {fs : List (String × D)} : a ∉ as → H a = some (KO (.ref (cl c)) (some dd) a) → dd ∉ as → H dd = some (.xd fv) → fv.map (·.1) = fs.map (fun p => Str.ofString p.1) → ShL (fv.map (·.2)) (fs.map (·.2)) → Sh (.ref a) (.exc c fs)
  | lam {f c : Addr} {q : Str} {sg : L2.St} {is : List Nat} {vs : List V} {ds : List D} : c ∉ as → H c = some (LamX.CodeO c q) → (∀ p ∈ is.zip vs, sg[p.1]? = some (some p.2)) → is.length = vs.length → ShL vs ds → Sh (.ref f) (.lam f c q sg is ds)
  | fn (x : String) : Sh (.ref (cl x)) (.fn x)
inductive ShL : List V → List D → Prop
  | nil : ShL [] []
  | cons {v : V} {vs : List V} {d : D} {ds : List D} : Sh v d → ShL vs ds → ShL (v :: vs) (d :: ds)
end
/-- a cell stands at a -/
inductive CellAt (a : Addr) : Cell → Prop
  | lst {xs : List V} {ds : List D} : H a = some (.lst xs) → ShL K cl as H xs ds → CellAt a (.lst ds)
  | dct {kvs : List (Key × V)} {ds : List (Key × D)} : H a = some (.dK kvs) → kvs.map (·.1) = ds.map (·.1) → ShL K cl as H (kvs.map (·.2)) (ds.map (·.2)) → CellAt a (.dct ds)
  | lck {kvs : List (Key × V)} {ds : List (Key × D)} {o : Obj} : H a = some (.frz o (.dK kvs)) → kvs.map (·.1) = ds.map (·.1) → ShL K cl as H (kvs.map (·.2)) (ds.map (·.2)) → CellAt a (.lck ds)
  | ins {dx : Addr} {c : String} {fv : List (Str × V)} {fs : List (String × D)} : H a = some (.ins (cl c) dx fv) → fv.map (·.1) = fs.map (fun p => Str.ofString p.1) → ShL K cl as H (fv.map (·.2)) (fs.map (·.2)) → CellAt a (.ins c fs)
  | dcn {kvs : List (Leaf × V)} {ds : List (Leaf × D)} : H a = some (DnO cl.w a kvs) → kvs.map (·.1) = ds.map (·.1) → ShL K cl as H (kvs.map (·.2)) (ds.map (·.2)) → CellAt a (.dcn ds)
  | lckn {kvs : List (Leaf × V)} {ds : List (Leaf × D)} {o : Obj} : H a = some (.frz o (DnO cl.w a kvs)) → kvs.map (·.1) = ds.map (·.1) → ShL K cl as H (kvs.map (·.2)) (ds.map (·.2)) → CellAt a (.lckn ds)
  | tab {ps : Array Value} {x : String} : a = (He.cT K (Str.ofString x, none)).2 → H a = some (.tbl ps) → TriplesOk ps.toList → (∀ (pos : Pos) (cv : Value), codeAmong pos ps.toList = some cv → ∃ c, cv = .ref c ∧ c ∉ as ∧ H c = some (LamX.CodeO c (lamQ x))) → CellAt a (.tab x)
end
structure Rel (K : PySem.W.Frag) (cl : ClW) (as : As) (H : Hp) (st : Store) : Prop where
  len : as.c.length = st.length
  nd : as.c.Nodup
  cell : ∀ (i : Nat) (a : Addr) (c : Cell), as.c[i]? = some a → st[i]? = some c → CellAt K cl as H a c
  rs : ∀ a ∈ as.r, a ∉ as.c ∧ ∃ o, H a = some o
  rx : ∀ a ∈ as.r, ∀ p, H a ≠ some (.ext p)
/-- on from there: what is shown stays shown -/
structure Mv (as : As) (H : Hp) (as' : As) (H' : Hp) : Prop where
  pre : ∀ (i : Nat) (a : Addr), as.c[i]? = some a → as'.c[i]? = some a
  keep : ∀ a o, a ∉ as → H a = some o → H' a = some o ∧ a ∉ as'
  fz : ∀ a od u, H a = some (.frz od u) → H' a = some (.frz od u)
/-- the same without: a lock taken off again -/
structure Mw (as : As) (H : Hp) (as' : As) (H' : Hp) : Prop where
  pre : ∀ (i : Nat) (a : Addr), as.c[i]? = some a → as'.c[i]? = some a
  keep : ∀ a o, a ∉ as → H a = some o → H' a = some o ∧ a ∉ as'
theorem Mv.w {as as' : As} {H H' : Hp} (l : Mv as H as' H') : Mw as H as' H' := ⟨l.pre, l.keep⟩
/-- what is not locked -/
def NF (H : Hp) (a : Addr) : Prop := ∀ od u, H a ≠ some (.frz od u)
theorem NF.of {H : Hp} {a : Addr} {o : HO} (h : H a = some o) (n : ∀ od u, o ≠ .frz od u) : NF H a := fun od u e => n od u (Option.some.inj (h.symm.trans e))
theorem NF.ne {H : Hp} {a b : Addr} {od : Obj} {u : HO} (h : NF H a) (e : H b = some (.frz od u)) : b ≠ a := fun z => h od u (z ▸ e)
structure Le (as : As) (H : Hp) (as' : As) (H' : Hp) : Prop extends Mv as H as' H' where
  res : as'.r = as.r
  resk : ∀ a ∈ as.r, H' a = H a
structure EnvR (K : PySem.W.Frag) (cl : ClW) (as : As) (H : Hp) (sg : L2.St) (env : Env) : Prop where
  len : sg.length = env.length
  at_ : ∀ (i : Nat) (d : D), env[i]? = some (some d) → ∃ v, sg[i]? = some (some v) ∧ Sh K cl as H v d
/-- a raised exception -/
def ExcR (K : PySem.W.Frag) (cl : ClW) (as : As) (H : Hp) (cls : Value) (d : Option Addr) (c : String) (fs : List (String × D)) : Prop :=
  cls = .ref (cl c) ∧ ((fs = [] ∧ d = none) ∨ ∃ (dd : Addr) (fv : List (Str × V)), d = some dd ∧ dd ∉ as ∧ H dd = some (.xd fv) ∧ fv.map (·.1) = fs.map (fun p => Str.ofString p.1) ∧ ShL K cl as H (fv.map (·.2)) (fs.map (·.2)))

section
variable {K : PySem.W.Frag} {cl : ClW} {as as' as2 : As} {H H' H2 : Hp} {st : Store} {a : Addr} {o : HO} {sg : L2.St} {env : Env}
theorem CellAt.here {c : Cell} (h : CellAt K cl as H a c) : ∃ o, H a = some o := by
  cases h <;> exact ⟨_, by assumption⟩
theorem Rel.here (r : Rel K cl as H st) (h : a ∈ as) : ∃ o, H a = some o := by
  rcases h with h | h
  · obtain ⟨i, hi, e⟩ := List.getElem_of_mem h
    have h1 : as.c[i]? = some a := by rw [List.getElem?_eq_getElem hi, e]
    have h2 : i < st.length := by rw [← r.len]; exact hi
    exact (r.cell i a st[i] h1 (List.getElem?_eq_getElem h2)).here
  · exact (r.rs a h).2
theorem Rel.fresh (r : Rel K cl as H st) (h : H a = none) : a ∉ as := fun m => by
  obtain ⟨u, e⟩ := r.here m
  rw [h] at e; cases e
theorem Mv.refl : Mv as H as H := ⟨fun _ _ h => h, fun _ _ h1 h2 => ⟨h2, h1⟩, fun _ _ _ h => h⟩
theorem Le.refl : Le as H as H := ⟨.refl, rfl, fun _ _ => rfl⟩
theorem Mv.trans (l1 : Mv as H as' H') (l2 : Mv as' H' as2 H2) : Mv as H as2 H2 :=
  ⟨fun i a h => l2.pre i a (l1.pre i a h), fun a o h1 h2 => let ⟨e, n⟩ := l1.keep a o h1 h2; l2.keep a o n e, fun a od u h => l2.fz a od u (l1.fz a od u h)⟩
theorem Le.trans (l1 : Le as H as' H') (l2 : Le as' H' as2 H2) : Le as H as2 H2 :=
  ⟨l1.toMv.trans l2.toMv, l2.res.trans l1.res, fun a h => (l2.resk a (by rw [l1.res]; exact h)).trans (l1.resk a h)⟩
theorem Mw.rd {u : HO} (l : Mw as H as' H') (n : a ∉ as) (h : Rd H a u) : a ∉ as' ∧ Rd H' a u := by
  rcases h with h | ⟨o, h⟩
  · exact ⟨(l.keep a _ n h).2, .inl (l.keep a _ n h).1⟩
  · exact ⟨(l.keep a _ n h).2, .inr ⟨o, (l.keep a _ n h).1⟩⟩
theorem Mw.fzL (l : Mw as H as' H') {xs : List V} (h : FzL K as H a xs) : FzL K as' H' a xs := h.elim (fun h => .inl (l.rd h.1 h.2)) .inr
theorem Mw.fzT (l : Mw as H as' H') {xs : List V} (h : FzT K as H a xs) : FzT K as' H' a xs := h.elim (fun h => .inl (l.rd h.1 h.2)) .inr
mutual
theorem Sh.upW (l : Mw as H as' H') : ∀ {v : V} {d : D}, Sh K cl as H v d → Sh K cl as' H' v d
  | _, _, .non => .non
  | _, _, .bl b => .bl b
  | _, _, .int i => .int i
  | _, _, .str x => .str x
  | _, _, .ref h => .ref (l.pre _ _ h)
  | _, _, .lst h r => .lst (l.fzL h) (ShL.upW l r)
  | _, _, .tup h r => .tup (l.fzT h) (ShL.upW l r)
  | _, _, .dct n h e r => .dct (l.keep _ _ n h).2 (l.keep _ _ n h).1 e (ShL.upW l r)
  | _, _, .obj n h e r => .obj (l.keep _ _ n h).2 (l.keep _ _ n h).1 e (ShL.upW l r)
  | _, _, .exc0 n h => .exc0 (l.keep _ _ n h).2 (l.keep _ _ n h).1
  | _, _, .exc1 n h n2 h2 e r => .exc1 (l.keep _ _ n h).2 (l.keep _ _ n h).1 (l.keep _ _ n2 h2).2 (l.keep _ _ n2 h2).1 e (ShL.upW l r)
  | _, _, .lam n h e1 e2 r => .lam (l.keep _ _ n h).2 (l.keep _ _ n h).1 e1 e2 (ShL.upW l r)
  | _, _, .fn x => .fn x
theorem ShL.upW (l : Mw as H as' H') : ∀ {vs : List V} {ds : List D}, ShL K cl as H vs ds → ShL K cl as' H' vs ds
  | _, _, .nil => .nil
  | _, _, .cons h r => .cons (Sh.upW l h) (ShL.upW l r)
end
theorem Mv.rd {u : HO} (l : Mv as H as' H') (n : a ∉ as) (h : Rd H a u) : a ∉ as' ∧ Rd H' a u := l.w.rd n h
theorem Mv.fzL (l : Mv as H as' H') {xs : List V} (h : FzL K as H a xs) : FzL K as' H' a xs := l.w.fzL h
theorem Mv.fzT (l : Mv as H as' H') {xs : List V} (h : FzT K as H a xs) : FzT K as' H' a xs := l.w.fzT h
theorem Sh.upM (l : Mv as H as' H') {v : V} {d : D} (h : Sh K cl as H v d) : Sh K cl as' H' v d := h.upW l.w
theorem ShL.upM (l : Mv as H as' H') {vs : List V} {ds : List D} (h : ShL K cl as H vs ds) : ShL K cl as' H' vs ds := h.upW l.w
theorem EnvR.upW (l : Mw as H as' H') (h : EnvR K cl as H sg env) : EnvR K cl as' H' sg env :=
  ⟨h.len, fun i d e => let ⟨v, e1, s⟩ := h.at_ i d e; ⟨v, e1, s.upW l⟩⟩
theorem EnvR.upM (l : Mv as H as' H') (h : EnvR K cl as H sg env) : EnvR K cl as' H' sg env :=
  ⟨h.len, fun i d e => let ⟨v, e1, s⟩ := h.at_ i d e; ⟨v, e1, s.upM l⟩⟩
theorem Sh.up (l : Le as H as' H') {v : V} {d : D} (h : Sh K cl as H v d) : Sh K cl as' H' v d := h.upM l.toMv
theorem ShL.up (l : Le as H as' H') {vs : List V} {ds : List D} (h : ShL K cl as H vs ds) : ShL K cl as' H' vs ds := h.upM l.toMv
theorem EnvR.up (l : Le as H as' H') (h : EnvR K cl as H sg env) : EnvR K cl as' H' sg env := h.upM l.toMv
theorem ShL.length : ∀ {vs : List V} {ds : List D}, ShL K cl as H vs ds → vs.length = ds.length
  | _, _, .nil => rfl
  | _, _, .cons _ r => congrArg Nat.succ r.length
theorem ShL.get : ∀ {vs : List V} {ds : List D} {i : Nat} {d : D}, ShL K cl as H vs ds → ds[i]? = some d → ∃ v, vs[i]? = some v ∧ Sh K cl as H v d
  | _, _, _, _, .nil, e => by simp at e
  | _, _, 0, _, .cons h _, e => by simp at e; subst e; exact ⟨_, rfl, h⟩
  | _, _, i + 1, d, .cons _ r, e => by
    obtain ⟨v, h1, h2⟩ := ShL.get (i := i) (d := d) r (by simpa using e)
    exact ⟨v, by simpa using h1, h2⟩
theorem ShL.append : ∀ {vs ws : List V} {ds es : List D}, ShL K cl as H vs ds → ShL K cl as H ws es → ShL K cl as H (vs ++ ws) (ds ++ es)
  | _, _, _, _, .nil, s => s
  | _, _, _, _, .cons h r, s => .cons h (ShL.append r s)
theorem ShL.take : ∀ {vs : List V} {ds : List D} (n : Nat), ShL K cl as H vs ds → ShL K cl as H (vs.take n) (ds.take n)
  | _, _, 0, _ => .nil
  | _, _, _ + 1, .nil => .nil
  | _, _, n + 1, .cons h r => .cons h (ShL.take n r)
theorem ShL.drop : ∀ {vs : List V} {ds : List D} (n : Nat), ShL K cl as H vs ds → ShL K cl as H (vs.drop n) (ds.drop n)
  | _, _, 0, r => r
  | _, _, _ + 1, .nil => .nil
  | _, _, n + 1, .cons _ r => ShL.drop n r
theorem ShL.set {v : V} {d : D} (s : Sh K cl as H v d) : ∀ {vs : List V} {ds : List D} (i : Nat), ShL K cl as H vs ds → ShL K cl as H (vs.set i v) (ds.set i d)
  | _, _, _, .nil => .nil
  | _, _, 0, .cons _ r => .cons s r
  | _, _, i + 1, .cons h r => .cons h (ShL.set s i r)
theorem ShL.rev {vs : List V} {ds : List D} (h : ShL K cl as H vs ds) : ShL K cl as H vs.reverse ds.reverse := by
  induction h using ShL.rec (motive_1 := fun _ _ _ => True) with
  | nil => exact .nil
  | cons h r _ ih => rw [List.reverse_cons, List.reverse_cons]; exact ih.append (.cons h .nil)
  | _ => trivial
theorem ShL.map1 {vs : List V} {ds : List D} (h : ShL K cl as H vs ds) : ∀ {i : Nat} {v : V}, vs[i]? = some v → ∃ d, ds[i]? = some d ∧ Sh K cl as H v d := by
  intro i v e
  have hi : i < vs.length := (List.getElem?_eq_some_iff.mp e).1
  have hj : i < ds.length := by rw [← h.length]; exact hi
  obtain ⟨w, h1, h2⟩ := h.get (List.getElem?_eq_getElem hj)
  rw [e] at h1; cases h1
  exact ⟨_, List.getElem?_eq_getElem hj, h2⟩
/-- a new object that is no cell -/
theorem Mv.new {p : Addr} (h : H p = none) : Mv as H as (upd H p o) :=
  ⟨fun _ _ h => h, fun a u n e => ⟨by rw [upd_ne (ne_of_none e h)]; exact e, n⟩, fun a od u e => by rw [upd_ne (ne_of_none e h)]; exact e⟩
theorem Le.new {p : Addr} (r : Rel K cl as H st) (h : H p = none) : Le as H as (upd H p o) :=
  ⟨.new h, rfl, fun a m => upd_ne (fun e => by obtain ⟨u, z⟩ := (r.rs a m).2; rw [e, h] at z; cases z)⟩
theorem CellAt.monoW {c : Cell} (l : Mw as H as' H') (e : ∀ o, H a = some o → H' a = some o) (h : CellAt K cl as H a c) : CellAt K cl as' H' a c := by
  cases h with
  | lst h1 h2 => exact .lst (e _ h1) (h2.upW l)
  | dct h1 h2 h3 => exact .dct (e _ h1) h2 (h3.upW l)
  | lck h1 h2 h3 => exact .lck (e _ h1) h2 (h3.upW l)
  | dcn h1 h2 h3 => exact .dcn (e _ h1) h2 (h3.upW l)
  | lckn h1 h2 h3 => exact .lckn (e _ h1) h2 (h3.upW l)
  | ins h1 h2 h3 => exact .ins (e _ h1) h2 (h3.upW l)
  | tab h0 h1 h2 h3 =>
    refine .tab h0 (e _ h1) h2 fun pos cv hc => ?_
    obtain ⟨c, e1, e2, e3⟩ := h3 pos cv hc
    obtain ⟨k1, k2⟩ := l.keep c _ e2 e3
    exact ⟨c, e1, k2, k1⟩
theorem CellAt.mono {c : Cell} (l : Mv as H as' H') (e : ∀ o, H a = some o → H' a = some o) (h : CellAt K cl as H a c) : CellAt K cl as' H' a c := h.monoW l.w e
theorem Rel.new (r : Rel K cl as H st) {p : Addr} (h : H p = none) : Rel K cl as (upd H p o) st :=
  ⟨r.len, r.nd, fun i a c h1 h2 => (r.cell i a c h1 h2).mono (Mv.new h) fun u e => by rw [upd_ne (ne_of_none e h)]; exact e,
    fun a m => ⟨(r.rs a m).1, by obtain ⟨u, e⟩ := (r.rs a m).2; exact ⟨u, by rw [upd_ne (ne_of_none e h)]; exact e⟩⟩, fun a m q z => by
      obtain ⟨u, e⟩ := (r.rs a m).2
      rw [upd_ne (ne_of_none e h)] at z
      exact r.rx a m q z⟩
end

/-! ### readings -/
section
variable (K : PySem.W.Frag) (cl : ClW) (W : WX)
/-- what must hold of an end, so that Q holds behind it -/
def Wt (sg : L2.St) (as : As) (H : Hp) (Q : VK) : Res D → Prop
  | .ok d st' => ∀ as' H' v, Le as H as' H' → Rel K cl as' H' st' → Sh K cl as' H' v d → Q v H'
  | .exn c fs st' => ∀ as' H' cls d, Le as H as' H' → Rel K cl as' H' st' → ExcR K cl as' H' cls d c fs → W cls d sg H'
  | .stuck => False
def Wts (sg : L2.St) (as : As) (H : Hp) (Q : List V → Hp → Prop) : Res (List D) → Prop
  | .ok ds st' => ∀ as' H' vs, Le as H as' H' → Rel K cl as' H' st' → ShL K cl as' H' vs ds → Q vs H'
  | .exn c fs st' => ∀ as' H' cls d, Le as H as' H' → Rel K cl as' H' st' → ExcR K cl as' H' cls d c fs → W cls d sg H'
  | .stuck => False
def tF (f : Ex) : TE := fun sg H Q => ∃ (as : As) (st : Store) (env : Env), Rel K cl as H st ∧ EnvR K cl as H sg env ∧ Wt K cl W sg as H Q (f env st)
def tFs (f : Exs) : TA := fun sg H Q => ∃ (as : As) (st : Store) (env : Env), Rel K cl as H st ∧ EnvR K cl as H sg env ∧ Wts K cl W sg as H Q (f env st)
/-- of a test: the code tells a truth -/
def Wtt (sg : L2.St) (as : As) (H : Hp) (Q : Bool → Hp → Prop) : Res D → Prop
  | .ok (.bl b) st' => ∀ as' H', Le as H as' H' → Rel K cl as' H' st' → Q b H'
  | .ok _ _ => False
  | .exn c fs st' => ∀ as' H' cls d, Le as H as' H' → Rel K cl as' H' st' → ExcR K cl as' H' cls d c fs → W cls d sg H'
  | .stuck => False
def tFt (f : Ex) : TT := fun sg H Q => ∃ (as : As) (st : Store) (env : Env), Rel K cl as H st ∧ EnvR K cl as H sg env ∧ Wtt K cl W sg as H Q (f env st)
/-- of a statement -/
def Wf (as : As) (H : Hp) (Dn : Ends) : Flow → Prop
  | .nx env' st' => ∀ as' H' sg', Le as H as' H' → Rel K cl as' H' st' → EnvR K cl as' H' sg' env' → Dn.nx sg' H'
  | .bk env' st' => ∀ as' H' sg', Le as H as' H' → Rel K cl as' H' st' → EnvR K cl as' H' sg' env' → Dn.bk sg' H'
  | .ct env' st' => ∀ as' H' sg', Le as H as' H' → Rel K cl as' H' st' → EnvR K cl as' H' sg' env' → Dn.ct sg' H'
  | .rt d st' => ∀ as' H' v, Le as H as' H' → Rel K cl as' H' st' → Sh K cl as' H' v d → Dn.rt v H'
  | .ex c fs env' st' => ∀ as' H' sg' cls d, Le as H as' H' → Rel K cl as' H' st' → EnvR K cl as' H' sg' env' → ExcR K cl as' H' cls d c fs → W cls d sg' H'
  | .stuck => False
def tS (f : Sm) : TS := fun Dn sg H => ∃ (as : As) (st : Store) (env : Env), Rel K cl as H st ∧ EnvR K cl as H sg env ∧ Wf K cl W as H Dn (f env st)
end
section
variable {K : PySem.W.Frag} {cl : ClW} {W : WX} {sg : L2.St} {as as1 : As} {H H1 : Hp} {Q : VK}
theorem Wt.up {r : Res D} (l : Le as H as1 H1) (h : Wt K cl W sg as H Q r) : Wt K cl W sg as1 H1 Q r := by
  cases r with
  | ok d s => exact fun as' H' v l' r' x => h as' H' v (l.trans l') r' x
  | exn c fs s => exact fun as' H' cls d l' r' x => h as' H' cls d (l.trans l') r' x
  | stuck => exact h
theorem Wts.up {Q : List V → Hp → Prop} {r : Res (List D)} (l : Le as H as1 H1) (h : Wts K cl W sg as H Q r) : Wts K cl W sg as1 H1 Q r := by
  cases r with
  | ok d s => exact fun as' H' v l' r' x => h as' H' v (l.trans l') r' x
  | exn c fs s => exact fun as' H' cls d l' r' x => h as' H' cls d (l.trans l') r' x
  | stuck => exact h
/-- one expression, then what follows -/
theorem Wt.bind {r : Res D} {k : D → Store → Res D} {Q' : VK} (h : Wt K cl W sg as H Q (r.bind k))
    (hk : ∀ d s as1 H1 v, r = .ok d s → Le as H as1 H1 → Rel K cl as1 H1 s → Sh K cl as1 H1 v d → Wt K cl W sg as1 H1 Q (k d s) → Q' v H1) : Wt K cl W sg as H Q' r := by
  cases r with
  | ok d s => exact fun as1 H1 v l r1 x => hk d s as1 H1 v rfl l r1 x (Wt.up l h)
  | exn c fs s => exact h
  | stuck => exact h
theorem Wt.binds {r : Res (List D)} {k : List D → Store → Res D} {Q' : List V → Hp → Prop} (h : Wt K cl W sg as H Q (r.bind k))
    (hk : ∀ d s as1 H1 v, r = .ok d s → Le as H as1 H1 → Rel K cl as1 H1 s → ShL K cl as1 H1 v d → Wt K cl W sg as1 H1 Q (k d s) → Q' v H1) : Wts K cl W sg as H Q' r := by
  cases r with
  | ok d s => exact fun as1 H1 v l r1 x => hk d s as1 H1 v rfl l r1 x (Wt.up l h)
  | exn c fs s => exact h
  | stuck => exact h
theorem Wts.bind {r : Res D} {k : D → Store → Res (List D)} {Q : List V → Hp → Prop} {Q' : VK} (h : Wts K cl W sg as H Q (r.bind k))
    (hk : ∀ d s as1 H1 v, r = .ok d s → Le as H as1 H1 → Rel K cl as1 H1 s → Sh K cl as1 H1 v d → Wts K cl W sg as1 H1 Q (k d s) → Q' v H1) : Wt K cl W sg as H Q' r := by
  cases r with
  | ok d s => exact fun as1 H1 v l r1 x => hk d s as1 H1 v rfl l r1 x (Wts.up l h)
  | exn c fs s => exact h
  | stuck => exact h
theorem Wts.binds {r : Res (List D)} {k : List D → Store → Res (List D)} {Q Q' : List V → Hp → Prop} (h : Wts K cl W sg as H Q (r.bind k))
    (hk : ∀ d s as1 H1 v, r = .ok d s → Le as H as1 H1 → Rel K cl as1 H1 s → ShL K cl as1 H1 v d → Wts K cl W sg as1 H1 Q (k d s) → Q' v H1) : Wts K cl W sg as H Q' r := by
  cases r with
  | ok d s => exact fun as1 H1 v l r1 x => hk d s as1 H1 v rfl l r1 x (Wts.up l h)
  | exn c fs s => exact h
  | stuck => exact h
theorem Wtt.up {Q : Bool → Hp → Prop} {r : Res D} (l : Le as H as1 H1) (h : Wtt K cl W sg as H Q r) : Wtt K cl W sg as1 H1 Q r := by
  cases r with
  | ok d s =>
    cases d with
    | bl b => exact fun as' H' l' r' => h as' H' (l.trans l') r'
    | _ => exact h
  | exn c fs s => exact fun as' H' cls d l' r' x => h as' H' cls d (l.trans l') r' x
  | stuck => exact h
theorem Wtt.wt {Q : Bool → Hp → Prop} {r : Res D} (h : Wtt K cl W sg as H Q r) : Wt K cl W sg as H (fun v H' => ∃ c, v = .bl c ∧ Q c H') r := by
  cases r with
  | ok d s =>
    cases d with
    | bl b => exact fun as' H' v l r' x => by cases x; exact ⟨b, rfl, h as' H' l r'⟩
    | _ => exact h.elim
  | exn c fs s => exact h
  | stuck => exact h
theorem Wtt.bind {r : Res D} {k : D → Store → Res D} {Q : Bool → Hp → Prop} {Q' : VK} (h : Wtt K cl W sg as H Q (r.bind k))
    (hk : ∀ d s as1 H1 v, r = .ok d s → Le as H as1 H1 → Rel K cl as1 H1 s → Sh K cl as1 H1 v d → Wtt K cl W sg as1 H1 Q (k d s) → Q' v H1) : Wt K cl W sg as H Q' r := by
  cases r with
  | ok d s => exact fun as1 H1 v l r1 x => hk d s as1 H1 v rfl l r1 x (Wtt.up l h)
  | exn c fs s => exact h
  | stuck => exact h
/-- a truth, then what follows -/
theorem Wt.bindB {r : Res D} {k : D → Store → Res D} {Q' : Bool → Hp → Prop} (h : Wt K cl W sg as H Q (r.bind k)) (hn : ∀ d s, (∀ b, d ≠ .bl b) → k d s = .stuck)
    (hk : ∀ b s as1 H1, r = .ok (.bl b) s → Le as H as1 H1 → Rel K cl as1 H1 s → Wt K cl W sg as1 H1 Q (k (.bl b) s) → Q' b H1) : Wtt K cl W sg as H Q' r := by
  cases r with
  | ok d s =>
    cases d with
    | bl b => exact fun as1 H1 l r1 => hk b s as1 H1 rfl l r1 (Wt.up l h)
    | _ =>
      have h : Wt K cl W sg as H Q (k _ s) := h
      rw [hn _ s (fun b => by intro z; cases z)] at h
      exact h
  | exn c fs s => exact h
  | stuck => exact h
theorem Wtt.bindB {r : Res D} {k : D → Store → Res D} {Q Q' : Bool → Hp → Prop} (h : Wtt K cl W sg as H Q (r.bind k)) (hn : ∀ d s, (∀ b, d ≠ .bl b) → k d s = .stuck)
    (hk : ∀ b s as1 H1, r = .ok (.bl b) s → Le as H as1 H1 → Rel K cl as1 H1 s → Wtt K cl W sg as1 H1 Q (k (.bl b) s) → Q' b H1) : Wtt K cl W sg as H Q' r := by
  cases r with
  | ok d s =>
    cases d with
    | bl b => exact fun as1 H1 l r1 => hk b s as1 H1 rfl l r1 (Wtt.up l h)
    | _ =>
      have h : Wtt K cl W sg as H Q (k _ s) := h
      rw [hn _ s (fun b => by intro z; cases z)] at h
      exact h
  | exn c fs s => exact h
  | stuck => exact h
theorem Wf.up {Dn : Ends} {r : Flow} (l : Le as H as1 H1) (h : Wf K cl W as H Dn r) : Wf K cl W as1 H1 Dn r := by
  cases r with
  | nx e s => exact fun as' H' sg' l' r' x => h as' H' sg' (l.trans l') r' x
  | bk e s => exact fun as' H' sg' l' r' x => h as' H' sg' (l.trans l') r' x
  | ct e s => exact fun as' H' sg' l' r' x => h as' H' sg' (l.trans l') r' x
  | rt d s => exact fun as' H' v l' r' x => h as' H' v (l.trans l') r' x
  | ex c fs e s => exact fun as' H' sg' cls d l' r' x y => h as' H' sg' cls d (l.trans l') r' x y
  | stuck => exact h
end
/-- an expression of the text is the code f -/
abbrev FE (X : Cx) (cl : ClW) (W : WX) (e : Expr) (f : Ex) : Prop := PE X e (tF X.K cl W f)
abbrev FT (X : Cx) (cl : ClW) (W : WX) (e : Expr) (f : Ex) : Prop := PT X e (tFt X.K cl W f)
abbrev FW (X : Cx) (cl : ClW) (W : WX) (e : Expr) (f : Ex) : Prop := PW X e (tFt X.K cl W f)
abbrev FS (X : Cx) (cl : ClW) (W : WX) (s : Stmt) (f : Sm) : Prop := PS X s (tS X.K cl W f)
abbrev FSs (X : Cx) (cl : ClW) (W : WX) (s : List Stmt) (f : Sm) : Prop := PSs X s (tS X.K cl W f)

section
variable {X : Cx} {cl : ClW} {W : WX} {e : Expr} {es : List Expr} {st : Stmt} {sts : List Stmt}
theorem PE.w {t t' : TE} (h : PE X e t) (i : ∀ sg H Q, t' sg H Q → t sg H Q) : PE X e t' := ⟨fun pins s sg H Q I q => h.run pins s sg H Q I (i _ _ _ q)⟩
theorem PT.w {t t' : TT} (h : PT X e t) (i : ∀ sg H Q, t' sg H Q → t sg H Q) : PT X e t' := ⟨fun pins s sg H Q I q => h.run pins s sg H Q I (i _ _ _ q)⟩
theorem PW.w {t t' : TT} (h : PW X e t) (i : ∀ sg H Q, t' sg H Q → t sg H Q) : PW X e t' := ⟨fun wh pins s sg H Q I q => h.run wh pins s sg H Q I (i _ _ _ q)⟩
theorem PS.w {t t' : TS} (h : PS X st t) (i : ∀ Dn sg H, t' Dn sg H → t Dn sg H) : PS X st t' := ⟨fun pins s sg H Dn I q => h.run pins s sg H Dn I (i _ _ _ q)⟩
theorem PSs.w {t t' : TS} (h : PSs X sts t) (i : ∀ Dn sg H, t' Dn sg H → t Dn sg H) : PSs X sts t' := ⟨fun pins s sg H Dn I q => h.run pins s sg H Dn I (i _ _ _ q)⟩
end
end F3

/-! F3, part b: defs and calls of defs. -/
namespace F3
open PySem PySem.Spec PyProof.Rows L2

/-- as FnOk, where no repr is under way -/
structure FnG (P : Program) (w : World) (K : PySem.W.Frag) (mg : Str → Option Value) (base : Heap) (k : Nat) (f : Addr) (fd : FuncData) (ps : List Str) (sp : Sp) : Prop where
  len : ∀ vs H Q E, sp vs H Q E → vs.length = ps.length
  run : ∀ (A : Around) (outer : List PySem.Env) (s : Shared) (H : Hp) (args : Args) (us : List Value) (vs : List V) (Q : VK) (E : XK), A.guards = some [] → Room k A → Env0 P w K mg base A outer s H → BindsTo s fd args (ps.zip us) → Vals vs us → sp vs H Q E →
    codeAny (model P w) A (.call (.ref f) args) (CR (L2.CX P w) outer P w H s Q E) s
/-- a body may call by j more frames, and nothing is being shown -/
structure Rm (j : Nat) (X : Cx) : Prop where
  rm : Room j X.A
  gd : X.A.guards = some []
theorem Rm.mono {i j : Nat} {X : Cx} (r : Rm j X) (h : i ≤ j) : Rm i X := ⟨r.rm.mono h, r.gd⟩

section
variable {P : Program} {w : World} {K : PySem.W.Frag} {mg : Str → Option Value} {base : Heap} {cl : ClW}
/-- a def by its body -/
theorem FunD.okGC {x qual : Str} {params : Arguments} {body : List Stmt} {scope : Scope} {dvs : List V} {kws : List (Str × V)} {f : Addr} {fd : FuncData} {N ps : List Str} {k : Nat} {sp : Sp}
    (F : FunD K x qual params body scope dvs kws f fd) (S : FnScope N ps scope) (len : ∀ vs H Q E, sp vs H Q E → vs.length = ps.length)
    (hb : ∀ (cdv : Value) (hc : fd.code = cdv) (A : Around) (outer : List PySem.Env) (s : Shared) (H : Hp) (vs : List V) (Q : VK) (E : XK), Rm k (cxOf (L2.CX P w) P w K mg base N qual scope f cdv A outer s H E) → sp vs H Q E →
      ∃ t, PSs (cxOf (L2.CX P w) P w K mg base N qual scope f cdv A outer s H E) body t ∧ t { nx := fun _ H' => Q .non H', rt := Q } (L2.start N vs) H) : FnG P w K mg base (k + 1) f fd ps sp := by
  obtain ⟨oc, od, dV, kV, doc, pm, an, cdv, ct, osl, rfl, lk, hcd, _, _⟩ := F.ex
  refine ⟨len, fun A outer s H args us vs Q E hg hr e0 hbi r hsp => ?_⟩
  have hl := len _ _ _ _ hsp
  have KX : K.In s.heap := e0.mod.kin.keeps fun b o e => (e0.bs b o e).1
  have lim : s.heap.NoLimit := e0.mod.nolimit.keeps fun b o e => (e0.bs b o e).1
  refine codeAny_call_function hr.depth (KX _ _ lk) rfl S.co S.gen rfl (PySem.W.codeRec_of KX hcd) (hbi _ _ _ _ ?_)
  refine wpAny_newFunctionEnv_cells S.kind (fun y hy => ?_) fun env he s1 x => ?_
  · obtain ⟨n, v⟩ := y
    rcases S.par n (List.of_mem_zip hy).1 with q | q
    · exact .inl q
    · exact .inr ⟨q, PySem.W.cellsFrom_some _ _ _ (.inl q)⟩
  subst he
  refine ⟨lim.keeps x.toInCall.keep, codeAny_func ?_⟩
  let X : Cx := cxOf (L2.CX P w) P w K mg base N qual scope f cdv A outer s H E
  have I : L2.Inv X [] (L2.start N vs) H s1 := inv_start S hr.hd e0 hl r x
  obtain ⟨t, ht, hq⟩ := hb cdv rfl A outer s H vs Q E ⟨hr.deeper _, hg⟩ hsp
  refine wpAny_mono (ht.run [] s1 (L2.start N vs) H _ I hq) (fun fl s' hs => ?_) fun e s' hs => hs
  cases fl with
  | ret u =>
    obtain ⟨v, sg, H', J, rv, q⟩ := hs
    exact ⟨v, H', J.os, J.bare, J.base, J.hok, rv, q⟩
  | next =>
    obtain ⟨sg, H', J, q⟩ := hs
    exact ⟨.non, H', J.os, J.bare, J.base, J.hok, rfl, q⟩
  | brk => obtain ⟨_, _, _, q⟩ := hs; exact q.elim
  | cont => obtain ⟨_, _, _, q⟩ := hs; exact q.elim
theorem FunD.okG {x qual : Str} {params : Arguments} {body : List Stmt} {scope : Scope} {dvs : List V} {kws : List (Str × V)} {f : Addr} {fd : FuncData} {N ps : List Str} {k : Nat} {sp : Sp}
    (F : FunD K x qual params body scope dvs kws f fd) (S : FnScope N ps scope) (len : ∀ vs H Q E, sp vs H Q E → vs.length = ps.length)
    (hb : ∀ (cdv : Value) (A : Around) (outer : List PySem.Env) (s : Shared) (H : Hp) (vs : List V) (Q : VK) (E : XK), Rm k (cxOf (L2.CX P w) P w K mg base N qual scope f cdv A outer s H E) → sp vs H Q E →
      ∃ t, PSs (cxOf (L2.CX P w) P w K mg base N qual scope f cdv A outer s H E) body t ∧ t { nx := fun _ H' => Q .non H', rt := Q } (L2.start N vs) H) : FnG P w K mg base (k + 1) f fd ps sp :=
  FunD.okGC F S len fun cdv _ => hb cdv

/-! ### what a def is worth -/
/-- n values in, as m tells -/
def spF (K : PySem.W.Frag) (cl : ClW) (n : Nat) (m : List D → Store → Res D) : Sp := fun vs H Q E => ∃ (as : As) (st : Store) (ds : List D), ds.length = n ∧ Rel K cl as H st ∧ ShL K cl as H vs ds ∧ Wt K cl (fun c d _ H' => E c d H') [] as H Q (m ds st)
theorem env_start {as : As} {H : Hp} {vs : List V} {ds : List D} {N : List Str} {m : Nat} (h : ShL K cl as H vs ds) (e : N.length - vs.length = m) : EnvR K cl as H (L2.start N vs) (ds.map some ++ List.replicate m none) := by
  refine ⟨?_, fun i d hd => ?_⟩
  · unfold L2.start
    rw [List.length_append, List.length_append, List.length_map, List.length_map, List.length_replicate, List.length_replicate, h.length, ← e, h.length]
  · unfold L2.start
    by_cases hi : i < ds.length
    · rw [List.getElem?_append_left (by rw [List.length_map]; exact hi), List.getElem?_map] at hd
      rw [List.getElem?_append_left (by rw [List.length_map, h.length]; exact hi), List.getElem?_map]
      cases q : ds[i]? with
      | none => rw [q] at hd; cases hd
      | some d' =>
        rw [q] at hd
        cases hd
        obtain ⟨v, h1, h2⟩ := h.get q
        exact ⟨v, by rw [h1]; rfl, h2⟩
    · rw [List.getElem?_append_right (by rw [List.length_map]; omega), List.getElem?_replicate] at hd
      split at hd <;> cases hd
/-- the body's code is the def's -/
theorem FunD.okFC {x qual : Str} {params : Arguments} {body : List Stmt} {scope : Scope} {dvs : List V} {kws : List (Str × V)} {f : Addr} {fd : FuncData} {N ps : List Str} {k m : Nat} {b : Sm}
    (F : FunD K x qual params body scope dvs kws f fd) (S : FnScope N ps scope) (hm : N.length - ps.length = m)
    (hb : ∀ (cdv : Value) (hc : fd.code = cdv) (A : Around) (outer : List PySem.Env) (s : Shared) (H : Hp) (E : XK), Rm k (cxOf (L2.CX P w) P w K mg base N qual scope f cdv A outer s H E) →
      FSs (cxOf (L2.CX P w) P w K mg base N qual scope f cdv A outer s H E) cl (fun c d _ H' => E c d H') body b) : FnG P w K mg base (k + 1) f fd ps (spF K cl ps.length (fn m b)) := by
  refine FunD.okGC F S (fun vs H Q E h => ?_) fun cdv hcd A outer s H vs Q E hr hsp => ?_
  · obtain ⟨as, st, ds, hl, _, hs, _⟩ := h
    rw [hs.length, hl]
  · refine ⟨_, hb cdv hcd A outer s H E hr, ?_⟩
    obtain ⟨as, st, ds, hl, r, hs, hq⟩ := hsp
    refine ⟨as, st, ds.map some ++ List.replicate m none, r, env_start hs (by rw [hs.length, hl]; exact hm), ?_⟩
    unfold fn at hq
    cases e : b (ds.map some ++ List.replicate m none) st with
    | nx env' st' =>
      rw [e] at hq
      exact fun as' H' sg' l r' _ => hq as' H' .non l r' .non
    | rt d st' =>
      rw [e] at hq
      exact hq
    | bk env' st' => rw [e] at hq; exact hq.elim
    | ct env' st' => rw [e] at hq; exact hq.elim
    | ex c fs env' st' =>
      rw [e] at hq
      exact fun as' H' sg' cls d l r' _ x => hq as' H' cls d l r' x
    | stuck => rw [e] at hq; exact hq.elim
theorem FunD.okF {x qual : Str} {params : Arguments} {body : List Stmt} {scope : Scope} {dvs : List V} {kws : List (Str × V)} {f : Addr} {fd : FuncData} {N ps : List Str} {k m : Nat} {b : Sm}
    (F : FunD K x qual params body scope dvs kws f fd) (S : FnScope N ps scope) (hm : N.length - ps.length = m)
    (hb : ∀ (cdv : Value) (A : Around) (outer : List PySem.Env) (s : Shared) (H : Hp) (E : XK), Rm k (cxOf (L2.CX P w) P w K mg base N qual scope f cdv A outer s H E) →
      FSs (cxOf (L2.CX P w) P w K mg base N qual scope f cdv A outer s H E) cl (fun c d _ H' => E c d H') body b) : FnG P w K mg base (k + 1) f fd ps (spF K cl ps.length (fn m b)) :=
  FunD.okFC F S hm fun cdv _ => hb cdv
end

/-! ### arguments -/
structure FA (X : Cx) (cl : ClW) (W : WX) (n : Nat) (es : List Expr) (f : Exs) : Prop where
  pa : PA X es (tFs X.K cl W f)
  len : ∀ env st ds st', f env st = .ok ds st' → ds.length = n
structure FK (X : Cx) (cl : ClW) (W : WX) (n : Nat) (ks : List Keyword) (f : Exs) : Prop where
  pk : PK X ks (tFs X.K cl W f)
  len : ∀ env st ds st', f env st = .ok ds st' → ds.length = n
def aNil : Exs := fun _ st => .ok [] st
def aCons (f : Ex) (g : Exs) : Exs := fun env st => (f env st).bind fun d s1 => (g env s1).bind fun ds s2 => .ok (d :: ds) s2

section
variable {X : Cx} {cl : ClW} {W : WX} {e o : Expr} {es : List Expr} {f : Ex} {g : Exs} {n : Nat}
theorem tfs_nil : ∀ sg H Q, tFs X.K cl W aNil sg H Q → tNil sg H Q := fun sg H Q ⟨as, st, env, r, _, q⟩ => q as H [] Le.refl r .nil
theorem tfs_cons : ∀ sg H Q, tFs X.K cl W (aCons f g) sg H Q → tCons (tF X.K cl W f) (tFs X.K cl W g) sg H Q := fun sg H Q ⟨as, st, env, r, er, q⟩ =>
  ⟨as, st, env, r, er, Wts.bind q fun d s1 as1 H1 v _ l1 r1 x1 q1 => ⟨as1, s1, env, r1, er.up l1, Wts.binds q1 fun ds s2 as2 H2 vs _ l2 r2 x2 q2 => q2 as2 H2 (v :: vs) Le.refl r2 (.cons (x1.up l2) x2)⟩⟩
theorem PAs.w {t t' : TA} (h : PA X es t) (i : ∀ sg H Q, t' sg H Q → t sg H Q) : PA X es t' := ⟨fun pos pins s sg H Q I q => h.run pos pins s sg H Q I (i _ _ _ q)⟩
theorem PKs.w {es : List Keyword} {t t' : TA} (h : PK X es t) (i : ∀ sg H Q, t' sg H Q → t sg H Q) : PK X es t' := ⟨fun pos pins s sg H Q I q => h.run pos pins s sg H Q I (i _ _ _ q)⟩
theorem bind_ok {A B : Type} {r : Res A} {k : A → Store → Res B} {b : B} {s : Store} (h : r.bind k = .ok b s) : ∃ a s1, r = .ok a s1 ∧ k a s1 = .ok b s := by
  cases r with
  | ok a s1 => exact ⟨a, s1, rfl, h⟩
  | exn c fs s1 => cases h
  | stuck => cases h
theorem aNil_len : ∀ env st ds st', aNil env st = .ok ds st' → ds.length = 0 := fun env st ds st' h => by cases h; rfl
theorem aCons_len (hg : ∀ env st ds st', g env st = .ok ds st' → ds.length = n) : ∀ env st ds st', aCons f g env st = .ok ds st' → ds.length = n + 1 := fun env st ds st' h => by
  obtain ⟨a, s1, _, h⟩ := bind_ok h
  obtain ⟨b, s2, h2, h⟩ := bind_ok h
  cases h
  exact congrArg Nat.succ (hg _ _ _ _ h2)
theorem fa_nil : FA X cl W 0 [] aNil := ⟨PAs.w pa_nil tfs_nil, aNil_len⟩
theorem fa_cons (ha : FE X cl W e f) (hr : FA X cl W n es g) (hs : starEach (e :: es) X.env = (false, eval e X.env) :: starEach es X.env := by rfl) : FA X cl W (n + 1) (e :: es) (aCons f g) :=
  ⟨PAs.w (pa_cons ha hr.pa hs) tfs_cons, aCons_len hr.len⟩
theorem fk_nil : FK X cl W 0 [] aNil := ⟨PKs.w pk_nil tfs_nil, aNil_len⟩
theorem fk_cons {nm : Option Str} {kpos : Pos} {kws : List Keyword} (ha : FE X cl W e f) (hr : FK X cl W n kws g) : FK X cl W (n + 1) (⟨nm, e, kpos⟩ :: kws) (aCons f g) :=
  ⟨PKs.w (pk_cons ha hr.pk) tfs_cons, aCons_len hr.len⟩
end

/-! ### how arguments come to parameters -/
structure KB (K : PySem.W.Frag) (cl : ClW) (fd : FuncData) (ps : List Str) (n : Nat) (ks : List Str) (gD : List D → List D → List D) : Prop where
  to : ∀ (s : Shared) (us ws : List Value), K.In s.heap → us.length = n → ws.length = ks.length → ∃ xs : List Value, BindsTo s fd ⟨us, ks.zip ws⟩ (ps.zip xs) ∧
    ∀ (as : As) (H : Hp) (st : Store) (vs zs : List V) (ds es : List D), Rel K cl as H st → Vals vs us → Vals zs ws → ShL K cl as H vs ds → ShL K cl as H zs es → ∃ ys, Vals ys xs ∧ ShL K cl as H ys (gD ds es) ∧ (gD ds es).length = ps.length

section
variable {X : Cx} {cl : ClW} {W : WX} {k n nk : Nat} {f C : Addr} {fd : FuncData} {ps ks : List Str} {gD : List D → List D → List D} {m : List D → Store → Res D} {x : Str} {p pos apos : Pos} {e o : Expr} {es : List Expr} {kws : List Keyword} {fa fk : Exs} {fo : Ex}
/-- the callee runs, from code on data -/
theorem run_F {pins : List (Addr × Obj)} {sg : L2.St} {H : Hp} {s : Shared} {Q : VK} {us ws : List Value} {vs zs : List V} {as : As} {st : Store} {ds es : List D}
    (F : FnG X.prog X.w X.K X.mg X.base k f fd ps (spF X.K cl ps.length m)) (hr : Rm k X) (hb : KB X.K cl fd ps n ks gD) (tk : Takes X W) (I : L2.Inv X pins sg H s) (r : Vals vs us) (rz : Vals zs ws)
    (hn : us.length = n) (hk : ws.length = ks.length) (rl : Rel X.K cl as H st) (s1 : ShL X.K cl as H vs ds) (s2 : ShL X.K cl as H zs es)
    (h : Wt X.K cl W sg as H Q (m (gD ds es) st)) : wpAny (model X.prog X.w) X.A (call (.ref f) us (ks.zip ws)) (EP X pins sg Q) X.xe s := by
  obtain ⟨xs, hbi, hsh⟩ := hb.to s us ws I.kIn hn hk
  obtain ⟨ys, ry, sy, ly⟩ := hsh as H st vs zs ds es rl r rz s1 s2
  refine wpAny_call (codeAny_mono (F.run X.A X.stack s H ⟨us, ks.zip ws⟩ xs ys Q (fun cls d H' => W cls d sg H') hr.gd hr.rm I.env0 hbi ry ⟨as, st, gD ds es, ly, rl, sy, ?_⟩) fun r' s' hq => ?_)
  · revert h
    cases m (gD ds es) st <;> exact fun h => h
  · cases r' with
    | error e => exact tk e s' (XE.of_call I (fun _ _ _ z => z) hq)
    | ok fl =>
      cases fl with
      | ret u => exact I.after hq
      | next => exact False.elim hq
      | brk => exact False.elim hq
      | cont => exact False.elim hq
/-- a call by its arguments' code -/
def eCall (m : List D → Store → Res D) (gD : List D → List D → List D) (fa fk : Exs) : Ex := fun env st => (fa env st).bind fun ds s1 => (fk env s1).bind fun es s2 => m (gD ds es) s2
/-- what is handed on -/
def AfterArgs (X : Cx) (cl : ClW) (W : WX) (sg : L2.St) (Q : VK) (n nk : Nat) (m : List D → List D → Store → Res D) (vs zs : List V) (H : Hp) : Prop :=
  vs.length = n ∧ zs.length = nk ∧ ∃ as st ds es, Rel X.K cl as H st ∧ ShL X.K cl as H vs ds ∧ ShL X.K cl as H zs es ∧ Wt X.K cl W sg as H Q (m ds es st)
theorem call_args {ks' : List Keyword} {es' : List Expr} {m2 : List D → List D → Store → Res D} {sg : L2.St} {H : Hp} {Q : VK} (ha : FA X cl W n es' fa) (hk : FK X cl W nk ks' fk)
    (h : tF X.K cl W (fun env st => (fa env st).bind fun ds s1 => (fk env s1).bind fun es s2 => m2 ds es s2) sg H Q) :
    tFs X.K cl W fa sg H fun vs H1 => tFs X.K cl W fk sg H1 fun zs H2 => AfterArgs X cl W sg Q n nk m2 vs zs H2 := by
  obtain ⟨as, st, env, r, er, q⟩ := h
  exact ⟨as, st, env, r, er, Wt.binds q fun ds s1 as1 H1 vs e1 l1 r1 x1 q1 => ⟨as1, s1, env, r1, er.up l1, Wt.binds q1 fun es s2 as2 H2 zs e2 l2 r2 x2 q2 =>
    ⟨by rw [x1.length]; exact ha.len _ _ _ _ e1, by rw [x2.length]; exact hk.len _ _ _ _ e2, as2, s2, ds, es, r2, x1.up l2, x2, q2⟩⟩⟩
/-- f(e, ..) -/
theorem fe_call (F : FnG X.prog X.w X.K X.mg X.base k f fd ps (spF X.K cl ps.length m)) (hr : Rm k X) (tk : Takes X W) (hg : Gl X x) (hm : X.mg x = some (.ref f)) (hk : PySem.W.keepIn X.K (.ref f) = true) (hb : KB X.K cl fd ps n [] gD)
    (ha : FA X cl W n (e :: es) fa) (hdb : (x == ("__debug__" : Str)) = false := by decide) (he : starEach (e :: es) X.env = (false, eval e X.env) :: starEach es X.env := by rfl) (hpl : (backTo pos (starEach es X.env)).any (·.1) = false := by rfl) :
    FE X cl W (.Call (.Name x p) (e :: es) [] pos) (eCall m gD fa aNil) := by
  refine ⟨fun pins s sg H Q I h => ?_⟩
  refine wpAny_Call_Name_kw (ld_glob I hg hm ?_ hdb)
  refine PySem.W.callWith_K (h₀ := X.base) I.ok.mod.kin hk (thn (ha.pa.run pos pins s sg H _ I (call_args (m2 := fun ds es st => m (gD ds es) st) ha fk_nil h)) fun us s1 ⟨vs, H1, I1, r1, q1⟩ => ⟨I1.kIn, ?_⟩) he hpl
  obtain ⟨l1, l2, as, st, ds, es', rl, h1, h2, q⟩ := tfs_nil _ _ _ q1
  exact run_F (zs := []) (ws := []) (ks := []) F hr hb tk I1 r1 .nil (r1.length.symm.trans l1) rfl rl h1 h2 q
end
end F3

/-! F3, part c: the code of expressions and statements, and that it tells what the text does. -/
namespace F3
open PySem PySem.Spec PyProof.Rows L2

/-! ### code -/
abbrev O1 := D → Store → Option (D × Store)
abbrev O2 := D → D → Store → Option (D × Store)
abbrev On := List D → Store → Option (D × Store)
abbrev Om := D → List D → Store → Option (D × Store)
def ofO : Option (D × Store) → Res D
  | some p => .ok p.1 p.2
  | none => .stuck
def eC (d : D) : Ex := fun _ st => .ok d st
def eVar (i : Nat) : Ex := fun env st => match env[i]? with
  | some (some d) => .ok d st
  | _ => .stuck
def eUn (o : O1) (f : Ex) : Ex := fun env st => (f env st).bind fun x s => ofO (o x s)
def eBin (o : O2) (f g : Ex) : Ex := fun env st => (f env st).bind fun x s1 => (g env s1).bind fun y s2 => ofO (o x y s2)
def onB (k1 k2 : Store → Res D) : D → Store → Res D := fun d s => match d with
  | .bl true => k1 s
  | .bl false => k2 s
  | _ => .stuck
def eChain (o o' : O2) (f g h : Ex) : Ex := fun env st => (f env st).bind fun x s1 => (g env s1).bind fun y s2 => (ofO (o x y s2)).bind fun b s3 => onB (fun s => (h env s).bind fun z s4 => ofO (o' y z s4)) (fun s => .ok (.bl false) s) b s3
def eIf (c a b : Ex) : Ex := fun env st => (c env st).bind (onB (a env) (b env))
def eAnd (a b : Ex) : Ex := fun env st => (a env st).bind (onB (b env) fun s => .ok (.bl false) s)
def eOr (a b : Ex) : Ex := fun env st => (a env st).bind (onB (fun s => .ok (.bl true) s) (b env))
def eNot (a : Ex) : Ex := fun env st => (a env st).bind (onB (fun s => .ok (.bl false) s) fun s => .ok (.bl true) s)
def eLst (fa : Exs) : Ex := fun env st => (fa env st).bind fun ds s => if ds.length ≤ 100000 then .ok (.lst ds) s else .stuck
def eTup (fa : Exs) : Ex := fun env st => (fa env st).bind fun ds s => if ds.length ≤ 100000 then .ok (.tup ds) s else .stuck
/-- a list that is to change: a new cell -/
def eCel (fa : Exs) : Ex := fun env st => (fa env st).bind fun ds s => if ds.length ≤ 100000 then .ok (.ref s.length) (s ++ [.lst ds]) else .stuck
def eFn (o : On) (fa : Exs) : Ex := fun env st => (fa env st).bind fun ds s => ofO (o ds s)
abbrev Tgt := D → Env → Store → Option (Env × Store)
def tNm (i : Nat) : Tgt := fun d env st => some (env.set i (some d), st)
def sNext : Sm := fun env st => .nx env st
def sSeq (a b : Sm) : Sm := fun env st => match a env st with
  | .nx e s => b e s
  | .rt d s => .rt d s
  | .bk e s => .bk e s
  | .ct e s => .ct e s
  | .ex c fs e s => .ex c fs e s
  | .stuck => .stuck
def ofR (r : Res D) (env : Env) (k : D → Store → Flow) : Flow := match r with
  | .ok d s => k d s
  | .exn c fs s => .ex c fs env s
  | .stuck => .stuck
def sExpr (f : Ex) : Sm := fun env st => ofR (f env st) env fun _ s => .nx env s
def sRet (f : Ex) : Sm := fun env st => ofR (f env st) env fun d s => .rt d s
def sRetN : Sm := fun _ st => .rt .non st
def sAsg (f : Ex) (g : Tgt) : Sm := fun env st => ofR (f env st) env fun d s => match g d env s with
  | some p => .nx p.1 p.2
  | none => .stuck
def sSet (i : Nat) (f : Ex) : Sm := fun env st => ofR (f env st) env fun d s => .nx (env.set i (some d)) s
def sPar (i j : Nat) (f g : Ex) : Sm := fun env st => ofR (f env st) env fun d s => ofR (g env s) env fun d2 s2 => .nx ((env.set i (some d)).set j (some d2)) s2
def sIf (c : Ex) (a b : Sm) : Sm := fun env st => ofR (c env st) env fun d s => match d with
  | .bl true => a env s
  | .bl false => b env s
  | _ => .stuck
def sBk : Sm := fun env st => .bk env st
def sCt : Sm := fun env st => .ct env st
open Classical in
def forL (g : Tgt) (b : Sm) : List D → Sm
  | [] => fun env st => .nx env st
  | d :: r => fun env st => match g d env st with
    | none => .stuck
    | some p => (match b p.1 p.2 with
      | .nx e s2 => forL g b r e s2
      | .ct e s2 => forL g b r e s2
      | .bk e s2 => .nx e s2
      | .rt d s2 => .rt d s2
      | .ex c fs e s2 => .ex c fs e s2
      | .stuck => .stuck)
/-- what is walked: a list that stays, or a cell that must stay as it is as long as it is walked -/
abbrev Wlk := Option Nat × List D
abbrev Its := Env → Store → Res Wlk
def Gd (r : Wlk) (st : Store) : Prop := match r.1 with
  | none => True
  | some k => st[k]? = some (.lst r.2)
open Classical in
noncomputable def forG (s : Wlk) (g : Tgt) (b : Sm) : List D → Sm
  | [] => fun env st => if Gd s st then .nx env st else .stuck
  | d :: r => fun env st => if Gd s st then (match g d env st with
    | none => .stuck
    | some p => (match b p.1 p.2 with
      | .nx e s2 => forG s g b r e s2
      | .ct e s2 => forG s g b r e s2
      | .bk e s2 => .nx e s2
      | .rt d s2 => .rt d s2
      | .ex c fs e s2 => .ex c fs e s2
      | .stuck => .stuck)) else .stuck
noncomputable def sFor (it : Its) (g : Tgt) (b : Sm) : Sm := fun env st => match it env st with
  | .ok r s => forG r g b r.2 env s
  | .exn c fs s => .ex c fs env s
  | .stuck => .stuck
theorem forG_none {ds0 : List D} {g : Tgt} {b : Sm} : ∀ (ds : List D) (env : Env) (st : Store), forG (none, ds0) g b ds env st = forL g b ds env st
  | [], env, st => if_pos trivial
  | d :: r, env, st => by
    unfold forG forL
    rw [if_pos (show Gd (none, ds0) st from trivial)]
    cases g d env st with
    | none => rfl
    | some p =>
      dsimp only
      cases b p.1 p.2 <;> first | rfl | exact forG_none r _ _
def wipeE (env : Env) : List Nat → Env
  | [] => env
  | v :: vs => (wipeE env vs).set v none
def Res.bindS {A B : Type} (r : Res A) (k : A → Store → Res B) : Res B := match r with
  | .ok a st => k a st
  | .exn _ _ _ => .stuck
  | .stuck => .stuck
open Classical in
/-- one comprehension: what is kept so far, then the rest -/
noncomputable def lcL (r : Wlk) (g : Tgt) (t e : Ex) (vs : List Nat) (env : Env) : List D → List D → Store → Res (List D)
  | [], acc, st => if Gd r st then .ok acc st else .stuck
  | d :: ds, acc, st => if Gd r st then (match g d (wipeE env vs) st with
    | none => .stuck
    | some p => (t p.1 p.2).bindS fun b s => match b with
      | .bl true => (e p.1 s).bindS fun y s2 => if acc.length < 100000 then lcL r g t e vs env ds (acc ++ [y]) s2 else .stuck
      | .bl false => lcL r g t e vs env ds acc s
      | _ => .stuck) else .stuck
noncomputable def eLc (it : Its) (g : Tgt) (t e : Ex) (vs : List Nat) : Ex := fun env st => (it env st).bind fun r s => (lcL r g t e vs env r.2 [] s).bind fun xs s2 => .ok (.lst xs) s2
def eYes : Ex := eC (.bl true)
/-- what is walked: a list or a cell, a tuple, numbers -/
def lstI (d : D) (s : Store) : Res Wlk := match d with
  | .lst ds => .ok (none, ds) s
  | .ref k => match s[k]? with
    | some (.lst ds) => .ok (some k, ds) s
    | _ => .stuck
  | _ => .stuck
def tupI (d : D) (s : Store) : Res Wlk := match d with
  | .tup ds => .ok (none, ds) s
  | _ => .stuck
def iLst (f : Ex) : Its := fun env st => (f env st).bind lstI
def iTupl (f : Ex) : Its := fun env st => (f env st).bind tupI
def intsD (lo : Int) (n : Nat) : List D := (List.range n).map fun (i : Nat) => D.int (lo + (i : Int))
def rng1 (ds : List D) (s : Store) : Res Wlk := match ds with
  | [.int j] => if -(2 ^ 62) ≤ j ∧ j < 2 ^ 62 then .ok (none, intsD 0 j.toNat) s else .stuck
  | _ => .stuck
def rng2 (ds : List D) (s : Store) : Res Wlk := match ds with
  | [.int i, .int j] => if -(2 ^ 62) ≤ i ∧ i < 2 ^ 62 ∧ -(2 ^ 62) ≤ j ∧ j < 2 ^ 62 then .ok (none, intsD i (j - i).toNat) s else .stuck
  | _ => .stuck
def iRange1 (fa : Exs) : Its := fun env st => (fa env st).bind rng1
def iRange2 (fa : Exs) : Its := fun env st => (fa env st).bind rng2

/-! ### operators by values -/
section
variable (K : PySem.W.Frag) (cl : ClW)
def Aft (as : As) (H : Hp) (d : D) (st' : Store) (Q : VK) : Prop := ∀ as' H' z, Le as H as' H' → Rel K cl as' H' st' → Sh K cl as' H' z d → Q z H'
def Ok2 (r : R2) (o : O2) : Prop := ∀ as H st x y v w d st' Q, Rel K cl as H st → o x y st = some (d, st') → Sh K cl as H v x → Sh K cl as H w y → Aft K cl as H d st' Q → r v w H Q
def Okn (r : List V → Hp → VK → Prop) (o : On) : Prop := ∀ as H st xs vs d st' Q, Rel K cl as H st → o xs st = some (d, st') → ShL K cl as H vs xs → Aft K cl as H d st' Q → r vs H Q
def Okm (r : V → List V → Hp → VK → Prop) (o : Om) : Prop := ∀ as H st x xs v vs d st' Q, Rel K cl as H st → o x xs st = some (d, st') → Sh K cl as H v x → ShL K cl as H vs xs → Aft K cl as H d st' Q → r v vs H Q
end
section
variable {X : Cx} {cl : ClW} {W : WX}
/-- nothing made, nothing changed -/
theorem Aft.pure {K : PySem.W.Frag} {as : As} {H : Hp} {st : Store} {d : D} {Q : VK} {z : V} (h : Aft K cl as H d st Q) (r : Rel K cl as H st) (s : Sh K cl as H z d) : Q z H := h as H z Le.refl r s
theorem ofO_aft {K : PySem.W.Frag} {sg : L2.St} {as : As} {H : Hp} {Q : VK} {o : Option (D × Store)} (h : Wt K cl W sg as H Q (ofO o)) : ∃ d st, o = some (d, st) ∧ Aft K cl as H d st Q := by
  cases o with
  | none => exact h.elim
  | some p => exact ⟨p.1, p.2, rfl, h⟩
variable {a b c : Expr} {f g h : Ex} {pos : Pos}
theorem imp_bin {r : R2} {o : O2} (hr : Ok2 X.K cl r o) : ∀ sg H Q, tF X.K cl W (eBin o f g) sg H Q → tOp r (tF X.K cl W f) (tF X.K cl W g) sg H Q := fun sg H Q ⟨as, st, env, r0, er, q⟩ =>
  ⟨as, st, env, r0, er, Wt.bind q fun d s1 as1 H1 v _ l1 r1 x1 q1 => ⟨as1, s1, env, r1, er.up l1, Wt.bind q1 fun d2 s2 as2 H2 w _ l2 r2 x2 q2 =>
    let ⟨_, _, e, af⟩ := ofO_aft q2; hr as2 H2 s2 d d2 v w _ _ _ r2 e (x1.up l2) x2 af⟩⟩
theorem fe_bin {op : Operator} {r : R2} {o : O2} (ho : OpR X (binaryOp op) r) (hr : Ok2 X.K cl r o) (ha : FE X cl W a f) (hb : FE X cl W b g) : FE X cl W (.BinOp a op b pos) (eBin o f g) := PE.w (pe_op ho ha hb) (imp_bin hr)
theorem fe_cmp {op : CmpOp} {r : R2} {o : O2} (ho : OpR X (compareOp op) r) (hr : Ok2 X.K cl r o) (ha : FE X cl W a f) (hb : FE X cl W b g) (hm : behindInMarks op b = false) : FE X cl W (.Compare a [op] [b] pos) (eBin o f g) := PE.w (pe_cmpR ho ha hb hm) (imp_bin hr)
theorem fe_ix {r : R2} {o : O2} (ho : IxR X r) (hr : Ok2 X.K cl r o) (ha : FE X cl W a f) (hb : FE X cl W b g) (hs : PlainIx b) : FE X cl W (.Subscript a b pos) (eBin o f g) := PE.w (pe_ix ho ha hb hs) (imp_bin hr)
theorem tft_tf {sg : L2.St} {H : Hp} {Q : Bool → Hp → Prop} (q : tFt X.K cl W f sg H Q) : tF X.K cl W f sg H fun v H' => ∃ c, v = .bl c ∧ Q c H' :=
  let ⟨as, st, env, r0, er, q⟩ := q; ⟨as, st, env, r0, er, Wtt.wt q⟩
/-- a comparison as a test -/
theorem ft_cmp {op : CmpOp} {r : R2} {o : O2} (ho : OpR X (compareOp op) r) (hr : Ok2 X.K cl r o) (ha : FE X cl W a f) (hb : FE X cl W b g) (hm : behindInMarks op b = false) : FT X cl W (.Compare a [op] [b] pos) (eBin o f g) :=
  PT.w (pt_cmpR ho ha hb hm) fun sg H Q q => imp_bin hr sg H _ (tft_tf q)
theorem imp_chain {r r' : R2} {o o' : O2} (hr : Ok2 X.K cl r o) (hr' : Ok2 X.K cl r' o') : ∀ sg H Q, tF X.K cl W (eChain o o' f g h) sg H Q → tChain r r' (tF X.K cl W f) (tF X.K cl W g) (tF X.K cl W h) sg H Q := fun sg H Q ⟨as, st, env, r0, er, q⟩ =>
  ⟨as, st, env, r0, er, Wt.bind q fun d s1 as1 H1 v _ l1 r1 x1 q1 => ⟨as1, s1, env, r1, er.up l1, Wt.bind q1 fun d2 s2 as2 H2 w _ l2 r2 x2 q2 => by
    cases e : o d d2 s2 with
    | none => rw [e] at q2; exact q2.elim
    | some p =>
      obtain ⟨d3, s3⟩ := p
      rw [e] at q2
      refine hr as2 H2 s2 d d2 v w d3 s3 _ r2 e (x1.up l2) x2 fun as3 H3 z l3 r3 x3 => ?_
      have q3 : Wt X.K cl W sg as3 H3 Q (onB (fun s => (h env s).bind fun z s4 => ofO (o' d2 z s4)) (fun s => .ok (.bl false) s) d3 s3) := Wt.up l3 q2
      cases d3 with
      | bl k =>
        cases x3
        refine ⟨k, rfl, ?_⟩
        cases k with
        | false => exact q3 as3 H3 _ Le.refl r3 (.bl false)
        | true => exact ⟨as3, s3, env, r3, (er.up l1).up (l2.trans l3), Wt.bind q3 fun d4 s4 as4 H4 w4 _ l4 r4 x4 q4 => let ⟨_, _, e, af⟩ := ofO_aft q4; hr' as4 H4 s4 d2 d4 w w4 _ _ _ r4 e (x2.up (l3.trans l4)) x4 af⟩
      | _ => exact q3.elim⟩⟩
theorem fe_chain {op op' : CmpOp} {r r' : R2} {o o' : O2} (ho : OpR X (compareOp op) r) (hr : Ok2 X.K cl r o) (ho' : OpR X (compareOp op') r') (hr' : Ok2 X.K cl r' o') (ha : FE X cl W a f) (hb : FE X cl W b g) (hc : FE X cl W c h)
    (hm : lastMarks [op, op'] [b, c] = false := by with_unfolding_all rfl) : FE X cl W (.Compare a [op, op'] [b, c] pos) (eChain o o' f g h) := PE.w (pe_chain ho ho' ha hb hc hm) (imp_chain hr hr')
/-- any expression that tells a truth -/
theorem ft_val {e : Expr} (h : FE X cl W e f) (he : ∀ whole, isTrue e X.env whole = (do let v ← whole; standAt e.pos; holding [v] (truthy v)) := by intro _; rfl) : FT X cl W e f := PT.w (pt_val h he) fun sg H Q q => tft_tf q

/-! ### plain expressions -/
theorem imp_c {d : D} {v : V} (hs : ∀ as H st, Rel X.K cl as H st → Sh X.K cl as H v d) : ∀ sg H Q, tF X.K cl W (eC d) sg H Q → tC v sg H Q := fun sg H Q ⟨as, st, env, r0, er, q⟩ => q as H v Le.refl r0 (hs _ _ _ r0)
theorem fe_int {i : Int} {j} : FE X cl W (.Constant (.int i) j pos) (eC (.int i)) := PE.w pe_int (imp_c fun _ _ _ _ => .int i)
theorem fe_bl {b : Bool} {j} : FE X cl W (.Constant (.bool b) j pos) (eC (.bl b)) := PE.w pe_bl (imp_c fun _ _ _ _ => .bl b)
theorem fe_non {j} : FE X cl W (.Constant .none j pos) (eC .non) := PE.w pe_non (imp_c fun _ _ _ _ => .non)
theorem fe_str {x : Str} {j} : FE X cl W (.Constant (.str x) j pos) (eC (.str x)) := PE.w pe_str (imp_c fun _ _ _ _ => .str x)
theorem fe_glob {x : Str} {d : D} {v : V} {u : Value} (hg : Gl X x) (hm : X.mg x = some u) (r : RelV v u) (hs : ∀ as H st, Rel X.K cl as H st → Sh X.K cl as H v d) (hd : (x == ("__debug__" : Str)) = false := by decide) : FE X cl W (.Name x pos) (eC d) := PE.w (pe_glob hg hm r hd) (imp_c hs)
theorem fe_var {x : Str} (i : Nat) (hN : X.N[i]? = some x := by rfl) (hv : Vis X.env.scope x := by first | exact Or.inl rfl | exact Or.inr (Or.inl rfl) | exact Or.inr (Or.inr rfl)) (hd : (x == ("__debug__" : Str)) = false := by decide)
    (hcd : (x == ("__classdict__" : Str)) = false := by decide) : FE X cl W (.Name x pos) (eVar i) := PE.w (pe_var hN hv hd hcd) fun sg H Q ⟨as, st, env, r0, er, q⟩ => by
  unfold eVar at q
  cases e : env[i]? with
  | none => rw [e] at q; exact q.elim
  | some o =>
    cases o with
    | none => rw [e] at q; exact q.elim
    | some d =>
      rw [e] at q
      obtain ⟨v, h1, h2⟩ := er.at_ i d e
      exact ⟨v, h1, q as H v Le.refl r0 h2⟩
theorem onB_not {k1 k2 : Store → Res D} : ∀ d s, (∀ b, d ≠ .bl b) → onB k1 k2 d s = .stuck := fun d s h => by
  cases d <;> first | rfl | (exact absurd rfl (h _))
theorem fe_ifExp (hc : FT X cl W c f) (ha : FE X cl W a g) (hb : FE X cl W b h) : FE X cl W (.IfExp c a b pos) (eIf f g h) := PE.w (pe_ifExp hc ha hb) fun sg H Q ⟨as, st, env, r0, er, q⟩ =>
  ⟨as, st, env, r0, er, Wt.bindB q onB_not fun b s1 as1 H1 _ l1 r1 q1 => by
    cases b with
    | true => exact ⟨as1, s1, env, r1, er.up l1, q1⟩
    | false => exact ⟨as1, s1, env, r1, er.up l1, q1⟩⟩
theorem fe_one {op : BoolOp} (ha : FE X cl W a f) : FE X cl W (.BoolOp op [a] pos) f := pe_one ha
theorem fe_and {rest : List Expr} (ha : FE X cl W a f) (hb : FE X cl W (.BoolOp .And (b :: rest) pos) g) : FE X cl W (.BoolOp .And (a :: b :: rest) pos) (eAnd f g) := PE.w (pe_and ha hb) fun sg H Q ⟨as, st, env, r0, er, q⟩ =>
  ⟨as, st, env, r0, er, Wt.bind q fun d s1 as1 H1 v _ l1 r1 x1 q1 => by
    cases d with
    | bl k =>
      cases x1
      refine ⟨k, rfl, ?_⟩
      cases k with
      | true => exact ⟨as1, s1, env, r1, er.up l1, q1⟩
      | false => exact q1 as1 H1 _ Le.refl r1 (.bl false)
    | _ => exact q1.elim⟩
theorem fe_not (ha : FE X cl W a f) : FE X cl W (.UnaryOp .Not a pos) (eNot f) := PE.w (pe_not ha) fun sg H Q ⟨as, st, env, r0, er, q⟩ =>
  ⟨as, st, env, r0, er, Wt.bind q fun d s1 as1 H1 v _ l1 r1 x1 q1 => by
    cases d with
    | bl k =>
      cases x1
      refine ⟨k, rfl, ?_⟩
      cases k with
      | false => exact q1 as1 H1 _ Le.refl r1 (.bl true)
      | true => exact q1 as1 H1 _ Le.refl r1 (.bl false)
    | _ => exact q1.elim⟩
/-! ### tests -/
theorem fw_or1 (ha : FT X cl W a f) : FW X cl W (.BoolOp .Or [a] pos) f := pw_or1 ha
theorem fw_or {rest : List Expr} (ha : FT X cl W a f) (hb : FW X cl W (.BoolOp .Or (b :: rest) pos) g) : FW X cl W (.BoolOp .Or (a :: b :: rest) pos) (eOr f g) := PW.w (pw_or ha hb) fun sg H Q ⟨as, st, env, r0, er, q⟩ =>
  ⟨as, st, env, r0, er, Wtt.bindB q onB_not fun b s1 as1 H1 _ l1 r1 q1 => by
    cases b with
    | true => exact q1 as1 H1 Le.refl r1
    | false => exact ⟨as1, s1, env, r1, er.up l1, q1⟩⟩
theorem ft_w {e : Expr} (h : FW X cl W e f) : FT X cl W e f := PW.pt h
theorem ft_not (ha : FT X cl W a f) : FT X cl W (.UnaryOp .Not a pos) (eNot f) := PT.w (pt_not ha) fun sg H Q ⟨as, st, env, r0, er, q⟩ =>
  ⟨as, st, env, r0, er, Wtt.bindB q onB_not fun b s1 as1 H1 _ l1 r1 q1 => by
    cases b with
    | true => exact q1 as1 H1 Le.refl r1
    | false => exact q1 as1 H1 Le.refl r1⟩
/-! ### displays -/
theorem line5 {n : Nat} (h : n ≤ 100000) : n ≤ sizeLine := Nat.le_trans h (by decide)
theorem fe_lst {n : Nat} {es : List Expr} {fa : Exs} (ha : FA X cl W n es fa) : FE X cl W (.List es pos) (eLst fa) := PE.w (pe_lst ha.pa) fun sg H Q ⟨as, st, env, r0, er, q⟩ =>
  ⟨as, st, env, r0, er, Wt.binds q fun ds s1 as1 H1 vs _ l1 r1 x1 q1 => by
    by_cases hl : ds.length ≤ 100000
    · simp only [if_pos hl] at q1
      refine ⟨by rw [x1.length]; exact line5 hl, fun p hp => ?_⟩
      have r2 := r1.new (o := .lst vs) hp
      exact q1 as1 _ _ (Le.new r1 hp) r2 (.lst (.inl ⟨r1.fresh hp, .inl upd_same⟩) (x1.up (Le.new r1 hp)))
    · simp only [if_neg hl] at q1
      exact q1.elim⟩
theorem fe_tup {n : Nat} {es : List Expr} {fa : Exs} {x1} (ha : FA X cl W n es fa) : FE X cl W (.Tuple es x1 pos) (eTup fa) := PE.w (pe_tup ha.pa) fun sg H Q ⟨as, st, env, r0, er, q⟩ =>
  ⟨as, st, env, r0, er, Wt.binds q fun ds s1 as1 H1 vs _ l1 r1 x1 q1 => by
    by_cases hl : ds.length ≤ 100000
    · simp only [if_pos hl] at q1
      refine ⟨by rw [x1.length]; exact line5 hl, fun p hp => ?_⟩
      have r2 := r1.new (o := .tup vs) hp
      exact q1 as1 _ _ (Le.new r1 hp) r2 (.tup (.inl ⟨r1.fresh hp, .inl upd_same⟩) (x1.up (Le.new r1 hp)))
    · simp only [if_neg hl] at q1
      exact q1.elim⟩
/-- a new cell is laid -/
theorem Rel.cell_new {K : PySem.W.Frag} {as : As} {H : Hp} {st : Store} {p : Addr} {o : HO} {c : Cell} (r : Rel K cl as H st) (hp : H p = none) (hc : ∀ as', Mv as H as' (upd H p o) → CellAt K cl as' (upd H p o) p c) :
    Le as H ⟨as.c ++ [p], as.r⟩ (upd H p o) ∧ Rel K cl ⟨as.c ++ [p], as.r⟩ (upd H p o) (st ++ [c]) := by
  have hn := r.fresh hp
  have hnc : p ∉ as.c := fun z => hn (.inl z)
  have l : Mv as H ⟨as.c ++ [p], as.r⟩ (upd H p o) := ⟨fun i a e => by
    show (as.c ++ [p])[i]? = some a
    rw [List.getElem?_append_left (List.getElem?_eq_some_iff.mp e).1]; exact e, fun a u n e => by
    have ne := ne_of_none e hp
    refine ⟨by rw [upd_ne ne]; exact e, fun m => ?_⟩
    rcases m with m | m
    · rcases List.mem_append.mp m with m | m
      · exact n (.inl m)
      · exact ne (List.mem_singleton.mp m)
    · exact n (.inr m), fun a od u e => by rw [upd_ne (ne_of_none e hp)]; exact e⟩
  refine ⟨⟨l, rfl, fun a m => upd_ne fun e => hn (.inr (e ▸ m))⟩, ?_, ?_, fun i a c' e1 e2 => ?_, fun a m => ⟨fun z => ?_, ?_⟩, fun a m => ?_⟩
  · show (as.c ++ [p]).length = _
    rw [List.length_append, List.length_append, r.len]; rfl
  · show (as.c ++ [p]).Nodup
    rw [List.nodup_append]
    exact ⟨r.nd, by simp, fun a ha b hb => by rw [List.mem_singleton.mp hb]; rintro rfl; exact hnc ha⟩
  · have e1 : (as.c ++ [p])[i]? = some a := e1
    by_cases hi : i < as.c.length
    · rw [List.getElem?_append_left hi] at e1
      rw [List.getElem?_append_left (by rw [← r.len]; exact hi)] at e2
      exact (r.cell i a c' e1 e2).mono l fun u eu => by rw [upd_ne (ne_of_none eu hp)]; exact eu
    · have hl : i = as.c.length := by
        have := (List.getElem?_eq_some_iff.mp e1).1
        rw [List.length_append] at this
        simp at this
        omega
      subst hl
      rw [List.getElem?_append_right (Nat.le_refl _)] at e1
      rw [r.len, List.getElem?_append_right (Nat.le_refl _)] at e2
      simp at e1 e2
      subst e1 e2
      exact hc _ l
  · rcases List.mem_append.mp z with z | z
    · exact (r.rs a m).1 z
    · exact hn (.inr (List.mem_singleton.mp z ▸ m))
  · obtain ⟨u, e⟩ := (r.rs a m).2
    exact ⟨u, by rw [upd_ne (ne_of_none e hp)]; exact e⟩
  · obtain ⟨u, e⟩ := (r.rs a m).2
    intro q z
    rw [upd_ne (ne_of_none e hp)] at z
    exact r.rx a m q z
theorem fe_cel {n : Nat} {es : List Expr} {fa : Exs} (ha : FA X cl W n es fa) : FE X cl W (.List es pos) (eCel fa) := PE.w (pe_lst ha.pa) fun sg H Q ⟨as, st, env, r0, er, q⟩ =>
  ⟨as, st, env, r0, er, Wt.binds q fun ds s1 as1 H1 vs _ l1 r1 x1 q1 => by
    by_cases hl : ds.length ≤ 100000
    · simp only [if_pos hl] at q1
      refine ⟨by rw [x1.length]; exact line5 hl, fun p hp => ?_⟩
      obtain ⟨l2, r2⟩ := r1.cell_new (c := .lst ds) hp fun as' l => .lst upd_same (x1.upM l)
      exact q1 _ _ _ l2 r2 (.ref (by rw [← r1.len]; simp))
    · simp only [if_neg hl] at q1
      exact q1.elim⟩
/-! ### built-ins -/
theorem imp_fn {r : List V → Hp → VK → Prop} {o : On} {n : Nat} {es : List Expr} {fa : Exs} (hr : Okn X.K cl r o) : ∀ sg H Q, tF X.K cl W (eFn o fa) sg H Q → tCB r (tFs X.K cl W fa) sg H Q := fun sg H Q ⟨as, st, env, r0, er, q⟩ =>
  ⟨as, st, env, r0, er, Wt.binds q fun d s1 as1 H1 v _ l1 r1 x1 q1 => let ⟨_, _, e, af⟩ := ofO_aft q1; hr as1 H1 s1 d v _ _ _ r1 e x1 af⟩
theorem fe_callB {id : String} {r : List V → Hp → VK → Prop} {o : On} {n : Nat} {x : Str} {e : Expr} {es : List Expr} {fa : Exs} {p : Pos} (hc : CallR X (.builtin id) r) (hr : Okn X.K cl r o) (hg : Gl X x) (hm : X.mg x = none) (hv : bootBuiltins x = some (.builtin id)) (ha : FA X cl W n (e :: es) fa)
    (hn : x ≠ "__name__" := by decide) (hdb : (x == ("__debug__" : Str)) = false := by decide) (he : starEach (e :: es) X.env = (false, eval e X.env) :: starEach es X.env := by rfl) (hpl : (backTo pos (starEach es X.env)).any (·.1) = false := by rfl) : FE X cl W (.Call (.Name x p) (e :: es) [] pos) (eFn o fa) :=
  PE.w (pe_callB hc hg hm hv ha.pa hn hdb he hpl) (imp_fn (n := n) (es := e :: es) hr)
theorem fe_callTy {T : String} {r : List V → Hp → VK → Prop} {o : On} {n : Nat} {x : Str} {e : Expr} {es : List Expr} {fa : Exs} {p : Pos} (hc : CallR X (.type T) r) (hr : Okn X.K cl r o) (hg : Gl X x) (hm : X.mg x = none) (hv : bootBuiltins x = some (.type T)) (ha : FA X cl W n (e :: es) fa)
    (hn : x ≠ "__name__" := by decide) (hdb : (x == ("__debug__" : Str)) = false := by decide) (he : starEach (e :: es) X.env = (false, eval e X.env) :: starEach es X.env := by rfl) (hpl : (backTo pos (starEach es X.env)).any (·.1) = false := by rfl) : FE X cl W (.Call (.Name x p) (e :: es) [] pos) (eFn o fa) :=
  PE.w (pe_callTy hc hg hm hv ha.pa hn hdb he hpl) (imp_fn (n := n) (es := e :: es) hr)
end
end F3

/-! F3, part d: statements, targets, loops, comprehensions. -/
namespace F3
open PySem PySem.Spec PyProof.Rows L2

section
variable {X : Cx} {cl : ClW} {W : WX} {a b c e : Expr} {f g h : Ex} {pos : Pos}
theorem fs_nil : FSs X cl W [] sNext := PSs.w pss_nil fun Dn sg H ⟨as, st, env, r0, er, q⟩ => q as H sg Le.refl r0 er
/-- the ends ahead of what follows -/
theorem wf_seq {K : PySem.W.Frag} {as : As} {H : Hp} {Dn : Ends} {r : Flow} {u : Sm} (h : Wf K cl W as H Dn (match r with
    | .nx e s => u e s
    | .rt d s => .rt d s
    | .bk e s => .bk e s
    | .ct e s => .ct e s
    | .ex c fs e s => .ex c fs e s
    | .stuck => .stuck)) : Wf K cl W as H { Dn with nx := tS K cl W u Dn } r := by
  cases r with
  | nx e s => exact fun as' H' sg' l r x => ⟨as', s, e, r, x, Wf.up l h⟩
  | _ => exact h
theorem fs_cons {st : Stmt} {rest : List Stmt} {u v : Sm} (h1 : FS X cl W st u) (h2 : FSs X cl W rest v) : FSs X cl W (st :: rest) (sSeq u v) := PSs.w (pss_cons h1 h2) fun Dn sg H ⟨as, s, env, r0, er, q⟩ =>
  ⟨as, s, env, r0, er, wf_seq q⟩
theorem fs_one {st : Stmt} {u : Sm} (h1 : FS X cl W st u) : FSs X cl W [st] u := pss_one h1
/-- an expression's end is a statement's -/
theorem Wf.ofR {K : PySem.W.Frag} {sg : L2.St} {as : As} {H : Hp} {Dn : Ends} {r : Res D} {env : Env} {k : D → Store → Flow} {Q : VK} (er : EnvR K cl as H sg env) (h : Wf K cl W as H Dn (ofR r env k))
    (hk : ∀ d s as1 H1 v, r = .ok d s → Le as H as1 H1 → Rel K cl as1 H1 s → EnvR K cl as1 H1 sg env → Sh K cl as1 H1 v d → Wf K cl W as1 H1 Dn (k d s) → Q v H1) : Wt K cl W sg as H Q r := by
  cases r with
  | ok d s => exact fun as1 H1 v l r1 x => hk d s as1 H1 v rfl l r1 (er.up l) x (Wf.up l h)
  | exn c fs s => exact fun as' H' cls d l r1 x => h as' H' sg cls d l r1 (er.up l) x
  | stuck => exact h
theorem fs_expr (he : FE X cl W e f) (hs : swapsWith e none pos.line X.env = pure false := by rfl) : FS X cl W (.Expr e pos) (sExpr f) := PS.w (ps_expr he hs) fun Dn sg H ⟨as, st, env, r0, er, q⟩ =>
  ⟨as, st, env, r0, er, Wf.ofR er q fun d s as1 H1 v _ l r1 er1 x q1 => q1 as1 H1 sg Le.refl r1 er1⟩
theorem fs_ret (he : FE X cl W e f) : FS X cl W (.Return (some e) pos) (sRet f) := PS.w (ps_ret he) fun Dn sg H ⟨as, st, env, r0, er, q⟩ =>
  ⟨as, st, env, r0, er, Wf.ofR er q fun d s as1 H1 v _ l r1 er1 x q1 => q1 as1 H1 v Le.refl r1 x⟩
/-- a slot is set -/
theorem EnvR.set {K : PySem.W.Frag} {as : As} {H : Hp} {sg : L2.St} {env : Env} {v : V} {d : D} (er : EnvR K cl as H sg env) (i : Nat) (x : Sh K cl as H v d) : EnvR K cl as H (sg.set i (some v)) (env.set i (some d)) :=
  ⟨by rw [List.length_set, List.length_set]; exact er.len, fun j d' e => by
    by_cases hj : i = j
    · subst hj
      by_cases hi : i < env.length
      · rw [List.getElem?_set_self hi] at e
        cases e
        exact ⟨v, by rw [List.getElem?_set_self (by rw [er.len]; exact hi)], x⟩
      · rw [List.getElem?_eq_none (by rw [List.length_set]; omega)] at e; cases e
    · rw [List.getElem?_set_ne hj] at e ⊢
      exact er.at_ j d' e⟩
theorem EnvR.unset {K : PySem.W.Frag} {as : As} {H : Hp} {sg : L2.St} {env : Env} (er : EnvR K cl as H sg env) (i : Nat) (o : Option V) : EnvR K cl as H (sg.set i o) (env.set i none) :=
  ⟨by rw [List.length_set, List.length_set]; exact er.len, fun j d' e => by
    by_cases hj : i = j
    · subst hj
      by_cases hi : i < env.length
      · rw [List.getElem?_set_self hi] at e; cases e
      · rw [List.getElem?_eq_none (by rw [List.length_set]; omega)] at e; cases e
    · rw [List.getElem?_set_ne hj] at e ⊢
      exact er.at_ j d' e⟩
theorem fs_set {i : Nat} {x : Str} {pos' : Pos} (hN : X.N.Nodup) (hi : X.N[i]? = some x) (hx : Loc X.env.scope x) (he : FE X cl W e f) (hs : swapsWith e (some (.Name x pos')) pos.line X.env = pure false := by rfl) (hf : X.fn x = true ∨ X.env.scope.names.lookup x = some .local := by first | exact .inl rfl | exact .inr rfl | assumption) :
    FS X cl W (.Assign [.Name x pos'] e pos) (sSet i f) := PS.w (ps_set hN hi hx he hs hf) fun Dn sg H ⟨as, st, env, r0, er, q⟩ =>
  ⟨as, st, env, r0, er, Wf.ofR er q fun d s as1 H1 v _ l r1 er1 x q1 => q1 as1 H1 _ Le.refl r1 (er1.set i x)⟩
theorem fs_if {u v : Sm} {tb eb : List Stmt} (hc : FT X cl W c f) (ha : FSs X cl W tb u) (hb : FSs X cl W eb v) : FS X cl W (.If c tb eb pos) (sIf f u v) := PS.w (ps_if hc ha hb) fun Dn sg H ⟨as, st, env, r0, er, q⟩ => by
  refine ⟨as, st, env, r0, er, ?_⟩
  unfold sIf at q
  cases e : f env st with
  | stuck => rw [e] at q; exact q.elim
  | exn c fs s => rw [e] at q; exact fun as' H' cls d l r1 x => q as' H' sg cls d l r1 (er.up l) x
  | ok d s =>
    rw [e] at q
    cases d with
    | bl k =>
      intro as1 H1 l1 r1
      cases k with
      | true => exact ⟨as1, s, env, r1, er.up l1, Wf.up l1 q⟩
      | false => exact ⟨as1, s, env, r1, er.up l1, Wf.up l1 q⟩
    | _ => exact q.elim

/-! ### targets -/
def tG (K : PySem.W.Frag) (cl : ClW) (g : Tgt) : TG := fun v sg H Q => ∃ (as : As) (st : Store) (env : Env) (d : D), Rel K cl as H st ∧ EnvR K cl as H sg env ∧ Sh K cl as H v d ∧ match g d env st with
  | some p => ∀ as' H' sg', Le as H as' H' → Rel K cl as' H' p.2 → EnvR K cl as' H' sg' p.1 → Q sg' H'
  | none => False
abbrev FG (X : Cx) (cl : ClW) (t : Expr) (g : Tgt) : Prop := PG X t (tG X.K cl g)
theorem PG.w {t : Expr} {u u' : TG} (h : PG X t u) (i : ∀ v sg H Q, u' v sg H Q → u v sg H Q) : PG X t u' := ⟨fun pins s sg H v w Q I r q => h.run pins s sg H v w Q I r (i _ _ _ _ q)⟩
theorem fg_name {i : Nat} {x : Str} (hN : X.N.Nodup) (hi : X.N[i]? = some x) (hx : Loc X.env.scope x) (hf : X.fn x = true ∨ X.env.scope.names.lookup x = some .local := by first | exact .inl rfl | exact .inr rfl | assumption) : FG X cl (.Name x pos) (tNm i) :=
  PG.w (pg_name hN hi hx hf) fun v sg H Q ⟨as, st, env, d, r0, er, x, q⟩ => q as H _ Le.refl r0 (er.set i x)
theorem PGs.w {t : List Expr} {u u' : TGs} (h : PGs X t u) (i : ∀ v sg H Q, u' v sg H Q → u v sg H Q) : PGs X t u' := ⟨fun pins s sg H v w Q I r q => h.run pins s sg H v w Q I r (i _ _ _ _ q)⟩
theorem fs_asg {tg : Expr} {u : Tgt} (mk : ∀ {te : TE} {g : TG}, PE X e te → PG X tg g → PS X (.Assign [tg] e pos) (tAsg te g)) (he : FE X cl W e f) (hg : FG X cl tg u) : FS X cl W (.Assign [tg] e pos) (sAsg f u) := PS.w (mk he hg) fun Dn sg H ⟨as, st, env, r0, er, q⟩ =>
  ⟨as, st, env, r0, er, Wf.ofR er q fun d s as1 H1 v _ l r1 er1 x q1 => ⟨as1, s, env, d, r1, er1, x, by
    cases e : u d env s with
    | none => rw [e] at q1; exact q1.elim
    | some p => rw [e] at q1; exact q1⟩⟩

/-! ### while -/
/-! ### what is walked -/
/-- J yields the items ds, as long as what stands there stands -/
def ItOk (K : PySem.W.Frag) (cl : ClW) (J : It) (as : As) (H : Hp) (r : Wlk) (ds : List D) : Prop :=
  ∀ (as2 : As) (H2 : Hp) (st2 : Store) (i : Nat), Mv as H as2 H2 → Rel K cl as2 H2 st2 → Gd r st2 → (∀ d, ds[i]? = some d → J.go i H2 ∧ ∀ x H3, J.yld i H2 x H3 → Le as2 H2 as2 H3 ∧ Rel K cl as2 H3 st2 ∧ Sh K cl as2 H3 x d) ∧ (ds.length ≤ i → J.stop i H2)
def tI (K : PySem.W.Frag) (cl : ClW) (W : WX) (f : Its) : TI := fun sg H R => ∃ (as : As) (st : Store) (env : Env), Rel K cl as H st ∧ EnvR K cl as H sg env ∧ match f env st with
  | .ok r st' => ∀ as' H' J, Le as H as' H' → Rel K cl as' H' st' → ItOk K cl J as' H' r r.2 → R J H'
  | .exn c fs st' => ∀ as' H' cls d, Le as H as' H' → Rel K cl as' H' st' → ExcR K cl as' H' cls d c fs → W cls d sg H'
  | .stuck => False
abbrev FI (X : Cx) (cl : ClW) (W : WX) (tg iter : Expr) (f : Its) : Prop := PI X tg iter (tI X.K cl W f)
theorem PI.w {tg iter : Expr} {u u' : TI} (h : PI X tg iter u) (i : ∀ sg H R, u' sg H R → u sg H R) : PI X tg iter u' := ⟨fun pins s sg H R I q => h.run pins s sg H R I (i _ _ _ q)⟩
theorem fs_for {tg iter : Expr} {body : List Stmt} {it : Its} {u : Tgt} {v : Sm} (hp : PassesOwn (model X.prog X.w) X.A X.env X.xe) (hc : X.calm = true) (hi : FI X cl W tg iter it) (hg : FG X cl tg u) (hb : FSs X cl W body v)
    (mk : ∀ {wi : TI} {g : TG} {tb : TS}, PI X tg iter wi → PG X tg g → PSs X body tb → PS X (.For tg iter body [] pos) (tFor wi g tb)) : FS X cl W (.For tg iter body [] pos) (sFor it u v) := PS.w (mk hi hg hb) fun Dn sg H ⟨as, st, env, r0, er, q⟩ => by
  refine ⟨as, st, env, r0, er, ?_⟩
  unfold sFor at q
  cases e : it env st with
  | stuck => rw [e] at q; exact q.elim
  | exn c fs s => rw [e] at q; exact fun as' H' cls d l r x => q as' H' sg cls d l r (er.up l) x
  | ok sr s =>
    rw [e] at q
    obtain ⟨gd, ds⟩ := sr
    dsimp only at q
    intro as1 H1 J l1 r1 J1
    dsimp only at J1
    refine ⟨fun i m sg H => m + i = ds.length ∧ ∃ (as : As) (st : Store) (env : Env), Le as1 H1 as H ∧ Rel X.K cl as H st ∧ EnvR X.K cl as H sg env ∧ Wf X.K cl W as H Dn (forG (gd, ds) u v (ds.drop i) env st), ⟨ds.length, rfl, as1, s, env, Le.refl, r1, er.up l1, Wf.up l1 q⟩, ?_⟩
    rintro i m sg2 H2 ⟨hm, as2, st2, env2, l2, r2, er2, q2⟩
    cases m with
    | zero =>
      rw [List.drop_eq_nil_of_le (by omega)] at q2
      unfold forG at q2
      by_cases hg : Gd (gd, ds) st2
      · rw [if_pos hg] at q2
        exact .inl ⟨(J1 as2 H2 st2 i l2.toMv r2 hg).2 (by omega), q2 as2 H2 sg2 Le.refl r2 er2⟩
      · rw [if_neg hg] at q2
        exact q2.elim
    | succ m =>
      have hi : i < ds.length := by omega
      have hg : Gd (gd, ds) st2 := by
        by_cases hg : Gd (gd, ds) st2
        · exact hg
        · rw [List.drop_eq_getElem_cons hi] at q2
          unfold forG at q2
          rw [if_neg hg] at q2
          exact q2.elim
      obtain ⟨go, stp⟩ := J1 as2 H2 st2 i l2.toMv r2 hg
      obtain ⟨g1, g2⟩ := go ds[i] (List.getElem?_eq_getElem hi)
      refine .inr ⟨g1, fun sg H => m + (i + 1) = ds.length ∧ ∃ (as : As) (st : Store) (env : Env), Le as1 H1 as H ∧ Rel X.K cl as H st ∧ EnvR X.K cl as H sg env ∧ Wf X.K cl W as H Dn (forG (gd, ds) u v (ds.drop (i + 1)) env st), fun sg' H' z => ⟨m, Nat.lt_succ_self m, z⟩, fun x H3 hy => ?_⟩
      obtain ⟨l3, r3, x3⟩ := g2 x H3 hy
      have q3 := Wf.up l3 q2
      rw [List.drop_eq_getElem_cons hi] at q3
      unfold forG at q3
      rw [if_pos hg] at q3
      refine ⟨as2, st2, env2, ds[i], r3, er2.up l3, x3, ?_⟩
      cases e3 : u ds[i] env2 st2 with
      | none => rw [e3] at q3; exact q3.elim
      | some p =>
        rw [e3] at q3
        intro as4 H4 sg4 l4 r4 er4
        refine ⟨as4, p.2, p.1, r4, er4, ?_⟩
        have q4 := Wf.up l4 q3
        have l14 : Le as1 H1 as4 H4 := (l2.trans l3).trans l4
        dsimp only at q4
        cases e5 : v p.1 p.2 with
        | nx e s2 => rw [e5] at q4; exact fun as' H' sg' l r x => ⟨by omega, as', s2, e, l14.trans l, r, x, Wf.up l q4⟩
        | ct e s2 => rw [e5] at q4; exact fun as' H' sg' l r x => ⟨by omega, as', s2, e, l14.trans l, r, x, Wf.up l q4⟩
        | bk e s2 => rw [e5] at q4; exact q4
        | rt d s2 => rw [e5] at q4; exact q4
        | ex c fs e s2 => rw [e5] at q4; exact q4
        | stuck => rw [e5] at q4; exact q4
/-- a list that stays -/
theorem itl_ok {K : PySem.W.Frag} {as : As} {H : Hp} {p : Addr} {xs : List V} {ds : List D} {r : Wlk} (h : FzL K as H p xs) (x : ShL K cl as H xs ds) : ItOk K cl (Itl K p) as H r ds := by
  intro as2 H2 st2 i l r _
  have h2 := (l.fzL h).sq
  have x2 := x.upM l
  refine ⟨fun d hd => ?_, fun hi => ⟨xs, h2, by rw [x2.length]; exact hi⟩⟩
  obtain ⟨v, e1, e2⟩ := x2.get hd
  refine ⟨⟨xs, v, h2, e1⟩, fun y H3 ⟨e, z⟩ => ?_⟩
  subst e
  have := z xs h2
  rw [e1] at this
  cases this
  exact ⟨Le.refl, r, e2⟩
/-- a cell, as long as it stands so -/
theorem itl_cell {K : PySem.W.Frag} {as : As} {H : Hp} {p : Addr} {ds : List D} {k : Nat} (h : as.c[k]? = some p) : ItOk K cl (Itl K p) as H (some k, ds) ds := by
  intro as2 H2 st2 i l r g
  cases r.cell k p (.lst ds) (l.pre k p h) g with
  | @lst xs ds h0 x2 =>
    have h2 : SqL K H2 p xs := .inl (.inl h0)
    refine ⟨fun d hd => ?_, fun hi => ⟨xs, h2, by rw [x2.length]; exact hi⟩⟩
    obtain ⟨v, e1, e2⟩ := x2.get hd
    refine ⟨⟨xs, v, h2, e1⟩, fun y H3 ⟨e, z⟩ => ?_⟩
    subst e
    have := z xs h2
    rw [e1] at this
    cases this
    exact ⟨Le.refl, r, e2⟩
theorem itr_ok {K : PySem.W.Frag} {as : As} {H : Hp} {lo : Int} {n : Nat} {r : Wlk} : ItOk K cl (Itr lo n) as H r (intsD lo n) := by
  intro as2 H2 st2 i l r _
  refine ⟨fun d hd => ?_, fun hi => by simp only [intsD, List.length_map, List.length_range] at hi; exact hi⟩
  have hi : i < n := by
    have := (List.getElem?_eq_some_iff.mp hd).1
    simpa [intsD] using this
  simp only [intsD] at hd
  rw [List.getElem?_map, List.getElem?_range hi] at hd
  cases hd
  refine ⟨hi, fun y H3 ⟨e, z⟩ => ?_⟩
  subst e
  subst z
  exact ⟨Le.refl, r, .int _⟩
theorem fi_lst {tg l : Expr} (hl : FE X cl W l f) : FI X cl W tg l (iLst f) := PI.w (pi_list hl) fun sg H R ⟨as, st, env, r0, er, q⟩ => by
  refine ⟨as, st, env, r0, er, ?_⟩
  unfold iLst at q
  cases e : f env st with
  | stuck => rw [e] at q; exact q.elim
  | exn c fs s => rw [e] at q; exact q
  | ok d s =>
    rw [e] at q
    intro as1 H1 v l1 r1 x
    cases x with
    | lst h1 x1 => exact ⟨_, rfl, ⟨_, h1.sq⟩, q as1 H1 _ l1 r1 (itl_ok h1 x1)⟩
    | @ref k a h1 =>
      simp only [Res.bind, lstI] at q
      cases ec : s[k]? with
      | none => rw [ec] at q; exact q.elim
      | some c =>
        rw [ec] at q
        cases c with
        | lst ds =>
          have hc := r1.cell k a (.lst ds) h1 ec
          cases hc with
          | lst h0 x0 => exact ⟨_, rfl, ⟨_, .inl (.inl h0)⟩, q as1 H1 _ l1 r1 (itl_cell h1)⟩
        | _ => exact q.elim
    | _ => exact q.elim
theorem fi_range1 {tg a : Expr} {fa : Exs} {p : Pos} (hg : Gl X "range") (hm : X.mg "range" = none) (ha : FA X cl W 1 [a] fa) (hs : starEach [a] X.env = [(false, eval a X.env)] := by rfl) : FI X cl W tg (.Call (.Name "range" p) [a] [] pos) (iRange1 fa) := PI.w (pi_range1 hg hm ha.pa hs) fun sg H R ⟨as, st, env, r0, er, q⟩ => by
  refine ⟨as, st, env, r0, er, ?_⟩
  unfold iRange1 at q
  cases e : fa env st with
  | stuck => rw [e] at q; exact q.elim
  | exn c fs s => rw [e] at q; exact q
  | ok ds s =>
    rw [e] at q
    intro as1 H1 vs l1 r1 x
    cases x with
    | nil => exact q.elim
    | cons x1 x2 =>
      cases x2 with
      | cons _ _ => cases x1 <;> exact q.elim
      | nil =>
        cases x1 with
        | int j =>
          simp only [Res.bind, rng1] at q
          by_cases hj : -(2 ^ 62) ≤ j ∧ j < 2 ^ 62
          · rw [if_pos hj] at q
            exact ⟨j, rfl, hj.1, hj.2, q as1 H1 _ l1 r1 itr_ok⟩
          · rw [if_neg hj] at q; exact q.elim
        | _ => exact q.elim
theorem fi_range2 {tg a b : Expr} {fa : Exs} {p : Pos} (hg : Gl X "range") (hm : X.mg "range" = none) (ha : FA X cl W 2 [a, b] fa) (hs : starEach [a, b] X.env = [(false, eval a X.env), (false, eval b X.env)] := by rfl) (hs2 : starEach [b] X.env = [(false, eval b X.env)] := by rfl) : FI X cl W tg (.Call (.Name "range" p) [a, b] [] pos) (iRange2 fa) := PI.w (pi_range2 hg hm ha.pa hs hs2) fun sg H R ⟨as, st, env, r0, er, q⟩ => by
  refine ⟨as, st, env, r0, er, ?_⟩
  unfold iRange2 at q
  cases e : fa env st with
  | stuck => rw [e] at q; exact q.elim
  | exn c fs s => rw [e] at q; exact q
  | ok ds s =>
    rw [e] at q
    intro as1 H1 vs l1 r1 x
    cases x with
    | nil => exact q.elim
    | cons x1 x2 =>
      cases x2 with
      | nil => cases x1 <;> exact q.elim
      | cons x2 x3 =>
        cases x3 with
        | cons _ _ => cases x1 <;> first | exact q.elim | (cases x2 <;> exact q.elim)
        | nil =>
          cases x1 with
          | int i =>
            cases x2 with
            | int j =>
              simp only [Res.bind, rng2] at q
              by_cases hj : -(2 ^ 62) ≤ i ∧ i < 2 ^ 62 ∧ -(2 ^ 62) ≤ j ∧ j < 2 ^ 62
              · rw [if_pos hj] at q
                exact ⟨i, j, rfl, hj, q as1 H1 _ l1 r1 itr_ok⟩
              · rw [if_neg hj] at q; exact q.elim
            | _ => exact q.elim
          | _ => exact q.elim
end
end F3

/-! F3, part e: comprehensions; methods of built-in types; slices; the operators on data. -/
namespace F3
open PySem PySem.Spec PyProof.Rows L2

section
variable {X : Cx} {cl : ClW} {W : WX} {a b c e : Expr} {f g h : Ex} {pos : Pos}
abbrev W0 : WX := fun _ _ _ _ => False
/-- the list that is being filled is changed -/
theorem Mv.aside {as : As} {H : Hp} {p : Addr} {o : HO} (hn : NF H p) (hp : p ∈ as.r) : Mv as H as (upd H p o) :=
  ⟨fun _ _ h => h, fun a u n e => ⟨by rw [upd_ne (fun z : a = p => n (.inr (by rw [z]; exact hp)))]; exact e, n⟩, fun a od u e => by rw [upd_ne (hn.ne e)]; exact e⟩
theorem Rel.aside {K : PySem.W.Frag} {as : As} {H : Hp} {st : Store} {p : Addr} {o : HO} (r : Rel K cl as H st) (hn : NF H p) (hp : p ∈ as.r) (hx : ∀ q, o ≠ .ext q := by intro _ z; cases z) : Rel K cl as (upd H p o) st := by
  obtain ⟨hc, u, hu⟩ := r.rs p hp
  refine ⟨r.len, r.nd, fun i a c e1 e2 => ?_, fun a m => ⟨(r.rs a m).1, ?_⟩, fun a m q y => ?_⟩
  · have ha : a ≠ p := fun z => hc (z ▸ List.mem_of_getElem? e1)
    exact (r.cell i a c e1 e2).mono (Mv.aside hn hp) fun o' eo => by rw [upd_ne ha]; exact eo
  · by_cases z : a = p
    · rw [z]; exact ⟨_, upd_same⟩
    · obtain ⟨v, ev⟩ := (r.rs a m).2
      exact ⟨v, by rw [upd_ne z]; exact ev⟩
  · by_cases z : a = p
    · rw [z, upd_same] at y
      exact hx q (Option.some.inj y)
    · rw [upd_ne z] at y
      exact r.rx a m q y
/-- a place is put aside -/
theorem Mv.put {as : As} {H : Hp} {p : Addr} {o : HO} (hp : H p = none) : Mv as H ⟨as.c, p :: as.r⟩ (upd H p o) :=
  ⟨fun _ _ h => h, fun a u n e => by
    have ne := ne_of_none e hp
    refine ⟨by rw [upd_ne ne]; exact e, fun m => ?_⟩
    rcases m with m | m
    · exact n (.inl m)
    · rcases List.mem_cons.mp m with m | m
      · exact ne m
      · exact n (.inr m), fun a od u e => by rw [upd_ne (ne_of_none e hp)]; exact e⟩
theorem Rel.put {K : PySem.W.Frag} {as : As} {H : Hp} {st : Store} {p : Addr} {o : HO} (r : Rel K cl as H st) (hp : H p = none) (hx : ∀ q, o ≠ .ext q := by intro _ z; cases z) : Rel K cl ⟨as.c, p :: as.r⟩ (upd H p o) st := by
  refine ⟨r.len, r.nd, fun i a c e1 e2 => ?_, fun a m => ?_, fun a m q y => ?_⟩
  · exact (r.cell i a c e1 e2).mono (Mv.put hp) fun o' eo => by rw [upd_ne (ne_of_none eo hp)]; exact eo
  · rcases List.mem_cons.mp m with m | m
    · rw [m]; exact ⟨fun z => r.fresh hp (.inl z), _, upd_same⟩
    · obtain ⟨u, eu⟩ := (r.rs a m).2
      exact ⟨(r.rs a m).1, u, by rw [upd_ne (ne_of_none eu hp)]; exact eu⟩
  · rcases List.mem_cons.mp m with m | m
    · rw [m, upd_same] at y
      exact hx q (Option.some.inj y)
    · obtain ⟨u, eu⟩ := (r.rs a m).2
      rw [upd_ne (ne_of_none eu hp)] at y
      exact r.rx a m q y
/-- it is an object like others again -/
theorem Mv.back {c r1 : List Addr} {p : Addr} {H : Hp} : Mv ⟨c, p :: r1⟩ H ⟨c, r1⟩ H :=
  ⟨fun _ _ h => h, fun a o n e => ⟨e, fun m => n (m.elim .inl fun m => .inr (List.mem_cons.mpr (.inr m)))⟩, fun _ _ _ h => h⟩
theorem Rel.back {K : PySem.W.Frag} {c r1 : List Addr} {p : Addr} {H : Hp} {st : Store} (r : Rel K cl ⟨c, p :: r1⟩ H st) : Rel K cl ⟨c, r1⟩ H st :=
  ⟨r.len, r.nd, fun i a c' e1 e2 => (r.cell i a c' e1 e2).mono Mv.back fun _ e => e, fun a m => r.rs a (List.mem_cons.mpr (.inr m)), fun a m => r.rx a (List.mem_cons.mpr (.inr m))⟩
/-- a target that stores in the names vs alone -/
def TgW (K : PySem.W.Frag) (cl : ClW) (g : TG) (u : Tgt) (vs : List Nat) : Prop := ∀ (v : V) (sg : L2.St) (H : Hp) (Q : L2.St → Hp → Prop) (as : As) (st : Store) (env : Env) (d : D), Rel K cl as H st → EnvR K cl as H sg env → Sh K cl as H v d →
  (match u d env st with
    | some p => ∀ sg', EnvR K cl as H sg' p.1 → p.2 = st → wipe sg' vs = wipe sg vs → Q sg' H
    | none => False) → g v sg H Q
theorem wipe_set {sg : L2.St} {i : Nat} {o : Option V} : ∀ {vs : List Nat}, i ∈ vs → wipe (sg.set i o) vs = wipe sg vs
  | v :: vs, h => by
    unfold wipe
    by_cases hv : i ∈ vs
    · rw [wipe_set hv]
    · have e : i = v := by
        rcases List.mem_cons.mp h with h | h
        · exact h
        · exact absurd h hv
      subst e
      have : ∀ (ws : List Nat), i ∉ ws → (wipe (sg.set i o) ws).set i none = (wipe sg ws).set i none := by
        intro ws
        induction ws with
        | nil => intro _; unfold wipe; rw [List.set_set]
        | cons w ws ih =>
          intro hw
          unfold wipe
          have h1 : w ≠ i := fun z => hw (z ▸ List.mem_cons_self)
          rw [List.set_comm _ _ h1, List.set_comm _ _ h1, ih fun z => hw (List.mem_cons_of_mem _ z)]
      exact this vs hv
theorem wipe_idem (sg : L2.St) (vs : List Nat) : wipe (wipe sg vs) vs = wipe sg vs := by
  have : ∀ (ws us : List Nat), (∀ w ∈ ws, w ∈ us) → wipe (wipe sg ws) us = wipe sg us := by
    intro ws
    induction ws with
    | nil => intro us _; rfl
    | cons w ws ih =>
      intro us hs
      show wipe ((wipe sg ws).set w none) us = _
      rw [wipe_set (hs w List.mem_cons_self)]
      exact ih us fun x hx => hs x (List.mem_cons_of_mem _ hx)
  exact this vs vs fun _ h => h
theorem EnvR.wipe {K : PySem.W.Frag} {as : As} {H : Hp} {sg : L2.St} {env : Env} (er : EnvR K cl as H sg env) : ∀ vs : List Nat, EnvR K cl as H (L2.wipe sg vs) (wipeE env vs)
  | [] => er
  | v :: vs => (EnvR.wipe er vs).unset v none
theorem tgw_name {K : PySem.W.Frag} {i : Nat} {vs : List Nat} (h : i ∈ vs) : TgW K cl (gName i) (tNm i) vs := fun v sg H Q as st env d r er x q => q _ (er.set i x) rfl (wipe_set h)
theorem bindS_ok {A : Type} {r : Res A} {k : A → Store → Res (List D)} (h : r.bindS k ≠ .stuck) : ∃ x s, r = .ok x s := by
  cases r with
  | ok x s => exact ⟨x, s, rfl⟩
  | exn c fs s => exact absurd rfl h
  | stuck => exact absurd rfl h
theorem lcL_gd {r : Wlk} {u : Tgt} {t e : Ex} {vs : List Nat} {env : Env} {ds acc : List D} {st : Store} (h : lcL r u t e vs env ds acc st ≠ .stuck) : Gd r st := by
  by_cases hg : Gd r st
  · exact hg
  · cases ds with
    | nil =>
      unfold lcL at h
      rw [if_neg hg] at h
      exact absurd rfl h
    | cons d ds =>
      unfold lcL at h
      rw [if_neg hg] at h
      exact absurd rfl h
theorem imp_lc {it : Its} {u : Tgt} {t e : Ex} {vs : List Nat} {gt : TG} (hg : TgW X.K cl gt u vs) : ∀ sg H Q, tF X.K cl W (eLc it u t e vs) sg H Q → tLc (tI X.K cl W it) gt (tFt X.K cl W0 t) (tF X.K cl W0 e) vs sg H Q := fun sg H Q ⟨as, st, env, r0, er, q⟩ => by
  refine ⟨as, st, env, r0, er, ?_⟩
  unfold eLc at q
  cases e0 : it env st with
  | stuck => rw [e0] at q; exact q.elim
  | exn c fs s => rw [e0] at q; exact q
  | ok sr s =>
    rw [e0] at q
    obtain ⟨gd, ds⟩ := sr
    simp only [Res.bind] at q
    intro as1 H1 J l1 r1 J1 Dl hD
    dsimp only at J1
    have ne : lcL (gd, ds) u t e vs env ds [] s ≠ .stuck := by intro z; rw [z] at q; exact q.elim
    have q := Wt.up l1 q
    have er1 := er.up l1
    generalize hL : lcL (gd, ds) u t e vs env ds [] s = L0 at ne q
    refine ⟨fun i m H => m + i = ds.length ∧ ∃ (as : As) (st : Store) (acc : List D) (xs : List V), as.r = Dl :: as1.r ∧ Mv as1 H1 as H ∧ (∀ a ∈ as1.r, H a = H1 a) ∧ Rel X.K cl as H st ∧ H Dl = some (.lst xs) ∧ ShL X.K cl as H xs acc ∧ L0 = lcL (gd, ds) u t e vs env (ds.drop i) acc st, ⟨ds.length, rfl, ?_⟩, ?_⟩
    · have hres : ∀ a ∈ as1.r, (upd H1 Dl (.lst [])) a = H1 a := fun a m => upd_ne fun z => by
        obtain ⟨o, eo⟩ := (r1.rs a m).2
        rw [z, hD] at eo; cases eo
      exact ⟨⟨as1.c, Dl :: as1.r⟩, s, [], [], rfl, Mv.put hD, hres, r1.put hD, upd_same, .nil, hL.symm⟩
    · rintro i m H2 ⟨hm, as2, s2, acc, xs, hr, mv, hk, r2, hd, hx, hq⟩
      have hgd : Gd (gd, ds) s2 := lcL_gd (by rw [← hq]; exact ne)
      obtain ⟨go, stp⟩ := J1 as2 H2 s2 i mv r2 hgd
      cases m with
      | zero =>
        refine .inl ⟨stp (by omega), ?_⟩
        rw [List.drop_eq_nil_of_le (by omega)] at hq
        unfold lcL at hq
        rw [if_pos hgd] at hq
        rw [hq] at q
        have e2 : as2 = ⟨as2.c, Dl :: as1.r⟩ := by rw [← hr]
        rw [e2] at r2 hx mv
        have mv2 : Mv as1 H1 ⟨as2.c, as1.r⟩ H2 := ⟨fun i a h => mv.pre i a h, fun a o n eo => ⟨(mv.keep a o n eo).1, fun z => (mv.keep a o n eo).2 (z.elim .inl fun z => .inr (List.mem_cons.mpr (.inr z)))⟩, mv.fz⟩
        refine q ⟨as2.c, as1.r⟩ H2 (.ref Dl) ⟨mv2, rfl, hk⟩ r2.back (.lst (.inl ⟨fun z => ?_, .inl hd⟩) (hx.upM Mv.back))
        rcases z with z | z
        · exact (r2.rs Dl (List.mem_cons.mpr (.inl rfl))).1 z
        · obtain ⟨o, eo⟩ := (r1.rs Dl z).2
          rw [hD] at eo; cases eo
      | succ m =>
        have hi : i < ds.length := by omega
        obtain ⟨g1, g2⟩ := go ds[i] (List.getElem?_eq_getElem hi)
        refine .inr ⟨g1, fun H => m + (i + 1) = ds.length ∧ ∃ (as : As) (st : Store) (acc : List D) (xs : List V), as.r = Dl :: as1.r ∧ Mv as1 H1 as H ∧ (∀ a ∈ as1.r, H a = H1 a) ∧ Rel X.K cl as H st ∧ H Dl = some (.lst xs) ∧ ShL X.K cl as H xs acc ∧ L0 = lcL (gd, ds) u t e vs env (ds.drop (i + 1)) acc st, fun H' z => ⟨m, Nat.lt_succ_self m, z⟩, fun x H3 hy => ?_⟩
        obtain ⟨l3, r3, x3⟩ := g2 x H3 hy
        have mD : Dl ∈ as2.r := by rw [hr]; exact List.mem_cons.mpr (.inl rfl)
        have hst := hq
        rw [List.drop_eq_getElem_cons hi] at hq
        rw [hq] at ne
        unfold lcL at hq ne
        rw [if_pos hgd] at hq ne
        refine hg x _ H3 _ as2 s2 (wipeE env vs) ds[i] r3 (((er1.upM mv).up l3).wipe vs) x3 ?_
        cases e3 : u ds[i] (wipeE env vs) s2 with
        | none => rw [e3] at ne; exact absurd rfl ne
        | some p =>
          rw [e3] at hq ne
          dsimp only at hq ne ⊢
          intro sg' er' ep ew
          refine ⟨by rw [ew, wipe_idem], as2, p.2, p.1, by rw [ep]; exact r3, er', ?_⟩
          obtain ⟨b, s4, e4⟩ := bindS_ok ne
          rw [e4] at hq ne ⊢
          simp only [Res.bindS] at hq ne
          cases b with
          | bl k =>
            intro as4 H4 l4 r4
            have mD4 : Dl ∈ as4.r := by rw [l4.res]; exact mD
            have hd4 : H4 Dl = some (.lst xs) := by rw [l4.resk Dl (by exact mD), l3.resk Dl mD]; exact hd
            have mv4 : Mv as1 H1 as4 H4 := (mv.trans l3.toMv).trans l4.toMv
            have hr4 : as4.r = Dl :: as1.r := by rw [l4.res]; exact hr
            have hk4 : ∀ a ∈ as1.r, H4 a = H1 a := fun a z => by
              have z2 : a ∈ as2.r := by rw [hr]; exact List.mem_cons.mpr (.inr z)
              rw [l4.resk a z2, l3.resk a z2]; exact hk a z
            cases k with
            | false =>
              rw [if_neg Bool.false_ne_true]
              exact ⟨by omega, as4, s4, acc, xs, hr4, mv4, hk4, r4, hd4, (hx.up l3).up l4, hq⟩
            | true =>
              rw [if_pos rfl]
              dsimp only at hq ne
              refine ⟨as4, s4, p.1, r4, er'.up l4, ?_⟩
              obtain ⟨y, s5, e5⟩ := bindS_ok ne
              rw [e5] at hq ne ⊢
              simp only [Res.bindS] at hq ne
              by_cases hl : acc.length < 100000
              · rw [if_pos hl] at hq
                intro as5 H5 v l5 r5 x5
                have mD5 : Dl ∈ as5.r := by rw [l5.res]; exact mD4
                have hd5 : H5 Dl = some (.lst xs) := by rw [l5.resk Dl mD4]; exact hd4
                refine ⟨xs, hd5, by rw [hx.length]; exact Nat.lt_of_lt_of_le hl (by decide), by omega, as5, s5, acc ++ [y], xs ++ [v], by rw [l5.res]; exact hr4, (mv4.trans l5.toMv).trans (Mv.aside (.of hd5 fun _ _ z => by cases z) mD5), fun a z => ?_, r5.aside (.of hd5 fun _ _ z => by cases z) mD5, upd_same, ?_, hq⟩
                · have z4 : a ∈ as4.r := by rw [hr4]; exact List.mem_cons.mpr (.inr z)
                  have hne : a ≠ Dl := fun w => by
                    obtain ⟨o, eo⟩ := (r1.rs a z).2
                    rw [w, hD] at eo; cases eo
                  rw [upd_ne hne, l5.resk a z4]; exact hk4 a z
                · exact ShL.append ((((hx.up l3).up l4).up l5).upM (Mv.aside (.of hd5 fun _ _ z => by cases z) mD5)) (.cons (x5.upM (Mv.aside (.of hd5 fun _ _ z => by cases z) mD5)) .nil)
              · rw [if_neg hl] at ne; exact absurd rfl ne
          | _ => exact absurd rfl ne
/-- [elt for target in iter if ..] -/
theorem fe_lc {elt tg iter : Expr} {ifs : List Expr} {scope : Scope} {own : List (Str × Nat)} {it : Its} {u : Tgt} {t e : Ex} {gt : TG} (hc : X.calm = true) (hN : X.N.Nodup) (hi : FI X cl W tg iter it) (ok : BlkOk X.N X.env.scope scope own) (hw : TgW X.K cl gt u (own.map (·.2)))
    (hg : ∀ (s : Shared) (H : Hp) (C : Addr) (cs : List (Str × Addr)) (fp : List Addr), PG (X.blk s H scope (compEnvC scope cs C X.env) fp) tg gt) (ht : ∀ (s : Shared) (H : Hp) (C : Addr) (cs : List (Str × Addr)) (fp : List Addr), PTs (X.blk s H scope (compEnvC scope cs C X.env) fp) ifs (tFt X.K cl W0 t))
    (he : ∀ (s : Shared) (H : Hp) (C : Addr) (cs : List (Str × Addr)) (fp : List Addr), FE (X.blk s H scope (compEnvC scope cs C X.env) fp) cl W0 elt e) (hs : ∀ x, foldedSetIterable iter X.env x = pure x := by intro _; rfl) :
    FE X cl W (.ListComp elt [⟨tg, iter, ifs, 0⟩] scope pos) (eLc it u t e (own.map (·.2))) := PE.w (pe_lc hc hN hi ok hg ht he hs) (imp_lc hw)
theorem fts_nil : PTs X [] (tFt X.K cl W eYes) := ⟨fun pins s sg H Q I ⟨as, st, env, r0, er, q⟩ => pts_nil.run pins s sg H Q I (q as H Le.refl r0)⟩
theorem fts_one {t : Ex} (h : FT X cl W c t) : PTs X [c] (tFt X.K cl W t) := pts_one h

end
end F3

/-! F3, part f: operators on data. -/
namespace F3
open PySem PySem.Spec PyProof.Rows L2

/-! ### a text beside a dict -/
section
open SeqAt MeetsSeq
open AutoSeq1 (wpAny_loadPart')
theorem str_eq_dict (b : Str) (u : Tok) (l : Addr) (c : Value) (es : Array DictEntry) (n : Nat) (dd : Option Addr) (sl : Array (Option Value)) :
    Meets (Builtin.«str.__eq__» ⟨[.str b u, .ref l], []⟩) (fun _ R s => s.heap.get? l = some { cls := c, dict := dd, data := .dict es n, slots := sl } ∧ R (.ok (.ret .notImplemented)) s) :=
  .of_wp fun prog w A R s h => by obtain ⟨hp, g, d, tk, os⟩ := s; obtain ⟨hl, h⟩ := h; wp_walk using wpAny_loadPart' hl, wpAny_load hl; exact ⟨_, rfl, h⟩
theorem str_ne_dict (b : Str) (u : Tok) (l : Addr) (c : Value) (es : Array DictEntry) (n : Nat) (dd : Option Addr) (sl : Array (Option Value)) :
    Meets (Builtin.«str.__ne__» ⟨[.str b u, .ref l], []⟩) (fun _ R s => s.heap.get? l = some { cls := c, dict := dd, data := .dict es n, slots := sl } ∧ R (.ok (.ret .notImplemented)) s) :=
  .of_wp fun prog w A R s h => by obtain ⟨hp, g, d, tk, os⟩ := s; obtain ⟨hl, h⟩ := h; wp_walk using wpAny_loadPart' hl, wpAny_load hl; exact ⟨_, rfl, h⟩
variable {prog : Program} {w : World} {A : Around} {E : Value → Shared → Prop} {s : Shared}
theorem dict_decl (eq : Bool) (B : Builtin) (hB : B = if eq then Builtin.«dict.__eq__» else Builtin.«dict.__ne__») {id : String} {a : Addr} {b : Str} {u : Tok} {Q : Value → Shared → Prop} {name : Str} (hs : Slot "dict" name id) (entry : entryFor table id = some B) (args : argsOk id ⟨[.ref a, .str b u], []⟩)
    (hT : s.TypeIs (.ref a) "dict") (h : Q .notImplemented s) : wpAny (model prog w) A (call (.builtin id) [.ref a, .str b u]) Q E s := by
  refine wpAny_call_entry hs hT entry ?_ args
  subst hB
  cases eq
  · show wpAny _ _ (Builtin.Dict.dictSlotArgs "__ne__" ⟨[.ref a, .str b u], []⟩ >>= _) _ _ s
    refine wpAny_bind ?_
    unfold Builtin.Dict.dictSlotArgs
    refine wpAny_bind (wpAny_notOrdered_dict hT ?_)
    show wpAny _ _ (pure (Value.ref a, Value.str b u)) _ _ s
    refine wpAny_pure ?_
    refine wpAny_bind (wpAny_isInstance (T := "str") (typeIs_str s b u) PySem.F.sub_str_dict ?_)
    simp only [Bool.not_false, if_true]
    exact wpAny_bind (wpAny_rule (wpAny_pure ⟨_, rfl, h⟩))
  · show wpAny _ _ (Builtin.Dict.dictSlotArgs "__eq__" ⟨[.ref a, .str b u], []⟩ >>= _) _ _ s
    refine wpAny_bind ?_
    unfold Builtin.Dict.dictSlotArgs
    refine wpAny_bind (wpAny_notOrdered_dict hT ?_)
    show wpAny _ _ (pure (Value.ref a, Value.str b u)) _ _ s
    refine wpAny_pure ?_
    refine wpAny_bind (wpAny_isInstance (T := "str") (typeIs_str s b u) PySem.F.sub_str_dict ?_)
    simp only [Bool.not_false, if_true]
    exact wpAny_bind (wpAny_rule (wpAny_pure ⟨_, rfl, h⟩))
end
section
open SeqAt
variable {X : Cx}
def rSd (k : Bool) : R2 := fun x y H Q => ∃ z a ks, x = .str z ∧ y = .ref a ∧ H a = some (.dK ks) ∧ Q (.bl k) H
theorem op_eqSd (hu : X.A.units < cLine) : OpR X (compareOp .Eq) (rSd false) := by
  intro pins s σ H x y v u Q I rx ry h
  obtain ⟨z, b, ks, rfl, rfl, eb, q⟩ := h
  obtain ⟨t, rfl⟩ : ∃ t, v = Value.str z t := rx
  obtain rfl : u = Value.ref b := ry
  obtain ⟨_, yb, vb, rb, db⟩ := (show ObjOk X.prog X.w H s.heap b (.dK ks) from I.hok b _ eb)
  have hT := db.typeIs
  obtain ⟨⟨cls, dd, data, sl⟩, es, ep, ho, hx, hd, -⟩ := id db
  simp only at hd
  subst hd
  show wpAny _ _ (richCompare .Eq _ _) _ _ s
  exact rc_eq_decline_or (k := false) (typeIs_str s z t) hT (by decide) PySem.F.sub_dict_str PySem.F.slot_str_eq PySem.F.slot_dict_eq_refl
    (fun _ hq => call_meets PySem.F.slot_str_eq (typeIs_str s z t) PySem.F.entry_str_eq (PySem.F.args_str_eq_2 _ _) (str_eq_dict z t b _ es ep dd sl) ⟨ho, hq⟩)
    (fun _ hq => dict_decl true _ rfl PySem.F.slot_dict_eq_refl PySem.F.entry_dict_eq (PySem.F.args_dict_eq_2 _ _) hT hq)
    (fun _ hq => wpAny_of_eq (rfl : isSame (.str z t) (.ref b) = pure false) hq) (.inr hu) (fin_bl I q rfl)
theorem op_neSd (hu : X.A.units < cLine) : OpR X (compareOp .NotEq) (rSd true) := by
  intro pins s σ H x y v u Q I rx ry h
  obtain ⟨z, b, ks, rfl, rfl, eb, q⟩ := h
  obtain ⟨t, rfl⟩ : ∃ t, v = Value.str z t := rx
  obtain rfl : u = Value.ref b := ry
  obtain ⟨_, yb, vb, rb, db⟩ := (show ObjOk X.prog X.w H s.heap b (.dK ks) from I.hok b _ eb)
  have hT := db.typeIs
  obtain ⟨⟨cls, dd, data, sl⟩, es, ep, ho, hx, hd, -⟩ := id db
  simp only at hd
  subst hd
  show wpAny _ _ (richCompare .NotEq _ _) _ _ s
  exact rc_ne_decline_or (k := false) (typeIs_str s z t) hT (by decide) PySem.F.sub_dict_str PySem.F.slot_str_ne PySem.F.slot_dict_ne_refl
    (fun _ hq => call_meets PySem.F.slot_str_ne (typeIs_str s z t) PySem.F.entry_str_ne (PySem.F.args_str_ne_2 _ _) (str_ne_dict z t b _ es ep dd sl) ⟨ho, hq⟩)
    (fun _ hq => dict_decl false _ rfl PySem.F.slot_dict_ne_refl PySem.F.entry_dict_ne (PySem.F.args_dict_ne_2 _ _) hT hq)
    (fun _ hq => wpAny_of_eq (rfl : isSame (.str z t) (.ref b) = pure false) hq) (.inr hu) (fin_bl I q rfl)
end

/-! ### on data -/
def listD (st : Store) : D → Option (List D)
  | .lst ds => some ds
  | .ref i => match st[i]? with
    | some (.lst ds) => some ds
    | _ => none
  | _ => none
def addD : O2 := fun x y st => match x, y with
  | .int i, .int j => some (.int (i + j), st)
  | .str a, .str b => if a.length + b.length ≤ 100000 then some (.str (a ++ b), st) else none
  | .tup xs, .tup ys => if xs.length + ys.length ≤ 100000 then some (.tup (xs ++ ys), st) else none
  | x, y => match listD st x, listD st y with
    | some xs, some ys => if xs.length + ys.length ≤ 100000 then some (.lst (xs ++ ys), st) else none
    | _, _ => none
def subD : O2 := fun x y st => match x, y with
  | .int i, .int j => some (.int (i - j), st)
  | _, _ => none
/-- small by any, or not too great together -/
def mulOk (i j : Int) : Prop := (-(2 ^ 64) < i ∧ i < 2 ^ 64) ∨ (-(2 ^ 64) < j ∧ j < 2 ^ 64) ∨ i.natAbs.log2 + j.natAbs.log2 < 1000000
instance (i j : Int) : Decidable (mulOk i j) := by unfold mulOk; infer_instance
def mulD : O2 := fun x y st => match x, y with
  | .int i, .int j => if mulOk i j then some (.int (i * j), st) else none
  | _, _ => none
def modD : O2 := fun x y st => match x, y with
  | .int i, .int j => if 0 < j then some (.int (i % j), st) else none
  | _, _ => none
def fdivD : O2 := fun x y st => match x, y with
  | .int i, .int j => if 0 < j ∧ j.natAbs.log2 < 9000 then some (.int (i / j), st) else none
  | _, _ => none
def powD : O2 := fun x y st => match x, y with
  | .int i, .int j => if 0 ≤ j ∧ j ≤ 1000000 ∧ i.natAbs < 2 ^ 64 then some (.int (i ^ j.toNat), st) else none
  | _, _ => none
def negD : O1 := fun x st => match x with
  | .int i => some (.int (-i), st)
  | _ => none
def ltD : O2 := fun x y st => match x, y with
  | .int i, .int j => some (.bl (decide (i < j)), st)
  | _, _ => none
def leD : O2 := fun x y st => match x, y with
  | .int i, .int j => some (.bl (decide (i ≤ j)), st)
  | _, _ => none
def gtD : O2 := fun x y st => match x, y with
  | .int i, .int j => some (.bl (decide (j < i)), st)
  | _, _ => none
def geD : O2 := fun x y st => match x, y with
  | .int i, .int j => some (.bl (decide (j ≤ i)), st)
  | _, _ => none
mutual
def pyD0 : D → Option PyData
  | .non => some .none
  | .bl b => some (.bool b)
  | .int i => some (.int i)
  | .str x => some (.str x)
  | .lst ds => (pyL0 ds).map .list
  | .tup ds => (pyL0 ds).map .tuple
  | _ => none
def pyL0 : List D → Option (List PyData)
  | [] => some []
  | d :: ds => (pyD0 d).bind fun p => (pyL0 ds).map (p :: ·)
end
mutual
/-- data as the library has it; a cell of plain data within -/
def pyD (st : Store) : D → Option PyData
  | .non => some .none
  | .bl b => some (.bool b)
  | .int i => some (.int i)
  | .str x => some (.str x)
  | .lst ds => (pyL st ds).map .list
  | .tup ds => (pyL st ds).map .tuple
  | .ref i => match st[i]? with
    | some (.lst ds) => (pyL0 ds).map .list
    | _ => none
  | _ => none
def pyL (st : Store) : List D → Option (List PyData)
  | [] => some []
  | d :: ds => (pyD st d).bind fun p => (pyL st ds).map (p :: ·)
end
/-- == of anything plain, at any depth -/
def eqB (x y : D) (st : Store) : Option Bool := match x, y with
  | .int i, .int j => some (decide (i = j))
  | .str a, .str b => some (decide (a = b))
  | .bl a, .bl b => some (decide (a = b))
  | .str _, .dct _ => some false
  | x, y => (pyD st x).bind fun p => (pyD st y).bind fun q => if SeqAt.shaped p = true ∧ SeqAt.shaped q = true then some (PyData.eqv p q) else none
def eqD : O2 := fun x y st => (eqB x y st).map fun b => (.bl b, st)
def neD : O2 := fun x y st => (eqB x y st).map fun b => (.bl (!b), st)
def isND : O2 := fun x y st => match y with
  | .non => some (.bl (match x with | .non => true | _ => false), st)
  | _ => none
/-- the place of an index, as Python counts -/
def ixAt {A : Type} (xs : List A) (i : Int) : Option A := if 0 ≤ i then xs[i.toNat]? else if -(xs.length : Int) ≤ i then xs[(i + xs.length).toNat]? else none
def ixD : O2 := fun x y st => match x, y with
  | .tup ds, .int i => (ixAt ds i).map fun d => (d, st)
  | .str z, .int i => if z.length ≤ 100000 then (ixAt z.cps.toList i).map fun c => (.str ⟨#[c]⟩, st) else none
  | x, .int i => (listD st x).bind fun ds => (ixAt ds i).map fun d => (d, st)
  | _, _ => none

section
variable {X : Cx} {cl : ClW} {W : WX} {K : PySem.W.Frag} {as : As} {H : Hp} {st : Store}
theorem listD_sq {x : D} {v : V} {ds : List D} (r : Rel K cl as H st) (h : listD st x = some ds) (s : Sh K cl as H v x) : ∃ p xs, v = .ref p ∧ SqL K H p xs ∧ ShL K cl as H xs ds := by
  cases s with
  | lst h1 r1 => cases h; exact ⟨_, _, rfl, h1.sq, r1⟩
  | @ref i a e =>
    simp only [listD] at h
    cases e2 : st[i]? with
    | none => rw [e2] at h; cases h
    | some c =>
      rw [e2] at h
      cases c with
      | lst es =>
        cases h
        have c := r.cell i a _ e e2
        cases c with
        | lst h1 h2 => exact ⟨a, _, rfl, .inl (.inl h1), h2⟩
      | _ => cases h
  | _ => cases h
/-- list + list, whatever is read as one -/
def rCatX (K : PySem.W.Frag) : R2 := fun x y H Q => ∃ l b xs zs, x = .ref l ∧ y = .ref b ∧ SqL K H l xs ∧ SqL K H b zs ∧ xs.length + zs.length ≤ sizeLine ∧ ∀ p, H p = none → Q (.ref p) (upd H p (.lst (xs ++ zs)))
theorem op_catX : OpR X (binaryOp .Add) (rCatX X.K) := by
  intro pins s sg H x y v u Q I rx ry ⟨l, b, xs, zs, ex, ey, hl, hb, hz, q⟩
  subst ex
  subst ey
  cases rx
  cases ry
  obtain ⟨i1, r1, ⟨o1, n1, e1, c1, d1, dat1⟩, z1⟩ := I.list hl
  obtain ⟨i2, r2, ⟨o2, n2, e2, c2, d2, dat2⟩, z2⟩ := I.list hb
  have l1 := r1.length
  have l2 := r2.length
  obtain ⟨cls1, dd1, data1, sl1⟩ := o1
  obtain ⟨cls2, dd2, data2, sl2⟩ := o2
  simp only at c1 d1 dat1 c2 d2 dat2
  subst c1 d1 dat1 c2 d2 dat2
  have ea : i1.toArray ++ i2.toArray = (i1 ++ i2).toArray := by simp
  have fin : EP X pins sg Q (.ref s.heap.objs.size) { s with heap := s.heap.push { cls := .type "list", data := .seq (i1.toArray ++ i2.toArray) } } := by
    rw [ea]
    exact ⟨.ref _, _, I.laid (t' := s.toks) (o := .lst (xs ++ zs)) (fun b ob q => Heap.get?_push_of_some _ q) (Nat.le_refl _) ⟨by rw [List.length_append]; omega, _, 0, r1.append r2, Heap.get?_push_size _ rfl⟩, rfl, q _ (I.hok.fresh (Nat.le_refl _))⟩
  exact concat_meets ⟨_, e1, rfl⟩ ⟨_, e2, rfl⟩ noFill_list_add seq_list_add PySem.F.slot_list_add PySem.F.entry_list_add (PySem.F.args_list_add_2 _ _)
    (list_addW l b i1.toArray i2.toArray n1 n2 none none sl1 sl2 (by rw [List.size_toArray, List.size_toArray]; omega)) ⟨e1, e2, fin⟩
/-- a fresh list, a fresh tuple behind an operator -/
theorem Aft.lst {Q : VK} {vs : List V} {ds : List D} (r : Rel K cl as H st) (x : ShL K cl as H vs ds) (af : Aft K cl as H (.lst ds) st Q) (p : Addr) (hp : H p = none) : Q (.ref p) (upd H p (.lst vs)) :=
  af as _ _ (Le.new r hp) (r.new hp) (.lst (.inl ⟨r.fresh hp, .inl upd_same⟩) (x.up (Le.new r hp)))
theorem Aft.tup {Q : VK} {vs : List V} {ds : List D} (r : Rel K cl as H st) (x : ShL K cl as H vs ds) (af : Aft K cl as H (.tup ds) st Q) (p : Addr) (hp : H p = none) : Q (.ref p) (upd H p (.tup vs)) :=
  af as _ _ (Le.new r hp) (r.new hp) (.tup (.inl ⟨r.fresh hp, .inl upd_same⟩) (x.up (Le.new r hp)))
def rAddX (K : PySem.W.Frag) : R2 := fun x y H Q => (rI0 fun i j => .int (i + j)) x y H Q ∨ (∃ i j, x = .str i ∧ y = .str j ∧ i.length + j.length ≤ sizeLine ∧ Q (.str (i ++ j)) H) ∨ rCatA K x y H Q ∨ rCatX K x y H Q
theorem op_addX : OpR X (binaryOp .Add) (rAddX X.K) := op_add.or (op_add_str.or (op_catA.or op_catX))
theorem ok_add : Ok2 K cl (rAddX K) addD := by
  intro as H st x y v w d st' Q r e s1 s2 af
  have gen : ∀ (a b : D), Sh K cl as H v a → Sh K cl as H w b → (match listD st a, listD st b with
    | some xs, some ys => if xs.length + ys.length ≤ 100000 then some (D.lst (xs ++ ys), st) else none
    | _, _ => none) = some (d, st') → rAddX K v w H Q := by
    intro a b s1 s2 e
    cases e1 : listD st a with
    | none => rw [e1] at e; cases e
    | some xs =>
      cases e2 : listD st b with
      | none => rw [e1, e2] at e; cases e
      | some ys =>
        rw [e1, e2] at e
        dsimp only at e
        by_cases hl : xs.length + ys.length ≤ 100000
        · rw [if_pos hl] at e
          cases e
          obtain ⟨p, us, ev, h1, x1⟩ := listD_sq r e1 s1
          obtain ⟨q, ws, ew, h2, x2⟩ := listD_sq r e2 s2
          exact .inr (.inr (.inr ⟨p, q, us, ws, ev, ew, h1, h2, by rw [x1.length, x2.length]; exact line5 hl, Aft.lst r (x1.append x2) af⟩))
        · rw [if_neg hl] at e; cases e
  cases x with
  | int i =>
    cases y with
    | int j => cases s1; cases s2; cases e; exact .inl ⟨i, j, rfl, rfl, af.pure r (.int _)⟩
    | _ => exact gen _ _ s1 s2 e
  | str a =>
    cases y with
    | str b =>
      cases s1; cases s2
      simp only [addD] at e
      by_cases hl : a.length + b.length ≤ 100000
      · rw [if_pos hl] at e
        cases e
        exact .inr (.inl ⟨a, b, rfl, rfl, line5 hl, af.pure r (.str _)⟩)
      · rw [if_neg hl] at e; cases e
    | _ => exact gen _ _ s1 s2 e
  | tup xs =>
    cases y with
    | tup ys =>
      simp only [addD] at e
      by_cases hl : xs.length + ys.length ≤ 100000
      · rw [if_pos hl] at e
        cases e
        cases s1 with
        | @tup p us _ h1 x1 =>
          cases s2 with
          | @tup q ws _ h2 x2 =>
            refine .inr (.inr (.inl ⟨p, q, us, ws, rfl, rfl, h1.sq, h2.sq, by rw [x1.length, x2.length]; exact line5 hl, fun e => ?_, fun _ e => ?_, fun _ _ => Aft.tup r (x1.append x2) af⟩))
            · subst e
              cases x1
              exact af.pure r (.tup h2 x2)
            · subst e
              cases x2
              rw [List.append_nil] at af
              exact af.pure r (.tup h1 x1)
      · rw [if_neg hl] at e; cases e
    | _ => exact gen _ _ s1 s2 e
  | _ => exact gen _ _ s1 s2 e
/-- two ints alone -/
theorem ok_int2 {C : Int → Int → Prop} {g : Int → Int → V} {o : O2} (h : ∀ x y st d st', o x y st = some (d, st') → ∃ i j, x = .int i ∧ y = .int j ∧ C i j ∧ st' = st ∧ ∀ as H, Sh K cl as H (g i j) d) : Ok2 K cl (rI C g) o := by
  intro as H st x y v w d st' Q r e s1 s2 af
  obtain ⟨i, j, rfl, rfl, hc, rfl, hs⟩ := h x y st d st' e
  cases s1
  cases s2
  exact ⟨i, j, rfl, rfl, hc, af.pure r (hs _ _)⟩
theorem ok_int20 {g : Int → Int → V} {o : O2} (h : ∀ x y st d st', o x y st = some (d, st') → ∃ i j, x = .int i ∧ y = .int j ∧ st' = st ∧ ∀ as H, Sh K cl as H (g i j) d) : Ok2 K cl (rI0 g) o := by
  intro as H st x y v w d st' Q r e s1 s2 af
  obtain ⟨i, j, rfl, rfl, rfl, hs⟩ := h x y st d st' e
  cases s1
  cases s2
  exact ⟨i, j, rfl, rfl, af.pure r (hs _ _)⟩
theorem ok_sub : Ok2 K cl (rI0 fun i j => .int (i - j)) subD := ok_int20 fun x y st d st' e => by
  unfold subD at e
  split at e
  · cases e; exact ⟨_, _, rfl, rfl, rfl, fun _ _ => .int _⟩
  · cases e
theorem ok_lt : Ok2 K cl (rI0 fun i j => .bl (decide (i < j))) ltD := ok_int20 fun x y st d st' e => by
  unfold ltD at e
  split at e
  · cases e; exact ⟨_, _, rfl, rfl, rfl, fun _ _ => .bl _⟩
  · cases e
theorem ok_le : Ok2 K cl (rI0 fun i j => .bl (decide (i ≤ j))) leD := ok_int20 fun x y st d st' e => by
  unfold leD at e
  split at e
  · cases e; exact ⟨_, _, rfl, rfl, rfl, fun _ _ => .bl _⟩
  · cases e
theorem ok_gt : Ok2 K cl (rI0 fun i j => .bl (decide (j < i))) gtD := ok_int20 fun x y st d st' e => by
  unfold gtD at e
  split at e
  · cases e; exact ⟨_, _, rfl, rfl, rfl, fun _ _ => .bl _⟩
  · cases e
theorem ok_ge : Ok2 K cl (rI0 fun i j => .bl (decide (j ≤ i))) geD := ok_int20 fun x y st d st' e => by
  unfold geD at e
  split at e
  · cases e; exact ⟨_, _, rfl, rfl, rfl, fun _ _ => .bl _⟩
  · cases e
theorem ok_mod : Ok2 K cl (rI (fun _ j => 0 < j) fun i j => .int (i % j)) modD := ok_int2 fun x y st d st' e => by
  unfold modD at e
  split at e
  · split at e
    · cases e; exact ⟨_, _, rfl, rfl, by assumption, rfl, fun _ _ => .int _⟩
    · cases e
  · cases e
theorem ok_fdiv : Ok2 K cl (rI CDivW fun i j => .int (i / j)) fdivD := ok_int2 fun x y st d st' e => by
  unfold fdivD at e
  split at e
  · split at e
    · cases e; exact ⟨_, _, rfl, rfl, by assumption, rfl, fun _ _ => .int _⟩
    · cases e
  · cases e
theorem ok_pow : Ok2 K cl (rI CPow fun i j => .int (i ^ j.toNat)) powD := ok_int2 fun x y st d st' e => by
  unfold powD at e
  split at e
  · split at e
    · cases e; exact ⟨_, _, rfl, rfl, by assumption, rfl, fun _ _ => .int _⟩
    · cases e
  · cases e
def rMulX : R2 := fun x y H Q => (rI CMul fun i j => .int (i * j)) x y H Q ∨ (rI CMulW fun i j => .int (i * j)) x y H Q
theorem op_mulX : OpR X (binaryOp .Mult) rMulX := op_mul.or op_mulW
theorem ok_mul : Ok2 K cl rMulX mulD := by
  intro as H st x y v w d st' Q r e s1 s2 af
  unfold mulD at e
  split at e
  · split at e
    · cases e
      cases s1
      cases s2
      rename_i i j h
      rcases h with h | h | h
      · exact .inl ⟨_, _, rfl, rfl, .inl h, af.pure r (.int _)⟩
      · exact .inl ⟨_, _, rfl, rfl, .inr h, af.pure r (.int _)⟩
      · exact .inr ⟨_, _, rfl, rfl, h, af.pure r (.int _)⟩
    · cases e
  · cases e
theorem sh_non {v : V} {x : D} (s : Sh K cl as H v x) : (v = .non ∧ x = .non) ∨ (v ≠ .non ∧ x ≠ .non) := by
  cases s <;> first | exact .inl ⟨rfl, rfl⟩ | exact .inr ⟨nofun, nofun⟩
theorem ok_isN : Ok2 K cl (fun x y H Q => y = .non ∧ Q (.bl (decide (x = .non))) H) isND := by
  intro as H st x y v w d st' Q r e s1 s2 af
  unfold isND at e
  split at e
  · cases e
    cases s2
    refine ⟨rfl, ?_⟩
    rcases sh_non s1 with ⟨rfl, rfl⟩ | ⟨h1, h2⟩
    · exact af.pure r (.bl true)
    · rw [decide_eq_false h1]
      cases x <;> first | exact absurd rfl h2 | exact af.pure r (.bl false)
  · cases e
/-! ### == -/
mutual
theorem dp0 (r : Rel K cl as H st) : ∀ {d : D} {p : PyData} {v : V}, pyD0 d = some p → Sh K cl as H v d → Dp K H v p
  | .non, p, v, h, s => by simp only [pyD0] at h; cases h; cases s; exact .non
  | .bl b, p, v, h, s => by simp only [pyD0] at h; cases h; cases s; exact .bl b
  | .int b, p, v, h, s => by simp only [pyD0] at h; cases h; cases s; exact .int b
  | .str b, p, v, h, s => by simp only [pyD0] at h; cases h; cases s; exact .str b
  | .lst ds, p, v, h, s => by
    simp only [pyD0] at h
    cases e : pyL0 ds with
    | none => rw [e] at h; cases h
    | some ps =>
      rw [e] at h
      cases h
      cases s with
      | lst h1 r1 => exact .lst h1.sq (dpl0 r e r1)
  | .tup ds, p, v, h, s => by
    simp only [pyD0] at h
    cases e : pyL0 ds with
    | none => rw [e] at h; cases h
    | some ps =>
      rw [e] at h
      cases h
      cases s with
      | tup h1 r1 => exact .tup h1.sq (dpl0 r e r1)
  | .dct _, p, v, h, s => by simp only [pyD0] at h; cases h
  | .ref _, p, v, h, s => by simp only [pyD0] at h; cases h
  | .obj _ _, p, v, h, s => by simp only [pyD0] at h; cases h
  | .exc _ _, p, v, h, s => by simp only [pyD0] at h; cases h
theorem dpl0 (r : Rel K cl as H st) : ∀ {ds : List D} {ps : List PyData} {vs : List V}, pyL0 ds = some ps → ShL K cl as H vs ds → DpAll K H vs ps
  | [], ps, vs, h, s => by simp only [pyL0] at h; cases h; cases s; exact .nil
  | d :: ds, ps, vs, h, s => by
    simp only [pyL0] at h
    cases e1 : pyD0 d with
    | none => rw [e1] at h; cases h
    | some p =>
      cases e2 : pyL0 ds with
      | none => rw [e1, e2] at h; cases h
      | some qs =>
        rw [e1, e2] at h
        cases h
        cases s with
        | cons s1 s2 => exact .cons (dp0 r e1 s1) (dpl0 r e2 s2)
end
mutual
theorem dp_of (r : Rel K cl as H st) : ∀ {d : D} {p : PyData} {v : V}, pyD st d = some p → Sh K cl as H v d → Dp K H v p
  | .non, p, v, h, s => by simp only [pyD] at h; cases h; cases s; exact .non
  | .bl b, p, v, h, s => by simp only [pyD] at h; cases h; cases s; exact .bl b
  | .int b, p, v, h, s => by simp only [pyD] at h; cases h; cases s; exact .int b
  | .str b, p, v, h, s => by simp only [pyD] at h; cases h; cases s; exact .str b
  | .lst ds, p, v, h, s => by
    simp only [pyD] at h
    cases e : pyL st ds with
    | none => rw [e] at h; cases h
    | some ps =>
      rw [e] at h
      cases h
      cases s with
      | lst h1 r1 => exact .lst h1.sq (dpl_of r e r1)
  | .tup ds, p, v, h, s => by
    simp only [pyD] at h
    cases e : pyL st ds with
    | none => rw [e] at h; cases h
    | some ps =>
      rw [e] at h
      cases h
      cases s with
      | tup h1 r1 => exact .tup h1.sq (dpl_of r e r1)
  | .ref i, p, v, h, s => by
    simp only [pyD] at h
    cases e : st[i]? with
    | none => rw [e] at h; cases h
    | some c =>
      rw [e] at h
      cases c with
      | lst ds =>
        dsimp only at h
        cases e2 : pyL0 ds with
        | none => rw [e2] at h; cases h
        | some ps =>
          rw [e2] at h
          cases h
          cases s with
          | @ref _ a ea =>
            have c := r.cell i a _ ea e
            cases c with
            | lst h1 h2 => exact .lst (.inl (.inl h1)) (dpl0 r e2 h2)
      | _ => cases h
  | .dct _, p, v, h, s => by simp only [pyD] at h; cases h
  | .obj _ _, p, v, h, s => by simp only [pyD] at h; cases h
  | .exc _ _, p, v, h, s => by simp only [pyD] at h; cases h
theorem dpl_of (r : Rel K cl as H st) : ∀ {ds : List D} {ps : List PyData} {vs : List V}, pyL st ds = some ps → ShL K cl as H vs ds → DpAll K H vs ps
  | [], ps, vs, h, s => by simp only [pyL] at h; cases h; cases s; exact .nil
  | d :: ds, ps, vs, h, s => by
    simp only [pyL] at h
    cases e1 : pyD st d with
    | none => rw [e1] at h; cases h
    | some p =>
      cases e2 : pyL st ds with
      | none => rw [e1, e2] at h; cases h
      | some qs =>
        rw [e1, e2] at h
        cases h
        cases s with
        | cons s1 s2 => exact .cons (dp_of r e1 s1) (dpl_of r e2 s2)
end
def rEqX (K : PySem.W.Frag) : R2 := fun x y H Q => rEq x y H Q ∨ rEqD K x y H Q ∨ rSd false x y H Q
def rNeX (K : PySem.W.Frag) : R2 := fun x y H Q => rNe x y H Q ∨ rNeD K x y H Q ∨ rSd true x y H Q
theorem op_eqX (hu : X.A.units + 64 < cLine) : OpR X (compareOp .Eq) (rEqX X.K) := op_eq.or ((op_eqD hu).or (op_eqSd (by omega)))
theorem op_neX (hu : X.A.units + 64 < cLine) : OpR X (compareOp .NotEq) (rNeX X.K) := op_ne.or ((op_neD hu).or (op_neSd (by omega)))
theorem eqB_cases {x y : D} {st : Store} {b : Bool} (h : eqB x y st = some b) : (∃ i j, x = .int i ∧ y = .int j ∧ b = decide (i = j)) ∨ (∃ i j, x = .str i ∧ y = .str j ∧ b = decide (i = j)) ∨ (∃ i j, x = .bl i ∧ y = .bl j ∧ b = decide (i = j)) ∨ (∃ i j, x = .str i ∧ y = .dct j ∧ b = false) ∨
    ∃ p q, pyD st x = some p ∧ pyD st y = some q ∧ SeqAt.shaped p = true ∧ SeqAt.shaped q = true ∧ b = PyData.eqv p q := by
  unfold eqB at h
  split at h
  · cases h; exact .inl ⟨_, _, rfl, rfl, rfl⟩
  · cases h; exact .inr (.inl ⟨_, _, rfl, rfl, rfl⟩)
  · cases h; exact .inr (.inr (.inl ⟨_, _, rfl, rfl, rfl⟩))
  · cases h; exact .inr (.inr (.inr (.inl ⟨_, _, rfl, rfl, rfl⟩)))
  · refine .inr (.inr (.inr (.inr ?_)))
    cases e1 : pyD st x with
    | none => rw [e1] at h; cases h
    | some p =>
      cases e2 : pyD st y with
      | none => rw [e1, e2] at h; cases h
      | some q =>
        rw [e1, e2] at h
        simp only [Option.bind] at h
        split at h
        · rename_i hs
          cases h
          exact ⟨p, q, rfl, rfl, hs.1, hs.2, rfl⟩
        · cases h
theorem ok_eq : Ok2 K cl (rEqX K) eqD := by
  intro as H st x y v w d st' Q r e s1 s2 af
  unfold eqD at e
  cases eb : eqB x y st with
  | none => rw [eb] at e; cases e
  | some b =>
    rw [eb] at e
    cases e
    rcases eqB_cases eb with ⟨i, j, rfl, rfl, rfl⟩ | ⟨i, j, rfl, rfl, rfl⟩ | ⟨i, j, rfl, rfl, rfl⟩ | ⟨i, j, rfl, rfl, rfl⟩ | ⟨p, q, h1, h2, h3, h4, rfl⟩
    · cases s1; cases s2
      refine .inl ⟨rfl, ?_⟩
      have : decide (V.int i = V.int j) = decide (i = j) := by simp
      rw [this]
      exact af.pure r (.bl _)
    · cases s1; cases s2
      refine .inl ⟨rfl, ?_⟩
      have : decide (V.str i = V.str j) = decide (i = j) := by simp
      rw [this]
      exact af.pure r (.bl _)
    · cases s1; cases s2
      refine .inl ⟨rfl, ?_⟩
      have : decide (V.bl i = V.bl j) = decide (i = j) := by simp
      rw [this]
      exact af.pure r (.bl _)
    · cases s1
      cases s2 with
      | dct h0 h1 h2 h3 => exact .inr (.inr ⟨_, _, _, rfl, rfl, h1, af.pure r (.bl _)⟩)
    · exact .inr (.inl ⟨p, q, dp_of r h1 s1, dp_of r h2 s2, h3, h4, af.pure r (.bl _)⟩)
theorem ok_ne : Ok2 K cl (rNeX K) neD := by
  intro as H st x y v w d st' Q r e s1 s2 af
  unfold neD at e
  cases eb : eqB x y st with
  | none => rw [eb] at e; cases e
  | some b =>
    rw [eb] at e
    cases e
    rcases eqB_cases eb with ⟨i, j, rfl, rfl, rfl⟩ | ⟨i, j, rfl, rfl, rfl⟩ | ⟨i, j, rfl, rfl, rfl⟩ | ⟨i, j, rfl, rfl, rfl⟩ | ⟨p, q, h1, h2, h3, h4, rfl⟩
    · cases s1; cases s2
      refine .inl ⟨rfl, ?_⟩
      have : decide (V.int i = V.int j) = decide (i = j) := by simp
      rw [this]
      exact af.pure r (.bl _)
    · cases s1; cases s2
      refine .inl ⟨rfl, ?_⟩
      have : decide (V.str i = V.str j) = decide (i = j) := by simp
      rw [this]
      exact af.pure r (.bl _)
    · cases s1; cases s2
      refine .inl ⟨rfl, ?_⟩
      have : decide (V.bl i = V.bl j) = decide (i = j) := by simp
      rw [this]
      exact af.pure r (.bl _)
    · cases s1
      cases s2 with
      | dct h0 h1 h2 h3 => exact .inr (.inr ⟨_, _, _, rfl, rfl, h1, af.pure r (.bl _)⟩)
    · exact .inr (.inl ⟨p, q, dp_of r h1 s1, dp_of r h2 s2, h3, h4, af.pure r (.bl _)⟩)
/-! ### items -/
theorem ixAt_atI {A B : Type} {xs : List A} {ys : List B} (hl : ys.length = xs.length) {i : Int} {d : A} (h : ixAt xs i = some d) : ∃ j : Nat, xs[j]? = some d ∧ ∀ v, ys[j]? = some v → atI ys i = some v := by
  unfold ixAt at h
  unfold atI ixN
  split at h
  · rename_i h0
    refine ⟨i.toNat, h, fun v hv => ?_⟩
    have hi := (List.getElem?_eq_some_iff.mp h).1
    rw [if_pos h0, if_pos (by rw [hl]; omega)]
    exact hv
  · rename_i h0
    split at h
    · rename_i h1
      refine ⟨_, h, fun v hv => ?_⟩
      rw [if_neg h0, if_pos (by rw [hl]; exact h1), hl]
      exact hv
    · cases h
theorem ok_ix : Ok2 K cl (rIx K) ixD := by
  intro as H st x y v w d st' Q r e s1 s2 af
  cases y with
  | int i =>
    cases s2
    have gen : ∀ a : D, Sh K cl as H v a → ((listD st a).bind fun ds => (ixAt ds i).map fun d => (d, st)) = some (d, st') → rIx K v (.int i) H Q := by
      intro a s1 e
      cases e1 : listD st a with
      | none => rw [e1] at e; cases e
      | some ds =>
        rw [e1] at e
        simp only [Option.bind] at e
        cases e2 : ixAt ds i with
        | none => rw [e2] at e; cases e
        | some d' =>
          rw [e2] at e
          cases e
          obtain ⟨p, xs, rfl, h1, x1⟩ := listD_sq r e1 s1
          obtain ⟨j, h2, h3⟩ := ixAt_atI x1.length e2
          obtain ⟨z, h4, h5⟩ := x1.get h2
          exact .inl ⟨p, xs, i, z, rfl, rfl, h1, h3 z h4, af.pure r h5⟩
    cases x with
    | tup ds =>
      simp only [ixD] at e
      cases e2 : ixAt ds i with
      | none => rw [e2] at e; cases e
      | some d' =>
        rw [e2] at e
        cases e
        cases s1 with
        | @tup p xs _ h1 x1 =>
          obtain ⟨j, h2, h3⟩ := ixAt_atI x1.length e2
          obtain ⟨z, h4, h5⟩ := x1.get h2
          exact .inr (.inl ⟨p, xs, i, z, rfl, rfl, h1.sq, h3 z h4, af.pure r h5⟩)
    | str z =>
      simp only [ixD] at e
      by_cases hl : z.length ≤ 100000
      · rw [if_pos hl] at e
        cases e2 : ixAt z.cps.toList i with
        | none => rw [e2] at e; cases e
        | some c =>
          rw [e2] at e
          cases e
          cases s1
          obtain ⟨j, h2, h3⟩ := ixAt_atI (ys := z.cps.toList) rfl e2
          exact .inr (.inr ⟨z, i, c, rfl, rfl, line5 hl, h3 c h2, af.pure r (.str _)⟩)
      · rw [if_neg hl] at e; cases e
    | lst ds => exact gen _ s1 e
    | ref k => exact gen _ s1 e
    | _ => exact gen _ s1 e
  | _ => cases x <;> cases e
end
end F3

/-! F3, part g: built-in functions, slices, stores, texts. -/
namespace F3
open PySem PySem.Spec PyProof.Rows L2

/-! ### on data -/
def absD : On := fun xs st => match xs with
  | [.int i] => some (.int (if i < 0 then -i else i), st)
  | _ => none
def max2D : On := fun xs st => match xs with
  | [.int i, .int j] => some (.int (if j > i then j else i), st)
  | _ => none
def min2D : On := fun xs st => match xs with
  | [.int i, .int j] => some (.int (if j < i then j else i), st)
  | _ => none
def intD : On := fun xs st => match xs with
  | [.int i] => some (.int i, st)
  | [.bl b] => some (.int (if b then 1 else 0), st)
  | _ => none
def lenN (st : Store) : D → Option Nat
  | .str z => if z.length ≤ 100000 then some z.length else none
  | .tup ds => some ds.length
  | x => (listD st x).map List.length
def lenD : On := fun xs st => match xs with
  | [x] => (lenN st x).map fun n => (.int n, st)
  | _ => none
/-- what repr can show -/
def showOk (p : PyData) : Bool := p.showable && !p.hasDict && decide (p.depth ≤ 60) && decide (p.shown.length ≤ sizeLine)
def reprD : On := fun xs st => match xs with
  | [x] => (pyD st x).bind fun p => if showOk p = true then some (.str p.shown, st) else none
  | _ => none
def Ty.sub : Ty → Ty → Bool
  | .bl, .int => true
  | a, b => a == b
def tyD (st : Store) : D → Option Ty
  | .non => some .non | .bl _ => some .bl | .int _ => some .int | .str _ => some .str | .tup _ => some .tup | .lst _ => some .lst | .dct _ => some .dct
  | .ref i => match st[i]? with
    | some (.lst _) => some .lst
    | some (.dct _) => some .dct
    | some (.lck _) => some .dct
    | _ => none
  | _ => none
def isiD (T : Ty) : O1 := fun x st => (tyD st x).map fun t => (.bl (t.sub T), st)
/-- the part of a list -/
def cutD {A : Type} (xs : List A) (lo hi : Option Int) : List A := (xs.drop (HT.sIx xs.length 0 lo)).take (HT.sIx xs.length xs.length hi - HT.sIx xs.length 0 lo)
def slD : D → Option Int → Option Int → Store → Option D := fun x lo hi st => match x with
  | .str z => if z.length ≤ 100000 then some (.str (cutS z lo hi)) else none
  | x => (listD st x).map fun ds => .lst (cutD ds lo hi)
abbrev Exo := Env → Store → Res (Option Int)
def oNone : Exo := fun _ st => .ok none st
def oSome (f : Ex) : Exo := fun env st => (f env st).bind fun d s => match d with
  | .int i => .ok (some i) s
  | _ => .stuck
def eSl (f : Ex) (l h : Exo) : Ex := fun env st => (f env st).bind fun x s => (l env s).bind fun lo s2 => (h env s2).bind fun hi s3 => match slD x lo hi s3 with
  | some d => .ok d s3
  | none => .stuck
/-- f"..": a part, the whole -/
def eFmt (f : Ex) : Ex := fun env st => (f env st).bind fun d s => match d with
  | .str y => if y.length ≤ 100000 then .ok (.str y) s else .stuck
  | .int i => if i.natAbs.log2 < 1920 then .ok (.str (toString i)) s else .stuck
  | _ => .stuck
def eFmtR (f : Ex) : Ex := fun env st => (f env st).bind fun d s => match d with
  | .str y => if (reprText y).length ≤ 100000 then .ok (.str (reprText y)) s else .stuck
  | .int i => if i.natAbs.log2 < 1920 then .ok (.str (toString i)) s else .stuck
  | _ => .stuck
def joinL : List Ex → Str → Ex
  | [], acc, _, st => .ok (.str acc) st
  | p :: r, acc, env, st => (p env st).bind fun d s => match d with
    | .str y => if (acc ++ y).length ≤ 100000 then joinL r (acc ++ y) env s else .stuck
    | _ => .stuck
def eJoin (ps : List Ex) : Ex := joinL ps Str.empty
/-- a store by place -/
def stD : D → D → D → Store → Option Store := fun o i d st => match o, i with
  | .ref k, .int j => match st[k]? with
    | some (.lst ds) => if 0 ≤ j ∧ j.toNat < ds.length then some (st.set k (.lst (ds.set j.toNat d))) else none
    | _ => none
  | _, _ => none
def tSub (fo fi : Ex) : Tgt := fun d env st => match fo env st with
  | .ok x s1 => (match fi env s1 with
    | .ok y s2 => (stD x y d s2).map fun s3 => (env, s3)
    | _ => none)
  | _ => none
def appD : Om := fun x vs st => match x, vs with
  | .ref k, [d] => match st[k]? with
    | some (.lst ds) => if ds.length < 100000 then some (.non, st.set k (.lst (ds ++ [d]))) else none
    | _ => none
  | _, _ => none
/-- a built-in type's method is there: what it is called of comes first -/
def bmTy (st : Store) : D → Option Ty
  | .str _ => some .str
  | .lst _ => some .lst
  | .ref i => match st[i]? with
    | some (.lst _) => some .lst
    | some (.dct _) => some .dct
    | _ => none
  | _ => none
def eBm (T : Ty) (o : Om) (f : Ex) (fa : Exs) : Ex := fun env st => (f env st).bind fun x s => if bmTy s x = some T then (fa env s).bind fun ds s2 => ofO (o x ds s2) else .stuck

section
variable {X : Cx} {cl : ClW} {W : WX} {K : PySem.W.Frag} {as : As} {H : Hp} {st : Store}
theorem ok_max2 : Okn K cl (fun xs H Q => ∃ i j, xs = [.int i, .int j] ∧ Q (.int (if j > i then j else i)) H) max2D := by
  intro as H st xs vs d st' Q r e s af
  unfold max2D at e
  split at e
  · cases e
    cases s with
    | cons s1 s2 => cases s2 with
      | cons s2 s3 => cases s3; cases s1; cases s2; exact ⟨_, _, rfl, af.pure r (.int _)⟩
  · cases e
theorem ok_min2 : Okn K cl (fun xs H Q => ∃ i j, xs = [.int i, .int j] ∧ Q (.int (if j < i then j else i)) H) min2D := by
  intro as H st xs vs d st' Q r e s af
  unfold min2D at e
  split at e
  · cases e
    cases s with
    | cons s1 s2 => cases s2 with
      | cons s2 s3 => cases s3; cases s1; cases s2; exact ⟨_, _, rfl, af.pure r (.int _)⟩
  · cases e
theorem ok_int : Okn K cl (fun xs H Q => (∃ i, xs = [.int i] ∧ Q (.int i) H) ∨ ∃ k, xs = [.bl k] ∧ Q (.int (if k then 1 else 0)) H) intD := by
  intro as H st xs vs d st' Q r e s af
  unfold intD at e
  split at e
  · cases e
    cases s with
    | cons s1 s2 => cases s2; cases s1; exact .inl ⟨_, rfl, af.pure r (.int _)⟩
  · cases e
    cases s with
    | cons s1 s2 => cases s2; cases s1; exact .inr ⟨_, rfl, af.pure r (.int _)⟩
  · cases e
theorem ok_len : Okn K cl (fun xs H Q => ∃ x n, xs = [x] ∧ LenV K x H n ∧ Q (.int n) H) lenD := by
  intro as H st xs vs d st' Q r e s af
  unfold lenD at e
  split at e
  · rename_i x
    cases s with
    | cons s1 s2 =>
      cases s2
      cases e1 : lenN st x with
      | none => rw [e1] at e; cases e
      | some n =>
        rw [e1] at e
        cases e
        refine ⟨_, n, rfl, ?_, af.pure r (.int _)⟩
        have gen : ∀ w, Sh K cl as H w x → (listD st x).map List.length = some n → LenV K w H n := fun w s1 h => by
          cases e2 : listD st x with
          | none => rw [e2] at h; cases h
          | some ds =>
            rw [e2] at h
            cases h
            obtain ⟨p, xs, rfl, h1, x1⟩ := listD_sq r e2 s1
            exact (Or.inl ⟨xs, h1, x1.length.symm⟩ : (∃ xs, SqL K H p xs ∧ ds.length = xs.length) ∨ ∃ xs, SqT K H p xs ∧ ds.length = xs.length)
        cases x with
        | str z =>
          cases s1
          simp only [lenN] at e1
          by_cases hl : z.length ≤ 100000
          · rw [if_pos hl] at e1; cases e1; exact ⟨line5 hl, rfl⟩
          · rw [if_neg hl] at e1; cases e1
        | tup ds =>
          cases e1
          cases s1 with
          | @tup p xs _ h1 x1 => exact (Or.inr ⟨xs, h1.sq, x1.length.symm⟩ : (∃ xs, SqL K H p xs ∧ ds.length = xs.length) ∨ ∃ xs, SqT K H p xs ∧ ds.length = xs.length)
        | _ => exact gen _ s1 e1
  · cases e
/-! ### repr -/
/-! ### isinstance of a built-in type -/
def Ty.is : Ty → Bool
  | .non => false
  | _ => true
theorem kit_tys : ∀ a b : Ty, b.is = true → kitB a.nm b.nm = some (a.sub b) := by
  intro a b h
  cases b <;> first | (exact absurd h (by decide)) | (cases a <;> decide +kernel)
theorem sh_ty {x : D} {v : V} {t : Ty} (r : Rel K cl as H st) (e : tyD st x = some t) (s : Sh K cl as H v x) : TyX K H v (.type t.nm) := by
  cases s with
  | non => cases e; exact .base .non
  | bl b => cases e; exact .base (.bl b)
  | int b => cases e; exact .base (.int b)
  | str b => cases e; exact .base (.str b)
  | lst h _ =>
    cases e
    rcases h.sq with (h | ⟨o, h⟩) | ⟨o, its, n, h1, h2, _⟩
    · exact .base (.lst h)
    · exact .base (.frz h)
    · exact .kList h1 h2
  | tup h _ =>
    cases e
    rcases h.sq with (h | ⟨o, h⟩) | ⟨o, its, n, h1, h2, _⟩
    · exact .base (.tup h)
    · exact .fTuple h
    · exact .kTuple h1 h2
  | dct n h _ _ => cases e; exact .base (.dK h)
  | obj n h _ _ => cases e
  | exc0 _ _ => cases e
  | exc1 _ _ _ _ _ _ => cases e
  | lam _ _ _ _ _ => cases e
  | fn _ => cases e
  | @ref i a ea =>
    simp only [tyD] at e
    cases e2 : st[i]? with
    | none => rw [e2] at e; cases e
    | some c =>
      rw [e2] at e
      have c' := r.cell i a _ ea e2
      cases c with
      | lst ds => cases e; cases c' with | lst h _ => exact .base (.lst h)
      | dct ds => cases e; cases c' with | dct h _ _ => exact .base (.dK h)
      | lck ds => cases e; cases c' with | lck h _ _ => exact .fDict h
      | ins c fs => cases e
      | tab q => cases e
      | dcn q => cases e
      | lckn q => cases e
theorem fe_isi {e : Expr} {f : Ex} {T : Ty} {p p2 pos : Pos} {x2 : Str} (hT : T.is = true) (hg : Gl X "isinstance") (hm : X.mg "isinstance" = none) (hg2 : Gl X x2) (hm2 : X.mg x2 = none) (hb : bootBuiltins x2 = some (.type T.nm)) (ha : FE X cl W e f) (hn2 : x2 ≠ "__name__" := by decide) (hd2 : (x2 == ("__debug__" : Str)) = false := by decide)
    (hv : bootBuiltins "isinstance" = some (.builtin "isinstance") := by decide +kernel) (he : starEach [e, .Name x2 p2] X.env = (false, eval e X.env) :: starEach [.Name x2 p2] X.env := by rfl) (he2 : starEach [.Name x2 p2] X.env = (false, eval (.Name x2 p2) X.env) :: starEach [] X.env := by rfl) (hpl : (backTo pos (starEach [.Name x2 p2] X.env)).any (·.1) = false := by rfl) :
    FE X cl W (.Call (.Name "isinstance" p) [e, .Name x2 p2] [] pos) (eUn (isiD T) f) :=
  PE.w (pe_callB call_isi hg hm hv (pa_cons ha (pa_cons (pe_bltn (v := .ty T.nm) hg2 hm2 hb rfl hn2 hd2) pa_nil he2) he) (by decide) (by decide) he hpl) fun sg H Q ⟨as, st, env, r0, er, q⟩ =>
    ⟨as, st, env, r0, er, Wt.bind q fun d s1 as1 H1 v _ l1 r1 x1 q1 => by
      cases e1 : tyD s1 d with
      | none => simp only [isiD, e1] at q1; exact q1.elim
      | some t =>
        simp only [isiD, e1] at q1
        exact ⟨v, .ty T.nm, .type t.nm, .type T.nm, t.sub T, rfl, .ty _, sh_ty r1 e1 x1, kit_ty (kit_tys t T hT), q1 as1 H1 _ Le.refl r1 (.bl _)⟩⟩
/-! ### slices -/
structure FO (X : Cx) (cl : ClW) (W : WX) (e : Option Expr) (f : Exo) : Prop where
  po : PO X e fun sg H Q => ∃ (as : As) (st : Store) (env : Env), Rel X.K cl as H st ∧ EnvR X.K cl as H sg env ∧ match f env st with
    | .ok o st' => ∀ as' H', Le as H as' H' → Rel X.K cl as' H' st' → Q o H'
    | .exn c fs st' => ∀ as' H' cls d, Le as H as' H' → Rel X.K cl as' H' st' → ExcR X.K cl as' H' cls d c fs → W cls d sg H'
    | .stuck => False
theorem fo_none : FO X cl W none oNone := ⟨⟨fun pins s sg H Q I ⟨as, st, env, r0, er, q⟩ => po_none.run pins s sg H Q I (q as H Le.refl r0)⟩⟩
theorem fo_some {e : Expr} {f : Ex} (he : FE X cl W e f) : FO X cl W (some e) (oSome f) := ⟨⟨fun pins s sg H Q I ⟨as, st, env, r0, er, q⟩ => (po_some he).run pins s sg H Q I ⟨as, st, env, r0, er, by
  unfold oSome at q
  cases e1 : f env st with
  | stuck => rw [e1] at q; exact q.elim
  | exn c fs s => rw [e1] at q; exact q
  | ok d s =>
    rw [e1] at q
    intro as' H' v l r x
    cases d with
    | int i => cases x; exact ⟨i, rfl, q as' H' l r⟩
    | _ => exact q.elim⟩⟩⟩
theorem cutD_sh {xs : List V} {ds : List D} {lo hi : Option Int} (h : ShL K cl as H xs ds) : ShL K cl as H (cutV xs lo hi) (cutD ds lo hi) := by
  unfold cutV cutD
  rw [h.length]
  exact (h.drop _).take _
theorem fe_sl {e : Expr} {f : Ex} {lo hi : Option Expr} {l h : Exo} {pos p2 : Pos} (he : FE X cl W e f) (hl : FO X cl W lo l) (hh : FO X cl W hi h) : FE X cl W (.Subscript e (.Slice lo hi none p2) pos) (eSl f l h) :=
  PE.w (pe_slice (sl_list.or sl_str) he hl.po hh.po) fun sg H Q ⟨as, st, env, r0, er, q⟩ =>
    ⟨as, st, env, r0, er, Wt.bind q fun d s1 as1 H1 v _ l1 r1 x1 q1 => ⟨as1, s1, env, r1, er.up l1, by
      cases e2 : l env s1 with
      | stuck => rw [e2] at q1; exact q1.elim
      | exn c fs s => rw [e2] at q1; exact q1
      | ok o1 s2 =>
        rw [e2] at q1
        intro as2 H2 l2 r2
        refine ⟨as2, s2, env, r2, (er.up l1).up l2, ?_⟩
        have q2 := Wt.up l2 q1
        simp only [Res.bind] at q2
        cases e3 : h env s2 with
        | stuck => rw [e3] at q2; exact q2.elim
        | exn c fs s => rw [e3] at q2; exact q2
        | ok o2 s3 =>
          rw [e3] at q2
          intro as3 H3 l3 r3
          have q3 := Wt.up l3 q2
          have x3 := (x1.up l2).up l3
          simp only at q3
          have gen : ∀ a : D, Sh X.K cl as3 H3 v a → Wt X.K cl W sg as3 H3 Q (match (listD s3 a).map fun ds => D.lst (cutD ds o1 o2) with
              | some d => .ok d s3
              | none => .stuck) → rSlL X.K v o1 o2 H3 Q := fun a x3 q3 => by
            cases e4 : listD s3 a with
            | none => rw [e4] at q3; exact q3.elim
            | some ds =>
              rw [e4] at q3
              obtain ⟨p, xs, rfl, h1, y1⟩ := listD_sq r3 e4 x3
              exact ⟨p, xs, rfl, h1, Aft.lst r3 (cutD_sh y1) q3⟩
          cases d with
          | str z =>
            cases x3
            simp only [slD] at q3
            by_cases hz : z.length ≤ 100000
            · rw [if_pos hz] at q3
              exact .inr ⟨z, rfl, line5 hz, q3 as3 H3 _ Le.refl r3 (.str _)⟩
            · rw [if_neg hz] at q3; exact q3.elim
          | _ => exact .inl (gen _ x3 q3)⟩⟩
/-! ### f-strings -/
theorem fe_fmtR {e : Expr} {f : Ex} {pos : Pos} (he : FE X cl W e f) : FE X cl W (.FormattedValue e 114 none pos) (eFmtR f) := PE.w (pe_fmtR he) fun sg H Q ⟨as, st, env, r0, er, q⟩ =>
  ⟨as, st, env, r0, er, Wt.bind q fun d s1 as1 H1 v _ l1 r1 x1 q1 => by
    cases d with
    | str y =>
      cases x1
      dsimp only at q1
      by_cases hz : (reprText y).length ≤ 100000
      · rw [if_pos hz] at q1; exact .inl ⟨y, rfl, line5 hz, q1 as1 H1 _ Le.refl r1 (.str _)⟩
      · rw [if_neg hz] at q1; exact q1.elim
    | int i =>
      cases x1
      dsimp only at q1
      by_cases hz : i.natAbs.log2 < 1920
      · rw [if_pos hz] at q1; exact .inr ⟨i, rfl, hz, q1 as1 H1 _ Le.refl r1 (.str _)⟩
      · rw [if_neg hz] at q1; exact q1.elim
    | _ => exact q1.elim⟩
/-- the parts -/
inductive FJ (X : Cx) (cl : ClW) (W : WX) : List Expr → List Ex → Prop
  | nil : FJ X cl W [] []
  | cons {e : Expr} {f : Ex} {es : List Expr} {fs : List Ex} (h : FE X cl W e f) (r : FJ X cl W es fs) : FJ X cl W (e :: es) (f :: fs)
theorem FJ.pj {es : List Expr} {fs : List Ex} (h : FJ X cl W es fs) : PJ X es (fs.map fun f => tF X.K cl W f) := by
  induction h with
  | nil => exact .nil
  | cons h _ ih => exact .cons h ih
theorem join_imp : ∀ (fs : List Ex) (acc : Str) (sg : L2.St) (H : Hp) (Q : VK), tF X.K cl W (joinL fs acc) sg H Q → tJs (fs.map fun f => tF X.K cl W f) acc sg H fun out H1 => Q (.str out) H1
  | [], acc, sg, H, Q, ⟨as, st, env, r0, er, q⟩ => q as H _ Le.refl r0 (.str _)
  | f :: fs, acc, sg, H, Q, ⟨as, st, env, r0, er, q⟩ => ⟨as, st, env, r0, er, Wt.bind q fun d s1 as1 H1 v _ l1 r1 x1 q1 => by
    cases d with
    | str y =>
      cases x1
      dsimp only at q1
      by_cases hz : (acc ++ y).length ≤ 100000
      · rw [if_pos hz] at q1
        exact ⟨y, rfl, line5 hz, join_imp fs (acc ++ y) sg H1 Q ⟨as1, s1, env, r1, er.up l1, q1⟩⟩
      · rw [if_neg hz] at q1; exact q1.elim
    | _ => exact q1.elim⟩
theorem fe_join {v1 v2 : Expr} {rest : List Expr} {f1 f2 : Ex} {fs : List Ex} {pos : Pos} (h : FJ X cl W (v1 :: v2 :: rest) (f1 :: f2 :: fs)) : FE X cl W (.JoinedStr (v1 :: v2 :: rest) pos) (eJoin (f1 :: f2 :: fs)) :=
  PE.w (pe_joined h.pj) fun sg H Q q => join_imp _ _ _ _ _ q
/-! ### cells change -/
theorem getElem?_inj {A : Type} {l : List A} (h : l.Nodup) {i j : Nat} {a : A} (h1 : l[i]? = some a) (h2 : l[j]? = some a) : i = j := by
  obtain ⟨a1, e1⟩ := List.getElem?_eq_some_iff.mp h1
  obtain ⟨a2, e2⟩ := List.getElem?_eq_some_iff.mp h2
  exact (List.getElem_inj h).mp (e1.trans e2.symm)
theorem Mv.setc {k : Nat} {a : Addr} {o : HO} (hn : NF H a) (e : as.c[k]? = some a) : Mv as H as (upd H a o) :=
  ⟨fun _ _ h => h, fun b u n eb => ⟨by rw [upd_ne (fun z : b = a => n (.inl (z ▸ List.mem_of_getElem? e)))]; exact eb, n⟩, fun b od u eb => by rw [upd_ne (hn.ne eb)]; exact eb⟩
theorem Rel.setc {k : Nat} {a : Addr} {o : HO} {c : Cell} (r : Rel K cl as H st) (hn : NF H a) (e : as.c[k]? = some a) (hc : CellAt K cl as (upd H a o) a c) : Le as H as (upd H a o) ∧ Rel K cl as (upd H a o) (st.set k c) := by
  have hm : a ∈ as.c := List.mem_of_getElem? e
  refine ⟨⟨Mv.setc hn e, rfl, fun b m => upd_ne fun z => (r.rs b m).1 (z ▸ hm)⟩, by rw [List.length_set]; exact r.len, r.nd, fun i b c' e1 e2 => ?_, fun b m => ⟨(r.rs b m).1, ?_⟩, fun b m q y => ?_⟩
  · by_cases hi : k = i
    · subst hi
      rw [e] at e1
      cases e1
      have hk : k < st.length := by rw [← r.len]; exact (List.getElem?_eq_some_iff.mp e).1
      rw [List.getElem?_set_self hk] at e2
      cases e2
      exact hc
    · rw [List.getElem?_set_ne hi] at e2
      have hne : b ≠ a := fun z => hi (getElem?_inj r.nd e (z ▸ e1))
      exact (r.cell i b c' e1 e2).mono (Mv.setc hn e) fun u eu => by rw [upd_ne hne]; exact eu
  · obtain ⟨u, eu⟩ := (r.rs b m).2
    exact ⟨u, by rw [upd_ne (fun z : b = a => (r.rs b m).1 (by rw [z]; exact hm))]; exact eu⟩
  · rw [upd_ne (fun z : b = a => (r.rs b m).1 (by rw [z]; exact hm))] at y
    exact r.rx b m q y
/-- a list cell, to be changed -/
theorem Rel.lst {k : Nat} {ds : List D} {v : V} (r : Rel K cl as H st) (h : st[k]? = some (.lst ds)) (s : Sh K cl as H v (.ref k)) : ∃ a xs, v = .ref a ∧ as.c[k]? = some a ∧ H a = some (.lst xs) ∧ ShL K cl as H xs ds := by
  cases s with
  | @ref _ a e =>
    have c := r.cell k a _ e h
    cases c with
    | lst h1 h2 => exact ⟨a, _, rfl, e, h1, h2⟩
theorem Rel.setL {k : Nat} {a : Addr} {xs : List V} {ds : List D} {us : List V} (r : Rel K cl as H st) (h0 : H a = some (.lst us)) (e : as.c[k]? = some a) (x : ShL K cl as H xs ds) : Le as H as (upd H a (.lst xs)) ∧ Rel K cl as (upd H a (.lst xs)) (st.set k (.lst ds)) :=
  r.setc (.of h0 fun _ _ z => by cases z) e (.lst upd_same (x.upM (Mv.setc (.of h0 fun _ _ z => by cases z) e)))
theorem ShL.setI {xs : List V} {ds : List D} {v : V} {d : D} (s : Sh K cl as H v d) (x : ShL K cl as H xs ds) (i : Nat) : ShL K cl as H (xs.set i v) (ds.set i d) := ShL.set s i x
/-- xs[i] = v -/
theorem fg_sub {o i : Expr} {fo fi : Ex} {pos : Pos} (ho : FE X cl W0 o fo) (hi : FE X cl W0 i fi) (mk : ∀ {t u : TE}, PE X o t → PE X i u → PG X (.Subscript o i pos) (gSub t u rSetL)) : FG X cl (.Subscript o i pos) (tSub fo fi) := PG.w (mk ho hi) fun v sg H Q ⟨as, st, env, d, r0, er, x, q⟩ => by
  unfold tSub at q
  refine ⟨as, st, env, r0, er, ?_⟩
  cases e1 : fo env st with
  | stuck => rw [e1] at q; exact q.elim
  | exn c fs s => rw [e1] at q; exact q.elim
  | ok a s1 =>
    rw [e1] at q
    dsimp only at q
    intro as1 H1 va l1 r1 x1
    refine ⟨as1, s1, env, r1, er.up l1, ?_⟩
    cases e2 : fi env s1 with
    | stuck => rw [e2] at q; exact q.elim
    | exn c fs s => rw [e2] at q; exact q.elim
    | ok b s2 =>
      rw [e2] at q
      dsimp only at q
      intro as2 H2 vb l2 r2 x2
      have x0 := (x.up l1).up l2
      have x1 := x1.up l2
      cases e3 : stD a b d s2 with
      | none => rw [e3] at q; exact q.elim
      | some s3 =>
        rw [e3] at q
        dsimp only [Option.map] at q
        unfold stD at e3
        split at e3
        · rename_i k j _
          cases x2
          cases e4 : s2[k]? with
          | none => rw [e4] at e3; cases e3
          | some c =>
            rw [e4] at e3
            cases c with
            | lst ds =>
              dsimp only at e3
              split at e3
              · rename_i hj
                cases e3
                obtain ⟨p, xs, rfl, ec, hp, hx⟩ := r2.lst e4 x1
                obtain ⟨l3, r3⟩ := r2.setL hp ec (hx.setI x0 j.toNat)
                exact ⟨p, xs, j, j.toNat, rfl, rfl, hp, by unfold ixN; rw [if_pos hj.1, if_pos (by rw [hx.length]; omega)], q as2 _ _ ((l1.trans l2).trans l3) r3 (((er.up l1).up l2).up l3)⟩
              · cases e3
            | _ => cases e3
        · cases e3
/-! ### methods of built-in types -/
theorem ty_v {x : D} {v : V} {T : Ty} (r : Rel K cl as H st) (e : bmTy st x = some T) (s : Sh K cl as H v x) : tyV K T.nm v H := by
  cases s with
  | str b => cases e; exact rfl
  | lst h _ => cases e; exact Or.inl ⟨rfl, _, h.sq⟩
  | @ref i a ea =>
    simp only [bmTy] at e
    cases e2 : st[i]? with
    | none => rw [e2] at e; cases e
    | some c =>
      rw [e2] at e
      have c' := r.cell i a _ ea e2
      cases c with
      | lst ds => cases e; cases c' with | lst h _ => exact Or.inl ⟨rfl, _, Or.inl (Or.inl h)⟩
      | dct ds => cases e; cases c' with | dct h _ _ => exact Or.inr (Or.inr (Or.inl ⟨rfl, Or.inl ⟨_, h⟩⟩))
      | _ => cases e
  | _ => cases e
theorem imp_bm {T : Ty} {r : V → List V → Hp → VK → Prop} {o : Om} {n : Nat} {es : List Expr} {f : Ex} {fa : Exs} (hr : Okm X.K cl r o) : ∀ sg H Q, tF X.K cl W (eBm T o f fa) sg H Q → tBM X.K T.nm r (tF X.K cl W f) (tFs X.K cl W fa) sg H Q := fun sg H Q ⟨as, st, env, r0, er, q⟩ =>
  ⟨as, st, env, r0, er, Wt.bind q fun d s1 as1 H1 v _ l1 r1 x1 q1 => by
    by_cases hT : bmTy s1 d = some T
    · simp only [if_pos hT] at q1
      exact ⟨ty_v r1 hT x1, as1, s1, env, r1, er.up l1, Wt.binds q1 fun ds s2 as2 H2 vs _ l2 r2 x2 q2 => let ⟨_, _, e, af⟩ := ofO_aft q2; hr as2 H2 s2 d ds v vs _ _ _ r2 e (x1.up l2) x2 af⟩
    · simp only [if_neg hT] at q1; exact q1.elim⟩
theorem ok_app : Okm K cl rAppend appD := by
  intro as H st x xs v vs d st' Q r e s1 s2 af
  unfold appD at e
  split at e
  · rename_i k y
    cases e4 : st[k]? with
    | none => rw [e4] at e; cases e
    | some c =>
      rw [e4] at e
      cases c with
      | lst ds =>
        dsimp only at e
        split at e
        · rename_i hl
          cases e
          cases s2 with
          | cons y1 y2 =>
            cases y2
            obtain ⟨p, us, rfl, ec, hp, hx⟩ := r.lst e4 s1
            obtain ⟨l3, r3⟩ := r.setL hp ec (hx.append (.cons y1 .nil))
            exact ⟨p, us, _, rfl, rfl, hp, by rw [hx.length]; exact Nat.lt_of_lt_of_le hl (by decide), af as _ _ l3 r3 .non⟩
        · cases e
      | _ => cases e
  · cases e
end
end F3

/-! F3, part h: a law from its code. -/
namespace F3
open PySem PySem.Spec PyProof.Rows L2

end F3

/-! F3, part i: how written arguments come to parameters. -/
namespace F3
open PySem PySem.Spec PyProof.Rows L2

/-- where a parameter's value comes from: the i-th positional one, the i-th keyword's, the i-th default, the i-th keyword-only default that is wanted -/
inductive Src where
  | u (i : Nat) | w (i : Nat) | t (i : Nat) | m (i : Nat)
def pick {A : Type} (us ws ts ms : List A) : Src → Option A
  | .u i => us[i]?
  | .w i => ws[i]?
  | .t i => ts[i]?
  | .m i => ms[i]?
def Src.inb (a b c d : Nat) : Src → Bool
  | .u i => decide (i < a)
  | .w i => decide (i < b)
  | .t i => decide (i < c)
  | .m i => decide (i < d)
section
variable {K : PySem.W.Frag} {cl : ClW} {as : As} {H : Hp}
theorem pick_len {A : Type} {us ws ts ms : List A} : ∀ {src : List Src}, (src.all fun s => s.inb us.length ws.length ts.length ms.length) = true → (src.filterMap (pick us ws ts ms)).length = src.length
  | [], _ => rfl
  | s :: r, h => by
    simp only [List.all_cons, Bool.and_eq_true] at h
    obtain ⟨h1, h2⟩ := h
    have : ∃ a, pick us ws ts ms s = some a := by
      cases s <;> simp only [Src.inb, decide_eq_true_eq] at h1 <;> exact ⟨_, List.getElem?_eq_getElem h1⟩
    obtain ⟨a, e⟩ := this
    rw [List.filterMap_cons, e]
    exact congrArg Nat.succ (pick_len h2)
theorem pick_vals {vs zs xs ys : List V} {us ws ts ms : List Value} (h1 : Vals vs us) (h2 : Vals zs ws) (h3 : Vals xs ts) (h4 : Vals ys ms) : ∀ src : List Src, Vals (src.filterMap (pick vs zs xs ys)) (src.filterMap (pick us ws ts ms))
  | [] => .nil
  | s :: r => by
    have one : ∀ {as : List V} {bs : List Value} (i : Nat), Vals as bs → (as[i]? = none ∧ bs[i]? = none) ∨ ∃ a b, as[i]? = some a ∧ bs[i]? = some b ∧ RelV a b := fun {as bs} i h => by
      cases e : as[i]? with
      | none => exact .inl ⟨rfl, h.none_of e⟩
      | some a => obtain ⟨b, e1, e2⟩ := h.get e; exact .inr ⟨a, b, rfl, e1, e2⟩
    have : (pick vs zs xs ys s = none ∧ pick us ws ts ms s = none) ∨ ∃ a b, pick vs zs xs ys s = some a ∧ pick us ws ts ms s = some b ∧ RelV a b := by
      cases s with
      | u i => exact one i h1
      | w i => exact one i h2
      | t i => exact one i h3
      | m i => exact one i h4
    rcases this with ⟨e1, e2⟩ | ⟨a, b, e1, e2, r'⟩
    · rw [List.filterMap_cons, List.filterMap_cons, e1, e2]; exact pick_vals h1 h2 h3 h4 r
    · rw [List.filterMap_cons, List.filterMap_cons, e1, e2]; exact .cons r' (pick_vals h1 h2 h3 h4 r)
theorem pick_sh {vs zs xs ys : List V} {us ws ts ms : List D} (h1 : ShL K cl as H vs us) (h2 : ShL K cl as H zs ws) (h3 : ShL K cl as H xs ts) (h4 : ShL K cl as H ys ms) : ∀ src : List Src, ShL K cl as H (src.filterMap (pick vs zs xs ys)) (src.filterMap (pick us ws ts ms))
  | [] => .nil
  | s :: r => by
    have one : ∀ {cs : List V} {bs : List D} (i : Nat), ShL K cl as H cs bs → (cs[i]? = none ∧ bs[i]? = none) ∨ ∃ a b, cs[i]? = some a ∧ bs[i]? = some b ∧ Sh K cl as H a b := fun {cs bs} i h => by
      cases e : cs[i]? with
      | none =>
        refine .inl ⟨rfl, List.getElem?_eq_none_iff.mpr ?_⟩
        rw [← h.length]
        exact List.getElem?_eq_none_iff.mp e
      | some a => obtain ⟨b, e1, e2⟩ := h.map1 e; exact .inr ⟨a, b, rfl, e1, e2⟩
    have : (pick vs zs xs ys s = none ∧ pick us ws ts ms s = none) ∨ ∃ a b, pick vs zs xs ys s = some a ∧ pick us ws ts ms s = some b ∧ Sh K cl as H a b := by
      cases s with
      | u i => exact one i h1
      | w i => exact one i h2
      | t i => exact one i h3
      | m i => exact one i h4
    rcases this with ⟨e1, e2⟩ | ⟨a, b, e1, e2, r'⟩
    · rw [List.filterMap_cons, List.filterMap_cons, e1, e2]; exact pick_sh h1 h2 h3 h4 r
    · rw [List.filterMap_cons, List.filterMap_cons, e1, e2]; exact .cons r' (pick_sh h1 h2 h3 h4 r)
variable {x qual : Str} {params : Arguments} {body : List Stmt} {scope : Scope} {dvs : List V} {kws : List (Str × V)} {f : Addr} {fd : FuncData} {ps ks : List Str} {n : Nat}
theorem kb_of {src : List Src} {ms : List V} {dt dm : List D} {gD : List D → List D → List D} (hT : ∀ as H, ShL K cl as H dvs dt) (hM : ∀ as H, ShL K cl as H ms dm) (hin : (src.all fun s => s.inb n ks.length dt.length dm.length) = true) (hps : src.length = ps.length)
    (hg : ∀ ds es : List D, ds.length = n → es.length = ks.length → gD ds es = src.filterMap (pick ds es dt dm))
    (its mv : List Value) (rT : Vals dvs its) (rM : Vals ms mv)
    (h : ∀ (s : Shared) (us ws : List Value), K.In s.heap → us.length = n → ws.length = ks.length → BindsTo s fd ⟨us, ks.zip ws⟩ (ps.zip (src.filterMap (pick us ws its mv)))) : KB K cl fd ps n ks gD := by
  refine ⟨fun s us ws hK h1 h2 => ⟨_, h s us ws hK h1 h2, fun as H st vs zs ds es _ r1 r2 x1 x2 => ?_⟩⟩
  have l1 : ds.length = n := by rw [← x1.length, r1.length, h1]
  have l2 : es.length = ks.length := by rw [← x2.length, r2.length, h2]
  rw [hg ds es l1 l2]
  refine ⟨_, pick_vals r1 r2 rT rM src, pick_sh x1 x2 (hT as H) (hM as H) src, ?_⟩
  rw [pick_len (by rw [l1, l2]; exact hin), hps]
/-- no defaults of positional parameters; ms: the keyword-only ones that lack -/
theorem kb_0 (F : FunD K x qual params body scope [] kws f fd) (n : Nat) (ks : List Str) (ms : List (Str × V)) (src : List Src) {dm : List D} {gD : List D → List D → List D} (hms : ∀ q ∈ ms, q ∈ kws) (hM : ∀ as H, ShL K cl as H (ms.map (·.2)) dm)
    (hin : (src.all fun s => s.inb n ks.length 0 dm.length) = true) (hps : src.length = ps.length) (hg : ∀ ds es : List D, ds.length = n → es.length = ks.length → gD ds es = src.filterMap (pick ds es [] dm))
    (h : ∀ (Dk : Addr) (kV doc pm : Value) (an : Option Addr) (cdv ct : Value) (us mv ws : List Value), us.length = n → mv.length = ms.length → ws.length = ks.length → (ms ≠ [] → kV = .ref Dk) →
      KwChain Dk ((ms.map (·.1)).zip mv) (bindArgs (PySem.W.fnOf x qual params body scope .none kV doc pm an cdv ct) ⟨us, ks.zip ws⟩) (ps.zip (src.filterMap (pick us ws [] mv)))) : KB K cl fd ps n ks gD := by
  obtain ⟨oc, od, dV, kV, doc, pm, an, cdv, ct, osl, rfl, lk, hcd, hD, hK⟩ := F.ex
  rcases hD with ⟨_, rfl⟩ | ⟨e, _⟩
  · have hx : ∃ (Dk : Addr) (mv : List Value), mv.length = ms.length ∧ Vals (ms.map (·.2)) mv ∧ (∀ q ∈ (ms.map (·.1)).zip mv, PySem.W.nsIn K Dk q.1 = some (some q.2)) ∧ (ms ≠ [] → kV = .ref Dk) := by
      rcases hK with e | ⟨Dk, rfl, hq⟩
      · subst e
        cases ms with
        | nil => exact ⟨0, [], rfl, .nil, (fun _ z => by cases z), fun z => absurd rfl z⟩
        | cons m ms => exact absurd (hms m List.mem_cons_self) (by simp)
      · obtain ⟨mv, l, rv, a⟩ := kwd_vals (ms := ms) fun q hm => hq q (hms q hm)
        exact ⟨Dk, mv, l, rv, a, fun _ => rfl⟩
    obtain ⟨Dk, mv, l, rv, a, hk⟩ := hx
    refine kb_of (dvs := []) (ms := ms.map (·.2)) (dt := []) (fun _ _ => .nil) hM hin hps hg [] mv .nil rv fun s us ws X l1 l2 => ?_
    exact BindsTo.of_looks fun M => KwChain.looks X a (h Dk kV doc pm an cdv ct us mv ws l1 l l2 hk)
  · exact absurd rfl e
/-- every parameter by its place, no defaults -/
theorem kb_p (F : FunD K x qual params body scope [] [] f fd) (h : ∀ (kV doc pm : Value) (an : Option Addr) (cdv ct : Value) (us : List Value), us.length = ps.length → bindArgs (PySem.W.fnOf x qual params body scope .none kV doc pm an cdv ct) ⟨us, []⟩ = pure (ps.zip us)) : KB K cl fd ps ps.length [] (fun ds _ => ds) := by
  have b := FunD.bindsN F h
  refine ⟨fun s us ws hK h1 h2 => ⟨us, ?_, fun as H st vs zs ds es _ r1 r2 x1 x2 => ⟨vs, r1, x1, by rw [← x1.length, r1.length, h1]⟩⟩⟩
  have := b s us hK (by rw [List.append_nil]; exact h1)
  rw [List.append_nil] at this
  exact this
/-- a def that can be called -/
structure Cal (P : Program) (w : World) (K : PySem.W.Frag) (mg : Str → Option Value) (base : Heap) (cl : ClW) (k : Nat) (x : Str) (f : Addr) (fd : FuncData) (ps : List Str) (m : List D → Store → Res D) : Prop where
  G : FnG P w K mg base k f fd ps (spF K cl ps.length m)
  g : mg x = some (.ref f)
  kp : PySem.W.keepIn K (.ref f) = true
end
end F3

/-! F3, part j: methods of lists, in, reversal. -/
namespace F3
open PySem PySem.Spec PyProof.Rows L2

/-! ### on data -/
def inB (x y : D) (st : Store) : Option Bool := (pyD st x).bind fun p => (pyD st y).bind fun q => match q with
  | .list qs => if SeqAt.shaped p = true ∧ SeqAt.shaped (.list qs) = true then some (qs.any fun z => PyData.eqv z p) else none
  | _ => none
section
variable {X : Cx} {cl : ClW} {W : WX} {K : PySem.W.Frag} {as : As} {H : Hp} {st : Store}
theorem inB_data {x y : D} {b : Bool} {v w : V} (r : Rel K cl as H st) (e : inB x y st = some b) (s1 : Sh K cl as H v x) (s2 : Sh K cl as H w y) :
    ∃ d ds, Dp K H v d ∧ Dp K H w (.list ds) ∧ SeqAt.shaped d = true ∧ SeqAt.shaped (.list ds) = true ∧ b = ds.any fun z => PyData.eqv z d := by
  unfold inB at e
  cases e1 : pyD st x with
  | none => rw [e1] at e; cases e
  | some p =>
    rw [e1] at e
    simp only [Option.bind] at e
    cases e2 : pyD st y with
    | none => rw [e2] at e; cases e
    | some q =>
      rw [e2] at e
      cases q with
      | list qs =>
        dsimp only at e
        split at e
        · rename_i h
          cases e
          exact ⟨p, qs, dp_of r e1 s1, dp_of r e2 s2, h.1, h.2, rfl⟩
        · cases e
      | _ => cases e
theorem Rm.u65 {k : Nat} {A : Around} (r : Room k A) : A.units + 65 < cLine := by have := r.un; omega
variable {o e : Expr} {es : List Expr} {f : Ex} {fa : Exs} {name : Str} {apos cpos pos : Pos} {T : Ty} {id : String} {r : V → List V → Hp → VK → Prop} {om : Om} {n : Nat}
theorem fe_bm (pa : PlainAttrs T.nm) (slot : Slot T.nm name id) (hty : typeOf (.builtin id) = pure (.type "method_descriptor")) (hm : MtR X id r) (hr : Okm X.K cl r om) (ho : FE X cl W o f) (ha : FA X cl W n (e :: es) fa)
    (hbase : attributeBase o name X.env (eval o X.env) = eval o X.env := by rfl) (hfew : ((backTo cpos (starEach (e :: es) X.env)).all (fun x => !x.1) && (backToKw cpos (keywordEach [] X.env)).all (fun x => x.1.isSome) && decide ((e :: es).length + ([] : List Keyword).length + (if ([] : List Keyword).isEmpty then 0 else 1) < 30)) = true := by rfl) (hline : (apos.endLine == cpos.line) = true := by rfl) (hs : starEach (e :: es) X.env = (false, eval e X.env) :: starEach es X.env := by rfl) (hplain : (backTo cpos (starEach es X.env)).any (·.1) = false := by rfl) :
    FE X cl W (.Call (.Attribute o name apos) (e :: es) [] cpos) (eBm T om f fa) := PE.w (pe_bm pa slot hty hm ho ha.pa hbase hfew hline hs hplain) (imp_bm (n := n) (es := es) hr)
end
end F3

/-! F3, part k: exceptions: try, kept ones. -/
namespace F3
open PySem PySem.Spec PyProof.Rows L2

section
variable {X : Cx} {pins : List (Addr × Obj)} {sg : L2.St} {H : Hp} {s : Shared} {a : Addr}
end
section
variable {X : Cx} {x n : Str} {c : Value} {i : Nat} {body suite : List Stmt} {b0 : Stmt} {np pos pos' : Pos} {tb : WX → TS} {ts : TS} {Wo : WX}
end
/-! ### the code -/
/-- which of the classes CS a clause takes -/
def clause (CS tb : List String) (c : String) : Option Bool := if c ∈ CS then some (decide (c ∈ tb)) else none
section
variable {X : Cx} {cl : ClW} {x n : Str} {c : Value} {i : Nat} {body suite : List Stmt} {b0 : Stmt} {np pos pos' : Pos} {Wo : WX} {bc uc : Sm} {CS tb : List String}
end
/-! ### raise X('..') -/
/-! ### isinstance of what may be an exception -/
section
variable {X : Cx} {cl : ClW} {W : WX} {K : PySem.W.Frag}
end
end F3

/-! F3, part l: what the head tells of classes of exceptions. -/
namespace F3
open PySem PySem.Spec PyProof.Rows L2

/-- where classes stand, and the world -/
abbrev gw (K : PySem.W.Frag) (w : World) : ClW := ⟨gaC K, w⟩
theorem excC_of {K : PySem.W.Frag} {x : String} (h : excCB K x = true) : ExcC K (gaC K x) := by
  unfold excCB at h
  simp only [Bool.and_eq_true, beq_iff_eq] at h
  exact ⟨h.1.1.1.1.1.1.1, h.1.1.1.1.1.1.2, h.1.1.1.1.1.2, h.1.1.1.1.2, h.1.1.1.2, h.1.1.2, h.1.2, h.2⟩
theorem clause_in {CS tb : List String} {x : String} {b : Bool} (h : clause CS tb x = some b) : x ∈ CS ∧ b = decide (x ∈ tb) := by
  unfold clause at h
  split at h
  · rename_i hm
    exact ⟨hm, (Option.some.inj h).symm⟩
  · cases h
end F3

/-! F3, part m: exceptions of classes with an own __init__ that stores one thing. -/
namespace F3
open PySem PySem.Spec PyProof.Rows L2

/-! ### what a class must give -/
/-- calling the class at C: an empty exception is laid, then the own __init__ -/
def NewAt (C : Addr) (h : Heap) : Prop := ∀ {prog : Program} {w : World} {A : Around} {R : Result → Shared → Prop} {g : Array GenState} {d : Drawn} {t : Nat} {os : OsState} {rest : List Value} {fI : Addr},
  PySem.W.Looks (model prog w) h (typeLookup (.ref C) "__init__") (some (.ref fI)) → (∀ self, PySem.W.Looks (model prog w) h (bindSpecial (.ref fI) self) (.ref fI, [self])) → rest.length ≤ sizeLine →
  codeAny (model prog w) (A.under (.builtin "type.__call__" ⟨.ref C :: rest, []⟩)) (.call (.ref fI) ⟨.ref (h.objs.size + 1) :: rest, []⟩) (PySem.W.InitBack (h.objs.size + 1) R)
    ⟨(h.push (PySem.W.kdv_tup rest)).push (PySem.HandSPX.excO C h.objs.size), g, d, t, os⟩ → codeAny (model prog w) A (.call (.ref C) ⟨rest, []⟩) R ⟨h, g, d, t, os⟩
/-- the base's __init__, called of an empty exception -/
def IniAt (C : Addr) (ini : String) (h : Heap) : Prop := ∀ {prog : Program} {w : World} {A : Around} {R : Result → Shared → Prop} {g : Array GenState} {d : Drawn} {t : Nat} {os : OsState} {rest : List Value} {e t0 : Addr},
  h.get? e = some (PySem.HandSPX.excO C t0) → rest.length ≤ sizeLine → (∀ h' t1, (∀ b o, b ≠ e → h.get? b = some o → h'.get? b = some o) → h'.get? e = some (PySem.HandSPX.excO C t1) → R (.ok (.ret .none)) ⟨h', g, d, t, os⟩) →
  codeAny (model prog w) A (.call (.builtin ini) ⟨.ref e :: rest, []⟩) R ⟨h, g, d, t, os⟩
structure OxC (K : PySem.W.Frag) (C : Addr) (ini : String) : Prop where
  cd : ∃ cd, PySem.W.clsIn K C = some cd ∧ cd.mro.isEmpty = false ∧ cd.mro.contains (.type "object") = true ∧ (∀ self, PySem.refuseLoop self "__setattr__" cd.mro = pure ()) ∧ cd.hasDict = true
  new : ∀ h, K.In h → NewAt C h
  ini : ∀ h, K.In h → IniAt C ini h
  sa : PySem.W.findIn K (.ref C) "__setattr__" = some (some (.builtin "object.__setattr__"))
  exC : PySem.W.subIn K (.ref C) (.type "BaseException") = some true
  tyC : PySem.W.typeIn K (.ref C) = some (.type "type")
  kC : PySem.W.keepIn K (.ref C) = true

/-! ### from the head -/
theorem refsT_cases {bt : List Value} : ∀ l : List Value, refsT bt l = true → (∃ c r, l = .ref c :: r ∧ refsT bt r = true) ∨ l = bt
  | .ref c :: r, e => .inl ⟨c, r, rfl, e⟩
  | [], e => .inr (beq_iff_eq.mp e)
  | .none :: _, e | .ellipsis :: _, e | .notImplemented :: _, e | .bool _ :: _, e | .int _ _ :: _, e | .float _ _ :: _, e | .str _ _ :: _, e | .bytes _ _ :: _, e | .type _ :: _, e | .builtin _ :: _, e => .inr (beq_iff_eq.mp e)
theorem refsT_has {bt : List Value} (X : String) : ∀ l : List Value, refsT bt l = true → l.contains (.type X) = bt.contains (.type X)
  | [], e => by rcases refsT_cases _ e with ⟨c, r, q, _⟩ | q
                · cases q
                · rw [← q]
  | a :: r, e => by
    rcases refsT_cases _ e with ⟨c, r', q, h⟩ | q
    · obtain ⟨rfl, rfl⟩ := List.cons.inj q
      rw [List.contains_cons, refsT_has X _ h]
      rfl
    · rw [q]
theorem refsT_pass {bt : List Value} (p : ∀ self, PySem.refuseLoop self "__setattr__" bt = pure ()) (self : Value) : ∀ l : List Value, refsT bt l = true → PySem.refuseLoop self "__setattr__" l = pure ()
  | [], e => by rcases refsT_cases _ e with ⟨c, r, q, _⟩ | q
                · cases q
                · rw [q]; exact p self
  | a :: r, e => by
    rcases refsT_cases _ e with ⟨c, r', q, h⟩ | q
    · obtain ⟨rfl, rfl⟩ := List.cons.inj q
      rw [PySem.refuseLoop_ref]
      exact refsT_pass p self _ h
    · rw [q]
      exact p self
theorem oxB_obj {K : PySem.W.Frag} {C : Addr} {bt : List Value} {newId : String} (q : oxB K C bt newId = true) :
    ∃ nm qn N bs bm sn sub ab col dd k0 k1 k2 k3 k5, K.lookup C = some (excClassObj nm qn C N bs bm true sn sub ab col dd k0 k1 k2 k3 k5 newId) ∧ refsT bt bm = true := by
  unfold oxB at q
  split at q
  · rename_i dd cd sl ho
    split at q
    · rename_i C' bm k0 k1 k2 k3 n k5 hm hs
      simp only [Bool.and_eq_true, beq_iff_eq, Bool.not_eq_true'] at q
      obtain ⟨⟨⟨⟨rfl, rfl⟩, hdel⟩, hhd⟩, ht⟩ := q
      obtain ⟨nm, bs, mro, ns, qn, hd, sn, sub, ab, col, del⟩ := cd
      dsimp only at hm hdel hhd
      subst hm hdel hhd
      have hsl : sl = #[k0, k1, k2, k3, some (.builtin n), k5] := by
        obtain ⟨l⟩ := sl
        simp only at hs
        rw [hs]
      subst hsl
      exact ⟨_, _, _, _, _, _, _, _, _, _, _, _, _, _, _, ho, ht⟩
    · cases q
  · cases q
/-- over a built-in class that makes its own instances -/
theorem ox_of {K : PySem.W.Frag} {C : Addr} {bt : List Value} {B newId ini : String} (F : ExcBaseFacts B newId ini bt) (p : ∀ self, PySem.refuseLoop self "__setattr__" bt = pure ()) (ob : bt.contains (.type "object") = true) (q : oxB K C bt newId = true)
    (sa : PySem.W.findIn K (.ref C) "__setattr__" = some (some (.builtin "object.__setattr__"))) (exC : PySem.W.subIn K (.ref C) (.type "BaseException") = some true) (tyC : PySem.W.typeIn K (.ref C) = some (.type "type")) (kC : PySem.W.keepIn K (.ref C) = true) : OxC K C ini := by
  obtain ⟨nm, qn, N, bs, bm, sn, sub, ab, col, dd, k0, k1, k2, k3, k5, hC, hb⟩ := oxB_obj q
  have hb' : refsT bt (.ref C :: bm) = true := hb
  refine ⟨⟨{ name := nm, bases := bs, mro := .ref C :: bm, ns := N, qualname := qn, hasDict := true, slotNames := sn, subclasses := sub, abstract := ab, collection := col, hasDel := false }, ?_, rfl, ?_, fun self => refsT_pass p self _ hb', rfl⟩, ?_, ?_, sa, exC, tyC, kC⟩
  · unfold PySem.W.clsIn
    rw [hC] <;> rfl
  · show (Value.ref C :: bm).contains (.type "object") = true
    rw [refsT_has _ _ hb']
    exact ob
  · intro h X prog w A R g d t os rest fI hi hbs hr hq
    exact PySem.HandSPX.call_own F (fun Y => refsT_has Y bm hb) (X _ _ hC) hi hbs hr hq
  · intro h X prog w A R g d t os rest e t0 he hr hq
    exact PySem.HandSPX.init_base F (fun Y => refsT_has Y bm hb) (X _ _ hC) he hr hq

/-! ### self.f = v, the first one -/
theorem osa_first {prog : Program} {w : World} {A : Around} {R : Result → Shared → Prop} {hp : Heap} {g : Array GenState} {d : Drawn} {t : Nat} {os : OsState} {K : PySem.W.Frag} {name : Str} {tk : Tok} {v : Value} {x C : Addr} {fv : Array Value} {cd : ClassData}
    (X : K.In hp) (hx : hp.get? x = some { cls := .ref C, data := .fields fv }) (hcd : PySem.W.clsIn K C = some cd) (ne : cd.mro.isEmpty = false) (hob : cd.mro.contains (.type "object") = true) (ps : ∀ self, PySem.refuseLoop self "__setattr__" cd.mro = pure ())
    (hh : cd.hasDict = true) (ha : PySem.W.findIn K (.ref C) name = some none)
    (hq : ∀ h' tk' dx, (∀ b o, b ≠ x → hp.get? b = some o → h'.get? b = some o) → hp.objs.size ≤ dx → dx ≠ x → h'.get? x = some { cls := .ref C, dict := some dx, data := .fields fv } →
      h'.Ns1 dx (fun y => if y = name then some v else none) → R (.ok (.ret .none)) ⟨h', g, d, tk', os⟩) :
    codeAny (model prog w) A (.call (.builtin "object.__setattr__") ⟨[.ref x, .str name tk, v], []⟩) R ⟨hp, g, d, t, os⟩ := by
  have I : PySem.W.InstAt hp x { cls := .ref C, data := .fields fv } C none := ⟨hx, rfl, rfl, trivial⟩
  have SF := PySem.F.store_object
  have hxs : x ≠ hp.objs.size := Nat.ne_of_lt (Heap.lt_size hx)
  have sub : PySem.W.Looks (model prog w) hp (isInstance (.ref x) (.type "object")) true := I.type.andThen (PySem.W.looks_mroIn X (by unfold PySem.W.mroIn; rw [hcd, Option.bind_some, if_neg (by rw [ne]; decide), hob]))
  refine codeAny_call_builtin SF.slot.plain SF.entry (@PySem.W.check_slot (model prog w) _ _ ⟨hp, g, d, t, os⟩ "object.__setattr__" "object" "__setattr__" (.ref x) [.str name tk, v] [] _ SF.kind SF.split sub (SF.args (.ref x) (.str name tk) v) ?_)
  have hmr : PySem.W.Looks (model prog w) hp (mroOf (.ref C)) cd.mro := (PySem.W.looks_clsIn X hcd).andThen .now
  have L3 : PySem.W.Looks (model prog w) hp (Builtin.ObjectAttr.storeTaker? none) none := .now
  have hcls : PySem.W.Looks (model prog w) hp (classData C) cd := PySem.W.looks_clsIn X hcd
  rw [PySem.W.osa_eq, PySem.refuse_eq]
  refine wpAny_bind (wpAny_bind (I.type.at (wpAny_bind (hmr.at ?_))))
  rw [ps]
  refine wpAny_pure (wpAny_bind (I.type.at (wpAny_bind ((PySem.W.looks_findIn X ha).at (wpAny_bind (L3.at ?_))))))
  show wpAny _ _ (Builtin.ObjectAttr.storeInOwnDict (.ref x) (.ref C) (.str name tk) name v false) _ _ _
  obtain ⟨nm, bs, mro, ns, qn, hd, sn, sb, ab, col, del⟩ := cd
  dsimp only at hh
  subst hh
  unfold Builtin.ObjectAttr.storeInOwnDict Builtin.ObjectAttr.ownDictForStores
  repeat (first | with_reducible refine PySem.HandSPX.store_in_new ?_ ?_ | with_reducible refine wpAny_loadPart_at hx ?_ | with_reducible refine hcls.at ?_ | wp_step)
  · exact ⟨_, #[], _, (Heap.get?_update_ne _ _ _ _ hxs.symm).trans (Heap.get?_push_at rfl rfl), rfl, fun e he => absurd he (by simp), fun _ => rfl⟩
  · intro h' tk' hn' hs
    have hx1 : (hp.push { cls := .type "dict", data := .dict #[] }).get? x = some { cls := .ref C, data := .fields fv } := Heap.get?_push_of_some _ hx
    refine hq h' tk' hp.objs.size (fun b o hb ho => ?_) (Nat.le_refl _) hxs.symm ?_ hn'
    · exact (hs.2 b (Nat.ne_of_lt (Heap.lt_size ho))).trans ((Heap.get?_update_ne _ _ _ _ hb).trans (Heap.get?_push_of_some _ ho))
    · exact (hs.2 x hxs).trans (Heap.get?_update_self _ hx1 rfl)
section
variable {X : Cx} {pins : List (Addr × Obj)} {sg : L2.St} {H : Hp} {s : Shared} {a C : Addr} {f : Str} {y : V} {u : Value} {ini : String}
theorem ox_store (T : OxC X.K C ini) {Q : Unit → Shared → Prop} {E : Value → Shared → Prop} {A : Around} (I : L2.Inv X pins sg H s) (e : H a = some (exo a C none)) (hno : PySem.W.findIn X.K (.ref C) f = some none) (ry : RelV y u)
    (h : ∀ dx s', H dx = none → dx ≠ a → L2.Inv X pins sg (upd (upd H dx (exd dx [(f, y)])) a (exo a C (some dx))) s' → Q () s') : wpAny (model X.prog X.w) A (setAttr (.ref a) f u) Q E s := by
  obtain ⟨cd, hcd, ne, ob, ps, hh⟩ := T.cd
  obtain ⟨t1, ho⟩ := exo_at I.hok e
  obtain ⟨hp, g, d, t, os⟩ := s
  refine PySem.W.set_plain I.kIn (ox := { cls := .ref C, dict := none, data := .fields #[.ref t1, .none, .none, .none, .bool false, .none] }) (od := none) ⟨ho, rfl, rfl, trivial⟩ T.sa ?_
  refine osa_first I.kIn ho hcd ne ob ps hh hno (fun h' tk' dx k dn dne hx hn => ?_)
  have hnd : H dx = none := I.hok.fresh dn
  have nd : ∀ {b : Addr} {o : Obj}, hp.get? b = some o → b ≠ dx := fun {b o} q => Nat.ne_of_lt (Nat.lt_of_lt_of_le (Heap.lt_size q) dn)
  have na : ∀ {b : Addr}, H b = none → b ≠ a := fun {b} n z => by
    rw [z, e] at n
    cases n
  have Un1 : Un X.fs [] H (upd (upd H dx (exd dx [(f, y)])) a (exo a C (some dx))) hp h' := {
    keep := fun b o q n _ _ => k b o (na n) q
    slot := fun b o q n _ _ => ⟨o.slots, k b o (na n) q⟩
    free := fun b o q n _ => by rw [upd_ne (na n), upd_ne (nd q)]; exact n
    there := fun b o q _ => by
      by_cases hb : b = a
      · exact ⟨_, by rw [hb]; exact hx⟩
      · exact ⟨o, k b o hb q⟩
    tups := fun b xs q => by rw [upd_ne (at_ne e q exo_tup), upd_ne (ne_of_none q hnd)]; exact q
    frzs := fun b o v q => by rw [upd_ne (at_ne e q exo_frz), upd_ne (ne_of_none q hnd)]; exact q
    tbls := fun b ps q => ⟨#[], by rw [upd_ne (at_ne e q exo_tbl), upd_ne (ne_of_none q hnd), q]; simp⟩ }
  refine h dx _ hnd dne (I.un (t' := tk') Un1 fun b o q => ?_)
  by_cases hb : b = a
  · subst hb
    rw [upd_same] at q
    cases q
    exact exo_ok hx
  · rw [upd_ne hb] at q
    by_cases hd : b = dx
    · subst hd
      rw [upd_same] at q
      cases q
      exact exd_ok hn (relO_put (fs := []) ry fun g => True.intro)
    · rw [upd_ne hd] at q
      exact (I.hok b o q).stay (fun c v hc z => k c v (by
          rcases hc with hc | hc
          · rw [hc]
            exact hb
          · exact at_ne e hc exo_own) z)
        (fun c hc => by rw [upd_ne (at_ne e hc exo_own), upd_ne (ne_of_none hc hnd)]; exact hc) (fun c xs hc => by rw [upd_ne (at_ne e hc exo_tup), upd_ne (ne_of_none hc hnd)]; exact hc)
theorem ox_ini (T : OxC X.K C ini) {us : List Value} {Q : Value → Shared → Prop} {E : Value → Shared → Prop} {A : Around} (I : L2.Inv X pins sg H s) (e : H a = some (exo a C none)) (hl : us.length ≤ sizeLine) (h : ∀ s', L2.Inv X pins sg H s' → Q .none s') :
    wpAny (model X.prog X.w) A (call (.builtin ini) (.ref a :: us)) Q E s := by
  obtain ⟨t1, ho⟩ := exo_at I.hok e
  obtain ⟨hp, g, d, t, os⟩ := s
  refine wpAny_call (T.ini hp I.kIn ho hl fun h' t2 k hx => ?_)
  have J := I.write (t' := t) (x := a) (e := a) (o := exo a C none) (by rw [e]; exact True.intro) (.inl rfl) k ⟨_, hx⟩ (exo_ok hx)
  have eu : upd H a (exo a C none) = H := by
    funext b
    by_cases hb : b = a
    · rw [hb, upd_same, e]
    · rw [upd_ne hb]
  rw [eu] at J
  exact h _ J
end
/-! ### the __init__ as a def -/
/-- B.__init__ is found: B a built-in class, or one of ours -/
def IniOf (X : Cx) (B : Str) (ini : String) : Prop := PySem.W.handedIn (.builtin ini) = true ∧
  ((X.mg B = none ∧ ∃ T, bootBuiltins B = some (.type T) ∧ B ≠ "__name__" ∧ typeOf (.type T) = pure (.type "type") ∧ Manifest.isStub T = false ∧ PySem.W.findCls X.K (.type T) (.type "type") "__init__" = some (.val (.builtin ini))) ∨
  ∃ T, X.mg B = some (.ref T) ∧ PySem.W.specialIn X.K (.ref T) "__getattribute__" = some (some (.builtin "type.__getattribute__")) ∧ PySem.W.readsIn X.K T (.type "type") = true ∧ PySem.W.findCls X.K (.ref T) (.type "type") "__init__" = some (.val (.builtin ini)))
def rIni (ini : String) (K : PySem.W.Frag) (ta : TA) : TE := fun sg H Q => ta sg H fun vs H1 => ∃ (a C : Addr) (ws : List V), vs = .ref a :: ws ∧ ws.length ≤ 1000 ∧ OxC K C ini ∧ H1 a = some (exo a C none) ∧ Q .non H1
theorem pe_ini {X : Cx} {B : Str} {ini : String} {e : Expr} {es : List Expr} {ta : TA} {p1 p2 pos : Pos} {pl : Sem Bool} (hg : Gl X B) (hB : IniOf X B ini) (hdb : (B == ("__debug__" : Str)) = false) (ha : PA X (e :: es) ta)
    (hc : eval (.Call (.Attribute (.Name B p1) "__init__" p2) (e :: es) [] pos) X.env = (do
      let ov ← eval (.Name B p1) X.env
      standAt p2.atName
      let (f, first) ← holding [ov] (getMethod ov "__init__" pl)
      callWith pos f first (backTo pos (starEach (e :: es) X.env)) (backToKw pos (keywordEach [] X.env))) := by rfl)
    (he : starEach (e :: es) X.env = (false, eval e X.env) :: starEach es X.env := by rfl) (hpl : (backTo pos (starEach es X.env)).any (·.1) = false := by rfl) :
    PE X (.Call (.Attribute (.Name B p1) "__init__" p2) (e :: es) [] pos) (rIni ini X.K ta) := by
  refine ⟨fun pins s sg H Q I h => ?_⟩
  have fin : ∀ s1, L2.Inv X pins sg H s1 → wpAny (model X.prog X.w) X.A (callWith pos (Value.builtin ini) [] (backTo pos (starEach (e :: es) X.env)) (backToKw pos (keywordEach [] X.env))) (EP X pins sg Q) X.xe s1 := fun s1 I0 => by
    show wpAny _ _ (callWith pos (Value.builtin ini) [] (backTo pos (starEach (e :: es) X.env)) []) _ _ _
    refine PyProof.Rows.callWith_method1 (thn (ha.run pos pins _ sg H _ I0 h) fun us s1 ⟨vs, H1, I1, r1, a, C, ws, ev, hl, T, ea, q⟩ => ?_) he hpl
    subst ev
    cases r1 with
    | @cons _ u0 _ ur ra rw' =>
      obtain rfl : u0 = Value.ref a := ra
      have hlen : ur.length ≤ sizeLine := by
        rw [← Paired.length rw', sizeLine_eq]
        omega
      exact ox_ini T I1 ea hlen fun s' J => ⟨.non, H1, J, rfl, q⟩
  obtain ⟨hh, hB⟩ := hB
  rcases hB with ⟨hm, T, hv, hn, ht, hst, hf⟩ | ⟨T, hm, hga, hr, hf⟩
  · refine PySem.W.methodCall_KW (ld_blt I hg hm hv ?_ hn hdb) hc
    obtain ⟨m, fr⟩ := I.fr
    exact PySem.W.method_type fr I.ok.mod.kin ht hst hf hh (fin _ (I.tok _))
  · refine PySem.W.methodCall_KW (ld_glob I hg hm ?_ hdb) hc
    exact PySem.W.method_cls I.kIn hga (PySem.W.cls_value I.kIn hr hf hh (fin _ (I.tok _)))
/-- self.f = e -/
def rOst (K : PySem.W.Frag) (f : Str) (to te : TE) : TS := fun D sg H => te sg H fun y H1 => to sg H1 fun x H2 => ∃ (a C : Addr) (ini : String), x = .ref a ∧ OxC K C ini ∧ PySem.W.findIn K (.ref C) f = some none ∧
  H2 a = some (exo a C none) ∧ ∀ dx, H2 dx = none → dx ≠ a → D.nx sg (upd (upd H2 dx (exd dx [(f, y)])) a (exo a C (some dx)))
theorem ps_ox {X : Cx} {o e : Expr} {to te : TE} {f : Str} {p' pos : Pos} (ho : PE X o to) (he : PE X e te) (hs : swapsWith e (some (.Attribute o f p')) pos.line X.env = pure false := by rfl) : PS X (.Assign [.Attribute o f p'] e pos) (rOst X.K f to te) := by
  refine ⟨fun pins s sg H D I h => ?_⟩
  refine plainObj_wpAny_Assign_Attribute (thn (he.run pins s sg H _ I h) fun v s1 ⟨y, H1, I1, r1, q1⟩ => thn (ho.run pins s1 sg H1 _ I1 q1) fun u s2 ⟨x, H2, I2, r2, a, C, ini, ex, T, hno, ea, q⟩ => ?_) hs
  subst ex
  obtain rfl : u = Value.ref a := r2
  exact ox_store T I2 ea hno r1 fun dx s' n ne J => ⟨sg, _, J, q dx n ne⟩
/-- def __init__(self, v): B.__init__(self, '..'); self.f = v -/
def spOx (K : PySem.W.Frag) (C : Addr) (f : Str) : Sp := fun vs H Q _ => ∃ (a : Addr) (v : V), vs = [.ref a, v] ∧ H a = some (exo a C none) ∧ ∀ dx, H dx = none → dx ≠ a → Q .non (upd (upd H dx (exd dx [(f, v)])) a (exo a C (some dx)))
theorem FunD.okX {P : Program} {w : World} {K : PySem.W.Frag} {mg : Str → Option Value} {base : Heap} {x qual : Str} {params : Arguments} {scope : Scope} {fI C : Addr} {fd : FuncData} {sn vn m f : Str} {ini : String} {c o e : Expr} {p1 p2 p3 : Pos}
    (F : FunD K x qual params [.Expr c p1, .Assign [.Attribute o f p2] e p3] scope [] [] fI fd) (S : FnScope [sn, vn] [sn, vn] scope) (T : OxC K C ini) (hno : PySem.W.findIn K (.ref C) f = some none)
    (hc : ∀ cdv A outer s H E, PS (cxOf (L2.CX P w) P w K mg base [sn, vn] qual scope fI cdv A outer s H E) (.Expr c p1) (fun D sg H => rIni ini K (tCons (tVar 0) (tCons (tC (.str m)) tNil)) sg H fun _ H1 => D.nx sg H1))
    (ho : ∀ cdv A outer s H E, PS (cxOf (L2.CX P w) P w K mg base [sn, vn] qual scope fI cdv A outer s H E) (.Assign [.Attribute o f p2] e p3) (rOst K f (tVar 0) (tVar 1))) : FnG P w K mg base 1 fI fd [sn, vn] (spOx K C f) := by
  refine FunD.okG F S (fun vs H Q E h => ?_) fun cdv A outer s H vs Q E hr hsp => ?_
  · obtain ⟨a, v, rfl, _⟩ := h
    rfl
  obtain ⟨a, v, rfl, ha, q⟩ := hsp
  refine ⟨_, pss_cons (hc cdv A outer s H E) (pss_one (ho cdv A outer s H E)), ?_⟩
  refine ⟨_, rfl, a, C, [.str m], rfl, by simp, T, ha, ?_⟩
  exact ⟨_, rfl, _, rfl, a, C, ini, rfl, T, hno, ha, fun dx n ne => q dx n ne⟩

/-! ### C(e) -/
/-- a class of ours with such an __init__ -/
structure Exc1 (P : Program) (w : World) (K : PySem.W.Frag) (mg : Str → Option Value) (base : Heap) (cl : ClW) (x : String) (f : Str) : Prop where
  g : mg (Str.ofString x) = some (.ref (cl x))
  T : ∃ ini, OxC K (cl x) ini
  F : ∃ fI fd sn vn, PySem.W.findIn K (.ref (cl x)) "__init__" = some (some (.ref fI)) ∧ PySem.W.typeIn K (.ref fI) = some (.type "function") ∧ FnG P w K mg base 1 fI fd [sn, vn] (spOx K (cl x) f) ∧ Binds K fd [sn, vn] []
/-- what the call of the class leaves, ahead of what is made of it -/
def rMk (C : Addr) (f : Str) (te : TE) : L2.St → Hp → XK → Prop := fun sg H Q => te sg H fun v H1 => ∀ d, H1 d = none → Q (.ref C) (some d) (upd H1 d (.xd [(f, v)]))
/-- what is known behind the call: the exception at a, its dict at d, holding v -/
def MadeP (X : Cx) (pins : List (Addr × Obj)) (sg : L2.St) (C : Addr) (f : Str) (v : V) (H1 : Hp) (R : Value → Shared → Prop) : Prop :=
  ∀ (a d : Addr) (hp : Heap) (s1 s2 : Shared) (H2 : Hp), H1 a = none → H1 d = none → d ≠ a → L2.Inv X pins sg H1 s1 → s1.heap.objs.size ≤ a → (∀ b o, s1.heap.get? b = some o → hp.get? b = some o) →
    H2 = upd (upd (upd H1 a (exo a C none)) d (exd d [(f, v)])) a (exo a C (some d)) → Un (frs X.stack) [] (upd H1 a (exo a C none)) H2 hp s2.heap → HOk X.prog X.w H2 s2.heap → s2.os = s1.os → AllBare s2.gens → R (.ref a) s2
section
variable {X : Cx} {cl : ClW} {x : String} {f : Str} {e : Expr} {es : List Expr} {p pos : Pos} {te : TE}
/-- the class is called -/
theorem call_ox (E : Exc1 X.prog X.w X.K X.mg X.base cl x f) (hr : Rm 2 X) (hg : Gl X (Str.ofString x)) (he : PE X e te) (hp0 : ∀ (pins : List (Addr × Obj)) (sg : L2.St) (H : Hp) (s : Shared) (er : Value) (s' : Shared), L2.Inv X pins sg H s → L2.CX X.prog X.w X.stack H s (fun _ _ _ => False) er s' → X.xe er s')
    (hdb : (Str.ofString x == ("__debug__" : Str)) = false := by decide)
    (hs : starEach [e] X.env = (false, eval e X.env) :: starEach [] X.env := by rfl) (hpl : (backTo pos (starEach [] X.env)).any (·.1) = false := by rfl) {pins : List (Addr × Obj)} {s : Shared} {sg : L2.St} {H : Hp} {R : Value → Shared → Prop} {G : V → Hp → Prop} (I : L2.Inv X pins sg H s)
    (h : te sg H G) (hG : ∀ v H1, G v H1 → MadeP X pins sg (cl x) f v H1 R) : wpAny (model X.prog X.w) X.A (eval (.Call (.Name (Str.ofString x) p) [e] [] pos) X.env) R X.xe s := by
  obtain ⟨ini, T⟩ := E.T
  obtain ⟨fI, fd, sn, vn, iC, tI, F, hb⟩ := E.F
  refine wpAny_Call_Name_kw (ld_glob I hg E.g ?_ hdb)
  have ha : PA X [e] (tCons te tNil) := pa_cons he pa_nil hs
  refine PySem.W.callWith_K (h₀ := X.base) I.ok.mod.kin T.kC (thn (ha.run pos pins s sg H (fun vs H1 => match vs with | [v] => G v H1 | _ => False) I h) fun us s1 ⟨vs, H1, I1, r1, q1⟩ => ⟨I1.kIn, ?_⟩) hs hpl
  match vs, r1, q1 with
  | [], _, q1 => exact q1.elim
  | _ :: _ :: _, _, q1 => exact q1.elim
  | [v], r1, q1 =>
    obtain ⟨u, rfl, rv⟩ := vals1 r1
    show wpAny _ _ (call (.ref (cl x)) [u]) _ _ _
    obtain ⟨hp, g, dr, tk, os⟩ := s1
    have hsz : hp.objs.size ≤ hp.objs.size + 1 := Nat.le_succ _
    have hn : H1 (hp.objs.size + 1) = none := I1.hok.fresh hsz
    have kk : ∀ b o, hp.get? b = some o → ((hp.push (PySem.W.kdv_tup [u])).push (PySem.HandSPX.excO (cl x) hp.objs.size)).get? b = some o := fun b o e => Heap.get?_push_of_some _ (Heap.get?_push_of_some _ e)
    have hget : ((hp.push (PySem.W.kdv_tup [u])).push (PySem.HandSPX.excO (cl x) hp.objs.size)).get? (hp.objs.size + 1) = some (PySem.HandSPX.excO (cl x) hp.objs.size) := by heap_get
    have I2 : L2.Inv X pins sg (upd H1 (hp.objs.size + 1) (exo (hp.objs.size + 1) (cl x) none)) ⟨(hp.push (PySem.W.kdv_tup [u])).push (PySem.HandSPX.excO (cl x) hp.objs.size), g, dr, tk, os⟩ :=
      I1.laid (t' := tk) (a := hp.objs.size + 1) (o := exo (hp.objs.size + 1) (cl x) none) (h' := (hp.push (PySem.W.kdv_tup [u])).push (PySem.HandSPX.excO (cl x) hp.objs.size)) kk hsz (exo_ok hget)
    have r2 : Vals [V.ref (hp.objs.size + 1), v] [Value.ref (hp.objs.size + 1), u] := .cons rfl (.cons rv .nil)
    have hus : ([u] : List Value).length ≤ sizeLine := by show 1 ≤ sizeLine; rw [sizeLine_eq]; omega
    have hbi : BindsTo ⟨(hp.push (PySem.W.kdv_tup [u])).push (PySem.HandSPX.excO (cl x) hp.objs.size), g, dr, tk, os⟩ fd ⟨[Value.ref (hp.objs.size + 1), u], []⟩ ([sn, vn].zip [Value.ref (hp.objs.size + 1), u]) := hb _ [Value.ref (hp.objs.size + 1), u] I2.kIn rfl
    refine wpAny_call (T.new hp I1.kIn (PySem.W.looks_findIn I1.kIn iC) (fun self => PySem.W.bind_fn I1.kIn self tI) hus
      (codeAny_mono (F.run _ X.stack _ _ ⟨[Value.ref (hp.objs.size + 1), u], []⟩ [Value.ref (hp.objs.size + 1), u] _ (fun w0 H2 => w0 = .non ∧ ∃ d, H1 d = none ∧ d ≠ hp.objs.size + 1 ∧ H2 = upd (upd (upd H1 (hp.objs.size + 1) (exo (hp.objs.size + 1) (cl x) none)) d (exd d [(f, v)])) (hp.objs.size + 1) (exo (hp.objs.size + 1) (cl x) (some d))) (fun _ _ _ => False) hr.gd (hr.rm.make (cl x) [u] []) (I2.env0.make (cl x) [u] []) hbi r2
        ⟨hp.objs.size + 1, v, rfl, upd_same, fun d hd ne => ⟨rfl, d, by rw [upd_ne ne] at hd; exact hd, ne, rfl⟩⟩) fun r s' hq' => ?_))
    cases r with
    | error er => exact hp0 pins sg _ _ er s' I2 hq'
    | ok fl =>
      cases fl with
      | ret u0 =>
        obtain ⟨v0, H2, os2, bare2, un2, hok2, rv0, ev, d, hd, ne, e2⟩ := hq'
        subst ev
        exact ⟨rv0, hG v H1 q1 _ d _ ⟨hp, g, dr, tk, os⟩ s' H2 hn hd ne I1 hsz kk e2 un2 hok2 os2 bare2⟩
      | next => exact False.elim hq'
      | brk => exact False.elim hq'
      | cont => exact False.elim hq'
/-- C(e), to be raised -/
theorem pmk_ox (E : Exc1 X.prog X.w X.K X.mg X.base cl x f) (hr : Rm 2 X) (hg : Gl X (Str.ofString x)) (he : PE X e te) (hp0 : ∀ (pins : List (Addr × Obj)) (sg : L2.St) (H : Hp) (s : Shared) (er : Value) (s' : Shared), L2.Inv X pins sg H s → L2.CX X.prog X.w X.stack H s (fun _ _ _ => False) er s' → X.xe er s')
    (hdb : (Str.ofString x == ("__debug__" : Str)) = false := by decide)
    (hs : starEach [e] X.env = (false, eval e X.env) :: starEach [] X.env := by rfl) (hpl : (backTo pos (starEach [] X.env)).any (·.1) = false := by rfl) : PMk X (.Call (.Name (Str.ofString x) p) [e] [] pos) (rMk (cl x) f te) := by
  intro pins s sg H Q I h
  obtain ⟨ini, T⟩ := E.T
  have key : ∀ v H1, (∀ d, H1 d = none → Q (.ref (cl x)) (some d) (upd H1 d (.xd [(f, v)]))) → MadeP X pins sg (cl x) f v H1 (MkP X pins sg Q) := by
    intro v H1 q a d hp s1 s2 H2 ha hd ne I1 hsz kk e2 un hok ho hb
    subst e2
    obtain ⟨hp1, g1, d1, t1, os1⟩ := s1
    obtain ⟨h2, g2, d2, t2, os2⟩ := s2
    have ed : (upd (upd (upd H1 a (exo a (cl x) none)) d (exd d [(f, v)])) a (exo a (cl x) (some d))) d = some (exd d [(f, v)]) := by rw [upd_ne ne, upd_same]
    refine mk_end (raises_own T.exC T.tyC) I1 hsz kk un hok ho hb upd_same ed hd ?_
    have eH : upd (del (upd (upd (upd H1 a (exo a (cl x) none)) d (exd d [(f, v)])) a (exo a (cl x) (some d))) a) d (.xd [(f, v)]) = upd H1 d (.xd [(f, v)]) := by
      funext c
      by_cases h1 : c = d
      · subst h1
        rw [upd_same, upd_same]
      · rw [upd_ne h1, upd_ne h1]
        by_cases h2 : c = a
        · subst h2
          rw [del_same, ha]
        · rw [del_ne h2, upd_ne h2, upd_ne h1, upd_ne h2]
    rw [eH]
    exact q d hd
  exact call_ox E hr hg he hp0 hdb hs hpl I h key
end
end F3

/-! F3, part n: try with any clauses; exceptions made; their fields; isinstance of several. -/
namespace F3
open PySem PySem.Spec PyProof.Rows L2

/-! ### the test of a clause: one name, or a tuple of names -/
structure HTest (X : Cx) (t : Expr) (cs : List Value) : Prop where
  run : ∀ {a : Addr} {pn : List (Addr × Obj)} {sg : L2.St} {H : Hp} {s : Shared} {b : Bool} {cls : Value} {Q : Bool → Shared → Prop} {E : Value → Shared → Prop}, L2.Inv (X.suite a pn) [] sg H s → PySem.W.Looks (model X.prog X.w) s.heap (typeOf (.ref a)) cls → PySem.W.exmAny X.K cls cs = some b →
    (∀ h', (∀ q o, s.heap.get? q = some o → h'.get? q = some o) → Q b { s with heap := h' }) →
    wpAny (model X.prog X.w) (X.A.mark (some (.ref a))) (eval t X.env) (fun c s1 => wpAny (model X.prog X.w) (X.A.mark (some (.ref a))) (excMatches (.ref a) c) Q E s1) E s
/-! ### try -/
inductive HdsG (X : Cx) : List ExceptHandler → List (List Value × Option Nat × TS) → Prop
  | nil : HdsG X [] []
  | one {t : Expr} {cs : List Value} {ts : TS} {b0 : Stmt} {suite : List Stmt} {pos' : Pos} {hds : List ExceptHandler} {l : List (List Value × Option Nat × TS)} (hc : HTest X t cs) (hsu : ∀ (a : Addr) (pn : List (Addr × Obj)), PSs (X.suite a pn) (b0 :: suite) ts) (r : HdsG X hds l) :
      HdsG X (.ExceptHandler (some t) none (b0 :: suite) pos' :: hds) ((cs, none, ts) :: l)
  | as_ {t : Expr} {cs : List Value} {ts : TS} {n : Str} {i : Nat} {b0 : Stmt} {suite : List Stmt} {pos' : Pos} {hds : List ExceptHandler} {l : List (List Value × Option Nat × TS)} (hc : HTest X t cs) (hi : X.N[i]? = some n) (hln : X.env.kindOf n = some .local)
      (hsu : ∀ (a : Addr) (pn : List (Addr × Obj)), PSs (X.suite a pn) (b0 :: suite) ts) (r : HdsG X hds l) : HdsG X (.ExceptHandler (some t) (some n) (b0 :: suite) pos' :: hds) ((cs, some i, ts) :: l)
section
variable {X : Cx} {body : List Stmt} {h0 : ExceptHandler} {hds : List ExceptHandler} {l : List (List Value × Option Nat × TS)} {pos : Pos} {tb : WX → TS} {Wo : WX}
end
end F3

/-! F3, part o: the code of try, of exceptions made, of their fields, of isinstance. -/
namespace F3
open PySem PySem.Spec PyProof.Rows L2

/-! ### try -/
abbrev ClsD := List String × Option Nat × Sm
def ClG (K : PySem.W.Frag) (cl : ClW) (cs : List Value) (CS tb : List String) : Prop := ∀ x b, clause CS tb x = some b → PySem.W.exmAny K (.ref (cl x)) cs = some b
inductive HdsF (X : Cx) (cl : ClW) (CS : List String) : List ExceptHandler → List ClsD → List (List Value × Option Nat × TS) → Prop
  | nil : HdsF X cl CS [] [] []
  | one {t : Expr} {cs : List Value} {tb : List String} {u : Sm} {b0 : Stmt} {suite : List Stmt} {pos' : Pos} {hds : List ExceptHandler} {l : List ClsD} {l2 : List (List Value × Option Nat × TS)} (hc : HTest X t cs) (hM : ClG X.K cl cs CS tb)
      (hsu : ∀ (a : Addr) (pn : List (Addr × Obj)), FSs (X.suite a pn) cl W0 (b0 :: suite) u) (r : HdsF X cl CS hds l l2) : HdsF X cl CS (.ExceptHandler (some t) none (b0 :: suite) pos' :: hds) ((tb, none, u) :: l) ((cs, none, tS X.K cl W0 u) :: l2)
  | as_ {t : Expr} {cs : List Value} {tb : List String} {u : Sm} {n : Str} {i : Nat} {b0 : Stmt} {suite : List Stmt} {pos' : Pos} {hds : List ExceptHandler} {l : List ClsD} {l2 : List (List Value × Option Nat × TS)} (hc : HTest X t cs) (hM : ClG X.K cl cs CS tb) (hi : X.N[i]? = some n) (hln : X.env.kindOf n = some .local)
      (hsu : ∀ (a : Addr) (pn : List (Addr × Obj)), FSs (X.suite a pn) cl W0 (b0 :: suite) u) (r : HdsF X cl CS hds l l2) : HdsF X cl CS (.ExceptHandler (some t) (some n) (b0 :: suite) pos' :: hds) ((tb, some i, u) :: l) ((cs, some i, tS X.K cl W0 u) :: l2)
section
variable {X : Cx} {cl : ClW} {CS : List String} {Wo : WX}
theorem HdsF.g {hds : List ExceptHandler} {l : List ClsD} {l2 : List (List Value × Option Nat × TS)} (h : HdsF X cl CS hds l l2) : HdsG X hds l2 := by
  induction h with
  | nil => exact .nil
  | one hc _ hsu _ ih => exact .one hc hsu ih
  | as_ hc _ hi hln hsu _ ih => exact .as_ hc hi hln hsu ih
end

/-! ### C(e): raised, or as a value -/
def sRaise1 (c fld : String) (f : Ex) : Sm := fun env st => ofR (f env st) env fun d s => .ex c [(fld, d)] env s
theorem pass_tk {X : Cx} {W : WX} (tk : Takes X W) (pins : List (Addr × Obj)) (sg : L2.St) (H : Hp) (s : Shared) (er : Value) (s' : Shared) (I : L2.Inv X pins sg H s) (h : L2.CX X.prog X.w X.stack H s (fun _ _ _ => False) er s') : X.xe er s' := tk er s' (XE.of_call I (fun _ _ _ z => z.elim) h)
section
variable {X : Cx} {cl : ClW} {W : WX} {x fld : String} {e : Expr} {f : Ex} {p pos rpos : Pos}
theorem shx {K : PySem.W.Frag} {as : As} {H : Hp} {st : Store} {v : V} {d : D} {dd : Addr} (r : Rel K cl as H st) (hd : H dd = none) (s : Sh K cl as H v d) :
    Rel K cl as (upd H dd (.xd [(Str.ofString fld, v)])) st ∧ Le as H as (upd H dd (.xd [(Str.ofString fld, v)])) ∧ ExcR K cl as (upd H dd (.xd [(Str.ofString fld, v)])) (.ref (cl x)) (some dd) x [(fld, d)] :=
  ⟨r.new hd, Le.new r hd, rfl, .inr ⟨dd, [(Str.ofString fld, v)], rfl, r.fresh hd, upd_same, rfl, .cons (s.up (Le.new r hd)) .nil⟩⟩
theorem fs_raise1 (hc : X.calm = true) (tk : Takes X W) (E : Exc1 X.prog X.w X.K X.mg X.base cl x (Str.ofString fld)) (hr : Rm 2 X) (hg : Gl X (Str.ofString x)) (he : FE X cl W e f) (hdb : (Str.ofString x == ("__debug__" : Str)) = false := by decide)
    (hs : starEach [e] X.env = (false, eval e X.env) :: starEach [] X.env := by rfl) (hpl : (backTo pos (starEach [] X.env)).any (·.1) = false := by rfl) :
    FS X cl W (.Raise (some (.Call (.Name (Str.ofString x) p) [e] [] pos)) none rpos) (sRaise1 x fld f) := PS.w (ps_raise hc tk (pmk_ox E hr hg he (pass_tk tk) hdb hs hpl)) fun Dn sg H ⟨as, st, env, r0, er, q⟩ =>
  ⟨as, st, env, r0, er, Wf.ofR er q fun d s as1 H1 v _ l r1 er1 x1 q1 => fun dd hd => let ⟨r2, l2, hx⟩ := shx r1 hd x1; q1 as1 _ sg _ _ l2 r2 (er1.up l2) hx⟩
end
/-! ### fields of exceptions -/
theorem ofS_inj {a b : String} (h : Str.ofString a = Str.ofString b) : a = b := by
  have h1 := congrArg TL.tl h
  rw [TL.tl_ofString, TL.tl_ofString] at h1
  exact String.toList_inj.mp ((List.map_inj_right fun {x y} e => Char.toNat_inj.mp e).mp h1)
theorem sh_look {K : PySem.W.Frag} {cl : ClW} {as : As} {H : Hp} {n : String} {d : D} : ∀ {fv : List (Str × V)} {fs : List (String × D)}, fv.map (·.1) = fs.map (fun p => Str.ofString p.1) → ShL K cl as H (fv.map (·.2)) (fs.map (·.2)) → fs.lookup n = some d → ∃ v, fv.lookup (Str.ofString n) = some v ∧ Sh K cl as H v d
  | [], [], _, _, h => by cases h
  | [], _ :: _, e, _, _ => by cases e
  | _ :: _, [], e, _, _ => by cases e
  | (a, v) :: fv, (b, y) :: fs, e, s, h => by
    simp only [List.map_cons, List.cons.injEq] at e
    obtain ⟨e1, e2⟩ := e
    subst e1
    cases s with
    | cons s1 s2 =>
      simp only [List.lookup] at h ⊢
      by_cases hn : n = b
      · subst hn
        rw [beq_self_eq_true] at h
        rw [beq_self_eq_true]
        cases h
        exact ⟨v, rfl, s1⟩
      · have h1 : (n == b) = false := by simpa using hn
        have h2 : (Str.ofString n == Str.ofString b) = false := by simpa using fun z => hn (ofS_inj z)
        rw [h1] at h
        rw [h2]
        exact sh_look e2 s2 h
/-! ### isinstance of anything, one class or several -/
inductive TyG (K : PySem.W.Frag) (H : Hp) : V → Value → Prop
  | x {v : V} {t : Value} (h : TyX K H v t) : TyG K H v t
  | e {a C : Addr} {d : Option Addr} (h : H a = some (KO (.ref C) d a)) (hd : ∀ dd, d = some dd → ∃ fv, H dd = some (.xd fv)) (E : ExcC K C) : TyG K H (.ref a) (.ref C)
theorem kit_ofG {X : Cx} {pins : List (Addr × Obj)} {sg : L2.St} {H : Hp} {s : Shared} {x : V} {u t : Value} (I : L2.Inv X pins sg H s) (rx : RelV x u) (ty : TyG X.K H x t) : ∃ P : Heap → Prop, PySem.W.KitX X.K u t P ∧ P s.heap ∧ u ≠ .builtin "__main__.__loader__#opaque" := by
  cases ty with
  | x h => exact kit_of I rx h
  | @e a C d ha hd E =>
    cases (show u = Value.ref a from rx)
    obtain ⟨⟨oe, vs, ho, hz, hv⟩, -, -⟩ := (show ObjOk X.prog X.w H s.heap a (KO (.ref C) d a) from I.hok a _ ha)
    obtain ⟨oc, od, oda, osl⟩ := oe
    obtain ⟨h1, h2⟩ := hz
    dsimp only at h1 h2 hv
    subst h1 h2 hv
    have hcl : (PySem.W.clsIn X.K C).isSome = true := by
      obtain ⟨cd, hc, _⟩ := PySem.W.any_some E.hd
      rw [hc]
      rfl
    have J : ∃ oD, PySem.W.InstAt s.heap a ⟨.ref C, od, .fields vs, osl⟩ C oD := by
      cases od with
      | none => exact ⟨none, ho, rfl, rfl, trivial⟩
      | some dd =>
        obtain ⟨fv, hf⟩ := hd dd rfl
        obtain ⟨u, hu⟩ := objOk_get (I.hok dd _ hf)
        exact ⟨some u, ho, rfl, rfl, hu⟩
    obtain ⟨oD, J⟩ := J
    exact ⟨_, PySem.W.kitx_exc hcl E.hg E.hk E.hs E.ha E.hn E.ht E.hm, J, fun z => nomatch z⟩
/-- the class argument: one class | a new tuple of classes -/
inductive ClArg (K : PySem.W.Frag) (H : Hp) : V → (Value → Option Bool) → Prop
  | one {c : V} {u : Value} (h : ClsV c u) : ClArg K H c (fun t => PySem.W.kitOne K t u)
  | tup {tp : Addr} {cs : List V} {us : List Value} (hT : H tp = some (.tup cs)) (k : Paired ClsV cs us) : ClArg K H (.ref tp) (fun t => PySem.W.kitAny K t us)
def rIsG (K : PySem.W.Frag) : List V → Hp → VK → Prop := fun xs H Q => ∃ (x c : V) (kt : Value → Option Bool) (t : Value) (b : Bool), xs = [x, c] ∧ ClArg K H c kt ∧ TyG K H x t ∧ kt t = some b ∧ Q (.bl b) H
theorem call_isG {X : Cx} : CallR X (.builtin "isinstance") (rIsG X.K) := by
  intro pins s sg H xs us Q I r h
  obtain ⟨x, c, kt, t, b, rfl, hc, ty, e, q⟩ := h
  obtain ⟨u1, u2, rfl, r1, r2⟩ := vals2 r
  obtain ⟨P, Z, p, hx⟩ := kit_ofG I r1 ty
  cases hc with
  | one k =>
    have e2 := k.eq r2
    subst e2
    exact PySem.W.kia_one Z I.kIn p e hx fun tk => ⟨.bl b, H, I.tok tk, rfl, q⟩
  | @tup tp cs ws hT k =>
    cases (show u2 = Value.ref tp from r2)
    obtain ⟨_, its, rv, o, h1, h2, n, h3⟩ := (show ObjOk X.prog X.w H s.heap tp (.tup cs) from I.hok tp _ hT)
    have e3 := ClsV.all k rv
    subst e3
    obtain ⟨oc, od, dt, sl⟩ := o
    simp only at h2 h3
    subst h2 h3
    exact PySem.W.kia_tup Z I.kIn p h1 e hx fun tk => ⟨.bl b, H, I.tok tk, rfl, q⟩
/-- classes of instances, for isinstance -/
structure InsC (K : PySem.W.Frag) (C : Addr) : Prop where
  cl : Cls K C
  ha : PySem.W.findIn K (.ref C) "__class__" = some (some (.builtin "object.__class__"))
  hn : PySem.W.specialIn K (.builtin "object.__class__") "__get__" = some (some (.builtin "getset_descriptor.__get__"))
  ht : PySem.W.takesIn K (.builtin "object.__class__") = some true
  hm : PySem.W.mroIn K C (.type "object") = some true
/-- CE: classes of exceptions, CI: of instances; tb those that are hit, tt the built-in types that are -/
structure KitG (K : PySem.W.Frag) (cl : ClW) (kt : Value → Option Bool) (CE CI tb : List String) (tt : List Ty) : Prop where
  exc : ∀ x b, clause CE tb x = some b → kt (.ref (cl x)) = some b ∧ ExcC K (cl x)
  ins : ∀ x b, clause CI tb x = some b → kt (.ref (cl x)) = some b ∧ InsC K (cl x)
  blt : ∀ t : Ty, kt (.type t.nm) = some (decide (t ∈ tt))
def isgD (CE CI tb : List String) (tt : List Ty) : O1 := fun x st => match x with
  | .exc c _ => (clause CE tb c).map fun b => (.bl b, st)
  | .obj c _ => (clause CI tb c).map fun b => (.bl b, st)
  | .ref i => match st[i]? with
    | some (.ins c _) => (clause CI tb c).map fun b => (.bl b, st)
    | _ => (tyD st (.ref i)).map fun t => (.bl (decide (t ∈ tt)), st)
  | x => (tyD st x).map fun t => (.bl (decide (t ∈ tt)), st)
theorem isg_ok {K : PySem.W.Frag} {cl : ClW} {kt : Value → Option Bool} {CE CI tb : List String} {tt : List Ty} (T : KitG K cl kt CE CI tb tt) {as : As} {H : Hp} {st st' : Store} {x y : D} {v : V} (r : Rel K cl as H st) (e : isgD CE CI tb tt x st = some (y, st')) (s : Sh K cl as H v x) :
    st' = st ∧ ∃ t b, y = .bl b ∧ TyG K H v t ∧ kt t = some b := by
  have base : ∀ x : D, (tyD st x).map (fun t => (D.bl (decide (t ∈ tt)), st)) = some (y, st') → Sh K cl as H v x → st' = st ∧ ∃ t b, y = .bl b ∧ TyG K H v t ∧ kt t = some b := fun x e s => by
    cases e1 : tyD st x with
    | none => rw [e1] at e; cases e
    | some t =>
      rw [e1] at e
      cases e
      exact ⟨rfl, _, _, rfl, .x (sh_ty r e1 s), T.blt t⟩
  unfold isgD at e
  cases x with
  | exc c fs =>
    dsimp only at e
    cases e1 : clause CE tb c with
    | none => rw [e1] at e; cases e
    | some b =>
      rw [e1] at e
      cases e
      obtain ⟨k1, k2⟩ := T.exc c b e1
      cases s with
      | exc0 n h => exact ⟨rfl, _, b, rfl, .e h (fun dd z => nomatch z) k2, k1⟩
      | exc1 n h n2 h2 _ _ => exact ⟨rfl, _, b, rfl, .e h (fun dd z => by cases z; exact ⟨_, h2⟩) k2, k1⟩
  | obj c fs =>
    dsimp only at e
    cases e1 : clause CI tb c with
    | none => rw [e1] at e; cases e
    | some b =>
      rw [e1] at e
      cases e
      obtain ⟨k1, k2⟩ := T.ins c b e1
      cases s with
      | obj n h _ _ => exact ⟨rfl, _, b, rfl, .x (.base (.ins h k2.cl k2.ha k2.hn k2.ht k2.hm)), k1⟩
  | ref i =>
    dsimp only at e
    cases e2 : st[i]? with
    | none =>
      rw [e2] at e
      exact base (.ref i) e s
    | some cell =>
      rw [e2] at e
      cases cell with
      | ins c fs =>
        dsimp only at e
        cases e1 : clause CI tb c with
        | none => rw [e1] at e; cases e
        | some b =>
          rw [e1] at e
          cases e
          obtain ⟨k1, k2⟩ := T.ins c b e1
          cases s with
          | ref ha =>
            have ca := r.cell i _ _ ha e2
            cases ca with
            | ins h _ _ => exact ⟨rfl, _, b, rfl, .x (.base (.ins h k2.cl k2.ha k2.hn k2.ht k2.hm)), k1⟩
      | lst xs => exact base (.ref i) e s
      | dct xs => exact base (.ref i) e s
      | lck xs => exact base (.ref i) e s
      | tab q => exact base (.ref i) e s
      | dcn q => exact base (.ref i) e s
      | lckn q => exact base (.ref i) e s
  | non => exact base _ e s
  | bl b => exact base _ e s
  | int i => exact base _ e s
  | str z => exact base _ e s
  | tup xs => exact base _ e s
  | lst xs => exact base _ e s
  | dct xs => exact base _ e s
  | lam _ _ _ _ _ _ => exact base _ e s
  | fn _ => exact base _ e s
section
variable {X : Cx} {cl : ClW} {W : WX} {CE CI tb : List String} {tt : List Ty} {e : Expr} {f : Ex} {p pos : Pos}
/-- a class's name as a value -/
structure CName (X : Cx) (e : Expr) (c : V) (u : Value) : Prop where
  pe : PE X e (tC c)
  k : ClsV c u
theorem cn_own {x : Str} {C : Addr} {p : Pos} (hg : Gl X x) (hm : X.mg x = some (.ref C)) (hd : (x == ("__debug__" : Str)) = false := by decide) : CName X (.Name x p) (.ref C) (.ref C) := ⟨pe_glob (v := .ref C) hg hm rfl hd, .own C⟩
theorem fe_isg1 {e2 : Expr} {c : V} {u : Value} (hg : Gl X "isinstance") (hm : X.mg "isinstance" = none) (hc : CName X e2 c u) (T : KitG X.K cl (fun t => PySem.W.kitOne X.K t u) CE CI tb tt) (ha : FE X cl W e f)
    (hv : bootBuiltins "isinstance" = some (.builtin "isinstance") := by decide +kernel) (he : starEach [e, e2] X.env = (false, eval e X.env) :: starEach [e2] X.env := by rfl) (he2 : starEach [e2] X.env = (false, eval e2 X.env) :: starEach [] X.env := by rfl) (hpl : (backTo pos (starEach [e2] X.env)).any (·.1) = false := by rfl) :
    FE X cl W (.Call (.Name "isinstance" p) [e, e2] [] pos) (eUn (isgD CE CI tb tt) f) :=
  PE.w (pe_callB call_isG hg hm hv (pa_cons ha (pa_cons hc.pe pa_nil he2) he) (by decide) (by decide) he hpl) fun sg H Q ⟨as, st, env, r0, er, q⟩ => ⟨as, st, env, r0, er, Wt.bind q fun d s1 as1 H1 v _ l1 r1 x1 q1 => by
    obtain ⟨y, s', e, af⟩ := ofO_aft q1
    obtain ⟨rfl, t, b, rfl, ty, kt⟩ := isg_ok T r1 e x1
    exact ⟨v, c, _, t, b, rfl, .one hc.k, ty, kt, af as1 H1 _ Le.refl r1 (.bl b)⟩⟩
/-- several classes' names -/
inductive CNames (X : Cx) : List Expr → List V → List Value → Prop
  | nil : CNames X [] [] []
  | cons {e : Expr} {es : List Expr} {c : V} {cs : List V} {u : Value} {us : List Value} (h : CName X e c u) (hs : starEach (e :: es) X.env = (false, eval e X.env) :: starEach es X.env) (r : CNames X es cs us) : CNames X (e :: es) (c :: cs) (u :: us)
def tCs : List V → TA
  | [] => tNil
  | c :: cs => tCons (tC c) (tCs cs)
theorem CNames.pa {es : List Expr} {cs : List V} {us : List Value} (h : CNames X es cs us) : PA X es (tCs cs) ∧ Paired ClsV cs us := by
  induction h with
  | nil => exact ⟨pa_nil, .nil⟩
  | cons h hs r ih => exact ⟨pa_cons h.pe ih.1 hs, .cons h.k ih.2⟩
end
/-! ### from the head -/
theorem insC_of {K : PySem.W.Frag} {x : String} (h : insCB K x = true) : InsC K (gaC K x) := by
  unfold insCB at h
  simp only [Bool.and_eq_true, beq_iff_eq] at h
  obtain ⟨⟨⟨⟨⟨⟨⟨h1, h2⟩, h3⟩, h4⟩, h5⟩, h6⟩, h7⟩, h8⟩ := h
  exact ⟨⟨h1, h2, h3, h4⟩, h5, h6, h7, h8⟩
theorem kitG_of {w : World} {K : PySem.W.Frag} {kt : Value → Option Bool} {CE CI tb : List String} {tt : List Ty} (h : kitGB K kt CE CI tb tt = true) : KitG K (gw K w) kt CE CI tb tt := by
  unfold kitGB at h
  obtain ⟨h0, h3⟩ := Bool.and_eq_true_iff.mp h
  obtain ⟨h1, h2⟩ := Bool.and_eq_true_iff.mp h0
  refine ⟨fun x b e => ?_, fun x b e => ?_, fun t => beq_iff_eq.mp (List.all_eq_true.mp h3 t (by cases t <;> decide))⟩
  · obtain ⟨hm, rfl⟩ := clause_in e
    obtain ⟨h4, h5⟩ := Bool.and_eq_true_iff.mp (List.all_eq_true.mp h1 x hm)
    exact ⟨beq_iff_eq.mp h4, excC_of h5⟩
  · obtain ⟨hm, rfl⟩ := clause_in e
    obtain ⟨h4, h5⟩ := Bool.and_eq_true_iff.mp (List.all_eq_true.mp h2 x hm)
    exact ⟨beq_iff_eq.mp h4, insC_of h5⟩
end F3

/-! F3, part p: dicts that never change, repr of anything with dicts. -/
namespace F3
open PySem PySem.Spec PyProof.Rows L2

/-! ### {k: v, ..} with written texts as keys -/
section
variable {X : Cx} {cl : ClW} {W : WX} {pos : Pos}
def keyed (ks : List Str) (ds : List D) : List (Key × D) := (ks.map Sum.inr).zip ds
end
/-! ### repr of anything of tuples and dicts -/
def keyPy : Key → PyData
  | .inl i => .int i
  | .inr x => .str x
mutual
def pyT : D → Option PyData
  | .non => some .none
  | .bl b => some (.bool b)
  | .int i => some (.int i)
  | .str x => some (.str x)
  | .tup ds => (pyTL ds).map .tuple
  | .dct kvs => (pyTK kvs).map .dict
  | _ => none
def pyTL : List D → Option (List PyData)
  | [] => some []
  | d :: ds => (pyT d).bind fun p => (pyTL ds).map (p :: ·)
def pyTK : List (Key × D) → Option (List (PyData × PyData))
  | [] => some []
  | (k, d) :: ds => (pyT d).bind fun p => (pyTK ds).map ((keyPy k, p) :: ·)
end
section
variable {X : Cx} {cl : ClW} {pins : List (Addr × Obj)} {sg : L2.St} {as : As} {H : Hp} {s : Shared}
theorem key_reads {h : Heap} : ∀ (k : Key) (v : Value), keyIs k v = true → Reads h v (keyPy k) [] := fun k v e => by
  rcases keyIs_shape e with ⟨i, t, rfl, rfl⟩ | ⟨x, t, rfl, rfl⟩
  · exact Reads.int i t
  · exact Reads.str x t
mutual
theorem readsT (I : L2.Inv X pins sg H s) : ∀ {d : D} {p : PyData} {v : V} {u : Value}, pyT d = some p → Sh X.K cl as H v d → RelV v u → ∃ bs, Reads s.heap u p bs ∧ sysModules ∉ bs
  | .non, _, _, _, e, h, r => by
    cases e; cases h; cases r
    exact ⟨_, Reads.none, by simp⟩
  | .bl b, _, _, _, e, h, r => by
    cases e; cases h; cases r
    exact ⟨_, Reads.bool b, by simp⟩
  | .int i, _, _, _, e, h, r => by
    cases e; cases h
    obtain ⟨t, rfl⟩ := r
    exact ⟨_, Reads.int i t, by simp⟩
  | .str x, _, _, _, e, h, r => by
    cases e; cases h
    obtain ⟨t, rfl⟩ := r
    exact ⟨_, Reads.str x t, by simp⟩
  | .tup ds, _, _, _, e, h, r => by
    cases h with
    | tup hs ha =>
      cases r
      obtain ⟨ps, e1, rfl⟩ := Option.map_eq_some_iff.mp (show (pyTL ds).map PyData.tuple = _ from e)
      obtain ⟨its, rv, ⟨o, ho, hc, n, hd⟩, _⟩ := I.tuple hs.sq
      obtain ⟨bs, hr, hn⟩ := readsTL I e1 ha rv
      exact ⟨_, Reads.tuple ho hc hd hr, hn⟩
  | .dct kvs, _, _, _, e, h, r => by
    cases h with
    | @dct a kvs' _ hn ha hk hv =>
      cases r
      obtain ⟨ps, e1, rfl⟩ := Option.map_eq_some_iff.mp (show (pyTK kvs).map PyData.dict = _ from e)
      obtain ⟨_, hsm, vs, rk, hd⟩ := (show ObjOk X.prog X.w H s.heap a (.dK kvs') from I.hok a _ ha)
      obtain ⟨bs, hr, hnb⟩ := readsTK I e1 hk hv rk
      refine ⟨_, PyProof.V.reads_dictOf (enc := keyPy) key_reads hd hr, fun z => ?_⟩
      rcases List.mem_cons.mp z with z | z
      · rw [z] at hsm
        simp at hsm
      · exact hnb z
  | .lst _, _, _, _, e, _, _ => by cases e
  | .ref _, _, _, _, e, _, _ => by cases e
  | .obj _ _, _, _, _, e, _, _ => by cases e
  | .exc _ _, _, _, _, e, _, _ => by cases e
theorem readsTL (I : L2.Inv X pins sg H s) : ∀ {ds : List D} {ps : List PyData} {vs : List V} {us : List Value}, pyTL ds = some ps → ShL X.K cl as H vs ds → Vals vs us → ∃ bs, ReadsAll s.heap us ps bs ∧ sysModules ∉ bs
  | [], _, _, _, e, h, r => by
    cases e; cases h; cases r
    exact ⟨_, ReadsAll.nil, by simp⟩
  | d :: ds, _, _, _, e, h, r => by
    cases h with
    | cons h1 h2 =>
      cases r with
      | cons r1 r2 =>
        obtain ⟨p, e1, e2⟩ := Option.bind_eq_some_iff.mp (show ((pyT d).bind fun p => (pyTL ds).map (p :: ·)) = _ from e)
        obtain ⟨ps, e3, rfl⟩ := Option.map_eq_some_iff.mp e2
        obtain ⟨bs, q1, n1⟩ := readsT I e1 h1 r1
        obtain ⟨cs, q2, n2⟩ := readsTL I e3 h2 r2
        exact ⟨_, ReadsAll.cons q1 q2, fun z => (List.mem_append.mp z).elim n1 n2⟩
theorem readsTK (I : L2.Inv X pins sg H s) : ∀ {ds : List (Key × D)} {ps : List (PyData × PyData)} {kvs : List (Key × V)} {us : List (Key × Value)}, pyTK ds = some ps → kvs.map (·.1) = ds.map (·.1) → ShL X.K cl as H (kvs.map (·.2)) (ds.map (·.2)) → KV kvs us → ∃ bs, PyProof.V.PairsRead s.heap keyPy us ps bs ∧ sysModules ∉ bs
  | [], _, [], _, e, hk, h, r => by
    cases e; cases r
    exact ⟨_, PyProof.V.PairsRead.nil, by simp⟩
  | [], _, _ :: _, _, _, hk, _, _ => by cases hk
  | _ :: _, _, [], _, _, hk, _, _ => by cases hk
  | (k, d) :: ds, _, (k2, v) :: kvs, _, e, hk, h, r => by
    simp only [List.map_cons, List.cons.injEq] at hk
    obtain ⟨hk1, hk2⟩ := hk
    subst hk1
    cases r with
    | @cons _ q _ qs r1 r2 =>
      obtain ⟨qk, qv⟩ := q
      obtain ⟨hq1, hq2⟩ := r1
      dsimp only at hq1 hq2
      subst hq1
      cases h with
      | cons h1 h2 =>
        obtain ⟨p, e1, e2⟩ := Option.bind_eq_some_iff.mp (show ((pyT d).bind fun p => (pyTK ds).map ((keyPy k2, p) :: ·)) = _ from e)
        obtain ⟨ps, e3, rfl⟩ := Option.map_eq_some_iff.mp e2
        obtain ⟨bs, q1, n1⟩ := readsT I e1 h1 hq2
        obtain ⟨cs, q2, n2⟩ := readsTK I e3 hk2 h2 r2
        exact ⟨_, PyProof.V.PairsRead.cons q1 q2, fun z => (List.mem_append.mp z).elim n1 n2⟩
end
end
def showT (p : PyData) : Bool := p.showable && decide (p.depth ≤ 60) && decide (p.shown.length ≤ sizeLine)
/-- repr of plain data; of tuples and dicts -/
def reprE : On := fun xs st => match reprD xs st with
  | some r => some r
  | none => match xs with
    | [x] => (pyT x).bind fun p => if showT p = true then some (.str p.shown, st) else none
    | _ => none
section
variable {X : Cx} {cl : ClW}
end
end F3
namespace F3
open PySem PySem.Spec PyProof.Rows L2
/-! ### for the head -/
structure AllB (l : List Bool) : Prop where
  h : l.all id = true
theorem AllB.nth {l : List Bool} (a : AllB l) (i : Nat) {b : Bool} (e : l[i]? = some b) : b = true := List.all_eq_true.mp a.h b (List.mem_of_getElem? e)
theorem iniV_ok {o : Option PySem.W.CFound} {ini : String} (h : iniV o ini = true) : o = some (.val (.builtin ini)) := by
  unfold iniV at h
  split at h
  · rw [beq_iff_eq.mp h]
  · cases h
theorem ini_own {X : Cx} {B : Str} {b ini : String} (g : X.mg B = some (.ref (gaC X.K b))) (h : ownIniB X.K b ini = true) (hh : PySem.W.handedIn (.builtin ini) = true) : IniOf X B ini := by
  unfold ownIniB at h
  simp only [Bool.and_eq_true, beq_iff_eq] at h
  exact ⟨hh, .inr ⟨_, g, h.1.1, h.1.2, iniV_ok h.2⟩⟩
theorem ox_info {K : PySem.W.Frag} {x fld : String} {bt : List Value} {B newId ini : String} (F : ExcBaseFacts B newId ini bt) (p : ∀ self, PySem.refuseLoop self "__setattr__" bt = pure ()) (ob : bt.contains (.type "object") = true) (h : oxInfoB K x fld bt newId = true) :
    OxC K (gaC K x) ini ∧ PySem.W.findIn K (.ref (gaC K x)) (Str.ofString fld) = some none ∧ PySem.W.findIn K (.ref (gaC K x)) "__init__" = some (some (.ref (He.ma K (gaC K x) "__init__"))) ∧ PySem.W.typeIn K (.ref (He.ma K (gaC K x) "__init__")) = some (.type "function") := by
  unfold oxInfoB at h
  simp only [Bool.and_eq_true, beq_iff_eq] at h
  obtain ⟨⟨⟨⟨⟨⟨⟨h1, h2⟩, h3⟩, h4⟩, h5⟩, h6⟩, h7⟩, h8⟩ := h
  exact ⟨ox_of F p ob h1 h2 h3 h4 h5, h6, h7, h8⟩
theorem FunD.binds2 {K : PySem.W.Frag} {x qual : Str} {params : Arguments} {body : List Stmt} {scope : Scope} {f : Addr} {fd : FuncData} {ps : List Str} (F : FunD K x qual params body scope [] [] f fd)
    (h : ∀ (kV doc pm : Value) (an : Option Addr) (cdv ct : Value) (us : List Value), us.length = ps.length → bindArgs (PySem.W.fnOf x qual params body scope .none kV doc pm an cdv ct) ⟨us, []⟩ = pure (ps.zip us)) : Binds K fd ps [] := fun s us X hl => by
  rw [List.append_nil] at hl ⊢
  exact FunD.bindsA F h s us hl
end F3
namespace F3
open PySem PySem.Spec PyProof.Rows L2
/-! ### the head's hook: the statics stand in the written part, too -/
end F3

/-! F3, part q: instances of own classes: fields, methods, made. -/
namespace F3
open PySem PySem.Spec PyProof.Rows L2

/-! ### fields -/
/-- classes CI none of which has n itself -/
structure IFld (K : PySem.W.Frag) (cl : ClW) (CI : List String) (n : String) : Prop where
  x : ∀ c ∈ CI, Cls K (cl c) ∧ NoAttr K (cl c) (Str.ofString n)
def insOf (st : Store) : D → Option (Nat × String × List (String × D))
  | .ref i => match st[i]? with
    | some (.ins c fs) => some (i, c, fs)
    | _ => none
  | _ => none
def fldD (CI : List String) (n : String) : O1 := fun x st => (insOf st x).bind fun p => if p.2.1 ∈ CI then (p.2.2.lookup n).map fun d => (d, st) else none
def putD (n : String) (d : D) : List (String × D) → List (String × D)
  | [] => [(n, d)]
  | (m, x) :: r => if m = n then (m, d) :: r else (m, x) :: putD n d r
section
variable {K : PySem.W.Frag} {cl : ClW} {as : As} {H : Hp} {st : Store}
theorem ins_at {x : D} {v : V} {i : Nat} {c : String} {fs : List (String × D)} (r : Rel K cl as H st) (h : insOf st x = some (i, c, fs)) (s : Sh K cl as H v x) :
    x = .ref i ∧ st[i]? = some (.ins c fs) ∧ ∃ a dx fv, v = .ref a ∧ as.c[i]? = some a ∧ H a = some (.ins (cl c) dx fv) ∧ fv.map (·.1) = fs.map (fun p => Str.ofString p.1) ∧ ShL K cl as H (fv.map (·.2)) (fs.map (·.2)) := by
  cases x with
  | ref k =>
    simp only [insOf] at h
    cases e : st[k]? with
    | none => rw [e] at h; cases h
    | some cell =>
      rw [e] at h
      cases cell with
      | ins c' fs' =>
        cases h
        cases s with
        | @ref _ a e2 =>
          have ca := r.cell i a _ e2 e
          cases ca with
          | @ins dx _ fv _ h1 h2 h3 => exact ⟨rfl, e, a, dx, fv, rfl, e2, h1, h2, h3⟩
      | _ => cases h
  | _ => cases h
theorem put_sh {n : String} {v : V} {d : D} (s : Sh K cl as H v d) : ∀ {fv : List (Str × V)} {fs : List (String × D)}, fv.map (·.1) = fs.map (fun p => Str.ofString p.1) → ShL K cl as H (fv.map (·.2)) (fs.map (·.2)) →
    (putF (Str.ofString n) v fv).map (·.1) = (putD n d fs).map (fun p => Str.ofString p.1) ∧ ShL K cl as H ((putF (Str.ofString n) v fv).map (·.2)) ((putD n d fs).map (·.2))
  | [], [], _, _ => ⟨rfl, .cons s .nil⟩
  | [], _ :: _, e, _ => by cases e
  | _ :: _, [], e, _ => by cases e
  | (a, w) :: fv, (m, y) :: fs, e, h => by
    simp only [List.map_cons, List.cons.injEq] at e
    obtain ⟨e1, e2⟩ := e
    subst e1
    cases h with
    | cons h1 h2 =>
      unfold putF putD
      by_cases hn : m = n
      · subst hn
        rw [if_pos rfl, if_pos rfl]
        exact ⟨by simp only [List.map_cons, e2], .cons s h2⟩
      · rw [if_neg (fun z => hn (ofS_inj z)), if_neg hn]
        obtain ⟨k1, k2⟩ := put_sh s e2 h2
        exact ⟨by simp only [List.map_cons, k1], .cons h1 k2⟩
/-- a field of the i-th cell is set -/
theorem Rel.fld {i : Nat} {a dx : Addr} {c n : String} {fv : List (Str × V)} {fs : List (String × D)} {v : V} {d : D} (r : Rel K cl as H st) (h1 : H a = some (.ins (cl c) dx fv)) (e : as.c[i]? = some a) (h2 : fv.map (·.1) = fs.map (fun p => Str.ofString p.1)) (h3 : ShL K cl as H (fv.map (·.2)) (fs.map (·.2))) (s : Sh K cl as H v d) :
    Le as H as (upd H a (.ins (cl c) dx (putF (Str.ofString n) v fv))) ∧ Rel K cl as (upd H a (.ins (cl c) dx (putF (Str.ofString n) v fv))) (st.set i (.ins c (putD n d fs))) := by
  obtain ⟨k1, k2⟩ := put_sh (n := n) s h2 h3
  exact r.setc (.of h1 fun _ _ z => by cases z) e (.ins upd_same k1 (k2.upM (Mv.setc (.of h1 fun _ _ z => by cases z) e)))
end
def setD (CI : List String) (n : String) (x d : D) (st : Store) : Option Store := (insOf st x).bind fun p => if p.2.1 ∈ CI ∧ p.2.2.length < 900 then some (st.set p.1 (.ins p.2.1 (putD n d p.2.2))) else none
/-- o.f = e -/
def sFldS (CI : List String) (n : String) (fo f : Ex) : Sm := fun env st => ofR (f env st) env fun d s => ofR (fo env s) env fun x s2 => match setD CI n x d s2 with
  | some s3 => .nx env s3
  | none => .stuck
/-- as a target -/
def tFldT (CI : List String) (n : String) (fo : Ex) : Tgt := fun d env st => match fo env st with
  | .ok x s => (setD CI n x d s).map fun s2 => (env, s2)
  | _ => none
/-- o.f op= e, ints -/
def augD (n : String) (c : String) (z : Int) (x : D) (st : Store) : Option Store := (insOf st x).bind fun p => if p.2.1 = c ∧ p.2.2.length < 900 then some (st.set p.1 (.ins c (putD n (.int z) p.2.2))) else none
def augF (n : String) (o : Int → Int → Int) (c : String) (x : D) (i : Int) (env : Env) (d : D) (s : Store) : Flow := match d with
  | .int j => (match augD n c (o i j) x s with
    | some s3 => .nx env s3
    | none => .stuck)
  | _ => .stuck
def intF (CI : List String) (n : String) (x : D) (s : Store) : Option (String × Int) := (insOf s x).bind fun p => if p.2.1 ∈ CI then (p.2.2.lookup n).bind fun d => match d with
  | .int i => some (p.2.1, i)
  | _ => none else none
def sFldA (CI : List String) (n : String) (o : Int → Int → Int) (fo f : Ex) : Sm := fun env st => ofR (fo env st) env fun x s => match intF CI n x s with
  | some p => ofR (f env s) env fun d s2 => augF n o p.1 x p.2 env d s2
  | none => .stuck
section
variable {X : Cx} {cl : ClW} {W : WX} {CI : List String} {n : String} {o e value : Expr} {fo f : Ex} {pos pos' tpos : Pos}
theorem fe_fld (T : IFld X.K cl CI n) (he : FE X cl W e f) (hb : attributeBase e (Str.ofString n) X.env (eval e X.env) = eval e X.env := by rfl) : FE X cl W (.Attribute e (Str.ofString n) pos) (eUn (fldD CI n) f) :=
  PE.w (pe_fld he hb) fun sg H Q ⟨as, st, env, r0, er, q⟩ => ⟨as, st, env, r0, er, Wt.bind q fun d s1 as1 H1 v _ l1 r1 x1 q1 => by
    obtain ⟨y, s', e, af⟩ := ofO_aft q1
    unfold fldD at e
    obtain ⟨⟨i, c, fs⟩, e1, e2⟩ := Option.bind_eq_some_iff.mp e
    dsimp only at e2
    split at e2
    · rename_i hc
      obtain ⟨d2, e3, e4⟩ := Option.map_eq_some_iff.mp e2
      cases e4
      obtain ⟨_, _, a, dx, fv, rfl, _, h1, h2, h3⟩ := ins_at r1 e1 x1
      obtain ⟨t1, t2⟩ := T.x c hc
      obtain ⟨v, h4, h5⟩ := sh_look h2 h3 e3
      exact ⟨a, _, dx, fv, v, rfl, h1, t1, t2, h4, af as1 H1 v Le.refl r1 h5⟩
    · cases e2⟩
theorem set_run (T : IFld X.K cl CI n) {as : As} {H : Hp} {st st' : Store} {x d : D} {v w : V} (r : Rel X.K cl as H st) (e : setD CI n x d st = some st') (sx : Sh X.K cl as H v x) (sd : Sh X.K cl as H w d) :
    ∃ a c dx fv, v = .ref a ∧ H a = some (.ins (cl c) dx fv) ∧ Cls X.K (cl c) ∧ NoAttr X.K (cl c) (Str.ofString n) ∧ fv.length < 1000 ∧ Le as H as (upd H a (.ins (cl c) dx (putF (Str.ofString n) w fv))) ∧ Rel X.K cl as (upd H a (.ins (cl c) dx (putF (Str.ofString n) w fv))) st' := by
  unfold setD at e
  obtain ⟨⟨i, c, fs⟩, e1, e2⟩ := Option.bind_eq_some_iff.mp e
  dsimp only at e2
  split at e2
  · rename_i hc
    cases e2
    obtain ⟨_, _, a, dx, fv, rfl, ha, h1, h2, h3⟩ := ins_at r e1 sx
    obtain ⟨t1, t2⟩ := T.x c hc.1
    obtain ⟨l, r2⟩ := r.fld (n := n) (dx := dx) (c := c) h1 ha h2 h3 sd
    have hl : fv.length = fs.length := by
      have := congrArg List.length h2
      simpa using this
    exact ⟨a, c, dx, fv, rfl, h1, t1, t2, by rw [hl]; omega, l, r2⟩
  · cases e2
theorem fs_fld (T : IFld X.K cl CI n) (ho : FE X cl W o fo) (hv : FE X cl W value f) (hs : swapsWith value (some (.Attribute o (Str.ofString n) pos')) pos.line X.env = pure false := by rfl) : FS X cl W (.Assign [.Attribute o (Str.ofString n) pos'] value pos) (sFldS CI n fo f) :=
  PS.w (ps_fld ho hv hs) fun Dn sg H ⟨as, st, env, r0, er, q⟩ => ⟨as, st, env, r0, er, Wf.ofR er q fun d s as1 H1 w _ l1 r1 er1 x1 q1 => ⟨as1, s, env, r1, er1, Wf.ofR er1 q1 fun x s2 as2 H2 v _ l2 r2 er2 x2 q2 => by
    cases e : setD CI n x d s2 with
    | none => rw [e] at q2; exact q2.elim
    | some s3 =>
      rw [e] at q2
      obtain ⟨a, c, dx, fv, rfl, h1, t1, t2, hl, l3, r3⟩ := set_run T r2 e x2 (x1.up l2)
      exact ⟨a, _, dx, fv, rfl, h1, t1, t2, hl, q2 as2 _ sg l3 r3 (er2.up l3)⟩⟩⟩
end
/-! ### methods -/
structure CalM (P : Program) (w : World) (K : PySem.W.Frag) (mg : Str → Option Value) (base : Heap) (cl : ClW) (k : Nat) (c : String) (mn : String) (f : Addr) (fd : FuncData) (ps : List Str) (m : List D → Store → Res D) : Prop where
  G : FnG P w K mg base k f fd ps (spF K cl ps.length m)
  kc : Cls K (cl c)
  me : Meth K (cl c) (Str.ofString mn) f
def isOf (c mn : String) (st : Store) (x : D) : Bool := match insOf st x with
  | some p => decide (p.2.1 = c) && (p.2.2.lookup mn).isNone
  | none => false
def eMeth (c mn : String) (m : List D → Store → Res D) (gD : List D → List D → List D) (fo : Ex) (fa fk : Exs) : Ex := fun env st => (fo env st).bind fun x s => if isOf c mn s x = true then (fa env s).bind fun ds s1 => (fk env s1).bind fun es s2 => m (gD (x :: ds) es) s2 else .stuck
theorem look_none {n : String} : ∀ {fv : List (Str × V)} {fs : List (String × D)}, fv.map (·.1) = fs.map (fun p => Str.ofString p.1) → fs.lookup n = none → fv.lookup (Str.ofString n) = none
  | [], [], _, _ => rfl
  | [], _ :: _, e, _ => by cases e
  | _ :: _, [], e, _ => by cases e
  | (a, v) :: fv, (b, y) :: fs, e, h => by
    simp only [List.map_cons, List.cons.injEq] at e
    obtain ⟨e1, e2⟩ := e
    subst e1
    simp only [List.lookup] at h ⊢
    by_cases hn : n = b
    · subst hn
      rw [beq_self_eq_true] at h
      cases h
    · have h1 : (n == b) = false := by simpa using hn
      have h2 : (Str.ofString n == Str.ofString b) = false := by simpa using fun z => hn (ofS_inj z)
      rw [h1] at h
      rw [h2]
      exact look_none e2 h
section
variable {X : Cx} {cl : ClW} {W : WX} {k n nk : Nat} {f : Addr} {fd : FuncData} {ps ks : List Str} {gD : List D → List D → List D} {m : List D → Store → Res D} {c mn : String} {p pos apos : Pos} {e o : Expr} {es : List Expr} {kws : List Keyword} {fa fk : Exs} {fo : Ex}
/-- the receiver is there -/
theorem meth_at {as : As} {H : Hp} {st : Store} {x : D} {v : V} (r : Rel X.K cl as H st) (h : isOf c mn st x = true) (s : Sh X.K cl as H v x) : ∃ a dx fv, v = .ref a ∧ H a = some (.ins (cl c) dx fv) ∧ fv.lookup (Str.ofString mn) = none := by
  unfold isOf at h
  cases e : insOf st x with
  | none => rw [e] at h; cases h
  | some q =>
    obtain ⟨i, c', fs⟩ := q
    rw [e] at h
    simp only [Bool.and_eq_true, decide_eq_true_eq, Option.isNone_iff_eq_none] at h
    obtain ⟨rfl, h2⟩ := h
    obtain ⟨_, _, a, dx, fv, rfl, _, h1, h3, _⟩ := ins_at r e s
    exact ⟨a, dx, fv, rfl, h1, look_none h3 h2⟩
/-- the callee runs -/
theorem run_M {pins : List (Addr × Obj)} {sg : L2.St} {H : Hp} {s : Shared} {Q : VK} {us ws : List Value} {vs zs : List V} {as : As} {st : Store} {ds es : List D} {a : Addr} {x : D}
    (C : CalM X.prog X.w X.K X.mg X.base cl k c mn f fd ps m) (hr : Rm k X) (hb : KB X.K cl fd ps (n + 1) ks gD) (tk : Takes X W) (I : L2.Inv X pins sg H s) (r : Vals vs us) (rz : Vals zs ws) (hn : vs.length = n) (hk : zs.length = ks.length) (rl : Rel X.K cl as H st)
    (sx : Sh X.K cl as H (.ref a) x) (s1 : ShL X.K cl as H vs ds) (s2 : ShL X.K cl as H zs es) (h : Wt X.K cl W sg as H Q (m (gD (x :: ds) es) st)) : wpAny (model X.prog X.w) X.A (call (.ref f) (Value.ref a :: us) (ks.zip ws)) (EP X pins sg Q) X.xe s :=
  run_F (us := Value.ref a :: us) (vs := V.ref a :: vs) (ds := x :: ds) C.G hr hb tk I (.cons rfl r) rz (by rw [List.length_cons, ← r.length, hn]) (rz.length.symm.trans hk) rl (.cons sx s1) s2 h
theorem fe_meth0 {pl : Sem Bool} (C : CalM X.prog X.w X.K X.mg X.base cl k c mn f fd ps m) (hr : Rm k X) (tk : Takes X W) (hb : KB X.K cl fd ps 1 ks gD) (ho : FE X cl W o fo) (hkw : FK X cl W ks.length kws fk)
    (hall : (backToKw pos (keywordEach kws X.env)).all (·.1.isSome) = true := by rfl) (hks : (backToKw pos (keywordEach kws X.env)).filterMap (·.1) = ks := by rfl)
    (hpl : ((backTo pos (starEach [] X.env)).any (·.1) || (backToKw pos (keywordEach kws X.env)).any (·.1.isNone)) = false := by rfl)
    (ht : eval (.Call (.Attribute o (Str.ofString mn) apos) [] kws pos) X.env = (do
      let ov ← eval o X.env
      standAt apos.atName
      let (f, first) ← holding [ov] (getMethod ov (Str.ofString mn) pl)
      callWith pos f first (backTo pos (starEach [] X.env)) (backToKw pos (keywordEach kws X.env))) := by rfl) :
    FE X cl W (.Call (.Attribute o (Str.ofString mn) apos) [] kws pos) (eMeth c mn m gD fo aNil fk) := by
  refine ⟨fun pins s sg H Q I h => ?_⟩
  obtain ⟨as, st, env, r0, er, q⟩ := h
  refine PySem.W.methodCall_KW (pl := pl) (thn (ho.run pins s sg H (fun v H1 => ∃ (as1 : As) (s1 : Store) (x : D), isOf c mn s1 x = true ∧ Rel X.K cl as1 H1 s1 ∧ EnvR X.K cl as1 H1 sg env ∧ Sh X.K cl as1 H1 v x ∧ Wt X.K cl W sg as1 H1 Q ((fk env s1).bind fun es s2 => m (gD [x] es) s2)) I ⟨as, st, env, r0, er, Wt.bind q fun d s1 as1 H1 v _ l1 r1 x1 q1 => by
    by_cases hi : isOf c mn s1 d = true
    · rw [if_pos hi] at q1
      exact ⟨as1, s1, d, hi, r1, er.up l1, x1, q1⟩
    · rw [if_neg hi] at q1
      exact q1.elim⟩) fun u s1 ⟨v, H1, I1, rv, as1, st1, x, hi, r1, er1, x1, q1⟩ => ?_) ht
  obtain ⟨a, dx, fv, rfl, ha1, hl⟩ := meth_at r1 hi x1
  obtain rfl : u = Value.ref a := rv
  refine getmeth_ok I1 ha1 C.kc C.me hl ?_
  refine PySem.W.callWith_KW0 (first := [.ref a]) (h₀ := X.base) I1.ok.mod.kin C.me.kp hall ?_ hpl
  refine thn (hkw.pk.run pos pins s1 sg H1 (fun zs H3 => zs.length = ks.length ∧ ∃ (as3 : As) (s3 : Store) (es : List D), Rel X.K cl as3 H3 s3 ∧ Sh X.K cl as3 H3 (.ref a) x ∧ ShL X.K cl as3 H3 zs es ∧ Wt X.K cl W sg as3 H3 Q (m (gD [x] es) s3)) I1
    ⟨as1, st1, env, r1, er1, Wt.binds q1 fun es s3 as3 H3 zs eq l3 r3 x3 q3 => ⟨by rw [x3.length]; exact hkw.len _ _ _ _ eq, as3, s3, es, r3, x1.up l3, x3, q3⟩⟩) fun ws s3 ⟨zs, H3, I3, rz, hk, as3, st3, es, r3, sx3, y3, q3⟩ => ⟨I3.kIn, ?_⟩
  rw [hks]
  exact run_M (us := []) (vs := []) (ds := []) C hr hb tk I3 .nil rz rfl hk r3 sx3 .nil y3 q3
/-! ### made -/
structure CalI (P : Program) (w : World) (K : PySem.W.Frag) (mg : Str → Option Value) (base : Heap) (cl : ClW) (k : Nat) (c : String) (f : Addr) (fd : FuncData) (ps : List Str) (m : List D → Store → Res D) : Prop where
  G : FnG P w K mg base k f fd ps (spF K cl ps.length m)
  mkr : Mk K (cl c) f
  g : mg (Str.ofString c) = some (.ref (cl c))
/-- C(..): a new cell, then __init__ -/
def mkD (c : String) (m : List D → Store → Res D) (gD : List D → List D → List D) (ds es : List D) (s : Store) : Res D := (m (gD (.ref s.length :: ds) es) (s ++ [.ins c []])).bind fun d s2 => match d with
  | .non => .ok (.ref s.length) s2
  | _ => .stuck
def eMake (c : String) (m : List D → Store → Res D) (gD : List D → List D → List D) (fa fk : Exs) : Ex := fun env st => (fa env st).bind fun ds s1 => (fk env s1).bind fun es s2 => mkD c m gD ds es s2
theorem run_I {pins : List (Addr × Obj)} {sg : L2.St} {H : Hp} {s : Shared} {Q : VK} {us ws : List Value} {vs zs : List V} {as : As} {st : Store} {ds es : List D} (C : CalI X.prog X.w X.K X.mg X.base cl k c f fd ps m) (hr : Rm (k + 1) X) (hb : KB X.K cl fd ps (n + 1) ks gD) (tk : Takes X W)
    (I : L2.Inv X pins sg H s) (r : Vals vs us) (rz : Vals zs ws) (hn : vs.length = n) (hk : zs.length = ks.length) (rl : Rel X.K cl as H st) (s1 : ShL X.K cl as H vs ds) (s2 : ShL X.K cl as H zs es) (h : Wt X.K cl W sg as H Q (mkD c m gD ds es st)) :
    wpAny (model X.prog X.w) X.A (call (.ref (cl c)) us (ks.zip ws)) (EP X pins sg Q) X.xe s := by
  have hx : H (s.heap.objs.size + 1) = none := I.hok.fresh (Nat.le_succ _)
  have hd : H s.heap.objs.size = none := I.hok.fresh (Nat.le_refl _)
  have ne : s.heap.objs.size ≠ s.heap.objs.size + 1 := Nat.ne_of_lt (Nat.lt_succ_self _)
  have I2 := L2.Inv.made (C := cl c) I
  have r0 : Rel X.K cl as (upd H s.heap.objs.size (.own (s.heap.objs.size + 1))) st := rl.new hd
  have l0 : Le as H as (upd H s.heap.objs.size (.own (s.heap.objs.size + 1))) := Le.new rl hd
  have hx0 : (upd H s.heap.objs.size (.own (s.heap.objs.size + 1))) (s.heap.objs.size + 1) = none := by rw [upd_ne (Ne.symm ne)]; exact hx
  obtain ⟨l1, r1⟩ := r0.cell_new (c := .ins c []) (o := .ins (cl c) s.heap.objs.size []) hx0 fun as' _ => .ins (fv := []) upd_same rfl .nil
  have lx := l0.trans l1
  have rv : Vals (V.ref (s.heap.objs.size + 1) :: vs) (Value.ref (s.heap.objs.size + 1) :: us) := .cons rfl r
  have sx : Sh X.K cl ⟨as.c ++ [s.heap.objs.size + 1], as.r⟩ (upd (upd H s.heap.objs.size (.own (s.heap.objs.size + 1))) (s.heap.objs.size + 1) (.ins (cl c) s.heap.objs.size [])) (.ref (s.heap.objs.size + 1)) (.ref st.length) := .ref (by rw [← rl.len]; simp)
  obtain ⟨xs, hbi, hsh⟩ := hb.to _ (Value.ref (s.heap.objs.size + 1) :: us) ws I2.kIn (by rw [List.length_cons, ← r.length, hn]) (rz.length.symm.trans hk)
  obtain ⟨ys, ry, sy, ly⟩ := hsh _ _ _ _ zs _ es r1 rv rz (.cons sx (s1.up lx)) (s2.up lx)
  refine wpAny_call (make_map (f := f) I.kIn C.mkr.makes C.mkr.init (beq_iff_eq.mp C.mkr.fn) (codeAny_mono (C.G.run _ X.stack _ _ ⟨Value.ref (s.heap.objs.size + 1) :: us, ks.zip ws⟩ xs ys (fun v H' => v = .non ∧ Q (.ref (s.heap.objs.size + 1)) H') (fun cls d H' => W cls d sg H') hr.gd (hr.rm.make (cl c) us (ks.zip ws)) (I2.env0.make (cl c) us (ks.zip ws)) hbi ry ⟨_, _, _, ly, r1, sy, ?_⟩) fun r' s' hq => ?_))
  · have h2 : Wt X.K cl W sg ⟨as.c ++ [s.heap.objs.size + 1], as.r⟩ (upd (upd H s.heap.objs.size (.own (s.heap.objs.size + 1))) (s.heap.objs.size + 1) (.ins (cl c) s.heap.objs.size [])) Q (mkD c m gD ds es st) := Wt.up lx h
    unfold mkD at h2
    revert h2
    cases m (gD (.ref st.length :: ds) es) (st ++ [.ins c []]) with
    | ok d s2 =>
      intro h2 as' H' v l' r' x'
      simp only [Res.bind] at h2
      cases d with
      | non =>
        cases x'
        exact ⟨rfl, h2 as' H' _ l' r' (sx.up l')⟩
      | _ => exact h2.elim
    | exn cc fs s2 => exact fun h2 => h2
    | stuck => exact fun h2 => h2
  · cases r' with
    | error er => exact tk er s' (XE.of_call I2 (fun _ _ _ z => z) hq)
    | ok fl =>
      cases fl with
      | ret u =>
        obtain ⟨v, H', I3, rv2, ev, q3⟩ := I2.after hq
        subst ev
        exact ⟨rv2, ⟨V.ref (s.heap.objs.size + 1), H', I3, rfl, q3⟩⟩
      | next => exact False.elim hq
      | brk => exact False.elim hq
      | cont => exact False.elim hq
theorem fe_mk {e : Expr} (C : CalI X.prog X.w X.K X.mg X.base cl k c f fd ps m) (hr : Rm (k + 1) X) (tk : Takes X W) (hb : KB X.K cl fd ps (n + 1) ks gD) (hg : Gl X (Str.ofString c)) (ha : FA X cl W n (e :: es) fa) (hkw : FK X cl W ks.length kws fk)
    (hall : (backToKw pos (keywordEach kws X.env)).all (·.1.isSome) = true := by rfl) (hks : (backToKw pos (keywordEach kws X.env)).filterMap (·.1) = ks := by rfl) (hdb : (Str.ofString c == ("__debug__" : Str)) = false := by decide)
    (he : starEach (e :: es) X.env = (false, eval e X.env) :: starEach es X.env := by rfl) (hpl : ((backTo pos (starEach (e :: es) X.env)).any (·.1) || (backToKw pos (keywordEach kws X.env)).any (·.1.isNone)) = false := by rfl) :
    FE X cl W (.Call (.Name (Str.ofString c) p) (e :: es) kws pos) (eMake c m gD fa fk) := by
  refine ⟨fun pins s sg H Q I h => ?_⟩
  refine wpAny_Call_Name_kw (ld_glob I hg C.g ?_ hdb)
  refine PySem.W.callWith_KW (h₀ := X.base) I.ok.mod.kin C.mkr.kp hall (thn (ha.pa.run pos pins s sg H _ I (call_args (m2 := fun ds es st => mkD c m gD ds es st) ha hkw h)) fun us s1 ⟨vs, H1, I1, r1, q1⟩ => ?_) hpl he
  refine thn (hkw.pk.run pos pins s1 sg H1 _ I1 q1) fun ws s2 ⟨zs, H2, I2, rz, l1, l2, as, st, ds, es', rl, h1, h2, q⟩ => ⟨I2.kIn, ?_⟩
  rw [hks]
  exact run_I C hr hb tk I2 r1 rz l1 l2 rl h1 h2 q
/-! ### == by an own __eq__ -/
/-- what may stand on the right: anything plain, an instance of the same class -/
def eqArg (c : String) (st : Store) (y : D) : Bool := (tyD st y).isSome || (match insOf st y with
  | some p => decide (p.2.1 = c)
  | none => false)
structure EqO (K : PySem.W.Frag) (cl : ClW) (c : String) (f : Addr) : Prop where
  find : PySem.W.findIn K (.ref (cl c)) "__eq__" = some (some (.ref f))
  fn : PySem.W.isFn K (.ref f) = true
  own : PySem.W.notFirst K (cl c) (.ref (cl c)) = true
  blt : ∀ t : Ty, PySem.W.notFirst K (cl c) (.type t.nm) = true
  ic : InsC K (cl c)
def boolR (r : Res D) : Res D := match r with
  | .ok (.bl b) s => .ok (.bl b) s
  | _ => .stuck
def eEqO (c : String) (m : List D → Store → Res D) (f g : Ex) : Ex := fun env st => (f env st).bind fun x s1 => (g env s1).bind fun y s2 => if isOf c "__eq__" s2 x = true ∧ eqArg c s2 y = true then boolR (m [x, y] s2) else .stuck
theorem ty_looks {pins : List (Addr × Obj)} {sg : L2.St} {H : Hp} {s : Shared} {as : As} {st : Store} {x : D} {v : V} {u : Value} {t : Ty} (I : L2.Inv X pins sg H s) (r : Rel X.K cl as H st) (e : tyD st x = some t) (sx : Sh X.K cl as H v x) (rv : RelV v u) : PySem.W.Looks (model X.prog X.w) s.heap (typeOf u) (.type t.nm) := by
  have look : ∀ {a : Addr} {o : Obj}, s.heap.get? a = some o → o.cls = .type t.nm → PySem.W.Looks (model X.prog X.w) s.heap (typeOf (.ref a)) (.type t.nm) := fun {a o} h1 h2 A Q E s k q => wpAny_typeOf_ref (k _ _ h1) (by rw [h2]; exact q)
  cases x with
  | non => cases e; cases sx; cases rv; exact PySem.W.Looks.of_pure rfl
  | bl b => cases e; cases sx; cases rv; exact PySem.W.Looks.of_pure rfl
  | int i => cases e; cases sx; obtain ⟨_, rfl⟩ := rv; exact PySem.W.Looks.of_pure rfl
  | str z => cases e; cases sx; obtain ⟨_, rfl⟩ := rv; exact PySem.W.Looks.of_pure rfl
  | tup ds =>
    cases e
    cases sx with
    | tup hs ha =>
      cases rv
      obtain ⟨its, _, ⟨o, ho, hc, _⟩, _⟩ := I.tuple hs.sq
      exact look ho hc
  | lst ds =>
    cases e
    cases sx with
    | lst hs ha =>
      cases rv
      obtain ⟨its, _, ⟨o, n, ho, hc, _⟩, _⟩ := I.list hs.sq
      exact look ho hc
  | dct kvs =>
    cases e
    cases sx with
    | dct hn ha _ _ =>
      cases rv
      obtain ⟨_, _, vs, _, o, es, ep, h1, h2, _⟩ := (show ObjOk X.prog X.w H s.heap _ (.dK _) from I.hok _ _ ha)
      exact look h1 h2.1
  | ref i =>
    cases sx with
    | @ref _ a ha =>
      cases rv
      simp only [tyD] at e
      cases e2 : st[i]? with
      | none => rw [e2] at e; cases e
      | some cell =>
        rw [e2] at e
        cases cell with
        | lst ds =>
          cases e
          cases r.cell i a _ ha e2 with
          | lst h1 h2 =>
            obtain ⟨_, _, n, _, h3⟩ := (show ObjOk X.prog X.w H s.heap a (.lst _) from I.hok a _ h1)
            exact look h3 rfl
        | dct ds =>
          cases e
          cases r.cell i a _ ha e2 with
          | dct h1 _ _ =>
            obtain ⟨_, _, vs, _, o, es, ep, h3, h4, _⟩ := (show ObjOk X.prog X.w H s.heap a (.dK _) from I.hok a _ h1)
            exact look h3 h4.1
        | lck ds =>
          cases e
          cases r.cell i a _ ha e2 with
          | lck h1 _ _ =>
            obtain ⟨_, _, _, vs, _, o, es, ep, h3, h4, _⟩ := (show ObjOk X.prog X.w H s.heap a (.frz _ (.dK _)) from I.hok a _ h1)
            exact look h3 h4.1
        | ins c fs => cases e
        | tab q => cases e
        | dcn q => cases e
        | lckn q => cases e
  | obj c fs => cases e
  | exc c fs => cases e
  | lam _ _ _ _ _ _ => cases e
  | fn _ => cases e
theorem fe_eqO {a b : Expr} {f' g : Ex} (T : EqO X.K cl c f) (C : CalM X.prog X.w X.K X.mg X.base cl k c "__eq__" f fd ps m) (hr : Rm k X) (tk : Takes X W) (hb : KB X.K cl fd ps 2 [] (fun ds _ => ds)) (ha : FE X cl W a f') (hb2 : FE X cl W b g) (hm : behindInMarks .Eq b = false) :
    FE X cl W (.Compare a [.Eq] [b] pos) (eEqO c m f' g) := by
  have op : OpR X (compareOp .Eq) (fun x y H Q => ∃ (as : As) (st : Store) (dx dy : D) (b : Bool) (s3 : Store), Rel X.K cl as H st ∧ isOf c "__eq__" st dx = true ∧ eqArg c st dy = true ∧ Sh X.K cl as H x dx ∧ Sh X.K cl as H y dy ∧ m [dx, dy] st = .ok (.bl b) s3 ∧
      ∀ as' H', Le as H as' H' → Rel X.K cl as' H' s3 → Q (.bl b) H') := by
    intro pins s sg H x y v u Q I rx ry h
    obtain ⟨as, st, dx, dy, bo, s3, r, h1, h2, sx, sy, em, q⟩ := h
    obtain ⟨p, dxx, fv, rfl, hp, hl⟩ := meth_at r h1 sx
    obtain rfl : v = Value.ref p := rx
    obtain ⟨mA, J, _⟩ := ins_get I.hok hp
    obtain ⟨od, J, _⟩ := J.look
    obtain ⟨mm, hF⟩ := I.fr
    show wpAny (model X.prog X.w) X.A (richCompare .Eq (.ref p) u) (EP X pins sg Q) X.xe s
    have go : ∀ tb, PySem.W.Looks (model X.prog X.w) s.heap (typeOf u) tb → PySem.W.notFirst X.K (cl c) tb = true → wpAny (model X.prog X.w) X.A (richCompare .Eq (.ref p) u) (EP X pins sg Q) X.xe s := fun tb hb3 hn => by
      refine PySem.W.cmp_K (op := .Eq) (tb := tb) hr.rm.units0 hF I.ok.mod.kin J hb3 hn T.find T.fn ?_
      obtain ⟨xs, hbi, hsh⟩ := hb.to s [.ref p, u] [] I.kIn rfl rfl
      obtain ⟨ys, ry2, sy2, ly⟩ := hsh as H st [.ref p, y] [] [dx, dy] [] r (.cons rfl (.cons ry .nil)) .nil (.cons sx (.cons sy .nil)) .nil
      refine wpAny_call (codeAny_mono (C.G.run X.A X.stack s H ⟨[.ref p, u], []⟩ xs ys (fun v0 H0 => v0 = .bl bo ∧ Q (.bl bo) H0) (fun _ _ _ => False) hr.gd hr.rm I.env0 hbi ry2 ⟨as, st, [dx, dy], ly, r, sy2, ?_⟩) fun r' s' hq => ?_)
      · rw [em]
        intro as' H' v0 l' r' x'
        cases x'
        exact ⟨rfl, q as' H' l' r'⟩
      · cases r' with
        | error e => exact pass_tk tk pins sg H s e s' I hq
        | ok fl =>
          cases fl with
          | ret w0 =>
            obtain ⟨z, H', I', rz, ez, qz⟩ := I.after hq
            subst ez
            cases rz
            exact ⟨.bl bo, H', I', rfl, qz⟩
          | next => exact False.elim hq
          | brk => exact False.elim hq
          | cont => exact False.elim hq
    unfold eqArg at h2
    rcases Bool.or_eq_true_iff.mp h2 with h3 | h3
    · obtain ⟨t, et⟩ := Option.isSome_iff_exists.mp h3
      exact go _ (ty_looks I r et sy ry) (T.blt t)
    · cases e4 : insOf st dy with
      | none => rw [e4] at h3; cases h3
      | some pp =>
        obtain ⟨i2, c2, fs2⟩ := pp
        rw [e4] at h3
        have ec : c2 = c := of_decide_eq_true h3
        subst ec
        obtain ⟨_, _, a2, dx2, fv2, rfl, _, hp2, _, _⟩ := ins_at r e4 sy
        obtain rfl : u = Value.ref a2 := ry
        obtain ⟨mB, J2, _⟩ := ins_get I.hok hp2
        obtain ⟨od2, J2, _⟩ := J2.look
        exact go _ J2.type T.own
  exact PE.w (pe_cmpR op ha hb2 hm) fun sg H Q ⟨as, st, env, r0, er, q⟩ => ⟨as, st, env, r0, er, Wt.bind q fun d s1 as1 H1 v _ l1 r1 x1 q1 => ⟨as1, s1, env, r1, er.up l1, Wt.bind q1 fun d2 s2 as2 H2 w _ l2 r2 x2 q2 => by
    by_cases hi : isOf c "__eq__" s2 d = true ∧ eqArg c s2 d2 = true
    · rw [if_pos hi] at q2
      cases em : m [d, d2] s2 with
      | ok z s3 =>
        rw [em] at q2
        cases z with
        | bl b => exact ⟨as2, s2, d, d2, b, s3, r2, hi.1, hi.2, x1.up l2, x2, em, fun as' H' l' r' => q2 as' H' _ l' r' (.bl b)⟩
        | _ => exact q2.elim
      | exn _ _ _ => rw [em] at q2; exact q2.elim
      | stuck => rw [em] at q2; exact q2.elim
    · rw [if_neg hi] at q2
      exact q2.elim⟩⟩
/-! ### a = b = e -/
def sAsg2 (f : Ex) (g1 g2 : Tgt) : Sm := fun env st => ofR (f env st) env fun d s => match (g1 d env s).bind fun p => g2 d p.1 p.2 with
  | some p => .nx p.1 p.2
  | none => .stuck
def sAsg3 (f : Ex) (g1 g2 g3 : Tgt) : Sm := fun env st => ofR (f env st) env fun d s => match (g1 d env s).bind fun p => (g2 d p.1 p.2).bind fun p => g3 d p.1 p.2 with
  | some p => .nx p.1 p.2
  | none => .stuck
end
/-! ### from the head -/
theorem ifld_of {w : World} {K : PySem.W.Frag} {CI : List String} {n : String} (h : ifldB K CI n = true) : IFld K (gw K w) CI n := ⟨fun c hc => by
  have := List.all_eq_true.mp h c hc
  simp only [Bool.and_eq_true, beq_iff_eq] at this
  exact ⟨(insC_of this.1).cl, this.2⟩⟩
theorem meth_of {K : PySem.W.Frag} {c mn : String} (h : methB K c mn = true) : Cls K (gaC K c) ∧ Meth K (gaC K c) (Str.ofString mn) (He.ma K (gaC K c) (Str.ofString mn)) := by
  unfold methB at h
  simp only [Bool.and_eq_true, beq_iff_eq] at h
  exact ⟨(insC_of h.1.1.1).cl, h.1.1.2, h.1.2, h.2⟩
theorem mk_of {K : PySem.W.Frag} {c : String} (h : mkB K c = true) : Mk K (gaC K c) (He.ma K (gaC K c) "__init__") := by
  unfold mkB at h
  simp only [Bool.and_eq_true, beq_iff_eq] at h
  exact ⟨h.1.1.1, h.1.1.2, h.1.2, h.2⟩
theorem eqo_of {w : World} {K : PySem.W.Frag} {c : String} (h : eqoB K c = true) : EqO K (gw K w) c (He.ma K (gaC K c) "__eq__") := by
  unfold eqoB at h
  simp only [Bool.and_eq_true, beq_iff_eq] at h
  obtain ⟨⟨⟨⟨h1, h2⟩, h3⟩, h4⟩, h5⟩ := h
  exact ⟨h1, h2, h3, fun t => List.all_eq_true.mp h4 t (by cases t <;> decide), insC_of h5⟩
end F3
namespace F3
open PySem PySem.Spec PyProof.Rows L2
/-! ### one way or another -/
def altR (r r2 : Res D) : Res D := match r with
  | .stuck => r2
  | .ok d s => .ok d s
  | .exn c fs s => .exn c fs s
def eAlt (f g : Ex) : Ex := fun env st => altR (f env st) (g env st)
end F3

/-! F3, part qa: texts: signs, in, times, join, case; all, any, sum, index. -/
namespace F3
open PySem PySem.Spec PyProof.Rows L2

/-! ### the parts of a list -/
def blsD : List D → Option (List Bool)
  | [] => some []
  | .bl b :: r => (blsD r).map (b :: ·)
  | _ => none
section
variable {K : PySem.W.Frag} {cl : ClW} {as : As} {H : Hp}
theorem bls_sh : ∀ {vs : List V} {ds : List D} {bs : List Bool}, ShL K cl as H vs ds → blsD ds = some bs → vs = bs.map V.bl
  | [], [], _, _, e => by cases e; rfl
  | _ :: _, d :: ds, bs, s, e => by
    cases s with
    | cons s1 s2 =>
      cases d with
      | bl b =>
        cases s1
        simp only [blsD] at e
        obtain ⟨r, e1, rfl⟩ := Option.map_eq_some_iff.mp e
        rw [List.map_cons, bls_sh s2 e1]
      | _ => cases e
end
/-! ### the ops -/
def oneSign (x : Str) : Option Nat := match x.cps.toList with
  | [c] => some c
  | _ => none
def inS (i j : Str) : Bool := match oneSign i with
  | some c => decide (c ∈ j.cps.toList)
  | none => !(Builtin.Str.occurrences j i 0 j.length 1).isEmpty
def inXB (x y : D) (st : Store) : Option Bool := match x, y with
  | .str i, .str j => some (inS i j)
  | x, y => inB x y st
def inXD : O2 := fun x y st => (inXB x y st).map fun b => (.bl b, st)
def allD : On := fun xs st => match xs with
  | [x] => ((listD st x).bind blsD).map fun bs => (.bl (bs.all id), st)
  | _ => none
def timesS (a : Str) (k : Int) : Str := ⟨((List.replicate k.toNat a.cps.toList).flatten).toArray⟩
def signs (x : Str) : List D := x.cps.toList.map fun c => .str ⟨#[c]⟩
def signI (d : D) (s : Store) : Res Wlk := match d with
  | .str x => .ok (none, signs x) s
  | _ => .stuck
def iSign (f : Ex) : Its := fun env st => (f env st).bind signI

section
variable {X : Cx} {cl : ClW} {W : WX} {K : PySem.W.Frag} {as : As} {H : Hp} {st : Store}
def rInX (K : PySem.W.Frag) : R2 := fun x y H Q => ((∃ (c : Nat) (z : Str), x = .str ⟨#[c]⟩ ∧ y = .str z ∧ Q (.bl (decide (c ∈ z.cps.toList))) H) ∨ (∃ i j, x = .str i ∧ y = .str j ∧ Q (.bl (!(Builtin.Str.occurrences j i 0 j.length 1).isEmpty)) H)) ∨ rInD K x y H Q
theorem op_inX (hu : X.A.units + 65 < cLine) : OpR X (compareOp .In) (rInX X.K) := (op_in_sign.or op_in_str).or (op_inD hu)
theorem oneSign_eq {x : Str} {c : Nat} (h : oneSign x = some c) : x = ⟨#[c]⟩ := by
  unfold oneSign at h
  split at h
  · rename_i d e
    cases h
    exact congrArg Str.mk (Array.toList_inj.mp (by rw [e]))
  · cases h
theorem ok_inX : Ok2 K cl (rInX K) inXD := by
  intro as H st x y v w d st' Q r e s1 s2 af
  have gen : (∀ b, inB x y st = some b → (D.bl b, st) = (d, st') → rInD K v w H Q) := fun b e1 e2 => by
    cases e2
    obtain ⟨p, qs, h1, h2, h3, h4, rfl⟩ := inB_data r e1 s1 s2
    exact ⟨p, qs, h1, h2, h3, h4, af as H _ Le.refl r (.bl _)⟩
  unfold inXD at e
  obtain ⟨b, e1, e2⟩ := Option.map_eq_some_iff.mp e
  unfold inXB at e1
  split at e1
  · rename_i i j
    cases e1
    cases e2
    cases s1
    cases s2
    have q := af as H _ Le.refl r (.bl _)
    unfold inS at q
    cases e3 : oneSign i with
    | some c =>
      rw [e3] at q
      obtain rfl := oneSign_eq e3
      exact .inl (.inl ⟨c, j, rfl, rfl, q⟩)
    | none =>
      rw [e3] at q
      exact .inl (.inr ⟨i, j, rfl, rfl, q⟩)
  · exact .inr (gen b e1 e2)
theorem one_listD {A B : Type} {g : List D → Option A} {h : A → B} {x : D} {d : B} (e : ((listD st x).bind g).map h = some d) {v : V} (r : Rel K cl as H st) (s : Sh K cl as H v x) : ∃ ds a p xs, g ds = some a ∧ h a = d ∧ v = .ref p ∧ SqL K H p xs ∧ ShL K cl as H xs ds := by
  obtain ⟨a, e1, e2⟩ := Option.map_eq_some_iff.mp e
  obtain ⟨ds, e3, e4⟩ := Option.bind_eq_some_iff.mp e1
  obtain ⟨p, xs, rfl, h1, h2⟩ := listD_sq r e3 s
  exact ⟨ds, a, p, xs, e4, e2, rfl, h1, h2⟩
theorem ok_all : Okn K cl (rAll K) allD := by
  intro as H st xs vs d st' Q r e s af
  unfold allD at e
  split at e
  · cases s with
    | cons s1 s2 =>
      cases s2
      obtain ⟨ds, bs, p, us, e1, e2, rfl, h1, h2⟩ := one_listD e r s1
      cases e2
      obtain rfl := bls_sh h2 e1
      exact ⟨p, bs, rfl, h1, af.pure r (.bl _)⟩
  · cases e
theorem its_ok {x : Str} {r : Wlk} : ItOk K cl (L2.Its x) as H r (signs x) := by
  intro as2 H2 st2 i l r _
  refine ⟨fun d hd => ?_, fun hi => (by simpa [signs] using hi : x.cps.size ≤ i)⟩
  unfold signs at hd
  rw [List.getElem?_map] at hd
  cases e : x.cps.toList[i]? with
  | none => rw [e] at hd; cases hd
  | some c =>
    rw [e] at hd
    cases hd
    have e2 : x.cps[i]? = some c := by rw [← Array.getElem?_toList]; exact e
    obtain ⟨hi, -⟩ := Array.getElem?_eq_some_iff.mp e2
    refine ⟨hi, fun y H3 ⟨ee, c', hc, z⟩ => ?_⟩
    subst ee
    subst z
    rw [e2] at hc
    cases hc
    exact ⟨Le.refl, r, .str _⟩
theorem fi_sign {tg l : Expr} {f : Ex} (hl : FE X cl W l f) : FI X cl W tg l (iSign f) := PI.w (pi_str hl) fun sg H R ⟨as, st, env, r0, er, q⟩ => by
  refine ⟨as, st, env, r0, er, ?_⟩
  unfold iSign at q
  cases e : f env st with
  | stuck => rw [e] at q; exact q.elim
  | exn c fs s => rw [e] at q; exact q
  | ok d s =>
    rw [e] at q
    intro as1 H1 v l1 r1 x
    cases x with
    | str z => exact ⟨_, rfl, q as1 H1 _ l1 r1 its_ok⟩
    | _ => exact q.elim
end
end F3

/-! F3, part qb: dicts as cells: read, written, walked. -/
namespace F3
open PySem PySem.Spec PyProof.Rows L2

/-! ### pairs -/
section
variable {κ B : Type} [DecidableEq κ]
def lookP (kvs : List (κ × B)) (k : κ) : Option B := (kvs.find? fun kv => decide (kv.1 = k)).map (·.2)
def putP (kvs : List (κ × B)) (k : κ) (v : B) : List (κ × B) := if (kvs.any fun kv => decide (kv.1 = k)) = true then kvs.map (fun kv => if kv.1 = k then (kv.1, v) else kv) else kvs ++ [(k, v)]
def dropP (kvs : List (κ × B)) (k : κ) : List (κ × B) := kvs.filter fun kv => decide (kv.1 ≠ k)
end
def keyD : D → Option Key
  | .int i => some (.inl i)
  | .str x => some (.inr x)
  | _ => none
def kD : Key → D
  | .inl i => .int i
  | .inr x => .str x
section
variable (K : PySem.W.Frag) (cl : ClW) (as : As) (H : Hp)
/-- pairs stand for pairs -/
def KvR (kvs : List (Key × V)) (ds : List (Key × D)) : Prop := kvs.map (·.1) = ds.map (·.1) ∧ ShL K cl as H (kvs.map (·.2)) (ds.map (·.2))
end
section
variable {X : Cx} {cl : ClW} {W : WX} {K : PySem.W.Frag} {as as' : As} {H H' : Hp} {st : Store}
theorem KvR.cons_inv {p : Key × V} {q : Key × D} {kvs : List (Key × V)} {ds : List (Key × D)} (h : KvR K cl as H (p :: kvs) (q :: ds)) : p.1 = q.1 ∧ Sh K cl as H p.2 q.2 ∧ KvR K cl as H kvs ds := by
  obtain ⟨h1, h2⟩ := h
  simp only [List.map_cons, List.cons.injEq] at h1
  cases h2 with
  | cons a b => exact ⟨h1.1, a, h1.2, b⟩
theorem KvR.nil : KvR K cl as H [] [] := ⟨rfl, .nil⟩
theorem KvR.cons {p : Key × V} {q : Key × D} {kvs : List (Key × V)} {ds : List (Key × D)} (h1 : p.1 = q.1) (h2 : Sh K cl as H p.2 q.2) (h : KvR K cl as H kvs ds) : KvR K cl as H (p :: kvs) (q :: ds) := ⟨by rw [List.map_cons, List.map_cons, h1, h.1], .cons h2 h.2⟩
theorem KvR.upW (l : Mw as H as' H') {kvs : List (Key × V)} {ds : List (Key × D)} (h : KvR K cl as H kvs ds) : KvR K cl as' H' kvs ds := ⟨h.1, h.2.upW l⟩
theorem KvR.length {kvs : List (Key × V)} {ds : List (Key × D)} (h : KvR K cl as H kvs ds) : kvs.length = ds.length := by
  have := congrArg List.length h.1
  simpa using this
theorem KvR.look (k : Key) : ∀ {kvs : List (Key × V)} {ds : List (Key × D)}, KvR K cl as H kvs ds → (lookP kvs k = none ∧ lookP ds k = none) ∨ ∃ v d, lookP kvs k = some v ∧ lookP ds k = some d ∧ Sh K cl as H v d
  | [], [], _ => .inl ⟨rfl, rfl⟩
  | [], _ :: _, h => by have := h.length; cases this
  | _ :: _, [], h => by have := h.length; cases this
  | p :: kvs, q :: ds, h => by
    obtain ⟨h1, h2, h3⟩ := h.cons_inv
    by_cases e : p.1 = k
    · exact .inr ⟨p.2, q.2, by simp [lookP, List.find?_cons, e], by simp [lookP, List.find?_cons, h1 ▸ e], h2⟩
    · have e2 : ¬ q.1 = k := h1 ▸ e
      have a1 : lookP (p :: kvs) k = lookP kvs k := by simp [lookP, List.find?_cons, e]
      have a2 : lookP (q :: ds) k = lookP ds k := by simp [lookP, List.find?_cons, e2]
      rw [a1, a2]
      exact h3.look k
theorem KvR.any (k : Key) : ∀ {kvs : List (Key × V)} {ds : List (Key × D)}, KvR K cl as H kvs ds → (kvs.any fun kv => decide (kv.1 = k)) = (ds.any fun kv => decide (kv.1 = k))
  | [], [], _ => rfl
  | [], _ :: _, h => by have := h.length; cases this
  | _ :: _, [], h => by have := h.length; cases this
  | p :: kvs, q :: ds, h => by
    obtain ⟨h1, h2, h3⟩ := h.cons_inv
    rw [List.any_cons, List.any_cons, h1, h3.any k]
theorem KvR.maps {k : Key} {v : V} {d : D} (s : Sh K cl as H v d) : ∀ {kvs : List (Key × V)} {ds : List (Key × D)}, KvR K cl as H kvs ds → KvR K cl as H (kvs.map fun kv => if kv.1 = k then (kv.1, v) else kv) (ds.map fun kv => if kv.1 = k then (kv.1, d) else kv)
  | [], [], _ => .nil
  | [], _ :: _, h => by have := h.length; cases this
  | _ :: _, [], h => by have := h.length; cases this
  | p :: kvs, q :: ds, h => by
    obtain ⟨h1, h2, h3⟩ := h.cons_inv
    rw [List.map_cons, List.map_cons]
    by_cases e : p.1 = k
    · rw [if_pos e, if_pos (h1 ▸ e)]
      exact .cons h1 s (KvR.maps s h3)
    · rw [if_neg e, if_neg (h1 ▸ e)]
      exact .cons h1 h2 (KvR.maps s h3)
theorem KvR.append {kvs kvs2 : List (Key × V)} {ds ds2 : List (Key × D)} (h : KvR K cl as H kvs ds) (h2 : KvR K cl as H kvs2 ds2) : KvR K cl as H (kvs ++ kvs2) (ds ++ ds2) := ⟨by rw [List.map_append, List.map_append, h.1, h2.1], by rw [List.map_append, List.map_append]; exact h.2.append h2.2⟩
theorem KvR.put {k : Key} {v : V} {d : D} (s : Sh K cl as H v d) {kvs : List (Key × V)} {ds : List (Key × D)} (h : KvR K cl as H kvs ds) : KvR K cl as H (putP kvs k v) (putP ds k d) := by
  unfold putP
  rw [h.any k]
  split
  · exact KvR.maps s h
  · exact h.append (.cons rfl s .nil)
theorem KvR.drop (k : Key) : ∀ {kvs : List (Key × V)} {ds : List (Key × D)}, KvR K cl as H kvs ds → KvR K cl as H (dropP kvs k) (dropP ds k)
  | [], [], _ => .nil
  | [], _ :: _, h => by have := h.length; cases this
  | _ :: _, [], h => by have := h.length; cases this
  | p :: kvs, q :: ds, h => by
    obtain ⟨h1, h2, h3⟩ := h.cons_inv
    unfold dropP
    by_cases e : p.1 = k
    · rw [List.filter_cons_of_neg (by simpa using e), List.filter_cons_of_neg (by simpa using h1 ▸ e)]
      exact KvR.drop k h3
    · rw [List.filter_cons_of_pos (by simpa using e), List.filter_cons_of_pos (by simpa using h1 ▸ e)]
      exact .cons h1 h2 (KvR.drop k h3)
/-! ### where one stands -/
def dctD (st : Store) : D → Option (List (Key × D))
  | .dct kvs => some kvs
  | .ref i => match st[i]? with
    | some (.dct kvs) => some kvs
    | some (.lck kvs) => some kvs
    | _ => none
  | _ => none
/-- open: it may be written -/
def dctC (st : Store) : D → Option (Nat × List (Key × D))
  | .ref i => match st[i]? with
    | some (.dct kvs) => some (i, kvs)
    | _ => none
  | _ => none
/-! ### ops -/
def eDm1 (o : O2) (fo fi : Ex) : Ex := fun env st => (fo env st).bind fun x s => if (dctD s x).isSome = true then (fi env s).bind fun y s2 => ofO (o x y s2) else .stuck
abbrev O3 := D → D → D → Store → Option (D × Store)
def eDm2 (o : O3) (fo fi fx : Ex) : Ex := fun env st => (fo env st).bind fun x s => if (dctD s x).isSome = true then (fi env s).bind fun y s2 => (fx env s2).bind fun z s3 => ofO (o x y z s3) else .stuck
def putD' (x y d : D) (st : Store) : Option Store := (dctC st x).bind fun p => (keyD y).bind fun k => if p.2.length < 100000 then some (st.set p.1 (.dct (putP p.2 k d))) else none
def sDPutF (fo fi f : Ex) : Sm := fun env st => ofR (f env st) env fun d s => ofR (fo env s) env fun x s2 => ofR (fi env s2) env fun y s3 => match putD' x y d s3 with
  | some s4 => .nx env s4
  | none => .stuck
section
variable {o i e f' value : Expr} {fo fi fx f : Ex} {pos pos' apos cpos : Pos}
/-- a new list, a cell from the beginning -/
theorem Aft.cel {Q : VK} {vs : List V} {ds : List D} (r : Rel K cl as H st) (x : ShL K cl as H vs ds) (af : Aft K cl as H (.ref st.length) (st ++ [.lst ds]) Q) (p : Addr) (hp : H p = none) : Q (.ref p) (upd H p (.lst vs)) := by
  obtain ⟨l1, r1⟩ := r.cell_new (c := .lst ds) (o := .lst vs) hp fun as' l => .lst upd_same (x.upM l)
  exact af _ _ _ l1 r1 (.ref (by rw [← r.len]; simp))
end
end
end F3

/-! F3, part qc: dicts walked under a lock; list(d.values()); sorted. -/
namespace F3
open PySem PySem.Spec PyProof.Rows L2

/-! ### locks -/
section
variable {X : Cx} {cl : ClW} {W : WX} {K : PySem.W.Frag} {as as' : As} {H H' : Hp} {st : Store}
theorem Mw.setc {k : Nat} {a : Addr} {o : HO} (e : as.c[k]? = some a) : Mw as H as (upd H a o) :=
  ⟨fun _ _ h => h, fun b u n eb => ⟨by rw [upd_ne (fun z : b = a => n (.inl (z ▸ List.mem_of_getElem? e)))]; exact eb, n⟩⟩
theorem Rel.lock {i : Nat} {a : Addr} {kvs : List (Key × V)} {ds : List (Key × D)} (r : Rel K cl as H st) (e : as.c[i]? = some a) (h : H a = some (.dK kvs)) (x : KvR K cl as H kvs ds) (od : Obj) :
    Le as H as (upd H a (.frz od (.dK kvs))) ∧ Rel K cl as (upd H a (.frz od (.dK kvs))) (st.set i (.lck ds)) := by
  have hn : NF H a := .of h fun _ _ z => by cases z
  have x2 := x.upW (Mv.setc (o := .frz od (.dK kvs)) hn e).w
  exact r.setc hn e (.lck upd_same x2.1 x2.2)
/-! ### walks -/
def lckD (s : Store) : D → Option (List (Key × D))
  | .ref k => match s[k]? with
    | some (.lck ds) => some ds
    | _ => none
  | _ => none
def walkI (g : Key × D → D) (d : D) (s : Store) : Res Wlk := match lckD s d with
  | some ds => .ok (none, ds.map g) s
  | none => .stuck
def iKeysD (f : Ex) : Its := fun env st => (f env st).bind (walkI fun kv => kD kv.1)
def iValsD (f : Ex) : Its := fun env st => (f env st).bind (walkI fun kv => kv.2)
def iItemsD (f : Ex) : Its := fun env st => (f env st).bind (walkI fun kv => .tup [kD kv.1, kv.2])
theorem KvR.at_ : ∀ {kvs : List (Key × V)} {ds : List (Key × D)} {i : Nat} {q : Key × D}, KvR K cl as H kvs ds → ds[i]? = some q → ∃ v, kvs[i]? = some (q.1, v) ∧ Sh K cl as H v q.2
  | [], [], _, _, _, e => by simp at e
  | [], _ :: _, _, _, h, _ => by have := h.length; cases this
  | _ :: _, [], _, _, h, _ => by have := h.length; cases this
  | p :: kvs, q' :: ds, 0, q, h, e => by
    obtain ⟨h1, h2, h3⟩ := h.cons_inv
    obtain rfl : q' = q := Option.some.inj (by simpa using e)
    exact ⟨p.2, by rw [← h1]; rfl, h2⟩
  | p :: kvs, q' :: ds, i + 1, q, h, e => by
    obtain ⟨h1, h2, h3⟩ := h.cons_inv
    obtain ⟨v, a, b⟩ := h3.at_ (i := i) (q := q) (by simpa using e)
    exact ⟨v, by simpa using a, b⟩
variable {tg o : Expr} {f : Ex} {apos cpos : Pos}
/-! ### list(d.values()) -/
/-! ### sorted -/
end
end F3

/-! F3, part qd: comprehensions that become cells; or of values; len by an own __len__; pop, remove; names augmented. -/
namespace F3
open PySem PySem.Spec PyProof.Rows L2

theorem Rm.u1 {k : Nat} {A : Around} (r : Room k A) : A.units + 1 < cLine := by have := r.un; omega
noncomputable def eLcC (it : Its) (g : Tgt) (t e : Ex) (vs : List Nat) : Ex := fun env st => (it env st).bind fun r s => (lcL r g t e vs env r.2 [] s).bind fun xs s2 => .ok (.ref s2.length) (s2 ++ [.lst xs])
section
variable {X : Cx} {cl : ClW} {W : WX} {a b c e : Expr} {f g h : Ex} {pos : Pos}
end
/-! ### or of values -/
def truD (st : Store) : D → Option Bool
  | .non => some false
  | .bl b => some b
  | .int i => some (i != 0)
  | .str x => if x.length ≤ 100000 then some ((x.length : Int) != 0) else none
  | .tup ds => some (!ds.isEmpty)
  | x => (listD st x).map fun ds => !ds.isEmpty
def orK (g : Store → Res D) (x : D) (s : Store) : Res D := match truD s x with
  | some true => .ok x s
  | some false => g s
  | none => .stuck
def eOrV (f g : Ex) : Ex := fun env st => (f env st).bind (orK (g env))
section
variable {X : Cx} {cl : ClW} {W : WX} {K : PySem.W.Frag} {as : As} {H : Hp} {st : Store} {a b c e : Expr} {f g h : Ex} {pos : Pos} {rest : List Expr}
end
/-! ### pop -/
section
variable {X : Cx} {cl : ClW} {W : WX} {K : PySem.W.Frag} {as : As} {H : Hp} {st : Store}
end
end F3

/-! F3, part qe: len by an own __len__; names augmented; walks of two lists at once. -/
namespace F3
open PySem PySem.Spec PyProof.Rows L2

def lenR (r : Res D) : Res D := match r with
  | .ok (.int n) s => if 0 ≤ n ∧ n < 2 ^ 62 then .ok (.int n) s else .stuck
  | _ => .stuck
def eLenO (c : String) (m : List D → Store → Res D) (f : Ex) : Ex := fun env st => (f env st).bind fun x s => if isOf c "__len__" s x = true then lenR (m [x] s) else .stuck
section
variable {X : Cx} {cl : ClW} {W : WX} {k : Nat} {f : Addr} {fd : FuncData} {ps : List Str} {m : List D → Store → Res D} {c : String} {p pos : Pos} {e : Expr}
end
end F3

/-! F3, part r: reckoning with code. -/
namespace F3
open PySem PySem.Spec PyProof.Rows L2

section
variable {A B : Type}
end
theorem eVar_s (n : Nat) (o : Option D) (r : Env) (st : Store) : eVar (n + 1) (o :: r) st = eVar n r st := by
  unfold eVar
  rw [List.getElem?_cons_succ]
def ifF (d : D) (a b : Flow) : Flow := match d with
  | .bl true => a
  | .bl false => b
  | _ => .stuck
theorem sIf_eq (c : Ex) (a b : Sm) (env : Env) (st : Store) : sIf c a b env st = ofR (c env st) env fun d s => ifF d (a env s) (b env s) := by
  unfold sIf ifF
  rfl
def seqF (f : Flow) (b : Sm) : Flow := match f with
  | .nx e s => b e s
  | .rt d s => .rt d s
  | .bk e s => .bk e s
  | .ct e s => .ct e s
  | .ex c fs e s => .ex c fs e s
  | .stuck => .stuck
def fnF (f : Flow) : Res D := match f with
  | .rt d st' => .ok d st'
  | .nx _ st' => .ok .non st'
  | .ex c fs _ st' => .exn c fs st'
  | _ => .stuck
/-- the slots of the parameters -/
def soms (ds : List D) : Env := ds.map some
theorem fn_eq (m : Nat) (f : Sm) (ds : List D) (st : Store) : fn m f ds st = fnF (f (soms ds ++ List.replicate m none) st) := rfl
def asgF (o : Option (Env × Store)) : Flow := match o with
  | some p => .nx p.1 p.2
  | none => .stuck
noncomputable def forF (r : Res Wlk) (env : Env) (g : Tgt) (b : Sm) : Flow := match r with
  | .ok r s => forG r g b r.2 env s
  | .exn c fs s => .ex c fs env s
  | .stuck => .stuck
def subF (fo : Res D) (fi : Store → Res D) (d : D) (env : Env) : Option (Env × Store) := match fo with
  | .ok x s1 => (match fi s1 with
    | .ok y s2 => (stD x y d s2).map fun s3 => (env, s3)
    | _ => none)
  | _ => none
def subF2 (x d : D) (env : Env) (r : Res D) : Option (Env × Store) := match r with
  | .ok y s2 => (stD x y d s2).map fun s3 => (env, s3)
  | _ => none
def osm (d : D) (s : Store) : Res (Option Int) := match d with
  | .int i => .ok (some i) s
  | _ => .stuck
def slF (o : Option D) (s : Store) : Res D := match o with
  | some d => .ok d s
  | none => .stuck
/-- what each piece of code tells, in a form for simp -/
theorem evs :
    (∀ d env st, eC d env st = .ok d st) ∧ (∀ o f env st, eUn o f env st = (f env st).bind fun x s => ofO (o x s)) ∧
    (∀ o f g env st, eBin o f g env st = (f env st).bind fun x s1 => (g env s1).bind fun y s2 => ofO (o x y s2)) ∧
    (∀ c a b env st, eIf c a b env st = (c env st).bind (onB (a env) (b env))) ∧
    (∀ a b env st, eAnd a b env st = (a env st).bind (onB (b env) fun s => .ok (.bl false) s)) ∧
    (∀ a b env st, eOr a b env st = (a env st).bind (onB (fun s => .ok (.bl true) s) (b env))) ∧
    (∀ a env st, eNot a env st = (a env st).bind (onB (fun s => .ok (.bl false) s) fun s => .ok (.bl true) s)) ∧
    (∀ o o' f g h env st, eChain o o' f g h env st = (f env st).bind fun x s1 => (g env s1).bind fun y s2 => (ofO (o x y s2)).bind fun b s3 => onB (fun s => (h env s).bind fun z s4 => ofO (o' y z s4)) (fun s => .ok (.bl false) s) b s3) ∧
    (∀ fa env st, eLst fa env st = (fa env st).bind fun ds s => if ds.length ≤ 100000 then .ok (.lst ds) s else .stuck) ∧
    (∀ fa env st, eTup fa env st = (fa env st).bind fun ds s => if ds.length ≤ 100000 then .ok (.tup ds) s else .stuck) ∧
    (∀ fa env st, eCel fa env st = (fa env st).bind fun ds s => if ds.length ≤ 100000 then .ok (.ref s.length) (s ++ [.lst ds]) else .stuck) ∧
    (∀ o fa env st, eFn o fa env st = (fa env st).bind fun ds s => ofO (o ds s)) ∧
    (∀ T o f fa env st, eBm T o f fa env st = (f env st).bind fun x s => if bmTy s x = some T then (fa env s).bind fun ds s2 => ofO (o x ds s2) else .stuck) ∧
    (∀ m gD fa fk env st, eCall m gD fa fk env st = (fa env st).bind fun ds s1 => (fk env s1).bind fun es s2 => m (gD ds es) s2) ∧
    (∀ f l h env st, eSl f l h env st = (f env st).bind fun x s => (l env s).bind fun lo s2 => (h env s2).bind fun hi s3 => slF (slD x lo hi s3) s3) ∧
    (∀ env st, oNone env st = .ok none st) ∧ (∀ f env st, oSome f env st = (f env st).bind osm) ∧
    (∀ env st, aNil env st = .ok [] st) ∧ (∀ f g env st, aCons f g env st = (f env st).bind fun d s1 => (g env s1).bind fun ds s2 => .ok (d :: ds) s2) ∧
    (∀ env st, sNext env st = .nx env st) ∧ (∀ a b env st, sSeq a b env st = seqF (a env st) b) ∧
    (∀ f env st, sExpr f env st = ofR (f env st) env fun _ s => .nx env s) ∧ (∀ f env st, sRet f env st = ofR (f env st) env fun d s => .rt d s) ∧ (∀ env st, sRetN env st = .rt .non st) ∧
    (∀ i f env st, sSet i f env st = ofR (f env st) env fun d s => .nx (env.set i (some d)) s) ∧
    (∀ f g env st, sAsg f g env st = ofR (f env st) env fun d s => asgF (g d env s)) ∧
    (∀ i j f g env st, sPar i j f g env st = ofR (f env st) env fun d s => ofR (g env s) env fun d2 s2 => .nx ((env.set i (some d)).set j (some d2)) s2) ∧
    (∀ env st, sBk env st = .bk env st) ∧ (∀ env st, sCt env st = .ct env st) ∧
    (∀ it g b env st, sFor it g b env st = forF (it env st) env g b) ∧
    (∀ i d env st, tNm i d env st = some (env.set i (some d), st)) ∧ (∀ fo fi d env st, tSub fo fi d env st = subF (fo env st) (fi env) d env) ∧
    (∀ f env st, iLst f env st = (f env st).bind lstI) ∧ (∀ f env st, iTupl f env st = (f env st).bind tupI) ∧
    (∀ it g t e vs env st, eLc it g t e vs env st = (it env st).bind fun r s => (lcL r g t e vs env r.2 [] s).bind fun xs s2 => .ok (.lst xs) s2) ∧ (∀ env st, eYes env st = .ok (.bl true) st) :=
  ⟨fun _ _ _ => rfl, fun _ _ _ _ => rfl, fun _ _ _ _ _ => rfl, fun _ _ _ _ _ => rfl, fun _ _ _ _ => rfl, fun _ _ _ _ => rfl, fun _ _ _ => rfl, fun _ _ _ _ _ _ _ => rfl, fun _ _ _ => rfl, fun _ _ _ => rfl, fun _ _ _ => rfl, fun _ _ _ _ => rfl, fun _ _ _ _ _ _ => rfl, fun _ _ _ _ _ _ => rfl, fun _ _ _ _ _ => rfl,
    fun _ _ => rfl, fun _ _ _ => rfl, fun _ _ => rfl, fun _ _ _ _ => rfl, fun _ _ => rfl, fun _ _ _ _ => rfl, fun _ _ _ => rfl, fun _ _ _ => rfl, fun _ _ => rfl, fun _ _ _ _ => rfl, fun _ _ _ _ => rfl, fun _ _ _ _ _ _ => rfl, fun _ _ => rfl, fun _ _ => rfl, fun _ _ _ _ _ => rfl, fun _ _ _ _ => rfl, fun _ _ _ _ _ => rfl,
    fun _ _ _ => rfl, fun _ _ _ => rfl, fun _ _ _ _ _ _ _ => rfl, fun _ _ => rfl⟩
/-- ends that are known -/
theorem evk :
    (∀ {A B : Type} (a : A) (s : Store) (k : A → Store → Res B), (Res.ok a s).bind k = k a s) ∧ (∀ {A B : Type} (a : A) (s : Store) (k : A → Store → Res B), (Res.ok a s).bindS k = k a s) ∧ (∀ {A B : Type} (c : String) (fs : List (String × D)) (s : Store) (k : A → Store → Res B), (Res.exn c fs s).bind k = .exn c fs s) ∧
    (∀ d s, ofO (some (d, s)) = .ok d s) ∧ (∀ d s env k, ofR (.ok d s) env k = k d s) ∧ (∀ c fs s env k, ofR (.exn c fs s) env k = .ex c fs env s) ∧
    (∀ d r st, eVar 0 (some d :: r) st = .ok d st) ∧ (∀ n o r st, eVar (n + 1) (o :: r) st = eVar n r st) ∧
    (∀ k1 k2 s, onB k1 k2 (.bl true) s = k1 s) ∧ (∀ k1 k2 s, onB k1 k2 (.bl false) s = k2 s) ∧ (∀ a b, ifF (.bl true) a b = a) ∧ (∀ a b, ifF (.bl false) a b = b) ∧
    (∀ c a b env st, sIf c a b env st = ofR (c env st) env fun d s => ifF d (a env s) (b env s)) ∧
    (∀ e s b, seqF (.nx e s) b = b e s) ∧ (∀ d s b, seqF (.rt d s) b = .rt d s) ∧ (∀ c fs e s b, seqF (.ex c fs e s) b = .ex c fs e s) ∧ (∀ e s b, seqF (.bk e s) b = .bk e s) ∧ (∀ e s b, seqF (.ct e s) b = .ct e s) ∧
    (∀ d s, fnF (.rt d s) = .ok d s) ∧ (∀ e s, fnF (.nx e s) = .ok .non s) ∧ (∀ c fs e s, fnF (.ex c fs e s) = .exn c fs s) ∧ (∀ m f ds st, fn m f ds st = fnF (f (soms ds ++ List.replicate m none) st)) ∧
    (∀ e s, asgF (some (e, s)) = .nx e s) ∧ (∀ ds s env g b, forF (.ok (none, ds) s) env g b = forL g b ds env s) ∧
    (∀ x s1 fi d env, subF (.ok x s1) fi d env = subF2 x d env (fi s1)) ∧ (∀ x y d s2 env, subF2 x d env (.ok y s2) = (stD x y d s2).map fun s3 => (env, s3)) ∧
    (∀ ds s, lstI (.lst ds) s = .ok (none, ds) s) ∧ (∀ ds s, tupI (.tup ds) s = .ok (none, ds) s) ∧ (∀ i s, osm (.int i) s = .ok (some i) s) ∧ (∀ d s, slF (some d) s = .ok d s) :=
  ⟨fun _ _ _ => rfl, fun _ _ _ => rfl, fun _ _ _ _ => rfl, fun _ _ => rfl, fun _ _ _ _ => rfl, fun _ _ _ _ _ => rfl, fun _ _ _ => rfl, eVar_s, fun _ _ _ => rfl, fun _ _ _ => rfl, fun _ _ => rfl, fun _ _ => rfl, sIf_eq, fun _ _ _ => rfl, fun _ _ _ => rfl, fun _ _ _ _ _ => rfl, fun _ _ _ => rfl, fun _ _ _ => rfl,
    fun _ _ => rfl, fun _ _ => rfl, fun _ _ _ _ => rfl, fun _ _ _ _ => rfl, fun _ _ => rfl, fun ds s env _ _ => forG_none ds env s, fun _ _ _ _ _ => rfl, fun _ _ _ _ _ => rfl, fun _ _ => rfl, fun _ _ => rfl, fun _ _ => rfl, fun _ _ => rfl⟩
/-- lists and numbers that are written -/
theorem evl : (∀ {A : Type} (a b : A) (l : List A), (a :: l).set 0 b = b :: l) ∧ (∀ {A : Type} (a b : A) (n : Nat) (l : List A), (a :: l).set (n + 1) b = a :: l.set n b) ∧ (∀ (a : D) (l : List D), soms (a :: l) = some a :: soms l) ∧ (soms [] = []) ∧
    (∀ {A : Type} (a : A) (l m : List A), (a :: l) ++ m = a :: (l ++ m)) ∧ (∀ {A : Type} (l : List A), [] ++ l = l) ∧ (∀ {A : Type} (a : A) (n : Nat), List.replicate (n + 1) a = a :: List.replicate n a) ∧ (∀ {A : Type} (a : A), List.replicate 0 a = []) :=
  ⟨fun _ _ _ => rfl, fun _ _ _ _ => rfl, fun _ _ => rfl, rfl, fun _ _ _ => rfl, fun _ => rfl, fun _ _ => rfl, fun _ => rfl⟩
/-- operators on ints -/
theorem evo (i j : Int) (st : Store) : addD (.int i) (.int j) st = some (.int (i + j), st) ∧ subD (.int i) (.int j) st = some (.int (i - j), st) ∧ ltD (.int i) (.int j) st = some (.bl (decide (i < j)), st) ∧ leD (.int i) (.int j) st = some (.bl (decide (i ≤ j)), st) ∧
    gtD (.int i) (.int j) st = some (.bl (decide (j < i)), st) ∧ geD (.int i) (.int j) st = some (.bl (decide (j ≤ i)), st) ∧ eqD (.int i) (.int j) st = some (.bl (decide (i = j)), st) ∧ neD (.int i) (.int j) st = some (.bl (!decide (i = j)), st) ∧
    negD (.int i) st = some (.int (-i), st) ∧ absD [.int i] st = some (.int (if i < 0 then -i else i), st) ∧ intD [.int i] st = some (.int i, st) ∧ max2D [.int i, .int j] st = some (.int (if j > i then j else i), st) ∧ min2D [.int i, .int j] st = some (.int (if j < i then j else i), st) :=
  ⟨rfl, rfl, rfl, rfl, rfl, rfl, rfl, rfl, rfl, rfl, rfl, rfl, rfl⟩
theorem ev_mul {i j : Int} (st : Store) (h : mulOk i j) : mulD (.int i) (.int j) st = some (.int (i * j), st) := if_pos h
theorem ev_mod {i j : Int} (st : Store) (h : 0 < j) : modD (.int i) (.int j) st = some (.int (i % j), st) := if_pos h
theorem ev_div {i j : Int} (st : Store) (h : 0 < j) (h2 : j.natAbs.log2 < 9000) : fdivD (.int i) (.int j) st = some (.int (i / j), st) := if_pos ⟨h, h2⟩
theorem ev_pow {i j : Int} (st : Store) (h : 0 ≤ j ∧ j ≤ 1000000 ∧ i.natAbs < 2 ^ 64) : powD (.int i) (.int j) st = some (.int (i ^ j.toNat), st) := if_pos h
theorem ev_intb (b : Bool) (st : Store) : intD [.bl b] st = some (.int (if b then 1 else 0), st) := rfl
theorem mul_l {i j : Int} (h : -(2 ^ 64) < i) (h2 : i < 2 ^ 64) : mulOk i j := .inl ⟨h, h2⟩
theorem mul_r {i j : Int} (h : -(2 ^ 64) < j) (h2 : j < 2 ^ 64) : mulOk i j := .inr (.inl ⟨h, h2⟩)
theorem ev_ixL (ds : List D) (i : Int) (st : Store) : ixD (.lst ds) (.int i) st = (ixAt ds i).map fun d => (d, st) := rfl
theorem ev_ixR {k : Nat} {ds : List D} {st : Store} (h : st[k]? = some (.lst ds)) (i : Int) : ixD (.ref k) (.int i) st = (ixAt ds i).map fun d => (d, st) := by
  show ((listD st (.ref k)).bind fun ds => (ixAt ds i).map fun d => (d, st)) = _
  simp only [listD, h, Option.bind]
theorem ixAt_0 {A : Type} (a : A) (l : List A) : ixAt (a :: l) 0 = some a := rfl
theorem ixAt_lit {A : Type} (l : List A) (n : Nat) : ixAt l (n : Int) = l[n]? := by
  unfold ixAt
  rw [if_pos (by omega)]
  simp
theorem stD_ref {k : Nat} {ds : List D} {st : Store} {j : Int} {d : D} (h : st[k]? = some (.lst ds)) (h0 : 0 ≤ j) (h1 : j.toNat < ds.length) : stD (.ref k) (.int j) d st = some (st.set k (.lst (ds.set j.toNat d))) := by
  unfold stD
  simp only [h]
  exact if_pos ⟨h0, h1⟩

/-! ### loops -/
/-- over a range -/
theorem intsD_get {lo : Int} {n i : Nat} {d : D} (h : (intsD lo n)[i]? = some d) : i < n ∧ d = .int (lo + i) := by
  have hi : i < n := by
    have := (List.getElem?_eq_some_iff.mp h).1
    simpa [intsD] using this
  refine ⟨hi, ?_⟩
  simp only [intsD] at h
  rw [List.getElem?_map, List.getElem?_range hi] at h
  exact (Option.some.inj h).symm
end F3

/-! F3, part s: more reckoning. -/
namespace F3
open PySem PySem.Spec PyProof.Rows L2

theorem cut_nat {A : Type} (xs : List A) (a b : Nat) : cutD xs (some (a : Int)) (some (b : Int)) = (xs.drop a).take (b - a) := by
  unfold cutD
  rw [HT.sIx_nat, HT.sIx_nat]
  by_cases h : a ≤ xs.length
  · rw [Nat.min_eq_left h]
    by_cases h2 : b ≤ xs.length
    · rw [Nat.min_eq_left h2]
    · rw [Nat.min_eq_right (by omega)]
      apply List.ext_getElem?
      intro i
      simp only [List.getElem?_take, List.getElem?_drop]
      by_cases h3 : i < xs.length - a
      · rw [if_pos h3, if_pos (by omega)]
      · rw [if_neg h3]
        split
        · exact (List.getElem?_eq_none (by omega)).symm
        · rfl
  · rw [Nat.min_eq_right (a := a) (b := xs.length) (by omega), List.drop_of_length_le (Nat.le_refl _), List.drop_of_length_le (l := xs) (i := a) (by omega)]
    simp
theorem ev_slL (ds : List D) (lo hi : Option Int) (st : Store) : slD (.lst ds) lo hi st = some (.lst (cutD ds lo hi)) := rfl
/-- the law's script, one cell of it -/
theorem cut_cell (ns : List Int) (k : Nat) : (ns.map D.int).drop k |>.take 1 |> fun l => l = (match ns[k]? with | some v => [.int v] | none => []) := by
  rw [← List.map_drop, ← List.map_take]
  cases hk : ns[k]? with
  | none =>
    rw [List.drop_of_length_le (List.getElem?_eq_none_iff.mp hk)]
    rfl
  | some v =>
    obtain ⟨hlt, hv⟩ := List.getElem?_eq_some_iff.mp hk
    rw [List.drop_eq_getElem_cons hlt, hv]
    rfl
theorem log_lt {n k : Nat} (hk : 0 < k) (h : n < 2 ^ k) : n.log2 < k := by
  by_cases h0 : n = 0
  · subst h0
    rw [Nat.log2_zero]
    exact hk
  · exact (Nat.log2_lt h0).mpr h
theorem rng1_ok {j : Int} (s : Store) (h : -(2 ^ 62) ≤ j ∧ j < 2 ^ 62) : rng1 [.int j] s = .ok (none, intsD 0 j.toNat) s := if_pos h
theorem rng2_ok {i j : Int} (s : Store) (h : -(2 ^ 62) ≤ i ∧ i < 2 ^ 62 ∧ -(2 ^ 62) ≤ j ∧ j < 2 ^ 62) : rng2 [.int i, .int j] s = .ok (none, intsD i (j - i).toNat) s := if_pos h
def fmt1 (d : D) (s : Store) : Res D := match d with
  | .str y => if y.length ≤ 100000 then .ok (.str y) s else .stuck
  | .int i => if i.natAbs.log2 < 1920 then .ok (.str (toString i)) s else .stuck
  | _ => .stuck
def join1 (r : List Ex) (acc : Str) (env : Env) (d : D) (s : Store) : Res D := match d with
  | .str y => if (acc ++ y).length ≤ 100000 then joinL r (acc ++ y) env s else .stuck
  | _ => .stuck
theorem join1_ok {r : List Ex} {acc y : Str} {env : Env} (s : Store) (h : (acc ++ y).length ≤ 100000) : join1 r acc env (.str y) s = joinL r (acc ++ y) env s := if_pos h
/-- ranges, texts -/
theorem evr : (∀ fa env st, iRange1 fa env st = (fa env st).bind rng1) ∧ (∀ fa env st, iRange2 fa env st = (fa env st).bind rng2) ∧ (∀ f env st, eFmt f env st = (f env st).bind fmt1) ∧
    (∀ ps env st, eJoin ps env st = joinL ps Str.empty env st) ∧ (∀ acc env st, joinL [] acc env st = .ok (.str acc) st) ∧ (∀ p r acc env st, joinL (p :: r) acc env st = (p env st).bind (join1 r acc env)) :=
  ⟨fun _ _ _ => rfl, fun _ _ _ => rfl, fun _ _ _ => rfl, fun _ _ _ => rfl, fun _ _ _ => rfl, fun _ _ _ _ _ => rfl⟩
/-- operators on one int -/
theorem evu (i : Int) (st : Store) : negD (.int i) st = some (.int (-i), st) ∧ absD [.int i] st = some (.int (if i < 0 then -i else i), st) ∧ intD [.int i] st = some (.int i, st) := ⟨rfl, rfl, rfl⟩
/-- lengths of what is written -/
theorem evn : ((([] : List D).length ≤ 100000) = True) ∧ (∀ a : D, (([a] : List D).length ≤ 100000) = True) ∧ (∀ a b : D, (([a, b] : List D).length ≤ 100000) = True) ∧ (∀ a b c : D, (([a, b, c] : List D).length ≤ 100000) = True) ∧ (∀ a b c d : D, (([a, b, c, d] : List D).length ≤ 100000) = True) ∧ (∀ a b c d e : D, (([a, b, c, d, e] : List D).length ≤ 100000) = True) ∧ (∀ a b c d e f : D, (([a, b, c, d, e, f] : List D).length ≤ 100000) = True) ∧ (∀ a b c d e f g : D, (([a, b, c, d, e, f, g] : List D).length ≤ 100000) = True) ∧ (∀ a b c d e f g h : D, (([a, b, c, d, e, f, g, h] : List D).length ≤ 100000) = True) ∧ (∀ a b c d e f g h i : D, (([a, b, c, d, e, f, g, h, i] : List D).length ≤ 100000) = True) ∧ (∀ a b c d e f g h i j : D, (([a, b, c, d, e, f, g, h, i, j] : List D).length ≤ 100000) = True) ∧ (∀ a b c d e f g h i j k : D, (([a, b, c, d, e, f, g, h, i, j, k] : List D).length ≤ 100000) = True) ∧ (∀ a b c d e f g h i j k l : D, (([a, b, c, d, e, f, g, h, i, j, k, l] : List D).length ≤ 100000) = True) :=
  ⟨eq_true (by show 0 ≤ 100000; omega), fun _ => eq_true (by show 1 ≤ 100000; omega), fun _ _ => eq_true (by show 2 ≤ 100000; omega), fun _ _ _ => eq_true (by show 3 ≤ 100000; omega), fun _ _ _ _ => eq_true (by show 4 ≤ 100000; omega), fun _ _ _ _ _ => eq_true (by show 5 ≤ 100000; omega), fun _ _ _ _ _ _ => eq_true (by show 6 ≤ 100000; omega), fun _ _ _ _ _ _ _ => eq_true (by show 7 ≤ 100000; omega), fun _ _ _ _ _ _ _ _ => eq_true (by show 8 ≤ 100000; omega), fun _ _ _ _ _ _ _ _ _ => eq_true (by show 9 ≤ 100000; omega), fun _ _ _ _ _ _ _ _ _ _ => eq_true (by show 10 ≤ 100000; omega), fun _ _ _ _ _ _ _ _ _ _ _ => eq_true (by show 11 ≤ 100000; omega), fun _ _ _ _ _ _ _ _ _ _ _ _ => eq_true (by show 12 ≤ 100000; omega)⟩
end F3

/-! F3, part t: reckoning with texts. -/
namespace F3
open PySem PySem.Spec PyProof.Rows L2

abbrev S (l : List Nat) : Str := ⟨l.toArray⟩
/-- the signs of an int -/
def intL (i : Int) : List Nat := (if i < 0 then [45] else []) ++ TL.numL i.natAbs
theorem str_int (i : Int) : Str.ofString (toString i) = S (intL i) := by
  unfold intL
  by_cases h : i < 0
  · rw [if_pos h]
    obtain ⟨n, rfl⟩ : ∃ n : Nat, i = -((n + 1 : Nat) : Int) := ⟨i.natAbs - 1, by omega⟩
    refine TL.ext_tl ?_
    have e : toString (-((n + 1 : Nat) : Int)) = "-" ++ toString ((n + 1 : Nat) : Int) := rfl
    rw [e, TL.tl_ofString, String.toList_append, List.map_append, ← TL.tl_ofString (toString ((n + 1 : Nat) : Int)), TL.tl_num, Int.natAbs_neg, Int.natAbs_natCast]
    rfl
  · rw [if_neg h]
    obtain ⟨n, rfl⟩ := Int.eq_ofNat_of_zero_le (Int.not_lt.mp h)
    exact TL.ext_tl (TL.tl_num n)
theorem S_len (a : List Nat) : (S a).length = a.length := SX.S_len a
theorem S_cat (a b : List Nat) : S a ++ S b = S (a ++ b) := SX.S_cat a b
theorem numL_len9 {n : Nat} (h : n < 2 ^ 1920) : (TL.numL n).length ≤ 600 := TL.numL_len (by omega) (Nat.lt_of_lt_of_le h (by decide +kernel))
theorem intL_len9 {i : Int} (h : i.natAbs < 2 ^ 1920) : (intL i).length ≤ 601 := by
  unfold intL
  have := numL_len9 h
  rw [List.length_append]
  split
  · simp only [List.length_cons, List.length_nil]
    omega
  · simp only [List.length_nil]
    omega
theorem join1S {r : List Ex} {a b : List Nat} {env : F3.Env} (s : Store) (h : a.length + b.length ≤ 100000) : join1 r (S a) env (.str (S b)) s = joinL r (S (a ++ b)) env s := by
  rw [← S_cat]
  refine join1_ok s ?_
  rw [S_cat, S_len, List.length_append]
  exact h
theorem empS : Str.empty = S [] := rfl
/-- == of pairs of ints -/
theorem eqP (a b c d : Int) (st : Store) : eqD (.tup [.int a, .int b]) (.tup [.int c, .int d]) st = some (.bl (decide (a = c) && decide (b = d)), st) := by
  have h : ∀ a b : Int, pyD st (.tup [.int a, .int b]) = some (.tuple [.int a, .int b]) := fun _ _ => rfl
  show (((pyD st (.tup [.int a, .int b])).bind fun p => (pyD st (.tup [.int c, .int d])).bind fun q => if SeqAt.shaped p = true ∧ SeqAt.shaped q = true then some (PyData.eqv p q) else none).map fun b => (D.bl b, st)) = _
  rw [h, h]
  have hs : ∀ a b : Int, SeqAt.shaped (.tuple [.int a, .int b]) = true := fun _ _ => by rfl
  simp only [Option.bind, hs, and_self, if_true, Option.map_some]
  have he : PyData.eqv (.tuple [.int a, .int b]) (.tuple [.int c, .int d]) = (decide (a = c) && decide (b = d)) := by
    simp only [PyData.eqv, PyData.eqvAll, Bool.and_true]
    rfl
  rw [he]
end F3

/-! F3, part u: reckoning with shares (rational numbers), equal data, walks. -/
namespace F3
open PySem PySem.Spec PyProof.Rows L2

/-! ### equal data -/
theorem neBl (a b : Bool) (st : Store) : neD (.bl a) (.bl b) st = some (.bl (!decide (a = b)), st) := rfl
theorem neBl_same (a : Bool) (st : Store) : neD (.bl a) (.bl a) st = some (.bl false, st) := by
  rw [neBl, decide_eq_true rfl]
  rfl
theorem neP (a b c d : Int) (st : Store) : neD (.tup [.int a, .int b]) (.tup [.int c, .int d]) st = some (.bl (!(decide (a = c) && decide (b = d))), st) := by
  have h := eqP a b c d st
  unfold eqD at h
  unfold neD
  cases e : eqB (.tup [.int a, .int b]) (.tup [.int c, .int d]) st with
  | none => rw [e] at h; cases h
  | some x =>
    rw [e] at h
    have : x = (decide (a = c) && decide (b = d)) := by
      have h2 := congrArg (fun o : Option (D × Store) => o.map (·.1)) h
      simpa using h2
    rw [this]
    rfl

/-! ### shares -/
def shD (x : Rat) : D := .tup [.int x.num, .int x.den]
/-- sizes -/
structure Sz (n : Nat) (x : Rat) : Prop where
  nu : x.num.natAbs < 2 ^ n
  de : x.den < 2 ^ n
theorem Sz.mono {n m : Nat} {x : Rat} (h : Sz n x) (hm : n ≤ m) : Sz m x :=
  ⟨Nat.lt_of_lt_of_le h.nu (Nat.pow_le_pow_right (by omega) hm), Nat.lt_of_lt_of_le h.de (Nat.pow_le_pow_right (by omega) hm)⟩
theorem lt_mul {a b n m : Nat} (h1 : a < 2 ^ n) (h2 : b < 2 ^ m) : a * b < 2 ^ (n + m) := by
  rw [Nat.pow_add]
  exact Nat.mul_lt_mul'' h1 h2
theorem lt_dbl {a b n : Nat} (h1 : a < 2 ^ n) (h2 : b < 2 ^ n) : a + b < 2 ^ (n + 1) := by
  rw [Nat.pow_succ]
  omega
/-- a fraction in lowest terms is no greater -/
theorem divInt_le {a b : Int} (hb : b ≠ 0) : (Rat.divInt a b).num.natAbs ≤ a.natAbs ∧ (Rat.divInt a b).den ≤ b.natAbs := by
  have h := Rat.num_divInt_den (Rat.divInt a b)
  have hd : ((Rat.divInt a b).den : Int) ≠ 0 := by
    have := (Rat.divInt a b).den_nz
    omega
  have e := (Rat.divInt_eq_divInt_iff hd hb).mp h
  have red := (Rat.divInt a b).reduced
  generalize (Rat.divInt a b).num = p at e red ⊢
  generalize (Rat.divInt a b).den = q at e red hd ⊢
  have e2 : p.natAbs * b.natAbs = a.natAbs * q := by
    have := congrArg Int.natAbs e
    rwa [Int.natAbs_mul, Int.natAbs_mul, Int.natAbs_natCast] at this
  have d1 : q ∣ b.natAbs := by
    have : q ∣ p.natAbs * b.natAbs := ⟨a.natAbs, by rw [e2, Nat.mul_comm]⟩
    exact Nat.Coprime.dvd_of_dvd_mul_left (Nat.Coprime.symm red) this
  obtain ⟨k, hk⟩ := d1
  have hb0 : 0 < b.natAbs := by omega
  have hk0 : 0 < k := Nat.pos_of_ne_zero fun h => by rw [h, Nat.mul_zero] at hk; omega
  have hq0 : 0 < q := by omega
  have ha : a.natAbs = p.natAbs * k := by
    have : a.natAbs * q = (p.natAbs * k) * q := by rw [← e2, hk, Nat.mul_assoc, Nat.mul_comm q k]
    exact Nat.eq_of_mul_eq_mul_right hq0 this
  refine ⟨?_, ?_⟩
  · rw [ha]
    exact Nat.le_mul_of_pos_right _ hk0
  · rw [hk]
    exact Nat.le_mul_of_pos_right _ hk0
theorem Sz.of_divInt {a b : Int} {n : Nat} (hb : b ≠ 0) (h1 : a.natAbs < 2 ^ n) (h2 : b.natAbs < 2 ^ n) : Sz n (Rat.divInt a b) :=
  ⟨Nat.lt_of_le_of_lt (divInt_le hb).1 h1, Nat.lt_of_le_of_lt (divInt_le hb).2 h2⟩
theorem den_ne (x : Rat) : ((x.den : Nat) : Int) ≠ 0 := by
  have := x.den_nz
  omega
theorem add_divInt (x y : Rat) : Rat.divInt (x.num * y.den + y.num * x.den) (x.den * y.den) = x + y := by
  conv => rhs; rw [← Rat.num_divInt_den x, ← Rat.num_divInt_den y]
  rw [Rat.divInt_add_divInt _ _ (den_ne x) (den_ne y)]
theorem sub_divInt (x y : Rat) : Rat.divInt (x.num * y.den - y.num * x.den) (x.den * y.den) = x - y := by
  conv => rhs; rw [← Rat.num_divInt_den x, ← Rat.num_divInt_den y]
  rw [Rat.divInt_sub_divInt _ _ (den_ne x) (den_ne y)]
theorem div_divInt (x y : Rat) : Rat.divInt (x.num * y.den) (x.den * y.num) = x / y := by
  conv => rhs; rw [← Rat.num_divInt_den x, ← Rat.num_divInt_den y]
  rw [Rat.div_def, Rat.inv_divInt, Rat.divInt_mul_divInt]
theorem num_ne {y : Rat} (h : y ≠ 0) : y.num ≠ 0 := fun e => h (Rat.num_eq_zero.mp e)
theorem n2 {a b n m : Nat} (x : Int) (hx : x.natAbs = a) (ha : a < 2 ^ n) (h : n ≤ m) : x.natAbs < 2 ^ m := by
  rw [hx]
  exact Nat.lt_of_lt_of_le ha (Nat.pow_le_pow_right (by omega) h)
theorem abs_mul_lt {x y : Int} {n m : Nat} (h1 : x.natAbs < 2 ^ n) (h2 : y.natAbs < 2 ^ m) : (x * y).natAbs < 2 ^ (n + m) := by
  rw [Int.natAbs_mul]
  exact lt_mul h1 h2
theorem abs_add_lt {x y : Int} {n : Nat} (h1 : x.natAbs < 2 ^ n) (h2 : y.natAbs < 2 ^ n) : (x + y).natAbs < 2 ^ (n + 1) :=
  Nat.lt_of_le_of_lt (Int.natAbs_add_le x y) (lt_dbl h1 h2)
theorem abs_sub_lt {x y : Int} {n : Nat} (h1 : x.natAbs < 2 ^ n) (h2 : y.natAbs < 2 ^ n) : (x - y).natAbs < 2 ^ (n + 1) := by
  have : x - y = x + -y := rfl
  rw [this]
  exact abs_add_lt h1 (by rw [Int.natAbs_neg]; exact h2)
theorem Sz.den {n : Nat} {x : Rat} (h : Sz n x) : ((x.den : Nat) : Int).natAbs < 2 ^ n := by
  rw [Int.natAbs_natCast]
  exact h.de
theorem up_pow {a n m : Nat} (h : a < 2 ^ n) (hm : n ≤ m) : a < 2 ^ m := Nat.lt_of_lt_of_le h (Nat.pow_le_pow_right (by omega) hm)
theorem Sz.add {n m : Nat} {x y : Rat} (hx : Sz n x) (hy : Sz m y) : Sz (n + m + 1) (x + y) := by
  rw [← add_divInt]
  refine Sz.of_divInt (Int.mul_ne_zero (den_ne x) (den_ne y)) (abs_add_lt (abs_mul_lt hx.nu hy.den) ?_) (up_pow (abs_mul_lt hx.den hy.den) (by omega))
  rw [Nat.add_comm n m]
  exact abs_mul_lt hy.nu hx.den
theorem Sz.sub {n m : Nat} {x y : Rat} (hx : Sz n x) (hy : Sz m y) : Sz (n + m + 1) (x - y) := by
  rw [← sub_divInt]
  refine Sz.of_divInt (Int.mul_ne_zero (den_ne x) (den_ne y)) (abs_sub_lt (abs_mul_lt hx.nu hy.den) ?_) (up_pow (abs_mul_lt hx.den hy.den) (by omega))
  rw [Nat.add_comm n m]
  exact abs_mul_lt hy.nu hx.den
theorem Sz.div {n m : Nat} {x y : Rat} (hx : Sz n x) (hy : Sz m y) (h0 : y ≠ 0) : Sz (n + m) (x / y) := by
  rw [← div_divInt]
  exact Sz.of_divInt (Int.mul_ne_zero (den_ne x) (num_ne h0)) (abs_mul_lt hx.nu hy.den) (abs_mul_lt hx.den hy.nu)
theorem Sz.zero : Sz 1 0 := ⟨by decide, by decide⟩
theorem Sz.one : Sz 1 1 := ⟨by decide, by decide⟩
/-! ### walks of what stays -/
theorem forF_all (w : Wlk) (s : Store) (env : F3.Env) (g : Tgt) (b : Sm) : forF (.ok w s) env g b = forG w g b w.2 env s := rfl
/-- a comprehension by what holds between its turns: of what is kept so far too -/
theorem lcL_inv {w : Wlk} {g : Tgt} {t e : Ex} {vs : List Nat} {env : F3.Env} (I : Nat → List D → Store → Prop) (hg : ∀ i a s, I i a s → Gd w s) : ∀ (ds acc : List D) (k : Nat) (st : Store), I k acc st →
    (∀ (i : Nat) (d : D) (acc : List D) (st : Store), ds[i]? = some d → I (k + i) acc st → ∃ e1 s1, g d (wipeE env vs) st = some (e1, s1) ∧ ((∃ s2, t e1 s1 = .ok (.bl false) s2 ∧ I (k + i + 1) acc s2) ∨ ∃ s2 y s3, t e1 s1 = .ok (.bl true) s2 ∧ e e1 s2 = .ok y s3 ∧ I (k + i + 1) (acc ++ [y]) s3)) →
    acc.length + ds.length ≤ 100000 → ∃ xs s, lcL w g t e vs env ds acc st = .ok xs s ∧ I (k + ds.length) xs s
  | [], acc, k, st, h, _, _ => ⟨acc, st, by unfold lcL; rw [if_pos (hg _ _ _ h)], h⟩
  | d :: ds, acc, k, st, h, step, hl => by
    obtain ⟨e1, s1, h1, hb⟩ := step 0 d acc st rfl h
    rw [List.length_cons] at hl
    have nx : ∀ (acc2 : List D) (s2 : Store), I (k + 1) acc2 s2 → acc2.length + ds.length ≤ 100000 → ∃ xs s, lcL w g t e vs env ds acc2 s2 = .ok xs s ∧ I (k + (d :: ds).length) xs s := fun acc2 s2 hi hl2 => by
      obtain ⟨xs, s, hf, hI⟩ := lcL_inv (env := env) I hg ds acc2 (k + 1) s2 hi (fun i d' acc st hd hi => by
        have := step (i + 1) d' acc st (by simpa using hd) (by rw [show k + (i + 1) = k + 1 + i by omega]; exact hi)
        rw [show k + 1 + i + 1 = k + (i + 1) + 1 by omega]
        exact this) hl2
      exact ⟨xs, s, hf, by rw [List.length_cons, show k + (ds.length + 1) = k + 1 + ds.length by omega]; exact hI⟩
    rcases hb with ⟨s2, ht, hI⟩ | ⟨s2, y, s3, ht, he, hI⟩
    · obtain ⟨xs, s, hf, hI2⟩ := nx acc s2 hI (by omega)
      refine ⟨xs, s, ?_, hI2⟩
      unfold lcL
      rw [if_pos (hg _ _ _ h), h1]
      dsimp only
      rw [ht]
      exact hf
    · obtain ⟨xs, s, hf, hI2⟩ := nx (acc ++ [y]) s3 hI (by rw [List.length_append, List.length_singleton]; omega)
      refine ⟨xs, s, ?_, hI2⟩
      unfold lcL
      rw [if_pos (hg _ _ _ h), h1]
      dsimp only
      rw [ht]
      show (e e1 s2).bindS (fun y s2 => if acc.length < 100000 then lcL w g t e vs env ds (acc ++ [y]) s2 else .stuck) = _
      rw [he]
      show (if acc.length < 100000 then lcL w g t e vs env ds (acc ++ [y]) s3 else .stuck) = _
      rw [if_pos (by omega)]
      exact hf
theorem lc_inv {w : Wlk} {g : Tgt} {t e : Ex} {vs : List Nat} {env : F3.Env} (I : Nat → List D → Store → Prop) {ds : List D} {st : Store} (hg : ∀ i a s, I i a s → Gd w s) (h : I 0 [] st)
    (step : ∀ (i : Nat) (d : D) (acc : List D) (st : Store), ds[i]? = some d → I i acc st → ∃ e1 s1, g d (wipeE env vs) st = some (e1, s1) ∧ ((∃ s2, t e1 s1 = .ok (.bl false) s2 ∧ I (i + 1) acc s2) ∨ ∃ s2 y s3, t e1 s1 = .ok (.bl true) s2 ∧ e e1 s2 = .ok y s3 ∧ I (i + 1) (acc ++ [y]) s3))
    (hl : ds.length ≤ 100000) : ∃ xs s, lcL w g t e vs env ds [] st = .ok xs s ∧ I ds.length xs s := by
  obtain ⟨xs, s, h1, h2⟩ := lcL_inv (env := env) I hg ds [] 0 st h (fun i d acc st hd hi => by
    rw [Nat.zero_add] at hi ⊢
    exact step i d acc st hd hi) (by rw [List.length_nil]; omega)
  rw [Nat.zero_add] at h2
  exact ⟨xs, s, h1, h2⟩
end F3

/-! F3, part v: how long a repr is. -/
namespace F3
open PySem PySem.Spec PyProof.Rows L2

mutual
/-- a bound of the length of repr -/
def rW : PyData → Nat
  | .none => 4
  | .bool _ => 5
  | .int _ => 601
  | .str x => 10 * x.length + 2
  | .list xs => 4 + rWs xs
  | .tuple xs => 4 + rWs xs
  | .dict _ => 0
def rWs : List PyData → Nat
  | [] => 0
  | x :: xs => rW x + 2 + rWs xs
end
theorem strA (a b : Str) : (a ++ b).length = a.length + b.length := by
  have := congrArg List.length (TL.tl_append a b)
  rw [List.length_append] at this
  exact this
def sumL : List Str → Nat
  | [] => 0
  | x :: xs => x.length + 2 + sumL xs
theorem from_len : ∀ (ts : List Str) (k : Nat) (acc : Str), (textFrom k acc ts).length ≤ acc.length + sumL ts
  | [], k, acc => Nat.le_refl _
  | t :: r, k, acc => by
    have h := from_len r (k + 1) (acc ++ (if k > 0 then ", " else "" : String) ++ t)
    have e : (acc ++ (if k > 0 then ", " else "" : String) ++ t).length ≤ acc.length + 2 + t.length := by
      rw [strA, strA]
      have : (Str.ofString (if k > 0 then ", " else "")).length ≤ 2 := by split <;> decide
      omega
    show (textFrom (k + 1) (acc ++ (if k > 0 then ", " else "" : String) ++ t) r).length ≤ acc.length + (t.length + 2 + sumL r)
    omega
theorem joins_len : ∀ ts : List Str, (Str.join ", " ts).length ≤ sumL ts
  | [] => Nat.le_refl _
  | [x] => by
    show x.length ≤ x.length + 2 + 0
    omega
  | x :: y :: r => by
    have h := joins_len (y :: r)
    show (x ++ ", " ++ Str.join ", " (y :: r)).length ≤ x.length + 2 + sumL (y :: r)
    rw [strA, strA]
    have : (Str.ofString ", ").length = 2 := by decide
    omega
mutual
theorem shown_len : ∀ p : PyData, p.canLay0 = true → p.showable = true → p.shown.length ≤ rW p
  | .none, _, _ => by
    simp only [PyData.shown, rW]
    decide
  | .bool b, _, _ => by
    simp only [PyData.shown, rW]
    cases b <;> decide
  | .int i, _, h => by
    simp only [PyData.showable, decide_eq_true_eq] at h
    simp only [PyData.shown, rW]
    have hb : i.natAbs < 2 ^ 1920 := by
      by_cases h0 : i.natAbs = 0
      · rw [h0]
        exact Nat.two_pow_pos _
      · exact (Nat.log2_lt h0).mp h
    rw [str_int, S_len]
    exact intL_len9 hb
  | .str x, hc, _ => by
    simp only [PyData.shown, rW]
    refine StrLaws.reprText_len x fun c hm => ?_
    simp only [PyData.canLay0] at hc
    have := Array.all_eq_true_iff_forall_mem.mp hc c (Array.mem_toList_iff.mp hm)
    have := of_decide_eq_true this
    omega
  | .list xs, hc, h => by
    simp only [PyData.canLay0] at hc
    simp only [PyData.showable] at h
    simp only [PyData.shown, rW]
    have h1 := shown_lens xs hc h
    have h2 := from_len (PyData.shownAll xs) 0 "["
    unfold listText
    rw [strA]
    have e1 : (Str.ofString "[").length = 1 := by decide
    have e2 : (Str.ofString "]").length = 1 := by decide
    omega
  | .tuple xs, hc, h => by
    simp only [PyData.canLay0] at hc
    simp only [PyData.showable] at h
    simp only [PyData.shown, rW]
    have h1 := shown_lens xs hc h
    have h2 := joins_len (PyData.shownAll xs)
    unfold tupleText
    rw [strA, strA]
    have e1 : (Str.ofString "(").length = 1 := by decide
    have e2 : (Str.ofString (if (PyData.shownAll xs).length == 1 then ",)" else ")")).length ≤ 2 := by split <;> decide
    omega
  | .dict _, hc, _ => by simp [PyData.canLay0] at hc
theorem shown_lens : ∀ xs : List PyData, PyData.canLayAll0 xs = true → PyData.showableAll xs = true → sumL (PyData.shownAll xs) ≤ rWs xs
  | [], _, _ => by simp only [PyData.shownAll, sumL, rWs]; exact Nat.le_refl _
  | x :: xs, hc, h => by
    simp only [PyData.canLayAll0, Bool.and_eq_true] at hc
    simp only [PyData.showableAll, Bool.and_eq_true] at h
    simp only [PyData.shownAll, sumL, rWs]
    have h1 := shown_len x hc.1 h.1
    have h2 := shown_lens xs hc.2 h.2
    omega
end
/-- data that repr can show -/
structure Shw (st : Store) (d : D) (p : PyData) (n : Nat) : Prop where
  py : pyD st d = some p
  lay : p.canLay0 = true
  sh : p.showable = true
  dep : p.depth ≤ n
  w : rW p ≤ 20000 * n
theorem reprD_ok {st : Store} {d : D} {p : PyData} {n : Nat} (h : Shw st d p n) (hn : n ≤ 5) : reprD [d] st = some (.str p.shown, st) := by
  have hk : showOk p = true := by
    unfold showOk
    have h4 : p.shown.length ≤ sizeLine := Nat.le_trans (shown_len p h.lay h.sh) (Nat.le_trans (show rW p ≤ 100000 by have := h.w; omega) (by decide))
    rw [h.sh, PyData.hasDict_of_canLay p h.lay, decide_eq_true (show p.depth ≤ 60 by have := h.dep; omega), decide_eq_true h4]
    rfl
  show ((pyD st d).bind fun p => if showOk p = true then some (D.str p.shown, st) else none) = _
  rw [h.py]
  simp only [Option.bind, hk, if_true]
end F3

/-! F3, part w: reckoning forwards: what is wished of an end. -/
namespace F3
open PySem PySem.Spec PyProof.Rows L2

abbrev XP := String → List (String × D) → Store → Prop
/-- what is wished of an expression's end -/
def Rp {A : Type} (r : Res A) (Q : A → Store → Prop) (X : XP) : Prop := match r with
  | .ok a s => Q a s
  | .exn c fs s => X c fs s
  | .stuck => False
/-- of a statement's end -/
structure Kt where
  nx : Env → Store → Prop
  rt : D → Store → Prop
  bk : Env → Store → Prop
  ct : Env → Store → Prop
  ex : String → List (String × D) → Env → Store → Prop
def Fp (f : Flow) (k : Kt) : Prop := match f with
  | .nx e s => k.nx e s
  | .rt d s => k.rt d s
  | .bk e s => k.bk e s
  | .ct e s => k.ct e s
  | .ex c fs e s => k.ex c fs e s
  | .stuck => False
def Op (o : Option (D × Store)) (Q : D → Store → Prop) : Prop := match o with
  | some p => Q p.1 p.2
  | none => False
def Bp (d : D) (A B : Prop) : Prop := match d with
  | .bl b => (b = true → A) ∧ (b = false → B)
  | _ => False
/-- what stands behind: not looked into -/
def Nx (b : Sm) (k : Kt) (e : Env) (s : Store) : Prop := Fp (b e s) k
theorem Nx.go {b : Sm} {k : Kt} {e : Env} {s : Store} (h : Fp (b e s) k) : Nx b k e s := h
def kSeq (b : Sm) (k : Kt) : Kt := { k with nx := Nx b k }
theorem Nx.seq {a b : Sm} {k : Kt} {e : Env} {s : Store} (h : Fp (a e s) (kSeq b k)) : Nx (sSeq a b) k e s := by
  show Fp (sSeq a b e s) k
  unfold sSeq
  cases q : a e s <;> rw [q] at h <;> exact h
theorem Fp.seq {a b : Sm} {k : Kt} {e : Env} {s : Store} (h : Fp (a e s) (kSeq b k)) : Fp (sSeq a b e s) k := Nx.seq h
theorem Rp.mono {A : Type} {r : Res A} {Q Q' : A → Store → Prop} {X X' : XP} (h : Rp r Q X) (hq : ∀ a s, Q a s → Q' a s) (hx : ∀ c fs s, X c fs s → X' c fs s) : Rp r Q' X' := by
  cases r with
  | ok a s => exact hq _ _ h
  | exn c fs s => exact hx _ _ _ h
  | stuck => exact h
theorem Fp.mono {f : Flow} {k k' : Kt} (h : Fp f k) (h1 : ∀ e s, k.nx e s → k'.nx e s) (h2 : ∀ d s, k.rt d s → k'.rt d s) (h3 : ∀ e s, k.bk e s → k'.bk e s) (h4 : ∀ e s, k.ct e s → k'.ct e s) (h5 : ∀ c fs e s, k.ex c fs e s → k'.ex c fs e s) : Fp f k' := by
  cases f with
  | nx e s => exact h1 _ _ h
  | rt d s => exact h2 _ _ h
  | bk e s => exact h3 _ _ h
  | ct e s => exact h4 _ _ h
  | ex c fs e s => exact h5 _ _ _ _ h
  | stuck => exact h
theorem Rp.ok {A : Type} {r : Res A} {a : A} {s : Store} (e : r = .ok a s) {Q : A → Store → Prop} {X : XP} (h : Q a s) : Rp r Q X := by rw [e]; exact h
theorem Rp.ex {A : Type} {r : Res A} {Q : A → Store → Prop} (h : Rp r Q fun _ _ _ => False) : ∃ a s, r = .ok a s ∧ Q a s := by
  cases r with
  | ok a s => exact ⟨a, s, rfl, h⟩
  | exn c fs s => exact h.elim
  | stuck => exact h.elim
/-- a def: its body's ends -/
def kFn (Q : D → Store → Prop) (X : XP) : Kt := ⟨fun _ s => Q .non s, Q, fun _ _ => False, fun _ _ => False, fun c fs _ s => X c fs s⟩
theorem fn_wp {m : Nat} {b : Sm} {ds : List D} {st : Store} {Q : D → Store → Prop} {X : XP} (h : Fp (b (soms ds ++ List.replicate m none) st) (kFn Q X)) : Rp (fn m b ds st) Q X := by
  rw [fn_eq]
  cases e : b (soms ds ++ List.replicate m none) st <;> rw [e] at h <;> exact h
/-- expressions -/
theorem wpe : (∀ {A : Type} (a : A) s (Q : A → Store → Prop) X, Rp (.ok a s) Q X = Q a s) ∧ (∀ {A : Type} c fs s (Q : A → Store → Prop) X, Rp (.exn c fs s) Q X = X c fs s) ∧
    (∀ {A B : Type} (r : Res A) (k : A → Store → Res B) (Q : B → Store → Prop) X, Rp (r.bind k) Q X = Rp r (fun a s => Rp (k a s) Q X) X) ∧
    (∀ o Q X, Rp (ofO o) Q X = Op o Q) ∧ (∀ d s Q, Op (some (d, s)) Q = Q d s) ∧ (∀ k1 k2 d s Q X, Rp (onB k1 k2 d s) Q X = Bp d (Rp (k1 s) Q X) (Rp (k2 s) Q X)) ∧
    (∀ b A B, Bp (.bl b) A B = ((b = true → A) ∧ (b = false → B))) ∧ (∀ (p : Prop) [Decidable p] (a b : Res D) Q X, Rp (if p then a else b) Q X = ((p → Rp a Q X) ∧ (¬ p → Rp b Q X))) ∧ (∀ {A : Type} (Q : A → Store → Prop) X, Rp .stuck Q X = False) :=
  ⟨fun _ _ _ _ => rfl, fun _ _ _ _ _ => rfl, fun r k Q X => by cases r <;> rfl, fun o Q X => by cases o <;> rfl, fun _ _ _ => rfl, fun k1 k2 d s Q X => by
    cases d with
    | bl b => cases b <;> simp [onB, Bp]
    | _ => rfl, fun _ _ _ => rfl, fun p _ a b Q X => by
      by_cases h : p
      · simp [h]
      · simp [h], fun _ _ => rfl⟩
/-- statements -/
theorem wps : (∀ e s k, Fp (.nx e s) k = k.nx e s) ∧ (∀ d s k, Fp (.rt d s) k = k.rt d s) ∧ (∀ e s k, Fp (.bk e s) k = k.bk e s) ∧ (∀ e s k, Fp (.ct e s) k = k.ct e s) ∧ (∀ c fs e s k, Fp (.ex c fs e s) k = k.ex c fs e s) ∧
    (∀ r env k kt, Fp (ofR r env k) kt = Rp r (fun d s => Fp (k d s) kt) (fun c fs s => kt.ex c fs env s)) ∧ (∀ d a b k, Fp (ifF d a b) k = Bp d (Fp a k) (Fp b k)) ∧
    (∀ b k, (kSeq b k).nx = Nx b k) ∧ (∀ b k, (kSeq b k).rt = k.rt) ∧ (∀ b k, (kSeq b k).bk = k.bk) ∧ (∀ b k, (kSeq b k).ct = k.ct) ∧ (∀ b k, (kSeq b k).ex = k.ex) ∧
    (∀ Q X e s, (kFn Q X).nx e s = Q .non s) ∧ (∀ Q X, (kFn Q X).rt = Q) ∧ (∀ Q X c fs e s, (kFn Q X).ex c fs e s = X c fs s) ∧ (∀ o k, Fp (asgF o) k = match o with | some p => k.nx p.1 p.2 | none => False) :=
  ⟨fun _ _ _ => rfl, fun _ _ _ => rfl, fun _ _ _ => rfl, fun _ _ _ => rfl, fun _ _ _ _ _ => rfl, fun r env k kt => by cases r <;> rfl, fun d a b k => by
    cases d with
    | bl b => cases b <;> simp [ifF, Bp, Fp]
    | _ => rfl, fun _ _ => rfl, fun _ _ => rfl, fun _ _ => rfl, fun _ _ => rfl, fun _ _ => rfl, fun _ _ _ _ => rfl, fun _ _ => rfl, fun _ _ _ _ _ _ => rfl, fun o k => by cases o <;> rfl⟩

/-! ### loops -/
/-- the end of a loop's turn -/
def kTurn (I : Env → Store → Prop) (k : Kt) : Kt := ⟨I, k.rt, k.nx, I, k.ex⟩
theorem wpt : (∀ I k, (kTurn I k).nx = I) ∧ (∀ I k, (kTurn I k).rt = k.rt) ∧ (∀ I k, (kTurn I k).bk = k.nx) ∧ (∀ I k, (kTurn I k).ct = I) ∧ (∀ I k, (kTurn I k).ex = k.ex) := ⟨fun _ _ => rfl, fun _ _ => rfl, fun _ _ => rfl, fun _ _ => rfl, fun _ _ => rfl⟩
theorem forL_wp {g : Tgt} {b : Sm} {k : Kt} (I : Nat → Env → Store → Prop) : ∀ (ds : List D) (j : Nat) (env : Env) (st : Store), I j env st →
    (∀ (i : Nat) (d : D) (env : Env) (st : Store), ds[i]? = some d → I (j + i) env st → ∃ e1 s1, g d env st = some (e1, s1) ∧ Fp (b e1 s1) (kTurn (I (j + i + 1)) k)) →
    (∀ env st, I (j + ds.length) env st → k.nx env st) → Fp (forL g b ds env st) k
  | [], j, env, st, h, _, hd => by
    show Fp (.nx env st) k
    exact hd env st h
  | d :: ds, j, env, st, h, step, hd => by
    obtain ⟨e1, s1, hg, hb⟩ := step 0 d env st rfl h
    unfold forL
    rw [hg]
    dsimp only
    have nxt : ∀ e s, I (j + 0 + 1) e s → Fp (forL g b ds e s) k := fun e s hi => forL_wp I ds (j + 1) e s hi (fun i d' env st hd' hi' => by
      have := step (i + 1) d' env st (by simpa using hd') (by rw [show j + (i + 1) = j + 1 + i by omega]; exact hi')
      rw [show j + 1 + i + 1 = j + (i + 1) + 1 by omega]
      exact this) fun env st hi' => hd env st (by rw [List.length_cons, show j + (ds.length + 1) = j + 1 + ds.length by omega]; exact hi')
    cases q : b e1 s1 with
    | nx e s => rw [q] at hb; exact nxt e s hb
    | ct e s => rw [q] at hb; exact nxt e s hb
    | bk e s => rw [q] at hb; exact hb
    | rt d s => rw [q] at hb; exact hb
    | ex c fs e s => rw [q] at hb; exact hb
    | stuck => rw [q] at hb; exact hb.elim
theorem for_wp {g : Tgt} {b : Sm} {k : Kt} (I : Nat → Env → Store → Prop) {ds : List D} {env : Env} {st : Store} (h : I 0 env st)
    (step : ∀ (i : Nat) (d : D) (env : Env) (st : Store), ds[i]? = some d → I i env st → ∃ e1 s1, g d env st = some (e1, s1) ∧ Fp (b e1 s1) (kTurn (I (i + 1)) k)) (hd : ∀ env st, I ds.length env st → k.nx env st) : Fp (forL g b ds env st) k :=
  forL_wp I ds 0 env st h (fun i d env st hd hi => by rw [Nat.zero_add] at hi ⊢; exact step i d env st hd hi) fun env st hi => hd env st (by rw [Nat.zero_add] at hi; exact hi)
/-! ### try, raise -/
theorem reprE_of {xs : List D} {st : Store} {r : D × Store} (h : reprD xs st = some r) : reprE xs st = some r := by
  unfold reprE
  rw [h]
theorem eqS_same (x : Str) (st : Store) : eqD (.str x) (.str x) st = some (.bl true, st) := by
  show (some (decide (x = x))).map (fun b => (D.bl b, st)) = _
  rw [decide_eq_true rfl]
  rfl
theorem cells (n : Nat) (m : Int) (hm : 1 ≤ m) : ∃ z : Nat, (if (if (n : Int) < m then (n : Int) else m) > 1 then (if (n : Int) < m then (n : Int) else m) else 1) = (z : Int) ∧ (z : Int) ≤ m := by
  refine ⟨(if (if (n : Int) < m then (n : Int) else m) > 1 then (if (n : Int) < m then (n : Int) else m) else 1).toNat, ?_, ?_⟩ <;> (split <;> split <;> omega)
theorem len_ints (ns : List Int) (st : Store) : lenD [.lst (ns.map D.int)] st = some (.int ns.length, st) := by
  show some (D.int ((ns.map D.int).length : Nat), st) = _
  rw [List.length_map]
/-! ### what repr tells is plain text -/
def OkS (x : Str) : Prop := ∀ c ∈ TL.tl x, c < 0x110000
theorem OkS.ok {x : Str} (h : OkS x) : (PyData.str x).canLay0 = true := by
  simp only [PyData.canLay0]
  unfold PyData.strOk
  exact Array.all_eq_true_iff_forall_mem.mpr fun c hc => decide_eq_true (h c (Array.mem_toList_iff.mpr hc))
theorem OkS.of {x : Str} (h : (PyData.str x).canLay0 = true) : OkS x := fun c hc => by
  simp only [PyData.canLay0] at h
  unfold PyData.strOk at h
  exact of_decide_eq_true (Array.all_eq_true_iff_forall_mem.mp h c (Array.mem_toList_iff.mp hc))
theorem char_lt (c : Char) : c.toNat < 0x110000 := by
  have := c.valid
  unfold UInt32.isValidChar Nat.isValidChar at this
  show c.val.toNat < _
  omega
theorem OkS.lit (s : String) : OkS (Str.ofString s) := fun c hc => by
  rw [TL.tl_ofString] at hc
  obtain ⟨d, _, rfl⟩ := List.mem_map.mp hc
  exact char_lt d
theorem OkS.app {a b : Str} (h1 : OkS a) (h2 : OkS b) : OkS (a ++ b) := fun c hc => by
  rw [TL.tl_append] at hc
  exact (List.mem_append.mp hc).elim (h1 c) (h2 c)
theorem repr_char {q c : Nat} (hq : q < 0x110000) (hc : c < 0x110000) : ∀ d ∈ Builtin.Str.reprChar q c, d < 0x110000 := by
  have hex : ∀ w, ∀ d ∈ List.replicate w 48 ++ (Nat.toDigits 16 c).map Char.toNat, d < 0x110000 := fun w d hd => by
    rcases List.mem_append.mp hd with hd | hd
    · rw [(List.mem_replicate.mp hd).2]; omega
    · obtain ⟨e, _, rfl⟩ := List.mem_map.mp hd
      exact char_lt e
  intro d hd
  unfold Builtin.Str.reprChar at hd
  dsimp only at hd
  have two : ∀ {a b : Nat}, a < 0x110000 → b < 0x110000 → d ∈ [a, b] → d < 0x110000 := fun {a b} ha hb hm => by
    simp only [List.mem_cons, List.not_mem_nil, or_false] at hm
    rcases hm with rfl | rfl
    · exact ha
    · exact hb
  split at hd
  · exact two (by omega) hc hd
  split at hd
  · exact two (by omega) (by omega) hd
  split at hd
  · exact two (by omega) (by omega) hd
  split at hd
  · exact two (by omega) (by omega) hd
  split at hd
  · rw [List.mem_singleton.mp hd]; exact hc
  split at hd
  · exact (List.mem_append.mp hd).elim (two (by omega) (by omega)) (hex _ d)
  split at hd
  · exact (List.mem_append.mp hd).elim (two (by omega) (by omega)) (hex _ d)
  · exact (List.mem_append.mp hd).elim (two (by omega) (by omega)) (hex _ d)
theorem OkS.repr {x : Str} (h : OkS x) : OkS (reprText x) := by
  have hq : reprQuote x < 0x110000 := by
    unfold reprQuote
    split <;> omega
  have key : ∀ (l : List Nat) (acc : Array Nat), (∀ c ∈ l, c < 0x110000) → (∀ c ∈ acc.toList, c < 0x110000) → ∀ c ∈ (l.foldl (fun out c => out ++ (Builtin.Str.reprChar (reprQuote x) c).toArray) acc).toList, c < 0x110000 := by
    intro l
    induction l with
    | nil => exact fun acc _ h => h
    | cons a l ih =>
      intro acc hl ha
      refine ih _ (fun c hc => hl c (List.mem_cons_of_mem _ hc)) fun c hc => ?_
      simp only [Array.toList_append] at hc
      exact (List.mem_append.mp hc).elim (ha c) (repr_char hq (hl a List.mem_cons_self) c)
  intro c hc
  have hc : c ∈ ((x.cps.foldl (fun out c => out ++ (Builtin.Str.reprChar (reprQuote x) c).toArray) #[reprQuote x]).push (reprQuote x)).toList := hc
  rw [Array.toList_push] at hc
  rcases List.mem_append.mp hc with hc | hc
  · have h1 : ∀ c ∈ (#[reprQuote x] : Array Nat).toList, c < 0x110000 := fun c hc => by
      have e2 : c = reprQuote x := by simpa using hc
      rw [e2]
      exact hq
    have e : x.cps.foldl (fun out c => out ++ (Builtin.Str.reprChar (reprQuote x) c).toArray) #[reprQuote x] = x.cps.toList.foldl (fun out c => out ++ (Builtin.Str.reprChar (reprQuote x) c).toArray) #[reprQuote x] := (Array.foldl_toList _).symm
    rw [e] at hc
    exact key _ _ h h1 c hc
  · rw [List.mem_singleton.mp hc]; exact hq
theorem OkS.from_ : ∀ (ts : List Str) (k : Nat) (acc : Str), (∀ t ∈ ts, OkS t) → OkS acc → OkS (textFrom k acc ts)
  | [], k, acc, _, h => h
  | t :: r, k, acc, ht, h => by
    show OkS (textFrom (k + 1) (acc ++ (if k > 0 then ", " else "" : String) ++ t) r)
    exact OkS.from_ r _ _ (fun t hm => ht t (List.mem_cons_of_mem _ hm)) ((h.app (OkS.lit _)).app (ht t List.mem_cons_self))
theorem OkS.join : ∀ (ts : List Str), (∀ t ∈ ts, OkS t) → OkS (Str.join ", " ts)
  | [], _ => fun c hc => by cases hc
  | [x], h => h x List.mem_cons_self
  | x :: y :: r, h => ((h x List.mem_cons_self).app (OkS.lit _)).app (OkS.join (y :: r) fun t hm => h t (List.mem_cons_of_mem _ hm))
theorem OkS.int (i : Int) : OkS (toString i) := OkS.lit _
mutual
theorem OkS.shown : ∀ p : PyData, p.canLay0 = true → OkS p.shown
  | .none, _ => by simp only [PyData.shown]; exact OkS.lit _
  | .bool b, _ => by simp only [PyData.shown]; cases b <;> exact OkS.lit _
  | .int i, _ => by simp only [PyData.shown]; exact OkS.lit _
  | .str x, h => by simp only [PyData.shown]; exact (OkS.of h).repr
  | .list xs, h => by
    simp only [PyData.canLay0] at h
    simp only [PyData.shown]
    unfold listText
    exact (OkS.from_ _ _ _ (OkS.showns xs h) (OkS.lit _)).app (OkS.lit _)
  | .tuple xs, h => by
    simp only [PyData.canLay0] at h
    simp only [PyData.shown]
    unfold tupleText
    exact ((OkS.lit _).app (OkS.join _ (OkS.showns xs h))).app (OkS.lit _)
  | .dict _, h => by simp [PyData.canLay0] at h
theorem OkS.showns : ∀ xs : List PyData, PyData.canLayAll0 xs = true → ∀ t ∈ PyData.shownAll xs, OkS t
  | [], _ => by simp [PyData.shownAll]
  | x :: xs, h => by
    simp only [PyData.canLayAll0, Bool.and_eq_true] at h
    simp only [PyData.shownAll]
    intro t ht
    rcases List.mem_cons.mp ht with rfl | ht
    · exact OkS.shown x h.1
    · exact OkS.showns xs h.2 t ht
end
/-- a list of two flat things, compared with itself -/
structure Flat (d : D) : Prop where
  h : ∃ p : PyData, (∀ st, pyD st d = some p) ∧ p.canLay0 = true ∧ p.depth = 0
theorem Flat.str {x : Str} (h : OkS x) : Flat (.str x) := ⟨.str x, fun _ => rfl, h.ok, by simp only [PyData.depth]⟩
theorem Flat.bl (b : Bool) : Flat (.bl b) := ⟨.bool b, fun _ => rfl, by simp only [PyData.canLay0], by simp only [PyData.depth]⟩
theorem Flat.lit (s : String) : Flat (.str (Str.ofString s)) := .str (OkS.lit s)
end F3

/-! F3, part x: reckoning with instances. -/
namespace F3
open PySem PySem.Spec PyProof.Rows L2

theorem insOf_at {st : Store} {k : Nat} {c : String} {fs : List (String × D)} (h : st[k]? = some (.ins c fs)) : insOf st (.ref k) = some (k, c, fs) := by
  simp only [insOf, h]
theorem fld_at {st : Store} {k : Nat} {c : String} {fs : List (String × D)} {CI : List String} {n : String} {d : D} (h : st[k]? = some (.ins c fs)) (hc : c ∈ CI) (hl : fs.lookup n = some d) : fldD CI n (.ref k) st = some (d, st) := by
  unfold fldD
  rw [insOf_at h]
  simp only [Option.bind, if_pos hc, hl, Option.map_some]
theorem set_at {st : Store} {k : Nat} {c : String} {fs : List (String × D)} {CI : List String} {n : String} (d : D) (h : st[k]? = some (.ins c fs)) (hc : c ∈ CI) (hl : fs.length < 900) : setD CI n (.ref k) d st = some (st.set k (.ins c (putD n d fs))) := by
  unfold setD
  rw [insOf_at h]
  simp only [Option.bind, if_pos (And.intro hc hl)]
theorem isOf_at {st : Store} {k : Nat} {c mn : String} {fs : List (String × D)} (h : st[k]? = some (.ins c fs)) (hl : fs.lookup mn = none) : isOf c mn st (.ref k) = true := by
  unfold isOf
  rw [insOf_at h]
  simp only [decide_true, hl, Option.isNone_none, Bool.and_self]
def stF (o : Option Store) (env : Env) : Flow := match o with
  | some s => .nx env s
  | none => .stuck
def okP (o : Option (Env × Store)) : Flow := match o with
  | some p => .nx p.1 p.2
  | none => .stuck
def ftT (CI : List String) (n : String) (d : D) (env : Env) (r : Res D) : Option (Env × Store) := match r with
  | .ok x s => (setD CI n x d s).map fun s2 => (env, s2)
  | _ => none
def nonR (k : Nat) (d : D) (s : Store) : Res D := match d with
  | .non => .ok (.ref k) s
  | _ => .stuck
def augI (n : String) (o : Int → Int → Int) (f : Ex) (x : D) (env : Env) (s : Store) (q : Option (String × Int)) : Flow := match q with
  | some p => ofR (f env s) env fun d s2 => augF n o p.1 x p.2 env d s2
  | none => .stuck
/-- instances -/
theorem evi : (∀ CI n fo f env st, sFldS CI n fo f env st = ofR (f env st) env fun d s => ofR (fo env s) env fun x s2 => stF (setD CI n x d s2) env) ∧ (∀ s env, stF (some s) env = .nx env s) ∧
    (∀ CI n fo d env st, tFldT CI n fo d env st = ftT CI n d env (fo env st)) ∧ (∀ CI n d env x s, ftT CI n d env (.ok x s) = (setD CI n x d s).map fun s2 => (env, s2)) ∧
    (∀ c mn m gD fo fa fk env st, eMeth c mn m gD fo fa fk env st = (fo env st).bind fun x s => if isOf c mn s x = true then (fa env s).bind fun ds s1 => (fk env s1).bind fun es s2 => m (gD (x :: ds) es) s2 else .stuck) ∧
    (∀ c m gD fa fk env st, eMake c m gD fa fk env st = (fa env st).bind fun ds s1 => (fk env s1).bind fun es s2 => mkD c m gD ds es s2) ∧ (∀ c m gD ds es s, mkD c m gD ds es s = (m (gD (.ref s.length :: ds) es) (s ++ [.ins c []])).bind (nonR s.length)) ∧ (∀ k s, nonR k .non s = .ok (.ref k) s) ∧
    (∀ c m f g env st, eEqO c m f g env st = (f env st).bind fun x s1 => (g env s1).bind fun y s2 => if isOf c "__eq__" s2 x = true ∧ eqArg c s2 y = true then boolR (m [x, y] s2) else .stuck) ∧ (∀ b s, boolR (.ok (.bl b) s) = .ok (.bl b) s) ∧
    (∀ f g1 g2 env st, sAsg2 f g1 g2 env st = ofR (f env st) env fun d s => okP ((g1 d env s).bind fun p => g2 d p.1 p.2)) ∧ (∀ f g1 g2 g3 env st, sAsg3 f g1 g2 g3 env st = ofR (f env st) env fun d s => okP ((g1 d env s).bind fun p => (g2 d p.1 p.2).bind fun p => g3 d p.1 p.2)) ∧ (∀ p, okP (some p) = .nx p.1 p.2) ∧
    (∀ CI n o fo f env st, sFldA CI n o fo f env st = ofR (fo env st) env fun x s => augI n o f x env s (intF CI n x s)) ∧ (∀ n o f x env s p, augI n o f x env s (some p) = ofR (f env s) env fun d s2 => augF n o p.1 x p.2 env d s2) ∧ (∀ n o c x i env j s, augF n o c x i env (.int j) s = stF (augD n c (o i j) x s) env) ∧
    (∀ f g env st, eAlt f g env st = altR (f env st) (g env st)) ∧ (∀ d s r, altR (.ok d s) r = .ok d s) ∧ (∀ r, altR .stuck r = r) ∧ (∀ c fs s r, altR (.exn c fs s) r = .exn c fs s) ∧
    (∀ n d, putD n d [] = [(n, d)]) ∧ (∀ n d m x r, putD n d ((m, x) :: r) = if m = n then (m, d) :: r else (m, x) :: putD n d r) :=
  ⟨fun _ _ _ _ _ _ => rfl, fun _ _ => rfl, fun CI n fo d env st => by unfold tFldT ftT; rfl, fun _ _ _ _ _ _ => rfl, fun _ _ _ _ _ _ _ _ _ => rfl, fun _ _ _ _ _ _ _ => rfl, fun _ _ _ _ _ _ => rfl, fun _ _ => rfl, fun _ _ _ _ _ _ => rfl, fun _ _ => rfl, fun _ _ _ _ _ => rfl, fun _ _ _ _ _ _ => rfl, fun _ => rfl,
    fun _ _ _ _ _ _ _ => rfl, fun _ _ _ _ _ _ _ => rfl, fun _ _ _ _ _ _ _ _ => rfl, fun _ _ _ _ => rfl, fun _ _ _ => rfl, fun _ => rfl, fun _ _ _ _ => rfl, fun _ _ => rfl, fun _ _ _ _ _ => rfl⟩
/-- the newest cell -/
theorem last_at (s : Store) (x : Cell) : (s ++ [x])[s.length]? = some x := by simp
theorem last_set (s : Store) (x y : Cell) : (s ++ [x]).set s.length y = s ++ [y] := by simp
theorem old_at {s : Store} {k : Nat} {y : Cell} (l : Store) (h : s[k]? = some y) : (s ++ l)[k]? = some y := by
  have := (List.getElem?_eq_some_iff.mp h).1
  rw [List.getElem?_append_left this]
  exact h
end F3

/-! F3, part y: reckoning with texts. -/
namespace F3
open PySem PySem.Spec PyProof.Rows L2

/-- a comprehension that changes nothing -/
theorem lc_pure {w : Wlk} {g : Tgt} {t e : Ex} {vs : List Nat} {env : F3.Env} {ds : List D} {st : Store} (hg : Gd w st) (p : D → Bool) (h : D → D)
    (step : ∀ d ∈ ds, ∃ e1, g d (wipeE env vs) st = some (e1, st) ∧ t e1 st = .ok (.bl (p d)) st ∧ (p d = true → e e1 st = .ok (h d) st)) (hl : ds.length ≤ 100000) :
    lcL w g t e vs env ds [] st = .ok ((ds.filter p).map h) st := by
  obtain ⟨xs, s, h1, rfl, h2⟩ := lc_inv (w := w) (g := g) (t := t) (e := e) (vs := vs) (env := env) (fun i acc s => s = st ∧ acc = ((ds.take i).filter p).map h) (ds := ds) (st := st) (fun i a s z => by rw [z.1]; exact hg) ⟨rfl, by simp⟩ (fun i d acc s hd z => by
    obtain ⟨rfl, rfl⟩ := z
    obtain ⟨hi, e0⟩ := List.getElem?_eq_some_iff.mp hd
    obtain ⟨e1, h1, h2, h3⟩ := step d (List.mem_of_getElem? hd)
    refine ⟨e1, s, h1, ?_⟩
    cases hp : p d with
    | false => exact .inl ⟨s, by rw [h2, hp], rfl, by rw [List.take_succ_eq_append_getElem hi, e0, List.filter_append]; simp [hp]⟩
    | true => exact .inr ⟨s, h d, s, by rw [h2, hp], h3 hp, rfl, by rw [List.take_succ_eq_append_getElem hi, e0, List.filter_append]; simp [hp]⟩) hl
  rw [List.take_length] at h2
  rw [h1, h2]
def sign (c : Nat) : Str := ⟨#[c]⟩
theorem signs_eq (x : Str) : signs x = x.cps.toList.map fun c => .str (sign c) := rfl
theorem bls_map {A : Type} (p : A → Bool) : ∀ l : List A, blsD (l.map fun c => .bl (p c)) = some (l.map p)
  | [] => rfl
  | a :: l => by simp only [List.map_cons, blsD, bls_map p l, Option.map_some]
theorem all_map {A : Type} (p : A → Bool) (l : List A) (st : Store) : allD [.lst (l.map fun c => .bl (p c))] st = some (.bl (l.all p), st) := by
  show ((some (l.map fun c => D.bl (p c))).bind blsD).map (fun bs => (D.bl (bs.all id), st)) = _
  simp only [Option.bind, bls_map, Option.map_some]
  rw [List.all_map]
  rfl
theorem len_str {x : Str} (h : x.length ≤ 100000) (st : Store) : lenD [.str x] st = some (.int x.length, st) := by
  unfold lenD lenN
  dsimp only
  rw [if_pos h]
  rfl
theorem evq : (∀ f env st, iSign f env st = (f env st).bind signI) ∧ (∀ x s, signI (.str x) s = .ok (none, signs x) s) := ⟨fun _ _ _ => rfl, fun _ _ => rfl⟩
theorem OkS.mk {cs : List Nat} (h : ∀ c ∈ cs, c < 0x110000) : OkS ⟨cs.toArray⟩ := h
theorem OkS.times {a : Str} (h : OkS a) (k : Int) : OkS (timesS a k) := fun c hc => by
  have hc : c ∈ (List.replicate k.toNat a.cps.toList).flatten := hc
  obtain ⟨l, h1, h2⟩ := List.mem_flatten.mp hc
  rw [(List.mem_replicate.mp h1).2] at h2
  exact h c h2
/-- what repr tells -/
structure Rep (d : D) : Prop where
  h : ∃ z : Str, OkS z ∧ z.length ≤ 30000 ∧ ∀ st, reprE [d] st = some (.str z, st)
theorem Rep.of {d : D} {p : PyData} {n : Nat} (h : ∀ st, Shw st d p n) (hn : n ≤ 5) (hw : rW p ≤ 30000) : Rep d := by
  have h0 := h []
  exact ⟨_, OkS.shown p h0.lay, Nat.le_trans (shown_len p h0.lay h0.sh) hw, fun st => reprE_of (reprD_ok (h st) hn)⟩
theorem Rep.int {i : Int} (h : i.natAbs < 2 ^ 1900) : Rep (.int i) := by
  refine .of (p := .int i) (n := 1) (fun st => ⟨rfl, rfl, ?_, by simp only [PyData.depth]; omega, by simp only [rW]; omega⟩) (by omega) (by simp only [rW]; omega)
  simp only [PyData.showable, decide_eq_true (log_lt (k := 1920) (by omega) (up_pow h (by omega)))]
theorem Rep.str {x : Str} (h : OkS x) (hl : x.length ≤ 1500) : Rep (.str x) :=
  .of (p := .str x) (n := 1) (fun st => ⟨rfl, h.ok, by simp only [PyData.showable], by simp only [PyData.depth]; omega, by simp only [rW]; omega⟩) (by omega) (by simp only [rW]; omega)
/-- flat things -/
structure FlatD (d : D) (p : PyData) : Prop where
  py : ∀ st, pyD st d = some p
  lay : p.canLay0 = true
  dep : p.depth = 0
theorem FlatD.int (i : Int) : FlatD (.int i) (.int i) := ⟨fun _ => rfl, by simp only [PyData.canLay0], by simp only [PyData.depth]⟩
theorem FlatD.str {x : Str} (h : OkS x) : FlatD (.str x) (.str x) := ⟨fun _ => rfl, h.ok, by simp only [PyData.depth]⟩
theorem FlatD.bl (b : Bool) : FlatD (.bl b) (.bool b) := ⟨fun _ => rfl, by simp only [PyData.canLay0], by simp only [PyData.depth]⟩
theorem FlatD.non : FlatD .non .none := ⟨fun _ => rfl, by simp only [PyData.canLay0], by simp only [PyData.depth]⟩
end F3

/-! F3, part z: reckoning with dicts and locks. -/
namespace F3
open PySem PySem.Spec PyProof.Rows L2

theorem at_set {A : Type} {st : List A} {k : Nat} {c c' : A} (h : st[k]? = some c) : (st.set k c')[k]? = some c' := List.getElem?_set_self (List.getElem?_eq_some_iff.mp h).1
theorem at_ne {A : Type} {st : List A} {k j : Nat} {c : A} (h : k ≠ j) : (st.set k c)[j]? = st[j]? := List.getElem?_set_ne h
/-- rules by unfolding -/
theorem evd : (∀ f env st, iKeysD f env st = (f env st).bind (walkI fun kv => kD kv.1)) ∧ (∀ f env st, iValsD f env st = (f env st).bind (walkI fun kv => kv.2)) ∧ (∀ f env st, iItemsD f env st = (f env st).bind (walkI fun kv => .tup [kD kv.1, kv.2])) ∧
    (∀ o fo fi env st, eDm1 o fo fi env st = (fo env st).bind fun x s => if (dctD s x).isSome = true then (fi env s).bind fun y s2 => ofO (o x y s2) else .stuck) ∧
    (∀ o fo fi fx env st, eDm2 o fo fi fx env st = (fo env st).bind fun x s => if (dctD s x).isSome = true then (fi env s).bind fun y s2 => (fx env s2).bind fun z s3 => ofO (o x y z s3) else .stuck) ∧
    (∀ fo fi f env st, sDPutF fo fi f env st = ofR (f env st) env fun d s => ofR (fo env s) env fun x s2 => ofR (fi env s2) env fun y s3 => stF (putD' x y d s3) env) ∧
    (∀ f g env st, eOrV f g env st = (f env st).bind (orK (g env))) ∧ (∀ c m f env st, eLenO c m f env st = (f env st).bind fun x s => if isOf c "__len__" s x = true then lenR (m [x] s) else .stuck) ∧
    (∀ it g t e vs env st, eLcC it g t e vs env st = (it env st).bind fun r s => (lcL r g t e vs env r.2 [] s).bind fun xs s2 => .ok (.ref s2.length) (s2 ++ [.lst xs])) :=
  ⟨fun _ _ _ => rfl, fun _ _ _ => rfl, fun _ _ _ => rfl, fun _ _ _ _ _ => rfl, fun _ _ _ _ _ _ => rfl, fun _ _ _ _ _ => rfl, fun _ _ _ _ => rfl, fun _ _ _ _ _ => rfl, fun _ _ _ _ _ _ _ => rfl⟩
/-! ### lines -/
/-- an entry of a line: its name, its cell, what it has -/
structure Ent where
  nm : Str
  ad : Nat
  w : Int
  k : Int
  mark : Rat
  left : Int
  later : Option (Int × Int)
structure Ln where
  L : Nat
  a : Nat
  d : Nat
  g : Nat
  alive : List Ent
  dark : List Ent
  clock : Rat
  behind : Rat
  chosen : Option Str
  log : List D
def laD : Option (Int × Int) → D
  | none => .non
  | some p => .tup [.int p.1, .int p.2]
def chD : Option Str → D
  | none => .non
  | some x => .str x
def entF (e : Ent) : List (String × D) := [("own_weight", .int e.w), ("own_wish", .int e.k), ("own_mark", shD e.mark), ("own_left", .int e.left), ("own_later", laD e.later)]
def entC (e : Ent) : Cell := .ins "Entry" (entF e)
def lnF (l : Ln) : List (String × D) := [("alive", .ref l.a), ("dark", .ref l.d), ("own_clock", shD l.clock), ("own_behind", shD l.behind), ("own_chosen", chD l.chosen), ("own_log", .ref l.g)]
def lnC (l : Ln) : Cell := .ins "Line" (lnF l)
def prs (es : List Ent) : List (Key × D) := es.map fun e => (.inr e.nm, .ref e.ad)
def dcK (b : Bool) (es : List Ent) : Cell := if b then .lck (prs es) else .dct (prs es)
def foot (l : Ln) : List Nat := l.L :: l.a :: l.d :: l.g :: (l.alive ++ l.dark).map (·.ad)
/-- the line stands in the store; b1, b2: its dicts are locked -/
structure LRep (b1 b2 : Bool) (st : Store) (l : Ln) : Prop where
  hL : st[l.L]? = some (lnC l)
  ha : st[l.a]? = some (dcK b1 l.alive)
  hd : st[l.d]? = some (dcK b2 l.dark)
  hg : st[l.g]? = some (.lst l.log)
  he : ∀ e ∈ l.alive ++ l.dark, st[e.ad]? = some (entC e)
  nd : (foot l).Nodup
  nn : ((l.alive ++ l.dark).map (·.nm)).Nodup
theorem LRep.frame {b1 b2 : Bool} {st st' : Store} {l : Ln} (h : LRep b1 b2 st l) (f : ∀ k ∈ foot l, st'[k]? = st[k]?) : LRep b1 b2 st' l :=
  ⟨by rw [f _ (by simp [foot])]; exact h.hL, by rw [f _ (by simp [foot])]; exact h.ha, by rw [f _ (by simp [foot])]; exact h.hd, by rw [f _ (by simp [foot])]; exact h.hg,
    fun e he => by rw [f _ (List.mem_cons_of_mem _ (List.mem_cons_of_mem _ (List.mem_cons_of_mem _ (List.mem_cons_of_mem _ (List.mem_map_of_mem he)))))]; exact h.he e he, h.nd, h.nn⟩
theorem LRep.lt {b1 b2 : Bool} {st : Store} {l : Ln} (h : LRep b1 b2 st l) : ∀ k ∈ foot l, k < st.length := by
  have at_ : ∀ {k : Nat} {c : Cell}, st[k]? = some c → k < st.length := fun e => (List.getElem?_eq_some_iff.mp e).1
  intro k hk
  simp only [foot, List.mem_cons] at hk
  rcases hk with rfl | rfl | rfl | rfl | hk
  · exact at_ h.hL
  · exact at_ h.ha
  · exact at_ h.hd
  · exact at_ h.hg
  · obtain ⟨e, he, rfl⟩ := List.mem_map.mp hk
    exact at_ (h.he e he)
theorem LRep.app {b1 b2 : Bool} {st : Store} {l : Ln} (h : LRep b1 b2 st l) (x : Store) : LRep b1 b2 (st ++ x) l := h.frame fun k hk => List.getElem?_append_left (h.lt k hk)
theorem LRep.nd4 {b1 b2 : Bool} {st : Store} {l : Ln} (h : LRep b1 b2 st l) : l.L ≠ l.a ∧ l.L ≠ l.d ∧ l.L ≠ l.g ∧ l.a ≠ l.d ∧ l.a ≠ l.g ∧ l.d ≠ l.g ∧ (∀ e ∈ l.alive ++ l.dark, e.ad ≠ l.L ∧ e.ad ≠ l.a ∧ e.ad ≠ l.d ∧ e.ad ≠ l.g) ∧ ((l.alive ++ l.dark).map (·.ad)).Nodup := by
  have := h.nd
  simp only [foot, List.nodup_cons, List.mem_cons, not_or] at this
  obtain ⟨⟨a1, a2, a3, a4⟩, ⟨b1, b2, b3⟩, ⟨c1, c2⟩, d1, d2⟩ := this
  refine ⟨a1, a2, a3, b1, b2, c1, fun e he => ?_, d2⟩
  have hm := List.mem_map_of_mem (f := (·.ad)) he
  exact ⟨fun z => a4 (z ▸ hm), fun z => b3 (z ▸ hm), fun z => c2 (z ▸ hm), fun z => d1 (z ▸ hm)⟩
/-! ### deeds at the store -/
/-- F alone may have changed -/
structure Frm (F : List Nat) (st st' : Store) : Prop where
  len : st.length ≤ st'.length
  oth : ∀ k, k < st.length → k ∉ F → st'[k]? = st[k]?
theorem Frm.refl (F : List Nat) (st : Store) : Frm F st st := ⟨Nat.le_refl _, fun _ _ _ => rfl⟩
theorem Frm.trans {F G : List Nat} {a b c : Store} (h : Frm F a b) (h2 : Frm G b c) (hs : ∀ k, k < a.length → k ∈ G → k ∈ F) : Frm F a c :=
  ⟨Nat.le_trans h.len h2.len, fun k hk hn => (h2.oth k (Nat.lt_of_lt_of_le hk h.len) fun z => hn (hs k hk z)).trans (h.oth k hk hn)⟩
theorem Frm.set {F : List Nat} {a b : Store} {k : Nat} (c : Cell) (h : Frm F a b) (hk : k < a.length → k ∈ F) : Frm F a (b.set k c) :=
  ⟨by rw [List.length_set]; exact h.len, fun j hj hn => by
    by_cases e : k = j
    · subst e; exact absurd (hk hj) hn
    · rw [at_ne e]; exact h.oth j hj hn⟩
theorem Frm.app {F : List Nat} {a b : Store} (x : Store) (h : Frm F a b) : Frm F a (b ++ x) :=
  ⟨by rw [List.length_append]; have := h.len; omega, fun j hj hn => by rw [List.getElem?_append_left (Nat.lt_of_lt_of_le hj h.len)]; exact h.oth j hj hn⟩
section
variable {b1 b2 : Bool} {st : Store} {l : Ln}
theorem LRep.off (h : LRep b1 b2 st l) {k : Nat} (c : Cell) (hk : k ∉ foot l) : LRep b1 b2 (st.set k c) l := h.frame fun j hj => at_ne fun z => hk (z ▸ hj)
theorem LRep.line {l' : Ln} (h : LRep b1 b2 st l) (e : l'.L = l.L ∧ l'.a = l.a ∧ l'.d = l.d ∧ l'.g = l.g ∧ l'.alive = l.alive ∧ l'.dark = l.dark ∧ l'.log = l.log) : LRep b1 b2 (st.set l.L (lnC l')) l' := by
  obtain ⟨n1, n2, n3, n4, n5, n6, n7, n8⟩ := h.nd4
  obtain ⟨L, a, d, g, al, dk, c, bh, ch, lg⟩ := l'
  obtain ⟨rfl, rfl, rfl, rfl, rfl, rfl, rfl⟩ := e
  exact ⟨at_set h.hL, by rw [at_ne n1]; exact h.ha, by rw [at_ne n2]; exact h.hd, by rw [at_ne n3]; exact h.hg, fun e he => by rw [at_ne (Ne.symm (n7 e he).1)]; exact h.he e he, h.nd, h.nn⟩
theorem LRep.putD (h : LRep b1 false st l) {e : Ent} (he : st[e.ad]? = some (entC e)) (hn : e.ad ∉ foot l) (hm : ∀ f ∈ l.alive ++ l.dark, f.nm ≠ e.nm) : LRep b1 false (st.set l.d (.dct (prs (l.dark ++ [e])))) { l with dark := l.dark ++ [e] } := by
  obtain ⟨n1, n2, n3, n4, n5, n6, n7, n8⟩ := h.nd4
  have hn := hn
  simp only [foot, List.mem_cons, not_or] at hn
  obtain ⟨m1, m2, m3, m4, m5⟩ := hn
  have nd8 : ((l.alive ++ (l.dark ++ [e])).map (·.ad)).Nodup := by
    rw [← List.append_assoc, List.map_append, List.nodup_append]
    exact ⟨n8, by simp, fun a ha b hb => by
      have : b = e.ad := by simpa using hb
      rw [this]
      exact fun z => m5 (z ▸ ha)⟩
  have mem : ∀ f, f ∈ l.alive ++ (l.dark ++ [e]) → f = e ∨ f ∈ l.alive ++ l.dark := fun f hf => by
    simp only [List.mem_append, List.mem_singleton] at hf ⊢
    rcases hf with hf | hf | hf
    · exact .inr (.inl hf)
    · exact .inr (.inr hf)
    · exact .inl hf
  have ndf : (foot { l with dark := l.dark ++ [e] }).Nodup := by
    have h0 := h.nd
    simp only [foot, List.nodup_cons, List.mem_cons, not_or] at h0 ⊢
    obtain ⟨⟨a1, a2, a3, a4⟩, ⟨b1, b2, b3⟩, ⟨c1, c2⟩, d1, d2⟩ := h0
    have off : ∀ k, k ∉ (l.alive ++ l.dark).map (·.ad) → k ≠ e.ad → k ∉ (l.alive ++ (l.dark ++ [e])).map (·.ad) := fun k hk hne z => by
      obtain ⟨f, hf, rfl⟩ := List.mem_map.mp z
      rcases mem f hf with rfl | hf
      · exact hne rfl
      · exact hk (List.mem_map_of_mem hf)
    exact ⟨⟨a1, a2, a3, off _ a4 (Ne.symm m1)⟩, ⟨b1, b2, off _ b3 (Ne.symm m2)⟩, ⟨c1, off _ c2 (Ne.symm m3)⟩, off _ d1 (Ne.symm m4), nd8⟩
  refine ⟨by rw [at_ne (Ne.symm n2)]; exact h.hL, by rw [at_ne (Ne.symm n4)]; exact h.ha, at_set h.hd, by rw [at_ne n6]; exact h.hg, fun f hf => ?_, ndf, ?_⟩
  · rcases mem f hf with rfl | hf
    · rw [at_ne (Ne.symm m3)]; exact he
    · rw [at_ne (Ne.symm (n7 f hf).2.2.1)]; exact h.he f hf
  · show ((l.alive ++ (l.dark ++ [e])).map (·.nm)).Nodup
    rw [← List.append_assoc, List.map_append, List.nodup_append]
    refine ⟨h.nn, by simp, fun a ha b hb => ?_⟩
    have : b = e.nm := by simpa using hb
    rw [this]
    obtain ⟨f, hf, rfl⟩ := List.mem_map.mp ha
    exact hm f hf
end
end F3

/-! F3, part za: shares over one bottom; a while by steps left. -/
namespace F3
open PySem PySem.Spec PyProof.Rows L2

/-! ### shares over one bottom C, none beyond B -/
def Bot (C B : Nat) (r : Rat) : Prop := ∃ z : Int, r * (C : Int) = (z : Int) ∧ z.natAbs ≤ B * C
theorem Bot.mono {C B B' : Nat} {r : Rat} (h : Bot C B r) (hb : B ≤ B') : Bot C B' r := by
  obtain ⟨z, h1, h2⟩ := h
  exact ⟨z, h1, Nat.le_trans h2 (Nat.mul_le_mul_right _ hb)⟩
theorem Bot.up {C B : Nat} {r : Rat} (h : Bot C B r) (k : Nat) : Bot (C * k) B r := by
  obtain ⟨z, h1, h2⟩ := h
  refine ⟨z * k, ?_, ?_⟩
  · rw [Int.natCast_mul, Rat.intCast_mul, Rat.intCast_mul, ← Rat.mul_assoc, h1]
  · rw [Int.natAbs_mul, Int.natAbs_natCast, ← Nat.mul_assoc]
    exact Nat.mul_le_mul_right _ h2
theorem Bot.add {C A B : Nat} {x y : Rat} (hx : Bot C A x) (hy : Bot C B y) : Bot C (A + B) (x + y) := by
  obtain ⟨z, h1, h2⟩ := hx
  obtain ⟨w, h3, h4⟩ := hy
  refine ⟨z + w, ?_, ?_⟩
  · rw [Rat.intCast_add, Rat.add_mul, h1, h3]
  · have := Int.natAbs_add_le z w
    rw [Nat.add_mul]
    omega
theorem Bot.neg {C A : Nat} {x : Rat} (hx : Bot C A x) : Bot C A (-x) := by
  obtain ⟨z, h1, h2⟩ := hx
  refine ⟨-z, ?_, by rw [Int.natAbs_neg]; exact h2⟩
  rw [Rat.intCast_neg, Rat.neg_mul, h1]
theorem Bot.sub {C A B : Nat} {x y : Rat} (hx : Bot C A x) (hy : Bot C B y) : Bot C (A + B) (x - y) := by
  rw [Rat.sub_eq_add_neg]
  exact hx.add hy.neg
theorem divInt_one (a : Int) : Rat.divInt a 1 = (a : Rat) := by
  rw [Rat.divInt_eq_div]
  grind
theorem Bot.int {B : Nat} {a : Int} (C : Nat) (ha : a.natAbs ≤ B) : Bot C B (Rat.divInt a 1) := by
  refine ⟨a * C, ?_, ?_⟩
  · rw [divInt_one, Rat.intCast_mul]
  · rw [Int.natAbs_mul, Int.natAbs_natCast]
    exact Nat.mul_le_mul_right _ ha
theorem Bot.zero (C B : Nat) : Bot C B 0 := ⟨0, by rw [Rat.zero_mul]; rfl, by simp⟩
theorem cast_ne {C : Nat} (h : 0 < C) : ((C : Int) : Rat) ≠ 0 := by
  intro z
  have : (C : Int) = 0 := by exact_mod_cast z
  omega
theorem Bot.div {C B : Nat} {x : Rat} (hx : Bot C B x) {w : Nat} (hw : 0 < w) : Bot (C * w) B (x / Rat.divInt w 1) := by
  obtain ⟨z, h1, h2⟩ := hx
  refine ⟨z, ?_, Nat.le_trans h2 (by rw [← Nat.mul_assoc]; exact Nat.le_mul_of_pos_right _ hw)⟩
  have hn := cast_ne hw
  rw [divInt_one, Int.natCast_mul, Rat.intCast_mul, ← h1]
  grind
theorem Bot.divInt {B : Nat} {a : Int} (C : Nat) (ha : a.natAbs ≤ B) {w : Nat} (hw : 0 < w) : Bot (C * w) B (Rat.divInt a w) := by
  have h := (Bot.int C ha).div hw
  have : Rat.divInt a 1 / Rat.divInt w 1 = Rat.divInt a w := by
    rw [divInt_one, divInt_one, Rat.divInt_eq_div]
  rwa [this] at h
theorem Bot.eq {C B : Nat} {r : Rat} (h : Bot C B r) (hC : 0 < C) : ∃ z : Int, r = Rat.divInt z C ∧ z.natAbs ≤ B * C := by
  obtain ⟨z, h1, h2⟩ := h
  refine ⟨z, ?_, h2⟩
  have hn := cast_ne hC
  rw [Rat.divInt_eq_div, ← h1]
  grind
theorem Bot.sz {C B n : Nat} {r : Rat} (h : Bot C B r) (hC : 0 < C) (h1 : B * C < 2 ^ n) (h2 : C < 2 ^ n) : Sz n r := by
  obtain ⟨z, rfl, hz⟩ := h.eq hC
  exact Sz.of_divInt (by omega) (Nat.lt_of_le_of_lt hz h1) (by rw [Int.natAbs_natCast]; exact h2)
end F3

/-! F3, part zb: plain data compared and told. -/
namespace F3
open PySem PySem.Spec PyProof.Rows L2

mutual
theorem pyD_of0 (st : Store) : ∀ (d : D) (p : PyData), pyD0 d = some p → pyD st d = some p
  | .non, p, h => h
  | .bl b, p, h => h
  | .int i, p, h => h
  | .str x, p, h => h
  | .lst ds, p, h => by
    simp only [pyD0] at h
    obtain ⟨ps, h1, rfl⟩ := Option.map_eq_some_iff.mp h
    simp only [pyD, pyL_of0 st ds ps h1, Option.map_some]
  | .tup ds, p, h => by
    simp only [pyD0] at h
    obtain ⟨ps, h1, rfl⟩ := Option.map_eq_some_iff.mp h
    simp only [pyD, pyL_of0 st ds ps h1, Option.map_some]
  | .dct _, p, h => by simp [pyD0] at h
  | .ref _, p, h => by simp [pyD0] at h
  | .obj _ _, p, h => by simp [pyD0] at h
  | .exc _ _, p, h => by simp [pyD0] at h
theorem pyL_of0 (st : Store) : ∀ (ds : List D) (ps : List PyData), pyL0 ds = some ps → pyL st ds = some ps
  | [], ps, h => h
  | d :: ds, ps, h => by
    simp only [pyL0] at h
    cases h1 : pyD0 d with
    | none => rw [h1] at h; cases h
    | some p =>
      cases h2 : pyL0 ds with
      | none => rw [h1, h2] at h; cases h
      | some qs =>
        rw [h1, h2] at h
        cases h
        simp only [pyL, pyD_of0 st d p h1, pyL_of0 st ds qs h2, Option.bind_some, Option.map_some]
end
/-- plain data, no cell within, n deep at most -/
structure Pn (d : D) (n : Nat) : Prop where
  h : ∃ p, pyD0 d = some p ∧ p.canLay0 = true ∧ p.depth ≤ n
structure PnL (ds : List D) (n : Nat) : Prop where
  h : ∃ ps, pyL0 ds = some ps ∧ PyData.canLayAll0 ps = true ∧ PyData.depthAll ps ≤ n
theorem Pn.mono {d : D} {n m : Nat} (h : Pn d n) (hm : n ≤ m) : Pn d m := let ⟨p, a, b, c⟩ := h.h; ⟨p, a, b, Nat.le_trans c hm⟩
theorem Pn.int (i : Int) : Pn (.int i) 0 := ⟨.int i, rfl, by simp only [PyData.canLay0], by simp only [PyData.depth]; omega⟩
theorem Pn.bl (b : Bool) : Pn (.bl b) 0 := ⟨.bool b, rfl, by simp only [PyData.canLay0], by simp only [PyData.depth]; omega⟩
theorem Pn.non : Pn .non 0 := ⟨.none, rfl, by simp only [PyData.canLay0], by simp only [PyData.depth]; omega⟩
theorem Pn.str {x : Str} (h : OkS x) : Pn (.str x) 0 := ⟨.str x, rfl, h.ok, by simp only [PyData.depth]; omega⟩
theorem Pn.lit (s : String) : Pn (.str (Str.ofString s)) 0 := .str (OkS.lit s)
theorem PnL.of {ds : List D} {n : Nat} (h : ∀ d ∈ ds, Pn d n) : PnL ds n := by
  induction ds with
  | nil => exact ⟨[], rfl, by simp only [PyData.canLayAll0], by simp only [PyData.depthAll]; omega⟩
  | cons d ds ih =>
    obtain ⟨ps, a1, a2, a3⟩ := (ih fun e he => h e (List.mem_cons_of_mem _ he)).h
    obtain ⟨p, b1, b2, b3⟩ := (h d List.mem_cons_self).h
    refine ⟨p :: ps, by simp only [pyL0, b1, a1, Option.bind_some, Option.map_some], by simp only [PyData.canLayAll0, b2, a2, Bool.and_self], ?_⟩
    simp only [PyData.depthAll]
    exact Nat.max_le.mpr ⟨b3, a3⟩
theorem PnL.lst {ds : List D} {n : Nat} (h : PnL ds n) : Pn (.lst ds) (n + 1) := by
  obtain ⟨ps, a1, a2, a3⟩ := h.h
  exact ⟨.list ps, by simp only [pyD0, a1, Option.map_some], by simp only [PyData.canLay0, a2], by simp only [PyData.depth]; omega⟩
theorem PnL.tup {ds : List D} {n : Nat} (h : PnL ds n) : Pn (.tup ds) (n + 1) := by
  obtain ⟨ps, a1, a2, a3⟩ := h.h
  exact ⟨.tuple ps, by simp only [pyD0, a1, Option.map_some], by simp only [PyData.canLay0, a2], by simp only [PyData.depth]; omega⟩
theorem Pn.lst {ds : List D} {n : Nat} (h : ∀ d ∈ ds, Pn d n) : Pn (.lst ds) (n + 1) := (PnL.of h).lst
theorem Pn.tup {ds : List D} {n : Nat} (h : ∀ d ∈ ds, Pn d n) : Pn (.tup ds) (n + 1) := (PnL.of h).tup
theorem PnL.nil (n : Nat) : PnL [] n := .of fun _ h => by cases h
theorem PnL.cons {d : D} {ds : List D} {n : Nat} (h : Pn d n) (h2 : PnL ds n) : PnL (d :: ds) n := by
  obtain ⟨ps, a1, a2, a3⟩ := h2.h
  obtain ⟨p, b1, b2, b3⟩ := h.h
  refine ⟨p :: ps, by simp only [pyL0, b1, a1, Option.bind_some, Option.map_some], by simp only [PyData.canLayAll0, b2, a2, Bool.and_self], ?_⟩
  simp only [PyData.depthAll]
  exact Nat.max_le.mpr ⟨b3, a3⟩
theorem Pn.sh (r : Rat) : Pn (shD r) 1 := (PnL.cons (.int _) (.cons (.int _) (.nil 0))).tup
theorem Pn.shaped {d : D} {n : Nat} (h : Pn d n) (hn : n ≤ 64) : ∃ p, (∀ st, pyD st d = some p) ∧ SeqAt.shaped p = true := by
  obtain ⟨p, a, b, c⟩ := h.h
  exact ⟨p, fun st => pyD_of0 st d p a, Bool.and_eq_true_iff.mpr ⟨b, decide_eq_true (by omega)⟩⟩
theorem forG_wp0 {w : Wlk} {g : Tgt} {b : Sm} {k : Kt} (I : Nat → Env → Store → Prop) (hg : ∀ i e s, I i e s → Gd w s) : ∀ (ds : List D) (j : Nat) (env : Env) (st : Store), I j env st →
    (∀ (i : Nat) (d : D) (env : Env) (st : Store), ds[i]? = some d → I (j + i) env st → ∃ e1 s1, g d env st = some (e1, s1) ∧ Fp (b e1 s1) (kTurn (I (j + i + 1)) k)) →
    (∀ env st, I (j + ds.length) env st → k.nx env st) → Fp (forG w g b ds env st) k
  | [], j, env, st, h, _, hd => by
    unfold forG
    rw [if_pos (hg _ _ _ h)]
    exact hd env st h
  | d :: ds, j, env, st, h, step, hd => by
    obtain ⟨e1, s1, h1, hb⟩ := step 0 d env st rfl h
    unfold forG
    rw [if_pos (hg _ _ _ h), h1]
    dsimp only
    have nxt : ∀ e s, I (j + 0 + 1) e s → Fp (forG w g b ds e s) k := fun e s hi => forG_wp0 I hg ds (j + 1) e s hi (fun i d' env st hd' hi' => by
      have := step (i + 1) d' env st (by simpa using hd') (by rw [show j + (i + 1) = j + 1 + i by omega]; exact hi')
      rw [show j + 1 + i + 1 = j + (i + 1) + 1 by omega]
      exact this) fun env st hi' => hd env st (by rw [List.length_cons, show j + (ds.length + 1) = j + 1 + ds.length by omega]; exact hi')
    cases q : b e1 s1 with
    | nx e s => rw [q] at hb; exact nxt e s hb
    | ct e s => rw [q] at hb; exact nxt e s hb
    | bk e s => rw [q] at hb; exact hb
    | rt d s => rw [q] at hb; exact hb
    | ex c fs e s => rw [q] at hb; exact hb
    | stuck => rw [q] at hb; exact hb.elim
/-- a walk over a cell that stays meanwhile -/
theorem forG_wp {w : Wlk} {g : Tgt} {b : Sm} {k : Kt} (I : Nat → Env → Store → Prop) {ds : List D} {env : Env} {st : Store} (hg : ∀ i e s, I i e s → Gd w s) (h : I 0 env st)
    (step : ∀ (i : Nat) (d : D) (env : Env) (st : Store), ds[i]? = some d → I i env st → ∃ e1 s1, g d env st = some (e1, s1) ∧ Fp (b e1 s1) (kTurn (I (i + 1)) k)) (hd : ∀ env st, I ds.length env st → k.nx env st) : Fp (forG w g b ds env st) k :=
  forG_wp0 I hg ds 0 env st h (fun i d env st hd hi => by rw [Nat.zero_add] at hi ⊢; exact step i d env st hd hi) fun env st hi => hd env st (by rw [Nat.zero_add] at hi; exact hi)
end F3

/-! F3, part zc: list.remove of what is there, by data. -/
namespace F3
open PySem PySem.Spec PyProof.Rows L2

section
variable {X : Cx} {cl : ClW} {W : WX} {K : PySem.W.Frag} {as : As} {H : Hp} {st : Store}
end
section
variable {X : Cx} {cl : ClW} {W : WX}
end
theorem ShL.rep {K : PySem.W.Frag} {cl : ClW} {as : As} {H : Hp} {vs : List V} {ds : List D} (h : ShL K cl as H vs ds) : ∀ n : Nat, ShL K cl as H (List.replicate n vs).flatten (List.replicate n ds).flatten
  | 0 => .nil
  | n + 1 => by
    rw [List.replicate_succ, List.replicate_succ, List.flatten_cons, List.flatten_cons]
    exact h.append (ShL.rep h n)
section
variable {X : Cx} {cl : ClW} {W : WX} {K : PySem.W.Frag} {as : As} {H : Hp} {st : Store}
end
/-! ### the head's hook: what is reached, each once -/
end F3

/-! F3, part zd: dict(list of pairs). -/
namespace F3
open PySem PySem.Spec PyProof.Rows L2

section
variable {X : Cx} {cl : ClW} {W : WX} {K : PySem.W.Frag} {as : As} {H : Hp} {st : Store}
end
end F3

/-! F3, part ze: {k: v for ..}, as a cell. -/
namespace F3
open PySem PySem.Spec PyProof.Rows L2

open Classical in
section
variable {X : Cx} {cl : ClW} {W : WX}
end
/-! ### is, is not of truths -/
section
variable {K : PySem.W.Frag} {cl : ClW}
end
end F3

/-! F3, part zf: a lambda without parameters handed to a def that calls it. -/
namespace F3
open PySem PySem.Spec PyProof.Rows L2

/-! ### what a lambda keeps of its maker's names -/
section
variable {K : PySem.W.Frag} {cl : ClW} {as : As} {H : Hp} {sg : L2.St}
end
/-! ### code -/
open Classical in
open Classical in
/-! ### a lambda is made -/
section
variable {X : Cx} {pins : List (Addr × Obj)} {sg : L2.St} {H : Hp} {s : Shared}
theorem lam_make3 {c P : Addr} {q : Str} {ps : Array Value} {params : Arguments} {body : Expr} {scope : Scope} {pos : Pos} {E : Value → Shared → Prop} {Q : Value → Shared → Prop}
    (I : L2.Inv X pins sg H s) (TB : LamX.TabB X.base X.mg c P) (hcode : X.env.code = .ref c) (hP : H P = some (.tbl ps)) (ht : TriplesOk ps.toList)
    (ha : ∀ (pos : Pos) (cv : Value), codeAmong pos ps.toList = some cv → ∃ c', cv = .ref c' ∧ H c' = some (LamX.CodeO c' q)) (hq : X.env.qual ++ "<lambda>" = q)
    (hdef : defaultsOf params X.env = ([], [])) (hfree : ∀ y ∈ scope.names, y.2 = .free → ∃ c, X.env.cells.lookup y.1 = some c)
    (h : ∀ (f c' : Addr) (pm ctv : Value) (H1 : Hp) (s' : Shared) (ps' : Array Value), L2.Inv X pins sg H1 s' → H1 P = some (.tbl ps') → TriplesOk ps'.toList →
      (∀ (pos : Pos) (cv : Value), codeAmong pos ps'.toList = some cv → codeAmong pos ps.toList = some cv ∨ cv = .ref c') → (∀ b o, b ≠ P → H b = some o → H1 b = some o) →
      H1 c' = some (LamX.CodeO c' q) → (H c' = none ∨ ∃ pos : Pos, codeAmong pos ps.toList = some (.ref c')) →
      s'.heap.get? f = some (PySem.W.kla_obj "<lambda>" q params body scope (cloFrom X.env.cells scope.names []) pm c' ctv) → H1 f = none → f ∉ frs X.stack → Q (.ref f) s') :
    wpAny (model X.prog X.w) X.A (eval (.Lambda params body scope pos) X.env) Q E s := by
  subst hq
  have hP2 : s.heap.get? P = some { cls := .none, data := .fields ps } := I.hok P _ hP
  have out : ∀ f, s.heap.objs.size ≤ f → f ∉ frs X.stack := fun f hf z => (List.mem_cons.mp (I.stkSub _ z)).elim
    (fun e => Nat.lt_irrefl _ (Nat.lt_of_lt_of_le (show f < _ from e ▸ I.lt) hf)) fun e => I.nofs hf e
  have gl := I.mod.glob.keeps I.bk
  have cd := TB.code.keeps I.bk
  have bm := TB.bm.keeps I.bk
  refine PySem.W.kla_eval hdef ?_
  cases hc : codeAmong pos ps.toList with
  | some cv =>
    obtain ⟨c', rfl, hco⟩ := ha pos cv hc
    refine PySem.W.kla_makeFunctionHit (mg := X.mg) (c := c) (P := P) (ps := ps) (closure_ok hfree) I.ok.glob gl hcode cd hP2 ht hc bm fun ctv h' tk hx hsz => ?_
    refine h h'.objs.size c' ((X.mg "__name__").getD .none) ctv H _ ps (I.kept fun b o e => Heap.get?_push_of_some _ (hx b o e)) hP ht (fun _ _ z => .inl z) (fun _ _ _ z => z) hco (.inr ⟨pos, hc⟩) (Heap.get?_push_size _ rfl) (I.hok.fresh hsz) (out _ hsz)
  | none =>
    refine PySem.W.kla_makeFunction (mg := X.mg) (c := c) (P := P) (ps := ps) (closure_ok hfree) I.ok.glob gl hcode cd hP2 ht hc TB.gP bm fun c' ctv h' tk hx hge hlt hrec htb => ?_
    obtain ⟨c2, oc, vs, t, e2, hoc, hd, hv⟩ := hrec
    cases e2
    have sz : s.heap.objs.size ≤ h'.objs.size := Nat.le_trans hge (Nat.le_of_lt hlt)
    have nC : H c' = none := I.hok.fresh hge
    have nPc : P ≠ c' := ne_of_none hP nC
    have J := LamX.inv_table (t' := tk) (more := #[rawInt pos.line, rawInt pos.col, .ref c']) (h' := h'.push (PySem.W.kla_obj "<lambda>" (X.env.qual ++ "<lambda>") params body scope (cloFrom X.env.cells scope.names []) ((X.mg "__name__").getD .none) c' ctv)) I hP
      (fun b o hb e => Heap.get?_push_of_some _ (hx b o hb e)) (Heap.get?_push_of_some _ htb) hge ⟨oc, vs, t, Heap.get?_push_of_some _ hoc, hd, hv⟩
    have eL : (ps ++ #[rawInt pos.line, rawInt pos.col, .ref c']).toList = ps.toList ++ [rawInt pos.line, rawInt pos.col, .ref c'] := by simp
    refine h h'.objs.size c' ((X.mg "__name__").getD .none) ctv _ _ _ J (by rw [upd_ne nPc, upd_same]) (by rw [eL]; exact PySem.TriplesOk_snoc _ _ _ _ ht) (fun p' cv z => ?_) (fun b o hb e => ?_) upd_same (.inl nC) (Heap.get?_push_size _ rfl) ?_ (out _ sz)
    · rw [eL] at z
      exact LamX.among_app _ ht z
    · rw [upd_ne (ne_of_none e nC), upd_ne hb]
      exact e
    · rw [upd_ne (Nat.ne_of_gt hlt), upd_ne (Nat.ne_of_gt (Nat.lt_of_lt_of_le (Heap.lt_size hP2) sz))]
      exact I.hok.fresh sz
end

/-! ### the def that calls its parameter -/
section
variable {X : Cx} {cl : ClW} {W : WX}
end
/-- the store shows the heap in which a lambda was made -/
theorem Rel.lam {K : PySem.W.Frag} {cl : ClW} {as : As} {H H1 : Hp} {st : Store} {i : Nat} {x : String} {P c' : Addr} {ps ps' : Array Value} (r : Rel K cl as H st) (hi : as.c[i]? = some P) (hs : st[i]? = some (.tab x)) (hP : H P = some (.tbl ps)) (eP : P = (He.cT K (Str.ofString x, none)).2)
    (hC : ∀ (pos : Pos) (cv : Value), codeAmong pos ps.toList = some cv → ∃ c, cv = .ref c ∧ c ∉ as ∧ H c = some (LamX.CodeO c (lamQ x)))
    (h1 : H1 P = some (.tbl ps')) (ht : TriplesOk ps'.toList) (h2 : ∀ (pos : Pos) (cv : Value), codeAmong pos ps'.toList = some cv → codeAmong pos ps.toList = some cv ∨ cv = .ref c') (h3 : ∀ b o, b ≠ P → H b = some o → H1 b = some o)
    (h4 : H1 c' = some (LamX.CodeO c' (lamQ x))) (h5 : H c' = none ∨ ∃ pos : Pos, codeAmong pos ps.toList = some (.ref c')) : Le as H as H1 ∧ Rel K cl as H1 st ∧ c' ∉ as := by
  have mP : P ∈ as.c := List.mem_of_getElem? hi
  have nc : c' ∉ as := by
    rcases h5 with h5 | ⟨pos, h5⟩
    · exact r.fresh h5
    · obtain ⟨c, e, n, _⟩ := hC pos _ h5
      cases e
      exact n
  have mv : Mv as H as H1 := ⟨fun _ _ h => h, fun b o n e => ⟨h3 b o (fun z => n (.inl (z ▸ mP))) e, n⟩, fun b od u e => h3 b _ (fun z => by rw [z, hP] at e; cases e) e⟩
  have res : ∀ b ∈ as.r, H1 b = H b := fun b m => by
    obtain ⟨n, o, e⟩ := r.rs b m
    rw [h3 b o (fun z => n (z ▸ mP)) e, e]
  refine ⟨⟨mv, rfl, res⟩, ⟨r.len, r.nd, fun j b c e1 e2 => ?_, fun b m => ⟨(r.rs b m).1, by rw [res b m]; exact (r.rs b m).2⟩, fun b m => by rw [res b m]; exact r.rx b m⟩, nc⟩
  by_cases hb : b = P
  · subst hb
    obtain ⟨i1, i2⟩ := List.getElem?_eq_some_iff.mp e1
    obtain ⟨j1, j2⟩ := List.getElem?_eq_some_iff.mp hi
    have ij : j = i := (List.getElem_inj r.nd).mp (i2.trans j2.symm)
    subst ij
    rw [hs] at e2
    cases e2
    refine .tab eP h1 ht fun pos cv z => ?_
    rcases h2 pos cv z with z | z
    · obtain ⟨c, a1, a2, a3⟩ := hC pos cv z
      exact ⟨c, a1, a2, (mv.keep c _ a2 a3).1⟩
    · exact ⟨c', z, nc, h4⟩
  · exact (r.cell j b c e1 e2).mono mv fun o e => h3 b o hb e
section
variable {X : Cx} {cl : ClW} {W : WX}
end
end F3

/-! F3, part zg: the head and the end of a law whose defs make lambdas. -/
namespace F3
open PySem PySem.Spec PyProof.Rows L2

theorem fund_code {K : PySem.W.Frag} {x qual : Str} {params : Arguments} {body : List Stmt} {scope : Scope} {dvs : List V} {kws : List (Str × V)} {p : He.Defn} {fd : FuncData} (F : FunD K x qual params body scope dvs kws (He.fAd K p) fd) : fd.code = .ref (He.cT K p).1 := by
  obtain ⟨oc, od, dV, kV, doc, pm, an, cdv, ct, osl, rfl, lk, hcd, _, _⟩ := F.ex
  obtain ⟨c, rfl⟩ := He.codeIn_ref hcd
  show Value.ref c = .ref (He.codeOf K p)
  rw [He.codeOf_eq lk rfl]
/-! ### the hook -/
/-! ### the end -/
theorem law_FT {P : Program} {w : World} {K : PySem.W.Frag} {mg mb : Str → Option Value} {k : Nat} {fa a : Addr} {fd : FuncData} {x : Str} {cl : ClW} {m : List D → Store → Res D} {s1 : Shared} {vs : List Value} {ns : List Int} {tf : List String}
    (KX : K.In s1.heap) (hns : s1.heap.Ns mainGlobals mg) (hb : s1.heap.Ns builtinsNs mb) (hbb : ∀ y : Str, y ≠ "__name__" → mb y = bootBuiltins y) (hlim : s1.heap.NoLimit) (hg : s1.gens = #[])
    (hd : ∀ x ∈ tf, PySem.W.codeHdIn K (ct K x).1 (ct K x).2 = true) (out : ∀ x ∈ tf, K.lookup (ct K x).2 = none) (empty : ∀ x ∈ tf, s1.heap.get? (ct K x).2 = some { cls := .none, data := .fields #[] }) (nd : (tf.map fun x => (ct K x).2).Nodup)
    (hbm : ∃ (bm : Addr) (ob : Obj), mg "__builtins__" = some (.ref bm) ∧ bm ≠ builtinsNs ∧ s1.heap.get? bm = some ob ∧ ob.cls = .type "module" ∧ ob.dict = some builtinsNs ∧ ob.data = .plain)
    (ha : s1.heap.get? a = some { cls := .type "list", data := .seq vs.toArray }) (hi : IntsAre vs ns) (hl : ns.length ≤ sizeLine) (hr : Room k callerA)
    (F : ∀ base : Heap, K.In base → base.Ns mainGlobals mg → (∀ x ∈ tf, LamX.TabB base mg (ct K x).1 (ct K x).2) → FnG P w K mg base k fa fd [x] (spF K cl 1 m)) (hbi : ∀ (s : Shared) (u : Value), BindsTo s fd ⟨[u], []⟩ [(x, u)])
    (hm : ∃ st', m [.lst (ns.map D.int)] (tf.map Cell.tab) = .ok (.bl true) st') :
    codeAny (model P w) callerA (.call (.ref fa) ⟨[.ref a], []⟩) (fun r s' => r = .ok (.ret (.bool true)) ∧ OldK s1.heap s'.heap ∧ s'.os = s1.os ∧ AllBare s'.gens) s1 := by
  have rv := vals_ints hi
  let Ps : List Addr := tf.map fun x => (ct K x).2
  have tab_at : ∀ b ∈ Ps, s1.heap.get? b = some { cls := .none, data := .fields #[] } := fun b hb => by
    obtain ⟨y, hy, e⟩ := List.mem_map.mp hb
    rw [← e]; exact empty y hy
  have tab_out : ∀ b ∈ Ps, K.lookup b = none := fun b hb => by
    obtain ⟨y, hy, e⟩ := List.mem_map.mp hb
    rw [← e]; exact out y hy
  have aT : a ∉ Ps := fun z => by
    have q := (tab_at a z).symm.trans ha
    cases (show Data.fields #[] = Data.seq vs.toArray _ from congrArg Obj.data (Option.some.inj q))
  -- H tracks the tables, and the script alone, as it is known, or not
  have go : ∀ H : Hp, (∀ b u, H b = some u → (b = a ∧ K.lookup a = none ∧ u = .frz { cls := .type "list", data := .seq vs.toArray } (.lst (ns.map V.int))) ∨ (b ∈ Ps ∧ u = .tbl #[])) → (∀ b ∈ Ps, H b = some (.tbl #[])) → FzL K ⟨Ps, []⟩ H a (ns.map V.int) →
      codeAny (model P w) callerA (.call (.ref fa) ⟨[.ref a], []⟩) (fun r s' => r = .ok (.ret (.bool true)) ∧ OldK s1.heap s'.heap ∧ s'.os = s1.os ∧ AllBare s'.gens) s1 := by
    intro H hH hT hS
    have free : ∀ b o, s1.heap.get? b = some o → (∀ ws n, o.data ≠ .seq ws n) → o.data ≠ .fields #[] → H b = none := fun b o e h1 h2 => by
      cases q : H b with
      | none => rfl
      | some u =>
        rcases hH b u q with ⟨z, _, _⟩ | ⟨z, _⟩
        · rw [z, ha] at e; cases e; exact absurd rfl (h1 _ _)
        · rw [tab_at b z] at e; cases e; exact absurd rfl h2
    have hok : HOk P w H s1.heap := fun b u e => by
      rcases hH b u e with ⟨rfl, _, rfl⟩ | ⟨z, rfl⟩
      · exact ⟨ha, by rw [List.length_map]; exact hl, vs, _, rv, ha⟩
      · exact tab_at b z
    have ns_in : ∀ {b : Addr} {g : Str → Option Value}, s1.heap.Ns b g → (hidT s1.heap H).Ns b g := fun {b g} h => by
      obtain ⟨o, es, ep, e, d, r⟩ := h
      exact ⟨o, es, ep, hidT_get e (free b o e (fun ws n z => by rw [d] at z; cases z) fun z => by rw [d] at z; cases z), d, r⟩
    have k_in : K.In (hidT s1.heap H) := fun b o e => by
      refine hidT_get (KX b o e) ?_
      cases q : H b with
      | none => rfl
      | some u =>
        rcases hH b u q with ⟨rfl, z, _⟩ | ⟨z, _⟩
        · rw [z] at e; cases e
        · rw [tab_out b z] at e; cases e
    have hM : Mod K mg (hidT s1.heap H) := ⟨k_in, ns_in hns, ⟨mb, ns_in hb, hbb⟩, let ⟨mc, h1, h2⟩ := hlim; ⟨mc, ns_in h1, h2⟩⟩
    have TB : ∀ x ∈ tf, LamX.TabB (hidT s1.heap H) mg (ct K x).1 (ct K x).2 := fun y hy => by
      have hE := empty y hy
      refine ⟨PySem.W.codeHd_of_K k_in (hd y hy), ?_, fun z => ?_⟩
      · obtain ⟨bm, ob, b1, b2, b3, b4, b5, b6⟩ := hbm
        refine ⟨bm, ob, b1, b2, fun q => ?_, fun q => ?_, hidT_get b3 (free bm ob b3 (fun ws n z => by rw [b6] at z; cases z) fun z => by rw [b6] at z; cases z), b4, b5, b6⟩
        · obtain ⟨o, es, ep, e, d, _⟩ := hns
          rw [q, e] at b3; cases b3; rw [d] at b6; cases b6
        · rw [q, hE] at b3; cases b3; cases b6
      · obtain ⟨o, es, ep, e, d, _⟩ := hns
        rw [z, hE] at e; cases e; cases d
    have e0 : Env0 P w K mg (hidT s1.heap H) callerA [] s1 H := ⟨rfl, hM, fun _ _ e => of_hidT e, Nat.le_of_eq (hidT_size _ _), trivial, (fun _ z => nomatch z), hok, AllBare.of_eq hg⟩
    obtain ⟨st', e⟩ := hm
    have cellT : ∀ (i : Nat) (b : Addr) (c : Cell), Ps[i]? = some b → (tf.map Cell.tab)[i]? = some c → CellAt K cl ⟨Ps, []⟩ H b c := fun i b c e1 e2 => by
      rw [List.getElem?_map] at e1 e2
      cases q : tf[i]? with
      | none => rw [q] at e1; cases e1
      | some y =>
        rw [q] at e1 e2
        cases e1; cases e2
        exact .tab rfl (hT _ (List.mem_map.mpr ⟨y, List.mem_of_getElem? q, rfl⟩)) trivial fun pos cv z => by simp [codeAmong] at z
    have hsp : spF K cl 1 m [.ref a] H (fun v _ => v = .bl true) (fun _ _ _ => False) := by
      refine ⟨⟨Ps, []⟩, tf.map Cell.tab, [.lst (ns.map D.int)], rfl, ⟨by show Ps.length = _; rw [List.length_map, List.length_map], nd, cellT, (fun _ z => nomatch z), (fun _ z => nomatch z)⟩, .cons (.lst hS ?_) .nil, ?_⟩
      · clear hS rv hi ha hl e hok hH free
        induction ns with
        | nil => exact .nil
        | cons n ns ih => exact .cons (.int n) ih
      · rw [e]
        intro as' H' v _ _ x
        cases x
        rfl
    refine codeAny_mono ((F _ k_in (ns_in hns) TB).run callerA [] s1 H ⟨[.ref a], []⟩ [.ref a] [.ref a] _ _ rfl hr e0 (hbi s1 (.ref a)) (.cons rfl .nil) hsp) fun r s2 h => ?_
    cases r with
    | error e =>
      obtain ⟨_, _, _, _, _, _, _, _, _, _, _, _, z⟩ := h
      exact z.elim
    | ok fl =>
      cases fl with
      | ret u =>
        obtain ⟨v, H2, o2, bare2, un2, hok2, r2, q2⟩ := h
        cases (show v = .bl true from q2)
        cases r2
        have stay : ∀ b o, b ∉ Ps → s1.heap.get? b = some o → s2.heap.get? b = some o := fun b o nb e => by
          cases q : H b with
          | none => exact un2.keep b o e q (fun z => nomatch z) (fun z => nomatch z)
          | some u =>
            rcases hH b u q with ⟨rfl, _, rfl⟩ | ⟨z, _⟩
            · obtain ⟨e2, _⟩ := hok2 b _ (un2.frzs b _ _ q)
              rw [ha] at e
              rw [e2, e]
            · exact absurd z nb
        have more_at : ∀ b ∈ Ps, ∃ more : Array Value, s2.heap.get? b = some { cls := .none, data := .fields more } := fun b hb => by
          obtain ⟨more, z⟩ := un2.tbls b #[] (hT b hb)
          exact ⟨_, hok2 b _ z⟩
        refine ⟨rfl, ⟨fun b o e => ?_, fun b o e => ?_⟩, o2, bare2⟩
        · by_cases hb2 : b ∈ Ps
          · obtain ⟨y, hy, ey⟩ := List.mem_map.mp hb2
            obtain ⟨more, z⟩ := more_at b hb2
            rw [tab_at b hb2] at e
            cases e
            refine .inr (.inl ⟨?_, rfl, #[], more, rfl, by rw [Array.empty_append]; exact z⟩)
            rw [← ey]
            exact ((PySem.W.codeHd_of_K KX (hd y hy)).tab (empty y hy)).isCodeTable
          · exact .inl (stay b o hb2 e)
        · by_cases hb2 : b ∈ Ps
          · obtain ⟨more, z⟩ := more_at b hb2
            exact ⟨_, z⟩
          · exact ⟨o, stay b o hb2 e⟩
      | next => exact h.elim
      | brk => exact h.elim
      | cont => exact h.elim
  cases hk : K.lookup a with
  | some o =>
    have e := KX a o hk
    rw [ha] at e
    cases e
    refine go (fun b => if b ∈ Ps then some (.tbl #[]) else none) (fun b u z => ?_) (fun b hb => if_pos hb) (.inr fun H => .inr ⟨_, vs.toArray, _, hk, rfl, rfl, rfl, by rw [List.size_toArray, hi.length]; exact hl, by simpa using rv⟩)
    by_cases hb2 : b ∈ Ps
    · rw [if_pos hb2] at z; cases z; exact .inr ⟨hb2, rfl⟩
    · rw [if_neg hb2] at z; cases z
  | none =>
    refine go (fun b => if b = a then some (.frz { cls := .type "list", data := .seq vs.toArray } (.lst (ns.map V.int))) else if b ∈ Ps then some (.tbl #[]) else none) (fun b u z => ?_) (fun b hb => ?_) (.inl ⟨fun z => ?_, .inr ⟨_, if_pos rfl⟩⟩)
    · by_cases hb : b = a
      · rw [if_pos hb] at z; cases z; exact .inl ⟨hb, hk, rfl⟩
      · rw [if_neg hb] at z
        by_cases hb2 : b ∈ Ps
        · rw [if_pos hb2] at z; cases z; exact .inr ⟨hb2, rfl⟩
        · rw [if_neg hb2] at z; cases z
    · show (if b = a then _ else _) = _
      rw [if_neg (fun z : b = a => aT (z ▸ hb)), if_pos hb]
    · rcases z with z | z
      · exact aT z
      · cases z
/-- the whole law -/
theorem walk_FT {l : PySem.W.OpenLaw} {n k : Nat} {q : Program} {loose : List Str} {XP : (Str → Option Value) → Heap → Prop} {YP : World → Heap → Prop} {d : DefRec} {x : Str} {tf : List String}
    (hn : l.most = some n) (hn2 : n ≤ sizeLine) (hdf : d.params.defaults = []) (hr : Room k callerA)
    (F : ∀ (w : World) (mg : Str → Option Value) (fa : Addr) (h : Heap), YP w h → h.Ns mainGlobals mg → mg d.name = some (.ref fa) →
      ∃ (K : PySem.W.Frag) (fd : FuncData) (cl : ClW) (m : List D → Store → Res D), K.In h ∧ (∀ (s : Shared) (u : Value), BindsTo s fd ⟨[u], []⟩ [(x, u)]) ∧
        (∀ ns : List Int, ns.length ≤ n → ∃ st', m [.lst (ns.map D.int)] (tf.map Cell.tab) = .ok (.bl true) st') ∧
        (∀ x ∈ tf, PySem.W.codeHdIn K (ct K x).1 (ct K x).2 = true) ∧ (∀ x ∈ tf, K.lookup (ct K x).2 = none) ∧ (∀ x ∈ tf, h.get? (ct K x).2 = some { cls := .none, data := .fields #[] }) ∧ (tf.map fun x => (ct K x).2).Nodup ∧
        ∀ base : Heap, K.In base → base.Ns mainGlobals mg → (∀ x ∈ tf, LamX.TabB base mg (ct K x).1 (ct K x).2) → FnG l.prog w K mg base k fa fd [x] (spF K cl 1 m)) :
    PySem.W.WalkO q loose XP YP l.row.toRowW d [] (fun f vs => PySem.call f vs) := by
  refine Att.attach_callB hn hdf fun w s0 s1 mg mb fa o pm cd doc a vs ns G Y ho hd hcd hmg hobj hints hlen hbits hg => ?_
  obtain ⟨K, fd, cl, m, KX, hbi, hm, t1, t2, t3, t4, hF⟩ := F w mg fa _ Y G.T.g hmg
  exact law_FT KX G.T.g G.T.b G.T.builtins G.T.nolimit hg t1 t2 t3 t4 G.T.bmain hobj hints (Nat.le_trans hlen hn2) hr hF hbi (hm ns hlen)
end F3

/-! F3, part zh: sorted(..) as a cell. -/
namespace F3
open PySem PySem.Spec PyProof.Rows L2
section
variable {K : PySem.W.Frag} {cl : ClW} {as : As} {H : Hp} {st : Store}
end
end F3

/-! F3, part zi: list(range(n)), range downwards. -/
namespace F3
open PySem PySem.Spec PyProof.Rows L2
section
variable {X : Cx} {cl : ClW} {W : WX} {K : PySem.W.Frag} {as : As} {H : Hp} {st : Store}
end
end F3

/-! F3, part zj: != by an own __eq__. -/
namespace F3
open PySem PySem.Spec PyProof.Rows L2
structure NeO (K : PySem.W.Frag) (cl : ClW) (c : String) : Prop where
  ne : PySem.W.findIn K (.ref (cl c)) "__ne__" = some (some (.builtin "object.__ne__"))
  ob : PySem.W.subIn K (.ref (cl c)) (.type "object") = some true
theorem neo_of {w : World} {K : PySem.W.Frag} {c : String} (h : neoB K c = true) : NeO K (gw K w) c := by
  unfold neoB at h
  simp only [Bool.and_eq_true, beq_iff_eq] at h
  exact ⟨h.1, h.2⟩
def notR (r : Res D) : Res D := match r with
  | .ok (.bl b) s => .ok (.bl (!b)) s
  | _ => .stuck
def eNeO (c : String) (m : List D → Store → Res D) (f g : Ex) : Ex := fun env st => (f env st).bind fun x s1 => (g env s1).bind fun y s2 => if isOf c "__eq__" s2 x = true ∧ eqArg c s2 y = true then notR (m [x, y] s2) else .stuck
section
open PySem.W
variable {prog : Program} {w : World} {A : Around} {E : Value → Shared → Prop} {s : Shared} {K : Frag} {x C L f : Addr} {h₀ : Heap} {m : Str → Option Value} {ox : Obj} {od : Option Obj} {b tb : Value}
theorem ifBound_B {M : Model} {name : Str} {i : String} {args : List Value} {Q : Option Value → Shared → Prop} (X : K.In s.heap) (I : InstAt s.heap x ox C od) (hs : findIn K (.ref C) name = some (some (.builtin i))) (hb : ∀ self, bindSpecial (.builtin i) self = pure (.builtin i, [self]))
    (h : wpAny M A (call (.builtin i) (.ref x :: args)) (fun v => Q (some v)) E s) : wpAny M A (callSpecialIfBound? (.ref x) name args) Q E s := by
  simp only [callSpecialIfBound?, bindSpecialIfBound?]
  refine wpAny_holding (wpAny_bind (wpAny_bind (wpAny_bind (I.type.here ((looks_findIn X hs).here ?_)))))
  refine wpAny_bind (wpAny_askSetting (wpAny_ite ?_))
  have fin : wpAny M A (call (.builtin i) ([.ref x] ++ args) >>= fun v => pure (some v)) Q E s := wpAny_bind (wpAny_mono h (fun v s' h' => wpAny_pure h') fun _ _ h' => h')
  split
  · rw [hb]
    exact wpAny_bind (wpAny_pure (wpAny_pure fin))
  · rw [hb]
    exact wpAny_tryCatch (wpAny_bind (wpAny_pure (wpAny_pure fin)))
theorem cmp_KN {Q : Value → Shared → Prop} (hu : A.units + 1 < cLine) (F : Fr h₀ L s.heap m) (X₀ : K.In h₀) (I : InstAt s.heap x ox C od) (hb : Looks (model prog w) s.heap (typeOf b) tb) (hn : notFirst K C tb = true)
    (hne : findIn K (.ref C) "__ne__" = some (some (.builtin "object.__ne__"))) (hob : subIn K (.ref C) (.type "object") = some true) (hs : findIn K (.ref C) "__eq__" = some (some (.ref f))) (hf : isFn K (.ref f) = true)
    (h : wpAny (model prog w) A.in1 (call (.ref f) [.ref x, b]) (fun v s' => ∃ k, v = .bool k ∧ Q (.bool (!k)) s') E s) : wpAny (model prog w) A (richCompare .NotEq (.ref x) b) Q E s := by
  have X := X₀.keeps F.keep
  have LI : Looks (model prog w) s.heap (isInstance (.ref x) (.type "object")) true := I.type.andThen (looks_subIn X hob)
  have body : wpAny (model prog w) A.in1 (Builtin.«object.__ne__» ⟨[.ref x, b], []⟩) (fun fin s' => ∃ v, fin = .done (.ret v) ∧ ∃ k, v = .bool k ∧ Q (.bool k) s') E s := by
    unfold Builtin.«object.__ne__»
    repeat (first
      | with_reducible refine wpAny_cRoomFor (show A.in1.units < cLine by simpa using hu) ?_
      | (refine wpAny_bind (m := callSpecialIfBound? (.ref x) (Str.ofString "__eq__") [b])
          (ifBound_K X I hs hf (wpAny_mono h (fun r s' hr => by
            obtain ⟨k, rfl, hq⟩ := hr
            repeat (first | exact ⟨_, rfl, _, rfl, hq⟩ | exact wpAny_pure ⟨_, rfl, _, rfl, hq⟩ | (refine wpAny_bind (m := truthy (.bool _)) (wpAny_truthy_bool ?_)) | wp_step)) fun _ _ e => e)))
      | wp_step)
  have one : wpAny (model prog w) A (tryCompare (.ref x) (cmpInfo .NotEq).2.1 b) (fun r s' => ∃ v, r = some v ∧ Q v s') E s := by
    unfold tryCompare
    refine wpAny_bind (ifBound_B X I hne PySem.F.cmp_object.ne.bind (wpAny_call (codeAny_call_builtin PySem.F.cmp_object.ne.plain PySem.F.cmpEntry_ne
      (PySem.W.check_slot (M := model prog w) (i := "object.__ne__") (owner := "object") (n := "__ne__") PySem.F.cmpKind_ne PySem.F.cmpSplit_ne LI (PySem.F.cmpArgs_ne _ _) (wpAny_mono body (fun fin s' hv => ?_) fun _ _ z => z)))))
    obtain ⟨v, rfl, k, rfl, q⟩ := hv
    exact wpAny_pure ⟨_, rfl, q⟩
  unfold richCompare
  simp only [oneThing_ref]
  refine wpAny_holding (wpAny_bind (wpAny_cRoomFor (by omega) ?_))
  refine wpAny_bind (I.type.here (wpAny_bind (hb.here ?_)))
  split
  · rename_i q
    have e : subIn K tb (.ref C) = some false := by
      rcases Bool.or_eq_true_iff.mp hn with e | e
      · rw [beq_iff_eq.mp e] at q; simp at q
      · exact beq_iff_eq.mp e
    refine wpAny_bind ((looks_subIn X e).here ?_)
    simp only [Bool.false_eq_true, if_false]
    refine wpAny_bind (wpAny_mono one (fun r s' z => ?_) fun _ _ e => e)
    obtain ⟨v, rfl, hq⟩ := z
    exact wpAny_pure hq
  · refine wpAny_bind (wpAny_pure ?_)
    simp only [Bool.false_eq_true, if_false]
    refine wpAny_bind (wpAny_mono one (fun r s' z => ?_) fun _ _ e => e)
    obtain ⟨v, rfl, hq⟩ := z
    exact wpAny_pure hq
end
section
variable {X : Cx} {cl : ClW} {W : WX} {k : Nat} {f : Addr} {fd : FuncData} {ps : List Str} {m : List D → Store → Res D} {c : String} {pos : Pos}
theorem ft_neO {a b : Expr} {f' g : Ex} (T : EqO X.K cl c f) (T2 : NeO X.K cl c) (C : CalM X.prog X.w X.K X.mg X.base cl k c "__eq__" f fd ps m) (hr : Rm (k + 1) X) (tk : Takes X W) (hb : KB X.K cl fd ps 2 [] (fun ds _ => ds)) (ha : FE X cl W a f') (hb2 : FE X cl W b g) (hm : behindInMarks .NotEq b = false) :
    FT X cl W (.Compare a [.NotEq] [b] pos) (eNeO c m f' g) := by
  have op : OpR X (compareOp .NotEq) (fun x y H Q => ∃ (as : As) (st : Store) (dx dy : D) (b : Bool) (s3 : Store), Rel X.K cl as H st ∧ isOf c "__eq__" st dx = true ∧ eqArg c st dy = true ∧ Sh X.K cl as H x dx ∧ Sh X.K cl as H y dy ∧ m [dx, dy] st = .ok (.bl b) s3 ∧
      ∀ as' H', Le as H as' H' → Rel X.K cl as' H' s3 → Q (.bl (!b)) H') := by
    intro pins s sg H x y v u Q I rx ry h
    obtain ⟨as, st, dx, dy, bo, s3, r, h1, h2, sx, sy, em, q⟩ := h
    obtain ⟨p, dxx, fv, rfl, hp, hl⟩ := meth_at r h1 sx
    obtain rfl : v = Value.ref p := rx
    obtain ⟨mA, J, _⟩ := ins_get I.hok hp
    obtain ⟨od, J, _⟩ := J.look
    obtain ⟨mm, hF⟩ := I.fr
    show wpAny (model X.prog X.w) X.A (richCompare .NotEq (.ref p) u) (EP X pins sg Q) X.xe s
    have go : ∀ tb, PySem.W.Looks (model X.prog X.w) s.heap (typeOf u) tb → PySem.W.notFirst X.K (cl c) tb = true → wpAny (model X.prog X.w) X.A (richCompare .NotEq (.ref p) u) (EP X pins sg Q) X.xe s := fun tb hb3 hn => by
      refine cmp_KN (tb := tb) (by have := hr.rm.units; omega) hF I.ok.mod.kin J hb3 hn T2.ne T2.ob T.find T.fn ?_
      obtain ⟨xs, hbi, hsh⟩ := hb.to s [.ref p, u] [] I.kIn rfl rfl
      obtain ⟨ys, ry2, sy2, ly⟩ := hsh as H st [.ref p, y] [] [dx, dy] [] r (.cons rfl (.cons ry .nil)) .nil (.cons sx (.cons sy .nil)) .nil
      refine wpAny_call (codeAny_mono (C.G.run X.A.in1 X.stack s H ⟨[.ref p, u], []⟩ xs ys (fun v0 H0 => v0 = .bl bo ∧ Q (.bl (!bo)) H0) (fun _ _ _ => False) hr.gd hr.rm.in1 I.env0.in1 hbi ry2 ⟨as, st, [dx, dy], ly, r, sy2, ?_⟩) fun r' s' hq => ?_)
      · rw [em]
        intro as' H' v0 l' r' x'
        cases x'
        exact ⟨rfl, q as' H' l' r'⟩
      · cases r' with
        | error e => exact pass_tk tk pins sg H s e s' I hq
        | ok fl =>
          cases fl with
          | ret w0 =>
            obtain ⟨z, H', I', rz, ez, qz⟩ := I.after hq
            subst ez
            cases rz
            exact ⟨bo, rfl, .bl (!bo), H', I', rfl, qz⟩
          | next => exact False.elim hq
          | brk => exact False.elim hq
          | cont => exact False.elim hq
    unfold eqArg at h2
    rcases Bool.or_eq_true_iff.mp h2 with h3 | h3
    · obtain ⟨t, et⟩ := Option.isSome_iff_exists.mp h3
      exact go _ (ty_looks I r et sy ry) (T.blt t)
    · cases e4 : insOf st dy with
      | none => rw [e4] at h3; cases h3
      | some pp =>
        obtain ⟨i2, c2, fs2⟩ := pp
        rw [e4] at h3
        have ec : c2 = c := of_decide_eq_true h3
        subst ec
        obtain ⟨_, _, a2, dx2, fv2, rfl, _, hp2, _, _⟩ := ins_at r e4 sy
        obtain rfl : u = Value.ref a2 := ry
        obtain ⟨mB, J2, _⟩ := ins_get I.hok hp2
        obtain ⟨od2, J2, _⟩ := J2.look
        exact go _ J2.type T.own
  exact PT.w (pt_cmpR op ha hb2 hm) fun sg H Q q0 => let ⟨as, st, env, r0, er, q⟩ := tft_tf q0; ⟨as, st, env, r0, er, Wt.bind q fun d s1 as1 H1 v _ l1 r1 x1 q1 => ⟨as1, s1, env, r1, er.up l1, Wt.bind q1 fun d2 s2 as2 H2 w _ l2 r2 x2 q2 => by
    by_cases hi : isOf c "__eq__" s2 d = true ∧ eqArg c s2 d2 = true
    · rw [if_pos hi] at q2
      cases em : m [d, d2] s2 with
      | ok z s3 =>
        rw [em] at q2
        cases z with
        | bl b => exact ⟨as2, s2, d, d2, b, s3, r2, hi.1, hi.2, x1.up l2, x2, em, fun as' H' l' r' => q2 as' H' _ l' r' (.bl (!b))⟩
        | _ => exact q2.elim
      | exn _ _ _ => rw [em] at q2; exact q2.elim
      | stuck => rw [em] at q2; exact q2.elim
    · rw [if_neg hi] at q2
      exact q2.elim⟩⟩
end
end F3

/-! F3, part zk: membership in a list by an own __eq__. -/
namespace F3
open PySem PySem.Spec PyProof.Rows L2
section
open PySem.SeqAt GQ
open AutoSeq1 (wpAny_loadPart')
open MeetsSeq MeetsSeq2 MeetsSeq3 SeqRoads2
variable {prog : Program} {w : World} {A : Around} {R : Result → Shared → Prop} {E : Value → Shared → Prop} {s : Shared}
/-- the list is read anew at each turn -/
def HasI (prog : Program) (w : World) (A : Around) (R : Result → Shared → Prop) (l : Addr) (x : Value) (N : Nat) (I : Nat → Shared → Prop) : Prop :=
  ∀ i s, I i s → ∃ (items : Array Value) (n : Nat) (dd : Option Addr) (sl : Array (Option Value)), s.heap.get? l = some { cls := .type "list", dict := dd, data := .seq items n, slots := sl } ∧ items.size = N ∧
    ∀ (h1 : i < items.size), wpAny (model prog w) A.in1 (eqBool items[i] x) (fun r s' => (r = true ∧ R (.ok (.ret (.bool true))) s') ∨ (r = false ∧ I (i + 1) s')) (fun e s' => R (.error e) s') s
theorem has_loopG (l : Addr) (x : Value) (N : Nat) (I : Nat → Shared → Prop) (hl : HasI prog w A R l x N I) (fin : ∀ s, I N s → R (.ok (.ret (.bool false))) s) (k : Nat) :
    ∀ i : Nat, N - i = k → i ≤ N → ∀ s, I i s → wpAny (model prog w) A.in1 (Builtin.«list.__contains__.loop» ⟨[.ref l, x, rawInt i], []⟩) (FinOf prog w A R) (fun e s' => R (.error e) s') s := by
  induction k with
  | zero =>
    intro i hk hi s h
    obtain ⟨items, n, dd, sl, hl1, hs1, _⟩ := hl _ _ h
    have hi' : i = N := by omega
    have hR : R (.ok (.ret (.bool false))) s := fin s (hi' ▸ h)
    obtain ⟨hp, g, d, tk, os⟩ := s
    wp_walk using wpAny_loadPart' hl1
    have hi1 : items[((i : Nat) : Int).toNat]? = none := by simp; omega
    rw [hi1]
    wp_walk
    exact hR
  | succ k ih =>
    intro i hk hi s h
    obtain ⟨items, n, dd, sl, hl1, hs1, turn⟩ := hl _ _ h
    have hlt : i < items.size := by omega
    have ht := turn hlt
    obtain ⟨hp, g, d, tk, os⟩ := s
    wp_walk using wpAny_loadPart' hl1
    have hi1 : items[((i : Nat) : Int).toNat]? = some items[i] := by simp [hlt]
    have hc : ((i : Int) + 1) = ((i + 1 : Nat) : Int) := by omega
    rw [hi1]
    refine wpAny_bind (wpAny_mono ht (fun r s2 h2 => ?_) fun _ _ x => x)
    rcases h2 with ⟨hr, h2⟩ | ⟨hr, h2⟩
    · subst hr
      obtain ⟨hp2, g2, d2, tk2, os2⟩ := s2
      wp_walk
      exact h2
    · subst hr
      have hrec := ih (i + 1) (by omega) (by omega) s2 h2
      obtain ⟨hp2, g2, d2, tk2, os2⟩ := s2
      wp_walk
      rw [hc]
      exact ⟨plainId_quiet plain_contains_loop _, codeAny_builtin entry_contains_loop (by
        rw [Around.under_plainId plain_contains_loop _]
        exact hrec)⟩
theorem list_hasG (l : Addr) (x : Value) (N : Nat) (I : Nat → Shared → Prop) (hl : HasI prog w A R l x N I) (fin : ∀ s, I N s → R (.ok (.ret (.bool false))) s) {s : Shared} (h : I 0 s) :
    wpAny (model prog w) A.in1 (Builtin.«list.__contains__» ⟨[.ref l, x], []⟩) (FinOf prog w A R) (fun e s' => R (.error e) s') s := by
  obtain ⟨items, n, dd, sl, hl1, hs1, _⟩ := hl _ _ h
  have hrec := has_loopG (A := A) (R := R) l x N I hl fin _ 0 rfl (Nat.zero_le _) s h
  obtain ⟨hp, g, d, tk, os⟩ := s
  wp_walk using wpAny_loadPart' hl1
  exact ⟨plainId_quiet plain_contains_loop _, codeAny_builtin entry_contains_loop (by
    rw [Around.under_plainId plain_contains_loop _]
    exact hrec)⟩
end
section
open PySem.W
variable {prog : Program} {w : World} {A : Around} {E : Value → Shared → Prop} {s : Shared} {K : Frag} {x C L f : Addr} {h₀ : Heap} {m : Str → Option Value} {ox : Obj} {od : Option Obj}
/-- None == an instance: the right one is asked -/
theorem cmp_KR {Q : Value → Shared → Prop} (hu : A.units < cLine) (F : Fr h₀ L s.heap m) (X₀ : K.In h₀) (I : InstAt s.heap x ox C od) (hno : subIn K (.ref C) (.type "NoneType") = some false)
    (hs : findIn K (.ref C) "__eq__" = some (some (.ref f))) (hf : isFn K (.ref f) = true)
    (h : wpAny (model prog w) A (call (.ref f) [.ref x, .none]) (PySem.W.CmpBack Q) E s) : wpAny (model prog w) A (richCompare .Eq .none (.ref x)) Q E s := by
  have X := X₀.keeps F.keep
  have hT : s.TypeIs .none "NoneType" := rfl
  have one : wpAny (model prog w) A (tryCompare (.ref x) (cmpInfo .Eq).2.2 .none) (fun r s' => ∃ v, r = some v ∧ Q v s') E s := by
    unfold tryCompare
    refine wpAny_bind (ifBound_K X I hs hf (wpAny_mono h (fun v s' hv => ?_) fun _ _ e => e))
    cases v <;> first | exact hv.elim | exact wpAny_pure ⟨_, rfl, hv⟩
  simp only [richCompare, cmpInfo_Eq, hT.oneThing_none]
  try with_reducible refine wpAny_holding ?_
  refine wpAny_bind (wpAny_cRoomFor hu ?_)
  refine wpAny_bind (wpAny_typeOf hT (wpAny_bind (I.type.here ?_)))
  have hne : (Value.type "NoneType" != Value.ref C) = true := by simp
  simp only [hne, if_true]
  refine wpAny_bind ((looks_subIn X hno).here ?_)
  simp only [Bool.false_eq_true, if_false, Bool.not_false, if_true]
  refine wpAny_bind (m := tryCompare .none _ (.ref x)) (wpAny_tryCompare_declines hT PySem.F.slot_NoneType_eq (call_gives PySem.F.slot_NoneType_eq hT PySem.F.entry_NoneType_eq (PySem.F.args_NoneType_eq_2 _ _) (SeqAt.NoneType___eq___none_ref_0 x) ⟨rfl, ?_⟩))
  refine wpAny_bind (wpAny_mono one (fun r s' z => ?_) fun _ _ e => e)
  obtain ⟨v, rfl, hq⟩ := z
  exact wpAny_pure hq
end
section
variable {X : Cx} {cl : ClW} {W : WX} {k : Nat} {f : Addr} {fd : FuncData} {ps : List Str} {m : List D → Store → Res D} {c : String} {pos : Pos}
theorem own_call (C : CalM X.prog X.w X.K X.mg X.base cl k c "__eq__" f fd ps m) (hr : Rm (k + 1) X) (tk : Takes X W) (hb : KB X.K cl fd ps 2 [] (fun ds _ => ds)) {pins : List (Addr × Obj)} {s : Shared} {sg : L2.St} {H : Hp} {as : As} {st s3 : Store} {p : Addr} {y : V} {u : Value} {dx dy : D} {bo : Bool}
    (I : L2.Inv X pins sg H s) (r : Rel X.K cl as H st) (sx : Sh X.K cl as H (.ref p) dx) (sy : Sh X.K cl as H y dy) (ry : RelV y u) (em : m [dx, dy] st = .ok (.bl bo) s3) {R : Value → Shared → Prop}
    (hR : ∀ H' s', L2.Inv X pins sg H' s' → (∃ as', Le as H as' H' ∧ Rel X.K cl as' H' s3) → R (.bool bo) s') : wpAny (model X.prog X.w) X.A.in1 (call (.ref f) [.ref p, u]) R X.xe s := by
  obtain ⟨xs, hbi, hsh⟩ := hb.to s [.ref p, u] [] I.kIn rfl rfl
  obtain ⟨ys, ry2, sy2, ly⟩ := hsh as H st [.ref p, y] [] [dx, dy] [] r (.cons rfl (.cons ry .nil)) .nil (.cons sx (.cons sy .nil)) .nil
  refine wpAny_call (codeAny_mono (C.G.run X.A.in1 X.stack s H ⟨[.ref p, u], []⟩ xs ys (fun v0 H0 => v0 = .bl bo ∧ ∃ as', Le as H as' H0 ∧ Rel X.K cl as' H0 s3) (fun _ _ _ => False) hr.gd hr.rm.in1 I.env0.in1 hbi ry2 ⟨as, st, [dx, dy], ly, r, sy2, ?_⟩) fun r' s' hq => ?_)
  · rw [em]
    intro as' H' v0 l' r' x'
    cases x'
    exact ⟨rfl, as', l', r'⟩
  · cases r' with
    | error e => exact pass_tk tk pins sg H s e s' I hq
    | ok fl =>
      cases fl with
      | ret w0 =>
        obtain ⟨z, H', I', rz, ez, qz⟩ := I.after hq
        subst ez
        cases rz
        exact hR H' s' I' qz
      | next => exact False.elim hq
      | brk => exact False.elim hq
      | cont => exact False.elim hq
variable {a b : Expr} {f' g : Ex}
end
end F3

/-! F3, part zl: == where a cell holds cells. -/
namespace F3
open PySem PySem.Spec PyProof.Rows L2

section
variable {K : PySem.W.Frag} {cl : ClW} {as : As} {H : Hp} {st : Store}
end
end F3

/-! F3, part zm: exceptions over KeyError: made by its base's __new__, begun by its own __init__. -/
namespace F3
open PySem PySem.Spec PyProof.Rows L2

section
variable {M : Model} {A : Around} {E : Value → Shared → Prop} {hp : Heap} {gs : Array GenState} {dr : Drawn} {tk : Nat} {os : OsState}
variable {nm qn : Str} {C N : Addr} {bs bm : List Value} {hd : Bool} {sn : List Str} {sub : List Value} {ab : Bool} {col : Option Bool} {dd : Option Addr} {k0 k1 k2 k3 k5 : Option Value} {newId ini K1 K2 : String}
end
section
variable {prog : Program} {w : World} {A : Around} {E : Value → Shared → Prop} {R : Result → Shared → Prop} {hp : Heap} {gs : Array GenState} {dr : Drawn} {tk : Nat} {os : OsState}
variable {nm qn : Str} {C N : Addr} {bs bm : List Value} {hd : Bool} {sn : List Str} {sub : List Value} {ab : Bool} {col : Option Bool} {dd : Option Addr} {k0 k1 k2 k3 k5 : Option Value} {newId ini : String}
end
end F3

/-! F3, part zn: list.extend, list.reverse, dict.update. -/
namespace F3
open PySem PySem.Spec PyProof.Rows L2
section
variable {X : Cx}
end
section
variable {K : PySem.W.Frag} {cl : ClW} {as : As} {H : Hp} {st : Store}
end
/-! ### d.update(e) -/
section
variable {K : PySem.W.Frag} {cl : ClW} {as : As} {H : Hp} {st : Store}
end
end F3

/-! F3, part zo: a dict is in no list of texts. -/
namespace F3
open PySem PySem.Spec PyProof.Rows L2
section
open PySem.SeqAt GQ
open AutoSeq1 (wpAny_loadPart')
open MeetsSeq MeetsSeq2 MeetsSeq3 SeqRoads2
variable {prog : Program} {w : World} {A : Around} {R : Result → Shared → Prop} {E : Value → Shared → Prop} {s : Shared}
theorem in_listG {l : Addr} {x : Value} {N : Nat} {Q : Value → Shared → Prop} (I : Nat → Shared → Prop) (hl : HasI prog w A (wants (fun v s' => ∃ b, v = .bool b ∧ Q (.bool b) s') E) l x N I) (fin : ∀ s, I N s → Q (.bool false) s) (h : I 0 s) :
    wpAny (model prog w) A (compareOp .In x (.ref l)) Q E s := by
  obtain ⟨items, n, dd, sl, hl1, _, _⟩ := hl _ _ h
  have hT : s.TypeIs (.ref l) "list" := ⟨_, hl1, rfl⟩
  show wpAny _ A (do return .bool (← contains (.ref l) x)) Q E s
  refine wpAny_bind (wpAny_contains_slot hT PySem.F.slot_list_contains (wpAny_mono (call_here PySem.F.slot_list_contains hT PySem.F.entry_list_contains (PySem.F.args_list_contains_2 _ _) (list_hasG (R := wants (fun v s' => ∃ b, v = .bool b ∧ Q (.bool b) s') E) l x N I hl (fun s' q => ⟨false, rfl, fin s' q⟩) h)) (fun v s' hv => ?_) fun _ _ e => e))
  obtain ⟨b, rfl, hq⟩ := hv
  exact wpAny_truthy_bool (wpAny_pure hq)
end
section
variable {X : Cx}
end
section
variable {K : PySem.W.Frag} {cl : ClW} {as : As} {H : Hp} {st : Store}
end
end F3

/-! F3, part zp: zip of two lists. -/
namespace F3
open PySem PySem.Spec PyProof.Rows L2
section
variable {X : Cx} {cl : ClW} {W : WX} {pos : Pos}
end
end F3

/-! F3, part zq: a, b, *rest = a tuple. -/
namespace F3
open PySem PySem.Spec PyProof.Rows L2
section
variable {X : Cx} {pos : Pos}
end
section
variable {X : Cx} {cl : ClW} {W : WX} {pos : Pos}
end
end F3

/-! F3, part zr: .get of a dict that the module's top made. -/
namespace F3
open PySem PySem.Spec PyProof.Rows L2
/-- entries: a text, its hash in this world, an int -/
inductive Ents (w : World) : List DictEntry → List (Str × Int) → Prop
  | nil : Ents w [] []
  | cons {e : DictEntry} {k : Str} {i : Int} {t t2 : Tok} {es : List DictEntry} {kvs : List (Str × Int)} : e.key = .str k t → e.hash = keyH w (.inr k) → e.val = .int i t2 → Ents w es kvs → Ents w (e :: es) ((k, i) :: kvs)
def lookK (kvs : List (Str × Int)) (x : Str) : Option Int := (kvs.find? fun p => decide (p.1 = x)).map (·.2)
theorem Ents.pairs (P : Program) {w : World} : ∀ {es : List DictEntry} {kvs : List (Str × Int)}, Ents w es kvs → ∃ vs : List (Key × Value), Pairs (mixKind P w) es vs ∧ vs.map (·.1) = kvs.map (fun p => Sum.inr p.1) ∧ (∀ e ∈ es, ∃ k, (mixKind P w).is k e.key = true ∧ e.hash = (mixKind P w).hash k) ∧ ∀ x : Str, (∃ i t, lookK kvs x = some i ∧ valueAt vs (Sum.inr x : Key) = some (.int i t)) ∨ (lookK kvs x = none ∧ valueAt vs (Sum.inr x : Key) = none) := by
  intro es kvs h
  induction h with
  | nil => exact ⟨[], .nil, rfl, fun _ h => (by cases h), fun x => .inr ⟨rfl, rfl⟩⟩
  | @cons e k i t t2 es kvs h1 h2 h3 h ih =>
    obtain ⟨vs, a1, a2, a3, a4⟩ := ih
    have hk : (mixKind P w).is (Sum.inr k) e.key = true := by
      rw [h1]
      show Value.isStrOf k (.str k t) = true
      simp [Value.isStrOf]
    refine ⟨(Sum.inr k, .int i t2) :: vs, .cons hk h3 a1, by rw [List.map_cons, List.map_cons, a2], fun e' he => ?_, fun x => ?_⟩
    · rcases List.mem_cons.mp he with rfl | he
      · exact ⟨Sum.inr k, hk, h2⟩
      · exact a3 e' he
    · by_cases hx : k = x
      · subst hx
        exact .inl ⟨i, t2, by simp [lookK], by simp [valueAt]⟩
      · have e1 : valueAt ((Sum.inr k, Value.int i t2) :: vs) (Sum.inr x : Key) = valueAt vs (Sum.inr x) := by simp [valueAt, hx]
        have e2 : lookK ((k, i) :: kvs) x = lookK kvs x := by simp [lookK, hx]
        rw [e1, e2]
        exact a4 x
section
variable {X : Cx} {o e : Expr} {apos cpos : Pos} {ty : TE}
end
section
variable {X : Cx} {cl : ClW} {W : WX} {o e : Expr} {apos cpos : Pos} {fi : Ex}
end
end F3

/-! F3, part zs: a head with dicts of the module's top. -/
namespace F3
open PySem PySem.Spec PyProof.Rows L2
/-! ### a world by one of its habits -/
/-! ### the hook, any result -/
section
variable {R : Type}
end
/-! ### dicts, looked at -/
/-! ### the hook -/
end F3

/-! F3, part zt: texts by order. -/
namespace F3
open PySem PySem.Spec PyProof.Rows L2
def leSD : O2 := fun x y st => match x, y with
  | .str i, .str j => some (.bl (!decide (j.cps.toList < i.cps.toList)), st)
  | _, _ => none
section
variable {K : PySem.W.Frag} {cl : ClW}
theorem ok_leS : Ok2 K cl (fun x y H Q => ∃ i j, x = .str i ∧ y = .str j ∧ Q (.bl (!decide (j.cps.toList < i.cps.toList))) H) leSD := by
  intro as H st x y v w d st' Q r e s1 s2 af
  unfold leSD at e
  split at e
  · cases e
    cases s1
    cases s2
    exact ⟨_, _, rfl, rfl, af as H _ Le.refl r (.bl _)⟩
  · cases e
end
end F3

/-! F3, part zu: enumerate over a text. -/
namespace F3
open PySem PySem.Spec PyProof.Rows L2
section
variable {X : Cx} {cl : ClW} {W : WX} {pos : Pos}
end
end F3

/-! F3, part zv: an exception of a class without an own __init__, made as a value. -/
namespace F3
open PySem PySem.Spec PyProof.Rows L2

section
variable {X : Cx} {cl : ClW} {W : WX} {x : String} {e : Expr} {f : Ex} {p pos : Pos}
end
end F3

/-! F3, part zw: str and repr by an own __str__ and __repr__; `in` by an own __eq__ among things of any kind. -/
namespace F3
open PySem PySem.Spec PyProof.Rows L2

/-! ### str(o), repr(o) -/
section
variable {X : Cx} {cl : ClW} {W : WX} {k : Nat} {f : Addr} {fd : FuncData} {ps : List Str} {m : List D → Store → Res D} {c mn : String} {p pos : Pos} {e : Expr}
end

/-! ### in, by an own __eq__ -/
structure NoA (K : PySem.W.Frag) (cl : ClW) (c : String) : Prop where
  no : ∀ t : Ty, PySem.W.subIn K (.ref (cl c)) (.type t.nm) = some false
theorem noa_of {w : World} {K : PySem.W.Frag} {c : String} (h : noaB K c = true) : NoA K (gw K w) c := ⟨fun t => by
  unfold noaB at h
  exact beq_iff_eq.mp (List.all_eq_true.mp h t (by cases t <;> decide))⟩
section
open PySem.W
open AutoSeq1 (wpAny_loadPart')
variable {prog : Program} {w : World} {A : Around} {E : Value → Shared → Prop} {s : Shared} {K : Frag} {x C L f l : Addr} {h₀ : Heap} {m : Str → Option Value} {ox : Obj} {od : Option Obj} {Q : Value → Shared → Prop}
/-- a thing of a built-in type == an instance: the right one is asked -/
theorem cmp_KT {T id : String} {a : Value} (hu : A.units < cLine) (F : Fr h₀ L s.heap m) (X₀ : K.In h₀) (I : InstAt s.heap x ox C od) (hT : s.TypeIs a T) (slot : Slot T (cmpInfo .Eq).2.1 id) (hno : subIn K (.ref C) (.type T) = some false)
    (hd : ∀ Q' : Value → Shared → Prop, Q' .notImplemented s → wpAny (model prog w) A (call (.builtin id) [a, .ref x]) Q' E s)
    (hs : findIn K (.ref C) "__eq__" = some (some (.ref f))) (hf : isFn K (.ref f) = true)
    (h : wpAny (model prog w) A (call (.ref f) [.ref x, a]) (PySem.W.CmpBack Q) E s) : wpAny (model prog w) A (richCompare .Eq a (.ref x)) Q E s := by
  have X := X₀.keeps F.keep
  have one : wpAny (model prog w) A (tryCompare (.ref x) (cmpInfo .Eq).2.2 a) (fun r s' => ∃ v, r = some v ∧ Q v s') E s := by
    unfold tryCompare
    refine wpAny_bind (ifBound_K X I hs hf (wpAny_mono h (fun v s' hv => ?_) fun _ _ e => e))
    cases v <;> first | exact hv.elim | exact wpAny_pure ⟨_, rfl, hv⟩
  simp only [richCompare, cmpInfo_Eq, hT.oneThing_none]
  try with_reducible refine wpAny_holding ?_
  refine wpAny_bind (wpAny_cRoomFor hu ?_)
  refine wpAny_bind (wpAny_typeOf hT (wpAny_bind (I.type.here ?_)))
  have hne : (Value.type T != Value.ref C) = true := by simp
  simp only [hne, if_true]
  refine wpAny_bind ((looks_subIn X hno).here ?_)
  simp only [Bool.false_eq_true, if_false, Bool.not_false, if_true]
  refine wpAny_bind (m := tryCompare a _ (.ref x)) (wpAny_tryCompare_declines hT slot (hd _ ⟨rfl, ?_⟩))
  refine wpAny_bind (wpAny_mono one (fun r s' z => ?_) fun _ _ e => e)
  obtain ⟨v, rfl, hq⟩ := z
  exact wpAny_pure hq
open GQ in
theorem decl_list {its : Array Value} (X : K.In s.heap) (I : InstAt s.heap x ox C od) (hl : s.heap.IsList l its) (hno : subIn K (.ref C) (.type "list") = some false) (q : Q .notImplemented s) : wpAny (model prog w) A (call (.builtin "list.__eq__") [.ref l, .ref x]) Q E s := by
  obtain ⟨⟨cls, dd, data, sl⟩, ho, hc, n, hd⟩ := hl
  simp only at hc hd
  subst hc hd
  have L : Looks (model prog w) s.heap (isInstance (.ref x) (.type "list")) false := I.type.andThen (looks_subIn X hno)
  refine call_here PySem.F.slot_list_eq ⟨_, ho, rfl⟩ PySem.F.entry_list_eq (PySem.F.args_list_eq_2 _ _) ?_
  unfold Builtin.«list.__eq__»
  repeat (first | with_reducible refine L.at ?_ | with_reducible refine L.here ?_ | wp_step)
  exact q
open GQ in
theorem decl_tuple {its : Array Value} (X : K.In s.heap) (I : InstAt s.heap x ox C od) (hl : IsTup s.heap l its) (hno : subIn K (.ref C) (.type "tuple") = some false) (q : Q .notImplemented s) : wpAny (model prog w) A (call (.builtin "tuple.__eq__") [.ref l, .ref x]) Q E s := by
  obtain ⟨o, ho, hc, n, hd⟩ := hl
  have L : Looks (model prog w) s.heap (isInstance (.ref x) (.type "tuple")) false := I.type.andThen (looks_subIn X hno)
  refine call_here PySem.F.slot_tuple_eq ⟨_, ho, hc⟩ PySem.F.entry_tuple_eq (PySem.F.args_tuple_eq_2 _ _) ?_
  unfold Builtin.«tuple.__eq__»
  repeat (first | with_reducible refine L.at ?_ | with_reducible refine L.here ?_ | wp_step)
  exact q
open GQ in
theorem decl_int {a : Int} {t : Tok} (I : InstAt s.heap x ox C od) (hd : ox.data = .plain) (q : Q .notImplemented s) : wpAny (model prog w) A (call (.builtin "int.__eq__") [.int a t, .ref x]) Q E s := by
  have hx := I.at_
  refine call_here PySem.F.slot_int_eq (by exact rfl) PySem.F.entry_int_eq (PySem.F.args_int_eq_2 _ _) ?_
  obtain ⟨cls, dd, data, sl⟩ := ox
  simp only at hd
  subst hd
  unfold Builtin.«int.__eq__»
  obtain ⟨hp, g, d, tk, os⟩ := s
  wp_walk using wpAny_loadPart' hx, wpAny_load hx
  exact q
open GQ in
theorem decl_str {a : Str} {t : Tok} (I : InstAt s.heap x ox C od) (hd : ox.data = .plain) (q : Q .notImplemented s) : wpAny (model prog w) A (call (.builtin "str.__eq__") [.str a t, .ref x]) Q E s := by
  have hx := I.at_
  refine call_here PySem.F.slot_str_eq (typeIs_str _ _ _) PySem.F.entry_str_eq (PySem.F.args_str_eq_2 _ _) ?_
  obtain ⟨cls, dd, data, sl⟩ := ox
  simp only at hd
  subst hd
  unfold Builtin.«str.__eq__»
  obtain ⟨hp, g, d, tk, os⟩ := s
  wp_walk using wpAny_loadPart' hx, wpAny_load hx
  exact q
open GQ in
theorem decl_bool {b : Bool} (I : InstAt s.heap x ox C od) (hd : ox.data = .plain) (q : Q .notImplemented s) : wpAny (model prog w) A (call (.builtin "int.__eq__") [.bool b, .ref x]) Q E s := by
  have hx := I.at_
  refine call_here PySem.F.slot_bool_eq (by exact rfl) PySem.F.entry_int_eq (PySem.F.args_int_eq_2 _ _) ?_
  obtain ⟨cls, dd, data, sl⟩ := ox
  simp only at hd
  subst hd
  unfold Builtin.«int.__eq__»
  obtain ⟨hp, g, d, tk, os⟩ := s
  wp_walk using wpAny_loadPart' hx, wpAny_load hx
  exact q
open GQ in
theorem decl_dict {o : Obj} {es : Array DictEntry} {n : Nat} (X : K.In s.heap) (I : InstAt s.heap x ox C od) (ho : s.heap.get? l = some o) (hc : o.cls = .type "dict") (hd : o.data = .dict es n) (hno : subIn K (.ref C) (.type "dict") = some false) (q : Q .notImplemented s) : wpAny (model prog w) A (call (.builtin "dict.__eq__") [.ref l, .ref x]) Q E s := by
  have L : Looks (model prog w) s.heap (isInstance (.ref x) (.type "dict")) false := I.type.andThen (looks_subIn X hno)
  refine call_here PySem.F.slot_dict_eq ⟨_, ho, hc⟩ PySem.F.entry_dict_eq (PySem.F.args_dict_eq_2 _ _) ?_
  unfold Builtin.«dict.__eq__»
  repeat (first | with_reducible refine L.at ?_ | with_reducible refine L.here ?_ | wp_step)
  exact q
end

/-- one item asked -/
def itA (c : String) (m : List D → Store → Res D) (x d : D) (st : Store) : Res D := match d with
  | .ref i => (match x with
    | .ref j => if i = j then .ok (.bl true) st else if isOf c "__eq__" st (.ref i) = true then m [.ref i, x] st else .stuck
    | _ => .stuck)
  | .non => m [x, .non] st
  | .bl b => m [x, .bl b] st
  | .int i => m [x, .int i] st
  | .str z => m [x, .str z] st
  | .tup ds => m [x, .tup ds] st
  | .lst ds => m [x, .lst ds] st
  | .dct ds => m [x, .dct ds] st
  | _ => .stuck
def hasN (c : String) (m : List D → Store → Res D) (x y : D) (n : Nat) : Nat → Store → Res D
  | 0, st => (match listD st y with
    | some ds => if ds.length = n then .ok (.bl false) st else .stuck
    | none => .stuck)
  | k + 1, st => match listD st y with
    | some ds => if ds.length = n ∧ isOf c "__eq__" st x = true then (match ds[n - (k + 1)]? with
      | some d => (match itA c m x d st with
        | .ok (.bl true) s => .ok (.bl true) s
        | .ok (.bl false) s => hasN c m x y n k s
        | _ => .stuck)
      | none => .stuck) else .stuck
    | none => .stuck
def inR (c : String) (m : List D → Store → Res D) (x y : D) (s : Store) : Res D := match listD s y with
  | some ds => hasN c m x y ds.length ds.length s
  | none => .stuck
def eInA (c : String) (m : List D → Store → Res D) (f g : Ex) : Ex := fun env st => (f env st).bind fun x s1 => (g env s1).bind fun y s2 => if isOf c "__eq__" s2 x = true then boolR (inR c m x y s2) else .stuck
section
variable {X : Cx} {cl : ClW} {W : WX} {k : Nat} {f : Addr} {fd : FuncData} {ps : List Str} {m : List D → Store → Res D} {c : String} {pos : Pos}
theorem item_eqA (T : EqO X.K cl c f) (T3 : NoA X.K cl c) (C : CalM X.prog X.w X.K X.mg X.base cl k c "__eq__" f fd ps m) (hr : Rm (k + 1) X) (tk : Takes X W) (hb : KB X.K cl fd ps 2 [] (fun ds _ => ds))
    {pins : List (Addr × Obj)} {s : Shared} {sg : L2.St} {H : Hp} {as : As} {st s3 : Store} {x y : V} {v u : Value} {dx d : D} {bo : Bool}
    (I : L2.Inv X pins sg H s) (r : Rel X.K cl as H st) (h1 : isOf c "__eq__" st dx = true) (sx : Sh X.K cl as H x dx) (sy : Sh X.K cl as H y d) (rx : RelV x v) (ry : RelV y u) (em : itA c m dx d st = .ok (.bl bo) s3) {R : Bool → Shared → Prop}
    (hR : ∀ H' s', L2.Inv X pins sg H' s' → (∃ as', Le as H as' H' ∧ Rel X.K cl as' H' s3) → R bo s') : wpAny (model X.prog X.w) X.A.in1 (eqBool u v) R X.xe s := by
  obtain ⟨p, dxx, fv, rfl, hp, hl⟩ := meth_at r h1 sx
  obtain rfl : v = Value.ref p := rx
  obtain ⟨mA, J, _⟩ := ins_get I.hok hp
  obtain ⟨od, J, _⟩ := J.look
  obtain ⟨mm, hF⟩ := I.fr
  have hu := hr.rm.in1.units0
  have ne : ∀ {a : Addr} {o : Obj} {t : String}, s.heap.get? a = some o → o.cls = .type t → a ≠ p := fun {a o t} h2 h3 z => by
    rw [z, J.at_] at h2
    cases h2
    cases h3
  unfold itA at em
  cases d with
  | non =>
    have sn := sy
    cases sy
    obtain rfl : u = Value.none := ry
    dsimp only at em
    unfold eqBool
    refine wpAny_holding ?_
    refine wpAny_ite_split (fun hab => absurd (eq_of_beq hab) nofun) (fun _ => ?_)
    refine wpAny_bind (cmp_KR hu hF I.ok.mod.kin J (T3.no .non) T.find T.fn (own_call C hr tk hb I r sx sn rfl em fun H' s' I' q => ?_))
    exact wpAny_truthy_bool (hR H' s' I' q)
  | bl b =>
    have sn := sy
    cases sy
    obtain rfl : u = Value.bool b := ry
    dsimp only at em
    unfold eqBool
    refine wpAny_holding ?_
    refine wpAny_ite_split (fun hab => absurd (eq_of_beq hab) nofun) (fun _ => ?_)
    refine wpAny_bind (cmp_KT (T := "bool") hu hF I.ok.mod.kin J (by exact rfl) PySem.F.slot_bool_eq (T3.no .bl) (fun Q' h => decl_bool J rfl h) T.find T.fn (own_call C hr tk hb I r sx sn rfl em fun H' s' I' q => ?_))
    exact wpAny_truthy_bool (hR H' s' I' q)
  | int i =>
    have sn := sy
    cases sy
    have ry' := ry
    obtain ⟨t, rfl⟩ : ∃ t, u = Value.int i t := ry
    dsimp only at em
    unfold eqBool
    refine wpAny_holding ?_
    refine wpAny_ite_split (fun hab => absurd (eq_of_beq hab) nofun) (fun _ => ?_)
    refine wpAny_bind (cmp_KT (T := "int") hu hF I.ok.mod.kin J (by exact rfl) PySem.F.slot_int_eq (T3.no .int) (fun Q' h => decl_int J rfl h) T.find T.fn (own_call C hr tk hb I r sx sn ry' em fun H' s' I' q => ?_))
    exact wpAny_truthy_bool (hR H' s' I' q)
  | str z =>
    have sn := sy
    cases sy
    have ry' := ry
    obtain ⟨t, rfl⟩ : ∃ t, u = Value.str z t := ry
    dsimp only at em
    unfold eqBool
    refine wpAny_holding ?_
    refine wpAny_ite_split (fun hab => absurd (eq_of_beq hab) nofun) (fun _ => ?_)
    refine wpAny_bind (cmp_KT (T := "str") hu hF I.ok.mod.kin J (typeIs_str _ _ _) PySem.F.slot_str_eq (T3.no .str) (fun Q' h => decl_str J rfl h) T.find T.fn (own_call C hr tk hb I r sx sn ry' em fun H' s' I' q => ?_))
    exact wpAny_truthy_bool (hR H' s' I' q)
  | tup ds =>
    have sn := sy
    cases sy with
    | tup hs ha =>
      obtain rfl := (show u = Value.ref _ from ry)
      dsimp only at em
      obtain ⟨its, _, ht, _⟩ := I.tuple hs.sq
      obtain ⟨o, ho, hc, _⟩ := id ht
      refine GQ.eqBool_refG (ne ho hc) (cmp_KT (T := "tuple") hu hF I.ok.mod.kin J ⟨_, ho, hc⟩ PySem.F.slot_tuple_eq (T3.no .tup) (fun Q' h => decl_tuple I.kIn J ht (T3.no .tup) h) T.find T.fn (own_call C hr tk hb I r sx sn rfl em fun H' s' I' q => ?_))
      exact ⟨bo, rfl, hR H' s' I' q⟩
  | lst ds =>
    have sn := sy
    cases sy with
    | lst hs ha =>
      obtain rfl := (show u = Value.ref _ from ry)
      dsimp only at em
      obtain ⟨its, _, ht, _⟩ := I.list hs.sq
      have ht := ht.isList
      obtain ⟨o, ho, hc, _⟩ := id ht
      refine GQ.eqBool_refG (ne ho hc) (cmp_KT (T := "list") hu hF I.ok.mod.kin J ⟨_, ho, hc⟩ PySem.F.slot_list_eq (T3.no .lst) (fun Q' h => decl_list I.kIn J ht (T3.no .lst) h) T.find T.fn (own_call C hr tk hb I r sx sn rfl em fun H' s' I' q => ?_))
      exact ⟨bo, rfl, hR H' s' I' q⟩
  | dct kvs =>
    have sn := sy
    cases sy with
    | dct hn ha _ _ =>
      obtain rfl := (show u = Value.ref _ from ry)
      dsimp only at em
      obtain ⟨_, _, vs, _, hd2⟩ := (show ObjOk X.prog X.w H s.heap _ (.dK _) from I.hok _ _ ha)
      obtain ⟨o, es, ep, ho, hx, hd, _⟩ := id hd2
      refine GQ.eqBool_refG (ne ho hx.1) (cmp_KT (T := "dict") hu hF I.ok.mod.kin J ⟨_, ho, hx.1⟩ PySem.F.slot_dict_eq (T3.no .dct) (fun Q' h => decl_dict I.kIn J ho hx.1 hd (T3.no .dct) h) T.find T.fn (own_call C hr tk hb I r sx sn rfl em fun H' s' I' q => ?_))
      exact ⟨bo, rfl, hR H' s' I' q⟩
  | ref i =>
    cases dx with
    | ref j =>
      dsimp only at em
      by_cases hij : i = j
      · rw [if_pos hij] at em
        cases em
        subst hij
        obtain rfl : y = .ref p := by
          cases sx with
          | ref e1 =>
            cases sy with
            | ref e2 => rw [e1] at e2; cases e2; rfl
        obtain rfl : u = Value.ref p := ry
        unfold eqBool
        refine wpAny_holding ?_
        refine wpAny_ite_split (fun _ => ?_) (fun z => ?_)
        · exact wpAny_pure (M := model X.prog X.w) (E := X.xe) (hR H s I ⟨as, Le.refl, r⟩)
        · exact absurd (beq_self_eq_true _) z
      · rw [if_neg hij] at em
        split at em
        · rename_i h2
          obtain ⟨p2, dx2, fv2, rfl, hp2, hl2⟩ := meth_at r h2 sy
          obtain rfl : u = Value.ref p2 := ry
          obtain ⟨mB, J2, _⟩ := ins_get I.hok hp2
          obtain ⟨od2, J2, _⟩ := J2.look
          have np : p2 ≠ p := by
            intro z
            subst z
            cases sx with
            | ref e1 =>
              cases sy with
              | ref e2 => exact hij (F3.getElem?_inj r.nd e2 e1)
          refine GQ.eqBool_refG np (PySem.W.cmp_K (op := .Eq) (tb := .ref (cl c)) hu hF I.ok.mod.kin J2 J.type T.own T.find T.fn (own_call C hr tk hb I r sy sx rfl em fun H' s' I' q => ?_))
          exact ⟨bo, rfl, hR H' s' I' q⟩
        · cases em
    | _ => cases em
  | _ => cases em

theorem listD_re {as : As} {H : Hp} {st : Store} {y : D} {vy : V} {ds : List D} (r : Rel X.K cl as H st) (h : listD st y = some ds) (sy : Sh X.K cl as H vy y) {pins : List (Addr × Obj)} {s : Shared} {sg : L2.St} (I : L2.Inv X pins sg H s) :
    ∃ (a : Addr) (items : Array Value) (n : Nat) (dd : Option Addr) (sl : Array (Option Value)), vy = .ref a ∧ s.heap.get? a = some { cls := .type "list", dict := dd, data := .seq items n, slots := sl } ∧ items.size = ds.length ∧ ∀ (i : Nat) (h1 : i < items.size) (h2 : i < ds.length), ∃ vv, Sh X.K cl as H vv ds[i] ∧ RelV vv items[i] := by
  obtain ⟨a, xs, rfl, hq, hx⟩ := listD_sq r h sy
  obtain ⟨its, rv, pl, hz⟩ := I.list hq
  obtain ⟨⟨cls, dd, data, sl⟩, ho, hc, n, hd⟩ := id pl.isList
  simp only at hc hd
  subst hc hd
  have e0 : its.toArray.size = ds.length := by rw [List.size_toArray, ← rv.length, hx.length]
  refine ⟨a, its.toArray, n, dd, sl, rfl, ho, e0, fun i h1 h2 => ?_⟩
  obtain ⟨vv, e1, e2⟩ := hx.get (List.getElem?_eq_getElem h2)
  have hi2 : i < its.length := by rw [List.size_toArray] at e0; omega
  refine ⟨vv, e2, ?_⟩
  obtain ⟨u', g1, g2⟩ := rv.get e1
  have : its.toArray[i] = u' := by
    rw [List.getElem_toArray]
    rw [List.getElem?_eq_getElem hi2] at g1
    exact Option.some.inj g1
  rw [this]; exact g2
/-- what holds ahead of the i-th item -/
def InI (X : Cx) (cl : ClW) (c : String) (m : List D → Store → Res D) (pins : List (Addr × Obj)) (sg : L2.St) (as : As) (H : Hp) (dx dy : D) (N : Nat) (b : Bool) (s3 : Store) (i : Nat) (s' : Shared) : Prop :=
  i ≤ N ∧ ∃ (as' : As) (H' : Hp) (st' : Store), L2.Inv X pins sg H' s' ∧ Le as H as' H' ∧ Rel X.K cl as' H' st' ∧ hasN c m dx dy N (N - i) st' = .ok (.bl b) s3
theorem has_A (T : EqO X.K cl c f) (T3 : NoA X.K cl c) (C : CalM X.prog X.w X.K X.mg X.base cl k c "__eq__" f fd ps m) (hr : Rm (k + 1) X) (tk : Takes X W) (hb : KB X.K cl fd ps 2 [] (fun ds _ => ds))
    {pins : List (Addr × Obj)} {s : Shared} {sg : L2.St} {H : Hp} {as : As} {st s3 : Store} {x y : V} {v u : Value} {dx dy : D} {ds : List D} {b : Bool} {QQ : Value → Shared → Prop}
    (I : L2.Inv X pins sg H s) (r : Rel X.K cl as H st) (sx : Sh X.K cl as H x dx) (sy : Sh X.K cl as H y dy) (rx : RelV x v) (ry : RelV y u) (hd : listD st dy = some ds) (em : hasN c m dx dy ds.length ds.length st = .ok (.bl b) s3)
    (q : ∀ s' H' as', L2.Inv X pins sg H' s' → Le as H as' H' → Rel X.K cl as' H' s3 → QQ (.bool b) s') :
    ∃ a, u = .ref a ∧ HasI X.prog X.w X.A (wants QQ X.xe) a v ds.length (InI X cl c m pins sg as H dx dy ds.length b s3) ∧ (∀ s, InI X cl c m pins sg as H dx dy ds.length b s3 ds.length s → QQ (.bool b) s ∧ b = false) ∧ InI X cl c m pins sg as H dx dy ds.length b s3 0 s := by
  obtain ⟨a, items, n, dd, sl, rfl, ho, hz, _⟩ := listD_re r hd sy I
  obtain rfl : u = Value.ref a := ry
  refine ⟨a, rfl, ?_, ?_, Nat.zero_le _, as, H, st, I, Le.refl, r, by rw [Nat.sub_zero]; exact em⟩
  · rintro i s' ⟨hi, as', H', st', I2, l', r', hh⟩
    cases hk : ds.length - i with
    | zero =>
      rw [hk] at hh
      unfold hasN at hh
      cases hl : listD st' dy with
      | none => rw [hl] at hh; cases hh
      | some ds2 =>
        rw [hl] at hh
        dsimp only at hh
        split at hh
        · rename_i hlen
          obtain ⟨a2, items2, n2, dd2, sl2, e2, ho2, hz2, _⟩ := listD_re r' hl (sy.up l') I2
          cases e2
          exact ⟨items2, n2, dd2, sl2, ho2, hz2.trans hlen, fun h1 => by omega⟩
        · cases hh
    | succ j =>
      rw [hk] at hh
      unfold hasN at hh
      cases hl : listD st' dy with
      | none => rw [hl] at hh; cases hh
      | some ds2 =>
        rw [hl] at hh
        dsimp only at hh
        split at hh
        · rename_i hlen
          obtain ⟨a2, items2, n2, dd2, sl2, e2, ho2, hz2, hit⟩ := listD_re r' hl (sy.up l') I2
          cases e2
          refine ⟨items2, n2, dd2, sl2, ho2, hz2.trans hlen.1, fun h1 => ?_⟩
          have hi2 : i < ds2.length := by omega
          have ei : ds.length - (j + 1) = i := by omega
          rw [ei, List.getElem?_eq_getElem hi2] at hh
          dsimp only at hh
          obtain ⟨vv, e2, ru⟩ := hit i h1 hi2
          cases e3 : itA c m dx ds2[i] st' with
          | ok z s4 =>
            rw [e3] at hh
            cases z with
            | bl bo =>
              refine item_eqA T T3 C hr tk hb I2 r' hlen.2 (sx.up l') e2 rx ru e3 fun H2 s2 I3 ⟨as2, l2, r2⟩ => ?_
              cases bo with
              | true =>
                cases hh
                exact .inl ⟨rfl, q s2 H2 as2 I3 (l'.trans l2) r2⟩
              | false => exact .inr ⟨rfl, by omega, as2, H2, s4, I3, l'.trans l2, r2, by rw [show ds.length - (i + 1) = j from by omega]; exact hh⟩
            | _ => cases hh
          | exn _ _ _ => rw [e3] at hh; cases hh
          | stuck => rw [e3] at hh; cases hh
        · cases hh
  · rintro s' ⟨hi, as', H', st', I2, l', r', hh⟩
    rw [Nat.sub_self] at hh
    unfold hasN at hh
    cases hl : listD st' dy with
    | none => rw [hl] at hh; cases hh
    | some ds2 =>
      rw [hl] at hh
      dsimp only at hh
      split at hh
      · cases hh
        exact ⟨q s' H' as' I2 l' r', rfl⟩
      · cases hh

theorem op_inA (T : EqO X.K cl c f) (T3 : NoA X.K cl c) (C : CalM X.prog X.w X.K X.mg X.base cl k c "__eq__" f fd ps m) (hr : Rm (k + 1) X) (tk : Takes X W) (hb : KB X.K cl fd ps 2 [] (fun ds _ => ds)) :
    OpR X (compareOp .In) (fun x y H Q => ∃ (as : As) (st : Store) (dx dy : D) (ds : List D) (b : Bool) (s3 : Store), Rel X.K cl as H st ∧ Sh X.K cl as H x dx ∧ Sh X.K cl as H y dy ∧ listD st dy = some ds ∧ hasN c m dx dy ds.length ds.length st = .ok (.bl b) s3 ∧
      ∀ as' H', Le as H as' H' → Rel X.K cl as' H' s3 → Q (.bl (b)) H') := by
  intro pins s sg H x y v u Q I rx ry h
  obtain ⟨as, st, dx, dy, ds, b, s3, r, sx, sy, hd, em, q⟩ := h
  have fin : ∀ s' H' as', L2.Inv X pins sg H' s' → Le as H as' H' → Rel X.K cl as' H' s3 → ∃ b', Value.bool b = .bool b' ∧ EP X pins sg Q (.bool (b')) s' := fun s' H' as' I' l' r' => ⟨b, rfl, .bl (b), H', I', rfl, q as' H' l' r'⟩
  obtain ⟨a, rfl, h1, h2, h3⟩ := has_A (QQ := fun v s' => ∃ b', v = .bool b' ∧ EP X pins sg Q (.bool (b')) s') T T3 C hr tk hb I r sx sy rx ry hd em fin
  refine in_listG _ h1 (fun s' hs => ?_) h3
  obtain ⟨⟨b', e1, e2⟩, e3⟩ := h2 s' hs
  subst e3
  cases e1
  exact e2
theorem imp_inA {f' g : Ex} {sg : L2.St} {H : Hp} {Q : VK} (q0 : tF X.K cl W (eInA c m f' g) sg H Q) : tF X.K cl W f' sg H fun v H1 => tF X.K cl W g sg H1 fun w H2 => ∃ (as : As) (st : Store) (dx dy : D) (ds : List D) (b : Bool) (s3 : Store), Rel X.K cl as H2 st ∧ Sh X.K cl as H2 v dx ∧ Sh X.K cl as H2 w dy ∧ listD st dy = some ds ∧ hasN c m dx dy ds.length ds.length st = .ok (.bl b) s3 ∧
      ∀ as' H', Le as H2 as' H' → Rel X.K cl as' H' s3 → Q (.bl (b)) H' := let ⟨as, st, env, r0, er, q⟩ := q0
  ⟨as, st, env, r0, er, Wt.bind q fun d s1 as1 H1 v _ l1 r1 x1 q1 => ⟨as1, s1, env, r1, er.up l1, Wt.bind q1 fun d2 s2 as2 H2 w _ l2 r2 x2 q2 => by
    split at q2
    · unfold inR at q2
      cases hl : listD s2 d2 with
      | none => rw [hl] at q2; exact q2.elim
      | some ds =>
        rw [hl] at q2
        dsimp only at q2
        cases em : hasN c m d d2 ds.length ds.length s2 with
        | ok z s3 =>
          rw [em] at q2
          cases z with
          | bl b => exact ⟨as2, s2, d, d2, ds, b, s3, r2, x1.up l2, x2, hl, em, fun as' H' l' r' => q2 as' H' _ l' r' (.bl (b))⟩
          | _ => exact q2.elim
        | exn _ _ _ => rw [em] at q2; exact q2.elim
        | stuck => rw [em] at q2; exact q2.elim
    · exact q2.elim⟩⟩
theorem fe_inA {a b : Expr} {f' g : Ex} (T : EqO X.K cl c f) (T3 : NoA X.K cl c) (C : CalM X.prog X.w X.K X.mg X.base cl k c "__eq__" f fd ps m) (hr : Rm (k + 1) X) (tk : Takes X W) (hb : KB X.K cl fd ps 2 [] (fun ds _ => ds)) (ha : FE X cl W a f') (hb2 : FE X cl W b g) (hm : behindInMarks .In b = false) :
    FE X cl W (.Compare a [.In] [b] pos) (eInA c m f' g) := PE.w (pe_cmpR (op_inA T T3 C hr tk hb) ha hb2 hm) fun sg H Q q => imp_inA q
end
end F3

/-! F3, part zx: repr of lists that have dicts in them. -/
namespace F3
open PySem PySem.Spec PyProof.Rows L2

section
variable {X : Cx} {cl : ClW} {pins : List (Addr × Obj)} {sg : L2.St} {as : As} {H : Hp} {s : Shared} {st : Store}
end
section
variable {X : Cx} {cl : ClW}
end
end F3

/-! F3, part zy: slices of tuples; zip with a list cell, in a comprehension. -/
namespace F3
open PySem PySem.Spec PyProof.Rows L2

/-! ### t[lo:hi] -/
def slT : D → Option Int → Option Int → Store → Option D := fun x lo hi st => match x with
  | .tup ds => some (.tup (cutD ds lo hi))
  | _ => none
def eSlT (f : Ex) (l h : Exo) : Ex := fun env st => (f env st).bind fun x s => (l env s).bind fun lo s2 => (h env s2).bind fun hi s3 => match slT x lo hi s3 with
  | some d => .ok d s3
  | none => .stuck
section
variable {X : Cx} {cl : ClW} {W : WX}
theorem cut_whole {A : Type} {xs : List A} {lo hi : Option Int} (h : HT.sIx xs.length 0 lo = 0 ∧ HT.sIx xs.length xs.length hi = xs.length) : cutD xs lo hi = xs := by
  unfold cutD
  rw [h.1, h.2, List.drop_zero, Nat.sub_zero, List.take_length]
theorem fe_slT {e : Expr} {f : Ex} {lo hi : Option Expr} {l h : Exo} {pos p2 : Pos} (he : FE X cl W e f) (hl : FO X cl W lo l) (hh : FO X cl W hi h) : FE X cl W (.Subscript e (.Slice lo hi none p2) pos) (eSlT f l h) :=
  PE.w (pe_slice sl_tupA he hl.po hh.po) fun sg H Q ⟨as, st, env, r0, er, q⟩ =>
    ⟨as, st, env, r0, er, Wt.bind q fun d s1 as1 H1 v _ l1 r1 x1 q1 => ⟨as1, s1, env, r1, er.up l1, by
      cases e2 : l env s1 with
      | stuck => rw [e2] at q1; exact q1.elim
      | exn c fs s => rw [e2] at q1; exact q1
      | ok o1 s2 =>
        rw [e2] at q1
        intro as2 H2 l2 r2
        refine ⟨as2, s2, env, r2, (er.up l1).up l2, ?_⟩
        have q2 := Wt.up l2 q1
        simp only [Res.bind] at q2
        cases e3 : h env s2 with
        | stuck => rw [e3] at q2; exact q2.elim
        | exn c fs s => rw [e3] at q2; exact q2
        | ok o2 s3 =>
          rw [e3] at q2
          intro as3 H3 l3 r3
          have q3 := Wt.up l3 q2
          have x3 := (x1.up l2).up l3
          simp only at q3
          cases d with
          | tup ds =>
            cases x3 with
            | @tup a xs _ h1 y1 =>
              simp only [slT] at q3
              have hlen := y1.length
              refine ⟨a, xs, rfl, h1.sq, fun hw => ?_, fun _ p hp => ?_⟩
              · rw [hlen] at hw
                rw [cut_whole hw] at q3
                exact q3 as3 H3 _ Le.refl r3 (.tup h1 y1)
              · exact q3 as3 _ _ (Le.new r3 hp) (r3.new hp) (.tup (.inl ⟨r3.fresh hp, .inl upd_same⟩) ((cutD_sh y1).up (Le.new r3 hp)))
          | _ => exact q3.elim⟩⟩
end
/-! ### walks whose guard is not what is walked -/
section
variable {X : Cx} {cl : ClW} {W : WX} {pos : Pos}
end
end F3

/-! F3, part zz: for over enumerate of a list cell. -/
namespace F3
open PySem PySem.Spec PyProof.Rows L2
section
variable {X : Cx} {cl : ClW} {W : WX}
end
section
variable {X : Cx} {cl : ClW} {W : WX} {pos : Pos}
end
/-! ### reckoning -/
end F3

/-! F3, part zzb: tuple(list); enumerate of a list, a cell or not. -/
namespace F3
open PySem PySem.Spec PyProof.Rows L2
section
variable {K : PySem.W.Frag} {cl : ClW}
end
section
variable {X : Cx} {cl : ClW} {W : WX} {pos : Pos}
end
end F3

/-! F3, part zzc: sum(d.values()). -/
namespace F3
open PySem PySem.Spec PyProof.Rows L2
open PySem.W PySem.Calls in
section
variable {X : Cx} {cl : ClW} {W : WX} {o : Expr} {f : Ex}
end
end F3

/-! F3, part zzd: max(list of whole numbers, default=a whole number). -/
namespace F3
open PySem PySem.Spec PyProof.Rows L2
section
variable {X : Cx} {cl : ClW} {W : WX}
end
end F3

/-! F3, part zze: min(list of whole numbers, default=a whole number). -/
namespace F3
open PySem PySem.Spec PyProof.Rows L2
section
variable {X : Cx} {cl : ClW} {W : WX}
end
end F3

/-! F3, part zzf: name = {k: v for ..} on one line, the name a local. -/
namespace F3
open PySem PySem.Spec PyProof.Rows L2

section
variable {X : Cx}
end
section
variable {X : Cx} {cl : ClW} {W : WX}
end
end F3

/-! F3, part zzg: max(xs), min(xs) of a list of whole numbers that isn't empty; name += e. -/
namespace F3
open PySem PySem.Spec PyProof.Rows L2
section
variable {K : PySem.W.Frag} {cl : ClW}
end
end F3

/-! F3, part zzh: name += int; y in d where y may be None; a comprehension with two fors. -/
namespace F3
open PySem PySem.Spec PyProof.Rows L2
/-! ### name += int -/
section
variable {X : Cx} {cl : ClW} {W : WX}
end
/-! ### y in d, y may be None -/
section
variable {X : Cx} {cl : ClW} {W : WX} {o i : Expr} {fo fi : Ex} {pos : Pos}
end
/-! ### [e for x in xs for y in ys] -/
open Classical in
section
variable {X : Cx} {cl : ClW} {W : WX}
end
end F3

/-! F3, part zzi: a list of whatever against a list of another length. -/
namespace F3
open PySem PySem.Spec PyProof.Rows L2 PySem.SeqAt
open AutoSeq1 (wpAny_loadPart')
open MeetsSeq MeetsSeq2 MeetsSeq3 SeqRoads2
section
variable {prog : Program} {w : World}
end
/-! ### x == y, lists of different lengths too -/
section
variable {X : Cx}
variable {K : PySem.W.Frag} {cl : ClW}
end
end F3

/-! F3, part zzj: a dict whose keys may be None, too. -/
namespace F3
open PySem PySem.Spec PyProof.Rows L2

/-! ### as pairs -/
def lkN {B : Type} (ds : List (Leaf × B)) (k : Leaf) : Option B := (ds.find? fun kv => decide (kv.1 = k)).map (·.2)
def putN {B : Type} (ds : List (Leaf × B)) (k : Leaf) (d : B) : List (Leaf × B) :=
  if (ds.any fun kv => decide (kv.1 = k)) = true then ds.map (fun kv => if kv.1 = k then (kv.1, d) else kv) else ds ++ [(k, d)]
section
variable {X : Cx} {pins : List (Addr × Obj)} {σ : L2.St} {H : Hp} {s : Shared} {a : Addr} {k : Leaf} {v : V} {u r : Value} {kvs : List (Leaf × V)} {A : Around} {E : Value → Shared → Prop}
end
/-! ### rules -/
section
variable {X : Cx} {o i value : Expr} {pos pos' : Pos} {td ty tv : TE} {k : Leaf}
end
/-! ### as cells -/
def LvR (K : PySem.W.Frag) (cl : ClW) (as : As) (H : Hp) (kvs : List (Leaf × V)) (ds : List (Leaf × D)) : Prop := kvs.map (·.1) = ds.map (·.1) ∧ ShL K cl as H (kvs.map (·.2)) (ds.map (·.2))
section
variable {K : PySem.W.Frag} {cl : ClW} {as as' : As} {H H' : Hp} {st : Store}
theorem LvR.cons_inv {p : Leaf × V} {q : Leaf × D} {kvs : List (Leaf × V)} {ds : List (Leaf × D)} (h : LvR K cl as H (p :: kvs) (q :: ds)) : p.1 = q.1 ∧ Sh K cl as H p.2 q.2 ∧ LvR K cl as H kvs ds := by
  obtain ⟨h1, h2⟩ := h
  simp only [List.map_cons, List.cons.injEq] at h1
  cases h2 with
  | cons a b => exact ⟨h1.1, a, h1.2, b⟩
theorem LvR.nil : LvR K cl as H [] [] := ⟨rfl, .nil⟩
theorem LvR.cons {p : Leaf × V} {q : Leaf × D} {kvs : List (Leaf × V)} {ds : List (Leaf × D)} (h1 : p.1 = q.1) (h2 : Sh K cl as H p.2 q.2) (h : LvR K cl as H kvs ds) : LvR K cl as H (p :: kvs) (q :: ds) := ⟨by rw [List.map_cons, List.map_cons, h1, h.1], .cons h2 h.2⟩
theorem LvR.upW (l : Mw as H as' H') {kvs : List (Leaf × V)} {ds : List (Leaf × D)} (h : LvR K cl as H kvs ds) : LvR K cl as' H' kvs ds := ⟨h.1, h.2.upW l⟩
theorem LvR.length {kvs : List (Leaf × V)} {ds : List (Leaf × D)} (h : LvR K cl as H kvs ds) : kvs.length = ds.length := by
  have := congrArg List.length h.1
  simpa using this
theorem LvR.look (k : Leaf) : ∀ {kvs : List (Leaf × V)} {ds : List (Leaf × D)}, LvR K cl as H kvs ds → (valV kvs k = none ∧ lkN ds k = none) ∨ ∃ v d, valV kvs k = some v ∧ lkN ds k = some d ∧ Sh K cl as H v d
  | [], [], _ => .inl ⟨rfl, rfl⟩
  | [], _ :: _, h => by have := h.length; cases this
  | _ :: _, [], h => by have := h.length; cases this
  | p :: kvs, q :: ds, h => by
    obtain ⟨h1, h2, h3⟩ := h.cons_inv
    by_cases e : p.1 = k
    · exact .inr ⟨p.2, q.2, by simp [valV, List.find?_cons, e], by simp [lkN, List.find?_cons, h1 ▸ e], h2⟩
    · have e2 : ¬ q.1 = k := h1 ▸ e
      have a1 : valV (p :: kvs) k = valV kvs k := by simp [valV, List.find?_cons, e]
      have a2 : lkN (q :: ds) k = lkN ds k := by simp [lkN, List.find?_cons, e2]
      rw [a1, a2]
      exact h3.look k
theorem LvR.any (k : Leaf) : ∀ {kvs : List (Leaf × V)} {ds : List (Leaf × D)}, LvR K cl as H kvs ds → (kvs.any fun kv => decide (kv.1 = k)) = (ds.any fun kv => decide (kv.1 = k))
  | [], [], _ => rfl
  | [], _ :: _, h => by have := h.length; cases this
  | _ :: _, [], h => by have := h.length; cases this
  | p :: kvs, q :: ds, h => by
    obtain ⟨h1, h2, h3⟩ := h.cons_inv
    rw [List.any_cons, List.any_cons, h1, h3.any k]
theorem LvR.maps {k : Leaf} {v : V} {d : D} (s : Sh K cl as H v d) : ∀ {kvs : List (Leaf × V)} {ds : List (Leaf × D)}, LvR K cl as H kvs ds → LvR K cl as H (kvs.map fun kv => if kv.1 = k then (kv.1, v) else kv) (ds.map fun kv => if kv.1 = k then (kv.1, d) else kv)
  | [], [], _ => .nil
  | [], _ :: _, h => by have := h.length; cases this
  | _ :: _, [], h => by have := h.length; cases this
  | p :: kvs, q :: ds, h => by
    obtain ⟨h1, h2, h3⟩ := h.cons_inv
    rw [List.map_cons, List.map_cons]
    by_cases e : p.1 = k
    · rw [if_pos e, if_pos (h1 ▸ e)]
      exact .cons h1 s (LvR.maps s h3)
    · rw [if_neg e, if_neg (h1 ▸ e)]
      exact .cons h1 h2 (LvR.maps s h3)
theorem LvR.append {kvs kvs2 : List (Leaf × V)} {ds ds2 : List (Leaf × D)} (h : LvR K cl as H kvs ds) (h2 : LvR K cl as H kvs2 ds2) : LvR K cl as H (kvs ++ kvs2) (ds ++ ds2) := ⟨by rw [List.map_append, List.map_append, h.1, h2.1], by rw [List.map_append, List.map_append]; exact h.2.append h2.2⟩
theorem LvR.put {k : Leaf} {v : V} {d : D} (s : Sh K cl as H v d) {kvs : List (Leaf × V)} {ds : List (Leaf × D)} (h : LvR K cl as H kvs ds) : LvR K cl as H (putK kvs k v) (putN ds k d) := by
  unfold putK putN
  rw [h.any k]
  split
  · exact LvR.maps s h
  · exact h.append (.cons rfl s .nil)
end
/-! ### ops -/
section
variable {X : Cx} {cl : ClW} {W : WX} {o i value : Expr} {fo fi f : Ex} {pos pos' : Pos}
end
/-! ### reckoning -/
end F3

/-! F3, part zzk: repr of a list that is a cell and holds cells. -/
namespace F3
open PySem PySem.Spec PyProof.Rows L2
/-! ### long texts -/
end F3

/-! F3, part zzl: xs[::-1] as a cell. -/
namespace F3
open PySem PySem.Spec PyProof.Rows L2
section
variable {X : Cx} {cl : ClW} {W : WX} {o : Expr} {f : Ex} {pos : Pos}
end
end F3

/-! F3, part zzm: xs[lo:hi] as a cell. -/
namespace F3
open PySem PySem.Spec PyProof.Rows L2
section
variable {X : Cx} {cl : ClW} {W : WX}
end
end F3

/-! F3, part zzn: a dict keyed by None, too: made empty, asked with a default, walked under a lock. -/
namespace F3
open PySem PySem.Spec PyProof.Rows L2
/-! ### read, locked or not -/
section
variable {X : Cx} {o i e f : Expr} {pos apos cpos : Pos} {td ty tx : TE}
end
/-! ### walked -/
section
variable {P : Program} {w : World} {K : PySem.W.Frag} {tg : Expr} {d : Addr} {o : Obj} {es : Array DictEntry} {ep : Nat}
end
/-! ### locks of cells -/
section
variable {X : Cx} {cl : ClW} {W : WX} {K : PySem.W.Frag} {as as' : As} {H H' : Hp} {st : Store}
theorem LvR.at_ : ∀ {kvs : List (Leaf × V)} {ds : List (Leaf × D)} {i : Nat} {q : Leaf × D}, LvR K cl as H kvs ds → ds[i]? = some q → ∃ v, kvs[i]? = some (q.1, v) ∧ Sh K cl as H v q.2
  | [], [], _, _, _, e => by simp at e
  | [], _ :: _, _, _, h, _ => by have := h.length; cases this
  | _ :: _, [], _, _, h, _ => by have := h.length; cases this
  | p :: kvs, q' :: ds, 0, q, h, e => by
    obtain ⟨h1, h2, h3⟩ := h.cons_inv
    obtain rfl : q' = q := Option.some.inj (by simpa using e)
    exact ⟨p.2, by rw [← h1]; rfl, h2⟩
  | p :: kvs, q' :: ds, i + 1, q, h, e => by
    obtain ⟨h1, h2, h3⟩ := h.cons_inv
    obtain ⟨v, a, b⟩ := h3.at_ (i := i) (q := q) (by simpa using e)
    exact ⟨v, by simpa using a, b⟩
end
section
variable {X : Cx} {cl : ClW} {W : WX} {o i e f' : Expr} {fo fi fx : Ex} {pos apos cpos : Pos}
end
/-! ### reckoning -/
end F3

/-! F3, part zzo: dicts of the module's top with ints, texts or tuples of defs in them; a local name that holds a def. -/
namespace F3
open PySem PySem.Spec PyProof.Rows L2
/-! ### what stands in them -/
inductive SV where
  | i (n : Int) | s (x : Str) | t (fs : List String)
  deriving DecidableEq
def SV.d : SV → D
  | .i n => .int n
  | .s x => .str x
  | .t fs => .tup (fs.map D.fn)
inductive SvAt (K : PySem.W.Frag) (cl : ClW) : Value → SV → Prop
  | i {n : Int} {t : Tok} : SvAt K cl (.int n t) (.i n)
  | s {x : Str} {t : Tok} : SvAt K cl (.str x t) (.s x)
  | t {T : Addr} {o : Obj} {its : Array Value} {n : Nat} {fs : List String} : K.lookup T = some o → o.cls = .type "tuple" → o.data = .seq its n → its.size ≤ sizeLine → Vals (fs.map fun x => V.ref (cl x)) its.toList → SvAt K cl (.ref T) (.t fs)
theorem fns_sh {K : PySem.W.Frag} {cl : ClW} {as : As} {H : Hp} : ∀ fs : List String, ShL K cl as H (fs.map fun x => V.ref (cl x)) (fs.map D.fn)
  | [] => .nil
  | x :: fs => .cons (.fn x) (fns_sh fs)
theorem SvAt.sh {K : PySem.W.Frag} {cl : ClW} {u : Value} {v : SV} (h : SvAt K cl u v) : ∃ x : V, L2.RelV x u ∧ ∀ as H, Sh K cl as H x v.d := by
  cases h with
  | i => exact ⟨.int _, ⟨_, rfl⟩, fun as H => .int _⟩
  | s => exact ⟨.str _, ⟨_, rfl⟩, fun as H => .str _⟩
  | t h1 h2 h3 h4 h5 => exact ⟨.ref _, rfl, fun as H => .tup (.inr fun H => .inr ⟨_, _, _, h1, h2, h3, h4, h5⟩) (fns_sh _)⟩
inductive EntS (w : World) (K : PySem.W.Frag) (cl : ClW) : List DictEntry → List (Str × SV) → Prop
  | nil : EntS w K cl [] []
  | cons {e : DictEntry} {k : Str} {v : SV} {t : Tok} {es : List DictEntry} {kvs : List (Str × SV)} : e.key = .str k t → e.hash = keyH w (.inr k) → SvAt K cl e.val v → EntS w K cl es kvs → EntS w K cl (e :: es) ((k, v) :: kvs)
def lookS (kvs : List (Str × SV)) (x : Str) : Option SV := (kvs.find? fun p => decide (p.1 = x)).map (·.2)
theorem EntS.pairs (P : Program) {w : World} {K : PySem.W.Frag} {cl : ClW} : ∀ {es : List DictEntry} {kvs : List (Str × SV)}, EntS w K cl es kvs → ∃ vs : List (Key × Value), Pairs (mixKind P w) es vs ∧ vs.map (·.1) = kvs.map (fun p => Sum.inr p.1) ∧ (∀ e ∈ es, ∃ k, (mixKind P w).is k e.key = true ∧ e.hash = (mixKind P w).hash k) ∧
    ∀ x : Str, (∃ u v, lookS kvs x = some v ∧ valueAt vs (Sum.inr x : Key) = some u ∧ SvAt K cl u v) ∨ (lookS kvs x = none ∧ valueAt vs (Sum.inr x : Key) = none) := by
  intro es kvs h
  induction h with
  | nil => exact ⟨[], .nil, rfl, fun _ h => (by cases h), fun x => .inr ⟨rfl, rfl⟩⟩
  | @cons e k v t es kvs h1 h2 h3 h ih =>
    obtain ⟨vs, a1, a2, a3, a4⟩ := ih
    have hk : (mixKind P w).is (Sum.inr k) e.key = true := by
      rw [h1]
      show Value.isStrOf k (.str k t) = true
      simp [Value.isStrOf]
    refine ⟨(Sum.inr k, e.val) :: vs, .cons hk rfl a1, by rw [List.map_cons, List.map_cons, a2], fun e' he => ?_, fun x => ?_⟩
    · rcases List.mem_cons.mp he with rfl | he
      · exact ⟨Sum.inr k, hk, h2⟩
      · exact a3 e' he
    · by_cases hx : k = x
      · subst hx
        exact .inl ⟨e.val, v, by simp [lookS], by simp [valueAt], h3⟩
      · have e1 : valueAt ((Sum.inr k, e.val) :: vs) (Sum.inr x : Key) = valueAt vs (Sum.inr x) := by simp [valueAt, hx]
        have e2 : lookS ((k, v) :: kvs) x = lookS kvs x := by simp [lookS, hx]
        rw [e1, e2]
        exact a4 x
/-! ### asked -/
section
variable {X : Cx} {cl : ClW} {o e i : Expr} {apos cpos pos : Pos} {ty : TE}
end
section
variable {X : Cx} {cl : ClW} {W : WX} {o e i : Expr} {apos cpos pos : Pos} {fi : Ex} {a : Addr} {kvs : List (Str × SV)}
end
/-! ### a local name that holds a def -/
section
variable {X : Cx} {cl : ClW} {W : WX} {k n : Nat} {x : Str} {p pos : Pos} {e : Expr} {es : List Expr} {fa : Exs} {tab : String → Option (List D → Store → Res D)}
end
/-! ### dicts, looked at -/
/-! ### the hook -/
end F3

/-! F3, part zzp: split, startswith; sorted(set(a tuple of ints)). -/
namespace F3
open PySem PySem.Spec PyProof.Rows L2
/-! ### texts -/
section
variable {K : PySem.W.Frag} {cl : ClW}
end
/-! ### each once, rising -/
/-! ### sorted(set(t)) -/
section
variable {X : Cx} {cl : ClW} {W : WX} {e : Expr} {fa : Exs} {p p2 pos pos2 : Pos}
end
end F3


/-! F3, part zzq: zip of two rows, each a list or a tuple. -/
namespace F3
open PySem PySem.Spec PyProof.Rows L2
/-! ### a row: a tuple (true) or a list -/
def Row (k : Bool) (K : PySem.W.Frag) (H : Hp) (a : Addr) (xs : List V) : Prop := match k with | true => SqT K H a xs | false => SqL K H a xs
def RowAt (k : Bool) (h : Heap) (a : Addr) (its : Array Value) : Prop := match k with | true => h.IsTuple a its | false => h.IsList a its
def RowIt (k : Bool) (h : Heap) (it a : Addr) (i : Nat) : Prop := match k with | true => h.IsTupleIter it a i | false => h.IsListIter it a i
section
variable {X : Cx} {pins : List (Addr × Obj)} {σ : L2.St} {H : Hp} {s : Shared} {a : Addr} {xs ys : List V} {k : Bool}
end
theorem RowIt.lt {k : Bool} {h : Heap} {it a : Addr} {i : Nat} (x : RowIt k h it a i) : it < h.objs.size := by
  cases k with
  | true => obtain ⟨_, e, _⟩ := x; exact Heap.lt_size e
  | false => obtain ⟨_, e, _⟩ := x; exact Heap.lt_size e
theorem RowIt.obj {k : Bool} {h : Heap} {it a : Addr} {i : Nat} (x : RowIt k h it a i) : ∃ o, h.get? it = some o ∧ ∀ v, o.data ≠ .cell v := by
  cases k with
  | true => obtain ⟨o, e, _, d⟩ := x; exact ⟨o, e, fun v q => by rw [d] at q; cases q⟩
  | false => obtain ⟨o, e, _, d⟩ := x; exact ⟨o, e, fun v q => by rw [d] at q; cases q⟩
theorem RowIt.keep {k : Bool} {h h' : Heap} {it a : Addr} {i : Nat} (x : RowIt k h it a i) (e : ∀ o, h.get? it = some o → h'.get? it = some o) : RowIt k h' it a i := by
  cases k with
  | true => exact x.at e
  | false => exact x.at e
theorem RowAt.lt {k : Bool} {h : Heap} {a : Addr} {its : Array Value} (x : RowAt k h a its) : a < h.objs.size := by
  cases k with
  | true => obtain ⟨_, e, _⟩ := x; exact Heap.lt_size e
  | false => obtain ⟨_, e, _⟩ := x; exact Heap.lt_size e
/-! ### zip(a, b) -/
/-! ### in F3 -/
section
variable {X : Cx} {cl : ClW} {W : WX} {pos : Pos}
/-- a row that stands -/
def FzR (k : Bool) (K : PySem.W.Frag) (as : As) (H : Hp) (a : Addr) (xs : List V) : Prop := match k with | true => FzT K as H a xs | false => FzL K as H a xs
theorem FzR.row {K : PySem.W.Frag} {as : As} {H : Hp} {k : Bool} {a : Addr} {xs : List V} (h : FzR k K as H a xs) : Row k K H a xs := by
  cases k with
  | true => exact FzT.sq h
  | false => exact FzL.sq h
theorem FzR.up {K : PySem.W.Frag} {as as' : As} {H H' : Hp} {k : Bool} {a : Addr} {xs : List V} (l : Mv as H as' H') (h : FzR k K as H a xs) : FzR k K as' H' a xs := by
  cases k with
  | true => exact l.fzT h
  | false => exact l.fzL h
end
/-! ### two lists as a new cell -/
/-! ### a tuple of whatever against () -/
/-! ### lists of whatever, != -/
section
open PySem.SeqAt
open AutoSeq1 (wpAny_loadPart')
open MeetsSeq MeetsSeq2 MeetsSeq3 SeqRoads2
variable {prog : Program} {w : World}
theorem list_ne_apart (l b : Addr) (items items2 : Array Value) (n n2 : Nat) (dd dd2 : Option Addr) (sl sl2 : Array (Option Value)) (hsz : items.size ≠ items2.size) :
    MeetsIn prog w (Builtin.«list.__ne__» ⟨[.ref l, .ref b], []⟩)
      (fun A R s => s.heap.get? l = some { cls := .type "list", dict := dd, data := .seq items n, slots := sl } ∧ s.heap.get? b = some { cls := .type "list", dict := dd2, data := .seq items2 n2, slots := sl2 } ∧
        R (.ok (.ret (.bool true))) s) := by
  intro A R s h
  obtain ⟨hp, g, d, tk, os⟩ := s; obtain ⟨hl, hb, h⟩ := h
  have f3 := AutoSeq1.sub_list_list
  have hne : (items.size != items2.size) = true := by simp [hsz]
  wp_walk using wpAny_loadPart' hl, wpAny_loadPart' hb
  exact h
theorem rc_apart_ne {A : Around} {s : Shared} {l b : Addr} {items items2 : Array Value} (hl : s.heap.IsList l items) (hb : s.heap.IsList b items2) (hsz : items.size ≠ items2.size) (hu : A.units < cLine) (E Q : Value → Shared → Prop) (h : Q (.bool true) s) : wpAny (model prog w) A (richCompare .NotEq (.ref l) (.ref b)) Q E s := by
  obtain ⟨⟨cls, dd, data, sl⟩, ho, hc, n, hd⟩ := id hl
  obtain ⟨⟨cls2, dd2, data2, sl2⟩, ho2, hc2, n2, hd2⟩ := id hb
  simp only at hc hd hc2 hd2
  subst hc hd hc2 hd2
  have ta : s.TypeIs (.ref l) "list" := ⟨_, ho, rfl⟩
  have tb : s.TypeIs (.ref b) "list" := ⟨_, ho2, rfl⟩
  exact wpAny_richCompare_same_room (op := .NotEq) ta tb F.slot_list_ne (call_meetsIn F.slot_list_ne ta F.entry_list_ne (F.args_list_ne_2 _ _) (list_ne_apart l b items items2 n n2 dd dd2 sl sl2 hsz)
    ⟨ho, ho2, show Value.bool true ≠ Value.notImplemented ∧ Q (.bool true) s from ⟨(fun x => nomatch x), h⟩⟩) hu
end
def rNeA (K : PySem.W.Frag) : R2 := fun x y H Q => ∃ a b xs ys, x = .ref a ∧ y = .ref b ∧ SqL K H a xs ∧ SqL K H b ys ∧ xs.length ≠ ys.length ∧ Q (.bl true) H
def rNeL (K : PySem.W.Frag) : R2 := fun x y H Q => rNeX K x y H Q ∨ rNeA K x y H Q
def neLD : O2 := fun x y st => match listD st x, listD st y with
  | some xs, some ys => if xs.length = ys.length then neD x y st else some (.bl true, st)
  | _, _ => none
theorem op_neA {X : Cx} (hu : X.A.units + 64 < cLine) : OpR X (compareOp .NotEq) (rNeA X.K) := by
  intro pins s σ H x y v u Q I rx ry h
  obtain ⟨a, b, xs, ys, rfl, rfl, ha, hb, hne, q⟩ := h
  cases (show v = Value.ref a from rx)
  cases (show u = Value.ref b from ry)
  obtain ⟨us, r1, p1, _⟩ := I.list ha
  obtain ⟨ws, r2, p2, _⟩ := I.list hb
  exact rc_apart_ne p1.isList p2.isList (by rw [List.size_toArray, List.size_toArray, ← r1.length, ← r2.length]; exact hne) (by omega) _ _ ⟨.bl true, H, I, rfl, q⟩
theorem op_neL {X : Cx} (hu : X.A.units + 64 < cLine) : OpR X (compareOp .NotEq) (rNeL X.K) := (op_neX hu).or (op_neA hu)
theorem ok_neL {K : PySem.W.Frag} {cl : ClW} : Ok2 K cl (rNeL K) neLD := by
  intro as H st x y v w d st' Q r e s1 s2 af
  unfold neLD at e
  split at e
  · rename_i xs ys e1 e2
    split at e
    · exact .inl (ok_ne as H st x y v w d st' Q r e s1 s2 af)
    · rename_i hne
      cases e
      obtain ⟨p, vs, rfl, c1, x1⟩ := listD_sq r e1 s1
      obtain ⟨q, us, rfl, c2, x2⟩ := listD_sq r e2 s2
      exact .inr ⟨p, q, vs, us, rfl, rfl, c1, c2, by rw [x1.length, x2.length]; exact hne, af.pure r (.bl _)⟩
  · cases e
/-! ### a table of defs -/
section
variable {X : Cx} {cl : ClW} {k n : Nat} {tab : String → Option (List D → Store → Res D)}
theorem FnG.le {P : Program} {w : World} {K : PySem.W.Frag} {mg : Str → Option Value} {base : Heap} {j k : Nat} {f : Addr} {fd : FuncData} {ps : List Str} {sp : Sp} (F : FnG P w K mg base j f fd ps sp) (h : j ≤ k) : FnG P w K mg base k f fd ps sp :=
  ⟨F.len, fun A outer s H args us vs Q E hg hr => F.run A outer s H args us vs Q E hg (hr.mono h)⟩
end
end F3

/-! F3, part zzr: a, *rest = a list; str and int of texts. -/
namespace F3
open PySem PySem.Spec PyProof.Rows L2
section
variable {X : Cx} {pos : Pos}
end
section
variable {X : Cx} {cl : ClW} {W : WX} {pos : Pos}
end
/-! ### str and int -/
section
variable {K : PySem.W.Frag} {cl : ClW}
end
end F3

/-! F3, part zzs: a chain of three comparisons; min of three ints. -/
namespace F3
open PySem PySem.Spec PyProof.Rows L2

/-! ### a op1 b op2 c op3 d -/
section
variable {X : Cx} {a b c d : Expr} {ta tb tc td : TE} {pos : Pos}
end
section
variable {X : Cx} {cl : ClW} {W : WX} {a b c d : Expr} {f g h j : Ex} {pos : Pos}
end
/-! ### min(a, b, c) of ints -/
section
variable {X : Cx} {K : PySem.W.Frag} {cl : ClW}
end
/-! ### a, b, c = x, y, z -/
section
variable {X : Cx} {cl : ClW} {W : WX} {a b c : Expr} {f g h : Ex} {pos : Pos}
end
end F3

/-! F3, part zzt: repr of lists in which cells and dicts stand side by side. -/
namespace F3
open PySem PySem.Spec PyProof.Rows L2
section
variable {X : Cx} {cl : ClW} {pins : List (Addr × Obj)} {sg : L2.St} {as : As} {H : Hp} {s : Shared} {st : Store}
end
section
variable {X : Cx} {cl : ClW}
end
end F3

/-! F3, part zzu: a head's run looked at in parts, with dicts of the module's top. -/
namespace F3
open PySem PySem.Spec PyProof.Rows L2
section
variable {R : Type}
end
end F3

set_option maxHeartbeats 2000000
/-! F3, part zzv: sorted({x for ..}), x a text: a set of texts that is filled, then sorted. -/
namespace F3
open PySem PySem.Spec PyProof.Rows L2

/-- its table can be walked -/
def WalkT (w : World) (D : Froz.SD) : Prop := Ris D.2.2.place.toList ∧ (w.params.followText "set-order" = true ∨ D.2.2.led = true)
/-- a set at a, with the texts l -/
def SetT (P : Program) (w : World) (a : Addr) (l : List Str) (h : Heap) : Prop := ∃ D : Froz.SD, h.get? a = some (Froz.sObj "set" D) ∧ Froz.TxOk P w D l ∧ l.Nodup ∧ WalkT w D
section
variable {P : Program} {w : World} {A : Around} {E : Value → Shared → Prop} {s : Shared} {a : Addr} {l : List Str} {k : Str} {u : Tok}
theorem walk_add {D : Froz.SD} (h : WalkT w D) (x : Int) (v : Value) : WalkT w (Froz.addTx x v D) := by
  obtain ⟨es, ep, t⟩ := D
  have r1 := layNew_ris t es x v h.1
  have r2 := layNew_led t es x v
  unfold Froz.addTx
  dsimp only
  generalize layNew t es x v = z at r1 r2 ⊢
  obtain ⟨es1, t1, wd, gv⟩ := z
  dsimp only at r1 r2 ⊢
  obtain ⟨t2, e2, p1, p2⟩ : ∃ t2, t2 = (if t1.plain = true then { t1 with plain := false } else t1) ∧ t2.place = t1.place ∧ t2.led = t1.led := ⟨_, rfl, by split <;> rfl, by split <;> rfl⟩
  rw [← e2]
  have w2 : WalkT w (es1, ep, t2) := ⟨by rw [p1]; exact r1, h.2.imp id fun q => by rw [p2, r2]; exact q⟩
  unfold Froz.tailTx
  split
  · exact ⟨relayAll_ris _ _ _, w2.2.imp id fun q => by rw [relayAll_led]; exact q⟩
  · exact w2
end
/-! ### the set comprehension -/
def SetTO (P : Program) (w : World) (a : Addr) (l : List Str) : HO := .ext (SetT P w a l)
theorem SetT.keep {P : Program} {w : World} {a : Addr} {l : List Str} {h1 h2 : Heap} (R : SetT P w a l h1) (k : ∀ o, h1.get? a = some o → h2.get? a = some o) : SetT P w a l h2 :=
  let ⟨D, ho, r⟩ := R
  ⟨D, k _ ho, r⟩
section
variable {X : Cx}
end
/-! ### a set is none of the things that data is shown by -/
theorem some_sd (P : Program) (w : World) : ∀ l : List Str, ∃ D : Froz.SD, Froz.TxOk P w D l ∧ WalkT w D
  | [] => ⟨(#[], 0, .fresh 0 0 (!w.params.followText "set-order")), Froz.TxOk.nil rfl, List.Pairwise.nil, by
    cases q : w.params.followText "set-order" with
    | true => exact .inl rfl
    | false => exact .inr rfl⟩
  | k :: l => let ⟨_, h1, h2⟩ := some_sd P w l; ⟨_, Froz.add_ok 0 h1, walk_add h2 _ (.str k 0)⟩
theorem some_set (P : Program) (w : World) (a : Addr) {l : List Str} (nd : l.Nodup) : ∃ h : Heap, SetT P w a l h := by
  obtain ⟨D, h1, h2⟩ := some_sd P w l
  refine ⟨(⟨Array.replicate a (Froz.sObj "set" D), {}⟩ : Heap).push (Froz.sObj "set" D), D, ?_, h1, nd, h2⟩
  have := Heap.get?_push_size (⟨Array.replicate a (Froz.sObj "set" D), {}⟩ : Heap) (o := Froz.sObj "set" D) rfl
  rw [show (⟨Array.replicate a (Froz.sObj "set" D), {}⟩ : Heap).objs.size = a from Array.size_replicate] at this
  exact this
theorem setTO_ne {P : Program} {w : World} {a : Addr} {l : List Str} (nd : l.Nodup) : (∀ c d, SetTO P w a l ≠ KO c d a) ∧ ∀ q, SetTO P w a l ≠ LamX.CodeO a q := by
  obtain ⟨h, hs⟩ := some_set P w a nd
  have off : ∀ (oe : Obj) (vs : Array Value), h.get? a = some oe → oe.data = .fields vs → False := fun oe vs e d => by
    obtain ⟨D, ho, -⟩ := hs
    rw [ho] at e
    cases e
    cases d
  refine ⟨fun c d z => ?_, fun q z => ?_⟩
  · have e : SetT P w a l h = _ := congrFun (HO.ext.inj z) h
    obtain ⟨oe, vs, e1, -, e3⟩ := e ▸ hs
    exact off oe vs e1 e3
  · have e : SetT P w a l h = _ := congrFun (HO.ext.inj z) h
    obtain ⟨oe, vs, t, e1, e3, -⟩ := e ▸ hs
    exact off oe vs e1 e3
section
variable {K : PySem.W.Frag} {cl : ClW} {as : As} {H : Hp} {st : Store} {P : Program} {w : World} {a : Addr} {l l' : List Str}
mutual
theorem Sh.setD (nd : l.Nodup) (hD : H a = some (SetTO P w a l)) : ∀ {v : V} {d : D}, Sh K cl as H v d → Sh K cl as (upd H a (SetTO P w a l')) v d
  | _, _, .non => .non
  | _, _, .bl b => .bl b
  | _, _, .int i => .int i
  | _, _, .str x => .str x
  | _, _, .ref h => .ref h
  | _, _, .lst h r => .lst (h.imp (fun h => ⟨h.1, h.2.elim (fun e => .inl (by rw [upd_ne fun z => by rw [z, hD] at e; cases e]; exact e)) fun ⟨o, e⟩ => .inr ⟨o, by rw [upd_ne fun z => by rw [z, hD] at e; cases e]; exact e⟩⟩) id) (ShL.setD nd hD r)
  | _, _, .tup h r => .tup (h.imp (fun h => ⟨h.1, h.2.elim (fun e => .inl (by rw [upd_ne fun z => by rw [z, hD] at e; cases e]; exact e)) fun ⟨o, e⟩ => .inr ⟨o, by rw [upd_ne fun z => by rw [z, hD] at e; cases e]; exact e⟩⟩) id) (ShL.setD nd hD r)
  | _, _, .dct n h e r => .dct n (by rw [upd_ne fun z => by rw [z, hD] at h; cases h]; exact h) e (ShL.setD nd hD r)
  | _, _, .obj n h e r => .obj n (by rw [upd_ne fun z => by rw [z, hD] at h; cases h]; exact h) e (ShL.setD nd hD r)
  | _, _, .exc0 n h => .exc0 n (by rw [upd_ne fun z => by rw [z, hD] at h; exact (setTO_ne nd).1 _ _ (Option.some.inj h)]; exact h)
  | _, _, .exc1 n h n2 h2 e r => .exc1 n (by rw [upd_ne fun z => by rw [z, hD] at h; exact (setTO_ne nd).1 _ _ (Option.some.inj h)]; exact h) n2 (by rw [upd_ne fun z => by rw [z, hD] at h2; cases h2]; exact h2) e (ShL.setD nd hD r)
  | _, _, .lam n h e1 e2 r => .lam n (by rw [upd_ne fun z => by rw [z, hD] at h; exact (setTO_ne nd).2 _ (Option.some.inj h)]; exact h) e1 e2 (ShL.setD nd hD r)
  | _, _, .fn x => .fn x
theorem ShL.setD (nd : l.Nodup) (hD : H a = some (SetTO P w a l)) : ∀ {vs : List V} {ds : List D}, ShL K cl as H vs ds → ShL K cl as (upd H a (SetTO P w a l')) vs ds
  | _, _, .nil => .nil
  | _, _, .cons h r => .cons (Sh.setD nd hD h) (ShL.setD nd hD r)
end
theorem Rel.setD (nd : l.Nodup) (hD : H a = some (SetTO P w a l)) (hn : a ∉ as) (r : Rel K cl as H st) : Rel K cl as (upd H a (SetTO P w a l')) st := by
  have ne : ∀ b, b ∈ as → (upd H a (SetTO P w a l')) b = H b := fun b hb => upd_ne fun z => hn (z ▸ hb)
  refine ⟨r.len, r.nd, fun i b c e1 e2 => ?_, fun b m => ⟨(r.rs b m).1, by rw [ne b (.inr m)]; exact (r.rs b m).2⟩, fun b m => by rw [ne b (.inr m)]; exact r.rx b m⟩
  have hb := ne b (.inl (List.mem_of_getElem? e1))
  cases r.cell i b c e1 e2 with
  | lst h1 h2 => exact .lst (by rw [hb]; exact h1) (h2.setD nd hD)
  | dct h1 h2 h3 => exact .dct (by rw [hb]; exact h1) h2 (h3.setD nd hD)
  | lck h1 h2 h3 => exact .lck (by rw [hb]; exact h1) h2 (h3.setD nd hD)
  | dcn h1 h2 h3 => exact .dcn (by rw [hb]; exact h1) h2 (h3.setD nd hD)
  | lckn h1 h2 h3 => exact .lckn (by rw [hb]; exact h1) h2 (h3.setD nd hD)
  | ins h1 h2 h3 => exact .ins (by rw [hb]; exact h1) h2 (h3.setD nd hD)
  | tab h0 h1 h2 h3 =>
    refine .tab h0 (by rw [hb]; exact h1) h2 fun pos cv hc => ?_
    obtain ⟨c, e1, e2, e3⟩ := h3 pos cv hc
    exact ⟨c, e1, e2, by rw [upd_ne fun z => by rw [z, hD] at e3; exact (setTO_ne nd).2 _ (Option.some.inj e3)]; exact e3⟩
end
/-! ### sorted({e for target in iter}) -/
section
variable {X : Cx} {cl : ClW} {W : WX}
end
end F3

set_option maxHeartbeats 3200000
/-! F3, part zzw: sorted(set(a list of texts)). -/
namespace F3
open PySem PySem.Spec PyProof.Rows L2
section
variable {P : Program} {w : World} {A : Around} {E : Value → Shared → Prop} {s : Shared} {a : Addr} {l : List Str} {k : Str} {u : Tok}
end
/-! ### sorted(set(list)) -/
section
variable {X : Cx} {cl : ClW} {W : WX} {e : Expr} {fa : Exs} {p p2 pos pos2 : Pos}
end
end F3

set_option maxHeartbeats 3200000
/-! F3, part zzx: list(range(i, j)); xs[::k]. -/
namespace F3
open PySem PySem.Spec PyProof.Rows L2
section
variable {X : Cx} {cl : ClW} {W : WX} {K : PySem.W.Frag} {as : As} {H : Hp} {st : Store}
end
/-! ### xs[::k] -/
section
variable {X : Cx} {cl : ClW} {W : WX} {K : PySem.W.Frag} {as : As} {H : Hp} {st : Store}
end
section
variable {X : Cx} {cl : ClW} {W : WX} {pos : Pos}
end
end F3

set_option maxHeartbeats 3200000
/-! F3, part zzy: sorted(list, key=lambda one: ..). -/
namespace F3
open PySem PySem.Spec PyProof.Rows L2

/-! ### a lambda of one parameter, called -/
section
variable {P : Program} {w : World} {K : PySem.W.Frag} {mg : Str → Option Value} {base : Heap} {cl : ClW}
theorem lam1_run {a q : Str} {params : Arguments} {body : Expr} {scope : Scope} {f c' : Addr} {pm ctv v : Value} {k : Nat} {A : Around} {outer : List PySem.Env} {s : Shared} {H : Hp} {Q : VK} {E : XK} {fB : Ex} {x : V} {d : D} {as : As} {st : Store}
    (hf : s.heap.get? f = some (PySem.W.kla_obj "<lambda>" q params body scope [] pm c' ctv)) (S : FnScope [a] [a] scope)
    (hbind : bindArgs (PySem.W.kla_fn "<lambda>" q params body scope [] pm (.ref c') ctv) ⟨[v], []⟩ = pure [(a, v)]) (hc : s.heap.CodeRec (.ref c') q)
    (hr : Room (k + 1) A) (hg : A.guards = some []) (e0 : Env0 P w K mg base A outer s H) (rv : RelV x v) (r : Rel K cl as H st) (sx : Sh K cl as H x d)
    (hb : Rm k (cxOf (L2.CX P w) P w K mg base [a] q scope f (.ref c') A outer s H E) → FE (cxOf (L2.CX P w) P w K mg base [a] q scope f (.ref c') A outer s H E) cl (fun c d _ H' => E c d H') body fB)
    (hq : Wt K cl (fun c d _ H' => E c d H') (L2.start [a] [x]) as H Q (fB [some d] st)) :
    codeAny (model P w) A (.call (.ref f) ⟨[v], []⟩) (CR (L2.CX P w) outer P w H s Q E) s := by
  have lim : s.heap.NoLimit := e0.mod.nolimit.keeps fun b o e => (e0.bs b o e).1
  refine PySem.W.kla_callFunE hr.depth hf rfl S.co S.gen rfl hc ?_
  rw [hbind]
  refine wpAny_pure (wpAny_newFunctionEnv_cells S.kind (fun y hy => ?_) fun env he s1 z => ?_)
  · obtain ⟨n, u⟩ := y
    rcases S.par n (List.of_mem_zip (show (n, u) ∈ [a].zip [v] from hy)).1 with q | q
    · exact .inl q
    · exact .inr ⟨q, PySem.W.cellsFrom_some _ _ _ (.inl q)⟩
  subst he
  refine ⟨lim.keeps z.toInCall.keep, ?_⟩
  have I : L2.Inv (cxOf (L2.CX P w) P w K mg base [a] q scope f (.ref c') A outer s H E) [] (L2.start [a] [x]) H s1 := inv_start S hr.hd e0 rfl (.cons rv .nil) z
  refine PySem.W.kla_codeExpr (wpAny_mono ((hb ⟨hr.deeper _, hg⟩).run [] s1 (L2.start [a] [x]) H Q I ⟨as, st, [some d], r, env_start (.cons sx .nil) rfl, hq⟩) (fun u s' hu => ?_) fun e s' hu => hu)
  obtain ⟨y, H', J, ry, qy⟩ := hu
  exact ⟨y, H', J.os, J.bare, J.base, J.hok, ry, qy⟩
end
/-! ### a list put in order by keys that are told: the heap behind it -/
section
open PySem.W PySem.Calls
variable {prog : Program} {w : World} {A : Around} {E : Value → Shared → Prop} {s : Shared} {a g : Addr} {vs : List Value} {ks : Array Value} {n m : Nat} {Z : PySem.Fin → Shared → Prop}
/-- both lists' objects at the end -/
abbrev endHeap (h : Heap) (g a : Addr) (ys : List Value) : Heap := (h.update g (Obj.mapSeq fun _ => (#[] : Array Value))).update a (Obj.mapSeq fun _ => ys.toArray)
theorem srt_tail {st : SortSt} {ys : List Value} (og : s.heap.get? g = some (seqObj "list" ks n)) (oa : s.heap.get? a = some (seqObj "list" #[] m)) (ne : a ≠ g) (l1 : ks.size ≤ sizeLine) (l2 : ys.length ≤ sizeLine)
    (nof : failedOf st = none) (is : (arrOf st).map (·.2) = ys.toArray) (hz : ∀ tk, Z (.done (.ret .none)) { s with heap := endHeap s.heap g a ys, toks := tk }) : wpAny (model prog w) A (ksk_tail a false m (.ref g) st) Z E s := by
  have oa2 : (s.heap.update g (Obj.mapSeq fun _ => (#[] : Array Value))).get? a = some (seqObj "list" #[] m) := ((Heap.SameBut.update s.heap g _).2 a ne).trans oa
  have l3 : ys.toArray.size ≤ sizeLine + 1 := by rw [List.size_toArray]; omega
  unfold ksk_tail
  try dsimp only
  refine wpAny_bind (listUpdate_at og rfl ?_ l1 (Nat.zero_le _))
  refine wpAny_bind (wpAny_letGo (wpAny_bind (seqEpoch_at oa2 rfl ?_)))
  rw [is]
  refine wpAny_bind (listUpdate_at oa2 rfl ?_ (Nat.zero_le _) l3)
  rw [nof]
  simp only [bne_self_eq_false, Bool.false_eq_true, if_false]
  exact wpAny_pure (hz _)
theorem srt_end {κ : PyProof.Rows.KeyKind} (og : s.heap.get? g = some (seqObj "list" ks n)) (oa : s.heap.get? a = some (seqObj "list" #[] m)) (ne : a ≠ g) (S : SortsAt prog w A s κ ks.toList) (eq : ks.size = vs.length) (lz : vs.length ≤ sizeLine)
    (hz : ∀ tk, Z (.done (.ret .none)) { s with heap := endHeap s.heap g a (sortVals κ false ks.toList vs), toks := tk }) : wpAny (model prog w) A (ksk_end a false vs.toArray m (.ref g) ks) Z E s := by
  obtain ⟨kd, h1, h2⟩ := S.kind
  have kl : ks.toList.length = vs.length := by rw [Array.length_toList, eq]
  have ko : PyProof.Rows.KeysOf κ (ks.zip vs.toArray) := keysOf_zip S.keys
  have ol : (sortVals κ false ks.toList vs).length = vs.length := sortVals_length false kl
  have zs : (ks.zip vs.toArray).size = vs.length := by rw [Array.size_zip, eq, List.size_toArray, Nat.min_self]
  have last : ∀ st : SortSt, (arrOf st).Perm (ks.zip vs.toArray) → SortedToK κ (arrOf st) (ks.zip vs.toArray).size → Stable κ (arrOf st) (ks.zip vs.toArray) → (arrOf st).map (·.2) = (sortVals κ false ks.toList vs).toArray := fun st p1 p2 p3 => by
    have e := congrArg List.toArray (sort_out (rev := false) (keys := ks) (items := vs.toArray) (xs := arrOf st) (κ := κ) ko p1 p2 p3)
    rw [Array.toArray_toList] at e
    exact e
  unfold ksk_end
  try dsimp only
  simp only [Bool.false_eq_true, if_false]
  by_cases few : vs.toArray.size < 2
  · rw [if_pos few, if_pos few]
    refine wpAny_bind (wpAny_pure ?_)
    rw [StateT.run_pure]
    refine wpAny_bind (wpAny_pure ?_)
    try dsimp only
    refine srt_tail (st := SortSt.mk' general' (ks.zip vs.toArray) #[] 7 none) og oa ne (by omega) (by omega) rfl (last _ (Array.Perm.refl _) (fun i j ij hj => ?_) (Stable.refl _)) hz
    rw [zs] at hj
    rw [List.size_toArray] at few
    have : i = j := by omega
    subst this
    exact KeyOrd.kle_refl _
  · rw [if_neg few, if_neg few]
    rw [List.size_toArray] at few
    refine wpAny_bind (h2 (by omega) _ ?_)
    refine wpAny_bind (wpAny_mono (H.wpS_sortRunsSt (κ := κ) (kd := kd) (a₀ := ks.zip vs.toArray) (st := SortSt.mk' kd (ks.zip vs.toArray) #[] 7 none)
      (Q := fun _ st => failedOf st = none ∧ (arrOf st).map (·.2) = (sortVals κ false ks.toList vs).toArray) h1 (ko.perm (Array.Perm.refl _)) ⟨Array.Perm.refl _, rfl, rfl⟩ rfl (Stable.refl _) (by rw [zs]; omega) fun st a1 a2 a3 a4 => ⟨a2, last st a1 a3 a4⟩) ?_ fun _ _ e => e)
    rintro ⟨⟨⟩, st⟩ s2 ⟨rfl, b1, b2⟩
    try dsimp only at b2 ⊢
    exact srt_tail og oa ne (by omega) (by omega) b1 b2 hz
/-- the keys are asked for, one by one; what stays is W -/
theorem srt_rest {f : Value} (W : Nat → Array Value → Shared → Prop) (w0 : W 0 #[] s) (hl : vs.length ≤ sizeLine)
    (at_ : ∀ i kA s', W i kA s' → (∃ n, s'.heap.get? g = some (seqObj "list" kA n)) ∧ s'.heap.get? a = some (seqObj "list" #[] m) ∧ kA.size = i)
    (turn : ∀ i v kA s', vs[i]? = some v → W i kA s' → wpAny (model prog w) A (call f [v]) (fun k s2 => ∃ kB n, kB.size = i ∧ s2.heap.get? g = some (seqObj "list" kB n) ∧ W (i + 1) (kB.push k) { s2 with heap := s2.heap.update g (Obj.mapSeq (·.push k)) }) (fun _ _ => False) s')
    (ne : a ≠ g) (fin : ∀ kA s', W vs.length kA s' → ∃ κ, SortsAt prog w A s' κ kA.toList ∧ ∀ tk, Z (.done (.ret .none)) { s' with heap := endHeap s'.heap g a (sortVals κ false kA.toList vs), toks := tk }) :
    wpAny (model prog w) A (ksk_rest a f false vs.toArray m (.ref g)) Z E s := by
  unfold ksk_rest
  refine wpAny_bind (wpAny_rule ?_)
  first
    | rw [List.forIn_toArray]
    | (rw [← Array.forIn_toList]; simp only [List.toList_toArray])
    | rw [← Array.forIn_toList]
  refine wpAny_bind (ksk_fold (fun i s' => ∃ kA, W i kA s') vs 0 s ⟨#[], w0⟩ ?st ?dn)
  case st =>
    rintro j x s' hx ⟨kA, hw⟩
    simp only [Nat.zero_add] at hw ⊢
    have hj : j < vs.length := (List.getElem?_eq_some_iff.mp hx).1
    refine wpAny_bind (wpAny_attempt (wpAny_mono (turn j x kA s' hx hw) (fun k s2 he => ?_) fun _ _ z => z.elim))
    obtain ⟨kB, n, hs, og, hw2⟩ := he
    try dsimp only
    refine wpAny_bind (listUpdate_at og rfl ?_ (by omega) (by rw [Array.size_push]; omega))
    exact wpAny_pure ⟨rfl, _, hw2⟩
  case dn =>
    rintro s' ⟨kA, hw⟩
    rw [Nat.zero_add] at hw
    obtain ⟨⟨n, og⟩, oa, hs⟩ := at_ _ _ _ hw
    obtain ⟨κ, S, hz⟩ := fin kA s' hw
    try dsimp only
    refine wpAny_bind (listItems_at og rfl ?_)
    exact srt_end og oa ne S hs hl hz
/-- the list's own object is empty meanwhile, the keys' list is a new one -/
theorem srt_tree {f : Value} {d : Nat} (oa : s.heap.get? a = some (seqObj "list" vs.toArray d)) (hl : vs.length ≤ sizeLine)
    (next : ∀ m, (s.heap.update a (Obj.mapSeq fun _ => (#[] : Array Value))).get? a = some (seqObj "list" #[] m) → wpAny (model prog w) A (ksk_rest a f false vs.toArray m (.ref ((s.heap.update a (Obj.mapSeq fun _ => (#[] : Array Value))).push (seqObj "tuple" vs.toArray 0)).objs.size)) Z E
      { s with heap := ((s.heap.update a (Obj.mapSeq fun _ => (#[] : Array Value))).push (seqObj "tuple" vs.toArray 0)).push (seqObj "list" #[] 0) }) : wpAny (model prog w) A (ksk_tree a f false) Z E s := by
  obtain ⟨m, om⟩ : ∃ m, (s.heap.update a (Obj.mapSeq fun _ => (#[] : Array Value))).get? a = some (seqObj "list" #[] m) := ⟨_, get?_update_seq oa fun _ => #[]⟩
  unfold ksk_tree
  refine wpAny_bind (listItems_at oa rfl ?_)
  refine wpAny_bind (listUpdate_at oa rfl ?_ (by rw [List.size_toArray]; exact hl) (Nat.zero_le _))
  refine wpAny_bind (seqEpoch_at om rfl ?_)
  refine wpAny_bind (wpAny_newTuple ?_ (by show vs.length ≤ _; exact hl))
  refine wpAny_bind (wpAny_newList ?_ (Nat.zero_le _))
  exact wpAny_holding (next m om)
end
/-! ### objects of nobody's, new since the frame began -/
section
variable {X : Cx} {pins : List (Addr × Obj)} {sg : L2.St} {H : Hp} {s : Shared}
structure Noone (X : Cx) (pins : List (Addr × Obj)) (a : Addr) : Prop where
  new : X.s_0.heap.objs.size ≤ a
  loc : a ≠ X.env.locals
  cel : ∀ x c, X.env.cells.lookup x = some c → c ≠ a
  pin : ∀ p ∈ X.pn ++ pins, p.1 ≠ a
  frs : a ∉ frs X.stack
theorem noone_of {a : Addr} (I : L2.Inv X pins sg H s) (h : s.heap.objs.size ≤ a) : Noone X pins a := by
  have lt := I.lt
  refine ⟨Nat.le_trans I.ok.above (Nat.le_trans (Nat.le_of_lt lt) h), fun z => ?_, fun x c e z => ?_, fun p hp z => ?_, fun z => (List.mem_cons.mp (I.stkSub _ z)).elim (fun e => ?_) fun e => I.nofs h e⟩
  · rw [z] at h
    exact Nat.lt_irrefl _ (Nat.lt_of_lt_of_le lt h)
  · obtain ⟨v, o, ho, _⟩ := I.cell x c e
    rw [z] at ho
    exact Nat.lt_irrefl _ (Nat.lt_of_lt_of_le (Heap.lt_size ho) h)
  · obtain ⟨e, _⟩ := I.pin p hp
    rw [z] at e
    exact Nat.lt_irrefl _ (Nat.lt_of_lt_of_le (Heap.lt_size e) h)
  · rw [e] at h
    exact Nat.lt_irrefl _ (Nat.lt_of_lt_of_le lt h)
theorem inv_turned {a : Addr} {h' : Heap} {t' : Nat} (I : L2.Inv X pins sg H s) (N : Noone X pins a) (hn : H a = none) (k : ∀ b u, b ≠ a → s.heap.get? b = some u → h'.get? b = some u) : L2.Inv X pins sg H { s with heap := h', toks := t' } :=
  I.turned k hn N.loc (.inr N.new) N.cel N.pin
theorem inv_track {a : Addr} {o : HO} {h' : Heap} {t' : Nat} (I : L2.Inv X pins sg H s) (N : Noone X pins a) (hn : H a = none) (k : ∀ b u, b ≠ a → s.heap.get? b = some u → h'.get? b = some u) (new : ObjOk X.prog X.w (upd H a o) h' a o) : L2.Inv X pins sg (upd H a o) { s with heap := h', toks := t' } := by
  have na : ∀ b u, H b = some u → b ≠ a := fun b u e z => by rw [z, hn] at e; cases e
  refine I.step (g' := s.gens) (d' := s.drawn) (ch := [a]) (fun b hb => ?_) (fun b o _ _ hc e _ => k b o (fun z => hc (by simp [z])) e) (fun b o _ _ hc e _ => ⟨o.slots, k b o (fun z => hc (by simp [z])) e⟩) (fun b _ hc _ n => by rw [upd_ne fun z => hc (by simp [z])]; exact n)
    (fun b o hc e => ⟨o, k b o (fun z => hc (by simp [z])) e⟩) (fun b _ e => by rw [upd_ne (na b _ e)]; exact e) (fun b _ _ e => by rw [upd_ne (na b _ e)]; exact e) (fun b ps e => ⟨#[], by rw [upd_ne (na b _ e), e]; simp⟩) (fun m hm => ?_) (fun b u e => ?_) I.bare
  · have e : b = a := by simpa using hb
    rw [e]
    exact ⟨.inr N.new, N.loc, N.cel, N.pin⟩
  · obtain ⟨o, es, ep, ho, r⟩ := hm
    exact ⟨o, es, ep, k _ o (Ne.symm N.loc) ho, r⟩
  · by_cases hb : b = a
    · rw [hb, upd_same] at e
      cases e
      rw [hb]
      exact new
    · rw [upd_ne hb] at e
      refine (I.hok b u e).stay (fun c v hc q => k c v ?_ q) (fun c q => by rw [upd_ne (na c _ q)]; exact q) fun c _ q => by rw [upd_ne (na c _ q)]; exact q
      rcases hc with z | z
      · rw [z]; exact na b u e
      · exact na c _ z
end
/-! ### sorted(list, key=lambda one: ..) -/
/-- what the lambda tells of one -/
def kyD (fB : Ex) (st : Store) (d : D) : D := match fB [some d] st with
  | .ok k _ => k
  | _ => .non
def kyP (fB : Ex) (st : Store) (d : D) : PyData := match kyD fB st d with
  | .tup [.int a, .int b, .str z] => .tuple [.int a, .int b, .str z]
  | _ => .none
def OkKy (fB : Ex) (st : Store) (d : D) : Prop := ∃ a b z, fB [some d] st = .ok (.tup [.int a, .int b, .str z]) st
noncomputable def srtD (fB : Ex) (st : Store) (ds : List D) : List D := ds.mergeSort (PySem.W.dataLe false (kyP fB st))
open Classical in
/-- by keys of two ints and a text; the def is xm, its lambdas' table stands at i -/
noncomputable def eSortM (i : Nat) (xm : String) (fB fo : Ex) : Ex := fun env st => (fo env st).bind fun x s => match listD s x with
  | some ds => if s[i]? = some (.tab xm) ∧ ds.length ≤ 1000 ∧ ∀ d ∈ ds, OkKy fB s d then .ok (.lst (srtD fB s ds)) s else .stuck
  | none => .stuck
section
variable {K : PySem.W.Frag} {cl : ClW} {as : As} {H : Hp} {st : Store} {fB : Ex}
theorem shl_zip : ∀ {xs : List V} {ds : List D}, ShL K cl as H xs ds → ∀ p ∈ xs.zip ds, Sh K cl as H p.1 p.2
  | _, _, .nil, p, hp => by cases hp
  | _, _, .cons a b, p, hp => by
    rw [List.zip_cons_cons] at hp
    rcases List.mem_cons.mp hp with rfl | hp
    · exact a
    · exact shl_zip b p hp
theorem shl_maps : ∀ {ps : List (V × D)}, (∀ p ∈ ps, Sh K cl as H p.1 p.2) → ShL K cl as H (ps.map (·.1)) (ps.map (·.2))
  | [], _ => .nil
  | p :: ps, h => .cons (h p List.mem_cons_self) (shl_maps fun q hq => h q (List.mem_cons_of_mem _ hq))
theorem vals_zip : ∀ {xs : List V} {us : List Value} {ds : List D}, Vals xs us → xs.length = ds.length → PySem.W.EachIs (fun (u : Value) (p : V × D) => RelV p.1 u) us (xs.zip ds)
  | _, _, [], .nil, _ => .nil
  | _, _, d :: ds, .cons r q, h => .cons r (vals_zip q (by simpa using h))
theorem vals_maps : ∀ {us : List Value} {ps : List (V × D)}, PySem.W.EachIs (fun (u : Value) (p : V × D) => RelV p.1 u) us ps → Vals (ps.map (·.1)) us
  | _, _, .nil => .nil
  | _, _, .cons a b => .cons a (vals_maps b)
theorem ky_ok {d : D} (h : OkKy fB st d) : ∃ a b z, kyD fB st d = .tup [.int a, .int b, .str z] ∧ kyP fB st d = .tuple [.int a, .int b, .str z] := by
  obtain ⟨a, b, z, e⟩ := h
  have e1 : kyD fB st d = .tup [.int a, .int b, .str z] := by unfold kyD; rw [e]
  exact ⟨a, b, z, e1, by unfold kyP; rw [e1]⟩
theorem ky_trip : ∀ {ds : List D}, (∀ d ∈ ds, OkKy fB st d) → ∃ ts : List (Int × Int × Str), ds.map (kyP fB st) = ts.map (fun t => PyData.tuple [.int t.1, .int t.2.1, .str t.2.2]) ∧ pyTL (ds.map (kyD fB st)) = some (ds.map (kyP fB st))
  | [], _ => ⟨[], rfl, rfl⟩
  | d :: ds, h => by
    obtain ⟨ts, h1, h2⟩ := ky_trip (ds := ds) fun x hx => h x (List.mem_cons_of_mem _ hx)
    obtain ⟨a, b, z, e1, e2⟩ := ky_ok (h d List.mem_cons_self)
    refine ⟨(a, b, z) :: ts, by rw [List.map_cons, List.map_cons, h1, e2], ?_⟩
    rw [List.map_cons, List.map_cons, e1, e2]
    show (pyT (.tup [.int a, .int b, .str z])).bind (fun p => (pyTL (ds.map (kyD fB st))).map (p :: ·)) = _
    rw [h2]
    rfl
end
section
variable {X : Cx} {cl : ClW} {W : WX}
def rSortM (X : Cx) (cl : ClW) (i : Nat) (xm : String) (fB : Ex) : List V → Hp → VK → Prop := fun xs H Q => ∃ (x : V) (as : As) (st : Store) (dx : D) (ds : List D), xs = [x] ∧ Rel X.K cl as H st ∧ Sh X.K cl as H x dx ∧ listD st dx = some ds ∧ st[i]? = some (.tab xm) ∧ ds.length ≤ 1000 ∧ (∀ d ∈ ds, OkKy fB st d) ∧
  ∀ as' H' v, Le as H as' H' → Rel X.K cl as' H' st → Sh X.K cl as' H' v (.lst (srtD fB st ds)) → Q v H'
theorem imp_sortM {i : Nat} {xm : String} {fB fo : Ex} {Q : VK} {sg : L2.St} {H : Hp} (q0 : tF X.K cl W (eSortM i xm fB fo) sg H Q) : tFs X.K cl W (aCons fo aNil) sg H fun vs H1 => rSortM X cl i xm fB vs H1 Q := by
  obtain ⟨as, st, env, r0, er, q⟩ := q0
  refine ⟨as, st, env, r0, er, ?_⟩
  show Wts X.K cl W sg as H _ ((fo env st).bind fun d s1 => (aNil env s1).bind fun ds s2 => .ok (d :: ds) s2)
  unfold eSortM at q
  cases e0 : fo env st with
  | stuck => rw [e0] at q; exact q
  | exn cc fs s => rw [e0] at q; exact q
  | ok x s =>
    rw [e0] at q
    intro as1 H1 vs l1 r1 x1
    cases x1 with
    | cons y1 y2 =>
      cases y2
      have q1 := Wt.up l1 q
      simp only [Res.bind] at q1
      cases e1 : listD s x with
      | none => rw [e1] at q1; exact q1.elim
      | some ds =>
        rw [e1] at q1
        by_cases hi : s[i]? = some (.tab xm) ∧ ds.length ≤ 1000 ∧ ∀ d ∈ ds, OkKy fB s d
        · simp only [if_pos hi] at q1
          exact ⟨_, as1, s, x, ds, rfl, r1, y1, e1, hi.1, hi.2.1, hi.2.2, fun as' H' v l r sv => q1 as' H' v l r sv⟩
        · simp only [if_neg hi] at q1
          exact q1.elim
theorem clo_nil {cells : List (Str × Addr)} {names : List (Str × NameKind)} (h : ∀ y ∈ names, y.2 ≠ .free) : cloFrom cells names [] = [] := by
  refine List.eq_nil_iff_forall_not_mem.mpr fun p hp => ?_
  obtain ⟨n, c⟩ := p
  rcases cloFrom_mem hp with hm | ⟨hm, _⟩
  · cases hm
  · exact h _ hm rfl
theorem fe_sortK {k i : Nat} {xm : String} {a : Str} {params : Arguments} {body o : Expr} {fB fo : Ex} {scope : Scope} {p lpos kpos pos : Pos}
    (hg : Gl X "sorted") (hm : X.mg "sorted" = none) (hr : Rm (k + 4) X)
    (TB : LamX.TabB X.base X.mg (He.cT X.K (Str.ofString xm, none)).1 (He.cT X.K (Str.ofString xm, none)).2) (hcode : X.env.code = .ref (He.cT X.K (Str.ofString xm, none)).1) (hq : X.env.qual ++ "<lambda>" = lamQ xm)
    (S : FnScope [a] [a] scope) (nf : ∀ y ∈ scope.names, y.2 ≠ .free) (hdef : defaultsOf params X.env = ([], []))
    (hbind : ∀ (q : Str) (cs : List (Str × Addr)) (pm cv ctv v : Value), bindArgs (PySem.W.kla_fn "<lambda>" q params body scope cs pm cv ctv) ⟨[v], []⟩ = pure [(a, v)])
    (hbody : ∀ (A : Around) (outer : List PySem.Env) (s : Shared) (H : Hp) (E : XK) (f c' : Addr), Rm k (cxOf (L2.CX X.prog X.w) X.prog X.w X.K X.mg X.base [a] (lamQ xm) scope f (.ref c') A outer s H E) → FE (cxOf (L2.CX X.prog X.w) X.prog X.w X.K X.mg X.base [a] (lamQ xm) scope f (.ref c') A outer s H E) cl (fun c d _ H' => E c d H') body fB)
    (ho : FE X cl W o fo) (he : starEach [o] X.env = (false, eval o X.env) :: starEach [] X.env := by rfl) (hpl : (backTo pos (starEach [o] X.env)).any (·.1) = false := by rfl) :
    FE X cl W (.Call (.Name "sorted" p) [o] [⟨some "key", .Lambda params body scope lpos, kpos⟩] pos) (eSortM i xm fB fo) := by
  refine ⟨fun pins s sg H Q I h => ?_⟩
  have h := imp_sortM h
  refine wpAny_Call_Name_kw (ld_blt I hg hm (show bootBuiltins "sorted" = some (.builtin "sorted") by decide +kernel) ?_ (by decide) (by decide))
  refine PyProof.Rows.callWith_kw (thn ((fa_cons ho fa_nil he).pa.run pos pins s sg H _ I h) fun us s1 ⟨vs, H1, I1, rv, q1⟩ => ?_) (by rw [he]; rfl) hpl (by rfl) (by rfl)
  obtain ⟨x, as, st, dx, ds, rfl, r, sx, hl, hi, hlen, hk, q⟩ := q1
  obtain ⟨u, rfl, ru⟩ := rv.one
  show wpAny _ _ (evalAll ((do let v ← eval (.Lambda params body scope lpos) X.env; standAt pos; pure v) :: (backToKw pos (keywordEach [] X.env)).map (·.2))) _ _ s1
  refine wpAny_evalAll_cons (wpAny_bind ?_)
  have hi0 : i < as.c.length := by rw [r.len]; exact (List.getElem?_eq_some_iff.mp hi).1
  have hP0 : as.c[i]? = some as.c[i] := List.getElem?_eq_getElem hi0
  generalize as.c[i] = P at hP0
  cases r.cell i P _ hP0 hi with
  | tab eP hP ht hC =>
    subst eP
    refine lam_make3 I1 TB hcode hP ht (fun pos cv z => let ⟨c, a1, _, a3⟩ := hC pos cv z; ⟨c, a1, a3⟩) hq hdef (fun y hy e => absurd e (nf y hy)) fun f c' pm ctv H2 s2 ps' I2 u1 u2 u3 u4 u5 u6 hf hfn hfr => ?_
    refine wpAny_bind (wpAny_standAt (wpAny_pure ?_))
    refine wpAny_evalAll_nil ?_
    obtain ⟨le, r2, nc⟩ := r.lam hP0 hi hP rfl hC u1 u2 u3 u4 u5 u6
    rw [clo_nil nf] at hf
    obtain ⟨l, xs, rfl, hsq, hsh⟩ := listD_sq r2 hl (sx.up le)
    obtain rfl : u = Value.ref l := ru
    obtain ⟨its, rvs, hlist, hz⟩ := I2.list hsq
    show wpAny _ _ (call (.builtin "sorted") [.ref l] [(Str.ofString "key", .ref f)]) _ _ s2
    have hxl : xs.length = ds.length := hsh.length
    have hil : its.length = ds.length := rvs.length.symm.trans hxl
    have hsz : ds.length ≤ sizeLine := by rw [sizeLine_eq]; omega
    refine PySem.W.sorted_of_sort (vs := its) hlist.isList (by omega) (PyProof.Rows.ksk_s1 _ _) (fun _ => PyProof.Rows.ksk_l1 _ _) fun E' => ?_
    rw [PyProof.Rows.ksk_t1]
    generalize ha0 : s2.heap.objs.size + 1 = a0
    have oa0 : (PySem.W.copyHeap s2.heap its).get? a0 = some (seqObj "list" its.toArray 0) := by rw [← ha0]; exact PySem.W.copyHeap_at _ _
    refine srt_tree (s := { s2 with heap := PySem.W.copyHeap s2.heap its }) oa0 (by omega) fun m om => ?_
    generalize hs3 : (({ s2 with heap := (((PySem.W.copyHeap s2.heap its).update a0 (Obj.mapSeq fun _ => (#[] : Array Value))).push (seqObj "tuple" its.toArray 0)).push (seqObj "list" #[] 0) } : Shared)) = s3
    generalize hg0 : (((PySem.W.copyHeap s2.heap its).update a0 (Obj.mapSeq fun _ => (#[] : Array Value))).push (seqObj "tuple" its.toArray 0)).objs.size = g
    have old : ∀ b o, s2.heap.get? b = some o → s3.heap.get? b = some o := fun b o e => by
      rw [← hs3]
      refine Heap.get?_push_of_some _ (Heap.get?_push_of_some _ ?_)
      have hb : b ≠ a0 := fun z => by
        have h1 : b < s2.heap.objs.size := Heap.lt_size e
        rw [z, ← ha0] at h1
        exact Nat.lt_irrefl _ (Nat.lt_of_succ_lt h1)
      exact ((Heap.SameBut.update _ a0 _).2 b hb).trans (PySem.W.copyHeap_old e)
    have oa3 : s3.heap.get? a0 = some (seqObj "list" #[] m) := by
      rw [← hs3]
      exact Heap.get?_push_of_some _ (Heap.get?_push_of_some _ om)
    have og3 : s3.heap.get? g = some (seqObj "list" #[] 0) := by
      rw [← hs3, ← hg0]
      exact Heap.get?_push_size _ rfl
    have I3 : L2.Inv X pins sg H2 s3 := by
      have z := I2.kept (t' := s2.toks) (h' := s3.heap) old
      rw [← hs3] at z ⊢
      exact z
    have hga : s2.heap.objs.size ≤ a0 := by rw [← ha0]; exact Nat.le_succ _
    have hag : a0 < g := by
      have h1 : a0 < (PySem.W.copyHeap s2.heap its).objs.size := Heap.lt_size oa0
      have h2 : (PySem.W.copyHeap s2.heap its).objs.size + 1 = g := by rw [← hg0, PyProof.Rows.size_push', Heap.size_update]
      rw [← h2]
      exact Nat.lt_succ_of_lt h1
    have hgg : s2.heap.objs.size < g := Nat.lt_of_le_of_lt hga hag
    have ne : a0 ≠ g := Nat.ne_of_lt hag
    have Na := noone_of I2 hga
    have Ng := noone_of I2 (Nat.le_of_lt hgg)
    have na : H2 a0 = none := I2.hok.fresh hga
    have ng : H2 g = none := I2.hok.fresh (Nat.le_of_lt hgg)
    refine srt_rest (fun n kA s' => ∃ (as' : As) (H' : Hp) (zs : List V) (e : Nat), L2.Inv X pins sg H' s' ∧ Le as H2 as' H' ∧ Rel X.K cl as' H' st ∧ H' a0 = none ∧ H' g = none ∧ s'.heap.get? g = some (seqObj "list" kA e) ∧ s'.heap.get? a0 = some (seqObj "list" #[] m) ∧ kA.size = n ∧ Vals zs kA.toList ∧
      ShL X.K cl as' H' zs ((ds.take n).map (kyD fB st)) ∧ s'.heap.get? f = some (PySem.W.kla_obj "<lambda>" (lamQ xm) params body scope [] pm c' ctv) ∧ H' f = none) ?_ (by omega) ?_ ?_ ne ?_
    · exact ⟨as, H2, [], 0, I3, Le.refl, r2, na, ng, og3, oa3, rfl, .nil, .nil, old _ _ hf, hfn⟩
    · rintro n kA s' ⟨as', H', zs, e, -, -, -, -, -, og, oa, hs, -⟩
      exact ⟨⟨e, og⟩, oa, hs⟩
    · rintro n v kA s' hv ⟨as', H', zs, e, I', le', r', na', ng', og, oa, hs, vz, sz, of, hfn'⟩
      have hn : n < its.length := (List.getElem?_eq_some_iff.mp hv).1
      have hxn : xs[n]? = some xs[n] := List.getElem?_eq_getElem (by omega)
      have hdn : ds[n]? = some ds[n] := List.getElem?_eq_getElem (by omega)
      obtain ⟨v2, hv2, rx⟩ := rvs.get hxn
      obtain rfl : v2 = v := Option.some.inj (hv2.symm.trans hv)
      have sxd : Sh X.K cl as' H' xs[n] ds[n] := (shl_zip hsh (xs[n], ds[n]) (List.mem_of_getElem? (i := n) (by rw [List.getElem?_zip_eq_some]; exact ⟨hxn, hdn⟩))).up le'
      obtain ⟨ka, kb, kz, hkd⟩ := hk ds[n] (List.getElem_mem _)
      have hC' : H' c' = some (LamX.CodeO c' (lamQ xm)) := (le'.keep c' _ nc u5).1
      obtain ⟨⟨oc, ovs, t, hoc, hdc, hvc⟩, _, _⟩ := I'.hok c' _ hC'
      refine wpAny_call (codeAny_mono (lam1_run (A := X.A.in1.in1) (outer := X.stack) (Q := fun z0 H0 => ∃ as0, Le as' H' as0 H0 ∧ Rel X.K cl as0 H0 st ∧ Sh X.K cl as0 H0 z0 (.tup [.int ka, .int kb, .str kz])) (E := fun _ _ _ => False) of S (hbind _ _ _ _ _ _) ⟨c', oc, ovs, t, rfl, hoc, hdc, hvc⟩
        (hr.rm.in1.in1.mono (by omega)) hr.gd I'.env0.in1.in1 rx r' sxd (fun hr2 => hbody _ _ _ _ _ _ _ hr2) ?_) fun rs s4 hq4 => ?_)
      · rw [hkd]
        exact fun as0 H0 v0 l0 r0 x0 => ⟨as0, l0, r0, x0⟩
      · cases rs with
        | error e => obtain ⟨_, _, _, _, _, _, _, _, _, _, _, _, z⟩ := hq4; exact z.elim
        | ok fl =>
          cases fl with
          | ret w0 =>
            obtain ⟨z0, H0, os, ab, un, hok, rz, as0, l0, r0, x0⟩ := hq4
            have I4 : L2.Inv X pins sg H0 s4 := by
              obtain ⟨v9, H9, I9, _, e9, e8⟩ := I'.after (Q := fun z H => z = z0 ∧ H = H0) ⟨z0, H0, os, ab, un, hok, rz, rfl, rfl⟩
              rw [e8] at I9
              exact I9
            have no : ∀ b : Addr, b ∉ ([] : List Addr) := fun b z => nomatch z
            have og4 := un.keep g _ og ng' Ng.frs (no g)
            have oa4 := un.keep a0 _ oa na' Na.frs (no a0)
            have of4 := un.keep f _ of hfn' hfr (no f)
            have na4 := un.free a0 _ oa na' (no a0)
            have ng4 := un.free g _ og ng' (no g)
            have nf4 := un.free f _ of hfn' (no f)
            have same := Heap.SameBut.update s4.heap g (Obj.mapSeq (·.push w0))
            have nfg : f ≠ g := fun z => by
              rw [z, og] at of
              have h1 := congrArg (Option.map Obj.cls) of
              simp [seqObj, PySem.W.kla_obj] at h1
            obtain ⟨e5, he5⟩ : ∃ e5, (s4.heap.update g (Obj.mapSeq (·.push w0))).get? g = some (seqObj "list" (kA.push w0) e5) := ⟨_, PyProof.Rows.get?_update_seq og4 (·.push w0)⟩
            refine ⟨kA, e, hs, og4, as0, H0, zs ++ [z0], e5, inv_turned (t' := s4.toks) I4 Ng ng4 (fun b o hb eb => (same.2 b hb).trans eb), le'.trans l0, r0, na4, ng4, he5, (same.2 a0 ne).trans oa4, by rw [Array.size_push, hs], ?_, ?_, (same.2 f nfg).trans of4, nf4⟩
            · rw [Array.toList_push]
              exact vz.append (.cons rz .nil)
            · have tk : (ds.take (n + 1)).map (kyD fB st) = (ds.take n).map (kyD fB st) ++ [.tup [.int ka, .int kb, .str kz]] := by
                rw [List.take_succ_eq_append_getElem (by omega), List.map_append]
                show _ ++ [kyD fB st ds[n]] = _
                unfold kyD
                rw [hkd]
              rw [tk]
              exact (sz.up l0).append (.cons x0 .nil)
          | next => exact False.elim hq4
          | brk => exact False.elim hq4
          | cont => exact False.elim hq4
    · rintro kA s' ⟨as', H', zs, e, I', le', r', na', ng', og, oa, hs, vz, sz, of, hfn'⟩
      rw [show ds.take its.length = ds from List.take_of_length_le (by omega)] at sz
      obtain ⟨ts, ht1, ht2⟩ := ky_trip hk
      obtain ⟨bs, rd, _⟩ := readsTL I' ht2 sz vz
      have er : PySem.W.EachIs (fun v k => ∃ as, Reads s'.heap v k as) kA.toList (ds.map (kyP fB st)) := PySem.W.readsAll_each (enc := id) (bs := ds.map (kyP fB st)) (by rw [List.map_id]; exact rd)
      have al : PySem.W.AllAlike (ds.map (kyP fB st)) := by rw [ht1]; exact PySem.W.AllAlike.of fun _ _ => by simp [PySem.W.alike, PySem.W.alikeAll]
      have so : PySem.W.Sortable (ds.map (kyP fB st)) := by rw [ht1]; exact PySem.W.Sortable.tuples fun _ => ⟨_, _, rfl⟩
      refine ⟨PySem.W.dataKind s'.heap (ds.map (kyP fB st)), PySem.W.SortsAt.data er al so fun d hd => ?_, fun tk => ⟨rfl, ?_⟩⟩
      · rw [ht1] at hd
        obtain ⟨y, _, rfl⟩ := List.mem_map.mp hd
        have h1 : (PyData.tuple [.int y.1, .int y.2.1, .str y.2.2]).depth = 1 := by simp [PyData.depth, PyData.depthAll]
        rw [h1]
        have := hr.rm.in1.in1.units
        omega
      · have ko : PySem.W.KeyedOut false ((xs.zip ds).map fun p => kyP fB st p.2) its (PySem.W.sortVals (PySem.W.dataKind s'.heap (ds.map (kyP fB st))) false kA.toList its) := by
          have em : (xs.zip ds).map (fun p => kyP fB st p.2) = ds.map (kyP fB st) := by
            have e1 : (xs.zip ds).map (fun p => kyP fB st p.2) = ((xs.zip ds).map (·.2)).map (kyP fB st) := by rw [List.map_map]; rfl
            rw [e1, List.map_snd_zip (by omega)]
          rw [em]
          exact ⟨s'.heap, kA.toList, al, rfl, er⟩
        have eo := PySem.W.keyedOut_each (β := V × D) (bs := xs.zip ds) (fun p => kyP fB st p.2) ko (vals_zip rvs hxl)
        generalize PySem.W.sortVals (PySem.W.dataKind s'.heap (ds.map (kyP fB st))) false kA.toList its = ys at eo
        obtain ⟨qs, hqs⟩ : ∃ qs, qs = (xs.zip ds).mergeSort (PySem.W.dataLe false fun p => kyP fB st p.2) := ⟨_, rfl⟩
        rw [← hqs] at eo
        have hperm : qs.Perm (xs.zip ds) := by rw [hqs]; exact List.mergeSort_perm _ _
        have hsnd : qs.map (·.2) = srtD fB st ds := by
          rw [hqs, List.map_mergeSort (r := PySem.W.dataLe false fun p : V × D => kyP fB st p.2) (s := PySem.W.dataLe false (kyP fB st)) (f := fun p : V × D => p.2) (fun _ _ _ _ => rfl), List.map_snd_zip (by omega)]
          rfl
        have hol : (qs.map (·.1)).length ≤ sizeLine := by
          rw [List.length_map, hperm.length_eq, List.length_zip]
          omega
        have s1 := Heap.SameBut.update s'.heap g (Obj.mapSeq fun _ => (#[] : Array Value))
        have s2' := Heap.SameBut.update (s'.heap.update g (Obj.mapSeq fun _ => (#[] : Array Value))) a0 (Obj.mapSeq fun _ => ys.toArray)
        obtain ⟨e6, he6⟩ : ∃ e6, (endHeap s'.heap g a0 ys).get? a0 = some (seqObj "list" ys.toArray e6) := ⟨_, PyProof.Rows.get?_update_seq ((s1.2 a0 ne).trans oa) fun _ => ys.toArray⟩
        have I5 := inv_turned (t' := s'.toks) I' Ng ng' (fun b o hb eb => (s1.2 b hb).trans eb)
        have I6 := inv_track (t' := tk) (o := .lst (qs.map (·.1))) (h' := endHeap s'.heap g a0 ys) I5 Na na' (fun b o hb eb => (s2'.2 b hb).trans eb) ⟨hol, ys, e6, vals_maps eo, he6⟩
        have shs : ShL X.K cl as' H' (qs.map (·.1)) (srtD fB st ds) := by
          rw [← hsnd]
          exact shl_maps fun p hp => (shl_zip hsh p (hperm.mem_iff.mp hp)).up le'
        exact ⟨.ref a0, _, I6, rfl, q as' _ (.ref a0) (le.trans (le'.trans (Le.new r' na'))) (r'.new na') (.lst (.inl ⟨r'.fresh na', .inl upd_same⟩) (shs.up (Le.new r' na')))⟩
end
end F3

set_option maxHeartbeats 3200000
/-! F3, part zzz: repr of lists of instances with an own __repr__. -/
namespace F3
open PySem PySem.Spec PyProof.Rows L2

section
variable {P : Program} {w : World} {K : PySem.W.Frag} {mg : Str → Option Value} {base : Heap} {cl : ClW}
/-- a def by its body, whatever is being shown around it -/
theorem okU {x qual : Str} {params : Arguments} {body : List Stmt} {scope : Scope} {dvs : List V} {kws : List (Str × V)} {f : Addr} {fd : FuncData} {N ps : List Str} {k m : Nat} {b : Sm}
    (F : FunD K x qual params body scope dvs kws f fd) (S : FnScope N ps scope) (hm : N.length - ps.length = m)
    (hb : ∀ (cdv : Value) (A : Around) (outer : List PySem.Env) (s : Shared) (H : Hp) (E : XK), FSs (cxOf (L2.CX P w) P w K mg base N qual scope f cdv A outer s H E) cl (fun c d _ H' => E c d H') body b) :
    FnOk P w K mg base (L2.CX P w) (k + 1) f fd ps (spF K cl ps.length (fn m b)) := by
  refine L2.FunD.ok F S (fun vs H Q E h => ?_) fun cdv A outer s H vs Q E _ hsp => ?_
  · obtain ⟨as, st, ds, hl, _, hs, _⟩ := h
    rw [hs.length, hl]
  · refine ⟨_, hb cdv A outer s H E, ?_⟩
    obtain ⟨as, st, ds, hl, r, hs, hq⟩ := hsp
    refine ⟨as, st, ds.map some ++ List.replicate m none, r, env_start hs (by rw [hs.length, hl]; exact hm), ?_⟩
    unfold fn at hq
    cases e : b (ds.map some ++ List.replicate m none) st with
    | nx env' st' =>
      rw [e] at hq
      exact fun as' H' sg' l r' _ => hq as' H' .non l r' .non
    | rt d st' =>
      rw [e] at hq
      exact hq
    | bk env' st' => rw [e] at hq; exact hq.elim
    | ct env' st' => rw [e] at hq; exact hq.elim
    | ex c fs env' st' =>
      rw [e] at hq
      exact fun as' H' sg' cls d l r' _ x => hq as' H' cls d l r' x
    | stuck => rw [e] at hq; exact hq.elim
end
/-- as CalM, whatever is being shown -/
structure CalU (P : Program) (w : World) (K : PySem.W.Frag) (mg : Str → Option Value) (base : Heap) (cl : ClW) (k : Nat) (c : String) (mn : String) (f : Addr) (fd : FuncData) (ps : List Str) (m : List D → Store → Res D) : Prop where
  G : FnOk P w K mg base (L2.CX P w) k f fd ps (spF K cl ps.length m)
  kc : Cls K (cl c)
  me : Meth K (cl c) (Str.ofString mn) f
section
open PySem.W
variable {M : Model} {A : Around} {E : Value → Shared → Prop} {s : Shared} {K : Frag} {x C f : Addr} {ox : Obj} {od : Option Obj} {name : Str}
theorem ifBoundBy_own {last : Value → List Value → Sem Value} {Q : Option Value → Shared → Prop} (X : K.In s.heap) (I : InstAt s.heap x ox C od) (hs : findIn K (.ref C) name = some (some (.ref f))) (hf : isFn K (.ref f) = true)
    (h : wpAny M A (last (.ref f) [.ref x]) (fun v => Q (some v)) E s) : wpAny M A (callSpecialIfBoundBy? last (.ref x) name) Q E s := by
  simp only [callSpecialIfBoundBy?, bindSpecialIfBound?]
  refine wpAny_holding (wpAny_bind (wpAny_bind (wpAny_bind (I.type.here ((looks_findIn X hs).here ?_)))))
  refine wpAny_bind (wpAny_askSetting (wpAny_ite ?_))
  have fin : wpAny M A (last (.ref f) [.ref x] >>= fun v => pure (some v)) Q E s := wpAny_bind (wpAny_mono h (fun v s' z => wpAny_pure z) fun _ _ z => z)
  split
  · exact wpAny_bind ((bind_fn X _ (beq_iff_eq.mp hf)).here (wpAny_pure (by exact fin)))
  · exact wpAny_tryCatch (wpAny_bind ((bind_fn X _ (beq_iff_eq.mp hf)).here (wpAny_pure (by exact fin))))
end
section
variable {X : Cx} {cl : ClW} {k : Nat} {f : Addr} {fd : FuncData} {ps : List Str} {m : List D → Store → Res D} {c : String}
/-- what is kept while things are shown: the store, and what nobody tracks -/
structure Kept (X : Cx) (cl : ClW) (pins : List (Addr × Obj)) (sg : L2.St) (as : As) (H : Hp) (st : Store) (s s' : Shared) (as' : As) (H' : Hp) : Prop where
  I : L2.Inv X pins sg H' s'
  l : Le as H as' H'
  r : Rel X.K cl as' H' st
  un : ∀ b o, H b = none → b ∉ frs X.stack → s.heap.get? b = some o → s'.heap.get? b = some o ∧ H' b = none
theorem Kept.trans {pins : List (Addr × Obj)} {sg : L2.St} {as as' as2 : As} {H H' H2 : Hp} {st : Store} {s s' s2 : Shared} (a : Kept X cl pins sg as H st s s' as' H') (b : Kept X cl pins sg as' H' st s' s2 as2 H2) : Kept X cl pins sg as H st s s2 as2 H2 :=
  ⟨b.I, a.l.trans b.l, b.r, fun x o h1 h2 h3 => let ⟨e, n⟩ := a.un x o h1 h2 h3; b.un x o n h2 e⟩
/-- shown below something else that is being shown -/
structure Below (X : Cx) (A : Around) (g : List Code) (j : Nat) : Prop where
  gd : A.guards = some g
  fr : A.frames = some X.stack
  rm : Room j A
theorem rep_ins {A' : Around} {g : List Code} {j n : Nat} (C : CalU X.prog X.w X.K X.mg X.base cl k c "__repr__" f fd ps m) (hb : KB X.K cl fd ps 1 [] (fun ds _ => ds)) (B : Below X A' g j) (hj : k ≤ j) {pins : List (Addr × Obj)} {s : Shared} {sg : L2.St} {H : Hp} {as : As} {st : Store} {x : V} {v : Value} {dx : D} {y : Str} {E : Value → Shared → Prop}
    (I : L2.Inv X pins sg H s) (r : Rel X.K cl as H st) (rv : RelV x v) (sx : Sh X.K cl as H x dx) (hi : isOf c "__repr__" st dx = true) (em : m [dx] st = .ok (.str y) st) (hn : n ≤ sizeLine) {Q : Str → Shared → Prop}
    (hQ : ∀ s' as' H', Kept X cl pins sg as H st s s' as' H' → Q y s') : wpAny (model X.prog X.w) A' (pyReprUnder n v) Q E s := by
  obtain ⟨a, dxx, fv, rfl, ha, hl⟩ := meth_at r hi sx
  obtain rfl : v = Value.ref a := rv
  obtain ⟨mA, J, _⟩ := ins_get I.hok ha
  obtain ⟨od, J, _⟩ := J.look
  have e0 : Env0 X.prog X.w X.K X.mg X.base A' X.stack s H := ⟨B.fr, I.env0.mod, I.env0.bs, I.env0.bsz, I.env0.funs, I.env0.frf, I.env0.hok, I.env0.bare⟩
  refine wpAny_pyReprUnder_ref hn ?_
  unfold pyReprObjUnder pyReprObjBy
  refine wpAny_bind (wpAny_cRoomFor B.rm.units0 ?_)
  refine wpAny_bind (m := specialOf (.ref a) (Str.ofString "__repr__")) (wpAny_bind (J.type.here ((PySem.W.looks_findIn I.kIn C.me.at_).here ?_)))
  show wpAny _ _ (if (some (Value.ref f)).isNone = true then _ else _) _ _ _
  rw [if_neg (by simp)]
  refine wpAny_bind (m := callSpecialIfBoundBy? _ (.ref a) (Str.ofString "__repr__")) (ifBoundBy_own I.kIn J C.me.at_ C.me.fn ?_)
  show wpAny _ _ (call (.ref f) ([.ref a] ++ [])) _ _ _
  obtain ⟨xs, hbi, hsh⟩ := hb.to s [.ref a] [] I.kIn rfl rfl
  obtain ⟨ys, ry2, sy2, ly⟩ := hsh as H st [.ref a] [] [dx] [] r (.cons rfl .nil) .nil (.cons sx .nil) .nil
  refine wpAny_call (codeAny_mono (C.G.run A' X.stack s H ⟨[.ref a], []⟩ xs ys (fun v0 H0 => ∃ as', Le as H as' H0 ∧ Rel X.K cl as' H0 st ∧ Sh X.K cl as' H0 v0 (.str y)) (fun _ _ _ => False) (B.rm.mono hj) e0 hbi ry2 ⟨as, st, [dx], ly, r, sy2, ?_⟩) fun r' s' hq => ?_)
  · rw [em]
    exact fun as' H' v0 l' r' x' => ⟨as', l', r', x'⟩
  · cases r' with
    | error e => obtain ⟨_, _, _, _, _, _, _, _, _, _, _, _, z⟩ := hq; exact z.elim
    | ok fl =>
      cases fl with
      | ret w0 =>
        obtain ⟨z0, H0, os, ab, un, hok, rz, as0, l0, r0, x0⟩ := hq
        have I4 : L2.Inv X pins sg H0 s' := by
          obtain ⟨v9, H9, I9, _, e9, e8⟩ := I.after (Q := fun z H => z = z0 ∧ H = H0) ⟨z0, H0, os, ab, un, hok, rz, rfl, rfl⟩
          rw [e8] at I9
          exact I9
        cases x0
        obtain ⟨t, rfl⟩ : ∃ t, w0 = Value.str y t := rz
        have no : ∀ b : Addr, b ∉ ([] : List Addr) := fun b z => nomatch z
        have fin : ∃ x u, Value.str y t = .str x u ∧ Q x s' := ⟨y, t, rfl, hQ s' as0 H0 ⟨I4, l0, r0, fun b o h1 h2 h3 => ⟨un.keep b o h3 h1 h2 (no b), un.free b o h3 h1 (no b)⟩⟩⟩
        refine wpAny_bind (wpAny_isInstance (typeIs_str _ _ _) isSubtype_str_str ?_)
        first
          | exact wpAny_pure fin
          | (rw [if_pos rfl]; exact wpAny_pure fin)
          | (simp only [if_true]; exact wpAny_pure fin)
      | next => exact False.elim hq
      | brk => exact False.elim hq
      | cont => exact False.elim hq
theorem below_loop {A : Around} {g : List Code} {j : Nat} {args : Args} (B : Below X A g (j + 1)) : Below X (A.under (.builtin "list.__repr__.loop" args)) (.builtin "list.__repr__.loop" args :: g) j := by
  refine ⟨guards_under_guard (isGuard_list_loop _) B.gd, ?_, ?_, ?_, ?_⟩
  · have h1 := B.fr
    first | exact h1 | (rw [← h1]; rfl) | simp [Around.under, Code.frames, h1]
  · have h1 := B.rm.hd
    first | exact h1 | (rw [← h1]; rfl) | simp [Around.under, h1]
  · have h1 := B.rm.dp
    have h3 : (Code.builtin "list.__repr__.loop" args).weight = 1 := by
      have c1 : (Code.builtin "list.__repr__.loop" args).frames = 0 := by first | rfl | decide +kernel
      have c2 : (Code.builtin "list.__repr__.loop" args).isCreation = false := by first | rfl | decide +kernel
      have c3 : (Code.builtin "list.__repr__.loop" args).isCaller = false := by first | rfl | (show (_ : Bool) = false; decide +kernel) | simp [Code.isCaller]
      unfold Code.weight
      rw [c1, c2, c3, isGuard_list_loop]
      rfl
    have h2 : (A.under (.builtin "list.__repr__.loop" args)).depth = A.depth + 1 := by simp [Around.under, h3]
    rw [h2]
    omega
  · have h1 := B.rm.un
    rw [units_under_list_loop]
    omega
/-- shown so, wherever it stands -/
def ShownAs (X : Cx) (cl : ClW) (pins : List (Addr × Obj)) (sg : L2.St) (st : Store) (G : As → Hp → Prop) (j : Nat) (g : List Code) (d : D) (t : Str) : Prop :=
  ∀ (A' : Around) (n : Nat) (s : Shared) (as : As) (H : Hp) (x : V) (v : Value) (E : Value → Shared → Prop) (Q : Str → Shared → Prop), Below X A' g j → L2.Inv X pins sg H s → Rel X.K cl as H st → G as H → RelV x v → Sh X.K cl as H x d → n + t.length ≤ sizeLine →
    (∀ s' as' H', Kept X cl pins sg as H st s s' as' H' → Q t s') → wpAny (model X.prog X.w) A' (pyReprUnder n v) Q E s
theorem rep_loop {A : Around} {g : List Code} {j base a : Nat} {pins : List (Addr × Obj)} {sg : L2.St} {st : Store} {dx : D} {ds : List D} {ts : List Str} {P : Addr} {R : Result → Shared → Prop} (B : Below X A g (j + 1)) (hl : listD st dx = some ds) (hts : ts.length = ds.length)
    (items : ∀ (i : Nat) (d : D), ds[i]? = some d → ∃ t, ts[i]? = some t ∧ ∀ args, ShownAs X cl pins sg st (fun as H => Sh X.K cl as H (.ref a) dx) j (.builtin "list.__repr__.loop" ⟨.ref a :: args, []⟩ :: g) d t) (hsz : base + (listText ts).length ≤ sizeLine) (NP : Noone X pins P) :
    ∀ (k i : Nat) (s : Shared) (as : As) (H : Hp) (acc : Array Value) (c : Nat) (done : List (Str × Tok)), ds.length - i = k → i ≤ ds.length → L2.Inv X pins sg H s → Rel X.K cl as H st → Sh X.K cl as H (.ref a) dx → H P = none →
    s.heap.get? P = some { cls := .type "list", dict := none, data := .seq acc c, slots := #[] } → acc.toList = strValues done → done.map (·.1) = ts.take i →
    (∀ s2 as2 H2 u, L2.Inv X pins sg H2 s2 → Le as H as2 H2 → Rel X.K cl as2 H2 st → (∀ b o, b ≠ P → H b = none → b ∉ frs X.stack → s.heap.get? b = some o → s2.heap.get? b = some o ∧ H2 b = none) → R (.ok (.ret (.str (listText ts) u))) s2) →
    codeAny (model X.prog X.w) A (.builtin "list.__repr__.loop" ⟨[.ref a, rawInt i, .ref P, rawInt ((base + piled (ts.take i) : Nat) : Int)], []⟩) R s := by
  have hX : (listText ts).length = (textFrom 0 "[" ts).length + 1 := by
    show (textFrom 0 "[" ts ++ "]").length = _
    rw [strLen_append]; rfl
  have hL := textFrom_len ts 0 "["
  have l1 : ds.length ≤ sizeLine := by
    have h1 := hL.1
    rw [if_neg (Nat.lt_irrefl 0)] at h1
    omega
  have l2 : ∀ t ∈ ts, t.length ≤ sizeLine := fun t ht => by
    have := hL.2.1 t ht
    omega
  have l3 : (listText ts).length ≤ sizeLine := by omega
  have hp3 := piled_le_listText ts
  intro k
  induction k with
  | zero =>
    intro i s as H acc c done hk hi I r sa hP oP ha hd hR
    have hin : i = ds.length := by omega
    obtain ⟨p, xs, ep, hsq, hsh⟩ := listD_sq r hl sa
    cases ep
    obtain ⟨its, rv, hli, _⟩ := I.list hsq
    obtain ⟨oa, oae, oac, na, oad⟩ := hli.isList
    have hil : its.length = ds.length := rv.length.symm.trans hsh.length
    refine codeAny_builtin F.entry_list_repr_loop ?_
    show wpAny _ _ (Builtin.«list.__repr__.loop» ⟨[.ref a, .int i 0, .ref P, .int ((base + piled (ts.take i) : Nat) : Int) 0], []⟩) _ _ s
    rw [repr_loop_tree]
    refine wpAny_bind (wpAny_listItems oae oad ?_)
    have hnone : its.toArray[(i : Int).toNat]? = none := by simp [hin, hil]
    simp only [hnone]
    unfold reprEnd
    refine wpAny_bind (wpAny_listItems oP rfl ?_)
    rw [ha, repr_fold]
    refine wpAny_bind (wpAny_pure ?_)
    rw [show done.map (·.1) = ts from by rw [hd, hin, ← hts, List.take_length]]
    refine wpAny_bind (wpAny_mkStr (wpAny_pure ?_) l3)
    exact hR _ as H _ (I.tok _) Le.refl r fun b o _ h1 _ h3 => ⟨h3, h1⟩
  | succ k ih =>
    intro i s as H acc c done hk hi I r sa hP oP ha hd hR
    have hlt : i < ds.length := by omega
    obtain ⟨p, xs, ep, hsq, hsh⟩ := listD_sq r hl sa
    cases ep
    obtain ⟨its, rv, hli, _⟩ := I.list hsq
    obtain ⟨oa, oae, oac, na, oad⟩ := hli.isList
    have hxl := hsh.length
    have hil : its.length = ds.length := rv.length.symm.trans hxl
    have hxn : xs[i]? = some xs[i] := List.getElem?_eq_getElem (by omega)
    have hdn : ds[i]? = some ds[i] := List.getElem?_eq_getElem hlt
    obtain ⟨v, hv, rx⟩ := rv.get hxn
    have sxd : Sh X.K cl as H xs[i] ds[i] := shl_zip hsh (xs[i], ds[i]) (List.mem_of_getElem? (i := i) (by rw [List.getElem?_zip_eq_some]; exact ⟨hxn, hdn⟩))
    obtain ⟨t, ht, hrep⟩ := items i ds[i] hdn
    have hp1 := piled_take_succ ht
    have hp2 := piled_take_le ts (i + 1)
    refine codeAny_builtin F.entry_list_repr_loop ?_
    show wpAny _ _ (Builtin.«list.__repr__.loop» ⟨[.ref a, .int i 0, .ref P, .int ((base + piled (ts.take i) : Nat) : Int) 0], []⟩) _ _ s
    rw [repr_loop_tree]
    refine wpAny_bind (wpAny_listItems oae oad ?_)
    have hsome : its.toArray[(i : Int).toNat]? = some v := by simpa using hv
    simp only [hsome]
    rw [Int.toNat_natCast]
    refine wpAny_bind (wpAny_holding (hrep _ _ (base + piled (ts.take i) + 1) s as H xs[i] v _ _ (below_loop B) I r sa rx sxd (by omega) fun s' as' H' kp => ?_))
    refine wpAny_bind (wpAny_mkStr ?_ (l2 t (List.mem_of_getElem? ht)))
    refine wpAny_bind ?_
    show wpAny _ _ (updateSeq P _) _ _ _
    have hasz : acc.size ≤ sizeLine := by
      have e1 : acc.toList.length = acc.size := by simp
      have e2 : (strValues done).length = done.length := by simp [strValues]
      have e3 : done.length = (ts.take i).length := by rw [← hd, List.length_map]
      have e4 : (ts.take i).length ≤ i := by rw [List.length_take]; omega
      rw [ha] at e1
      omega
    obtain ⟨oP', hP'⟩ := kp.un P _ hP NP.frs oP
    refine wpAny_updateSeq oP' rfl (wpAny_pure ⟨F.quiet_list_repr_loop _, ?_⟩) hasz
    have e1 : ((i : Int) + 1) = ((i + 1 : Nat) : Int) := by omega
    have e2 : base + piled (ts.take i) + (t.length + 2) = base + piled (ts.take (i + 1)) := by omega
    rw [e1, e2]
    have other : ∀ b o, b ≠ P → s'.heap.get? b = some o → (s'.heap.update P (Obj.mapSeq (·.push (.str t s'.toks)))).get? b = some o := fun b o hb eb => ((Heap.SameBut.update s'.heap P _).2 b hb).trans eb
    refine ih (i + 1) _ as' H' (acc.push (.str t s'.toks)) _ (done ++ [(t, s'.toks)]) (by omega) hlt (inv_turned (t' := s'.toks + 1) (kp.I.tok (s'.toks + 1)) NP hP' other) kp.r (sa.up kp.l) hP' (Heap.get?_update_self _ oP' rfl) (by simp [ha, strValues]) (by simp [List.take_add_one, ht, hd]) fun s2 as2 H2 u I2 le2 r2 un2 => ?_
    exact hR s2 as2 H2 u I2 (kp.l.trans le2) r2 fun b o hb h1 h2 h3 => let ⟨x1, x2⟩ := kp.un b o h1 h2 h3; un2 b o hb x2 h2 (other b o hb x1)
theorem rep_at {A : Around} {g : List Code} {j base a : Nat} {pins : List (Addr × Obj)} {sg : L2.St} {as : As} {H : Hp} {st : Store} {s : Shared} {dx : D} {ds : List D} {ts : List Str} {R : Result → Shared → Prop} (B : Below X A g (j + 1)) (hno : ∀ v rest kw, Code.builtin "list.__repr__.loop" ⟨v :: rest, kw⟩ ∈ g → Builtin.List.listSameRef v (.ref a) = false)
    (I : L2.Inv X pins sg H s) (r : Rel X.K cl as H st) (sa : Sh X.K cl as H (.ref a) dx) (hl : listD st dx = some ds) (hne : ds ≠ []) (hts : ts.length = ds.length)
    (items : ∀ (i : Nat) (d : D), ds[i]? = some d → ∃ t, ts[i]? = some t ∧ ∀ args, ShownAs X cl pins sg st (fun as H => Sh X.K cl as H (.ref a) dx) j (.builtin "list.__repr__.loop" ⟨.ref a :: args, []⟩ :: g) d t) (hsz : base + (listText ts).length ≤ sizeLine)
    (hR : ∀ s2 as2 H2 u, Kept X cl pins sg as H st s s2 as2 H2 → R (.ok (.ret (.str (listText ts) u))) s2) :
    wpAny (model X.prog X.w) A.in1 (Builtin.listReprAt base ⟨[.ref a], []⟩) (fun fin s' => match fin with | .done f => R (.ok f) s' | .again c' => c'.quiet = true ∧ codeAny (model X.prog X.w) A c' R s') (fun e s' => R (.error e) s') s := by
  obtain ⟨p, xs, ep, hsq, hsh⟩ := listD_sq r hl sa
  cases ep
  obtain ⟨its, rv, hli, _⟩ := I.list hsq
  obtain ⟨oa, oae, oac, na, oad⟩ := hli.isList
  have hil : its.length = ds.length := rv.length.symm.trans hsh.length
  obtain ⟨y, l, ey⟩ : ∃ y l, its = y :: l := by
    cases its with
    | nil => exact absurd (List.length_eq_zero_iff.mp hil.symm) hne
    | cons y l => exact ⟨y, l, rfl⟩
  rw [ey] at oad
  refine wpAny_list_repr_head (A := A.in1) (g := g) B.gd hno oae oad ?_
  refine wpAny_bind (m := newList []) (wpAny_newObj_type ?_)
  refine wpAny_pure ⟨F.quiet_list_repr_loop _, ?_⟩
  have NP := noone_of I (Nat.le_refl s.heap.objs.size)
  have hP : H s.heap.objs.size = none := I.hok.fresh (Nat.le_refl _)
  refine rep_loop (P := s.heap.objs.size) B hl hts items hsz NP _ 0 _ as H #[] _ [] rfl (Nat.zero_le _) (I.kept (t' := s.toks) fun b o e => Heap.get?_push_of_some _ e) r sa hP (Heap.get?_push_size _ rfl) rfl (by simp) fun s2 as2 H2 u I2 l2 r2 un => ?_
  exact hR s2 as2 H2 u ⟨I2, l2, r2, fun b o h1 h2 h3 => un b o (Nat.ne_of_lt (Heap.lt_size h3)) h1 h2 (Heap.get?_push_of_some _ h3)⟩
/-- an instance within a list that is shown -/
theorem shown_ins {g : List Code} {j : Nat} {pins : List (Addr × Obj)} {sg : L2.St} {st : Store} {d : D} {t : Str} {G : As → Hp → Prop} (C : CalU X.prog X.w X.K X.mg X.base cl k c "__repr__" f fd ps m) (hb : KB X.K cl fd ps 1 [] (fun ds _ => ds)) (hj : k ≤ j) (hi : isOf c "__repr__" st d = true) (em : m [d] st = .ok (.str t) st) :
    ShownAs X cl pins sg st G j g d t := fun A' n s as H x v E Q B I r _ rv sx hn hQ => rep_ins C hb B hj I r rv sx hi em (by omega) hQ
/-- a list of instances, within a list of such lists -/
theorem shown_list {j p0 : Nat} {pins : List (Addr × Obj)} {sg : L2.St} {st : Store} {d d0 : D} {ds ds0 : List D} {ts : List Str} {a0 : List Value} (C : CalU X.prog X.w X.K X.mg X.base cl k c "__repr__" f fd ps m) (hb : KB X.K cl fd ps 1 [] (fun ds _ => ds)) (hj : k ≤ j) (hl : listD st d = some ds) (hts : ts.length = ds.length)
    (hi : ∀ (i : Nat) (x : D), ds[i]? = some x → ∃ t, ts[i]? = some t ∧ isOf c "__repr__" st x = true ∧ m [x] st = .ok (.str t) st) (hl0 : listD st d0 = some ds0) (hd0 : d ∈ ds0) (hall : ∀ x ∈ ds0, ∃ xs, listD st x = some xs) :
    ShownAs X cl pins sg st (fun as H => Sh X.K cl as H (.ref p0) d0) (j + 1) [.builtin "list.__repr__.loop" ⟨.ref p0 :: a0, []⟩] d (listText ts) := by
  intro A' n s as H x v E Q B I r s0 rv sx hn hQ
  obtain ⟨a, xs, rfl, hsq, hsh⟩ := listD_sq r hl sx
  obtain rfl : v = Value.ref a := rv
  obtain ⟨its, rvs, hli, _⟩ := I.list hsq
  obtain ⟨oa, oae, oac, na, oad⟩ := hli.isList
  have hil : its.length = ds.length := rvs.length.symm.trans hsh.length
  by_cases he : ds = []
  · subst he
    have e0 : its = [] := List.length_eq_zero_iff.mp hil
    have et : ts = [] := List.length_eq_zero_iff.mp hts
    subst et
    rw [e0] at oad
    exact wpAny_pyReprUnder_ref (by omega) (wpAny_pyReprObjUnder_list_empty ⟨oa, oae, oac⟩ B.rm.units0 oae oad ⟨_, _, rfl, hQ _ as H ⟨I.tok _, Le.refl, r, fun b o h1 _ h3 => ⟨h3, h1⟩⟩⟩)
  · have hne : p0 ≠ a := by
      intro z
      obtain ⟨p1, xs0, e1, hsq0, hsh0⟩ := listD_sq r hl0 s0
      cases e1
      subst z
      obtain ⟨its0, rv0, hli0, _⟩ := I.list hsq0
      obtain ⟨ob, obe, obc, nb, obd⟩ := hli0.isList
      rw [oae] at obe
      cases obe
      rw [oad] at obd
      have ei : its = its0 := by
        have := (Data.seq.inj obd).1
        exact List.toArray_inj this
      subst ei
      obtain ⟨i, hi0⟩ := List.getElem?_of_mem hd0
      have hdl : 0 < ds.length := List.length_pos_iff.mpr he
      have hxl := hsh.length
      have hxl0 := hsh0.length
      have hvl := rvs.length
      have hvl0 := rv0.length
      have hx1 : xs[0]? = some xs[0] := List.getElem?_eq_getElem (by omega)
      have hx0 : xs0[0]? = some xs0[0] := List.getElem?_eq_getElem (by omega)
      obtain ⟨v1, hv1, r1⟩ := rvs.get hx1
      obtain ⟨v0, hv0, r0⟩ := rv0.get hx0
      rw [hv1] at hv0
      cases hv0
      have hd1 : ds[0]? = some ds[0] := List.getElem?_eq_getElem hdl
      have hd2 : ds0[0]? = some ds0[0] := List.getElem?_eq_getElem (by omega)
      have sh1 : Sh X.K cl as H xs[0] ds[0] := shl_zip hsh (xs[0], ds[0]) (List.mem_of_getElem? (i := 0) (by rw [List.getElem?_zip_eq_some]; exact ⟨hx1, hd1⟩))
      have sh0 : Sh X.K cl as H xs0[0] ds0[0] := shl_zip hsh0 (xs0[0], ds0[0]) (List.mem_of_getElem? (i := 0) (by rw [List.getElem?_zip_eq_some]; exact ⟨hx0, hd2⟩))
      obtain ⟨t, _, hio, _⟩ := hi 0 _ hd1
      obtain ⟨b, dxx, fv, eb, hb1, _⟩ := meth_at r hio sh1
      rw [eb] at r1
      obtain rfl : v1 = Value.ref b := r1
      obtain ⟨ys, hys⟩ := hall _ (List.mem_of_getElem? hd2)
      obtain ⟨b2, zs, eb2, hsq2, _⟩ := listD_sq r hys sh0
      rw [eb2] at r0
      obtain rfl : b = b2 := Value.ref.inj r0
      obtain ⟨its2, _, hli2, _⟩ := I.list hsq2
      obtain ⟨oc, oce, occ, _⟩ := hli2.isList
      obtain ⟨mA, J, _⟩ := ins_get I.hok hb1
      obtain ⟨od, J, _⟩ := J.look
      have hcls := J.at_
      rw [oce] at hcls
      have h5 := J.cls
      cases hcls
      rw [occ] at h5
      cases h5
    refine wpAny_pyReprUnder_ref (by omega) (wpAny_pyReprObjUnder_twin (twin := "list.__repr__.under") ⟨oa, oae, oac⟩ F.slot_list_repr.toG rfl B.rm.units0 ?_)
    refine call_twin_plain F.plain_list_repr_under F.entry_list_repr_under F.check_list_repr_under ⟨oa, oae, oac⟩ F.slot_list_repr.toG (F.args_list_repr_1 _) ?_
    refine rep_at (R := callEnd _ _) B (fun v rest kw hm => ?_) I r sx hl he hts (fun i y hy => ?_) hn fun s2 as2 H2 u kp => ?_
    · rcases List.mem_cons.mp hm with e | hm
      · cases e
        exact listSameRef_of_ne fun z => hne (Value.ref.inj z)
      · cases hm
    · obtain ⟨t, h1, h2, h3⟩ := hi i y hy
      exact ⟨t, h1, fun args => shown_ins C hb hj h2 h3⟩
    · exact ⟨⟨_, _, rfl⟩, _, _, rfl, hQ s2 as2 H2 kp⟩
end
/-! ### repr([list, ..]) -/
def RepL (c : String) (m : List D → Store → Res D) (st : Store) (d : D) (t : Str) : Prop := ∃ (ds : List D) (ts : List Str), listD st d = some ds ∧ ts.length = ds.length ∧ (∀ (i : Nat) (x : D), ds[i]? = some x → ∃ t, ts[i]? = some t ∧ isOf c "__repr__" st x = true ∧ m [x] st = .ok (.str t) st) ∧ t = listText ts
def RepLL (c : String) (m : List D → Store → Res D) (st : Store) (d : D) (t : Str) : Prop := ∃ (ds : List D) (ts : List Str), listD st d = some ds ∧ ds ≠ [] ∧ ts.length = ds.length ∧ (∀ (i : Nat) (x : D), ds[i]? = some x → ∃ t, ts[i]? = some t ∧ RepL c m st x t) ∧ t = listText ts ∧ t.length ≤ sizeLine
theorem RepL.one {c : String} {m : List D → Store → Res D} {st : Store} {d : D} {t t' : Str} (h : RepL c m st d t) (h' : RepL c m st d t') : t = t' := by
  obtain ⟨ds, ts, h1, h2, h3, rfl⟩ := h
  obtain ⟨ds', ts', g1, g2, g3, rfl⟩ := h'
  rw [h1] at g1
  cases g1
  have : ts = ts' := List.ext_getElem? fun i => by
    by_cases hi : i < ds.length
    · obtain ⟨a, a1, a2, a3⟩ := h3 i _ (List.getElem?_eq_getElem hi)
      obtain ⟨b, b1, b2, b3⟩ := g3 i _ (List.getElem?_eq_getElem hi)
      rw [a3] at b3
      cases b3
      rw [a1, b1]
    · rw [List.getElem?_eq_none (by omega), List.getElem?_eq_none (by omega)]
  rw [this]
theorem RepLL.one {c : String} {m : List D → Store → Res D} {st : Store} {d : D} {t t' : Str} (h : RepLL c m st d t) (h' : RepLL c m st d t') : t = t' := by
  obtain ⟨ds, ts, h1, h0, h2, h3, rfl, _⟩ := h
  obtain ⟨ds', ts', g1, g0, g2, g3, rfl, _⟩ := h'
  rw [h1] at g1
  cases g1
  have : ts = ts' := List.ext_getElem? fun i => by
    by_cases hi : i < ds.length
    · obtain ⟨a, a1, a2⟩ := h3 i _ (List.getElem?_eq_getElem hi)
      obtain ⟨b, b1, b2⟩ := g3 i _ (List.getElem?_eq_getElem hi)
      rw [a1, b1, a2.one b2]
    · rw [List.getElem?_eq_none (by omega), List.getElem?_eq_none (by omega)]
  rw [this]
open Classical in
noncomputable def eReprLL (c : String) (m : List D → Store → Res D) (fo : Ex) : Ex := fun env st => (fo env st).bind fun x s => if h : ∃ t, RepLL c m s x t then .ok (.str (Classical.choose h)) s else .stuck
theorem reprLL_eq {c : String} {m : List D → Store → Res D} {fo : Ex} {env : Env} {st s : Store} {x : D} {t : Str} (h1 : fo env st = .ok x s) (h : RepLL c m s x t) : eReprLL c m fo env st = .ok (.str t) s := by
  have hx : ∃ t, RepLL c m s x t := ⟨t, h⟩
  unfold eReprLL
  rw [h1]
  simp only [Res.bind]
  rw [dif_pos hx, (Classical.choose_spec hx).one h]
section
variable {X : Cx} {cl : ClW} {W : WX} {k : Nat} {f : Addr} {fd : FuncData} {ps : List Str} {m : List D → Store → Res D} {c : String}
def rReprLL (X : Cx) (cl : ClW) (c : String) (m : List D → Store → Res D) : List V → Hp → VK → Prop := fun xs H Q => ∃ (x : V) (as : As) (st : Store) (dx : D) (t : Str), xs = [x] ∧ Rel X.K cl as H st ∧ Sh X.K cl as H x dx ∧ RepLL c m st dx t ∧ ∀ as' H', Le as H as' H' → Rel X.K cl as' H' st → Q (.str t) H'
theorem call_reprLL (C : CalU X.prog X.w X.K X.mg X.base cl k c "__repr__" f fd ps m) (hr : Rm (k + 5) X) (hb : KB X.K cl fd ps 1 [] (fun ds _ => ds)) : CallR X (.builtin "repr") (rReprLL X cl c m) := by
  intro pins s sg H xs us Q I rx h
  obtain ⟨x, as, st, dx, t0, rfl, r, sx, ⟨ds, ts, hl, hne, hts, hit, rfl, hsz⟩, q⟩ := h
  obtain ⟨u, rfl, ru⟩ := rx.one
  obtain ⟨a, xs, rfl, hsq, hsh⟩ := listD_sq r hl sx
  obtain rfl : u = Value.ref a := ru
  obtain ⟨its, rv, hli, _⟩ := I.list hsq
  obtain ⟨oa, oae, oac, na, oad⟩ := hli.isList
  have hTy : s.TypeIs (.ref a) "list" := ⟨oa, oae, oac⟩
  have B : Below X X.A.in1 [] (k + 1 + 1 + 1) := ⟨hr.gd, I.env0.frames, hr.rm.in1.mono (by omega)⟩
  refine Calls.call_function_entry PySem.F.kind_repr PySem.F.plain_repr PySem.F.entry_repr (PySem.F.args_repr1 _) ?_
  unfold Builtin.«repr»
  refine wpAny_bind (m := oneArg "repr" _) (wpAny_pure ?_)
  refine wpAny_bind (wpAny_cRoomFor hr.rm.in1.units0 ?_)
  refine wpAny_bind (m := specialOf (.ref a) (Str.ofString "__repr__")) (wpAny_specialOf (name := Str.ofString "__repr__") hTy F.slot_list_repr.lookup ?_)
  refine wpAny_bind (m := callSpecialIfBound? (.ref a) (Str.ofString "__repr__") _) (wpAny_callSpecialIfBound?_slot (name := Str.ofString "__repr__") hTy F.slot_list_repr ?_)
  refine wpAny_call (codeAny_call_builtin F.slot_list_repr.plain F.entry_list_repr (F.slot_list_repr.check _ _ _ _ _ _ _ _ hTy (F.args_list_repr_1 _) (rep_at (base := 0) (R := callEnd _ _) B (fun v rest kw hm => by cases hm) I r sx hl hne hts (fun i y hy => ?_) (by omega) fun s2 as2 H2 u kp => ?_)))
  · obtain ⟨t, ht, ds1, ts1, g1, g2, g3, rfl⟩ := hit i y hy
    refine ⟨_, ht, fun args => shown_list C hb (by omega) g1 g2 g3 hl (List.mem_of_getElem? hy) fun z hz => ?_⟩
    obtain ⟨i2, hi2⟩ := List.getElem?_of_mem hz
    obtain ⟨_, _, ds2, _, e2, _⟩ := hit i2 z hi2
    exact ⟨ds2, e2⟩
  · have fin : ∃ v H', L2.Inv X pins sg H' s2 ∧ RelV v (Value.str (listText ts) u) ∧ Q v H' := ⟨.str (listText ts), H2, kp.I, ⟨u, rfl⟩, q as2 H2 kp.l kp.r⟩
    show callEnd _ _ (.ok (.ret (.str (listText ts) u))) s2
    refine wpAny_bind (wpAny_isInstance (typeIs_str _ _ _) isSubtype_str_str ?_)
    first
      | exact wpAny_pure ⟨_, rfl, fin⟩
      | (rw [if_pos rfl]; exact wpAny_pure ⟨_, rfl, fin⟩)
      | (simp only [if_true]; exact wpAny_pure ⟨_, rfl, fin⟩)
theorem imp_reprLL {fo : Ex} {Q : VK} {sg : L2.St} {H : Hp} (q0 : tF X.K cl W (eReprLL c m fo) sg H Q) : tFs X.K cl W (aCons fo aNil) sg H fun vs H1 => rReprLL X cl c m vs H1 Q := by
  obtain ⟨as, st, env, r0, er, q⟩ := q0
  refine ⟨as, st, env, r0, er, ?_⟩
  show Wts X.K cl W sg as H _ ((fo env st).bind fun d s1 => (aNil env s1).bind fun ds s2 => .ok (d :: ds) s2)
  unfold eReprLL at q
  cases e0 : fo env st with
  | stuck => rw [e0] at q; exact q
  | exn cc fs s => rw [e0] at q; exact q
  | ok x s =>
    rw [e0] at q
    intro as1 H1 vs l1 r1 x1
    cases x1 with
    | cons y1 y2 =>
      cases y2
      have q1 := Wt.up l1 q
      simp only [Res.bind] at q1
      by_cases hi : ∃ t, RepLL c m s x t
      · rw [dif_pos hi] at q1
        exact ⟨_, as1, s, x, _, rfl, r1, y1, Classical.choose_spec hi, fun as' H' l r => q1 as' H' _ l r (.str _)⟩
      · rw [dif_neg hi] at q1
        exact q1.elim
theorem fe_reprLL {fo : Ex} {e : Expr} {p pos : Pos} (C : CalU X.prog X.w X.K X.mg X.base cl k c "__repr__" f fd ps m) (hr : Rm (k + 5) X) (hb : KB X.K cl fd ps 1 [] (fun ds _ => ds)) (hg : Gl X "repr") (hm : X.mg "repr" = none) (ho : FE X cl W e fo)
    (he : starEach [e] X.env = (false, eval e X.env) :: starEach [] X.env := by rfl) (hpl : (backTo pos (starEach [] X.env)).any (·.1) = false := by rfl) :
    FE X cl W (.Call (.Name "repr" p) [e] [] pos) (eReprLL c m fo) := PE.w (pe_callB (call_reprLL C hr hb) hg hm (by decide +kernel) (fa_cons ho fa_nil he).pa (by decide) (by decide) he hpl) fun sg H Q q => imp_reprLL q
end
/-! ### list.count by an own __eq__ -/
section
open PySem.SeqAt GQ
open AutoSeq1 (wpAny_loadPart')
open MeetsSeq MeetsSeq2 MeetsSeq3 SeqRoads2
variable {prog : Program} {w : World} {A : Around} {R : Result → Shared → Prop} {E : Value → Shared → Prop} {s : Shared}
def CntI (prog : Program) (w : World) (A : Around) (R : Result → Shared → Prop) (l : Addr) (x : Value) (N : Nat) (I : Nat → Int → Shared → Prop) : Prop :=
  ∀ i n s, I i n s → ∃ (items : Array Value) (e : Nat) (dd : Option Addr) (sl : Array (Option Value)), s.heap.get? l = some { cls := .type "list", dict := dd, data := .seq items e, slots := sl } ∧ items.size = N ∧
    ∀ (h1 : i < items.size), wpAny (model prog w) A.in1 (eqBool items[i] x) (fun r s' => I (i + 1) (if r = true then n + 1 else n) s') (fun e s' => R (.error e) s') s
theorem cnt_loopG (l : Addr) (x : Value) (N : Nat) (I : Nat → Int → Shared → Prop) (hl : CntI prog w A R l x N I) (fin : ∀ n s, I N n s → R (.ok (.ret (.int n s.toks))) { s with toks := s.toks + 1 }) (k : Nat) :
    ∀ (i : Nat) (n : Int), N - i = k → i ≤ N → ∀ s, I i n s → wpAny (model prog w) A.in1 (Builtin.«list.count.loop» ⟨[.ref l, x, rawInt i, rawInt n], []⟩) (FinOf prog w A R) (fun e s' => R (.error e) s') s := by
  induction k with
  | zero =>
    intro i n hk hi s h
    obtain ⟨items, e, dd, sl, hl1, hs1, _⟩ := hl _ _ _ h
    have hi' : i = N := by omega
    have hR := fin n s (hi' ▸ h)
    obtain ⟨hp, g, d, tk, os⟩ := s
    wp_walk using wpAny_loadPart' hl1
    have hi1 : items[((i : Nat) : Int).toNat]? = none := by simp; omega
    rw [hi1]
    wp_walk
    simpa using hR
  | succ k ih =>
    intro i n hk hi s h
    obtain ⟨items, e, dd, sl, hl1, hs1, turn⟩ := hl _ _ _ h
    have hlt : i < items.size := by omega
    have ht := turn hlt
    obtain ⟨hp, g, d, tk, os⟩ := s
    wp_walk using wpAny_loadPart' hl1
    have hi1 : items[((i : Nat) : Int).toNat]? = some items[i] := by simp [hlt]
    have hc : ((i : Int) + 1) = ((i + 1 : Nat) : Int) := by omega
    rw [hi1]
    refine wpAny_bind (wpAny_mono ht (fun r s2 h2 => ?_) fun _ _ x => x)
    have hrec := ih (i + 1) _ (by omega) (by omega) s2 h2
    obtain ⟨hp2, g2, d2, tk2, os2⟩ := s2
    cases r with
    | false =>
      wp_walk
      rw [hc]
      exact ⟨plainId_quiet plain_count_loop _, codeAny_builtin entry_count_loop (by
        rw [Around.under_plainId plain_count_loop _]
        exact hrec)⟩
    | true =>
      wp_walk
      rw [hc]
      exact ⟨plainId_quiet plain_count_loop _, codeAny_builtin entry_count_loop (by
        rw [Around.under_plainId plain_count_loop _]
        exact hrec)⟩
theorem list_cntG (l : Addr) (x : Value) (N : Nat) (I : Nat → Int → Shared → Prop) (hl : CntI prog w A R l x N I) (fin : ∀ n s, I N n s → R (.ok (.ret (.int n s.toks))) { s with toks := s.toks + 1 }) {s : Shared} (h : I 0 0 s) :
    wpAny (model prog w) A.in1 (Builtin.«list.count» ⟨[.ref l, x], []⟩) (FinOf prog w A R) (fun e s' => R (.error e) s') s := by
  obtain ⟨items, e, dd, sl, hl1, hs1, _⟩ := hl _ _ _ h
  have hrec := cnt_loopG (A := A) (R := R) l x N I hl fin _ 0 0 rfl (Nat.zero_le _) s h
  obtain ⟨hp, g, d, tk, os⟩ := s
  wp_walk using wpAny_loadPart' hl1
  exact ⟨plainId_quiet plain_count_loop _, codeAny_builtin entry_count_loop (by
    rw [Around.under_plainId plain_count_loop _]
    exact hrec)⟩
end
def cntN (c : String) (m : List D → Store → Res D) (x y : D) (n : Nat) : Nat → Int → Store → Res D
  | 0, a, st => (match listD st y with
    | some ds => if ds.length = n then .ok (.int a) st else .stuck
    | none => .stuck)
  | k + 1, a, st => match listD st y with
    | some ds => if ds.length = n ∧ isOf c "__eq__" st x = true then (match ds[n - (k + 1)]? with
      | some d => (match itA c m x d st with
        | .ok (.bl b) s => cntN c m x y n k (if b = true then a + 1 else a) s
        | _ => .stuck)
      | none => .stuck) else .stuck
    | none => .stuck
/-- y.count(x) -/
def eCntA (c : String) (m : List D → Store → Res D) (g f : Ex) : Ex := fun env st => (g env st).bind fun y s1 => if bmTy s1 y = some .lst then (f env s1).bind fun x s2 => (match listD s2 y with
  | some ds => cntN c m x y ds.length ds.length 0 s2
  | none => .stuck) else .stuck
section
variable {X : Cx} {cl : ClW} {W : WX} {k : Nat} {f : Addr} {fd : FuncData} {ps : List Str} {m : List D → Store → Res D} {c : String} {pos : Pos}
def CntAt (X : Cx) (cl : ClW) (c : String) (m : List D → Store → Res D) (pins : List (Addr × Obj)) (sg : L2.St) (as : As) (H : Hp) (dx dy : D) (N : Nat) (z : Int) (s3 : Store) (i : Nat) (n : Int) (s' : Shared) : Prop :=
  i ≤ N ∧ ∃ (as' : As) (H' : Hp) (st' : Store), L2.Inv X pins sg H' s' ∧ Le as H as' H' ∧ Rel X.K cl as' H' st' ∧ cntN c m dx dy N (N - i) n st' = .ok (.int z) s3
def rCntO (X : Cx) (cl : ClW) (c : String) (m : List D → Store → Res D) : V → List V → Hp → VK → Prop := fun y xs H Q => ∃ (x : V) (as : As) (st : Store) (dx dy : D) (ds : List D) (z : Int) (s3 : Store), xs = [x] ∧ Rel X.K cl as H st ∧ Sh X.K cl as H x dx ∧ Sh X.K cl as H y dy ∧ listD st dy = some ds ∧
  cntN c m dx dy ds.length ds.length 0 st = .ok (.int z) s3 ∧ ∀ as' H', Le as H as' H' → Rel X.K cl as' H' s3 → Q (.int z) H'
theorem mt_cntO (T : EqO X.K cl c f) (T3 : NoA X.K cl c) (C : CalM X.prog X.w X.K X.mg X.base cl k c "__eq__" f fd ps m) (hr : Rm (k + 1) X) (tk : Takes X W) (hb : KB X.K cl fd ps 2 [] (fun ds _ => ds)) : MtR X "list.count" (rCntO X cl c m) := by
  intro pins s sg H y xs u us Q I ry rxs h
  obtain ⟨x, as, st, dx, dy, ds, z, s3, rfl, r, sx, sy, hd, em, q⟩ := h
  obtain ⟨v, rfl, rx⟩ := rxs.one
  obtain ⟨a, items, e, dd, sl, rfl, ho, hz, _⟩ := listD_re r hd sy I
  obtain rfl : u = Value.ref a := ry
  have hT : s.TypeIs (.ref a) "list" := ⟨_, ho, rfl⟩
  refine GQ.call_here PySem.F.slot_list_count hT PySem.F.entry_list_count (PySem.F.args_list_count_2 _ _) (list_cntG (R := wants (EP X pins sg Q) X.xe) a v ds.length (CntAt X cl c m pins sg as H dx dy ds.length z s3) ?_ ?_ ⟨Nat.zero_le _, as, H, st, I, Le.refl, r, by rw [Nat.sub_zero]; exact em⟩)
  · rintro i n s' ⟨hi, as', H', st', I2, l', r', hh⟩
    cases hk : ds.length - i with
    | zero =>
      rw [hk] at hh
      unfold cntN at hh
      cases hl : listD st' dy with
      | none => rw [hl] at hh; cases hh
      | some ds2 =>
        rw [hl] at hh
        dsimp only at hh
        split at hh
        · rename_i hlen
          obtain ⟨a2, items2, n2, dd2, sl2, e2, ho2, hz2, _⟩ := listD_re r' hl (sy.up l') I2
          cases e2
          exact ⟨items2, n2, dd2, sl2, ho2, hz2.trans hlen, fun h1 => by omega⟩
        · cases hh
    | succ j =>
      rw [hk] at hh
      unfold cntN at hh
      cases hl : listD st' dy with
      | none => rw [hl] at hh; cases hh
      | some ds2 =>
        rw [hl] at hh
        dsimp only at hh
        split at hh
        · rename_i hlen
          obtain ⟨a2, items2, n2, dd2, sl2, e2, ho2, hz2, hit⟩ := listD_re r' hl (sy.up l') I2
          cases e2
          refine ⟨items2, n2, dd2, sl2, ho2, hz2.trans hlen.1, fun h1 => ?_⟩
          have hi2 : i < ds2.length := by omega
          have ei : ds.length - (j + 1) = i := by omega
          rw [ei, List.getElem?_eq_getElem hi2] at hh
          dsimp only at hh
          obtain ⟨vv, e2, ru⟩ := hit i h1 hi2
          cases e3 : itA c m dx ds2[i] st' with
          | ok z s4 =>
            rw [e3] at hh
            cases z with
            | bl bo =>
              refine item_eqA T T3 C hr tk hb I2 r' hlen.2 (sx.up l') e2 rx ru e3 fun H2 s2 I3 ⟨as2, l2, r2⟩ => ?_
              exact ⟨by omega, as2, H2, s4, I3, l'.trans l2, r2, by rw [show ds.length - (i + 1) = j from by omega]; exact hh⟩
            | _ => cases hh
          | exn _ _ _ => rw [e3] at hh; cases hh
          | stuck => rw [e3] at hh; cases hh
        · cases hh
  · rintro n s' ⟨hi, as', H', st', I2, l', r', hh⟩
    rw [Nat.sub_self] at hh
    unfold cntN at hh
    cases hl : listD st' dy with
    | none => rw [hl] at hh; cases hh
    | some ds2 =>
      rw [hl] at hh
      dsimp only at hh
      split at hh
      · cases hh
        exact ⟨.int z, H', I2.tok _, ⟨s'.toks, rfl⟩, q as' H' l' r'⟩
      · cases hh
theorem imp_cntA {g f' : Ex} : ∀ sg H Q, tF X.K cl W (eCntA c m g f') sg H Q → tBM X.K "list" (rCntO X cl c m) (tF X.K cl W g) (tFs X.K cl W (aCons f' aNil)) sg H Q := fun sg H Q ⟨as, st, env, r0, er, q⟩ =>
  ⟨as, st, env, r0, er, Wt.bind q fun d s1 as1 H1 v _ l1 r1 x1 q1 => by
    by_cases hT : bmTy s1 d = some .lst
    · simp only [if_pos hT] at q1
      refine ⟨ty_v r1 hT x1, as1, s1, env, r1, er.up l1, ?_⟩
      show Wts X.K cl W sg as1 H1 _ ((f' env s1).bind fun d s1 => (aNil env s1).bind fun ds s2 => .ok (d :: ds) s2)
      cases e0 : f' env s1 with
      | stuck => rw [e0] at q1; exact q1
      | exn cc fs s => rw [e0] at q1; exact q1
      | ok x s =>
        rw [e0] at q1
        intro as2 H2 vs l2 r2 x2
        cases x2 with
        | cons y1 y2 =>
          cases y2
          have q2 := Wt.up l2 q1
          simp only [Res.bind] at q2
          cases hl : listD s d with
          | none => rw [hl] at q2; exact q2.elim
          | some ds =>
            rw [hl] at q2
            dsimp only at q2
            cases em : cntN c m x d ds.length ds.length 0 s with
            | ok z s3 =>
              rw [em] at q2
              have hz : ∃ z', z = .int z' := by
                have key : ∀ (k n : Nat) (a : Int) (st s3 : Store) (z : D), cntN c m x d n k a st = .ok z s3 → ∃ z', z = .int z' := by
                  intro k
                  induction k with
                  | zero =>
                    intro n a st s3 z h
                    unfold cntN at h
                    split at h
                    · split at h
                      · cases h; exact ⟨_, rfl⟩
                      · cases h
                    · cases h
                  | succ k ih =>
                    intro n a st s3 z h
                    unfold cntN at h
                    split at h
                    · split at h
                      · split at h
                        · split at h
                          · exact ih _ _ _ _ _ h
                          · cases h
                        · cases h
                      · cases h
                    · cases h
                exact key _ _ _ _ _ _ em
              obtain ⟨z', rfl⟩ := hz
              exact ⟨_, as2, s, x, d, ds, z', s3, rfl, r2, y1, x1.up l2, hl, em, fun as' H' l' r' => q2 as' H' _ l' r' (.int z')⟩
            | exn _ _ _ => rw [em] at q2; exact (by
                have key : ∀ (k n : Nat) (a : Int) (st s3 : Store) (cc : String) (fs : List (String × D)), cntN c m x d n k a st = .exn cc fs s3 → False := by
                  intro k
                  induction k with
                  | zero =>
                    intro n a st s3 cc fs h
                    unfold cntN at h
                    split at h
                    · split at h <;> cases h
                    · cases h
                  | succ k ih =>
                    intro n a st s3 cc fs h
                    unfold cntN at h
                    split at h
                    · split at h
                      · split at h
                        · split at h
                          · exact ih _ _ _ _ _ _ h
                          · cases h
                        · cases h
                      · cases h
                    · cases h
                exact (key _ _ _ _ _ _ _ em).elim)
            | stuck => rw [em] at q2; exact q2.elim
    · simp only [if_neg hT] at q1; exact q1.elim⟩
theorem fe_cntA {o e : Expr} {g f' : Ex} {apos cpos : Pos} (T : EqO X.K cl c f) (T3 : NoA X.K cl c) (C : CalM X.prog X.w X.K X.mg X.base cl k c "__eq__" f fd ps m) (hr : Rm (k + 1) X) (tk : Takes X W) (hb : KB X.K cl fd ps 2 [] (fun ds _ => ds)) (ho : FE X cl W o g) (ha : FE X cl W e f')
    (hbase : attributeBase o "count" X.env (eval o X.env) = eval o X.env := by rfl) (hfew : ((backTo cpos (starEach [e] X.env)).all (fun x => !x.1) && (backToKw cpos (keywordEach [] X.env)).all (fun x => x.1.isSome) && decide ([e].length + ([] : List Keyword).length + (if ([] : List Keyword).isEmpty then 0 else 1) < 30)) = true := by rfl) (hline : (apos.endLine == cpos.line) = true := by rfl) (hs : starEach [e] X.env = (false, eval e X.env) :: starEach [] X.env := by rfl) (hplain : (backTo cpos (starEach [] X.env)).any (·.1) = false := by rfl) :
    FE X cl W (.Call (.Attribute o "count" apos) [e] [] cpos) (eCntA c m g f') := PE.w (pe_bm PySem.F.plainAttrs_list PySem.F.slot_list_count PySem.F.type_list_count (mt_cntO T T3 C hr tk hb) ho (fa_cons ha fa_nil hs).pa hbase hfew hline hs hplain) imp_cntA
end
end F3

set_option maxHeartbeats 4000000
namespace K08
open PySem PySem.Spec PyProof.Rows L2 F3
def c_LONGEST : D := (.int 6)
def c_LETTERS : D := (.str "abcdefghijklmnopqrstuvwxyz")
def c_MOST : D := (.int 1000)
def c_WEIGHT : D := (.int 100)
def c_WISH : D := (.int 4)
def g_Task___init___2 : List D → List D → List D := fun ds es => match ds, es with
  | [a0, a1], [] => [a0, a1, c_WEIGHT, c_WISH]
  | _, _ => []
def g_Task___init___2_weight : List D → List D → List D := fun ds es => match ds, es with
  | [a0, a1], [k0] => [a0, a1, k0, c_WISH]
  | _, _ => []
def g_Task___init___2_weight_wish : List D → List D → List D := fun ds es => match ds, es with
  | [a0, a1], [k0, k1] => [a0, a1, k0, k1]
  | _, _ => []
def g_Task_turned_1_weight_wish : List D → List D → List D := fun ds es => match ds, es with
  | [a0], [k0, k1] => [a0, k0, k1]
  | _, _ => []
noncomputable def b_is_whole : Sm := sRet (eAnd (eUn (isiD .int) (eVar 0)) (eNot (eUn (isiD .bl) (eVar 0))))
noncomputable def m_is_whole : List D → Store → Res D := fn 0 b_is_whole
noncomputable def b_is_name : Sm := sRet (eAnd (eUn (isiD .str) (eVar 0)) (eAnd (eChain leD leD (eC (.int 1)) (eFn lenD (aCons (eVar 0) (aNil))) (eC c_LONGEST)) (eFn allD (aCons (eLc (iSign (eVar 0)) (tNm 1) (eYes) (eBin inXD (eVar 1) (eC c_LETTERS)) [1]) (aNil)))))
noncomputable def m_is_name : List D → Store → Res D := fn 1 b_is_name
noncomputable def b_is_weight : Sm := sRet (eAnd (eCall m_is_whole (fun ds _ => ds) (aCons (eVar 0) (aNil)) (aNil)) (eChain leD leD (eC (.int 1)) (eVar 0) (eC c_MOST)))
noncomputable def m_is_weight : List D → Store → Res D := fn 0 b_is_weight
noncomputable def b_is_wish : Sm := sRet (eAnd (eCall m_is_whole (fun ds _ => ds) (aCons (eVar 0) (aNil)) (aNil)) (eChain leD leD (eC (.int 1)) (eVar 0) (eC c_MOST)))
noncomputable def m_is_wish : List D → Store → Res D := fn 0 b_is_wish
noncomputable def b_look_at_name : Sm := sIf (eNot (eCall m_is_name (fun ds _ => ds) (aCons (eVar 0) (aNil)) (aNil))) (sRaise1 "NoName" "thing" (eVar 0)) (sNext)
noncomputable def m_look_at_name : List D → Store → Res D := fn 0 b_look_at_name
noncomputable def b_look_at_measure : Sm := sSeq (sIf (eNot (eCall m_is_weight (fun ds _ => ds) (aCons (eVar 0) (aNil)) (aNil))) (sRaise1 "NoWeight" "thing" (eVar 0)) (sNext)) (sIf (eNot (eCall m_is_wish (fun ds _ => ds) (aCons (eVar 1) (aNil)) (aNil))) (sRaise1 "NoWish" "thing" (eVar 1)) (sNext))
noncomputable def m_look_at_measure : List D → Store → Res D := fn 0 b_look_at_measure
noncomputable def b_Task___init__ : Sm := sSeq (sExpr (eCall m_look_at_name (fun ds _ => ds) (aCons (eVar 1) (aNil)) (aNil))) (sSeq (sExpr (eCall m_look_at_measure (fun ds _ => ds) (aCons (eVar 2) (aCons (eVar 3) (aNil))) (aNil))) (sSeq (sFldS CI_own_name "own_name" (eVar 0) (eVar 1)) (sSeq (sFldS CI_own_weight "own_weight" (eVar 0) (eVar 2)) (sFldS CI_own_wish "own_wish" (eVar 0) (eVar 3)))))
noncomputable def m_Task___init__ : List D → Store → Res D := fn 0 b_Task___init__
noncomputable def b_Task_key : Sm := sRet (eTup (aCons (eUn (fldD CI_own_weight "own_weight") (eVar 0)) (aCons (eUn (fldD CI_own_wish "own_wish") (eVar 0)) (aCons (eUn (fldD CI_own_name "own_name") (eVar 0)) (aNil)))))
noncomputable def m_Task_key : List D → Store → Res D := fn 0 b_Task_key
noncomputable def b_Task___eq__ : Sm := sRet (eAnd (eUn (isgD CE CI tb_Task tt_Task) (eVar 1)) (eBin eqD (eMeth "Task" "key" m_Task_key (fun ds _ => ds) (eVar 0) (aNil) (aNil)) (eMeth "Task" "key" m_Task_key (fun ds _ => ds) (eVar 1) (aNil) (aNil))))
noncomputable def m_Task___eq__ : List D → Store → Res D := fn 0 b_Task___eq__
noncomputable def b_Task___repr__ : Sm := sRet (eJoin [eC (.str "Task("), eFmtR (eUn (fldD CI_own_name "own_name") (eVar 0)), eC (.str ", weight="), eFmtR (eUn (fldD CI_own_weight "own_weight") (eVar 0)), eC (.str ", wish="), eFmtR (eUn (fldD CI_own_wish "own_wish") (eVar 0)), eC (.str ")")])
noncomputable def m_Task___repr__ : List D → Store → Res D := fn 0 b_Task___repr__
noncomputable def b_Task_name : Sm := sRet (eUn (fldD CI_own_name "own_name") (eVar 0))
noncomputable def m_Task_name : List D → Store → Res D := fn 0 b_Task_name
noncomputable def b_Task_weight : Sm := sRet (eUn (fldD CI_own_weight "own_weight") (eVar 0))
noncomputable def m_Task_weight : List D → Store → Res D := fn 0 b_Task_weight
noncomputable def b_Task_wish : Sm := sRet (eUn (fldD CI_own_wish "own_wish") (eVar 0))
noncomputable def m_Task_wish : List D → Store → Res D := fn 0 b_Task_wish
noncomputable def b_Task_turned : Sm := sSeq (sSet 1 (eIf (eBin isND (eVar 1) (eC .non)) (eUn (fldD CI_own_weight "own_weight") (eVar 0)) (eVar 1))) (sSeq (sSet 2 (eIf (eBin isND (eVar 2) (eC .non)) (eUn (fldD CI_own_wish "own_wish") (eVar 0)) (eVar 2))) (sRet (eMake "Task" m_Task___init__ g_Task___init___2_weight_wish (aCons (eUn (fldD CI_own_name "own_name") (eVar 0)) (aNil)) (aCons (eVar 1) (aCons (eVar 2) (aNil))))))
noncomputable def m_Task_turned : List D → Store → Res D := fn 0 b_Task_turned
noncomputable def b__law_pool : Sm := sSeq (sSet 2 (eBin ixD (eBin addD (eSl (eVar 0) (oSome (eVar 1)) (oSome (eBin addD (eVar 1) (eC (.int 1))))) (eLst (aCons (eC (.int 0)) (aNil)))) (eC (.int 0)))) (sSeq (sSet 3 (eBin modD (eBin mulD (eBin addD (eBin addD (eBin modD (eVar 2) (eC (.int 2147483629))) (eBin mulD (eC (.int 7919)) (eVar 1))) (eC (.int 104729))) (eC (.int 48271))) (eC (.int 2147483647)))) (sRet (eCel (aCons (eBin mulD (eVar 2) (eFn intD (aCons (eBin geD (eVar 2) (eBin powD (eC (.int 10)) (eC (.int 18)))) (aNil)))) (aCons (eVar 3) (aNil))))))
noncomputable def m__law_pool : List D → Store → Res D := fn 2 b__law_pool
noncomputable def b__law_take : Sm := sSeq (sIf (eBin gtD (eBin ixD (eVar 0) (eC (.int 0))) (eC (.int 0))) (sSeq (sSet 2 (eBin modD (eBin ixD (eVar 0) (eC (.int 0))) (eVar 1))) (sSeq (sAsg (eBin fdivD (eBin ixD (eVar 0) (eC (.int 0))) (eVar 1)) (tSub (eVar 0) (eC (.int 0)))) (sRet (eVar 2)))) (sNext)) (sSeq (sAsg (eBin modD (eBin addD (eBin mulD (eBin ixD (eVar 0) (eC (.int 1))) (eC (.int 48271))) (eC (.int 11))) (eC (.int 2147483647))) (tSub (eVar 0) (eC (.int 1)))) (sRet (eBin modD (eBin fdivD (eBin modD (eBin mulD (eBin ixD (eVar 0) (eC (.int 1))) (eBin ixD (eVar 0) (eC (.int 1)))) (eC (.int 2147483629))) (eC (.int 64))) (eVar 1))))
noncomputable def m__law_take : List D → Store → Res D := fn 1 b__law_take
noncomputable def b__law_rising : Sm := sSeq (sIf (eBin neD (eMeth "Task" "weight" m_Task_weight (fun ds _ => ds) (eVar 0) (aNil) (aNil)) (eMeth "Task" "weight" m_Task_weight (fun ds _ => ds) (eVar 1) (aNil) (aNil))) (sRet (eBin ltD (eMeth "Task" "weight" m_Task_weight (fun ds _ => ds) (eVar 0) (aNil) (aNil)) (eMeth "Task" "weight" m_Task_weight (fun ds _ => ds) (eVar 1) (aNil) (aNil)))) (sNext)) (sSeq (sIf (eBin neD (eMeth "Task" "wish" m_Task_wish (fun ds _ => ds) (eVar 0) (aNil) (aNil)) (eMeth "Task" "wish" m_Task_wish (fun ds _ => ds) (eVar 1) (aNil) (aNil))) (sRet (eBin ltD (eMeth "Task" "wish" m_Task_wish (fun ds _ => ds) (eVar 0) (aNil) (aNil)) (eMeth "Task" "wish" m_Task_wish (fun ds _ => ds) (eVar 1) (aNil) (aNil)))) (sNext)) (sRet (eBin leSD (eMeth "Task" "name" m_Task_name (fun ds _ => ds) (eVar 0) (aNil) (aNil)) (eMeth "Task" "name" m_Task_name (fun ds _ => ds) (eVar 1) (aNil) (aNil)))))
noncomputable def m__law_rising : List D → Store → Res D := fn 0 b__law_rising
noncomputable def b__law_right : Sm := sSeq (sSet 2 (eReprLL "Task" m_Task___repr__ (eLst (aCons (eVar 0) (aCons (eVar 1) (aNil)))))) (sSeq (sSet 3 (eSortM 0 "_law_right" (eMeth "Task" "key" m_Task_key (fun ds _ => ds) (eVar 0) (aNil) (aNil)) (eVar 0))) (sSeq (sIf (eBin neD (eFn lenD (aCons (eVar 3) (aNil))) (eFn lenD (aCons (eVar 0) (aNil)))) (sRet (eC (.bl false))) (sNext)) (sSeq (sIf (eBin neD (eLc (iRange2 (aCons (eC (.int 1)) (aCons (eFn lenD (aCons (eVar 3) (aNil))) (aNil)))) (tNm 4) (eNot (eCall m__law_rising (fun ds _ => ds) (aCons (eBin ixD (eVar 3) (eBin subD (eVar 4) (eC (.int 1)))) (aCons (eBin ixD (eVar 3) (eVar 4)) (aNil))) (aNil))) (eVar 4) [4]) (eLst (aNil))) (sRet (eC (.bl false))) (sNext)) (sSeq (sIf (eBin neD (eLc (iLst (eVar 0)) (tNm 5) (eBin neD (eCntA "Task" m_Task___eq__ (eVar 0) (eVar 5)) (eCntA "Task" m_Task___eq__ (eVar 3) (eVar 5))) (eVar 5) [5]) (eLst (aNil))) (sRet (eC (.bl false))) (sNext)) (sSeq (sFor (iLst (eVar 0)) (tNm 5) (sSeq (sFor (iLst (eVar 1)) (tNm 6) (sSeq (sSet 7 (eMeth "Task" "turned" m_Task_turned g_Task_turned_1_weight_wish (eVar 5) (aNil) (aCons (eMeth "Task" "weight" m_Task_weight (fun ds _ => ds) (eVar 6) (aNil) (aNil)) (aCons (eMeth "Task" "wish" m_Task_wish (fun ds _ => ds) (eVar 6) (aNil) (aNil)) (aNil))))) (sSeq (sIf (eNeO "Task" m_Task___eq__ (eMeth "Task" "turned" m_Task_turned g_Task_turned_1_weight_wish (eVar 7) (aNil) (aCons (eMeth "Task" "weight" m_Task_weight (fun ds _ => ds) (eVar 5) (aNil) (aNil)) (aCons (eMeth "Task" "wish" m_Task_wish (fun ds _ => ds) (eVar 5) (aNil) (aNil)) (aNil)))) (eVar 5)) (sRet (eC (.bl false))) (sNext)) (sSeq (sIf (eBin neD (eSlT (eMeth "Task" "key" m_Task_key (fun ds _ => ds) (eVar 7) (aNil) (aNil)) oNone (oSome (eC (.int 2)))) (eSlT (eMeth "Task" "key" m_Task_key (fun ds _ => ds) (eVar 6) (aNil) (aNil)) oNone (oSome (eC (.int 2))))) (sRet (eC (.bl false))) (sNext)) (sIf (eBin neD (eEqO "Task" m_Task___eq__ (eVar 7) (eVar 6)) (eBin eqD (eMeth "Task" "name" m_Task_name (fun ds _ => ds) (eVar 5) (aNil) (aNil)) (eMeth "Task" "name" m_Task_name (fun ds _ => ds) (eVar 6) (aNil) (aNil)))) (sRet (eC (.bl false))) (sNext)))))) (sIf (eBin neD (eInA "Task" m_Task___eq__ (eVar 5) (eVar 1)) (eBin neLD (eLc (iLst (eVar 1)) (tNm 6) (eBin eqD (eMeth "Task" "key" m_Task_key (fun ds _ => ds) (eVar 6) (aNil) (aNil)) (eMeth "Task" "key" m_Task_key (fun ds _ => ds) (eVar 5) (aNil) (aNil))) (eVar 6) [6]) (eLst (aNil)))) (sRet (eC (.bl false))) (sNext)))) (sRet (eBin eqD (eReprLL "Task" m_Task___repr__ (eLst (aCons (eVar 0) (aCons (eVar 1) (aNil))))) (eVar 2))))))))
noncomputable def m__law_right : List D → Store → Res D := fn 6 b__law_right
noncomputable def b_law : Sm := sSeq (sFor (iRange1 (aCons (eFn max2D (aCons (eC (.int 1)) (aCons (eFn min2D (aCons (eC (.int 16)) (aCons (eFn lenD (aCons (eVar 0) (aNil))) (aNil)))) (aNil)))) (aNil))) (tNm 1) (sSeq (sSet 2 (eCall m__law_pool (fun ds _ => ds) (aCons (eVar 0) (aCons (eVar 1) (aNil))) (aNil))) (sSeq (sSet 3 (eCel (aNil))) (sSeq (sFor (iRange1 (aCons (eCall m__law_take (fun ds _ => ds) (aCons (eVar 2) (aCons (eC (.int 8)) (aNil))) (aNil)) (aNil))) (tNm 4) (sSeq (sSet 5 (eBin ixD (eLst (aCons (eC (.str "a")) (aCons (eC (.str "b")) (aCons (eC (.str "ab")) (aCons (eC (.str "zzzzzz")) (aNil)))))) (eCall m__law_take (fun ds _ => ds) (aCons (eVar 2) (aCons (eC (.int 4)) (aNil))) (aNil)))) (sExpr (eBm .lst appD (eVar 3) (aCons (eMake "Task" m_Task___init__ g_Task___init___2_weight_wish (aCons (eVar 5) (aNil)) (aCons (eBin ixD (eLst (aCons (eC (.int 1)) (aCons (eC (.int 2)) (aCons (eC (.int 1000)) (aNil))))) (eCall m__law_take (fun ds _ => ds) (aCons (eVar 2) (aCons (eC (.int 3)) (aNil))) (aNil))) (aCons (eBin addD (eC (.int 1)) (eCall m__law_take (fun ds _ => ds) (aCons (eVar 2) (aCons (eC (.int 3)) (aNil))) (aNil))) (aNil)))) (aNil)))))) (sSeq (sSet 6 (eBin addD (eSl (eVar 3) oNone (oSome (eCall m__law_take (fun ds _ => ds) (aCons (eVar 2) (aCons (eC (.int 4)) (aNil))) (aNil)))) (eLst (aCons (eMake "Task" m_Task___init__ g_Task___init___2 (aCons (eC (.str "b")) (aNil)) (aNil)) (aCons (eMake "Task" m_Task___init__ g_Task___init___2_weight (aCons (eC (.str "ab")) (aNil)) (aCons (eBin addD (eC (.int 1)) (eCall m__law_take (fun ds _ => ds) (aCons (eVar 2) (aCons (eC (.int 1000)) (aNil))) (aNil))) (aNil))) (aNil)))))) (sIf (eOr (eNot (eCall m__law_right (fun ds _ => ds) (aCons (eBin addD (eVar 3) (eSl (eVar 3) oNone (oSome (eC (.int 1))))) (aCons (eVar 6) (aNil))) (aNil))) (eNot (eCall m__law_right (fun ds _ => ds) (aCons (eVar 6) (aCons (eVar 3) (aNil))) (aNil)))) (sRet (eC (.bl false))) (sNext))))))) (sRet (eC (.bl true)))
noncomputable def m_law : List D → Store → Res D := fn 6 b_law
end K08

set_option maxHeartbeats 4000000
namespace K08
open PySem PySem.Spec PyProof.Rows L2 F3
abbrev N_is_whole : List Str := ["thing"]
abbrev P_is_whole : List Str := ["thing"]
theorem sc_is_whole : FnScope N_is_whole P_is_whole (defScope s_is_whole) := ⟨rfl, rfl, rfl, by decide +kernel, rfl, by decide +kernel, by decide +kernel⟩
abbrev N_is_name : List Str := ["thing", "sign"]
abbrev P_is_name : List Str := ["thing"]
theorem sc_is_name : FnScope N_is_name P_is_name (defScope s_is_name) := ⟨rfl, rfl, rfl, by decide +kernel, rfl, by decide +kernel, by decide +kernel⟩
abbrev N_is_weight : List Str := ["thing"]
abbrev P_is_weight : List Str := ["thing"]
theorem sc_is_weight : FnScope N_is_weight P_is_weight (defScope s_is_weight) := ⟨rfl, rfl, rfl, by decide +kernel, rfl, by decide +kernel, by decide +kernel⟩
abbrev N_is_wish : List Str := ["thing"]
abbrev P_is_wish : List Str := ["thing"]
theorem sc_is_wish : FnScope N_is_wish P_is_wish (defScope s_is_wish) := ⟨rfl, rfl, rfl, by decide +kernel, rfl, by decide +kernel, by decide +kernel⟩
abbrev N_look_at_name : List Str := ["thing"]
abbrev P_look_at_name : List Str := ["thing"]
theorem sc_look_at_name : FnScope N_look_at_name P_look_at_name (defScope s_look_at_name) := ⟨rfl, rfl, rfl, by decide +kernel, rfl, by decide +kernel, by decide +kernel⟩
abbrev N_look_at_measure : List Str := ["weight", "wish"]
abbrev P_look_at_measure : List Str := ["weight", "wish"]
theorem sc_look_at_measure : FnScope N_look_at_measure P_look_at_measure (defScope s_look_at_measure) := ⟨rfl, rfl, rfl, by decide +kernel, rfl, by decide +kernel, by decide +kernel⟩
abbrev N_Task___init__ : List Str := ["self", "name", "weight", "wish"]
abbrev P_Task___init__ : List Str := ["self", "name", "weight", "wish"]
theorem sc_Task___init__ : FnScope N_Task___init__ P_Task___init__ (defScope s_Task___init__) := ⟨rfl, rfl, rfl, by decide +kernel, rfl, by decide +kernel, by decide +kernel⟩
abbrev N_Task_key : List Str := ["self"]
abbrev P_Task_key : List Str := ["self"]
theorem sc_Task_key : FnScope N_Task_key P_Task_key (defScope s_Task_key) := ⟨rfl, rfl, rfl, by decide +kernel, rfl, by decide +kernel, by decide +kernel⟩
abbrev N_Task___eq__ : List Str := ["self", "other"]
abbrev P_Task___eq__ : List Str := ["self", "other"]
theorem sc_Task___eq__ : FnScope N_Task___eq__ P_Task___eq__ (defScope s_Task___eq__) := ⟨rfl, rfl, rfl, by decide +kernel, rfl, by decide +kernel, by decide +kernel⟩
abbrev N_Task___repr__ : List Str := ["self"]
abbrev P_Task___repr__ : List Str := ["self"]
theorem sc_Task___repr__ : FnScope N_Task___repr__ P_Task___repr__ (defScope s_Task___repr__) := ⟨rfl, rfl, rfl, by decide +kernel, rfl, by decide +kernel, by decide +kernel⟩
abbrev N_Task_name : List Str := ["self"]
abbrev P_Task_name : List Str := ["self"]
theorem sc_Task_name : FnScope N_Task_name P_Task_name (defScope s_Task_name) := ⟨rfl, rfl, rfl, by decide +kernel, rfl, by decide +kernel, by decide +kernel⟩
abbrev N_Task_weight : List Str := ["self"]
abbrev P_Task_weight : List Str := ["self"]
theorem sc_Task_weight : FnScope N_Task_weight P_Task_weight (defScope s_Task_weight) := ⟨rfl, rfl, rfl, by decide +kernel, rfl, by decide +kernel, by decide +kernel⟩
abbrev N_Task_wish : List Str := ["self"]
abbrev P_Task_wish : List Str := ["self"]
theorem sc_Task_wish : FnScope N_Task_wish P_Task_wish (defScope s_Task_wish) := ⟨rfl, rfl, rfl, by decide +kernel, rfl, by decide +kernel, by decide +kernel⟩
abbrev N_Task_turned : List Str := ["self", "weight", "wish"]
abbrev P_Task_turned : List Str := ["self", "weight", "wish"]
theorem sc_Task_turned : FnScope N_Task_turned P_Task_turned (defScope s_Task_turned) := ⟨rfl, rfl, rfl, by decide +kernel, rfl, by decide +kernel, by decide +kernel⟩
abbrev N__law_pool : List Str := ["_law_script", "_law_k", "_law_cell", "_law_seed"]
abbrev P__law_pool : List Str := ["_law_script", "_law_k"]
theorem sc__law_pool : FnScope N__law_pool P__law_pool (defScope s__law_pool) := ⟨rfl, rfl, rfl, by decide +kernel, rfl, by decide +kernel, by decide +kernel⟩
abbrev N__law_take : List Str := ["_law_pool_here", "_law_size", "_law_found"]
abbrev P__law_take : List Str := ["_law_pool_here", "_law_size"]
theorem sc__law_take : FnScope N__law_take P__law_take (defScope s__law_take) := ⟨rfl, rfl, rfl, by decide +kernel, rfl, by decide +kernel, by decide +kernel⟩
abbrev N__law_rising : List Str := ["_law_one", "_law_other"]
abbrev P__law_rising : List Str := ["_law_one", "_law_other"]
theorem sc__law_rising : FnScope N__law_rising P__law_rising (defScope s__law_rising) := ⟨rfl, rfl, rfl, by decide +kernel, rfl, by decide +kernel, by decide +kernel⟩
abbrev N__law_right : List Str := ["_law_tasks", "_law_shared", "_law_kept", "_law_found", "_law_k", "_law_task", "_law_other", "_law_turned"]
abbrev P__law_right : List Str := ["_law_tasks", "_law_shared"]
theorem sc__law_right : FnScope N__law_right P__law_right (defScope s__law_right) := ⟨rfl, rfl, rfl, by decide +kernel, rfl, by decide +kernel, by decide +kernel⟩
abbrev N_law : List Str := ["_law_script", "_law_k", "_law_pool_here", "_law_tasks", "_law_turn", "_law_name", "_law_some"]
abbrev P_law : List Str := ["_law_script"]
theorem sc_law : FnScope N_law P_law (defScope s_law) := ⟨rfl, rfl, rfl, by decide +kernel, rfl, by decide +kernel, by decide +kernel⟩
theorem sc_NoName___init__ : FnScope ["self", "thing"] ["self", "thing"] (defScope s_NoName___init__) := ⟨rfl, rfl, rfl, by decide +kernel, rfl, by decide +kernel, by decide +kernel⟩
theorem e1_NoName {P : Program} {w : World} {K : PySem.W.Frag} {mg : Str → Option Value} {base : Heap} {fd : FuncData} (F : FunD K "__init__" "NoName.__init__" (defArgs s_NoName___init__) (defBody s_NoName___init__) (defScope s_NoName___init__) [] [] (He.ma K (gaC K "NoName") "__init__") fd)
    (g : mg "NoName" = some (.ref (gaC K "NoName"))) (h : oxInfoB K "NoName" "thing" [.type "ValueError", .type "Exception", .type "BaseException", .type "object"] "ValueError.__new__" = true) (gB : mg "TurnError" = some (.ref (gaC K "TurnError"))) (hB : ownIniB K "TurnError" "ValueError.__init__" = true) : Exc1 P w K mg base (gw K w) "NoName" (Str.ofString "thing") := by
  obtain ⟨T, hno, iC, tI⟩ := ox_info PySem.F.excBase_ValueError (fun self => by kernel_rfl) (by decide +kernel) h
  exact ⟨g, ⟨_, T⟩, _, fd, "self", "thing", iC, tI, FunD.okX F sc_NoName___init__ T hno (fun cdv A outer s H E => ps_expr (pe_ini (by rfl) (ini_own gB hB (by decide +kernel)) (by decide) (pa_cons (pv 0) (pa_cons pe_str pa_nil)))) (fun cdv A outer s H E => ps_ox (pv 0) (pv 1)), FunD.binds2 F (fun _ _ _ _ _ _ us hl => match us, hl with | [_, _], _ => rfl)⟩
theorem sc_NoWeight___init__ : FnScope ["self", "thing"] ["self", "thing"] (defScope s_NoWeight___init__) := ⟨rfl, rfl, rfl, by decide +kernel, rfl, by decide +kernel, by decide +kernel⟩
theorem e1_NoWeight {P : Program} {w : World} {K : PySem.W.Frag} {mg : Str → Option Value} {base : Heap} {fd : FuncData} (F : FunD K "__init__" "NoWeight.__init__" (defArgs s_NoWeight___init__) (defBody s_NoWeight___init__) (defScope s_NoWeight___init__) [] [] (He.ma K (gaC K "NoWeight") "__init__") fd)
    (g : mg "NoWeight" = some (.ref (gaC K "NoWeight"))) (h : oxInfoB K "NoWeight" "thing" [.type "ValueError", .type "Exception", .type "BaseException", .type "object"] "ValueError.__new__" = true) (gB : mg "TurnError" = some (.ref (gaC K "TurnError"))) (hB : ownIniB K "TurnError" "ValueError.__init__" = true) : Exc1 P w K mg base (gw K w) "NoWeight" (Str.ofString "thing") := by
  obtain ⟨T, hno, iC, tI⟩ := ox_info PySem.F.excBase_ValueError (fun self => by kernel_rfl) (by decide +kernel) h
  exact ⟨g, ⟨_, T⟩, _, fd, "self", "thing", iC, tI, FunD.okX F sc_NoWeight___init__ T hno (fun cdv A outer s H E => ps_expr (pe_ini (by rfl) (ini_own gB hB (by decide +kernel)) (by decide) (pa_cons (pv 0) (pa_cons pe_str pa_nil)))) (fun cdv A outer s H E => ps_ox (pv 0) (pv 1)), FunD.binds2 F (fun _ _ _ _ _ _ us hl => match us, hl with | [_, _], _ => rfl)⟩
theorem sc_NoWish___init__ : FnScope ["self", "thing"] ["self", "thing"] (defScope s_NoWish___init__) := ⟨rfl, rfl, rfl, by decide +kernel, rfl, by decide +kernel, by decide +kernel⟩
theorem e1_NoWish {P : Program} {w : World} {K : PySem.W.Frag} {mg : Str → Option Value} {base : Heap} {fd : FuncData} (F : FunD K "__init__" "NoWish.__init__" (defArgs s_NoWish___init__) (defBody s_NoWish___init__) (defScope s_NoWish___init__) [] [] (He.ma K (gaC K "NoWish") "__init__") fd)
    (g : mg "NoWish" = some (.ref (gaC K "NoWish"))) (h : oxInfoB K "NoWish" "thing" [.type "ValueError", .type "Exception", .type "BaseException", .type "object"] "ValueError.__new__" = true) (gB : mg "TurnError" = some (.ref (gaC K "TurnError"))) (hB : ownIniB K "TurnError" "ValueError.__init__" = true) : Exc1 P w K mg base (gw K w) "NoWish" (Str.ofString "thing") := by
  obtain ⟨T, hno, iC, tI⟩ := ox_info PySem.F.excBase_ValueError (fun self => by kernel_rfl) (by decide +kernel) h
  exact ⟨g, ⟨_, T⟩, _, fd, "self", "thing", iC, tI, FunD.okX F sc_NoWish___init__ T hno (fun cdv A outer s H E => ps_expr (pe_ini (by rfl) (ini_own gB hB (by decide +kernel)) (by decide) (pa_cons (pv 0) (pa_cons pe_str pa_nil)))) (fun cdv A outer s H E => ps_ox (pv 0) (pv 1)), FunD.binds2 F (fun _ _ _ _ _ _ us hl => match us, hl with | [_, _], _ => rfl)⟩
section
variable {P : Program} {w : World} {K : PySem.W.Frag} {mg : Str → Option Value} {base : Heap} {cl : ClW} {f : Addr} {fd : FuncData}
theorem kB_Task___eq___2 (F : FunD K "__eq__" "Task.__eq__" (defArgs s_Task___eq__) (defBody s_Task___eq__) (defScope s_Task___eq__) [] [] f fd) : KB K cl fd P_Task___eq__ 2 [] (fun ds _ => ds) := kb_p F fun _ _ _ _ _ _ us hl => match us, hl with | [_, _], _ => rfl
theorem kB_Task___init___2 (F : FunD K "__init__" "Task.__init__" (defArgs s_Task___init__) (defBody s_Task___init__) (defScope s_Task___init__) [] [("weight", .int 100), ("wish", .int 4)] f fd) : KB K cl fd P_Task___init__ 2 [] g_Task___init___2 := kb_0 F 2 [] [("weight", .int 100), ("wish", .int 4)] [.u 0, .u 1, .m 0, .m 1] (dm := [c_WEIGHT, c_WISH]) (gD := g_Task___init___2) (by simp) (fun _ _ => .cons (.int _) (.cons (.int _) (.nil))) (by decide) rfl (fun ds es h1 h2 => match ds, es, h1, h2 with | [_, _], [], _, _ => rfl) (fun Dk kV doc pm an cdv ct us mv ws l1 l3 l4 hk => by
    obtain rfl := hk (by simp)
    exact match us, mv, ws, l1, l3, l4 with | [_, _], [_, _], [], _, _, _ => ⟨_, _, _, _, _, _, rfl, rfl, ⟨_, _, _, _, _, _, rfl, rfl, rfl⟩⟩)
theorem kB_Task___init___2_weight (F : FunD K "__init__" "Task.__init__" (defArgs s_Task___init__) (defBody s_Task___init__) (defScope s_Task___init__) [] [("weight", .int 100), ("wish", .int 4)] f fd) : KB K cl fd P_Task___init__ 2 ["weight"] g_Task___init___2_weight := kb_0 F 2 ["weight"] [("wish", .int 4)] [.u 0, .u 1, .w 0, .m 0] (dm := [c_WISH]) (gD := g_Task___init___2_weight) (by simp) (fun _ _ => .cons (.int _) (.nil)) (by decide) rfl (fun ds es h1 h2 => match ds, es, h1, h2 with | [_, _], [_], _, _ => rfl) (fun Dk kV doc pm an cdv ct us mv ws l1 l3 l4 hk => by
    obtain rfl := hk (by simp)
    exact match us, mv, ws, l1, l3, l4 with | [_, _], [_], [_], _, _, _ => ⟨_, _, _, _, _, _, rfl, rfl, rfl⟩)
theorem kB_Task___init___2_weight_wish (F : FunD K "__init__" "Task.__init__" (defArgs s_Task___init__) (defBody s_Task___init__) (defScope s_Task___init__) [] [("weight", .int 100), ("wish", .int 4)] f fd) : KB K cl fd P_Task___init__ 2 ["weight", "wish"] g_Task___init___2_weight_wish := kb_0 F 2 ["weight", "wish"] [] [.u 0, .u 1, .w 0, .w 1] (dm := []) (gD := g_Task___init___2_weight_wish) (fun _ z => by cases z) (fun _ _ => .nil) (by decide) rfl (fun ds es h1 h2 => match ds, es, h1, h2 with | [_, _], [_, _], _, _ => rfl) (fun Dk kV doc pm an cdv ct us mv ws l1 l3 l4 hk => match us, mv, ws, l1, l3, l4 with | [_, _], [], [_, _], _, _, _ => rfl)
theorem kB_Task___repr___1 (F : FunD K "__repr__" "Task.__repr__" (defArgs s_Task___repr__) (defBody s_Task___repr__) (defScope s_Task___repr__) [] [] f fd) : KB K cl fd P_Task___repr__ 1 [] (fun ds _ => ds) := kb_p F fun _ _ _ _ _ _ us hl => match us, hl with | [_], _ => rfl
theorem kB_Task_key_1 (F : FunD K "key" "Task.key" (defArgs s_Task_key) (defBody s_Task_key) (defScope s_Task_key) [] [] f fd) : KB K cl fd P_Task_key 1 [] (fun ds _ => ds) := kb_p F fun _ _ _ _ _ _ us hl => match us, hl with | [_], _ => rfl
theorem kB_Task_name_1 (F : FunD K "name" "Task.name" (defArgs s_Task_name) (defBody s_Task_name) (defScope s_Task_name) [] [] f fd) : KB K cl fd P_Task_name 1 [] (fun ds _ => ds) := kb_p F fun _ _ _ _ _ _ us hl => match us, hl with | [_], _ => rfl
theorem kB_Task_turned_1_weight_wish (F : FunD K "turned" "Task.turned" (defArgs s_Task_turned) (defBody s_Task_turned) (defScope s_Task_turned) [] [("weight", .non), ("wish", .non)] f fd) : KB K cl fd P_Task_turned 1 ["weight", "wish"] g_Task_turned_1_weight_wish := kb_0 F 1 ["weight", "wish"] [] [.u 0, .w 0, .w 1] (dm := []) (gD := g_Task_turned_1_weight_wish) (fun _ z => by cases z) (fun _ _ => .nil) (by decide) rfl (fun ds es h1 h2 => match ds, es, h1, h2 with | [_], [_, _], _, _ => rfl) (fun Dk kV doc pm an cdv ct us mv ws l1 l3 l4 hk => match us, mv, ws, l1, l3, l4 with | [_], [], [_, _], _, _, _ => rfl)
theorem kB_Task_weight_1 (F : FunD K "weight" "Task.weight" (defArgs s_Task_weight) (defBody s_Task_weight) (defScope s_Task_weight) [] [] f fd) : KB K cl fd P_Task_weight 1 [] (fun ds _ => ds) := kb_p F fun _ _ _ _ _ _ us hl => match us, hl with | [_], _ => rfl
theorem kB_Task_wish_1 (F : FunD K "wish" "Task.wish" (defArgs s_Task_wish) (defBody s_Task_wish) (defScope s_Task_wish) [] [] f fd) : KB K cl fd P_Task_wish 1 [] (fun ds _ => ds) := kb_p F fun _ _ _ _ _ _ us hl => match us, hl with | [_], _ => rfl
theorem kB__law_pool_2 (F : FunD K "_law_pool" "_law_pool" (defArgs s__law_pool) (defBody s__law_pool) (defScope s__law_pool) [] [] f fd) : KB K cl fd P__law_pool 2 [] (fun ds _ => ds) := kb_p F fun _ _ _ _ _ _ us hl => match us, hl with | [_, _], _ => rfl
theorem kB__law_right_2 (F : FunD K "_law_right" "_law_right" (defArgs s__law_right) (defBody s__law_right) (defScope s__law_right) [] [] f fd) : KB K cl fd P__law_right 2 [] (fun ds _ => ds) := kb_p F fun _ _ _ _ _ _ us hl => match us, hl with | [_, _], _ => rfl
theorem kB__law_rising_2 (F : FunD K "_law_rising" "_law_rising" (defArgs s__law_rising) (defBody s__law_rising) (defScope s__law_rising) [] [] f fd) : KB K cl fd P__law_rising 2 [] (fun ds _ => ds) := kb_p F fun _ _ _ _ _ _ us hl => match us, hl with | [_, _], _ => rfl
theorem kB__law_take_2 (F : FunD K "_law_take" "_law_take" (defArgs s__law_take) (defBody s__law_take) (defScope s__law_take) [] [] f fd) : KB K cl fd P__law_take 2 [] (fun ds _ => ds) := kb_p F fun _ _ _ _ _ _ us hl => match us, hl with | [_, _], _ => rfl
theorem kB_is_name_1 (F : FunD K "is_name" "is_name" (defArgs s_is_name) (defBody s_is_name) (defScope s_is_name) [] [] f fd) : KB K cl fd P_is_name 1 [] (fun ds _ => ds) := kb_p F fun _ _ _ _ _ _ us hl => match us, hl with | [_], _ => rfl
theorem kB_is_weight_1 (F : FunD K "is_weight" "is_weight" (defArgs s_is_weight) (defBody s_is_weight) (defScope s_is_weight) [] [] f fd) : KB K cl fd P_is_weight 1 [] (fun ds _ => ds) := kb_p F fun _ _ _ _ _ _ us hl => match us, hl with | [_], _ => rfl
theorem kB_is_whole_1 (F : FunD K "is_whole" "is_whole" (defArgs s_is_whole) (defBody s_is_whole) (defScope s_is_whole) [] [] f fd) : KB K cl fd P_is_whole 1 [] (fun ds _ => ds) := kb_p F fun _ _ _ _ _ _ us hl => match us, hl with | [_], _ => rfl
theorem kB_is_wish_1 (F : FunD K "is_wish" "is_wish" (defArgs s_is_wish) (defBody s_is_wish) (defScope s_is_wish) [] [] f fd) : KB K cl fd P_is_wish 1 [] (fun ds _ => ds) := kb_p F fun _ _ _ _ _ _ us hl => match us, hl with | [_], _ => rfl
theorem kB_look_at_measure_2 (F : FunD K "look_at_measure" "look_at_measure" (defArgs s_look_at_measure) (defBody s_look_at_measure) (defScope s_look_at_measure) [] [] f fd) : KB K cl fd P_look_at_measure 2 [] (fun ds _ => ds) := kb_p F fun _ _ _ _ _ _ us hl => match us, hl with | [_, _], _ => rfl
theorem kB_look_at_name_1 (F : FunD K "look_at_name" "look_at_name" (defArgs s_look_at_name) (defBody s_look_at_name) (defScope s_look_at_name) [] [] f fd) : KB K cl fd P_look_at_name 1 [] (fun ds _ => ds) := kb_p F fun _ _ _ _ _ _ us hl => match us, hl with | [_], _ => rfl
theorem ok_is_whole (F : FunD K "is_whole" "is_whole" (defArgs s_is_whole) (defBody s_is_whole) (defScope s_is_whole) [] [] f fd)
    (n_isinstance : mg "isinstance" = none)
    (n_int : mg "int" = none)
    (n_bool : mg "bool" = none) : FnG P w K mg base 1 f fd P_is_whole (spF K cl P_is_whole.length m_is_whole) := FunD.okF F sc_is_whole rfl fun cdv A outer s H E hr => by
  have tk : Takes (cxOf (L2.CX P w) P w K mg base N_is_whole "is_whole" (defScope s_is_whole) f cdv A outer s H E) (fun c d _ H' => E c d H') := takes_of rfl rfl rfl rfl
  exact (fs_one (fs_ret (fe_and (fe_isi (T := .int) rfl rfl n_isinstance rfl n_int rfl (fe_var 0)) (fe_one (fe_not (fe_isi (T := .bl) rfl rfl n_isinstance rfl n_bool rfl (fe_var 0)))))))
theorem ok_is_name (F : FunD K "is_name" "is_name" (defArgs s_is_name) (defBody s_is_name) (defScope s_is_name) [] [] f fd)
    (n_isinstance : mg "isinstance" = none)
    (n_str : mg "str" = none)
    (n_len : mg "len" = none)
    (n_all : mg "all" = none)
    {u_LONGEST : Value} (h_LONGEST : mg "LONGEST" = some u_LONGEST ∧ RelV (.int 6) u_LONGEST ∧ ∀ as H, Sh K cl as H (.int 6) c_LONGEST)
    {u_LETTERS : Value} (h_LETTERS : mg "LETTERS" = some u_LETTERS ∧ RelV (.str "abcdefghijklmnopqrstuvwxyz") u_LETTERS ∧ ∀ as H, Sh K cl as H (.str "abcdefghijklmnopqrstuvwxyz") c_LETTERS) : FnG P w K mg base 1 f fd P_is_name (spF K cl P_is_name.length m_is_name) := FunD.okF F sc_is_name rfl fun cdv A outer s H E hr => by
  have tk : Takes (cxOf (L2.CX P w) P w K mg base N_is_name "is_name" (defScope s_is_name) f cdv A outer s H E) (fun c d _ H' => E c d H') := takes_of rfl rfl rfl rfl
  exact (fs_one (fs_ret (fe_and (fe_isi (T := .str) rfl rfl n_isinstance rfl n_str rfl (fe_var 0)) (fe_and (fe_chain op_le ok_le op_le ok_le fe_int (fe_callB call_len ok_len rfl n_len (by decide +kernel) (fa_cons (fe_var 0) fa_nil)) (fe_glob rfl h_LONGEST.1 h_LONGEST.2.1 (fun as H st _ => h_LONGEST.2.2 as H))) (fe_one (fe_callB (cr_all rfl) ok_all rfl n_all (by decide +kernel) (fa_cons (fe_lc (own := [("sign", 1)]) (gt := (gName 1)) rfl sc_is_name.nd (fi_sign (fe_var 0)) (blkOk_by (own := [("sign", 1)]) (N := N_is_name) (sc := defScope s_is_name) (by decide +kernel)) (tgw_name (by decide)) (fun _ _ _ _ _ => (pg_name (i := 1) sc_is_name.nd rfl (by first | exact Or.inl rfl | exact Or.inr rfl))) (fun _ _ _ _ _ => fts_nil) (fun _ _ _ _ _ => (fe_cmp (op_inX (Rm.u65 (show Rm 0 _ from ⟨hr.rm, hr.gd⟩).rm)) ok_inX (fe_var 1) (fe_glob rfl h_LETTERS.1 h_LETTERS.2.1 (fun as H st _ => h_LETTERS.2.2 as H)) (by with_unfolding_all rfl)))) fa_nil)))))))
theorem ok_is_weight (F : FunD K "is_weight" "is_weight" (defArgs s_is_weight) (defBody s_is_weight) (defScope s_is_weight) [] [] f fd)
    {f_is_whole : Addr} {fd_is_whole : FuncData} (C_is_whole : Cal P w K mg base cl 1 "is_whole" f_is_whole fd_is_whole P_is_whole m_is_whole)
    (B_is_whole_1 : KB K cl fd_is_whole P_is_whole 1 [] (fun ds _ => ds))
    {u_MOST : Value} (h_MOST : mg "MOST" = some u_MOST ∧ RelV (.int 1000) u_MOST ∧ ∀ as H, Sh K cl as H (.int 1000) c_MOST) : FnG P w K mg base 2 f fd P_is_weight (spF K cl P_is_weight.length m_is_weight) := FunD.okF F sc_is_weight rfl fun cdv A outer s H E hr => by
  have tk : Takes (cxOf (L2.CX P w) P w K mg base N_is_weight "is_weight" (defScope s_is_weight) f cdv A outer s H E) (fun c d _ H' => E c d H') := takes_of rfl rfl rfl rfl
  exact (fs_one (fs_ret (fe_and (fe_call (k := 1) (C_is_whole.G) (hr.mono (by decide)) tk rfl C_is_whole.g C_is_whole.kp B_is_whole_1 (fa_cons (fe_var 0) fa_nil)) (fe_one (fe_chain op_le ok_le op_le ok_le fe_int (fe_var 0) (fe_glob rfl h_MOST.1 h_MOST.2.1 (fun as H st _ => h_MOST.2.2 as H)))))))
theorem ok_is_wish (F : FunD K "is_wish" "is_wish" (defArgs s_is_wish) (defBody s_is_wish) (defScope s_is_wish) [] [] f fd)
    {f_is_whole : Addr} {fd_is_whole : FuncData} (C_is_whole : Cal P w K mg base cl 1 "is_whole" f_is_whole fd_is_whole P_is_whole m_is_whole)
    (B_is_whole_1 : KB K cl fd_is_whole P_is_whole 1 [] (fun ds _ => ds))
    {u_MOST : Value} (h_MOST : mg "MOST" = some u_MOST ∧ RelV (.int 1000) u_MOST ∧ ∀ as H, Sh K cl as H (.int 1000) c_MOST) : FnG P w K mg base 2 f fd P_is_wish (spF K cl P_is_wish.length m_is_wish) := FunD.okF F sc_is_wish rfl fun cdv A outer s H E hr => by
  have tk : Takes (cxOf (L2.CX P w) P w K mg base N_is_wish "is_wish" (defScope s_is_wish) f cdv A outer s H E) (fun c d _ H' => E c d H') := takes_of rfl rfl rfl rfl
  exact (fs_one (fs_ret (fe_and (fe_call (k := 1) (C_is_whole.G) (hr.mono (by decide)) tk rfl C_is_whole.g C_is_whole.kp B_is_whole_1 (fa_cons (fe_var 0) fa_nil)) (fe_one (fe_chain op_le ok_le op_le ok_le fe_int (fe_var 0) (fe_glob rfl h_MOST.1 h_MOST.2.1 (fun as H st _ => h_MOST.2.2 as H)))))))
theorem ok_look_at_name (F : FunD K "look_at_name" "look_at_name" (defArgs s_look_at_name) (defBody s_look_at_name) (defScope s_look_at_name) [] [] f fd)
    {f_is_name : Addr} {fd_is_name : FuncData} (C_is_name : Cal P w K mg base cl 1 "is_name" f_is_name fd_is_name P_is_name m_is_name)
    (B_is_name_1 : KB K cl fd_is_name P_is_name 1 [] (fun ds _ => ds))
    (E1_NoName : Exc1 P w K mg base cl "NoName" (Str.ofString "thing")) : FnG P w K mg base 3 f fd P_look_at_name (spF K cl P_look_at_name.length m_look_at_name) := FunD.okF F sc_look_at_name rfl fun cdv A outer s H E hr => by
  have tk : Takes (cxOf (L2.CX P w) P w K mg base N_look_at_name "look_at_name" (defScope s_look_at_name) f cdv A outer s H E) (fun c d _ H' => E c d H') := takes_of rfl rfl rfl rfl
  exact (fs_one (fs_if (ft_not (ft_val (fe_call (k := 1) (C_is_name.G) (hr.mono (by decide)) tk rfl C_is_name.g C_is_name.kp B_is_name_1 (fa_cons (fe_var 0) fa_nil)))) (fs_one (fs_raise1 rfl tk E1_NoName (hr.mono (by decide)) rfl (fe_var 0))) fs_nil))
theorem ok_look_at_measure (F : FunD K "look_at_measure" "look_at_measure" (defArgs s_look_at_measure) (defBody s_look_at_measure) (defScope s_look_at_measure) [] [] f fd)
    {f_is_weight : Addr} {fd_is_weight : FuncData} (C_is_weight : Cal P w K mg base cl 2 "is_weight" f_is_weight fd_is_weight P_is_weight m_is_weight)
    {f_is_wish : Addr} {fd_is_wish : FuncData} (C_is_wish : Cal P w K mg base cl 2 "is_wish" f_is_wish fd_is_wish P_is_wish m_is_wish)
    (B_is_weight_1 : KB K cl fd_is_weight P_is_weight 1 [] (fun ds _ => ds))
    (B_is_wish_1 : KB K cl fd_is_wish P_is_wish 1 [] (fun ds _ => ds))
    (E1_NoWeight : Exc1 P w K mg base cl "NoWeight" (Str.ofString "thing"))
    (E1_NoWish : Exc1 P w K mg base cl "NoWish" (Str.ofString "thing")) : FnG P w K mg base 3 f fd P_look_at_measure (spF K cl P_look_at_measure.length m_look_at_measure) := FunD.okF F sc_look_at_measure rfl fun cdv A outer s H E hr => by
  have tk : Takes (cxOf (L2.CX P w) P w K mg base N_look_at_measure "look_at_measure" (defScope s_look_at_measure) f cdv A outer s H E) (fun c d _ H' => E c d H') := takes_of rfl rfl rfl rfl
  exact (fs_cons (fs_if (ft_not (ft_val (fe_call (k := 2) (C_is_weight.G) (hr.mono (by decide)) tk rfl C_is_weight.g C_is_weight.kp B_is_weight_1 (fa_cons (fe_var 0) fa_nil)))) (fs_one (fs_raise1 rfl tk E1_NoWeight (hr.mono (by decide)) rfl (fe_var 0))) fs_nil) (fs_one (fs_if (ft_not (ft_val (fe_call (k := 2) (C_is_wish.G) (hr.mono (by decide)) tk rfl C_is_wish.g C_is_wish.kp B_is_wish_1 (fa_cons (fe_var 1) fa_nil)))) (fs_one (fs_raise1 rfl tk E1_NoWish (hr.mono (by decide)) rfl (fe_var 1))) fs_nil)))
theorem ok_Task___init__ (F : FunD K "__init__" "Task.__init__" (defArgs s_Task___init__) (defBody s_Task___init__) (defScope s_Task___init__) [] [("weight", .int 100), ("wish", .int 4)] f fd)
    {f_look_at_name : Addr} {fd_look_at_name : FuncData} (C_look_at_name : Cal P w K mg base cl 3 "look_at_name" f_look_at_name fd_look_at_name P_look_at_name m_look_at_name)
    {f_look_at_measure : Addr} {fd_look_at_measure : FuncData} (C_look_at_measure : Cal P w K mg base cl 3 "look_at_measure" f_look_at_measure fd_look_at_measure P_look_at_measure m_look_at_measure)
    (B_look_at_measure_2 : KB K cl fd_look_at_measure P_look_at_measure 2 [] (fun ds _ => ds))
    (B_look_at_name_1 : KB K cl fd_look_at_name P_look_at_name 1 [] (fun ds _ => ds))
    (IF_own_name : IFld K cl CI_own_name "own_name")
    (IF_own_weight : IFld K cl CI_own_weight "own_weight")
    (IF_own_wish : IFld K cl CI_own_wish "own_wish") : FnG P w K mg base 4 f fd P_Task___init__ (spF K cl P_Task___init__.length m_Task___init__) := FunD.okF F sc_Task___init__ rfl fun cdv A outer s H E hr => by
  have tk : Takes (cxOf (L2.CX P w) P w K mg base N_Task___init__ "Task.__init__" (defScope s_Task___init__) f cdv A outer s H E) (fun c d _ H' => E c d H') := takes_of rfl rfl rfl rfl
  exact (fs_cons (fs_expr (fe_call (k := 3) (C_look_at_name.G) (hr.mono (by decide)) tk rfl C_look_at_name.g C_look_at_name.kp B_look_at_name_1 (fa_cons (fe_var 1) fa_nil))) (fs_cons (fs_expr (fe_call (k := 3) (C_look_at_measure.G) (hr.mono (by decide)) tk rfl C_look_at_measure.g C_look_at_measure.kp B_look_at_measure_2 (fa_cons (fe_var 2) (fa_cons (fe_var 3) fa_nil)))) (fs_cons (fs_fld IF_own_name (fe_var 0) (fe_var 1)) (fs_cons (fs_fld IF_own_weight (fe_var 0) (fe_var 2)) (fs_one (fs_fld IF_own_wish (fe_var 0) (fe_var 3)))))))
theorem ok_Task_key (F : FunD K "key" "Task.key" (defArgs s_Task_key) (defBody s_Task_key) (defScope s_Task_key) [] [] f fd)
    (IF_own_name : IFld K cl CI_own_name "own_name")
    (IF_own_wish : IFld K cl CI_own_wish "own_wish")
    (IF_own_weight : IFld K cl CI_own_weight "own_weight") : FnG P w K mg base 1 f fd P_Task_key (spF K cl P_Task_key.length m_Task_key) := FunD.okF F sc_Task_key rfl fun cdv A outer s H E hr => by
  have tk : Takes (cxOf (L2.CX P w) P w K mg base N_Task_key "Task.key" (defScope s_Task_key) f cdv A outer s H E) (fun c d _ H' => E c d H') := takes_of rfl rfl rfl rfl
  exact (fs_one (fs_ret (fe_tup (fa_cons (fe_fld IF_own_weight (fe_var 0)) (fa_cons (fe_fld IF_own_wish (fe_var 0)) (fa_cons (fe_fld IF_own_name (fe_var 0)) fa_nil))))))
theorem ok_Task___eq__ (F : FunD K "__eq__" "Task.__eq__" (defArgs s_Task___eq__) (defBody s_Task___eq__) (defScope s_Task___eq__) [] [] f fd)
    {f_Task_key : Addr} {fd_Task_key : FuncData} (C_Task_key : CalM P w K mg base cl 1 "Task" "key" f_Task_key fd_Task_key P_Task_key m_Task_key)
    (B_Task_key_1 : KB K cl fd_Task_key P_Task_key 1 [] (fun ds _ => ds))
    (n_isinstance : mg "isinstance" = none)
    (KG_Task : KitG K cl (fun t => PySem.W.kitOne K t (.ref (cl "Task"))) CE CI tb_Task tt_Task)
    (G_Task : mg "Task" = some (.ref (cl "Task"))) : FnG P w K mg base 2 f fd P_Task___eq__ (spF K cl P_Task___eq__.length m_Task___eq__) := FunD.okF F sc_Task___eq__ rfl fun cdv A outer s H E hr => by
  have tk : Takes (cxOf (L2.CX P w) P w K mg base N_Task___eq__ "Task.__eq__" (defScope s_Task___eq__) f cdv A outer s H E) (fun c d _ H' => E c d H') := takes_of rfl rfl rfl rfl
  exact (fs_one (fs_ret (fe_and (fe_isg1 rfl n_isinstance (cn_own rfl G_Task) KG_Task (fe_var 1)) (fe_one (fe_cmp (op_eqX hr.rm.units) ok_eq (fe_meth0 (k := 1) C_Task_key (hr.mono (by decide)) tk B_Task_key_1 (fe_var 0) fk_nil) (fe_meth0 (k := 1) C_Task_key (hr.mono (by decide)) tk B_Task_key_1 (fe_var 1) fk_nil) (nomark _))))))
theorem okU_Task___repr__ (F : FunD K "__repr__" "Task.__repr__" (defArgs s_Task___repr__) (defBody s_Task___repr__) (defScope s_Task___repr__) [] [] f fd)
    (IF_own_name : IFld K cl CI_own_name "own_name")
    (IF_own_weight : IFld K cl CI_own_weight "own_weight")
    (IF_own_wish : IFld K cl CI_own_wish "own_wish") : FnOk P w K mg base (L2.CX P w) 1 f fd P_Task___repr__ (spF K cl P_Task___repr__.length m_Task___repr__) := okU F sc_Task___repr__ rfl fun cdv A outer s H E => by
  have tk : Takes (cxOf (L2.CX P w) P w K mg base N_Task___repr__ "Task.__repr__" (defScope s_Task___repr__) f cdv A outer s H E) (fun c d _ H' => E c d H') := takes_of rfl rfl rfl rfl
  exact (fs_one (fs_ret (fe_join (FJ.cons fe_str (FJ.cons (fe_fmtR (fe_fld IF_own_name (fe_var 0))) (FJ.cons fe_str (FJ.cons (fe_fmtR (fe_fld IF_own_weight (fe_var 0))) (FJ.cons fe_str (FJ.cons (fe_fmtR (fe_fld IF_own_wish (fe_var 0))) (FJ.cons fe_str FJ.nil))))))))))
theorem ok_Task___repr__ (F : FunD K "__repr__" "Task.__repr__" (defArgs s_Task___repr__) (defBody s_Task___repr__) (defScope s_Task___repr__) [] [] f fd)
    (IF_own_name : IFld K cl CI_own_name "own_name")
    (IF_own_weight : IFld K cl CI_own_weight "own_weight")
    (IF_own_wish : IFld K cl CI_own_wish "own_wish") : FnG P w K mg base 1 f fd P_Task___repr__ (spF K cl P_Task___repr__.length m_Task___repr__) := FunD.okF F sc_Task___repr__ rfl fun cdv A outer s H E hr => by
  have tk : Takes (cxOf (L2.CX P w) P w K mg base N_Task___repr__ "Task.__repr__" (defScope s_Task___repr__) f cdv A outer s H E) (fun c d _ H' => E c d H') := takes_of rfl rfl rfl rfl
  exact (fs_one (fs_ret (fe_join (FJ.cons fe_str (FJ.cons (fe_fmtR (fe_fld IF_own_name (fe_var 0))) (FJ.cons fe_str (FJ.cons (fe_fmtR (fe_fld IF_own_weight (fe_var 0))) (FJ.cons fe_str (FJ.cons (fe_fmtR (fe_fld IF_own_wish (fe_var 0))) (FJ.cons fe_str FJ.nil))))))))))
theorem ok_Task_name (F : FunD K "name" "Task.name" (defArgs s_Task_name) (defBody s_Task_name) (defScope s_Task_name) [] [] f fd)
    (IF_own_name : IFld K cl CI_own_name "own_name") : FnG P w K mg base 1 f fd P_Task_name (spF K cl P_Task_name.length m_Task_name) := FunD.okF F sc_Task_name rfl fun cdv A outer s H E hr => by
  have tk : Takes (cxOf (L2.CX P w) P w K mg base N_Task_name "Task.name" (defScope s_Task_name) f cdv A outer s H E) (fun c d _ H' => E c d H') := takes_of rfl rfl rfl rfl
  exact (fs_one (fs_ret (fe_fld IF_own_name (fe_var 0))))
theorem ok_Task_weight (F : FunD K "weight" "Task.weight" (defArgs s_Task_weight) (defBody s_Task_weight) (defScope s_Task_weight) [] [] f fd)
    (IF_own_weight : IFld K cl CI_own_weight "own_weight") : FnG P w K mg base 1 f fd P_Task_weight (spF K cl P_Task_weight.length m_Task_weight) := FunD.okF F sc_Task_weight rfl fun cdv A outer s H E hr => by
  have tk : Takes (cxOf (L2.CX P w) P w K mg base N_Task_weight "Task.weight" (defScope s_Task_weight) f cdv A outer s H E) (fun c d _ H' => E c d H') := takes_of rfl rfl rfl rfl
  exact (fs_one (fs_ret (fe_fld IF_own_weight (fe_var 0))))
theorem ok_Task_wish (F : FunD K "wish" "Task.wish" (defArgs s_Task_wish) (defBody s_Task_wish) (defScope s_Task_wish) [] [] f fd)
    (IF_own_wish : IFld K cl CI_own_wish "own_wish") : FnG P w K mg base 1 f fd P_Task_wish (spF K cl P_Task_wish.length m_Task_wish) := FunD.okF F sc_Task_wish rfl fun cdv A outer s H E hr => by
  have tk : Takes (cxOf (L2.CX P w) P w K mg base N_Task_wish "Task.wish" (defScope s_Task_wish) f cdv A outer s H E) (fun c d _ H' => E c d H') := takes_of rfl rfl rfl rfl
  exact (fs_one (fs_ret (fe_fld IF_own_wish (fe_var 0))))
theorem ok_Task_turned (F : FunD K "turned" "Task.turned" (defArgs s_Task_turned) (defBody s_Task_turned) (defScope s_Task_turned) [] [("weight", .non), ("wish", .non)] f fd)
    {f_Task___init__ : Addr} {fd_Task___init__ : FuncData} (C_Task___init__ : CalI P w K mg base cl 4 "Task" f_Task___init__ fd_Task___init__ P_Task___init__ m_Task___init__)
    (B_Task___init___2_weight_wish : KB K cl fd_Task___init__ P_Task___init__ 2 ["weight", "wish"] g_Task___init___2_weight_wish)
    (IF_own_weight : IFld K cl CI_own_weight "own_weight")
    (IF_own_wish : IFld K cl CI_own_wish "own_wish")
    (IF_own_name : IFld K cl CI_own_name "own_name") : FnG P w K mg base 6 f fd P_Task_turned (spF K cl P_Task_turned.length m_Task_turned) := FunD.okF F sc_Task_turned rfl fun cdv A outer s H E hr => by
  have tk : Takes (cxOf (L2.CX P w) P w K mg base N_Task_turned "Task.turned" (defScope s_Task_turned) f cdv A outer s H E) (fun c d _ H' => E c d H') := takes_of rfl rfl rfl rfl
  exact (fs_cons (fs_set (i := 1) sc_Task_turned.nd rfl (by first | exact Or.inl rfl | exact Or.inr rfl) (fe_ifExp (ft_cmp op_isN ok_isN (fe_var 1) fe_non (nomark _)) (fe_fld IF_own_weight (fe_var 0)) (fe_var 1))) (fs_cons (fs_set (i := 2) sc_Task_turned.nd rfl (by first | exact Or.inl rfl | exact Or.inr rfl) (fe_ifExp (ft_cmp op_isN ok_isN (fe_var 2) fe_non (nomark _)) (fe_fld IF_own_wish (fe_var 0)) (fe_var 2))) (fs_one (fs_ret (fe_mk (k := 4) C_Task___init__ (hr.mono (by decide)) tk B_Task___init___2_weight_wish rfl (fa_cons (fe_fld IF_own_name (fe_var 0)) fa_nil) (fk_cons (fe_var 1) (fk_cons (fe_var 2) fk_nil)))))))
theorem ok__law_pool (F : FunD K "_law_pool" "_law_pool" (defArgs s__law_pool) (defBody s__law_pool) (defScope s__law_pool) [] [] f fd)
    (n_int : mg "int" = none) : FnG P w K mg base 1 f fd P__law_pool (spF K cl P__law_pool.length m__law_pool) := FunD.okF F sc__law_pool rfl fun cdv A outer s H E hr => by
  have tk : Takes (cxOf (L2.CX P w) P w K mg base N__law_pool "_law_pool" (defScope s__law_pool) f cdv A outer s H E) (fun c d _ H' => E c d H') := takes_of rfl rfl rfl rfl
  exact (fs_cons (fs_set (i := 2) sc__law_pool.nd rfl (by first | exact Or.inl rfl | exact Or.inr rfl) (fe_ix ix_seq ok_ix (fe_bin op_addX ok_add (fe_sl (fe_var 0) (fo_some (fe_var 1)) (fo_some (fe_bin op_addX ok_add (fe_var 1) fe_int))) (fe_lst (fa_cons fe_int fa_nil))) fe_int (fun _ _ => rfl))) (fs_cons (fs_set (i := 3) sc__law_pool.nd rfl (by first | exact Or.inl rfl | exact Or.inr rfl) (fe_bin op_mod ok_mod (fe_bin op_mulX ok_mul (fe_bin op_addX ok_add (fe_bin op_addX ok_add (fe_bin op_mod ok_mod (fe_var 2) fe_int) (fe_bin op_mulX ok_mul fe_int (fe_var 1))) fe_int) fe_int) fe_int)) (fs_one (fs_ret (fe_cel (fa_cons (fe_bin op_mulX ok_mul (fe_var 2) (fe_callTy call_int1 ok_int rfl n_int (by decide +kernel) (fa_cons (fe_cmp op_ge ok_ge (fe_var 2) (fe_bin op_pow ok_pow fe_int fe_int) (nomark _)) fa_nil))) (fa_cons (fe_var 3) fa_nil)))))))
theorem ok__law_take (F : FunD K "_law_take" "_law_take" (defArgs s__law_take) (defBody s__law_take) (defScope s__law_take) [] [] f fd) : FnG P w K mg base 1 f fd P__law_take (spF K cl P__law_take.length m__law_take) := FunD.okF F sc__law_take rfl fun cdv A outer s H E hr => by
  have tk : Takes (cxOf (L2.CX P w) P w K mg base N__law_take "_law_take" (defScope s__law_take) f cdv A outer s H E) (fun c d _ H' => E c d H') := takes_of rfl rfl rfl rfl
  exact (fs_cons (fs_if (ft_cmp op_gt ok_gt (fe_ix ix_seq ok_ix (fe_var 0) fe_int (fun _ _ => rfl)) fe_int (nomark _)) (fs_cons (fs_set (i := 2) sc__law_take.nd rfl (by first | exact Or.inl rfl | exact Or.inr rfl) (fe_bin op_mod ok_mod (fe_ix ix_seq ok_ix (fe_var 0) fe_int (fun _ _ => rfl)) (fe_var 1))) (fs_cons (fs_asg (fun h g => ps_asg h g) (fe_bin op_fdivW ok_fdiv (fe_ix ix_seq ok_ix (fe_var 0) fe_int (fun _ _ => rfl)) (fe_var 1)) (fg_sub (fe_var 0) fe_int (fun h1 h2 => pg_sub h1 h2 set_list))) (fs_one (fs_ret (fe_var 2))))) fs_nil) (fs_cons (fs_asg (fun h g => ps_asg h g) (fe_bin op_mod ok_mod (fe_bin op_addX ok_add (fe_bin op_mulX ok_mul (fe_ix ix_seq ok_ix (fe_var 0) fe_int (fun _ _ => rfl)) fe_int) fe_int) fe_int) (fg_sub (fe_var 0) fe_int (fun h1 h2 => pg_sub h1 h2 set_list))) (fs_one (fs_ret (fe_bin op_mod ok_mod (fe_bin op_fdivW ok_fdiv (fe_bin op_mod ok_mod (fe_bin op_mulX ok_mul (fe_ix ix_seq ok_ix (fe_var 0) fe_int (fun _ _ => rfl)) (fe_ix ix_seq ok_ix (fe_var 0) fe_int (fun _ _ => rfl))) fe_int) fe_int) (fe_var 1))))))
theorem ok__law_rising (F : FunD K "_law_rising" "_law_rising" (defArgs s__law_rising) (defBody s__law_rising) (defScope s__law_rising) [] [] f fd)
    {f_Task_weight : Addr} {fd_Task_weight : FuncData} (C_Task_weight : CalM P w K mg base cl 1 "Task" "weight" f_Task_weight fd_Task_weight P_Task_weight m_Task_weight)
    {f_Task_wish : Addr} {fd_Task_wish : FuncData} (C_Task_wish : CalM P w K mg base cl 1 "Task" "wish" f_Task_wish fd_Task_wish P_Task_wish m_Task_wish)
    {f_Task_name : Addr} {fd_Task_name : FuncData} (C_Task_name : CalM P w K mg base cl 1 "Task" "name" f_Task_name fd_Task_name P_Task_name m_Task_name)
    (B_Task_name_1 : KB K cl fd_Task_name P_Task_name 1 [] (fun ds _ => ds))
    (B_Task_weight_1 : KB K cl fd_Task_weight P_Task_weight 1 [] (fun ds _ => ds))
    (B_Task_wish_1 : KB K cl fd_Task_wish P_Task_wish 1 [] (fun ds _ => ds)) : FnG P w K mg base 2 f fd P__law_rising (spF K cl P__law_rising.length m__law_rising) := FunD.okF F sc__law_rising rfl fun cdv A outer s H E hr => by
  have tk : Takes (cxOf (L2.CX P w) P w K mg base N__law_rising "_law_rising" (defScope s__law_rising) f cdv A outer s H E) (fun c d _ H' => E c d H') := takes_of rfl rfl rfl rfl
  exact (fs_cons (fs_if (ft_cmp (op_neX hr.rm.units) ok_ne (fe_meth0 (k := 1) C_Task_weight (hr.mono (by decide)) tk B_Task_weight_1 (fe_var 0) fk_nil) (fe_meth0 (k := 1) C_Task_weight (hr.mono (by decide)) tk B_Task_weight_1 (fe_var 1) fk_nil) (nomark _)) (fs_one (fs_ret (fe_cmp op_lt ok_lt (fe_meth0 (k := 1) C_Task_weight (hr.mono (by decide)) tk B_Task_weight_1 (fe_var 0) fk_nil) (fe_meth0 (k := 1) C_Task_weight (hr.mono (by decide)) tk B_Task_weight_1 (fe_var 1) fk_nil) (nomark _)))) fs_nil) (fs_cons (fs_if (ft_cmp (op_neX hr.rm.units) ok_ne (fe_meth0 (k := 1) C_Task_wish (hr.mono (by decide)) tk B_Task_wish_1 (fe_var 0) fk_nil) (fe_meth0 (k := 1) C_Task_wish (hr.mono (by decide)) tk B_Task_wish_1 (fe_var 1) fk_nil) (nomark _)) (fs_one (fs_ret (fe_cmp op_lt ok_lt (fe_meth0 (k := 1) C_Task_wish (hr.mono (by decide)) tk B_Task_wish_1 (fe_var 0) fk_nil) (fe_meth0 (k := 1) C_Task_wish (hr.mono (by decide)) tk B_Task_wish_1 (fe_var 1) fk_nil) (nomark _)))) fs_nil) (fs_one (fs_ret (fe_cmp op_le_str ok_leS (fe_meth0 (k := 1) C_Task_name (hr.mono (by decide)) tk B_Task_name_1 (fe_var 0) fk_nil) (fe_meth0 (k := 1) C_Task_name (hr.mono (by decide)) tk B_Task_name_1 (fe_var 1) fk_nil) (nomark _))))))
theorem ok__law_right (F : FunD K "_law_right" "_law_right" (defArgs s__law_right) (defBody s__law_right) (defScope s__law_right) [] [] f fd)
    {f_Task___repr__ : Addr} {fd_Task___repr__ : FuncData} (C_Task___repr__ : CalM P w K mg base cl 1 "Task" "__repr__" f_Task___repr__ fd_Task___repr__ P_Task___repr__ m_Task___repr__)
    {f_Task_key : Addr} {fd_Task_key : FuncData} (C_Task_key : CalM P w K mg base cl 1 "Task" "key" f_Task_key fd_Task_key P_Task_key m_Task_key)
    {f__law_rising : Addr} {fd__law_rising : FuncData} (C__law_rising : Cal P w K mg base cl 2 "_law_rising" f__law_rising fd__law_rising P__law_rising m__law_rising)
    {f_Task___eq__ : Addr} {fd_Task___eq__ : FuncData} (C_Task___eq__ : CalM P w K mg base cl 2 "Task" "__eq__" f_Task___eq__ fd_Task___eq__ P_Task___eq__ m_Task___eq__)
    {f_Task_turned : Addr} {fd_Task_turned : FuncData} (C_Task_turned : CalM P w K mg base cl 6 "Task" "turned" f_Task_turned fd_Task_turned P_Task_turned m_Task_turned)
    {f_Task_wish : Addr} {fd_Task_wish : FuncData} (C_Task_wish : CalM P w K mg base cl 1 "Task" "wish" f_Task_wish fd_Task_wish P_Task_wish m_Task_wish)
    {f_Task_weight : Addr} {fd_Task_weight : FuncData} (C_Task_weight : CalM P w K mg base cl 1 "Task" "weight" f_Task_weight fd_Task_weight P_Task_weight m_Task_weight)
    {f_Task_name : Addr} {fd_Task_name : FuncData} (C_Task_name : CalM P w K mg base cl 1 "Task" "name" f_Task_name fd_Task_name P_Task_name m_Task_name)
    (U_Task___repr__ : CalU P w K mg base cl 1 "Task" "__repr__" f_Task___repr__ fd_Task___repr__ P_Task___repr__ m_Task___repr__)
    (hcd0 : fd.code = .ref (ct K "_law_right").1) (TB : LamX.TabB base mg (ct K "_law_right").1 (ct K "_law_right").2)
    (B_Task___eq___2 : KB K cl fd_Task___eq__ P_Task___eq__ 2 [] (fun ds _ => ds))
    (B_Task___repr___1 : KB K cl fd_Task___repr__ P_Task___repr__ 1 [] (fun ds _ => ds))
    (B_Task_key_1 : KB K cl fd_Task_key P_Task_key 1 [] (fun ds _ => ds))
    (B_Task_name_1 : KB K cl fd_Task_name P_Task_name 1 [] (fun ds _ => ds))
    (B_Task_turned_1_weight_wish : KB K cl fd_Task_turned P_Task_turned 1 ["weight", "wish"] g_Task_turned_1_weight_wish)
    (B_Task_weight_1 : KB K cl fd_Task_weight P_Task_weight 1 [] (fun ds _ => ds))
    (B_Task_wish_1 : KB K cl fd_Task_wish P_Task_wish 1 [] (fun ds _ => ds))
    (B__law_rising_2 : KB K cl fd__law_rising P__law_rising 2 [] (fun ds _ => ds))
    (n_repr : mg "repr" = none)
    (n_sorted : mg "sorted" = none)
    (n_len : mg "len" = none)
    (n_range : mg "range" = none)
    (EO_Task : EqO K cl "Task" f_Task___eq__)
    (OA_Task : NoA K cl "Task")
    (NO_Task : NeO K cl "Task") : FnG P w K mg base 7 f fd P__law_right (spF K cl P__law_right.length m__law_right) := FunD.okFC F sc__law_right rfl fun cdv hcd1 A outer s H E hr => by
  have tk : Takes (cxOf (L2.CX P w) P w K mg base N__law_right "_law_right" (defScope s__law_right) f cdv A outer s H E) (fun c d _ H' => E c d H') := takes_of rfl rfl rfl rfl
  have hcode := hcd1.symm.trans hcd0
  exact (fs_cons (fs_set (i := 2) sc__law_right.nd rfl (by first | exact Or.inl rfl | exact Or.inr rfl) (fe_reprLL (k := 1) U_Task___repr__ (hr.mono (by decide)) B_Task___repr___1 rfl n_repr (fe_lst (fa_cons (fe_var 0) (fa_cons (fe_var 1) fa_nil))))) (fs_cons (fs_set (i := 3) sc__law_right.nd rfl (by first | exact Or.inl rfl | exact Or.inr rfl) (fe_sortK (k := 1) (xm := "_law_right") rfl n_sorted (hr.mono (by decide)) TB hcode rfl ⟨rfl, rfl, rfl, by decide +kernel, rfl, by decide +kernel, by decide +kernel⟩ (by decide +kernel) rfl (fun _ _ _ _ _ _ => rfl) (fun A outer s H E f c' hr => have tk : Takes (cxOf (L2.CX _ _) _ _ _ _ _ ["_law_task"] (lamQ "_law_right") _ f (.ref c') A outer s H E) (fun c d _ H' => E c d H') := takes_of rfl rfl rfl rfl; (fe_meth0 (k := 1) C_Task_key (hr.mono (by decide)) tk B_Task_key_1 (fe_var 0) fk_nil)) (fe_var 0))) (fs_cons (fs_if (ft_cmp (op_neX hr.rm.units) ok_ne (fe_callB call_len ok_len rfl n_len (by decide +kernel) (fa_cons (fe_var 3) fa_nil)) (fe_callB call_len ok_len rfl n_len (by decide +kernel) (fa_cons (fe_var 0) fa_nil)) (nomark _)) (fs_one (fs_ret fe_bl)) fs_nil) (fs_cons (fs_if (ft_cmp (op_neX hr.rm.units) ok_ne (fe_lc (own := [("_law_k", 4)]) (gt := (gName 4)) rfl sc__law_right.nd (fi_range2 rfl n_range (fa_cons fe_int (fa_cons (fe_callB call_len ok_len rfl n_len (by decide +kernel) (fa_cons (fe_var 3) fa_nil)) fa_nil))) (blkOk_by (own := [("_law_k", 4)]) (N := N__law_right) (sc := defScope s__law_right) (by decide +kernel)) (tgw_name (by decide)) (fun _ _ _ _ _ => (pg_name (i := 4) sc__law_right.nd rfl (by first | exact Or.inl rfl | exact Or.inr rfl))) (fun _ _ _ _ _ => (fts_one (ft_not (ft_val (fe_call (k := 2) (C__law_rising.G) (show Rm 2 _ from ⟨Room.mono hr.rm (show 2 ≤ 6 by decide), hr.gd⟩) takes0 rfl C__law_rising.g C__law_rising.kp B__law_rising_2 (fa_cons (fe_ix ix_seq ok_ix (fe_var 3) (fe_bin op_sub ok_sub (fe_var 4) fe_int) (fun _ _ => rfl)) (fa_cons (fe_ix ix_seq ok_ix (fe_var 3) (fe_var 4) (fun _ _ => rfl)) fa_nil))))))) (fun _ _ _ _ _ => (fe_var 4))) (fe_lst fa_nil) (nomark _)) (fs_one (fs_ret fe_bl)) fs_nil) (fs_cons (fs_if (ft_cmp (op_neX hr.rm.units) ok_ne (fe_lc (own := [("_law_task", 5)]) (gt := (gName 5)) rfl sc__law_right.nd (fi_lst (fe_var 0)) (blkOk_by (own := [("_law_task", 5)]) (N := N__law_right) (sc := defScope s__law_right) (by decide +kernel)) (tgw_name (by decide)) (fun _ _ _ _ _ => (pg_name (i := 5) sc__law_right.nd rfl (by first | exact Or.inl rfl | exact Or.inr rfl))) (fun _ _ _ _ _ => (fts_one (ft_cmp (op_neX (show Rm 6 _ from ⟨hr.rm, hr.gd⟩).rm.units) ok_ne (fe_cntA (k := 2) EO_Task OA_Task C_Task___eq__ (show Rm (2 + 1) _ from ⟨Room.mono hr.rm (show 2 + 1 ≤ 6 by decide), hr.gd⟩) takes0 B_Task___eq___2 (fe_var 0) (fe_var 5)) (fe_cntA (k := 2) EO_Task OA_Task C_Task___eq__ (show Rm (2 + 1) _ from ⟨Room.mono hr.rm (show 2 + 1 ≤ 6 by decide), hr.gd⟩) takes0 B_Task___eq___2 (fe_var 3) (fe_var 5)) (nomark _)))) (fun _ _ _ _ _ => (fe_var 5))) (fe_lst fa_nil) (nomark _)) (fs_one (fs_ret fe_bl)) fs_nil) (fs_cons (fs_for (passes_of rfl) rfl (fi_lst (fe_var 0)) (fg_name (i := 5) sc__law_right.nd rfl (by first | exact Or.inl rfl | exact Or.inr rfl)) (fs_cons (fs_for (passes_of rfl) rfl (fi_lst (fe_var 1)) (fg_name (i := 6) sc__law_right.nd rfl (by first | exact Or.inl rfl | exact Or.inr rfl)) (fs_cons (fs_set (i := 7) sc__law_right.nd rfl (by first | exact Or.inl rfl | exact Or.inr rfl) (fe_meth0 (k := 6) C_Task_turned (hr.mono (by decide)) tk B_Task_turned_1_weight_wish (fe_var 5) (fk_cons (fe_meth0 (k := 1) C_Task_weight (hr.mono (by decide)) tk B_Task_weight_1 (fe_var 6) fk_nil) (fk_cons (fe_meth0 (k := 1) C_Task_wish (hr.mono (by decide)) tk B_Task_wish_1 (fe_var 6) fk_nil) fk_nil)))) (fs_cons (fs_if (ft_neO (k := 2) EO_Task NO_Task C_Task___eq__ (hr.mono (by decide)) tk B_Task___eq___2 (fe_meth0 (k := 6) C_Task_turned (hr.mono (by decide)) tk B_Task_turned_1_weight_wish (fe_var 7) (fk_cons (fe_meth0 (k := 1) C_Task_weight (hr.mono (by decide)) tk B_Task_weight_1 (fe_var 5) fk_nil) (fk_cons (fe_meth0 (k := 1) C_Task_wish (hr.mono (by decide)) tk B_Task_wish_1 (fe_var 5) fk_nil) fk_nil))) (fe_var 5) (nomark _)) (fs_one (fs_ret fe_bl)) fs_nil) (fs_cons (fs_if (ft_cmp (op_neX hr.rm.units) ok_ne (fe_slT (fe_meth0 (k := 1) C_Task_key (hr.mono (by decide)) tk B_Task_key_1 (fe_var 7) fk_nil) fo_none (fo_some fe_int)) (fe_slT (fe_meth0 (k := 1) C_Task_key (hr.mono (by decide)) tk B_Task_key_1 (fe_var 6) fk_nil) fo_none (fo_some fe_int)) (nomark _)) (fs_one (fs_ret fe_bl)) fs_nil) (fs_one (fs_if (ft_cmp (op_neX hr.rm.units) ok_ne (fe_eqO (k := 2) EO_Task C_Task___eq__ (hr.mono (by decide)) tk B_Task___eq___2 (fe_var 7) (fe_var 6) (nomark _)) (fe_cmp (op_eqX hr.rm.units) ok_eq (fe_meth0 (k := 1) C_Task_name (hr.mono (by decide)) tk B_Task_name_1 (fe_var 5) fk_nil) (fe_meth0 (k := 1) C_Task_name (hr.mono (by decide)) tk B_Task_name_1 (fe_var 6) fk_nil) (nomark _)) (nomark _)) (fs_one (fs_ret fe_bl)) fs_nil))))) (fun h1 h2 h3 => ps_for (passes_of rfl) rfl h1 h2 h3)) (fs_one (fs_if (ft_cmp (op_neX hr.rm.units) ok_ne (fe_inA (k := 2) EO_Task OA_Task C_Task___eq__ (hr.mono (by decide)) tk B_Task___eq___2 (fe_var 5) (fe_var 1) (by with_unfolding_all rfl)) (fe_cmp (op_neL hr.rm.units) ok_neL (fe_lc (own := [("_law_other", 6)]) (gt := (gName 6)) rfl sc__law_right.nd (fi_lst (fe_var 1)) (blkOk_by (own := [("_law_other", 6)]) (N := N__law_right) (sc := defScope s__law_right) (by decide +kernel)) (tgw_name (by decide)) (fun _ _ _ _ _ => (pg_name (i := 6) sc__law_right.nd rfl (by first | exact Or.inl rfl | exact Or.inr rfl))) (fun _ _ _ _ _ => (fts_one (ft_cmp (op_eqX (show Rm 6 _ from ⟨hr.rm, hr.gd⟩).rm.units) ok_eq (fe_meth0 (k := 1) C_Task_key (show Rm (1) _ from ⟨Room.mono hr.rm (show 1 ≤ 6 by decide), hr.gd⟩) takes0 B_Task_key_1 (fe_var 6) fk_nil) (fe_meth0 (k := 1) C_Task_key (show Rm (1) _ from ⟨Room.mono hr.rm (show 1 ≤ 6 by decide), hr.gd⟩) takes0 B_Task_key_1 (fe_var 5) fk_nil) (nomark _)))) (fun _ _ _ _ _ => (fe_var 6))) (fe_lst fa_nil) (nomark _)) (nomark _)) (fs_one (fs_ret fe_bl)) fs_nil))) (fun h1 h2 h3 => ps_for (passes_of rfl) rfl h1 h2 h3)) (fs_one (fs_ret (fe_cmp (op_eqX hr.rm.units) ok_eq (fe_reprLL (k := 1) U_Task___repr__ (hr.mono (by decide)) B_Task___repr___1 rfl n_repr (fe_lst (fa_cons (fe_var 0) (fa_cons (fe_var 1) fa_nil)))) (fe_var 2) (nomark _))))))))))
theorem ok_law (F : FunD K "law" "law" (defArgs s_law) (defBody s_law) (defScope s_law) [] [] f fd)
    {f__law_pool : Addr} {fd__law_pool : FuncData} (C__law_pool : Cal P w K mg base cl 1 "_law_pool" f__law_pool fd__law_pool P__law_pool m__law_pool)
    {f__law_take : Addr} {fd__law_take : FuncData} (C__law_take : Cal P w K mg base cl 1 "_law_take" f__law_take fd__law_take P__law_take m__law_take)
    {f_Task___init__ : Addr} {fd_Task___init__ : FuncData} (C_Task___init__ : CalI P w K mg base cl 4 "Task" f_Task___init__ fd_Task___init__ P_Task___init__ m_Task___init__)
    {f__law_right : Addr} {fd__law_right : FuncData} (C__law_right : Cal P w K mg base cl 7 "_law_right" f__law_right fd__law_right P__law_right m__law_right)
    (B_Task___init___2 : KB K cl fd_Task___init__ P_Task___init__ 2 [] g_Task___init___2)
    (B_Task___init___2_weight : KB K cl fd_Task___init__ P_Task___init__ 2 ["weight"] g_Task___init___2_weight)
    (B_Task___init___2_weight_wish : KB K cl fd_Task___init__ P_Task___init__ 2 ["weight", "wish"] g_Task___init___2_weight_wish)
    (B__law_pool_2 : KB K cl fd__law_pool P__law_pool 2 [] (fun ds _ => ds))
    (B__law_right_2 : KB K cl fd__law_right P__law_right 2 [] (fun ds _ => ds))
    (B__law_take_2 : KB K cl fd__law_take P__law_take 2 [] (fun ds _ => ds))
    (n_len : mg "len" = none)
    (n_min : mg "min" = none)
    (n_max : mg "max" = none)
    (n_range : mg "range" = none) : FnG P w K mg base 8 f fd P_law (spF K cl P_law.length m_law) := FunD.okF F sc_law rfl fun cdv A outer s H E hr => by
  have tk : Takes (cxOf (L2.CX P w) P w K mg base N_law "law" (defScope s_law) f cdv A outer s H E) (fun c d _ H' => E c d H') := takes_of rfl rfl rfl rfl
  exact (fs_cons (fs_for (passes_of rfl) rfl (fi_range1 rfl n_range (fa_cons (fe_callB (call_max2 rfl) ok_max2 rfl n_max (by decide +kernel) (fa_cons fe_int (fa_cons (fe_callB (call_min2 rfl) ok_min2 rfl n_min (by decide +kernel) (fa_cons fe_int (fa_cons (fe_callB call_len ok_len rfl n_len (by decide +kernel) (fa_cons (fe_var 0) fa_nil)) fa_nil))) fa_nil))) fa_nil)) (fg_name (i := 1) sc_law.nd rfl (by first | exact Or.inl rfl | exact Or.inr rfl)) (fs_cons (fs_set (i := 2) sc_law.nd rfl (by first | exact Or.inl rfl | exact Or.inr rfl) (fe_call (k := 1) (C__law_pool.G) (hr.mono (by decide)) tk rfl C__law_pool.g C__law_pool.kp B__law_pool_2 (fa_cons (fe_var 0) (fa_cons (fe_var 1) fa_nil)))) (fs_cons (fs_set (i := 3) sc_law.nd rfl (by first | exact Or.inl rfl | exact Or.inr rfl) (fe_cel fa_nil)) (fs_cons (fs_for (passes_of rfl) rfl (fi_range1 rfl n_range (fa_cons (fe_call (k := 1) (C__law_take.G) (hr.mono (by decide)) tk rfl C__law_take.g C__law_take.kp B__law_take_2 (fa_cons (fe_var 2) (fa_cons fe_int fa_nil))) fa_nil)) (fg_name (i := 4) sc_law.nd rfl (by first | exact Or.inl rfl | exact Or.inr rfl)) (fs_cons (fs_set (i := 5) sc_law.nd rfl (by first | exact Or.inl rfl | exact Or.inr rfl) (fe_ix ix_seq ok_ix (fe_lst (fa_cons fe_str (fa_cons fe_str (fa_cons fe_str (fa_cons fe_str fa_nil))))) (fe_call (k := 1) (C__law_take.G) (hr.mono (by decide)) tk rfl C__law_take.g C__law_take.kp B__law_take_2 (fa_cons (fe_var 2) (fa_cons fe_int fa_nil))) (fun _ _ => rfl))) (fs_one (fs_expr (fe_bm (T := .lst) PySem.F.plainAttrs_list PySem.F.slot_list_append PySem.F.type_list_append mt_append ok_app (fe_var 3) (fa_cons (fe_mk (k := 4) C_Task___init__ (hr.mono (by decide)) tk B_Task___init___2_weight_wish rfl (fa_cons (fe_var 5) fa_nil) (fk_cons (fe_ix ix_seq ok_ix (fe_lst (fa_cons fe_int (fa_cons fe_int (fa_cons fe_int fa_nil)))) (fe_call (k := 1) (C__law_take.G) (hr.mono (by decide)) tk rfl C__law_take.g C__law_take.kp B__law_take_2 (fa_cons (fe_var 2) (fa_cons fe_int fa_nil))) (fun _ _ => rfl)) (fk_cons (fe_bin op_addX ok_add fe_int (fe_call (k := 1) (C__law_take.G) (hr.mono (by decide)) tk rfl C__law_take.g C__law_take.kp B__law_take_2 (fa_cons (fe_var 2) (fa_cons fe_int fa_nil)))) fk_nil))) fa_nil))))) (fun h1 h2 h3 => ps_for (passes_of rfl) rfl h1 h2 h3)) (fs_cons (fs_set (i := 6) sc_law.nd rfl (by first | exact Or.inl rfl | exact Or.inr rfl) (fe_bin op_addX ok_add (fe_sl (fe_var 3) fo_none (fo_some (fe_call (k := 1) (C__law_take.G) (hr.mono (by decide)) tk rfl C__law_take.g C__law_take.kp B__law_take_2 (fa_cons (fe_var 2) (fa_cons fe_int fa_nil))))) (fe_lst (fa_cons (fe_mk (k := 4) C_Task___init__ (hr.mono (by decide)) tk B_Task___init___2 rfl (fa_cons fe_str fa_nil) fk_nil) (fa_cons (fe_mk (k := 4) C_Task___init__ (hr.mono (by decide)) tk B_Task___init___2_weight rfl (fa_cons fe_str fa_nil) (fk_cons (fe_bin op_addX ok_add fe_int (fe_call (k := 1) (C__law_take.G) (hr.mono (by decide)) tk rfl C__law_take.g C__law_take.kp B__law_take_2 (fa_cons (fe_var 2) (fa_cons fe_int fa_nil)))) fk_nil)) fa_nil))))) (fs_one (fs_if (ft_w (fw_or (ft_not (ft_val (fe_call (k := 7) (C__law_right.G) (hr.mono (by decide)) tk rfl C__law_right.g C__law_right.kp B__law_right_2 (fa_cons (fe_bin op_addX ok_add (fe_var 3) (fe_sl (fe_var 3) fo_none (fo_some fe_int))) (fa_cons (fe_var 6) fa_nil))))) (fw_or1 (ft_not (ft_val (fe_call (k := 7) (C__law_right.G) (hr.mono (by decide)) tk rfl C__law_right.g C__law_right.kp B__law_right_2 (fa_cons (fe_var 6) (fa_cons (fe_var 3) fa_nil)))))))) (fs_one (fs_ret fe_bl)) fs_nil)))))) (fun h1 h2 h3 => ps_for (passes_of rfl) rfl h1 h2 h3)) (fs_one (fs_ret fe_bl)))
end
end K08

set_option maxHeartbeats 4000000
namespace K08
open PySem PySem.Spec PyProof.Rows L2 F3
theorem facts {P : Program} {w : World} {K : PySem.W.Frag} {h : Heap} {mg : Str → Option Value} {f : Addr} (X : K.In h) (G : h.Ns mainGlobals mg) (hfa : mg ("law" : Str) = some (.ref f)) (c : SaysY fas fns exs w K) :
    ∃ fd : FuncData, (∀ (s : Shared) (u : Value), BindsTo s fd ⟨[u], []⟩ [("_law_script", u)]) ∧ ∀ base : Heap, K.In base → base.Ns mainGlobals mg → (∀ x ∈ tabs, LamX.TabB base mg (ct K x).1 (ct K x).2) → FnG P w K mg base 8 f fd ["_law_script"] (spF K (gw K w) 1 m_law) := by
  have cd := c.t.d
  obtain ⟨fd_is_whole, F_is_whole⟩ := cd.def_ 0 (d := d_is_whole) rfl
  obtain ⟨fd_is_name, F_is_name⟩ := cd.def_ 1 (d := d_is_name) rfl
  obtain ⟨fd_is_weight, F_is_weight⟩ := cd.def_ 2 (d := d_is_weight) rfl
  obtain ⟨fd_is_wish, F_is_wish⟩ := cd.def_ 3 (d := d_is_wish) rfl
  obtain ⟨fd_look_at_name, F_look_at_name⟩ := cd.def_ 4 (d := d_look_at_name) rfl
  obtain ⟨fd_look_at_measure, F_look_at_measure⟩ := cd.def_ 5 (d := d_look_at_measure) rfl
  obtain ⟨fd_Task___init__, F_Task___init__⟩ := cd.def_ 6 (d := d_Task___init__) rfl
  obtain ⟨fd_Task_key, F_Task_key⟩ := cd.def_ 7 (d := d_Task_key) rfl
  obtain ⟨fd_Task___eq__, F_Task___eq__⟩ := cd.def_ 8 (d := d_Task___eq__) rfl
  obtain ⟨fd_Task___repr__, F_Task___repr__⟩ := cd.def_ 9 (d := d_Task___repr__) rfl
  obtain ⟨fd_Task_name, F_Task_name⟩ := cd.def_ 10 (d := d_Task_name) rfl
  obtain ⟨fd_Task_weight, F_Task_weight⟩ := cd.def_ 11 (d := d_Task_weight) rfl
  obtain ⟨fd_Task_wish, F_Task_wish⟩ := cd.def_ 12 (d := d_Task_wish) rfl
  obtain ⟨fd_Task_turned, F_Task_turned⟩ := cd.def_ 13 (d := d_Task_turned) rfl
  obtain ⟨fd__law_pool, F__law_pool⟩ := cd.def_ 14 (d := d__law_pool) rfl
  obtain ⟨fd__law_take, F__law_take⟩ := cd.def_ 15 (d := d__law_take) rfl
  obtain ⟨fd__law_rising, F__law_rising⟩ := cd.def_ 16 (d := d__law_rising) rfl
  obtain ⟨fd__law_right, F__law_right⟩ := cd.def_ 17 (d := d__law_right) rfl
  obtain ⟨fd_law, F_law⟩ := cd.def_ 18 (d := d_law) rfl
  obtain ⟨fd_NoName___init__, F_NoName___init__⟩ := cd.def_ 19 (d := d_NoName___init__) rfl
  obtain ⟨fd_NoWeight___init__, F_NoWeight___init__⟩ := cd.def_ 20 (d := d_NoWeight___init__) rfl
  obtain ⟨fd_NoWish___init__, F_NoWish___init__⟩ := cd.def_ 21 (d := d_NoWish___init__) rfl
  have g_is_whole := He.glo_ok X G (cd.fact 0 (f := .glo "is_whole") rfl)
  have g_is_name := He.glo_ok X G (cd.fact 1 (f := .glo "is_name") rfl)
  have g_is_weight := He.glo_ok X G (cd.fact 2 (f := .glo "is_weight") rfl)
  have g_is_wish := He.glo_ok X G (cd.fact 3 (f := .glo "is_wish") rfl)
  have g_look_at_name := He.glo_ok X G (cd.fact 4 (f := .glo "look_at_name") rfl)
  have g_look_at_measure := He.glo_ok X G (cd.fact 5 (f := .glo "look_at_measure") rfl)
  have g__law_pool := He.glo_ok X G (cd.fact 6 (f := .glo "_law_pool") rfl)
  have g__law_take := He.glo_ok X G (cd.fact 7 (f := .glo "_law_take") rfl)
  have g__law_rising := He.glo_ok X G (cd.fact 8 (f := .glo "_law_rising") rfl)
  have g__law_right := He.glo_ok X G (cd.fact 9 (f := .glo "_law_right") rfl)
  have g_law := He.glo_ok X G (cd.fact 10 (f := .glo "law") rfl)
  have n_isinstance := He.free_ok X G (cd.fact 11 (f := .free "isinstance") rfl)
  have n_int := He.free_ok X G (cd.fact 12 (f := .free "int") rfl)
  have n_bool := He.free_ok X G (cd.fact 13 (f := .free "bool") rfl)
  have n_str := He.free_ok X G (cd.fact 14 (f := .free "str") rfl)
  have n_len := He.free_ok X G (cd.fact 15 (f := .free "len") rfl)
  have n_all := He.free_ok X G (cd.fact 16 (f := .free "all") rfl)
  have n_repr := He.free_ok X G (cd.fact 17 (f := .free "repr") rfl)
  have n_sorted := He.free_ok X G (cd.fact 18 (f := .free "sorted") rfl)
  have n_range := He.free_ok X G (cd.fact 19 (f := .free "range") rfl)
  have n_min := He.free_ok X G (cd.fact 20 (f := .free "min") rfl)
  have n_max := He.free_ok X G (cd.fact 21 (f := .free "max") rfl)
  obtain ⟨t_LONGEST, e_LONGEST⟩ := He.int_ok X G (cd.fact 22 (f := .int "LONGEST" 6) rfl)
  obtain ⟨t_LETTERS, e_LETTERS⟩ := He.str_ok X G (cd.fact 23 (f := .str "LETTERS" "abcdefghijklmnopqrstuvwxyz") rfl)
  obtain ⟨t_MOST, e_MOST⟩ := He.int_ok X G (cd.fact 24 (f := .int "MOST" 1000) rfl)
  obtain ⟨t_WEIGHT, e_WEIGHT⟩ := He.int_ok X G (cd.fact 25 (f := .int "WEIGHT" 100) rfl)
  obtain ⟨t_WISH, e_WISH⟩ := He.int_ok X G (cd.fact 26 (f := .int "WISH" 4) rfl)
  have g_Task := He.glo_ok X G (cd.fact 27 (f := .glo "Task") rfl)
  have g_NoName := He.glo_ok X G (cd.fact 28 (f := .glo "NoName") rfl)
  have g_TurnError := He.glo_ok X G (cd.fact 29 (f := .glo "TurnError") rfl)
  have g_NoWeight := He.glo_ok X G (cd.fact 30 (f := .glo "NoWeight") rfl)
  have g_NoWish := He.glo_ok X G (cd.fact 31 (f := .glo "NoWish") rfl)
  let cl : ClW := gw K w
  have hex : exs K = true := c.more
  have hexs : AllB (exl K) := ⟨hex⟩
  have h_LONGEST : mg "LONGEST" = some _ ∧ RelV (.int 6) _ ∧ ∀ as H, Sh K cl as H (.int 6) c_LONGEST := ⟨e_LONGEST, ⟨t_LONGEST, rfl⟩, fun as H => (.int _)⟩
  have h_LETTERS : mg "LETTERS" = some _ ∧ RelV (.str "abcdefghijklmnopqrstuvwxyz") _ ∧ ∀ as H, Sh K cl as H (.str "abcdefghijklmnopqrstuvwxyz") c_LETTERS := ⟨e_LETTERS, ⟨t_LETTERS, rfl⟩, fun as H => (.str _)⟩
  have h_MOST : mg "MOST" = some _ ∧ RelV (.int 1000) _ ∧ ∀ as H, Sh K cl as H (.int 1000) c_MOST := ⟨e_MOST, ⟨t_MOST, rfl⟩, fun as H => (.int _)⟩
  have h_WEIGHT : mg "WEIGHT" = some _ ∧ RelV (.int 100) _ ∧ ∀ as H, Sh K cl as H (.int 100) c_WEIGHT := ⟨e_WEIGHT, ⟨t_WEIGHT, rfl⟩, fun as H => (.int _)⟩
  have h_WISH : mg "WISH" = some _ ∧ RelV (.int 4) _ ∧ ∀ as H, Sh K cl as H (.int 4) c_WISH := ⟨e_WISH, ⟨t_WISH, rfl⟩, fun as H => (.int _)⟩
  have hb0 : (oxInfoB K "NoName" "thing" [.type "ValueError", .type "Exception", .type "BaseException", .type "object"] "ValueError.__new__" && ownIniB K "TurnError" "ValueError.__init__") = true := hexs.nth 0 rfl
  have hc0 := Bool.and_eq_true_iff.mp hb0
  have E1_NoName : ∀ base, Exc1 P w K mg base cl "NoName" (Str.ofString "thing") := fun base => e1_NoName F_NoName___init__ g_NoName hc0.1 g_TurnError hc0.2
  have hb1 : (oxInfoB K "NoWeight" "thing" [.type "ValueError", .type "Exception", .type "BaseException", .type "object"] "ValueError.__new__" && ownIniB K "TurnError" "ValueError.__init__") = true := hexs.nth 1 rfl
  have hc1 := Bool.and_eq_true_iff.mp hb1
  have E1_NoWeight : ∀ base, Exc1 P w K mg base cl "NoWeight" (Str.ofString "thing") := fun base => e1_NoWeight F_NoWeight___init__ g_NoWeight hc1.1 g_TurnError hc1.2
  have hb2 : (oxInfoB K "NoWish" "thing" [.type "ValueError", .type "Exception", .type "BaseException", .type "object"] "ValueError.__new__" && ownIniB K "TurnError" "ValueError.__init__") = true := hexs.nth 2 rfl
  have hc2 := Bool.and_eq_true_iff.mp hb2
  have E1_NoWish : ∀ base, Exc1 P w K mg base cl "NoWish" (Str.ofString "thing") := fun base => e1_NoWish F_NoWish___init__ g_NoWish hc2.1 g_TurnError hc2.2
  have hb3 : (ifldB K CI_own_name "own_name") = true := hexs.nth 3 rfl
  have IF_own_name := (ifld_of hb3 : IFld K cl CI_own_name "own_name")
  have hb4 : (ifldB K CI_own_weight "own_weight") = true := hexs.nth 4 rfl
  have IF_own_weight := (ifld_of hb4 : IFld K cl CI_own_weight "own_weight")
  have hb5 : (ifldB K CI_own_wish "own_wish") = true := hexs.nth 5 rfl
  have IF_own_wish := (ifld_of hb5 : IFld K cl CI_own_wish "own_wish")
  have hb6 : (kitGB K (fun t => PySem.W.kitOne K t (.ref (gaC K "Task"))) CE CI tb_Task tt_Task) = true := hexs.nth 6 rfl
  have KG_Task := (kitG_of hb6 : KitG K cl (fun t => PySem.W.kitOne K t (.ref (cl "Task"))) CE CI tb_Task tt_Task)
  have G_Task : mg "Task" = some (.ref (cl "Task")) := g_Task
  have hb7 : (eqoB K "Task") = true := hexs.nth 7 rfl
  have EO_Task := (eqo_of hb7 : EqO K cl "Task" (He.ma K (gaC K "Task") "__eq__"))
  have hb8 : (noaB K "Task") = true := hexs.nth 8 rfl
  have OA_Task := (noa_of hb8 : NoA K cl "Task")
  have hb9 : (neoB K "Task") = true := hexs.nth 9 rfl
  have NO_Task := (neo_of hb9 : NeO K cl "Task")
  have B_Task___eq___2 := kB_Task___eq___2 (cl := cl) F_Task___eq__
  have B_Task___init___2 := kB_Task___init___2 (cl := cl) F_Task___init__
  have B_Task___init___2_weight := kB_Task___init___2_weight (cl := cl) F_Task___init__
  have B_Task___init___2_weight_wish := kB_Task___init___2_weight_wish (cl := cl) F_Task___init__
  have B_Task___repr___1 := kB_Task___repr___1 (cl := cl) F_Task___repr__
  have B_Task_key_1 := kB_Task_key_1 (cl := cl) F_Task_key
  have B_Task_name_1 := kB_Task_name_1 (cl := cl) F_Task_name
  have B_Task_turned_1_weight_wish := kB_Task_turned_1_weight_wish (cl := cl) F_Task_turned
  have B_Task_weight_1 := kB_Task_weight_1 (cl := cl) F_Task_weight
  have B_Task_wish_1 := kB_Task_wish_1 (cl := cl) F_Task_wish
  have B__law_pool_2 := kB__law_pool_2 (cl := cl) F__law_pool
  have B__law_right_2 := kB__law_right_2 (cl := cl) F__law_right
  have B__law_rising_2 := kB__law_rising_2 (cl := cl) F__law_rising
  have B__law_take_2 := kB__law_take_2 (cl := cl) F__law_take
  have B_is_name_1 := kB_is_name_1 (cl := cl) F_is_name
  have B_is_weight_1 := kB_is_weight_1 (cl := cl) F_is_weight
  have B_is_whole_1 := kB_is_whole_1 (cl := cl) F_is_whole
  have B_is_wish_1 := kB_is_wish_1 (cl := cl) F_is_wish
  have B_look_at_measure_2 := kB_look_at_measure_2 (cl := cl) F_look_at_measure
  have B_look_at_name_1 := kB_look_at_name_1 (cl := cl) F_look_at_name
  have ef := hfa.symm.trans g_law
  cases ef
  refine ⟨fd_law, fun s u => FunD.bindsA (ps := ["_law_script"]) F_law (fun _ _ _ _ _ _ us hl => match us, hl with | [_], _ => rfl) s [u] rfl, fun base hb hn hTB => ?_⟩
  have C_is_whole : Cal P w K mg base cl 1 "is_whole" _ fd_is_whole P_is_whole m_is_whole := ⟨ok_is_whole (P := P) (w := w) (base := base) (cl := cl) F_is_whole n_isinstance n_int n_bool, g_is_whole, F_is_whole.kp⟩
  have C_is_name : Cal P w K mg base cl 1 "is_name" _ fd_is_name P_is_name m_is_name := ⟨ok_is_name (P := P) (w := w) (base := base) (cl := cl) F_is_name n_isinstance n_str n_len n_all h_LONGEST h_LETTERS, g_is_name, F_is_name.kp⟩
  have C_is_weight : Cal P w K mg base cl 2 "is_weight" _ fd_is_weight P_is_weight m_is_weight := ⟨ok_is_weight (P := P) (w := w) (base := base) (cl := cl) F_is_weight C_is_whole B_is_whole_1 h_MOST, g_is_weight, F_is_weight.kp⟩
  have C_is_wish : Cal P w K mg base cl 2 "is_wish" _ fd_is_wish P_is_wish m_is_wish := ⟨ok_is_wish (P := P) (w := w) (base := base) (cl := cl) F_is_wish C_is_whole B_is_whole_1 h_MOST, g_is_wish, F_is_wish.kp⟩
  have C_look_at_name : Cal P w K mg base cl 3 "look_at_name" _ fd_look_at_name P_look_at_name m_look_at_name := ⟨ok_look_at_name (P := P) (w := w) (base := base) (cl := cl) F_look_at_name C_is_name B_is_name_1 (E1_NoName base), g_look_at_name, F_look_at_name.kp⟩
  have C_look_at_measure : Cal P w K mg base cl 3 "look_at_measure" _ fd_look_at_measure P_look_at_measure m_look_at_measure := ⟨ok_look_at_measure (P := P) (w := w) (base := base) (cl := cl) F_look_at_measure C_is_weight C_is_wish B_is_weight_1 B_is_wish_1 (E1_NoWeight base) (E1_NoWish base), g_look_at_measure, F_look_at_measure.kp⟩
  have mh_Task___init__ : (mkB K "Task") = true := hexs.nth 10 rfl
  have C_Task___init__ : CalI P w K mg base cl 4 "Task" (He.ma K (gaC K "Task") "__init__") fd_Task___init__ P_Task___init__ m_Task___init__ := ⟨ok_Task___init__ (P := P) (w := w) (base := base) (cl := cl) F_Task___init__ C_look_at_name C_look_at_measure B_look_at_measure_2 B_look_at_name_1 IF_own_name IF_own_weight IF_own_wish, mk_of mh_Task___init__, g_Task⟩
  have mh_Task_key : (methB K "Task" "key") = true := hexs.nth 11 rfl
  have C_Task_key : CalM P w K mg base cl 1 "Task" "key" (He.ma K (gaC K "Task") "key") fd_Task_key P_Task_key m_Task_key := ⟨ok_Task_key (P := P) (w := w) (base := base) (cl := cl) F_Task_key IF_own_name IF_own_wish IF_own_weight, (meth_of mh_Task_key).1, (meth_of mh_Task_key).2⟩
  have mh_Task___eq__ : (methB K "Task" "__eq__") = true := hexs.nth 12 rfl
  have C_Task___eq__ : CalM P w K mg base cl 2 "Task" "__eq__" (He.ma K (gaC K "Task") "__eq__") fd_Task___eq__ P_Task___eq__ m_Task___eq__ := ⟨ok_Task___eq__ (P := P) (w := w) (base := base) (cl := cl) F_Task___eq__ C_Task_key B_Task_key_1 n_isinstance KG_Task G_Task, (meth_of mh_Task___eq__).1, (meth_of mh_Task___eq__).2⟩
  have mh_Task___repr__ : (methB K "Task" "__repr__") = true := hexs.nth 13 rfl
  have C_Task___repr__ : CalM P w K mg base cl 1 "Task" "__repr__" (He.ma K (gaC K "Task") "__repr__") fd_Task___repr__ P_Task___repr__ m_Task___repr__ := ⟨ok_Task___repr__ (P := P) (w := w) (base := base) (cl := cl) F_Task___repr__ IF_own_name IF_own_weight IF_own_wish, (meth_of mh_Task___repr__).1, (meth_of mh_Task___repr__).2⟩
  have U_Task___repr__ : CalU P w K mg base cl 1 "Task" "__repr__" (He.ma K (gaC K "Task") "__repr__") fd_Task___repr__ P_Task___repr__ m_Task___repr__ := ⟨okU_Task___repr__ (P := P) (w := w) (base := base) (cl := cl) F_Task___repr__ IF_own_name IF_own_weight IF_own_wish, (meth_of mh_Task___repr__).1, (meth_of mh_Task___repr__).2⟩
  have mh_Task_name : (methB K "Task" "name") = true := hexs.nth 14 rfl
  have C_Task_name : CalM P w K mg base cl 1 "Task" "name" (He.ma K (gaC K "Task") "name") fd_Task_name P_Task_name m_Task_name := ⟨ok_Task_name (P := P) (w := w) (base := base) (cl := cl) F_Task_name IF_own_name, (meth_of mh_Task_name).1, (meth_of mh_Task_name).2⟩
  have mh_Task_weight : (methB K "Task" "weight") = true := hexs.nth 15 rfl
  have C_Task_weight : CalM P w K mg base cl 1 "Task" "weight" (He.ma K (gaC K "Task") "weight") fd_Task_weight P_Task_weight m_Task_weight := ⟨ok_Task_weight (P := P) (w := w) (base := base) (cl := cl) F_Task_weight IF_own_weight, (meth_of mh_Task_weight).1, (meth_of mh_Task_weight).2⟩
  have mh_Task_wish : (methB K "Task" "wish") = true := hexs.nth 16 rfl
  have C_Task_wish : CalM P w K mg base cl 1 "Task" "wish" (He.ma K (gaC K "Task") "wish") fd_Task_wish P_Task_wish m_Task_wish := ⟨ok_Task_wish (P := P) (w := w) (base := base) (cl := cl) F_Task_wish IF_own_wish, (meth_of mh_Task_wish).1, (meth_of mh_Task_wish).2⟩
  have mh_Task_turned : (methB K "Task" "turned") = true := hexs.nth 17 rfl
  have C_Task_turned : CalM P w K mg base cl 6 "Task" "turned" (He.ma K (gaC K "Task") "turned") fd_Task_turned P_Task_turned m_Task_turned := ⟨ok_Task_turned (P := P) (w := w) (base := base) (cl := cl) F_Task_turned C_Task___init__ B_Task___init___2_weight_wish IF_own_weight IF_own_wish IF_own_name, (meth_of mh_Task_turned).1, (meth_of mh_Task_turned).2⟩
  have C__law_pool : Cal P w K mg base cl 1 "_law_pool" _ fd__law_pool P__law_pool m__law_pool := ⟨ok__law_pool (P := P) (w := w) (base := base) (cl := cl) F__law_pool n_int, g__law_pool, F__law_pool.kp⟩
  have C__law_take : Cal P w K mg base cl 1 "_law_take" _ fd__law_take P__law_take m__law_take := ⟨ok__law_take (P := P) (w := w) (base := base) (cl := cl) F__law_take, g__law_take, F__law_take.kp⟩
  have C__law_rising : Cal P w K mg base cl 2 "_law_rising" _ fd__law_rising P__law_rising m__law_rising := ⟨ok__law_rising (P := P) (w := w) (base := base) (cl := cl) F__law_rising C_Task_weight C_Task_wish C_Task_name B_Task_name_1 B_Task_weight_1 B_Task_wish_1, g__law_rising, F__law_rising.kp⟩
  have C__law_right : Cal P w K mg base cl 7 "_law_right" _ fd__law_right P__law_right m__law_right := ⟨ok__law_right (P := P) (w := w) (base := base) (cl := cl) F__law_right C_Task___repr__ C_Task_key C__law_rising C_Task___eq__ C_Task_turned C_Task_wish C_Task_weight C_Task_name U_Task___repr__ (fund_code F__law_right) (hTB "_law_right" (by decide)) B_Task___eq___2 B_Task___repr___1 B_Task_key_1 B_Task_name_1 B_Task_turned_1_weight_wish B_Task_weight_1 B_Task_wish_1 B__law_rising_2 n_repr n_sorted n_len n_range EO_Task OA_Task NO_Task, g__law_right, F__law_right.kp⟩
  exact ok_law (P := P) (w := w) (base := base) (cl := cl) F_law C__law_pool C__law_take C_Task___init__ C__law_right B_Task___init___2 B_Task___init___2_weight B_Task___init___2_weight_wish B__law_pool_2 B__law_right_2 B__law_take_2 n_len n_min n_max n_range
end K08
set_option maxHeartbeats 4000000
set_option pp.maxSteps 700
namespace K08
open PySem PySem.Spec PyProof.Rows L2 F3
/-- the law's own pool lies at `c` -/
def Pool (st : Store) (c : Nat) : Prop := ∃ x y : Int, st[c]? = some (.lst [.int x, .int y])
/-- a store in which that pool alone has moved -/
structure Psx (st : Store) (c : Nat) (st' : Store) : Prop where
  len : st'.length = st.length
  oth : ∀ k, k ≠ c → st'[k]? = st[k]?
  pool : Pool st' c
theorem Psx.trans {st st' st'' : Store} {c : Nat} (a : Psx st c st') (b : Psx st' c st'') : Psx st c st'' := ⟨b.len.trans a.len, fun k h => (b.oth k h).trans (a.oth k h), b.pool⟩
theorem Psx.of {st : Store} {c : Nat} (h : Pool st c) : Psx st c st := ⟨rfl, fun _ _ => rfl, h⟩
theorem Psx.set {st : Store} {c : Nat} (h : Pool st c) (x y : Int) : Psx st c (st.set c (.lst [.int x, .int y])) := by
  obtain ⟨a, b, hc⟩ := h
  have hl := (List.getElem?_eq_some_iff.mp hc).1
  exact ⟨List.length_set, fun k hk => by rw [List.getElem?_set_ne (fun e => hk e.symm)], x, y, by rw [List.getElem?_set_self hl]⟩
theorem take_ev {st : Store} {c : Nat} (h : Pool st c) {n : Int} (hn : 0 < n) (hs : n.natAbs.log2 < 9000) : ∃ r st', m__law_take [.ref c, .int n] st = .ok (.int r) st' ∧ 0 ≤ r ∧ r < n ∧ Psx st c st' := by
  have hp := h
  obtain ⟨x, y, hc⟩ := h
  have hl := (List.getElem?_eq_some_iff.mp hc).1
  by_cases hx : 0 < x
  · refine ⟨x % n, st.set c (.lst [.int (x / n), .int y]), ?_, Int.emod_nonneg _ (by omega), Int.emod_lt_of_pos _ hn, Psx.set hp _ _⟩
    simp only [m__law_take, b__law_take, evs, evk, evl, ev_ixR hc, evo, hx, decide_true, ixAt_0, Option.map_some, ev_mod _ hn, ev_div _ hn hs]
    rw [stD_ref hc (by omega) (by simp)]
    rfl
  · generalize hy : (y * 48271 + 11) % 2147483647 = y'
    have h0 : 0 ≤ y' := hy ▸ Int.emod_nonneg _ (by omega)
    have h1 : y' < 2147483647 := hy ▸ Int.emod_lt_of_pos _ (by omega)
    have hc2 : (st.set c (.lst [.int x, .int y']))[c]? = some (.lst [.int x, .int y']) := by rw [List.getElem?_set_self hl]
    refine ⟨y' * y' % 2147483629 / 64 % n, st.set c (.lst [.int x, .int y']), ?_, Int.emod_nonneg _ (by omega), Int.emod_lt_of_pos _ hn, Psx.set hp _ _⟩
    simp only [m__law_take, b__law_take, evs, evk, evl, ev_ixR hc, evo, hx, decide_false, ixAt_0, Option.map_some, show ixAt [D.int x, D.int y] 1 = some (.int y) from rfl, ev_mul st (mul_r (i := y) (j := 48271) (by omega) (by omega)), ev_mod _ (show (0 : Int) < 2147483647 by omega), hy]
    rw [stD_ref hc (by omega) (by simp)]
    simp only [evs, evk, evl, ev_ixR hc2, Option.map_some, show (1 : Int).toNat = 1 from rfl, show ixAt [D.int x, D.int y'] 1 = some (.int y') from rfl, ev_mul _ (mul_r (i := y') (j := y') (by omega) (by omega)), ev_mod _ (show (0 : Int) < 2147483629 by omega), ev_div _ (show (0 : Int) < 64 by omega) (by decide), ev_mod _ hn]
theorem pool_ev (ns : List Int) (k : Nat) (st : Store) : ∃ x y : Int, m__law_pool [.lst (ns.map D.int), .int k] st = .ok (.ref st.length) (st ++ [.lst [.int x, .int y]]) := by
  have hv : ∃ v l, (((ns.map D.int).drop k).take 1 ++ [D.int 0]) = .int v :: l ∧ l.length ≤ 1 := by
    rw [cut_cell]
    cases ns[k]? with
    | none => exact ⟨0, [], rfl, by simp⟩
    | some v => exact ⟨v, [.int 0], rfl, by simp⟩
  obtain ⟨v, l, hv, -⟩ := hv
  have hc : cutD (ns.map D.int) (some (k : Int)) (some ((k : Int) + 1)) = ((ns.map D.int).drop k).take 1 := by
    rw [show (k : Int) + 1 = ((k + 1 : Nat) : Int) by omega, cut_nat, show k + 1 - k = 1 by omega]
  refine ⟨v * (if decide (1000000000000000000 ≤ v) then 1 else 0), (v % 2147483629 + 7919 * (k : Int) + 104729) * 48271 % 2147483647, ?_⟩
  simp only [m__law_pool, b__law_pool, evs, evk, evl, evo, ev_slL, hc, List.length_cons, List.length_nil, show (0 + 1 ≤ 100000) = True from by simp, if_true]
  have ha : ∀ s, addD (.lst (((ns.map D.int).drop k).take 1)) (.lst [D.int 0]) s = some (.lst (.int v :: l), s) := fun s => by
    rw [← hv]
    exact if_pos (by rw [List.length_take]; simp only [List.length_cons, List.length_nil]; omega)
  simp only [evs, evk, evl, evo, ha, ev_ixL, ixAt_0, Option.map_some, ev_mul _ (mul_l (i := 7919) (j := (k : Int)) (by omega) (by omega)), ev_mod _ (show (0 : Int) < 2147483629 by omega), ev_mod _ (show (0 : Int) < 2147483647 by omega), ev_mul _ (mul_r (i := v % 2147483629 + 7919 * (k : Int) + 104729) (j := 48271) (by omega) (by omega)), ev_pow _ (show (0 : Int) ≤ 18 ∧ (18 : Int) ≤ 1000000 ∧ (10 : Int).natAbs < 2 ^ 64 by decide), show (10 : Int) ^ (18 : Int).toNat = 1000000000000000000 by decide, ev_intb, List.length_cons, List.length_nil, show (0 + 1 + 1 ≤ 100000) = True from by simp, if_true]
  rw [ev_mul _ (mul_r (by split <;> omega) (by split <;> omega))]
  simp only [evs, evk, evl, List.length_cons, List.length_nil, show (0 + 1 + 1 ≤ 100000) = True from by simp, if_true]
theorem whole_ev (i : Int) (st : Store) : m_is_whole [.int i] st = .ok (.bl true) st := by
  simp only [m_is_whole, b_is_whole, evs, evk, evl, show ∀ s, isiD .int (.int i) s = some (.bl true, s) from fun _ => rfl, show ∀ s, isiD .bl (.int i) s = some (.bl false, s) from fun _ => rfl]
/-- what is no whole number -/
structure NoW (d : D) : Prop where
  i : ∀ st, isiD .int d st = some (.bl false, st) ∨ (isiD .int d st = some (.bl true, st) ∧ isiD .bl d st = some (.bl true, st))
theorem whole_no {d : D} (h : NoW d) (st : Store) : m_is_whole [d] st = .ok (.bl false) st := by
  rcases h.i st with h | ⟨h1, h2⟩
  · simp only [m_is_whole, b_is_whole, evs, evk, evl, h]
  · simp only [m_is_whole, b_is_whole, evs, evk, evl, h1, h2]
theorem isi_int (i : Int) (st : Store) : isiD .int (.int i) st = some (.bl true, st) ∧ isiD .bl (.int i) st = some (.bl false, st) := ⟨rfl, rfl⟩
theorem isi_str (x : Str) (st : Store) : isiD .str (.str x) st = some (.bl true, st) ∧ isiD .int (.str x) st = some (.bl false, st) := ⟨rfl, rfl⟩
theorem ix_all {P : D → Prop} {ds : List D} (h : ∀ d ∈ ds, P d) {r : Int} (h0 : 0 ≤ r) (h1 : r < ds.length) : ∃ d, ixAt ds r = some d ∧ P d := by
  obtain ⟨k, rfl⟩ : ∃ k : Nat, r = (k : Int) := Int.eq_ofNat_of_zero_le h0
  have hk : k < ds.length := by omega
  exact ⟨ds[k], by rw [ixAt_lit, List.getElem?_eq_getElem hk], h _ (List.getElem_mem hk)⟩
theorem isN_n (st : Store) : isND .non .non st = some (.bl true, st) := rfl
theorem Pool.app {st : Store} {c : Nat} (h : Pool st c) (l : Store) : Pool (st ++ l) c := by
  obtain ⟨x, y, h⟩ := h
  exact ⟨x, y, old_at l h⟩
def LS : Str := "abcdefghijklmnopqrstuvwxyz"
def LC : List Nat := LS.cps.toList
def nameB : D → Bool
  | .str x => decide (1 ≤ x.length) && (decide (x.length ≤ 6) && x.cps.toList.all fun c => decide (c ∈ LC))
  | _ => false
def measB : D → Bool
  | .int i => decide (1 ≤ i ∧ i ≤ 1000)
  | _ => false
/-- what is handed in -/
inductive Kd : D → Prop
  | int (i : Int) : Kd (.int i)
  | str (x : Str) (h : x.length ≤ 1000) (ok : OkS x) : Kd (.str x)
  | oth (d : D) (h : NoW d) (hs : ∀ st, isiD .str d st = some (.bl false, st)) : Kd d
theorem oth_name {d : D} (hs : ∀ st, isiD .str d st = some (.bl false, st)) : nameB d = false := by
  cases d with
  | str x => exact absurd (hs []) (by rw [(isi_str x []).1]; simp)
  | _ => rfl
theorem oth_meas {d : D} (h : NoW d) : measB d = false := by
  cases d with
  | int i => exact absurd (h.i []) (by rw [(isi_int i []).1, (isi_int i []).2]; simp)
  | _ => rfl
theorem len_dec (x : Str) : decide ((1 : Int) ≤ (x.length : Int)) = decide (1 ≤ x.length) ∧ decide ((x.length : Int) ≤ 6) = decide (x.length ≤ 6) := by
  constructor <;> (apply decide_eq_decide.mpr; omega)
theorem name_ev {d : D} (h : Kd d) (st : Store) : m_is_name [d] st = .ok (.bl (nameB d)) st := by
  cases h with
  | int i => simp only [m_is_name, b_is_name, evs, evk, evl, show isiD .str (.int i) st = some (.bl false, st) from rfl, nameB]
  | oth d h hs => simp only [m_is_name, b_is_name, evs, evk, evl, hs, oth_name hs]
  | str x hl ok =>
    have hc : lcL (none, signs x) (tNm 1) eYes (eBin inXD (eVar 1) (eC c_LETTERS)) [1] [some (.str x), none] (signs x) [] st = .ok (x.cps.toList.map fun c => .bl (decide (c ∈ LC))) st := by
      have h := lc_pure (w := (none, signs x)) (g := tNm 1) (t := eYes) (e := eBin inXD (eVar 1) (eC c_LETTERS)) (vs := [1]) (env := [some (.str x), none]) (ds := signs x) (st := st) trivial (fun _ => true) (fun d => match d with | .str z => .bl (inS z LS) | _ => .non) (fun d hd => by
        obtain ⟨c, -, rfl⟩ := List.mem_map.mp hd
        refine ⟨_, rfl, rfl, fun _ => ?_⟩
        simp only [wipeE, evs, evk, evl, c_LETTERS]
        rfl) (by rw [signs_eq, List.length_map]; show x.length ≤ _; omega)
      rw [h, signs_eq, List.filter_eq_self.mpr (fun _ _ => rfl), List.map_map]
      rfl
    simp only [m_is_name, b_is_name, evs, evq, evk, evl, evo, isi_str, len_str (show x.length ≤ 100000 by omega), c_LONGEST, len_dec, hc, all_map, nameB]
    by_cases h1 : 1 ≤ x.length
    · by_cases h2 : x.length ≤ 6
      · simp only [decide_eq_true h1, decide_eq_true h2, evs, evq, evk, evl, hc, all_map, Bool.true_and]
      · simp only [decide_eq_true h1, decide_eq_false h2, evk, Bool.true_and, Bool.false_and]
    · simp only [decide_eq_false h1, evk, Bool.false_and]
theorem meas_ev {d : D} (h : Kd d) (st : Store) : m_is_weight [d] st = .ok (.bl (measB d)) st ∧ m_is_wish [d] st = .ok (.bl (measB d)) st := by
  cases h with
  | oth d h hs =>
    have e := oth_meas h
    constructor
    · simp only [m_is_weight, b_is_weight, evs, evk, evl, whole_no h, e]
    · simp only [m_is_wish, b_is_wish, evs, evk, evl, whole_no h, e]
  | str x hl ok =>
    have e := whole_no (d := .str x) ⟨fun st => .inl rfl⟩
    constructor
    · simp only [m_is_weight, b_is_weight, evs, evk, evl, e, measB]
    · simp only [m_is_wish, b_is_wish, evs, evk, evl, e, measB]
  | int i =>
    by_cases h1 : 1 ≤ i
    · have e : measB (.int i) = decide (i ≤ 1000) := by simp [measB, h1]
      constructor
      · simp only [m_is_weight, b_is_weight, evs, evk, evl, evo, whole_ev, c_MOST, decide_eq_true h1, e]
      · simp only [m_is_wish, b_is_wish, evs, evk, evl, evo, whole_ev, c_MOST, decide_eq_true h1, e]
    · have e : measB (.int i) = false := by simp [measB, h1]
      constructor
      · simp only [m_is_weight, b_is_weight, evs, evk, evl, evo, whole_ev, c_MOST, decide_eq_false h1, e]
      · simp only [m_is_wish, b_is_wish, evs, evk, evl, evo, whole_ev, c_MOST, decide_eq_false h1, e]
theorem ln_ev {d : D} (h : Kd d) (hb : nameB d = true) (st : Store) : m_look_at_name [d] st = .ok .non st := by
  simp only [m_look_at_name, b_look_at_name, evs, evk, evl, name_ev h, hb]
theorem lm_ev {d e : D} (h : Kd d) (h2 : Kd e) (hb : measB d = true) (hb2 : measB e = true) (st : Store) : m_look_at_measure [d, e] st = .ok .non st := by
  simp only [m_look_at_measure, b_look_at_measure, evs, evk, evl, meas_ev h, hb, meas_ev h2, hb2]
theorem name_of {d : D} (h : nameB d = true) : ∃ x, d = .str x ∧ 1 ≤ x.length ∧ x.length ≤ 6 ∧ ∀ c ∈ x.cps.toList, c ∈ LC := by
  cases d with
  | str x =>
    simp only [nameB, Bool.and_eq_true, decide_eq_true_eq, List.all_eq_true] at h
    exact ⟨x, rfl, h.1, h.2.1, h.2.2⟩
  | _ => cases h
theorem lc_lt : ∀ c ∈ LC, 97 ≤ c ∧ c ≤ 122 := by decide
theorem name_mk {x : Str} (h1 : 1 ≤ x.length) (h2 : x.length ≤ 6) (h3 : ∀ c ∈ x.cps.toList, c ∈ LC) : nameB (.str x) = true := by
  simp only [nameB, Bool.and_eq_true, decide_eq_true_eq, List.all_eq_true]
  exact ⟨h1, h2, h3⟩
theorem meas_mk {i : Int} (h : 1 ≤ i ∧ i ≤ 1000) : measB (.int i) = true := decide_eq_true h
theorem okw {x : Str} (h : nameB (.str x) = true) : OkS x := by
  obtain ⟨y, e, -, -, h3⟩ := name_of h
  cases e
  exact fun c hc => by have := lc_lt c (h3 c hc); omega
theorem kdw {x : Str} (h : nameB (.str x) = true) : Kd (.str x) := by
  obtain ⟨y, e, h1, h2, h3⟩ := name_of h
  cases e
  exact .str x (by omega) (okw h)
def task (x : Str) (i j : Int) : Cell := .ins "Task" [("own_name", .str x), ("own_weight", .int i), ("own_wish", .int j)]
theorem mem_t : "Task" ∈ CI_own_name ∧ "Task" ∈ CI_own_weight ∧ "Task" ∈ CI_own_wish := by decide
theorem init_ok {x : Str} {i j : Int} (hk : Kd (.str x)) (hn : nameB (.str x) = true) (hi : measB (.int i) = true) (hj : measB (.int j) = true) (s : Store) : m_Task___init__ [.ref s.length, .str x, .int i, .int j] (s ++ [.ins "Task" []]) = .ok .non (s ++ [task x i j]) := by
  simp only [m_Task___init__, b_Task___init__, evs, evk, evl, evi, ln_ev hk hn, lm_ev (.int i) (.int j) hi hj, set_at _ (last_at s _) mem_t.1 (show ([] : List (String × D)).length < 900 by decide), last_set]
  rw [set_at _ (last_at s _) mem_t.2.1 (by simp)]
  simp only [evs, evk, evl, evi, last_set]
  rw [set_at _ (last_at s _) mem_t.2.2 (by simp [putD])]
  simp only [evs, evk, evl, evi, last_set]
  rfl
theorem f_task {k : Nat} {st : Store} {x : Str} {i j : Int} (h : st[k]? = some (task x i j)) : fldD CI_own_name "own_name" (.ref k) st = some (.str x, st) ∧ fldD CI_own_weight "own_weight" (.ref k) st = some (.int i, st) ∧ fldD CI_own_wish "own_wish" (.ref k) st = some (.int j, st) :=
  ⟨fld_at h mem_t.1 rfl, fld_at h mem_t.2.1 rfl, fld_at h mem_t.2.2 rfl⟩
theorem isOf_t {k : Nat} {st : Store} {x : Str} {i j : Int} (mn : String) (h : st[k]? = some (task x i j)) (hn : [("own_name", D.str x), ("own_weight", .int i), ("own_wish", .int j)].lookup mn = none) : isOf "Task" mn st (.ref k) = true := isOf_at h hn
theorem key_ev {k : Nat} {st : Store} {x : Str} {i j : Int} (h : st[k]? = some (task x i j)) : m_Task_key [.ref k] st = .ok (.tup [.int i, .int j, .str x]) st := by
  simp only [m_Task_key, b_Task_key, evs, evk, evl, f_task h, evn, if_true]
/-! what a Task tells -/
theorem repr_low {a : List Nat} (h : ∀ c ∈ a, c ∈ LC) : reprText (S a) = S ([39] ++ a ++ [39]) := by
  have hc : ∀ c ∈ LC, Builtin.Str.reprChar 39 c = [c] := by decide +kernel
  have hq : reprQuote (S a) = 39 := by
    unfold reprQuote
    rw [if_neg]
    intro z
    have z1 : (S a).cps.contains 39 = true := by
      rw [Bool.and_eq_true] at z
      exact z.1
    have z2 : 39 ∈ a := by simpa [S] using z1
    have := lc_lt 39 (h 39 z2)
    omega
  have key : ∀ (l : List Nat) (acc : List Nat), (∀ c ∈ l, c ∈ LC) → l.foldl (fun out c => out ++ (Builtin.Str.reprChar 39 c).toArray) acc.toArray = (acc ++ l).toArray := by
    intro l
    induction l with
    | nil => intro acc _; simp
    | cons c l ih =>
      intro acc hl
      rw [List.foldl_cons, hc c (hl c List.mem_cons_self)]
      have := ih (acc ++ [c]) fun d hd => hl d (List.mem_cons_of_mem _ hd)
      rw [show acc.toArray ++ [c].toArray = (acc ++ [c]).toArray by simp, this]
      simp
  unfold reprText
  rw [hq]
  have e : (S a).cps.foldl (fun out c => out ++ (Builtin.Str.reprChar 39 c).toArray) #[39] = a.foldl (fun out c => out ++ (Builtin.Str.reprChar 39 c).toArray) [39].toArray := by
    rw [← Array.foldl_toList]
  rw [e, key a [39] h]
  show (⟨([39] ++ a).toArray.push 39⟩ : Str) = ⟨([39] ++ a ++ [39]).toArray⟩
  rw [List.push_toArray]
/-- a name, a weight, a wish -/
structure Plan (a : List Nat) (i j : Int) : Prop where
  l1 : 1 ≤ a.length
  l6 : a.length ≤ 6
  lc : ∀ c ∈ a, c ∈ LC
  i : 1 ≤ i ∧ i ≤ 1000
  j : 1 ≤ j ∧ j ≤ 1000
section
variable {a : List Nat} {i j : Int}
theorem Plan.nm (p : Plan a i j) : nameB (.str (S a)) = true := name_mk (by rw [S_len]; exact p.l1) (by rw [S_len]; exact p.l6) p.lc
theorem up1920 {i : Int} (h : 1 ≤ i ∧ i ≤ 1000) : i.natAbs < 2 ^ 1920 := up_pow (Nat.lt_of_le_of_lt (show i.natAbs ≤ 1000 by omega) (show 1000 < 2 ^ 10 by decide)) (by omega)
theorem len_int {i : Int} (h : 1 ≤ i ∧ i ≤ 1000) : (intL i).length ≤ 601 := intL_len9 (up1920 h)
theorem name_t {k : Nat} {st : Store} {x : Str} (h : st[k]? = some (task x i j)) : m_Task_name [.ref k] st = .ok (.str x) st ∧ m_Task_weight [.ref k] st = .ok (.int i) st ∧ m_Task_wish [.ref k] st = .ok (.int j) st := by
  refine ⟨?_, ?_, ?_⟩
  · simp only [evs, evr, evd, evk, evl, evi, evo, evu, evn, if_true, m_Task_name, b_Task_name, f_task h]
  · simp only [evs, evr, evd, evk, evl, evi, evo, evu, evn, if_true, m_Task_weight, b_Task_weight, f_task h]
  · simp only [evs, evr, evd, evk, evl, evi, evo, evu, evn, if_true, m_Task_wish, b_Task_wish, f_task h]
def T1 : List Nat := "Task(".toList.map Char.toNat
def T2 : List Nat := ", weight=".toList.map Char.toNat
def T3 : List Nat := ", wish=".toList.map Char.toNat
def T4 : List Nat := "weight=".toList.map Char.toNat
theorem lits : Str.ofString "Task(" = S T1 ∧ Str.ofString ", weight=" = S T2 ∧ Str.ofString ", wish=" = S T3 ∧ Str.ofString "weight=" = S T4 ∧ Str.ofString ")" = S [41] ∧ Str.ofString "Task('" = S (T1 ++ [39]) ∧ Str.ofString "', " = S [39, 44, 32] ∧ T2 = [44, 32] ++ T4 ∧ Str.ofString " " = S [32] := by decide +kernel
theorem lens : T1.length = 5 ∧ T2.length = 9 ∧ T3.length = 7 ∧ T4.length = 7 := by decide +kernel
def reprT (a : List Nat) (i j : Int) : List Nat := T1 ++ [39] ++ a ++ [39, 44, 32] ++ T4 ++ intL i ++ T3 ++ intL j ++ [41]
theorem repr_t {k : Nat} {st : Store} (p : Plan a i j) (h : st[k]? = some (task (S a) i j)) : m_Task___repr__ [.ref k] st = .ok (.str (S (reprT a i j))) st := by
  have h1 := len_int p.i
  have h2 := len_int p.j
  have h3 := p.l6
  obtain ⟨t1, t2, t3, t4⟩ := lens
  obtain ⟨e1, e2, e3, e4, e5, e6, e7, e8, e9⟩ := lits
  have fr : ∀ f env st, eFmtR f env st = (f env st).bind fun d s => match d with
    | .str y => if (reprText y).length ≤ 100000 then .ok (.str (reprText y)) s else .stuck
    | .int i => if i.natAbs.log2 < 1920 then .ok (.str (toString i)) s else .stuck
    | _ => .stuck := fun _ _ _ => rfl
  have g0 : ((S (39 :: (a ++ [39]))).length ≤ 100000) = True := eq_true (by rw [S_len]; simp; omega)
  have ti : ∀ {i : Int}, (toString i : Str) = S (intL i) := fun {i} => str_int i
  have li : i.natAbs.log2 < 1920 := log_lt (by omega) (up1920 p.i)
  have lj : j.natAbs.log2 < 1920 := log_lt (by omega) (up1920 p.j)
  simp only [evs, evr, evd, evk, evl, evi, evo, evu, evn, if_true, m_Task___repr__, b_Task___repr__, f_task h, empS, e1, e2, e3, e5, fr]
  rw [join1S _ (by simp; omega)]
  simp only [evs, evr, evd, evk, evl, evi, evo, evu, evn, if_true, f_task h, empS, e1, e2, e3, e5, fr, g0, repr_low p.lc]
  rw [join1S _ (by simp; omega)]
  simp only [evs, evr, evd, evk, evl, evi, evo, evu, evn, if_true, f_task h, empS, e1, e2, e3, e5, fr, g0, repr_low p.lc]
  rw [join1S _ (by simp; omega)]
  simp only [evs, evr, evd, evk, evl, evi, evo, evu, evn, if_true, f_task h, empS, e1, e2, e3, e5, fr, li, lj, ti]
  rw [join1S _ (by simp; omega)]
  simp only [evs, evr, evd, evk, evl, evi, evo, evu, evn, if_true, f_task h, empS, e1, e2, e3, e5, fr, li, lj, ti]
  rw [join1S _ (by simp; omega)]
  simp only [evs, evr, evd, evk, evl, evi, evo, evu, evn, if_true, f_task h, empS, e1, e2, e3, e5, fr, li, lj, ti]
  rw [join1S _ (by simp; omega)]
  simp only [evs, evr, evd, evk, evl, evi, evo, evu, evn, if_true, f_task h, empS, e1, e2, e3, e5, fr, li, lj, ti]
  rw [join1S _ (by simp; omega)]
  simp only [evs, evr, evd, evk, evl, evi, evo, evu, evn, if_true, reprT, e8, List.nil_append, List.append_assoc, List.cons_append]
end
structure Pl (d : D) : Prop where
  k : Kd d
  rep : Rep d
theorem Pl.str {x : Str} (h : OkS x) (hl : x.length ≤ 1000) : Pl (.str x) := ⟨.str x hl h, .str h (by omega)⟩
theorem Pl.oth {d : D} {p : PyData} (h : ∀ st, isiD .int d st = some (.bl false, st)) (hs : ∀ st, isiD .str d st = some (.bl false, st)) (hr : Rep d) : Pl d := ⟨.oth d ⟨fun st => .inl (h st)⟩ hs, hr⟩
theorem Pl.bl (b : Bool) : Pl (.bl b) := ⟨.oth _ ⟨fun st => .inr ⟨rfl, rfl⟩⟩ fun _ => rfl, .of (p := .bool b) (n := 1) (fun st => ⟨rfl, by simp only [PyData.canLay0], by simp only [PyData.showable], by simp only [PyData.depth]; omega, by simp only [rW]; omega⟩) (by omega) (by simp only [rW]; omega)⟩
/-! the law's looks -/
section
variable {a : List Nat} {i j : Int}
theorem Plan.log (p : Plan a i j) : i.natAbs.log2 < 1920 ∧ j.natAbs.log2 < 1920 := ⟨log_lt (by omega) (up1920 p.i), log_lt (by omega) (up1920 p.j)⟩
theorem look_nm {x : Str} : ∀ n, n ∈ ["name", "weight", "wish", "key", "__str__", "__repr__", "__eq__", "turned"] → [("own_name", D.str x), ("own_weight", .int i), ("own_wish", .int j)].lookup n = none := by
  intro n hn
  simp only [List.mem_cons, List.not_mem_nil, or_false] at hn
  rcases hn with rfl | rfl | rfl | rfl | rfl | rfl | rfl | rfl <;> rfl
theorem isO {k : Nat} {st : Store} {x : Str} (h : st[k]? = some (task x i j)) (n : String) (hn : n ∈ ["name", "weight", "wish", "key", "__str__", "__repr__", "__eq__", "turned"]) : isOf "Task" n st (.ref k) = true := isOf_t n h (look_nm n hn)
theorem cl_task (st : Store) : ∀ {k : Nat} {fs : List (String × D)}, st[k]? = some (.ins "Task" fs) → isgD CE CI tb_Task tt_Task (.ref k) st = some (.bl true, st) := by
  intro k fs h
  simp only [isgD, h]
  rw [show clause CI tb_Task "Task" = some true by decide]
  rfl
theorem eqK3 {x y : Str} {i j i' j' : Int} (hx : OkS x) (hy : OkS y) (st : Store) : eqD (.tup [.int i, .int j, .str x]) (.tup [.int i', .int j', .str y]) st = some (.bl (decide (i = i' ∧ j = j' ∧ x = y)), st) := by
  have h : ∀ (a b : Int) (z : Str), pyD st (.tup [.int a, .int b, .str z]) = some (.tuple [.int a, .int b, .str z]) := fun _ _ _ => rfl
  show (((pyD st (.tup [.int i, .int j, .str x])).bind fun p => (pyD st (.tup [.int i', .int j', .str y])).bind fun q => if SeqAt.shaped p = true ∧ SeqAt.shaped q = true then some (PyData.eqv p q) else none).map fun b => (D.bl b, st)) = _
  rw [h, h]
  have hs : ∀ (a b : Int) (z : Str), OkS z → SeqAt.shaped (.tuple [.int a, .int b, .str z]) = true := fun a b z hz => by
    have := hz.ok
    simp only [PyData.canLay0] at this
    simp [SeqAt.shaped, PyData.canLay0, PyData.canLayAll0, PyData.depth, PyData.depthAll, this]
  simp only [Option.bind, hs _ _ _ hx, hs _ _ _ hy, and_self, if_true, Option.map_some]
  have he : PyData.eqv (.tuple [.int i, .int j, .str x]) (.tuple [.int i', .int j', .str y]) = decide (i = i' ∧ j = j' ∧ x = y) := by
    simp only [PyData.eqv, PyData.eqvAll, Bool.and_true]
    rw [Bool.eq_iff_iff]
    simp
  rw [he]
/-- == of two Tasks -/
theorem eq_t {k l : Nat} {st : Store} {x y : Str} {i j i' j' : Int} (hx : OkS x) (hy : OkS y) (h : st[k]? = some (task x i j)) (h2 : st[l]? = some (task y i' j')) : m_Task___eq__ [.ref k, .ref l] st = .ok (.bl (decide (i = i' ∧ j = j' ∧ x = y))) st := by
  have eme : ∀ c mn m gD fo fa fk env st, eMeth c mn m gD fo fa fk env st = (fo env st).bind fun x s => if isOf c mn s x = true then (fa env s).bind fun ds s1 => (fk env s1).bind fun es s2 => m (gD (x :: ds) es) s2 else .stuck := fun _ _ _ _ _ _ _ _ _ => rfl
  simp only [evs, evr, evd, evk, evl, evi, evo, evu, evn, if_true, m_Task___eq__, b_Task___eq__, cl_task st h2, eme, isO h "key" (by simp), isO h2 "key" (by simp), key_ev h, key_ev h2, eqK3 hx hy]
/-- turned -/
def orI (d : D) (i : Int) : Int := match d with
  | .int k => k
  | _ => i
/-- None, or a measure -/
def Mz (d : D) : Prop := d = .non ∨ ∃ k, d = .int k ∧ 1 ≤ k ∧ k ≤ 1000
theorem Mz.r {d : D} {i : Int} (h : Mz d) (hi : 1 ≤ i ∧ i ≤ 1000) : 1 ≤ orI d i ∧ orI d i ≤ 1000 := by
  rcases h with rfl | ⟨k, rfl, h⟩
  · exact hi
  · exact h
theorem isND_i (k : Int) (st : Store) : isND (.int k) .non st = some (.bl false, st) := rfl
theorem turned_t {a : List Nat} {i j : Int} {k : Nat} {st : Store} {u v : D} (p : Plan a i j) (h : st[k]? = some (task (S a) i j)) (hu : Mz u) (hv : Mz v) : m_Task_turned [.ref k, u, v] st = .ok (.ref st.length) (st ++ [task (S a) (orI u i) (orI v j)]) := by
  have mt : ∀ {x y : Int} (s : Store), 1 ≤ x ∧ x ≤ 1000 → 1 ≤ y ∧ y ≤ 1000 → m_Task___init__ (g_Task___init___2_weight_wish [.ref s.length, .str (S a)] [.int x, .int y]) (s ++ [.ins "Task" []]) = .ok .non (s ++ [task (S a) x y]) := fun {x y} s hx hy => init_ok (kdw p.nm) p.nm (meas_mk hx) (meas_mk hy) s
  rcases hu with rfl | ⟨x, rfl, hx⟩
  · rcases hv with rfl | ⟨y, rfl, hy⟩
    · simp only [evs, evr, evd, evk, evl, evi, evo, evu, evn, if_true, m_Task_turned, b_Task_turned, isN_n, f_task h, mt st p.i p.j, orI]
    · simp only [evs, evr, evd, evk, evl, evi, evo, evu, evn, if_true, m_Task_turned, b_Task_turned, isN_n, isND_i, f_task h, mt st p.i hy, orI]
  · rcases hv with rfl | ⟨y, rfl, hy⟩
    · simp only [evs, evr, evd, evk, evl, evi, evo, evu, evn, if_true, m_Task_turned, b_Task_turned, isN_n, isND_i, f_task h, mt st hx p.j, orI]
    · simp only [evs, evr, evd, evk, evl, evi, evo, evu, evn, if_true, m_Task_turned, b_Task_turned, isN_n, isND_i, f_task h, mt st hx hy, orI]
theorem okS (p : Plan a i j) : OkS (S a) := okw p.nm
theorem eqArg_t {k : Nat} {st : Store} {x : Str} {i j : Int} (h : st[k]? = some (task x i j)) : eqArg "Task" st (.ref k) = true := by
  unfold eqArg
  have e : insOf st (.ref k) = some (k, "Task", [("own_name", .str x), ("own_weight", .int i), ("own_wish", .int j)]) := by
    simp only [insOf, h]
    rfl
  rw [e]
  simp
end
/-! ### lists of Tasks -/
abbrev Tsp := List Nat × Int × Int
def TkF (f : D → Tsp) (st : Store) (d : D) : Prop := ∃ k, d = .ref k ∧ st[k]? = some (task (S (f d).1) (f d).2.1 (f d).2.2) ∧ Plan (f d).1 (f d).2.1 (f d).2.2
def TkA (st : Store) (d : D) : Prop := ∃ k a i j, d = .ref k ∧ st[k]? = some (task (S a) i j) ∧ Plan a i j
theorem TkF.app {f : D → Tsp} {st : Store} {d : D} (h : TkF f st d) (l : Store) : TkF f (st ++ l) d := let ⟨k, h1, h2, h3⟩ := h; ⟨k, h1, old_at l h2, h3⟩
theorem TkA.app {st : Store} {d : D} (h : TkA st d) (l : Store) : TkA (st ++ l) d := let ⟨k, a, i, j, h1, h2, h3⟩ := h; ⟨k, a, i, j, h1, old_at l h2, h3⟩
theorem TkA.pick {st : Store} {ds : List D} (h : ∀ d ∈ ds, TkA st d) : ∃ f : D → Tsp, ∀ d ∈ ds, TkF f st d := by
  have h2 : ∀ d : D, ∃ p : Tsp, d ∈ ds → ∃ k, d = .ref k ∧ st[k]? = some (task (S p.1) p.2.1 p.2.2) ∧ Plan p.1 p.2.1 p.2.2 := fun d => by
    by_cases hd : d ∈ ds
    · obtain ⟨k, a, i, j, h1, h2, h3⟩ := h d hd
      exact ⟨(a, i, j), fun _ => ⟨k, h1, h2, h3⟩⟩
    · exact ⟨([], 0, 0), fun z => absurd z hd⟩
  obtain ⟨f, hf⟩ := Classical.skolem.mp h2
  exact ⟨f, fun d hd => hf d hd⟩
/-- a list, wherever it stands -/
structure Lat (st : Store) (d : D) (ds : List D) : Prop where
  l : listD st d = some ds
  w : ∃ o : Option Nat, (∀ s, Gd (o, ds) s → lstI d s = .ok (o, ds) s) ∧ Gd (o, ds) st
theorem Lat.lst (st : Store) (ds : List D) : Lat st (.lst ds) ds := ⟨rfl, none, fun _ _ => rfl, trivial⟩
theorem Lat.ref {st : Store} {k : Nat} {ds : List D} (h : st[k]? = some (.lst ds)) : Lat st (.ref k) ds := ⟨by simp only [listD, h], some k, fun s hs => by have hs : s[k]? = some (.lst ds) := hs; simp only [lstI, hs], h⟩
theorem gd_app {o : Option Nat} {ds : List D} {st : Store} (h : Gd (o, ds) st) (l : Store) : Gd (o, ds) (st ++ l) := by
  cases o with
  | none => trivial
  | some k => exact old_at l (show st[k]? = some (.lst ds) from h)
theorem lst_d {o : Option Nat} {d : D} {ds : List D} {s : Store} (h : lstI d s = .ok (o, ds) s) : listD s d = some ds := by
  cases d with
  | lst xs => cases h; rfl
  | ref k =>
    cases e : s[k]? with
    | none => simp only [lstI, e] at h; cases h
    | some c => cases c <;> simp only [lstI, e] at h <;> first | (cases h; simp only [listD, e]; done) | cases h
  | _ => cases h
theorem Lat.app {st : Store} {d : D} {ds : List D} (h : Lat st d ds) (l : Store) : Lat (st ++ l) d ds := by
  obtain ⟨h1, o, h2, h3⟩ := h
  have h4 := gd_app h3 l
  exact ⟨lst_d (h2 _ h4), o, h2, h4⟩
theorem Lat.bm {st : Store} {d : D} {ds : List D} (h : Lat st d ds) : bmTy st d = some .lst := by
  have h1 := h.l
  unfold listD at h1
  split at h1
  · rfl
  · split at h1
    · rename_i h2
      simp only [bmTy, h2]
    · cases h1
  · cases h1
theorem Lat.len {st : Store} {d : D} {ds : List D} (h : Lat st d ds) : lenD [d] st = some (.int ds.length, st) := by
  have h1 := h.l
  unfold listD at h1
  split at h1
  · cases h1; rfl
  · split at h1
    · rename_i h2
      cases h1
      simp only [lenD, lenN, listD, h2]
      rfl
    · cases h1
  · cases h1
section
variable {f : D → Tsp} {st : Store}
def repS (f : D → Tsp) (d : D) : Str := S (reprT (f d).1 (f d).2.1 (f d).2.2)
theorem repL_ev {d : D} {ds : List D} (hl : listD st d = some ds) (h : ∀ x ∈ ds, TkF f st x) : RepL "Task" m_Task___repr__ st d (listText (ds.map (repS f))) := by
  refine ⟨ds, ds.map (repS f), hl, List.length_map _, fun i x hx => ⟨repS f x, by rw [List.getElem?_map, hx]; rfl, ?_⟩, rfl⟩
  obtain ⟨k, h1, h2, h3⟩ := h x (List.mem_of_getElem? hx)
  have : repS f x = S (reprT (f x).1 (f x).2.1 (f x).2.2) := rfl
  rw [this]
  generalize f x = p at h2 h3
  subst h1
  exact ⟨isO h2 "__repr__" (by simp), repr_t h3 h2⟩
theorem txt_len : ∀ (ts : List Str) (k : Nat) (acc : Str) (n : Nat), (∀ t ∈ ts, t.length ≤ n) → (textFrom k acc ts).length ≤ acc.length + ts.length * (n + 2)
  | [], k, acc, n, _ => by show acc.length ≤ _; simp
  | t :: r, k, acc, n, h => by
    have := txt_len r (k + 1) (acc ++ (if k > 0 then ", " else "" : String) ++ t) n fun u hu => h u (List.mem_cons_of_mem _ hu)
    have h1 := h t List.mem_cons_self
    have e : (acc ++ (if k > 0 then ", " else "" : String) ++ t).length ≤ acc.length + 2 + t.length := by
      rw [strLen_append, strLen_append]
      split
      · exact Nat.le_refl _
      · have : (Str.ofString "").length = 0 := rfl
        omega
    rw [List.length_cons, Nat.succ_mul]
    exact Nat.le_trans this (by omega)
theorem list_len {ts : List Str} {n m : Nat} (h : ∀ t ∈ ts, t.length ≤ n) (hl : ts.length ≤ m) : (listText ts).length ≤ 2 + m * (n + 2) := by
  have h1 := txt_len ts 0 "[" n h
  have e : (listText ts).length = (textFrom 0 "[" ts).length + 1 := strLen_append _ _
  have e1 : (Str.ofString "[").length = 1 := rfl
  have h2 := Nat.mul_le_mul_right (n + 2) hl
  omega
theorem repS_len {d : D} (h : TkF f st d) : (repS f d).length ≤ 1300 := by
  obtain ⟨k, h1, h2, p⟩ := h
  have := len_int p.i
  have := len_int p.j
  have := p.l6
  obtain ⟨t1, t2, t3, t4⟩ := lens
  unfold repS
  rw [S_len]
  simp only [reprT, List.length_append, List.length_cons, List.length_nil]
  omega
def txt8 (f : D → Tsp) (xs ys : List D) : Str := listText [listText (xs.map (repS f)), listText (ys.map (repS f))]
theorem repLL_ev {a b : D} {xs ys : List D} (ha : Lat st a xs) (hb : Lat st b ys) (h : ∀ x ∈ xs ++ ys, TkF f st x) (lx : xs.length ≤ 20) (ly : ys.length ≤ 20) : RepLL "Task" m_Task___repr__ st (.lst [a, b]) (txt8 f xs ys) := by
  have hx : ∀ x ∈ xs, TkF f st x := fun x hx => h x (List.mem_append_left _ hx)
  have hy : ∀ x ∈ ys, TkF f st x := fun x hx => h x (List.mem_append_right _ hx)
  have l1 : (listText (xs.map (repS f))).length ≤ 2 + 20 * (1300 + 2) := list_len (fun t ht => by obtain ⟨x, h1, rfl⟩ := List.mem_map.mp ht; exact repS_len (hx x h1)) (by rw [List.length_map]; exact lx)
  have l2 : (listText (ys.map (repS f))).length ≤ 2 + 20 * (1300 + 2) := list_len (fun t ht => by obtain ⟨x, h1, rfl⟩ := List.mem_map.mp ht; exact repS_len (hy x h1)) (by rw [List.length_map]; exact ly)
  refine ⟨[a, b], [listText (xs.map (repS f)), listText (ys.map (repS f))], rfl, by simp, rfl, fun i x hx2 => ?_, rfl, ?_⟩
  · match i, hx2 with
    | 0, hx2 => cases hx2; exact ⟨_, rfl, repL_ev ha.l hx⟩
    | 1, hx2 => cases hx2; exact ⟨_, rfl, repL_ev hb.l hy⟩
  · have := list_len (n := 30000) (m := 2) (ts := [listText (xs.map (repS f)), listText (ys.map (repS f))]) (fun t ht => by
      simp only [List.mem_cons, List.not_mem_nil, or_false] at ht
      rcases ht with rfl | rfl <;> omega) (by simp)
    exact Nat.le_trans this (by decide)
end
/-! ### in order by their keys -/
section
variable {f : D → Tsp} {st : Store}
theorem S_inj {a b : List Nat} (h : S a = S b) : a = b := by
  have : (S a).cps.toList = (S b).cps.toList := by rw [h]
  simpa [S] using this
noncomputable def kyE : Ex := eMeth "Task" "key" m_Task_key (fun ds _ => ds) (eVar 0) aNil aNil
theorem ky_ev {d : D} (h : TkF f st d) : kyE [some d] st = .ok (.tup [.int (f d).2.1, .int (f d).2.2, .str (S (f d).1)]) st := by
  obtain ⟨k, h1, h2, h3⟩ := h
  generalize f d = p at h2 h3
  subst h1
  have eme : ∀ c mn m gD fo fa fk env st, eMeth c mn m gD fo fa fk env st = (fo env st).bind fun x s => if isOf c mn s x = true then (fa env s).bind fun ds s1 => (fk env s1).bind fun es s2 => m (gD (x :: ds) es) s2 else .stuck := fun _ _ _ _ _ _ _ _ _ => rfl
  simp only [evs, evr, evd, evk, evl, evi, evo, evu, evn, if_true, kyE, eme, isO h2 "key" (by simp), key_ev h2]
theorem kyP_ev {d : D} (h : TkF f st d) : kyP kyE st d = .tuple [.int (f d).2.1, .int (f d).2.2, .str (S (f d).1)] := by
  unfold kyP kyD
  rw [ky_ev h]
/-- how two stand -/
def Ris (p q : Tsp) : Prop := p.2.1 < q.2.1 ∨ (p.2.1 = q.2.1 ∧ (p.2.2 < q.2.2 ∨ (p.2.2 = q.2.2 ∧ ¬ q.1 < p.1)))
open PySem.W in
theorem lt3 {i j i' j' : Int} {x y : Str} : dataLt (.tuple [.int i, .int j, .str x]) (.tuple [.int i', .int j', .str y]) = if i = i' then (if j = j' then (if x = y then false else decide (x.cps.toList < y.cps.toList)) else decide (j < j')) else decide (i < i') := by
  rw [dataLt_tuple, dataLt_cons (by simp [alike]), dataLt_cons (by simp [alike]), dataLt_cons (by simp [alike]), dataLt_int, dataLt_int, dataLt_str]
  have e : PyProof.Rows.lexLt itemOrd (keyToksAll []) (keyToksAll []) = false := lex_irrefl _
  rw [e]
  simp only [PyData.eqv, beq_iff_eq]
theorem le_ris {d e : D} (hd : TkF f st d) (he : TkF f st e) (h : PySem.W.dataLe false (kyP kyE st) d e = true) : Ris (f d) (f e) := by
  have h1 : (!PySem.W.dataLt (kyP kyE st e) (kyP kyE st d)) = true := h
  rw [kyP_ev hd, kyP_ev he, lt3, Bool.not_eq_true'] at h1
  unfold Ris
  by_cases c1 : (f e).2.1 = (f d).2.1
  · rw [if_pos c1] at h1
    by_cases c2 : (f e).2.2 = (f d).2.2
    · rw [if_pos c2] at h1
      refine .inr ⟨c1.symm, .inr ⟨c2.symm, fun z => ?_⟩⟩
      by_cases c3 : S (f e).1 = S (f d).1
      · rw [S_inj c3] at z
        exact List.lt_irrefl _ z
      · rw [if_neg c3, decide_eq_false_iff_not] at h1
        exact h1 (by simpa [S] using z)
    · rw [if_neg c2, decide_eq_false_iff_not] at h1
      exact .inr ⟨c1.symm, .inl (by omega)⟩
  · rw [if_neg c1, decide_eq_false_iff_not] at h1
    exact .inl (by omega)
theorem srt_perm (ds : List D) : (srtD kyE st ds).Perm ds := List.mergeSort_perm _ _
theorem srt_ris {ds : List D} (h : ∀ d ∈ ds, TkF f st d) {i : Nat} {d e : D} (hd : (srtD kyE st ds)[i]? = some d) (he : (srtD kyE st ds)[i + 1]? = some e) : Ris (f d) (f e) := by
  have hp : (srtD kyE st ds).Pairwise (fun a b => PySem.W.dataLe false (kyP kyE st) a b = true) := PySem.W.sort_pairwise (PySem.W.sortLe_total _ false _) ds
  obtain ⟨l1, e1⟩ := List.getElem?_eq_some_iff.mp hd
  obtain ⟨l2, e2⟩ := List.getElem?_eq_some_iff.mp he
  have := List.pairwise_iff_getElem.mp hp i (i + 1) l1 l2 (by omega)
  rw [e1, e2] at this
  exact le_ris (h d ((srt_perm ds).mem_iff.mp (List.mem_of_getElem? hd))) (h e ((srt_perm ds).mem_iff.mp (List.mem_of_getElem? he))) this
theorem sort_ev {env : F3.Env} {a : D} {ds : List D} {fo : Ex} (h0 : fo env st = .ok a st) (hl : Lat st a ds) (hz : st[0]? = some (.tab "_law_right")) (hn : ds.length ≤ 20) (h : ∀ d ∈ ds, TkF f st d) : eSortM 0 "_law_right" kyE fo env st = .ok (.lst (srtD kyE st ds)) st := by
  unfold eSortM
  rw [h0]
  simp only [Res.bind]
  rw [hl.l]
  simp only []
  rw [if_pos ⟨hz, by omega, fun d hd => ⟨_, _, _, ky_ev (h d hd)⟩⟩]
theorem ris_ev {d e : D} (hd : TkF f st d) (he : TkF f st e) (h : Ris (f d) (f e)) : m__law_rising [d, e] st = .ok (.bl true) st := by
  obtain ⟨k, h1, h2, h3⟩ := hd
  obtain ⟨l, g1, g2, g3⟩ := he
  generalize f d = p at h h2 h3
  generalize f e = q at h g2 g3
  subst h1
  subst g1
  have eme : ∀ c mn m gD fo fa fk env st, eMeth c mn m gD fo fa fk env st = (fo env st).bind fun x s => if isOf c mn s x = true then (fa env s).bind fun ds s1 => (fk env s1).bind fun es s2 => m (gD (x :: ds) es) s2 else .stuck := fun _ _ _ _ _ _ _ _ _ => rfl
  have ne : ∀ (i j : Int) (s : Store), neD (.int i) (.int j) s = some (.bl (!decide (i = j)), s) := fun _ _ _ => rfl
  have lt : ∀ (i j : Int) (s : Store), ltD (.int i) (.int j) s = some (.bl (decide (i < j)), s) := fun _ _ _ => rfl
  have le : ∀ (x y : Str) (s : Store), leSD (.str x) (.str y) s = some (.bl (!decide (y.cps.toList < x.cps.toList)), s) := fun _ _ _ => rfl
  have kk := fun n hn => isO h2 n hn
  have ll := fun n hn => isO g2 n hn
  have k1 := kk "name" (by simp)
  have k2 := kk "weight" (by simp)
  have k3 := kk "wish" (by simp)
  have l1 := ll "name" (by simp)
  have l2 := ll "weight" (by simp)
  have l3 := ll "wish" (by simp)
  have tx : ∀ {x y : List Nat}, ¬ y < x → decide ((S y).cps.toList < (S x).cps.toList) = false := fun {x y} h => decide_eq_false (by simpa [S] using h)
  rcases h with h | ⟨h0, h | ⟨h', h⟩⟩
  · have n1 : ¬ p.2.1 = q.2.1 := by omega
    simp only [evs, evr, evd, evk, evl, evi, evo, evu, evn, if_true, m__law_rising, b__law_rising, eme, k2, l2, name_t h2, name_t g2, ne, lt, decide_eq_false n1, Bool.not_false, decide_eq_true h]
  · have n1 : ¬ p.2.2 = q.2.2 := by omega
    simp only [evs, evr, evd, evk, evl, evi, evo, evu, evn, if_true, m__law_rising, b__law_rising, eme, k2, l2, k3, l3, name_t h2, name_t g2, ne, lt, h0, decide_eq_false n1, Bool.not_false, Bool.not_true, decide_true, decide_eq_true h]
  · simp only [evs, evr, evd, evk, evl, evi, evo, evu, evn, if_true, m__law_rising, b__law_rising, eme, k1, l1, k2, l2, k3, l3, name_t h2, name_t g2, ne, lt, le, h0, h', tx h, Bool.not_false, Bool.not_true, decide_true]
end
/-! ### how often one stands -/
section
variable {f : D → Tsp} {st : Store}
theorem eqF_ev {x d : D} (hx : TkF f st x) (hd : TkF f st d) : m_Task___eq__ [d, x] st = .ok (.bl (decide (f d = f x))) st := by
  obtain ⟨k, h1, h2, h3⟩ := hx
  obtain ⟨l, g1, g2, g3⟩ := hd
  have e : (decide (f d = f x)) = decide ((f d).2.1 = (f x).2.1 ∧ (f d).2.2 = (f x).2.2 ∧ S (f d).1 = S (f x).1) := by
    refine decide_eq_decide.mpr ⟨fun h => by rw [h]; exact ⟨rfl, rfl, rfl⟩, fun ⟨a, b, c⟩ => ?_⟩
    exact Prod.ext (S_inj c) (Prod.ext a b)
  rw [e]
  subst h1
  subst g1
  exact eq_t (okS g3) (okS h3) g2 h2
theorem itA_ev {x d : D} (hx : TkF f st x) (hd : TkF f st d) : itA "Task" m_Task___eq__ x d st = .ok (.bl (decide (f d = f x))) st := by
  have he := eqF_ev hx hd
  obtain ⟨k, h1, h2, h3⟩ := hx
  obtain ⟨l, g1, g2, g3⟩ := hd
  subst h1
  subst g1
  show (if l = k then Res.ok (.bl true) st else if isOf "Task" "__eq__" st (.ref l) = true then m_Task___eq__ [.ref l, .ref k] st else .stuck) = _
  by_cases hlk : l = k
  · subst hlk
    rw [if_pos rfl, decide_eq_true rfl]
  · rw [if_neg hlk, if_pos (isO g2 "__eq__" (by simp)), he]
theorem drop_s {ds : List D} {n : Nat} {d : D} (h : ds[n]? = some d) : ds.drop n = d :: ds.drop (n + 1) := by
  obtain ⟨h1, h2⟩ := List.getElem?_eq_some_iff.mp h
  rw [← h2]
  exact List.drop_eq_getElem_cons h1
theorem isF {x : D} (hx : TkF f st x) (n : String) (hn : n ∈ ["name", "weight", "wish", "key", "__str__", "__repr__", "__eq__", "turned"]) : isOf "Task" n st x = true := by
  obtain ⟨k, h1, h2, h3⟩ := hx
  subst h1
  exact isO h2 n hn
theorem cntN_ev {x y : D} {ds : List D} (hl : listD st y = some ds) (hx : TkF f st x) (hd : ∀ d ∈ ds, TkF f st d) : ∀ (k : Nat) (a : Int), k ≤ ds.length → cntN "Task" m_Task___eq__ x y ds.length k a st = .ok (.int (a + ((ds.drop (ds.length - k)).countP fun d => decide (f d = f x) : Nat))) st
  | 0, a, _ => by
    unfold cntN
    rw [hl]
    simp only [if_true]
    rw [Nat.sub_zero, List.drop_length]
    simp
  | k + 1, a, h => by
    unfold cntN
    rw [hl]
    simp only []
    rw [if_pos ⟨trivial, isF hx "__eq__" (by simp)⟩]
    have hi : ds.length - (k + 1) < ds.length := by omega
    obtain ⟨d, hd1⟩ : ∃ d, ds[ds.length - (k + 1)]? = some d := ⟨_, List.getElem?_eq_getElem hi⟩
    rw [hd1]
    simp only []
    rw [itA_ev hx (hd d (List.mem_of_getElem? hd1))]
    simp only []
    rw [cntN_ev hl hx hd k _ (by omega), drop_s hd1, List.countP_cons, show ds.length - (k + 1) + 1 = ds.length - k by omega]
    by_cases c : f d = f x
    · simp only [decide_eq_true c, if_true, Int.natCast_add]
      congr 2
      omega
    · simp only [decide_eq_false c]
      rfl
/-- y.count(x) -/
theorem cnt_ev {env : F3.Env} {g h : Ex} {x y : D} {ds : List D} (e1 : g env st = .ok y st) (e2 : h env st = .ok x st) (hl : Lat st y ds) (hx : TkF f st x) (hd : ∀ d ∈ ds, TkF f st d) : eCntA "Task" m_Task___eq__ g h env st = .ok (.int ((ds.countP fun d => decide (f d = f x) : Nat))) st := by
  unfold eCntA
  rw [e1]
  simp only [Res.bind]
  rw [if_pos hl.bm, e2]
  simp only []
  rw [hl.l]
  simp only []
  rw [cntN_ev hl.l hx hd _ _ (Nat.le_refl _), Nat.sub_self, List.drop_zero, Int.zero_add]
/-- x in y -/
theorem hasN_ev {x y : D} {ds : List D} (hl : listD st y = some ds) (hx : TkF f st x) (hd : ∀ d ∈ ds, TkF f st d) : ∀ (k : Nat), k ≤ ds.length → hasN "Task" m_Task___eq__ x y ds.length k st = .ok (.bl ((ds.drop (ds.length - k)).any fun d => decide (f d = f x))) st
  | 0, _ => by
    unfold hasN
    rw [hl]
    simp only [if_true]
    rw [Nat.sub_zero, List.drop_length]
    rfl
  | k + 1, h => by
    unfold hasN
    rw [hl]
    simp only []
    rw [if_pos ⟨trivial, isF hx "__eq__" (by simp)⟩]
    have hi : ds.length - (k + 1) < ds.length := by omega
    obtain ⟨d, hd1⟩ : ∃ d, ds[ds.length - (k + 1)]? = some d := ⟨_, List.getElem?_eq_getElem hi⟩
    rw [hd1]
    simp only []
    rw [itA_ev hx (hd d (List.mem_of_getElem? hd1)), drop_s hd1, List.any_cons, show ds.length - (k + 1) + 1 = ds.length - k by omega]
    by_cases c : f d = f x
    · rw [decide_eq_true c]
      rfl
    · rw [decide_eq_false c]
      simp only []
      rw [hasN_ev hl hx hd k (by omega)]
      rfl
theorem in_ev {env : F3.Env} {g h : Ex} {x y : D} {ds : List D} (e1 : g env st = .ok x st) (e2 : h env st = .ok y st) (hl : Lat st y ds) (hx : TkF f st x) (hd : ∀ d ∈ ds, TkF f st d) : eInA "Task" m_Task___eq__ g h env st = .ok (.bl (ds.any fun d => decide (f d = f x))) st := by
  unfold eInA
  rw [e1]
  simp only [Res.bind]
  rw [e2]
  simp only []
  rw [if_pos (isF hx "__eq__" (by simp))]
  unfold F3.inR
  rw [hl.l]
  simp only []
  rw [hasN_ev hl.l hx hd _ (Nat.le_refl _), Nat.sub_self, List.drop_zero]
  rfl
end
/-! ### the looks within a list -/
section
variable {f : D → Tsp} {st : Store}
theorem eme (c mn : String) (m : List D → Store → Res D) (gD : List D → List D → List D) (fo : Ex) (fa fk : Exs) (env : F3.Env) (st : Store) : eMeth c mn m gD fo fa fk env st = (fo env st).bind fun x s => if isOf c mn s x = true then (fa env s).bind fun ds s1 => (fk env s1).bind fun es s2 => m (gD (x :: ds) es) s2 else .stuck := rfl
theorem asc_ev {zs : List D} {o0 o1 o2 o4 o5 o6 o7 : Option D} (hz : ∀ d ∈ zs, TkF f st d) (hr : ∀ i d e, zs[i]? = some d → zs[i + 1]? = some e → Ris (f d) (f e)) (hl : zs.length ≤ 20) :
    lcL (none, intsD 1 ((zs.length : Int) - 1).toNat) (tNm 4) (eNot (eCall m__law_rising (fun ds _ => ds) (aCons (eBin ixD (eVar 3) (eBin subD (eVar 4) (eC (.int 1)))) (aCons (eBin ixD (eVar 3) (eVar 4)) aNil)) aNil)) (eVar 4) [4] [o0, o1, o2, some (.lst zs), o4, o5, o6, o7] (intsD 1 ((zs.length : Int) - 1).toNat) [] st = .ok [] st := by
  have hlc := lc_pure (w := (none, intsD 1 ((zs.length : Int) - 1).toNat)) (g := tNm 4) (t := eNot (eCall m__law_rising (fun ds _ => ds) (aCons (eBin ixD (eVar 3) (eBin subD (eVar 4) (eC (.int 1)))) (aCons (eBin ixD (eVar 3) (eVar 4)) aNil)) aNil)) (e := eVar 4) (vs := [4]) (env := [o0, o1, o2, some (.lst zs), o4, o5, o6, o7]) (ds := intsD 1 ((zs.length : Int) - 1).toNat) (st := st) trivial (fun _ => false) (fun d => d) (fun d hd => by
    obtain ⟨i, hi⟩ := List.getElem?_of_mem hd
    obtain ⟨h1, rfl⟩ := intsD_get hi
    refine ⟨_, rfl, ?_, fun z => by cases z⟩
    obtain ⟨d1, e1⟩ : ∃ d, zs[i]? = some d := ⟨_, List.getElem?_eq_getElem (by omega)⟩
    obtain ⟨d2, e2⟩ : ∃ d, zs[i + 1]? = some d := ⟨_, List.getElem?_eq_getElem (by omega)⟩
    have x1 : ixAt zs (1 + (i : Int) - 1) = some d1 := by rw [show (1 : Int) + (i : Int) - 1 = (i : Int) by omega, ixAt_lit, e1]
    have x2 : ixAt zs (1 + (i : Int)) = some d2 := by rw [show (1 : Int) + (i : Int) = ((i + 1 : Nat) : Int) by omega, ixAt_lit, e2]
    simp only [evs, evr, evd, evk, evl, evi, evo, evu, evn, if_true, wipeE, ev_ixL, x1, x2, Option.map_some, ris_ev (hz _ (List.mem_of_getElem? e1)) (hz _ (List.mem_of_getElem? e2)) (hr i d1 d2 e1 e2), Bool.not_true]) (by simp [intsD]; omega)
  rw [hlc, show ∀ l : List D, List.filter (fun _ => false) l = [] from fun l => List.filter_eq_nil_iff.mpr (by simp)]
  rfl
theorem cntc_ev {a : D} {o : Option Nat} {xs zs : List D} {o1 o2 o4 o5 o6 o7 : Option D} (ha : Lat st a xs) (hx : ∀ d ∈ xs, TkF f st d) (hp : zs.Perm xs) (hl : xs.length ≤ 20) (hg : Gd (o, xs) st) :
    lcL (o, xs) (tNm 5) (eBin neD (eCntA "Task" m_Task___eq__ (eVar 0) (eVar 5)) (eCntA "Task" m_Task___eq__ (eVar 3) (eVar 5))) (eVar 5) [5] [some a, o1, o2, some (.lst zs), o4, o5, o6, o7] xs [] st = .ok [] st := by
  have ne : ∀ (i : Int) (s : Store), neD (.int i) (.int i) s = some (.bl false, s) := fun i s => by
    show some (D.bl (!decide (i = i)), s) = _
    rw [decide_eq_true rfl]; rfl
  have hlc := lc_pure (w := (o, xs)) (g := tNm 5) (t := eBin neD (eCntA "Task" m_Task___eq__ (eVar 0) (eVar 5)) (eCntA "Task" m_Task___eq__ (eVar 3) (eVar 5))) (e := eVar 5) (vs := [5]) (env := [some a, o1, o2, some (.lst zs), o4, o5, o6, o7]) (ds := xs) (st := st) hg (fun _ => false) (fun d => d) (fun d hd => by
    refine ⟨_, rfl, ?_, fun z => by cases z⟩
    have c1 : eCntA "Task" m_Task___eq__ (eVar 0) (eVar 5) [some a, o1, o2, some (.lst zs), o4, some d, o6, o7] st = _ := cnt_ev rfl rfl ha (hx d hd) hx
    have c2 : eCntA "Task" m_Task___eq__ (eVar 3) (eVar 5) [some a, o1, o2, some (.lst zs), o4, some d, o6, o7] st = _ := cnt_ev rfl rfl (Lat.lst st zs) (hx d hd) fun e he => hx e (hp.mem_iff.mp he)
    rw [hp.countP_eq] at c2
    simp only [evs, evr, evd, evk, evl, evi, evo, evu, evn, if_true, wipeE, c1, c2, ne]) (by omega)
  rw [hlc, show ∀ l : List D, List.filter (fun _ => false) l = [] from fun l => List.filter_eq_nil_iff.mpr (by simp)]
  rfl
theorem samec_ev {x : D} {o : Option Nat} {o1 : Option D} {ys : List D} {o0 o2 o3 o4 o6 o7 : Option D} (hx : TkF f st x) (hy : ∀ d ∈ ys, TkF f st d) (hl : ys.length ≤ 20) (hg : Gd (o, ys) st) :
    lcL (o, ys) (tNm 6) (eBin eqD (eMeth "Task" "key" m_Task_key (fun ds _ => ds) (eVar 6) aNil aNil) (eMeth "Task" "key" m_Task_key (fun ds _ => ds) (eVar 5) aNil aNil)) (eVar 6) [6] [o0, o1, o2, o3, o4, some x, o6, o7] ys [] st = .ok (ys.filter fun d => decide (f d = f x)) st := by
  have hlc := lc_pure (w := (o, ys)) (g := tNm 6) (t := eBin eqD (eMeth "Task" "key" m_Task_key (fun ds _ => ds) (eVar 6) aNil aNil) (eMeth "Task" "key" m_Task_key (fun ds _ => ds) (eVar 5) aNil aNil)) (e := eVar 6) (vs := [6]) (env := [o0, o1, o2, o3, o4, some x, o6, o7]) (ds := ys) (st := st) hg (fun d => decide (f d = f x)) (fun d => d) (fun d hd => by
    refine ⟨_, rfl, ?_, fun _ => rfl⟩
    obtain ⟨k, h1, h2, h3⟩ := hx
    obtain ⟨l, g1, g2, g3⟩ := hy d hd
    have e : (decide (f d = f x)) = decide ((f d).2.1 = (f x).2.1 ∧ (f d).2.2 = (f x).2.2 ∧ S (f d).1 = S (f x).1) := by
      refine decide_eq_decide.mpr ⟨fun h => by rw [h]; exact ⟨rfl, rfl, rfl⟩, fun ⟨a, b, c⟩ => ?_⟩
      exact Prod.ext (S_inj c) (Prod.ext a b)
    rw [e]
    subst h1
    subst g1
    simp only [evs, evr, evd, evk, evl, evi, evo, evu, evn, if_true, wipeE, eme, isO h2 "key" (by simp), isO g2 "key" (by simp), key_ev h2, key_ev g2, eqK3 (okS g3) (okS h3)]) (by omega)
  rw [hlc, List.map_id']
end
/-! ### a list looked through -/
section
variable {f : D → Tsp} {st : Store}
theorem turnF {x y : D} (hx : TkF f st x) (hy : TkF f st y) : m_Task_turned [x, .int (f y).2.1, .int (f y).2.2] st = .ok (.ref st.length) (st ++ [task (S (f x).1) (f y).2.1 (f y).2.2]) := by
  obtain ⟨k, h1, h2, h3⟩ := hx
  obtain ⟨l, g1, g2, g3⟩ := hy
  generalize f x = p at h2 h3 ⊢
  generalize f y = q at g2 g3 ⊢
  subst h1
  exact turned_t h3 h2 (.inr ⟨_, rfl, g3.i⟩) (.inr ⟨_, rfl, g3.j⟩)
theorem fldF {x : D} (hx : TkF f st x) : m_Task_name [x] st = .ok (.str (S (f x).1)) st ∧ m_Task_weight [x] st = .ok (.int (f x).2.1) st ∧ m_Task_wish [x] st = .ok (.int (f x).2.2) st ∧ m_Task_key [x] st = .ok (.tup [.int (f x).2.1, .int (f x).2.2, .str (S (f x).1)]) st ∧ eqArg "Task" st x = true := by
  obtain ⟨k, h1, h2, h3⟩ := hx
  generalize f x = p at h2 h3 ⊢
  subst h1
  exact ⟨(name_t h2).1, (name_t h2).2.1, (name_t h2).2.2, key_ev h2, eqArg_t h2⟩
theorem right_ev {a b : D} {xs ys : List D} (ha : Lat st a xs) (hb : Lat st b ys) (hz : st[0]? = some (.tab "_law_right")) (lx : xs.length ≤ 20) (ly : ys.length ≤ 20) (h : ∀ d ∈ xs ++ ys, TkF f st d) : ∃ l, m__law_right [a, b] st = .ok (.bl true) (st ++ l) := by
  suffices hs : Rp (m__law_right [a, b] st) (fun d s => d = .bl true ∧ ∃ l, s = st ++ l) (fun _ _ _ => False) by
    generalize m__law_right [a, b] st = r at hs ⊢
    obtain ⟨d, s, e, rfl, l, rfl⟩ := Rp.ex hs
    exact ⟨l, e⟩
  have hx : ∀ d ∈ xs, TkF f st d := fun d hd => h d (List.mem_append_left _ hd)
  have hy : ∀ d ∈ ys, TkF f st d := fun d hd => h d (List.mem_append_right _ hd)
  have e1 : ∀ (l : Store) r, eReprLL "Task" m_Task___repr__ (eLst (aCons (eVar 0) (aCons (eVar 1) aNil))) (some a :: some b :: r) (st ++ l) = .ok (.str (txt8 f xs ys)) (st ++ l) := fun l r => reprLL_eq (x := .lst [a, b]) rfl (repLL_ev (ha.app l) (hb.app l) (fun x hx => (h x hx).app l) lx ly)
  have e0 := e1 []
  rw [List.append_nil] at e0
  have e2 : ∀ r, eSortM 0 "_law_right" (eMeth "Task" "key" m_Task_key (fun ds _ => ds) (eVar 0) aNil aNil) (eVar 0) (some a :: r) st = .ok (.lst (srtD kyE st xs)) st := fun r => sort_ev rfl ha hz lx hx
  have hp := srt_perm (st := st) xs
  have hr := fun i d e => srt_ris (f := f) hx (i := i) (d := d) (e := e)
  generalize srtD kyE st xs = zs at e2 hp hr
  have hzs : ∀ d ∈ zs, TkF f st d := fun d hd => hx d (hp.mem_iff.mp hd)
  have lz : zs.length = xs.length := hp.length_eq
  have ne : ∀ (i j : Int) (s : Store), neD (.int i) (.int j) s = some (.bl (!decide (i = j)), s) := fun _ _ _ => rfl
  have nn : ∀ s, neD (.lst []) (.lst []) s = some (.bl false, s) := fun _ => rfl
  have il : ∀ (f : Ex) env s, iLst f env s = (f env s).bind lstI := fun _ _ _ => rfl
  obtain ⟨oa, wa, ga⟩ := ha.w
  obtain ⟨ob, wb, gb⟩ := hb.w
  show Rp (fn _ b__law_right _ _) _ _
  with_reducible refine fn_wp ?_
  unfold b__law_right
  with_reducible refine Fp.seq ?_
  simp only [wps, wpe, wpt, evs, evr, evd, evk, evl, evo, evi, evu, evn, if_true, true_implies, reduceCtorEq, false_implies, and_true, true_and, e0]
  with_reducible refine Nx.seq ?_
  simp only [wps, wpe, wpt, evs, evr, evd, evk, evl, evo, evi, evu, evn, if_true, true_implies, reduceCtorEq, false_implies, and_true, true_and, e2]
  with_reducible refine Nx.seq ?_
  simp only [wps, wpe, wpt, evs, evr, evd, evk, evl, evo, evi, evu, evn, if_true, true_implies, reduceCtorEq, false_implies, and_true, true_and, ha.len, (Lat.lst st zs).len, lz, ne, decide_true, Bool.not_true]
  with_reducible refine Nx.seq ?_
  simp only [wps, wpe, wpt, evs, evr, evd, evk, evl, evo, evi, evu, evn, if_true, true_implies, reduceCtorEq, false_implies, and_true, true_and, (Lat.lst st zs).len, rng2_ok st (show -(2 ^ 62) ≤ (1 : Int) ∧ (1 : Int) < 2 ^ 62 ∧ -(2 ^ 62) ≤ (zs.length : Int) ∧ (zs.length : Int) < 2 ^ 62 by omega), asc_ev hzs hr (by omega), nn]
  with_reducible refine Nx.seq ?_
  simp only [wps, wpe, wpt, evs, evr, evd, evk, evl, evo, evi, evu, evn, if_true, true_implies, reduceCtorEq, false_implies, and_true, true_and, il, wa st ga, cntc_ev ha hx hp lx ga, nn]
  with_reducible refine Nx.seq ?_
  simp only [wps, wpe, wpt, evs, evr, evd, evk, evl, evo, evi, evu, evn, if_true, true_implies, reduceCtorEq, false_implies, and_true, true_and, il, wa st ga, forF_all]
  with_reducible refine forG_wp (fun _ e s => (∃ l, s = st ++ l) ∧ ∃ o4 o5 o6 o7, e = [some a, some b, some (.str (txt8 f xs ys)), some (.lst zs), o4, o5, o6, o7]) (fun i e s hi => ?_) ⟨⟨[], (List.append_nil _).symm⟩, _, _, _, _, rfl⟩ ?_ ?_
  · obtain ⟨⟨l, rfl⟩, _⟩ := hi
    exact gd_app ga l
  · rintro i x e s hd ⟨⟨l, rfl⟩, o4, o5, o6, o7, rfl⟩
    have hX := hx x (List.mem_of_getElem? hd)
    refine ⟨_, _, rfl, ?_⟩
    with_reducible refine Fp.seq ?_
    simp only [wps, wpe, wpt, evs, evr, evd, evk, evl, evo, evi, evu, evn, if_true, true_implies, reduceCtorEq, false_implies, and_true, true_and, il, wb (st ++ l) (gd_app gb l), forF_all]
    with_reducible refine forG_wp (fun _ e s => (∃ l, s = st ++ l) ∧ ∃ o6 o7, e = [some a, some b, some (.str (txt8 f xs ys)), some (.lst zs), o4, some x, o6, o7]) (fun i e s hi => ?_) ⟨⟨l, rfl⟩, _, _, rfl⟩ ?_ ?_
    · obtain ⟨⟨l, rfl⟩, _⟩ := hi
      exact gd_app gb l
    · rintro j y e s hd2 ⟨⟨l, rfl⟩, o6, o7, rfl⟩
      have hX := hX.app l
      have hY := (hy y (List.mem_of_getElem? hd2)).app l
      refine ⟨_, _, rfl, ?_⟩
      generalize hs : st ++ l = s at hX hY
      have fY := fldF hY
      have kY := isF hY
      have kX := isF hX
      have t1 := turnF hX hY
      have gt : ∀ a b c : D, g_Task_turned_1_weight_wish [a] [b, c] = [a, b, c] := fun _ _ _ => rfl
      with_reducible refine Fp.seq ?_
      simp only [wps, wpe, wpt, evs, evr, evd, evk, evl, evo, evi, evu, evn, if_true, true_implies, reduceCtorEq, false_implies, and_true, true_and, eme, kY "weight" (by simp), kY "wish" (by simp), kX "turned" (by simp), fY.1, fY.2.1, fY.2.2.1, gt, t1]
      obtain ⟨pX, pY⟩ : Plan (f x).1 (f x).2.1 (f x).2.2 ∧ Plan (f y).1 (f y).2.1 (f y).2.2 := by
        obtain ⟨_, _, _, p1⟩ := hX
        obtain ⟨_, _, _, p2⟩ := hY
        exact ⟨p1, p2⟩
      obtain ⟨s1, hs1⟩ : ∃ s1, s1 = s ++ [task (S (f x).1) (f y).2.1 (f y).2.2] := ⟨_, rfl⟩
      obtain ⟨s2, hs2⟩ : ∃ s2, s2 = s1 ++ [task (S (f x).1) (f x).2.1 (f x).2.2] := ⟨_, rfl⟩
      rw [← hs1]
      have hX1 : TkF f s1 x := hs1 ▸ hX.app _
      have hY1 : TkF f s1 y := hs1 ▸ hY.app _
      have hX2 : TkF f s2 x := hs2 ▸ hX1.app _
      have hY2 : TkF f s2 y := hs2 ▸ hY1.app _
      have ht : s1[s.length]? = some (task (S (f x).1) (f y).2.1 (f y).2.2) := by rw [hs1]; exact last_at _ _
      have ht2 : s2[s.length]? = some (task (S (f x).1) (f y).2.1 (f y).2.2) := by rw [hs2]; exact old_at _ ht
      have hu2 : s2[s1.length]? = some (task (S (f x).1) (f x).2.1 (f x).2.2) := by rw [hs2]; exact last_at _ _
      have pl : Plan (f x).1 (f y).2.1 (f y).2.2 := ⟨pX.l1, pX.l6, pX.lc, pY.i, pY.j⟩
      have t2 : m_Task_turned [.ref s.length, .int (f x).2.1, .int (f x).2.2] s1 = .ok (.ref s1.length) (s1 ++ [task (S (f x).1) (f x).2.1 (f x).2.2]) := turned_t pl ht (.inr ⟨_, rfl, pX.i⟩) (.inr ⟨_, rfl, pX.j⟩)
      rw [← hs2] at t2
      have q1 : m_Task___eq__ [.ref s1.length, x] s2 = .ok (.bl true) s2 := by
        obtain ⟨k, z1, z2, z3⟩ := hX2
        generalize f x = p at z2 z3 hu2
        subst z1
        rw [eq_t (okS z3) (okS z3) hu2 z2, decide_eq_true ⟨rfl, rfl, rfl⟩]
      have q2 : m_Task___eq__ [.ref s.length, y] s2 = .ok (.bl (decide (S (f x).1 = S (f y).1))) s2 := by
        obtain ⟨k, z1, z2, z3⟩ := hY2
        generalize f y = p at z2 z3 ht2
        subst z1
        rw [eq_t (okS pX) (okS z3) ht2 z2]
        simp only [true_and]
      have q3 := key_ev ht2
      have q4 := isO ht2 "key" (by simp)
      have q5 := isO hu2 "__eq__" (by simp)
      have q6 := isO ht2 "__eq__" (by simp)
      have q7 := isO ht "turned" (by simp)
      have gX1 := fldF hX1
      have kX1 := isF hX1
      have gX2 := fldF hX2
      have kX2 := isF hX2
      have gY2 := fldF hY2
      have kY2 := isF hY2
      have eno : ∀ (f g : Ex) env st, eNeO "Task" m_Task___eq__ f g env st = (f env st).bind fun x s1 => (g env s1).bind fun y s2 => if isOf "Task" "__eq__" s2 x = true ∧ eqArg "Task" s2 y = true then notR (m_Task___eq__ [x, y] s2) else .stuck := fun _ _ _ _ => rfl
      have nr : ∀ b s, notR (.ok (.bl b) s) = .ok (.bl (!b)) s := fun _ _ => rfl
      have esl : ∀ f m env st, eSlT f oNone (oSome (eC (.int m))) env st = (f env st).bind fun x s => match slT x none (some m) s with | some d => .ok d s | none => .stuck := fun _ _ _ _ => rfl
      have sl : ∀ (i j : Int) (z : Str) s, slT (.tup [.int i, .int j, .str z]) none (some 2) s = some (.tup [.int i, .int j]) := fun _ _ _ _ => rfl
      have hq : ∀ (a b : Str) s, eqD (.str a) (.str b) s = some (.bl (decide (a = b)), s) := fun _ _ _ => rfl
      with_reducible refine Nx.seq ?_
      simp only [wps, wpe, wpt, evs, evr, evd, evk, evl, evo, evi, evu, evn, if_true, true_implies, reduceCtorEq, false_implies, and_true, true_and, eme, eno, q7, kX1 "weight" (by simp), kX1 "wish" (by simp), gX1.2.1, gX1.2.2.1, gt, t2, q5, gX2.2.2.2.2, and_self, q1, nr, Bool.not_true]
      with_reducible refine Nx.seq ?_
      simp only [wps, wpe, wpt, evs, evr, evd, evk, evl, evo, evi, evu, evn, if_true, true_implies, reduceCtorEq, false_implies, and_true, true_and, eme, esl, q4, q3, kY2 "key" (by simp), gY2.2.2.2.1, sl, neP, decide_true, Bool.and_self, Bool.not_true]
      with_reducible refine Nx.go ?_
      simp only [wps, wpe, wpt, evs, evr, evd, evk, evl, evo, evi, evu, evn, if_true, true_implies, reduceCtorEq, false_implies, and_true, true_and, eme, q6, gY2.2.2.2.2, and_self, q2, kX2 "name" (by simp), kY2 "name" (by simp), gX2.1, gY2.1, hq, neBl_same]
      exact ⟨⟨l ++ [task (S (f x).1) (f y).2.1 (f y).2.2] ++ [task (S (f x).1) (f x).2.1 (f x).2.2], by rw [hs2, hs1, ← hs]; simp only [List.append_assoc]⟩, _, _, rfl⟩
    · rintro e s ⟨⟨l, rfl⟩, o6, o7, rfl⟩
      simp only [wps, wpe, wpt, evs, evr, evd, evk, evl, evo, evi, evu, evn, if_true, true_implies, reduceCtorEq, false_implies, and_true, true_and]
      have hX := (hx x (List.mem_of_getElem? hd)).app l
      have hY : ∀ d ∈ ys, TkF f (st ++ l) d := fun d hd => (hy d hd).app l
      have i1 : ∀ r, eInA "Task" m_Task___eq__ (eVar 5) (eVar 1) (some a :: some b :: some (.str (txt8 f xs ys)) :: some (.lst zs) :: o4 :: some x :: r) (st ++ l) = .ok (.bl (ys.any fun d => decide (f d = f x))) (st ++ l) := fun r => in_ev rfl rfl (hb.app l) hX hY
      have nl : neLD (.lst (ys.filter fun d => decide (f d = f x))) (.lst []) (st ++ l) = some (.bl (ys.any fun d => decide (f d = f x)), st ++ l) := by
        show (if (ys.filter fun d => decide (f d = f x)).length = ([] : List D).length then neD _ _ _ else some (D.bl true, _)) = _
        cases hc : ys.filter fun d => decide (f d = f x) with
        | nil =>
          rw [if_pos rfl, nn]
          have : (ys.any fun d => decide (f d = f x)) = false := by
            rw [← Bool.not_eq_true, List.any_eq_true]
            rintro ⟨d, h1, h2⟩
            have := List.filter_eq_nil_iff.mp hc d h1
            exact this h2
          rw [this]
        | cons d r =>
          rw [if_neg (by simp)]
          have : (ys.any fun d => decide (f d = f x)) = true := by
            rw [List.any_eq_true]
            have hm : d ∈ ys.filter fun d => decide (f d = f x) := by rw [hc]; exact List.mem_cons_self
            have := List.mem_filter.mp hm
            exact ⟨d, this.1, this.2⟩
          rw [this]
      with_reducible refine Nx.go ?_
      simp only [wps, wpe, wpt, evs, evr, evd, evk, evl, evo, evi, evu, evn, if_true, true_implies, reduceCtorEq, false_implies, and_true, true_and, il, i1, wb (st ++ l) (gd_app gb l), samec_ev hX hY ly (gd_app gb l), nl, neBl_same]
      exact ⟨⟨l, rfl⟩, _, _, _, _, rfl⟩
  · rintro e s ⟨⟨l, rfl⟩, o4, o5, o6, o7, rfl⟩
    simp only [wps, wpe, wpt, evs, evr, evd, evk, evl, evo, evi, evu, evn, if_true, true_implies, reduceCtorEq, false_implies, and_true, true_and]
    with_reducible refine Nx.go ?_
    simp only [wps, wpe, wpt, evs, evr, evd, evk, evl, evo, evi, evu, evn, if_true, true_implies, reduceCtorEq, false_implies, and_true, true_and, e1, eqS_same]
    exact ⟨l, rfl⟩
end
/-! ### the law -/
def InsK (s s' : Store) : Prop := ∀ (k : Nat) (n : String) (fs : List (String × D)), s[k]? = some (.ins n fs) → s'[k]? = some (.ins n fs)
theorem InsK.trans {a b c : Store} (h : InsK a b) (g : InsK b c) : InsK a c := fun k n fs e => g k n fs (h k n fs e)
theorem InsK.app (s l : Store) : InsK s (s ++ l) := fun k n fs e => old_at l e
theorem InsK.psx {s s' : Store} {c : Nat} (hp : Pool s c) (h : Psx s c s') : InsK s s' := fun k n fs e => by
  obtain ⟨x, y, hp⟩ := hp
  have : k ≠ c := fun z => by rw [z, hp] at e; cases e
  rw [h.oth k this]
  exact e
theorem InsK.set {s : Store} {c : Nat} {ds es : List D} (h : s[c]? = some (.lst ds)) : InsK s (s.set c (.lst es)) := fun k n fs e => by
  have : k ≠ c := fun z => by rw [z, h] at e; cases e
  rw [List.getElem?_set_ne (fun z => this z.symm)]
  exact e
theorem TkA.ins {s s' : Store} {d : D} (h : InsK s s') (t : TkA s d) : TkA s' d := let ⟨k, a, i, j, h1, h2, h3⟩ := t; ⟨k, a, i, j, h1, h k _ _ h2, h3⟩
/-- a plan's own text -/
def nmL : List (List Nat) := [[97], [98], [97, 98], [122, 122, 122, 122, 122, 122]]
theorem nm_lits : Str.ofString "a" = S [97] ∧ Str.ofString "b" = S [98] ∧ Str.ofString "ab" = S [97, 98] ∧ Str.ofString "zzzzzz" = S [122, 122, 122, 122, 122, 122] := by decide +kernel
theorem nm_ok : ∀ a ∈ nmL, 1 ≤ a.length ∧ a.length ≤ 6 ∧ ∀ c ∈ a, c ∈ LC := by decide +kernel
theorem plan8 {a : List Nat} {i j : Int} (ha : a ∈ nmL) (hi : 1 ≤ i ∧ i ≤ 1000) (hj : 1 ≤ j ∧ j ≤ 1000) : Plan a i j := ⟨(nm_ok a ha).1, (nm_ok a ha).2.1, (nm_ok a ha).2.2, hi, hj⟩
theorem mk8 {a : List Nat} {i j : Int} (p : Plan a i j) (s : Store) (gD : List D → List D → List D) (ds es : List D) (hg : gD (.ref s.length :: ds) es = [.ref s.length, .str (S a), .int i, .int j]) : m_Task___init__ (gD (.ref s.length :: ds) es) (s ++ [.ins "Task" []]) = .ok .non (s ++ [task (S a) i j]) := by
  rw [hg]
  exact init_ok (kdw p.nm) p.nm (meas_mk p.i) (meas_mk p.j) s
theorem new8 {a : List Nat} {i j : Int} (p : Plan a i j) (s : Store) : TkA (s ++ [task (S a) i j]) (.ref s.length) := ⟨_, a, i, j, rfl, last_at _ _, p⟩
theorem right8 {st : Store} {a b : D} {xs ys : List D} (ha : Lat st a xs) (hb : Lat st b ys) (hz : st[0]? = some (.tab "_law_right")) (lx : xs.length ≤ 20) (ly : ys.length ≤ 20) (h : ∀ d ∈ xs ++ ys, TkA st d) : ∃ l, m__law_right [a, b] st = .ok (.bl true) (st ++ l) := by
  obtain ⟨f, hf⟩ := TkA.pick h
  exact right_ev ha hb hz lx ly hf
theorem law_true (ns : List Int) (h : ns.length ≤ 63) : ∃ st', m_law [.lst (ns.map D.int)] (tabs.map Cell.tab) = .ok (.bl true) st' := by
  suffices hs : Rp (m_law [.lst (ns.map D.int)] [.tab "_law_right"]) (fun d _ => d = .bl true) (fun _ _ _ => False) by
    show ∃ st', m_law [.lst (ns.map D.int)] [.tab "_law_right"] = .ok (.bl true) st'
    generalize m_law _ _ = r at hs ⊢
    obtain ⟨a, s, e, rfl⟩ := Rp.ex hs
    exact ⟨s, e⟩
  obtain ⟨z, hz, hz1⟩ := cells ns.length 16 (by omega)
  have emk : ∀ c m gD fa fk env st, eMake c m gD fa fk env st = (fa env st).bind fun ds s1 => (fk env s1).bind fun es s2 => mkD c m gD ds es s2 := fun _ _ _ _ _ _ _ => rfl
  obtain ⟨n1, n2, n3, n4⟩ := nm_lits
  show Rp (fn _ b_law _ _) _ _
  with_reducible refine fn_wp ?_
  unfold b_law
  with_reducible refine Fp.seq ?_
  simp only [wps, wpe, wpt, evs, evr, evd, evk, evl, evo, evi, evu, evn, if_true, true_implies, reduceCtorEq, false_implies, and_true, true_and, len_ints, hz, rng1_ok _ (show -(2 ^ 62) ≤ (z : Int) ∧ (z : Int) < 2 ^ 62 by omega), Int.toNat_natCast]
  with_reducible refine for_wp (fun _ e s => s[0]? = some (.tab "_law_right") ∧ ∃ o1 o2 o3 o4 o5 o6, e = [some (.lst (ns.map D.int)), o1, o2, o3, o4, o5, o6]) ?_ ?_ ?_
  · exact ⟨rfl, _, _, _, _, _, _, rfl⟩
  · rintro i d e st hd ⟨hz0, o1, o2, o3, o4, o5, o6, rfl⟩
    obtain ⟨hi, rfl⟩ := intsD_get hd
    refine ⟨_, _, rfl, ?_⟩
    obtain ⟨a, b, e1⟩ := pool_ev ns i st
    have e1' : m__law_pool [.lst (ns.map D.int), .int (0 + (i : Int))] st = .ok (.ref st.length) (st ++ [.lst [.int a, .int b]]) := by
      rw [Int.zero_add]; exact e1
    have l2 : 0 < st.length := (List.getElem?_eq_some_iff.mp hz0).1
    obtain ⟨P, hP⟩ : ∃ P, P = st.length := ⟨_, rfl⟩
    obtain ⟨s0, hs0⟩ : ∃ s0, s0 = st ++ [Cell.lst [.int a, .int b]] ++ [Cell.lst []] := ⟨_, rfl⟩
    have P0 : Pool s0 P := ⟨a, b, by rw [hs0, hP]; simp⟩
    have b0 : s0[P + 1]? = some (.lst []) := by
      rw [hs0, hP, List.getElem?_append_right (by simp)]; simp
    have z0 : s0[0]? = some (.tab "_law_right") := by
      rw [hs0, List.append_assoc, List.getElem?_append_left (by omega)]; exact hz0
    have Pp : 0 < P := by omega
    with_reducible refine Fp.seq ?_
    simp only [wps, wpe, wpt, evs, evr, evd, evk, evl, evo, evi, evu, evn, if_true, true_implies, reduceCtorEq, false_implies, and_true, true_and, e1']
    with_reducible refine Nx.seq ?_
    simp only [wps, wpe, wpt, evs, evr, evd, evk, evl, evo, evi, evu, evn, if_true, true_implies, reduceCtorEq, false_implies, and_true, true_and, List.length_append, List.length_cons, List.length_nil, Nat.zero_le, not_true_eq_false, Nat.zero_add]
    rw [← hP, ← hs0]
    clear hs0 e1 e1'
    obtain ⟨r, s1, e2, r0, r1, q1⟩ := take_ev P0 (n := 8) (by omega) (by decide)
    have z1 : s1[0]? = some (.tab "_law_right") := by rw [q1.oth 0 (by omega)]; exact z0
    have b1 : s1[P + 1]? = some (.lst []) := by rw [q1.oth (P + 1) (by omega)]; exact b0
    obtain ⟨m, rfl⟩ : ∃ m : Nat, r = (m : Int) := Int.eq_ofNat_of_zero_le r0
    with_reducible refine Nx.seq ?_
    simp only [wps, wpe, wpt, evs, evr, evd, evk, evl, evo, evi, evu, evn, if_true, true_implies, reduceCtorEq, false_implies, and_true, true_and, e2, rng1_ok _ (show -(2 ^ 62) ≤ (m : Int) ∧ (m : Int) < 2 ^ 62 by omega), Int.toNat_natCast]
    with_reducible refine for_wp (fun j e s => (∃ ds : List D, ds.length = j ∧ (∀ d ∈ ds, TkA s d) ∧ Pool s P ∧ s[P + 1]? = some (.lst ds) ∧ s[0]? = some (.tab "_law_right")) ∧ ∃ o4 o5 o6, e = [some (.lst (ns.map D.int)), some (.int (0 + (i : Int))), some (.ref P), some (.ref (P + 1)), o4, o5, o6]) ?_ ?_ ?_
    · exact ⟨⟨[], rfl, (fun _ h => by cases h), q1.pool, b1, z1⟩, _, _, _, rfl⟩
    · rintro j d e s hd ⟨⟨ds, hl, hds, hp, hb, hz'⟩, o4, o5, o6, rfl⟩
      obtain ⟨hj, rfl⟩ := intsD_get hd
      refine ⟨_, _, rfl, ?_⟩
      obtain ⟨r1', t1, f1, r10, r11, g1⟩ := take_ev hp (n := 4) (by omega) (by decide)
      obtain ⟨_, hx1, ⟨a1, ha1, rfl⟩⟩ := ix_all (P := fun d => ∃ a ∈ nmL, d = .str (S a)) (ds := [.str (S [97]), .str (S [98]), .str (S [97, 98]), .str (S [122, 122, 122, 122, 122, 122])]) (by
        intro d hd
        simp only [List.mem_cons, List.not_mem_nil, or_false] at hd
        rcases hd with rfl | rfl | rfl | rfl <;> exact ⟨_, by simp [nmL], rfl⟩) r10 r11
      with_reducible refine Fp.seq ?_
      simp only [wps, wpe, wpt, evs, evr, evd, evk, evl, evo, evi, evu, evn, if_true, true_implies, reduceCtorEq, false_implies, and_true, true_and, n1, n2, n3, n4, f1, ev_ixL, hx1, Option.map_some]
      obtain ⟨r2', t2, f2, r20, r21, g2⟩ := take_ev g1.pool (n := 3) (by omega) (by decide)
      obtain ⟨_, hx2, ⟨w2, rfl, hw2⟩⟩ := ix_all (P := fun d => ∃ i, d = .int i ∧ 1 ≤ i ∧ i ≤ 1000) (ds := [.int 1, .int 2, .int 1000]) (by
        intro d hd
        simp only [List.mem_cons, List.not_mem_nil, or_false] at hd
        rcases hd with rfl | rfl | rfl <;> exact ⟨_, rfl, by omega, by omega⟩) r20 r21
      obtain ⟨r3', t3, f3, r30, r31, g3⟩ := take_ev g2.pool (n := 3) (by omega) (by decide)
      have pl : Plan a1 w2 (1 + r3') := plan8 ha1 hw2 ⟨by omega, by omega⟩
      have bt1 : t1[P + 1]? = some (.lst ds) := by rw [g1.oth (P + 1) (by omega)]; exact hb
      have bt3 : t3[P + 1]? = some (.lst ds) := by rw [g3.oth (P + 1) (by omega), g2.oth (P + 1) (by omega)]; exact bt1
      have zt3 : t3[0]? = some (.tab "_law_right") := by rw [g3.oth 0 (by omega), g2.oth 0 (by omega), g1.oth 0 (by omega)]; exact hz'
      have hmk := mk8 pl t3 g_Task___init___2_weight_wish [.str (S a1)] [.int w2, .int (1 + r3')] rfl
      have hbm : (bmTy t1 (.ref (P + 1)) = some .lst) = True := eq_true (by simp only [bmTy, bt1])
      obtain ⟨t4, ht4⟩ : ∃ t4, t4 = t3 ++ [task (S a1) w2 (1 + r3')] := ⟨_, rfl⟩
      rw [← ht4] at hmk
      have bt4 : t4[P + 1]? = some (.lst ds) := by rw [ht4]; exact old_at _ bt3
      have hdl : ds.length < 100000 := by
        have := hl
        omega
      have hap : appD (.ref (P + 1)) [.ref t3.length] t4 = some (.non, t4.set (P + 1) (.lst (ds ++ [.ref t3.length]))) := by
        simp only [appD, bt4]
        rw [if_pos hdl]
      with_reducible refine Nx.go ?_
      simp only [wps, wpe, wpt, evs, evr, evd, evk, evl, evo, evi, evu, evn, if_true, true_implies, reduceCtorEq, false_implies, and_true, true_and, emk, hbm, f2, f3, ev_ixL, hx2, Option.map_some, hmk, hap]
      have k4 : InsK s t4 := (InsK.psx hp g1).trans ((InsK.psx g1.pool g2).trans ((InsK.psx g2.pool g3).trans (by rw [ht4]; exact InsK.app _ _)))
      have k5 : InsK t4 (t4.set (P + 1) (.lst (ds ++ [.ref t3.length]))) := InsK.set bt4
      have l4 : P + 1 < t4.length := (List.getElem?_eq_some_iff.mp bt4).1
      refine ⟨⟨ds ++ [.ref t3.length], by rw [List.length_append, hl]; rfl, fun d hd => ?_, ?_, List.getElem?_set_self l4, ?_⟩, _, _, _, rfl⟩
      · rcases List.mem_append.mp hd with h1 | h1
        · exact TkA.ins (k4.trans k5) (hds d h1)
        · rw [List.mem_singleton] at h1
          subst h1
          refine TkA.ins k5 ?_
          rw [ht4]
          exact new8 pl t3
      · obtain ⟨x, y, hq⟩ := g3.pool.app [task (S a1) w2 (1 + r3')]
        refine ⟨x, y, ?_⟩
        rw [List.getElem?_set_ne (by omega), ht4]
        exact hq
      · rw [List.getElem?_set_ne (by omega), ht4]
        exact old_at _ zt3
    · rintro e s ⟨⟨ds, hl, hds, hp, hb, hz'⟩, o4, o5, o6, rfl⟩
      simp only [wps, wpe, wpt, evs, evr, evd, evk, evl, evo, evi, evu, evn, if_true, true_implies, reduceCtorEq, false_implies, and_true, true_and]
      have hm8 : ds.length < 8 := by
        rw [hl]
        have : (intsD 0 m).length = m := by simp [intsD]
        omega
      have cut_mem : ∀ (lo hi : Option Int), ∀ d ∈ cutD ds lo hi, d ∈ ds := fun lo hi d hd => List.mem_of_mem_drop (List.mem_of_mem_take hd)
      have cut_len : ∀ (lo hi : Option Int), (cutD ds lo hi).length ≤ ds.length := fun lo hi => by
        show (List.take _ (List.drop _ ds)).length ≤ _
        rw [List.length_take, List.length_drop]
        omega
      have esl : ∀ (f : Ex) (g : Ex) env st, eSl f oNone (oSome g) env st = (f env st).bind fun x s => (oSome g env s).bind fun hi s3 => match slD x none hi s3 with | some d => .ok d s3 | none => .stuck := fun _ _ _ _ => rfl
      have eos : ∀ (f : Ex) env st, oSome f env st = (f env st).bind fun d s => match d with | .int i => .ok (some i) s | _ => .stuck := fun _ _ _ => rfl
      have sld : ∀ (hi : Option Int) (s : Store), s[P + 1]? = some (.lst ds) → slD (.ref (P + 1)) none hi s = some (.lst (cutD ds none hi)) := fun hi s hs => by
        show (listD s (.ref (P + 1))).map _ = _
        rw [(Lat.ref hs).l]
        rfl
      obtain ⟨r1', t1, f1, r10, r11, g1⟩ := take_ev hp (n := 4) (by omega) (by decide)
      have bt1 : t1[P + 1]? = some (.lst ds) := by rw [g1.oth (P + 1) (by omega)]; exact hb
      have p1 : Plan [98] 100 4 := plan8 (by simp [nmL]) (by omega) (by omega)
      have m1 := mk8 p1 t1 g_Task___init___2 [.str (S [98])] [] rfl
      have P2 : Pool (t1 ++ [task (S [98]) 100 4]) P := g1.pool.app _
      obtain ⟨t2, ht2⟩ : ∃ t2, t2 = t1 ++ [task (S [98]) 100 4] := ⟨_, rfl⟩
      rw [← ht2] at m1 P2
      obtain ⟨r3', t3, f3, r30, r31, g3⟩ := take_ev P2 (n := 1000) (by omega) (by decide)
      have p2 : Plan [97, 98] (1 + r3') 4 := plan8 (by simp [nmL]) (by omega) (by omega)
      have m2 := mk8 p2 t3 g_Task___init___2_weight [.str (S [97, 98])] [.int (1 + r3')] rfl
      obtain ⟨t4, ht4⟩ : ∃ t4, t4 = t3 ++ [task (S [97, 98]) (1 + r3') 4] := ⟨_, rfl⟩
      rw [← ht4] at m2
      have k1 : InsK s t1 := InsK.psx hp g1
      have k2 : InsK t1 t2 := by rw [ht2]; exact InsK.app _ _
      have k3 : InsK t2 t3 := InsK.psx P2 g3
      have k4 : InsK t3 t4 := by rw [ht4]; exact InsK.app _ _
      have bt2 : t2[P + 1]? = some (.lst ds) := by rw [ht2]; exact old_at _ bt1
      have bt4 : t4[P + 1]? = some (.lst ds) := by
        rw [ht4]
        refine old_at _ ?_
        rw [g3.oth (P + 1) (by omega)]
        exact bt2
      have zt4 : t4[0]? = some (.tab "_law_right") := by
        rw [ht4]
        refine old_at _ ?_
        rw [g3.oth 0 (by omega), ht2]
        refine old_at _ ?_
        rw [g1.oth 0 (by omega)]
        exact hz'
      have T1 : ∀ d ∈ ds, TkA t4 d := fun d hd => TkA.ins (k1.trans (k2.trans (k3.trans k4))) (hds d hd)
      have T2 : TkA t4 (.ref t1.length) := TkA.ins (k3.trans k4) (by rw [ht2]; exact new8 p1 t1)
      have T3 : TkA t4 (.ref t3.length) := by rw [ht4]; exact new8 p2 t3
      have al : ∀ (a b : List D) s, a.length + b.length ≤ 100 → addD (.lst a) (.lst b) s = some (.lst (a ++ b), s) := fun a b s h => if_pos (by omega)
      have ad : ∀ (b : List D), b.length ≤ 50 → addD (.ref (P + 1)) (.lst b) t4 = some (.lst (ds ++ b), t4) := fun b hb => by
        have h1 := (Lat.ref bt4).l
        show (match listD t4 (.ref (P + 1)), listD t4 (.lst b) with | some xs, some ys => if xs.length + ys.length ≤ 100000 then some (D.lst (xs ++ ys), t4) else none | _, _ => none) = _
        rw [h1]
        exact if_pos (by omega)
      have lc := cut_len none (some r1')
      have lc1 := cut_len none (some 1)
      have Ts : ∀ d ∈ cutD ds none (some r1') ++ [.ref t1.length, .ref t3.length], TkA t4 d := fun d hd => by
        rcases List.mem_append.mp hd with h1 | h1
        · exact T1 d (cut_mem _ _ d h1)
        · simp only [List.mem_cons, List.not_mem_nil, or_false] at h1
          rcases h1 with rfl | rfl
          · exact T2
          · exact T3
      with_reducible refine Nx.seq ?_
      simp only [wps, wpe, wpt, evs, evr, evd, evk, evl, evo, evi, evu, evn, if_true, true_implies, reduceCtorEq, false_implies, and_true, true_and, emk, n2, n3, esl, eos, f1, sld _ t1 bt1, m1, f3, m2, al _ _ _ (show (cutD ds none (some r1')).length + [D.ref t1.length, D.ref t3.length].length ≤ 100 by simp only [List.length_cons, List.length_nil]; omega)]
      obtain ⟨so, hso⟩ : ∃ so, so = cutD ds none (some r1') ++ [D.ref t1.length, .ref t3.length] := ⟨_, rfl⟩
      rw [← hso] at Ts ⊢
      have lso : so.length ≤ 9 := by rw [hso, List.length_append]; simp only [List.length_cons, List.length_nil]; omega
      obtain ⟨l1, R1⟩ := right8 (Lat.lst t4 (ds ++ cutD ds none (some 1))) (Lat.lst t4 so) zt4 (by rw [List.length_append]; omega) (by omega) fun d hd => by
        rcases List.mem_append.mp hd with h1 | h1
        · rcases List.mem_append.mp h1 with h1 | h1
          · exact T1 d h1
          · exact T1 d (cut_mem _ _ d h1)
        · exact Ts d h1
      obtain ⟨l2, R2⟩ := right8 (st := t4 ++ l1) (Lat.lst (t4 ++ l1) so) (Lat.ref (old_at l1 bt4)) (old_at l1 zt4) (by omega) (by omega) fun d hd => by
        rcases List.mem_append.mp hd with h1 | h1
        · exact (Ts d h1).app l1
        · exact (T1 d h1).app l1
      with_reducible refine Nx.go ?_
      simp only [wps, wpe, wpt, evs, evr, evd, evk, evl, evo, evi, evu, evn, if_true, true_implies, reduceCtorEq, false_implies, and_true, true_and, esl, eos, sld _ t4 bt4, ad _ (show (cutD ds none (some 1)).length ≤ 50 by omega), R1, R2, Bool.not_true]
      exact ⟨old_at l2 (old_at l1 zt4), _, _, _, _, _, _, rfl⟩
  · rintro e s ⟨hz0, o1, o2, o3, o4, o5, o6, rfl⟩
    simp only [wps, wpe, wpt, evs, evr, evd, evk, evl, evo, evi, evu, evn, if_true, true_implies, reduceCtorEq, false_implies, and_true, true_and]
    with_reducible refine Nx.go ?_
    simp only [wps, wpe, wpt, evs, evr, evd, evk, evl, evo, evi, evu, evn, if_true, true_implies, reduceCtorEq, false_implies, and_true, true_and]
end K08

open PySem PySem.W PySem.Calls PyProof.Rows
theorem PySem.Challenge.cw_virtualturns_k08_whole_tasks_in_order_holds : PySem.Challenge.rw_virtualturns_k08_whole_tasks_in_order.Holds := by
  w_on; o_law
  refine HandSHeadRun.head_any (r := OpenLaw.row PySem.Challenge.rw_virtualturns_k08_whole_tasks_in_order) (q := view (OpenLaw.row PySem.Challenge.rw_virtualturns_k08_whole_tasks_in_order).prog [24]) (H := K08.hk) (ob := K08.ob) (M := 20000) (loose := K08.looses) (d := HandSHeadRun.topDef (OpenLaw.row PySem.Challenge.rw_virtualturns_k08_whole_tasks_in_order).prog 24) (kwd := []) K08.ob_eq
    (by kernel_rfl) (fun s => by kernel_rfl) K08.run (by kernel_rfl) (by kernel_rfl) (by kernel_rfl) (by rfl) (by first | assumption | decide +kernel) (by decide +kernel) ⟨rfl, rfl, rfl, rfl, rfl, by decide +kernel⟩ ?hw ?hc
  case hw => w_witness2
  case hc =>
    refine F3.walk_FT (tf := K08.tabs) (l := PySem.Challenge.rw_virtualturns_k08_whole_tasks_in_order) (n := 63) (k := 8) (x := "_law_script") rfl (by decide) (by kernel_rfl) ⟨rfl, by decide, by decide⟩ ?F
    intro w mg fa h Y G hmg0
    obtain ⟨K, KX, c⟩ := Y
    have hmg : mg ("law" : PySem.Str) = some (.ref fa) := by
      have e : (HandSHeadRun.topDef (OpenLaw.row PySem.Challenge.rw_virtualturns_k08_whole_tasks_in_order).prog 24).name = ("law" : PySem.Str) := by kernel_rfl
      rw [← e]
      exact hmg0
    obtain ⟨fd, hb, hF⟩ := K08.facts (P := (PySem.Challenge.rw_virtualturns_k08_whole_tasks_in_order).prog) (w := w) KX G hmg c.y
    exact ⟨K, fd, _, K08.m_law, KX, hb, K08.law_true, c.hd, c.out, c.empty, c.nd, hF⟩
