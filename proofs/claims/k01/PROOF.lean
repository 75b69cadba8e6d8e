import PyProof.Rows.All
import HandS.ForMost
import HandS.Exc
import HandS.WordsExc
import KE.KDictKeyed
import KE.KeyNested
import HandS.Lambda
import HandS.ExcInit
import HandS.Deep
import HandS.Style
import HandS.TupAny
import HandS.Wide
import KE.SortData
import HandS.Text
import HandS.NoneIn
import HandS.Iter
import HandS.Zip
import HandS.IsInst
import HandS.Conv
import HandS.Defaults
import HandS.Words
import KE.KExcIs
import HandS.More
import HandS.WideBits
import HandS.Dict
import KE.KDictWalk
import HandS.DictComp
import HandS.TupLen
import KE.KDictDisplayH
import KE.KDictSum
import HandS.ExcValue
import HandS.Star
import KE.KMinKey
import HandS.SortKw
import HandS.CallLocal
import KE.KExcSuper
import KE.KExcPX
import HandS.Ends
import HandS.HeadEnd
import HandS.HeadHook4
import HandS.HeadHook1
import PyProof.RowDictHeap
import PyProof.ReprRoads
import PyProof.CallFns
import HandS.HeadHook2
import HandS.Head0
import HandS.Head1
import HandS.Head2
import HandS.HeadHook3
import KE.KStateDown
import PyProof.ReprLen
import PyProof.Rows.ReprOcc
import PySem.Challenge.RW_kindshifts_k01_errors_made
set_option Elab.async false
set_option linter.all false
set_option maxRecDepth 100000
set_option maxHeartbeats 4000000
set_option maxHeartbeats 0
namespace PySem
namespace XSup
open PySem.W PySem.Calls PyProof.Rows PySem.HandSPX
def iS : Scope := { kind := .function, names := [(PySem.Str.ofString "self", .local), (PySem.Str.ofString "value", .local), (PySem.Str.ofString "__class__", .free), (PySem.Str.ofString "super", .globalImplicit)], isGenerator := false, isCoroutine := false, more := [] }
end XSup
end PySem
namespace PD
open PySem PySem.Spec PyProof.Rows L2
def exkB (K : PySem.W.Frag) (C : Addr) : Bool := (PySem.W.clsIn K C).isSome && (decide (PySem.W.findIn K (.ref C) "__getattribute__" = some (some (.builtin "BaseException.__getattribute__"))) && (decide (PySem.W.findIn K (.ref C) "__getattr__" = some none) &&
  (decide (PySem.W.subIn K (.ref C) (.type "BaseException") = some true) && (decide (PySem.W.findIn K (.ref C) "__class__" = some (some (.builtin "object.__class__"))) && (decide (PySem.W.specialIn K (.builtin "object.__class__") "__get__" = some (some (.builtin "getset_descriptor.__get__"))) &&
  (decide (PySem.W.takesIn K (.builtin "object.__class__") = some true) && decide (PySem.W.mroIn K C (.type "object") = some true)))))))
end PD
namespace PD
open PySem PySem.Spec PyProof.Rows L2
def ctxB (K : PySem.W.Frag) (bs : List Str) : Bool := (bs.all fun a => exkB K (He.ga K a)) && ((bs.all fun a => decide (PySem.W.kitOne K (.ref (He.ga K a)) (.type "ValueError") = some true)) &&
  bs.all fun a => bs.all fun b => decide (PySem.W.kitOne K (.ref (He.ga K a)) (.ref (He.ga K b)) = some (a == b || b == "KindError")))
end PD
namespace PD
open PySem PySem.Spec PyProof.Rows L2
open PySem.XSup
def clsB (K : PySem.W.Frag) (C : Addr) : Bool := match K.lookup C with
  | some ⟨.type "type", _, .cls cd, sl⟩ => (match cd.mro, sl.toList with
    | .ref C' :: bm, [_, _, _, _, some (.builtin n), _] => decide (C' = C) && (decide (n = "ValueError.__new__") && (cd.hasDict && (!cd.hasDel && HandSPX.refsVE bm)))
    | _, _ => false)
  | _ => false
end PD
namespace PD
open PySem PySem.Spec PyProof.Rows L2
open PySem.XSup
def argsB (a : Arguments) : Option (Pos × Pos × Pos) := match a with
  | ⟨[], [⟨x, none, p1⟩, ⟨y, none, p2⟩], none, [], [], none, [.Constant .none 0 p3]⟩ => if x = "self" ∧ y = "value" then some (p1, p2, p3) else none
  | _ => none
end PD
namespace PD
open PySem PySem.Spec PyProof.Rows L2
open PySem.XSup
def bodyB (b : FuncBody) : Bool := match b with
  | .stmts [.Expr (.Call (.Attribute (.Call (.Name s _) [] [] _) i q2) [] [] q3) _, .Assign [.Attribute (.Name se _) v _] (.Name v2 _) _] => decide (s = "super") && (decide (i = "__init__") && (decide (se = "self") && (decide (v = "value") && (decide (v2 = "value") && (q2.endLine == q3.line)))))
  | _ => false
end PD
namespace PD
open PySem PySem.Spec PyProof.Rows L2
open PySem.XSup
def fnB (file : Str) (K : PySem.W.Frag) (C fI : Addr) : Bool := match K.lookup fI with
  | some ⟨_, _, .func ⟨nm, q, ar, bd, sc, gl, [(cn, cc)], .ref dT, _, _, _, _, .ref cda, _, bl⟩, _⟩ =>
    decide (nm = "__init__") && ((argsB ar).isSome && (bodyB bd && (decide (sc = iS) && (decide (gl = mainGlobals) && (decide (cn = "__class__") && (decide (bl = builtinsNs) && (PySem.W.codeIn K (.ref cda) q &&
    ((match K.lookup cda with
      | some ⟨_, _, .fields vs, _⟩ => (match (vs[2]? : Option Value) with
        | some (.str f _) => file == f
        | _ => false)
      | _ => false) &&
    ((match K.lookup dT with
      | some ⟨_, _, .seq its _, _⟩ => (match its.toList with
        | [.none] => true
        | _ => false)
      | _ => false) &&
    (match K.lookup cc with
      | some ⟨_, _, .cell (some (.ref D)), _⟩ => decide (D = C)
      | _ => false))))))))))
  | _ => false
end PD
namespace PD
open PySem PySem.Spec PyProof.Rows L2
open PySem.XSup
def invB (P : Program) (K : PySem.W.Frag) (x : Str) : Bool := He.eqO (PySem.W.nsIn K mainGlobals x) (some (some (.ref (He.ga K x)))) && (clsB K (He.ga K x) && (He.eqO (PySem.W.findIn K (.ref (He.ga K x)) "__setattr__") (some (some (.builtin "object.__setattr__"))) &&
  (He.eqO (PySem.W.findIn K (.ref (He.ga K x)) "__getattribute__") (some (some (.builtin "BaseException.__getattribute__"))) && (He.eqO (PySem.W.findIn K (.ref (He.ga K x)) "__getattr__") (some none) && (He.eqO (PySem.W.findIn K (.ref (He.ga K x)) "value") (some none) &&
  (He.eqO (PySem.W.findIn K (.ref (He.ga K x)) "__init__") (some (some (.ref (He.ma K (He.ga K x) "__init__")))) && (decide (PySem.W.typeIn K (.ref (He.ma K (He.ga K x) "__init__")) = some (.type "function")) && (PySem.W.keepIn K (.ref (He.ga K x)) &&
  (decide (PySem.W.subIn K (.ref (He.ga K x)) (.type "BaseException") = some true) && (decide (PySem.W.subIn K (.ref (He.ga K x)) (.type "ValueError") = some true) && (decide (PySem.W.typeIn K (.ref (He.ga K x)) = some (.type "type")) && (PySem.W.hasDictIn K (He.ga K x) &&
  (decide (PySem.W.ks_superIn K (He.ga K x) (He.ga K x) "__init__" = some (some (.builtin "ValueError.__init__"))) && (decide (PySem.W.mroIn K (He.ga K x) (.ref (He.ga K x)) = some true) && fnB P.main.file K (He.ga K x) (He.ma K (He.ga K x) "__init__")))))))))))))))
end PD
namespace PD
open PySem PySem.Spec PyProof.Rows L2
open PySem.XSup
def exnB (K : PySem.W.Frag) (x : Str) : Bool := He.eqO (PySem.W.nsIn K mainGlobals x) (some (some (.ref (He.ga K x)))) && (PySem.W.excInitIn K (He.ga K x) [.type "ValueError", .type "Exception", .type "BaseException", .type "object"] "ValueError.__new__" &&
  (He.eqO (PySem.W.findIn K (.ref (He.ga K x)) "__init__") (some (some (.builtin "ValueError.__init__"))) && PySem.W.keepIn K (.ref (He.ga K x))))
end PD
namespace PD
open PySem PySem.Spec PyProof.Rows L2
open PySem.XSup
def othB (P : Program) (vs ns : List Str) (K : PySem.W.Frag) : Bool := He.eqO (PySem.W.nsIn K mainGlobals "super") (some none) && (He.eqO (PySem.W.nsIn K cStatics "thirdparty.any") (some none) && ((vs.all fun x => invB P K x) && ((ns.all fun x => exnB K x) && (ctxB K (vs ++ ns) && (K.lookup sysModules).isSome))))
end PD
namespace PD
open PySem PySem.Spec PyProof.Rows L2
open PySem.XSup
def asY (g : Addr → Option Obj) (n : Nat) : List Addr := sysModules :: cStatics :: He.asD g n
end PD
namespace PD
open PySem PySem.Spec PyProof.Rows L2
open PySem.XSup
structure SaysY (fa : List He.Fa) (fn : List He.DefD) (ex : PySem.W.Frag → Bool) (K : PySem.W.Frag) : Prop where
  d : He.SaysD fa fn K
  more : ex K = true
end PD
namespace PD
open PySem PySem.Spec PyProof.Rows L2
open PySem.XSup
def obsY (n : Nat) (fa : List He.Fa) (fn : List He.DefD) (ex : PySem.W.Frag → Bool) (g : Addr → Option Obj) : He.AlD × Bool := (He.obsD fa fn (He.frG g (asY g n)), ex (He.frG g (asY g n)))
end PD
namespace PD
open PySem PySem.Spec PyProof.Rows L2
open PySem.XSup
def hookY (n : Nat) (fa : List He.Fa) (fn : List He.DefD) (ex : PySem.W.Frag → Bool) : PySem.W.Hook where
  α := He.AlD × Bool
  obs := fun s => obsY n fa fn ex s.heap.get?
  val := fun _ => (He.valD fn, true)
  says := fun _ h => ∃ K : PySem.W.Frag, K.In h ∧ SaysY fa fn ex K
  of := fun _ s e => ⟨He.frG s.heap.get? (asY s.heap.get? n), He.frG_in, (Prod.mk.inj e).1, (Prod.mk.inj e).2⟩
  keeps := fun _ _ _ ⟨K, hK, c⟩ k => ⟨K, PySem.W.Frag.In.keeps hK k, c⟩
end PD
namespace PD
open PySem PySem.Spec PyProof.Rows L2
open PySem.XSup
theorem obsY_eq {n : Nat} {fa : List He.Fa} {fn : List He.DefD} {ex : PySem.W.Frag → Bool} {g : Addr → Option Obj} {s : Shared} (h : ∀ a, g a = s.heap.get? a) : obsY n fa fn ex g = (hookY n fa fn ex).obs s := by
  have e : g = s.heap.get? := funext h
  rw [e] <;> rfl
end PD
namespace K01
open PySem PySem.Spec PyProof.Rows L2 PD
def top (i : Nat) : Stmt := PySem.Challenge.pw_kindshifts_k01_errors_made.main.body.getD i (.Pass ⟨0, 0, 0, 0⟩)
end K01
namespace K01
open PySem PySem.Spec PyProof.Rows L2 PD
def exVs : List Str := (["InvalidKind", "InvalidTable", "InvalidKinds", "InvalidMap", "InvalidRow", "InvalidGrouping", "InvalidBlock", "InvalidTriples", "InvalidRule", "InvalidDeed", "InvalidChain", "InvalidArrows", "InvalidLayers", "InvalidComb", "InvalidNumbers", "InvalidWord"] : List Str) ++ (["InvalidFour", "InvalidCount", "InvalidPlaces", "InvalidBonds", "InvalidChange", "InvalidChanges", "InvalidShelf", "InvalidSpot", "InvalidScript", "InvalidText", "InvalidLog", "Unlike", "Unsettled", "Apart", "Refused"] : List Str)
end K01
namespace K01
open PySem PySem.Spec PyProof.Rows L2 PD
def exNs : List Str := ["NothingToUndo", "NothingToRedo", "KindError"]
end K01
namespace K01
open PySem PySem.Spec PyProof.Rows L2 PD
def d36 : He.DefD := ⟨("_law_purse", none), "_law_purse", "_law_purse", defArgs (top 36), defBody (top 36), defScope (top 36), [], []⟩
end K01
namespace K01
open PySem PySem.Spec PyProof.Rows L2 PD
def d37 : He.DefD := ⟨("_law_mixed", none), "_law_mixed", "_law_mixed", defArgs (top 37), defBody (top 37), defScope (top 37), [], []⟩
end K01
namespace K01
open PySem PySem.Spec PyProof.Rows L2 PD
def d38 : He.DefD := ⟨("_law_draw", none), "_law_draw", "_law_draw", defArgs (top 38), defBody (top 38), defScope (top 38), [], []⟩
end K01
namespace K01
open PySem PySem.Spec PyProof.Rows L2 PD
def d39 : He.DefD := ⟨("_law_purses", none), "_law_purses", "_law_purses", defArgs (top 39), defBody (top 39), defScope (top 39), [], []⟩
end K01
namespace K01
open PySem PySem.Spec PyProof.Rows L2 PD
def d40 : He.DefD := ⟨("_law_one_of", none), "_law_one_of", "_law_one_of", defArgs (top 40), defBody (top 40), defScope (top 40), [], []⟩
end K01
namespace K01
open PySem PySem.Spec PyProof.Rows L2 PD
def d41 : He.DefD := ⟨("_law_word", none), "_law_word", "_law_word", defArgs (top 41), defBody (top 41), defScope (top 41), [], []⟩
end K01
namespace K01
open PySem PySem.Spec PyProof.Rows L2 PD
def d42 : He.DefD := ⟨("_law_first", none), "_law_first", "_law_first", defArgs (top 42), defBody (top 42), defScope (top 42), [], []⟩
end K01
namespace K01
open PySem PySem.Spec PyProof.Rows L2 PD
def d43 : He.DefD := ⟨("_law_called", none), "_law_called", "_law_called", defArgs (top 43), defBody (top 43), defScope (top 43), [], []⟩
end K01
namespace K01
open PySem PySem.Spec PyProof.Rows L2 PD
def d44 : He.DefD := ⟨("_law_bare", none), "_law_bare", "_law_bare", defArgs (top 44), defBody (top 44), defScope (top 44), [], []⟩
end K01
namespace K01
open PySem PySem.Spec PyProof.Rows L2 PD
def d45 : He.DefD := ⟨("_law_code", none), "_law_code", "_law_code", defArgs (top 45), defBody (top 45), defScope (top 45), [], []⟩
end K01
namespace K01
open PySem PySem.Spec PyProof.Rows L2 PD
def d46 : He.DefD := ⟨("_law_is_error", none), "_law_is_error", "_law_is_error", defArgs (top 46), defBody (top 46), defScope (top 46), [], []⟩
end K01
namespace K01
open PySem PySem.Spec PyProof.Rows L2 PD
def d47 : He.DefD := ⟨("_law_right", none), "_law_right", "_law_right", defArgs (top 47), defBody (top 47), defScope (top 47), [], []⟩
end K01
namespace K01
open PySem PySem.Spec PyProof.Rows L2 PD
def d48 : He.DefD := ⟨("law", none), "law", "law", defArgs (top 48), defBody (top 48), defScope (top 48), [], []⟩
end K01
namespace K01
open PySem PySem.Spec PyProof.Rows L2 PD
def fn : List He.DefD := [d36, d37, d38, d39, d40, d41, d42, d43, d44, d45, d46, d47, d48]
end K01
namespace K01
open PySem PySem.Spec PyProof.Rows L2 PD
def fa : List He.Fa := [.glo "_law_purse", .glo "_law_mixed", .glo "_law_draw", .glo "_law_purses", .glo "_law_one_of", .glo "_law_word", .glo "_law_first", .glo "_law_called", .glo "_law_bare", .glo "_law_code", .glo "_law_is_error", .glo "_law_right", .glo "law", .free "ValueError", .free "all", .free "dict", .free "int", .free "isinstance", .free "len", .free "list", .free "max", .free "min", .free "range", .free "repr", .free "sum", .free "tuple"]
end K01
namespace K01
open PySem PySem.Spec PyProof.Rows L2 PD
def loose0 : List Str := ["KindError", "InvalidKind", "InvalidTable", "InvalidKinds", "InvalidMap", "InvalidRow", "InvalidGrouping", "InvalidBlock", "InvalidTriples", "InvalidRule", "InvalidDeed", "InvalidChain", "InvalidArrows", "InvalidLayers", "InvalidComb", "InvalidNumbers", "InvalidWord", "InvalidFour", "InvalidCount", "InvalidPlaces", "InvalidBonds", "InvalidChange", "InvalidChanges", "InvalidShelf", "InvalidSpot", "InvalidScript", "InvalidText", "InvalidLog", "Unlike", "Unsettled"]
end K01
namespace K01
open PySem PySem.Spec PyProof.Rows L2 PD
def loose1 : List Str := ["Apart", "Refused", "NothingToUndo", "NothingToRedo", "_law_purse", "_law_mixed", "_law_draw", "_law_purses", "_law_one_of", "_law_word", "_law_first", "_law_called", "_law_bare", "_law_code", "_law_is_error", "_law_right"]
end K01
namespace K01
open PySem PySem.Spec PyProof.Rows L2 PD
abbrev loose : List Str := loose0 ++ loose1
end K01
namespace K01
open PySem PySem.Spec PyProof.Rows L2 PD
abbrev RR : PySem.W.OpenRow := PySem.W.OpenLaw.row PySem.Challenge.rw_kindshifts_k01_errors_made
end K01
namespace K01
open PySem PySem.Spec PyProof.Rows L2 PD
def ex (K : PySem.W.Frag) : Bool := othB PySem.Challenge.rw_kindshifts_k01_errors_made.prog exVs exNs K
end K01
namespace K01
open PySem PySem.Spec PyProof.Rows L2 PD
abbrev hk : PySem.W.Hook := hookY 5 fa fn ex
end K01
namespace K01
open PySem PySem.Spec PyProof.Rows L2 PD
def ob (s : PySem.W.SharedT) : He.AlD × Bool := obsY 5 fa fn ex (HandSHeadRun.getT s)
end K01
namespace K01
open PySem PySem.Spec PyProof.Rows L2 PD
theorem ob_eq (s : PySem.W.SharedT) : ob s = hk.obs s.abs := obsY_eq (HandSHeadRun.getT_eq s)
end K01
namespace K01
open PySem PySem.Spec PyProof.Rows L2 PD
theorem run (w : World) : HandSHeadRun.RunEq RR (PySem.W.view RR.prog [48]) hk ob 12000 loose w := by
  intro os
  kernel_rfl
end K01
set_option maxHeartbeats 4000000
namespace PD
open PySem PySem.Spec PyProof.Rows L2

inductive Vl where
  | non | bl (b : Bool) | int (i : Int) | str (x : Str)
  | tup (vs : List Vl) | klst (vs : List Vl)
  | rng (lo hi : Int) | ref (n : Nat) | fn (c : Str)
  deriving Inhabited
inductive Ob where
  | lst (vs : List Vl) | dic (ks vs : List Vl) | lck (ks vs : List Vl) | ins (c : Str) (fs : List (Str × Vl))
  | exc (c : Str) (n : Nat) | exn (c : Str) | xdc (u : Vl)
  deriving Inhabited
abbrev Store := List Ob
inductive Rs (α : Type) where
  | v (v : α) | x (c : Str) (u : Vl)
abbrev Out (α : Type) := Option (Rs α × Store)
abbrev Env := List (Option Vl)
abbrev Ef := Env → Store → Out Vl
def Rb {α β : Type} (m : Out α) (k : α → Store → Out β) : Out β := match m with
  | none => none
  | some (.v v, st) => k v st
  | some (.x c u, st) => some (.x c u, st)
theorem Rb_v {α β : Type} {v : α} {st : Store} {k : α → Store → Out β} : Rb (some (.v v, st)) k = k v st := rfl
theorem Rb_some {α β : Type} {m : Out α} {k : α → Store → Out β} {r : Rs β} {st : Store} (h : Rb m k = some (r, st)) : (∃ v st1, m = some (.v v, st1) ∧ k v st1 = some (r, st)) ∨ (∃ c u, m = some (.x c u, st) ∧ r = .x c u) := by
  unfold Rb at h
  split at h
  · cases h
  · exact .inl ⟨_, _, rfl, h⟩
  · cases h
    exact .inr ⟨_, _, rfl, rfl⟩

structure Kw where
  fr : PySem.W.Frag
  w : World
  ca : Str → Option Addr
  tabs : List (Addr × Str)
  fn : Str → Option Addr
instance : CoeOut Kw PySem.W.Frag := ⟨Kw.fr⟩
def KTup (K : PySem.W.Frag) (a : Addr) (xs : List V) : Prop := ∃ (o : Obj) (its : Array Value) (n : Nat), K.lookup a = some o ∧ o.cls = .type "tuple" ∧ o.data = .seq its n ∧ its.size ≤ sizeLine ∧ Vals xs its.toList
def KLst (K : PySem.W.Frag) (a : Addr) (xs : List V) : Prop := ∃ (o : Obj) (its : Array Value) (n : Nat), K.lookup a = some o ∧ o.cls = .type "list" ∧ o.dict = none ∧ o.data = .seq its n ∧ its.size ≤ sizeLine ∧ Vals xs its.toList

mutual
def nkOf : Vl → Option NestedKey
  | .non => some .none
  | .bl b => some (.num (if b = true then 1 else 0))
  | .int i => some (.num i)
  | .str x => some (.text x)
  | .tup vs => match nksOf vs with
    | some ks => some (.tup ks)
    | none => none
  | .klst _ => none
  | .rng _ _ => none
  | .ref _ => none
  | .fn _ => none
def nksOf : List Vl → Option (List NestedKey)
  | [] => some []
  | v :: vs => match nkOf v, nksOf vs with
    | some k, some ks => some (k :: ks)
    | _, _ => none
end
def kVl : Key → Vl
  | .inl i => .int i
  | .inr x => .str x
def dPhi (w : World) (a : Addr) (xs : List (NestedKey × Addr × Value)) : Heap → Prop := fun h => ∃ o es ep, h.get? a = some o ∧ o.ExactDict ∧ o.data = .dict es ep ∧ es.toList = xs.map (fun x => (⟨x.1.hash w, .ref x.2.1, x.2.2⟩ : DictEntry))
section
variable (K : Kw) (as : List Addr) (H : Hp)
mutual
def SV : Vl → V → Prop
  | .non, v => v = .non
  | .bl b, v => v = .bl b
  | .int i, v => v = .int i
  | .str x, v => v = .str x
  | .tup vs, v => ∃ a xs, v = .ref a ∧ (H a = some (.tup xs) ∨ KTup K a xs) ∧ SVs vs xs
  | .klst vs, v => ∃ a xs, v = .ref a ∧ ((∃ o, H a = some (.frz o (.lst xs)) ∧ a ∉ as) ∨ KLst K a xs) ∧ SVs vs xs
  | .rng lo hi, v => ∃ a, v = .ref a ∧ H a = some (.rng lo hi)
  | .ref n, v => ∃ a, v = .ref a ∧ as[n]? = some a
  | .fn c, v => ∃ a, v = .ref a ∧ K.fn c = some a
def SVs : List Vl → List V → Prop
  | [], xs => xs = []
  | v :: vs, xs => ∃ x r, xs = x :: r ∧ SV v x ∧ SVs vs r
end
def DicU (a : Addr) (u : HO) (ks vs : List Vl) : Prop := (∃ kvs : List (Key × V), u = .dK kvs ∧ ks = kvs.map (fun q => kVl q.1) ∧ SVs K as H vs (kvs.map Prod.snd)) ∨
    (ks ≠ [] ∧ ∃ (xs : List (NestedKey × Addr × Value)) (ys : List V), u = .ext (dPhi K.w a xs) ∧ SVs K as H ks (xs.map fun x => V.ref x.2.1) ∧ nksOf ks = some (xs.map Prod.fst) ∧
      (xs.map Prod.fst).Nodup ∧ (∀ x ∈ xs, x.1.depth ≤ 8) ∧ xs.length ≤ sizeLine ∧ (a == sysModules) = false ∧ Vals ys (xs.map fun x => x.2.2) ∧ SVs K as H vs ys)
def SO (a : Addr) : Ob → Prop
  | .lst vs => ∃ xs, H a = some (.lst xs) ∧ SVs K as H vs xs
  | .dic ks vs => ∃ u, H a = some u ∧ DicU K as H a u ks vs
  | .lck ks vs => ∃ o u, H a = some (.frz o u) ∧ DicU K as H a u ks vs
  | .ins c fs => ∃ C dx fs', K.ca c = some C ∧ H a = some (.ins C dx fs') ∧ fs'.map Prod.fst = fs.map Prod.fst ∧ SVs K as H (fs.map Prod.snd) (fs'.map Prod.snd)
  | .exc c n => ∃ C d, K.ca c = some C ∧ as[n]? = some d ∧ H a = some (exo a C (some d))
  | .exn c => ∃ C, K.ca c = some C ∧ H a = some (exo a C none)
  | .xdc u => ∃ x, H a = some (.xd [(("value" : Str), x)]) ∧ SV K as H u x
def TabsA (T : List (Addr × Str)) : Prop := ∀ p ∈ T, ∃ ps : Array Value, p.1 ∉ as ∧ H p.1 = some (.tbl ps) ∧ TriplesOk ps.toList ∧ ∀ (pos : Pos) (cv : Value), codeAmong pos ps.toList = some cv → ∃ c, cv = .ref c ∧ H c = some (LamX.CodeO c p.2) ∧ c ∉ as
structure SR (st : Store) : Prop where
  len : as.length = st.length
  nd : as.Nodup
  ob : ∀ (n : Nat) o, st[n]? = some o → ∃ a, as[n]? = some a ∧ SO K as H a o
  tab : TabsA as H K.tabs
def SEnv (env : Env) (σ : List (Option V)) : Prop := σ.length = env.length ∧ ∀ (i : Nat) v, env[i]? = some (some v) → ∃ x, σ[i]? = some (some x) ∧ SV K as H v x
end
structure Gr (as : List Addr) (H H' : Hp) : Prop where
  tup : ∀ a xs, H a = some (.tup xs) → H' a = some (.tup xs)
  rng : ∀ a lo hi, H a = some (.rng lo hi) → H' a = some (.rng lo hi)
  oth : ∀ a o, a ∉ as → H a = some o → (∀ ps, o ≠ .tbl ps) → H' a = some o
  dom : ∀ a, H a ≠ none → H' a ≠ none
  frz : ∀ a o u, H a = some (.frz o u) → H' a = some (.frz o u)
structure Ax (as as' : List Addr) (H : Hp) : Prop where
  pre : as <+: as'
  new : ∀ a ∈ as', a ∈ as ∨ H a = none
theorem Ax.refl {as : List Addr} {H : Hp} : Ax as as H := ⟨List.prefix_refl _, fun _ h => .inl h⟩
theorem Gr.refl {as : List Addr} {H : Hp} : Gr as H H := ⟨fun _ _ h => h, fun _ _ _ h => h, fun _ _ _ h _ => h, fun _ h => h, fun _ _ _ h => h⟩
theorem none_of_dom {H H' : Hp} (h : ∀ a, H a ≠ none → H' a ≠ none) {a : Addr} (e : H' a = none) : H a = none := by
  cases q : H a with
  | none => rfl
  | some o => exact absurd e (h a (by rw [q]; exact Option.some_ne_none _))
theorem Ax.trans {as as1 as2 : List Addr} {H H1 : Hp} (a : Ax as as1 H) (g : Gr as H H1) (b : Ax as1 as2 H1) : Ax as as2 H :=
  ⟨a.pre.trans b.pre, fun c hc => (b.new c hc).elim (a.new c) fun e => .inr (none_of_dom g.dom e)⟩
theorem Gr.trans {as as1 : List Addr} {H H1 H2 : Hp} (x : Ax as as1 H) (a : Gr as H H1) (b : Gr as1 H1 H2) : Gr as H H2 :=
  ⟨fun c xs e => b.tup c xs (a.tup c xs e), fun c lo hi e => b.rng c lo hi (a.rng c lo hi e), fun c o n e nt => b.oth c o (fun z => (x.new c z).elim n fun q => by rw [q] at e; cases e) (a.oth c o n e nt) nt, fun c e => b.dom c (a.dom c e), fun c o u e => b.frz c o u (a.frz c o u e)⟩
section
variable {K : Kw} {as as' : List Addr} {H H' : Hp}
theorem prefix_get {α : Type} {xs ys : List α} (p : xs <+: ys) {n : Nat} {a : α} (h : xs[n]? = some a) : ys[n]? = some a := by
  obtain ⟨t, rfl⟩ := p
  have hn : n < xs.length := (List.getElem?_eq_some_iff.mp h).1
  rw [List.getElem?_append_left hn]; exact h
structure Gv (as as' : List Addr) (H H' : Hp) : Prop where
  pre : as <+: as'
  nf : ∀ a o u, H a = some (.frz o u) → a ∈ as' → a ∈ as
  tup : ∀ a xs, H a = some (.tup xs) → H' a = some (.tup xs)
  rng : ∀ a lo hi, H a = some (.rng lo hi) → H' a = some (.rng lo hi)
  frz : ∀ a o u, a ∉ as → H a = some (.frz o u) → H' a = some (.frz o u)
theorem Gr.gv (x : Ax as as' H) (g : Gr as H H') : Gv as as' H H' :=
  ⟨x.pre, fun a o u e h => (x.new a h).elim id fun q => by (rw [q] at e; cases e), g.tup, g.rng, fun a o u n e => g.oth a _ n e (fun _ z => nomatch z)⟩
mutual
theorem SV.monoV (g : Gv as as' H H') : ∀ (d : Vl) (v : V), SV K as H d v → SV K as' H' d v
  | .non, v, h => by simpa [SV] using h
  | .bl b, v, h => by simpa [SV] using h
  | .int i, v, h => by simpa [SV] using h
  | .str x, v, h => by simpa [SV] using h
  | .tup ds, v, h => by
    simp only [SV] at h ⊢
    obtain ⟨a, vs, e, s, r⟩ := h
    exact ⟨a, vs, e, s.imp (g.tup a vs) id, SVs.monoV g ds vs r⟩
  | .klst ds, v, h => by
    simp only [SV] at h ⊢
    obtain ⟨a, vs, e, s, r⟩ := h
    exact ⟨a, vs, e, s.imp (fun ⟨o, q, n⟩ => ⟨o, g.frz a o _ n q, fun z => n (g.nf a _ _ q z)⟩) id, SVs.monoV g ds vs r⟩
  | .rng lo hi, v, h => by
    simp only [SV] at h ⊢
    obtain ⟨a, e, s⟩ := h
    exact ⟨a, e, g.rng _ _ _ s⟩
  | .ref n, v, h => by
    simp only [SV] at h ⊢
    obtain ⟨a, e, s⟩ := h
    exact ⟨a, e, prefix_get g.pre s⟩
  | .fn c, v, h => by simpa [SV] using h
theorem SVs.monoV (g : Gv as as' H H') : ∀ (ds : List Vl) (vs : List V), SVs K as H ds vs → SVs K as' H' ds vs
  | [], vs, h => by simpa [SVs] using h
  | d :: ds, vs, h => by
    simp only [SVs] at h ⊢
    obtain ⟨v, r, e, h1, h2⟩ := h
    exact ⟨v, r, e, SV.monoV g d v h1, SVs.monoV g ds r h2⟩
end
theorem SV.mono (x : Ax as as' H) (g : Gr as H H') (d : Vl) (v : V) (h : SV K as H d v) : SV K as' H' d v := SV.monoV (g.gv x) d v h
theorem SVs.mono (x : Ax as as' H) (g : Gr as H H') (ds : List Vl) (vs : List V) (h : SVs K as H ds vs) : SVs K as' H' ds vs := SVs.monoV (g.gv x) ds vs h
theorem SEnv.mono (x : Ax as as' H) (g : Gr as H H') {env : Env} {σ : List (Option V)} (h : SEnv K as H env σ) : SEnv K as' H' env σ :=
  ⟨h.1, fun i v e => let ⟨y, e1, s⟩ := h.2 i v e; ⟨y, e1, s.mono x g⟩⟩
theorem SVs.len : ∀ {ds : List Vl} {vs : List V}, SVs K as H ds vs → vs.length = ds.length
  | [], vs, h => by simp only [SVs] at h; rw [h]; rfl
  | d :: ds, vs, h => by
    simp only [SVs] at h
    obtain ⟨v, r, rfl, _, h2⟩ := h
    simp [SVs.len h2]
theorem SVs.get : ∀ {ds : List Vl} {vs : List V} {i : Nat} {d : Vl}, SVs K as H ds vs → ds[i]? = some d → ∃ v, vs[i]? = some v ∧ SV K as H d v
  | [], vs, i, d, h, e => by simp at e
  | d' :: ds, vs, 0, d, h, e => by
    simp only [SVs] at h
    obtain ⟨v, r, rfl, h1, h2⟩ := h
    simp at e; subst e
    exact ⟨v, rfl, h1⟩
  | d' :: ds, vs, i + 1, d, h, e => by
    simp only [SVs] at h
    obtain ⟨v, r, rfl, h1, h2⟩ := h
    obtain ⟨u, e1, s⟩ := SVs.get (i := i) h2 (by simpa using e)
    exact ⟨u, by simpa using e1, s⟩
theorem SVs.append : ∀ {ds es : List Vl} {vs ws : List V}, SVs K as H ds vs → SVs K as H es ws → SVs K as H (ds ++ es) (vs ++ ws)
  | [], es, vs, ws, h, h' => by simp only [SVs] at h; subst h; exact h'
  | d :: ds, es, vs, ws, h, h' => by
    simp only [SVs] at h
    obtain ⟨v, r, rfl, h1, h2⟩ := h
    exact ⟨v, r ++ ws, rfl, h1, SVs.append h2 h'⟩
theorem DicU.monoV (g : Gv as as' H H') {a : Addr} {u : HO} {ks vs : List Vl} (h : DicU K as H a u ks vs) : DicU K as' H' a u ks vs := by
  rcases h with ⟨kvs, e, ek, s⟩ | ⟨hn, xs, ys, e, sk, r1, r2, r3, r4, r5, r6, s⟩
  · exact .inl ⟨kvs, e, ek, SVs.monoV g _ _ s⟩
  · exact .inr ⟨hn, xs, ys, e, SVs.monoV g _ _ sk, r1, r2, r3, r4, r5, r6, SVs.monoV g _ _ s⟩
theorem DicU.mu {a : Addr} {u : HO} {ks vs : List Vl} (h : DicU K as H a u ks vs) : Mut (some u) := by
  rcases h with ⟨kvs, e, _⟩ | ⟨_, xs, ys, e, _⟩
  · subst e; exact True.intro
  · subst e; exact True.intro
theorem SO.monoV (g : Gv as as' H H') {a : Addr} {o : Ob} (hH : ∀ u, H a = some u → H' a = some u) (h : SO K as H a o) : SO K as' H' a o := by
  cases o with
  | lst vs =>
    obtain ⟨xs, e, s⟩ := h
    exact ⟨xs, hH _ e, SVs.monoV g _ _ s⟩
  | dic ks vs =>
    obtain ⟨u, e, d⟩ := h
    exact ⟨u, hH _ e, d.monoV g⟩
  | lck ks vs =>
    obtain ⟨o, u, e, d⟩ := h
    exact ⟨o, u, hH _ e, d.monoV g⟩
  | ins c fs =>
    obtain ⟨C, dx, fs', ec, e, ef, s⟩ := h
    exact ⟨C, dx, fs', ec, hH _ e, ef, SVs.monoV g _ _ s⟩
  | exc c n =>
    obtain ⟨C, d, ec, ed, e⟩ := h
    exact ⟨C, d, ec, prefix_get g.pre ed, hH _ e⟩
  | exn c =>
    obtain ⟨C, ec, e⟩ := h
    exact ⟨C, ec, hH _ e⟩
  | xdc u =>
    obtain ⟨x, e, s⟩ := h
    exact ⟨x, hH _ e, SV.monoV g _ _ s⟩
theorem SO.mono (x : Ax as as' H) (g : Gr as H H') {a : Addr} {o : Ob} (hH : ∀ u, H a = some u → H' a = some u) (h : SO K as H a o) : SO K as' H' a o := SO.monoV (g.gv x) hH h
theorem SO.there {a : Addr} {o : Ob} (h : SO K as H a o) : H a ≠ none := by
  cases o with
  | lst vs =>
    obtain ⟨xs, e, s⟩ := h
    rw [e]; exact Option.some_ne_none _
  | dic ks vs =>
    obtain ⟨u, e, _⟩ := h
    rw [e]; exact Option.some_ne_none _
  | lck ks vs =>
    obtain ⟨o, u, e, _⟩ := h
    rw [e]; exact Option.some_ne_none _
  | ins c fs =>
    obtain ⟨C, dx, fs', ec, e, _⟩ := h
    rw [e]; exact Option.some_ne_none _
  | exc c n =>
    obtain ⟨C, d, ec, ed, e⟩ := h
    rw [e]; exact Option.some_ne_none _
  | exn c =>
    obtain ⟨C, ec, e⟩ := h
    rw [e]; exact Option.some_ne_none _
  | xdc u =>
    obtain ⟨x, e, s⟩ := h
    rw [e]; exact Option.some_ne_none _
theorem SR.fresh {st : Store} (h : SR K as H st) {p : Addr} (e : H p = none) : p ∉ as := fun hp => by
  obtain ⟨n, hn⟩ := List.getElem?_of_mem hp
  have hl : n < st.length := by rw [← h.len]; exact (List.getElem?_eq_some_iff.mp hn).1
  obtain ⟨a, e1, s⟩ := h.ob n _ (List.getElem?_eq_getElem hl)
  rw [hn] at e1; cases e1
  exact s.there e
theorem upd_get {H : Hp} {p a : Addr} {o u : HO} (e : H p = none) (h : H a = some u) : upd H p o a = some u := by
  rw [upd_ne (ne_of_none h e)]; exact h
theorem Gr.upd {H : Hp} {p : Addr} {o : HO} (e : H p = none) : Gr as H (upd H p o) :=
  ⟨fun a xs h => upd_get e h, fun a lo hi h => upd_get e h, fun a ob _ h _ => upd_get e h, fun a h => by
    by_cases q : a = p
    · subst q; rw [upd_same]; exact Option.some_ne_none _
    · rw [upd_ne q]; exact h, fun a o u h => upd_get e h⟩
theorem TabsA.mono {T : List (Addr × Str)} (h : TabsA as H T) (x : Ax as as' H) (oth : ∀ a o, a ∉ as → H a = some o → H' a = some o) : TabsA as' H' T := fun p hp => by
  obtain ⟨ps, n, e, t, k⟩ := h p hp
  refine ⟨ps, fun z => (x.new _ z).elim n fun q => by (rw [q] at e; cases e), oth _ _ n e, t, fun pos cv hc => ?_⟩
  obtain ⟨c, e1, e2, e3⟩ := k pos cv hc
  exact ⟨c, e1, oth _ _ e3 e2, fun z => (x.new _ z).elim e3 fun q => by (rw [q] at e2; cases e2)⟩
theorem SR.push {st : Store} (h : SR K as H st) {p : Addr} {o : HO} {ob : Ob} (e : H p = none) (s : SO K (as ++ [p]) (L2.upd H p o) p ob) : SR K (as ++ [p]) (L2.upd H p o) (st ++ [ob]) ∧ Ax as (as ++ [p]) H ∧ Gr as H (L2.upd H p o) := by
  have ax : Ax as (as ++ [p]) H := ⟨List.prefix_append _ _, fun a ha => by
    rcases List.mem_append.mp ha with z | z
    · exact .inl z
    · have : a = p := by simpa using z
      subst this; exact .inr e⟩
  refine ⟨⟨by simp [h.len], ?_, fun n o' e' => ?_, h.tab.mono ax fun a o _ q => upd_get e q⟩, ax, Gr.upd e⟩
  · refine List.nodup_append.mpr ⟨h.nd, by simp, fun a ha b hb => ?_⟩
    have : b = p := by simpa using hb
    subst this
    rintro rfl
    exact h.fresh e ha
  · by_cases hn : n < st.length
    · rw [List.getElem?_append_left hn] at e'
      obtain ⟨a, e1, s1⟩ := h.ob n o' e'
      exact ⟨a, prefix_get ax.pre e1, s1.mono ax (Gr.upd e) fun xs q => upd_get e q⟩
    · rw [List.getElem?_append_right (by omega)] at e'
      have hz : n - st.length = 0 := by
        have := (List.getElem?_eq_some_iff.mp e').1
        simp at this; omega
      rw [hz] at e'
      simp at e'; subst e'
      have : n = as.length := by rw [h.len]; omega
      subst this
      exact ⟨p, by simp, s⟩
theorem SR.side {st : Store} (h : SR K as H st) {p : Addr} {o : HO} (e : H p = none) : SR K as (L2.upd H p o) st :=
  ⟨h.len, h.nd, fun n ob e' => let ⟨a, e1, s1⟩ := h.ob n ob e'; ⟨a, e1, s1.mono Ax.refl (Gr.upd e) fun xs q => upd_get e q⟩, h.tab.mono Ax.refl fun a o _ q => upd_get e q⟩
theorem Gr.set {as : List Addr} {H : Hp} {n : Nat} {a : Addr} {o u : HO} (ha : as[n]? = some a) (hu : H a = some u) (mu : Mut (some u)) : Gr as H (L2.upd H a o) :=
  ⟨fun b xs q => by
      by_cases z : b = a
      · subst z; rw [hu] at q; cases q; exact absurd mu id
      · rw [upd_ne z]; exact q, fun b lo hi q => by
      by_cases z : b = a
      · subst z; rw [hu] at q; cases q; exact absurd mu id
      · rw [upd_ne z]; exact q, fun b ob n q _ => by
      rw [upd_ne (fun z => n (by subst z; exact List.mem_of_getElem? ha))]; exact q, fun b q => by
      by_cases z : b = a
      · subst z; rw [upd_same]; exact Option.some_ne_none _
      · rw [upd_ne z]; exact q, fun b ob w q => by
      by_cases z : b = a
      · subst z; rw [hu] at q; cases q; exact absurd mu id
      · rw [upd_ne z]; exact q⟩
theorem SR.set {st : Store} (h : SR K as H st) {n : Nat} {a : Addr} {ob : Ob} {o u : HO} (ha : as[n]? = some a) (hu : H a = some u) (mu : Mut (some u))
    (s : SO K as (L2.upd H a o) a ob) : SR K as (L2.upd H a o) (st.set n ob) ∧ Gr as H (L2.upd H a o) := by
  have g : Gr as H (L2.upd H a o) := Gr.set ha hu mu
  refine ⟨⟨by simp [h.len], h.nd, fun m o' e' => ?_, h.tab.mono Ax.refl fun b o' n q => by rw [upd_ne (fun z => n (by subst z; exact List.mem_of_getElem? ha))]; exact q⟩, g⟩
  by_cases hnm : m = n
  · subst hnm
    have hl : m < st.length := by
      have := (List.getElem?_eq_some_iff.mp e').1
      simpa using this
    rw [List.getElem?_set_self hl] at e'
    cases e'
    exact ⟨a, ha, s⟩
  · rw [List.getElem?_set_ne (Ne.symm hnm)] at e'
    obtain ⟨b, e1, s1⟩ := h.ob m o' e'
    refine ⟨b, e1, s1.mono Ax.refl g fun xs q => ?_⟩
    have : b ≠ a := by
      rintro rfl
      have h1 := List.getElem?_eq_some_iff.mp e1
      have h2 := List.getElem?_eq_some_iff.mp ha
      obtain ⟨l1, q1⟩ := h1
      obtain ⟨l2, q2⟩ := h2
      exact hnm ((List.getElem_inj h.nd).mp (q1.trans q2.symm))
    rw [upd_ne this]; exact q
end

def SX (K : Kw) (as : List Addr) (H : Hp) (xc : Str → Option Value) (c : Str) (u : Vl) (cls : Value) (d : Option Addr) : Prop :=
  xc c = some cls ∧ ∃ dd x, d = some dd ∧ H dd = some (.xd [("value", x)]) ∧ SV K as H u x
structure Par where
  K : Kw
  W : WX
  xc : Str → Option Value
def Post {α β : Type} (rel : Kw → List Addr → Hp → α → β → Prop) (p : Par) (σ : L2.St) (as : List Addr) (H : Hp) (r : Rs α) (st' : Store) (Q : β → Hp → Prop) : Prop := ∀ as' H', Ax as as' H → Gr as H H' → SR p.K as' H' st' →
  match r with
  | .v v => ∀ x, rel p.K as' H' v x → Q x H'
  | .x c u => ∀ cls d, SX p.K as' H' p.xc c u cls d → p.W cls d σ H'
def tG {α β : Type} (rel : Kw → List Addr → Hp → α → β → Prop) (p : Par) (f : Env → Store → Out α) : L2.St → Hp → (β → Hp → Prop) → Prop := fun σ H Q =>
  ∃ as env st, SR p.K as H st ∧ SEnv p.K as H env σ ∧ ∃ r st', f env st = some (r, st') ∧ Post rel p σ as H r st' Q
def rB : Kw → List Addr → Hp → Bool → Bool → Prop := fun _ _ _ a b => a = b
abbrev tE (p : Par) (f : Ef) : TE := tG SV p f
abbrev tA (p : Par) (f : Env → Store → Out (List Vl)) : TA := tG SVs p f
abbrev tT (p : Par) (f : Env → Store → Out Bool) : TT := tG rB p f
def Snd (X : Cx) (p : Par) (e : Expr) (f : Ef) : Prop := PE X e (tE p f)
def SndA (X : Cx) (p : Par) (es : List Expr) (f : Env → Store → Out (List Vl)) : Prop := PA X es (tA p f)
def SndT (X : Cx) (p : Par) (e : Expr) (f : Env → Store → Out Bool) : Prop := PT X e (tT p f)
theorem pe_mono {X : Cx} {e : Expr} {t t' : TE} (h : PE X e t) (m : ∀ σ H Q, t' σ H Q → t σ H Q) : PE X e t' := ⟨fun pins s σ H Q I q => h.run pins s σ H Q I (m σ H Q q)⟩
theorem pt_mono {X : Cx} {e : Expr} {t t' : TT} (h : PT X e t) (m : ∀ σ H Q, t' σ H Q → t σ H Q) : PT X e t' := ⟨fun pins s σ H Q I q => h.run pins s σ H Q I (m σ H Q q)⟩
theorem pw_mono {X : Cx} {e : Expr} {t t' : TT} (h : PW X e t) (m : ∀ σ H Q, t' σ H Q → t σ H Q) : PW X e t' := ⟨fun wh pins s σ H Q I q => h.run wh pins s σ H Q I (m σ H Q q)⟩
theorem pa_mono {X : Cx} {e : List Expr} {t t' : TA} (h : PA X e t) (m : ∀ σ H Q, t' σ H Q → t σ H Q) : PA X e t' := ⟨fun pos pins s σ H Q I q => h.run pos pins s σ H Q I (m σ H Q q)⟩
section
variable {α β γ δ : Type} {rel : Kw → List Addr → Hp → α → β → Prop} {rel' : Kw → List Addr → Hp → γ → δ → Prop}
variable {p : Par} {as as1 : List Addr} {H H1 : Hp} {σ : L2.St} {Q : β → Hp → Prop} {R : δ → Hp → Prop} {r : Rs α} {st st' : Store} {env : Env}
theorem Post.trans (h : Post rel p σ as H r st' Q) (x : Ax as as1 H) (g : Gr as H H1) : Post rel p σ as1 H1 r st' Q := fun as' H' x' g' s => h as' H' (x.trans g x') (Gr.trans x g g') s
theorem Post.v {v : α} (h : Post rel p σ as H (.v v) st Q) (s : SR p.K as H st) {x : β} (y : rel p.K as H v x) : Q x H := h as H Ax.refl Gr.refl s x y
theorem tG_step {f : Env → Store → Out γ} {k : γ → Store → Out α} (sr : SR p.K as H st) (se : SEnv p.K as H env σ) (e : Rb (f env st) k = some (r, st')) (post : Post rel p σ as H r st' Q)
    (step : ∀ v st1 as1 H1 x, f env st = some (.v v, st1) → Ax as as1 H → Gr as H H1 → SR p.K as1 H1 st1 → rel' p.K as1 H1 v x → k v st1 = some (r, st') → Post rel p σ as1 H1 r st' Q → R x H1) : tG rel' p f σ H R := by
  rcases Rb_some e with ⟨v, st1, e1, e2⟩ | ⟨c, u, e1, rfl⟩
  · exact ⟨as, env, st, sr, se, .v v, st1, e1, fun as' H' x g s y sv => step v st1 as' H' y e1 x g s sv e2 (post.trans x g)⟩
  · exact ⟨as, env, st, sr, se, .x c u, st', e1, fun as' H' x g s cls d sx => post as' H' x g s cls d sx⟩
end
def OpS (p : Par) (r : R2) (h : Vl → Vl → Store → Out Vl) : Prop := ∀ (σ : L2.St) (Q : VK) (as : List Addr) (H : Hp) (st : Store) (v w : Vl) (x y : V) (rr : Rs Vl) (st' : Store),
  SR p.K as H st → SV p.K as H v x → SV p.K as H w y → h v w st = some (rr, st') → Post SV p σ as H rr st' Q → r x y H Q
def UnS (p : Par) (r : V → Hp → VK → Prop) (h : Vl → Store → Out Vl) : Prop := ∀ (σ : L2.St) (Q : VK) (as : List Addr) (H : Hp) (st : Store) (v : Vl) (x : V) (rr : Rs Vl) (st' : Store),
  SR p.K as H st → SV p.K as H v x → h v st = some (rr, st') → Post SV p σ as H rr st' Q → r x H Q
def bin (f g : Ef) (h : Vl → Vl → Store → Out Vl) : Ef := fun env st => Rb (f env st) fun v st1 => Rb (g env st1) fun w st2 => h v w st2
def una (f : Ef) (h : Vl → Store → Out Vl) : Ef := fun env st => Rb (f env st) fun v st1 => h v st1
section
variable {X : Cx} {p : Par} {a b e : Expr} {f g : Ef} {pos : Pos}
theorem tE_bin {r : R2} {h : Vl → Vl → Store → Out Vl} (hr : OpS p r h) {σ : L2.St} {H : Hp} {Q : VK} (t : tE p (bin f g h) σ H Q) : tOp r (tE p f) (tE p g) σ H Q := by
  obtain ⟨as, env, st, sr, se, rr, st', e, post⟩ := t
  refine tG_step sr se e post fun v st1 as1 H1 x e1 ax gr sr1 sv k1 post1 => ?_
  refine tG_step sr1 (se.mono ax gr) k1 post1 fun w st2 as2 H2 y e2 ax2 gr2 sr2 sv2 k2 post2 => ?_
  exact hr σ Q as2 H2 st2 v w x y rr st' sr2 (sv.mono ax2 gr2 v x) sv2 k2 post2
theorem tE_una {r : V → Hp → VK → Prop} {h : Vl → Store → Out Vl} (hr : UnS p r h) {σ : L2.St} {H : Hp} {Q : VK} (t : tE p (una f h) σ H Q) : tUn r (tE p f) σ H Q := by
  obtain ⟨as, env, st, sr, se, rr, st', e, post⟩ := t
  exact tG_step sr se e post fun v st1 as1 H1 x e1 ax gr sr1 sv k1 post1 => hr σ Q as1 H1 st1 v x rr st' sr1 sv k1 post1
theorem snd_bin {op : Operator} {r : R2} {h : Vl → Vl → Store → Out Vl} (ho : OpR X (binaryOp op) r) (hr : OpS p r h) (ha : Snd X p a f) (hb : Snd X p b g) : Snd X p (.BinOp a op b pos) (bin f g h) :=
  pe_mono (pe_op ho ha hb) fun _ _ _ t => tE_bin hr t
theorem snd_una {op : UnaryOp} {r : V → Hp → VK → Prop} {h : Vl → Store → Out Vl} (ho : UnR X (unaryOp op) r) (hr : UnS p r h) (ha : Snd X p a f) : Snd X p (.UnaryOp op a pos) (una f h) :=
  pe_mono (pe_un ho ha) fun _ _ _ t => tE_una hr t
theorem snd_cmp {op : CmpOp} {r : R2} {h : Vl → Vl → Store → Out Vl} (ho : OpR X (compareOp op) r) (hr : OpS p r h) (ha : Snd X p a f) (hb : Snd X p b g) (hm : behindInMarks op b = false) : Snd X p (.Compare a [op] [b] pos) (bin f g h) :=
  pe_mono (pe_cmpR ho ha hb hm) fun _ _ _ t => tE_bin hr t
end
end PD
set_option maxHeartbeats 4000000
namespace PD
open PySem PySem.Spec PyProof.Rows L2

def omap {α β : Type} (f : α → Option β) : List α → Option (List β)
  | [] => some []
  | a :: l => match f a, omap f l with
    | some b, some bs => some (b :: bs)
    | _, _ => none
def lview (st : Store) : Vl → Option (List Vl)
  | .klst vs => some vs
  | .ref k => match st[k]? with
    | some (.lst vs) => some vs
    | _ => none
  | _ => none
def rd : Nat → Store → Vl → Option PyData
  | 0, _, _ => none
  | _ + 1, _, .non => some .none
  | _ + 1, _, .bl b => some (.bool b)
  | _ + 1, _, .int i => some (.int i)
  | _ + 1, _, .str x => if PyData.canLay0 (.str x) then some (.str x) else none
  | n + 1, st, .tup vs => (omap (rd n st) vs).map .tuple
  | n + 1, st, .klst vs => (omap (rd n st) vs).map .list
  | _ + 1, _, .rng _ _ => none
  | _ + 1, _, .fn _ => none
  | n + 1, st, .ref k => match lview st (.ref k) with
    | some vs => (omap (rd n st) vs).map .list
    | none => none
section
variable {K : Kw} {as : List Addr} {H : Hp} {st : Store}
theorem KTup.sq {a : Addr} {xs : List V} (h : H a = some (.tup xs) ∨ KTup K a xs) : SqT K H a xs := h.imp .inl id
theorem sv_tup {vs : List Vl} {x : V} (h : SV K as H (.tup vs) x) : ∃ a xs, x = .ref a ∧ SqT K H a xs ∧ SVs K as H vs xs := by
  simp only [SV] at h
  obtain ⟨a, xs, e, s, r⟩ := h
  exact ⟨a, xs, e, KTup.sq s, r⟩
theorem sv_lst (sr : SR K as H st) {v : Vl} {vs : List Vl} {x : V} (h : SV K as H v x) (e : lview st v = some vs) : ∃ a xs, x = .ref a ∧ SqL K H a xs ∧ SVs K as H vs xs := by
  cases v with
  | klst ws =>
    simp only [lview, Option.some.injEq] at e
    subst e
    simp only [SV] at h
    obtain ⟨a, xs, e, s, r⟩ := h
    exact ⟨a, xs, e, s.imp (fun ⟨o, q, _⟩ => .inr ⟨o, q⟩) id, r⟩
  | ref k =>
    simp only [lview] at e
    split at e
    · rename_i ws hk
      cases e
      simp only [SV] at h
      obtain ⟨a, rfl, ha⟩ := h
      obtain ⟨b, hb, xs, hx, s⟩ := sr.ob k _ hk
      rw [ha] at hb; cases hb
      exact ⟨a, xs, rfl, .inl (.inl hx), s⟩
    · cases e
  | _ => simp [lview] at e
theorem omap_dp {n : Nat} (ih : ∀ v x d, SV K as H v x → rd n st v = some d → Dp K H x d) : ∀ {vs : List Vl} {xs : List V} {ds : List PyData}, SVs K as H vs xs → omap (rd n st) vs = some ds → DpAll K H xs ds
  | [], xs, ds, h, e => by
    simp only [SVs] at h
    simp only [omap, Option.some.injEq] at e
    subst h e
    exact .nil
  | v :: vs, xs, ds, h, e => by
    simp only [SVs] at h
    obtain ⟨x, r, rfl, h1, h2⟩ := h
    simp only [omap] at e
    split at e
    · rename_i b bs e1 e2
      cases e
      exact .cons (ih v x b h1 e1) (omap_dp ih h2 e2)
    · cases e
theorem rd_dp (sr : SR K as H st) : ∀ (n : Nat) (v : Vl) (x : V) (d : PyData), SV K as H v x → rd n st v = some d → Dp K H x d
  | 0, v, x, d, h, e => by simp [rd] at e
  | n + 1, v, x, d, h, e => by
    have ih := rd_dp sr n
    cases v with
    | non => simp only [rd, Option.some.injEq] at e; simp only [SV] at h; subst e h; exact .non
    | bl b => simp only [rd, Option.some.injEq] at e; simp only [SV] at h; subst e h; exact .bl b
    | int i => simp only [rd, Option.some.injEq] at e; simp only [SV] at h; subst e h; exact .int i
    | str z =>
      simp only [rd] at e; simp only [SV] at h
      split at e
      · cases e; subst h; exact .str z
      · cases e
    | tup vs =>
      simp only [rd, Option.map_eq_some_iff] at e
      obtain ⟨ds, e1, rfl⟩ := e
      obtain ⟨a, xs, rfl, s, r⟩ := sv_tup h
      exact .tup s (omap_dp ih r e1)
    | klst vs =>
      simp only [rd, Option.map_eq_some_iff] at e
      obtain ⟨ds, e1, rfl⟩ := e
      obtain ⟨a, xs, rfl, s, r⟩ := sv_lst sr h rfl
      exact .lst s (omap_dp ih r e1)
    | rng lo hi => simp [rd] at e
    | fn c => simp [rd] at e
    | ref k =>
      simp only [rd] at e
      split at e
      · rename_i vs hv
        simp only [Option.map_eq_some_iff] at e
        obtain ⟨ds, e1, rfl⟩ := e
        obtain ⟨a, xs, rfl, s, r⟩ := sv_lst sr h hv
        exact .lst s (omap_dp ih r e1)
      · cases e
theorem omap_shape {n : Nat} (ih : ∀ v d, rd n st v = some d → d.canLay0 = true ∧ d.depth ≤ n) : ∀ {vs : List Vl} {ds : List PyData}, omap (rd n st) vs = some ds → PyData.canLayAll0 ds = true ∧ PyData.depthAll ds ≤ n
  | [], ds, e => by
    simp only [omap, Option.some.injEq] at e
    subst e
    exact ⟨rfl, Nat.zero_le _⟩
  | v :: vs, ds, e => by
    simp only [omap] at e
    split at e
    · rename_i b bs e1 e2
      cases e
      obtain ⟨a1, a2⟩ := ih v b e1
      obtain ⟨b1, b2⟩ := omap_shape ih e2
      simp only [PyData.canLayAll0, a1, b1, Bool.and_self, PyData.depthAll, true_and]
      omega
    · cases e
theorem rd_shape : ∀ (n : Nat) (v : Vl) (d : PyData), rd n st v = some d → d.canLay0 = true ∧ d.depth ≤ n
  | 0, v, d, e => by simp [rd] at e
  | n + 1, v, d, e => by
    have ih := rd_shape n
    cases v with
    | non => simp only [rd, Option.some.injEq] at e; subst e; exact ⟨rfl, by simp [PyData.depth]⟩
    | bl b => simp only [rd, Option.some.injEq] at e; subst e; exact ⟨rfl, by simp [PyData.depth]⟩
    | int i => simp only [rd, Option.some.injEq] at e; subst e; exact ⟨rfl, by simp [PyData.depth]⟩
    | str z =>
      simp only [rd] at e
      split at e
      · rename_i hz
        cases e; exact ⟨by simpa [PyData.canLay0] using hz, by simp [PyData.depth]⟩
      · cases e
    | tup vs =>
      simp only [rd, Option.map_eq_some_iff] at e
      obtain ⟨ds, e1, rfl⟩ := e
      obtain ⟨q1, q2⟩ := omap_shape ih e1
      exact ⟨by simpa [PyData.canLay0] using q1, by simp only [PyData.depth]; omega⟩
    | klst vs =>
      simp only [rd, Option.map_eq_some_iff] at e
      obtain ⟨ds, e1, rfl⟩ := e
      obtain ⟨q1, q2⟩ := omap_shape ih e1
      exact ⟨by simpa [PyData.canLay0] using q1, by simp only [PyData.depth]; omega⟩
    | rng lo hi => simp [rd] at e
    | fn c => simp [rd] at e
    | ref k =>
      simp only [rd] at e
      split at e
      · rename_i vs hv
        simp only [Option.map_eq_some_iff] at e
        obtain ⟨ds, e1, rfl⟩ := e
        obtain ⟨q1, q2⟩ := omap_shape ih e1
        exact ⟨by simpa [PyData.canLay0] using q1, by simp only [PyData.depth]; omega⟩
      · cases e
abbrev deep : Nat := 40
theorem rd_shaped {v : Vl} {d : PyData} (e : rd deep st v = some d) : SeqAt.shaped d = true := by
  obtain ⟨h1, h2⟩ := rd_shape deep v d e
  unfold SeqAt.shaped
  rw [h1, Bool.true_and]
  exact decide_eq_true (Nat.le_trans h2 (by decide))
end

def okv (v : Vl) (st : Store) : Out Vl := some (.v v, st)
def newL (vs : List Vl) (st : Store) : Out Vl := if vs.length ≤ 16777216 then some (.v (.ref st.length), st ++ [.lst vs]) else none
def fAdd : Vl → Vl → Store → Out Vl
  | .int i, .int j, st => okv (.int (i + j)) st
  | .str a, .str b, st => if a.length + b.length ≤ 16777216 then okv (.str (a ++ b)) st else none
  | .tup xs, .tup ys, st => if xs.length + ys.length ≤ 16777216 then okv (.tup (xs ++ ys)) st else none
  | .ref a, .ref b, st => match st[a]?, st[b]? with
    | some (.lst xs), some (.lst ys) => newL (xs ++ ys) st
    | _, _ => none
  | _, _, _ => none
def fSub : Vl → Vl → Store → Out Vl
  | .int i, .int j, st => okv (.int (i - j)) st
  | _, _, _ => none
def fMul : Vl → Vl → Store → Out Vl
  | .int i, .int j, st => if i.natAbs.log2 + j.natAbs.log2 < 1000000 then okv (.int (i * j)) st else none
  | .ref a, .int k, st => match st[a]? with
    | some (.lst xs) => if -(2 ^ 63) ≤ k ∧ k < 2 ^ 63 ∧ xs.length * k.toNat ≤ 16777216 then newL (List.replicate k.toNat xs).flatten st else none
    | _ => none
  | _, _, _ => none
def fMod : Vl → Vl → Store → Out Vl
  | .int i, .int j, st => if 0 < j then okv (.int (i % j)) st else none
  | _, _, _ => none
def fDiv : Vl → Vl → Store → Out Vl
  | .int i, .int j, st => if 0 < j ∧ j.natAbs.log2 < 9000 then okv (.int (i / j)) st else none
  | _, _, _ => none
def fPow : Vl → Vl → Store → Out Vl
  | .int i, .int j, st => if 0 ≤ j ∧ (i.natAbs.log2 + 1) * j.toNat ≤ 100000000 then okv (.int (i ^ j.toNat)) st else none
  | _, _, _ => none
def fNeg : Vl → Store → Out Vl
  | .int i, st => okv (.int (-i)) st
  | _, _ => none
def fEq (v w : Vl) (st : Store) : Out Vl := match rd deep st v, rd deep st w with
  | some d, some e => okv (.bl (PyData.eqv d e)) st
  | _, _ => none
def fNe (v w : Vl) (st : Store) : Out Vl := match rd deep st v, rd deep st w with
  | some d, some e => okv (.bl (!PyData.eqv d e)) st
  | _, _ => none
section
variable {X : Cx} {p : Par}
theorem sline : (16777216 : Nat) = sizeLine := by rw [sizeLine_eq]
theorem ok_post {σ : L2.St} {Q : VK} {as : List Addr} {H : Hp} {st st' : Store} {v : Vl} {rr : Rs Vl} {x : V} (e : okv v st = some (rr, st')) (sr : SR p.K as H st) (post : Post SV p σ as H rr st' Q) (s : SV p.K as H v x) : Q x H := by
  cases e
  exact post.v sr s
theorem new_post {σ : L2.St} {Q : VK} {as : List Addr} {H : Hp} {st st' : Store} {vs : List Vl} {xs : List V} {rr : Rs Vl} {q : Addr} (e : newL vs st = some (rr, st')) (sr : SR p.K as H st) (post : Post SV p σ as H rr st' Q) (s : SVs p.K as H vs xs) (hq : H q = none) : Q (.ref q) (upd H q (.lst xs)) := by
  unfold newL at e
  split at e
  · cases e
    have ax : Ax as (as ++ [q]) H := ⟨List.prefix_append _ _, fun a ha => (List.mem_append.mp ha).imp id fun z => by
      have : a = q := by simpa using z
      subst this; exact hq⟩
    obtain ⟨h1, h2, h3⟩ := sr.push (o := .lst xs) (ob := .lst vs) hq ⟨xs, upd_same, s.mono ax (Gr.upd hq)⟩
    exact post _ _ h2 h3 h1 _ ⟨q, rfl, by rw [← sr.len]; simp⟩
  · cases e
theorem new_len {st st' : Store} {vs : List Vl} {rr : Rs Vl} (e : newL vs st = some (rr, st')) : vs.length ≤ sizeLine := by
  unfold newL at e
  split at e
  · rw [← sline]; assumption
  · cases e
theorem sv_ref_lst {as : List Addr} {H : Hp} {st : Store} {k : Nat} {vs : List Vl} {x : V} (sr : SR p.K as H st) (h : SV p.K as H (.ref k) x) (e : st[k]? = some (.lst vs)) : ∃ a xs, x = .ref a ∧ as[k]? = some a ∧ H a = some (.lst xs) ∧ SVs p.K as H vs xs := by
  simp only [SV] at h
  obtain ⟨a, rfl, ha⟩ := h
  obtain ⟨b, hb, xs, hx, s⟩ := sr.ob k _ e
  rw [ha] at hb; cases hb
  exact ⟨a, xs, rfl, ha, hx, s⟩
def rAddA (K : PySem.W.Frag) : R2 := fun x y H Q => (∃ i j, x = .int i ∧ y = .int j ∧ Q (.int (i + j)) H) ∨ (∃ i j, x = .str i ∧ y = .str j ∧ i.length + j.length ≤ sizeLine ∧ Q (.str (i ++ j)) H) ∨ rCat x y H Q ∨ rCatA K x y H Q
theorem op_addA : OpR X (binaryOp .Add) (rAddA X.K) := op_add.or (op_add_str.or (op_cat.or op_catA))
theorem s_add (hK : p.K.fr = X.K) : OpS p (rAddA X.K) fAdd := by
  intro σ Q as H st v w x y rr st' sr hv hw e post
  unfold fAdd at e
  split at e
  · simp only [SV] at hv hw; subst hv hw
    exact .inl ⟨_, _, rfl, rfl, ok_post e sr post (by simp only [SV])⟩
  · simp only [SV] at hv hw; subst hv hw
    split at e
    · rename_i hz
      exact .inr (.inl ⟨_, _, rfl, rfl, by rw [← sline]; exact hz, ok_post e sr post (by simp only [SV])⟩)
    · cases e
  · rename_i vs ws
    split at e
    · rename_i hz
      obtain ⟨a, xs, rfl, s1, r1⟩ := sv_tup hv
      obtain ⟨b, ys, rfl, s2, r2⟩ := sv_tup hw
      rw [hK] at s1 s2
      refine .inr (.inr (.inr ⟨a, b, xs, ys, rfl, rfl, s1, s2, by rw [r1.len, r2.len, ← sline]; exact hz, fun h0 => ?_, fun _ h0 => ?_, fun _ _ q hq => ?_⟩))
      · have : vs = [] := List.length_eq_zero_iff.mp (by rw [← r1.len, h0]; rfl)
        subst this
        exact ok_post e sr post hw
      · have : ws = [] := List.length_eq_zero_iff.mp (by rw [← r2.len, h0]; rfl)
        subst this
        exact ok_post e sr post (by rw [List.append_nil]; exact hv)
      · cases e
        have g : Gr as H (upd H q (.tup (xs ++ ys))) := Gr.upd hq
        exact post _ _ Ax.refl g (sr.side hq) _ ⟨q, xs ++ ys, rfl, .inl upd_same, (r1.append r2).mono Ax.refl g⟩
    · cases e
  · split at e
    · rename_i h1 h2
      obtain ⟨a, xs, rfl, _, hx, s1⟩ := sv_ref_lst sr hv h1
      obtain ⟨b, ys, rfl, _, hy, s2⟩ := sv_ref_lst sr hw h2
      refine .inr (.inr (.inl ⟨a, b, xs, ys, rfl, rfl, hx, hy, ?_, fun q hq => new_post e sr post (s1.append s2) hq⟩))
      have := new_len e
      rw [List.length_append, ← s1.len, ← s2.len] at this
      exact this
    · cases e
  · cases e
theorem s_sub : OpS p (rI0 fun i j => .int (i - j)) fSub := by
  intro σ Q as H st v w x y rr st' sr hv hw e post
  unfold fSub at e
  split at e
  · simp only [SV] at hv hw; subst hv hw
    exact ⟨_, _, rfl, rfl, ok_post e sr post (by simp only [SV])⟩
  · cases e
def rMulA : R2 := fun x y H Q => rI CMulW (fun i j => .int (i * j)) x y H Q ∨ rRep x y H Q
theorem op_mulA : OpR X (binaryOp .Mult) rMulA := op_mulW.or op_rep
theorem SVs.rep {K : Kw} {as : List Addr} {H : Hp} {vs : List Vl} {xs : List V} (h : SVs K as H vs xs) : ∀ n : Nat, SVs K as H (List.replicate n vs).flatten (List.replicate n xs).flatten
  | 0 => rfl
  | n + 1 => by
    rw [List.replicate_succ, List.replicate_succ, List.flatten_cons, List.flatten_cons]
    exact h.append (SVs.rep h n)
theorem s_mul : OpS p rMulA fMul := by
  intro σ Q as H st v w x y rr st' sr hv hw e post
  unfold fMul at e
  split at e
  · simp only [SV] at hv hw; subst hv hw
    split at e
    · rename_i hz
      exact .inl ⟨_, _, rfl, rfl, hz, ok_post e sr post (by simp only [SV])⟩
    · cases e
  · split at e
    · rename_i h1
      split at e
      · rename_i hz
        obtain ⟨a, xs, rfl, _, hx, s1⟩ := sv_ref_lst sr hv h1
        simp only [SV] at hw; subst hw
        refine .inr ⟨a, _, xs, rfl, rfl, hx, hz.1, hz.2.1, by rw [s1.len, ← sline]; exact hz.2.2, fun q hq => new_post e sr post (s1.rep _) hq⟩
      · cases e
    · cases e
  · cases e
theorem s_mod : OpS p (rI (fun _ j => 0 < j) fun i j => .int (i % j)) fMod := by
  intro σ Q as H st v w x y rr st' sr hv hw e post
  unfold fMod at e
  split at e
  · simp only [SV] at hv hw; subst hv hw
    split at e
    · rename_i hz
      exact ⟨_, _, rfl, rfl, hz, ok_post e sr post (by simp only [SV])⟩
    · cases e
  · cases e
theorem s_div : OpS p (rI CDivW fun i j => .int (i / j)) fDiv := by
  intro σ Q as H st v w x y rr st' sr hv hw e post
  unfold fDiv at e
  split at e
  · simp only [SV] at hv hw; subst hv hw
    split at e
    · rename_i hz
      exact ⟨_, _, rfl, rfl, hz, ok_post e sr post (by simp only [SV])⟩
    · cases e
  · cases e
def CPowW (i j : Int) : Prop := 0 ≤ j ∧ (i.natAbs.log2 + 1) * j.toNat ≤ 100000000
theorem op_powW : OpR X (binaryOp .Pow) (rI CPowW fun i j => .int (i ^ j.toNat)) := opI fun i j _ _ _ _ _ hc q => by
  refine pow_int hc.1 ?_ q
  have b : Builtin.Int.intBits i ≤ i.natAbs.log2 + 1 := by
    unfold Builtin.Int.intBits
    split <;> omega
  have h2 : Builtin.Int.intBits i * j.toNat ≤ 100000000 := Nat.le_trans (Nat.mul_le_mul_right _ b) hc.2
  have h3 : (j.toNat : Int) = j := Int.toNat_of_nonneg hc.1
  rw [← h3]
  have h4 : ((Builtin.Int.intBits i * j.toNat : Nat) : Int) ≤ 100000000 := Int.ofNat_le.mpr h2
  have h5 : ((Builtin.Int.intBits i : Int)) * (j.toNat : Int) ≤ 100000000 := by rw [← Int.natCast_mul]; exact h4
  exact Int.le_trans h5 (by decide)
theorem s_pow : OpS p (rI CPowW fun i j => .int (i ^ j.toNat)) fPow := by
  intro σ Q as H st v w x y rr st' sr hv hw e post
  unfold fPow at e
  split at e
  · simp only [SV] at hv hw; subst hv hw
    split at e
    · rename_i hz
      exact ⟨_, _, rfl, rfl, hz, ok_post e sr post (by simp only [SV])⟩
    · cases e
  · cases e
theorem s_neg : UnS p (rU fun i => .int (-i)) fNeg := by
  intro σ Q as H st v x rr st' sr hv e post
  unfold fNeg at e
  split at e
  · simp only [SV] at hv; subst hv
    exact ⟨_, rfl, ok_post e sr post (by simp only [SV])⟩
  · cases e
theorem s_eq (hK : p.K.fr = X.K) : OpS p (rEqD X.K) fEq := by
  intro σ Q as H st v w x y rr st' sr hv hw e post
  unfold fEq at e
  split at e
  · rename_i d e' h1 h2
    rw [← hK]
    exact ⟨d, e', rd_dp sr _ v x d hv h1, rd_dp sr _ w y e' hw h2, rd_shaped h1, rd_shaped h2, ok_post e sr post (by simp only [SV])⟩
  · cases e
theorem s_ne (hK : p.K.fr = X.K) : OpS p (rNeD X.K) fNe := by
  intro σ Q as H st v w x y rr st' sr hv hw e post
  unfold fNe at e
  split at e
  · rename_i d e' h1 h2
    rw [← hK]
    exact ⟨d, e', rd_dp sr _ v x d hv h1, rd_dp sr _ w y e' hw h2, rd_shaped h1, rd_shaped h2, ok_post e sr post (by simp only [SV])⟩
  · cases e
end
end PD
set_option maxHeartbeats 4000000
namespace PD
open PySem PySem.Spec PyProof.Rows L2

def fGt : Vl → Vl → Store → Out Vl
  | .int i, .int j, st => okv (.bl (decide (j < i))) st
  | _, _, _ => none
section
variable {X : Cx} {p : Par}
theorem s_gt : OpS p (rI0 fun i j => .bl (decide (j < i))) fGt := by
  intro σ Q as H st v w x y rr st' sr hv hw e post
  unfold fGt at e
  split at e
  · simp only [SV] at hv hw; subst hv hw
    exact ⟨_, _, rfl, rfl, ok_post e sr post (by simp only [SV])⟩
  · cases e
end
end PD
set_option maxHeartbeats 4000000
namespace PD
open PySem PySem.Spec PyProof.Rows L2

def eK (v : Vl) : Ef := fun _ st => okv v st
def eV (i : Nat) : Ef := fun env st => match env[i]? with
  | some (some v) => okv v st
  | _ => none
abbrev Af := Env → Store → Out (List Vl)
abbrev Tf := Env → Store → Out Bool
def aNil : Af := fun _ st => some (.v [], st)
def aCons (f : Ef) (g : Af) : Af := fun env st => Rb (f env st) fun v st1 => Rb (g env st1) fun vs st2 => some (.v (v :: vs), st2)
def eTup (g : Af) : Ef := fun env st => Rb (g env st) fun vs st1 => if vs.length ≤ 16777216 then okv (.tup vs) st1 else none
def eLst (g : Af) : Ef := fun env st => Rb (g env st) fun vs st1 => newL vs st1
theorem Rb_assoc {α β γ : Type} (m : Out α) (k : α → Store → Out β) (j : β → Store → Out γ) : Rb (Rb m k) j = Rb m fun a s => Rb (k a s) j := by
  cases m with
  | none => rfl
  | some r =>
    obtain ⟨r, st⟩ := r
    cases r <;> rfl
def truV (st : Store) : Vl → Option Bool
  | .non => some false
  | .bl b => some b
  | .int i => some (i != 0)
  | .str y => if y.length ≤ 16777216 then some ((y.length : Int) != 0) else none
  | .tup vs => some !vs.isEmpty
  | v => (lview st v).map fun vs => !vs.isEmpty
def tTr (f : Ef) : Tf := fun env st => Rb (f env st) fun v st1 => match truV st1 v with
  | some b => some (.v b, st1)
  | none => none
def eAnd (f g : Ef) : Ef := fun env st => Rb (f env st) fun v st1 => match v with
  | .bl true => g env st1
  | .bl false => okv (.bl false) st1
  | _ => none
def tAndF (f g : Tf) : Tf := fun env st => Rb (f env st) fun b st1 => if b = true then g env st1 else some (.v false, st1)
def tOrF (f g : Tf) : Tf := fun env st => Rb (f env st) fun b st1 => if b = true then some (.v true, st1) else g env st1
def tNotF (f : Tf) : Tf := fun env st => Rb (f env st) fun b st1 => some (.v !b, st1)
def eIf (c : Tf) (f g : Ef) : Ef := fun env st => Rb (c env st) fun b st1 => if b = true then f env st1 else g env st1
def tBl (f : Ef) : Tf := fun env st => Rb (f env st) fun v st1 => match v with
  | .bl b => some (.v b, st1)
  | _ => none
section
variable {X : Cx} {p : Par} {a b e : Expr} {es : List Expr} {f g : Ef} {fs : Af} {c d : Tf} {pos : Pos}
theorem tE_eK {v : Vl} {x : V} (h : ∀ as H, SV p.K as H v x) {σ : L2.St} {H : Hp} {Q : VK} (t : tE p (eK v) σ H Q) : tC x σ H Q := by
  obtain ⟨as, env, st, sr, se, rr, st', e, post⟩ := t
  exact ok_post e sr post (h _ _)
theorem snd_int {i j pos} : Snd X p (.Constant (.int i) j pos) (eK (.int i)) := pe_mono pe_int fun _ _ _ t => tE_eK (x := .int i) (fun _ _ => by simp only [SV]) t
theorem snd_bl {b j pos} : Snd X p (.Constant (.bool b) j pos) (eK (.bl b)) := pe_mono pe_bl fun _ _ _ t => tE_eK (x := .bl b) (fun _ _ => by simp only [SV]) t
theorem snd_non {j pos} : Snd X p (.Constant .none j pos) (eK .non) := pe_mono pe_non fun _ _ _ t => tE_eK (x := .non) (fun _ _ => by simp only [SV]) t
theorem snd_str {z j pos} : Snd X p (.Constant (.str z) j pos) (eK (.str z)) := pe_mono pe_str fun _ _ _ t => tE_eK (x := .str z) (fun _ _ => by simp only [SV]) t
theorem snd_var {i : Nat} {x : Str} (hN : X.N[i]? = some x) (hv : Vis X.env.scope x) (hd : (x == ("__debug__" : Str)) = false) (hcd : (x == ("__classdict__" : Str)) = false) : Snd X p (.Name x pos) (eV i) :=
  pe_mono (pe_var hN hv hd hcd) fun σ H Q t => by
    obtain ⟨as, env, st, sr, se, rr, st', e, post⟩ := t
    unfold eV at e
    split at e
    · rename_i v hv
      obtain ⟨x, hx, s⟩ := se.2 i v hv
      exact ⟨x, hx, ok_post e sr post s⟩
    · cases e
theorem sndA_nil : SndA X p [] aNil := pa_mono pa_nil fun σ H Q t => by
  obtain ⟨as, env, st, sr, se, rr, st', e, post⟩ := t
  cases e
  exact post.v sr (show SVs p.K as H [] [] from rfl)
theorem sndA_cons (ha : Snd X p a f) (hr : SndA X p es fs) (hs : starEach (a :: es) X.env = (false, eval a X.env) :: starEach es X.env) : SndA X p (a :: es) (aCons f fs) := pa_mono (pa_cons ha hr hs) fun σ H Q t => by
  obtain ⟨as, env, st, sr, se, rr, st', e, post⟩ := t
  refine tG_step sr se e post fun v st1 as1 H1 x e1 ax gr sr1 sv k1 post1 => ?_
  refine tG_step sr1 (se.mono ax gr) k1 post1 fun w st2 as2 H2 y e2 ax2 gr2 sr2 sv2 k2 post2 => ?_
  cases k2
  exact post2.v sr2 (show SVs p.K as2 H2 (v :: w) (x :: y) from ⟨x, y, rfl, sv.mono ax2 gr2 v x, sv2⟩)
theorem snd_tup {x1} (h : SndA X p es fs) : Snd X p (.Tuple es x1 pos) (eTup fs) := pe_mono (pe_tup h) fun σ H Q t => by
  obtain ⟨as, env, st, sr, se, rr, st', e, post⟩ := t
  refine tG_step sr se e post fun vs st1 as1 H1 xs e1 ax gr sr1 sv k1 post1 => ?_
  split at k1
  · rename_i hz
    cases k1
    refine ⟨by rw [SVs.len sv, ← sline]; exact hz, fun q hq => ?_⟩
    have g' : Gr as1 H1 (upd H1 q (.tup xs)) := Gr.upd hq
    exact post1 _ _ Ax.refl g' (sr1.side hq) _ ⟨q, xs, rfl, .inl upd_same, SVs.mono Ax.refl g' _ _ sv⟩
  · cases k1
theorem snd_lst (h : SndA X p es fs) : Snd X p (.List es pos) (eLst fs) := pe_mono (pe_lst h) fun σ H Q t => by
  obtain ⟨as, env, st, sr, se, rr, st', e, post⟩ := t
  refine tG_step sr se e post fun vs st1 as1 H1 xs e1 ax gr sr1 sv k1 post1 => ?_
  exact ⟨by rw [SVs.len sv]; exact new_len k1, fun q hq => new_post k1 sr1 post1 sv hq⟩
theorem truV_ok {as : List Addr} {H : Hp} {st : Store} {v : Vl} {x : V} {k : Bool} (sr : SR p.K as H st) (h : SV p.K as H v x) (e : truV st v = some k) : TruV p.K x H k := by
  unfold truV at e
  split at e
  · simp only [SV] at h; subst h; cases e; rfl
  · simp only [SV] at h; subst h; cases e; rfl
  · simp only [SV] at h; subst h; cases e; rfl
  · simp only [SV] at h; subst h
    split at e
    · rename_i hz
      cases e
      exact ⟨by rw [← sline]; exact hz, rfl⟩
    · cases e
  · rename_i vs
    cases e
    obtain ⟨a, xs, rfl, s, r⟩ := sv_tup h
    refine .inr (.inl ⟨xs, s, ?_⟩)
    have := r.len
    cases vs <;> cases xs <;> simp_all
  · simp only [Option.map_eq_some_iff] at e
    obtain ⟨vs, e1, rfl⟩ := e
    obtain ⟨a, xs, rfl, s, r⟩ := sv_lst sr h e1
    refine .inl ⟨xs, s, ?_⟩
    have := r.len
    cases vs <;> cases xs <;> simp_all
theorem sndT_truth (hK : p.K.fr = X.K) (ha : Snd X p a f) (he : ∀ whole, isTrue a X.env whole = (do let v ← whole; standAt a.pos; holding [v] (truthy v))) : SndT X p a (tTr f) := pt_mono (pt_truth ha he) fun σ H Q t => by
  obtain ⟨as, env, st, sr, se, rr, st', e, post⟩ := t
  refine tG_step sr se e post fun v st1 as1 H1 x e1 ax gr sr1 sv k1 post1 => ?_
  split at k1
  · rename_i k hk
    cases k1
    exact ⟨k, by rw [← hK]; exact truV_ok sr1 sv hk, post1.v sr1 (show rB p.K as1 H1 k k from rfl)⟩
  · cases k1
theorem snd_one {op} (h : Snd X p a f) : Snd X p (.BoolOp op [a] pos) f := pe_one h
theorem snd_and {rest : List Expr} (ha : Snd X p a f) (hb : Snd X p (.BoolOp .And (b :: rest) pos) g) : Snd X p (.BoolOp .And (a :: b :: rest) pos) (eAnd f g) := pe_mono (pe_and ha hb) fun σ H Q t => by
  obtain ⟨as, env, st, sr, se, rr, st', e, post⟩ := t
  refine tG_step sr se e post fun v st1 as1 H1 x e1 ax gr sr1 sv k1 post1 => ?_
  split at k1
  · simp only [SV] at sv; subst sv
    exact ⟨true, rfl, ⟨as1, env, st1, sr1, se.mono ax gr, rr, st', k1, post1⟩⟩
  · simp only [SV] at sv; subst sv
    exact ⟨false, rfl, ok_post k1 sr1 post1 (by simp only [SV])⟩
  · cases k1
def SndW (X : Cx) (p : Par) (e : Expr) (f : Tf) : Prop := PW X e (tT p f)
theorem SndW.t (h : SndW X p e c) : SndT X p e c := h.pt
theorem sndW_and1 (ha : SndT X p a c) : SndW X p (.BoolOp .And [a] pos) c := pw_and1 ha
theorem sndW_or1 (ha : SndT X p a c) : SndW X p (.BoolOp .Or [a] pos) c := pw_or1 ha
theorem sndW_and {rest : List Expr} (ha : SndT X p a c) (hb : SndW X p (.BoolOp .And (b :: rest) pos) d) : SndW X p (.BoolOp .And (a :: b :: rest) pos) (tAndF c d) := pw_mono (pw_and ha hb) fun σ H Q t => by
  obtain ⟨as, env, st, sr, se, rr, st', e, post⟩ := t
  refine tG_step sr se e post fun v st1 as1 H1 x e1 ax gr sr1 sv k1 post1 => ?_
  cases (show v = x from sv)
  cases v with
  | true => exact ⟨as1, env, st1, sr1, se.mono ax gr, rr, st', k1, post1⟩
  | false => cases k1; exact post1.v sr1 (show rB p.K as1 H1 false false from rfl)
theorem sndW_or {rest : List Expr} (ha : SndT X p a c) (hb : SndW X p (.BoolOp .Or (b :: rest) pos) d) : SndW X p (.BoolOp .Or (a :: b :: rest) pos) (tOrF c d) := pw_mono (pw_or ha hb) fun σ H Q t => by
  obtain ⟨as, env, st, sr, se, rr, st', e, post⟩ := t
  refine tG_step sr se e post fun v st1 as1 H1 x e1 ax gr sr1 sv k1 post1 => ?_
  cases (show v = x from sv)
  cases v with
  | false => exact ⟨as1, env, st1, sr1, se.mono ax gr, rr, st', k1, post1⟩
  | true => cases k1; exact post1.v sr1 (show rB p.K as1 H1 true true from rfl)
theorem sndT_not (ha : SndT X p a c) : SndT X p (.UnaryOp .Not a pos) (tNotF c) := pt_mono (pt_not ha) fun σ H Q t => by
  obtain ⟨as, env, st, sr, se, rr, st', e, post⟩ := t
  refine tG_step sr se e post fun v st1 as1 H1 x e1 ax gr sr1 sv k1 post1 => ?_
  cases (show v = x from sv)
  cases k1
  exact post1.v sr1 (show rB p.K as1 H1 (!v) (!v) from rfl)
theorem snd_ite {t : Expr} (hc : SndT X p t c) (ha : Snd X p a f) (hb : Snd X p b g) : Snd X p (.IfExp t a b pos) (eIf c f g) := pe_mono (pe_ifExp hc ha hb) fun σ H Q t => by
  obtain ⟨as, env, st, sr, se, rr, st', e, post⟩ := t
  refine tG_step sr se e post fun v st1 as1 H1 x e1 ax gr sr1 sv k1 post1 => ?_
  cases (show v = x from sv)
  cases v with
  | true => exact ⟨as1, env, st1, sr1, se.mono ax gr, rr, st', k1, post1⟩
  | false => exact ⟨as1, env, st1, sr1, se.mono ax gr, rr, st', k1, post1⟩

def CmpS (X : Cx) (p : Par) (op : CmpOp) (h : Vl → Vl → Store → Out Vl) : Prop := ∃ r, OpR X (compareOp op) r ∧ OpS p r h
theorem tE_bl {σ : L2.St} {H : Hp} {Q : Bool → Hp → Prop} (t : tT p (tBl f) σ H Q) : tE p f σ H fun x H' => ∃ k, x = .bl k ∧ Q k H' := by
  obtain ⟨as, env, st, sr, se, rr, st', e, post⟩ := t
  refine tG_step sr se e post fun v st1 as1 H1 x e1 ax gr sr1 sv k1 post1 => ?_
  split at k1
  · simp only [SV] at sv; subst sv
    cases k1
    exact ⟨_, rfl, post1.v sr1 (show rB p.K as1 H1 _ _ from rfl)⟩
  · cases k1
theorem snd_cmp1 {op : CmpOp} {h : Vl → Vl → Store → Out Vl} (hc : CmpS X p op h) (ha : Snd X p a f) (hb : Snd X p b g) (hm : behindInMarks op b = false) : Snd X p (.Compare a [op] [b] pos) (bin f g h) := by
  obtain ⟨r, h1, h2⟩ := hc
  exact snd_cmp h1 h2 ha hb hm
theorem sndT_cmp1 {op : CmpOp} {h : Vl → Vl → Store → Out Vl} (hc : CmpS X p op h) (ha : Snd X p a f) (hb : Snd X p b g) (hm : behindInMarks op b = false) : SndT X p (.Compare a [op] [b] pos) (tBl (bin f g h)) := by
  obtain ⟨r, h1, h2⟩ := hc
  exact pt_mono (pt_cmpR h1 ha hb hm) fun σ H Q t => tE_bin h2 (tE_bl t)
inductive ChS (X : Cx) (p : Par) : List CmpOp → List Expr → List ((Vl → Vl → Store → Out Vl) × Ef) → Prop
  | one {op b h g} : CmpS X p op h → Snd X p b g → ChS X p [op] [b] [(h, g)]
  | cons {op b h g ops es l} : CmpS X p op h → Snd X p b g → ChS X p ops es l → ChS X p (op :: ops) (b :: es) ((h, g) :: l)
theorem ChS.ne {ops : List CmpOp} {es : List Expr} {l} (h : ChS X p ops es l) : ∃ o ops' e' es' q l', ops = o :: ops' ∧ es = e' :: es' ∧ l = q :: l' := by
  cases h with
  | one _ _ => exact ⟨_, _, _, _, _, _, rfl, rfl, rfl⟩
  | cons _ _ _ => exact ⟨_, _, _, _, _, _, rfl, rfl, rfl⟩
end
end PD
set_option maxHeartbeats 4000000
namespace PD
open PySem PySem.Spec PyProof.Rows L2

def fIx : Vl → Vl → Store → Out Vl
  | .tup vs, .int i, st => match atI vs i with
    | some v => okv v st
    | none => none
  | .str z, .int i, st => if z.length ≤ 16777216 then match atI z.cps.toList i with
      | some c => okv (.str ⟨#[c]⟩) st
      | none => none
    else none
  | v, .int i, st => match lview st v with
    | some vs => match atI vs i with
      | some v => okv v st
      | none => none
    | none => none
  | _, _, _ => none
def cutL {α : Type} (xs : List α) (lo hi : Option Int) : List α := (xs.drop (HT.sIx xs.length 0 lo)).take (HT.sIx xs.length xs.length hi - HT.sIx xs.length 0 lo)
def fSl (lo hi : Option Int) : Vl → Store → Out Vl
  | .tup vs, st => okv (.tup (cutL vs lo hi)) st
  | .str z, st => if z.length ≤ 16777216 then okv (.str (cutS z lo hi)) st else none
  | v, st => match lview st v with
    | some vs => newL (cutL vs lo hi) st
    | none => none
def fRev (v : Vl) (st : Store) : Out Vl := match lview st v with
  | some vs => newL vs.reverse st
  | none => none
section
variable {X : Cx} {p : Par} {a b e : Expr} {f g : Ef} {pos : Pos}
theorem SVs.drop {K : Kw} {as : List Addr} {H : Hp} : ∀ {vs : List Vl} {xs : List V} (n : Nat), SVs K as H vs xs → SVs K as H (vs.drop n) (xs.drop n)
  | vs, xs, 0, h => h
  | [], xs, n + 1, h => by simp only [SVs] at h; subst h; rfl
  | v :: vs, xs, n + 1, h => by
    simp only [SVs] at h
    obtain ⟨x, r, rfl, _, h2⟩ := h
    exact SVs.drop n h2
theorem SVs.take {K : Kw} {as : List Addr} {H : Hp} : ∀ {vs : List Vl} {xs : List V} (n : Nat), SVs K as H vs xs → SVs K as H (vs.take n) (xs.take n)
  | vs, xs, 0, h => rfl
  | [], xs, n + 1, h => by simp only [SVs] at h; subst h; rfl
  | v :: vs, xs, n + 1, h => by
    simp only [SVs] at h
    obtain ⟨x, r, rfl, h1, h2⟩ := h
    exact ⟨x, r.take n, rfl, h1, SVs.take n h2⟩
theorem SVs.cut {K : Kw} {as : List Addr} {H : Hp} {vs : List Vl} {xs : List V} (h : SVs K as H vs xs) (lo hi : Option Int) : SVs K as H (cutL vs lo hi) (cutV xs lo hi) := by
  unfold cutL cutV
  rw [h.len]
  exact (h.drop _).take _
theorem SVs.rev {K : Kw} {as : List Addr} {H : Hp} : ∀ {vs : List Vl} {xs : List V}, SVs K as H vs xs → SVs K as H vs.reverse xs.reverse
  | [], xs, h => by simp only [SVs] at h; subst h; rfl
  | v :: vs, xs, h => by
    simp only [SVs] at h
    obtain ⟨x, r, rfl, h1, h2⟩ := h
    rw [List.reverse_cons, List.reverse_cons]
    exact (SVs.rev h2).append ⟨x, [], rfl, h1, rfl⟩
theorem sv_at {K : Kw} {as : List Addr} {H : Hp} {vs : List Vl} {xs : List V} {i : Int} {v : Vl} (h : SVs K as H vs xs) (e : atI vs i = some v) : ∃ x, atI xs i = some x ∧ SV K as H v x := by
  unfold atI at e ⊢
  rw [h.len]
  cases q : ixN vs.length i with
  | none => rw [q] at e; cases e
  | some j =>
    rw [q] at e
    exact h.get (show vs[j]? = some v from e)
theorem s_ix (hK : p.K.fr = X.K) : OpS p (rIx X.K) fIx := by
  intro σ Q as H st v w x y rr st' sr hv hw e post
  unfold fIx at e
  rw [← hK]
  split at e
  · split at e
    · rename_i u hu
      obtain ⟨a, xs, rfl, s, r⟩ := sv_tup hv
      simp only [SV] at hw; subst hw
      obtain ⟨z, hz, sz⟩ := sv_at r hu
      exact .inr (.inl ⟨a, xs, _, z, rfl, rfl, s, hz, ok_post e sr post sz⟩)
    · cases e
  · split at e
    · rename_i hz
      split at e
      · rename_i c hc
        simp only [SV] at hv hw; subst hv hw
        exact .inr (.inr ⟨_, _, c, rfl, rfl, by rw [← sline]; exact hz, hc, ok_post e sr post (by simp only [SV])⟩)
      · cases e
    · cases e
  · split at e
    · rename_i vs hl
      split at e
      · rename_i u hu
        obtain ⟨a, xs, rfl, s, r⟩ := sv_lst sr hv hl
        simp only [SV] at hw; subst hw
        obtain ⟨z, hz, sz⟩ := sv_at r hu
        exact .inl ⟨a, xs, _, z, rfl, rfl, s, hz, ok_post e sr post sz⟩
      · cases e
    · cases e
  · cases e
theorem snd_ix (hK : p.K.fr = X.K) (ha : Snd X p a f) (hb : Snd X p b g) (hs : PlainIx b) : Snd X p (.Subscript a b pos) (bin f g fIx) := pe_mono (pe_ix ix_seq ha hb hs) fun σ H Q t => tE_bin (s_ix hK) t
abbrev Of := Env → Store → Out (Option Int)
def rO : Kw → List Addr → Hp → Option Int → Option Int → Prop := fun _ _ _ a b => a = b
def oPart (f : Ef) : Of := fun env st => Rb (f env st) fun v st1 => match v with
  | .int i => some (.v (some i), st1)
  | _ => none
def SndO (X : Cx) (p : Par) (e : Option Expr) (f : Of) : Prop := PO X e (tG rO p f)
theorem po_mono {e : Option Expr} {t t' : TO} (h : PO X e t) (m : ∀ σ H Q, t' σ H Q → t σ H Q) : PO X e t' := ⟨fun pins s σ H Q I q => h.run pins s σ H Q I (m σ H Q q)⟩
theorem sndO_part (h : Snd X p e f) : SndO X p (some e) (oPart f) := po_mono (po_some h) fun σ H Q t => by
  obtain ⟨as, env, st, sr, se, rr, st', e, post⟩ := t
  refine tG_step sr se e post fun v st1 as1 H1 x e1 ax gr sr1 sv k1 post1 => ?_
  split at k1
  · simp only [SV] at sv; subst sv
    cases k1
    exact ⟨_, rfl, post1.v sr1 (show rO p.K as1 H1 _ _ from rfl)⟩
  · cases k1
def rSlU (K : PySem.W.Frag) : V → Option Int → Option Int → Hp → VK → Prop := fun x lo hi H Q => rSlA K x lo hi H Q ∨ rSlS x lo hi H Q ∨ rSlL K x lo hi H Q
theorem sl_any : SlR X (rSlU X.K) := sl_tupA.or (sl_str.or sl_list)
def eSl (f : Ef) (lo hi : Of) : Ef := fun env st => Rb (f env st) fun v st1 => Rb (lo env st1) fun l st2 => Rb (hi env st2) fun h st3 => fSl l h v st3
theorem snd_sl {lo hi : Option Expr} {fl fh : Of} {p2 : Pos} (hK : p.K.fr = X.K) (ha : Snd X p e f) (hl : SndO X p lo fl) (hh : SndO X p hi fh) : Snd X p (.Subscript e (.Slice lo hi none p2) pos) (eSl f fl fh) :=
  pe_mono (pe_slice sl_any ha hl hh) fun σ H Q t => by
    obtain ⟨as, env, st, sr, se, rr, st', e, post⟩ := t
    refine tG_step sr se e post fun v st1 as1 H1 x e1 ax gr sr1 sv k1 post1 => ?_
    refine tG_step sr1 (se.mono ax gr) k1 post1 fun l st2 as2 H2 l' e2 ax2 gr2 sr2 sl k2 post2 => ?_
    refine tG_step sr2 ((se.mono ax gr).mono ax2 gr2) k2 post2 fun h st3 as3 H3 h' e3 ax3 gr3 sr3 sh k3 post3 => ?_
    cases (show l = l' from sl)
    cases (show h = h' from sh)
    replace sv := (sv.mono ax2 gr2 v x).mono ax3 gr3 v x
    rw [← hK]
    unfold fSl at k3
    split at k3
    · rename_i vs
      obtain ⟨a, xs, rfl, s, r⟩ := sv_tup sv
      cases k3
      refine .inl ⟨a, xs, rfl, s, fun hw => ?_, fun hw q hq => ?_⟩
      · refine post3.v sr3 ?_
        have e : cutL vs l h = vs := by
          unfold cutL
          rw [← r.len, hw.1, hw.2, List.drop_zero, Nat.sub_zero, r.len, List.take_length]
        rw [e]; exact sv
      · have g' : Gr as3 H3 (upd H3 q (.tup (cutV xs l h))) := Gr.upd hq
        exact post3 _ _ Ax.refl g' (sr3.side hq) _ ⟨q, _, rfl, .inl upd_same, (r.cut l h).mono Ax.refl g'⟩
    · split at k3
      · rename_i hz
        simp only [SV] at sv; subst sv
        exact .inr (.inl ⟨_, rfl, by rw [← sline]; exact hz, ok_post k3 sr3 post3 (by simp only [SV])⟩)
      · cases k3
    · split at k3
      · rename_i vs hlv
        obtain ⟨a, xs, rfl, s, r⟩ := sv_lst sr3 sv hlv
        exact .inr (.inr ⟨a, xs, rfl, s, fun q hq => new_post k3 sr3 post3 (r.cut l h) hq⟩)
      · cases k3
theorem snd_rev {k : Nat} {p1 p2 p3 : Pos} (hK : p.K.fr = X.K) (ha : Snd X p e f) : Snd X p (.Subscript e (.Slice none none (some (.UnaryOp .USub (.Constant (.int 1) k p1) p2)) p3) pos) (una f fRev) :=
  pe_mono (pe_revL ha) fun σ H Q t => by
    obtain ⟨as, env, st, sr, se, rr, st', e, post⟩ := t
    refine tG_step sr se e post fun v st1 as1 H1 x e1 ax gr sr1 sv k1 post1 => ?_
    unfold fRev at k1
    split at k1
    · rename_i vs hlv
      obtain ⟨a, xs, rfl, s, r⟩ := sv_lst sr1 sv hlv
      exact ⟨a, xs, rfl, by rw [← hK]; exact s, fun q hq => new_post k1 sr1 post1 r.rev hq⟩
    · cases k1
end

inductive Fl where
  | nx | bk | ct | rt (v : Vl) | x (c : Str) (u : Vl)
abbrev SOut := Option (Fl × Env × Store)
abbrev Sf := Env → Store → SOut
def PostS (p : Par) (as : List Addr) (H : Hp) (fl : Fl) (env' : Env) (st' : Store) (D : Ends) : Prop := ∀ as' H', Ax as as' H → Gr as H H' → SR p.K as' H' st' →
  match fl with
  | .nx => ∀ σ', SEnv p.K as' H' env' σ' → D.nx σ' H'
  | .bk => ∀ σ', SEnv p.K as' H' env' σ' → D.bk σ' H'
  | .ct => ∀ σ', SEnv p.K as' H' env' σ' → D.ct σ' H'
  | .rt v => ∀ x, SV p.K as' H' v x → D.rt x H'
  | .x c u => ∀ σ' cls d, SEnv p.K as' H' env' σ' → SX p.K as' H' p.xc c u cls d → p.W cls d σ' H'
def tS (p : Par) (f : Sf) : TS := fun D σ H => ∃ as env st, SR p.K as H st ∧ SEnv p.K as H env σ ∧ ∃ fl env' st', f env st = some (fl, env', st') ∧ PostS p as H fl env' st' D
def SndS (X : Cx) (p : Par) (s : Stmt) (f : Sf) : Prop := PS X s (tS p f)
def SndB (X : Cx) (p : Par) (s : List Stmt) (f : Sf) : Prop := PSs X s (tS p f)
theorem ps_mono {X : Cx} {e : Stmt} {t t' : TS} (h : PS X e t) (m : ∀ D σ H, t' D σ H → t D σ H) : PS X e t' := ⟨fun pins s σ H D I q => h.run pins s σ H D I (m D σ H q)⟩
theorem pss_mono {X : Cx} {e : List Stmt} {t t' : TS} (h : PSs X e t) (m : ∀ D σ H, t' D σ H → t D σ H) : PSs X e t' := ⟨fun pins s σ H D I q => h.run pins s σ H D I (m D σ H q)⟩
def sB {α : Type} (env : Env) (m : Out α) (k : α → Store → SOut) : SOut := match m with
  | none => none
  | some (.v v, st) => k v st
  | some (.x c u, st) => some (.x c u, env, st)
section
variable {α β : Type} {rel : Kw → List Addr → Hp → α → β → Prop}
variable {p : Par} {as as1 : List Addr} {H H1 : Hp} {σ : L2.St} {R : β → Hp → Prop} {fl : Fl} {st st' : Store} {env env' : Env} {D : Ends}
theorem PostS.trans (h : PostS p as H fl env' st' D) (x : Ax as as1 H) (g : Gr as H H1) : PostS p as1 H1 fl env' st' D := fun as' H' x' g' s => h as' H' (x.trans g x') (Gr.trans x g g') s
theorem tS_step {f : Env → Store → Out α} {k : α → Store → SOut} (sr : SR p.K as H st) (se : SEnv p.K as H env σ) (e : sB env (f env st) k = some (fl, env', st')) (post : PostS p as H fl env' st' D)
    (step : ∀ v st1 as1 H1 x, f env st = some (.v v, st1) → Ax as as1 H → Gr as H H1 → SR p.K as1 H1 st1 → rel p.K as1 H1 v x → k v st1 = some (fl, env', st') → PostS p as1 H1 fl env' st' D → R x H1) : tG rel p f σ H R := by
  unfold sB at e
  split at e
  · cases e
  · rename_i v st1 e1
    exact ⟨as, env, st, sr, se, .v v, st1, e1, fun as' H' x g s y sv => step v st1 as' H' y e1 x g s sv e (post.trans x g)⟩
  · rename_i c u st1 e1
    cases e
    exact ⟨as, env, st, sr, se, .x c u, st', e1, fun as' H' x g s cls d sx => post as' H' x g s σ cls d (se.mono x g) sx⟩
end
def bNil : Sf := fun env st => some (.nx, env, st)
def bCons (f g : Sf) : Sf := fun env st => match f env st with
  | some (.nx, env1, st1) => g env1 st1
  | r => r
def sExpr (f : Ef) : Sf := fun env st => sB env (f env st) fun _ st1 => some (.nx, env, st1)
def sRet (f : Ef) : Sf := fun env st => sB env (f env st) fun v st1 => some (.rt v, env, st1)
def sIf (c : Tf) (f g : Sf) : Sf := fun env st => sB env (c env st) fun b st1 => if b = true then f env st1 else g env st1
section
variable {X : Cx} {p : Par} {s : Stmt} {ss ss' : List Stmt} {f g : Sf} {e : Expr} {ef : Ef} {c : Tf} {pos : Pos}
theorem sndB_nil : SndB X p [] bNil := pss_mono pss_nil fun D σ H t => by
  obtain ⟨as, env, st, sr, se, fl, env', st', e, post⟩ := t
  cases e
  exact post as H Ax.refl Gr.refl sr σ se
theorem sndB_cons (h1 : SndS X p s f) (h2 : SndB X p ss g) : SndB X p (s :: ss) (bCons f g) := pss_mono (pss_cons h1 h2) fun D σ H t => by
  obtain ⟨as, env, st, sr, se, fl, env', st', e, post⟩ := t
  unfold bCons at e
  split at e
  · rename_i env1 st1 e1
    exact ⟨as, env, st, sr, se, .nx, env1, st1, e1, fun as1 H1 ax gr s1 σ1 se1 => ⟨as1, env1, st1, s1, se1, fl, env', st', e, post.trans ax gr⟩⟩
  · rename_i r hr
    refine ⟨as, env, st, sr, se, fl, env', st', e, fun as1 H1 ax gr s1 => ?_⟩
    have q := post as1 H1 ax gr s1
    cases fl with
    | nx => exact absurd e (by intro z; exact hr _ _ z)
    | bk => exact q
    | ct => exact q
    | rt v => exact q
    | x c u => exact q
theorem sndS_expr (h : Snd X p e ef) (hs : swapsWith e none pos.line X.env = pure false) : SndS X p (.Expr e pos) (sExpr ef) := ps_mono (ps_expr h hs) fun D σ H t => by
  obtain ⟨as, env, st, sr, se, fl, env', st', e, post⟩ := t
  refine tS_step sr se e post fun v st1 as1 H1 x e1 ax gr sr1 sv k1 post1 => ?_
  cases k1
  exact post1 as1 H1 Ax.refl Gr.refl sr1 σ (se.mono ax gr)
theorem sndS_ret (h : Snd X p e ef) : SndS X p (.Return (some e) pos) (sRet ef) := ps_mono (ps_ret h) fun D σ H t => by
  obtain ⟨as, env, st, sr, se, fl, env', st', e, post⟩ := t
  refine tS_step sr se e post fun v st1 as1 H1 x e1 ax gr sr1 sv k1 post1 => ?_
  cases k1
  exact post1 as1 H1 Ax.refl Gr.refl sr1 x sv
theorem sndS_if {t : Expr} (hc : SndT X p t c) (ha : SndB X p ss f) (hb : SndB X p ss' g) : SndS X p (.If t ss ss' pos) (sIf c f g) := ps_mono (ps_if hc ha hb) fun D σ H t => by
  obtain ⟨as, env, st, sr, se, fl, env', st', e, post⟩ := t
  refine tS_step sr se e post fun v st1 as1 H1 x e1 ax gr sr1 sv k1 post1 => ?_
  cases (show v = x from sv)
  cases v with
  | true => exact ⟨as1, env, st1, sr1, se.mono ax gr, fl, env', st', k1, post1⟩
  | false => exact ⟨as1, env, st1, sr1, se.mono ax gr, fl, env', st', k1, post1⟩
end
end PD
set_option maxHeartbeats 4000000
namespace PD
open PySem PySem.Spec PyProof.Rows L2

abbrev Gf := Vl → Env → Store → Option (Env × Store)
def tGt (p : Par) (slots : List Nat) (g : Gf) : TG := fun v σ H Q => ∃ as env st u, SR p.K as H st ∧ SEnv p.K as H env σ ∧ SV p.K as H u v ∧ ∃ env' st', g u env st = some (env', st') ∧
  ∀ as' H' σ', Ax as as' H → Gr as H H' → SR p.K as' H' st' → SEnv p.K as' H' env' σ' → σ'.length = σ.length → (∀ j, j ∉ slots → σ'[j]? = σ[j]?) → Q σ' H'
def SndG (X : Cx) (p : Par) (tg : Expr) (slots : List Nat) (g : Gf) : Prop := PG X tg (tGt p slots g)
theorem pg_mono {X : Cx} {e : Expr} {t t' : TG} (h : PG X e t) (m : ∀ v σ H Q, t' v σ H Q → t v σ H Q) : PG X e t' := ⟨fun pins s σ H v u Q I r q => h.run pins s σ H v u Q I r (m v σ H Q q)⟩
theorem PG.or {X : Cx} {e : Expr} {t t' : TG} (h : PG X e t) (h' : PG X e t') : PG X e (fun v σ H Q => t v σ H Q ∨ t' v σ H Q) := ⟨fun pins s σ H v u Q I r q => q.elim (h.run pins s σ H v u Q I r) (h'.run pins s σ H v u Q I r)⟩
def gN (i : Nat) : Gf := fun u env st => if i < env.length then some (env.set i (some u), st) else none
abbrev Gsf := List Vl → Env → Store → Option (Env × Store)
def gsNil : Gsf := fun us env st => match us with
  | [] => some (env, st)
  | _ => none
def gsCons (g : Gf) (gs : Gsf) : Gsf := fun us env st => match us with
  | u :: us => match g u env st with
    | some (env1, st1) => gs us env1 st1
    | none => none
  | [] => none
def gT (n : Nat) (gs : Gsf) : Gf := fun u env st => match u with
  | .tup vs => if vs.length = n then gs vs env st else none
  | u => match lview st u with
    | some vs => if vs.length = n then gs vs env st else none
    | none => none
theorem SEnv.set {K : Kw} {as : List Addr} {H : Hp} {env : Env} {σ : L2.St} (h : SEnv K as H env σ) {i : Nat} {u : Vl} {v : V} (s : SV K as H u v) : SEnv K as H (env.set i (some u)) (σ.set i (some v)) := by
  refine ⟨by simp [h.1], fun j w e => ?_⟩
  by_cases hj : i = j
  · subst hj
    have hl : i < env.length := by
      have := (List.getElem?_eq_some_iff.mp e).1
      simpa using this
    rw [List.getElem?_set_self hl] at e
    cases e
    exact ⟨v, List.getElem?_set_self (by rw [h.1]; exact hl), s⟩
  · rw [List.getElem?_set_ne hj] at e
    obtain ⟨x, e1, s1⟩ := h.2 j w e
    exact ⟨x, by rw [List.getElem?_set_ne hj]; exact e1, s1⟩
def tGts (p : Par) (slots : List Nat) (g : Gsf) : TGs := fun vs σ H Q => ∃ as env st us, SR p.K as H st ∧ SEnv p.K as H env σ ∧ SVs p.K as H us vs ∧ ∃ env' st', g us env st = some (env', st') ∧
  ∀ as' H' σ', Ax as as' H → Gr as H H' → SR p.K as' H' st' → SEnv p.K as' H' env' σ' → σ'.length = σ.length → (∀ j, j ∉ slots → σ'[j]? = σ[j]?) → Q σ' H'
def SndGs (X : Cx) (p : Par) (tgs : List Expr) (slots : List Nat) (g : Gsf) : Prop := PGs X tgs (tGts p slots g)
theorem pgs_mono {X : Cx} {e : List Expr} {t t' : TGs} (h : PGs X e t) (m : ∀ v σ H Q, t' v σ H Q → t v σ H Q) : PGs X e t' := ⟨fun pins s σ H v u Q I r q => h.run pins s σ H v u Q I r (m v σ H Q q)⟩
section
variable {X : Cx} {p : Par} {e : Expr} {es : List Expr} {sl sl' : List Nat} {g : Gf} {gs : Gsf} {pos : Pos}
theorem sndG_name {i : Nat} {x : Str} (hN : X.N.Nodup) (hi : X.N[i]? = some x) (hx : Loc X.env.scope x) (hf : X.fn x = true ∨ X.env.scope.names.lookup x = some .local) : SndG X p (.Name x pos) [i] (gN i) :=
  pg_mono (pg_name hN hi hx hf) fun v σ H Q t => by
    obtain ⟨as, env, st, u, sr, se, sv, env', st', e, post⟩ := t
    unfold gN at e
    split at e
    · cases e
      refine post as H (σ.set i (some v)) Ax.refl Gr.refl sr (se.set sv) (by simp) fun j hj => ?_
      rw [List.getElem?_set_ne (fun z => hj (by simp [z]))]
    · cases e
theorem sndGs_nil : SndGs X p [] [] gsNil := pgs_mono pgs_nil fun v σ H Q t => by
  obtain ⟨as, env, st, u, sr, se, sv, env', st', e, post⟩ := t
  unfold gsNil at e
  split at e
  · cases e
    simp only [SVs] at sv; subst sv
    exact ⟨rfl, post as H σ Ax.refl Gr.refl sr se rfl fun _ _ => rfl⟩
  · cases e
theorem sndGs_cons (h1 : SndG X p e sl g) (h2 : SndGs X p es sl' gs) (hs : (assignEach (e :: es) X.env).map (·.2) = assign e X.env :: (assignEach es X.env).map (·.2)) : SndGs X p (e :: es) (sl ++ sl') (gsCons g gs) :=
  pgs_mono (pgs_cons h1 h2 hs) fun v σ H Q t => by
    obtain ⟨as, env, st, us, sr, se, sv, env', st', e, post⟩ := t
    unfold gsCons at e
    split at e
    · rename_i u us
      split at e
      · rename_i env1 st1 e1
        simp only [SVs] at sv
        obtain ⟨x, r, rfl, s1, s2⟩ := sv
        refine ⟨x, r, rfl, as, env, st, u, sr, se, s1, env1, st1, e1, fun as1 H1 σ1 ax gr sr1 se1 hl hj => ?_⟩
        refine ⟨as1, env1, st1, us, sr1, se1, s2.mono ax gr, env', st', e, fun as2 H2 σ2 ax2 gr2 sr2 se2 hl2 hj2 => ?_⟩
        exact post as2 H2 σ2 (ax.trans gr ax2) (Gr.trans ax gr gr2) sr2 se2 (hl2.trans hl) fun j hn => (hj2 j fun z => hn (List.mem_append_right _ z)).trans (hj j fun z => hn (List.mem_append_left _ z))
      · cases e
    · cases e
theorem sndG_tup {k n : Nat} (hK : p.K.fr = X.K) (hc : X.calm = true) (h : SndGs X p es sl gs) (hn : (assignEach es X.env).length = n) (hst : (assignEach es X.env).findIdx? (·.1) = none) : SndG X p (.Tuple es k pos) sl (gT n gs) :=
  pg_mono (PG.or (pg_tup (n := n) hc h hn hst) (pg_unl (n := n) hc h hn hst)) fun v σ H Q t => by
    obtain ⟨as, env, st, u, sr, se, sv, env', st', e, post⟩ := t
    unfold gT at e
    split at e
    · rename_i vs
      split at e
      · rename_i hl
        obtain ⟨a, xs, rfl, s, r⟩ := sv_tup sv
        exact .inl ⟨a, xs, rfl, by rw [← hK]; exact s, by rw [r.len]; exact hl, as, env, st, vs, sr, se, r, env', st', e, post⟩
      · cases e
    · split at e
      · rename_i vs hv
        split at e
        · rename_i hl
          obtain ⟨a, xs, rfl, s, r⟩ := sv_lst sr sv hv
          exact .inr ⟨a, xs, rfl, by rw [← hK]; exact s, by rw [r.len]; exact hl, as, env, st, vs, sr, se, r, env', st', e, post⟩
        · cases e
      · cases e
end

def sAsg (f : Ef) (g : Gf) : Sf := fun env st => sB env (f env st) fun v st1 => match g v env st1 with
  | some (env2, st2) => some (.nx, env2, st2)
  | none => none
section
variable {X : Cx} {p : Par} {e tg : Expr} {sl : List Nat} {f : Ef} {fs : Af} {g : Gf} {pos : Pos}
theorem tS_asg {D : Ends} {σ : L2.St} {H : Hp} (t : tS p (sAsg f g) D σ H) : tAsg (tE p f) (tGt p sl g) D σ H := by
  obtain ⟨as, env, st, sr, se, fl, env', st', e, post⟩ := t
  refine tS_step sr se e post fun v st1 as1 H1 x e1 ax gr sr1 sv k1 post1 => ?_
  split at k1
  · rename_i env2 st2 e2
    cases k1
    exact ⟨as1, env, st1, v, sr1, se.mono ax gr, sv, env', st', e2, fun as' H' σ' ax' gr' sr' se' _ _ => post1 as' H' ax' gr' sr' σ' se'⟩
  · cases k1
theorem sndS_asg (he : Snd X p e f) (hg : SndG X p tg sl g) (hs : swapsWithSole [tg] e pos.line X.env = pure false) (hw : swappedStores [tg] e X.env = pure none) (h1 : (assignEach [tg] X.env).map (·.2) = [assign tg X.env]) : SndS X p (.Assign [tg] e pos) (sAsg f g) :=
  ps_mono (ps_asg he hg hs hw h1) fun D σ H t => tS_asg t
end

abbrev Iv := Nat → Store → Option (Option Vl)
structure JOk (K : Kw) (as0 : List Addr) (H0 : Hp) (nx : Iv) (J : It) : Prop where
  go : ∀ (i : Nat) as H st v, Ax as0 as H0 → Gr as0 H0 H → SR K as H st → nx i st = some (some v) → J.go i H
  yld : ∀ (i : Nat) as H st x H' v, Ax as0 as H0 → Gr as0 H0 H → SR K as H st → nx i st = some (some v) → J.yld i H x H' → Gr as H H' ∧ SR K as H' st ∧ SV K as H' v x
  stop : ∀ (i : Nat) as H st, Ax as0 as H0 → Gr as0 H0 H → SR K as H st → nx i st = some none → J.stop i H
abbrev If := Env → Store → Out Iv
def SndI (X : Cx) (p : Par) (tg e : Expr) (f : If) : Prop := PI X tg e (tG JOk p f)
theorem pi_mono {X : Cx} {tg e : Expr} {t t' : TI} (h : PI X tg e t) (m : ∀ σ H Q, t' σ H Q → t σ H Q) : PI X tg e t' := ⟨fun pins s σ H Q I q => h.run pins s σ H Q I (m σ H Q q)⟩
theorem PI.or {X : Cx} {tg e : Expr} {t t' : TI} (h : PI X tg e t) (h' : PI X tg e t') : PI X tg e (fun σ H R => t σ H R ∨ t' σ H R) := ⟨fun pins s σ H R I q => q.elim (h.run pins s σ H R I) (h'.run pins s σ H R I)⟩
def ivFix (items : List Vl) : Iv := fun i _ => some items[i]?
def ivLive (k : Nat) : Iv := fun i st => match st[k]? with
  | some (.lst vs) => some vs[i]?
  | _ => none
def ivOf (st : Store) : Vl → Option Iv
  | .tup vs => some (ivFix vs)
  | .klst vs => some (ivFix vs)
  | .str z => some (ivFix (z.cps.toList.map fun c => .str ⟨#[c]⟩))
  | .ref k => match st[k]? with
    | some (.lst _) => some (ivLive k)
    | _ => none
  | _ => none
def iVal (f : Ef) : If := fun env st => Rb (f env st) fun v st1 => match ivOf st1 v with
  | some iv => some (.v iv, st1)
  | none => none
section
variable {X : Cx} {p : Par} {tg e : Expr} {f : Ef}
theorem sndI_val (hK : p.K.fr = X.K) (he : Snd X p e f) : SndI X p tg e (iVal f) := by
  refine ⟨fun pins s σ H R I t => ?_⟩
  obtain ⟨as, env, st, sr, se, rr, st', e1, post⟩ := t
  refine thn (he.run pins s σ H _ I (tG_step (R := fun x H1 => ∃ v st1 as1, Ax as as1 H ∧ Gr as H H1 ∧ SR p.K as1 H1 st1 ∧ SV p.K as1 H1 v x ∧ (match ivOf st1 v with | some iv => some (Rs.v iv, st1) | none => none) = some (rr, st') ∧ Post JOk p σ as1 H1 rr st' R)
    sr se e1 post fun v st1 as1 H1 x e1 ax gr sr1 sv k1 post1 => ⟨v, st1, as1, ax, gr, sr1, sv, k1, post1⟩)) fun vv s1 ⟨x, H1, I1, r1, v, st1, as1, ax, gr, sr1, sv, k1, post1⟩ => ?_
  split at k1
  · rename_i iv hiv
    cases k1
    unfold ivOf at hiv
    split at hiv
    · rename_i vs
      cases hiv
      obtain ⟨a, xs, rfl, sq, r⟩ := sv_tup sv
      cases r1
      rw [hK] at sq
      obtain ⟨its, rv, pt, hz⟩ := I1.tuple sq
      refine wpAny_pyIter_tuple (show s1.heap.IsTuple a its.toArray from pt) ?_
      refine ⟨s1.heap.objs.size, [s1.heap.objs.size], _, _, H1, rfl, I1.kept (t' := s1.toks) fun b o e => Heap.get?_push_of_some _ e, turn_tuple a _, ⟨_, Heap.get?_push_size _ rfl, rfl, rfl⟩, fun b hb => ?_, post1.v sr1 ?_⟩
      · have e : b = s1.heap.objs.size := by simpa using hb
        subst e
        exact I1.fpOk (Nat.le_refl _) (I1.hok.fresh (Nat.le_refl _))
      · have tu : ∀ H, Gr as1 H1 H → SqT X.K H a xs := fun H g => by
          rw [← hK] at sq ⊢
          rcases sq with (q | ⟨o, q⟩) | q
          · exact .inl (.inl (g.tup _ _ q))
          · simp only [SV] at sv
            obtain ⟨a', xs', ea, q', r'⟩ := sv
            cases ea
            rcases q' with q' | ⟨o1, its1, n1, k1, _⟩
            · rw [q] at q'; cases q'
            · have := (I1.bs a o1 ((by have := I1.mod.kin a o1 (by rw [← hK]; exact k1); exact this))).2
              rw [q] at this; cases this
          · exact .inr q
        refine ⟨fun i as H st v _ g _ hv => ?_, fun i as H st x H' v ax2 g2 sr2 hv hy => ?_, fun i as H st _ g _ hv => ⟨xs, tu H g, by rw [r.len]; exact List.getElem?_eq_none_iff.mp (Option.some.inj hv)⟩⟩
        · have hi' : i < xs.length := by rw [r.len]; exact (List.getElem?_eq_some_iff.mp (Option.some.inj hv)).1
          exact ⟨xs, xs[i], tu H g, by simp [hi']⟩
        · obtain ⟨rfl, hy⟩ := hy
          obtain ⟨y, hy1, sy⟩ := (r.mono ax2 g2).get (Option.some.inj hv)
          have := hy xs (tu _ g2)
          rw [hy1] at this
          cases this
          exact ⟨Gr.refl, sr2, sy⟩
    · rename_i vs
      cases hiv
      obtain ⟨a, xs, rfl, sq, r⟩ := sv_lst sr1 sv rfl
      cases r1
      have sv0 := sv
      rw [hK] at sq
      obtain ⟨its, rv, pt, hz⟩ := I1.list sq
      refine wpAny_pyIter_list pt.isList ?_
      refine ⟨s1.heap.objs.size, [s1.heap.objs.size], _, _, H1, rfl, I1.kept (t' := s1.toks) fun b o e => Heap.get?_push_of_some _ e, turn_list a _, ⟨_, Heap.get?_push_size _ rfl, rfl, rfl⟩, fun b hb => ?_, post1.v sr1 ?_⟩
      · have e : b = s1.heap.objs.size := by simpa using hb
        subst e
        exact I1.fpOk (Nat.le_refl _) (I1.hok.fresh (Nat.le_refl _))
      · simp only [SV] at sv0
        obtain ⟨a', xs', ea, q', r'⟩ := sv0
        cases ea
        have tu : ∀ H, Gr as1 H1 H → SqL X.K H a xs' := fun H g => by
          rcases q' with ⟨o, q, n⟩ | q'
          · exact .inl (.inr ⟨o, g.oth _ _ n q (fun _ z => nomatch z)⟩)
          · exact .inr (by rw [← hK]; exact q')
        refine ⟨fun i as H st v _ g _ hv => ?_, fun i as H st x H' v ax2 g2 sr2 hv hy => ?_, fun i as H st _ g _ hv => ⟨xs', tu H g, by rw [r'.len]; exact List.getElem?_eq_none_iff.mp (Option.some.inj hv)⟩⟩
        · have hi' : i < xs'.length := by rw [r'.len]; exact (List.getElem?_eq_some_iff.mp (Option.some.inj hv)).1
          exact ⟨xs', xs'[i], tu H g, by simp [hi']⟩
        · obtain ⟨rfl, hy⟩ := hy
          obtain ⟨y, hy1, sy⟩ := (r'.mono ax2 g2).get (Option.some.inj hv)
          have := hy xs' (tu _ g2)
          rw [hy1] at this
          cases this
          exact ⟨Gr.refl, sr2, sy⟩
    · rename_i z
      cases hiv
      simp only [SV] at sv; subst sv
      obtain ⟨t, rfl⟩ := r1
      have jk : ∀ as H, JOk p.K as H (ivFix (z.cps.toList.map fun c => Vl.str ⟨#[c]⟩)) (Its z) := fun as H => by
        have gt : ∀ {i : Nat} {st : Store} {v : Vl}, ivFix (z.cps.toList.map fun c => Vl.str ⟨#[c]⟩) i st = some (some v) → ∃ c, z.cps[i]? = some c ∧ v = .str ⟨#[c]⟩ := fun {i st v} e => by
          have e := Option.some.inj e
          rw [List.getElem?_map] at e
          cases q : z.cps.toList[i]? with
          | none => rw [q] at e; cases e
          | some c => rw [q] at e; cases e; exact ⟨c, by simpa using q, rfl⟩
        refine ⟨fun i as H st v _ _ _ hv => ?_, fun i as H st x H' v ax2 g2 sr2 hv hy => ?_, fun i as H st _ _ _ hv => ?_⟩
        · obtain ⟨c, hc, _⟩ := gt hv
          exact (Array.getElem?_eq_some_iff.mp hc).1
        · obtain ⟨c, hc, rfl⟩ := gt hv
          obtain ⟨rfl, c', hc', rfl⟩ := hy
          rw [hc] at hc'
          cases hc'
          exact ⟨Gr.refl, sr2, by simp only [SV]⟩
        · have := List.getElem?_eq_none_iff.mp (Option.some.inj hv)
          show z.cps.size ≤ i
          simpa using this
      cases ha : z.cps.all (· < 128)
      · exact wpAny_pyIter_wide ha (pi_one (tk := s1.toks) I1 _ (turn_str _ z t "str_iterator" (.inr rfl)) ⟨_, Heap.get?_push_size _ rfl, rfl, rfl⟩ (post1.v sr1 (jk _ _)))
      · exact wpAny_pyIter_ascii ha (pi_one (tk := s1.toks) I1 _ (turn_str _ z t "str_ascii_iterator" (.inl rfl)) ⟨_, Heap.get?_push_size _ rfl, rfl, rfl⟩ (post1.v sr1 (jk _ _)))
    · rename_i k
      split at hiv
      · rename_i vs hk
        cases hiv
        obtain ⟨a, xs, rfl, ha, hx, r⟩ := sv_ref_lst sr1 sv hk
        cases r1
        obtain ⟨its, rv, pt, hz⟩ := I1.list (X := X) (SqL.of hx)
        refine wpAny_pyIter_list pt.isList ?_
        refine ⟨s1.heap.objs.size, [s1.heap.objs.size], _, _, H1, rfl, I1.kept (t' := s1.toks) fun b o e => Heap.get?_push_of_some _ e, turn_list a _, ⟨_, Heap.get?_push_size _ rfl, rfl, rfl⟩, fun b hb => ?_, post1.v sr1 ?_⟩
        · have e : b = s1.heap.objs.size := by simpa using hb
          subst e
          exact I1.fpOk (Nat.le_refl _) (I1.hok.fresh (Nat.le_refl _))
        · have at_ : ∀ as H st vs, Ax as1 as H1 → SR p.K as H st → st[k]? = some (.lst vs) → ∃ xs, H a = some (.lst xs) ∧ SVs p.K as H vs xs := fun as H st vs ax2 sr2 hv => by
            obtain ⟨b, hb, ys, hy, s⟩ := sr2.ob k _ hv
            rw [prefix_get ax2.pre ha] at hb
            cases hb
            exact ⟨ys, hy, s⟩
          have lv : ∀ {i : Nat} {st : Store} {r : Option Vl}, ivLive k i st = some r → ∃ vs, st[k]? = some (.lst vs) ∧ vs[i]? = r := fun {i st r} e => by
            unfold ivLive at e
            split at e
            · rename_i vs hv
              exact ⟨vs, hv, Option.some.inj e⟩
            · cases e
          refine ⟨fun i as H st v ax2 _ sr2 hn => ?_, fun i as H st x H' v ax2 _ sr2 hn hy => ?_, fun i as H st ax2 _ sr2 hn => ?_⟩
          · obtain ⟨vs, hv, hvi⟩ := lv hn
            obtain ⟨ys, h1, s⟩ := at_ as H st vs ax2 sr2 hv
            have hi' : i < ys.length := by rw [s.len]; exact (List.getElem?_eq_some_iff.mp hvi).1
            exact ⟨ys, ys[i], SqL.of h1, by simp [hi']⟩
          · obtain ⟨vs, hv, hvi⟩ := lv hn
            obtain ⟨ys, h1, s⟩ := at_ as H st vs ax2 sr2 hv
            obtain ⟨rfl, hy⟩ := hy
            obtain ⟨y, hy1, sy⟩ := s.get hvi
            have := hy ys (SqL.of h1)
            rw [hy1] at this
            cases this
            exact ⟨Gr.refl, sr2, sy⟩
          · obtain ⟨vs, hv, hvi⟩ := lv hn
            obtain ⟨ys, h1, s⟩ := at_ as H st vs ax2 sr2 hv
            exact ⟨ys, SqL.of h1, by rw [s.len]; exact List.getElem?_eq_none_iff.mp hvi⟩
      · cases hiv
    · cases hiv
  · cases k1
end
end PD
set_option maxHeartbeats 4000000
namespace PD
open PySem PySem.Spec PyProof.Rows L2

def iterF (nx : Iv) (g : Gf) (body : Sf) : Nat → Nat → Sf
  | 0, _, _, _ => none
  | n + 1, i, env, st => match nx i st with
    | none => none
    | some none => some (.nx, env, st)
    | some (some v) => match g v env st with
      | none => none
      | some (env1, st1) => match body env1 st1 with
        | some (.nx, env2, st2) => iterF nx g body n (i + 1) env2 st2
        | some (.ct, env2, st2) => iterF nx g body n (i + 1) env2 st2
        | some (.bk, env2, st2) => some (.nx, env2, st2)
        | r => r
abbrev big : Nat := 16777217
def sFor (itf : If) (g : Gf) (body : Sf) : Sf := fun env st => sB env (itf env st) fun iv st1 => iterF iv g body big 0 env st1
section
variable {X : Cx} {p : Par} {tg e : Expr} {sl : List Nat} {g : Gf} {f : Sf} {itf : If} {ss : List Stmt} {pos : Pos}
theorem sndS_for (hp : PassesOwn (model X.prog X.w) X.A X.env X.xe) (hc : X.calm = true) (hi : SndI X p tg e itf) (hg : SndG X p tg sl g) (hb : SndB X p ss f)
    (hs : ∀ x, foldedSetIterable e X.env x = pure x) : SndS X p (.For tg e ss [] pos) (sFor itf g f) := by
  refine ps_mono (ps_for hp hc hi hg hb hs) fun D σ H t => ?_
  obtain ⟨as, env, st, sr, se, fl, env', st', e, post⟩ := t
  refine tS_step sr se e post fun iv st1 as0 H0 J e1 ax gr sr1 hJ k1 post1 => ?_
  have se1 := se.mono ax gr
  refine ⟨fun i m σ H => ∃ as env st, Ax as0 as H0 ∧ Gr as0 H0 H ∧ SR p.K as H st ∧ SEnv p.K as H env σ ∧ ∃ fl env' st', iterF iv g f m i env st = some (fl, env', st') ∧ PostS p as H fl env' st' D,
    ⟨big, as0, env, st1, Ax.refl, Gr.refl, sr1, se1, fl, env', st', k1, post1⟩, ?_⟩
  rintro i m σ H ⟨as, env, st, ax, gr, sr, se, fl, env', st', e, post⟩
  cases m with
  | zero => simp [iterF] at e
  | succ m =>
    rw [iterF] at e
    split at e
    · cases e
    · rename_i hv
      cases e
      exact .inl ⟨hJ.stop i as H st ax gr sr hv, post as H Ax.refl Gr.refl sr σ se⟩
    · rename_i v hv
      refine .inr ⟨hJ.go i as H st v ax gr sr hv, fun σ H => ∃ as env st, Ax as0 as H0 ∧ Gr as0 H0 H ∧ SR p.K as H st ∧ SEnv p.K as H env σ ∧ ∃ fl env' st', iterF iv g f m (i + 1) env st = some (fl, env', st') ∧ PostS p as H fl env' st' D,
        fun σ' H' n => ⟨m, Nat.lt_succ_self _, n⟩, fun x H' y => ?_⟩
      obtain ⟨g1, s1, sv⟩ := hJ.yld i as H st x H' v ax gr sr hv y
      split at e
      · cases e
      · rename_i env1 st1 eg
        refine ⟨as, env, st, _, s1, se.mono Ax.refl g1, sv, env1, st1, eg, fun as2 H2 σ2 ax2 gr2 sr2 se2 _ _ => ?_⟩
        have ax3 : Ax as0 as2 H0 := ax.trans gr (Ax.trans (Ax.refl (H := H)) g1 ax2)
        have gr3 : Gr as0 H0 H2 := Gr.trans ax gr (Gr.trans (Ax.refl (as := as)) g1 gr2)
        have post2 : PostS p as2 H2 fl env' st' D := post.trans (Ax.trans (Ax.refl (H := H)) g1 ax2) (Gr.trans (Ax.refl (as := as)) g1 gr2)
        split at e
        · rename_i env3 st3 eb
          exact ⟨as2, env1, st1, sr2, se2, .nx, env3, st3, eb, fun as3 H3 ax4 gr4 sr3 σ3 se3 => ⟨as3, env3, st3, ax3.trans gr3 ax4, Gr.trans ax3 gr3 gr4, sr3, se3, fl, env', st', e, post2.trans ax4 gr4⟩⟩
        · rename_i env3 st3 eb
          exact ⟨as2, env1, st1, sr2, se2, .ct, env3, st3, eb, fun as3 H3 ax4 gr4 sr3 σ3 se3 => ⟨as3, env3, st3, ax3.trans gr3 ax4, Gr.trans ax3 gr3 gr4, sr3, se3, fl, env', st', e, post2.trans ax4 gr4⟩⟩
        · rename_i env3 st3 eb
          cases e
          exact ⟨as2, env1, st1, sr2, se2, .bk, _, _, eb, fun as3 H3 ax4 gr4 sr3 σ3 se3 => post2 as3 H3 ax4 gr4 sr3 σ3 se3⟩
        · rename_i r n1 n2 n3
          refine ⟨as2, env1, st1, sr2, se2, fl, env', st', e, fun as3 H3 ax4 gr4 sr3 => ?_⟩
          have q := post2 as3 H3 ax4 gr4 sr3
          cases fl with
          | nx => exact absurd e (fun z => n1 _ _ z)
          | bk => exact absurd e (fun z => n3 _ _ z)
          | ct => exact absurd e (fun z => n2 _ _ z)
          | rt v => exact q
          | x c u => exact q
def ivRange (lo : Int) (n : Nat) : Iv := fun i _ => some (if i < n then some (.int (lo + i)) else none)
def iR1 (fs : Af) : If := fun env st => Rb (fs env st) fun vs st1 => match vs with
  | [.int j] => if -(2 ^ 62) ≤ j ∧ j < 2 ^ 62 then some (.v (ivRange 0 j.toNat), st1) else none
  | _ => none
theorem jok_range {K : Kw} {as0 : List Addr} {H0 : Hp} {lo : Int} {n : Nat} : JOk K as0 H0 (ivRange lo n) (Itr lo n) where
  go i as H st v _ _ _ h := by
    unfold ivRange at h
    split at h
    · assumption
    · cases h
  yld i as H st x H' v ax g sr hv hy := by
    obtain ⟨rfl, rfl⟩ := hy
    unfold ivRange at hv
    split at hv
    · cases hv
      exact ⟨Gr.refl, sr, by simp only [SV]⟩
    · cases hv
  stop i as H st _ _ _ h := by
    unfold ivRange at h
    by_cases q : i < n
    · rw [if_pos q] at h; cases h
    · exact Nat.le_of_not_lt q
theorem sndI_range1 {a : Expr} {q pos : Pos} {fs : Af} (hg : Gl X "range") (hm : X.mg "range" = none) (ha : SndA X p [a] fs) (hs : starEach [a] X.env = [(false, eval a X.env)]) : SndI X p tg (.Call (.Name "range" q) [a] [] pos) (iR1 fs) :=
  pi_mono (pi_range1 hg hm ha hs) fun σ H R t => by
    obtain ⟨as, env, st, sr, se, rr, st', e, post⟩ := t
    refine tG_step sr se e post fun vs st1 as1 H1 xs e1 ax gr sr1 sv k1 post1 => ?_
    split at k1
    · split at k1
      · rename_i hj
        cases k1
        have sv' : SVs p.K as1 H1 [_] xs := sv
        simp only [SVs] at sv'
        obtain ⟨x, r, rfl, s1, rfl⟩ := sv'
        simp only [SV] at s1; subst s1
        exact ⟨_, rfl, hj.1, hj.2, post1.v sr1 jok_range⟩
      · cases k1
    · cases k1
theorem side_tup {K : Kw} {as : List Addr} {H : Hp} {st : Store} {T : Addr} {vs : List Vl} {xs : List V} (sr : SR K as H st) (hT : H T = none) (s : SVs K as H vs xs) : Gr as H (upd H T (.tup xs)) ∧ SR K as (upd H T (.tup xs)) st ∧ SV K as (upd H T (.tup xs)) (.tup vs) (.ref T) :=
  ⟨Gr.upd hT, sr.side hT, ⟨T, xs, rfl, .inl upd_same, s.mono Ax.refl (Gr.upd hT)⟩⟩
end
end PD
set_option maxHeartbeats 4000000
namespace PD
open PySem PySem.Spec PyProof.Rows L2

def wipeE (env : Env) : List Nat → Env
  | [] => env
  | v :: vs => (wipeE env vs).set v none
abbrev Par.n (p : Par) : Par := { p with W := fun _ _ _ _ => False }
def appAt (k : Nat) (y : Vl) (st : Store) : Option Store := match st[k]? with
  | some (.lst xs) => if xs.length < 16777216 then some (st.set k (.lst (xs ++ [y]))) else none
  | _ => none
def lcA (nx : Iv) (g : Gf) (tt : Tf) (te : Ef) (k : Nat) : Nat → Nat → Env → Store → Option Store
  | 0, _, _, _ => none
  | n + 1, i, env, st => match nx i st with
    | none => none
    | some none => some st
    | some (some v) => match g v env st with
      | none => none
      | some (env1, st1) => match tt env1 st1 with
        | some (.v true, st2) => match te env1 st2 with
          | some (.v y, st3) => match appAt k y st3 with
            | some st4 => lcA nx g tt te k n (i + 1) env st4
            | none => none
          | _ => none
        | some (.v false, st2) => lcA nx g tt te k n (i + 1) env st2
        | _ => none
abbrev lcBig : Nat := 16777217
def eLc (itf : If) (g : Gf) (vs : List Nat) (tt : Tf) (te : Ef) : Ef := fun env st => Rb (itf env st) fun iv st1 => match lcA iv g tt te st1.length lcBig 0 (wipeE env vs) (st1 ++ [.lst []]) with
  | some st2 => some (.v (.ref st1.length), st2)
  | none => none
theorem wipe_get {σ : L2.St} : ∀ {vs : List Nat} {j : Nat}, j ∉ vs → (wipe σ vs)[j]? = σ[j]?
  | [], _, _ => rfl
  | v :: vs, j, h => by
    unfold wipe
    have h1 : j ≠ v := fun z => h (by simp [z])
    rw [List.getElem?_set_ne (Ne.symm h1)]
    exact wipe_get fun z => h (List.mem_cons_of_mem _ z)
theorem wipe_in {σ : L2.St} : ∀ {vs : List Nat} {j : Nat}, j ∈ vs → j < σ.length → (wipe σ vs)[j]? = some none
  | v :: vs, j, h, hl => by
    unfold wipe
    by_cases h1 : v = j
    · subst h1
      exact List.getElem?_set_self (by rw [wipe_length]; exact hl)
    · rw [List.getElem?_set_ne h1]
      exact wipe_in ((List.mem_cons.mp h).resolve_left (Ne.symm h1)) hl
theorem wipe_same {σ σ' : L2.St} {vs : List Nat} (hl : σ'.length = σ.length) (h : ∀ j, j ∉ vs → σ'[j]? = σ[j]?) : wipe σ' vs = wipe σ vs := by
  refine List.ext_getElem? fun j => ?_
  by_cases hj : j ∈ vs
  · by_cases hb : j < σ.length
    · rw [wipe_in hj hb, wipe_in hj (by omega)]
    · rw [List.getElem?_eq_none (by rw [wipe_length]; omega), List.getElem?_eq_none (by rw [wipe_length]; omega)]
  · rw [wipe_get hj, wipe_get hj, h j hj]
theorem wipe_wipe {σ : L2.St} {vs : List Nat} : wipe (wipe σ vs) vs = wipe σ vs := wipe_same (wipe_length σ vs) fun j hj => wipe_get hj
theorem wipeE_length (env : Env) : ∀ vs : List Nat, (wipeE env vs).length = env.length
  | [] => rfl
  | v :: vs => by unfold wipeE; rw [List.length_set, wipeE_length env vs]
theorem wipeE_some {env : Env} {i : Nat} {x : Vl} : ∀ {vs : List Nat}, (wipeE env vs)[i]? = some (some x) → env[i]? = some (some x) ∧ i ∉ vs
  | [], h => ⟨h, by simp⟩
  | v :: vs, h => by
    unfold wipeE at h
    by_cases hi : v = i
    · subst hi
      by_cases hv : v < (wipeE env vs).length
      · rw [List.getElem?_set_self hv] at h; cases h
      · rw [List.getElem?_eq_none (by simpa using hv)] at h; cases h
    · rw [List.getElem?_set_ne hi] at h
      obtain ⟨h1, h2⟩ := wipeE_some h
      exact ⟨h1, by simp only [List.mem_cons, not_or]; exact ⟨fun e => hi e.symm, h2⟩⟩
theorem SEnv.wipe {K : Kw} {as : List Addr} {H : Hp} {env : Env} {σ : L2.St} (h : SEnv K as H env σ) (vs : List Nat) : SEnv K as H (wipeE env vs) (L2.wipe σ vs) := by
  refine ⟨by rw [wipe_length, wipeE_length, h.1], fun i v e => ?_⟩
  obtain ⟨e1, hi⟩ := wipeE_some e
  obtain ⟨x, e2, s⟩ := h.2 i v e1
  exact ⟨x, by rw [wipe_get hi]; exact e2, s⟩
theorem app_ok {K : Kw} {as : List Addr} {H : Hp} {st st' : Store} {k : Nat} {D : Addr} {y : Vl} {yv : V} (sr : SR K as H st) (hk : as[k]? = some D) (sy : SV K as H y yv) (e : appAt k y st = some st') :
    ∃ ys, H D = some (.lst ys) ∧ ys.length < sizeLine ∧ Gr as H (upd H D (.lst (ys ++ [yv]))) ∧ SR K as (upd H D (.lst (ys ++ [yv]))) st' := by
  unfold appAt at e
  split at e
  · rename_i xs hxs
    split at e
    · rename_i hlen
      cases e
      obtain ⟨D', hD', ys, hH, sxs⟩ := sr.ob _ _ hxs
      rw [hk] at hD'; cases hD'
      have grS : Gr as H (upd H D (.lst (ys ++ [yv]))) := Gr.set hk hH True.intro
      exact ⟨ys, hH, by rw [sxs.len, ← sline]; exact hlen, grS, (sr.set (o := .lst (ys ++ [yv])) (ob := .lst (xs ++ [y])) hk hH True.intro ⟨_, upd_same, (sxs.append (show SVs K as H [y] [yv] from ⟨yv, [], rfl, sy, rfl⟩)).mono Ax.refl grS⟩).1⟩
    · cases e
  · cases e
section
variable {X : Cx} {p : Par} {tg it elt : Expr} {ifs : List Expr} {sl vs : List Nat} {g : Gf} {itf : If} {tt : Tf} {te : Ef} {pos : Pos}
theorem tE_lc (hsl : ∀ j, j ∈ sl → j ∈ vs) {σ : L2.St} {H : Hp} {Q : VK} (t : tE p (eLc itf g vs tt te) σ H Q) : tLc (tG JOk p itf) (tGt p.n sl g) (tT p.n tt) (tE p.n te) vs σ H Q := by
  obtain ⟨as, env, st, sr, se, rr, st', e, post⟩ := t
  refine tG_step sr se e post fun iv st1 as0 H1 J e1 ax gr sr1 hJ k1 post1 => ?_
  have se1 := (se.mono ax gr).wipe vs
  intro D hD
  split at k1
  · rename_i st2 el
    cases k1
    obtain ⟨srB, axB, grB⟩ := sr1.push (o := .lst []) (ob := .lst []) hD ⟨[], upd_same, rfl⟩
    have hkD : (as0 ++ [D])[st1.length]? = some D := by rw [← sr1.len]; simp
    let Wd : Nat → Nat → Hp → Prop := fun i m H => ∃ as st, Ax (as0 ++ [D]) as (upd H1 D (.lst [])) ∧ Gr (as0 ++ [D]) (upd H1 D (.lst [])) H ∧ SR p.K as H st ∧ SEnv p.K as H (wipeE env vs) (wipe σ vs) ∧
        lcA iv g tt te st1.length m i (wipeE env vs) st = some st'
    have hJ' : ∀ {as H}, Ax (as0 ++ [D]) as (upd H1 D (.lst [])) → Gr (as0 ++ [D]) (upd H1 D (.lst [])) H → Ax as0 as H1 ∧ Gr as0 H1 H := fun a g => ⟨axB.trans grB a, Gr.trans axB grB g⟩
    refine ⟨Wd, ⟨lcBig, as0 ++ [D], _, Ax.refl, Gr.refl, srB, se1.mono axB grB, el⟩, ?_⟩
    rintro i m H ⟨as, st, axJ, grJ, sr, se, e⟩
    obtain ⟨axJ0, grJ0⟩ := hJ' axJ grJ
    cases m with
    | zero => simp [lcA] at e
    | succ m =>
      rw [lcA] at e
      split at e
      · cases e
      · rename_i hv
        cases e
        exact .inl ⟨hJ.stop i as H _ axJ0 grJ0 sr hv, post1 as H axJ0 grJ0 sr _ ⟨D, rfl, prefix_get axJ.pre hkD⟩⟩
      · rename_i v hv
        refine .inr ⟨hJ.go i as H st v axJ0 grJ0 sr hv, Wd (i + 1) m, fun H' n => ⟨m, Nat.lt_succ_self _, n⟩, fun x H' y => ?_⟩
        obtain ⟨gy, sy, sv⟩ := hJ.yld i as H st x H' v axJ0 grJ0 sr hv y
        split at e
        · cases e
        · rename_i env1 st3 eg
          refine ⟨as, _, st, v, sy, se.mono Ax.refl gy, sv, env1, st3, eg, fun as2 H2 σ2 ax2 gr2 sr2 se2 hl2 hj2 => ⟨?_, ?_⟩⟩
          · rw [wipe_same (vs := vs) hl2 fun j hj => hj2 j fun z => hj (hsl j z)]
            exact wipe_wipe
          · have axy : Ax as as2 H := Ax.trans (Ax.refl (H := H)) gy ax2
            have gry : Gr as H H2 := Gr.trans (Ax.refl (as := as)) gy gr2
            have seW2 := se.mono axy gry
            have ax20 := axJ.trans grJ axy
            have gr20 := Gr.trans axJ grJ gry
            split at e
            · rename_i st4 et
              refine ⟨as2, env1, st3, sr2, se2, .v true, st4, et, fun as3 H3 ax3 gr3 sr3 b hb => ?_⟩
              cases (show true = b from hb)
              rw [if_pos rfl]
              split at e
              · rename_i y st5 ee
                refine ⟨as3, env1, st4, sr3, se2.mono ax3 gr3, .v y, st5, ee, fun as4 H4 ax4 gr4 sr4 yv sy => ?_⟩
                split at e
                · rename_i st6 ea
                  have ax24 : Ax as2 as4 H2 := ax3.trans gr3 ax4
                  have gr24 : Gr as2 H2 H4 := Gr.trans ax3 gr3 gr4
                  have axAll := ax20.trans gr20 ax24
                  obtain ⟨ys, hH4, hln, grS, srS⟩ := app_ok sr4 (prefix_get axAll.pre hkD) sy ea
                  exact ⟨ys, hH4, hln, as4, st6, axAll, Gr.trans axAll (Gr.trans ax20 gr20 gr24) grS, srS, (seW2.mono ax24 gr24).mono Ax.refl grS, e⟩
                · cases e
              · cases e
            · rename_i st4 et
              refine ⟨as2, env1, st3, sr2, se2, .v false, st4, et, fun as3 H3 ax3 gr3 sr3 b hb => ?_⟩
              cases (show false = b from hb)
              rw [if_neg Bool.false_ne_true]
              exact ⟨as3, st4, ax20.trans gr20 ax3, Gr.trans ax20 gr20 gr3, sr3, seW2.mono ax3 gr3, e⟩
            · cases e
  · cases k1
def SndTs (X : Cx) (p : Par) (ifs : List Expr) (f : Tf) : Prop := PTs X ifs (tT p f)
theorem pts_mono {X : Cx} {ifs : List Expr} {t t' : TT} (h : PTs X ifs t) (m : ∀ σ H Q, t' σ H Q → t σ H Q) : PTs X ifs t' := ⟨fun pins s σ H Q I q => h.run pins s σ H Q I (m σ H Q q)⟩
def tYesF : Tf := fun _ st => some (.v true, st)
theorem sndTs_nil : SndTs X p [] tYesF := pts_mono pts_nil fun σ H Q t => by
  obtain ⟨as, env, st, sr, se, rr, st', e, post⟩ := t
  cases e
  exact post.v sr (show rB p.K as H true true from rfl)
theorem sndTs_one {c : Expr} {f : Tf} (h : SndT X p c f) : SndTs X p [c] f := pts_one h
structure BlkS (X : Cx) (p : Par) (tg : Expr) (ifs : List Expr) (scope : Scope) (own : List (Str × Nat)) (sl : List Nat) (g : Gf) (tt : Tf) : Prop where
  calm : X.calm = true
  nd : X.N.Nodup
  blk : BlkOk X.N X.env.scope scope own
  sub : ∀ j, j ∈ sl → j ∈ own.map (·.2)
  tg : ∀ (s : Shared) (H : Hp) (C : Addr) (cl : List (Str × Addr)) (fp : List Addr), SndG (X.blk s H scope (compEnvC scope cl C X.env) fp) p.n tg sl g
  ts : ∀ (s : Shared) (H : Hp) (C : Addr) (cl : List (Str × Addr)) (fp : List Addr), SndTs (X.blk s H scope (compEnvC scope cl C X.env) fp) p.n ifs tt
theorem snd_lc {scope : Scope} {own : List (Str × Nat)} (B : BlkS X p tg ifs scope own sl g tt) (hi : SndI X p tg it itf)
    (he : ∀ (s : Shared) (H : Hp) (C : Addr) (cl : List (Str × Addr)) (fp : List Addr), Snd (X.blk s H scope (compEnvC scope cl C X.env) fp) p.n elt te) (hs : ∀ x, foldedSetIterable it X.env x = pure x) :
    Snd X p (.ListComp elt [⟨tg, it, ifs, 0⟩] scope pos) (eLc itf g (own.map (·.2)) tt te) :=
  pe_mono (pe_lc B.calm B.nd hi B.blk B.tg B.ts he hs) fun σ H Q t => tE_lc B.sub t
end
end PD
set_option maxHeartbeats 4000000
namespace PD
open PySem PySem.Spec PyProof.Rows L2

abbrev Bf := List Vl → Store → Out Vl
def CallS (p : Par) (r : List V → Hp → VK → Prop) (h : Bf) : Prop := ∀ (σ : L2.St) (Q : VK) (as : List Addr) (H : Hp) (st : Store) (vs : List Vl) (xs : List V) (rr : Rs Vl) (st' : Store),
  SR p.K as H st → SVs p.K as H vs xs → h vs st = some (rr, st') → Post SV p σ as H rr st' Q → r xs H Q
def eB (fs : Af) (h : Bf) : Ef := fun env st => Rb (fs env st) fun vs st1 => h vs st1
section
variable {X : Cx} {p : Par} {e : Expr} {es : List Expr} {fs : Af} {x : Str} {q pos : Pos}
theorem snd_callB {id : String} {r : List V → Hp → VK → Prop} {h : Bf} (hc : CallR X (.builtin id) r) (hs : CallS p r h) (hg : Gl X x) (hm : X.mg x = none) (hv : bootBuiltins x = some (.builtin id)) (ha : SndA X p (e :: es) fs) (hn : x ≠ "__name__") (hdb : (x == ("__debug__" : Str)) = false)
    (he : starEach (e :: es) X.env = (false, eval e X.env) :: starEach es X.env) (hpl : (backTo pos (starEach es X.env)).any (·.1) = false) : Snd X p (.Call (.Name x q) (e :: es) [] pos) (eB fs h) :=
  pe_mono (pe_callB hc hg hm hv ha hn hdb he hpl) fun σ H Q t => by
    obtain ⟨as, env, st, sr, se, rr, st', e, post⟩ := t
    exact tG_step sr se e post fun vs st1 as1 H1 xs e1 ax gr sr1 sv k1 post1 => hs σ Q as1 H1 st1 vs xs rr st' sr1 sv k1 post1
theorem snd_callTy {T : String} {r : List V → Hp → VK → Prop} {h : Bf} (hc : CallR X (.type T) r) (hs : CallS p r h) (hg : Gl X x) (hm : X.mg x = none) (hv : bootBuiltins x = some (.type T)) (ha : SndA X p (e :: es) fs) (hn : x ≠ "__name__") (hdb : (x == ("__debug__" : Str)) = false)
    (he : starEach (e :: es) X.env = (false, eval e X.env) :: starEach es X.env) (hpl : (backTo pos (starEach es X.env)).any (·.1) = false) : Snd X p (.Call (.Name x q) (e :: es) [] pos) (eB fs h) :=
  pe_mono (pe_callTy hc hg hm hv ha hn hdb he hpl) fun σ H Q t => by
    obtain ⟨as, env, st, sr, se, rr, st', e, post⟩ := t
    exact tG_step sr se e post fun vs st1 as1 H1 xs e1 ax gr sr1 sv k1 post1 => hs σ Q as1 H1 st1 vs xs rr st' sr1 sv k1 post1
end

def fLen : Bf
  | [.str y], st => if y.length ≤ 16777216 then okv (.int y.length) st else none
  | [.tup vs], st => okv (.int vs.length) st
  | [v], st => match lview st v with
    | some vs => okv (.int vs.length) st
    | none => none
  | _, _ => none
theorem sv1 {K : Kw} {as : List Addr} {H : Hp} {v : Vl} {xs : List V} (h : SVs K as H [v] xs) : ∃ x, xs = [x] ∧ SV K as H v x := by
  simp only [SVs] at h
  obtain ⟨x, r, rfl, s, rfl⟩ := h
  exact ⟨x, rfl, s⟩
theorem sv2 {K : Kw} {as : List Addr} {H : Hp} {v w : Vl} {xs : List V} (h : SVs K as H [v, w] xs) : ∃ x y, xs = [x, y] ∧ SV K as H v x ∧ SV K as H w y := by
  simp only [SVs] at h
  obtain ⟨x, r, rfl, s, y, r2, rfl, s2, rfl⟩ := h
  exact ⟨x, y, rfl, s, s2⟩
section
variable {X : Cx} {p : Par}
theorem s_len (hK : p.K.fr = X.K) : CallS p (fun xs H Q => ∃ x n, xs = [x] ∧ LenV X.K x H n ∧ Q (.int n) H) fLen := by
  intro σ Q as H st vs xs rr st' sr sv e post
  unfold fLen at e
  split at e
  · obtain ⟨x, rfl, s⟩ := sv1 sv
    simp only [SV] at s; subst s
    split at e
    · rename_i hz
      exact ⟨_, _, rfl, ⟨by rw [← sline]; exact hz, rfl⟩, ok_post e sr post (by simp only [SV])⟩
    · cases e
  · obtain ⟨x, rfl, s⟩ := sv1 sv
    obtain ⟨a, ys, rfl, sq, r⟩ := sv_tup s
    exact ⟨_, _, rfl, .inr ⟨ys, by rw [← hK]; exact sq, r.len.symm⟩, ok_post e sr post (by simp only [SV])⟩
  · obtain ⟨x, rfl, s⟩ := sv1 sv
    split at e
    · rename_i us hv
      obtain ⟨a, ys, rfl, sq, r⟩ := sv_lst sr s hv
      exact ⟨_, _, rfl, .inl ⟨ys, by rw [← hK]; exact sq, r.len.symm⟩, ok_post e sr post (by simp only [SV])⟩
    · cases e
  · cases e
end

def fList : Bf
  | [.tup vs], st => newL vs st
  | [v], st => match lview st v with
    | some vs => newL vs st
    | none => none
  | _, _ => none
def fTuple : Bf
  | [.tup vs], st => okv (.tup vs) st
  | [v], st => match lview st v with
    | some vs => okv (.tup vs) st
    | none => none
  | _, _ => none
section
variable {X : Cx} {p : Par}
theorem s_list (hK : p.K.fr = X.K) : CallS p (fun xs H Q => ∃ q ys, xs = [.ref q] ∧ (SqL X.K H q ys ∨ SqT X.K H q ys) ∧ ∀ l, H l = none → Q (.ref l) (upd H l (.lst ys))) fList := by
  intro σ Q as H st vs xs rr st' sr sv e post
  unfold fList at e
  split at e
  · obtain ⟨x, rfl, s⟩ := sv1 sv
    obtain ⟨a, ys, rfl, sq, r⟩ := sv_tup s
    exact ⟨a, ys, rfl, .inr (by rw [← hK]; exact sq), fun l hl => new_post e sr post r hl⟩
  · obtain ⟨x, rfl, s⟩ := sv1 sv
    split at e
    · rename_i us hv
      obtain ⟨a, ys, rfl, sq, r⟩ := sv_lst sr s hv
      exact ⟨a, ys, rfl, .inl (by rw [← hK]; exact sq), fun l hl => new_post e sr post r hl⟩
    · cases e
  · cases e
theorem s_tuple (hK : p.K.fr = X.K) : CallS p (fun xs H Q => ∃ q ys, xs = [.ref q] ∧ ((SqL X.K H q ys ∧ ∀ l, H l = none → Q (.ref l) (upd H l (.tup ys))) ∨ (SqT X.K H q ys ∧ Q (.ref q) H))) fTuple := by
  intro σ Q as H st vs xs rr st' sr sv e post
  unfold fTuple at e
  split at e
  · obtain ⟨x, rfl, s⟩ := sv1 sv
    obtain ⟨a, ys, rfl, sq, r⟩ := sv_tup s
    exact ⟨a, ys, rfl, .inr ⟨by rw [← hK]; exact sq, ok_post e sr post s⟩⟩
  · obtain ⟨x, rfl, s⟩ := sv1 sv
    split at e
    · rename_i us hv
      obtain ⟨a, ys, rfl, sq, r⟩ := sv_lst sr s hv
      refine ⟨a, ys, rfl, .inl ⟨by rw [← hK]; exact sq, fun l hl => ?_⟩⟩
      cases e
      obtain ⟨g, s1, s2⟩ := side_tup sr hl r
      exact post _ _ Ax.refl g s1 _ s2
    · cases e
  · cases e
end

def intsOf : List Vl → Option (List Int)
  | [] => some []
  | .int i :: vs => (intsOf vs).map (i :: ·)
  | _ => none
def blsOf : List Vl → Option (List Bool)
  | [] => some []
  | .bl i :: vs => (blsOf vs).map (i :: ·)
  | _ => none
theorem intsOf_sv {K : Kw} {as : List Addr} {H : Hp} : ∀ {vs : List Vl} {xs : List V} {ns : List Int}, SVs K as H vs xs → intsOf vs = some ns → xs = ns.map V.int
  | [], xs, ns, h, e => by simp only [SVs] at h; simp only [intsOf, Option.some.injEq] at e; subst h e; rfl
  | .int i :: vs, xs, ns, h, e => by
    simp only [SVs] at h
    simp only [intsOf, Option.map_eq_some_iff] at e
    obtain ⟨x, r, rfl, s, h2⟩ := h
    obtain ⟨ms, e1, rfl⟩ := e
    simp only [SV] at s; subst s
    rw [intsOf_sv h2 e1]; rfl
  | .non :: vs, xs, ns, h, e => by simp [intsOf] at e
  | .bl _ :: vs, xs, ns, h, e => by simp [intsOf] at e
  | .str _ :: vs, xs, ns, h, e => by simp [intsOf] at e
  | .tup _ :: vs, xs, ns, h, e => by simp [intsOf] at e
  | .klst _ :: vs, xs, ns, h, e => by simp [intsOf] at e
  | .rng _ _ :: vs, xs, ns, h, e => by simp [intsOf] at e
  | .fn _ :: vs, xs, ns, h, e => by simp [intsOf] at e
  | .ref _ :: vs, xs, ns, h, e => by simp [intsOf] at e
theorem blsOf_sv {K : Kw} {as : List Addr} {H : Hp} : ∀ {vs : List Vl} {xs : List V} {ns : List Bool}, SVs K as H vs xs → blsOf vs = some ns → xs = ns.map V.bl
  | [], xs, ns, h, e => by simp only [SVs] at h; simp only [blsOf, Option.some.injEq] at e; subst h e; rfl
  | .bl i :: vs, xs, ns, h, e => by
    simp only [SVs] at h
    simp only [blsOf, Option.map_eq_some_iff] at e
    obtain ⟨x, r, rfl, s, h2⟩ := h
    obtain ⟨ms, e1, rfl⟩ := e
    simp only [SV] at s; subst s
    rw [blsOf_sv h2 e1]; rfl
  | .non :: vs, xs, ns, h, e => by simp [blsOf] at e
  | .int _ :: vs, xs, ns, h, e => by simp [blsOf] at e
  | .str _ :: vs, xs, ns, h, e => by simp [blsOf] at e
  | .tup _ :: vs, xs, ns, h, e => by simp [blsOf] at e
  | .klst _ :: vs, xs, ns, h, e => by simp [blsOf] at e
  | .rng _ _ :: vs, xs, ns, h, e => by simp [blsOf] at e
  | .fn _ :: vs, xs, ns, h, e => by simp [blsOf] at e
  | .ref _ :: vs, xs, ns, h, e => by simp [blsOf] at e
def lstF (g : List Vl → Store → Out Vl) : Bf
  | [v], st => match lview st v with
    | some vs => g vs st
    | none => none
  | _, _ => none
def gAll (vs : List Vl) (st : Store) : Out Vl := match blsOf vs with
  | some bs => okv (.bl (bs.all id)) st
  | none => none
def gAny (vs : List Vl) (st : Store) : Out Vl := match blsOf vs with
  | some bs => okv (.bl (bs.any id)) st
  | none => none
def gSum (vs : List Vl) (st : Store) : Out Vl := match intsOf vs with
  | some ns => okv (.int ns.sum) st
  | none => none
def maxL : List Int → Int
  | [] => 0
  | [n] => n
  | n :: m :: r => let k := maxL (m :: r); if k > n then k else n
def minL : List Int → Int
  | [] => 0
  | [n] => n
  | n :: m :: r => let k := minL (m :: r); if k < n then k else n
theorem maxL_ok : ∀ {ns : List Int}, ns ≠ [] → maxL ns ∈ ns ∧ ∀ y ∈ ns, y ≤ maxL ns
  | [], h => absurd rfl h
  | [n], _ => by simp [maxL]
  | n :: m :: r, _ => by
    obtain ⟨h1, h2⟩ := maxL_ok (ns := m :: r) (by simp)
    simp only [maxL]
    split
    · rename_i hk
      refine ⟨List.mem_cons_of_mem _ h1, fun y hy => ?_⟩
      rcases List.mem_cons.mp hy with rfl | hy
      · omega
      · exact h2 y hy
    · rename_i hk
      refine ⟨List.mem_cons_self, fun y hy => ?_⟩
      rcases List.mem_cons.mp hy with rfl | hy
      · omega
      · have := h2 y hy; omega
theorem minL_ok : ∀ {ns : List Int}, ns ≠ [] → minL ns ∈ ns ∧ ∀ y ∈ ns, minL ns ≤ y
  | [], h => absurd rfl h
  | [n], _ => by simp [minL]
  | n :: m :: r, _ => by
    obtain ⟨h1, h2⟩ := minL_ok (ns := m :: r) (by simp)
    simp only [minL]
    split
    · rename_i hk
      refine ⟨List.mem_cons_of_mem _ h1, fun y hy => ?_⟩
      rcases List.mem_cons.mp hy with rfl | hy
      · omega
      · exact h2 y hy
    · rename_i hk
      refine ⟨List.mem_cons_self, fun y hy => ?_⟩
      rcases List.mem_cons.mp hy with rfl | hy
      · omega
      · have := h2 y hy; omega
def fMax : Bf
  | [.int i, .int j], st => okv (.int (if j > i then j else i)) st
  | [v], st => match lview st v with
    | some vs => match intsOf vs with
      | some (n :: ns) => okv (.int (maxL (n :: ns))) st
      | _ => none
    | none => none
  | _, _ => none
def fMin : Bf
  | [.int i, .int j], st => okv (.int (if j < i then j else i)) st
  | [v], st => match lview st v with
    | some vs => match intsOf vs with
      | some (n :: ns) => okv (.int (minL (n :: ns))) st
      | _ => none
    | none => none
  | _, _ => none
def fInt : Bf
  | [.int i], st => okv (.int i) st
  | [.bl k], st => okv (.int (if k then 1 else 0)) st
  | _, _ => none
def fAbs : Bf
  | [.int i], st => okv (.int (if i < 0 then -i else i)) st
  | _, _ => none
section
variable {X : Cx} {p : Par}
theorem s_all (hK : p.K.fr = X.K) : CallS p (rAll X.K) (lstF gAll) := by
  intro σ Q as H st vs xs rr st' sr sv e post
  unfold lstF at e
  split at e
  · obtain ⟨x, rfl, s⟩ := sv1 sv
    split at e
    · rename_i us hv
      obtain ⟨a, ys, rfl, sq, r⟩ := sv_lst sr s hv
      unfold gAll at e
      split at e
      · rename_i bs hb
        have := blsOf_sv r hb
        subst this
        exact ⟨a, bs, rfl, by rw [← hK]; exact sq, ok_post e sr post (by simp only [SV])⟩
      · cases e
    · cases e
  · cases e
theorem s_any (hK : p.K.fr = X.K) : CallS p (rAny X.K) (lstF gAny) := by
  intro σ Q as H st vs xs rr st' sr sv e post
  unfold lstF at e
  split at e
  · obtain ⟨x, rfl, s⟩ := sv1 sv
    split at e
    · rename_i us hv
      obtain ⟨a, ys, rfl, sq, r⟩ := sv_lst sr s hv
      unfold gAny at e
      split at e
      · rename_i bs hb
        have := blsOf_sv r hb
        subst this
        exact ⟨a, bs, rfl, by rw [← hK]; exact sq, ok_post e sr post (by simp only [SV])⟩
      · cases e
    · cases e
  · cases e
theorem s_sum (hK : p.K.fr = X.K) : CallS p (rSum X.K) (lstF gSum) := by
  intro σ Q as H st vs xs rr st' sr sv e post
  unfold lstF at e
  split at e
  · obtain ⟨x, rfl, s⟩ := sv1 sv
    split at e
    · rename_i us hv
      obtain ⟨a, ys, rfl, sq, r⟩ := sv_lst sr s hv
      unfold gSum at e
      split at e
      · rename_i bs hb
        have := intsOf_sv r hb
        subst this
        exact ⟨a, bs, rfl, by rw [← hK]; exact sq, ok_post e sr post (by simp only [SV])⟩
      · cases e
    · cases e
  · cases e
def rMaxA (K : PySem.W.Frag) : List V → Hp → VK → Prop := fun xs H Q => (∃ i j, xs = [.int i, .int j] ∧ Q (.int (if j > i then j else i)) H) ∨ rMax K xs H Q
def rMinA (K : PySem.W.Frag) : List V → Hp → VK → Prop := fun xs H Q => (∃ i j, xs = [.int i, .int j] ∧ Q (.int (if j < i then j else i)) H) ∨ rMin K xs H Q
theorem cr_maxA (hc : X.calm = true) : CallR X (.builtin "max") (rMaxA X.K) := (call_max2 hc).or (cr_max hc)
theorem cr_minA (hc : X.calm = true) : CallR X (.builtin "min") (rMinA X.K) := (call_min2 hc).or (cr_min hc)
theorem s_max (hK : p.K.fr = X.K) : CallS p (rMaxA X.K) fMax := by
  intro σ Q as H st vs xs rr st' sr sv e post
  unfold fMax at e
  split at e
  · obtain ⟨x, y, rfl, s1, s2⟩ := sv2 sv
    simp only [SV] at s1 s2; subst s1 s2
    exact .inl ⟨_, _, rfl, ok_post e sr post (by simp only [SV])⟩
  · obtain ⟨x, rfl, s⟩ := sv1 sv
    split at e
    · rename_i us hv
      obtain ⟨a, ys, rfl, sq, r⟩ := sv_lst sr s hv
      split at e
      · rename_i n ns hb
        have := intsOf_sv r hb
        subst this
        obtain ⟨k1, k2⟩ := maxL_ok (ns := n :: ns) (by simp)
        refine .inr ⟨a, n :: ns, rfl, by rw [← hK]; exact sq, by simp, fun m hm hle => ?_⟩
        have e1 : m = maxL (n :: ns) := Int.le_antisymm (k2 m hm) (hle _ k1)
        rw [e1]
        exact ok_post e sr post (by simp only [SV])
      · cases e
    · cases e
  · cases e
theorem s_min (hK : p.K.fr = X.K) : CallS p (rMinA X.K) fMin := by
  intro σ Q as H st vs xs rr st' sr sv e post
  unfold fMin at e
  split at e
  · obtain ⟨x, y, rfl, s1, s2⟩ := sv2 sv
    simp only [SV] at s1 s2; subst s1 s2
    exact .inl ⟨_, _, rfl, ok_post e sr post (by simp only [SV])⟩
  · obtain ⟨x, rfl, s⟩ := sv1 sv
    split at e
    · rename_i us hv
      obtain ⟨a, ys, rfl, sq, r⟩ := sv_lst sr s hv
      split at e
      · rename_i n ns hb
        have := intsOf_sv r hb
        subst this
        obtain ⟨k1, k2⟩ := minL_ok (ns := n :: ns) (by simp)
        refine .inr ⟨a, n :: ns, rfl, by rw [← hK]; exact sq, by simp, fun m hm hle => ?_⟩
        have e1 : m = minL (n :: ns) := Int.le_antisymm (hle _ k1) (k2 m hm)
        rw [e1]
        exact ok_post e sr post (by simp only [SV])
      · cases e
    · cases e
  · cases e
theorem s_int : CallS p (fun xs H Q => (∃ i, xs = [.int i] ∧ Q (.int i) H) ∨ ∃ k, xs = [.bl k] ∧ Q (.int (if k then 1 else 0)) H) fInt := by
  intro σ Q as H st vs xs rr st' sr sv e post
  unfold fInt at e
  split at e
  · obtain ⟨x, rfl, s⟩ := sv1 sv
    simp only [SV] at s; subst s
    exact .inl ⟨_, rfl, ok_post e sr post (by simp only [SV])⟩
  · obtain ⟨x, rfl, s⟩ := sv1 sv
    simp only [SV] at s; subst s
    exact .inr ⟨_, rfl, ok_post e sr post (by simp only [SV])⟩
  · cases e
theorem s_abs : CallS p (fun xs H Q => ∃ i, xs = [.int i] ∧ Q (.int (if i < 0 then -i else i)) H) fAbs := by
  intro σ Q as H st vs xs rr st' sr sv e post
  unfold fAbs at e
  split at e
  · obtain ⟨x, rfl, s⟩ := sv1 sv
    simp only [SV] at s; subst s
    exact ⟨_, rfl, ok_post e sr post (by simp only [SV])⟩
  · cases e
end

def alikeB (ds : List PyData) : Bool := ds.all fun d => ds.all fun e => PySem.W.alike d e
def tupOk : PyData → Bool
  | .tuple (_ :: _) => true
  | _ => false
def othOk : PyData → Bool
  | .none => false
  | .tuple _ => false
  | _ => true
def sortableB (ds : List PyData) : Bool := ds.all tupOk || ds.all othOk
def sortV (vs : List Vl) (ds : List PyData) : List Vl := ((vs.zip ds).mergeSort (PySem.W.dataLe false Prod.snd)).map Prod.fst
def gSorted (vs : List Vl) (st : Store) : Out Vl := match omap (rd deep st) vs with
  | some ds => if alikeB ds && sortableB ds then newL (sortV vs ds) st else none
  | none => none
def rSortedD (K : PySem.W.Frag) : List V → Hp → VK → Prop := fun xs H Q => ∃ (a : Addr) (ys : List V) (ds : List PyData), xs = [.ref a] ∧ SqL K H a ys ∧ DpAll K H ys ds ∧ PySem.W.AllAlike ds ∧ PySem.W.Sortable ds ∧ (∀ d ∈ ds, d.depth ≤ 64) ∧
  ∀ q, H q = none → Q (.ref q) (upd H q (.lst (((ys.zip ds).mergeSort (PySem.W.dataLe false Prod.snd)).map Prod.fst)))
theorem DpAll.len {K : PySem.W.Frag} {H : Hp} : ∀ {xs : List V} {ds : List PyData}, DpAll K H xs ds → xs.length = ds.length
  | _, _, .nil => rfl
  | _, _, .cons _ t => by rw [List.length_cons, List.length_cons, DpAll.len t]
section
variable {X : Cx} {p : Par}
theorem each_rel {K : PySem.W.Frag} {H : Hp} : ∀ {ys : List V} {ds : List PyData} {its : List Value}, Vals ys its → ys.length = ds.length → PySem.W.EachIs (fun (u : Value) (b : V × PyData) => RelV b.1 u) its (ys.zip ds)
  | [], ds, its, r, h => by cases r; exact .nil
  | y :: ys, d :: ds, _, .cons r t, h => .cons r (each_rel (K := K) (H := H) t (by simpa using h))
  | y :: ys, [], _, _, h => by cases h
theorem each_read {pins : List (Addr × Obj)} {σ : L2.St} {H : Hp} {s : Shared} (I : Inv X pins σ H s) : ∀ {ys : List V} {ds : List PyData} {its : List Value}, DpAll X.K H ys ds → Vals ys its → PySem.W.EachIs (fun (u : Value) (b : V × PyData) => ∃ as, Reads s.heap u b.2 as) its (ys.zip ds)
  | [], ds, its, h, r => by cases h; cases r; exact .nil
  | y :: ys, _, _, .cons h1 h2, .cons r t => .cons (Dp.reads I _ _ _ h1 r) (each_read I h2 t)
theorem vals_each : ∀ {its : List Value} {bs : List (V × PyData)}, PySem.W.EachIs (fun (u : Value) (b : V × PyData) => RelV b.1 u) its bs → Vals (bs.map Prod.fst) its
  | _, _, .nil => .nil
  | _, _, .cons h t => .cons h (vals_each t)
theorem cr_sortedD (hu : X.A.units + 2 + 64 < cLine) : CallR X (.builtin "sorted") (rSortedD X.K) := by
  intro pins s σ H vs us Q I r h
  obtain ⟨a, ys, ds, rfl, hs, hd, al, so, dp, q⟩ := h
  obtain ⟨its, rv, hl, hz⟩ := I.list hs
  rw [Vals.ref1 r]
  have hlen := DpAll.len hd
  have em : (ys.zip ds).map Prod.snd = ds := List.map_snd_zip (by omega)
  refine PySem.W.sorted_data (R := fun (u : Value) (b : V × PyData) => RelV b.1 u) (enc := Prod.snd) hl.isList (each_rel (K := X.K) (H := H) rv hlen) (each_read I hd rv) (by rw [em]; exact al) (by rw [em]; exact so) (by rw [List.length_zip]; omega) (fun b hb => ?_) fun out hol he => ?_
  · have : b.2 ∈ ds := by
      have := List.mem_map_of_mem (f := Prod.snd) hb
      rwa [em] at this
    have := dp _ this
    omega
  · obtain ⟨ep, he'⟩ := PyProof.Rows.sortedAll_at s.heap its out.toArray
    have hv := vals_each he
    have hlen2 : (((ys.zip ds).mergeSort (PySem.W.dataLe false Prod.snd)).map Prod.fst).length ≤ sizeLine := by
      rw [List.length_map, List.length_mergeSort, List.length_zip]; omega
    exact ⟨.ref _, upd H (s.heap.objs.size + 1) (.lst _), I.laid (t' := s.toks) (fun _ _ => PyProof.Rows.sortedAll_old) (Nat.le_succ _) ⟨hlen2, out, ep, hv, he'⟩, rfl, q _ (I.hok.fresh (Nat.le_succ _))⟩
theorem each_sv {K : Kw} {as : List Addr} {H : Hp} : ∀ {vs : List Vl} {ys : List V} {ds : List PyData}, SVs K as H vs ys → PySem.W.EachIs (fun (b : Vl × PyData) (c : V × PyData) => SV K as H b.1 c.1 ∧ b.2 = c.2) (vs.zip ds) (ys.zip ds)
  | [], ys, ds, h => by simp only [SVs] at h; subst h; exact .nil
  | v :: vs, ys, [], h => by
    rw [List.zip_nil_right, List.zip_nil_right]
    exact .nil
  | v :: vs, ys, d :: ds, h => by
    simp only [SVs] at h
    obtain ⟨x, r, rfl, s, h2⟩ := h
    exact .cons ⟨s, rfl⟩ (each_sv h2)
theorem sv_each {K : Kw} {as : List Addr} {H : Hp} : ∀ {bs : List (Vl × PyData)} {cs : List (V × PyData)}, PySem.W.EachIs (fun (b : Vl × PyData) (c : V × PyData) => SV K as H b.1 c.1 ∧ b.2 = c.2) bs cs → SVs K as H (bs.map Prod.fst) (cs.map Prod.fst)
  | _, _, .nil => rfl
  | _, _, .cons h t => ⟨_, _, rfl, h.1, sv_each t⟩
theorem sortV_sv {K : Kw} {as : List Addr} {H : Hp} {vs : List Vl} {ys : List V} {ds : List PyData} (h : SVs K as H vs ys) : SVs K as H (sortV vs ds) (((ys.zip ds).mergeSort (PySem.W.dataLe false Prod.snd)).map Prod.fst) := by
  have e := each_sv (ds := ds) h
  refine sv_each (PySem.W.sort_each e fun p hp q hq => ?_)
  have h1 := (e.zip p hp).2
  have h2 := (e.zip q hq).2
  show PySem.W.dataLe false Prod.snd p.1 q.1 = PySem.W.dataLe false Prod.snd p.2 q.2
  unfold PySem.W.dataLe PySem.W.sortLe
  simp only [h1, h2]
theorem s_sorted (hK : p.K.fr = X.K) : CallS p (rSortedD X.K) (lstF gSorted) := by
  intro σ Q as H st vs xs rr st' sr sv e post
  unfold lstF at e
  split at e
  · obtain ⟨x, rfl, s⟩ := sv1 sv
    split at e
    · rename_i us hv
      obtain ⟨a, ys, rfl, sq, r⟩ := sv_lst sr s hv
      unfold gSorted at e
      split at e
      · rename_i ds hds
        split at e
        · rename_i hb
          simp only [Bool.and_eq_true] at hb
          obtain ⟨b1, b2⟩ := hb
          rw [← hK]
          refine ⟨a, ys, ds, rfl, sq, omap_dp (fun v x d h e => rd_dp sr deep v x d h e) r hds, fun d hd d' hd' => ?_, ?_, fun d hd => ?_, fun q hq => new_post e sr post (sortV_sv r) hq⟩
          · unfold alikeB at b1
            exact List.all_eq_true.mp (List.all_eq_true.mp b1 d hd) d' hd'
          · unfold sortableB at b2
            rw [Bool.or_eq_true] at b2
            rcases b2 with b2 | b2
            · refine .inl fun d hd => ?_
              have := List.all_eq_true.mp b2 d hd
              unfold tupOk at this
              split at this
              · exact ⟨_, _, rfl⟩
              · cases this
            · refine .inr fun d hd => ?_
              have := List.all_eq_true.mp b2 d hd
              refine ⟨?_, ?_⟩
              · rintro rfl; cases this
              · rintro xs rfl; cases this
          · have h2 := (omap_shape (fun v d e => rd_shape deep v d e) hds).2
            have : d.depth ≤ PyData.depthAll ds := by
              clear hds b1 b2 e post h2
              induction ds with
              | nil => cases hd
              | cons c cs ih =>
                rw [PyData.depthAll]
                rcases List.mem_cons.mp hd with rfl | hd
                · exact Nat.le_max_left _ _
                · exact Nat.le_trans (ih hd) (Nat.le_max_right _ _)
            have : deep = 40 := rfl
            omega
        · cases e
      · cases e
    · cases e
  · cases e
end
end PD
set_option maxHeartbeats 4000000
namespace PD
open PySem PySem.Spec PyProof.Rows L2

abbrev p0 (K : Kw) : Par := ⟨K, fun _ _ _ _ => False, fun _ => none⟩
def fnSp (K : Kw) (h : Bf) (n : Nat) : Sp := fun vs H Q _ => vs.length = n ∧ ∃ as st ds, SR K as H st ∧ SVs K as H ds vs ∧ ∃ v st', h ds st = some (.v v, st') ∧
  ∀ as' H', Ax as as' H → Gr as H H' → SR K as' H' st' → ∀ x, SV K as' H' v x → Q x H'
def bodyF (n : Nat) (f : Sf) : Bf := fun ds st => match f (ds.map some ++ List.replicate (n - ds.length) none) st with
  | some (.rt v, _, st') => some (.v v, st')
  | some (.nx, _, st') => some (.v .non, st')
  | _ => none
theorem senv_start {K : Kw} {as : List Addr} {H : Hp} {ds : List Vl} {vs : List V} {N : List Str} (h : SVs K as H ds vs) : SEnv K as H (ds.map some ++ List.replicate (N.length - ds.length) none) (L2.start N vs) := by
  have hl := h.len
  refine ⟨?_, fun i v e => ?_⟩
  · unfold L2.start
    simp [hl]
  · by_cases hi : i < ds.length
    · rw [List.getElem?_append_left (by simpa using hi), List.getElem?_map] at e
      cases q : ds[i]? with
      | none => rw [q] at e; cases e
      | some d =>
        rw [q] at e
        simp at e; subst e
        obtain ⟨x, e1, s⟩ := h.get q
        refine ⟨x, ?_, s⟩
        unfold L2.start
        rw [List.getElem?_append_left (by simpa [hl] using hi), List.getElem?_map, e1]
        rfl
    · rw [List.getElem?_append_right (by simpa using hi), List.getElem?_replicate] at e
      split at e <;> cases e
section
variable {P : Program} {w : World} {K : Kw} {mg : Str → Option Value} {base : Heap} {x qual : Str} {params : Arguments} {body : List Stmt} {scope : Scope} {dvs : List V} {kws : List (Str × V)} {f : Addr} {fd : FuncData} {N ps : List Str} {k : Nat} {fb : Sf}
abbrev fcx (P : Program) (w : World) (K : PySem.W.Frag) (mg : Str → Option Value) (base : Heap) (N : List Str) (qual : Str) (scope : Scope) (f : Addr) (cdv : Value) (A : Around) (outer : List PySem.Env) (s : Shared) (H : Hp) (E : XK) : Cx :=
  (cxOf CX0 P w K mg base N qual scope f cdv A outer s H E).nox
end
def noX (h : Bf) : Bf := fun vs st => match h vs st with
  | some (.v v, st') => some (.v v, st')
  | _ => none
def eCall (fs : Af) (h : Bf) (n : Nat) (dd : List Vl) : Ef := eB fs fun vs st => if (vs ++ dd).length = n then noX h (vs ++ dd) st else none
section
variable {X : Cx} {p : Par} {k : Nat} {f : Addr} {fd : FuncData} {ps : List Str} {x : Str} {q pos : Pos} {e : Expr} {es : List Expr} {fs gs : Af} {h : Bf} {ds : List Value} {dvs : List V} {dd : List Vl}
theorem fnSp_of {σ : L2.St} {as : List Addr} {H : Hp} {st st' : Store} {Q : VK} {E : XK} {n : Nat} {vs : List Vl} {xs : List V} {rr : Rs Vl} (hn : vs.length = n) (e : noX h vs st = some (rr, st')) (sr : SR p.K as H st) (sv : SVs p.K as H vs xs) (post : Post SV p σ as H rr st' Q) : fnSp p.K h n xs H Q E := by
  unfold noX at e
  split at e
  · rename_i v st2 e2
    cases e
    exact ⟨by rw [sv.len]; exact hn, as, st, vs, sr, sv, v, st', e2, fun as' H' ax gr sr' y sy => post as' H' ax gr sr' y sy⟩
  · cases e
def SndK (X : Cx) (p : Par) (ks : List Keyword) (f : Af) : Prop := PK X ks (tA p f)
theorem pk_mono {X : Cx} {e : List Keyword} {t t' : TA} (h : PK X e t) (m : ∀ σ H Q, t' σ H Q → t σ H Q) : PK X e t' := ⟨fun pos pins s σ H Q I q => h.run pos pins s σ H Q I (m σ H Q q)⟩
theorem sndK_nil : SndK X p [] aNil := pk_mono pk_nil fun σ H Q t => by
  obtain ⟨as, env, st, sr, se, rr, st', e, post⟩ := t
  cases e
  exact post.v sr (show SVs p.K as H [] [] from rfl)
theorem sndK_cons {a : Expr} {g : Ef} {kw : List Keyword} {nm : Option Str} {kpos : Pos} (ha : Snd X p a g) (hr : SndK X p kw fs) : SndK X p (⟨nm, a, kpos⟩ :: kw) (aCons g fs) := pk_mono (pk_cons ha hr) fun σ H Q t => by
  obtain ⟨as, env, st, sr, se, rr, st', e, post⟩ := t
  refine tG_step sr se e post fun v st1 as1 H1 x e1 ax gr sr1 sv k1 post1 => ?_
  refine tG_step sr1 (se.mono ax gr) k1 post1 fun vs st2 as2 H2 xs e2 ax2 gr2 sr2 sv2 k2 post2 => ?_
  cases k2
  exact post2.v sr2 (show SVs p.K as2 H2 (v :: vs) (x :: xs) from ⟨x, xs, rfl, sv.mono ax2 gr2 v x, sv2⟩)
end
end PD
set_option maxHeartbeats 4000000
namespace PD
open PySem PySem.Spec PyProof.Rows L2

structure ExK (K : PySem.W.Frag) (C : Addr) : Prop where
  cl : (PySem.W.clsIn K C).isSome = true
  ga : PySem.W.findIn K (.ref C) "__getattribute__" = some (some (.builtin "BaseException.__getattribute__"))
  gg : PySem.W.findIn K (.ref C) "__getattr__" = some none
  ex : PySem.W.subIn K (.ref C) (.type "BaseException") = some true
  cc : PySem.W.findIn K (.ref C) "__class__" = some (some (.builtin "object.__class__"))
  sp : PySem.W.specialIn K (.builtin "object.__class__") "__get__" = some (some (.builtin "getset_descriptor.__get__"))
  tk : PySem.W.takesIn K (.builtin "object.__class__") = some true
  ob : PySem.W.mroIn K C (.type "object") = some true
inductive TyG (K : Kw) (H : Hp) : V → Value → Prop where
  | x {x : V} {t : Value} (h : TyX K.fr H x t) : TyG K H x t
  | ex {a C d : Addr} {fs : List (Str × V)} (e : H a = some (exo a C (some d))) (e2 : H d = some (.xd fs)) (k : ExK K.fr C) : TyG K H (.ref a) (.ref C)
  | en {a C : Addr} (e : H a = some (exo a C none)) (k : ExK K.fr C) : TyG K H (.ref a) (.ref C)
  | dT {a : Addr} {xs : List (NestedKey × Addr × Value)} (e : Rd H a (.ext (dPhi K.w a xs))) : TyG K H (.ref a) (.type "dict")
section
variable {X : Cx} {K : Kw}
theorem kit_ofG {pins : List (Addr × Obj)} {σ : L2.St} {H : Hp} {s : Shared} {x : V} {u t : Value} (hK : K.fr = X.K) (I : Inv X pins σ H s) (rx : RelV x u) (ty : TyG K H x t) : ∃ P : Heap → Prop, PySem.W.KitX X.K u t P ∧ P s.heap ∧ u ≠ .builtin "__main__.__loader__#opaque" := by
  cases ty with
  | x h => exact kit_of I rx (hK ▸ h)
  | @ex a C d fs e e2 k =>
    cases (show u = Value.ref a from rx)
    obtain ⟨t1, ha⟩ := exo_at I.hok e
    obtain ⟨mA, ⟨od, es, ep, hd, _⟩, _⟩ := (show ObjOk X.prog X.w H s.heap d (.xd fs) from I.hok d _ e2)
    have k' : ExK X.K C := hK ▸ k
    exact ⟨_, PySem.W.kitx_exc (od := some od) k'.cl k'.ga k'.gg k'.ex k'.cc k'.sp k'.tk k'.ob, ⟨ha, rfl, rfl, hd⟩, fun z => nomatch z⟩
  | @en a C e k =>
    cases (show u = Value.ref a from rx)
    obtain ⟨t1, ha⟩ := exo_at I.hok e
    have k' : ExK X.K C := hK ▸ k
    exact ⟨_, PySem.W.kitx_exc (od := none) k'.cl k'.ga k'.gg k'.ex k'.cc k'.sp k'.tk k'.ob, ⟨ha, rfl, rfl, trivial⟩, fun z => nomatch z⟩
  | @dT a xs ea =>
    cases (show u = Value.ref a from rx)
    obtain ⟨⟨o, es, ep, h1, h2, h3, h4⟩, _⟩ := (show ObjOk X.prog X.w H s.heap a (.ext (dPhi K.w a xs)) from ea.ok I.hok)
    exact ⟨_, PySem.W.kitx_dict, ⟨o, h1, h2.1⟩, fun z => nomatch z⟩
def rIsiG (K : Kw) : List V → Hp → VK → Prop := fun xs H Q => ∃ (x c : V) (t u : Value) (b : Bool), xs = [x, c] ∧ ClsV c u ∧ TyG K H x t ∧ PySem.W.kitOne K.fr t u = some b ∧ Q (.bl b) H
theorem call_isiG (hK : K.fr = X.K) : CallR X (.builtin "isinstance") (rIsiG K) := by
  intro pins s σ H xs us Q I r h
  obtain ⟨x, c, t, u, b, rfl, k, ty, e, q⟩ := h
  obtain ⟨u1, u2, rfl, r1, r2⟩ := vals2 r
  have e2 := k.eq r2
  subst e2
  obtain ⟨P, Z, p, hx⟩ := kit_ofG hK I r1 ty
  exact PySem.W.kia_one Z I.kIn p (hK ▸ e) hx fun tk => ⟨.bl b, H, I.tok tk, rfl, q⟩
end
inductive Cn where
  | ty (n : String) | own (c : Str)
def tyOf (st : Store) : Vl → Option Cn
  | .non => some (.ty "NoneType")
  | .bl _ => some (.ty "bool")
  | .int _ => some (.ty "int")
  | .str _ => some (.ty "str")
  | .tup _ => some (.ty "tuple")
  | .klst _ => some (.ty "list")
  | .rng _ _ => none
  | .fn _ => none
  | .ref n => match st[n]? with
    | some (.lst _) => some (.ty "list")
    | some (.dic _ _) => some (.ty "dict")
    | some (.lck _ _) => some (.ty "dict")
    | some (.exc c m) => match st[m]? with
      | some (.xdc _) => some (.own c)
      | _ => none
    | some (.exn c) => some (.own c)
    | _ => none
structure OwnTy (K : Kw) (c : Str) : Prop where
  ok : ∀ C, K.ca c = some C → ExK K.fr C
def CnV (K : Kw) : Cn → V → Value → Prop
  | .ty n, v, u => v = .ty n ∧ u = .type n
  | .own c, v, u => ∃ C, K.ca c = some C ∧ v = .ref C ∧ u = .ref C
theorem CnV.cls {K : Kw} {c : Cn} {v : V} {u : Value} (h : CnV K c v u) : ClsV v u := by
  cases c with
  | ty n => obtain ⟨rfl, rfl⟩ := h; exact .ty n
  | own c => obtain ⟨C, _, rfl, rfl⟩ := h; exact .own C
abbrev Ct := Cn → Cn → Option Bool
structure CtOk (K : Kw) (ct : Ct) : Prop where
  ty : ∀ c d b, ct (.own c) d = some b → OwnTy K c
  ok : ∀ t c b, ct t c = some b → ∀ vt ut v u, CnV K t vt ut → CnV K c v u → PySem.W.kitOne K.fr ut u = some b
theorem tyOf_ok {K : Kw} {ct : Ct} (hct : CtOk K ct) {as : List Addr} {H : Hp} {st : Store} {v : Vl} {x : V} {t c : Cn} {b : Bool} (sr : SR K as H st) (sv : SV K as H v x) (e : tyOf st v = some t) (eb : ct t c = some b) :
    ∃ vt ut, CnV K t vt ut ∧ TyG K H x ut := by
  cases v with
  | non => cases e; simp only [SV] at sv; subst sv; exact ⟨_, _, ⟨rfl, rfl⟩, .x (.base .non)⟩
  | bl b => cases e; simp only [SV] at sv; subst sv; exact ⟨_, _, ⟨rfl, rfl⟩, .x (.base (.bl _))⟩
  | int i => cases e; simp only [SV] at sv; subst sv; exact ⟨_, _, ⟨rfl, rfl⟩, .x (.base (.int _))⟩
  | str y => cases e; simp only [SV] at sv; subst sv; exact ⟨_, _, ⟨rfl, rfl⟩, .x (.base (.str _))⟩
  | tup vs =>
    cases e
    simp only [SV] at sv
    obtain ⟨a, xs, rfl, h, _⟩ := sv
    rcases h with h | ⟨o, its, n, h1, h2, _⟩
    · exact ⟨_, _, ⟨rfl, rfl⟩, .x (.base (.tup h))⟩
    · exact ⟨_, _, ⟨rfl, rfl⟩, .x (.kTuple h1 h2)⟩
  | klst vs =>
    cases e
    simp only [SV] at sv
    obtain ⟨a, xs, rfl, h, _⟩ := sv
    rcases h with ⟨o, h, _⟩ | ⟨o, its, n, h1, h2, _⟩
    · exact ⟨_, _, ⟨rfl, rfl⟩, .x (.base (.frz h))⟩
    · exact ⟨_, _, ⟨rfl, rfl⟩, .x (.kList h1 h2)⟩
  | rng lo hi => cases e
  | fn c => cases e
  | ref n =>
    simp only [tyOf] at e
    simp only [SV] at sv
    obtain ⟨a, rfl, ha⟩ := sv
    split at e
    · rename_i vs q
      cases e
      obtain ⟨a', e1, xs, e2, _⟩ := sr.ob n _ q
      rw [ha] at e1; cases e1
      exact ⟨_, _, ⟨rfl, rfl⟩, .x (.base (.lst e2))⟩
    · rename_i ks vs q
      cases e
      obtain ⟨a', e1, s⟩ := sr.ob n _ q
      rw [ha] at e1; cases e1
      obtain ⟨u, e2, s⟩ := s
      rcases s with ⟨kvs, rfl, _⟩ | ⟨_, xs, ys, rfl, _⟩
      · exact ⟨_, _, ⟨rfl, rfl⟩, .x (.base (.dK e2))⟩
      · exact ⟨_, _, ⟨rfl, rfl⟩, .dT (.inl e2)⟩
    · rename_i ks vs q
      cases e
      obtain ⟨a', e1, s⟩ := sr.ob n _ q
      rw [ha] at e1; cases e1
      obtain ⟨o, u, e2, s⟩ := s
      rcases s with ⟨kvs, rfl, _⟩ | ⟨_, xs, ys, rfl, _⟩
      · exact ⟨_, _, ⟨rfl, rfl⟩, .x (.fDict e2)⟩
      · exact ⟨_, _, ⟨rfl, rfl⟩, .dT (.inr ⟨o, e2⟩)⟩
    · rename_i cc m q
      split at e
      · rename_i u q3
        cases e
        obtain ⟨a', e1, C, d, ec, ed, e2⟩ := sr.ob n _ q
        rw [ha] at e1; cases e1
        obtain ⟨d', e4, y, e5, _⟩ := sr.ob m _ q3
        rw [ed] at e4; cases e4
        exact ⟨_, _, ⟨C, ec, rfl, rfl⟩, .ex e2 e5 ((hct.ty _ _ _ eb).ok C ec)⟩
      · cases e
    · rename_i cc q
      cases e
      obtain ⟨a', e1, C, ec, e2⟩ := sr.ob n _ q
      rw [ha] at e1; cases e1
      exact ⟨_, _, ⟨C, ec, rfl, rfl⟩, .en e2 ((hct.ty _ _ _ eb).ok C ec)⟩
    · cases e
def kitD (ct : Ct) (t : Cn) : List Cn → Option Bool
  | [] => some false
  | c :: cs => match ct t c with
    | some true => some true
    | some false => kitD ct t cs
    | none => none
def eIsi (ct : Ct) (f : Ef) (cs : List Cn) : Ef := fun env st => Rb (f env st) fun v st1 => match tyOf st1 v with
  | some t => match kitD ct t cs with
    | some b => okv (.bl b) st1
    | none => none
  | none => none
inductive ClsE (X : Cx) (K : Kw) : List Expr → List Cn → Prop where
  | nil : ClsE X K [] []
  | cons {e : Expr} {es : List Expr} {c : Cn} {cs : List Cn} {v : V} {u : Value} (h : PE X e (tC v)) (k : CnV K c v u) (hs : starEach (e :: es) X.env = (false, eval e X.env) :: starEach es X.env) (t : ClsE X K es cs) : ClsE X K (e :: es) (c :: cs)
theorem ClsE.pa {X : Cx} {K : Kw} : ∀ {es : List Expr} {cs : List Cn}, ClsE X K es cs → ∃ (vs : List V) (us : List Value), List.length vs = cs.length ∧ Paired ClsV vs us ∧ (∀ (i : Nat) c u, cs[i]? = some c → us[i]? = some u → ∃ v, CnV K c v u) ∧ us.length = cs.length ∧ PA X es (fun _ H Q => Q vs H)
  | _, _, .nil => ⟨[], [], rfl, .nil, fun i c u h => by simp at h, rfl, pa_mono pa_nil fun σ H Q t => t⟩
  | _, _, .cons (v := v) (u := u) h k hs t => by
    obtain ⟨vs, us, l1, r, h2, l2, pa⟩ := t.pa
    refine ⟨v :: vs, u :: us, by simp [l1], .cons k.cls r, fun i c w e1 e2 => ?_, by simp [l2], pa_mono (pa_cons h pa hs) fun σ H Q t => t⟩
    cases i with
    | zero => simp at e1 e2; subst e1; subst e2; exact ⟨v, k⟩
    | succ i => exact h2 i c w (by simpa using e1) (by simpa using e2)
section
variable {X : Cx} {p : Par} {ct : Ct} {f : Ef} {a e : Expr} {es : List Expr} {q pos : Pos}
theorem isi_ty {X : Cx} {K : Kw} {x : Str} {n : String} {pos : Pos} (hg : Gl X x) (hm : X.mg x = none) (hv : bootBuiltins x = some (.type n)) (hn : x ≠ "__name__") (hd : (x == ("__debug__" : Str)) = false) : PE X (.Name x pos) (tC (.ty n)) ∧ CnV K (.ty n) (.ty n) (.type n) :=
  ⟨pe_bltn hg hm hv rfl hn hd, rfl, rfl⟩
theorem isi_own {X : Cx} {K : Kw} {x : Str} {C : Addr} {pos : Pos} (hg : Gl X x) (hm : X.mg x = some (.ref C)) (hc : K.ca x = some C) (hd : (x == ("__debug__" : Str)) = false) : PE X (.Name x pos) (tC (.ref C)) ∧ CnV K (.own x) (.ref C) (.ref C) :=
  ⟨pe_glob hg hm rfl hd, C, hc, rfl, rfl⟩
theorem snd_isi {c : Cn} {v : V} {u : Value} (hK : p.K.fr = X.K) (hct : CtOk p.K ct) (hg : Gl X "isinstance") (hm : X.mg "isinstance" = none) (he : Snd X p a f) (hc : PE X e (tC v)) (k : CnV p.K c v u)
    (h1 : starEach [a, e] X.env = (false, eval a X.env) :: starEach [e] X.env) (h2 : starEach [e] X.env = [(false, eval e X.env)]) (hpl : (backTo pos (starEach [e] X.env)).any (·.1) = false) :
    Snd X p (.Call (.Name "isinstance" q) [a, e] [] pos) (eIsi ct f [c]) :=
  pe_mono (pe_callB (call_isiG hK) hg hm (by decide +kernel) (pa_cons he (pa_cons hc pa_nil h2) h1) (by decide) (by decide) h1 hpl) fun σ H Q t => by
    obtain ⟨as, env, st, sr, se, rr, st', e, post⟩ := t
    refine tG_step sr se e post fun w st1 as1 H1 x e1 ax gr sr1 sv k1 post1 => ?_
    split at k1
    · rename_i t ht
      split at k1
      · rename_i b hb
        unfold kitD kitD at hb
        have hb2 : ct t c = some b := by
          split at hb
          · rename_i q; rw [q, hb]
          · rename_i q; rw [q, hb]
          · cases hb
        obtain ⟨vt, ut, kt, ty⟩ := tyOf_ok hct sr1 sv ht hb2
        refine ⟨x, v, ut, u, b, rfl, k.cls, ty, hct.ok _ _ _ hb2 vt ut v u kt k, ?_⟩
        exact ok_post k1 sr1 post1 (by simp only [SV])
      · cases k1
    · cases k1
end
end PD
set_option maxHeartbeats 4000000
namespace PD
open PySem PySem.Spec PyProof.Rows L2

abbrev Mf := Vl → List Vl → Store → Out Vl
def MetS (p : Par) (r : V → List V → Hp → VK → Prop) (h : Mf) : Prop := ∀ (σ : L2.St) (Q : VK) (as : List Addr) (H : Hp) (st : Store) (v : Vl) (vs : List Vl) (x : V) (xs : List V) (rr : Rs Vl) (st' : Store),
  SR p.K as H st → SV p.K as H v x → SVs p.K as H vs xs → h v vs st = some (rr, st') → Post SV p σ as H rr st' Q → r x xs H Q
abbrev Chk := Store → Vl → Bool
def isL : Chk := fun st v => (lview st v).isSome
def isStr : Chk := fun _ v => match v with
  | .str _ => true
  | _ => false
def ChkS (p : Par) (chk : Chk) (T : String) : Prop := ∀ (as : List Addr) (H : Hp) (st : Store) (v : Vl) (x : V), SR p.K as H st → SV p.K as H v x → chk st v = true → tyV p.K.fr T x H
theorem chk_L {p : Par} : ChkS p isL "list" := fun as H st v x sr sv e => by
  unfold isL at e
  cases q : lview st v with
  | none => rw [q] at e; cases e
  | some vs =>
    obtain ⟨a, ys, rfl, sq, _⟩ := sv_lst sr sv q
    exact .inl ⟨rfl, ys, sq⟩
theorem chk_Str {p : Par} : ChkS p isStr "str" := fun as H st v x sr sv e => by
  unfold isStr at e
  split at e
  · simp only [SV] at sv; subst sv; exact rfl
  · cases e
def eM (chk : Chk) (f : Ef) (fs : Af) (h : Mf) : Ef := fun env st => Rb (f env st) fun v st1 => if chk st1 v = true then Rb (fs env st1) fun vs st2 => h v vs st2 else none
def mOr (h1 h2 : Mf) : Mf := fun v vs st => match h1 v vs st with
  | none => h2 v vs st
  | r => r
theorem MetS.or {p : Par} {r1 r2 : V → List V → Hp → VK → Prop} {h1 h2 : Mf} (a : MetS p r1 h1) (b : MetS p r2 h2) : MetS p (fun x xs H Q => r1 x xs H Q ∨ r2 x xs H Q) (mOr h1 h2) := fun σ Q as H st v vs x xs rr st' sr sv svs e post => by
  unfold mOr at e
  split at e
  · exact .inr (b σ Q as H st v vs x xs rr st' sr sv svs e post)
  · exact .inl (a σ Q as H st v vs x xs rr st' sr sv svs e post)
theorem PE.or {X : Cx} {e : Expr} {t t' : TE} (h : PE X e t) (h' : PE X e t') : PE X e (fun σ H Q => t σ H Q ∨ t' σ H Q) := ⟨fun pins s σ H Q I q => q.elim (h.run pins s σ H Q I) (h'.run pins s σ H Q I)⟩
section
variable {X : Cx} {p : Par} {o e : Expr} {es : List Expr} {f : Ef} {fs : Af} {name : Str} {apos cpos : Pos} {T id : String} {r : V → List V → Hp → VK → Prop} {h : Mf} {chk : Chk}
theorem snd_bm (hK : p.K.fr = X.K) (pa : PlainAttrs T) (slot : Slot T name id) (hty : typeOf (.builtin id) = pure (.type "method_descriptor")) (hm : MtR X id r) (hs : MetS p r h) (hc : ChkS p chk T) (ho : Snd X p o f) (ha : SndA X p (e :: es) fs)
    (hbase : attributeBase o name X.env (eval o X.env) = eval o X.env)
    (hfew : ((backTo cpos (starEach (e :: es) X.env)).all (fun x => !x.1) && (backToKw cpos (keywordEach [] X.env)).all (fun x => x.1.isSome)
      && decide ((e :: es).length + ([] : List Keyword).length + (if ([] : List Keyword).isEmpty then 0 else 1) < 30)) = true)
    (hline : (apos.endLine == cpos.line) = true) (hst : starEach (e :: es) X.env = (false, eval e X.env) :: starEach es X.env) (hplain : (backTo cpos (starEach es X.env)).any (·.1) = false) :
    Snd X p (.Call (.Attribute o name apos) (e :: es) [] cpos) (eM chk f fs h) :=
  pe_mono (pe_bm pa slot hty hm ho ha hbase hfew hline hst hplain) fun σ H Q t => by
    obtain ⟨as, env, st, sr, se, rr, st', e, post⟩ := t
    refine tG_step sr se e post fun v st1 as1 H1 x e1 ax gr sr1 sv k1 post1 => ?_
    split at k1
    · rename_i hck
      refine ⟨hK ▸ hc _ _ _ _ _ sr1 sv hck, tG_step sr1 (se.mono ax gr) k1 post1 fun vs st2 as2 H2 xs e2 ax2 gr2 sr2 sv2 k2 post2 => ?_⟩
      exact hs σ Q as2 H2 st2 v vs x xs rr st' sr2 (sv.mono ax2 gr2) sv2 k2 post2
    · cases k1
end
def onL (g : List Vl → Option (Vl × List Vl)) : Vl → Store → Out Vl
  | .ref k, st => match st[k]? with
    | some (.lst xs) => match g xs with
      | some (v, ys) => okv v (st.set k (.lst ys))
      | none => none
    | _ => none
  | _, _ => none
section
variable {X : Cx} {p : Par}
theorem onL_ok {σ : L2.St} {Q : VK} {as : List Addr} {H : Hp} {st st' : Store} {g : List Vl → Option (Vl × List Vl)} {v : Vl} {x : V} {rr : Rs Vl} (sr : SR p.K as H st) (sv : SV p.K as H v x) (e : onL g v st = some (rr, st')) (post : Post SV p σ as H rr st' Q) :
    ∃ (l : Addr) (xs : List V) (us ys : List Vl) (y : Vl), x = .ref l ∧ H l = some (.lst xs) ∧ SVs p.K as H us xs ∧ g us = some (y, ys) ∧ (∀ ws w, SVs p.K as (upd H l (.lst ws)) ys ws → SV p.K as (upd H l (.lst ws)) y w → Q w (upd H l (.lst ws))) ∧
      ∀ ws, Gr as H (upd H l (.lst ws)) := by
  unfold onL at e
  split at e
  · rename_i k
    split at e
    · rename_i us hk
      split at e
      · rename_i y ys hg
        cases e
        obtain ⟨a, xs, rfl, ha, hx, s⟩ := sv_ref_lst sr sv hk
        refine ⟨a, xs, us, ys, y, rfl, hx, s, hg, fun ws w sw sy => ?_, fun ws => ?_⟩
        · obtain ⟨sr2, gr⟩ := sr.set (o := .lst ws) (ob := .lst ys) ha hx True.intro ⟨ws, upd_same, sw⟩
          exact post as _ Ax.refl gr sr2 _ sy
        · exact Gr.set ha hx True.intro
      · cases e
    · cases e
  · cases e
def mAppend : Mf
  | v, [y], st => onL (fun xs => if xs.length < 16777216 then some (.non, xs ++ [y]) else none) v st
  | _, _, _ => none
theorem sv0 {K : Kw} {as : List Addr} {H : Hp} {xs : List V} (h : SVs K as H [] xs) : xs = [] := h
theorem s_append : MetS p rAppend mAppend := by
  intro σ Q as H st v vs x xs rr st' sr sv svs e post
  unfold mAppend at e
  split at e
  · rename_i y
    obtain ⟨z, rfl, sz⟩ := sv1 svs
    obtain ⟨l, xs, us, ys, r, rfl, hl, su, hg, k, kg⟩ := onL_ok sr sv e post
    split at hg
    · rename_i hn
      cases hg
      refine ⟨l, xs, z, rfl, rfl, hl, by rw [su.len, ← sline]; exact hn, k _ _ ?_ (by simp only [SV])⟩
      exact (su.append (show SVs p.K as H [y] [z] from ⟨z, [], rfl, sz, rfl⟩)).mono Ax.refl (kg _)
    · cases hg
  · cases e
theorem SVs.reverse {K : Kw} {as : List Addr} {H : Hp} : ∀ {vs : List Vl} {xs : List V}, SVs K as H vs xs → SVs K as H vs.reverse xs.reverse
  | [], xs, h => by
    have : xs = [] := h
    subst this; exact rfl
  | v :: vs, xs, h => by
    obtain ⟨x, r, rfl, s, t⟩ := h
    rw [List.reverse_cons, List.reverse_cons]
    exact (SVs.reverse t).append ⟨x, [], rfl, s, rfl⟩
def strsOf : List Vl → Option (List Str)
  | [] => some []
  | .str z :: vs => match strsOf vs with
    | some zs => some (z :: zs)
    | none => none
  | _ => none
theorem strsOf_sv {K : Kw} {as : List Addr} {H : Hp} : ∀ {vs : List Vl} {xs : List V} {ns : List Str}, SVs K as H vs xs → strsOf vs = some ns → xs = ns.map V.str
  | [], xs, ns, h, e => by
    cases e; exact h
  | v :: vs, xs, ns, h, e => by
    obtain ⟨x, r, rfl, s, t⟩ := h
    unfold strsOf at e
    split at e
    · rename_i q; cases q
    · rename_i z vs' q
      cases q
      split at e
      · rename_i zs hz
        cases e
        simp only [SV] at s; subst s
        rw [strsOf_sv t hz]; rfl
      · cases e
    · cases e
def mJoin : Mf
  | .str a, [v], st => match (match v with | .tup vs => some vs | v => lview st v) with
    | some vs => (match strsOf vs with
      | some ys => if (ys.map (·.length)).sum + ys.length * a.length ≤ 16777216 then okv (.str (Txt.join a ys)) st else none
      | none => none)
    | none => none
  | _, _, _ => none
def rJoin (K : PySem.W.Frag) : V → List V → Hp → VK → Prop := fun x xs H Q => ∃ a p, ∃ ys : List Str, x = .str a ∧ xs = [.ref p] ∧ (SqL K H p (ys.map V.str) ∨ SqT K H p (ys.map V.str)) ∧
    (ys.map (·.length)).sum + ys.length * a.length ≤ 16777216 ∧ Q (.str (Txt.join a ys)) H
theorem s_join (hK : p.K.fr = X.K) : MetS p (rJoin X.K) mJoin := by
  intro σ Q as H st v vs x xs rr st' sr sv svs e post
  unfold mJoin at e
  split at e
  · rename_i a v
    split at e
    · rename_i vs hv
      split at e
      · rename_i ys hy
        split at e
        · rename_i hn
          obtain ⟨z, rfl, sz⟩ := sv1 svs
          simp only [SV] at sv; subst sv
          split at hv
          · cases hv
            obtain ⟨b, zs, rfl, sq, r⟩ := sv_tup sz
            rw [hK] at sq
            have := strsOf_sv r hy; subst this
            exact ⟨a, b, ys, rfl, rfl, .inr sq, hn, ok_post e sr post (by simp only [SV])⟩
          · obtain ⟨b, zs, rfl, sq, r⟩ := sv_lst sr sz hv
            rw [hK] at sq
            have := strsOf_sv r hy; subst this
            exact ⟨a, b, ys, rfl, rfl, .inl sq, hn, ok_post e sr post (by simp only [SV])⟩
        · cases e
      · cases e
    · cases e
  · cases e
def uBits : Vl → Store → Out Vl
  | .int i, st => okv (.int (Builtin.Int.intBits i : Nat)) st
  | _, _ => none
theorem snd_bits {o : Expr} {f : Ef} {apos pos : Pos} (ho : Snd X p o f) (hbase : attributeBase o "bit_length" X.env (eval o X.env) = eval o X.env) (hline : (apos.endLine == pos.line) = true) :
    Snd X p (.Call (.Attribute o "bit_length" apos) [] [] pos) (una f uBits) := pe_mono (pe_bits ho hbase hline) fun σ H Q t => by
  obtain ⟨as, env, st, sr, se, rr, st', e, post⟩ := t
  refine tG_step sr se e post fun v st1 as1 H1 x e1 ax gr sr1 sv k1 post1 => ?_
  unfold uBits at k1
  split at k1
  · simp only [SV] at sv; subst sv
    exact ⟨_, rfl, ok_post k1 sr1 post1 (by simp only [SV])⟩
  · cases k1
end
end PD
set_option maxHeartbeats 4000000
namespace PD
open PySem PySem.Spec PyProof.Rows L2

section
variable {X : Cx} {K : Kw} {pins : List (Addr × PySem.Obj)} {σ : L2.St} {H : Hp} {s : Shared} {as : List Addr} {a : Addr}
theorem tup_at (hK : K.fr = X.K) (I : Inv X pins σ H s) {a : Addr} {xs : List V} (h : H a = some (.tup xs) ∨ KTup K.fr a xs) : ∃ (o : PySem.Obj) (its : List Value) (n : Nat), s.heap.get? a = some o ∧ o.cls = .type "tuple" ∧ o.data = .seq its.toArray n ∧ Vals xs its := by
  rcases h with h | ⟨o, its, n, h1, h2, h3, _, h5⟩
  · obtain ⟨_, its, r, o, h1, h2, n, h3⟩ := (show ObjOk X.prog X.w H s.heap a (.tup xs) from I.hok a _ h)
    exact ⟨o, its, n, h1, h2, h3, r⟩
  · exact ⟨o, its.toList, n, I.kIn a o (hK ▸ h1), h2, by rw [h3], h5⟩
mutual
theorem nested_of (hK : K.fr = X.K) (I : Inv X pins σ H s) : ∀ (v : Vl) (x : V) (u : Value) (k : NestedKey), SV K as H v x → RelV x u → nkOf v = some k → NestedIs s.heap k u
  | .non, x, u, k, sv, r, e => by
    simp only [SV] at sv; subst sv
    cases (show u = Value.none from r)
    simp only [nkOf] at e; cases e
    exact .none
  | .bl b, x, u, k, sv, r, e => by
    simp only [SV] at sv; subst sv
    cases (show u = Value.bool b from r)
    simp only [nkOf] at e; cases e
    exact .bool rfl
  | .int i, x, u, k, sv, r, e => by
    simp only [SV] at sv; subst sv
    obtain ⟨t, rfl⟩ := (show ∃ t, u = Value.int i t from r)
    simp only [nkOf] at e; cases e
    exact .int i t
  | .str z, x, u, k, sv, r, e => by
    simp only [SV] at sv; subst sv
    obtain ⟨t, rfl⟩ := (show ∃ t, u = Value.str z t from r)
    simp only [nkOf] at e; cases e
    exact .text z t
  | .tup vs, x, u, k, sv, r, e => by
    simp only [SV] at sv
    obtain ⟨b, xs, rfl, h, sx⟩ := sv
    cases (show u = Value.ref b from r)
    simp only [nkOf] at e
    split at e
    · rename_i ks hk
      cases e
      obtain ⟨o, its, n, h1, h2, h3, rv⟩ := tup_at hK I h
      exact .tup h1 h2 h3 (nested_all hK I vs xs its ks sx rv hk)
    · cases e
  | .klst _, x, u, k, sv, r, e => by simp [nkOf] at e
  | .rng _ _, x, u, k, sv, r, e => by simp [nkOf] at e
  | .fn _, x, u, k, sv, r, e => by simp [nkOf] at e
  | .ref _, x, u, k, sv, r, e => by simp [nkOf] at e
theorem nested_all (hK : K.fr = X.K) (I : Inv X pins σ H s) : ∀ (vs : List Vl) (xs : List V) (us : List Value) (ks : List NestedKey), SVs K as H vs xs → Vals xs us → nksOf vs = some ks → NestedAll s.heap ks us
  | [], xs, us, ks, sv, r, e => by
    have : xs = [] := sv
    subst this
    cases r
    simp only [nksOf] at e; cases e
    exact .nil
  | v :: vs, xs, us, ks, sv, r, e => by
    obtain ⟨x, rs, rfl, s1, s2⟩ := sv
    cases r with
    | cons r1 r2 =>
      simp only [nksOf] at e
      split at e
      · rename_i k ks' h1 h2
        cases e
        exact .cons (nested_of hK I v x _ k s1 r1 h1) (nested_all hK I vs rs _ ks' s2 r2 h2)
      · cases e
end
def isTup : Vl → Bool
  | .tup _ => true
  | _ => false
def isFlat : Vl → Bool
  | .int _ => true
  | .str _ => true
  | _ => false
theorem refs_vals {α β : Type} : ∀ xs : List (α × Addr × β), Vals (xs.map fun x => V.ref x.2.1) (xs.map fun x => Value.ref x.2.1)
  | [] => .nil
  | x :: xs => .cons rfl (refs_vals xs)
theorem tdict_of (hK : K.fr = X.K) (hw : K.w = X.w) (I : Inv X pins σ H s) {u : HO} {ks vs : List Vl} (hr : Rd H a u) (so : DicU K as H a u ks vs) (ht : ks.all isTup = true) :
    ∃ (xs : List (NestedKey × Addr × Value)) (ys : List V), s.heap.DictOfH (nestedKind X.prog X.w) a xs ∧ SVs K as H ks (xs.map fun x => V.ref x.2.1) ∧ nksOf ks = some (xs.map Prod.fst) ∧ Vals ys (xs.map fun x => x.2.2) ∧ SVs K as H vs ys ∧
      (a == sysModules) = false ∧ xs.length ≤ sizeLine ∧ (∀ x ∈ xs, x.1.depth ≤ 8) := by
  rcases so with ⟨kvs, rfl, rfl, sv⟩ | ⟨hn, xs, ys, rfl, sk, hk, hnd, hd, hl, hs, hv, sv⟩
  · cases kvs with
    | nil =>
      obtain ⟨_, hs, us, kv, o, es, ep, h1, h2, h3, _, h4, _⟩ := dk_rd I.hok hr
      have hus : us = [] := by cases kv; rfl
      subst hus
      have hes : es.toList = [] := by
        revert h4
        cases es.toList with
        | nil => intro _; rfl
        | cons q r => intro h4; cases h4
      exact ⟨[], [], ⟨o, es, ep, h1, h2, h3, by rw [hes]; rfl, fun x hx => absurd hx (by simp), List.nodup_nil⟩, rfl, rfl, .nil, sv, hs, Nat.zero_le _, fun x hx => absurd hx (by simp)⟩
    | cons q r =>
      exfalso
      obtain ⟨k, v⟩ := q
      cases k <;> simp [kVl, isTup] at ht
  · obtain ⟨⟨o, es, ep, h1, h2, h3, h4⟩, _⟩ := (show ObjOk X.prog X.w H s.heap a (.ext (dPhi K.w a xs)) from hr.ok I.hok)
    refine ⟨xs, ys, ⟨o, es, ep, h1, h2, h3, ?_, fun x hx => ?_, hnd⟩, sk, hk, hv, sv, hs, hl, hd⟩
    · rw [h4, hw]; rfl
    · have all := nested_all hK I ks _ (xs.map fun x => Value.ref x.2.1) _ sk (refs_vals xs) hk
      have mem : ∀ {l : List (NestedKey × Addr × Value)}, NestedAll s.heap (l.map Prod.fst) (l.map fun x => Value.ref x.2.1) → ∀ y ∈ l, NestedIs s.heap y.1 (.ref y.2.1) := by
        intro l
        induction l with
        | nil => intro _ y hy; cases hy
        | cons z zs ih =>
          intro h y hy
          cases h with
          | cons h1 h2 =>
            rcases List.mem_cons.mp hy with rfl | hy
            · exact h1
            · exact ih h2 y hy
      exact ⟨mem all x hx, hd x hx⟩
end
def dLook : List Vl → List Vl → NestedKey → Option Vl
  | k :: ks, v :: vs, n => if nkOf k = some n then some v else dLook ks vs n
  | _, _, _ => none
def dUpd : List Vl → List Vl → Vl → NestedKey → List Vl
  | k :: ks, w :: vs, v, n => (if nkOf k = some n then v else w) :: dUpd ks vs v n
  | _, _, _, _ => []
def dStore (ks vs : List Vl) (key v : Vl) (n : NestedKey) : List Vl × List Vl := match dLook ks vs n with
  | some _ => (ks, dUpd ks vs v n)
  | none => (ks ++ [key], vs ++ [v])
def keyFit (ks : List Vl) (key : Vl) : Option NestedKey := match key with
  | .int i => if ks.all isFlat = true then some (.num i) else none
  | .str z => if ks.all isFlat = true then some (.text z) else none
  | .tup vs => if ks.all isTup = true then (match nkOf (.tup vs) with | some n => if n.depth ≤ 8 then some n else none | none => none) else none
  | _ => none
def dView (st : Store) : Vl → Option (List Vl × List Vl)
  | .ref n => match st[n]? with
    | some (.dic ks vs) => some (ks, vs)
    | some (.lck ks vs) => some (ks, vs)
    | _ => none
  | _ => none
theorem dview_ok {K : Kw} {as : List Addr} {H : Hp} {st : Store} {d : Vl} {x : V} {ks vs : List Vl} (sr : SR K as H st) (sd : SV K as H d x) (e : dView st d = some (ks, vs)) : ∃ a u, x = .ref a ∧ Rd H a u ∧ DicU K as H a u ks vs := by
  unfold dView at e
  split at e
  · rename_i n
    simp only [SV] at sd
    obtain ⟨a, rfl, ha⟩ := sd
    split at e
    · rename_i ks' vs' hn
      cases e
      obtain ⟨b, hb, u, h1, h2⟩ := sr.ob n _ hn
      rw [ha] at hb; cases hb
      exact ⟨a, u, rfl, .inl h1, h2⟩
    · rename_i ks' vs' hn
      cases e
      obtain ⟨b, hb, o, u, h1, h2⟩ := sr.ob n _ hn
      rw [ha] at hb; cases hb
      exact ⟨a, u, rfl, .inr ⟨o, h1⟩, h2⟩
    · cases e
  · cases e
def dGet (st : Store) (d key : Vl) : Option (Option Vl) := match dView st d with
  | some (ks, vs) => match keyFit ks key with
    | some nk => some (dLook ks vs nk)
    | none => none
  | none => none
def dPut (st : Store) (d key v : Vl) : Option Store := match d with
  | .ref n => match st[n]? with
    | some (.dic ks vs) => if ks.length < 16777216 then (match keyFit ks key with
      | some nk => some (st.set n (.dic (dStore ks vs key v nk).1 (dStore ks vs key v nk).2))
      | none => none) else none
    | _ => none
  | _ => none
theorem dLook_k {K : Kw} {as : List Addr} {H : Hp} {k : Key} {n : NestedKey} (hn : nkOf (kVl k) = some n) : ∀ {kvs : List (Key × V)} {vs : List Vl}, SVs K as H vs (kvs.map Prod.snd) →
    (∀ v, dLook (kvs.map fun q => kVl q.1) vs n = some v → ∃ w, valV kvs k = some w ∧ SV K as H v w) ∧ (dLook (kvs.map fun q => kVl q.1) vs n = none → valV kvs k = none)
  | [], vs, sv => by
    have : vs = [] := by
      cases vs with
      | nil => rfl
      | cons v vs => obtain ⟨_, _, e, _⟩ := sv; cases e
    subst this
    exact ⟨fun v h => by simp [dLook] at h, fun _ => rfl⟩
  | (q, y) :: kvs, vs, sv => by
    cases vs with
    | nil => cases (show _ = [] from sv)
    | cons v vs =>
      obtain ⟨x, r, e, s1, s2⟩ := sv
      cases e
      have ih := dLook_k (k := k) hn (kvs := kvs) (vs := vs) s2
      simp only [List.map_cons, dLook]
      have hq : (nkOf (kVl q) = some n) ↔ q = k := by
        rw [← hn]
        cases q <;> cases k <;> simp [kVl, nkOf]
      by_cases hk : q = k
      · rw [if_pos (hq.mpr hk)]
        refine ⟨fun v' h => ?_, fun h => by cases h⟩
        cases h
        exact ⟨y, by simp [valV, hk], s1⟩
      · rw [if_neg (fun z => hk (hq.mp z))]
        have ev : valV ((q, y) :: kvs) k = valV kvs k := by simp [valV, List.find?, hk]
        rw [ev]
        exact ih
theorem dLook_t {K : Kw} {as : List Addr} {H : Hp} {n : NestedKey} : ∀ {xs : List (NestedKey × Addr × Value)} {ys : List V} {ks vs : List Vl}, nksOf ks = some (xs.map Prod.fst) → Vals ys (xs.map fun x => x.2.2) → SVs K as H vs ys →
    (∀ v, dLook ks vs n = some v → ∃ p w, atKey xs n = some p ∧ RelV w p.2 ∧ SV K as H v w) ∧ (dLook ks vs n = none → atKey xs n = none)
  | [], ys, ks, vs, hk, hv, sv => by
    have e1 : ks = [] := by
      cases ks with
      | nil => rfl
      | cons k ks => simp only [nksOf] at hk; split at hk <;> cases hk
    subst e1
    exact ⟨fun v h => by simp [dLook] at h, fun _ => rfl⟩
  | (n0, b, u) :: xs, ys, ks, vs, hk, hv, sv => by
    cases ks with
    | nil => simp [nksOf] at hk
    | cons k ks =>
      simp only [nksOf] at hk
      split at hk
      · rename_i k' ks' h1 h2
        simp only [List.map_cons, Option.some.injEq, List.cons.injEq] at hk
        obtain ⟨rfl, rfl⟩ := hk
        cases hv with
        | cons r1 r2 =>
          cases vs with
          | nil => cases (show _ = [] from sv)
          | cons v vs =>
            obtain ⟨x, r, e, s1, s2⟩ := sv
            cases e
            have ih := dLook_t (n := n) h2 r2 s2
            simp only [dLook, h1]
            by_cases hn : k' = n
            · rw [if_pos (by rw [hn])]
              refine ⟨fun v' h => ?_, fun h => by cases h⟩
              cases h
              exact ⟨(b, u), _, by simp [atKey, hn], r1, s1⟩
            · rw [if_neg (by simpa using hn)]
              have ea : atKey ((k', b, u) :: xs) n = atKey xs n := by simp [atKey, List.find?, hn]
              rw [ea]
              exact ih
      · cases hk
def rDGetP (p : Par) : R2 := fun x y H Q => ∃ as st d key v, SR p.K as H st ∧ SV p.K as H d x ∧ SV p.K as H key y ∧ dGet st d key = some (some v) ∧ ∀ w, SV p.K as H v w → Q w H
section
variable {X : Cx} {p : Par}
theorem key_k {k : Key} {key : Vl} {ks : List Vl} {n : NestedKey} (h : keyFit ks key = some n) : (∃ k : Key, key = kVl k ∧ nkOf (kVl k) = some n ∧ ks.all isFlat = true) ∨ (∃ vs, key = .tup vs ∧ nkOf key = some n ∧ n.depth ≤ 8 ∧ ks.all isTup = true) := by
  unfold keyFit at h
  split at h
  · split at h
    · cases h; exact .inl ⟨.inl _, rfl, rfl, by assumption⟩
    · cases h
  · split at h
    · cases h; exact .inl ⟨.inr _, rfl, rfl, by assumption⟩
    · cases h
  · split at h
    · split at h
      · split at h
        · cases h; exact .inr ⟨_, rfl, by assumption, by assumption, by assumption⟩
        · cases h
      · cases h
    · cases h
  · cases h
theorem so_flat {K : Kw} {as : List Addr} {H : Hp} {a : Addr} {u : HO} {ks vs : List Vl} (so : DicU K as H a u ks vs) (hf : ks.all isFlat = true) : ∃ kvs : List (Key × V), u = .dK kvs ∧ ks = kvs.map (fun q => kVl q.1) ∧ SVs K as H vs (kvs.map Prod.snd) := by
  rcases so with h | ⟨hn, xs, ys, e, sk, hk, _⟩
  · exact h
  · exfalso
    cases ks with
    | nil => exact hn rfl
    | cons k ks =>
      cases xs with
      | nil => cases (show k :: ks = [] from by
          obtain ⟨_, _, e, _⟩ := sk
          cases e)
      | cons x xs =>
        obtain ⟨y, r, e, s1, _⟩ := sk
        cases e
        cases k <;> simp [isFlat] at hf
        · simp only [SV] at s1; cases s1
        · simp only [SV] at s1; cases s1
theorem in1_room {A : Around} {n k : Nat} (h : A.units + (n + 1) < k) : A.in1.units + n < k := by
  show A.units + 1 + n < k
  omega
theorem subTail_of {prog : Program} {w : World} {A : Around} {E : Value → Shared → Prop} {s : Shared} {value slice : Expr} {o i : Value} {T id : String} {Q : Value → Shared → Prop} (hT : s.TypeIs o T)
    (hl : typeLookup (.type T) "__getitem__" = pure (some (.builtin id))) (hs : subscripted slice false o i = operate [o, i] (getItem o i)) (h : wpAny (model prog w) A (getItem o i) Q E s) :
    wpAny (model prog w) A (subscriptTail value slice o i) Q E s := by
  unfold subscriptTail
  refine wpAny_bind ?_
  rw [getitemInPython_of_ne hT.not_modules]
  refine wpAny_bind (wpAny_specialOf hT hl ?_)
  have fin : wpAny (model prog w) A (subscripted slice false o i) (fun r s₃ => wpAny (model prog w) A (letTemporaryGo value o r >>= fun _ => pure r) Q E s₃) E s := by
    rw [hs]
    exact wpAny_operating (wpAny_mono h (fun r s₃ h₃ => wpAny_bind (wpAny_letTemporaryGo (wpAny_pure h₃))) fun _ _ x => x)
  first
    | exact wpAny_pure (wpAny_bind fin)
    | exact wpAny_bind (wpAny_pure (wpAny_bind fin))
    | exact wpAny_bind fin
theorem ix_dget (hK : p.K.fr = X.K) (hw : p.K.w = X.w) (hu : X.A.units + 9 < cLine) : IxR X (rDGetP p) := by
  intro value slice pins s σ H x y v u Q I rx ry h hs
  obtain ⟨as, st, d, key, dv, sr, sd, sk, e, q⟩ := h
  unfold dGet at e
  split at e
  · rename_i ks vs hn
    split at e
    · rename_i nk hf
      obtain ⟨a, w0, rfl, hr, so⟩ := dview_ok sr sd hn
      cases (show v = Value.ref a from rx)
      simp only [Option.some.injEq] at e
      rcases key_k (k := .inl 0) hf with ⟨k, rfl, hk, hfl⟩ | ⟨ts, rfl, hk, hd, hft⟩
      · obtain ⟨kvs, rfl, rfl, sv⟩ := so_flat so hfl
        obtain ⟨w, hw1, sw⟩ := (dLook_k hk sv).1 dv e
        have ey : y = kV k := by cases k <;> simpa [kVl, kV, SV] using sk
        subst ey
        have g : DGet H a (kV k) (some w) := .inl ⟨kvs, k, hr, rfl, hw1.symm⟩
        have rx0 : RelV (kV k) u := ry
        exact subTail_of (dict_typeIs I g) PySem.F.slot_dict_getitem.lookup hs (d_getItem (by omega) I g rx0 fun w' s3 I3 rw' => ⟨w, H, I3, rw', q w sw⟩)
      · obtain ⟨xs, ys, dd, sks, hks, hv, sv, hsm, hl, hdp⟩ := tdict_of hK hw I hr so hft
        obtain ⟨pp, w, e1, rw1, sw⟩ := (dLook_t hks hv sv).1 dv e
        have hn1 := nested_of hK I _ _ _ _ sk ry hk
        obtain ⟨b, zs, rfl, _, _⟩ := sv_tup sk
        cases (show u = Value.ref b from ry)
        refine subTail_of dd.typeIs PySem.F.slot_dict_getitem.lookup hs (wpAny_getItem_heap (knd := nestedKind X.prog X.w) (in1_room hu) ⟨hn1, hd⟩ dd e1 ?_)
        exact ⟨w, H, I.tok _, rw1, q w sw⟩
    · cases e
  · cases e
theorem s_dget : OpS p (rDGetP p) (fun d key st => match dGet st d key with | some (some v) => okv v st | _ => none) := by
  intro σ Q as H st v w x y rr st' sr sv sw e post
  dsimp only at e
  split at e
  · rename_i u hu
    exact ⟨as, st, v, w, u, sr, sv, sw, hu, fun z sz => ok_post e sr post sz⟩
  · cases e
theorem kVl_nk {k q : Key} {n : NestedKey} (hn : nkOf (kVl k) = some n) : (nkOf (kVl q) = some n) ↔ q = k := by
  rw [← hn]
  cases q <;> cases k <;> simp [kVl, nkOf]
theorem dUpd_k {K : Kw} {as : List Addr} {H : Hp} {k : Key} {n : NestedKey} (hn : nkOf (kVl k) = some n) {v : Vl} {w : V} (sw : SV K as H v w) : ∀ {kvs : List (Key × V)} {vs : List Vl}, SVs K as H vs (kvs.map Prod.snd) →
    SVs K as H (dUpd (kvs.map fun q => kVl q.1) vs v n) ((kvs.map fun kv => if kv.1 = k then (kv.1, w) else kv).map Prod.snd)
  | [], vs, sv => by
    have : vs = [] := by
      cases vs with
      | nil => rfl
      | cons v vs => obtain ⟨_, _, e, _⟩ := sv; cases e
    subst this
    rfl
  | (q, y) :: kvs, vs, sv => by
    cases vs with
    | nil => cases (show _ = [] from sv)
    | cons u us =>
      obtain ⟨x, r, e, s1, s2⟩ := sv
      cases e
      simp only [List.map_cons, dUpd]
      have ih := dUpd_k hn sw s2
      by_cases hk : q = k
      · rw [if_pos ((kVl_nk hn).mpr hk), if_pos hk]
        exact ⟨_, _, rfl, sw, ih⟩
      · rw [if_neg (fun z => hk ((kVl_nk hn).mp z)), if_neg hk]
        exact ⟨_, _, rfl, s1, ih⟩
theorem dStore_k {K : Kw} {as : List Addr} {H : Hp} {k : Key} {n : NestedKey} (hn : nkOf (kVl k) = some n) {v : Vl} {w : V} (sw : SV K as H v w) {kvs : List (Key × V)} {vs : List Vl} (sv : SVs K as H vs (kvs.map Prod.snd)) :
    (dStore (kvs.map fun q => kVl q.1) vs (kVl k) v n).1 = (putK kvs k w).map (fun q => kVl q.1) ∧ SVs K as H (dStore (kvs.map fun q => kVl q.1) vs (kVl k) v n).2 ((putK kvs k w).map Prod.snd) := by
  have l := dLook_k hn sv
  unfold dStore putK
  rw [valV_any]
  cases e : dLook (kvs.map fun q => kVl q.1) vs n with
  | some u =>
    obtain ⟨w', e1, _⟩ := l.1 u e
    rw [e1]
    simp only [Option.isSome_some, if_true]
    refine ⟨?_, dUpd_k hn sw sv⟩
    rw [List.map_map]
    refine List.map_congr_left fun q _ => ?_
    show kVl q.1 = kVl (if q.1 = k then (q.1, w) else q).1
    split <;> rfl
  | none =>
    rw [l.2 e]
    simp only [Option.isSome_none, Bool.false_eq_true, if_false, List.map_append, List.map_cons, List.map_nil]
    exact ⟨trivial, sv.append ⟨w, [], rfl, sw, rfl⟩⟩
theorem nksOf_append : ∀ {ks ls : List Vl} {n : List NestedKey} {k : Vl} {m : NestedKey}, nksOf ks = some n → nkOf k = some m → nksOf (ks ++ [k]) = some (n ++ [m])
  | [], ls, n, k, m, h, hk => by
    simp only [nksOf] at h; cases h
    simp [nksOf, hk]
  | q :: ks, ls, n, k, m, h, hk => by
    simp only [nksOf] at h
    split at h
    · rename_i a b h1 h2
      cases h
      simp [nksOf, h1, nksOf_append (ls := ls) h2 hk]
    · cases h
theorem dUpd_t {K : Kw} {as : List Addr} {H : Hp} {n : NestedKey} {v : Vl} {w : V} {u : Value} (sw : SV K as H v w) (ru : RelV w u) : ∀ {xs : List (NestedKey × Addr × Value)} {ys : List V} {ks vs : List Vl}, nksOf ks = some (xs.map Prod.fst) → Vals ys (xs.map fun x => x.2.2) → SVs K as H vs ys →
    ∃ ys', Vals ys' ((xs.map (putAt n u)).map fun x => x.2.2) ∧ SVs K as H (dUpd ks vs v n) ys'
  | [], ys, ks, vs, hk, hv, sv => by
    have e1 : ks = [] := by
      cases ks with
      | nil => rfl
      | cons k ks => simp only [nksOf] at hk; split at hk <;> cases hk
    subst e1
    exact ⟨[], .nil, rfl⟩
  | (n0, b, z) :: xs, ys, ks, vs, hk, hv, sv => by
    cases ks with
    | nil => simp [nksOf] at hk
    | cons k ks =>
      simp only [nksOf] at hk
      split at hk
      · rename_i k' ks' h1 h2
        simp only [List.map_cons, Option.some.injEq, List.cons.injEq] at hk
        obtain ⟨rfl, rfl⟩ := hk
        cases hv with
        | cons r1 r2 =>
          cases vs with
          | nil => cases (show _ = [] from sv)
          | cons v' vs =>
            obtain ⟨x, r, e, s1, s2⟩ := sv
            cases e
            obtain ⟨ys', q1, q2⟩ := dUpd_t (n := n) sw ru h2 r2 s2
            simp only [dUpd, h1, List.map_cons]
            by_cases hn : k' = n
            · rw [if_pos (by rw [hn])]
              exact ⟨w :: ys', .cons (by simpa [putAt, hn] using ru) q1, ⟨_, _, rfl, sw, q2⟩⟩
            · rw [if_neg (by simpa using hn)]
              exact ⟨_ :: ys', .cons (by simpa [putAt, hn] using r1) q1, ⟨_, _, rfl, s1, q2⟩⟩
      · cases hk
def rDPutP (p : Par) : TSet := fun o i v H Q => ∃ as st d key dv st', SR p.K as H st ∧ SV p.K as H d o ∧ SV p.K as H key i ∧ SV p.K as H dv v ∧ dPut st d key dv = some st' ∧ ∀ H', Gr as H H' → SR p.K as H' st' → Q H'
theorem set_dput (hK : p.K.fr = X.K) (hw : p.K.w = X.w) (hu : X.A.units + 9 < cLine) : PSet X (rDPutP p) := by
  intro pins s σ H o i v ov iv u Q I ro ri rv h
  obtain ⟨as, st, d, key, dv, st', sr, sd, sk, sv0, e, q⟩ := h
  unfold dPut at e
  split at e
  · rename_i n
    split at e
    · rename_i ks vs hn
      split at e
      · rename_i hlen
        split at e
        · rename_i nk hf
          cases e
          obtain ⟨a, ha, w0, e0, so⟩ := sr.ob n _ hn
          simp only [SV] at sd
          obtain ⟨a', rfl, ha'⟩ := sd
          rw [ha] at ha'; cases ha'
          cases (show ov = Value.ref a from ro)
          rcases key_k (k := .inl 0) hf with ⟨k, rfl, hk, hfl⟩ | ⟨ts, rfl, hk, hd, hft⟩
          · obtain ⟨kvs, rfl, rfl, sv⟩ := so_flat so hfl
            have e1 := e0
            have ey : i = kV k := by cases k <;> simpa [kVl, kV, SV] using sk
            subst ey
            have hl : kvs.length < sizeLine := by rw [← sline]; simpa using hlen
            have gr : Gr as H (upd H a (.dK (putK kvs k v))) := Gr.set ha e1 True.intro
            refine d_setItem (by omega) I (DPut.k e1 hl) ri rv fun s' I' => ⟨_, I', q _ gr ?_⟩
            have l := dStore_k (K := p.K) (as := as) (H := upd H a (.dK (putK kvs k v))) hk (sv0.mono Ax.refl gr) (sv.mono Ax.refl gr)
            exact (sr.set (ob := .dic (dStore (kvs.map fun q => kVl q.1) vs (kVl k) dv nk).1 (dStore (kvs.map fun q => kVl q.1) vs (kVl k) dv nk).2) ha e1 True.intro ⟨_, upd_same, Or.inl ⟨_, rfl, l.1, l.2⟩⟩).1
          · obtain ⟨xs, ys, dd, sks, hks, hv, sv, hsm, hl, hdp⟩ := tdict_of hK hw I (.inl e0) so hft
            have hn1 := nested_of hK I _ _ _ _ sk ri hk
            obtain ⟨b, zs, rfl, _, _⟩ := sv_tup sk
            cases (show iv = Value.ref b from ri)
            have mu : Mut (H a) := by rw [e0]; exact so.mu
            refine wpAny_setItem_heap (knd := nestedKind X.prog X.w) (in1_room hu) ⟨hn1, hd⟩ dd (fun h' dd' hs => ?_) hl
            have hlx : xs.length = ks.length := by
              have := sks.len
              simpa using this
            obtain ⟨ob, es, ep, h1, h2, h3, h4, h5, h6⟩ := dd'
            let xs' := storedH xs nk b u
            have gr : Gr as H (upd H a (.ext (dPhi X.w a xs'))) := Gr.set ha e0 so.mu
            have stab : ∀ h1 h2 : Heap, dPhi X.w a xs' h1 → (∀ o, h1.get? a = some o → h2.get? a = some o) → dPhi X.w a xs' h2 := fun h1 h2 ⟨o, es, ep, g1, g2⟩ k => ⟨o, es, ep, k o g1, g2⟩
            have I' := d_write (t' := s.toks + (nestedKind X.prog X.w).draws nk) (ob := .ext (dPhi X.w a xs')) I mu hs ⟨ob, h1⟩ ⟨⟨ob, es, ep, h1, h2, h3, h4⟩, ⟨ob, h1⟩, stab⟩
            refine ⟨_, I', q _ gr ((sr.set (ob := .dic (dStore ks vs (.tup ts) dv nk).1 (dStore ks vs (.tup ts) dv nk).2) ha e0 so.mu ⟨_, upd_same, Or.inr ?_⟩).1)⟩
            have l := dLook_t (K := p.K) (n := nk) hks hv sv
            have sks' := sks.mono Ax.refl gr
            have sv' := sv.mono Ax.refl gr
            have sk' := sk.mono Ax.refl gr
            have s0' := sv0.mono Ax.refl gr
            cases el : dLook ks vs nk with
            | some old =>
              obtain ⟨pp, w, ea, _, _⟩ := l.1 old el
              have ex : xs' = xs.map (putAt nk u) := storedH_old ea b u
              obtain ⟨ys', hv', sy'⟩ := dUpd_t (n := nk) s0' rv hks hv sv'
              have efst : (xs.map (putAt nk u)).map Prod.fst = xs.map Prod.fst := by
                rw [List.map_map]
                exact List.map_congr_left fun x _ => by simp only [Function.comp_def, putAt]; split <;> rfl
              have eref : (xs.map (putAt nk u)).map (fun x => V.ref x.2.1) = xs.map fun x => V.ref x.2.1 := by
                rw [List.map_map]
                exact List.map_congr_left fun x _ => by simp only [Function.comp_def, putAt]; split <;> rfl
              have hne : ks ≠ [] := by
                rintro rfl
                simp [dLook] at el
              simp only [dStore, el]
              refine ⟨hne, xs', ys', by rw [hw], ?_, ?_, h6, ?_, ?_, hsm, ?_, sy'⟩
              · have er : xs'.map (fun x => V.ref x.2.1) = xs.map (fun x => V.ref x.2.1) := by rw [ex, eref]
                rw [er]; exact sks'
              · rw [ex, efst]; exact hks
              · rw [ex]
                intro x hx
                obtain ⟨y, hy, rfl⟩ := List.mem_map.mp hx
                have := hdp y hy
                unfold putAt
                split <;> exact this
              · rw [ex]; simpa using hl
              · rw [ex]; exact hv'
            | none =>
              have ex : xs' = xs ++ [(nk, b, u)] := storedH_new (l.2 el) b u
              simp only [dStore, el]
              refine ⟨by simp, xs', ys ++ [v], by rw [hw], ?_, ?_, h6, ?_, ?_, hsm, ?_, ?_⟩
              · have er : xs'.map (fun x => V.ref x.2.1) = xs.map (fun x => V.ref x.2.1) ++ [V.ref b] := by rw [ex, List.map_append]; rfl
                rw [er]
                exact sks'.append (show SVs p.K as _ [.tup ts] [V.ref b] from ⟨_, [], rfl, sk', rfl⟩)
              · rw [ex, List.map_append]; exact nksOf_append (ls := []) hks hk
              · rw [ex]
                intro x hx
                rcases List.mem_append.mp hx with hx | hx
                · exact hdp x hx
                · have : x = (nk, b, u) := by simpa using hx
                  subst this; exact hd
              · rw [ex, ← sline]; simp only [List.length_append, List.length_cons, List.length_nil]; omega
              · rw [ex, List.map_append]; exact hv.append (.cons rv .nil)
              · exact sv'.append (show SVs p.K as _ [dv] [v] from ⟨_, [], rfl, s0', rfl⟩)
        · cases e
      · cases e
    · cases e
  · cases e
end
end PD
set_option maxHeartbeats 4000000
namespace PD
open PySem PySem.Spec PyProof.Rows L2

section
variable {X : Cx} {p : Par} {a b o e : Expr} {f g fo fi : Ef} {pos : Pos}
def fDGet (d key : Vl) (st : Store) : Out Vl := match dGet st d key with
  | some (some v) => okv v st
  | _ => none
def fOr (h1 h2 : Vl → Vl → Store → Out Vl) : Vl → Vl → Store → Out Vl := fun v w st => match h1 v w st with
  | none => h2 v w st
  | r => r
theorem OpS.or {r1 r2 : R2} {h1 h2 : Vl → Vl → Store → Out Vl} (a : OpS p r1 h1) (b : OpS p r2 h2) : OpS p (fun x y H Q => r1 x y H Q ∨ r2 x y H Q) (fOr h1 h2) := fun σ Q as H st v w x y rr st' sr sv sw e post => by
  unfold fOr at e
  split at e
  · exact .inr (b σ Q as H st v w x y rr st' sr sv sw e post)
  · exact .inl (a σ Q as H st v w x y rr st' sr sv sw e post)
theorem IxR.or {r1 r2 : R2} (a : IxR X r1) (b : IxR X r2) : IxR X (fun x y H Q => r1 x y H Q ∨ r2 x y H Q) := fun v s pins sh σ H x y v' u Q I r1 r2 h hs => h.elim (fun h => a v s pins sh σ H x y v' u Q I r1 r2 h hs) (fun h => b v s pins sh σ H x y v' u Q I r1 r2 h hs)
theorem snd_dget (hK : p.K.fr = X.K) (hw : p.K.w = X.w) (hu : X.A.units + 9 < cLine) (ha : Snd X p a f) (hb : Snd X p b g) (hs : PlainIx b) : Snd X p (.Subscript a b pos) (bin f g fDGet) :=
  pe_mono (pe_ix (ix_dget hK hw hu) ha hb hs) fun σ H Q t => tE_bin s_dget t
def fIxA : Vl → Vl → Store → Out Vl := fOr fIx fDGet
theorem bin_or {h1 h2 : Vl → Vl → Store → Out Vl} {env : Env} {st st' : Store} {rr : Rs Vl} (e : bin f g (fOr h1 h2) env st = some (rr, st')) : bin f g h1 env st = some (rr, st') ∨ bin f g h2 env st = some (rr, st') := by
  unfold bin Rb at e ⊢
  cases q : f env st with
  | none => rw [q] at e; cases e
  | some r =>
    rw [q] at e
    obtain ⟨r, s1⟩ := r
    cases r with
    | x c u => exact .inl e
    | v v =>
      simp only at e ⊢
      cases q2 : g env s1 with
      | none => rw [q2] at e; cases e
      | some r2 =>
        rw [q2] at e
        obtain ⟨r2, s2⟩ := r2
        cases r2 with
        | x c u => exact .inl e
        | v w =>
          simp only [fOr] at e ⊢
          split at e
          · exact .inr e
          · exact .inl e
theorem snd_ixA (hK : p.K.fr = X.K) (hw : p.K.w = X.w) (hu : X.A.units + 9 < cLine) (ha : Snd X p a f) (hb : Snd X p b g) (hs : PlainIx b) : Snd X p (.Subscript a b pos) (bin f g fIxA) :=
  pe_mono (PE.or (snd_ix hK ha hb hs) (snd_dget hK hw hu ha hb hs)) fun σ H Q t => by
    obtain ⟨as, env, st, sr, se, rr, st', e, post⟩ := t
    rcases bin_or e with e | e
    · exact .inl ⟨as, env, st, sr, se, rr, st', e, post⟩
    · exact .inr ⟨as, env, st, sr, se, rr, st', e, post⟩
def setD (st : Store) (ob i v : Vl) : Option Store := match ob with
  | .ref k => match st[k]? with
    | some (.lst xs) => (match i with
      | .int z => (match ixN xs.length z with
        | some j => some (st.set k (.lst (xs.set j v)))
        | none => none)
      | _ => none)
    | _ => dPut st ob i v
  | _ => none
def rSetP (p : Par) : TSet := fun o i v H Q => rSetL o i v H Q ∨ rDPutP p o i v H Q
theorem set_P (hK : p.K.fr = X.K) (hw : p.K.w = X.w) (hu : X.A.units + 9 < cLine) : PSet X (rSetP p) := fun pins s σ H o i v ov iv u Q I ro ri rv h =>
  h.elim (set_list pins s σ H o i v ov iv u Q I ro ri rv) (set_dput hK hw hu pins s σ H o i v ov iv u Q I ro ri rv)
theorem SVs.set {K : Kw} {as : List Addr} {H : Hp} {d : Vl} {x : V} (s : SV K as H d x) : ∀ {vs : List Vl} {xs : List V} (j : Nat), SVs K as H vs xs → SVs K as H (vs.set j d) (xs.set j x)
  | [], xs, j, h => by
    have : xs = [] := h
    subst this; exact rfl
  | v :: vs, xs, 0, h => by
    obtain ⟨y, r, rfl, s1, t⟩ := h
    exact ⟨x, r, rfl, s, t⟩
  | v :: vs, xs, j + 1, h => by
    obtain ⟨y, r, rfl, s1, t⟩ := h
    exact ⟨y, r.set j x, rfl, s1, SVs.set s j t⟩
theorem setD_ok {as : List Addr} {H : Hp} {st st' : Store} {ob i v : Vl} {x y z : V} {Q : Hp → Prop} (sr : SR p.K as H st) (so : SV p.K as H ob x) (si : SV p.K as H i y) (sv : SV p.K as H v z) (e : setD st ob i v = some st') (q : ∀ H', Gr as H H' → SR p.K as H' st' → Q H') : rSetP p x y z H Q := by
  unfold setD at e
  split at e
  · rename_i k
    split at e
    · rename_i xs hk
      split at e
      · rename_i n
        split at e
        · rename_i j hj
          cases e
          obtain ⟨a, ys, rfl, ha, hy, s⟩ := sv_ref_lst sr so hk
          simp only [SV] at si; subst si
          have gr : Gr as H (upd H a (.lst (ys.set j z))) := Gr.set ha hy True.intro
          refine .inl ⟨a, ys, n, j, rfl, rfl, hy, by rw [s.len]; exact hj, q _ gr ?_⟩
          exact (sr.set (ob := .lst (xs.set j v)) ha hy True.intro ⟨_, upd_same, (s.set sv j).mono Ax.refl gr⟩).1
        · cases e
      · cases e
    · exact .inr ⟨as, st, .ref k, i, v, st', sr, so, si, sv, e, q⟩
  · cases e
def gSubF (fo fi : Ef) : Gf := fun v env st => match fo env st with
  | some (.v ov, st1) => (match fi env st1 with
    | some (.v iv, st2) => (match setD st2 ov iv v with
      | some st3 => some (env, st3)
      | none => none)
    | _ => none)
  | _ => none
theorem sndG_sub {i : Expr} (hK : p.K.fr = X.K) (hw : p.K.w = X.w) (hu : X.A.units + 9 < cLine) (ho : Snd X p.n o fo) (hi : Snd X p.n i fi)
    (ha : ∀ v, assign (.Subscript o i pos) X.env v = (do
      let ov ← holding [v] (eval o X.env)
      let iv ← holding [v, ov] (eval i X.env)
      standAt pos
      holding [v, ov, iv] (setItem ov iv v)
      release [v, ov, iv] [])) : SndG X p (.Subscript o i pos) [] (gSubF fo fi) :=
  pg_mono (pg_sub ho hi (set_P hK hw hu) ha) fun v σ H Q t => by
    obtain ⟨as, env, st, u, sr, se, sv, env', st', e, post⟩ := t
    unfold gSubF at e
    split at e
    · rename_i ov st1 e1
      split at e
      · rename_i iv st2 e2
        split at e
        · rename_i st3 e3
          cases e
          refine ⟨as, env, st, sr, se, .v ov, st1, e1, fun as1 H1 ax1 gr1 sr1 x sx => ?_⟩
          refine ⟨as1, env, st1, sr1, se.mono ax1 gr1, .v iv, st2, e2, fun as2 H2 ax2 gr2 sr2 y sy => ?_⟩
          refine setD_ok sr2 (sx.mono ax2 gr2) sy ((sv.mono ax1 gr1).mono ax2 gr2) e3 fun H3 gr3 sr3 => ?_
          have ax := ax1.trans gr1 ax2
          have gr := Gr.trans ax1 gr1 gr2
          exact post as2 H3 σ ax (Gr.trans ax gr gr3) sr3 ((se.mono ax gr).mono Ax.refl gr3) rfl fun _ _ => rfl
        · cases e
      · cases e
    · cases e
end
end PD
set_option maxHeartbeats 4000000
namespace PD
open PySem PySem.Spec PyProof.Rows L2

section
variable {X : Cx}
end
theorem SEnv.monoV {K : Kw} {as : List Addr} {H H' : Hp} {env : Env} {σ : L2.St} (g : Gv as as H H') (h : SEnv K as H env σ) : SEnv K as H' env σ := ⟨h.1, fun i v e => let ⟨x, e1, s⟩ := h.2 i v e; ⟨x, e1, SV.monoV g v x s⟩⟩
section
variable {X : Cx} {p : Par}
end
end PD
set_option maxHeartbeats 4000000
namespace PD
open PySem PySem.Spec PyProof.Rows L2

structure LkO (d : Addr) (o : PySem.Obj) (es : Array DictEntry) (ep : Nat) (KS VS : List V) : Prop where
  sys : (d == sysModules) = false
  ex : o.ExactDict
  dat : o.data = .dict es ep
  lk : es.size = KS.length
  lv : es.size = VS.length
  key : ∀ i (h : i < es.size) k, KS[i]? = some k → RelV k es[i].key
  val : ∀ i (h : i < es.size) v, VS[i]? = some v → RelV v es[i].val
theorem vals_at {ys : List V} {us : List Value} (r : Vals ys us) {i : Nat} {y : V} {u : Value} (h1 : ys[i]? = some y) (h2 : us[i]? = some u) : RelV y u := by
  obtain ⟨u', e, ru⟩ := r.get h1
  rw [h2] at e; cases e
  exact ru
section
variable {X : Cx} {K : Kw} {pins : List (Addr × PySem.Obj)} {σ : L2.St} {H : Hp} {s : Shared} {as : List Addr} {d : Addr} {o : PySem.Obj} {u : HO} {ks vs : List Vl}
end
section
variable {P : Program} {w : World} {K : PySem.W.Frag} {tg : Expr} {d : Addr} {o : PySem.Obj} {u : HO} {es : Array DictEntry} {ep : Nat} {KS VS : List V}
end
section
variable {X : Cx} {p : Par} {tg e : Expr} {f : Ef}
end
end PD
set_option maxHeartbeats 4000000
namespace PD
open PySem PySem.Spec PyProof.Rows L2

theorem gv_set {as : List Addr} {H : Hp} {a : Addr} {w0 w1 : HO} (e : H a = some w0) (mu : Mut (some w0)) : Gv as as H (upd H a w1) := by
  have ne : ∀ {b : Addr} {o : HO}, H b = some o → ¬ Mut (some o) → b ≠ a := fun {b o} q n => by
    rintro rfl
    rw [e] at q; cases q
    exact n mu
  exact ⟨List.prefix_refl _, fun _ _ _ _ z => z, fun b zs q => by rw [upd_ne (ne q id)]; exact q, fun b lo hi q => by rw [upd_ne (ne q id)]; exact q, fun b o u _ q => by rw [upd_ne (ne q id)]; exact q⟩
section
variable {X : Cx} {K : Kw} {pins : List (Addr × PySem.Obj)} {σ : L2.St} {H : Hp} {s : Shared} {as : List Addr} {a : Addr} {w0 : HO} {ks vs : List Vl} {key dv : Vl} {nk : NestedKey} {y z : V} {u r : Value} {Q : Unit → Shared → Prop} {E : Value → Shared → Prop}
theorem dset_step (hK : K.fr = X.K) (hw : K.w = X.w) (hu : X.A.units + 8 < cLine) (I : Inv X pins σ H s) (e0 : H a = some w0) (so : DicU K as H a w0 ks vs) (hlen : ks.length < 16777216) (hf : keyFit ks key = some nk)
    (sk : SV K as H key y) (ry : RelV y u) (sv0 : SV K as H dv z) (rz : RelV z r)
    (q : ∀ w1 s', Inv X pins σ (upd H a w1) s' → DicU K as (upd H a w1) a w1 (dStore ks vs key dv nk).1 (dStore ks vs key dv nk).2 → Q () s') : wpAny (model X.prog X.w) X.A (dictSet a u r) Q E s := by
  rcases key_k (k := .inl 0) hf with ⟨k, rfl, hk, hfl⟩ | ⟨ts, rfl, hk, hd, hft⟩
  · obtain ⟨kvs, rfl, rfl, sv⟩ := so_flat so hfl
    have ey : y = kV k := by cases k <;> simpa [kVl, kV, SV] using sk
    subst ey
    have hl : kvs.length < sizeLine := by rw [← sline]; simpa using hlen
    have gv : Gv as as H (upd H a (.dK (putK kvs k z))) := gv_set e0 True.intro
    refine d_dictSet I e0 hl ry rz fun s' I' => q _ s' I' (Or.inl ?_)
    have l := dStore_k (K := K) (as := as) (H := upd H a (.dK (putK kvs k z))) hk (SV.monoV gv _ _ sv0) (SVs.monoV gv _ _ sv)
    exact ⟨_, rfl, l.1, l.2⟩
  · obtain ⟨xs, ys, dd, sks, hks, hv, sv, hsm, hl, hdp⟩ := tdict_of hK hw I (.inl e0) so hft
    have hn1 := nested_of hK I _ _ _ _ sk ry hk
    obtain ⟨b, zs, rfl, _, _⟩ := sv_tup sk
    cases (show u = Value.ref b from ry)
    have mu : Mut (H a) := by rw [e0]; exact so.mu
    refine wpAny_dictSet_heap (knd := nestedKind X.prog X.w) hu ⟨hn1, hd⟩ dd (fun h' dd' hs => ?_) hl
    have hlx : xs.length = ks.length := by
      have := sks.len
      simpa using this
    obtain ⟨ob, es, ep, h1, h2, h3, h4, h5, h6⟩ := dd'
    let xs' := storedH xs nk b r
    have gv : Gv as as H (upd H a (.ext (dPhi X.w a xs'))) := gv_set e0 so.mu
    have stab : ∀ h1 h2 : Heap, dPhi X.w a xs' h1 → (∀ o, h1.get? a = some o → h2.get? a = some o) → dPhi X.w a xs' h2 := fun h1 h2 ⟨o, es, ep, g1, g2⟩ k => ⟨o, es, ep, k o g1, g2⟩
    have I' := d_write (t' := s.toks + (nestedKind X.prog X.w).draws nk) (ob := .ext (dPhi X.w a xs')) I mu hs ⟨ob, h1⟩ ⟨⟨ob, es, ep, h1, h2, h3, h4⟩, ⟨ob, h1⟩, stab⟩
    refine q _ _ I' (Or.inr ?_)
    have l := dLook_t (K := K) (n := nk) hks hv sv
    have sks' := SVs.monoV gv _ _ sks
    have sv' := SVs.monoV gv _ _ sv
    have sk' := SV.monoV gv _ _ sk
    have s0' := SV.monoV gv _ _ sv0
    cases el : dLook ks vs nk with
    | some old =>
      obtain ⟨pp, w, ea, _, _⟩ := l.1 old el
      have ex : xs' = xs.map (putAt nk r) := storedH_old ea b r
      obtain ⟨ys', hv', sy'⟩ := dUpd_t (n := nk) s0' rz hks hv sv'
      have efst : (xs.map (putAt nk r)).map Prod.fst = xs.map Prod.fst := by
        rw [List.map_map]
        exact List.map_congr_left fun x _ => by simp only [Function.comp_def, putAt]; split <;> rfl
      have eref : (xs.map (putAt nk r)).map (fun x => V.ref x.2.1) = xs.map fun x => V.ref x.2.1 := by
        rw [List.map_map]
        exact List.map_congr_left fun x _ => by simp only [Function.comp_def, putAt]; split <;> rfl
      have hne : ks ≠ [] := by
        rintro rfl
        simp [dLook] at el
      simp only [dStore, el]
      refine ⟨hne, xs', ys', by rw [hw], ?_, ?_, h6, ?_, ?_, hsm, ?_, sy'⟩
      · have er : xs'.map (fun x => V.ref x.2.1) = xs.map (fun x => V.ref x.2.1) := by rw [ex, eref]
        rw [er]; exact sks'
      · rw [ex, efst]; exact hks
      · rw [ex]
        intro x hx
        obtain ⟨y, hy, rfl⟩ := List.mem_map.mp hx
        have := hdp y hy
        unfold putAt
        split <;> exact this
      · rw [ex]; simpa using hl
      · rw [ex]; exact hv'
    | none =>
      have ex : xs' = xs ++ [(nk, b, r)] := storedH_new (l.2 el) b r
      simp only [dStore, el]
      refine ⟨by simp, xs', ys ++ [z], by rw [hw], ?_, ?_, h6, ?_, ?_, hsm, ?_, ?_⟩
      · have er : xs'.map (fun x => V.ref x.2.1) = xs.map (fun x => V.ref x.2.1) ++ [V.ref b] := by rw [ex, List.map_append]; rfl
        rw [er]
        exact sks'.append (show SVs K as _ [.tup ts] [V.ref b] from ⟨_, [], rfl, sk', rfl⟩)
      · rw [ex, List.map_append]; exact nksOf_append (ls := []) hks hk
      · rw [ex]
        intro x hx
        rcases List.mem_append.mp hx with hx | hx
        · exact hdp x hx
        · have : x = (nk, b, r) := by simpa using hx
          subst this; exact hd
      · rw [ex, ← sline]; simp only [List.length_append, List.length_cons, List.length_nil]; omega
      · rw [ex, List.map_append]; exact hv.append (.cons rz .nil)
      · exact sv'.append (show SVs K as _ [dv] [z] from ⟨_, [], rfl, s0', rfl⟩)
end
def rLenP (p : Par) : List V → Hp → VK → Prop := fun xs H Q => ∃ as st d x ks vs, xs = [x] ∧ SR p.K as H st ∧ SV p.K as H d x ∧ dView st d = some (ks, vs) ∧ (ks.all isTup = true ∨ ks.all isFlat = true) ∧ Q (.int (ks.length : Nat)) H
section
variable {X : Cx} {p : Par}
theorem call_lenP (hK : p.K.fr = X.K) (hw : p.K.w = X.w) : CallR X (.builtin "len") (rLenP p) := by
  intro pins s σ H xs us Q I r h
  obtain ⟨as, st, d, x, ks, vs, rfl, sr, sd, e, hh, q⟩ := h
  obtain ⟨u, rfl, ru⟩ := vals1 r
  obtain ⟨a, w0, rfl, hr, so⟩ := dview_ok sr sd e
  cases (show u = Value.ref a from ru)
  rcases hh with hh | hh
  · obtain ⟨xs, ys, dd, sks, hks, hv, sv, hsm, hl, hdp⟩ := tdict_of hK hw I hr so hh
    have hlx : xs.length = ks.length := by
      have := sks.len
      simpa using this
    refine call_len_dictH hsm dd (by rw [sizeLine_eq] at hl; omega) ⟨.int (xs.length : Nat), H, I.tok _, ⟨_, rfl⟩, by rw [hlx]; exact q⟩
  · obtain ⟨kvs, rfl, rfl, sv⟩ := so_flat so hh
    exact d_len I hr fun t s' I' => ⟨.int (kvs.length : Nat), H, I', ⟨t, rfl⟩, by simpa using q⟩
def fLenD : Bf
  | [d], st => match dView st d with
    | some (ks, _) => if ks.all isTup = true ∨ ks.all isFlat = true then okv (.int (ks.length : Nat)) st else none
    | none => none
  | _, _ => none
theorem s_lenP : CallS p (rLenP p) fLenD := by
  intro σ Q as H st vs xs rr st' sr sv e post
  unfold fLenD at e
  split at e
  · rename_i d
    split at e
    · rename_i ks vs hd
      split at e
      · rename_i hh
        obtain ⟨x, rfl, sx⟩ := sv1 sv
        exact ⟨as, st, d, x, ks, vs, rfl, sr, sx, hd, hh, ok_post e sr post (by simp only [SV])⟩
      · cases e
    · cases e
  · cases e
def bOr (h1 h2 : Bf) : Bf := fun vs st => match h1 vs st with
  | none => h2 vs st
  | r => r
theorem CallS.or {r1 r2 : List V → Hp → VK → Prop} {h1 h2 : Bf} (a : CallS p r1 h1) (b : CallS p r2 h2) : CallS p (fun xs H Q => r1 xs H Q ∨ r2 xs H Q) (bOr h1 h2) := fun σ Q as H st vs xs rr st' sr sv e post => by
  unfold bOr at e
  split at e
  · exact .inr (b σ Q as H st vs xs rr st' sr sv e post)
  · exact .inl (a σ Q as H st vs xs rr st' sr sv e post)
end
section
variable {X : Cx} {p : Par}
end
end PD
set_option maxHeartbeats 4000000
namespace PD
open PySem PySem.Spec PyProof.Rows L2

theorem DicU.mono {K : Kw} {as as' : List Addr} {H H' : Hp} (x : Ax as as' H) (g : Gr as H H') {a : Addr} {u : HO} {ks vs : List Vl} (h : DicU K as H a u ks vs) : DicU K as' H' a u ks vs := h.monoV (g.gv x)
theorem dStore_len {ks vs : List Vl} {k v : Vl} {n : NestedKey} : (dStore ks vs k v n).1.length ≤ ks.length + 1 := by
  unfold dStore
  split <;> simp
section
variable {X : Cx} {p : Par} {tg it kx vx : Expr} {ifs : List Expr} {sl vs : List Nat} {g : Gf} {itf : If} {tt : Tf} {tk tv : Ef} {pos : Pos}
end
end PD
set_option maxHeartbeats 4000000
namespace PD
open PySem PySem.Spec PyProof.Rows L2

def dAll : List Vl → List Vl → List (Vl × Vl) → Option (List Vl × List Vl)
  | ks, us, [] => some (ks, us)
  | ks, us, (k, v) :: r => match keyFit ks k with
    | some nk => dAll (dStore ks us k v nk).1 (dStore ks us k v nk).2 r
    | none => none
def SPs (K : Kw) (as : List Addr) (H : Hp) : List (Vl × Vl) → List (V × V) → Prop
  | [], ps => ps = []
  | (k, v) :: r, ps => ∃ x y q, ps = (x, y) :: q ∧ SV K as H k x ∧ SV K as H v y ∧ SPs K as H r q
theorem SPs.monoV {K : Kw} {as as' : List Addr} {H H' : Hp} (g : Gv as as' H H') : ∀ {ds : List (Vl × Vl)} {ps : List (V × V)}, SPs K as H ds ps → SPs K as' H' ds ps
  | [], ps, h => h
  | (k, v) :: r, ps, h => by
    obtain ⟨x, y, q, e, s1, s2, t⟩ := h
    exact ⟨x, y, q, e, SV.monoV g _ _ s1, SV.monoV g _ _ s2, SPs.monoV g t⟩
theorem SPs.len {K : Kw} {as : List Addr} {H : Hp} : ∀ {ds : List (Vl × Vl)} {ps : List (V × V)}, SPs K as H ds ps → ps.length = ds.length
  | [], ps, h => by
    have : ps = [] := h
    subst this; rfl
  | (k, v) :: r, ps, h => by
    obtain ⟨x, y, q, e, s1, s2, t⟩ := h
    subst e
    simp [SPs.len t]
section
variable {X : Cx} {K : Kw} {pins : List (Addr × PySem.Obj)} {σ : L2.St}
theorem storeAllG (hK : K.fr = X.K) (hw : K.w = X.w) (hu : X.A.units + 8 < cLine) {as : List Addr} {D : Addr} {E : Value → Shared → Prop} : ∀ (ds : List (Vl × Vl)) (ps : List (V × V)) (ws : List (Value × Value)) (ks us ks' us' : List Vl) (w0 : HO) (H : Hp) (s : Shared) (Q : PUnit → Shared → Prop),
    Inv X pins σ H s → H D = some w0 → DicU K as H D w0 ks us → SPs K as H ds ps → VV ps ws → ks.length + ds.length ≤ 1000 → dAll ks us ds = some (ks', us') →
    (∀ w1 s', Inv X pins σ (upd H D w1) s' → DicU K as (upd H D w1) D w1 ks' us' → Q PUnit.unit s') →
    wpAny (model X.prog X.w) X.A (forIn ws PUnit.unit fun (x : Value × Value) (_ : PUnit) => (do dictSet D x.1 x.2; pure (ForInStep.yield PUnit.unit) : Sem (ForInStep PUnit))) Q E s
  | [], ps, ws, ks, us, ks', us', w0, H, s, Q, I, hD, so, sp, rv, hl, e, q => by
    have : ps = [] := sp
    subst this
    cases rv
    rw [List.forIn_nil]
    cases e
    have eq : upd H D w0 = H := by
      funext b
      by_cases hb : b = D
      · subst hb; rw [upd_same, hD]
      · rw [upd_ne hb]
    exact wpAny_pure (q w0 s (by rw [eq]; exact I) (by rw [eq]; exact so))
  | (k, v) :: ds, ps, ws, ks, us, ks', us', w0, H, s, Q, I, hD, so, sp, rv, hl, e, q => by
    obtain ⟨x, y, qs, rfl, s1, s2, t⟩ := sp
    cases rv with
    | cons r rr =>
      rename_i w ws'
      obtain ⟨w1, w2⟩ := w
      unfold dAll at e
      split at e
      · rename_i nk hf
        rw [List.forIn_cons]
        simp only [List.length_cons] at hl
        refine wpAny_bind (wpAny_bind (dset_step hK hw hu I hD so (by omega) hf s1 r.1 s2 r.2 fun u1 s' I' d1 => wpAny_pure ?_))
        have gv : Gv as as H (upd H D u1) := gv_set hD so.mu
        have hln := dStore_len (ks := ks) (vs := us) (k := k) (v := v) (n := nk)
        refine storeAllG hK hw hu ds qs ws' _ _ ks' us' u1 (upd H D u1) s' Q I' upd_same d1 (t.monoV gv) rr (by omega) e fun w3 s3 I3 d3 => ?_
        have eq : upd (upd H D u1) D w3 = upd H D w3 := by
          funext b
          by_cases hb : b = D
          · subst hb; rw [upd_same, upd_same]
          · rw [upd_ne hb, upd_ne hb, upd_ne hb]
        rw [eq] at I3 d3
        exact q w3 s3 I3 d3
      · cases e
end
def tDispG (p : Par) (trs : List (TE × TE)) : TE := fun σ H Q => ∀ D, H D = none → tPairs trs σ (upd H D (.dK [])) fun ps H2 => ∃ as ds ks us, H2 D = some (.dK []) ∧ SPs p.K as H2 ds ps ∧ ds.length ≤ 15 ∧ dAll [] [] ds = some (ks, us) ∧ ∀ w1, DicU p.K as (upd H2 D w1) D w1 ks us → Q (.ref D) (upd H2 D w1)
section
variable {X : Cx} {p : Par}
theorem pe_dispG {pos : Pos} {keys : List (Option Expr)} {values : List Expr} {trs : List (TE × TE)} (hK : p.K.fr = X.K) (hw : p.K.w = X.w) (hu : X.A.units + 8 < cLine) (h : PPs X pos keys values trs) (hall : keys.all (·.isSome) = true) (hl : keys.length = values.length) (h0 : keys ≠ [])
    (h15 : keys.length ≤ 15) : PE X (.Dict keys values pos) (tDispG p trs) := by
  refine ⟨fun pins s σ H Q I q => ?_⟩
  have hn := I.hok.fresh (Nat.le_refl s.heap.objs.size)
  have I1 := I.laid (a := s.heap.objs.size) (o := .dK []) (h' := s.heap.push { cls := .type "dict", data := .dict #[] }) (t' := s.toks) (fun _ _ q => Heap.get?_push_of_some _ q) (Nat.le_refl _) (dk_empty s.heap I.big)
  have hn2 := pairTrees_length keys values X.env pos hall hl
  have hne : pairTrees keys values X.env pos ≠ [] := by
    intro he
    rw [he] at hn2
    exact h0 (List.length_eq_zero_iff.mp hn2.symm)
  rw [arm_eval_Dict, zip_pairTrees keys values X.env pos hall hl, dictDisplay_pairs _ hne (by omega)]
  refine wpAny_bind (wpAny_standAt (wpAny_bind ?_))
  unfold subDict
  refine wpAny_bind (wpAny_alloc ?_)
  refine wpAny_bind (wpAny_holding ?_)
  rw [if_pos (by omega)]
  refine wpAny_bind (wpAny_mono (h.run pins _ σ _ _ I1 (q _ hn)) (fun ws s2 hh => ?_) fun _ _ e => e)
  obtain ⟨ps, H2, I2, rel, as, ds, ks, us, hD, sp, hlen, e, q2⟩ := hh
  refine wpAny_holding ?_
  refine wpAny_bind (storeAllG hK hw hu ds ps ws [] [] ks us _ H2 s2 _ I2 hD (Or.inl ⟨[], rfl, rfl, rfl⟩) sp rel (by simp; omega) e fun w1 s' I' d1 => wpAny_pure (wpAny_pure (wpAny_pure ?_)))
  exact ⟨.ref s.heap.objs.size, _, I', rfl, q2 w1 d1⟩
end
abbrev Pf := Env → Store → Out (List (Vl × Vl))
def pNil : Pf := fun _ st => some (.v [], st)
def pCons (f g : Ef) (r : Pf) : Pf := fun env st => Rb (f env st) fun k st1 => Rb (g env st1) fun v st2 => Rb (r env st2) fun ps st3 => some (.v ((k, v) :: ps), st3)
def eDisp (ps : Pf) : Ef := fun env st => match ps env (st ++ [.dic [] []]) with
  | some (.v ds, st1) => if ds.length ≤ 15 then (match st1[st.length]? with
    | some (.dic [] us0) => (match dAll [] us0 ds with
      | some (ks, us) => some (.v (.ref st.length), st1.set st.length (.dic ks us))
      | none => none)
    | _ => none) else none
  | _ => none
inductive DPs (X : Cx) (p : Par) : Pos → List (Option Expr) → List Expr → List (Ef × Ef) → Prop where
  | nil {pos : Pos} : DPs X p pos [] [] []
  | cons {pos : Pos} {k v : Expr} {ks : List (Option Expr)} {vs : List Expr} {f g : Ef} {l : List (Ef × Ef)} (hk : Snd X p k f) (hv : Snd X p v g) (t : DPs X p pos ks vs l) : DPs X p pos (some k :: ks) (v :: vs) ((f, g) :: l)
def pfOf : List (Ef × Ef) → Pf
  | [] => pNil
  | (f, g) :: l => pCons f g (pfOf l)
theorem DPs.pps {X : Cx} {p : Par} {pos : Pos} : ∀ {ks : List (Option Expr)} {vs : List Expr} {l : List (Ef × Ef)}, DPs X p pos ks vs l → PPs X pos ks vs (l.map fun q => (tE p q.1, tE p q.2))
  | _, _, _, .nil => pps_nil
  | _, _, _, .cons hk hv t => pps_cons hk hv t.pps
theorem tPairs_of {p : Par} {σ : L2.St} {D : Addr} {w : HO} {H0 : Hp} : ∀ {l : List (Ef × Ef)} {as0 as : List Addr} {H : Hp} {env : Env} {st st' : Store} {ds : List (Vl × Vl)} {R : List (V × V) → Hp → Prop}, SR p.K as H st → SEnv p.K as H env σ → pfOf l env st = some (.v ds, st') →
    (∀ as' H' ps, Ax as as' H → Gr as H H' → SR p.K as' H' st' → SPs p.K as' H' ds ps → R ps H') → tPairs (l.map fun q => (tE p q.1, tE p q.2)) σ H R
  | [], as0, as, H, env, st, st', ds, R, sr, se, e, k => by
    cases e
    exact k as H [] Ax.refl Gr.refl sr rfl
  | (f, g) :: l, as0, as, H, env, st, st', ds, R, sr, se, e, k => by
    have e' : Rb (f env st) (fun k st1 => Rb (g env st1) fun v st2 => Rb (pfOf l env st2) fun ps st3 => some (.v ((k, v) :: ps), st3)) = some (.v ds, st') := e
    rcases Rb_some e' with ⟨kv, st1, e1, e2⟩ | ⟨c, u, _, z⟩
    · rcases Rb_some e2 with ⟨vv, st2, e3, e4⟩ | ⟨c, u, _, z⟩
      · rcases Rb_some e4 with ⟨ps, st3, e5, e6⟩ | ⟨c, u, _, z⟩
        · cases e6
          refine ⟨as, env, st, sr, se, .v kv, st1, e1, fun as1 H1 ax1 gr1 sr1 x sx => ?_⟩
          refine ⟨as1, env, st1, sr1, se.mono ax1 gr1, .v vv, st2, e3, fun as2 H2 ax2 gr2 sr2 y sy => ?_⟩
          refine tPairs_of (D := D) (w := w) (H0 := H0) (as0 := as0) sr2 ((se.mono ax1 gr1).mono ax2 gr2) e5 fun as3 H3 qs ax3 gr3 sr3 sp => ?_
          have ax := ax2.trans gr2 ax3
          have gr := Gr.trans ax2 gr2 gr3
          refine k as3 H3 _ (ax1.trans gr1 ax) (Gr.trans ax1 gr1 gr) sr3 ⟨x, y, qs, rfl, sx.mono ax gr, sy.mono ax3 gr3, sp⟩
        · cases z
      · cases z
    · cases z
theorem snd_disp {X : Cx} {p : Par} {pos : Pos} {keys : List (Option Expr)} {values : List Expr} {l : List (Ef × Ef)} (hK : p.K.fr = X.K) (hw : p.K.w = X.w) (hu : X.A.units + 8 < cLine) (h : DPs X p.n pos keys values l) (hall : keys.all (·.isSome) = true) (hl : keys.length = values.length) (h0 : keys ≠ [])
    (h15 : keys.length ≤ 15) : Snd X p (.Dict keys values pos) (eDisp (pfOf l)) := pe_mono (pe_dispG hK hw hu h.pps hall hl h0 h15) fun σ H Q t => by
  obtain ⟨as, env, st, sr, se, rr, st', e, post⟩ := t
  intro D hD
  unfold eDisp at e
  obtain ⟨srB, axB, grB⟩ := sr.push (o := .dK []) (ob := .dic [] []) hD ⟨_, upd_same, Or.inl ⟨[], rfl, rfl, rfl⟩⟩
  have hkD : (as ++ [D])[st.length]? = some D := by rw [← sr.len]; simp
  cases ep : pfOf l env (st ++ [.dic [] []]) with
  | none => rw [ep] at e; cases e
  | some r =>
    obtain ⟨r, st1⟩ := r
    rw [ep] at e
    cases r with
    | x c u => cases e
    | v ds =>
      simp only at e
      split at e
      · rename_i hlen
        split at e
        · rename_i us0 hks
          split at e
          · rename_i ks us ed
            cases e
            refine tPairs_of (p := p.n) (D := D) (w := .dK []) (H0 := H) (as0 := as) srB (se.mono axB grB) ep fun as2 H2 ps ax2 gr2 sr2 sp => ?_
            have hk2 := prefix_get ax2.pre hkD
            obtain ⟨D', hD', w0, hH2, so⟩ := sr2.ob _ _ hks
            rw [hk2] at hD'; cases hD'
            have hw0 : w0 = .dK [] ∧ us0 = [] := by
              rcases so with ⟨kvs, e1, e2, sv⟩ | ⟨hn, _⟩
              · cases kvs with
                | nil =>
                  refine ⟨e1, ?_⟩
                  cases us0 with
                  | nil => rfl
                  | cons a b => obtain ⟨_, _, e, _⟩ := sv; cases e
                | cons a b => cases e2
              · exact absurd rfl hn
            obtain ⟨rfl, rfl⟩ := hw0
            refine ⟨as2, ds, ks, us, hH2, sp, hlen, ed, fun w1 d1 => ?_⟩
            have grS : Gr as2 H2 (upd H2 D w1) := Gr.set hk2 hH2 True.intro
            have srS := (sr2.set (ob := .dic ks us) hk2 hH2 True.intro ⟨w1, upd_same, d1⟩).1
            have axT := axB.trans grB ax2
            have grT := Gr.trans axB grB gr2
            exact post as2 _ axT (Gr.trans axT grT grS) srS _ ⟨D, rfl, hk2⟩
          · cases e
        · cases e
      · cases e
end PD
set_option maxHeartbeats 4000000
namespace PD
open PySem PySem.Spec PyProof.Rows L2

section
variable {X : Cx} {K : Kw} {pins : List (Addr × PySem.Obj)} {σ : L2.St} {H : Hp} {s : Shared} {as : List Addr} {d : Addr} {u : HO} {ks vs : List Vl}
theorem lkr_of (hK : K.fr = X.K) (hw : K.w = X.w) (I : Inv X pins σ H s) (hr : Rd H d u) (D : DicU K as H d u ks vs) : ∃ o es ep KS VS, s.heap.get? d = some o ∧ LkO d o es ep KS VS ∧ SVs K as H ks KS ∧ SVs K as H vs VS := by
  have ok := hr.ok I.hok
  rcases D with ⟨kvs, rfl, rfl, sv⟩ | ⟨hn, xs, ys, rfl, sk, hk, hnd, hd, hl, hs, hv, sv⟩
  · obtain ⟨z, hs, us, kv, dd⟩ := ok
    obtain ⟨es, ep, ⟨o, ho, hx, hdt⟩, hsz, hent⟩ := dd.raw
    have l2 : kvs.length = us.length := Paired.length kv
    refine ⟨o, es, ep, kvs.map (fun q => kV q.1), kvs.map Prod.snd, ho, ⟨hs, hx, hdt, by simp [hsz, l2], by simp [hsz, l2], fun i hi k hk => ?_, fun i hi v hv => ?_⟩, ?_, sv⟩
    · rw [List.getElem?_map] at hk
      obtain ⟨⟨q, y⟩, hq, rfl⟩ := Option.map_eq_some_iff.mp hk
      obtain ⟨w, hw1, rw1⟩ := kv_get kv hq
      exact relV_key (hent i hi q w hw1).1
    · rw [List.getElem?_map] at hv
      obtain ⟨⟨q, y⟩, hq, rfl⟩ := Option.map_eq_some_iff.mp hv
      obtain ⟨w, hw1, rw1⟩ := kv_get kv hq
      rw [(hent i hi q w hw1).2]
      exact rw1
    · clear sv kv l2 hsz hent z hr dd
      induction kvs with
      | nil => exact rfl
      | cons q r ih =>
        refine ⟨_, _, rfl, ?_, ih⟩
        obtain ⟨q, y⟩ := q
        cases q <;> simp [kVl, kV, SV]
  · obtain ⟨⟨o, es, ep, ho, hx, hdt, hes⟩, _⟩ := ok
    have hsz : es.size = xs.length := by
      have := congrArg List.length hes
      simpa using this
    have ent : ∀ i (hi : i < es.size), ∃ y, xs[i]? = some y ∧ es[i].key = .ref y.2.1 ∧ es[i].val = y.2.2 := fun i hi => by
      have hxi : i < xs.length := hsz ▸ hi
      have e1 : es.toList[i]? = (xs.map (fun x => (⟨x.1.hash K.w, .ref x.2.1, x.2.2⟩ : DictEntry)))[i]? := by rw [hes]
      rw [List.getElem?_map, List.getElem?_eq_getElem hxi, Array.getElem?_toList, Array.getElem?_eq_getElem hi] at e1
      simp only [Option.map_some, Option.some.injEq] at e1
      exact ⟨xs[i], List.getElem?_eq_getElem hxi, by rw [e1], by rw [e1]⟩
    refine ⟨o, es, ep, xs.map (fun x => V.ref x.2.1), ys, ho, ⟨hs, hx, hdt, by simp [hsz], ?_, fun i hi k hk => ?_, fun i hi v hv1 => ?_⟩, sk, sv⟩
    · have := Vals.length hv
      rw [this]; simp [hsz]
    · obtain ⟨y, hy, h1, _⟩ := ent i hi
      rw [List.getElem?_map, hy] at hk
      cases hk
      rw [h1]; exact rfl
    · obtain ⟨y, hy, _, h2⟩ := ent i hi
      rw [h2]
      exact vals_at hv hv1 (by rw [List.getElem?_map, hy]; rfl)
theorem items_keys {o : PySem.Obj} {es : Array DictEntry} {ep : Nat} {KS VS : List V} (L : LkO d o es ep KS VS) {acc : Array Value} (h : ItemsOf (fun i v => ∃ hi : i < es.size, v = es[i].key) acc es.size) : Vals KS acc.toList := by
  have hl : acc.toList.length = KS.length := by rw [Array.length_toList, h.1, L.lk]
  have key : ∀ i k u, KS[i]? = some k → acc.toList[i]? = some u → RelV k u := fun i k u h1 h2 => by
    obtain ⟨hi, rfl⟩ := h.2 i u (by rw [← Array.getElem?_toList]; exact h2)
    exact L.key i hi k h1
  revert hl key
  generalize acc.toList = us
  clear h L
  induction KS generalizing us with
  | nil =>
    intro hl _
    cases us with
    | nil => exact .nil
    | cons a b => cases hl
  | cons k KS ih =>
    intro hl key
    cases us with
    | nil => cases hl
    | cons a b => exact .cons (key 0 k a rfl rfl) (ih b (by simpa using hl) fun i k u h1 h2 => key (i + 1) k u (by simpa using h1) (by simpa using h2))
end
mutual
theorem reads_there {h : Heap} : ∀ (d : PyData) (v : Value) (as : List Addr), PySem.W.alike d d = true → Reads h v d as → ∀ a ∈ as, ∃ o, h.get? a = some o
  | .none, _, _, _, r, a, ha => by cases r; cases ha
  | .bool _, _, _, _, r, a, ha => by cases r; cases ha
  | .int _, _, _, _, r, a, ha => by cases r; cases ha
  | .str _, _, _, _, r, a, ha => by cases r; cases ha
  | .list xs, _, _, hal, r, a, ha => by
    cases r with
    | list h1 h2 h3 h4 =>
      rcases List.mem_cons.mp ha with rfl | ha
      · exact ⟨_, h1⟩
      · exact readsAll_there xs _ _ (by simpa [PySem.W.alike] using hal) h4 a ha
  | .tuple xs, _, _, hal, r, a, ha => by
    cases r with
    | tuple h1 h2 h3 h4 => exact readsAll_there xs _ _ (by simpa [PySem.W.alike] using hal) h4 a ha
  | .dict _, _, _, hal, _, a, ha => absurd hal (by simp [PySem.W.alike])
theorem readsAll_there {h : Heap} : ∀ (ds : List PyData) (vs : List Value) (as : List Addr), PySem.W.alikeAll ds ds = true → ReadsAll h vs ds as → ∀ a ∈ as, ∃ o, h.get? a = some o
  | [], _, _, _, r, a, ha => by cases r; cases ha
  | d :: ds, _, _, hal, r, a, ha => by
    cases r with
    | cons h1 h2 =>
      rcases List.mem_append.mp ha with ha | ha
      · exact reads_there d _ _ (PySem.W.alike_all_cons hal).1 h1 a ha
      · exact readsAll_there ds _ _ (PySem.W.alike_all_cons hal).2 h2 a ha
end
theorem each_and {α β : Type} {R S : α → β → Prop} : ∀ {as : List α} {bs : List β}, PySem.W.EachIs R as bs → (∀ a b, b ∈ bs → R a b → S a b) → PySem.W.EachIs S as bs
  | _, _, .nil, _ => .nil
  | _, _, .cons h t, k => .cons (k _ _ List.mem_cons_self h) (each_and t fun a b hb => k a b (List.mem_cons_of_mem _ hb))
def rListP (p : Par) : List V → Hp → VK → Prop := fun xs H Q => ∃ as st d x ks vs, xs = [x] ∧ SR p.K as H st ∧ SV p.K as H d x ∧ dView st d = some (ks, vs) ∧ ks.length ≤ 16777216 ∧ ∀ q ys, SVs p.K as H ks ys → H q = none → Q (.ref q) (upd H q (.lst ys))
def fListD : Bf
  | [d], st => match dView st d with
    | some (ks, _) => newL ks st
    | none => none
  | _, _ => none
section
variable {X : Cx} {p : Par}
theorem call_listP (hK : p.K.fr = X.K) (hw : p.K.w = X.w) (hc : X.calm = true) : CallR X (.type "list") (rListP p) := by
  intro pins s σ H xs us Q I r h
  obtain ⟨as, st, d, x, ks, vs, rfl, sr, sd, e, hn, q⟩ := h
  obtain ⟨u, rfl, ru⟩ := vals1 r
  obtain ⟨a, w0, rfl, hr, so⟩ := dview_ok sr sd e
  cases (show u = Value.ref a from ru)
  obtain ⟨o, es, ep, KS, VS, ho, L, sk, sv⟩ := lkr_of hK hw I hr so
  have hz : es.size ≤ sizeLine := by rw [L.lk, sk.len, ← sline]; exact hn
  refine PySem.W.kdl_call (PySem.KdlSrc.rawDict (es := es) (ep := ep) L.sys) (I.ok.hd hc) ⟨o, ho, L.ex, L.dat⟩ hz fun h' tk acc' c' hk hS hacc => ?_
  have hv := items_keys L hacc
  refine ⟨.ref _, upd H s.heap.objs.size (.lst KS), I.laid (t' := tk) hk (Nat.le_refl _) ⟨by rw [← L.lk]; exact hz, acc'.toList, c', hv, by rw [hS, Array.toArray_toList]⟩, rfl, q _ _ sk (I.hok.fresh (Nat.le_refl _))⟩
theorem s_listP : CallS p (rListP p) fListD := by
  intro σ Q as H st vs xs rr st' sr sv e post
  unfold fListD at e
  split at e
  · rename_i d
    split at e
    · rename_i ks us hd
      obtain ⟨x, rfl, sx⟩ := sv1 sv
      exact ⟨as, st, d, x, ks, us, rfl, sr, sx, hd, by rw [sline]; exact new_len e, fun q ys sy hq => new_post e sr post sy hq⟩
    · cases e
  · cases e
def rSortP (p : Par) : List V → Hp → VK → Prop := fun xs H Q => ∃ as st d x ks vs ds, xs = [x] ∧ SR p.K as H st ∧ SV p.K as H d x ∧ dView st d = some (ks, vs) ∧ ks.length ≤ 16777216 ∧ omap (rd deep st) ks = some ds ∧ PySem.W.AllAlike ds ∧ PySem.W.Sortable ds ∧ (∀ d ∈ ds, d.depth ≤ 64) ∧
  ∀ q ys, SVs p.K as H (sortV ks ds) ys → H q = none → Q (.ref q) (upd H q (.lst ys))
theorem call_sortP (hK : p.K.fr = X.K) (hw : p.K.w = X.w) (hc : X.calm = true) (hu : X.A.units + 2 + 64 < cLine) : CallR X (.builtin "sorted") (rSortP p) := by
  intro pins s σ H xs us Q I r h
  obtain ⟨as, st, d, x, ks, vs, ds, rfl, sr, sd, e, hn, hds, al, so1, dp, q⟩ := h
  obtain ⟨u, rfl, ru⟩ := vals1 r
  obtain ⟨a, w0, rfl, hr, so⟩ := dview_ok sr sd e
  cases (show u = Value.ref a from ru)
  obtain ⟨o, es, ep, KS, VS, ho, L, sk, sv⟩ := lkr_of hK hw I hr so
  have hz : es.size ≤ sizeLine := by rw [L.lk, sk.len, ← sline]; exact hn
  have hd : DpAll X.K H KS ds := by
    rw [← hK]
    exact omap_dp (fun v x d => rd_dp sr deep v x d) sk hds
  have hlen := DpAll.len hd
  have em : (KS.zip ds).map Prod.snd = ds := List.map_snd_zip (by omega)
  obtain ⟨H0, hH0⟩ : ∃ h, h = s.heap := ⟨_, rfl⟩
  refine Calls.call_function_entry kind_sorted plain_sorted entry_sorted (args_sorted1 _) ?_
  unfold Builtin.«sorted»
  refine wpAny_bind (m := checkCount "sorted" 1 1 _) (wpAny_pure ?_)
  refine wpAny_bind (PySem.W.kdu_collect (PySem.KdlSrc.rawDict (es := es) (ep := ep) L.sys) (I.ok.hd hc) ⟨o, ho, L.ex, L.dat⟩ hz fun h' tk acc hk hacc => ?_)
  have hv := items_keys L hacc
  have hl : acc.toList.length = KS.length := hv.length.symm
  have hLl : acc.toList.length ≤ sizeLine := by rw [hl, ← L.lk]; exact hz
  refine wpAny_bind (wpAny_newList ?_ hLl)
  have hat : (h'.push { cls := .type "list", data := .seq acc.toList.toArray }).get? h'.objs.size = some (seqObj "list" acc.toList.toArray 0) := Heap.get?_push_size _ rfl
  have hnone : s.heap.get? h'.objs.size = none := by
    cases q0 : s.heap.get? h'.objs.size with
    | none => rfl
    | some ob => exact absurd (Heap.lt_size (hk _ _ q0)) (Nat.lt_irrefl _)
  have kep : ∀ b ob, s.heap.get? b = some ob → (h'.push { cls := .type "list", data := .seq acc.toList.toArray }).get? b = some ob := fun b ob e => Heap.get?_push_of_some _ (hk b ob e)
  have hsort := PySem.W.list_sort_data (prog := X.prog) (w := X.w) (A := X.A.in1) (E := X.xe) (s := { s with heap := h'.push { cls := .type "list", data := .seq acc.toList.toArray }, toks := tk }) (a := h'.objs.size) (vs := acc.toList) (bs := KS.zip ds) (enc := Prod.snd) (R := fun (u : Value) (b : V × PyData) => RelV b.1 u)
    (Q := fun _ s' => EP X pins σ Q (.ref h'.objs.size) s') hat (each_rel (K := X.K) (H := H) hv hlen) ?_ (by rw [em]; exact al) (by rw [em]; exact so1) (by rw [List.length_zip]; omega) (fun b hb => ?_) (fun out hol he => ?_)
  · refine wpAny_bind (wpAny_holding (wpAny_mono hsort (fun _ s' x => ?_) fun _ _ e => e))
    exact wpAny_pure ⟨_, rfl, x⟩
  · refine each_and (each_read I hd hv) fun u b hb ⟨as, r⟩ => ⟨as, PyProof.Rows.Reads.keeps kep r, fun ha => ?_⟩
    have hbd : b.2 ∈ ds := by
      have := List.mem_map_of_mem (f := Prod.snd) hb
      rwa [em] at this
    obtain ⟨ob, e⟩ := reads_there _ _ _ (al _ hbd _ hbd) r _ ha
    rw [hnone] at e; cases e
  · have : b.2 ∈ ds := by
      have := List.mem_map_of_mem (f := Prod.snd) hb
      rwa [em] at this
    have := dp _ this
    show X.A.units + 1 + 1 + _ < cLine
    omega
  · obtain ⟨ep2, he'⟩ := PyProof.Rows.sortedHeap_at (out := out.toArray) hat
    have hv2 := vals_each he
    have hlen2 : (((KS.zip ds).mergeSort (PySem.W.dataLe false Prod.snd)).map Prod.fst).length ≤ sizeLine := by
      rw [List.length_map, List.length_mergeSort, List.length_zip]; omega
    have hn2 : H h'.objs.size = none := I.hok.gone hnone
    refine ⟨.ref _, upd H h'.objs.size (.lst _), I.laidN (t' := tk) (fun b ob e => ?_) hnone hn2 ⟨hlen2, out, ep2, hv2, he'⟩, rfl, q _ _ (sortV_sv sk) hn2⟩
    have hb : b ≠ h'.objs.size := by
      rintro rfl
      rw [hnone] at e; cases e
    rw [PyProof.Rows.sortedHeap_old hb (Heap.lt_size (kep b ob e))]
    exact kep b ob e
def fSortD : Bf
  | [d], st => match dView st d with
    | some (ks, _) => (match omap (rd deep st) ks with
      | some ds => if alikeB ds = true ∧ sortableB ds = true ∧ ks.length ≤ 16777216 then newL (sortV ks ds) st else none
      | none => none)
    | none => none
  | _, _ => none
theorem sort_facts {st : Store} {vs : List Vl} {ds : List PyData} (hds : omap (rd deep st) vs = some ds) (b1 : alikeB ds = true) (b2 : sortableB ds = true) : PySem.W.AllAlike ds ∧ PySem.W.Sortable ds ∧ ∀ d ∈ ds, d.depth ≤ 64 := by
  refine ⟨fun d hd d' hd' => ?_, ?_, fun d hd => ?_⟩
  · unfold alikeB at b1
    exact List.all_eq_true.mp (List.all_eq_true.mp b1 d hd) d' hd'
  · unfold sortableB at b2
    rw [Bool.or_eq_true] at b2
    rcases b2 with b2 | b2
    · refine .inl fun d hd => ?_
      have := List.all_eq_true.mp b2 d hd
      unfold tupOk at this
      split at this
      · exact ⟨_, _, rfl⟩
      · cases this
    · refine .inr fun d hd => ?_
      have := List.all_eq_true.mp b2 d hd
      refine ⟨?_, ?_⟩
      · rintro rfl; cases this
      · rintro xs rfl; cases this
  · have h2 := (omap_shape (fun v d e => rd_shape deep v d e) hds).2
    have : d.depth ≤ PyData.depthAll ds := by
      clear hds b1 b2 h2
      induction ds with
      | nil => cases hd
      | cons c cs ih =>
        rw [PyData.depthAll]
        rcases List.mem_cons.mp hd with rfl | hd
        · exact Nat.le_max_left _ _
        · exact Nat.le_trans (ih hd) (Nat.le_max_right _ _)
    have : deep = 40 := rfl
    omega
theorem s_sortP : CallS p (rSortP p) fSortD := by
  intro σ Q as H st vs xs rr st' sr sv e post
  unfold fSortD at e
  split at e
  · rename_i d
    split at e
    · rename_i ks us hd
      split at e
      · rename_i ds hds
        split at e
        · rename_i hb
          obtain ⟨x, rfl, sx⟩ := sv1 sv
          obtain ⟨f1, f2, f3⟩ := sort_facts hds hb.1 hb.2.1
          exact ⟨as, st, d, x, ks, us, ds, rfl, sr, sx, hd, hb.2.2, hds, f1, f2, f3, fun q ys sy hq => new_post e sr post sy hq⟩
        · cases e
      · cases e
    · cases e
  · cases e
end
def pairsOf : List Vl → Option (List (Vl × Vl))
  | [] => some []
  | .tup [k, v] :: r => match pairsOf r with
    | some ps => some ((k, v) :: ps)
    | none => none
  | _ => none
def PTs' (K : PySem.W.Frag) (H : Hp) : List V → List (V × V) → Prop
  | [], ps => ps = []
  | x :: r, ps => ∃ a k v q, x = .ref a ∧ ps = (k, v) :: q ∧ SqT K H a [k, v] ∧ PTs' K H r q
theorem pairs_sv {K : Kw} {as : List Addr} {H : Hp} : ∀ {vs : List Vl} {xs : List V} {ps : List (Vl × Vl)}, SVs K as H vs xs → pairsOf vs = some ps → ∃ qs, PTs' K.fr H xs qs ∧ SPs K as H ps qs
  | [], xs, ps, h, e => by
    cases e
    have : xs = [] := h
    subst this
    exact ⟨[], rfl, rfl⟩
  | v :: vs, xs, ps, h, e => by
    obtain ⟨x, r, rfl, s, t⟩ := h
    unfold pairsOf at e
    split at e
    · rename_i q; cases q
    · rename_i k w vs' q
      cases q
      split at e
      · rename_i ps' hp
        cases e
        obtain ⟨qs, h1, h2⟩ := pairs_sv t hp
        obtain ⟨a, zs, rfl, sq, sz⟩ := sv_tup s
        obtain ⟨y, z, rfl, sy, sz2⟩ := sv2 sz
        exact ⟨(y, z) :: qs, ⟨a, y, z, qs, rfl, rfl, sq, h1⟩, ⟨y, z, qs, rfl, sy, sz2, h2⟩⟩
      · cases e
    · cases e
structure TRel (K : Kw) (as : List Addr) (H : Hp) (ks us : List Vl) (xs : List (NestedKey × Addr × Value)) (ys : List V) : Prop where
  sk : SVs K as H ks (xs.map fun x => V.ref x.2.1)
  nk : nksOf ks = some (xs.map Prod.fst)
  dp : ∀ x ∈ xs, x.1.depth ≤ 8
  hv : Vals ys (xs.map fun x => x.2.2)
  sv : SVs K as H us ys
theorem TRel.nil {K : Kw} {as : List Addr} {H : Hp} : TRel K as H [] [] [] [] := ⟨rfl, rfl, fun x hx => absurd hx (by simp), .nil, rfl⟩
theorem TRel.store {K : Kw} {as : List Addr} {H : Hp} {ks us : List Vl} {xs : List (NestedKey × Addr × Value)} {ys : List V} {ts : List Vl} {b : Addr} {nk : NestedKey} {dv : Vl} {z : V} {r : Value} (h : TRel K as H ks us xs ys) (hk : nkOf (.tup ts) = some nk) (hd : nk.depth ≤ 8)
    (sk : SV K as H (.tup ts) (.ref b)) (s0 : SV K as H dv z) (rz : RelV z r) : ∃ ys', TRel K as H (dStore ks us (.tup ts) dv nk).1 (dStore ks us (.tup ts) dv nk).2 (storedH xs nk b r) ys' := by
  have l := dLook_t (K := K) (n := nk) h.nk h.hv h.sv
  cases el : dLook ks us nk with
  | some old =>
    obtain ⟨pp, w, ea, _, _⟩ := l.1 old el
    have ex : storedH xs nk b r = xs.map (putAt nk r) := storedH_old ea b r
    obtain ⟨ys', hv', sy'⟩ := dUpd_t (n := nk) s0 rz h.nk h.hv h.sv
    have efst : (xs.map (putAt nk r)).map Prod.fst = xs.map Prod.fst := by
      rw [List.map_map]
      exact List.map_congr_left fun x _ => by simp only [Function.comp_def, putAt]; split <;> rfl
    have eref : (xs.map (putAt nk r)).map (fun x => V.ref x.2.1) = xs.map fun x => V.ref x.2.1 := by
      rw [List.map_map]
      exact List.map_congr_left fun x _ => by simp only [Function.comp_def, putAt]; split <;> rfl
    simp only [dStore, el]
    refine ⟨ys', by rw [ex, eref]; exact h.sk, by rw [ex, efst]; exact h.nk, ?_, by rw [ex]; exact hv', sy'⟩
    rw [ex]
    intro x hx
    obtain ⟨y, hy, rfl⟩ := List.mem_map.mp hx
    have := h.dp y hy
    unfold putAt
    split <;> exact this
  | none =>
    have ex : storedH xs nk b r = xs ++ [(nk, b, r)] := storedH_new (l.2 el) b r
    simp only [dStore, el]
    refine ⟨ys ++ [z], ?_, ?_, ?_, ?_, ?_⟩
    · rw [ex, List.map_append]
      exact h.sk.append (show SVs K as _ [.tup ts] [V.ref b] from ⟨_, [], rfl, sk, rfl⟩)
    · rw [ex, List.map_append]; exact nksOf_append (ls := []) h.nk hk
    · rw [ex]
      intro x hx
      rcases List.mem_append.mp hx with hx | hx
      · exact h.dp x hx
      · have : x = (nk, b, r) := by simpa using hx
        subst this; exact hd
    · rw [ex, List.map_append]; exact h.hv.append (.cons rz .nil)
    · exact h.sv.append (show SVs K as _ [dv] [z] from ⟨_, [], rfl, s0, rfl⟩)
end PD
set_option maxHeartbeats 4000000
namespace PD
open PySem PySem.Spec PyProof.Rows L2

section
variable {X : Cx} {K : Kw} {pins : List (Addr × PySem.Obj)} {σ : L2.St} {H : Hp} {s : Shared} {as : List Addr}
theorem dictT_data (hK : K.fr = X.K) (I : Inv X pins σ H s) : ∀ {ps : List (Vl × Vl)} {xs : List V} {its : List Value} {qs : List (V × V)} {ks us ks' us' : List Vl} {acc : List (NestedKey × Addr × Value)} {ys : List V},
    PTs' K.fr H xs qs → SPs K as H ps qs → Vals xs its → (ps.all fun q => isTup q.1) = true → TRel K as H ks us acc ys → dAll ks us ps = some (ks', us') →
    ∃ (As : List Addr) (L : List (NestedKey × Addr × Value)), its = As.map Value.ref ∧ As.length = ps.length ∧ L.length = ps.length ∧
      (∀ (j : Nat) a x, As[j]? = some a → L[j]? = some x → s.heap.IsTuple a #[.ref x.2.1, x.2.2]) ∧ (∀ x ∈ L, (nestedKind X.prog X.w).is s.heap x.1 x.2.1) ∧ ∃ ys', TRel K as H ks' us' (storedAllH acc L) ys'
  | [], xs, its, qs, ks, us, ks', us', acc, ys, pt, sp, rv, ht, tr, e => by
    have h1 : qs = [] := sp
    subst h1
    cases xs with
    | cons x xs => obtain ⟨_, _, _, _, _, e, _⟩ := pt; cases e
    | nil =>
      cases rv
      cases e
      exact ⟨[], [], rfl, rfl, rfl, fun j a x h => by simp at h, fun x hx => absurd hx (by simp), ys, tr⟩
  | (k, v) :: ps, xs, its, qs, ks, us, ks', us', acc, ys, pt, sp, rv, ht, tr, e => by
    obtain ⟨y, z, qs', rfl, s1, s2, sp'⟩ := sp
    cases xs with
    | nil => cases (show _ = [] from pt)
    | cons x xs =>
      obtain ⟨a, y', z', q', rfl, e2, sq, pt'⟩ := pt
      cases e2
      cases rv with
      | cons r1 r2 =>
        rename_i u us2
        cases (show u = Value.ref a from r1)
        unfold dAll at e
        split at e
        · rename_i nk hf
          simp only [List.all_cons, Bool.and_eq_true] at ht
          rcases key_k (k := .inl 0) hf with ⟨k0, rfl, _, _⟩ | ⟨ts, rfl, hk, hd, hft⟩
          · exfalso
            have := ht.1
            cases k0 <;> simp [kVl, isTup] at this
          · obtain ⟨its2, rv2, tt, _⟩ := I.tuple (by rw [← hK]; exact sq)
            obtain ⟨w1, w2, rfl, q1, q2⟩ := vals2 rv2
            obtain ⟨b, zs, rfl, _, _⟩ := sv_tup s1
            cases (show w1 = Value.ref b from q1)
            obtain ⟨ys1, tr1⟩ := tr.store hk hd s1 s2 q2
            obtain ⟨As, L, h1, h2, h3, h4, h5, ys', h6⟩ := dictT_data hK I pt' sp' r2 ht.2 tr1 e
            refine ⟨a :: As, (nk, b, w2) :: L, by rw [h1]; rfl, by simp [h2], by simp [h3], fun j a' x' e1 e2 => ?_, fun x' hx => ?_, ys', h6⟩
            · cases j with
              | zero =>
                simp at e1 e2; subst e1; subst e2
                exact tt
              | succ j => exact h4 j a' x' (by simpa using e1) (by simpa using e2)
            · rcases List.mem_cons.mp hx with rfl | hx
              · exact ⟨nested_of hK I _ _ _ _ s1 rfl hk, hd⟩
              · exact h5 x' hx
        · cases e
end
def rDictT (p : Par) : List V → Hp → VK → Prop := fun xs H Q => ∃ as st v x vs ps ks us, xs = [x] ∧ SR p.K as H st ∧ SV p.K as H v x ∧ lview st v = some vs ∧ pairsOf vs = some ps ∧ ps.length ≤ 16777216 ∧ dAll [] [] ps = some (ks, us) ∧ (ps.all fun q => isTup q.1) = true ∧ ps ≠ [] ∧
  ∀ q w1, H q = none → DicU p.K as (upd H q w1) q w1 ks us → Q (.ref q) (upd H q w1)
theorem dAll_ne : ∀ {ps : List (Vl × Vl)} {ks us ks' us' : List Vl}, dAll ks us ps = some (ks', us') → (ks ≠ [] ∨ ps ≠ []) → ks' ≠ []
  | [], ks, us, ks', us', e, h => by
    cases e
    rcases h with h | h
    · exact h
    · exact absurd rfl h
  | (k, v) :: ps, ks, us, ks', us', e, h => by
    unfold dAll at e
    split at e
    · rename_i nk _
      refine dAll_ne e (.inl ?_)
      unfold dStore
      split
      · rename_i old el
        rintro rfl
        simp [dLook] at el
      · simp
    · cases e
section
variable {X : Cx} {p : Par}
theorem call_dictT (hK : p.K.fr = X.K) (hw : p.K.w = X.w) (hc : X.calm = true) (hu : X.A.units + 10 < cLine) : CallR X (.type "dict") (rDictT p) := by
  intro pins s σ H xs us0 Q I r h
  obtain ⟨as, st, v, x, vs, ps, ks, us, rfl, sr, sv, hv, hp, hn, hd, ht, hne, q⟩ := h
  obtain ⟨u, rfl, ru⟩ := vals1 r
  obtain ⟨a, zs, rfl, sq, sz⟩ := sv_lst sr sv hv
  cases (show u = Value.ref a from ru)
  rw [hK] at sq
  obtain ⟨its, rv, pl, hz⟩ := I.list sq
  obtain ⟨qs, pt, sp⟩ := pairs_sv sz hp
  obtain ⟨As, L, e1, l1, l2, tp, nk, ys', tr⟩ := dictT_data hK I pt sp rv ht TRel.nil hd
  subst e1
  let prs : List (Value × Value) := L.map fun x => (Value.ref x.2.1, x.2.2)
  let Ts : Nat → Addr := fun j => (As[j]?).getD 0
  have hpi : PairItems s.heap (As.map Value.ref).toArray Ts prs := by
    refine ⟨by simp [prs, l1, l2], fun j k v e => ?_⟩
    simp only [prs, List.getElem?_map] at e
    obtain ⟨x, hx, e⟩ := Option.map_eq_some_iff.mp e
    cases e
    have hj : j < As.length := by rw [l1, ← l2]; exact (List.getElem?_eq_some_iff.mp hx).1
    have ha : As[j]? = some As[j] := List.getElem?_eq_getElem hj
    refine ⟨by simp [Ts, ha], .inl ?_⟩
    have := tp j _ x ha hx
    simpa [Ts, ha] using this
  have hlenp : prs.length = L.length := by simp [prs]
  have hsz : prs.length ≤ sizeLine := by rw [hlenp, l2, ← sline]; exact hn
  obtain ⟨o, ho, hcl, hdn, nn, hdat⟩ : ∃ o, s.heap.get? a = some o ∧ o.cls = .type "list" ∧ o.dict = none ∧ ∃ n, o.data = .seq (As.map Value.ref).toArray n := by
    obtain ⟨o, n, h1, h2, h3, h4⟩ := pl
    exact ⟨o, h1, h2, h3, n, h4⟩
  refine call_dict_pairsH (knd := nestedKind X.prog X.w) (ps := L) (PairArg.list a (As.map Value.ref).toArray Ts prs) (I.ok.hd hc) ?_ ⟨⟨o, nn, ho, hcl, hdn, hdat⟩, hpi⟩ ⟨by rw [hlenp], fun i key v e => ?_⟩ (fun h' hk x hx => ?_) hsz fun h' tk hd' hk => ?_
  · exact in1_room (in1_room hu)
  · simp only [prs, PairRel, List.getElem?_map] at e
    obtain ⟨x, hx, e⟩ := Option.map_eq_some_iff.mp e
    cases e
    exact ⟨x.1, x.2.1, hx, rfl⟩
  · obtain ⟨n1, n2⟩ := nk x hx
    exact ⟨NestedIs.at (fun b ob ws n e _ => hk b ob (Nat.ne_of_lt (Heap.lt_size e)) (by simp) e) _ _ n1, n2⟩
  · obtain ⟨ob, es, ep, h1, h2, h3, h4, h5, h6⟩ := hd'
    have hq : H s.heap.objs.size = none := I.hok.fresh (Nat.le_refl _)
    have stab : ∀ h1 h2 : Heap, dPhi X.w s.heap.objs.size (storedAllH [] L) h1 → (∀ o, h1.get? s.heap.objs.size = some o → h2.get? s.heap.objs.size = some o) → dPhi X.w s.heap.objs.size (storedAllH [] L) h2 := fun h1 h2 ⟨o, es, ep, g1, g2⟩ k => ⟨o, es, ep, k o g1, g2⟩
    have I' := I.laid (t' := tk) (o := .ext (dPhi X.w s.heap.objs.size (storedAllH [] L))) (fun b ob e => hk b ob (by simp) e) (Nat.le_refl _) ⟨⟨ob, es, ep, h1, h2, h3, h4⟩, ⟨ob, h1⟩, stab⟩
    refine ⟨.ref s.heap.objs.size, _, I', rfl, q _ _ hq (Or.inr ?_)⟩
    have gv : Gv as as H (upd H s.heap.objs.size (.ext (dPhi X.w s.heap.objs.size (storedAllH [] L)))) := Gr.gv Ax.refl (Gr.upd hq)
    have hm : (s.heap.objs.size == sysModules) = false := beq_eq_false_iff_ne.mpr (Nat.ne_of_gt I.big)
    have hln := storedAllH_length L []
    refine ⟨dAll_ne hd (.inr hne), _, ys', by rw [hw], SVs.monoV gv _ _ tr.sk, tr.nk, h6, tr.dp, ?_, hm, tr.hv, SVs.monoV gv _ _ tr.sv⟩
    simp only [List.length_nil, Nat.zero_add] at hln
    rw [hlenp] at hsz
    omega
theorem dAll_k {K : Kw} {as : List Addr} {H : Hp} : ∀ {ps : List (Vl × Vl)} {xs : List V} {qs : List (V × V)} {kvs : List (Key × V)} {us ks' us' : List Vl}, PTs' K.fr H xs qs → SPs K as H ps qs → SVs K as H us (kvs.map Prod.snd) → (ps.all fun q => isFlat q.1) = true → dAll (kvs.map fun q => kVl q.1) us ps = some (ks', us') →
    ∃ (Ps : List Addr) (more : List (Key × V)), xs = Ps.map V.ref ∧ Paired (fun p kv => SqT K.fr H p [kV kv.1, kv.2]) Ps more ∧ ks' = (mergeK kvs more).map (fun q => kVl q.1) ∧ SVs K as H us' ((mergeK kvs more).map Prod.snd)
  | [], xs, qs, kvs, us, ks', us', pt, sp, sv, ht, e => by
    have h1 : qs = [] := sp
    subst h1
    cases xs with
    | cons x xs => obtain ⟨_, _, _, _, _, e, _⟩ := pt; cases e
    | nil =>
      cases e
      exact ⟨[], [], rfl, .nil, rfl, sv⟩
  | (k, v) :: ps, xs, qs, kvs, us, ks', us', pt, sp, sv, ht, e => by
    obtain ⟨y, z, qs', rfl, s1, s2, sp'⟩ := sp
    cases xs with
    | nil => cases (show _ = [] from pt)
    | cons x xs =>
      obtain ⟨a, y', z', q', rfl, e2, sq, pt'⟩ := pt
      cases e2
      unfold dAll at e
      split at e
      · rename_i nk hf
        simp only [List.all_cons, Bool.and_eq_true] at ht
        rcases key_k (k := .inl 0) hf with ⟨k0, rfl, hk, _⟩ | ⟨ts, rfl, _⟩
        · have l := dStore_k hk s2 sv
          have ey : y = kV k0 := by cases k0 <;> simpa [kVl, kV, SV] using s1
          subst ey
          rw [l.1] at e
          obtain ⟨Ps, more, h1, h2, h3, h4⟩ := dAll_k (kvs := putK kvs k0 z) pt' sp' l.2 ht.2 e
          exact ⟨a :: Ps, (k0, z) :: more, by rw [h1]; rfl, .cons sq h2, h3, h4⟩
        · exfalso
          have := ht.1
          simp [isFlat] at this
      · cases e
def rDictK (K : PySem.W.Frag) : List V → Hp → VK → Prop := fun xs H Q => ∃ (a : Addr) (ps : List Addr) (kvs : List (Key × V)), xs = [.ref a] ∧ SqL K H a (ps.map V.ref) ∧ Paired (fun p kv => SqT K H p [kV kv.1, kv.2]) ps kvs ∧ ∀ p, H p = none → Q (.ref p) (upd H p (.dK (mergeK [] kvs)))
def fDict : Bf
  | [v], st => match lview st v with
    | some vs => (match pairsOf vs with
      | some ps => if ps.length ≤ 16777216 ∧ ((ps.all fun q => isFlat q.1) = true ∨ (ps.all fun q => isTup q.1) = true) then (match dAll [] [] ps with
        | some (ks, us) => some (.v (.ref st.length), st ++ [.dic ks us])
        | none => none) else none
      | none => none)
    | none => none
  | _, _ => none
theorem dic_new {σ : L2.St} {Q : VK} {as : List Addr} {H : Hp} {st st' : Store} {rr : Rs Vl} {ks us : List Vl} {q : Addr} {w1 : HO} (e : some (Rs.v (Vl.ref st.length), st ++ [Ob.dic ks us]) = some (rr, st')) (sr : SR p.K as H st) (post : Post SV p σ as H rr st' Q) (hq : H q = none) (d : DicU p.K as (upd H q w1) q w1 ks us) : Q (.ref q) (upd H q w1) := by
  cases e
  obtain ⟨sr2, ax, gr⟩ := sr.push (o := w1) (ob := .dic ks us) hq ⟨w1, upd_same, d.monoV ⟨List.prefix_append _ _, fun a o u e1 e2 => (List.mem_append.mp e2).elim id fun z => by
    have : a = q := by simpa using z
    subst this
    rw [upd_same] at e1
    cases e1
    exact absurd d.mu id, fun _ _ e => e, fun _ _ _ e => e, fun _ _ _ _ e => e⟩⟩
  exact post _ _ ax gr sr2 _ ⟨q, rfl, by rw [← sr.len]; simp⟩
theorem s_dict (hK : p.K.fr = X.K) : CallS p (fun xs H Q => rDictK X.K xs H Q ∨ rDictT p xs H Q) fDict := by
  intro σ Q as H st vs xs rr st' sr sv e post
  unfold fDict at e
  split at e
  · rename_i v
    split at e
    · rename_i us hv
      split at e
      · rename_i ps hp
        split at e
        · rename_i hn
          split at e
          · rename_i ks uu hd
            obtain ⟨x, rfl, sx⟩ := sv1 sv
            by_cases hf : (ps.all fun q => isFlat q.1) = true
            · obtain ⟨a, zs, rfl, sq, sz⟩ := sv_lst sr sx hv
              obtain ⟨qs, pt, sp⟩ := pairs_sv sz hp
              obtain ⟨Ps, more, rfl, h2, h3, h4⟩ := dAll_k (kvs := []) pt sp (show SVs p.K as H [] [] from rfl) hf hd
              refine .inl ⟨a, Ps, more, rfl, by rw [← hK]; exact sq, by rw [← hK]; exact h2, fun q hq => ?_⟩
              exact dic_new e sr post hq (Or.inl ⟨_, rfl, h3, SVs.monoV (Gr.gv Ax.refl (Gr.upd hq)) _ _ h4⟩)
            · have ht : (ps.all fun q => isTup q.1) = true := hn.2.resolve_left hf
              have hne : ps ≠ [] := by rintro rfl; exact hf rfl
              exact .inr ⟨as, st, v, x, us, ps, ks, uu, rfl, sr, sx, hv, hp, hn.1, hd, ht, hne, fun q w1 hq d => dic_new e sr post hq d⟩
          · cases e
        · cases e
      · cases e
    · cases e
  · cases e
end
end PD
set_option maxHeartbeats 4000000
namespace PD
open PySem PySem.Spec PyProof.Rows L2

mutual
def ih : NestedKey → Option Int
  | .none => some (reduceHash 0xFCA86420)
  | .num i => some (hashInt i)
  | .text _ => none
  | .tup ks => match ihs ks with
    | some hs => some (reduceHash (Builtin.Tuple.tupleHashOf hs))
    | none => none
def ihs : List NestedKey → Option (List Int)
  | [] => some []
  | k :: ks => match ih k, ihs ks with
    | some h, some hs => some (h :: hs)
    | _, _ => none
end
mutual
theorem ih_ok (w : World) : ∀ (k : NestedKey) (h : Int), ih k = some h → k.hash w = h
  | .none, h, e => by simp only [ih] at e; cases e; rfl
  | .num i, h, e => by simp only [ih] at e; cases e; rfl
  | .text _, h, e => by simp [ih] at e
  | .tup ks, h, e => by
    simp only [ih] at e
    split at e
    · rename_i hs hh
      cases e
      rw [NestedKey.hash, ihs_ok w ks hs hh]
    · cases e
theorem ihs_ok (w : World) : ∀ (ks : List NestedKey) (hs : List Int), ihs ks = some hs → NestedKey.hashes w ks = hs
  | [], hs, e => by simp only [ihs] at e; cases e; rfl
  | k :: ks, hs, e => by
    simp only [ihs] at e
    split at e
    · rename_i h hs' h1 h2
      cases e
      rw [NestedKey.hashes, ih_ok w k h h1, ihs_ok w ks hs' h2]
    · cases e
end
theorem hashes_map (w : World) : ∀ ks : List NestedKey, NestedKey.hashes w ks = ks.map (fun k => k.hash w)
  | [] => rfl
  | k :: ks => by rw [NestedKey.hashes, hashes_map w ks]; rfl
def hashOk (ks : List Vl) : Bool := match nksOf ks with
  | some ns => match ihs ns with
    | some hs => decide hs.Nodup
    | none => false
  | none => false
def IsDP (p : Par) (x : V) (H : Hp) : Prop := ∃ as st d ks vs, SR p.K as H st ∧ SV p.K as H d x ∧ dView st d = some (ks, vs)
def tDM1 (p : Par) (r : V → List V → Hp → VK → Prop) (to te : TE) : TE := fun σ H Q => to σ H fun x H1 => IsDP p x H1 ∧ te σ H1 fun y H2 => r x [y] H2 Q
section
variable {X : Cx} {p : Par}
theorem isDP_at (hK : p.K.fr = X.K) (hw : p.K.w = X.w) {pins : List (Addr × PySem.Obj)} {σ : L2.St} {H : Hp} {s : Shared} {x : V} {u : Value} (I : Inv X pins σ H s) (rx : RelV x u) (h : IsDP p x H) : ∃ a, x = .ref a ∧ u = .ref a ∧ s.TypeIs (.ref a) "dict" ∧ ∀ b, Value.ref a = .ref b → ∃ ob, s.heap.get? b = some ob ∧ ob.dict = none := by
  obtain ⟨as, st, d, ks, vs, sr, sd, e⟩ := h
  obtain ⟨a, w0, rfl, hr, so⟩ := dview_ok sr sd e
  obtain ⟨o, es, ep, KS, VS, ho, L, _, _⟩ := lkr_of hK hw I hr so
  refine ⟨a, rfl, rx, ⟨o, ho, L.ex.1⟩, fun b q => ?_⟩
  cases q
  exact ⟨o, ho, L.ex.2.1⟩
theorem pe_dm1 {o e : Expr} {apos cpos : Pos} {name : Str} {id : String} {r : V → List V → Hp → VK → Prop} {to te : TE} (hK : p.K.fr = X.K) (hw : p.K.w = X.w) (slot : Slot "dict" name id) (hty : typeOf (.builtin id) = pure (.type "method_descriptor"))
    (hm : MtR X id r) (ho : PE X o to) (he : PE X e te) (m : M1 X o name apos e cpos) :
    PE X (.Call (.Attribute o name apos) [e] [] cpos) (tDM1 p r to te) := by
  refine ⟨fun pins s σ H Q I h => ?_⟩
  refine wpAny_Call_method m.base m.few m.line PySem.F.plainAttrs_dict slot hty (thn (ho.run pins s σ H _ I h) fun u s1 ⟨x, H1, I1, rx, hd, q1⟩ => ?_)
  obtain ⟨a, rfl, rfl, t1, t2⟩ := isDP_at hK hw I1 rx hd
  refine ⟨t1, t2, ?_⟩
  rw [m.trees]
  refine Calls.callWith_builtin rfl (Calls.evalArgs_plain (Calls.spliced_cons (thn (he.run pins s1 σ H1 _ I1 q1) fun iv s2 ⟨y, H2, I2, ry, q2⟩ => Calls.spliced_nil ?_)))
  exact hm pins s2 σ H2 _ _ _ _ Q I2 rx (.cons ry .nil) q2
def isRef : Vl → Nat → Bool
  | .ref m, n => decide (m = n)
  | _, _ => false
theorem upd_rel {K : Kw} {as : List Addr} {H : Hp} : ∀ {xs2 : List (NestedKey × Addr × Value)} {ys2 : List V} {ks2 us2 ks us ks' us' : List Vl} {acc : List (NestedKey × Addr × Value)} {ys : List V}, TRel K as H ks2 us2 xs2 ys2 → (ks2.all isTup) = true → TRel K as H ks us acc ys → dAll ks us (ks2.zip us2) = some (ks', us') → us2.length = ks2.length → ∃ ys', TRel K as H ks' us' (storedAllH acc xs2) ys'
  | [], ys2, ks2, us2, ks, us, ks', us', acc, ys, t2, ht, t1, e, hl => by
    have h1 : ks2 = [] := by
      have := t2.nk
      cases ks2 with
      | nil => rfl
      | cons k ks => simp only [nksOf] at this; split at this <;> cases this
    subst h1
    simp only [List.zip_nil_left, dAll] at e
    cases e
    exact ⟨ys, t1⟩
  | (n0, b, z) :: xs2, ys2, ks2, us2, ks, us, ks', us', acc, ys, t2, ht, t1, e, hl => by
    obtain ⟨sk, nk, dp, hv, sv⟩ := t2
    cases ks2 with
    | nil => simp [nksOf] at nk
    | cons k ks2 =>
      cases us2 with
      | nil => cases hl
      | cons v us2 =>
        simp only [nksOf] at nk
        split at nk
        · rename_i k' ks3 h1 h2
          simp only [List.map_cons, Option.some.injEq, List.cons.injEq] at nk
          obtain ⟨rfl, rfl⟩ := nk
          cases hv with
          | cons r1 r2 =>
            obtain ⟨y, r, ey, s1, s2⟩ := sv
            cases ey
            obtain ⟨yk, rk, eyk, sk1, sk2⟩ := sk
            simp only [List.map_cons, List.cons.injEq] at eyk
            obtain ⟨rfl, rfl⟩ := eyk
            simp only [List.zip_cons_cons, dAll] at e
            split at e
            · rename_i nk hf
              simp only [List.all_cons, Bool.and_eq_true] at ht
              rcases key_k (k := .inl 0) hf with ⟨k0, rfl, _, _⟩ | ⟨ts, rfl, hk, hd, hft⟩
              · exfalso
                have := ht.1
                cases k0 <;> simp [kVl, isTup] at this
              · rw [h1] at hk; cases hk
                obtain ⟨ys1, tr1⟩ := t1.store h1 hd sk1 s1 r1
                exact upd_rel (xs2 := xs2) (ys2 := _) ⟨sk2, h2, fun x hx => dp x (List.mem_cons_of_mem _ hx), r2, s2⟩ ht.2 tr1 e (by simpa using hl)
            · cases e
        · cases nk
def mUpdate : Mf
  | .ref n, [d2], st => match st[n]? with
    | some (.dic ks us) => match dView st d2 with
      | some (ks2, us2) => if ks.all isTup = true ∧ ks2.all isTup = true ∧ isRef d2 n = false ∧ us2.length = ks2.length ∧ ks2 ≠ [] ∧ (ks ≠ [] ∨ hashOk ks2 = true) ∧ ks.length + ks2.length ≤ 16777216 then match dAll ks us (ks2.zip us2) with
          | some (ks', us') => okv .non (st.set n (.dic ks' us'))
          | none => none
        else none
      | none => none
    | _ => none
  | _, _, _ => none
def rUpdate (p : Par) : V → List V → Hp → VK → Prop := fun x xs H Q => ∃ as st n d2 y ks us ks2 us2 ks' us', xs = [y] ∧ SR p.K as H st ∧ SV p.K as H (.ref n) x ∧ SV p.K as H d2 y ∧ st[n]? = some (.dic ks us) ∧ dView st d2 = some (ks2, us2) ∧ ks.all isTup = true ∧ ks2.all isTup = true ∧ isRef d2 n = false ∧ us2.length = ks2.length ∧
  ks2 ≠ [] ∧ (ks ≠ [] ∨ hashOk ks2 = true) ∧ ks.length + ks2.length ≤ 16777216 ∧ dAll ks us (ks2.zip us2) = some (ks', us') ∧ ∀ H', Gr as H H' → SR p.K as H' (st.set n (.dic ks' us')) → Q .non H'
theorem mt_dupdate (hK : p.K.fr = X.K) (hw : p.K.w = X.w) (hu : X.A.units + 9 < cLine) : MtR X "dict.update" (rUpdate p) := by
  intro pins s σ H x xs v us0 Q I rx rxs h
  obtain ⟨as, st, n, d2, y, ks, us, ks2, us2, ks', us', rfl, sr, sd, sy, hn, hd2, ht1, ht2, hne, hl2, hk2, hh, hlen, hall, q⟩ := h
  obtain ⟨u2, rfl, ry⟩ := vals1 rxs
  simp only [SV] at sd
  obtain ⟨a, rfl, ha⟩ := sd
  cases (show v = Value.ref a from rx)
  obtain ⟨a', ha', w0, e0, so⟩ := sr.ob n _ hn
  rw [ha] at ha'; cases ha'
  obtain ⟨b, w2, rfl, hr2, so2⟩ := dview_ok sr sy hd2
  cases (show u2 = Value.ref b from ry)
  have hab : a ≠ b := by
    rintro rfl
    unfold dView at hd2
    split at hd2
    · rename_i m
      have : m ≠ n := by simpa [isRef] using hne
      simp only [SV] at sy
      obtain ⟨c, ec, hc⟩ := sy
      cases ec
      obtain ⟨l1, q1⟩ := List.getElem?_eq_some_iff.mp ha
      obtain ⟨l2, q2⟩ := List.getElem?_eq_some_iff.mp hc
      exact this ((List.getElem_inj sr.nd).mp (q2.trans q1.symm))
    · cases hd2
  obtain ⟨xs1, ys1, dd1, sk1, nk1, hv1, sv1', hs1, hl1, dp1⟩ := tdict_of hK hw I (.inl e0) so ht1
  obtain ⟨xs2, ys2, dd2, sk2, nk2, hv2, sv2', hs2, hlx2, dp2⟩ := tdict_of hK hw I hr2 so2 ht2
  obtain ⟨ys', tr⟩ := upd_rel ⟨sk2, nk2, dp2, hv2, sv2'⟩ ht2 ⟨sk1, nk1, dp1, hv1, sv1'⟩ hall hl2
  have e1 : xs1.length = ks.length := by simpa using sk1.len
  have e2 : xs2.length = ks2.length := by simpa using sk2.len
  refine call_update_dictH (knd := nestedKind X.prog X.w) (in1_room hu) hab hs2 dd1 dd2 ?_ (by rw [e1, e2, ← sline]; exact hlen) fun h' hd' ho' hs => ?_
  · rcases hh with hh | hh
    · refine .inl ?_
      rintro rfl
      simp at e1
      exact hh (List.length_eq_zero_iff.mp e1.symm)
    · refine .inr ⟨keyed_apart nestedKind_stays dd2, ?_⟩
      unfold hashOk at hh
      rw [nk2] at hh
      simp only at hh
      split at hh
      · rename_i hs' eh
        have := ihs_ok X.w _ _ eh
        rw [hashes_map] at this
        rw [List.map_map] at this
        have h3 : (xs2.map fun x => (nestedKind X.prog X.w).hash x.1) = hs' := this
        rw [h3]
        simpa using hh
      · cases hh
  · obtain ⟨ob, es, ep, h1, h2, h3, h4, h5, h6⟩ := hd'
    have mu : Mut (H a) := by rw [e0]; exact so.mu
    have stab : ∀ h1 h2 : Heap, dPhi X.w a (storedAllH xs1 xs2) h1 → (∀ o, h1.get? a = some o → h2.get? a = some o) → dPhi X.w a (storedAllH xs1 xs2) h2 := fun h1 h2 ⟨o, es, ep, g1, g2⟩ k => ⟨o, es, ep, k o g1, g2⟩
    have I' := d_write (t' := s.toks) (ob := .ext (dPhi X.w a (storedAllH xs1 xs2))) I mu hs ⟨ob, h1⟩ ⟨⟨ob, es, ep, h1, h2, h3, h4⟩, ⟨ob, h1⟩, stab⟩
    have gr : Gr as H (upd H a (.ext (dPhi X.w a (storedAllH xs1 xs2)))) := Gr.set ha e0 so.mu
    have gv := Gr.gv (Ax.refl (as := as)) gr
    have hln := storedAllH_length xs2 xs1
    refine ⟨.non, _, I', rfl, q _ gr ((sr.set (ob := .dic ks' us') ha e0 so.mu ⟨_, upd_same, Or.inr ⟨?_, _, ys', by rw [hw], SVs.monoV gv _ _ tr.sk, tr.nk, h6, tr.dp, ?_, hs1, tr.hv, SVs.monoV gv _ _ tr.sv⟩⟩).1)⟩
    · refine dAll_ne hall (.inr ?_)
      cases ks2 with
      | nil => exact absurd rfl hk2
      | cons k r =>
        cases us2 with
        | nil => cases hl2
        | cons v r' => simp
    · rw [← sline]; omega
theorem s_update : MetS p (rUpdate p) mUpdate := by
  intro σ Q as H st v vs x xs rr st' sr sv svs e post
  unfold mUpdate at e
  split at e
  · rename_i n d2
    split at e
    · rename_i ks us hn
      split at e
      · rename_i ks2 us2 hd2
        split at e
        · rename_i hc
          split at e
          · rename_i ks' us' hall
            cases e
            obtain ⟨y, rfl, sy⟩ := sv1 svs
            obtain ⟨h1, h2, h3, h4, h5, h6, h7⟩ := hc
            exact ⟨as, st, n, d2, y, ks, us, ks2, us2, ks', us', rfl, sr, sv, sy, hn, hd2, h1, h2, h3, h4, h5, h6, h7, hall, fun H' gr sr' => post as H' Ax.refl gr sr' .non (by simp only [SV])⟩
          · cases e
        · cases e
      · cases e
    · cases e
  · cases e
def isD : Chk := fun st v => (dView st v).isSome
theorem snd_dm1 {o e : Expr} {f g : Ef} {apos cpos : Pos} {name : Str} {id : String} {r : V → List V → Hp → VK → Prop} {h : Mf} (hK : p.K.fr = X.K) (hw : p.K.w = X.w) (slot : Slot "dict" name id) (hty : typeOf (.builtin id) = pure (.type "method_descriptor"))
    (hm : MtR X id r) (hs : MetS p r h) (ho : Snd X p o f) (he : Snd X p e g) (m : M1 X o name apos e cpos) : Snd X p (.Call (.Attribute o name apos) [e] [] cpos) (eM isD f (aCons g aNil) h) :=
  pe_mono (pe_dm1 hK hw slot hty hm ho he m) fun σ H Q t => by
    obtain ⟨as, env, st, sr, se, rr, st', e, post⟩ := t
    refine tG_step sr se e post fun v st1 as1 H1 x e1 ax gr sr1 sv k1 post1 => ?_
    split at k1
    · rename_i hck
      refine ⟨?_, ?_⟩
      · unfold isD at hck
        cases q : dView st1 v with
        | none => rw [q] at hck; cases hck
        | some kv => exact ⟨as1, st1, v, kv.1, kv.2, sr1, sv, q⟩
      · have k2 : Rb (g env st1) (fun w st2 => h v [w] st2) = some (rr, st') := by
          rw [← k1]
          unfold aCons aNil Rb
          cases g env st1 with
          | none => rfl
          | some q => obtain ⟨q, s2⟩ := q; cases q <;> rfl
        refine tG_step sr1 (se.mono ax gr) k2 post1 fun w st2 as2 H2 y e2 ax2 gr2 sr2 sv2 k3 post2 => ?_
        exact hs σ Q as2 H2 st2 v [w] x [y] rr st' sr2 (sv.mono ax2 gr2) ⟨y, [], rfl, sv2, rfl⟩ k3 post2
    · cases k1
end
end PD
set_option maxHeartbeats 4000000
namespace PD
open PySem PySem.Spec PyProof.Rows L2

section
variable {X : Cx} {p : Par} {e : Expr} {es : List Expr} {f : Ef} {fs : Af} {q : Pos}
end
section
variable {X : Cx} {p : Par} {tg it tg1 it1 elt : Expr} {ifs ifs1 : List Expr} {sl sl1 vs vs1 : List Nat} {g g1 : Gf} {itf itf1 : If} {tt tt1 : Tf} {te : Ef} {pos : Pos}
end
end PD
set_option maxHeartbeats 4000000
namespace PD
open PySem PySem.Spec PyProof.Rows L2
section
variable {X : Cx} {pins : List (Addr × Obj)} {σ : L2.St} {H : Hp} {s : Shared} {as : List Addr} {K : Kw}
end
end PD
set_option maxHeartbeats 4000000
namespace PD
open PySem PySem.Spec PyProof.Rows L2
section
variable {prog : Program} {w : World} {A : Around} {s : Shared} {E : Value → Shared → Prop}
end
section
variable {X : Cx} {pins : List (Addr × Obj)} {σ : L2.St} {H : Hp} {s : Shared}
end
end PD
set_option maxHeartbeats 4000000
namespace PD
open PySem PySem.Spec PyProof.Rows L2
section
variable {X : Cx} {pins : List (Addr × Obj)} {σ : L2.St} {H : Hp} {s : Shared} {as : List Addr} {K : Kw}
end

section
variable {X : Cx} {pins : List (Addr × Obj)} {σ : L2.St} {H : Hp} {s : Shared} {as : List Addr} {K : Kw}
end
section
variable {X : Cx} {p : Par}
end
end PD
set_option maxHeartbeats 4000000
namespace PD
open PySem PySem.Spec PyProof.Rows L2
section
variable {X : Cx} {p : Par} {params : Arguments} {body : Expr} {scope : Scope} {i j k : Nat}
section
variable {x : Str} {q pos lpos kpos : Pos} {e : Expr} {fs : Af}
end
end
end PD
set_option maxHeartbeats 4000000
namespace PD
open PySem PySem.Spec PyProof.Rows L2
section
variable {X : Cx} {p : Par} {fs : Af}
theorem sndS_par3 {i j l : Nat} {x y z : Str} {a b c : Expr} {px py pz pt pos : Pos} {kt k2 pt2} (hc : X.calm = true) (hN : X.N.Nodup) (hi : X.N[i]? = some x) (hj : X.N[j]? = some y) (hl : X.N[l]? = some z) (hij : i ≠ j) (hil : i ≠ l) (hjl : j ≠ l)
    (hx : X.env.scope.names.lookup x = some .local) (hy : X.env.scope.names.lookup y = some .local) (hz : X.env.scope.names.lookup z = some .local) (ha : SndA X p [a, b, c] fs)
    (hw : swappedStores [.Tuple [.Name x px, .Name y py, .Name z pz] kt pt] (.Tuple [a, b, c] k2 pt2) X.env = pure (some [x, y, z]))
    (hs : swapsWithSole [.Tuple [.Name x px, .Name y py, .Name z pz] kt pt] (.Tuple [a, b, c] k2 pt2) pos.line X.env = pure false) :
    SndS X p (.Assign [.Tuple [.Name x px, .Name y py, .Name z pz] kt pt] (.Tuple [a, b, c] k2 pt2) pos) (sAsg (eTup fs) (gT 3 (gsCons (gN i) (gsCons (gN j) (gsCons (gN l) gsNil))))) := by
  refine ps_mono (ps_par3 hc hN hi hj hl hij hil hjl hx hy hz ha hw hs) fun D σ H t => ?_
  obtain ⟨as, env, st, sr, se, fl, env', st', e, post⟩ := t
  have e2 : sB env (fs env st) (fun vs st1 => sB env (if vs.length ≤ 16777216 then okv (.tup vs) st1 else none) fun v st1 => match gT 3 (gsCons (gN i) (gsCons (gN j) (gsCons (gN l) gsNil))) v env st1 with | some (env2, st2) => some (.nx, env2, st2) | none => none) = some (fl, env', st') := by
    rw [← e]
    unfold sAsg eTup sB Rb
    cases fs env st with
    | none => rfl
    | some r =>
      obtain ⟨r, st1⟩ := r
      cases r <;> rfl
  refine tS_step sr se e2 post fun vs st1 as1 H1 xs e1 ax gr sr1 sv k1 post1 => ?_
  split at k1
  · simp only [okv, sB] at k1
    split at k1
    · rename_i env2 st2 e3
      cases k1
      unfold gT at e3
      simp only at e3
      split at e3
      · rename_i hl
        match vs, hl with
        | [v, w, u], _ =>
          have sv' : SVs p.K as1 H1 [v, w, u] xs := sv
          simp only [SVs] at sv'
          obtain ⟨x, r, rfl, s1, y, r2, rfl, s2, z, r3, rfl, s3, rfl⟩ := sv'
          have ek : ∀ {e : List (Option Vl)} {n : Nat} {v : Vl} {s : Store} {q : PD.Env × Store}, gN n v e s = some q → q = (e.set n (some v), s) := fun {e n v s q} h => by
            unfold gN at h
            split at h
            · cases h; rfl
            · cases h
          have hc3 : ∀ {g : Gf} {gs : Gsf} {v : Vl} {vs : List Vl} {e : PD.Env} {s : Store} {q : PD.Env × Store}, gsCons g gs (v :: vs) e s = some q → ∃ e1 s1, g v e s = some (e1, s1) ∧ gs vs e1 s1 = some q := fun {g gs v vs e s q} h => by
            unfold gsCons at h
            simp only at h
            split at h
            · rename_i e1 s1 q1
              exact ⟨e1, s1, q1, h⟩
            · cases h
          obtain ⟨_, _, q1, e3⟩ := hc3 e3
          cases ek q1
          obtain ⟨_, _, q2, e3⟩ := hc3 e3
          cases ek q2
          obtain ⟨_, _, q3, e3⟩ := hc3 e3
          cases ek q3
          cases e3
          exact ⟨x, y, z, rfl, post1 as1 H1 Ax.refl Gr.refl sr1 _ ((((se.mono ax gr).set s1).set s2).set s3)⟩
      · cases e3
    · cases k1
  · simp [sB] at k1
end
end PD
set_option maxHeartbeats 4000000
namespace PD
open PySem PySem.Spec PyProof.Rows L2
section
variable {X : Cx} {p : Par} {k i : Nat} {f : Addr} {fd : FuncData} {ps : List Str} {x c : Str} {q pos : Pos} {e : Expr} {es : List Expr} {fs gs : Af} {h : Bf}
end
end PD
set_option maxHeartbeats 4000000
namespace PySem
namespace XSup
open PySem.W PySem.Calls PyProof.Rows PySem.HandSPX
def iA (p1 p2 p3 : Pos) : Arguments := { posonlyargs := [], args := [{ arg := "self", annotation := none, pos := p1 }, { arg := "value", annotation := none, pos := p2 }], vararg := none, kwonlyargs := [], kw_defaults := [], kwarg := none, defaults := [.Constant .none 0 p3] }
def iB (q0 q1 q2 q3 q4 q5 q6 q7 q8 : Pos) : List Stmt := [.Expr (.Call (.Attribute (.Call (.Name "super" q0) [] [] q1) "__init__" q2) [] [] q3) q4, .Assign [.Attribute (.Name "self" q5) "value" q6] (.Name "value" q7) q8]
structure InvTxt (prog : Program) (K : Frag) (mg : Str → Option Value) (C fI : Addr) : Prop where
  cls : ∃ nm q N bs bm sn sub ab col dd k0 k1 k2 k3 k5, K.lookup C = some (excClassObj nm q C N bs bm true sn sub ab col dd k0 k1 k2 k3 k5 "ValueError.__new__") ∧ refsVE bm = true
  sa : findIn K (.ref C) "__setattr__" = some (some (.builtin "object.__setattr__"))
  ga : findIn K (.ref C) "__getattribute__" = some (some (.builtin "BaseException.__getattribute__"))
  gg : findIn K (.ref C) "__getattr__" = some none
  noN : findIn K (.ref C) "value" = some none
  iC : findIn K (.ref C) "__init__" = some (some (.ref fI))
  tC : typeIn K (.ref fI) = some (.type "function")
  kC : keepIn K (.ref C) = true
  exC : subIn K (.ref C) (.type "BaseException") = some true
  veC : subIn K (.ref C) (.type "ValueError") = some true
  tyC : typeIn K (.ref C) = some (.type "type")
  hdC : hasDictIn K C = true
  sup : ks_superIn K C C "__init__" = some (some (.builtin "ValueError.__init__"))
  selfm : mroIn K C (.ref C) = some true
  third : nsIn K cStatics "thirdparty.any" = some none
  msup : mg "super" = none
  top : (prog.main.scope.names.lookup ("super" : Str)).isSome = false
  fn : ∃ (qual : Str) (oc : Value) (od : Option Addr) (dT : Addr) (kV doc pm : Value) (an : Option Addr) (cda cc : Addr) (ct : Value) (osl : Array (Option Value)) (p1 p2 p3 q0 q1 q2 q3 q4 q5 q6 q7 q8 : Pos),
    K.lookup fI = some ⟨oc, od, .func (ksFn "__init__" qual (iA p1 p2 p3) (iB q0 q1 q2 q3 q4 q5 q6 q7 q8) iS (.ref dT) kV doc pm an (.ref cda) ct cc), osl⟩ ∧ codeIn K (.ref cda) qual = true ∧
    (∃ ccl cdd vs ccs file tf, K.lookup cda = some ⟨ccl, cdd, .fields vs, ccs⟩ ∧ vs[2]? = some (.str file tf) ∧ ((prog.main.file : Str) == file) = true) ∧
    (q2.endLine == q3.line) = true ∧ (∃ oT n, K.lookup dT = some oT ∧ oT.data = .seq #[.none] n) ∧ (∃ cl cld csl, K.lookup cc = some ⟨cl, cld, .cell (some (.ref C)), csl⟩)
structure InitEnd (h h' : Heap) (x C dx : Addr) (v : Value) : Prop where
  keep : ∀ b o, b ≠ x → h.get? b = some o → h'.get? b = some o
  obj : ∃ t1 : Addr, h'.get? x = some { cls := .ref C, dict := some dx, data := .fields #[.ref t1, .none, .none, .none, .bool false, .none] }
  dbig : h.objs.size ≤ dx
  dne : dx ≠ x
  ns : h'.Ns1 dx (fun y => if y = "value" then some v else none)
def ArgsV (pre : List Value) (v : Value) (args : Args) : Prop := args = ⟨pre ++ [v], []⟩ ∨ args = ⟨pre, [(("value" : Str), v)]⟩ ∨ (args = ⟨pre, []⟩ ∧ v = .none)
section
variable {prog : Program} {w : World} {A : Around} {E : Value → Shared → Prop} {R : Result → Shared → Prop} {s : Shared} {K : Frag} {mg : Str → Option Value} {C fI : Addr}
theorem binds_v {qual : Str} {dT cda cc x : Addr} {kV doc pm ct v : Value} {an : Option Addr} {p1 p2 p3 : Pos} {body : List Stmt} {args : Args} {oT : Obj} {n : Nat} (hT : s.heap.get? dT = some oT) (hs : oT.data = .seq #[.none] n) (ha : ArgsV [.ref x] v args) :
    BindsTo s (ksFn "__init__" qual (iA p1 p2 p3) body iS (.ref dT) kV doc pm an (.ref cda) ct cc) args [("self", .ref x), ("value", v)] := by
  rcases ha with rfl | rfl | ⟨rfl, rfl⟩
  · exact BindsTo.of_defaults rfl hT hs (by first | rfl | with_unfolding_all rfl) (by first | rfl | with_unfolding_all rfl)
  · exact BindsTo.of_defaults rfl hT hs (by first | rfl | with_unfolding_all rfl) (by first | rfl | with_unfolding_all rfl)
  · exact BindsTo.of_defaults rfl hT hs (by first | rfl | with_unfolding_all rfl) (by first | rfl | with_unfolding_all rfl)
theorem kept_but {K : Frag} {h h' : Heap} {x : Addr} (X : K.In h) (hx : K.lookup x = none) (k : ∀ b o, b ≠ x → h.get? b = some o → h'.get? b = some o) : K.In h' := fun a o e =>
  k a o (fun z => by rw [z, hx] at e; cases e) (X a o e)
theorem call_mw {u x t0 : Addr} {nm q : Str} {N : Addr} {bs bm : List Value} {sn : List Str} {sub : List Value} {ab : Bool} {col : Option Bool} {dd : Option Addr} {k0 k1 k2 k3 k5 : Option Value} {Q : Value → Shared → Prop}
    (hC : s.heap.get? C = some (excClassObj nm q C N bs bm true sn sub ab col dd k0 k1 k2 k3 k5 "ValueError.__new__")) (he : s.heap.get? x = some (excO C t0)) (hu : s.heap.get? u = some (kxs_mw "ValueError.__init__" x))
    (hq : ∀ h' t1, (∀ b o, b ≠ x → s.heap.get? b = some o → h'.get? b = some o) → h'.get? x = some (excO C t1) → Q .none { s with heap := h' }) :
    wpAny (model prog w) A (call (.ref u) []) Q E s := by
  obtain ⟨hh, g, d, tk, os⟩ := s
  refine wpAny_call (codeAny_of_tree ?_)
  show wpAny _ A.in1 (callAny (.ref u) ⟨[], []⟩) _ _ _
  simp only [callAny]
  refine wpAny_bind (wpAny_load hu ?_)
  simp only [kxs_mw, show (Value.type "method-wrapper" == Value.type "method" || Value.type "method-wrapper" == Value.type "builtin_function_or_method" || Value.type "method-wrapper" == Value.type "method-wrapper") = true by decide, if_true]
  refine KFB.if_so (by decide) ?_
  refine wpAny_bind (check_bound_init F.excBase_ValueError.toExcCallFacts hC he rfl ?_)
  refine wpAny_bind (wpAny_pure (wpAny_pure ?_))
  refine ⟨plainId_quiet F.excBase_ValueError.init.plain _, codeAny_builtin F.excBase_ValueError.initEntry ?_⟩
  exact exc_init_tree (cls := .ref C) (t0 := t0) (dv := none) (c2 := .none) (c3 := .none) (b4 := .bool false) he (by rw [sizeLine_eq]; exact (by decide : 0 ≤ 16777216)) fun h' k e' _ => hq h' _ k e'
theorem he_of {o : Expr} {name : Str} {q2 q3 : Pos} {env : Env} (h : (q2.endLine == q3.line) = true) : eval (.Call (.Attribute o name q2) [] [] q3) env = (do
      let ov ← attributeBase o name env (eval o env)
      standAt q2.atName
      let (f, first) ← holding [ov] (getMethod ov name (do return (← importBound o env).getD true))
      callWith q3 f first (backTo q3 (starEach [] env)) []) := by
  have e : methodCallPos true o env q2 q3 = pure q3 := by
    unfold methodCallPos
    rw [h]
    rfl
  show (do
      let ov ← attributeBase o name env (eval o env)
      standAt q2.atName
      let (f, first) ← holding [ov] (getMethod ov name (do return (← importBound o env).getD true))
      let callPos ← methodCallPos true o env q2 q3
      callWith callPos f first (backTo q3 (starEach [] env)) []) = _
  rw [e]
  rfl
theorem sup_init (T : InvTxt prog K mg C fI) {x t0 : Addr} {v : Value} {args : Args} (X : K.In s.heap) (hG : s.heap.Ns mainGlobals mg) (hB : ∃ mb, s.heap.Ns builtinsNs mb ∧ ∀ y : Str, y ≠ "__name__" → mb y = bootBuiltins y)
    (hlim : s.heap.NoLimit) (hx : s.heap.get? x = some (excO C t0)) (hnx : K.lookup x = none) (hroom : A.depth < recursionLimit) (ha : ArgsV [.ref x] v args)
    (hq : ∀ h' tk dx, InitEnd s.heap h' x C dx v → R (.ok (.ret .none)) { s with heap := h', toks := tk }) :
    codeAny (model prog w) A (.call (.ref fI) args) R s := by
  obtain ⟨qual, oc, od, dT, kV, doc, pm, an, cda, cc, ct, osl, p1, p2, p3, q0, q1, q2, q3, q4, q5, q6, q7, q8, ho, hcd, ⟨ccl, cdd, vs, ccs, file, tf, hcode, hvs, hfile⟩, hline, ⟨oT, n, hT, hdT⟩, ⟨cl, cld, csl, hcell⟩⟩ := T.fn
  obtain ⟨nm, q, N, bs, bm, sn, sub, ab, col, dd, k0, k1, k2, k3, k5, hC, hbm⟩ := T.cls
  obtain ⟨mb, hB1, hB2⟩ := hB
  have hcl : clsIn K C = some { name := nm, bases := bs, mro := .ref C :: bm, ns := N, qualname := q, hasDict := true, slotNames := sn, subclasses := sub, abstract := ab, collection := col, hasDel := false } := by unfold clsIn; rw [hC] <;> rfl
  obtain ⟨hh, g, d, tk, os⟩ := s
  refine ks_codeAny_call_defAt (fd := ksFn "__init__" qual (iA p1 p2 p3) (iB q0 q1 q2 q3 q4 q5 q6 q7 q8) iS (.ref dT) kV doc pm an (.ref cda) ct cc) (binds := [("self", .ref x), ("value", v)]) hroom (X _ _ ho) rfl hlim (codeRec_of X hcd) rfl
    (binds_v (X _ _ hT) hdT ha) (show ∀ y ∈ iS.names, y.2 ≠ .cell by decide) (by first | decide | (intro y hy; simp only [List.mem_cons, List.not_mem_nil, or_false] at hy; rcases hy with rfl | rfl <;> rfl)) (fun h₁ hns hk₁ => ?_) rfl rfl rfl
  have X₁ : K.In h₁ := X.keeps hk₁
  have hx₁ := hk₁ _ _ hx
  have hxL : hh.objs.size ≠ x := Nat.ne_of_gt (Heap.lt_size hx)
  show wpAt (model prog w) _ _ (execs (iB q0 q1 q2 q3 q4 q5 q6 q7 q8) (ksEnv qual iS hh.objs.size fI (.ref cda) cc)) _ _ _
  refine ks_wpAt_execs_cons (ks_wpAt_Expr_any (ks_wpAt_MethodCall (pl := do return (← importBound (.Call (.Name "super" q0) [] [] q1) (ksEnv qual iS hh.objs.size fI (.ref cda) cc)).getD true) ?_ (he_of hline)))
  refine ks_wpAt_super_base (env := ksEnv qual iS hh.objs.size fI (.ref cda) cc) rfl rfl rfl rfl (X₁ _ _ ho) rfl rfl rfl (X₁ _ _ hcode) rfl hvs hfile T.top ?_
  refine ks_loadName_global rfl rfl (loadGlobal_builtin (env := ksEnv qual iS hh.objs.size fI (.ref cda) cc) (hG.keeps hk₁) T.msup (hB1.keeps hk₁) ((hB2 _ (by decide)).trans Boot.super) ⟨rfl, ?_⟩)
  refine wpAny_loadName_free rfl rfl rfl ⟨_, X₁ _ _ hcell, rfl⟩ ?_
  refine wpAny_loadName_local (v := .ref x) rfl rfl hns (by first | rfl | with_unfolding_all rfl | kernel_rfl) ?_
  refine ks_wpAny_isType_cls (X₁ _ _ hC) rfl ⟨rfl, ?_⟩
  refine ks_wpAny_call_super (X₁ _ _ hC) rfl hx₁ rfl (fun c e => by cases e) (looks_mroIn X₁ T.selfm) (fun h₂ e₂ kk₂ => ?_)
  have X₂ : K.In h₂ := X₁.keeps kk₂
  have hx₂ := kk₂ _ _ hx₁
  have I₂ : InstAt h₂ x (excO C t0) C none := ⟨hx₂, rfl, rfl, trivial⟩
  have hI₂ : Looks (model prog w) h₂ (isInstance (.ref x) (.type "ValueError")) true := I₂.type.andThen (looks_subIn X₂ T.veC)
  have hsup := T.sup
  unfold ks_superIn at hsup
  rw [hcl] at hsup
  refine kxs_getMethod kxs_ValueError e₂ (looks_opaque X₂ T.third) (l₀ := .ref C :: bm) (fun A Q E s k q => wpAny_bind ((looks_clsIn X₂ hcl) A _ E s k (wpAny_pure q))) rfl X₂ hsup hI₂ (ks_ne X₂ I₂ hcl) rfl ?_
  have kk₃ : ∀ b o, h₂.get? b = some o → (h₂.push (kxs_mw "ValueError.__init__" x)).get? b = some o := fun b o e => Heap.get?_push_of_some _ e
  have hu₃ : (h₂.push (kxs_mw "ValueError.__init__" x)).get? h₂.objs.size = some (kxs_mw "ValueError.__init__" x) := Heap.get?_push_at rfl rfl
  refine kxs_callWith (i := "ValueError.__init__") (u := h₂.objs.size) (x := x) rfl (evalArgs_empty ⟨hu₃, ?_⟩)
  refine call_mw (t0 := t0) (kk₃ _ _ (X₂ _ _ hC)) (kk₃ _ _ hx₂) hu₃ fun h₄ t1 kk₄ hx₄ => ?_
  have k14 : ∀ b o, b ≠ x → h₁.get? b = some o → h₄.get? b = some o := fun b o hb e => kk₄ b o hb (kk₃ _ _ (kk₂ _ _ e))
  have X₄ : K.In h₄ := kept_but X₁ hnx k14
  have hns₄ : h₄.Ns hh.objs.size (fun y => ([(("self" : Str), Value.ref x), (("value" : Str), v)] : List (Str × Value)).reverse.lookup y) := hns.at fun o q => k14 _ o hxL q
  show wpAt (model prog w) _ _ (execs _ (ksEnv qual iS hh.objs.size fI (.ref cda) cc)) _ _ _
  refine ks_wpAt_execs_cons (ks_wpAt_Assign_Attr (wpAt_of_wpAny ?_))
  refine wpAny_Name (wpAny_loadName_local (v := v) rfl rfl hns₄ (by first | rfl | with_unfolding_all rfl | kernel_rfl) ?_) rfl
  refine wpAny_Name (wpAny_loadName_local (v := .ref x) rfl rfl hns₄ (by first | rfl | with_unfolding_all rfl | kernel_rfl) ?_) rfl
  refine set_plain X₄ (ox := excO C t1) (od := none) ⟨hx₄, rfl, rfl, trivial⟩ T.sa ?_
  refine exc_osa X₄ hx₄ hcl (show refsVE (.ref C :: bm) = true from hbm) rfl T.noN (fun h₅ tk₅ dx k₅ dn dne hx₅ hn₅ => ?_)
  show wpAt (model prog w) _ _ (execs [] (ksEnv qual iS hh.objs.size fI (.ref cda) cc)) _ _ _
  have z : hh.objs.size < h₄.objs.size := hns₄.lt
  exact wpAt_of_wpAny (wpAny_execs_nil (hq h₅ tk₅ dx ⟨fun b o hb e => k₅ b o hb (k14 b o hb (hk₁ b o e)), ⟨t1, hx₅⟩, Nat.le_of_lt (Nat.lt_of_lt_of_le z dn), dne, hn₅⟩))
end
end XSup
end PySem
set_option maxHeartbeats 4000000
namespace PySem
namespace XSup
open PySem.W PySem.Calls PyProof.Rows PySem.HandSPX
section
variable {prog : Program} {w : World} {M : Model} {A : Around} {E : Value → Shared → Prop} {R : Result → Shared → Prop} {h : Heap} {g : Array GenState} {d : Drawn} {t : Nat} {os : OsState}
variable {nm q : Str} {C N : Addr} {bs bm bmB : List Value} {hdct : Bool} {sn : List Str} {sub : List Value} {ab : Bool} {col : Option Bool} {dd : Option Addr} {k0 k1 k2 k3 k5 : Option Value} {B newId initId : String}
theorem check_new_kw (F : ExcBaseFacts B newId initId bmB) (hT : ∀ X : String, bm.contains (.type X) = bmB.contains (.type X)) {kw : List (Str × Value)} {Q : Unit → Shared → Prop}
    (hC : h.get? C = some (excClassObj nm q C N bs bm hdct sn sub ab col dd k0 k1 k2 k3 k5 newId)) (hq : Q () ⟨h, g, d, t, os⟩) : wpAny M A (checkBuiltinCall newId ⟨[.ref C], kw⟩) Q E ⟨h, g, d, t, os⟩ := by
  have hcont : (Value.ref C :: bm).contains (.type B) = true := by rw [List.contains_cons, hT, F.hasB, Bool.or_true]
  have hstar := F.noStar
  simp only [checkBuiltinCall, F.newKind, F.newSplit, F.newRow]
  repeat (first | refine wpAny_loadPart_at hC ?_ | (refine wpAny_isSubtype_exc hC ?_; rw [hcont]) | refine wpAny_staticBase_exc hC ?_ | refine wpAny_madeBy_exc hC ?_ | simp only [bne_self_eq_false, Bool.false_eq_true, if_false] | wp_step)
  exact hq
theorem new_kw (F : ExcBaseFacts B newId initId bmB) (hT : ∀ X : String, bm.contains (.type X) = bmB.contains (.type X)) {kw : List (Str × Value)}
    (hC : h.get? C = some (excClassObj nm q C N bs bm hdct sn sub ab col dd k0 k1 k2 k3 k5 newId))
    (hq : R (.ok (.ret (.ref (h.objs.size + 1)))) ⟨(h.push { cls := .type "tuple", data := .seq ([] : List Value).toArray }).push
      { cls := .ref C, data := .fields #[.ref h.objs.size, .none, .none, .none, .bool false, .none] }, g, d, t, os⟩) :
    codeAny (model prog w) A (.builtin newId ⟨[.ref C], kw⟩) R ⟨h, g, d, t, os⟩ := by
  have hends := F.ends
  have hcB : (Value.ref C :: bm).contains (.type B) = true := by rw [List.contains_cons, hT, F.hasB, Bool.or_true]
  have hcA : (Value.ref C :: bm).contains (.type "AttributeError") = false := by rw [List.contains_cons, hT, F.noAttr]; rfl
  have hcN : (Value.ref C :: bm).contains (.type "NameError") = false := by rw [List.contains_cons, hT, F.noName]; rfl
  refine codeAny_builtinAt F.entry ?_
  unfold Builtin.«BaseException.__new__»
  refine wpAt_bind ?_
  show wpAt _ _ _ (stack >>= _) _ _ _
  refine wpAt_bind (wpAt_stack fun p below => wpAt_of_wpAny ?_)
  wp_walk
  refine wpAt_of_wpAny ?_
  rw [F.owner]
  repeat (first | with_reducible refine wpAny_madeHere_exc F.canon hC ?_ | with_reducible refine wpAny_loadPart_at hC ?_ | (with_reducible refine wpAny_isSubtype_exc hC ?_; first | rw [hcB] | rw [hcA] | rw [hcN]) | wp_step)
  show R _ _
  rw [Heap.size_push]
  exact hq
theorem type_call_kw (F : ExcBaseFacts B newId initId bmB) (hT : ∀ X : String, bm.contains (.type X) = bmB.contains (.type X)) {kw : List (Str × Value)} {fI : Addr} {Q : Fin → Shared → Prop}
    (hC : h.get? C = some (excClassObj nm q C N bs bm hdct sn sub ab col dd k0 k1 k2 k3 k5 newId))
    (hi : W.Looks (model prog w) h (typeLookup (.ref C) "__init__") (some (.ref fI))) (hb : ∀ self, W.Looks (model prog w) h (bindSpecial (.ref fI) self) (.ref fI, [self]))
    (hq : codeAny (model prog w) A (.call (.ref fI) ⟨[.ref (h.objs.size + 1)], kw⟩)
      (fun r s' => match r with | .ok (.ret v) => v = .none ∧ Q (.done (.ret (.ref (h.objs.size + 1)))) s' | .ok _ => False | .error e => E e s')
      ⟨(h.push (W.kdv_tup [])).push (excO C h.objs.size), g, d, t, os⟩) :
    wpAny (model prog w) A (Builtin.«type.__call__» ⟨[.ref C], kw⟩) Q E ⟨h, g, d, t, os⟩ := by
  repeat (first | with_reducible refine wpAny_loadPart_at hC ?_ | with_reducible refine wpAny_madeBy_exc hC ?_ | wp_step)
  refine codeAny_call_builtin_code (Code.quiet_builtin _ F.quiet) (check_new_kw F hT hC ?_)
  refine new_kw F hT hC ?_
  show wpAny _ _ _ _ _ _
  have k : ∀ b o, h.get? b = some o → ((h.push (W.kdv_tup [])).push (excO C h.objs.size)).get? b = some o := fun b o e => Heap.get?_push_of_some _ (Heap.get?_push_of_some _ e)
  have hC₁ := k _ _ hC
  have hget : ((h.push (W.kdv_tup [])).push (excO C h.objs.size)).get? (h.objs.size + 1) = some (excO C h.objs.size) := by heap_get
  have hcC : (Value.ref C :: bm).contains (.ref C) = true := by simp
  have i1 := hi.keeps k
  have b1 := (hb (.ref (h.objs.size + 1))).keeps k
  unfold isInstance
  repeat (first | with_reducible refine wpAny_loadPart_at hget ?_ | (with_reducible refine wpAny_isSubtype_exc hC₁ ?_; rw [hcC]) | wp_step)
  show wpAny _ _ (typeLookup (.ref C) _) _ _ _
  refine i1.at ?_
  refine wpAny_holding (wpAny_bind (b1.at ?_))
  refine wpAny_bind (wpAny_call (codeAny_mono hq fun r s' z => ?_))
  rcases r with e | (v | _ | _ | _) <;> first | exact z | exact z.elim | skip
  obtain ⟨rfl, z⟩ := z
  first
    | exact wpAny_pure (wpAny_pure z)
    | (wp_walk; exact z)
theorem call_kw (F : ExcBaseFacts B newId initId bmB) (hT : ∀ X : String, bm.contains (.type X) = bmB.contains (.type X)) {kw : List (Str × Value)} {fI : Addr}
    (hC : h.get? C = some (excClassObj nm q C N bs bm hdct sn sub ab col dd k0 k1 k2 k3 k5 newId))
    (hi : W.Looks (model prog w) h (typeLookup (.ref C) "__init__") (some (.ref fI))) (hb : ∀ self, W.Looks (model prog w) h (bindSpecial (.ref fI) self) (.ref fI, [self]))
    (hq : codeAny (model prog w) (A.under (.builtin "type.__call__" ⟨[.ref C], kw⟩)) (.call (.ref fI) ⟨[.ref (h.objs.size + 1)], kw⟩) (W.InitBack (h.objs.size + 1) R)
      ⟨(h.push (W.kdv_tup [])).push (excO C h.objs.size), g, d, t, os⟩) :
    codeAny (model prog w) A (.call (.ref C) ⟨[], kw⟩) R ⟨h, g, d, t, os⟩ := by
  have f1 := tc_lookup
  have f2 := tc_bind (.ref C)
  have hTy : (⟨h, g, d, t, os⟩ : Shared).TypeIs (.ref C) "type" := ⟨_, hC, rfl⟩
  refine codeAny_of_tree ?_
  show wpAny _ _ (callAny (.ref C) _) _ _ _
  repeat (any_goals (first | assumption | with_reducible refine wpAny_loadPart_at hC ?_ | wp_step))
  refine ⟨rfl, ?_⟩
  refine codeAny_call_builtin_at (Code.quiet_builtin _ (by decide +kernel)) entry_typeCall (wpAny_check_type_call_sub hC (type_call_kw F hT hC hi hb ?_))
  refine codeAny_mono hq fun r s' z => ?_
  rcases r with e | (v | _ | _ | _) <;> exact z
end
end XSup
end PySem
set_option maxHeartbeats 4000000
namespace PySem
namespace XSup
open PySem.W PySem.Calls PyProof.Rows PySem.HandSPX
structure OwnMade (h h' : Heap) (e C d : Addr) (v : Value) : Prop where
  keep : ∀ b o, h.get? b = some o → h'.get? b = some o
  new : h.objs.size ≤ e
  obj : ∃ t1 : Addr, h'.get? e = some { cls := .ref C, dict := some d, data := .fields #[.ref t1, .none, .none, .none, .bool false, .none] }
  dbig : h.objs.size ≤ d
  dne : d ≠ e
  ns : h'.Ns1 d (fun y => if y = "value" then some v else none)
section
variable {prog : Program} {w : World} {A : Around} {R : Result → Shared → Prop} {s : Shared} {K : Frag} {mg : Str → Option Value} {C fI : Addr}
theorem sup_made (T : InvTxt prog K mg C fI) {v : Value} {args : Args} (X : K.In s.heap) (hG : s.heap.Ns mainGlobals mg) (hB : ∃ mb, s.heap.Ns builtinsNs mb ∧ ∀ y : Str, y ≠ "__name__" → mb y = bootBuiltins y)
    (hlim : s.heap.NoLimit) (hroom : A.depth + 1 < recursionLimit) (ha : ArgsV [] v args)
    (hq : ∀ h' tk e d, OwnMade s.heap h' e C d v → R (.ok (.ret (.ref e))) { s with heap := h', toks := tk }) :
    codeAny (model prog w) A (.call (.ref C) args) R s := by
  obtain ⟨nm, q, N, bs, bm, sn, sub, ab, col, dd, k0, k1, k2, k3, k5, hC, hbm⟩ := T.cls
  obtain ⟨mb, hB1, hB2⟩ := hB
  obtain ⟨hp, g, dr, tk, os⟩ := s
  have hnx : K.lookup (hp.objs.size + 1) = none := by
    cases e : K.lookup (hp.objs.size + 1) with
    | none => rfl
    | some o =>
      have z : hp.get? (hp.objs.size + 1) = some o := X _ _ e
      exact absurd (Nat.lt_of_succ_lt (Heap.lt_size z)) (Nat.lt_irrefl _)
  have key : ∀ (rest : List Value) (A' : Around) (args' : Args), A'.depth = A.depth + 1 → ArgsV [.ref (hp.objs.size + 1)] v args' →
      codeAny (model prog w) A' (.call (.ref fI) args') (W.InitBack (hp.objs.size + 1) R) ⟨(hp.push (W.kdv_tup rest)).push (excO C hp.objs.size), g, dr, tk, os⟩ := by
    intro rest A' args' hA ha'
    have k : ∀ b o, hp.get? b = some o → ((hp.push (kdv_tup rest)).push (excO C hp.objs.size)).get? b = some o := fun b o e => Heap.get?_push_of_some _ (Heap.get?_push_of_some _ e)
    have hget : ((hp.push (kdv_tup rest)).push (excO C hp.objs.size)).get? (hp.objs.size + 1) = some (excO C hp.objs.size) := by heap_get
    refine sup_init (s := ⟨(hp.push (kdv_tup rest)).push (excO C hp.objs.size), g, dr, tk, os⟩) T (X.keeps k) (hG.keeps k) ⟨mb, hB1.keeps k, hB2⟩ (hlim.keeps k) hget hnx (by rw [hA]; exact hroom) ha' fun h' tk' dx ⟨k', ⟨t1, hx⟩, dn, dne, hns⟩ => ?_
    have old : ∀ b o, hp.get? b = some o → h'.get? b = some o := fun b o e => k' b o (Nat.ne_of_lt (Nat.lt_succ_of_lt (Heap.lt_size e))) (k b o e)
    have z : hp.objs.size + 1 + 1 ≤ dx := by
      first
        | (simpa only [Heap.size_push] using dn)
        | exact dn
        | (have q := dn; rw [Heap.size_push, Heap.size_push] at q; exact q)
    exact ⟨rfl, hq h' tk' (hp.objs.size + 1) dx ⟨old, Nat.le_succ _, ⟨t1, hx⟩, Nat.le_trans (Nat.le_trans (Nat.le_succ _) (Nat.le_succ _)) z, dne, hns⟩⟩
  have hiT : W.Looks (model prog w) hp (typeLookup (.ref C) "__init__") (some (.ref fI)) := looks_findIn X T.iC
  rcases ha with rfl | rfl | ⟨rfl, rfl⟩
  · exact call_own F.excBase_ValueError (fun X => refsVE_contains X bm hbm) (X _ _ hC) hiT (fun self => bind_fn X self T.tC) (by rw [sizeLine_eq]; exact (by decide : 1 ≤ 16777216)) (key [v] _ _ rfl (.inl rfl))
  · exact call_kw F.excBase_ValueError (fun X => refsVE_contains X bm hbm) (X _ _ hC) hiT (fun self => bind_fn X self T.tC) (key [] _ _ rfl (.inr (.inl rfl)))
  · exact call_own (rest := []) F.excBase_ValueError (fun X => refsVE_contains X bm hbm) (X _ _ hC) hiT (fun self => bind_fn X self T.tC) (by rw [sizeLine_eq]; exact (by decide : 0 ≤ 16777216)) (key [] _ _ rfl (.inr (.inr ⟨rfl, rfl⟩)))
end
end XSup
end PySem
set_option maxHeartbeats 4000000
namespace L2
open PySem PySem.Spec PyProof.Rows
theorem relO_v {v : V} {v' : Value} (r : RelV v v') (f : Str) : RelO (List.lookup f [(("value" : Str), v)]) (if f = "value" then some v' else none) := by
  by_cases hw : f = "value"
  · subst hw
    rw [if_pos rfl]
    have q : List.lookup ("value" : Str) [(("value" : Str), v)] = some v := by simp [List.lookup]
    rw [q]
    exact r
  · rw [if_neg hw]
    have qw : (f == ("value" : Str)) = false := by simpa using hw
    have q2 : List.lookup f [(("value" : Str), v)] = none := by simp [List.lookup, qw]
    rw [q2]
    trivial
def mkH (H : Hp) (e d C : Addr) (v : V) : Hp := upd (upd H d (.xd [(("value" : Str), v)])) e (exo e C (some d))
section
variable {X : Cx} {C fI : Addr} {k : Nat}
theorem mkx_core {pins : List (Addr × Obj)} {σ : St} {H : Hp} {s : Shared} {v : V} {v' : Value} {us : List Value} {kws : List (Str × Value)} {Q : VK} (T : PySem.XSup.InvTxt X.prog X.K X.mg C fI) (hr : Room k X.A) (I : Inv X pins σ H s) (rv : RelV v v') (ha : PySem.XSup.ArgsV [] v' ⟨us, kws⟩)
    (hQ : ∀ e d, H e = none → H d = none → e ≠ d → Q (.ref e) (mkH H e d C v)) : wpAny (model X.prog X.w) X.A (call (.ref C) us kws) (EP X pins σ Q) X.xe s := by
  have hlim := I.nolimit
  have hG := I.mod.glob.keeps I.bk
  have hB : ∃ mb, s.heap.Ns builtinsNs mb ∧ ∀ y : Str, y ≠ "__name__" → mb y = bootBuiltins y := by
    obtain ⟨mb, h1, h2⟩ := I.mod.blt
    exact ⟨mb, h1.keeps I.bk, h2⟩
  obtain ⟨hp, g, dr, tk, os⟩ := s
  refine wpAny_call (PySem.XSup.sup_made T I.kIn hG hB hlim (by have := hr.dp; omega) ha fun h' tk' e d M => ?_)
  obtain ⟨t1, hoe⟩ := M.obj
  have hns := M.ns
  obtain ⟨G', g1, g2⟩ := restrict h' fun b => decide (b ≠ e)
  have gk : ∀ b, b ≠ e → G'.get? b = h'.get? b := fun b hb => g1 b (decide_eq_true hb)
  have ge : G'.get? e = none := g2 e (by simp)
  have old : ∀ b o, hp.get? b = some o → G'.get? b = some o := fun b o q => (gk b (Nat.ne_of_lt (Nat.lt_of_lt_of_le (Heap.lt_size q) M.new))).trans (M.keep b o q)
  have ob : ObjOk X.prog X.w (upd H d (.xd [(("value" : Str), v)])) G' d (.xd [(("value" : Str), v)]) :=
    ⟨_, hns.at (fun o q => (gk d M.dne).trans q), fun f => relO_v rv f⟩
  have J : Inv X pins σ (upd H d (.xd [(("value" : Str), v)])) ⟨G', g, dr, tk', os⟩ := I.laid (t' := tk') old M.dbig ob
  have hed : upd H d (.xd [(("value" : Str), v)]) e = none := by
    rw [upd_ne (Ne.symm M.dne)]
    exact I.hok.fresh M.new
  have J2 := J.laidN (h' := h') (a := e) (o := exo e C (some d)) (t' := tk') (fun b u q => by
    have hb : b ≠ e := fun z => by
      have q' : G'.get? b = some u := q
      rw [z, ge] at q'; cases q'
    exact (gk b hb).symm.trans q) ge hed (exo_ok hoe)
  exact ⟨.ref e, mkH H e d C v, J2, rfl, hQ e d (I.hok.fresh M.new) (I.hok.fresh M.dbig) (Ne.symm M.dne)⟩
def tMkx1 (C : Addr) (ta : TA) : TE := fun σ H Q => ta σ H fun vs H1 => ∃ v, vs = [v] ∧ ∀ e d, H1 e = none → H1 d = none → e ≠ d → Q (.ref e) (mkH H1 e d C v)
theorem pe_mkx1 {x : Str} {a : Expr} {ta : TA} {p pos : Pos} (T : PySem.XSup.InvTxt X.prog X.K X.mg C fI) (hr : Room k X.A) (hm : X.mg x = some (.ref C)) (ha : PA X [a] ta) (hg : Gl X x) (hdb : (x == ("__debug__" : Str)) = false)
    (he : starEach (a :: []) X.env = (false, eval a X.env) :: starEach [] X.env := by rfl) (hpl : (backTo pos (starEach [] X.env)).any (·.1) = false := by rfl) : PE X (.Call (.Name x p) [a] [] pos) (tMkx1 C ta) := by
  refine ⟨fun pins s σ H Q I h => ?_⟩
  refine wpAny_Call_Name_kw (ld_glob I hg hm ?_ hdb)
  refine PySem.W.callWith_K (h₀ := X.base) I.ok.mod.kin T.kC (thn (ha.run pos pins s σ H _ I h) fun us s1 hh => ?_) he hpl
  obtain ⟨vs, H1, I1, r1, v, ev, q1⟩ := hh
  subst ev
  refine ⟨I1.kIn, ?_⟩
  cases r1 with
  | cons rv rn =>
    rename_i v' us'
    cases rn
    exact mkx_core T hr I1 rv (.inl rfl) q1
theorem pe_mkxk {x : Str} {kws : List Keyword} {ta : TA} {p pos : Pos} (T : PySem.XSup.InvTxt X.prog X.K X.mg C fI) (hr : Room k X.A) (hm : X.mg x = some (.ref C)) (ha : PK X kws ta) (hg : Gl X x) (hdb : (x == ("__debug__" : Str)) = false)
    (hall : (backToKw pos (keywordEach kws X.env)).all (·.1.isSome) = true := by rfl) (hks : (backToKw pos (keywordEach kws X.env)).filterMap (·.1) = [("value" : Str)] := by rfl)
    (hpl : ((backTo pos (starEach [] X.env)).any (·.1) || (backToKw pos (keywordEach kws X.env)).any (·.1.isNone)) = false := by rfl) : PE X (.Call (.Name x p) [] kws pos) (tMkx1 C ta) := by
  refine ⟨fun pins s σ H Q I h => ?_⟩
  refine wpAny_Call_Name_kw (ld_glob I hg hm ?_ hdb)
  refine PySem.W.callWith_KW0 (h₀ := X.base) I.ok.mod.kin T.kC hall (thn (ha.run pos pins s σ H _ I h) fun us s1 hh => ?_) hpl
  obtain ⟨vs, H1, I1, r1, v, ev, q1⟩ := hh
  subst ev
  refine ⟨I1.kIn, ?_⟩
  cases r1 with
  | cons rv rn =>
    rename_i v' us'
    cases rn
    rw [hks]
    exact mkx_core T hr I1 rv (.inr (.inl rfl)) q1
def tMkx0 (C : Addr) : TE := fun _ H Q => ∀ e d, H e = none → H d = none → e ≠ d → Q (.ref e) (mkH H e d C .non)
theorem pe_mkx0 {x : Str} {p pos : Pos} (T : PySem.XSup.InvTxt X.prog X.K X.mg C fI) (hr : Room k X.A) (hm : X.mg x = some (.ref C)) (hg : Gl X x) (hdb : (x == ("__debug__" : Str)) = false) : PE X (.Call (.Name x p) [] [] pos) (tMkx0 C) := by
  refine ⟨fun pins s σ H Q I h => ?_⟩
  refine wpAny_Call_Name_kw (ld_glob I hg hm ?_ hdb)
  refine PySem.W.callWith_K0 I.kIn T.kC ?_
  exact mkx_core T hr I (v := .non) (v' := .none) rfl (.inr (.inr ⟨rfl, rfl⟩)) h
end
end L2
set_option maxHeartbeats 4000000
namespace L2
open PySem PySem.Spec PyProof.Rows
structure FnG (P : Program) (w : World) (K : PySem.W.Frag) (mg : Str → Option Value) (base : Heap) (k : Nat) (f : Addr) (fd : FuncData) (ps : List Str) (sp : Sp) : Prop where
  len : ∀ vs H Q E, sp vs H Q E → vs.length = ps.length
  run : ∀ (A : Around) (outer : List Env) (s : Shared) (H : Hp) (args : Args) (us : List Value) (vs : List V) (Q : VK) (E : XK), A.guards = some [] → Room k A → Env0 P w K mg base A outer s H → BindsTo s fd args (ps.zip us) → Vals vs us → sp vs H Q E →
    codeAny (model P w) A (.call (.ref f) args) (CR CX0 outer P w H s Q E) s
section
variable {P : Program} {w : World} {K : PySem.W.Frag} {mg : Str → Option Value} {base : Heap} {x qual : Str} {params : Arguments} {body : List Stmt} {scope : Scope} {dvs : List V} {kws : List (Str × V)} {f : Addr} {fd : FuncData} {N ps : List Str} {k : Nat} {sp : Sp}
theorem fnG_ok (D : FunD K x qual params body scope dvs kws f fd) (S : FnScope N ps scope) (len : ∀ vs H Q E, sp vs H Q E → vs.length = ps.length)
    (hb : ∀ (cdv : Value) (A : Around) (outer : List Env) (s : Shared) (H : Hp) (vs : List V) (Q : VK) (E : XK), (A.deeper (envOfC qual scope s.heap.objs.size f cdv)).guards = some [] → Room k (A.deeper (envOfC qual scope s.heap.objs.size f cdv)) → sp vs H Q E →
      ∃ t, PSs (cxOf CX0 P w K mg base N qual scope f cdv A outer s H E) body t ∧ t { nx := fun _ H' => Q .non H', rt := Q } (start N vs) H) : FnG P w K mg base (k + 1) f fd ps sp := by
  obtain ⟨oc, od, dV, kV, doc, pm, an, cdv, ct, osl, rfl, lk, hcd, _, _⟩ := D.ex
  refine ⟨len, ?_⟩
  intro A outer s H args us vs Q E hg hr e0 bd rv hsp
  have up : ∀ b o, base.get? b = some o → s.heap.get? b = some o := fun b o e => (e0.bs b o e).1
  have hKs := e0.mod.kin.keeps up
  have places : ∀ y ∈ ps.zip us, scope.names.lookup y.1 = some .local ∨ (scope.names.lookup y.1 = some .cell ∧ ((cellsFrom (s.heap.objs.size + 1) scope.names []).lookup y.1).isSome = true) := by
    rintro ⟨n, v⟩ hy
    exact (S.par n (List.of_mem_zip hy).1).imp id fun q => ⟨q, PySem.W.cellsFrom_some _ _ _ (.inl q)⟩
  refine codeAny_call_function hr.depth (hKs _ _ lk) rfl S.co S.gen rfl (PySem.W.codeRec_of hKs hcd) (bd _ _ _ _ (wpAny_newFunctionEnv_cells S.kind places ?_))
  rintro en he s1 ic
  subst he
  obtain ⟨t, walk, start0⟩ := hb cdv A outer s H vs Q E hg (hr.deeper _) hsp
  refine ⟨(e0.mod.nolimit.keeps up).keeps ic.toInCall.keep, codeAny_func (wpAny_mono (walk.run [] s1 _ H _ (inv_start S hr.hd e0 (len _ _ _ _ hsp) rv ic) start0) ?_ fun _ _ z => z)⟩
  intro fl s' hs
  have out : ∀ {σ' : St} {H' : Hp} {v : V} {u : Value}, Inv (cxOf CX0 P w K mg base N qual scope f cdv A outer s H E) [] σ' H' s' → RelV v u → Q v H' → CE outer P w H s Q u s' := by
    intro σ' H' v u J r q
    exact ⟨v, H', J.os, J.bare, J.base, J.hok, r, q⟩
  cases fl with
  | next =>
    obtain ⟨_, _, J, q⟩ := hs
    exact out (v := .non) (u := .none) J rfl q
  | ret u =>
    obtain ⟨_, _, _, J, r, q⟩ := hs
    exact out J r q
  | brk => exact hs.elim fun _ z => z.elim fun _ z => z.2.elim
  | cont => exact hs.elim fun _ z => z.elim fun _ z => z.2.elim
end
section
variable {X : Cx} {k : Nat} {f : Addr} {fd : FuncData} {ps : List Str} {sp : Sp} {dvs : List V} {ds : List Value} {x : Str} {p pos : Pos} {e : Expr} {es : List Expr} {t : TA}
theorem run_fnG {pins : List (Addr × Obj)} {σ : St} {H : Hp} {s : Shared} {Q : VK} {us : List Value} {vs : List V} (F : FnG X.prog X.w X.K X.mg X.base k f fd ps sp) (hg : X.A.guards = some []) (hr : Room k X.A) (hb : Binds X.K fd ps ds) (hd : Vals dvs ds)
    (I : Inv X pins σ H s) (r : Vals vs us) (h : sp (vs ++ dvs) H Q E0) : wpAny (model X.prog X.w) X.A (call (.ref f) us) (EP X pins σ Q) X.xe s := by
  have both := r.append hd
  have len2 : (us ++ ds).length = ps.length := both.length.symm.trans (F.len _ _ _ _ h)
  refine wpAny_call (codeAny_mono (F.run X.A X.stack s H ⟨us, []⟩ _ _ Q E0 hg hr I.env0 (hb s us I.kIn len2) both h) ?_)
  intro res s' q
  rcases res with e | (_ | _ | _ | u)
  · exact (pass0 (X := X) pins σ H s e s' I q)
  all_goals first | exact I.after q | exact False.elim q
theorem pe_callG (F : FnG X.prog X.w X.K X.mg X.base k f fd ps sp) (hgd : X.A.guards = some []) (hr : Room k X.A) (hg : Gl X x) (hm : X.mg x = some (.ref f)) (hk : PySem.W.keepIn X.K (.ref f) = true) (hb : Binds X.K fd ps ds) (hd : Vals dvs ds)
    (ha : PA X (e :: es) t) (hdb : (x == ("__debug__" : Str)) = false) (he : starEach (e :: es) X.env = (false, eval e X.env) :: starEach es X.env) (hpl : (backTo pos (starEach es X.env)).any (·.1) = false) :
    PE X (.Call (.Name x p) (e :: es) [] pos) (tCall sp dvs E0 t) := ⟨fun pins s σ H Q I h =>
  wpAny_Call_Name_kw (ld_glob I hg hm (PySem.W.callWith_K (h₀ := X.base) I.ok.mod.kin hk (thn (ha.run pos pins s σ H _ I h) fun us s1 ⟨vs, H1, I1, r, q⟩ => ⟨I1.kIn, run_fnG F hgd hr hb hd I1 r q⟩) he hpl) hdb)⟩
theorem pe_callG0 (F : FnG X.prog X.w X.K X.mg X.base k f fd ps sp) (hgd : X.A.guards = some []) (hr : Room k X.A) (hg : Gl X x) (hm : X.mg x = some (.ref f)) (hk : PySem.W.keepIn X.K (.ref f) = true) (hb : Binds X.K fd ps ds) (hd : Vals dvs ds)
    (hdb : (x == ("__debug__" : Str)) = false) : PE X (.Call (.Name x p) [] [] pos) (tCall sp dvs E0 tNil) := ⟨fun pins s σ H Q I h =>
  wpAny_Call_Name_kw (ld_glob I hg hm (PySem.W.callWith_K0 I.kIn hk (run_fnG (us := []) F hgd hr hb hd I .nil h)) hdb)⟩
end
end L2
set_option maxHeartbeats 4000000
namespace L2
open PySem PySem.Spec PyProof.Rows
def hScr (K : PySem.W.Frag) (a : Addr) (vs : List Value) (ns : List Int) : Hp := fun b => if b = a ∧ K.lookup a = none then some (.frz { cls := .type "list", data := .seq vs.toArray } (.lst (ns.map V.int))) else none
theorem hScr_some {K : PySem.W.Frag} {a b : Addr} {vs : List Value} {ns : List Int} {u : HO} (h : hScr K a vs ns b = some u) : b = a ∧ K.lookup a = none ∧ u = .frz { cls := .type "list", data := .seq vs.toArray } (.lst (ns.map V.int)) := by
  unfold hScr at h
  split at h
  · rename_i z
    exact ⟨z.1, z.2, (Option.some.inj h).symm⟩
  · cases h
theorem law_callG {P : Program} {w : World} {K : PySem.W.Frag} {mg mb : Str → Option Value} {k : Nat} {fa a : Addr} {fd : FuncData} {x : Str} {sp : Sp} {s : Shared} {vs : List Value} {ns : List Int}
    (KX : K.In s.heap) (hG : s.heap.Ns mainGlobals mg) (hB : s.heap.Ns builtinsNs mb) (hbb : ∀ x : Str, x ≠ "__name__" → mb x = bootBuiltins x) (lim : s.heap.NoLimit) (gens : s.gens = #[])
    (ha : s.heap.get? a = some { cls := .type "list", data := .seq vs.toArray }) (hin : IntsAre vs ns) (size : ns.length ≤ sizeLine) (room : Room k callerA)
    (F : ∀ base : Heap, K.In base → base.Ns mainGlobals mg → FnG P w K mg base k fa fd [x] sp) (bd : ∀ (s : Shared) (u : Value), BindsTo s fd ⟨[u], []⟩ [(x, u)])
    (hsp : ∀ H : Hp, Only H → SqL K H a (ns.map V.int) → sp [.ref a] H (fun v _ => v = .bl true) fun _ _ _ => False) :
    codeAny (model P w) callerA (.call (.ref fa) ⟨[.ref a], []⟩) (fun r s' => r = .ok (.ret (.bool true)) ∧ OldK s.heap s'.heap ∧ s'.os = s.os ∧ AllBare s'.gens) s := by
  have rv := vals_ints hin
  have lv := hin.length
  let H := hScr K a vs ns
  have only : Only H := fun b => by
    cases q : H b with
    | none => exact .inl rfl
    | some u => exact .inr ⟨_, _, congrArg some (hScr_some q).2.2⟩
  have hS : SqL K H a (ns.map V.int) := by
    cases hk : K.lookup a with
    | none => exact .inl (.inr ⟨_, if_pos ⟨rfl, hk⟩⟩)
    | some o =>
      have e := (KX a o hk).symm.trans ha
      cases e
      exact .inr ⟨_, vs.toArray, _, hk, rfl, rfl, rfl, by rw [List.size_toArray, lv]; exact size, by simpa using rv⟩
  have hok : HOk P w H s.heap := fun b u q => by
    obtain ⟨rfl, _, rfl⟩ := hScr_some q
    exact ⟨ha, by rw [List.length_map]; exact size, vs, _, rv, ha⟩
  -- what is no list stands in the part that is not tracked
  have apart : ∀ {b : Addr} {o : Obj}, s.heap.get? b = some o → (∀ es ep, o.data = .dict es ep → H b = none) := fun {b o} e es ep d => by
    cases q : H b with
    | none => rfl
    | some u =>
      obtain ⟨rfl, _⟩ := hScr_some q
      have z := ha.symm.trans e
      cases z
      cases d
  have ns0 : ∀ {b : Addr} {m : Str → Option Value}, s.heap.Ns b m → (hidT s.heap H).Ns b m := by
    rintro b m ⟨o, es, ep, e, d, r⟩
    exact ⟨o, es, ep, hidT_get e (apart e es ep d), d, r⟩
  have kin0 : K.In (hidT s.heap H) := fun b o e => hidT_get (KX b o e) (by
    cases q : H b with
    | none => rfl
    | some u =>
      obtain ⟨rfl, z, _⟩ := hScr_some q
      rw [z] at e
      cases e)
  have lim0 : (hidT s.heap H).NoLimit := by
    obtain ⟨mc, h1, h2⟩ := lim
    exact ⟨mc, ns0 h1, h2⟩
  have env0 : Env0 P w K mg (hidT s.heap H) callerA [] s H := ⟨rfl, ⟨kin0, ns0 hG, ⟨mb, ns0 hB, hbb⟩, lim0⟩, fun b o e => of_hidT e, Nat.le_of_eq (hidT_size _ _), trivial, (fun b hb => by cases hb), hok, .of_eq gens⟩
  refine codeAny_mono ((F _ kin0 (ns0 hG)).run callerA [] s H ⟨[.ref a], []⟩ [.ref a] [.ref a] _ _ rfl room env0 (bd s (.ref a)) (.cons rfl .nil) (hsp H only hS)) ?_
  intro r s' h
  rcases r with e | (_ | _ | _ | u)
  · exact False.elim h
  all_goals first | exact False.elim h | skip
  obtain ⟨v, H', os, bare, un, hok', r', rfl⟩ := h
  obtain rfl : u = Value.bool true := r'
  refine ⟨rfl, OldK.of_keep fun b o e => ?_, os, bare⟩
  cases q : H b with
  | none => exact un.keep b o e q (fun z => by cases z) (fun z => by cases z)
  | some u =>
    obtain ⟨rfl, _, rfl⟩ := hScr_some q
    have e1 := (hok b _ q).1
    have e2 := (hok' b _ (un.frzs b _ _ q)).1
    rw [e1] at e
    cases e
    exact e2
theorem walk_ofG {l : PySem.W.OpenLaw} {n k : Nat} {q : Program} {loose : List Str} {XP : (Str → Option Value) → Heap → Prop} {YP : World → Heap → Prop} {d : DefRec} {x : Str}
    (hn : l.most = some n) (hn2 : n ≤ sizeLine) (hdf : d.params.defaults = []) (hr : Room k callerA)
    (F : ∀ (w : World) (mg : Str → Option Value) (fa : Addr) (h : Heap), YP w h → h.Ns mainGlobals mg → mg d.name = some (.ref fa) →
      ∃ (K : PySem.W.Frag) (fd : FuncData) (sp : Sp), K.In h ∧ (∀ (s : Shared) (u : Value), BindsTo s fd ⟨[u], []⟩ [(x, u)]) ∧
        (∀ (H : Hp) (a : Addr) (ns : List Int), ns.length ≤ n → Only H → SqL K H a (ns.map V.int) → sp [.ref a] H (fun v _ => v = .bl true) fun _ _ _ => False) ∧
        ∀ base : Heap, K.In base → base.Ns mainGlobals mg → FnG l.prog w K mg base k fa fd [x] sp) :
    PySem.W.WalkO q loose XP YP l.row.toRowW d [] (fun f vs => PySem.call f vs) :=
  Att.attach_call hn hdf fun w s₀ s₁ mg mb fa o pm cd doc a vs ns G Y _ _ _ hmg hobj hints hlen hg => by
    obtain ⟨K, fd, sp, KX, hb, hsp, hF⟩ := F w mg fa _ Y G.T.g hmg
    exact law_callG KX G.T.g G.T.b G.T.builtins G.T.nolimit hg hobj hints (Nat.le_trans hlen hn2) hr hF hb fun H hO hS => hsp H a ns hlen hO hS
end L2
set_option maxHeartbeats 4000000
namespace PD
open PySem PySem.Spec PyProof.Rows L2
structure Cc (X : Cx) (p : Par) : Prop where
  hK : p.K.fr = X.K
  hw : p.K.w = X.w
  calm : X.calm = true
  nd : X.N.Nodup
  hr : Room 1 X.A
  gd : X.A.guards = some []
section
variable {X : Cx} {p : Par} (c : Cc X p)
include c
theorem Cc.un (n : Nat) (h : n ≤ 200) : X.A.units + n < cLine := by have := c.hr.un; omega
theorem Cc.nx : Cc X p.n := ⟨c.hK, c.hw, c.calm, c.nd, c.hr, c.gd⟩
theorem Cc.blk (s : Shared) (H : Hp) (scope : Scope) (cenv : PySem.Env) (fp : List Addr) : Cc (X.blk s H scope cenv fp) p.n := ⟨c.hK, c.hw, c.calm, c.nd, c.hr, c.gd⟩
variable {a b e : Expr} {es : List Expr} {f g : Ef} {fs : Af} {pos q : Pos}
theorem Cc.add (ha : Snd X p a f) (hb : Snd X p b g) : Snd X p (.BinOp a .Add b pos) (bin f g fAdd) := snd_bin op_addA (s_add c.hK) ha hb
theorem Cc.sub (ha : Snd X p a f) (hb : Snd X p b g) : Snd X p (.BinOp a .Sub b pos) (bin f g fSub) := snd_bin op_sub s_sub ha hb
theorem Cc.mul (ha : Snd X p a f) (hb : Snd X p b g) : Snd X p (.BinOp a .Mult b pos) (bin f g fMul) := snd_bin op_mulA s_mul ha hb
theorem Cc.mod (ha : Snd X p a f) (hb : Snd X p b g) : Snd X p (.BinOp a .Mod b pos) (bin f g fMod) := snd_bin op_mod s_mod ha hb
theorem Cc.div (ha : Snd X p a f) (hb : Snd X p b g) : Snd X p (.BinOp a .FloorDiv b pos) (bin f g fDiv) := snd_bin op_fdivW s_div ha hb
theorem Cc.pow (ha : Snd X p a f) (hb : Snd X p b g) : Snd X p (.BinOp a .Pow b pos) (bin f g fPow) := snd_bin op_powW s_pow ha hb
theorem Cc.neg (ha : Snd X p a f) : Snd X p (.UnaryOp .USub a pos) (una f fNeg) := snd_una un_neg s_neg ha
theorem Cc.cEq : CmpS X p .Eq fEq := ⟨_, op_eqD (c.un 64 (by omega)), s_eq c.hK⟩
theorem Cc.cNe : CmpS X p .NotEq fNe := ⟨_, op_neD (c.un 64 (by omega)), s_ne c.hK⟩
theorem Cc.cGt : CmpS X p .Gt fGt := ⟨_, op_gt, s_gt⟩
theorem Cc.ix (ha : Snd X p a f) (hb : Snd X p b g) (hs : PlainIx b) : Snd X p (.Subscript a b pos) (bin f g fIxA) := snd_ixA c.hK c.hw (c.un 9 (by omega)) ha hb hs
theorem Cc.sl {lo hi : Option Expr} {fl fh : Of} {p2 : Pos} (ha : Snd X p e f) (hl : SndO X p lo fl) (hh : SndO X p hi fh) : Snd X p (.Subscript e (.Slice lo hi none p2) pos) (eSl f fl fh) := snd_sl c.hK ha hl hh
theorem Cc.rev {k : Nat} {p1 p2 p3 : Pos} (ha : Snd X p e f) : Snd X p (.Subscript e (.Slice none none (some (.UnaryOp .USub (.Constant (.int 1) k p1) p2)) p3) pos) (una f fRev) := snd_rev c.hK ha
theorem Cc.len (hg : Gl X "len") (hm : X.mg "len" = none) (ha : SndA X p (e :: es) fs) (he : starEach (e :: es) X.env = (false, eval e X.env) :: starEach es X.env) (hpl : (backTo pos (starEach es X.env)).any (·.1) = false) : Snd X p (.Call (.Name "len" q) (e :: es) [] pos) (eB fs (bOr fLen fLenD)) :=
  snd_callB ((L2.call_len).or (call_lenP c.hK c.hw)) ((s_len c.hK).or s_lenP) hg hm (by decide +kernel) ha (by decide) (by decide) he hpl
theorem Cc.all (hg : Gl X "all") (hm : X.mg "all" = none) (ha : SndA X p (e :: es) fs) (he : starEach (e :: es) X.env = (false, eval e X.env) :: starEach es X.env) (hpl : (backTo pos (starEach es X.env)).any (·.1) = false) : Snd X p (.Call (.Name "all" q) (e :: es) [] pos) (eB fs (lstF gAll)) :=
  snd_callB (cr_all c.calm) (s_all c.hK) hg hm (by decide +kernel) ha (by decide) (by decide) he hpl
theorem Cc.any (hg : Gl X "any") (hm : X.mg "any" = none) (ha : SndA X p (e :: es) fs) (he : starEach (e :: es) X.env = (false, eval e X.env) :: starEach es X.env) (hpl : (backTo pos (starEach es X.env)).any (·.1) = false) : Snd X p (.Call (.Name "any" q) (e :: es) [] pos) (eB fs (lstF gAny)) :=
  snd_callB (cr_any c.calm) (s_any c.hK) hg hm (by decide +kernel) ha (by decide) (by decide) he hpl
theorem Cc.sum (hg : Gl X "sum") (hm : X.mg "sum" = none) (ha : SndA X p (e :: es) fs) (he : starEach (e :: es) X.env = (false, eval e X.env) :: starEach es X.env) (hpl : (backTo pos (starEach es X.env)).any (·.1) = false) : Snd X p (.Call (.Name "sum" q) (e :: es) [] pos) (eB fs (lstF gSum)) :=
  snd_callB (cr_sum c.calm) (s_sum c.hK) hg hm (by decide +kernel) ha (by decide) (by decide) he hpl
theorem Cc.max (hg : Gl X "max") (hm : X.mg "max" = none) (ha : SndA X p (e :: es) fs) (he : starEach (e :: es) X.env = (false, eval e X.env) :: starEach es X.env) (hpl : (backTo pos (starEach es X.env)).any (·.1) = false) : Snd X p (.Call (.Name "max" q) (e :: es) [] pos) (eB fs fMax) :=
  snd_callB (cr_maxA c.calm) (s_max c.hK) hg hm (by decide +kernel) ha (by decide) (by decide) he hpl
theorem Cc.min (hg : Gl X "min") (hm : X.mg "min" = none) (ha : SndA X p (e :: es) fs) (he : starEach (e :: es) X.env = (false, eval e X.env) :: starEach es X.env) (hpl : (backTo pos (starEach es X.env)).any (·.1) = false) : Snd X p (.Call (.Name "min" q) (e :: es) [] pos) (eB fs fMin) :=
  snd_callB (cr_minA c.calm) (s_min c.hK) hg hm (by decide +kernel) ha (by decide) (by decide) he hpl
theorem Cc.abs (hg : Gl X "abs") (hm : X.mg "abs" = none) (ha : SndA X p (e :: es) fs) (he : starEach (e :: es) X.env = (false, eval e X.env) :: starEach es X.env) (hpl : (backTo pos (starEach es X.env)).any (·.1) = false) : Snd X p (.Call (.Name "abs" q) (e :: es) [] pos) (eB fs fAbs) :=
  snd_callB call_abs s_abs hg hm (by decide +kernel) ha (by decide) (by decide) he hpl
theorem Cc.sorted (hg : Gl X "sorted") (hm : X.mg "sorted" = none) (ha : SndA X p (e :: es) fs) (he : starEach (e :: es) X.env = (false, eval e X.env) :: starEach es X.env) (hpl : (backTo pos (starEach es X.env)).any (·.1) = false) : Snd X p (.Call (.Name "sorted" q) (e :: es) [] pos) (eB fs (bOr (lstF gSorted) fSortD)) :=
  snd_callB ((cr_sortedD (c.un 66 (by omega))).or (call_sortP c.hK c.hw c.calm (c.un 66 (by omega)))) ((s_sorted c.hK).or s_sortP) hg hm (by decide +kernel) ha (by decide) (by decide) he hpl
theorem Cc.int (hg : Gl X "int") (hm : X.mg "int" = none) (ha : SndA X p (e :: es) fs) (he : starEach (e :: es) X.env = (false, eval e X.env) :: starEach es X.env) (hpl : (backTo pos (starEach es X.env)).any (·.1) = false) : Snd X p (.Call (.Name "int" q) (e :: es) [] pos) (eB fs fInt) :=
  snd_callTy call_int1 s_int hg hm (by decide +kernel) ha (by decide) (by decide) he hpl
theorem Cc.list (hg : Gl X "list") (hm : X.mg "list" = none) (ha : SndA X p (e :: es) fs) (he : starEach (e :: es) X.env = (false, eval e X.env) :: starEach es X.env) (hpl : (backTo pos (starEach es X.env)).any (·.1) = false) : Snd X p (.Call (.Name "list" q) (e :: es) [] pos) (eB fs (bOr fList fListD)) :=
  snd_callTy (call_list_of.or (call_listP c.hK c.hw c.calm)) ((s_list c.hK).or s_listP) hg hm (by decide +kernel) ha (by decide) (by decide) he hpl
theorem Cc.tuple (hg : Gl X "tuple") (hm : X.mg "tuple" = none) (ha : SndA X p (e :: es) fs) (he : starEach (e :: es) X.env = (false, eval e X.env) :: starEach es X.env) (hpl : (backTo pos (starEach es X.env)).any (·.1) = false) : Snd X p (.Call (.Name "tuple" q) (e :: es) [] pos) (eB fs fTuple) :=
  snd_callTy call_tuple_of (s_tuple c.hK) hg hm (by decide +kernel) ha (by decide) (by decide) he hpl
theorem Cc.dict (hg : Gl X "dict") (hm : X.mg "dict" = none) (ha : SndA X p (e :: es) fs) (he : starEach (e :: es) X.env = (false, eval e X.env) :: starEach es X.env) (hpl : (backTo pos (starEach es X.env)).any (·.1) = false) : Snd X p (.Call (.Name "dict" q) (e :: es) [] pos) (eB fs fDict) :=
  snd_callTy ((call_dictP c.calm).or (call_dictT c.hK c.hw c.calm (c.un 10 (by omega)))) (s_dict c.hK) hg hm (by decide +kernel) ha (by decide) (by decide) he hpl
variable {o : Expr} {apos cpos : Pos}
theorem Cc.append (ho : Snd X p o f) (ha : SndA X p (e :: es) fs) (hbase : attributeBase o "append" X.env (eval o X.env) = eval o X.env)
    (hfew : ((backTo cpos (starEach (e :: es) X.env)).all (fun x => !x.1) && (backToKw cpos (keywordEach [] X.env)).all (fun x => x.1.isSome)
      && decide ((e :: es).length + ([] : List Keyword).length + (if ([] : List Keyword).isEmpty then 0 else 1) < 30)) = true)
    (hline : (apos.endLine == cpos.line) = true) (hst : starEach (e :: es) X.env = (false, eval e X.env) :: starEach es X.env) (hplain : (backTo cpos (starEach es X.env)).any (·.1) = false) :
    Snd X p (.Call (.Attribute o "append" apos) (e :: es) [] cpos) (eM isL f fs mAppend) :=
  snd_bm c.hK PySem.F.plainAttrs_list PySem.F.slot_list_append PySem.F.type_list_append mt_append s_append chk_L ho ha hbase hfew hline hst hplain
theorem Cc.update (ho : Snd X p o f) (he : Snd X p e g) (m : M1 X o "update" apos e cpos) : Snd X p (.Call (.Attribute o "update" apos) [e] [] cpos) (eM isD f (aCons g aNil) mUpdate) :=
  snd_dm1 c.hK c.hw PySem.F.slot_dict_update PySem.F.type_dict_update (mt_dupdate c.hK c.hw (c.un 9 (by omega))) s_update ho he m
variable {tg : Expr} {itf : If} {sl : List Nat} {gg : Gf}
theorem Cc.gtup {k n : Nat} {gs : Gsf} (h : SndGs X p es sl gs) (hn : (assignEach es X.env).length = n) (hst : (assignEach es X.env).findIdx? (·.1) = none) : SndG X p (.Tuple es k pos) sl (gT n gs) := sndG_tup c.hK c.calm h hn hst
theorem Cc.gsub {i : Expr} {fo fi : Ef} (ho : Snd X p.n o fo) (hi : Snd X p.n i fi)
    (ha : ∀ v, assign (.Subscript o i pos) X.env v = (do
      let ov ← holding [v] (eval o X.env)
      let iv ← holding [v, ov] (eval i X.env)
      standAt pos
      holding [v, ov, iv] (setItem ov iv v)
      release [v, ov, iv] [])) : SndG X p (.Subscript o i pos) [] (gSubF fo fi) := sndG_sub c.hK c.hw (c.un 9 (by omega)) ho hi ha
theorem Cc.truth (ha : Snd X p a f) (he : ∀ whole, isTrue a X.env whole = (do let v ← whole; standAt a.pos; holding [v] (truthy v))) : SndT X p a (tTr f) := sndT_truth c.hK ha he
theorem Cc.val (he : Snd X p e f) : SndI X p tg e (iVal f) := sndI_val c.hK he
end
theorem fnG_okS {P : Program} {w : World} {K : Kw} {mg : Str → Option Value} {base : Heap} {x qual : Str} {params : Arguments} {body : List Stmt} {scope : Scope} {dvs : List V} {kws : List (Str × V)} {f : Addr} {fd : FuncData} {N ps : List Str} {k : Nat} {fb : Sf} (F : FunD K.fr x qual params body scope dvs kws f fd) (S : FnScope N ps scope)
    (hb : ∀ (cdv : Value) (A : Around) (outer : List PySem.Env) (s : Shared) (H : Hp) (E : XK), (A.deeper (envOfC qual scope s.heap.objs.size f cdv)).guards = some [] → Room k (A.deeper (envOfC qual scope s.heap.objs.size f cdv)) → SndB (fcx P w K.fr mg base N qual scope f cdv A outer s H E) (p0 K) body fb) :
    FnG P w K.fr mg base (k + 1) f fd ps (fnSp K (bodyF N.length fb) ps.length) := by
  refine fnG_ok F S (fun vs H Q E h => h.1) fun cdv A outer s H vs Q E hg hr h => ⟨tS (p0 K) fb, PSs.nox (hb cdv A outer s H E hg hr), ?_⟩
  obtain ⟨hl, as, st, ds, sr, sv, v, st', e, post⟩ := h
  unfold bodyF at e
  split at e
  · rename_i v' env' st'' e1
    cases e
    exact ⟨as, _, st, sr, senv_start sv, .rt v, env', st', e1, fun as' H' ax gr sr' x sx => post as' H' ax gr sr' x sx⟩
  · rename_i env' st'' e1
    cases e
    exact ⟨as, _, st, sr, senv_start sv, .nx, env', st', e1, fun as' H' ax gr sr' σ' _ => post as' H' ax gr sr' .non (by simp only [SV])⟩
  · cases e
structure Kf (P : Program) (w : World) (K : Kw) (mg : Str → Option Value) (base : Heap) (k : Nat) (x : Str) (n : Nat) (h : Bf) : Prop where
  ex : ∃ (f : Addr) (fd : FuncData) (ps : List Str), ps.length = n ∧ FnG P w K.fr mg base k f fd ps (fnSp K h ps.length) ∧ mg x = some (.ref f) ∧ PySem.W.keepIn K.fr (.ref f) = true ∧ Binds K.fr fd ps []
theorem snd_own {X : Cx} {p : Par} {k n : Nat} {x : Str} {h : Bf} {e : Expr} {es : List Expr} {fs : Af} {q pos : Pos} (c : Cc X p) (F : Kf X.prog X.w p.K X.mg X.base k x n h) (hr : Room k X.A) (hg : Gl X x) (ha : SndA X p (e :: es) fs) (hdb : (x == ("__debug__" : Str)) = false)
    (he : starEach (e :: es) X.env = (false, eval e X.env) :: starEach es X.env) (hpl : (backTo pos (starEach es X.env)).any (·.1) = false) : Snd X p (.Call (.Name x q) (e :: es) [] pos) (eCall fs h n []) := by
  obtain ⟨f, fd, ps, rfl, F1, hm, hk, hb⟩ := F.ex
  rw [c.hK] at F1 hk hb
  exact pe_mono (pe_callG F1 c.gd hr hg hm hk hb .nil ha hdb he hpl) fun σ H Q t => by
    obtain ⟨as, env, st, sr, se, rr, st', e, post⟩ := t
    refine tG_step sr se e post fun vs st1 as1 H1 xs e1 ax gr sr1 sv k1 post1 => ?_
    dsimp only at k1
    split at k1
    · rename_i hn
      rw [List.append_nil] at hn k1
      rw [List.append_nil]
      exact fnSp_of (p := p) hn k1 sr1 sv post1
    · cases k1
theorem snd_own0 {X : Cx} {p : Par} {k n : Nat} {x : Str} {h : Bf} {q pos : Pos} (c : Cc X p) (F : Kf X.prog X.w p.K X.mg X.base k x n h) (hr : Room k X.A) (hg : Gl X x) (hdb : (x == ("__debug__" : Str)) = false) : Snd X p (.Call (.Name x q) [] [] pos) (eCall aNil h n []) := by
  obtain ⟨f, fd, ps, rfl, F1, hm, hk, hb⟩ := F.ex
  rw [c.hK] at F1 hk hb
  exact pe_mono (pe_callG0 F1 c.gd hr hg hm hk hb .nil hdb) fun σ H Q t => by
    obtain ⟨as, env, st, sr, se, rr, st', e, post⟩ := t
    have e2 : (if ([] : List Vl).length = ps.length then noX h [] st else none) = some (rr, st') := e
    show fnSp p.K h ps.length ([] ++ []) H Q E0
    split at e2
    · rename_i hn
      exact fnSp_of (p := p) hn e2 sr rfl post
    · cases e2
theorem kf_of {P : Program} {w : World} {K : Kw} {mg : Str → Option Value} {base : Heap} {k n : Nat} {x qual : Str} {params : Arguments} {body : List Stmt} {scope : Scope} {f : Addr} {fd : FuncData} {N ps : List Str} {fb : Sf} (F : FunD K.fr x qual params body scope [] [] f fd) (S : FnScope N ps scope) (hm : mg x = some (.ref f))
    (hb : ∀ (kV doc pm : Value) (an : Option Addr) (cdv ct : Value) (us : List Value), us.length = ps.length → bindArgs (PySem.W.fnOf x qual params body scope .none kV doc pm an cdv ct) ⟨us, []⟩ = pure (ps.zip us)) (hn : ps.length = n)
    (hbody : ∀ (cdv : Value) (A : Around) (outer : List PySem.Env) (s : Shared) (H : Hp) (E : XK), (A.deeper (envOfC qual scope s.heap.objs.size f cdv)).guards = some [] → Room k (A.deeper (envOfC qual scope s.heap.objs.size f cdv)) → SndB (fcx P w K.fr mg base N qual scope f cdv A outer s H E) (p0 K) body fb) :
    Kf P w K mg base (k + 1) x n (bodyF N.length fb) := ⟨f, fd, ps, hn, fnG_okS F S hbody, hm, F.kp, F.bindsN hb⟩
end PD
set_option maxHeartbeats 4000000
namespace PD
open PySem PySem.Spec PyProof.Rows L2
structure ExV (P : Program) (fr : PySem.W.Frag) (mg : Str → Option Value) (K : Kw) (x : Str) : Prop where
  ex : ∃ C fI, PySem.XSup.InvTxt P fr mg C fI ∧ mg x = some (.ref C) ∧ K.ca x = some C
def mkE (c : Str) (v : Vl) (st : Store) : Out Vl := some (.v (.ref (st.length + 1)), st ++ [.xdc v, .exc c st.length])
def eMk1 (c : Str) (f : Ef) : Ef := fun env st => Rb (f env st) fun v st1 => mkE c v st1
def eMk0 (c : Str) : Ef := fun _ st => mkE c .non st
section
variable {X : Cx} {p : Par}
theorem mk_step {c : Str} {C : Addr} {as : List Addr} {H : Hp} {st st' : Store} {v : Vl} {x : V} {rr : Rs Vl} {σ : L2.St} {Q : VK} (hc : p.K.ca c = some C) (sr : SR p.K as H st) (sv : SV p.K as H v x) (e : mkE c v st = some (rr, st')) (post : Post SV p σ as H rr st' Q) {e1 d : Addr} (h1 : H e1 = none) (h2 : H d = none) (hn : e1 ≠ d) : Q (.ref e1) (mkH H e1 d C x) := by
  unfold mkE at e
  cases e
  have s0 : SO p.K (as ++ [d]) (L2.upd H d (.xd [(("value" : Str), x)])) d (.xdc v) := ⟨x, upd_same, SV.mono ⟨List.prefix_append _ _, fun a ha => by
    rcases List.mem_append.mp ha with z | z
    · exact .inl z
    · have : a = d := by simpa using z
      subst this; exact .inr h2⟩ (Gr.upd h2) v x sv⟩
  obtain ⟨sr1, ax1, gr1⟩ := sr.push h2 s0
  have h3 : L2.upd H d (.xd [(("value" : Str), x)]) e1 = none := by rw [upd_ne hn]; exact h1
  have hl : as.length = st.length := sr.len
  have s1 : SO p.K (as ++ [d] ++ [e1]) (L2.upd (L2.upd H d (.xd [(("value" : Str), x)])) e1 (exo e1 C (some d))) e1 (.exc c st.length) := ⟨C, d, hc, by
    rw [List.append_assoc, List.getElem?_append_right (by omega), hl, Nat.sub_self]
    rfl, upd_same⟩
  obtain ⟨sr2, ax2, gr2⟩ := sr1.push h3 s1
  have e4 : st ++ [.xdc v] ++ [.exc c st.length] = st ++ [.xdc v, .exc c st.length] := by simp
  rw [e4] at sr2
  exact post (as ++ [d] ++ [e1]) _ (ax1.trans gr1 ax2) (Gr.trans ax1 gr1 gr2) sr2 (.ref e1) (by
    simp only [SV]
    refine ⟨e1, rfl, ?_⟩
    rw [List.getElem?_append_right (by simp; omega)]
    simp [hl])
theorem snd_mk1 {x : Str} {a : Expr} {f : Ef} {q pos : Pos} (c : Cc X p) (T : ExV X.prog X.K X.mg p.K x) (ha : Snd X p a f) (hg : Gl X x) (hdb : (x == ("__debug__" : Str)) = false)
    (h1 : starEach [a] X.env = (false, eval a X.env) :: starEach [] X.env) (hpl : (backTo pos (starEach [] X.env)).any (·.1) = false) : Snd X p (.Call (.Name x q) [a] [] pos) (eMk1 x f) := by
  obtain ⟨C, fI, T, hm, hc⟩ := T.ex
  exact pe_mono (pe_mkx1 T c.hr hm (sndA_cons ha sndA_nil h1) hg hdb h1 hpl) fun σ H Q t => by
    obtain ⟨as, env, st, sr, se, rr, st', e, post⟩ := t
    show tA p (aCons f aNil) σ H _
    refine tG_step (f := aCons f aNil) (k := fun vs st1 => match vs with | [v] => mkE x v st1 | _ => none) sr se (r := rr) (st' := st') ?_ post fun vs st1 as1 H1 xs e1 ax gr sr1 sv k1 post1 => ?_
    · unfold eMk1 at e
      unfold aCons aNil
      rw [Rb_assoc]
      exact e
    · split at k1
      · rename_i v
        simp only [SVs] at sv
        obtain ⟨y, r, rfl, s1, rfl⟩ := sv
        exact ⟨y, rfl, fun e1 d g1 g2 g3 => mk_step hc sr1 s1 k1 post1 g1 g2 g3⟩
      · cases k1
theorem snd_mkk {x : Str} {a : Expr} {f : Ef} {q pos kpos : Pos} (c : Cc X p) (T : ExV X.prog X.K X.mg p.K x) (ha : Snd X p a f) (hg : Gl X x) (hdb : (x == ("__debug__" : Str)) = false)
    (hall : (backToKw pos (keywordEach [⟨some ("value" : Str), a, kpos⟩] X.env)).all (·.1.isSome) = true) (hks : (backToKw pos (keywordEach [⟨some ("value" : Str), a, kpos⟩] X.env)).filterMap (·.1) = [("value" : Str)])
    (hpl : ((backTo pos (starEach [] X.env)).any (·.1) || (backToKw pos (keywordEach [⟨some ("value" : Str), a, kpos⟩] X.env)).any (·.1.isNone)) = false) : Snd X p (.Call (.Name x q) [] [⟨some ("value" : Str), a, kpos⟩] pos) (eMk1 x f) := by
  obtain ⟨C, fI, T, hm, hc⟩ := T.ex
  exact pe_mono (pe_mkxk T c.hr hm (sndK_cons ha sndK_nil) hg hdb hall hks hpl) fun σ H Q t => by
    obtain ⟨as, env, st, sr, se, rr, st', e, post⟩ := t
    show tA p (aCons f aNil) σ H _
    refine tG_step (f := aCons f aNil) (k := fun vs st1 => match vs with | [v] => mkE x v st1 | _ => none) sr se (r := rr) (st' := st') ?_ post fun vs st1 as1 H1 xs e1 ax gr sr1 sv k1 post1 => ?_
    · unfold eMk1 at e
      unfold aCons aNil
      rw [Rb_assoc]
      exact e
    · split at k1
      · rename_i v
        simp only [SVs] at sv
        obtain ⟨y, r, rfl, s1, rfl⟩ := sv
        exact ⟨y, rfl, fun e1 d g1 g2 g3 => mk_step hc sr1 s1 k1 post1 g1 g2 g3⟩
      · cases k1
theorem snd_mk0 {x : Str} {q pos : Pos} (c : Cc X p) (T : ExV X.prog X.K X.mg p.K x) (hg : Gl X x) (hdb : (x == ("__debug__" : Str)) = false) : Snd X p (.Call (.Name x q) [] [] pos) (eMk0 x) := by
  obtain ⟨C, fI, T, hm, hc⟩ := T.ex
  exact pe_mono (pe_mkx0 T c.hr hm hg hdb) fun σ H Q t => by
    obtain ⟨as, env, st, sr, se, rr, st', e, post⟩ := t
    intro e1 d g1 g2 g3
    exact mk_step hc sr (v := .non) (x := .non) (by simp only [SV]) e post g1 g2 g3
end
end PD
set_option maxHeartbeats 4000000
namespace L2
open PySem PySem.Spec PyProof.Rows
section
variable {X : Cx} {C fI : Addr}
theorem pe_mkn {x : Str} {p pos : Pos} (q : PySem.W.excInitIn X.K C [.type "ValueError", .type "Exception", .type "BaseException", .type "object"] "ValueError.__new__" = true) (hi : PySem.W.findIn X.K (.ref C) "__init__" = some (some (.builtin "ValueError.__init__"))) (hk : PySem.W.keepIn X.K (.ref C) = true)
    (hm : X.mg x = some (.ref C)) (hg : Gl X x) (hdb : (x == ("__debug__" : Str)) = false) : PE X (.Call (.Name x p) [] [] pos) (fun _ H Q => ∀ e, H e = none → Q (.ref e) (upd H e (exo e C none))) := by
  refine ⟨fun pins s σ H Q I h => ?_⟩
  refine wpAny_Call_Name_kw (ld_glob I hg hm ?_ hdb)
  refine PySem.W.callWith_K0 I.kIn hk ?_
  obtain ⟨nm, N', qn, bs, bm, hdct, sn, sub, ab, col, dd, k0, k1, k2, k3, k5, hC, hT⟩ := PySem.W.excInit_of I.kIn q
  have hi' : PySem.W.Looks (model X.prog X.w) s.heap (typeLookup (.ref C) "__init__") (some (.builtin "ValueError.__init__")) := PySem.W.looks_findIn I.kIn hi
  have fr : ∀ n, s.heap.get? (s.heap.objs.size + n) = none := fun n => Heap.get?_none_of_le (Nat.le_add_right _ _)
  have gone : ∀ a, s.heap.get? a = none → H a = none := fun a ha => I.hok.gone ha
  obtain ⟨hh, g, d, tk, os⟩ := s
  refine PySem.W.call_B F.excBase_ValueError hT hC hi' (by rw [sizeLine_eq]; exact (by decide : 0 ≤ 16777216)) fun h' k he ht => ?_
  have J := I.laidN (h' := h') (a := hh.objs.size + 1) (o := exo (hh.objs.size + 1) C none) (t' := tk) k (fr 1) (gone _ (fr 1)) (exo_ok he)
  exact ⟨.ref (hh.objs.size + 1), _, J, rfl, h _ (gone _ (fr 1))⟩
theorem pe_fldX {e : Expr} {te : TE} {pos : Pos} (he : PE X e te) (hb : attributeBase e "value" X.env (eval e X.env) = eval e X.env) :
    PE X (.Attribute e "value" pos) (fun σ H Q => te σ H fun x H1 => ∃ (a C d fI : Addr) (v : V), x = .ref a ∧ H1 a = some (exo a C (some d)) ∧ H1 d = some (.xd [(("value" : Str), v)]) ∧ PySem.XSup.InvTxt X.prog X.K X.mg C fI ∧ Q v H1) := by
  refine ⟨fun pins s σ H Q I h => ?_⟩
  refine attr_of hb (thn (he.run pins s σ H _ I h) fun u s1 hh => ?_)
  obtain ⟨x, H1, I1, rx, a, C, d, fI, v, ex, ha, hd, T, q⟩ := hh
  subst ex
  obtain rfl : u = Value.ref a := rx
  obtain ⟨t1, ho⟩ := exo_at I1.hok ha
  obtain ⟨mA, hns, hr⟩ := (show ObjOk X.prog X.w H1 s1.heap d (.xd [(("value" : Str), v)]) from I1.hok d _ hd)
  obtain ⟨od, hod, hl⟩ := lookIn_ns hns
  have l : List.lookup ("value" : Str) [(("value" : Str), v)] = some v := by simp [List.lookup]
  obtain ⟨u, hu, ru⟩ := RelO.some_of (v := v) (o := mA "value") (by rw [← l]; exact hr "value")
  have J : PySem.W.InstAt s1.heap a _ C (some od) := ⟨ho, rfl, rfl, hod⟩
  exact HandSPX.exc_get I1.kIn J T.ga T.gg T.exC (PySem.W.findObj_own T.hdC T.noN rfl (by rw [hl, hu])) (handed_of ru) ⟨v, H1, I1.tok _, ru, q⟩
end
end L2
namespace PD
open PySem PySem.Spec PyProof.Rows L2
structure ExN (fr : PySem.W.Frag) (mg : Str → Option Value) (K : Kw) (x : Str) : Prop where
  ex : ∃ C, PySem.W.excInitIn fr C [.type "ValueError", .type "Exception", .type "BaseException", .type "object"] "ValueError.__new__" = true ∧ PySem.W.findIn fr (.ref C) "__init__" = some (some (.builtin "ValueError.__init__")) ∧ PySem.W.keepIn fr (.ref C) = true ∧ mg x = some (.ref C) ∧ K.ca x = some C
def eMkn (c : Str) : Ef := fun _ st => some (.v (.ref st.length), st ++ [.exn c])
def fFld (cs : List Str) (v : Vl) (st : Store) : Out Vl := match v with
  | .ref n => match st[n]? with
    | some (.exc c m) => if cs.contains c then match st[m]? with
        | some (.xdc u) => okv u st
        | _ => none
      else none
    | _ => none
  | _ => none
def eFld (cs : List Str) (f : Ef) : Ef := una f (fFld cs)
section
variable {X : Cx} {p : Par}
theorem snd_mkn {x : Str} {q pos : Pos} (T : ExN X.K X.mg p.K x) (hg : Gl X x) (hdb : (x == ("__debug__" : Str)) = false) : Snd X p (.Call (.Name x q) [] [] pos) (eMkn x) := by
  obtain ⟨C, t1, t2, t3, hm, hc⟩ := T.ex
  exact pe_mono (pe_mkn t1 t2 t3 hm hg hdb) fun σ H Q t => by
    obtain ⟨as, env, st, sr, se, rr, st', e, post⟩ := t
    intro e1 g1
    unfold eMkn at e
    cases e
    have s1 : SO p.K (as ++ [e1]) (L2.upd H e1 (exo e1 C none)) e1 (.exn x) := ⟨C, hc, upd_same⟩
    obtain ⟨sr2, ax2, gr2⟩ := sr.push g1 s1
    refine post _ _ ax2 gr2 sr2 (.ref e1) ?_
    simp only [SV]
    refine ⟨e1, rfl, ?_⟩
    rw [← sr.len]
    simp
theorem snd_fld {cs : List Str} {e : Expr} {f : Ef} {pos : Pos} (hT : ∀ c ∈ cs, ExV X.prog X.K X.mg p.K c) (he : Snd X p e f) (hb : attributeBase e "value" X.env (eval e X.env) = eval e X.env) : Snd X p (.Attribute e "value" pos) (eFld cs f) :=
  pe_mono (pe_fldX he hb) fun σ H Q t => by
    obtain ⟨as, env, st, sr, se, rr, st', e, post⟩ := t
    refine tG_step sr se e post fun v st1 as1 H1 x e1 ax gr sr1 sv k1 post1 => ?_
    unfold fFld at k1
    split at k1
    · rename_i n
      split at k1
      · rename_i c m q1
        split at k1
        · rename_i hin
          split at k1
          · rename_i u q2
            cases k1
            simp only [SV] at sv
            obtain ⟨a, rfl, ha⟩ := sv
            obtain ⟨a', e2, C, d, ec, ed, e3⟩ := sr1.ob n _ q1
            rw [ha] at e2; cases e2
            obtain ⟨d', e4, y, e5, sy⟩ := sr1.ob m _ q2
            rw [ed] at e4; cases e4
            obtain ⟨C', fI, T, hm, hc⟩ := (hT c (by simpa using hin)).ex
            rw [ec] at hc; cases hc
            exact ⟨a, C, d, fI, y, rfl, e3, e5, T, post1.v sr1 sy⟩
          · cases k1
        · cases k1
      · cases k1
    · cases k1
theorem Cc.isiX {cn : Cn} {v : V} {u : Value} {ct : Ct} {a e : Expr} {f : Ef} {q pos : Pos} (c : Cc X p) (hct : CtOk p.K ct) (hg : Gl X "isinstance") (hm : X.mg "isinstance" = none) (he : Snd X p a f) (hc : PE X e (tC v) ∧ CnV p.K cn v u) 
    (h1 : starEach [a, e] X.env = (false, eval a X.env) :: starEach [e] X.env) (h2 : starEach [e] X.env = [(false, eval e X.env)]) (hpl : (backTo pos (starEach [e] X.env)).any (·.1) = false) :
    Snd X p (.Call (.Name "isinstance" q) [a, e] [] pos) (eIsi ct f [cn]) := snd_isi c.hK hct hg hm he hc.1 hc.2 h1 h2 hpl
end
def ctX (bs : List Str) : Ct := fun t c => match t, c with
  | .ty a, .ty b => kitB a b
  | .own a, .own b => if bs.contains a && bs.contains b then some (a == b || b == "KindError") else none
  | .own a, .ty b => if bs.contains a && b == "ValueError" then some true else none
  | .ty _, .own _ => none
theorem exkB_ok {K : PySem.W.Frag} {C : Addr} (h : exkB K C = true) : ExK K C := by
  unfold exkB at h
  simp only [Bool.and_eq_true, decide_eq_true_eq] at h
  obtain ⟨h1, h2, h3, h4, h5, h6, h7, h8⟩ := h
  exact ⟨h1, h2, h3, h4, h5, h6, h7, h8⟩
def caX (K : PySem.W.Frag) (bs : List Str) : Str → Option Addr := fun x => if bs.contains x then some (He.ga K x) else none
theorem ctX_ok {K : Kw} {bs : List Str} (hca : K.ca = caX K.fr bs) (h : ctxB K.fr bs = true) : CtOk K (ctX bs) := by
  unfold ctxB at h
  simp only [Bool.and_eq_true, List.all_eq_true, decide_eq_true_eq] at h
  obtain ⟨h1, h2, h3⟩ := h
  have caE : ∀ a C, K.ca a = some C → a ∈ bs ∧ C = He.ga K.fr a := fun a C e => by
    rw [hca] at e
    unfold caX at e
    split at e
    · rename_i q
      cases e
      exact ⟨by simpa using q, rfl⟩
    · cases e
  refine ⟨fun c d b e => ⟨fun C hC => ?_⟩, fun t c b e vt ut v u k1 k2 => ?_⟩
  · obtain ⟨m, rfl⟩ := caE _ _ hC
    exact exkB_ok (h1 _ m)
  · cases t with
    | ty a =>
      cases c with
      | ty d =>
        obtain ⟨rfl, rfl⟩ := k1
        obtain ⟨rfl, rfl⟩ := k2
        exact kit_ty e
      | own d => cases e
    | own a =>
      obtain ⟨C, hC, rfl, rfl⟩ := k1
      obtain ⟨m, rfl⟩ := caE _ _ hC
      cases c with
      | ty d =>
        obtain ⟨rfl, rfl⟩ := k2
        have e : (if bs.contains a && d == "ValueError" then some true else none) = some b := e
        split at e
        · rename_i q
          cases e
          have : d = "ValueError" := by
            simp only [Bool.and_eq_true, beq_iff_eq] at q
            exact q.2
          rw [this]
          exact h2 a m
        · cases e
      | own d =>
        obtain ⟨D, hD, rfl, rfl⟩ := k2
        obtain ⟨m2, rfl⟩ := caE _ _ hD
        have e : (if bs.contains a && bs.contains d then some (a == d || d == "KindError") else none) = some b := e
        split at e
        · cases e
          exact h3 a m d m2
        · cases e
end PD
set_option maxHeartbeats 4000000
namespace PD
open PySem PySem.Spec PyProof.Rows L2
def keyD1 : Vl → Option PyData
  | .int i => some (.int i)
  | .str x => some (.str x)
  | _ => none
def rdR : Nat → Store → Vl → Option PyData
  | 0, _, _ => none
  | _ + 1, _, .non => some .none
  | _ + 1, _, .bl b => some (.bool b)
  | _ + 1, _, .int i => some (.int i)
  | _ + 1, _, .str x => some (.str x)
  | n + 1, st, .tup vs => (omap (rdR n st) vs).map .tuple
  | n + 1, st, .ref k => match st[k]? with
    | some (.lst vs) => (omap (rdR n st) vs).map .list
    | some (.dic ks vs) => match omap keyD1 ks, omap (rdR n st) vs with
      | some ds, some es => some (.dict (ds.zip es))
      | _, _ => none
    | _ => none
  | _ + 1, _, _ => none
def deepR : Nat := 8
def fRepr (v : Vl) (st : Store) : Out Vl := match rdR deepR st v with
  | some d => if d.showable = true ∧ d.shown.length ≤ 16777216 then okv (.str d.shown) st else none
  | none => none
def eRepr (f : Ef) : Ef := una f fRepr
theorem depAll {n : Nat} : ∀ {ds : List PyData}, (∀ d ∈ ds, d.depth ≤ n) → PyData.depthAll ds ≤ n
  | [], _ => by simp [PyData.depthAll]
  | d :: ds, h => by
    simp only [PyData.depthAll]
    have h1 := h d (List.mem_cons_self ..)
    have h2 := depAll (n := n) (ds := ds) fun x hx => h x (List.mem_cons_of_mem _ hx)
    omega
theorem omap_all {α β : Type} {f : α → Option β} {P : β → Prop} (h : ∀ a b, f a = some b → P b) : ∀ {as : List α} {bs : List β}, omap f as = some bs → ∀ b ∈ bs, P b
  | [], bs, e, b, hb => by cases e; cases hb
  | a :: as, bs, e, b, hb => by
    unfold omap at e
    split at e
    · rename_i b0 bs0 q1 q2
      cases e
      rcases List.mem_cons.mp hb with rfl | hb
      · exact h a _ q1
      · exact omap_all h q2 b hb
    · cases e
theorem keyD1_dep {k : Vl} {d : PyData} (e : keyD1 k = some d) : d.depth = 0 := by
  unfold keyD1 at e
  split at e
  · cases e; simp [PyData.depth]
  · cases e; simp [PyData.depth]
  · cases e
theorem depKv {n : Nat} : ∀ {ks es : List PyData}, (∀ d ∈ ks, d.depth ≤ n) → (∀ d ∈ es, d.depth ≤ n) → PyData.depthKv (ks.zip es) ≤ n
  | [], es, _, _ => by simp [PyData.depthKv]
  | k :: ks, [], _, _ => by simp [PyData.depthKv]
  | k :: ks, e :: es, h1, h2 => by
    simp only [List.zip_cons_cons, PyData.depthKv]
    have g1 := h1 k (List.mem_cons_self ..)
    have g2 := h2 e (List.mem_cons_self ..)
    have g3 := depKv (n := n) (ks := ks) (es := es) (fun x hx => h1 x (List.mem_cons_of_mem _ hx)) fun x hx => h2 x (List.mem_cons_of_mem _ hx)
    omega
theorem rdR_dep {st : Store} : ∀ (n : Nat) (v : Vl) (d : PyData), rdR n st v = some d → d.depth ≤ n
  | 0, v, d, e => by simp [rdR] at e
  | n + 1, v, d, e => by
    have ih := rdR_dep (st := st) n
    cases v with
    | non => simp only [rdR, Option.some.injEq] at e; subst e; simp [PyData.depth]
    | bl b => simp only [rdR, Option.some.injEq] at e; subst e; simp [PyData.depth]
    | int i => simp only [rdR, Option.some.injEq] at e; subst e; simp [PyData.depth]
    | str z => simp only [rdR, Option.some.injEq] at e; subst e; simp [PyData.depth]
    | tup vs =>
      simp only [rdR, Option.map_eq_some_iff] at e
      obtain ⟨ds, e1, rfl⟩ := e
      have := depAll (omap_all ih e1)
      simp only [PyData.depth]; omega
    | ref k =>
      simp only [rdR] at e
      split at e
      · simp only [Option.map_eq_some_iff] at e
        obtain ⟨ds, e1, rfl⟩ := e
        have := depAll (omap_all ih e1)
        simp only [PyData.depth]; omega
      · split at e
        · rename_i ds es q1 q2
          cases e
          have := depKv (n := n) (omap_all (P := fun d : PyData => d.depth ≤ n) (fun a b e => by rw [keyD1_dep e]; omega) q1) (omap_all ih q2)
          simp only [PyData.depth]; omega
        · cases e
      · cases e
    | klst vs => simp [rdR] at e
    | rng lo hi => simp [rdR] at e
    | fn c => simp [rdR] at e
theorem sys_ne {X : Cx} {pins : List (Addr × Obj)} {σ : L2.St} {H : Hp} {s : Shared} (I : Inv X pins σ H s) (hS : ∃ o, X.K.lookup sysModules = some o) {a : Addr} (h : H a ≠ none) : a ≠ sysModules := by
  rintro rfl
  obtain ⟨o, ho⟩ := hS
  have hb := I.mod.kin _ _ ho
  obtain ⟨h1, h2⟩ := I.ok.bs _ _ hb
  exact h (I.base.free _ _ h1 h2 (I.ok.noex _ _ hb))
def encK : Key → PyData
  | .inl i => .int i
  | .inr x => .str x
theorem encK_is {P : Program} {w : World} {h : Heap} (k : Key) (key : Value) (e : (mixKind P w).is k key = true) : Reads h key (encK k) [] := by
  rcases keyIs_shape e with ⟨i, t, rfl, rfl⟩ | ⟨x, t, rfl, rfl⟩
  · exact .int i t
  · exact .str x t
theorem keyD1_k (k : Key) : keyD1 (kVl k) = some (encK k) := by cases k <;> rfl
section
variable {X : Cx} {p : Par} {pins : List (Addr × Obj)} {σ : L2.St} {as : List Addr} {H : Hp} {s : Shared} {st : Store}
theorem rdRs {n : Nat} (ih : ∀ (v : Vl) (x : V) (u : Value) (d : PyData), SV p.K as H v x → RelV x u → rdR n st v = some d → ∃ bs, Reads s.heap u d bs ∧ sysModules ∉ bs) : ∀ {vs : List Vl} {xs : List V} {us : List Value} {ds : List PyData}, SVs p.K as H vs xs → Vals xs us → omap (rdR n st) vs = some ds → ∃ bs, ReadsAll s.heap us ds bs ∧ sysModules ∉ bs
  | [], xs, us, ds, h, r, e => by
    simp only [SVs] at h
    subst h
    cases r
    cases e
    exact ⟨[], .nil, fun z => by cases z⟩
  | v :: vs, xs, us, ds, h, r, e => by
    simp only [SVs] at h
    obtain ⟨x, xs, rfl, s1, s2⟩ := h
    cases r with
    | cons rx rr =>
      unfold omap at e
      split at e
      · rename_i d ds q1 q2
        cases e
        obtain ⟨b1, g1, n1⟩ := ih v x _ d s1 rx q1
        obtain ⟨b2, g2, n2⟩ := rdRs ih s2 rr q2
        exact ⟨b1 ++ b2, .cons g1 g2, fun z => (List.mem_append.mp z).elim n1 n2⟩
      · cases e
theorem rdR_pairs {n : Nat} (ih : ∀ (v : Vl) (x : V) (u : Value) (d : PyData), SV p.K as H v x → RelV x u → rdR n st v = some d → ∃ bs, Reads s.heap u d bs ∧ sysModules ∉ bs) : ∀ {kvs : List (Key × V)} {us : List (Key × Value)} {vs : List Vl} {ds es : List PyData}, KV kvs us → SVs p.K as H vs (kvs.map Prod.snd) → omap keyD1 (kvs.map fun q => kVl q.1) = some ds → omap (rdR n st) vs = some es →
    ∃ bs, PyProof.V.PairsRead s.heap encK us (ds.zip es) bs ∧ sysModules ∉ bs
  | [], us, vs, ds, es, r, h, e1, e2 => by
    cases r
    cases e1
    exact ⟨[], .nil, fun z => by cases z⟩
  | kv :: kvs, us, vs, ds, es, r, h, e1, e2 => by
    cases r with
    | @cons _ q _ us rq rr =>
      cases vs with
      | nil => simp [SVs] at h
      | cons v vs =>
        simp only [SVs, List.map_cons] at h
        obtain ⟨y, l, e3, s1, s2⟩ := h
        cases e3
        rw [List.map_cons] at e1
        unfold omap at e1 e2
        split at e1
        · rename_i d ds' q1 q2
          cases e1
          split at e2
          · rename_i f es' q3 q4
            cases e2
            rw [keyD1_k] at q1
            cases q1
            obtain ⟨k, w⟩ := q
            obtain ⟨k0, w0⟩ := kv
            obtain ⟨e5, e6⟩ := rq
            dsimp only at e5 e6
            subst e5
            obtain ⟨b1, g1, n1⟩ := ih v w0 w f s1 e6 q3
            obtain ⟨b2, g2, n2⟩ := rdR_pairs ih rr s2 q2 q4
            exact ⟨b1 ++ b2, .cons g1 g2, fun z => (List.mem_append.mp z).elim n1 n2⟩
          · cases e2
        · cases e1
theorem rdR_reads (hK : p.K.fr = X.K) (hw : p.K.w = X.w) (I : Inv X pins σ H s) (hS : ∃ o, X.K.lookup sysModules = some o) (sr : SR p.K as H st) : ∀ (n : Nat) (v : Vl) (x : V) (u : Value) (d : PyData), SV p.K as H v x → RelV x u → rdR n st v = some d → ∃ bs, Reads s.heap u d bs ∧ sysModules ∉ bs
  | 0, v, x, u, d, h, r, e => by simp [rdR] at e
  | n + 1, v, x, u, d, h, r, e => by
    have ih := rdR_reads hK hw I hS sr n
    cases v with
    | non =>
      simp only [rdR, Option.some.injEq] at e; simp only [SV] at h; subst e h
      cases (show u = Value.none from r)
      exact ⟨_, .none, fun z => by cases z⟩
    | bl b =>
      simp only [rdR, Option.some.injEq] at e; simp only [SV] at h; subst e h
      cases (show u = Value.bool b from r)
      exact ⟨_, .bool b, fun z => by cases z⟩
    | int i =>
      simp only [rdR, Option.some.injEq] at e; simp only [SV] at h; subst e h
      obtain ⟨t, q⟩ := (show ∃ t, u = Value.int i t from r)
      subst q
      exact ⟨_, .int i t, fun z => by cases z⟩
    | str y =>
      simp only [rdR, Option.some.injEq] at e; simp only [SV] at h; subst e h
      obtain ⟨t, q⟩ := (show ∃ t, u = Value.str y t from r)
      subst q
      exact ⟨_, .str y t, fun z => by cases z⟩
    | tup vs =>
      simp only [rdR, Option.map_eq_some_iff] at e
      obtain ⟨ds, e1, rfl⟩ := e
      simp only [SV] at h
      obtain ⟨a, xs, rfl, ht, hs⟩ := h
      cases (show u = Value.ref a from r)
      rcases ht with ht | ⟨o, its, m, k1, k2, k3, _, k5⟩
      · obtain ⟨_, its, rv, o, h1, h2, m, h3⟩ := (show ObjOk X.prog X.w H s.heap a (.tup xs) from I.hok a _ ht)
        obtain ⟨bs, g, nb⟩ := rdRs ih hs rv e1
        exact ⟨bs, .tuple h1 h2 h3 g, nb⟩
      · obtain ⟨bs, g, nb⟩ := rdRs ih hs k5 e1
        rw [hK] at k1
        exact ⟨bs, .tuple (I.kIn _ _ k1) k2 k3 g, nb⟩
    | ref k =>
      simp only [SV] at h
      obtain ⟨a, rfl, ha⟩ := h
      cases (show u = Value.ref a from r)
      simp only [rdR] at e
      split at e
      · rename_i vs q
        simp only [Option.map_eq_some_iff] at e
        obtain ⟨ds, e1, rfl⟩ := e
        obtain ⟨a', e2, xs, e3, hs⟩ := sr.ob k _ q
        rw [ha] at e2; cases e2
        obtain ⟨_, its, m, rv, h1⟩ := (show ObjOk X.prog X.w H s.heap a (.lst xs) from I.hok a _ e3)
        obtain ⟨bs, g, nb⟩ := rdRs ih hs rv e1
        refine ⟨a :: bs, .list h1 rfl rfl g, fun z => ?_⟩
        rcases List.mem_cons.mp z with z | z
        · exact sys_ne I hS (by rw [e3]; exact Option.some_ne_none _) z.symm
        · exact nb z
      · rename_i ks vs q
        split at e
        · rename_i ds es q1 q2
          cases e
          obtain ⟨a', e2, w0, e3, hd⟩ := sr.ob k _ q
          rw [ha] at e2; cases e2
          rcases hd with ⟨kvs, rfl, rfl, hs⟩ | ⟨hn, xs, ys, rfl, hs, _⟩
          · obtain ⟨_, hsm, us, rel, dd⟩ := (show ObjOk X.prog X.w H s.heap a (.dK kvs) from I.hok a _ e3)
            obtain ⟨bs, g, nb⟩ := rdR_pairs ih rel hs q1 q2
            refine ⟨a :: bs, PyProof.V.reads_dictOf (fun k key e => encK_is k key e) dd g, fun z => ?_⟩
            rcases List.mem_cons.mp z with z | z
            · exact sys_ne I hS (by rw [e3]; exact Option.some_ne_none _) z.symm
            · exact nb z
          · exfalso
            cases ks with
            | nil => exact hn rfl
            | cons k0 ks =>
              cases xs with
              | nil => simp [SVs] at hs
              | cons y ys =>
                simp only [SVs, List.map_cons] at hs
                obtain ⟨z, l, e5, s1, _⟩ := hs
                cases e5
                unfold omap at q1
                split at q1
                · rename_i d0 _ q5 _
                  cases k0 <;> simp [keyD1] at q5 <;> simp [SV] at s1
                · cases q1
        · cases e
      · cases e
    | klst vs => simp [rdR] at e
    | rng lo hi => simp [rdR] at e
    | fn c => simp [rdR] at e
end
end PD
set_option maxHeartbeats 4000000
namespace PD
open PySem PySem.Spec PyProof.Rows L2
def rRepr (K : Kw) : List V → Hp → VK → Prop := fun xs H Q => ∃ (as : List Addr) (st : Store) (v : Vl) (x : V) (d : PyData), xs = [x] ∧ SR K as H st ∧ SV K as H v x ∧ rdR deepR st v = some d ∧ d.showable = true ∧ d.shown.length ≤ 16777216 ∧ Q (.str d.shown) H
section
variable {X : Cx} {p : Par}
theorem call_reprD (c : Cc X p) (hS : ∃ o, X.K.lookup sysModules = some o) : CallR X (.builtin "repr") (rRepr p.K) := by
  intro pins s σ H xs us Q I r h
  obtain ⟨as, st, v, x, d, rfl, sr, sv, e, hs, hl, q⟩ := h
  have hz : d.shown.length ≤ sizeLine := by rw [sizeLine_eq]; exact hl
  have hdep := rdR_dep _ _ _ e
  have hd8 : d.depth ≤ 8 := hdep
  have hun := c.hr.un
  cases r with
  | cons rx rr =>
    cases rr
    rename_i u
    obtain ⟨bs, g, nb⟩ := rdR_reads c.hK c.hw I hS sr _ _ _ _ _ sv rx e
    have fin : ∀ tk t', EP X pins σ Q (.str d.shown tk) { s with toks := t' } := fun tk t' => ⟨.str d.shown, H, I.tok _, ⟨_, rfl⟩, q⟩
    cases g with
    | none => exact P.repr_of_none (by simpa [PyData.shown] using fin s.toks (s.toks + 1))
    | bool b => exact P.repr_of_bool (by simpa [PyData.shown] using fin s.toks (s.toks + 1))
    | int i t => exact P.repr_of_int (by simpa [PyData.showable] using hs) (by simpa [PyData.shown] using fin s.toks (s.toks + 1))
    | str y t => exact P.repr_of_str (by simpa [PyData.shown] using fin s.toks (s.toks + 1)) (by simpa [PyData.shown] using hz)
    | list h1 h2 h3 h4 => exact repr_of_reads' (.list h1 h2 h3 h4) hs (fun _ => nb) c.gd (by omega) (fun _ _ z => z) (fun h' u tk hk => ⟨.str _, H, I.un (t' := tk) (Un.kept hk) (I.hok.kept hk), ⟨_, rfl⟩, q⟩) hz
    | tuple h1 h2 h3 h4 => exact repr_of_reads' (.tuple h1 h2 h3 h4) hs (fun _ => nb) c.gd (by omega) (fun _ _ z => z) (fun h' u tk hk => ⟨.str _, H, I.un (t' := tk) (Un.kept hk) (I.hok.kept hk), ⟨_, rfl⟩, q⟩) hz
    | dict h1 h2 h3 h4 h5 => exact repr_of_reads' (.dict h1 h2 h3 h4 h5) hs (fun _ => nb) c.gd (by omega) (fun _ _ z => z) (fun h' u tk hk => ⟨.str _, H, I.un (t' := tk) (Un.kept hk) (I.hok.kept hk), ⟨_, rfl⟩, q⟩) hz
theorem Cc.repr {a : Expr} {f : Ef} {q pos : Pos} (c : Cc X p) (hS : ∃ o, X.K.lookup sysModules = some o) (hg : Gl X "repr") (hm : X.mg "repr" = none) (ha : Snd X p a f) (h1 : starEach [a] X.env = (false, eval a X.env) :: starEach [] X.env) (hpl : (backTo pos (starEach [] X.env)).any (·.1) = false) :
    Snd X p (.Call (.Name "repr" q) [a] [] pos) (eRepr f) :=
  pe_mono (pe_callB (call_reprD c hS) hg hm (by decide +kernel) (pa_cons ha pa_nil h1) (by decide) (by decide) h1 hpl) fun σ H Q t => by
    obtain ⟨as, env, st, sr, se, rr, st', e, post⟩ := t
    refine tG_step sr se e post fun v st1 as1 H1 x e1 ax gr sr1 sv k1 post1 => ?_
    unfold fRepr at k1
    split at k1
    · rename_i d hd
      split at k1
      · rename_i hh
        cases k1
        exact ⟨as1, _, v, x, d, rfl, sr1, sv, hd, hh.1, hh.2, post1.v sr1 (by simp only [SV])⟩
      · cases k1
    · cases k1
variable {a b e : Expr} {es : List Expr} {f g : Ef} {fs : Af} {pos q cpos apos : Pos}
def OwnC (mg : Str → Option Value) (K : Kw) (x : Str) : Prop := ∃ C, mg x = some (.ref C) ∧ K.ca x = some C
theorem Cc.isiO {x : Str} {ct : Ct} {xp : Pos} (c : Cc X p) (hct : CtOk p.K ct) (hg : Gl X "isinstance") (hm : X.mg "isinstance" = none) (he : Snd X p a f) (T : OwnC X.mg p.K x) (hx : Gl X x) (hdb : (x == ("__debug__" : Str)) = false)
    (h1 : starEach [a, .Name x xp] X.env = (false, eval a X.env) :: starEach [.Name x xp] X.env) (h2 : starEach [.Name x xp] X.env = [(false, eval (.Name x xp) X.env)]) (hpl : (backTo pos (starEach [.Name x xp] X.env)).any (·.1) = false) :
    Snd X p (.Call (.Name "isinstance" q) [a, .Name x xp] [] pos) (eIsi ct f [.own x]) := by
  obtain ⟨C, hm2, hca⟩ := T
  exact c.isiX hct hg hm he (isi_own hx hm2 hca hdb) h1 h2 hpl
theorem Cc.join {o : Expr} (c : Cc X p) (ho : Snd X p o f) (ha : SndA X p (e :: es) fs) (hbase : attributeBase o "join" X.env (eval o X.env) = eval o X.env)
    (hfew : ((backTo cpos (starEach (e :: es) X.env)).all (fun x => !x.1) && (backToKw cpos (keywordEach [] X.env)).all (fun x => x.1.isSome)
      && decide ((e :: es).length + ([] : List Keyword).length + (if ([] : List Keyword).isEmpty then 0 else 1) < 30)) = true)
    (hline : (apos.endLine == cpos.line) = true) (hst : starEach (e :: es) X.env = (false, eval e X.env) :: starEach es X.env) (hplain : (backTo cpos (starEach es X.env)).any (·.1) = false) :
    Snd X p (.Call (.Attribute o "join" apos) (e :: es) [] cpos) (eM isStr f fs mJoin) :=
  snd_bm c.hK PySem.F.plainAttrs_str PySem.F.slot_str_join PySem.F.type_str_join mt_join (s_join c.hK) chk_Str ho ha hbase hfew hline hst hplain
end
theorem blkS_mk {X : Cx} {p : Par} {tg : Expr} {ifs : List Expr} {scope : Scope} (own : List (Str × Nat)) (sl : List Nat) {g : Gf} {tt : Tf} (calm : X.calm = true) (nd : X.N.Nodup) (blk : BlkOk X.N X.env.scope scope own) (sub : ∀ j, j ∈ sl → j ∈ own.map (·.2))
    (h1 : ∀ (s : Shared) (H : Hp) (C : Addr) (cl : List (Str × Addr)) (fp : List Addr), SndG (X.blk s H scope (compEnvC scope cl C X.env) fp) p.n tg sl g)
    (h2 : ∀ (s : Shared) (H : Hp) (C : Addr) (cl : List (Str × Addr)) (fp : List Addr), SndTs (X.blk s H scope (compEnvC scope cl C X.env) fp) p.n ifs tt) : BlkS X p tg ifs scope own sl g tt := ⟨calm, nd, blk, sub, h1, h2⟩
end PD
set_option maxHeartbeats 4000000
namespace PD
open PySem PySem.Spec PyProof.Rows L2
open PySem.XSup
theorem clsB_ok {K : PySem.W.Frag} {C : Addr} (h : clsB K C = true) : ∃ nm q N bs bm sn sub ab col dd k0 k1 k2 k3 k5, K.lookup C = some (excClassObj nm q C N bs bm true sn sub ab col dd k0 k1 k2 k3 k5 "ValueError.__new__") ∧ HandSPX.refsVE bm = true := by
  unfold clsB at h
  split at h
  · rename_i dd cd sl ho
    split at h
    · rename_i C' bm k0 k1 k2 k3 n k5 hm hs
      simp only [Bool.and_eq_true, decide_eq_true_eq, Bool.not_eq_true'] at h
      obtain ⟨rfl, rfl, hd, hdel, hv⟩ := h
      obtain ⟨nm, bs, mro, ns, qn, hdc, sn, sub, ab, col, del⟩ := cd
      dsimp only at hm hdel hd
      subst hm hdel hd
      have hsl : sl = #[k0, k1, k2, k3, some (.builtin "ValueError.__new__"), k5] := by
        obtain ⟨l⟩ := sl
        simp only at hs
        rw [hs]
      subst hsl
      exact ⟨nm, qn, ns, bs, bm, sn, sub, ab, col, dd, k0, k1, k2, k3, k5, ho, hv⟩
    · cases h
  · cases h
theorem argsB_ok {a : Arguments} {p : Pos × Pos × Pos} (h : argsB a = some p) : a = iA p.1 p.2.1 p.2.2 := by
  unfold argsB at h
  split at h
  · split at h
    · rename_i q
      cases h
      obtain ⟨rfl, rfl⟩ := q
      rfl
    · cases h
  · cases h
theorem bodyB_ok {b : FuncBody} (h : bodyB b = true) : ∃ q0 q1 q2 q3 q4 q5 q6 q7 q8, b = .stmts (iB q0 q1 q2 q3 q4 q5 q6 q7 q8) ∧ (q2.endLine == q3.line) = true := by
  unfold bodyB at h
  split at h
  · rename_i s q0 q1 i q2 q3 q4 se q5 v q6 v2 q7 q8
    simp only [Bool.and_eq_true, decide_eq_true_eq] at h
    obtain ⟨rfl, rfl, rfl, rfl, rfl, h⟩ := h
    exact ⟨q0, q1, q2, q3, q4, q5, q6, q7, q8, rfl, h⟩
  · cases h
theorem fnB_ok {P : Program} {K : PySem.W.Frag} {C fI : Addr} (h : fnB P.main.file K C fI = true) : ∃ (qual : Str) (oc : Value) (od : Option Addr) (dT : Addr) (kV doc pm : Value) (an : Option Addr) (cda cc : Addr) (ct : Value) (osl : Array (Option Value)) (p1 p2 p3 q0 q1 q2 q3 q4 q5 q6 q7 q8 : Pos),
    K.lookup fI = some ⟨oc, od, .func (PySem.W.ksFn "__init__" qual (iA p1 p2 p3) (iB q0 q1 q2 q3 q4 q5 q6 q7 q8) iS (.ref dT) kV doc pm an (.ref cda) ct cc), osl⟩ ∧ PySem.W.codeIn K (.ref cda) qual = true ∧
    (∃ ccl cdd vs ccs file tf, K.lookup cda = some ⟨ccl, cdd, .fields vs, ccs⟩ ∧ vs[2]? = some (.str file tf) ∧ ((P.main.file : Str) == file) = true) ∧
    (q2.endLine == q3.line) = true ∧ (∃ oT n, K.lookup dT = some oT ∧ oT.data = .seq #[.none] n) ∧ (∃ cl cld csl, K.lookup cc = some ⟨cl, cld, .cell (some (.ref C)), csl⟩) := by
  unfold fnB at h
  split at h
  · rename_i oc od nm q ar bd sc gl cn cc dT kV doc pm an cda ct bl osl ho
    simp only [Bool.and_eq_true, decide_eq_true_eq] at h
    obtain ⟨rfl, h2, h3, rfl, rfl, rfl, rfl, h8, h9, h10, h11⟩ := h
    obtain ⟨pp, hp⟩ := Option.isSome_iff_exists.mp h2
    have ea := argsB_ok hp
    obtain ⟨q0, q1, q2, q3, q4, q5, q6, q7, q8, eb, hl⟩ := bodyB_ok h3
    subst ea eb
    refine ⟨q, oc, od, dT, kV, doc, pm, an, cda, cc, ct, osl, pp.1, pp.2.1, pp.2.2, q0, q1, q2, q3, q4, q5, q6, q7, q8, ho, h8, ?_, hl, ?_, ?_⟩
    · split at h9
      · rename_i a1 a2 vs a4 e1
        split at h9
        · rename_i f tf e2
          exact ⟨_, _, vs, _, f, tf, e1, e2, h9⟩
        · cases h9
      · cases h9
    · split at h10
      · rename_i a1 a2 its n a4 e1
        split at h10
        · rename_i e2
          have : its = #[.none] := by
            obtain ⟨l⟩ := its
            simp only at e2
            rw [e2]
          exact ⟨_, n, e1, by rw [this]⟩
        · cases h10
      · cases h10
    · split at h11
      · rename_i a1 a2 D a4 e1
        simp only [decide_eq_true_eq] at h11
        subst h11
        exact ⟨_, _, _, e1⟩
      · cases h11
  · cases h
end PD
set_option maxHeartbeats 4000000
namespace PD
open PySem PySem.Spec PyProof.Rows L2
open PySem.XSup
theorem invB_ok {P : Program} {K : Kw} {h : Heap} {mg : Str → Option Value} {x : Str} (X : K.fr.In h) (G : h.Ns mainGlobals mg) (hsup : PySem.W.nsIn K.fr mainGlobals "super" = some none) (third : PySem.W.nsIn K.fr cStatics "thirdparty.any" = some none) (top : (P.main.scope.names.lookup ("super" : Str)).isSome = false)
    (hca : K.ca x = some (He.ga K.fr x)) (e : invB P K.fr x = true) : ExV P K.fr mg K x := by
  unfold invB He.eqO at e
  simp only [Bool.and_eq_true, decide_eq_true_eq] at e
  obtain ⟨e1, e2, e3, e4, e5, e6, e7, e8, e9, e10, e11, e12, e13, e14, e15, e16⟩ := e
  exact ⟨_, _, ⟨clsB_ok e2, e3, e4, e5, e6, e7, e8, e9, e10, e11, e12, e13, e14, e15, third, PySem.W.mg_none_of X G hsup, top, fnB_ok e16⟩, PySem.W.mg_of X G e1, hca⟩
theorem exnB_ok {K : Kw} {h : Heap} {mg : Str → Option Value} {x : Str} (X : K.fr.In h) (G : h.Ns mainGlobals mg) (hca : K.ca x = some (He.ga K.fr x)) (e : exnB K.fr x = true) : ExN K.fr mg K x := by
  unfold exnB He.eqO at e
  simp only [Bool.and_eq_true, decide_eq_true_eq] at e
  obtain ⟨e1, e2, e3, e4⟩ := e
  exact ⟨_, e2, e3, e4, PySem.W.mg_of X G e1, hca⟩
structure OthF (P : Program) (vs ns : List Str) (K : Kw) (mg : Str → Option Value) : Prop where
  ev : ∀ x ∈ vs, ExV P K.fr mg K x
  en : ∀ x ∈ ns, ExN K.fr mg K x
  eo : ∀ x ∈ vs ++ ns, OwnC mg K x
  ct : CtOk K (ctX (vs ++ ns))
  sys : ∃ o, K.fr.lookup sysModules = some o
theorem othB_ok {P : Program} {vs ns : List Str} {K : Kw} {h : Heap} {mg : Str → Option Value} (X : K.fr.In h) (G : h.Ns mainGlobals mg) (top : (P.main.scope.names.lookup ("super" : Str)).isSome = false) (hca : K.ca = caX K.fr (vs ++ ns)) (e : othB P vs ns K.fr = true) : OthF P vs ns K mg := by
  unfold othB He.eqO at e
  simp only [Bool.and_eq_true, decide_eq_true_eq, List.all_eq_true] at e
  obtain ⟨e1, e2, e3, e4, e5, e6⟩ := e
  have ca : ∀ x ∈ vs ++ ns, K.ca x = some (He.ga K.fr x) := fun x hx => by
    rw [hca]
    unfold caX
    rw [if_pos (by simpa using hx)]
  have ev : ∀ x ∈ vs, ExV P K.fr mg K x := fun x hx => invB_ok X G e1 e2 top (ca x (List.mem_append_left _ hx)) (e3 x hx)
  have en : ∀ x ∈ ns, ExN K.fr mg K x := fun x hx => exnB_ok X G (ca x (List.mem_append_right _ hx)) (e4 x hx)
  refine ⟨ev, en, fun x hx => ?_, ctX_ok hca e5, Option.isSome_iff_exists.mp e6⟩
  rcases List.mem_append.mp hx with z | z
  · obtain ⟨C, _, _, h1, h2⟩ := (ev x z).ex
    exact ⟨C, h1, h2⟩
  · obtain ⟨C, _, _, _, h1, h2⟩ := (en x z).ex
    exact ⟨C, h1, h2⟩
end PD
set_option maxHeartbeats 0
namespace K01
open PySem PySem.Spec PyProof.Rows L2 PD
structure Fr (mg : Str → Option Value) : Prop where
  ValueError : mg "ValueError" = none
  all : mg "all" = none
  dict : mg "dict" = none
  int : mg "int" = none
  isinstance : mg "isinstance" = none
  len : mg "len" = none
  list : mg "list" = none
  max : mg "max" = none
  min : mg "min" = none
  range : mg "range" = none
  repr : mg "repr" = none
  sum : mg "sum" = none
  tuple : mg "tuple" = none
def exAs : List Str := (["InvalidKind", "InvalidTable", "InvalidKinds", "InvalidMap", "InvalidRow", "InvalidGrouping", "InvalidBlock", "InvalidTriples", "InvalidRule", "InvalidDeed", "InvalidChain", "InvalidArrows", "InvalidLayers", "InvalidComb", "InvalidNumbers", "InvalidWord"] : List Str) ++ (["InvalidFour", "InvalidCount", "InvalidPlaces", "InvalidBonds", "InvalidChange", "InvalidChanges", "InvalidShelf", "InvalidSpot", "InvalidScript", "InvalidText", "InvalidLog", "Unlike", "Unsettled", "Apart", "Refused", "NothingToUndo"] : List Str) ++ (["NothingToRedo", "KindError"] : List Str)
abbrev ctE : Ct := ctX exAs
structure Oth (P : Program) (K : Kw) (mg : Str → Option Value) : Prop where
  ev : ∀ x ∈ exVs, ExV P K.fr mg K x
  en : ∀ x ∈ exNs, ExN K.fr mg K x
  eo : ∀ x ∈ exAs, OwnC mg K x
  ct : CtOk K ctE
  sys : ∃ o, K.fr.lookup sysModules = some o
def N36 : List Str := ["_law_script", "_law_at", "_law_seed"]
theorem sc36 : FnScope N36 ["_law_script", "_law_at"] (defScope (top 36)) := ⟨rfl, rfl, rfl, by decide +kernel, rfl, by decide +kernel, by decide +kernel⟩
def a36 : Sf := (bCons (sAsg (eB (aCons (eSl (eV 0) (oPart (eV 1)) (oPart (bin (eV 1) (eK (.int 1)) fAdd))) aNil) (lstF gSum)) (gN 2)) (bCons (sRet (eLst (aCons (bin (eB (aCons (eB (aCons (bin (eV 2) (bin (eK (.int 10)) (eK (.int 18)) fPow) fSub) (aCons (eK (.int 0)) aNil)) fMax) aNil) fInt) (bin (bin (eK (.int 10)) (eK (.int 60)) fPow) (eK (.int 8)) fPow) fMod) (aCons (bin (eB (aCons (eV 2) aNil) fInt) (eK (.int 2147483629)) fMod) (aCons (eK (.int 0)) (aCons (eV 1) aNil)))))) bNil))
abbrev h36 : Bf := bodyF N36.length a36
theorem s36 {P : Program} {w : World} {K : Kw} {mg : Str → Option Value} {base : Heap} (hw : K.w = w) (G : Fr mg) (Z : Oth P K mg) {f : Addr} {fd : FuncData} (F : FunD K.fr "_law_purse" "_law_purse" (defArgs (top 36)) (defBody (top 36)) (defScope (top 36)) [] [] f fd) (hm : mg "_law_purse" = some (.ref f)) : Kf P w K mg base 2 "_law_purse" 2 h36 := kf_of F sc36 hm (fun _ _ _ _ _ _ us hl => match us, hl with | [_, _], _ => rfl) rfl fun cdv A outer s H E hgd hr => by
  have c : Cc (fcx P w K.fr mg base N36 "_law_purse" (defScope (top 36)) f cdv A outer s H E) (p0 K) := ⟨rfl, hw, rfl, sc36.nd, hr.mono (by decide), hgd⟩
  have EV := Z.ev
  have EN := Z.en
  have EO := Z.eo
  have hct := Z.ct
  have hS := Z.sys
  exact (sndB_cons (sndS_asg (c.sum rfl G.sum (sndA_cons (c.sl (snd_var (i := 0) rfl (by first | exact .inl rfl | exact .inr (.inl rfl) | exact .inr (.inr rfl)) rfl rfl) (sndO_part (snd_var (i := 1) rfl (by first | exact .inl rfl | exact .inr (.inl rfl) | exact .inr (.inr rfl)) rfl rfl)) (sndO_part (c.add (snd_var (i := 1) rfl (by first | exact .inl rfl | exact .inr (.inl rfl) | exact .inr (.inr rfl)) rfl rfl) snd_int))) sndA_nil rfl) rfl rfl) (sndG_name (i := 2) c.nd rfl (by first | exact .inl rfl | exact .inr rfl) (by first | exact .inl rfl | exact .inr rfl)) rfl rfl rfl) (sndB_cons (sndS_ret (snd_lst (sndA_cons (c.mod (c.int rfl G.int (sndA_cons (c.max rfl G.max (sndA_cons (c.sub (snd_var (i := 2) rfl (by first | exact .inl rfl | exact .inr (.inl rfl) | exact .inr (.inr rfl)) rfl rfl) (c.pow snd_int snd_int)) (sndA_cons snd_int sndA_nil rfl) rfl) rfl rfl) sndA_nil rfl) rfl rfl) (c.pow (c.pow snd_int snd_int) snd_int)) (sndA_cons (c.mod (c.int rfl G.int (sndA_cons (snd_var (i := 2) rfl (by first | exact .inl rfl | exact .inr (.inl rfl) | exact .inr (.inr rfl)) rfl rfl) sndA_nil rfl) rfl rfl) snd_int) (sndA_cons snd_int (sndA_cons (snd_var (i := 1) rfl (by first | exact .inl rfl | exact .inr (.inl rfl) | exact .inr (.inr rfl)) rfl rfl) sndA_nil rfl) rfl) rfl) rfl))) sndB_nil))
def N37 : List Str := ["_law_seed", "_law_turn", "_law_at", "_law_mixed_here"]
theorem sc37 : FnScope N37 ["_law_seed", "_law_turn", "_law_at"] (defScope (top 37)) := ⟨rfl, rfl, rfl, by decide +kernel, rfl, by decide +kernel, by decide +kernel⟩
def a37 : Sf := (bCons (sAsg (bin (bin (eV 0) (eK (.int 69069)) fMul) (bin (bin (eK (.int 104729)) (eV 1) fMul) (eV 1) fMul) fAdd) (gN 3)) (bCons (sAsg (bin (eB (aCons (bin (bin (eV 3) (bin (eK (.int 7919)) (eV 2) fMul) fAdd) (eV 1) fAdd) aNil) fInt) (eK (.int 2147483647)) fMod) (gN 3)) (bCons (sAsg (bin (eB (aCons (bin (bin (eV 3) (eV 3) fMul) (eK (.int 40503)) fAdd) aNil) fInt) (eK (.int 2147483629)) fMod) (gN 3)) (bCons (sRet (bin (eB (aCons (bin (eV 3) (eK (.int 48271)) fMul) aNil) fInt) (eK (.int 2147483587)) fMod)) bNil))))
abbrev h37 : Bf := bodyF N37.length a37
theorem s37 {P : Program} {w : World} {K : Kw} {mg : Str → Option Value} {base : Heap} (hw : K.w = w) (G : Fr mg) (Z : Oth P K mg) {f : Addr} {fd : FuncData} (F : FunD K.fr "_law_mixed" "_law_mixed" (defArgs (top 37)) (defBody (top 37)) (defScope (top 37)) [] [] f fd) (hm : mg "_law_mixed" = some (.ref f)) : Kf P w K mg base 2 "_law_mixed" 3 h37 := kf_of F sc37 hm (fun _ _ _ _ _ _ us hl => match us, hl with | [_, _, _], _ => rfl) rfl fun cdv A outer s H E hgd hr => by
  have c : Cc (fcx P w K.fr mg base N37 "_law_mixed" (defScope (top 37)) f cdv A outer s H E) (p0 K) := ⟨rfl, hw, rfl, sc37.nd, hr.mono (by decide), hgd⟩
  have EV := Z.ev
  have EN := Z.en
  have EO := Z.eo
  have hct := Z.ct
  have hS := Z.sys
  exact (sndB_cons (sndS_asg (c.add (c.mul (snd_var (i := 0) rfl (by first | exact .inl rfl | exact .inr (.inl rfl) | exact .inr (.inr rfl)) rfl rfl) snd_int) (c.mul (c.mul snd_int (snd_var (i := 1) rfl (by first | exact .inl rfl | exact .inr (.inl rfl) | exact .inr (.inr rfl)) rfl rfl)) (snd_var (i := 1) rfl (by first | exact .inl rfl | exact .inr (.inl rfl) | exact .inr (.inr rfl)) rfl rfl))) (sndG_name (i := 3) c.nd rfl (by first | exact .inl rfl | exact .inr rfl) (by first | exact .inl rfl | exact .inr rfl)) rfl rfl rfl) (sndB_cons (sndS_asg (c.mod (c.int rfl G.int (sndA_cons (c.add (c.add (snd_var (i := 3) rfl (by first | exact .inl rfl | exact .inr (.inl rfl) | exact .inr (.inr rfl)) rfl rfl) (c.mul snd_int (snd_var (i := 2) rfl (by first | exact .inl rfl | exact .inr (.inl rfl) | exact .inr (.inr rfl)) rfl rfl))) (snd_var (i := 1) rfl (by first | exact .inl rfl | exact .inr (.inl rfl) | exact .inr (.inr rfl)) rfl rfl)) sndA_nil rfl) rfl rfl) snd_int) (sndG_name (i := 3) c.nd rfl (by first | exact .inl rfl | exact .inr rfl) (by first | exact .inl rfl | exact .inr rfl)) rfl rfl rfl) (sndB_cons (sndS_asg (c.mod (c.int rfl G.int (sndA_cons (c.add (c.mul (snd_var (i := 3) rfl (by first | exact .inl rfl | exact .inr (.inl rfl) | exact .inr (.inr rfl)) rfl rfl) (snd_var (i := 3) rfl (by first | exact .inl rfl | exact .inr (.inl rfl) | exact .inr (.inr rfl)) rfl rfl)) snd_int) sndA_nil rfl) rfl rfl) snd_int) (sndG_name (i := 3) c.nd rfl (by first | exact .inl rfl | exact .inr rfl) (by first | exact .inl rfl | exact .inr rfl)) rfl rfl rfl) (sndB_cons (sndS_ret (c.mod (c.int rfl G.int (sndA_cons (c.mul (snd_var (i := 3) rfl (by first | exact .inl rfl | exact .inr (.inl rfl) | exact .inr (.inr rfl)) rfl rfl) snd_int) sndA_nil rfl) rfl rfl) snd_int)) sndB_nil))))
def N38 : List Str := ["_law_purse_here", "_law_many", "_law_found", "_law_piece", "_law_drawn"]
theorem sc38 : FnScope N38 ["_law_purse_here", "_law_many"] (defScope (top 38)) := ⟨rfl, rfl, rfl, by decide +kernel, rfl, by decide +kernel, by decide +kernel⟩
def a38 : Sf := (bCons (sIf (tBl (bin (bin (eV 0) (eK (.int 0)) fIxA) (eK (.int 0)) fGt)) (bCons (sAsg (bin (eB (aCons (bin (eV 0) (eK (.int 0)) fIxA) aNil) fInt) (eV 1) fMod) (gN 4)) (bCons (sAsg (bin (bin (eV 0) (eK (.int 0)) fIxA) (eV 1) fDiv) (gSubF (eV 0) (eK (.int 0)))) (bCons (sRet (eV 4)) bNil))) bNil) (bCons (sAsg (eK (.int 0)) (gN 2)) (bCons (sFor (iR1 (aCons (bin (eK (.int 1)) (bin (una (eV 1) uBits) (eK (.int 28)) fDiv) fAdd) aNil)) (gN 3) (bCons (sAsg (bin (bin (eV 0) (eK (.int 2)) fIxA) (eK (.int 1)) fAdd) (gSubF (eV 0) (eK (.int 2)))) (bCons (sAsg (bin (bin (eV 2) (eK (.int 2147483587)) fMul) (eCall (aCons (bin (eV 0) (eK (.int 1)) fIxA) (aCons (bin (eV 0) (eK (.int 2)) fIxA) (aCons (bin (eV 0) (eK (.int 3)) fIxA) aNil))) h37 3 []) fAdd) (gN 2)) bNil))) (bCons (sRet (bin (eB (aCons (eV 2) aNil) fInt) (eV 1) fMod)) bNil))))
abbrev h38 : Bf := bodyF N38.length a38
theorem s38 {P : Program} {w : World} {K : Kw} {mg : Str → Option Value} {base : Heap} (hw : K.w = w) (G : Fr mg) (Z : Oth P K mg) (F__law_mixed : Kf P w K mg base 2 "_law_mixed" 3 h37) {f : Addr} {fd : FuncData} (F : FunD K.fr "_law_draw" "_law_draw" (defArgs (top 38)) (defBody (top 38)) (defScope (top 38)) [] [] f fd) (hm : mg "_law_draw" = some (.ref f)) : Kf P w K mg base 3 "_law_draw" 2 h38 := kf_of F sc38 hm (fun _ _ _ _ _ _ us hl => match us, hl with | [_, _], _ => rfl) rfl fun cdv A outer s H E hgd hr => by
  have c : Cc (fcx P w K.fr mg base N38 "_law_draw" (defScope (top 38)) f cdv A outer s H E) (p0 K) := ⟨rfl, hw, rfl, sc38.nd, hr.mono (by decide), hgd⟩
  have EV := Z.ev
  have EN := Z.en
  have EO := Z.eo
  have hct := Z.ct
  have hS := Z.sys
  exact (sndB_cons (sndS_if (sndT_cmp1 c.cGt (c.ix (snd_var (i := 0) rfl (by first | exact .inl rfl | exact .inr (.inl rfl) | exact .inr (.inr rfl)) rfl rfl) snd_int (fun _ _ => rfl)) snd_int rfl) (sndB_cons (sndS_asg (c.mod (c.int rfl G.int (sndA_cons (c.ix (snd_var (i := 0) rfl (by first | exact .inl rfl | exact .inr (.inl rfl) | exact .inr (.inr rfl)) rfl rfl) snd_int (fun _ _ => rfl)) sndA_nil rfl) rfl rfl) (snd_var (i := 1) rfl (by first | exact .inl rfl | exact .inr (.inl rfl) | exact .inr (.inr rfl)) rfl rfl)) (sndG_name (i := 4) c.nd rfl (by first | exact .inl rfl | exact .inr rfl) (by first | exact .inl rfl | exact .inr rfl)) rfl rfl rfl) (sndB_cons (sndS_asg (c.div (c.ix (snd_var (i := 0) rfl (by first | exact .inl rfl | exact .inr (.inl rfl) | exact .inr (.inr rfl)) rfl rfl) snd_int (fun _ _ => rfl)) (snd_var (i := 1) rfl (by first | exact .inl rfl | exact .inr (.inl rfl) | exact .inr (.inr rfl)) rfl rfl)) (c.gsub (snd_var (i := 0) rfl (by first | exact .inl rfl | exact .inr (.inl rfl) | exact .inr (.inr rfl)) rfl rfl) snd_int (fun _ => rfl)) rfl rfl rfl) (sndB_cons (sndS_ret (snd_var (i := 4) rfl (by first | exact .inl rfl | exact .inr (.inl rfl) | exact .inr (.inr rfl)) rfl rfl)) sndB_nil))) sndB_nil) (sndB_cons (sndS_asg snd_int (sndG_name (i := 2) c.nd rfl (by first | exact .inl rfl | exact .inr rfl) (by first | exact .inl rfl | exact .inr rfl)) rfl rfl rfl) (sndB_cons (sndS_for PassesOwn.never c.calm (sndI_range1 rfl G.range (sndA_cons (c.add snd_int (c.div (snd_bits (snd_var (i := 1) rfl (by first | exact .inl rfl | exact .inr (.inl rfl) | exact .inr (.inr rfl)) rfl rfl) rfl rfl) snd_int)) sndA_nil rfl) rfl) (sndG_name (i := 3) c.nd rfl (by first | exact .inl rfl | exact .inr rfl) (by first | exact .inl rfl | exact .inr rfl)) (sndB_cons (sndS_asg (c.add (c.ix (snd_var (i := 0) rfl (by first | exact .inl rfl | exact .inr (.inl rfl) | exact .inr (.inr rfl)) rfl rfl) snd_int (fun _ _ => rfl)) snd_int) (c.gsub (snd_var (i := 0) rfl (by first | exact .inl rfl | exact .inr (.inl rfl) | exact .inr (.inr rfl)) rfl rfl) snd_int (fun _ => rfl)) rfl rfl rfl) (sndB_cons (sndS_asg (c.add (c.mul (snd_var (i := 2) rfl (by first | exact .inl rfl | exact .inr (.inl rfl) | exact .inr (.inr rfl)) rfl rfl) snd_int) (snd_own c F__law_mixed (hr.mono (by decide)) rfl (sndA_cons (c.ix (snd_var (i := 0) rfl (by first | exact .inl rfl | exact .inr (.inl rfl) | exact .inr (.inr rfl)) rfl rfl) snd_int (fun _ _ => rfl)) (sndA_cons (c.ix (snd_var (i := 0) rfl (by first | exact .inl rfl | exact .inr (.inl rfl) | exact .inr (.inr rfl)) rfl rfl) snd_int (fun _ _ => rfl)) (sndA_cons (c.ix (snd_var (i := 0) rfl (by first | exact .inl rfl | exact .inr (.inl rfl) | exact .inr (.inr rfl)) rfl rfl) snd_int (fun _ _ => rfl)) sndA_nil rfl) rfl) rfl) rfl rfl rfl)) (sndG_name (i := 2) c.nd rfl (by first | exact .inl rfl | exact .inr rfl) (by first | exact .inl rfl | exact .inr rfl)) rfl rfl rfl) sndB_nil)) (fun _ => rfl)) (sndB_cons (sndS_ret (c.mod (c.int rfl G.int (sndA_cons (snd_var (i := 2) rfl (by first | exact .inl rfl | exact .inr (.inl rfl) | exact .inr (.inr rfl)) rfl rfl) sndA_nil rfl) rfl rfl) (snd_var (i := 1) rfl (by first | exact .inl rfl | exact .inr (.inl rfl) | exact .inr (.inr rfl)) rfl rfl))) sndB_nil))))
def N39 : List Str := ["_law_script", "_law_few", "_law_at"]
theorem sc39 : FnScope N39 ["_law_script", "_law_few"] (defScope (top 39)) := ⟨rfl, rfl, rfl, by decide +kernel, rfl, by decide +kernel, by decide +kernel⟩
def a39 : Sf := (bCons (sRet (eLc (iR1 (aCons (eB (aCons (eK (.int 1)) (aCons (eB (aCons (eV 1) (aCons (eB (aCons (eV 0) aNil) (bOr fLen fLenD)) aNil)) fMin) aNil)) fMax) aNil)) (gN 2) [2] tYesF (eCall (aCons (eV 0) (aCons (eV 2) aNil)) h36 2 []))) bNil)
abbrev h39 : Bf := bodyF N39.length a39
theorem s39 {P : Program} {w : World} {K : Kw} {mg : Str → Option Value} {base : Heap} (hw : K.w = w) (G : Fr mg) (Z : Oth P K mg) (F__law_purse : Kf P w K mg base 2 "_law_purse" 2 h36) {f : Addr} {fd : FuncData} (F : FunD K.fr "_law_purses" "_law_purses" (defArgs (top 39)) (defBody (top 39)) (defScope (top 39)) [] [] f fd) (hm : mg "_law_purses" = some (.ref f)) : Kf P w K mg base 3 "_law_purses" 2 h39 := kf_of F sc39 hm (fun _ _ _ _ _ _ us hl => match us, hl with | [_, _], _ => rfl) rfl fun cdv A outer s H E hgd hr => by
  have c : Cc (fcx P w K.fr mg base N39 "_law_purses" (defScope (top 39)) f cdv A outer s H E) (p0 K) := ⟨rfl, hw, rfl, sc39.nd, hr.mono (by decide), hgd⟩
  have EV := Z.ev
  have EN := Z.en
  have EO := Z.eo
  have hct := Z.ct
  have hS := Z.sys
  exact (sndB_cons (sndS_ret (snd_lc (own := [("_law_at", 2)]) (blkS_mk [("_law_at", 2)] [2] c.calm c.nd (blkOk_by (by first | rfl | decide +kernel)) (by decide) (fun s0 H0 C0 cl0 fp0 => (sndG_name (i := 2) (c.blk s0 H0 _ _ _).nd rfl (by first | exact .inl rfl | exact .inr rfl) (by first | exact .inl rfl | exact .inr rfl))) (fun s0 H0 C0 cl0 fp0 => sndTs_nil)) (sndI_range1 rfl G.range (sndA_cons (c.max rfl G.max (sndA_cons snd_int (sndA_cons (c.min rfl G.min (sndA_cons (snd_var (i := 1) rfl (by first | exact .inl rfl | exact .inr (.inl rfl) | exact .inr (.inr rfl)) rfl rfl) (sndA_cons (c.len rfl G.len (sndA_cons (snd_var (i := 0) rfl (by first | exact .inl rfl | exact .inr (.inl rfl) | exact .inr (.inr rfl)) rfl rfl) sndA_nil rfl) rfl rfl) sndA_nil rfl) rfl) rfl rfl) sndA_nil rfl) rfl) rfl rfl) sndA_nil rfl) rfl) (fun s0 H0 C0 cl0 fp0 => (snd_own (c.blk s0 H0 _ _ _) F__law_purse (hr.mono (by decide)) rfl (sndA_cons (snd_var (i := 0) rfl (by first | exact .inl rfl | exact .inr (.inl rfl) | exact .inr (.inr rfl)) rfl rfl) (sndA_cons (snd_var (i := 2) rfl (by first | exact .inl rfl | exact .inr (.inl rfl) | exact .inr (.inr rfl)) rfl rfl) sndA_nil rfl) rfl) rfl rfl rfl)) (fun _ => rfl))) sndB_nil)
def N40 : List Str := ["_law_purse_here", "_law_some"]
theorem sc40 : FnScope N40 ["_law_purse_here", "_law_some"] (defScope (top 40)) := ⟨rfl, rfl, rfl, by decide +kernel, rfl, by decide +kernel, by decide +kernel⟩
def a40 : Sf := (bCons (sRet (bin (eV 1) (eCall (aCons (eV 0) (aCons (eB (aCons (eV 1) aNil) (bOr fLen fLenD)) aNil)) h38 2 []) fIxA)) bNil)
abbrev h40 : Bf := bodyF N40.length a40
theorem s40 {P : Program} {w : World} {K : Kw} {mg : Str → Option Value} {base : Heap} (hw : K.w = w) (G : Fr mg) (Z : Oth P K mg) (F__law_draw : Kf P w K mg base 3 "_law_draw" 2 h38) {f : Addr} {fd : FuncData} (F : FunD K.fr "_law_one_of" "_law_one_of" (defArgs (top 40)) (defBody (top 40)) (defScope (top 40)) [] [] f fd) (hm : mg "_law_one_of" = some (.ref f)) : Kf P w K mg base 4 "_law_one_of" 2 h40 := kf_of F sc40 hm (fun _ _ _ _ _ _ us hl => match us, hl with | [_, _], _ => rfl) rfl fun cdv A outer s H E hgd hr => by
  have c : Cc (fcx P w K.fr mg base N40 "_law_one_of" (defScope (top 40)) f cdv A outer s H E) (p0 K) := ⟨rfl, hw, rfl, sc40.nd, hr.mono (by decide), hgd⟩
  have EV := Z.ev
  have EN := Z.en
  have EO := Z.eo
  have hct := Z.ct
  have hS := Z.sys
  exact (sndB_cons (sndS_ret (c.ix (snd_var (i := 1) rfl (by first | exact .inl rfl | exact .inr (.inl rfl) | exact .inr (.inr rfl)) rfl rfl) (snd_own c F__law_draw (hr.mono (by decide)) rfl (sndA_cons (snd_var (i := 0) rfl (by first | exact .inl rfl | exact .inr (.inl rfl) | exact .inr (.inr rfl)) rfl rfl) (sndA_cons (c.len rfl G.len (sndA_cons (snd_var (i := 1) rfl (by first | exact .inl rfl | exact .inr (.inl rfl) | exact .inr (.inr rfl)) rfl rfl) sndA_nil rfl) rfl rfl) sndA_nil rfl) rfl) rfl rfl rfl) (fun _ _ => rfl))) sndB_nil)
def N41 : List Str := ["_law_purse_here", "_law_size", "_law_turn"]
theorem sc41 : FnScope N41 ["_law_purse_here"] (defScope (top 41)) := ⟨rfl, rfl, rfl, by decide +kernel, rfl, by decide +kernel, by decide +kernel⟩
def a41 : Sf := (bCons (sAsg (bin (eK (.int 1)) (eCall (aCons (eV 0) (aCons (eIf (tBl (bin (eCall (aCons (eV 0) (aCons (eK (.int 3)) aNil)) h38 2 []) (eK (.int 0)) fEq)) (eK (.int 8)) (eK (.int 3))) aNil)) h38 2 []) fAdd) (gN 1)) (bCons (sRet (eM isStr (eK (.str ("" : PySem.Str))) (aCons (eLc (iR1 (aCons (eV 1) aNil)) (gN 2) [2] tYesF (bin (eK (.str ("abcdefghijklmnopqrstuvwxyz" : PySem.Str))) (eCall (aCons (eV 0) (aCons (eK (.int 26)) aNil)) h38 2 []) fIxA)) aNil) mJoin)) bNil))
abbrev h41 : Bf := bodyF N41.length a41
theorem s41 {P : Program} {w : World} {K : Kw} {mg : Str → Option Value} {base : Heap} (hw : K.w = w) (G : Fr mg) (Z : Oth P K mg) (F__law_draw : Kf P w K mg base 3 "_law_draw" 2 h38) {f : Addr} {fd : FuncData} (F : FunD K.fr "_law_word" "_law_word" (defArgs (top 41)) (defBody (top 41)) (defScope (top 41)) [] [] f fd) (hm : mg "_law_word" = some (.ref f)) : Kf P w K mg base 4 "_law_word" 1 h41 := kf_of F sc41 hm (fun _ _ _ _ _ _ us hl => match us, hl with | [_], _ => rfl) rfl fun cdv A outer s H E hgd hr => by
  have c : Cc (fcx P w K.fr mg base N41 "_law_word" (defScope (top 41)) f cdv A outer s H E) (p0 K) := ⟨rfl, hw, rfl, sc41.nd, hr.mono (by decide), hgd⟩
  have EV := Z.ev
  have EN := Z.en
  have EO := Z.eo
  have hct := Z.ct
  have hS := Z.sys
  exact (sndB_cons (sndS_asg (c.add snd_int (snd_own c F__law_draw (hr.mono (by decide)) rfl (sndA_cons (snd_var (i := 0) rfl (by first | exact .inl rfl | exact .inr (.inl rfl) | exact .inr (.inr rfl)) rfl rfl) (sndA_cons (snd_ite (sndT_cmp1 c.cEq (snd_own c F__law_draw (hr.mono (by decide)) rfl (sndA_cons (snd_var (i := 0) rfl (by first | exact .inl rfl | exact .inr (.inl rfl) | exact .inr (.inr rfl)) rfl rfl) (sndA_cons snd_int sndA_nil rfl) rfl) rfl rfl rfl) snd_int rfl) snd_int snd_int) sndA_nil rfl) rfl) rfl rfl rfl)) (sndG_name (i := 1) c.nd rfl (by first | exact .inl rfl | exact .inr rfl) (by first | exact .inl rfl | exact .inr rfl)) rfl rfl rfl) (sndB_cons (sndS_ret (c.join snd_str (sndA_cons (snd_lc (own := [("_law_turn", 2)]) (blkS_mk [("_law_turn", 2)] [2] c.calm c.nd (blkOk_by (by first | rfl | decide +kernel)) (by decide) (fun s0 H0 C0 cl0 fp0 => (sndG_name (i := 2) (c.blk s0 H0 _ _ _).nd rfl (by first | exact .inl rfl | exact .inr rfl) (by first | exact .inl rfl | exact .inr rfl))) (fun s0 H0 C0 cl0 fp0 => sndTs_nil)) (sndI_range1 rfl G.range (sndA_cons (snd_var (i := 1) rfl (by first | exact .inl rfl | exact .inr (.inl rfl) | exact .inr (.inr rfl)) rfl rfl) sndA_nil rfl) rfl) (fun s0 H0 C0 cl0 fp0 => ((c.blk s0 H0 _ _ _).ix snd_str (snd_own (c.blk s0 H0 _ _ _) F__law_draw (hr.mono (by decide)) rfl (sndA_cons (snd_var (i := 0) rfl (by first | exact .inl rfl | exact .inr (.inl rfl) | exact .inr (.inr rfl)) rfl rfl) (sndA_cons snd_int sndA_nil rfl) rfl) rfl rfl rfl) (fun _ _ => rfl))) (fun _ => rfl)) sndA_nil rfl) rfl rfl rfl rfl rfl)) sndB_nil))
def N42 : List Str := ["_law_thing", "_law_found"]
theorem sc42 : FnScope N42 ["_law_thing"] (defScope (top 42)) := ⟨rfl, rfl, rfl, by decide +kernel, rfl, by decide +kernel, by decide +kernel⟩
def a42 : Sf := (bCons (sAsg (eLst (aCons (eMk1 "InvalidKind" (eV 0)) (aCons (eMk1 "InvalidTable" (eV 0)) (aCons (eMk1 "InvalidKinds" (eV 0)) (aCons (eMk1 "InvalidMap" (eV 0)) (aCons (eMk1 "InvalidRow" (eV 0)) aNil)))))) (gN 1)) (bCons (sAsg (bin (eV 1) (eLst (aCons (eMk1 "InvalidGrouping" (eV 0)) (aCons (eMk1 "InvalidBlock" (eV 0)) (aCons (eMk1 "InvalidTriples" (eV 0)) (aCons (eMk1 "InvalidRule" (eV 0)) aNil))))) fAdd) (gN 1)) (bCons (sAsg (bin (eV 1) (eLst (aCons (eMk1 "InvalidDeed" (eV 0)) (aCons (eMk1 "InvalidChain" (eV 0)) (aCons (eMk1 "InvalidArrows" (eV 0)) (aCons (eMk1 "InvalidLayers" (eV 0)) aNil))))) fAdd) (gN 1)) (bCons (sAsg (bin (eV 1) (eLst (aCons (eMk1 "InvalidComb" (eV 0)) (aCons (eMk1 "InvalidNumbers" (eV 0)) (aCons (eMk1 "InvalidWord" (eV 0)) (aCons (eMk1 "InvalidFour" (eV 0)) aNil))))) fAdd) (gN 1)) (bCons (sAsg (bin (eV 1) (eLst (aCons (eMk1 "InvalidCount" (eV 0)) (aCons (eMk1 "InvalidPlaces" (eV 0)) (aCons (eMk1 "InvalidBonds" (eV 0)) (aCons (eMk1 "InvalidChange" (eV 0)) aNil))))) fAdd) (gN 1)) (bCons (sAsg (bin (eV 1) (eLst (aCons (eMk1 "InvalidChanges" (eV 0)) (aCons (eMk1 "InvalidShelf" (eV 0)) (aCons (eMk1 "InvalidSpot" (eV 0)) (aCons (eMk1 "InvalidScript" (eV 0)) aNil))))) fAdd) (gN 1)) (bCons (sAsg (bin (eV 1) (eLst (aCons (eMk1 "InvalidText" (eV 0)) (aCons (eMk1 "InvalidLog" (eV 0)) (aCons (eMk1 "Unlike" (eV 0)) (aCons (eMk1 "Unsettled" (eV 0)) (aCons (eMk1 "Apart" (eV 0)) aNil)))))) fAdd) (gN 1)) (bCons (sAsg (bin (eV 1) (eLst (aCons (eMk1 "Refused" (eV 0)) aNil)) fAdd) (gN 1)) (bCons (sRet (eV 1)) bNil)))))))))
abbrev h42 : Bf := bodyF N42.length a42
theorem s42 {P : Program} {w : World} {K : Kw} {mg : Str → Option Value} {base : Heap} (hw : K.w = w) (G : Fr mg) (Z : Oth P K mg) {f : Addr} {fd : FuncData} (F : FunD K.fr "_law_first" "_law_first" (defArgs (top 42)) (defBody (top 42)) (defScope (top 42)) [] [] f fd) (hm : mg "_law_first" = some (.ref f)) : Kf P w K mg base 2 "_law_first" 1 h42 := kf_of F sc42 hm (fun _ _ _ _ _ _ us hl => match us, hl with | [_], _ => rfl) rfl fun cdv A outer s H E hgd hr => by
  have c : Cc (fcx P w K.fr mg base N42 "_law_first" (defScope (top 42)) f cdv A outer s H E) (p0 K) := ⟨rfl, hw, rfl, sc42.nd, hr.mono (by decide), hgd⟩
  have EV := Z.ev
  have EN := Z.en
  have EO := Z.eo
  have hct := Z.ct
  have hS := Z.sys
  exact (sndB_cons (sndS_asg (snd_lst (sndA_cons (snd_mk1 c (EV "InvalidKind" (List.mem_of_getElem? (i := 0) rfl)) (snd_var (i := 0) rfl (by first | exact .inl rfl | exact .inr (.inl rfl) | exact .inr (.inr rfl)) rfl rfl) rfl rfl rfl rfl) (sndA_cons (snd_mk1 c (EV "InvalidTable" (List.mem_of_getElem? (i := 1) rfl)) (snd_var (i := 0) rfl (by first | exact .inl rfl | exact .inr (.inl rfl) | exact .inr (.inr rfl)) rfl rfl) rfl rfl rfl rfl) (sndA_cons (snd_mk1 c (EV "InvalidKinds" (List.mem_of_getElem? (i := 2) rfl)) (snd_var (i := 0) rfl (by first | exact .inl rfl | exact .inr (.inl rfl) | exact .inr (.inr rfl)) rfl rfl) rfl rfl rfl rfl) (sndA_cons (snd_mk1 c (EV "InvalidMap" (List.mem_of_getElem? (i := 3) rfl)) (snd_var (i := 0) rfl (by first | exact .inl rfl | exact .inr (.inl rfl) | exact .inr (.inr rfl)) rfl rfl) rfl rfl rfl rfl) (sndA_cons (snd_mk1 c (EV "InvalidRow" (List.mem_of_getElem? (i := 4) rfl)) (snd_var (i := 0) rfl (by first | exact .inl rfl | exact .inr (.inl rfl) | exact .inr (.inr rfl)) rfl rfl) rfl rfl rfl rfl) sndA_nil rfl) rfl) rfl) rfl) rfl)) (sndG_name (i := 1) c.nd rfl (by first | exact .inl rfl | exact .inr rfl) (by first | exact .inl rfl | exact .inr rfl)) rfl rfl rfl) (sndB_cons (sndS_asg (c.add (snd_var (i := 1) rfl (by first | exact .inl rfl | exact .inr (.inl rfl) | exact .inr (.inr rfl)) rfl rfl) (snd_lst (sndA_cons (snd_mk1 c (EV "InvalidGrouping" (List.mem_of_getElem? (i := 5) rfl)) (snd_var (i := 0) rfl (by first | exact .inl rfl | exact .inr (.inl rfl) | exact .inr (.inr rfl)) rfl rfl) rfl rfl rfl rfl) (sndA_cons (snd_mk1 c (EV "InvalidBlock" (List.mem_of_getElem? (i := 6) rfl)) (snd_var (i := 0) rfl (by first | exact .inl rfl | exact .inr (.inl rfl) | exact .inr (.inr rfl)) rfl rfl) rfl rfl rfl rfl) (sndA_cons (snd_mk1 c (EV "InvalidTriples" (List.mem_of_getElem? (i := 7) rfl)) (snd_var (i := 0) rfl (by first | exact .inl rfl | exact .inr (.inl rfl) | exact .inr (.inr rfl)) rfl rfl) rfl rfl rfl rfl) (sndA_cons (snd_mk1 c (EV "InvalidRule" (List.mem_of_getElem? (i := 8) rfl)) (snd_var (i := 0) rfl (by first | exact .inl rfl | exact .inr (.inl rfl) | exact .inr (.inr rfl)) rfl rfl) rfl rfl rfl rfl) sndA_nil rfl) rfl) rfl) rfl))) (sndG_name (i := 1) c.nd rfl (by first | exact .inl rfl | exact .inr rfl) (by first | exact .inl rfl | exact .inr rfl)) rfl rfl rfl) (sndB_cons (sndS_asg (c.add (snd_var (i := 1) rfl (by first | exact .inl rfl | exact .inr (.inl rfl) | exact .inr (.inr rfl)) rfl rfl) (snd_lst (sndA_cons (snd_mk1 c (EV "InvalidDeed" (List.mem_of_getElem? (i := 9) rfl)) (snd_var (i := 0) rfl (by first | exact .inl rfl | exact .inr (.inl rfl) | exact .inr (.inr rfl)) rfl rfl) rfl rfl rfl rfl) (sndA_cons (snd_mk1 c (EV "InvalidChain" (List.mem_of_getElem? (i := 10) rfl)) (snd_var (i := 0) rfl (by first | exact .inl rfl | exact .inr (.inl rfl) | exact .inr (.inr rfl)) rfl rfl) rfl rfl rfl rfl) (sndA_cons (snd_mk1 c (EV "InvalidArrows" (List.mem_of_getElem? (i := 11) rfl)) (snd_var (i := 0) rfl (by first | exact .inl rfl | exact .inr (.inl rfl) | exact .inr (.inr rfl)) rfl rfl) rfl rfl rfl rfl) (sndA_cons (snd_mk1 c (EV "InvalidLayers" (List.mem_of_getElem? (i := 12) rfl)) (snd_var (i := 0) rfl (by first | exact .inl rfl | exact .inr (.inl rfl) | exact .inr (.inr rfl)) rfl rfl) rfl rfl rfl rfl) sndA_nil rfl) rfl) rfl) rfl))) (sndG_name (i := 1) c.nd rfl (by first | exact .inl rfl | exact .inr rfl) (by first | exact .inl rfl | exact .inr rfl)) rfl rfl rfl) (sndB_cons (sndS_asg (c.add (snd_var (i := 1) rfl (by first | exact .inl rfl | exact .inr (.inl rfl) | exact .inr (.inr rfl)) rfl rfl) (snd_lst (sndA_cons (snd_mk1 c (EV "InvalidComb" (List.mem_of_getElem? (i := 13) rfl)) (snd_var (i := 0) rfl (by first | exact .inl rfl | exact .inr (.inl rfl) | exact .inr (.inr rfl)) rfl rfl) rfl rfl rfl rfl) (sndA_cons (snd_mk1 c (EV "InvalidNumbers" (List.mem_of_getElem? (i := 14) rfl)) (snd_var (i := 0) rfl (by first | exact .inl rfl | exact .inr (.inl rfl) | exact .inr (.inr rfl)) rfl rfl) rfl rfl rfl rfl) (sndA_cons (snd_mk1 c (EV "InvalidWord" (List.mem_of_getElem? (i := 15) rfl)) (snd_var (i := 0) rfl (by first | exact .inl rfl | exact .inr (.inl rfl) | exact .inr (.inr rfl)) rfl rfl) rfl rfl rfl rfl) (sndA_cons (snd_mk1 c (EV "InvalidFour" (List.mem_of_getElem? (i := 16) rfl)) (snd_var (i := 0) rfl (by first | exact .inl rfl | exact .inr (.inl rfl) | exact .inr (.inr rfl)) rfl rfl) rfl rfl rfl rfl) sndA_nil rfl) rfl) rfl) rfl))) (sndG_name (i := 1) c.nd rfl (by first | exact .inl rfl | exact .inr rfl) (by first | exact .inl rfl | exact .inr rfl)) rfl rfl rfl) (sndB_cons (sndS_asg (c.add (snd_var (i := 1) rfl (by first | exact .inl rfl | exact .inr (.inl rfl) | exact .inr (.inr rfl)) rfl rfl) (snd_lst (sndA_cons (snd_mk1 c (EV "InvalidCount" (List.mem_of_getElem? (i := 17) rfl)) (snd_var (i := 0) rfl (by first | exact .inl rfl | exact .inr (.inl rfl) | exact .inr (.inr rfl)) rfl rfl) rfl rfl rfl rfl) (sndA_cons (snd_mk1 c (EV "InvalidPlaces" (List.mem_of_getElem? (i := 18) rfl)) (snd_var (i := 0) rfl (by first | exact .inl rfl | exact .inr (.inl rfl) | exact .inr (.inr rfl)) rfl rfl) rfl rfl rfl rfl) (sndA_cons (snd_mk1 c (EV "InvalidBonds" (List.mem_of_getElem? (i := 19) rfl)) (snd_var (i := 0) rfl (by first | exact .inl rfl | exact .inr (.inl rfl) | exact .inr (.inr rfl)) rfl rfl) rfl rfl rfl rfl) (sndA_cons (snd_mk1 c (EV "InvalidChange" (List.mem_of_getElem? (i := 20) rfl)) (snd_var (i := 0) rfl (by first | exact .inl rfl | exact .inr (.inl rfl) | exact .inr (.inr rfl)) rfl rfl) rfl rfl rfl rfl) sndA_nil rfl) rfl) rfl) rfl))) (sndG_name (i := 1) c.nd rfl (by first | exact .inl rfl | exact .inr rfl) (by first | exact .inl rfl | exact .inr rfl)) rfl rfl rfl) (sndB_cons (sndS_asg (c.add (snd_var (i := 1) rfl (by first | exact .inl rfl | exact .inr (.inl rfl) | exact .inr (.inr rfl)) rfl rfl) (snd_lst (sndA_cons (snd_mk1 c (EV "InvalidChanges" (List.mem_of_getElem? (i := 21) rfl)) (snd_var (i := 0) rfl (by first | exact .inl rfl | exact .inr (.inl rfl) | exact .inr (.inr rfl)) rfl rfl) rfl rfl rfl rfl) (sndA_cons (snd_mk1 c (EV "InvalidShelf" (List.mem_of_getElem? (i := 22) rfl)) (snd_var (i := 0) rfl (by first | exact .inl rfl | exact .inr (.inl rfl) | exact .inr (.inr rfl)) rfl rfl) rfl rfl rfl rfl) (sndA_cons (snd_mk1 c (EV "InvalidSpot" (List.mem_of_getElem? (i := 23) rfl)) (snd_var (i := 0) rfl (by first | exact .inl rfl | exact .inr (.inl rfl) | exact .inr (.inr rfl)) rfl rfl) rfl rfl rfl rfl) (sndA_cons (snd_mk1 c (EV "InvalidScript" (List.mem_of_getElem? (i := 24) rfl)) (snd_var (i := 0) rfl (by first | exact .inl rfl | exact .inr (.inl rfl) | exact .inr (.inr rfl)) rfl rfl) rfl rfl rfl rfl) sndA_nil rfl) rfl) rfl) rfl))) (sndG_name (i := 1) c.nd rfl (by first | exact .inl rfl | exact .inr rfl) (by first | exact .inl rfl | exact .inr rfl)) rfl rfl rfl) (sndB_cons (sndS_asg (c.add (snd_var (i := 1) rfl (by first | exact .inl rfl | exact .inr (.inl rfl) | exact .inr (.inr rfl)) rfl rfl) (snd_lst (sndA_cons (snd_mk1 c (EV "InvalidText" (List.mem_of_getElem? (i := 25) rfl)) (snd_var (i := 0) rfl (by first | exact .inl rfl | exact .inr (.inl rfl) | exact .inr (.inr rfl)) rfl rfl) rfl rfl rfl rfl) (sndA_cons (snd_mk1 c (EV "InvalidLog" (List.mem_of_getElem? (i := 26) rfl)) (snd_var (i := 0) rfl (by first | exact .inl rfl | exact .inr (.inl rfl) | exact .inr (.inr rfl)) rfl rfl) rfl rfl rfl rfl) (sndA_cons (snd_mk1 c (EV "Unlike" (List.mem_of_getElem? (i := 27) rfl)) (snd_var (i := 0) rfl (by first | exact .inl rfl | exact .inr (.inl rfl) | exact .inr (.inr rfl)) rfl rfl) rfl rfl rfl rfl) (sndA_cons (snd_mk1 c (EV "Unsettled" (List.mem_of_getElem? (i := 28) rfl)) (snd_var (i := 0) rfl (by first | exact .inl rfl | exact .inr (.inl rfl) | exact .inr (.inr rfl)) rfl rfl) rfl rfl rfl rfl) (sndA_cons (snd_mk1 c (EV "Apart" (List.mem_of_getElem? (i := 29) rfl)) (snd_var (i := 0) rfl (by first | exact .inl rfl | exact .inr (.inl rfl) | exact .inr (.inr rfl)) rfl rfl) rfl rfl rfl rfl) sndA_nil rfl) rfl) rfl) rfl) rfl))) (sndG_name (i := 1) c.nd rfl (by first | exact .inl rfl | exact .inr rfl) (by first | exact .inl rfl | exact .inr rfl)) rfl rfl rfl) (sndB_cons (sndS_asg (c.add (snd_var (i := 1) rfl (by first | exact .inl rfl | exact .inr (.inl rfl) | exact .inr (.inr rfl)) rfl rfl) (snd_lst (sndA_cons (snd_mk1 c (EV "Refused" (List.mem_of_getElem? (i := 30) rfl)) (snd_var (i := 0) rfl (by first | exact .inl rfl | exact .inr (.inl rfl) | exact .inr (.inr rfl)) rfl rfl) rfl rfl rfl rfl) sndA_nil rfl))) (sndG_name (i := 1) c.nd rfl (by first | exact .inl rfl | exact .inr rfl) (by first | exact .inl rfl | exact .inr rfl)) rfl rfl rfl) (sndB_cons (sndS_ret (snd_var (i := 1) rfl (by first | exact .inl rfl | exact .inr (.inl rfl) | exact .inr (.inr rfl)) rfl rfl)) sndB_nil)))))))))
def N43 : List Str := ["_law_thing", "_law_found"]
theorem sc43 : FnScope N43 ["_law_thing"] (defScope (top 43)) := ⟨rfl, rfl, rfl, by decide +kernel, rfl, by decide +kernel, by decide +kernel⟩
def a43 : Sf := (bCons (sAsg (eLst (aCons (eMk1 "InvalidKind" (eV 0)) (aCons (eMk1 "InvalidTable" (eV 0)) (aCons (eMk1 "InvalidKinds" (eV 0)) aNil)))) (gN 1)) (bCons (sAsg (bin (eV 1) (eLst (aCons (eMk1 "InvalidMap" (eV 0)) (aCons (eMk1 "InvalidRow" (eV 0)) (aCons (eMk1 "InvalidGrouping" (eV 0)) aNil)))) fAdd) (gN 1)) (bCons (sAsg (bin (eV 1) (eLst (aCons (eMk1 "InvalidBlock" (eV 0)) (aCons (eMk1 "InvalidTriples" (eV 0)) (aCons (eMk1 "InvalidRule" (eV 0)) aNil)))) fAdd) (gN 1)) (bCons (sAsg (bin (eV 1) (eLst (aCons (eMk1 "InvalidDeed" (eV 0)) (aCons (eMk1 "InvalidChain" (eV 0)) (aCons (eMk1 "InvalidArrows" (eV 0)) aNil)))) fAdd) (gN 1)) (bCons (sAsg (bin (eV 1) (eLst (aCons (eMk1 "InvalidLayers" (eV 0)) (aCons (eMk1 "InvalidComb" (eV 0)) (aCons (eMk1 "InvalidNumbers" (eV 0)) aNil)))) fAdd) (gN 1)) (bCons (sAsg (bin (eV 1) (eLst (aCons (eMk1 "InvalidWord" (eV 0)) (aCons (eMk1 "InvalidFour" (eV 0)) (aCons (eMk1 "InvalidCount" (eV 0)) aNil)))) fAdd) (gN 1)) (bCons (sAsg (bin (eV 1) (eLst (aCons (eMk1 "InvalidPlaces" (eV 0)) (aCons (eMk1 "InvalidBonds" (eV 0)) (aCons (eMk1 "InvalidChange" (eV 0)) aNil)))) fAdd) (gN 1)) (bCons (sAsg (bin (eV 1) (eLst (aCons (eMk1 "InvalidChanges" (eV 0)) (aCons (eMk1 "InvalidShelf" (eV 0)) (aCons (eMk1 "InvalidSpot" (eV 0)) aNil)))) fAdd) (gN 1)) (bCons (sAsg (bin (eV 1) (eLst (aCons (eMk1 "InvalidScript" (eV 0)) (aCons (eMk1 "InvalidText" (eV 0)) (aCons (eMk1 "InvalidLog" (eV 0)) aNil)))) fAdd) (gN 1)) (bCons (sAsg (bin (eV 1) (eLst (aCons (eMk1 "Unlike" (eV 0)) (aCons (eMk1 "Unsettled" (eV 0)) (aCons (eMk1 "Apart" (eV 0)) (aCons (eMk1 "Refused" (eV 0)) aNil))))) fAdd) (gN 1)) (bCons (sRet (eV 1)) bNil)))))))))))
abbrev h43 : Bf := bodyF N43.length a43
theorem s43 {P : Program} {w : World} {K : Kw} {mg : Str → Option Value} {base : Heap} (hw : K.w = w) (G : Fr mg) (Z : Oth P K mg) {f : Addr} {fd : FuncData} (F : FunD K.fr "_law_called" "_law_called" (defArgs (top 43)) (defBody (top 43)) (defScope (top 43)) [] [] f fd) (hm : mg "_law_called" = some (.ref f)) : Kf P w K mg base 2 "_law_called" 1 h43 := kf_of F sc43 hm (fun _ _ _ _ _ _ us hl => match us, hl with | [_], _ => rfl) rfl fun cdv A outer s H E hgd hr => by
  have c : Cc (fcx P w K.fr mg base N43 "_law_called" (defScope (top 43)) f cdv A outer s H E) (p0 K) := ⟨rfl, hw, rfl, sc43.nd, hr.mono (by decide), hgd⟩
  have EV := Z.ev
  have EN := Z.en
  have EO := Z.eo
  have hct := Z.ct
  have hS := Z.sys
  exact (sndB_cons (sndS_asg (snd_lst (sndA_cons (snd_mkk c (EV "InvalidKind" (List.mem_of_getElem? (i := 0) rfl)) (snd_var (i := 0) rfl (by first | exact .inl rfl | exact .inr (.inl rfl) | exact .inr (.inr rfl)) rfl rfl) rfl rfl rfl rfl rfl) (sndA_cons (snd_mkk c (EV "InvalidTable" (List.mem_of_getElem? (i := 1) rfl)) (snd_var (i := 0) rfl (by first | exact .inl rfl | exact .inr (.inl rfl) | exact .inr (.inr rfl)) rfl rfl) rfl rfl rfl rfl rfl) (sndA_cons (snd_mkk c (EV "InvalidKinds" (List.mem_of_getElem? (i := 2) rfl)) (snd_var (i := 0) rfl (by first | exact .inl rfl | exact .inr (.inl rfl) | exact .inr (.inr rfl)) rfl rfl) rfl rfl rfl rfl rfl) sndA_nil rfl) rfl) rfl)) (sndG_name (i := 1) c.nd rfl (by first | exact .inl rfl | exact .inr rfl) (by first | exact .inl rfl | exact .inr rfl)) rfl rfl rfl) (sndB_cons (sndS_asg (c.add (snd_var (i := 1) rfl (by first | exact .inl rfl | exact .inr (.inl rfl) | exact .inr (.inr rfl)) rfl rfl) (snd_lst (sndA_cons (snd_mkk c (EV "InvalidMap" (List.mem_of_getElem? (i := 3) rfl)) (snd_var (i := 0) rfl (by first | exact .inl rfl | exact .inr (.inl rfl) | exact .inr (.inr rfl)) rfl rfl) rfl rfl rfl rfl rfl) (sndA_cons (snd_mkk c (EV "InvalidRow" (List.mem_of_getElem? (i := 4) rfl)) (snd_var (i := 0) rfl (by first | exact .inl rfl | exact .inr (.inl rfl) | exact .inr (.inr rfl)) rfl rfl) rfl rfl rfl rfl rfl) (sndA_cons (snd_mkk c (EV "InvalidGrouping" (List.mem_of_getElem? (i := 5) rfl)) (snd_var (i := 0) rfl (by first | exact .inl rfl | exact .inr (.inl rfl) | exact .inr (.inr rfl)) rfl rfl) rfl rfl rfl rfl rfl) sndA_nil rfl) rfl) rfl))) (sndG_name (i := 1) c.nd rfl (by first | exact .inl rfl | exact .inr rfl) (by first | exact .inl rfl | exact .inr rfl)) rfl rfl rfl) (sndB_cons (sndS_asg (c.add (snd_var (i := 1) rfl (by first | exact .inl rfl | exact .inr (.inl rfl) | exact .inr (.inr rfl)) rfl rfl) (snd_lst (sndA_cons (snd_mkk c (EV "InvalidBlock" (List.mem_of_getElem? (i := 6) rfl)) (snd_var (i := 0) rfl (by first | exact .inl rfl | exact .inr (.inl rfl) | exact .inr (.inr rfl)) rfl rfl) rfl rfl rfl rfl rfl) (sndA_cons (snd_mkk c (EV "InvalidTriples" (List.mem_of_getElem? (i := 7) rfl)) (snd_var (i := 0) rfl (by first | exact .inl rfl | exact .inr (.inl rfl) | exact .inr (.inr rfl)) rfl rfl) rfl rfl rfl rfl rfl) (sndA_cons (snd_mkk c (EV "InvalidRule" (List.mem_of_getElem? (i := 8) rfl)) (snd_var (i := 0) rfl (by first | exact .inl rfl | exact .inr (.inl rfl) | exact .inr (.inr rfl)) rfl rfl) rfl rfl rfl rfl rfl) sndA_nil rfl) rfl) rfl))) (sndG_name (i := 1) c.nd rfl (by first | exact .inl rfl | exact .inr rfl) (by first | exact .inl rfl | exact .inr rfl)) rfl rfl rfl) (sndB_cons (sndS_asg (c.add (snd_var (i := 1) rfl (by first | exact .inl rfl | exact .inr (.inl rfl) | exact .inr (.inr rfl)) rfl rfl) (snd_lst (sndA_cons (snd_mkk c (EV "InvalidDeed" (List.mem_of_getElem? (i := 9) rfl)) (snd_var (i := 0) rfl (by first | exact .inl rfl | exact .inr (.inl rfl) | exact .inr (.inr rfl)) rfl rfl) rfl rfl rfl rfl rfl) (sndA_cons (snd_mkk c (EV "InvalidChain" (List.mem_of_getElem? (i := 10) rfl)) (snd_var (i := 0) rfl (by first | exact .inl rfl | exact .inr (.inl rfl) | exact .inr (.inr rfl)) rfl rfl) rfl rfl rfl rfl rfl) (sndA_cons (snd_mkk c (EV "InvalidArrows" (List.mem_of_getElem? (i := 11) rfl)) (snd_var (i := 0) rfl (by first | exact .inl rfl | exact .inr (.inl rfl) | exact .inr (.inr rfl)) rfl rfl) rfl rfl rfl rfl rfl) sndA_nil rfl) rfl) rfl))) (sndG_name (i := 1) c.nd rfl (by first | exact .inl rfl | exact .inr rfl) (by first | exact .inl rfl | exact .inr rfl)) rfl rfl rfl) (sndB_cons (sndS_asg (c.add (snd_var (i := 1) rfl (by first | exact .inl rfl | exact .inr (.inl rfl) | exact .inr (.inr rfl)) rfl rfl) (snd_lst (sndA_cons (snd_mkk c (EV "InvalidLayers" (List.mem_of_getElem? (i := 12) rfl)) (snd_var (i := 0) rfl (by first | exact .inl rfl | exact .inr (.inl rfl) | exact .inr (.inr rfl)) rfl rfl) rfl rfl rfl rfl rfl) (sndA_cons (snd_mkk c (EV "InvalidComb" (List.mem_of_getElem? (i := 13) rfl)) (snd_var (i := 0) rfl (by first | exact .inl rfl | exact .inr (.inl rfl) | exact .inr (.inr rfl)) rfl rfl) rfl rfl rfl rfl rfl) (sndA_cons (snd_mkk c (EV "InvalidNumbers" (List.mem_of_getElem? (i := 14) rfl)) (snd_var (i := 0) rfl (by first | exact .inl rfl | exact .inr (.inl rfl) | exact .inr (.inr rfl)) rfl rfl) rfl rfl rfl rfl rfl) sndA_nil rfl) rfl) rfl))) (sndG_name (i := 1) c.nd rfl (by first | exact .inl rfl | exact .inr rfl) (by first | exact .inl rfl | exact .inr rfl)) rfl rfl rfl) (sndB_cons (sndS_asg (c.add (snd_var (i := 1) rfl (by first | exact .inl rfl | exact .inr (.inl rfl) | exact .inr (.inr rfl)) rfl rfl) (snd_lst (sndA_cons (snd_mkk c (EV "InvalidWord" (List.mem_of_getElem? (i := 15) rfl)) (snd_var (i := 0) rfl (by first | exact .inl rfl | exact .inr (.inl rfl) | exact .inr (.inr rfl)) rfl rfl) rfl rfl rfl rfl rfl) (sndA_cons (snd_mkk c (EV "InvalidFour" (List.mem_of_getElem? (i := 16) rfl)) (snd_var (i := 0) rfl (by first | exact .inl rfl | exact .inr (.inl rfl) | exact .inr (.inr rfl)) rfl rfl) rfl rfl rfl rfl rfl) (sndA_cons (snd_mkk c (EV "InvalidCount" (List.mem_of_getElem? (i := 17) rfl)) (snd_var (i := 0) rfl (by first | exact .inl rfl | exact .inr (.inl rfl) | exact .inr (.inr rfl)) rfl rfl) rfl rfl rfl rfl rfl) sndA_nil rfl) rfl) rfl))) (sndG_name (i := 1) c.nd rfl (by first | exact .inl rfl | exact .inr rfl) (by first | exact .inl rfl | exact .inr rfl)) rfl rfl rfl) (sndB_cons (sndS_asg (c.add (snd_var (i := 1) rfl (by first | exact .inl rfl | exact .inr (.inl rfl) | exact .inr (.inr rfl)) rfl rfl) (snd_lst (sndA_cons (snd_mkk c (EV "InvalidPlaces" (List.mem_of_getElem? (i := 18) rfl)) (snd_var (i := 0) rfl (by first | exact .inl rfl | exact .inr (.inl rfl) | exact .inr (.inr rfl)) rfl rfl) rfl rfl rfl rfl rfl) (sndA_cons (snd_mkk c (EV "InvalidBonds" (List.mem_of_getElem? (i := 19) rfl)) (snd_var (i := 0) rfl (by first | exact .inl rfl | exact .inr (.inl rfl) | exact .inr (.inr rfl)) rfl rfl) rfl rfl rfl rfl rfl) (sndA_cons (snd_mkk c (EV "InvalidChange" (List.mem_of_getElem? (i := 20) rfl)) (snd_var (i := 0) rfl (by first | exact .inl rfl | exact .inr (.inl rfl) | exact .inr (.inr rfl)) rfl rfl) rfl rfl rfl rfl rfl) sndA_nil rfl) rfl) rfl))) (sndG_name (i := 1) c.nd rfl (by first | exact .inl rfl | exact .inr rfl) (by first | exact .inl rfl | exact .inr rfl)) rfl rfl rfl) (sndB_cons (sndS_asg (c.add (snd_var (i := 1) rfl (by first | exact .inl rfl | exact .inr (.inl rfl) | exact .inr (.inr rfl)) rfl rfl) (snd_lst (sndA_cons (snd_mkk c (EV "InvalidChanges" (List.mem_of_getElem? (i := 21) rfl)) (snd_var (i := 0) rfl (by first | exact .inl rfl | exact .inr (.inl rfl) | exact .inr (.inr rfl)) rfl rfl) rfl rfl rfl rfl rfl) (sndA_cons (snd_mkk c (EV "InvalidShelf" (List.mem_of_getElem? (i := 22) rfl)) (snd_var (i := 0) rfl (by first | exact .inl rfl | exact .inr (.inl rfl) | exact .inr (.inr rfl)) rfl rfl) rfl rfl rfl rfl rfl) (sndA_cons (snd_mkk c (EV "InvalidSpot" (List.mem_of_getElem? (i := 23) rfl)) (snd_var (i := 0) rfl (by first | exact .inl rfl | exact .inr (.inl rfl) | exact .inr (.inr rfl)) rfl rfl) rfl rfl rfl rfl rfl) sndA_nil rfl) rfl) rfl))) (sndG_name (i := 1) c.nd rfl (by first | exact .inl rfl | exact .inr rfl) (by first | exact .inl rfl | exact .inr rfl)) rfl rfl rfl) (sndB_cons (sndS_asg (c.add (snd_var (i := 1) rfl (by first | exact .inl rfl | exact .inr (.inl rfl) | exact .inr (.inr rfl)) rfl rfl) (snd_lst (sndA_cons (snd_mkk c (EV "InvalidScript" (List.mem_of_getElem? (i := 24) rfl)) (snd_var (i := 0) rfl (by first | exact .inl rfl | exact .inr (.inl rfl) | exact .inr (.inr rfl)) rfl rfl) rfl rfl rfl rfl rfl) (sndA_cons (snd_mkk c (EV "InvalidText" (List.mem_of_getElem? (i := 25) rfl)) (snd_var (i := 0) rfl (by first | exact .inl rfl | exact .inr (.inl rfl) | exact .inr (.inr rfl)) rfl rfl) rfl rfl rfl rfl rfl) (sndA_cons (snd_mkk c (EV "InvalidLog" (List.mem_of_getElem? (i := 26) rfl)) (snd_var (i := 0) rfl (by first | exact .inl rfl | exact .inr (.inl rfl) | exact .inr (.inr rfl)) rfl rfl) rfl rfl rfl rfl rfl) sndA_nil rfl) rfl) rfl))) (sndG_name (i := 1) c.nd rfl (by first | exact .inl rfl | exact .inr rfl) (by first | exact .inl rfl | exact .inr rfl)) rfl rfl rfl) (sndB_cons (sndS_asg (c.add (snd_var (i := 1) rfl (by first | exact .inl rfl | exact .inr (.inl rfl) | exact .inr (.inr rfl)) rfl rfl) (snd_lst (sndA_cons (snd_mkk c (EV "Unlike" (List.mem_of_getElem? (i := 27) rfl)) (snd_var (i := 0) rfl (by first | exact .inl rfl | exact .inr (.inl rfl) | exact .inr (.inr rfl)) rfl rfl) rfl rfl rfl rfl rfl) (sndA_cons (snd_mkk c (EV "Unsettled" (List.mem_of_getElem? (i := 28) rfl)) (snd_var (i := 0) rfl (by first | exact .inl rfl | exact .inr (.inl rfl) | exact .inr (.inr rfl)) rfl rfl) rfl rfl rfl rfl rfl) (sndA_cons (snd_mkk c (EV "Apart" (List.mem_of_getElem? (i := 29) rfl)) (snd_var (i := 0) rfl (by first | exact .inl rfl | exact .inr (.inl rfl) | exact .inr (.inr rfl)) rfl rfl) rfl rfl rfl rfl rfl) (sndA_cons (snd_mkk c (EV "Refused" (List.mem_of_getElem? (i := 30) rfl)) (snd_var (i := 0) rfl (by first | exact .inl rfl | exact .inr (.inl rfl) | exact .inr (.inr rfl)) rfl rfl) rfl rfl rfl rfl rfl) sndA_nil rfl) rfl) rfl) rfl))) (sndG_name (i := 1) c.nd rfl (by first | exact .inl rfl | exact .inr rfl) (by first | exact .inl rfl | exact .inr rfl)) rfl rfl rfl) (sndB_cons (sndS_ret (snd_var (i := 1) rfl (by first | exact .inl rfl | exact .inr (.inl rfl) | exact .inr (.inr rfl)) rfl rfl)) sndB_nil)))))))))))
def N44 : List Str := ["_law_found"]
theorem sc44 : FnScope N44 [] (defScope (top 44)) := ⟨rfl, rfl, rfl, by decide +kernel, rfl, by decide +kernel, by decide +kernel⟩
def a44 : Sf := (bCons (sAsg (eLst (aCons (eMk0 "InvalidKind") (aCons (eMk0 "InvalidTable") (aCons (eMk0 "InvalidKinds") (aCons (eMk0 "InvalidMap") (aCons (eMk0 "InvalidRow") (aCons (eMk0 "InvalidGrouping") aNil))))))) (gN 0)) (bCons (sAsg (bin (eV 0) (eLst (aCons (eMk0 "InvalidBlock") (aCons (eMk0 "InvalidTriples") (aCons (eMk0 "InvalidRule") (aCons (eMk0 "InvalidDeed") (aCons (eMk0 "InvalidChain") aNil)))))) fAdd) (gN 0)) (bCons (sAsg (bin (eV 0) (eLst (aCons (eMk0 "InvalidArrows") (aCons (eMk0 "InvalidLayers") (aCons (eMk0 "InvalidComb") (aCons (eMk0 "InvalidNumbers") (aCons (eMk0 "InvalidWord") aNil)))))) fAdd) (gN 0)) (bCons (sAsg (bin (eV 0) (eLst (aCons (eMk0 "InvalidFour") (aCons (eMk0 "InvalidCount") (aCons (eMk0 "InvalidPlaces") (aCons (eMk0 "InvalidBonds") (aCons (eMk0 "InvalidChange") aNil)))))) fAdd) (gN 0)) (bCons (sAsg (bin (eV 0) (eLst (aCons (eMk0 "InvalidChanges") (aCons (eMk0 "InvalidShelf") (aCons (eMk0 "InvalidSpot") (aCons (eMk0 "InvalidScript") (aCons (eMk0 "InvalidText") aNil)))))) fAdd) (gN 0)) (bCons (sAsg (bin (eV 0) (eLst (aCons (eMk0 "InvalidLog") (aCons (eMk0 "Unlike") (aCons (eMk0 "Unsettled") (aCons (eMk0 "Apart") (aCons (eMk0 "Refused") aNil)))))) fAdd) (gN 0)) (bCons (sRet (eV 0)) bNil)))))))
abbrev h44 : Bf := bodyF N44.length a44
theorem s44 {P : Program} {w : World} {K : Kw} {mg : Str → Option Value} {base : Heap} (hw : K.w = w) (G : Fr mg) (Z : Oth P K mg) {f : Addr} {fd : FuncData} (F : FunD K.fr "_law_bare" "_law_bare" (defArgs (top 44)) (defBody (top 44)) (defScope (top 44)) [] [] f fd) (hm : mg "_law_bare" = some (.ref f)) : Kf P w K mg base 2 "_law_bare" 0 h44 := kf_of F sc44 hm (fun _ _ _ _ _ _ us hl => match us, hl with | [], _ => rfl) rfl fun cdv A outer s H E hgd hr => by
  have c : Cc (fcx P w K.fr mg base N44 "_law_bare" (defScope (top 44)) f cdv A outer s H E) (p0 K) := ⟨rfl, hw, rfl, sc44.nd, hr.mono (by decide), hgd⟩
  have EV := Z.ev
  have EN := Z.en
  have EO := Z.eo
  have hct := Z.ct
  have hS := Z.sys
  exact (sndB_cons (sndS_asg (snd_lst (sndA_cons (snd_mk0 c (EV "InvalidKind" (List.mem_of_getElem? (i := 0) rfl)) rfl rfl) (sndA_cons (snd_mk0 c (EV "InvalidTable" (List.mem_of_getElem? (i := 1) rfl)) rfl rfl) (sndA_cons (snd_mk0 c (EV "InvalidKinds" (List.mem_of_getElem? (i := 2) rfl)) rfl rfl) (sndA_cons (snd_mk0 c (EV "InvalidMap" (List.mem_of_getElem? (i := 3) rfl)) rfl rfl) (sndA_cons (snd_mk0 c (EV "InvalidRow" (List.mem_of_getElem? (i := 4) rfl)) rfl rfl) (sndA_cons (snd_mk0 c (EV "InvalidGrouping" (List.mem_of_getElem? (i := 5) rfl)) rfl rfl) sndA_nil rfl) rfl) rfl) rfl) rfl) rfl)) (sndG_name (i := 0) c.nd rfl (by first | exact .inl rfl | exact .inr rfl) (by first | exact .inl rfl | exact .inr rfl)) rfl rfl rfl) (sndB_cons (sndS_asg (c.add (snd_var (i := 0) rfl (by first | exact .inl rfl | exact .inr (.inl rfl) | exact .inr (.inr rfl)) rfl rfl) (snd_lst (sndA_cons (snd_mk0 c (EV "InvalidBlock" (List.mem_of_getElem? (i := 6) rfl)) rfl rfl) (sndA_cons (snd_mk0 c (EV "InvalidTriples" (List.mem_of_getElem? (i := 7) rfl)) rfl rfl) (sndA_cons (snd_mk0 c (EV "InvalidRule" (List.mem_of_getElem? (i := 8) rfl)) rfl rfl) (sndA_cons (snd_mk0 c (EV "InvalidDeed" (List.mem_of_getElem? (i := 9) rfl)) rfl rfl) (sndA_cons (snd_mk0 c (EV "InvalidChain" (List.mem_of_getElem? (i := 10) rfl)) rfl rfl) sndA_nil rfl) rfl) rfl) rfl) rfl))) (sndG_name (i := 0) c.nd rfl (by first | exact .inl rfl | exact .inr rfl) (by first | exact .inl rfl | exact .inr rfl)) rfl rfl rfl) (sndB_cons (sndS_asg (c.add (snd_var (i := 0) rfl (by first | exact .inl rfl | exact .inr (.inl rfl) | exact .inr (.inr rfl)) rfl rfl) (snd_lst (sndA_cons (snd_mk0 c (EV "InvalidArrows" (List.mem_of_getElem? (i := 11) rfl)) rfl rfl) (sndA_cons (snd_mk0 c (EV "InvalidLayers" (List.mem_of_getElem? (i := 12) rfl)) rfl rfl) (sndA_cons (snd_mk0 c (EV "InvalidComb" (List.mem_of_getElem? (i := 13) rfl)) rfl rfl) (sndA_cons (snd_mk0 c (EV "InvalidNumbers" (List.mem_of_getElem? (i := 14) rfl)) rfl rfl) (sndA_cons (snd_mk0 c (EV "InvalidWord" (List.mem_of_getElem? (i := 15) rfl)) rfl rfl) sndA_nil rfl) rfl) rfl) rfl) rfl))) (sndG_name (i := 0) c.nd rfl (by first | exact .inl rfl | exact .inr rfl) (by first | exact .inl rfl | exact .inr rfl)) rfl rfl rfl) (sndB_cons (sndS_asg (c.add (snd_var (i := 0) rfl (by first | exact .inl rfl | exact .inr (.inl rfl) | exact .inr (.inr rfl)) rfl rfl) (snd_lst (sndA_cons (snd_mk0 c (EV "InvalidFour" (List.mem_of_getElem? (i := 16) rfl)) rfl rfl) (sndA_cons (snd_mk0 c (EV "InvalidCount" (List.mem_of_getElem? (i := 17) rfl)) rfl rfl) (sndA_cons (snd_mk0 c (EV "InvalidPlaces" (List.mem_of_getElem? (i := 18) rfl)) rfl rfl) (sndA_cons (snd_mk0 c (EV "InvalidBonds" (List.mem_of_getElem? (i := 19) rfl)) rfl rfl) (sndA_cons (snd_mk0 c (EV "InvalidChange" (List.mem_of_getElem? (i := 20) rfl)) rfl rfl) sndA_nil rfl) rfl) rfl) rfl) rfl))) (sndG_name (i := 0) c.nd rfl (by first | exact .inl rfl | exact .inr rfl) (by first | exact .inl rfl | exact .inr rfl)) rfl rfl rfl) (sndB_cons (sndS_asg (c.add (snd_var (i := 0) rfl (by first | exact .inl rfl | exact .inr (.inl rfl) | exact .inr (.inr rfl)) rfl rfl) (snd_lst (sndA_cons (snd_mk0 c (EV "InvalidChanges" (List.mem_of_getElem? (i := 21) rfl)) rfl rfl) (sndA_cons (snd_mk0 c (EV "InvalidShelf" (List.mem_of_getElem? (i := 22) rfl)) rfl rfl) (sndA_cons (snd_mk0 c (EV "InvalidSpot" (List.mem_of_getElem? (i := 23) rfl)) rfl rfl) (sndA_cons (snd_mk0 c (EV "InvalidScript" (List.mem_of_getElem? (i := 24) rfl)) rfl rfl) (sndA_cons (snd_mk0 c (EV "InvalidText" (List.mem_of_getElem? (i := 25) rfl)) rfl rfl) sndA_nil rfl) rfl) rfl) rfl) rfl))) (sndG_name (i := 0) c.nd rfl (by first | exact .inl rfl | exact .inr rfl) (by first | exact .inl rfl | exact .inr rfl)) rfl rfl rfl) (sndB_cons (sndS_asg (c.add (snd_var (i := 0) rfl (by first | exact .inl rfl | exact .inr (.inl rfl) | exact .inr (.inr rfl)) rfl rfl) (snd_lst (sndA_cons (snd_mk0 c (EV "InvalidLog" (List.mem_of_getElem? (i := 26) rfl)) rfl rfl) (sndA_cons (snd_mk0 c (EV "Unlike" (List.mem_of_getElem? (i := 27) rfl)) rfl rfl) (sndA_cons (snd_mk0 c (EV "Unsettled" (List.mem_of_getElem? (i := 28) rfl)) rfl rfl) (sndA_cons (snd_mk0 c (EV "Apart" (List.mem_of_getElem? (i := 29) rfl)) rfl rfl) (sndA_cons (snd_mk0 c (EV "Refused" (List.mem_of_getElem? (i := 30) rfl)) rfl rfl) sndA_nil rfl) rfl) rfl) rfl) rfl))) (sndG_name (i := 0) c.nd rfl (by first | exact .inl rfl | exact .inr rfl) (by first | exact .inl rfl | exact .inr rfl)) rfl rfl rfl) (sndB_cons (sndS_ret (snd_var (i := 0) rfl (by first | exact .inl rfl | exact .inr (.inl rfl) | exact .inr (.inr rfl)) rfl rfl)) sndB_nil)))))))
def N45 : List Str := ["_law_error", "_law_found", "_law_at"]
theorem sc45 : FnScope N45 ["_law_error"] (defScope (top 45)) := ⟨rfl, rfl, rfl, by decide +kernel, rfl, by decide +kernel, by decide +kernel⟩
def a45 : Sf := (bCons (sAsg (eLst (aCons (eIsi ctE (eV 0) [.own "InvalidKind"]) (aCons (eIsi ctE (eV 0) [.own "InvalidTable"]) (aCons (eIsi ctE (eV 0) [.own "InvalidKinds"]) aNil)))) (gN 1)) (bCons (sAsg (bin (eV 1) (eLst (aCons (eIsi ctE (eV 0) [.own "InvalidMap"]) (aCons (eIsi ctE (eV 0) [.own "InvalidRow"]) aNil))) fAdd) (gN 1)) (bCons (sAsg (bin (eV 1) (eLst (aCons (eIsi ctE (eV 0) [.own "InvalidGrouping"]) (aCons (eIsi ctE (eV 0) [.own "InvalidBlock"]) aNil))) fAdd) (gN 1)) (bCons (sAsg (bin (eV 1) (eLst (aCons (eIsi ctE (eV 0) [.own "InvalidTriples"]) (aCons (eIsi ctE (eV 0) [.own "InvalidRule"]) aNil))) fAdd) (gN 1)) (bCons (sAsg (bin (eV 1) (eLst (aCons (eIsi ctE (eV 0) [.own "InvalidDeed"]) (aCons (eIsi ctE (eV 0) [.own "InvalidChain"]) aNil))) fAdd) (gN 1)) (bCons (sAsg (bin (eV 1) (eLst (aCons (eIsi ctE (eV 0) [.own "InvalidArrows"]) (aCons (eIsi ctE (eV 0) [.own "InvalidLayers"]) aNil))) fAdd) (gN 1)) (bCons (sAsg (bin (eV 1) (eLst (aCons (eIsi ctE (eV 0) [.own "InvalidComb"]) (aCons (eIsi ctE (eV 0) [.own "InvalidNumbers"]) aNil))) fAdd) (gN 1)) (bCons (sAsg (bin (eV 1) (eLst (aCons (eIsi ctE (eV 0) [.own "InvalidWord"]) (aCons (eIsi ctE (eV 0) [.own "InvalidFour"]) aNil))) fAdd) (gN 1)) (bCons (sAsg (bin (eV 1) (eLst (aCons (eIsi ctE (eV 0) [.own "InvalidCount"]) (aCons (eIsi ctE (eV 0) [.own "InvalidPlaces"]) aNil))) fAdd) (gN 1)) (bCons (sAsg (bin (eV 1) (eLst (aCons (eIsi ctE (eV 0) [.own "InvalidBonds"]) (aCons (eIsi ctE (eV 0) [.own "InvalidChange"]) aNil))) fAdd) (gN 1)) (bCons (sAsg (bin (eV 1) (eLst (aCons (eIsi ctE (eV 0) [.own "InvalidChanges"]) (aCons (eIsi ctE (eV 0) [.own "InvalidShelf"]) aNil))) fAdd) (gN 1)) (bCons (sAsg (bin (eV 1) (eLst (aCons (eIsi ctE (eV 0) [.own "InvalidSpot"]) (aCons (eIsi ctE (eV 0) [.own "InvalidScript"]) aNil))) fAdd) (gN 1)) (bCons (sAsg (bin (eV 1) (eLst (aCons (eIsi ctE (eV 0) [.own "InvalidText"]) (aCons (eIsi ctE (eV 0) [.own "InvalidLog"]) (aCons (eIsi ctE (eV 0) [.own "Unlike"]) aNil)))) fAdd) (gN 1)) (bCons (sAsg (bin (eV 1) (eLst (aCons (eIsi ctE (eV 0) [.own "Unsettled"]) (aCons (eIsi ctE (eV 0) [.own "Apart"]) (aCons (eIsi ctE (eV 0) [.own "Refused"]) aNil)))) fAdd) (gN 1)) (bCons (sAsg (bin (eV 1) (eLst (aCons (eIsi ctE (eV 0) [.own "NothingToUndo"]) (aCons (eIsi ctE (eV 0) [.own "NothingToRedo"]) aNil))) fAdd) (gN 1)) (bCons (sRet (eLc (iR1 (aCons (eB (aCons (eV 1) aNil) (bOr fLen fLenD)) aNil)) (gN 2) [2] (tTr (bin (eV 1) (eV 2) fIxA)) (eV 2))) bNil))))))))))))))))
abbrev h45 : Bf := bodyF N45.length a45
theorem s45 {P : Program} {w : World} {K : Kw} {mg : Str → Option Value} {base : Heap} (hw : K.w = w) (G : Fr mg) (Z : Oth P K mg) {f : Addr} {fd : FuncData} (F : FunD K.fr "_law_code" "_law_code" (defArgs (top 45)) (defBody (top 45)) (defScope (top 45)) [] [] f fd) (hm : mg "_law_code" = some (.ref f)) : Kf P w K mg base 2 "_law_code" 1 h45 := kf_of F sc45 hm (fun _ _ _ _ _ _ us hl => match us, hl with | [_], _ => rfl) rfl fun cdv A outer s H E hgd hr => by
  have c : Cc (fcx P w K.fr mg base N45 "_law_code" (defScope (top 45)) f cdv A outer s H E) (p0 K) := ⟨rfl, hw, rfl, sc45.nd, hr.mono (by decide), hgd⟩
  have EV := Z.ev
  have EN := Z.en
  have EO := Z.eo
  have hct := Z.ct
  have hS := Z.sys
  exact (sndB_cons (sndS_asg (snd_lst (sndA_cons (c.isiO hct rfl G.isinstance (snd_var (i := 0) rfl (by first | exact .inl rfl | exact .inr (.inl rfl) | exact .inr (.inr rfl)) rfl rfl) (EO "InvalidKind" (List.mem_of_getElem? (i := 0) rfl)) rfl rfl rfl rfl rfl) (sndA_cons (c.isiO hct rfl G.isinstance (snd_var (i := 0) rfl (by first | exact .inl rfl | exact .inr (.inl rfl) | exact .inr (.inr rfl)) rfl rfl) (EO "InvalidTable" (List.mem_of_getElem? (i := 1) rfl)) rfl rfl rfl rfl rfl) (sndA_cons (c.isiO hct rfl G.isinstance (snd_var (i := 0) rfl (by first | exact .inl rfl | exact .inr (.inl rfl) | exact .inr (.inr rfl)) rfl rfl) (EO "InvalidKinds" (List.mem_of_getElem? (i := 2) rfl)) rfl rfl rfl rfl rfl) sndA_nil rfl) rfl) rfl)) (sndG_name (i := 1) c.nd rfl (by first | exact .inl rfl | exact .inr rfl) (by first | exact .inl rfl | exact .inr rfl)) rfl rfl rfl) (sndB_cons (sndS_asg (c.add (snd_var (i := 1) rfl (by first | exact .inl rfl | exact .inr (.inl rfl) | exact .inr (.inr rfl)) rfl rfl) (snd_lst (sndA_cons (c.isiO hct rfl G.isinstance (snd_var (i := 0) rfl (by first | exact .inl rfl | exact .inr (.inl rfl) | exact .inr (.inr rfl)) rfl rfl) (EO "InvalidMap" (List.mem_of_getElem? (i := 3) rfl)) rfl rfl rfl rfl rfl) (sndA_cons (c.isiO hct rfl G.isinstance (snd_var (i := 0) rfl (by first | exact .inl rfl | exact .inr (.inl rfl) | exact .inr (.inr rfl)) rfl rfl) (EO "InvalidRow" (List.mem_of_getElem? (i := 4) rfl)) rfl rfl rfl rfl rfl) sndA_nil rfl) rfl))) (sndG_name (i := 1) c.nd rfl (by first | exact .inl rfl | exact .inr rfl) (by first | exact .inl rfl | exact .inr rfl)) rfl rfl rfl) (sndB_cons (sndS_asg (c.add (snd_var (i := 1) rfl (by first | exact .inl rfl | exact .inr (.inl rfl) | exact .inr (.inr rfl)) rfl rfl) (snd_lst (sndA_cons (c.isiO hct rfl G.isinstance (snd_var (i := 0) rfl (by first | exact .inl rfl | exact .inr (.inl rfl) | exact .inr (.inr rfl)) rfl rfl) (EO "InvalidGrouping" (List.mem_of_getElem? (i := 5) rfl)) rfl rfl rfl rfl rfl) (sndA_cons (c.isiO hct rfl G.isinstance (snd_var (i := 0) rfl (by first | exact .inl rfl | exact .inr (.inl rfl) | exact .inr (.inr rfl)) rfl rfl) (EO "InvalidBlock" (List.mem_of_getElem? (i := 6) rfl)) rfl rfl rfl rfl rfl) sndA_nil rfl) rfl))) (sndG_name (i := 1) c.nd rfl (by first | exact .inl rfl | exact .inr rfl) (by first | exact .inl rfl | exact .inr rfl)) rfl rfl rfl) (sndB_cons (sndS_asg (c.add (snd_var (i := 1) rfl (by first | exact .inl rfl | exact .inr (.inl rfl) | exact .inr (.inr rfl)) rfl rfl) (snd_lst (sndA_cons (c.isiO hct rfl G.isinstance (snd_var (i := 0) rfl (by first | exact .inl rfl | exact .inr (.inl rfl) | exact .inr (.inr rfl)) rfl rfl) (EO "InvalidTriples" (List.mem_of_getElem? (i := 7) rfl)) rfl rfl rfl rfl rfl) (sndA_cons (c.isiO hct rfl G.isinstance (snd_var (i := 0) rfl (by first | exact .inl rfl | exact .inr (.inl rfl) | exact .inr (.inr rfl)) rfl rfl) (EO "InvalidRule" (List.mem_of_getElem? (i := 8) rfl)) rfl rfl rfl rfl rfl) sndA_nil rfl) rfl))) (sndG_name (i := 1) c.nd rfl (by first | exact .inl rfl | exact .inr rfl) (by first | exact .inl rfl | exact .inr rfl)) rfl rfl rfl) (sndB_cons (sndS_asg (c.add (snd_var (i := 1) rfl (by first | exact .inl rfl | exact .inr (.inl rfl) | exact .inr (.inr rfl)) rfl rfl) (snd_lst (sndA_cons (c.isiO hct rfl G.isinstance (snd_var (i := 0) rfl (by first | exact .inl rfl | exact .inr (.inl rfl) | exact .inr (.inr rfl)) rfl rfl) (EO "InvalidDeed" (List.mem_of_getElem? (i := 9) rfl)) rfl rfl rfl rfl rfl) (sndA_cons (c.isiO hct rfl G.isinstance (snd_var (i := 0) rfl (by first | exact .inl rfl | exact .inr (.inl rfl) | exact .inr (.inr rfl)) rfl rfl) (EO "InvalidChain" (List.mem_of_getElem? (i := 10) rfl)) rfl rfl rfl rfl rfl) sndA_nil rfl) rfl))) (sndG_name (i := 1) c.nd rfl (by first | exact .inl rfl | exact .inr rfl) (by first | exact .inl rfl | exact .inr rfl)) rfl rfl rfl) (sndB_cons (sndS_asg (c.add (snd_var (i := 1) rfl (by first | exact .inl rfl | exact .inr (.inl rfl) | exact .inr (.inr rfl)) rfl rfl) (snd_lst (sndA_cons (c.isiO hct rfl G.isinstance (snd_var (i := 0) rfl (by first | exact .inl rfl | exact .inr (.inl rfl) | exact .inr (.inr rfl)) rfl rfl) (EO "InvalidArrows" (List.mem_of_getElem? (i := 11) rfl)) rfl rfl rfl rfl rfl) (sndA_cons (c.isiO hct rfl G.isinstance (snd_var (i := 0) rfl (by first | exact .inl rfl | exact .inr (.inl rfl) | exact .inr (.inr rfl)) rfl rfl) (EO "InvalidLayers" (List.mem_of_getElem? (i := 12) rfl)) rfl rfl rfl rfl rfl) sndA_nil rfl) rfl))) (sndG_name (i := 1) c.nd rfl (by first | exact .inl rfl | exact .inr rfl) (by first | exact .inl rfl | exact .inr rfl)) rfl rfl rfl) (sndB_cons (sndS_asg (c.add (snd_var (i := 1) rfl (by first | exact .inl rfl | exact .inr (.inl rfl) | exact .inr (.inr rfl)) rfl rfl) (snd_lst (sndA_cons (c.isiO hct rfl G.isinstance (snd_var (i := 0) rfl (by first | exact .inl rfl | exact .inr (.inl rfl) | exact .inr (.inr rfl)) rfl rfl) (EO "InvalidComb" (List.mem_of_getElem? (i := 13) rfl)) rfl rfl rfl rfl rfl) (sndA_cons (c.isiO hct rfl G.isinstance (snd_var (i := 0) rfl (by first | exact .inl rfl | exact .inr (.inl rfl) | exact .inr (.inr rfl)) rfl rfl) (EO "InvalidNumbers" (List.mem_of_getElem? (i := 14) rfl)) rfl rfl rfl rfl rfl) sndA_nil rfl) rfl))) (sndG_name (i := 1) c.nd rfl (by first | exact .inl rfl | exact .inr rfl) (by first | exact .inl rfl | exact .inr rfl)) rfl rfl rfl) (sndB_cons (sndS_asg (c.add (snd_var (i := 1) rfl (by first | exact .inl rfl | exact .inr (.inl rfl) | exact .inr (.inr rfl)) rfl rfl) (snd_lst (sndA_cons (c.isiO hct rfl G.isinstance (snd_var (i := 0) rfl (by first | exact .inl rfl | exact .inr (.inl rfl) | exact .inr (.inr rfl)) rfl rfl) (EO "InvalidWord" (List.mem_of_getElem? (i := 15) rfl)) rfl rfl rfl rfl rfl) (sndA_cons (c.isiO hct rfl G.isinstance (snd_var (i := 0) rfl (by first | exact .inl rfl | exact .inr (.inl rfl) | exact .inr (.inr rfl)) rfl rfl) (EO "InvalidFour" (List.mem_of_getElem? (i := 16) rfl)) rfl rfl rfl rfl rfl) sndA_nil rfl) rfl))) (sndG_name (i := 1) c.nd rfl (by first | exact .inl rfl | exact .inr rfl) (by first | exact .inl rfl | exact .inr rfl)) rfl rfl rfl) (sndB_cons (sndS_asg (c.add (snd_var (i := 1) rfl (by first | exact .inl rfl | exact .inr (.inl rfl) | exact .inr (.inr rfl)) rfl rfl) (snd_lst (sndA_cons (c.isiO hct rfl G.isinstance (snd_var (i := 0) rfl (by first | exact .inl rfl | exact .inr (.inl rfl) | exact .inr (.inr rfl)) rfl rfl) (EO "InvalidCount" (List.mem_of_getElem? (i := 17) rfl)) rfl rfl rfl rfl rfl) (sndA_cons (c.isiO hct rfl G.isinstance (snd_var (i := 0) rfl (by first | exact .inl rfl | exact .inr (.inl rfl) | exact .inr (.inr rfl)) rfl rfl) (EO "InvalidPlaces" (List.mem_of_getElem? (i := 18) rfl)) rfl rfl rfl rfl rfl) sndA_nil rfl) rfl))) (sndG_name (i := 1) c.nd rfl (by first | exact .inl rfl | exact .inr rfl) (by first | exact .inl rfl | exact .inr rfl)) rfl rfl rfl) (sndB_cons (sndS_asg (c.add (snd_var (i := 1) rfl (by first | exact .inl rfl | exact .inr (.inl rfl) | exact .inr (.inr rfl)) rfl rfl) (snd_lst (sndA_cons (c.isiO hct rfl G.isinstance (snd_var (i := 0) rfl (by first | exact .inl rfl | exact .inr (.inl rfl) | exact .inr (.inr rfl)) rfl rfl) (EO "InvalidBonds" (List.mem_of_getElem? (i := 19) rfl)) rfl rfl rfl rfl rfl) (sndA_cons (c.isiO hct rfl G.isinstance (snd_var (i := 0) rfl (by first | exact .inl rfl | exact .inr (.inl rfl) | exact .inr (.inr rfl)) rfl rfl) (EO "InvalidChange" (List.mem_of_getElem? (i := 20) rfl)) rfl rfl rfl rfl rfl) sndA_nil rfl) rfl))) (sndG_name (i := 1) c.nd rfl (by first | exact .inl rfl | exact .inr rfl) (by first | exact .inl rfl | exact .inr rfl)) rfl rfl rfl) (sndB_cons (sndS_asg (c.add (snd_var (i := 1) rfl (by first | exact .inl rfl | exact .inr (.inl rfl) | exact .inr (.inr rfl)) rfl rfl) (snd_lst (sndA_cons (c.isiO hct rfl G.isinstance (snd_var (i := 0) rfl (by first | exact .inl rfl | exact .inr (.inl rfl) | exact .inr (.inr rfl)) rfl rfl) (EO "InvalidChanges" (List.mem_of_getElem? (i := 21) rfl)) rfl rfl rfl rfl rfl) (sndA_cons (c.isiO hct rfl G.isinstance (snd_var (i := 0) rfl (by first | exact .inl rfl | exact .inr (.inl rfl) | exact .inr (.inr rfl)) rfl rfl) (EO "InvalidShelf" (List.mem_of_getElem? (i := 22) rfl)) rfl rfl rfl rfl rfl) sndA_nil rfl) rfl))) (sndG_name (i := 1) c.nd rfl (by first | exact .inl rfl | exact .inr rfl) (by first | exact .inl rfl | exact .inr rfl)) rfl rfl rfl) (sndB_cons (sndS_asg (c.add (snd_var (i := 1) rfl (by first | exact .inl rfl | exact .inr (.inl rfl) | exact .inr (.inr rfl)) rfl rfl) (snd_lst (sndA_cons (c.isiO hct rfl G.isinstance (snd_var (i := 0) rfl (by first | exact .inl rfl | exact .inr (.inl rfl) | exact .inr (.inr rfl)) rfl rfl) (EO "InvalidSpot" (List.mem_of_getElem? (i := 23) rfl)) rfl rfl rfl rfl rfl) (sndA_cons (c.isiO hct rfl G.isinstance (snd_var (i := 0) rfl (by first | exact .inl rfl | exact .inr (.inl rfl) | exact .inr (.inr rfl)) rfl rfl) (EO "InvalidScript" (List.mem_of_getElem? (i := 24) rfl)) rfl rfl rfl rfl rfl) sndA_nil rfl) rfl))) (sndG_name (i := 1) c.nd rfl (by first | exact .inl rfl | exact .inr rfl) (by first | exact .inl rfl | exact .inr rfl)) rfl rfl rfl) (sndB_cons (sndS_asg (c.add (snd_var (i := 1) rfl (by first | exact .inl rfl | exact .inr (.inl rfl) | exact .inr (.inr rfl)) rfl rfl) (snd_lst (sndA_cons (c.isiO hct rfl G.isinstance (snd_var (i := 0) rfl (by first | exact .inl rfl | exact .inr (.inl rfl) | exact .inr (.inr rfl)) rfl rfl) (EO "InvalidText" (List.mem_of_getElem? (i := 25) rfl)) rfl rfl rfl rfl rfl) (sndA_cons (c.isiO hct rfl G.isinstance (snd_var (i := 0) rfl (by first | exact .inl rfl | exact .inr (.inl rfl) | exact .inr (.inr rfl)) rfl rfl) (EO "InvalidLog" (List.mem_of_getElem? (i := 26) rfl)) rfl rfl rfl rfl rfl) (sndA_cons (c.isiO hct rfl G.isinstance (snd_var (i := 0) rfl (by first | exact .inl rfl | exact .inr (.inl rfl) | exact .inr (.inr rfl)) rfl rfl) (EO "Unlike" (List.mem_of_getElem? (i := 27) rfl)) rfl rfl rfl rfl rfl) sndA_nil rfl) rfl) rfl))) (sndG_name (i := 1) c.nd rfl (by first | exact .inl rfl | exact .inr rfl) (by first | exact .inl rfl | exact .inr rfl)) rfl rfl rfl) (sndB_cons (sndS_asg (c.add (snd_var (i := 1) rfl (by first | exact .inl rfl | exact .inr (.inl rfl) | exact .inr (.inr rfl)) rfl rfl) (snd_lst (sndA_cons (c.isiO hct rfl G.isinstance (snd_var (i := 0) rfl (by first | exact .inl rfl | exact .inr (.inl rfl) | exact .inr (.inr rfl)) rfl rfl) (EO "Unsettled" (List.mem_of_getElem? (i := 28) rfl)) rfl rfl rfl rfl rfl) (sndA_cons (c.isiO hct rfl G.isinstance (snd_var (i := 0) rfl (by first | exact .inl rfl | exact .inr (.inl rfl) | exact .inr (.inr rfl)) rfl rfl) (EO "Apart" (List.mem_of_getElem? (i := 29) rfl)) rfl rfl rfl rfl rfl) (sndA_cons (c.isiO hct rfl G.isinstance (snd_var (i := 0) rfl (by first | exact .inl rfl | exact .inr (.inl rfl) | exact .inr (.inr rfl)) rfl rfl) (EO "Refused" (List.mem_of_getElem? (i := 30) rfl)) rfl rfl rfl rfl rfl) sndA_nil rfl) rfl) rfl))) (sndG_name (i := 1) c.nd rfl (by first | exact .inl rfl | exact .inr rfl) (by first | exact .inl rfl | exact .inr rfl)) rfl rfl rfl) (sndB_cons (sndS_asg (c.add (snd_var (i := 1) rfl (by first | exact .inl rfl | exact .inr (.inl rfl) | exact .inr (.inr rfl)) rfl rfl) (snd_lst (sndA_cons (c.isiO hct rfl G.isinstance (snd_var (i := 0) rfl (by first | exact .inl rfl | exact .inr (.inl rfl) | exact .inr (.inr rfl)) rfl rfl) (EO "NothingToUndo" (List.mem_of_getElem? (i := 31) rfl)) rfl rfl rfl rfl rfl) (sndA_cons (c.isiO hct rfl G.isinstance (snd_var (i := 0) rfl (by first | exact .inl rfl | exact .inr (.inl rfl) | exact .inr (.inr rfl)) rfl rfl) (EO "NothingToRedo" (List.mem_of_getElem? (i := 32) rfl)) rfl rfl rfl rfl rfl) sndA_nil rfl) rfl))) (sndG_name (i := 1) c.nd rfl (by first | exact .inl rfl | exact .inr rfl) (by first | exact .inl rfl | exact .inr rfl)) rfl rfl rfl) (sndB_cons (sndS_ret (snd_lc (own := [("_law_at", 2)]) (blkS_mk [("_law_at", 2)] [2] c.calm c.nd (blkOk_by (by first | rfl | decide +kernel)) (by decide) (fun s0 H0 C0 cl0 fp0 => (sndG_name (i := 2) (c.blk s0 H0 _ _ _).nd rfl (by first | exact .inl rfl | exact .inr rfl) (by first | exact .inl rfl | exact .inr rfl))) (fun s0 H0 C0 cl0 fp0 => (sndTs_one ((c.blk s0 H0 _ _ _).truth ((c.blk s0 H0 _ _ _).ix (snd_var (i := 1) rfl (by first | exact .inl rfl | exact .inr (.inl rfl) | exact .inr (.inr rfl)) rfl rfl) (snd_var (i := 2) rfl (by first | exact .inl rfl | exact .inr (.inl rfl) | exact .inr (.inr rfl)) rfl rfl) (fun _ _ => rfl)) (fun _ => rfl))))) (sndI_range1 rfl G.range (sndA_cons (c.len rfl G.len (sndA_cons (snd_var (i := 1) rfl (by first | exact .inl rfl | exact .inr (.inl rfl) | exact .inr (.inr rfl)) rfl rfl) sndA_nil rfl) rfl rfl) sndA_nil rfl) rfl) (fun s0 H0 C0 cl0 fp0 => (snd_var (i := 2) rfl (by first | exact .inl rfl | exact .inr (.inl rfl) | exact .inr (.inr rfl)) rfl rfl)) (fun _ => rfl))) sndB_nil))))))))))))))))
def N46 : List Str := ["_law_error"]
theorem sc46 : FnScope N46 ["_law_error"] (defScope (top 46)) := ⟨rfl, rfl, rfl, by decide +kernel, rfl, by decide +kernel, by decide +kernel⟩
def a46 : Sf := (bCons (sRet (eAnd (eIsi ctE (eV 0) [.own "KindError"]) (eIsi ctE (eV 0) [.ty "ValueError"]))) bNil)
abbrev h46 : Bf := bodyF N46.length a46
theorem s46 {P : Program} {w : World} {K : Kw} {mg : Str → Option Value} {base : Heap} (hw : K.w = w) (G : Fr mg) (Z : Oth P K mg) {f : Addr} {fd : FuncData} (F : FunD K.fr "_law_is_error" "_law_is_error" (defArgs (top 46)) (defBody (top 46)) (defScope (top 46)) [] [] f fd) (hm : mg "_law_is_error" = some (.ref f)) : Kf P w K mg base 2 "_law_is_error" 1 h46 := kf_of F sc46 hm (fun _ _ _ _ _ _ us hl => match us, hl with | [_], _ => rfl) rfl fun cdv A outer s H E hgd hr => by
  have c : Cc (fcx P w K.fr mg base N46 "_law_is_error" (defScope (top 46)) f cdv A outer s H E) (p0 K) := ⟨rfl, hw, rfl, sc46.nd, hr.mono (by decide), hgd⟩
  have EV := Z.ev
  have EN := Z.en
  have EO := Z.eo
  have hct := Z.ct
  have hS := Z.sys
  exact (sndB_cons (sndS_ret (snd_and (c.isiO hct rfl G.isinstance (snd_var (i := 0) rfl (by first | exact .inl rfl | exact .inr (.inl rfl) | exact .inr (.inr rfl)) rfl rfl) (EO "KindError" (List.mem_of_getElem? (i := 33) rfl)) rfl rfl rfl rfl rfl) (snd_one (c.isiX hct rfl G.isinstance (snd_var (i := 0) rfl (by first | exact .inl rfl | exact .inr (.inl rfl) | exact .inr (.inr rfl)) rfl rfl) (isi_ty rfl G.ValueError (by decide +kernel) (by decide) (by decide)) rfl rfl rfl)))) sndB_nil)
def N47 : List Str := ["_law_some", "_law_noted", "_law_error", "_law_at"]
theorem sc47 : FnScope N47 ["_law_some", "_law_noted"] (defScope (top 47)) := ⟨rfl, rfl, rfl, by decide +kernel, rfl, by decide +kernel, by decide +kernel⟩
def a47 : Sf := (bCons (sIf (tBl (bin (eLc (iVal (eV 0)) (gN 2) [2] tYesF (eCall (aCons (eV 2) aNil) h45 1 [])) (eLc (iR1 (aCons (eK (.int 31)) aNil)) (gN 3) [3] tYesF (eLst (aCons (eV 3) aNil))) fNe)) (bCons (sRet (eK (.bl false))) bNil) bNil) (bCons (sRet (bin (eLc (iVal (eV 0)) (gN 2) [2] (tOrF (tNotF (tTr (eCall (aCons (eV 2) aNil) h46 1 []))) (tBl (bin (eRepr (eFld exVs (eV 2))) (eV 1) fNe))) (eV 2)) (eLst aNil) fEq)) bNil))
abbrev h47 : Bf := bodyF N47.length a47
theorem s47 {P : Program} {w : World} {K : Kw} {mg : Str → Option Value} {base : Heap} (hw : K.w = w) (G : Fr mg) (Z : Oth P K mg) (F__law_code : Kf P w K mg base 2 "_law_code" 1 h45) (F__law_is_error : Kf P w K mg base 2 "_law_is_error" 1 h46) {f : Addr} {fd : FuncData} (F : FunD K.fr "_law_right" "_law_right" (defArgs (top 47)) (defBody (top 47)) (defScope (top 47)) [] [] f fd) (hm : mg "_law_right" = some (.ref f)) : Kf P w K mg base 3 "_law_right" 2 h47 := kf_of F sc47 hm (fun _ _ _ _ _ _ us hl => match us, hl with | [_, _], _ => rfl) rfl fun cdv A outer s H E hgd hr => by
  have c : Cc (fcx P w K.fr mg base N47 "_law_right" (defScope (top 47)) f cdv A outer s H E) (p0 K) := ⟨rfl, hw, rfl, sc47.nd, hr.mono (by decide), hgd⟩
  have EV := Z.ev
  have EN := Z.en
  have EO := Z.eo
  have hct := Z.ct
  have hS := Z.sys
  exact (sndB_cons (sndS_if (sndT_cmp1 c.cNe (snd_lc (own := [("_law_error", 2)]) (blkS_mk [("_law_error", 2)] [2] c.calm c.nd (blkOk_by (by first | rfl | decide +kernel)) (by decide) (fun s0 H0 C0 cl0 fp0 => (sndG_name (i := 2) (c.blk s0 H0 _ _ _).nd rfl (by first | exact .inl rfl | exact .inr rfl) (by first | exact .inl rfl | exact .inr rfl))) (fun s0 H0 C0 cl0 fp0 => sndTs_nil)) (c.val (snd_var (i := 0) rfl (by first | exact .inl rfl | exact .inr (.inl rfl) | exact .inr (.inr rfl)) rfl rfl)) (fun s0 H0 C0 cl0 fp0 => (snd_own (c.blk s0 H0 _ _ _) F__law_code (hr.mono (by decide)) rfl (sndA_cons (snd_var (i := 2) rfl (by first | exact .inl rfl | exact .inr (.inl rfl) | exact .inr (.inr rfl)) rfl rfl) sndA_nil rfl) rfl rfl rfl)) (fun _ => rfl)) (snd_lc (own := [("_law_at", 3)]) (blkS_mk [("_law_at", 3)] [3] c.calm c.nd (blkOk_by (by first | rfl | decide +kernel)) (by decide) (fun s0 H0 C0 cl0 fp0 => (sndG_name (i := 3) (c.blk s0 H0 _ _ _).nd rfl (by first | exact .inl rfl | exact .inr rfl) (by first | exact .inl rfl | exact .inr rfl))) (fun s0 H0 C0 cl0 fp0 => sndTs_nil)) (sndI_range1 rfl G.range (sndA_cons snd_int sndA_nil rfl) rfl) (fun s0 H0 C0 cl0 fp0 => (snd_lst (sndA_cons (snd_var (i := 3) rfl (by first | exact .inl rfl | exact .inr (.inl rfl) | exact .inr (.inr rfl)) rfl rfl) sndA_nil rfl))) (fun _ => rfl)) rfl) (sndB_cons (sndS_ret snd_bl) sndB_nil) sndB_nil) (sndB_cons (sndS_ret (snd_cmp1 c.cEq (snd_lc (own := [("_law_error", 2)]) (blkS_mk [("_law_error", 2)] [2] c.calm c.nd (blkOk_by (by first | rfl | decide +kernel)) (by decide) (fun s0 H0 C0 cl0 fp0 => (sndG_name (i := 2) (c.blk s0 H0 _ _ _).nd rfl (by first | exact .inl rfl | exact .inr rfl) (by first | exact .inl rfl | exact .inr rfl))) (fun s0 H0 C0 cl0 fp0 => (sndTs_one (SndW.t (sndW_or (sndT_not ((c.blk s0 H0 _ _ _).truth (snd_own (c.blk s0 H0 _ _ _) F__law_is_error (hr.mono (by decide)) rfl (sndA_cons (snd_var (i := 2) rfl (by first | exact .inl rfl | exact .inr (.inl rfl) | exact .inr (.inr rfl)) rfl rfl) sndA_nil rfl) rfl rfl rfl) (fun _ => rfl))) (sndW_or1 (sndT_cmp1 (c.blk s0 H0 _ _ _).cNe ((c.blk s0 H0 _ _ _).repr hS rfl G.repr (snd_fld EV (snd_var (i := 2) rfl (by first | exact .inl rfl | exact .inr (.inl rfl) | exact .inr (.inr rfl)) rfl rfl) rfl) rfl rfl) (snd_var (i := 1) rfl (by first | exact .inl rfl | exact .inr (.inl rfl) | exact .inr (.inr rfl)) rfl rfl) rfl))))))) (c.val (snd_var (i := 0) rfl (by first | exact .inl rfl | exact .inr (.inl rfl) | exact .inr (.inr rfl)) rfl rfl)) (fun s0 H0 C0 cl0 fp0 => (snd_var (i := 2) rfl (by first | exact .inl rfl | exact .inr (.inl rfl) | exact .inr (.inr rfl)) rfl rfl)) (fun _ => rfl)) (snd_lst sndA_nil) rfl)) sndB_nil))
def N48 : List Str := ["_law_script", "_law_purse_here", "_law_rest", "_law_word_here", "_law_plain", "_law_thing", "_law_noted", "_law_some", "_law_called_here", "_law_later", "_law_error"]
theorem sc48 : FnScope N48 ["_law_script"] (defScope (top 48)) := ⟨rfl, rfl, rfl, by decide +kernel, rfl, by decide +kernel, by decide +kernel⟩
def a48 : Sf := (bCons (sFor (iVal (eCall (aCons (eV 0) (aCons (eK (.int 1)) aNil)) h39 2 [])) (gN 1) (bCons (sAsg (eCall (aCons (eV 1) aNil) h41 1 []) (gN 3)) (bCons (sAsg (eLst (aCons (eK .non) (aCons (eK (.bl true)) (aCons (eK (.bl false)) (aCons (eK (.int 0)) (aCons (eV 3) (aCons (una (bin (eV 1) (eK (.int 1)) fIxA) fNeg) (aCons (eTup (aCons (eK (.str ("says" : PySem.Str))) (aCons (eV 3) (aCons (eK (.int 1)) (aCons (eK (.int 2)) aNil))))) (aCons (eTup (aCons (eV 3) (aCons (eLst (aCons (eV 3) aNil)) aNil))) (aCons (eDisp (pfOf [((eV 3), (eLst (aCons (eV 3) aNil)))])) aNil)))))))))) (gN 4)) (bCons (sAsg (eCall (aCons (eV 1) (aCons (bin (eV 4) (eLst (aCons (eLst (aCons (eV 3) aNil)) (aCons (eLst (aCons (eLst (aCons (eV 3) aNil)) (aCons (eDisp (pfOf [((eK (.str ("odd" : PySem.Str))), (eV 3))])) aNil))) aNil))) fAdd) aNil)) h40 2 []) (gN 5)) (bCons (sAsg (eRepr (eV 5)) (gN 6)) (bCons (sAsg (eTup (aCons (eCall (aCons (eV 5) aNil) h42 1 []) (aCons (eCall (aCons (eV 5) aNil) h43 1 []) (aCons (eCall (aCons (eTup (aCons (eK (.str ("later" : PySem.Str))) (aCons (eV 3) aNil))) aNil) h42 1 []) aNil)))) (gT 3 (gsCons (gN 7) (gsCons (gN 8) (gsCons (gN 9) gsNil))))) (bCons (sIf (tOrF (tNotF (tTr (eCall (aCons (eCall aNil h44 0 []) (aCons (eK (.str ("None" : PySem.Str))) aNil)) h47 2 []))) (tNotF (tTr (eCall (aCons (eV 9) (aCons (eRepr (eTup (aCons (eK (.str ("later" : PySem.Str))) (aCons (eV 3) aNil)))) aNil)) h47 2 [])))) (bCons (sRet (eK (.bl false))) bNil) bNil) (bCons (sIf (tOrF (tNotF (tTr (eCall (aCons (eV 7) (aCons (eV 6) aNil)) h47 2 []))) (tNotF (tTr (eCall (aCons (eV 8) (aCons (eV 6) aNil)) h47 2 [])))) (bCons (sRet (eK (.bl false))) bNil) bNil) (bCons (sIf (tTr (eIsi ctE (eV 5) [.ty "list"])) (bCons (sExpr (eM isL (eV 5) (aCons (eK (.str ("later" : PySem.Str))) aNil) mAppend)) bNil) bNil) (bCons (sIf (tTr (eIsi ctE (eV 5) [.ty "dict"])) (bCons (sExpr (eM isL (bin (eV 5) (eV 3) fIxA) (aCons (eK (.str ("later" : PySem.Str))) aNil) mAppend)) (bCons (sAsg (eK (.int 1)) (gSubF (eV 5) (eK (.str ("LATER" : PySem.Str))))) bNil)) bNil) (bCons (sIf (tAndF (tTr (eIsi ctE (eV 5) [.ty "tuple"])) (tTr (eIsi ctE (bin (eV 5) (eK (.int 1)) fIxA) [.ty "list"]))) (bCons (sExpr (eM isL (bin (eV 5) (eK (.int 1)) fIxA) (aCons (eK (.str ("later" : PySem.Str))) aNil) mAppend)) bNil) bNil) (bCons (sIf (tOrF (tNotF (tTr (eCall (aCons (eV 7) (aCons (eRepr (eV 5)) aNil)) h47 2 []))) (tNotF (tTr (eCall (aCons (eV 8) (aCons (eRepr (eV 5)) aNil)) h47 2 [])))) (bCons (sRet (eK (.bl false))) bNil) bNil) bNil)))))))))))) (bCons (sAsg (eLst (aCons (eMkn "NothingToUndo") (aCons (eMkn "NothingToRedo") aNil))) (gN 2)) (bCons (sIf (tBl (bin (eLc (iVal (eV 2)) (gN 10) [10] tYesF (eCall (aCons (eV 10) aNil) h45 1 [])) (eLst (aCons (eLst (aCons (eK (.int 31)) aNil)) (aCons (eLst (aCons (eK (.int 32)) aNil)) aNil))) fNe)) (bCons (sRet (eK (.bl false))) bNil) bNil) (bCons (sExpr (eM isL (eV 2) (aCons (eMkn "KindError") aNil) mAppend)) (bCons (sRet (eAnd (eB (aCons (eLc (iVal (eV 2)) (gN 10) [10] tYesF (eCall (aCons (eV 10) aNil) h46 1 [])) aNil) (lstF gAll)) (bin (eCall (aCons (bin (eV 2) (eK (.int 2)) fIxA) aNil) h45 1 []) (eLst aNil) fEq))) bNil)))))
abbrev h48 : Bf := bodyF N48.length a48
theorem s48 {P : Program} {w : World} {K : Kw} {mg : Str → Option Value} {base : Heap} (hw : K.w = w) (G : Fr mg) (Z : Oth P K mg) (F__law_bare : Kf P w K mg base 2 "_law_bare" 0 h44) (F__law_called : Kf P w K mg base 2 "_law_called" 1 h43) (F__law_code : Kf P w K mg base 2 "_law_code" 1 h45) (F__law_first : Kf P w K mg base 2 "_law_first" 1 h42) (F__law_is_error : Kf P w K mg base 2 "_law_is_error" 1 h46) (F__law_one_of : Kf P w K mg base 4 "_law_one_of" 2 h40) (F__law_purses : Kf P w K mg base 3 "_law_purses" 2 h39) (F__law_right : Kf P w K mg base 3 "_law_right" 2 h47) (F__law_word : Kf P w K mg base 4 "_law_word" 1 h41) {f : Addr} {fd : FuncData} (F : FunD K.fr "law" "law" (defArgs (top 48)) (defBody (top 48)) (defScope (top 48)) [] [] f fd) : FnG P w K.fr mg base 5 f fd ["_law_script"] (fnSp K h48 1) := fnG_okS F sc48 fun cdv A outer s H E hgd hr => by
  have c : Cc (fcx P w K.fr mg base N48 "law" (defScope (top 48)) f cdv A outer s H E) (p0 K) := ⟨rfl, hw, rfl, sc48.nd, hr.mono (by decide), hgd⟩
  have EV := Z.ev
  have EN := Z.en
  have EO := Z.eo
  have hct := Z.ct
  have hS := Z.sys
  exact (sndB_cons (sndS_for PassesOwn.never c.calm (c.val (snd_own c F__law_purses (hr.mono (by decide)) rfl (sndA_cons (snd_var (i := 0) rfl (by first | exact .inl rfl | exact .inr (.inl rfl) | exact .inr (.inr rfl)) rfl rfl) (sndA_cons snd_int sndA_nil rfl) rfl) rfl rfl rfl)) (sndG_name (i := 1) c.nd rfl (by first | exact .inl rfl | exact .inr rfl) (by first | exact .inl rfl | exact .inr rfl)) (sndB_cons (sndS_asg (snd_own c F__law_word (hr.mono (by decide)) rfl (sndA_cons (snd_var (i := 1) rfl (by first | exact .inl rfl | exact .inr (.inl rfl) | exact .inr (.inr rfl)) rfl rfl) sndA_nil rfl) rfl rfl rfl) (sndG_name (i := 3) c.nd rfl (by first | exact .inl rfl | exact .inr rfl) (by first | exact .inl rfl | exact .inr rfl)) rfl rfl rfl) (sndB_cons (sndS_asg (snd_lst (sndA_cons snd_non (sndA_cons snd_bl (sndA_cons snd_bl (sndA_cons snd_int (sndA_cons (snd_var (i := 3) rfl (by first | exact .inl rfl | exact .inr (.inl rfl) | exact .inr (.inr rfl)) rfl rfl) (sndA_cons (c.neg (c.ix (snd_var (i := 1) rfl (by first | exact .inl rfl | exact .inr (.inl rfl) | exact .inr (.inr rfl)) rfl rfl) snd_int (fun _ _ => rfl))) (sndA_cons (snd_tup (sndA_cons snd_str (sndA_cons (snd_var (i := 3) rfl (by first | exact .inl rfl | exact .inr (.inl rfl) | exact .inr (.inr rfl)) rfl rfl) (sndA_cons snd_int (sndA_cons snd_int sndA_nil rfl) rfl) rfl) rfl)) (sndA_cons (snd_tup (sndA_cons (snd_var (i := 3) rfl (by first | exact .inl rfl | exact .inr (.inl rfl) | exact .inr (.inr rfl)) rfl rfl) (sndA_cons (snd_lst (sndA_cons (snd_var (i := 3) rfl (by first | exact .inl rfl | exact .inr (.inl rfl) | exact .inr (.inr rfl)) rfl rfl) sndA_nil rfl)) sndA_nil rfl) rfl)) (sndA_cons (snd_disp c.hK c.hw (c.un 8 (by decide)) (DPs.cons (snd_var (i := 3) rfl (by first | exact .inl rfl | exact .inr (.inl rfl) | exact .inr (.inr rfl)) rfl rfl) (snd_lst (sndA_cons (snd_var (i := 3) rfl (by first | exact .inl rfl | exact .inr (.inl rfl) | exact .inr (.inr rfl)) rfl rfl) sndA_nil rfl)) DPs.nil) rfl rfl (by decide) (by decide)) sndA_nil rfl) rfl) rfl) rfl) rfl) rfl) rfl) rfl) rfl)) (sndG_name (i := 4) c.nd rfl (by first | exact .inl rfl | exact .inr rfl) (by first | exact .inl rfl | exact .inr rfl)) rfl rfl rfl) (sndB_cons (sndS_asg (snd_own c F__law_one_of (hr.mono (by decide)) rfl (sndA_cons (snd_var (i := 1) rfl (by first | exact .inl rfl | exact .inr (.inl rfl) | exact .inr (.inr rfl)) rfl rfl) (sndA_cons (c.add (snd_var (i := 4) rfl (by first | exact .inl rfl | exact .inr (.inl rfl) | exact .inr (.inr rfl)) rfl rfl) (snd_lst (sndA_cons (snd_lst (sndA_cons (snd_var (i := 3) rfl (by first | exact .inl rfl | exact .inr (.inl rfl) | exact .inr (.inr rfl)) rfl rfl) sndA_nil rfl)) (sndA_cons (snd_lst (sndA_cons (snd_lst (sndA_cons (snd_var (i := 3) rfl (by first | exact .inl rfl | exact .inr (.inl rfl) | exact .inr (.inr rfl)) rfl rfl) sndA_nil rfl)) (sndA_cons (snd_disp c.hK c.hw (c.un 8 (by decide)) (DPs.cons snd_str (snd_var (i := 3) rfl (by first | exact .inl rfl | exact .inr (.inl rfl) | exact .inr (.inr rfl)) rfl rfl) DPs.nil) rfl rfl (by decide) (by decide)) sndA_nil rfl) rfl)) sndA_nil rfl) rfl))) sndA_nil rfl) rfl) rfl rfl rfl) (sndG_name (i := 5) c.nd rfl (by first | exact .inl rfl | exact .inr rfl) (by first | exact .inl rfl | exact .inr rfl)) rfl rfl rfl) (sndB_cons (sndS_asg (c.repr hS rfl G.repr (snd_var (i := 5) rfl (by first | exact .inl rfl | exact .inr (.inl rfl) | exact .inr (.inr rfl)) rfl rfl) rfl rfl) (sndG_name (i := 6) c.nd rfl (by first | exact .inl rfl | exact .inr rfl) (by first | exact .inl rfl | exact .inr rfl)) rfl rfl rfl) (sndB_cons (by first | exact (sndS_par3 (i := 7) (j := 8) (l := 9) c.calm c.nd rfl rfl rfl (by decide) (by decide) (by decide) rfl rfl rfl (sndA_cons (snd_own c F__law_first (hr.mono (by decide)) rfl (sndA_cons (snd_var (i := 5) rfl (by first | exact .inl rfl | exact .inr (.inl rfl) | exact .inr (.inr rfl)) rfl rfl) sndA_nil rfl) rfl rfl rfl) (sndA_cons (snd_own c F__law_called (hr.mono (by decide)) rfl (sndA_cons (snd_var (i := 5) rfl (by first | exact .inl rfl | exact .inr (.inl rfl) | exact .inr (.inr rfl)) rfl rfl) sndA_nil rfl) rfl rfl rfl) (sndA_cons (snd_own c F__law_first (hr.mono (by decide)) rfl (sndA_cons (snd_tup (sndA_cons snd_str (sndA_cons (snd_var (i := 3) rfl (by first | exact .inl rfl | exact .inr (.inl rfl) | exact .inr (.inr rfl)) rfl rfl) sndA_nil rfl) rfl)) sndA_nil rfl) rfl rfl rfl) sndA_nil rfl) rfl) rfl) rfl rfl) | exact (sndS_asg (snd_tup (sndA_cons (snd_own c F__law_first (hr.mono (by decide)) rfl (sndA_cons (snd_var (i := 5) rfl (by first | exact .inl rfl | exact .inr (.inl rfl) | exact .inr (.inr rfl)) rfl rfl) sndA_nil rfl) rfl rfl rfl) (sndA_cons (snd_own c F__law_called (hr.mono (by decide)) rfl (sndA_cons (snd_var (i := 5) rfl (by first | exact .inl rfl | exact .inr (.inl rfl) | exact .inr (.inr rfl)) rfl rfl) sndA_nil rfl) rfl rfl rfl) (sndA_cons (snd_own c F__law_first (hr.mono (by decide)) rfl (sndA_cons (snd_tup (sndA_cons snd_str (sndA_cons (snd_var (i := 3) rfl (by first | exact .inl rfl | exact .inr (.inl rfl) | exact .inr (.inr rfl)) rfl rfl) sndA_nil rfl) rfl)) sndA_nil rfl) rfl rfl rfl) sndA_nil rfl) rfl) rfl)) (c.gtup (sndGs_cons (sndG_name (i := 7) c.nd rfl (by first | exact .inl rfl | exact .inr rfl) (by first | exact .inl rfl | exact .inr rfl)) (sndGs_cons (sndG_name (i := 8) c.nd rfl (by first | exact .inl rfl | exact .inr rfl) (by first | exact .inl rfl | exact .inr rfl)) (sndGs_cons (sndG_name (i := 9) c.nd rfl (by first | exact .inl rfl | exact .inr rfl) (by first | exact .inl rfl | exact .inr rfl)) sndGs_nil rfl) rfl) rfl) rfl rfl) rfl rfl rfl)) (sndB_cons (sndS_if (SndW.t (sndW_or (sndT_not (c.truth (snd_own c F__law_right (hr.mono (by decide)) rfl (sndA_cons (snd_own0 c F__law_bare (hr.mono (by decide)) rfl rfl) (sndA_cons snd_str sndA_nil rfl) rfl) rfl rfl rfl) (fun _ => rfl))) (sndW_or1 (sndT_not (c.truth (snd_own c F__law_right (hr.mono (by decide)) rfl (sndA_cons (snd_var (i := 9) rfl (by first | exact .inl rfl | exact .inr (.inl rfl) | exact .inr (.inr rfl)) rfl rfl) (sndA_cons (c.repr hS rfl G.repr (snd_tup (sndA_cons snd_str (sndA_cons (snd_var (i := 3) rfl (by first | exact .inl rfl | exact .inr (.inl rfl) | exact .inr (.inr rfl)) rfl rfl) sndA_nil rfl) rfl)) rfl rfl) sndA_nil rfl) rfl) rfl rfl rfl) (fun _ => rfl)))))) (sndB_cons (sndS_ret snd_bl) sndB_nil) sndB_nil) (sndB_cons (sndS_if (SndW.t (sndW_or (sndT_not (c.truth (snd_own c F__law_right (hr.mono (by decide)) rfl (sndA_cons (snd_var (i := 7) rfl (by first | exact .inl rfl | exact .inr (.inl rfl) | exact .inr (.inr rfl)) rfl rfl) (sndA_cons (snd_var (i := 6) rfl (by first | exact .inl rfl | exact .inr (.inl rfl) | exact .inr (.inr rfl)) rfl rfl) sndA_nil rfl) rfl) rfl rfl rfl) (fun _ => rfl))) (sndW_or1 (sndT_not (c.truth (snd_own c F__law_right (hr.mono (by decide)) rfl (sndA_cons (snd_var (i := 8) rfl (by first | exact .inl rfl | exact .inr (.inl rfl) | exact .inr (.inr rfl)) rfl rfl) (sndA_cons (snd_var (i := 6) rfl (by first | exact .inl rfl | exact .inr (.inl rfl) | exact .inr (.inr rfl)) rfl rfl) sndA_nil rfl) rfl) rfl rfl rfl) (fun _ => rfl)))))) (sndB_cons (sndS_ret snd_bl) sndB_nil) sndB_nil) (sndB_cons (sndS_if (c.truth (c.isiX hct rfl G.isinstance (snd_var (i := 5) rfl (by first | exact .inl rfl | exact .inr (.inl rfl) | exact .inr (.inr rfl)) rfl rfl) (isi_ty rfl G.list (by decide +kernel) (by decide) (by decide)) rfl rfl rfl) (fun _ => rfl)) (sndB_cons (sndS_expr (c.append (snd_var (i := 5) rfl (by first | exact .inl rfl | exact .inr (.inl rfl) | exact .inr (.inr rfl)) rfl rfl) (sndA_cons snd_str sndA_nil rfl) rfl rfl rfl rfl rfl) rfl) sndB_nil) sndB_nil) (sndB_cons (sndS_if (c.truth (c.isiX hct rfl G.isinstance (snd_var (i := 5) rfl (by first | exact .inl rfl | exact .inr (.inl rfl) | exact .inr (.inr rfl)) rfl rfl) (isi_ty rfl G.dict (by decide +kernel) (by decide) (by decide)) rfl rfl rfl) (fun _ => rfl)) (sndB_cons (sndS_expr (c.append (c.ix (snd_var (i := 5) rfl (by first | exact .inl rfl | exact .inr (.inl rfl) | exact .inr (.inr rfl)) rfl rfl) (snd_var (i := 3) rfl (by first | exact .inl rfl | exact .inr (.inl rfl) | exact .inr (.inr rfl)) rfl rfl) (fun _ _ => rfl)) (sndA_cons snd_str sndA_nil rfl) rfl rfl rfl rfl rfl) rfl) (sndB_cons (sndS_asg snd_int (c.gsub (snd_var (i := 5) rfl (by first | exact .inl rfl | exact .inr (.inl rfl) | exact .inr (.inr rfl)) rfl rfl) snd_str (fun _ => rfl)) rfl rfl rfl) sndB_nil)) sndB_nil) (sndB_cons (sndS_if (SndW.t (sndW_and (c.truth (c.isiX hct rfl G.isinstance (snd_var (i := 5) rfl (by first | exact .inl rfl | exact .inr (.inl rfl) | exact .inr (.inr rfl)) rfl rfl) (isi_ty rfl G.tuple (by decide +kernel) (by decide) (by decide)) rfl rfl rfl) (fun _ => rfl)) (sndW_and1 (c.truth (c.isiX hct rfl G.isinstance (c.ix (snd_var (i := 5) rfl (by first | exact .inl rfl | exact .inr (.inl rfl) | exact .inr (.inr rfl)) rfl rfl) snd_int (fun _ _ => rfl)) (isi_ty rfl G.list (by decide +kernel) (by decide) (by decide)) rfl rfl rfl) (fun _ => rfl))))) (sndB_cons (sndS_expr (c.append (c.ix (snd_var (i := 5) rfl (by first | exact .inl rfl | exact .inr (.inl rfl) | exact .inr (.inr rfl)) rfl rfl) snd_int (fun _ _ => rfl)) (sndA_cons snd_str sndA_nil rfl) rfl rfl rfl rfl rfl) rfl) sndB_nil) sndB_nil) (sndB_cons (sndS_if (SndW.t (sndW_or (sndT_not (c.truth (snd_own c F__law_right (hr.mono (by decide)) rfl (sndA_cons (snd_var (i := 7) rfl (by first | exact .inl rfl | exact .inr (.inl rfl) | exact .inr (.inr rfl)) rfl rfl) (sndA_cons (c.repr hS rfl G.repr (snd_var (i := 5) rfl (by first | exact .inl rfl | exact .inr (.inl rfl) | exact .inr (.inr rfl)) rfl rfl) rfl rfl) sndA_nil rfl) rfl) rfl rfl rfl) (fun _ => rfl))) (sndW_or1 (sndT_not (c.truth (snd_own c F__law_right (hr.mono (by decide)) rfl (sndA_cons (snd_var (i := 8) rfl (by first | exact .inl rfl | exact .inr (.inl rfl) | exact .inr (.inr rfl)) rfl rfl) (sndA_cons (c.repr hS rfl G.repr (snd_var (i := 5) rfl (by first | exact .inl rfl | exact .inr (.inl rfl) | exact .inr (.inr rfl)) rfl rfl) rfl rfl) sndA_nil rfl) rfl) rfl rfl rfl) (fun _ => rfl)))))) (sndB_cons (sndS_ret snd_bl) sndB_nil) sndB_nil) sndB_nil))))))))))) (fun _ => rfl)) (sndB_cons (sndS_asg (snd_lst (sndA_cons (snd_mkn (EN "NothingToUndo" (List.mem_of_getElem? (i := 0) rfl)) rfl rfl) (sndA_cons (snd_mkn (EN "NothingToRedo" (List.mem_of_getElem? (i := 1) rfl)) rfl rfl) sndA_nil rfl) rfl)) (sndG_name (i := 2) c.nd rfl (by first | exact .inl rfl | exact .inr rfl) (by first | exact .inl rfl | exact .inr rfl)) rfl rfl rfl) (sndB_cons (sndS_if (sndT_cmp1 c.cNe (snd_lc (own := [("_law_error", 10)]) (blkS_mk [("_law_error", 10)] [10] c.calm c.nd (blkOk_by (by first | rfl | decide +kernel)) (by decide) (fun s0 H0 C0 cl0 fp0 => (sndG_name (i := 10) (c.blk s0 H0 _ _ _).nd rfl (by first | exact .inl rfl | exact .inr rfl) (by first | exact .inl rfl | exact .inr rfl))) (fun s0 H0 C0 cl0 fp0 => sndTs_nil)) (c.val (snd_var (i := 2) rfl (by first | exact .inl rfl | exact .inr (.inl rfl) | exact .inr (.inr rfl)) rfl rfl)) (fun s0 H0 C0 cl0 fp0 => (snd_own (c.blk s0 H0 _ _ _) F__law_code (hr.mono (by decide)) rfl (sndA_cons (snd_var (i := 10) rfl (by first | exact .inl rfl | exact .inr (.inl rfl) | exact .inr (.inr rfl)) rfl rfl) sndA_nil rfl) rfl rfl rfl)) (fun _ => rfl)) (snd_lst (sndA_cons (snd_lst (sndA_cons snd_int sndA_nil rfl)) (sndA_cons (snd_lst (sndA_cons snd_int sndA_nil rfl)) sndA_nil rfl) rfl)) rfl) (sndB_cons (sndS_ret snd_bl) sndB_nil) sndB_nil) (sndB_cons (sndS_expr (c.append (snd_var (i := 2) rfl (by first | exact .inl rfl | exact .inr (.inl rfl) | exact .inr (.inr rfl)) rfl rfl) (sndA_cons (snd_mkn (EN "KindError" (List.mem_of_getElem? (i := 2) rfl)) rfl rfl) sndA_nil rfl) rfl rfl rfl rfl rfl) rfl) (sndB_cons (sndS_ret (snd_and (c.all rfl G.all (sndA_cons (snd_lc (own := [("_law_error", 10)]) (blkS_mk [("_law_error", 10)] [10] c.calm c.nd (blkOk_by (by first | rfl | decide +kernel)) (by decide) (fun s0 H0 C0 cl0 fp0 => (sndG_name (i := 10) (c.blk s0 H0 _ _ _).nd rfl (by first | exact .inl rfl | exact .inr rfl) (by first | exact .inl rfl | exact .inr rfl))) (fun s0 H0 C0 cl0 fp0 => sndTs_nil)) (c.val (snd_var (i := 2) rfl (by first | exact .inl rfl | exact .inr (.inl rfl) | exact .inr (.inr rfl)) rfl rfl)) (fun s0 H0 C0 cl0 fp0 => (snd_own (c.blk s0 H0 _ _ _) F__law_is_error (hr.mono (by decide)) rfl (sndA_cons (snd_var (i := 10) rfl (by first | exact .inl rfl | exact .inr (.inl rfl) | exact .inr (.inr rfl)) rfl rfl) sndA_nil rfl) rfl rfl rfl)) (fun _ => rfl)) sndA_nil rfl) rfl rfl) (snd_one (snd_cmp1 c.cEq (snd_own c F__law_code (hr.mono (by decide)) rfl (sndA_cons (c.ix (snd_var (i := 2) rfl (by first | exact .inl rfl | exact .inr (.inl rfl) | exact .inr (.inr rfl)) rfl rfl) snd_int (fun _ _ => rfl)) sndA_nil rfl) rfl rfl rfl) (snd_lst sndA_nil) rfl)))) sndB_nil)))))
end K01
set_option maxHeartbeats 0
namespace K01
open PySem PySem.Spec PyProof.Rows L2 PD
end K01
set_option maxHeartbeats 4000000
namespace K01
open PySem PySem.Spec PyProof.Rows L2 PD PySem.Builtin PySem.Builtin.Str
def Lo (x : Str) : Prop := ∀ c ∈ x.cps.toList, c < 128
def loB (x : Str) : Bool := x.cps.toList.all fun c => decide (c < 128)
theorem loB_ok {x : Str} : loB x = true ↔ Lo x := by
  simp only [loB, Lo, List.all_eq_true, decide_eq_true_eq]
theorem lo_app {x y : Str} (hx : Lo x) (hy : Lo y) : Lo (x ++ y) := by
  intro c hc
  have e : (x ++ y).cps.toList = x.cps.toList ++ y.cps.toList := by
    show (x.cps ++ y.cps).toList = _
    simp
  rw [e] at hc
  rcases List.mem_append.mp hc with h | h
  · exact hx c h
  · exact hy c h
theorem lo_of {x : Str} (h : loB x = true) : Lo x := loB_ok.mp h
theorem lo_join {s : Str} (hs : Lo s) : ∀ {ts : List Str}, (∀ t ∈ ts, Lo t) → Lo (Str.join s ts)
  | [], _ => lo_of (x := Str.empty) (by decide)
  | [x], h => h x (List.mem_cons_self ..)
  | x :: y :: r, h => lo_app (lo_app (h x (List.mem_cons_self ..)) hs) (lo_join hs fun t ht => h t (List.mem_cons_of_mem _ ht))
theorem lo_textFrom : ∀ {ts : List Str} {k : Nat} {acc : Str}, Lo acc → (∀ t ∈ ts, Lo t) → Lo (textFrom k acc ts)
  | [], k, acc, h, _ => h
  | t :: ts, k, acc, h, hs => by
    show Lo (textFrom (k + 1) (acc ++ (if k > 0 then ", " else "" : String) ++ t) ts)
    refine lo_textFrom (lo_app (lo_app h ?_) (hs t (List.mem_cons_self ..))) fun u hu => hs u (List.mem_cons_of_mem _ hu)
    split
    · exact lo_of (by decide)
    · exact lo_of (by decide)
theorem char_low : (List.range 128).all (fun c => (reprChar 39 c).all (fun d => decide (d < 128)) && (reprChar 34 c).all fun d => decide (d < 128)) = true := by decide +kernel
theorem lo_char {q c d : Nat} (hq : q = 39 ∨ q = 34) (hc : c < 128) (hd : d ∈ reprChar q c) : d < 128 := by
  have h := List.all_eq_true.mp char_low c (by simpa using hc)
  simp only [Bool.and_eq_true, List.all_eq_true, decide_eq_true_eq] at h
  rcases hq with rfl | rfl
  · exact h.1 d hd
  · exact h.2 d hd
theorem fold_low (q : Nat) (hq : q = 39 ∨ q = 34) : ∀ (l : List Nat) (acc : Array Nat), (∀ c ∈ l, c < 128) → (∀ c ∈ acc.toList, c < 128) → ∀ c ∈ (l.foldl (fun out c => out ++ (reprChar q c).toArray) acc).toList, c < 128
  | [], acc, _, h => h
  | x :: l, acc, hl, h => by
    simp only [List.foldl_cons]
    refine fold_low q hq l _ (fun c hc => hl c (List.mem_cons_of_mem _ hc)) fun c hc => ?_
    simp only [Array.toList_append, List.mem_append] at hc
    rcases hc with hc | hc
    · exact h c hc
    · exact lo_char hq (hl x (List.mem_cons_self ..)) hc
theorem lo_repr {x : Str} (h : Lo x) : Lo (reprText x) := by
  have hq : reprQuote x = 39 ∨ reprQuote x = 34 := by
    unfold reprQuote
    split
    · exact .inr rfl
    · exact .inl rfl
  have hq2 : reprQuote x < 128 := by rcases hq with e | e <;> omega
  intro c hc
  have e : (reprText x).cps.toList = (x.cps.toList.foldl (fun out c => out ++ (reprChar (reprQuote x) c).toArray) #[reprQuote x]).toList ++ [reprQuote x] := by
    unfold reprText
    show ((x.cps.foldl (fun out c => out ++ (reprChar (reprQuote x) c).toArray) #[reprQuote x]).push (reprQuote x)).toList = _
    rw [Array.toList_push, ← Array.foldl_toList]
  rw [e] at hc
  rcases List.mem_append.mp hc with hc | hc
  · exact fold_low _ hq _ _ h (fun d hd => by
      have : d = reprQuote x := by simpa using hd
      omega) c hc
  · have : c = reprQuote x := by simpa using hc
    omega
theorem lo_int (i : Int) : Lo (PyData.int i).shown := fun c hc => by
  by_cases h : c < 128
  · exact h
  · exact absurd hc (shown_int_free' ⟨by omega, by omega⟩ i)
mutual
def lows : PyData → Bool
  | .none | .bool _ | .int _ => true
  | .str x => loB x
  | .list xs | .tuple xs => lowsAll xs
  | .dict kvs => lowsKv kvs
def lowsAll : List PyData → Bool
  | [] => true
  | x :: xs => lows x && lowsAll xs
def lowsKv : List (PyData × PyData) → Bool
  | [] => true
  | (k, v) :: r => lows k && lows v && lowsKv r
end
mutual
theorem lo_shown : ∀ d : PyData, lows d = true → Lo d.shown
  | .none, _ => lo_of (by simp only [PyData.shown]; decide)
  | .bool true, _ => lo_of (by simp only [PyData.shown]; decide)
  | .bool false, _ => lo_of (by simp only [PyData.shown]; decide)
  | .int i, _ => lo_int i
  | .str x, h => by
    simp only [PyData.shown]
    exact lo_repr (lo_of (by simpa only [lows] using h))
  | .list xs, h => by
    simp only [PyData.shown]
    exact lo_app (lo_textFrom (lo_of (by decide)) (lo_shownAll xs (by simpa only [lows] using h))) (lo_of (by decide))
  | .tuple xs, h => by
    simp only [PyData.shown, tupleText]
    refine lo_app (lo_app (lo_of (by decide)) (lo_join (lo_of (by decide)) (lo_shownAll xs (by simpa only [lows] using h)))) ?_
    split
    · exact lo_of (by decide)
    · exact lo_of (by decide)
  | .dict kvs, h => by
    simp only [PyData.shown, dictText]
    exact lo_app (lo_app (lo_of (by decide)) (lo_join (lo_of (by decide)) (lo_shownKv kvs (by simpa only [lows] using h)))) (lo_of (by decide))
theorem lo_shownAll : ∀ xs : List PyData, lowsAll xs = true → ∀ t ∈ PyData.shownAll xs, Lo t
  | [], _, t, ht => by simp [PyData.shownAll] at ht
  | x :: xs, h, t, ht => by
    have h' : lows x = true ∧ lowsAll xs = true := by simpa only [lowsAll, Bool.and_eq_true] using h
    simp only [PyData.shownAll, List.mem_cons] at ht
    rcases ht with rfl | ht
    · exact lo_shown x h'.1
    · exact lo_shownAll xs h'.2 t ht
theorem lo_shownKv : ∀ kvs : List (PyData × PyData), lowsKv kvs = true → ∀ t ∈ PyData.shownKv kvs, Lo t
  | [], _, t, ht => by simp [PyData.shownKv] at ht
  | (k, v) :: r, h, t, ht => by
    have h' : (lows k = true ∧ lows v = true) ∧ lowsKv r = true := by simpa only [lowsKv, Bool.and_eq_true] using h
    simp only [PyData.shownKv, List.mem_cons] at ht
    rcases ht with rfl | ht
    · exact lo_app (lo_app (lo_shown k h'.1.1) (lo_of (by decide))) (lo_shown v h'.1.2)
    · exact lo_shownKv r h'.2 t ht
end
theorem lo_strOk {x : Str} (h : Lo x) : PyData.canLay0 (.str x) = true := by
  simp only [PyData.canLay0, PyData.strOk, Array.all_eq_true_iff_forall_mem, decide_eq_true_eq]
  intro c hc
  have := h c (Array.mem_toList_iff.mpr hc)
  omega
structure Sho (d : PyData) : Prop where
  sh : d.showable = true
  len : d.shown.length ≤ 16777216
  ok : PyData.canLay0 (.str d.shown) = true
theorem sho_of {d : PyData} (h1 : d.showable = true) (h2 : d.leavesShort 13 = true) (h3 : lows d = true) (h4 : d.weight ≤ 100000) : Sho d := by
  refine ⟨h1, ?_, lo_strOk (lo_shown d h3)⟩
  have := PyData.shown_le 13 (by decide) d h2
  omega
theorem lo_short {x : Str} (h : Lo x) : (x.cps.toList.all fun c => decide (c < 16 ^ 8)) = true := by
  simp only [List.all_eq_true, decide_eq_true_eq]
  intro c hc
  have := h c hc
  have e : (16 : Nat) ^ 8 = 4294967296 := by decide
  omega
end K01
set_option maxHeartbeats 4000000
namespace K01
open PySem PySem.Spec PyProof.Rows L2 PD
def Ext (s t : Store) : Prop := ∀ (n : Nat) (o : Ob), s[n]? = some o → t[n]? = some o
theorem Ext.refl (s : Store) : Ext s s := fun _ _ h => h
theorem Ext.trans {s t u : Store} (h : Ext s t) (g : Ext t u) : Ext s u := fun n o e => g n o (h n o e)
theorem getPre {α : Type} {s : List α} (l : List α) {n : Nat} {o : α} (e : s[n]? = some o) : (s ++ l)[n]? = some o := by
  rw [List.getElem?_append_left (List.getElem?_eq_some_iff.mp e).1]; exact e
theorem Ext.push (s l : Store) : Ext s (s ++ l) := fun n o e => getPre l e
theorem Ext.len {s t : Store} (h : Ext s t) : s.length ≤ t.length := by
  rcases Nat.lt_or_ge t.length s.length with q | q
  · have := h t.length s[t.length] (List.getElem?_eq_getElem q)
    have := (List.getElem?_eq_some_iff.mp this).1
    omega
  · exact q
theorem Ext.set {s t : Store} (h : Ext s t) {k : Nat} (hk : s.length ≤ k) (o : Ob) : Ext s (t.set k o) := fun n o' e => by
  have hn := (List.getElem?_eq_some_iff.mp e).1
  rw [List.getElem?_set_ne (by omega)]
  exact h n o' e
theorem getLast {α : Type} (s : List α) (o : α) : (s ++ [o])[s.length]? = some o := by simp
inductive F2 {α β : Type} (P : α → β → Prop) : List α → List β → Prop where
  | nil : F2 P [] []
  | cons {a : α} {b : β} {as : List α} {bs : List β} (h : P a b) (t : F2 P as bs) : F2 P (a :: as) (b :: bs)
theorem F2.mono {α β : Type} {P P' : α → β → Prop} (m : ∀ a b, P a b → P' a b) : ∀ {as : List α} {bs : List β}, F2 P as bs → F2 P' as bs
  | _, _, .nil => .nil
  | _, _, .cons h t => .cons (m _ _ h) (t.mono m)
theorem F2.app {α β : Type} {P : α → β → Prop} : ∀ {as as' : List α} {bs bs' : List β}, F2 P as bs → F2 P as' bs' → F2 P (as ++ as') (bs ++ bs')
  | _, _, _, _, .nil, g => g
  | _, _, _, _, .cons h t, g => .cons h (t.app g)
theorem F2.len {α β : Type} {P : α → β → Prop} : ∀ {as : List α} {bs : List β}, F2 P as bs → bs.length = as.length
  | _, _, .nil => rfl
  | _, _, .cons _ t => by simp [t.len]
theorem F2.get {α β : Type} {P : α → β → Prop} : ∀ {as : List α} {bs : List β} {i : Nat} {a : α}, F2 P as bs → as[i]? = some a → ∃ b, bs[i]? = some b ∧ P a b
  | _, _, i, a, .nil, e => by simp at e
  | _, _, 0, a, .cons h t, e => by simp at e; subst e; exact ⟨_, rfl, h⟩
  | _, _, i + 1, a, .cons h t, e => by
    obtain ⟨b, e1, h1⟩ := t.get (i := i) (by simpa using e)
    exact ⟨b, by simpa using e1, h1⟩
def aOf : List Ef → Af
  | [] => aNil
  | e :: es => aCons e (aOf es)
def growT (slot : Nat) (mk : Str → Ef) : List (List Str) → Sf → Sf
  | [], k => k
  | c :: cs, k => bCons (sAsg (bin (eV slot) (eLst (aOf (c.map mk))) fAdd) (gN slot)) (growT slot mk cs k)
def grow (slot : Nat) (mk : Str → Ef) (c : List Str) (cs : List (List Str)) (k : Sf) : Sf := bCons (sAsg (eLst (aOf (c.map mk))) (gN slot)) (growT slot mk cs k)
def EvE (Ok : PD.Env → Prop) (s0 : Store) (R : Str → Store → Vl → Prop) (mk : Str → Ef) (c : Str) : Prop := ∀ env s, Ok env → Ext s0 s → ∃ v s', mk c env s = some (.v v, s') ∧ Ext s s' ∧ R c s' v
section
variable {Ok : PD.Env → Prop} {s0 : Store} {R : Str → Store → Vl → Prop} {mk : Str → Ef} {slot : Nat}
theorem aOf_ev (mono : ∀ c s s' v, R c s v → Ext s s' → R c s' v) {env : PD.Env} (ho : Ok env) : ∀ {cs : List Str} {s : Store}, (∀ c ∈ cs, EvE Ok s0 R mk c) → Ext s0 s → ∃ vs s', aOf (cs.map mk) env s = some (.v vs, s') ∧ Ext s s' ∧ F2 (fun c v => R c s' v) cs vs
  | [], s, _, _ => ⟨[], s, rfl, Ext.refl s, .nil⟩
  | c :: cs, s, h, x => by
    obtain ⟨v, s1, e1, x1, r1⟩ := h c (List.mem_cons_self ..) env s ho x
    obtain ⟨vs, s2, e2, x2, r2⟩ := aOf_ev mono ho (cs := cs) (s := s1) (fun d hd => h d (List.mem_cons_of_mem _ hd)) (x.trans x1)
    refine ⟨v :: vs, s2, ?_, x1.trans x2, .cons (mono _ _ _ _ r1 x2) r2⟩
    show aCons (mk c) (aOf (cs.map mk)) env s = _
    unfold aCons
    rw [e1, Rb_v, e2, Rb_v]
theorem lst_ev (mono : ∀ c s s' v, R c s v → Ext s s' → R c s' v) {env : PD.Env} (ho : Ok env) {cs : List Str} {s : Store} (h : ∀ c ∈ cs, EvE Ok s0 R mk c) (x : Ext s0 s) (hn : cs.length ≤ 1000) :
    ∃ r vs s', eLst (aOf (cs.map mk)) env s = some (.v (.ref r), s') ∧ Ext s s' ∧ s.length ≤ r ∧ s'[r]? = some (.lst vs) ∧ F2 (fun c v => R c s' v) cs vs := by
  obtain ⟨vs, s1, e1, x1, r1⟩ := aOf_ev mono ho h x
  refine ⟨s1.length, vs, s1 ++ [.lst vs], ?_, x1.trans (Ext.push _ _), x1.len, getLast _ _, r1.mono fun c v q => mono _ _ _ _ q (Ext.push _ _)⟩
  unfold eLst
  rw [e1, Rb_v]
  unfold newL
  rw [if_pos (by rw [r1.len]; omega)]
theorem gN_ok {env : PD.Env} {s : Store} {v : Vl} (h : slot < env.length) : gN slot v env s = some (env.set slot (some v), s) := if_pos h
structure Got (R : Str → Store → Vl → Prop) (s : Store) (cs : List Str) (slot : Nat) (b : Nat) (env' : PD.Env) (s' : Store) : Prop where
  ref : ∃ r vs, env'[slot]? = some (some (.ref r)) ∧ s'[r]? = some (.lst vs) ∧ b ≤ r ∧ F2 (fun c v => R c s' v) cs vs
  ext : Ext s s'
theorem growT_ev (mono : ∀ c s s' v, R c s v → Ext s s' → R c s' v) (hset : ∀ env v, Ok env → Ok (env.set slot (some v))) (hlen : ∀ env, Ok env → slot < env.length) {k : Sf} {b : Nat} {st : Store} (hb : b ≤ s0.length) : ∀ {cs : List (List Str)} {done : List Str} {env : PD.Env} {s : Store}, (∀ c ∈ cs.flatten, EvE Ok s0 R mk c) → Ok env → Ext s0 s → done.length + cs.flatten.length ≤ 1000 →
    Got R st done slot b env s → ∃ env' s', Ok env' ∧ Got R st (done ++ cs.flatten) slot b env' s' ∧ growT slot mk cs k env s = k env' s'
  | [], done, env, s, h, ho, x, hn, g => ⟨env, s, ho, by simpa using g, rfl⟩
  | c :: cs, done, env, s, h, ho, x, hn, g => by
    obtain ⟨⟨r, vs, e1, e2, hr, f⟩, gx⟩ := g
    simp only [List.flatten_cons, List.length_append] at hn
    obtain ⟨r2, ws, s1, e3, x1, hr2, e4, f2⟩ := lst_ev mono ho (cs := c) (s := s) (fun d hd => h d (by simp [hd])) x (by omega)
    have e5 := x1 _ _ e2
    have e6 : bin (eV slot) (eLst (aOf (c.map mk))) fAdd env s = some (.v (.ref s1.length), s1 ++ [.lst (vs ++ ws)]) := by
      unfold PD.bin
      have ev : eV slot env s = some (.v (.ref r), s) := by
        unfold eV
        rw [e1]; rfl
      rw [ev, Rb_v, e3, Rb_v]
      unfold fAdd
      simp only [e5, e4]
      unfold newL
      rw [if_pos (by rw [List.length_append, f.len, f2.len]; omega)]
    have x2 : Ext s (s1 ++ [Ob.lst (vs ++ ws)]) := x1.trans (Ext.push _ _)
    have hl := hlen env ho
    obtain ⟨env', s', ho', g', e7⟩ := growT_ev mono hset hlen (k := k) (st := st) hb (cs := cs) (done := done ++ c) (env := env.set slot (some (.ref s1.length))) (s := s1 ++ [.lst (vs ++ ws)]) (fun d hd => h d (by simp only [List.flatten_cons, List.mem_append]; exact .inr hd)) (hset _ _ ho) (x.trans x2) (by simp only [List.length_append]; omega)
      ⟨⟨s1.length, vs ++ ws, by rw [List.getElem?_set_self hl], getLast _ _, by have := x.len; have := x1.len; omega, (f.mono fun c v q => mono _ _ _ _ q x2).app (f2.mono fun c v q => mono _ _ _ _ q (Ext.push _ _))⟩, gx.trans x2⟩
    refine ⟨env', s', ho', by simpa [List.append_assoc] using g', ?_⟩
    rw [← e7]
    show bCons (sAsg (bin (eV slot) (eLst (aOf (c.map mk))) fAdd) (gN slot)) (growT slot mk cs k) env s = _
    unfold bCons sAsg
    rw [e6]
    show (match (match gN slot (.ref s1.length) env (s1 ++ [Ob.lst (vs ++ ws)]) with | some (env2, st2) => some (Fl.nx, env2, st2) | none => none) with | some (.nx, env1, st1) => growT slot mk cs k env1 st1 | r => r) = _
    rw [gN_ok hl]
theorem grow_ev (mono : ∀ c s s' v, R c s v → Ext s s' → R c s' v) (hset : ∀ env v, Ok env → Ok (env.set slot (some v))) (hlen : ∀ env, Ok env → slot < env.length) {k : Sf} {c : List Str} {cs : List (List Str)} {env : PD.Env} (h : ∀ d ∈ c ++ cs.flatten, EvE Ok s0 R mk d) (ho : Ok env) (hn : (c ++ cs.flatten).length ≤ 1000) :
    ∃ env' s', Ok env' ∧ Got R s0 (c ++ cs.flatten) slot s0.length env' s' ∧ grow slot mk c cs k env s0 = k env' s' := by
  simp only [List.length_append] at hn
  obtain ⟨r2, ws, s1, e3, x1, hr2, e4, f2⟩ := lst_ev mono ho (cs := c) (s := s0) (fun d hd => h d (by simp [hd])) (Ext.refl s0) (by omega)
  have hl := hlen env ho
  obtain ⟨env', s', ho', g', e7⟩ := growT_ev mono hset hlen (k := k) (st := s0) (Nat.le_refl s0.length) (cs := cs) (done := c) (env := env.set slot (some (.ref r2))) (s := s1) (fun d hd => h d (by simp only [List.mem_append]; exact .inr hd)) (hset _ _ ho) x1 (by omega)
    ⟨⟨r2, ws, by rw [List.getElem?_set_self hl], e4, hr2, f2⟩, x1⟩
  refine ⟨env', s', ho', g', ?_⟩
  rw [← e7]
  unfold grow bCons sAsg
  rw [e3]
  show (match (match gN slot (.ref r2) env s1 with | some (env2, st2) => some (Fl.nx, env2, st2) | none => none) with | some (.nx, env1, st1) => growT slot mk cs k env1 st1 | r => r) = _
  rw [gN_ok hl]
end
theorem lcA_run {nx : Iv} {g : Gf} {tt : Tf} {te : Ef} {k : Nat} {env : PD.Env} (P : Nat → Store → List Vl → Prop) (N : Nat)
    (step : ∀ i s ys, i < N → P i s ys → s[k]? = some (.lst ys) → ys.length ≤ i → ∃ v env1 s1 b s2, nx i s = some (some v) ∧ g v env s = some (env1, s1) ∧ tt env1 s1 = some (.v b, s2) ∧ (b = false → P (i + 1) s2 ys ∧ s2[k]? = some (.lst ys)) ∧
      (b = true → ∃ y s3, te env1 s2 = some (.v y, s3) ∧ s3[k]? = some (.lst ys) ∧ P (i + 1) (s3.set k (.lst (ys ++ [y]))) (ys ++ [y])))
    (stop : ∀ s ys, P N s ys → s[k]? = some (.lst ys) → nx N s = some none) (hN : N ≤ 1000) : ∀ (f i : Nat) (s : Store) (ys : List Vl), i ≤ N → N - i < f → P i s ys → s[k]? = some (.lst ys) → ys.length ≤ i → ∃ s' ys', lcA nx g tt te k f i env s = some s' ∧ P N s' ys' ∧ s'[k]? = some (.lst ys')
  | 0, i, s, ys, hi, hf, h, hk, hy => by omega
  | f + 1, i, s, ys, hi, hf, h, hk, hy => by
    by_cases hiN : i = N
    · subst hiN
      refine ⟨s, ys, ?_, h, hk⟩
      unfold lcA
      rw [stop s ys h hk]
    · obtain ⟨v, env1, s1, b, s2, e1, e2, e3, h0, h1⟩ := step i s ys (by omega) h hk hy
      cases b with
      | false =>
        obtain ⟨p, q⟩ := h0 rfl
        obtain ⟨s', ys', e4, p', q'⟩ := lcA_run P N step stop hN f (i + 1) s2 ys (by omega) (by omega) p q (by omega)
        refine ⟨s', ys', ?_, p', q'⟩
        unfold lcA
        simp only [e1, e2, e3]
        exact e4
      | true =>
        obtain ⟨y, s3, e5, q, p⟩ := h1 rfl
        have hk3 : k < s3.length := (List.getElem?_eq_some_iff.mp q).1
        obtain ⟨s', ys', e4, p', q'⟩ := lcA_run P N step stop hN f (i + 1) (s3.set k (.lst (ys ++ [y]))) (ys ++ [y]) (by omega) (by omega) p (by rw [List.getElem?_set_self hk3]) (by simp; omega)
        refine ⟨s', ys', ?_, p', q'⟩
        unfold lcA
        simp only [e1, e2, e3, e5]
        have ea : appAt k y s3 = some (s3.set k (.lst (ys ++ [y]))) := by
          unfold appAt
          simp only [q]
          rw [if_pos (by omega)]
        simp only [ea]
        exact e4
theorem eLc_run {itf : If} {iv : Iv} {g : Gf} {vs : List Nat} {tt : Tf} {te : Ef} {env : PD.Env} {st st1 : Store} (P : Nat → Store → List Vl → Prop) (N : Nat) (hi : itf env st = some (.v iv, st1))
    (step : ∀ i s ys, i < N → P i s ys → s[st1.length]? = some (.lst ys) → ys.length ≤ i → ∃ v env1 s1 b s2, iv i s = some (some v) ∧ g v (wipeE env vs) s = some (env1, s1) ∧ tt env1 s1 = some (.v b, s2) ∧ (b = false → P (i + 1) s2 ys ∧ s2[st1.length]? = some (.lst ys)) ∧
      (b = true → ∃ y s3, te env1 s2 = some (.v y, s3) ∧ s3[st1.length]? = some (.lst ys) ∧ P (i + 1) (s3.set st1.length (.lst (ys ++ [y]))) (ys ++ [y])))
    (stop : ∀ s ys, P N s ys → s[st1.length]? = some (.lst ys) → iv N s = some none) (hN : N ≤ 1000) (h0 : P 0 (st1 ++ [.lst []]) []) : ∃ s' ys, eLc itf g vs tt te env st = some (.v (.ref st1.length), s') ∧ P N s' ys ∧ s'[st1.length]? = some (.lst ys) := by
  obtain ⟨s', ys, e, p, q⟩ := lcA_run P N step stop hN lcBig 0 (st1 ++ [.lst []]) [] (by omega) (by show N - 0 < 16777217; omega) h0 (getLast _ _) (Nat.le_refl _)
  refine ⟨s', ys, ?_, p, q⟩
  unfold eLc
  rw [hi, Rb_v, e]
def cs42 : List (List Str) := [["InvalidGrouping", "InvalidBlock", "InvalidTriples", "InvalidRule"], ["InvalidDeed", "InvalidChain", "InvalidArrows", "InvalidLayers"], ["InvalidComb", "InvalidNumbers", "InvalidWord", "InvalidFour"], ["InvalidCount", "InvalidPlaces", "InvalidBonds", "InvalidChange"], ["InvalidChanges", "InvalidShelf", "InvalidSpot", "InvalidScript"], ["InvalidText", "InvalidLog", "Unlike", "Unsettled", "Apart"], ["Refused"]]
theorem a42_eq : a42 = grow 1 (fun c => eMk1 c (eV 0)) ["InvalidKind", "InvalidTable", "InvalidKinds", "InvalidMap", "InvalidRow"] cs42 (bCons (sRet (eV 1)) bNil) := rfl
def cs43 : List (List Str) := [["InvalidMap", "InvalidRow", "InvalidGrouping"], ["InvalidBlock", "InvalidTriples", "InvalidRule"], ["InvalidDeed", "InvalidChain", "InvalidArrows"], ["InvalidLayers", "InvalidComb", "InvalidNumbers"], ["InvalidWord", "InvalidFour", "InvalidCount"], ["InvalidPlaces", "InvalidBonds", "InvalidChange"], ["InvalidChanges", "InvalidShelf", "InvalidSpot"], ["InvalidScript", "InvalidText", "InvalidLog"], ["Unlike", "Unsettled", "Apart", "Refused"]]
theorem a43_eq : a43 = grow 1 (fun c => eMk1 c (eV 0)) ["InvalidKind", "InvalidTable", "InvalidKinds"] cs43 (bCons (sRet (eV 1)) bNil) := rfl
def cs44 : List (List Str) := [["InvalidBlock", "InvalidTriples", "InvalidRule", "InvalidDeed", "InvalidChain"], ["InvalidArrows", "InvalidLayers", "InvalidComb", "InvalidNumbers", "InvalidWord"], ["InvalidFour", "InvalidCount", "InvalidPlaces", "InvalidBonds", "InvalidChange"], ["InvalidChanges", "InvalidShelf", "InvalidSpot", "InvalidScript", "InvalidText"], ["InvalidLog", "Unlike", "Unsettled", "Apart", "Refused"]]
theorem a44_eq : a44 = grow 0 eMk0 ["InvalidKind", "InvalidTable", "InvalidKinds", "InvalidMap", "InvalidRow", "InvalidGrouping"] cs44 (bCons (sRet (eV 0)) bNil) := rfl
def Exc (b : Nat) (u : Vl) (c : Str) (s : Store) (v : Vl) : Prop := ∃ n m, v = .ref n ∧ b ≤ n ∧ b ≤ m ∧ s[n]? = some (.exc c m) ∧ s[m]? = some (.xdc u)
theorem Exc.mono {b : Nat} {u : Vl} (c : Str) (s s' : Store) (v : Vl) (h : Exc b u c s v) (x : Ext s s') : Exc b u c s' v := by
  obtain ⟨n, m, e, h1, h2, h3, h4⟩ := h
  exact ⟨n, m, e, h1, h2, x _ _ h3, x _ _ h4⟩
theorem mkE_ok {b : Nat} {c : Str} {u : Vl} {s : Store} (hb : b ≤ s.length) : ∃ v s', mkE c u s = some (.v v, s') ∧ Ext s s' ∧ Exc b u c s' v :=
  ⟨_, _, rfl, Ext.push _ _, s.length + 1, s.length, rfl, by omega, hb, by rw [List.getElem?_append_right (by omega)]; simp, by rw [List.getElem?_append_right (by omega)]; simp⟩
def Errs (b : Nat) (u : Vl) (s : Store) (r : Nat) : Prop := b ≤ r ∧ ∃ vs, s[r]? = some (.lst vs) ∧ F2 (fun c v => Exc b u c s v) exVs vs
theorem Errs.mono {b : Nat} {u : Vl} {s s' : Store} {r : Nat} (h : Errs b u s r) (x : Ext s s') : Errs b u s' r := by
  obtain ⟨hb, vs, e, f⟩ := h
  exact ⟨hb, vs, x _ _ e, f.mono fun c v q => Exc.mono _ _ _ _ q x⟩
theorem ret_ok {i : Nat} {env : PD.Env} {s : Store} {v : Vl} (e : env[i]? = some (some v)) : bCons (sRet (eV i)) bNil env s = some (.rt v, env, s) := by
  unfold bCons sRet sB eV
  rw [e]
  rfl
theorem body_rt {n : Nat} {f : Sf} {ds : List Vl} {s s' : Store} {v : Vl} {env' : PD.Env} (e : f (ds.map some ++ List.replicate (n - ds.length) none) s = some (.rt v, env', s')) : bodyF n f ds s = some (.v v, s') := by
  unfold bodyF
  rw [e]
theorem errs1 {a : Sf} {c : List Str} {cs : List (List Str)} (ha : a = grow 1 (fun c => eMk1 c (eV 0)) c cs (bCons (sRet (eV 1)) bNil)) (hc : c ++ cs.flatten = exVs) (u : Vl) (s : Store) : ∃ r s', bodyF 2 a [u] s = some (.v (.ref r), s') ∧ Ext s s' ∧ Errs s.length u s' r := by
  subst ha
  have hn : (c ++ cs.flatten).length ≤ 1000 := by rw [hc]; decide
  obtain ⟨env', s', ho, g, e⟩ := grow_ev (Ok := fun env => env[0]? = some (some u) ∧ env.length = 2) (s0 := s) (R := Exc s.length u) (mk := fun c => eMk1 c (eV 0)) (slot := 1) (k := bCons (sRet (eV 1)) bNil) (c := c) (cs := cs) (env := [some u, none]) Exc.mono
    (fun env v h => ⟨by rw [List.getElem?_set_ne (by decide)]; exact h.1, by simpa using h.2⟩) (fun env h => by omega) (fun d _ env s1 ho x => by
      obtain ⟨v, s2, e1, x1, r1⟩ := mkE_ok (b := s.length) (c := d) (u := u) (s := s1) x.len
      refine ⟨v, s2, ?_, x1, r1⟩
      show eMk1 d (eV 0) env s1 = _
      unfold eMk1 eV
      rw [ho.1]
      exact e1) ⟨rfl, rfl⟩ hn
  obtain ⟨⟨r, vs, e1, e2, e3, f⟩, x⟩ := g
  rw [hc] at f
  refine ⟨r, s', ?_, x, e3, vs, e2, f⟩
  have e' : grow 1 (fun c => eMk1 c (eV 0)) c cs (bCons (sRet (eV 1)) bNil) [some u, none] s = some (.rt (.ref r), env', s') := e.trans (ret_ok e1)
  exact body_rt e'
theorem s_first (u : Vl) (s : Store) : ∃ r s', h42 [u] s = some (.v (.ref r), s') ∧ Ext s s' ∧ Errs s.length u s' r := errs1 a42_eq rfl u s
theorem s_called (u : Vl) (s : Store) : ∃ r s', h43 [u] s = some (.v (.ref r), s') ∧ Ext s s' ∧ Errs s.length u s' r := errs1 a43_eq rfl u s
theorem s_bare (s : Store) : ∃ r s', h44 [] s = some (.v (.ref r), s') ∧ Ext s s' ∧ Errs s.length .non s' r := by
  have hc : (["InvalidKind", "InvalidTable", "InvalidKinds", "InvalidMap", "InvalidRow", "InvalidGrouping"] : List Str) ++ cs44.flatten = exVs := rfl
  obtain ⟨env', s', ho, g, e⟩ := grow_ev (Ok := fun env => env.length = 1) (s0 := s) (R := Exc s.length .non) (mk := eMk0) (slot := 0) (k := bCons (sRet (eV 0)) bNil) (c := ["InvalidKind", "InvalidTable", "InvalidKinds", "InvalidMap", "InvalidRow", "InvalidGrouping"]) (cs := cs44) (env := [none]) Exc.mono
    (fun env v h => by simpa using h) (fun env h => by omega) (fun d _ env s1 ho x => mkE_ok (b := s.length) (c := d) (u := .non) (s := s1) x.len) rfl (by rw [hc]; decide)
  obtain ⟨⟨r, vs, e1, e2, e3, f⟩, x⟩ := g
  rw [hc] at f
  refine ⟨r, s', ?_, x, e3, vs, e2, f⟩
  have e' := e.trans (ret_ok e1)
  rw [← a44_eq] at e'
  exact body_rt e'
end K01
set_option maxHeartbeats 4000000
namespace K01
open PySem PySem.Spec PyProof.Rows L2 PD
theorem tyOf_ext {s s' : Store} (x : Ext s s') {v : Vl} {t : Cn} (e : tyOf s v = some t) : tyOf s' v = some t := by
  cases v with
  | ref n =>
    simp only [tyOf] at e ⊢
    cases q : s[n]? with
    | none => simp [q] at e
    | some o =>
      rw [x _ _ q]
      rw [q] at e
      cases o with
      | exc c m =>
        dsimp only at e ⊢
        cases q2 : s[m]? with
        | none => simp [q2] at e
        | some o2 =>
          rw [x _ _ q2]
          rw [q2] at e
          exact e
      | _ => exact e
  | _ => exact e
def cls33 : List Str := exVs ++ (["NothingToUndo", "NothingToRedo"] : List Str)
def cs45 : List (List Str) := [["InvalidMap", "InvalidRow"], ["InvalidGrouping", "InvalidBlock"], ["InvalidTriples", "InvalidRule"], ["InvalidDeed", "InvalidChain"], ["InvalidArrows", "InvalidLayers"], ["InvalidComb", "InvalidNumbers"], ["InvalidWord", "InvalidFour"], ["InvalidCount", "InvalidPlaces"], ["InvalidBonds", "InvalidChange"], ["InvalidChanges", "InvalidShelf"], ["InvalidSpot", "InvalidScript"], ["InvalidText", "InvalidLog", "Unlike"], ["Unsettled", "Apart", "Refused"], ["NothingToUndo", "NothingToRedo"]]
def e45 : Ef := eLc (iR1 (aCons (eB (aCons (eV 1) aNil) (bOr fLen fLenD)) aNil)) (gN 2) [2] (tTr (PD.bin (eV 1) (eV 2) fIxA)) (eV 2)
theorem a45_eq : a45 = grow 1 (fun c => eIsi ctE (eV 0) [.own c]) ["InvalidKind", "InvalidTable", "InvalidKinds"] cs45 (bCons (sRet e45) bNil) := rfl
theorem cls_in : cls33.all (fun c => exAs.contains c && !(c == "KindError")) = true := by decide +kernel
theorem isi_own {c d : Str} (hc : exAs.contains c = true) (hd : exAs.contains d = true) (hk : (d == "KindError") = false) : kitD ctE (.own c) [.own d] = some (c == d) := by
  have e : ctE (.own c) (.own d) = some (c == d) := by
    show (if exAs.contains c && exAs.contains d then some (c == d || d == "KindError") else none) = _
    rw [hc, hd, hk]
    simp
  unfold kitD
  rw [e]
  cases h : (c == d) <;> rfl
theorem eV_ok {i : Nat} {env : PD.Env} {s : Store} {v : Vl} (h : env[i]? = some (some v)) : eV i env s = some (.v v, s) := by
  unfold eV
  rw [h]; rfl
theorem ac_of {f : Ef} {g : Af} {env : PD.Env} {s s1 s2 : Store} {v : Vl} {vs : List Vl} (h : f env s = some (.v v, s1)) (k : g env s1 = some (.v vs, s2)) : aCons f g env s = some (.v (v :: vs), s2) := by
  unfold aCons
  rw [h, Rb_v, k, Rb_v]
theorem eB_of {fs : Af} {h : Bf} {env : PD.Env} {s s1 : Store} {vs : List Vl} {r : Out Vl} (e : fs env s = some (.v vs, s1)) (k : h vs s1 = r) : eB fs h env s = r := by
  unfold eB
  rw [e, Rb_v, k]
theorem bin_of {f g : Ef} {h : Vl → Vl → Store → Out Vl} {env : PD.Env} {s s1 s2 : Store} {v w : Vl} {r : Out Vl} (e : f env s = some (.v v, s1)) (k : g env s1 = some (.v w, s2)) (q : h v w s2 = r) : PD.bin f g h env s = r := by
  unfold PD.bin
  rw [e, Rb_v, k, Rb_v, q]
theorem una_of {f : Ef} {h : Vl → Store → Out Vl} {env : PD.Env} {s s1 : Store} {v : Vl} {r : Out Vl} (e : f env s = some (.v v, s1)) (q : h v s1 = r) : una f h env s = r := by
  unfold una
  rw [e, Rb_v, q]
theorem call_of {fs : Af} {h : Bf} {n : Nat} {env : PD.Env} {s s1 s2 : Store} {vs : List Vl} {v : Vl} (e : fs env s = some (.v vs, s1)) (hn : vs.length = n) (q : h vs s1 = some (.v v, s2)) : eCall fs h n [] env s = some (.v v, s2) := by
  unfold eCall
  refine eB_of e ?_
  rw [List.append_nil, if_pos hn]
  unfold noX
  rw [q]
theorem tBl_of {f : Ef} {env : PD.Env} {s s1 : Store} {b : Bool} (e : f env s = some (.v (.bl b), s1)) : tBl f env s = some (.v b, s1) := by
  unfold tBl
  rw [e, Rb_v]
theorem tTr_bl {f : Ef} {env : PD.Env} {s s1 : Store} {b : Bool} (e : f env s = some (.v (.bl b), s1)) : tTr f env s = some (.v b, s1) := by
  unfold tTr
  rw [e, Rb_v]
  rfl
theorem tNot_of {f : Tf} {env : PD.Env} {s s1 : Store} {b : Bool} (e : f env s = some (.v b, s1)) : tNotF f env s = some (.v !b, s1) := by
  unfold tNotF
  rw [e, Rb_v]
theorem tOr_f {f g : Tf} {env : PD.Env} {s s1 : Store} {r : Out Bool} (e : f env s = some (.v false, s1)) (k : g env s1 = r) : tOrF f g env s = r := by
  unfold tOrF
  rw [e, Rb_v, if_neg (by decide), k]
theorem asg_of {f : Ef} {i : Nat} {k : Sf} {env : PD.Env} {s s1 : Store} {v : Vl} (e : f env s = some (.v v, s1)) (hi : i < env.length) : bCons (sAsg f (gN i)) k env s = k (env.set i (some v)) s1 := by
  unfold bCons sAsg
  rw [e]
  show (match (match gN i v env s1 with | some (env2, st2) => some (Fl.nx, env2, st2) | none => none) with | some (.nx, env1, st1) => k env1 st1 | r => r) = _
  rw [gN_ok hi]
theorem ifF_of {c : Tf} {f g k : Sf} {env env1 : PD.Env} {s s1 s2 : Store} (e : c env s = some (.v false, s1)) (q : g env s1 = some (.nx, env1, s2)) : bCons (sIf c f g) k env s = k env1 s2 := by
  unfold bCons sIf
  rw [e]
  show (match (if (false : Bool) = true then f env s1 else g env s1) with | some (.nx, env1, st1) => k env1 st1 | r => r) = _
  rw [if_neg (by decide), q]
theorem ifT_of {c : Tf} {f g k : Sf} {env env1 : PD.Env} {s s1 s2 : Store} (e : c env s = some (.v true, s1)) (q : f env s1 = some (.nx, env1, s2)) : bCons (sIf c f g) k env s = k env1 s2 := by
  unfold bCons sIf
  rw [e]
  show (match (if (true : Bool) = true then f env s1 else g env s1) with | some (.nx, env1, st1) => k env1 st1 | r => r) = _
  rw [if_pos rfl, q]
theorem ret_of {f : Ef} {k : Sf} {env : PD.Env} {s s1 : Store} {v : Vl} (e : f env s = some (.v v, s1)) : bCons (sRet f) k env s = some (.rt v, env, s1) := by
  unfold bCons sRet
  rw [e]
  rfl
theorem f2_bl {p : Str → Bool} : ∀ {cs : List Str} {vs : List Vl}, F2 (fun d v => v = Vl.bl (p d)) cs vs → vs = cs.map fun d => Vl.bl (p d)
  | _, _, .nil => rfl
  | _, _, .cons h t => by rw [h, f2_bl t]; rfl
theorem ixN_nat {n i : Nat} (h : i < n) : ixN n (i : Int) = some i := by
  unfold ixN
  rw [if_pos (by omega), if_pos (by omega)]
  simp
theorem atI_nat {α : Type} {xs : List α} {i : Nat} {a : α} (h : xs[i]? = some a) : atI xs (i : Int) = some a := by
  unfold atI
  rw [ixN_nat (List.getElem?_eq_some_iff.mp h).1]
  exact h
theorem fIx_ref {s : Store} {r i : Nat} {vs : List Vl} {a : Vl} (e : s[r]? = some (.lst vs)) (h : vs[i]? = some a) : fIxA (.ref r) (.int (i : Int)) s = some (.v a, s) := by
  have e1 : fIx (.ref r) (.int (i : Int)) s = some (.v a, s) := by
    simp only [fIx, lview, e, atI_nat h]
    rfl
  unfold fIxA fOr
  rw [e1]
theorem len_ref {s : Store} {r : Nat} {vs : List Vl} (e : s[r]? = some (.lst vs)) : bOr fLen fLenD [.ref r] s = some (.v (.int (vs.length : Nat)), s) := by
  have e1 : fLen [.ref r] s = some (.v (.int (vs.length : Nat)), s) := by
    simp only [fLen, lview, e]
    rfl
  unfold bOr
  rw [e1]
theorem wipe1 {env : PD.Env} {j : Nat} : wipeE env [j] = env.set j none := rfl
theorem rng_ok {fs : Af} {env : PD.Env} {s s1 : Store} {n : Nat} (h : fs env s = some (.v [.int (n : Int)], s1)) (hn : n ≤ 1000) : iR1 fs env s = some (.v (ivRange 0 n), s1) := by
  unfold iR1
  rw [h, Rb_v]
  have : -(2 ^ 62) ≤ (n : Int) ∧ (n : Int) < 2 ^ 62 := by omega
  simp only [if_pos this]
  simp
theorem rng_nx {n i : Nat} {s : Store} (h : i < n) : ivRange 0 n i s = some (some (.int (i : Int))) := by
  unfold ivRange
  rw [if_pos h]
  simp
theorem rng_stop {n : Nat} {s : Store} : ivRange 0 n n s = some none := by
  unfold ivRange
  rw [if_neg (by omega)]
def codeN (c : Str) (n : Nat) : List Vl := ((List.range n).filter fun j => decide (cls33[j]? = some c)).map fun j : Nat => Vl.int (j : Int)
theorem codeN_succ (c : Str) (n : Nat) : codeN c (n + 1) = if cls33[n]? = some c then codeN c n ++ [.int (n : Int)] else codeN c n := by
  unfold codeN
  rw [List.range_succ, List.filter_append, List.map_append]
  by_cases h : cls33[n]? = some c
  · rw [if_pos h]
    simp [h]
  · rw [if_neg h]
    simp [h]
theorem s_code {v : Vl} {c : Str} {s : Store} (hc : exAs.contains c = true) (hv : tyOf s v = some (.own c)) : ∃ r s', h45 [v] s = some (.v (.ref r), s') ∧ Ext s s' ∧ s.length ≤ r ∧ s'[r]? = some (.lst (codeN c 33)) := by
  have hcs : (["InvalidKind", "InvalidTable", "InvalidKinds"] : List Str) ++ cs45.flatten = cls33 := rfl
  obtain ⟨env', s1, ho, g, e⟩ := grow_ev (Ok := fun env => env[0]? = some (some v) ∧ env.length = 3) (s0 := s) (R := fun d _ w => w = Vl.bl (c == d)) (mk := fun c => eIsi ctE (eV 0) [.own c]) (slot := 1) (k := bCons (sRet e45) bNil) (c := ["InvalidKind", "InvalidTable", "InvalidKinds"]) (cs := cs45) (env := [some v, none, none]) (fun c s s' v h _ => h)
    (fun env v h => ⟨by rw [List.getElem?_set_ne (by decide)]; exact h.1, by simpa using h.2⟩) (fun env h => by omega) (fun d hd env s1 ho x => by
      rw [hcs] at hd
      have hin := List.all_eq_true.mp cls_in d hd
      simp only [Bool.and_eq_true, Bool.not_eq_true'] at hin
      refine ⟨.bl (c == d), s1, ?_, Ext.refl _, rfl⟩
      show eIsi ctE (eV 0) [.own d] env s1 = _
      unfold eIsi
      rw [eV_ok ho.1, Rb_v, tyOf_ext x hv]
      simp only [isi_own hc hin.1 hin.2]
      rfl) ⟨rfl, rfl⟩ (by rw [hcs]; decide)
  obtain ⟨⟨r, vs, e1, e2, e3, f⟩, x⟩ := g
  rw [hcs] at f
  have fv := f2_bl f
  subst fv
  have hen : env'.length = 3 := ho.2
  have hlen : (cls33.map fun d => Vl.bl (c == d)).length = 33 := by rw [List.length_map]; decide
  have e1' : (wipeE env' [2])[1]? = some (some (.ref r)) := by
    rw [wipe1, List.getElem?_set_ne (by decide)]
    exact e1
  obtain ⟨s', ys, e4, ⟨x4, hy⟩, e5⟩ := eLc_run (itf := iR1 (aCons (eB (aCons (eV 1) aNil) (bOr fLen fLenD)) aNil)) (iv := ivRange 0 33) (g := gN 2) (vs := [2]) (tt := tTr (PD.bin (eV 1) (eV 2) fIxA)) (te := eV 2) (env := env') (st := s1) (st1 := s1)
    (fun i s2 ys => Ext s1 s2 ∧ ys = codeN c i) 33 (rng_ok (n := 33) (ac_of (eB_of (ac_of (eV_ok e1) rfl) (by rw [len_ref e2, hlen])) rfl) (by decide)) (fun i s2 ys hi ⟨x2, hy⟩ hk hl => by
      have hw : (wipeE env' [2]).length = 3 := by rw [wipe1]; simp [hen]
      have g1 : ((wipeE env' [2]).set 2 (some (.int (i : Int))))[1]? = some (some (.ref r)) := by rw [List.getElem?_set_ne (by decide)]; exact e1'
      have g2 : ((wipeE env' [2]).set 2 (some (.int (i : Int))))[2]? = some (some (.int (i : Int))) := by rw [List.getElem?_set_self (by omega)]
      have hcl : ∃ d, cls33[i]? = some d := ⟨_, List.getElem?_eq_getElem (by rw [show cls33.length = 33 by decide]; exact hi)⟩
      obtain ⟨d, hd⟩ := hcl
      have hb : (cls33.map fun d => Vl.bl (c == d))[i]? = some (.bl (c == d)) := by rw [List.getElem?_map, hd]; rfl
      refine ⟨.int (i : Int), _, s2, (c == d), s2, rng_nx hi, gN_ok (by omega), ?_, fun h0 => ⟨⟨x2, ?_⟩, hk⟩, fun h1 => ⟨.int (i : Int), s2, eV_ok g2, hk, x2.set (Nat.le_refl _) _, ?_⟩⟩
      · unfold tTr PD.bin
        rw [eV_ok g1, Rb_v, eV_ok g2, Rb_v, fIx_ref (x2 _ _ e2) hb]
        rfl
      · rw [codeN_succ, if_neg (by
          rw [hd]
          intro h
          cases h
          simp at h0)]
        exact hy
      · have : c = d := by simpa using h1
        rw [codeN_succ, if_pos (by rw [hd, this]), hy]) (fun s2 ys _ _ => rng_stop) (by decide) ⟨Ext.push _ _, rfl⟩
  subst hy
  refine ⟨s1.length, s', body_rt (env' := env') ?_, x.trans x4, x.len, e5⟩
  refine (show a45 [some v, none, none] s = _ from ?_)
  rw [a45_eq]
  refine e.trans ?_
  unfold bCons sRet
  have e4' : e45 env' s1 = _ := e4
  rw [e4']
  rfl
theorem code_at : (List.range 31).all (fun i => match exVs[i]? with | some c => exAs.contains c && decide (((List.range 33).filter fun j => decide (cls33[j]? = some c)) = [i]) | none => false) = true := by decide +kernel
theorem code_is {i : Nat} {c : Str} (h : exVs[i]? = some c) : exAs.contains c = true ∧ codeN c 33 = [.int (i : Int)] := by
  have hi : i < 31 := (List.getElem?_eq_some_iff.mp h).1
  have q := List.all_eq_true.mp code_at i (by simpa using hi)
  simp only [h, Bool.and_eq_true, decide_eq_true_eq] at q
  refine ⟨q.1, ?_⟩
  unfold codeN
  rw [q.2]
  rfl
theorem s_iserr {v : Vl} {c : Str} {s : Store} (hc : exAs.contains c = true) (hv : tyOf s v = some (.own c)) : h46 [v] s = some (.v (.bl true), s) := by
  have k1 : kitD ctE (.own c) [.own "KindError"] = some true := by
    have e : ctE (.own c) (.own "KindError") = some true := by
      show (if exAs.contains c && exAs.contains "KindError" then some (c == "KindError" || ("KindError" : Str) == "KindError") else none) = _
      rw [hc, show exAs.contains "KindError" = true by decide +kernel]
      simp
    unfold kitD
    rw [e]
  have k2 : kitD ctE (.own c) [.ty "ValueError"] = some true := by
    have e : ctE (.own c) (.ty "ValueError") = some true := by
      show (if exAs.contains c && ("ValueError" : Str) == "ValueError" then some true else none) = _
      rw [hc]
      rfl
    unfold kitD
    rw [e]
  refine body_rt (env' := [some v]) ?_
  show a46 [some v] s = _
  unfold a46 bCons sRet eAnd eIsi
  rw [eV_ok (i := 0) (v := v) rfl, Rb_v, hv]
  simp only [k1, okv, Rb_v]
  rw [eV_ok (i := 0) (v := v) rfl, Rb_v, hv]
  simp only [k2, okv]
  rfl
end K01
set_option maxHeartbeats 4000000
namespace K01
open PySem PySem.Spec PyProof.Rows L2 PD
theorem omap_ext {α β : Type} {f g : α → Option β} (h : ∀ a b, f a = some b → g a = some b) : ∀ {xs : List α} {ys : List β}, omap f xs = some ys → omap g xs = some ys
  | [], ys, e => e
  | x :: xs, ys, e => by
    unfold omap at e ⊢
    cases q : f x with
    | none => simp [q] at e
    | some b =>
      cases q2 : omap f xs with
      | none => simp [q, q2] at e
      | some bs =>
        rw [h _ _ q, omap_ext h q2]
        simp only [q, q2] at e
        exact e
theorem rdR_ext {s s' : Store} (x : Ext s s') : ∀ (n : Nat) (v : Vl) (d : PyData), rdR n s v = some d → rdR n s' v = some d
  | 0, v, d, e => by simp [rdR] at e
  | n + 1, v, d, e => by
    have ih := rdR_ext x n
    cases v with
    | tup vs =>
      simp only [rdR, Option.map_eq_some_iff] at e ⊢
      obtain ⟨ds, e1, e2⟩ := e
      exact ⟨ds, omap_ext ih e1, e2⟩
    | ref k =>
      simp only [rdR] at e ⊢
      cases q : s[k]? with
      | none => simp [q] at e
      | some o =>
        rw [x _ _ q]
        rw [q] at e
        cases o with
        | lst vs =>
          simp only [Option.map_eq_some_iff] at e ⊢
          obtain ⟨ds, e1, e2⟩ := e
          exact ⟨ds, omap_ext ih e1, e2⟩
        | dic ks vs =>
          dsimp only at e ⊢
          cases q1 : omap keyD1 ks with
          | none => simp [q1] at e
          | some ds =>
            cases q2 : omap (rdR n s) vs with
            | none => simp [q1, q2] at e
            | some es =>
              rw [omap_ext ih q2]
              simp only [q1, q2] at e
              exact e
        | _ => simp at e
    | _ => exact e
def dN (N : Nat) : List PyData := (List.range N).map fun j : Nat => PyData.list [.int (j : Int)]
def RowN (k : Nat) (N : Nat) (s : Store) (ys : List Vl) : Prop := ys.length = N ∧ ∀ j, j < N → ∃ q, ys[j]? = some (.ref q) ∧ k < q ∧ s[q]? = some (.lst [.int (j : Int)])
theorem RowN.mono {k N : Nat} {s s' : Store} {ys : List Vl} (h : RowN k N s ys) (x : Ext s s') : RowN k N s' ys := ⟨h.1, fun j hj => let ⟨q, a, b, c⟩ := h.2 j hj; ⟨q, a, b, x _ _ c⟩⟩
theorem RowN.setk {k N : Nat} {s : Store} {ys : List Vl} (h : RowN k N s ys) (o : Ob) : RowN k N (s.set k o) ys := ⟨h.1, fun j hj => let ⟨q, a, b, c⟩ := h.2 j hj; ⟨q, a, b, by rw [List.getElem?_set_ne (by omega)]; exact c⟩⟩
theorem RowN.succ {k N q : Nat} {s : Store} {ys : List Vl} (h : RowN k N s ys) (hq : k < q) (e : s[q]? = some (.lst [.int (N : Int)])) : RowN k (N + 1) s (ys ++ [.ref q]) := ⟨by simp [h.1], fun j hj => by
  by_cases hjN : j < N
  · obtain ⟨p, a, b, c⟩ := h.2 j hjN
    exact ⟨p, getPre _ a, b, c⟩
  · have : j = N := by omega
    subst this
    refine ⟨q, ?_, hq, e⟩
    rw [List.getElem?_append_right (by rw [h.1]; omega), h.1]
    simp⟩
theorem omap_of {α β : Type} {f : α → Option β} : ∀ {xs : List α} {ys : List β}, xs.length = ys.length → (∀ (i : Nat) a b, xs[i]? = some a → ys[i]? = some b → f a = some b) → omap f xs = some ys
  | [], [], _, _ => rfl
  | [], _ :: _, h, _ => by simp at h
  | _ :: _, [], h, _ => by simp at h
  | x :: xs, y :: ys, h, k => by
    unfold omap
    rw [k 0 x y rfl rfl, omap_of (xs := xs) (ys := ys) (by simpa using h) fun i a b e1 e2 => k (i + 1) a b (by simpa using e1) (by simpa using e2)]
theorem rowN_rd {k N : Nat} {s : Store} {ys : List Vl} (h : RowN k N s ys) (e : s[k]? = some (.lst ys)) : rd deep s (.ref k) = some (.list (dN N)) := by
  have e1 : omap (rd 39 s) ys = some (dN N) := omap_of (by simp [dN, h.1]) fun i a b h1 h2 => by
    have hi : i < N := by have := (List.getElem?_eq_some_iff.mp h1).1; rw [h.1] at this; exact this
    obtain ⟨q, a1, _, a3⟩ := h.2 i hi
    rw [a1] at h1; cases h1
    have : (dN N)[i]? = some (PyData.list [.int (i : Int)]) := by
      unfold dN
      rw [List.getElem?_map, List.getElem?_range hi]
      rfl
    rw [this] at h2; cases h2
    simp only [rd, lview, a3]
    rfl
  simp only [rd, lview, e, e1]
  rfl
theorem eq31 : PyData.eqv (.list (dN 31)) (.list (dN 31)) = true := by decide +kernel
theorem iVal_ref {f : Ef} {env : PD.Env} {s s1 : Store} {r : Nat} {vs : List Vl} (e : f env s = some (.v (.ref r), s1)) (h : s1[r]? = some (.lst vs)) : iVal f env s = some (.v (ivLive r), s1) := by
  unfold iVal
  rw [e, Rb_v]
  simp only [ivOf, h]
theorem live_nx {r i : Nat} {s : Store} {vs : List Vl} (h : s[r]? = some (.lst vs)) : ivLive r i s = some vs[i]? := by
  unfold ivLive
  rw [h]
theorem exc_ty {b : Nat} {u : Vl} {c : Str} {s : Store} {v : Vl} (h : Exc b u c s v) : tyOf s v = some (.own c) := by
  obtain ⟨n, m, rfl, _, _, h1, h2⟩ := h
  simp only [tyOf, h1, h2]
def yes31 : Ef := eLc (iR1 (aCons (eK (.int 31)) aNil)) (gN 3) [3] tYesF (eLst (aCons (eV 3) aNil))
def codes : Ef := eLc (iVal (eV 0)) (gN 2) [2] tYesF (eCall (aCons (eV 2) aNil) h45 1 [])
def wrong : Ef := eLc (iVal (eV 0)) (gN 2) [2] (tOrF (tNotF (tTr (eCall (aCons (eV 2) aNil) h46 1 []))) (tBl (PD.bin (eRepr (eFld exVs (eV 2))) (eV 1) fNe))) (eV 2)
theorem a47_eq : a47 = bCons (sIf (tBl (PD.bin codes yes31 fNe)) (bCons (sRet (eK (.bl false))) bNil) bNil) (bCons (sRet (PD.bin wrong (eLst aNil) fEq)) bNil) := rfl
theorem exV_len : exVs.length = 31 := by decide
theorem codes_ok {u : Vl} {b r : Nat} {env : PD.Env} {s : Store} (h0 : env[0]? = some (some (.ref r))) (hl : env.length = 4) (E : Errs b u s r) : ∃ s' ys, codes env s = some (.v (.ref s.length), s') ∧ Ext s s' ∧ RowN s.length 31 s' ys ∧ s'[s.length]? = some (.lst ys) := by
  obtain ⟨hb, vs, e1, f⟩ := E
  have hvl : vs.length = 31 := by rw [f.len, exV_len]
  obtain ⟨s', ys, e, ⟨x, rw_⟩, q⟩ := eLc_run (itf := iVal (eV 0)) (iv := ivLive r) (g := gN 2) (vs := [2]) (tt := tYesF) (te := eCall (aCons (eV 2) aNil) h45 1 []) (env := env) (st := s) (st1 := s) (fun i s2 ys => Ext s s2 ∧ RowN s.length i s2 ys) 31 (iVal_ref (eV_ok h0) e1) (fun i s2 ys hi ⟨x2, R2⟩ hk hly => by
    obtain ⟨c, hc⟩ : ∃ c, exVs[i]? = some c := ⟨_, List.getElem?_eq_getElem (by rw [exV_len]; exact hi)⟩
    obtain ⟨v, hv, ev⟩ := f.get hc
    obtain ⟨hin, hcode⟩ := code_is hc
    obtain ⟨r3, s3, e3, x3, hr3, q3⟩ := s_code hin (tyOf_ext x2 (exc_ty ev))
    have hkl := (List.getElem?_eq_some_iff.mp hk).1
    have hw : (wipeE env [2]).length = 4 := by rw [wipe1]; simp [hl]
    refine ⟨v, (wipeE env [2]).set 2 (some v), s2, true, s2, by rw [live_nx (x2 _ _ e1), hv], gN_ok (by omega), rfl, fun h => (by cases h), fun _ => ⟨.ref r3, s3, call_of (ac_of (eV_ok (by rw [List.getElem?_set_self (by omega)])) rfl) rfl e3, x3 _ _ hk, (x2.trans x3).set (Nat.le_refl _) _, ?_⟩⟩
    rw [hcode] at q3
    exact ((R2.mono x3).succ (by omega) q3).setk _) (fun s2 ys ⟨x2, _⟩ _ => by rw [live_nx (x2 _ _ e1), List.getElem?_eq_none (by omega)]) (by decide) ⟨Ext.push _ _, rfl, fun j hj => by omega⟩
  exact ⟨s', ys, e, x, rw_, q⟩
theorem yes_ok {env : PD.Env} {s : Store} (hl : env.length = 4) : ∃ s' ys, yes31 env s = some (.v (.ref s.length), s') ∧ Ext s s' ∧ RowN s.length 31 s' ys ∧ s'[s.length]? = some (.lst ys) := by
  obtain ⟨s', ys, e, ⟨x, rw_⟩, q⟩ := eLc_run (itf := iR1 (aCons (eK (.int 31)) aNil)) (iv := ivRange 0 31) (g := gN 3) (vs := [3]) (tt := tYesF) (te := eLst (aCons (eV 3) aNil)) (env := env) (st := s) (st1 := s) (fun i s2 ys => Ext s s2 ∧ RowN s.length i s2 ys) 31 (rng_ok (n := 31) (ac_of rfl rfl) (by decide)) (fun i s2 ys hi ⟨x2, R2⟩ hk hly => by
    have hkl := (List.getElem?_eq_some_iff.mp hk).1
    have hw : (wipeE env [3]).length = 4 := by rw [wipe1]; simp [hl]
    refine ⟨.int (i : Int), (wipeE env [3]).set 3 (some (.int (i : Int))), s2, true, s2, rng_nx hi, gN_ok (by omega), rfl, fun h => (by cases h), fun _ => ⟨.ref s2.length, s2 ++ [.lst [.int (i : Int)]], ?_, getPre _ hk, (x2.trans (Ext.push _ _)).set (Nat.le_refl _) _, ?_⟩⟩
    · unfold eLst
      rw [ac_of (g := aNil) (eV_ok (by rw [List.getElem?_set_self (by omega)])) rfl, Rb_v]
      unfold newL
      rw [if_pos (by simp)]
    · exact ((R2.mono (Ext.push _ _)).succ (by omega) (getLast _ _)).setk _) (fun s2 ys _ _ => rng_stop) (by decide) ⟨Ext.push _ _, rfl, fun j hj => by omega⟩
  exact ⟨s', ys, e, x, rw_, q⟩
theorem ne_str {x : Str} {s : Store} (h : PyData.canLay0 (.str x) = true) : fNe (.str x) (.str x) s = some (.v (.bl false), s) := by
  unfold fNe
  simp only [rd, h, if_true, PyData.eqv]
  simp [okv]
theorem wrong_ok {u : Vl} {d : PyData} {b r : Nat} {env : PD.Env} {s : Store} (h0 : env[0]? = some (some (.ref r))) (h1 : env[1]? = some (some (.str d.shown))) (hl : env.length = 4) (E : Errs b u s r) (hd : rdR deepR s u = some d) (S : Sho d) :
    ∃ s', wrong env s = some (.v (.ref s.length), s') ∧ Ext s s' ∧ s'[s.length]? = some (.lst []) := by
  obtain ⟨hb, vs, e1, f⟩ := E
  have hvl : vs.length = 31 := by rw [f.len, exV_len]
  obtain ⟨s', ys, e, ⟨x, hy⟩, q⟩ := eLc_run (itf := iVal (eV 0)) (iv := ivLive r) (g := gN 2) (vs := [2]) (tt := tOrF (tNotF (tTr (eCall (aCons (eV 2) aNil) h46 1 []))) (tBl (PD.bin (eRepr (eFld exVs (eV 2))) (eV 1) fNe))) (te := eV 2) (env := env) (st := s) (st1 := s) (fun i s2 ys => Ext s s2 ∧ ys = []) 31 (iVal_ref (eV_ok h0) e1) (fun i s2 ys hi ⟨x2, R2⟩ hk hly => by
    obtain ⟨c, hc⟩ : ∃ c, exVs[i]? = some c := ⟨_, List.getElem?_eq_getElem (by rw [exV_len]; exact hi)⟩
    obtain ⟨v, hv, ev⟩ := f.get hc
    obtain ⟨hin, hcode⟩ := code_is hc
    have hw : (wipeE env [2]).length = 4 := by rw [wipe1]; simp [hl]
    have g2 : ((wipeE env [2]).set 2 (some v))[2]? = some (some v) := by rw [List.getElem?_set_self (by omega)]
    have g1 : ((wipeE env [2]).set 2 (some v))[1]? = some (some (.str d.shown)) := by rw [List.getElem?_set_ne (by decide), wipe1, List.getElem?_set_ne (by decide)]; exact h1
    have ev2 := Exc.mono _ _ _ _ ev x2
    refine ⟨v, (wipeE env [2]).set 2 (some v), s2, false, s2, by rw [live_nx (x2 _ _ e1), hv], gN_ok (by omega), ?_, fun _ => ⟨⟨x2, R2⟩, hk⟩, fun h => (by cases h)⟩
    refine tOr_f (s1 := s2) (tNot_of (b := true) (tTr_bl (call_of (ac_of (eV_ok g2) rfl) rfl (s_iserr hin (exc_ty ev2))))) (tBl_of (bin_of (v := .str d.shown) (una_of (v := u) (s1 := s2) (una_of (v := v) (eV_ok g2) ?_) ?_) (eV_ok g1) (ne_str S.ok)))
    · obtain ⟨n, m, rfl, _, _, p1, p2⟩ := ev2
      have hm : exVs.contains c = true := by simpa using List.mem_of_getElem? hc
      simp only [fFld, p1, p2, hm, if_true]
      rfl
    · unfold fRepr
      rw [rdR_ext x2 _ _ _ hd]
      simp only [S.sh, S.len, and_self, if_true]
      rfl) (fun s2 ys ⟨x2, _⟩ _ => by rw [live_nx (x2 _ _ e1), List.getElem?_eq_none (by omega)]) (by decide) ⟨Ext.push _ _, rfl⟩
  subst hy
  exact ⟨s', e, x, q⟩
theorem s_right {u : Vl} {d : PyData} {b r : Nat} {s : Store} (E : Errs b u s r) (hd : rdR deepR s u = some d) (S : Sho d) : ∃ s', h47 [.ref r, .str d.shown] s = some (.v (.bl true), s') ∧ Ext s s' := by
  obtain ⟨s1, ys, e1, x1, R1, q1⟩ := codes_ok (env := [some (.ref r), some (.str d.shown), none, none]) (s := s) rfl rfl E
  obtain ⟨s2, zs, e2, x2, R2, q2⟩ := yes_ok (env := [some (.ref r), some (.str d.shown), none, none]) (s := s1) rfl
  obtain ⟨s3, e3, x3, q3⟩ := wrong_ok (env := [some (.ref r), some (.str d.shown), none, none]) (s := s2) rfl rfl rfl (E.mono (x1.trans x2)) (rdR_ext (x1.trans x2) _ _ _ hd) S
  refine ⟨s3 ++ [.lst []], body_rt (env' := [some (.ref r), some (.str d.shown), none, none]) ?_, ((x1.trans x2).trans x3).trans (Ext.push _ _)⟩
  show a47 [some (.ref r), some (.str d.shown), none, none] s = _
  rw [a47_eq]
  refine (ifF_of (env1 := [some (.ref r), some (.str d.shown), none, none]) (s1 := s2) (tBl_of (bin_of e1 e2 ?_)) rfl).trans ?_
  · unfold fNe
    rw [rowN_rd (R1.mono x2) (x2 _ _ q1), rowN_rd R2 q2]
    simp only [eq31]
    rfl
  · refine ret_of (bin_of e3 (w := .ref s3.length) (s2 := s3 ++ [.lst []]) ?_ ?_)
    · rfl
    · unfold fEq
      have g1 : (s3 ++ [Ob.lst []])[s2.length]? = some (.lst []) := getPre _ q3
      have g2 : (s3 ++ [Ob.lst []])[s3.length]? = some (.lst []) := getLast _ _
      simp only [rd, lview, g1, g2]
      rfl
end K01
set_option maxHeartbeats 4000000
namespace K01
open PySem PySem.Spec PyProof.Rows L2 PD
structure Eb (p : Nat) (s s' : Store) : Prop where
  go : ∀ (n : Nat) o, n ≠ p → s[n]? = some o → s'[n]? = some o
  len : s.length ≤ s'.length
theorem Eb.refl (p : Nat) (s : Store) : Eb p s s := ⟨fun _ _ _ h => h, Nat.le_refl _⟩
theorem Eb.trans {p : Nat} {s t u : Store} (a : Eb p s t) (b : Eb p t u) : Eb p s u := ⟨fun n o h e => b.go n o h (a.go n o h e), Nat.le_trans a.len b.len⟩
theorem Ext.eb {s t : Store} (x : Ext s t) (p : Nat) : Eb p s t := ⟨fun n o _ e => x n o e, x.len⟩
theorem Eb.setp (p : Nat) (s : Store) (o : Ob) : Eb p s (s.set p o) := ⟨fun n o' h e => by rw [List.getElem?_set_ne (Ne.symm h)]; exact e, by simp⟩
theorem Eb.set {p : Nat} {s t : Store} (h : Eb p s t) {k : Nat} (hk : s.length ≤ k) (o : Ob) : Eb p s (t.set k o) := ⟨fun n o' hn e => by
  have hl := (List.getElem?_eq_some_iff.mp e).1
  rw [List.getElem?_set_ne (by omega)]
  exact h.go n o' hn e, by simp; exact h.len⟩
def Pu (m : Nat) (s : Store) (p : Nat) : Prop := ∃ A B t : Int, s[p]? = some (.lst [.int A, .int B, .int t, .int 0]) ∧ 0 ≤ A ∧ 0 ≤ B ∧ B < 2147483629 ∧ 0 ≤ t ∧ t ≤ m
theorem Pu.lt {m : Nat} {s : Store} {p : Nat} (h : Pu m s p) : p < s.length := by
  obtain ⟨A, B, t, e, _⟩ := h
  exact (List.getElem?_eq_some_iff.mp e).1
theorem Pu.ext {m : Nat} {s s' : Store} {p : Nat} (h : Pu m s p) (x : Ext s s') : Pu m s' p := by
  obtain ⟨A, B, t, e, r⟩ := h
  exact ⟨A, B, t, x _ _ e, r⟩
theorem Pu.setk {m : Nat} {s : Store} {p k : Nat} (h : Pu m s p) (hk : p < k) (o : Ob) : Pu m (s.set k o) p := by
  obtain ⟨A, B, t, e, r⟩ := h
  exact ⟨A, B, t, by rw [List.getElem?_set_ne (by omega)]; exact e, r⟩
theorem log_small {i : Int} {n : Nat} (h : i.natAbs < 2 ^ n) (hn : 0 < n) : i.natAbs.log2 < n := by
  by_cases h0 : i.natAbs = 0
  · rw [h0]
    simpa using hn
  · exact (Nat.log2_lt h0).mpr h
theorem mul_ok {i j : Int} {s : Store} (h1 : i.natAbs < 2 ^ 200) (h2 : j.natAbs < 2 ^ 200) : fMul (.int i) (.int j) s = some (.v (.int (i * j)), s) := by
  have a := log_small h1 (by decide)
  have b := log_small h2 (by decide)
  unfold fMul
  exact if_pos (by omega)
theorem mod_ok {i j : Int} {s : Store} (h : 0 < j) : fMod (.int i) (.int j) s = some (.v (.int (i % j)), s) := by
  unfold fMod
  exact if_pos h
theorem div_ok {i j : Int} {s : Store} (h : 0 < j) (h2 : j.natAbs < 2 ^ 200) : fDiv (.int i) (.int j) s = some (.v (.int (i / j)), s) := by
  have b := log_small h2 (by decide)
  unfold fDiv
  exact if_pos ⟨h, by omega⟩
theorem int_of {f : Ef} {env : PD.Env} {s s1 : Store} {i : Int} (h : f env s = some (.v (.int i), s1)) : eB (aCons f aNil) fInt env s = some (.v (.int i), s1) := eB_of (ac_of h rfl) rfl
theorem rt_of {f : Ef} {env : PD.Env} {s s1 : Store} {v : Vl} {k : Sf} (e : f env s = some (.v v, s1)) : bCons (sRet f) k env s = some (.rt v, env, s1) := ret_of e
theorem s_mixed {a b : Int} {s : Store} (ha : 0 ≤ a) (ha2 : a < 2147483629) (hb : 0 ≤ b) (hb2 : b < 1000) : ∃ x : Int, h37 [.int a, .int b, .int 0] s = some (.v (.int x), s) ∧ 0 ≤ x := by
  have big : ∀ i : Int, 0 ≤ i → i < 2 ^ 200 → i.natAbs < 2 ^ 200 := fun i h1 h2 => by omega
  have p2 : (2 : Int) ^ 200 = 1606938044258990275541962092341162602522202993782792835301376 := by decide +kernel
  generalize hx1 : (a * 69069 + 104729 * b * b : Int) = x1
  generalize hx2 : ((x1 + 7919 * 0 + b) % 2147483647 : Int) = x2
  generalize hx3 : ((x2 * x2 + 40503) % 2147483629 : Int) = x3
  have hm2 : 0 ≤ x2 ∧ x2 < 2147483647 := by
    rw [← hx2]
    exact ⟨Int.emod_nonneg _ (by decide), Int.emod_lt_of_pos _ (by decide)⟩
  have hm3 : 0 ≤ x3 ∧ x3 < 2147483629 := by
    rw [← hx3]
    exact ⟨Int.emod_nonneg _ (by decide), Int.emod_lt_of_pos _ (by decide)⟩
  refine ⟨x3 * 48271 % 2147483587, body_rt (env' := [some (.int a), some (.int b), some (.int 0), some (.int x3)]) ?_, Int.emod_nonneg _ (by decide)⟩
  show a37 [some (.int a), some (.int b), some (.int 0), none] s = _
  refine (asg_of (v := .int x1) (s1 := s) (bin_of (bin_of (eV_ok rfl) rfl (mul_ok (by omega) (by decide))) (bin_of (bin_of rfl (eV_ok rfl) (mul_ok (by decide) (by omega))) (eV_ok rfl) (mul_ok (i := 104729 * b) (by omega) (by omega))) (by rw [← hx1]; rfl)) (by simp)).trans ?_
  refine (asg_of (v := .int x2) (s1 := s) (bin_of (int_of (bin_of (bin_of (eV_ok rfl) (bin_of rfl (eV_ok rfl) (mul_ok (by decide) (by decide))) rfl) (eV_ok rfl) rfl)) rfl (by rw [← hx2]; exact mod_ok (by decide))) (by simp)).trans ?_
  refine (asg_of (v := .int x3) (s1 := s) (bin_of (int_of (bin_of (bin_of (eV_ok rfl) (eV_ok rfl) (mul_ok (i := x2) (j := x2) (by omega) (by omega))) rfl rfl)) rfl (by rw [← hx3]; exact mod_ok (by decide))) (by simp)).trans ?_
  exact rt_of (bin_of (int_of (bin_of (eV_ok rfl) rfl (mul_ok (i := x3) (by omega) (by decide)))) rfl (mod_ok (by decide)))
theorem ifR_of {c : Tf} {f g k : Sf} {env env1 : PD.Env} {s s1 s2 : Store} {v : Vl} (e : c env s = some (.v true, s1)) (q : f env s1 = some (.rt v, env1, s2)) : bCons (sIf c f g) k env s = some (.rt v, env1, s2) := by
  unfold bCons sIf
  rw [e]
  show (match (if (true : Bool) = true then f env s1 else g env s1) with | some (.nx, env1, st1) => k env1 st1 | r => r) = _
  rw [if_pos rfl, q]
theorem asgG_of {f : Ef} {g : Gf} {k : Sf} {env env2 : PD.Env} {s s1 s2 : Store} {v : Vl} (e : f env s = some (.v v, s1)) (h : g v env s1 = some (env2, s2)) : bCons (sAsg f g) k env s = k env2 s2 := by
  unfold bCons sAsg
  rw [e]
  show (match (match g v env s1 with | some (env2, st2) => some (Fl.nx, env2, st2) | none => none) with | some (.nx, env1, st1) => k env1 st1 | r => r) = _
  rw [h]
theorem sub_of {i : Nat} {r j : Nat} {v : Vl} {env : PD.Env} {s : Store} {xs : List Vl} (h : env[i]? = some (some (.ref r))) (e : s[r]? = some (.lst xs)) (hj : j < xs.length) : gSubF (eV i) (eK (.int (j : Int))) v env s = some (env, s.set r (.lst (xs.set j v))) := by
  unfold gSubF
  rw [eV_ok h]
  show (match setD s (.ref r) (.int (j : Int)) v with | some st3 => some (env, st3) | none => none) = _
  have : setD s (.ref r) (.int (j : Int)) v = some (s.set r (.lst (xs.set j v))) := by
    simp only [setD, e, ixN_nat hj]
  rw [this]
theorem iter1 {nx : Iv} {g : Gf} {body : Sf} {n : Nat} {env env1 env2 : PD.Env} {s s1 s2 : Store} {v : Vl} (h0 : nx 0 s = some (some v)) (h1 : g v env s = some (env1, s1)) (h2 : body env1 s1 = some (.nx, env2, s2)) (h3 : nx 1 s2 = some none) : iterF nx g body (n + 2) 0 env s = some (.nx, env2, s2) := by
  unfold iterF
  simp only [h0, h1, h2]
  unfold iterF
  simp only [h3]
theorem for_of {itf : If} {iv : Iv} {g : Gf} {body k : Sf} {env env2 : PD.Env} {s s1 s2 : Store} (e : itf env s = some (.v iv, s1)) (h : iterF iv g body (16777215 + 2) 0 env s1 = some (.nx, env2, s2)) : bCons (sFor itf g body) k env s = k env2 s2 := by
  unfold bCons sFor
  rw [e]
  show (match iterF iv g body (16777215 + 2) 0 env s1 with | some (.nx, env1, st1) => k env1 st1 | r => r) = _
  rw [h]
theorem s_draw {m p : Nat} {s : Store} {k : Int} (h : Pu m s p) (hm : m ≤ 500) (hk : 0 < k) (hk2 : k < 1000) (hb : Builtin.Int.intBits k / 28 = 0) : ∃ (v : Int) (o : Ob), h38 [.ref p, .int k] s = some (.v (.int v), s.set p o) ∧ 0 ≤ v ∧ v < k ∧ Pu (m + 1) (s.set p o) p := by
  have hp := h.lt
  obtain ⟨A, B, t, e, hA, hB, hB2, ht, ht2⟩ := h
  have ix : ∀ (env : PD.Env) (s : Store) (xs : List Vl) (i : Nat) (a : Vl), env[0]? = some (some (.ref p)) → s[p]? = some (.lst xs) → xs[i]? = some a → PD.bin (eV 0) (eK (.int (i : Int))) fIxA env s = some (.v a, s) := fun env s xs i a h0 h1 h2 => bin_of (eV_ok h0) rfl (fIx_ref h1 h2)
  by_cases hA0 : 0 < A
  · refine ⟨A % k, .lst [.int (A / k), .int B, .int t, .int 0], body_rt (env' := [some (.ref p), some (.int k), none, none, some (.int (A % k))]) ?_, Int.emod_nonneg _ (by omega), Int.emod_lt_of_pos _ hk, A / k, B, t, by rw [List.getElem?_set_self hp], Int.ediv_nonneg hA (by omega), hB, hB2, ht, by omega⟩
    show a38 [some (.ref p), some (.int k), none, none, none] s = _
    refine ifR_of (s1 := s) (tBl_of (bin_of (ix _ _ _ 0 _ rfl e rfl) rfl (w := .int 0) (s2 := s) ?_)) ?_
    · show okv (.bl (decide (A > 0))) s = _
      rw [decide_eq_true (show A > 0 from hA0)]
      rfl
    · refine (asg_of (v := .int (A % k)) (s1 := s) (bin_of (int_of (ix _ _ _ 0 _ rfl e rfl)) (eV_ok rfl) (mod_ok hk)) (by simp)).trans ?_
      refine (asgG_of (v := .int (A / k)) (s1 := s) (bin_of (ix _ _ _ 0 _ rfl e rfl) (eV_ok rfl) (div_ok hk (by omega))) (sub_of (i := 0) (j := 0) rfl e (by simp))).trans ?_
      exact rt_of (eV_ok rfl)
  · have hA1 : A = 0 := by omega
    subst hA1
    obtain ⟨x, hx, hx0⟩ := s_mixed (a := B) (b := t + 1) (s := s.set p (.lst [.int 0, .int B, .int (t + 1), .int 0])) hB hB2 (by omega) (by omega)
    have e2 : (s.set p (.lst [.int 0, .int B, .int (t + 1), .int 0]))[p]? = some (.lst [.int 0, .int B, .int (t + 1), .int 0]) := by rw [List.getElem?_set_self hp]
    refine ⟨x % k, .lst [.int 0, .int B, .int (t + 1), .int 0], body_rt (env' := [some (.ref p), some (.int k), some (.int (0 * 2147483587 + x)), some (.int 0), none]) ?_, Int.emod_nonneg _ (by omega), Int.emod_lt_of_pos _ hk, 0, B, t + 1, e2, by decide, hB, hB2, by omega, by omega⟩
    show a38 [some (.ref p), some (.int k), none, none, none] s = _
    refine (ifF_of (s1 := s) (tBl_of (bin_of (ix _ _ _ 0 _ rfl e rfl) rfl (w := .int 0) (s2 := s) rfl)) rfl).trans ?_
    refine (asg_of (v := .int 0) (s1 := s) rfl (by simp)).trans ?_
    refine (for_of (iv := ivRange 0 1) (s1 := s) (env2 := [some (.ref p), some (.int k), some (.int (0 * 2147483587 + x)), some (.int 0), none]) (s2 := s.set p (.lst [.int 0, .int B, .int (t + 1), .int 0])) (rng_ok (n := 1) (ac_of (bin_of rfl (bin_of (una_of (eV_ok rfl) rfl) rfl (div_ok (by decide) (by decide))) (v := .int 1) (s1 := s) (s2 := s) ?_) rfl) (by decide)) (iter1 (v := .int 0) (rng_nx (by decide)) (gN_ok (by simp)) ?_ rng_stop)).trans ?_
    · show okv (.int (1 + ((Builtin.Int.intBits k : Nat) : Int) / 28)) s = _
      have : ((Builtin.Int.intBits k : Nat) : Int) / 28 = 0 := by omega
      rw [this]
      rfl
    · refine (asgG_of (env2 := [some (.ref p), some (.int k), some (.int 0), some (.int 0), none]) (v := .int (t + 1)) (s1 := s) (bin_of (ix _ _ _ 2 _ rfl e rfl) rfl rfl) (sub_of (i := 0) (j := 2) rfl e (by simp))).trans ?_
      refine (asg_of (v := .int (0 * 2147483587 + x)) (s1 := s.set p (.lst [.int 0, .int B, .int (t + 1), .int 0])) ?_ (by simp)).trans rfl
      refine bin_of (v := .int (0 * 2147483587)) (w := .int x) (s1 := s.set p (.lst [.int 0, .int B, .int (t + 1), .int 0])) (s2 := s.set p (.lst [.int 0, .int B, .int (t + 1), .int 0])) ?_ ?_ rfl
      · exact bin_of (eV_ok rfl) rfl (mul_ok (i := 0) (j := 2147483587) (by decide) (by decide))
      · exact call_of (ac_of (ix _ _ _ 1 _ rfl e2 rfl) (ac_of (ix _ _ _ 2 _ rfl e2 rfl) (ac_of (ix _ _ _ 3 _ rfl e2 rfl) rfl))) rfl hx
    · show bCons (sRet (PD.bin (eB (aCons (eV 2) aNil) fInt) (eV 1) fMod)) bNil [some (.ref p), some (.int k), some (.int (0 * 2147483587 + x)), some (.int 0), none] (s.set p (.lst [.int 0, .int B, .int (t + 1), .int 0])) = _
      refine rt_of (bin_of (int_of (eV_ok rfl)) (eV_ok rfl) ?_)
      rw [mod_ok hk]
      simp
end K01
set_option maxHeartbeats 4000000
namespace K01
open PySem PySem.Spec PyProof.Rows L2 PD
structure Wd (w : Str) : Prop where
  len : w.length ≤ 8
  let_ : ∀ c ∈ w.cps.toList, 97 ≤ c ∧ c < 123
theorem al_app {Q : Nat → Prop} {x y : Str} (hx : ∀ c ∈ x.cps.toList, Q c) (hy : ∀ c ∈ y.cps.toList, Q c) : ∀ c ∈ (x ++ y).cps.toList, Q c := by
  intro c hc
  have e : (x ++ y).cps.toList = x.cps.toList ++ y.cps.toList := by
    show (x.cps ++ y.cps).toList = _
    simp
  rw [e] at hc
  rcases List.mem_append.mp hc with h | h
  · exact hx c h
  · exact hy c h
theorem al_join {Q : Nat → Prop} : ∀ {ts : List Str}, (∀ t ∈ ts, ∀ c ∈ t.cps.toList, Q c) → ∀ c ∈ (Str.join "" ts).cps.toList, Q c
  | [], _ => fun c hc => by
    have e : (Str.join "" []).cps.toList = [] := by decide
    rw [e] at hc
    cases hc
  | [x], h => h x (List.mem_cons_self ..)
  | x :: y :: r, h => al_app (al_app (h x (List.mem_cons_self ..)) fun c hc => by
      have e : (Str.ofString "").cps.toList = [] := by decide
      rw [e] at hc
      cases hc) (al_join fun t ht => h t (List.mem_cons_of_mem _ ht))
theorem abc_ok : (List.range 26).all (fun i => match (Str.ofString "abcdefghijklmnopqrstuvwxyz").cps.toList[i]? with | some c => decide (97 ≤ c) && decide (c < 123) | none => false) = true := by decide +kernel
theorem fIx_abc {v : Int} {s : Store} (h0 : 0 ≤ v) (h1 : v < 26) : ∃ c : Nat, fIxA (.str "abcdefghijklmnopqrstuvwxyz") (.int v) s = some (.v (.str ⟨#[c]⟩), s) ∧ 97 ≤ c ∧ c < 123 := by
  have q := List.all_eq_true.mp abc_ok v.toNat (by simp; omega)
  cases e : (Str.ofString "abcdefghijklmnopqrstuvwxyz").cps.toList[v.toNat]? with
  | none => rw [e] at q; cases q
  | some c =>
    rw [e] at q
    simp only [Bool.and_eq_true, decide_eq_true_eq] at q
    refine ⟨c, ?_, q⟩
    have hv : v = ((v.toNat : Nat) : Int) := by omega
    have e1 : fIx (.str "abcdefghijklmnopqrstuvwxyz") (.int v) s = some (.v (.str ⟨#[c]⟩), s) := by
      show (if (Str.ofString "abcdefghijklmnopqrstuvwxyz").length ≤ 16777216 then match atI (Str.ofString "abcdefghijklmnopqrstuvwxyz").cps.toList v with | some c => okv (.str ⟨#[c]⟩) s | none => none else none) = _
      rw [if_pos (by decide), hv, atI_nat e]
      rfl
    unfold fIxA fOr
    rw [e1]
theorem s_one {m p L : Nat} {s : Store} {vs : List Vl} (h : Pu m s p) (hm : m ≤ 500) (hL : L ≠ p) (e : s[L]? = some (.lst vs)) (hn : vs.length = 11) : ∃ (i : Nat) (v : Vl) (o : Ob), i < 11 ∧ vs[i]? = some v ∧ h40 [.ref p, .ref L] s = some (.v v, s.set p o) ∧ Pu (m + 1) (s.set p o) p := by
  obtain ⟨v, o, e1, h0, h1, P1⟩ := s_draw (k := 11) h hm (by decide) (by decide) (by decide)
  obtain ⟨i, rfl⟩ : ∃ i : Nat, v = (i : Int) := ⟨v.toNat, by omega⟩
  have hi : i < vs.length := by omega
  refine ⟨i, vs[i], o, by omega, List.getElem?_eq_getElem hi, body_rt (env' := [some (.ref p), some (.ref L)]) ?_, P1⟩
  show a40 [some (.ref p), some (.ref L)] s = _
  refine ret_of (bin_of (v := .ref L) (eV_ok rfl) (call_of (vs := [.ref p, .int 11]) (ac_of (eV_ok rfl) (ac_of (eB_of (ac_of (eV_ok rfl) rfl) (by rw [len_ref e, hn]; rfl)) rfl)) rfl e1) ?_)
  exact fIx_ref (by rw [List.getElem?_set_ne (Ne.symm hL)]; exact e) (List.getElem?_eq_getElem hi)
def lets : Ef := eLc (iR1 (aCons (eV 1) aNil)) (gN 2) [2] tYesF (PD.bin (eK (.str ("abcdefghijklmnopqrstuvwxyz" : PySem.Str))) (eCall (aCons (eV 0) (aCons (eK (.int 26)) aNil)) h38 2 []) fIxA)
theorem lets_ok {m p n : Nat} {s : Store} {env : PD.Env} (h : Pu m s p) (hn : n ≤ 8) (hm : m ≤ 400) (h0 : env[0]? = some (some (.ref p))) (h1 : env[1]? = some (some (.int (n : Int)))) (hl : env.length = 3) :
    ∃ (s' : Store) (cs : List Nat), lets env s = some (.v (.ref s.length), s') ∧ Eb p s s' ∧ Pu (m + n) s' p ∧ s'[s.length]? = some (.lst (cs.map fun c => Vl.str ⟨#[c]⟩)) ∧ (∀ c ∈ cs, 97 ≤ c ∧ c < 123) ∧ cs.length = n := by
  have hp := h.lt
  obtain ⟨s', ys, e, ⟨x, P1, cs, hy, hc, hcl⟩, q⟩ := eLc_run (itf := iR1 (aCons (eV 1) aNil)) (iv := ivRange 0 n) (g := gN 2) (vs := [2]) (tt := tYesF) (te := PD.bin (eK (.str ("abcdefghijklmnopqrstuvwxyz" : PySem.Str))) (eCall (aCons (eV 0) (aCons (eK (.int 26)) aNil)) h38 2 []) fIxA) (env := env) (st := s) (st1 := s)
    (fun i s2 ys => Eb p s s2 ∧ Pu (m + i) s2 p ∧ ∃ cs : List Nat, ys = cs.map (fun c => Vl.str ⟨#[c]⟩) ∧ (∀ c ∈ cs, 97 ≤ c ∧ c < 123) ∧ cs.length = i) n (rng_ok (ac_of (eV_ok h1) rfl) (by omega)) (fun i s2 ys hi ⟨x2, P2, cs, hy, hc, hcl⟩ hk hly => by
      have hw : (wipeE env [2]).length = 3 := by rw [wipe1]; simp [hl]
      have g0 : ((wipeE env [2]).set 2 (some (.int (i : Int))))[0]? = some (some (.ref p)) := by rw [List.getElem?_set_ne (by decide), wipe1, List.getElem?_set_ne (by decide)]; exact h0
      obtain ⟨v, o, e1, v0, v1, P3⟩ := s_draw (k := 26) P2 (by omega) (by decide) (by decide) (by decide)
      obtain ⟨c, e2, c0, c1⟩ := fIx_abc (s := s2.set p o) v0 v1
      refine ⟨.int (i : Int), (wipeE env [2]).set 2 (some (.int (i : Int))), s2, true, s2, rng_nx hi, gN_ok (by omega), rfl, fun h => (by cases h), fun _ => ⟨.str ⟨#[c]⟩, s2.set p o, bin_of rfl (call_of (vs := [.ref p, .int 26]) (ac_of (eV_ok g0) (ac_of rfl rfl)) rfl e1) e2, by rw [List.getElem?_set_ne (by omega)]; exact hk, (x2.trans (Eb.setp p s2 o)).set (Nat.le_refl _) _, P3.setk hp _, cs ++ [c], by rw [hy]; simp, fun d hd => ?_, by simp [hcl]⟩⟩
      rcases List.mem_append.mp hd with hd | hd
      · exact hc d hd
      · have : d = c := by simpa using hd
        subst this
        exact ⟨c0, c1⟩) (fun s2 ys _ _ => rng_stop) (by omega) ⟨(Ext.push _ _).eb p, h.ext (Ext.push _ _), [], rfl, fun c hc => (by cases hc), rfl⟩
  subst hy
  exact ⟨s', cs, e, x, P1, q, hc, hcl⟩
theorem eM_of {chk : Chk} {f : Ef} {fs : Af} {h : Mf} {env : PD.Env} {s s1 s2 : Store} {v : Vl} {vs : List Vl} {r : Out Vl} (e : f env s = some (.v v, s1)) (c : chk s1 v = true) (k : fs env s1 = some (.v vs, s2)) (q : h v vs s2 = r) : eM chk f fs h env s = r := by
  unfold eM
  rw [e, Rb_v, if_pos c, k, Rb_v, q]
theorem strs_of (cs : List Nat) : strsOf (cs.map fun c => Vl.str ⟨#[c]⟩) = some (cs.map fun c => (⟨#[c]⟩ : Str)) := by
  induction cs with
  | nil => rfl
  | cons c cs ih => simp [strsOf, ih]
theorem sum_ones (cs : List Nat) : ((cs.map fun c => (⟨#[c]⟩ : Str)).map (·.length)).sum = cs.length := by
  induction cs with
  | nil => rfl
  | cons c cs ih =>
    simp only [List.map_cons, List.sum_cons, ih, List.length_cons]
    show 1 + cs.length = _
    omega
def szE : Ef := PD.bin (eK (.int 1)) (eCall (aCons (eV 0) (aCons (eIf (tBl (PD.bin (eCall (aCons (eV 0) (aCons (eK (.int 3)) aNil)) h38 2 []) (eK (.int 0)) fEq)) (eK (.int 8)) (eK (.int 3))) aNil)) h38 2 []) fAdd
theorem a41_eq : a41 = bCons (sAsg szE (gN 1)) (bCons (sRet (eM isStr (eK (.str ("" : PySem.Str))) (aCons lets aNil) mJoin)) bNil) := rfl
theorem s_word {m p : Nat} {s : Store} (h : Pu m s p) (hm : m ≤ 300) : ∃ (w : Str) (s' : Store), h41 [.ref p] s = some (.v (.str w), s') ∧ Eb p s s' ∧ Pu (m + 10) s' p ∧ Wd w := by
  obtain ⟨v1, o1, e1, a0, a1, P1⟩ := s_draw (k := 3) h (by omega) (by decide) (by decide) (by decide)
  have size : ∃ (n : Nat) (s2 : Store), szE [some (.ref p), none, none] s = some (.v (.int (n : Int)), s2) ∧ n ≤ 8 ∧ Eb p s s2 ∧ Pu (m + 2) s2 p := by
    have tst : tBl (PD.bin (eCall (aCons (eV 0) (aCons (eK (.int 3)) aNil)) h38 2 []) (eK (.int 0)) fEq) [some (.ref p), none, none] s = some (.v (v1 == 0), s.set p o1) := tBl_of (bin_of (call_of (vs := [.ref p, .int 3]) (ac_of (eV_ok rfl) (ac_of rfl rfl)) rfl e1) rfl rfl)
    have go : ∀ k : Int, eIf (tBl (PD.bin (eCall (aCons (eV 0) (aCons (eK (.int 3)) aNil)) h38 2 []) (eK (.int 0)) fEq)) (eK (.int 8)) (eK (.int 3)) [some (.ref p), none, none] s = some (.v (.int k), s.set p o1) → 0 < k → k ≤ 8 → Builtin.Int.intBits k / 28 = 0 → ∃ (n : Nat) (s2 : Store), szE [some (.ref p), none, none] s = some (.v (.int (n : Int)), s2) ∧ n ≤ 8 ∧ Eb p s s2 ∧ Pu (m + 2) s2 p := fun k ek k0 k1 kb => by
      obtain ⟨v2, o2, e2, b0, b1, P2⟩ := s_draw (k := k) P1 (by omega) k0 (by omega) kb
      refine ⟨(1 + v2).toNat, (s.set p o1).set p o2, bin_of (v := .int 1) (w := .int v2) rfl (call_of (vs := [.ref p, .int k]) (ac_of (eV_ok rfl) (ac_of ek rfl)) rfl e2) ?_, by omega, (Eb.setp p s o1).trans (Eb.setp p _ o2), P2⟩
      have : (((1 + v2).toNat : Nat) : Int) = 1 + v2 := by omega
      rw [this]
      rfl
    cases hb : (v1 == 0) with
    | true => exact go 8 (by unfold eIf; rw [tst, hb]; rfl) (by decide) (by decide) (by decide)
    | false => exact go 3 (by unfold eIf; rw [tst, hb]; rfl) (by decide) (by decide) (by decide)
  obtain ⟨n, s2, e2, hn, x2, P2⟩ := size
  obtain ⟨s3, cs, e3, x3, P3, q3, hc, hcl⟩ := lets_ok (env := [some (.ref p), some (.int (n : Int)), none]) P2 hn (by omega) rfl rfl rfl
  refine ⟨Txt.join "" (cs.map fun c => (⟨#[c]⟩ : Str)), s3, body_rt (env' := [some (.ref p), some (.int (n : Int)), none]) ?_, x2.trans x3, ?_, ?_, ?_⟩
  · show a41 [some (.ref p), none, none] s = _
    rw [a41_eq]
    refine (asg_of e2 (by simp)).trans ?_
    refine ret_of (eM_of (v := .str "") (s1 := s2) rfl rfl (ac_of (g := aNil) e3 rfl) ?_)
    unfold mJoin
    simp only [lview, q3, strs_of, sum_ones]
    rw [if_pos (by
      have : (Str.ofString "").length = 0 := by decide
      rw [this, hcl]; omega)]
    rfl
  · obtain ⟨A, B, t, r1, r2, r3, r4, r5, r6⟩ := P3
    exact ⟨A, B, t, r1, r2, r3, r4, r5, by omega⟩
  · rw [show Txt.join "" (cs.map fun c => (⟨#[c]⟩ : Str)) = Str.join "" (cs.map fun c => (⟨#[c]⟩ : Str)) from StrLaws.glued_eq_join ..]
    have := StrLaws.join_length_le "" (cs.map fun c => (⟨#[c]⟩ : Str))
    rw [sum_ones] at this
    have e0 : (Str.ofString "").length = 0 := by decide
    rw [e0] at this
    omega
  · rw [show Txt.join "" (cs.map fun c => (⟨#[c]⟩ : Str)) = Str.join "" (cs.map fun c => (⟨#[c]⟩ : Str)) from StrLaws.glued_eq_join ..]
    refine al_join (Q := fun c => 97 ≤ c ∧ c < 123) fun t ht c hct => ?_
    obtain ⟨d, hd, rfl⟩ := List.mem_map.mp ht
    have : c = d := by simpa using hct
    subst this
    exact hc c hd
theorem lview_ext {s s' : Store} (x : Ext s s') {v : Vl} {vs : List Vl} (e : lview s v = some vs) : lview s' v = some vs := by
  cases v with
  | ref k =>
    simp only [lview] at e ⊢
    cases q : s[k]? with
    | none => simp [q] at e
    | some o =>
      rw [x _ _ q]
      rw [q] at e
      exact e
  | _ => exact e
theorem intsOf_ints : ∀ ns : List Int, intsOf (ns.map Vl.int) = some ns
  | [] => rfl
  | n :: ns => by simp [intsOf, intsOf_ints ns]
theorem lv_ns {st : Store} {v : Vl} {vs : List Vl} (h : lview st v = some vs) : (∀ ts, v ≠ .tup ts) ∧ ∀ x, v ≠ .str x := by
  cases v <;> simp [lview] at h ⊢
theorem fSl_l {st : Store} {v : Vl} {vs : List Vl} (lo hi : Option Int) (h : lview st v = some vs) : fSl lo hi v st = newL (cutL vs lo hi) st := by
  obtain ⟨h1, h2⟩ := lv_ns h
  unfold fSl
  split
  · exact absurd rfl (h1 _)
  · exact absurd rfl (h2 _)
  · rw [h]
theorem cut1 (vs : List Vl) : cutL vs (some 0) (some 1) = vs.take 1 := by
  cases vs with
  | nil => rfl
  | cons v vs =>
    unfold cutL
    have h0 : HT.sIx (v :: vs).length 0 (some 0) = 0 := by simp [HT.sIx]
    have h1 : HT.sIx (v :: vs).length (v :: vs).length (some 1) = 1 := by simp [HT.sIx]
    rw [h0, h1]
    rfl
theorem len_l {st : Store} {v : Vl} {vs : List Vl} (h : lview st v = some vs) : bOr fLen fLenD [v] st = some (.v (.int (vs.length : Nat)), st) := by
  have e1 : fLen [v] st = some (.v (.int (vs.length : Nat)), st) := by
    cases v with
    | ref k => simp only [fLen, h]; rfl
    | klst ws => simp only [fLen, h]; rfl
    | _ => simp [lview] at h
  unfold bOr
  rw [e1]
theorem s_purse {v : Vl} {s : Store} {ns : List Int} (h : lview s v = some (ns.map .int)) : ∃ p s', h36 [v, .int 0] s = some (.v (.ref p), s') ∧ Ext s s' ∧ s.length ≤ p ∧ Pu 0 s' p := by
  have hl : ((ns.map Vl.int).take 1).length ≤ 16777216 := by rw [List.length_take]; omega
  generalize hs1 : s ++ [Ob.lst ((ns.map Vl.int).take 1)] = s1
  have hlv : lview s1 (.ref s.length) = some ((ns.take 1).map Vl.int) := by
    rw [← hs1]
    simp [lview, List.map_take]
  have p1 : fPow (.int 10) (.int 18) s1 = okv (.int (10 ^ 18)) s1 := by
    unfold fPow
    exact if_pos (by decide)
  have p2 : fPow (.int 10) (.int 60) s1 = okv (.int (10 ^ 60)) s1 := by
    unfold fPow
    exact if_pos (by decide)
  have p3 : fPow (.int (10 ^ 60)) (.int 8) s1 = okv (.int ((10 ^ 60) ^ 8)) s1 := by
    unfold fPow
    exact if_pos (by decide +kernel)
  have hm : (0 : Int) < (10 ^ 60) ^ 8 := by decide +kernel
  generalize (10 ^ 18 : Int) = t18 at p1
  generalize (10 ^ 60 : Int) = t60 at p2 p3 hm
  generalize (t60 ^ 8 : Int) = M at p3 hm
  generalize hz : (ns.take 1).sum = z
  have x1 : Ext s s1 := by rw [← hs1]; exact Ext.push _ _
  refine ⟨s1.length, s1 ++ [.lst [.int ((if 0 > z - t18 then 0 else z - t18) % M), .int (z % 2147483629), .int 0, .int 0]], body_rt (env' := [some v, some (.int 0), some (.int z)]) ?_, x1.trans (Ext.push _ _), x1.len, _, _, 0, getLast _ _, Int.emod_nonneg _ (by omega), Int.emod_nonneg _ (by decide), Int.emod_lt_of_pos _ (by decide), by decide, by decide⟩
  show a36 [some v, some (.int 0), none] s = _
  refine (asg_of (v := .int z) (s1 := s1) (eB_of (vs := [.ref s.length]) (s1 := s1) (ac_of ?_ rfl) ?_) (by simp)).trans ?_
  · have eb : PD.bin (eV 1) (eK (.int 1)) fAdd [some v, some (.int 0), none] s = some (.v (.int (0 + 1)), s) := bin_of (v := .int 0) (w := .int 1) (s1 := s) (s2 := s) (eV_ok rfl) rfl rfl
    have o1 : oPart (eV 1) [some v, some (.int 0), none] s = some (.v (some 0), s) := rfl
    have o2 : oPart (PD.bin (eV 1) (eK (.int 1)) fAdd) [some v, some (.int 0), none] s = some (.v (some (0 + 1)), s) := by
      unfold oPart
      rw [eb, Rb_v]
    unfold eSl
    rw [eV_ok (i := 0) (v := v) rfl, Rb_v, o1, Rb_v, o2, Rb_v]
    show fSl (some 0) (some (0 + 1)) v s = _
    rw [show (0 : Int) + 1 = 1 from rfl, fSl_l _ _ h, cut1]
    unfold newL
    rw [if_pos hl, hs1]
  · show lstF gSum [.ref s.length] s1 = _
    simp only [lstF, hlv, gSum, intsOf_ints, hz]
    rfl
  · refine ret_of ?_
    unfold eLst
    rw [ac_of (v := .int ((if 0 > z - t18 then 0 else z - t18) % M)) (vs := [.int (z % 2147483629), .int 0, .int 0]) (s1 := s1) (s2 := s1) ?_ ?_, Rb_v]
    · rfl
    · exact bin_of (int_of (eB_of (ac_of (bin_of (v := .int z) (w := .int t18) (s1 := s1) (s2 := s1) (eV_ok rfl) (bin_of rfl rfl p1) rfl) (ac_of rfl rfl)) rfl)) (bin_of (bin_of rfl rfl p2) rfl p3) (mod_ok hm)
    · exact ac_of (bin_of (int_of (eV_ok rfl)) rfl (mod_ok (by decide))) (ac_of rfl (ac_of (eV_ok rfl) rfl))
theorem s_purses {v : Vl} {s : Store} {ns : List Int} (h : lview s v = some (ns.map .int)) : ∃ q p s', h39 [v, .int 1] s = some (.v (.ref q), s') ∧ Ext s s' ∧ s'[q]? = some (.lst [.ref p]) ∧ q ≠ p ∧ q < s'.length ∧ Pu 0 s' p := by
  have hr : (iR1 (aCons (eB (aCons (eK (.int 1)) (aCons (eB (aCons (eV 1) (aCons (eB (aCons (eV 0) aNil) (bOr fLen fLenD)) aNil)) fMin) aNil)) fMax) aNil)) [some v, some (.int 1), none] s = some (.v (ivRange 0 1), s) := by
    refine rng_ok (n := 1) (ac_of (eB_of (ac_of (v := .int 1) (s1 := s) rfl (ac_of (eB_of (ac_of (v := .int 1) (s1 := s) (eV_ok rfl) (ac_of (eB_of (ac_of (eV_ok rfl) rfl) (len_l h)) rfl)) rfl) rfl)) ?_) rfl) (by decide)
    show okv (.int (if (if ((ns.map Vl.int).length : Int) < 1 then ((ns.map Vl.int).length : Int) else 1) > 1 then (if ((ns.map Vl.int).length : Int) < 1 then ((ns.map Vl.int).length : Int) else 1) else 1)) s = _
    have : (if (if ((ns.map Vl.int).length : Int) < 1 then ((ns.map Vl.int).length : Int) else 1) > 1 then (if ((ns.map Vl.int).length : Int) < 1 then ((ns.map Vl.int).length : Int) else 1) else 1) = 1 := by
      split
      · rename_i q
        rw [if_neg (by omega)]
      · rfl
    rw [this]
    rfl
  obtain ⟨s', ys, e, hP, q⟩ := eLc_run (g := gN 2) (vs := [2]) (tt := tYesF) (te := eCall (aCons (eV 0) (aCons (eV 2) aNil)) h36 2 []) (env := [some v, some (.int 1), none]) (st := s) (st1 := s)
    (fun i s2 ys => Ext s s2 ∧ (i = 0 → ys = []) ∧ (i = 1 → ∃ p, ys = [.ref p] ∧ s.length < p ∧ Pu 0 s2 p)) 1 hr (fun i s2 ys hi ⟨x2, R2, _⟩ hk hly => by
      have hi0 : i = 0 := by omega
      subst hi0
      obtain ⟨p, s3, e3, x3, hp, P3⟩ := s_purse (lview_ext x2 h)
      have hkl := (List.getElem?_eq_some_iff.mp hk).1
      refine ⟨.int 0, _, s2, true, s2, rng_nx (by decide), gN_ok (by rw [wipe1]; simp), rfl, fun h => (by cases h), fun _ => ⟨.ref p, s3, call_of (vs := [v, .int 0]) (ac_of (eV_ok rfl) (ac_of (eV_ok rfl) rfl)) rfl e3, x3 _ _ hk, (x2.trans x3).set (Nat.le_refl _) _, fun h => (by omega), fun _ => ⟨p, by rw [R2 rfl]; rfl, by omega, ?_⟩⟩⟩
      obtain ⟨A, B, t, e, r⟩ := P3
      exact ⟨A, B, t, by rw [List.getElem?_set_ne (by omega)]; exact e, r⟩) (fun s2 ys _ _ => rng_stop) (by decide) ⟨Ext.push _ _, fun _ => rfl, fun h => (by omega)⟩
  obtain ⟨x, _, h1⟩ := hP
  obtain ⟨p, rfl, hp, P⟩ := h1 rfl
  exact ⟨s.length, p, s', body_rt (env' := [some v, some (.int 1), none]) (ret_of e), x, q, by omega, (List.getElem?_eq_some_iff.mp q).1, P⟩
end K01
set_option maxHeartbeats 4000000
namespace K01
open PySem PySem.Spec PyProof.Rows L2 PD
theorem kits : (["NoneType", "bool", "int", "str", "tuple", "list", "dict"] : List String).all (fun T => (["list", "dict", "tuple"] : List String).all fun X => decide (kitB T X = some (T == X))) = true := by decide +kernel
theorem kit_is {T X : String} (hT : T ∈ (["NoneType", "bool", "int", "str", "tuple", "list", "dict"] : List String)) (hX : X ∈ (["list", "dict", "tuple"] : List String)) : kitD ctE (.ty T) [.ty X] = some (T == X) := by
  have h := List.all_eq_true.mp (List.all_eq_true.mp kits T hT) X hX
  have e : ctE (.ty T) (.ty X) = some (T == X) := of_decide_eq_true h
  unfold kitD
  rw [e]
  cases h : (T == X) <;> rfl
theorem isi_of {f : Ef} {env : PD.Env} {s s1 : Store} {u : Vl} {T X : String} (e : f env s = some (.v u, s1)) (t : tyOf s1 u = some (.ty T)) (hT : T ∈ (["NoneType", "bool", "int", "str", "tuple", "list", "dict"] : List String)) (hX : X ∈ (["list", "dict", "tuple"] : List String)) : tTr (eIsi ctE f [.ty X]) env s = some (.v (T == X), s1) := by
  refine tTr_bl ?_
  unfold eIsi
  rw [e, Rb_v, t]
  simp only [kit_is hT hX]
  rfl
def eLat (f : Ef) : Ef := eM isL f (aCons (eK (.str ("later" : PySem.Str))) aNil) mAppend
theorem lat_of {f : Ef} {env : PD.Env} {s s1 : Store} {r : Nat} {vs : List Vl} (e : f env s = some (.v (.ref r), s1)) (h : s1[r]? = some (.lst vs)) (hn : vs.length ≤ 10) : eLat f env s = some (.v .non, s1.set r (.lst (vs ++ [.str "later"]))) := by
  refine eM_of e (by simp only [isL, lview, h]; rfl) (ac_of rfl rfl) ?_
  show onL (fun xs => if xs.length < 16777216 then some (.non, xs ++ [.str "later"]) else none) (.ref r) s1 = _
  simp only [onL, h]
  rw [if_pos (by omega)]
  rfl
theorem exp_of {f : Ef} {k : Sf} {env : PD.Env} {s s1 : Store} {v : Vl} (e : f env s = some (.v v, s1)) : bCons (sExpr f) k env s = k env s1 := by
  unfold bCons sExpr
  rw [e]
  rfl
def m1 : Sf := sIf (tTr (eIsi ctE (eV 5) [.ty "list"])) (bCons (sExpr (eLat (eV 5))) bNil) bNil
def m2 : Sf := sIf (tTr (eIsi ctE (eV 5) [.ty "dict"])) (bCons (sExpr (eLat (PD.bin (eV 5) (eV 3) fIxA))) (bCons (sAsg (eK (.int 1)) (gSubF (eV 5) (eK (.str ("LATER" : PySem.Str))))) bNil)) bNil
def m3 : Sf := sIf (tAndF (tTr (eIsi ctE (eV 5) [.ty "tuple"])) (tTr (eIsi ctE (PD.bin (eV 5) (eK (.int 1)) fIxA) [.ty "list"]))) (bCons (sExpr (eLat (PD.bin (eV 5) (eK (.int 1)) fIxA))) bNil) bNil
def mut3 (k : Sf) : Sf := bCons m1 (bCons m2 (bCons m3 k))
structure Kp (L M : Nat) (s s' : Store) : Prop where
  go : ∀ (n : Nat) o, n < L ∨ M ≤ n → s[n]? = some o → s'[n]? = some o
  len : s.length ≤ s'.length
theorem Kp.refl (L M : Nat) (s : Store) : Kp L M s s := ⟨fun _ _ _ h => h, Nat.le_refl _⟩
theorem Kp.set {L M r : Nat} {s s1 : Store} (h : Kp L M s s1) (h1 : L ≤ r) (h2 : r < M) (o : Ob) : Kp L M s (s1.set r o) := ⟨fun n o' hn e => by
  rw [List.getElem?_set_ne (by omega)]
  exact h.go n o' hn e, by simp; exact h.len⟩
structure Th (L : Nat) (w : Str) (s : Store) (u : Vl) : Prop where
  now : ∃ d, rdR deepR s u = some d ∧ Sho d
  chg : ∀ (k : Sf) (env : PD.Env) (s' : Store), env[5]? = some (some u) → env[3]? = some (some (.str w)) → Ext s s' → ∃ s'' d', mut3 k env s' = k env s'' ∧ Kp L s.length s' s'' ∧ rdR deepR s'' u = some d' ∧ Sho d'
theorem and_t {f g : Tf} {env : PD.Env} {s s1 : Store} {r : Out Bool} (e : f env s = some (.v true, s1)) (k : g env s1 = r) : tAndF f g env s = r := by
  unfold tAndF
  rw [e, Rb_v, if_pos rfl, k]
theorem and_f {f g : Tf} {env : PD.Env} {s s1 : Store} (e : f env s = some (.v false, s1)) : tAndF f g env s = some (.v false, s1) := by
  unfold tAndF
  rw [e, Rb_v, if_neg (by decide)]
theorem th_flat {L : Nat} {w : Str} {s : Store} {u : Vl} {T : String} {d : PyData} (hT : T ∈ (["NoneType", "bool", "int", "str"] : List String)) (ht : ∀ s', tyOf s' u = some (.ty T)) (hd : ∀ s', rdR deepR s' u = some d) (S : Sho d) : Th L w s u := by
  have hT2 : T ∈ (["NoneType", "bool", "int", "str", "tuple", "list", "dict"] : List String) := by
    revert hT
    simp only [List.mem_cons, List.not_mem_nil, or_false]
    rintro (h | h | h | h) <;> simp [h]
  have hn : ∀ X ∈ (["list", "dict", "tuple"] : List String), (T == X) = false := by
    revert hT
    simp only [List.mem_cons, List.not_mem_nil, or_false]
    rintro (rfl | rfl | rfl | rfl) X (rfl | rfl | rfl) <;> decide
  refine ⟨⟨d, hd s, S⟩, fun k env s' h5 h3 x => ⟨s', d, ?_, Kp.refl _ _ _, hd s', S⟩⟩
  have t : ∀ X ∈ (["list", "dict", "tuple"] : List String), tTr (eIsi ctE (eV 5) [.ty X]) env s' = some (.v false, s') := fun X hX => by
    rw [isi_of (eV_ok h5) (ht s') hT2 hX, hn X hX]
  unfold mut3 m1 m2 m3
  rw [ifF_of (t "list" (by simp)) rfl, ifF_of (t "dict" (by simp)) rfl, ifF_of (and_f (t "tuple" (by simp))) rfl]
theorem fIx_tup {s : Store} {i : Nat} {vs : List Vl} {a : Vl} (h : vs[i]? = some a) : fIxA (.tup vs) (.int (i : Int)) s = some (.v a, s) := by
  have e1 : fIx (.tup vs) (.int (i : Int)) s = some (.v a, s) := by
    simp only [fIx, atI_nat h]
    rfl
  unfold fIxA fOr
  rw [e1]
theorem wd_lo {w : Str} (h : Wd w) : loB w = true := loB_ok.mpr fun c hc => by have := (h.let_ c hc).2; omega
theorem wd_sh {w : Str} (h : Wd w) : (w.cps.toList.all fun c => decide (c < 16 ^ 8)) = true := lo_short (loB_ok.mp (wd_lo h))
theorem wd_sz {w : Str} (h : Wd w) : w.cps.size ≤ 8 := h.len
theorem th_tup {L : Nat} {w x : Str} {vs : List Vl} {s : Store} {d : PyData} (h1 : vs[1]? = some (.str x)) (hd : ∀ s', rdR deepR s' (.tup vs) = some d) (S : Sho d) : Th L w s (.tup vs) := by
  refine ⟨⟨d, hd s, S⟩, fun k env s' h5 h3 x => ⟨s', d, ?_, Kp.refl _ _ _, hd s', S⟩⟩
  have t : ∀ X ∈ (["list", "dict", "tuple"] : List String), tTr (eIsi ctE (eV 5) [.ty X]) env s' = some (.v ("tuple" == X), s') := fun X hX => isi_of (eV_ok h5) rfl (by simp) hX
  unfold mut3 m1 m2 m3
  rw [ifF_of ((t "list" (by simp)).trans rfl) rfl, ifF_of ((t "dict" (by simp)).trans rfl) rfl, ifF_of (and_t ((t "tuple" (by simp)).trans rfl) ((isi_of (bin_of (eV_ok h5) rfl (fIx_tup (i := 1) h1)) (T := "str") rfl (by simp) (by simp)).trans rfl)) rfl]
theorem th_tupL {L r : Nat} {w : Str} {s : Store} (W : Wd w) (hL : L ≤ r) (e : s[r]? = some (.lst [.str w])) (S1 : Sho (.tuple [.str w, .list [.str w]])) (S2 : Sho (.tuple [.str w, .list [.str w, .str "later"]])) : Th L w s (.tup [.str w, .ref r]) := by
  refine ⟨⟨_, by simp only [deepR, rdR, omap, e]; rfl, S1⟩, fun k env s' h5 h3 x => ⟨s'.set r (.lst [.str w, .str "later"]), _, ?_, (Kp.refl L s.length s').set hL (List.getElem?_eq_some_iff.mp e).1 _, ?_, S2⟩⟩
  · have t : ∀ X ∈ (["list", "dict", "tuple"] : List String), tTr (eIsi ctE (eV 5) [.ty X]) env s' = some (.v ("tuple" == X), s') := fun X hX => isi_of (eV_ok h5) rfl (by simp) hX
    have ix : PD.bin (eV 5) (eK (.int 1)) fIxA env s' = some (.v (.ref r), s') := bin_of (eV_ok h5) rfl (fIx_tup (i := 1) rfl)
    unfold mut3 m1 m2 m3
    rw [ifF_of ((t "list" (by simp)).trans rfl) rfl, ifF_of ((t "dict" (by simp)).trans rfl) rfl]
    rw [ifT_of (and_t ((t "tuple" (by simp)).trans rfl) ((isi_of ix (T := "list") (by simp only [tyOf, x _ _ e]) (by simp) (by simp)).trans rfl)) ((exp_of (lat_of ix (x _ _ e) (by simp))).trans rfl)]
    rfl
  · have hl := (List.getElem?_eq_some_iff.mp (x _ _ e)).1
    have e2 : (s'.set r (.lst [.str w, .str "later"]))[r]? = some (.lst [.str w, .str "later"]) := by rw [List.getElem?_set_self hl]
    simp only [deepR, rdR, omap, e2]
    rfl
theorem th_lst {L r : Nat} {w : Str} {vs : List Vl} {s : Store} {d d' : PyData} (hL : L ≤ r) (hn : vs.length ≤ 5) (e : s[r]? = some (.lst vs)) (hd : rdR deepR s (.ref r) = some d) (S1 : Sho d) (hd2 : ∀ s', Ext s s' → rdR deepR (s'.set r (.lst (vs ++ [.str "later"]))) (.ref r) = some d') (S2 : Sho d') : Th L w s (.ref r) := by
  refine ⟨⟨d, hd, S1⟩, fun k env s' h5 h3 x => ⟨s'.set r (.lst (vs ++ [.str "later"])), d', ?_, (Kp.refl L s.length s').set hL (List.getElem?_eq_some_iff.mp e).1 _, hd2 s' x, S2⟩⟩
  have hl := (List.getElem?_eq_some_iff.mp (x _ _ e)).1
  have e2 : (s'.set r (.lst (vs ++ [.str "later"])))[r]? = some (.lst (vs ++ [.str "later"])) := by rw [List.getElem?_set_self hl]
  have t1 : tTr (eIsi ctE (eV 5) [.ty "list"]) env s' = some (.v ("list" == "list"), s') := isi_of (eV_ok h5) (by simp only [tyOf, x _ _ e]) (by simp) (by simp)
  have t : ∀ X ∈ (["list", "dict", "tuple"] : List String), tTr (eIsi ctE (eV 5) [.ty X]) env (s'.set r (.lst (vs ++ [.str "later"]))) = some (.v ("list" == X), s'.set r (.lst (vs ++ [.str "later"]))) := fun X hX => isi_of (eV_ok h5) (by simp only [tyOf, e2]) (by simp) hX
  unfold mut3 m1 m2 m3
  rw [ifT_of (t1.trans rfl) ((exp_of (lat_of (eV_ok h5) (x _ _ e) (by omega))).trans rfl), ifF_of ((t "dict" (by simp)).trans rfl) rfl, ifF_of (and_f ((t "tuple" (by simp)).trans rfl)) rfl]
theorem wd_ne {w : Str} (W : Wd w) : w ≠ ("LATER" : Str) := fun h => by
  have := W.let_ 76 (by rw [h]; decide)
  omega
theorem th_dic {L r q : Nat} {w : Str} {s : Store} (W : Wd w) (hL : L ≤ r) (hq : L ≤ q) (e : s[r]? = some (.dic [.str w] [.ref q])) (eq : s[q]? = some (.lst [.str w])) (S1 : Sho (.dict [(.str w, .list [.str w])])) (S2 : Sho (.dict [(.str w, .list [.str w, .str "later"]), (.str "LATER", .int 1)])) : Th L w s (.ref r) := by
  have hqr : r ≠ q := fun h => by rw [h, eq] at e; cases e
  refine ⟨⟨_, by simp only [deepR, rdR, omap, keyD1, e, eq]; rfl, S1⟩, fun k env s' h5 h3 x => ⟨(s'.set q (.lst [.str w, .str "later"])).set r (.dic [.str w, .str "LATER"] [.ref q, .int 1]), _, ?_, ((Kp.refl L s.length s').set hq (List.getElem?_eq_some_iff.mp eq).1 _).set hL (List.getElem?_eq_some_iff.mp e).1 _, ?_, S2⟩⟩
  · have hl := (List.getElem?_eq_some_iff.mp (x _ _ e)).1
    have e1 : (s'.set q (.lst [.str w, .str "later"]))[r]? = some (.dic [.str w] [.ref q]) := by rw [List.getElem?_set_ne (Ne.symm hqr)]; exact x _ _ e
    have e2 : ((s'.set q (.lst [.str w, .str "later"])).set r (.dic [.str w, .str "LATER"] [.ref q, .int 1]))[r]? = some (.dic [.str w, .str "LATER"] [.ref q, .int 1]) := by rw [List.getElem?_set_self (by simpa using hl)]
    have t0 : tTr (eIsi ctE (eV 5) [.ty "list"]) env s' = some (.v ("dict" == "list"), s') := isi_of (eV_ok h5) (by simp only [tyOf, x _ _ e]) (by simp) (by simp)
    have t1 : tTr (eIsi ctE (eV 5) [.ty "dict"]) env s' = some (.v ("dict" == "dict"), s') := isi_of (eV_ok h5) (by simp only [tyOf, x _ _ e]) (by simp) (by simp)
    have t2 : tTr (eIsi ctE (eV 5) [.ty "tuple"]) env ((s'.set q (.lst [.str w, .str "later"])).set r (.dic [.str w, .str "LATER"] [.ref q, .int 1])) = some (.v ("dict" == "tuple"), _) := isi_of (eV_ok h5) (by simp only [tyOf, e2]) (by simp) (by simp)
    have ix : PD.bin (eV 5) (eV 3) fIxA env s' = some (.v (.ref q), s') := bin_of (eV_ok h5) (eV_ok h3) (by
      have g : dGet s' (.ref r) (.str w) = some (some (.ref q)) := by
        simp [dGet, dView, x _ _ e, keyFit, isFlat, dLook, nkOf]
      show fOr fIx fDGet (.ref r) (.str w) s' = _
      unfold fOr
      show (match (none : Out Vl) with | none => fDGet (.ref r) (.str w) s' | r => r) = _
      simp only [fDGet, g]
      rfl)
    have put : setD (s'.set q (.lst [.str w, .str "later"])) (.ref r) (.str "LATER") (.int 1) = some ((s'.set q (.lst [.str w, .str "later"])).set r (.dic [.str w, .str "LATER"] [.ref q, .int 1])) := by
      have hk : keyFit [.str w] (.str "LATER") = some (.text "LATER") := by simp [keyFit, isFlat]
      have hs : dStore [.str w] [.ref q] (.str "LATER") (.int 1) (.text "LATER") = ([.str w, .str "LATER"], [.ref q, .int 1]) := by
        have : dLook [.str w] [.ref q] (.text "LATER") = none := by simp [dLook, nkOf, wd_ne W]
        simp only [dStore, this]
        rfl
      simp only [setD, e1, dPut, hk, hs]
      simp
    have gs : gSubF (eV 5) (eK (.str ("LATER" : PySem.Str))) (.int 1) env (s'.set q (.lst [.str w, .str "later"])) = some (env, (s'.set q (.lst [.str w, .str "later"])).set r (.dic [.str w, .str "LATER"] [.ref q, .int 1])) := by
      unfold gSubF
      rw [eV_ok h5]
      show (match setD (s'.set q (.lst [.str w, .str "later"])) (.ref r) (.str "LATER") (.int 1) with | some st3 => some (env, st3) | none => none) = _
      rw [put]
    unfold mut3 m1 m2 m3
    rw [ifF_of (t0.trans rfl) rfl]
    rw [ifT_of (t1.trans rfl) ((exp_of (lat_of ix (x _ _ eq) (by simp))).trans ((asgG_of rfl gs).trans rfl))]
    rw [ifF_of (and_f (t2.trans rfl)) rfl]
  · have hl := (List.getElem?_eq_some_iff.mp (x _ _ e)).1
    have hl2 := (List.getElem?_eq_some_iff.mp (x _ _ eq)).1
    have e2 : ((s'.set q (.lst [.str w, .str "later"])).set r (.dic [.str w, .str "LATER"] [.ref q, .int 1]))[r]? = some (.dic [.str w, .str "LATER"] [.ref q, .int 1]) := by rw [List.getElem?_set_self (by simpa using hl)]
    have e3 : ((s'.set q (.lst [.str w, .str "later"])).set r (.dic [.str w, .str "LATER"] [.ref q, .int 1]))[q]? = some (.lst [.str w, .str "later"]) := by rw [List.getElem?_set_ne hqr, List.getElem?_set_self hl2]
    simp only [deepR, rdR, omap, keyD1, e2, e3]
    rfl
end K01
set_option maxHeartbeats 4000000
namespace K01
open PySem PySem.Spec PyProof.Rows L2 PD
theorem Ext.kp {s t : Store} (x : Ext s t) (L M : Nat) : Kp L M s t := ⟨fun n o _ e => x n o e, x.len⟩
theorem Kp.trans {L M : Nat} {s t u : Store} (a : Kp L M s t) (b : Kp L M t u) : Kp L M s u := ⟨fun n o h e => b.go n o h (a.go n o h e), Nat.le_trans a.len b.len⟩
theorem Errs.kp {L M b : Nat} {u : Vl} {s s' : Store} {r : Nat} (h : Errs b u s r) (hb : M ≤ b) (x : Kp L M s s') : Errs b u s' r := by
  obtain ⟨h1, vs, e, f⟩ := h
  refine ⟨h1, vs, x.go _ _ (.inr (by omega)) e, f.mono fun c v q => ?_⟩
  obtain ⟨n, m, e1, h2, h3, h4, h5⟩ := q
  exact ⟨n, m, e1, h2, h3, x.go _ _ (.inr (by omega)) h4, x.go _ _ (.inr (by omega)) h5⟩
theorem tup_of {g : Af} {env : PD.Env} {s s1 : Store} {vs : List Vl} (e : g env s = some (.v vs, s1)) (hn : vs.length ≤ 100) : eTup g env s = some (.v (.tup vs), s1) := by
  unfold eTup
  rw [e, Rb_v, if_pos (by omega)]
  rfl
theorem lst_of {g : Af} {env : PD.Env} {s s1 : Store} {vs : List Vl} (e : g env s = some (.v vs, s1)) (hn : vs.length ≤ 100) : eLst g env s = some (.v (.ref s1.length), s1 ++ [.lst vs]) := by
  unfold eLst
  rw [e, Rb_v]
  unfold newL
  rw [if_pos (by omega)]
def rights (f g : Ef) : Tf := tNotF (tTr (eCall (aCons f (aCons g aNil)) h47 2 []))
theorem rights_of {f g : Ef} {env : PD.Env} {s s1 s2 : Store} {b r : Nat} {u : Vl} {d : PyData} (e1 : f env s = some (.v (.ref r), s1)) (e2 : g env s1 = some (.v (.str d.shown), s2)) (E : Errs b u s2 r) (hd : rdR deepR s2 u = some d) (S : Sho d) : ∃ s3, rights f g env s = some (.v false, s3) ∧ Ext s2 s3 := by
  obtain ⟨s3, e3, x3⟩ := s_right E hd S
  exact ⟨s3, tNot_of (b := true) (tTr_bl (call_of (vs := [.ref r, .str d.shown]) (ac_of e1 (ac_of e2 rfl)) rfl e3)), x3⟩
theorem repr_of {f : Ef} {env : PD.Env} {s s1 : Store} {u : Vl} {d : PyData} (e : f env s = some (.v u, s1)) (hd : rdR deepR s1 u = some d) (S : Sho d) : eRepr f env s = some (.v (.str d.shown), s1) := by
  refine una_of e ?_
  unfold fRepr
  rw [hd]
  simp only [S.sh, S.len, and_self, if_true]
  rfl
def eLater : Ef := eTup (aCons (eK (.str ("later" : PySem.Str))) (aCons (eV 3) aNil))
def three : Ef := eTup (aCons (eCall (aCons (eV 5) aNil) h42 1 []) (aCons (eCall (aCons (eV 5) aNil) h43 1 []) (aCons (eCall (aCons eLater aNil) h42 1 []) aNil)))
def retF : Sf := bCons (sRet (eK (.bl false))) bNil
def if3 : Sf := sIf (tOrF (rights (eV 7) (eRepr (eV 5))) (rights (eV 8) (eRepr (eV 5)))) retF bNil
def tailS : Sf := bCons (sAsg (eRepr (eV 5)) (gN 6)) (bCons (sAsg three (gT 3 (gsCons (gN 7) (gsCons (gN 8) (gsCons (gN 9) gsNil)))))
  (bCons (sIf (tOrF (rights (eCall aNil h44 0 []) (eK (.str ("None" : PySem.Str)))) (rights (eV 9) (eRepr eLater))) retF bNil)
  (bCons (sIf (tOrF (rights (eV 7) (eV 6)) (rights (eV 8) (eV 6))) retF bNil) (mut3 (bCons if3 bNil)))))
theorem sho_none : Sho .none := sho_of (by decide) (by decide) (by decide) (by decide)
theorem sho_later {w : Str} (W : Wd w) : Sho (.tuple [.str "later", .str w]) := by
  refine sho_of ?_ ?_ ?_ ?_
  · simp [PyData.showable, PyData.showableAll]
  · simp only [PyData.leavesShort, PyData.leavesShortAll, wd_sh W]
    decide
  · simp only [lows, lowsAll, wd_lo W]
    decide
  · have := wd_sz W
    have e : (Str.ofString "later").cps.size = 5 := by decide
    simp only [PyData.weight, PyData.weightAll, e]
    omega
def env5 (v : Vl) (p pl : Nat) (w : Str) (u : Vl) : PD.Env := [some v, some (.ref p), none, some (.str w), some (.ref pl), some u, none, none, none, none, none]
theorem tail_ok {L p pl : Nat} {w : Str} {v u : Vl} {s : Store} (T : Th L w s u) (W : Wd w) (hL : L ≤ s.length) : ∃ env' s', tailS (env5 v p pl w u) s = some (.nx, env', s') ∧ env'.length = 11 ∧ Kp L s.length s s' := by
  obtain ⟨d, hd, S⟩ := T.now
  obtain ⟨r1, s1, e1, x1, E1⟩ := s_first u s
  obtain ⟨r2, s2, e2, x2, E2⟩ := s_called u s1
  obtain ⟨r3, s3, e3, x3, E3⟩ := s_first (.tup [.str "later", .str w]) s2
  obtain ⟨r4, s4, e4, x4, E4⟩ := s_bare s3
  obtain ⟨env6, h6⟩ : ∃ env6 : PD.Env, env6 = [some v, some (.ref p), none, some (.str w), some (.ref pl), some u, some (.str d.shown), none, none, none, none] := ⟨_, rfl⟩
  obtain ⟨env9, h9⟩ : ∃ env9 : PD.Env, env9 = [some v, some (.ref p), none, some (.str w), some (.ref pl), some u, some (.str d.shown), some (.ref r1), some (.ref r2), some (.ref r3), none] := ⟨_, rfl⟩
  have g3 : env9[3]? = some (some (.str w)) := by rw [h9]; rfl
  have g5 : env9[5]? = some (some u) := by rw [h9]; rfl
  have g6 : env9[6]? = some (some (.str d.shown)) := by rw [h9]; rfl
  have g7 : env9[7]? = some (some (.ref r1)) := by rw [h9]; rfl
  have g8 : env9[8]? = some (some (.ref r2)) := by rw [h9]; rfl
  have g9 : env9[9]? = some (some (.ref r3)) := by rw [h9]; rfl
  have later : ∀ (env : PD.Env) (s : Store), env[3]? = some (some (.str w)) → eLater env s = some (.v (.tup [.str "later", .str w]), s) := fun env s h => by
    unfold eLater eTup
    rw [ac_of (v := .str "later") (vs := [.str w]) rfl (ac_of (eV_ok h) rfl), Rb_v]
    rfl
  have lrd : ∀ s : Store, rdR deepR s (.tup [.str "later", .str w]) = some (.tuple [.str "later", .str w]) := fun s => rfl
  have st1 : bCons (sAsg (eRepr (eV 5)) (gN 6)) = fun k env s => bCons (sAsg (eRepr (eV 5)) (gN 6)) k env s := rfl
  -- the first test
  obtain ⟨s5, e5, x5⟩ := rights_of (f := eCall aNil h44 0 []) (g := eK (.str ("None" : PySem.Str))) (env := env9) (s := s3) (d := .none) (call_of (vs := []) rfl rfl e4) (show eK (.str ("None" : PySem.Str)) env9 s4 = _ by simp only [PyData.shown]; rfl) E4 rfl sho_none
  have x35 := (x4.trans x5)
  obtain ⟨s6, e6, x6⟩ := rights_of (f := eV 9) (g := eRepr eLater) (env := env9) (s := s5) (d := .tuple [.str "later", .str w]) (eV_ok g9) (repr_of (later _ _ g3) (lrd _) (sho_later W)) (E3.mono x35) (lrd _) (sho_later W)
  -- the second
  have x36 := x35.trans x6
  have x26 := x3.trans x36
  have x16 := x2.trans x26
  have xs6 := x1.trans x16
  obtain ⟨s7, e7, x7⟩ := rights_of (f := eV 7) (g := eV 6) (env := env9) (s := s6) (d := d) (eV_ok g7) (eV_ok g6) (E1.mono x16) (rdR_ext xs6 _ _ _ hd) S
  obtain ⟨s8, e8, x8⟩ := rights_of (f := eV 8) (g := eV 6) (env := env9) (s := s7) (d := d) (eV_ok g8) (eV_ok g6) (E2.mono (x26.trans x7)) (rdR_ext (xs6.trans x7) _ _ _ hd) S
  have x68 := x7.trans x8
  have xs8 := xs6.trans x68
  -- the change
  obtain ⟨s9, d', e9, k9, hd', S'⟩ := T.chg (bCons if3 bNil) env9 s8 g5 g3 xs8
  have hE1 : Errs s.length u s9 r1 := (E1.mono (x16.trans x68)).kp (Nat.le_refl _) k9
  have hE2 : Errs s1.length u s9 r2 := (E2.mono (x26.trans x68)).kp x1.len k9
  obtain ⟨s10, e10, x10⟩ := rights_of (f := eV 7) (g := eRepr (eV 5)) (env := env9) (s := s9) (d := d') (eV_ok g7) (repr_of (eV_ok g5) hd' S') hE1 hd' S'
  have hd10 := rdR_ext x10 _ _ _ hd'
  obtain ⟨s11, e11, x11⟩ := rights_of (f := eV 8) (g := eRepr (eV 5)) (env := env9) (s := s10) (d := d') (eV_ok g8) (repr_of (eV_ok g5) hd10 S') (hE2.mono x10) hd10 S'
  refine ⟨env9, s11, ?_, by rw [h9]; rfl, ((xs8.kp L s.length).trans k9).trans ((x10.trans x11).kp _ _)⟩
  unfold tailS
  refine (asg_of (v := .str d.shown) (s1 := s) (repr_of (eV_ok rfl) hd S) (by show 6 < 11; decide)).trans ?_
  have e6' : (env5 v p pl w u).set 6 (some (.str d.shown)) = env6 := by rw [h6]; rfl
  rw [e6']
  refine (asgG_of (env2 := env9) (s2 := s3) (v := .tup [.ref r1, .ref r2, .ref r3]) (s1 := s3) ?_ ?_).trans ?_
  · have k5 : env6[5]? = some (some u) := by rw [h6]; rfl
    have k3 : env6[3]? = some (some (.str w)) := by rw [h6]; rfl
    exact tup_of (vs := [.ref r1, .ref r2, .ref r3]) (ac_of (call_of (vs := [u]) (ac_of (eV_ok k5) rfl) rfl e1) (ac_of (call_of (vs := [u]) (ac_of (eV_ok k5) rfl) rfl e2) (ac_of (call_of (vs := [.tup [.str "later", .str w]]) (ac_of (later _ _ k3) rfl) rfl e3) rfl))) (by simp)
  · rw [h9, h6]
    rfl
  refine (ifF_of (env1 := env9) (s1 := s6) (tOr_f e5 e6) rfl).trans ?_
  refine (ifF_of (env1 := env9) (s1 := s8) (tOr_f e7 e8) rfl).trans ?_
  refine e9.trans ?_
  unfold if3
  exact (ifF_of (env1 := env9) (s1 := s11) (tOr_f e10 e11) rfl).trans rfl
end K01
set_option maxHeartbeats 4000000
namespace K01
open PySem PySem.Spec PyProof.Rows L2 PD
def eW1 : Ef := eLst (aCons (eV 3) aNil)
def eDc1 : Ef := eDisp (pfOf [((eV 3), eW1)])
def eDc2 : Ef := eDisp (pfOf [((eK (.str ("odd" : PySem.Str))), (eV 3))])
def eSays : Ef := eTup (aCons (eK (.str ("says" : PySem.Str))) (aCons (eV 3) (aCons (eK (.int 1)) (aCons (eK (.int 2)) aNil))))
def plainE : Ef := eLst (aCons (eK .non) (aCons (eK (.bl true)) (aCons (eK (.bl false)) (aCons (eK (.int 0)) (aCons (eV 3) (aCons (una (PD.bin (eV 1) (eK (.int 1)) fIxA) fNeg) (aCons eSays (aCons (eTup (aCons (eV 3) (aCons eW1 aNil))) (aCons eDc1 aNil)))))))))
def moreE : Ef := eLst (aCons eW1 (aCons (eLst (aCons eW1 (aCons eDc2 aNil))) aNil))
def chosen : Ef := eCall (aCons (eV 1) (aCons (PD.bin (eV 4) moreE fAdd) aNil)) h40 2 []
def bodyS : Sf := bCons (sAsg (eCall (aCons (eV 1) aNil) h41 1 []) (gN 3)) (bCons (sAsg plainE (gN 4)) (bCons (sAsg chosen (gN 5)) tailS))
section
variable {env : PD.Env} {s : Store} {w : Str}
theorem w1_of (h : env[3]? = some (some (.str w))) : eW1 env s = some (.v (.ref s.length), s ++ [.lst [.str w]]) := lst_of (ac_of (eV_ok h) rfl) (by simp)
theorem disp_of {ps : Pf} {ds : List (Vl × Vl)} {st1 : Store} {ks us : List Vl} (e : ps env (s ++ [Ob.dic [] []]) = some (.v ds, st1)) (hn : ds.length ≤ 15) (g : st1[s.length]? = some (.dic [] [])) (a : dAll [] [] ds = some (ks, us)) : eDisp ps env s = some (.v (.ref s.length), st1.set s.length (.dic ks us)) := by
  unfold eDisp
  simp only [e, hn, if_true, g, a]
theorem get_push {α : Type} (s : List α) (a b : α) : (s ++ [a] ++ [b])[s.length]? = some a := by simp
theorem dc1_of (h : env[3]? = some (some (.str w))) : ∃ r q s', eDc1 env s = some (.v (.ref r), s') ∧ Ext s s' ∧ s.length ≤ r ∧ s.length ≤ q ∧ s'[r]? = some (.dic [.str w] [.ref q]) ∧ s'[q]? = some (.lst [.str w]) := by
  have e1 : pfOf [((eV 3), eW1)] env (s ++ [.dic [] []]) = some (.v [(.str w, .ref (s.length + 1))], s ++ [Ob.dic [] []] ++ [Ob.lst [.str w]]) := by
    show pCons (eV 3) eW1 pNil env (s ++ [.dic [] []]) = _
    unfold pCons
    rw [eV_ok h, Rb_v, w1_of h, Rb_v]
    simp only [List.length_append, List.length_cons, List.length_nil]
    rfl
  have e2 : dAll [] [] [(.str w, .ref (s.length + 1))] = some ([.str w], [.ref (s.length + 1)]) := by
    simp [dAll, keyFit, isFlat, dStore, dLook]
  have hl : s.length < (s ++ [Ob.dic [] []] ++ [Ob.lst [.str w]]).length := by simp
  refine ⟨s.length, s.length + 1, (s ++ [Ob.dic [] []] ++ [Ob.lst [.str w]]).set s.length (.dic [.str w] [.ref (s.length + 1)]), ?_, ((Ext.push s _).trans (Ext.push _ _)).set (Nat.le_refl _) _, Nat.le_refl _, by omega, by rw [List.getElem?_set_self hl], ?_⟩
  · exact disp_of e1 (by simp) (get_push _ _ _) e2
  · rw [List.getElem?_set_ne (by omega)]
    simp
theorem dc2_of (h : env[3]? = some (some (.str w))) : ∃ r s', eDc2 env s = some (.v (.ref r), s') ∧ Ext s s' ∧ s.length ≤ r ∧ s'[r]? = some (.dic [.str "odd"] [.str w]) := by
  have e1 : pfOf [((eK (.str ("odd" : PySem.Str))), (eV 3))] env (s ++ [.dic [] []]) = some (.v [(.str "odd", .str w)], s ++ [.dic [] []]) := by
    show pCons (eK (.str ("odd" : PySem.Str))) (eV 3) pNil env (s ++ [.dic [] []]) = _
    unfold pCons
    show Rb (eV 3 env (s ++ [.dic [] []])) _ = _
    rw [eV_ok h, Rb_v]
    rfl
  have e2 : dAll [] [] [(.str "odd", .str w)] = some ([.str "odd"], [.str w]) := by
    simp [dAll, keyFit, isFlat, dStore, dLook]
  have hl : s.length < (s ++ [Ob.dic [] []]).length := by simp
  refine ⟨s.length, (s ++ [Ob.dic [] []]).set s.length (.dic [.str "odd"] [.str w]), ?_, (Ext.push s _).set (Nat.le_refl _) _, Nat.le_refl _, by rw [List.getElem?_set_self hl]⟩
  exact disp_of e1 (by simp) (getLast _ _) e2
theorem plain_of {p : Nat} {A B t z : Int} (h : env[3]? = some (some (.str w))) (h1 : env[1]? = some (some (.ref p))) (e : s[p]? = some (.lst [.int A, .int B, .int t, .int z])) :
    ∃ r a D q s', plainE env s = some (.v (.ref r), s') ∧ Ext s s' ∧ s.length ≤ r ∧ s.length ≤ a ∧ s.length ≤ D ∧ s.length ≤ q ∧
      s'[r]? = some (.lst [.non, .bl true, .bl false, .int 0, .str w, .int (-B), .tup [.str "says", .str w, .int 1, .int 2], .tup [.str w, .ref a], .ref D]) ∧ s'[a]? = some (.lst [.str w]) ∧ s'[D]? = some (.dic [.str w] [.ref q]) ∧ s'[q]? = some (.lst [.str w]) := by
  obtain ⟨D, q, s2, e2, x2, hD, hq, g1, g2⟩ := dc1_of (s := s ++ [Ob.lst [.str w]]) h
  have hl : (s ++ [Ob.lst [.str w]]).length = s.length + 1 := by simp
  rw [hl] at hD hq
  have x := (Ext.push s [Ob.lst [.str w]]).trans x2
  refine ⟨s2.length, s.length, D, q, s2 ++ [.lst [.non, .bl true, .bl false, .int 0, .str w, .int (-B), .tup [.str "says", .str w, .int 1, .int 2], .tup [.str w, .ref s.length], .ref D]], ?_, x.trans (Ext.push _ _), x.len, Nat.le_refl _, by omega, by omega, getLast _ _, getPre _ (x2 _ _ (getLast _ _)), getPre _ g1, getPre _ g2⟩
  refine lst_of ?_ (by simp)
  refine ac_of rfl (ac_of rfl (ac_of rfl (ac_of rfl (ac_of (eV_ok h) (ac_of (una_of (v := .int B) (s1 := s) (bin_of (eV_ok h1) rfl (fIx_ref (i := 1) e rfl)) rfl) (ac_of (tup_of (s1 := s) (vs := [.str "says", .str w, .int 1, .int 2]) (ac_of rfl (ac_of (eV_ok h) (ac_of rfl (ac_of rfl rfl)))) (by simp)) (ac_of (tup_of (vs := [.str w, .ref s.length]) (ac_of (eV_ok h) (ac_of (w1_of h) rfl)) (by simp)) (ac_of e2 rfl))))))))
theorem more_of (h : env[3]? = some (some (.str w))) : ∃ r b c d f s', moreE env s = some (.v (.ref r), s') ∧ Ext s s' ∧ s.length ≤ r ∧ s.length ≤ b ∧ s.length ≤ c ∧ s.length ≤ d ∧ s.length ≤ f ∧ s'[r]? = some (.lst [.ref b, .ref c]) ∧ s'[b]? = some (.lst [.str w]) ∧ s'[c]? = some (.lst [.ref d, .ref f]) ∧ s'[d]? = some (.lst [.str w]) ∧ s'[f]? = some (.dic [.str "odd"] [.str w]) := by
  obtain ⟨f, s2, e2, x2, hf, g2⟩ := dc2_of (s := s ++ [Ob.lst [.str w]] ++ [Ob.lst [.str w]]) h
  have hl : (s ++ [Ob.lst [.str w]] ++ [Ob.lst [.str w]]).length = s.length + 2 := by simp
  have hl1 : (s ++ [Ob.lst [.str w]]).length = s.length + 1 := by simp
  rw [hl] at hf
  have x0 := ((Ext.push s [Ob.lst [.str w]]).trans (Ext.push _ [Ob.lst [.str w]])).trans x2
  have x3 := Ext.push s2 [Ob.lst [.ref (s ++ [Ob.lst [.str w]]).length, .ref f]]
  have x4 := Ext.push (s2 ++ [Ob.lst [.ref (s ++ [Ob.lst [.str w]]).length, .ref f]]) [Ob.lst [.ref s.length, .ref s2.length]]
  have i1 : eLst (aCons eW1 (aCons eDc2 aNil)) env (s ++ [Ob.lst [.str w]]) = some (.v (.ref s2.length), s2 ++ [.lst [.ref (s ++ [Ob.lst [.str w]]).length, .ref f]]) := lst_of (ac_of (w1_of h) (ac_of e2 rfl)) (by simp)
  have g0 : s2[s.length]? = some (.lst [.str w]) := x2 _ _ (get_push _ _ _)
  have g1 : s2[(s ++ [Ob.lst [.str w]]).length]? = some (.lst [.str w]) := x2 _ _ (getLast _ _)
  refine ⟨_, s.length, s2.length, (s ++ [Ob.lst [.str w]]).length, f, _, lst_of (ac_of (w1_of h) (ac_of i1 rfl)) (by simp), (x0.trans x3).trans x4, (x0.trans x3).len, Nat.le_refl _, x0.len, by omega, by omega, getLast _ _, x4 _ _ (x3 _ _ g0), x4 _ _ (getLast _ _), x4 _ _ (x3 _ _ g1), x4 _ _ (x3 _ _ g2)⟩
end
theorem sho_w {d : PyData} (h1 : d.showable = true) (h2 : d.leavesShort 13 = true) (h3 : lows d = true) (h4 : d.weight ≤ 1000) : Sho d := sho_of h1 h2 h3 (by omega)
section
variable {w : Str} (W : Wd w)
include W
theorem sho_str : Sho (.str w) := by
  have := wd_sz W
  refine sho_w (by simp [PyData.showable]) (by simp only [PyData.leavesShort, wd_sh W]) (by simp only [lows, wd_lo W]) (by simp only [PyData.weight]; omega)
theorem e_later : (Str.ofString "later").cps.size = 5 ∧ (Str.ofString "LATER").cps.size = 5 ∧ (Str.ofString "says").cps.size = 4 ∧ (Str.ofString "odd").cps.size = 3 := by decide
theorem i1s : ((PyData.int 1).shown).length ≤ 13 := PyData.shown_int_le (by decide)
theorem i2s : ((PyData.int 2).shown).length ≤ 13 := PyData.shown_int_le (by decide)
theorem sho_says : Sho (.tuple [.str "says", .str w, .int 1, .int 2]) := by
  have := wd_sz W
  have a := i1s W
  have b := i2s W
  refine sho_w ?_ ?_ ?_ ?_
  · simp only [PyData.showable, PyData.showableAll]; decide
  · simp only [PyData.leavesShort, PyData.leavesShortAll, wd_sh W, a, b]; decide
  · simp only [lows, lowsAll, wd_lo W]; decide
  · simp only [PyData.weight, PyData.weightAll, (e_later W).2.2.1]
    have : (if ((1 : Int) == 0) = true then 0 else (1 : Int).natAbs.log2 + 1) = 1 := by decide
    rw [this]
    have : (if ((2 : Int) == 0) = true then 0 else (2 : Int).natAbs.log2 + 1) = 2 := by decide
    rw [this]
    omega
theorem sho_tl : Sho (.tuple [.str w, .list [.str w]]) := by
  have := wd_sz W
  refine sho_w ?_ ?_ ?_ ?_
  · simp only [PyData.showable, PyData.showableAll]; decide
  · simp only [PyData.leavesShort, PyData.leavesShortAll, wd_sh W]; decide
  · simp only [lows, lowsAll, wd_lo W]; decide
  · simp only [PyData.weight, PyData.weightAll]
    omega
theorem sho_tl2 : Sho (.tuple [.str w, .list [.str w, .str "later"]]) := by
  have := wd_sz W
  refine sho_w ?_ ?_ ?_ ?_
  · simp only [PyData.showable, PyData.showableAll]; decide
  · simp only [PyData.leavesShort, PyData.leavesShortAll, wd_sh W]; decide
  · simp only [lows, lowsAll, wd_lo W]; decide
  · simp only [PyData.weight, PyData.weightAll, (e_later W).1]
    omega
theorem sho_l : Sho (.list [.str w]) := by
  have := wd_sz W
  refine sho_w ?_ ?_ ?_ ?_
  · simp only [PyData.showable, PyData.showableAll]; decide
  · simp only [PyData.leavesShort, PyData.leavesShortAll, wd_sh W]; decide
  · simp only [lows, lowsAll, wd_lo W]; decide
  · simp only [PyData.weight, PyData.weightAll]
    omega
theorem sho_l2 : Sho (.list [.str w, .str "later"]) := by
  have := wd_sz W
  refine sho_w ?_ ?_ ?_ ?_
  · simp only [PyData.showable, PyData.showableAll]; decide
  · simp only [PyData.leavesShort, PyData.leavesShortAll, wd_sh W]; decide
  · simp only [lows, lowsAll, wd_lo W]; decide
  · simp only [PyData.weight, PyData.weightAll, (e_later W).1]
    omega
theorem sho_ll : Sho (.list [.list [.str w], .dict [(.str "odd", .str w)]]) := by
  have := wd_sz W
  refine sho_w ?_ ?_ ?_ ?_
  · simp only [PyData.showable, PyData.showableAll, PyData.showableKv]; decide
  · simp only [PyData.leavesShort, PyData.leavesShortAll, PyData.leavesShortKv, wd_sh W]; decide
  · simp only [lows, lowsAll, lowsKv, wd_lo W]; decide
  · simp only [PyData.weight, PyData.weightAll, PyData.weightKv, (e_later W).2.2.2]
    omega
theorem sho_ll2 : Sho (.list [.list [.str w], .dict [(.str "odd", .str w)], .str "later"]) := by
  have := wd_sz W
  refine sho_w ?_ ?_ ?_ ?_
  · simp only [PyData.showable, PyData.showableAll, PyData.showableKv]; decide
  · simp only [PyData.leavesShort, PyData.leavesShortAll, PyData.leavesShortKv, wd_sh W]; decide
  · simp only [lows, lowsAll, lowsKv, wd_lo W]; decide
  · simp only [PyData.weight, PyData.weightAll, PyData.weightKv, (e_later W).2.2.2, (e_later W).1]
    omega
theorem sho_d : Sho (.dict [(.str w, .list [.str w])]) := by
  have := wd_sz W
  refine sho_w ?_ ?_ ?_ ?_
  · simp only [PyData.showable, PyData.showableAll, PyData.showableKv]; decide
  · simp only [PyData.leavesShort, PyData.leavesShortAll, PyData.leavesShortKv, wd_sh W]; decide
  · simp only [lows, lowsAll, lowsKv, wd_lo W]; decide
  · simp only [PyData.weight, PyData.weightAll, PyData.weightKv]
    omega
theorem sho_d2 : Sho (.dict [(.str w, .list [.str w, .str "later"]), (.str "LATER", .int 1)]) := by
  have := wd_sz W
  have a := i1s W
  refine sho_w ?_ ?_ ?_ ?_
  · simp only [PyData.showable, PyData.showableAll, PyData.showableKv]; decide
  · simp only [PyData.leavesShort, PyData.leavesShortAll, PyData.leavesShortKv, wd_sh W, a]; decide
  · simp only [lows, lowsAll, lowsKv, wd_lo W]; decide
  · simp only [PyData.weight, PyData.weightAll, PyData.weightKv, (e_later W).2.1, (e_later W).1]
    have : (if ((1 : Int) == 0) = true then 0 else (1 : Int).natAbs.log2 + 1) = 1 := by decide
    rw [this]
    omega
end
theorem sho_int {B : Int} (h0 : 0 ≤ B) (h1 : B < 2147483629) : Sho (.int (-B)) := by
  have hn : (-B).natAbs < 2 ^ 32 := by omega
  have hlog := log_small hn (by decide)
  refine sho_w ?_ ?_ rfl ?_
  · simp only [PyData.showable, decide_eq_true_eq]
    omega
  · simp only [PyData.leavesShort, decide_eq_true_eq]
    exact PyData.shown_int_le (by omega)
  · simp only [PyData.weight]
    split <;> omega
end K01
set_option maxHeartbeats 4000000
namespace K01
open PySem PySem.Spec PyProof.Rows L2 PD
theorem body_ok {m p q : Nat} {v : Vl} {s : Store} (P : Pu m s p) (hm : m ≤ 200) (hq : q ≠ p) (eq : s[q]? = some (.lst [.ref p])) : ∃ env' s', bodyS [some v, some (.ref p), none, none, none, none, none, none, none, none, none] s = some (.nx, env', s') ∧ env'.length = 11 ∧ s'[q]? = some (.lst [.ref p]) := by
  have hp := P.lt
  have hqs := (List.getElem?_eq_some_iff.mp eq).1
  obtain ⟨w, s1, e1, x1, P1, W⟩ := s_word P (by omega)
  obtain ⟨A, B, t, ep, hA, hB, hB2, ht, ht2⟩ := P1
  have hp1 : p < s1.length := (List.getElem?_eq_some_iff.mp ep).1
  obtain ⟨r, a, D, dq, s2, e2, x2, hr, ha, hD, hdq, g1, g2, g3, g4⟩ := plain_of (env := [some v, some (.ref p), none, some (.str w), none, none, none, none, none, none, none]) (s := s1) (w := w) (p := p) rfl rfl ep
  obtain ⟨r2, b, c, d, f, s3, e3, x3, hr2, hb, hc, hd, hf, g5, g6, g7, g8, g9⟩ := more_of (env := [some v, some (.ref p), none, some (.str w), some (.ref r), none, none, none, none, none, none]) (s := s2) (w := w) rfl
  have l1 := x1.len
  have l2 := x2.len
  have l3 := x3.len
  obtain ⟨vs, hvs⟩ : ∃ vs : List Vl, vs = [.non, .bl true, .bl false, .int 0, .str w, .int (-B), .tup [.str "says", .str w, .int 1, .int 2], .tup [.str w, .ref a], .ref D] ++ [.ref b, .ref c] := ⟨_, rfl⟩
  have x4 := Ext.push s3 [Ob.lst vs]
  have e4 : PD.bin (eV 4) moreE fAdd [some v, some (.ref p), none, some (.str w), some (.ref r), none, none, none, none, none, none] s2 = some (.v (.ref s3.length), s3 ++ [Ob.lst vs]) := by
    refine bin_of (v := .ref r) (eV_ok rfl) e3 ?_
    unfold fAdd
    simp only [x3 _ _ g1, g5]
    rw [hvs]
    unfold newL
    rw [if_pos (by simp)]
  have P4 : Pu (m + 10) (s3 ++ [Ob.lst vs]) p := ⟨A, B, t, x4 _ _ (x3 _ _ (x2 _ _ ep)), hA, hB, hB2, ht, ht2⟩
  obtain ⟨i, u, o, hi, hu, e5, P5⟩ := s_one P4 (by omega) (L := s3.length) (by omega) (getLast _ _) (by rw [hvs]; rfl)
  generalize hs5 : (s3 ++ [Ob.lst vs]).set p o = s5 at e5 P5
  have up : ∀ (n : Nat) (ob : Ob), n ≠ p → (s3 ++ [Ob.lst vs])[n]? = some ob → s5[n]? = some ob := fun n ob hn h => by
    rw [← hs5, List.getElem?_set_ne (Ne.symm hn)]
    exact h
  have fa : s5[a]? = some (.lst [.str w]) := up _ _ (by omega) (x4 _ _ (x3 _ _ g2))
  have fD : s5[D]? = some (.dic [.str w] [.ref dq]) := up _ _ (by omega) (x4 _ _ (x3 _ _ g3))
  have fdq : s5[dq]? = some (.lst [.str w]) := up _ _ (by omega) (x4 _ _ (x3 _ _ g4))
  have fb : s5[b]? = some (.lst [.str w]) := up _ _ (by omega) (x4 _ _ g6)
  have fc : s5[c]? = some (.lst [.ref d, .ref f]) := up _ _ (by omega) (x4 _ _ g7)
  have fd : s5[d]? = some (.lst [.str w]) := up _ _ (by omega) (x4 _ _ g8)
  have ff : s5[f]? = some (.dic [.str "odd"] [.str w]) := up _ _ (by omega) (x4 _ _ g9)
  have hdc : d ≠ c := fun h => by rw [h, fc] at fd; cases fd
  have hfc : f ≠ c := fun h => by rw [h, fc] at ff; cases ff
  have hl5 : s1.length ≤ s5.length := by
    rw [← hs5]
    simp
    omega
  have T : Th s1.length w s5 u := by
    have hi' : i = 0 ∨ i = 1 ∨ i = 2 ∨ i = 3 ∨ i = 4 ∨ i = 5 ∨ i = 6 ∨ i = 7 ∨ i = 8 ∨ i = 9 ∨ i = 10 := by omega
    rw [hvs] at hu
    rcases hi' with h | h | h | h | h | h | h | h | h | h | h
    · subst h
      cases hu
      exact th_flat (T := "NoneType") (d := .none) (by simp) (fun _ => rfl) (fun _ => rfl) sho_none
    · subst h
      cases hu
      exact th_flat (T := "bool") (d := .bool true) (by simp) (fun _ => rfl) (fun _ => rfl) (sho_of (by decide) (by decide) (by decide) (by decide))
    · subst h
      cases hu
      exact th_flat (T := "bool") (d := .bool false) (by simp) (fun _ => rfl) (fun _ => rfl) (sho_of (by decide) (by decide) (by decide) (by decide))
    · subst h
      cases hu
      exact th_flat (T := "int") (d := .int 0) (by simp) (fun _ => rfl) (fun _ => rfl) (sho_int (B := 0) (by decide) (by decide))
    · subst h
      cases hu
      exact th_flat (T := "str") (d := .str w) (by simp) (fun _ => rfl) (fun _ => rfl) (sho_str W)
    · subst h
      cases hu
      exact th_flat (T := "int") (d := .int (-B)) (by simp) (fun _ => rfl) (fun _ => rfl) (sho_int hB hB2)
    · subst h
      cases hu
      exact th_tup (d := .tuple [.str "says", .str w, .int 1, .int 2]) rfl (fun _ => rfl) (sho_says W)
    · subst h
      cases hu
      exact th_tupL W ha fa (sho_tl W) (sho_tl2 W)
    · subst h
      cases hu
      exact th_dic W hD hdq fD fdq (sho_d W) (sho_d2 W)
    · subst h
      cases hu
      refine th_lst (d := .list [.str w]) (d' := .list [.str w, .str "later"]) (by omega) (by simp) fb (by simp only [deepR, rdR, omap, fb]; rfl) (sho_l W) (fun s' x => ?_) (sho_l2 W)
      have hl := (List.getElem?_eq_some_iff.mp (x _ _ fb)).1
      have e2 : (s'.set b (.lst [.str w, .str "later"]))[b]? = some (.lst [.str w, .str "later"]) := by rw [List.getElem?_set_self hl]
      simp only [deepR, rdR, omap, List.cons_append, List.nil_append, e2]
      rfl
    · subst h
      cases hu
      refine th_lst (d := .list [.list [.str w], .dict [(.str "odd", .str w)]]) (d' := .list [.list [.str w], .dict [(.str "odd", .str w)], .str "later"]) (by omega) (by simp) fc (by simp only [deepR, rdR, omap, keyD1, fc, fd, ff]; rfl) (sho_ll W) (fun s' x => ?_) (sho_ll2 W)
      have hl := (List.getElem?_eq_some_iff.mp (x _ _ fc)).1
      have e2 : (s'.set c (.lst [.ref d, .ref f, .str "later"]))[c]? = some (.lst [.ref d, .ref f, .str "later"]) := by rw [List.getElem?_set_self hl]
      have e3 : (s'.set c (.lst [.ref d, .ref f, .str "later"]))[d]? = some (.lst [.str w]) := by rw [List.getElem?_set_ne (Ne.symm hdc)]; exact x _ _ fd
      have e4 : (s'.set c (.lst [.ref d, .ref f, .str "later"]))[f]? = some (.dic [.str "odd"] [.str w]) := by rw [List.getElem?_set_ne (Ne.symm hfc)]; exact x _ _ ff
      simp only [deepR, rdR, omap, keyD1, List.cons_append, List.nil_append, e2, e3, e4]
      rfl
  obtain ⟨env', s6, e6, hl6, k6⟩ := tail_ok (v := v) (p := p) (pl := r) T W hl5
  refine ⟨env', s6, ?_, hl6, k6.go _ _ (.inl (by omega)) (up _ _ hq (x4 _ _ (x3 _ _ (x2 _ _ (x1.go _ _ hq eq)))))⟩
  unfold bodyS
  refine (asg_of (v := .str w) (s1 := s1) (call_of (vs := [.ref p]) (ac_of (eV_ok rfl) rfl) rfl e1) (by show 3 < 11; decide)).trans ?_
  refine (asg_of (v := .ref r) (s1 := s2) e2 (by show 4 < 11; decide)).trans ?_
  refine (asg_of (v := u) (s1 := s5) (call_of (vs := [.ref p, .ref s3.length]) (ac_of (eV_ok rfl) (ac_of e4 rfl)) rfl e5) (by show 5 < 11; decide)).trans ?_
  exact e6
theorem code_end : (((List.range 33).filter fun j => decide (cls33[j]? = some ("NothingToUndo" : Str))) = [31]) ∧ (((List.range 33).filter fun j => decide (cls33[j]? = some ("NothingToRedo" : Str))) = [32]) ∧ (((List.range 33).filter fun j => decide (cls33[j]? = some ("KindError" : Str))) = []) := by decide +kernel
theorem code_u : codeN "NothingToUndo" 33 = [.int 31] := by
  unfold codeN
  rw [code_end.1]
  rfl
theorem code_r : codeN "NothingToRedo" 33 = [.int 32] := by
  unfold codeN
  rw [code_end.2.1]
  rfl
theorem code_k : codeN "KindError" 33 = [] := by
  unfold codeN
  rw [code_end.2.2]
  rfl
theorem in_ends : exAs.contains "NothingToUndo" = true ∧ exAs.contains "NothingToRedo" = true ∧ exAs.contains "KindError" = true := by decide +kernel
def codes2 : Ef := eLc (iVal (eV 2)) (gN 10) [10] tYesF (eCall (aCons (eV 10) aNil) h45 1 [])
def errs2 : Ef := eLc (iVal (eV 2)) (gN 10) [10] tYesF (eCall (aCons (eV 10) aNil) h46 1 [])
def two : Ef := eLst (aCons (eLst (aCons (eK (.int 31)) aNil)) (aCons (eLst (aCons (eK (.int 32)) aNil)) aNil))
def fin : Sf := bCons (sAsg (eLst (aCons (eMkn "NothingToUndo") (aCons (eMkn "NothingToRedo") aNil))) (gN 2)) (bCons (sIf (tBl (PD.bin codes2 two fNe)) retF bNil) (bCons (sExpr (eM isL (eV 2) (aCons (eMkn "KindError") aNil) mAppend)) (bCons (sRet (eAnd (eB (aCons errs2 aNil) (lstF gAll)) (PD.bin (eCall (aCons (PD.bin (eV 2) (eK (.int 2)) fIxA) aNil) h45 1 []) (eLst aNil) fEq))) bNil)))
theorem rd_two {s : Store} {k a b : Nat} (e : s[k]? = some (.lst [.ref a, .ref b])) (ha : s[a]? = some (.lst [.int 31])) (hb : s[b]? = some (.lst [.int 32])) : rd deep s (.ref k) = some (.list [.list [.int 31], .list [.int 32]]) := by
  simp only [rd, lview, omap, e, ha, hb]
  rfl
theorem codes2_ok {env : PD.Env} {s : Store} {r n1 n2 : Nat} (hl : env.length = 11) (h2 : env[2]? = some (some (.ref r))) (e : s[r]? = some (.lst [.ref n1, .ref n2])) (g1 : s[n1]? = some (.exn "NothingToUndo")) (g2 : s[n2]? = some (.exn "NothingToRedo")) :
    ∃ a b s', codes2 env s = some (.v (.ref s.length), s') ∧ Ext s s' ∧ s'[s.length]? = some (.lst [.ref a, .ref b]) ∧ s'[a]? = some (.lst [.int 31]) ∧ s'[b]? = some (.lst [.int 32]) := by
  obtain ⟨s', ys, e3, hP, q⟩ := eLc_run (itf := iVal (eV 2)) (iv := ivLive r) (g := gN 10) (vs := [10]) (tt := tYesF) (te := eCall (aCons (eV 10) aNil) h45 1 []) (env := env) (st := s) (st1 := s)
    (fun i s2 ys => Ext s s2 ∧ (i = 0 → ys = []) ∧ (i = 1 → ∃ a, ys = [.ref a] ∧ s.length < a ∧ s2[a]? = some (.lst [.int 31])) ∧ (i = 2 → ∃ a b, ys = [.ref a, .ref b] ∧ s.length < a ∧ s.length < b ∧ s2[a]? = some (.lst [.int 31]) ∧ s2[b]? = some (.lst [.int 32]))) 2 (iVal_ref (eV_ok h2) e) (fun i s2 ys hi ⟨x2, R0, R1, _⟩ hk hly => by
      have hkl := (List.getElem?_eq_some_iff.mp hk).1
      have hw : (wipeE env [10]).length = 11 := by rw [wipe1]; simp [hl]
      have sl : ∀ v : Vl, ((wipeE env [10]).set 10 (some v))[10]? = some (some v) := fun v => by rw [List.getElem?_set_self (by omega)]
      have hi' : i = 0 ∨ i = 1 := by omega
      rcases hi' with h | h
      · subst h
        obtain ⟨r3, s3, e3, x3, hr3, q3⟩ := s_code (v := .ref n1) (c := "NothingToUndo") (s := s2) in_ends.1 (by simp only [tyOf, x2 _ _ g1])
        rw [code_u] at q3
        refine ⟨.ref n1, _, s2, true, s2, by rw [live_nx (x2 _ _ e)]; rfl, gN_ok (by omega), rfl, fun h => (by cases h), fun _ => ⟨.ref r3, s3, call_of (ac_of (eV_ok (sl _)) rfl) rfl e3, x3 _ _ hk, (x2.trans x3).set (Nat.le_refl _) _, fun h => (by omega), fun _ => ⟨r3, by rw [R0 rfl]; rfl, by omega, by rw [List.getElem?_set_ne (by omega)]; exact q3⟩, fun h => (by omega)⟩⟩
      · subst h
        obtain ⟨a, hya, ha, qa⟩ := R1 rfl
        obtain ⟨r3, s3, e3, x3, hr3, q3⟩ := s_code (v := .ref n2) (c := "NothingToRedo") (s := s2) in_ends.2.1 (by simp only [tyOf, x2 _ _ g2])
        rw [code_r] at q3
        refine ⟨.ref n2, _, s2, true, s2, by rw [live_nx (x2 _ _ e)]; rfl, gN_ok (by omega), rfl, fun h => (by cases h), fun _ => ⟨.ref r3, s3, call_of (ac_of (eV_ok (sl _)) rfl) rfl e3, x3 _ _ hk, (x2.trans x3).set (Nat.le_refl _) _, fun h => (by omega), fun h => (by omega), fun _ => ⟨a, r3, by rw [hya]; rfl, ha, by omega, by rw [List.getElem?_set_ne (by omega)]; exact x3 _ _ qa, by rw [List.getElem?_set_ne (by omega)]; exact q3⟩⟩⟩) (fun s2 ys ⟨x2, _⟩ _ => by rw [live_nx (x2 _ _ e)]; rfl) (by decide) ⟨Ext.push _ _, fun _ => rfl, fun h => (by omega), fun h => (by omega)⟩
  obtain ⟨x, _, _, h⟩ := hP
  obtain ⟨a, b, rfl, _, _, qa, qb⟩ := h rfl
  exact ⟨a, b, s', e3, x, q, qa, qb⟩
theorem errs2_ok {env : PD.Env} {s : Store} {r n1 n2 n3 : Nat} (hl : env.length = 11) (h2 : env[2]? = some (some (.ref r))) (e : s[r]? = some (.lst [.ref n1, .ref n2, .ref n3])) (g1 : s[n1]? = some (.exn "NothingToUndo")) (g2 : s[n2]? = some (.exn "NothingToRedo")) (g3 : s[n3]? = some (.exn "KindError")) :
    ∃ s', errs2 env s = some (.v (.ref s.length), s') ∧ Ext s s' ∧ s'[s.length]? = some (.lst [.bl true, .bl true, .bl true]) := by
  obtain ⟨s', ys, e3, ⟨x, hy⟩, q⟩ := eLc_run (itf := iVal (eV 2)) (iv := ivLive r) (g := gN 10) (vs := [10]) (tt := tYesF) (te := eCall (aCons (eV 10) aNil) h46 1 []) (env := env) (st := s) (st1 := s)
    (fun i s2 ys => Ext s s2 ∧ ys = List.replicate i (.bl true)) 3 (iVal_ref (eV_ok h2) e) (fun i s2 ys hi ⟨x2, R0⟩ hk hly => by
      have hw : (wipeE env [10]).length = 11 := by rw [wipe1]; simp [hl]
      have sl : ∀ v : Vl, ((wipeE env [10]).set 10 (some v))[10]? = some (some v) := fun v => by rw [List.getElem?_set_self (by omega)]
      have go : ∀ (n : Nat) (c : Str), exAs.contains c = true → s[n]? = some (.exn c) → ([Vl.ref n1, .ref n2, .ref n3])[i]? = some (.ref n) → ∃ v env1 s1 b s3, ivLive r i s2 = some (some v) ∧ gN 10 v (wipeE env [10]) s2 = some (env1, s1) ∧ tYesF env1 s1 = some (.v b, s3) ∧ (b = false → (Ext s s3 ∧ ys = List.replicate (i + 1) (.bl true)) ∧ s3[s.length]? = some (.lst ys)) ∧
          (b = true → ∃ y s4, eCall (aCons (eV 10) aNil) h46 1 [] env1 s3 = some (.v y, s4) ∧ s4[s.length]? = some (.lst ys) ∧ Ext s (s4.set s.length (.lst (ys ++ [y]))) ∧ ys ++ [y] = List.replicate (i + 1) (.bl true)) := fun n c hc hg hn =>
        ⟨.ref n, _, s2, true, s2, by rw [live_nx (x2 _ _ e), hn], gN_ok (by omega), rfl, fun h => (by cases h), fun _ => ⟨.bl true, s2, call_of (ac_of (eV_ok (sl _)) rfl) rfl (s_iserr hc (by simp only [tyOf, x2 _ _ hg])), hk, x2.set (Nat.le_refl _) _, by rw [R0, List.replicate_succ']⟩⟩
      have hi' : i = 0 ∨ i = 1 ∨ i = 2 := by omega
      rcases hi' with h | h | h
      · exact go n1 _ in_ends.1 g1 (by rw [h]; rfl)
      · exact go n2 _ in_ends.2.1 g2 (by rw [h]; rfl)
      · exact go n3 _ in_ends.2.2 g3 (by rw [h]; rfl)) (fun s2 ys ⟨x2, _⟩ _ => by rw [live_nx (x2 _ _ e)]; rfl) (by decide) ⟨Ext.push _ _, rfl⟩
  subst hy
  exact ⟨s', e3, x, q⟩
theorem two_ne : (!PyData.eqv (.list [.list [.int 31], .list [.int 32]]) (.list [.list [.int 31], .list [.int 32]])) = false := by decide +kernel
theorem fin_ok {env : PD.Env} {s : Store} (hl : env.length = 11) : ∃ env' s', fin env s = some (.rt (.bl true), env', s') := by
  obtain ⟨env2, he2⟩ : ∃ env2, env2 = env.set 2 (some (.ref (s.length + 2))) := ⟨_, rfl⟩
  have hl2 : env2.length = 11 := by rw [he2]; simp [hl]
  have h2 : env2[2]? = some (some (.ref (s.length + 2))) := by rw [he2, List.getElem?_set_self (by omega)]
  obtain ⟨s1, hs1⟩ : ∃ s1 : Store, s1 = s ++ [Ob.exn "NothingToUndo"] ++ [Ob.exn "NothingToRedo"] ++ [Ob.lst [.ref s.length, .ref (s.length + 1)]] := ⟨_, rfl⟩
  have g1 : s1[s.length]? = some (.exn "NothingToUndo") := by rw [hs1]; simp
  have g2 : s1[s.length + 1]? = some (.exn "NothingToRedo") := by rw [hs1]; simp
  have g0 : s1[s.length + 2]? = some (.lst [.ref s.length, .ref (s.length + 1)]) := by rw [hs1]; simp
  have e1 : eLst (aCons (eMkn "NothingToUndo") (aCons (eMkn "NothingToRedo") aNil)) env s = some (.v (.ref (s.length + 2)), s1) := by
    have a1 : eMkn "NothingToRedo" env (s ++ [Ob.exn "NothingToUndo"]) = some (.v (.ref (s.length + 1)), s ++ [Ob.exn "NothingToUndo"] ++ [Ob.exn "NothingToRedo"]) := by
      unfold eMkn
      simp
    have a2 := lst_of (ac_of (f := eMkn "NothingToUndo") (env := env) (s := s) (s1 := s ++ [Ob.exn "NothingToUndo"]) (v := .ref s.length) rfl (ac_of a1 (g := aNil) rfl)) (by simp)
    rw [a2, hs1]
    simp
  obtain ⟨a, b, s2, e2, x2, q0, qa, qb⟩ := codes2_ok hl2 h2 g0 g1 g2
  have x3 := ((Ext.push s2 [Ob.lst [.int 31]]).trans (Ext.push _ [Ob.lst [.int 32]])).trans (Ext.push _ [Ob.lst [.ref s2.length, .ref (s2 ++ [Ob.lst [.int 31]]).length]])
  obtain ⟨s3, hs3⟩ : ∃ s3 : Store, s3 = s2 ++ [Ob.lst [.int 31]] ++ [Ob.lst [.int 32]] ++ [Ob.lst [.ref s2.length, .ref (s2 ++ [Ob.lst [.int 31]]).length]] := ⟨_, rfl⟩
  rw [← hs3] at x3
  have e3 : two env2 s2 = some (.v (.ref (s2 ++ [Ob.lst [.int 31]] ++ [Ob.lst [.int 32]]).length), s3) := by
    rw [hs3]
    exact lst_of (ac_of (lst_of (ac_of rfl rfl) (by simp)) (ac_of (lst_of (ac_of rfl rfl) (by simp)) rfl)) (by simp)
  have ne : fNe (.ref s1.length) (.ref (s2 ++ [Ob.lst [.int 31]] ++ [Ob.lst [.int 32]]).length) s3 = some (.v (.bl false), s3) := by
    unfold fNe
    rw [rd_two (x3 _ _ q0) (x3 _ _ qa) (x3 _ _ qb), rd_two (s := s3) (a := s2.length) (b := (s2 ++ [Ob.lst [.int 31]]).length) (by rw [hs3]; exact getLast _ _) (by rw [hs3]; exact getPre _ (getPre _ (getLast _ _))) (by rw [hs3]; exact getPre _ (getLast _ _))]
    simp only [two_ne]
    rfl
  have x13 := x2.trans x3
  have k1 := x13 _ _ g1
  have k2 := x13 _ _ g2
  have k0 := x13 _ _ g0
  have hlt := (List.getElem?_eq_some_iff.mp k0).1
  obtain ⟨s4, hs4⟩ : ∃ s4 : Store, s4 = (s3 ++ [Ob.exn "KindError"]).set (s.length + 2) (.lst [.ref s.length, .ref (s.length + 1), .ref s3.length]) := ⟨_, rfl⟩
  have e4 : eM isL (eV 2) (aCons (eMkn "KindError") aNil) mAppend env2 s3 = some (.v .non, s4) := by
    refine eM_of (v := .ref (s.length + 2)) (eV_ok h2) (by simp only [isL, lview, k0]; rfl) (ac_of (v := .ref s3.length) (s1 := s3 ++ [Ob.exn "KindError"]) rfl rfl) ?_
    show onL (fun xs => if xs.length < 16777216 then some (.non, xs ++ [.ref s3.length]) else none) (.ref (s.length + 2)) (s3 ++ [Ob.exn "KindError"]) = _
    simp only [onL, getPre [Ob.exn "KindError"] k0]
    rw [hs4]
    rfl
  have hl4 : s.length + 2 < (s3 ++ [Ob.exn "KindError"]).length := by simp; omega
  have j0 : s4[s.length + 2]? = some (.lst [.ref s.length, .ref (s.length + 1), .ref s3.length]) := by rw [hs4, List.getElem?_set_self hl4]
  have j1 : s4[s.length]? = some (.exn "NothingToUndo") := by rw [hs4, List.getElem?_set_ne (by omega)]; exact getPre _ k1
  have j2 : s4[s.length + 1]? = some (.exn "NothingToRedo") := by rw [hs4, List.getElem?_set_ne (by omega)]; exact getPre _ k2
  have j3 : s4[s3.length]? = some (.exn "KindError") := by rw [hs4, List.getElem?_set_ne (by omega)]; exact getLast _ _
  obtain ⟨s5, e5, x5, q5⟩ := errs2_ok hl2 h2 j0 j1 j2 j3
  obtain ⟨r6, s6, e6, x6, hr6, q6⟩ := s_code (v := .ref s3.length) (c := "KindError") (s := s5) in_ends.2.2 (by simp only [tyOf, x5 _ _ j3])
  rw [code_k] at q6
  refine ⟨env2, s6 ++ [.lst []], ?_⟩
  unfold fin
  refine (asg_of e1 (by omega)).trans ?_
  rw [← he2]
  refine (ifF_of (env1 := env2) (s1 := s3) (tBl_of (bin_of e2 e3 ne)) rfl).trans ?_
  refine (exp_of e4).trans ?_
  refine ret_of ?_
  have all : eB (aCons errs2 aNil) (lstF gAll) env2 s4 = some (.v (.bl true), s5) := eB_of (ac_of e5 rfl) (by
    simp only [lstF, lview, q5]
    rfl)
  have snd : PD.bin (eCall (aCons (PD.bin (eV 2) (eK (.int 2)) fIxA) aNil) h45 1 []) (eLst aNil) fEq env2 s5 = some (.v (.bl true), s6 ++ [.lst []]) := by
    refine bin_of (call_of (vs := [.ref s3.length]) (ac_of (bin_of (eV_ok h2) rfl (fIx_ref (i := 2) (x5 _ _ j0) rfl)) rfl) rfl e6) (lst_of rfl (by simp)) ?_
    unfold fEq
    have z1 : (s6 ++ [Ob.lst []])[r6]? = some (.lst []) := getPre _ q6
    have z2 : (s6 ++ [Ob.lst []])[s6.length]? = some (.lst []) := getLast _ _
    simp only [rd, lview, z1, z2]
    rfl
  unfold eAnd
  rw [all, Rb_v]
  exact snd
end K01
set_option maxHeartbeats 4000000
namespace K01
open PySem PySem.Spec PyProof.Rows L2 PD
theorem a48_eq : a48 = bCons (sFor (iVal (eCall (aCons (eV 0) (aCons (eK (.int 1)) aNil)) h39 2 [])) (gN 1) bodyS) fin := rfl
theorem math (ns : List Int) (st : Store) (v : Vl) (hv : lview st v = some (ns.map .int)) : ∃ st', h48 [v] st = some (.v (.bl true), st') := by
  obtain ⟨q, p, s1, e1, x1, g, hq, _, P⟩ := s_purses hv
  obtain ⟨env2, s2, e2, hl2, g2⟩ := body_ok (v := v) P (by decide) hq g
  obtain ⟨env3, s3, e3⟩ := fin_ok (env := env2) (s := s2) hl2
  refine ⟨s3, body_rt (env' := env3) ?_⟩
  show a48 [some v, none, none, none, none, none, none, none, none, none, none] st = _
  rw [a48_eq]
  refine (for_of (iv := ivLive q) (s1 := s1) (env2 := env2) (s2 := s2) (iVal_ref (call_of (vs := [v, .int 1]) (ac_of (eV_ok rfl) (ac_of rfl rfl)) rfl e1) g) (iter1 (v := .ref p) (by rw [live_nx g]; rfl) (gN_ok (by show 1 < 11; decide)) e2 (by rw [live_nx g2]; rfl))).trans e3
theorem sp_law1 {K : Kw} {H : Hp} {a : Addr} {ns : List Int} (tabs : K.tabs = []) (run : ∀ (st : Store) (v : Vl), lview st v = some (ns.map .int) → ∃ st', h48 [v] st = some (.v (.bl true), st')) (hS : SqL K.fr H a (ns.map V.int)) : fnSp K h48 1 [.ref a] H (fun v _ => v = .bl true) fun _ _ _ => False := by
  have svi : ∀ (as : List Addr) (xs : List Int), SVs K as H (xs.map Vl.int) (xs.map V.int) := by
    intro as xs
    induction xs with
    | nil => simp only [List.map_nil, SVs]
    | cons x xs ih =>
      simp only [List.map_cons, SVs]
      exact ⟨_, _, rfl, by simp only [SV], ih⟩
  have tb : ∀ as : List Addr, TabsA as H K.tabs := fun as p hp => by
    rw [tabs] at hp
    cases hp
  refine ⟨rfl, ?_⟩
  have post : ∀ {v : Vl} {as : List Addr} {st' : Store}, v = .bl true → ∀ as' H', Ax as as' H → Gr as H H' → SR K as' H' st' → ∀ x, SV K as' H' v x → x = V.bl true := by
    intro v as st' hv as' H' _ _ _ x sx
    subst hv
    simpa only [SV] using sx
  have kl : (∃ (as : List Addr) (st : Store) (d : Vl), SR K as H st ∧ SV K as H d (.ref a) ∧ lview st d = some (ns.map .int)) := by
    have s0 : SR K [] H [] := ⟨rfl, List.nodup_nil, fun n o h => by simp at h, tb []⟩
    rcases hS with h | h
    · rcases h with h | h
      · have sr : SR K [a] H [.lst (ns.map .int)] := ⟨rfl, by simp, fun n o h' => by
          cases n with
          | zero =>
            simp at h'
            subst h'
            exact ⟨a, rfl, ⟨_, h, svi _ _⟩⟩
          | succ n => simp at h', tb [a]⟩
        exact ⟨[a], _, .ref 0, sr, by simp only [SV]; exact ⟨a, rfl, rfl⟩, rfl⟩
      · obtain ⟨o, h⟩ := h
        refine ⟨[], [], .klst (ns.map .int), s0, ?_, rfl⟩
        simp only [SV]
        exact ⟨a, _, rfl, .inl ⟨o, h, by simp⟩, svi _ _⟩
    · refine ⟨[], [], .klst (ns.map .int), s0, ?_, rfl⟩
      simp only [SV]
      exact ⟨a, _, rfl, .inr h, svi _ _⟩
  obtain ⟨as, st, d, sr, sv, lv⟩ := kl
  obtain ⟨st', r⟩ := run st d lv
  exact ⟨as, st, [d], sr, by simp only [SVs]; exact ⟨_, _, rfl, sv, rfl⟩, .bl true, st', r, post rfl⟩
end K01
set_option maxHeartbeats 0
namespace K01
open PySem PySem.Spec PyProof.Rows L2 PD
abbrev Kk (K : PySem.W.Frag) (w : World) : Kw := ⟨K, w, caX K (exVs ++ exNs), [], fun _ => none⟩
theorem frs {K : PySem.W.Frag} {h : Heap} {mg : Str → Option Value} (X : K.In h) (G : h.Ns mainGlobals mg) (c : He.SaysD fa fn K) : Fr mg := ⟨He.free_ok X G (c.fact 13 (f := .free "ValueError") rfl), He.free_ok X G (c.fact 14 (f := .free "all") rfl), He.free_ok X G (c.fact 15 (f := .free "dict") rfl), He.free_ok X G (c.fact 16 (f := .free "int") rfl), He.free_ok X G (c.fact 17 (f := .free "isinstance") rfl), He.free_ok X G (c.fact 18 (f := .free "len") rfl), He.free_ok X G (c.fact 19 (f := .free "list") rfl), He.free_ok X G (c.fact 20 (f := .free "max") rfl), He.free_ok X G (c.fact 21 (f := .free "min") rfl), He.free_ok X G (c.fact 22 (f := .free "range") rfl), He.free_ok X G (c.fact 23 (f := .free "repr") rfl), He.free_ok X G (c.fact 24 (f := .free "sum") rfl), He.free_ok X G (c.fact 25 (f := .free "tuple") rfl)⟩
theorem lawAt {w : World} {K : PySem.W.Frag} {h : Heap} {mg : Str → Option Value} {f : Addr} (X : K.In h) (G : h.Ns mainGlobals mg) (c : SaysY fa fn ex K) (hfa : mg ("law" : Str) = some (.ref f)) :
    ∃ (fd : FuncData) (sp : Sp), (∀ (s : Shared) (u : Value), BindsTo s fd ⟨[u], []⟩ [(("_law_script" : Str), u)]) ∧
      (∀ (H : Hp) (a : Addr) (ns : List Int), ns.length ≤ 63 → Only H → SqL K H a (ns.map V.int) → sp [.ref a] H (fun v _ => v = .bl true) fun _ _ _ => False) ∧
      ∀ base : Heap, K.In base → base.Ns mainGlobals mg → FnG PySem.Challenge.rw_kindshifts_k01_errors_made.prog w K mg base 5 f fd ["_law_script"] sp := by
  have Gf := frs X G c.d
  have O := othB_ok (P := PySem.Challenge.rw_kindshifts_k01_errors_made.prog) (K := Kk K w) X G (by kernel_rfl) rfl c.more
  have Z : Oth PySem.Challenge.rw_kindshifts_k01_errors_made.prog (Kk K w) mg := ⟨O.ev, O.en, O.eo, O.ct, O.sys⟩
  obtain ⟨fd36, F36⟩ := c.d.def_ 0 (d := d36) rfl
  have m36 := He.glo_ok X G (c.d.fact 0 (f := .glo "_law_purse") rfl)
  obtain ⟨fd37, F37⟩ := c.d.def_ 1 (d := d37) rfl
  have m37 := He.glo_ok X G (c.d.fact 1 (f := .glo "_law_mixed") rfl)
  obtain ⟨fd38, F38⟩ := c.d.def_ 2 (d := d38) rfl
  have m38 := He.glo_ok X G (c.d.fact 2 (f := .glo "_law_draw") rfl)
  obtain ⟨fd39, F39⟩ := c.d.def_ 3 (d := d39) rfl
  have m39 := He.glo_ok X G (c.d.fact 3 (f := .glo "_law_purses") rfl)
  obtain ⟨fd40, F40⟩ := c.d.def_ 4 (d := d40) rfl
  have m40 := He.glo_ok X G (c.d.fact 4 (f := .glo "_law_one_of") rfl)
  obtain ⟨fd41, F41⟩ := c.d.def_ 5 (d := d41) rfl
  have m41 := He.glo_ok X G (c.d.fact 5 (f := .glo "_law_word") rfl)
  obtain ⟨fd42, F42⟩ := c.d.def_ 6 (d := d42) rfl
  have m42 := He.glo_ok X G (c.d.fact 6 (f := .glo "_law_first") rfl)
  obtain ⟨fd43, F43⟩ := c.d.def_ 7 (d := d43) rfl
  have m43 := He.glo_ok X G (c.d.fact 7 (f := .glo "_law_called") rfl)
  obtain ⟨fd44, F44⟩ := c.d.def_ 8 (d := d44) rfl
  have m44 := He.glo_ok X G (c.d.fact 8 (f := .glo "_law_bare") rfl)
  obtain ⟨fd45, F45⟩ := c.d.def_ 9 (d := d45) rfl
  have m45 := He.glo_ok X G (c.d.fact 9 (f := .glo "_law_code") rfl)
  obtain ⟨fd46, F46⟩ := c.d.def_ 10 (d := d46) rfl
  have m46 := He.glo_ok X G (c.d.fact 10 (f := .glo "_law_is_error") rfl)
  obtain ⟨fd47, F47⟩ := c.d.def_ 11 (d := d47) rfl
  have m47 := He.glo_ok X G (c.d.fact 11 (f := .glo "_law_right") rfl)
  obtain ⟨fd48, F48⟩ := c.d.def_ 12 (d := d48) rfl
  have m48 := He.glo_ok X G (c.d.fact 12 (f := .glo "law") rfl)
  have e := hfa.symm.trans m48
  cases e
  refine ⟨fd48, fnSp (Kk K w) h48 1, ?_, ?_, ?_⟩
  · exact fun s u => FunD.bindsA (ps := ["_law_script"]) F48 (fun _ _ _ _ _ _ us hl => match us, hl with | [_], _ => rfl) s [u] rfl
  · intro H a ns _ _ hS
    exact sp_law1 (K := Kk K w) rfl (fun st v hv => math ns st v hv) hS
  · intro base KX hns
    have F__law_purse : Kf PySem.Challenge.rw_kindshifts_k01_errors_made.prog w (Kk K w) mg base 2 "_law_purse" 2 h36 := s36 (K := Kk K w) rfl Gf Z  F36 m36
    have F__law_mixed : Kf PySem.Challenge.rw_kindshifts_k01_errors_made.prog w (Kk K w) mg base 2 "_law_mixed" 3 h37 := s37 (K := Kk K w) rfl Gf Z  F37 m37
    have F__law_draw : Kf PySem.Challenge.rw_kindshifts_k01_errors_made.prog w (Kk K w) mg base 3 "_law_draw" 2 h38 := s38 (K := Kk K w) rfl Gf Z F__law_mixed F38 m38
    have F__law_purses : Kf PySem.Challenge.rw_kindshifts_k01_errors_made.prog w (Kk K w) mg base 3 "_law_purses" 2 h39 := s39 (K := Kk K w) rfl Gf Z F__law_purse F39 m39
    have F__law_one_of : Kf PySem.Challenge.rw_kindshifts_k01_errors_made.prog w (Kk K w) mg base 4 "_law_one_of" 2 h40 := s40 (K := Kk K w) rfl Gf Z F__law_draw F40 m40
    have F__law_word : Kf PySem.Challenge.rw_kindshifts_k01_errors_made.prog w (Kk K w) mg base 4 "_law_word" 1 h41 := s41 (K := Kk K w) rfl Gf Z F__law_draw F41 m41
    have F__law_first : Kf PySem.Challenge.rw_kindshifts_k01_errors_made.prog w (Kk K w) mg base 2 "_law_first" 1 h42 := s42 (K := Kk K w) rfl Gf Z  F42 m42
    have F__law_called : Kf PySem.Challenge.rw_kindshifts_k01_errors_made.prog w (Kk K w) mg base 2 "_law_called" 1 h43 := s43 (K := Kk K w) rfl Gf Z  F43 m43
    have F__law_bare : Kf PySem.Challenge.rw_kindshifts_k01_errors_made.prog w (Kk K w) mg base 2 "_law_bare" 0 h44 := s44 (K := Kk K w) rfl Gf Z  F44 m44
    have F__law_code : Kf PySem.Challenge.rw_kindshifts_k01_errors_made.prog w (Kk K w) mg base 2 "_law_code" 1 h45 := s45 (K := Kk K w) rfl Gf Z  F45 m45
    have F__law_is_error : Kf PySem.Challenge.rw_kindshifts_k01_errors_made.prog w (Kk K w) mg base 2 "_law_is_error" 1 h46 := s46 (K := Kk K w) rfl Gf Z  F46 m46
    have F__law_right : Kf PySem.Challenge.rw_kindshifts_k01_errors_made.prog w (Kk K w) mg base 3 "_law_right" 2 h47 := s47 (K := Kk K w) rfl Gf Z F__law_code F__law_is_error F47 m47
    exact s48 (K := Kk K w) rfl Gf Z F__law_bare F__law_called F__law_code F__law_first F__law_is_error F__law_one_of F__law_purses F__law_right F__law_word F48
end K01
open PySem PySem.W PySem.Calls PyProof.Rows
theorem PySem.Challenge.cw_kindshifts_k01_errors_made_holds : PySem.Challenge.rw_kindshifts_k01_errors_made.Holds := by
  w_on; o_law
  refine HandSHeadRun.head_any (r := OpenLaw.row PySem.Challenge.rw_kindshifts_k01_errors_made) (q := view (OpenLaw.row PySem.Challenge.rw_kindshifts_k01_errors_made).prog [48]) (H := K01.hk) (ob := K01.ob) (M := 12000) (loose := K01.loose) (d := HandSHeadRun.topDef (OpenLaw.row PySem.Challenge.rw_kindshifts_k01_errors_made).prog 48) (kwd := []) K01.ob_eq
    (by kernel_rfl) (fun s => by kernel_rfl) K01.run (by kernel_rfl) (by kernel_rfl) (by kernel_rfl) (by rfl) (by first | assumption | decide +kernel) (by decide +kernel) ⟨rfl, rfl, rfl, rfl, rfl, by decide +kernel⟩ ?hw ?hc
  case hw => w_witness2
  case hc =>
    refine L2.walk_ofG (l := PySem.Challenge.rw_kindshifts_k01_errors_made) (n := 63) (k := 5) (x := "_law_script") rfl (by decide) (by kernel_rfl) ⟨by decide, by decide, by decide⟩ ?F
    intro w mg fa h Y G hmg0
    obtain ⟨K, KX, c⟩ := Y
    have hmg : mg ("law" : PySem.Str) = some (.ref fa) := by
      have e : (HandSHeadRun.topDef (OpenLaw.row PySem.Challenge.rw_kindshifts_k01_errors_made).prog 48).name = ("law" : PySem.Str) := by kernel_rfl
      rw [← e]
      exact hmg0
    obtain ⟨fd, sp, h1, h2, h3⟩ := K01.lawAt (w := w) KX G c hmg
    exact ⟨K, fd, sp, KX, h1, h2, h3⟩
