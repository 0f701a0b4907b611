import PyProof.Rows.All
import Wide.All
import OpenK.AllK
import Wide.FinOn
import KE.KStateDown
import HandS.Head0
import HandS.Head1
import HandS.Head2
import HandS.HeadHook2
import HandS.Words
import PySem.Challenge.RW_wiresay_k99_errors
import PyProof.EqAt
import PyProof.EqKinds
import PyProof.TupleCall
import KE.KFromBytes
import KE.KExcIs
import HandS.ForMost
import HandS.Exc
import HandS.ExcOwn
import HandS.ExcInit
import HandS.IsInst
import HandS.MakeKwOnly
import HandS.Wide
import HandS.EndBits
import HandS.ExcValue
import HandS.Style
import HandS.Flow
import HandS.TryOnly
import HandS.WordsExc
import HandS.Comp
import HandS.WordsList
import HandS.BoundList
import HandS.Zip
import HandS.Walk
import HandS.HeadEnd
/-! ## T0 -/
set_option Elab.async false
set_option linter.all false
set_option maxRecDepth 100000
set_option maxHeartbeats 0
namespace L2
open PySem
abbrev veT : List Value := [.type "ValueError", .type "Exception", .type "BaseException", .type "object"]
end L2
namespace K99
open PySem PySem.Spec PyProof.Rows L2
def top (i : Nat) : Stmt := PySem.Challenge.pw_wiresay_k99_errors.main.body.getD i (.Pass ⟨0, 0, 0, 0⟩)
abbrev sI (i : Nat) : Stmt := inClass (top i) 0
end K99

/-! ## F1 -/
set_option Elab.async false
set_option linter.all false
set_option maxRecDepth 100000
set_option maxHeartbeats 0
namespace K99
open PySem PySem.W PySem.Calls PyProof.Rows
abbrev R : OpenRow := OpenLaw.row PySem.Challenge.rw_wiresay_k99_errors
abbrev qv : Program := view R.prog [73]
def names0 : List (Str) := ["SayError", "InvalidBase", "InvalidBound", "InvalidContext", "InvalidCount", "InvalidEnd", "InvalidFees", "InvalidFilling", "InvalidForm", "InvalidIndex", "InvalidLines", "InvalidLot", "InvalidMachine", "InvalidMost", "InvalidName", "InvalidNumber", "InvalidNumbers", "InvalidOther", "InvalidPaper", "InvalidPart"]
def names1 : List (Str) := ["InvalidPath", "InvalidPiece", "InvalidPlace", "InvalidPlaces", "InvalidRow", "InvalidRows", "InvalidSheet", "InvalidShelf", "InvalidStep", "InvalidSteps", "InvalidSystem", "InvalidText", "InvalidTexts", "InvalidTold", "InvalidTop", "InvalidWiring", "CanStand", "Gone", "HasLine", "HasOne"]
def names2 : List (Str) := ["InUse", "NoExchange", "NoStep", "NotHolding", "NotLinear", "NotThere", "NothingStands", "NothingToRedo", "NothingToUndo", "TooMany", "Unfit", "ZeroNumber", "_law_cell", "_law_box", "_law_take", "_law_same", "_law_blamed", "_law_value", "_law_made_0", "_law_made_1"]
def names3 : List (Str) := ["_law_made_2", "_law_made_3", "_law_is_0", "_law_is_1", "_law_is_2", "_law_fields", "_law_raised", "_law_caught_right", "_law_deep", "_law_class_right"]
def names : List (Str) := names0 ++ (names1 ++ (names2 ++ (names3)))
def clsL0 : List (Str × List Str) := [("InvalidBase", ["given"]), ("InvalidBound", ["given"]), ("InvalidContext", ["given"]), ("InvalidCount", ["given"]), ("InvalidEnd", ["given"]), ("InvalidFees", ["given"]), ("InvalidFilling", ["given"]), ("InvalidForm", ["given"]), ("InvalidIndex", ["given"]), ("InvalidLines", ["given"]), ("InvalidLot", ["given"]), ("InvalidMachine", ["given"]), ("InvalidMost", ["given"])]
def clsL1 : List (Str × List Str) := [("InvalidName", ["given"]), ("InvalidNumber", ["given"]), ("InvalidNumbers", ["given"]), ("InvalidOther", ["given"]), ("InvalidPaper", ["given"]), ("InvalidPart", ["given"]), ("InvalidPath", ["given"]), ("InvalidPiece", ["given"]), ("InvalidPlace", ["given"]), ("InvalidPlaces", ["given"]), ("InvalidRow", ["given"]), ("InvalidRows", ["given"]), ("InvalidSheet", ["given"])]
def clsL2 : List (Str × List Str) := [("InvalidShelf", ["given"]), ("InvalidStep", ["given"]), ("InvalidSteps", ["given"]), ("InvalidSystem", ["given"]), ("InvalidText", ["given"]), ("InvalidTexts", ["given"]), ("InvalidTold", ["given"]), ("InvalidTop", ["given"]), ("InvalidWiring", ["given"]), ("CanStand", ["row"]), ("Gone", []), ("HasLine", ["line"]), ("HasOne", ["index"])]
def clsL3 : List (Str × List Str) := [("InUse", ["name"]), ("NoExchange", ["going", "coming"]), ("NoStep", ["index"]), ("NotHolding", ["bound"]), ("NotLinear", ["index"]), ("NotThere", ["path"]), ("NothingStands", []), ("NothingToRedo", []), ("NothingToUndo", []), ("TooMany", ["count"]), ("Unfit", ["name"]), ("ZeroNumber", [])]
def clsL : List (Str × List Str) := clsL0 ++ (clsL1 ++ (clsL2 ++ (clsL3)))
def freeL0 : List (Str) := ["abs", "int", "sum", "len", "isinstance", "bool", "str", "list", "tuple", "range", "max", "min", "zip", "ValueError"]
def freeL : List (Str) := freeL0
def gloL0 : List (Str) := ["_law_cell", "_law_box", "_law_take", "_law_same", "_law_blamed", "_law_value", "_law_made_0", "_law_made_1", "_law_made_2", "_law_made_3", "_law_is_0", "_law_is_1", "_law_is_2", "_law_fields", "_law_raised", "_law_caught_right", "_law_deep", "_law_class_right", "law"]
def gloL : List (Str) := gloL0
/-! ### what is looked at behind the top -/
def oexB (K : Frag) (S C : Addr) : Bool := match K.lookup C with
  | some ⟨.type "type", _, .cls cd, sl⟩ => (match sl.toList with
    | [_, _, _, _, some (.builtin n), _] => decide (cd.mro = .ref C :: .ref S :: L2.veT) && (n == "ValueError.__new__" && (!cd.hasDel && cd.hasDict))
    | _ => false)
  | _ => false
def errB (K : Frag) (S : Addr) (x : Str) (fl : List Str) : Bool :=
  He.eqO (nsIn K mainGlobals x) (some (some (.ref (He.ga K x)))) && (oexB K S (He.ga K x) && (He.eqO (findIn K (.ref (He.ga K x)) "__setattr__") (some (some (.builtin "object.__setattr__"))) &&
    (He.eqO (findIn K (.ref (He.ga K x)) "__getattribute__") (some (some (.builtin "BaseException.__getattribute__"))) && (He.eqO (findIn K (.ref (He.ga K x)) "__getattr__") (some none) &&
    (He.eqO (findIn K (.ref (He.ga K x)) "__class__") (some (some (.builtin "object.__class__"))) && (He.eqO (findIn K (.ref (He.ga K x)) "__init__") (some (some (.ref (He.ma K (He.ga K x) "__init__")))) &&
    (decide (typeIn K (.ref (He.ma K (He.ga K x) "__init__")) = some (.type "function")) && (keepIn K (.ref (He.ga K x)) && (fl.all (fun f => He.eqO (findIn K (.ref (He.ga K x)) f) (some none)) && !decide (He.ga K x = S))))))))))
def sayB (K : Frag) : Bool :=
  He.eqO (nsIn K mainGlobals "SayError") (some (some (.ref (He.ga K "SayError")))) && (He.eqO (specialIn K (.ref (He.ga K "SayError")) "__getattribute__") (some (some (.builtin "type.__getattribute__"))) && (readsIn K (He.ga K "SayError") (.type "type") &&
    ((match findCls K (.ref (He.ga K "SayError")) (.type "type") "__init__" with
      | some (.val (.builtin n)) => n == "ValueError.__init__"
      | _ => false) && ((clsIn K (He.ga K "SayError")).isSome && typeIn K (.ref (He.ga K "SayError")) == some (.type "type")) && decide (subIn K (.ref (He.ga K "SayError")) (.type "BaseException") = some true))))
def ascB : List Addr → Bool
  | a :: b :: r => decide (a < b) && ascB (b :: r)
  | _ => true
def allB (K : Frag) : Bool := sayB K && (clsL.all (fun p => errB K (He.ga K "SayError") p.1 p.2) && (ascB (clsL.map fun p => He.ga K p.1) && (freeL.all (fun x => (He.Fa.free x).ok K) && gloL.all (fun x => (He.Fa.glo x).ok K))))
/-! ### the defs -/
def initL0 : List (He.DefD) := [⟨("InvalidBase", some "__init__"), "__init__", "InvalidBase.__init__", L2.defArgs (sI 2), L2.defBody (sI 2), L2.defScope (sI 2), [], []⟩, ⟨("InvalidBound", some "__init__"), "__init__", "InvalidBound.__init__", L2.defArgs (sI 3), L2.defBody (sI 3), L2.defScope (sI 3), [], []⟩, ⟨("InvalidContext", some "__init__"), "__init__", "InvalidContext.__init__", L2.defArgs (sI 4), L2.defBody (sI 4), L2.defScope (sI 4), [], []⟩, ⟨("InvalidCount", some "__init__"), "__init__", "InvalidCount.__init__", L2.defArgs (sI 5), L2.defBody (sI 5), L2.defScope (sI 5), [], []⟩, ⟨("InvalidEnd", some "__init__"), "__init__", "InvalidEnd.__init__", L2.defArgs (sI 6), L2.defBody (sI 6), L2.defScope (sI 6), [], []⟩, ⟨("InvalidFees", some "__init__"), "__init__", "InvalidFees.__init__", L2.defArgs (sI 7), L2.defBody (sI 7), L2.defScope (sI 7), [], []⟩, ⟨("InvalidFilling", some "__init__"), "__init__", "InvalidFilling.__init__", L2.defArgs (sI 8), L2.defBody (sI 8), L2.defScope (sI 8), [], []⟩, ⟨("InvalidForm", some "__init__"), "__init__", "InvalidForm.__init__", L2.defArgs (sI 9), L2.defBody (sI 9), L2.defScope (sI 9), [], []⟩, ⟨("InvalidIndex", some "__init__"), "__init__", "InvalidIndex.__init__", L2.defArgs (sI 10), L2.defBody (sI 10), L2.defScope (sI 10), [], []⟩, ⟨("InvalidLines", some "__init__"), "__init__", "InvalidLines.__init__", L2.defArgs (sI 11), L2.defBody (sI 11), L2.defScope (sI 11), [], []⟩, ⟨("InvalidLot", some "__init__"), "__init__", "InvalidLot.__init__", L2.defArgs (sI 12), L2.defBody (sI 12), L2.defScope (sI 12), [], []⟩, ⟨("InvalidMachine", some "__init__"), "__init__", "InvalidMachine.__init__", L2.defArgs (sI 13), L2.defBody (sI 13), L2.defScope (sI 13), [], []⟩, ⟨("InvalidMost", some "__init__"), "__init__", "InvalidMost.__init__", L2.defArgs (sI 14), L2.defBody (sI 14), L2.defScope (sI 14), [], []⟩]
def initL1 : List (He.DefD) := [⟨("InvalidName", some "__init__"), "__init__", "InvalidName.__init__", L2.defArgs (sI 15), L2.defBody (sI 15), L2.defScope (sI 15), [], []⟩, ⟨("InvalidNumber", some "__init__"), "__init__", "InvalidNumber.__init__", L2.defArgs (sI 16), L2.defBody (sI 16), L2.defScope (sI 16), [], []⟩, ⟨("InvalidNumbers", some "__init__"), "__init__", "InvalidNumbers.__init__", L2.defArgs (sI 17), L2.defBody (sI 17), L2.defScope (sI 17), [], []⟩, ⟨("InvalidOther", some "__init__"), "__init__", "InvalidOther.__init__", L2.defArgs (sI 18), L2.defBody (sI 18), L2.defScope (sI 18), [], []⟩, ⟨("InvalidPaper", some "__init__"), "__init__", "InvalidPaper.__init__", L2.defArgs (sI 19), L2.defBody (sI 19), L2.defScope (sI 19), [], []⟩, ⟨("InvalidPart", some "__init__"), "__init__", "InvalidPart.__init__", L2.defArgs (sI 20), L2.defBody (sI 20), L2.defScope (sI 20), [], []⟩, ⟨("InvalidPath", some "__init__"), "__init__", "InvalidPath.__init__", L2.defArgs (sI 21), L2.defBody (sI 21), L2.defScope (sI 21), [], []⟩, ⟨("InvalidPiece", some "__init__"), "__init__", "InvalidPiece.__init__", L2.defArgs (sI 22), L2.defBody (sI 22), L2.defScope (sI 22), [], []⟩, ⟨("InvalidPlace", some "__init__"), "__init__", "InvalidPlace.__init__", L2.defArgs (sI 23), L2.defBody (sI 23), L2.defScope (sI 23), [], []⟩, ⟨("InvalidPlaces", some "__init__"), "__init__", "InvalidPlaces.__init__", L2.defArgs (sI 24), L2.defBody (sI 24), L2.defScope (sI 24), [], []⟩, ⟨("InvalidRow", some "__init__"), "__init__", "InvalidRow.__init__", L2.defArgs (sI 25), L2.defBody (sI 25), L2.defScope (sI 25), [], []⟩, ⟨("InvalidRows", some "__init__"), "__init__", "InvalidRows.__init__", L2.defArgs (sI 26), L2.defBody (sI 26), L2.defScope (sI 26), [], []⟩, ⟨("InvalidSheet", some "__init__"), "__init__", "InvalidSheet.__init__", L2.defArgs (sI 27), L2.defBody (sI 27), L2.defScope (sI 27), [], []⟩]
def initL2 : List (He.DefD) := [⟨("InvalidShelf", some "__init__"), "__init__", "InvalidShelf.__init__", L2.defArgs (sI 28), L2.defBody (sI 28), L2.defScope (sI 28), [], []⟩, ⟨("InvalidStep", some "__init__"), "__init__", "InvalidStep.__init__", L2.defArgs (sI 29), L2.defBody (sI 29), L2.defScope (sI 29), [], []⟩, ⟨("InvalidSteps", some "__init__"), "__init__", "InvalidSteps.__init__", L2.defArgs (sI 30), L2.defBody (sI 30), L2.defScope (sI 30), [], []⟩, ⟨("InvalidSystem", some "__init__"), "__init__", "InvalidSystem.__init__", L2.defArgs (sI 31), L2.defBody (sI 31), L2.defScope (sI 31), [], []⟩, ⟨("InvalidText", some "__init__"), "__init__", "InvalidText.__init__", L2.defArgs (sI 32), L2.defBody (sI 32), L2.defScope (sI 32), [], []⟩, ⟨("InvalidTexts", some "__init__"), "__init__", "InvalidTexts.__init__", L2.defArgs (sI 33), L2.defBody (sI 33), L2.defScope (sI 33), [], []⟩, ⟨("InvalidTold", some "__init__"), "__init__", "InvalidTold.__init__", L2.defArgs (sI 34), L2.defBody (sI 34), L2.defScope (sI 34), [], []⟩, ⟨("InvalidTop", some "__init__"), "__init__", "InvalidTop.__init__", L2.defArgs (sI 35), L2.defBody (sI 35), L2.defScope (sI 35), [], []⟩, ⟨("InvalidWiring", some "__init__"), "__init__", "InvalidWiring.__init__", L2.defArgs (sI 36), L2.defBody (sI 36), L2.defScope (sI 36), [], []⟩, ⟨("CanStand", some "__init__"), "__init__", "CanStand.__init__", L2.defArgs (sI 38), L2.defBody (sI 38), L2.defScope (sI 38), [], []⟩, ⟨("Gone", some "__init__"), "__init__", "Gone.__init__", L2.defArgs (sI 39), L2.defBody (sI 39), L2.defScope (sI 39), [], []⟩, ⟨("HasLine", some "__init__"), "__init__", "HasLine.__init__", L2.defArgs (sI 40), L2.defBody (sI 40), L2.defScope (sI 40), [], []⟩, ⟨("HasOne", some "__init__"), "__init__", "HasOne.__init__", L2.defArgs (sI 41), L2.defBody (sI 41), L2.defScope (sI 41), [], []⟩]
def initL3 : List (He.DefD) := [⟨("InUse", some "__init__"), "__init__", "InUse.__init__", L2.defArgs (sI 42), L2.defBody (sI 42), L2.defScope (sI 42), [], []⟩, ⟨("NoExchange", some "__init__"), "__init__", "NoExchange.__init__", L2.defArgs (sI 43), L2.defBody (sI 43), L2.defScope (sI 43), [], []⟩, ⟨("NoStep", some "__init__"), "__init__", "NoStep.__init__", L2.defArgs (sI 44), L2.defBody (sI 44), L2.defScope (sI 44), [], []⟩, ⟨("NotHolding", some "__init__"), "__init__", "NotHolding.__init__", L2.defArgs (sI 45), L2.defBody (sI 45), L2.defScope (sI 45), [], []⟩, ⟨("NotLinear", some "__init__"), "__init__", "NotLinear.__init__", L2.defArgs (sI 46), L2.defBody (sI 46), L2.defScope (sI 46), [], []⟩, ⟨("NotThere", some "__init__"), "__init__", "NotThere.__init__", L2.defArgs (sI 47), L2.defBody (sI 47), L2.defScope (sI 47), [], []⟩, ⟨("NothingStands", some "__init__"), "__init__", "NothingStands.__init__", L2.defArgs (sI 48), L2.defBody (sI 48), L2.defScope (sI 48), [], []⟩, ⟨("NothingToRedo", some "__init__"), "__init__", "NothingToRedo.__init__", L2.defArgs (sI 49), L2.defBody (sI 49), L2.defScope (sI 49), [], []⟩, ⟨("NothingToUndo", some "__init__"), "__init__", "NothingToUndo.__init__", L2.defArgs (sI 50), L2.defBody (sI 50), L2.defScope (sI 50), [], []⟩, ⟨("TooMany", some "__init__"), "__init__", "TooMany.__init__", L2.defArgs (sI 51), L2.defBody (sI 51), L2.defScope (sI 51), [], []⟩, ⟨("Unfit", some "__init__"), "__init__", "Unfit.__init__", L2.defArgs (sI 52), L2.defBody (sI 52), L2.defScope (sI 52), [], []⟩, ⟨("ZeroNumber", some "__init__"), "__init__", "ZeroNumber.__init__", L2.defArgs (sI 53), L2.defBody (sI 53), L2.defScope (sI 53), [], []⟩]
def initL : List (He.DefD) := initL0 ++ (initL1 ++ (initL2 ++ (initL3)))
def defL0 : List (He.DefD) := [⟨("_law_cell", none), "_law_cell", "_law_cell", L2.defArgs (top 55), L2.defBody (top 55), L2.defScope (top 55), [], []⟩, ⟨("_law_box", none), "_law_box", "_law_box", L2.defArgs (top 56), L2.defBody (top 56), L2.defScope (top 56), [], []⟩, ⟨("_law_take", none), "_law_take", "_law_take", L2.defArgs (top 57), L2.defBody (top 57), L2.defScope (top 57), [], []⟩, ⟨("_law_same", none), "_law_same", "_law_same", L2.defArgs (top 58), L2.defBody (top 58), L2.defScope (top 58), [], []⟩, ⟨("_law_blamed", none), "_law_blamed", "_law_blamed", L2.defArgs (top 59), L2.defBody (top 59), L2.defScope (top 59), [], []⟩, ⟨("_law_value", none), "_law_value", "_law_value", L2.defArgs (top 60), L2.defBody (top 60), L2.defScope (top 60), [], []⟩, ⟨("_law_made_0", none), "_law_made_0", "_law_made_0", L2.defArgs (top 61), L2.defBody (top 61), L2.defScope (top 61), [], []⟩, ⟨("_law_made_1", none), "_law_made_1", "_law_made_1", L2.defArgs (top 62), L2.defBody (top 62), L2.defScope (top 62), [], []⟩, ⟨("_law_made_2", none), "_law_made_2", "_law_made_2", L2.defArgs (top 63), L2.defBody (top 63), L2.defScope (top 63), [], []⟩, ⟨("_law_made_3", none), "_law_made_3", "_law_made_3", L2.defArgs (top 64), L2.defBody (top 64), L2.defScope (top 64), [], []⟩, ⟨("_law_is_0", none), "_law_is_0", "_law_is_0", L2.defArgs (top 65), L2.defBody (top 65), L2.defScope (top 65), [], []⟩, ⟨("_law_is_1", none), "_law_is_1", "_law_is_1", L2.defArgs (top 66), L2.defBody (top 66), L2.defScope (top 66), [], []⟩, ⟨("_law_is_2", none), "_law_is_2", "_law_is_2", L2.defArgs (top 67), L2.defBody (top 67), L2.defScope (top 67), [], []⟩, ⟨("_law_fields", none), "_law_fields", "_law_fields", L2.defArgs (top 68), L2.defBody (top 68), L2.defScope (top 68), [], []⟩, ⟨("_law_raised", none), "_law_raised", "_law_raised", L2.defArgs (top 69), L2.defBody (top 69), L2.defScope (top 69), [], []⟩, ⟨("_law_caught_right", none), "_law_caught_right", "_law_caught_right", L2.defArgs (top 70), L2.defBody (top 70), L2.defScope (top 70), [], []⟩, ⟨("_law_deep", none), "_law_deep", "_law_deep", L2.defArgs (top 71), L2.defBody (top 71), L2.defScope (top 71), [], []⟩, ⟨("_law_class_right", none), "_law_class_right", "_law_class_right", L2.defArgs (top 72), L2.defBody (top 72), L2.defScope (top 72), [], []⟩, ⟨("law", none), "law", "law", L2.defArgs (top 73), L2.defBody (top 73), L2.defScope (top 73), [], []⟩]
def defL : List (He.DefD) := defL0
def fnL : List He.DefD := defL ++ initL
/-! ### the part of the heap that is told: the module's names, the classes' own dicts and defs, their code -/
def ref1 : Value → List Addr
  | .ref a => [a]
  | _ => []
def valsD (g : Addr → Option Obj) (a : Addr) : List Addr := match g a with
  | some ⟨_, _, .dict es _, _⟩ => es.toList.flatMap fun e => ref1 e.val
  | _ => []
def nextD (g : Addr → Option Obj) (a : Addr) : List Addr := match g a with
  | some ⟨_, _, .cls cd, _⟩ => [cd.ns]
  | some ⟨_, _, .func fd, _⟩ => ref1 fd.code
  | _ => []
def asK (g : Addr → Option Obj) : List Addr :=
  let l1 := valsD g mainGlobals
  let l2 := l1.flatMap (nextD g)
  let l3 := l2.flatMap (valsD g)
  mainGlobals :: cStatics :: (l1 ++ (l2 ++ (l3 ++ l3.flatMap (nextD g))))
abbrev AlK : Type := Bool × List He.FnW
def obsK (K : Frag) : AlK := (allB K && fnL.all (fun d => d.ok K), fnL.map fun d => He.fnW K d.at_)
def valK : AlK := (true, fnL.map He.DefD.val)
def SaysK (K : Frag) : Prop := obsK K = valK
def obsG (g : Addr → Option Obj) : AlK := obsK (He.frG g (asK g))
def hk : Hook where
  α := AlK
  obs := fun s => obsG s.heap.get?
  val := fun _ => valK
  says := fun _ h => ∃ K : Frag, K.In h ∧ SaysK K
  of := fun _ _ e => ⟨_, He.frG_in, e⟩
  keeps := fun _ _ _ ⟨K, hK, c⟩ k => ⟨K, Frag.In.keeps hK k, c⟩
def ob (s : SharedT) : AlK := obsG (HandSHeadRun.getT s)
theorem ob_eq (s : SharedT) : ob s = hk.obs s.abs := by
  have e : HandSHeadRun.getT s = s.abs.heap.get? := funext (HandSHeadRun.getT_eq s)
  unfold ob
  rw [e] <;> rfl
end K99

/-! ## H1 -/
set_option Elab.async false
set_option linter.all false
set_option maxRecDepth 100000
set_option maxHeartbeats 0
namespace K99
open PySem PySem.W PySem.Calls PyProof.Rows
theorem run (w : World) : HandSHeadRun.RunEq R qv Hook.none (fun _ => ()) 14000 names w := by
  intro os
  kernel_rfl
end K99

/-! ## F3A -/
set_option Elab.async false
set_option linter.all false
set_option maxRecDepth 100000
set_option maxHeartbeats 0
namespace K99
open PySem PySem.W PySem.Calls PyProof.Rows
theorem runA (w : World) (os : OsState) : (HandSHeadRun.endF (HandSHeadRun.stepQ (HandSHeadRun.denQ HandSHeadRun.tabQ) R.prog w) 14000 R.prog w os).map (fun s => allB (He.frG (HandSHeadRun.getT s) (asK (HandSHeadRun.getT s)))) = some true := by
  kernel_rfl
end K99

/-! ## F3B -/
set_option Elab.async false
set_option linter.all false
set_option maxRecDepth 100000
set_option maxHeartbeats 0
namespace K99
open PySem PySem.W PySem.Calls PyProof.Rows
theorem runB (w : World) (os : OsState) : (HandSHeadRun.endF (HandSHeadRun.stepQ (HandSHeadRun.denQ HandSHeadRun.tabQ) R.prog w) 14000 R.prog w os).map (fun s => defL.all (fun d => d.ok (He.frG (HandSHeadRun.getT s) (asK (HandSHeadRun.getT s))))) = some true := by
  kernel_rfl
end K99

/-! ## F3C -/
set_option Elab.async false
set_option linter.all false
set_option maxRecDepth 100000
set_option maxHeartbeats 0
namespace K99
open PySem PySem.W PySem.Calls PyProof.Rows
theorem runC (w : World) (os : OsState) : (HandSHeadRun.endF (HandSHeadRun.stepQ (HandSHeadRun.denQ HandSHeadRun.tabQ) R.prog w) 14000 R.prog w os).map (fun s => fnL.map fun d => He.fnW (He.frG (HandSHeadRun.getT s) (asK (HandSHeadRun.getT s))) d.at_) = some (fnL.map He.DefD.val) := by
  kernel_rfl
end K99

/-! ## F3D -/
set_option Elab.async false
set_option linter.all false
set_option maxRecDepth 100000
set_option maxHeartbeats 0
namespace K99
open PySem PySem.W PySem.Calls PyProof.Rows
theorem runD (w : World) (os : OsState) : (HandSHeadRun.endF (HandSHeadRun.stepQ (HandSHeadRun.denQ HandSHeadRun.tabQ) R.prog w) 14000 R.prog w os).map (fun s => initL.all (fun d => d.ok (He.frG (HandSHeadRun.getT s) (asK (HandSHeadRun.getT s))))) = some true := by
  kernel_rfl
end K99

/-! ## F4 -/
set_option Elab.async false
set_option linter.all false
set_option maxRecDepth 100000
set_option maxHeartbeats 0
namespace K99
open PySem PySem.W PySem.Calls PyProof.Rows
theorem runAll (w : World) : HandSHeadRun.RunEq R qv hk ob 14000 names w := by
  intro os
  obtain ⟨s, hs, e0⟩ := Option.map_eq_some_iff.mp (run w os)
  have eA := runA w os
  have eB := runB w os
  have eC := runC w os
  have eD := runD w os
  rw [hs, Option.map_some] at eA eB eC eD
  have a1 := Option.some.inj eA
  have b1 := Option.some.inj eB
  have c1 := Option.some.inj eC
  have d1 := Option.some.inj eD
  refine Option.map_eq_some_iff.mpr ⟨s, hs, ?_⟩
  have e1 := congrArg Prod.fst e0
  have e2 := congrArg (fun z => z.2.1) e0
  have e3 : ob s = valK := by
    show (allB _ && fnL.all _, fnL.map _) = (true, fnL.map He.DefD.val)
    rw [a1, c1, show fnL = defL ++ initL from rfl, List.all_append, b1, d1]
    rfl
  exact Prod.ext e1 (Prod.ext e2 e3)
end K99

/-! ## E1 -/
set_option Elab.async false
set_option linter.all false
set_option maxRecDepth 100000
set_option maxHeartbeats 4000000
/-! own exception classes over an own class over ValueError, made with keywords too, as values -/
namespace PySem
namespace HandSPX
open PySem.W PySem.Calls PyProof.Rows
section
variable {prog : Program} {w : World} {M : Model} {A : Around} {E : Value → Shared → Prop} {R : Result → Shared → Prop} {h : Heap} {g : Array GenState} {d : Drawn} {t : Nat} {os : OsState}
variable {nm q : Str} {C N : Addr} {bs bm bmB : List Value} {hdct : Bool} {sn : List Str} {sub : List Value} {ab : Bool} {col : Option Bool} {dd : Option Addr} {k0 k1 k2 k3 k5 : Option Value} {B newId initId : String}

theorem kwCheckNew (F : ExcBaseFacts B newId initId bmB) (hT : ∀ X : String, bm.contains (.type X) = bmB.contains (.type X)) {rest : List Value} {kw : List (Str × Value)} {Q : Unit → Shared → Prop}
    (hC : h.get? C = some (excClassObj nm q C N bs bm hdct sn sub ab col dd k0 k1 k2 k3 k5 newId)) (hq : Q () ⟨h, g, d, t, os⟩) : wpAny M A (checkBuiltinCall newId ⟨.ref C :: rest, kw⟩) Q E ⟨h, g, d, t, os⟩ := by
  have hcont : (Value.ref C :: bm).contains (.type B) = true := by rw [List.contains_cons, hT, F.hasB, Bool.or_true]
  have hstar := F.noStar
  simp only [checkBuiltinCall, F.newKind, F.newSplit, F.newRow]
  repeat (first | refine wpAny_loadPart_at hC ?_ | (refine wpAny_isSubtype_exc hC ?_; rw [hcont]) | refine wpAny_staticBase_exc hC ?_ | refine wpAny_madeBy_exc hC ?_ | simp only [bne_self_eq_false, Bool.false_eq_true, if_false] | wp_step)
  exact hq

theorem kwNew (F : ExcBaseFacts B newId initId bmB) (hT : ∀ X : String, bm.contains (.type X) = bmB.contains (.type X)) {rest : List Value} {kw : List (Str × Value)}
    (hC : h.get? C = some (excClassObj nm q C N bs bm hdct sn sub ab col dd k0 k1 k2 k3 k5 newId))
    (hq : R (.ok (.ret (.ref (h.objs.size + 1)))) ⟨(h.push { cls := .type "tuple", data := .seq rest.toArray }).push
      { cls := .ref C, data := .fields #[.ref h.objs.size, .none, .none, .none, .bool false, .none] }, g, d, t, os⟩) (hrest : rest.length ≤ sizeLine) :
    codeAny (model prog w) A (.builtin newId ⟨.ref C :: rest, kw⟩) R ⟨h, g, d, t, os⟩ := by
  have hends := F.ends
  have hcB : (Value.ref C :: bm).contains (.type B) = true := by rw [List.contains_cons, hT, F.hasB, Bool.or_true]
  have hcA : (Value.ref C :: bm).contains (.type "AttributeError") = false := by rw [List.contains_cons, hT, F.noAttr]; rfl
  have hcN : (Value.ref C :: bm).contains (.type "NameError") = false := by rw [List.contains_cons, hT, F.noName]; rfl
  refine codeAny_builtinAt F.entry ?_
  unfold Builtin.«BaseException.__new__»
  refine wpAt_bind ?_
  show wpAt _ _ _ (stack >>= _) _ _ _
  refine wpAt_bind (wpAt_stack fun p below => wpAt_of_wpAny ?_)
  wp_walk
  refine wpAt_of_wpAny ?_
  rw [F.owner]
  repeat (first | with_reducible refine wpAny_madeHere_exc F.canon hC ?_ | with_reducible refine wpAny_loadPart_at hC ?_ | (with_reducible refine wpAny_isSubtype_exc hC ?_; first | rw [hcB] | rw [hcA] | rw [hcN]) | wp_step)
  show R _ _
  rw [Heap.size_push]
  exact hq

theorem kwTypeCall (F : ExcBaseFacts B newId initId bmB) (hT : ∀ X : String, bm.contains (.type X) = bmB.contains (.type X)) {rest : List Value} {kw : List (Str × Value)} {fI : Addr} {Q : Fin → Shared → Prop}
    (hC : h.get? C = some (excClassObj nm q C N bs bm hdct sn sub ab col dd k0 k1 k2 k3 k5 newId))
    (hi : W.Looks (model prog w) h (typeLookup (.ref C) "__init__") (some (.ref fI))) (hb : ∀ self, W.Looks (model prog w) h (bindSpecial (.ref fI) self) (.ref fI, [self])) (hrest : rest.length ≤ sizeLine)
    (hq : codeAny (model prog w) A (.call (.ref fI) ⟨.ref (h.objs.size + 1) :: rest, kw⟩)
      (fun r s' => match r with | .ok (.ret v) => v = .none ∧ Q (.done (.ret (.ref (h.objs.size + 1)))) s' | .ok _ => False | .error e => E e s')
      ⟨(h.push (W.kdv_tup rest)).push (excO C h.objs.size), g, d, t, os⟩) :
    wpAny (model prog w) A (Builtin.«type.__call__» ⟨.ref C :: rest, kw⟩) Q E ⟨h, g, d, t, os⟩ := by
  repeat (first | with_reducible refine wpAny_loadPart_at hC ?_ | with_reducible refine wpAny_madeBy_exc hC ?_ | wp_step)
  refine codeAny_call_builtin_code (Code.quiet_builtin _ F.quiet) (kwCheckNew F hT hC ?_)
  refine kwNew F hT hC ?_ hrest
  show wpAny _ _ _ _ _ _
  have k : ∀ b o, h.get? b = some o → ((h.push (W.kdv_tup rest)).push (excO C h.objs.size)).get? b = some o := fun b o e => Heap.get?_push_of_some _ (Heap.get?_push_of_some _ e)
  have hC₁ := k _ _ hC
  have hget : ((h.push (W.kdv_tup rest)).push (excO C h.objs.size)).get? (h.objs.size + 1) = some (excO C h.objs.size) := by heap_get
  have hcC : (Value.ref C :: bm).contains (.ref C) = true := by simp
  have i1 := hi.keeps k
  have b1 := (hb (.ref (h.objs.size + 1))).keeps k
  unfold isInstance
  repeat (first | with_reducible refine wpAny_loadPart_at hget ?_ | (with_reducible refine wpAny_isSubtype_exc hC₁ ?_; rw [hcC]) | wp_step)
  show wpAny _ _ (typeLookup (.ref C) _) _ _ _
  refine i1.at ?_
  refine wpAny_holding (wpAny_bind (b1.at ?_))
  refine wpAny_bind (wpAny_call (codeAny_mono hq fun r s' z => ?_))
  rcases r with e | (v | _ | _ | _) <;> first | exact z | exact z.elim | skip
  obtain ⟨rfl, z⟩ := z
  first
    | exact wpAny_pure (wpAny_pure z)
    | (wp_walk; exact z)

theorem kwCall (F : ExcBaseFacts B newId initId bmB) (hT : ∀ X : String, bm.contains (.type X) = bmB.contains (.type X)) {rest : List Value} {kw : List (Str × Value)} {fI : Addr}
    (hC : h.get? C = some (excClassObj nm q C N bs bm hdct sn sub ab col dd k0 k1 k2 k3 k5 newId))
    (hi : W.Looks (model prog w) h (typeLookup (.ref C) "__init__") (some (.ref fI))) (hb : ∀ self, W.Looks (model prog w) h (bindSpecial (.ref fI) self) (.ref fI, [self])) (hrest : rest.length ≤ sizeLine)
    (hq : codeAny (model prog w) (A.under (.builtin "type.__call__" ⟨.ref C :: rest, kw⟩)) (.call (.ref fI) ⟨.ref (h.objs.size + 1) :: rest, kw⟩) (W.InitBack (h.objs.size + 1) R)
      ⟨(h.push (W.kdv_tup rest)).push (excO C h.objs.size), g, d, t, os⟩) :
    codeAny (model prog w) A (.call (.ref C) ⟨rest, kw⟩) R ⟨h, g, d, t, os⟩ := by
  have f1 := tc_lookup
  have f2 := tc_bind (.ref C)
  have hTy : (⟨h, g, d, t, os⟩ : Shared).TypeIs (.ref C) "type" := ⟨_, hC, rfl⟩
  refine codeAny_of_tree ?_
  show wpAny _ _ (callAny (.ref C) _) _ _ _
  repeat (any_goals (first | assumption | with_reducible refine wpAny_loadPart_at hC ?_ | wp_step))
  refine ⟨rfl, ?_⟩
  refine codeAny_call_builtin_at (Code.quiet_builtin _ (by decide +kernel)) entry_typeCall (wpAny_check_type_call_sub hC (kwTypeCall F hT hC hi hb hrest ?_))
  refine codeAny_mono hq fun r s' z => ?_
  rcases r with e | (v | _ | _ | _) <;> exact z
end
end HandSPX
end PySem

/-! ## E2 -/
set_option Elab.async false
set_option linter.all false
set_option maxRecDepth 100000
set_option maxHeartbeats 4000000
namespace L2
open PySem PySem.Spec PyProof.Rows
/-! ### what the top says of an error class at C over the common one at S; its __init__ stands at fI, fl are its fields -/
structure ErrC (K : PySem.W.Frag) (S C fI : Addr) (fl : List Str) : Prop where
  cls : ∃ nm q N bs sn sub ab col dd k0 k1 k2 k3 k5, K.lookup C = some (excClassObj nm q C N bs (.ref S :: veT) true sn sub ab col dd k0 k1 k2 k3 k5 "ValueError.__new__")
  sa : PySem.W.findIn K (.ref C) "__setattr__" = some (some (.builtin "object.__setattr__"))
  ga : PySem.W.findIn K (.ref C) "__getattribute__" = some (some (.builtin "BaseException.__getattribute__"))
  gg : PySem.W.findIn K (.ref C) "__getattr__" = some none
  cc : PySem.W.findIn K (.ref C) "__class__" = some (some (.builtin "object.__class__"))
  ic : PySem.W.findIn K (.ref C) "__init__" = some (some (.ref fI))
  tI : PySem.W.typeIn K (.ref fI) = some (.type "function")
  kC : PySem.W.keepIn K (.ref C) = true
  nf : ∀ f ∈ fl, PySem.W.findIn K (.ref C) f = some none
section
variable {K : PySem.W.Frag} {S C D fI fJ : Addr} {fl gl : List Str}
theorem ErrC.clsIn (T : ErrC K S C fI fl) : ∃ cd, PySem.W.clsIn K C = some cd ∧ cd.mro = .ref C :: .ref S :: veT ∧ cd.hasDict = true := by
  obtain ⟨nm, q, N, bs, sn, sub, ab, col, dd, k0, k1, k2, k3, k5, h⟩ := T.cls
  refine ⟨{ name := nm, bases := bs, mro := .ref C :: .ref S :: veT, ns := N, qualname := q, hasDict := true, slotNames := sn, subclasses := sub, abstract := ab, collection := col, hasDel := false }, ?_, rfl, rfl⟩
  unfold PySem.W.clsIn
  rw [h] <;> rfl
theorem ErrC.tyC (T : ErrC K S C fI fl) : PySem.W.typeIn K (.ref C) = some (.type "type") := by
  obtain ⟨nm, q, N, bs, sn, sub, ab, col, dd, k0, k1, k2, k3, k5, h⟩ := T.cls
  show (K.lookup C).map (·.cls) = _
  rw [h] <;> rfl
theorem ErrC.mroIn (T : ErrC K S C fI fl) (b : Value) : PySem.W.mroIn K C b = some ((Value.ref C :: .ref S :: veT).contains b) := by
  obtain ⟨cd, h1, h2, _⟩ := T.clsIn
  unfold PySem.W.mroIn
  rw [h1, Option.bind_some, h2]
  rfl
theorem ErrC.exC (T : ErrC K S C fI fl) : PySem.W.subIn K (.ref C) (.type "BaseException") = some true := by
  show PySem.W.mroIn K C _ = _
  rw [T.mroIn]
  rfl
theorem ErrC.hdC (T : ErrC K S C fI fl) : PySem.W.hasDictIn K C = true := by
  obtain ⟨cd, h1, _, h3⟩ := T.clsIn
  unfold PySem.W.hasDictIn
  rw [h1]
  exact h3
theorem ErrC.oex (T : ErrC K S C fI fl) : OexC K C := by
  obtain ⟨nm, q, N, bs, sn, sub, ab, col, dd, k0, k1, k2, k3, k5, h⟩ := T.cls
  exact ⟨⟨nm, q, N, bs, _, sn, sub, ab, col, dd, k0, k1, k2, k3, k5, h, rfl⟩, T.sa, T.exC, T.tyC, T.kC⟩
/-- isinstance against another error class, the common one, ValueError -/
theorem ErrC.kit (T : ErrC K S C fI fl) (U : ErrC K S D fJ gl) (nS : D ≠ S) : PySem.W.kitOne K (.ref C) (.ref D) = some (decide (C = D)) := by
  unfold PySem.W.kitOne
  by_cases e : C = D
  · subst e
    rw [if_pos (by simp), decide_eq_true rfl]
  · rw [if_neg (by simpa using e), decide_eq_false e]
    obtain ⟨cd, h1, _, _⟩ := U.clsIn
    have c : ((PySem.W.clsIn K D).isSome && PySem.W.typeIn K (.ref D) == some (.type "type")) = true := by rw [h1, U.tyC]; rfl
    show (if _ then PySem.W.mroIn K C (.ref D) else none) = some false
    rw [if_pos c, T.mroIn]
    have n1 : (Value.ref D == Value.ref C) = false := beq_eq_false_iff_ne.mpr fun z => e (Value.ref.inj z).symm
    have n2 : (Value.ref D == Value.ref S) = false := beq_eq_false_iff_ne.mpr fun z => nS (Value.ref.inj z)
    rw [List.contains_cons, n1, Bool.false_or, List.contains_cons, n2, Bool.false_or]
    rfl
theorem ErrC.kitS (T : ErrC K S C fI fl) (nS : C ≠ S) (hS : ((PySem.W.clsIn K S).isSome && PySem.W.typeIn K (.ref S) == some (.type "type")) = true) : PySem.W.kitOne K (.ref C) (.ref S) = some true := by
  unfold PySem.W.kitOne
  rw [if_neg (by simpa using nS)]
  show (if _ then PySem.W.mroIn K C (.ref S) else none) = some true
  rw [if_pos hS, T.mroIn]
  simp
theorem ErrC.kitV (T : ErrC K S C fI fl) : PySem.W.kitOne K (.ref C) (.type "ValueError") = some true := by
  unfold PySem.W.kitOne
  have n0 : ¬ ((Value.ref C == Value.type "ValueError") = true) := fun z => by
    have q := beq_iff_eq.mp z
    cases q
  rw [if_neg n0]
  show (if PySem.W.kitMeta "ValueError" = true then PySem.W.mroIn K C (.type "ValueError") else none) = some true
  rw [if_pos (by decide +kernel), T.mroIn]
  rfl
end
/-! ### error objects in the abstract heap -/
/-- a caught error of the class cls with its own dict at d -/
def xob (a : Addr) (cls : Value) (d : Option Addr) : HO := .ext fun h => ∃ (oe : Obj) (vs : Array Value), h.get? a = some oe ∧ Zc cls d oe ∧ oe.data = .fields vs
theorem xob_ok {P : Program} {w : World} {H : Hp} {h : Heap} {a : Addr} {cls : Value} {d : Option Addr} {oe : Obj} {vs : Array Value} (e : h.get? a = some oe) (z : Zc cls d oe) (hd : oe.data = .fields vs) : ObjOk P w H h a (xob a cls d) :=
  ⟨⟨oe, vs, e, z, hd⟩, ⟨oe, e⟩, fun _ _ ⟨o, v, q, r⟩ k => ⟨o, v, k o q, r⟩⟩
theorem xob_at {P : Program} {w : World} {H : Hp} {h : Heap} {a : Addr} {cls : Value} {d : Option Addr} (hok : HOk P w H h) (ha : H a = some (xob a cls d)) : ∃ (oe : Obj) (vs : Array Value), h.get? a = some oe ∧ Zc cls d oe ∧ oe.data = .fields vs := by
  have x : ObjOk P w H h a (.ext fun h => ∃ (oe : Obj) (vs : Array Value), h.get? a = some oe ∧ Zc cls d oe ∧ oe.data = .fields vs) := hok a _ ha
  exact x.1
/-- at a: an error of the class at C, made or caught -/
def ErrO (H : Hp) (a C : Addr) : Prop := ∃ od : Option Addr, (H a = some (exo a C od) ∨ H a = some (xob a (.ref C) od)) ∧ ∀ dd, od = some dd → ∃ fs, H dd = some (exd dd fs) ∨ H dd = some (.xd fs)
theorem ErrO.same {H H' : Hp} {a C : Addr} (e : ErrO H a C) (k : Same H H') : ErrO H' a C := by
  obtain ⟨od, h1, h2⟩ := e
  refine ⟨od, ?_, fun dd q => ?_⟩
  · rcases h1 with h | h
    · exact .inl (k _ _ h)
    · exact .inr (k _ _ h)
  · obtain ⟨fs, h⟩ := h2 dd q
    refine ⟨fs, ?_⟩
    rcases h with h | h
    · exact .inl (k _ _ h)
    · exact .inr (k _ _ h)
theorem ErrO.inst {P : Program} {w : World} {H : Hp} {h : Heap} {a C : Addr} (e : ErrO H a C) (hok : HOk P w H h) : ∃ oe od, PySem.W.InstAt h a oe C od := by
  obtain ⟨od, h1, h2⟩ := e
  have hd : ∀ dd, od = some dd → ∃ o, h.get? dd = some o := fun dd q => by
    obtain ⟨fs, x | x⟩ := h2 dd q
    · exact (exd_ok_at hok x)
    · obtain ⟨mA, ⟨o, es, ep, e1, _⟩, _⟩ := (show ObjOk P w H h dd (.xd fs) from hok dd _ x)
      exact ⟨o, e1⟩
  have fin : ∀ oe vs, h.get? a = some oe → Zc (.ref C) od oe → oe.data = .fields vs → ∃ oe od, PySem.W.InstAt h a oe C od := fun oe vs e1 z e2 => by
    have hn : PySem.W.notCls oe = true := by unfold PySem.W.notCls; rw [e2]
    cases q : od with
    | none => exact ⟨oe, none, e1, z.1, hn, by rw [z.2, q]; trivial⟩
    | some dd =>
      obtain ⟨o, ho⟩ := hd dd q
      exact ⟨oe, some o, e1, z.1, hn, by rw [z.2, q]; exact ho⟩
  rcases h1 with x | x
  · obtain ⟨t1, e1⟩ := exo_at hok x
    exact fin _ _ e1 ⟨rfl, rfl⟩ rfl
  · obtain ⟨oe, vs, e1, z, e2⟩ := xob_at hok x
    exact fin oe vs e1 z e2
where
  exd_ok_at {P : Program} {w : World} {H : Hp} {h : Heap} {dd : Addr} {fs : List (Str × V)} (hok : HOk P w H h) (x : H dd = some (exd dd fs)) : ∃ o, h.get? dd = some o := by
    obtain ⟨mA, ⟨o, es, ep, e1, _⟩, _⟩ := exd_at hok x
    exact ⟨o, e1⟩
/-- isinstance(e, c) -/
def rIsO (K : PySem.W.Frag) : List V → Hp → VK → Prop := fun xs H Q => ∃ (a S C fI : Addr) (fl : List Str) (c : V) (cv : Value) (b : Bool), xs = [.ref a, c] ∧ ErrC K S C fI fl ∧ ErrO H a C ∧ ClsV c cv ∧ PySem.W.kitOne K (.ref C) cv = some b ∧ Q (.bl b) H
theorem call_isO {X : Cx} : CallR X (.builtin "isinstance") (rIsO X.K) := by
  intro pins s σ H xs us Q I r h
  obtain ⟨a, S, C, fI, fl, c, cv, b, rfl, T, eo, k, e, q⟩ := h
  obtain ⟨u1, u2, rfl, r1, r2⟩ := vals2 r
  have e2 := k.eq r2
  subst e2
  obtain rfl : u1 = Value.ref a := r1
  obtain ⟨oe, od, J⟩ := eo.inst I.hok
  obtain ⟨cd, h1, _, _⟩ := T.clsIn
  exact PySem.W.kia_one (PySem.W.kitx_exc (by rw [h1]; rfl) T.ga T.gg T.exC T.cc (by kernel_rfl) (by kernel_rfl) (by rw [T.mroIn]; rfl)) I.kIn J e (fun z => nomatch z) fun tk => ⟨.bl b, H, I.tok tk, rfl, q⟩
/-- e.f of a made error -/
def tXo (K : PySem.W.Frag) (f : Str) (te : TE) : TE := fun σ H Q => te σ H fun x H1 => ∃ (a S C fI d : Addr) (fl : List Str) (fs : List (Str × V)) (v : V), x = .ref a ∧ ErrC K S C fI fl ∧ f ∈ fl ∧ H1 a = some (exo a C (some d)) ∧ H1 d = some (exd d fs) ∧ fs.lookup f = some v ∧ Q v H1
theorem pe_xo {X : Cx} {e : Expr} {f : Str} {te : TE} {pos : Pos} (he : PE X e te) (hb : attributeBase e f X.env (eval e X.env) = eval e X.env := by rfl) : PE X (.Attribute e f pos) (tXo X.K f te) := by
  refine ⟨fun pins s σ H Q I h => ?_⟩
  refine attr_of hb (thn (he.run pins s σ H _ I h) fun u s1 ⟨x, H1, I1, rx, a, S, C, fI, d, fl, fs, v, ex, T, hf, ha, hd, hl, q⟩ => ?_)
  subst ex
  obtain rfl : u = Value.ref a := rx
  obtain ⟨t1, h1⟩ := exo_at I1.hok ha
  obtain ⟨mA, hns, hr⟩ := exd_at I1.hok hd
  obtain ⟨od, ho, hlk⟩ := lookIn_ns hns
  have hr1 := hr f
  rw [hl] at hr1
  obtain ⟨u, hu, ru⟩ := RelO.some_of (v := v) (o := mA f) hr1
  have J : PySem.W.InstAt s1.heap a _ C (some od) := ⟨h1, rfl, rfl, ho⟩
  exact HandSPX.exc_get I1.kIn J T.ga T.gg T.exC (PySem.W.findObj_own T.hdC (T.nf f hf) rfl (by rw [hlk, hu])) (handed_of ru) ⟨v, H1, I1.tok _, ru, q⟩
end L2

/-! ## E3 -/
set_option Elab.async false
set_option linter.all false
set_option maxRecDepth 100000
set_option maxHeartbeats 4000000
namespace L2
open PySem PySem.Spec PyProof.Rows
/-- at a: a made error of the class at C with these fields -/
def ErrAt (H : Hp) (a C : Addr) (fs : List (Str × V)) : Prop := ∃ od : Option Addr, H a = some (exo a C od) ∧ (od = none → fs = []) ∧ ∀ dd, od = some dd → dd ≠ a ∧ ∃ gs, H dd = some (exd dd gs) ∧ ∀ n v, fs.lookup n = some v → gs.lookup n = some v
theorem ErrAt.err {H : Hp} {a C : Addr} {fs : List (Str × V)} (e : ErrAt H a C fs) : ErrO H a C := by
  obtain ⟨od, h1, _, h3⟩ := e
  exact ⟨od, .inl h1, fun dd q => by
    obtain ⟨_, gs, h, _⟩ := h3 dd q
    exact ⟨gs, .inl h⟩⟩
theorem ErrAt.same {H H' : Hp} {a C : Addr} {fs : List (Str × V)} (e : ErrAt H a C fs) (k : Same H H') : ErrAt H' a C fs := by
  obtain ⟨od, h1, h2, h3⟩ := e
  exact ⟨od, k _ _ h1, h2, fun dd q => by
    obtain ⟨n, gs, h, g⟩ := h3 dd q
    exact ⟨n, gs, k _ _ h, g⟩⟩
/-- __init__ of the class at C with the fields fl -/
def spE (C : Addr) (fl : List Str) : Sp := fun vs H Q _ => ∃ (a : Addr) (args : List V), vs = .ref a :: args ∧ args.length = fl.length ∧ H a = some (exo a C none) ∧
  ∀ H' : Hp, (∀ b o, b ≠ a → H b = some o → H' b = some o) → ErrAt H' a C (fl.zip args) → Q .non H'
/-- SayError.__init__(self, ..) -/
structure SayC (K : PySem.W.Frag) (mg : Str → Option Value) (S : Addr) : Prop where
  gS : mg "SayError" = some (.ref S)
  sg : PySem.W.specialIn K (.ref S) "__getattribute__" = some (some (.builtin "type.__getattribute__"))
  rd : PySem.W.readsIn K S (.type "type") = true
  fc : PySem.W.findCls K (.ref S) (.type "type") "__init__" = some (.val (.builtin "ValueError.__init__"))
  hS : ((PySem.W.clsIn K S).isSome && PySem.W.typeIn K (.ref S) == some (.type "type")) = true
section
variable {X : Cx} {S : Addr} {e : Expr} {es : List Expr} {ta : TA} {p1 p2 pos : Pos}
theorem pe_seinit {pl : Sem Bool} (T : SayC X.K X.mg S) (hg : Gl X "SayError") (ha : PA X (e :: es) ta)
    (hc : eval (.Call (.Attribute (.Name "SayError" p1) "__init__" p2) (e :: es) [] pos) X.env = (do
      let ov ← eval (.Name "SayError" p1) X.env
      standAt p2.atName
      let (f, first) ← holding [ov] (getMethod ov "__init__" pl)
      callWith pos f first (backTo pos (starEach (e :: es) X.env)) (backToKw pos (keywordEach [] X.env))) := by rfl)
    (he : starEach (e :: es) X.env = (false, eval e X.env) :: starEach es X.env := by rfl) (hpl : (backTo pos (starEach es X.env)).any (·.1) = false := by rfl) :
    PE X (.Call (.Attribute (.Name "SayError" p1) "__init__" p2) (e :: es) [] pos) (tVeI X.K ta) := by
  refine ⟨fun pins s σ H Q I h => PySem.W.methodCall_KW (ld_glob I hg T.gS ?_ (by decide)) hc⟩
  refine PySem.W.method_cls I.kIn T.sg (PySem.W.cls_value I.kIn T.rd T.fc (by decide +kernel) ?_)
  show wpAny _ _ (callWith pos (Value.builtin "ValueError.__init__") [] (backTo pos (starEach (e :: es) X.env)) []) _ _ _
  refine PyProof.Rows.callWith_method1 (thn (ha.run pos pins _ σ H _ (I.tok _) h) fun us s1 ⟨vs, H1, I1, r1, a, C, ws, ev, hl, T1, ea, q⟩ => ?_) he hpl
  subst ev
  cases r1 with
  | @cons _ u0 _ ur ra rw' =>
    obtain rfl : u0 = Value.ref a := ra
    have hlen : ur.length ≤ sizeLine := by
      rw [← Paired.length rw', sizeLine_eq]
      omega
    exact oinit_ok T1 I1 ea hlen fun s' J => ⟨.non, H1, J, rfl, q⟩
end
/-! ### the three shapes of __init__ -/
def iA0 (a1 : Pos) : Arguments := { posonlyargs := [], args := [{ arg := "self", annotation := none, pos := a1 }], vararg := none, kwonlyargs := [], kw_defaults := [], kwarg := none, defaults := [] }
def iA1 (f : Str) (a1 a2 : Pos) : Arguments := { posonlyargs := [], args := [{ arg := "self", annotation := none, pos := a1 }, { arg := f, annotation := none, pos := a2 }], vararg := none, kwonlyargs := [], kw_defaults := [], kwarg := none, defaults := [] }
def iA2 (f g : Str) (a1 a2 a3 : Pos) : Arguments := { posonlyargs := [], args := [{ arg := "self", annotation := none, pos := a1 }, { arg := f, annotation := none, pos := a2 }, { arg := g, annotation := none, pos := a3 }], vararg := none, kwonlyargs := [], kw_defaults := [], kwarg := none, defaults := [] }
def iS0 : Scope := { kind := .function, names := [(PySem.Str.ofString "self", .local), (PySem.Str.ofString "SayError", .globalImplicit)], isGenerator := false, isCoroutine := false, more := [] }
def iS1 (f : Str) : Scope := { kind := .function, names := [(PySem.Str.ofString "self", .local), (f, .local), (PySem.Str.ofString "SayError", .globalImplicit)], isGenerator := false, isCoroutine := false, more := [] }
def iS2 (f g : Str) : Scope := { kind := .function, names := [(PySem.Str.ofString "self", .local), (f, .local), (g, .local), (PySem.Str.ofString "SayError", .globalImplicit)], isGenerator := false, isCoroutine := false, more := [] }
def iSay (m : Str) (p1 p2 p3 p4 p5 p6 : Pos) : Stmt := .Expr (.Call (.Attribute (.Name "SayError" p1) "__init__" p2) [.Name "self" p3, .Constant (.str m) 0 p4] [] p5) p6
def iPut (f : Str) (p1 p2 p3 p4 : Pos) : Stmt := .Assign [.Attribute (.Name "self" p1) f p2] (.Name f p3) p4
end L2

/-! ## I1 -/
set_option Elab.async false
set_option linter.all false
set_option maxRecDepth 100000
set_option maxHeartbeats 4000000
namespace K99
open PySem PySem.Spec PyProof.Rows L2
section
variable {P : Program} {w : World} {K : PySem.W.Frag} {mg : Str → Option Value} {base : Heap} {S C fI : Addr} {fd : FuncData}
theorem lenE {fl : List Str} (vs : List V) (H : Hp) (Q : VK) (E : XK) (h : spE C fl vs H Q E) : vs.length = (("self" : Str) :: fl).length := by
  obtain ⟨a, args, rfl, hl, _⟩ := h
  simp [hl]
theorem rd0 {vs : List V} {H : Hp} {Q : VK} {E : XK} (T : ErrC K S C fI []) (h : spE C [] vs H Q E) :
    ∃ a, vs = [.ref a] ∧ H a = some (exo a C none) ∧ Q .non H := by
  obtain ⟨a, args, rfl, hl, ha, k⟩ := h
  match args, hl with
  | [], _ => exact ⟨a, rfl, ha, k _ (fun b o _ e => e) ⟨none, ha, fun _ => rfl, fun dd q => nomatch q⟩⟩
theorem rd1 {f : Str} {vs : List V} {H : Hp} {Q : VK} {E : XK} (T : ErrC K S C fI [f]) (h : spE C [f] vs H Q E) :
    ∃ a v, vs = [.ref a, v] ∧ H a = some (exo a C none) ∧ ∀ d, H d = none → d ≠ a → Q .non (upd (upd H d (exd d [(f, v)])) a (exo a C (some d))) := by
  obtain ⟨a, args, rfl, hl, ha, k⟩ := h
  match args, hl with
  | [v], _ =>
    refine ⟨a, v, rfl, ha, fun d nd ne => k _ (fun b o hb e => ?_) ⟨some d, upd_same, (fun z => nomatch z), fun dd q => ?_⟩⟩
    · rw [upd_ne hb, upd_ne (ne_of_none e nd)]
      exact e
    · cases q
      exact ⟨ne, [(f, v)], by rw [upd_ne ne, upd_same], fun n u e => e⟩
theorem rd2 {f g : Str} (hfg : ¬ g = f) {vs : List V} {H : Hp} {Q : VK} {E : XK} (T : ErrC K S C fI [f, g]) (h : spE C [f, g] vs H Q E) :
    ∃ a v u, vs = [.ref a, v, u] ∧ H a = some (exo a C none) ∧ ∀ d, H d = none → d ≠ a → Q .non (upd (upd (upd H d (exd d [(f, v)])) a (exo a C (some d))) d (exd d [(g, u), (f, v)])) := by
  obtain ⟨a, args, rfl, hl, ha, k⟩ := h
  match args, hl with
  | [v, u], _ =>
    refine ⟨a, v, u, rfl, ha, fun d nd ne => k _ (fun b o hb e => ?_) ⟨some d, by rw [upd_ne ne.symm, upd_same], (fun z => nomatch z), fun dd q => ?_⟩⟩
    · rw [upd_ne (ne_of_none e nd), upd_ne hb, upd_ne (ne_of_none e nd)]
      exact e
    · cases q
      refine ⟨ne, _, upd_same, fun n x e => ?_⟩
      have e' : [(f, v), (g, u)].lookup n = some x := e
      rw [lookup_put, lookup_put] at e' ⊢
      by_cases h1 : n = f
      · rw [if_pos h1] at e'
        rw [if_neg (fun z => hfg (z.symm.trans h1)), if_pos h1]
        exact e'
      · rw [if_neg h1] at e'
        by_cases h2 : n = g
        · rw [if_pos h2] at e' ⊢
          exact e'
        · rw [if_neg h2] at e'
          cases e'
theorem sc0 : FnScope ["self", "given"] ["self", "given"] (defScope (sI 2)) := ⟨rfl, rfl, rfl, by decide +kernel, rfl, by decide +kernel, by decide +kernel⟩
theorem ok0 (T : ErrC K S C fI ["given"]) (TS : SayC K mg S) (F : FunD K "__init__" "InvalidBase.__init__" (defArgs (sI 2)) (defBody (sI 2)) (defScope (sI 2)) [] [] fI fd) : FnOk P w K mg base CX0 1 fI fd ["self", "given"] (spE C ["given"]) := by
  refine F.ok sc0 lenE (fun cdv A outer s H vs Q E hr h => ?_)
  obtain ⟨a, v, rfl, ha, k⟩ := rd1 T h
  exact ⟨_, PSs.nox (pss_cons (ps_expr (pe_seinit TS rfl (pa_cons (pv 0) (pa_cons pe_str pa_nil)))) (pss_one (ps_ost (pv 0) (pv 1)))), _, rfl, a, C, _, rfl, (by decide), T.oex, ha, _, rfl, _, rfl, a, C, rfl, T.oex, T.nf _ List.mem_cons_self, .inl ⟨ha, k⟩⟩
theorem sc1 : FnScope ["self", "given"] ["self", "given"] (defScope (sI 3)) := ⟨rfl, rfl, rfl, by decide +kernel, rfl, by decide +kernel, by decide +kernel⟩
theorem ok1 (T : ErrC K S C fI ["given"]) (TS : SayC K mg S) (F : FunD K "__init__" "InvalidBound.__init__" (defArgs (sI 3)) (defBody (sI 3)) (defScope (sI 3)) [] [] fI fd) : FnOk P w K mg base CX0 1 fI fd ["self", "given"] (spE C ["given"]) := by
  refine F.ok sc1 lenE (fun cdv A outer s H vs Q E hr h => ?_)
  obtain ⟨a, v, rfl, ha, k⟩ := rd1 T h
  exact ⟨_, PSs.nox (pss_cons (ps_expr (pe_seinit TS rfl (pa_cons (pv 0) (pa_cons pe_str pa_nil)))) (pss_one (ps_ost (pv 0) (pv 1)))), _, rfl, a, C, _, rfl, (by decide), T.oex, ha, _, rfl, _, rfl, a, C, rfl, T.oex, T.nf _ List.mem_cons_self, .inl ⟨ha, k⟩⟩
theorem sc2 : FnScope ["self", "given"] ["self", "given"] (defScope (sI 4)) := ⟨rfl, rfl, rfl, by decide +kernel, rfl, by decide +kernel, by decide +kernel⟩
theorem ok2 (T : ErrC K S C fI ["given"]) (TS : SayC K mg S) (F : FunD K "__init__" "InvalidContext.__init__" (defArgs (sI 4)) (defBody (sI 4)) (defScope (sI 4)) [] [] fI fd) : FnOk P w K mg base CX0 1 fI fd ["self", "given"] (spE C ["given"]) := by
  refine F.ok sc2 lenE (fun cdv A outer s H vs Q E hr h => ?_)
  obtain ⟨a, v, rfl, ha, k⟩ := rd1 T h
  exact ⟨_, PSs.nox (pss_cons (ps_expr (pe_seinit TS rfl (pa_cons (pv 0) (pa_cons pe_str pa_nil)))) (pss_one (ps_ost (pv 0) (pv 1)))), _, rfl, a, C, _, rfl, (by decide), T.oex, ha, _, rfl, _, rfl, a, C, rfl, T.oex, T.nf _ List.mem_cons_self, .inl ⟨ha, k⟩⟩
theorem sc3 : FnScope ["self", "given"] ["self", "given"] (defScope (sI 5)) := ⟨rfl, rfl, rfl, by decide +kernel, rfl, by decide +kernel, by decide +kernel⟩
theorem ok3 (T : ErrC K S C fI ["given"]) (TS : SayC K mg S) (F : FunD K "__init__" "InvalidCount.__init__" (defArgs (sI 5)) (defBody (sI 5)) (defScope (sI 5)) [] [] fI fd) : FnOk P w K mg base CX0 1 fI fd ["self", "given"] (spE C ["given"]) := by
  refine F.ok sc3 lenE (fun cdv A outer s H vs Q E hr h => ?_)
  obtain ⟨a, v, rfl, ha, k⟩ := rd1 T h
  exact ⟨_, PSs.nox (pss_cons (ps_expr (pe_seinit TS rfl (pa_cons (pv 0) (pa_cons pe_str pa_nil)))) (pss_one (ps_ost (pv 0) (pv 1)))), _, rfl, a, C, _, rfl, (by decide), T.oex, ha, _, rfl, _, rfl, a, C, rfl, T.oex, T.nf _ List.mem_cons_self, .inl ⟨ha, k⟩⟩
theorem sc4 : FnScope ["self", "given"] ["self", "given"] (defScope (sI 6)) := ⟨rfl, rfl, rfl, by decide +kernel, rfl, by decide +kernel, by decide +kernel⟩
theorem ok4 (T : ErrC K S C fI ["given"]) (TS : SayC K mg S) (F : FunD K "__init__" "InvalidEnd.__init__" (defArgs (sI 6)) (defBody (sI 6)) (defScope (sI 6)) [] [] fI fd) : FnOk P w K mg base CX0 1 fI fd ["self", "given"] (spE C ["given"]) := by
  refine F.ok sc4 lenE (fun cdv A outer s H vs Q E hr h => ?_)
  obtain ⟨a, v, rfl, ha, k⟩ := rd1 T h
  exact ⟨_, PSs.nox (pss_cons (ps_expr (pe_seinit TS rfl (pa_cons (pv 0) (pa_cons pe_str pa_nil)))) (pss_one (ps_ost (pv 0) (pv 1)))), _, rfl, a, C, _, rfl, (by decide), T.oex, ha, _, rfl, _, rfl, a, C, rfl, T.oex, T.nf _ List.mem_cons_self, .inl ⟨ha, k⟩⟩
theorem sc5 : FnScope ["self", "given"] ["self", "given"] (defScope (sI 7)) := ⟨rfl, rfl, rfl, by decide +kernel, rfl, by decide +kernel, by decide +kernel⟩
theorem ok5 (T : ErrC K S C fI ["given"]) (TS : SayC K mg S) (F : FunD K "__init__" "InvalidFees.__init__" (defArgs (sI 7)) (defBody (sI 7)) (defScope (sI 7)) [] [] fI fd) : FnOk P w K mg base CX0 1 fI fd ["self", "given"] (spE C ["given"]) := by
  refine F.ok sc5 lenE (fun cdv A outer s H vs Q E hr h => ?_)
  obtain ⟨a, v, rfl, ha, k⟩ := rd1 T h
  exact ⟨_, PSs.nox (pss_cons (ps_expr (pe_seinit TS rfl (pa_cons (pv 0) (pa_cons pe_str pa_nil)))) (pss_one (ps_ost (pv 0) (pv 1)))), _, rfl, a, C, _, rfl, (by decide), T.oex, ha, _, rfl, _, rfl, a, C, rfl, T.oex, T.nf _ List.mem_cons_self, .inl ⟨ha, k⟩⟩
theorem sc6 : FnScope ["self", "given"] ["self", "given"] (defScope (sI 8)) := ⟨rfl, rfl, rfl, by decide +kernel, rfl, by decide +kernel, by decide +kernel⟩
theorem ok6 (T : ErrC K S C fI ["given"]) (TS : SayC K mg S) (F : FunD K "__init__" "InvalidFilling.__init__" (defArgs (sI 8)) (defBody (sI 8)) (defScope (sI 8)) [] [] fI fd) : FnOk P w K mg base CX0 1 fI fd ["self", "given"] (spE C ["given"]) := by
  refine F.ok sc6 lenE (fun cdv A outer s H vs Q E hr h => ?_)
  obtain ⟨a, v, rfl, ha, k⟩ := rd1 T h
  exact ⟨_, PSs.nox (pss_cons (ps_expr (pe_seinit TS rfl (pa_cons (pv 0) (pa_cons pe_str pa_nil)))) (pss_one (ps_ost (pv 0) (pv 1)))), _, rfl, a, C, _, rfl, (by decide), T.oex, ha, _, rfl, _, rfl, a, C, rfl, T.oex, T.nf _ List.mem_cons_self, .inl ⟨ha, k⟩⟩
theorem sc7 : FnScope ["self", "given"] ["self", "given"] (defScope (sI 9)) := ⟨rfl, rfl, rfl, by decide +kernel, rfl, by decide +kernel, by decide +kernel⟩
theorem ok7 (T : ErrC K S C fI ["given"]) (TS : SayC K mg S) (F : FunD K "__init__" "InvalidForm.__init__" (defArgs (sI 9)) (defBody (sI 9)) (defScope (sI 9)) [] [] fI fd) : FnOk P w K mg base CX0 1 fI fd ["self", "given"] (spE C ["given"]) := by
  refine F.ok sc7 lenE (fun cdv A outer s H vs Q E hr h => ?_)
  obtain ⟨a, v, rfl, ha, k⟩ := rd1 T h
  exact ⟨_, PSs.nox (pss_cons (ps_expr (pe_seinit TS rfl (pa_cons (pv 0) (pa_cons pe_str pa_nil)))) (pss_one (ps_ost (pv 0) (pv 1)))), _, rfl, a, C, _, rfl, (by decide), T.oex, ha, _, rfl, _, rfl, a, C, rfl, T.oex, T.nf _ List.mem_cons_self, .inl ⟨ha, k⟩⟩
theorem sc8 : FnScope ["self", "given"] ["self", "given"] (defScope (sI 10)) := ⟨rfl, rfl, rfl, by decide +kernel, rfl, by decide +kernel, by decide +kernel⟩
theorem ok8 (T : ErrC K S C fI ["given"]) (TS : SayC K mg S) (F : FunD K "__init__" "InvalidIndex.__init__" (defArgs (sI 10)) (defBody (sI 10)) (defScope (sI 10)) [] [] fI fd) : FnOk P w K mg base CX0 1 fI fd ["self", "given"] (spE C ["given"]) := by
  refine F.ok sc8 lenE (fun cdv A outer s H vs Q E hr h => ?_)
  obtain ⟨a, v, rfl, ha, k⟩ := rd1 T h
  exact ⟨_, PSs.nox (pss_cons (ps_expr (pe_seinit TS rfl (pa_cons (pv 0) (pa_cons pe_str pa_nil)))) (pss_one (ps_ost (pv 0) (pv 1)))), _, rfl, a, C, _, rfl, (by decide), T.oex, ha, _, rfl, _, rfl, a, C, rfl, T.oex, T.nf _ List.mem_cons_self, .inl ⟨ha, k⟩⟩
theorem sc9 : FnScope ["self", "given"] ["self", "given"] (defScope (sI 11)) := ⟨rfl, rfl, rfl, by decide +kernel, rfl, by decide +kernel, by decide +kernel⟩
theorem ok9 (T : ErrC K S C fI ["given"]) (TS : SayC K mg S) (F : FunD K "__init__" "InvalidLines.__init__" (defArgs (sI 11)) (defBody (sI 11)) (defScope (sI 11)) [] [] fI fd) : FnOk P w K mg base CX0 1 fI fd ["self", "given"] (spE C ["given"]) := by
  refine F.ok sc9 lenE (fun cdv A outer s H vs Q E hr h => ?_)
  obtain ⟨a, v, rfl, ha, k⟩ := rd1 T h
  exact ⟨_, PSs.nox (pss_cons (ps_expr (pe_seinit TS rfl (pa_cons (pv 0) (pa_cons pe_str pa_nil)))) (pss_one (ps_ost (pv 0) (pv 1)))), _, rfl, a, C, _, rfl, (by decide), T.oex, ha, _, rfl, _, rfl, a, C, rfl, T.oex, T.nf _ List.mem_cons_self, .inl ⟨ha, k⟩⟩
theorem sc10 : FnScope ["self", "given"] ["self", "given"] (defScope (sI 12)) := ⟨rfl, rfl, rfl, by decide +kernel, rfl, by decide +kernel, by decide +kernel⟩
theorem ok10 (T : ErrC K S C fI ["given"]) (TS : SayC K mg S) (F : FunD K "__init__" "InvalidLot.__init__" (defArgs (sI 12)) (defBody (sI 12)) (defScope (sI 12)) [] [] fI fd) : FnOk P w K mg base CX0 1 fI fd ["self", "given"] (spE C ["given"]) := by
  refine F.ok sc10 lenE (fun cdv A outer s H vs Q E hr h => ?_)
  obtain ⟨a, v, rfl, ha, k⟩ := rd1 T h
  exact ⟨_, PSs.nox (pss_cons (ps_expr (pe_seinit TS rfl (pa_cons (pv 0) (pa_cons pe_str pa_nil)))) (pss_one (ps_ost (pv 0) (pv 1)))), _, rfl, a, C, _, rfl, (by decide), T.oex, ha, _, rfl, _, rfl, a, C, rfl, T.oex, T.nf _ List.mem_cons_self, .inl ⟨ha, k⟩⟩
theorem sc11 : FnScope ["self", "given"] ["self", "given"] (defScope (sI 13)) := ⟨rfl, rfl, rfl, by decide +kernel, rfl, by decide +kernel, by decide +kernel⟩
theorem ok11 (T : ErrC K S C fI ["given"]) (TS : SayC K mg S) (F : FunD K "__init__" "InvalidMachine.__init__" (defArgs (sI 13)) (defBody (sI 13)) (defScope (sI 13)) [] [] fI fd) : FnOk P w K mg base CX0 1 fI fd ["self", "given"] (spE C ["given"]) := by
  refine F.ok sc11 lenE (fun cdv A outer s H vs Q E hr h => ?_)
  obtain ⟨a, v, rfl, ha, k⟩ := rd1 T h
  exact ⟨_, PSs.nox (pss_cons (ps_expr (pe_seinit TS rfl (pa_cons (pv 0) (pa_cons pe_str pa_nil)))) (pss_one (ps_ost (pv 0) (pv 1)))), _, rfl, a, C, _, rfl, (by decide), T.oex, ha, _, rfl, _, rfl, a, C, rfl, T.oex, T.nf _ List.mem_cons_self, .inl ⟨ha, k⟩⟩
theorem sc12 : FnScope ["self", "given"] ["self", "given"] (defScope (sI 14)) := ⟨rfl, rfl, rfl, by decide +kernel, rfl, by decide +kernel, by decide +kernel⟩
theorem ok12 (T : ErrC K S C fI ["given"]) (TS : SayC K mg S) (F : FunD K "__init__" "InvalidMost.__init__" (defArgs (sI 14)) (defBody (sI 14)) (defScope (sI 14)) [] [] fI fd) : FnOk P w K mg base CX0 1 fI fd ["self", "given"] (spE C ["given"]) := by
  refine F.ok sc12 lenE (fun cdv A outer s H vs Q E hr h => ?_)
  obtain ⟨a, v, rfl, ha, k⟩ := rd1 T h
  exact ⟨_, PSs.nox (pss_cons (ps_expr (pe_seinit TS rfl (pa_cons (pv 0) (pa_cons pe_str pa_nil)))) (pss_one (ps_ost (pv 0) (pv 1)))), _, rfl, a, C, _, rfl, (by decide), T.oex, ha, _, rfl, _, rfl, a, C, rfl, T.oex, T.nf _ List.mem_cons_self, .inl ⟨ha, k⟩⟩
theorem sc13 : FnScope ["self", "given"] ["self", "given"] (defScope (sI 15)) := ⟨rfl, rfl, rfl, by decide +kernel, rfl, by decide +kernel, by decide +kernel⟩
theorem ok13 (T : ErrC K S C fI ["given"]) (TS : SayC K mg S) (F : FunD K "__init__" "InvalidName.__init__" (defArgs (sI 15)) (defBody (sI 15)) (defScope (sI 15)) [] [] fI fd) : FnOk P w K mg base CX0 1 fI fd ["self", "given"] (spE C ["given"]) := by
  refine F.ok sc13 lenE (fun cdv A outer s H vs Q E hr h => ?_)
  obtain ⟨a, v, rfl, ha, k⟩ := rd1 T h
  exact ⟨_, PSs.nox (pss_cons (ps_expr (pe_seinit TS rfl (pa_cons (pv 0) (pa_cons pe_str pa_nil)))) (pss_one (ps_ost (pv 0) (pv 1)))), _, rfl, a, C, _, rfl, (by decide), T.oex, ha, _, rfl, _, rfl, a, C, rfl, T.oex, T.nf _ List.mem_cons_self, .inl ⟨ha, k⟩⟩
theorem sc14 : FnScope ["self", "given"] ["self", "given"] (defScope (sI 16)) := ⟨rfl, rfl, rfl, by decide +kernel, rfl, by decide +kernel, by decide +kernel⟩
theorem ok14 (T : ErrC K S C fI ["given"]) (TS : SayC K mg S) (F : FunD K "__init__" "InvalidNumber.__init__" (defArgs (sI 16)) (defBody (sI 16)) (defScope (sI 16)) [] [] fI fd) : FnOk P w K mg base CX0 1 fI fd ["self", "given"] (spE C ["given"]) := by
  refine F.ok sc14 lenE (fun cdv A outer s H vs Q E hr h => ?_)
  obtain ⟨a, v, rfl, ha, k⟩ := rd1 T h
  exact ⟨_, PSs.nox (pss_cons (ps_expr (pe_seinit TS rfl (pa_cons (pv 0) (pa_cons pe_str pa_nil)))) (pss_one (ps_ost (pv 0) (pv 1)))), _, rfl, a, C, _, rfl, (by decide), T.oex, ha, _, rfl, _, rfl, a, C, rfl, T.oex, T.nf _ List.mem_cons_self, .inl ⟨ha, k⟩⟩
theorem sc15 : FnScope ["self", "given"] ["self", "given"] (defScope (sI 17)) := ⟨rfl, rfl, rfl, by decide +kernel, rfl, by decide +kernel, by decide +kernel⟩
theorem ok15 (T : ErrC K S C fI ["given"]) (TS : SayC K mg S) (F : FunD K "__init__" "InvalidNumbers.__init__" (defArgs (sI 17)) (defBody (sI 17)) (defScope (sI 17)) [] [] fI fd) : FnOk P w K mg base CX0 1 fI fd ["self", "given"] (spE C ["given"]) := by
  refine F.ok sc15 lenE (fun cdv A outer s H vs Q E hr h => ?_)
  obtain ⟨a, v, rfl, ha, k⟩ := rd1 T h
  exact ⟨_, PSs.nox (pss_cons (ps_expr (pe_seinit TS rfl (pa_cons (pv 0) (pa_cons pe_str pa_nil)))) (pss_one (ps_ost (pv 0) (pv 1)))), _, rfl, a, C, _, rfl, (by decide), T.oex, ha, _, rfl, _, rfl, a, C, rfl, T.oex, T.nf _ List.mem_cons_self, .inl ⟨ha, k⟩⟩
theorem sc16 : FnScope ["self", "given"] ["self", "given"] (defScope (sI 18)) := ⟨rfl, rfl, rfl, by decide +kernel, rfl, by decide +kernel, by decide +kernel⟩
theorem ok16 (T : ErrC K S C fI ["given"]) (TS : SayC K mg S) (F : FunD K "__init__" "InvalidOther.__init__" (defArgs (sI 18)) (defBody (sI 18)) (defScope (sI 18)) [] [] fI fd) : FnOk P w K mg base CX0 1 fI fd ["self", "given"] (spE C ["given"]) := by
  refine F.ok sc16 lenE (fun cdv A outer s H vs Q E hr h => ?_)
  obtain ⟨a, v, rfl, ha, k⟩ := rd1 T h
  exact ⟨_, PSs.nox (pss_cons (ps_expr (pe_seinit TS rfl (pa_cons (pv 0) (pa_cons pe_str pa_nil)))) (pss_one (ps_ost (pv 0) (pv 1)))), _, rfl, a, C, _, rfl, (by decide), T.oex, ha, _, rfl, _, rfl, a, C, rfl, T.oex, T.nf _ List.mem_cons_self, .inl ⟨ha, k⟩⟩
theorem sc17 : FnScope ["self", "given"] ["self", "given"] (defScope (sI 19)) := ⟨rfl, rfl, rfl, by decide +kernel, rfl, by decide +kernel, by decide +kernel⟩
theorem ok17 (T : ErrC K S C fI ["given"]) (TS : SayC K mg S) (F : FunD K "__init__" "InvalidPaper.__init__" (defArgs (sI 19)) (defBody (sI 19)) (defScope (sI 19)) [] [] fI fd) : FnOk P w K mg base CX0 1 fI fd ["self", "given"] (spE C ["given"]) := by
  refine F.ok sc17 lenE (fun cdv A outer s H vs Q E hr h => ?_)
  obtain ⟨a, v, rfl, ha, k⟩ := rd1 T h
  exact ⟨_, PSs.nox (pss_cons (ps_expr (pe_seinit TS rfl (pa_cons (pv 0) (pa_cons pe_str pa_nil)))) (pss_one (ps_ost (pv 0) (pv 1)))), _, rfl, a, C, _, rfl, (by decide), T.oex, ha, _, rfl, _, rfl, a, C, rfl, T.oex, T.nf _ List.mem_cons_self, .inl ⟨ha, k⟩⟩
theorem sc18 : FnScope ["self", "given"] ["self", "given"] (defScope (sI 20)) := ⟨rfl, rfl, rfl, by decide +kernel, rfl, by decide +kernel, by decide +kernel⟩
theorem ok18 (T : ErrC K S C fI ["given"]) (TS : SayC K mg S) (F : FunD K "__init__" "InvalidPart.__init__" (defArgs (sI 20)) (defBody (sI 20)) (defScope (sI 20)) [] [] fI fd) : FnOk P w K mg base CX0 1 fI fd ["self", "given"] (spE C ["given"]) := by
  refine F.ok sc18 lenE (fun cdv A outer s H vs Q E hr h => ?_)
  obtain ⟨a, v, rfl, ha, k⟩ := rd1 T h
  exact ⟨_, PSs.nox (pss_cons (ps_expr (pe_seinit TS rfl (pa_cons (pv 0) (pa_cons pe_str pa_nil)))) (pss_one (ps_ost (pv 0) (pv 1)))), _, rfl, a, C, _, rfl, (by decide), T.oex, ha, _, rfl, _, rfl, a, C, rfl, T.oex, T.nf _ List.mem_cons_self, .inl ⟨ha, k⟩⟩
theorem sc19 : FnScope ["self", "given"] ["self", "given"] (defScope (sI 21)) := ⟨rfl, rfl, rfl, by decide +kernel, rfl, by decide +kernel, by decide +kernel⟩
theorem ok19 (T : ErrC K S C fI ["given"]) (TS : SayC K mg S) (F : FunD K "__init__" "InvalidPath.__init__" (defArgs (sI 21)) (defBody (sI 21)) (defScope (sI 21)) [] [] fI fd) : FnOk P w K mg base CX0 1 fI fd ["self", "given"] (spE C ["given"]) := by
  refine F.ok sc19 lenE (fun cdv A outer s H vs Q E hr h => ?_)
  obtain ⟨a, v, rfl, ha, k⟩ := rd1 T h
  exact ⟨_, PSs.nox (pss_cons (ps_expr (pe_seinit TS rfl (pa_cons (pv 0) (pa_cons pe_str pa_nil)))) (pss_one (ps_ost (pv 0) (pv 1)))), _, rfl, a, C, _, rfl, (by decide), T.oex, ha, _, rfl, _, rfl, a, C, rfl, T.oex, T.nf _ List.mem_cons_self, .inl ⟨ha, k⟩⟩
theorem sc20 : FnScope ["self", "given"] ["self", "given"] (defScope (sI 22)) := ⟨rfl, rfl, rfl, by decide +kernel, rfl, by decide +kernel, by decide +kernel⟩
theorem ok20 (T : ErrC K S C fI ["given"]) (TS : SayC K mg S) (F : FunD K "__init__" "InvalidPiece.__init__" (defArgs (sI 22)) (defBody (sI 22)) (defScope (sI 22)) [] [] fI fd) : FnOk P w K mg base CX0 1 fI fd ["self", "given"] (spE C ["given"]) := by
  refine F.ok sc20 lenE (fun cdv A outer s H vs Q E hr h => ?_)
  obtain ⟨a, v, rfl, ha, k⟩ := rd1 T h
  exact ⟨_, PSs.nox (pss_cons (ps_expr (pe_seinit TS rfl (pa_cons (pv 0) (pa_cons pe_str pa_nil)))) (pss_one (ps_ost (pv 0) (pv 1)))), _, rfl, a, C, _, rfl, (by decide), T.oex, ha, _, rfl, _, rfl, a, C, rfl, T.oex, T.nf _ List.mem_cons_self, .inl ⟨ha, k⟩⟩
theorem sc21 : FnScope ["self", "given"] ["self", "given"] (defScope (sI 23)) := ⟨rfl, rfl, rfl, by decide +kernel, rfl, by decide +kernel, by decide +kernel⟩
theorem ok21 (T : ErrC K S C fI ["given"]) (TS : SayC K mg S) (F : FunD K "__init__" "InvalidPlace.__init__" (defArgs (sI 23)) (defBody (sI 23)) (defScope (sI 23)) [] [] fI fd) : FnOk P w K mg base CX0 1 fI fd ["self", "given"] (spE C ["given"]) := by
  refine F.ok sc21 lenE (fun cdv A outer s H vs Q E hr h => ?_)
  obtain ⟨a, v, rfl, ha, k⟩ := rd1 T h
  exact ⟨_, PSs.nox (pss_cons (ps_expr (pe_seinit TS rfl (pa_cons (pv 0) (pa_cons pe_str pa_nil)))) (pss_one (ps_ost (pv 0) (pv 1)))), _, rfl, a, C, _, rfl, (by decide), T.oex, ha, _, rfl, _, rfl, a, C, rfl, T.oex, T.nf _ List.mem_cons_self, .inl ⟨ha, k⟩⟩
theorem sc22 : FnScope ["self", "given"] ["self", "given"] (defScope (sI 24)) := ⟨rfl, rfl, rfl, by decide +kernel, rfl, by decide +kernel, by decide +kernel⟩
theorem ok22 (T : ErrC K S C fI ["given"]) (TS : SayC K mg S) (F : FunD K "__init__" "InvalidPlaces.__init__" (defArgs (sI 24)) (defBody (sI 24)) (defScope (sI 24)) [] [] fI fd) : FnOk P w K mg base CX0 1 fI fd ["self", "given"] (spE C ["given"]) := by
  refine F.ok sc22 lenE (fun cdv A outer s H vs Q E hr h => ?_)
  obtain ⟨a, v, rfl, ha, k⟩ := rd1 T h
  exact ⟨_, PSs.nox (pss_cons (ps_expr (pe_seinit TS rfl (pa_cons (pv 0) (pa_cons pe_str pa_nil)))) (pss_one (ps_ost (pv 0) (pv 1)))), _, rfl, a, C, _, rfl, (by decide), T.oex, ha, _, rfl, _, rfl, a, C, rfl, T.oex, T.nf _ List.mem_cons_self, .inl ⟨ha, k⟩⟩
theorem sc23 : FnScope ["self", "given"] ["self", "given"] (defScope (sI 25)) := ⟨rfl, rfl, rfl, by decide +kernel, rfl, by decide +kernel, by decide +kernel⟩
theorem ok23 (T : ErrC K S C fI ["given"]) (TS : SayC K mg S) (F : FunD K "__init__" "InvalidRow.__init__" (defArgs (sI 25)) (defBody (sI 25)) (defScope (sI 25)) [] [] fI fd) : FnOk P w K mg base CX0 1 fI fd ["self", "given"] (spE C ["given"]) := by
  refine F.ok sc23 lenE (fun cdv A outer s H vs Q E hr h => ?_)
  obtain ⟨a, v, rfl, ha, k⟩ := rd1 T h
  exact ⟨_, PSs.nox (pss_cons (ps_expr (pe_seinit TS rfl (pa_cons (pv 0) (pa_cons pe_str pa_nil)))) (pss_one (ps_ost (pv 0) (pv 1)))), _, rfl, a, C, _, rfl, (by decide), T.oex, ha, _, rfl, _, rfl, a, C, rfl, T.oex, T.nf _ List.mem_cons_self, .inl ⟨ha, k⟩⟩
theorem sc24 : FnScope ["self", "given"] ["self", "given"] (defScope (sI 26)) := ⟨rfl, rfl, rfl, by decide +kernel, rfl, by decide +kernel, by decide +kernel⟩
theorem ok24 (T : ErrC K S C fI ["given"]) (TS : SayC K mg S) (F : FunD K "__init__" "InvalidRows.__init__" (defArgs (sI 26)) (defBody (sI 26)) (defScope (sI 26)) [] [] fI fd) : FnOk P w K mg base CX0 1 fI fd ["self", "given"] (spE C ["given"]) := by
  refine F.ok sc24 lenE (fun cdv A outer s H vs Q E hr h => ?_)
  obtain ⟨a, v, rfl, ha, k⟩ := rd1 T h
  exact ⟨_, PSs.nox (pss_cons (ps_expr (pe_seinit TS rfl (pa_cons (pv 0) (pa_cons pe_str pa_nil)))) (pss_one (ps_ost (pv 0) (pv 1)))), _, rfl, a, C, _, rfl, (by decide), T.oex, ha, _, rfl, _, rfl, a, C, rfl, T.oex, T.nf _ List.mem_cons_self, .inl ⟨ha, k⟩⟩
theorem sc25 : FnScope ["self", "given"] ["self", "given"] (defScope (sI 27)) := ⟨rfl, rfl, rfl, by decide +kernel, rfl, by decide +kernel, by decide +kernel⟩
theorem ok25 (T : ErrC K S C fI ["given"]) (TS : SayC K mg S) (F : FunD K "__init__" "InvalidSheet.__init__" (defArgs (sI 27)) (defBody (sI 27)) (defScope (sI 27)) [] [] fI fd) : FnOk P w K mg base CX0 1 fI fd ["self", "given"] (spE C ["given"]) := by
  refine F.ok sc25 lenE (fun cdv A outer s H vs Q E hr h => ?_)
  obtain ⟨a, v, rfl, ha, k⟩ := rd1 T h
  exact ⟨_, PSs.nox (pss_cons (ps_expr (pe_seinit TS rfl (pa_cons (pv 0) (pa_cons pe_str pa_nil)))) (pss_one (ps_ost (pv 0) (pv 1)))), _, rfl, a, C, _, rfl, (by decide), T.oex, ha, _, rfl, _, rfl, a, C, rfl, T.oex, T.nf _ List.mem_cons_self, .inl ⟨ha, k⟩⟩
theorem sc26 : FnScope ["self", "given"] ["self", "given"] (defScope (sI 28)) := ⟨rfl, rfl, rfl, by decide +kernel, rfl, by decide +kernel, by decide +kernel⟩
theorem ok26 (T : ErrC K S C fI ["given"]) (TS : SayC K mg S) (F : FunD K "__init__" "InvalidShelf.__init__" (defArgs (sI 28)) (defBody (sI 28)) (defScope (sI 28)) [] [] fI fd) : FnOk P w K mg base CX0 1 fI fd ["self", "given"] (spE C ["given"]) := by
  refine F.ok sc26 lenE (fun cdv A outer s H vs Q E hr h => ?_)
  obtain ⟨a, v, rfl, ha, k⟩ := rd1 T h
  exact ⟨_, PSs.nox (pss_cons (ps_expr (pe_seinit TS rfl (pa_cons (pv 0) (pa_cons pe_str pa_nil)))) (pss_one (ps_ost (pv 0) (pv 1)))), _, rfl, a, C, _, rfl, (by decide), T.oex, ha, _, rfl, _, rfl, a, C, rfl, T.oex, T.nf _ List.mem_cons_self, .inl ⟨ha, k⟩⟩
theorem sc27 : FnScope ["self", "given"] ["self", "given"] (defScope (sI 29)) := ⟨rfl, rfl, rfl, by decide +kernel, rfl, by decide +kernel, by decide +kernel⟩
theorem ok27 (T : ErrC K S C fI ["given"]) (TS : SayC K mg S) (F : FunD K "__init__" "InvalidStep.__init__" (defArgs (sI 29)) (defBody (sI 29)) (defScope (sI 29)) [] [] fI fd) : FnOk P w K mg base CX0 1 fI fd ["self", "given"] (spE C ["given"]) := by
  refine F.ok sc27 lenE (fun cdv A outer s H vs Q E hr h => ?_)
  obtain ⟨a, v, rfl, ha, k⟩ := rd1 T h
  exact ⟨_, PSs.nox (pss_cons (ps_expr (pe_seinit TS rfl (pa_cons (pv 0) (pa_cons pe_str pa_nil)))) (pss_one (ps_ost (pv 0) (pv 1)))), _, rfl, a, C, _, rfl, (by decide), T.oex, ha, _, rfl, _, rfl, a, C, rfl, T.oex, T.nf _ List.mem_cons_self, .inl ⟨ha, k⟩⟩
theorem sc28 : FnScope ["self", "given"] ["self", "given"] (defScope (sI 30)) := ⟨rfl, rfl, rfl, by decide +kernel, rfl, by decide +kernel, by decide +kernel⟩
theorem ok28 (T : ErrC K S C fI ["given"]) (TS : SayC K mg S) (F : FunD K "__init__" "InvalidSteps.__init__" (defArgs (sI 30)) (defBody (sI 30)) (defScope (sI 30)) [] [] fI fd) : FnOk P w K mg base CX0 1 fI fd ["self", "given"] (spE C ["given"]) := by
  refine F.ok sc28 lenE (fun cdv A outer s H vs Q E hr h => ?_)
  obtain ⟨a, v, rfl, ha, k⟩ := rd1 T h
  exact ⟨_, PSs.nox (pss_cons (ps_expr (pe_seinit TS rfl (pa_cons (pv 0) (pa_cons pe_str pa_nil)))) (pss_one (ps_ost (pv 0) (pv 1)))), _, rfl, a, C, _, rfl, (by decide), T.oex, ha, _, rfl, _, rfl, a, C, rfl, T.oex, T.nf _ List.mem_cons_self, .inl ⟨ha, k⟩⟩
theorem sc29 : FnScope ["self", "given"] ["self", "given"] (defScope (sI 31)) := ⟨rfl, rfl, rfl, by decide +kernel, rfl, by decide +kernel, by decide +kernel⟩
theorem ok29 (T : ErrC K S C fI ["given"]) (TS : SayC K mg S) (F : FunD K "__init__" "InvalidSystem.__init__" (defArgs (sI 31)) (defBody (sI 31)) (defScope (sI 31)) [] [] fI fd) : FnOk P w K mg base CX0 1 fI fd ["self", "given"] (spE C ["given"]) := by
  refine F.ok sc29 lenE (fun cdv A outer s H vs Q E hr h => ?_)
  obtain ⟨a, v, rfl, ha, k⟩ := rd1 T h
  exact ⟨_, PSs.nox (pss_cons (ps_expr (pe_seinit TS rfl (pa_cons (pv 0) (pa_cons pe_str pa_nil)))) (pss_one (ps_ost (pv 0) (pv 1)))), _, rfl, a, C, _, rfl, (by decide), T.oex, ha, _, rfl, _, rfl, a, C, rfl, T.oex, T.nf _ List.mem_cons_self, .inl ⟨ha, k⟩⟩
theorem sc30 : FnScope ["self", "given"] ["self", "given"] (defScope (sI 32)) := ⟨rfl, rfl, rfl, by decide +kernel, rfl, by decide +kernel, by decide +kernel⟩
theorem ok30 (T : ErrC K S C fI ["given"]) (TS : SayC K mg S) (F : FunD K "__init__" "InvalidText.__init__" (defArgs (sI 32)) (defBody (sI 32)) (defScope (sI 32)) [] [] fI fd) : FnOk P w K mg base CX0 1 fI fd ["self", "given"] (spE C ["given"]) := by
  refine F.ok sc30 lenE (fun cdv A outer s H vs Q E hr h => ?_)
  obtain ⟨a, v, rfl, ha, k⟩ := rd1 T h
  exact ⟨_, PSs.nox (pss_cons (ps_expr (pe_seinit TS rfl (pa_cons (pv 0) (pa_cons pe_str pa_nil)))) (pss_one (ps_ost (pv 0) (pv 1)))), _, rfl, a, C, _, rfl, (by decide), T.oex, ha, _, rfl, _, rfl, a, C, rfl, T.oex, T.nf _ List.mem_cons_self, .inl ⟨ha, k⟩⟩
theorem sc31 : FnScope ["self", "given"] ["self", "given"] (defScope (sI 33)) := ⟨rfl, rfl, rfl, by decide +kernel, rfl, by decide +kernel, by decide +kernel⟩
theorem ok31 (T : ErrC K S C fI ["given"]) (TS : SayC K mg S) (F : FunD K "__init__" "InvalidTexts.__init__" (defArgs (sI 33)) (defBody (sI 33)) (defScope (sI 33)) [] [] fI fd) : FnOk P w K mg base CX0 1 fI fd ["self", "given"] (spE C ["given"]) := by
  refine F.ok sc31 lenE (fun cdv A outer s H vs Q E hr h => ?_)
  obtain ⟨a, v, rfl, ha, k⟩ := rd1 T h
  exact ⟨_, PSs.nox (pss_cons (ps_expr (pe_seinit TS rfl (pa_cons (pv 0) (pa_cons pe_str pa_nil)))) (pss_one (ps_ost (pv 0) (pv 1)))), _, rfl, a, C, _, rfl, (by decide), T.oex, ha, _, rfl, _, rfl, a, C, rfl, T.oex, T.nf _ List.mem_cons_self, .inl ⟨ha, k⟩⟩
theorem sc32 : FnScope ["self", "given"] ["self", "given"] (defScope (sI 34)) := ⟨rfl, rfl, rfl, by decide +kernel, rfl, by decide +kernel, by decide +kernel⟩
theorem ok32 (T : ErrC K S C fI ["given"]) (TS : SayC K mg S) (F : FunD K "__init__" "InvalidTold.__init__" (defArgs (sI 34)) (defBody (sI 34)) (defScope (sI 34)) [] [] fI fd) : FnOk P w K mg base CX0 1 fI fd ["self", "given"] (spE C ["given"]) := by
  refine F.ok sc32 lenE (fun cdv A outer s H vs Q E hr h => ?_)
  obtain ⟨a, v, rfl, ha, k⟩ := rd1 T h
  exact ⟨_, PSs.nox (pss_cons (ps_expr (pe_seinit TS rfl (pa_cons (pv 0) (pa_cons pe_str pa_nil)))) (pss_one (ps_ost (pv 0) (pv 1)))), _, rfl, a, C, _, rfl, (by decide), T.oex, ha, _, rfl, _, rfl, a, C, rfl, T.oex, T.nf _ List.mem_cons_self, .inl ⟨ha, k⟩⟩
theorem sc33 : FnScope ["self", "given"] ["self", "given"] (defScope (sI 35)) := ⟨rfl, rfl, rfl, by decide +kernel, rfl, by decide +kernel, by decide +kernel⟩
theorem ok33 (T : ErrC K S C fI ["given"]) (TS : SayC K mg S) (F : FunD K "__init__" "InvalidTop.__init__" (defArgs (sI 35)) (defBody (sI 35)) (defScope (sI 35)) [] [] fI fd) : FnOk P w K mg base CX0 1 fI fd ["self", "given"] (spE C ["given"]) := by
  refine F.ok sc33 lenE (fun cdv A outer s H vs Q E hr h => ?_)
  obtain ⟨a, v, rfl, ha, k⟩ := rd1 T h
  exact ⟨_, PSs.nox (pss_cons (ps_expr (pe_seinit TS rfl (pa_cons (pv 0) (pa_cons pe_str pa_nil)))) (pss_one (ps_ost (pv 0) (pv 1)))), _, rfl, a, C, _, rfl, (by decide), T.oex, ha, _, rfl, _, rfl, a, C, rfl, T.oex, T.nf _ List.mem_cons_self, .inl ⟨ha, k⟩⟩
theorem sc34 : FnScope ["self", "given"] ["self", "given"] (defScope (sI 36)) := ⟨rfl, rfl, rfl, by decide +kernel, rfl, by decide +kernel, by decide +kernel⟩
theorem ok34 (T : ErrC K S C fI ["given"]) (TS : SayC K mg S) (F : FunD K "__init__" "InvalidWiring.__init__" (defArgs (sI 36)) (defBody (sI 36)) (defScope (sI 36)) [] [] fI fd) : FnOk P w K mg base CX0 1 fI fd ["self", "given"] (spE C ["given"]) := by
  refine F.ok sc34 lenE (fun cdv A outer s H vs Q E hr h => ?_)
  obtain ⟨a, v, rfl, ha, k⟩ := rd1 T h
  exact ⟨_, PSs.nox (pss_cons (ps_expr (pe_seinit TS rfl (pa_cons (pv 0) (pa_cons pe_str pa_nil)))) (pss_one (ps_ost (pv 0) (pv 1)))), _, rfl, a, C, _, rfl, (by decide), T.oex, ha, _, rfl, _, rfl, a, C, rfl, T.oex, T.nf _ List.mem_cons_self, .inl ⟨ha, k⟩⟩
theorem sc35 : FnScope ["self", "row"] ["self", "row"] (defScope (sI 38)) := ⟨rfl, rfl, rfl, by decide +kernel, rfl, by decide +kernel, by decide +kernel⟩
theorem ok35 (T : ErrC K S C fI ["row"]) (TS : SayC K mg S) (F : FunD K "__init__" "CanStand.__init__" (defArgs (sI 38)) (defBody (sI 38)) (defScope (sI 38)) [] [] fI fd) : FnOk P w K mg base CX0 1 fI fd ["self", "row"] (spE C ["row"]) := by
  refine F.ok sc35 lenE (fun cdv A outer s H vs Q E hr h => ?_)
  obtain ⟨a, v, rfl, ha, k⟩ := rd1 T h
  exact ⟨_, PSs.nox (pss_cons (ps_expr (pe_seinit TS rfl (pa_cons (pv 0) (pa_cons pe_str pa_nil)))) (pss_one (ps_ost (pv 0) (pv 1)))), _, rfl, a, C, _, rfl, (by decide), T.oex, ha, _, rfl, _, rfl, a, C, rfl, T.oex, T.nf _ List.mem_cons_self, .inl ⟨ha, k⟩⟩
theorem sc36 : FnScope ["self"] ["self"] (defScope (sI 39)) := ⟨rfl, rfl, rfl, by decide +kernel, rfl, by decide +kernel, by decide +kernel⟩
theorem ok36 (T : ErrC K S C fI []) (TS : SayC K mg S) (F : FunD K "__init__" "Gone.__init__" (defArgs (sI 39)) (defBody (sI 39)) (defScope (sI 39)) [] [] fI fd) : FnOk P w K mg base CX0 1 fI fd ["self"] (spE C []) := by
  refine F.ok sc36 lenE (fun cdv A outer s H vs Q E hr h => ?_)
  obtain ⟨a, rfl, ha, k⟩ := rd0 T h
  exact ⟨_, PSs.nox (pss_one (ps_expr (pe_seinit TS rfl (pa_cons (pv 0) (pa_cons pe_str pa_nil))))), _, rfl, a, C, _, rfl, (by decide), T.oex, ha, k⟩
theorem sc37 : FnScope ["self", "line"] ["self", "line"] (defScope (sI 40)) := ⟨rfl, rfl, rfl, by decide +kernel, rfl, by decide +kernel, by decide +kernel⟩
theorem ok37 (T : ErrC K S C fI ["line"]) (TS : SayC K mg S) (F : FunD K "__init__" "HasLine.__init__" (defArgs (sI 40)) (defBody (sI 40)) (defScope (sI 40)) [] [] fI fd) : FnOk P w K mg base CX0 1 fI fd ["self", "line"] (spE C ["line"]) := by
  refine F.ok sc37 lenE (fun cdv A outer s H vs Q E hr h => ?_)
  obtain ⟨a, v, rfl, ha, k⟩ := rd1 T h
  exact ⟨_, PSs.nox (pss_cons (ps_expr (pe_seinit TS rfl (pa_cons (pv 0) (pa_cons pe_str pa_nil)))) (pss_one (ps_ost (pv 0) (pv 1)))), _, rfl, a, C, _, rfl, (by decide), T.oex, ha, _, rfl, _, rfl, a, C, rfl, T.oex, T.nf _ List.mem_cons_self, .inl ⟨ha, k⟩⟩
theorem sc38 : FnScope ["self", "index"] ["self", "index"] (defScope (sI 41)) := ⟨rfl, rfl, rfl, by decide +kernel, rfl, by decide +kernel, by decide +kernel⟩
theorem ok38 (T : ErrC K S C fI ["index"]) (TS : SayC K mg S) (F : FunD K "__init__" "HasOne.__init__" (defArgs (sI 41)) (defBody (sI 41)) (defScope (sI 41)) [] [] fI fd) : FnOk P w K mg base CX0 1 fI fd ["self", "index"] (spE C ["index"]) := by
  refine F.ok sc38 lenE (fun cdv A outer s H vs Q E hr h => ?_)
  obtain ⟨a, v, rfl, ha, k⟩ := rd1 T h
  exact ⟨_, PSs.nox (pss_cons (ps_expr (pe_seinit TS rfl (pa_cons (pv 0) (pa_cons pe_str pa_nil)))) (pss_one (ps_ost (pv 0) (pv 1)))), _, rfl, a, C, _, rfl, (by decide), T.oex, ha, _, rfl, _, rfl, a, C, rfl, T.oex, T.nf _ List.mem_cons_self, .inl ⟨ha, k⟩⟩
theorem sc39 : FnScope ["self", "name"] ["self", "name"] (defScope (sI 42)) := ⟨rfl, rfl, rfl, by decide +kernel, rfl, by decide +kernel, by decide +kernel⟩
theorem ok39 (T : ErrC K S C fI ["name"]) (TS : SayC K mg S) (F : FunD K "__init__" "InUse.__init__" (defArgs (sI 42)) (defBody (sI 42)) (defScope (sI 42)) [] [] fI fd) : FnOk P w K mg base CX0 1 fI fd ["self", "name"] (spE C ["name"]) := by
  refine F.ok sc39 lenE (fun cdv A outer s H vs Q E hr h => ?_)
  obtain ⟨a, v, rfl, ha, k⟩ := rd1 T h
  exact ⟨_, PSs.nox (pss_cons (ps_expr (pe_seinit TS rfl (pa_cons (pv 0) (pa_cons pe_str pa_nil)))) (pss_one (ps_ost (pv 0) (pv 1)))), _, rfl, a, C, _, rfl, (by decide), T.oex, ha, _, rfl, _, rfl, a, C, rfl, T.oex, T.nf _ List.mem_cons_self, .inl ⟨ha, k⟩⟩
theorem sc40 : FnScope ["self", "going", "coming"] ["self", "going", "coming"] (defScope (sI 43)) := ⟨rfl, rfl, rfl, by decide +kernel, rfl, by decide +kernel, by decide +kernel⟩
theorem ok40 (T : ErrC K S C fI ["going", "coming"]) (TS : SayC K mg S) (F : FunD K "__init__" "NoExchange.__init__" (defArgs (sI 43)) (defBody (sI 43)) (defScope (sI 43)) [] [] fI fd) : FnOk P w K mg base CX0 1 fI fd ["self", "going", "coming"] (spE C ["going", "coming"]) := by
  refine F.ok sc40 lenE (fun cdv A outer s H vs Q E hr h => ?_)
  obtain ⟨a, v, u, rfl, ha, k⟩ := rd2 (by decide) T h
  exact ⟨_, PSs.nox (pss_cons (ps_expr (pe_seinit TS rfl (pa_cons (pv 0) (pa_cons pe_str pa_nil)))) (pss_cons (ps_ost (pv 0) (pv 1)) (pss_one (ps_ost (pv 0) (pv 2))))), _, rfl, a, C, _, rfl, (by decide), T.oex, ha, _, rfl, _, rfl, a, C, rfl, T.oex, T.nf _ List.mem_cons_self, .inl ⟨ha, fun dx nd ne =>
    ⟨_, rfl, _, rfl, a, C, rfl, T.oex, T.nf _ (List.mem_cons_of_mem _ List.mem_cons_self), .inr ⟨dx, _, upd_same, (by rw [upd_ne ne, upd_same]), (by show 1 ≤ 900; decide), k dx nd ne⟩⟩⟩⟩
theorem sc41 : FnScope ["self", "index"] ["self", "index"] (defScope (sI 44)) := ⟨rfl, rfl, rfl, by decide +kernel, rfl, by decide +kernel, by decide +kernel⟩
theorem ok41 (T : ErrC K S C fI ["index"]) (TS : SayC K mg S) (F : FunD K "__init__" "NoStep.__init__" (defArgs (sI 44)) (defBody (sI 44)) (defScope (sI 44)) [] [] fI fd) : FnOk P w K mg base CX0 1 fI fd ["self", "index"] (spE C ["index"]) := by
  refine F.ok sc41 lenE (fun cdv A outer s H vs Q E hr h => ?_)
  obtain ⟨a, v, rfl, ha, k⟩ := rd1 T h
  exact ⟨_, PSs.nox (pss_cons (ps_expr (pe_seinit TS rfl (pa_cons (pv 0) (pa_cons pe_str pa_nil)))) (pss_one (ps_ost (pv 0) (pv 1)))), _, rfl, a, C, _, rfl, (by decide), T.oex, ha, _, rfl, _, rfl, a, C, rfl, T.oex, T.nf _ List.mem_cons_self, .inl ⟨ha, k⟩⟩
theorem sc42 : FnScope ["self", "bound"] ["self", "bound"] (defScope (sI 45)) := ⟨rfl, rfl, rfl, by decide +kernel, rfl, by decide +kernel, by decide +kernel⟩
theorem ok42 (T : ErrC K S C fI ["bound"]) (TS : SayC K mg S) (F : FunD K "__init__" "NotHolding.__init__" (defArgs (sI 45)) (defBody (sI 45)) (defScope (sI 45)) [] [] fI fd) : FnOk P w K mg base CX0 1 fI fd ["self", "bound"] (spE C ["bound"]) := by
  refine F.ok sc42 lenE (fun cdv A outer s H vs Q E hr h => ?_)
  obtain ⟨a, v, rfl, ha, k⟩ := rd1 T h
  exact ⟨_, PSs.nox (pss_cons (ps_expr (pe_seinit TS rfl (pa_cons (pv 0) (pa_cons pe_str pa_nil)))) (pss_one (ps_ost (pv 0) (pv 1)))), _, rfl, a, C, _, rfl, (by decide), T.oex, ha, _, rfl, _, rfl, a, C, rfl, T.oex, T.nf _ List.mem_cons_self, .inl ⟨ha, k⟩⟩
theorem sc43 : FnScope ["self", "index"] ["self", "index"] (defScope (sI 46)) := ⟨rfl, rfl, rfl, by decide +kernel, rfl, by decide +kernel, by decide +kernel⟩
theorem ok43 (T : ErrC K S C fI ["index"]) (TS : SayC K mg S) (F : FunD K "__init__" "NotLinear.__init__" (defArgs (sI 46)) (defBody (sI 46)) (defScope (sI 46)) [] [] fI fd) : FnOk P w K mg base CX0 1 fI fd ["self", "index"] (spE C ["index"]) := by
  refine F.ok sc43 lenE (fun cdv A outer s H vs Q E hr h => ?_)
  obtain ⟨a, v, rfl, ha, k⟩ := rd1 T h
  exact ⟨_, PSs.nox (pss_cons (ps_expr (pe_seinit TS rfl (pa_cons (pv 0) (pa_cons pe_str pa_nil)))) (pss_one (ps_ost (pv 0) (pv 1)))), _, rfl, a, C, _, rfl, (by decide), T.oex, ha, _, rfl, _, rfl, a, C, rfl, T.oex, T.nf _ List.mem_cons_self, .inl ⟨ha, k⟩⟩
theorem sc44 : FnScope ["self", "path"] ["self", "path"] (defScope (sI 47)) := ⟨rfl, rfl, rfl, by decide +kernel, rfl, by decide +kernel, by decide +kernel⟩
theorem ok44 (T : ErrC K S C fI ["path"]) (TS : SayC K mg S) (F : FunD K "__init__" "NotThere.__init__" (defArgs (sI 47)) (defBody (sI 47)) (defScope (sI 47)) [] [] fI fd) : FnOk P w K mg base CX0 1 fI fd ["self", "path"] (spE C ["path"]) := by
  refine F.ok sc44 lenE (fun cdv A outer s H vs Q E hr h => ?_)
  obtain ⟨a, v, rfl, ha, k⟩ := rd1 T h
  exact ⟨_, PSs.nox (pss_cons (ps_expr (pe_seinit TS rfl (pa_cons (pv 0) (pa_cons pe_str pa_nil)))) (pss_one (ps_ost (pv 0) (pv 1)))), _, rfl, a, C, _, rfl, (by decide), T.oex, ha, _, rfl, _, rfl, a, C, rfl, T.oex, T.nf _ List.mem_cons_self, .inl ⟨ha, k⟩⟩
theorem sc45 : FnScope ["self"] ["self"] (defScope (sI 48)) := ⟨rfl, rfl, rfl, by decide +kernel, rfl, by decide +kernel, by decide +kernel⟩
theorem ok45 (T : ErrC K S C fI []) (TS : SayC K mg S) (F : FunD K "__init__" "NothingStands.__init__" (defArgs (sI 48)) (defBody (sI 48)) (defScope (sI 48)) [] [] fI fd) : FnOk P w K mg base CX0 1 fI fd ["self"] (spE C []) := by
  refine F.ok sc45 lenE (fun cdv A outer s H vs Q E hr h => ?_)
  obtain ⟨a, rfl, ha, k⟩ := rd0 T h
  exact ⟨_, PSs.nox (pss_one (ps_expr (pe_seinit TS rfl (pa_cons (pv 0) (pa_cons pe_str pa_nil))))), _, rfl, a, C, _, rfl, (by decide), T.oex, ha, k⟩
theorem sc46 : FnScope ["self"] ["self"] (defScope (sI 49)) := ⟨rfl, rfl, rfl, by decide +kernel, rfl, by decide +kernel, by decide +kernel⟩
theorem ok46 (T : ErrC K S C fI []) (TS : SayC K mg S) (F : FunD K "__init__" "NothingToRedo.__init__" (defArgs (sI 49)) (defBody (sI 49)) (defScope (sI 49)) [] [] fI fd) : FnOk P w K mg base CX0 1 fI fd ["self"] (spE C []) := by
  refine F.ok sc46 lenE (fun cdv A outer s H vs Q E hr h => ?_)
  obtain ⟨a, rfl, ha, k⟩ := rd0 T h
  exact ⟨_, PSs.nox (pss_one (ps_expr (pe_seinit TS rfl (pa_cons (pv 0) (pa_cons pe_str pa_nil))))), _, rfl, a, C, _, rfl, (by decide), T.oex, ha, k⟩
theorem sc47 : FnScope ["self"] ["self"] (defScope (sI 50)) := ⟨rfl, rfl, rfl, by decide +kernel, rfl, by decide +kernel, by decide +kernel⟩
theorem ok47 (T : ErrC K S C fI []) (TS : SayC K mg S) (F : FunD K "__init__" "NothingToUndo.__init__" (defArgs (sI 50)) (defBody (sI 50)) (defScope (sI 50)) [] [] fI fd) : FnOk P w K mg base CX0 1 fI fd ["self"] (spE C []) := by
  refine F.ok sc47 lenE (fun cdv A outer s H vs Q E hr h => ?_)
  obtain ⟨a, rfl, ha, k⟩ := rd0 T h
  exact ⟨_, PSs.nox (pss_one (ps_expr (pe_seinit TS rfl (pa_cons (pv 0) (pa_cons pe_str pa_nil))))), _, rfl, a, C, _, rfl, (by decide), T.oex, ha, k⟩
theorem sc48 : FnScope ["self", "count"] ["self", "count"] (defScope (sI 51)) := ⟨rfl, rfl, rfl, by decide +kernel, rfl, by decide +kernel, by decide +kernel⟩
theorem ok48 (T : ErrC K S C fI ["count"]) (TS : SayC K mg S) (F : FunD K "__init__" "TooMany.__init__" (defArgs (sI 51)) (defBody (sI 51)) (defScope (sI 51)) [] [] fI fd) : FnOk P w K mg base CX0 1 fI fd ["self", "count"] (spE C ["count"]) := by
  refine F.ok sc48 lenE (fun cdv A outer s H vs Q E hr h => ?_)
  obtain ⟨a, v, rfl, ha, k⟩ := rd1 T h
  exact ⟨_, PSs.nox (pss_cons (ps_expr (pe_seinit TS rfl (pa_cons (pv 0) (pa_cons pe_str pa_nil)))) (pss_one (ps_ost (pv 0) (pv 1)))), _, rfl, a, C, _, rfl, (by decide), T.oex, ha, _, rfl, _, rfl, a, C, rfl, T.oex, T.nf _ List.mem_cons_self, .inl ⟨ha, k⟩⟩
theorem sc49 : FnScope ["self", "name"] ["self", "name"] (defScope (sI 52)) := ⟨rfl, rfl, rfl, by decide +kernel, rfl, by decide +kernel, by decide +kernel⟩
theorem ok49 (T : ErrC K S C fI ["name"]) (TS : SayC K mg S) (F : FunD K "__init__" "Unfit.__init__" (defArgs (sI 52)) (defBody (sI 52)) (defScope (sI 52)) [] [] fI fd) : FnOk P w K mg base CX0 1 fI fd ["self", "name"] (spE C ["name"]) := by
  refine F.ok sc49 lenE (fun cdv A outer s H vs Q E hr h => ?_)
  obtain ⟨a, v, rfl, ha, k⟩ := rd1 T h
  exact ⟨_, PSs.nox (pss_cons (ps_expr (pe_seinit TS rfl (pa_cons (pv 0) (pa_cons pe_str pa_nil)))) (pss_one (ps_ost (pv 0) (pv 1)))), _, rfl, a, C, _, rfl, (by decide), T.oex, ha, _, rfl, _, rfl, a, C, rfl, T.oex, T.nf _ List.mem_cons_self, .inl ⟨ha, k⟩⟩
theorem sc50 : FnScope ["self"] ["self"] (defScope (sI 53)) := ⟨rfl, rfl, rfl, by decide +kernel, rfl, by decide +kernel, by decide +kernel⟩
theorem ok50 (T : ErrC K S C fI []) (TS : SayC K mg S) (F : FunD K "__init__" "ZeroNumber.__init__" (defArgs (sI 53)) (defBody (sI 53)) (defScope (sI 53)) [] [] fI fd) : FnOk P w K mg base CX0 1 fI fd ["self"] (spE C []) := by
  refine F.ok sc50 lenE (fun cdv A outer s H vs Q E hr h => ?_)
  obtain ⟨a, rfl, ha, k⟩ := rd0 T h
  exact ⟨_, PSs.nox (pss_one (ps_expr (pe_seinit TS rfl (pa_cons (pv 0) (pa_cons pe_str pa_nil))))), _, rfl, a, C, _, rfl, (by decide), T.oex, ha, k⟩
end
end K99

/-! ## E4 -/
set_option Elab.async false
set_option linter.all false
set_option maxRecDepth 100000
set_option maxHeartbeats 4000000
namespace L2
open PySem PySem.Spec PyProof.Rows
/-- an error class by its name: where it stands, its __init__ and how that binds -/
structure ErrM (P : Program) (w : World) (K : PySem.W.Frag) (mg : Str → Option Value) (base : Heap) (S : Addr) (x : Str) (C : Addr) (fl : List Str) : Prop where
  gC : mg x = some (.ref C)
  nS : C ≠ S
  ex : ∃ (fI : Addr) (fd : FuncData), ErrC K S C fI fl ∧ FnOk P w K mg base CX0 1 fI fd ("self" :: fl) (spE C fl) ∧
    (∀ (s : Shared) (v : Value) (us : List Value), us.length = fl.length → BindsTo s fd ⟨v :: us, []⟩ ((("self" : Str) :: fl).zip (v :: us))) ∧
    (∀ (s : Shared) (v : Value) (us : List Value), us.length = fl.length → BindsTo s fd ⟨[v], fl.zip us⟩ ((("self" : Str) :: fl).zip (v :: us))) ∧
    (∀ (s : Shared) (v : Value) (us : List Value), us.length = fl.length → BindsTo s fd ⟨[v], fl.reverse.zip us⟩ ((("self" : Str) :: fl).zip (v :: us.reverse)))
section
variable {X : Cx} {pins : List (Addr × Obj)} {σ : St} {H : Hp} {s : Shared} {Q : VK} {S C fI : Addr} {fl : List Str} {fd : FuncData}
/-- the class is called -/
theorem run_err {us gs : List Value} {kw : List (Str × Value)} {args : List V} (T : ErrC X.K S C fI fl) (F : FnOk X.prog X.w X.K X.mg X.base CX0 1 fI fd ("self" :: fl) (spE C fl)) (hr : Room 2 X.A) (I : Inv X pins σ H s)
    (hus : us.length ≤ sizeLine) (hb : ∀ (s' : Shared) (v : Value), BindsTo s' fd ⟨v :: us, kw⟩ ((("self" : Str) :: fl).zip (v :: gs))) (r : Vals args gs) (hl : args.length = fl.length)
    (h : ∀ a H2, H a = none → Same H H2 → ErrAt H2 a C (fl.zip args) → Q (.ref a) H2) : wpAny (model X.prog X.w) X.A (call (.ref C) us kw) (EP X pins σ Q) X.xe s := by
  obtain ⟨nm, q, N, bs, sn, sub, ab, col, dd, k0, k1, k2, k3, k5, hC⟩ := T.cls
  obtain ⟨hp, g, dr, tk, os⟩ := s
  have hsz : hp.objs.size ≤ hp.objs.size + 1 := Nat.le_succ _
  have hn : H (hp.objs.size + 1) = none := I.hok.fresh hsz
  have kk : ∀ b o, hp.get? b = some o → ((hp.push (PySem.W.kdv_tup us)).push (HandSPX.excO C hp.objs.size)).get? b = some o := fun b o e => Heap.get?_push_of_some _ (Heap.get?_push_of_some _ e)
  have hget : ((hp.push (PySem.W.kdv_tup us)).push (HandSPX.excO C hp.objs.size)).get? (hp.objs.size + 1) = some (HandSPX.excO C hp.objs.size) := by heap_get
  have I2 : Inv X pins σ (upd H (hp.objs.size + 1) (exo (hp.objs.size + 1) C none)) ⟨(hp.push (PySem.W.kdv_tup us)).push (HandSPX.excO C hp.objs.size), g, dr, tk, os⟩ :=
    I.laid (t' := tk) (a := hp.objs.size + 1) (o := exo (hp.objs.size + 1) C none) (h' := (hp.push (PySem.W.kdv_tup us)).push (HandSPX.excO C hp.objs.size)) kk hsz (exo_ok hget)
  have hq : spE C fl (.ref (hp.objs.size + 1) :: args) (upd H (hp.objs.size + 1) (exo (hp.objs.size + 1) C none)) (fun v H2 => v = .non ∧ Q (.ref (hp.objs.size + 1)) H2) E0 :=
    ⟨_, args, rfl, hl, upd_same, fun H' k e => ⟨rfl, h _ H' hn (fun b o z => k b o (ne_of_none z hn) (by rw [upd_ne (ne_of_none z hn)]; exact z)) e⟩⟩
  have r2 : Vals (V.ref (hp.objs.size + 1) :: args) (Value.ref (hp.objs.size + 1) :: gs) := .cons rfl r
  refine wpAny_call (HandSPX.kwCall PySem.F.excBase_ValueError (fun Y => HandSPX.refsVE_contains Y (.ref S :: veT) rfl) (I.kIn _ _ hC) (PySem.W.looks_findIn I.kIn T.ic) (fun self => PySem.W.bind_fn I.kIn self T.tI) hus
    (codeAny_mono (F.run _ X.stack _ _ ⟨Value.ref (hp.objs.size + 1) :: us, kw⟩ (Value.ref (hp.objs.size + 1) :: gs) _ _ E0 (hr.make C us kw) (I2.env0.make C us kw) (hb _ _) r2 hq) fun r s' hq' => ?_))
  cases r with
  | error er => exact hq'.elim
  | ok fl =>
    cases fl with
    | ret u =>
      obtain ⟨v, H3, I3, rv, ev, q3⟩ := I2.after hq'
      subst ev
      exact ⟨rv, ⟨V.ref (hp.objs.size + 1), H3, I3, rfl, q3⟩⟩
    | next => exact False.elim hq'
    | brk => exact False.elim hq'
    | cont => exact False.elim hq'
/-- C(e, ..): a new error -/
def tErr (C : Addr) (fl : List Str) (t : TA) : TE := fun σ H Q => t σ H fun vs H1 => vs.length = fl.length ∧ vs.length ≤ 1000 ∧ ∀ a H2, H1 a = none → Same H1 H2 → ErrAt H2 a C (fl.zip vs) → Q (.ref a) H2
/-- C(k = e, ..), the keywords in order, or the other way round -/
def tErrR (C : Addr) (fl : List Str) (t : TA) : TE := fun σ H Q => t σ H fun vs H1 => vs.length = fl.length ∧ ∀ a H2, H1 a = none → Same H1 H2 → ErrAt H2 a C (fl.zip vs.reverse) → Q (.ref a) H2
variable {x : Str} {p pos : Pos} {e : Expr} {es : List Expr} {kws : List Keyword} {t tk : TA}
theorem pe_err (M : ErrM X.prog X.w X.K X.mg X.base S x C fl) (hr : Room 2 X.A) (hg : Gl X x) (ha : PA X (e :: es) t) (hdb : (x == ("__debug__" : Str)) = false := by decide)
    (he : starEach (e :: es) X.env = (false, eval e X.env) :: starEach es X.env := by rfl) (hpl : (backTo pos (starEach es X.env)).any (·.1) = false := by rfl) : PE X (.Call (.Name x p) (e :: es) [] pos) (tErr C fl t) := by
  refine ⟨fun pins s σ H Q I h => ?_⟩
  obtain ⟨fI, fd, T, F, b, _, _⟩ := M.ex
  refine wpAny_Call_Name_kw (ld_glob I hg M.gC ?_ hdb)
  refine PySem.W.callWith_K (h₀ := X.base) I.ok.mod.kin T.kC (thn (ha.run pos pins s σ H _ I h) fun us s1 ⟨vs, H1, I1, r1, hl, hz, q1⟩ => ⟨I1.kIn, ?_⟩) he hpl
  have l2 : us.length = fl.length := (Paired.length r1).symm.trans hl
  exact run_err (us := us) (gs := us) T F hr I1 (by rw [← Paired.length r1, sizeLine_eq]; omega) (fun s' v => b s' v us l2) r1 hl q1
theorem pe_err0 (M : ErrM X.prog X.w X.K X.mg X.base S x C []) (hr : Room 2 X.A) (hg : Gl X x) (hdb : (x == ("__debug__" : Str)) = false := by decide) : PE X (.Call (.Name x p) [] [] pos) (tErr C [] tNil) := by
  refine ⟨fun pins s σ H Q I h => ?_⟩
  obtain ⟨fI, fd, T, F, b, _, _⟩ := M.ex
  refine wpAny_Call_Name_kw (ld_glob I hg M.gC ?_ hdb)
  refine PySem.W.callWith_KW0 (kws := []) (h₀ := X.base) I.ok.mod.kin T.kC rfl (wpAny_evalAll_nil ⟨I.kIn, ?_⟩) rfl
  exact run_err (us := []) (gs := []) (args := []) T F hr I (Nat.zero_le _) (fun s' v => b s' v [] rfl) .nil rfl h.2.2
theorem pe_errK (M : ErrM X.prog X.w X.K X.mg X.base S x C fl) (hr : Room 2 X.A) (hg : Gl X x) (hkw : PK X kws tk) (hall : (backToKw pos (keywordEach kws X.env)).all (·.1.isSome) = true := by rfl)
    (hks : (backToKw pos (keywordEach kws X.env)).filterMap (·.1) = fl := by rfl) (hdb : (x == ("__debug__" : Str)) = false := by decide)
    (hpl : ((backTo pos (starEach [] X.env)).any (·.1) || (backToKw pos (keywordEach kws X.env)).any (·.1.isNone)) = false := by rfl) : PE X (.Call (.Name x p) [] kws pos) (tErr C fl tk) := by
  refine ⟨fun pins s σ H Q I h => ?_⟩
  obtain ⟨fI, fd, T, F, _, b, _⟩ := M.ex
  refine wpAny_Call_Name_kw (ld_glob I hg M.gC ?_ hdb)
  refine PySem.W.callWith_KW0 (h₀ := X.base) I.ok.mod.kin T.kC hall (thn (hkw.run pos pins s σ H _ I h) fun ws s2 ⟨zs, H2, I2, rz, l1, l2, q2⟩ => ⟨I2.kIn, ?_⟩) hpl
  rw [hks]
  exact run_err (us := []) (gs := ws) T F hr I2 (Nat.zero_le _) (fun s' v => b s' v ws ((Paired.length rz).symm.trans l1)) rz l1 q2
theorem pe_errR (M : ErrM X.prog X.w X.K X.mg X.base S x C fl) (hr : Room 2 X.A) (hg : Gl X x) (hkw : PK X kws tk) (hall : (backToKw pos (keywordEach kws X.env)).all (·.1.isSome) = true := by rfl)
    (hks : (backToKw pos (keywordEach kws X.env)).filterMap (·.1) = fl.reverse := by rfl) (hdb : (x == ("__debug__" : Str)) = false := by decide)
    (hpl : ((backTo pos (starEach [] X.env)).any (·.1) || (backToKw pos (keywordEach kws X.env)).any (·.1.isNone)) = false := by rfl) : PE X (.Call (.Name x p) [] kws pos) (tErrR C fl tk) := by
  refine ⟨fun pins s σ H Q I h => ?_⟩
  obtain ⟨fI, fd, T, F, _, _, b⟩ := M.ex
  refine wpAny_Call_Name_kw (ld_glob I hg M.gC ?_ hdb)
  refine PySem.W.callWith_KW0 (h₀ := X.base) I.ok.mod.kin T.kC hall (thn (hkw.run pos pins s σ H _ I h) fun ws s2 ⟨zs, H2, I2, rz, l1, q2⟩ => ⟨I2.kIn, ?_⟩) hpl
  rw [hks]
  have hv : Vals zs.reverse ws.reverse := vals_rev rz
  exact run_err (us := []) (gs := ws.reverse) T F hr I2 (Nat.zero_le _) (fun s' v => b s' v ws ((Paired.length rz).symm.trans l1)) hv (by rw [List.length_reverse, l1]) q2
where
  vals_rev : ∀ {zs : List V} {ws : List Value}, Vals zs ws → Vals zs.reverse ws.reverse := fun {zs ws} r => by
    induction r with
    | nil => exact .nil
    | cons a b ih =>
      rw [List.reverse_cons, List.reverse_cons]
      exact ih.append (.cons a .nil)
/-- a made error is raised: it is let go, its own dict stays -/
theorem pmk_err {te : TE} (hx : X.ex = []) (he : PE X e te) :
    PMk X e (fun σ H Q => te σ H fun x H1 => ∃ (a S C fI : Addr) (fl : List Str) (od : Option Addr), x = .ref a ∧ ErrC X.K S C fI fl ∧ H1 a = some (exo a C od) ∧ Fr0 X.H_0 a ∧ Q (.ref C) od (delH H1 a)) := by
  intro pins s σ H Q I h
  refine wpAny_mono (he.run pins s σ H _ I h) (fun u s1 hu => ?_) fun _ _ x => x
  obtain ⟨v, H1, I1, r1, a, S, C, fI, fl, od, rfl, T, ha, h0, q⟩ := hu
  obtain rfl : u = Value.ref a := r1
  obtain ⟨t1, ho⟩ := exo_at I1.hok ha
  obtain ⟨G, gs, ga, J⟩ := I1.untrack ha h0 hx
  exact ⟨a, _, _, { s1 with heap := G }, delH H1 a, .ref C, od, rfl, J, gs, ga, ho, ⟨rfl, rfl⟩, rfl, rfl, delH_same, rfl, I1.bare, raises_own T.exC T.tyC, q⟩
end
end L2

/-! ## E5 -/
set_option Elab.async false
set_option linter.all false
set_option maxRecDepth 100000
set_option maxHeartbeats 4000000
namespace L2
open PySem PySem.Spec PyProof.Rows
section
variable {X : Cx} {pins : List (Addr × Obj)} {σ : St} {H : Hp} {s : Shared} {a : Addr} {cls : Value} {d : Option Addr} {oe : Obj} {vs : Array Value}
/-- an error that is new since the entry is told of in the abstract heap -/
theorem Inv.track (I : Inv X pins σ H s) (ha : s.heap.get? a = some oe) (z : Zc cls d oe) (hd : oe.data = .fields vs) (na : H a = none) (n0 : X.s_0.heap.get? a = none) (nL : a ≠ X.env.locals) (np : ∀ p ∈ X.pn ++ pins, p.1 ≠ a) :
    Inv X pins σ (upd H a (xob a cls d)) s := by
  have old : ∀ {b : Addr} {o : HO}, H b = some o → b ≠ a := fun {b o} e q => by
    rw [q, na] at e
    cases e
  have was : ∀ {b : Addr} {o : Obj}, X.s_0.heap.get? b = some o → b ≠ a := fun {b o} e q => by
    rw [q, n0] at e
    cases e
  exact {
    ok := I.ok
    os := I.os
    bare := I.bare
    base := {
      keep := I.base.keep
      slot := I.base.slot
      free := fun b o e n hx => by rw [upd_ne (was e)]; exact I.base.free b o e n hx
      there := I.base.there
      tups := fun b xs e => by
        have q := I.base.tups b xs e
        rw [upd_ne (old q)]
        exact q
      frzs := fun b o u e => by
        have q := I.base.frzs b o u e
        rw [upd_ne (old q)]
        exact q
      tbls := fun b ps e => by
        obtain ⟨m, q⟩ := I.base.tbls b ps e
        exact ⟨m, by rw [upd_ne (old q)]; exact q⟩ }
    loc := I.loc
    cell := I.cell
    free := by rw [upd_ne nL.symm]; exact I.free
    freeC := fun x c e => by
      have nc : c ≠ a := fun q => by
        obtain ⟨v, o, ho, hc⟩ := I.cell x c e
        rw [q, ha] at ho
        cases ho
        rw [hd] at hc
        cases hc
      rw [upd_ne nc]
      exact I.freeC x c e
    pin := fun p hp => by
      obtain ⟨e, n, ne, nf, q⟩ := I.pin p hp
      exact ⟨e, by rw [upd_ne (np p hp)]; exact n, ne, nf, q⟩
    hok := fun b o e => by
      by_cases hb : b = a
      · subst hb
        rw [upd_same] at e
        cases e
        exact xob_ok ha z hd
      · rw [upd_ne hb] at e
        exact (I.hok b o e).stay (fun _ _ _ q => q) (fun c q => by rw [upd_ne (old q)]; exact q) fun c xs q => by rw [upd_ne (old q)]; exact q
    len := I.len }
theorem Inv.toSuite (I : Inv X pins σ H s) (a : Addr) : Inv (X.suite a (X.pn ++ pins)) [] σ H s :=
  ⟨I.ok.suite _ _, I.os, I.bare, I.base, I.loc, I.cell, I.free, I.freeC, fun p hp => I.pin p (by rw [List.append_nil] at hp; exact hp), I.hok, I.len⟩
theorem Inv.offSuite {a : Addr} (I : Inv (X.suite a (X.pn ++ pins)) [] σ H s) (ok : X.Ok) : Inv X pins σ H s :=
  ⟨ok, I.os, I.bare, I.base, I.loc, I.cell, I.free, I.freeC, fun p hp => I.pin p (List.mem_append_left _ hp), I.hok, I.len⟩
end
/-- what 'except x as n: suite' wishes of an error of the body that it takes: it is told of in the heap, behind the suite too -/
def wTrk (K : PySem.W.Frag) (c : Value) (i : Nat) (ts : TS) (D : Ends) : WX := fun cls d σ H => PySem.W.exmOne K cls c = some true ∧ ∀ a, H a = none →
  ts { nx := fun σ' H' => D.nx (σ'.set i none) H', rt := D.rt, bk := fun σ' H' => D.bk (σ'.set i none) H', ct := fun σ' H' => D.ct (σ'.set i none) H' } (σ.set i (some (.ref a))) (upd H a (xob a cls d))
section
variable {X : Cx} {x n : Str} {c : Value} {i : Nat} {body suite : List Stmt} {b₀ : Stmt} {np pos pos' : Pos} {tb : WX → TS} {ts : TS}
theorem ps_try_trk (hs : X.stack = X.env :: X.outer) (hf : X.env.frame = some X.env.locals) (hex : X.ex = []) (hN : X.N.Nodup) (hi : X.N[i]? = some n) (hln : X.env.kindOf n = some .local) (hc : Names X x c)
    (hb : ∀ (W : WX) (pn : List (Addr × Obj)) (xe : Value → Shared → Prop), Takes (X.tr pn xe) W → PassesOwn (model X.prog X.w) X.A X.env xe → PSs (X.tr pn xe) body (tb W))
    (hsu : ∀ (a : Addr) (pn : List (Addr × Obj)), PSs (X.suite a pn) (b₀ :: suite) ts) :
    PS X (.Try body [.ExceptHandler (some (.Name x np)) (some n) (b₀ :: suite) pos'] [] [] pos) (fun D σ H => tb (wTrk X.K c i ts D) D σ H) := by
  refine ⟨fun pins s σ H D I h => ?_⟩
  have ok := I.ok
  have hfr : X.A.frames = some (X.env :: X.outer) := by rw [ok.frames, hs]
  refine wpAny_Try_except ?_
  refine wpAny_mono ((hb (wTrk X.K c i ts D) (X.pn ++ pins) (fun e s₁ => wpAny (model X.prog X.w) X.A (noteFrame e X.env) (fun _ s₂ => wpAny (model X.prog X.w) X.A (setFlight e none) (fun _ s₃ =>
    wpAny (model X.prog X.w) X.A (handleBy e X.env [.ExceptHandler (some (.Name x np)) (some n) (b₀ :: suite) pos']) (SP X pins D) X.xe s₃) X.xe s₂) X.xe s₁) (fun u s' xx => ?_) PassesOwn.looking).run [] s σ H D (I.toTry _) h) (fun f s1 hsp => ?_) (fun e s1 he => he)
  · obtain ⟨a, B, sI, pins', σ', H', cls, d, rfl, J', nb, up, sky, na, os, ag, hx, hyes⟩ := xx
    have J : Inv X pins σ' H' sI := J'.ofTry ok
    rw [show (X.tr (X.pn ++ pins) _).stack = X.env :: X.outer from hs] at sky
    show wpAny (model X.prog X.w) X.A (noteFrame (.ref a) X.env) _ _ _
    refine Sky.land Zc.steady hfr hf sky fun h3 fl3 up3 => ?_
    have J3 : Inv X pins σ' H' { s' with heap := h3 } := J.landed nb fl3.1 (up.trans up3) os ag
    obtain ⟨oe3, vs3, he3, hz3, hd3⟩ := fl3.there
    have nfr : a ∉ frs (X.env :: X.outer) := fun hm => by
      obtain ⟨_, o, e, nd⟩ := fl3.2.2.1.mem hm
      rw [he3] at e
      cases e
      exact nd _ hd3
    have nL : a ≠ X.env.locals := fun z => nfr (List.mem_filterMap.mpr ⟨X.env, List.mem_cons_self, by rw [hf, z]⟩)
    have nI : ∀ o, sI.heap.get? a ≠ some o := fun o e => by
      have q := nb a o e (by show a ∉ frs X.stack; rw [hs]; exact nfr)
      rw [fl3.2.1] at q
      cases q
    have n0 : X.s_0.heap.get? a = none := by
      cases e : X.s_0.heap.get? a with
      | none => rfl
      | some o =>
        obtain ⟨o', q⟩ := J.base.there a o e (by rw [hex]; exact fun z => nomatch z)
        exact absurd q (nI o')
    have np' : ∀ p ∈ X.pn ++ pins, p.1 ≠ a := fun p hp q => by
      obtain ⟨e, _⟩ := J.pin p hp
      rw [q] at e
      exact nI _ e
    refine wpAny_handleBy_cons (codeAny_handlers_test ?_) (by intro q; cases q)
    have LT : PySem.W.Looks (model X.prog X.w) h3 (typeOf (.ref a)) cls := fun A Q E s k q => wpAny_typeOf_ref (k _ _ he3) (by rw [hz3.1]; exact q)
    have LM := PySem.W.exm_one (M := model X.prog X.w) (J3.kIn) LT hx
    have S3 := J3.toSuite a
    have test : ∀ {Q : Value → Shared → Prop} {E : Value → Shared → Prop}, Q c { s' with heap := h3 } → wpAny (model X.prog X.w) (X.A.mark (some (.ref a))) (eval (.Name x np) X.env) Q E { s' with heap := h3 } := fun {Q E} q => by
      obtain ⟨hg, hdbg, hm | ⟨hm, hv, hnn⟩⟩ := hc
      · exact ld_glob (X := X.suite a (X.pn ++ pins)) S3 hg hm q hdbg
      · exact ld_blt (X := X.suite a (X.pn ++ pins)) S3 hg hm hv q hnn hdbg
    refine test (LM.here ?_)
    refine codeAny_handlers_suite_as ?_
    refine HandSPX.lands_againZ fl3 fun h4 fl4 up4 => ?_
    have J4 : Inv X pins σ' H' { s' with heap := h4 } := J.landed nb fl4.1 ((up.trans up3).trans up4) os ag
    obtain ⟨oe4, vs4, he4, hz4, hd4⟩ := fl4.there
    have S4 := (J4.track he4 hz4 hd4 na n0 nL np').toSuite a
    refine store_ok (X := X.suite a (X.pn ++ pins)) (v := .ref a) S4 hN hi (.inl hln) rfl (fun s5 S5 => ?_) (.inr hln)
    refine wpAny_mono ((hsu a (X.pn ++ pins)).run [] s5 _ _ _ S5 (hyes a na)) (fun f s6 hsp => ?_) (fun _ _ z => False.elim z)
    have fin : ∀ {σ6 : St} {H6 : Hp} {Q : Shared → Prop}, Inv (X.suite a (X.pn ++ pins)) [] σ6 H6 s6 → (∀ s7, Inv X pins (σ6.set i none) H6 s7 → Q s7) →
        wpAny (model X.prog X.w) X.A (do bindName X.env n .none; unbindBehindTheSuite X.env n pos') (fun _ s7 => Q s7) X.xe s6 := fun {σ6 H6 Q} S6 hq => gone_ok (S6.offSuite ok) hN hi hln hq
    cases f with
    | ret u =>
      obtain ⟨v6, σ6, H6, S6, r6, q6⟩ := hsp
      exact fin S6 fun s7 J7 => ⟨_, _, _, J7, r6, q6⟩
    | next =>
      obtain ⟨σ6, H6, S6, q6⟩ := hsp
      exact fin S6 fun s7 J7 => ⟨_, _, J7, q6⟩
    | brk =>
      obtain ⟨σ6, H6, S6, q6⟩ := hsp
      exact fin S6 fun s7 J7 => ⟨_, _, J7, q6⟩
    | cont =>
      obtain ⟨σ6, H6, S6, q6⟩ := hsp
      exact fin S6 fun s7 J7 => ⟨_, _, J7, q6⟩
  · cases f with
    | ret u =>
      obtain ⟨v, σ', H', J', r, q⟩ := hsp
      exact ⟨v, σ', H', J'.ofTry ok, r, q⟩
    | next =>
      obtain ⟨σ', H', J', q⟩ := hsp
      exact wpAny_execs_nil ⟨σ', H', J'.ofTry ok, q⟩
    | brk =>
      obtain ⟨σ', H', J', q⟩ := hsp
      exact ⟨σ', H', J'.ofTry ok, q⟩
    | cont =>
      obtain ⟨σ', H', J', q⟩ := hsp
      exact ⟨σ', H', J'.ofTry ok, q⟩
end
end L2

/-! ## D1 -/
set_option Elab.async false
set_option linter.all false
set_option maxRecDepth 100000
set_option maxHeartbeats 4000000
namespace K99
open PySem PySem.Spec PyProof.Rows L2
abbrev FnP (K : PySem.W.Frag) (x : Str) (i : Nat) (f : Addr) (fd : FuncData) : Prop := FunD K x x (defArgs (top i)) (defBody (top i)) (defScope (top i)) [] [] f fd
theorem cut1 (ns : List Int) : cutV (ns.map V.int) none (some 1) = (ns.take 1).map V.int := by
  cases ns with
  | nil => rfl
  | cons x xs => rfl
theorem Same.upd {H : Hp} {p : Addr} {o : HO} (h : H p = none) : Same H (upd H p o) := fun b u e => by
  rw [upd_ne (fun q => by rw [q, h] at e; cases e)]
  exact e
/-! ### the box -/
def BoxOk (n : Nat) (xs : List V) : Prop := ∃ (b0 : Int) (c : Bool) (b2 b3 : Int), xs = [.int b0, .bl c, .int b2, .int b3] ∧ 0 ≤ b2 ∧ b2 < 2147483629 ∧ 0 ≤ b3 ∧ b3 ≤ n
def spCell (K : PySem.W.Frag) : Sp := fun vs H Q _ => ∃ (a : Addr) (ns : List Int) (k : Int), vs = [.ref a, .int k] ∧ SqL K H a (ns.map V.int) ∧ 0 ≤ k ∧ k ≤ 100 ∧ ∀ (v : Int) (H' : Hp), Same H H' → Q (.int v) H'
def spBox : Sp := fun vs H Q _ => ∃ g : Int, vs = [.int g] ∧ ∀ (p : Addr) (xs : List V), H p = none → BoxOk 0 xs → Q (.ref p) (upd H p (.lst xs))
def spTake : Sp := fun vs H Q _ => ∃ (b : Addr) (m : Int) (n : Nat) (xs : List V), vs = [.ref b, .int m] ∧ 0 < m ∧ m ≤ 1000 ∧ H b = some (.lst xs) ∧ BoxOk n xs ∧ n ≤ 10000 ∧
  ∀ (d : Int) (ys : List V), 0 ≤ d → d < m → BoxOk (n + 1) ys → Q (.int d) (upd H b (.lst ys))
section
variable {P : Program} {w : World} {K : PySem.W.Frag} {mg : Str → Option Value} {base : Heap} {f : Addr} {fd : FuncData}
/-- the built-ins that the law uses -/
structure Blt (mg : Str → Option Value) : Prop where
  abs : mg "abs" = none
  int : mg "int" = none
  sum : mg "sum" = none
  len : mg "len" = none
  isi : mg "isinstance" = none
  bool : mg "bool" = none
  str : mg "str" = none
  list : mg "list" = none
  tuple : mg "tuple" = none
  range : mg "range" = none
  max : mg "max" = none
  min : mg "min" = none
  zip : mg "zip" = none
  ve : mg "ValueError" = none
theorem scCell : FnScope ["script", "k"] ["script", "k"] (defScope (top 55)) := ⟨rfl, rfl, rfl, by decide +kernel, rfl, by decide +kernel, by decide +kernel⟩
theorem okCell (B : Blt mg) (F : FnP K "_law_cell" 55 f fd) : FnOk P w K mg base CX0 1 f fd ["script", "k"] (spCell K) := by
  refine F.ok scCell (fun vs H Q E h => ?_) (fun cdv A outer s H vs Q E hr h => ?_)
  · obtain ⟨a, ns, k, rfl, _⟩ := h
    rfl
  · obtain ⟨a, ns, k, rfl, hS, k0, k1, hq⟩ := h
    refine ⟨_, PSs.nox (pss_one (ps_ret (pe_ifExp (pt_cmpR op_lt (pv 1) (pe_callB call_len_seq (by rfl) B.len PySem.boot_len (pa_cons (pv 0) pa_nil)) (nomark _)) (pe_ix ix_list (pv 0) (pv 1) (fun _ _ => rfl))
      (pe_op op_add (pe_op op_mul pe_int (pv 1)) (pe_op op_mod (pe_callTy call_int1 (by rfl) B.int (by rfl) (pa_cons (pe_callB (cr_sum rfl) (by rfl) B.sum (by rfl) (pa_cons (pe_slice sl_list (pv 0) po_none (po_some pe_int)) pa_nil)) pa_nil)) pe_int))))), ?_⟩
    refine ⟨_, rfl, _, rfl, a, _, rfl, .inl hS, _, _, rfl, rfl, _, rfl, ?_⟩
    refine ite2 (fun c => ?_) (fun c => ?_)
    · have c' : k < ((ns.map V.int).length : Int) := of_decide_eq_true c
      rw [List.length_map] at c'
      obtain ⟨z, hz⟩ : ∃ z, ns[k.toNat]? = some z := ⟨_, List.getElem?_eq_getElem (by omega)⟩
      refine ⟨_, rfl, _, rfl, a, _, k, V.int z, rfl, rfl, hS, at_of (j := k.toNat) (by omega) (by rw [List.getElem?_map, hz]; rfl), hq z H (Same.refl H)⟩
    · refine ⟨_, rfl, _, _, rfl, rfl, .inl (by omega), ?_⟩
      refine ⟨_, rfl, _, rfl, a, _, rfl, hS, fun p hp => ?_⟩
      refine ⟨p, ns.take 1, rfl, .inl (.inl ?_), .inl ⟨_, rfl, _, _, rfl, rfl, by omega, _, _, rfl, rfl, hq _ _ (Same.upd hp)⟩⟩
      rw [upd_same, cut1]
theorem scBox : FnScope ["great"] ["great"] (defScope (top 56)) := ⟨rfl, rfl, rfl, by decide +kernel, rfl, by decide +kernel, by decide +kernel⟩
theorem okBox (B : Blt mg) (F : FnP K "_law_box" 56 f fd) : FnOk P w K mg base CX0 1 f fd ["great"] spBox := by
  refine F.ok scBox (fun vs H Q E h => ?_) (fun cdv A outer s H vs Q E hr h => ?_)
  · obtain ⟨a, rfl, _⟩ := h
    rfl
  · obtain ⟨g, rfl, hq⟩ := h
    refine ⟨_, PSs.nox (pss_one (ps_ret (pe_lst (pa_cons (pe_callB call_abs (by rfl) B.abs (by decide +kernel) (pa_cons (pv 0) pa_nil))
      (pa_cons (pe_cmpR op_ge (pe_callB call_abs (by rfl) B.abs (by decide +kernel) (pa_cons (pv 0) pa_nil)) (pe_op op_pow pe_int pe_int) (nomark _))
      (pa_cons (pe_op op_mod (pe_callTy call_int1 (by rfl) B.int (by rfl) (pa_cons (pe_callB call_abs (by rfl) B.abs (by decide +kernel) (pa_cons (pv 0) pa_nil)) pa_nil)) pe_int)
      (pa_cons pe_int pa_nil))))))), ?_⟩
    have hn : (0 : Int) ≤ (if g < 0 then -g else g) := by split <;> omega
    refine ⟨_, rfl, _, rfl, _, rfl, _, rfl, _, _, rfl, rfl, ⟨by decide, by decide, by decide⟩, _, _, rfl, rfl, _, rfl, _, rfl, .inl ⟨_, rfl, _, _, rfl, rfl, (by omega : (0 : Int) < 2147483629), Nat.le_of_ble_eq_true rfl, fun p hp => ?_⟩⟩
    refine hq p _ hp ⟨_, _, _, _, rfl, Int.emod_nonneg _ (by decide), Int.emod_lt_of_pos _ (by decide), Int.le_refl _, Int.le_refl _⟩
theorem scTake : FnScope ["box", "many", "digit", "mixed"] ["box", "many"] (defScope (top 57)) := ⟨rfl, rfl, rfl, by decide +kernel, rfl, by decide +kernel, by decide +kernel⟩
theorem okTake (B : Blt mg) (F : FnP K "_law_take" 57 f fd) : FnOk P w K mg base CX0 1 f fd ["box", "many"] spTake := by
  refine F.ok scTake (fun vs H Q E h => ?_) (fun cdv A outer s H vs Q E hr h => ?_)
  · obtain ⟨a, m, n, xs, rfl, _⟩ := h
    rfl
  · obtain ⟨a, m, n, xs, rfl, m0, m1, hH, hB, hn, hq⟩ := h
    refine ⟨_, PSs.nox (pss_cons (ps_if (PW.pt (pw_and (pt_val (pe_ix ix_list (pv 0) pe_int (fun _ _ => rfl))) (pw_and1 (pt_cmpR op_gt (pe_ix ix_list (pv 0) pe_int (fun _ _ => rfl)) pe_int (nomark _)))))
        (pss_cons (ps_asg (pe_op op_mod (pe_callTy call_int1 (by rfl) B.int (by rfl) (pa_cons (pe_ix ix_list (pv 0) pe_int (fun _ _ => rfl)) pa_nil)) (pv 1)) (pg_name (i := 2) scTake.nd rfl (.inl rfl)))
        (pss_cons (ps_asg (pe_op op_fdiv (pe_ix ix_list (pv 0) pe_int (fun _ _ => rfl)) (pv 1)) (pg_sub (pv 0) pe_int set_list))
        (pss_one (ps_ret (pv 2))))) pss_nil)
      (pss_cons (ps_asg (pe_op op_add (pe_ix ix_list (pv 0) pe_int (fun _ _ => rfl)) pe_int) (pg_sub (pv 0) pe_int set_list))
      (pss_cons (ps_asg (pe_op op_mod (pe_callTy call_int1 (by rfl) B.int (by rfl) (pa_cons (pe_op op_pow (pe_op op_add (pe_op op_add (pe_ix ix_list (pv 0) pe_int (fun _ _ => rfl)) (pe_op op_mul pe_int (pe_ix ix_list (pv 0) pe_int (fun _ _ => rfl)))) pe_int) pe_int) pa_nil)) pe_int) (pg_name (i := 3) scTake.nd rfl (.inl rfl)))
      (pss_one (ps_ret (pe_op op_mod (pe_callTy call_int1 (by rfl) B.int (by rfl) (pa_cons (pe_op op_fdiv (pe_op op_mod (pe_callTy call_int1 (by rfl) B.int (by rfl) (pa_cons (pe_op op_pow (pe_op op_add (pe_op op_mul (pv 3) pe_int) (pe_op op_mul pe_int (pe_ix ix_list (pv 0) pe_int (fun _ _ => rfl)))) pe_int) pa_nil)) pe_int) pe_int) pa_nil)) (pv 1))))))), ?_⟩
    obtain ⟨b0, c, b2, b3, rfl, c1, c2, c3, c4⟩ := hB
    have cp5 : CPow (b2 + 15487667 * (b3 + 1) + 179426279) 5 := ⟨by omega, by omega, by omega⟩
    have els : ∀ (H' : Hp), H' = upd H a (.lst [.int b0, .bl c, .int b2, .int (b3 + 1)]) → ∀ (d : Int), 0 ≤ d → d < m → Q (.int d) H' := fun H' e d d0 d1 => by
      rw [e]
      exact hq d _ d0 d1 ⟨_, _, _, _, rfl, c1, c2, by omega, by omega⟩
    refine ⟨_, rfl, a, _, 1, _, rfl, rfl, .inl (.inl hH), rfl, c, rfl, ?_⟩
    have hU : upd H a (.lst [.int b0, .bl c, .int b2, .int (b3 + 1)]) a = some (.lst [.int b0, .bl c, .int b2, .int (b3 + 1)]) := upd_same
    refine ite2 (fun hc => ?pos) (fun hc => ?neg)
    case pos =>
      refine ⟨_, rfl, a, _, 0, _, rfl, rfl, .inl (.inl hH), rfl, _, _, rfl, rfl, _, rfl, ite2 (fun hd => ?pos2) (fun hd => ?neg2)⟩
      case pos2 =>
        refine ⟨_, rfl, a, _, 0, _, rfl, rfl, .inl (.inl hH), rfl, .inl ⟨_, rfl, _, rfl, _, _, rfl, rfl, m0, ?_⟩⟩
        refine ⟨_, rfl, a, _, 0, _, rfl, rfl, .inl (.inl hH), rfl, _, rfl, _, _, rfl, rfl, ⟨m0, by omega⟩, _, rfl, a, _, 0, 0, rfl, rfl, hH, rfl, _, rfl, ?_⟩
        exact hq _ _ (Int.emod_nonneg _ (by omega)) (Int.emod_lt_of_pos _ m0) ⟨_, _, _, _, rfl, c1, c2, c3, by omega⟩
      case neg2 =>
        refine ⟨_, rfl, a, _, 3, _, rfl, rfl, .inl (.inl hH), rfl, _, _, rfl, rfl, _, rfl, a, _, 3, 3, rfl, rfl, hH, rfl, ?_⟩
        refine ⟨_, rfl, a, _, 2, _, rfl, rfl, .inl (.inl hU), rfl, _, rfl, a, _, 3, _, rfl, rfl, .inl (.inl hU), rfl, _, _, rfl, rfl, .inr ⟨by omega, by omega⟩, _, _, rfl, rfl, _, _, rfl, rfl, _, _, rfl, rfl, cp5, .inl ⟨_, rfl, _, _, rfl, rfl, by omega, ?_⟩⟩
        have x0 := Int.emod_nonneg ((b2 + 15487667 * (b3 + 1) + 179426279) ^ Int.toNat 5) (by decide : (2147483647 : Int) ≠ 0)
        have x1 := Int.emod_lt_of_pos ((b2 + 15487667 * (b3 + 1) + 179426279) ^ Int.toNat 5) (by decide : (0 : Int) < 2147483647)
        generalize (b2 + 15487667 * (b3 + 1) + 179426279) ^ Int.toNat 5 % 2147483647 = mixed at x0 x1 ⊢
        refine ⟨_, rfl, _, _, rfl, rfl, .inr ⟨by omega, by omega⟩, _, rfl, a, _, 3, _, rfl, rfl, .inl (.inl hU), rfl, _, _, rfl, rfl, .inr ⟨by omega, by omega⟩, _, _, rfl, rfl, _, _, rfl, rfl, ⟨by omega, by omega, by omega⟩, .inl ⟨_, rfl, _, _, rfl, rfl, by omega, _, _, rfl, rfl, ⟨by omega, by omega⟩, .inl ⟨_, rfl, _, rfl, _, _, rfl, rfl, m0, ?_⟩⟩⟩
        exact els _ rfl _ (Int.emod_nonneg _ (by omega)) (Int.emod_lt_of_pos _ m0)
    case neg =>
      refine ite2 (fun h => by cases h) (fun _ => ?_)
      refine ⟨_, rfl, a, _, 3, _, rfl, rfl, .inl (.inl hH), rfl, _, _, rfl, rfl, _, rfl, a, _, 3, 3, rfl, rfl, hH, rfl, ?_⟩
      refine ⟨_, rfl, a, _, 2, _, rfl, rfl, .inl (.inl hU), rfl, _, rfl, a, _, 3, _, rfl, rfl, .inl (.inl hU), rfl, _, _, rfl, rfl, .inr ⟨by omega, by omega⟩, _, _, rfl, rfl, _, _, rfl, rfl, _, _, rfl, rfl, cp5, .inl ⟨_, rfl, _, _, rfl, rfl, by omega, ?_⟩⟩
      have x0 := Int.emod_nonneg ((b2 + 15487667 * (b3 + 1) + 179426279) ^ Int.toNat 5) (by decide : (2147483647 : Int) ≠ 0)
      have x1 := Int.emod_lt_of_pos ((b2 + 15487667 * (b3 + 1) + 179426279) ^ Int.toNat 5) (by decide : (0 : Int) < 2147483647)
      generalize (b2 + 15487667 * (b3 + 1) + 179426279) ^ Int.toNat 5 % 2147483647 = mixed at x0 x1 ⊢
      refine ⟨_, rfl, _, _, rfl, rfl, .inr ⟨by omega, by omega⟩, _, rfl, a, _, 3, _, rfl, rfl, .inl (.inl hU), rfl, _, _, rfl, rfl, .inr ⟨by omega, by omega⟩, _, _, rfl, rfl, _, _, rfl, rfl, ⟨by omega, by omega, by omega⟩, .inl ⟨_, rfl, _, _, rfl, rfl, by omega, _, _, rfl, rfl, ⟨by omega, by omega⟩, .inl ⟨_, rfl, _, rfl, _, _, rfl, rfl, m0, ?_⟩⟩⟩
      exact els _ rfl _ (Int.emod_nonneg _ (by omega)) (Int.emod_lt_of_pos _ m0)
end
end K99

/-! ## D2 -/
set_option Elab.async false
set_option linter.all false
set_option maxRecDepth 100000
set_option maxHeartbeats 4000000
namespace K99
open PySem PySem.Spec PyProof.Rows L2
def nm (k : Nat) : Str := (clsL.getD k ("", [])).1
def fl (k : Nat) : List Str := (clsL.getD k ("", [])).2
/-- the 51 classes -/
structure Errs (P : Program) (w : World) (K : PySem.W.Frag) (mg : Str → Option Value) (base : Heap) (S : Addr) (C : Nat → Addr) : Prop where
  m : ∀ k, k < 51 → ErrM P w K mg base S (nm k) (C k) (fl k)
  inj : ∀ i j, i < 51 → j < 51 → C i = C j → i = j
/-- a function of the law, by its name -/
structure Fn (P : Program) (w : World) (K : PySem.W.Frag) (mg : Str → Option Value) (base : Heap) (x : Str) (k : Nat) (ps : List Str) (sp : Sp) : Prop where
  ex : ∃ (f : Addr) (fd : FuncData), FnOk P w K mg base CX0 k f fd ps sp ∧ mg x = some (.ref f) ∧ PySem.W.keepIn K (.ref f) = true ∧ Binds K fd ps []
section
variable {X : Cx} {x : Str} {k : Nat} {ps : List Str} {sp : Sp} {e : Expr} {es : List Expr} {t : TA} {p pos : Pos}
theorem pe_fn (F : Fn X.prog X.w X.K X.mg X.base x k ps sp) (hr : Room k X.A) (hg : Gl X x) (ha : PA X (e :: es) t) (hdb : (x == ("__debug__" : Str)) = false := by decide)
    (he : starEach (e :: es) X.env = (false, eval e X.env) :: starEach es X.env := by rfl) (hpl : (backTo pos (starEach es X.env)).any (·.1) = false := by rfl) : PE X (.Call (.Name x p) (e :: es) [] pos) (tCall sp [] E0 t) := by
  obtain ⟨f, fd, G, hm, kp, b⟩ := F.ex
  exact pe_call G hr hg hm kp b .nil pass0 ha hdb he hpl
theorem pe_cls {P : Program} {w : World} {base : Heap} {S C : Addr} {fs : List Str} {K : PySem.W.Frag} (M : ErrM P w K X.mg base S x C fs) (hg : Gl X x) (hdb : (x == ("__debug__" : Str)) = false := by decide) : PE X (.Name x pos) (tC (.ref C)) :=
  pe_glob (v := .ref C) hg M.gC rfl hdb
end
/-- a number of the law's -/
theorem kEq {k : Nat} {n : Int} (c : decide (V.int (k : Int) = V.int n) = true) : (k : Int) = n := V.int.inj (of_decide_eq_true c)
theorem kNe {k : Nat} {n : Int} (c : ¬ decide (V.int (k : Int) = V.int n) = true) : (k : Int) ≠ n := fun e => c (decide_eq_true (by rw [e]))
/-- the makers -/
def spMade (C : Nat → Addr) (lo : Nat) : Sp := fun vs H Q _ => ∃ (k : Nat) (x y : V) (b : Bool), vs = [.int k, x, y, .bl b] ∧ lo ≤ k ∧ k < 51 ∧ ∀ a H', H a = none → Same H H' → ErrAt H' a (C k) ((fl k).zip [x, y]) → Q (.ref a) H'
/-- is it of the class with that number -/
def spIs (C : Nat → Addr) (lo : Nat) : Sp := fun vs H Q _ => ∃ (k j : Nat) (a : Addr), vs = [.int k, .ref a] ∧ lo ≤ k ∧ k < 51 ∧ j < 51 ∧ ErrO H a (C j) ∧ Q (.bl (decide (k = j))) H
section
variable {P : Program} {w : World} {K : PySem.W.Frag} {mg : Str → Option Value} {base : Heap} {f S : Addr} {fd : FuncData} {C : Nat → Addr}
theorem Errs.kit (E : Errs P w K mg base S C) {i j : Nat} (hi : i < 51) (hj : j < 51) : PySem.W.kitOne K (.ref (C j)) (.ref (C i)) = some (decide (i = j)) := by
  obtain ⟨f1, fd1, T1, _⟩ := (E.m j hj).ex
  obtain ⟨f2, fd2, T2, _⟩ := (E.m i hi).ex
  rw [T1.kit T2 (E.m i hi).nS]
  by_cases e : i = j
  · rw [decide_eq_true e, decide_eq_true (by rw [e])]
  · rw [decide_eq_false e, decide_eq_false fun q => e (E.inj _ _ hj hi q).symm]
theorem Errs.isO (E : Errs P w K mg base S C) {i j : Nat} {a : Addr} {H : Hp} {Q : VK} (hi : i < 51) (hj : j < 51) (eo : ErrO H a (C j)) (q : Q (.bl (decide (i = j))) H) : rIsO K [.ref a, .ref (C i)] H Q := by
  obtain ⟨f1, fd1, T1, _⟩ := (E.m j hj).ex
  exact ⟨a, S, C j, f1, _, _, _, _, rfl, T1, eo, .own _, E.kit hi hj, q⟩

theorem scM3 : FnScope ["k", "one", "other", "by_name"] ["k", "one", "other", "by_name"] (defScope (top 64)) := ⟨rfl, rfl, rfl, by decide +kernel, rfl, by decide +kernel, by decide +kernel⟩
theorem okMade3 (E : Errs P w K mg base S C) (F : FnP K "_law_made_3" 64 f fd) : FnOk P w K mg base CX0 3 f fd ["k", "one", "other", "by_name"] (spMade C 42) := by
  refine F.ok scM3 (fun vs H Q E h => ?_) (fun cdv A outer s H vs Q E0' hr h => ?_)
  · obtain ⟨k, x, y, b, rfl, _⟩ := h
    rfl
  · obtain ⟨k, x, y, b, rfl, k0, k1, hq⟩ := h
    have h2 := hr.mono (j := 2) (by omega)
    refine ⟨_, PSs.nox (pss_cons (ps_if (pt_cmpR op_eq (pv 0) pe_int (nomark _)) (pss_one (ps_ret (pe_ifExp (pt_val (pv 3)) (pe_errK (E.m 42 (by decide)) h2 rfl (pk_cons (pv 1) pk_nil)) (pe_err (E.m 42 (by decide)) h2 rfl (pa_cons (pv 1) pa_nil))))) pss_nil)
      (pss_cons (ps_if (pt_cmpR op_eq (pv 0) pe_int (nomark _)) (pss_one (ps_ret (pe_ifExp (pt_val (pv 3)) (pe_errK (E.m 43 (by decide)) h2 rfl (pk_cons (pv 1) pk_nil)) (pe_err (E.m 43 (by decide)) h2 rfl (pa_cons (pv 1) pa_nil))))) pss_nil)
      (pss_cons (ps_if (pt_cmpR op_eq (pv 0) pe_int (nomark _)) (pss_one (ps_ret (pe_ifExp (pt_val (pv 3)) (pe_errK (E.m 44 (by decide)) h2 rfl (pk_cons (pv 1) pk_nil)) (pe_err (E.m 44 (by decide)) h2 rfl (pa_cons (pv 1) pa_nil))))) pss_nil)
      (pss_cons (ps_if (pt_cmpR op_eq (pv 0) pe_int (nomark _)) (pss_one (ps_ret (pe_err0 (E.m 45 (by decide)) h2 rfl))) pss_nil)
      (pss_cons (ps_if (pt_cmpR op_eq (pv 0) pe_int (nomark _)) (pss_one (ps_ret (pe_err0 (E.m 46 (by decide)) h2 rfl))) pss_nil)
      (pss_cons (ps_if (pt_cmpR op_eq (pv 0) pe_int (nomark _)) (pss_one (ps_ret (pe_err0 (E.m 47 (by decide)) h2 rfl))) pss_nil)
      (pss_cons (ps_if (pt_cmpR op_eq (pv 0) pe_int (nomark _)) (pss_one (ps_ret (pe_ifExp (pt_val (pv 3)) (pe_errK (E.m 48 (by decide)) h2 rfl (pk_cons (pv 1) pk_nil)) (pe_err (E.m 48 (by decide)) h2 rfl (pa_cons (pv 1) pa_nil))))) pss_nil)
      (pss_cons (ps_if (pt_cmpR op_eq (pv 0) pe_int (nomark _)) (pss_one (ps_ret (pe_ifExp (pt_val (pv 3)) (pe_errK (E.m 49 (by decide)) h2 rfl (pk_cons (pv 1) pk_nil)) (pe_err (E.m 49 (by decide)) h2 rfl (pa_cons (pv 1) pa_nil))))) pss_nil)
      (pss_cons (ps_if (pt_cmpR op_eq (pv 0) pe_int (nomark _)) (pss_one (ps_ret (pe_err0 (E.m 50 (by decide)) h2 rfl))) pss_nil)
      (pss_one (ps_ret pe_non))))))))))), ?_⟩
    refine ⟨_, rfl, rfl, _, rfl, ite2 (fun c => ?_) (fun c42 => ?_)⟩
    · obtain rfl : k = 42 := by have := kEq c; omega
      refine ⟨_, rfl, b, rfl, ite2 (fun _ => ⟨_, rfl, rfl, Nat.le_of_ble_eq_true rfl, hq⟩) (fun _ => ⟨_, rfl, rfl, Nat.le_of_ble_eq_true rfl, hq⟩)⟩
    replace c42 := kNe c42
    refine ⟨_, rfl, rfl, _, rfl, ite2 (fun c => ?_) (fun c43 => ?_)⟩
    · obtain rfl : k = 43 := by have := kEq c; omega
      refine ⟨_, rfl, b, rfl, ite2 (fun _ => ⟨_, rfl, rfl, Nat.le_of_ble_eq_true rfl, hq⟩) (fun _ => ⟨_, rfl, rfl, Nat.le_of_ble_eq_true rfl, hq⟩)⟩
    replace c43 := kNe c43
    refine ⟨_, rfl, rfl, _, rfl, ite2 (fun c => ?_) (fun c44 => ?_)⟩
    · obtain rfl : k = 44 := by have := kEq c; omega
      refine ⟨_, rfl, b, rfl, ite2 (fun _ => ⟨_, rfl, rfl, Nat.le_of_ble_eq_true rfl, hq⟩) (fun _ => ⟨_, rfl, rfl, Nat.le_of_ble_eq_true rfl, hq⟩)⟩
    replace c44 := kNe c44
    refine ⟨_, rfl, rfl, _, rfl, ite2 (fun c => ?_) (fun c45 => ?_)⟩
    · obtain rfl : k = 45 := by have := kEq c; omega
      exact ⟨rfl, Nat.le_of_ble_eq_true rfl, hq⟩
    replace c45 := kNe c45
    refine ⟨_, rfl, rfl, _, rfl, ite2 (fun c => ?_) (fun c46 => ?_)⟩
    · obtain rfl : k = 46 := by have := kEq c; omega
      exact ⟨rfl, Nat.le_of_ble_eq_true rfl, hq⟩
    replace c46 := kNe c46
    refine ⟨_, rfl, rfl, _, rfl, ite2 (fun c => ?_) (fun c47 => ?_)⟩
    · obtain rfl : k = 47 := by have := kEq c; omega
      exact ⟨rfl, Nat.le_of_ble_eq_true rfl, hq⟩
    replace c47 := kNe c47
    refine ⟨_, rfl, rfl, _, rfl, ite2 (fun c => ?_) (fun c48 => ?_)⟩
    · obtain rfl : k = 48 := by have := kEq c; omega
      refine ⟨_, rfl, b, rfl, ite2 (fun _ => ⟨_, rfl, rfl, Nat.le_of_ble_eq_true rfl, hq⟩) (fun _ => ⟨_, rfl, rfl, Nat.le_of_ble_eq_true rfl, hq⟩)⟩
    replace c48 := kNe c48
    refine ⟨_, rfl, rfl, _, rfl, ite2 (fun c => ?_) (fun c49 => ?_)⟩
    · obtain rfl : k = 49 := by have := kEq c; omega
      refine ⟨_, rfl, b, rfl, ite2 (fun _ => ⟨_, rfl, rfl, Nat.le_of_ble_eq_true rfl, hq⟩) (fun _ => ⟨_, rfl, rfl, Nat.le_of_ble_eq_true rfl, hq⟩)⟩
    replace c49 := kNe c49
    refine ⟨_, rfl, rfl, _, rfl, ite2 (fun c => ?_) (fun c50 => ?_)⟩
    · obtain rfl : k = 50 := by have := kEq c; omega
      exact ⟨rfl, Nat.le_of_ble_eq_true rfl, hq⟩
    replace c50 := kNe c50
    omega
theorem scM2 : FnScope ["k", "one", "other", "by_name"] ["k", "one", "other", "by_name"] (defScope (top 63)) := ⟨rfl, rfl, rfl, by decide +kernel, rfl, by decide +kernel, by decide +kernel⟩
theorem okMade2 (E : Errs P w K mg base S C) (G : Fn P w K mg base "_law_made_3" 3 ["k", "one", "other", "by_name"] (spMade C 42)) (F : FnP K "_law_made_2" 63 f fd) : FnOk P w K mg base CX0 4 f fd ["k", "one", "other", "by_name"] (spMade C 28) := by
  refine F.ok scM2 (fun vs H Q E h => ?_) (fun cdv A outer s H vs Q E0' hr h => ?_)
  · obtain ⟨k, x, y, b, rfl, _⟩ := h
    rfl
  · obtain ⟨k, x, y, b, rfl, k0, k1, hq⟩ := h
    have h2 := hr.mono (j := 2) (by omega)
    refine ⟨_, PSs.nox (pss_cons (ps_if (pt_cmpR op_eq (pv 0) pe_int (nomark _)) (pss_one (ps_ret (pe_ifExp (pt_val (pv 3)) (pe_errK (E.m 28 (by decide)) h2 rfl (pk_cons (pv 1) pk_nil)) (pe_err (E.m 28 (by decide)) h2 rfl (pa_cons (pv 1) pa_nil))))) pss_nil)
      (pss_cons (ps_if (pt_cmpR op_eq (pv 0) pe_int (nomark _)) (pss_one (ps_ret (pe_ifExp (pt_val (pv 3)) (pe_errK (E.m 29 (by decide)) h2 rfl (pk_cons (pv 1) pk_nil)) (pe_err (E.m 29 (by decide)) h2 rfl (pa_cons (pv 1) pa_nil))))) pss_nil)
      (pss_cons (ps_if (pt_cmpR op_eq (pv 0) pe_int (nomark _)) (pss_one (ps_ret (pe_ifExp (pt_val (pv 3)) (pe_errK (E.m 30 (by decide)) h2 rfl (pk_cons (pv 1) pk_nil)) (pe_err (E.m 30 (by decide)) h2 rfl (pa_cons (pv 1) pa_nil))))) pss_nil)
      (pss_cons (ps_if (pt_cmpR op_eq (pv 0) pe_int (nomark _)) (pss_one (ps_ret (pe_ifExp (pt_val (pv 3)) (pe_errK (E.m 31 (by decide)) h2 rfl (pk_cons (pv 1) pk_nil)) (pe_err (E.m 31 (by decide)) h2 rfl (pa_cons (pv 1) pa_nil))))) pss_nil)
      (pss_cons (ps_if (pt_cmpR op_eq (pv 0) pe_int (nomark _)) (pss_one (ps_ret (pe_ifExp (pt_val (pv 3)) (pe_errK (E.m 32 (by decide)) h2 rfl (pk_cons (pv 1) pk_nil)) (pe_err (E.m 32 (by decide)) h2 rfl (pa_cons (pv 1) pa_nil))))) pss_nil)
      (pss_cons (ps_if (pt_cmpR op_eq (pv 0) pe_int (nomark _)) (pss_one (ps_ret (pe_ifExp (pt_val (pv 3)) (pe_errK (E.m 33 (by decide)) h2 rfl (pk_cons (pv 1) pk_nil)) (pe_err (E.m 33 (by decide)) h2 rfl (pa_cons (pv 1) pa_nil))))) pss_nil)
      (pss_cons (ps_if (pt_cmpR op_eq (pv 0) pe_int (nomark _)) (pss_one (ps_ret (pe_ifExp (pt_val (pv 3)) (pe_errK (E.m 34 (by decide)) h2 rfl (pk_cons (pv 1) pk_nil)) (pe_err (E.m 34 (by decide)) h2 rfl (pa_cons (pv 1) pa_nil))))) pss_nil)
      (pss_cons (ps_if (pt_cmpR op_eq (pv 0) pe_int (nomark _)) (pss_one (ps_ret (pe_ifExp (pt_val (pv 3)) (pe_errK (E.m 35 (by decide)) h2 rfl (pk_cons (pv 1) pk_nil)) (pe_err (E.m 35 (by decide)) h2 rfl (pa_cons (pv 1) pa_nil))))) pss_nil)
      (pss_cons (ps_if (pt_cmpR op_eq (pv 0) pe_int (nomark _)) (pss_one (ps_ret (pe_err0 (E.m 36 (by decide)) h2 rfl))) pss_nil)
      (pss_cons (ps_if (pt_cmpR op_eq (pv 0) pe_int (nomark _)) (pss_one (ps_ret (pe_ifExp (pt_val (pv 3)) (pe_errK (E.m 37 (by decide)) h2 rfl (pk_cons (pv 1) pk_nil)) (pe_err (E.m 37 (by decide)) h2 rfl (pa_cons (pv 1) pa_nil))))) pss_nil)
      (pss_cons (ps_if (pt_cmpR op_eq (pv 0) pe_int (nomark _)) (pss_one (ps_ret (pe_ifExp (pt_val (pv 3)) (pe_errK (E.m 38 (by decide)) h2 rfl (pk_cons (pv 1) pk_nil)) (pe_err (E.m 38 (by decide)) h2 rfl (pa_cons (pv 1) pa_nil))))) pss_nil)
      (pss_cons (ps_if (pt_cmpR op_eq (pv 0) pe_int (nomark _)) (pss_one (ps_ret (pe_ifExp (pt_val (pv 3)) (pe_errK (E.m 39 (by decide)) h2 rfl (pk_cons (pv 1) pk_nil)) (pe_err (E.m 39 (by decide)) h2 rfl (pa_cons (pv 1) pa_nil))))) pss_nil)
      (pss_cons (ps_if (pt_cmpR op_eq (pv 0) pe_int (nomark _)) (pss_one (ps_ret (pe_ifExp (pt_val (pv 3)) (pe_errR (E.m 40 (by decide)) h2 rfl (pk_cons (pv 2) (pk_cons (pv 1) pk_nil))) (pe_err (E.m 40 (by decide)) h2 rfl (pa_cons (pv 1) (pa_cons (pv 2) pa_nil)))))) pss_nil)
      (pss_cons (ps_if (pt_cmpR op_eq (pv 0) pe_int (nomark _)) (pss_one (ps_ret (pe_ifExp (pt_val (pv 3)) (pe_errK (E.m 41 (by decide)) h2 rfl (pk_cons (pv 1) pk_nil)) (pe_err (E.m 41 (by decide)) h2 rfl (pa_cons (pv 1) pa_nil))))) pss_nil)
      (pss_one (ps_ret (pe_fn G hr rfl (pa_cons (pv 0) (pa_cons (pv 1) (pa_cons (pv 2) (pa_cons (pv 3) pa_nil))))))))))))))))))))), ?_⟩
    refine ⟨_, rfl, rfl, _, rfl, ite2 (fun c => ?_) (fun c28 => ?_)⟩
    · obtain rfl : k = 28 := by have := kEq c; omega
      refine ⟨_, rfl, b, rfl, ite2 (fun _ => ⟨_, rfl, rfl, Nat.le_of_ble_eq_true rfl, hq⟩) (fun _ => ⟨_, rfl, rfl, Nat.le_of_ble_eq_true rfl, hq⟩)⟩
    replace c28 := kNe c28
    refine ⟨_, rfl, rfl, _, rfl, ite2 (fun c => ?_) (fun c29 => ?_)⟩
    · obtain rfl : k = 29 := by have := kEq c; omega
      refine ⟨_, rfl, b, rfl, ite2 (fun _ => ⟨_, rfl, rfl, Nat.le_of_ble_eq_true rfl, hq⟩) (fun _ => ⟨_, rfl, rfl, Nat.le_of_ble_eq_true rfl, hq⟩)⟩
    replace c29 := kNe c29
    refine ⟨_, rfl, rfl, _, rfl, ite2 (fun c => ?_) (fun c30 => ?_)⟩
    · obtain rfl : k = 30 := by have := kEq c; omega
      refine ⟨_, rfl, b, rfl, ite2 (fun _ => ⟨_, rfl, rfl, Nat.le_of_ble_eq_true rfl, hq⟩) (fun _ => ⟨_, rfl, rfl, Nat.le_of_ble_eq_true rfl, hq⟩)⟩
    replace c30 := kNe c30
    refine ⟨_, rfl, rfl, _, rfl, ite2 (fun c => ?_) (fun c31 => ?_)⟩
    · obtain rfl : k = 31 := by have := kEq c; omega
      refine ⟨_, rfl, b, rfl, ite2 (fun _ => ⟨_, rfl, rfl, Nat.le_of_ble_eq_true rfl, hq⟩) (fun _ => ⟨_, rfl, rfl, Nat.le_of_ble_eq_true rfl, hq⟩)⟩
    replace c31 := kNe c31
    refine ⟨_, rfl, rfl, _, rfl, ite2 (fun c => ?_) (fun c32 => ?_)⟩
    · obtain rfl : k = 32 := by have := kEq c; omega
      refine ⟨_, rfl, b, rfl, ite2 (fun _ => ⟨_, rfl, rfl, Nat.le_of_ble_eq_true rfl, hq⟩) (fun _ => ⟨_, rfl, rfl, Nat.le_of_ble_eq_true rfl, hq⟩)⟩
    replace c32 := kNe c32
    refine ⟨_, rfl, rfl, _, rfl, ite2 (fun c => ?_) (fun c33 => ?_)⟩
    · obtain rfl : k = 33 := by have := kEq c; omega
      refine ⟨_, rfl, b, rfl, ite2 (fun _ => ⟨_, rfl, rfl, Nat.le_of_ble_eq_true rfl, hq⟩) (fun _ => ⟨_, rfl, rfl, Nat.le_of_ble_eq_true rfl, hq⟩)⟩
    replace c33 := kNe c33
    refine ⟨_, rfl, rfl, _, rfl, ite2 (fun c => ?_) (fun c34 => ?_)⟩
    · obtain rfl : k = 34 := by have := kEq c; omega
      refine ⟨_, rfl, b, rfl, ite2 (fun _ => ⟨_, rfl, rfl, Nat.le_of_ble_eq_true rfl, hq⟩) (fun _ => ⟨_, rfl, rfl, Nat.le_of_ble_eq_true rfl, hq⟩)⟩
    replace c34 := kNe c34
    refine ⟨_, rfl, rfl, _, rfl, ite2 (fun c => ?_) (fun c35 => ?_)⟩
    · obtain rfl : k = 35 := by have := kEq c; omega
      refine ⟨_, rfl, b, rfl, ite2 (fun _ => ⟨_, rfl, rfl, Nat.le_of_ble_eq_true rfl, hq⟩) (fun _ => ⟨_, rfl, rfl, Nat.le_of_ble_eq_true rfl, hq⟩)⟩
    replace c35 := kNe c35
    refine ⟨_, rfl, rfl, _, rfl, ite2 (fun c => ?_) (fun c36 => ?_)⟩
    · obtain rfl : k = 36 := by have := kEq c; omega
      exact ⟨rfl, Nat.le_of_ble_eq_true rfl, hq⟩
    replace c36 := kNe c36
    refine ⟨_, rfl, rfl, _, rfl, ite2 (fun c => ?_) (fun c37 => ?_)⟩
    · obtain rfl : k = 37 := by have := kEq c; omega
      refine ⟨_, rfl, b, rfl, ite2 (fun _ => ⟨_, rfl, rfl, Nat.le_of_ble_eq_true rfl, hq⟩) (fun _ => ⟨_, rfl, rfl, Nat.le_of_ble_eq_true rfl, hq⟩)⟩
    replace c37 := kNe c37
    refine ⟨_, rfl, rfl, _, rfl, ite2 (fun c => ?_) (fun c38 => ?_)⟩
    · obtain rfl : k = 38 := by have := kEq c; omega
      refine ⟨_, rfl, b, rfl, ite2 (fun _ => ⟨_, rfl, rfl, Nat.le_of_ble_eq_true rfl, hq⟩) (fun _ => ⟨_, rfl, rfl, Nat.le_of_ble_eq_true rfl, hq⟩)⟩
    replace c38 := kNe c38
    refine ⟨_, rfl, rfl, _, rfl, ite2 (fun c => ?_) (fun c39 => ?_)⟩
    · obtain rfl : k = 39 := by have := kEq c; omega
      refine ⟨_, rfl, b, rfl, ite2 (fun _ => ⟨_, rfl, rfl, Nat.le_of_ble_eq_true rfl, hq⟩) (fun _ => ⟨_, rfl, rfl, Nat.le_of_ble_eq_true rfl, hq⟩)⟩
    replace c39 := kNe c39
    refine ⟨_, rfl, rfl, _, rfl, ite2 (fun c => ?_) (fun c40 => ?_)⟩
    · obtain rfl : k = 40 := by have := kEq c; omega
      refine ⟨_, rfl, b, rfl, ite2 (fun _ => ⟨_, rfl, _, rfl, rfl, hq⟩) (fun _ => ⟨_, rfl, _, rfl, rfl, Nat.le_of_ble_eq_true rfl, hq⟩)⟩
    replace c40 := kNe c40
    refine ⟨_, rfl, rfl, _, rfl, ite2 (fun c => ?_) (fun c41 => ?_)⟩
    · obtain rfl : k = 41 := by have := kEq c; omega
      refine ⟨_, rfl, b, rfl, ite2 (fun _ => ⟨_, rfl, rfl, Nat.le_of_ble_eq_true rfl, hq⟩) (fun _ => ⟨_, rfl, rfl, Nat.le_of_ble_eq_true rfl, hq⟩)⟩
    replace c41 := kNe c41
    exact ⟨_, rfl, _, rfl, _, rfl, _, rfl, k, x, y, b, rfl, by omega, k1, hq⟩
theorem scM1 : FnScope ["k", "one", "other", "by_name"] ["k", "one", "other", "by_name"] (defScope (top 62)) := ⟨rfl, rfl, rfl, by decide +kernel, rfl, by decide +kernel, by decide +kernel⟩
theorem okMade1 (E : Errs P w K mg base S C) (G : Fn P w K mg base "_law_made_2" 4 ["k", "one", "other", "by_name"] (spMade C 28)) (F : FnP K "_law_made_1" 62 f fd) : FnOk P w K mg base CX0 5 f fd ["k", "one", "other", "by_name"] (spMade C 14) := by
  refine F.ok scM1 (fun vs H Q E h => ?_) (fun cdv A outer s H vs Q E0' hr h => ?_)
  · obtain ⟨k, x, y, b, rfl, _⟩ := h
    rfl
  · obtain ⟨k, x, y, b, rfl, k0, k1, hq⟩ := h
    have h2 := hr.mono (j := 2) (by omega)
    refine ⟨_, PSs.nox (pss_cons (ps_if (pt_cmpR op_eq (pv 0) pe_int (nomark _)) (pss_one (ps_ret (pe_ifExp (pt_val (pv 3)) (pe_errK (E.m 14 (by decide)) h2 rfl (pk_cons (pv 1) pk_nil)) (pe_err (E.m 14 (by decide)) h2 rfl (pa_cons (pv 1) pa_nil))))) pss_nil)
      (pss_cons (ps_if (pt_cmpR op_eq (pv 0) pe_int (nomark _)) (pss_one (ps_ret (pe_ifExp (pt_val (pv 3)) (pe_errK (E.m 15 (by decide)) h2 rfl (pk_cons (pv 1) pk_nil)) (pe_err (E.m 15 (by decide)) h2 rfl (pa_cons (pv 1) pa_nil))))) pss_nil)
      (pss_cons (ps_if (pt_cmpR op_eq (pv 0) pe_int (nomark _)) (pss_one (ps_ret (pe_ifExp (pt_val (pv 3)) (pe_errK (E.m 16 (by decide)) h2 rfl (pk_cons (pv 1) pk_nil)) (pe_err (E.m 16 (by decide)) h2 rfl (pa_cons (pv 1) pa_nil))))) pss_nil)
      (pss_cons (ps_if (pt_cmpR op_eq (pv 0) pe_int (nomark _)) (pss_one (ps_ret (pe_ifExp (pt_val (pv 3)) (pe_errK (E.m 17 (by decide)) h2 rfl (pk_cons (pv 1) pk_nil)) (pe_err (E.m 17 (by decide)) h2 rfl (pa_cons (pv 1) pa_nil))))) pss_nil)
      (pss_cons (ps_if (pt_cmpR op_eq (pv 0) pe_int (nomark _)) (pss_one (ps_ret (pe_ifExp (pt_val (pv 3)) (pe_errK (E.m 18 (by decide)) h2 rfl (pk_cons (pv 1) pk_nil)) (pe_err (E.m 18 (by decide)) h2 rfl (pa_cons (pv 1) pa_nil))))) pss_nil)
      (pss_cons (ps_if (pt_cmpR op_eq (pv 0) pe_int (nomark _)) (pss_one (ps_ret (pe_ifExp (pt_val (pv 3)) (pe_errK (E.m 19 (by decide)) h2 rfl (pk_cons (pv 1) pk_nil)) (pe_err (E.m 19 (by decide)) h2 rfl (pa_cons (pv 1) pa_nil))))) pss_nil)
      (pss_cons (ps_if (pt_cmpR op_eq (pv 0) pe_int (nomark _)) (pss_one (ps_ret (pe_ifExp (pt_val (pv 3)) (pe_errK (E.m 20 (by decide)) h2 rfl (pk_cons (pv 1) pk_nil)) (pe_err (E.m 20 (by decide)) h2 rfl (pa_cons (pv 1) pa_nil))))) pss_nil)
      (pss_cons (ps_if (pt_cmpR op_eq (pv 0) pe_int (nomark _)) (pss_one (ps_ret (pe_ifExp (pt_val (pv 3)) (pe_errK (E.m 21 (by decide)) h2 rfl (pk_cons (pv 1) pk_nil)) (pe_err (E.m 21 (by decide)) h2 rfl (pa_cons (pv 1) pa_nil))))) pss_nil)
      (pss_cons (ps_if (pt_cmpR op_eq (pv 0) pe_int (nomark _)) (pss_one (ps_ret (pe_ifExp (pt_val (pv 3)) (pe_errK (E.m 22 (by decide)) h2 rfl (pk_cons (pv 1) pk_nil)) (pe_err (E.m 22 (by decide)) h2 rfl (pa_cons (pv 1) pa_nil))))) pss_nil)
      (pss_cons (ps_if (pt_cmpR op_eq (pv 0) pe_int (nomark _)) (pss_one (ps_ret (pe_ifExp (pt_val (pv 3)) (pe_errK (E.m 23 (by decide)) h2 rfl (pk_cons (pv 1) pk_nil)) (pe_err (E.m 23 (by decide)) h2 rfl (pa_cons (pv 1) pa_nil))))) pss_nil)
      (pss_cons (ps_if (pt_cmpR op_eq (pv 0) pe_int (nomark _)) (pss_one (ps_ret (pe_ifExp (pt_val (pv 3)) (pe_errK (E.m 24 (by decide)) h2 rfl (pk_cons (pv 1) pk_nil)) (pe_err (E.m 24 (by decide)) h2 rfl (pa_cons (pv 1) pa_nil))))) pss_nil)
      (pss_cons (ps_if (pt_cmpR op_eq (pv 0) pe_int (nomark _)) (pss_one (ps_ret (pe_ifExp (pt_val (pv 3)) (pe_errK (E.m 25 (by decide)) h2 rfl (pk_cons (pv 1) pk_nil)) (pe_err (E.m 25 (by decide)) h2 rfl (pa_cons (pv 1) pa_nil))))) pss_nil)
      (pss_cons (ps_if (pt_cmpR op_eq (pv 0) pe_int (nomark _)) (pss_one (ps_ret (pe_ifExp (pt_val (pv 3)) (pe_errK (E.m 26 (by decide)) h2 rfl (pk_cons (pv 1) pk_nil)) (pe_err (E.m 26 (by decide)) h2 rfl (pa_cons (pv 1) pa_nil))))) pss_nil)
      (pss_cons (ps_if (pt_cmpR op_eq (pv 0) pe_int (nomark _)) (pss_one (ps_ret (pe_ifExp (pt_val (pv 3)) (pe_errK (E.m 27 (by decide)) h2 rfl (pk_cons (pv 1) pk_nil)) (pe_err (E.m 27 (by decide)) h2 rfl (pa_cons (pv 1) pa_nil))))) pss_nil)
      (pss_one (ps_ret (pe_fn G hr rfl (pa_cons (pv 0) (pa_cons (pv 1) (pa_cons (pv 2) (pa_cons (pv 3) pa_nil))))))))))))))))))))), ?_⟩
    refine ⟨_, rfl, rfl, _, rfl, ite2 (fun c => ?_) (fun c14 => ?_)⟩
    · obtain rfl : k = 14 := by have := kEq c; omega
      refine ⟨_, rfl, b, rfl, ite2 (fun _ => ⟨_, rfl, rfl, Nat.le_of_ble_eq_true rfl, hq⟩) (fun _ => ⟨_, rfl, rfl, Nat.le_of_ble_eq_true rfl, hq⟩)⟩
    replace c14 := kNe c14
    refine ⟨_, rfl, rfl, _, rfl, ite2 (fun c => ?_) (fun c15 => ?_)⟩
    · obtain rfl : k = 15 := by have := kEq c; omega
      refine ⟨_, rfl, b, rfl, ite2 (fun _ => ⟨_, rfl, rfl, Nat.le_of_ble_eq_true rfl, hq⟩) (fun _ => ⟨_, rfl, rfl, Nat.le_of_ble_eq_true rfl, hq⟩)⟩
    replace c15 := kNe c15
    refine ⟨_, rfl, rfl, _, rfl, ite2 (fun c => ?_) (fun c16 => ?_)⟩
    · obtain rfl : k = 16 := by have := kEq c; omega
      refine ⟨_, rfl, b, rfl, ite2 (fun _ => ⟨_, rfl, rfl, Nat.le_of_ble_eq_true rfl, hq⟩) (fun _ => ⟨_, rfl, rfl, Nat.le_of_ble_eq_true rfl, hq⟩)⟩
    replace c16 := kNe c16
    refine ⟨_, rfl, rfl, _, rfl, ite2 (fun c => ?_) (fun c17 => ?_)⟩
    · obtain rfl : k = 17 := by have := kEq c; omega
      refine ⟨_, rfl, b, rfl, ite2 (fun _ => ⟨_, rfl, rfl, Nat.le_of_ble_eq_true rfl, hq⟩) (fun _ => ⟨_, rfl, rfl, Nat.le_of_ble_eq_true rfl, hq⟩)⟩
    replace c17 := kNe c17
    refine ⟨_, rfl, rfl, _, rfl, ite2 (fun c => ?_) (fun c18 => ?_)⟩
    · obtain rfl : k = 18 := by have := kEq c; omega
      refine ⟨_, rfl, b, rfl, ite2 (fun _ => ⟨_, rfl, rfl, Nat.le_of_ble_eq_true rfl, hq⟩) (fun _ => ⟨_, rfl, rfl, Nat.le_of_ble_eq_true rfl, hq⟩)⟩
    replace c18 := kNe c18
    refine ⟨_, rfl, rfl, _, rfl, ite2 (fun c => ?_) (fun c19 => ?_)⟩
    · obtain rfl : k = 19 := by have := kEq c; omega
      refine ⟨_, rfl, b, rfl, ite2 (fun _ => ⟨_, rfl, rfl, Nat.le_of_ble_eq_true rfl, hq⟩) (fun _ => ⟨_, rfl, rfl, Nat.le_of_ble_eq_true rfl, hq⟩)⟩
    replace c19 := kNe c19
    refine ⟨_, rfl, rfl, _, rfl, ite2 (fun c => ?_) (fun c20 => ?_)⟩
    · obtain rfl : k = 20 := by have := kEq c; omega
      refine ⟨_, rfl, b, rfl, ite2 (fun _ => ⟨_, rfl, rfl, Nat.le_of_ble_eq_true rfl, hq⟩) (fun _ => ⟨_, rfl, rfl, Nat.le_of_ble_eq_true rfl, hq⟩)⟩
    replace c20 := kNe c20
    refine ⟨_, rfl, rfl, _, rfl, ite2 (fun c => ?_) (fun c21 => ?_)⟩
    · obtain rfl : k = 21 := by have := kEq c; omega
      refine ⟨_, rfl, b, rfl, ite2 (fun _ => ⟨_, rfl, rfl, Nat.le_of_ble_eq_true rfl, hq⟩) (fun _ => ⟨_, rfl, rfl, Nat.le_of_ble_eq_true rfl, hq⟩)⟩
    replace c21 := kNe c21
    refine ⟨_, rfl, rfl, _, rfl, ite2 (fun c => ?_) (fun c22 => ?_)⟩
    · obtain rfl : k = 22 := by have := kEq c; omega
      refine ⟨_, rfl, b, rfl, ite2 (fun _ => ⟨_, rfl, rfl, Nat.le_of_ble_eq_true rfl, hq⟩) (fun _ => ⟨_, rfl, rfl, Nat.le_of_ble_eq_true rfl, hq⟩)⟩
    replace c22 := kNe c22
    refine ⟨_, rfl, rfl, _, rfl, ite2 (fun c => ?_) (fun c23 => ?_)⟩
    · obtain rfl : k = 23 := by have := kEq c; omega
      refine ⟨_, rfl, b, rfl, ite2 (fun _ => ⟨_, rfl, rfl, Nat.le_of_ble_eq_true rfl, hq⟩) (fun _ => ⟨_, rfl, rfl, Nat.le_of_ble_eq_true rfl, hq⟩)⟩
    replace c23 := kNe c23
    refine ⟨_, rfl, rfl, _, rfl, ite2 (fun c => ?_) (fun c24 => ?_)⟩
    · obtain rfl : k = 24 := by have := kEq c; omega
      refine ⟨_, rfl, b, rfl, ite2 (fun _ => ⟨_, rfl, rfl, Nat.le_of_ble_eq_true rfl, hq⟩) (fun _ => ⟨_, rfl, rfl, Nat.le_of_ble_eq_true rfl, hq⟩)⟩
    replace c24 := kNe c24
    refine ⟨_, rfl, rfl, _, rfl, ite2 (fun c => ?_) (fun c25 => ?_)⟩
    · obtain rfl : k = 25 := by have := kEq c; omega
      refine ⟨_, rfl, b, rfl, ite2 (fun _ => ⟨_, rfl, rfl, Nat.le_of_ble_eq_true rfl, hq⟩) (fun _ => ⟨_, rfl, rfl, Nat.le_of_ble_eq_true rfl, hq⟩)⟩
    replace c25 := kNe c25
    refine ⟨_, rfl, rfl, _, rfl, ite2 (fun c => ?_) (fun c26 => ?_)⟩
    · obtain rfl : k = 26 := by have := kEq c; omega
      refine ⟨_, rfl, b, rfl, ite2 (fun _ => ⟨_, rfl, rfl, Nat.le_of_ble_eq_true rfl, hq⟩) (fun _ => ⟨_, rfl, rfl, Nat.le_of_ble_eq_true rfl, hq⟩)⟩
    replace c26 := kNe c26
    refine ⟨_, rfl, rfl, _, rfl, ite2 (fun c => ?_) (fun c27 => ?_)⟩
    · obtain rfl : k = 27 := by have := kEq c; omega
      refine ⟨_, rfl, b, rfl, ite2 (fun _ => ⟨_, rfl, rfl, Nat.le_of_ble_eq_true rfl, hq⟩) (fun _ => ⟨_, rfl, rfl, Nat.le_of_ble_eq_true rfl, hq⟩)⟩
    replace c27 := kNe c27
    exact ⟨_, rfl, _, rfl, _, rfl, _, rfl, k, x, y, b, rfl, by omega, k1, hq⟩
theorem scM0 : FnScope ["k", "one", "other", "by_name"] ["k", "one", "other", "by_name"] (defScope (top 61)) := ⟨rfl, rfl, rfl, by decide +kernel, rfl, by decide +kernel, by decide +kernel⟩
theorem okMade0 (E : Errs P w K mg base S C) (G : Fn P w K mg base "_law_made_1" 5 ["k", "one", "other", "by_name"] (spMade C 14)) (F : FnP K "_law_made_0" 61 f fd) : FnOk P w K mg base CX0 6 f fd ["k", "one", "other", "by_name"] (spMade C 0) := by
  refine F.ok scM0 (fun vs H Q E h => ?_) (fun cdv A outer s H vs Q E0' hr h => ?_)
  · obtain ⟨k, x, y, b, rfl, _⟩ := h
    rfl
  · obtain ⟨k, x, y, b, rfl, k0, k1, hq⟩ := h
    have h2 := hr.mono (j := 2) (by omega)
    refine ⟨_, PSs.nox (pss_cons (ps_if (pt_cmpR op_eq (pv 0) pe_int (nomark _)) (pss_one (ps_ret (pe_ifExp (pt_val (pv 3)) (pe_errK (E.m 0 (by decide)) h2 rfl (pk_cons (pv 1) pk_nil)) (pe_err (E.m 0 (by decide)) h2 rfl (pa_cons (pv 1) pa_nil))))) pss_nil)
      (pss_cons (ps_if (pt_cmpR op_eq (pv 0) pe_int (nomark _)) (pss_one (ps_ret (pe_ifExp (pt_val (pv 3)) (pe_errK (E.m 1 (by decide)) h2 rfl (pk_cons (pv 1) pk_nil)) (pe_err (E.m 1 (by decide)) h2 rfl (pa_cons (pv 1) pa_nil))))) pss_nil)
      (pss_cons (ps_if (pt_cmpR op_eq (pv 0) pe_int (nomark _)) (pss_one (ps_ret (pe_ifExp (pt_val (pv 3)) (pe_errK (E.m 2 (by decide)) h2 rfl (pk_cons (pv 1) pk_nil)) (pe_err (E.m 2 (by decide)) h2 rfl (pa_cons (pv 1) pa_nil))))) pss_nil)
      (pss_cons (ps_if (pt_cmpR op_eq (pv 0) pe_int (nomark _)) (pss_one (ps_ret (pe_ifExp (pt_val (pv 3)) (pe_errK (E.m 3 (by decide)) h2 rfl (pk_cons (pv 1) pk_nil)) (pe_err (E.m 3 (by decide)) h2 rfl (pa_cons (pv 1) pa_nil))))) pss_nil)
      (pss_cons (ps_if (pt_cmpR op_eq (pv 0) pe_int (nomark _)) (pss_one (ps_ret (pe_ifExp (pt_val (pv 3)) (pe_errK (E.m 4 (by decide)) h2 rfl (pk_cons (pv 1) pk_nil)) (pe_err (E.m 4 (by decide)) h2 rfl (pa_cons (pv 1) pa_nil))))) pss_nil)
      (pss_cons (ps_if (pt_cmpR op_eq (pv 0) pe_int (nomark _)) (pss_one (ps_ret (pe_ifExp (pt_val (pv 3)) (pe_errK (E.m 5 (by decide)) h2 rfl (pk_cons (pv 1) pk_nil)) (pe_err (E.m 5 (by decide)) h2 rfl (pa_cons (pv 1) pa_nil))))) pss_nil)
      (pss_cons (ps_if (pt_cmpR op_eq (pv 0) pe_int (nomark _)) (pss_one (ps_ret (pe_ifExp (pt_val (pv 3)) (pe_errK (E.m 6 (by decide)) h2 rfl (pk_cons (pv 1) pk_nil)) (pe_err (E.m 6 (by decide)) h2 rfl (pa_cons (pv 1) pa_nil))))) pss_nil)
      (pss_cons (ps_if (pt_cmpR op_eq (pv 0) pe_int (nomark _)) (pss_one (ps_ret (pe_ifExp (pt_val (pv 3)) (pe_errK (E.m 7 (by decide)) h2 rfl (pk_cons (pv 1) pk_nil)) (pe_err (E.m 7 (by decide)) h2 rfl (pa_cons (pv 1) pa_nil))))) pss_nil)
      (pss_cons (ps_if (pt_cmpR op_eq (pv 0) pe_int (nomark _)) (pss_one (ps_ret (pe_ifExp (pt_val (pv 3)) (pe_errK (E.m 8 (by decide)) h2 rfl (pk_cons (pv 1) pk_nil)) (pe_err (E.m 8 (by decide)) h2 rfl (pa_cons (pv 1) pa_nil))))) pss_nil)
      (pss_cons (ps_if (pt_cmpR op_eq (pv 0) pe_int (nomark _)) (pss_one (ps_ret (pe_ifExp (pt_val (pv 3)) (pe_errK (E.m 9 (by decide)) h2 rfl (pk_cons (pv 1) pk_nil)) (pe_err (E.m 9 (by decide)) h2 rfl (pa_cons (pv 1) pa_nil))))) pss_nil)
      (pss_cons (ps_if (pt_cmpR op_eq (pv 0) pe_int (nomark _)) (pss_one (ps_ret (pe_ifExp (pt_val (pv 3)) (pe_errK (E.m 10 (by decide)) h2 rfl (pk_cons (pv 1) pk_nil)) (pe_err (E.m 10 (by decide)) h2 rfl (pa_cons (pv 1) pa_nil))))) pss_nil)
      (pss_cons (ps_if (pt_cmpR op_eq (pv 0) pe_int (nomark _)) (pss_one (ps_ret (pe_ifExp (pt_val (pv 3)) (pe_errK (E.m 11 (by decide)) h2 rfl (pk_cons (pv 1) pk_nil)) (pe_err (E.m 11 (by decide)) h2 rfl (pa_cons (pv 1) pa_nil))))) pss_nil)
      (pss_cons (ps_if (pt_cmpR op_eq (pv 0) pe_int (nomark _)) (pss_one (ps_ret (pe_ifExp (pt_val (pv 3)) (pe_errK (E.m 12 (by decide)) h2 rfl (pk_cons (pv 1) pk_nil)) (pe_err (E.m 12 (by decide)) h2 rfl (pa_cons (pv 1) pa_nil))))) pss_nil)
      (pss_cons (ps_if (pt_cmpR op_eq (pv 0) pe_int (nomark _)) (pss_one (ps_ret (pe_ifExp (pt_val (pv 3)) (pe_errK (E.m 13 (by decide)) h2 rfl (pk_cons (pv 1) pk_nil)) (pe_err (E.m 13 (by decide)) h2 rfl (pa_cons (pv 1) pa_nil))))) pss_nil)
      (pss_one (ps_ret (pe_fn G hr rfl (pa_cons (pv 0) (pa_cons (pv 1) (pa_cons (pv 2) (pa_cons (pv 3) pa_nil))))))))))))))))))))), ?_⟩
    refine ⟨_, rfl, rfl, _, rfl, ite2 (fun c => ?_) (fun c0 => ?_)⟩
    · obtain rfl : k = 0 := by have := kEq c; omega
      refine ⟨_, rfl, b, rfl, ite2 (fun _ => ⟨_, rfl, rfl, Nat.le_of_ble_eq_true rfl, hq⟩) (fun _ => ⟨_, rfl, rfl, Nat.le_of_ble_eq_true rfl, hq⟩)⟩
    replace c0 := kNe c0
    refine ⟨_, rfl, rfl, _, rfl, ite2 (fun c => ?_) (fun c1 => ?_)⟩
    · obtain rfl : k = 1 := by have := kEq c; omega
      refine ⟨_, rfl, b, rfl, ite2 (fun _ => ⟨_, rfl, rfl, Nat.le_of_ble_eq_true rfl, hq⟩) (fun _ => ⟨_, rfl, rfl, Nat.le_of_ble_eq_true rfl, hq⟩)⟩
    replace c1 := kNe c1
    refine ⟨_, rfl, rfl, _, rfl, ite2 (fun c => ?_) (fun c2 => ?_)⟩
    · obtain rfl : k = 2 := by have := kEq c; omega
      refine ⟨_, rfl, b, rfl, ite2 (fun _ => ⟨_, rfl, rfl, Nat.le_of_ble_eq_true rfl, hq⟩) (fun _ => ⟨_, rfl, rfl, Nat.le_of_ble_eq_true rfl, hq⟩)⟩
    replace c2 := kNe c2
    refine ⟨_, rfl, rfl, _, rfl, ite2 (fun c => ?_) (fun c3 => ?_)⟩
    · obtain rfl : k = 3 := by have := kEq c; omega
      refine ⟨_, rfl, b, rfl, ite2 (fun _ => ⟨_, rfl, rfl, Nat.le_of_ble_eq_true rfl, hq⟩) (fun _ => ⟨_, rfl, rfl, Nat.le_of_ble_eq_true rfl, hq⟩)⟩
    replace c3 := kNe c3
    refine ⟨_, rfl, rfl, _, rfl, ite2 (fun c => ?_) (fun c4 => ?_)⟩
    · obtain rfl : k = 4 := by have := kEq c; omega
      refine ⟨_, rfl, b, rfl, ite2 (fun _ => ⟨_, rfl, rfl, Nat.le_of_ble_eq_true rfl, hq⟩) (fun _ => ⟨_, rfl, rfl, Nat.le_of_ble_eq_true rfl, hq⟩)⟩
    replace c4 := kNe c4
    refine ⟨_, rfl, rfl, _, rfl, ite2 (fun c => ?_) (fun c5 => ?_)⟩
    · obtain rfl : k = 5 := by have := kEq c; omega
      refine ⟨_, rfl, b, rfl, ite2 (fun _ => ⟨_, rfl, rfl, Nat.le_of_ble_eq_true rfl, hq⟩) (fun _ => ⟨_, rfl, rfl, Nat.le_of_ble_eq_true rfl, hq⟩)⟩
    replace c5 := kNe c5
    refine ⟨_, rfl, rfl, _, rfl, ite2 (fun c => ?_) (fun c6 => ?_)⟩
    · obtain rfl : k = 6 := by have := kEq c; omega
      refine ⟨_, rfl, b, rfl, ite2 (fun _ => ⟨_, rfl, rfl, Nat.le_of_ble_eq_true rfl, hq⟩) (fun _ => ⟨_, rfl, rfl, Nat.le_of_ble_eq_true rfl, hq⟩)⟩
    replace c6 := kNe c6
    refine ⟨_, rfl, rfl, _, rfl, ite2 (fun c => ?_) (fun c7 => ?_)⟩
    · obtain rfl : k = 7 := by have := kEq c; omega
      refine ⟨_, rfl, b, rfl, ite2 (fun _ => ⟨_, rfl, rfl, Nat.le_of_ble_eq_true rfl, hq⟩) (fun _ => ⟨_, rfl, rfl, Nat.le_of_ble_eq_true rfl, hq⟩)⟩
    replace c7 := kNe c7
    refine ⟨_, rfl, rfl, _, rfl, ite2 (fun c => ?_) (fun c8 => ?_)⟩
    · obtain rfl : k = 8 := by have := kEq c; omega
      refine ⟨_, rfl, b, rfl, ite2 (fun _ => ⟨_, rfl, rfl, Nat.le_of_ble_eq_true rfl, hq⟩) (fun _ => ⟨_, rfl, rfl, Nat.le_of_ble_eq_true rfl, hq⟩)⟩
    replace c8 := kNe c8
    refine ⟨_, rfl, rfl, _, rfl, ite2 (fun c => ?_) (fun c9 => ?_)⟩
    · obtain rfl : k = 9 := by have := kEq c; omega
      refine ⟨_, rfl, b, rfl, ite2 (fun _ => ⟨_, rfl, rfl, Nat.le_of_ble_eq_true rfl, hq⟩) (fun _ => ⟨_, rfl, rfl, Nat.le_of_ble_eq_true rfl, hq⟩)⟩
    replace c9 := kNe c9
    refine ⟨_, rfl, rfl, _, rfl, ite2 (fun c => ?_) (fun c10 => ?_)⟩
    · obtain rfl : k = 10 := by have := kEq c; omega
      refine ⟨_, rfl, b, rfl, ite2 (fun _ => ⟨_, rfl, rfl, Nat.le_of_ble_eq_true rfl, hq⟩) (fun _ => ⟨_, rfl, rfl, Nat.le_of_ble_eq_true rfl, hq⟩)⟩
    replace c10 := kNe c10
    refine ⟨_, rfl, rfl, _, rfl, ite2 (fun c => ?_) (fun c11 => ?_)⟩
    · obtain rfl : k = 11 := by have := kEq c; omega
      refine ⟨_, rfl, b, rfl, ite2 (fun _ => ⟨_, rfl, rfl, Nat.le_of_ble_eq_true rfl, hq⟩) (fun _ => ⟨_, rfl, rfl, Nat.le_of_ble_eq_true rfl, hq⟩)⟩
    replace c11 := kNe c11
    refine ⟨_, rfl, rfl, _, rfl, ite2 (fun c => ?_) (fun c12 => ?_)⟩
    · obtain rfl : k = 12 := by have := kEq c; omega
      refine ⟨_, rfl, b, rfl, ite2 (fun _ => ⟨_, rfl, rfl, Nat.le_of_ble_eq_true rfl, hq⟩) (fun _ => ⟨_, rfl, rfl, Nat.le_of_ble_eq_true rfl, hq⟩)⟩
    replace c12 := kNe c12
    refine ⟨_, rfl, rfl, _, rfl, ite2 (fun c => ?_) (fun c13 => ?_)⟩
    · obtain rfl : k = 13 := by have := kEq c; omega
      refine ⟨_, rfl, b, rfl, ite2 (fun _ => ⟨_, rfl, rfl, Nat.le_of_ble_eq_true rfl, hq⟩) (fun _ => ⟨_, rfl, rfl, Nat.le_of_ble_eq_true rfl, hq⟩)⟩
    replace c13 := kNe c13
    exact ⟨_, rfl, _, rfl, _, rfl, _, rfl, k, x, y, b, rfl, by omega, k1, hq⟩
theorem scI2 : FnScope ["k", "error"] ["k", "error"] (defScope (top 67)) := ⟨rfl, rfl, rfl, by decide +kernel, rfl, by decide +kernel, by decide +kernel⟩
theorem okIs2 (B : Blt mg) (E : Errs P w K mg base S C) (F : FnP K "_law_is_2" 67 f fd) : FnOk P w K mg base CX0 1 f fd ["k", "error"] (spIs C 50) := by
  refine F.ok scI2 (fun vs H Q E h => ?_) (fun cdv A outer s H vs Q E0' hr h => ?_)
  · obtain ⟨k, j, a, rfl, _⟩ := h
    rfl
  · obtain ⟨k, j, a, rfl, k0, k1, j1, eo, hq⟩ := h
    refine ⟨_, PSs.nox (pss_cons (ps_if (pt_cmpR op_eq (pv 0) pe_int (nomark _)) (pss_one (ps_ret (pe_callB call_isO (by rfl) B.isi boot_isinstance (pa_cons (pv 1) (pa_cons (pe_cls (E.m 50 (by decide)) rfl) pa_nil))))) pss_nil)
      (pss_one (ps_ret pe_bl))), ?_⟩
    refine ⟨_, rfl, rfl, _, rfl, ite2 (fun c => ?_) (fun c50 => ?_)⟩
    · obtain rfl : k = 50 := by have := kEq c; omega
      exact ⟨_, rfl, E.isO (by decide) j1 eo hq⟩
    replace c50 := kNe c50
    omega
theorem scI1 : FnScope ["k", "error"] ["k", "error"] (defScope (top 66)) := ⟨rfl, rfl, rfl, by decide +kernel, rfl, by decide +kernel, by decide +kernel⟩
theorem okIs1 (B : Blt mg) (E : Errs P w K mg base S C) (G : Fn P w K mg base "_law_is_2" 1 ["k", "error"] (spIs C 50)) (F : FnP K "_law_is_1" 66 f fd) : FnOk P w K mg base CX0 2 f fd ["k", "error"] (spIs C 25) := by
  refine F.ok scI1 (fun vs H Q E h => ?_) (fun cdv A outer s H vs Q E0' hr h => ?_)
  · obtain ⟨k, j, a, rfl, _⟩ := h
    rfl
  · obtain ⟨k, j, a, rfl, k0, k1, j1, eo, hq⟩ := h
    refine ⟨_, PSs.nox (pss_cons (ps_if (pt_cmpR op_eq (pv 0) pe_int (nomark _)) (pss_one (ps_ret (pe_callB call_isO (by rfl) B.isi boot_isinstance (pa_cons (pv 1) (pa_cons (pe_cls (E.m 25 (by decide)) rfl) pa_nil))))) pss_nil)
      (pss_cons (ps_if (pt_cmpR op_eq (pv 0) pe_int (nomark _)) (pss_one (ps_ret (pe_callB call_isO (by rfl) B.isi boot_isinstance (pa_cons (pv 1) (pa_cons (pe_cls (E.m 26 (by decide)) rfl) pa_nil))))) pss_nil)
      (pss_cons (ps_if (pt_cmpR op_eq (pv 0) pe_int (nomark _)) (pss_one (ps_ret (pe_callB call_isO (by rfl) B.isi boot_isinstance (pa_cons (pv 1) (pa_cons (pe_cls (E.m 27 (by decide)) rfl) pa_nil))))) pss_nil)
      (pss_cons (ps_if (pt_cmpR op_eq (pv 0) pe_int (nomark _)) (pss_one (ps_ret (pe_callB call_isO (by rfl) B.isi boot_isinstance (pa_cons (pv 1) (pa_cons (pe_cls (E.m 28 (by decide)) rfl) pa_nil))))) pss_nil)
      (pss_cons (ps_if (pt_cmpR op_eq (pv 0) pe_int (nomark _)) (pss_one (ps_ret (pe_callB call_isO (by rfl) B.isi boot_isinstance (pa_cons (pv 1) (pa_cons (pe_cls (E.m 29 (by decide)) rfl) pa_nil))))) pss_nil)
      (pss_cons (ps_if (pt_cmpR op_eq (pv 0) pe_int (nomark _)) (pss_one (ps_ret (pe_callB call_isO (by rfl) B.isi boot_isinstance (pa_cons (pv 1) (pa_cons (pe_cls (E.m 30 (by decide)) rfl) pa_nil))))) pss_nil)
      (pss_cons (ps_if (pt_cmpR op_eq (pv 0) pe_int (nomark _)) (pss_one (ps_ret (pe_callB call_isO (by rfl) B.isi boot_isinstance (pa_cons (pv 1) (pa_cons (pe_cls (E.m 31 (by decide)) rfl) pa_nil))))) pss_nil)
      (pss_cons (ps_if (pt_cmpR op_eq (pv 0) pe_int (nomark _)) (pss_one (ps_ret (pe_callB call_isO (by rfl) B.isi boot_isinstance (pa_cons (pv 1) (pa_cons (pe_cls (E.m 32 (by decide)) rfl) pa_nil))))) pss_nil)
      (pss_cons (ps_if (pt_cmpR op_eq (pv 0) pe_int (nomark _)) (pss_one (ps_ret (pe_callB call_isO (by rfl) B.isi boot_isinstance (pa_cons (pv 1) (pa_cons (pe_cls (E.m 33 (by decide)) rfl) pa_nil))))) pss_nil)
      (pss_cons (ps_if (pt_cmpR op_eq (pv 0) pe_int (nomark _)) (pss_one (ps_ret (pe_callB call_isO (by rfl) B.isi boot_isinstance (pa_cons (pv 1) (pa_cons (pe_cls (E.m 34 (by decide)) rfl) pa_nil))))) pss_nil)
      (pss_cons (ps_if (pt_cmpR op_eq (pv 0) pe_int (nomark _)) (pss_one (ps_ret (pe_callB call_isO (by rfl) B.isi boot_isinstance (pa_cons (pv 1) (pa_cons (pe_cls (E.m 35 (by decide)) rfl) pa_nil))))) pss_nil)
      (pss_cons (ps_if (pt_cmpR op_eq (pv 0) pe_int (nomark _)) (pss_one (ps_ret (pe_callB call_isO (by rfl) B.isi boot_isinstance (pa_cons (pv 1) (pa_cons (pe_cls (E.m 36 (by decide)) rfl) pa_nil))))) pss_nil)
      (pss_cons (ps_if (pt_cmpR op_eq (pv 0) pe_int (nomark _)) (pss_one (ps_ret (pe_callB call_isO (by rfl) B.isi boot_isinstance (pa_cons (pv 1) (pa_cons (pe_cls (E.m 37 (by decide)) rfl) pa_nil))))) pss_nil)
      (pss_cons (ps_if (pt_cmpR op_eq (pv 0) pe_int (nomark _)) (pss_one (ps_ret (pe_callB call_isO (by rfl) B.isi boot_isinstance (pa_cons (pv 1) (pa_cons (pe_cls (E.m 38 (by decide)) rfl) pa_nil))))) pss_nil)
      (pss_cons (ps_if (pt_cmpR op_eq (pv 0) pe_int (nomark _)) (pss_one (ps_ret (pe_callB call_isO (by rfl) B.isi boot_isinstance (pa_cons (pv 1) (pa_cons (pe_cls (E.m 39 (by decide)) rfl) pa_nil))))) pss_nil)
      (pss_cons (ps_if (pt_cmpR op_eq (pv 0) pe_int (nomark _)) (pss_one (ps_ret (pe_callB call_isO (by rfl) B.isi boot_isinstance (pa_cons (pv 1) (pa_cons (pe_cls (E.m 40 (by decide)) rfl) pa_nil))))) pss_nil)
      (pss_cons (ps_if (pt_cmpR op_eq (pv 0) pe_int (nomark _)) (pss_one (ps_ret (pe_callB call_isO (by rfl) B.isi boot_isinstance (pa_cons (pv 1) (pa_cons (pe_cls (E.m 41 (by decide)) rfl) pa_nil))))) pss_nil)
      (pss_cons (ps_if (pt_cmpR op_eq (pv 0) pe_int (nomark _)) (pss_one (ps_ret (pe_callB call_isO (by rfl) B.isi boot_isinstance (pa_cons (pv 1) (pa_cons (pe_cls (E.m 42 (by decide)) rfl) pa_nil))))) pss_nil)
      (pss_cons (ps_if (pt_cmpR op_eq (pv 0) pe_int (nomark _)) (pss_one (ps_ret (pe_callB call_isO (by rfl) B.isi boot_isinstance (pa_cons (pv 1) (pa_cons (pe_cls (E.m 43 (by decide)) rfl) pa_nil))))) pss_nil)
      (pss_cons (ps_if (pt_cmpR op_eq (pv 0) pe_int (nomark _)) (pss_one (ps_ret (pe_callB call_isO (by rfl) B.isi boot_isinstance (pa_cons (pv 1) (pa_cons (pe_cls (E.m 44 (by decide)) rfl) pa_nil))))) pss_nil)
      (pss_cons (ps_if (pt_cmpR op_eq (pv 0) pe_int (nomark _)) (pss_one (ps_ret (pe_callB call_isO (by rfl) B.isi boot_isinstance (pa_cons (pv 1) (pa_cons (pe_cls (E.m 45 (by decide)) rfl) pa_nil))))) pss_nil)
      (pss_cons (ps_if (pt_cmpR op_eq (pv 0) pe_int (nomark _)) (pss_one (ps_ret (pe_callB call_isO (by rfl) B.isi boot_isinstance (pa_cons (pv 1) (pa_cons (pe_cls (E.m 46 (by decide)) rfl) pa_nil))))) pss_nil)
      (pss_cons (ps_if (pt_cmpR op_eq (pv 0) pe_int (nomark _)) (pss_one (ps_ret (pe_callB call_isO (by rfl) B.isi boot_isinstance (pa_cons (pv 1) (pa_cons (pe_cls (E.m 47 (by decide)) rfl) pa_nil))))) pss_nil)
      (pss_cons (ps_if (pt_cmpR op_eq (pv 0) pe_int (nomark _)) (pss_one (ps_ret (pe_callB call_isO (by rfl) B.isi boot_isinstance (pa_cons (pv 1) (pa_cons (pe_cls (E.m 48 (by decide)) rfl) pa_nil))))) pss_nil)
      (pss_cons (ps_if (pt_cmpR op_eq (pv 0) pe_int (nomark _)) (pss_one (ps_ret (pe_callB call_isO (by rfl) B.isi boot_isinstance (pa_cons (pv 1) (pa_cons (pe_cls (E.m 49 (by decide)) rfl) pa_nil))))) pss_nil)
      (pss_one (ps_ret (pe_fn G hr rfl (pa_cons (pv 0) (pa_cons (pv 1) pa_nil)))))))))))))))))))))))))))))), ?_⟩
    refine ⟨_, rfl, rfl, _, rfl, ite2 (fun c => ?_) (fun c25 => ?_)⟩
    · obtain rfl : k = 25 := by have := kEq c; omega
      exact ⟨_, rfl, E.isO (by decide) j1 eo hq⟩
    replace c25 := kNe c25
    refine ⟨_, rfl, rfl, _, rfl, ite2 (fun c => ?_) (fun c26 => ?_)⟩
    · obtain rfl : k = 26 := by have := kEq c; omega
      exact ⟨_, rfl, E.isO (by decide) j1 eo hq⟩
    replace c26 := kNe c26
    refine ⟨_, rfl, rfl, _, rfl, ite2 (fun c => ?_) (fun c27 => ?_)⟩
    · obtain rfl : k = 27 := by have := kEq c; omega
      exact ⟨_, rfl, E.isO (by decide) j1 eo hq⟩
    replace c27 := kNe c27
    refine ⟨_, rfl, rfl, _, rfl, ite2 (fun c => ?_) (fun c28 => ?_)⟩
    · obtain rfl : k = 28 := by have := kEq c; omega
      exact ⟨_, rfl, E.isO (by decide) j1 eo hq⟩
    replace c28 := kNe c28
    refine ⟨_, rfl, rfl, _, rfl, ite2 (fun c => ?_) (fun c29 => ?_)⟩
    · obtain rfl : k = 29 := by have := kEq c; omega
      exact ⟨_, rfl, E.isO (by decide) j1 eo hq⟩
    replace c29 := kNe c29
    refine ⟨_, rfl, rfl, _, rfl, ite2 (fun c => ?_) (fun c30 => ?_)⟩
    · obtain rfl : k = 30 := by have := kEq c; omega
      exact ⟨_, rfl, E.isO (by decide) j1 eo hq⟩
    replace c30 := kNe c30
    refine ⟨_, rfl, rfl, _, rfl, ite2 (fun c => ?_) (fun c31 => ?_)⟩
    · obtain rfl : k = 31 := by have := kEq c; omega
      exact ⟨_, rfl, E.isO (by decide) j1 eo hq⟩
    replace c31 := kNe c31
    refine ⟨_, rfl, rfl, _, rfl, ite2 (fun c => ?_) (fun c32 => ?_)⟩
    · obtain rfl : k = 32 := by have := kEq c; omega
      exact ⟨_, rfl, E.isO (by decide) j1 eo hq⟩
    replace c32 := kNe c32
    refine ⟨_, rfl, rfl, _, rfl, ite2 (fun c => ?_) (fun c33 => ?_)⟩
    · obtain rfl : k = 33 := by have := kEq c; omega
      exact ⟨_, rfl, E.isO (by decide) j1 eo hq⟩
    replace c33 := kNe c33
    refine ⟨_, rfl, rfl, _, rfl, ite2 (fun c => ?_) (fun c34 => ?_)⟩
    · obtain rfl : k = 34 := by have := kEq c; omega
      exact ⟨_, rfl, E.isO (by decide) j1 eo hq⟩
    replace c34 := kNe c34
    refine ⟨_, rfl, rfl, _, rfl, ite2 (fun c => ?_) (fun c35 => ?_)⟩
    · obtain rfl : k = 35 := by have := kEq c; omega
      exact ⟨_, rfl, E.isO (by decide) j1 eo hq⟩
    replace c35 := kNe c35
    refine ⟨_, rfl, rfl, _, rfl, ite2 (fun c => ?_) (fun c36 => ?_)⟩
    · obtain rfl : k = 36 := by have := kEq c; omega
      exact ⟨_, rfl, E.isO (by decide) j1 eo hq⟩
    replace c36 := kNe c36
    refine ⟨_, rfl, rfl, _, rfl, ite2 (fun c => ?_) (fun c37 => ?_)⟩
    · obtain rfl : k = 37 := by have := kEq c; omega
      exact ⟨_, rfl, E.isO (by decide) j1 eo hq⟩
    replace c37 := kNe c37
    refine ⟨_, rfl, rfl, _, rfl, ite2 (fun c => ?_) (fun c38 => ?_)⟩
    · obtain rfl : k = 38 := by have := kEq c; omega
      exact ⟨_, rfl, E.isO (by decide) j1 eo hq⟩
    replace c38 := kNe c38
    refine ⟨_, rfl, rfl, _, rfl, ite2 (fun c => ?_) (fun c39 => ?_)⟩
    · obtain rfl : k = 39 := by have := kEq c; omega
      exact ⟨_, rfl, E.isO (by decide) j1 eo hq⟩
    replace c39 := kNe c39
    refine ⟨_, rfl, rfl, _, rfl, ite2 (fun c => ?_) (fun c40 => ?_)⟩
    · obtain rfl : k = 40 := by have := kEq c; omega
      exact ⟨_, rfl, E.isO (by decide) j1 eo hq⟩
    replace c40 := kNe c40
    refine ⟨_, rfl, rfl, _, rfl, ite2 (fun c => ?_) (fun c41 => ?_)⟩
    · obtain rfl : k = 41 := by have := kEq c; omega
      exact ⟨_, rfl, E.isO (by decide) j1 eo hq⟩
    replace c41 := kNe c41
    refine ⟨_, rfl, rfl, _, rfl, ite2 (fun c => ?_) (fun c42 => ?_)⟩
    · obtain rfl : k = 42 := by have := kEq c; omega
      exact ⟨_, rfl, E.isO (by decide) j1 eo hq⟩
    replace c42 := kNe c42
    refine ⟨_, rfl, rfl, _, rfl, ite2 (fun c => ?_) (fun c43 => ?_)⟩
    · obtain rfl : k = 43 := by have := kEq c; omega
      exact ⟨_, rfl, E.isO (by decide) j1 eo hq⟩
    replace c43 := kNe c43
    refine ⟨_, rfl, rfl, _, rfl, ite2 (fun c => ?_) (fun c44 => ?_)⟩
    · obtain rfl : k = 44 := by have := kEq c; omega
      exact ⟨_, rfl, E.isO (by decide) j1 eo hq⟩
    replace c44 := kNe c44
    refine ⟨_, rfl, rfl, _, rfl, ite2 (fun c => ?_) (fun c45 => ?_)⟩
    · obtain rfl : k = 45 := by have := kEq c; omega
      exact ⟨_, rfl, E.isO (by decide) j1 eo hq⟩
    replace c45 := kNe c45
    refine ⟨_, rfl, rfl, _, rfl, ite2 (fun c => ?_) (fun c46 => ?_)⟩
    · obtain rfl : k = 46 := by have := kEq c; omega
      exact ⟨_, rfl, E.isO (by decide) j1 eo hq⟩
    replace c46 := kNe c46
    refine ⟨_, rfl, rfl, _, rfl, ite2 (fun c => ?_) (fun c47 => ?_)⟩
    · obtain rfl : k = 47 := by have := kEq c; omega
      exact ⟨_, rfl, E.isO (by decide) j1 eo hq⟩
    replace c47 := kNe c47
    refine ⟨_, rfl, rfl, _, rfl, ite2 (fun c => ?_) (fun c48 => ?_)⟩
    · obtain rfl : k = 48 := by have := kEq c; omega
      exact ⟨_, rfl, E.isO (by decide) j1 eo hq⟩
    replace c48 := kNe c48
    refine ⟨_, rfl, rfl, _, rfl, ite2 (fun c => ?_) (fun c49 => ?_)⟩
    · obtain rfl : k = 49 := by have := kEq c; omega
      exact ⟨_, rfl, E.isO (by decide) j1 eo hq⟩
    replace c49 := kNe c49
    exact ⟨_, rfl, _, rfl, k, j, a, rfl, by omega, k1, j1, eo, hq⟩
theorem scI0 : FnScope ["k", "error"] ["k", "error"] (defScope (top 65)) := ⟨rfl, rfl, rfl, by decide +kernel, rfl, by decide +kernel, by decide +kernel⟩
theorem okIs0 (B : Blt mg) (E : Errs P w K mg base S C) (G : Fn P w K mg base "_law_is_1" 2 ["k", "error"] (spIs C 25)) (F : FnP K "_law_is_0" 65 f fd) : FnOk P w K mg base CX0 3 f fd ["k", "error"] (spIs C 0) := by
  refine F.ok scI0 (fun vs H Q E h => ?_) (fun cdv A outer s H vs Q E0' hr h => ?_)
  · obtain ⟨k, j, a, rfl, _⟩ := h
    rfl
  · obtain ⟨k, j, a, rfl, k0, k1, j1, eo, hq⟩ := h
    refine ⟨_, PSs.nox (pss_cons (ps_if (pt_cmpR op_eq (pv 0) pe_int (nomark _)) (pss_one (ps_ret (pe_callB call_isO (by rfl) B.isi boot_isinstance (pa_cons (pv 1) (pa_cons (pe_cls (E.m 0 (by decide)) rfl) pa_nil))))) pss_nil)
      (pss_cons (ps_if (pt_cmpR op_eq (pv 0) pe_int (nomark _)) (pss_one (ps_ret (pe_callB call_isO (by rfl) B.isi boot_isinstance (pa_cons (pv 1) (pa_cons (pe_cls (E.m 1 (by decide)) rfl) pa_nil))))) pss_nil)
      (pss_cons (ps_if (pt_cmpR op_eq (pv 0) pe_int (nomark _)) (pss_one (ps_ret (pe_callB call_isO (by rfl) B.isi boot_isinstance (pa_cons (pv 1) (pa_cons (pe_cls (E.m 2 (by decide)) rfl) pa_nil))))) pss_nil)
      (pss_cons (ps_if (pt_cmpR op_eq (pv 0) pe_int (nomark _)) (pss_one (ps_ret (pe_callB call_isO (by rfl) B.isi boot_isinstance (pa_cons (pv 1) (pa_cons (pe_cls (E.m 3 (by decide)) rfl) pa_nil))))) pss_nil)
      (pss_cons (ps_if (pt_cmpR op_eq (pv 0) pe_int (nomark _)) (pss_one (ps_ret (pe_callB call_isO (by rfl) B.isi boot_isinstance (pa_cons (pv 1) (pa_cons (pe_cls (E.m 4 (by decide)) rfl) pa_nil))))) pss_nil)
      (pss_cons (ps_if (pt_cmpR op_eq (pv 0) pe_int (nomark _)) (pss_one (ps_ret (pe_callB call_isO (by rfl) B.isi boot_isinstance (pa_cons (pv 1) (pa_cons (pe_cls (E.m 5 (by decide)) rfl) pa_nil))))) pss_nil)
      (pss_cons (ps_if (pt_cmpR op_eq (pv 0) pe_int (nomark _)) (pss_one (ps_ret (pe_callB call_isO (by rfl) B.isi boot_isinstance (pa_cons (pv 1) (pa_cons (pe_cls (E.m 6 (by decide)) rfl) pa_nil))))) pss_nil)
      (pss_cons (ps_if (pt_cmpR op_eq (pv 0) pe_int (nomark _)) (pss_one (ps_ret (pe_callB call_isO (by rfl) B.isi boot_isinstance (pa_cons (pv 1) (pa_cons (pe_cls (E.m 7 (by decide)) rfl) pa_nil))))) pss_nil)
      (pss_cons (ps_if (pt_cmpR op_eq (pv 0) pe_int (nomark _)) (pss_one (ps_ret (pe_callB call_isO (by rfl) B.isi boot_isinstance (pa_cons (pv 1) (pa_cons (pe_cls (E.m 8 (by decide)) rfl) pa_nil))))) pss_nil)
      (pss_cons (ps_if (pt_cmpR op_eq (pv 0) pe_int (nomark _)) (pss_one (ps_ret (pe_callB call_isO (by rfl) B.isi boot_isinstance (pa_cons (pv 1) (pa_cons (pe_cls (E.m 9 (by decide)) rfl) pa_nil))))) pss_nil)
      (pss_cons (ps_if (pt_cmpR op_eq (pv 0) pe_int (nomark _)) (pss_one (ps_ret (pe_callB call_isO (by rfl) B.isi boot_isinstance (pa_cons (pv 1) (pa_cons (pe_cls (E.m 10 (by decide)) rfl) pa_nil))))) pss_nil)
      (pss_cons (ps_if (pt_cmpR op_eq (pv 0) pe_int (nomark _)) (pss_one (ps_ret (pe_callB call_isO (by rfl) B.isi boot_isinstance (pa_cons (pv 1) (pa_cons (pe_cls (E.m 11 (by decide)) rfl) pa_nil))))) pss_nil)
      (pss_cons (ps_if (pt_cmpR op_eq (pv 0) pe_int (nomark _)) (pss_one (ps_ret (pe_callB call_isO (by rfl) B.isi boot_isinstance (pa_cons (pv 1) (pa_cons (pe_cls (E.m 12 (by decide)) rfl) pa_nil))))) pss_nil)
      (pss_cons (ps_if (pt_cmpR op_eq (pv 0) pe_int (nomark _)) (pss_one (ps_ret (pe_callB call_isO (by rfl) B.isi boot_isinstance (pa_cons (pv 1) (pa_cons (pe_cls (E.m 13 (by decide)) rfl) pa_nil))))) pss_nil)
      (pss_cons (ps_if (pt_cmpR op_eq (pv 0) pe_int (nomark _)) (pss_one (ps_ret (pe_callB call_isO (by rfl) B.isi boot_isinstance (pa_cons (pv 1) (pa_cons (pe_cls (E.m 14 (by decide)) rfl) pa_nil))))) pss_nil)
      (pss_cons (ps_if (pt_cmpR op_eq (pv 0) pe_int (nomark _)) (pss_one (ps_ret (pe_callB call_isO (by rfl) B.isi boot_isinstance (pa_cons (pv 1) (pa_cons (pe_cls (E.m 15 (by decide)) rfl) pa_nil))))) pss_nil)
      (pss_cons (ps_if (pt_cmpR op_eq (pv 0) pe_int (nomark _)) (pss_one (ps_ret (pe_callB call_isO (by rfl) B.isi boot_isinstance (pa_cons (pv 1) (pa_cons (pe_cls (E.m 16 (by decide)) rfl) pa_nil))))) pss_nil)
      (pss_cons (ps_if (pt_cmpR op_eq (pv 0) pe_int (nomark _)) (pss_one (ps_ret (pe_callB call_isO (by rfl) B.isi boot_isinstance (pa_cons (pv 1) (pa_cons (pe_cls (E.m 17 (by decide)) rfl) pa_nil))))) pss_nil)
      (pss_cons (ps_if (pt_cmpR op_eq (pv 0) pe_int (nomark _)) (pss_one (ps_ret (pe_callB call_isO (by rfl) B.isi boot_isinstance (pa_cons (pv 1) (pa_cons (pe_cls (E.m 18 (by decide)) rfl) pa_nil))))) pss_nil)
      (pss_cons (ps_if (pt_cmpR op_eq (pv 0) pe_int (nomark _)) (pss_one (ps_ret (pe_callB call_isO (by rfl) B.isi boot_isinstance (pa_cons (pv 1) (pa_cons (pe_cls (E.m 19 (by decide)) rfl) pa_nil))))) pss_nil)
      (pss_cons (ps_if (pt_cmpR op_eq (pv 0) pe_int (nomark _)) (pss_one (ps_ret (pe_callB call_isO (by rfl) B.isi boot_isinstance (pa_cons (pv 1) (pa_cons (pe_cls (E.m 20 (by decide)) rfl) pa_nil))))) pss_nil)
      (pss_cons (ps_if (pt_cmpR op_eq (pv 0) pe_int (nomark _)) (pss_one (ps_ret (pe_callB call_isO (by rfl) B.isi boot_isinstance (pa_cons (pv 1) (pa_cons (pe_cls (E.m 21 (by decide)) rfl) pa_nil))))) pss_nil)
      (pss_cons (ps_if (pt_cmpR op_eq (pv 0) pe_int (nomark _)) (pss_one (ps_ret (pe_callB call_isO (by rfl) B.isi boot_isinstance (pa_cons (pv 1) (pa_cons (pe_cls (E.m 22 (by decide)) rfl) pa_nil))))) pss_nil)
      (pss_cons (ps_if (pt_cmpR op_eq (pv 0) pe_int (nomark _)) (pss_one (ps_ret (pe_callB call_isO (by rfl) B.isi boot_isinstance (pa_cons (pv 1) (pa_cons (pe_cls (E.m 23 (by decide)) rfl) pa_nil))))) pss_nil)
      (pss_cons (ps_if (pt_cmpR op_eq (pv 0) pe_int (nomark _)) (pss_one (ps_ret (pe_callB call_isO (by rfl) B.isi boot_isinstance (pa_cons (pv 1) (pa_cons (pe_cls (E.m 24 (by decide)) rfl) pa_nil))))) pss_nil)
      (pss_one (ps_ret (pe_fn G hr rfl (pa_cons (pv 0) (pa_cons (pv 1) pa_nil)))))))))))))))))))))))))))))), ?_⟩
    refine ⟨_, rfl, rfl, _, rfl, ite2 (fun c => ?_) (fun c0 => ?_)⟩
    · obtain rfl : k = 0 := by have := kEq c; omega
      exact ⟨_, rfl, E.isO (by decide) j1 eo hq⟩
    replace c0 := kNe c0
    refine ⟨_, rfl, rfl, _, rfl, ite2 (fun c => ?_) (fun c1 => ?_)⟩
    · obtain rfl : k = 1 := by have := kEq c; omega
      exact ⟨_, rfl, E.isO (by decide) j1 eo hq⟩
    replace c1 := kNe c1
    refine ⟨_, rfl, rfl, _, rfl, ite2 (fun c => ?_) (fun c2 => ?_)⟩
    · obtain rfl : k = 2 := by have := kEq c; omega
      exact ⟨_, rfl, E.isO (by decide) j1 eo hq⟩
    replace c2 := kNe c2
    refine ⟨_, rfl, rfl, _, rfl, ite2 (fun c => ?_) (fun c3 => ?_)⟩
    · obtain rfl : k = 3 := by have := kEq c; omega
      exact ⟨_, rfl, E.isO (by decide) j1 eo hq⟩
    replace c3 := kNe c3
    refine ⟨_, rfl, rfl, _, rfl, ite2 (fun c => ?_) (fun c4 => ?_)⟩
    · obtain rfl : k = 4 := by have := kEq c; omega
      exact ⟨_, rfl, E.isO (by decide) j1 eo hq⟩
    replace c4 := kNe c4
    refine ⟨_, rfl, rfl, _, rfl, ite2 (fun c => ?_) (fun c5 => ?_)⟩
    · obtain rfl : k = 5 := by have := kEq c; omega
      exact ⟨_, rfl, E.isO (by decide) j1 eo hq⟩
    replace c5 := kNe c5
    refine ⟨_, rfl, rfl, _, rfl, ite2 (fun c => ?_) (fun c6 => ?_)⟩
    · obtain rfl : k = 6 := by have := kEq c; omega
      exact ⟨_, rfl, E.isO (by decide) j1 eo hq⟩
    replace c6 := kNe c6
    refine ⟨_, rfl, rfl, _, rfl, ite2 (fun c => ?_) (fun c7 => ?_)⟩
    · obtain rfl : k = 7 := by have := kEq c; omega
      exact ⟨_, rfl, E.isO (by decide) j1 eo hq⟩
    replace c7 := kNe c7
    refine ⟨_, rfl, rfl, _, rfl, ite2 (fun c => ?_) (fun c8 => ?_)⟩
    · obtain rfl : k = 8 := by have := kEq c; omega
      exact ⟨_, rfl, E.isO (by decide) j1 eo hq⟩
    replace c8 := kNe c8
    refine ⟨_, rfl, rfl, _, rfl, ite2 (fun c => ?_) (fun c9 => ?_)⟩
    · obtain rfl : k = 9 := by have := kEq c; omega
      exact ⟨_, rfl, E.isO (by decide) j1 eo hq⟩
    replace c9 := kNe c9
    refine ⟨_, rfl, rfl, _, rfl, ite2 (fun c => ?_) (fun c10 => ?_)⟩
    · obtain rfl : k = 10 := by have := kEq c; omega
      exact ⟨_, rfl, E.isO (by decide) j1 eo hq⟩
    replace c10 := kNe c10
    refine ⟨_, rfl, rfl, _, rfl, ite2 (fun c => ?_) (fun c11 => ?_)⟩
    · obtain rfl : k = 11 := by have := kEq c; omega
      exact ⟨_, rfl, E.isO (by decide) j1 eo hq⟩
    replace c11 := kNe c11
    refine ⟨_, rfl, rfl, _, rfl, ite2 (fun c => ?_) (fun c12 => ?_)⟩
    · obtain rfl : k = 12 := by have := kEq c; omega
      exact ⟨_, rfl, E.isO (by decide) j1 eo hq⟩
    replace c12 := kNe c12
    refine ⟨_, rfl, rfl, _, rfl, ite2 (fun c => ?_) (fun c13 => ?_)⟩
    · obtain rfl : k = 13 := by have := kEq c; omega
      exact ⟨_, rfl, E.isO (by decide) j1 eo hq⟩
    replace c13 := kNe c13
    refine ⟨_, rfl, rfl, _, rfl, ite2 (fun c => ?_) (fun c14 => ?_)⟩
    · obtain rfl : k = 14 := by have := kEq c; omega
      exact ⟨_, rfl, E.isO (by decide) j1 eo hq⟩
    replace c14 := kNe c14
    refine ⟨_, rfl, rfl, _, rfl, ite2 (fun c => ?_) (fun c15 => ?_)⟩
    · obtain rfl : k = 15 := by have := kEq c; omega
      exact ⟨_, rfl, E.isO (by decide) j1 eo hq⟩
    replace c15 := kNe c15
    refine ⟨_, rfl, rfl, _, rfl, ite2 (fun c => ?_) (fun c16 => ?_)⟩
    · obtain rfl : k = 16 := by have := kEq c; omega
      exact ⟨_, rfl, E.isO (by decide) j1 eo hq⟩
    replace c16 := kNe c16
    refine ⟨_, rfl, rfl, _, rfl, ite2 (fun c => ?_) (fun c17 => ?_)⟩
    · obtain rfl : k = 17 := by have := kEq c; omega
      exact ⟨_, rfl, E.isO (by decide) j1 eo hq⟩
    replace c17 := kNe c17
    refine ⟨_, rfl, rfl, _, rfl, ite2 (fun c => ?_) (fun c18 => ?_)⟩
    · obtain rfl : k = 18 := by have := kEq c; omega
      exact ⟨_, rfl, E.isO (by decide) j1 eo hq⟩
    replace c18 := kNe c18
    refine ⟨_, rfl, rfl, _, rfl, ite2 (fun c => ?_) (fun c19 => ?_)⟩
    · obtain rfl : k = 19 := by have := kEq c; omega
      exact ⟨_, rfl, E.isO (by decide) j1 eo hq⟩
    replace c19 := kNe c19
    refine ⟨_, rfl, rfl, _, rfl, ite2 (fun c => ?_) (fun c20 => ?_)⟩
    · obtain rfl : k = 20 := by have := kEq c; omega
      exact ⟨_, rfl, E.isO (by decide) j1 eo hq⟩
    replace c20 := kNe c20
    refine ⟨_, rfl, rfl, _, rfl, ite2 (fun c => ?_) (fun c21 => ?_)⟩
    · obtain rfl : k = 21 := by have := kEq c; omega
      exact ⟨_, rfl, E.isO (by decide) j1 eo hq⟩
    replace c21 := kNe c21
    refine ⟨_, rfl, rfl, _, rfl, ite2 (fun c => ?_) (fun c22 => ?_)⟩
    · obtain rfl : k = 22 := by have := kEq c; omega
      exact ⟨_, rfl, E.isO (by decide) j1 eo hq⟩
    replace c22 := kNe c22
    refine ⟨_, rfl, rfl, _, rfl, ite2 (fun c => ?_) (fun c23 => ?_)⟩
    · obtain rfl : k = 23 := by have := kEq c; omega
      exact ⟨_, rfl, E.isO (by decide) j1 eo hq⟩
    replace c23 := kNe c23
    refine ⟨_, rfl, rfl, _, rfl, ite2 (fun c => ?_) (fun c24 => ?_)⟩
    · obtain rfl : k = 24 := by have := kEq c; omega
      exact ⟨_, rfl, E.isO (by decide) j1 eo hq⟩
    replace c24 := kNe c24
    exact ⟨_, rfl, _, rfl, k, j, a, rfl, by omega, k1, j1, eo, hq⟩
end
end K99

/-! ## D3 -/
set_option Elab.async false
set_option linter.all false
set_option maxRecDepth 100000
set_option maxHeartbeats 4000000
namespace K99
open PySem PySem.Spec PyProof.Rows L2
theorem _root_.L2.ErrAt.get {H : Hp} {a C : Addr} {fs : List (Str × V)} {n : Str} {v : V} (e : ErrAt H a C fs) (h : fs.lookup n = some v) : ∃ d gs, d ≠ a ∧ H a = some (exo a C (some d)) ∧ H d = some (exd d gs) ∧ gs.lookup n = some v := by
  obtain ⟨od, h1, h2, h3⟩ := e
  cases od with
  | none =>
    rw [h2 rfl] at h
    cases h
  | some d =>
    obtain ⟨ne, gs, h4, h5⟩ := h3 d rfl
    exact ⟨d, gs, ne, h1, h4, h5 n v h⟩
/-- the attributes -/
def spFields (C : Nat → Addr) : Sp := fun vs H Q _ => ∃ (k : Nat) (a : Addr) (x y : V), vs = [.int k, .ref a] ∧ k < 51 ∧ ErrAt H a (C k) ((fl k).zip [x, y]) ∧
  ∀ p H', H p = none → Same H H' → H' p = some (.lst ([x, y].take (fl k).length)) → Q (.ref p) H'
section
variable {P : Program} {w : World} {K : PySem.W.Frag} {mg : Str → Option Value} {base : Heap} {f S : Addr} {fd : FuncData} {C : Nat → Addr}
theorem xoR {k i : Nat} {a : Addr} {H : Hp} {Q : VK} {σ : L2.St} {fs : List (Str × V)} {n : Str} {v : V} (E : Errs P w K mg base S C) (hk : k < 51) (hn : n ∈ fl k) (e : ErrAt H a (C k) fs) (hl : fs.lookup n = some v) (hs : σ[i]? = some (some (.ref a))) (q : Q v H) : tXo K n (tVar i) σ H Q := by
  obtain ⟨fI, fd, T, _⟩ := (E.m k hk).ex
  obtain ⟨d, gs, _, h1, h2, h3⟩ := e.get hl
  exact ⟨_, hs, a, S, C k, fI, d, fl k, gs, v, rfl, T, hn, h1, h2, h3, q⟩
theorem inV_int (k : Int) : ∀ ns : List Int, inV (.int k) (ns.map V.int) = decide (∃ n ∈ ns, k = n)
  | [] => by simp [inV]
  | n :: ns => by
    have ih := inV_int k ns
    show (eqV (.int n) (.int k) || inV (.int k) (ns.map V.int)) = _
    rw [ih, show eqV (.int n) (.int k) = (n == k) from rfl, Bool.eq_iff_iff, Bool.or_eq_true, beq_iff_eq, decide_eq_true_eq, decide_eq_true_eq]
    constructor
    · rintro (rfl | ⟨m, hm, e⟩)
      · exact ⟨_, List.mem_cons_self, rfl⟩
      · exact ⟨m, List.mem_cons_of_mem _ hm, e⟩
    · rintro ⟨m, hm, e⟩
      rcases List.mem_cons.mp hm with rfl | hm
      · exact .inl e.symm
      · exact .inr ⟨m, hm, e⟩
theorem ifIn {K : PySem.W.Frag} {k : Nat} {ns : List Int} {t u : TS} {ta : TA} {D : Ends} {σ : L2.St} {H : Hp} (hta : ∀ H Q, Q (ns.map V.int) H → ta σ H Q) (hk : σ[0]? = some (some (.int (k : Int)))) (hl : ns.length ≤ 100)
    (h1 : ∀ H', Same H H' → (∃ n ∈ ns, (k : Int) = n) → t D σ H') (h2 : ∀ H', Same H H' → (¬ ∃ n ∈ ns, (k : Int) = n) → u D σ H') : tIfS (tTest (tOp (rIn K false) (tVar 0) (tTup ta))) t u D σ H := by
  have ha : ∀ l : List Int, (l.map V.int).all flatV = true := fun l => by
    induction l with
    | nil => rfl
    | cons n l ih => exact ih
  refine ⟨_, hk, hta _ _ ⟨by rw [List.length_map, sizeLine_eq]; omega, fun p hp => ⟨p, _, rfl, .inr (.inl (.inl upd_same)), rfl, ha _, _, rfl, ?_⟩⟩⟩
  refine ite2 (fun c => h1 _ (Same.upd hp) ?_) (fun c => h2 _ (Same.upd hp) ?_)
  · rw [if_neg (by decide), inV_int] at c
    exact of_decide_eq_true c
  · rw [if_neg (by decide), inV_int] at c
    exact fun z => c (decide_eq_true z)
theorem twoX {k i : Nat} {a : Addr} {H : Hp} {Q : VK} {σ : L2.St} {fs : List (Str × V)} {n m : Str} {v u : V} (E : Errs P w K mg base S C) (hk : k < 51) (hn : n ∈ fl k) (hm : m ∈ fl k) (e : ErrAt H a (C k) fs) (hl : fs.lookup n = some v) (hl2 : fs.lookup m = some u) (hs : σ[i]? = some (some (.ref a)))
    (q : ∀ p, H p = none → Q (.ref p) (upd H p (.lst [v, u]))) : tLst (tCons (tXo K n (tVar i)) (tCons (tXo K m (tVar i)) tNil)) σ H Q := by
  show tXo K n (tVar i) σ H (fun x H1 => tXo K m (tVar i) σ H1 (fun y H2 => [x, y].length ≤ sizeLine ∧ ∀ p, H2 p = none → Q (.ref p) (upd H2 p (.lst [x, y]))))
  exact xoR E hk hn e hl hs (xoR E hk hm e hl2 hs ⟨Nat.le_of_ble_eq_true rfl, q⟩)
theorem scF : FnScope ["k", "error"] ["k", "error"] (defScope (top 68)) := ⟨rfl, rfl, rfl, by decide +kernel, rfl, by decide +kernel, by decide +kernel⟩
theorem okFields (E : Errs P w K mg base S C) (F : FnP K "_law_fields" 68 f fd) : FnOk P w K mg base CX0 1 f fd ["k", "error"] (spFields C) := by
  refine F.ok scF (fun vs H Q E h => ?_) (fun cdv A outer s H vs Q E0' hr h => ?_)
  · obtain ⟨k, a, x, y, rfl, _⟩ := h
    rfl
  · obtain ⟨k, a, x, y, rfl, k1, e, hq⟩ := h
    refine ⟨_, PSs.nox (pss_cons (ps_if (pt_cmpR op_in_seq (pv 0) (pe_tup (pa_cons pe_int pa_nil)) (by rfl)) (pss_one (ps_ret (pe_lst (pa_cons (pe_xo (pv 1)) pa_nil)))) pss_nil)
      (pss_cons (ps_if (pt_cmpR op_in_seq (pv 0) (pe_tup (pa_cons pe_int (pa_cons pe_int (pa_cons pe_int (pa_cons pe_int (pa_cons pe_int pa_nil)))))) (by rfl)) (pss_one (ps_ret (pe_lst pa_nil))) pss_nil)
      (pss_cons (ps_if (pt_cmpR op_in_seq (pv 0) (pe_tup (pa_cons pe_int pa_nil)) (by rfl)) (pss_one (ps_ret (pe_lst (pa_cons (pe_xo (pv 1)) pa_nil)))) pss_nil)
      (pss_cons (ps_if (pt_cmpR op_in_seq (pv 0) (pe_tup (pa_cons pe_int (pa_cons pe_int (pa_cons pe_int pa_nil)))) (by rfl)) (pss_one (ps_ret (pe_lst (pa_cons (pe_xo (pv 1)) pa_nil)))) pss_nil)
      (pss_cons (ps_if (pt_cmpR op_in_seq (pv 0) (pe_tup (pa_cons pe_int (pa_cons pe_int pa_nil))) (by rfl)) (pss_one (ps_ret (pe_lst (pa_cons (pe_xo (pv 1)) pa_nil)))) pss_nil)
      (pss_cons (ps_if (pt_cmpR op_in_seq (pv 0) (pe_tup (pa_cons pe_int pa_nil)) (by rfl)) (pss_one (ps_ret (pe_lst (pa_cons (pe_xo (pv 1)) (pa_cons (pe_xo (pv 1)) pa_nil))))) pss_nil)
      (pss_cons (ps_if (pt_cmpR op_in_seq (pv 0) (pe_tup (pa_cons pe_int pa_nil)) (by rfl)) (pss_one (ps_ret (pe_lst (pa_cons (pe_xo (pv 1)) pa_nil)))) pss_nil)
      (pss_cons (ps_if (pt_cmpR op_in_seq (pv 0) (pe_tup (pa_cons pe_int pa_nil)) (by rfl)) (pss_one (ps_ret (pe_lst (pa_cons (pe_xo (pv 1)) pa_nil)))) pss_nil)
      (pss_cons (ps_if (pt_cmpR op_in_seq (pv 0) (pe_tup (pa_cons pe_int pa_nil)) (by rfl)) (pss_one (ps_ret (pe_lst (pa_cons (pe_xo (pv 1)) pa_nil)))) pss_nil)
      (pss_one (ps_ret (pe_lst (pa_cons (pe_xo (pv 1)) pa_nil))))))))))))), ?_⟩
    have sm := Same.refl H
    refine ifIn (ns := [35]) (fun _ _ q => q) rfl (by decide) (fun H1 s1 m => ?_) (fun H1 s1 c0 => ?_)
    · obtain rfl : k = 35 := by simp at m; omega
      exact xoR E k1 (by decide +kernel) (e.same (sm.trans s1)) rfl rfl ⟨Nat.le_of_ble_eq_true rfl, fun p hp => hq p _ ((sm.trans s1).free hp) ((sm.trans s1).trans (Same.upd hp)) upd_same⟩
    replace sm := sm.trans s1
    simp at c0
    refine ifIn (ns := [36, 45, 46, 47, 50]) (fun _ _ q => q) rfl (by decide) (fun H1 s1 m => ?_) (fun H2 s2 c1 => ?_)
    · have m' : k = 36 ∨ k = 45 ∨ k = 46 ∨ k = 47 ∨ k = 50 := by simp at m; omega
      rcases m' with rfl | rfl | rfl | rfl | rfl
      · exact ⟨by decide, fun p hp => hq p _ ((sm.trans s1).free hp) ((sm.trans s1).trans (Same.upd hp)) upd_same⟩
      · exact ⟨by decide, fun p hp => hq p _ ((sm.trans s1).free hp) ((sm.trans s1).trans (Same.upd hp)) upd_same⟩
      · exact ⟨by decide, fun p hp => hq p _ ((sm.trans s1).free hp) ((sm.trans s1).trans (Same.upd hp)) upd_same⟩
      · exact ⟨by decide, fun p hp => hq p _ ((sm.trans s1).free hp) ((sm.trans s1).trans (Same.upd hp)) upd_same⟩
      · exact ⟨by decide, fun p hp => hq p _ ((sm.trans s1).free hp) ((sm.trans s1).trans (Same.upd hp)) upd_same⟩
    replace sm := sm.trans s2
    simp at c1
    refine ifIn (ns := [37]) (fun _ _ q => q) rfl (by decide) (fun H1 s1 m => ?_) (fun H3 s3 c2 => ?_)
    · obtain rfl : k = 37 := by simp at m; omega
      exact xoR E k1 (by decide +kernel) (e.same (sm.trans s1)) rfl rfl ⟨Nat.le_of_ble_eq_true rfl, fun p hp => hq p _ ((sm.trans s1).free hp) ((sm.trans s1).trans (Same.upd hp)) upd_same⟩
    replace sm := sm.trans s3
    simp at c2
    refine ifIn (ns := [38, 41, 43]) (fun _ _ q => q) rfl (by decide) (fun H1 s1 m => ?_) (fun H4 s4 c3 => ?_)
    · have m' : k = 38 ∨ k = 41 ∨ k = 43 := by simp at m; omega
      rcases m' with rfl | rfl | rfl
      · exact xoR E k1 (by decide +kernel) (e.same (sm.trans s1)) rfl rfl ⟨Nat.le_of_ble_eq_true rfl, fun p hp => hq p _ ((sm.trans s1).free hp) ((sm.trans s1).trans (Same.upd hp)) upd_same⟩
      · exact xoR E k1 (by decide +kernel) (e.same (sm.trans s1)) rfl rfl ⟨Nat.le_of_ble_eq_true rfl, fun p hp => hq p _ ((sm.trans s1).free hp) ((sm.trans s1).trans (Same.upd hp)) upd_same⟩
      · exact xoR E k1 (by decide +kernel) (e.same (sm.trans s1)) rfl rfl ⟨Nat.le_of_ble_eq_true rfl, fun p hp => hq p _ ((sm.trans s1).free hp) ((sm.trans s1).trans (Same.upd hp)) upd_same⟩
    replace sm := sm.trans s4
    simp at c3
    refine ifIn (ns := [39, 49]) (fun _ _ q => q) rfl (by decide) (fun H1 s1 m => ?_) (fun H5 s5 c4 => ?_)
    · have m' : k = 39 ∨ k = 49 := by simp at m; omega
      rcases m' with rfl | rfl
      · exact xoR E k1 (by decide +kernel) (e.same (sm.trans s1)) rfl rfl ⟨Nat.le_of_ble_eq_true rfl, fun p hp => hq p _ ((sm.trans s1).free hp) ((sm.trans s1).trans (Same.upd hp)) upd_same⟩
      · exact xoR E k1 (by decide +kernel) (e.same (sm.trans s1)) rfl rfl ⟨Nat.le_of_ble_eq_true rfl, fun p hp => hq p _ ((sm.trans s1).free hp) ((sm.trans s1).trans (Same.upd hp)) upd_same⟩
    replace sm := sm.trans s5
    simp at c4
    refine ifIn (ns := [40]) (fun _ _ q => q) rfl (by decide) (fun H1 s1 m => ?_) (fun H6 s6 c5 => ?_)
    · obtain rfl : k = 40 := by simp at m; omega
      exact twoX E k1 (by decide +kernel) (by decide +kernel) (e.same (sm.trans s1)) rfl rfl rfl fun p hp => hq p _ ((sm.trans s1).free hp) ((sm.trans s1).trans (Same.upd hp)) upd_same
    replace sm := sm.trans s6
    simp at c5
    refine ifIn (ns := [42]) (fun _ _ q => q) rfl (by decide) (fun H1 s1 m => ?_) (fun H7 s7 c6 => ?_)
    · obtain rfl : k = 42 := by simp at m; omega
      exact xoR E k1 (by decide +kernel) (e.same (sm.trans s1)) rfl rfl ⟨Nat.le_of_ble_eq_true rfl, fun p hp => hq p _ ((sm.trans s1).free hp) ((sm.trans s1).trans (Same.upd hp)) upd_same⟩
    replace sm := sm.trans s7
    simp at c6
    refine ifIn (ns := [44]) (fun _ _ q => q) rfl (by decide) (fun H1 s1 m => ?_) (fun H8 s8 c7 => ?_)
    · obtain rfl : k = 44 := by simp at m; omega
      exact xoR E k1 (by decide +kernel) (e.same (sm.trans s1)) rfl rfl ⟨Nat.le_of_ble_eq_true rfl, fun p hp => hq p _ ((sm.trans s1).free hp) ((sm.trans s1).trans (Same.upd hp)) upd_same⟩
    replace sm := sm.trans s8
    simp at c7
    refine ifIn (ns := [48]) (fun _ _ q => q) rfl (by decide) (fun H1 s1 m => ?_) (fun H9 s9 c8 => ?_)
    · obtain rfl : k = 48 := by simp at m; omega
      exact xoR E k1 (by decide +kernel) (e.same (sm.trans s1)) rfl rfl ⟨Nat.le_of_ble_eq_true rfl, fun p hp => hq p _ ((sm.trans s1).free hp) ((sm.trans s1).trans (Same.upd hp)) upd_same⟩
    replace sm := sm.trans s9
    simp at c8
    have lt : k < 35 := by omega
    have hf : fl k = [("given" : Str)] := (by decide +kernel : ∀ k < 35, fl k = [("given" : Str)]) k lt
    rw [hf] at e hq
    exact xoR E k1 (by rw [hf]; exact List.mem_singleton.mpr rfl) (e.same sm) rfl rfl ⟨Nat.le_of_ble_eq_true rfl, fun p hp => hq p _ (sm.free hp) (sm.trans (Same.upd hp)) upd_same⟩
end
end K99

/-! ## D4 -/
set_option Elab.async false
set_option linter.all false
set_option maxRecDepth 100000
set_option maxHeartbeats 4000000
namespace K99
open PySem PySem.Spec PyProof.Rows L2
/-- which class is raised at k -/
def rj (k : Nat) : Nat := if k % 3 = 2 then k else 0
theorem rj_lt {k : Nat} (h : k < 51) : rj k < 51 := by
  unfold rj
  split <;> omega
def spRaised (C : Nat → Addr) : Sp := fun vs H Q E => ∃ (k : Nat) (x y : V), vs = [.int k, x, y] ∧ k < 51 ∧ ∀ (od : Option Addr) (H' : Hp), Same H H' → (∀ dd, od = some dd → ∃ fs, H' dd = some (exd dd fs)) → E (.ref (C (rj k))) od H'
section
variable {P : Program} {w : World} {K : PySem.W.Frag} {mg : Str → Option Value} {base : Heap} {f S : Addr} {fd : FuncData} {C : Nat → Addr}
theorem raiseR {c : Nat} {a : Addr} {H H2 : Hp} {fs : List (Str × V)} {Q : XK} (R : Errs P w K mg base S C) (hc : c < 51) (n : H a = none) (s : Same H H2) (e : ErrAt H2 a (C c) fs)
    (q : ∀ (od : Option Addr) (H' : Hp), Same H H' → (∀ dd, od = some dd → ∃ gs, H' dd = some (exd dd gs)) → Q (.ref (C c)) od H') :
    ∃ (a' S' C' fI : Addr) (fl : List Str) (od : Option Addr), V.ref a = .ref a' ∧ ErrC K S' C' fI fl ∧ H2 a' = some (exo a' C' od) ∧ Fr0 H a' ∧ Q (.ref C') od (delH H2 a') := by
  obtain ⟨fI, fd, T, _⟩ := (R.m c hc).ex
  obtain ⟨od, h1, _, h3⟩ := e
  refine ⟨a, S, C c, fI, fl c, od, rfl, T, h1, fr0_none n, q od _ (fun b o hb => ?_) (fun dd hd => ?_)⟩
  · rw [delH_ne (ne_of_none hb n)]
    exact s _ _ hb
  · obtain ⟨ne, gs, h4, _⟩ := h3 dd hd
    exact ⟨gs, by rw [delH_ne ne]; exact h4⟩
theorem scR : FnScope ["k", "one", "other"] ["k", "one", "other"] (defScope (top 69)) := ⟨rfl, rfl, rfl, by decide +kernel, rfl, by decide +kernel, by decide +kernel⟩
theorem okRaised (R : Errs P w K mg base S C) (F : FnP K "_law_raised" 69 f fd) : FnOk P w K mg base (L2.CX P w) 3 f fd ["k", "one", "other"] (spRaised C) := by
  refine F.ok scR (fun vs H Q E h => ?_) (fun cdv A outer s H vs Q E hr h => ?_)
  · obtain ⟨k, x, y, rfl, _⟩ := h
    rfl
  · obtain ⟨k, x, y, rfl, k1, hq⟩ := h
    refine ⟨_, (pss_cons (ps_if (pt_cmpR op_eq (pv 0) pe_int (nomark _)) (pss_one (ps_raise rfl (takes_of rfl rfl rfl rfl) (pmk_err rfl (pe_err (R.m 2 (by decide)) hr rfl (pa_cons (pv 1) pa_nil))))) pss_nil)
      (pss_cons (ps_if (pt_cmpR op_eq (pv 0) pe_int (nomark _)) (pss_one (ps_raise rfl (takes_of rfl rfl rfl rfl) (pmk_err rfl (pe_err (R.m 5 (by decide)) hr rfl (pa_cons (pv 1) pa_nil))))) pss_nil)
      (pss_cons (ps_if (pt_cmpR op_eq (pv 0) pe_int (nomark _)) (pss_one (ps_raise rfl (takes_of rfl rfl rfl rfl) (pmk_err rfl (pe_err (R.m 8 (by decide)) hr rfl (pa_cons (pv 1) pa_nil))))) pss_nil)
      (pss_cons (ps_if (pt_cmpR op_eq (pv 0) pe_int (nomark _)) (pss_one (ps_raise rfl (takes_of rfl rfl rfl rfl) (pmk_err rfl (pe_err (R.m 11 (by decide)) hr rfl (pa_cons (pv 1) pa_nil))))) pss_nil)
      (pss_cons (ps_if (pt_cmpR op_eq (pv 0) pe_int (nomark _)) (pss_one (ps_raise rfl (takes_of rfl rfl rfl rfl) (pmk_err rfl (pe_err (R.m 14 (by decide)) hr rfl (pa_cons (pv 1) pa_nil))))) pss_nil)
      (pss_cons (ps_if (pt_cmpR op_eq (pv 0) pe_int (nomark _)) (pss_one (ps_raise rfl (takes_of rfl rfl rfl rfl) (pmk_err rfl (pe_err (R.m 17 (by decide)) hr rfl (pa_cons (pv 1) pa_nil))))) pss_nil)
      (pss_cons (ps_if (pt_cmpR op_eq (pv 0) pe_int (nomark _)) (pss_one (ps_raise rfl (takes_of rfl rfl rfl rfl) (pmk_err rfl (pe_err (R.m 20 (by decide)) hr rfl (pa_cons (pv 1) pa_nil))))) pss_nil)
      (pss_cons (ps_if (pt_cmpR op_eq (pv 0) pe_int (nomark _)) (pss_one (ps_raise rfl (takes_of rfl rfl rfl rfl) (pmk_err rfl (pe_err (R.m 23 (by decide)) hr rfl (pa_cons (pv 1) pa_nil))))) pss_nil)
      (pss_cons (ps_if (pt_cmpR op_eq (pv 0) pe_int (nomark _)) (pss_one (ps_raise rfl (takes_of rfl rfl rfl rfl) (pmk_err rfl (pe_err (R.m 26 (by decide)) hr rfl (pa_cons (pv 1) pa_nil))))) pss_nil)
      (pss_cons (ps_if (pt_cmpR op_eq (pv 0) pe_int (nomark _)) (pss_one (ps_raise rfl (takes_of rfl rfl rfl rfl) (pmk_err rfl (pe_err (R.m 29 (by decide)) hr rfl (pa_cons (pv 1) pa_nil))))) pss_nil)
      (pss_cons (ps_if (pt_cmpR op_eq (pv 0) pe_int (nomark _)) (pss_one (ps_raise rfl (takes_of rfl rfl rfl rfl) (pmk_err rfl (pe_err (R.m 32 (by decide)) hr rfl (pa_cons (pv 1) pa_nil))))) pss_nil)
      (pss_cons (ps_if (pt_cmpR op_eq (pv 0) pe_int (nomark _)) (pss_one (ps_raise rfl (takes_of rfl rfl rfl rfl) (pmk_err rfl (pe_err (R.m 35 (by decide)) hr rfl (pa_cons (pv 1) pa_nil))))) pss_nil)
      (pss_cons (ps_if (pt_cmpR op_eq (pv 0) pe_int (nomark _)) (pss_one (ps_raise rfl (takes_of rfl rfl rfl rfl) (pmk_err rfl (pe_err (R.m 38 (by decide)) hr rfl (pa_cons (pv 1) pa_nil))))) pss_nil)
      (pss_cons (ps_if (pt_cmpR op_eq (pv 0) pe_int (nomark _)) (pss_one (ps_raise rfl (takes_of rfl rfl rfl rfl) (pmk_err rfl (pe_err (R.m 41 (by decide)) hr rfl (pa_cons (pv 1) pa_nil))))) pss_nil)
      (pss_cons (ps_if (pt_cmpR op_eq (pv 0) pe_int (nomark _)) (pss_one (ps_raise rfl (takes_of rfl rfl rfl rfl) (pmk_err rfl (pe_err (R.m 44 (by decide)) hr rfl (pa_cons (pv 1) pa_nil))))) pss_nil)
      (pss_cons (ps_if (pt_cmpR op_eq (pv 0) pe_int (nomark _)) (pss_one (ps_raise rfl (takes_of rfl rfl rfl rfl) (pmk_err rfl (pe_err0 (R.m 47 (by decide)) hr rfl)))) pss_nil)
      (pss_cons (ps_if (pt_cmpR op_eq (pv 0) pe_int (nomark _)) (pss_one (ps_raise rfl (takes_of rfl rfl rfl rfl) (pmk_err rfl (pe_err0 (R.m 50 (by decide)) hr rfl)))) pss_nil)
      (pss_one (ps_raise rfl (takes_of rfl rfl rfl rfl) (pmk_err rfl (pe_err (R.m 0 (by decide)) hr rfl (pa_cons (pv 1) pa_nil)))))))))))))))))))))), ?_⟩
    refine ⟨_, rfl, rfl, _, rfl, ite2 (fun c => ?_) (fun c2 => ?_)⟩
    · obtain rfl : k = 2 := by have := kEq c; omega
      exact ⟨_, rfl, rfl, Nat.le_of_ble_eq_true rfl, fun a H2 n s e => raiseR R k1 n s e hq⟩
    replace c2 := kNe c2
    refine ⟨_, rfl, rfl, _, rfl, ite2 (fun c => ?_) (fun c5 => ?_)⟩
    · obtain rfl : k = 5 := by have := kEq c; omega
      exact ⟨_, rfl, rfl, Nat.le_of_ble_eq_true rfl, fun a H2 n s e => raiseR R k1 n s e hq⟩
    replace c5 := kNe c5
    refine ⟨_, rfl, rfl, _, rfl, ite2 (fun c => ?_) (fun c8 => ?_)⟩
    · obtain rfl : k = 8 := by have := kEq c; omega
      exact ⟨_, rfl, rfl, Nat.le_of_ble_eq_true rfl, fun a H2 n s e => raiseR R k1 n s e hq⟩
    replace c8 := kNe c8
    refine ⟨_, rfl, rfl, _, rfl, ite2 (fun c => ?_) (fun c11 => ?_)⟩
    · obtain rfl : k = 11 := by have := kEq c; omega
      exact ⟨_, rfl, rfl, Nat.le_of_ble_eq_true rfl, fun a H2 n s e => raiseR R k1 n s e hq⟩
    replace c11 := kNe c11
    refine ⟨_, rfl, rfl, _, rfl, ite2 (fun c => ?_) (fun c14 => ?_)⟩
    · obtain rfl : k = 14 := by have := kEq c; omega
      exact ⟨_, rfl, rfl, Nat.le_of_ble_eq_true rfl, fun a H2 n s e => raiseR R k1 n s e hq⟩
    replace c14 := kNe c14
    refine ⟨_, rfl, rfl, _, rfl, ite2 (fun c => ?_) (fun c17 => ?_)⟩
    · obtain rfl : k = 17 := by have := kEq c; omega
      exact ⟨_, rfl, rfl, Nat.le_of_ble_eq_true rfl, fun a H2 n s e => raiseR R k1 n s e hq⟩
    replace c17 := kNe c17
    refine ⟨_, rfl, rfl, _, rfl, ite2 (fun c => ?_) (fun c20 => ?_)⟩
    · obtain rfl : k = 20 := by have := kEq c; omega
      exact ⟨_, rfl, rfl, Nat.le_of_ble_eq_true rfl, fun a H2 n s e => raiseR R k1 n s e hq⟩
    replace c20 := kNe c20
    refine ⟨_, rfl, rfl, _, rfl, ite2 (fun c => ?_) (fun c23 => ?_)⟩
    · obtain rfl : k = 23 := by have := kEq c; omega
      exact ⟨_, rfl, rfl, Nat.le_of_ble_eq_true rfl, fun a H2 n s e => raiseR R k1 n s e hq⟩
    replace c23 := kNe c23
    refine ⟨_, rfl, rfl, _, rfl, ite2 (fun c => ?_) (fun c26 => ?_)⟩
    · obtain rfl : k = 26 := by have := kEq c; omega
      exact ⟨_, rfl, rfl, Nat.le_of_ble_eq_true rfl, fun a H2 n s e => raiseR R k1 n s e hq⟩
    replace c26 := kNe c26
    refine ⟨_, rfl, rfl, _, rfl, ite2 (fun c => ?_) (fun c29 => ?_)⟩
    · obtain rfl : k = 29 := by have := kEq c; omega
      exact ⟨_, rfl, rfl, Nat.le_of_ble_eq_true rfl, fun a H2 n s e => raiseR R k1 n s e hq⟩
    replace c29 := kNe c29
    refine ⟨_, rfl, rfl, _, rfl, ite2 (fun c => ?_) (fun c32 => ?_)⟩
    · obtain rfl : k = 32 := by have := kEq c; omega
      exact ⟨_, rfl, rfl, Nat.le_of_ble_eq_true rfl, fun a H2 n s e => raiseR R k1 n s e hq⟩
    replace c32 := kNe c32
    refine ⟨_, rfl, rfl, _, rfl, ite2 (fun c => ?_) (fun c35 => ?_)⟩
    · obtain rfl : k = 35 := by have := kEq c; omega
      exact ⟨_, rfl, rfl, Nat.le_of_ble_eq_true rfl, fun a H2 n s e => raiseR R k1 n s e hq⟩
    replace c35 := kNe c35
    refine ⟨_, rfl, rfl, _, rfl, ite2 (fun c => ?_) (fun c38 => ?_)⟩
    · obtain rfl : k = 38 := by have := kEq c; omega
      exact ⟨_, rfl, rfl, Nat.le_of_ble_eq_true rfl, fun a H2 n s e => raiseR R k1 n s e hq⟩
    replace c38 := kNe c38
    refine ⟨_, rfl, rfl, _, rfl, ite2 (fun c => ?_) (fun c41 => ?_)⟩
    · obtain rfl : k = 41 := by have := kEq c; omega
      exact ⟨_, rfl, rfl, Nat.le_of_ble_eq_true rfl, fun a H2 n s e => raiseR R k1 n s e hq⟩
    replace c41 := kNe c41
    refine ⟨_, rfl, rfl, _, rfl, ite2 (fun c => ?_) (fun c44 => ?_)⟩
    · obtain rfl : k = 44 := by have := kEq c; omega
      exact ⟨_, rfl, rfl, Nat.le_of_ble_eq_true rfl, fun a H2 n s e => raiseR R k1 n s e hq⟩
    replace c44 := kNe c44
    refine ⟨_, rfl, rfl, _, rfl, ite2 (fun c => ?_) (fun c47 => ?_)⟩
    · obtain rfl : k = 47 := by have := kEq c; omega
      exact ⟨rfl, Nat.le_of_ble_eq_true rfl, fun a H2 n s e => raiseR R k1 n s e hq⟩
    replace c47 := kNe c47
    refine ⟨_, rfl, rfl, _, rfl, ite2 (fun c => ?_) (fun c50 => ?_)⟩
    · obtain rfl : k = 50 := by have := kEq c; omega
      exact ⟨rfl, Nat.le_of_ble_eq_true rfl, fun a H2 n s e => raiseR R k1 n s e hq⟩
    replace c50 := kNe c50
    have e0 : rj k = 0 := if_neg (by omega)
    rw [e0] at hq
    exact ⟨_, rfl, rfl, Nat.le_of_ble_eq_true rfl, fun a H2 n s e => raiseR R (by decide) n s e hq⟩
end
end K99

/-! ## D5 -/
set_option Elab.async false
set_option linter.all false
set_option maxRecDepth 100000
set_option maxHeartbeats 4000000
namespace K99
open PySem PySem.Spec PyProof.Rows L2
/-! ### values: scalars, lists and tuples of them, so deep at most -/
def Dat : Nat → Nat → Hp → V → Prop
  | 0, _, _, v => flatV v = true
  | n + 1, m, H, v => flatV v = true ∨ ∃ a xs, v = .ref a ∧ (H a = some (.lst xs) ∨ H a = some (.tup xs)) ∧ xs.length ≤ m ∧ ∀ x ∈ xs, Dat n m H x
/-- two values that hold the same, place by place -/
def Sm : Nat → Nat → Hp → V → V → Prop
  | 0, _, _, v, u => flatV v = true ∧ v = u
  | n + 1, m, H, v, u => (flatV v = true ∧ v = u) ∨ ∃ a b xs, v = .ref a ∧ u = .ref b ∧ ((H a = some (.lst xs) ∧ H b = some (.lst xs)) ∨ (H a = some (.tup xs) ∧ H b = some (.tup xs))) ∧ xs.length ≤ m ∧ ∀ x ∈ xs, Dat n m H x
theorem Dat.flat {n m : Nat} {H : Hp} {v : V} (h : flatV v = true) : Dat n m H v := by
  cases n with
  | zero => exact h
  | succ n => exact .inl h
theorem Dat.sm : ∀ {n m : Nat} {H : Hp} {v : V}, Dat n m H v → Sm n m H v v
  | 0, _, _, _, h => ⟨h, rfl⟩
  | n + 1, m, H, v, h => by
    rcases h with h | ⟨a, xs, e, h, l, k⟩
    · exact .inl ⟨h, rfl⟩
    · exact .inr ⟨a, a, xs, e, e, h.elim (fun q => .inl ⟨q, q⟩) (fun q => .inr ⟨q, q⟩), l, k⟩
theorem Dat.up : ∀ {n m : Nat} {H : Hp} {v : V}, Dat n m H v → Dat (n + 1) m H v
  | 0, _, _, _, h => .inl h
  | n + 1, m, H, v, h => by
    rcases h with h | ⟨a, xs, e, h, l, k⟩
    · exact .inl h
    · exact .inr ⟨a, xs, e, h, l, fun x hx => (k x hx).up⟩
/-- the heap goes on: a list may grow by flat values -/
def Stp (c : Nat) (H H' : Hp) : Prop := ∀ b o, H b = some o → H' b = some o ∨ ∃ xs ys, o = .lst xs ∧ H' b = some (.lst ys) ∧ ys.length ≤ xs.length + c ∧ ∀ y ∈ ys, y ∈ xs ∨ flatV y = true
theorem Stp.of {H H' : Hp} (s : Same H H') : Stp 0 H H' := fun b o e => .inl (s b o e)
theorem Stp.trans {c d : Nat} {H H1 H2 : Hp} (s : Stp c H H1) (t : Stp d H1 H2) : Stp (c + d) H H2 := fun b o e => by
  rcases s b o e with h | ⟨xs, ys, rfl, h, l, k⟩
  · rcases t b o h with h2 | ⟨xs, ys, rfl, h2, l, k⟩
    · exact .inl h2
    · exact .inr ⟨xs, ys, rfl, h2, by omega, k⟩
  · rcases t b _ h with h2 | ⟨xs2, zs, e2, h2, l2, k2⟩
    · exact .inr ⟨xs, ys, rfl, h2, by omega, k⟩
    · cases e2
      refine .inr ⟨xs, zs, rfl, h2, by omega, fun y hy => ?_⟩
      rcases k2 y hy with q | q
      · exact k y q
      · exact .inr q
theorem Stp.mono {c d : Nat} {H H1 : Hp} (s : Stp c H H1) (h : c ≤ d) : Stp d H H1 := fun b o e => by
  rcases s b o e with q | ⟨xs, ys, e, q, l, k⟩
  · exact .inl q
  · exact .inr ⟨xs, ys, e, q, by omega, k⟩
theorem Stp.err {c : Nat} {H H' : Hp} (s : Stp c H H') {a C : Addr} {fs : List (Str × V)} (e : ErrAt H a C fs) : ErrAt H' a C fs := by
  obtain ⟨od, h1, h2, h3⟩ := e
  have ext : ∀ {b : Addr} {p : Heap → Prop}, H b = some (.ext p) → H' b = some (.ext p) := fun {b p} h => by
    rcases s _ _ h with q | ⟨xs, ys, q, _⟩
    · exact q
    · cases q
  exact ⟨od, ext h1, h2, fun dd q => by
    obtain ⟨n, gs, h, g⟩ := h3 dd q
    exact ⟨n, gs, ext h, g⟩⟩
theorem Stp.tup {c : Nat} {H H' : Hp} (s : Stp c H H') {a : Addr} {xs : List V} (e : H a = some (.tup xs)) : H' a = some (.tup xs) := by
  rcases s _ _ e with q | ⟨_, _, q, _⟩
  · exact q
  · cases q
theorem Dat.stp : ∀ {n m c : Nat} {H H' : Hp} {v : V}, Dat n m H v → Stp c H H' → Dat n (m + c) H' v
  | 0, _, _, _, _, _, h, _ => h
  | n + 1, m, c, H, H', v, h, s => by
    rcases h with h | ⟨a, xs, e, h, l, k⟩
    · exact .inl h
    · rcases h with h | h
      · rcases s _ _ h with q | ⟨xs', ys, q, h2, l2, k2⟩
        · exact .inr ⟨a, xs, e, .inl q, by omega, fun x hx => (k x hx).stp s⟩
        · cases q
          refine .inr ⟨a, ys, e, .inl h2, by omega, fun x hx => ?_⟩
          rcases k2 x hx with q | q
          · exact (k x q).stp s
          · exact Dat.flat q
      · exact .inr ⟨a, xs, e, .inr (s.tup h), by omega, fun x hx => (k x hx).stp s⟩
theorem Dat.same {n m : Nat} {H H' : Hp} {v : V} (h : Dat n m H v) (s : Same H H') : Dat n m H' v := h.stp (Stp.of s)
def spSm : Nat → Sp
  | 0 => fun _ _ _ _ => False
  | n + 1 => fun vs H Q _ => ∃ (m : Nat) (v u : V), vs = [v, u] ∧ m ≤ 1000 ∧ Sm n m H v u ∧ ∀ H', Same H H' → Q (.bl true) H'
section
variable {X : Cx} {e : Expr} {te : TE} {x : Str} {T : String} {p p2 pos : Pos}
/-- isinstance(e, T), T built in -/
theorem pe_isT (hg : Gl X "isinstance") (hm : X.mg "isinstance" = none) (he : PE X e te) (hx : Gl X x) (hmx : X.mg x = none) (hv : bootBuiltins x = some (.type T)) (hn : x ≠ "__name__" := by decide) (hd : (x == ("__debug__" : Str)) = false := by decide)
    (hs : starEach [e, .Name x p2] X.env = (false, eval e X.env) :: starEach [.Name x p2] X.env := by rfl) : PE X (.Call (.Name "isinstance" p) [e, .Name x p2] [] pos) (tCB (rIsi X.K) (tCons te (tCons (tC (.ty T)) tNil))) :=
  pe_callB call_isi hg hm boot_isinstance (pa_cons he (pa_cons (pe_bltn (v := .ty T) hx hmx hv rfl hn hd) pa_nil) hs) (he := hs)
end
theorem isR {K : PySem.W.Frag} {v : V} {t : Value} {T : String} {b : Bool} {H : Hp} {Q : VK} (ty : TyX K H v t) (e : PySem.W.kitOne K t (.type T) = some b) (q : Q (.bl b) H) : rIsi K [v, .ty T] H Q := ⟨v, .ty T, t, .type T, b, rfl, .ty T, ty, e, q⟩
section
variable {P : Program} {w : World} {K : PySem.W.Frag} {mg : Str → Option Value} {base : Heap} {f S : Addr} {fd : FuncData} {C : Nat → Addr}
theorem ixR {H : Hp} {a : Addr} {xs : List V} {i : Int} {v : V} {Q : VK} (q : SqL K H a xs ∨ SqT K H a xs) (e : atI xs i = some v) (k : Q v H) : rIx K (.ref a) (.int i) H Q := by
  rcases q with q | q
  · exact .inl ⟨a, xs, i, v, rfl, rfl, q, e, k⟩
  · exact .inr (.inl ⟨a, xs, i, v, rfl, rfl, q, e, k⟩)
theorem scS : FnScope ["told", "due", "k"] ["told", "due"] (defScope (top 58)) := ⟨rfl, rfl, rfl, by decide +kernel, rfl, by decide +kernel, by decide +kernel⟩
theorem okSame (B : Blt mg) (n : Nat) (G : Fn P w K mg base "_law_same" n ["told", "due"] (spSm n)) (F : FnP K "_law_same" 58 f fd) : FnOk P w K mg base CX0 (n + 1) f fd ["told", "due"] (spSm (n + 1)) := by
  refine F.ok scS (fun vs H Q E h => ?_) (fun cdv A outer s H vs Q E0' hr h => ?_)
  · obtain ⟨m, v, u, rfl, _⟩ := h
    rfl
  · obtain ⟨m, v, u, rfl, hm, hs, hq⟩ := h
    refine ⟨_, PSs.nox (pss_cons (ps_if (PW.pt (pw_or (pt_cmp (pc_isN (pv 1))) (pw_or1 (pt_val (pe_isT (T := "bool") rfl B.isi (pv 1) rfl B.bool (by decide +kernel))))))
        (pss_one (ps_ret (pe_ifExp (pt_cmp (pc_isN (pv 1))) (pe_cmp (pc_isN (pv 0))) (pe_and (pe_isT (T := "bool") rfl B.isi (pv 0) rfl B.bool (by decide +kernel)) (pe_one (pe_cmpR op_eq (pe_cmpR op_isBl (pv 0) pe_bl (nomark _)) (pe_cmpR op_isBl (pv 1) pe_bl (nomark _)) (nomark _))))))) pss_nil)
      (pss_cons (ps_if (pt_val (pe_isT (T := "int") rfl B.isi (pv 1) rfl B.int (by decide +kernel)))
        (pss_one (ps_ret (pe_and (pe_isT (T := "int") rfl B.isi (pv 0) rfl B.int (by decide +kernel)) (pe_and (pe_not (pe_isT (T := "bool") rfl B.isi (pv 0) rfl B.bool (by decide +kernel))) (pe_one (pe_cmpR op_eq (pv 0) (pv 1) (nomark _))))))) pss_nil)
      (pss_cons (ps_if (pt_val (pe_isT (T := "str") rfl B.isi (pv 1) rfl B.str (by decide +kernel)))
        (pss_one (ps_ret (pe_and (pe_isT (T := "str") rfl B.isi (pv 0) rfl B.str (by decide +kernel)) (pe_one (pe_cmpR op_eq (pv 0) (pv 1) (nomark _)))))) pss_nil)
      (pss_cons (ps_if (PW.pt (pw_or (pt_not (pt_val (pe_callB call_isiT (by rfl) B.isi boot_isinstance (pa_cons (pv 0) (pa_cons (pe_tup (pa_cons (pe_bltn (v := .ty "list") rfl B.list (by decide +kernel) rfl) (pa_cons (pe_bltn (v := .ty "tuple") rfl B.tuple (by decide +kernel) rfl) pa_nil))) pa_nil)))))
          (pw_or (pt_cmpR op_ne (pe_isT (T := "list") rfl B.isi (pv 0) rfl B.list (by decide +kernel)) (pe_isT (T := "list") rfl B.isi (pv 1) rfl B.list (by decide +kernel)) (nomark _))
          (pw_or1 (pt_cmpR op_ne (pe_callB call_len_seq (by rfl) B.len PySem.boot_len (pa_cons (pv 0) pa_nil)) (pe_callB call_len_seq (by rfl) B.len PySem.boot_len (pa_cons (pv 1) pa_nil)) (nomark _))))))
        (pss_one (ps_ret pe_bl)) pss_nil)
      (pss_one (ps_ret (pe_cmpR (op_eqD hr.units) (pe_lc (own := [("k", 2)]) (g := gName 2) (by rfl) scS.nd (pi_range1 (by rfl) B.range (pa_cons (pe_callB call_len_seq (by rfl) B.len PySem.boot_len (pa_cons (pv 1) pa_nil)) pa_nil))
          (blkOk_by (own := [("k", 2)]) (N := ["told", "due", "k"]) (sc := defScope (top 58)) (by decide +kernel)) (fun _ _ _ _ _ => pg_name (i := 2) scS.nd rfl (.inl rfl))
          (fun _ _ _ _ _ => pts_one (pt_not (pt_val (pe_fn G hr rfl (pa_cons (pe_ix (show IxR _ (rIx K) from ix_seq) (pv 0) (pv 2) (fun _ _ => rfl)) (pa_cons (pe_ix (show IxR _ (rIx K) from ix_seq) (pv 1) (pv 2) (fun _ _ => rfl)) pa_nil))))))
          (fun _ _ _ _ _ => pv 2)) (pe_lst pa_nil) (nomark _)))))))), ?_⟩
    have qT : ∀ {b : Bool}, b = true → Q (.bl b) H := fun e => by
      rw [e]
      exact hq H (Same.refl H)
    have split : (flatV v = true ∧ v = u) ∨ ∃ n', n = n' + 1 ∧ ∃ a b xs, v = .ref a ∧ u = .ref b ∧ ((H a = some (.lst xs) ∧ H b = some (.lst xs)) ∨ (H a = some (.tup xs) ∧ H b = some (.tup xs))) ∧ xs.length ≤ m ∧ ∀ x ∈ xs, Dat n' m H x := by
      cases n with
      | zero => exact .inl hs
      | succ n => exact hs.elim .inl fun h => .inr ⟨n, rfl, h⟩
    rcases split with ⟨fx, rfl⟩ | ⟨n', rfl, a, b, xs, rfl, rfl, hh, hl, hk⟩
    · cases v with
      | non => exact ⟨_, rfl, _, rfl, ite2 (fun _ => ite2 (fun _ => ⟨_, rfl, _, rfl, ite2 (fun _ => ⟨_, rfl, qT (decide_eq_true rfl)⟩) (fun h => (h (decide_eq_true rfl)).elim)⟩) (fun h => (h rfl).elim)) (fun h => (h (decide_eq_true rfl)).elim)⟩
      | bl b => exact ⟨_, rfl, _, rfl, ite2 (fun h => nomatch of_decide_eq_true h) (fun _ => ⟨_, rfl, _, _, _, _, true, rfl, .ty _, (.base (.bl b)), by rfl, ⟨_, rfl, ite2 (fun _ => ⟨_, rfl, _, rfl, ite2 (fun h => nomatch of_decide_eq_true h) (fun _ => ⟨_, rfl, _, _, _, _, true, rfl, .ty _, (.base (.bl b)), by rfl, ⟨_, rfl, ite2 (fun _ => ⟨_, rfl, _, _, rfl, rfl, _, rfl, _, _, rfl, rfl, rfl, qT (decide_eq_true rfl)⟩) (fun h => (h rfl).elim)⟩⟩)⟩) (fun h => (h rfl).elim)⟩⟩)⟩
      | int i => exact ⟨_, rfl, _, rfl, ite2 (fun h => nomatch of_decide_eq_true h) (fun _ => ⟨_, rfl, _, _, _, _, false, rfl, .ty _, (.base (.int i)), by rfl, ⟨_, rfl, ite2 (fun h => nomatch h) (fun _ => ⟨_, rfl, _, _, _, _, true, rfl, .ty _, (.base (.int i)), by rfl, ⟨_, rfl, ite2 (fun _ => ⟨_, rfl, _, _, _, _, true, rfl, .ty _, (.base (.int i)), by rfl, ⟨_, rfl, ite2 (fun _ => ⟨_, rfl, _, _, _, _, false, rfl, .ty _, (.base (.int i)), by rfl, ⟨_, rfl, _, rfl, ite2 (fun _ => ⟨_, rfl, _, rfl, rfl, qT (decide_eq_true rfl)⟩) (fun h => (h rfl).elim)⟩⟩) (fun h => (h rfl).elim)⟩⟩) (fun h => (h rfl).elim)⟩⟩)⟩⟩)⟩
      | str x => exact ⟨_, rfl, _, rfl, ite2 (fun h => nomatch of_decide_eq_true h) (fun _ => ⟨_, rfl, _, _, _, _, false, rfl, .ty _, (.base (.str x)), by rfl, ⟨_, rfl, ite2 (fun h => nomatch h) (fun _ => ⟨_, rfl, _, _, _, _, false, rfl, .ty _, (.base (.str x)), by rfl, ⟨_, rfl, ite2 (fun h => nomatch h) (fun _ => ⟨_, rfl, _, _, _, _, true, rfl, .ty _, (.base (.str x)), by rfl, ⟨_, rfl, ite2 (fun _ => ⟨_, rfl, _, _, _, _, true, rfl, .ty _, (.base (.str x)), by rfl, ⟨_, rfl, ite2 (fun _ => ⟨_, rfl, _, rfl, rfl, qT (decide_eq_true rfl)⟩) (fun h => (h rfl).elim)⟩⟩) (fun h => (h rfl).elim)⟩⟩)⟩⟩)⟩⟩)⟩
      | _ => cases fx
    · have fa : ∃ (T : String) (tb : Bool), (PySem.W.kitOne K (.type T) (.type "bool") = some false ∧ PySem.W.kitOne K (.type T) (.type "int") = some false ∧ PySem.W.kitOne K (.type T) (.type "str") = some false ∧ PySem.W.kitOne K (.type T) (.type "list") = some tb ∧ PySem.W.kitAny K (.type T) [.type "list", .type "tuple"] = some true) ∧
          ∀ H1, Same H H1 → TyX K H1 (.ref a) (.type T) ∧ TyX K H1 (.ref b) (.type T) ∧ (SqL K H1 a xs ∨ SqT K H1 a xs) ∧ (SqL K H1 b xs ∨ SqT K H1 b xs) := by
        rcases hh with ⟨ha, hb⟩ | ⟨ha, hb⟩
        · exact ⟨"list", true, ⟨by rfl, by rfl, by rfl, by rfl, by rfl⟩, fun H1 s => ⟨.base (.lst (s _ _ ha)), .base (.lst (s _ _ hb)), .inl (.inl (.inl (s _ _ ha))), .inl (.inl (.inl (s _ _ hb)))⟩⟩
        · exact ⟨"tuple", false, ⟨by rfl, by rfl, by rfl, by rfl, by rfl⟩, fun H1 s => ⟨.base (.tup (s _ _ ha)), .base (.tup (s _ _ hb)), .inr (.inl (.inl (s _ _ ha))), .inr (.inl (.inl (s _ _ hb)))⟩⟩
      obtain ⟨T, tb, ⟨kB, kI, kS, kL, kA⟩, fa⟩ := fa
      obtain ⟨ty1, ty2, _, _⟩ := fa H (Same.refl H)
      refine ⟨_, rfl, _, rfl, ite2 (fun h => nomatch of_decide_eq_true h) (fun _ => ⟨_, rfl, _, _, _, _, false, rfl, .ty _, ty2, kB, ⟨_, rfl, ite2 (fun h => nomatch h) (fun _ => ⟨_, rfl, _, _, _, _, false, rfl, .ty _, ty2, kI, ⟨_, rfl, ite2 (fun h => nomatch h) (fun _ =>
        ⟨_, rfl, _, _, _, _, false, rfl, .ty _, ty2, kS, ⟨_, rfl, ite2 (fun h => nomatch h) (fun _ => ?_)⟩⟩)⟩⟩)⟩⟩)⟩
      refine ⟨_, rfl, Nat.le_of_ble_eq_true rfl, fun p hp => ?_⟩
      have sp := Same.upd (o := .tup [.ty "list", .ty "tuple"]) hp
      obtain ⟨t1, t2, q1, q2⟩ := fa _ sp
      refine ⟨_, p, _, _, _, true, rfl, upd_same, .cons (.ty _) (.cons (.ty _) .nil), t1, kA, _, rfl, ite2 (fun h => by simp at h) (fun _ => ?_)⟩
      refine ⟨_, rfl, _, _, _, _, tb, rfl, .ty _, t1, kL, _, rfl, _, _, _, _, tb, rfl, .ty _, t2, kL, rfl, _, rfl, ite2 (fun h => by simp at h) (fun _ => ?_)⟩
      refine ⟨_, rfl, a, xs, rfl, q1, _, rfl, b, xs, rfl, q2, rfl, _, rfl, ite2 (fun h => by simp at h) (fun h => ?_)⟩
      refine ⟨_, rfl, b, xs, rfl, q2, _, rfl, by omega, by omega, fun D hD => lc_range (fun i H' => Same (upd (upd H p (.tup [.ty "list", .ty "tuple"])) D (.lst [])) H') (Same.refl _) (fun i H' hi s1 => ?_) (fun H' s1 => ?_)⟩
      · have s0 : Same H H' := (sp.trans (Same.upd hD)).trans s1
        obtain ⟨x, hx⟩ : ∃ x, xs[i]? = some x := ⟨_, List.getElem?_eq_getElem (by omega)⟩
        have ex : atI xs (0 + (i : Int)) = some x := at_of (j := i) (by omega) hx
        obtain ⟨_, _, r1, r2⟩ := fa H' s0
        refine ⟨rfl, _, rfl, _, rfl, ixR r1 ex ⟨_, rfl, _, rfl, ixR r2 ex ⟨m, x, x, rfl, hm, ((hk x (List.mem_of_getElem? hx)).same s0).sm, fun H'' s2 => ⟨true, rfl, ite2 (fun h => by simp at h) (fun _ => s1.trans s2)⟩⟩⟩⟩
      · have e0 := s1 D _ upd_same
        refine ⟨Nat.zero_le _, fun r hr => ⟨.list [], .list [], .lst (.inl (.inl ?_)) .nil, .lst (.inl (.inl upd_same)) .nil, by rfl, by rfl, ?_⟩⟩
        · exact (Same.upd hr) D _ e0
        · exact hq _ (((sp.trans (Same.upd hD)).trans s1).trans (Same.upd hr))
end
end K99

/-! ## D6 -/
set_option Elab.async false
set_option linter.all false
set_option maxRecDepth 100000
set_option maxHeartbeats 4000000
namespace K99
open PySem PySem.Spec PyProof.Rows L2
/-- a value is a tracked list, or isinstance says that it is none -/
theorem Dat.kind {K : PySem.W.Frag} {n m : Nat} {H : Hp} {v : V} (h : Dat n m H v) : (∃ a xs, v = .ref a ∧ H a = some (.lst xs) ∧ xs.length ≤ m ∧ (∀ x ∈ xs, Dat n m H x)) ∨
    (∃ T, TyX K H v (.type T) ∧ PySem.W.kitOne K (.type T) (.type "list") = some false ∧ ∀ a, v = .ref a → ∃ xs, H a = some (.tup xs)) := by
  have fl : ∀ v : V, flatV v = true → (∃ T, TyX K H v (.type T) ∧ PySem.W.kitOne K (.type T) (.type "list") = some false ∧ ∀ a, v = .ref a → ∃ xs, H a = some (.tup xs)) := fun v fv => by
    cases v with
    | non => exact ⟨_, .base .non, by rfl, fun _ e => nomatch e⟩
    | bl b => exact ⟨_, .base (.bl b), by rfl, fun _ e => nomatch e⟩
    | int i => exact ⟨_, .base (.int i), by rfl, fun _ e => nomatch e⟩
    | str x => exact ⟨_, .base (.str x), by rfl, fun _ e => nomatch e⟩
    | _ => cases fv
  cases n with
  | zero => exact .inr (fl v h)
  | succ n =>
    rcases h with h | ⟨a, xs, rfl, h | h, l, k⟩
    · exact .inr (fl v h)
    · exact .inl ⟨a, xs, rfl, h, l, fun x hx => (k x hx).up⟩
    · refine .inr ⟨_, .base (.tup h), by rfl, fun b e => ?_⟩
      cases e
      exact ⟨xs, h⟩
/-- list(value), or the value -/
def spDeep : Sp := fun vs H Q _ => ∃ (m : Nat) (v : V), vs = [v] ∧ Dat 2 m H v ∧ ∀ (u : V) (H' : Hp), Same H H' → Dat 2 m H' u → (∀ a, u = .ref a → (∃ xs, H' a = some (.tup xs)) ∨ H a = none) → Q u H'
/-- the list grows by 7 -/
def spBlamed : Sp := fun vs H Q _ => ∃ (m : Nat) (v : V), vs = [v, v] ∧ m ≤ 900 ∧ Dat 2 m H v ∧ ∀ (H' : Hp), Stp 1 H H' → (∀ b o, H b = some o → (∀ xs, o = .lst xs → v ≠ .ref b) → H' b = some o) → Q (.bl true) H'
section
variable {P : Program} {w : World} {K : PySem.W.Frag} {mg : Str → Option Value} {base : Heap} {f S : Addr} {fd : FuncData} {C : Nat → Addr}
theorem scD : FnScope ["value"] ["value"] (defScope (top 71)) := ⟨rfl, rfl, rfl, by decide +kernel, rfl, by decide +kernel, by decide +kernel⟩
theorem okDeep (B : Blt mg) (F : FnP K "_law_deep" 71 f fd) : FnOk P w K mg base CX0 1 f fd ["value"] spDeep := by
  refine F.ok scD (fun vs H Q E h => ?_) (fun cdv A outer s H vs Q E0' hr h => ?_)
  · obtain ⟨m, v, rfl, _⟩ := h
    rfl
  · obtain ⟨m, v, rfl, hd, hq⟩ := h
    refine ⟨_, PSs.nox (pss_one (ps_ret (pe_ifExp (pt_val (pe_isT (T := "list") rfl B.isi (pv 0) rfl B.list (by decide +kernel))) (pe_callTy call_list_of (by rfl) B.list (by decide +kernel) (pa_cons (pv 0) pa_nil)) (pv 0)))), ?_⟩
    rcases hd.kind (K := K) with ⟨a, xs, rfl, ha, l, k⟩ | ⟨T, ty, kt, nl⟩
    · refine ⟨_, rfl, _, _, _, _, true, rfl, .ty _, .base (.lst ha), by rfl, _, rfl, ite2 (fun _ => ⟨_, rfl, a, xs, rfl, .inl (.inl (.inl ha)), fun p hp => ?_⟩) (fun h => (h rfl).elim)⟩
      refine hq _ _ (Same.upd hp) ?_ (fun b e => .inr ?_)
      · rcases hd with z | ⟨a', xs', e, z, l', k'⟩
        · cases z
        · cases e
          rcases z with z | z
          · rw [ha] at z
            cases z
            exact .inr ⟨p, xs, rfl, .inl upd_same, l', fun x hx => (k' x hx).same (Same.upd hp)⟩
          · rw [ha] at z
            cases z
      · cases e
        exact hp
    · exact ⟨_, rfl, _, _, _, _, false, rfl, .ty _, ty, kt, _, rfl, ite2 (fun h => nomatch h) (fun _ => ⟨_, rfl, hq v H (Same.refl H) hd fun a e => .inl (nl a e)⟩)⟩
theorem scB : FnScope ["given", "value"] ["given", "value"] (defScope (top 59)) := ⟨rfl, rfl, rfl, by decide +kernel, rfl, by decide +kernel, by decide +kernel⟩
theorem okBlamed (B : Blt mg) (G : Fn P w K mg base "_law_same" 3 ["told", "due"] (spSm 3)) (F : FnP K "_law_blamed" 59 f fd) : FnOk P w K mg base CX0 4 f fd ["given", "value"] spBlamed := by
  refine F.ok scB (fun vs H Q E h => ?_) (fun cdv A outer s H vs Q E0' hr h => ?_)
  · obtain ⟨m, v, rfl, _⟩ := h
    rfl
  · obtain ⟨m, v, rfl, hm, hd, hq⟩ := h
    refine ⟨_, PSs.nox (pss_cons (ps_if (pt_not (pt_val (pe_fn G hr rfl (pa_cons (pv 0) (pa_cons (pv 1) pa_nil))))) (pss_one (ps_ret pe_bl)) pss_nil)
      (pss_cons (ps_if (pt_val (pe_isT (T := "list") rfl B.isi (pv 1) rfl B.list (by decide +kernel))) (pss_one (ps_expr (pe_bm PySem.F.plainAttrs_list PySem.F.slot_list_append PySem.F.type_list_append mt_append (pv 1) (pa_cons pe_int pa_nil)))) pss_nil)
      (pss_one (ps_ret (pe_fn G hr rfl (pa_cons (pv 0) (pa_cons (pv 1) pa_nil))))))), ?_⟩
    refine ⟨_, rfl, _, rfl, m, v, v, rfl, by omega, hd.sm, fun H1 s1 => ⟨true, rfl, ite2 (fun h => by simp at h) (fun _ => ?_)⟩⟩
    have hd1 := hd.same s1
    rcases hd1.kind (K := K) with ⟨a, xs, rfl, ha, l, k⟩ | ⟨T, ty, kt, nl⟩
    · refine ⟨_, rfl, _, _, _, _, true, rfl, .ty _, .base (.lst ha), by rfl, _, rfl, ite2 (fun _ => ?_) (fun h => (h rfl).elim)⟩
      refine ⟨_, rfl, .inl ⟨rfl, xs, .inl (.inl ha)⟩, a, xs, _, rfl, rfl, ha, by rw [sizeLine_eq]; omega, ?_⟩
      have st : Stp 1 H1 (upd H1 a (.lst (xs ++ [.int 7]))) := fun b o e => by
        by_cases hb : b = a
        · subst hb
          rw [ha] at e
          cases e
          exact .inr ⟨xs, xs ++ [.int 7], rfl, upd_same, by simp, fun y hy => (List.mem_append.mp hy).imp id fun z => by rw [List.mem_singleton.mp z]; rfl⟩
        · exact .inl (by rw [upd_ne hb]; exact e)
      refine ⟨_, rfl, _, rfl, m + 1, .ref a, .ref a, rfl, by omega, (hd1.stp st).sm, fun H2 s2 => hq H2 ?_ fun b o e nv => s2 _ _ ?_⟩
      · have z := ((Stp.of s1).trans st).trans (Stp.of s2)
        exact z.mono (by omega)
      · have e1 := s1 _ _ e
        by_cases hb : b = a
        · subst hb
          rw [ha] at e1
          cases e1
          exact (nv xs rfl rfl).elim
        · rw [upd_ne hb]
          exact e1
    · refine ⟨_, rfl, _, _, _, _, false, rfl, .ty _, ty, kt, _, rfl, ite2 (fun h => nomatch h) (fun _ => ?_)⟩
      exact ⟨_, rfl, _, rfl, m, v, v, rfl, by omega, hd1.sm, fun H2 s2 => hq H2 ((Stp.of (s1.trans s2)).mono (by omega)) fun b o e _ => (s1.trans s2) _ _ e⟩
end
end K99

/-! ## D7 -/
set_option Elab.async false
set_option linter.all false
set_option maxRecDepth 100000
set_option maxHeartbeats 4000000
namespace K99
open PySem PySem.Spec PyProof.Rows L2
/-- all but what stands at b -/
def But (b : Addr) (H H' : Hp) : Prop := ∀ c o, H c = some o → c ≠ b → H' c = some o
theorem But.refl (b : Addr) (H : Hp) : But b H H := fun _ _ h _ => h
theorem But.trans {b : Addr} {H H1 H2 : Hp} (s : But b H H1) (t : But b H1 H2) : But b H H2 := fun c o h n => t c o (s c o h n) n
theorem But.of {b : Addr} {H H' : Hp} (s : Same H H') : But b H H' := fun c o h _ => s c o h
theorem But.upd {b : Addr} {H : Hp} {o : HO} : But b H (upd H b o) := fun c u h n => by
  rw [upd_ne n]
  exact h
theorem BoxOk.flat {n : Nat} {xs : List V} (h : BoxOk n xs) : xs.length = 4 ∧ ∀ x ∈ xs, flatV x = true := by
  obtain ⟨b0, c, b2, b3, rfl, _⟩ := h
  refine ⟨rfl, fun x hx => ?_⟩
  simp only [List.mem_cons, List.not_mem_nil, or_false] at hx
  rcases hx with rfl | rfl | rfl | rfl <;> rfl
theorem BoxOk.up {n m : Nat} {xs : List V} (h : BoxOk n xs) (l : n ≤ m) : BoxOk m xs := by
  obtain ⟨b0, c, b2, b3, rfl, c1, c2, c3, c4⟩ := h
  exact ⟨b0, c, b2, b3, rfl, c1, c2, c3, by omega⟩
theorem But.stp {b : Addr} {H H' : Hp} {n n' : Nat} {xs ys : List V} (s : But b H H') (hb : H b = some (.lst xs)) (hb' : H' b = some (.lst ys)) (o : BoxOk n xs) (o' : BoxOk n' ys) : Stp 0 H H' := fun c u e => by
  by_cases h : c = b
  · subst h
    rw [hb] at e
    cases e
    exact .inr ⟨xs, ys, rfl, hb', by rw [o.flat.1, o'.flat.1]; omega, fun y hy => .inr (o'.flat.2 y hy)⟩
  · exact .inl (s c u e h)
def spValue : Sp := fun vs H Q _ => ∃ (b : Addr) (n : Nat) (xs : List V), vs = [.ref b] ∧ H b = some (.lst xs) ∧ BoxOk n xs ∧ n ≤ 10000 ∧
  ∀ (v : V) (H' : Hp) (ys : List V), But b H H' → H' b = some (.lst ys) → BoxOk (n + 1) ys → Dat 2 5 H' v → Q v H'
section
variable {P : Program} {w : World} {K : PySem.W.Frag} {mg : Str → Option Value} {base : Heap} {f S : Addr} {fd : FuncData} {C : Nat → Addr}
theorem valueD {H : Hp} {p1 p2 p3 p4 p5 p6 p7 p8 : Addr} (e1 : H p1 = some (.lst [])) (e2 : H p2 = some (.lst [.int 2])) (e3 : H p3 = some (.lst [.int 1, .ref p2])) (e4 : H p4 = some (.tup [])) (e5 : H p5 = some (.tup [.int 1, .int 2]))
    (e6 : H p6 = some (.tup [.str "wire"])) (e7 : H p7 = some (.tup [.str "wire"])) (e8 : H p8 = some (.tup [.str "then", .ref p6, .ref p7])) :
    ∀ v ∈ [V.non, V.bl true, V.bl false, V.int 0, V.int (-7), V.int 10000000000000000000, V.str "", V.str "fork", V.ref p1, V.ref p3, V.ref p4, V.ref p5, V.ref p8, V.str "a ; b"], Dat 2 5 H v := by
  have one : ∀ {n : Nat} {a : Addr} {xs : List V}, H a = some (.lst xs) ∨ H a = some (.tup xs) → xs.length ≤ 5 → (∀ x ∈ xs, Dat n 5 H x) → Dat (n + 1) 5 H (.ref a) := fun h l k => .inr ⟨_, _, rfl, h, l, k⟩
  have d1 : Dat 2 5 H (.ref p1) := one (.inl e1) (by decide) (fun x hx => nomatch hx)
  have d2 : Dat 1 5 H (.ref p2) := one (.inl e2) (by decide) (by simp [Dat, flatV])
  have d3 : Dat 2 5 H (.ref p3) := one (.inl e3) (Nat.le_of_ble_eq_true rfl) (fun x hx => by
    simp only [List.mem_cons, List.not_mem_nil, or_false] at hx
    rcases hx with rfl | rfl
    · exact Dat.flat rfl
    · exact d2)
  have d4 : Dat 2 5 H (.ref p4) := one (.inr e4) (by decide) (fun x hx => nomatch hx)
  have d5 : Dat 2 5 H (.ref p5) := one (.inr e5) (by decide) (fun x hx => by
    simp only [List.mem_cons, List.not_mem_nil, or_false] at hx
    rcases hx with rfl | rfl <;> exact Dat.flat rfl)
  have d6 : Dat 1 5 H (.ref p6) := one (.inr e6) (by decide) (by simp [Dat, flatV])
  have d7 : Dat 1 5 H (.ref p7) := one (.inr e7) (by decide) (by simp [Dat, flatV])
  have d8 : Dat 2 5 H (.ref p8) := one (.inr e8) (Nat.le_of_ble_eq_true rfl) (fun x hx => by
    simp only [List.mem_cons, List.not_mem_nil, or_false] at hx
    rcases hx with rfl | rfl | rfl
    · exact Dat.flat rfl
    · exact d6
    · exact d7)
  intro v hv
  simp only [List.mem_cons, List.not_mem_nil, or_false] at hv
  rcases hv with rfl | rfl | rfl | rfl | rfl | rfl | rfl | rfl | rfl | rfl | rfl | rfl | rfl | rfl
  · exact Dat.flat rfl
  · exact Dat.flat rfl
  · exact Dat.flat rfl
  · exact Dat.flat rfl
  · exact Dat.flat rfl
  · exact Dat.flat rfl
  · exact Dat.flat rfl
  · exact Dat.flat rfl
  · exact d1
  · exact d3
  · exact d4
  · exact d5
  · exact d8
  · exact Dat.flat rfl
theorem valueF {H H9 : Hp} {b p9 : Addr} {n : Nat} {xs ys vals : List V} {d : Int} {Q : VK} (u0 : Same H H9) (hb : H b = some (.lst xs)) (ho : BoxOk n xs) (hy : BoxOk (n + 1) ys) (e9 : H9 p9 = some (.lst vals)) (hD : ∀ v ∈ vals, Dat 2 5 H9 v) (hl : vals.length = 14) (d0 : 0 ≤ d) (d1 : d < 14)
    (hq : ∀ (v : V) (H' : Hp) (ys : List V), But b H H' → H' b = some (.lst ys) → BoxOk (n + 1) ys → Dat 2 5 H' v → Q v H') : rIxL K (.ref p9) (.int d) (upd H9 b (.lst ys)) Q := by
  obtain ⟨v, hv⟩ : ∃ v, vals[d.toNat]? = some v := ⟨_, List.getElem?_eq_getElem (by omega)⟩
  have hb9 := u0 _ _ hb
  have nb : p9 ≠ b := fun e => by
    subst e
    rw [hb9] at e9
    cases e9
    rw [ho.flat.1] at hl
    cases hl
  have st : But b H9 (upd H9 b (.lst ys)) := But.upd
  exact ⟨p9, vals, d, v, rfl, rfl, .inl (.inl (by rw [upd_ne nb]; exact e9)), at_of (j := d.toNat) (by omega) hv, hq v _ ys ((But.of u0).trans st) upd_same hy ((hD v (List.mem_of_getElem? hv)).stp (st.stp hb9 upd_same ho hy))⟩
theorem scV : FnScope ["box", "values"] ["box"] (defScope (top 60)) := ⟨rfl, rfl, rfl, by decide +kernel, rfl, by decide +kernel, by decide +kernel⟩
theorem okValue (G : Fn P w K mg base "_law_take" 1 ["box", "many"] spTake) (F : FnP K "_law_value" 60 f fd) : FnOk P w K mg base CX0 2 f fd ["box"] spValue := by
  refine F.ok scV (fun vs H Q E h => ?_) (fun cdv A outer s H vs Q E0' hr h => ?_)
  · obtain ⟨b, n, xs, rfl, _⟩ := h
    rfl
  · obtain ⟨b, n, xs, rfl, hb, ho, hn, hq⟩ := h
    refine ⟨_, PSs.nox (pss_cons (ps_set (i := 1) scV.nd rfl (.inl rfl) (pe_lst (pa_cons pe_non (pa_cons pe_bl (pa_cons pe_bl (pa_cons pe_int (pa_cons (pe_un un_neg pe_int) (pa_cons pe_int (pa_cons pe_str (pa_cons pe_str (pa_cons (pe_lst pa_nil)
        (pa_cons (pe_lst (pa_cons pe_int (pa_cons (pe_lst (pa_cons pe_int pa_nil)) pa_nil))) (pa_cons (pe_tup pa_nil) (pa_cons (pe_tup (pa_cons pe_int (pa_cons pe_int pa_nil)))
        (pa_cons (pe_tup (pa_cons pe_str (pa_cons (pe_tup (pa_cons pe_str pa_nil)) (pa_cons (pe_tup (pa_cons pe_str pa_nil)) pa_nil)))) (pa_cons pe_str pa_nil))))))))))))))))
      (pss_one (ps_ret (pe_ix ix_list (pv 1) (pe_fn G hr rfl (pa_cons (pv 0) (pa_cons pe_int pa_nil))) (fun _ _ => rfl))))), ?_⟩
    refine ⟨_, rfl, Nat.zero_le _, fun p1 h1 => ⟨Nat.le_of_ble_eq_true rfl, fun p2 h2 => ⟨Nat.le_of_ble_eq_true rfl, fun p3 h3 => ⟨Nat.zero_le _, fun p4 h4 => ⟨Nat.le_of_ble_eq_true rfl, fun p5 h5 => ⟨Nat.le_of_ble_eq_true rfl, fun p6 h6 =>
      ⟨Nat.le_of_ble_eq_true rfl, fun p7 h7 => ⟨Nat.le_of_ble_eq_true rfl, fun p8 h8 => ⟨Nat.le_of_ble_eq_true rfl, fun p9 h9 => ?_⟩⟩⟩⟩⟩⟩⟩⟩⟩
    have u8 := Same.upd (o := .lst [V.non, V.bl true, V.bl false, V.int 0, V.int (-7), V.int 10000000000000000000, V.str "", V.str "fork", V.ref p1, V.ref p3, V.ref p4, V.ref p5, V.ref p8, V.str "a ; b"]) h9
    have u7 := (Same.upd h8).trans u8
    have u6 := (Same.upd h7).trans u7
    have u5 := (Same.upd h6).trans u6
    have u4 := (Same.upd h5).trans u5
    have u3 := (Same.upd h4).trans u4
    have u2 := (Same.upd h3).trans u3
    have u1 := (Same.upd h2).trans u2
    have u0 := (Same.upd h1).trans u1
    have hD := valueD (u1 p1 _ upd_same) (u2 p2 _ upd_same) (u3 p3 _ upd_same) (u4 p4 _ upd_same) (u5 p5 _ upd_same) (u6 p6 _ upd_same) (u7 p7 _ upd_same) (u8 p8 _ upd_same)
    refine ⟨_, rfl, _, rfl, b, 14, n, xs, rfl, by decide, by decide, u0 b _ hb, ho, hn, fun d ys d0 d1 hy => ?_⟩
    exact valueF u0 hb ho hy upd_same hD rfl d0 d1 hq
end
end K99

/-! ## D8 -/
set_option Elab.async false
set_option linter.all false
set_option maxRecDepth 100000
set_option maxHeartbeats 4000000
namespace K99
open PySem PySem.Spec PyProof.Rows L2
/-- a function of the law that may let an error out -/
structure FnX (P : Program) (w : World) (K : PySem.W.Frag) (mg : Str → Option Value) (base : Heap) (x : Str) (k : Nat) (ps : List Str) (sp : Sp) : Prop where
  ex : ∃ (f : Addr) (fd : FuncData), FnOk P w K mg base (L2.CX P w) k f fd ps sp ∧ mg x = some (.ref f) ∧ PySem.W.keepIn K (.ref f) = true ∧ Binds K fd ps []
def spCaught : Sp := fun vs H Q _ => ∃ (b : Addr) (n : Nat) (xs : List V), vs = [.ref b] ∧ H b = some (.lst xs) ∧ BoxOk n xs ∧ n ≤ 9990 ∧
  ∀ (H' : Hp) (ys : List V), But b H H' → H' b = some (.lst ys) → BoxOk (n + 3) ys → Q (.bl true) H'
theorem _root_.L2.ErrC.exm {K : PySem.W.Frag} {mg : Str → Option Value} {S C fI : Addr} {fl : List Str} (T : ErrC K S C fI fl) (TS : SayC K mg S) (eS : PySem.W.subIn K (.ref S) (.type "BaseException") = some true) : PySem.W.exmOne K (.ref C) (.ref S) = some true := by
  have e1 : (PySem.W.subIn K (.ref S) (.type "BaseException") == some true) = true := by rw [eS] <;> rfl
  unfold PySem.W.exmOne
  rw [if_pos e1]
  show (if ((PySem.W.clsIn K S).isSome && PySem.W.typeIn K (.ref S) == some (.type "type")) = true then PySem.W.subIn K (.ref C) (.ref S) else none) = some true
  rw [if_pos TS.hS]
  show PySem.W.mroIn K C (.ref S) = some true
  rw [T.mroIn]
  simp
section
variable {P : Program} {w : World} {K : PySem.W.Frag} {mg : Str → Option Value} {base : Heap} {f S : Addr} {fd : FuncData} {C : Nat → Addr}
theorem scC : FnScope ["box", "k", "one", "other", "turn", "told", "e", "at", "found"] ["box"] (defScope (top 70)) := ⟨rfl, rfl, rfl, by decide +kernel, rfl, by decide +kernel, by decide +kernel⟩
theorem okCaught (B : Blt mg) (R : Errs P w K mg base S C) (TS : SayC K mg S) (eS : PySem.W.subIn K (.ref S) (.type "BaseException") = some true) (GT : Fn P w K mg base "_law_take" 1 ["box", "many"] spTake) (GV : Fn P w K mg base "_law_value" 2 ["box"] spValue) (GR : FnX P w K mg base "_law_raised" 3 ["k", "one", "other"] (spRaised C))
    (GI : Fn P w K mg base "_law_is_0" 3 ["k", "error"] (spIs C 0)) (F : FnP K "_law_caught_right" 70 f fd) : FnOk P w K mg base CX0 4 f fd ["box"] spCaught := by
  obtain ⟨fR, fdR, FR, hmR, hkR, hbR⟩ := GR.ex
  refine F.ok scC (fun vs H Q E h => ?_) (fun cdv A outer s H vs Q E0' hr h => ?_)
  · obtain ⟨b, n, xs, rfl, _⟩ := h
    rfl
  · obtain ⟨b, n, xs, rfl, hb, ho, hn, hq⟩ := h
    have h1 := hr.mono (j := 1) (by omega)
    have h2 := hr.mono (j := 2) (by omega)
    refine ⟨_, PSs.nox (pss_cons (ps_par3 (i := 1) (j := 2) (l := 3) (by rfl) scC.nd rfl rfl rfl (by decide) (by decide) (by decide) rfl rfl rfl (pa_cons (pe_fn GT h1 rfl (pa_cons (pv 0) (pa_cons pe_int pa_nil))) (pa_cons (pe_fn GV h2 rfl (pa_cons (pv 0) pa_nil)) (pa_cons (pe_fn GV h2 rfl (pa_cons (pv 0) pa_nil)) pa_nil))) (by rfl))
      (pss_cons (ps_for PassesOwn.never rfl (pi_range1 (by rfl) B.range (pa_cons pe_int pa_nil)) (pg_name (i := 4) scC.nd rfl (.inl rfl))
        (pss_cons (ps_set (i := 5) scC.nd rfl (.inr rfl) pe_non)
        (pss_cons (ps_try_trk (i := 6) (c := .ref S) (tb := fun W => tDrop (tCallS (spRaised C) (WE W) (tCons (tVar 1) (tCons (tVar 2) (tCons (tVar 3) tNil))))) rfl rfl rfl scC.nd rfl rfl ⟨rfl, by decide, .inl TS.gS⟩
          (fun W pn xe tk _ => pss_one (ps_expr (by exact (pe_callS FR hr rfl hmR hkR hbR (fun σ => passAt tk σ) (by exact (pa_cons (pv 1) (pa_cons (pv 2) (pa_cons (pv 3) pa_nil))))))))
          (fun a pn => pss_one (ps_set (i := 5) scC.nd rfl (.inr rfl) (pv 6))))
        (pss_cons (ps_if (PW.pt (pw_or (pt_cmp (pc_isN (pv 5))) (pw_or1 (pt_not (pt_val (pe_callB call_isO (by rfl) B.isi boot_isinstance (pa_cons (pv 5) (pa_cons (pe_bltn (v := .ty "ValueError") rfl B.ve (by decide +kernel) rfl) pa_nil)))))))) (pss_one (ps_ret pe_bl)) pss_nil)
        (pss_cons (ps_setLc (i := 8) (own := [("at", 7)]) (g := gName 7) (by rfl) scC.nd rfl rfl (sw_true rfl rfl rfl (by decide +kernel)) (pi_range1 (by rfl) B.range (pa_cons pe_int pa_nil))
            (blkOk_by (own := [("at", 7)]) (N := ["box", "k", "one", "other", "turn", "told", "e", "at", "found"]) (sc := defScope (top 70)) (by decide +kernel)) (fun _ _ _ _ _ => pg_name (i := 7) scC.nd rfl (.inl rfl))
            (fun _ _ _ _ _ => pts_one (pt_val (pe_fn GI hr rfl (pa_cons (pv 7) (pa_cons (pv 5) pa_nil))))) (fun _ _ _ _ _ => pv 7))
        (pss_one (ps_if (PW.pt (pw_or (pt_cmpR op_ne (pe_callB call_len_seq (by rfl) B.len PySem.boot_len (pa_cons (pv 8) pa_nil)) pe_int (nomark _))
            (pw_or1 (PW.pt (pw_and (pt_cmpR (op_neD hr.units) (pv 8) (pe_lst (pa_cons (pv 1) pa_nil)) (nomark _)) (pw_and1 (pt_cmpR (op_neD hr.units) (pv 8) (pe_lst (pa_cons pe_int pa_nil)) (nomark _)))))))) (pss_one (ps_ret pe_bl)) pss_nil)))))))
      (pss_one (ps_ret pe_bl)))), ?_⟩
    refine ⟨_, rfl, b, 51, n, xs, rfl, by decide, by decide, hb, ho, by omega, fun d ys d0 d1 hy => ?_⟩
    refine ⟨_, rfl, b, n + 1, ys, rfl, upd_same, hy, by omega, fun x Ha ya bua hba hya _ => ?_⟩
    refine ⟨_, rfl, b, n + 2, ya, rfl, hba, hya, by omega, fun y H1 yb bub hbb hyb _ => ⟨_, _, _, rfl, ?_⟩⟩
    have bu1 : But b H H1 := (But.upd.trans bua).trans bub
    obtain ⟨k, rfl⟩ : ∃ k : Nat, d = (k : Int) := ⟨d.toNat, by omega⟩
    have k1 : k < 51 := by omega
    clear bua bub hba hya hy d0
    refine ⟨2, rfl, by decide, by decide, for_range (fun i σ H' => ∃ v4 v5 v8 : Option V, σ = [some (.ref b), some (.int k), some x, some y, v4, v5, none, none, v8] ∧ Same H1 H') ⟨none, none, none, rfl, Same.refl _⟩ ?_ ?_⟩
    · rintro i σ H2 hi ⟨v4, v5, v8, rfl, s2⟩
      obtain ⟨fI, fdI, T, _⟩ := (R.m (rj k) (rj_lt k1)).ex
      refine ⟨_, rfl, _, rfl, _, rfl, k, x, y, rfl, k1, fun od H3 s3 hd3 => ⟨T.exm TS eS, fun a ha => ⟨_, rfl, ?_⟩⟩⟩
      have eo : ErrO (upd H3 a (xob a (.ref (C (rj k))) od)) a (C (rj k)) := ⟨od, .inr upd_same, fun dd q => by
        obtain ⟨fs, hf⟩ := hd3 dd q
        exact ⟨fs, .inl (by rw [upd_ne (ne_of_none hf ha)]; exact hf)⟩⟩
      have s4 : Same H1 (upd H3 a (xob a (.ref (C (rj k))) od)) := (s2.trans s3).trans (Same.upd ha)
      generalize upd H3 a (xob a (.ref (C (rj k))) od) = H4 at eo s4 ⊢
      refine ⟨_, rfl, _, rfl, ite2 (fun h => nomatch of_decide_eq_true h) (fun _ => ?_)⟩
      refine ⟨_, rfl, a, S, C (rj k), fI, _, _, _, true, rfl, T, eo, .ty _, T.kitV, _, rfl, ite2 (fun h => by simp at h) (fun _ => ?_)⟩
      refine ⟨51, rfl, by decide, by decide, fun D hD => lc_range (fun i H' => Same H4 H' ∧ H' D = some (.lst (if rj k < i then [V.int (rj k)] else []))) ⟨Same.upd hD, upd_same⟩ (fun i H' hi p => ?_) (fun H' p => ?_)⟩
      · obtain ⟨p1, p2⟩ := p
        refine ⟨rfl, _, rfl, _, rfl, i, rj k, a, by simp, Nat.zero_le _, hi, rj_lt k1, eo.same p1, _, rfl, ite2 (fun h => ?_) (fun h => ?_)⟩
        · have e : i = rj k := of_decide_eq_true h
          rw [if_neg (by omega)] at p2
          refine ⟨_, rfl, [], p2, by rw [sizeLine_eq]; exact Nat.zero_lt_succ _, fun c o ho => ?_, ?_⟩
          · rw [upd_ne (ne_of_none ho hD)]
            exact p1 c o ho
          · rw [upd_same, if_pos (by omega), e, Int.zero_add]
            rfl
        · have e : i ≠ rj k := fun e => h (decide_eq_true e)
          refine ⟨p1, ?_⟩
          rw [p2]
          by_cases l : rj k < i
          · rw [if_pos l, if_pos (by omega)]
          · rw [if_neg l, if_neg (by omega)]
      · obtain ⟨p1, p2⟩ := p
        rw [if_pos (show rj k < Int.toNat 51 from rj_lt k1)] at p2
        have fin : ∀ H5, Same H' H5 → (∃ v4 v5 v8 : Option V, [some (V.ref b), some (V.int k), some x, some y, some (V.int (0 + i)), some (V.ref a), none, none, some (V.ref D)] = [some (V.ref b), some (V.int k), some x, some y, v4, v5, none, none, v8] ∧ Same H1 H5) := fun H5 s5 => ⟨_, _, _, rfl, (s4.trans p1).trans s5⟩
        have DpL : ∀ {H5 : Hp} {D : Addr} {z : Int}, H5 D = some (.lst [V.int z]) → Dp K H5 (.ref D) (.list [.int z]) := fun h => .lst (.inl (.inl h)) (.cons (.int _) .nil)
        refine ⟨_, rfl, D, _, rfl, .inl (.inl (.inl p2)), rfl, _, rfl, ite2 (fun h => by simp at h) (fun _ => ?_)⟩
        refine ⟨_, rfl, _, rfl, Nat.le_of_ble_eq_true rfl, fun q hq1 => ?_⟩
        have t1 := Same.upd (o := .lst [V.int k]) hq1
        refine ⟨_, _, DpL (t1 _ _ p2), DpL upd_same, by rfl, by rfl, _, rfl, ite2 (fun h => ?_) (fun _ => ?_)⟩
        · have jk : rj k = 0 := by
            by_cases e : rj k = k
            · rw [e] at h
              simp [PyData.eqv, PyData.eqvAll] at h
            · unfold rj at e ⊢
              split
              · rename_i z
                rw [if_pos z] at e
                exact (e rfl).elim
              · rfl
          refine ⟨_, rfl, Nat.le_of_ble_eq_true rfl, fun r hr1 => ?_⟩
          have t2 := t1.trans (Same.upd (o := .lst [V.int 0]) hr1)
          refine ⟨_, _, DpL (t2 _ _ p2), DpL upd_same, by rfl, by rfl, _, rfl, ite2 (fun h2 => ?_) (fun _ => ?_)⟩
          · rw [jk] at h2
            simp [PyData.eqv, PyData.eqvAll] at h2
          · exact fin _ t2
        · exact ite2 (fun h => nomatch h) (fun _ => fin _ t1)
    · rintro σ H2 ⟨v4, v5, v8, rfl, s2⟩
      exact hq H2 yb (bu1.trans (But.of s2)) (s2 _ _ hbb) hyb
end
end K99

/-! ## D9 -/
set_option Elab.async false
set_option linter.all false
set_option maxRecDepth 100000
set_option maxHeartbeats 4000000
namespace K99
open PySem PySem.Spec PyProof.Rows L2
def spRight : Sp := fun vs H Q _ => ∃ (b : Addr) (n k : Nat) (xs : List V), vs = [.ref b, .int k] ∧ H b = some (.lst xs) ∧ BoxOk n xs ∧ n ≤ 9990 ∧ k < 51 ∧
  ∀ (H' : Hp) (ys : List V), But b H H' → H' b = some (.lst ys) → BoxOk (n + 3) ys → Q (.bl true) H'
theorem cut2 {x y : V} : ∀ m : Nat, m ≤ 2 → cutV [x, y] none (some (m : Int)) = [x, y].take m
  | 0, _ => rfl
  | 1, _ => rfl
  | 2, _ => rfl
def Kp (b : Addr) (H H5 : Hp) (ys : List V) (c : Nat) (Hx : Hp) : Prop := Stp c H5 Hx ∧ But b H Hx ∧ Hx b = some (.lst ys)
theorem Kp.same {b : Addr} {H H5 Hx Hy : Hp} {ys : List V} {c : Nat} (k : Kp b H H5 ys c Hx) (s : Same Hx Hy) : Kp b H H5 ys c Hy := ⟨k.1.trans (Stp.of s), k.2.1.trans (But.of s), s _ _ k.2.2⟩
section
variable {P : Program} {w : World} {K : PySem.W.Frag} {mg : Str → Option Value} {base : Heap} {f S : Addr} {fd : FuncData} {C : Nat → Addr}
theorem scG : FnScope ["box", "k", "one", "other", "way", "error", "at", "fields", "value", "field", "again"] ["box", "k"] (defScope (top 72)) := ⟨rfl, rfl, rfl, by decide +kernel, rfl, by decide +kernel, by decide +kernel⟩
theorem okRight (B : Blt mg) (R : Errs P w K mg base S C) (TS : SayC K mg S) (GT : Fn P w K mg base "_law_take" 1 ["box", "many"] spTake) (GV : Fn P w K mg base "_law_value" 2 ["box"] spValue) (GD : Fn P w K mg base "_law_deep" 1 ["value"] spDeep)
    (GM : Fn P w K mg base "_law_made_0" 6 ["k", "one", "other", "by_name"] (spMade C 0)) (GI : Fn P w K mg base "_law_is_0" 3 ["k", "error"] (spIs C 0)) (GF : Fn P w K mg base "_law_fields" 1 ["k", "error"] (spFields C))
    (GS : Fn P w K mg base "_law_same" 4 ["told", "due"] (spSm 4)) (GB : Fn P w K mg base "_law_blamed" 4 ["given", "value"] spBlamed) (F : FnP K "_law_class_right" 72 f fd) : FnOk P w K mg base CX0 7 f fd ["box", "k"] spRight := by
  refine F.ok scG (fun vs H Q E h => ?_) (fun cdv A outer s H vs Q E0' hr h => ?_)
  · obtain ⟨b, n, k, xs, rfl, _⟩ := h
    rfl
  · obtain ⟨b, n, k, xs, rfl, hb, ho, hn, k1, hq⟩ := h
    have h1 := hr.mono (j := 1) (by omega)
    have h2 := hr.mono (j := 2) (by omega)
    have h3 := hr.mono (j := 3) (by omega)
    have h4 := hr.mono (j := 4) (by omega)
    refine ⟨_, PSs.nox (pss_cons (ps_par3 (i := 2) (j := 3) (l := 4) (by rfl) scG.nd rfl rfl rfl (by decide) (by decide) (by decide) rfl rfl rfl (pa_cons (pe_fn GV h2 rfl (pa_cons (pv 0) pa_nil)) (pa_cons (pe_fn GV h2 rfl (pa_cons (pv 0) pa_nil)) (pa_cons (pe_fn GT h1 rfl (pa_cons (pv 0) (pa_cons pe_int pa_nil))) pa_nil))) (by rfl))
      (pss_cons (ps_asg (pe_lst (pa_cons (pe_fn GD h1 rfl (pa_cons (pv 2) pa_nil)) (pa_cons (pe_fn GD h1 rfl (pa_cons (pv 3) pa_nil)) pa_nil))) (pg_lst (by rfl) (pgs_cons (pg_name (i := 2) scG.nd rfl (.inl rfl)) (pgs_cons (pg_name (i := 3) scG.nd rfl (.inl rfl)) pgs_nil))))
      (pss_cons (ps_set (i := 5) scG.nd rfl (.inr rfl) (pe_ix ix_list (pe_lst (pa_cons (pe_fn GM hr rfl (pa_cons (pv 1) (pa_cons (pv 2) (pa_cons (pv 3) (pa_cons (pe_cmpR op_eq (pv 4) pe_int (nomark _)) pa_nil)))))
          (pa_cons (pe_fn GM hr rfl (pa_cons (pv 1) (pa_cons pe_int (pa_cons pe_str (pa_cons (pe_cmpR op_eq (pv 4) pe_int (nomark _)) pa_nil))))) pa_nil))) pe_int (fun _ _ => rfl)))
      (pss_cons (ps_if (PW.pt (pw_or (pt_not (pt_val (pe_callB call_isO (by rfl) B.isi boot_isinstance (pa_cons (pv 5) (pa_cons (pe_glob (v := .ref S) rfl TS.gS rfl) pa_nil)))))
          (pw_or1 (pt_not (pt_val (pe_callB call_isO (by rfl) B.isi boot_isinstance (pa_cons (pv 5) (pa_cons (pe_bltn (v := .ty "ValueError") rfl B.ve (by decide +kernel) rfl) pa_nil)))))))) (pss_one (ps_ret pe_bl)) pss_nil)
      (pss_cons (ps_if (pt_cmpR (op_neD hr.units) (pe_lc (own := [("at", 6)]) (g := gName 6) (by rfl) scG.nd (pi_range1 (by rfl) B.range (pa_cons pe_int pa_nil))
            (blkOk_by (own := [("at", 6)]) (N := ["box", "k", "one", "other", "way", "error", "at", "fields", "value", "field", "again"]) (sc := defScope (top 72)) (by decide +kernel)) (fun _ _ _ _ _ => pg_name (i := 6) scG.nd rfl (.inl rfl))
            (fun _ _ _ _ _ => pts_one (pt_cmpR op_ne (pe_fn GI h3 rfl (pa_cons (pv 6) (pa_cons (pv 5) pa_nil))) (pe_cmpR op_eq (pv 6) (pv 1) (nomark _)) (nomark _))) (fun _ _ _ _ _ => pv 6)) (pe_lst pa_nil) (nomark _)) (pss_one (ps_ret pe_bl)) pss_nil)
      (pss_cons (ps_set (i := 7) scG.nd rfl (.inl rfl) (pe_fn GF h1 rfl (pa_cons (pv 1) (pa_cons (pv 5) pa_nil))))
      (pss_cons (ps_if (pt_not (pt_val (pe_fn GS h4 rfl (pa_cons (pv 7) (pa_cons (pe_slice sl_list (pe_lst (pa_cons (pv 2) (pa_cons (pv 3) pa_nil))) po_none (po_some (pe_callB call_len_seq (by rfl) B.len PySem.boot_len (pa_cons (pv 7) pa_nil)))) pa_nil))))) (pss_one (ps_ret pe_bl)) pss_nil)
      (pss_cons (ps_for PassesOwn.never rfl (pi_zip (by rfl) B.zip (pa_cons (pe_lst (pa_cons (pv 2) (pa_cons (pv 3) pa_nil))) (pa_cons (pv 7) pa_nil))) (pg_tup rfl (pgs_cons (pg_name (i := 8) scG.nd rfl (.inl rfl)) (pgs_cons (pg_name (i := 9) scG.nd rfl (.inl rfl)) pgs_nil)))
          (pss_one (ps_if (pt_not (pt_val (pe_fn GB h4 rfl (pa_cons (pv 9) (pa_cons (pv 8) pa_nil))))) (pss_one (ps_ret pe_bl)) pss_nil)))
      (pss_cons (ps_set (i := 10) scG.nd rfl (.inl rfl) (pe_fn GM hr rfl (pa_cons (pv 1) (pa_cons pe_int (pa_cons pe_str (pa_cons (pe_cmpR op_eq (pv 4) pe_int (nomark _)) pa_nil))))))
      (pss_one (ps_ret (pe_and (pe_fn GS h4 rfl (pa_cons (pe_fn GF h1 rfl (pa_cons (pv 1) (pa_cons (pv 10) pa_nil))) (pa_cons (pe_slice sl_list (pe_lst (pa_cons pe_int (pa_cons pe_str pa_nil))) po_none (po_some (pe_callB call_len_seq (by rfl) B.len PySem.boot_len (pa_cons (pv 7) pa_nil)))) pa_nil)))
        (pe_one (pe_fn GS h4 rfl (pa_cons (pe_fn GF h1 rfl (pa_cons (pv 1) (pa_cons (pv 5) pa_nil))) (pa_cons (pe_slice sl_list (pe_lst (pa_cons (pv 2) (pa_cons (pv 3) pa_nil))) po_none (po_some (pe_callB call_len_seq (by rfl) B.len PySem.boot_len (pa_cons (pv 7) pa_nil)))) pa_nil)))))))))))))))), ?_⟩
    refine ⟨_, rfl, b, n, xs, rfl, hb, ho, by omega, fun x Ha ya bua hba hya dxa => ⟨_, rfl, b, n + 1, ya, rfl, hba, hya, by omega, fun y Hb yb bub hbb hyb dyb => ⟨_, rfl, b, 2, n + 2, yb, rfl, by decide, by decide, hbb, hyb, by omega, fun d ys d0 d1 hy => ⟨_, _, _, rfl, ?_⟩⟩⟩⟩
    have bu2 : But b H (upd Hb b (.lst ys)) := (bua.trans bub).trans But.upd
    have hb2 : upd Hb b (.lst ys) b = some (.lst ys) := upd_same
    have st3 := But.upd.stp hbb hb2 hyb hy
    have dx2 : Dat 2 5 (upd Hb b (.lst ys)) x := (dxa.stp (bub.stp hba hbb hya hyb)).stp st3
    have dy2 : Dat 2 5 (upd Hb b (.lst ys)) y := dyb.stp st3
    generalize upd Hb b (.lst ys) = H2 at bu2 hb2 dx2 dy2 ⊢
    clear st3 dxa dyb bua bub hba hya hbb hyb d0 d1
    refine ⟨_, rfl, 5, x, rfl, dx2, fun x' H3 s3 dx3 nx => ⟨_, rfl, 5, y, rfl, dy2.same s3, fun y' H4 s4 dy4 ny => ⟨Nat.le_of_ble_eq_true rfl, fun p hp => ⟨p, [x', y'], rfl, .inl (.inl upd_same), rfl, ⟨_, _, rfl, _, _, rfl, rfl, ?_⟩⟩⟩⟩⟩
    have s5 : Same H2 (upd H4 p (.lst [x', y'])) := (s3.trans s4).trans (Same.upd hp)
    have s35 : Same H3 (upd H4 p (.lst [x', y'])) := s4.trans (Same.upd hp)
    have s45 : Same H4 (upd H4 p (.lst [x', y'])) := Same.upd hp
    generalize upd H4 p (.lst [x', y']) = H5 at s5 s35 s45 ⊢
    have dx : Dat 2 5 H5 x' := dx3.same s35
    have dy : Dat 2 5 H5 y' := dy4.same s45
    have nX : ∀ a, x' = .ref a → (∃ xs, H5 a = some (.tup xs)) ∨ H2 a = none := fun a e => (nx a e).imp (fun ⟨xs, h⟩ => ⟨xs, s35 _ _ h⟩) id
    have nY : ∀ a, y' = .ref a → (∃ xs, H5 a = some (.tup xs)) ∨ H2 a = none := fun a e => (ny a e).imp (fun ⟨xs, h⟩ => ⟨xs, s45 _ _ h⟩) fun h => s3.free h
    have K5 : Kp b H H5 ys 0 H5 := ⟨Stp.of (Same.refl _), bu2.trans (But.of s5), s5 _ _ hb2⟩
    clear dx3 dy4 nx ny s35 s45
    obtain ⟨fI, fdI, T, _⟩ := (R.m k k1).ex
    refine ⟨_, rfl, _, rfl, _, rfl, _, rfl, rfl, k, x', y', _, rfl, Nat.zero_le _, k1, fun e H6 he s6 ee6 => ?_⟩
    refine ⟨_, rfl, _, rfl, rfl, k, .int 5, .str "x", _, rfl, Nat.zero_le _, k1, fun e2 H7 he2 s7 ee2 => ⟨Nat.le_of_ble_eq_true rfl, fun q hq1 => ⟨q, _, 0, .ref e, rfl, rfl, .inl (.inl upd_same), rfl, ?_⟩⟩⟩
    have s8 := (s6.trans s7).trans (Same.upd (o := .lst [.ref e, .ref e2]) hq1)
    have ee8 := ee6.same (s7.trans (Same.upd (o := .lst [.ref e, .ref e2]) hq1))
    generalize upd H7 q (.lst [.ref e, .ref e2]) = H8 at s8 ee8 ⊢
    have K8 := K5.same s8
    clear ee6 ee2 s6 s7 he2 hq1
    refine ⟨_, rfl, e, S, C k, fI, _, _, _, true, rfl, T, ee8.err, .own S, T.kitS (R.m k k1).nS TS.hS, _, rfl, ite2 (fun h => by simp at h) (fun _ => ?_)⟩
    refine ⟨_, rfl, e, S, C k, fI, _, _, _, true, rfl, T, ee8.err, .ty _, T.kitV, _, rfl, ite2 (fun h => by simp at h) (fun _ => ?_)⟩
    refine ⟨51, rfl, by decide, by decide, fun D hD => lc_range (fun i H' => Same (upd H8 D (.lst [])) H') (Same.refl _) (fun i H' hi s9 => ?_) (fun H' s9 => ?_)⟩
    · have e9 := ee8.err.same ((Same.upd hD).trans s9)
      refine ⟨rfl, _, rfl, _, rfl, i, k, e, by simp, Nat.zero_le _, hi, k1, e9, _, rfl, _, rfl, rfl, rfl, _, rfl, ite2 (fun h => ?_) (fun _ => s9)⟩
      rw [Int.zero_add, dec_int] at h
      by_cases z : i = k
      · rw [z] at h
        simp at h
      · have z' : ((i : Int) == (k : Int)) = false := beq_eq_false_iff_ne.mpr (by omega)
        rw [z', decide_eq_false z] at h
        simp at h
    · have e9 := s9 D _ upd_same
      refine ⟨Nat.zero_le _, fun r hr1 => ⟨.list [], .list [], .lst (.inl (.inl ((Same.upd hr1) D _ e9))) .nil, .lst (.inl (.inl upd_same)) .nil, by rfl, by rfl, _, rfl, ite2 (fun h => by simp [PyData.eqv, PyData.eqvAll] at h) (fun _ => ?_)⟩⟩
      have s10 := ((Same.upd (o := .lst []) hD).trans s9).trans (Same.upd (o := .lst []) hr1)
      have K10 := K8.same s10
      have ee10 := ee8.same s10
      generalize upd H' r (.lst []) = H10 at s10 K10 ee10 ⊢
      clear e9 s9 hr1 hD ee8 K8
      have m2 : (fl k).length ≤ 2 := (by decide +kernel : ∀ k < 51, (fl k).length ≤ 2) k k1
      refine ⟨_, rfl, _, rfl, k, e, x', y', rfl, k1, ee10, fun F H11 hF s11 eF => ?_⟩
      have K11 := K10.same s11
      have hF5 : H5 F = none := s8.free (s10.free hF)
      have tl : ([x', y'].take (fl k).length).length = (fl k).length := by rw [List.length_take]; exact Nat.min_eq_left m2
      have tm : ∀ u, u ∈ [x', y'].take (fl k).length → u = x' ∨ u = y' := fun u hu => by
        have z := List.mem_of_mem_take hu
        simpa using z
      -- the attributes are the values
      refine ⟨_, rfl, _, rfl, _, rfl, Nat.le_of_ble_eq_true rfl, fun z hz => ⟨_, rfl, F, _, rfl, .inl (.inl (.inl ((Same.upd hz) _ _ eF))), _, rfl, ?_⟩⟩
      refine ⟨z, _, rfl, .inl (.inl upd_same), fun wd hw => ?_⟩
      rw [tl, cut2 _ m2]
      have s12 := (Same.upd (o := .lst [x', y']) hz).trans (Same.upd (o := .lst ([x', y'].take (fl k).length)) hw)
      have K12 := K11.same s12
      refine ⟨5, .ref F, .ref wd, rfl, by omega, .inr ⟨F, wd, _, rfl, rfl, .inl ⟨s12 _ _ eF, upd_same⟩, by rw [tl]; omega, fun u hu => ?_⟩, fun H13 s13 => ⟨true, rfl, ite2 (fun h => by simp at h) (fun _ => ?_)⟩⟩
      · rcases tm u hu with rfl | rfl
        · exact dx.stp K12.1
        · exact dy.stp K12.1
      have K13 := K12.same s13
      have eF13 := s13 _ _ (s12 _ _ eF)
      have ee13 := (ee10.same s11).same (s12.trans s13)
      clear K12 K11 K10 eF s12 s13 hz hw ee10 s11 hF s10 s8
      refine ⟨_, rfl, _, rfl, Nat.le_of_ble_eq_true rfl, fun Z hZ => ⟨_, rfl, Z, F, [x', y'], _, rfl, .inl (.inl upd_same), .inl (.inl ((Same.upd hZ) _ _ eF13)), for_it (walk_zip (xs := [x', y']) (ys := [x', y'].take (fl k).length) rfl)
        (fun i σ Hx => ∃ v8 v9 : Option V, σ = [some (.ref b), some (.int k), some x', some y', some (.int d), some (.ref e), none, some (.ref F), v8, v9, none] ∧ Kp b H H5 ys i Hx ∧ Hx Z = some (.lst [x', y']) ∧ Hx F = some (.lst ([x', y'].take (fl k).length)) ∧ ErrAt Hx e (C k) ((fl k).zip [x', y']))
        ⟨none, none, rfl, K13.same (Same.upd hZ), upd_same, (Same.upd hZ) _ _ eF13, ee13.same (Same.upd hZ)⟩ (fun i σ Hx _ p => ?_) ?_ ?_⟩⟩
      · obtain ⟨_, _, _, _, p1, p2, _⟩ := p
        exact ⟨.inl (.inl p1), .inl (.inl p2)⟩
      · have hZ5 : H5 Z = none := by
          cases z : H5 Z with
          | none => rfl
          | some o =>
            rcases K13.1 Z o z with q | ⟨_, _, _, q, _⟩ <;> rw [hZ] at q <;> cases q
        rintro i v σ Ha Hb hi ⟨v8, v9, rfl, K, pZ, pF, ee⟩ ⟨T, u1, u2, rfl, hT, rfl, e1, e2⟩
        replace e1 : [x', y'][i]? = some u1 := e1
        replace e2 : ([x', y'].take (fl k).length)[i]? = some u2 := e2
        have i2 : i < 2 := Nat.lt_of_lt_of_le hi (Nat.min_le_left _ _)
        have eu : u1 = u2 := by
          rw [List.getElem?_take] at e2
          split at e2
          · rw [e1] at e2
            exact Option.some.inj e2
          · cases e2
        subst eu
        have hu : u1 = x' ∨ u1 = y' := by
          have z := List.mem_of_getElem? e1
          simpa using z
        have sT : Same Ha (upd Ha T (.tup [u1, u1])) := Same.upd hT
        have KT := K.same sT
        have du : Dat 2 5 H5 u1 := by
          rcases hu with rfl | rfl
          · exact dx
          · exact dy
        have nU : ∀ a, u1 = .ref a → (∃ xs, H5 a = some (.tup xs)) ∨ H2 a = none := by
          rcases hu with rfl | rfl
          · exact nX
          · exact nY
        refine ⟨T, [u1, u1], rfl, .inl (.inl upd_same), rfl, _, _, rfl, _, _, rfl, rfl, ?_⟩
        refine ⟨_, rfl, _, rfl, 5 + i, u1, rfl, by omega, du.stp KT.1, fun H' st fr => ⟨true, rfl, ite2 (fun h => by simp at h) (fun _ => ?_)⟩⟩
        have safe : ∀ c xs, upd Ha T (.tup [u1, u1]) c = some (.lst xs) → ((∃ o, H2 c = some o) ∨ H5 c = none) → u1 ≠ .ref c := fun c xs hc hn e => by
          rcases nU c e with ⟨ts, ht⟩ | h2n
          · have z := KT.1.tup ht
            rw [hc] at z
            cases z
          · rcases hn with ⟨o, h⟩ | h
            · rw [h] at h2n
              cases h2n
            · rw [e] at du
              rcases du with z | ⟨a, ys, z, z2 | z2, _⟩
              · cases z
              · cases z
                rw [h] at z2
                cases z2
              · cases z
                rw [h] at z2
                cases z2
        have keep : ∀ c xs, upd Ha T (.tup [u1, u1]) c = some (.lst xs) → ((∃ o, H2 c = some o) ∨ H5 c = none) → H' c = some (.lst xs) := fun c xs hc hn => fr c _ hc fun xs' _ => safe c xs hc hn
        refine ⟨_, _, rfl, ⟨KT.1.trans st, fun c o hc hne => ?_, keep b _ KT.2.2 (.inl ⟨_, hb2⟩)⟩, keep Z _ (sT _ _ pZ) (.inr hZ5), keep F _ (sT _ _ pF) (.inr hF5), st.err (ee.same sT)⟩
        exact fr c o (KT.2.1 c o hc hne) fun xs' eo => safe c xs' (by rw [KT.2.1 c o hc hne, eo]) (.inl ⟨o, bu2 c o hc hne⟩)
      · rintro σ Hx ⟨v8, v9, rfl, K, pZ, pF, ee⟩
        have n2 : min [x', y'].length ([x', y'].take (fl k).length).length ≤ 2 := Nat.min_le_left _ _
        generalize min [x', y'].length ([x', y'].take (fl k).length).length = cc at n2 K
        refine ⟨_, rfl, _, rfl, rfl, k, .int 5, .str "x", _, rfl, Nat.zero_le _, k1, fun e3 H14 he3 s14 ee3 => ?_⟩
        refine ⟨_, rfl, _, rfl, k, e3, .int 5, .str "x", rfl, k1, ee3, fun F3 H15 hF3 s15 eF3 => ⟨Nat.le_of_ble_eq_true rfl, fun z hz => ⟨_, rfl, F, _, rfl, .inl (.inl (.inl ((Same.upd hz) _ _ (s15 _ _ (s14 _ _ pF))))), _, rfl, z, _, rfl, .inl (.inl upd_same), fun wd hw => ?_⟩⟩⟩
        rw [tl, cut2 _ m2]
        have tl3 : ([V.int 5, V.str "x"].take (fl k).length).length = (fl k).length := by rw [List.length_take]; exact Nat.min_eq_left m2
        have s16 := (Same.upd (o := .lst [V.int 5, V.str "x"]) hz).trans (Same.upd (o := .lst ([V.int 5, V.str "x"].take (fl k).length)) hw)
        refine ⟨5, .ref F3, .ref wd, rfl, by omega, .inr ⟨F3, wd, _, rfl, rfl, .inl ⟨s16 _ _ eF3, upd_same⟩, by rw [tl3]; omega, fun u hu => ?_⟩, fun H17 s17 => ⟨true, rfl, ite2 (fun _ => ?_) (fun h => (h rfl).elim)⟩⟩
        · have q := List.mem_of_mem_take hu
          simp only [List.mem_cons, List.not_mem_nil, or_false] at q
          rcases q with rfl | rfl <;> exact Dat.flat rfl
        have s18 := (s14.trans s15).trans (s16.trans s17)
        have K18 := K.same s18
        have e18 := ee.same s18
        have pF18 := s18 _ _ pF
        refine ⟨_, rfl, _, rfl, k, e, x', y', rfl, k1, e18, fun F4 H19 hF4 s19 eF4 => ⟨_, rfl, _, rfl, Nat.le_of_ble_eq_true rfl, fun z2 hz2 => ⟨_, rfl, F, _, rfl, .inl (.inl (.inl ((Same.upd hz2) _ _ (s19 _ _ pF18)))), _, rfl, z2, _, rfl, .inl (.inl upd_same), fun wd2 hw2 => ?_⟩⟩⟩
        rw [tl, cut2 _ m2]
        have s20 := (Same.upd (o := .lst [x', y']) hz2).trans (Same.upd (o := .lst ([x', y'].take (fl k).length)) hw2)
        have K20 := (K18.same s19).same s20
        refine ⟨5 + cc, .ref F4, .ref wd2, rfl, by omega, .inr ⟨F4, wd2, _, rfl, rfl, .inl ⟨s20 _ _ eF4, upd_same⟩, by rw [tl]; omega, fun u hu => ?_⟩, fun H21 s21 => ?_⟩
        · rcases tm u hu with rfl | rfl
          · exact dx.stp K20.1
          · exact dy.stp K20.1
        have K21 := K20.same s21
        exact hq H21 ys K21.2.1 K21.2.2 hy
end
end K99

/-! ## D10 -/
set_option Elab.async false
set_option linter.all false
set_option maxRecDepth 100000
set_option maxHeartbeats 4000000
namespace K99
open PySem PySem.Spec PyProof.Rows L2
def spLaw (K : PySem.W.Frag) : Sp := fun vs H Q _ => ∃ (a : Addr) (ns : List Int), vs = [.ref a] ∧ SqL K H a (ns.map V.int) ∧ ∀ H', Q (.bl true) H'
section
variable {P : Program} {w : World} {K : PySem.W.Frag} {mg : Str → Option Value} {base : Heap} {f S : Addr} {fd : FuncData} {C : Nat → Addr}
theorem scL : FnScope ["script", "k", "box", "first", "step"] ["script"] (defScope (top 73)) := ⟨rfl, rfl, rfl, by decide +kernel, rfl, by decide +kernel, by decide +kernel⟩
theorem okLaw (B : Blt mg) (GC : Fn P w K mg base "_law_cell" 1 ["script", "k"] (spCell K)) (GX : Fn P w K mg base "_law_box" 1 ["great"] spBox) (GT : Fn P w K mg base "_law_take" 1 ["box", "many"] spTake)
    (GR : Fn P w K mg base "_law_class_right" 7 ["box", "k"] spRight) (GH : Fn P w K mg base "_law_caught_right" 4 ["box"] spCaught) (F : FnP K "law" 73 f fd) : FnOk P w K mg base CX0 8 f fd ["script"] (spLaw K) := by
  refine F.ok scL (fun vs H Q E h => ?_) (fun cdv A outer s H vs Q E0' hr h => ?_)
  · obtain ⟨a, ns, rfl, _⟩ := h
    rfl
  · obtain ⟨a, ns, rfl, hS, hq⟩ := h
    have h1 := hr.mono (j := 1) (by omega)
    have h4 := hr.mono (j := 4) (by omega)
    refine ⟨_, PSs.nox (pss_cons (ps_for PassesOwn.never rfl (pi_range1 (by rfl) B.range (pa_cons (pe_callB (call_max2 rfl) (by rfl) B.max (by decide +kernel) (pa_cons pe_int (pa_cons (pe_callB (call_min2 rfl) (by rfl) B.min (by decide +kernel) (pa_cons (pe_callB call_len_seq (by rfl) B.len PySem.boot_len (pa_cons (pv 0) pa_nil)) (pa_cons pe_int pa_nil))) pa_nil))) pa_nil)) (pg_name (i := 1) scL.nd rfl (.inl rfl))
        (pss_cons (ps_set (i := 2) scL.nd rfl (.inl rfl) (pe_fn GX h1 rfl (pa_cons (pe_fn GC h1 rfl (pa_cons (pv 0) (pa_cons (pv 1) pa_nil))) pa_nil)))
        (pss_cons (ps_set (i := 3) scL.nd rfl (.inl rfl) (pe_fn GT h1 rfl (pa_cons (pv 2) (pa_cons pe_int pa_nil))))
        (pss_cons (ps_for PassesOwn.never rfl (pi_range1 (by rfl) B.range (pa_cons pe_int pa_nil)) (pg_name (i := 4) scL.nd rfl (.inl rfl))
            (pss_one (ps_if (pt_not (pt_val (pe_fn GR hr rfl (pa_cons (pv 2) (pa_cons (pe_op op_mod (pe_callTy call_int1 (by rfl) B.int (by decide +kernel) (pa_cons (pe_op op_add (pv 3) (pv 4)) pa_nil)) pe_int) pa_nil))))) (pss_one (ps_ret pe_bl)) pss_nil)))
        (pss_one (ps_if (PW.pt (pw_or (pt_not (pt_val (pe_fn GH h4 rfl (pa_cons (pv 2) pa_nil)))) (pw_or1 (pt_not (pt_val (pe_fn GH h4 rfl (pa_cons (pv 2) pa_nil))))))) (pss_one (ps_ret pe_bl)) pss_nil))))))
      (pss_one (ps_ret pe_bl))), ?_⟩
    have lim : ∀ L : Int, 0 ≤ L → 3 ≤ (if (if (6 : Int) < L then (6 : Int) else L) > 3 then (if (6 : Int) < L then (6 : Int) else L) else 3) ∧ (if (if (6 : Int) < L then (6 : Int) else L) > 3 then (if (6 : Int) < L then (6 : Int) else L) else 3) ≤ 6 := fun L hL => by
      split <;> split <;> omega
    obtain ⟨l1, l2⟩ := lim ((ns.map V.int).length : Int) (by omega)
    refine ⟨_, rfl, a, _, rfl, .inl hS, _, _, rfl, _, _, rfl, _, rfl, by omega, by omega, for_range (fun i σ H' => ∃ v1 v2 v3 v4 : Option V, σ = [some (.ref a), v1, v2, v3, v4] ∧ Same H H') ⟨none, none, none, none, rfl, Same.refl _⟩ ?_ ?_⟩
    · rintro i σ H1 hi ⟨v1, v2, v3, v4, rfl, s1⟩
      refine ⟨_, rfl, _, rfl, a, ns, 0 + (i : Int), rfl, s1.seq hS, by omega, by omega, fun g H2 s2 => ?_⟩
      refine ⟨g, rfl, fun p xs hp ho => ?_⟩
      refine ⟨_, rfl, p, 51, 0, xs, rfl, by decide, by decide, upd_same, ho, by omega, fun d ys d0 d1 hy => ?_⟩
      have sp : Same H2 (upd (upd H2 p (.lst xs)) p (.lst ys)) := by
        rw [upd_upd]
        exact Same.upd hp
      generalize hG : upd (upd H2 p (.lst xs)) p (.lst ys) = H3 at sp ⊢
      have e3 : H3 p = some (.lst ys) := by rw [← hG, upd_same]
      clear hG
      have sH : ∀ {H' : Hp}, But p H3 H' → Same H H' := fun {H'} bu c o hc => by
        have q := (s1.trans s2) c o hc
        exact bu c o (sp c o q) (ne_of_none q hp)
      refine ⟨51, rfl, by decide, by decide, for_range (fun i' σ H' => ∃ v4 : Option V, σ = [some (.ref a), some (.int (0 + (i : Int))), some (.ref p), some (.int d), v4] ∧ But p H3 H' ∧ ∃ zs, H' p = some (.lst zs) ∧ BoxOk (1 + 3 * i') zs) ⟨v4, rfl, But.refl _ _, ys, e3, hy⟩ ?_ ?_⟩
      · rintro i' σ H4 hi' ⟨v4', rfl, bu, zs, e4, hz⟩
        obtain ⟨k, hk⟩ : ∃ k : Nat, (d + (0 + (i' : Int))) % 51 = (k : Int) := ⟨((d + (0 + (i' : Int))) % 51).toNat, by have := Int.emod_nonneg (d + (0 + (i' : Int))) (by decide : (51 : Int) ≠ 0); omega⟩
        have k51 : k < 51 := by have := Int.emod_lt_of_pos (d + (0 + (i' : Int))) (by decide : (0 : Int) < 51); omega
        refine ⟨_, rfl, _, rfl, _, rfl, _, _, rfl, rfl, .inl ⟨_, rfl, _, _, rfl, rfl, (by omega : (0 : Int) < 51), p, 1 + 3 * i', k, zs, ?_, e4, hz, ?_, k51, fun H' ws bu' e' hw => ⟨true, rfl, ite2 (fun h => by simp at h) (fun _ => ⟨_, rfl, bu.trans bu', ws, e', hw.up (by omega)⟩)⟩⟩⟩
        · rw [Int.zero_add] at hk
          simp [hk]
        · have : i' < 51 := hi'
          omega
      · rintro σ H4 ⟨v4', rfl, bu, zs, e4, hz⟩
        have hz' := hz.up (m := 200) (by decide)
        refine ⟨_, rfl, p, 200, zs, rfl, e4, hz', by omega, fun H5 ws bu5 e5 hw => ⟨true, rfl, ite2 (fun h => by simp at h) (fun _ => ?_)⟩⟩
        refine ⟨_, rfl, p, 203, ws, rfl, e5, hw, by omega, fun H6 us bu6 e6 hu => ⟨true, rfl, ite2 (fun h => by simp at h) (fun _ => ?_)⟩⟩
        exact ⟨_, _, _, _, rfl, sH ((bu.trans bu5).trans bu6)⟩
    · rintro σ H1 ⟨v1, v2, v3, v4, rfl, s1⟩
      exact hq H1
end
end K99

/-! ## G1 -/
set_option Elab.async false
set_option linter.all false
set_option maxRecDepth 100000
set_option maxHeartbeats 4000000
namespace K99
open PySem PySem.Spec PySem.W PyProof.Rows L2
theorem two {a b : Bool} (h : (a && b) = true) : a = true ∧ b = true := Bool.and_eq_true_iff.mp h
theorem oexB_ok {K : Frag} {S C : Addr} (c : oexB K S C = true) : ∃ nm q N bs sn sub ab col dd k0 k1 k2 k3 k5, K.lookup C = some (excClassObj nm q C N bs (.ref S :: veT) true sn sub ab col dd k0 k1 k2 k3 k5 "ValueError.__new__") := by
  unfold oexB at c
  split at c
  · rename_i dd cd sl ho
    split at c
    · rename_i k0 k1 k2 k3 n k5 hs
      obtain ⟨c1, c2⟩ := two c
      obtain ⟨c3, c4⟩ := two c2
      obtain ⟨c5, c6⟩ := two c4
      have hn : n = "ValueError.__new__" := beq_iff_eq.mp c3
      have hm : cd.mro = .ref C :: .ref S :: veT := of_decide_eq_true c1
      have hd : cd.hasDel = false := by
        cases z : cd.hasDel with
        | false => rfl
        | true =>
          rw [z] at c5
          cases c5
      obtain ⟨nm, bs, mro, ns, qn, hdc, sn, sub, ab, col, del⟩ := cd
      dsimp only at hm hd c6
      subst hm hd c6 hn
      obtain ⟨l⟩ := sl
      dsimp only at hs
      subst hs
      exact ⟨nm, qn, ns, bs, sn, sub, ab, col, dd, k0, k1, k2, k3, k5, ho⟩
    · cases c
  · cases c
section
variable {P : Program} {w : World} {K : Frag} {h : Heap} {mg : Str → Option Value} {base : Heap}
theorem says_all (c : SaysK K) : allB K = true := (two (congrArg Prod.fst c : (allB K && fnL.all (fun d => d.ok K)) = true)).1
theorem says_fn (c : SaysK K) (i : Nat) {d : He.DefD} (hd : fnL[i]? = some d) : ∃ fd, FunD K d.name d.qual d.params d.body d.scope (d.dvs K) (d.kws K) (He.fAd K d.at_) fd := by
  have m := List.mem_of_getElem? hd
  have ok := List.all_eq_true.mp (two (congrArg Prod.fst c : (allB K && fnL.all (fun d => d.ok K)) = true)).2 d m
  have e : fnL.map (fun d => He.fnW K d.at_) = fnL.map He.DefD.val := congrArg Prod.snd c
  exact He.DefD.funD (List.map_inj_left.mp e d m) ok
theorem says_err (c : SaysK K) (i : Nat) {p : Str × List Str} (hp : clsL[i]? = some p) : errB K (He.ga K "SayError") p.1 p.2 = true :=
  List.all_eq_true.mp (two (two (says_all c)).2).1 p (List.mem_of_getElem? hp)
theorem err_of (X : K.In h) (G : h.Ns mainGlobals mg) {S : Addr} {x : Str} {fl : List Str} (c : errB K S x fl = true) : mg x = some (.ref (He.ga K x)) ∧ He.ga K x ≠ S ∧ ErrC K S (He.ga K x) (He.ma K (He.ga K x) "__init__") fl := by
  obtain ⟨c1, c⟩ := two c
  obtain ⟨c2, c⟩ := two c
  obtain ⟨c3, c⟩ := two c
  obtain ⟨c4, c⟩ := two c
  obtain ⟨c5, c⟩ := two c
  obtain ⟨c6, c⟩ := two c
  obtain ⟨c7, c⟩ := two c
  obtain ⟨c8, c⟩ := two c
  obtain ⟨c9, c⟩ := two c
  obtain ⟨c10, c11⟩ := two c
  refine ⟨PySem.W.mg_of X G (He.eqO_ok c1), fun e => ?_, ⟨oexB_ok c2, He.eqO_ok c3, He.eqO_ok c4, He.eqO_ok c5, He.eqO_ok c6, He.eqO_ok c7, of_decide_eq_true c8, c9, fun f hf => He.eqO_ok (List.all_eq_true.mp c10 f hf)⟩⟩
  rw [decide_eq_true e] at c11
  cases c11
theorem say_of (X : K.In h) (G : h.Ns mainGlobals mg) (c : sayB K = true) : SayC K mg (He.ga K "SayError") ∧ subIn K (.ref (He.ga K "SayError")) (.type "BaseException") = some true := by
  obtain ⟨c1, c⟩ := two c
  obtain ⟨c2, c⟩ := two c
  obtain ⟨c3, c⟩ := two c
  obtain ⟨c4, c6⟩ := two c
  obtain ⟨c4, c5⟩ := two c4
  refine ⟨⟨PySem.W.mg_of X G (He.eqO_ok c1), He.eqO_ok c2, c3, ?_, c5⟩, of_decide_eq_true c6⟩
  split at c4
  · rename_i n hn
    rw [hn, beq_iff_eq.mp c4]
  · cases c4
theorem _root_.L2.FunD.bindsX {x qual : Str} {params : Arguments} {body : List Stmt} {scope : Scope} {kws : List (Str × V)} {f : Addr} {fd : FuncData} (F : FunD K x qual params body scope [] kws f fd) {args : Args} {bs : List (Str × Value)}
    (e : ∀ (kV doc pm : Value) (an : Option Addr) (cdv ct : Value), bindArgs (fnOf x qual params body scope .none kV doc pm an cdv ct) args = pure bs) (s : Shared) : BindsTo s fd args bs := by
  obtain ⟨oc, od, dV, kV, doc, pm, an, cdv, ct, osl, rfl, lk, hcd, hD, hK⟩ := F.ex
  rcases hD with ⟨_, rfl⟩ | ⟨q, _⟩
  · exact .of_eq (e kV doc pm an cdv ct)
  · exact absurd rfl q
theorem em0 (c : SaysK K) (X : K.In h) (G : h.Ns mainGlobals mg) (TS : SayC K mg (He.ga K "SayError")) : ErrM P w K mg base (He.ga K "SayError") (nm 0) (He.ga K (nm 0)) (fl 0) := by
  obtain ⟨g, ns, T⟩ := err_of X G (says_err c 0 rfl)
  obtain ⟨fd, F⟩ := says_fn c 19 rfl
  exact ⟨g, ns, _, fd, T, ok0 T TS F, fun s v us hl => match us, hl with | [u], _ => FunD.bindsX F (fun _ _ _ _ _ _ => rfl) s, fun s v us hl => match us, hl with | [u], _ => FunD.bindsX F (fun _ _ _ _ _ _ => rfl) s, fun s v us hl => match us, hl with | [u], _ => FunD.bindsX F (fun _ _ _ _ _ _ => rfl) s⟩
theorem em1 (c : SaysK K) (X : K.In h) (G : h.Ns mainGlobals mg) (TS : SayC K mg (He.ga K "SayError")) : ErrM P w K mg base (He.ga K "SayError") (nm 1) (He.ga K (nm 1)) (fl 1) := by
  obtain ⟨g, ns, T⟩ := err_of X G (says_err c 1 rfl)
  obtain ⟨fd, F⟩ := says_fn c 20 rfl
  exact ⟨g, ns, _, fd, T, ok1 T TS F, fun s v us hl => match us, hl with | [u], _ => FunD.bindsX F (fun _ _ _ _ _ _ => rfl) s, fun s v us hl => match us, hl with | [u], _ => FunD.bindsX F (fun _ _ _ _ _ _ => rfl) s, fun s v us hl => match us, hl with | [u], _ => FunD.bindsX F (fun _ _ _ _ _ _ => rfl) s⟩
theorem em2 (c : SaysK K) (X : K.In h) (G : h.Ns mainGlobals mg) (TS : SayC K mg (He.ga K "SayError")) : ErrM P w K mg base (He.ga K "SayError") (nm 2) (He.ga K (nm 2)) (fl 2) := by
  obtain ⟨g, ns, T⟩ := err_of X G (says_err c 2 rfl)
  obtain ⟨fd, F⟩ := says_fn c 21 rfl
  exact ⟨g, ns, _, fd, T, ok2 T TS F, fun s v us hl => match us, hl with | [u], _ => FunD.bindsX F (fun _ _ _ _ _ _ => rfl) s, fun s v us hl => match us, hl with | [u], _ => FunD.bindsX F (fun _ _ _ _ _ _ => rfl) s, fun s v us hl => match us, hl with | [u], _ => FunD.bindsX F (fun _ _ _ _ _ _ => rfl) s⟩
theorem em3 (c : SaysK K) (X : K.In h) (G : h.Ns mainGlobals mg) (TS : SayC K mg (He.ga K "SayError")) : ErrM P w K mg base (He.ga K "SayError") (nm 3) (He.ga K (nm 3)) (fl 3) := by
  obtain ⟨g, ns, T⟩ := err_of X G (says_err c 3 rfl)
  obtain ⟨fd, F⟩ := says_fn c 22 rfl
  exact ⟨g, ns, _, fd, T, ok3 T TS F, fun s v us hl => match us, hl with | [u], _ => FunD.bindsX F (fun _ _ _ _ _ _ => rfl) s, fun s v us hl => match us, hl with | [u], _ => FunD.bindsX F (fun _ _ _ _ _ _ => rfl) s, fun s v us hl => match us, hl with | [u], _ => FunD.bindsX F (fun _ _ _ _ _ _ => rfl) s⟩
theorem em4 (c : SaysK K) (X : K.In h) (G : h.Ns mainGlobals mg) (TS : SayC K mg (He.ga K "SayError")) : ErrM P w K mg base (He.ga K "SayError") (nm 4) (He.ga K (nm 4)) (fl 4) := by
  obtain ⟨g, ns, T⟩ := err_of X G (says_err c 4 rfl)
  obtain ⟨fd, F⟩ := says_fn c 23 rfl
  exact ⟨g, ns, _, fd, T, ok4 T TS F, fun s v us hl => match us, hl with | [u], _ => FunD.bindsX F (fun _ _ _ _ _ _ => rfl) s, fun s v us hl => match us, hl with | [u], _ => FunD.bindsX F (fun _ _ _ _ _ _ => rfl) s, fun s v us hl => match us, hl with | [u], _ => FunD.bindsX F (fun _ _ _ _ _ _ => rfl) s⟩
theorem em5 (c : SaysK K) (X : K.In h) (G : h.Ns mainGlobals mg) (TS : SayC K mg (He.ga K "SayError")) : ErrM P w K mg base (He.ga K "SayError") (nm 5) (He.ga K (nm 5)) (fl 5) := by
  obtain ⟨g, ns, T⟩ := err_of X G (says_err c 5 rfl)
  obtain ⟨fd, F⟩ := says_fn c 24 rfl
  exact ⟨g, ns, _, fd, T, ok5 T TS F, fun s v us hl => match us, hl with | [u], _ => FunD.bindsX F (fun _ _ _ _ _ _ => rfl) s, fun s v us hl => match us, hl with | [u], _ => FunD.bindsX F (fun _ _ _ _ _ _ => rfl) s, fun s v us hl => match us, hl with | [u], _ => FunD.bindsX F (fun _ _ _ _ _ _ => rfl) s⟩
theorem em6 (c : SaysK K) (X : K.In h) (G : h.Ns mainGlobals mg) (TS : SayC K mg (He.ga K "SayError")) : ErrM P w K mg base (He.ga K "SayError") (nm 6) (He.ga K (nm 6)) (fl 6) := by
  obtain ⟨g, ns, T⟩ := err_of X G (says_err c 6 rfl)
  obtain ⟨fd, F⟩ := says_fn c 25 rfl
  exact ⟨g, ns, _, fd, T, ok6 T TS F, fun s v us hl => match us, hl with | [u], _ => FunD.bindsX F (fun _ _ _ _ _ _ => rfl) s, fun s v us hl => match us, hl with | [u], _ => FunD.bindsX F (fun _ _ _ _ _ _ => rfl) s, fun s v us hl => match us, hl with | [u], _ => FunD.bindsX F (fun _ _ _ _ _ _ => rfl) s⟩
theorem em7 (c : SaysK K) (X : K.In h) (G : h.Ns mainGlobals mg) (TS : SayC K mg (He.ga K "SayError")) : ErrM P w K mg base (He.ga K "SayError") (nm 7) (He.ga K (nm 7)) (fl 7) := by
  obtain ⟨g, ns, T⟩ := err_of X G (says_err c 7 rfl)
  obtain ⟨fd, F⟩ := says_fn c 26 rfl
  exact ⟨g, ns, _, fd, T, ok7 T TS F, fun s v us hl => match us, hl with | [u], _ => FunD.bindsX F (fun _ _ _ _ _ _ => rfl) s, fun s v us hl => match us, hl with | [u], _ => FunD.bindsX F (fun _ _ _ _ _ _ => rfl) s, fun s v us hl => match us, hl with | [u], _ => FunD.bindsX F (fun _ _ _ _ _ _ => rfl) s⟩
theorem em8 (c : SaysK K) (X : K.In h) (G : h.Ns mainGlobals mg) (TS : SayC K mg (He.ga K "SayError")) : ErrM P w K mg base (He.ga K "SayError") (nm 8) (He.ga K (nm 8)) (fl 8) := by
  obtain ⟨g, ns, T⟩ := err_of X G (says_err c 8 rfl)
  obtain ⟨fd, F⟩ := says_fn c 27 rfl
  exact ⟨g, ns, _, fd, T, ok8 T TS F, fun s v us hl => match us, hl with | [u], _ => FunD.bindsX F (fun _ _ _ _ _ _ => rfl) s, fun s v us hl => match us, hl with | [u], _ => FunD.bindsX F (fun _ _ _ _ _ _ => rfl) s, fun s v us hl => match us, hl with | [u], _ => FunD.bindsX F (fun _ _ _ _ _ _ => rfl) s⟩
theorem em9 (c : SaysK K) (X : K.In h) (G : h.Ns mainGlobals mg) (TS : SayC K mg (He.ga K "SayError")) : ErrM P w K mg base (He.ga K "SayError") (nm 9) (He.ga K (nm 9)) (fl 9) := by
  obtain ⟨g, ns, T⟩ := err_of X G (says_err c 9 rfl)
  obtain ⟨fd, F⟩ := says_fn c 28 rfl
  exact ⟨g, ns, _, fd, T, ok9 T TS F, fun s v us hl => match us, hl with | [u], _ => FunD.bindsX F (fun _ _ _ _ _ _ => rfl) s, fun s v us hl => match us, hl with | [u], _ => FunD.bindsX F (fun _ _ _ _ _ _ => rfl) s, fun s v us hl => match us, hl with | [u], _ => FunD.bindsX F (fun _ _ _ _ _ _ => rfl) s⟩
theorem em10 (c : SaysK K) (X : K.In h) (G : h.Ns mainGlobals mg) (TS : SayC K mg (He.ga K "SayError")) : ErrM P w K mg base (He.ga K "SayError") (nm 10) (He.ga K (nm 10)) (fl 10) := by
  obtain ⟨g, ns, T⟩ := err_of X G (says_err c 10 rfl)
  obtain ⟨fd, F⟩ := says_fn c 29 rfl
  exact ⟨g, ns, _, fd, T, ok10 T TS F, fun s v us hl => match us, hl with | [u], _ => FunD.bindsX F (fun _ _ _ _ _ _ => rfl) s, fun s v us hl => match us, hl with | [u], _ => FunD.bindsX F (fun _ _ _ _ _ _ => rfl) s, fun s v us hl => match us, hl with | [u], _ => FunD.bindsX F (fun _ _ _ _ _ _ => rfl) s⟩
theorem em11 (c : SaysK K) (X : K.In h) (G : h.Ns mainGlobals mg) (TS : SayC K mg (He.ga K "SayError")) : ErrM P w K mg base (He.ga K "SayError") (nm 11) (He.ga K (nm 11)) (fl 11) := by
  obtain ⟨g, ns, T⟩ := err_of X G (says_err c 11 rfl)
  obtain ⟨fd, F⟩ := says_fn c 30 rfl
  exact ⟨g, ns, _, fd, T, ok11 T TS F, fun s v us hl => match us, hl with | [u], _ => FunD.bindsX F (fun _ _ _ _ _ _ => rfl) s, fun s v us hl => match us, hl with | [u], _ => FunD.bindsX F (fun _ _ _ _ _ _ => rfl) s, fun s v us hl => match us, hl with | [u], _ => FunD.bindsX F (fun _ _ _ _ _ _ => rfl) s⟩
theorem em12 (c : SaysK K) (X : K.In h) (G : h.Ns mainGlobals mg) (TS : SayC K mg (He.ga K "SayError")) : ErrM P w K mg base (He.ga K "SayError") (nm 12) (He.ga K (nm 12)) (fl 12) := by
  obtain ⟨g, ns, T⟩ := err_of X G (says_err c 12 rfl)
  obtain ⟨fd, F⟩ := says_fn c 31 rfl
  exact ⟨g, ns, _, fd, T, ok12 T TS F, fun s v us hl => match us, hl with | [u], _ => FunD.bindsX F (fun _ _ _ _ _ _ => rfl) s, fun s v us hl => match us, hl with | [u], _ => FunD.bindsX F (fun _ _ _ _ _ _ => rfl) s, fun s v us hl => match us, hl with | [u], _ => FunD.bindsX F (fun _ _ _ _ _ _ => rfl) s⟩
theorem em13 (c : SaysK K) (X : K.In h) (G : h.Ns mainGlobals mg) (TS : SayC K mg (He.ga K "SayError")) : ErrM P w K mg base (He.ga K "SayError") (nm 13) (He.ga K (nm 13)) (fl 13) := by
  obtain ⟨g, ns, T⟩ := err_of X G (says_err c 13 rfl)
  obtain ⟨fd, F⟩ := says_fn c 32 rfl
  exact ⟨g, ns, _, fd, T, ok13 T TS F, fun s v us hl => match us, hl with | [u], _ => FunD.bindsX F (fun _ _ _ _ _ _ => rfl) s, fun s v us hl => match us, hl with | [u], _ => FunD.bindsX F (fun _ _ _ _ _ _ => rfl) s, fun s v us hl => match us, hl with | [u], _ => FunD.bindsX F (fun _ _ _ _ _ _ => rfl) s⟩
theorem em14 (c : SaysK K) (X : K.In h) (G : h.Ns mainGlobals mg) (TS : SayC K mg (He.ga K "SayError")) : ErrM P w K mg base (He.ga K "SayError") (nm 14) (He.ga K (nm 14)) (fl 14) := by
  obtain ⟨g, ns, T⟩ := err_of X G (says_err c 14 rfl)
  obtain ⟨fd, F⟩ := says_fn c 33 rfl
  exact ⟨g, ns, _, fd, T, ok14 T TS F, fun s v us hl => match us, hl with | [u], _ => FunD.bindsX F (fun _ _ _ _ _ _ => rfl) s, fun s v us hl => match us, hl with | [u], _ => FunD.bindsX F (fun _ _ _ _ _ _ => rfl) s, fun s v us hl => match us, hl with | [u], _ => FunD.bindsX F (fun _ _ _ _ _ _ => rfl) s⟩
theorem em15 (c : SaysK K) (X : K.In h) (G : h.Ns mainGlobals mg) (TS : SayC K mg (He.ga K "SayError")) : ErrM P w K mg base (He.ga K "SayError") (nm 15) (He.ga K (nm 15)) (fl 15) := by
  obtain ⟨g, ns, T⟩ := err_of X G (says_err c 15 rfl)
  obtain ⟨fd, F⟩ := says_fn c 34 rfl
  exact ⟨g, ns, _, fd, T, ok15 T TS F, fun s v us hl => match us, hl with | [u], _ => FunD.bindsX F (fun _ _ _ _ _ _ => rfl) s, fun s v us hl => match us, hl with | [u], _ => FunD.bindsX F (fun _ _ _ _ _ _ => rfl) s, fun s v us hl => match us, hl with | [u], _ => FunD.bindsX F (fun _ _ _ _ _ _ => rfl) s⟩
theorem em16 (c : SaysK K) (X : K.In h) (G : h.Ns mainGlobals mg) (TS : SayC K mg (He.ga K "SayError")) : ErrM P w K mg base (He.ga K "SayError") (nm 16) (He.ga K (nm 16)) (fl 16) := by
  obtain ⟨g, ns, T⟩ := err_of X G (says_err c 16 rfl)
  obtain ⟨fd, F⟩ := says_fn c 35 rfl
  exact ⟨g, ns, _, fd, T, ok16 T TS F, fun s v us hl => match us, hl with | [u], _ => FunD.bindsX F (fun _ _ _ _ _ _ => rfl) s, fun s v us hl => match us, hl with | [u], _ => FunD.bindsX F (fun _ _ _ _ _ _ => rfl) s, fun s v us hl => match us, hl with | [u], _ => FunD.bindsX F (fun _ _ _ _ _ _ => rfl) s⟩
theorem em17 (c : SaysK K) (X : K.In h) (G : h.Ns mainGlobals mg) (TS : SayC K mg (He.ga K "SayError")) : ErrM P w K mg base (He.ga K "SayError") (nm 17) (He.ga K (nm 17)) (fl 17) := by
  obtain ⟨g, ns, T⟩ := err_of X G (says_err c 17 rfl)
  obtain ⟨fd, F⟩ := says_fn c 36 rfl
  exact ⟨g, ns, _, fd, T, ok17 T TS F, fun s v us hl => match us, hl with | [u], _ => FunD.bindsX F (fun _ _ _ _ _ _ => rfl) s, fun s v us hl => match us, hl with | [u], _ => FunD.bindsX F (fun _ _ _ _ _ _ => rfl) s, fun s v us hl => match us, hl with | [u], _ => FunD.bindsX F (fun _ _ _ _ _ _ => rfl) s⟩
theorem em18 (c : SaysK K) (X : K.In h) (G : h.Ns mainGlobals mg) (TS : SayC K mg (He.ga K "SayError")) : ErrM P w K mg base (He.ga K "SayError") (nm 18) (He.ga K (nm 18)) (fl 18) := by
  obtain ⟨g, ns, T⟩ := err_of X G (says_err c 18 rfl)
  obtain ⟨fd, F⟩ := says_fn c 37 rfl
  exact ⟨g, ns, _, fd, T, ok18 T TS F, fun s v us hl => match us, hl with | [u], _ => FunD.bindsX F (fun _ _ _ _ _ _ => rfl) s, fun s v us hl => match us, hl with | [u], _ => FunD.bindsX F (fun _ _ _ _ _ _ => rfl) s, fun s v us hl => match us, hl with | [u], _ => FunD.bindsX F (fun _ _ _ _ _ _ => rfl) s⟩
theorem em19 (c : SaysK K) (X : K.In h) (G : h.Ns mainGlobals mg) (TS : SayC K mg (He.ga K "SayError")) : ErrM P w K mg base (He.ga K "SayError") (nm 19) (He.ga K (nm 19)) (fl 19) := by
  obtain ⟨g, ns, T⟩ := err_of X G (says_err c 19 rfl)
  obtain ⟨fd, F⟩ := says_fn c 38 rfl
  exact ⟨g, ns, _, fd, T, ok19 T TS F, fun s v us hl => match us, hl with | [u], _ => FunD.bindsX F (fun _ _ _ _ _ _ => rfl) s, fun s v us hl => match us, hl with | [u], _ => FunD.bindsX F (fun _ _ _ _ _ _ => rfl) s, fun s v us hl => match us, hl with | [u], _ => FunD.bindsX F (fun _ _ _ _ _ _ => rfl) s⟩
theorem em20 (c : SaysK K) (X : K.In h) (G : h.Ns mainGlobals mg) (TS : SayC K mg (He.ga K "SayError")) : ErrM P w K mg base (He.ga K "SayError") (nm 20) (He.ga K (nm 20)) (fl 20) := by
  obtain ⟨g, ns, T⟩ := err_of X G (says_err c 20 rfl)
  obtain ⟨fd, F⟩ := says_fn c 39 rfl
  exact ⟨g, ns, _, fd, T, ok20 T TS F, fun s v us hl => match us, hl with | [u], _ => FunD.bindsX F (fun _ _ _ _ _ _ => rfl) s, fun s v us hl => match us, hl with | [u], _ => FunD.bindsX F (fun _ _ _ _ _ _ => rfl) s, fun s v us hl => match us, hl with | [u], _ => FunD.bindsX F (fun _ _ _ _ _ _ => rfl) s⟩
theorem em21 (c : SaysK K) (X : K.In h) (G : h.Ns mainGlobals mg) (TS : SayC K mg (He.ga K "SayError")) : ErrM P w K mg base (He.ga K "SayError") (nm 21) (He.ga K (nm 21)) (fl 21) := by
  obtain ⟨g, ns, T⟩ := err_of X G (says_err c 21 rfl)
  obtain ⟨fd, F⟩ := says_fn c 40 rfl
  exact ⟨g, ns, _, fd, T, ok21 T TS F, fun s v us hl => match us, hl with | [u], _ => FunD.bindsX F (fun _ _ _ _ _ _ => rfl) s, fun s v us hl => match us, hl with | [u], _ => FunD.bindsX F (fun _ _ _ _ _ _ => rfl) s, fun s v us hl => match us, hl with | [u], _ => FunD.bindsX F (fun _ _ _ _ _ _ => rfl) s⟩
theorem em22 (c : SaysK K) (X : K.In h) (G : h.Ns mainGlobals mg) (TS : SayC K mg (He.ga K "SayError")) : ErrM P w K mg base (He.ga K "SayError") (nm 22) (He.ga K (nm 22)) (fl 22) := by
  obtain ⟨g, ns, T⟩ := err_of X G (says_err c 22 rfl)
  obtain ⟨fd, F⟩ := says_fn c 41 rfl
  exact ⟨g, ns, _, fd, T, ok22 T TS F, fun s v us hl => match us, hl with | [u], _ => FunD.bindsX F (fun _ _ _ _ _ _ => rfl) s, fun s v us hl => match us, hl with | [u], _ => FunD.bindsX F (fun _ _ _ _ _ _ => rfl) s, fun s v us hl => match us, hl with | [u], _ => FunD.bindsX F (fun _ _ _ _ _ _ => rfl) s⟩
theorem em23 (c : SaysK K) (X : K.In h) (G : h.Ns mainGlobals mg) (TS : SayC K mg (He.ga K "SayError")) : ErrM P w K mg base (He.ga K "SayError") (nm 23) (He.ga K (nm 23)) (fl 23) := by
  obtain ⟨g, ns, T⟩ := err_of X G (says_err c 23 rfl)
  obtain ⟨fd, F⟩ := says_fn c 42 rfl
  exact ⟨g, ns, _, fd, T, ok23 T TS F, fun s v us hl => match us, hl with | [u], _ => FunD.bindsX F (fun _ _ _ _ _ _ => rfl) s, fun s v us hl => match us, hl with | [u], _ => FunD.bindsX F (fun _ _ _ _ _ _ => rfl) s, fun s v us hl => match us, hl with | [u], _ => FunD.bindsX F (fun _ _ _ _ _ _ => rfl) s⟩
theorem em24 (c : SaysK K) (X : K.In h) (G : h.Ns mainGlobals mg) (TS : SayC K mg (He.ga K "SayError")) : ErrM P w K mg base (He.ga K "SayError") (nm 24) (He.ga K (nm 24)) (fl 24) := by
  obtain ⟨g, ns, T⟩ := err_of X G (says_err c 24 rfl)
  obtain ⟨fd, F⟩ := says_fn c 43 rfl
  exact ⟨g, ns, _, fd, T, ok24 T TS F, fun s v us hl => match us, hl with | [u], _ => FunD.bindsX F (fun _ _ _ _ _ _ => rfl) s, fun s v us hl => match us, hl with | [u], _ => FunD.bindsX F (fun _ _ _ _ _ _ => rfl) s, fun s v us hl => match us, hl with | [u], _ => FunD.bindsX F (fun _ _ _ _ _ _ => rfl) s⟩
theorem em25 (c : SaysK K) (X : K.In h) (G : h.Ns mainGlobals mg) (TS : SayC K mg (He.ga K "SayError")) : ErrM P w K mg base (He.ga K "SayError") (nm 25) (He.ga K (nm 25)) (fl 25) := by
  obtain ⟨g, ns, T⟩ := err_of X G (says_err c 25 rfl)
  obtain ⟨fd, F⟩ := says_fn c 44 rfl
  exact ⟨g, ns, _, fd, T, ok25 T TS F, fun s v us hl => match us, hl with | [u], _ => FunD.bindsX F (fun _ _ _ _ _ _ => rfl) s, fun s v us hl => match us, hl with | [u], _ => FunD.bindsX F (fun _ _ _ _ _ _ => rfl) s, fun s v us hl => match us, hl with | [u], _ => FunD.bindsX F (fun _ _ _ _ _ _ => rfl) s⟩
theorem em26 (c : SaysK K) (X : K.In h) (G : h.Ns mainGlobals mg) (TS : SayC K mg (He.ga K "SayError")) : ErrM P w K mg base (He.ga K "SayError") (nm 26) (He.ga K (nm 26)) (fl 26) := by
  obtain ⟨g, ns, T⟩ := err_of X G (says_err c 26 rfl)
  obtain ⟨fd, F⟩ := says_fn c 45 rfl
  exact ⟨g, ns, _, fd, T, ok26 T TS F, fun s v us hl => match us, hl with | [u], _ => FunD.bindsX F (fun _ _ _ _ _ _ => rfl) s, fun s v us hl => match us, hl with | [u], _ => FunD.bindsX F (fun _ _ _ _ _ _ => rfl) s, fun s v us hl => match us, hl with | [u], _ => FunD.bindsX F (fun _ _ _ _ _ _ => rfl) s⟩
theorem em27 (c : SaysK K) (X : K.In h) (G : h.Ns mainGlobals mg) (TS : SayC K mg (He.ga K "SayError")) : ErrM P w K mg base (He.ga K "SayError") (nm 27) (He.ga K (nm 27)) (fl 27) := by
  obtain ⟨g, ns, T⟩ := err_of X G (says_err c 27 rfl)
  obtain ⟨fd, F⟩ := says_fn c 46 rfl
  exact ⟨g, ns, _, fd, T, ok27 T TS F, fun s v us hl => match us, hl with | [u], _ => FunD.bindsX F (fun _ _ _ _ _ _ => rfl) s, fun s v us hl => match us, hl with | [u], _ => FunD.bindsX F (fun _ _ _ _ _ _ => rfl) s, fun s v us hl => match us, hl with | [u], _ => FunD.bindsX F (fun _ _ _ _ _ _ => rfl) s⟩
theorem em28 (c : SaysK K) (X : K.In h) (G : h.Ns mainGlobals mg) (TS : SayC K mg (He.ga K "SayError")) : ErrM P w K mg base (He.ga K "SayError") (nm 28) (He.ga K (nm 28)) (fl 28) := by
  obtain ⟨g, ns, T⟩ := err_of X G (says_err c 28 rfl)
  obtain ⟨fd, F⟩ := says_fn c 47 rfl
  exact ⟨g, ns, _, fd, T, ok28 T TS F, fun s v us hl => match us, hl with | [u], _ => FunD.bindsX F (fun _ _ _ _ _ _ => rfl) s, fun s v us hl => match us, hl with | [u], _ => FunD.bindsX F (fun _ _ _ _ _ _ => rfl) s, fun s v us hl => match us, hl with | [u], _ => FunD.bindsX F (fun _ _ _ _ _ _ => rfl) s⟩
theorem em29 (c : SaysK K) (X : K.In h) (G : h.Ns mainGlobals mg) (TS : SayC K mg (He.ga K "SayError")) : ErrM P w K mg base (He.ga K "SayError") (nm 29) (He.ga K (nm 29)) (fl 29) := by
  obtain ⟨g, ns, T⟩ := err_of X G (says_err c 29 rfl)
  obtain ⟨fd, F⟩ := says_fn c 48 rfl
  exact ⟨g, ns, _, fd, T, ok29 T TS F, fun s v us hl => match us, hl with | [u], _ => FunD.bindsX F (fun _ _ _ _ _ _ => rfl) s, fun s v us hl => match us, hl with | [u], _ => FunD.bindsX F (fun _ _ _ _ _ _ => rfl) s, fun s v us hl => match us, hl with | [u], _ => FunD.bindsX F (fun _ _ _ _ _ _ => rfl) s⟩
theorem em30 (c : SaysK K) (X : K.In h) (G : h.Ns mainGlobals mg) (TS : SayC K mg (He.ga K "SayError")) : ErrM P w K mg base (He.ga K "SayError") (nm 30) (He.ga K (nm 30)) (fl 30) := by
  obtain ⟨g, ns, T⟩ := err_of X G (says_err c 30 rfl)
  obtain ⟨fd, F⟩ := says_fn c 49 rfl
  exact ⟨g, ns, _, fd, T, ok30 T TS F, fun s v us hl => match us, hl with | [u], _ => FunD.bindsX F (fun _ _ _ _ _ _ => rfl) s, fun s v us hl => match us, hl with | [u], _ => FunD.bindsX F (fun _ _ _ _ _ _ => rfl) s, fun s v us hl => match us, hl with | [u], _ => FunD.bindsX F (fun _ _ _ _ _ _ => rfl) s⟩
theorem em31 (c : SaysK K) (X : K.In h) (G : h.Ns mainGlobals mg) (TS : SayC K mg (He.ga K "SayError")) : ErrM P w K mg base (He.ga K "SayError") (nm 31) (He.ga K (nm 31)) (fl 31) := by
  obtain ⟨g, ns, T⟩ := err_of X G (says_err c 31 rfl)
  obtain ⟨fd, F⟩ := says_fn c 50 rfl
  exact ⟨g, ns, _, fd, T, ok31 T TS F, fun s v us hl => match us, hl with | [u], _ => FunD.bindsX F (fun _ _ _ _ _ _ => rfl) s, fun s v us hl => match us, hl with | [u], _ => FunD.bindsX F (fun _ _ _ _ _ _ => rfl) s, fun s v us hl => match us, hl with | [u], _ => FunD.bindsX F (fun _ _ _ _ _ _ => rfl) s⟩
theorem em32 (c : SaysK K) (X : K.In h) (G : h.Ns mainGlobals mg) (TS : SayC K mg (He.ga K "SayError")) : ErrM P w K mg base (He.ga K "SayError") (nm 32) (He.ga K (nm 32)) (fl 32) := by
  obtain ⟨g, ns, T⟩ := err_of X G (says_err c 32 rfl)
  obtain ⟨fd, F⟩ := says_fn c 51 rfl
  exact ⟨g, ns, _, fd, T, ok32 T TS F, fun s v us hl => match us, hl with | [u], _ => FunD.bindsX F (fun _ _ _ _ _ _ => rfl) s, fun s v us hl => match us, hl with | [u], _ => FunD.bindsX F (fun _ _ _ _ _ _ => rfl) s, fun s v us hl => match us, hl with | [u], _ => FunD.bindsX F (fun _ _ _ _ _ _ => rfl) s⟩
theorem em33 (c : SaysK K) (X : K.In h) (G : h.Ns mainGlobals mg) (TS : SayC K mg (He.ga K "SayError")) : ErrM P w K mg base (He.ga K "SayError") (nm 33) (He.ga K (nm 33)) (fl 33) := by
  obtain ⟨g, ns, T⟩ := err_of X G (says_err c 33 rfl)
  obtain ⟨fd, F⟩ := says_fn c 52 rfl
  exact ⟨g, ns, _, fd, T, ok33 T TS F, fun s v us hl => match us, hl with | [u], _ => FunD.bindsX F (fun _ _ _ _ _ _ => rfl) s, fun s v us hl => match us, hl with | [u], _ => FunD.bindsX F (fun _ _ _ _ _ _ => rfl) s, fun s v us hl => match us, hl with | [u], _ => FunD.bindsX F (fun _ _ _ _ _ _ => rfl) s⟩
theorem em34 (c : SaysK K) (X : K.In h) (G : h.Ns mainGlobals mg) (TS : SayC K mg (He.ga K "SayError")) : ErrM P w K mg base (He.ga K "SayError") (nm 34) (He.ga K (nm 34)) (fl 34) := by
  obtain ⟨g, ns, T⟩ := err_of X G (says_err c 34 rfl)
  obtain ⟨fd, F⟩ := says_fn c 53 rfl
  exact ⟨g, ns, _, fd, T, ok34 T TS F, fun s v us hl => match us, hl with | [u], _ => FunD.bindsX F (fun _ _ _ _ _ _ => rfl) s, fun s v us hl => match us, hl with | [u], _ => FunD.bindsX F (fun _ _ _ _ _ _ => rfl) s, fun s v us hl => match us, hl with | [u], _ => FunD.bindsX F (fun _ _ _ _ _ _ => rfl) s⟩
theorem em35 (c : SaysK K) (X : K.In h) (G : h.Ns mainGlobals mg) (TS : SayC K mg (He.ga K "SayError")) : ErrM P w K mg base (He.ga K "SayError") (nm 35) (He.ga K (nm 35)) (fl 35) := by
  obtain ⟨g, ns, T⟩ := err_of X G (says_err c 35 rfl)
  obtain ⟨fd, F⟩ := says_fn c 54 rfl
  exact ⟨g, ns, _, fd, T, ok35 T TS F, fun s v us hl => match us, hl with | [u], _ => FunD.bindsX F (fun _ _ _ _ _ _ => rfl) s, fun s v us hl => match us, hl with | [u], _ => FunD.bindsX F (fun _ _ _ _ _ _ => rfl) s, fun s v us hl => match us, hl with | [u], _ => FunD.bindsX F (fun _ _ _ _ _ _ => rfl) s⟩
theorem em36 (c : SaysK K) (X : K.In h) (G : h.Ns mainGlobals mg) (TS : SayC K mg (He.ga K "SayError")) : ErrM P w K mg base (He.ga K "SayError") (nm 36) (He.ga K (nm 36)) (fl 36) := by
  obtain ⟨g, ns, T⟩ := err_of X G (says_err c 36 rfl)
  obtain ⟨fd, F⟩ := says_fn c 55 rfl
  exact ⟨g, ns, _, fd, T, ok36 T TS F, fun s v us hl => match us, hl with | [], _ => FunD.bindsX F (fun _ _ _ _ _ _ => rfl) s, fun s v us hl => match us, hl with | [], _ => FunD.bindsX F (fun _ _ _ _ _ _ => rfl) s, fun s v us hl => match us, hl with | [], _ => FunD.bindsX F (fun _ _ _ _ _ _ => rfl) s⟩
theorem em37 (c : SaysK K) (X : K.In h) (G : h.Ns mainGlobals mg) (TS : SayC K mg (He.ga K "SayError")) : ErrM P w K mg base (He.ga K "SayError") (nm 37) (He.ga K (nm 37)) (fl 37) := by
  obtain ⟨g, ns, T⟩ := err_of X G (says_err c 37 rfl)
  obtain ⟨fd, F⟩ := says_fn c 56 rfl
  exact ⟨g, ns, _, fd, T, ok37 T TS F, fun s v us hl => match us, hl with | [u], _ => FunD.bindsX F (fun _ _ _ _ _ _ => rfl) s, fun s v us hl => match us, hl with | [u], _ => FunD.bindsX F (fun _ _ _ _ _ _ => rfl) s, fun s v us hl => match us, hl with | [u], _ => FunD.bindsX F (fun _ _ _ _ _ _ => rfl) s⟩
theorem em38 (c : SaysK K) (X : K.In h) (G : h.Ns mainGlobals mg) (TS : SayC K mg (He.ga K "SayError")) : ErrM P w K mg base (He.ga K "SayError") (nm 38) (He.ga K (nm 38)) (fl 38) := by
  obtain ⟨g, ns, T⟩ := err_of X G (says_err c 38 rfl)
  obtain ⟨fd, F⟩ := says_fn c 57 rfl
  exact ⟨g, ns, _, fd, T, ok38 T TS F, fun s v us hl => match us, hl with | [u], _ => FunD.bindsX F (fun _ _ _ _ _ _ => rfl) s, fun s v us hl => match us, hl with | [u], _ => FunD.bindsX F (fun _ _ _ _ _ _ => rfl) s, fun s v us hl => match us, hl with | [u], _ => FunD.bindsX F (fun _ _ _ _ _ _ => rfl) s⟩
theorem em39 (c : SaysK K) (X : K.In h) (G : h.Ns mainGlobals mg) (TS : SayC K mg (He.ga K "SayError")) : ErrM P w K mg base (He.ga K "SayError") (nm 39) (He.ga K (nm 39)) (fl 39) := by
  obtain ⟨g, ns, T⟩ := err_of X G (says_err c 39 rfl)
  obtain ⟨fd, F⟩ := says_fn c 58 rfl
  exact ⟨g, ns, _, fd, T, ok39 T TS F, fun s v us hl => match us, hl with | [u], _ => FunD.bindsX F (fun _ _ _ _ _ _ => rfl) s, fun s v us hl => match us, hl with | [u], _ => FunD.bindsX F (fun _ _ _ _ _ _ => rfl) s, fun s v us hl => match us, hl with | [u], _ => FunD.bindsX F (fun _ _ _ _ _ _ => rfl) s⟩
theorem em40 (c : SaysK K) (X : K.In h) (G : h.Ns mainGlobals mg) (TS : SayC K mg (He.ga K "SayError")) : ErrM P w K mg base (He.ga K "SayError") (nm 40) (He.ga K (nm 40)) (fl 40) := by
  obtain ⟨g, ns, T⟩ := err_of X G (says_err c 40 rfl)
  obtain ⟨fd, F⟩ := says_fn c 59 rfl
  exact ⟨g, ns, _, fd, T, ok40 T TS F, fun s v us hl => match us, hl with | [u, v2], _ => FunD.bindsX F (fun _ _ _ _ _ _ => rfl) s, fun s v us hl => match us, hl with | [u, v2], _ => FunD.bindsX F (fun _ _ _ _ _ _ => rfl) s, fun s v us hl => match us, hl with | [u, v2], _ => FunD.bindsX F (fun _ _ _ _ _ _ => rfl) s⟩
theorem em41 (c : SaysK K) (X : K.In h) (G : h.Ns mainGlobals mg) (TS : SayC K mg (He.ga K "SayError")) : ErrM P w K mg base (He.ga K "SayError") (nm 41) (He.ga K (nm 41)) (fl 41) := by
  obtain ⟨g, ns, T⟩ := err_of X G (says_err c 41 rfl)
  obtain ⟨fd, F⟩ := says_fn c 60 rfl
  exact ⟨g, ns, _, fd, T, ok41 T TS F, fun s v us hl => match us, hl with | [u], _ => FunD.bindsX F (fun _ _ _ _ _ _ => rfl) s, fun s v us hl => match us, hl with | [u], _ => FunD.bindsX F (fun _ _ _ _ _ _ => rfl) s, fun s v us hl => match us, hl with | [u], _ => FunD.bindsX F (fun _ _ _ _ _ _ => rfl) s⟩
theorem em42 (c : SaysK K) (X : K.In h) (G : h.Ns mainGlobals mg) (TS : SayC K mg (He.ga K "SayError")) : ErrM P w K mg base (He.ga K "SayError") (nm 42) (He.ga K (nm 42)) (fl 42) := by
  obtain ⟨g, ns, T⟩ := err_of X G (says_err c 42 rfl)
  obtain ⟨fd, F⟩ := says_fn c 61 rfl
  exact ⟨g, ns, _, fd, T, ok42 T TS F, fun s v us hl => match us, hl with | [u], _ => FunD.bindsX F (fun _ _ _ _ _ _ => rfl) s, fun s v us hl => match us, hl with | [u], _ => FunD.bindsX F (fun _ _ _ _ _ _ => rfl) s, fun s v us hl => match us, hl with | [u], _ => FunD.bindsX F (fun _ _ _ _ _ _ => rfl) s⟩
theorem em43 (c : SaysK K) (X : K.In h) (G : h.Ns mainGlobals mg) (TS : SayC K mg (He.ga K "SayError")) : ErrM P w K mg base (He.ga K "SayError") (nm 43) (He.ga K (nm 43)) (fl 43) := by
  obtain ⟨g, ns, T⟩ := err_of X G (says_err c 43 rfl)
  obtain ⟨fd, F⟩ := says_fn c 62 rfl
  exact ⟨g, ns, _, fd, T, ok43 T TS F, fun s v us hl => match us, hl with | [u], _ => FunD.bindsX F (fun _ _ _ _ _ _ => rfl) s, fun s v us hl => match us, hl with | [u], _ => FunD.bindsX F (fun _ _ _ _ _ _ => rfl) s, fun s v us hl => match us, hl with | [u], _ => FunD.bindsX F (fun _ _ _ _ _ _ => rfl) s⟩
theorem em44 (c : SaysK K) (X : K.In h) (G : h.Ns mainGlobals mg) (TS : SayC K mg (He.ga K "SayError")) : ErrM P w K mg base (He.ga K "SayError") (nm 44) (He.ga K (nm 44)) (fl 44) := by
  obtain ⟨g, ns, T⟩ := err_of X G (says_err c 44 rfl)
  obtain ⟨fd, F⟩ := says_fn c 63 rfl
  exact ⟨g, ns, _, fd, T, ok44 T TS F, fun s v us hl => match us, hl with | [u], _ => FunD.bindsX F (fun _ _ _ _ _ _ => rfl) s, fun s v us hl => match us, hl with | [u], _ => FunD.bindsX F (fun _ _ _ _ _ _ => rfl) s, fun s v us hl => match us, hl with | [u], _ => FunD.bindsX F (fun _ _ _ _ _ _ => rfl) s⟩
theorem em45 (c : SaysK K) (X : K.In h) (G : h.Ns mainGlobals mg) (TS : SayC K mg (He.ga K "SayError")) : ErrM P w K mg base (He.ga K "SayError") (nm 45) (He.ga K (nm 45)) (fl 45) := by
  obtain ⟨g, ns, T⟩ := err_of X G (says_err c 45 rfl)
  obtain ⟨fd, F⟩ := says_fn c 64 rfl
  exact ⟨g, ns, _, fd, T, ok45 T TS F, fun s v us hl => match us, hl with | [], _ => FunD.bindsX F (fun _ _ _ _ _ _ => rfl) s, fun s v us hl => match us, hl with | [], _ => FunD.bindsX F (fun _ _ _ _ _ _ => rfl) s, fun s v us hl => match us, hl with | [], _ => FunD.bindsX F (fun _ _ _ _ _ _ => rfl) s⟩
theorem em46 (c : SaysK K) (X : K.In h) (G : h.Ns mainGlobals mg) (TS : SayC K mg (He.ga K "SayError")) : ErrM P w K mg base (He.ga K "SayError") (nm 46) (He.ga K (nm 46)) (fl 46) := by
  obtain ⟨g, ns, T⟩ := err_of X G (says_err c 46 rfl)
  obtain ⟨fd, F⟩ := says_fn c 65 rfl
  exact ⟨g, ns, _, fd, T, ok46 T TS F, fun s v us hl => match us, hl with | [], _ => FunD.bindsX F (fun _ _ _ _ _ _ => rfl) s, fun s v us hl => match us, hl with | [], _ => FunD.bindsX F (fun _ _ _ _ _ _ => rfl) s, fun s v us hl => match us, hl with | [], _ => FunD.bindsX F (fun _ _ _ _ _ _ => rfl) s⟩
theorem em47 (c : SaysK K) (X : K.In h) (G : h.Ns mainGlobals mg) (TS : SayC K mg (He.ga K "SayError")) : ErrM P w K mg base (He.ga K "SayError") (nm 47) (He.ga K (nm 47)) (fl 47) := by
  obtain ⟨g, ns, T⟩ := err_of X G (says_err c 47 rfl)
  obtain ⟨fd, F⟩ := says_fn c 66 rfl
  exact ⟨g, ns, _, fd, T, ok47 T TS F, fun s v us hl => match us, hl with | [], _ => FunD.bindsX F (fun _ _ _ _ _ _ => rfl) s, fun s v us hl => match us, hl with | [], _ => FunD.bindsX F (fun _ _ _ _ _ _ => rfl) s, fun s v us hl => match us, hl with | [], _ => FunD.bindsX F (fun _ _ _ _ _ _ => rfl) s⟩
theorem em48 (c : SaysK K) (X : K.In h) (G : h.Ns mainGlobals mg) (TS : SayC K mg (He.ga K "SayError")) : ErrM P w K mg base (He.ga K "SayError") (nm 48) (He.ga K (nm 48)) (fl 48) := by
  obtain ⟨g, ns, T⟩ := err_of X G (says_err c 48 rfl)
  obtain ⟨fd, F⟩ := says_fn c 67 rfl
  exact ⟨g, ns, _, fd, T, ok48 T TS F, fun s v us hl => match us, hl with | [u], _ => FunD.bindsX F (fun _ _ _ _ _ _ => rfl) s, fun s v us hl => match us, hl with | [u], _ => FunD.bindsX F (fun _ _ _ _ _ _ => rfl) s, fun s v us hl => match us, hl with | [u], _ => FunD.bindsX F (fun _ _ _ _ _ _ => rfl) s⟩
theorem em49 (c : SaysK K) (X : K.In h) (G : h.Ns mainGlobals mg) (TS : SayC K mg (He.ga K "SayError")) : ErrM P w K mg base (He.ga K "SayError") (nm 49) (He.ga K (nm 49)) (fl 49) := by
  obtain ⟨g, ns, T⟩ := err_of X G (says_err c 49 rfl)
  obtain ⟨fd, F⟩ := says_fn c 68 rfl
  exact ⟨g, ns, _, fd, T, ok49 T TS F, fun s v us hl => match us, hl with | [u], _ => FunD.bindsX F (fun _ _ _ _ _ _ => rfl) s, fun s v us hl => match us, hl with | [u], _ => FunD.bindsX F (fun _ _ _ _ _ _ => rfl) s, fun s v us hl => match us, hl with | [u], _ => FunD.bindsX F (fun _ _ _ _ _ _ => rfl) s⟩
theorem em50 (c : SaysK K) (X : K.In h) (G : h.Ns mainGlobals mg) (TS : SayC K mg (He.ga K "SayError")) : ErrM P w K mg base (He.ga K "SayError") (nm 50) (He.ga K (nm 50)) (fl 50) := by
  obtain ⟨g, ns, T⟩ := err_of X G (says_err c 50 rfl)
  obtain ⟨fd, F⟩ := says_fn c 69 rfl
  exact ⟨g, ns, _, fd, T, ok50 T TS F, fun s v us hl => match us, hl with | [], _ => FunD.bindsX F (fun _ _ _ _ _ _ => rfl) s, fun s v us hl => match us, hl with | [], _ => FunD.bindsX F (fun _ _ _ _ _ _ => rfl) s, fun s v us hl => match us, hl with | [], _ => FunD.bindsX F (fun _ _ _ _ _ _ => rfl) s⟩
theorem errM (c : SaysK K) (X : K.In h) (G : h.Ns mainGlobals mg) (TS : SayC K mg (He.ga K "SayError")) : ∀ k, k < 51 → ErrM P w K mg base (He.ga K "SayError") (nm k) (He.ga K (nm k)) (fl k)
  | 0, _ => em0 c X G TS
  | 1, _ => em1 c X G TS
  | 2, _ => em2 c X G TS
  | 3, _ => em3 c X G TS
  | 4, _ => em4 c X G TS
  | 5, _ => em5 c X G TS
  | 6, _ => em6 c X G TS
  | 7, _ => em7 c X G TS
  | 8, _ => em8 c X G TS
  | 9, _ => em9 c X G TS
  | 10, _ => em10 c X G TS
  | 11, _ => em11 c X G TS
  | 12, _ => em12 c X G TS
  | 13, _ => em13 c X G TS
  | 14, _ => em14 c X G TS
  | 15, _ => em15 c X G TS
  | 16, _ => em16 c X G TS
  | 17, _ => em17 c X G TS
  | 18, _ => em18 c X G TS
  | 19, _ => em19 c X G TS
  | 20, _ => em20 c X G TS
  | 21, _ => em21 c X G TS
  | 22, _ => em22 c X G TS
  | 23, _ => em23 c X G TS
  | 24, _ => em24 c X G TS
  | 25, _ => em25 c X G TS
  | 26, _ => em26 c X G TS
  | 27, _ => em27 c X G TS
  | 28, _ => em28 c X G TS
  | 29, _ => em29 c X G TS
  | 30, _ => em30 c X G TS
  | 31, _ => em31 c X G TS
  | 32, _ => em32 c X G TS
  | 33, _ => em33 c X G TS
  | 34, _ => em34 c X G TS
  | 35, _ => em35 c X G TS
  | 36, _ => em36 c X G TS
  | 37, _ => em37 c X G TS
  | 38, _ => em38 c X G TS
  | 39, _ => em39 c X G TS
  | 40, _ => em40 c X G TS
  | 41, _ => em41 c X G TS
  | 42, _ => em42 c X G TS
  | 43, _ => em43 c X G TS
  | 44, _ => em44 c X G TS
  | 45, _ => em45 c X G TS
  | 46, _ => em46 c X G TS
  | 47, _ => em47 c X G TS
  | 48, _ => em48 c X G TS
  | 49, _ => em49 c X G TS
  | 50, _ => em50 c X G TS
  | n + 51, l => by omega
end
end K99

/-! ## G2 -/
set_option Elab.async false
set_option linter.all false
set_option maxRecDepth 100000
set_option maxHeartbeats 4000000
namespace K99
open PySem PySem.Spec PySem.W PyProof.Rows L2
theorem ascB_pw : ∀ {l : List Addr}, ascB l = true → l.Pairwise (· < ·)
  | [], _ => .nil
  | [a], _ => .cons (fun _ h => nomatch h) .nil
  | a :: b :: r, h => by
    obtain ⟨h1, h2⟩ := two (show (decide (a < b) && ascB (b :: r)) = true from h)
    have ih := ascB_pw h2
    refine .cons (fun x hx => ?_) ih
    have hab : a < b := of_decide_eq_true h1
    rcases List.mem_cons.mp hx with rfl | hx
    · exact hab
    · exact Nat.lt_trans hab (List.rel_of_pairwise_cons ih hx)
section
variable {P : Program} {w : World} {K : Frag} {h : Heap} {mg : Str → Option Value} {base : Heap}
theorem len51 : clsL.length = 51 := by rfl
theorem adr {k : Nat} (hk : k < 51) : (clsL.map fun p => He.ga K p.1)[k]? = some (He.ga K (nm k)) := by
  have hl : k < clsL.length := by rw [len51]; exact hk
  rw [List.getElem?_map, List.getElem?_eq_getElem hl]
  show some _ = some _
  unfold nm
  rw [List.getD_eq_getElem?_getD, List.getElem?_eq_getElem hl]
  rfl
theorem inj_of (c : SaysK K) (i j : Nat) (hi : i < 51) (hj : j < 51) (e : He.ga K (nm i) = He.ga K (nm j)) : i = j := by
  have pw := ascB_pw (two (two (two (says_all c)).2).2).1
  have lt : ∀ a b : Nat, a < 51 → b < 51 → a < b → He.ga K (nm a) < He.ga K (nm b) := fun a b ha hb hab => by
    have la : a < (clsL.map fun p => He.ga K p.1).length := by rw [List.length_map, len51]; exact ha
    have lb : b < (clsL.map fun p => He.ga K p.1).length := by rw [List.length_map, len51]; exact hb
    have q := List.pairwise_iff_getElem.mp pw a b la lb hab
    have ea := adr (K := K) ha
    have eb := adr (K := K) hb
    rw [List.getElem?_eq_getElem la] at ea
    rw [List.getElem?_eq_getElem lb] at eb
    rw [Option.some.inj ea, Option.some.inj eb] at q
    exact q
  rcases Nat.lt_trichotomy i j with l | l | l
  · have q := lt i j hi hj l
    rw [e] at q
    exact (Nat.lt_irrefl _ q).elim
  · exact l
  · have q := lt j i hj hi l
    rw [e] at q
    exact (Nat.lt_irrefl _ q).elim
theorem free_of (c : SaysK K) (X : K.In h) (G : h.Ns mainGlobals mg) (i : Nat) {x : Str} (hx : freeL[i]? = some x) : mg x = none :=
  He.free_ok X G (List.all_eq_true.mp (two (two (two (two (says_all c)).2).2).2).1 x (List.mem_of_getElem? hx))
theorem blt_of (c : SaysK K) (X : K.In h) (G : h.Ns mainGlobals mg) : Blt mg where
  abs := free_of c X G 0 rfl
  int := free_of c X G 1 rfl
  sum := free_of c X G 2 rfl
  len := free_of c X G 3 rfl
  isi := free_of c X G 4 rfl
  bool := free_of c X G 5 rfl
  str := free_of c X G 6 rfl
  list := free_of c X G 7 rfl
  tuple := free_of c X G 8 rfl
  range := free_of c X G 9 rfl
  max := free_of c X G 10 rfl
  min := free_of c X G 11 rfl
  zip := free_of c X G 12 rfl
  ve := free_of c X G 13 rfl
theorem fnp (c : SaysK K) (X : K.In h) (G : h.Ns mainGlobals mg) (i : Nat) {x : Str} {t : Nat} (g : gloL[i]? = some x) (hd : fnL[i]? = some ⟨(x, none), x, x, defArgs (top t), defBody (top t), defScope (top t), [], []⟩) :
    mg x = some (.ref (He.ga K x)) ∧ ∃ fd, FnP K x t (He.ga K x) fd :=
  ⟨He.glo_ok X G (List.all_eq_true.mp (two (two (two (two (says_all c)).2).2).2).2 x (List.mem_of_getElem? g)), says_fn c i hd⟩
theorem fn1 {CX : CXT} {x p1 : Str} {t k : Nat} {f : Addr} {fd : FuncData} (F : FnP K x t f fd) (h : ∀ (kV doc pm : Value) (an : Option Addr) (cdv ct u : Value), bindArgs (fnOf x x (defArgs (top t)) (defBody (top t)) (defScope (top t)) .none kV doc pm an cdv ct) ⟨[u], []⟩ = pure [(p1, u)]) : Binds K fd [p1] [] :=
  F.bindsN fun kV doc pm an cdv ct us hl => match us, hl with | [u], _ => h kV doc pm an cdv ct u
theorem facts {fa : Addr} (c : SaysK K) (X : K.In h) (G : h.Ns mainGlobals mg) (hfa : mg ("law" : Str) = some (.ref fa)) :
    ∃ fd : FuncData, (∀ (s : Shared) (v : Value), BindsTo s fd ⟨[v], []⟩ [("script", v)]) ∧ ∀ base : Heap, K.In base → base.Ns mainGlobals mg → FnOk P w K mg base CX0 8 fa fd ["script"] (spLaw K) := by
  obtain ⟨gL, fdL, FL⟩ := fnp c X G 18 rfl rfl
  have e := hfa.symm.trans gL
  cases e
  refine ⟨fdL, fun s v => FunD.bindsA (ps := ["script"]) FL (fun _ _ _ _ _ _ us hl => match us, hl with | [_], _ => rfl) s [v] rfl, fun base _ _ => ?_⟩
  have B := blt_of c X G
  obtain ⟨TS, eS⟩ := say_of X G (two (says_all c)).1
  have R : Errs P w K mg base (He.ga K "SayError") (fun k => He.ga K (nm k)) := ⟨errM c X G TS, inj_of c⟩
  obtain ⟨g0, fd0, F0⟩ := fnp c X G 0 rfl rfl
  obtain ⟨g1, fd1, F1⟩ := fnp c X G 1 rfl rfl
  obtain ⟨g2, fd2, F2⟩ := fnp c X G 2 rfl rfl
  obtain ⟨g3, fd3, F3⟩ := fnp c X G 3 rfl rfl
  obtain ⟨g4, fd4, F4⟩ := fnp c X G 4 rfl rfl
  obtain ⟨g5, fd5, F5⟩ := fnp c X G 5 rfl rfl
  obtain ⟨g6, fd6, F6⟩ := fnp c X G 6 rfl rfl
  obtain ⟨g7, fd7, F7⟩ := fnp c X G 7 rfl rfl
  obtain ⟨g8, fd8, F8⟩ := fnp c X G 8 rfl rfl
  obtain ⟨g9, fd9, F9⟩ := fnp c X G 9 rfl rfl
  obtain ⟨g10, fd10, F10⟩ := fnp c X G 10 rfl rfl
  obtain ⟨g11, fd11, F11⟩ := fnp c X G 11 rfl rfl
  obtain ⟨g12, fd12, F12⟩ := fnp c X G 12 rfl rfl
  obtain ⟨g13, fd13, F13⟩ := fnp c X G 13 rfl rfl
  obtain ⟨g14, fd14, F14⟩ := fnp c X G 14 rfl rfl
  obtain ⟨g15, fd15, F15⟩ := fnp c X G 15 rfl rfl
  obtain ⟨g16, fd16, F16⟩ := fnp c X G 16 rfl rfl
  obtain ⟨g17, fd17, F17⟩ := fnp c X G 17 rfl rfl
  have Cell : Fn P w K mg base "_law_cell" 1 ["script", "k"] (spCell K) := ⟨_, _, okCell B F0, g0, F0.kp, F0.bindsN fun _ _ _ _ _ _ us hl => match us, hl with | [_, _], _ => rfl⟩
  have Box : Fn P w K mg base "_law_box" 1 ["great"] spBox := ⟨_, _, okBox B F1, g1, F1.kp, F1.bindsN fun _ _ _ _ _ _ us hl => match us, hl with | [_], _ => rfl⟩
  have Take : Fn P w K mg base "_law_take" 1 ["box", "many"] spTake := ⟨_, _, okTake B F2, g2, F2.kp, F2.bindsN fun _ _ _ _ _ _ us hl => match us, hl with | [_, _], _ => rfl⟩
  have b3 : Binds K fd3 ["told", "due"] [] := F3.bindsN fun _ _ _ _ _ _ us hl => match us, hl with | [_, _], _ => rfl
  have S0 : Fn P w K mg base "_law_same" 0 ["told", "due"] (spSm 0) := ⟨_, _, ⟨fun _ _ _ _ z => z.elim, fun _ _ _ _ _ _ _ _ _ _ _ _ _ z => z.elim⟩, g3, F3.kp, b3⟩
  have S1 : Fn P w K mg base "_law_same" 1 ["told", "due"] (spSm 1) := ⟨_, _, okSame B 0 S0 F3, g3, F3.kp, b3⟩
  have S2 : Fn P w K mg base "_law_same" 2 ["told", "due"] (spSm 2) := ⟨_, _, okSame B 1 S1 F3, g3, F3.kp, b3⟩
  have S3 : Fn P w K mg base "_law_same" 3 ["told", "due"] (spSm 3) := ⟨_, _, okSame B 2 S2 F3, g3, F3.kp, b3⟩
  have S4 : Fn P w K mg base "_law_same" 4 ["told", "due"] (spSm 4) := ⟨_, _, okSame B 3 S3 F3, g3, F3.kp, b3⟩
  have Blamed : Fn P w K mg base "_law_blamed" 4 ["given", "value"] spBlamed := ⟨_, _, okBlamed B S3 F4, g4, F4.kp, F4.bindsN fun _ _ _ _ _ _ us hl => match us, hl with | [_, _], _ => rfl⟩
  have Val : Fn P w K mg base "_law_value" 2 ["box"] spValue := ⟨_, _, okValue Take F5, g5, F5.kp, F5.bindsN fun _ _ _ _ _ _ us hl => match us, hl with | [_], _ => rfl⟩
  have M3 : Fn P w K mg base "_law_made_3" 3 ["k", "one", "other", "by_name"] (spMade (fun k => He.ga K (nm k)) 42) := ⟨_, _, okMade3 R F9, g9, F9.kp, F9.bindsN fun _ _ _ _ _ _ us hl => match us, hl with | [_, _, _, _], _ => rfl⟩
  have M2 : Fn P w K mg base "_law_made_2" 4 ["k", "one", "other", "by_name"] (spMade (fun k => He.ga K (nm k)) 28) := ⟨_, _, okMade2 R M3 F8, g8, F8.kp, F8.bindsN fun _ _ _ _ _ _ us hl => match us, hl with | [_, _, _, _], _ => rfl⟩
  have M1 : Fn P w K mg base "_law_made_1" 5 ["k", "one", "other", "by_name"] (spMade (fun k => He.ga K (nm k)) 14) := ⟨_, _, okMade1 R M2 F7, g7, F7.kp, F7.bindsN fun _ _ _ _ _ _ us hl => match us, hl with | [_, _, _, _], _ => rfl⟩
  have M0 : Fn P w K mg base "_law_made_0" 6 ["k", "one", "other", "by_name"] (spMade (fun k => He.ga K (nm k)) 0) := ⟨_, _, okMade0 R M1 F6, g6, F6.kp, F6.bindsN fun _ _ _ _ _ _ us hl => match us, hl with | [_, _, _, _], _ => rfl⟩
  have I2 : Fn P w K mg base "_law_is_2" 1 ["k", "error"] (spIs (fun k => He.ga K (nm k)) 50) := ⟨_, _, okIs2 B R F12, g12, F12.kp, F12.bindsN fun _ _ _ _ _ _ us hl => match us, hl with | [_, _], _ => rfl⟩
  have I1 : Fn P w K mg base "_law_is_1" 2 ["k", "error"] (spIs (fun k => He.ga K (nm k)) 25) := ⟨_, _, okIs1 B R I2 F11, g11, F11.kp, F11.bindsN fun _ _ _ _ _ _ us hl => match us, hl with | [_, _], _ => rfl⟩
  have I0 : Fn P w K mg base "_law_is_0" 3 ["k", "error"] (spIs (fun k => He.ga K (nm k)) 0) := ⟨_, _, okIs0 B R I1 F10, g10, F10.kp, F10.bindsN fun _ _ _ _ _ _ us hl => match us, hl with | [_, _], _ => rfl⟩
  have Flds : Fn P w K mg base "_law_fields" 1 ["k", "error"] (spFields (fun k => He.ga K (nm k))) := ⟨_, _, okFields R F13, g13, F13.kp, F13.bindsN fun _ _ _ _ _ _ us hl => match us, hl with | [_, _], _ => rfl⟩
  have Rsd : FnX P w K mg base "_law_raised" 3 ["k", "one", "other"] (spRaised (fun k => He.ga K (nm k))) := ⟨_, _, okRaised R F14, g14, F14.kp, F14.bindsN fun _ _ _ _ _ _ us hl => match us, hl with | [_, _, _], _ => rfl⟩
  have Cgt : Fn P w K mg base "_law_caught_right" 4 ["box"] spCaught := ⟨_, _, okCaught B R TS eS Take Val Rsd I0 F15, g15, F15.kp, F15.bindsN fun _ _ _ _ _ _ us hl => match us, hl with | [_], _ => rfl⟩
  have Deep : Fn P w K mg base "_law_deep" 1 ["value"] spDeep := ⟨_, _, okDeep B F16, g16, F16.kp, F16.bindsN fun _ _ _ _ _ _ us hl => match us, hl with | [_], _ => rfl⟩
  have Rgt : Fn P w K mg base "_law_class_right" 7 ["box", "k"] spRight := ⟨_, _, okRight B R TS Take Val Deep M0 I0 Flds S4 Blamed F17, g17, F17.kp, F17.bindsN fun _ _ _ _ _ _ us hl => match us, hl with | [_, _], _ => rfl⟩
  exact okLaw B Cell Box Take Rgt Cgt FL
end
end K99

/-! ## G3 -/
set_option Elab.async false
set_option linter.all false
set_option maxRecDepth 100000
set_option maxHeartbeats 0
open PySem PySem.W PySem.Calls PyProof.Rows
theorem PySem.Challenge.cw_wiresay_k99_errors_holds : PySem.Challenge.rw_wiresay_k99_errors.Holds := by
  w_on; o_law
  refine HandSHeadRun.head_any (r := OpenLaw.row PySem.Challenge.rw_wiresay_k99_errors) (q := view (OpenLaw.row PySem.Challenge.rw_wiresay_k99_errors).prog [73]) (H := K99.hk) (ob := K99.ob) (M := 14000) (loose := K99.names) (d := HandSHeadRun.topDef (OpenLaw.row PySem.Challenge.rw_wiresay_k99_errors).prog 73) (kwd := []) K99.ob_eq
    (by kernel_rfl) (fun s => by kernel_rfl) K99.runAll (by kernel_rfl) (by kernel_rfl) (by kernel_rfl) (by rfl) (by first | assumption | decide +kernel) (by decide +kernel) ⟨rfl, rfl, rfl, rfl, rfl, by decide +kernel⟩ ?hw ?hc
  case hw => w_witness2
  case hc =>
    refine L2.walk_ofE (l := PySem.Challenge.rw_wiresay_k99_errors) (n := 63) (k := 8) (x := "script") (CX := L2.CX0) rfl (by decide) (by kernel_rfl) ⟨rfl, by decide, by decide⟩ ?F (fun _ _ _ _ z => z)
    intro w mg fa h Y G hmg0
    obtain ⟨K, KX, c⟩ := Y
    have hmg : mg ("law" : PySem.Str) = some (.ref fa) := by
      have e : (HandSHeadRun.topDef (OpenLaw.row PySem.Challenge.rw_wiresay_k99_errors).prog 73).name = ("law" : PySem.Str) := by kernel_rfl
      rw [← e]
      exact hmg0
    obtain ⟨fd, hb, hF⟩ := K99.facts (P := (PySem.Challenge.rw_wiresay_k99_errors).prog) (w := w) c KX G hmg
    exact ⟨K, fd, K99.spLaw K, KX, hb, fun H a ns hl _ hS => ⟨a, ns, rfl, hS, fun _ => rfl⟩, hF⟩
#print axioms PySem.Challenge.cw_wiresay_k99_errors_holds
