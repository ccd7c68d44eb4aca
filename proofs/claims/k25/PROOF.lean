import PyProof.Rows.All
import HandS.ExcInit
import HandS.ExcField
import KE.KExcInit
import Wide.All
import OpenK.AllK
import Wide.FinOn
import KE.KStateDown
import HandS.ForMost
import HandS.Exc
import HandS.ExcOwn
import HandS.TryOnly
import HandS.TryMany
import HandS.WordsExc
import HandS.Flow
import HandS.Walk
import HandS.Steps
import HandS.Evl
import HandS.Zip
import HandS.IsInst
import HandS.Wide
import HandS.TupAny
import HandS.RaiseMore
import HandS.Defaults
import HandS.More
import HandS.Head0
import HandS.Head1
import HandS.Head2
import HandS.HeadEnd
import HandS.HeadHook1
import HandS.HeadHook2
import HandS.HeadHook4
import HandS.Set
import HandS.Strs
import HandS.SetBool
import HandS.TupSets
import HandS.SetTxt0
import HandS.SetFor
import HandS.SetTxtIn
import PyProof.EnumMake
import KE.SortData
import HandS.MakeKwOnly
import HandS.Replace
import HandS.Dict
import HandS.Deep
import HandS.CallSlots
import HandS.Style
import KE.GoesEnum
import KE.GoesMore
import HandS.Conv
import HandS.Lambda
import HandS.EndTab
import HandS.HeadWalk
import HandS.NestedK
import HandS.DictComp
import HandS.DictTup
import HandS.Iter
import KE.KDictSum
import KE.DatumOrd
import KE.KUnpackStar
import HandS.OwnEq
import HandS.Codes
import HandS.HeadHook3
import KE.KDictDisplayH
import KE.KSortKey
import KE.SortKeyHeap
import HandS.SortKw
import HandS.Nested
import HandS.TupLen
import KE.DataMinMax
import KE.DatumMoreOrd
import HandS.Small
import PyProof.NeKinds
import HandS.TupMul
import Wide.Once
import Lean
import HandS.Base
import HandS.Call
import HandS.Ends
import HandS.Words
import PySem.Challenge.RW_gulprow_k25_meetings_listed
set_option autoImplicit true
set_option Elab.async false
set_option linter.all false
set_option maxRecDepth 100000
set_option maxHeartbeats 4000000
/-! # Exception classes over any of the built-in bases, made by their own __init__ -/
namespace Gk
open PySem PySem.Spec PyProof.Rows L2
open Builtin Builtin.ObjectAttr
/-- own classes, then the base's line -/
def ownT (tl : List Value) : List Value → Bool
  | .ref _ :: r => ownT tl r
  | l => l == tl
/-! ### rules -/
/-! ### what the head tells of such a class -/
def oexGB (K : PySem.W.Frag) (newId : String) (tl : List Value) (C : Addr) : Bool := match K.lookup C with
  | some ⟨.type t, _, .cls cd, sl⟩ => (match cd.mro, sl.toList with
    | .ref C' :: bm, [_, _, _, _, some (.builtin n), _] => decide (t = "type") && (decide (C' = C) && (decide (n = newId) && (!cd.hasDel && (cd.hasDict && ownT tl bm))))
    | _, _ => false)
  | _ => false
abbrev leT : List Value := [.type "LookupError", .type "Exception", .type "BaseException", .type "object"]
end Gk
set_option autoImplicit true
set_option Elab.async false
set_option linter.all false
set_option maxRecDepth 100000
set_option maxHeartbeats 4000000
/-! # The common part: facts of the top, callees, steps of readings -/
namespace Gk
open PySem PySem.Spec PyProof.Rows L2

/-! ## 1. Facts of the top beyond those of the modules -/
/-- an own exception class under ValueError, as ExcInit wants it -/
def oexB (K : PySem.W.Frag) (C : Addr) : Bool := match K.lookup C with
  | some ⟨.type t, _, .cls cd, sl⟩ => (match cd.mro, sl.toList with
    | .ref C' :: bm, [_, _, _, _, some (.builtin n), _] => decide (t = "type") && (decide (C' = C) && (decide (n = "ValueError.__new__") && (!cd.hasDel && (cd.hasDict && PySem.HandSPX.refsVE bm))))
    | _, _ => false)
  | _ => false
inductive Fx where
  /-- an exception class with an __init__ of its own -/
  | oex (x : Str)
  /-- .. over LookupError -/
  | oexL (x : Str)
  /-- the class is an exception's (what a clause names) -/
  | exc (x : Str)
  | field (x f : Str)
  | exm (x y : Str) (b : Bool)
  | str (x z : Str)
  | tup (x : Str) (vs : List He.Dv)
  /-- what isinstance asks of an own class -/
  | isC (x : Str)
  /-- two defs' tables of code objects stand apart -/
  | ptn (x y : Str)
def Fx.ok (K : PySem.W.Frag) : Fx → Bool
  | .oex x => oexB K (He.ga K x) && (decide (PySem.W.findIn K (.ref (He.ga K x)) "__setattr__" = some (some (.builtin "object.__setattr__"))) && (decide (PySem.W.subIn K (.ref (He.ga K x)) (.type "BaseException") = some true) && (decide (PySem.W.typeIn K (.ref (He.ga K x)) = some (.type "type")) &&
      (PySem.W.keepIn K (.ref (He.ga K x)) && (decide (PySem.W.findIn K (.ref (He.ga K x)) "__init__" = some (some (.ref (He.ma K (He.ga K x) "__init__")))) && (decide (PySem.W.typeIn K (.ref (He.ma K (He.ga K x) "__init__")) = some (.type "function")) && xfB K (He.ga K x)))))))
  | .oexL x => oexGB K "LookupError.__new__" leT (He.ga K x) && (decide (PySem.W.findIn K (.ref (He.ga K x)) "__setattr__" = some (some (.builtin "object.__setattr__"))) && (decide (PySem.W.subIn K (.ref (He.ga K x)) (.type "BaseException") = some true) && (decide (PySem.W.typeIn K (.ref (He.ga K x)) = some (.type "type")) &&
      (PySem.W.keepIn K (.ref (He.ga K x)) && (decide (PySem.W.findIn K (.ref (He.ga K x)) "__init__" = some (some (.ref (He.ma K (He.ga K x) "__init__")))) && (decide (PySem.W.typeIn K (.ref (He.ma K (He.ga K x) "__init__")) = some (.type "function")) && xfB K (He.ga K x)))))))
  | .exc x => decide (PySem.W.subIn K (.ref (He.ga K x)) (.type "BaseException") = some true) && decide (PySem.W.typeIn K (.ref (He.ga K x)) = some (.type "type"))
  | .field x f => decide (PySem.W.findIn K (.ref (He.ga K x)) f = some none)
  | .exm x y b => decide (PySem.W.exmOne K (.ref (He.ga K x)) (.ref (He.ga K y)) = some b)
  | .str x z => (match PySem.W.nsIn K mainGlobals x with
    | some (some (.str y _)) => decide (y = z)
    | _ => false)
  | .tup x vs => He.tupB K x vs
  | .ptn x y => decide ((He.cT K (x, none)).2 ≠ (He.cT K (y, none)).2)
  | .isC x => decide (PySem.W.findIn K (.ref (He.ga K x)) "__class__" = some (some (.builtin "object.__class__"))) && (decide (PySem.W.specialIn K (.builtin "object.__class__") "__get__" = some (some (.builtin "getset_descriptor.__get__"))) && (decide (PySem.W.takesIn K (.builtin "object.__class__") = some true) && (decide (PySem.W.mroIn K (He.ga K x) (.type "object") = some true) && decide (PySem.W.kitOne K (.ref (He.ga K x)) (.ref (He.ga K x)) = some true))))
/-! ## 2. The head's Hook -/
abbrev AlX : Type := Bool × List He.FnW
def obsX (fa : List He.Fa) (fx : List Fx) (fn : List He.DefD) (K : PySem.W.Frag) : AlX := ((fa.all fun f => f.ok K) && ((fx.all fun f => f.ok K) && fn.all fun d => d.ok K), fn.map fun d => He.fnW K d.at_)
def valX (fn : List He.DefD) : AlX := (true, fn.map He.DefD.val)
def SaysX (fa : List He.Fa) (fx : List Fx) (fn : List He.DefD) (K : PySem.W.Frag) : Prop := obsX fa fx fn K = valX fn
/-- the addresses that the top leads to, each once: by a mask of bits (eraseDups costs 5 GB of the run) -/
def dedB : List Addr → Nat → List Addr
  | [], _ => []
  | a :: r, m => match Nat.beq (Nat.land (Nat.shiftRight m a) 1) 1 with
    | true => dedB r m
    | false => a :: HandSHeadRun.frNat (Nat.lor m (Nat.shiftLeft 1 a)) fun m2 => dedB r m2
def growB (g : Addr → Option Obj) (as : List Addr) : List Addr := dedB (as ++ as.flatMap fun a => match g a with
  | some o => He.refsD o
  | none => []) 0
def asB (g : Addr → Option Obj) : Nat → List Addr
  | 0 => [mainGlobals]
  | n + 1 => growB g (asB g n)
end Gk
set_option Elab.async false
set_option autoImplicit false
set_option linter.all false
set_option maxRecDepth 100000
set_option maxHeartbeats 4000000
/-! # Sets of tuples whose items are ints and texts: adding, gathering, sorting; the set comprehension over any kind of set -/
set_option Elab.async false
set_option autoImplicit false
set_option linter.all false
set_option maxRecDepth 100000
set_option maxHeartbeats 4000000
set_option Elab.async false
set_option autoImplicit false
set_option linter.all false
set_option maxRecDepth 100000
set_option maxHeartbeats 4000000
/-! # Sets as things of the layer: rules and steps -/
set_option Elab.async false
set_option autoImplicit false
set_option linter.all false
set_option maxRecDepth 100000
set_option maxHeartbeats 4000000
/-! # Own classes, dicts, lists that grow: rules by name, steps -/
set_option Elab.async false
set_option autoImplicit false
set_option linter.all false
set_option maxRecDepth 100000
set_option maxHeartbeats 4000000
/-! # LookupErrors with a field, deep membership in tuples, while, slices by codes -/
set_option Elab.async false
set_option autoImplicit false
set_option linter.all false
set_option maxRecDepth 100000
set_option maxHeartbeats 4000000
/-! # enumerate over tuples, rows that are lists or tuples -/
set_option Elab.async false
set_option autoImplicit false
set_option linter.all false
set_option maxRecDepth 100000
set_option maxHeartbeats 4000000
/-! # lambdas without parameters, handed to a def that calls them; a Hook that tells empty tables -/
namespace Gk
open PySem PySem.Spec PyProof.Rows L2 LamX
/-! ## the Hook -/
structure SaysL (fa : List He.Fa) (fx : List Fx) (fn : List He.DefD) (tf : List He.Defn) (h : Heap) (K : PySem.W.Frag) : Prop where
  x : SaysX fa fx fn K
  hd : ∀ p ∈ tf, PySem.W.codeHdIn K (He.cT K p).1 (He.cT K p).2 = true
  out : ∀ p ∈ tf, K.lookup (He.cT K p).2 = none
  empty : ∀ p ∈ tf, h.get? (He.cT K p).2 = some { cls := .none, data := .fields #[] }
abbrev AlL : Type := AlX × Bool
def obsLG (n : Nat) (fa : List He.Fa) (fx : List Fx) (fn : List He.DefD) (tf : List He.Defn) (g : Addr → Option Obj) : AlL := (obsX fa fx fn (He.frT g (asB g n)), He.tabsB g tf (He.frT g (asB g n)))
theorem saysL_of {n : Nat} {fa : List He.Fa} {fx : List Fx} {fn : List He.DefD} {tf : List He.Defn} {h : Heap} (e : obsLG n fa fx fn tf h.get? = (valX fn, true)) : SaysL fa fx fn tf h (He.frT h.get? (asB h.get? n)) := by
  have e1 : obsX fa fx fn (He.frT h.get? (asB h.get? n)) = valX fn := congrArg (fun z : AlL => z.1) e
  have e2 : He.tabsB h.get? tf (He.frT h.get? (asB h.get? n)) = true := congrArg (fun z : AlL => z.2) e
  have key : ∀ p ∈ tf, PySem.W.codeHdIn (He.frT h.get? (asB h.get? n)) (He.cT (He.frT h.get? (asB h.get? n)) p).1 (He.cT (He.frT h.get? (asB h.get? n)) p).2 = true ∧ ∃ o, h.get? (He.cT (He.frT h.get? (asB h.get? n)) p).2 = some o ∧ He.emptyTab o = true := fun p hp => by
    obtain ⟨h3, h4⟩ := He.ba (List.all_eq_true.mp e2 p hp)
    refine ⟨h3, ?_⟩
    cases q : h.get? (He.cT (He.frT h.get? (asB h.get? n)) p).2 with
    | none =>
      rw [q] at h4
      cases h4
    | some o =>
      rw [q] at h4
      exact ⟨o, rfl, h4⟩
  exact ⟨e1, fun p hp => (key p hp).1, fun p hp => by
    obtain ⟨_, o, q, z⟩ := key p hp
    exact He.frT_none q z, fun p hp => by
    obtain ⟨_, o, q, z⟩ := key p hp
    rw [q, He.emptyTab_eq z]⟩
def hookL (n : Nat) (fa : List He.Fa) (fx : List Fx) (fn : List He.DefD) (tf : List He.Defn) : PySem.W.Hook where
  α := AlL
  obs := fun s => obsLG n fa fx fn tf s.heap.get?
  val := fun _ => (valX fn, true)
  says := fun _ h => ∃ K : PySem.W.Frag, K.In h ∧ SaysL fa fx fn tf h K
  of := fun _ _ e => ⟨_, He.frT_in, saysL_of e⟩
  keeps := fun _ _ _ ⟨K, hK, c⟩ k => ⟨K, PySem.W.Frag.In.keeps hK k, ⟨c.x, c.hd, c.out, fun p hp => k _ _ (c.empty p hp)⟩⟩
theorem obsLG_eq {n : Nat} {fa : List He.Fa} {fx : List Fx} {fn : List He.DefD} {tf : List He.Defn} {g : Addr → Option Obj} {s : Shared} (h : ∀ a, g a = s.heap.get? a) : obsLG n fa fx fn tf g = (hookL n fa fx fn tf).obs s := by
  have e : g = s.heap.get? := funext h
  rw [e] <;> rfl
end Gk
set_option autoImplicit true
set_option pp.maxSteps 1200
set_option Elab.async false
set_option linter.all false
set_option maxRecDepth 100000
set_option maxHeartbeats 1000000

namespace Lw
open PySem PySem.Spec PyProof.Rows L2 Gk
def top (i : Nat) : Stmt := PySem.Challenge.pw_gulprow_k25_meetings_listed.main.body.getD i (.Pass ⟨0, 0, 0, 0⟩)
abbrev s_Lbag : Stmt := (top 50)
theorem sc_Lbag : FnScope ["_law_script", "_law_cells", "_law_knot", "_law_cell"] ["_law_script"] (defScope s_Lbag) := ⟨rfl, rfl, rfl, by decide +kernel, rfl, by decide +kernel, by decide +kernel⟩
abbrev s_Lpull : Stmt := (top 51)
theorem sc_Lpull : FnScope ["_law_bag_here", "_law_upto", "_law_drawn", "_law_seed", "_law_fold", "_law_twist"] ["_law_bag_here", "_law_upto"] (defScope s_Lpull) := ⟨rfl, rfl, rfl, by decide +kernel, rfl, by decide +kernel, by decide +kernel⟩
abbrev s_Lone : Stmt := (top 52)
theorem sc_Lone : FnScope ["_law_bag_here", "_law_row"] ["_law_bag_here", "_law_row"] (defScope s_Lone) := ⟨rfl, rfl, rfl, by decide +kernel, rfl, by decide +kernel, by decide +kernel⟩
abbrev s_Lsame : Stmt := (top 53)
theorem sc_Lsame : FnScope ["_law_found", "_law_due", "_law_same_here", "_law_one_here", "_law_other"] ["_law_found", "_law_due"] (defScope s_Lsame) := ⟨rfl, rfl, rfl, by decide +kernel, rfl, by decide +kernel, by decide +kernel⟩
abbrev s_Lletters : Stmt := (top 55)
theorem sc_Lletters : FnScope ["_law_bag_here", "_law_many", "_law_spot", "_law_step", "_law_k"] ["_law_bag_here", "_law_many"] (defScope s_Lletters) := ⟨rfl, rfl, rfl, by decide +kernel, rfl, by decide +kernel, by decide +kernel⟩
abbrev s_word_count : Stmt := (top 21)
theorem sc_word_count : FnScope ["letters", "most"] ["letters", "most"] (defScope s_word_count) := ⟨rfl, rfl, rfl, by decide +kernel, rfl, by decide +kernel, by decide +kernel⟩
abbrev s_need_letters : Stmt := (top 22)
theorem sc_need_letters : FnScope ["letters", "sign"] ["letters"] (defScope s_need_letters) := ⟨rfl, rfl, rfl, by decide +kernel, rfl, by decide +kernel, by decide +kernel⟩
abbrev s_need_table : Stmt := (top 23)
theorem sc_need_table : FnScope ["table", "many", "at", "row", "to"] ["table", "many"] (defScope s_need_table) := ⟨rfl, rfl, rfl, by decide +kernel, rfl, by decide +kernel, by decide +kernel⟩
abbrev s_need_eats : Stmt := (top 24)
theorem sc_need_eats : FnScope ["eats", "tastes", "at", "side", "one", "other"] ["eats", "tastes"] (defScope s_need_eats) := ⟨rfl, rfl, rfl, by decide +kernel, rfl, by decide +kernel, by decide +kernel⟩
abbrev s_House_init : Stmt := (inClass (top 25) 0)
theorem sc_House_init : FnScope ["self", "letters", "table", "eats", "chew", "put", "most", "cut", "row", "side", "one", "other", "sign"] ["self", "letters", "table", "eats", "chew", "put", "most", "cut"] (defScope s_House_init) := ⟨rfl, rfl, rfl, by decide +kernel, rfl, by decide +kernel, by decide +kernel⟩
abbrev s_House_letters : Stmt := (inClass (top 25) 6)
theorem sc_House_letters : FnScope ["self"] ["self"] (defScope s_House_letters) := ⟨rfl, rfl, rfl, by decide +kernel, rfl, by decide +kernel, by decide +kernel⟩
abbrev s_House_most : Stmt := (inClass (top 25) 11)
theorem sc_House_most : FnScope ["self"] ["self"] (defScope s_House_most) := ⟨rfl, rfl, rfl, by decide +kernel, rfl, by decide +kernel, by decide +kernel⟩
abbrev s_House_tasted : Stmt := (inClass (top 25) 13)
theorem sc_House_tasted : FnScope ["self", "word", "here", "sign"] ["self", "word"] (defScope s_House_tasted) := ⟨rfl, rfl, rfl, by decide +kernel, rfl, by decide +kernel, by decide +kernel⟩
abbrev s_House_chew : Stmt := (inClass (top 25) 9)
theorem sc_House_chew : FnScope ["self"] ["self"] (defScope s_House_chew) := ⟨rfl, rfl, rfl, by decide +kernel, rfl, by decide +kernel, by decide +kernel⟩
abbrev s_House_put : Stmt := (inClass (top 25) 10)
theorem sc_House_put : FnScope ["self"] ["self"] (defScope s_House_put) := ⟨rfl, rfl, rfl, by decide +kernel, rfl, by decide +kernel, by decide +kernel⟩
abbrev s_House_cut : Stmt := (inClass (top 25) 12)
theorem sc_House_cut : FnScope ["self"] ["self"] (defScope s_House_cut) := ⟨rfl, rfl, rfl, by decide +kernel, rfl, by decide +kernel, by decide +kernel⟩
abbrev s_words : Stmt := (top 29)
theorem sc_words : FnScope ["house", "found", "last", "size", "word", "sign"] ["house"] (defScope s_words) := ⟨rfl, rfl, rfl, by decide +kernel, rfl, by decide +kernel, by decide +kernel⟩
abbrev s_cut_long : Stmt := (top 31)
theorem sc_cut_long : FnScope ["house", "long", "found", "left"] ["house", "long"] (defScope s_cut_long) := ⟨rfl, rfl, rfl, by decide +kernel, rfl, by decide +kernel, by decide +kernel⟩
abbrev s_grown : Stmt := (top 33)
theorem sc_grown : FnScope ["house", "eater", "eaten", "side"] ["house", "eater", "eaten", "side"] (defScope s_grown) := ⟨rfl, rfl, rfl, by decide +kernel, rfl, by decide +kernel, by decide +kernel⟩
abbrev s_behind : Stmt := (top 34)
theorem sc_behind : FnScope ["house", "row", "place", "side", "other", "eater", "eaten", "low", "made"] ["house", "row", "place", "side"] (defScope s_behind) := ⟨rfl, rfl, rfl, by decide +kernel, rfl, by decide +kernel, by decide +kernel⟩
abbrev s_bites_of : Stmt := (top 35)
theorem sc_bites_of : FnScope ["house", "row", "found", "place", "side", "made"] ["house", "row"] (defScope s_bites_of) := ⟨rfl, rfl, rfl, by decide +kernel, rfl, by decide +kernel, by decide +kernel⟩
abbrev s_followed : Stmt := (top 36)
theorem sc_followed : FnScope ["house", "row", "steps", "here", "number", "place", "side", "made"] ["house", "row", "steps"] (defScope s_followed) := ⟨rfl, rfl, rfl, by decide +kernel, rfl, by decide +kernel, by decide +kernel⟩
abbrev s_kind : Stmt := (top 32)
theorem sc_kind : FnScope ["house"] ["house"] (defScope s_kind) := ⟨rfl, rfl, rfl, by decide +kernel, rfl, by decide +kernel, by decide +kernel⟩
abbrev s_picked : Stmt := (top 38)
theorem sc_picked : FnScope ["found", "row", "order", "number", "longest", "place", "side", "made", "one"] ["found", "row", "order", "number"] (defScope s_picked) := ⟨rfl, rfl, rfl, by decide +kernel, rfl, by decide +kernel, by decide +kernel⟩
abbrev s_gone : Stmt := (top 39)
theorem sc_gone : FnScope ["house", "row", "order", "most", "here", "steps", "bound", "found", "bite"] ["house", "row", "order", "most"] (defScope s_gone) := ⟨rfl, rfl, rfl, by decide +kernel, rfl, by decide +kernel, by decide +kernel⟩
abbrev s_NotLean_init : Stmt := (inClass (top 11) 0)
theorem sc_NotLean_init : FnScope ["self"] ["self"] (defScope s_NotLean_init) := ⟨rfl, rfl, rfl, by decide +kernel, rfl, by decide +kernel, by decide +kernel⟩
abbrev s_NotOne_init : Stmt := (inClass (top 12) 0)
theorem sc_NotOne_init : FnScope ["self"] ["self"] (defScope s_NotOne_init) := ⟨rfl, rfl, rfl, by decide +kernel, rfl, by decide +kernel, by decide +kernel⟩
abbrev s_need_lean : Stmt := (top 42)
theorem sc_need_lean : FnScope ["house"] ["house"] (defScope s_need_lean) := ⟨rfl, rfl, rfl, by decide +kernel, rfl, by decide +kernel, by decide +kernel⟩
abbrev s_paired : Stmt := (top 43)
theorem sc_paired : FnScope ["row", "first", "last", "found", "one", "other"] ["row", "first", "last"] (defScope s_paired) := ⟨rfl, rfl, rfl, by decide +kernel, rfl, by decide +kernel, by decide +kernel⟩
abbrev s_ended : Stmt := (top 45)
theorem sc_ended : FnScope ["house", "row", "bite", "here", "number", "end", "steps"] ["house", "row", "bite"] (defScope s_ended) := ⟨rfl, rfl, rfl, by decide +kernel, rfl, by decide +kernel, by decide +kernel⟩
abbrev s_blocks : Stmt := (top 44)
theorem sc_blocks : FnScope ["house", "some", "pairs", "found", "one", "middle", "other", "row", "last", "bite", "made", "ahead", "rest", "at", "side"] ["house"] (defScope s_blocks) := ⟨rfl, rfl, rfl, by decide +kernel, rfl, by decide +kernel, by decide +kernel⟩
abbrev s_parted : Stmt := (top 46)
theorem sc_parted : FnScope ["house", "found", "row", "one", "other", "ways", "end", "others", "other_end"] ["house"] (defScope s_parted) := ⟨rfl, rfl, rfl, by decide +kernel, rfl, by decide +kernel, by decide +kernel⟩
abbrev s_meetings : Stmt := (top 47)
theorem sc_meetings : FnScope ["house", "part", "found"] ["house"] (defScope s_meetings) := ⟨rfl, rfl, rfl, by decide +kernel, rfl, by decide +kernel, by decide +kernel⟩
abbrev s_Lmeasures : Stmt := (top 56)
theorem sc_Lmeasures : FnScope ["_law_bag_here", "_law_sort", "_law_some"] ["_law_bag_here", "_law_sort"] (defScope s_Lmeasures) := ⟨rfl, rfl, rfl, by decide +kernel, rfl, by decide +kernel, by decide +kernel⟩
abbrev s_Lhouse : Stmt := (top 57)
theorem sc_Lhouse : FnScope ["_law_bag_here", "_law_sort", "_law_most_words", "_law_many", "_law_sizes", "_law_letters_here", "_law_longest", "_law_rooms", "_law_table", "_law_triples", "_law_k", "_law_chewing", "_law_plus", "_law_m", "_law_size", "_law_row", "_law_sign"] ["_law_bag_here", "_law_sort", "_law_most_words"] (defScope s_Lhouse) := ⟨rfl, rfl, rfl, by decide +kernel, rfl, by decide +kernel, by decide +kernel⟩
abbrev s_Lmade : Stmt := (top 58)
theorem sc_Lmade : FnScope ["_law_m", "_law_table", "_law_triples", "_law_row"] ["_law_m"] (defScope s_Lmade) := ⟨rfl, rfl, rfl, by decide +kernel, rfl, by decide +kernel, by decide +kernel⟩
abbrev s_Lwords : Stmt := (top 59)
theorem sc_Lwords : FnScope ["_law_m", "_law_found", "_law_last", "_law_size", "_law_longer", "_law_word", "_law_sign"] ["_law_m"] (defScope s_Lwords) := ⟨rfl, rfl, rfl, by decide +kernel, rfl, by decide +kernel, by decide +kernel⟩
abbrev s_Ltaste : Stmt := (top 60)
theorem sc_Ltaste : FnScope ["_law_m", "_law_word", "_law_here", "_law_sign"] ["_law_m", "_law_word"] (defScope s_Ltaste) := ⟨rfl, rfl, rfl, by decide +kernel, rfl, by decide +kernel, by decide +kernel⟩
abbrev s_Lcut : Stmt := (top 61)
theorem sc_Lcut : FnScope ["_law_m", "_law_long", "_law_found", "_law_left"] ["_law_m", "_law_long"] (defScope s_Lcut) := ⟨rfl, rfl, rfl, by decide +kernel, rfl, by decide +kernel, by decide +kernel⟩
abbrev s_Lgrown : Stmt := (top 62)
theorem sc_Lgrown : FnScope ["_law_m", "_law_eater", "_law_eaten", "_law_edge", "_law_rest", "_law_k"] ["_law_m", "_law_eater", "_law_eaten", "_law_edge"] (defScope s_Lgrown) := ⟨rfl, rfl, rfl, by decide +kernel, rfl, by decide +kernel, by decide +kernel⟩
abbrev s_Lbehind : Stmt := (top 63)
theorem sc_Lbehind : FnScope ["_law_m", "_law_row", "_law_place", "_law_edge", "_law_other", "_law_low", "_law_made_here"] ["_law_m", "_law_row", "_law_place", "_law_edge"] (defScope s_Lbehind) := ⟨rfl, rfl, rfl, by decide +kernel, rfl, by decide +kernel, by decide +kernel⟩
abbrev s_Lbites : Stmt := (top 64)
theorem sc_Lbites : FnScope ["_law_m", "_law_row", "_law_found", "_law_place", "_law_edge"] ["_law_m", "_law_row"] (defScope s_Lbites) := ⟨rfl, rfl, rfl, by decide +kernel, rfl, by decide +kernel, by decide +kernel⟩
abbrev s_Lgone : Stmt := (top 66)
theorem sc_Lgone : FnScope ["_law_m", "_law_row", "_law_rule", "_law_bound", "_law_here", "_law_found", "_law_many", "_law_k", "_law_some", "_law_bite", "_law_top", "_law_at", "_law_edge", "_law_one_here"] ["_law_m", "_law_row", "_law_rule", "_law_bound"] (defScope s_Lgone) := ⟨rfl, rfl, rfl, by decide +kernel, rfl, by decide +kernel, by decide +kernel⟩
abbrev s_Lcrossed : Stmt := (top 70)
theorem sc_Lcrossed : FnScope ["_law_row", "_law_some", "_law_more", "_law_found", "_law_one_here", "_law_other"] ["_law_row", "_law_some", "_law_more"] (defScope s_Lcrossed) := ⟨rfl, rfl, rfl, by decide +kernel, rfl, by decide +kernel, by decide +kernel⟩
abbrev s_Lblocks : Stmt := (top 69)
theorem sc_Lblocks : FnScope ["_law_m", "_law_shelf", "_law_found", "_law_pairs", "_law_one_here", "_law_other", "_law_middle", "_law_last", "_law_word", "_law_more", "_law_at", "_law_edge"] ["_law_m"] (defScope s_Lblocks) := ⟨rfl, rfl, rfl, by decide +kernel, rfl, by decide +kernel, by decide +kernel⟩
abbrev s_Lend : Stmt := (top 71)
theorem sc_Lend : FnScope ["_law_m", "_law_row"] ["_law_m", "_law_row"] (defScope s_Lend) := ⟨rfl, rfl, rfl, by decide +kernel, rfl, by decide +kernel, by decide +kernel⟩
abbrev s_Lis_parted : Stmt := (top 72)
theorem sc_Lis_parted : FnScope ["_law_m", "_law_row", "_law_one_here", "_law_other", "_law_ends_of", "_law_bite"] ["_law_m"] (defScope s_Lis_parted) := ⟨rfl, rfl, rfl, by decide +kernel, rfl, by decide +kernel, by decide +kernel⟩
abbrev s_Lwhy : Stmt := (top 54)
theorem sc_Lwhy : FnScope ["_law_ask", "_law_answer", "_law_word", "e"] ["_law_ask"] (defScope s_Lwhy) := ⟨rfl, rfl, rfl, by decide +kernel, rfl, by decide +kernel, by decide +kernel⟩
abbrev s_Lby_length : Stmt := (top 67)
theorem sc_Lby_length : FnScope ["_law_bag_here", "_law_letters_here", "_law_edge", "_law_m", "_law_k"] ["_law_bag_here"] (defScope s_Lby_length) := ⟨rfl, rfl, rfl, by decide +kernel, rfl, by decide +kernel, by decide +kernel⟩
abbrev s_Llean : Stmt := (top 68)
theorem sc_Llean : FnScope ["_law_bag_here", "_law_most_words", "_law_m", "_law_fork", "_law_half", "_law_edge", "_law_one_here", "_law_some", "_law_other"] ["_law_bag_here", "_law_most_words"] (defScope s_Llean) := ⟨rfl, rfl, rfl, by decide +kernel, rfl, by decide +kernel, by decide +kernel⟩
abbrev s_Lwalk : Stmt := (top 65)
theorem sc_Lwalk : FnScope ["_law_m", "_law_row", "_law_steps", "_law_here", "_law_place", "_law_edge"] ["_law_m", "_law_row", "_law_steps"] (defScope s_Lwalk) := ⟨rfl, rfl, rfl, by decide +kernel, rfl, by decide +kernel, by decide +kernel⟩
abbrev s_meetings_hold : Stmt := (top 48)
theorem sc_meetings_hold : FnScope ["house", "paper", "due", "row", "one", "other", "ways", "others", "first", "number", "last"] ["house", "paper"] (defScope s_meetings_hold) := ⟨rfl, rfl, rfl, by decide +kernel, rfl, by decide +kernel, by decide +kernel⟩
abbrev s_law : Stmt := (top 73)
theorem sc_law : FnScope ["_law_script", "_law_bag_here", "_law_k", "_law_m", "_law_house_here", "_law_due", "_law_bad", "_law_again", "_law_found", "_law_word", "_law_row", "_law_one_here", "_law_other", "_law_ways", "_law_others", "_law_there"] ["_law_script"] (defScope s_law) := ⟨rfl, rfl, rfl, by decide +kernel, rfl, by decide +kernel, by decide +kernel⟩
def dd0 : He.DefD := ⟨("_law_bag", none), "_law_bag", "_law_bag", defArgs s_Lbag, defBody s_Lbag, defScope s_Lbag, [], []⟩
def dd1 : He.DefD := ⟨("_law_pull", none), "_law_pull", "_law_pull", defArgs s_Lpull, defBody s_Lpull, defScope s_Lpull, [], []⟩
def dd2 : He.DefD := ⟨("_law_one", none), "_law_one", "_law_one", defArgs s_Lone, defBody s_Lone, defScope s_Lone, [], []⟩
def dd3 : He.DefD := ⟨("_law_same", none), "_law_same", "_law_same", defArgs s_Lsame, defBody s_Lsame, defScope s_Lsame, [], []⟩
def dd4 : He.DefD := ⟨("_law_letters", none), "_law_letters", "_law_letters", defArgs s_Lletters, defBody s_Lletters, defScope s_Lletters, [], []⟩
def dd5 : He.DefD := ⟨("word_count", none), "word_count", "word_count", defArgs s_word_count, defBody s_word_count, defScope s_word_count, [], []⟩
def dd6 : He.DefD := ⟨("need_letters", none), "need_letters", "need_letters", defArgs s_need_letters, defBody s_need_letters, defScope s_need_letters, [], []⟩
def dd7 : He.DefD := ⟨("need_table", none), "need_table", "need_table", defArgs s_need_table, defBody s_need_table, defScope s_need_table, [], []⟩
def dd8 : He.DefD := ⟨("need_eats", none), "need_eats", "need_eats", defArgs s_need_eats, defBody s_need_eats, defScope s_need_eats, [], []⟩
def dd9 : He.DefD := ⟨("House", some "__init__"), "__init__", "House.__init__", defArgs s_House_init, defBody s_House_init, defScope s_House_init, [], [("chew", .int 0)]⟩
def dd10 : He.DefD := ⟨("House", some "letters"), "letters", "House.letters", defArgs s_House_letters, defBody s_House_letters, defScope s_House_letters, [], []⟩
def dd11 : He.DefD := ⟨("House", some "most"), "most", "House.most", defArgs s_House_most, defBody s_House_most, defScope s_House_most, [], []⟩
def dd12 : He.DefD := ⟨("House", some "tasted"), "tasted", "House.tasted", defArgs s_House_tasted, defBody s_House_tasted, defScope s_House_tasted, [], []⟩
def dd13 : He.DefD := ⟨("House", some "chew"), "chew", "House.chew", defArgs s_House_chew, defBody s_House_chew, defScope s_House_chew, [], []⟩
def dd14 : He.DefD := ⟨("House", some "put"), "put", "House.put", defArgs s_House_put, defBody s_House_put, defScope s_House_put, [], []⟩
def dd15 : He.DefD := ⟨("House", some "cut"), "cut", "House.cut", defArgs s_House_cut, defBody s_House_cut, defScope s_House_cut, [], []⟩
def dd16 : He.DefD := ⟨("words", none), "words", "words", defArgs s_words, defBody s_words, defScope s_words, [], []⟩
def dd17 : He.DefD := ⟨("cut_long", none), "cut_long", "cut_long", defArgs s_cut_long, defBody s_cut_long, defScope s_cut_long, [], []⟩
def dd18 : He.DefD := ⟨("grown", none), "grown", "grown", defArgs s_grown, defBody s_grown, defScope s_grown, [], []⟩
def dd19 : He.DefD := ⟨("behind", none), "behind", "behind", defArgs s_behind, defBody s_behind, defScope s_behind, [], []⟩
def dd20 : He.DefD := ⟨("bites_of", none), "bites_of", "bites_of", defArgs s_bites_of, defBody s_bites_of, defScope s_bites_of, [], []⟩
def dd21 : He.DefD := ⟨("followed", none), "followed", "followed", defArgs s_followed, defBody s_followed, defScope s_followed, [], []⟩
def dd22 : He.DefD := ⟨("kind", none), "kind", "kind", defArgs s_kind, defBody s_kind, defScope s_kind, [], []⟩
def dd23 : He.DefD := ⟨("picked", none), "picked", "picked", defArgs s_picked, defBody s_picked, defScope s_picked, [], []⟩
def dd24 : He.DefD := ⟨("gone", none), "gone", "gone", defArgs s_gone, defBody s_gone, defScope s_gone, [], []⟩
def dd25 : He.DefD := ⟨("NotLean", some "__init__"), "__init__", "NotLean.__init__", defArgs s_NotLean_init, defBody s_NotLean_init, defScope s_NotLean_init, [], []⟩
def dd26 : He.DefD := ⟨("NotOne", some "__init__"), "__init__", "NotOne.__init__", defArgs s_NotOne_init, defBody s_NotOne_init, defScope s_NotOne_init, [], []⟩
def dd27 : He.DefD := ⟨("need_lean", none), "need_lean", "need_lean", defArgs s_need_lean, defBody s_need_lean, defScope s_need_lean, [], []⟩
def dd28 : He.DefD := ⟨("paired", none), "paired", "paired", defArgs s_paired, defBody s_paired, defScope s_paired, [], []⟩
def dd29 : He.DefD := ⟨("ended", none), "ended", "ended", defArgs s_ended, defBody s_ended, defScope s_ended, [], []⟩
def dd30 : He.DefD := ⟨("blocks", none), "blocks", "blocks", defArgs s_blocks, defBody s_blocks, defScope s_blocks, [], []⟩
def dd31 : He.DefD := ⟨("parted", none), "parted", "parted", defArgs s_parted, defBody s_parted, defScope s_parted, [], []⟩
def dd32 : He.DefD := ⟨("meetings", none), "meetings", "meetings", defArgs s_meetings, defBody s_meetings, defScope s_meetings, [], []⟩
def dd33 : He.DefD := ⟨("_law_measures", none), "_law_measures", "_law_measures", defArgs s_Lmeasures, defBody s_Lmeasures, defScope s_Lmeasures, [], []⟩
def dd34 : He.DefD := ⟨("_law_house", none), "_law_house", "_law_house", defArgs s_Lhouse, defBody s_Lhouse, defScope s_Lhouse, [], []⟩
def dd35 : He.DefD := ⟨("_law_made", none), "_law_made", "_law_made", defArgs s_Lmade, defBody s_Lmade, defScope s_Lmade, [], []⟩
def dd36 : He.DefD := ⟨("_law_words", none), "_law_words", "_law_words", defArgs s_Lwords, defBody s_Lwords, defScope s_Lwords, [], []⟩
def dd37 : He.DefD := ⟨("_law_taste", none), "_law_taste", "_law_taste", defArgs s_Ltaste, defBody s_Ltaste, defScope s_Ltaste, [], []⟩
def dd38 : He.DefD := ⟨("_law_cut", none), "_law_cut", "_law_cut", defArgs s_Lcut, defBody s_Lcut, defScope s_Lcut, [], []⟩
def dd39 : He.DefD := ⟨("_law_grown", none), "_law_grown", "_law_grown", defArgs s_Lgrown, defBody s_Lgrown, defScope s_Lgrown, [], []⟩
def dd40 : He.DefD := ⟨("_law_behind", none), "_law_behind", "_law_behind", defArgs s_Lbehind, defBody s_Lbehind, defScope s_Lbehind, [], []⟩
def dd41 : He.DefD := ⟨("_law_bites", none), "_law_bites", "_law_bites", defArgs s_Lbites, defBody s_Lbites, defScope s_Lbites, [], []⟩
def dd42 : He.DefD := ⟨("_law_gone", none), "_law_gone", "_law_gone", defArgs s_Lgone, defBody s_Lgone, defScope s_Lgone, [], []⟩
def dd43 : He.DefD := ⟨("_law_crossed", none), "_law_crossed", "_law_crossed", defArgs s_Lcrossed, defBody s_Lcrossed, defScope s_Lcrossed, [], []⟩
def dd44 : He.DefD := ⟨("_law_blocks", none), "_law_blocks", "_law_blocks", defArgs s_Lblocks, defBody s_Lblocks, defScope s_Lblocks, [], []⟩
def dd45 : He.DefD := ⟨("_law_end", none), "_law_end", "_law_end", defArgs s_Lend, defBody s_Lend, defScope s_Lend, [], []⟩
def dd46 : He.DefD := ⟨("_law_is_parted", none), "_law_is_parted", "_law_is_parted", defArgs s_Lis_parted, defBody s_Lis_parted, defScope s_Lis_parted, [], []⟩
def dd47 : He.DefD := ⟨("_law_why", none), "_law_why", "_law_why", defArgs s_Lwhy, defBody s_Lwhy, defScope s_Lwhy, [], []⟩
def dd48 : He.DefD := ⟨("_law_by_length", none), "_law_by_length", "_law_by_length", defArgs s_Lby_length, defBody s_Lby_length, defScope s_Lby_length, [], []⟩
def dd49 : He.DefD := ⟨("_law_lean", none), "_law_lean", "_law_lean", defArgs s_Llean, defBody s_Llean, defScope s_Llean, [], []⟩
def dd50 : He.DefD := ⟨("_law_walk", none), "_law_walk", "_law_walk", defArgs s_Lwalk, defBody s_Lwalk, defScope s_Lwalk, [], []⟩
def dd51 : He.DefD := ⟨("meetings_hold", none), "meetings_hold", "meetings_hold", defArgs s_meetings_hold, defBody s_meetings_hold, defScope s_meetings_hold, [], []⟩
def dd52 : He.DefD := ⟨("law", none), "law", "law", defArgs s_law, defBody s_law, defScope s_law, [], []⟩
def fn : List He.DefD := [dd0, dd1, dd2, dd3, dd4, dd5, dd6, dd7, dd8, dd9, dd10, dd11, dd12, dd13, dd14, dd15, dd16, dd17, dd18, dd19, dd20, dd21, dd22, dd23, dd24, dd25, dd26, dd27, dd28, dd29, dd30, dd31, dd32, dd33, dd34, dd35, dd36, dd37, dd38, dd39, dd40, dd41, dd42, dd43, dd44, dd45, dd46, dd47, dd48, dd49, dd50, dd51, dd52]
def fa : List He.Fa := [.glo "GulpError", .glo "House", .glo "MissError", .glo "NotLean", .glo "NotOne", .glo "NothingLeft", .glo "SIDES", .glo "_law_bag", .glo "_law_behind", .glo "_law_bites", .glo "_law_blocks", .glo "_law_by_length", .glo "_law_crossed", .glo "_law_cut", .glo "_law_end", .glo "_law_gone", .glo "_law_grown", .glo "_law_house", .glo "_law_is_parted", .glo "_law_lean", .glo "_law_letters", .glo "_law_made", .glo "_law_measures", .glo "_law_one", .glo "_law_pull", .glo "_law_same", .glo "_law_taste", .glo "_law_walk", .glo "_law_why", .glo "_law_words", .glo "behind", .glo "bites_of", .glo "blocks", .glo "cut_long", .glo "ended", .glo "followed", .glo "gone", .glo "grown", .glo "kind", .glo "law", .glo "meetings", .glo "meetings_hold", .glo "need_eats", .glo "need_lean", .glo "need_letters", .glo "need_table", .glo "paired", .glo "parted", .glo "picked", .glo "word_count", .glo "words", .free "all", .free "enumerate", .free "int", .free "isinstance", .free "len", .free "list", .free "max", .free "min", .free "range", .free "repr", .free "set", .free "sorted", .free "str", .free "sum", .free "tuple", .free "zip", .int "LONGEST" 60, .int "MOST_TASTES" 4, .int "MOST_WORDS" 14, .str "SMALL" "abcdefghijklmnopqrstuvwxyz", .cls "House", .mkr "House", .noat "House" "signs", .noat "House" "rooms", .noat "House" "triples", .noat "House" "chewed", .noat "House" "putting", .noat "House" "span", .noat "House" "cutting", .meth "House" "letters", .meth "House" "most", .meth "House" "tasted", .meth "House" "chew", .meth "House" "put", .meth "House" "cut"]
def fx : List Fx := [.tup "SIDES" [.str "left", .str "right"], .oex "NotLean", .field "NotLean" "word", .oex "NotOne", .field "NotOne" "word", .exm "NotOne" "GulpError" true]
abbrev R : PySem.W.OpenRow := PySem.W.OpenLaw.row PySem.Challenge.rw_gulprow_k25_meetings_listed
abbrev hk : PySem.W.Hook := hookL 6 fa fx fn [(("law" : Str), (none : Option Str))]
def ob (s : PySem.W.SharedT) : AlL := obsLG 6 fa fx fn [(("law" : Str), (none : Option Str))] (HandSHeadRun.getT s)
theorem ob_eq (s : PySem.W.SharedT) : ob s = hk.obs s.abs := obsLG_eq (HandSHeadRun.getT_eq s)
abbrev loose : List PySem.Str := ("GulpError" : PySem.Str) :: ("MissError" : PySem.Str) :: ("NothingLeft" : PySem.Str) :: ("BadLetters" : PySem.Str) :: ("BadTable" : PySem.Str) :: ("BadEat" : PySem.Str) :: ("BadChew" : PySem.Str) :: ("BadPut" : PySem.Str) :: ("BadMost" : PySem.Str) :: ("BadCut" : PySem.Str) :: ("NotLean" : PySem.Str) :: ("NotOne" : PySem.Str) :: ("MOST" : PySem.Str) :: ("CUT" : PySem.Str) :: ("MOST_WORDS" : PySem.Str) :: ("MOST_TASTES" : PySem.Str) :: ("SMALL" : PySem.Str) :: ("SIDES" : PySem.Str) :: ("MARKS" : PySem.Str) :: ("word_count" : PySem.Str) :: ("need_letters" : PySem.Str) :: ("need_table" : PySem.Str) :: ("need_eats" : PySem.Str) :: ("House" : PySem.Str) :: ("table_text" : PySem.Str) :: ("eats_text" : PySem.Str) :: ("words" : PySem.Str) :: ("cut_long" : PySem.Str) :: ("kind" : PySem.Str) :: ("grown" : PySem.Str) :: ("behind" : PySem.Str) :: ("bites_of" : PySem.Str) :: ("followed" : PySem.Str) :: ("picked" : PySem.Str) :: ("gone" : PySem.Str) :: ("LONGEST" : PySem.Str) :: ("need_lean" : PySem.Str) :: ("paired" : PySem.Str) :: ("blocks" : PySem.Str) :: ("ended" : PySem.Str) :: ("parted" : PySem.Str) :: ("meetings" : PySem.Str) :: ("meetings_hold" : PySem.Str) :: ("_law_bag" : PySem.Str) :: ("_law_pull" : PySem.Str) :: ("_law_one" : PySem.Str) :: ("_law_same" : PySem.Str) :: ("_law_why" : PySem.Str) :: ("_law_letters" : PySem.Str) :: ("_law_measures" : PySem.Str) :: ("_law_house" : PySem.Str) :: ("_law_made" : PySem.Str) :: ("_law_words" : PySem.Str) :: ("_law_taste" : PySem.Str) :: ("_law_cut" : PySem.Str) :: ("_law_grown" : PySem.Str) :: ("_law_behind" : PySem.Str) :: ("_law_bites" : PySem.Str) :: ("_law_walk" : PySem.Str) :: ("_law_gone" : PySem.Str) :: ("_law_by_length" : PySem.Str) :: ("_law_lean" : PySem.Str) :: ("_law_blocks" : PySem.Str) :: ("_law_crossed" : PySem.Str) :: ("_law_end" : PySem.Str) :: ("_law_is_parted" : PySem.Str) :: []
theorem run0 (w : World) : HandSHeadRun.RunEq R (PySem.W.view R.prog [73]) hk ob 30000 Lw.loose (w.withFollow "special-get-raises" false) := by
  intro os
  kernel_rfl
theorem run1 (w : World) : HandSHeadRun.RunEq R (PySem.W.view R.prog [73]) hk ob 30000 Lw.loose (w.withFollow "special-get-raises" true) := by
  intro os
  kernel_rfl
theorem run (w : World) : HandSHeadRun.RunEq R (PySem.W.view R.prog [73]) hk ob 30000 Lw.loose w := PySem.W.byRow2 "special-get-raises" (P := fun w => HandSHeadRun.RunEq R (PySem.W.view R.prog [73]) hk ob 30000 Lw.loose w) run0 run1 w
end Lw
section
open PySem PySem.W PySem.Calls PyProof.Rows HandSHeadRun
theorem Lw.pre (call : PySem.W.WalkO (view (OpenLaw.row PySem.Challenge.rw_gulprow_k25_meetings_listed).prog [73]) Lw.loose (XL (view (OpenLaw.row PySem.Challenge.rw_gulprow_k25_meetings_listed).prog [73]) []) Lw.hk.says (OpenLaw.row PySem.Challenge.rw_gulprow_k25_meetings_listed).toRowW (HandSHeadRun.topDef (OpenLaw.row PySem.Challenge.rw_gulprow_k25_meetings_listed).prog 73) [] fun f vs => PySem.call f vs) : PySem.Challenge.rw_gulprow_k25_meetings_listed.Holds := by
  w_on; o_law
  refine HandSHeadRun.head_any (r := OpenLaw.row PySem.Challenge.rw_gulprow_k25_meetings_listed) (q := view (OpenLaw.row PySem.Challenge.rw_gulprow_k25_meetings_listed).prog [73]) (H := Lw.hk) (ob := Lw.ob) (M := 30000) (loose := Lw.loose) (d := HandSHeadRun.topDef (OpenLaw.row PySem.Challenge.rw_gulprow_k25_meetings_listed).prog 73) (kwd := []) Lw.ob_eq
    (by kernel_rfl) (fun s => by kernel_rfl) Lw.run (by kernel_rfl) (by kernel_rfl) (by kernel_rfl) (by rfl) (by first | assumption | decide +kernel) (by decide +kernel) ⟨rfl, rfl, rfl, rfl, rfl, by decide +kernel⟩ ?hw ?hc
  case hw => w_witness2
  case hc => exact call
end
set_option autoImplicit true
set_option Elab.async false
set_option linter.all false
set_option maxRecDepth 100000
set_option maxHeartbeats 4000000
/-! # Exception classes over any of the built-in bases, made by their own __init__ -/
namespace Gk
open PySem PySem.Spec PyProof.Rows L2
open Builtin Builtin.ObjectAttr
/-- what the base's line gives -/
structure Bsf (B newId initId : String) (tl : List Value) : Prop where
  F : ExcBaseFacts B newId initId tl
  st : ∀ self, refuseLoop self "__setattr__" tl = pure ()
  ob : tl.contains (.type "object") = true
  ne : tl.isEmpty = false
section
variable {tl : List Value} {B newId initId : String}
theorem line_has (Y : String) : ∀ cs : List Addr, (cs.map Value.ref ++ tl).contains (.type Y) = tl.contains (.type Y)
  | [] => rfl
  | c :: cs => by
    rw [List.map_cons, List.cons_append, List.contains_cons, line_has Y cs]
    rfl
end
/-- what the written part says of the class -/
structure OexG (K : PySem.W.Frag) (C : Addr) (newId : String) (tl : List Value) : Prop where
  cls : ∃ nm q N bs, ∃ cs : List Addr, ∃ sn sub ab col dd k0 k1 k2 k3 k5, K.lookup C = some (excClassObj nm q C N bs (cs.map Value.ref ++ tl) true sn sub ab col dd k0 k1 k2 k3 k5 newId)
  sa : PySem.W.findIn K (.ref C) "__setattr__" = some (some (.builtin "object.__setattr__"))
  exC : PySem.W.subIn K (.ref C) (.type "BaseException") = some true
  tyC : PySem.W.typeIn K (.ref C) = some (.type "type")
  kC : PySem.W.keepIn K (.ref C) = true
section
open PySem.W PySem.Calls PySem.HandSPX
variable {tl : List Value} {B newId initId : String} {prog : Program} {w : World} {A : Around} {R : Result → Shared → Prop} {hp : Heap} {g : Array GenState} {d : Drawn} {t : Nat} {os : OsState} {K : W.Frag} {fn : Str} {tk : Tok} {v : Value} {x C : Addr} {fv : Array Value} {nm q : Str} {bs sub : List Value} {N : Addr} {sn : List Str} {ab : Bool} {col : Option Bool} {cs : List Addr}
end
section
variable {X : Cx} {pins : List (Addr × Obj)} {σ : L2.St} {H : Hp} {s : Shared} {a C dx : Addr} {f : Str} {y : V} {u : Value} {fs : List (Str × V)} {A : Around} {tl : List Value} {B newId initId : String}
end
/-! ### rules -/
section
variable {X : Cx} {o e : Expr} {es : List Expr} {to te : TE} {ta : TA} {f : Str} {p p' pos : Pos} {tl : List Value} {B newId initId : String}
end
/-! ### what the head tells of such a class -/
end Gk
set_option autoImplicit true
set_option Elab.async false
set_option linter.all false
set_option maxRecDepth 100000
set_option maxHeartbeats 4000000
/-! # The common part: facts of the top, callees, steps of readings -/
namespace Gk
open PySem PySem.Spec PyProof.Rows L2

/-! ## 1. Facts of the top beyond those of the modules -/
theorem oexB_ok {K : PySem.W.Frag} {C : Addr} (q : oexB K C = true) :
    ∃ nm q N bs bm sn sub ab col dd k0 k1 k2 k3 k5, K.lookup C = some (excClassObj nm q C N bs bm true sn sub ab col dd k0 k1 k2 k3 k5 "ValueError.__new__") ∧ PySem.HandSPX.refsVE bm = true := by
  unfold oexB at q
  split at q
  · rename_i t dd cd sl ho
    split at q
    · rename_i C' bm k0 k1 k2 k3 n k5 hm hs
      simp only [Bool.and_eq_true, decide_eq_true_eq, Bool.not_eq_true'] at q
      obtain ⟨rfl, rfl, rfl, hdel, hdct, ht⟩ := q
      obtain ⟨nm, bs, mro, ns, qn, hd, sn, sub, ab, col, del⟩ := cd
      dsimp only at hm hdel hdct
      subst hm hdel hdct
      have hsl : sl = #[k0, k1, k2, k3, some (.builtin "ValueError.__new__"), k5] := by
        obtain ⟨l⟩ := sl
        simp only at hs
        rw [hs]
      subst hsl
      exact ⟨nm, qn, ns, bs, bm, sn, sub, ab, col, dd, k0, k1, k2, k3, k5, ho, ht⟩
    · cases q
  · cases q
/-- an exception class of the text, made by its own __init__ -/
structure Oex (K : PySem.W.Frag) (C fI : Addr) : Prop where
  T : OexC K C
  iC : PySem.W.findIn K (.ref C) "__init__" = some (some (.ref fI))
  tI : PySem.W.typeIn K (.ref fI) = some (.type "function")
  F : XfC K C
theorem ba {a b : Bool} (h : (a && b) = true) : a = true ∧ b = true := Bool.and_eq_true_iff.mp h
theorem oex_ok {K : PySem.W.Frag} {x : Str} (h : (Fx.oex x).ok K = true) : Oex K (He.ga K x) (He.ma K (He.ga K x) "__init__") := by
  obtain ⟨h1, h⟩ := ba h
  obtain ⟨h2, h⟩ := ba h
  obtain ⟨h3, h⟩ := ba h
  obtain ⟨h4, h⟩ := ba h
  obtain ⟨h5, h⟩ := ba h
  obtain ⟨h6, h⟩ := ba h
  obtain ⟨h7, h8⟩ := ba h
  exact ⟨⟨oexB_ok h1, of_decide_eq_true h2, of_decide_eq_true h3, of_decide_eq_true h4, h5⟩, of_decide_eq_true h6, of_decide_eq_true h7, xfB_ok h8⟩
/-! ## 2. The head's Hook -/
section
variable {fa : List He.Fa} {fx : List Fx} {fn : List He.DefD} {K : PySem.W.Frag}
theorem SaysX.fact (c : SaysX fa fx fn K) (i : Nat) {f : He.Fa} (h : fa[i]? = some f := by rfl) : f.ok K = true := by
  have c1 := (ba (show ((fa.all fun f => f.ok K) && ((fx.all fun f => f.ok K) && fn.all fun d => d.ok K)) = true from congrArg (fun z : AlX => z.1) c)).1
  exact List.all_eq_true.mp c1 f (List.mem_of_getElem? h)
theorem SaysX.more (c : SaysX fa fx fn K) (i : Nat) {f : Fx} (h : fx[i]? = some f := by rfl) : f.ok K = true := by
  have c1 := (ba (ba (show ((fa.all fun f => f.ok K) && ((fx.all fun f => f.ok K) && fn.all fun d => d.ok K)) = true from congrArg (fun z : AlX => z.1) c)).2).1
  exact List.all_eq_true.mp c1 f (List.mem_of_getElem? h)
theorem SaysX.def_ (c : SaysX fa fx fn K) (i : Nat) {d : He.DefD} (h : fn[i]? = some d := by rfl) : ∃ fd, FunD K d.name d.qual d.params d.body d.scope (d.dvs K) (d.kws K) (He.fAd K d.at_) fd := by
  have c2 := (ba (ba (show ((fa.all fun f => f.ok K) && ((fx.all fun f => f.ok K) && fn.all fun d => d.ok K)) = true from congrArg (fun z : AlX => z.1) c)).2).2
  have e : fn.map (fun d => He.fnW K d.at_) = fn.map He.DefD.val := congrArg (fun z : AlX => z.2) c
  have e2 : (fn.map fun d => He.fnW K d.at_)[i]? = (fn.map He.DefD.val)[i]? := by rw [e]
  rw [List.getElem?_map, List.getElem?_map, h] at e2
  exact He.DefD.funD (Option.some.inj e2) (List.all_eq_true.mp c2 d (List.mem_of_getElem? h))
end

/-! ## 3. Callees -/
/-- the module's name x stands for a def that keeps sp, called with its last arguments dvs left out -/
structure Callee (P : Program) (w : World) (K : PySem.W.Frag) (mg : Str → Option Value) (base : Heap) (CX : CXT) (x : Str) (k : Nat) (dvs : List V) (sp : Sp) : Prop where
  ex : ∃ f fd ps ds, FnOk P w K mg base CX k f fd ps sp ∧ mg x = some (.ref f) ∧ PySem.W.keepIn K (.ref f) = true ∧ Binds K fd ps ds ∧ Vals dvs ds
section
variable {X : Cx} {CX : CXT} {k j : Nat} {sp : Sp} {dvs : List V} {E : XK} {x : Str} {p pos : Pos} {e : Expr} {es : List Expr} {t : TA}
theorem pe_cl (C : Callee X.prog X.w X.K X.mg X.base CX x k dvs sp) (hr : Room j X.A) (ha : PA X (e :: es) t) (hx : Passes CX X E) (hj : k ≤ j := by first | decide | omega) (hg : Gl X x := by rfl) (hdb : (x == ("__debug__" : Str)) = false := by decide)
    (he : starEach (e :: es) X.env = (false, eval e X.env) :: starEach es X.env := by rfl) (hpl : (backTo pos (starEach es X.env)).any (·.1) = false := by rfl) : PE X (.Call (.Name x p) (e :: es) [] pos) (tCall sp dvs E t) := by
  obtain ⟨f, fd, ps, ds, F, hm, hk, hb, hd⟩ := C.ex
  exact pe_call F (hr.mono hj) hg hm hk hb hd hx ha hdb he hpl
end

/-! ## 4. Heaps -/
theorem sm_new {H : Hp} {p : Addr} {o : HO} (h : H p = none) : Same H (upd H p o) := fun a u e => by
  rw [upd_ne (ne_of_none e h)]
  exact e
theorem sm_mut {H H' : Hp} {p : Addr} {o : HO} (e : Same H H') (h : H p = none) : Same H (upd H' p o) := fun a u ha => by
  rw [upd_ne (ne_of_none ha h)]
  exact e a u ha
theorem sm_get {H H' : Hp} {p : Addr} {o : HO} (e : Same H H') (h : H p = some o) : H' p = some o := e p o h
theorem sm_rd {H H' : Hp} {a : Addr} {u : HO} (e : Same H H') (h : Rd H a u) : Rd H' a u := by
  rcases h with h | ⟨o, h⟩
  · exact Or.inl (e a _ h)
  · exact Or.inr ⟨o, e a _ h⟩
theorem sm_l {K : PySem.W.Frag} {H H' : Hp} {a : Addr} {xs : List V} (e : Same H H') (h : SqL K H a xs) : SqL K H' a xs := by
  rcases h with h | h
  · exact Or.inl (sm_rd e h)
  · exact Or.inr h
theorem sm_t {K : PySem.W.Frag} {H H' : Hp} {a : Addr} {xs : List V} (e : Same H H') (h : SqT K H a xs) : SqT K H' a xs := by
  rcases h with h | h
  · exact Or.inl (sm_rd e h)
  · exact Or.inr h
theorem sq_l {K : PySem.W.Frag} {H : Hp} {a : Addr} {xs : List V} (h : H a = some (.lst xs)) : SqL K H a xs := Or.inl (Or.inl h)
theorem sq_t {K : PySem.W.Frag} {H : Hp} {a : Addr} {xs : List V} (h : H a = some (.tup xs)) : SqT K H a xs := Or.inl (Or.inl h)
mutual
theorem dp_sm {K : PySem.W.Frag} {H H' : Hp} (e : Same H H') : ∀ {v : V} {d : PyData}, Dp K H v d → Dp K H' v d
  | _, _, .non => .non
  | _, _, .bl b => .bl b
  | _, _, .int i => .int i
  | _, _, .str x => .str x
  | _, _, .lst h r => .lst (sm_l e h) (dpall_sm e r)
  | _, _, .tup h r => .tup (sm_t e h) (dpall_sm e r)
theorem dpall_sm {K : PySem.W.Frag} {H H' : Hp} (e : Same H H') : ∀ {vs : List V} {ds : List PyData}, DpAll K H vs ds → DpAll K H' vs ds
  | _, _, .nil => .nil
  | _, _, .cons h r => .cons (dp_sm e h) (dpall_sm e r)
end
theorem sz_of {n : Nat} (h : n ≤ 100000) : n ≤ sizeLine := Nat.le_trans h (by decide)
theorem sz_lt {n : Nat} (h : n < 100000) : n < sizeLine := Nat.lt_of_lt_of_le h (by decide)
theorem upd_id {H : Hp} {a : Addr} {o : HO} (h : H a = some o) : upd H a o = H := by
  funext b
  by_cases e : b = a
  · rw [e, upd_same, h]
  · rw [upd_ne e]

/-! ## 5. Operators for values of several kinds -/
def rAddS : R2 := fun x y H Q => ∃ i j, x = .str i ∧ y = .str j ∧ i.length + j.length ≤ sizeLine ∧ Q (.str (i ++ j)) H
def rAddU (K : PySem.W.Frag) : R2 := fun x y H Q => (rI0 (fun i j => .int (i + j)) x y H Q ∨ rAddS x y H Q) ∨ (rCat x y H Q ∨ rCatT K x y H Q)
def rEqU (K : PySem.W.Frag) : R2 := fun x y H Q => rEq x y H Q ∨ rEqD K x y H Q
def rNeU (K : PySem.W.Frag) : R2 := fun x y H Q => rNe x y H Q ∨ rNeD K x y H Q
def rSlU (K : PySem.W.Frag) : V → Option Int → Option Int → Hp → VK → Prop := fun x lo hi H Q => rSlL K x lo hi H Q ∨ (rSlS x lo hi H Q ∨ rSlA K x lo hi H Q)
def rLeU : R2 := fun x y H Q => rI0 (fun i j => .bl (decide (i ≤ j))) x y H Q ∨ ∃ i j, x = .str i ∧ y = .str j ∧ Q (.bl (!decide (j.cps.toList < i.cps.toList))) H
def rLenU (K : PySem.W.Frag) : List V → Hp → VK → Prop := fun xs H Q => ∃ x n, xs = [x] ∧ LenV K x H n ∧ Q (.int n) H
def rListU (K : PySem.W.Frag) : List V → Hp → VK → Prop := fun xs H Q => ∃ p ys, xs = [.ref p] ∧ (SqL K H p ys ∨ SqT K H p ys) ∧ ∀ l, H l = none → Q (.ref l) (upd H l (.lst ys))
def rTupU (K : PySem.W.Frag) : List V → Hp → VK → Prop := fun xs H Q => ∃ p ys, xs = [.ref p] ∧ ((SqL K H p ys ∧ ∀ l, H l = none → Q (.ref l) (upd H l (.tup ys))) ∨ (SqT K H p ys ∧ Q (.ref p) H))
/-- the text that repr tells -/
inductive ReprV : V → Str → Prop where
  | non : ReprV .non "None"
  | bl (b : Bool) : ReprV (.bl b) (if b then "True" else "False")
  | int (i : Int) (h : i.natAbs.log2 < 1920) : ReprV (.int i) (toString i)
  | str (x : Str) (h : (reprText x).length ≤ sizeLine) : ReprV (.str x) (reprText x)
def rReprU : List V → Hp → VK → Prop := fun xs H Q => ∃ x z, xs = [x] ∧ ReprV x z ∧ Q (.str z) H
section
variable {X : Cx}
theorem op_addU : OpR X (binaryOp .Add) (rAddU X.K) := OpR.or (OpR.or op_add op_add_str) (OpR.or op_cat op_catT)
theorem op_eqU (hu : X.A.units + 64 < cLine) : OpR X (compareOp .Eq) (rEqU X.K) := OpR.or op_eq (op_eqD hu)
theorem op_neU (hu : X.A.units + 64 < cLine) : OpR X (compareOp .NotEq) (rNeU X.K) := OpR.or op_ne (op_neD hu)
theorem op_leU : OpR X (compareOp .LtE) rLeU := OpR.or op_le op_le_str
theorem sl_u : SlR X (rSlU X.K) := SlR.or sl_list (SlR.or sl_str sl_tupA)
theorem call_lenU : CallR X (.builtin "len") (rLenU X.K) := call_len
theorem call_listU : CallR X (.type "list") (rListU X.K) := call_list_of
theorem call_tupU : CallR X (.type "tuple") (rTupU X.K) := call_tuple_of
theorem call_reprU : CallR X (.builtin "repr") rReprU := by
  intro pins s σ H xs us Q I r h
  obtain ⟨x, z, rfl, hz, q⟩ := h
  obtain ⟨u, rfl, ru⟩ := vals1 r
  cases hz with
  | non =>
    cases ru
    exact PySem.P.repr_of_none ⟨.str _, H, I.tok _, ⟨_, rfl⟩, q⟩
  | bl b =>
    cases ru
    exact PySem.P.repr_of_bool ⟨.str _, H, I.tok _, ⟨_, rfl⟩, q⟩
  | int i hi =>
    obtain ⟨t, rfl⟩ := ru
    exact PySem.P.repr_of_int hi ⟨.str _, H, I.tok _, ⟨_, rfl⟩, q⟩
  | str y hy =>
    obtain ⟨t, rfl⟩ := ru
    exact PySem.P.repr_of_str ⟨.str _, H, I.tok _, ⟨_, rfl⟩, q⟩ hy
end

/-! ## 6. Steps of readings. Leaves bear names, so that a step is found by the goal's head -/
def nBl (x : V) (R : Bool → Hp → Prop) (H : Hp) : Prop := ∃ k, x = .bl k ∧ R k H
def nInt (x : V) (R : Option Int → Hp → Prop) (H : Hp) : Prop := ∃ i, x = .int i ∧ R (some i) H
def nLst (xs : List V) (H : Hp) (Q : VK) : Prop := xs.length ≤ sizeLine ∧ ∀ p, H p = none → Q (.ref p) (upd H p (.lst xs))
def nTup (xs : List V) (H : Hp) (Q : VK) : Prop := xs.length ≤ sizeLine ∧ ∀ p, H p = none → Q (.ref p) (upd H p (.tup xs))
def nTy (K : PySem.W.Frag) (T : String) (x : V) (H : Hp) (A : Prop) : Prop := tyV K T x H ∧ A
def nStr (x : V) (A : Prop) : Prop := (∃ a, x = .str a) ∧ A
def nIte (b : Bool) (A B : Prop) : Prop := if b = true then A else B
section
variable {K : PySem.W.Frag} {σ : L2.St} {H : Hp} {Q : VK} {D : Ends} {te ta tb tc tx : TE} {t u : TS} {c c2 : TT} {tA tB2 : TA} {x y v : V} {i j n m : Int} {a b l p q : Addr} {xs ys zs : List V} {z z2 : Str} {k : Nat} {A B : Prop} {r r2 : R2}
-- statements
theorem k_seq (h : t { D with nx := u D } σ H) : tSeq t u D σ H := h
theorem k_next (h : D.nx σ H) : tNext D σ H := h
theorem k_asg {g : TG} (h : te σ H fun x H1 => g x σ H1 D.nx) : tAsg te g D σ H := h
theorem k_name {R : L2.St → Hp → Prop} (h : R (σ.set k (some v)) H) : gName k v σ H R := h
theorem k_ret (h : te σ H D.rt) : tRet te D σ H := h
theorem k_drop (h : te σ H fun _ H1 => D.nx σ H1) : tDrop te D σ H := h
theorem k_ifs (h : c σ H fun b H1 => nIte b (t D σ H1) (u D σ H1)) : tIfS c t u D σ H := h
theorem k_cont (h : D.ct σ H) : tCont D σ H := h
theorem k_gtup {R : L2.St → Hp → Prop} {w : TGs} (hx : SqT K H a xs) (hl : xs.length = k) (h : w xs σ H R) : gTup K k w (.ref a) σ H R := ⟨a, xs, rfl, hx, hl, h⟩
theorem k_gcons {R : L2.St → Hp → Prop} {g : TG} {w : TGs} (h : g x σ H fun σ' H' => w xs σ' H' R) : gCons g w (x :: xs) σ H R := ⟨x, xs, rfl, h⟩
theorem k_gnil {R : L2.St → Hp → Prop} (h : R σ H) : gNil [] σ H R := ⟨rfl, h⟩
theorem k_gsub {R : L2.St → Hp → Prop} {w : TSet} (h : ta σ H fun o H1 => tb σ H1 fun i H2 => w o i v H2 fun H3 => R σ H3) : gSub ta tb w v σ H R := h
-- tests
theorem k_test {R : Bool → Hp → Prop} (h : te σ H fun x H' => nBl x R H') : tTest te σ H R := h
theorem k_tB {R : Bool → Hp → Prop} (h : te σ H fun x H' => nBl x R H') : tB te σ H R := h
theorem k_bl {R : Bool → Hp → Prop} {b : Bool} (h : R b H) : nBl (.bl b) R H := ⟨b, rfl, h⟩
theorem k_not {R : Bool → Hp → Prop} (h : c σ H fun b H1 => R (!b) H1) : tNot c σ H R := h
theorem k_and {R : Bool → Hp → Prop} (h : c σ H fun b H1 => nIte b (c2 σ H1 R) (R false H1)) : tAnd c c2 σ H R := h
theorem k_or {R : Bool → Hp → Prop} (h : c σ H fun b H1 => nIte b (R true H1) (c2 σ H1 R)) : tOr c c2 σ H R := h
theorem k_yes {R : Bool → Hp → Prop} (h : R true H) : tYes σ H R := h
theorem k_dec {P : Prop} [Decidable P] (h1 : P → A) (h2 : ¬ P → B) : nIte (decide P) A B := ite2 (c := decide P = true) (fun e => h1 (of_decide_eq_true e)) fun e => h2 fun z => e (decide_eq_true z)
theorem k_true (h : A) : nIte true A B := iteT h
theorem k_false (h : B) : nIte false A B := iteF h
theorem k_nt {b : Bool} (h : nIte b B A) : nIte (!b) A B := by
  cases b with
  | true => exact h
  | false => exact h
-- expressions
theorem k_var (hs : σ[k]? = some (some v)) (h : Q v H) : tVar k σ H Q := ⟨v, hs, h⟩
theorem k_c (h : Q v H) : tC v σ H Q := h
theorem k_op (h : ta σ H fun x H1 => tb σ H1 fun y H2 => r x y H2 Q) : tOp r ta tb σ H Q := h
theorem k_un {r : V → Hp → VK → Prop} (h : ta σ H fun x H1 => r x H1 Q) : tUn r ta σ H Q := h
theorem k_if (h : c σ H fun b H1 => nIte b (ta σ H1 Q) (tb σ H1 Q)) : tIf c ta tb σ H Q := h
theorem k_chain (h : ta σ H fun x H1 => tb σ H1 fun y H2 => r x y H2 fun z H3 => nBl z (fun k H3 => nIte k (tc σ H3 fun w H4 => r2 y w H4 Q) (Q (.bl false) H3)) H3) : tChain r r2 ta tb tc σ H Q := h
theorem k_nil {R : List V → Hp → Prop} (h : R [] H) : tNil σ H R := h
theorem k_cons {R : List V → Hp → Prop} (h : ta σ H fun x H1 => tA σ H1 fun xs H2 => R (x :: xs) H2) : tCons ta tA σ H R := h
theorem k_cb {r : List V → Hp → VK → Prop} (h : tA σ H fun vs H1 => r vs H1 Q) : tCB r tA σ H Q := h
theorem k_call {sp : Sp} {dvs : List V} {E : XK} (h : tA σ H fun vs H1 => sp (vs ++ dvs) H1 Q E) : tCall sp dvs E tA σ H Q := h
theorem k_andV (h : ta σ H fun x H1 => nBl x (fun c H1 => nIte c (tb σ H1 Q) (Q (.bl false) H1)) H1) : tAndV ta tb σ H Q := h
theorem k_lst (h : tA σ H fun xs H1 => nLst xs H1 Q) : tLst tA σ H Q := h
theorem k_tup (h : tA σ H fun xs H1 => nTup xs H1 Q) : tTup tA σ H Q := h
theorem k_nLst (hz : xs.length ≤ 100000) (h : ∀ p H2, H p = none → Same H H2 → H2 p = some (.lst xs) → Q (.ref p) H2) : nLst xs H Q := ⟨sz_of hz, fun p hp => h p _ hp (sm_new hp) upd_same⟩
theorem k_nTup (hz : xs.length ≤ 100000) (h : ∀ p H2, H p = none → Same H H2 → H2 p = some (.tup xs) → Q (.ref p) H2) : nTup xs H Q := ⟨sz_of hz, fun p hp => h p _ hp (sm_new hp) upd_same⟩
theorem k_nopart {R : Option Int → Hp → Prop} (h : R none H) : tNoPart σ H R := h
theorem k_part {R : Option Int → Hp → Prop} (h : te σ H fun x H1 => nInt x R H1) : tPart te σ H R := h
theorem k_nInt {R : Option Int → Hp → Prop} (h : R (some i) H) : nInt (.int i) R H := ⟨i, rfl, h⟩
theorem k_sl {r : V → Option Int → Option Int → Hp → VK → Prop} {tl th : TO} (h : te σ H fun x H1 => tl σ H1 fun l H2 => th σ H2 fun u H3 => r x l u H3 Q) : tSl r te tl th σ H Q := h
theorem k_bm {T : String} {r : V → List V → Hp → VK → Prop} (h : te σ H fun x H1 => nTy K T x H1 (tA σ H1 fun xs H2 => r x xs H2 Q)) : tBM K T r te tA σ H Q := h
theorem k_nTyL (hx : SqL K H a xs) (h : A) : nTy K "list" (.ref a) H A := ⟨Or.inl ⟨rfl, xs, hx⟩, h⟩
theorem k_nTyS (h : A) : nTy K "str" (.str z) H A := ⟨rfl, h⟩
theorem k_m1 {r : V → List V → Hp → VK → Prop} (h : te σ H fun x H1 => nStr x (tx σ H1 fun y H2 => r x [y] H2 Q)) : tM1 r te tx σ H Q := h
theorem k_nStr (h : A) : nStr (.str z) A := ⟨⟨z, rfl⟩, h⟩
-- operators
theorem k_I0 {g : Int → Int → V} (h : Q (g i j) H) : rI0 g (.int i) (.int j) H Q := ⟨i, j, rfl, rfl, h⟩
theorem k_I {C : Int → Int → Prop} {g : Int → Int → V} (hc : C i j) (h : Q (g i j) H) : rI C g (.int i) (.int j) H Q := ⟨i, j, rfl, rfl, hc, h⟩
theorem k_U {g : Int → V} (h : Q (g i) H) : rU g (.int i) H Q := ⟨i, rfl, h⟩
theorem k_add_i (h : Q (.int (i + j)) H) : rAddU K (.int i) (.int j) H Q := .inl (.inl ⟨i, j, rfl, rfl, h⟩)
theorem k_add_s (hz : z.length + z2.length ≤ 100000) (h : Q (.str (z ++ z2)) H) : rAddU K (.str z) (.str z2) H Q := .inl (.inr ⟨z, z2, rfl, rfl, sz_of hz, h⟩)
theorem k_add_l (h1 : H a = some (.lst xs)) (h2 : H b = some (.lst ys)) (hz : xs.length + ys.length ≤ 100000) (h : ∀ p H2, H p = none → Same H H2 → H2 p = some (.lst (xs ++ ys)) → Q (.ref p) H2) : rAddU K (.ref a) (.ref b) H Q :=
  .inr (.inl ⟨a, b, xs, ys, rfl, rfl, h1, h2, sz_of hz, fun p hp => h p _ hp (sm_new hp) upd_same⟩)
theorem k_mul (hc : (-(2 ^ 64) < i ∧ i < 2 ^ 64) ∨ (-(2 ^ 64) < j ∧ j < 2 ^ 64)) (h : Q (.int (i * j)) H) : rI CMul (fun i j => .int (i * j)) (.int i) (.int j) H Q := ⟨i, j, rfl, rfl, hc, h⟩
theorem k_eq_i (h : Q (.bl (decide (i = j))) H) : rEqU K (.int i) (.int j) H Q := .inl ⟨rfl, by
  rw [show decide (V.int i = V.int j) = decide (i = j) by
    by_cases e : i = j
    · rw [e, decide_eq_true rfl, decide_eq_true rfl]
    · rw [decide_eq_false e, decide_eq_false fun z => e (V.int.inj z)]]
  exact h⟩
theorem k_eq_s (h : Q (.bl (decide (z = z2))) H) : rEqU K (.str z) (.str z2) H Q := .inl ⟨rfl, by
  rw [show decide (V.str z = V.str z2) = decide (z = z2) by
    by_cases e : z = z2
    · rw [e, decide_eq_true rfl, decide_eq_true rfl]
    · rw [decide_eq_false e, decide_eq_false fun w => e (V.str.inj w)]]
  exact h⟩
theorem k_ne_i (h : Q (.bl (!decide (i = j))) H) : rNeU K (.int i) (.int j) H Q := .inl ⟨rfl, by
  rw [show decide (V.int i = V.int j) = decide (i = j) by
    by_cases e : i = j
    · rw [e, decide_eq_true rfl, decide_eq_true rfl]
    · rw [decide_eq_false e, decide_eq_false fun z => e (V.int.inj z)]]
  exact h⟩
theorem k_ne_s (h : Q (.bl (!decide (z = z2))) H) : rNeU K (.str z) (.str z2) H Q := .inl ⟨rfl, by
  rw [show decide (V.str z = V.str z2) = decide (z = z2) by
    by_cases e : z = z2
    · rw [e, decide_eq_true rfl, decide_eq_true rfl]
    · rw [decide_eq_false e, decide_eq_false fun w => e (V.str.inj w)]]
  exact h⟩
theorem k_ne_b {b c : Bool} (h : Q (.bl (!decide (b = c))) H) : rNeU K (.bl b) (.bl c) H Q := .inl ⟨rfl, by
  rw [show decide (V.bl b = V.bl c) = decide (b = c) by
    by_cases e : b = c
    · rw [e, decide_eq_true rfl, decide_eq_true rfl]
    · rw [decide_eq_false e, decide_eq_false fun w => e (V.bl.inj w)]]
  exact h⟩
theorem k_eq_d {d e : PyData} (h1 : Dp K H x d) (h2 : Dp K H y e) (s1 : SeqAt.shaped d = true) (s2 : SeqAt.shaped e = true) (h : Q (.bl (PyData.eqv d e)) H) : rEqU K x y H Q := .inr ⟨d, e, h1, h2, s1, s2, h⟩
theorem k_ne_d {d e : PyData} (h1 : Dp K H x d) (h2 : Dp K H y e) (s1 : SeqAt.shaped d = true) (s2 : SeqAt.shaped e = true) (h : Q (.bl (!PyData.eqv d e)) H) : rNeU K x y H Q := .inr ⟨d, e, h1, h2, s1, s2, h⟩
theorem k_le_i (h : Q (.bl (decide (i ≤ j))) H) : rLeU (.int i) (.int j) H Q := .inl ⟨i, j, rfl, rfl, h⟩
theorem k_ix_l (hx : SqL K H a xs) (hi : atI xs i = some v) (h : Q v H) : rIx K (.ref a) (.int i) H Q := .inl ⟨a, xs, i, v, rfl, rfl, hx, hi, h⟩
theorem k_ix_t (hx : SqT K H a xs) (hi : atI xs i = some v) (h : Q v H) : rIx K (.ref a) (.int i) H Q := .inr (.inl ⟨a, xs, i, v, rfl, rfl, hx, hi, h⟩)
theorem k_ix_s {c : Nat} (hz : z.length ≤ 100000) (hi : atI z.cps.toList i = some c) (h : Q (.str ⟨#[c]⟩) H) : rIx K (.str z) (.int i) H Q := .inr (.inr ⟨z, i, c, rfl, rfl, sz_of hz, hi, h⟩)
theorem k_sl_l {lo hi : Option Int} (hx : SqL K H a xs) (h : ∀ p H2, H p = none → Same H H2 → H2 p = some (.lst (cutV xs lo hi)) → Q (.ref p) H2) : rSlU K (.ref a) lo hi H Q := .inl ⟨a, xs, rfl, hx, fun p hp => h p _ hp (sm_new hp) upd_same⟩
theorem k_sl_s {lo hi : Option Int} (hz : z.length ≤ 100000) (h : Q (.str (cutS z lo hi)) H) : rSlU K (.str z) lo hi H Q := .inr (.inl ⟨z, rfl, sz_of hz, h⟩)
theorem k_len_s (hz : z.length ≤ 100000) (h : Q (.int z.length) H) : rLenU K [.str z] H Q := ⟨.str z, z.length, rfl, ⟨sz_of hz, rfl⟩, h⟩
theorem k_len_l (hx : SqL K H a xs) (h : Q (.int xs.length) H) : rLenU K [.ref a] H Q := ⟨.ref a, xs.length, rfl, .inl ⟨xs, hx, rfl⟩, h⟩
theorem k_len_t (hx : SqT K H a xs) (h : Q (.int xs.length) H) : rLenU K [.ref a] H Q := ⟨.ref a, xs.length, rfl, .inr ⟨xs, hx, rfl⟩, h⟩
theorem k_list_l (hx : SqL K H a xs) (h : ∀ p H2, H p = none → Same H H2 → H2 p = some (.lst xs) → Q (.ref p) H2) : rListU K [.ref a] H Q := ⟨a, xs, rfl, .inl hx, fun p hp => h p _ hp (sm_new hp) upd_same⟩
theorem k_list_t (hx : SqT K H a xs) (h : ∀ p H2, H p = none → Same H H2 → H2 p = some (.lst xs) → Q (.ref p) H2) : rListU K [.ref a] H Q := ⟨a, xs, rfl, .inr hx, fun p hp => h p _ hp (sm_new hp) upd_same⟩
theorem k_tup_l (hx : SqL K H a xs) (h : ∀ p H2, H p = none → Same H H2 → H2 p = some (.tup xs) → Q (.ref p) H2) : rTupU K [.ref a] H Q := ⟨a, xs, rfl, .inl ⟨hx, fun p hp => h p _ hp (sm_new hp) upd_same⟩⟩
theorem k_tup_t (hx : SqT K H a xs) (h : Q (.ref a) H) : rTupU K [.ref a] H Q := ⟨a, xs, rfl, .inr ⟨hx, h⟩⟩
theorem k_repr (hr : ReprV x z) (h : Q (.str z) H) : rReprU [x] H Q := ⟨x, z, rfl, hr, h⟩
theorem k_setL {R : Hp → Prop} (h0 : H a = some (.lst xs)) (hi : ixN xs.length i = some k) (h : R (upd H a (.lst (xs.set k v)))) : rSetL (.ref a) (.int i) v H R := ⟨a, xs, i, k, rfl, rfl, h0, hi, h⟩
theorem k_sum {ns : List Int} (hx : SqL K H a (ns.map V.int)) (h : Q (.int ns.sum) H) : rSum K [.ref a] H Q := ⟨a, ns, rfl, hx, h⟩
theorem k_all {bs : List Bool} (hx : SqL K H a (bs.map V.bl)) (h : Q (.bl (bs.all id)) H) : rAll K [.ref a] H Q := ⟨a, bs, rfl, hx, h⟩
end

theorem k_start {t : TS} {D : Ends} {σ σ' : L2.St} {H : Hp} (e : σ = σ') (h : t D σ' H) : t D σ H := by
  rw [e]
  exact h
/-! ## 7. Loops and comprehensions -/
def nRng1 (vs : List V) (R : It → Hp → Prop) (H : Hp) : Prop := ∃ j : Int, vs = [.int j] ∧ -(2 ^ 62) ≤ j ∧ j < 2 ^ 62 ∧ R (Itr 0 j.toNat) H
def nRng2 (vs : List V) (R : It → Hp → Prop) (H : Hp) : Prop := ∃ i j : Int, vs = [.int i, .int j] ∧ (-(2 ^ 62) ≤ i ∧ i < 2 ^ 62 ∧ -(2 ^ 62) ≤ j ∧ j < 2 ^ 62) ∧ R (Itr i (j - i).toNat) H
def nItl (K : PySem.W.Frag) (x : V) (R : It → Hp → Prop) (H : Hp) : Prop := ∃ a, x = .ref a ∧ (∃ xs, SqL K H a xs) ∧ R (Itl K a) H
def nItt (K : PySem.W.Frag) (x : V) (R : It → Hp → Prop) (H : Hp) : Prop := ∃ a, x = .ref a ∧ (∃ xs, SqT K H a xs) ∧ R (Itt K a) H
def nIts (x : V) (R : It → Hp → Prop) (H : Hp) : Prop := ∃ z, x = .str z ∧ R (Its z) H
def nIte2 (K : PySem.W.Frag) (vs : List V) (R : It → Hp → Prop) (H : Hp) : Prop := ∃ a xs, vs = [.ref a] ∧ SqL K H a xs ∧ R (Ite K a) H
def nItz (K : PySem.W.Frag) (vs : List V) (R : It → Hp → Prop) (H : Hp) : Prop := ∃ a b xs ys, vs = [.ref a, .ref b] ∧ ((SqL K H a xs ∧ SqL K H b ys ∧ R (Itz K a b) H) ∨ (SqT K H a xs ∧ SqT K H b ys ∧ R (RZ.ItzT K a b) H))
def nFor (J : It) (g : TG) (tb : TS) (D : Ends) (σ : L2.St) (H : Hp) : Prop := ∃ W : Nat → Nat → L2.St → Hp → Prop, (∃ m, W 0 m σ H) ∧ ∀ i m σ H, W i m σ H →
  (J.stop i H ∧ D.nx σ H) ∨ (J.go i H ∧ ∃ N : L2.St → Hp → Prop, (∀ σ' H', N σ' H' → ∃ m', m' < m ∧ W (i + 1) m' σ' H') ∧ ∀ x H', J.yld i H x H' → g x σ H' fun σ2 H2 => tb { D with nx := N, ct := N, bk := D.nx } σ2 H2)
def nLc (J : It) (g : TG) (tt : TT) (te : TE) (vs : List Nat) (σ : L2.St) (H1 : Hp) (Q : VK) : Prop := ∀ D, H1 D = none → ∃ W : Nat → Nat → Hp → Prop, (∃ m, W 0 m (upd H1 D (.lst []))) ∧ ∀ i m H, W i m H →
  (J.stop i H ∧ Q (.ref D) H) ∨ (J.go i H ∧ ∃ Nx : Hp → Prop, (∀ H', Nx H' → ∃ m', m' < m ∧ W (i + 1) m' H') ∧ ∀ x H', J.yld i H x H' → g x (wipe σ vs) H' fun σ2 H2 => wipe σ2 vs = wipe σ vs ∧ tt σ2 H2 fun b H3 =>
    if b = true then te σ2 H3 fun y H4 => ∃ acc, H4 D = some (.lst acc) ∧ acc.length < sizeLine ∧ Nx (upd H4 D (.lst (acc ++ [y]))) else Nx H3)
section
variable {K : PySem.W.Frag} {σ : L2.St} {H : Hp} {Q : VK} {D : Ends} {te : TE} {tt : TT} {tb : TS} {tA : TA} {wi : TI} {g : TG} {R : It → Hp → Prop} {i j : Int} {n : Nat} {a b : Addr} {xs ys : List V} {z : Str} {vs : List Nat} {J : It} {G : Hp → Prop} {Y : Nat → Hp → V → Hp → Prop}
theorem k_for (h : wi σ H fun J H1 => nFor J g tb D σ H1) : tFor wi g tb D σ H := h
theorem k_lc (h : wi σ H fun J H1 => nLc J g tt te vs σ H1 Q) : tLc wi g tt te vs σ H Q := h
theorem k_rng1 (h : tA σ H fun vs H1 => nRng1 vs R H1) : iRng1 tA σ H R := h
theorem k_rng2 (h : tA σ H fun vs H1 => nRng2 vs R H1) : iRng2 tA σ H R := h
theorem k_itl (h : te σ H fun x H1 => nItl K x R H1) : iList K te σ H R := h
theorem k_itt (h : te σ H fun x H1 => nItt K x R H1) : iTup K te σ H R := h
theorem k_its (h : te σ H fun x H1 => nIts x R H1) : iStr te σ H R := h
theorem k_ite (h : tA σ H fun vs H1 => nIte2 K vs R H1) : iEnum K tA σ H R := h
theorem k_itz (h : tA σ H fun vs H1 => nItz K vs R H1) : RZ.iZipA K tA σ H R := h
theorem k_nRng1 (h1 : -(2 ^ 62) ≤ j) (h2 : j < 2 ^ 62) (h : R (Itr 0 j.toNat) H) : nRng1 [.int j] R H := ⟨j, rfl, h1, h2, h⟩
theorem k_nRng2 (h : (-(2 ^ 62) ≤ i ∧ i < 2 ^ 62 ∧ -(2 ^ 62) ≤ j ∧ j < 2 ^ 62)) (q : R (Itr i (j - i).toNat) H) : nRng2 [.int i, .int j] R H := ⟨i, j, rfl, h, q⟩
theorem k_nItl (hx : SqL K H a xs) (h : R (Itl K a) H) : nItl K (.ref a) R H := ⟨a, rfl, ⟨xs, hx⟩, h⟩
theorem k_nItt (hx : SqT K H a xs) (h : R (Itt K a) H) : nItt K (.ref a) R H := ⟨a, rfl, ⟨xs, hx⟩, h⟩
theorem k_nIts (h : R (Its z) H) : nIts (.str z) R H := ⟨z, rfl, h⟩
theorem k_nIte (hx : SqL K H a xs) (h : R (Ite K a) H) : nIte2 K [.ref a] R H := ⟨a, xs, rfl, hx, h⟩
theorem k_nItzL (hx : SqL K H a xs) (hy : SqL K H b ys) (h : R (Itz K a b) H) : nItz K [.ref a, .ref b] R H := ⟨a, b, xs, ys, rfl, .inl ⟨hx, hy, h⟩⟩
theorem k_nItzT (hx : SqT K H a xs) (hy : SqT K H b ys) (h : R (RZ.ItzT K a b) H) : nItz K [.ref a, .ref b] R H := ⟨a, b, xs, ys, rfl, .inr ⟨hx, hy, h⟩⟩
theorem k_nFor (w : Walk J n G Y) (Pv : Nat → L2.St → Hp → Prop) (h0 : Pv 0 σ H) (hG : ∀ i σ H, i ≤ n → Pv i σ H → G H)
    (hs : ∀ i x σ H H', i < n → Pv i σ H → Y i H x H' → g x σ H' fun σ2 H2 => tb { D with nx := Pv (i + 1), ct := Pv (i + 1), bk := D.nx } σ2 H2) (hd : ∀ σ H, Pv n σ H → D.nx σ H) : nFor J g tb D σ H := for_it w Pv h0 hG hs hd
/-- over zip of two tuples -/
theorem walk_zipT {n : Nat} (hn : n = min xs.length ys.length) : Walk (RZ.ItzT K a b) n (fun H => SqT K H a xs ∧ SqT K H b ys) (YPair (fun i => xs[i]?) (fun i => ys[i]?)) := by
  subst hn
  refine ⟨fun i _ hi q => ?_, fun _ q => ⟨xs, ys, q.1, q.2, by omega⟩, fun i H v H' _ q y => ?_⟩
  · have h1 : i < xs.length := by omega
    have h2 : i < ys.length := by omega
    exact ⟨xs, ys, xs[i], ys[i], q.1, q.2, by simp [h1], by simp [h2]⟩
  · obtain ⟨T, x, z, h1, h2, h3, h4, h5⟩ := y
    exact ⟨T, x, z, h1, h2, h3, h4 xs q.1, h5 ys q.2⟩
/-- a comprehension; Pv: what holds of the turn and of the values so far, told without the heap -/
theorem k_nLc {tg : TG} (w : Walk J n G Y) (hG : ∀ H', Same H H' → G H') (Pv : Nat → List V → Prop) (h0 : Pv 0 []) (hz : ∀ i ws, i ≤ n → Pv i ws → ws.length ≤ 50000)
    (hs : ∀ (i : Nat) (x : V) (H1 H2 : Hp) (ws : List V) (Kp : VK) (Ks : Hp → Prop), i < n → Same H H1 → Pv i ws → Y i H1 x H2 → (∀ y H5, Same H1 H5 → Pv (i + 1) (ws ++ [y]) → Kp y H5) → (∀ H5, Same H1 H5 → Pv (i + 1) ws → Ks H5) →
      tg x (wipe σ vs) H2 fun σ2 H3 => wipe σ2 vs = wipe σ vs ∧ tt σ2 H3 fun b H4 => nIte b (te σ2 H4 Kp) (Ks H4))
    (hd : ∀ (p : Addr) (H' : Hp) (ws : List V), H p = none → Same H H' → H' p = some (.lst ws) → Pv n ws → Q (.ref p) H') : nLc J tg tt te vs σ H Q := by
  intro p hp
  refine lc_it w (fun i H' => ∃ ws : List V, Same H H' ∧ H' p = some (.lst ws) ∧ Pv i ws) ⟨[], sm_new hp, upd_same, h0⟩ (fun i H' _ h => ?_) (fun i x H1 H2 hi h hy => ?_) (fun H' h => ?_)
  · obtain ⟨ws, s1, _⟩ := h
    exact hG H' s1
  · obtain ⟨ws, s1, e1, q1⟩ := h
    exact hs i x H1 H2 ws _ _ hi s1 q1 hy (fun y H5 s5 q5 => ⟨ws, s5 p _ e1, sz_lt (by have := hz i ws (by omega) q1; omega), ws ++ [y], sm_mut (s1.trans s5) hp, upd_same, q5⟩) (fun H5 s5 q5 => ⟨ws, s1.trans s5, s5 p _ e1, q5⟩)
  · obtain ⟨ws, s1, e1, q1⟩ := h
    exact hd p H' ws hp s1 e1 q1
end

/-! ## 8. The bag of draws: its list is told by a word that never changes, so that a draw leaves the heap as it is -/
/-- at b: the list of the cells (at c), a place from 0 on, a held number, a knot -/
def bagO (b c : Addr) : HO := .ext fun h => ∃ (i1 i2 i3 : Int) (t1 t2 t3 : Tok) (n : Nat), 0 ≤ i1 ∧ h.get? b = some { cls := .type "list", data := .seq #[.ref c, .int i1 t1, .int i2 t2, .int i3 t3] n }
def BagOk (H : Hp) (b : Addr) : Prop := ∃ (c : Addr) (ns : List Int), H b = some (bagO b c) ∧ H c = some (.lst (ns.map V.int))
theorem BagOk.sm {H H' : Hp} {b : Addr} (e : Same H H') (h : BagOk H b) : BagOk H' b := by
  obtain ⟨c, ns, h1, h2⟩ := h
  exact ⟨c, ns, e _ _ h1, e _ _ h2⟩
def bagL (c : Addr) (i1 i2 i3 : Int) : List V := [.ref c, .int i1, .int i2, .int i3]
section
variable {X : Cx} {pins : List (Addr × Obj)} {σ : L2.St} {H : Hp} {s : Shared} {b c : Addr}
/-- the bag is opened -/
theorem bag_open (I : Inv X pins σ H s) (h : H b = some (bagO b c)) : ∃ i1 i2 i3 : Int, 0 ≤ i1 ∧ Inv X pins σ (upd H b (.lst (bagL c i1 i2 i3))) s := by
  obtain ⟨⟨i1, i2, i3, t1, t2, t3, n, hi, hg⟩, _, _⟩ := (show ObjOk X.prog X.w H s.heap b (bagO b c) from I.hok b _ h)
  refine ⟨i1, i2, i3, hi, ?_⟩
  have J := I.write (t' := s.toks) (h' := s.heap) (x := b) (e := b) (o := .lst (bagL c i1 i2 i3)) (by rw [h]; exact True.intro) (.inl rfl) (fun _ _ _ q => q) ⟨_, hg⟩
    ⟨sz_of (by show 4 ≤ 100000; decide), [.ref c, .int i1 t1, .int i2 t2, .int i3 t3], n, .cons rfl (.cons ⟨_, rfl⟩ (.cons ⟨_, rfl⟩ (.cons ⟨_, rfl⟩ .nil))), hg⟩
  exact J
/-- .. and closed -/
theorem bag_shut {i1 i2 i3 : Int} (I : Inv X pins σ H s) (h : H b = some (.lst (bagL c i1 i2 i3))) (hi : 0 ≤ i1) : Inv X pins σ (upd H b (bagO b c)) s := by
  obtain ⟨_, its, n, r, hg⟩ := (show ObjOk X.prog X.w H s.heap b (.lst (bagL c i1 i2 i3)) from I.hok b _ h)
  cases r with
  | cons r0 r =>
    cases r with
    | cons r1 r =>
      cases r with
      | cons r2 r =>
        cases r with
        | cons r3 r =>
          cases r
          cases r0
          obtain ⟨t1, rfl⟩ := r1
          obtain ⟨t2, rfl⟩ := r2
          obtain ⟨t3, rfl⟩ := r3
          have J := I.write (t' := s.toks) (h' := s.heap) (x := b) (e := b) (o := bagO b c) (by rw [h]; exact True.intro) (.inl rfl) (fun _ _ _ q => q) ⟨_, hg⟩
            ⟨⟨i1, i2, i3, t1, t2, t3, n, hi, hg⟩, ⟨_, hg⟩, fun h1 h2 z k => by
              obtain ⟨j1, j2, j3, u1, u2, u3, m, hj, e⟩ := z
              exact ⟨j1, j2, j3, u1, u2, u3, m, hj, k _ e⟩⟩
          exact J
/-- a block between the opening and the closing -/
def tBag (t : TS) : TS := fun D σ H => ∃ b c, H b = some (bagO b c) ∧ ∀ i1 i2 i3 : Int, 0 ≤ i1 →
  t { nx := fun σ' H' => ∃ j1 j2 j3, 0 ≤ j1 ∧ H' b = some (.lst (bagL c j1 j2 j3)) ∧ D.nx σ' (upd H' b (bagO b c)), rt := fun v H' => ∃ j1 j2 j3, 0 ≤ j1 ∧ H' b = some (.lst (bagL c j1 j2 j3)) ∧ D.rt v (upd H' b (bagO b c)),
      bk := fun σ' H' => ∃ j1 j2 j3, 0 ≤ j1 ∧ H' b = some (.lst (bagL c j1 j2 j3)) ∧ D.bk σ' (upd H' b (bagO b c)), ct := fun σ' H' => ∃ j1 j2 j3, 0 ≤ j1 ∧ H' b = some (.lst (bagL c j1 j2 j3)) ∧ D.ct σ' (upd H' b (bagO b c)) } σ (upd H b (.lst (bagL c i1 i2 i3)))
theorem pss_bag {st : List Stmt} {t : TS} (h : PSs X st t) : PSs X st (tBag t) := by
  refine ⟨fun pins s σ H D I hw => ?_⟩
  obtain ⟨b, c, hb, hw⟩ := hw
  obtain ⟨i1, i2, i3, hi, I1⟩ := bag_open I hb
  refine thn (h.run pins s σ _ _ I1 (hw i1 i2 i3 hi)) fun f s1 q => ?_
  cases f with
  | next => obtain ⟨σ', H', I2, j1, j2, j3, hj, e, q⟩ := q; exact ⟨σ', _, bag_shut I2 e hj, q⟩
  | brk => obtain ⟨σ', H', I2, j1, j2, j3, hj, e, q⟩ := q; exact ⟨σ', _, bag_shut I2 e hj, q⟩
  | cont => obtain ⟨σ', H', I2, j1, j2, j3, hj, e, q⟩ := q; exact ⟨σ', _, bag_shut I2 e hj, q⟩
  | ret v => obtain ⟨x, σ', H', I2, r, j1, j2, j3, hj, e, q⟩ := q; exact ⟨x, σ', _, bag_shut I2 e hj, r, q⟩
/-- a block that makes a bag and hands it back -/
def tSeal (t : TS) : TS := fun D σ H => t { nx := D.nx, rt := fun v H' => ∃ b c i1 i2 i3, v = .ref b ∧ 0 ≤ i1 ∧ H' b = some (.lst (bagL c i1 i2 i3)) ∧ D.rt (.ref b) (upd H' b (bagO b c)), bk := D.bk, ct := D.ct } σ H
theorem pss_seal {st : List Stmt} {t : TS} (h : PSs X st t) : PSs X st (tSeal t) := by
  refine ⟨fun pins s σ H D I hw => ?_⟩
  refine thn (h.run pins s σ _ _ I hw) fun f s1 q => ?_
  cases f with
  | next => exact q
  | brk => exact q
  | cont => exact q
  | ret v =>
    obtain ⟨x, σ', H', I2, r, b, c, i1, i2, i3, rfl, hi, e, q⟩ := q
    exact ⟨_, σ', _, bag_shut I2 e hi, r, q⟩
end

/-! ## 9. isinstance against built-in classes; data that repr tells -/
def tyD : PyData → String
  | .none => "NoneType"
  | .bool _ => "bool"
  | .int _ => "int"
  | .str _ => "str"
  | .list _ => "list"
  | .tuple _ => "tuple"
  | .dict _ => "dict"
def isSeqD : PyData → Bool
  | .list _ => true
  | .tuple _ => true
  | _ => false
def isLstD : PyData → Bool
  | .list _ => true
  | _ => false
def isTupD : PyData → Bool
  | .tuple _ => true
  | _ => false
theorem dp_ty {K : PySem.W.Frag} {H : Hp} {x : V} {d : PyData} (h : Dp K H x d) : TyX K H x (.type (tyD d)) := by
  cases h with
  | non => exact .base .non
  | bl b => exact .base (.bl b)
  | int i => exact .base (.int i)
  | str z => exact .base (.str z)
  | lst h _ =>
    rcases h with (h | ⟨o, h⟩) | ⟨o, its, n, hk, hc, _⟩
    · exact .base (.lst h)
    · exact .base (.frz h)
    · exact .kList hk hc
  | tup h _ =>
    rcases h with (h | ⟨o, h⟩) | ⟨o, its, n, hk, hc, _⟩
    · exact .base (.tup h)
    · exact .fTuple h
    · exact .kTuple hk hc
def rIsiU (K : PySem.W.Frag) : List V → Hp → VK → Prop := fun xs H Q => rIsiT K xs H Q ∨ rIsi K xs H Q
theorem call_isiU {X : Cx} : CallR X (.builtin "isinstance") (rIsiU X.K) := by
  intro pins s σ H xs us Q I r h
  rcases h with h | h
  · exact call_isiT pins s σ H xs us Q I r h
  · exact call_isi pins s σ H xs us Q I r h
section
variable {K : PySem.W.Frag} {H : Hp} {Q : VK} {x : V} {d : PyData} {tp : Addr}
theorem isi_seq (nd : ∀ kvs, d ≠ .dict kvs) : PySem.W.kitAny K (.type (tyD d)) [.type "list", .type "tuple"] = some (isSeqD d) := by
  have no : ∀ T : String, kitB T "list" = some false → kitB T "tuple" = some false → PySem.W.kitAny K (.type T) [.type "list", .type "tuple"] = some false := fun T h1 h2 =>
    kitAny_cons (b := false) (kit_ty h1) (fun _ => kitAny_cons (b := false) (kit_ty h2) (fun _ => kitAny_nil) (fun z => by cases z)) (fun z => by cases z)
  cases d with
  | none => exact no "NoneType" (by decide +kernel) (by decide +kernel)
  | bool b => exact no "bool" (by decide +kernel) (by decide +kernel)
  | int b => exact no "int" (by decide +kernel) (by decide +kernel)
  | str b => exact no "str" (by decide +kernel) (by decide +kernel)
  | list b => exact kitAny_cons (b := true) (kit_ty (show kitB "list" "list" = some true by decide +kernel)) (fun z => by cases z) (fun _ => rfl)
  | tuple b => exact kitAny_cons (b := false) (kit_ty (show kitB "tuple" "list" = some false by decide +kernel)) (fun _ => kitAny_cons (b := true) (kit_ty (show kitB "tuple" "tuple" = some true by decide +kernel)) (fun z => by cases z) (fun _ => rfl)) (fun z => by cases z)
  | dict kvs => exact absurd rfl (nd kvs)
theorem isi_lst (nd : ∀ kvs, d ≠ .dict kvs) : PySem.W.kitOne K (.type (tyD d)) (.type "list") = some (isLstD d) := by
  cases d with
  | none => exact kit_ty (show kitB "NoneType" "list" = some false by decide +kernel)
  | bool b => exact kit_ty (show kitB "bool" "list" = some false by decide +kernel)
  | int b => exact kit_ty (show kitB "int" "list" = some false by decide +kernel)
  | str b => exact kit_ty (show kitB "str" "list" = some false by decide +kernel)
  | list b => exact kit_ty (show kitB "list" "list" = some true by decide +kernel)
  | tuple b => exact kit_ty (show kitB "tuple" "list" = some false by decide +kernel)
  | dict kvs => exact absurd rfl (nd kvs)
theorem isi_tup (nd : ∀ kvs, d ≠ .dict kvs) : PySem.W.kitOne K (.type (tyD d)) (.type "tuple") = some (isTupD d) := by
  cases d with
  | none => exact kit_ty (show kitB "NoneType" "tuple" = some false by decide +kernel)
  | bool b => exact kit_ty (show kitB "bool" "tuple" = some false by decide +kernel)
  | int b => exact kit_ty (show kitB "int" "tuple" = some false by decide +kernel)
  | str b => exact kit_ty (show kitB "str" "tuple" = some false by decide +kernel)
  | list b => exact kit_ty (show kitB "list" "tuple" = some false by decide +kernel)
  | tuple b => exact kit_ty (show kitB "tuple" "tuple" = some true by decide +kernel)
  | dict kvs => exact absurd rfl (nd kvs)
theorem dp_nd (h : Dp K H x d) : ∀ kvs, d ≠ .dict kvs := by
  intro kvs e
  subst e
  cases h
theorem k_isiLT (h : Dp K H x d) (ht : H tp = some (.tup [.ty "list", .ty "tuple"])) (q : Q (.bl (isSeqD d)) H) : rIsiU K [x, .ref tp] H Q :=
  .inl ⟨x, tp, _, _, _, _, rfl, ht, .cons (.ty _) (.cons (.ty _) .nil), dp_ty h, isi_seq (dp_nd h), q⟩
theorem k_isiL (h : Dp K H x d) (q : Q (.bl (isLstD d)) H) : rIsiU K [x, .ty "list"] H Q := .inr ⟨x, _, _, _, _, rfl, .ty _, dp_ty h, isi_lst (dp_nd h), q⟩
theorem k_isiTu (h : Dp K H x d) (q : Q (.bl (isTupD d)) H) : rIsiU K [x, .ty "tuple"] H Q := .inr ⟨x, _, _, _, _, rfl, .ty _, dp_ty h, isi_tup (dp_nd h), q⟩
end
/-- data nested less than so deep, all of whose parts repr tells -/
def Fit : Nat → PyData → Prop
  | 0, _ => False
  | j + 1, d => match d with
    | .none => True
    | .bool _ => True
    | .int i => i.natAbs.log2 < 1920
    | .str x => (reprText x).length ≤ sizeLine
    | .list ds => ds.length ≤ 50000 ∧ ∀ e ∈ ds, Fit j e
    | .tuple ds => ds.length ≤ 50000 ∧ ∀ e ∈ ds, Fit j e
    | .dict _ => False
theorem dpall_len {K : PySem.W.Frag} {H : Hp} : ∀ {xs : List V} {ds : List PyData}, DpAll K H xs ds → xs.length = ds.length
  | _, _, .nil => rfl
  | _, _, .cons _ r => by rw [List.length_cons, List.length_cons, dpall_len r]
theorem dpall_get {K : PySem.W.Frag} {H : Hp} : ∀ {xs : List V} {ds : List PyData} {i : Nat} {x : V}, DpAll K H xs ds → xs[i]? = some x → ∃ d, ds[i]? = some d ∧ Dp K H x d
  | _, _, _, _, .nil, h => by simp at h
  | _, _, 0, x, .cons h r, e => by
    simp at e
    subst e
    exact ⟨_, rfl, h⟩
  | _, _, i + 1, x, .cons h r, e => by
    obtain ⟨d, h1, h2⟩ := dpall_get (i := i) (x := x) r (by simpa using e)
    exact ⟨d, by simpa using h1, h2⟩
/-- a scalar's text -/
theorem repr_of_dp {K : PySem.W.Frag} {H : Hp} {x : V} {d : PyData} {j : Nat} (h : Dp K H x d) (f : Fit (j + 1) d) (hs : isSeqD d = false) : ∃ z, ReprV x z := by
  cases h with
  | non => exact ⟨_, .non⟩
  | bl b => exact ⟨_, .bl b⟩
  | int i => exact ⟨_, .int i f⟩
  | str z => exact ⟨_, .str z f⟩
  | lst _ _ => cases hs
  | tup _ _ => cases hs
theorem dp_scal {K : PySem.W.Frag} {H : Hp} {x y : V} {d : PyData} (h1 : Dp K H x d) (h2 : Dp K H y d) (hs : isSeqD d = false) : x = y := by
  cases h1 <;> cases h2 <;> first | rfl | cases hs

/-! ## 10. The rules with the written part as a letter of its own (a comprehension's block has its own context) -/
section
variable {X : Cx} (K : PySem.W.Frag)
theorem op_addK (hK : X.K = K := by rfl) : OpR X (binaryOp .Add) (rAddU K) := by subst hK; exact op_addU
theorem op_eqK (hu : X.A.units + 64 < cLine) (hK : X.K = K := by rfl) : OpR X (compareOp .Eq) (rEqU K) := by subst hK; exact op_eqU hu
theorem op_neK (hu : X.A.units + 64 < cLine) (hK : X.K = K := by rfl) : OpR X (compareOp .NotEq) (rNeU K) := by subst hK; exact op_neU hu
theorem op_niK (hK : X.K = K := by rfl) : OpR X (compareOp .NotIn) (rIn K true) := by subst hK; exact op_notIn_seq
theorem sl_k (hK : X.K = K := by rfl) : SlR X (rSlU K) := by subst hK; exact sl_u
theorem ix_k (hK : X.K = K := by rfl) : IxR X (rIx K) := by subst hK; exact ix_seq
theorem call_lenK (hK : X.K = K := by rfl) : CallR X (.builtin "len") (rLenU K) := by subst hK; exact call_lenU
theorem call_listK (hK : X.K = K := by rfl) : CallR X (.type "list") (rListU K) := by subst hK; exact call_listU
theorem call_tupK (hK : X.K = K := by rfl) : CallR X (.type "tuple") (rTupU K) := by subst hK; exact call_tupU
theorem call_isiK (hK : X.K = K := by rfl) : CallR X (.builtin "isinstance") (rIsiU K) := by subst hK; exact call_isiU
theorem cr_allK (hc : X.calm = true := by rfl) (hK : X.K = K := by rfl) : CallR X (.builtin "all") (rAll K) := by subst hK; exact cr_all hc
theorem cr_sumK (hc : X.calm = true := by rfl) (hK : X.K = K := by rfl) : CallR X (.builtin "sum") (rSum K) := by subst hK; exact cr_sum hc
theorem cr_sortedSK (hK : X.K = K := by rfl) : CallR X (.builtin "sorted") (rSortedS K) := by subst hK; exact cr_sortedS
theorem pi_listK {tg l : Expr} {tl : TE} (hl : PE X l tl) (hK : X.K = K := by rfl) : PI X tg l (iList K tl) := by subst hK; exact pi_list hl
theorem pi_tupK {tg l : Expr} {tl : TE} (hl : PE X l tl) (hK : X.K = K := by rfl) : PI X tg l (iTup K tl) := by subst hK; exact pi_tup hl
theorem pg_tupK (n : Nat) {es : List Expr} {k : Nat} {t : TGs} {pos : Pos} (hc : X.calm = true) (h : PGs X es t) (hK : X.K = K := by rfl) (hn : (assignEach es X.env).length = n := by rfl) (hst : (assignEach es X.env).findIdx? (·.1) = none := by rfl) : PG X (.Tuple es k pos) (gTup K n t) := by subst hK; exact pg_tup hc h hn hst
theorem pi_enumK {e : Expr} {ta : TA} {p pos tpos : Pos} {elts : List Expr} {kk : Nat} (hg : Gl X "enumerate") (hm : X.mg "enumerate" = none) (ha : PA X [e] ta) (hK : X.K = K := by rfl) (hs : starEach [e] X.env = [(false, eval e X.env)] := by rfl) : PI X (.Tuple elts kk tpos) (.Call (.Name "enumerate" p) [e] [] pos) (iEnum K ta) := by subst hK; exact pi_enum hg hm ha hs
theorem pi_zipK {e e2 : Expr} {ta : TA} {p pos tpos : Pos} {elts : List Expr} {kk : Nat} (hg : Gl X "zip") (hm : X.mg "zip" = none) (ha : PA X [e, e2] ta) (hK : X.K = K := by rfl)
    (hs : starEach [e, e2] X.env = (false, eval e X.env) :: starEach [e2] X.env := by rfl) (hpl : (backTo pos (starEach [e2] X.env)).any (·.1) = false := by rfl) : PI X (.Tuple elts kk tpos) (.Call (.Name "zip" p) [e, e2] [] pos) (RZ.iZipA K ta) := by subst hK; exact RZ.pi_zipA hg hm ha hs hpl
def rJoin (K : PySem.W.Frag) : V → List V → Hp → VK → Prop := fun x xs H Q => ∃ a p, ∃ ys : List Str, x = .str a ∧ xs = [.ref p] ∧ (SqL K H p (ys.map V.str) ∨ SqT K H p (ys.map V.str)) ∧ (ys.map (·.length)).sum + ys.length * a.length ≤ 16777216 ∧ Q (.str (Txt.join a ys)) H
theorem pe_joinK {o e : Expr} {to te : TE} {apos pos : Pos} (ho : PE X o to) (he : PE X e te) (hK : X.K = K := by rfl) (hs : starEach [e] X.env = [(false, eval e X.env)] := by rfl) (hbase : attributeBase o "join" X.env (eval o X.env) = eval o X.env := by rfl) (hline : (apos.endLine == pos.line) = true := by rfl) :
    PE X (.Call (.Attribute o "join" apos) [e] [] pos) (tM1 (rJoin K) to te) := by subst hK; exact pe_join ho he hs hbase hline
theorem pe_bmK {T id : String} {name : Str} {r : V → List V → Hp → VK → Prop} {o e : Expr} {es : List Expr} {to : TE} {t : TA} {apos cpos : Pos} (pa : PlainAttrs T) (slot : Slot T name id) (hty : typeOf (.builtin id) = pure (.type "method_descriptor")) (hm : MtR X id r) (ho : PE X o to) (ha : PA X (e :: es) t) (hK : X.K = K := by rfl)
    (hbase : attributeBase o name X.env (eval o X.env) = eval o X.env := by rfl)
    (hfew : ((backTo cpos (starEach (e :: es) X.env)).all (fun x => !x.1) && (backToKw cpos (keywordEach [] X.env)).all (fun x => x.1.isSome)
      && decide ((e :: es).length + ([] : List Keyword).length + (if ([] : List Keyword).isEmpty then 0 else 1) < 30)) = true := by rfl)
    (hline : (apos.endLine == cpos.line) = true := by rfl) (hs : starEach (e :: es) X.env = (false, eval e X.env) :: starEach es X.env := by rfl) (hplain : (backTo cpos (starEach es X.env)).any (·.1) = false := by rfl) :
    PE X (.Call (.Attribute o name apos) (e :: es) [] cpos) (tBM K T r to t) := by subst hK; exact pe_bm pa slot hty hm ho ha hbase hfew hline hs hplain
end
section
variable {X : Cx}
theorem pe_gs {x z : Str} {pos : Pos} (h : ∃ t, X.mg x = some (.str z t)) (hg : Gl X x := by rfl) (hd : (x == ("__debug__" : Str)) = false := by decide) : PE X (.Name x pos) (tC (.str z)) := by
  obtain ⟨t, h⟩ := h
  exact pe_glob hg h ⟨t, rfl⟩ hd
theorem pe_gi {x : Str} {i : Int} {pos : Pos} (h : ∃ t, X.mg x = some (.int i t)) (hg : Gl X x := by rfl) (hd : (x == ("__debug__" : Str)) = false := by decide) : PE X (.Name x pos) (tC (.int i)) := by
  obtain ⟨t, h⟩ := h
  exact pe_glob hg h ⟨t, rfl⟩ hd
theorem pe_gr {x : Str} {a : Addr} {pos : Pos} (h : X.mg x = some (.ref a)) (hg : Gl X x := by rfl) (hd : (x == ("__debug__" : Str)) = false := by decide) : PE X (.Name x pos) (tC (.ref a)) := pe_glob hg h rfl hd
end
section
variable {K : PySem.W.Frag} {H : Hp} {Q : VK} {a : Addr} {z z2 : Str}
theorem k_join {ys : List Str} (h : SqL K H a (ys.map V.str)) (hz : (ys.map (·.length)).sum + ys.length * z.length ≤ 100000) (q : Q (.str (Txt.join z ys)) H) : rJoin K (.str z) [.ref a] H Q := ⟨z, a, ys, rfl, rfl, .inl h, Nat.le_trans hz (by decide), q⟩
theorem k_sortedS {xs : List Str} (h : SqL K H a (xs.map V.str)) (hz : xs.length < 64) (q : ∀ ys p H2, ys.Perm xs → sortedS ys = true → H p = none → Same H H2 → H2 p = some (.lst (ys.map V.str)) → Q (.ref p) H2) : rSortedS K [.ref a] H Q := ⟨a, xs, rfl, h, hz, fun ys p h1 h2 h3 => q ys p _ h1 h2 h3 (sm_new h3) upd_same⟩
theorem k_inS {c : Nat} (q : Q (.bl (decide (c ∈ z.cps.toList))) H) : rInS (.str ⟨#[c]⟩) (.str z) H Q := ⟨c, z, rfl, rfl, q⟩
end

theorem at_n {α : Type} {xs : List α} {z : Int} {j : Nat} {v : α} (e : z = (j : Int)) (h : xs[j]? = some v) : atI xs z = some v := by
  have hj : j < xs.length := (List.getElem?_eq_some_iff.mp h).1
  subst e
  unfold atI ixN
  rw [if_pos (by omega), if_pos (by omega), Option.bind_some, Int.toNat_natCast]
  exact h
theorem map_get {α β : Type} {g : α → β} {xs : List α} {i : Nat} {y : β} (h : (xs.map g)[i]? = some y) : ∃ x, xs[i]? = some x ∧ y = g x := by
  rw [List.getElem?_map] at h
  cases e : xs[i]? with
  | none => rw [e] at h; cases h
  | some x => rw [e] at h; exact ⟨x, rfl, (Option.some.inj h).symm⟩
theorem take_more {α : Type} {l : List α} {i : Nat} {x : α} (h : l[i]? = some x) : l.take (i + 1) = l.take i ++ [x] := by
  rw [List.take_add_one, h]
  rfl
/-! ## 11. Texts by their codes -/
/-- the text of one sign -/
def sg (c : Nat) : Str := ⟨#[c]⟩
/-- the text of such codes -/
def tx (cs : List Nat) : Str := ⟨cs.toArray⟩
theorem tl_tx (cs : List Nat) : TL.tl (tx cs) = cs := rfl
theorem len_tx (cs : List Nat) : (tx cs).length = cs.length := TL.len_tl (tx cs)
theorem tx_inj {a b : List Nat} (h : tx a = tx b) : a = b := by
  rw [← tl_tx a, ← tl_tx b, h]
theorem joinL_nil : ∀ ps : List (List Nat), TL.joinL [] ps = ps.flatten
  | [] => rfl
  | [p] => by simp [TL.joinL]
  | p :: q :: r => by
    show p ++ ([] ++ TL.joinL [] (q :: r)) = _
    rw [joinL_nil (q :: r)]
    rfl
/-- single signs put together -/
theorem join_sgs (cs : List Nat) : Txt.join (Str.ofString "") (cs.map sg) = tx cs := by
  refine TL.ext_tl ?_
  rw [TL.join_eq, TL.tl_join, tl_tx, show TL.tl (Str.ofString "") = [] from rfl, joinL_nil, List.map_map]
  have e : (TL.tl ∘ sg) = fun c => [c] := by
    funext c
    rfl
  rw [e]
  induction cs with
  | nil => rfl
  | cons c r ih =>
    show [c] ++ (r.map fun c => [c]).flatten = c :: r
    rw [ih]
    rfl
theorem ltCps_1 (a b : Nat) : PySem.Spec.ltCps [a] [b] = decide (a < b) := by
  show (decide (a < b) || (a == b && false)) = _
  rw [Bool.and_false, Bool.or_false]
theorem risingS_sgs : ∀ (c : Nat) (cs : List Nat), risingS (sg c) (cs.map sg) = true → (c :: cs).Pairwise (· ≤ ·)
  | c, [], _ => by simp
  | c, d :: r, h => by
    have h1 : (!PySem.Spec.ltCps [d] [c] && risingS (sg d) (r.map sg)) = true := h
    obtain ⟨h2, h3⟩ := ba h1
    rw [ltCps_1] at h2
    have h4 : c ≤ d := by simpa using h2
    have ih := risingS_sgs d r h3
    have ih' := List.pairwise_cons.mp ih
    refine List.pairwise_cons.mpr ⟨fun x hx => ?_, ih⟩
    rcases List.mem_cons.mp hx with e | hx
    · rw [e]
      exact h4
    · exact Nat.le_trans h4 (ih'.1 x hx)
theorem sortedS_sgs {cs : List Nat} (h : sortedS (cs.map sg) = true) : cs.Pairwise (· ≤ ·) := by
  cases cs with
  | nil => simp
  | cons c r => exact risingS_sgs c r h
theorem lt_of_le_nodup : ∀ {cs : List Nat}, cs.Pairwise (· ≤ ·) → cs.Nodup → cs.Pairwise (· < ·)
  | [], _, _ => .nil
  | c :: r, h, n => by
    have h' := List.pairwise_cons.mp h
    have n' := List.nodup_cons.mp n
    refine List.pairwise_cons.mpr ⟨fun x hx => ?_, lt_of_le_nodup h'.2 n'.2⟩
    have := h'.1 x hx
    have ne : c ≠ x := fun e => n'.1 (by rw [e]; exact hx)
    omega
/-- a permutation of single signs is one of the codes -/
theorem perm_sgs {ys : List Str} {cs : List Nat} (h : ys.Perm (cs.map sg)) : ∃ ds : List Nat, ys = ds.map sg ∧ ds.Perm cs := by
  refine ⟨ys.map fun y => (TL.tl y).headD 0, ?_, ?_⟩
  · rw [List.map_map]
    have e : ∀ y ∈ ys, (sg ∘ fun y => (TL.tl y).headD 0) y = y := by
      intro y hy
      obtain ⟨c, _, e⟩ := List.mem_map.mp (h.mem_iff.mp hy)
      rw [← e]
      rfl
    rw [List.map_congr_left e, List.map_id']
  · have h2 := h.map fun y => (TL.tl y).headD 0
    rw [List.map_map] at h2
    have e : ((fun y => (TL.tl y).headD 0) ∘ sg) = id := by
      funext c
      rfl
    rw [e, List.map_id] at h2
    exact h2

/-! ## 12. Exceptions of the text with one field besides their word -/
def nMk (C : Addr) (sp : Sp) (dvs : List V) (vs : List V) (H1 : Hp) (Q : XK) : Prop := vs.length ≤ 1000 ∧ ∀ a, H1 a = none → sp (.ref a :: (vs ++ dvs)) (upd H1 a (exo a C none))
  (fun v H2 => v = .non ∧ ∃ (d : Addr) (fs : List (Str × V)), H2 a = some (exo a C (some d)) ∧ H2 d = some (exd d fs) ∧ H1 d = none ∧ Q (.ref C) (some d) (upd (del H2 a) d (.xd fs))) (fun _ _ _ => False)
theorem k_mk {C : Addr} {sp : Sp} {dvs : List V} {ta : TA} {σ : L2.St} {H : Hp} {Q : XK} (h : ta σ H fun vs H1 => nMk C sp dvs vs H1 Q) : tMkO C sp dvs ta σ H Q := h
/-! ## 13. Plain texts, good data -/
/-- all signs below 128 -/
def Pl (z : Str) : Prop := ∀ c ∈ TL.tl z, c < 128
theorem pl_ok {z : Str} (h : Pl z) : PyData.strOk z = true := by
  show z.cps.all (· < 0x110000) = true
  rw [Array.all_eq_true']
  intro c hc
  have := h c (by simpa using hc)
  exact decide_eq_true (Nat.lt_of_lt_of_le this (by decide))
theorem pl_repr {z : Str} (h : Pl z) (hz : z.length ≤ 100000) : (reprText z).length ≤ sizeLine := by
  have h1 := PySem.StrLaws.reprText_len z fun c hc => Nat.lt_of_lt_of_le (h c hc) (by decide)
  exact Nat.le_trans h1 (Nat.le_trans (show 10 * z.length + 2 ≤ 1000002 by omega) (by decide))
/-- nested less than j deep; texts plain and short, no dicts -/
def Good : Nat → PyData → Prop
  | 0, _ => False
  | j + 1, d => match d with
    | .none => True
    | .bool _ => True
    | .int i => i.natAbs.log2 < 1920
    | .str x => Pl x ∧ x.length ≤ 100000
    | .list ds => ds.length ≤ 50000 ∧ ∀ e ∈ ds, Good j e
    | .tuple ds => ds.length ≤ 50000 ∧ ∀ e ∈ ds, Good j e
    | .dict _ => False
theorem Good.fit : ∀ {j : Nat} {d : PyData}, Good j d → Fit j d
  | 0, _, h => h.elim
  | j + 1, .none, _ => trivial
  | j + 1, .bool _, _ => trivial
  | j + 1, .int _, h => h
  | j + 1, .str _, h => pl_repr h.1 h.2
  | j + 1, .list _, h => ⟨h.1, fun e he => Good.fit (h.2 e he)⟩
  | j + 1, .tuple _, h => ⟨h.1, fun e he => Good.fit (h.2 e he)⟩
  | j + 1, .dict _, h => h.elim
theorem lay_all : ∀ {ds : List PyData}, (∀ e ∈ ds, PyData.canLay0 e = true) → PyData.canLayAll0 ds = true
  | [], _ => by simp [PyData.canLayAll0]
  | d :: r, h => by
    simp only [PyData.canLayAll0, Bool.and_eq_true]
    exact ⟨h d (List.mem_cons_self ..), lay_all fun e he => h e (List.mem_cons_of_mem _ he)⟩
theorem depth_all {j : Nat} : ∀ {ds : List PyData}, (∀ e ∈ ds, PyData.depth e ≤ j) → PyData.depthAll ds ≤ j
  | [], _ => by simp [PyData.depthAll]
  | d :: r, h => by
    simp only [PyData.depthAll]
    exact Nat.max_le.mpr ⟨h d (List.mem_cons_self ..), depth_all fun e he => h e (List.mem_cons_of_mem _ he)⟩
theorem Good.lay : ∀ {j : Nat} {d : PyData}, Good j d → PyData.canLay0 d = true
  | 0, _, h => h.elim
  | j + 1, .none, _ => by simp [PyData.canLay0]
  | j + 1, .bool _, _ => by simp [PyData.canLay0]
  | j + 1, .int _, _ => by simp [PyData.canLay0]
  | j + 1, .str _, h => by simp only [PyData.canLay0]; exact pl_ok h.1
  | j + 1, .list _, h => by simp only [PyData.canLay0]; exact lay_all fun e he => Good.lay (h.2 e he)
  | j + 1, .tuple _, h => by simp only [PyData.canLay0]; exact lay_all fun e he => Good.lay (h.2 e he)
  | j + 1, .dict _, h => h.elim
theorem Good.dep : ∀ {j : Nat} {d : PyData}, Good j d → PyData.depth d ≤ j
  | 0, _, h => h.elim
  | j + 1, .none, _ => by simp [PyData.depth]
  | j + 1, .bool _, _ => by simp [PyData.depth]
  | j + 1, .int _, _ => by simp [PyData.depth]
  | j + 1, .str _, h => by simp [PyData.depth]
  | j + 1, .list _, h => by simp only [PyData.depth]; exact Nat.succ_le_succ (depth_all fun e he => Good.dep (h.2 e he))
  | j + 1, .tuple _, h => by simp only [PyData.depth]; exact Nat.succ_le_succ (depth_all fun e he => Good.dep (h.2 e he))
  | j + 1, .dict _, h => h.elim
theorem Good.shaped {j : Nat} {d : PyData} (h : Good j d) (hj : j ≤ 64) : SeqAt.shaped d = true := Bool.and_eq_true_iff.mpr ⟨h.lay, decide_eq_true (Nat.le_trans h.dep hj)⟩
/-! lists of texts -/
def dStrs (ws : List Str) : PyData := .list (ws.map .str)
theorem eqvAll_strs : ∀ ws vs : List Str, PyData.eqvAll (ws.map .str) (vs.map .str) = decide (ws = vs)
  | [], [] => by simp [PyData.eqvAll]
  | [], v :: vs => by simp [PyData.eqvAll]
  | w :: ws, [] => by simp [PyData.eqvAll]
  | w :: ws, v :: vs => by
    rw [List.map_cons, List.map_cons]
    simp only [PyData.eqvAll, PyData.eqv, eqvAll_strs ws vs]
    by_cases h1 : w = v
    · subst h1
      simp
    · simp [h1]
theorem eqv_strs (ws vs : List Str) : PyData.eqv (dStrs ws) (dStrs vs) = decide (ws = vs) := by
  unfold dStrs
  simp only [PyData.eqv]
  exact eqvAll_strs ws vs
/-! split: the words' signs stand in the text -/
/-! ## 14. A field of the exception that a suite holds, whatever its class -/
def tXfU (K : PySem.W.Frag) (a : Addr) (cls : Value) (d : Option Addr) (n : Str) (i : Nat) : TE := fun σ H Q => ∃ (C dd : Addr) (fs : List (Str × V)) (v : V), σ[i]? = some (some (.ref a)) ∧ cls = .ref C ∧ XfC K C ∧ PySem.W.findIn K (.ref C) n = some none ∧ d = some dd ∧ H dd = some (.xd fs) ∧ fs.lookup n = some v ∧ Q v H
theorem pe_xfU (K : PySem.W.Frag) {X : Cx} {a : Addr} {oe : Obj} {cls : Value} {d : Option Addr} {pn : List (Addr × Obj)} {x n : Str} {p pos : Pos} {i : Nat} (hz : Zc cls d oe) (hf : ∃ vs, oe.data = .fields vs) (he : PE (X.suite a ((a, oe) :: pn)) (.Name x p) (tVar i)) (hK : X.K = K := by rfl)
    (hb : attributeBase (.Name x p) n X.env (eval (.Name x p) X.env) = eval (.Name x p) X.env := by rfl) : PE (X.suite a ((a, oe) :: pn)) (.Attribute (.Name x p) n pos) (tXfU K a cls d n i) := by
  subst hK
  constructor
  intro pins s σ H Q I h
  obtain ⟨C, dd, fs, v, hs, ec, T, hno, ed, ea, l, q⟩ := h
  exact (pe_xf (C := C) T hno hz hf he hb).run pins s σ H Q I ⟨.ref a, hs, rfl, ec, dd, fs, v, ed, ea, l, q⟩

/-! ## 15. A value, a word between two statements -/
section
variable {σ : L2.St} {H : Hp} {Q : VK} {te : TE} {D : Ends} {t u : TS}
/-- whatever way it goes, the value is v -/
theorem k_val (v : V) (h1 : ∀ Q' : VK, (∀ H', Same H H' → Q' v H') → te σ H Q') (h2 : ∀ H', Same H H' → Q v H') : te σ H Q := h1 Q h2
theorem k_cut (Mid : L2.St → Hp → Prop) (h1 : t { D with nx := Mid } σ H) (h2 : ∀ σ' H', Mid σ' H' → u D σ' H') : Evl.tCut t u D σ H := ⟨Mid, h1, h2⟩
end
theorem tl_cutS (z : Str) (lo hi : Option Int) : TL.tl (cutS z lo hi) = ((TL.tl z).drop (HT.sIx z.length 0 lo)).take (HT.sIx z.length z.length hi - HT.sIx z.length 0 lo) := rfl
theorem pl_B {z : Str} (h : (TL.tl z).all (fun c => decide (c < 128)) = true) : Pl z := fun c hc => of_decide_eq_true (List.all_eq_true.mp h c hc)
theorem log_nat {k : Nat} (h : k ≤ 2 ^ 63) : ((k : Nat) : Int).natAbs.log2 < 1920 := by
  rw [Int.natAbs_natCast]
  by_cases h0 : k = 0
  · rw [h0]
    decide
  · exact (Nat.log2_lt h0).mpr (Nat.lt_of_le_of_lt h (Nat.pow_lt_pow_right (by decide) (by decide)))
end Gk
set_option Elab.async false
set_option autoImplicit false
set_option linter.all false
set_option maxRecDepth 100000
set_option maxHeartbeats 4000000
/-! # Sets of tuples whose items are ints and texts: adding, gathering, sorting; the set comprehension over any kind of set -/
namespace Gk
open PySem PySem.Spec PyProof.Rows L2
abbrev mh (P : Program) (w : World) (k : List Key) : Int := tupleKeyHash (mixKind P w) k
abbrev IsM (P : Program) (w : World) (h : Heap) (k : List Key) (b : Addr) : Prop := IsTupleKey (mixKind P w) h k b
/-- a probe's c-th step on the way of the hash g -/
abbrev stp (m : Nat) (g : Int) (c : Nat) : SetTable.Probe := nth m (runAt m (SetTable.bits g % (m + 1)) (SetTable.bits g)) c
section
variable {P : Program} {w : World} {A : Around} {E : Value → Shared → Prop} {s : Shared}
/-- of no class statement; by its value it is known how it is hashed -/
def Tame (v : Value) : Prop := ∀ n, ofAClassStatement n v = pure false ∧ ∃ b, hashByValue n v = pure b
theorem tames {k : List Key} {vs : List Value} (h : ItemsAre (mixKind P w) k vs) : ∀ v ∈ vs, Tame v := by
  induction h with
  | nil => exact fun v hv => nomatch hv
  | cons q _ ih =>
    intro v hv
    rcases List.mem_cons.mp hv with rfl | hv
    · rcases keyIs_shape q with ⟨i, u, rfl, rfl⟩ | ⟨z, u, rfl, rfl⟩ <;> exact fun n => by cases n <;> exact ⟨rfl, _, rfl⟩
    · exact ih v hv
theorem m_cls {k : List Key} {b : Addr} {Q : Bool → Shared → Prop} (kb : IsM P w s.heap k b) (q : Q false s) : wpAny (model P w) A (ofAClassStatement 8 (.ref b)) Q E s := by
  have ty := kb.typeIs
  obtain ⟨o, its, n, ho, _, hd, hi⟩ := kb
  unfold ofAClassStatement
  refine wpAny_bind (wpAny_typeOf ty ?_)
  dsimp only
  simp only [show (("tuple" : String) == "tuple") = true by decide, if_true, Bool.not_true, Bool.false_eq_true, if_false]
  show wpAny _ _ (seqItems? (.ref b) >>= _) _ _ s
  refine wpAny_bind (wpAny_seqItems ho hd (wpAny_bind ?_))
  show wpAny _ _ (forIn its _ _) _ _ s
  rw [← Array.forIn_toList]
  refine wpAny_forIn_list _ (fun l r z => (r.1 = none ∧ z = s) ∧ ∀ v ∈ l, Tame v) _ (fun v l r z hz => ?_) (fun r z hz => ?_) _ _ ⟨⟨rfl, rfl⟩, tames hi⟩
  · obtain ⟨⟨h1, rfl⟩, h2⟩ := hz
    rw [(h2 v List.mem_cons_self _).1]
    refine wpAny_bind (wpAny_pure ?_)
    simp only [Bool.false_eq_true, if_false]
    exact wpAny_pure ⟨⟨rfl, rfl⟩, fun u hu => h2 u (List.mem_cons_of_mem _ hu)⟩
  · obtain ⟨r1, r2⟩ := r
    obtain ⟨⟨h1, rfl⟩, _⟩ := hz
    cases h1
    exact wpAny_pure q
theorem m_hsh {k : List Key} {b : Addr} {Q : Bool → Shared → Prop} (kb : IsM P w s.heap k b) (q : ∀ h, Q h s) : wpAny (model P w) A (hashByValue 8 (.ref b)) Q E s := by
  have ty := kb.typeIs
  obtain ⟨o, its, n, ho, _, hd, hi⟩ := kb
  unfold hashByValue
  refine wpAny_bind (wpAny_specialOf ty F.slot_tuple_hash.lookup ?_)
  show wpAny _ _ (seqItems? (.ref b) >>= _) _ _ s
  refine wpAny_bind (wpAny_seqItems ho hd (wpAny_bind ?_))
  show wpAny _ _ (forIn its _ _) _ _ s
  rw [← Array.forIn_toList]
  refine wpAny_forIn_list _ (fun l r z => (r.1 = none ∧ z = s) ∧ ∀ v ∈ l, Tame v) _ (fun v l r z hz => ?_) (fun r z hz => ?_) _ _ ⟨⟨rfl, rfl⟩, tames hi⟩
  · obtain ⟨⟨h1, rfl⟩, h2⟩ := hz
    obtain ⟨h, eh⟩ := (h2 v List.mem_cons_self 7).2
    rw [eh]
    refine wpAny_bind (wpAny_pure ?_)
    cases h with
    | true =>
      simp only [Bool.not_true, Bool.false_eq_true, if_false]
      exact wpAny_pure ⟨⟨rfl, rfl⟩, fun u hu => h2 u (List.mem_cons_of_mem _ hu)⟩
    | false =>
      simp only [Bool.not_false, if_true]
      exact wpAny_pure (wpAny_pure (q false))
  · obtain ⟨r1, r2⟩ := r
    obtain ⟨⟨h1, rfl⟩, _⟩ := hz
    cases h1
    exact wpAny_pure (q true)
/-- a value that is such a tuple -/
def MemM (P : Program) (w : World) (h : Heap) (y : Value) : Prop := ∃ k c, y = Value.ref c ∧ IsM P w h k c
theorem m_seen {b : Addr} {Q : Bool → Shared → Prop} (kb : MemM P w s.heap (.ref b)) {ys : List Value} (hy : ∀ y ∈ ys, MemM P w s.heap y) (q : Q false s) :
    wpAny (model P w) A (searchCouldBeSeen (.ref b) ys) Q E s := by
  obtain ⟨k, b', eb, kb⟩ := kb
  cases eb
  unfold searchCouldBeSeen
  refine wpAny_bind (wpAny_forIn_list _ (fun l r z => (r.1 = none ∧ z = s) ∧ ∀ y ∈ l, MemM P w z.heap y) _ (fun v l r z hz => ?_) (fun r z hz => ?_) _ _ ⟨⟨rfl, rfl⟩, hy⟩)
  · obtain ⟨⟨h1, rfl⟩, h2⟩ := hz
    obtain ⟨k', c, rfl, kc⟩ := h2 v List.mem_cons_self
    have nxt : ∀ y ∈ l, MemM P w z.heap y := fun u hu => h2 u (List.mem_cons_of_mem _ hu)
    dsimp only
    by_cases hv : (b == c || (carriedByValue (.ref b) && carriedByValue (.ref c))) = true
    · exact wp_if_pos hv (wpAny_pure ⟨⟨rfl, rfl⟩, nxt⟩)
    · refine wp_if_neg hv (wpAny_bind (wpAny_eqIsQuiet_tuple kb ?_))
      simp only [Bool.not_true, Bool.false_eq_true, if_false]
      refine wpAny_bind (wpAny_eqIsQuiet_tuple kc ?_)
      simp only [Bool.not_true, Bool.false_eq_true, if_false]
      refine wpAny_bind (m_cls kb ?_)
      simp only [Bool.false_eq_true, if_false]
      refine wpAny_bind (m_cls kc ?_)
      simp only [Bool.false_eq_true, if_false]
      exact wpAny_pure ⟨⟨rfl, rfl⟩, nxt⟩
  · obtain ⟨r1, r2⟩ := r
    obtain ⟨⟨h1, rfl⟩, _⟩ := hz
    cases h1
    exact wpAny_pure q
/-! ### the set -/
abbrev RwM : Type := Addr × List Key
def rwM (P : Program) (w : World) (p : RwM) : Int × Value := (mh P w p.2, Value.ref p.1)
/-- all of the set but its members' own objects -/
structure SetM0 (P : Program) (w : World) (h : Heap) (a : Addr) (L : List RwM) (es : Array (Int × Value)) (ep : Nat) (t : SetTable) : Prop where
  ob : ∃ o, h.get? a = some o ∧ o.ExactSet ∧ o.data = .set es ep t
  rw_ : es.toList = L.map (rwM P w)
  tab : TabOk t (L.map fun p => mh P w p.2)
  one : (L.map (·.2)).Nodup
  ld : w.params.followText "set-order" = true ∨ t.led = true
  big : L.length * 5 < t.mask * 3
  few : L.length < 64
def AllM (P : Program) (w : World) (h : Heap) (L : List RwM) : Prop := ∀ p ∈ L, IsM P w h p.2 p.1
variable {a : Addr} {L : List RwM} {es : Array (Int × Value)} {ep : Nat} {t : SetTable}
theorem size_rw (h : es.toList = L.map (rwM P w)) : es.size = L.length := by
  rw [← Array.length_toList, h, List.length_map]
theorem fit_of {n : Nat} (h1 : t.place.size = n) (h2 : t.dummies = #[]) (h3 : n ≤ t.mask) : t.fits n = true := by
  unfold SetTable.fits SetTable.fill
  rw [h2, Bool.and_eq_true, beq_iff_eq, decide_eq_true_eq]
  exact ⟨h1, by show t.place.size + 0 ≤ t.mask; omega⟩
theorem SetM0.sz (R : SetM0 P w s.heap a L es ep t) : t.place.size = es.size := by
  rw [R.tab.sz, List.length_map, size_rw R.rw_]
theorem SetM0.fits (R : SetM0 P w s.heap a L es ep t) : t.fits es.size = true := by
  have h3 := size_rw R.rw_
  have h4 := R.big
  exact fit_of R.sz R.tab.dm (by omega)
theorem get_rw (h : es.toList = L.map (rwM P w)) (i : Nat) : es[i]? = (L[i]?).map (rwM P w) := by
  rw [← Array.getElem?_toList, h, List.getElem?_map]
theorem nth_dm (m : Nat) : ∀ (n : Nat) (p : SetTable.Probe), p.dummy = none → (nth m p n).dummy = none
  | 0, _, h => h
  | n + 1, p, h => nth_dm m n (adv m p) (by unfold adv; split <;> exact h)
theorem m_from (R : SetM0 P w s.heap a L es ep t) (M : AllM P w s.heap L) {x : Addr} {k : List Key} (kx : IsM P w s.heap k x) (hu : A.units < cLine) {g : Int} (eg : g = mh P w k) {N : Nat} (b1 : N < 10 * SetTable.turns t.mask)
    (b2 : way t.mask g N ∉ t.place.toList) (b3 : ∀ c, c < N → way t.mask g c ∈ t.place.toList) {Q : SetFound → Shared → Prop} (qi : k ∈ L.map (·.2) → Q (.there none) s) (qo : k ∉ L.map (·.2) → Q (.free (way t.mask g N) false) s) :
    ∀ (f c : Nat) (st : Option SetTable.Probe), st.getD (t.probeStart g) = stp t.mask g c → c ≤ N → N - c < f → (∀ (i : Nat) p, L[i]? = some p → p.2 = k → ∃ d, c ≤ d ∧ d < N ∧ t.place.toList[i]? = some (way t.mask g d)) →
      wpAny (model P w) A (setSearchFrom a (.ref x) g true f st) Q E s
  | 0, _, _, _, _, hf, _ => absurd hf (Nat.not_lt_zero _)
  | f + 1, c, st, e0, hc, hf, hre => by
    obtain ⟨o, ho, _, hd⟩ := R.ob
    rw [setSearchFrom_succ]
    refine wpAny_bind (wpAny_setState_of ho hd R.fits ?_)
    dsimp only
    refine wp_if_neg (by unfold SetTable.gaveWay; rw [mask_odd R.tab.mok]; decide) ?_
    have sh : ∀ q, nth t.mask (stp t.mask g c) q = stp t.mask g (c + q) := fun q => (nth_add t.mask c _ q).symm
    have sj : ∀ q, (nth t.mask (stp t.mask g c) q).j = way t.mask g (c + q) := fun q => congrArg SetTable.Probe.j (sh q)
    have hA : ∀ (i : Nat) p, L[i]? = some p → (es[i]?.map (·.1)).getD 0 = mh P w p.2 := fun i p hp => by
      rw [get_rw R.rw_, hp]
      rfl
    rcases go_spec t R.tab.ris R.tab.dm (fun i => (es[i]?.map (·.1)).getD 0) g (10 * SetTable.turns t.mask) (N - c) (stp t.mask g c) (nth_dm _ _ _ rfl) (by omega) (fun q hq => by rw [sj]; exact b3 (c + q) (by omega)) (by rw [sj, show c + (N - c) = N by omega]; exact b2) with ⟨q, i, hq, hi, hh, hno, hpr⟩ | ⟨hno, hpr⟩
    · have hp1 : t.probe (fun i => (es[i]?.map (·.1)).getD 0) g (st.getD (t.probeStart g)) = some (.candidate (way t.mask g (c + q)) i (stp t.mask g (c + (q + 1)))) := by
        rw [e0, ← sj, ← sh]
        exact hpr
      rw [hp1]
      dsimp only
      rw [sj] at hi
      have il : i < L.length := by
        have h1 := (List.getElem?_eq_some_iff.mp hi).1
        have h2 := R.tab.sz
        rw [List.length_map] at h2
        rw [Array.length_toList] at h1
        omega
      obtain ⟨p, hp⟩ : ∃ p, L[i]? = some p := ⟨_, List.getElem?_eq_getElem il⟩
      have pm : p ∈ L := List.mem_of_getElem? hp
      have ee : es[i]? = some (mh P w p.2, Value.ref p.1) := by
        rw [get_rw R.rw_, hp]
        rfl
      have more : wpAny (model P w) A (searchRest a (.ref x) g true f es t (way t.mask g (c + q)) i (stp t.mask g (c + (q + 1)))) Q E s := by
        unfold searchRest
        rw [ee]
        dsimp only
        refine wpAny_bind (wpAny_holding (wpAny_eqBool_tuple hu (M p pm) kx (wpAny_bind (wpAny_setState_of ho hd R.fits ?_))))
        dsimp only
        by_cases hk : p.2 = k
        · refine wp_if_pos (by simp [hk]) (wpAny_pure (qi (List.mem_map.mpr ⟨p, pm, hk⟩)))
        · refine wp_if_neg (by simp [hk]) ?_
          have hl : t.slot (way t.mask g (c + q)) = .live i := slot_live R.tab.ris hi
          rw [sameMem]
          dsimp only
          simp only [if_true, hl, ee]
          refine wpAny_bind (wpAny_isSame_ref_self (wpAny_bind (wpAny_pure ?_)))
          simp only [if_true]
          refine wp_if_neg (by simp [hk]) ?_
          refine m_from R M kx hu eg b1 b2 b3 qi qo f (c + (q + 1)) _ rfl (by omega) (by omega) fun j p' h0 hk' => ?_
          obtain ⟨d, a1, a2, a3⟩ := hre j p' h0 hk'
          refine ⟨d, ?_, a2, a3⟩
          have hg : (es[j]?.map (·.1)).getD 0 = g := by rw [hA j p' h0, hk', eg]
          by_cases y : d < c + q
          · exact absurd hg (hno (d - c) j (by omega) (by rw [sj, show c + (d - c) = d by omega]; exact a3))
          · by_cases y2 : d = c + q
            · rw [y2] at a3
              have h5 := slot_live R.tab.ris a3
              rw [hl] at h5
              injection h5 with h5
              rw [← h5, hp] at h0
              cases h0
              exact absurd hk' hk
            · omega
      by_cases ht : t.led = true
      · exact wp_if_neg (by simp [ht]) more
      · refine wp_if_pos (by simp [ht]) (wpAny_bind (m_seen ⟨k, x, rfl, kx⟩ (fun y hy => ?_) (wp_if_neg (by decide) more)))
        obtain ⟨u, hu1, rfl⟩ := List.mem_map.mp hy
        have hu2 : u ∈ es.toList := by
          have : u ∈ es ∧ u.1 = g := by simpa using hu1
          simpa using this.1
        rw [R.rw_] at hu2
        obtain ⟨p2, hp2, rfl⟩ := List.mem_map.mp hu2
        exact ⟨p2.2, p2.1, rfl, M p2 hp2⟩
    · have hp1 : t.probe (fun i => (es[i]?.map (·.1)).getD 0) g (st.getD (t.probeStart g)) = some (.empty (way t.mask g N) none) := by
        have e2 : way t.mask g N = (nth t.mask (stp t.mask g c) (N - c)).j := by rw [sj, show c + (N - c) = N by omega]
        rw [e0, e2]
        exact hpr
      rw [hp1]
      refine wpAny_pure (qo fun hm => ?_)
      obtain ⟨p', h0, hk'⟩ := List.mem_map.mp hm
      obtain ⟨j, hj⟩ := List.mem_iff_getElem?.mp h0
      obtain ⟨d, a1, a2, a3⟩ := hre j p' hj hk'
      exact hno (d - c) j (by omega) (by rw [sj, show c + (d - c) = d by omega]; exact a3) (by show (es[j]?.map (·.1)).getD 0 = g; rw [hA j p' hj, hk', eg])
theorem m_search (R : SetM0 P w s.heap a L es ep t) (M : AllM P w s.heap L) {x : Addr} {k : List Key} (kx : IsM P w s.heap k x) (hu : A.units < cLine) {Q : SetFound → Shared → Prop} (qi : k ∈ L.map (·.2) → Q (.there none) s)
    (qo : ∀ N, k ∉ L.map (·.2) → way t.mask (mh P w k) N ∉ t.place.toList → (∀ c, c < N → way t.mask (mh P w k) c ∈ t.place.toList) → Q (.free (way t.mask (mh P w k) N) false) s) : wpAny (model P w) A (setSearch a (.ref x) (mh P w k) true) Q E s := by
  have hb := R.big
  obtain ⟨N, b1, b2, b3⟩ := R.tab.first (by rw [List.length_map]; omega) (mh P w k)
  have lim : 10 * SetTable.turns t.mask ≤ 1420 := by
    unfold SetTable.turns
    rcases R.tab.mok with e | e | e <;> omega
  refine m_from R M kx hu rfl b1 b2 b3 qi (fun hn => qo N hn b2 b3) 100000 0 none rfl (Nat.zero_le _) (by omega) fun i p hp hk => ?_
  have il : i < t.place.toList.length := by
    have h1 := (List.getElem?_eq_some_iff.mp hp).1
    have h2 := R.tab.sz
    rw [List.length_map] at h2
    rw [Array.length_toList]
    omega
  have hj := List.getElem?_eq_getElem il
  obtain ⟨c, hc, e⟩ := R.tab.before b2 (by rw [List.getElem?_map, hp, ← hk]; rfl) hj
  exact ⟨c, Nat.zero_le _, hc, by rw [hj, e]⟩
theorem range_get (L : List RwM) : (List.range L.length).filterMap (fun i => L[i]?) = L := by
  have h : ∀ n, n ≤ L.length → (List.range n).filterMap (fun i => L[i]?) = L.take n := by
    intro n
    induction n with
    | zero => exact fun _ => rfl
    | succ n ih =>
      intro hn
      have e : L[n]? = some (L[n]'hn) := List.getElem?_eq_getElem hn
      rw [List.range_succ, List.filterMap_append, ih (by omega), List.filterMap_cons_some e, List.take_succ, e]
      rfl
  rw [h _ (Nat.le_refl _), List.take_length]
theorem order_map {order : Array Nat} (hr : es.toList = L.map (rwM P w)) (hp : order.toList.Perm (List.range L.length)) :
    ∃ L2 : List RwM, (order.filterMap (es[·]?)).toList = L2.map (rwM P w) ∧ L2.Perm L ∧ (L2.map fun p => mh P w p.2) = order.toList.map fun i => (es.map (·.1)).getD i 0 := by
  refine ⟨order.toList.filterMap fun i => L[i]?, ?_, ?_, ?_⟩
  · rw [Array.toList_filterMap, List.map_filterMap]
    congr 1
    funext i
    exact get_rw hr i
  · have h := hp.filterMap fun i => L[i]?
    rw [range_get] at h
    exact h
  · have hl : ∀ i ∈ order.toList, i < L.length := fun i hi => List.mem_range.mp (hp.mem_iff.mp hi)
    generalize order.toList = l at hl
    induction l with
    | nil => rfl
    | cons i l ih =>
      have hi := hl i (List.mem_cons_self ..)
      have e : L[i]? = some L[i] := List.getElem?_eq_getElem hi
      have e2 : es[i]? = some (rwM P w L[i]) := by rw [get_rw hr, e]; rfl
      rw [List.filterMap_cons_some e, List.map_cons, List.map_cons, ih fun j hj => hl j (List.mem_cons_of_mem _ hj)]
      congr 1
      simp [Array.getD_eq_getD_getElem?, e2, rwM]
theorem tab_pl {t : SetTable} {hs : List Int} (T : TabOk t hs) (b : Bool) : TabOk { t with plain := b } hs := ⟨T.ris, T.dm, T.sz, T.mok, T.bd, T.reach⟩
theorem m_relay {o : Obj} (ho : s.heap.get? a = some o) (hex : o.ExactSet) (hd : o.data = .set es ep t) (hr : es.toList = L.map (rwM P w)) (hz : t.place.size = es.size) (hdm : t.dummies = #[]) (hm : es.size ≤ t.mask)
    (nd : (L.map (·.2)).Nodup) (ld : w.params.followText "set-order" = true ∨ t.led = true) (few : L.length < 64) {n M : Nat} (h1 : SetTable.sizeAbove n - 1 = M) (hM : MaskOk M) (h2 : SetTable.sizeAbove n ≤ 128) (h3 : L.length * 5 < M * 3) {Q : Unit → Shared → Prop}
    (q : ∀ h' L' es' ep' t', Heap.SameBut a s.heap h' → SetM0 P w h' a L' es' ep' t' → L'.Perm L → Q () { s with heap := h' }) : wpAny (model P w) A (setRelay a n) Q E s := by
  have sl := size_rw hr
  obtain ⟨t', order, e, hp, T, em, el, _, _⟩ := relaid_ok t (hs := es.map (·.1)) (wanted := n) h1 hM (by rw [Array.size_map, sl]; omega)
  rw [Array.size_map, sl] at hp
  obtain ⟨L2, r1, r2, r3⟩ := order_map hr hp
  rw [← r3] at T
  have s2 : (order.filterMap (es[·]?)).size = es.size := by rw [size_rw r1, r2.length_eq, sl]
  rw [setRelay_eq]
  refine wpAny_bind (wpAny_setState_of ho hd (fit_of hz hdm hm) ?_)
  dsimp only
  refine wp_if_neg (by rw [sizeLine_eq]; omega) ?_
  rw [e]
  dsimp only
  refine wpAny_bind (wp_if_neg (by rw [s2]; simp) (wpAny_pure ?_))
  dsimp only
  refine wpAny_storeSet_of ho hd ?_ (by rw [s2, sl, sizeLine_eq]; omega)
  refine q _ L2 _ (ep + 1) t' (Heap.SameBut.update ..) ⟨⟨_, _root_.L2.store_at ho hd, ⟨hex.1, hex.2.1, hex.2.2⟩, rfl⟩, r1, T, (r2.map (·.2)).nodup_iff.mpr nd, by rw [el]; exact ld, by rw [r2.length_eq, em]; exact h3, by rw [r2.length_eq]; exact few⟩ r2
theorem ins_perm {α : Type} (l : List α) (p : Nat) (x : α) : (l.take p ++ x :: l.drop p).Perm (x :: l) := by
  refine List.perm_middle.trans ?_
  rw [List.take_append_drop]
theorem m_add (R : SetM0 P w s.heap a L es ep t) (M : AllM P w s.heap L) {x : Addr} {k : List Key} (kx : IsM P w s.heap k x) (hu : A.units < cLine) (hl : L.length + 1 < 64) {Q : Bool → Shared → Prop}
    (q : ∀ b h' L' es' ep' t', Heap.SameBut a s.heap h' → SetM0 P w h' a L' es' ep' t' → ((k ∈ L.map (·.2) ∧ L' = L) ∨ (k ∉ L.map (·.2) ∧ L'.Perm ((x, k) :: L))) → Q b { s with heap := h' }) : wpAny (model P w) A (setAddHashed a (.ref x) (mh P w k)) Q E s := by
  obtain ⟨o, ho, hex, hd⟩ := R.ob
  have sl := size_rw R.rw_
  have big := R.big
  unfold setAddHashed
  refine wpAny_holding ?_
  rw [show (100000 : Nat) = 99999 + 1 from rfl, setAddHashedIn_succ]
  refine wpAny_bind (wpAny_setState_of ho hd R.fits ?_)
  dsimp only
  refine wp_if_neg (by simp [byScan, Value.scannable]) ?_
  refine wpAny_bind (m_search R M kx hu (fun hm => ?_) fun N hm b2 b3 => ?_)
  · dsimp only
    exact wpAny_pure (q false s.heap L es ep t (Heap.SameBut.refl a s.heap) R (.inl ⟨hm, rfl⟩))
  dsimp only
  refine wpAny_bind (wpAny_setState_of ho hd R.fits ?_)
  dsimp only
  obtain ⟨c1, c2, c3, c4, c5, c6, c7, c8, c9⟩ := R.tab.put b2 b3
  rw [List.length_map] at c2 c9
  generalize way t.mask (mh P w k) N = j at *
  generalize hpt : t.put j = pt at *
  obtain ⟨t1, p⟩ := pt
  dsimp only at c1 c3 c4 c5 c9 ⊢
  subst c1
  generalize hp : SetTable.below t.place j = p at *
  have in1 : (SetTable.insertAt es p (mh P w k, Value.ref x)).toList = (L.take p ++ (x, k) :: L.drop p).map (rwM P w) := by
    rw [SetTable.toList_insertAt, R.rw_, List.map_append, List.map_cons, List.map_take, List.map_drop]
    rfl
  have in2 : (L.map fun p => mh P w p.2).take p ++ mh P w k :: (L.map fun p => mh P w p.2).drop p = (L.take p ++ (x, k) :: L.drop p).map fun p => mh P w p.2 := by
    rw [List.map_append, List.map_cons, List.map_take, List.map_drop]
  rw [in2] at c3
  have pm := ins_perm L p (x, k)
  have nd1 : ((L.take p ++ (x, k) :: L.drop p).map (·.2)).Nodup := (pm.map (·.2)).nodup_iff.mpr (List.nodup_cons.mpr ⟨hm, R.one⟩)
  have ln := pm.length_eq
  generalize L.take p ++ (x, k) :: L.drop p = L1 at *
  have e1 := size_rw in1
  generalize SetTable.insertAt es p (mh P w k, Value.ref x) = es1 at *
  rw [List.length_cons] at ln
  have tail : ∀ t2 : SetTable, TabOk t2 (L1.map fun p => mh P w p.2) → t2.mask = t.mask → t2.led = t.led → t2.fill = L.length + 1 →
      wpAny (model P w) A (do
        storeSet a es1 t2
        if (!false && t2.tooFull) = true then do
            setRelay a (SetTable.grown (es.size + 1))
            pure true
          else pure true) Q E s := by
    intro t2 T em el ef
    refine wpAny_bind (wpAny_storeSet_of ho hd ?_ (by rw [e1, ln, sizeLine_eq]; omega))
    have sb : Heap.SameBut a s.heap (s.heap.update a (Obj.putSet es1 t2)) := Heap.SameBut.update ..
    have o1 := _root_.L2.store_at (es' := es1) (t' := t2) ho hd
    generalize s.heap.update a (Obj.putSet es1 t2) = h1 at sb o1 ⊢
    have x1 : Obj.ExactSet { o with data := .set es1 (ep + 1) t2 } := ⟨hex.1, hex.2.1, hex.2.2⟩
    have l1 : w.params.followText "set-order" = true ∨ t2.led = true := by rw [el]; exact R.ld
    have z1 : t2.place.size = es1.size := by rw [T.sz, List.length_map, e1]
    by_cases hf : t2.tooFull = true
    · refine wp_if_pos (by simp [hf]) (wpAny_bind ?_)
      have full : (L.length + 1) * 5 ≥ t.mask * 3 := by
        unfold SetTable.tooFull at hf
        rw [decide_eq_true_eq, ef, em] at hf
        exact hf
      rw [sl]
      have hm8 : es1.size ≤ t2.mask := by
        rw [e1, ln, em]
        rcases R.tab.mok with e | e | e <;> rw [e] at big full ⊢ <;> omega
      have go : ∀ M, SetTable.sizeAbove (SetTable.grown (L.length + 1)) - 1 = M → MaskOk M → SetTable.sizeAbove (SetTable.grown (L.length + 1)) ≤ 128 → L1.length * 5 < M * 3 →
          wpAny (model P w) A (setRelay a (SetTable.grown (L.length + 1))) (fun _ z => wpAny (model P w) A (pure true) Q E z) E { s with heap := h1 } := fun M a1 a2 a3 a4 =>
        m_relay (s := { s with heap := h1 }) o1 x1 rfl in1 z1 T.dm hm8 nd1 l1 (by omega) a1 a2 a3 a4 fun h2 L2 es2 ep2 t2 sb2 R2 pm2 => wpAny_pure (q true h2 L2 es2 ep2 t2 (sb.trans sb2) R2 (.inr ⟨hm, pm2.trans pm⟩))
      rcases R.tab.mok with e | e | e
      · have e4 : L.length = 4 := by rw [e] at big full; omega
        exact go 31 (by rw [e4, size_20]) (.inr (.inl rfl)) (by rw [e4, size_20]; decide) (by omega)
      · have e4 : L.length = 18 := by rw [e] at big full; omega
        exact go 127 (by rw [e4, size_76]) (.inr (.inr rfl)) (by rw [e4, size_76]; decide) (by omega)
      · rw [e] at full
        omega
    · refine wp_if_neg (by simp [hf]) (wpAny_pure (q true h1 L1 es1 (ep + 1) t2 sb ⟨⟨_, o1, x1, rfl⟩, in1, T, nd1, l1, ?_, by omega⟩ (.inr ⟨hm, pm⟩)))
      unfold SetTable.tooFull at hf
      rw [decide_eq_true_eq, ef] at hf
      rw [ln]
      omega
  by_cases hp : t1.plain = true
  · refine wp_if_pos hp (wpAny_bind (m_hsh kx fun b => ?_))
    cases b
    · exact tail _ (tab_pl c3 false) c4 c5 c9
    · exact tail _ c3 c4 c5 c9
  · exact wp_if_neg hp (wpAny_bind (wpAny_pure (tail _ c3 c4 c5 c9)))
end
/-! ### the set comprehension, whatever set.add does to the new set -/
abbrev setO0 (w : World) : Obj := { cls := .type "set", dict := none, data := .set #[] 0 (.fresh 0 0 (!w.params.followText "set-order")) }
section
variable {X : Cx}
/-- {elt for target in iter if ..}: O D a new set at D, r what set.add does -/
def tSg (O : Addr → HO) (r : V → List V → Hp → VK → Prop) (wi : TI) (g : TG) (tt : TT) (te : TE) (vs : List Nat) : TE := fun σ H Q => wi σ H fun J H1 => ∀ D, H1 D = none → ∃ W : Nat → Nat → Hp → Prop, (∃ m, W 0 m (upd H1 D (O D))) ∧ ∀ i m H, W i m H →
  (J.stop i H ∧ Q (.ref D) H) ∨ (J.go i H ∧ ∃ Nx : Hp → Prop, (∀ H', Nx H' → ∃ m', m' < m ∧ W (i + 1) m' H') ∧ ∀ x H', J.yld i H x H' → g x (wipe σ vs) H' fun σ2 H2 => wipe σ2 vs = wipe σ vs ∧ tt σ2 H2 fun b H3 => if b = true then te σ2 H3 fun y H4 => r (.ref D) [y] H4 fun _ H5 => Nx H5 else Nx H3)
/-- the context of the block whose scope's locals are at C -/
abbrev bx (X : Cx) (sc : Scope) (s : Shared) (H : Hp) (C : Addr) (cl : List (PySem.Str × Addr)) (fp : List Addr) : Cx := X.blk s H sc (compEnvC sc cl C X.env) fp
theorem pe_sg {elt tg it0 : Expr} {ifs : List Expr} {sc : Scope} {own : List (PySem.Str × Nat)} {pos : Pos} {wi : TI} {g : TG} {tt : TT} {te : TE} {O : Addr → HO} {r : V → List V → Hp → VK → Prop}
    (hO : ∀ (h : Heap) (H : Hp), ObjOk X.prog X.w H (h.push (setO0 X.w)) h.objs.size (O h.objs.size)) (hr : ∀ s H C cl fp, MtR (bx X sc s H C cl fp) "set.add" r) (hc : X.calm = true) (hN : X.N.Nodup) (hi : PI X tg it0 wi) (ok : BlkOk X.N X.env.scope sc own)
    (hg : ∀ s H C cl fp, PG (bx X sc s H C cl fp) tg g) (ht : ∀ s H C cl fp, PTs (bx X sc s H C cl fp) ifs tt) (he : ∀ s H C cl fp, PE (bx X sc s H C cl fp) elt te) (hs : ∀ x, foldedSetIterable it0 X.env x = pure x := by intro _; rfl) :
    PE X (.SetComp elt [⟨tg, it0, ifs, 0⟩] sc pos) (tSg O r wi g tt te (own.map (·.2))) := by
  refine ⟨fun pins s σ H Q I h => ?_⟩
  rw [PpSet.eval_SetComp]
  have frees : ∀ y ∈ sc.names, y.2 = .free → ∃ c, X.env.cells.lookup y.1 = some c := fun y hy e => (ok.free y hy e).elim (fun k => I.ok.has _ (.inl k)) fun k => I.ok.has _ (.inr k)
  refine wpAny_comprehension_free (use := none) rfl hs (closure_ok frees) ok.kind (fun y hy e => by rw [ok.uniq y hy, e]) (thn (hi.run pins s σ H _ I h) fun xv s1 h1 => thn h1 fun iv s2 h2 => ?_)
  obtain ⟨it, fp, tn, J, H2, rfl, I2, T, u2, f2, q⟩ := h2
  refine PpSet.newSet_ok (newEnv_comp ?_)
  generalize eD : s2.heap.objs.size = D
  obtain ⟨W, ⟨m0, w0⟩, turn⟩ := q D (I2.hok.fresh (Nat.le_of_eq eD))
  obtain ⟨s3, es3⟩ : ∃ s3 : Shared, s3 = { s2 with heap := s2.heap.push (setO0 X.w) } := ⟨_, rfl⟩
  obtain ⟨H3, eH3⟩ : ∃ H3, H3 = upd H2 D (O D) := ⟨_, rfl⟩
  have hp3 : s3.heap = s2.heap.push (setO0 X.w) := by rw [es3]
  have I3 : Inv X pins σ H3 s3 := by
    rw [es3, eH3]
    refine I2.laid (t' := s2.toks) (fun b o e => Heap.get?_push_of_some _ e) (Nat.le_of_eq eD) ?_
    rw [← eD]
    exact hO _ _
  have old3 : ∀ b o, s2.heap.get? b = some o → s3.heap.get? b = some o := fun b o e => by rw [hp3]; exact Heap.get?_push_of_some _ e
  have f3 : ∀ b ∈ fp, FpOk X pins H3 b ∧ b < s3.heap.objs.size := fun b hb => by
    obtain ⟨o, e, _⟩ := T.obj _ _ u2 b hb
    have lt : b < s2.heap.objs.size := Heap.lt_size e
    refine ⟨⟨?_, (f2 b hb).2⟩, by rw [hp3, Heap.size_push]; exact Nat.lt_succ_of_lt lt⟩
    rw [eH3, upd_ne (by rw [← eD]; exact Nat.ne_of_lt lt)]
    exact (f2 b hb).1
  have I4 := block_start I3 ok hN f3
  rw [← eH3] at w0
  rw [← es3]
  show codeAny _ _ (.compStart (.SetComp elt [⟨tg, it0, ifs, 0⟩] sc pos) 0 (.ref it) (.ref D) (compEnvC sc (cellsFrom (s3.heap.objs.size + 1) sc.names (cloFrom X.env.cells sc.names [])) s3.heap.objs.size X.env))
    (compPost (model X.prog X.w) X.A X.xe none (EP X pins σ Q) (.ref D) s3.heap.objs.size) { s3 with heap := pushCells (s3.heap.push { cls := .type "dict", data := .dict #[] }) sc.names }
  have pg := hg s3 H3 s3.heap.objs.size (cellsFrom (s3.heap.objs.size + 1) sc.names (cloFrom X.env.cells sc.names [])) fp
  have pt := ht s3 H3 s3.heap.objs.size (cellsFrom (s3.heap.objs.size + 1) sc.names (cloFrom X.env.cells sc.names [])) fp
  have pe := he s3 H3 s3.heap.objs.size (cellsFrom (s3.heap.objs.size + 1) sc.names (cloFrom X.env.cells sc.names [])) fp
  have pr := hr s3 H3 s3.heap.objs.size (cellsFrom (s3.heap.objs.size + 1) sc.names (cloFrom X.env.cells sc.names [])) fp
  generalize ece : compEnvC sc (cellsFrom (s3.heap.objs.size + 1) sc.names (cloFrom X.env.cells sc.names [])) s3.heap.objs.size X.env = ce at I4 ⊢
  have lce : ce.locals = s3.heap.objs.size := by rw [← ece]; rfl
  obtain ⟨s4, es4⟩ : ∃ s4 : Shared, s4 = { s3 with heap := pushCells (s3.heap.push { cls := .type "dict", data := .dict #[] }) sc.names } := ⟨_, rfl⟩
  rw [← es4] at I4 ⊢
  have u3 : tn 0 s3.heap := T.keep _ _ _ u2 fun b _ o e => old3 b o e
  have u4 : tn 0 s4.heap := T.keep _ _ _ u3 fun b _ o e => by rw [es4]; exact pushCells_keeps _ _ _ _ (Heap.get?_push_of_some _ e)
  unfold bx at pg pt pe pr
  rw [ece] at pg pt pe pr
  have out : ∀ {σ' : L2.St} {H' : Hp} {z : Shared}, Inv (X.blk s3 H3 sc ce fp) [] σ' H' z → (∀ b ∈ fp, H' b = none) → ∀ b ∈ fp, FpOk (X.blk s3 H3 sc ce fp) [] H' b := fun Iz hn b hb =>
    ⟨hn b hb, (Iz.ok.exf b hb).1, Iz.ok.exfs b hb, .inl hb, fun x c e => (Iz.ok.exf b hb).2 x c e, fun p hp => by simp [show p ∈ ([] : List (Addr × Obj)) ++ [] ↔ False by simp] at hp⟩
  have lp : codeAny (model X.prog X.w) X.A (.compLoop (.SetComp elt [⟨tg, it0, ifs, 0⟩] sc pos) 0 (.ref it) (.ref D) ce) (compPost (model X.prog X.w) X.A X.xe none (EP X pins σ Q) (.ref D) s3.heap.objs.size) s4 := by
    refine PpSet.compLoopS_any (fun n z => ∃ i H', Inv (X.blk s3 H3 sc ce fp) [] (wipe σ (own.map (·.2))) H' z ∧ tn i z.heap ∧ (∀ b ∈ fp, H' b = none) ∧ W i n H') (fun n z hz => ?_) m0 ⟨0, H3, I4, u4, fun b hb => (f3 b hb).1.1, w0⟩
    obtain ⟨i, Hz, Iz, uz, nz, wz⟩ := hz
    rcases turn i n Hz wz with ⟨st, qe⟩ | ⟨go, Nx, hNx, step⟩
    · refine thnF (T.done (X.blk s3 H3 sc ce fp) rfl rfl rfl hc i [] z _ Hz (fun _ _ => False) Iz (out Iz nz) uz st) fun rr z2 ⟨er, I6⟩ => ?_
      subst er
      have I7 : Inv X pins σ Hz z2 := I3.call' (ch := fp) I6.os I6.base I6.hok I6.bare fun b hb => ⟨(f3 b hb).1.2.2.2.1, (f3 b hb).1.2.1, (f3 b hb).1.2.2.2.2.1, (f3 b hb).1.2.2.2.2.2⟩
      have nC : Hz s3.heap.objs.size = none := by
        have h0 : Hz ce.locals = none := I6.free
        rw [lce] at h0
        exact h0
      obtain ⟨mm, hm, _⟩ := I6.loc
      have hm : z2.heap.Ns ce.locals mm := hm
      rw [lce] at hm
      obtain ⟨g0, g1, g2, g3, g4, g5⟩ := I3.fpOk (Nat.le_refl _) nC
      exact ⟨mm, hm, fun h'' sb => ⟨.ref D, Hz, I7.turned (t' := z2.toks) (fun b o hb e => (sb.2 b hb).trans e) g0 g1 g3 g4 g5, rfl, qe⟩⟩
    · refine thnF (T.item (X.blk s3 H3 sc ce fp) rfl rfl rfl hc i [] z _ Hz (fun _ _ => False) Iz (out Iz nz) uz go) fun rr z6 ⟨u, er, h6⟩ => ?_
      subst er
      refine thnF h6 fun _ z7 ⟨x, H7, I7, r7, y7, u7, n7⟩ => ?_
      refine thnF (pg.run _ z7 _ H7 x u _ (I7.pinned (out I7 n7) (T.obj _ _ u7)) r7 (step x H7 y7)) fun _ z8 ⟨σ8, H8, I8, ew, q8⟩ => ?_
      refine thnF (pt.run _ z8 σ8 H8 _ I8 q8) fun b z9 ⟨H9, I9, q9⟩ => ?_
      have fin : ∀ {z' : Shared} {H' : Hp}, Inv (X.blk s3 H3 sc ce fp) ([] ++ pinsAt fp z7.heap) σ8 H' z' → Nx H' → ∃ m, m < n ∧ ∃ i H', Inv (X.blk s3 H3 sc ce fp) [] (wipe σ (own.map (·.2))) H' z' ∧ tn i z'.heap ∧ (∀ b ∈ fp, H' b = none) ∧ W i m H' := fun {z' H'} I' nx => by
        obtain ⟨m', lt, w'⟩ := hNx H' nx
        have pin : ∀ b ∈ fp, ∀ o, z7.heap.get? b = some o → z'.heap.get? b = some o ∧ H' b = none := fun b hb o e =>
          ⟨(I'.pin (b, o) (List.mem_append_right _ (List.mem_append_right _ (mem_pinsAt hb e)))).1, (I'.pin (b, o) (List.mem_append_right _ (List.mem_append_right _ (mem_pinsAt hb e)))).2.1⟩
        refine ⟨m', lt, i + 1, H', (I'.unpinned (pins := [])).weak (by rw [← ew, wipe_length]) (fun j v e => ?_), T.keep _ _ _ u7 fun b hb o e => (pin b hb o e).1, fun b hb => ?_, w'⟩
        · rw [← ew] at e
          exact (wipe_some e).1
        · obtain ⟨o, e, _⟩ := T.obj _ _ u7 b hb
          exact (pin b hb o e).2
      cases b with
      | false =>
        simp only [Bool.false_eq_true, if_false] at q9 ⊢
        exact fin I9 q9
      | true =>
        simp only [if_true] at q9 ⊢
        refine thnF (pe.run _ z9 σ8 H9 _ I9 q9) fun v z10 ⟨y, H10, I10, r10, q10⟩ => ?_
        exact thnF (pr _ z10 σ8 H10 (.ref D) [y] (.ref D) [v] _ I10 rfl (.cons r10 .nil) q10) fun _ z11 ⟨_, H11, I11, _, nx⟩ => fin I11 nx
  exact PpSet.codeAny_compStart_set lp (T.self X.A 0 _ _ _ u4 lp)
end
/-! ### sorted of a set whose members are data without lists -/
open PySem.W (EachIs AllAlike Sortable dataLe dataLt alike keyToks sort_pairwise sortLe_total list_sort_data)
theorem perm_back {α β : Type} (f : β → α) {l l' : List α} (h : l.Perm l') : ∀ B : List β, l' = B.map f → ∃ B' : List β, l = B'.map f ∧ B'.Perm B := by
  induction h with
  | nil => exact fun B e => ⟨[], rfl, by rw [List.map_eq_nil_iff.mp e.symm]⟩
  | cons x _ ih =>
    intro B e
    cases B with
    | nil => cases e
    | cons b B =>
      rw [List.map_cons] at e
      injection e with e1 e2
      obtain ⟨B', e3, p⟩ := ih B e2
      exact ⟨b :: B', by rw [List.map_cons, ← e3, e1], p.cons b⟩
  | swap x y l =>
    intro B e
    cases B with
    | nil => cases e
    | cons b B =>
      cases B with
      | nil => cases e
      | cons c B =>
        rw [List.map_cons, List.map_cons] at e
        injection e with e1 e2
        injection e2 with e2 e3
        exact ⟨c :: b :: B, by rw [List.map_cons, List.map_cons, ← e3, e1, e2], .swap b c B⟩
  | trans _ _ i1 i2 =>
    intro B e
    obtain ⟨B1, e1, p1⟩ := i2 B e
    obtain ⟨B2, e2, p2⟩ := i1 B1 e1
    exact ⟨B2, e2, p2.trans p1⟩
section
variable {P : Program} {w : World} {A : Around} {E : Value → Shared → Prop} {s : Shared} {a : Addr} {es : Array (Int × Value)} {ep : Nat} {t : SetTable}
theorem each_eq {β : Type} {f : β → Value} : ∀ {vs : List Value} {B : List β}, EachIs (fun v b => v = f b) vs B → vs = B.map f
  | _, _, .nil => rfl
  | _, _, .cons e r => by rw [List.map_cons, ← each_eq r, e]
theorem each_of {β : Type} {R : Value → β → Prop} (f : β → Value) : ∀ B : List β, (∀ b ∈ B, R (f b) b) → EachIs R (B.map f) B
  | [], _ => .nil
  | b :: B, h => .cons (h b (List.mem_cons_self ..)) (each_of f B fun c hc => h c (List.mem_cons_of_mem _ hc))
theorem sorted_gen {β : Type} (f : β → Value) (enc : β → PyData) (B : List β) {Q : Value → Shared → Prop} (ha : SetAt s.heap a es ep t) (hf : t.fits es.size = true) (hz : es.size < scanBound) (ris : Ris t.place.toList) (hl : w.params.followText "set-order" = true ∨ t.led = true) (hh : A.handled = none) (hu : A.units + 64 < cLine)
    (hv : es.toList.map (·.2) = B.map f) (rd : ∀ b ∈ B, ∀ h' : Heap, (∀ c o, s.heap.get? c = some o → h'.get? c = some o) → Reads h' (f b) (enc b) []) (hal : AllAlike (B.map enc)) (hk : Sortable (B.map enc)) (hd : ∀ b ∈ B, (enc b).depth ≤ 8)
    (q : ∀ s' p (out : Array Value) (c : Nat) (B' : List β), (∀ b o, s.heap.get? b = some o → s'.heap.get? b = some o) → s'.gens = s.gens → s'.os = s.os → s.heap.objs.size ≤ p → s'.heap.get? p = some (seqObj "list" out c) → out.toList = B'.map f → B'.Perm B →
      B'.Pairwise (fun x y => dataLe false enc x y = true) → Q (.ref p) s') : wpAny (model P w) A (call (.builtin "sorted") [.ref a]) Q E s := by
  refine Calls.call_function_entry kind_sorted plain_sorted entry_sorted (args_sorted1 _) ?_
  unfold Builtin.«sorted»
  refine wpAny_bind (m := checkCount "sorted" 1 1 _) (wpAny_pure ?_)
  refine wpAny_bind (collect_set (A := A.in1) hh ha hf hz ris hl fun s1 vs k1 z1 g1 o1 pm => ?_)
  rw [hv] at pm
  obtain ⟨B1, rfl, p1⟩ := perm_back f pm B rfl
  have n1 : B1.length ≤ sizeLine := by
    have h1 := congrArg List.length hv
    rw [List.length_map, List.length_map, Array.length_toList] at h1
    rw [p1.length_eq, ← h1]
    exact fits_of_scanBound hz
  refine wpAny_bind (wpAny_newList ?_ (by rw [List.length_map]; exact n1))
  generalize hh2 : s1.heap.push { cls := .type "list", data := .seq (B1.map f).toArray } = h2
  have hoL : h2.get? s1.heap.objs.size = some (seqObj "list" (B1.map f).toArray 0) := by rw [← hh2]; exact Heap.get?_push_size _ rfl
  have k2 : ∀ c o, s.heap.get? c = some o → h2.get? c = some o := fun c o e => by rw [← hh2]; exact Heap.get?_push_of_some _ (k1 c o e)
  have z2 : h2.objs.size = s1.heap.objs.size + 1 := by rw [← hh2]; exact size_push' _ _
  have rd2 : EachIs (fun v b => ∃ as, Reads h2 v (enc b) as ∧ s1.heap.objs.size ∉ as) (B1.map f) B1 := each_of f B1 fun b hb => ⟨[], rd b (p1.mem_iff.mp hb) h2 k2, List.not_mem_nil⟩
  have pe : (B1.map enc).Perm (B.map enc) := p1.map enc
  refine wpAny_bind (wpAny_holding (list_sort_data (s := { s1 with heap := h2 }) (R := fun v b => v = f b) hoL (each_of f B1 fun _ _ => rfl) rd2 (fun d hd1 d' hd2 => hal d (pe.mem_iff.mp hd1) d' (pe.mem_iff.mp hd2))
    (hk.elim (fun z => .inl fun d hd1 => z d (pe.mem_iff.mp hd1)) fun z => .inr fun d hd1 => z d (pe.mem_iff.mp hd1)) n1 (fun b hb => ?_) fun out _ ho => ?_))
  · have h8 := hd b (p1.mem_iff.mp hb)
    have hA : A.in1.units ≤ A.units + 1 := by first | exact Nat.le_refl _ | exact Nat.le_succ _ | simp
    omega
  · obtain ⟨c, hc⟩ := sortedHeap_at (vs := B1.map f) (out := out.toArray) hoL
    have pw := sort_pairwise (sortLe_total (listOrd itemOrd) false fun b => keyToks (enc b)) B1
    refine wpAny_pure ⟨_, rfl, q _ s1.heap.objs.size out.toArray c (B1.mergeSort (dataLe false enc)) (fun b u e => ?_) g1 o1 z1 hc (by rw [each_eq ho]) ((List.mergeSort_perm _ _).trans p1) pw⟩
    have lt := Heap.lt_size (k1 b u e)
    show (sortedHeap h2 s1.heap.objs.size (B1.map f) out.toArray).get? b = some u
    rw [sortedHeap_old (Nat.ne_of_lt lt) (by rw [z2]; exact Nat.lt_succ_of_lt lt)]
    exact k2 b u e
end
end Gk
set_option Elab.async false
set_option autoImplicit false
set_option linter.all false
set_option maxRecDepth 100000
set_option maxHeartbeats 4000000
namespace Gk
open PySem PySem.Spec PyProof.Rows L2
open PySem.W (EachIs AllAlike Sortable dataLe dataLt alike keyToks sort_pairwise sortLe_total list_sort_data)
/-! ### set of a text -/
section
open PySem.Froz (SD TxOk addTx runD sObj finU itObj itEnd sing endHeap two tupObj stopObj)
variable {P : Program} {w : World} {A : Around} {E : Value → Shared → Prop} {s : Shared}
theorem add_ris {D : SD} {h : Int} {v : Value} (r : Ris D.2.2.place.toList) : Ris (addTx h v D).2.2.place.toList ∧ (addTx h v D).2.2.led = D.2.2.led := by
  have r1 := layNew_ris D.2.2 D.1 h v r
  have l1 := layNew_led D.2.2 D.1 h v
  unfold addTx PySem.Froz.tailTx
  have e1 : Ris (if (layNew D.2.2 D.1 h v).2.1.plain = true then { (layNew D.2.2 D.1 h v).2.1 with plain := false } else (layNew D.2.2 D.1 h v).2.1).place.toList ∧ (if (layNew D.2.2 D.1 h v).2.1.plain = true then { (layNew D.2.2 D.1 h v).2.1 with plain := false } else (layNew D.2.2 D.1 h v).2.1).led = D.2.2.led := by
    split
    · exact ⟨r1, l1⟩
    · exact ⟨r1, l1⟩
  generalize (if (layNew D.2.2 D.1 h v).2.1.plain = true then { (layNew D.2.2 D.1 h v).2.1 with plain := false } else (layNew D.2.2 D.1 h v).2.1) = t2 at e1 ⊢
  split
  · exact ⟨relayAll_ris t2 _ _, (relayAll_led t2 _ _).trans e1.2⟩
  · exact e1
theorem run_ris : ∀ (cs : List Nat) (tk : Tok) (D : SD), Ris D.2.2.place.toList → Ris (runD w cs tk D).2.2.place.toList ∧ (runD w cs tk D).2.2.led = D.2.2.led
  | [], _, _, r => ⟨r, rfl⟩
  | c :: cs, tk, D, r => by
    obtain ⟨r1, l1⟩ := add_ris (h := hashStr w (sing c)) (v := .str (sing c) tk) r
    obtain ⟨r2, l2⟩ := run_ris cs (tk + 2) _ r1
    exact ⟨r2, l2.trans l1⟩
theorem run_ok : ∀ (cs : List Nat) (tk : Tok) (D : SD) (l : List Str), TxOk P w D l → TxOk P w (runD w cs tk D) ((cs.map sing).reverse ++ l)
  | [], _, _, _, F => F
  | c :: cs, tk, D, l, F => by
    rw [List.map_cons, List.reverse_cons, List.append_assoc]
    exact run_ok cs (tk + 2) _ (sing c :: l) (PySem.Froz.add_ok tk F)
/-- set(v): a new set, then what v gives -/
theorem call_set_by {v : Value} {Po : Heap → Prop} {Q : Value → Shared → Prop}
    (up : ∀ (A' : Around) (E' : Value → Shared → Prop) (Q' : Unit → Shared → Prop), A' = A.in1.in1 → (∀ (h' : Heap) (tk : Nat), Po h' → (∀ b o, s.heap.get? b = some o → h'.get? b = some o) → Q' () { s with heap := h', toks := tk }) →
      wpAny (model P w) A' (Builtin.Frozenset.updateFrom "set.__init__" s.heap.objs.size v) Q' E' { s with heap := s.heap.push (setO0 w) })
    (q : ∀ (h' : Heap) (tk : Nat), Po h' → (∀ b o, s.heap.get? b = some o → h'.get? b = some o) → Q (.ref s.heap.objs.size) { s with heap := h', toks := tk }) : wpAny (model P w) A (call (.type "set") [v]) Q E s := by
  obtain ⟨c, tl, hmro⟩ := F.called_set.mro
  have hmade := F.called_set.made
  have hsub := F.called_set.sub
  refine wpAny_call (codeAny_of_tree ?_)
  show wpAny _ _ (callAny (.type "set") _) _ _ _
  refine wpAny_pure ⟨Code.quiet_builtin _ (by decide +kernel), codeAny_builtin F.entry_type_call ?_⟩
  rw [Around.under_plain (weight_type_call_type "set" [v] []) rfl]
  have h1 := F.called_set.notType
  have h2 := F.called_set.canCreate
  have hct := F.typeCall_set_1 v
  repeat (any_goals (first | assumption | wp_step))
  refine codeAny_mono (code_set_led1 v (E := E) (Q₁ := fun ob s1 => ob = .ref s.heap.objs.size ∧ s1 = { s with heap := s.heap.push (setO0 w) }) ⟨rfl, rfl⟩) fun r s1 hr => ?_
  cases r with
  | error e => exact hr
  | ok fl =>
    cases fl with
    | ret ob =>
      obtain ⟨rfl, rfl⟩ := hr
      have hS : (s.heap.push (setO0 w)).get? s.heap.objs.size = some (setO0 w) := Heap.get?_push_size _ rfl
      have hT : Shared.TypeIs { s with heap := s.heap.push (setO0 w) } (.ref s.heap.objs.size) "set" := ⟨_, hS, rfl⟩
      have hli := F.called_set.init.lookup
      have hbi := F.called_set.init.bind (.ref s.heap.objs.size)
      repeat (any_goals (first | assumption | wp_step))
      refine codeAny_mono (codeAny_call_builtin (R := wants (fun r z => r = .none ∧ ∃ (h' : Heap) (tk : Nat), z = { s with heap := h', toks := tk } ∧ Po h' ∧ ∀ b o, s.heap.get? b = some o → h'.get? b = some o) E) F.called_set.init.plain F.entry_set_init (check_set_init_1 hT ?_)) fun r2 s2 hr2 => ?_
      · unfold Builtin.«set.__init__» noKeywords
        generalize hU : Builtin.Frozenset.updateFrom = U
        wp_walk
        subst hU
        refine up _ _ _ rfl fun h' tk po k => ?_
        show wpAny _ _ (ret Value.none) _ _ _
        exact wpAny_pure ⟨rfl, h', tk, rfl, po, k⟩
      · cases r2 with
        | error e => exact hr2
        | ok fl2 =>
          cases fl2 with
          | ret r =>
            obtain ⟨rfl, h', tk, rfl, po, k⟩ := hr2
            repeat (any_goals (first | assumption | wp_step))
            exact q _ _ po k
          | _ => exact hr2.elim
    | _ => exact hr.elim
/-- at a: a set of the texts l -/
def PoX (P : Program) (w : World) (a : Addr) (l : List Str) (h : Heap) : Prop := ∃ D : SD, h.get? a = some (sObj "set" D) ∧ TxOk P w D l ∧ Ris D.2.2.place.toList ∧ (w.params.followText "set-order" = true ∨ D.2.2.led = true)
theorem set_text {x : Str} {u : Tok} (hx : x.cps.all (· < 128) = true) (nd : x.cps.toList.Nodup) (hl : x.cps.toList.length + 1 < scanBound) (hh : A.handled = none) {Q : Value → Shared → Prop}
    (q : ∀ (h' : Heap) (tk : Nat), PoX P w s.heap.objs.size (x.cps.toList.map sing).reverse h' → (∀ b o, s.heap.get? b = some o → h'.get? b = some o) → Q (.ref s.heap.objs.size) { s with heap := h', toks := tk }) : wpAny (model P w) A (call (.type "set") [.str x u]) Q E s := by
  refine call_set_by (fun A' E' Q' eA up => ?_) q
  have hh' : A'.in1.handled = none := by rw [eA]; simp [hh]
  have hS : (s.heap.push (setO0 w)).get? s.heap.objs.size = some (setO0 w) := Heap.get?_push_size _ rfl
  unfold Builtin.Frozenset.updateFrom
  refine wpAny_bind (Fz.anySet (wp_if_neg (by decide) (wpAny_bind (wpAny_typeOf (PySem.typeIs_str _ _ _) (wp_if_neg (by decide) (wpAny_bind (wpAny_pyIter_ascii hx ?_)))))))
  refine wpAny_bind (wpAny_runValue ?_)
  have z1 : (s.heap.push (setO0 w)).objs.size = s.heap.objs.size + 1 := Heap.size_push ..
  have ga : ((s.heap.push (setO0 w)).push (itObj x u 0)).get? s.heap.objs.size = some (sObj "set" (#[], 0, .fresh 0 0 (!w.params.followText "set-order"))) := Heap.get?_push_of_some _ hS
  have gi : ((s.heap.push (setO0 w)).push (itObj x u 0)).get? (s.heap.push (setO0 w)).objs.size = some (itObj x u 0) := Heap.get?_push_size _ rfl
  have hne : s.heap.objs.size ≠ (s.heap.push (setO0 w)).objs.size := by rw [z1]; exact Nat.ne_of_lt (Nat.lt_succ_self _)
  refine PySem.Froz.code_update (P := P) (w := w) (u := u) (T := "set") hne (by first | exact hh' | simp [eA, hh]) x.cps.toList 0 _ [] _ rfl ga gi (TxOk.nil rfl) (fun _ _ => List.not_mem_nil) nd (by simpa using Nat.lt_of_succ_lt hl) ?_
  obtain ⟨h2, eh2⟩ : ∃ h2, h2 = (s.heap.push (setO0 w)).push (itObj x u 0) := ⟨_, rfl⟩
  obtain ⟨D, eD⟩ : ∃ D : SD, D = runD w x.cps.toList s.toks (#[], 0, .fresh 0 0 (!w.params.followText "set-order")) := ⟨_, rfl⟩
  show wpAny _ _ (pure ()) _ _ (finU { s with heap := (s.heap.push (setO0 w)).push (itObj x u 0) } s.heap.objs.size "set" (s.heap.push (setO0 w)).objs.size (runD w x.cps.toList s.toks (#[], 0, .fresh 0 0 (!w.params.followText "set-order"))) (0 + x.cps.toList.length) x.cps.toList.length)
  rw [← eD]
  rw [← eh2] at ga gi ⊢
  refine wpAny_pure ?_
  have old2 : ∀ b o, s.heap.get? b = some o → h2.get? b = some o := fun b o e => by rw [eh2]; exact Heap.get?_push_of_some _ (Heap.get?_push_of_some _ e)
  have rr : Ris D.2.2.place.toList ∧ D.2.2.led = (!w.params.followText "set-order") := by
    rw [eD]
    exact run_ris x.cps.toList s.toks _ List.Pairwise.nil
  have tx : TxOk P w D (x.cps.toList.map sing).reverse := by
    have h := run_ok (P := P) (w := w) x.cps.toList s.toks (#[], 0, .fresh 0 0 (!w.params.followText "set-order")) [] (TxOk.nil rfl)
    rw [List.append_nil, ← eD] at h
    exact h
  have two1 : (two h2 s.heap.objs.size (sObj "set" D) (s.heap.push (setO0 w)).objs.size (itEnd (0 + x.cps.toList.length))).get? s.heap.objs.size = some (sObj "set" D) :=
    PySem.Heap.get?_update_of_ne _ (Ne.symm hne) (PySem.Froz.get_upd _ ga rfl)
  have two2 : ∀ b o, s.heap.get? b = some o → (two h2 s.heap.objs.size (sObj "set" D) (s.heap.push (setO0 w)).objs.size (itEnd (0 + x.cps.toList.length))).get? b = some o := fun b o e => by
    have lt := Heap.lt_size e
    exact PySem.Heap.get?_update_of_ne _ (by rw [z1]; exact Nat.ne_of_gt (Nat.lt_succ_of_lt lt)) (PySem.Heap.get?_update_of_ne _ (Nat.ne_of_gt lt) (old2 b o e))
  refine up _ _ ⟨D, Heap.get?_push_of_some _ (Heap.get?_push_of_some _ two1), tx, rr.1, ?_⟩ fun b o e => Heap.get?_push_of_some _ (Heap.get?_push_of_some _ (two2 b o e))
  rw [rr.2]
  cases w.params.followText "set-order"
  · exact .inr rfl
  · exact .inl rfl
/-- set of a list of ints -/
theorem set_ints {l : Addr} {its : Array Value} (ns : List Int) (hh : A.handled = none) (hl : s.heap.IsList l its) (hi : IntsAre its.toList ns) (hb : ns.length + 1 < scanBound) {Q : Value → Shared → Prop}
    (q : ∀ (h' : Heap) (tk : Nat), (∃ c, c ≤ ns.length ∧ SetR w h' s.heap.objs.size (fun j => decide (j ∈ ns)) c) → (∀ b o, s.heap.get? b = some o → h'.get? b = some o) → Q (.ref s.heap.objs.size) { s with heap := h', toks := tk }) : wpAny (model P w) A (call (.type "set") [.ref l]) Q E s := by
  have sz : its.size = ns.length := by rw [← Array.length_toList, IntsAre.length hi]
  refine call_set_by (fun A' E' Q' eA up => ?_) q
  have hS : (s.heap.push (setO0 w)).get? s.heap.objs.size = some (setO0 w) := Heap.get?_push_size _ rfl
  have z1 : (s.heap.push (setO0 w)).objs.size = s.heap.objs.size + 1 := Heap.size_push ..
  obtain ⟨ol, ho, hc, n, hd⟩ := hl
  have lt : l < s.heap.objs.size := Heap.lt_size ho
  have ho' : (s.heap.push (setO0 w)).get? l = some ol := Heap.get?_push_of_some _ ho
  have hl' : (s.heap.push (setO0 w)).IsList l its := ⟨ol, ho', hc, n, hd⟩
  have hT : Shared.TypeIs { s with heap := s.heap.push (setO0 w) } (.ref l) "list" := ⟨ol, ho', hc⟩
  unfold Builtin.Frozenset.updateFrom
  refine wpAny_bind ?_
  unfold Builtin.Frozenset.isAnySet orM
  refine wpAny_bind (wpAny_isInstance hT F.sub_list_set ?_)
  show wpAny _ _ (isInstance (.ref l) (.type "frozenset")) _ _ _
  refine wpAny_isInstance hT F.sub_list_frozenset ?_
  refine wp_if_neg (by decide) (wpAny_bind (wpAny_typeOf hT ?_))
  refine wp_if_neg (by decide) ?_
  refine wpAny_bind (wpAny_pyIter_list hl' ?_)
  refine wpAny_bind (wpAny_runValue ?_)
  have n1 : l ≠ (s.heap.push (setO0 w)).objs.size := by rw [z1]; exact Nat.ne_of_lt (Nat.lt_succ_of_lt lt)
  have n2 : s.heap.objs.size ∉ [(s.heap.push (setO0 w)).objs.size, l] := by
    rw [z1]
    intro h
    rcases List.mem_cons.mp h with h | h
    · exact absurd h (Nat.ne_of_lt (Nat.lt_succ_self _))
    · exact absurd (List.mem_singleton.mp h) (Nat.ne_of_gt lt)
  have hv : ∀ (i : Nat) (v : Value), its[i]? = some v → ∃ k t, ns[i]? = some k ∧ v = .int k t := fun i v hv => by
    have hi2 : i < ns.length := by rw [← sz]; exact (Array.getElem?_eq_some_iff.mp hv).1
    obtain ⟨t, e⟩ := PyProof.Rows.IntsAre.int_at hi i v (by rw [Array.getElem?_toList]; exact hv)
    refine ⟨ns[i], t, List.getElem?_eq_getElem hi2, e.trans ?_⟩
    rw [List.getD_eq_getElem?_getD, List.getElem?_eq_getElem hi2]
    rfl
  have hh3 : A'.in1.handled = none := by rw [eA]; simp [hh]
  refine set_update_ints ((Walks.list hh3 _ l n1 its).toS) s.heap.objs.size n2 ns sz hb hv (its.size - 0) 0 _ (by omega) (Nat.zero_le _) ⟨⟨_, Heap.get?_push_size _ rfl, rfl, rfl⟩, (hl'.push _)⟩ ?h0 fun s' c hm hc' hS' => ?h1
  case h0 =>
    refine ⟨0, Nat.le_refl 0, setR_new_at (w := w) ?_⟩
    exact Heap.get?_push_of_some _ hS
  obtain ⟨h', g2, d', tk', os'⟩ := s'
  obtain rfl : g2 = s.gens := hm.gens
  obtain rfl : d' = s.drawn := hm.drawn
  obtain rfl : os' = s.os := hm.os
  show wpAny _ _ (pure ()) _ _ _
  refine wpAny_pure (up h' tk' ⟨c, by rw [← sz]; exact hc', hS'⟩ fun b o e => ?_)
  have lb : b < s.heap.objs.size := Heap.lt_size e
  refine hm.heap b o (fun h => ?_) (Heap.get?_push_of_some _ (Heap.get?_push_of_some _ e))
  rcases List.mem_cons.mp h with h | h
  · exact absurd h (Nat.ne_of_lt lb)
  · have h2 := List.mem_singleton.mp h
    rw [z1] at h2
    exact absurd h2 (Nat.ne_of_lt (Nat.lt_succ_of_lt lb))
end
end Gk
set_option Elab.async false
set_option autoImplicit false
set_option linter.all false
set_option maxRecDepth 100000
set_option maxHeartbeats 4000000
/-! # Sets as things of the layer: rules and steps -/
namespace Gk
open PySem PySem.Spec PyProof.Rows L2
open PySem.W (EachIs AllAlike Sortable dataLe dataLt alike keyToks)
section
variable {P : Program} {w : World} {H : Hp} {h : Heap} {a : Addr}
def SetXO (P : Program) (w : World) (a : Addr) (l : List Str) : HO := .ext (PoX P w a l)
theorem setXO_new {l : List Str} (R : PoX P w a l h) : ObjOk P w H h a (SetXO P w a l) := by
  have ⟨D, ho, r⟩ := R
  exact ⟨R, ⟨_, ho⟩, fun h1 h2 p k => by
    obtain ⟨D, ho, r⟩ := p
    exact ⟨D, k _ ho, r⟩⟩
def PoM (P : Program) (w : World) (a : Addr) (L : List RwM) (h : Heap) : Prop := ∃ es ep t, SetM0 P w h a L es ep t
def SetMO (P : Program) (w : World) (a : Addr) (L : List RwM) : HO := .ext (PoM P w a L)
theorem SetM0.keep {L : List RwM} {es : Array (Int × Value)} {ep : Nat} {t : SetTable} {h2 : Heap} (R : SetM0 P w h a L es ep t) (k : ∀ o, h.get? a = some o → h2.get? a = some o) : SetM0 P w h2 a L es ep t := by
  obtain ⟨⟨o, ho, r⟩, q1, q2, q3, q4, q5, q6⟩ := R
  exact ⟨⟨o, k o ho, r⟩, q1, q2, q3, q4, q5, q6⟩
theorem setMO_new {L : List RwM} (R : PoM P w a L h) : ObjOk P w H h a (SetMO P w a L) := by
  have ⟨es, ep, t, R'⟩ := R
  obtain ⟨o, ho, _⟩ := R'.ob
  exact ⟨R, ⟨o, ho⟩, fun h1 h2 p k => by
    obtain ⟨es, ep, t, p⟩ := p
    exact ⟨es, ep, t, p.keep k⟩⟩
theorem setM0_fresh (h : Heap) : PoM P w h.objs.size [] (h.push (setO0 w)) := ⟨#[], 0, .fresh 0 0 (!w.params.followText "set-order"), ⟨_, Heap.get?_push_size _ rfl, ⟨rfl, rfl, rfl⟩, rfl⟩, rfl, ⟨List.Pairwise.nil, rfl, rfl, .inl rfl, fun x hx => (by cases hx), fun i h j hi => (by simp at hi)⟩, List.nodup_nil, by
  cases w.params.followText "set-order"
  · exact .inr rfl
  · exact .inl rfl, by show 0 * 5 < 7 * 3; decide, by show 0 < 64; decide⟩
end
/-! ### what is asked of a callee: sets made, added to, sorted -/
/-- set(text), its signs all unlike -/
def rSetX (P : Program) (w : World) : List V → Hp → VK → Prop := fun xs H Q => ∃ z : Str, xs = [.str z] ∧ Pl z ∧ (TL.tl z).Nodup ∧ z.length ≤ 1000 ∧ ∀ p H', H p = none → Same H H' → H' p = some (SetXO P w p ((TL.tl z).map sg).reverse) → Q (.ref p) H'
/-- set(list of ints) -/
def rSetI (K : PySem.W.Frag) (w : World) : List V → Hp → VK → Prop := fun xs H Q => ∃ (l : Addr) (ns : List Int), xs = [.ref l] ∧ SqL K H l (ns.map V.int) ∧ ns.length ≤ 1000 ∧ ∀ p c H', H p = none → c ≤ ns.length → Same H H' → H' p = some (SetO w p (fun j => decide (j ∈ ns)) c) → Q (.ref p) H'
def rSetA (K : PySem.W.Frag) (P : Program) (w : World) : List V → Hp → VK → Prop := fun xs H Q => rSetX P w xs H Q ∨ rSetI K w xs H Q
def rMAdd (K : PySem.W.Frag) (P : Program) (w : World) : V → List V → Hp → VK → Prop := fun x xs H Q => ∃ (a : Addr) (L : List RwM) (y : Addr) (k : List Key), x = .ref a ∧ xs = [.ref y] ∧ H a = some (SetMO P w a L) ∧ (∀ p ∈ L, SqT K H p.1 (p.2.map kV)) ∧ SqT K H y (k.map kV) ∧ L.length + 1 < 64 ∧
  ∀ L', ((k ∈ L.map (·.2) ∧ L' = L) ∨ (k ∉ L.map (·.2) ∧ L'.Perm ((y, k) :: L))) → Q .non (upd H a (SetMO P w a L'))
def kD : Key → PyData
  | .inl i => .int i
  | .inr z => .str z
def encM (p : RwM) : PyData := .tuple (p.2.map kD)
def rSortX (P : Program) (w : World) : List V → Hp → VK → Prop := fun vs H Q => ∃ (a : Addr) (l : List Str), vs = [.ref a] ∧ H a = some (SetXO P w a l) ∧ l.Nodup ∧ l.length ≤ 1000 ∧
  ∀ (ys : List Str) p H', ys.Perm l → ys.Pairwise (fun x y => x.cps.toList ≤ y.cps.toList) → H p = none → Same H H' → H' p = some (.lst (ys.map V.str)) → Q (.ref p) H'
def rSortM (K : PySem.W.Frag) (P : Program) (w : World) : List V → Hp → VK → Prop := fun vs H Q => ∃ (a : Addr) (L : List RwM), vs = [.ref a] ∧ H a = some (SetMO P w a L) ∧ (∀ p ∈ L, SqT K H p.1 (p.2.map kV)) ∧ AllAlike (L.map encM) ∧ (∀ p ∈ L, p.2 ≠ []) ∧
  ∀ (L' : List RwM) p H', L'.Perm L → (L.map (·.2)).Nodup → L'.Pairwise (fun x y => dataLe false encM x y = true) → H p = none → Same H H' → H' p = some (.lst (L'.map fun q => V.ref q.1)) → Q (.ref p) H'
def rSortedA (K : PySem.W.Frag) (P : Program) (w : World) : List V → Hp → VK → Prop := fun vs H Q => (rSortedS K vs H Q ∨ rSortX P w vs H Q) ∨ (rSortedSet w vs H Q ∨ rSortM K P w vs H Q)
section
variable {X : Cx}
theorem all128 {z : Str} (h : Pl z) : z.cps.all (· < 128) = true := by
  rw [Array.all_eq_true']
  intro c hc
  exact decide_eq_true (h c (by simpa using hc))
theorem cr_setX (hc : X.calm = true) : CallR X (.type "set") (rSetX X.prog X.w) := by
  intro pins s σ H xs us Q I r h
  obtain ⟨z, rfl, pz, nd, lz, q⟩ := h
  cases r with
  | cons r1 r2 =>
    cases r2
    obtain ⟨u, rfl⟩ := r1
    have hn : H s.heap.objs.size = none := I.hok.fresh (Nat.le_refl _)
    refine set_text (P := X.prog) (w := X.w) (all128 pz) nd (by have : z.length = z.cps.toList.length := by simp [Str.length]
                                                                unfold scanBound; omega) (I.ok.hd hc) fun h' tk po k => ?_
    exact ⟨.ref _, upd H s.heap.objs.size (SetXO X.prog X.w s.heap.objs.size _), I.laid (t' := tk) k (Nat.le_refl _) (setXO_new po), rfl, q _ _ hn (sm_new hn) upd_same⟩
theorem cr_setI (hc : X.calm = true) : CallR X (.type "set") (rSetI X.K X.w) := by
  intro pins s σ H xs us Q I r h
  obtain ⟨l, ns, rfl, hl, lz, q⟩ := h
  rw [Vals.ref1 r]
  obtain ⟨its, rv, pl, hz⟩ := I.list hl
  have hn : H s.heap.objs.size = none := I.hok.fresh (Nat.le_refl _)
  refine set_ints (P := X.prog) (w := X.w) ns (I.ok.hd hc) pl.isList (by simpa using rv.ints) (by unfold scanBound; omega) fun h' tk ⟨c, hc', R⟩ k => ?_
  exact ⟨.ref _, upd H s.heap.objs.size (SetO X.w s.heap.objs.size _ c), I.laid (t' := tk) k (Nat.le_refl _) (setO_new R), rfl, q _ c _ hn hc' (sm_new hn) upd_same⟩
theorem cr_setA (K : PySem.W.Frag) (P : Program) (w : World) (hc : X.calm = true := by rfl) (hK : X.K = K := by rfl) (hP : X.prog = P := by rfl) (hw : X.w = w := by rfl) : CallR X (.type "set") (rSetA K P w) := by
  subst hK
  subst hP
  subst hw
  intro pins s σ H xs us Q I r h
  rcases h with h | h
  · exact cr_setX hc pins s σ H xs us Q I r h
  · exact cr_setI hc pins s σ H xs us Q I r h
theorem mem_of_vals {P : Program} {w : World} : ∀ {k : List Key} {us : List Value}, Vals (k.map kV) us → ItemsAre (mixKind P w) k us
  | [], _, .nil => .nil
  | .inl i :: k, _, .cons r t => by
    obtain ⟨tk, rfl⟩ := r
    exact .cons (by show keyIs (.inl i) (.int i tk) = true; simp [keyIs, Value.isInt]) (mem_of_vals t)
  | .inr z :: k, _, .cons r t => by
    obtain ⟨tk, rfl⟩ := r
    exact .cons (by show keyIs (.inr z) (.str z tk) = true; simp [keyIs, Value.isStrOf]) (mem_of_vals t)
theorem isM_of {pins : List (Addr × Obj)} {σ : L2.St} {H : Hp} {s : Shared} {b : Addr} {k : List Key} (I : Inv X pins σ H s) (h : SqT X.K H b (k.map kV)) : IsM X.prog X.w s.heap k b := by
  obtain ⟨its, r, ⟨o, ho, hc, n, hd⟩, _⟩ := I.tuple h
  exact ⟨o, its.toArray, n, ho, hc, hd, by simpa using mem_of_vals r⟩
theorem mt_madd (hu : X.A.units + 64 < cLine) : MtR X "set.add" (rMAdd X.K X.prog X.w) := by
  intro pins s σ H x xs v us Q I rx rxs h
  obtain ⟨a, L, y, k, rfl, rfl, ha, hL, hy, few, q⟩ := h
  cases rx
  rw [Vals.ref1 rxs]
  obtain ⟨es, ep, t, R⟩ : PoM X.prog X.w a L s.heap := (I.hok a _ ha).1
  obtain ⟨o, ho, hex, hd⟩ := R.ob
  refine wpAny_call_entry F.slot_set_add ⟨o, ho, hex.1⟩ F.entry_set_add ?_ (F.args_set_add_2 _ _)
  unfold Builtin.«set.add» Builtin.Frozenset.oneOther
  simp only [List.isEmpty_nil, bind_assoc]
  unfold Builtin.Frozenset.addrOf setAdd
  refine wpAny_bind (wpAny_pure ?_)
  try dsimp only
  refine wpAny_bind (wpAny_pure ?_)
  try dsimp only
  refine wpAny_bind (wpAny_holding (wpAny_bind ?_))
  have kx := isM_of I hy
  have hM : AllM X.prog X.w s.heap L := fun p hp => isM_of I (hL p hp)
  have ux : X.A.in1.units ≤ X.A.units + 1 := by first | exact Nat.le_refl _ | exact Nat.le_succ _ | simp
  refine wpAny_pyHash_tuple (by omega) kx ?_
  refine m_add (s := { s with toks := s.toks + (k.length + 1) }) R hM kx (by omega) few fun b h' L' es' ep' t' sb R' cs => ?_
  show wpAny _ _ (ret Value.none) _ _ _
  have he : ∃ u, h'.get? a = some u := by
    obtain ⟨u, hu, _⟩ := R'.ob
    exact ⟨u, hu⟩
  exact wpAny_pure ⟨_, rfl, .non, _, I.write (e := a) (t' := s.toks + (k.length + 1)) (by rw [ha]; trivial) (.inl rfl) (fun b u hb e => (sb.2 b hb).trans e) he (setMO_new ⟨es', ep', t', R'⟩), rfl, q L' cs⟩
theorem vals_refs : ∀ L : List RwM, Vals (L.map fun q => V.ref q.1) (L.map fun q => Value.ref q.1)
  | [] => .nil
  | _ :: L => .cons rfl (vals_refs L)
theorem vals_toks : ∀ B : List (Str × Tok), Vals (B.map fun q => V.str q.1) (B.map fun q => Value.str q.1 q.2)
  | [] => .nil
  | b :: B => .cons ⟨b.2, rfl⟩ (vals_toks B)
/-- a new list was laid, nothing else -/
theorem laid_list {pins : List (Addr × Obj)} {σ : L2.St} {H : Hp} {s s' : Shared} {p : Addr} {out : Array Value} {c : Nat} {ys : List V} {Q : VK} (I : Inv X pins σ H s) (k : ∀ b o, s.heap.get? b = some o → s'.heap.get? b = some o) (g : s'.gens = s.gens) (o : s'.os = s.os)
    (hp : s.heap.objs.size ≤ p) (hg : s'.heap.get? p = some (seqObj "list" out c)) (hv : Vals ys out.toList) (hl : ys.length ≤ 100000) (q : ∀ H', H p = none → Same H H' → H' p = some (.lst ys) → Q (.ref p) H') : EP X pins σ Q (.ref p) s' := by
  have hn : H p = none := I.hok.fresh hp
  have J : Inv X pins σ (upd H p (.lst ys)) { s with heap := s'.heap, gens := s'.gens, drawn := s'.drawn, toks := s'.toks } := I.call (ch := []) (Un.laid k hp hn) (I.hok.laid k hp ⟨sz_of hl, out.toList, c, hv, hg⟩) (by rw [g]; exact I.bare) (fun _ z => nomatch z)
  have e : s' = { s with heap := s'.heap, gens := s'.gens, drawn := s'.drawn, toks := s'.toks } := by
    cases s'
    cases s
    cases o
    rfl
  rw [e]
  exact ⟨.ref p, _, J, rfl, q _ hn (sm_new hn) upd_same⟩
theorem is_str_shape {P : Program} {w : World} {es : List (Int × Value)} (h : ElemsOf (strKind P w) es) : ∃ B : List (Str × Tok), es.map (·.2) = B.map fun q => Value.str q.1 q.2 := by
  induction es with
  | nil => exact ⟨[], rfl⟩
  | cons e es ih =>
    obtain ⟨B, hB⟩ := ih fun x hx => h x (List.mem_cons_of_mem _ hx)
    obtain ⟨⟨k, hk, _⟩, _⟩ := h e (List.mem_cons_self ..)
    obtain ⟨t, ht⟩ := Value.isStrOf_shape (show Value.isStrOf k e.2 = true from hk)
    exact ⟨(k, t) :: B, by rw [List.map_cons, List.map_cons, hB, ht]⟩
theorem perm_of_sub {α : Type} [DecidableEq α] : ∀ (l m : List α), l.Nodup → (∀ x ∈ l, x ∈ m) → m.length ≤ l.length → l.Perm m
  | [], m, _, _, hl => by
    rw [List.eq_nil_of_length_eq_zero (Nat.le_zero.mp hl)]
  | x :: l, m, nd, hs, hl => by
    have hx := hs x (List.mem_cons_self ..)
    have pm : m.Perm (x :: m.erase x) := List.perm_cons_erase hx
    obtain ⟨n1, n2⟩ := List.nodup_cons.mp nd
    have ll := pm.length_eq
    rw [List.length_cons] at ll hl
    refine ((perm_of_sub l (m.erase x) n2 (fun y hy => ?_) (by omega)).cons x).trans pm.symm
    exact (List.mem_erase_of_ne (fun e => n1 (by rw [← e]; exact hy))).mpr (hs y (List.mem_cons_of_mem _ hy))
theorem cr_sortX (hc : X.calm = true) (hu : X.A.units + 64 < cLine) : CallR X (.builtin "sorted") (rSortX X.prog X.w) := by
  intro pins s σ H vs us Q I r h
  obtain ⟨a, l, rfl, ha, nd, ll, q⟩ := h
  rw [Vals.ref1 r]
  obtain ⟨D, ho, tx, ri, ld⟩ : PoX X.prog X.w a l s.heap := (I.hok a _ ha).1
  obtain ⟨es, ep, t⟩ := D
  obtain ⟨B, hB⟩ := is_str_shape tx.el
  have lB : B.length = l.length := by
    have h1 := congrArg List.length hB
    rw [List.length_map, List.length_map, Array.length_toList] at h1
    rw [← h1]
    exact tx.sz
  have pB : (B.map (·.1)).Perm l := by
    refine (perm_of_sub l (B.map (·.1)) nd (fun x hx => ?_) (by rw [List.length_map]; omega)).symm
    obtain ⟨e, he, hk⟩ := (tx.mem x).mp hx
    have h2 : e.2 ∈ B.map fun q => Value.str q.1 q.2 := by
      rw [← hB]
      exact List.mem_map.mpr ⟨e, he, rfl⟩
    obtain ⟨b, hb, eb⟩ := List.mem_map.mp h2
    obtain ⟨t, ht⟩ := Value.isStrOf_shape (show Value.isStrOf x e.2 = true from hk)
    rw [ht] at eb
    injection eb with e1 e2
    exact List.mem_map.mpr ⟨b, hb, e1⟩
  have sz : es.size = l.length := tx.sz
  refine sorted_gen (fun q : Str × Tok => Value.str q.1 q.2) (fun q => .str q.1) B ⟨_, ho, rfl, rfl⟩ tx.fit (by rw [sz]; unfold scanBound; omega) ri ld (I.ok.hd hc) hu hB (fun b _ _ _ => .str b.1 b.2) (AllAlike.of fun _ _ => rfl) (Sortable.others fun _ => ⟨(by intro z; cases z), (by intro _ z; cases z)⟩)
    (fun _ _ => by simp [PyData.depth]) fun s' p out c B' k g o hp hg hv pm pw => ?_
  refine laid_list I k g o hp hg (ys := (B'.map (·.1)).map V.str) (by rw [hv, List.map_map]; exact vals_toks B') (by rw [List.length_map, List.length_map, pm.length_eq, lB]; omega) fun H' hn sp ep => q (B'.map (·.1)) p H' ((pm.map _).trans pB) ?_ hn sp ep
  rw [List.pairwise_map]
  refine pw.imp fun {x y} hxy => ?_
  rw [PySem.W.dataLe_str] at hxy
  exact of_decide_eq_true hxy
theorem reads_keys {h : Heap} : ∀ {k : List Key} {vs : List Value}, ItemsAre (mixKind X.prog X.w) k vs → ReadsAll h vs (k.map kD) []
  | _, _, .nil => .nil
  | _, _, .cons (k := k) q r => by
    have t := reads_keys (h := h) r
    rcases keyIs_shape q with ⟨i, u, rfl, rfl⟩ | ⟨z, u, rfl, rfl⟩
    · exact .cons (as := []) (.int i u) t
    · exact .cons (as := []) (.str z u) t
theorem dep_keys : ∀ k : List Key, PyData.depthAll (k.map kD) = 0
  | [] => by simp [PyData.depthAll]
  | .inl i :: k => by simp [PyData.depthAll, kD, PyData.depth, dep_keys k]
  | .inr z :: k => by simp [PyData.depthAll, kD, PyData.depth, dep_keys k]
theorem cr_sortM (hc : X.calm = true) (hu : X.A.units + 64 < cLine) : CallR X (.builtin "sorted") (rSortM X.K X.prog X.w) := by
  intro pins s σ H vs us Q I r h
  obtain ⟨a, L, rfl, ha, hL, al, ne, q⟩ := h
  rw [Vals.ref1 r]
  obtain ⟨es, ep, t, R⟩ : PoM X.prog X.w a L s.heap := (I.hok a _ ha).1
  obtain ⟨o, ho, hex, hd⟩ := R.ob
  have sz := size_rw R.rw_
  have few := R.few
  refine sorted_gen (fun q : RwM => Value.ref q.1) encM L ⟨o, ho, hex.1, hd⟩ R.fits (by unfold scanBound; omega) R.tab.ris R.ld (I.ok.hd hc) hu (by rw [R.rw_, List.map_map]; rfl) (fun b hb h' kk => ?_) al (.inl fun d hd => ?_) (fun b _ => ?_) fun s' p out c L' k g o hp hg hv pm pw => ?_
  · obtain ⟨u, its, n, hu1, hc1, hd1, hi⟩ := isM_of I (hL b hb)
    exact .tuple (kk _ _ hu1) hc1 hd1 (reads_keys hi)
  · obtain ⟨b, hb, rfl⟩ := List.mem_map.mp hd
    have h1 := ne b hb
    unfold encM
    cases hk : b.2 with
    | nil => exact absurd hk h1
    | cons x r => exact ⟨_, _, rfl⟩
  · unfold encM
    simp only [PyData.depth, dep_keys]
    decide
  · exact laid_list I k g o hp hg (ys := L'.map fun q => V.ref q.1) (by rw [hv]; exact vals_refs L') (by rw [List.length_map, pm.length_eq]; omega) fun H' hn sp ep => q L' p H' pm R.one pw hn sp ep
theorem cr_sortedA (K : PySem.W.Frag) (P : Program) (w : World) (hu : X.A.units + 64 < cLine) (hc : X.calm = true := by rfl) (hK : X.K = K := by rfl) (hP : X.prog = P := by rfl) (hw : X.w = w := by rfl) : CallR X (.builtin "sorted") (rSortedA K P w) := by
  subst hK
  subst hP
  subst hw
  intro pins s σ H xs us Q I r h
  rcases h with (h | h) | (h | h)
  · exact cr_sortedS pins s σ H xs us Q I r h
  · exact cr_sortX hc hu pins s σ H xs us Q I r h
  · exact cr_sortedSet hc pins s σ H xs us Q I r h
  · exact cr_sortM hc hu pins s σ H xs us Q I r h
end
/-! ### set comprehensions -/
def nSg (O : Addr → HO) (r : V → List V → Hp → VK → Prop) (J : It) (g : TG) (tt : TT) (te : TE) (vs : List Nat) (σ : L2.St) (H1 : Hp) (Q : VK) : Prop := ∀ D, H1 D = none → ∃ W : Nat → Nat → Hp → Prop, (∃ m, W 0 m (upd H1 D (O D))) ∧ ∀ i m H, W i m H →
  (J.stop i H ∧ Q (.ref D) H) ∨ (J.go i H ∧ ∃ Nx : Hp → Prop, (∀ H', Nx H' → ∃ m', m' < m ∧ W (i + 1) m' H') ∧ ∀ x H', J.yld i H x H' → g x (wipe σ vs) H' fun σ2 H2 => wipe σ2 vs = wipe σ vs ∧ tt σ2 H2 fun b H3 => if b = true then te σ2 H3 fun y H4 => r (.ref D) [y] H4 fun _ H5 => Nx H5 else Nx H3)
section
variable {σ : L2.St} {H : Hp} {Q : VK} {te : TE} {tt : TT} {wi : TI} {g : TG} {n : Nat} {vs : List Nat} {J : It} {G : Hp → Prop} {Y : Nat → Hp → V → Hp → Prop} {O : Addr → HO} {r : V → List V → Hp → VK → Prop} {K : PySem.W.Frag} {P : Program} {w : World}
theorem k_sg (h : wi σ H fun J H1 => nSg O r J g tt te vs σ H1 Q) : tSg O r wi g tt te vs σ H Q := h
theorem sg_it (wk : Walk J n G Y) {D : Addr} (Pv : Nat → Hp → Prop) (h0 : Pv 0 (upd H D (O D))) (hG : ∀ i H', i ≤ n → Pv i H' → G H')
    (hs : ∀ i x H1 H2, i < n → Pv i H1 → Y i H1 x H2 → g x (wipe σ vs) H2 fun σ2 H3 => wipe σ2 vs = wipe σ vs ∧ tt σ2 H3 fun b H4 => nIte b (te σ2 H4 fun y H5 => r (.ref D) [y] H5 fun _ H6 => Pv (i + 1) H6) (Pv (i + 1) H4))
    (hd : ∀ H', Pv n H' → Q (.ref D) H') : ∃ W : Nat → Nat → Hp → Prop, (∃ m, W 0 m (upd H D (O D))) ∧ ∀ i m H, W i m H →
      (J.stop i H ∧ Q (.ref D) H) ∨ (J.go i H ∧ ∃ Nx : Hp → Prop, (∀ H', Nx H' → ∃ m', m' < m ∧ W (i + 1) m' H') ∧ ∀ x H', J.yld i H x H' → g x (wipe σ vs) H' fun σ2 H2 => wipe σ2 vs = wipe σ vs ∧ tt σ2 H2 fun b H3 => if b = true then te σ2 H3 fun y H4 => r (.ref D) [y] H4 fun _ H5 => Nx H5 else Nx H3) := by
  refine ⟨fun i m H' => m = n - i ∧ i ≤ n ∧ Pv i H', ⟨n, by simp, Nat.zero_le _, h0⟩, fun i m H' hW => ?_⟩
  obtain ⟨rfl, hi, p⟩ := hW
  have gg := hG i H' hi p
  by_cases lt : i < n
  · exact .inr ⟨wk.goes i H' lt gg, Pv (i + 1), fun H2 p2 => ⟨n - (i + 1), by omega, rfl, lt, p2⟩, fun x H2 y => hs i x H' H2 lt p (wk.yields i H' x H2 lt gg y)⟩
  · obtain rfl : i = n := by omega
    exact .inl ⟨wk.stops H' gg, hd H' p⟩
/-- one of tuples of ints and texts -/
theorem k_nSgM (wk : Walk J n G Y) (hG : ∀ H', Same H H' → G H') (hn : n ≤ 62) (Pv : Nat → List (List Key) → Prop) (h0 : Pv 0 [])
    (hs : ∀ (i : Nat) (x : V) (H1 H2 : Hp) (ms : List (List Key)) (Kp : VK) (Ks : Hp → Prop), i < n → Same H H1 → Pv i ms → Y i H1 x H2 → (∀ k T H5, Same H1 H5 → SqT K H5 T (k.map kV) → Pv (i + 1) (ms ++ [k]) → Kp (.ref T) H5) → (∀ H5, Same H1 H5 → Pv (i + 1) ms → Ks H5) →
      g x (wipe σ vs) H2 fun σ2 H3 => wipe σ2 vs = wipe σ vs ∧ tt σ2 H3 fun b H4 => nIte b (te σ2 H4 Kp) (Ks H4))
    (hd : ∀ (p : Addr) (H' : Hp) (ms : List (List Key)) (L : List RwM), H p = none → Same H H' → H' p = some (SetMO P w p L) → (∀ q ∈ L, SqT K H' q.1 (q.2.map kV)) → (∀ k, k ∈ L.map (·.2) ↔ k ∈ ms) → L.length ≤ n → Pv n ms → Q (.ref p) H') : nSg (fun D => SetMO P w D []) (rMAdd K P w) J g tt te vs σ H Q := by
  intro p hp
  refine sg_it (O := fun D => SetMO P w D []) wk (fun i H' => ∃ (ms : List (List Key)) (L : List RwM), L.length ≤ i ∧ Same H H' ∧ H' p = some (SetMO P w p L) ∧ (∀ q ∈ L, SqT K H' q.1 (q.2.map kV)) ∧ (∀ k, k ∈ L.map (·.2) ↔ k ∈ ms) ∧ Pv i ms) ⟨[], [], Nat.le_refl _, sm_new hp, upd_same, fun q hq => (nomatch hq), fun k => Iff.rfl, h0⟩ (fun i H' _ h => ?_) (fun i x H1 H2 hi h hy => ?_) fun H' h => ?_
  · obtain ⟨ms, L, _, s1, _⟩ := h
    exact hG H' s1
  · obtain ⟨ms, L, hl, s1, e1, t1, m1, q1⟩ := h
    refine hs i x H1 H2 ms _ _ hi s1 q1 hy (fun k T H5 s5 hT q5 => ⟨p, L, T, k, rfl, rfl, s5 p _ e1, fun q hq => sm_t s5 (t1 q hq), hT, by omega, fun L' cs => ?_⟩) fun H5 s5 q5 => ⟨ms, L, by omega, s1.trans s5, s5 p _ e1, fun q hq => sm_t s5 (t1 q hq), m1, q5⟩
    have keepT : ∀ {b : Addr} {xs : List V}, SqT K H5 b xs → SqT K (upd H5 p (SetMO P w p L')) b xs := fun {b xs} hb => by
      rcases hb with hb | hb
      · refine .inl ?_
        have hp5 := s5 p _ e1
        rcases hb with hb | ⟨o, hb⟩
        · exact .inl (by rw [upd_ne (ne_of hb hp5 (fun z => by cases z))]; exact hb)
        · exact .inr ⟨o, by rw [upd_ne (ne_of hb hp5 (fun z => by cases z))]; exact hb⟩
      · exact .inr hb
    have t5 : ∀ q ∈ L, SqT K (upd H5 p (SetMO P w p L')) q.1 (q.2.map kV) := fun q hq => keepT (sm_t s5 (t1 q hq))
    rcases cs with ⟨hk, rfl⟩ | ⟨hk, pm⟩
    · refine ⟨ms ++ [k], L', by omega, sm_mut (s1.trans s5) hp, upd_same, t5, fun j => ?_, q5⟩
      rw [m1, List.mem_append, List.mem_singleton]
      exact ⟨.inl, fun z => z.elim id fun e => by rw [e]; exact (m1 k).mp hk⟩
    · refine ⟨ms ++ [k], L', by rw [pm.length_eq, List.length_cons]; omega, sm_mut (s1.trans s5) hp, upd_same, fun q hq => ?_, fun j => ?_, q5⟩
      · rcases List.mem_cons.mp (pm.mem_iff.mp hq) with rfl | hq
        · exact keepT hT
        · exact t5 q hq
      · rw [(pm.map (·.2)).mem_iff, List.map_cons, List.mem_cons, m1, List.mem_append, List.mem_singleton]
        exact Or.comm
  · obtain ⟨ms, L, hl, s1, e1, t1, m1, q1⟩ := h
    exact hd p H' ms L hp s1 e1 t1 m1 hl q1
end
section
variable {X : Cx} {elt tg it0 : Expr} {ifs : List Expr} {sc : Scope} {own : List (PySem.Str × Nat)} {pos : Pos} {wi : TI} {g : TG} {tt : TT} {te : TE}
theorem pe_sgM (K : PySem.W.Frag) (P : Program) (w : World) (hu : X.A.units + 64 < cLine) (hN : X.N.Nodup) (hi : PI X tg it0 wi) (ok : BlkOk X.N X.env.scope sc own)
    (hg : ∀ s H C cl fp, PG (bx X sc s H C cl fp) tg g) (ht : ∀ s H C cl fp, PTs (bx X sc s H C cl fp) ifs tt) (he : ∀ s H C cl fp, PE (bx X sc s H C cl fp) elt te) (hc : X.calm = true := by rfl) (hK : X.K = K := by rfl) (hP : X.prog = P := by rfl) (hw : X.w = w := by rfl) (hs : ∀ x, foldedSetIterable it0 X.env x = pure x := by intro _; rfl) :
    PE X (.SetComp elt [⟨tg, it0, ifs, 0⟩] sc pos) (tSg (fun D => SetMO P w D []) (rMAdd K P w) wi g tt te (own.map (·.2))) := by
  subst hw
  subst hK
  subst hP
  exact pe_sg (fun h H => setMO_new (setM0_fresh h)) (fun _ _ _ _ _ => mt_madd hu) hc hN hi ok hg ht he hs
end
end Gk
set_option Elab.async false
set_option autoImplicit false
set_option linter.all false
set_option maxRecDepth 100000
set_option maxHeartbeats 4000000
/-! # Own classes, dicts, lists that grow: rules by name, steps -/
namespace Gk
open PySem PySem.Spec PyProof.Rows L2
open PySem.W (EachIs AllAlike Sortable dataLe dataLt alike keyToks)
/-- a callee that may raise, asked where it does not -/
theorem passX {P : Program} {w : World} {X : Cx} : Passes (L2.CX P w) X E0 := fun _ _ _ _ _ _ _ h => by
  obtain ⟨_, _, _, _, _, _, _, _, _, _, _, _, z⟩ := h
  exact z.elim
/-- .. and its exceptions are this def's -/
theorem passE {X : Cx} {E : XK} (tk : Takes X (fun cls d _ H => E cls d H)) : Passes (L2.CX X.prog X.w) X E := fun _ _ _ _ e s' I c => tk e s' (XE.of_call I (fun _ _ _ h => h) c)
/-- a tuple that stands in the written part under the module's name x -/
structure GloT (K : PySem.W.Frag) (mg : Str → Option Value) (x : Str) (xs : List V) : Prop where
  g : mg x = some (.ref (He.ga K x))
  t : ∀ H, SqT K H (He.ga K x) xs
theorem pe_gt {X : Cx} {K : PySem.W.Frag} {x : Str} {xs : List V} {pos : Pos} (h : GloT K X.mg x xs) (hg : Gl X x := by rfl) (hd : (x == ("__debug__" : Str)) = false := by decide) : PE X (.Name x pos) (tC (.ref (He.ga K x))) := pe_gr h.g hg hd
/-- the names of a comprehension's block within another's -/
def rlb (s1 s0 : Scope) : Scope := { s1 with names := s1.names.map fun (n, k) => if (k == .free && s0.kind == .function && s0.names.lookup n == some .cell) then (n, .cell) else (n, k) }
/-! ### methods, instances -/
/-- the method m of the class under the module's name C keeps sp -/
structure CalleeM (P : Program) (w : World) (K : PySem.W.Frag) (mg : Str → Option Value) (base : Heap) (CX : CXT) (C m : Str) (k : Nat) (sp : Sp) : Prop where
  cls : Cls K (He.ga K C)
  me : Meth K (He.ga K C) m (He.ma K (He.ga K C) m)
  ex : ∃ fd ps, FnOk P w K mg base CX k (He.ma K (He.ga K C) m) fd ps sp ∧ Binds K fd ps []
/-- the class under the module's name C, made with n values and the keywords ks -/
structure OwnMk (P : Program) (w : World) (K : PySem.W.Frag) (mg : Str → Option Value) (base : Heap) (CX : CXT) (C : Str) (k n : Nat) (ks : List Str) (gV : List V → List V → List V) (sp : Sp) : Prop where
  gC : mg C = some (.ref (He.ga K C))
  mkr : Mk K (He.ga K C) (He.ma K (He.ga K C) "__init__")
  ex : ∃ fd ps, FnOk P w K mg base CX k (He.ma K (He.ga K C) "__init__") fd ps sp ∧ ∃ g : List Value → List Value → List Value, KBn K fd ps (n + 1) ks g gV
section
variable {X : Cx} {K : PySem.W.Frag} {CX : CXT} {k j n : Nat} {sp : Sp} {C m x : Str} {p pos apos : Pos} {o e : Expr} {es : List Expr} {ta : TE} {t tk : TA} {ks : List Str} {gV : List V → List V → List V} {kws : List Keyword} {pl : Sem Bool}
theorem pe_mt0 (c : CalleeM X.prog X.w K X.mg X.base CX C m k sp) (hr : Room j X.A) (he : PE X o ta) (hx : Passes CX X E0) (hK : X.K = K := by rfl) (hj : k ≤ j := by first | decide | omega)
    (ht : eval (.Call (.Attribute o m apos) [] [] pos) X.env = (do
      let ov ← eval o X.env
      standAt apos.atName
      let (f, first) ← holding [ov] (getMethod ov m pl)
      callWith pos f first (backTo pos (starEach [] X.env)) (backToKw pos (keywordEach [] X.env))) := by rfl) : PE X (.Call (.Attribute o m apos) [] [] pos) (tMeth (He.ga K C) m sp [] E0 ta tNil) := by
  subst hK
  obtain ⟨fd, ps, F, hb⟩ := c.ex
  exact pe_meth0 he c.cls c.me F (hr.mono hj) hb .nil hx ht
theorem pe_mt1 (c : CalleeM X.prog X.w K X.mg X.base CX C m k sp) (hr : Room j X.A) (he : PE X o ta) (ha : PA X (e :: es) t) (hx : Passes CX X E0) (hK : X.K = K := by rfl) (hj : k ≤ j := by first | decide | omega) (hst : starEach (e :: es) X.env = (false, eval e X.env) :: starEach es X.env := by rfl) (hpl : (backTo pos (starEach es X.env)).any (·.1) = false := by rfl)
    (ht : eval (.Call (.Attribute o m apos) (e :: es) [] pos) X.env = (do
      let ov ← eval o X.env
      standAt apos.atName
      let (f, first) ← holding [ov] (getMethod ov m pl)
      callWith pos f first (backTo pos (starEach (e :: es) X.env)) (backToKw pos (keywordEach [] X.env))) := by rfl) : PE X (.Call (.Attribute o m apos) (e :: es) [] pos) (tMeth (He.ga K C) m sp [] E0 ta t) := by
  subst hK
  obtain ⟨fd, ps, F, hb⟩ := c.ex
  exact pe_meth he c.cls c.me F (hr.mono hj) hb .nil hx ha hst hpl ht
theorem pe_mkK (c : OwnMk X.prog X.w K X.mg X.base CX x k n ks gV sp) (hr : Room j X.A) (ha : PA X (e :: es) t) (hkw : PK X kws tk) (hx : Passes CX X E0) (hK : X.K = K := by rfl) (hj : k + 1 ≤ j := by first | decide | omega) (hg : Gl X x := by rfl)
    (hall : (backToKw pos (keywordEach kws X.env)).all (·.1.isSome) = true := by rfl) (hks : (backToKw pos (keywordEach kws X.env)).filterMap (·.1) = ks := by rfl) (hdb : (x == ("__debug__" : Str)) = false := by decide)
    (he : starEach (e :: es) X.env = (false, eval e X.env) :: starEach es X.env := by rfl) (hpl : ((backTo pos (starEach (e :: es) X.env)).any (·.1) || (backToKw pos (keywordEach kws X.env)).any (·.1.isNone)) = false := by rfl) :
    PE X (.Call (.Name x p) (e :: es) kws pos) (tMakeK (He.ga K x) n ks.length sp gV E0 t tk) := by
  subst hK
  obtain ⟨fd, ps, F, g, hb⟩ := c.ex
  exact pe_makeK c.mkr F (hr.mono hj) hg c.gC hb hx ha hkw hall hks hdb he hpl
end
/-! ### steps -/
def nMeth (C : Addr) (m : Str) (x : V) (H : Hp) (A : Prop) : Prop := ∃ a dx fs, x = .ref a ∧ H a = some (.ins C dx fs) ∧ fs.lookup m = none ∧ A
def nFld (K : PySem.W.Frag) (f : Str) (x : V) (H : Hp) (Q : VK) : Prop := ∃ a C dx fs v, x = .ref a ∧ H a = some (.ins C dx fs) ∧ Cls K C ∧ NoAttr K C f ∧ fs.lookup f = some v ∧ Q v H
def nSFld (K : PySem.W.Frag) (f : Str) (y x : V) (H : Hp) (R : Hp → Prop) : Prop := ∃ a C dx fs, x = .ref a ∧ H a = some (.ins C dx fs) ∧ Cls K C ∧ NoAttr K C f ∧ fs.length < 1000 ∧ R (upd H a (.ins C dx (putF f y fs)))
def nDg (x y : V) (H : Hp) (Q : VK) : Prop := ∃ a v, x = .ref a ∧ DGet H a y (some v) ∧ Q v H
def nDp (x y v : V) (H : Hp) (R : Hp → Prop) : Prop := ∃ a H4, x = .ref a ∧ DPut H a y v H4 ∧ R H4
def nPairs (trs : List (TE × TE)) (σ : L2.St) (H : Hp) (R : List (V × V) → Hp → Prop) : Prop := tPairs trs σ H R
section
variable {K : PySem.W.Frag} {σ : L2.St} {H : Hp} {Q : VK} {D : Ends} {ta tv td ty tx : TE} {t tk : TA} {a C dx : Addr} {fs : List (Str × V)} {m f : Str} {x y v : V} {A : Prop} {sp : Sp} {dvs : List V} {E : XK} {R : Hp → Prop} {kvs : List (Key × V)} {k : Key} {trs : List (TE × TE)} {xs : List V} {n j : Nat} {gV : List V → List V → List V}
theorem k_meth (h : ta σ H fun x H1 => nMeth C m x H1 (t σ H1 fun vs H2 => sp (x :: (vs ++ dvs)) H2 Q E)) : tMeth C m sp dvs E ta t σ H Q := h
theorem k_nMeth (hp : H a = some (.ins C dx fs)) (hl : fs.lookup m = none) (h : A) : nMeth C m (.ref a) H A := ⟨a, dx, fs, rfl, hp, hl, h⟩
theorem k_fld (h : ta σ H fun x H1 => nFld K f x H1 Q) : tFld K ta f σ H Q := h
theorem k_nFld (hp : H a = some (.ins C dx fs)) (c : Cls K C) (n : NoAttr K C f) (hl : fs.lookup f = some v) (h : Q v H) : nFld K f (.ref a) H Q := ⟨a, C, dx, fs, v, rfl, hp, c, n, hl, h⟩
theorem k_sfld (h : tv σ H fun y H1 => ta σ H1 fun x H2 => nSFld K f y x H2 fun H3 => D.nx σ H3) : sFld K ta tv f D σ H := h
theorem k_nSFld (hp : H a = some (.ins C dx fs)) (c : Cls K C) (n : NoAttr K C f) (hl : fs.length < 1000) (h : R (upd H a (.ins C dx (putF f y fs)))) : nSFld K f y (.ref a) H R := ⟨a, C, dx, fs, rfl, hp, c, n, hl, h⟩
theorem k_dg (h : td σ H fun x H1 => ty σ H1 fun y H2 => nDg x y H2 Q) : tDGet td ty σ H Q := h
theorem k_nDg (hp : H a = some (.dK kvs)) (hl : valV kvs (.inr m) = some v) (h : Q v H) : nDg (.ref a) (.str m) H Q := ⟨a, v, rfl, by rw [← hl]; exact DGet.k (k := .inr m) hp, h⟩
theorem k_dg2 (h : td σ H fun x H1 => ∃ a, x = .ref a ∧ IsD H1 a ∧ ty σ H1 fun y H2 => tx σ H2 fun z H3 => ∃ o, DGet H3 a y o ∧ Q (o.getD z) H3) : tDGet2 td ty tx σ H Q := h
theorem k_dp (h : tv σ H fun v H1 => td σ H1 fun x H2 => ty σ H2 fun y H3 => nDp x y v H3 fun H4 => D.nx σ H4) : sDPut td ty tv D σ H := h
theorem k_nDp (hp : H a = some (.dK kvs)) (hl : kvs.length < 1000) (h : R (upd H a (.dK (putK kvs (.inr m) v)))) : nDp (.ref a) (.str m) v H R := ⟨a, _, rfl, DPut.k (k := .inr m) hp (sz_lt (by omega)), h⟩
theorem k_disp (h : ∀ p, H p = none → nPairs trs σ (upd H p (.dK [])) fun ps H2 => H2 p = some (.dK []) ∧ ∃ kvs : List (Key × V), ps = kvs.map (fun kv => (kV kv.1, kv.2)) ∧ kvs.length ≤ 15 ∧ Q (.ref p) (upd H2 p (.dK (mergeK [] kvs)))) : tDisp trs σ H Q := h
theorem k_pr0 {R : List (V × V) → Hp → Prop} (h : R [] H) : nPairs [] σ H R := h
theorem k_pr {R : List (V × V) → Hp → Prop} (h : ta σ H fun x H1 => tv σ H1 fun y H2 => nPairs trs σ H2 fun ps H3 => R ((x, y) :: ps) H3) : nPairs ((ta, tv) :: trs) σ H R := h
theorem k_append (hp : H a = some (.lst xs)) (hl : xs.length < 100000) (h : Q .non (upd H a (.lst (xs ++ [y])))) : rAppend (.ref a) [y] H Q := ⟨a, xs, y, rfl, rfl, hp, sz_lt (by omega), h⟩
theorem k_makeK (h : t σ H fun vs H1 => tk σ H1 fun zs H2 => vs.length = n ∧ zs.length = j ∧ ∀ x dx, H2 x = none → H2 dx = none → dx ≠ x → sp (gV (.ref x :: vs) zs) (upd (upd H2 dx (.own x)) x (.ins C dx [])) (fun v H3 => v = .non ∧ Q (.ref x) H3) E) : tMakeK C n j sp gV E t tk σ H Q := h
end
/-! ### a comprehension of two fors -/
def nIn (D : Addr) (J : It) (g : TG) (tt : TT) (te : TE) (vs : List Nat) (σ : L2.St) (H0 : Hp) (Nx : Hp → Prop) : Prop := ∃ W1 : Nat → Nat → Hp → Prop, (∃ m, W1 0 m H0) ∧ ∀ j k H, W1 j k H →
  (J.stop j H ∧ Nx H) ∨ (J.go j H ∧ ∃ Nx1 : Hp → Prop, (∀ H', Nx1 H' → ∃ k', k' < k ∧ W1 (j + 1) k' H') ∧ ∀ x H', J.yld j H x H' → g x (wipe σ vs) H' fun σ3 H5 => wipe σ3 vs = wipe σ vs ∧ tt σ3 H5 fun b H6 =>
    if b = true then te σ3 H6 fun y H7 => ∃ acc, H7 D = some (.lst acc) ∧ acc.length < sizeLine ∧ Nx1 (upd H7 D (.lst (acc ++ [y]))) else Nx1 H6)
def nLc2 (J : It) (g : TG) (tt : TT) (wi1 : TI) (g1 : TG) (tt1 : TT) (te : TE) (vs vs1 : List Nat) (σ : L2.St) (H1 : Hp) (Q : VK) : Prop := ∀ D, H1 D = none → ∃ W : Nat → Nat → Hp → Prop, (∃ m, W 0 m (upd H1 D (.lst []))) ∧ ∀ i m H, W i m H →
  (J.stop i H ∧ Q (.ref D) H) ∨ (J.go i H ∧ ∃ Nx : Hp → Prop, (∀ H', Nx H' → ∃ m', m' < m ∧ W (i + 1) m' H') ∧ ∀ x H', J.yld i H x H' → g x (wipe σ vs) H' fun σ2 H2 => wipe σ2 vs = wipe σ vs ∧ tt σ2 H2 fun b H3 =>
    if b = true then wi1 σ2 H3 fun J1 H4 => nIn D J1 g1 tt1 te vs1 σ2 H4 Nx else Nx H3)
section
variable {σ : L2.St} {H Hb : Hp} {Q : VK} {te : TE} {tt tt1 : TT} {wi wi1 : TI} {g g1 : TG} {n : Nat} {vs vs1 : List Nat} {J : It} {G : Hp → Prop} {Y : Nat → Hp → V → Hp → Prop} {D : Addr} {Nx : Hp → Prop} {ws0 : List V}
theorem k_lc2 (h : wi σ H fun J H1 => nLc2 J g tt wi1 g1 tt1 te vs vs1 σ H1 Q) : tLc2 wi g tt wi1 g1 tt1 te vs vs1 σ H Q := h
theorem k_nIn (wk : Walk J n G Y) (sb : Same Hb H) (hD : Hb D = none) (e0 : H D = some (.lst ws0)) (hG : ∀ H', Same Hb H' → G H') (Pv : Nat → List V → Prop) (h0 : Pv 0 ws0) (hz : ∀ i ws, i ≤ n → Pv i ws → ws.length ≤ 50000)
    (hs : ∀ (i : Nat) (x : V) (H1 H2 : Hp) (ws : List V) (Kp : VK) (Ks : Hp → Prop), i < n → Same Hb H1 → Pv i ws → Y i H1 x H2 → (∀ y H5, Same H1 H5 → Pv (i + 1) (ws ++ [y]) → Kp y H5) → (∀ H5, Same H1 H5 → Pv (i + 1) ws → Ks H5) →
      g x (wipe σ vs) H2 fun σ2 H3 => wipe σ2 vs = wipe σ vs ∧ tt σ2 H3 fun b H4 => nIte b (te σ2 H4 Kp) (Ks H4))
    (hd : ∀ H' ws, Same Hb H' → H' D = some (.lst ws) → Pv n ws → Nx H') : nIn D J g tt te vs σ H Nx := by
  refine ⟨fun i m H' => m = n - i ∧ i ≤ n ∧ ∃ ws, Same Hb H' ∧ H' D = some (.lst ws) ∧ Pv i ws, ⟨n, by simp, Nat.zero_le _, ws0, sb, e0, h0⟩, fun i m H' hW => ?_⟩
  obtain ⟨rfl, hi, ws, s1, e1, q1⟩ := hW
  by_cases lt : i < n
  · refine .inr ⟨wk.goes i H' lt (hG H' s1), fun H2 => ∃ ws, Same Hb H2 ∧ H2 D = some (.lst ws) ∧ Pv (i + 1) ws, fun H2 p2 => ⟨n - (i + 1), by omega, rfl, lt, p2⟩, fun x H2 y => ?_⟩
    exact hs i x H' H2 ws _ _ lt s1 q1 (wk.yields i H' x H2 lt (hG H' s1) y) (fun y H5 s5 q5 => ⟨ws, s5 D _ e1, sz_lt (by have := hz i ws (by omega) q1; omega), ws ++ [y], sm_mut (s1.trans s5) hD, upd_same, q5⟩) (fun H5 s5 q5 => ⟨ws, s1.trans s5, s5 D _ e1, q5⟩)
  · obtain rfl : i = n := by omega
    exact .inl ⟨wk.stops H' (hG H' s1), hd H' ws s1 e1 q1⟩
theorem k_nLc2 (wk : Walk J n G Y) (hG : ∀ H', Same H H' → G H') (Pv : Nat → List V → Prop) (h0 : Pv 0 [])
    (hs : ∀ (i : Nat) (x : V) (D : Addr) (H1 H2 : Hp) (ws : List V) (Nx : Hp → Prop), i < n → H D = none → Same H H1 → H1 D = some (.lst ws) → Pv i ws → Y i H1 x H2 → (∀ H5 ws', Same H H5 → H5 D = some (.lst ws') → Pv (i + 1) ws' → Nx H5) →
      g x (wipe σ vs) H2 fun σ2 H3 => wipe σ2 vs = wipe σ vs ∧ tt σ2 H3 fun b H4 => nIte b (wi1 σ2 H4 fun J1 H5 => nIn D J1 g1 tt1 te vs1 σ2 H5 Nx) (Nx H4))
    (hd : ∀ (p : Addr) (H' : Hp) (ws : List V), H p = none → Same H H' → H' p = some (.lst ws) → Pv n ws → Q (.ref p) H') : nLc2 J g tt wi1 g1 tt1 te vs vs1 σ H Q := by
  intro p hp
  refine ⟨fun i m H' => m = n - i ∧ i ≤ n ∧ ∃ ws, Same H H' ∧ H' p = some (.lst ws) ∧ Pv i ws, ⟨n, by simp, Nat.zero_le _, [], sm_new hp, upd_same, h0⟩, fun i m H' hW => ?_⟩
  obtain ⟨rfl, hi, ws, s1, e1, q1⟩ := hW
  by_cases lt : i < n
  · exact .inr ⟨wk.goes i H' lt (hG H' s1), fun H2 => ∃ ws, Same H H2 ∧ H2 p = some (.lst ws) ∧ Pv (i + 1) ws, fun H2 p2 => ⟨n - (i + 1), by omega, rfl, lt, p2⟩, fun x H2 y => hs i x p H' H2 ws _ lt hp s1 e1 q1 (wk.yields i H' x H2 lt (hG H' s1) y) fun H5 ws' s5 e5 q5 => ⟨ws', s5, e5, q5⟩⟩
  · obtain rfl : i = n := by omega
    exact .inl ⟨wk.stops H' (hG H' s1), hd p H' ws hp s1 e1 q1⟩
end
/-! ### slices, places -/
theorem cutV_to (xs : List V) (n : Nat) : cutV xs none (some (n : Int)) = xs.take n := by
  unfold cutV
  rw [HT.sIx_nat]
  show ((xs.drop 0).take (min n xs.length - 0)) = xs.take n
  rw [List.drop_zero, Nat.sub_zero, ← List.take_eq_take_min]
/-- the first place of a sign -/
theorem occ_one {cs : List Nat} {c i : Nat} (h : cs[i]? = some c) (hf : ∀ j, j < i → cs[j]? ≠ some c) : ∃ rest, Builtin.Str.occurrences (tx cs) ⟨#[c]⟩ 0 (tx cs).length 1 = i :: rest := by
  have h1 := StrLaws.occ_head (tx cs) ⟨#[c]⟩ 1 (Nat.le_refl _)
  have at_ : ∀ j, StrLaws.At (tx cs) ⟨#[c]⟩ (tx cs).length j ↔ cs[j]? = some c := fun j => StrLaws.subAt_one (tx cs) c j
  rcases h1 with ⟨_, h1⟩ | ⟨j, r, e, hj, hk⟩
  · exact absurd ((at_ i).mpr h) (h1 i)
  · rw [at_] at hj
    have : i = j := by
      rcases Nat.lt_trichotomy i j with z | z | z
      · exact absurd ((at_ i).mpr h) (hk i z)
      · exact z
      · exact absurd hj (hf j z)
    exact ⟨r, by rw [e, this]⟩
/-! ### fields that are laid -/
section
variable {P : Prop} [Decidable P] {A B : Prop}
theorem k_decT (hp : P) (h : A) : nIte (decide P) A B := k_dec (fun _ => h) fun z => absurd hp z
theorem k_decF (hp : ¬ P) (h : B) : nIte (decide P) A B := k_dec (fun z => absurd z hp) fun _ => h
end
theorem k_allT {K : PySem.W.Frag} {H : Hp} {Q : VK} {a : Addr} {xs : List V} (n : Nat) (e : xs = List.replicate n (.bl true)) (hx : H a = some (.lst xs)) (h : Q (.bl true) H) : rAll K [.ref a] H Q := by
  refine k_all (bs := List.replicate n true) (sq_l (by rw [hx, e, List.map_replicate])) ?_
  rw [show (List.replicate n true).all id = true by simp]
  exact h
/-- all tests of a comprehension are true -/
theorem k_nLcT {σ : L2.St} {H : Hp} {Q : VK} {te : TE} {g : TG} {n : Nat} {vs : List Nat} {J : It} {G : Hp → Prop} {Y : Nat → Hp → V → Hp → Prop} (wk : Walk J n G Y) (hn : n ≤ 50000) (hG : ∀ H', Same H H' → G H')
    (hs : ∀ (i : Nat) (x : V) (H1 H2 : Hp) (Kp : VK), i < n → Same H H1 → Y i H1 x H2 → (∀ H5, Same H1 H5 → Kp (.bl true) H5) → g x (wipe σ vs) H2 fun σ2 H3 => wipe σ2 vs = wipe σ vs ∧ te σ2 H3 Kp)
    (hd : ∀ (p : Addr) (H' : Hp), H p = none → Same H H' → H' p = some (.lst (List.replicate n (.bl true))) → Q (.ref p) H') : nLc J g tYes te vs σ H Q := by
  refine k_nLc wk hG (fun i ws => ws = List.replicate i (.bl true)) rfl (fun i ws hi e => by rw [e, List.length_replicate]; omega) (fun i x H1 H2 ws Kp Ks hi s1 e hy h1 _ => ?_) (fun p H' ws hp s1 e1 e => hd p H' hp s1 (by rw [e1, e]))
  exact hs i x H1 H2 Kp hi s1 hy fun H5 s5 => h1 _ H5 s5 (by rw [e, List.replicate_succ'])
/-! ### sets, steps -/
section
variable {K : PySem.W.Frag} {P : Program} {w : World} {H : Hp} {Q : VK} {a : Addr} {z : Str}
theorem k_setX (pz : Pl z) (nd : (TL.tl z).Nodup) (lz : z.length ≤ 1000) (h : ∀ p H', H p = none → Same H H' → H' p = some (SetXO P w p ((TL.tl z).map sg).reverse) → Q (.ref p) H') : rSetA K P w [.str z] H Q := .inl ⟨z, rfl, pz, nd, lz, h⟩
theorem k_sortX {l : List Str} (ha : H a = some (SetXO P w a l)) (nd : l.Nodup) (hl : l.length ≤ 1000) (h : ∀ (ys : List Str) p H', ys.Perm l → ys.Pairwise (fun x y => x.cps.toList ≤ y.cps.toList) → H p = none → Same H H' → H' p = some (.lst (ys.map V.str)) → Q (.ref p) H') : rSortedA K P w [.ref a] H Q := .inl (.inr ⟨a, l, rfl, ha, nd, hl, h⟩)
theorem k_sortM {L : List RwM} (ha : H a = some (SetMO P w a L)) (hL : ∀ p ∈ L, SqT K H p.1 (p.2.map kV)) (al : AllAlike (L.map encM)) (ne : ∀ p ∈ L, p.2 ≠ [])
    (h : ∀ (L' : List RwM) p H', L'.Perm L → (L.map (·.2)).Nodup → L'.Pairwise (fun x y => dataLe false encM x y = true) → H p = none → Same H H' → H' p = some (.lst (L'.map fun q => V.ref q.1)) → Q (.ref p) H') : rSortedA K P w [.ref a] H Q := .inr (.inr ⟨a, L, rfl, ha, hL, al, ne, h⟩)
end
theorem eq_le {a : List Nat} : ∀ {b : List Nat}, a.Pairwise (· ≤ ·) → b.Pairwise (· ≤ ·) → a.Perm b → a = b := by
  induction a with
  | nil => exact fun _ _ p => (List.nil_perm.mp p).symm
  | cons x a ih =>
    intro b ha hb p
    cases b with
    | nil => exact absurd p.length_eq (by simp)
    | cons y b =>
      obtain ⟨a1, a2⟩ := List.pairwise_cons.mp ha
      obtain ⟨b1, b2⟩ := List.pairwise_cons.mp hb
      have e : x = y := by
        rcases List.mem_cons.mp (p.mem_iff.mp (List.mem_cons_self (a := x) (l := a))) with e | h1
        · exact e
        rcases List.mem_cons.mp (p.mem_iff.mpr (List.mem_cons_self (a := y) (l := b))) with e | h2
        · exact e.symm
        have := b1 _ h1
        have := a1 _ h2
        omega
      subst e
      rw [ih a2 b2 (List.Perm.cons_inv p)]
theorem le1 (a b : Nat) (h : ([a] : List Nat) ≤ [b]) : a ≤ b := by
  rcases Nat.lt_or_ge b a with z | z
  · exact absurd (show ([b] : List Nat) < [a] from List.Lex.rel z) h
  · exact z
theorem sorted_sgs {ys : List Str} {cs : List Nat} (hp : ys.Perm (cs.map sg).reverse) (hs : ys.Pairwise (fun x y => x.cps.toList ≤ y.cps.toList)) (hc : cs.Pairwise (· < ·)) : ys = cs.map sg := by
  have p2 : ys.Perm (cs.map sg) := hp.trans (List.reverse_perm _)
  obtain ⟨ds, rfl, pd⟩ := perm_back sg p2 cs rfl
  rw [List.pairwise_map] at hs
  rw [eq_le (hs.imp fun h => le1 _ _ h) (hc.imp fun h => Nat.le_of_lt h) pd]
/-! ### what stands apart from an object that changes -/
section
variable {K : PySem.W.Frag} {H H' : Hp} {a b p C dx : Addr} {xs ws : List V} {o u : HO} {fs : List (Str × V)}
theorem rd_upd (hp : H p = some u) (hu : ∀ v, u ≠ .frz v o) (hn : u ≠ o) (h : Rd H b o) {o2 : HO} : Rd (upd H p o2) b o := by
  rcases h with h | ⟨v, h⟩
  · exact .inl (by rw [upd_ne (ne_of h hp (Ne.symm hn))]; exact h)
  · exact .inr ⟨v, by rw [upd_ne (ne_of h hp (Ne.symm (hu v)))]; exact h⟩
/-- tuples beside a list, an instance -/
theorem t_lst (hp : H p = some (.lst ws)) (h : SqT K H b xs) : SqT K (upd H p o) b xs := h.elim (fun h => .inl (rd_upd hp (fun _ z => by cases z) (fun z => by cases z) h)) .inr
theorem t_ins (hp : H p = some (.ins C dx fs)) (h : SqT K H b xs) : SqT K (upd H p o) b xs := h.elim (fun h => .inl (rd_upd hp (fun _ z => by cases z) (fun z => by cases z) h)) .inr
theorem l_ins (hp : H p = some (.ins C dx fs)) (h : SqL K H b xs) : SqL K (upd H p o) b xs := h.elim (fun h => .inl (rd_upd hp (fun _ z => by cases z) (fun z => by cases z) h)) .inr
theorem t_dk {kvs : List (Key × V)} (hp : H p = some (.dK kvs)) (h : SqT K H b xs) : SqT K (upd H p o) b xs := h.elim (fun h => .inl (rd_upd hp (fun _ z => by cases z) (fun z => by cases z) h)) .inr
theorem sm_del : Same (del H p) H := fun b u h => by
  by_cases e : b = p
  · rw [e, del_same] at h
    cases h
  · rw [del_ne e] at h
    exact h
theorem del_mono (s : Same H H') : Same (del H p) (del H' p) := fun b u h => by
  by_cases e : b = p
  · rw [e, del_same] at h
    cases h
  · rw [del_ne e] at h ⊢
    exact s b u h
theorem del_upd : del (upd H p o) p = del H p := by
  funext b
  by_cases e : b = p
  · rw [e, del_same, del_same]
  · rw [del_ne e, del_ne e, upd_ne e]
theorem del_none (h : H p = none) : del H p = H := by
  funext b
  by_cases e : b = p
  · rw [e, del_same, h]
  · rw [del_ne e]
theorem del_t (hp : H p = some (.lst ws)) (h : SqT K H b xs) : SqT K (del H p) b xs := by
  rcases h with (h | ⟨v, h⟩) | h
  · exact .inl (.inl (by rw [del_ne (ne_of h hp (fun z => by cases z))]; exact h))
  · exact .inl (.inr ⟨v, by rw [del_ne (ne_of h hp (fun z => by cases z))]; exact h⟩)
  · exact .inr h
theorem del_l (hb : b ≠ p) (h : SqL K H b xs) : SqL K (del H p) b xs := by
  rcases h with (h | ⟨v, h⟩) | h
  · exact .inl (.inl (by rw [del_ne hb]; exact h))
  · exact .inl (.inr ⟨v, by rw [del_ne hb]; exact h⟩)
  · exact .inr h
end
section
variable {σ : L2.St} {H : Hp} {Q : VK} {te : TE} {tt : TT} {g : TG} {n : Nat} {vs : List Nat} {J : It} {G : Hp → Prop} {Y : Nat → Hp → V → Hp → Prop}
/-- a comprehension whose values are told with the heap (beside the new list) -/
theorem k_nLcD (wk : Walk J n G Y) (hG : ∀ H', Same H H' → G H') (Pv : Nat → List V → Hp → Prop) (hm : ∀ i ws H1 H2, Same H1 H2 → Pv i ws H1 → Pv i ws H2) (h0 : Pv 0 [] H) (hz : ∀ i ws H1, i ≤ n → Pv i ws H1 → ws.length ≤ 50000)
    (hs : ∀ (i : Nat) (x : V) (p : Addr) (H1 H2 : Hp) (ws : List V) (Kp : VK) (Ks : Hp → Prop), i < n → H p = none → Same H H1 → H1 p = some (.lst ws) → Pv i ws (del H1 p) → Y i H1 x H2 → (∀ y H5, Same H1 H5 → Pv (i + 1) (ws ++ [y]) (del H5 p) → Kp y H5) → (∀ H5, Same H1 H5 → Pv (i + 1) ws (del H5 p) → Ks H5) →
      g x (wipe σ vs) H2 fun σ2 H3 => wipe σ2 vs = wipe σ vs ∧ tt σ2 H3 fun b H4 => nIte b (te σ2 H4 Kp) (Ks H4))
    (hd : ∀ (p : Addr) (H' : Hp) (ws : List V), H p = none → Same H H' → H' p = some (.lst ws) → Pv n ws H' → Q (.ref p) H') : nLc J g tt te vs σ H Q := by
  intro p hp
  refine lc_it wk (fun i H' => ∃ ws : List V, Same H H' ∧ H' p = some (.lst ws) ∧ Pv i ws (del H' p)) ⟨[], sm_new hp, upd_same, by rw [del_upd, del_none hp]; exact h0⟩ (fun i H' _ h => ?_) (fun i x H1 H2 hi h hy => ?_) (fun H' h => ?_)
  · obtain ⟨ws, s1, _⟩ := h
    exact hG H' s1
  · obtain ⟨ws, s1, e1, q1⟩ := h
    exact hs i x p H1 H2 ws _ _ hi hp s1 e1 q1 hy (fun y H5 s5 q5 => ⟨ws, s5 p _ e1, sz_lt (by have := hz i ws _ (by omega) q1; omega), ws ++ [y], sm_mut (s1.trans s5) hp, upd_same, by rw [del_upd]; exact q5⟩) (fun H5 s5 q5 => ⟨ws, s1.trans s5, s5 p _ e1, q5⟩)
  · obtain ⟨ws, s1, e1, q1⟩ := h
    exact hd p H' ws hp s1 e1 (hm _ _ _ _ sm_del q1)
end
theorem k_niT {K : PySem.W.Frag} {H : Hp} {Q : VK} {x : V} {p : Addr} {xs : List V} {b : Bool} (hx : SqT K H p xs) (fx : flatV x = true) (fs : xs.all flatV = true) (hi : (!inV x xs) = b) (h : Q (.bl b) H) : rIn K true x (.ref p) H Q := ⟨p, xs, rfl, .inr hx, fx, fs, by
  show Q (.bl (!inV x xs)) H
  rw [hi]
  exact h⟩
/-! ### lists of pairs of numbers, written -/
def tPrs : List (Int × Int) → TA
  | [] => tNil
  | q :: r => tCons (tTup (tCons (tC (.int q.1)) (tCons (tC (.int q.2)) tNil))) (tPrs r)
theorem k_prs {σ : L2.St} : ∀ (ps : List (Int × Int)) {H : Hp} {R : List V → Hp → Prop}, (∀ (Z : List (Addr × Int × Int)) H', Same H H' → Z.map (·.2) = ps → (∀ q ∈ Z, H' q.1 = some (.tup [.int q.2.1, .int q.2.2])) → R (Z.map fun q => V.ref q.1) H') → tPrs ps σ H R
  | [], H, R, h => h [] H (Same.refl _) rfl fun q hq => nomatch hq
  | p :: r, H, R, h => by
    show nTup [.int p.1, .int p.2] H fun y H1 => tPrs r σ H1 fun xs H2 => R (y :: xs) H2
    refine k_nTup (Q := fun y H1 => tPrs r σ H1 fun xs H2 => R (y :: xs) H2) (xs := [.int p.1, .int p.2]) (by show 2 ≤ 100000; decide) (fun T H1 n1 s1 e1 => k_prs r fun Z H2 s2 hz hq => ?_)
    refine h ((T, p) :: Z) H2 (s1.trans s2) (by rw [List.map_cons, hz]) fun q hq2 => ?_
    rcases List.mem_cons.mp hq2 with rfl | hq2
    · exact s2 _ _ e1
    · exact hq q hq2
theorem k_lprs {σ : L2.St} (ps : List (Int × Int)) (hl : ps.length ≤ 100000) {H : Hp} {Q : VK} (h : ∀ (Z : List (Addr × Int × Int)) p H', H p = none → Same H H' → Z.map (·.2) = ps → (∀ q ∈ Z, H' q.1 = some (.tup [.int q.2.1, .int q.2.2])) → H' p = some (.lst (Z.map fun q => V.ref q.1)) → Q (.ref p) H') : tLst (tPrs ps) σ H Q := by
  refine k_lst (k_prs ps fun Z H1 s1 hz hq => ?_)
  have lz : Z.length = ps.length := by rw [← hz, List.length_map]
  refine k_nLst (by rw [List.length_map]; omega) (fun p H2 n2 s2 e2 => h Z p H2 (s1.free n2) (s1.trans s2) hz (fun q hq' => s2 _ _ (hq q hq')) e2)
/-- whatever way it goes, Po holds -/
theorem k_post {σ : L2.St} {H : Hp} {Q : VK} {te : TE} (Po : V → Hp → Prop) (h1 : ∀ Q' : VK, (∀ v H', Po v H' → Q' v H') → te σ H Q') (h2 : ∀ v H', Po v H' → Q v H') : te σ H Q := h1 Q h2
theorem dp_is {K : PySem.W.Frag} {H : Hp} : ∀ ns : List Int, DpAll K H (ns.map V.int) (ns.map PyData.int)
  | [] => .nil
  | n :: r => .cons (.int n) (dp_is r)
theorem dp_ints {K : PySem.W.Frag} {H : Hp} {a : Addr} {ns : List Int} (h : SqL K H a (ns.map V.int)) : Dp K H (.ref a) (.list (ns.map .int)) := .lst h (dp_is ns)
theorem good_ints {ns : List Int} (h : ∀ n ∈ ns, n.natAbs ≤ 2 ^ 63) (hl : ns.length ≤ 50000) (j : Nat) : Good (j + 2) (.list (ns.map .int)) := ⟨by rw [List.length_map]; exact hl, fun e he => by
  obtain ⟨n, hn, rfl⟩ := List.mem_map.mp he
  have := log_nat (h n hn)
  rwa [Int.natAbs_natCast] at this⟩
theorem eqv_nil (ds : List PyData) : PyData.eqv (.list ds) (.list []) = decide (ds = []) := by
  cases ds with
  | nil => simp [PyData.eqv, PyData.eqvAll]
  | cons d r => simp [PyData.eqv, PyData.eqvAll]
/-- a list of ints, is it empty -/
theorem k_neNil {K : PySem.W.Frag} {H : Hp} {Q : VK} {a b : Addr} {ns : List Int} (h1 : SqL K H a (ns.map V.int)) (h2 : SqL K H b []) (hn : ∀ n ∈ ns, n.natAbs ≤ 2 ^ 63) (hl : ns.length ≤ 50000) (h : Q (.bl (!decide (ns = []))) H) : rNeU K (.ref a) (.ref b) H Q := by
  refine k_ne_d (dp_ints h1) (.lst h2 .nil) ((good_ints hn hl 0).shaped (by decide)) (by decide) ?_
  rw [eqv_nil, show decide (ns.map PyData.int = []) = decide (ns = []) by cases ns <;> rfl]
  exact h
end Gk
set_option Elab.async false
set_option autoImplicit false
set_option linter.all false
set_option maxRecDepth 100000
set_option maxHeartbeats 4000000
/-! # LookupErrors with a field, deep membership in tuples, while, slices by codes -/
namespace Gk
open PySem PySem.Spec PyProof.Rows L2
/-! ### the class under the module's name x, over LookupError, made with one value -/
/-! ### deep membership -/
def rNiTD (K : PySem.W.Frag) : R2 := fun x y H Q => ∃ d ds, Dp K H x d ∧ Dp K H y (.tuple ds) ∧ SeqAt.shaped d = true ∧ SeqAt.shaped (.tuple ds) = true ∧ Q (.bl (!(ds.any fun z => PyData.eqv z d))) H
theorem op_niTD {X : Cx} (K : PySem.W.Frag) (hu : X.A.units + 65 < cLine) (hK : X.K = K := by rfl) : OpR X (compareOp .NotIn) (rNiTD K) := by
  subst hK
  intro pins s σ H x y v u Q I rx ry h
  obtain ⟨d, ds, hd, he, sd, se, q⟩ := h
  obtain ⟨as, r1⟩ := Dp.reads I d x v hd rx
  obtain ⟨bs, r2⟩ := Dp.reads I (.tuple ds) y u he ry
  have le := SeqAt.canLay_of_shaped se
  simp only [PyData.canLay0] at le
  exact SeqAt.notIn_tuple_reads r2 r1 le (SeqAt.canLay_of_shaped sd) (room_in_shaped sd hu) ⟨.bl _, H, I, rfl, q⟩
def rNiLD (K : PySem.W.Frag) : R2 := fun x y H Q => ∃ d ds, Dp K H x d ∧ Dp K H y (.list ds) ∧ SeqAt.shaped d = true ∧ SeqAt.shaped (.list ds) = true ∧ Q (.bl (!(ds.any fun z => PyData.eqv z d))) H
theorem op_niLD {X : Cx} (K : PySem.W.Frag) (hu : X.A.units + 65 < cLine) (hK : X.K = K := by rfl) : OpR X (compareOp .NotIn) (rNiLD K) := by
  subst hK
  exact op_notInD hu
/-! ### keys as data -/
def dKey : Key → PyData
  | .inl n => .int n
  | .inr z => .str z
def dKeys (k : List Key) : PyData := .tuple (k.map dKey)
theorem dp_key {K : PySem.W.Frag} {H : Hp} : ∀ k : Key, Dp K H (kV k) (dKey k)
  | .inl n => .int n
  | .inr z => .str z
theorem dpall_keys {K : PySem.W.Frag} {H : Hp} : ∀ k : List Key, DpAll K H (k.map kV) (k.map dKey)
  | [] => .nil
  | x :: r => .cons (dp_key x) (dpall_keys r)
theorem dp_keys {K : PySem.W.Frag} {H : Hp} {T : Addr} {k : List Key} (h : SqT K H T (k.map kV)) : Dp K H (.ref T) (dKeys k) := .tup h (dpall_keys k)
theorem eqv_key (a b : Key) : PyData.eqv (dKey a) (dKey b) = decide (a = b) := by
  cases a with
  | inl n =>
    cases b with
    | inl m =>
      simp only [dKey, PyData.eqv]
      rw [Bool.eq_iff_iff]
      simp
    | inr z => simp [dKey, PyData.eqv]
  | inr n =>
    cases b with
    | inl m => simp [dKey, PyData.eqv]
    | inr z =>
      simp only [dKey, PyData.eqv]
      rw [Bool.eq_iff_iff]
      simp
theorem eqvAll_keys : ∀ a b : List Key, PyData.eqvAll (a.map dKey) (b.map dKey) = decide (a = b)
  | [], [] => by simp [PyData.eqvAll]
  | [], b :: bs => by simp [PyData.eqvAll]
  | a :: as, [] => by simp [PyData.eqvAll]
  | a :: as, b :: bs => by
    rw [List.map_cons, List.map_cons]
    simp only [PyData.eqvAll, eqv_key, eqvAll_keys as bs]
    by_cases h : a = b
    · subst h
      simp
    · simp [h]
theorem eqv_keys (a b : List Key) : PyData.eqv (dKeys a) (dKeys b) = decide (a = b) := by
  unfold dKeys
  simp only [PyData.eqv]
  exact eqvAll_keys a b
theorem any_keys (ks : List (List Key)) (k : List Key) : (ks.map dKeys).any (fun z => PyData.eqv z (dKeys k)) = ks.any fun x => decide (x = k) := by
  rw [List.any_map]
  congr 1
  funext x
  exact eqv_keys x k
/-! ### while -/
def nTurn (W : Nat → L2.St → Hp → Prop) (m : Nat) (tb : TS) (D : Ends) (b : Bool) (σ : L2.St) (H : Hp) : Prop :=
  if b = true then ∃ N : L2.St → Hp → Prop, (∀ σ' H', N σ' H' → ∃ m', m' < m ∧ W m' σ' H') ∧ tb { D with nx := N, ct := N, bk := D.nx } σ H else D.nx σ H
section
variable {c : TT} {tb : TS} {D : Ends} {σ : L2.St} {H : Hp} {W : Nat → L2.St → Hp → Prop} {m : Nat}
theorem k_while (W : Nat → L2.St → Hp → Prop) (h0 : ∃ m, W m σ H) (hs : ∀ m σ H, W m σ H → c σ H fun b H1 => nTurn W m tb D b σ H1) : tWhile c tb D σ H := ⟨W, h0, hs⟩
theorem k_turnT (h : tb { D with nx := fun σ' H' => ∃ m', m' < m ∧ W m' σ' H', ct := fun σ' H' => ∃ m', m' < m ∧ W m' σ' H', bk := D.nx } σ H) : nTurn W m tb D true σ H := by
  unfold nTurn
  rw [if_pos rfl]
  exact ⟨_, fun _ _ h => h, h⟩
theorem k_turnF (h : D.nx σ H) : nTurn W m tb D false σ H := h
theorem k_turnD {P : Prop} [Decidable P] (h1 : P → nTurn W m tb D true σ H) (h2 : ¬ P → nTurn W m tb D false σ H) : nTurn W m tb D (decide P) σ H := by
  by_cases e : P
  · rw [decide_eq_true e]
    exact h1 e
  · rw [decide_eq_false e]
    exact h2 e
end
/-! ### slices by codes, of lists -/
theorem cutS_to (u : List Nat) (n : Int) (h : 0 ≤ n) : cutS (tx u) none (some n) = tx (u.take n.toNat) := by
  refine TL.ext_tl ?_
  obtain ⟨k, rfl⟩ : ∃ k : Nat, n = (k : Int) := ⟨n.toNat, by omega⟩
  rw [tl_cutS, HT.sIx_nat, tl_tx, tl_tx, len_tx]
  show (u.drop 0).take (min k u.length - 0) = _
  rw [List.drop_zero, Nat.sub_zero, Int.toNat_natCast, ← List.take_eq_take_min]
theorem cutS_from (u : List Nat) (n : Int) (h : 0 ≤ n) : cutS (tx u) (some n) none = tx (u.drop n.toNat) := by
  refine TL.ext_tl ?_
  obtain ⟨k, rfl⟩ : ∃ k : Nat, n = (k : Int) := ⟨n.toNat, by omega⟩
  rw [tl_cutS, HT.sIx_nat, tl_tx, tl_tx, len_tx]
  show (u.drop (min k u.length)).take (u.length - min k u.length) = _
  rw [Int.toNat_natCast, List.take_of_length_le (by rw [List.length_drop]; omega)]
  by_cases e : k ≤ u.length
  · rw [Nat.min_eq_left e]
  · rw [Nat.min_eq_right (by omega), List.drop_length, List.drop_of_length_le (by omega)]
theorem cutV_fromI (xs : List V) (n : Int) (h : 0 ≤ n) : cutV xs (some n) none = xs.drop n.toNat := by
  obtain ⟨k, rfl⟩ : ∃ k : Nat, n = (k : Int) := ⟨n.toNat, by omega⟩
  unfold cutV
  rw [HT.sIx_nat]
  show (xs.drop (min k xs.length)).take (xs.length - min k xs.length) = _
  rw [Int.toNat_natCast, List.take_of_length_le (by rw [List.length_drop]; omega)]
  by_cases e : k ≤ xs.length
  · rw [Nat.min_eq_left e]
  · rw [Nat.min_eq_right (by omega), List.drop_length, List.drop_of_length_le (by omega)]
theorem tx_app (u v : List Nat) : tx u ++ tx v = tx (u ++ v) := by
  show (⟨u.toArray ++ v.toArray⟩ : Str) = ⟨(u ++ v).toArray⟩
  congr 1
  simp
theorem tx_nil : (Str.ofString "" : Str) = tx [] := by decide +kernel
theorem tx_eq (u v : List Nat) : decide (tx u = tx v) = decide (u = v) := by
  by_cases h : u = v
  · rw [h, decide_eq_true rfl, decide_eq_true rfl]
  · rw [decide_eq_false h, decide_eq_false fun z => h (tx_inj z)]
/-! ### min, max of two -/
def rMax2 : List V → Hp → VK → Prop := fun xs H Q => ∃ i j, xs = [.int i, .int j] ∧ Q (.int (max i j)) H
def rMin2 : List V → Hp → VK → Prop := fun xs H Q => ∃ i j, xs = [.int i, .int j] ∧ Q (.int (min i j)) H
section
variable {X : Cx} {H : Hp} {Q : VK} {i j : Int}
theorem call_maxK (hc : X.calm = true := by rfl) : CallR X (.builtin "max") rMax2 := fun pins s σ H xs us Q I r h => call_max2 hc pins s σ H xs us Q I r (by
  obtain ⟨i, j, e, q⟩ := h
  refine ⟨i, j, e, ?_⟩
  rw [show (if j > i then j else i) = max i j by split <;> omega]
  exact q)
theorem call_minK (hc : X.calm = true := by rfl) : CallR X (.builtin "min") rMin2 := fun pins s σ H xs us Q I r h => call_min2 hc pins s σ H xs us Q I r (by
  obtain ⟨i, j, e, q⟩ := h
  refine ⟨i, j, e, ?_⟩
  rw [show (if j < i then j else i) = min i j by split <;> omega]
  exact q)
theorem k_min2 (h : Q (.int (min i j)) H) : rMin2 [.int i, .int j] H Q := ⟨i, j, rfl, h⟩
theorem k_max2 (h : Q (.int (max i j)) H) : rMax2 [.int i, .int j] H Q := ⟨i, j, rfl, h⟩
end
theorem u65 {k : Nat} {A : Around} (r : Room k A) : A.units + 65 < cLine := by
  have := r.un
  omega
/-! ### defs called with keywords -/
section
variable {X : Cx} {CX : CXT} {k j n m : Nat} {sp : Sp} {E : XK} {x : Str} {p pos : Pos} {e : Expr} {es : List Expr} {kws : List Keyword} {t tk : TA} {ks : List Str} {gV : List V → List V → List V} {σ : L2.St} {H : Hp} {Q : VK}
end
/-! ### two names at once; None -/
def nPar (i j : Nat) (vs : List V) (σ : L2.St) (H : Hp) (R : L2.St → Hp → Prop) : Prop := ∃ v w, vs = [v, w] ∧ R ((σ.set i (some v)).set j (some w)) H
section
variable {σ : L2.St} {H : Hp} {Q : VK} {D : Ends} {ta : TA} {i j : Nat} {v w : V} {R : L2.St → Hp → Prop} {p : Addr}
theorem k_par (h : ta σ H fun vs H1 => nPar i j vs σ H1 D.nx) : tPar i j ta D σ H := h
theorem k_nPar (h : R ((σ.set i (some v)).set j (some w)) H) : nPar i j [v, w] σ H R := ⟨v, w, rfl, h⟩
theorem k_isNn (h : Q (.bl true) H) : rIsN .non .non H Q := ⟨rfl, h⟩
theorem k_isNr (h : Q (.bl false) H) : rIsN (.ref p) .non H Q := ⟨rfl, h⟩
theorem k_ntNn (h : Q (.bl false) H) : rNotN .non .non H Q := ⟨rfl, h⟩
theorem k_ntNr (h : Q (.bl true) H) : rNotN (.ref p) .non H Q := ⟨rfl, h⟩
end
/-! ### data, in and out -/
section
variable {K : PySem.W.Frag} {H : Hp} {v : V} {d : PyData}
theorem dpall_app : ∀ {vs : List V} {ds : List PyData}, DpAll K H vs ds → Dp K H v d → DpAll K H (vs ++ [v]) (ds ++ [d])
  | _, _, .nil, h => .cons h .nil
  | _, _, .cons a r, h => .cons a (dpall_app r h)
theorem dpall_apps {ws : List V} {es : List PyData} : ∀ {vs : List V} {ds : List PyData}, DpAll K H vs ds → DpAll K H ws es → DpAll K H (vs ++ ws) (ds ++ es)
  | _, _, .nil, h => h
  | _, _, .cons a r, h => .cons a (dpall_apps r h)
theorem dp_tupI {ds : List PyData} (h : Dp K H v (.tuple ds)) : ∃ t ws, v = .ref t ∧ SqT K H t ws ∧ DpAll K H ws ds := by
  cases h with
  | tup h r => exact ⟨_, _, rfl, h, r⟩
theorem dp_strI {z : Str} (h : Dp K H v (.str z)) : v = .str z := by cases h; rfl
theorem dp_intI {n : Int} (h : Dp K H v (.int n)) : v = .int n := by cases h; rfl
theorem dp_tup2I {d1 d2 : PyData} (h : Dp K H v (.tuple [d1, d2])) : ∃ t x y, v = .ref t ∧ SqT K H t [x, y] ∧ Dp K H x d1 ∧ Dp K H y d2 := by
  obtain ⟨t, ws, e, h1, h2⟩ := dp_tupI h
  cases h2 with
  | cons a r =>
    cases r with
    | cons b r =>
      cases r
      exact ⟨t, _, _, e, h1, a, b⟩
theorem dpall_at {vs : List V} {ds : List PyData} {i : Nat} (h : DpAll K H vs ds) (e : ds[i]? = some d) : ∃ x, vs[i]? = some x ∧ Dp K H x d := by
  have hl := dpall_len h
  have hi : i < vs.length := by rw [hl]; exact (List.getElem?_eq_some_iff.mp e).1
  have ei : vs[i]? = some vs[i] := List.getElem?_eq_getElem hi
  obtain ⟨d', h1, h2⟩ := dpall_get h ei
  rw [e] at h1
  cases h1
  exact ⟨_, ei, h2⟩
end
/-! ### int of a bool, an int, a text -/
def rIntT : List V → Hp → VK → Prop := fun xs H Q => ∃ a n, xs = [.str a] ∧ PySem.intText? a = some n ∧ a.length ≤ 640 ∧ Q (.int n) H
def rIntU : List V → Hp → VK → Prop := fun xs H Q => ((∃ i, xs = [.int i] ∧ Q (.int i) H) ∨ ∃ k, xs = [.bl k] ∧ Q (.int (if k then 1 else 0)) H) ∨ rIntT xs H Q
theorem call_intU {X : Cx} : CallR X (.type "int") rIntU := CallR.or call_int1 call_int_str
theorem k_intB {H : Hp} {Q : VK} {b : Bool} (h : Q (.int (if b then 1 else 0)) H) : rIntU [.bl b] H Q := .inl (.inr ⟨b, rfl, h⟩)
/-! ### exceptions of the text with their word alone -/
abbrev veT : List Value := [.type "ValueError", .type "Exception", .type "BaseException", .type "object"]
theorem bsf_value : Bsf "ValueError" "ValueError.__new__" "ValueError.__init__" veT := ⟨PySem.F.excBase_ValueError, PySem.F.store_ValueError.passes, by decide +kernel, rfl⟩
theorem refs_ex : ∀ {l : List Value}, PySem.HandSPX.refsVE l = true → ∃ cs : List Addr, l = cs.map Value.ref ++ veT := by
  intro l
  induction l with
  | nil => intro h; exact absurd h (by decide)
  | cons a r ih =>
    intro h
    rcases PySem.HandSPX.refsVE_cases (a :: r) h with ⟨c, r', e, h2⟩ | e
    · obtain ⟨rfl, rfl⟩ := List.cons.inj e
      obtain ⟨cs, e⟩ := ih h2
      exact ⟨c :: cs, by rw [e]; rfl⟩
    · exact ⟨[], e⟩
theorem oexG_of {K : PySem.W.Frag} {C : Addr} (T : OexC K C) : OexG K C "ValueError.__new__" veT := by
  obtain ⟨nm, q, N, bs, bm, sn, sub, ab, col, dd, k0, k1, k2, k3, k5, hC, hb⟩ := T.cls
  obtain ⟨cs, rfl⟩ := refs_ex hb
  exact ⟨⟨nm, q, N, bs, cs, sn, sub, ab, col, dd, k0, k1, k2, k3, k5, hC⟩, T.sa, T.exC, T.tyC, T.kC⟩
theorem pmk_oexG0 {X : Cx} {x : Str} {p pos : Pos} {tl : List Value} {B newId initId : String} {CX : CXT} {C fI : Addr} {k : Nat} {fd : FuncData} {ps : List Str} {sp : Sp} (b : Bsf B newId initId tl) (T : OexG X.K C newId tl) (iC : PySem.W.findIn X.K (.ref C) "__init__" = some (some (.ref fI))) (tI : PySem.W.typeIn X.K (.ref fI) = some (.type "function"))
    (F1 : FnOk X.prog X.w X.K X.mg X.base CX k fI fd ps sp) (hr : Room (k + 1) X.A) (hb : Binds X.K fd ps []) (hx : Passes CX X (fun _ _ _ => False)) (hg : Gl X x) (hm : X.mg x = some (.ref C)) (hdb : (x == ("__debug__" : Str)) = false := by decide) : PMk X (.Call (.Name x p) [] [] pos) (tMkO C sp [] tNil) := by
  intro pins s σ H Q I h
  obtain ⟨nm, q, N, bs, cs, sn, sub, ab, col, dd, k0, k1, k2, k3, k5, hC⟩ := T.cls
  obtain ⟨hz, q1⟩ := h
  refine wpAny_Call_Name_kw (ld_glob I hg hm (PySem.W.callWith_K0 I.kIn T.kC ?_) hdb)
  show wpAny _ _ (call (.ref C) []) _ _ _
  obtain ⟨hp, g, dr, tk, os⟩ := s
  have hn : H (hp.objs.size + 1) = none := I.hok.fresh (Nat.le_succ _)
  have hq := q1 (hp.objs.size + 1) hn
  have kk : ∀ b o, hp.get? b = some o → ((hp.push (PySem.W.kdv_tup [])).push (PySem.HandSPX.excO C hp.objs.size)).get? b = some o := fun b o z => Heap.get?_push_of_some _ (Heap.get?_push_of_some _ z)
  have I2 := I.laid (t' := tk) (a := hp.objs.size + 1) (o := exo (hp.objs.size + 1) C none) (h' := (hp.push (PySem.W.kdv_tup [])).push (PySem.HandSPX.excO C hp.objs.size)) kk (Nat.le_succ _) (exo_ok (t1 := hp.objs.size) (by heap_get))
  have r2 : Vals [V.ref (hp.objs.size + 1)] [Value.ref (hp.objs.size + 1)] := .cons rfl .nil
  have l2 : [Value.ref (hp.objs.size + 1)].length = ps.length := r2.length.symm.trans (F1.len _ _ _ _ hq)
  have b2 := hb _ [Value.ref (hp.objs.size + 1)] I2.kIn (by rw [List.append_nil]; exact l2)
  rw [List.append_nil] at b2
  refine wpAny_call (PySem.HandSPX.call_own b.F (fun Y => line_has Y cs) (I.kIn _ _ hC) (PySem.W.looks_findIn I.kIn iC) (fun self => PySem.W.bind_fn I.kIn self tI) (Nat.zero_le _) (codeAny_mono (F1.run _ X.stack _ _ _ _ _ _ _ (hr.make C [] []) (I2.env0.make C [] []) b2 r2 hq) fun r s' hq' => ?_))
  cases r with
  | error er => exact hx pins σ _ _ er s' I2 hq'
  | ok fl =>
    cases fl with
    | ret u =>
      obtain ⟨v, H2, os2, bare2, un2, hok2, rv, ev, d, fs, ea, ed, hd1, q2⟩ := hq'
      subst ev
      obtain ⟨h2, g2, d2, t2, os'⟩ := s'
      exact ⟨rv, mk_end (raises_own T.exC T.tyC) I (Nat.le_succ _) kk un2 hok2 os2 bare2 ea ed hd1 q2⟩
    | _ => exact False.elim hq'
def spX0 (C : Addr) (nm : Str) : Sp := fun vs H Q _ => ∃ a : Addr, vs = [.ref a] ∧ H a = some (exo a C none) ∧ ∀ d H', H d = none → d ≠ a → H' = upd (upd H d (exd d [("word", .str nm)])) a (exo a C (some d)) → Q .non H'
structure XCls0 (P : Program) (w : World) (K : PySem.W.Frag) (mg : Str → Option Value) (base : Heap) (x : Str) (k : Nat) (nm : Str) : Prop where
  gC : mg x = some (.ref (He.ga K x))
  O : Oex K (He.ga K x) (He.ma K (He.ga K x) "__init__")
  nw : PySem.W.findIn K (.ref (He.ga K x)) "word" = some none
  F : ∃ fd ps, FnOk P w K mg base CX0 k (He.ma K (He.ga K x) "__init__") fd ps (spX0 (He.ga K x) nm) ∧ Binds K fd ps []
theorem pmk_x0 {X : Cx} {x nm : Str} {k j : Nat} {p pos : Pos} {K : PySem.W.Frag} (c : XCls0 X.prog X.w K X.mg X.base x k nm) (hr : Room j X.A) (hx : ∀ E, Passes CX0 X E := by exact fun _ => fun _ _ _ _ _ _ _ h => h.elim) (hK : X.K = K := by rfl) (hj : k + 1 ≤ j := by first | decide | omega) (hg : Gl X x := by rfl) (hdb : (x == ("__debug__" : Str)) = false := by decide) :
    PMk X (.Call (.Name x p) [] [] pos) (tMkO (He.ga K x) (spX0 (He.ga K x) nm) [] tNil) := by
  subst hK
  obtain ⟨fd, ps, F1, hb⟩ := c.F
  exact pmk_oexG0 bsf_value (oexG_of c.O.T) c.O.iC c.O.tI F1 (hr.mono hj) hb (hx _) hg c.gC hdb
theorem x0_read {K : PySem.W.Frag} {C : Addr} {nm : Str} (T : OexC K C) (nw : PySem.W.findIn K (.ref C) "word" = some none) {vs : List V} {H : Hp} {Q : VK} {E : XK} (h : spX0 C nm vs H Q E) {N : List Str} (hN : N.length = 1) :
    tOst K "word" (tVar 0) (tC (.str nm)) { nx := fun _ H' => Q .non H', rt := Q } (L2.start N vs) H := by
  obtain ⟨a, rfl, ha, q⟩ := h
  have es : L2.start N [.ref a] = [some (.ref a)] := by
    unfold L2.start
    rw [hN]
    rfl
  rw [es]
  exact ⟨_, rfl, a, C, rfl, T, nw, .inl ⟨ha, fun d hd ne => q d _ hd ne rfl⟩⟩
theorem k_x0 {C : Addr} {nm : Str} {H1 : Hp} {Q : XK} (h : ∀ d H', H1 d = none → Same H1 H' → H' d = some (.xd [("word", .str nm)]) → Q (.ref C) (some d) H') : nMk C (spX0 C nm) [] [] H1 Q := by
  refine ⟨Nat.zero_le _, fun a ha => ⟨a, rfl, upd_same, fun d H' hd ne e => ?_⟩⟩
  have hd1 : H1 d = none := by
    rw [upd_ne ne] at hd
    exact hd
  refine ⟨rfl, d, [("word", .str nm)], by rw [e, upd_same], by rw [e, upd_ne ne, upd_same], hd1, h d _ hd1 (fun b o hb => ?_) upd_same⟩
  have hba : b ≠ a := ne_of_none hb ha
  have hbd : b ≠ d := ne_of_none hb hd1
  rw [upd_ne hbd, del_ne hba, e, upd_ne hba, upd_ne hbd, upd_ne hba]
  exact hb
/-! ### isinstance(x, str) -/
def isStrD : PyData → Bool
  | .str _ => true
  | _ => false
theorem isi_str {K : PySem.W.Frag} {d : PyData} (nd : ∀ kvs, d ≠ .dict kvs) : PySem.W.kitOne K (.type (tyD d)) (.type "str") = some (isStrD d) := by
  cases d with
  | none => exact kit_ty (show kitB "NoneType" "str" = some false by decide +kernel)
  | bool b => exact kit_ty (show kitB "bool" "str" = some false by decide +kernel)
  | int b => exact kit_ty (show kitB "int" "str" = some false by decide +kernel)
  | str b => exact kit_ty (show kitB "str" "str" = some true by decide +kernel)
  | list b => exact kit_ty (show kitB "list" "str" = some false by decide +kernel)
  | tuple b => exact kit_ty (show kitB "tuple" "str" = some false by decide +kernel)
  | dict kvs => exact absurd rfl (nd kvs)
theorem k_isiS {K : PySem.W.Frag} {H : Hp} {Q : VK} {x : V} {d : PyData} (h : Dp K H x d) (q : Q (.bl (isStrD d)) H) : rIsiU K [x, .ty "str"] H Q := .inr ⟨x, _, _, _, _, rfl, .ty _, dp_ty h, isi_str (dp_nd h), q⟩
section
variable {X : Cx} (K : PySem.W.Frag)
theorem cr_maxK (hc : X.calm = true := by rfl) (hK : X.K = K := by rfl) : CallR X (.builtin "max") (rMax K) := by subst hK; exact cr_max hc
end
theorem k_max {K : PySem.W.Frag} {H : Hp} {Q : VK} {a : Addr} {ns : List Int} (h : SqL K H a (ns.map V.int)) (h0 : 0 < ns.length) (q : ∀ m, m ∈ ns → (∀ y, y ∈ ns → y ≤ m) → Q (.int m) H) : rMax K [.ref a] H Q := ⟨a, ns, rfl, h, h0, q⟩
theorem k_ntBl {H : Hp} {Q : VK} {a b : Bool} (h : Q (.bl (!decide (a = b))) H) : rNotB (.bl a) (.bl b) H Q := ⟨a, b, rfl, rfl, h⟩
end Gk
set_option Elab.async false
set_option autoImplicit false
set_option linter.all false
set_option maxRecDepth 100000
set_option maxHeartbeats 4000000
/-! # enumerate over tuples, rows that are lists or tuples -/
namespace PySem
end PySem
namespace Gk
open PySem PySem.Spec PyProof.Rows L2
end Gk
namespace Gk
open PySem PySem.Spec PyProof.Rows L2
/-! ## lists and tuples alike -/
def SqB (K : PySem.W.Frag) (t : Bool) (H : Hp) (a : Addr) (xs : List V) : Prop := match t with
  | true => SqT K H a xs
  | false => SqL K H a xs
theorem sm_b {K : PySem.W.Frag} {t : Bool} {H H' : Hp} {a : Addr} {xs : List V} (e : Same H H') (h : SqB K t H a xs) : SqB K t H' a xs := match t, h with
  | true, h => sm_t e h
  | false, h => sm_l e h
section
variable {K : PySem.W.Frag} {σ : L2.St} {H : Hp} {Q : VK} {tA : TA} {R : It → Hp → Prop} {t : Bool} {a : Addr} {xs : List V}
theorem k_sl_t {lo hi : Option Int} (hx : SqT K H a xs) (h : ∀ p H2, Same H H2 → SqT K H2 p (cutV xs lo hi) → Q (.ref p) H2) : rSlU K (.ref a) lo hi H Q := by
  refine .inr (.inr ⟨a, xs, rfl, hx, fun hw => ?_, fun _ p hp => h p _ (sm_new hp) (sq_t upd_same)⟩)
  refine h a H (Same.refl _) ?_
  have e : cutV xs lo hi = xs := by
    unfold cutV
    rw [hw.1, hw.2, List.drop_zero, Nat.sub_zero, List.take_length]
  rw [e]
  exact hx
theorem k_len_b (hx : SqB K t H a xs) (h : Q (.int xs.length) H) : rLenU K [.ref a] H Q := match t, hx with
  | true, hx => k_len_t hx h
  | false, hx => k_len_l hx h
end
end Gk
namespace Gk
open PySem PySem.Spec PyProof.Rows L2
/-! ## l.clear(), text * int, list * int -/
section
variable {X : Cx} {K : PySem.W.Frag}
theorem rep_one {α : Type} (x : α) : ∀ n : Nat, (List.replicate n [x]).flatten = List.replicate n x
  | 0 => rfl
  | n + 1 => by rw [List.replicate_succ, List.flatten_cons, rep_one x n, List.replicate_succ]; rfl
end
end Gk
namespace Gk
open PySem PySem.Spec PyProof.Rows L2
/-! ## list(range(a, b)) -/
end Gk
set_option Elab.async false
set_option autoImplicit false
set_option linter.all false
set_option maxRecDepth 100000
set_option maxHeartbeats 4000000
/-! # lambdas without parameters, handed to a def that calls them; a Hook that tells empty tables -/
namespace Gk
open PySem PySem.Spec PyProof.Rows L2 LamX
/-! ## the Hook -/
end Gk
namespace Gk
open PySem PySem.Spec PyProof.Rows L2 LamX
section
variable {X : Cx} {pins : List (Addr × Obj)} {σ : L2.St} {H : Hp} {s : Shared}
/-- x(), in the def that got the lambda; what it raises is wished for at the caller's slots -/
theorem pe_actS {CXg : CXT} {Eg : XK} {Ng : List Str} {qg : Str} {sg : Scope} {g f c' : Addr} {cdg pm ctv : Value} {params : Arguments} {body : Expr} {scope : Scope} {k i : Nat} {a : Str} {pn : List (Addr × Obj)} {xe : Value → Shared → Prop} {W : WX} {tb : XK → TE} {p1 p2 : Pos}
    (I : Inv X pins σ H s) (L : LamS X.env.scope scope) (hf : s.heap.get? f = some (PySem.W.kla_obj "<lambda>" (X.env.qual ++ "<lambda>") params body scope (cloFrom X.env.cells scope.names []) pm c' ctv)) (hfn : H f = none) (hfr : f ∉ frs X.stack)
    (hbind : bindArgs (PySem.W.kla_fn "<lambda>" (X.env.qual ++ "<lambda>") params body scope (cloFrom X.env.cells scope.names []) pm (.ref c') ctv) ⟨[], []⟩ = pure [])
    (tk : Takes ((cxOf CXg X.prog X.w X.K X.mg X.base Ng qg sg g cdg X.A X.stack s H Eg).tr pn xe) W) (hr : Room (k + 1) (X.A.deeper (envOfC qg sg s.heap.objs.size g cdg)))
    (hbody : ∀ (E : XK) (A : Around) (outer : List Env) (s : Shared) (H : Hp), Room k (A.deeper (lamEnv X scope s.heap.objs.size f c')) → PE (lamCx X A outer s H E scope f c') body (tb E))
    (hN : Ng[i]? = some a) (hv : Vis sg a) (hd : (a == ("__debug__" : Str)) = false := by decide) (hcd : (a == ("__classdict__" : Str)) = false := by decide) :
    PE ((cxOf CXg X.prog X.w X.K X.mg X.base Ng qg sg g cdg X.A X.stack s H Eg).tr pn xe) (.Call (.Name a p1) [] [] p2)
      (fun σZ HZ Q => σZ[i]? = some (some (.ref f)) ∧ HZ c' = some (CodeO c' (X.env.qual ++ "<lambda>")) ∧ ∃ (E : XK) (Q' : VK), (∀ cls d H', E cls d H' → W cls d σZ H') ∧ (∀ v H', Q' v H' → Q v H') ∧ tb E σ HZ Q') := by
  refine ⟨fun pinsZ sZ σZ HZ Q IZ h => ?_⟩
  obtain ⟨hs, hc, E, Q', hE, hQ, ht⟩ := h
  refine wpAny_Call_Name_kw (thn ((pe_var (pos := p1) (i := i) hN hv hd hcd).run pinsZ sZ σZ HZ (fun v H1 => v = .ref f ∧ H1 = HZ) IZ ⟨.ref f, hs, rfl, rfl⟩) fun u s1 ⟨v, H1, I1, r1, q1⟩ => ?_)
  obtain ⟨ev, eH⟩ := q1
  subst ev
  rw [eH] at I1
  obtain rfl : u = Value.ref f := r1
  have of1 : s1.heap.get? f = some (PySem.W.kla_obj "<lambda>" (X.env.qual ++ "<lambda>") params body scope (cloFrom X.env.cells scope.names []) pm c' ctv) := I1.base.keep f _ hf hfn hfr (fun z => nomatch (show f ∈ ([] : List Addr) from z))
  refine PySem.W.callWith_F0 ⟨_, _, _, _, of1⟩ ?_
  have un : Un (frs X.stack) [] H HZ s.heap s1.heap := I1.base
  obtain ⟨⟨oc, vs, t, hoc, hdc, hvc⟩, _, _⟩ := I1.hok c' _ hc
  have rc : codeAny (model X.prog X.w) (X.A.deeper (envOfC qg sg s.heap.objs.size g cdg)) (.call (.ref f) ⟨[], []⟩) (CR (L2.CX X.prog X.w) (envOfC qg sg s.heap.objs.size g cdg :: X.stack) X.prog X.w HZ s1 Q' E) s1 := by
    refine PySem.W.kla_callFunE hr.depth of1 rfl L.co L.gen rfl ⟨c', oc, vs, t, rfl, hoc, hdc, hvc⟩ ?_
    rw [hbind]
    refine wpAny_pure (wpAny_newFunctionEnv (fun y hy => (L.own y hy).2) (fun y hy => absurd hy (by simp)) (fun h₁ hns hsb => ⟨I1.nolimit.fresh _ hsb, ?_⟩) L.kind)
    show codeAny _ _ (.expr body (lamEnv X scope s1.heap.objs.size f c')) _ _
    have kp : ∀ b o, s1.heap.get? b = some o → h₁.get? b = some o := fun b o e => hsb.extBut b o (Nat.ne_of_lt (Heap.lt_size e)) (Heap.get?_push_of_some _ e)
    have J : Inv (lamCx X (X.A.deeper (envOfC qg sg s.heap.objs.size g cdg)) (envOfC qg sg s.heap.objs.size g cdg :: X.stack) s1 HZ E scope f c') [] σ HZ { s1 with heap := h₁, toks := s1.toks + ([] : List (Str × Value)).length } :=
      lam_start2 I L I1.env0 hr.hd un hns kp
    refine PySem.W.kla_codeExpr (wpAny_mono ((hbody E _ _ s1 HZ (hr.deeper _)).run [] _ _ HZ Q' J ht) (fun v s' hq => ?_) fun e s' hq => hq)
    obtain ⟨w', H', J', rv, q⟩ := hq
    exact ⟨w', H', J'.os, J'.bare, J'.base, J'.hok, rv, q⟩
  have hx : PassesAt (L2.CX X.prog X.w) ((cxOf CXg X.prog X.w X.K X.mg X.base Ng qg sg g cdg X.A X.stack s H Eg).tr pn xe) σZ E := fun _ _ _ e s' I c => tk e s' (XE.of_call I (fun cls d H' h => hE cls d H' h) c)
  refine wpAny_call (codeAny_mono rc fun r s' hq => ?_)
  cases r with
  | error e => exact hx pinsZ HZ s1 e s' I1 hq
  | ok fl =>
    cases fl with
    | ret u =>
      obtain ⟨v, H', J, rv, q⟩ := I1.after hq
      exact ⟨v, H', J, rv, hQ v H' q⟩
    | next => exact False.elim hq
    | brk => exact False.elim hq
    | cont => exact False.elim hq
end
/-- the def that calls what it got: TT: what it makes of the lambda's reading -/
def GivesS (P : Program) (w : World) (K : PySem.W.Frag) (mg : Str → Option Value) (base : Heap) (A : Around) (outer : List Env) (Ng : List Str) (x : Str) (sg : Scope) (g : Addr) (cdg : Value) (bg : List Stmt) (a : Str) (q : Str) (TT : (XK → Hp → VK → Prop) → Hp → VK → Prop) : Prop :=
  ∀ (f c' : Addr) (s : Shared) (H : Hp) (Q : VK) (tl : XK → Hp → VK → Prop),
    (∀ (W : WX) (pn : List (Addr × Obj)) (xe : Value → Shared → Prop) (p1 p2 : Pos), Takes ((cxOf CX0 P w K mg base Ng x sg g cdg A outer s H E0).tr pn xe) W →
      PE ((cxOf CX0 P w K mg base Ng x sg g cdg A outer s H E0).tr pn xe) (.Call (.Name a p1) [] [] p2) (fun σZ HZ Q => σZ[0]? = some (some (.ref f)) ∧ HZ c' = some (CodeO c' q) ∧ ∃ (E : XK) (Q' : VK), (∀ cls d H', E cls d H' → W cls d σZ H') ∧ (∀ v H', Q' v H' → Q v H') ∧ tl E HZ Q')) →
    H c' = some (CodeO c' q) → TT tl H Q →
    ∃ t, PSs (cxOf CX0 P w K mg base Ng x sg g cdg A outer s H E0) bg t ∧ t { nx := fun _ H' => Q .non H', rt := Q } (L2.start Ng [.ref f]) H
/-- the module's name x stands for a def that calls the lambda that it gets -/
structure CalleeA (P : Program) (w : World) (K : PySem.W.Frag) (mg : Str → Option Value) (base : Heap) (x : Str) (TT : (XK → Hp → VK → Prop) → Hp → VK → Prop) : Prop where
  ex : ∃ (g : Addr) (a : Str) (Ng : List Str) (pg : Arguments) (bg : List Stmt) (sg : Scope) (dV kV doc pm cdv ct oc : Value) (an od : Option Addr) (osl : Array (Option Value)),
    mg x = some (.ref g) ∧ PySem.W.keepIn K (.ref g) = true ∧ K.lookup g = some ⟨oc, od, .func (PySem.W.fnOf x x pg bg sg dV kV doc pm an cdv ct), osl⟩ ∧ PySem.W.codeIn K cdv x = true ∧ L2.Binds K (PySem.W.fnOf x x pg bg sg dV kV doc pm an cdv ct) [a] [] ∧ FnScope Ng [a] sg ∧ Ng[0]? = some a ∧ Vis sg a ∧
      (a == ("__debug__" : Str)) = false ∧ (a == ("__classdict__" : Str)) = false ∧ ∀ (A : Around) (outer : List Env) (q : Str), GivesS P w K mg base A outer Ng x sg g cdv bg a q TT
/-- a def's table of code objects: c, the def's code object -/
structure TabC (X : Cx) (c Pt : Addr) : Prop where
  tb : TabB X.base X.mg c Pt
  code : X.env.code = .ref c
theorem pe_lamS {X : Cx} {x : Str} {TT : (XK → Hp → VK → Prop) → Hp → VK → Prop} {c Pt : Addr} {k j : Nat} {params : Arguments} {body : Expr} {scope : Scope} {t : XK → TE} {p lpos pos : Pos}
    (C : CalleeA X.prog X.w X.K X.mg X.base x TT) (TC : TabC X c Pt) (hr : Room j X.A) (hg : Gl X x) (L : LamS X.env.scope scope) (hdef : defaultsOf params X.env = ([], []))
    (hbind : ∀ (q : Str) (cl : List (Str × Addr)) (pm cv ctv : Value), bindArgs (PySem.W.kla_fn "<lambda>" q params body scope cl pm cv ctv) ⟨[], []⟩ = pure [])
    (hbody : ∀ (E : XK) (A : Around) (outer : List Env) (s : Shared) (H : Hp) (f c' : Addr), Room k (A.deeper (lamEnv X scope s.heap.objs.size f c')) → PE (lamCx X A outer s H E scope f c') body (t E))
    (hj : k + 2 ≤ j := by first | decide | omega) (hdb : (x == ("__debug__" : Str)) = false := by decide) :
    PE X (.Call (.Name x p) [.Lambda params body scope lpos] [] pos) (tLam [(Pt, X.env.qual ++ "<lambda>")] TT t) := by
  obtain ⟨g, a, Ng, pg, bg, sg, dV, kV, doc, pm, cdv, ct, oc, an, od, osl, hm, hk, lk, hcg, hb, Sg, hNg, hva, hd, hcd, hG⟩ := C.ex
  have hr2 : Room (k + 2) X.A := hr.mono hj
  refine ⟨fun pins s σ H Q I h => ?_⟩
  obtain ⟨hT, h⟩ := h
  refine wpAny_Call_Name_kw (ld_glob I hg hm ?_ hdb)
  refine PySem.W.callWith_K (h₀ := X.base) I.ok.mod.kin hk ?_ (by rfl) (by rfl)
  show wpAny _ _ (spliced ((false, eval (.Lambda params body scope lpos) X.env) :: backTo pos (starEach [] X.env))) _ _ s
  refine Calls.spliced_cons (lam_make2 I TC.tb TC.code (List.mem_singleton.mpr rfl) (fun p hp _ => by rw [List.mem_singleton.mp hp]) hT hdef (L.has I.ok) fun f c' pm' ctv H1 s' I1 eN T1 hf hfn hfr hco => ?_)
  refine Calls.spliced_nil ⟨I1.kIn, ?_⟩
  have rc : codeAny (model X.prog X.w) X.A (.call (.ref g) ⟨[.ref f], []⟩) (CR CX0 X.stack X.prog X.w H1 s' Q E0) s' := by
    refine run_ofS (N := Ng) (ps := [a]) (us := [.ref f]) (vs := [.ref f]) lk hcg Sg hr2 I1.env0 (hb s' [.ref f] I1.kIn rfl) (.cons rfl .nil) rfl fun hr' => ?_
    obtain ⟨t', ht', hq'⟩ := hG X.A X.stack (X.env.qual ++ "<lambda>") f c' s' H1 Q (fun E H' Q' => t E σ H' Q') (fun W pn xe p1 p2 tk => pe_actS (i := 0) I1 L hf hfn hfr (hbind _ _ _ _ _) tk hr' (fun E A outer s H hr2 => hbody E A outer s H f c' hr2) hNg hva hd hcd) hco (h H1 eN T1)
    exact ⟨t', ht', hq'⟩
  refine wpAny_call (codeAny_mono rc fun r s2 hq => ?_)
  cases r with
  | error e => exact (show False from hq).elim
  | ok fl =>
    cases fl with
    | ret u => exact I1.after hq
    | next => exact False.elim hq
    | brk => exact False.elim hq
    | cont => exact False.elim hq
/-- from what a head tells of a def -/
theorem CalleeA.of {P : Program} {w : World} {K : PySem.W.Frag} {mg : Str → Option Value} {base : Heap} {x a : Str} {Ng : List Str} {pg : Arguments} {bg : List Stmt} {sg : Scope} {g : Addr} {fd : FuncData} {TT : (XK → Hp → VK → Prop) → Hp → VK → Prop} (F : FunD K x x pg bg sg [] [] g fd) (hm : mg x = some (.ref g)) (Sg : FnScope Ng [a] sg)
    (hb : ∀ (kV doc pm : Value) (an : Option Addr) (cdv ct : Value) (us : List Value), us.length = 1 → bindArgs (PySem.W.fnOf x x pg bg sg .none kV doc pm an cdv ct) ⟨us, []⟩ = pure ([a].zip us)) (hNg : Ng[0]? = some a) (hva : Vis sg a)
    (hG : ∀ (cdv : Value) (A : Around) (outer : List Env) (q : Str), GivesS P w K mg base A outer Ng x sg g cdv bg a q TT) (hd : (a == ("__debug__" : Str)) = false := by decide) (hcd : (a == ("__classdict__" : Str)) = false := by decide) : CalleeA P w K mg base x TT := by
  have b := FunD.bindsN (ps := [a]) F hb
  obtain ⟨oc, od, dV, kV, doc, pm, an, cdv, ct, osl, rfl, lk, hcg, _, _⟩ := F.ex
  exact ⟨g, a, Ng, pg, bg, sg, dV, kV, doc, pm, cdv, ct, oc, an, od, osl, hm, F.kp, lk, hcg, b, Sg, hNg, hva, hd, hcd, hG cdv⟩
/-- as FunD.ok; the code object is told -/
theorem okC {P : Program} {w : World} {K : PySem.W.Frag} {mg : Str → Option Value} {base : Heap} {x qual : Str} {params : Arguments} {body : List Stmt} {scope : Scope} {dvs : List V} {kws : List (Str × V)} {p : He.Defn} {fd : FuncData} {CX : CXT} {N ps : List Str} {k : Nat} {sp : Sp} (F : FunD K x qual params body scope dvs kws (He.fAd K p) fd) (S : FnScope N ps scope) (len : ∀ vs H Q E, sp vs H Q E → vs.length = ps.length)
    (hbody : ∀ (A : Around) (outer : List Env) (s : Shared) (H : Hp) (vs : List V) (Q : VK) (E : XK), Room k (A.deeper (envOfC qual scope s.heap.objs.size (He.fAd K p) (.ref (He.cT K p).1))) → sp vs H Q E →
      ∃ t, PSs (cxOf CX P w K mg base N qual scope (He.fAd K p) (.ref (He.cT K p).1) A outer s H E) body t ∧ t { nx := fun _ H' => Q .non H', rt := Q } (start N vs) H) : FnOk P w K mg base CX (k + 1) (He.fAd K p) fd ps sp := by
  obtain ⟨oc, od, dV, kV, doc, pm, an, cdv, ct, osl, rfl, lk, hcd, _, _⟩ := F.ex
  obtain ⟨c, rfl⟩ := He.codeIn_ref hcd
  have e : He.codeOf K p = c := He.codeOf_eq lk rfl
  subst e
  exact fn_of lk hcd S len fun A outer s H vs Q E hr hsp => hbody A outer s H vs Q E hr hsp
/-! ## heaps behind a lambda -/
section
variable {K : PySem.W.Frag} {H H' : Hp} {a : Addr} {xs : List V} {T : List (Addr × Str)}
theorem k_lam {σ : L2.St} {Q : VK} {TT : (XK → Hp → VK → Prop) → Hp → VK → Prop} {t : XK → TE} (hT : Tabs T H) (h : ∀ H1, ExtN H H1 → Tabs T H1 → TT (fun E H' Q' => t E σ H' Q') H1 Q) : tLam T TT t σ H Q := ⟨hT, h⟩
theorem tabs_sm (s : Same H H') (t : Tabs T H) : Tabs T H' := t.ext s
theorem ext_rd {u : HO} (e : ExtN H H') (n : ∀ ps, u ≠ .tbl ps) (n2 : ∀ o, (HO.frz o u) = (HO.frz o u)) (h : Rd H a u) : Rd H' a u := by
  rcases h with h | ⟨o, h⟩
  · exact Or.inl (e a _ h n)
  · exact Or.inr ⟨o, e a _ h fun ps z => by cases z⟩
theorem ext_l (e : ExtN H H') (h : SqL K H a xs) : SqL K H' a xs := h.elim (fun h => .inl (ext_rd e (fun _ z => by cases z) (fun _ => rfl) h)) .inr
theorem ext_t (e : ExtN H H') (h : SqT K H a xs) : SqT K H' a xs := h.elim (fun h => .inl (ext_rd e (fun _ z => by cases z) (fun _ => rfl) h)) .inr
theorem same_ext (s : Same H H') : ExtN H H' := fun b o h _ => s b o h
end
end Gk
namespace Gk
open PySem PySem.Spec PyProof.Rows L2 LamX
theorem BagOk.ext {H H' : Hp} {b : Addr} (e : ExtN H H') (h : BagOk H b) : BagOk H' b := by
  obtain ⟨c, ns, h1, h2⟩ := h
  exact ⟨c, ns, e _ _ h1 (fun ps z => by unfold bagO at z; cases z), e _ _ h2 fun ps z => by cases z⟩
theorem ext_lst {H H' : Hp} {a : Addr} {xs : List V} (e : ExtN H H') (h : H a = some (.lst xs)) : H' a = some (.lst xs) := e _ _ h fun ps z => by cases z
end Gk
set_option Elab.async false
set_option autoImplicit false
set_option linter.all false
set_option maxRecDepth 100000
set_option maxHeartbeats 4000000
/-! # several clauses `except x as n` -/
namespace Gk
open PySem PySem.Spec PyProof.Rows L2
def wManyAs (K : PySem.W.Frag) (Wout : WX) (D : Ends) : List (Value × Nat × (Addr → Value → Option Addr → TS)) → WX
  | [] => Wout
  | (c, i, ts) :: r => fun cls d σ H => ∃ b, PySem.W.exmOne K cls c = some b ∧ (b = true → ∀ a, H a = none → ts a cls d { nx := fun σ' H' => D.nx (σ'.set i none) H', rt := D.rt, bk := fun σ' H' => D.bk (σ'.set i none) H', ct := fun σ' H' => D.ct (σ'.set i none) H' } (σ.set i (some (.ref a))) H) ∧ (b = false → wManyAs K Wout D r cls d σ H)
inductive HdsAs (X : Cx) : List ExceptHandler → List (Value × Nat × (Addr → Value → Option Addr → TS)) → Prop
  | nil : HdsAs X [] []
  | cons {x n : Str} {c : Value} {i : Nat} {ts : Addr → Value → Option Addr → TS} {b₀ : Stmt} {suite : List Stmt} {np pos' : Pos} {hds : List ExceptHandler} {l : List (Value × Nat × (Addr → Value → Option Addr → TS))} (hi : X.N[i]? = some n) (hln : X.env.kindOf n = some .local) (hc : Names X x c)
      (hsu : ∀ (a : Addr) (oe : Obj) (cls : Value) (d : Option Addr) (pn : List (Addr × Obj)), Zc cls d oe → (∃ vs, oe.data = .fields vs) → PSs (X.suite a ((a, oe) :: pn)) (b₀ :: suite) (ts a cls d)) (r : HdsAs X hds l) :
      HdsAs X (.ExceptHandler (some (.Name x np)) (some n) (b₀ :: suite) pos' :: hds) ((c, i, ts) :: l)
section
variable {X : Cx} {body : List Stmt} {h₀ : ExceptHandler} {hds : List ExceptHandler} {l : List (Value × Nat × (Addr → Value → Option Addr → TS))} {pos : Pos} {tb : WX → TS} {Wout : WX}
theorem ps_try_manyAs (hs : X.stack = X.env :: X.outer) (hf : X.env.frame = some X.env.locals) (hN : X.N.Nodup) (tk : Takes X Wout)
    (hb : ∀ (W : WX) (pn : List (Addr × Obj)) (xe : Value → Shared → Prop), Takes (X.tr pn xe) W → PassesOwn (model X.prog X.w) X.A X.env xe → PSs (X.tr pn xe) body (tb W))
    (hh : HdsAs X (h₀ :: hds) l) : PS X (.Try body (h₀ :: hds) [] [] pos) (fun D σ H => tb (wManyAs X.K Wout D l) D σ H) := by
  refine ⟨fun pins s σ H D I h => ?_⟩
  have ok := I.ok
  have hfr : X.A.frames = some (X.env :: X.outer) := by rw [ok.frames, hs]
  refine wpAny_Try_except ?_
  refine wpAny_mono ((hb (wManyAs X.K Wout D l) (X.pn ++ pins) (fun e s₁ => wpAny (model X.prog X.w) X.A (noteFrame e X.env) (fun _ s₂ => wpAny (model X.prog X.w) X.A (setFlight e none) (fun _ s₃ =>
    wpAny (model X.prog X.w) X.A (handleBy e X.env (h₀ :: hds)) (SP X pins D) X.xe s₃) X.xe s₂) X.xe s₁) (fun u s' xx => ?_) PassesOwn.looking).run [] s σ H D (I.toTry _) h) (fun f s1 hsp => ?_) (fun e s1 he => he)
  · -- the catch
    obtain ⟨a, B, sI, pins', σ', H', cls, d, rfl, J', nb, up, sky, na, os, ag, w⟩ := xx
    have J : Inv X pins σ' H' sI := J'.ofTry ok
    have sky' : Sky B (X.env :: X.outer) a (Zc cls d) X.env.locals s'.heap := by rw [← hs]; exact sky
    show wpAny (model X.prog X.w) X.A (noteFrame (.ref a) X.env) _ _ _
    refine Sky.land Zc.steady hfr hf sky' fun h3 fl3 up3 => ?_
    have J3 : Inv X pins σ' H' { s' with heap := h3 } := J.landed nb fl3.1 (up.trans up3) os ag
    obtain ⟨oe3, vs3, he3, hz3, hd3⟩ := fl3.there
    have notFr : ∀ {h : Heap} {o : Obj} {vs : Array Value}, h.FunFrames B (X.env :: X.outer) → h.get? a = some o → o.data = .fields vs → a ∉ frs (X.env :: X.outer) := fun {h o vs} ff e dd hm => by
      obtain ⟨_, o', e', hnf⟩ := ff.mem hm
      rw [e] at e'; cases e'
      exact hnf _ dd
    have nfr := notFr fl3.2.2.1 he3 hd3
    have nL : a ≠ X.env.locals := fun z => nfr (List.mem_filterMap.mpr ⟨X.env, List.mem_cons_self, by rw [hf, z]⟩)
    have nF : a ∉ X.fs := fun hm => by
      obtain ⟨e, he, q⟩ := List.mem_filterMap.mp hm
      exact nfr (List.mem_filterMap.mpr ⟨e, List.mem_cons_of_mem _ he, q⟩)
    have S3 := J3.suite he3 hd3 na nL nF
    have go : ∀ {hds' : List ExceptHandler} {l' : List (Value × Nat × (Addr → Value → Option Addr → TS))}, HdsAs X hds' l' → wManyAs X.K Wout D l' cls d σ' H' →
        wpAny (model X.prog X.w) X.A (handleBy (.ref a) X.env hds') (SP X pins D) X.xe { s' with heap := h3 } := by
      intro hds' l' hk
      induction hk with
      | nil =>
        intro w
        refine wpAny_handleBy_nil ?_
        obtain ⟨k1, k2, k3, oe, vs, T, oT, ts', he, hz, hd, h1, hr⟩ := id fl3
        unfold PySem.passOn
        refine wpAny_bind (wpAny_field he hd h1 ?_)
        rw [if_neg (show ¬ ((Value.ref T == Value.none) = true) from by simp)]
        have fin : wpAny (model X.prog X.w) X.A (setFlight (.ref a) X.env.frame) (fun _ s4 => wpAny (model X.prog X.w) X.A (throw (.ref a) : Sem Flow) (SP X pins D) X.xe s4) X.xe { s' with heap := h3 } := by
          rw [hf]
          refine HandSPX.setFlight_upZ fl3 fun h4 hh4 up4 => wpAny_throw (tk _ _ ?_)
          exact ⟨a, B, sI, pins, σ', H', cls, d, rfl, J, nb, (up.trans up3).trans up4, .inr (.inr (by rw [hs]; exact hh4)), na, os, ag, w⟩
        first
          | exact wpAny_bind (wpAny_pure (wpAny_bind fin))
          | exact wpAny_bind fin
      | @cons x n c i ts b₀ suite np pos' hds2 l2 hi hln hc hsu r ih =>
        intro w
        obtain ⟨b, hb1, hyes, hno⟩ := w
        refine wpAny_handleBy_cons (codeAny_handlers_test ?_) (by intro q; cases q)
        have LT : PySem.W.Looks (model X.prog X.w) h3 (typeOf (.ref a)) cls := fun A Q E s k q => wpAny_typeOf_ref (k _ _ he3) (by rw [hz3.1]; exact q)
        have LM := PySem.W.exm_one (M := model X.prog X.w) (J3.kIn) LT hb1
        have test : ∀ {Q : Value → Shared → Prop} {E : Value → Shared → Prop}, Q c { s' with heap := h3 } → wpAny (model X.prog X.w) (X.A.mark (some (.ref a))) (eval (.Name x np) X.env) Q E { s' with heap := h3 } := fun {Q E} q => by
          obtain ⟨hg, hdbg, hm | ⟨hm, hv, hnn⟩⟩ := hc
          · exact ld_glob (X := X.suite a ((a, oe3) :: (X.pn ++ pins))) S3 hg hm q hdbg
          · exact ld_blt (X := X.suite a ((a, oe3) :: (X.pn ++ pins))) S3 hg hm hv q hnn hdbg
        refine test (LM.here ?_)
        cases b with
        | true =>
          have hloc : Loc X.env.scope n := .inl hln
          refine codeAny_handlers_suite_as ?_
          refine HandSPX.lands_againZ fl3 fun h4 fl4 up4 => ?_
          have J4 : Inv X pins σ' H' { s' with heap := h4 } := J.landed nb fl4.1 ((up.trans up3).trans up4) os ag
          obtain ⟨oe4, vs4, he4, hz4, hd4⟩ := fl4.there
          have S4 := J4.suite he4 hd4 na nL nF
          refine store_ok (X := X.suite a ((a, oe4) :: (X.pn ++ pins))) (v := .ref a) S4 hN hi hloc rfl (fun s5 S5 => ?_) (.inr hln)
          refine wpAny_mono ((hsu a oe4 cls d (X.pn ++ pins) hz4 ⟨_, hd4⟩).run [] s5 _ H' _ S5 (hyes rfl a na)) (fun f s6 hsp => ?_) (fun _ _ z => False.elim z)
          have end_ : ∀ {σ6 : L2.St} {H6 : Hp} {Q : Shared → Prop}, Inv (X.suite a ((a, oe4) :: (X.pn ++ pins))) [] σ6 H6 s6 → (∀ s7, Inv X pins (σ6.set i none) H6 s7 → Q s7) →
              wpAny (model X.prog X.w) X.A (do bindName X.env n .none; unbindBehindTheSuite X.env n pos') (fun _ s7 => Q s7) X.xe s6 := fun {σ6 H6 Q} S6 hq => gone_ok (S6.unsuite ok) hN hi hln hq
          cases f with
          | next =>
            obtain ⟨σ6, H6, S6, q6⟩ := hsp
            exact end_ S6 fun s7 J7 => ⟨_, _, J7, q6⟩
          | brk =>
            obtain ⟨σ6, H6, S6, q6⟩ := hsp
            exact end_ S6 fun s7 J7 => ⟨_, _, J7, q6⟩
          | cont =>
            obtain ⟨σ6, H6, S6, q6⟩ := hsp
            exact end_ S6 fun s7 J7 => ⟨_, _, J7, q6⟩
          | ret u =>
            obtain ⟨v6, σ6, H6, S6, r6, q6⟩ := hsp
            exact end_ S6 fun s7 J7 => ⟨_, _, _, J7, r6, q6⟩
        | false =>
          show wpAny _ X.A (handleBy (.ref a) X.env hds2) _ _ _
          exact ih (hno rfl)
    exact go hh w
  · cases f with
    | next =>
      obtain ⟨σ', H', J', q⟩ := hsp
      exact wpAny_execs_nil ⟨σ', H', J'.ofTry ok, q⟩
    | brk =>
      obtain ⟨σ', H', J', q⟩ := hsp
      exact ⟨σ', H', J'.ofTry ok, q⟩
    | cont =>
      obtain ⟨σ', H', J', q⟩ := hsp
      exact ⟨σ', H', J'.ofTry ok, q⟩
    | ret u =>
      obtain ⟨v, σ', H', J', r, q⟩ := hsp
      exact ⟨v, σ', H', J'.ofTry ok, r, q⟩
end
end Gk
set_option Elab.async false
set_option autoImplicit false
set_option linter.all false
set_option maxRecDepth 100000
set_option maxHeartbeats 4000000
/-! # dicts: their values summed, comprehensions that make them -/
namespace Gk
open PySem PySem.Spec PyProof.Rows L2
section
variable {X : Cx}
end
section
variable {prog : Program} {w : World} {A : Around} {E : Value → Shared → Prop} {s : Shared} {T : String} {r d : Addr} {n : Nat} {P : Nat → Value → Prop} {OK : Heap → Prop} {Q : Value → Shared → Prop}
end
section
variable {X : Cx}
end
section
variable {X : Cx} {K : PySem.W.Frag} {H : Hp} {Q : VK} {σ : L2.St}
theorem k_dnewT (h : ∀ p H', H p = none → Same H H' → H' p = some (.dT []) → Q (.ref p) H') : tDNewT σ H Q := fun p hp => h p _ hp (sm_new hp) upd_same
end
/-! ## an own class made by place alone -/
section
variable {X : Cx} {K : PySem.W.Frag} {CX : CXT} {k j : Nat} {sp : Sp} {x : Str} {p pos : Pos} {e : Expr} {es : List Expr} {t : TA} {E : XK}
end
theorem pe_fldK {X : Cx} (K : PySem.W.Frag) {e : Expr} {f : Str} {ta : TE} {pos : Pos} (he : PE X e ta) (hb : attributeBase e f X.env (eval e X.env) = eval e X.env) (hK : X.K = K := by rfl) : PE X (.Attribute e f pos) (tFld K ta f) := by
  subst hK
  exact pe_fld he hb
/-! ## dict(pairs); walks over a dict's keys, the dict held meanwhile -/
section
variable {κ : Type} [DecidableEq κ]
end
section
variable {K : PySem.W.Frag} {H : Hp} {Q : VK} {σ : L2.St} {a d : Addr}
theorem k_itk {R : It → Hp → Prop} {td : TE} (h : td σ H fun x H1 => ∃ d o, x = .ref d ∧ ((∃ kvs, H1 d = some (.frz o (.dK kvs)) ∧ R (Itk d o kvs) H1) ∨ ∃ kvs, H1 d = some (.frz o (.dT kvs)) ∧ R (Itkt d o kvs) H1)) : iKeys td σ H R := h
end
/-! ## range with a step -/
end Gk
set_option Elab.async false
set_option autoImplicit false
set_option linter.all false
set_option maxRecDepth 100000
set_option maxHeartbeats 4000000
/-! # the order of data; list.index -/
namespace Gk
open PySem PySem.Spec PyProof.Rows L2
open PySem.W (dataLt alike)
end Gk
set_option Elab.async false
set_option autoImplicit false
set_option linter.all false
set_option maxRecDepth 100000
set_option maxHeartbeats 4000000
/-! # x, *xs = tuple -/
namespace Gk
open PySem PySem.Spec PyProof.Rows L2 PySem.W
section
variable {prog : Program} {w : World} {A : Around} {E : Value → Shared → Prop} {s : Shared} {env : Env}
end
end Gk
set_option Elab.async false
set_option autoImplicit false
set_option linter.all false
set_option maxRecDepth 100000
set_option maxHeartbeats 4000000
/-! # list.pop(i); set(list of tuples); sorted(text); == by an own __eq__ -/
namespace Gk
open PySem PySem.Spec PyProof.Rows L2
open PySem.W (EachIs AllAlike Sortable dataLe dataLt alike keyToks sort_pairwise sortLe_total list_sort_data)
/-! ### l.pop(i), i from the front -/
/-! ### set(list of tuples of ints and texts) -/
section
variable {P : Program} {w : World} {A : Around} {E : Value → Shared → Prop} {s : Shared}
end
end Gk
namespace Gk
open PySem PySem.Spec PyProof.Rows L2
open PySem.W (EachIs AllAlike Sortable dataLe dataLt alike keyToks sort_pairwise sortLe_total list_sort_data)
/-! ### sorted(text) -/
section
variable {P : Program} {w : World} {A : Around} {E : Value → Shared → Prop} {s : Shared}
end
/-! ### == by the class's own __eq__, the answer True -/
end Gk
set_option Elab.async false
set_option autoImplicit false
set_option linter.all false
set_option maxRecDepth 100000
set_option maxHeartbeats 4000000
/-! # a dict of the module, texts to ints: the Hook that tells it, `in`, `[]` -/
namespace Gk
open PySem PySem.Spec PyProof.Rows L2 LamX
/-! ## the Hook -/
/-! ## the dict told -/
/-! ## rules -/
section
variable {X : Cx} {K : PySem.W.Frag} {w : World} {mg : Str → Option Value} {x : Str} {kvs : List (Str × Int)}
end
end Gk
namespace Gk
open PySem PySem.Spec PyProof.Rows L2 LamX
/-! ## isinstance(x, int), isinstance(x, bool) of data -/
section
variable {K : PySem.W.Frag} {H : Hp} {Q : VK} {x : V} {d : PyData}
end
/-! ## for over a list or a tuple -/
def ItB (K : PySem.W.Frag) (t : Bool) (a : Addr) : It := match t with
  | true => Itt K a
  | false => Itl K a
def nItB (K : PySem.W.Frag) (v : V) (R : It → Hp → Prop) (H : Hp) : Prop := ∃ t a xs, v = .ref a ∧ SqB K t H a xs ∧ R (ItB K t a) H
def iSqB (K : PySem.W.Frag) (tl : TE) : TI := fun σ H R => tl σ H fun v H1 => nItB K v R H1
theorem pi_anyK {X : Cx} (K : PySem.W.Frag) {tg l : Expr} {tl : TE} (hl : PE X l tl) (hK : X.K = K := by rfl) : PI X tg l (iSqB K tl) := by
  subst hK
  refine ⟨fun pins s σ H R I h => ?_⟩
  refine thn (hl.run pins s σ H _ I h) fun v s1 ⟨x, H1, I1, r1, q1⟩ => ?_
  obtain ⟨t, a, xs, e, hq, q⟩ := q1
  subst e
  cases r1
  cases t with
  | false =>
    obtain ⟨its, rv, p, hz⟩ := I1.list hq
    refine wpAny_pyIter_list p.isList ?_
    refine ⟨s1.heap.objs.size, [s1.heap.objs.size], _, _, H1, rfl, I1.kept (t' := s1.toks) fun b o e => Heap.get?_push_of_some _ e, turn_list a _, ⟨_, Heap.get?_push_size _ rfl, rfl, rfl⟩, fun b hb => ?_, q⟩
    have e : b = s1.heap.objs.size := by simpa using hb
    subst e
    exact I1.fpOk (Nat.le_refl _) (I1.hok.fresh (Nat.le_refl _))
  | true =>
    obtain ⟨its, rv, p, hz⟩ := I1.tuple hq
    refine wpAny_pyIter_tuple (show s1.heap.IsTuple a its.toArray from p) ?_
    refine ⟨s1.heap.objs.size, [s1.heap.objs.size], _, _, H1, rfl, I1.kept (t' := s1.toks) fun b o e => Heap.get?_push_of_some _ e, turn_tuple a _, ⟨_, Heap.get?_push_size _ rfl, rfl, rfl⟩, fun b hb => ?_, q⟩
    have e : b = s1.heap.objs.size := by simpa using hb
    subst e
    exact I1.fpOk (Nat.le_refl _) (I1.hok.fresh (Nat.le_refl _))
theorem k_itB {K : PySem.W.Frag} {tl : TE} {σ : L2.St} {H : Hp} {R : It → Hp → Prop} (h : tl σ H fun v H1 => nItB K v R H1) : iSqB K tl σ H R := h
theorem k_nItB {K : PySem.W.Frag} {t : Bool} {a : Addr} {xs : List V} {R : It → Hp → Prop} {H : Hp} (hx : SqB K t H a xs) (h : R (ItB K t a) H) : nItB K (.ref a) R H := ⟨t, a, xs, rfl, hx, h⟩
theorem walk_listB {K : PySem.W.Frag} {t : Bool} {a : Addr} {xs : List V} : Walk (ItB K t a) xs.length (fun H => SqB K t H a xs) (YAt xs) := match t with
  | true => walk_tup
  | false => walk_list
end Gk
set_option Elab.async false
set_option autoImplicit false
set_option linter.all false
set_option maxRecDepth 100000
set_option maxHeartbeats 4000000
/-! # dicts with tuple keys: a display of one pair, steps; list(text) -/
namespace Gk
open PySem PySem.Spec PyProof.Rows L2
end Gk
namespace Gk
open PySem PySem.Spec PyProof.Rows L2
section
variable {K : PySem.W.Frag} {σ : L2.St} {H : Hp} {Q : VK} {td ty te : TE} {a b : Addr} {kvs : List (List Key × V)} {k : List Key} {v : V} {R : Hp → Prop}
theorem k_nDgT (hp : H a = some (.dT kvs)) (hb : H b = some (.tup (k.map kV))) (hl : valV kvs k = some v) (h : Q v H) : nDg (.ref a) (.ref b) H Q := ⟨a, v, rfl, by rw [← hl]; exact DGet.t hp hb, h⟩
theorem k_nDpT (hp : H a = some (.dT kvs)) (hb : H b = some (.tup (k.map kV))) (hl : kvs.length < 100000) (h : R (upd H a (.dT (putK kvs k v)))) : nDp (.ref a) (.ref b) v H R := ⟨a, _, rfl, DPut.t hp hb (sz_lt hl), h⟩
end
/-! ### list(text) -/
end Gk
set_option Elab.async false
set_option autoImplicit false
set_option linter.all false
set_option maxRecDepth 100000
set_option maxHeartbeats 4000000
/-! # sorted(xs, key=f), f a def of the module or a lambda, over the reading layer; keys may hold lists -/
namespace Gk
open PySem PySem.Spec PyProof.Rows L2 LamX NdefX
open PySem.W (EachIs AllAlike Sortable dataLe KeyedOut KeepsBut sortVals dataKind SortsAt)
section
variable {X : Cx} {pins : List (Addr × Obj)} {σ : L2.St} {H H' : Hp} {s : Shared} {a : Addr}
end
section
variable {X : Cx} {pins : List (Addr × Obj)} {σ : L2.St} {H : Hp} {s : Shared} {a kS : Addr} {f : Value} {n : Nat} {C : Hp → Shared → Prop} {sp : V → Hp → VK → Prop} {xs : List V} {vs : List Value} {kz : List PyData} {E : Value → Shared → Prop}
theorem each_vals : ∀ {xs : List V} {vs : List Value} {kz : List PyData}, Vals xs vs → xs.length = kz.length → EachIs (fun v (p : V × PyData) => RelV p.1 v) vs (xs.zip kz)
  | _, _, _, .nil, _ => .nil
  | _, _, [], .cons _ _, h => by simp at h
  | _, _, d :: kz, .cons r t, h => .cons r (each_vals t (by simpa using h))
theorem vals_each : ∀ {vs : List Value} {bs : List (V × PyData)}, EachIs (fun v (p : V × PyData) => RelV p.1 v) vs bs → Vals (bs.map Prod.fst) vs
  | _, _, .nil => .nil
  | _, _, .cons r t => .cons r (vals_each t)
end
/-! ## x(lambda: ..) where several tables are known -/
/-! ## the rules -/
section
variable {X : Cx} {k j : Nat} {sp : Sp} {x : Str} {e : Expr} {te : TE} {p p2 p3 pos : Pos}
end
/-! ### a lambda with one parameter as the key -/
section
variable {X : Cx} {k j n : Nat} {e body : Expr} {te tb : TE} {p p3 lpos pos : Pos} {c Pt : Addr} {T : List (Addr × Str)} {params : Arguments} {scope : Scope} {a : Str} {N fr : List Str} {js : List Nat}
end
/-! ## steps -/
section
variable {K : PySem.W.Frag} {T : List (Addr × Str)} {σ : L2.St} {H : Hp} {Q : VK} {te tb : TE} {sp : Sp} {spk : V → Hp → VK → Prop} {N : List Str} {js : List Nat}
end
/-! ## dicts with tuple keys: len, list; long lists and dicts -/
section
variable {K : PySem.W.Frag} {H : Hp} {Q : VK} {a b : Addr} {kvs : List (List Key × V)} {k : List Key} {v : V} {R : Hp → Prop} {xs : List V}
end
end Gk
set_option Elab.async false
set_option autoImplicit false
set_option linter.all false
set_option maxRecDepth 100000
set_option maxHeartbeats 4000000
/-! # {k: v for ..} whose keys are tuples of ints and texts -/
namespace Gk
open PySem PySem.Spec PyProof.Rows L2
section
variable {X : Cx}
theorem dT_put {pins : List (Addr × Obj)} {σ : L2.St} {H : Hp} {s : Shared} {E : Value → Shared → Prop} {D b : Addr} {kvs : List (List Key × V)} {k : List Key} {v : V} {u r : Value} {Q : Unit → Shared → Prop} (hu : X.A.units + 64 < cLine) (I : Inv X pins σ H s) (hD : H D = some (.dT kvs)) (hb : H b = some (.tup (k.map kV))) (hz : kvs.length < sizeLine) (ru : RelV (.ref b) u) (rv : RelV v r)
    (h : ∀ s', Inv X pins σ (upd H D (.dT (putK kvs k v))) s' → Q () s') : wpAny (model X.prog X.w) X.A (dictSet D u r) Q E s := by
  cases (show u = Value.ref b from ru)
  obtain ⟨z, ns, xs, rel, dd⟩ := dt_of I.hok hD
  have l1 : xs.length ≤ sizeLine := by rw [← Paired.length rel]; exact z
  have l2 : (putK kvs k v).length ≤ sizeLine := Nat.le_trans (length_putK kvs k v) hz
  refine wpAny_dictSet_heap (knd := tupleKind (mixKind X.prog X.w)) (hsz := l1) (show X.A.units < cLine by omega) (key_of I.hok hb) dd fun h2 d2 same => h _ ?_
  obtain ⟨o, es, ep, x1, x2, x3, x4, _, x6⟩ := d2
  refine d_write I (by rw [hD]; exact True.intro) same ⟨o, x1⟩ ⟨l2, ns, _, (rel.put k hb rv).keeps fun c ys ec => ?_, o, es, ep, x1, x2, x3, x4, x6⟩
  rw [upd_ne (ne_of ec hD (fun z => nomatch z)), ec]
end
section
variable {K : PySem.W.Frag} {σ : L2.St} {H : Hp} {Q : VK}
end
/-! ## a new dict sealed for good: gone through where it was made -/
section
variable {K : PySem.W.Frag} {σ : L2.St} {H : Hp} {Q : VK}
end
end Gk
set_option Elab.async false
set_option autoImplicit false
set_option linter.all false
set_option maxRecDepth 100000
set_option maxHeartbeats 4000000
/-! # max(list of ints, default=d) -/
namespace Gk
open PySem PySem.Spec PyProof.Rows L2
section
variable {X : Cx} {e d : Expr} {te td : TE} {p p3 pos : Pos}
end
end Gk
set_option Elab.async false
set_option autoImplicit false
set_option linter.all false
set_option maxRecDepth 100000
set_option maxHeartbeats 4000000
/-! # sorted(list of data), min and max of two data, a dict comprehension of two fors with tuple keys -/
namespace Gk
open PySem PySem.Spec PyProof.Rows L2
open PySem.W (EachIs AllAlike Sortable dataLe dataLt alike SortsAt dataKind sortingHeap copyHeap)
/-! ## sorted(l), the items data -/
section
variable {X : Cx} {pins : List (Addr × Obj)} {σ : L2.St} {H : Hp} {s : Shared}
theorem each_rd (I : Inv X pins σ H s) {g : Heap} (k : ∀ b o, s.heap.get? b = some o → g.get? b = some o) : ∀ {ws : List V} {ds : List PyData} {us : List Value}, DpAll X.K H ws ds → Vals ws us → EachIs (fun v (p : V × PyData) => ∃ as, Reads g v p.2 as) us (ws.zip ds)
  | _, _, _, .nil, .nil => .nil
  | _, _, _, .cons h t, .cons r q => .cons (let ⟨as, x⟩ := Dp.reads I _ _ _ h r; ⟨as, PySem.W.reads_keeps k x⟩) (each_rd I k t q)
def rSortLD (K : PySem.W.Frag) : List V → Hp → VK → Prop := fun vs H Q => ∃ (a : Addr) (xs : List V) (kz : List PyData), vs = [.ref a] ∧ SqL K H a xs ∧ DpAll K H xs kz ∧ xs.length ≤ 1000000 ∧ AllAlike kz ∧ Sortable kz ∧ (∀ d ∈ kz, d.depth ≤ 60) ∧
  ∀ p, H p = none → Q (.ref p) (upd H p (.lst (((xs.zip kz).mergeSort (dataLe false Prod.snd)).map Prod.fst)))
theorem cr_sortLD (K : PySem.W.Frag) (hu : X.A.units + 64 < cLine) (hc : X.calm = true := by rfl) (hK : X.K = K := by rfl) : CallR X (.builtin "sorted") (rSortLD K) := by
  subst hK
  intro pins s σ H vs us Q I r h
  obtain ⟨a, xs, kz, rfl, hx, dp, hz, al, sk, hd, q⟩ := h
  rw [Vals.ref1 r]
  obtain ⟨its, rv, ⟨ob, nb, hob, hcb, _, hdb⟩, _⟩ := I.list hx
  have il : s.heap.IsList a its.toArray := ⟨ob, hob, hcb, nb, hdb⟩
  have lk : xs.length = kz.length := dpall_len dp
  have lv : xs.length = its.length := rv.length
  have hz2 : its.length ≤ sizeLine := Nat.le_trans (by omega : its.length ≤ 1000000) (by decide)
  have em : (xs.zip kz).map Prod.snd = kz := List.map_snd_zip (by omega)
  have up : ∀ b o, s.heap.get? b = some o → (sortingHeap (copyHeap s.heap its) (s.heap.objs.size + 1) its).get? b = some o := fun b o e =>
    PySem.W.sortingHeap_old (Nat.ne_of_lt (Nat.lt_succ_of_lt (Heap.lt_size e))) (PySem.W.copyHeap_old e)
  have er := each_rd I up dp rv
  have er2 := PySem.W.each_map (R := fun v d => ∃ as, Reads (sortingHeap (copyHeap s.heap its) (s.heap.objs.size + 1) its) v d as) Prod.snd er
  rw [em] at er2
  refine PySem.W.sorted_vals (κ := dataKind (sortingHeap (copyHeap s.heap its) (s.heap.objs.size + 1) its) ((xs.zip kz).map Prod.snd)) il (by
    rw [em]
    refine SortsAt.data (s := { s with heap := sortingHeap (copyHeap s.heap its) (s.heap.objs.size + 1) its }) er2 al sk fun d hd' => ?_
    have := hd d hd'
    show X.A.units + 1 + 1 + d.depth < cLine
    omega) hz2 ?_
  have eo := PySem.W.sortVals_data (R := fun v (p : V × PyData) => RelV p.1 v) false (each_vals rv lk) er (by rw [em]; exact al)
  have rv2 := vals_each eo
  generalize PySem.W.sortVals (dataKind (sortingHeap (copyHeap s.heap its) (s.heap.objs.size + 1) its) ((xs.zip kz).map Prod.snd)) false its its = out at rv2
  obtain ⟨ep, he'⟩ := sortedAll_at s.heap its out.toArray
  have ll : (((xs.zip kz).mergeSort (dataLe false Prod.snd)).map Prod.fst).length ≤ sizeLine := by
    rw [List.length_map, List.length_mergeSort, List.length_zip]
    exact Nat.le_trans (by omega : min xs.length kz.length ≤ 1000000) (by decide)
  exact ⟨.ref _, upd H (s.heap.objs.size + 1) (.lst (((xs.zip kz).mergeSort (dataLe false Prod.snd)).map Prod.fst)), I.laid (t' := s.toks) (fun _ _ e => sortedAll_old e) (Nat.le_succ _) ⟨ll, out, ep, rv2, he'⟩, rfl, q _ (I.hok.fresh (Nat.le_succ _))⟩
end
section
variable {K : PySem.W.Frag} {H : Hp} {Q : VK} {l : Addr}
theorem sort_zip {β : Type} (g : β → V) (kd : β → PyData) (B : List β) : (((B.map g).zip (B.map kd)).mergeSort (dataLe false Prod.snd)).map Prod.fst = (B.mergeSort (dataLe false kd)).map g := by
  have em : (B.map fun b => (g b, kd b)).mergeSort (dataLe false Prod.snd) = (B.mergeSort (dataLe false kd)).map fun b => (g b, kd b) := by
    rw [List.map_mergeSort (r := dataLe false kd) (s := dataLe false Prod.snd)]
    intro a _ b _
    rfl
  rw [List.zip_map', em, List.map_map]
  rfl
theorem k_sortLD {β : Type} (g : β → V) (kd : β → PyData) (B : List β) (hx : SqL K H l (B.map g)) (hd : ∀ b ∈ B, Dp K H (g b) (kd b)) (hl : B.length ≤ 1000000) (hal : AllAlike (B.map kd)) (hsk : Sortable (B.map kd)) (dp : ∀ b ∈ B, (kd b).depth ≤ 60)
    (h : ∀ p H', H p = none → Same H H' → H' p = some (.lst ((B.mergeSort (dataLe false kd)).map g)) → Q (.ref p) H') : rSortLD K [.ref l] H Q := by
  have da : ∀ B : List β, (∀ b ∈ B, Dp K H (g b) (kd b)) → DpAll K H (B.map g) (B.map kd) := fun B => by
    induction B with
    | nil => exact fun _ => .nil
    | cons b r ih => exact fun q => .cons (q b List.mem_cons_self) (ih fun c hc => q c (List.mem_cons_of_mem _ hc))
  refine ⟨l, _, _, rfl, hx, da B hd, by rw [List.length_map]; exact hl, hal, hsk, fun d hd' => ?_, fun p hp => h p _ hp (sm_new hp) ?_⟩
  · obtain ⟨b, hb, rfl⟩ := List.mem_map.mp hd'
    exact dp b hb
  · rw [upd_same, sort_zip]
end
/-! ## min, max of two data -/
section
variable {prog : Program} {w : World} {A : Around} {E : Value → Shared → Prop} {s : Shared}
theorem min_twoD {x y : Value} {dx dy : PyData} {as bs : List Addr} {Q : Value → Shared → Prop} (hh : A.handled = none) (rx : Reads s.heap x dx as) (ry : Reads s.heap y dy bs) (al : PySem.W.AlikeAll [dx, dy]) (hu : A.units + 64 < cLine) (hd : dx.depth ≤ 60 ∧ dy.depth ≤ 60)
    (q : ∀ h' tk, (∀ b o, s.heap.get? b = some o → h'.get? b = some o) → Q (if dataLt dy dx then y else x) { s with heap := h', toks := tk }) : wpAny (model prog w) A (call (.builtin "min") [x, y]) Q E s := by
  have nm : (toString "min" ++ toString ".loop" : String) = "min.loop" := by decide
  refine call_function_tree F.kind_min F.plain_min F.entry_min (F.args_min2 _ _) ?_
  refine wpAny_bind (wpAny_of_eq (show Builtin.Builtins.bindParams "min" ["key", "default"] 0 ⟨[], []⟩ = pure [none, none] from rfl) ?_)
  show wpAny _ A.in1 (newTuple [x, y] >>= _) _ _ s
  refine wpAny_bind (wpAny_newObj_type ?_)
  have hT : (s.heap.push { cls := .type "tuple", data := .seq #[x, y] }).IsTuple s.heap.objs.size #[x, y] := ⟨_, Heap.get?_push_size _ rfl, rfl, 0, rfl⟩
  have kp : ∀ b o, s.heap.get? b = some o → (s.heap.push { cls := .type "tuple", data := .seq #[x, y] }).get? b = some o := fun b o e => Heap.get?_push_of_some _ e
  have ra : ReadsAll (s.heap.push { cls := .type "tuple", data := .seq #[x, y] }) #[x, y].toList [dx, dy] (as ++ (bs ++ [])) := .cons (PySem.W.reads_keeps kp rx) (.cons (PySem.W.reads_keeps kp ry) .nil)
  generalize eh : s.heap.push { cls := .type "tuple", data := .seq #[x, y] } = h1 at hT ra kp
  refine wpAny_bind (PySem.W.iter_tupleW (s := { s with heap := h1 }) (A := A.in1) hh hT fun s2 e2 W st hfp hw hk => ?_)
  refine wpAny_bind (wpAny_newObj_type ?_)
  have nf : s2.heap.objs.size ∉ [h1.objs.size, s.heap.objs.size] := fun z => Nat.lt_irrefl _ (hfp _ z)
  rw [nm]
  refine wpAny_pure ⟨plainId_quiet F.plain_min_loop _, codeAny_min_loop_firstH W h1 hw (fun i j => dataLt ([dx, dy].getD i .none) ([dx, dy].getD j .none)) (PySem.W.cmpIn_lt (s := { s with heap := h1 }) (A := A.in1) ra al ?_) s2.heap.objs.size nf (fresh_in hk) _ (show 0 < 2 by decide) (fun b o e => Heap.get?_push_of_some _ (hk b o e)) (W.frame 0 s2 _ s2.toks st (Nat.le_refl _) fun b _ o e => Heap.get?_push_of_some _ e) (Heap.get?_push_size _ rfl) fun v s' hP m => ?_⟩
  · have : PyData.depthAll [dx, dy] ≤ 60 := depth_all (j := 60) fun d hd' => by
      rcases List.mem_cons.mp hd' with rfl | hd'
      · exact hd.1
      · rw [List.mem_singleton.mp hd']
        exact hd.2
    show A.units + 1 + _ < _
    omega
  · obtain ⟨h', tk, rfl, hk'⟩ := PySem.W.moved_old (s := { s with heap := h1 }) e2 rfl (Moved.drop_new (tk := s2.toks) m (Nat.le_refl _))
    have hv : v = if dataLt dy dx then y else x := by
      have hP' : #[x, y][argBest (fun i j => dataLt ([dx, dy].getD i .none) ([dx, dy].getD j .none)) 1]? = some v := hP
      cases hc : dataLt dy dx with
      | true => simp [argBest, hc] at hP' ⊢; exact hP'.symm
      | false => simp [argBest, hc] at hP' ⊢; exact hP'.symm
    rw [hv]
    exact q h' tk fun b o e => hk' b o (kp b o e)
theorem max_twoD {x y : Value} {dx dy : PyData} {as bs : List Addr} {Q : Value → Shared → Prop} (hh : A.handled = none) (rx : Reads s.heap x dx as) (ry : Reads s.heap y dy bs) (al : PySem.W.AlikeAll [dx, dy]) (hu : A.units + 64 < cLine) (hd : dx.depth ≤ 60 ∧ dy.depth ≤ 60)
    (q : ∀ h' tk, (∀ b o, s.heap.get? b = some o → h'.get? b = some o) → Q (if dataLt dx dy then y else x) { s with heap := h', toks := tk }) : wpAny (model prog w) A (call (.builtin "max") [x, y]) Q E s := by
  have nm : (toString "max" ++ toString ".loop" : String) = "max.loop" := by decide
  refine call_function_tree F.kind_max F.plain_max F.entry_max (F.args_max2 _ _) ?_
  refine wpAny_bind (wpAny_of_eq (show Builtin.Builtins.bindParams "max" ["key", "default"] 0 ⟨[], []⟩ = pure [none, none] from rfl) ?_)
  show wpAny _ A.in1 (newTuple [x, y] >>= _) _ _ s
  refine wpAny_bind (wpAny_newObj_type ?_)
  have hT : (s.heap.push { cls := .type "tuple", data := .seq #[x, y] }).IsTuple s.heap.objs.size #[x, y] := ⟨_, Heap.get?_push_size _ rfl, rfl, 0, rfl⟩
  have kp : ∀ b o, s.heap.get? b = some o → (s.heap.push { cls := .type "tuple", data := .seq #[x, y] }).get? b = some o := fun b o e => Heap.get?_push_of_some _ e
  have ra : ReadsAll (s.heap.push { cls := .type "tuple", data := .seq #[x, y] }) #[x, y].toList [dx, dy] (as ++ (bs ++ [])) := .cons (PySem.W.reads_keeps kp rx) (.cons (PySem.W.reads_keeps kp ry) .nil)
  generalize eh : s.heap.push { cls := .type "tuple", data := .seq #[x, y] } = h1 at hT ra kp
  refine wpAny_bind (PySem.W.iter_tupleW (s := { s with heap := h1 }) (A := A.in1) hh hT fun s2 e2 W st hfp hw hk => ?_)
  refine wpAny_bind (wpAny_newObj_type ?_)
  have nf : s2.heap.objs.size ∉ [h1.objs.size, s.heap.objs.size] := fun z => Nat.lt_irrefl _ (hfp _ z)
  rw [nm]
  refine wpAny_pure ⟨plainId_quiet F.plain_max_loop _, codeAny_max_loop_firstH W h1 hw (fun i j => dataLt ([dx, dy].getD j .none) ([dx, dy].getD i .none)) (PySem.W.cmpIn_gt (s := { s with heap := h1 }) (A := A.in1) ra al ?_) s2.heap.objs.size nf (fresh_in hk) _ (show 0 < 2 by decide) (fun b o e => Heap.get?_push_of_some _ (hk b o e)) (W.frame 0 s2 _ s2.toks st (Nat.le_refl _) fun b _ o e => Heap.get?_push_of_some _ e) (Heap.get?_push_size _ rfl) fun v s' hP m => ?_⟩
  · have : PyData.depthAll [dx, dy] ≤ 60 := depth_all (j := 60) fun d hd' => by
      rcases List.mem_cons.mp hd' with rfl | hd'
      · exact hd.1
      · rw [List.mem_singleton.mp hd']
        exact hd.2
    show A.units + 1 + _ < _
    omega
  · obtain ⟨h', tk, rfl, hk'⟩ := PySem.W.moved_old (s := { s with heap := h1 }) e2 rfl (Moved.drop_new (tk := s2.toks) m (Nat.le_refl _))
    have hv : v = if dataLt dx dy then y else x := by
      have hP' : #[x, y][argBest (fun i j => dataLt ([dx, dy].getD j .none) ([dx, dy].getD i .none)) 1]? = some v := hP
      cases hc : dataLt dx dy with
      | true => simp [argBest, hc] at hP' ⊢; exact hP'.symm
      | false => simp [argBest, hc] at hP' ⊢; exact hP'.symm
    rw [hv]
    exact q h' tk fun b o e => hk' b o (kp b o e)
end
def rMinD (K : PySem.W.Frag) : List V → Hp → VK → Prop := fun xs H Q => ∃ (x y : V) (dx dy : PyData), xs = [x, y] ∧ Dp K H x dx ∧ Dp K H y dy ∧ PySem.W.AlikeAll [dx, dy] ∧ (dx.depth ≤ 60 ∧ dy.depth ≤ 60) ∧ Q (if dataLt dy dx then y else x) H
def rMaxD (K : PySem.W.Frag) : List V → Hp → VK → Prop := fun xs H Q => ∃ (x y : V) (dx dy : PyData), xs = [x, y] ∧ Dp K H x dx ∧ Dp K H y dy ∧ PySem.W.AlikeAll [dx, dy] ∧ (dx.depth ≤ 60 ∧ dy.depth ≤ 60) ∧ Q (if dataLt dx dy then y else x) H
theorem cr_minD {X : Cx} (K : PySem.W.Frag) (hu : X.A.units + 64 < cLine) (hc : X.calm = true := by rfl) (hK : X.K = K := by rfl) : CallR X (.builtin "min") (rMinD K) := by
  subst hK
  intro pins s σ H xs us Q I r h
  obtain ⟨x, y, dx, dy, rfl, h1, h2, al, hd, q⟩ := h
  obtain ⟨u, v, rfl, r1, r2⟩ := vals2 r
  obtain ⟨as, g1⟩ := Dp.reads I dx x u h1 r1
  obtain ⟨bs, g2⟩ := Dp.reads I dy y v h2 r2
  refine min_twoD (I.ok.hd hc) g1 g2 al hu hd fun h' tk k => ⟨_, H, I.kept k, ?_, q⟩
  split
  · exact r2
  · exact r1
theorem cr_maxD {X : Cx} (K : PySem.W.Frag) (hu : X.A.units + 64 < cLine) (hc : X.calm = true := by rfl) (hK : X.K = K := by rfl) : CallR X (.builtin "max") (rMaxD K) := by
  subst hK
  intro pins s σ H xs us Q I r h
  obtain ⟨x, y, dx, dy, rfl, h1, h2, al, hd, q⟩ := h
  obtain ⟨u, v, rfl, r1, r2⟩ := vals2 r
  obtain ⟨as, g1⟩ := Dp.reads I dx x u h1 r1
  obtain ⟨bs, g2⟩ := Dp.reads I dy y v h2 r2
  refine max_twoD (I.ok.hd hc) g1 g2 al hu hd fun h' tk k => ⟨_, H, I.kept k, ?_, q⟩
  split
  · exact r2
  · exact r1
end Gk
namespace Gk
open PySem PySem.Spec PyProof.Rows L2
/-! ## {k: v for .. for ..} whose keys are tuples of ints and texts -/
theorem turn2_out (kx vx t0 i0 t1 i1 : Expr) (fs0 fs1 : List Expr) (sc : Scope) (ps : Pos) (x y : Value) (e : Env) :
    compTurn (.DictComp kx vx [⟨t0, i0, fs0, 0⟩, ⟨t1, i1, fs1, 0⟩] sc ps) 0 x y e = (do
      standAt i0.pos
      match ← pyNext x with
      | none => pure (.done .next)
      | some u =>
        letOwnedTupleGo t0 x u
        assign t0 e u
        let mut ok := true
        for c in fs0 do
          if ok then ok ← isTrue c e (eval c e)
        if ok then
          let z ← eval i1 e
          standAt i1.pos
          let z ← foldedSetIterable i1 e z
          let _ ← runOwn (.compStart (.DictComp kx vx [⟨t0, i0, fs0, 0⟩, ⟨t1, i1, fs1, 0⟩] sc ps) 1 (← holding [z] (pyIter z)) y e) e
        again (.compLoop (.DictComp kx vx [⟨t0, i0, fs0, 0⟩, ⟨t1, i1, fs1, 0⟩] sc ps) 0 x y e)) := by rfl
theorem turn2_in (kx vx t0 i0 t1 i1 : Expr) (fs0 fs1 : List Expr) (sc : Scope) (ps : Pos) (x : Value) (D : Addr) (e : Env) :
    compTurn (.DictComp kx vx [⟨t0, i0, fs0, 0⟩, ⟨t1, i1, fs1, 0⟩] sc ps) 1 x (.ref D) e = (do
      standAt i1.pos
      match ← pyNext x with
      | none => pure (.done .next)
      | some u =>
        letOwnedTupleGo t1 x u
        assign t1 e u
        let mut ok := true
        for c in fs1 do
          if ok then ok ← isTrue c e (eval c e)
        if ok then
          (do
            let kv ← eval kx e
            let vv ← holding [kv] (eval vx e)
            standAt { kx.pos with endLine := vx.pos.endLine, endCol := vx.pos.endCol }
            holding [kv, vv] (dictSet D kv vv))
        again (.compLoop (.DictComp kx vx [⟨t0, i0, fs0, 0⟩, ⟨t1, i1, fs1, 0⟩] sc ps) 1 x (.ref D) e)) := by rfl
section
variable {prog : Program} {w : World} {A : Around} {R : Result → Shared → Prop} {s : Shared} {kx vx t0 i0 t1 i1 : Expr} {fs0 fs1 : List Expr} {sc : Scope} {ps : Pos} {x : Value} {D : Addr} {e : Env}
theorem loop2_out (hs : ∀ z, foldedSetIterable i1 e z = pure z) (I : Nat → Shared → Prop)
    (turn : ∀ n s, I n s → wpAny (model prog w) A (pyNext x) (fun r z1 => match r with
      | none => R (.ok .next) z1
      | some u => wpAny (model prog w) A (letOwnedTupleGo t0 x u) (fun _ z2 => wpAny (model prog w) A (assign t0 e u) (fun _ z3 =>
          wpAny (model prog w) A (forIn fs0 true fun c r => if r = true then do let ok ← isTrue c e (eval c e); pure (ForInStep.yield ok) else pure (ForInStep.yield r)) (fun ok z4 =>
            if ok = true then wpAny (model prog w) A (eval i1 e) (fun y z5 => wpAny (model prog w) A (pyIter y) (fun it1 z6 =>
              codeAny (model prog w) A (.compStart (.DictComp kx vx [⟨t0, i0, fs0, 0⟩, ⟨t1, i1, fs1, 0⟩] sc ps) 1 it1 (.ref D) e) (fun r z7 => match r with
                | .ok _ => ∃ m, m < n ∧ I m z7
                | .error _ => False) z6) (notedBy (model prog w) A e fun q z7 => R (.error q) z7) z5) (notedBy (model prog w) A e fun q z7 => R (.error q) z7) z4
            else ∃ m, m < n ∧ I m z4) (notedBy (model prog w) A e fun q z7 => R (.error q) z7) z3) (notedBy (model prog w) A e fun q z7 => R (.error q) z7) z2) (notedBy (model prog w) A e fun q z7 => R (.error q) z7) z1) (notedBy (model prog w) A e fun q z7 => R (.error q) z7) s)
    (n : Nat) (h : I n s) : codeAny (model prog w) A (.compLoop (.DictComp kx vx [⟨t0, i0, fs0, 0⟩, ⟨t1, i1, fs1, 0⟩] sc ps) 0 x (.ref D) e) R s := by
  refine codeAny_loop rfl I (fun n s hI => ?_) n h
  show wpAny _ A ((compTurn (.DictComp kx vx [⟨t0, i0, fs0, 0⟩, ⟨t1, i1, fs1, 0⟩] sc ps) 0 x (.ref D) e).onRaise (fun q => do noteFrame q e; theTreesLotGoes q)) _ _ s
  refine wpAny_noted ?_
  rw [turn2_out]
  refine wpAny_bind (wpAny_standAt (wpAny_bind (wpAny_mono (turn n s hI) (fun r z1 h1 => ?_) fun _ _ h' => h')))
  cases r with
  | none => exact wpAny_pure h1
  | some u =>
    refine wpAny_bind (wpAny_mono h1 (fun _ z2 h2 => ?_) fun _ _ h' => h')
    refine wpAny_bind (wpAny_mono h2 (fun _ z3 h3 => wpAny_bind (wpAny_mono h3 (fun ok z4 h4 => ?_) fun _ _ h' => h')) fun _ _ h' => h')
    cases ok with
    | false => exact wpAny_pure ⟨rfl, h4⟩
    | true =>
      refine wpAny_bind (wpAny_mono h4 (fun y z5 h5 => ?_) fun _ _ h' => h')
      refine wpAny_bind (wpAny_standAt (wpAny_bind (wpAny_of_eq (hs y) (wpAny_bind (wpAny_holding (wpAny_mono h5 (fun it1 z6 h6 => ?_) fun _ _ h' => h'))))))
      refine wpAny_bind (wpAny_runOwn ?_)
      rw [Around.mark_none]
      refine codeAny_mono h6 fun r z7 hr => ?_
      cases r with
      | ok f =>
        first
          | exact wpAny_pure ⟨rfl, hr⟩
          | exact wpAny_bind (wpAny_pure (wpAny_pure ⟨rfl, hr⟩))
      | error q => exact hr.elim
theorem loop2_in (I : Nat → Shared → Prop)
    (turn : ∀ n s, I n s → wpAny (model prog w) A (pyNext x) (fun r z1 => match r with
      | none => R (.ok .next) z1
      | some u => wpAny (model prog w) A (letOwnedTupleGo t1 x u) (fun _ z2 => wpAny (model prog w) A (assign t1 e u) (fun _ z3 =>
          wpAny (model prog w) A (forIn fs1 true fun c r => if r = true then do let ok ← isTrue c e (eval c e); pure (ForInStep.yield ok) else pure (ForInStep.yield r)) (fun ok z4 =>
            if ok = true then wpAny (model prog w) A (eval kx e) (fun kv z5 => wpAny (model prog w) A (eval vx e) (fun vv z6 =>
              wpAny (model prog w) A (dictSet D kv vv) (fun _ z7 => ∃ m, m < n ∧ I m z7) (notedBy (model prog w) A e fun q z7 => R (.error q) z7) z6) (notedBy (model prog w) A e fun q z7 => R (.error q) z7) z5) (notedBy (model prog w) A e fun q z7 => R (.error q) z7) z4
            else ∃ m, m < n ∧ I m z4) (notedBy (model prog w) A e fun q z7 => R (.error q) z7) z3) (notedBy (model prog w) A e fun q z7 => R (.error q) z7) z2) (notedBy (model prog w) A e fun q z7 => R (.error q) z7) z1) (notedBy (model prog w) A e fun q z7 => R (.error q) z7) s)
    (n : Nat) (h : I n s) : codeAny (model prog w) A (.compLoop (.DictComp kx vx [⟨t0, i0, fs0, 0⟩, ⟨t1, i1, fs1, 0⟩] sc ps) 1 x (.ref D) e) R s := by
  refine codeAny_loop rfl I (fun n s hI => ?_) n h
  show wpAny _ A ((compTurn (.DictComp kx vx [⟨t0, i0, fs0, 0⟩, ⟨t1, i1, fs1, 0⟩] sc ps) 1 x (.ref D) e).onRaise (fun q => do noteFrame q e; theTreesLotGoes q)) _ _ s
  refine wpAny_noted ?_
  rw [turn2_in]
  refine wpAny_bind (wpAny_standAt (wpAny_bind (wpAny_mono (turn n s hI) (fun r z1 h1 => ?_) fun _ _ h' => h')))
  cases r with
  | none => exact wpAny_pure h1
  | some u =>
    refine wpAny_bind (wpAny_mono h1 (fun _ z2 h2 => ?_) fun _ _ h' => h')
    refine wpAny_bind (wpAny_mono h2 (fun _ z3 h3 => wpAny_bind (wpAny_mono h3 (fun ok z4 h4 => ?_) fun _ _ h' => h')) fun _ _ h' => h')
    cases ok with
    | false => exact wpAny_pure ⟨rfl, h4⟩
    | true =>
      exact wpAny_bind (wpAny_bind (wpAny_mono h4 (fun kv z5 h5 => wpAny_bind (wpAny_holding (wpAny_mono h5 (fun vv z6 h6 => wpAny_bind (wpAny_standAt (wpAny_holding (wpAny_mono h6 (fun _ z7 h7 => wpAny_pure ⟨rfl, h7⟩) fun _ _ h' => h')))) fun _ _ h' => h'))) fun _ _ h' => h'))
theorem start2_in (h0 : codeAny (model prog w) A (.compLoop (.DictComp kx vx [⟨t0, i0, fs0, 0⟩, ⟨t1, i1, fs1, 0⟩] sc ps) 1 x (.ref D) e) R s)
    (h : wpAny (model prog w) A (pyIter x) (fun y z1 => codeAny (model prog w) A (.compLoop (.DictComp kx vx [⟨t0, i0, fs0, 0⟩, ⟨t1, i1, fs1, 0⟩] sc ps) 1 y (.ref D) e) R z1) (notedBy (model prog w) A e fun q z1 => R (.error q) z1) s) :
    codeAny (model prog w) A (.compStart (.DictComp kx vx [⟨t0, i0, fs0, 0⟩, ⟨t1, i1, fs1, 0⟩] sc ps) 1 x (.ref D) e) R s := by
  refine codeAny_of_tree ?_
  show wpAny _ _ ((compStart (.DictComp kx vx [⟨t0, i0, fs0, 0⟩, ⟨t1, i1, fs1, 0⟩] sc ps) 1 x (.ref D) e).onRaise (fun q => do noteFrame q e; standAt theWindowsPlace)) _ _ s
  refine wpAny_notedAt ?_
  unfold compStart
  show wpAny _ _ (ask >>= _) _ _ s
  refine wpAny_bind (wpAny_askSetting (wpAny_ite ?_))
  split
  · first
      | exact wpAny_bind (wpAny_pure (wpAny_pure (And.intro rfl h0)))
      | exact wpAny_pure (And.intro rfl h0)
  · first
      | exact wpAny_bind (wpAny_rule (wpAny_bind (wpAny_standAt (wpAny_bind (wpAny_mono h (fun y z1 h' => wpAny_pure (And.intro rfl h')) fun _ _ q => q)))))
      | (refine wpAny_bind (wpAny_rule ?_); show wpAny _ _ (standAt i1.pos >>= _) _ _ s; exact wpAny_bind (wpAny_standAt (wpAny_bind (wpAny_mono h (fun y z1 h' => wpAny_pure (And.intro rfl h')) fun _ _ q => q))))
end
def nInD (D : Addr) (J : It) (g : TG) (tt : TT) (tk tv : TE) (vs : List Nat) (σ : L2.St) (H0 : Hp) (Nx : Hp → Prop) : Prop := ∃ W1 : Nat → Nat → Hp → Prop, (∃ m, W1 0 m H0) ∧ ∀ j k H, W1 j k H →
  (J.stop j H ∧ Nx H) ∨ (J.go j H ∧ ∃ Nx1 : Hp → Prop, (∀ H', Nx1 H' → ∃ k', k' < k ∧ W1 (j + 1) k' H') ∧ ∀ x H', J.yld j H x H' → g x (wipe σ vs) H' fun σ3 H5 => wipe σ3 vs = wipe σ vs ∧ tt σ3 H5 fun b H6 =>
    nIte b (tk σ3 H6 fun y H7 => tv σ3 H7 fun z H8 => ∃ kvs k c, y = .ref c ∧ H8 c = some (.tup (k.map kV)) ∧ H8 D = some (.dT kvs) ∧ kvs.length < sizeLine ∧ Nx1 (upd H8 D (.dT (putK kvs k z)))) (Nx1 H6))
section
variable {X : Cx}
/-- behind the first clause's store and tests the second source's own loop, from which Nx is reached; D is the new dict -/
def tDcT2 (wi : TI) (g : TG) (tt : TT) (wi1 : TI) (g1 : TG) (tt1 : TT) (tk tv : TE) (vs vs1 : List Nat) : TE := fun σ H Q => wi σ H fun J H1 => ∀ D, H1 D = none → ∃ W : Nat → Nat → Hp → Prop, (∃ m, W 0 m (upd H1 D (.dT []))) ∧ ∀ i m H, W i m H →
  (J.stop i H ∧ Q (.ref D) H) ∨ (J.go i H ∧ ∃ Nx : Hp → Prop, (∀ H', Nx H' → ∃ m', m' < m ∧ W (i + 1) m' H') ∧ ∀ x H', J.yld i H x H' → g x (wipe σ vs) H' fun σ2 H2 => wipe σ2 vs = wipe σ vs ∧ tt σ2 H2 fun b H3 =>
    nIte b (wi1 σ2 H3 fun J1 H4 => ∃ W1 : Nat → Nat → Hp → Prop, (∃ m, W1 0 m H4) ∧ ∀ j k H, W1 j k H →
      (J1.stop j H ∧ Nx H) ∨ (J1.go j H ∧ ∃ Nx1 : Hp → Prop, (∀ H', Nx1 H' → ∃ k', k' < k ∧ W1 (j + 1) k' H') ∧ ∀ x H', J1.yld j H x H' → g1 x (wipe σ2 vs1) H' fun σ3 H5 => wipe σ3 vs1 = wipe σ2 vs1 ∧ tt1 σ3 H5 fun b H6 =>
        nIte b (tk σ3 H6 fun y H7 => tv σ3 H7 fun z H8 => ∃ kvs k c, y = .ref c ∧ H8 c = some (.tup (k.map kV)) ∧ H8 D = some (.dT kvs) ∧ kvs.length < sizeLine ∧ Nx1 (upd H8 D (.dT (putK kvs k z)))) (Nx1 H6))) (Nx H3))
theorem pe_dcT2 {kx vx tg it0 tg1 it1 : Expr} {ifs ifs1 : List Expr} {sc : Scope} {own : List (PySem.Str × Nat)} {vs1 : List Nat} {pos : Pos} {wi wi1 : TI} {g g1 : TG} {tt tt1 : TT} {tk tv : TE}
    (hu : X.A.units + 64 < cLine) (hN : X.N.Nodup) (hi : PI X tg it0 wi) (ok : BlkOk X.N X.env.scope sc own) (hv : ∀ i ∈ vs1, i ∈ own.map (·.2))
    (hg : ∀ s H C cl fp, PG (bx X sc s H C cl fp) tg g) (ht : ∀ s H C cl fp, PTs (bx X sc s H C cl fp) ifs tt) (hi1 : ∀ s H C cl fp, PI (bx X sc s H C cl fp) tg1 it1 wi1) (hg1 : ∀ s H C cl fp, PG (bx X sc s H C cl fp) tg1 g1) (ht1 : ∀ s H C cl fp, PTs (bx X sc s H C cl fp) ifs1 tt1)
    (hk : ∀ s H C cl fp, PE (bx X sc s H C cl fp) kx tk) (he : ∀ s H C cl fp, PE (bx X sc s H C cl fp) vx tv) (hc : X.calm = true := by rfl) (hs : ∀ x, foldedSetIterable it0 X.env x = pure x := by intro _; rfl) (hs1 : ∀ env x, foldedSetIterable it1 env x = pure x := by intro _ _; rfl) :
    PE X (.DictComp kx vx [⟨tg, it0, ifs, 0⟩, ⟨tg1, it1, ifs1, 0⟩] sc pos) (tDcT2 wi g tt wi1 g1 tt1 tk tv (own.map (·.2)) vs1) := by
  refine ⟨fun pins s σ H Q I h => ?_⟩
  rw [arm_eval_DictComp]
  have frees : ∀ y ∈ sc.names, y.2 = .free → ∃ c, X.env.cells.lookup y.1 = some c := fun y hy e => (ok.free y hy e).elim (fun k => I.ok.has _ (.inl k)) fun k => I.ok.has _ (.inr k)
  refine wpAny_comprehension_free (use := none) rfl hs (closure_ok frees) ok.kind (fun y hy e => by rw [ok.uniq y hy, e]) (thn (hi.run pins s σ H _ I h) fun xv s1 h1 => thn h1 fun iv s2 h2 => ?_)
  obtain ⟨it, fp, tn, J, H2, rfl, I2, T, u2, f2, q⟩ := h2
  refine wpAny_newObj_type (newEnv_comp ?_)
  generalize eD : s2.heap.objs.size = D
  obtain ⟨W, ⟨m0, w0⟩, turn⟩ := q D (I2.hok.fresh (Nat.le_of_eq eD))
  obtain ⟨s3, es3⟩ : ∃ s3 : Shared, s3 = { s2 with heap := s2.heap.push { cls := .type "dict", data := .dict #[] } } := ⟨_, rfl⟩
  obtain ⟨H3, eH3⟩ : ∃ H3, H3 = upd H2 D (.dT []) := ⟨_, rfl⟩
  have hp3 : s3.heap = s2.heap.push { cls := .type "dict", data := .dict #[] } := by rw [es3]
  have I3 : Inv X pins σ H3 s3 := by
    rw [es3, eH3]
    refine I2.laid (t' := s2.toks) (fun b o e => Heap.get?_push_of_some _ e) (Nat.le_of_eq eD) ?_
    rw [← eD]
    exact dt_empty _ I2.big
  have old3 : ∀ b o, s2.heap.get? b = some o → s3.heap.get? b = some o := fun b o e => by rw [hp3]; exact Heap.get?_push_of_some _ e
  have f3 : ∀ b ∈ fp, FpOk X pins H3 b ∧ b < s3.heap.objs.size := fun b hb => by
    obtain ⟨o, e, _⟩ := T.obj _ _ u2 b hb
    have lt : b < s2.heap.objs.size := Heap.lt_size e
    refine ⟨⟨?_, (f2 b hb).2⟩, by rw [hp3, Heap.size_push]; exact Nat.lt_succ_of_lt lt⟩
    rw [eH3, upd_ne (by rw [← eD]; exact Nat.ne_of_lt lt)]
    exact (f2 b hb).1
  have I4 := block_start I3 ok hN f3
  rw [← eH3] at w0
  rw [← es3]
  show codeAny _ _ (.compStart (.DictComp kx vx [⟨tg, it0, ifs, 0⟩, ⟨tg1, it1, ifs1, 0⟩] sc pos) 0 (.ref it) (.ref D) (compEnvC sc (cellsFrom (s3.heap.objs.size + 1) sc.names (cloFrom X.env.cells sc.names [])) s3.heap.objs.size X.env))
    (compPost (model X.prog X.w) X.A X.xe none (EP X pins σ Q) (.ref D) s3.heap.objs.size) { s3 with heap := pushCells (s3.heap.push { cls := .type "dict", data := .dict #[] }) sc.names }
  have pg := hg s3 H3 s3.heap.objs.size (cellsFrom (s3.heap.objs.size + 1) sc.names (cloFrom X.env.cells sc.names [])) fp
  have pt := ht s3 H3 s3.heap.objs.size (cellsFrom (s3.heap.objs.size + 1) sc.names (cloFrom X.env.cells sc.names [])) fp
  have pk := hk s3 H3 s3.heap.objs.size (cellsFrom (s3.heap.objs.size + 1) sc.names (cloFrom X.env.cells sc.names [])) fp
  have pi1 := hi1 s3 H3 s3.heap.objs.size (cellsFrom (s3.heap.objs.size + 1) sc.names (cloFrom X.env.cells sc.names [])) fp
  have pg1 := hg1 s3 H3 s3.heap.objs.size (cellsFrom (s3.heap.objs.size + 1) sc.names (cloFrom X.env.cells sc.names [])) fp
  have pt1 := ht1 s3 H3 s3.heap.objs.size (cellsFrom (s3.heap.objs.size + 1) sc.names (cloFrom X.env.cells sc.names [])) fp
  have pe := he s3 H3 s3.heap.objs.size (cellsFrom (s3.heap.objs.size + 1) sc.names (cloFrom X.env.cells sc.names [])) fp
  generalize ece : compEnvC sc (cellsFrom (s3.heap.objs.size + 1) sc.names (cloFrom X.env.cells sc.names [])) s3.heap.objs.size X.env = ce at I4 ⊢
  have lce : ce.locals = s3.heap.objs.size := by rw [← ece]; rfl
  obtain ⟨s4, es4⟩ : ∃ s4 : Shared, s4 = { s3 with heap := pushCells (s3.heap.push { cls := .type "dict", data := .dict #[] }) sc.names } := ⟨_, rfl⟩
  rw [← es4] at I4 ⊢
  have u3 : tn 0 s3.heap := T.keep _ _ _ u2 fun b _ o e => old3 b o e
  have u4 : tn 0 s4.heap := T.keep _ _ _ u3 fun b _ o e => by rw [es4]; exact pushCells_keeps _ _ _ _ (Heap.get?_push_of_some _ e)
  unfold bx at pg pt pe pk pi1 pg1 pt1
  rw [ece] at pg pt pe pk pi1 pg1 pt1
  have out : ∀ {σ' : L2.St} {H' : Hp} {z : Shared}, Inv (X.blk s3 H3 sc ce fp) [] σ' H' z → (∀ b ∈ fp, H' b = none) → ∀ b ∈ fp, FpOk (X.blk s3 H3 sc ce fp) [] H' b := fun Iz hn b hb =>
    ⟨hn b hb, (Iz.ok.exf b hb).1, Iz.ok.exfs b hb, .inl hb, fun x c e => (Iz.ok.exf b hb).2 x c e, fun p hp => by simp [show p ∈ ([] : List (Addr × Obj)) ++ [] ↔ False by simp] at hp⟩
  have lp : codeAny (model X.prog X.w) X.A (.compLoop (.DictComp kx vx [⟨tg, it0, ifs, 0⟩, ⟨tg1, it1, ifs1, 0⟩] sc pos) 0 (.ref it) (.ref D) ce) (compPost (model X.prog X.w) X.A X.xe none (EP X pins σ Q) (.ref D) s3.heap.objs.size) s4 := by
    refine loop2_out (hs1 ce) (fun n z => ∃ i H', Inv (X.blk s3 H3 sc ce fp) [] (wipe σ (own.map (·.2))) H' z ∧ tn i z.heap ∧ (∀ b ∈ fp, H' b = none) ∧ W i n H') (fun n z hz => ?_) m0 ⟨0, H3, I4, u4, fun b hb => (f3 b hb).1.1, w0⟩
    obtain ⟨i, Hz, Iz, uz, nz, wz⟩ := hz
    rcases turn i n Hz wz with ⟨st, qe⟩ | ⟨go, Nx, hNx, step⟩
    · refine thnF (T.done (X.blk s3 H3 sc ce fp) rfl rfl rfl hc i [] z _ Hz (fun _ _ => False) Iz (out Iz nz) uz st) fun rr z2 ⟨er, I6⟩ => ?_
      subst er
      have I7 : Inv X pins σ Hz z2 := I3.call' (ch := fp) I6.os I6.base I6.hok I6.bare fun b hb => ⟨(f3 b hb).1.2.2.2.1, (f3 b hb).1.2.1, (f3 b hb).1.2.2.2.2.1, (f3 b hb).1.2.2.2.2.2⟩
      have nC : Hz s3.heap.objs.size = none := by
        have h0 : Hz ce.locals = none := I6.free
        rw [lce] at h0
        exact h0
      obtain ⟨mm, hm, _⟩ := I6.loc
      have hm : z2.heap.Ns ce.locals mm := hm
      rw [lce] at hm
      obtain ⟨g0, g1, g2, g3, g4, g5⟩ := I3.fpOk (Nat.le_refl _) nC
      exact ⟨mm, hm, fun h'' sb => ⟨.ref D, Hz, I7.turned (t' := z2.toks) (fun b o hb e => (sb.2 b hb).trans e) g0 g1 g3 g4 g5, rfl, qe⟩⟩
    · refine thnF (T.item (X.blk s3 H3 sc ce fp) rfl rfl rfl hc i [] z _ Hz (fun _ _ => False) Iz (out Iz nz) uz go) fun rr z6 ⟨u, er, h6⟩ => ?_
      subst er
      refine thnF h6 fun _ z7 ⟨x, H7, I7, r7, y7, u7, n7⟩ => ?_
      refine thnF (pg.run _ z7 _ H7 x u _ (I7.pinned (out I7 n7) (T.obj _ _ u7)) r7 (step x H7 y7)) fun _ z8 ⟨σ8, H8, I8, ew, q8⟩ => ?_
      refine thnF (pt.run _ z8 σ8 H8 _ I8 q8) fun b z9 ⟨H9, I9, q9⟩ => ?_
      have fin : ∀ {σ9 : L2.St} {z' : Shared} {H' : Hp}, Inv (X.blk s3 H3 sc ce fp) ([] ++ pinsAt fp z7.heap) σ9 H' z' → (wipe σ (own.map (·.2))).length = σ9.length → (∀ (j : Nat) v, (wipe σ (own.map (·.2)))[j]? = some (some v) → σ9[j]? = some (some v)) → Nx H' → ∃ m, m < n ∧ ∃ i H', Inv (X.blk s3 H3 sc ce fp) [] (wipe σ (own.map (·.2))) H' z' ∧ tn i z'.heap ∧ (∀ b ∈ fp, H' b = none) ∧ W i m H' := fun {σ9 z' H'} I' ll lk nx => by
        obtain ⟨m', lt, w'⟩ := hNx H' nx
        have pin : ∀ b ∈ fp, ∀ o, z7.heap.get? b = some o → z'.heap.get? b = some o ∧ H' b = none := fun b hb o e =>
          ⟨(I'.pin (b, o) (List.mem_append_right _ (List.mem_append_right _ (mem_pinsAt hb e)))).1, (I'.pin (b, o) (List.mem_append_right _ (List.mem_append_right _ (mem_pinsAt hb e)))).2.1⟩
        refine ⟨m', lt, i + 1, H', (I'.unpinned (pins := [])).weak ll lk, T.keep _ _ _ u7 fun b hb o e => (pin b hb o e).1, fun b hb => ?_, w'⟩
        obtain ⟨o, e, _⟩ := T.obj _ _ u7 b hb
        exact (pin b hb o e).2
      have ll8 : (wipe σ (own.map (·.2))).length = σ8.length := by rw [← ew, wipe_length]
      have lk8 : ∀ (j : Nat) v, (wipe σ (own.map (·.2)))[j]? = some (some v) → σ8[j]? = some (some v) := fun j v e => by
        rw [← ew] at e
        exact (wipe_some e).1
      have lk9 : ∀ (j : Nat) v, (wipe σ (own.map (·.2)))[j]? = some (some v) → (wipe σ8 vs1)[j]? = some (some v) := fun j v e => by
        rw [← ew] at e
        obtain ⟨e1, e2⟩ := wipe_some e
        rw [wipe_out fun z => e2 (hv j z)]
        exact e1
      cases b with
      | false =>
        simp only [nIte, Bool.false_eq_true, if_false] at q9 ⊢
        exact fin I9 ll8 lk8 q9
      | true =>
        simp only [nIte, if_true] at q9 ⊢
        refine thnF (pi1.run _ z9 σ8 H9 _ I9 q9) fun xv z10 hx => thnF hx fun iv z11 h11 => ?_
        obtain ⟨ir, fp1, tn1, J1, H11, e1, I11, T1, u11, f11, W1, ⟨m1, w1⟩, turn1⟩ := h11
        subst e1
        have out1 : ∀ {H' : Hp}, (∀ b ∈ fp1, H' b = none) → ∀ b ∈ fp1, FpOk (X.blk s3 H3 sc ce fp) ([] ++ pinsAt fp z7.heap) H' b := fun hn b hb => ⟨hn b hb, (f11 b hb).2⟩
        have lp1 : codeAny (model X.prog X.w) X.A (.compLoop (.DictComp kx vx [⟨tg, it0, ifs, 0⟩, ⟨tg1, it1, ifs1, 0⟩] sc pos) 1 (.ref ir) (.ref D) ce)
            (fun r z' => match r with
              | .ok _ => ∃ m, m < n ∧ ∃ i H', Inv (X.blk s3 H3 sc ce fp) [] (wipe σ (own.map (·.2))) H' z' ∧ tn i z'.heap ∧ (∀ b ∈ fp, H' b = none) ∧ W i m H'
              | .error _ => False) z11 := by
          refine loop2_in (fun k z' => ∃ j H', Inv (X.blk s3 H3 sc ce fp) ([] ++ pinsAt fp z7.heap) (wipe σ8 vs1) H' z' ∧ tn1 j z'.heap ∧ (∀ b ∈ fp1, H' b = none) ∧ W1 j k H') (fun k z12 hz => ?_) m1 ⟨0, H11, I11.weak (wipe_length _ _) (fun j v e => (wipe_some e).1), u11, fun b hb => (f11 b hb).1, w1⟩
          obtain ⟨j, H12, I12, u12, n12, w12⟩ := hz
          rcases turn1 j k H12 w12 with ⟨st1, nx1⟩ | ⟨go1, Nx1, hNx1, step1⟩
          · refine thnF (T1.done (X.blk s3 H3 sc ce fp) rfl rfl rfl hc j _ z12 (wipe σ8 vs1) H12 (fun _ _ => False) I12 (out1 n12) u12 st1) fun rr z13 ⟨er, I13⟩ => ?_
            subst er
            exact fin I13 (ll8.trans (wipe_length σ8 vs1).symm) lk9 nx1
          · refine thnF (T1.item (X.blk s3 H3 sc ce fp) rfl rfl rfl hc j _ z12 (wipe σ8 vs1) H12 (fun _ _ => False) I12 (out1 n12) u12 go1) fun rr z13 ⟨ux, er, h13⟩ => ?_
            subst er
            refine thnF h13 fun _ z14 ⟨y1, H14, I14, r14, y14, u14, n14⟩ => ?_
            refine thnF (pg1.run _ z14 (wipe σ8 vs1) H14 y1 ux _ (I14.pinned (out1 n14) (T1.obj _ _ u14)) r14 (step1 y1 H14 y14)) fun _ z15 ⟨σ15, H15, I15, ew15, q15⟩ => ?_
            refine thnF (pt1.run _ z15 σ15 H15 _ I15 q15) fun b1 z16 ⟨H16, I16, q16⟩ => ?_
            have fin1 : ∀ {z' : Shared} {H' : Hp}, Inv (X.blk s3 H3 sc ce fp) (([] ++ pinsAt fp z7.heap) ++ pinsAt fp1 z14.heap) σ15 H' z' → Nx1 H' → ∃ m, m < k ∧ ∃ j H', Inv (X.blk s3 H3 sc ce fp) ([] ++ pinsAt fp z7.heap) (wipe σ8 vs1) H' z' ∧ tn1 j z'.heap ∧ (∀ b ∈ fp1, H' b = none) ∧ W1 j m H' := fun {z' H'} I' nx => by
              obtain ⟨m', lt, w'⟩ := hNx1 H' nx
              have pin : ∀ b ∈ fp1, ∀ o, z14.heap.get? b = some o → z'.heap.get? b = some o ∧ H' b = none := fun b hb o e =>
                ⟨(I'.pin (b, o) (List.mem_append_right _ (List.mem_append_right _ (mem_pinsAt hb e)))).1, (I'.pin (b, o) (List.mem_append_right _ (List.mem_append_right _ (mem_pinsAt hb e)))).2.1⟩
              refine ⟨m', lt, j + 1, H', I'.unpinned.weak (by rw [← ew15, wipe_length]) (fun j v e => ?_), T1.keep _ _ _ u14 fun b hb o e => (pin b hb o e).1, fun b hb => ?_, w'⟩
              · rw [← ew15] at e
                exact (wipe_some e).1
              · obtain ⟨o, e, _⟩ := T1.obj _ _ u14 b hb
                exact (pin b hb o e).2
            cases b1 with
            | false =>
              simp only [nIte, Bool.false_eq_true, if_false] at q16 ⊢
              exact fin1 I16 q16
            | true =>
              simp only [nIte, if_true] at q16 ⊢
              refine thnF (pk.run _ z16 σ15 H16 _ I16 q16) fun kv z17 ⟨yk, H17, I17, r17, q17⟩ => ?_
              refine thnF (pe.run _ z17 σ15 H17 _ I17 q17) fun vv z18 ⟨yv, H18, I18, r18, kvs, k', c, ey, ec, eD2, hz18, nx⟩ => ?_
              subst ey
              exact dT_put (X := X.blk s3 H3 sc ce fp) hu I18 eD2 ec hz18 r17 r18 fun z19 I19 => fin1 I19 nx
        exact start2_in lp1 (T1.self X.A 0 _ _ _ u11 lp1)
  exact codeAny_compStart_dict lp (T.self X.A 0 _ _ _ u4 lp)

end
section
variable {σ : L2.St} {H Hb : Hp} {Q : VK}
def nDcT2 (J : It) (g : TG) (tt : TT) (wi1 : TI) (g1 : TG) (tt1 : TT) (tk tv : TE) (vs vs1 : List Nat) (σ : L2.St) (H1 : Hp) (Q : VK) : Prop := ∀ D, H1 D = none → ∃ W : Nat → Nat → Hp → Prop, (∃ m, W 0 m (upd H1 D (.dT []))) ∧ ∀ i m H, W i m H →
  (J.stop i H ∧ Q (.ref D) H) ∨ (J.go i H ∧ ∃ Nx : Hp → Prop, (∀ H', Nx H' → ∃ m', m' < m ∧ W (i + 1) m' H') ∧ ∀ x H', J.yld i H x H' → g x (wipe σ vs) H' fun σ2 H2 => wipe σ2 vs = wipe σ vs ∧ tt σ2 H2 fun b H3 =>
    nIte b (wi1 σ2 H3 fun J1 H4 => nInD D J1 g1 tt1 tk tv vs1 σ2 H4 Nx) (Nx H3))
theorem k_dcT2 {wi wi1 : TI} {g g1 : TG} {tt tt1 : TT} {tk tv : TE} {vs vs1 : List Nat} (h : wi σ H fun J H1 => nDcT2 J g tt wi1 g1 tt1 tk tv vs vs1 σ H1 Q) : tDcT2 wi g tt wi1 g1 tt1 tk tv vs vs1 σ H Q := h
/-- the inner clause: Pv tells the turn and the entries, with the heap without the dict -/
theorem k_nInD {J : It} {n : Nat} {G : Hp → Prop} {Y : Nat → Hp → V → Hp → Prop} {g : TG} {tt : TT} {tk tv : TE} {vs : List Nat} {D : Addr} {Nx : Hp → Prop} {ws0 : List (List Key × V)} (wk : Walk J n G Y) (sb : Same Hb H) (hD : Hb D = none) (e0 : H D = some (.dT ws0)) (hG : ∀ H', Same Hb H' → G H') (Pv : Nat → List (List Key × V) → Hp → Prop) (hm : ∀ i ws H1 H2, Same H1 H2 → Pv i ws H1 → Pv i ws H2) (h0 : Pv 0 ws0 (del H D)) (hz : ∀ i ws H1, i ≤ n → Pv i ws H1 → ws.length ≤ 50000)
    (hs : ∀ (i : Nat) (x : V) (H1 H2 : Hp) (ws : List (List Key × V)) (Kp : V → VK) (Ks : Hp → Prop), i < n → Same Hb H1 → H1 D = some (.dT ws) → Pv i ws (del H1 D) → Y i H1 x H2 → (∀ c k z H5, Same H1 H5 → H5 c = some (.tup (k.map kV)) → Pv (i + 1) (putK ws k z) (del H5 D) → Kp (.ref c) z H5) → (∀ H5, Same H1 H5 → Pv (i + 1) ws (del H5 D) → Ks H5) →
      g x (wipe σ vs) H2 fun σ2 H3 => wipe σ2 vs = wipe σ vs ∧ tt σ2 H3 fun b H4 => nIte b (tk σ2 H4 fun y H5 => tv σ2 H5 fun z H6 => Kp y z H6) (Ks H4))
    (hd : ∀ H' ws, Same Hb H' → H' D = some (.dT ws) → Pv n ws (del H' D) → Nx H') : nInD D J g tt tk tv vs σ H Nx := by
  refine ⟨fun i m H' => m = n - i ∧ i ≤ n ∧ ∃ kvs : List (List Key × V), Same Hb H' ∧ H' D = some (.dT kvs) ∧ Pv i kvs (del H' D), ⟨n, by simp, Nat.zero_le _, ws0, sb, e0, h0⟩, ?_⟩
  rintro i m H' ⟨rfl, hi, kvs, s1, e1, q1⟩
  by_cases hlt : i < n
  · refine .inr ⟨wk.goes i H' hlt (hG _ s1), fun H2 => i + 1 ≤ n ∧ ∃ kvs : List (List Key × V), Same Hb H2 ∧ H2 D = some (.dT kvs) ∧ Pv (i + 1) kvs (del H2 D), fun H2 p' => ⟨n - (i + 1), by omega, rfl, p'.1, p'.2⟩, fun x H2 y => ?_⟩
    exact hs i x H' H2 kvs _ _ hlt s1 e1 q1 (wk.yields i H' x H2 hlt (hG _ s1) y) (fun c k z H5 s5 ec q5 => ⟨kvs, k, c, rfl, ec, s5 D _ e1, sz_lt (by have := hz i kvs _ (by omega) q1; omega), hlt, putK kvs k z, sm_mut (s1.trans s5) hD, upd_same, by rw [del_upd]; exact q5⟩) (fun H5 s5 q5 => ⟨hlt, kvs, s1.trans s5, s5 D _ e1, q5⟩)
  · have e : i = n := by omega
    subst e
    exact .inl ⟨wk.stops H' (hG _ s1), hd H' kvs s1 e1 q1⟩
theorem k_nDcT2 {J : It} {n : Nat} {G : Hp → Prop} {Y : Nat → Hp → V → Hp → Prop} {g g1 : TG} {tt tt1 : TT} {wi1 : TI} {tk tv : TE} {vs vs1 : List Nat} (wk : Walk J n G Y) (hG : ∀ H', Same H H' → G H') (Pv : Nat → List (List Key × V) → Hp → Prop) (hm : ∀ i ws H1 H2, Same H1 H2 → Pv i ws H1 → Pv i ws H2) (h0 : Pv 0 [] H)
    (hs : ∀ (i : Nat) (x : V) (D : Addr) (H1 H2 : Hp) (ws : List (List Key × V)) (Nx : Hp → Prop), i < n → H D = none → Same H H1 → H1 D = some (.dT ws) → Pv i ws (del H1 D) → Y i H1 x H2 → (∀ H5 ws', Same H H5 → H5 D = some (.dT ws') → Pv (i + 1) ws' (del H5 D) → Nx H5) →
      g x (wipe σ vs) H2 fun σ2 H3 => wipe σ2 vs = wipe σ vs ∧ tt σ2 H3 fun b H4 => nIte b (wi1 σ2 H4 fun J1 H5 => nInD D J1 g1 tt1 tk tv vs1 σ2 H5 Nx) (Nx H4))
    (hd : ∀ (p : Addr) (H' : Hp) (ws : List (List Key × V)), H p = none → Same H H' → H' p = some (.dT ws) → Pv n ws H' → Q (.ref p) H') : nDcT2 J g tt wi1 g1 tt1 tk tv vs vs1 σ H Q := by
  intro D hD
  have sD : ∀ {H' : Hp}, Same (del H' D) H' := fun {H'} b o e => by
    unfold del at e
    split at e
    · cases e
    · exact e
  refine ⟨fun i m H' => m = n - i ∧ i ≤ n ∧ ∃ kvs : List (List Key × V), Same H H' ∧ H' D = some (.dT kvs) ∧ Pv i kvs (del H' D), ⟨n, by simp, Nat.zero_le _, [], sm_new hD, upd_same, by rw [del_upd, del_none hD]; exact h0⟩, ?_⟩
  rintro i m H' ⟨rfl, hi, kvs, s1, e1, q1⟩
  by_cases hlt : i < n
  · refine .inr ⟨wk.goes i H' hlt (hG _ s1), fun H2 => i + 1 ≤ n ∧ ∃ kvs : List (List Key × V), Same H H2 ∧ H2 D = some (.dT kvs) ∧ Pv (i + 1) kvs (del H2 D), fun H2 p' => ⟨n - (i + 1), by omega, rfl, p'.1, p'.2⟩, fun x H2 y => ?_⟩
    exact hs i x D H' H2 kvs _ hlt hD s1 e1 q1 (wk.yields i H' x H2 hlt (hG _ s1) y) fun H5 ws' s5 e5 q5 => ⟨hlt, ws', s5, e5, q5⟩
  · have e : i = n := by omega
    subst e
    exact .inl ⟨wk.stops H' (hG _ s1), hd D H' kvs hD s1 e1 (hm _ _ _ _ sD q1)⟩
end
end Gk
set_option Elab.async false
set_option autoImplicit false
set_option linter.all false
set_option maxRecDepth 100000
set_option maxHeartbeats 4000000
/-! # dict(d), d[k] = v as a target, lists of unlike lengths by != -/
namespace Gk
open PySem PySem.Spec PyProof.Rows L2
section
variable {K : PySem.W.Frag} {H : Hp} {Q : VK} {a b : Addr} {xs ys : List V}
theorem k_setD {kvs : List (Key × V)} {k : Str} {v : V} {R : Hp → Prop} (hp : H a = some (.dK kvs)) (hl : kvs.length < 1000) (h : R (upd H a (.dK (putK kvs (.inr k) v)))) : rSetD (.ref a) (.str k) v H R := ⟨a, _, rfl, DPut.k (k := .inr k) hp (sz_lt (by omega)), h⟩
end
end Gk
set_option Elab.async false
set_option autoImplicit false
set_option linter.all false
set_option maxRecDepth 100000
set_option maxHeartbeats 4000000
/-! # a tuple * int, once or more often -/
namespace Gk
open PySem PySem.Spec PyProof.Rows L2
theorem tuple_mul1 (l : Addr) (items : Array Value) (n : Nat) (dd : Option Addr) (sl : Array (Option Value)) (x : Int) (u : Tok) (c0 : (decide (x < -(2 ^ 63)) || decide (x ≥ 2 ^ 63)) = false) (c1 : (items.isEmpty || x == 1) = true) :
    Meets (Builtin.«tuple.__mul__» ⟨[.ref l, .int x u], []⟩) (fun _ R s => s.heap.get? l = some { cls := .type "tuple", dict := dd, data := .seq items n, slots := sl } ∧ R (.ok (.ret (Value.ref l))) s) :=
  .of_wp fun prog w A R s h => by
    obtain ⟨hp, g, d, tk, os⟩ := s
    obtain ⟨hl, h⟩ := h
    have f1 := AutoSeq1.idx_int
    wp_walk using wpAny_loadPart' hl
    repeat (first
      | (refine wpAny_ite_false (decide_eq_false (by rw [c0]; exact Bool.false_ne_true)) ?_; wp_walk using wpAny_loadPart' hl)
      | (refine wpAny_ite_true (decide_eq_true (by rw [c1])) ?_; wp_walk using wpAny_loadPart' hl))
    exact ⟨_, rfl, h⟩
def rRepT1 (K : PySem.W.Frag) : R2 := fun x y H Q => ∃ l xs, x = .ref l ∧ y = .int 1 ∧ SqT K H l xs ∧ Q (.ref l) H
theorem op_repT1 {X : Cx} : OpR X (binaryOp .Mult) (rRepT1 X.K) := by
  intro pins s σ H x y v u Q I rx ry h
  obtain ⟨l, xs, rfl, rfl, hT, q⟩ := h
  cases rx
  obtain ⟨t, rfl⟩ := ry
  obtain ⟨its, r, ⟨⟨cls, dd, data, sl⟩, ho, hc, n, hd⟩, hs⟩ := I.tuple hT
  simp only at hc hd
  subst hc hd
  have c0 : (decide ((1 : Int) < -(2 ^ 63)) || decide ((1 : Int) ≥ 2 ^ 63)) = false := by decide
  have c1 : (its.toArray.isEmpty || (1 : Int) == 1) = true := by
    rw [show ((1 : Int) == 1) = true from rfl, Bool.or_true]
  refine wpAny_binaryOp_repeat_ref (T := "tuple") (U := "int") (by decide) ⟨_, ho, rfl⟩ (fun s' => typeIs_int s' 1 t) noFill_tuple_mul F.fills_int_mul F.slot_int_rmul repeat_tuple F.slot_int_index.lookup
    (call_meets F.slot_int_rmul (typeIs_int s 1 t) F.entry_int_rmul (F.args_int_rmul_2 _ _) (int_rmul_tuple 1 t l its.toArray n dd sl)
      ⟨ho, rfl, ⟨_, ho, rfl⟩, call_meets F.slot_tuple_mul ⟨_, ho, rfl⟩ F.entry_tuple_mul (F.args_tuple_mul_2 _ _) (tuple_mul1 l its.toArray n dd sl 1 t c0 c1) ⟨ho, ?_⟩⟩)
  exact ⟨.ref l, _, I, rfl, q⟩
def rRepTU (K : PySem.W.Frag) : R2 := fun x y H Q => rRepT K x y H Q ∨ rRepT1 K x y H Q
theorem op_repTU {X : Cx} (K : PySem.W.Frag) (hK : X.K = K := by rfl) : OpR X (binaryOp .Mult) (rRepTU K) := by
  subst hK
  exact OpR.or op_repT op_repT1
theorem k_repT {K : PySem.W.Frag} {H : Hp} {Q : VK} {l : Addr} {n : Int} {xs : List V} (h : SqT K H l xs) (h1 : xs ≠ []) (h2 : 1 ≤ n ∧ n ≤ 1000) (h3 : xs.length ≤ 1000) (q : ∀ p H', Same H H' → SqT K H' p (List.replicate n.toNat xs).flatten → Q (.ref p) H') : rRepTU K (.ref l) (.int n) H Q := by
  by_cases e : n = 1
  · subst e
    exact .inr ⟨l, xs, rfl, rfl, h, q l H (Same.refl _) (by rw [show (1 : Int).toNat = 1 from rfl, List.replicate_one, List.flatten_cons, List.flatten_nil, List.append_nil]; exact h)⟩
  · exact .inl ⟨l, n, xs, rfl, rfl, h, h1, by omega, h2.2, h3, fun p hp => q p _ (sm_new hp) (sq_t upd_same)⟩
end Gk
set_option autoImplicit true
set_option pp.maxSteps 1200
set_option Elab.async false
set_option linter.all false
set_option maxRecDepth 100000
set_option maxHeartbeats 1000000
namespace Lw
open PySem PySem.Spec PyProof.Rows L2 Gk

abbrev FnP (K : PySem.W.Frag) (x : Str) (st : Stmt) (f : Addr) (fd : FuncData) : Prop := FunD K x x (defArgs st) (defBody st) (defScope st) [] [] f fd

local macro_rules | `(tactic| walk_at "hp") => `(tactic| first | assumption | exact upd_same | (refine' (upd_ne ?n).trans ?h; (case n => assumption); (case h => walk_at "hp")) | (refine' sm_get ?s ?h; (case s => assumption); (case h => walk_at "hp")))
local macro_rules | `(tactic| walk_at "sq") => `(tactic| first | assumption | (refine' sq_l ?h; (case h => walk_at "hp")) | (refine' sm_l ?s ?h; (case s => assumption); (case h => walk_at "sq")))
local macro_rules | `(tactic| walk_at "st") => `(tactic| first | assumption | (refine' sq_t ?h; (case h => walk_at "hp")) | (refine' sm_t ?s ?h; (case s => assumption); (case h => walk_at "st")))
local macro_rules | `(tactic| walk_at "bg") => `(tactic| first | assumption | (refine' BagOk.sm ?s ?h; (case s => assumption); (case h => walk_at "bg")))
local macro_rules | `(tactic| walk_at "sm") => `(tactic| first | assumption | exact Same.refl _ | (refine' Same.trans ?h ?s; (case s => assumption); (case h => walk_at "sm")))
local macro_rules | `(tactic| walk_at "hs") => `(tactic| first | assumption | (refine' HsAt.sm ?s ?h; (case s => assumption); (case h => walk_at "hs")))
local macro_rules | `(tactic| walk_at "ms") => `(tactic| first | assumption | (refine' MAt.sm ?s ?h; (case s => assumption); (case h => walk_at "ms")))
local macro_rules | `(tactic| walk_at "md") => `(tactic| first | assumption | (refine' MDk.sm ?s ?h; (case s => assumption); (case h => walk_at "md")))
local macro_rules | `(tactic| walk_at "dp") => `(tactic| first | assumption | (refine' dp_sm ?s ?h; (case s => assumption); (case h => walk_at "dp")))
local macro_rules | `(tactic| walk_at "sz") => `(tactic| first | decide | assumption | omega | (simp only [List.length_cons, List.length_nil, List.length_map, List.length_append]; omega))
local macro_rules | `(tactic| walk_at "g1") => `(tactic| first
  | with_reducible refine k_seq ?_
  | with_reducible refine k_itB ?_
  | with_reducible refine k_next ?_
  | with_reducible refine k_asg ?_
  | with_reducible refine k_name ?_
  | with_reducible refine k_ret ?_
  | with_reducible refine k_retN ?_
  | with_reducible refine k_drop ?_
  | with_reducible refine k_ifs ?_
  | with_reducible refine k_brk ?_
  | with_reducible refine k_cont ?_
  | with_reducible refine k_ipI ?_
  | with_reducible refine k_test ?_
  | with_reducible refine k_tB ?_
  | with_reducible refine k_bl ?_
  | with_reducible refine k_not ?_
  | with_reducible refine k_and ?_
  | with_reducible refine k_or ?_
  | with_reducible refine k_yes ?_
  | with_reducible refine k_true ?_
  | with_reducible refine k_false ?_
  | with_reducible refine k_nt ?_
  | with_reducible refine k_c ?_
  | with_reducible refine k_op ?_
  | with_reducible refine k_un ?_
  | with_reducible refine k_if ?_
  | with_reducible refine k_chain ?_
  | with_reducible refine k_nil ?_
  | with_reducible refine k_cons ?_
  | with_reducible refine k_cb ?_
  | with_reducible refine k_call ?_
  | with_reducible refine k_callS ?_
  | with_reducible refine k_andV ?_
  | with_reducible refine k_orV ?_
  | with_reducible refine k_notV ?_
  | with_reducible refine k_lst ?_
  | with_reducible refine k_tup ?_
  | with_reducible refine k_nopart ?_
  | with_reducible refine k_part ?_
  | with_reducible refine k_nInt ?_
  | with_reducible refine k_sl ?_
  | with_reducible refine k_bm ?_
  | with_reducible refine k_bm0 ?_
  | with_reducible refine k_nTyS ?_
  | with_reducible refine k_m1 ?_
  | with_reducible refine k_m0 ?_
  | with_reducible refine k_nStr ?_
  | with_reducible refine k_I0 ?_
  | with_reducible refine k_U ?_
  | with_reducible refine k_add_i ?_
  | with_reducible refine k_eq_i ?_
  | with_reducible refine k_eq_s ?_
  | with_reducible refine k_eq_b ?_
  | with_reducible refine k_ne_i ?_
  | with_reducible refine k_ne_s ?_
  | with_reducible refine k_ne_b ?_
  | with_reducible refine k_le_i ?_
  | with_reducible refine k_le_s ?_
  | with_reducible refine k_gnil ?_
  | with_reducible refine k_gcons ?_
  | with_reducible refine k_gsub ?_
  | with_reducible refine k_for ?_
  | with_reducible refine k_lc ?_
  | with_reducible refine k_rng1 ?_
  | with_reducible refine k_rng2 ?_
  | with_reducible refine k_itl ?_
  | with_reducible refine k_itt ?_
  | with_reducible refine k_its ?_
  | with_reducible refine k_ite ?_
  | with_reducible refine k_iteB ?_
  | with_reducible refine k_lrg2 ?_
  | with_reducible refine k_itz ?_
  | with_reducible refine k_nIts ?_
  | with_reducible refine k_inS ?_
  | with_reducible refine k_niS ?_
  | with_reducible refine k_mk ?_
  | with_reducible refine k_meth ?_
  | with_reducible refine k_fld ?_
  | with_reducible refine k_sfld ?_
  | with_reducible refine k_dg ?_
  | with_reducible refine k_dp ?_
  | with_reducible refine k_pr ?_
  | with_reducible refine k_pr0 ?_
  | with_reducible refine k_sg ?_
  | with_reducible refine k_lc2 ?_
  | with_reducible refine k_callN ?_
  | with_reducible refine k_callNS ?_
  | with_reducible refine k_par ?_
  | with_reducible refine k_nPar ?_
  | with_reducible refine k_isNn ?_
  | with_reducible refine k_isNr ?_
  | with_reducible refine k_ntNn ?_
  | with_reducible refine k_ntNr ?_
  | with_reducible refine k_min2 ?_
  | with_reducible refine k_max2 ?_
  | with_reducible refine k_intB ?_
  | with_reducible refine k_intI ?_
  | with_reducible refine k_isBl ?_
  | with_reducible refine k_ntBl ?_
  | ((with_reducible refine' k_var ?kv ?_); (case kv => exact rfl))
  | ((with_reducible refine' k_aug ?kv ?_); (case kv => exact rfl))
  | ((with_reducible refine' k_ix_l ?ks ?ki ?_); (case ks => walk_at "sq"); (case ki => exact rfl))
  | ((with_reducible refine' k_ix_t ?ks ?ki ?_); (case ks => walk_at "st"); (case ki => exact rfl))
  | ((with_reducible refine' k_len_l ?ks ?_); (case ks => walk_at "sq"))
  | ((with_reducible refine' k_len_t ?ks ?_); (case ks => walk_at "st"))
  | ((with_reducible refine' k_setL ?ks ?ki ?_); (case ks => walk_at "hp"); (case ki => exact rfl))
  | ((with_reducible refine' k_nTyL ?ks ?_); (case ks => walk_at "sq"))
  | ((with_reducible refine' k_nItl ?ks ?_); (case ks => walk_at "sq"))
  | ((with_reducible refine' k_nItt ?ks ?_); (case ks => walk_at "st"))
  | ((with_reducible refine' k_nIte ?ks ?_); (case ks => walk_at "sq"))
  | ((with_reducible refine' k_mul ?km ?_); (case km => first | exact Or.inr ⟨by decide, by decide⟩ | exact Or.inl ⟨by decide, by decide⟩))
  | ((with_reducible refine' k_I ?km ?_); (case km => first | assumption | decide | exact ⟨by decide, by decide +kernel⟩ | exact ⟨by decide, by decide, by decide⟩))
  | ((with_reducible refine' k_nMeth ?kp ?kl ?_); (case kp => walk_at "hp"); (case kl => exact rfl))
  | ((with_reducible refine' k_nFld ?kp ?kc ?kn ?kl ?_); (case kp => walk_at "hp"); (case kc => assumption); (case kn => assumption); (case kl => exact rfl))
  | ((with_reducible refine' k_nSFld ?kp ?kc ?kn ?kl ?_); (case kp => walk_at "hp"); (case kc => assumption); (case kn => assumption); (case kl => exact of_decide_eq_true rfl))
  | ((with_reducible refine' k_nDg ?kp ?kl ?_); (case kp => walk_at "hp"); (case kl => exact rfl))
  | ((with_reducible refine' k_nRng1 ?k1 ?k2 ?_); (case k1 => omega); (case k2 => omega))
  | ((with_reducible refine' k_nKw ?k1 ?k2 ?_); (case k1 => exact rfl); (case k2 => exact rfl))
  | ((with_reducible refine' k_hsm ?kh ?_); (case kh => walk_at "hs"))
  | ((with_reducible refine' k_nMethH ?kh ?kl ?_); (case kh => walk_at "hs"); (case kl => exact fun _ _ => rfl))
  | ((with_reducible refine' k_mLet ?kh ?_); (case kh => walk_at "ms"))
  | ((with_reducible refine' k_mChew ?kh ?_); (case kh => walk_at "ms"))
  | ((with_reducible refine' k_mPut ?kh ?_); (case kh => walk_at "ms"))
  | ((with_reducible refine' k_mMost ?kh ?_); (case kh => walk_at "ms"))
  | ((with_reducible refine' k_mCut ?kh ?_); (case kh => walk_at "ms"))
  | ((with_reducible refine' k_mTab ?kh ?_); (case kh => walk_at "md"))
  | ((with_reducible refine' k_mEats ?kh ?_); (case kh => walk_at "md"))
  | ((with_reducible refine' k_gtup ?ks ?kl ?_); (case ks => walk_at "st"); (case kl => exact rfl)))
local macro_rules | `(tactic| walk_at "g") => `(tactic| repeat (walk_at "g1"))
local macro_rules | `(tactic| walk_at "w1") => `(tactic| first
  | walk_at "g1"
  | ((with_reducible refine' k_decT ?kp ?_); (case kp => omega))
  | ((with_reducible refine' k_decF ?kp ?_); (case kp => omega))
  | ((with_reducible refine' k_decNT ?kp ?_); (case kp => omega))
  | ((with_reducible refine' k_decNF ?kp ?_); (case kp => omega)))
local macro_rules | `(tactic| walk_at "w") => `(tactic| repeat (walk_at "w1"))


section
variable {P : Program} {w : World} {K : PySem.W.Frag} {mg : Str → Option Value} {base : Heap} {f : Addr} {fd : FuncData}
/-! ### the bag is made -/
def spBag (K : PySem.W.Frag) : Sp := fun vs H Q _ => ∃ (a : Addr) (ns : List Int), vs = [.ref a] ∧ SqL K H a (ns.map V.int) ∧ ns.length ≤ 63 ∧ ∀ b H', Same H H' → BagOk H' b → Q (.ref b) H'
theorem cut_int (ns : List Int) (lo hi : Option Int) : ∃ ms : List Int, cutV (ns.map V.int) lo hi = ms.map V.int ∧ ms.length ≤ ns.length := by
  refine ⟨(ns.drop (HT.sIx (ns.map V.int).length 0 lo)).take (HT.sIx (ns.map V.int).length (ns.map V.int).length hi - HT.sIx (ns.map V.int).length 0 lo), ?_, ?_⟩
  · unfold cutV
    rw [List.map_take, List.map_drop]
  · rw [List.length_take, List.length_drop]
    omega
theorem ok_Lbag (F : FnP K "_law_bag" s_Lbag f fd) (hm : mg "_law_bag" = some (.ref f)) (f_len : mg "len" = none) (f_list : mg "list" = none) : Callee P w K mg base CX0 "_law_bag" 1 [] (spBag K) := by
  refine ⟨f, fd, _, [], F.ok sc_Lbag (fun vs H Q E h => ?hl) (fun cdv A outer s H vs Q E hr h => ⟨_, PSs.nox (pss_seal (pss_cons (ps_set (i := 1) sc_Lbag.nd rfl (by first | exact Or.inl rfl | exact Or.inr rfl) (pe_callTy (call_listK K) (by rfl) f_list (by decide +kernel) (pa_cons (pe_slice (sl_k K) (pv 0) po_none (po_some pe_int)) pa_nil)))
      (pss_cons (ps_set (i := 2) sc_Lbag.nd rfl (by first | exact Or.inl rfl | exact Or.inr rfl) (pe_op (op_addK K) pe_int (pe_callB (call_lenK K) (by rfl) f_len PySem.boot_len (pa_cons (pv 1) pa_nil))))
      (pss_cons (ps_for PassesOwn.never rfl (pi_listK K (pv 1)) (pg_name (i := 3) sc_Lbag.nd rfl (by first | exact Or.inl rfl | exact Or.inr rfl)) (pss_one (ps_set (i := 2) sc_Lbag.nd rfl (by first | exact Or.inl rfl | exact Or.inr rfl) (pe_op op_mod (pe_op (op_addK K) (pe_op op_mul (pv 2) pe_int) (pv 3)) pe_int))))
      (pss_one (ps_ret (pe_lst (pa_cons (pv 1) (pa_cons pe_int (pa_cons pe_int (pa_cons (pv 2) pa_nil))))))))))), ?rd⟩), hm, F.kp, F.bindsN fun _ _ _ _ _ _ us hl => match us, hl with | [_], _ => rfl, .nil⟩
  case hl =>
    obtain ⟨b, u, rfl, _⟩ := h
    rfl
  case rd =>
    obtain ⟨a, ns, rfl, hS, hn, q⟩ := h
    refine k_start (σ' := [some _, none, none, none]) rfl ?_
    unfold tSeal
    walk_at "g"
    obtain ⟨ms, em, lm⟩ := cut_int ns none (some 63)
    refine k_sl_l hS (fun p1 H1 n1 s1 e1 => ?_)
    rw [em] at e1
    walk_at "g"
    refine k_list_l (sq_l e1) (fun p2 H2 n2 s2 e2 => ?_)
    walk_at "g"
    refine k_nFor (walk_list (xs := ms.map V.int)) (fun i σ H' => ∃ (k : Int) (y : Option V), σ = [some (.ref a), some (.ref p2), some (.int k), y] ∧ H' = H2) ⟨_, none, rfl, rfl⟩ (fun i σ H' _ h => ?_) (fun i x σ Ha Hb hi h hy => ?_) (fun σ H' h => ?_)
    · obtain ⟨k, y, rfl, rfl⟩ := h
      exact sq_l e2
    · obtain ⟨k, y, rfl, rfl⟩ := h
      obtain ⟨rfl, hx⟩ := hy
      obtain ⟨m, rfl⟩ : ∃ m, x = V.int m := by
        rw [List.getElem?_map] at hx
        cases e : ms[i]? with
        | none => rw [e] at hx; cases hx
        | some m => rw [e] at hx; exact ⟨m, (Option.some.inj hx).symm⟩
      walk_at "g"
      exact ⟨_, _, rfl, rfl⟩
    · obtain ⟨k, y, rfl, rfl⟩ := h
      walk_at "g"
      refine k_nLst (by walk_at "sz") (fun p3 H3 n3 s3 e3 => ?_)
      refine ⟨p3, p2, 0, 0, k, rfl, by decide, e3, q p3 _ (sm_mut (s1.trans (s2.trans s3)) ((s1.trans s2).free n3)) ⟨p2, ms, upd_same, ?_⟩⟩
      rw [upd_ne (ne_of_none e2 n3)]
      exact s3 _ _ e2
/-! ### a draw -/
def spPull : Sp := fun vs H Q _ => ∃ (b : Addr) (u : Int), vs = [.ref b, .int u] ∧ BagOk H b ∧ 0 < u ∧ u.natAbs.log2 < 9000 ∧ ∀ n, 0 ≤ n → n < u → Q (.int n) H
theorem ok_Lpull (F : FnP K "_law_pull" s_Lpull f fd) (hm : mg "_law_pull" = some (.ref f)) (f_len : mg "len" = none) : Callee P w K mg base CX0 "_law_pull" 1 [] spPull := by
  refine ⟨f, fd, _, [], F.ok sc_Lpull (fun vs H Q E h => ?hl) (fun cdv A outer s H vs Q E hr h => ⟨_, PSs.nox (pss_bag (pss_cons (ps_if (pt_cmpR op_lt (pe_ix (ix_k K) (pv 0) pe_int (fun _ _ => rfl)) pe_int (nomark _)) (pss_cons (ps_asg (pe_op (op_addK K) (pe_ix (ix_k K) (pv 0) pe_int (fun _ _ => rfl)) pe_int) (pg_sub (pv 0) pe_int set_list))
      (pss_cons (ps_set (i := 3) sc_Lpull.nd rfl (by first | exact Or.inl rfl | exact Or.inr rfl) (pe_op (op_addK K) (pe_ix (ix_k K) (pv 0) pe_int (fun _ _ => rfl)) (pe_op op_mul (pe_ix (ix_k K) (pv 0) pe_int (fun _ _ => rfl)) pe_int)))
      (pss_cons (ps_if (pt_cmpR op_leU (pe_ix (ix_k K) (pv 0) pe_int (fun _ _ => rfl)) (pe_callB (call_lenK K) (by rfl) f_len PySem.boot_len (pa_cons (pe_ix (ix_k K) (pv 0) pe_int (fun _ _ => rfl)) pa_nil)) (nomark _)) (pss_one (ps_set (i := 3) sc_Lpull.nd rfl (by first | exact Or.inl rfl | exact Or.inr rfl) (pe_ix (ix_k K) (pe_ix (ix_k K) (pv 0) pe_int (fun _ _ => rfl)) (pe_op op_sub (pe_ix (ix_k K) (pv 0) pe_int (fun _ _ => rfl)) pe_int) (fun _ _ => rfl)))) pss_nil)
      (pss_cons (ps_if (PW.pt (pw_or (pt_cmpR op_gt (pe_ix (ix_k K) (pv 0) pe_int (fun _ _ => rfl)) (pe_callB (call_lenK K) (by rfl) f_len PySem.boot_len (pa_cons (pe_ix (ix_k K) (pv 0) pe_int (fun _ _ => rfl)) pa_nil)) (nomark _)) (pw_or1 (pt_cmpR op_lt (pv 3) (pe_op op_pow pe_int pe_int) (nomark _))))) (pss_cons (ps_set (i := 4) sc_Lpull.nd rfl (by first | exact Or.inl rfl | exact Or.inr rfl) (pe_op op_mod (pe_op (op_addK K) (pe_op (op_addK K) (pe_op op_mul (pv 3) pe_int) (pe_op op_mul (pe_ix (ix_k K) (pv 0) pe_int (fun _ _ => rfl)) pe_int)) (pe_ix (ix_k K) (pv 0) pe_int (fun _ _ => rfl))) pe_int))
      (pss_cons (ps_set (i := 5) sc_Lpull.nd rfl (by first | exact Or.inl rfl | exact Or.inr rfl) (pe_op op_mod (pe_op (op_addK K) (pe_op op_mul (pv 4) (pv 4)) (pe_ix (ix_k K) (pv 0) pe_int (fun _ _ => rfl))) pe_int))
      (pss_one (ps_ret (pe_op op_mod (pe_op op_fdivW (pe_op op_mod (pe_op (op_addK K) (pe_op op_mul (pv 5) pe_int) (pv 4)) pe_int) pe_int) (pv 1)))))) pss_nil)
      (pss_one (ps_asg (pv 3) (pg_sub (pv 0) pe_int set_list))))))) pss_nil)
      (pss_cons (ps_set (i := 2) sc_Lpull.nd rfl (by first | exact Or.inl rfl | exact Or.inr rfl) (pe_op op_mod (pe_ix (ix_k K) (pv 0) pe_int (fun _ _ => rfl)) (pv 1)))
      (pss_cons (ps_asg (pe_op op_fdivW (pe_ix (ix_k K) (pv 0) pe_int (fun _ _ => rfl)) (pv 1)) (pg_sub (pv 0) pe_int set_list))
      (pss_one (ps_ret (pv 2))))))), ?rd⟩), hm, F.kp, F.bindsN fun _ _ _ _ _ _ us hl => match us, hl with | [_, _], _ => rfl, .nil⟩
  case hl =>
    obtain ⟨b, u, rfl, _⟩ := h
    rfl
  case rd =>
    obtain ⟨b, u, rfl, ⟨c, ns, hb, hc⟩, hu, hu2, q⟩ := h
    refine ⟨b, c, hb, fun i1 i2 i3 hi => ?_⟩
    have hcb : c ≠ b := ne_of hc hb (fun z => by cases z)
    refine k_start (σ' := [some _, some _, none, none, none, none]) rfl ?_
    walk_at "g"
    have m0 : ∀ n : Int, 0 ≤ n % u := fun n => Int.emod_nonneg n (by omega)
    have m1 : ∀ n : Int, n % u < u := fun n => Int.emod_lt_of_pos n hu
    have hdv : ∀ n : Int, CDivW n u := fun n => ⟨hu, hu2⟩
    have fin : ∀ (j1 j2 j3 n : Int) (Hx : Hp), 0 ≤ j1 → 0 ≤ n → n < u → Hx b = some (.lst (bagL c j1 j2 j3)) → upd Hx b (bagO b c) = H → ∃ j1 j2 j3, 0 ≤ j1 ∧ Hx b = some (.lst (bagL c j1 j2 j3)) ∧ Q (.int n) (upd Hx b (bagO b c)) := by
      intro j1 j2 j3 n Hx hj hn0 hn1 hx hh
      refine ⟨j1, j2, j3, hj, hx, ?_⟩
      rw [hh]
      exact q n hn0 hn1
    refine k_dec (fun h2 => ?_) (fun h2 => ?_)
    · walk_at "g"
      refine k_dec (fun h3 => ?_) (fun h3 => ?_)
      · walk_at "g"
        have hl : (ns.map V.int).length = ns.length := List.length_map _
        rw [hl] at h3
        have hk : (i1 + 1 - 1).toNat < ns.length := by omega
        refine k_ix_l (xs := ns.map V.int) (v := .int (ns[(i1 + 1 - 1).toNat])) (by walk_at "sq") (at_of (j := (i1 + 1 - 1).toNat) (by omega) (by rw [List.getElem?_map, List.getElem?_eq_getElem hk]; rfl)) ?_
        walk_at "g"
        refine k_dec (fun h4 => absurd h4 (by rw [hl]; omega)) (fun h4 => ?_)
        walk_at "g"
        refine k_dec (fun h5 => ?_) (fun h5 => ?_)
        · walk_at "g"
          refine k_mul (.inl ⟨by omega, by omega⟩) ?_
          walk_at "g"
          exact fin (i1 + 1) i2 i3 _ _ (by omega) (m0 _) (m1 _) upd_same (by simp only [upd_upd, upd_id hb])
        · walk_at "g"
          refine k_I (hdv _) ?_
          walk_at "g"
          exact fin (i1 + 1) _ i3 _ _ (by omega) (m0 _) (m1 _) upd_same (by simp only [upd_upd, upd_id hb])
      · walk_at "g"
        refine k_dec (fun h4 => ?_) (fun h4 => absurd h4 (by omega))
        walk_at "g"
        refine k_mul (.inl ⟨by omega, by omega⟩) ?_
        walk_at "g"
        exact fin (i1 + 1) i2 i3 _ _ (by omega) (m0 _) (m1 _) upd_same (by simp only [upd_upd, upd_id hb])
    · walk_at "g"
      refine k_I (hdv _) ?_
      walk_at "g"
      exact fin i1 _ i3 _ _ hi (m0 _) (m1 _) upd_same (by simp only [upd_upd, upd_id hb])
theorem log_lt {u : Int} (h : u < 2 ^ 250) (h0 : 0 < u) : u.natAbs.log2 < 9000 := by
  have h1 : u.natAbs < 2 ^ 250 := by
    have e : ((u.natAbs : Nat) : Int) = u := Int.natAbs_of_nonneg (by omega)
    have h2 : ((u.natAbs : Nat) : Int) < ((2 ^ 250 : Nat) : Int) := by
      rw [e]
      exact h
    exact Int.ofNat_lt.mp h2
  exact Nat.lt_of_lt_of_le ((Nat.log2_lt (by omega)).mpr h1) (by decide)
theorem k_pull {H : Hp} {Q : VK} {E : XK} {b : Addr} {u : Int} (hb : BagOk H b) (h0 : 0 < u) (h1 : u < 2 ^ 250) (q : ∀ n, 0 ≤ n → n < u → Q (.int n) H) : spPull ([.ref b, .int u] ++ []) H Q E := ⟨b, u, rfl, hb, h0, log_lt h1 h0, q⟩
/-! ### one of a row -/
def spOne (K : PySem.W.Frag) : Sp := fun vs H Q _ => ∃ (b : Addr) (r : V), vs = [.ref b, r] ∧ BagOk H b ∧
  ((∃ a xs, r = .ref a ∧ SqL K H a xs ∧ 0 < xs.length ∧ xs.length ≤ 100000 ∧ ∀ x ∈ xs, Q x H) ∨ (∃ z : Str, r = .str z ∧ 0 < z.length ∧ z.length ≤ 100000 ∧ ∀ c ∈ z.cps.toList, Q (.str ⟨#[c]⟩) H))
theorem ok_Lone (F : FnP K "_law_one" s_Lone f fd) (hm : mg "_law_one" = some (.ref f)) (f_len : mg "len" = none) (c_Lpull : Callee P w K mg base CX0 "_law_pull" 1 [] spPull) : Callee P w K mg base CX0 "_law_one" 2 [] (spOne K) := by
  refine ⟨f, fd, _, [], F.ok sc_Lone (fun vs H Q E h => ?hl) (fun cdv A outer s H vs Q E hr h => ⟨_, PSs.nox (pss_one (ps_ret (pe_ix (ix_k K) (pv 1) (pe_cl c_Lpull hr (pa_cons (pv 0) (pa_cons (pe_callB (call_lenK K) (by rfl) f_len PySem.boot_len (pa_cons (pv 1) pa_nil)) pa_nil)) pass0) (fun _ _ => rfl)))), ?rd⟩), hm, F.kp, F.bindsN fun _ _ _ _ _ _ us hl => match us, hl with | [_, _], _ => rfl, .nil⟩
  case hl =>
    obtain ⟨b, u, rfl, _⟩ := h
    rfl
  case rd =>
    obtain ⟨b, r, rfl, hb, h⟩ := h
    refine k_start (σ' := [some _, some _]) rfl ?_
    rcases h with ⟨a, xs, rfl, hx, h0, h1, q⟩ | ⟨z, rfl, h0, h1, q⟩
    · walk_at "g"
      refine k_pull hb (by omega) (by omega) (fun n n0 n1 => ?_)
      have hk : n.toNat < xs.length := by omega
      exact k_ix_l hx (at_of (j := n.toNat) (by omega) (List.getElem?_eq_getElem hk)) (q _ (List.getElem_mem hk))
    · walk_at "g"
      refine k_len_s h1 ?_
      walk_at "g"
      have hz : z.length = z.cps.toList.length := by
        show z.cps.size = _
        simp
      refine k_pull hb (by omega) (by omega) (fun n n0 n1 => ?_)
      have hk : n.toNat < z.cps.toList.length := by omega
      refine k_ix_s h1 (c := z.cps.toList[n.toNat]) ?_ (q _ (List.getElem_mem hk))
      unfold atI ixN
      rw [if_pos n0, if_pos (by omega)]
      exact List.getElem?_eq_getElem hk
/-! ### told alike -/
def spSame (K : PySem.W.Frag) (j : Nat) : Sp := fun vs H Q _ => ∃ (x y : V) (d : PyData), vs = [x, y] ∧ Dp K H x d ∧ Dp K H y d ∧ Fit j d ∧ ∀ H', Same H H' → Q (.bl true) H'
theorem step_Lsame {j : Nat} (F : FnP K "_law_same" s_Lsame f fd) (hm : mg "_law_same" = some (.ref f)) (f_len : mg "len" = none) (f_isinstance : mg "isinstance" = none) (f_list : mg "list" = none) (f_tuple : mg "tuple" = none) (f_repr : mg "repr" = none) (f_zip : mg "zip" = none) (f_all : mg "all" = none)
    (c_Lsame : Callee P w K mg base CX0 "_law_same" j [] (spSame K j)) : Callee P w K mg base CX0 "_law_same" (j + 1) [] (spSame K (j + 1)) := by
  refine ⟨f, fd, _, [], F.ok sc_Lsame (fun vs H Q E h => ?hl) (fun cdv A outer s H vs Q E hr h => ⟨_, PSs.nox (pss_cons (ps_if (pt_not (pt_val (pe_callB (call_isiK K) (by rfl) f_isinstance (by decide +kernel) (pa_cons (pv 1) (pa_cons (pe_tup (pa_cons (pe_bltn (v := .ty "list") (by rfl) f_list (by decide +kernel) rfl) (pa_cons (pe_bltn (v := .ty "tuple") (by rfl) f_tuple (by decide +kernel) rfl) pa_nil))) pa_nil))))) (pss_one (ps_ret (pe_cmpR (op_eqK K hr.units) (pe_callB call_reprU (by rfl) f_repr (by decide +kernel) (pa_cons (pv 0) pa_nil)) (pe_callB call_reprU (by rfl) f_repr (by decide +kernel) (pa_cons (pv 1) pa_nil)) (nomark _)))) pss_nil)
      (pss_cons (ps_if (PW.pt (pw_or (pt_cmpR (op_neK K hr.units) (pe_callB (call_isiK K) (by rfl) f_isinstance (by decide +kernel) (pa_cons (pv 1) (pa_cons (pe_bltn (v := .ty "list") (by rfl) f_list (by decide +kernel) rfl) pa_nil))) (pe_callB (call_isiK K) (by rfl) f_isinstance (by decide +kernel) (pa_cons (pv 0) (pa_cons (pe_bltn (v := .ty "list") (by rfl) f_list (by decide +kernel) rfl) pa_nil))) (nomark _)) (pw_or1 (pt_cmpR (op_neK K hr.units) (pe_callB (call_isiK K) (by rfl) f_isinstance (by decide +kernel) (pa_cons (pv 1) (pa_cons (pe_bltn (v := .ty "tuple") (by rfl) f_tuple (by decide +kernel) rfl) pa_nil))) (pe_callB (call_isiK K) (by rfl) f_isinstance (by decide +kernel) (pa_cons (pv 0) (pa_cons (pe_bltn (v := .ty "tuple") (by rfl) f_tuple (by decide +kernel) rfl) pa_nil))) (nomark _))))) (pss_one (ps_ret pe_bl)) pss_nil)
      (pss_cons (ps_setLc (i := 2) (own := [("_law_one_here", 3), ("_law_other", 4)]) rfl sc_Lsame.nd rfl rfl (sw_true rfl rfl rfl (by decide +kernel)) (pi_zipK K (by rfl) f_zip (pa_cons (pv 0) (pa_cons (pv 1) pa_nil))) (blkOk_by (N := ["_law_found", "_law_due", "_law_same_here", "_law_one_here", "_law_other"]) (sc := defScope s_Lsame) (by decide +kernel)) (fun _ _ _ _ _ => (pg_tupK K 2 (by rfl) (pgs_cons (pg_name (i := 3) sc_Lsame.nd rfl (by first | exact Or.inl rfl | exact Or.inr rfl)) (pgs_cons (pg_name (i := 4) sc_Lsame.nd rfl (by first | exact Or.inl rfl | exact Or.inr rfl)) pgs_nil)))) (fun _ _ _ _ _ => pts_nil) (fun _ _ _ _ _ => (pe_cl c_Lsame hr (pa_cons (pv 3) (pa_cons (pv 4) pa_nil)) pass0)))
      (pss_one (ps_ret (pe_and (pe_cmpR (op_eqK K hr.units) (pe_callB (call_lenK K) (by rfl) f_len PySem.boot_len (pa_cons (pv 0) pa_nil)) (pe_callB (call_lenK K) (by rfl) f_len PySem.boot_len (pa_cons (pv 1) pa_nil)) (nomark _)) (pe_one (pe_callB (cr_allK K) (by rfl) f_all (by decide +kernel) (pa_cons (pv 2) pa_nil))))))))), ?rd⟩), hm, F.kp, F.bindsN fun _ _ _ _ _ _ us hl => match us, hl with | [_, _], _ => rfl, .nil⟩
  case hl =>
    obtain ⟨b, u, d, rfl, _⟩ := h
    rfl
  case rd =>
    obtain ⟨x, y, d, rfl, hx, hy, fit, q⟩ := h
    refine k_start (σ' := [some _, some _, none, none, none]) rfl ?_
    walk_at "g"
    refine k_nTup (by walk_at "sz") (fun p1 H1 n1 s1 e1 => ?_)
    refine k_isiLT (dp_sm s1 hy) e1 ?_
    walk_at "g"
    cases hs : isSeqD d with
    | false =>
      refine k_false ?_
      obtain ⟨z, hz⟩ := repr_of_dp hx fit hs
      have exy := dp_scal hx hy hs
      subst exy
      walk_at "g"
      refine k_repr hz ?_
      walk_at "g"
      refine k_repr hz ?_
      walk_at "g"
      rw [decide_eq_true rfl]
      exact q _ s1
    | true =>
      refine k_true ?_
      walk_at "g"
      refine k_isiL (dp_sm s1 hy) ?_
      walk_at "g"
      refine k_isiL (dp_sm s1 hx) ?_
      walk_at "g"
      rw [decide_eq_true rfl]
      refine k_true ?_
      walk_at "g"
      refine k_isiTu (dp_sm s1 hy) ?_
      walk_at "g"
      refine k_isiTu (dp_sm s1 hx) ?_
      walk_at "g"
      rw [decide_eq_true rfl]
      refine k_true ?_
      walk_at "g"
      cases hx with
      | non => cases hs
      | bl b => cases hs
      | int i => cases hs
      | str z => cases hs
      | @lst a xs ds hxs rx =>
        cases hy with
        | @lst b ys _ hys ry =>
        refine k_nItzL (sm_l s1 hxs) (sm_l s1 hys) ?_
        refine k_nLc (walk_zip (xs := xs) (ys := ys) rfl) (fun H' s2 => ⟨sm_l (s1.trans s2) hxs, sm_l (s1.trans s2) hys⟩) (fun i ws => ws = List.replicate i (.bl true)) rfl (fun i ws hi hw => ?hz) (fun i v Ha Hb ws Kp Ks hi sa hws hy2 hKp hKs => ?ht) (fun p Hp ws np sp ep hws => ?he)
        case hz =>
          rw [hw, List.length_replicate]
          have := dpall_len rx
          have := fit.1
          omega
        case ht =>
          obtain ⟨T, xi, yi, rfl, nT, rfl, ex, ey⟩ := hy2
          have sT : Same Ha (upd Ha T (.tup [xi, yi])) := sm_new nT
          have eT : (upd Ha T (.tup [xi, yi])) T = some (.tup [xi, yi]) := upd_same
          generalize upd Ha T (.tup [xi, yi]) = Hb at sT eT
          obtain ⟨di, e1, h1⟩ := dpall_get rx ex
          obtain ⟨dj, e2, h2⟩ := dpall_get ry ey
          rw [e1] at e2
          cases e2
          walk_at "g"
          refine ⟨rfl, ?_⟩
          walk_at "g"
          exact ⟨xi, yi, di, rfl, dp_sm ((s1.trans sa).trans sT) h1, dp_sm ((s1.trans sa).trans sT) h2, fit.2 _ (List.mem_of_getElem? e1), fun H' s' => hKp _ _ (sT.trans s') (by rw [hws, List.replicate_succ'])⟩
        case he =>
          walk_at "g"
          rw [dpall_len rx, dpall_len ry, decide_eq_true rfl]
          walk_at "g"
          rw [hws] at ep
          refine k_all (bs := List.replicate (min xs.length ys.length) true) (sq_l (by rw [ep, List.map_replicate])) ?_
          have et : (List.replicate (min xs.length ys.length) true).all id = true := by simp
          rw [et]
          walk_at "g"
          exact q _ (s1.trans sp)
      | @tup a xs ds hxs rx =>
        cases hy with
        | @tup b ys _ hys ry =>
        refine k_nItzT (sm_t s1 hxs) (sm_t s1 hys) ?_
        refine k_nLc (walk_zipT (xs := xs) (ys := ys) rfl) (fun H' s2 => ⟨sm_t (s1.trans s2) hxs, sm_t (s1.trans s2) hys⟩) (fun i ws => ws = List.replicate i (.bl true)) rfl (fun i ws hi hw => ?hz) (fun i v Ha Hb ws Kp Ks hi sa hws hy2 hKp hKs => ?ht) (fun p Hp ws np sp ep hws => ?he)
        case hz =>
          rw [hw, List.length_replicate]
          have := dpall_len rx
          have := fit.1
          omega
        case ht =>
          obtain ⟨T, xi, yi, rfl, nT, rfl, ex, ey⟩ := hy2
          have sT : Same Ha (upd Ha T (.tup [xi, yi])) := sm_new nT
          have eT : (upd Ha T (.tup [xi, yi])) T = some (.tup [xi, yi]) := upd_same
          generalize upd Ha T (.tup [xi, yi]) = Hb at sT eT
          obtain ⟨di, e1, h1⟩ := dpall_get rx ex
          obtain ⟨dj, e2, h2⟩ := dpall_get ry ey
          rw [e1] at e2
          cases e2
          walk_at "g"
          refine ⟨rfl, ?_⟩
          walk_at "g"
          exact ⟨xi, yi, di, rfl, dp_sm ((s1.trans sa).trans sT) h1, dp_sm ((s1.trans sa).trans sT) h2, fit.2 _ (List.mem_of_getElem? e1), fun H' s' => hKp _ _ (sT.trans s') (by rw [hws, List.replicate_succ'])⟩
        case he =>
          walk_at "g"
          rw [dpall_len rx, dpall_len ry, decide_eq_true rfl]
          walk_at "g"
          rw [hws] at ep
          refine k_all (bs := List.replicate (min xs.length ys.length) true) (sq_l (by rw [ep, List.map_replicate])) ?_
          have et : (List.replicate (min xs.length ys.length) true).all id = true := by simp
          rw [et]
          walk_at "g"
          exact q _ (s1.trans sp)
theorem base_Lsame (F : FnP K "_law_same" s_Lsame f fd) (hm : mg "_law_same" = some (.ref f)) : Callee P w K mg base CX0 "_law_same" 0 [] (spSame K 0) := by
  refine ⟨f, fd, ["_law_found", "_law_due"], [], ⟨fun vs H Q E h => ?_, fun A outer s H args us vs Q E hr e0 hb r h => ?_⟩, hm, F.kp, F.bindsN fun _ _ _ _ _ _ us hl => match us, hl with | [_, _], _ => rfl, .nil⟩
  · obtain ⟨x, y, d, _, _, _, fit, _⟩ := h
    exact fit.elim
  · obtain ⟨x, y, d, _, _, _, fit, _⟩ := h
    exact fit.elim
theorem ok_Lsame (F : FnP K "_law_same" s_Lsame f fd) (hm : mg "_law_same" = some (.ref f)) (f_len : mg "len" = none) (f_isinstance : mg "isinstance" = none) (f_list : mg "list" = none) (f_tuple : mg "tuple" = none) (f_repr : mg "repr" = none) (f_zip : mg "zip" = none) (f_all : mg "all" = none) :
    ∀ j, Callee P w K mg base CX0 "_law_same" j [] (spSame K j)
  | 0 => base_Lsame F hm
  | j + 1 => step_Lsame F hm f_len f_isinstance f_list f_tuple f_repr f_zip f_all (ok_Lsame F hm f_len f_isinstance f_list f_tuple f_repr f_zip f_all j)
/-! ### letters -/
def small (c : Nat) : Prop := 97 ≤ c ∧ c ≤ 122
/-- a rising text of small letters -/
def Rise (cs : List Nat) : Prop := cs.Pairwise (· < ·) ∧ ∀ c ∈ cs, small c
def spLetters : Sp := fun vs H Q _ => ∃ (b : Addr) (m : Nat), vs = [.ref b, .int (m : Nat)] ∧ BagOk H b ∧ m ≤ 3 ∧ ∀ (cs : List Nat) H', Rise cs → cs.length = m → Same H H' → Q (.str (tx cs)) H'
theorem abc_at : ∀ n : Fin 26, (Str.ofString "abcdefghijklmnopqrstuvwxyz").cps.toList[n.val]? = some (97 + n.val) := by decide +kernel
theorem abc_len : (Str.ofString "abcdefghijklmnopqrstuvwxyz").length = 26 := by decide +kernel
def lcode (sp st : Int) (k : Nat) : Nat := 97 + ((sp + st * (k : Int)) % 26).toNat
theorem lcode_inj {sp st : Int} {i j : Nat} (h0 : 1 ≤ st) (h1 : st ≤ 8) (hi : i < j) (hj : j < 3) : lcode sp st i ≠ lcode sp st j := by
  unfold lcode
  have : (i = 0 ∧ j = 1) ∨ (i = 0 ∧ j = 2) ∨ (i = 1 ∧ j = 2) := by omega
  rcases this with ⟨rfl, rfl⟩ | ⟨rfl, rfl⟩ | ⟨rfl, rfl⟩ <;> omega
theorem lcodes_nodup {sp st : Int} {m : Nat} (h0 : 1 ≤ st) (h1 : st ≤ 8) (hm : m ≤ 3) : ((List.range m).map (lcode sp st)).Nodup := by
  have : m = 0 ∨ m = 1 ∨ m = 2 ∨ m = 3 := by omega
  have e01 := lcode_inj (sp := sp) h0 h1 (i := 0) (j := 1) (by omega) (by omega)
  have e02 := lcode_inj (sp := sp) h0 h1 (i := 0) (j := 2) (by omega) (by omega)
  have e12 := lcode_inj (sp := sp) h0 h1 (i := 1) (j := 2) (by omega) (by omega)
  rcases this with rfl | rfl | rfl | rfl
  · simp
  · simp [List.range_succ]
  · simp [List.range_succ, e01]
  · simp [List.range_succ, e01, e02, e12]
theorem ok_Lletters (F : FnP K "_law_letters" s_Lletters f fd) (hm : mg "_law_letters" = some (.ref f)) (f_range : mg "range" = none) (f_sorted : mg "sorted" = none) (c_Lpull : Callee P w K mg base CX0 "_law_pull" 1 [] spPull) : Callee P w K mg base CX0 "_law_letters" 2 [] spLetters := by
  refine ⟨f, fd, _, [], F.ok sc_Lletters (fun vs H Q E h => ?hl) (fun cdv A outer s H vs Q E hr h => ⟨_, PSs.nox (pss_cons (ps_set (i := 2) sc_Lletters.nd rfl (by first | exact Or.inl rfl | exact Or.inr rfl) (pe_cl c_Lpull hr (pa_cons (pv 0) (pa_cons pe_int pa_nil)) pass0))
      (pss_cons (ps_set (i := 3) sc_Lletters.nd rfl (by first | exact Or.inl rfl | exact Or.inr rfl) (pe_op (op_addK K) pe_int (pe_cl c_Lpull hr (pa_cons (pv 0) (pa_cons pe_int pa_nil)) pass0)))
      (pss_one (ps_ret (pe_joinK K pe_str (pe_callB (cr_sortedSK K) (by rfl) f_sorted (by decide +kernel) (pa_cons (pe_lc (own := [("_law_k", 4)]) rfl sc_Lletters.nd (pi_range1 (by rfl) f_range (pa_cons (pv 1) pa_nil)) (blkOk_by (N := ["_law_bag_here", "_law_many", "_law_spot", "_law_step", "_law_k"]) (sc := defScope s_Lletters) (by decide +kernel)) (fun _ _ _ _ _ => (pg_name (i := 4) sc_Lletters.nd rfl (by first | exact Or.inl rfl | exact Or.inr rfl))) (fun _ _ _ _ _ => pts_nil) (fun _ _ _ _ _ => (pe_ix (ix_k K) pe_str (pe_op op_mod (pe_op (op_addK K) (pv 2) (pe_op op_mul (pv 3) (pv 4))) pe_int) (fun _ _ => rfl)))) pa_nil))))))), ?rd⟩), hm, F.kp, F.bindsN fun _ _ _ _ _ _ us hl => match us, hl with | [_, _], _ => rfl, .nil⟩
  case hl =>
    obtain ⟨b, u, rfl, _⟩ := h
    rfl
  case rd =>
    obtain ⟨b, m, rfl, hb, hm3, q⟩ := h
    refine k_start (σ' := [some _, some _, none, none, none]) rfl ?_
    walk_at "g"
    refine k_pull hb (by omega) (by omega) (fun s0 p0 p1 => ?_)
    walk_at "g"
    refine k_pull hb (by omega) (by omega) (fun st q0 q1 => ?_)
    walk_at "g"
    refine k_nLc walk_range (fun _ _ => trivial) (fun i ws => ws = (List.range i).map fun k => V.str (sg (lcode s0 (1 + st) k))) rfl (fun i ws hi hw => ?hz) (fun i v Ha Hb ws Kp Ks hi sa hws hy2 hKp hKs => ?ht) (fun p Hp ws np sp ep hws => ?he)
    case hz =>
      rw [hw, List.length_map, List.length_range]
      omega
    case ht =>
      obtain ⟨rfl, rfl⟩ := hy2
      walk_at "g"
      refine ⟨rfl, ?_⟩
      walk_at "g"
      refine k_mul (.inl ⟨by omega, by omega⟩) ?_
      walk_at "g"
      have m0 : 0 ≤ (s0 + (1 + st) * (0 + (i : Int))) % 26 := Int.emod_nonneg _ (by decide)
      have m1 : (s0 + (1 + st) * (0 + (i : Int))) % 26 < 26 := Int.emod_lt_of_pos _ (by decide)
      refine k_ix_s (c := lcode s0 (1 + st) i) (by rw [abc_len]; decide) ?_ (hKp _ _ (Same.refl _) ?_)
      · have h26 := abc_at ⟨((s0 + (1 + st) * (0 + (i : Int))) % 26).toNat, by omega⟩
        refine at_n (j := ((s0 + (1 + st) * (0 + (i : Int))) % 26).toNat) (by omega) ?_
        rw [h26]
        show some (97 + ((s0 + (1 + st) * (0 + (i : Int))) % 26).toNat) = some (97 + ((s0 + (1 + st) * (i : Int)) % 26).toNat)
        rw [Int.zero_add]
      · rw [hws, List.range_succ, List.map_append]
        rfl
    case he =>
      walk_at "g"
      refine k_sortedS (xs := (List.range m).map fun k => sg (lcode s0 (1 + st) k)) (sq_l (by rw [ep, hws, List.map_map]; rfl)) (by rw [List.length_map, List.length_range]; omega) (fun ys p2 H2 pe so n2 s2 e2 => ?_)
      have pe2 : ys.Perm (((List.range m).map (lcode s0 (1 + st))).map sg) := by
        rw [List.map_map]
        exact pe
      obtain ⟨ds, rfl, pd⟩ := perm_sgs pe2
      have le := pd.length_eq
      rw [List.length_map, List.length_range] at le
      have nd := pd.nodup_iff.mpr (lcodes_nodup (sp := s0) (st := 1 + st) (by omega) (by omega) hm3)
      walk_at "g"
      refine k_join (ys := ds.map sg) (sq_l e2) ?_ ?_
      · rw [List.map_map, List.length_map, show (Str.length ∘ sg) = fun _ => 1 from rfl, show (Str.ofString "").length = 0 by decide +kernel]
        have : (ds.map fun _ => 1).sum = ds.length := by
          clear pd nd so e2 pe pe2 le
          induction ds with
          | nil => rfl
          | cons c r ih => rw [List.map_cons, List.sum_cons, ih, List.length_cons]; omega
        rw [this]
        omega
      · rw [join_sgs]
        refine q ds _ ⟨lt_of_le_nodup (sortedS_sgs so) nd, fun c hc => ?_⟩ le (sp.trans s2)
        obtain ⟨k, _, rfl⟩ := List.mem_map.mp (pd.mem_iff.mp hc)
        unfold small lcode
        omega
end
end Lw
set_option autoImplicit true
set_option pp.maxSteps 1200
set_option Elab.async false
set_option linter.all false
set_option maxRecDepth 100000
set_option maxHeartbeats 1000000
namespace Lw
open PySem PySem.Spec PyProof.Rows L2 Gk
open PySem.W (EachIs AllAlike Sortable dataLe dataLt alike keyToks)

local macro_rules | `(tactic| walk_at "hp") => `(tactic| first | assumption | exact upd_same | (refine' (upd_ne ?n).trans ?h; (case n => assumption); (case h => walk_at "hp")) | (refine' sm_get ?s ?h; (case s => assumption); (case h => walk_at "hp")))
local macro_rules | `(tactic| walk_at "sq") => `(tactic| first | assumption | (refine' sq_l ?h; (case h => walk_at "hp")) | (refine' sm_l ?s ?h; (case s => assumption); (case h => walk_at "sq")))
local macro_rules | `(tactic| walk_at "st") => `(tactic| first | assumption | (refine' sq_t ?h; (case h => walk_at "hp")) | (refine' sm_t ?s ?h; (case s => assumption); (case h => walk_at "st")))
local macro_rules | `(tactic| walk_at "bg") => `(tactic| first | assumption | (refine' BagOk.sm ?s ?h; (case s => assumption); (case h => walk_at "bg")))
local macro_rules | `(tactic| walk_at "sm") => `(tactic| first | assumption | exact Same.refl _ | (refine' Same.trans ?h ?s; (case s => assumption); (case h => walk_at "sm")))
local macro_rules | `(tactic| walk_at "hs") => `(tactic| first | assumption | (refine' HsAt.sm ?s ?h; (case s => assumption); (case h => walk_at "hs")))
local macro_rules | `(tactic| walk_at "ms") => `(tactic| first | assumption | (refine' MAt.sm ?s ?h; (case s => assumption); (case h => walk_at "ms")))
local macro_rules | `(tactic| walk_at "md") => `(tactic| first | assumption | (refine' MDk.sm ?s ?h; (case s => assumption); (case h => walk_at "md")))
local macro_rules | `(tactic| walk_at "dp") => `(tactic| first | assumption | (refine' dp_sm ?s ?h; (case s => assumption); (case h => walk_at "dp")))
local macro_rules | `(tactic| walk_at "sz") => `(tactic| first | decide | assumption | omega | (simp only [List.length_cons, List.length_nil, List.length_map, List.length_append]; omega))
local macro_rules | `(tactic| walk_at "g1") => `(tactic| first
  | with_reducible refine k_seq ?_
  | with_reducible refine k_itB ?_
  | with_reducible refine k_next ?_
  | with_reducible refine k_asg ?_
  | with_reducible refine k_name ?_
  | with_reducible refine k_ret ?_
  | with_reducible refine k_retN ?_
  | with_reducible refine k_drop ?_
  | with_reducible refine k_ifs ?_
  | with_reducible refine k_brk ?_
  | with_reducible refine k_cont ?_
  | with_reducible refine k_ipI ?_
  | with_reducible refine k_test ?_
  | with_reducible refine k_tB ?_
  | with_reducible refine k_bl ?_
  | with_reducible refine k_not ?_
  | with_reducible refine k_and ?_
  | with_reducible refine k_or ?_
  | with_reducible refine k_yes ?_
  | with_reducible refine k_true ?_
  | with_reducible refine k_false ?_
  | with_reducible refine k_nt ?_
  | with_reducible refine k_c ?_
  | with_reducible refine k_op ?_
  | with_reducible refine k_un ?_
  | with_reducible refine k_if ?_
  | with_reducible refine k_chain ?_
  | with_reducible refine k_nil ?_
  | with_reducible refine k_cons ?_
  | with_reducible refine k_cb ?_
  | with_reducible refine k_call ?_
  | with_reducible refine k_callS ?_
  | with_reducible refine k_andV ?_
  | with_reducible refine k_orV ?_
  | with_reducible refine k_notV ?_
  | with_reducible refine k_lst ?_
  | with_reducible refine k_tup ?_
  | with_reducible refine k_nopart ?_
  | with_reducible refine k_part ?_
  | with_reducible refine k_nInt ?_
  | with_reducible refine k_sl ?_
  | with_reducible refine k_bm ?_
  | with_reducible refine k_bm0 ?_
  | with_reducible refine k_nTyS ?_
  | with_reducible refine k_m1 ?_
  | with_reducible refine k_m0 ?_
  | with_reducible refine k_nStr ?_
  | with_reducible refine k_I0 ?_
  | with_reducible refine k_U ?_
  | with_reducible refine k_add_i ?_
  | with_reducible refine k_eq_i ?_
  | with_reducible refine k_eq_s ?_
  | with_reducible refine k_eq_b ?_
  | with_reducible refine k_ne_i ?_
  | with_reducible refine k_ne_s ?_
  | with_reducible refine k_ne_b ?_
  | with_reducible refine k_le_i ?_
  | with_reducible refine k_le_s ?_
  | with_reducible refine k_gnil ?_
  | with_reducible refine k_gcons ?_
  | with_reducible refine k_gsub ?_
  | with_reducible refine k_for ?_
  | with_reducible refine k_lc ?_
  | with_reducible refine k_rng1 ?_
  | with_reducible refine k_rng2 ?_
  | with_reducible refine k_itl ?_
  | with_reducible refine k_itt ?_
  | with_reducible refine k_its ?_
  | with_reducible refine k_ite ?_
  | with_reducible refine k_iteB ?_
  | with_reducible refine k_lrg2 ?_
  | with_reducible refine k_itz ?_
  | with_reducible refine k_nIts ?_
  | with_reducible refine k_inS ?_
  | with_reducible refine k_niS ?_
  | with_reducible refine k_mk ?_
  | with_reducible refine k_meth ?_
  | with_reducible refine k_fld ?_
  | with_reducible refine k_sfld ?_
  | with_reducible refine k_dg ?_
  | with_reducible refine k_dp ?_
  | with_reducible refine k_pr ?_
  | with_reducible refine k_pr0 ?_
  | with_reducible refine k_sg ?_
  | with_reducible refine k_lc2 ?_
  | with_reducible refine k_callN ?_
  | with_reducible refine k_callNS ?_
  | with_reducible refine k_par ?_
  | with_reducible refine k_nPar ?_
  | with_reducible refine k_isNn ?_
  | with_reducible refine k_isNr ?_
  | with_reducible refine k_ntNn ?_
  | with_reducible refine k_ntNr ?_
  | with_reducible refine k_min2 ?_
  | with_reducible refine k_max2 ?_
  | with_reducible refine k_intB ?_
  | with_reducible refine k_intI ?_
  | with_reducible refine k_isBl ?_
  | with_reducible refine k_ntBl ?_
  | ((with_reducible refine' k_var ?kv ?_); (case kv => exact rfl))
  | ((with_reducible refine' k_aug ?kv ?_); (case kv => exact rfl))
  | ((with_reducible refine' k_ix_l ?ks ?ki ?_); (case ks => walk_at "sq"); (case ki => exact rfl))
  | ((with_reducible refine' k_ix_t ?ks ?ki ?_); (case ks => walk_at "st"); (case ki => exact rfl))
  | ((with_reducible refine' k_len_l ?ks ?_); (case ks => walk_at "sq"))
  | ((with_reducible refine' k_len_t ?ks ?_); (case ks => walk_at "st"))
  | ((with_reducible refine' k_setL ?ks ?ki ?_); (case ks => walk_at "hp"); (case ki => exact rfl))
  | ((with_reducible refine' k_nTyL ?ks ?_); (case ks => walk_at "sq"))
  | ((with_reducible refine' k_nItl ?ks ?_); (case ks => walk_at "sq"))
  | ((with_reducible refine' k_nItt ?ks ?_); (case ks => walk_at "st"))
  | ((with_reducible refine' k_nIte ?ks ?_); (case ks => walk_at "sq"))
  | ((with_reducible refine' k_mul ?km ?_); (case km => first | exact Or.inr ⟨by decide, by decide⟩ | exact Or.inl ⟨by decide, by decide⟩))
  | ((with_reducible refine' k_I ?km ?_); (case km => first | assumption | decide | exact ⟨by decide, by decide +kernel⟩ | exact ⟨by decide, by decide, by decide⟩))
  | ((with_reducible refine' k_nMeth ?kp ?kl ?_); (case kp => walk_at "hp"); (case kl => exact rfl))
  | ((with_reducible refine' k_nFld ?kp ?kc ?kn ?kl ?_); (case kp => walk_at "hp"); (case kc => assumption); (case kn => assumption); (case kl => exact rfl))
  | ((with_reducible refine' k_nSFld ?kp ?kc ?kn ?kl ?_); (case kp => walk_at "hp"); (case kc => assumption); (case kn => assumption); (case kl => exact of_decide_eq_true rfl))
  | ((with_reducible refine' k_nDg ?kp ?kl ?_); (case kp => walk_at "hp"); (case kl => exact rfl))
  | ((with_reducible refine' k_nRng1 ?k1 ?k2 ?_); (case k1 => omega); (case k2 => omega))
  | ((with_reducible refine' k_nKw ?k1 ?k2 ?_); (case k1 => exact rfl); (case k2 => exact rfl))
  | ((with_reducible refine' k_hsm ?kh ?_); (case kh => walk_at "hs"))
  | ((with_reducible refine' k_nMethH ?kh ?kl ?_); (case kh => walk_at "hs"); (case kl => exact fun _ _ => rfl))
  | ((with_reducible refine' k_mLet ?kh ?_); (case kh => walk_at "ms"))
  | ((with_reducible refine' k_mChew ?kh ?_); (case kh => walk_at "ms"))
  | ((with_reducible refine' k_mPut ?kh ?_); (case kh => walk_at "ms"))
  | ((with_reducible refine' k_mMost ?kh ?_); (case kh => walk_at "ms"))
  | ((with_reducible refine' k_mCut ?kh ?_); (case kh => walk_at "ms"))
  | ((with_reducible refine' k_mTab ?kh ?_); (case kh => walk_at "md"))
  | ((with_reducible refine' k_mEats ?kh ?_); (case kh => walk_at "md"))
  | ((with_reducible refine' k_gtup ?ks ?kl ?_); (case ks => walk_at "st"); (case kl => exact rfl)))
local macro_rules | `(tactic| walk_at "g") => `(tactic| repeat (walk_at "g1"))
local macro_rules | `(tactic| walk_at "w1") => `(tactic| first
  | walk_at "g1"
  | ((with_reducible refine' k_decT ?kp ?_); (case kp => omega))
  | ((with_reducible refine' k_decF ?kp ?_); (case kp => omega))
  | ((with_reducible refine' k_decNT ?kp ?_); (case kp => omega))
  | ((with_reducible refine' k_decNF ?kp ?_); (case kp => omega)))
local macro_rules | `(tactic| walk_at "w") => `(tactic| repeat (walk_at "w1"))

--! have hC : HsC K := ⟨He.cls_ok a_House, He.noat_ok n1, He.noat_ok n2, He.noat_ok n3, He.noat_ok n4, He.noat_ok n5, He.noat_ok n6, He.noat_ok n7⟩

abbrev FnM (K : PySem.W.Frag) (x q : Str) (st : Stmt) (f : Addr) (fd : FuncData) : Prop := FunD K x q (defArgs st) (defBody st) (defScope st) [] [] f fd
section
variable {P : Program} {w : World} {K : PySem.W.Frag} {mg : Str → Option Value} {base : Heap} {f : Addr} {fd : FuncData}
/-! ### houses as data -/
structure HsD where
  ls : List Nat
  tb : List (List Int)
  tr : List (List Key)
  ch : Int
  pt : List Nat
  mo : Int
  cu : Int
def kEat (side : Bool) (a b : Int) : List Key := [.inr (if side = true then Str.ofString "right" else Str.ofString "left"), .inl a, .inl b]
def wcount (n m : Nat) : Int := (([(n : Int) ^ 1, (n : Int) ^ 2, (n : Int) ^ 3].take m)).sum
structure HsOk (S : HsD) : Prop where
  rise : Rise S.ls
  l1 : 1 ≤ S.ls.length
  l3 : S.ls.length ≤ 3
  t1 : 1 ≤ S.tb.length
  t4 : S.tb.length ≤ 4
  tw : ∀ r ∈ S.tb, r.length = S.ls.length ∧ ∀ x ∈ r, 0 ≤ x ∧ x < S.tb.length
  e7 : S.tr.length ≤ 12
  ev : ∀ k ∈ S.tr, ∃ s a b, k = kEat s a b ∧ 0 ≤ a ∧ a < S.tb.length ∧ 0 ≤ b ∧ b < S.tb.length
  c0 : 0 ≤ S.ch
  c2 : S.ch ≤ 2
  p2 : S.pt.length ≤ 2
  pl : ∀ c ∈ S.pt, c ∈ S.ls
  m1 : 1 ≤ S.mo
  m3 : S.mo ≤ 3
  mw : wcount S.ls.length S.mo.toNat ≤ 14
  k1 : 1 ≤ S.cu
  km : S.cu ≤ S.mo
/-! ### what a house must be -/
def spWc : Sp := fun vs H Q _ => ∃ (n m : Nat), vs = [.int n, .int m] ∧ 1 ≤ n ∧ n ≤ 3 ∧ 1 ≤ m ∧ m ≤ 3 ∧ ∀ H', Same H H' → Q (.int (wcount n m)) H'
theorem ok_word_count (F : FnP K "word_count" s_word_count f fd) (hm : mg "word_count" = some (.ref f)) (f_sum : mg "sum" = none) : Callee P w K mg base CX0 "word_count" 1 [] spWc := by
  refine ⟨f, fd, _, [], F.ok sc_word_count (fun vs H Q E h => ?hl) (fun cdv A outer s H vs Q E hr h => ⟨_, PSs.nox (pss_one (ps_ret (pe_callB (cr_sumK K) (by rfl) f_sum (by decide +kernel) (pa_cons (pe_slice (sl_k K) (pe_lst (pa_cons (pe_op op_pow (pv 0) pe_int) (pa_cons (pe_op op_pow (pv 0) pe_int) (pa_cons (pe_op op_pow (pv 0) pe_int) pa_nil)))) po_none (po_some (pv 1))) pa_nil)))), ?rd⟩), hm, F.kp, F.bindsN fun _ _ _ _ _ _ us hl => match us, hl with | [_, _], _ => rfl, .nil⟩
  case hl =>
    obtain ⟨n, m, rfl, _⟩ := h
    rfl
  case rd =>
    obtain ⟨n, m, rfl, h1, h2, h3, h4, q⟩ := h
    refine k_start (σ' := [some _, some _]) rfl ?_
    have hb : ∀ j : Int, 0 ≤ j → j ≤ 3 → CPow n j := fun j a b => ⟨a, by omega, by omega⟩
    walk_at "g"
    refine k_I (hb 1 (by decide) (by decide)) ?_
    walk_at "g"
    refine k_I (hb 2 (by decide) (by decide)) ?_
    walk_at "g"
    refine k_I (hb 3 (by decide) (by decide)) ?_
    walk_at "g"
    refine k_nLst (by walk_at "sz") (fun p1 H1 n1 s1 e1 => ?_)
    walk_at "g"
    refine k_sl_l (sq_l e1) (fun p2 H2 n2 s2 e2 => ?_)
    rw [cutV_to] at e2
    walk_at "g"
    refine k_sum (ns := [(n : Int) ^ 1, (n : Int) ^ 2, (n : Int) ^ 3].take m) (sq_l (by rw [e2, List.map_take]; rfl)) (q _ (s1.trans s2))
theorem mem_abc (c : Nat) (h : small c) : decide (c ∈ (Str.ofString "abcdefghijklmnopqrstuvwxyz").cps.toList) = true := by
  have e : (Str.ofString "abcdefghijklmnopqrstuvwxyz").cps.toList = (List.range 26).map (97 + ·) := by decide +kernel
  rw [e, decide_eq_true_eq]
  unfold small at h
  exact List.mem_map.mpr ⟨c - 97, List.mem_range.mpr (by omega), by omega⟩
/-- all([test of each sign]), the tests all true -/
theorem rise_pl2 {cs : List Nat} (h : Rise cs) : Pl (tx cs) := fun c hc => by
  have := h.2 c hc
  unfold small at this
  omega
theorem sum_one : ∀ cs : List Nat, (cs.map fun _ => 1).sum = cs.length
  | [] => rfl
  | c :: r => by rw [List.map_cons, List.sum_cons, sum_one r, List.length_cons]; omega
def spNl : Sp := fun vs H Q _ => ∃ cs : List Nat, vs = [.str (tx cs)] ∧ Rise cs ∧ 1 ≤ cs.length ∧ cs.length ≤ 3 ∧ ∀ H', Same H H' → Q .non H'
theorem ok_need_letters (F : FnP K "need_letters" s_need_letters f fd) (hm : mg "need_letters" = some (.ref f)) (f_len : mg "len" = none) (f_all : mg "all" = none) (f_sorted : mg "sorted" = none) (f_set : mg "set" = none) (c_SMALL : ∃ t, mg "SMALL" = some (.str (Str.ofString "abcdefghijklmnopqrstuvwxyz") t)) : Callee P w K mg base CX0 "need_letters" 1 [] spNl := by
  refine ⟨f, fd, _, [], F.ok sc_need_letters (fun vs H Q E h => ?hl) (fun cdv A outer s H vs Q E hr h => ⟨_, PSs.nox (pss_cons (ps_if (PW.pt (pw_or (pt_not (pt_chain op_leU op_leU pe_int (pe_callB (call_lenK K) (by rfl) f_len PySem.boot_len (pa_cons (pv 0) pa_nil)) pe_int)) (pw_or1 (pt_not (pt_val (pe_callB (cr_allK K) (by rfl) f_all (by decide +kernel) (pa_cons (pe_lc (own := [("sign", 1)]) rfl sc_need_letters.nd (pi_str (pv 0)) (blkOk_by (N := ["letters", "sign"]) (sc := defScope s_need_letters) (by decide +kernel)) (fun _ _ _ _ _ => (pg_name (i := 1) sc_need_letters.nd rfl (by first | exact Or.inl rfl | exact Or.inr rfl))) (fun _ _ _ _ _ => pts_nil) (fun _ _ _ _ _ => (pe_cmpR op_inS (pv 1) (pe_gs c_SMALL) (by rfl)))) pa_nil))))))) (pss_one ps_never) pss_nil)
      (pss_one (ps_if (pt_cmpR (op_neK K hr.units) (pv 0) (pe_joinK K pe_str (pe_callB (cr_sortedA K P w hr.units) (by rfl) f_sorted (by decide +kernel) (pa_cons (pe_callTy (cr_setA K P w) (by rfl) f_set (by decide +kernel) (pa_cons (pv 0) pa_nil)) pa_nil))) (nomark _)) (pss_one ps_never) pss_nil))), ?rd⟩), hm, F.kp, F.bindsN fun _ _ _ _ _ _ us hl => match us, hl with | [_], _ => rfl, .nil⟩
  case hl =>
    obtain ⟨n, rfl, _⟩ := h
    rfl
  case rd =>
    obtain ⟨cs, rfl, rise, h1, h3, q⟩ := h
    refine k_start (σ' := [some _, none]) rfl ?_
    have ll := len_tx cs
    walk_at "g"
    refine k_len_s (by omega) ?_
    rw [ll]
    walk_at "w"
    have sz : (tx cs).cps.size = cs.length := ll
    refine k_nLcT (walk_str (z := tx cs)) (by omega) (fun _ _ => trivial) (fun i v Ha Hb Kp hi sa hy hKp => ?ht) (fun p Hp np sp ep => ?he)
    case ht =>
      obtain ⟨rfl, c, hc, rfl⟩ := hy
      walk_at "g"
      refine ⟨rfl, ?_⟩
      walk_at "g"
      rw [mem_abc c (rise.2 c (by
        have h : cs[i]? = some c := by
          rw [← hc]
          exact Array.getElem?_toList (xs := cs.toArray)
        exact List.mem_of_getElem? h))]
      exact hKp _ (Same.refl _)
    case he =>
      walk_at "g"
      refine k_allT _ rfl ep ?_
      walk_at "g"
      have nd : cs.Nodup := rise.1.imp fun h => Nat.ne_of_lt h
      refine k_setX (rise_pl2 rise) nd (by omega) (fun p2 H2 n2 s2 e2 => ?_)
      walk_at "g"
      refine k_sortX e2 ?_ ?_ (fun ys p3 H3 pm so n3 s3 e3 => ?_)
      · exact (List.reverse_perm _).nodup_iff.mpr (List.pairwise_map.mpr (nd.imp fun h e => h (by injection e with e; injection e with e; injection e)))
      · rw [List.length_reverse, List.length_map]
        exact Nat.le_trans h3 (by decide)
      have ey := sorted_sgs pm so rise.1
      subst ey
      walk_at "g"
      refine k_join (ys := cs.map sg) (sq_l e3) ?_ ?_
      · rw [show (Str.ofString "").length = 0 by decide +kernel, List.map_map, show (Str.length ∘ sg) = fun _ => 1 from rfl, List.length_map, sum_one]
        omega
      rw [join_sgs]
      walk_at "g"
      rw [decide_eq_true rfl]
      walk_at "g"
      exact q _ ((sp.trans s2).trans s3)
abbrev RwI : Type := Addr × List Int
def spNt (K : PySem.W.Frag) : Sp := fun vs H Q _ => ∃ (a : Addr) (n : Nat) (R : List RwI) (tr : Bool), vs = [.ref a, .int n] ∧ SqL K H a (R.map fun r => V.ref r.1) ∧ (∀ r ∈ R, SqB K tr H r.1 (r.2.map V.int) ∧ r.2.length = n ∧ ∀ x ∈ r.2, 0 ≤ x ∧ x < R.length) ∧ n ≤ 3 ∧ 1 ≤ R.length ∧ R.length ≤ 4 ∧ ∀ H', Same H H' → Q .non H'
theorem ok_need_table (F : FnP K "need_table" s_need_table f fd) (hm : mg "need_table" = some (.ref f)) (f_len : mg "len" = none) (f_all : mg "all" = none) (f_enumerate : mg "enumerate" = none) (c_MOST_TASTES : ∃ t, mg "MOST_TASTES" = some (.int 4 t)) : Callee P w K mg base CX0 "need_table" 1 [] (spNt K) := by
  refine ⟨f, fd, _, [], F.ok sc_need_table (fun vs H Q E h => ?hl) (fun cdv A outer s H vs Q E hr h => ⟨_, PSs.nox (pss_cons (ps_if (pt_not (pt_chain op_leU op_leU pe_int (pe_callB (call_lenK K) (by rfl) f_len PySem.boot_len (pa_cons (pv 0) pa_nil)) (pe_gi c_MOST_TASTES))) (pss_one ps_never) pss_nil)
      (pss_one (ps_for PassesOwn.never rfl (pi_enumK K (by rfl) f_enumerate (pa_cons (pv 0) pa_nil)) (pg_tupK K 2 (by rfl) (pgs_cons (pg_name (i := 2) sc_need_table.nd rfl (by first | exact Or.inl rfl | exact Or.inr rfl)) (pgs_cons (pg_name (i := 3) sc_need_table.nd rfl (by first | exact Or.inl rfl | exact Or.inr rfl)) pgs_nil))) (pss_one (ps_if (PW.pt (pw_or (pt_cmpR (op_neK K hr.units) (pe_callB (call_lenK K) (by rfl) f_len PySem.boot_len (pa_cons (pv 3) pa_nil)) (pv 1) (nomark _)) (pw_or1 (pt_not (pt_val (pe_callB (cr_allK K) (by rfl) f_all (by decide +kernel) (pa_cons (pe_lc (own := [("to", 4)]) rfl sc_need_table.nd (pi_anyK K (pv 3)) (blkOk_by (N := ["table", "many", "at", "row", "to"]) (sc := defScope s_need_table) (by decide +kernel)) (fun _ _ _ _ _ => (pg_name (i := 4) sc_need_table.nd rfl (by first | exact Or.inl rfl | exact Or.inr rfl))) (fun _ _ _ _ _ => pts_nil) (fun _ _ _ _ _ => (pe_chain op_leU op_lt pe_int (pv 4) (pe_callB (call_lenK K) (by rfl) f_len PySem.boot_len (pa_cons (pv 0) pa_nil))))) pa_nil))))))) (pss_one ps_never) pss_nil))))), ?rd⟩), hm, F.kp, F.bindsN fun _ _ _ _ _ _ us hl => match us, hl with | [_, _], _ => rfl, .nil⟩
  case hl =>
    obtain ⟨a, n, R, tr, rfl, _⟩ := h
    rfl
  case rd =>
    obtain ⟨a, n, R, tr, rfl, hx, hR, h3, l1, l4, q⟩ := h
    refine k_start (σ' := [some _, some _, none, none, none]) rfl ?_
    have lR : (R.map fun r => V.ref r.1).length = R.length := List.length_map _
    walk_at "g"
    rw [lR]
    walk_at "w"
    refine k_nFor (walk_enum (xs := R.map fun r => V.ref r.1)) (fun i σ H' => (∃ y2 y3, σ = [some (.ref a), some (.int n), y2, y3, none]) ∧ Same H H') ⟨⟨_, _, rfl⟩, Same.refl _⟩ (fun i σ H' _ h => sm_l h.2 hx) (fun i x σ Ha Hb hi h hy => ?ht) (fun σ H' h => ?he)
    case he =>
      obtain ⟨⟨y2, y3, rfl⟩, sa⟩ := h
      walk_at "g"
      exact q _ sa
    case ht =>
      obtain ⟨⟨y2, y3, rfl⟩, sa⟩ := h
      obtain ⟨T, xi, yi, rfl, nT, rfl, ex, ey⟩ := hy
      have sT : Same Ha (upd Ha T (.tup [xi, yi])) := sm_new nT
      have eT : (upd Ha T (.tup [xi, yi])) T = some (.tup [xi, yi]) := upd_same
      generalize upd Ha T (.tup [xi, yi]) = Hb at sT eT
      cases ex
      obtain ⟨r, hr0, rfl⟩ := map_get ey
      obtain ⟨hr1, hr2, hr3⟩ := hR r (List.mem_of_getElem? hr0)
      have sx := sa.trans sT
      have hrL := sm_b sx hr1
      have hxL := sm_l sx hx
      have lr : (r.2.map V.int).length = r.2.length := List.length_map _
      walk_at "g"
      refine k_len_b hrL ?_
      walk_at "g"
      rw [lr]
      walk_at "w"
      refine k_nItB hrL ?_
      refine k_nLcT (walk_listB (xs := r.2.map V.int)) (by rw [lr]; omega) (fun H' s2 => sm_b s2 hrL) (fun j v Hc Hd Kp hj sc hy hKp => ?ht2) (fun p Hp np sp ep => ?he2)
      case ht2 =>
        obtain ⟨rfl, hv⟩ := hy
        obtain ⟨x, hx0, rfl⟩ := map_get hv
        obtain ⟨b1, b2⟩ := hr3 x (List.mem_of_getElem? hx0)
        have hxM := sm_l sc hxL
        walk_at "g"
        refine ⟨rfl, ?_⟩
        walk_at "w"
        rw [lR]
        walk_at "w"
        rw [decide_eq_true b2]
        exact hKp _ (Same.refl _)
      case he2 =>
        walk_at "g"
        refine k_allT _ rfl ep ?_
        walk_at "g"
        exact ⟨⟨_, _, rfl⟩, sx.trans sp⟩
theorem sides_in (s : Bool) : inV (V.str (if s = true then Str.ofString "right" else Str.ofString "left")) [V.str (Str.ofString "left"), V.str (Str.ofString "right")] = true := by
  cases s <;> decide +kernel
/-- three in a tuple: side, eater, eaten -/
def spNe (K : PySem.W.Frag) : Sp := fun vs H Q _ => ∃ (a : Addr) (n : Nat) (R : List RwM), vs = [.ref a, .int n] ∧ SqL K H a (R.map fun r => V.ref r.1) ∧ (∀ r ∈ R, SqT K H r.1 (r.2.map kV) ∧ ∃ s x y, r.2 = kEat s x y ∧ 0 ≤ x ∧ x < n ∧ 0 ≤ y ∧ y < n) ∧ R.length ≤ 100 ∧ ∀ H', Same H H' → Q .non H'
theorem ok_need_eats (F : FnP K "need_eats" s_need_eats f fd) (hm : mg "need_eats" = some (.ref f)) (f_enumerate : mg "enumerate" = none) (c_SIDES : GloT K mg "SIDES" [V.str (Str.ofString "left"), V.str (Str.ofString "right")]) : Callee P w K mg base CX0 "need_eats" 1 [] (spNe K) := by
  refine ⟨f, fd, _, [], F.ok sc_need_eats (fun vs H Q E h => ?hl) (fun cdv A outer s H vs Q E hr h => ⟨_, PSs.nox (pss_one (ps_for PassesOwn.never rfl (pi_enumK K (by rfl) f_enumerate (pa_cons (pv 0) pa_nil)) (pg_tupK K 2 (by rfl) (pgs_cons (pg_name (i := 2) sc_need_eats.nd rfl (by first | exact Or.inl rfl | exact Or.inr rfl)) (pgs_cons (pg_tupK K 3 (by rfl) (pgs_cons (pg_name (i := 3) sc_need_eats.nd rfl (by first | exact Or.inl rfl | exact Or.inr rfl)) (pgs_cons (pg_name (i := 4) sc_need_eats.nd rfl (by first | exact Or.inl rfl | exact Or.inr rfl)) (pgs_cons (pg_name (i := 5) sc_need_eats.nd rfl (by first | exact Or.inl rfl | exact Or.inr rfl)) pgs_nil)))) pgs_nil))) (pss_one (ps_if (PW.pt (pw_or (pt_cmpR (op_niK K) (pv 3) (pe_gt c_SIDES) (by rfl)) (pw_or (pt_not (pt_chain op_leU op_lt pe_int (pv 4) (pv 1))) (pw_or1 (pt_not (pt_chain op_leU op_lt pe_int (pv 5) (pv 1))))))) (pss_one ps_never) pss_nil)))), ?rd⟩), hm, F.kp, F.bindsN fun _ _ _ _ _ _ us hl => match us, hl with | [_, _], _ => rfl, .nil⟩
  case hl =>
    obtain ⟨a, n, R, rfl, _⟩ := h
    rfl
  case rd =>
    obtain ⟨a, n, R, rfl, hx, hR, h3, q⟩ := h
    refine k_start (σ' := [some _, some _, none, none, none, none]) rfl ?_
    walk_at "g"
    refine k_nFor (walk_enum (xs := R.map fun r => V.ref r.1)) (fun i σ H' => (∃ y2 y3 y4 y5, σ = [some (.ref a), some (.int n), y2, y3, y4, y5]) ∧ Same H H') ⟨⟨_, _, _, _, rfl⟩, Same.refl _⟩ (fun i σ H' _ h => sm_l h.2 hx) (fun i x σ Ha Hb hi h hy => ?ht) (fun σ H' h => ?he)
    case he =>
      obtain ⟨⟨y2, y3, y4, y5, rfl⟩, sa⟩ := h
      walk_at "g"
      exact q _ sa
    case ht =>
      obtain ⟨⟨y2, y3, y4, y5, rfl⟩, sa⟩ := h
      obtain ⟨T, xi, yi, rfl, nT, rfl, ex, ey⟩ := hy
      have sT : Same Ha (upd Ha T (.tup [xi, yi])) := sm_new nT
      have eT : (upd Ha T (.tup [xi, yi])) T = some (.tup [xi, yi]) := upd_same
      generalize upd Ha T (.tup [xi, yi]) = Hb at sT eT
      cases ex
      obtain ⟨r, hr0, rfl⟩ := map_get ey
      obtain ⟨hr1, s, x, y, er, b1, b2, b3, b4⟩ := hR r (List.mem_of_getElem? hr0)
      have sx := sa.trans sT
      have hrT : SqT K Hb r.1 [V.str (if s = true then Str.ofString "right" else Str.ofString "left"), .int x, .int y] := by
        have h := sm_t sx hr1
        rw [er] at h
        exact h
      walk_at "g"
      refine k_niT (c_SIDES.t _) rfl rfl (b := false) (by rw [sides_in]; rfl) ?_
      walk_at "w"
      exact ⟨⟨_, _, _, _, rfl⟩, sx⟩
/-! ### a house as it stands -/
def HsAt (K : PySem.W.Frag) (H : Hp) (a : Addr) (S : HsD) : Prop := ∃ (dx r t : Addr) (R : List RwI) (L : List RwM),
  H a = some (.ins (He.ga K "House") dx [("signs", .str (tx S.ls)), ("rooms", .ref r), ("triples", .ref t), ("chewed", .int S.ch), ("putting", .str (tx S.pt)), ("span", .int S.mo), ("cutting", .int S.cu)]) ∧
  SqT K H r (R.map fun q => V.ref q.1) ∧ (∀ q ∈ R, SqT K H q.1 (q.2.map V.int)) ∧ R.map (·.2) = S.tb ∧
  SqT K H t (L.map fun q => V.ref q.1) ∧ (∀ q ∈ L, SqT K H q.1 (q.2.map kV)) ∧ (L.map (·.2)).Nodup ∧ (∀ k, k ∈ L.map (·.2) ↔ k ∈ S.tr) ∧ L.Pairwise fun x y => dataLe false encM x y = true
theorem HsAt.sm {H H' : Hp} {a : Addr} {S : HsD} (s : Same H H') (h : HsAt K H a S) : HsAt K H' a S := by
  obtain ⟨dx, r, t, R, L, h1, h2, h3, h4, h5, h6, h7, h8, h9⟩ := h
  exact ⟨dx, r, t, R, L, s _ _ h1, sm_t s h2, fun q hq => sm_t s (h3 q hq), h4, sm_t s h5, fun q hq => sm_t s (h6 q hq), h7, h8, h9⟩
def spInit (K : PySem.W.Frag) : Sp := fun vs H Q _ => ∃ (S : HsD) (a dx tb ev : Addr) (R : List RwI) (L : List RwM) (tr : Bool), vs = [.ref a, .str (tx S.ls), .ref tb, .ref ev, .int S.ch, .str (tx S.pt), .int S.mo, .int S.cu] ∧ HsOk S ∧
  H a = some (.ins (He.ga K "House") dx []) ∧ SqL K H tb (R.map fun q => V.ref q.1) ∧ (∀ q ∈ R, SqB K tr H q.1 (q.2.map V.int)) ∧ R.map (·.2) = S.tb ∧ SqL K H ev (L.map fun q => V.ref q.1) ∧ (∀ q ∈ L, SqT K H q.1 (q.2.map kV)) ∧ L.map (·.2) = S.tr ∧
  ∀ H', (∀ b u, b ≠ a → H b = some u → H' b = some u) → HsAt K H' a S → Q .non H'
structure HsC (K : PySem.W.Frag) : Prop where
  c : Cls K (He.ga K "House")
  n1 : NoAttr K (He.ga K "House") "signs"
  n2 : NoAttr K (He.ga K "House") "rooms"
  n3 : NoAttr K (He.ga K "House") "triples"
  n4 : NoAttr K (He.ga K "House") "chewed"
  n5 : NoAttr K (He.ga K "House") "putting"
  n6 : NoAttr K (He.ga K "House") "span"
  n7 : NoAttr K (He.ga K "House") "cutting"
theorem b_ins {tr : Bool} {H : Hp} {p b C dx : Addr} {fs : List (Str × V)} {o : HO} {xs : List V} (hp : H p = some (.ins C dx fs)) (h : SqB K tr H b xs) : SqB K tr (upd H p o) b xs := match tr, h with
  | true, h => t_ins hp h
  | false, h => l_ins hp h
theorem k_tup_sb {tr : Bool} {H : Hp} {Q : VK} {a : Addr} {xs : List V} (hx : SqB K tr H a xs) (h : ∀ p H2, Same H H2 → SqT K H2 p xs → Q (.ref p) H2) : rTupU K [.ref a] H Q := match tr, hx with
  | false, hx => k_tup_l hx fun p H2 _ s e => h p H2 s (sq_t e)
  | true, hx => k_tup_t hx (h a H (Same.refl _) hx)
theorem ok_House_init {f : Addr} (F : FunD K "__init__" "House.__init__" (defArgs s_House_init) (defBody s_House_init) (defScope s_House_init) [] [("chew", .int 0)] f fd) (hC : HsC K) (f_tuple : mg "tuple" = none) (f_sorted : mg "sorted" = none) (f_all : mg "all" = none) (f_len : mg "len" = none) (c_MOST_WORDS : ∃ t, mg "MOST_WORDS" = some (.int 14 t))
    (c_need_eats : Callee P w K mg base CX0 "need_eats" 1 [] (spNe K)) (c_need_table : Callee P w K mg base CX0 "need_table" 1 [] (spNt K)) (c_word_count : Callee P w K mg base CX0 "word_count" 1 [] spWc) (c_need_letters : Callee P w K mg base CX0 "need_letters" 1 [] spNl) :
    FnOk P w K mg base CX0 2 f fd ["self", "letters", "table", "eats", "chew", "put", "most", "cut"] (spInit K) := by
  refine F.ok sc_House_init (fun vs H Q E h => ?hl) (fun cdv A outer s H vs Q E hr h => ⟨_, PSs.nox (pss_cons (ps_expr (pe_cl c_need_letters hr (pa_cons (pv 1) pa_nil) pass0))
      (pss_cons (ps_if (PW.pt (pw_or (pt_not (pt_chain op_leU op_leU pe_int (pv 6) pe_int)) (pw_or1 (pt_cmpR op_gt (pe_cl c_word_count hr (pa_cons (pe_callB (call_lenK K) (by rfl) f_len PySem.boot_len (pa_cons (pv 1) pa_nil)) (pa_cons (pv 6) pa_nil)) pass0) (pe_gi c_MOST_WORDS) (nomark _))))) (pss_one ps_never) pss_nil)
      (pss_cons (ps_expr (pe_cl c_need_table hr (pa_cons (pv 2) (pa_cons (pe_callB (call_lenK K) (by rfl) f_len PySem.boot_len (pa_cons (pv 1) pa_nil)) pa_nil)) pass0))
      (pss_cons (ps_expr (pe_cl c_need_eats hr (pa_cons (pv 3) (pa_cons (pe_callB (call_lenK K) (by rfl) f_len PySem.boot_len (pa_cons (pv 2) pa_nil)) pa_nil)) pass0))
      (pss_cons (ps_if (pt_not (pt_chain op_leU op_leU pe_int (pv 4) pe_int)) (pss_one ps_never) pss_nil)
      (pss_cons (ps_if (PW.pt (pw_or (pt_cmpR op_gt (pe_callB (call_lenK K) (by rfl) f_len PySem.boot_len (pa_cons (pv 5) pa_nil)) pe_int (nomark _)) (pw_or1 (pt_not (pt_val (pe_callB (cr_allK K) (by rfl) f_all (by decide +kernel) (pa_cons (pe_lc (own := [("sign", 12)]) rfl sc_House_init.nd (pi_str (pv 5)) (blkOk_by (N := ["self", "letters", "table", "eats", "chew", "put", "most", "cut", "row", "side", "one", "other", "sign"]) (sc := defScope s_House_init) (by decide +kernel)) (fun _ _ _ _ _ => (pg_name (i := 12) sc_House_init.nd rfl (by first | exact Or.inl rfl | exact Or.inr rfl))) (fun _ _ _ _ _ => pts_nil) (fun _ _ _ _ _ => (pe_cmpR op_inS (pv 12) (pv 1) (by rfl)))) pa_nil))))))) (pss_one ps_never) pss_nil)
      (pss_cons (ps_if (pt_not (pt_chain op_leU op_leU pe_int (pv 7) (pv 6))) (pss_one ps_never) pss_nil)
      (pss_cons (ps_fld (pv 0) (pv 1) rfl)
      (pss_cons (ps_fld (pv 0) (pe_callTy (call_tupK K) (by rfl) f_tuple (by decide +kernel) (pa_cons (pe_lc (own := [("row", 8)]) rfl sc_House_init.nd (pi_listK K (pv 2)) (blkOk_by (N := ["self", "letters", "table", "eats", "chew", "put", "most", "cut", "row", "side", "one", "other", "sign"]) (sc := defScope s_House_init) (by decide +kernel)) (fun _ _ _ _ _ => (pg_name (i := 8) sc_House_init.nd rfl (by first | exact Or.inl rfl | exact Or.inr rfl))) (fun _ _ _ _ _ => pts_nil) (fun _ _ _ _ _ => (pe_callTy (call_tupK K) (by rfl) f_tuple (by decide +kernel) (pa_cons (pv 8) pa_nil)))) pa_nil)) rfl)
      (pss_cons (ps_fld (pv 0) (pe_callTy (call_tupK K) (by rfl) f_tuple (by decide +kernel) (pa_cons (pe_callB (cr_sortedA K P w hr.units) (by rfl) f_sorted (by decide +kernel) (pa_cons (pe_sgM K P w hr.units (own := [("side", 9), ("one", 10), ("other", 11)]) sc_House_init.nd (pi_listK K (pv 3)) (blkOk_by (N := ["self", "letters", "table", "eats", "chew", "put", "most", "cut", "row", "side", "one", "other", "sign"]) (sc := defScope s_House_init) (by decide +kernel)) (fun _ _ _ _ _ => (pg_tupK K 3 (by rfl) (pgs_cons (pg_name (i := 9) sc_House_init.nd rfl (by first | exact Or.inl rfl | exact Or.inr rfl)) (pgs_cons (pg_name (i := 10) sc_House_init.nd rfl (by first | exact Or.inl rfl | exact Or.inr rfl)) (pgs_cons (pg_name (i := 11) sc_House_init.nd rfl (by first | exact Or.inl rfl | exact Or.inr rfl)) pgs_nil))))) (fun _ _ _ _ _ => pts_nil) (fun _ _ _ _ _ => (pe_tup (pa_cons (pv 9) (pa_cons (pv 10) (pa_cons (pv 11) pa_nil)))))) pa_nil)) pa_nil)) rfl)
      (pss_cons (ps_fld (pv 0) (pv 4) rfl)
      (pss_cons (ps_fld (pv 0) (pv 5) rfl)
      (pss_cons (ps_fld (pv 0) (pv 6) rfl)
      (pss_one (ps_fld (pv 0) (pv 7) rfl))))))))))))))), ?rd⟩)
  case hl =>
    obtain ⟨S, a, dx, tb, ev, R, L, tr, rfl, _⟩ := h
    rfl
  case rd =>
    obtain ⟨S, a, dx, tb, ev, R, L, tq, rfl, ok, ha, hT, hR, eR, hE, hL, eL, q⟩ := h
    obtain ⟨hc, n1, n2, n3, n4, n5, n6, n7⟩ := hC
    refine k_start (σ' := [some _, some _, some _, some _, some _, some _, some _, some _, none, none, none, none, none]) rfl ?_
    have l1 := ok.l1
    have l3 := ok.l3
    have t1 := ok.t1
    have t4 := ok.t4
    have m1 := ok.m1
    have m3 := ok.m3
    have c0 := ok.c0
    have c2 := ok.c2
    have p2 := ok.p2
    have k1 := ok.k1
    have km := ok.km
    have lls := len_tx S.ls
    have lpt := len_tx S.pt
    walk_at "w"
    refine ⟨S.ls, rfl, ok.rise, l1, l3, fun H1 s1 => ?_⟩
    walk_at "w"
    refine k_len_s (by omega) ?_
    walk_at "g"
    have hmo : S.mo = ((S.mo.toNat : Nat) : Int) := by omega
    refine ⟨S.ls.length, S.mo.toNat, by rw [lls, ← hmo]; rfl, l1, l3, by omega, by omega, fun H2 s2 => ?_⟩
    have mw := ok.mw
    walk_at "w"
    refine k_len_s (by omega) ?_
    rw [lls]
    walk_at "g"
    have lR : R.length = S.tb.length := by rw [← eR, List.length_map]
    refine ⟨tb, S.ls.length, R, tq, rfl, sm_l (s1.trans s2) hT, fun r hr0 => ?_, l3, by omega, by omega, fun H3 s3 => ?_⟩
    · obtain ⟨w1, w2⟩ := ok.tw r.2 (by rw [← eR]; exact List.mem_map.mpr ⟨r, hr0, rfl⟩)
      exact ⟨sm_b (s1.trans s2) (hR r hr0), w1, fun x hx => by rw [lR]; exact w2 x hx⟩
    have s03 := (s1.trans s2).trans s3
    have hT3 := sm_l s03 hT
    have lRV : (R.map fun q => V.ref q.1).length = S.tb.length := by rw [List.length_map, lR]
    walk_at "g"
    rw [lRV]
    have e7 := ok.e7
    have lL : L.length = S.tr.length := by rw [← eL, List.length_map]
    refine ⟨ev, S.tb.length, L, rfl, sm_l s03 hE, fun r hr0 => ?_, by omega, fun H4 s4 => ?_⟩
    · obtain ⟨s, x, y, e, b1, b2, b3, b4⟩ := ok.ev r.2 (by rw [← eL]; exact List.mem_map.mpr ⟨r, hr0, rfl⟩)
      exact ⟨sm_t s03 (hL r hr0), s, x, y, e, b1, b2, b3, b4⟩
    walk_at "w"
    refine k_len_s (by omega) ?_
    rw [lpt]
    walk_at "w"
    have szp : (tx S.pt).cps.size = S.pt.length := lpt
    refine k_nLcT (walk_str (z := tx S.pt)) (by omega) (fun _ _ => trivial) (fun i v Ha Hb Kp hi sa hy hKp => ?ht) (fun p Hp np sp ep => ?he)
    case ht =>
      obtain ⟨rfl, c, hc', rfl⟩ := hy
      walk_at "g"
      refine ⟨rfl, ?_⟩
      walk_at "g"
      have hm : c ∈ S.pt := List.mem_of_getElem? (show S.pt[i]? = some c by rw [← hc']; exact Array.getElem?_toList (xs := S.pt.toArray))
      rw [show decide (c ∈ (tx S.ls).cps.toList) = true from decide_eq_true (ok.pl c hm)]
      exact hKp _ (Same.refl _)
    case he =>
      walk_at "g"
      refine k_allT _ rfl ep ?_
      have s05 := (s03.trans s4).trans sp
      have ha5 := s05 _ _ ha
      walk_at "w"
      -- the rooms
      have hT5 := l_ins (o := .ins (He.ga K "House") dx (putF "signs" (.str (tx S.ls)) [])) ha5 (sm_l ((s4.trans sp)) hT3)
      have hR5 : ∀ r ∈ R, SqB K tq (upd Hp a (.ins (He.ga K "House") dx (putF "signs" (.str (tx S.ls)) []))) r.1 (r.2.map V.int) := fun r hr0 => b_ins ha5 (sm_b s05 (hR r hr0))
      have hE5 := l_ins (o := .ins (He.ga K "House") dx (putF "signs" (.str (tx S.ls)) [])) ha5 (sm_l s05 hE)
      have hL5 : ∀ r ∈ L, SqT K (upd Hp a (.ins (He.ga K "House") dx (putF "signs" (.str (tx S.ls)) []))) r.1 (r.2.map kV) := fun r hr0 => t_ins ha5 (sm_t s05 (hL r hr0))
      have hb5 : ∀ b u, b ≠ a → H b = some u → (upd Hp a (.ins (He.ga K "House") dx (putF "signs" (.str (tx S.ls)) []))) b = some u := fun b u hb e => by rw [upd_ne hb]; exact s05 b u e
      have haA : (upd Hp a (.ins (He.ga K "House") dx (putF "signs" (.str (tx S.ls)) []))) a = some (.ins (He.ga K "House") dx (putF "signs" (.str (tx S.ls)) [])) := upd_same
      generalize upd Hp a (.ins (He.ga K "House") dx (putF "signs" (.str (tx S.ls)) [])) = G at *
      walk_at "g"
      refine k_nLcD (walk_list (xs := R.map fun q => V.ref q.1)) (fun H' s2 => sm_l s2 hT5) (fun i ws H1 => ∃ R' : List RwI, ws = R'.map (fun q => V.ref q.1) ∧ R'.map (·.2) = (R.take i).map (·.2) ∧ ∀ q ∈ R', SqT K H1 q.1 (q.2.map V.int)) (fun i ws H1 H2 s h => ?hm) ⟨[], rfl, rfl, fun q hq => nomatch hq⟩ (fun i ws H1 hi h => ?hz) (fun i v p H1 H2 ws Kp Ks hi hp s1 e1 hws hy hKp hKs => ?ht2) (fun pr Hr ws nr sr er hws => ?he2)
      case hm =>
        obtain ⟨R', e1, e2, h3⟩ := h
        exact ⟨R', e1, e2, fun q hq => sm_t s (h3 q hq)⟩
      case hz =>
        obtain ⟨R', e1, e2, h3⟩ := h
        have := congrArg List.length e2
        rw [List.length_map, List.length_map, List.length_take] at this
        rw [e1, List.length_map]
        omega
      case ht2 =>
        obtain ⟨rfl, hv⟩ := hy
        obtain ⟨r, hr0, rfl⟩ := map_get hv
        obtain ⟨R', e2, e3, h3⟩ := hws
        have hr1 := sm_b s1 (hR5 r (List.mem_of_getElem? hr0))
        walk_at "g"
        refine ⟨rfl, ?_⟩
        walk_at "g"
        refine k_tup_sb hr1 (fun t H6 s6 e6 => hKp _ _ s6 ⟨R' ++ [(t, r.2)], by rw [e2, List.map_append]; rfl, by rw [List.map_append, e3, take_more hr0, List.map_append]; rfl, fun q hq => ?_⟩)
        rcases List.mem_append.mp hq with hq | hq
        · exact sm_t (del_mono s6) (h3 q hq)
        · cases List.mem_singleton.mp hq
          exact del_t (s6 _ _ e1) e6
      case he2 =>
        obtain ⟨R', e2, e3, h3⟩ := hws
        subst e2
        have lRm : (R.map fun q => V.ref q.1).length = R.length := List.length_map _
        rw [lRm, List.take_length, eR] at e3
        have haR := sr _ _ haA
        walk_at "g"
        refine k_tup_l (sq_l er) (fun tr H6 n6 s6 e6 => ?_)
        have ha6 := s6 _ _ haR
        walk_at "g"
        have sR6 := sr.trans s6
        have hE6 := l_ins (o := .ins (He.ga K "House") dx (putF "rooms" (.ref tr) (putF "signs" (.str (tx S.ls)) []))) ha6 (sm_l sR6 hE5)
        have hL6 : ∀ r ∈ L, SqT K (upd H6 a (.ins (He.ga K "House") dx (putF "rooms" (.ref tr) (putF "signs" (.str (tx S.ls)) [])))) r.1 (r.2.map kV) := fun r hr0 => t_ins ha6 (sm_t sR6 (hL5 r hr0))
        have hb6 : ∀ b u, b ≠ a → H b = some u → (upd H6 a (.ins (He.ga K "House") dx (putF "rooms" (.ref tr) (putF "signs" (.str (tx S.ls)) [])))) b = some u := fun b u hb e => by rw [upd_ne hb]; exact sR6 b u (hb5 b u hb e)
        have hA6 : (upd H6 a (.ins (He.ga K "House") dx (putF "rooms" (.ref tr) (putF "signs" (.str (tx S.ls)) [])))) a = some (.ins (He.ga K "House") dx (putF "rooms" (.ref tr) (putF "signs" (.str (tx S.ls)) []))) := upd_same
        have hr6 : SqT K (upd H6 a (.ins (He.ga K "House") dx (putF "rooms" (.ref tr) (putF "signs" (.str (tx S.ls)) [])))) tr (R'.map fun q => V.ref q.1) := t_ins ha6 (sq_t e6)
        have hq6 : ∀ q ∈ R', SqT K (upd H6 a (.ins (He.ga K "House") dx (putF "rooms" (.ref tr) (putF "signs" (.str (tx S.ls)) [])))) q.1 (q.2.map V.int) := fun q hq => t_ins ha6 (sm_t s6 (h3 q hq))
        generalize upd H6 a (.ins (He.ga K "House") dx (putF "rooms" (.ref tr) (putF "signs" (.str (tx S.ls)) []))) = G2 at *
        walk_at "g"
        refine k_nSgM (walk_list (xs := L.map fun q => V.ref q.1)) (fun H' s2 => sm_l s2 hE6) (by rw [List.length_map]; omega) (fun i ms => ms = (L.take i).map (·.2)) rfl (fun i v H1 H2 ms Kp Ks hi s1 hms hy hKp hKs => ?ht3) (fun ps Hs ms L' ns ss es tL iL lL' hms => ?he3)
        case ht3 =>
          obtain ⟨rfl, hv⟩ := hy
          obtain ⟨r, hr0, rfl⟩ := map_get hv
          have hm0 := List.mem_of_getElem? hr0
          obtain ⟨s, x, y, ek, b1, b2, b3, b4⟩ := ok.ev r.2 (by rw [← eL]; exact List.mem_map.mpr ⟨r, hm0, rfl⟩)
          have hrT : SqT K H2 r.1 [V.str (if s = true then Str.ofString "right" else Str.ofString "left"), .int x, .int y] := by
            have h := sm_t s1 (hL6 r hm0)
            rw [ek] at h
            exact h
          walk_at "g"
          refine ⟨rfl, ?_⟩
          walk_at "g"
          refine k_nTup (by walk_at "sz") (fun T H5 n5 s5 e5 => hKp (kEat s x y) T H5 s5 (sq_t e5) ?_)
          rw [hms, take_more hr0, List.map_append, ← ek]
          rfl
        case he3 =>
          have lLm : (L.map fun q => V.ref q.1).length = L.length := List.length_map _
          rw [lLm, List.take_length, eL] at hms
          subst hms
          have kn : ∀ q ∈ L', ∃ s x y, q.2 = kEat s x y := fun q hq => by
            obtain ⟨s, x, y, e, _⟩ := ok.ev q.2 ((iL q.2).mp (List.mem_map.mpr ⟨q, hq, rfl⟩))
            exact ⟨s, x, y, e⟩
          walk_at "g"
          refine k_sortM es tL (fun d hd d' hd' => ?_) (fun q hq => ?_) (fun L2 p2 H7 pm nd pw n7 s7 e7' => ?_)
          · obtain ⟨q, hq, rfl⟩ := List.mem_map.mp hd
            obtain ⟨q', hq', rfl⟩ := List.mem_map.mp hd'
            obtain ⟨s, x, y, e⟩ := kn q hq
            obtain ⟨s', x', y', e'⟩ := kn q' hq'
            unfold Gk.encM
            rw [e, e']
            rfl
          · obtain ⟨s, x, y, e⟩ := kn q hq
            rw [e]
            exact fun z => by cases z
          walk_at "g"
          refine k_tup_l (sq_l e7') (fun p8 H8 n8 s8 e8 => ?_)
          have s68 := (ss.trans s7).trans s8
          have ha8 := s68 _ _ hA6
          have hr8 := sm_t s68 hr6
          have hq8 : ∀ q ∈ R', SqT K H8 q.1 (q.2.map V.int) := fun q hq => sm_t s68 (hq6 q hq)
          have hL8 : ∀ q ∈ L2, SqT K H8 q.1 (q.2.map kV) := fun q hq => sm_t (s7.trans s8) (tL q (pm.mem_iff.mp hq))
          walk_at "g"
          simp only [upd_upd]
          refine q _ (fun b u hb e => by rw [upd_ne hb]; exact s68 b u (hb6 b u hb e)) ⟨dx, tr, p8, R', L2, upd_same, t_ins ha8 hr8, fun q hq => t_ins ha8 (hq8 q hq), e3, t_ins ha8 (sq_t e8), fun q hq => t_ins ha8 (hL8 q hq), (pm.map _).nodup_iff.mpr nd, fun k => ?_, pw⟩
          rw [(pm.map (·.2)).mem_iff]
          exact iL k
/-! ### what a house tells -/
def spHsM (K : PySem.W.Frag) (g : HsD → V) : Sp := fun vs H Q _ => ∃ (a : Addr) (S : HsD), vs = [.ref a] ∧ HsAt K H a S ∧ Q (g S) H
theorem ok_House_letters (F : FnM K "letters" "House.letters" s_House_letters (He.ma K (He.ga K "House") "letters") fd) (hC : HsC K) (me : Meth K (He.ga K "House") "letters" (He.ma K (He.ga K "House") "letters")) : CalleeM P w K mg base CX0 "House" "letters" 1 (spHsM K fun S => .str (tx S.ls)) := by
  refine ⟨hC.c, me, fd, ["self"], F.ok sc_House_letters (fun vs H Q E h => ?hl) (fun cdv A outer s H vs Q E hr h => ⟨_, PSs.nox (pss_one (ps_ret (pe_fldK K (pv 0) rfl))), ?rd⟩), F.bindsN fun _ _ _ _ _ _ us hl => match us, hl with | [_], _ => rfl⟩
  case hl =>
    obtain ⟨a, S, rfl, _⟩ := h
    rfl
  case rd =>
    obtain ⟨a, S, rfl, ⟨dx, r, t, R, L, h1, h2⟩, q⟩ := h
    obtain ⟨hc, n1, n2, n3, n4, n5, n6, n7⟩ := hC
    refine k_start (σ' := [some _]) rfl ?_
    walk_at "g"
    exact q
theorem ok_House_most (F : FnM K "most" "House.most" s_House_most (He.ma K (He.ga K "House") "most") fd) (hC : HsC K) (me : Meth K (He.ga K "House") "most" (He.ma K (He.ga K "House") "most")) : CalleeM P w K mg base CX0 "House" "most" 1 (spHsM K fun S => .int S.mo) := by
  refine ⟨hC.c, me, fd, ["self"], F.ok sc_House_most (fun vs H Q E h => ?hl) (fun cdv A outer s H vs Q E hr h => ⟨_, PSs.nox (pss_one (ps_ret (pe_fldK K (pv 0) rfl))), ?rd⟩), F.bindsN fun _ _ _ _ _ _ us hl => match us, hl with | [_], _ => rfl⟩
  case hl =>
    obtain ⟨a, S, rfl, _⟩ := h
    rfl
  case rd =>
    obtain ⟨a, S, rfl, ⟨dx, r, t, R, L, h1, h2⟩, q⟩ := h
    obtain ⟨hc, n1, n2, n3, n4, n5, n6, n7⟩ := hC
    refine k_start (σ' := [some _]) rfl ?_
    walk_at "g"
    exact q
/-! ### tastes -/
def pos (c : Nat) : List Nat → Nat
  | [] => 0
  | x :: r => if x = c then 0 else pos c r + 1
theorem pos_ok {c : Nat} : ∀ {l : List Nat}, c ∈ l → l[pos c l]? = some c ∧ ∀ j, j < pos c l → l[j]? ≠ some c
  | x :: r, h => by
    unfold pos
    by_cases e : x = c
    · rw [if_pos e]
      exact ⟨by rw [e]; rfl, fun j hj => absurd hj (Nat.not_lt_zero j)⟩
    · rw [if_neg e]
      obtain ⟨h1, h2⟩ := pos_ok (c := c) (l := r) ((List.mem_cons.mp h).resolve_left fun z => e z.symm)
      refine ⟨h1, fun j hj => ?_⟩
      cases j with
      | zero => exact fun z => e (Option.some.inj z)
      | succ j => exact h2 j (by omega)
def stepT (S : HsD) (here : Int) (c : Nat) : Int := (S.tb.getD here.toNat []).getD (pos c S.ls) 0
def tasteF (S : HsD) (cs : List Nat) : Int := cs.foldl (stepT S) 0
theorem stepT_ok {S : HsD} (ok : HsOk S) {here : Int} {c : Nat} (h0 : 0 ≤ here) (h1 : here < S.tb.length) (hc : c ∈ S.ls) :
    ∃ r, S.tb[here.toNat]? = some r ∧ r[pos c S.ls]? = some (stepT S here c) ∧ 0 ≤ stepT S here c ∧ stepT S here c < S.tb.length := by
  have hk : here.toNat < S.tb.length := by omega
  have e : S.tb[here.toNat]? = some S.tb[here.toNat] := List.getElem?_eq_getElem hk
  obtain ⟨w1, w2⟩ := ok.tw S.tb[here.toNat] (List.getElem_mem hk)
  have hp : pos c S.ls < S.tb[here.toNat].length := by
    rw [w1]
    exact (List.getElem?_eq_some_iff.mp (pos_ok hc).1).1
  have g : S.tb.getD here.toNat [] = S.tb[here.toNat] := by
    rw [List.getD_eq_getElem?_getD, e]
    rfl
  have e2 : stepT S here c = S.tb[here.toNat][pos c S.ls] := by
    unfold stepT
    rw [g, List.getD_eq_getElem?_getD, List.getElem?_eq_getElem hp]
    rfl
  refine ⟨_, e, by rw [e2, List.getElem?_eq_getElem hp], ?_⟩
  rw [e2]
  exact w2 _ (List.getElem_mem hp)
theorem taste_in {S : HsD} (ok : HsOk S) : ∀ (cs : List Nat) (here : Int), 0 ≤ here → here < S.tb.length → (∀ c ∈ cs, c ∈ S.ls) → 0 ≤ cs.foldl (stepT S) here ∧ cs.foldl (stepT S) here < S.tb.length
  | [], _, h0, h1, _ => ⟨h0, h1⟩
  | c :: cs, here, h0, h1, hc => by
    obtain ⟨r, _, _, a, b⟩ := stepT_ok ok h0 h1 (hc c (List.mem_cons_self ..))
    exact taste_in ok cs _ a b fun d hd => hc d (List.mem_cons_of_mem _ hd)
theorem at_pos {α : Type} {xs : List α} {z : Int} {v : α} (h0 : 0 ≤ z) (h : xs[z.toNat]? = some v) : atI xs z = some v := at_n (j := z.toNat) (by omega) h
def spTasted (K : PySem.W.Frag) : Sp := fun vs H Q _ => ∃ (a : Addr) (S : HsD) (cs : List Nat), vs = [.ref a, .str (tx cs)] ∧ HsAt K H a S ∧ HsOk S ∧ (∀ c ∈ cs, c ∈ S.ls) ∧ Q (.int (tasteF S cs)) H
theorem ok_House_tasted (F : FnM K "tasted" "House.tasted" s_House_tasted (He.ma K (He.ga K "House") "tasted") fd) (hC : HsC K) (me : Meth K (He.ga K "House") "tasted" (He.ma K (He.ga K "House") "tasted")) : CalleeM P w K mg base CX0 "House" "tasted" 1 (spTasted K) := by
  refine ⟨hC.c, me, fd, ["self", "word"], F.ok sc_House_tasted (fun vs H Q E h => ?hl) (fun cdv A outer s H vs Q E hr h => ⟨_, PSs.nox (pss_cons (ps_set (i := 2) sc_House_tasted.nd rfl (by first | exact Or.inl rfl | exact Or.inr rfl) pe_int)
      (pss_cons (ps_for PassesOwn.never rfl (pi_str (pv 1)) (pg_name (i := 3) sc_House_tasted.nd rfl (by first | exact Or.inl rfl | exact Or.inr rfl)) (pss_one (ps_set (i := 2) sc_House_tasted.nd rfl (by first | exact Or.inl rfl | exact Or.inr rfl) (pe_ix (ix_k K) (pe_ix (ix_k K) (pe_fldK K (pv 0) rfl) (pv 2) (fun _ _ => rfl)) (pe_bmK K PySem.F.plainAttrs_str PySem.F.slot_str_index PySem.F.type_str_index mt_sindex (pe_fldK K (pv 0) rfl) (pa_cons (pv 3) pa_nil)) (fun _ _ => rfl)))))
      (pss_one (ps_ret (pv 2))))), ?rd⟩), F.bindsN fun _ _ _ _ _ _ us hl => match us, hl with | [_, _], _ => rfl⟩
  case hl =>
    obtain ⟨a, S, cs, rfl, _⟩ := h
    rfl
  case rd =>
    obtain ⟨a, S, cs, rfl, ⟨dx, r, t, R, L, h1, h2, h3, h4, _⟩, ok, hcs, q⟩ := h
    obtain ⟨hc, n1, n2, n3, n4, n5, n6, n7⟩ := hC
    refine k_start (σ' := [some _, some _, none, none]) rfl ?_
    have t1 := ok.t1
    walk_at "g"
    refine k_nFor (walk_str (z := tx cs)) (fun i σ H' => (∃ y3, σ = [some (.ref a), some (.str (tx cs)), some (.int ((cs.take i).foldl (stepT S) 0)), y3]) ∧ H' = H) ⟨⟨_, rfl⟩, rfl⟩ (fun _ _ _ _ _ => trivial) (fun i x σ Ha Hb hi h hy => ?ht) (fun σ H' h => ?he)
    case he =>
      obtain ⟨⟨y3, rfl⟩, rfl⟩ := h
      have e : (tx cs).cps.size = cs.length := len_tx cs
      rw [e, List.take_length]
      walk_at "g"
      exact q
    case ht =>
      obtain ⟨⟨y3, rfl⟩, rfl⟩ := h
      obtain ⟨rfl, c, hc', rfl⟩ := hy
      have hci : cs[i]? = some c := by rw [← hc']; exact Array.getElem?_toList (xs := cs.toArray)
      have hcl := hcs c (List.mem_of_getElem? hci)
      obtain ⟨b0, b1⟩ := taste_in ok (cs.take i) 0 (Int.le_refl _) (by omega) fun d hd => hcs d (List.mem_of_mem_take hd)
      obtain ⟨row, er, es, _, _⟩ := stepT_ok ok b0 b1 hcl
      rw [take_more hci, List.foldl_append]
      generalize (cs.take i).foldl (stepT S) 0 = here at *
      have er2 := er
      rw [← h4, List.getElem?_map] at er2
      obtain ⟨q0, hq0, rfl⟩ := Option.map_eq_some_iff.mp er2
      walk_at "g"
      refine k_ix_t h2 (v := .ref q0.1) (at_pos b0 (by rw [List.getElem?_map, hq0]; rfl)) ?_
      walk_at "g"
      obtain ⟨rest, eo⟩ := occ_one (pos_ok hcl).1 (pos_ok hcl).2
      refine ⟨tx S.ls, ⟨#[c]⟩, pos c S.ls, rest, rfl, rfl, eo, ?_⟩
      refine k_ix_t (h3 q0 (List.mem_of_getElem? hq0)) (v := .int (stepT S here c)) (at_n (j := pos c S.ls) rfl (by rw [List.getElem?_map, es]; rfl)) ?_
      walk_at "g"
      exact ⟨⟨_, rfl⟩, rfl⟩
theorem ok_House_chew (F : FnM K "chew" "House.chew" s_House_chew (He.ma K (He.ga K "House") "chew") fd) (hC : HsC K) (me : Meth K (He.ga K "House") "chew" (He.ma K (He.ga K "House") "chew")) : CalleeM P w K mg base CX0 "House" "chew" 1 (spHsM K fun S => .int S.ch) := by
  refine ⟨hC.c, me, fd, ["self"], F.ok sc_House_chew (fun vs H Q E h => ?hl) (fun cdv A outer s H vs Q E hr h => ⟨_, PSs.nox (pss_one (ps_ret (pe_fldK K (pv 0) rfl))), ?rd⟩), F.bindsN fun _ _ _ _ _ _ us hl => match us, hl with | [_], _ => rfl⟩
  case hl =>
    obtain ⟨a, S, rfl, _⟩ := h
    rfl
  case rd =>
    obtain ⟨a, S, rfl, ⟨dx, r, t, R, L, h1, h2⟩, q⟩ := h
    obtain ⟨hc, n1, n2, n3, n4, n5, n6, n7⟩ := hC
    refine k_start (σ' := [some _]) rfl ?_
    walk_at "g"
    exact q
theorem ok_House_put (F : FnM K "put" "House.put" s_House_put (He.ma K (He.ga K "House") "put") fd) (hC : HsC K) (me : Meth K (He.ga K "House") "put" (He.ma K (He.ga K "House") "put")) : CalleeM P w K mg base CX0 "House" "put" 1 (spHsM K fun S => .str (tx S.pt)) := by
  refine ⟨hC.c, me, fd, ["self"], F.ok sc_House_put (fun vs H Q E h => ?hl) (fun cdv A outer s H vs Q E hr h => ⟨_, PSs.nox (pss_one (ps_ret (pe_fldK K (pv 0) rfl))), ?rd⟩), F.bindsN fun _ _ _ _ _ _ us hl => match us, hl with | [_], _ => rfl⟩
  case hl =>
    obtain ⟨a, S, rfl, _⟩ := h
    rfl
  case rd =>
    obtain ⟨a, S, rfl, ⟨dx, r, t, R, L, h1, h2⟩, q⟩ := h
    obtain ⟨hc, n1, n2, n3, n4, n5, n6, n7⟩ := hC
    refine k_start (σ' := [some _]) rfl ?_
    walk_at "g"
    exact q
theorem ok_House_cut (F : FnM K "cut" "House.cut" s_House_cut (He.ma K (He.ga K "House") "cut") fd) (hC : HsC K) (me : Meth K (He.ga K "House") "cut" (He.ma K (He.ga K "House") "cut")) : CalleeM P w K mg base CX0 "House" "cut" 1 (spHsM K fun S => .int S.cu) := by
  refine ⟨hC.c, me, fd, ["self"], F.ok sc_House_cut (fun vs H Q E h => ?hl) (fun cdv A outer s H vs Q E hr h => ⟨_, PSs.nox (pss_one (ps_ret (pe_fldK K (pv 0) rfl))), ?rd⟩), F.bindsN fun _ _ _ _ _ _ us hl => match us, hl with | [_], _ => rfl⟩
  case hl =>
    obtain ⟨a, S, rfl, _⟩ := h
    rfl
  case rd =>
    obtain ⟨a, S, rfl, ⟨dx, r, t, R, L, h1, h2⟩, q⟩ := h
    obtain ⟨hc, n1, n2, n3, n4, n5, n6, n7⟩ := hC
    refine k_start (σ' := [some _]) rfl ?_
    walk_at "g"
    exact q
/-! ### steps over a house -/
section
variable {H : Hp} {Q : VK} {a : Addr} {S : HsD} {m : Str} {A : Prop} {E : XK}
def hFs (S : HsD) (r t : Addr) : List (Str × V) := [("signs", .str (tx S.ls)), ("rooms", .ref r), ("triples", .ref t), ("chewed", .int S.ch), ("putting", .str (tx S.pt)), ("span", .int S.mo), ("cutting", .int S.cu)]
theorem k_hsm {g : HsD → V} (hs : HsAt K H a S) (h : Q (g S) H) : spHsM K g (.ref a :: ([] ++ [])) H Q E := ⟨a, S, rfl, hs, h⟩
theorem k_nMethH (hs : HsAt K H a S) (hl : ∀ r t, (hFs S r t).lookup m = none) (h : A) : nMeth (He.ga K "House") m (.ref a) H A := by
  obtain ⟨dx, r, t, R, L, h1, _⟩ := hs
  exact ⟨a, dx, hFs S r t, rfl, h1, hl r t, h⟩
end
end
end Lw
set_option autoImplicit true
set_option pp.maxSteps 1200
set_option Elab.async false
set_option linter.all false
set_option maxRecDepth 100000
set_option maxHeartbeats 1000000
namespace Lw
open PySem PySem.Spec PyProof.Rows L2 Gk

local macro_rules | `(tactic| walk_at "hp") => `(tactic| first | assumption | exact upd_same | (refine' (upd_ne ?n).trans ?h; (case n => assumption); (case h => walk_at "hp")) | (refine' sm_get ?s ?h; (case s => assumption); (case h => walk_at "hp")))
local macro_rules | `(tactic| walk_at "sq") => `(tactic| first | assumption | (refine' sq_l ?h; (case h => walk_at "hp")) | (refine' sm_l ?s ?h; (case s => assumption); (case h => walk_at "sq")))
local macro_rules | `(tactic| walk_at "st") => `(tactic| first | assumption | (refine' sq_t ?h; (case h => walk_at "hp")) | (refine' sm_t ?s ?h; (case s => assumption); (case h => walk_at "st")))
local macro_rules | `(tactic| walk_at "bg") => `(tactic| first | assumption | (refine' BagOk.sm ?s ?h; (case s => assumption); (case h => walk_at "bg")))
local macro_rules | `(tactic| walk_at "sm") => `(tactic| first | assumption | exact Same.refl _ | (refine' Same.trans ?h ?s; (case s => assumption); (case h => walk_at "sm")))
local macro_rules | `(tactic| walk_at "hs") => `(tactic| first | assumption | (refine' HsAt.sm ?s ?h; (case s => assumption); (case h => walk_at "hs")))
local macro_rules | `(tactic| walk_at "ms") => `(tactic| first | assumption | (refine' MAt.sm ?s ?h; (case s => assumption); (case h => walk_at "ms")))
local macro_rules | `(tactic| walk_at "md") => `(tactic| first | assumption | (refine' MDk.sm ?s ?h; (case s => assumption); (case h => walk_at "md")))
local macro_rules | `(tactic| walk_at "dp") => `(tactic| first | assumption | (refine' dp_sm ?s ?h; (case s => assumption); (case h => walk_at "dp")))
local macro_rules | `(tactic| walk_at "sz") => `(tactic| first | decide | assumption | omega | (simp only [List.length_cons, List.length_nil, List.length_map, List.length_append]; omega))
local macro_rules | `(tactic| walk_at "g1") => `(tactic| first
  | with_reducible refine k_seq ?_
  | with_reducible refine k_itB ?_
  | with_reducible refine k_next ?_
  | with_reducible refine k_asg ?_
  | with_reducible refine k_name ?_
  | with_reducible refine k_ret ?_
  | with_reducible refine k_retN ?_
  | with_reducible refine k_drop ?_
  | with_reducible refine k_ifs ?_
  | with_reducible refine k_brk ?_
  | with_reducible refine k_cont ?_
  | with_reducible refine k_ipI ?_
  | with_reducible refine k_test ?_
  | with_reducible refine k_tB ?_
  | with_reducible refine k_bl ?_
  | with_reducible refine k_not ?_
  | with_reducible refine k_and ?_
  | with_reducible refine k_or ?_
  | with_reducible refine k_yes ?_
  | with_reducible refine k_true ?_
  | with_reducible refine k_false ?_
  | with_reducible refine k_nt ?_
  | with_reducible refine k_c ?_
  | with_reducible refine k_op ?_
  | with_reducible refine k_un ?_
  | with_reducible refine k_if ?_
  | with_reducible refine k_chain ?_
  | with_reducible refine k_nil ?_
  | with_reducible refine k_cons ?_
  | with_reducible refine k_cb ?_
  | with_reducible refine k_call ?_
  | with_reducible refine k_callS ?_
  | with_reducible refine k_andV ?_
  | with_reducible refine k_orV ?_
  | with_reducible refine k_notV ?_
  | with_reducible refine k_lst ?_
  | with_reducible refine k_tup ?_
  | with_reducible refine k_nopart ?_
  | with_reducible refine k_part ?_
  | with_reducible refine k_nInt ?_
  | with_reducible refine k_sl ?_
  | with_reducible refine k_bm ?_
  | with_reducible refine k_bm0 ?_
  | with_reducible refine k_nTyS ?_
  | with_reducible refine k_m1 ?_
  | with_reducible refine k_m0 ?_
  | with_reducible refine k_nStr ?_
  | with_reducible refine k_I0 ?_
  | with_reducible refine k_U ?_
  | with_reducible refine k_add_i ?_
  | with_reducible refine k_eq_i ?_
  | with_reducible refine k_eq_s ?_
  | with_reducible refine k_eq_b ?_
  | with_reducible refine k_ne_i ?_
  | with_reducible refine k_ne_s ?_
  | with_reducible refine k_ne_b ?_
  | with_reducible refine k_le_i ?_
  | with_reducible refine k_le_s ?_
  | with_reducible refine k_gnil ?_
  | with_reducible refine k_gcons ?_
  | with_reducible refine k_gsub ?_
  | with_reducible refine k_for ?_
  | with_reducible refine k_lc ?_
  | with_reducible refine k_rng1 ?_
  | with_reducible refine k_rng2 ?_
  | with_reducible refine k_itl ?_
  | with_reducible refine k_itt ?_
  | with_reducible refine k_its ?_
  | with_reducible refine k_ite ?_
  | with_reducible refine k_iteB ?_
  | with_reducible refine k_lrg2 ?_
  | with_reducible refine k_itz ?_
  | with_reducible refine k_nIts ?_
  | with_reducible refine k_inS ?_
  | with_reducible refine k_niS ?_
  | with_reducible refine k_mk ?_
  | with_reducible refine k_meth ?_
  | with_reducible refine k_fld ?_
  | with_reducible refine k_sfld ?_
  | with_reducible refine k_dg ?_
  | with_reducible refine k_dp ?_
  | with_reducible refine k_pr ?_
  | with_reducible refine k_pr0 ?_
  | with_reducible refine k_sg ?_
  | with_reducible refine k_lc2 ?_
  | with_reducible refine k_callN ?_
  | with_reducible refine k_callNS ?_
  | with_reducible refine k_par ?_
  | with_reducible refine k_nPar ?_
  | with_reducible refine k_isNn ?_
  | with_reducible refine k_isNr ?_
  | with_reducible refine k_ntNn ?_
  | with_reducible refine k_ntNr ?_
  | with_reducible refine k_min2 ?_
  | with_reducible refine k_max2 ?_
  | with_reducible refine k_intB ?_
  | with_reducible refine k_intI ?_
  | with_reducible refine k_isBl ?_
  | with_reducible refine k_ntBl ?_
  | ((with_reducible refine' k_var ?kv ?_); (case kv => exact rfl))
  | ((with_reducible refine' k_aug ?kv ?_); (case kv => exact rfl))
  | ((with_reducible refine' k_ix_l ?ks ?ki ?_); (case ks => walk_at "sq"); (case ki => exact rfl))
  | ((with_reducible refine' k_ix_t ?ks ?ki ?_); (case ks => walk_at "st"); (case ki => exact rfl))
  | ((with_reducible refine' k_len_l ?ks ?_); (case ks => walk_at "sq"))
  | ((with_reducible refine' k_len_t ?ks ?_); (case ks => walk_at "st"))
  | ((with_reducible refine' k_setL ?ks ?ki ?_); (case ks => walk_at "hp"); (case ki => exact rfl))
  | ((with_reducible refine' k_nTyL ?ks ?_); (case ks => walk_at "sq"))
  | ((with_reducible refine' k_nItl ?ks ?_); (case ks => walk_at "sq"))
  | ((with_reducible refine' k_nItt ?ks ?_); (case ks => walk_at "st"))
  | ((with_reducible refine' k_nIte ?ks ?_); (case ks => walk_at "sq"))
  | ((with_reducible refine' k_mul ?km ?_); (case km => first | exact Or.inr ⟨by decide, by decide⟩ | exact Or.inl ⟨by decide, by decide⟩))
  | ((with_reducible refine' k_I ?km ?_); (case km => first | assumption | decide | exact ⟨by decide, by decide +kernel⟩ | exact ⟨by decide, by decide, by decide⟩))
  | ((with_reducible refine' k_nMeth ?kp ?kl ?_); (case kp => walk_at "hp"); (case kl => exact rfl))
  | ((with_reducible refine' k_nFld ?kp ?kc ?kn ?kl ?_); (case kp => walk_at "hp"); (case kc => assumption); (case kn => assumption); (case kl => exact rfl))
  | ((with_reducible refine' k_nSFld ?kp ?kc ?kn ?kl ?_); (case kp => walk_at "hp"); (case kc => assumption); (case kn => assumption); (case kl => exact of_decide_eq_true rfl))
  | ((with_reducible refine' k_nDg ?kp ?kl ?_); (case kp => walk_at "hp"); (case kl => exact rfl))
  | ((with_reducible refine' k_nRng1 ?k1 ?k2 ?_); (case k1 => omega); (case k2 => omega))
  | ((with_reducible refine' k_nKw ?k1 ?k2 ?_); (case k1 => exact rfl); (case k2 => exact rfl))
  | ((with_reducible refine' k_hsm ?kh ?_); (case kh => walk_at "hs"))
  | ((with_reducible refine' k_nMethH ?kh ?kl ?_); (case kh => walk_at "hs"); (case kl => exact fun _ _ => rfl))
  | ((with_reducible refine' k_mLet ?kh ?_); (case kh => walk_at "ms"))
  | ((with_reducible refine' k_mChew ?kh ?_); (case kh => walk_at "ms"))
  | ((with_reducible refine' k_mPut ?kh ?_); (case kh => walk_at "ms"))
  | ((with_reducible refine' k_mMost ?kh ?_); (case kh => walk_at "ms"))
  | ((with_reducible refine' k_mCut ?kh ?_); (case kh => walk_at "ms"))
  | ((with_reducible refine' k_mTab ?kh ?_); (case kh => walk_at "md"))
  | ((with_reducible refine' k_mEats ?kh ?_); (case kh => walk_at "md"))
  | ((with_reducible refine' k_gtup ?ks ?kl ?_); (case ks => walk_at "st"); (case kl => exact rfl)))
local macro_rules | `(tactic| walk_at "g") => `(tactic| repeat (walk_at "g1"))
local macro_rules | `(tactic| walk_at "w1") => `(tactic| first
  | walk_at "g1"
  | ((with_reducible refine' k_decT ?kp ?_); (case kp => omega))
  | ((with_reducible refine' k_decF ?kp ?_); (case kp => omega))
  | ((with_reducible refine' k_decNT ?kp ?_); (case kp => omega))
  | ((with_reducible refine' k_decNF ?kp ?_); (case kp => omega)))
local macro_rules | `(tactic| walk_at "w") => `(tactic| repeat (walk_at "w1"))


section
variable {P : Program} {w : World} {K : PySem.W.Frag} {mg : Str → Option Value} {base : Heap} {f : Addr} {fd : FuncData}
/-! ### words of a house -/
/-! ### all words -/
def lv (ls : List Nat) : Nat → List (List Nat)
  | 0 => [[]]
  | n + 1 => (lv ls n).flatMap fun u => ls.map fun c => u ++ [c]
def wordsF (ls : List Nat) (m : Nat) : List (List Nat) := (List.range m).flatMap fun i => lv ls (i + 1)
theorem lv_len (ls : List Nat) : ∀ n, (lv ls n).length = ls.length ^ n
  | 0 => rfl
  | n + 1 => by
    show ((lv ls n).flatMap _).length = _
    rw [List.length_flatMap, show ((lv ls n).map fun u => (ls.map fun c => u ++ [c]).length) = (lv ls n).map fun _ => ls.length by simp, List.map_const', List.sum_replicate_nat, lv_len ls n, Nat.pow_succ]
theorem lv_ok (ls : List Nat) : ∀ n, ∀ u ∈ lv ls n, u.length = n ∧ ∀ c ∈ u, c ∈ ls
  | 0, u, h => by
    cases List.mem_singleton.mp h
    exact ⟨rfl, fun c hc => nomatch hc⟩
  | n + 1, u, h => by
    obtain ⟨v, hv, h2⟩ := List.mem_flatMap.mp h
    obtain ⟨c, hc, rfl⟩ := List.mem_map.mp h2
    obtain ⟨l1, l2⟩ := lv_ok ls n v hv
    refine ⟨by rw [List.length_append, l1]; rfl, fun d hd => ?_⟩
    rcases List.mem_append.mp hd with hd | hd
    · exact l2 d hd
    · rw [List.mem_singleton.mp hd]
      exact hc
def tS (us : List (List Nat)) : List V := us.map fun u => V.str (tx u)
theorem tx_one (u : List Nat) (c : Nat) : tx u ++ (⟨#[c]⟩ : Str) = tx (u ++ [c]) := by
  show (⟨u.toArray ++ #[c]⟩ : Str) = ⟨(u ++ [c]).toArray⟩
  congr 1
  simp
def spWords (K : PySem.W.Frag) : Sp := fun vs H Q _ => ∃ (a : Addr) (S : HsD), vs = [.ref a] ∧ HsAt K H a S ∧ HsOk S ∧ ∀ p H', H p = none → Same H H' → H' p = some (.lst (tS (wordsF S.ls S.mo.toNat))) → Q (.ref p) H'
theorem rise_nodup {cs : List Nat} (h : Rise cs) : cs.Nodup := h.1.imp fun h => Nat.ne_of_lt h
theorem wcount_le {n m : Nat} (hm : m ≤ 3) (hn : 1 ≤ n) (h : wcount n m ≤ 14) : ∀ i, i < m → n ^ (i + 1) ≤ 14 := by
  intro i hi
  have e : ∀ k : Nat, ((n : Int) ^ k) = ((n ^ k : Nat) : Int) := fun k => by rw [Int.natCast_pow]
  have p1 : 0 ≤ ((n : Int) ^ 1) := by rw [e]; omega
  have p2 : 0 ≤ ((n : Int) ^ 2) := by rw [e]; omega
  have p3 : 0 ≤ ((n : Int) ^ 3) := by rw [e]; omega
  have e1 := e 1
  have e2 := e 2
  have e3 := e 3
  unfold wcount at h
  have : m = 1 ∨ m = 2 ∨ m = 3 := by omega
  rcases this with rfl | rfl | rfl
  · have : i = 0 := by omega
    subst this
    simp only [List.take, List.sum_cons, List.sum_nil] at h
    show n ^ 1 ≤ 14
    omega
  · have : i = 0 ∨ i = 1 := by omega
    simp only [List.take, List.sum_cons, List.sum_nil] at h
    rcases this with rfl | rfl
    · show n ^ 1 ≤ 14
      omega
    · show n ^ 2 ≤ 14
      omega
  · have : i = 0 ∨ i = 1 ∨ i = 2 := by omega
    simp only [List.take, List.sum_cons, List.sum_nil] at h
    rcases this with rfl | rfl | rfl
    · show n ^ 1 ≤ 14
      omega
    · show n ^ 2 ≤ 14
      omega
    · show n ^ 3 ≤ 14
      omega
theorem lv_small {S : HsD} (ok : HsOk S) {i : Nat} (hi : i ≤ S.mo.toNat) : (lv S.ls i).length ≤ 14 := by
  rw [lv_len]
  cases i with
  | zero => show 1 ≤ 14; decide
  | succ i => exact wcount_le (by have := ok.m3; omega) ok.l1 ok.mw i (by omega)
theorem words_small {S : HsD} (ok : HsOk S) : ∀ m, m ≤ S.mo.toNat → (wordsF S.ls m).length ≤ 14 * m
  | 0, _ => by show 0 ≤ 0; decide
  | m + 1, h => by
    unfold wordsF
    rw [List.range_succ, List.flatMap_append, List.length_append]
    have h1 := words_small ok m (by omega)
    unfold wordsF at h1
    have h2 := lv_small ok h
    simp only [List.flatMap_cons, List.flatMap_nil, List.append_nil]
    omega
theorem words_ok {ls : List Nat} {m : Nat} : ∀ u ∈ wordsF ls m, 1 ≤ u.length ∧ u.length ≤ m ∧ ∀ c ∈ u, c ∈ ls := by
  intro u hu
  obtain ⟨i, hi, h⟩ := List.mem_flatMap.mp hu
  have := List.mem_range.mp hi
  obtain ⟨l1, l2⟩ := lv_ok ls (i + 1) u h
  exact ⟨by omega, by omega, l2⟩
/-- the words of the next length, two fors at once -/
theorem longer (ls : List Nat) (us : List (List Nat)) (i : Nat) (u : List Nat) (hu : us[i]? = some u) : (us.take (i + 1)).flatMap (fun u => ls.map fun c => u ++ [c]) = (us.take i).flatMap (fun u => ls.map fun c => u ++ [c]) ++ ls.map fun c => u ++ [c] := by
  rw [take_more hu, List.flatMap_append]
  simp
theorem ok_words (F : FnP K "words" s_words f fd) (hm : mg "words" = some (.ref f)) (f_range : mg "range" = none) (c_House_letters : CalleeM P w K mg base CX0 "House" "letters" 1 (spHsM K fun S => .str (tx S.ls))) (c_House_most : CalleeM P w K mg base CX0 "House" "most" 1 (spHsM K fun S => .int S.mo)) : Callee P w K mg base CX0 "words" 2 [] (spWords K) := by
  refine ⟨f, fd, _, [], F.ok sc_words (fun vs H Q E h => ?hl) (fun cdv A outer s H vs Q E hr h => ⟨_, PSs.nox (pss_cons (ps_set (i := 1) sc_words.nd rfl (by first | exact Or.inl rfl | exact Or.inr rfl) (pe_lst pa_nil))
      (pss_cons (ps_set (i := 2) sc_words.nd rfl (by first | exact Or.inl rfl | exact Or.inr rfl) (pe_lst (pa_cons pe_str pa_nil)))
      (pss_cons (ps_for PassesOwn.never rfl (pi_range1 (by rfl) f_range (pa_cons (pe_mt0 c_House_most hr (pv 0) pass0) pa_nil)) (pg_name (i := 3) sc_words.nd rfl (by first | exact Or.inl rfl | exact Or.inr rfl)) (pss_cons (ps_setLc2 (i := 2) (own := [("word", 4), ("sign", 5)]) (vs1 := [5]) rfl sc_words.nd rfl rfl (by first | exact sw_true rfl rfl rfl (by decide +kernel) | rfl) (pi_listK K (pv 2)) (blkOk_by (N := ["house", "found", "last", "size", "word", "sign"]) (sc := defScope s_words) (by decide +kernel)) (by decide) (fun _ _ _ _ _ => (pg_name (i := 4) sc_words.nd rfl (by first | exact Or.inl rfl | exact Or.inr rfl))) (fun _ _ _ _ _ => pts_nil) (fun _ _ _ _ _ => (pi_str (pe_mt0 c_House_letters hr (pv 0) pass0))) (fun _ _ _ _ _ => (pg_name (i := 5) sc_words.nd rfl (by first | exact Or.inl rfl | exact Or.inr rfl))) (fun _ _ _ _ _ => pts_nil) (fun _ _ _ _ _ => (pe_op (op_addK K) (pv 4) (pv 5))))
      (pss_one (ps_expr (pe_bmK K PySem.F.plainAttrs_list PySem.F.slot_list_extend PySem.F.type_list_extend mt_extend (pv 1) (pa_cons (pv 2) pa_nil))))))
      (pss_one (ps_ret (pv 1)))))), ?rd⟩), hm, F.kp, F.bindsN fun _ _ _ _ _ _ us hl => match us, hl with | [_], _ => rfl, .nil⟩
  case hl =>
    obtain ⟨a, S, rfl, _⟩ := h
    rfl
  case rd =>
    obtain ⟨a, S, rfl, hs, ok, q⟩ := h
    refine k_start (σ' := [some _, none, none, none, none, none]) rfl ?_
    have m1 := ok.m1
    have m3 := ok.m3
    walk_at "g"
    refine k_nLst (by walk_at "sz") (fun p1 H1 n1 s1 e1 => ?_)
    walk_at "g"
    refine k_nLst (by walk_at "sz") (fun p2 H2 n2 s2 e2 => ?_)
    have hs2 := hs.sm (s1.trans s2)
    obtain ⟨dx, r, t, R, L, h1, _⟩ := id hs2
    walk_at "g"
    have e12 := s2 _ _ e1
    refine k_nFor walk_range (fun i σ H' => ∃ pl y3, σ = [some (.ref a), some (.ref p1), some (.ref pl), y3, none, none] ∧ Same H H' ∧ H' p1 = some (.lst (tS (wordsF S.ls i))) ∧ H' pl = some (.lst (tS (lv S.ls i))) ∧ pl ≠ p1) ⟨p2, none, rfl, s1.trans s2, e12, e2, fun z => by rw [z, e1] at n2; cases n2⟩ (fun _ _ _ _ _ => trivial) (fun i x σ Ha Hb hi h hy => ?ht) (fun σ H' h => ?he)
    case he =>
      obtain ⟨pl, y3, rfl, sa, ea, _⟩ := h
      walk_at "g"
      exact q _ _ n1 sa ea
    case ht =>
      obtain ⟨pl, y3, rfl, sa, ea, eb, ne⟩ := h
      obtain ⟨rfl, rfl⟩ := hy
      have l1 := lv_small ok (i := i) (by omega)
      have l2 := lv_small ok (i := i + 1) (by omega)
      have ltS : (tS (lv S.ls i)).length = (lv S.ls i).length := List.length_map _
      walk_at "g"
      refine k_nLc2 (walk_list (xs := tS (lv S.ls i))) (fun H' s2 => sq_l (s2 _ _ eb)) (fun j ws => ws = tS (((lv S.ls i).take j).flatMap fun u => S.ls.map fun c => u ++ [c])) rfl (fun j v D H3 H4 ws Nx hj hD s3 e3 hws hy hN => ?hs1) (fun p H5 ws np s5 e5 hws => ?hd1)
      case hs1 =>
        obtain ⟨rfl, hv⟩ := hy
        obtain ⟨u, hu, rfl⟩ := map_get hv
        obtain ⟨lu, _⟩ := lv_ok S.ls i u (List.mem_of_getElem? hu)
        have hs3 := hs.sm (sa.trans s3)
        obtain ⟨dx, r, t, R, L, h1, _⟩ := id hs3
        walk_at "g"
        refine ⟨rfl, ?_⟩
        walk_at "g"
        have sz : (tx S.ls).cps.size = S.ls.length := len_tx S.ls
        refine k_nIn (walk_str (z := tx S.ls)) s3 hD e3 (fun _ _ => trivial) (fun k ws' => ws' = ws ++ tS ((S.ls.take k).map fun c => u ++ [c])) (by simp [tS]) (fun k ws' hk hw => ?hz) (fun k v H6 H7 ws' Kp Ks hk s6 hw hy hKp hKs => ?hs2) (fun H8 ws' s8 e8 hw => ?hd2)
        case hz =>
          rw [hw, hws, List.length_append]
          have a1 : (tS (((lv S.ls i).take j).flatMap fun u => S.ls.map fun c => u ++ [c])).length ≤ 14 * 3 := by
            unfold tS
            rw [List.length_map, List.length_flatMap, show (((lv S.ls i).take j).map fun u => (S.ls.map fun c => u ++ [c]).length) = ((lv S.ls i).take j).map fun _ => S.ls.length by simp, List.map_const', List.sum_replicate_nat, List.length_take]
            exact Nat.mul_le_mul (Nat.le_trans (Nat.min_le_right ..) l1) ok.l3
          have a2 : (tS ((S.ls.take k).map fun c => u ++ [c])).length ≤ 3 := by
            unfold tS
            rw [List.length_map, List.length_map, List.length_take]
            exact Nat.le_trans (Nat.min_le_right ..) ok.l3
          omega
        case hs2 =>
          obtain ⟨rfl, c, hc, rfl⟩ := hy
          have hci : S.ls[k]? = some c := by rw [← hc]; exact Array.getElem?_toList (xs := S.ls.toArray)
          walk_at "g"
          refine ⟨rfl, ?_⟩
          walk_at "g"
          refine k_add_s (by rw [len_tx, lu]; show i + 1 ≤ 100000; omega) ?_
          rw [tx_one]
          exact hKp _ _ (Same.refl _) (by rw [hw, take_more hci, List.map_append]; simp [tS])
        case hd2 =>
          have el : S.ls.take (tx S.ls).cps.size = S.ls := List.take_of_length_le (by omega)
          rw [el] at hw
          refine hN _ _ s8 e8 ?_
          rw [hw, hws, longer S.ls (lv S.ls i) j u hu]
          simp [tS]
      case hd1 =>
        rw [ltS, List.take_length] at hws
        subst hws
        have eaH := s5 _ _ ea
        have pp : p ≠ p1 := fun z => by rw [z, ea] at np; cases np
        walk_at "g"
        refine ⟨p1, p, _, _, rfl, rfl, eaH, e5, sz_of ?_, ?_⟩
        · have w1 := words_small ok i (by omega)
          have t1 : (tS (wordsF S.ls i)).length = (wordsF S.ls i).length := List.length_map _
          have t2 : (tS ((lv S.ls i).flatMap fun u => S.ls.map fun c => u ++ [c])).length = (lv S.ls (i + 1)).length := List.length_map _
          rw [t1, t2]
          omega
        walk_at "g"
        refine ⟨p, _, rfl, sm_mut (sa.trans s5) n1, ?_, ?_, pp⟩
        · rw [upd_same]
          unfold wordsF tS
          rw [List.range_succ, List.flatMap_append, List.map_append]
          simp [lv]
        · rw [upd_ne pp, e5]
          rfl
/-! ### all tastes -/
/-! ### word by word -/
theorem mem_lv (ls : List Nat) : ∀ n (u : List Nat), u.length = n → (∀ c ∈ u, c ∈ ls) → u ∈ lv ls n
  | 0, u, h, _ => by
    rw [List.length_eq_zero_iff.mp h]
    exact List.mem_singleton.mpr rfl
  | n + 1, u, h, hc => by
    have ne : u ≠ [] := fun e => by rw [e] at h; cases h
    have e := List.dropLast_concat_getLast ne
    refine List.mem_flatMap.mpr ⟨u.dropLast, mem_lv ls n _ (by rw [List.length_dropLast]; omega) fun c hc' => hc c (List.dropLast_subset u hc'), List.mem_map.mpr ⟨u.getLast ne, hc _ (List.getLast_mem ne), e⟩⟩
theorem len_le_of_nodup {α : Type} [DecidableEq α] : ∀ {l m : List α}, l.Nodup → (∀ x ∈ l, x ∈ m) → l.length ≤ m.length
  | [], m, _, _ => Nat.zero_le _
  | x :: l, m, nd, hs => by
    obtain ⟨n1, n2⟩ := List.nodup_cons.mp nd
    have pm : m.Perm (x :: m.erase x) := List.perm_cons_erase (hs x (List.mem_cons_self ..))
    have h := len_le_of_nodup (l := l) (m := m.erase x) n2 fun y hy => (List.mem_erase_of_ne (fun e => n1 (by rw [← e]; exact hy))).mpr (hs y (List.mem_cons_of_mem _ hy))
    rw [pm.length_eq, List.length_cons, List.length_cons]
    omega
theorem dp_tS {K : PySem.W.Frag} {H : Hp} : ∀ us : List (List Nat), DpAll K H (tS us) (us.map fun u => PyData.str (tx u))
  | [] => .nil
  | u :: us => .cons (.str _) (dp_tS us)
/-! ### rows -/
/-- words of the house -/
def AllW (S : HsD) (us : List (List Nat)) : Prop := ∀ u ∈ us, u ∈ wordsF S.ls S.mo.toNat
theorem AllW.len {S : HsD} (ok : HsOk S) {us : List (List Nat)} (h : AllW S us) : ∀ u ∈ us, 1 ≤ u.length ∧ u.length ≤ 3 ∧ ∀ c ∈ u, c ∈ S.ls := fun u hu => by
  obtain ⟨a, b, c⟩ := words_ok u (h u hu)
  have := ok.m3
  exact ⟨a, by omega, c⟩
theorem getS {us : List (List Nat)} {i : Nat} {u : List Nat} (h : us[i]? = some u) : (tS us)[i]? = some (.str (tx u)) := by
  unfold tS
  rw [List.getElem?_map, h]
  rfl
theorem len_tS (us : List (List Nat)) : (tS us).length = us.length := List.length_map _
theorem tS_app (us vs : List (List Nat)) : tS (us ++ vs) = tS us ++ tS vs := List.map_append
theorem tS_take (us : List (List Nat)) (n : Nat) : (tS us).take n = tS (us.take n) := by
  unfold tS
  rw [List.map_take]
theorem tS_drop (us : List (List Nat)) (n : Nat) : (tS us).drop n = tS (us.drop n) := by
  unfold tS
  rw [List.map_drop]
end
end Lw
set_option autoImplicit true
set_option pp.maxSteps 1200
set_option Elab.async false
set_option linter.all false
set_option maxRecDepth 100000
set_option maxHeartbeats 1000000
namespace Lw
open PySem PySem.Spec PyProof.Rows L2 Gk
open PySem.W (EachIs AllAlike Sortable dataLe dataLt alike keyToks)

local macro_rules | `(tactic| walk_at "hp") => `(tactic| first | assumption | exact upd_same | (refine' (upd_ne ?n).trans ?h; (case n => assumption); (case h => walk_at "hp")) | (refine' sm_get ?s ?h; (case s => assumption); (case h => walk_at "hp")))
local macro_rules | `(tactic| walk_at "sq") => `(tactic| first | assumption | (refine' sq_l ?h; (case h => walk_at "hp")) | (refine' sm_l ?s ?h; (case s => assumption); (case h => walk_at "sq")))
local macro_rules | `(tactic| walk_at "st") => `(tactic| first | assumption | (refine' sq_t ?h; (case h => walk_at "hp")) | (refine' sm_t ?s ?h; (case s => assumption); (case h => walk_at "st")))
local macro_rules | `(tactic| walk_at "bg") => `(tactic| first | assumption | (refine' BagOk.sm ?s ?h; (case s => assumption); (case h => walk_at "bg")))
local macro_rules | `(tactic| walk_at "sm") => `(tactic| first | assumption | exact Same.refl _ | (refine' Same.trans ?h ?s; (case s => assumption); (case h => walk_at "sm")))
local macro_rules | `(tactic| walk_at "hs") => `(tactic| first | assumption | (refine' HsAt.sm ?s ?h; (case s => assumption); (case h => walk_at "hs")))
local macro_rules | `(tactic| walk_at "ms") => `(tactic| first | assumption | (refine' MAt.sm ?s ?h; (case s => assumption); (case h => walk_at "ms")))
local macro_rules | `(tactic| walk_at "md") => `(tactic| first | assumption | (refine' MDk.sm ?s ?h; (case s => assumption); (case h => walk_at "md")))
local macro_rules | `(tactic| walk_at "dp") => `(tactic| first | assumption | (refine' dp_sm ?s ?h; (case s => assumption); (case h => walk_at "dp")))
local macro_rules | `(tactic| walk_at "sz") => `(tactic| first | decide | assumption | omega | (simp only [List.length_cons, List.length_nil, List.length_map, List.length_append]; omega))
local macro_rules | `(tactic| walk_at "g1") => `(tactic| first
  | with_reducible refine k_seq ?_
  | with_reducible refine k_itB ?_
  | with_reducible refine k_next ?_
  | with_reducible refine k_asg ?_
  | with_reducible refine k_name ?_
  | with_reducible refine k_ret ?_
  | with_reducible refine k_retN ?_
  | with_reducible refine k_drop ?_
  | with_reducible refine k_ifs ?_
  | with_reducible refine k_brk ?_
  | with_reducible refine k_cont ?_
  | with_reducible refine k_ipI ?_
  | with_reducible refine k_test ?_
  | with_reducible refine k_tB ?_
  | with_reducible refine k_bl ?_
  | with_reducible refine k_not ?_
  | with_reducible refine k_and ?_
  | with_reducible refine k_or ?_
  | with_reducible refine k_yes ?_
  | with_reducible refine k_true ?_
  | with_reducible refine k_false ?_
  | with_reducible refine k_nt ?_
  | with_reducible refine k_c ?_
  | with_reducible refine k_op ?_
  | with_reducible refine k_un ?_
  | with_reducible refine k_if ?_
  | with_reducible refine k_chain ?_
  | with_reducible refine k_nil ?_
  | with_reducible refine k_cons ?_
  | with_reducible refine k_cb ?_
  | with_reducible refine k_call ?_
  | with_reducible refine k_callS ?_
  | with_reducible refine k_andV ?_
  | with_reducible refine k_orV ?_
  | with_reducible refine k_notV ?_
  | with_reducible refine k_lst ?_
  | with_reducible refine k_tup ?_
  | with_reducible refine k_nopart ?_
  | with_reducible refine k_part ?_
  | with_reducible refine k_nInt ?_
  | with_reducible refine k_sl ?_
  | with_reducible refine k_bm ?_
  | with_reducible refine k_bm0 ?_
  | with_reducible refine k_nTyS ?_
  | with_reducible refine k_m1 ?_
  | with_reducible refine k_m0 ?_
  | with_reducible refine k_nStr ?_
  | with_reducible refine k_I0 ?_
  | with_reducible refine k_U ?_
  | with_reducible refine k_add_i ?_
  | with_reducible refine k_eq_i ?_
  | with_reducible refine k_eq_s ?_
  | with_reducible refine k_eq_b ?_
  | with_reducible refine k_ne_i ?_
  | with_reducible refine k_ne_s ?_
  | with_reducible refine k_ne_b ?_
  | with_reducible refine k_le_i ?_
  | with_reducible refine k_le_s ?_
  | with_reducible refine k_gnil ?_
  | with_reducible refine k_gcons ?_
  | with_reducible refine k_gsub ?_
  | with_reducible refine k_for ?_
  | with_reducible refine k_lc ?_
  | with_reducible refine k_rng1 ?_
  | with_reducible refine k_rng2 ?_
  | with_reducible refine k_itl ?_
  | with_reducible refine k_itt ?_
  | with_reducible refine k_its ?_
  | with_reducible refine k_ite ?_
  | with_reducible refine k_iteB ?_
  | with_reducible refine k_lrg2 ?_
  | with_reducible refine k_itz ?_
  | with_reducible refine k_nIts ?_
  | with_reducible refine k_inS ?_
  | with_reducible refine k_niS ?_
  | with_reducible refine k_mk ?_
  | with_reducible refine k_meth ?_
  | with_reducible refine k_fld ?_
  | with_reducible refine k_sfld ?_
  | with_reducible refine k_dg ?_
  | with_reducible refine k_dp ?_
  | with_reducible refine k_pr ?_
  | with_reducible refine k_pr0 ?_
  | with_reducible refine k_sg ?_
  | with_reducible refine k_lc2 ?_
  | with_reducible refine k_callN ?_
  | with_reducible refine k_callNS ?_
  | with_reducible refine k_par ?_
  | with_reducible refine k_nPar ?_
  | with_reducible refine k_isNn ?_
  | with_reducible refine k_isNr ?_
  | with_reducible refine k_ntNn ?_
  | with_reducible refine k_ntNr ?_
  | with_reducible refine k_min2 ?_
  | with_reducible refine k_max2 ?_
  | with_reducible refine k_intB ?_
  | with_reducible refine k_intI ?_
  | with_reducible refine k_isBl ?_
  | with_reducible refine k_ntBl ?_
  | ((with_reducible refine' k_var ?kv ?_); (case kv => exact rfl))
  | ((with_reducible refine' k_aug ?kv ?_); (case kv => exact rfl))
  | ((with_reducible refine' k_ix_l ?ks ?ki ?_); (case ks => walk_at "sq"); (case ki => exact rfl))
  | ((with_reducible refine' k_ix_t ?ks ?ki ?_); (case ks => walk_at "st"); (case ki => exact rfl))
  | ((with_reducible refine' k_len_l ?ks ?_); (case ks => walk_at "sq"))
  | ((with_reducible refine' k_len_t ?ks ?_); (case ks => walk_at "st"))
  | ((with_reducible refine' k_setL ?ks ?ki ?_); (case ks => walk_at "hp"); (case ki => exact rfl))
  | ((with_reducible refine' k_nTyL ?ks ?_); (case ks => walk_at "sq"))
  | ((with_reducible refine' k_nItl ?ks ?_); (case ks => walk_at "sq"))
  | ((with_reducible refine' k_nItt ?ks ?_); (case ks => walk_at "st"))
  | ((with_reducible refine' k_nIte ?ks ?_); (case ks => walk_at "sq"))
  | ((with_reducible refine' k_mul ?km ?_); (case km => first | exact Or.inr ⟨by decide, by decide⟩ | exact Or.inl ⟨by decide, by decide⟩))
  | ((with_reducible refine' k_I ?km ?_); (case km => first | assumption | decide | exact ⟨by decide, by decide +kernel⟩ | exact ⟨by decide, by decide, by decide⟩))
  | ((with_reducible refine' k_nMeth ?kp ?kl ?_); (case kp => walk_at "hp"); (case kl => exact rfl))
  | ((with_reducible refine' k_nFld ?kp ?kc ?kn ?kl ?_); (case kp => walk_at "hp"); (case kc => assumption); (case kn => assumption); (case kl => exact rfl))
  | ((with_reducible refine' k_nSFld ?kp ?kc ?kn ?kl ?_); (case kp => walk_at "hp"); (case kc => assumption); (case kn => assumption); (case kl => exact of_decide_eq_true rfl))
  | ((with_reducible refine' k_nDg ?kp ?kl ?_); (case kp => walk_at "hp"); (case kl => exact rfl))
  | ((with_reducible refine' k_nRng1 ?k1 ?k2 ?_); (case k1 => omega); (case k2 => omega))
  | ((with_reducible refine' k_nKw ?k1 ?k2 ?_); (case k1 => exact rfl); (case k2 => exact rfl))
  | ((with_reducible refine' k_hsm ?kh ?_); (case kh => walk_at "hs"))
  | ((with_reducible refine' k_nMethH ?kh ?kl ?_); (case kh => walk_at "hs"); (case kl => exact fun _ _ => rfl))
  | ((with_reducible refine' k_mLet ?kh ?_); (case kh => walk_at "ms"))
  | ((with_reducible refine' k_mChew ?kh ?_); (case kh => walk_at "ms"))
  | ((with_reducible refine' k_mPut ?kh ?_); (case kh => walk_at "ms"))
  | ((with_reducible refine' k_mMost ?kh ?_); (case kh => walk_at "ms"))
  | ((with_reducible refine' k_mCut ?kh ?_); (case kh => walk_at "ms"))
  | ((with_reducible refine' k_mTab ?kh ?_); (case kh => walk_at "md"))
  | ((with_reducible refine' k_mEats ?kh ?_); (case kh => walk_at "md"))
  | ((with_reducible refine' k_gtup ?ks ?kl ?_); (case ks => walk_at "st"); (case kl => exact rfl)))
local macro_rules | `(tactic| walk_at "g") => `(tactic| repeat (walk_at "g1"))
local macro_rules | `(tactic| walk_at "w1") => `(tactic| first
  | walk_at "g1"
  | ((with_reducible refine' k_decT ?kp ?_); (case kp => omega))
  | ((with_reducible refine' k_decF ?kp ?_); (case kp => omega))
  | ((with_reducible refine' k_decNT ?kp ?_); (case kp => omega))
  | ((with_reducible refine' k_decNF ?kp ?_); (case kp => omega)))
local macro_rules | `(tactic| walk_at "w") => `(tactic| repeat (walk_at "w1"))


section
variable {P : Program} {w : World} {K : PySem.W.Frag} {mg : Str → Option Value} {base : Heap} {f : Addr} {fd : FuncData}
/-! ### a long word cut -/
def cutW (S : HsD) (u : List Nat) : List (List Nat) :=
  if h : S.mo < u.length ∧ 1 ≤ S.cu ∧ 0 < u.length then u.take S.cu.toNat :: cutW S (u.drop S.cu.toNat) else [u]
termination_by u.length
decreasing_by
  rw [List.length_drop]
  omega
theorem cutW_more {S : HsD} (ok : HsOk S) {u : List Nat} (h : S.mo < u.length) : cutW S u = u.take S.cu.toNat :: cutW S (u.drop S.cu.toNat) := by
  have := ok.k1
  have := ok.m1
  rw [cutW, dif_pos ⟨h, by omega, by omega⟩]
theorem cutW_last {S : HsD} {u : List Nat} (h : ¬ S.mo < u.length) : cutW S u = [u] := by
  rw [cutW, dif_neg fun z => h z.1]
theorem cutW_words {S : HsD} (ok : HsOk S) : ∀ (n : Nat) (u : List Nat), u.length ≤ n → 1 ≤ u.length → (∀ c ∈ u, c ∈ S.ls) → (∀ v ∈ cutW S u, v ∈ wordsF S.ls S.mo.toNat) ∧ (cutW S u).length ≤ u.length
  | n, u, hn, h1, hc => by
    have k1 := ok.k1
    have km := ok.km
    have m1 := ok.m1
    have mem : ∀ v : List Nat, 1 ≤ v.length → (v.length : Int) ≤ S.mo → (∀ c ∈ v, c ∈ S.ls) → v ∈ wordsF S.ls S.mo.toNat := fun v a b c => List.mem_flatMap.mpr ⟨v.length - 1, List.mem_range.mpr (by omega), mem_lv _ _ _ (by omega) c⟩
    by_cases h : S.mo < u.length
    · cases n with
      | zero => omega
      | succ n =>
        have ld : (u.drop S.cu.toNat).length = u.length - S.cu.toNat := List.length_drop
        obtain ⟨a, b⟩ := cutW_words ok n (u.drop S.cu.toNat) (by omega) (by omega) fun c h => hc c (List.mem_of_mem_drop h)
        rw [cutW_more ok h]
        refine ⟨fun v hv => ?_, by rw [List.length_cons]; omega⟩
        rcases List.mem_cons.mp hv with rfl | hv
        · exact mem _ (by rw [List.length_take]; omega) (by rw [List.length_take]; omega) fun c h => hc c (List.mem_of_mem_take h)
        · exact a v hv
    · rw [cutW_last h]
      refine ⟨fun v hv => ?_, by show 1 ≤ _; exact h1⟩
      rw [List.mem_singleton.mp hv]
      exact mem u h1 (by omega) hc
def spCut (K : PySem.W.Frag) : Sp := fun vs H Q _ => ∃ (a : Addr) (S : HsD) (u : List Nat), vs = [.ref a, .str (tx u)] ∧ HsAt K H a S ∧ HsOk S ∧ u.length ≤ 1000 ∧ ∀ p H', H p = none → Same H H' → H' p = some (.lst (tS (cutW S u))) → Q (.ref p) H'
theorem ok_cut_long (F : FnP K "cut_long" s_cut_long f fd) (hm : mg "cut_long" = some (.ref f)) (f_len : mg "len" = none) (c_House_most : CalleeM P w K mg base CX0 "House" "most" 1 (spHsM K fun S => .int S.mo)) (c_House_cut : CalleeM P w K mg base CX0 "House" "cut" 1 (spHsM K fun S => .int S.cu)) : Callee P w K mg base CX0 "cut_long" 2 [] (spCut K) := by
  refine ⟨f, fd, _, [], F.ok sc_cut_long (fun vs H Q E h => ?hl) (fun cdv A outer s H vs Q E hr h => ⟨_, PSs.nox (pss_cons (ps_set (i := 2) sc_cut_long.nd rfl (by first | exact Or.inl rfl | exact Or.inr rfl) (pe_lst pa_nil))
      (pss_cons (ps_set (i := 3) sc_cut_long.nd rfl (by first | exact Or.inl rfl | exact Or.inr rfl) (pv 1))
      (pss_cons (ps_while PassesOwn.never (pt_cmpR op_gt (pe_callB (call_lenK K) (by rfl) f_len PySem.boot_len (pa_cons (pv 3) pa_nil)) (pe_mt0 c_House_most hr (pv 0) pass0) (nomark _)) (pss_cons (ps_expr (pe_bmK K PySem.F.plainAttrs_list PySem.F.slot_list_append PySem.F.type_list_append mt_append (pv 2) (pa_cons (pe_slice (sl_k K) (pv 3) po_none (po_some (pe_mt0 c_House_cut hr (pv 0) pass0))) pa_nil)))
      (pss_one (ps_set (i := 3) sc_cut_long.nd rfl (by first | exact Or.inl rfl | exact Or.inr rfl) (pe_slice (sl_k K) (pv 3) (po_some (pe_mt0 c_House_cut hr (pv 0) pass0)) po_none)))))
      (pss_one (ps_ret (pe_op (op_addK K) (pv 2) (pe_lst (pa_cons (pv 3) pa_nil)))))))), ?rd⟩), hm, F.kp, F.bindsN fun _ _ _ _ _ _ us hl => match us, hl with | [_, _], _ => rfl, .nil⟩
  case hl =>
    obtain ⟨a, S, u, rfl, _⟩ := h
    rfl
  case rd =>
    obtain ⟨a, S, u, rfl, hs, ok, lu, q⟩ := h
    refine k_start (σ' := [some _, some _, none, none]) rfl ?_
    have m1 := ok.m1
    have k1 := ok.k1
    have km := ok.km
    walk_at "g"
    refine k_nLst (by walk_at "sz") (fun p1 H1 n1 s1 e1 => ?_)
    walk_at "g"
    refine k_while (fun m σ H' => ∃ (v : List Nat) (acc : List (List Nat)), σ = [some (.ref a), some (.str (tx u)), some (.ref p1), some (.str (tx v))] ∧ Same H H' ∧ H' p1 = some (.lst (tS acc)) ∧ acc ++ cutW S v = cutW S u ∧ m = v.length ∧ acc.length + v.length ≤ u.length) ⟨_, u, [], rfl, s1, e1, rfl, rfl, by simp⟩ (fun m σ H' h => ?hw)
    obtain ⟨v, acc, rfl, sa, ea, hcut, rfl, hl⟩ := h
    have lv := len_tx v
    walk_at "g"
    refine k_len_s (by omega) ?_
    walk_at "g"
    rw [lv]
    refine k_turnD (fun d => k_turnT ?_) (fun d => k_turnF ?_)
    · walk_at "g"
      refine k_sl_s (by omega) ?_
      rw [cutS_to _ _ (by omega)]
      walk_at "g"
      refine k_append ea (by rw [len_tS]; omega) ?_
      have sb : Same H (upd H' p1 (.lst (tS acc ++ [V.str (tx (v.take S.cu.toNat))]))) := sm_mut sa n1
      have eb : (upd H' p1 (.lst (tS acc ++ [V.str (tx (v.take S.cu.toNat))]))) p1 = some (.lst (tS acc ++ [V.str (tx (v.take S.cu.toNat))])) := upd_same
      generalize upd H' p1 (.lst (tS acc ++ [V.str (tx (v.take S.cu.toNat))])) = Hb at sb eb ⊢
      walk_at "g"
      refine k_sl_s (by omega) ?_
      rw [cutS_from _ _ (by omega)]
      walk_at "g"
      have ld : (v.drop S.cu.toNat).length = v.length - S.cu.toNat := List.length_drop
      refine ⟨_, ?_, v.drop S.cu.toNat, acc ++ [v.take S.cu.toNat], rfl, sb, by rw [eb, tS_app]; rfl, by rw [← hcut, cutW_more (u := v) ok (by omega), List.append_assoc]; rfl, rfl, by rw [List.length_append, ld]; show acc.length + 1 + _ ≤ _; omega⟩
      omega
    · walk_at "g"
      refine k_nLst (by walk_at "sz") (fun p2 H2 n2 s2 e2 => ?_)
      refine k_add_l (s2 _ _ ea) e2 (by rw [len_tS]; show _ + 1 ≤ _; omega) (fun p3 H3 n3 s3 e3 => ?_)
      refine q p3 H3 ((sa.trans s2).free n3) ((sa.trans s2).trans s3) ?_
      rw [e3, ← hcut, cutW_last (by omega), tS_app]
      rfl
/-! ### what comes of a bite -/
def growF (S : HsD) (right : Bool) (er en : List Nat) : List Nat := if right = true then (S.pt ++ er) ++ en.drop S.ch.toNat else (en.take (en.length - S.ch.toNat) ++ er) ++ S.pt
theorem growF_len (S : HsD) (right : Bool) (er en : List Nat) : (growF S right er en).length = S.pt.length + er.length + (en.length - S.ch.toNat) := by
  unfold growF
  split
  · rw [List.length_append, List.length_append, List.length_drop]
  · rw [List.length_append, List.length_append, List.length_take]
    omega
theorem growF_in {S : HsD} (ok : HsOk S) {right : Bool} {er en : List Nat} (h1 : ∀ c ∈ er, c ∈ S.ls) (h2 : ∀ c ∈ en, c ∈ S.ls) : ∀ c ∈ growF S right er en, c ∈ S.ls := fun c hc => by
  unfold growF at hc
  split at hc
  · rcases List.mem_append.mp hc with hc | hc
    · exact (List.mem_append.mp hc).elim (ok.pl c) (h1 c)
    · exact h2 c (List.mem_of_mem_drop hc)
  · rcases List.mem_append.mp hc with hc | hc
    · exact (List.mem_append.mp hc).elim (fun h => h2 c (List.mem_of_mem_take h)) (h1 c)
    · exact ok.pl c hc
def sdS (right : Bool) : Str := if right = true then Str.ofString "right" else Str.ofString "left"
theorem sdS_right (b : Bool) : decide (sdS b = Str.ofString "right") = b := by cases b <;> decide +kernel
theorem sdS_left (b : Bool) : decide (sdS b = Str.ofString "left") = !b := by cases b <;> decide +kernel
def spGrown (K : PySem.W.Frag) : Sp := fun vs H Q _ => ∃ (a : Addr) (S : HsD) (er en : List Nat) (b : Bool), vs = [.ref a, .str (tx er), .str (tx en), .str (sdS b)] ∧ HsAt K H a S ∧ HsOk S ∧ er.length ≤ 1000 ∧ en.length ≤ 1000 ∧ Q (.str (tx (growF S b er en))) H
theorem ok_grown (F : FnP K "grown" s_grown f fd) (hm : mg "grown" = some (.ref f)) (f_len : mg "len" = none) (f_max : mg "max" = none) (c_House_put : CalleeM P w K mg base CX0 "House" "put" 1 (spHsM K fun S => .str (tx S.pt))) (c_House_chew : CalleeM P w K mg base CX0 "House" "chew" 1 (spHsM K fun S => .int S.ch)) : Callee P w K mg base CX0 "grown" 2 [] (spGrown K) := by
  refine ⟨f, fd, _, [], F.ok sc_grown (fun vs H Q E h => ?hl) (fun cdv A outer s H vs Q E hr h => ⟨_, PSs.nox (pss_cons (ps_if (pt_cmpR (op_eqK K hr.units) (pv 3) pe_str (nomark _)) (pss_one (ps_ret (pe_op (op_addK K) (pe_op (op_addK K) (pe_mt0 c_House_put hr (pv 0) pass0) (pv 1)) (pe_slice (sl_k K) (pv 2) (po_some (pe_mt0 c_House_chew hr (pv 0) pass0)) po_none)))) pss_nil)
      (pss_one (ps_ret (pe_op (op_addK K) (pe_op (op_addK K) (pe_slice (sl_k K) (pv 2) po_none (po_some (pe_callB call_maxK (by rfl) f_max (by decide +kernel) (pa_cons pe_int (pa_cons (pe_op op_sub (pe_callB (call_lenK K) (by rfl) f_len PySem.boot_len (pa_cons (pv 2) pa_nil)) (pe_mt0 c_House_chew hr (pv 0) pass0)) pa_nil))))) (pv 1)) (pe_mt0 c_House_put hr (pv 0) pass0))))), ?rd⟩), hm, F.kp, F.bindsN fun _ _ _ _ _ _ us hl => match us, hl with | [_, _, _, _], _ => rfl, .nil⟩
  case hl =>
    obtain ⟨a, S, er, en, b, rfl, _⟩ := h
    rfl
  case rd =>
    obtain ⟨a, S, er, en, b, rfl, hs, ok, l1, l2, q⟩ := h
    refine k_start (σ' := [some _, some _, some _, some _]) rfl ?_
    have c0 := ok.c0
    have p2 := ok.p2
    have lp := len_tx S.pt
    have lr := len_tx er
    have ln := len_tx en
    walk_at "g"
    rw [sdS_right]
    unfold growF at q
    cases b with
    | true =>
      rw [if_pos rfl] at q
      walk_at "g"
      refine k_add_s (by omega) ?_
      rw [tx_app]
      walk_at "g"
      refine k_sl_s (by omega) ?_
      rw [cutS_from _ _ c0]
      refine k_add_s (by rw [len_tx, len_tx, List.length_append, List.length_drop]; omega) ?_
      rw [tx_app]
      exact q
    | false =>
      rw [if_neg (by decide)] at q
      walk_at "g"
      refine k_len_s (by omega) ?_
      rw [ln]
      walk_at "g"
      refine k_sl_s (by omega) ?_
      rw [cutS_to _ _ (by omega), show (max (0 : Int) ((en.length : Int) - S.ch)).toNat = en.length - S.ch.toNat by omega]
      walk_at "g"
      refine k_add_s (by rw [len_tx, len_tx, List.length_take]; omega) ?_
      rw [tx_app]
      walk_at "g"
      refine k_add_s (by rw [len_tx, len_tx, List.length_append, List.length_take]; omega) ?_
      rw [tx_app]
      exact q
/-! ### the row behind a bite -/
def eatsF (S : HsD) (b : Bool) (er en : List Nat) : Bool := S.tr.any fun k => decide (k = kEat b (tasteF S er) (tasteF S en))
/-- what stands in the place of two words -/
def madeF (S : HsD) (b : Bool) (x y : List Nat) : List (List Nat) := cutW S (growF S b (if b = true then x else y) (if b = true then y else x))
/-- the bite of the two words from low on; b: the left one eats the right one -/
def biteF (S : HsD) (us : List (List Nat)) (low : Nat) (b : Bool) : Option (List (List Nat)) := match us[low]?, us[low + 1]? with
  | some x, some y => if eatsF S b (if b = true then x else y) (if b = true then y else x) = true then
      (if us.take low ++ madeF S b x y ++ us.drop (low + 2) = us then none else some (us.take low ++ madeF S b x y ++ us.drop (low + 2))) else none
  | _, _ => none
def behF (S : HsD) (us : List (List Nat)) (place : Int) (b : Bool) : Option (List (List Nat)) := if 0 ≤ (if b = true then place else place - 1) then biteF S us (if b = true then place else place - 1).toNat b else none
/-- a side by its word -/
def behS (S : HsD) (us : List (List Nat)) (place : Int) (z : Str) : Option (List (List Nat)) := if z = Str.ofString "left" then behF S us place false else if z = Str.ofString "right" then behF S us place true else none
theorem behS_sd (S : HsD) (us : List (List Nat)) (place : Int) (b : Bool) : behS S us place (sdS b) = behF S us place b := by
  unfold behS
  cases b with
  | false => exact if_pos rfl
  | true => rw [if_neg (by decide +kernel)]; exact if_pos rfl
/-- a row, or None -/
def IsOpt (H H' : Hp) (v : V) : Option (List (List Nat)) → Prop
  | none => v = .non
  | some m => ∃ p, v = .ref p ∧ H p = none ∧ H' p = some (.lst (tS m))
theorem any_perm {α : Type} {l m : List α} {g : α → Bool} (h : ∀ x, x ∈ l ↔ x ∈ m) : l.any g = m.any g := by
  rw [Bool.eq_iff_iff, List.any_eq_true, List.any_eq_true]
  exact ⟨fun ⟨x, a, b⟩ => ⟨x, (h x).mp a, b⟩, fun ⟨x, a, b⟩ => ⟨x, (h x).mpr a, b⟩⟩
theorem good_row {us : List (List Nat)} (hp : ∀ u ∈ us, Pl (tx u) ∧ u.length ≤ 100000) (hl : us.length ≤ 50000) (j : Nat) : Good (j + 2) (.list (us.map fun u => PyData.str (tx u))) := ⟨by rw [List.length_map]; exact hl, fun e he => by
  obtain ⟨u, hu, rfl⟩ := List.mem_map.mp he
  exact ⟨(hp u hu).1, by rw [len_tx]; exact (hp u hu).2⟩⟩
theorem pl_in {S : HsD} (ok : HsOk S) {u : List Nat} (h : ∀ c ∈ u, c ∈ S.ls) : Pl (tx u) := fun c hc => by
  have := ok.rise.2 c (h c hc)
  unfold small at this
  omega
theorem eqv_rows (us vs : List (List Nat)) : PyData.eqv (.list (us.map fun u => PyData.str (tx u))) (.list (vs.map fun u => PyData.str (tx u))) = decide (us = vs) := by
  have h := eqv_strs (us.map tx) (vs.map tx)
  unfold dStrs at h
  rw [List.map_map, List.map_map] at h
  rw [show (fun u => PyData.str (tx u)) = PyData.str ∘ tx from rfl, h]
  by_cases e : us = vs
  · rw [e, decide_eq_true rfl, decide_eq_true rfl]
  · rw [decide_eq_false e, decide_eq_false fun z => e (List.map_inj_right (fun a b => tx_inj) |>.mp z)]
theorem deep_tr {S : HsD} (ok : HsOk S) {L : List RwM} (hL : ∀ k, k ∈ L.map (·.2) ↔ k ∈ S.tr) (nd : (L.map (·.2)).Nodup) : SeqAt.shaped (.tuple ((L.map (·.2)).map dKeys)) = true := by
  have e7 := ok.e7
  have ll : (L.map (·.2)).length ≤ S.tr.length := len_le_of_nodup nd fun k hk => (hL k).mp hk
  refine Good.shaped (j := 3) ⟨by rw [List.length_map]; omega, fun e he => ?_⟩ (by decide)
  obtain ⟨k, hk, rfl⟩ := List.mem_map.mp he
  obtain ⟨s, a, b, rfl, h1, h2, h3, h4⟩ := ok.ev k ((hL k).mp hk)
  have t4 := ok.t4
  have g : ∀ x : Int, 0 ≤ x → x < S.tb.length → x.natAbs.log2 < 1920 := fun x h0 h1 => by
    have := log_nat (k := x.toNat) (by omega)
    rwa [Int.toNat_of_nonneg h0] at this
  refine ⟨by show 3 ≤ 50000; decide, fun e he => ?_⟩
  rcases List.mem_cons.mp he with rfl | he
  · refine ⟨?_, ?_⟩ <;> cases s <;> first | exact pl_B (by decide +kernel) | decide +kernel
  rcases List.mem_cons.mp he with rfl | he
  · exact g a h1 h2
  rcases List.mem_cons.mp he with rfl | he
  · exact g b h3 h4
  cases he
theorem shaped_eat (b : Bool) {x y : Int} (h0 : 0 ≤ x) (h1 : x ≤ 100) (h2 : 0 ≤ y) (h3 : y ≤ 100) : SeqAt.shaped (dKeys (kEat b x y)) = true := by
  have g : ∀ x : Int, 0 ≤ x → x ≤ 100 → x.natAbs.log2 < 1920 := fun x h0 h1 => by
    have := log_nat (k := x.toNat) (by omega)
    rwa [Int.toNat_of_nonneg h0] at this
  refine Good.shaped (j := 2) ⟨by show 3 ≤ 50000; decide, fun e he => ?_⟩ (by decide)
  rcases List.mem_cons.mp he with rfl | he
  · refine ⟨?_, ?_⟩ <;> cases b <;> first | exact pl_B (by decide +kernel) | decide +kernel
  rcases List.mem_cons.mp he with rfl | he
  · exact g x h0 h1
  rcases List.mem_cons.mp he with rfl | he
  · exact g y h2 h3
  cases he
def spBehind (K : PySem.W.Frag) : Sp := fun vs H Q _ => ∃ (a r : Addr) (S : HsD) (us : List (List Nat)) (place : Int) (z : Str), vs = [.ref a, .ref r, .int place, .str z] ∧ HsAt K H a S ∧ HsOk S ∧ SqL K H r (tS us) ∧ AllW S us ∧ us.length ≤ 10000 ∧ ∀ v H', Same H H' → IsOpt H H' v (behS S us place z) → Q v H'
theorem tasteF_in {S : HsD} (ok : HsOk S) {u : List Nat} (h : ∀ c ∈ u, c ∈ S.ls) : 0 ≤ tasteF S u ∧ tasteF S u ≤ 100 := by
  have t1 := ok.t1
  have t4 := ok.t4
  obtain ⟨a, b⟩ := taste_in ok u 0 (Int.le_refl _) (by omega) h
  have b' : tasteF S u < S.tb.length := b
  exact ⟨a, by omega⟩
theorem dp_trs {H : Hp} : ∀ {L : List RwM}, (∀ q ∈ L, SqT K H q.1 (q.2.map kV)) → DpAll K H (L.map fun q => V.ref q.1) ((L.map (·.2)).map dKeys)
  | [], _ => .nil
  | q :: L, h => .cons (dp_keys (h q (List.mem_cons_self ..))) (dp_trs fun p hp => h p (List.mem_cons_of_mem _ hp))
theorem made_in {S : HsD} (ok : HsOk S) {us ms : List (List Nat)} {low : Nat} (hw : AllW S us) (hl : low + 1 < us.length) (hm : ∀ v ∈ ms, v ∈ wordsF S.ls S.mo.toNat) : AllW S (us.take low ++ ms ++ us.drop (low + 2)) := fun u hu => by
  rcases List.mem_append.mp hu with hu | hu
  · rcases List.mem_append.mp hu with hu | hu
    · exact hw u (List.mem_of_mem_take hu)
    · exact hm u hu
  · exact hw u (List.mem_of_mem_drop hu)
theorem good_allW {S : HsD} (ok : HsOk S) {us : List (List Nat)} (h : AllW S us) (hl : us.length ≤ 50000) (j : Nat) : Good (j + 2) (.list (us.map fun u => PyData.str (tx u))) := good_row (fun u hu => ⟨pl_in ok ((h.len ok) u hu).2.2, by have := ((h.len ok) u hu).2.1; omega⟩) hl j
/-- two rows, alike or not -/
theorem row_eq {S : HsD} {H : Hp} {Q : VK} {p r : Addr} {us vs : List (List Nat)} (ok : HsOk S) (hw : AllW S us) (lu : us.length ≤ 20000) (hv : AllW S vs) (lv : vs.length ≤ 20000) (h1 : SqL K H p (tS vs)) (h2 : SqL K H r (tS us)) (h : Q (.bl (decide (vs = us))) H) : rEqU K (.ref p) (.ref r) H Q := by
  refine k_eq_d (.lst h1 (dp_tS vs)) (.lst h2 (dp_tS us)) ((good_allW ok hv (by omega) 0).shaped (by decide)) ((good_allW ok hw (by omega) 0).shaped (by decide)) ?_
  rw [eqv_rows]
  exact h
theorem inV_sides (z : Str) : inV (V.str z) [V.str (Str.ofString "left"), V.str (Str.ofString "right")] = (decide (z = Str.ofString "left") || decide (z = Str.ofString "right")) := by
  show ((Str.ofString "left" == z) || ((Str.ofString "right" == z) || false)) = _
  rw [Bool.or_false]
  congr 1 <;> (rw [Bool.eq_iff_iff, beq_iff_eq, decide_eq_true_eq]; exact eq_comm)
theorem side_of (z : Str) : (∃ b, z = sdS b) ∨ (z ≠ Str.ofString "left" ∧ z ≠ Str.ofString "right") := by
  by_cases h1 : z = Str.ofString "left"
  · exact .inl ⟨false, h1⟩
  by_cases h2 : z = Str.ofString "right"
  · exact .inl ⟨true, h2⟩
  · exact .inr ⟨h1, h2⟩
theorem behS_no {S : HsD} {us : List (List Nat)} {place : Int} {z : Str} (h : z ≠ Str.ofString "left" ∧ z ≠ Str.ofString "right") : behS S us place z = none := by
  unfold behS
  rw [if_neg h.1, if_neg h.2]
theorem biteF_some {S : HsD} {us : List (List Nat)} {low : Nat} {b : Bool} {x y : List Nat} (h1 : us[low]? = some x) (h2 : us[low + 1]? = some y) : biteF S us low b = if eatsF S b (if b = true then x else y) (if b = true then y else x) = true then
      (if us.take low ++ madeF S b x y ++ us.drop (low + 2) = us then none else some (us.take low ++ madeF S b x y ++ us.drop (low + 2))) else none := by
  unfold biteF
  rw [h1, h2]
theorem biteF_out {S : HsD} {us : List (List Nat)} {low : Nat} {b : Bool} (h : us.length ≤ low + 1) : biteF S us low b = none := by
  unfold biteF
  rw [List.getElem?_eq_none h]
  cases us[low]? <;> rfl
theorem ok_behind (F : FnP K "behind" s_behind f fd) (hm : mg "behind" = some (.ref f)) (hC : HsC K) (f_len : mg "len" = none) (f_min : mg "min" = none) (c_House_tasted : CalleeM P w K mg base CX0 "House" "tasted" 1 (spTasted K)) (c_cut_long : Callee P w K mg base CX0 "cut_long" 2 [] (spCut K)) (c_grown : Callee P w K mg base CX0 "grown" 2 [] (spGrown K)) : Callee P w K mg base CX0 "behind" 3 [] (spBehind K) := by
  refine ⟨f, fd, _, [], F.ok sc_behind (fun vs H Q E h => ?hl) (fun cdv A outer s H vs Q E hr h => ⟨_, PSs.nox (pss_cons (ps_set (i := 4) sc_behind.nd rfl (by first | exact Or.inl rfl | exact Or.inr rfl) (pe_ifExp (pt_cmpR (op_eqK K hr.units) (pv 3) pe_str (nomark _)) (pe_op op_sub (pv 2) pe_int) (pe_op (op_addK K) (pv 2) pe_int)))
      (pss_cons (ps_if (PW.pt (pw_or (pt_cmpR (op_niK K) (pv 3) (pe_tup (pa_cons pe_str (pa_cons pe_str pa_nil))) (by rfl)) (pw_or (pt_not (pt_chain op_leU op_lt pe_int (pv 2) (pe_callB (call_lenK K) (by rfl) f_len PySem.boot_len (pa_cons (pv 1) pa_nil)))) (pw_or1 (pt_not (pt_chain op_leU op_lt pe_int (pv 4) (pe_callB (call_lenK K) (by rfl) f_len PySem.boot_len (pa_cons (pv 1) pa_nil)))))))) (pss_one (ps_ret pe_non)) pss_nil)
      (pss_cons (ps_par (by rfl) sc_behind.nd (i := 5) (j := 6) rfl rfl (by decide) rfl rfl (pa_cons (pe_ix (ix_k K) (pv 1) (pv 2) (fun _ _ => rfl)) (pa_cons (pe_ix (ix_k K) (pv 1) (pv 4) (fun _ _ => rfl)) pa_nil)) (by rfl))
      (pss_cons (ps_if (pt_cmpR (op_niTD K (u65 hr)) (pe_tup (pa_cons (pv 3) (pa_cons (pe_mt1 c_House_tasted hr (pv 0) (pa_cons (pv 5) pa_nil) pass0) (pa_cons (pe_mt1 c_House_tasted hr (pv 0) (pa_cons (pv 6) pa_nil) pass0) pa_nil)))) (pe_fldK K (pv 0) rfl) (by rfl)) (pss_one (ps_ret pe_non)) pss_nil)
      (pss_cons (ps_set (i := 7) sc_behind.nd rfl (by first | exact Or.inl rfl | exact Or.inr rfl) (pe_callB call_minK (by rfl) f_min (by decide +kernel) (pa_cons (pv 2) (pa_cons (pv 4) pa_nil))))
      (pss_cons (ps_set (i := 8) sc_behind.nd rfl (by first | exact Or.inl rfl | exact Or.inr rfl) (pe_op (op_addK K) (pe_op (op_addK K) (pe_slice (sl_k K) (pv 1) po_none (po_some (pv 7))) (pe_cl c_cut_long hr (pa_cons (pv 0) (pa_cons (pe_cl c_grown hr (pa_cons (pv 0) (pa_cons (pv 5) (pa_cons (pv 6) (pa_cons (pv 3) pa_nil)))) pass0) pa_nil)) pass0)) (pe_slice (sl_k K) (pv 1) (po_some (pe_op (op_addK K) (pv 7) pe_int)) po_none)))
      (pss_one (ps_ret (pe_ifExp (pt_cmpR (op_eqK K hr.units) (pv 8) (pv 1) (nomark _)) pe_non (pv 8)))))))))), ?rd⟩), hm, F.kp, F.bindsN fun _ _ _ _ _ _ us hl => match us, hl with | [_, _, _, _], _ => rfl, .nil⟩
  case hl =>
    obtain ⟨a, r, S, us, place, z, rfl, _⟩ := h
    rfl
  case rd =>
    obtain ⟨a, r, S, us, place, z, rfl, hs, ok, hx, hw, lu, q⟩ := h
    refine k_start (σ' := [some _, some _, some _, some _, none, none, none, none, none]) rfl ?_
    have lx := len_tS us
    have no : ∀ H', Same H H' → behS S us place z = none → Q .non H' := fun H' s e => q .non H' s (by rw [e]; exact rfl)
    rcases side_of z with ⟨sd, rfl⟩ | hz
    · rw [behS_sd] at no
      simp only [behS_sd] at q
      walk_at "g"
      rw [sdS_left]
      refine (show nIte (!sd) _ _ from ?_)
      cases sd with
      | false =>
        walk_at "g"
        refine k_nTup (by walk_at "sz") (fun p2 H2 n2 s2 e2 => ?_)
        walk_at "g"
        refine k_niT (sq_t e2) rfl rfl (b := false) (by rw [inV_sides]; decide +kernel) ?_
        walk_at "g"
        have out : ¬ (1 ≤ place ∧ place < us.length) → behF S us place false = none := fun h => by
          unfold behF
          by_cases h0 : (0 : Int) ≤ place - 1
          · rw [if_pos (by exact h0)]
            exact biteF_out (by show us.length ≤ (place - 1).toNat + 1; omega)
          · rw [if_neg (by exact h0)]
        refine k_dec (fun d1 => ?_) (fun d1 => ?_)
        rotate_left
        · walk_at "g"
          exact no _ s2 (out (by omega))
        walk_at "g"
        rw [lx]
        refine k_dec (fun d2 => ?_) (fun d2 => ?_)
        rotate_left
        · walk_at "g"
          exact no _ s2 (out (by omega))
        walk_at "g"
        refine k_dec (fun d3 => ?_) (fun d3 => ?_)
        rotate_left
        · walk_at "g"
          exact no _ s2 (out (by omega))
        walk_at "g"
        rw [lx]
        walk_at "w"
        obtain ⟨low, hlow⟩ : ∃ low : Nat, place - 1 = (low : Int) := ⟨(place - 1).toNat, by omega⟩
        have hp : place = ((low + 1 : Nat) : Int) := by omega
        have g1 : us[low]? = some us[low] := List.getElem?_eq_getElem (by omega)
        have g2 : us[low + 1]? = some us[low + 1] := List.getElem?_eq_getElem (by omega)
        have b1 := (hw.len ok) _ (List.getElem_mem (show low < us.length by omega))
        have b2 := (hw.len ok) _ (List.getElem_mem (show low + 1 < us.length by omega))
        generalize us[low] = x at g1 b1
        generalize us[low + 1] = y at g2 b2
        have eF : behF S us place false = if eatsF S false y x = true then (if us.take low ++ madeF S false x y ++ us.drop (low + 2) = us then none else some (us.take low ++ madeF S false x y ++ us.drop (low + 2))) else none := by
          unfold behF
          rw [show (if false = true then place else place - 1) = place - 1 from rfl, if_pos (by omega), show (place - 1).toNat = low by omega, biteF_some g1 g2]
          rfl
        refine k_ix_l (sm_l s2 hx) (at_n hp (getS g2)) ?_
        walk_at "g"
        refine k_ix_l (sm_l s2 hx) (at_n hlow (getS g1)) ?_
        walk_at "g"
        have hs2 := hs.sm s2
        obtain ⟨dx, r0, t0, R, L, h1, h2, h3, h4, h5, h6, h7, h8, h9⟩ := id hs2
        walk_at "g"
        refine ⟨a, S, y, rfl, hs2, ok, b2.2.2, ?_⟩
        walk_at "g"
        refine ⟨a, S, x, rfl, hs2, ok, b1.2.2, ?_⟩
        walk_at "g"
        refine k_nTup (by walk_at "sz") (fun p3 H3 n3 s3 e3 => ?_)
        have h13 := s3 _ _ h1
        walk_at "g"
        refine k_nFld h13 hC.c hC.n3 rfl ?_
        have tp := tasteF_in ok (u := y) b2.2.2
        have tq := tasteF_in ok (u := x) b1.2.2
        refine ⟨_, _, dp_keys (k := kEat false (tasteF S y) (tasteF S x)) (sq_t e3), .tup (sm_t s3 h5) (dp_trs fun q hq => sm_t s3 (h6 q hq)), shaped_eat false tp.1 tp.2 tq.1 tq.2, deep_tr ok h8 h7, ?_⟩
        rw [any_keys, any_perm h8]
        have hr3 : ∀ (Hx : Hp), Same H3 Hx → SqL K Hx r (tS us) := fun Hx s => sm_l s (sm_l s3 (sm_l s2 hx))
        cases he : eatsF S false y x with
        | false =>
          unfold eatsF at he
          rw [he]
          walk_at "g"
          refine no _ (s2.trans s3) ?_
          rw [eF]
          unfold eatsF
          rw [he]
          rfl
        | true =>
          rw [he, if_pos rfl] at eF
          unfold eatsF at he
          rw [he]
          walk_at "g"
          rw [show min place (place - 1) = (low : Int) by omega]
          walk_at "g"
          refine k_sl_l (hr3 _ (Same.refl _)) (fun p4 H4 n4 s4 e4 => ?_)
          rw [cutV_to, tS_take] at e4
          walk_at "g"
          refine ⟨a, S, y, x, false, rfl, hs2.sm (s3.trans s4), ok, by omega, by omega, ?_⟩
          walk_at "g"
          have lg := growF_len S false y x
          have p2 := ok.p2
          refine ⟨a, S, growF S false y x, rfl, hs2.sm (s3.trans s4), ok, by omega, fun p5 H5 n5 s5 e5 => ?_⟩
          have cw := cutW_words ok _ (growF S false y x) (Nat.le_refl _) (by omega) (growF_in ok b2.2.2 b1.2.2)
          refine k_add_l (s5 _ _ e4) e5 (by rw [len_tS, len_tS, List.length_take]; omega) (fun p6 H6 n6 s6 e6 => ?_)
          walk_at "g"
          refine k_sl_l (hr3 _ (s4.trans (s5.trans s6))) (fun p7 H7 n7 s7 e7 => ?_)
          rw [cutV_fromI _ _ (by omega), show ((low : Int) + 2).toNat = low + 2 by omega, tS_drop] at e7
          refine k_add_l (s7 _ _ e6) e7 (by rw [List.length_append, len_tS, len_tS, len_tS, List.length_take, List.length_drop]; omega) (fun p8 H8 n8 s8 e8 => ?_)
          rw [← tS_app, ← tS_app, show cutW S (growF S false y x) = madeF S false x y from rfl] at e8
          have s38 := s4.trans (s5.trans (s6.trans (s7.trans s8)))
          have sH8 : Same H H8 := (s2.trans s3).trans s38
          have n8' : H p8 = none := (s2.trans (s3.trans (s4.trans (s5.trans (s6.trans s7))))).free n8
          walk_at "g"
          refine row_eq ok hw (by omega) (made_in ok hw (by omega) (fun v hv => (cutW_words ok _ (growF S false y x) (Nat.le_refl _) (by omega) (growF_in ok b2.2.2 b1.2.2)).1 v hv)) (by rw [List.length_append, List.length_append, List.length_take, List.length_drop]; have := cw.2; show _ + (cutW S (growF S false y x)).length + _ ≤ 20000; omega) (sq_l e8) (hr3 _ s38) ?_
          walk_at "g"
          refine k_dec (fun d => ?_) (fun d => ?_)
          · rw [if_pos (show us.take low ++ madeF S false x y ++ us.drop (low + 2) = us from d)] at eF
            walk_at "g"
            exact no _ sH8 eF
          · rw [if_neg (show ¬ us.take low ++ madeF S false x y ++ us.drop (low + 2) = us from d)] at eF
            walk_at "g"
            exact q _ _ sH8 (by rw [eF]; exact ⟨p8, rfl, n8', e8⟩)
      | true =>
        walk_at "g"
        refine k_nTup (by walk_at "sz") (fun p2 H2 n2 s2 e2 => ?_)
        walk_at "g"
        refine k_niT (sq_t e2) rfl rfl (b := false) (by rw [inV_sides]; decide +kernel) ?_
        walk_at "g"
        have out : ¬ (0 ≤ place ∧ place + 1 < us.length) → behF S us place true = none := fun h => by
          unfold behF
          by_cases h0 : (0 : Int) ≤ place
          · rw [if_pos (by exact h0)]
            exact biteF_out (by show us.length ≤ place.toNat + 1; omega)
          · rw [if_neg (by exact h0)]
        refine k_dec (fun d1 => ?_) (fun d1 => ?_)
        rotate_left
        · walk_at "g"
          exact no _ s2 (out (by omega))
        walk_at "g"
        rw [lx]
        refine k_dec (fun d2 => ?_) (fun d2 => ?_)
        rotate_left
        · walk_at "g"
          exact no _ s2 (out (by omega))
        walk_at "g"
        walk_at "w"
        rw [lx]
        refine k_dec (fun d3 => ?_) (fun d3 => ?_)
        rotate_left
        · walk_at "g"
          exact no _ s2 (out (by omega))
        walk_at "g"
        obtain ⟨low, hlow⟩ : ∃ low : Nat, place = (low : Int) := ⟨place.toNat, by omega⟩
        have hp : place + 1 = ((low + 1 : Nat) : Int) := by omega
        have g1 : us[low]? = some us[low] := List.getElem?_eq_getElem (by omega)
        have g2 : us[low + 1]? = some us[low + 1] := List.getElem?_eq_getElem (by omega)
        have b1 := (hw.len ok) _ (List.getElem_mem (show low < us.length by omega))
        have b2 := (hw.len ok) _ (List.getElem_mem (show low + 1 < us.length by omega))
        generalize us[low] = x at g1 b1
        generalize us[low + 1] = y at g2 b2
        have eF : behF S us place true = if eatsF S true x y = true then (if us.take low ++ madeF S true x y ++ us.drop (low + 2) = us then none else some (us.take low ++ madeF S true x y ++ us.drop (low + 2))) else none := by
          unfold behF
          rw [show (if true = true then place else place - 1) = place from rfl, if_pos (by omega), show place.toNat = low by omega, biteF_some g1 g2]
          rfl
        refine k_ix_l (sm_l s2 hx) (at_n hlow (getS g1)) ?_
        walk_at "g"
        refine k_ix_l (sm_l s2 hx) (at_n hp (getS g2)) ?_
        walk_at "g"
        have hs2 := hs.sm s2
        obtain ⟨dx, r0, t0, R, L, h1, h2, h3, h4, h5, h6, h7, h8, h9⟩ := id hs2
        walk_at "g"
        refine ⟨a, S, x, rfl, hs2, ok, b1.2.2, ?_⟩
        walk_at "g"
        refine ⟨a, S, y, rfl, hs2, ok, b2.2.2, ?_⟩
        walk_at "g"
        refine k_nTup (by walk_at "sz") (fun p3 H3 n3 s3 e3 => ?_)
        have h13 := s3 _ _ h1
        walk_at "g"
        refine k_nFld h13 hC.c hC.n3 rfl ?_
        have tp := tasteF_in ok (u := y) b2.2.2
        have tq := tasteF_in ok (u := x) b1.2.2
        refine ⟨_, _, dp_keys (k := kEat true (tasteF S x) (tasteF S y)) (sq_t e3), .tup (sm_t s3 h5) (dp_trs fun q hq => sm_t s3 (h6 q hq)), shaped_eat true tq.1 tq.2 tp.1 tp.2, deep_tr ok h8 h7, ?_⟩
        rw [any_keys, any_perm h8]
        have hr3 : ∀ (Hx : Hp), Same H3 Hx → SqL K Hx r (tS us) := fun Hx s => sm_l s (sm_l s3 (sm_l s2 hx))
        cases he : eatsF S true x y with
        | false =>
          unfold eatsF at he
          rw [he]
          walk_at "g"
          refine no _ (s2.trans s3) ?_
          rw [eF]
          unfold eatsF
          rw [he]
          rfl
        | true =>
          rw [he, if_pos rfl] at eF
          unfold eatsF at he
          rw [he]
          walk_at "g"
          rw [show min place (place + 1) = (low : Int) by omega]
          walk_at "g"
          refine k_sl_l (hr3 _ (Same.refl _)) (fun p4 H4 n4 s4 e4 => ?_)
          rw [cutV_to, tS_take] at e4
          walk_at "g"
          refine ⟨a, S, x, y, true, rfl, hs2.sm (s3.trans s4), ok, by omega, by omega, ?_⟩
          walk_at "g"
          have lg := growF_len S true x y
          have p2 := ok.p2
          refine ⟨a, S, growF S true x y, rfl, hs2.sm (s3.trans s4), ok, by omega, fun p5 H5 n5 s5 e5 => ?_⟩
          have cw := cutW_words ok _ (growF S true x y) (Nat.le_refl _) (by omega) (growF_in ok b1.2.2 b2.2.2)
          refine k_add_l (s5 _ _ e4) e5 (by rw [len_tS, len_tS, List.length_take]; omega) (fun p6 H6 n6 s6 e6 => ?_)
          walk_at "g"
          refine k_sl_l (hr3 _ (s4.trans (s5.trans s6))) (fun p7 H7 n7 s7 e7 => ?_)
          rw [cutV_fromI _ _ (by omega), show ((low : Int) + 2).toNat = low + 2 by omega, tS_drop] at e7
          refine k_add_l (s7 _ _ e6) e7 (by rw [List.length_append, len_tS, len_tS, len_tS, List.length_take, List.length_drop]; omega) (fun p8 H8 n8 s8 e8 => ?_)
          rw [← tS_app, ← tS_app, show cutW S (growF S true x y) = madeF S true x y from rfl] at e8
          have s38 := s4.trans (s5.trans (s6.trans (s7.trans s8)))
          have sH8 : Same H H8 := (s2.trans s3).trans s38
          have n8' : H p8 = none := (s2.trans (s3.trans (s4.trans (s5.trans (s6.trans s7))))).free n8
          walk_at "g"
          refine row_eq ok hw (by omega) (made_in ok hw (by omega) (fun v hv => (cutW_words ok _ (growF S true x y) (Nat.le_refl _) (by omega) (growF_in ok b1.2.2 b2.2.2)).1 v hv)) (by rw [List.length_append, List.length_append, List.length_take, List.length_drop]; have := cw.2; show _ + (cutW S (growF S true x y)).length + _ ≤ 20000; omega) (sq_l e8) (hr3 _ s38) ?_
          walk_at "g"
          refine k_dec (fun d => ?_) (fun d => ?_)
          · rw [if_pos (show us.take low ++ madeF S true x y ++ us.drop (low + 2) = us from d)] at eF
            walk_at "g"
            exact no _ sH8 eF
          · rw [if_neg (show ¬ us.take low ++ madeF S true x y ++ us.drop (low + 2) = us from d)] at eF
            walk_at "g"
            exact q _ _ sH8 (by rw [eF]; exact ⟨p8, rfl, n8', e8⟩)
    · walk_at "g"
      rw [decide_eq_false hz.1]
      walk_at "g"
      refine k_nTup (by walk_at "sz") (fun p2 H2 n2 s2 e2 => ?_)
      walk_at "g"
      refine k_niT (sq_t e2) rfl rfl (b := true) (by rw [inV_sides, decide_eq_false hz.1, decide_eq_false hz.2]; rfl) ?_
      walk_at "g"
      exact no _ s2 (behS_no hz)
end
end Lw
set_option autoImplicit true
set_option pp.maxSteps 1200
set_option Elab.async false
set_option linter.all false
set_option maxRecDepth 100000
set_option maxHeartbeats 1000000
namespace Lw
open PySem PySem.Spec PyProof.Rows L2 Gk

local macro_rules | `(tactic| walk_at "hp") => `(tactic| first | assumption | exact upd_same | (refine' (upd_ne ?n).trans ?h; (case n => assumption); (case h => walk_at "hp")) | (refine' sm_get ?s ?h; (case s => assumption); (case h => walk_at "hp")))
local macro_rules | `(tactic| walk_at "sq") => `(tactic| first | assumption | (refine' sq_l ?h; (case h => walk_at "hp")) | (refine' sm_l ?s ?h; (case s => assumption); (case h => walk_at "sq")))
local macro_rules | `(tactic| walk_at "st") => `(tactic| first | assumption | (refine' sq_t ?h; (case h => walk_at "hp")) | (refine' sm_t ?s ?h; (case s => assumption); (case h => walk_at "st")))
local macro_rules | `(tactic| walk_at "bg") => `(tactic| first | assumption | (refine' BagOk.sm ?s ?h; (case s => assumption); (case h => walk_at "bg")))
local macro_rules | `(tactic| walk_at "sm") => `(tactic| first | assumption | exact Same.refl _ | (refine' Same.trans ?h ?s; (case s => assumption); (case h => walk_at "sm")))
local macro_rules | `(tactic| walk_at "hs") => `(tactic| first | assumption | (refine' HsAt.sm ?s ?h; (case s => assumption); (case h => walk_at "hs")))
local macro_rules | `(tactic| walk_at "ms") => `(tactic| first | assumption | (refine' MAt.sm ?s ?h; (case s => assumption); (case h => walk_at "ms")))
local macro_rules | `(tactic| walk_at "md") => `(tactic| first | assumption | (refine' MDk.sm ?s ?h; (case s => assumption); (case h => walk_at "md")))
local macro_rules | `(tactic| walk_at "dp") => `(tactic| first | assumption | (refine' dp_sm ?s ?h; (case s => assumption); (case h => walk_at "dp")))
local macro_rules | `(tactic| walk_at "sz") => `(tactic| first | decide | assumption | omega | (simp only [List.length_cons, List.length_nil, List.length_map, List.length_append]; omega))
local macro_rules | `(tactic| walk_at "g1") => `(tactic| first
  | with_reducible refine k_seq ?_
  | with_reducible refine k_itB ?_
  | with_reducible refine k_next ?_
  | with_reducible refine k_asg ?_
  | with_reducible refine k_name ?_
  | with_reducible refine k_ret ?_
  | with_reducible refine k_retN ?_
  | with_reducible refine k_drop ?_
  | with_reducible refine k_ifs ?_
  | with_reducible refine k_brk ?_
  | with_reducible refine k_cont ?_
  | with_reducible refine k_ipI ?_
  | with_reducible refine k_test ?_
  | with_reducible refine k_tB ?_
  | with_reducible refine k_bl ?_
  | with_reducible refine k_not ?_
  | with_reducible refine k_and ?_
  | with_reducible refine k_or ?_
  | with_reducible refine k_yes ?_
  | with_reducible refine k_true ?_
  | with_reducible refine k_false ?_
  | with_reducible refine k_nt ?_
  | with_reducible refine k_c ?_
  | with_reducible refine k_op ?_
  | with_reducible refine k_un ?_
  | with_reducible refine k_if ?_
  | with_reducible refine k_chain ?_
  | with_reducible refine k_nil ?_
  | with_reducible refine k_cons ?_
  | with_reducible refine k_cb ?_
  | with_reducible refine k_call ?_
  | with_reducible refine k_callS ?_
  | with_reducible refine k_andV ?_
  | with_reducible refine k_orV ?_
  | with_reducible refine k_notV ?_
  | with_reducible refine k_lst ?_
  | with_reducible refine k_tup ?_
  | with_reducible refine k_nopart ?_
  | with_reducible refine k_part ?_
  | with_reducible refine k_nInt ?_
  | with_reducible refine k_sl ?_
  | with_reducible refine k_bm ?_
  | with_reducible refine k_bm0 ?_
  | with_reducible refine k_nTyS ?_
  | with_reducible refine k_m1 ?_
  | with_reducible refine k_m0 ?_
  | with_reducible refine k_nStr ?_
  | with_reducible refine k_I0 ?_
  | with_reducible refine k_U ?_
  | with_reducible refine k_add_i ?_
  | with_reducible refine k_eq_i ?_
  | with_reducible refine k_eq_s ?_
  | with_reducible refine k_eq_b ?_
  | with_reducible refine k_ne_i ?_
  | with_reducible refine k_ne_s ?_
  | with_reducible refine k_ne_b ?_
  | with_reducible refine k_le_i ?_
  | with_reducible refine k_le_s ?_
  | with_reducible refine k_gnil ?_
  | with_reducible refine k_gcons ?_
  | with_reducible refine k_gsub ?_
  | with_reducible refine k_for ?_
  | with_reducible refine k_lc ?_
  | with_reducible refine k_rng1 ?_
  | with_reducible refine k_rng2 ?_
  | with_reducible refine k_itl ?_
  | with_reducible refine k_itt ?_
  | with_reducible refine k_its ?_
  | with_reducible refine k_ite ?_
  | with_reducible refine k_iteB ?_
  | with_reducible refine k_lrg2 ?_
  | with_reducible refine k_itz ?_
  | with_reducible refine k_nIts ?_
  | with_reducible refine k_inS ?_
  | with_reducible refine k_niS ?_
  | with_reducible refine k_mk ?_
  | with_reducible refine k_meth ?_
  | with_reducible refine k_fld ?_
  | with_reducible refine k_sfld ?_
  | with_reducible refine k_dg ?_
  | with_reducible refine k_dp ?_
  | with_reducible refine k_pr ?_
  | with_reducible refine k_pr0 ?_
  | with_reducible refine k_sg ?_
  | with_reducible refine k_lc2 ?_
  | with_reducible refine k_callN ?_
  | with_reducible refine k_callNS ?_
  | with_reducible refine k_par ?_
  | with_reducible refine k_nPar ?_
  | with_reducible refine k_isNn ?_
  | with_reducible refine k_isNr ?_
  | with_reducible refine k_ntNn ?_
  | with_reducible refine k_ntNr ?_
  | with_reducible refine k_min2 ?_
  | with_reducible refine k_max2 ?_
  | with_reducible refine k_intB ?_
  | with_reducible refine k_intI ?_
  | with_reducible refine k_isBl ?_
  | with_reducible refine k_ntBl ?_
  | ((with_reducible refine' k_var ?kv ?_); (case kv => exact rfl))
  | ((with_reducible refine' k_aug ?kv ?_); (case kv => exact rfl))
  | ((with_reducible refine' k_ix_l ?ks ?ki ?_); (case ks => walk_at "sq"); (case ki => exact rfl))
  | ((with_reducible refine' k_ix_t ?ks ?ki ?_); (case ks => walk_at "st"); (case ki => exact rfl))
  | ((with_reducible refine' k_len_l ?ks ?_); (case ks => walk_at "sq"))
  | ((with_reducible refine' k_len_t ?ks ?_); (case ks => walk_at "st"))
  | ((with_reducible refine' k_setL ?ks ?ki ?_); (case ks => walk_at "hp"); (case ki => exact rfl))
  | ((with_reducible refine' k_nTyL ?ks ?_); (case ks => walk_at "sq"))
  | ((with_reducible refine' k_nItl ?ks ?_); (case ks => walk_at "sq"))
  | ((with_reducible refine' k_nItt ?ks ?_); (case ks => walk_at "st"))
  | ((with_reducible refine' k_nIte ?ks ?_); (case ks => walk_at "sq"))
  | ((with_reducible refine' k_mul ?km ?_); (case km => first | exact Or.inr ⟨by decide, by decide⟩ | exact Or.inl ⟨by decide, by decide⟩))
  | ((with_reducible refine' k_I ?km ?_); (case km => first | assumption | decide | exact ⟨by decide, by decide +kernel⟩ | exact ⟨by decide, by decide, by decide⟩))
  | ((with_reducible refine' k_nMeth ?kp ?kl ?_); (case kp => walk_at "hp"); (case kl => exact rfl))
  | ((with_reducible refine' k_nFld ?kp ?kc ?kn ?kl ?_); (case kp => walk_at "hp"); (case kc => assumption); (case kn => assumption); (case kl => exact rfl))
  | ((with_reducible refine' k_nSFld ?kp ?kc ?kn ?kl ?_); (case kp => walk_at "hp"); (case kc => assumption); (case kn => assumption); (case kl => exact of_decide_eq_true rfl))
  | ((with_reducible refine' k_nDg ?kp ?kl ?_); (case kp => walk_at "hp"); (case kl => exact rfl))
  | ((with_reducible refine' k_nRng1 ?k1 ?k2 ?_); (case k1 => omega); (case k2 => omega))
  | ((with_reducible refine' k_nKw ?k1 ?k2 ?_); (case k1 => exact rfl); (case k2 => exact rfl))
  | ((with_reducible refine' k_hsm ?kh ?_); (case kh => walk_at "hs"))
  | ((with_reducible refine' k_nMethH ?kh ?kl ?_); (case kh => walk_at "hs"); (case kl => exact fun _ _ => rfl))
  | ((with_reducible refine' k_mLet ?kh ?_); (case kh => walk_at "ms"))
  | ((with_reducible refine' k_mChew ?kh ?_); (case kh => walk_at "ms"))
  | ((with_reducible refine' k_mPut ?kh ?_); (case kh => walk_at "ms"))
  | ((with_reducible refine' k_mMost ?kh ?_); (case kh => walk_at "ms"))
  | ((with_reducible refine' k_mCut ?kh ?_); (case kh => walk_at "ms"))
  | ((with_reducible refine' k_mTab ?kh ?_); (case kh => walk_at "md"))
  | ((with_reducible refine' k_mEats ?kh ?_); (case kh => walk_at "md"))
  | ((with_reducible refine' k_gtup ?ks ?kl ?_); (case ks => walk_at "st"); (case kl => exact rfl)))
local macro_rules | `(tactic| walk_at "g") => `(tactic| repeat (walk_at "g1"))
local macro_rules | `(tactic| walk_at "w1") => `(tactic| first
  | walk_at "g1"
  | ((with_reducible refine' k_decT ?kp ?_); (case kp => omega))
  | ((with_reducible refine' k_decF ?kp ?_); (case kp => omega))
  | ((with_reducible refine' k_decNT ?kp ?_); (case kp => omega))
  | ((with_reducible refine' k_decNF ?kp ?_); (case kp => omega)))
local macro_rules | `(tactic| walk_at "w") => `(tactic| repeat (walk_at "w1"))

section
variable {P : Program} {w : World} {K : PySem.W.Frag} {mg : Str → Option Value} {base : Heap} {f : Addr} {fd : FuncData}
/-! ### all bites -/
abbrev Bt : Type := Nat × Bool
def btAt (S : HsD) (us : List (List Nat)) (i : Nat) : List (Bt × List (List Nat)) := [false, true].filterMap fun b => (behF S us (i : Nat) b).map fun m => ((i, b), m)
def bitesF (S : HsD) (us : List (List Nat)) : List (Bt × List (List Nat)) := (List.range us.length).flatMap (btAt S us)
def dBt (x : Bt) : PyData := .tuple [.int (x.1 : Nat), .str (sdS x.2)]
def dRow (us : List (List Nat)) : PyData := .list (us.map fun u => PyData.str (tx u))
def dB1 (x : Bt × List (List Nat)) : PyData := dBt x.1
def dBM (x : Bt × List (List Nat)) : PyData := .tuple [dBt x.1, dRow x.2]
theorem btAt_len (S : HsD) (us : List (List Nat)) (i : Nat) : (btAt S us i).length ≤ 2 := List.length_filterMap_le ..
theorem flat_len {S : HsD} {us : List (List Nat)} : ∀ n, ((List.range n).flatMap (btAt S us)).length ≤ 2 * n
  | 0 => Nat.le_refl _
  | n + 1 => by
    rw [List.range_succ, List.flatMap_append, List.length_append]
    have h1 := flat_len (S := S) (us := us) n
    have h2 := btAt_len S us n
    simp only [List.flatMap_cons, List.flatMap_nil, List.append_nil]
    omega
/-- all bites up to (i, the first j sides) -/
def bitesTo (S : HsD) (us : List (List Nat)) (i j : Nat) : List (Bt × List (List Nat)) := (List.range i).flatMap (btAt S us) ++ ([false, true].take j).filterMap fun b => (behF S us (i : Nat) b).map fun m => ((i, b), m)
theorem bitesTo_len (S : HsD) (us : List (List Nat)) (i j : Nat) : (bitesTo S us i j).length ≤ 2 * i + 2 := by
  unfold bitesTo
  rw [List.length_append]
  have h1 := flat_len (S := S) (us := us) i
  have h2 : (([false, true].take j).filterMap fun b => (behF S us (i : Nat) b).map fun m => ((i, b), m)).length ≤ ([false, true].take j).length := List.length_filterMap_le ..
  rw [List.length_take] at h2
  have : [false, true].length = 2 := rfl
  omega
theorem bitesTo_two (S : HsD) (us : List (List Nat)) (i : Nat) : bitesTo S us i 2 = bitesTo S us (i + 1) 0 := by
  unfold bitesTo
  rw [List.range_succ, List.flatMap_append]
  simp [btAt]
theorem bitesTo_next {S : HsD} {us : List (List Nat)} {i j : Nat} {b : Bool} (h : [false, true][j]? = some b) : bitesTo S us i (j + 1) = match behF S us (i : Nat) b with
    | none => bitesTo S us i j
    | some m => bitesTo S us i j ++ [((i, b), m)] := by
  unfold bitesTo
  rw [take_more h, List.filterMap_append, ← List.append_assoc]
  cases e : behF S us (i : Nat) b with
  | none => simp [e]
  | some m => simp [e]
theorem bitesTo_all (S : HsD) (us : List (List Nat)) : bitesTo S us us.length 0 = bitesF S us := by
  unfold bitesTo bitesF
  simp
theorem behF_of {S : HsD} {us m : List (List Nat)} {place : Int} {b : Bool} (h : behF S us place b = some m) : ∃ (low : Nat) (x y : List Nat), us[low]? = some x ∧ us[low + 1]? = some y ∧ (if b = true then place else place - 1) = (low : Int) ∧ eatsF S b (if b = true then x else y) (if b = true then y else x) = true ∧ m = us.take low ++ madeF S b x y ++ us.drop (low + 2) ∧ m ≠ us := by
  unfold behF at h
  generalize (if b = true then place else place - 1) = q at h ⊢
  by_cases h0 : 0 ≤ q
  · rw [if_pos h0] at h
    unfold biteF at h
    cases e1 : us[q.toNat]? with
    | none => rw [e1] at h; cases h
    | some x =>
      cases e2 : us[q.toNat + 1]? with
      | none => rw [e1, e2] at h; cases h
      | some y =>
        rw [e1, e2] at h
        dsimp only at h
        by_cases h3 : eatsF S b (if b = true then x else y) (if b = true then y else x) = true
        · rw [if_pos h3] at h
          by_cases h4 : us.take q.toNat ++ madeF S b x y ++ us.drop (q.toNat + 2) = us
          · rw [if_pos h4] at h
            cases h
          · rw [if_neg h4] at h
            have e := Option.some.inj h
            exact ⟨q.toNat, x, y, e1, e2, by omega, h3, e.symm, fun z => h4 (by rw [e, z])⟩
        · rw [if_neg h3] at h
          cases h
  · rw [if_neg h0] at h
    cases h
theorem behF_words {S : HsD} (ok : HsOk S) {us m : List (List Nat)} {place : Int} {b : Bool} (hw : AllW S us) (h : behF S us place b = some m) : AllW S m ∧ m.length ≤ us.length + 8 := by
  obtain ⟨low, x, y, h1, h2, _, _, rfl, _⟩ := behF_of h
  have lx := hw.len ok x (List.mem_of_getElem? h1)
  have ly := hw.len ok y (List.mem_of_getElem? h2)
  have hl := (List.getElem?_eq_some_iff.mp h2).1
  have p2 := ok.p2
  have lg := growF_len S b (if b = true then x else y) (if b = true then y else x)
  have in1 : ∀ c ∈ (if b = true then x else y), c ∈ S.ls := by split <;> simp_all
  have in2 : ∀ c ∈ (if b = true then y else x), c ∈ S.ls := by split <;> simp_all
  have l1 : 1 ≤ (if b = true then x else y).length ∧ (if b = true then x else y).length ≤ 3 := by split <;> simp_all
  have l2 : (if b = true then y else x).length ≤ 3 := by split <;> simp_all
  have cw := cutW_words ok _ _ (Nat.le_refl _) (by rw [lg]; omega) (growF_in ok in1 in2)
  refine ⟨made_in ok hw hl cw.1, ?_⟩
  rw [List.length_append, List.length_append, List.length_take, List.length_drop]
  have e : (madeF S b x y).length ≤ (growF S b (if b = true then x else y) (if b = true then y else x)).length := cw.2
  omega
theorem y_rng {i : Nat} {H : Hp} {x : V} {H' : Hp} (h : YFn (fun i => V.int (0 + ((i : Nat) : Int))) i H x H') : H' = H ∧ x = .int (i : Nat) := ⟨h.1, by rw [h.2]; show V.int (0 + ((i : Nat) : Int)) = _; rw [Int.zero_add]⟩
theorem bitesF_in {S : HsD} {us : List (List Nat)} {x : Bt × List (List Nat)} : x ∈ bitesF S us ↔ x.1.1 < us.length ∧ behF S us (x.1.1 : Nat) x.1.2 = some x.2 := by
  obtain ⟨⟨i, b⟩, m⟩ := x
  unfold bitesF btAt
  rw [List.mem_flatMap]
  constructor
  · rintro ⟨k, hk, h⟩
    obtain ⟨b', _, h⟩ := List.mem_filterMap.mp h
    obtain ⟨m', h1, h2⟩ := Option.map_eq_some_iff.mp h
    cases h2
    exact ⟨List.mem_range.mp hk, h1⟩
  · rintro ⟨h1, h2⟩
    refine ⟨i, List.mem_range.mpr h1, List.mem_filterMap.mpr ⟨b, by cases b <;> simp, ?_⟩⟩
    dsimp only at h2 ⊢
    rw [h2]
    rfl
theorem dp_btI {H : Hp} {v : V} {x : Bt} (h : Dp K H v (dBt x)) : ∃ t, v = .ref t ∧ SqT K H t [.int (x.1 : Nat), .str (sdS x.2)] := by
  obtain ⟨t, a, b, e, h1, h2, h3⟩ := dp_tup2I h
  rw [dp_intI h2, dp_strI h3] at h1
  exact ⟨t, e, h1⟩
/-- an entry: a tuple of a bite and the row behind it, which is a list of its own -/
def BmAt (K : PySem.W.Frag) (H0 H : Hp) (v : V) (x : Bt × List (List Nat)) : Prop := ∃ t tb tr, v = .ref t ∧ SqT K H t [.ref tb, .ref tr] ∧ SqT K H tb [.int (x.1.1 : Nat), .str (sdS x.1.2)] ∧ H tr = some (.lst (tS x.2)) ∧ H0 tr = none
theorem BmAt.sm {H0 H H' : Hp} {v : V} {x : Bt × List (List Nat)} (s : Same H H') (h : BmAt K H0 H v x) : BmAt K H0 H' v x := by
  obtain ⟨t, tb, tr, e, h1, h2, h3, h4⟩ := h
  exact ⟨t, tb, tr, e, sm_t s h1, sm_t s h2, s _ _ h3, h4⟩
theorem BmAt.dp {H0 H : Hp} {v : V} {x : Bt × List (List Nat)} (h : BmAt K H0 H v x) : Dp K H v (dBM x) := by
  obtain ⟨t, tb, tr, rfl, h1, h2, h3, _⟩ := h
  exact .tup h1 (.cons (.tup h2 (.cons (.int _) (.cons (.str _) .nil))) (.cons (.lst (sq_l h3) (dp_tS _)) .nil))
def BmAll (K : PySem.W.Frag) (H0 H : Hp) : List V → List (Bt × List (List Nat)) → Prop
  | [], [] => True
  | v :: vs, x :: xs => BmAt K H0 H v x ∧ BmAll K H0 H vs xs
  | _, _ => False
theorem BmAll.sm {H0 H H' : Hp} (s : Same H H') : ∀ {vs : List V} {xs : List (Bt × List (List Nat))}, BmAll K H0 H vs xs → BmAll K H0 H' vs xs
  | [], [], _ => trivial
  | v :: vs, x :: xs, h => ⟨h.1.sm s, BmAll.sm s h.2⟩
  | [], x :: xs, h => h.elim
  | v :: vs, [], h => h.elim
theorem BmAll.dp {H0 H : Hp} : ∀ {vs : List V} {xs : List (Bt × List (List Nat))}, BmAll K H0 H vs xs → DpAll K H vs (xs.map dBM)
  | [], [], _ => .nil
  | v :: vs, x :: xs, h => .cons h.1.dp (BmAll.dp h.2)
  | [], x :: xs, h => h.elim
  | v :: vs, [], h => h.elim
theorem BmAll.app {H0 H : Hp} {w : V} {y : Bt × List (List Nat)} (hy : BmAt K H0 H w y) : ∀ {vs : List V} {xs : List (Bt × List (List Nat))}, BmAll K H0 H vs xs → BmAll K H0 H (vs ++ [w]) (xs ++ [y])
  | [], [], _ => ⟨hy, trivial⟩
  | v :: vs, x :: xs, h => ⟨h.1, BmAll.app hy h.2⟩
  | [], x :: xs, h => h.elim
  | v :: vs, [], h => h.elim
theorem BmAll.get {H0 H : Hp} : ∀ {vs : List V} {xs : List (Bt × List (List Nat))} {i : Nat} {v : V}, BmAll K H0 H vs xs → vs[i]? = some v → ∃ x, xs[i]? = some x ∧ BmAt K H0 H v x
  | [], [], i, v, _, e => by simp at e
  | w :: vs, x :: xs, 0, v, h, e => by
    simp at e
    subst e
    exact ⟨x, rfl, h.1⟩
  | w :: vs, x :: xs, i + 1, v, h, e => by
    obtain ⟨y, h1, h2⟩ := BmAll.get h.2 (i := i) (by simpa using e)
    exact ⟨y, by simpa using h1, h2⟩
  | [], x :: xs, _, _, h, _ => h.elim
  | v :: vs, [], _, _, h, _ => h.elim
theorem BmAll.at {H0 H : Hp} : ∀ {vs : List V} {xs : List (Bt × List (List Nat))} {i : Nat} {x : Bt × List (List Nat)}, BmAll K H0 H vs xs → xs[i]? = some x → ∃ v, vs[i]? = some v ∧ BmAt K H0 H v x
  | [], [], i, v, _, e => by simp at e
  | w :: vs, x :: xs, 0, y, h, e => by
    simp at e
    subst e
    exact ⟨w, rfl, h.1⟩
  | w :: vs, x :: xs, i + 1, y, h, e => by
    obtain ⟨y, h1, h2⟩ := BmAll.at h.2 (i := i) (by simpa using e)
    exact ⟨y, by simpa using h1, h2⟩
  | [], x :: xs, _, _, h, _ => h.elim
  | v :: vs, [], _, _, h, _ => h.elim
theorem BmAll.len {H0 H : Hp} : ∀ {vs : List V} {xs : List (Bt × List (List Nat))}, BmAll K H0 H vs xs → vs.length = xs.length
  | [], [], _ => rfl
  | v :: vs, x :: xs, h => by rw [List.length_cons, List.length_cons, BmAll.len h.2]
  | [], x :: xs, h => h.elim
  | v :: vs, [], h => h.elim
def spBitesOf (K : PySem.W.Frag) : Sp := fun vs H Q _ => ∃ (a r : Addr) (S : HsD) (us : List (List Nat)), vs = [.ref a, .ref r] ∧ HsAt K H a S ∧ HsOk S ∧ SqL K H r (tS us) ∧ AllW S us ∧ us.length ≤ 10000 ∧ ∀ p ws H', H p = none → Same H H' → H' p = some (.lst ws) → BmAll K H H' ws (bitesF S us) → Q (.ref p) H'
theorem ok_bites_of (F : FnP K "bites_of" s_bites_of f fd) (hm : mg "bites_of" = some (.ref f)) (f_len : mg "len" = none) (f_range : mg "range" = none) (c_behind : Callee P w K mg base CX0 "behind" 3 [] (spBehind K)) : Callee P w K mg base CX0 "bites_of" 4 [] (spBitesOf K) := by
  refine ⟨f, fd, _, [], F.ok sc_bites_of (fun vs H Q E h => ?hl) (fun cdv A outer s H vs Q E hr h => ⟨_, PSs.nox (pss_cons (ps_set (i := 2) sc_bites_of.nd rfl (by first | exact Or.inl rfl | exact Or.inr rfl) (pe_lst pa_nil))
      (pss_cons (ps_for PassesOwn.never rfl (pi_range1 (by rfl) f_range (pa_cons (pe_callB (call_lenK K) (by rfl) f_len PySem.boot_len (pa_cons (pv 1) pa_nil)) pa_nil)) (pg_name (i := 3) sc_bites_of.nd rfl (by first | exact Or.inl rfl | exact Or.inr rfl)) (pss_one (ps_for PassesOwn.never rfl (pi_tupK K (pe_tup (pa_cons pe_str (pa_cons pe_str pa_nil)))) (pg_name (i := 4) sc_bites_of.nd rfl (by first | exact Or.inl rfl | exact Or.inr rfl)) (pss_cons (ps_set (i := 5) sc_bites_of.nd rfl (by first | exact Or.inl rfl | exact Or.inr rfl) (pe_cl c_behind hr (pa_cons (pv 0) (pa_cons (pv 1) (pa_cons (pv 3) (pa_cons (pv 4) pa_nil)))) pass0))
      (pss_one (ps_if (pt_cmpR op_notN1 (pv 5) pe_non (nomark _)) (pss_one (ps_expr (pe_bmK K PySem.F.plainAttrs_list PySem.F.slot_list_append PySem.F.type_list_append mt_append (pv 2) (pa_cons (pe_tup (pa_cons (pe_tup (pa_cons (pv 3) (pa_cons (pv 4) pa_nil))) (pa_cons (pv 5) pa_nil))) pa_nil)))) pss_nil))))))
      (pss_one (ps_ret (pv 2))))), ?rd⟩), hm, F.kp, F.bindsN fun _ _ _ _ _ _ us hl => match us, hl with | [_, _], _ => rfl, .nil⟩
  case hl =>
    obtain ⟨a, r, S, us, rfl, _⟩ := h
    rfl
  case rd =>
    obtain ⟨a, r, S, us, rfl, hs, ok, hx, hw, lu, q⟩ := h
    refine k_start (σ' := [some _, some _, none, none, none, none]) rfl ?_
    have lx := len_tS us
    walk_at "g"
    refine k_nLst (by walk_at "sz") (fun p1 H1 n1 s1 e1 => ?_)
    walk_at "g"
    rw [lx]
    walk_at "g"
    have fin : ∀ (H' : Hp) (ws : List V), Same H H' → H' p1 = some (.lst ws) → BmAll K H (del H' p1) ws (bitesTo S us us.length 0) → Q (.ref p1) H' := fun H' ws s e d => q p1 ws H' n1 s e (by rw [bitesTo_all] at d; exact d.sm sm_del)
    refine k_nFor walk_range (fun i σ H' => (∃ y3 y4 y5 ws, σ = [some (.ref a), some (.ref r), some (.ref p1), y3, y4, y5] ∧ H' p1 = some (.lst ws) ∧ BmAll K H (del H' p1) ws (bitesTo S us i 0)) ∧ Same H H') ⟨⟨_, _, _, [], rfl, e1, trivial⟩, s1⟩ (fun _ _ _ _ _ => trivial) (fun i x σ Ha Hb hi h hy => ?ht) (fun σ H' h => ?he)
    case he =>
      obtain ⟨⟨y3, y4, y5, ws, rfl, ea, da⟩, sa⟩ := h
      walk_at "g"
      exact fin _ ws sa ea (by simpa using da)
    case ht =>
      obtain ⟨⟨y3, y4, y5, ws, rfl, ea, da⟩, sa⟩ := h
      obtain ⟨rfl, rfl⟩ := y_rng hy
      walk_at "g"
      refine k_nTup (by walk_at "sz") (fun p2 H2 n2 s2 e2 => ?_)
      walk_at "g"
      have n2H : H p2 = none := sa.free n2
      refine k_nFor (walk_tup (xs := [V.str (Str.ofString "left"), V.str (Str.ofString "right")])) (fun j σ H' => (∃ y4 y5 ws, σ = [some (.ref a), some (.ref r), some (.ref p1), some (.int (i : Nat)), y4, y5] ∧ H' p1 = some (.lst ws) ∧ BmAll K H (del H' p1) ws (bitesTo S us i j)) ∧ (Same H H' ∧ H' p2 = some (.tup [V.str (Str.ofString "left"), V.str (Str.ofString "right")]))) ⟨⟨_, _, ws, rfl, s2 _ _ ea, da.sm (del_mono s2)⟩, sa.trans s2, e2⟩ (fun j σ H' _ h => sq_t h.2.2) (fun j x σ Hc Hd hj h hy => ?ht2) (fun σ H' h => ?he2)
      case he2 =>
        obtain ⟨⟨y4, y5, ws, rfl, ea, da⟩, sa, _⟩ := h
        exact ⟨⟨_, _, _, ws, rfl, ea, by rw [← bitesTo_two]; exact da⟩, sa⟩
      case ht2 =>
        obtain ⟨⟨y4, y5, ws, rfl, ea, da⟩, sa, et⟩ := h
        obtain ⟨rfl, hv⟩ := hy
        obtain ⟨b, hb, rfl⟩ : ∃ b, [false, true][j]? = some b ∧ x = .str (sdS b) := by
          have : j = 0 ∨ j = 1 := by
            have : j < 2 := hj
            omega
          rcases this with rfl | rfl <;> cases hv
          · exact ⟨false, rfl, rfl⟩
          · exact ⟨true, rfl, rfl⟩
        walk_at "g"
        refine ⟨a, r, S, us, (i : Nat), sdS b, rfl, hs.sm sa, ok, sm_l sa hx, hw, lu, fun v H3 s3 hv3 => ?_⟩
        rw [behS_sd] at hv3
        have hn := bitesTo_next (S := S) (us := us) (i := i) hb
        have ea3 := s3 _ _ ea
        have et3 := s3 _ _ et
        have da3 := da.sm (del_mono (p := p1) s3)
        cases eb : behF S us (i : Nat) b with
        | none =>
          rw [eb] at hv3 hn
          cases (show v = .non from hv3)
          walk_at "g"
          exact ⟨⟨_, _, ws, rfl, ea3, by rw [hn]; exact da3⟩, sa.trans s3, et3⟩
        | some m =>
          rw [eb] at hv3 hn
          obtain ⟨pm, rfl, nm, em⟩ := hv3
          walk_at "g"
          refine k_nTup (by walk_at "sz") (fun p4 H4 n4 s4 e4 => ?_)
          walk_at "g"
          refine k_nTup (by walk_at "sz") (fun p5 H5 n5 s5 e5 => ?_)
          have s35 := s4.trans s5
          have ea5 := s35 _ _ ea3
          walk_at "g"
          have bl := bitesTo_len S us i j
          have lw := da.len
          refine k_append ea5 (by have : i < us.length := by omega
                                  omega) ?_
          walk_at "g"
          have da5 := da3.sm (del_mono (p := p1) s35)
          have npm : pm ≠ p1 := fun z => by rw [z, ea] at nm; cases nm
          have dnew : BmAt K H (del H5 p1) (.ref p5) ((i, b), m) := ⟨p5, p4, pm, rfl, del_t ea5 (sq_t e5), del_t ea5 (sq_t (s5 _ _ e4)), (by rw [del_ne npm]; exact s35 _ _ em), sa.free nm⟩
          refine ⟨⟨_, _, ws ++ [.ref p5], rfl, upd_same, ?_⟩, sm_mut (sa.trans (s3.trans s35)) n1, ?_⟩
          · rw [del_upd, hn]
            exact da5.app dnew
          · rw [upd_ne (ne_of (s35 _ _ et3) ea5 (fun z => by cases z))]
            exact s35 _ _ et3
theorem sm_sep {H0 H : Hp} {p : Addr} (hp : H0 p = none) (s : Same H0 H) : Same H0 (del H p) := fun b u h => by
  rw [del_ne (ne_of_none h hp)]
  exact s b u h
/-! ### one bite done -/
/-! ### an end -/
theorem good_bt (x : Bt) (h : x.1 ≤ 100000) (j : Nat) : Good (j + 2) (dBt x) := ⟨by show 2 ≤ 50000; decide, fun e he => by
  rcases List.mem_cons.mp he with rfl | he
  · exact log_nat (by omega)
  rcases List.mem_cons.mp he with rfl | he
  · refine ⟨?_, ?_⟩ <;> cases x.2 <;> first | exact pl_B (by decide +kernel) | decide +kernel
  cases he⟩
theorem good_bts {S : HsD} {us : List (List Nat)} (lu : us.length ≤ 10000) (j : Nat) : Good (j + 3) (.list ((bitesF S us).map dB1)) := ⟨by
  rw [List.length_map]
  have := flat_len (S := S) (us := us) us.length
  unfold bitesF
  omega, fun e he => by
  obtain ⟨x, hx, rfl⟩ := List.mem_map.mp he
  exact good_bt _ (by have := (bitesF_in.mp hx).1; omega) j⟩
theorem good_bms {S : HsD} (ok : HsOk S) {us : List (List Nat)} (hw : AllW S us) (lu : us.length ≤ 10000) : Good 5 (.list ((bitesF S us).map dBM)) := ⟨by
  rw [List.length_map]
  have := flat_len (S := S) (us := us) us.length
  unfold bitesF
  omega, fun e he => by
  obtain ⟨x, hx, rfl⟩ := List.mem_map.mp he
  obtain ⟨h1, h2⟩ := bitesF_in.mp hx
  obtain ⟨h3, h4⟩ := behF_words ok hw h2
  refine ⟨by show 2 ≤ 50000; decide, fun e he => ?_⟩
  rcases List.mem_cons.mp he with rfl | he
  · exact good_bt _ (by omega) 1
  rcases List.mem_cons.mp he with rfl | he
  · exact good_allW ok h3 (by omega) 1
  cases he⟩
/-- bites_of(..) == [] -/
theorem k_bmNil {S : HsD} (ok : HsOk S) {us : List (List Nat)} {H : Hp} {Q : VK} {p b : Addr} {ws : List V} (hw : AllW S us) (lu : us.length ≤ 10000) (h1 : SqL K H p ws) (d1 : DpAll K H ws ((bitesF S us).map dBM)) (h2 : SqL K H b []) (h : Q (.bl (decide (bitesF S us = []))) H) : rEqU K (.ref p) (.ref b) H Q := by
  refine k_eq_d (.lst h1 d1) (.lst h2 .nil) ((good_bms ok hw lu).shaped (by decide)) (by decide) ?_
  rw [eqv_nil, show decide ((bitesF S us).map dBM = []) = decide (bitesF S us = []) by cases bitesF S us <;> rfl]
  exact h
/-! ### bites one behind the other -/
abbrev Stp : Type := Int × Str
def dStp (x : Stp) : PyData := .tuple [.int x.1, .str x.2]
def folF (S : HsD) : List (List Nat) → List Stp → Nat → Option (List (List Nat)) × Option Nat
  | us, [], _ => (some us, none)
  | us, x :: r, n => match behS S us x.1 x.2 with
    | none => (none, some n)
    | some m => folF S m r (n + 1)
theorem dp_stpI {H : Hp} {v : V} {x : Stp} (h : Dp K H v (dStp x)) : ∃ t, v = .ref t ∧ SqT K H t [.int x.1, .str x.2] := by
  obtain ⟨t, a, b, e, h1, h2, h3⟩ := dp_tup2I h
  rw [dp_intI h2, dp_strI h3] at h1
  exact ⟨t, e, h1⟩
theorem behS_words {S : HsD} (ok : HsOk S) {us m : List (List Nat)} {place : Int} {z : Str} (hw : AllW S us) (h : behS S us place z = some m) : AllW S m ∧ m.length ≤ us.length + 8 := by
  rcases side_of z with ⟨b, rfl⟩ | hz
  · rw [behS_sd] at h
    exact behF_words ok hw h
  · rw [behS_no hz] at h
    cases h
def spFollowed (K : PySem.W.Frag) : Sp := fun vs H Q _ => ∃ (a r st : Addr) (S : HsD) (us : List (List Nat)) (xs : List Stp) (ws : List V), vs = [.ref a, .ref r, .ref st] ∧ HsAt K H a S ∧ HsOk S ∧ H r = some (.lst (tS us)) ∧ AllW S us ∧ SqL K H st ws ∧ DpAll K H ws (xs.map dStp) ∧ us.length + 8 * xs.length ≤ 10000 ∧
  (∀ n, folF S us xs 0 = (none, some n) → ∀ T H', H T = none → Same H H' → H' T = some (.tup [.non, .int (n : Nat)]) → Q (.ref T) H') ∧
  (∀ m, folF S us xs 0 = (some m, none) → ∀ T p H', H T = none → Same H H' → H' p = some (.lst (tS m)) → H' T = some (.tup [.ref p, .non]) → Q (.ref T) H')
theorem folF_none {S : HsD} {us : List (List Nat)} {x : Stp} {r : List Stp} {n : Nat} (e : behS S us x.1 x.2 = none) : folF S us (x :: r) n = (none, some n) := by
  show (match behS S us x.1 x.2 with | none => _ | some m => folF S m r (n + 1)) = _
  rw [e]
theorem folF_some {S : HsD} {us m : List (List Nat)} {x : Stp} {r : List Stp} {n : Nat} (e : behS S us x.1 x.2 = some m) : folF S us (x :: r) n = folF S m r (n + 1) := by
  show (match behS S us x.1 x.2 with | none => _ | some m => folF S m r (n + 1)) = _
  rw [e]
theorem ok_followed (F : FnP K "followed" s_followed f fd) (hm : mg "followed" = some (.ref f)) (f_enumerate : mg "enumerate" = none) (c_behind : Callee P w K mg base CX0 "behind" 3 [] (spBehind K)) : Callee P w K mg base CX0 "followed" 4 [] (spFollowed K) := by
  refine ⟨f, fd, _, [], F.ok sc_followed (fun vs H Q E h => ?hl) (fun cdv A outer s H vs Q E hr h => ⟨_, PSs.nox (pss_cons (ps_set (i := 3) sc_followed.nd rfl (by first | exact Or.inl rfl | exact Or.inr rfl) (pv 1))
      (pss_cons (ps_for PassesOwn.never rfl (pi_enumK K (by rfl) f_enumerate (pa_cons (pv 2) pa_nil)) (pg_tupK K 2 (by rfl) (pgs_cons (pg_name (i := 4) sc_followed.nd rfl (by first | exact Or.inl rfl | exact Or.inr rfl)) (pgs_cons (pg_tupK K 2 (by rfl) (pgs_cons (pg_name (i := 5) sc_followed.nd rfl (by first | exact Or.inl rfl | exact Or.inr rfl)) (pgs_cons (pg_name (i := 6) sc_followed.nd rfl (by first | exact Or.inl rfl | exact Or.inr rfl)) pgs_nil))) pgs_nil))) (pss_cons (ps_set (i := 7) sc_followed.nd rfl (by first | exact Or.inl rfl | exact Or.inr rfl) (pe_cl c_behind hr (pa_cons (pv 0) (pa_cons (pv 3) (pa_cons (pv 5) (pa_cons (pv 6) pa_nil)))) pass0))
      (pss_cons (ps_if (pt_cmpR op_isN1 (pv 7) pe_non (nomark _)) (pss_one (ps_ret (pe_tup (pa_cons pe_non (pa_cons (pv 4) pa_nil))))) pss_nil)
      (pss_one (ps_set (i := 3) sc_followed.nd rfl (by first | exact Or.inl rfl | exact Or.inr rfl) (pv 7))))))
      (pss_one (ps_ret (pe_tup (pa_cons (pv 3) (pa_cons pe_non pa_nil))))))), ?rd⟩), hm, F.kp, F.bindsN fun _ _ _ _ _ _ us hl => match us, hl with | [_, _, _], _ => rfl, .nil⟩
  case hl =>
    obtain ⟨a, r, st, S, us, xs, ws, rfl, _⟩ := h
    rfl
  case rd =>
    obtain ⟨a, r, st, S, us, xs, ws, rfl, hs, ok, hx, hw, hst, hd, lu, q1, q2⟩ := h
    refine k_start (σ' := [some _, some _, some _, none, none, none, none, none]) rfl ?_
    have lw := dpall_len hd
    rw [List.length_map] at lw
    walk_at "g"
    refine k_nFor (walk_enum (xs := ws)) (fun i σ H' => (∃ p y4 y5 y6 y7 cur, σ = [some (.ref a), some (.ref r), some (.ref st), some (.ref p), y4, y5, y6, y7] ∧ H' p = some (.lst (tS cur)) ∧ AllW S cur ∧ cur.length ≤ us.length + 8 * i ∧ folF S us xs 0 = folF S cur (xs.drop i) i) ∧ Same H H') ⟨⟨r, _, _, _, _, us, rfl, hx, hw, by omega, rfl⟩, Same.refl _⟩ (fun i σ H' _ h => sm_l h.2 hst) (fun i x σ Ha Hb hi h hy => ?ht) (fun σ H' h => ?he)
    case he =>
      obtain ⟨⟨p, y4, y5, y6, y7, cur, rfl, hp, hc, lc, hf⟩, sa⟩ := h
      rw [lw, List.drop_length] at hf
      walk_at "g"
      refine k_nTup (by walk_at "sz") (fun T H2 n2 s2 e2 => ?_)
      exact q2 cur hf T p H2 (sa.free n2) (sa.trans s2) (s2 _ _ hp) e2
    case ht =>
      obtain ⟨⟨p, y4, y5, y6, y7, cur, rfl, hp, hc, lc, hf⟩, sa⟩ := h
      obtain ⟨T, xi, yi, rfl, nT, rfl, ex, ey⟩ := hy
      have sT : Same Ha (upd Ha T (.tup [xi, yi])) := sm_new nT
      have eT : (upd Ha T (.tup [xi, yi])) T = some (.tup [xi, yi]) := upd_same
      generalize upd Ha T (.tup [xi, yi]) = Hb at sT eT
      cases ex
      obtain ⟨d, hd1, hd2⟩ := dpall_get hd ey
      obtain ⟨y, hy1, rfl⟩ := map_get hd1
      obtain ⟨t, rfl, ht1⟩ := dp_stpI hd2
      have ht1b := sm_t (sa.trans sT) ht1
      have hix : i < xs.length := by omega
      have dr : xs.drop i = y :: xs.drop (i + 1) := by rw [List.drop_eq_getElem_cons hix]; congr 1; exact Option.some.inj ((List.getElem?_eq_getElem hix).symm.trans hy1)
      walk_at "g"
      refine ⟨a, p, S, cur, y.1, y.2, rfl, by walk_at "hs", ok, by walk_at "sq", hc, by omega, fun v H3 s3 hv => ?_⟩
      cases eb : behS S cur y.1 y.2 with
      | none =>
        rw [eb] at hv
        cases (show v = .non from hv)
        rw [dr, folF_none eb] at hf
        walk_at "g"
        refine k_nTup (by walk_at "sz") (fun T2 H4 n4 s4 e4 => ?_)
        exact q1 i hf T2 H4 ((sa.trans (sT.trans s3)).free n4) ((sa.trans (sT.trans s3)).trans s4) e4
      | some m =>
        rw [eb] at hv
        obtain ⟨pm, rfl, nm, em⟩ := hv
        rw [dr, folF_some eb] at hf
        obtain ⟨h1, h2⟩ := behS_words ok hc eb
        walk_at "g"
        exact ⟨⟨pm, _, _, _, _, m, rfl, em, h1, by omega, hf⟩, sa.trans (sT.trans s3)⟩
/-! ### kinds -/
def kindF (S : HsD) : Str := if 0 < S.ch ∧ S.pt = [] then Str.ofString "lean" else if S.ch < 2 ∧ (S.pt.length : Int) = S.ch then Str.ofString "even" else if S.ch < S.pt.length then Str.ofString "fat" else Str.ofString "loose"
theorem ok_kind (F : FnP K "kind" s_kind f fd) (hm : mg "kind" = some (.ref f)) (f_len : mg "len" = none) (c_House_put : CalleeM P w K mg base CX0 "House" "put" 1 (spHsM K fun S => .str (tx S.pt))) (c_House_chew : CalleeM P w K mg base CX0 "House" "chew" 1 (spHsM K fun S => .int S.ch)) : Callee P w K mg base CX0 "kind" 2 [] (fun vs H Q _ => ∃ (a : Addr) (S : HsD), vs = [.ref a] ∧ HsAt K H a S ∧ HsOk S ∧ Q (.str (kindF S)) H) := by
  refine ⟨f, fd, _, [], F.ok sc_kind (fun vs H Q E h => ?hl) (fun cdv A outer s H vs Q E hr h => ⟨_, PSs.nox (pss_cons (ps_if (PW.pt (pw_and (pt_cmpR op_gt (pe_mt0 c_House_chew hr (pv 0) pass0) pe_int (nomark _)) (pw_and1 (pt_cmpR (op_eqK K hr.units) (pe_mt0 c_House_put hr (pv 0) pass0) pe_str (nomark _))))) (pss_one (ps_ret pe_str)) pss_nil)
      (pss_cons (ps_if (PW.pt (pw_and (pt_cmpR op_lt (pe_mt0 c_House_chew hr (pv 0) pass0) pe_int (nomark _)) (pw_and1 (pt_cmpR (op_eqK K hr.units) (pe_callB (call_lenK K) (by rfl) f_len PySem.boot_len (pa_cons (pe_mt0 c_House_put hr (pv 0) pass0) pa_nil)) (pe_mt0 c_House_chew hr (pv 0) pass0) (nomark _))))) (pss_one (ps_ret pe_str)) pss_nil)
      (pss_one (ps_ret (pe_ifExp (pt_cmpR op_gt (pe_callB (call_lenK K) (by rfl) f_len PySem.boot_len (pa_cons (pe_mt0 c_House_put hr (pv 0) pass0) pa_nil)) (pe_mt0 c_House_chew hr (pv 0) pass0) (nomark _)) pe_str pe_str))))), ?rd⟩), hm, F.kp, F.bindsN fun _ _ _ _ _ _ us hl => match us, hl with | [_], _ => rfl, .nil⟩
  case hl =>
    obtain ⟨a, S, rfl, _⟩ := h
    rfl
  case rd =>
    obtain ⟨a, S, rfl, hs, ok, q⟩ := h
    refine k_start (σ' := [some _]) rfl ?_
    have lp := len_tx S.pt
    have p2 := ok.p2
    unfold kindF at q
    have fin : ¬ (0 < S.ch ∧ S.pt = []) → Q (.str (if S.ch < 2 ∧ (S.pt.length : Int) = S.ch then Str.ofString "even" else if S.ch < S.pt.length then Str.ofString "fat" else Str.ofString "loose")) H := fun h => by
      rw [if_neg h] at q
      exact q
    walk_at "g"
    refine k_dec (fun d1 => ?_) (fun d1 => ?_)
    · walk_at "g"
      rw [tx_nil, tx_eq]
      refine k_dec (fun d2 => ?_) (fun d2 => ?_)
      · walk_at "g"
        rw [if_pos ⟨by omega, d2⟩] at q
        exact q
      · have fin := fin fun z => d2 z.2
        walk_at "g"
        refine k_dec (fun d3 => ?_) (fun d3 => ?_)
        · walk_at "g"
          refine k_len_s (by omega) ?_
          rw [lp]
          walk_at "g"
          refine k_dec (fun d4 => ?_) (fun d4 => ?_)
          · walk_at "g"
            rw [if_pos ⟨d3, d4⟩] at fin
            exact fin
          · rw [if_neg fun z => d4 z.2] at fin
            walk_at "g"
            refine k_len_s (by omega) ?_
            rw [lp]
            walk_at "g"
            refine k_dec (fun d5 => ?_) (fun d5 => ?_)
            · rw [if_pos (by omega)] at fin
              walk_at "g"
              exact fin
            · rw [if_neg (by omega)] at fin
              walk_at "g"
              exact fin
        · rw [if_neg fun z => d3 z.1] at fin
          walk_at "g"
          refine k_len_s (by omega) ?_
          rw [lp]
          walk_at "g"
          refine k_dec (fun d5 => ?_) (fun d5 => ?_)
          · rw [if_pos (by omega)] at fin
            walk_at "g"
            exact fin
          · rw [if_neg (by omega)] at fin
            walk_at "g"
            exact fin
    · have fin := fin fun z => d1 (by omega)
      walk_at "g"
      refine k_dec (fun d3 => ?_) (fun d3 => ?_)
      · walk_at "g"
        refine k_len_s (by omega) ?_
        rw [lp]
        walk_at "g"
        refine k_dec (fun d4 => ?_) (fun d4 => ?_)
        · walk_at "g"
          rw [if_pos ⟨d3, d4⟩] at fin
          exact fin
        · rw [if_neg fun z => d4 z.2] at fin
          walk_at "g"
          refine k_len_s (by omega) ?_
          rw [lp]
          walk_at "g"
          refine k_dec (fun d5 => ?_) (fun d5 => ?_)
          · rw [if_pos (by omega)] at fin
            walk_at "g"
            exact fin
          · rw [if_neg (by omega)] at fin
            walk_at "g"
            exact fin
      · rw [if_neg fun z => d3 z.1] at fin
        walk_at "g"
        refine k_len_s (by omega) ?_
        rw [lp]
        walk_at "g"
        refine k_dec (fun d5 => ?_) (fun d5 => ?_)
        · rw [if_pos (by omega)] at fin
          walk_at "g"
          exact fin
        · rw [if_neg (by omega)] at fin
          walk_at "g"
          exact fin
end
end Lw
set_option autoImplicit true
set_option pp.maxSteps 1200
set_option Elab.async false
set_option linter.all false
set_option maxRecDepth 100000
set_option maxHeartbeats 1000000
namespace Lw
open PySem PySem.Spec PyProof.Rows L2 Gk

local macro_rules | `(tactic| walk_at "hp") => `(tactic| first | assumption | exact upd_same | (refine' (upd_ne ?n).trans ?h; (case n => assumption); (case h => walk_at "hp")) | (refine' sm_get ?s ?h; (case s => assumption); (case h => walk_at "hp")))
local macro_rules | `(tactic| walk_at "sq") => `(tactic| first | assumption | (refine' sq_l ?h; (case h => walk_at "hp")) | (refine' sm_l ?s ?h; (case s => assumption); (case h => walk_at "sq")))
local macro_rules | `(tactic| walk_at "st") => `(tactic| first | assumption | (refine' sq_t ?h; (case h => walk_at "hp")) | (refine' sm_t ?s ?h; (case s => assumption); (case h => walk_at "st")))
local macro_rules | `(tactic| walk_at "bg") => `(tactic| first | assumption | (refine' BagOk.sm ?s ?h; (case s => assumption); (case h => walk_at "bg")))
local macro_rules | `(tactic| walk_at "sm") => `(tactic| first | assumption | exact Same.refl _ | (refine' Same.trans ?h ?s; (case s => assumption); (case h => walk_at "sm")))
local macro_rules | `(tactic| walk_at "hs") => `(tactic| first | assumption | (refine' HsAt.sm ?s ?h; (case s => assumption); (case h => walk_at "hs")))
local macro_rules | `(tactic| walk_at "ms") => `(tactic| first | assumption | (refine' MAt.sm ?s ?h; (case s => assumption); (case h => walk_at "ms")))
local macro_rules | `(tactic| walk_at "md") => `(tactic| first | assumption | (refine' MDk.sm ?s ?h; (case s => assumption); (case h => walk_at "md")))
local macro_rules | `(tactic| walk_at "dp") => `(tactic| first | assumption | (refine' dp_sm ?s ?h; (case s => assumption); (case h => walk_at "dp")))
local macro_rules | `(tactic| walk_at "sz") => `(tactic| first | decide | assumption | omega | (simp only [List.length_cons, List.length_nil, List.length_map, List.length_append]; omega))
local macro_rules | `(tactic| walk_at "g1") => `(tactic| first
  | with_reducible refine k_seq ?_
  | with_reducible refine k_itB ?_
  | with_reducible refine k_next ?_
  | with_reducible refine k_asg ?_
  | with_reducible refine k_name ?_
  | with_reducible refine k_ret ?_
  | with_reducible refine k_retN ?_
  | with_reducible refine k_drop ?_
  | with_reducible refine k_ifs ?_
  | with_reducible refine k_brk ?_
  | with_reducible refine k_cont ?_
  | with_reducible refine k_ipI ?_
  | with_reducible refine k_test ?_
  | with_reducible refine k_tB ?_
  | with_reducible refine k_bl ?_
  | with_reducible refine k_not ?_
  | with_reducible refine k_and ?_
  | with_reducible refine k_or ?_
  | with_reducible refine k_yes ?_
  | with_reducible refine k_true ?_
  | with_reducible refine k_false ?_
  | with_reducible refine k_nt ?_
  | with_reducible refine k_c ?_
  | with_reducible refine k_op ?_
  | with_reducible refine k_un ?_
  | with_reducible refine k_if ?_
  | with_reducible refine k_chain ?_
  | with_reducible refine k_nil ?_
  | with_reducible refine k_cons ?_
  | with_reducible refine k_cb ?_
  | with_reducible refine k_call ?_
  | with_reducible refine k_callS ?_
  | with_reducible refine k_andV ?_
  | with_reducible refine k_orV ?_
  | with_reducible refine k_notV ?_
  | with_reducible refine k_lst ?_
  | with_reducible refine k_tup ?_
  | with_reducible refine k_nopart ?_
  | with_reducible refine k_part ?_
  | with_reducible refine k_nInt ?_
  | with_reducible refine k_sl ?_
  | with_reducible refine k_bm ?_
  | with_reducible refine k_bm0 ?_
  | with_reducible refine k_nTyS ?_
  | with_reducible refine k_m1 ?_
  | with_reducible refine k_m0 ?_
  | with_reducible refine k_nStr ?_
  | with_reducible refine k_I0 ?_
  | with_reducible refine k_U ?_
  | with_reducible refine k_add_i ?_
  | with_reducible refine k_eq_i ?_
  | with_reducible refine k_eq_s ?_
  | with_reducible refine k_eq_b ?_
  | with_reducible refine k_ne_i ?_
  | with_reducible refine k_ne_s ?_
  | with_reducible refine k_ne_b ?_
  | with_reducible refine k_le_i ?_
  | with_reducible refine k_le_s ?_
  | with_reducible refine k_gnil ?_
  | with_reducible refine k_gcons ?_
  | with_reducible refine k_gsub ?_
  | with_reducible refine k_for ?_
  | with_reducible refine k_lc ?_
  | with_reducible refine k_rng1 ?_
  | with_reducible refine k_rng2 ?_
  | with_reducible refine k_itl ?_
  | with_reducible refine k_itt ?_
  | with_reducible refine k_its ?_
  | with_reducible refine k_ite ?_
  | with_reducible refine k_iteB ?_
  | with_reducible refine k_lrg2 ?_
  | with_reducible refine k_itz ?_
  | with_reducible refine k_nIts ?_
  | with_reducible refine k_inS ?_
  | with_reducible refine k_niS ?_
  | with_reducible refine k_mk ?_
  | with_reducible refine k_meth ?_
  | with_reducible refine k_fld ?_
  | with_reducible refine k_sfld ?_
  | with_reducible refine k_dg ?_
  | with_reducible refine k_dp ?_
  | with_reducible refine k_pr ?_
  | with_reducible refine k_pr0 ?_
  | with_reducible refine k_sg ?_
  | with_reducible refine k_lc2 ?_
  | with_reducible refine k_callN ?_
  | with_reducible refine k_callNS ?_
  | with_reducible refine k_par ?_
  | with_reducible refine k_nPar ?_
  | with_reducible refine k_isNn ?_
  | with_reducible refine k_isNr ?_
  | with_reducible refine k_ntNn ?_
  | with_reducible refine k_ntNr ?_
  | with_reducible refine k_min2 ?_
  | with_reducible refine k_max2 ?_
  | with_reducible refine k_intB ?_
  | with_reducible refine k_intI ?_
  | with_reducible refine k_isBl ?_
  | with_reducible refine k_ntBl ?_
  | ((with_reducible refine' k_var ?kv ?_); (case kv => exact rfl))
  | ((with_reducible refine' k_aug ?kv ?_); (case kv => exact rfl))
  | ((with_reducible refine' k_ix_l ?ks ?ki ?_); (case ks => walk_at "sq"); (case ki => exact rfl))
  | ((with_reducible refine' k_ix_t ?ks ?ki ?_); (case ks => walk_at "st"); (case ki => exact rfl))
  | ((with_reducible refine' k_len_l ?ks ?_); (case ks => walk_at "sq"))
  | ((with_reducible refine' k_len_t ?ks ?_); (case ks => walk_at "st"))
  | ((with_reducible refine' k_setL ?ks ?ki ?_); (case ks => walk_at "hp"); (case ki => exact rfl))
  | ((with_reducible refine' k_nTyL ?ks ?_); (case ks => walk_at "sq"))
  | ((with_reducible refine' k_nItl ?ks ?_); (case ks => walk_at "sq"))
  | ((with_reducible refine' k_nItt ?ks ?_); (case ks => walk_at "st"))
  | ((with_reducible refine' k_nIte ?ks ?_); (case ks => walk_at "sq"))
  | ((with_reducible refine' k_mul ?km ?_); (case km => first | exact Or.inr ⟨by decide, by decide⟩ | exact Or.inl ⟨by decide, by decide⟩))
  | ((with_reducible refine' k_I ?km ?_); (case km => first | assumption | decide | exact ⟨by decide, by decide +kernel⟩ | exact ⟨by decide, by decide, by decide⟩))
  | ((with_reducible refine' k_nMeth ?kp ?kl ?_); (case kp => walk_at "hp"); (case kl => exact rfl))
  | ((with_reducible refine' k_nFld ?kp ?kc ?kn ?kl ?_); (case kp => walk_at "hp"); (case kc => assumption); (case kn => assumption); (case kl => exact rfl))
  | ((with_reducible refine' k_nSFld ?kp ?kc ?kn ?kl ?_); (case kp => walk_at "hp"); (case kc => assumption); (case kn => assumption); (case kl => exact of_decide_eq_true rfl))
  | ((with_reducible refine' k_nDg ?kp ?kl ?_); (case kp => walk_at "hp"); (case kl => exact rfl))
  | ((with_reducible refine' k_nRng1 ?k1 ?k2 ?_); (case k1 => omega); (case k2 => omega))
  | ((with_reducible refine' k_nKw ?k1 ?k2 ?_); (case k1 => exact rfl); (case k2 => exact rfl))
  | ((with_reducible refine' k_hsm ?kh ?_); (case kh => walk_at "hs"))
  | ((with_reducible refine' k_nMethH ?kh ?kl ?_); (case kh => walk_at "hs"); (case kl => exact fun _ _ => rfl))
  | ((with_reducible refine' k_mLet ?kh ?_); (case kh => walk_at "ms"))
  | ((with_reducible refine' k_mChew ?kh ?_); (case kh => walk_at "ms"))
  | ((with_reducible refine' k_mPut ?kh ?_); (case kh => walk_at "ms"))
  | ((with_reducible refine' k_mMost ?kh ?_); (case kh => walk_at "ms"))
  | ((with_reducible refine' k_mCut ?kh ?_); (case kh => walk_at "ms"))
  | ((with_reducible refine' k_mTab ?kh ?_); (case kh => walk_at "md"))
  | ((with_reducible refine' k_mEats ?kh ?_); (case kh => walk_at "md"))
  | ((with_reducible refine' k_gtup ?ks ?kl ?_); (case ks => walk_at "st"); (case kl => exact rfl)))
local macro_rules | `(tactic| walk_at "g") => `(tactic| repeat (walk_at "g1"))
local macro_rules | `(tactic| walk_at "w1") => `(tactic| first
  | walk_at "g1"
  | ((with_reducible refine' k_decT ?kp ?_); (case kp => omega))
  | ((with_reducible refine' k_decF ?kp ?_); (case kp => omega))
  | ((with_reducible refine' k_decNT ?kp ?_); (case kp => omega))
  | ((with_reducible refine' k_decNF ?kp ?_); (case kp => omega)))
local macro_rules | `(tactic| walk_at "w") => `(tactic| repeat (walk_at "w1"))


section
variable {P : Program} {w : World} {K : PySem.W.Frag} {mg : Str → Option Value} {base : Heap} {f : Addr} {fd : FuncData}
/-! ### orders -/
inductive Ord where
  | nm (z : Str)
  | nums (ns : List Int)
deriving DecidableEq
def OrdAt (K : PySem.W.Frag) (H : Hp) (v : V) : Ord → Prop
  | .nm z => v = .str z
  | .nums ns => ∃ p, v = .ref p ∧ SqL K H p (ns.map V.int)
theorem OrdAt.sm {H H' : Hp} {v : V} {o : Ord} (s : Same H H') (h : OrdAt K H v o) : OrdAt K H' v o := by
  cases o with
  | nm z => exact h
  | nums ns =>
    obtain ⟨p, e, h⟩ := h
    exact ⟨p, e, sm_l s h⟩
def dOrd : Ord → PyData
  | .nm z => .str z
  | .nums ns => .list (ns.map .int)
theorem OrdAt.dp {H : Hp} {v : V} {o : Ord} (h : OrdAt K H v o) : Dp K H v (dOrd o) := by
  cases o with
  | nm z => cases (show v = .str z from h); exact .str z
  | nums ns =>
    obtain ⟨p, rfl, h⟩ := h
    exact .lst h (dp_is ns)
/-- an order that can be handed in -/
def OrdFit : Ord → Prop
  | .nm z => Pl z ∧ z.length ≤ 1000
  | .nums ns => ns.length ≤ 1000 ∧ ∀ n ∈ ns, n.natAbs.log2 < 1900
theorem OrdFit.good {o : Ord} (h : OrdFit o) : Good 3 (dOrd o) := by
  cases o with
  | nm z => exact ⟨h.1, by have := h.2; omega⟩
  | nums ns => exact ⟨by rw [List.length_map]; have := h.1; omega, fun e he => by
      obtain ⟨n, hn, rfl⟩ := List.mem_map.mp he
      exact Nat.lt_of_lt_of_le (h.2 n hn) (by decide)⟩
theorem eqv_ordS (o : Ord) (z : Str) : PyData.eqv (dOrd o) (.str z) = decide (o = .nm z) := by
  cases o with
  | nm y =>
    simp only [dOrd, PyData.eqv]
    rw [Bool.eq_iff_iff]
    simp
  | nums ns => simp [dOrd, PyData.eqv]
theorem k_ordEq {H : Hp} {Q : VK} {v : V} {o : Ord} {z : Str} (h : OrdAt K H v o) (hf : OrdFit o) (hz : Good 1 (.str z)) (q : Q (.bl (decide (o = .nm z))) H) : rEqU K v (.str z) H Q := by
  refine k_eq_d h.dp (.str z) (hf.good.shaped (by decide)) (hz.shaped (by decide)) ?_
  rw [eqv_ordS]
  exact q
theorem good_first : Good 1 (.str (Str.ofString "first")) := ⟨pl_B (by decide +kernel), by decide +kernel⟩
theorem good_last : Good 1 (.str (Str.ofString "last")) := ⟨pl_B (by decide +kernel), by decide +kernel⟩
theorem good_longest : Good 1 (.str (Str.ofString "longest")) := ⟨pl_B (by decide +kernel), by decide +kernel⟩
def isOrd : Ord → Bool
  | .nm z => decide (z = Str.ofString "first") || (decide (z = Str.ofString "last") || decide (z = Str.ofString "longest"))
  | .nums ns => ns.all fun n => decide (0 ≤ n)
/-! ### which bite -/
def eaterLen (us : List (List Nat)) (x : Bt × List (List Nat)) : Int := ((us.getD x.1.1 []).length : Nat)
def pickB (us : List (List Nat)) (bs : List (Bt × List (List Nat))) (o : Ord) (k : Nat) : Option (Bt × List (List Nat)) := match o with
  | .nm z => if z = Str.ofString "first" then bs.head? else if z = Str.ofString "last" then bs.getLast? else if z = Str.ofString "longest" then bs.find? (fun x => bs.all fun y => decide (eaterLen us y ≤ eaterLen us x)) else none
  | .nums ns => match ns[k]? with
    | some n => bs[(n % (bs.length : Int)).toNat]?
    | none => none
theorem getLast_at {α : Type} {l : List α} {x : α} (h : l.getLast? = some x) : l[l.length - 1]? = some x := by rw [← List.getLast?_eq_getElem?]; exact h
theorem at_last {xs : List V} {v : V} (h : xs[xs.length - 1]? = some v) (h0 : 0 < xs.length) : atI xs (-1) = some v := by
  unfold atI ixN
  rw [if_neg (by decide), if_pos (by omega)]
  show xs[((xs.length : Int) + -1).toNat]? = some v
  rw [show ((xs.length : Int) + -1).toNat = xs.length - 1 by omega]
  exact h
theorem find_filter {α : Type} (p : α → Bool) (l : List α) : (l.filter p).head? = l.find? p := by
  induction l with
  | nil => rfl
  | cons a l ih =>
    rw [List.filter_cons, List.find?_cons]
    cases h : p a with
    | true => rfl
    | false => exact ih
theorem top_eq {us : List (List Nat)} {bs : List (Bt × List (List Nat))} {m : Int} (h1 : m ∈ bs.map (eaterLen us)) (h2 : ∀ y, y ∈ bs.map (eaterLen us) → y ≤ m) : bs.find? (fun x => decide (eaterLen us x = m)) = bs.find? (fun x => bs.all fun y => decide (eaterLen us y ≤ eaterLen us x)) := by
  have key : ∀ x ∈ bs, (decide (eaterLen us x = m)) = (bs.all fun y => decide (eaterLen us y ≤ eaterLen us x)) := by
    intro x hx
    rw [Bool.eq_iff_iff, decide_eq_true_eq, List.all_eq_true]
    constructor
    · intro e y hy
      rw [decide_eq_true_eq, e]
      exact h2 _ (List.mem_map.mpr ⟨y, hy, rfl⟩)
    · intro h
      obtain ⟨z, hz, e⟩ := List.mem_map.mp h1
      have a := of_decide_eq_true (h z hz)
      have b := h2 _ (List.mem_map.mpr ⟨x, hx, rfl⟩)
      omega
  have gen : ∀ (p q : Bt × List (List Nat) → Bool) (l : List (Bt × List (List Nat))), (∀ x ∈ l, p x = q x) → l.find? p = l.find? q := by
    intro p q l
    induction l with
    | nil => intro _; rfl
    | cons a l ih =>
      intro h
      rw [List.find?_cons, List.find?_cons, h a (List.mem_cons_self ..), ih fun x hx => h x (List.mem_cons_of_mem _ hx)]
  exact gen _ _ _ key
theorem pick_mem {us : List (List Nat)} {bs : List (Bt × List (List Nat))} {o : Ord} {k : Nat} {x : Bt × List (List Nat)} (h : pickB us bs o k = some x) : x ∈ bs := by
  unfold pickB at h
  cases o with
  | nm z =>
    dsimp only at h
    by_cases h1 : z = Str.ofString "first"
    · rw [if_pos h1] at h
      exact List.mem_of_head? h
    rw [if_neg h1] at h
    by_cases h2 : z = Str.ofString "last"
    · rw [if_pos h2] at h
      exact List.mem_of_getLast? h
    rw [if_neg h2] at h
    by_cases h3 : z = Str.ofString "longest"
    · rw [if_pos h3] at h
      exact List.mem_of_find?_eq_some h
    rw [if_neg h3] at h
    cases h
  | nums ns =>
    dsimp only at h
    cases e : ns[k]? with
    | none => rw [e] at h; cases h
    | some n => rw [e] at h; exact List.mem_of_getElem? h
theorem pick_some {us : List (List Nat)} {bs : List (Bt × List (List Nat))} {o : Ord} {k : Nat} (h0 : bs ≠ []) (ho : isOrd o = true) (hk : ∀ ns, o = .nums ns → k < ns.length) : ∃ x, pickB us bs o k = some x := by
  have l0 : 0 < bs.length := List.length_pos_iff.mpr h0
  cases o with
  | nm z =>
    unfold isOrd at ho
    dsimp only at ho
    by_cases h1 : z = Str.ofString "first"
    · refine ⟨bs.head h0, ?_⟩
      show (if z = _ then _ else _) = _
      rw [if_pos h1]
      exact List.head?_eq_some_head h0
    by_cases h2 : z = Str.ofString "last"
    · refine ⟨bs.getLast h0, ?_⟩
      show (if z = _ then _ else _) = _
      rw [if_neg h1, if_pos h2]
      exact List.getLast?_eq_some_getLast h0
    have h3 : z = Str.ofString "longest" := by
      rw [decide_eq_false h1, decide_eq_false h2, Bool.false_or, Bool.false_or] at ho
      exact of_decide_eq_true ho
    show ∃ x, (if z = _ then _ else _) = _
    rw [if_neg h1, if_neg h2, if_pos h3]
    have ex : ∃ x ∈ bs, ∀ y ∈ bs, eaterLen us y ≤ eaterLen us x := by
      clear ho h1 h2 h3 hk l0
      induction bs with
      | nil => exact absurd rfl h0
      | cons a l ih =>
        by_cases hl : l = []
        · subst hl
          exact ⟨a, List.mem_cons_self .., fun y hy => by rw [List.mem_singleton.mp hy]; exact Int.le_refl _⟩
        · obtain ⟨x, hx, hm⟩ := ih hl
          by_cases hle : eaterLen us a ≤ eaterLen us x
          · exact ⟨x, List.mem_cons_of_mem _ hx, fun y hy => (List.mem_cons.mp hy).elim (fun e => by rw [e]; exact hle) (hm y)⟩
          · exact ⟨a, List.mem_cons_self .., fun y hy => (List.mem_cons.mp hy).elim (fun e => by rw [e]; exact Int.le_refl _) fun h => by have := hm y h; omega⟩
    obtain ⟨x, hx, hm⟩ := ex
    cases e : bs.find? (fun x => bs.all fun y => decide (eaterLen us y ≤ eaterLen us x)) with
    | some y => exact ⟨y, rfl⟩
    | none =>
      have := List.find?_eq_none.mp e x hx
      exact absurd (List.all_eq_true.mpr fun y hy => decide_eq_true (hm y hy)) this
  | nums ns =>
    have hk := hk ns rfl
    show ∃ x, (match ns[k]? with | some n => _ | none => none) = some x
    rw [List.getElem?_eq_getElem hk]
    have m1 := Int.emod_lt_of_pos ns[k] (show (0 : Int) < bs.length by omega)
    have m0 := Int.emod_nonneg ns[k] (show (bs.length : Int) ≠ 0 by omega)
    exact ⟨_, List.getElem?_eq_getElem (show (ns[k] % (bs.length : Int)).toNat < bs.length by omega)⟩
def spPicked (K : PySem.W.Frag) : Sp := fun vs H Q _ => ∃ (pf r : Addr) (H0 : Hp) (v : V) (o : Ord) (k : Nat) (us : List (List Nat)) (bs : List (Bt × List (List Nat))) (ws : List V) (x : Bt × List (List Nat)), vs = [.ref pf, .ref r, v, .int (k : Nat)] ∧ SqL K H pf ws ∧ BmAll K H0 H ws bs ∧ SqL K H r (tS us) ∧ OrdAt K H v o ∧ OrdFit o ∧
  bs.length ≤ 20000 ∧ (∀ y ∈ bs, y.1.1 < us.length) ∧ (∀ u ∈ us, u.length ≤ 1000) ∧ pickB us bs o k = some x ∧ ∀ v H', Same H H' → BmAt K H0 H' v x → Q v H'
theorem ok_picked (F : FnP K "picked" s_picked f fd) (hm : mg "picked" = some (.ref f)) (f_len : mg "len" = none) (f_max : mg "max" = none) : Callee P w K mg base CX0 "picked" 1 [] (spPicked K) := by
  refine ⟨f, fd, _, [], F.ok sc_picked (fun vs H Q E h => ?hl) (fun cdv A outer s H vs Q E hr h => ⟨_, PSs.nox (pss_cons (ps_if (pt_cmpR (op_eqK K hr.units) (pv 2) pe_str (nomark _)) (pss_one (ps_ret (pe_ix (ix_k K) (pv 0) pe_int (fun _ _ => rfl)))) pss_nil)
      (pss_cons (ps_if (pt_cmpR (op_eqK K hr.units) (pv 2) pe_str (nomark _)) (pss_one (ps_ret (pe_ix (ix_k K) (pv 0) (pe_un un_neg pe_int) (fun _ _ => rfl)))) pss_nil)
      (pss_cons (ps_if (pt_cmpR (op_eqK K hr.units) (pv 2) pe_str (nomark _)) (pss_cons (ps_set (i := 4) sc_picked.nd rfl (by first | exact Or.inl rfl | exact Or.inr rfl) (pe_callB (cr_maxK K) (by rfl) f_max (by decide +kernel) (pa_cons (pe_lc (own := [("made", 7), ("place", 5), ("side", 6)]) rfl sc_picked.nd (pi_listK K (pv 0)) (blkOk_by (N := ["found", "row", "order", "number", "longest", "place", "side", "made", "one"]) (sc := defScope s_picked) (by decide +kernel)) (fun _ _ _ _ _ => (pg_tupK K 2 (by rfl) (pgs_cons (pg_tupK K 2 (by rfl) (pgs_cons (pg_name (i := 5) sc_picked.nd rfl (by first | exact Or.inl rfl | exact Or.inr rfl)) (pgs_cons (pg_name (i := 6) sc_picked.nd rfl (by first | exact Or.inl rfl | exact Or.inr rfl)) pgs_nil))) (pgs_cons (pg_name (i := 7) sc_picked.nd rfl (by first | exact Or.inl rfl | exact Or.inr rfl)) pgs_nil)))) (fun _ _ _ _ _ => pts_nil) (fun _ _ _ _ _ => (pe_callB (call_lenK K) (by rfl) f_len PySem.boot_len (pa_cons (pe_ix (ix_k K) (pv 1) (pv 5) (fun _ _ => rfl)) pa_nil)))) pa_nil)))
      (pss_one (ps_ret (pe_ix (ix_k K) (pe_lc (own := [("one", 8)]) rfl sc_picked.nd (pi_listK K (pv 0)) (blkOk_by (N := ["found", "row", "order", "number", "longest", "place", "side", "made", "one"]) (sc := defScope s_picked) (by decide +kernel)) (fun _ _ _ _ _ => (pg_name (i := 8) sc_picked.nd rfl (by first | exact Or.inl rfl | exact Or.inr rfl))) (fun _ _ _ _ _ => (pts_one (pt_cmpR (op_eqK K hr.units) (pe_callB (call_lenK K) (by rfl) f_len PySem.boot_len (pa_cons (pe_ix (ix_k K) (pv 1) (pe_ix (ix_k K) (pe_ix (ix_k K) (pv 8) pe_int (fun _ _ => rfl)) pe_int (fun _ _ => rfl)) (fun _ _ => rfl)) pa_nil)) (pv 4) (nomark _)))) (fun _ _ _ _ _ => (pv 8))) pe_int (fun _ _ => rfl))))) pss_nil)
      (pss_one (ps_ret (pe_ix (ix_k K) (pv 0) (pe_op op_mod (pe_ix (ix_k K) (pv 2) (pv 3) (fun _ _ => rfl)) (pe_callB (call_lenK K) (by rfl) f_len PySem.boot_len (pa_cons (pv 0) pa_nil))) (fun _ _ => rfl))))))), ?rd⟩), hm, F.kp, F.bindsN fun _ _ _ _ _ _ us hl => match us, hl with | [_, _, _, _], _ => rfl, .nil⟩
  case hl =>
    obtain ⟨pf, r, H0, v, o, k, us, bs, ws, x, rfl, _⟩ := h
    rfl
  case rd =>
    obtain ⟨pf, r, H0, v, o, k, us, bs, ws, x, rfl, hpf, hd, hx, ho, hf, lb, hlt, hul, hp, q⟩ := h
    refine k_start (σ' := [some _, some _, some _, some _, none, none, none, none, none]) rfl ?_
    have lw := hd.len
    have hmem := pick_mem hp
    have l0 : 0 < bs.length := List.length_pos_of_mem hmem
    have give : ∀ (i : Nat) (z : Int) (H' : Hp), Same H H' → bs[i]? = some x → atI ws z = ws[i]? → ∃ v, atI ws z = some v ∧ BmAt K H0 H' v x := fun i z H' s e ea => by
      obtain ⟨v, h1, h2⟩ := hd.at e
      exact ⟨v, by rw [ea, h1], h2.sm s⟩
    walk_at "g"
    refine k_ordEq ho hf good_first ?_
    walk_at "g"
    refine k_dec (fun d1 => ?_) (fun d1 => ?_)
    · subst d1
      have e0 : bs[0]? = some x := by rw [← List.head?_eq_getElem?]; exact hp
      obtain ⟨y, h1, h2⟩ := give 0 0 H (Same.refl _) e0 (by unfold atI ixN; rw [if_pos (by decide), if_pos (by omega)]; rfl)
      walk_at "g"
      exact k_ix_l hpf h1 (q _ _ (Same.refl _) h2)
    walk_at "g"
    refine k_ordEq ho hf good_last ?_
    walk_at "g"
    refine k_dec (fun d2 => ?_) (fun d2 => ?_)
    · subst d2
      have e0 : bs[bs.length - 1]? = some x := by
        refine getLast_at ?_
        have hp2 : (if Str.ofString "last" = Str.ofString "first" then bs.head? else if Str.ofString "last" = Str.ofString "last" then bs.getLast? else if Str.ofString "last" = Str.ofString "longest" then bs.find? (fun x => bs.all fun y => decide (eaterLen us y ≤ eaterLen us x)) else none) = some x := hp
        rw [if_neg (by decide +kernel), if_pos rfl] at hp2
        exact hp2
      obtain ⟨y, h1, h2⟩ := give (bs.length - 1) (-1) H (Same.refl _) e0 (by
        unfold atI ixN
        rw [if_neg (by decide), if_pos (by omega)]
        show ws[((ws.length : Int) + -1).toNat]? = _
        congr 1
        omega)
      walk_at "g"
      exact k_ix_l hpf h1 (q _ _ (Same.refl _) h2)
    walk_at "g"
    refine k_ordEq ho hf good_longest ?_
    walk_at "g"
    refine k_dec (fun d3 => ?_) (fun d3 => ?_)
    · subst d3
      have hp3 : bs.find? (fun x => bs.all fun y => decide (eaterLen us y ≤ eaterLen us x)) = some x := by
        have hp2 : (if Str.ofString "longest" = Str.ofString "first" then bs.head? else if Str.ofString "longest" = Str.ofString "last" then bs.getLast? else if Str.ofString "longest" = Str.ofString "longest" then bs.find? (fun x => bs.all fun y => decide (eaterLen us y ≤ eaterLen us x)) else none) = some x := hp
        rw [if_neg (by decide +kernel), if_neg (by decide +kernel), if_pos rfl] at hp2
        exact hp2
      have word_at : ∀ y ∈ bs, ∃ u, us[y.1.1]? = some u ∧ u.length ≤ 1000 ∧ eaterLen us y = (u.length : Nat) := fun y hy => by
        have h1 := hlt y hy
        refine ⟨us[y.1.1], List.getElem?_eq_getElem h1, hul _ (List.getElem_mem h1), ?_⟩
        unfold eaterLen
        rw [List.getD_eq_getElem?_getD, List.getElem?_eq_getElem h1]
        rfl
      walk_at "g"
      refine k_nLc (walk_list (xs := ws)) (fun H' s => sm_l s hpf) (fun i zs => zs = ((bs.take i).map (eaterLen us)).map V.int) rfl (fun i zs hi h => ?hz) (fun i y Ha Hb zs Kp Ks hi sa hzs hy hKp hKs => ?ht) (fun p2 H2 zs n2 s2 e2 hzs => ?he)
      case hz =>
        rw [h, List.length_map, List.length_map, List.length_take]
        omega
      case ht =>
        obtain ⟨rfl, hv⟩ := hy
        obtain ⟨z, hz1, hd2⟩ := hd.get hv
        obtain ⟨t, tb, tr, rfl, t1, t2, t3, _⟩ := id hd2
        obtain ⟨u, u1, u2, u3⟩ := word_at z (List.mem_of_getElem? hz1)
        have t1a := sm_t sa t1
        have t2a := sm_t sa t2
        have lu := len_tx u
        walk_at "g"
        refine ⟨rfl, ?_⟩
        walk_at "g"
        refine k_ix_l (sm_l sa hx) (at_n rfl (getS u1)) ?_
        walk_at "g"
        refine k_len_s (by omega) ?_
        rw [lu, ← u3]
        exact hKp _ _ (Same.refl _) (by rw [hzs, take_more hz1, List.map_append, List.map_append]; rfl)
      case he =>
        rw [lw, List.take_length] at hzs
        subst hzs
        walk_at "g"
        refine k_max (sq_l e2) (by rw [List.length_map]; exact l0) (fun m m1 m2 => ?_)
        walk_at "g"
        refine k_nLcD (walk_list (xs := ws)) (fun H' s => sm_l s (sm_l s2 hpf)) (fun i zs H1 => BmAll K H0 H1 zs ((bs.take i).filter fun x => decide (eaterLen us x = m))) (fun i zs Ha Hb s h => h.sm s) trivial (fun i zs Ha hi h => ?hz2) (fun i y p Ha Hb zs Kp Ks hi hp2 sa ea hzs hy hKp hKs => ?ht2) (fun p3 H3 zs n3 s3 e3 hzs => ?he2)
        case hz2 =>
          have := h.len
          have h2 := List.length_filter_le (fun x => decide (eaterLen us x = m)) (bs.take i)
          rw [List.length_take] at h2
          omega
        case ht2 =>
          obtain ⟨rfl, hv⟩ := hy
          obtain ⟨z, hz1, hd2⟩ := hd.get hv
          obtain ⟨t, tb, tr, rfl, t1, t2, t3, _⟩ := id hd2
          obtain ⟨u, u1, u2, u3⟩ := word_at z (List.mem_of_getElem? hz1)
          have t1a := sm_t (s2.trans sa) t1
          have t2a := sm_t (s2.trans sa) t2
          have lu := len_tx u
          walk_at "g"
          refine ⟨rfl, ?_⟩
          walk_at "g"
          refine k_ix_l (sm_l sa (sm_l s2 hx)) (at_n rfl (getS u1)) ?_
          walk_at "g"
          refine k_len_s (by omega) ?_
          rw [lu, ← u3]
          walk_at "g"
          refine k_dec (fun d => ?_) (fun d => ?_)
          · walk_at "g"
            refine hKp _ _ (Same.refl _) ?_
            rw [take_more hz1, List.filter_append, show [z].filter (fun x => decide (eaterLen us x = m)) = [z] by simp [d]]
            exact hzs.app ((hd2.sm s2).sm (sm_sep hp2 sa))
          · walk_at "g"
            refine hKs _ (Same.refl _) ?_
            rw [take_more hz1, List.filter_append, show [z].filter (fun x => decide (eaterLen us x = m)) = [] by simp [d]]
            simpa using hzs
        case he2 =>
          rw [lw, List.take_length] at hzs
          have e0 : (bs.filter fun x => decide (eaterLen us x = m))[0]? = some x := by
            rw [← List.head?_eq_getElem?, find_filter, top_eq m1 m2]
            exact hp3
          obtain ⟨y, h1, h2⟩ := hzs.at e0
          walk_at "g"
          exact k_ix_l (sq_l e3) (at_n (j := 0) rfl h1) (q _ _ (s2.trans s3) h2)
    cases o with
    | nm z =>
      have hp2 : (if z = Str.ofString "first" then bs.head? else if z = Str.ofString "last" then bs.getLast? else if z = Str.ofString "longest" then bs.find? (fun x => bs.all fun y => decide (eaterLen us y ≤ eaterLen us x)) else none) = some x := hp
      rw [if_neg fun e => d1 (by rw [e]), if_neg fun e => d2 (by rw [e]), if_neg fun e => d3 (by rw [e])] at hp2
      cases hp2
    | nums ns =>
      obtain ⟨p, rfl, hp1⟩ := ho
      have hp2 : (match ns[k]? with | some n => bs[(n % (bs.length : Int)).toNat]? | none => none) = some x := hp
      cases e : ns[k]? with
      | none => rw [e] at hp2; cases hp2
      | some n =>
        rw [e] at hp2
        dsimp only at hp2
        have m1 := Int.emod_lt_of_pos n (show (0 : Int) < bs.length by omega)
        have m0 := Int.emod_nonneg n (show (bs.length : Int) ≠ 0 by omega)
        obtain ⟨y, h1, h2⟩ := hd.at hp2
        walk_at "g"
        refine k_ix_l hp1 (at_n (j := k) rfl (by rw [List.getElem?_map, e]; rfl)) ?_
        walk_at "g"
        refine k_I (show (0 : Int) < (ws.length : Nat) by omega) ?_
        rw [lw]
        exact k_ix_l hpf (at_pos m0 h1) (q _ _ (Same.refl _) h2)
/-! ### a run -/
def runF (S : HsD) (o : Ord) : Nat → Nat → List (List Nat) → List (List Nat) × List Bt
  | 0, _, us => (us, [])
  | n + 1, k, us => match pickB us (bitesF S us) o k with
    | none => (us, [])
    | some x => ((runF S o n (k + 1) x.2).1, x.1 :: (runF S o n (k + 1) x.2).2)
theorem runF_none {S : HsD} {o : Ord} {n k : Nat} {us : List (List Nat)} (h : pickB us (bitesF S us) o k = none) : runF S o (n + 1) k us = (us, []) := by
  show (match pickB us (bitesF S us) o k with | none => _ | some x => _) = _
  rw [h]
theorem runF_some {S : HsD} {o : Ord} {n k : Nat} {us : List (List Nat)} {x : Bt × List (List Nat)} (h : pickB us (bitesF S us) o k = some x) : runF S o (n + 1) k us = ((runF S o n (k + 1) x.2).1, x.1 :: (runF S o n (k + 1) x.2).2) := by
  show (match pickB us (bitesF S us) o k with | none => _ | some x => _) = _
  rw [h]
theorem pick_nil {us : List (List Nat)} {o : Ord} {k : Nat} : pickB us [] o k = none := by
  cases e : pickB us [] o k with
  | none => rfl
  | some x => exact absurd (pick_mem e) List.not_mem_nil
def boundF (o : Ord) (most : Nat) : Nat := match o with
  | .nm _ => most
  | .nums ns => min most ns.length
def spGone (K : PySem.W.Frag) : Sp := fun vs H Q _ => ∃ (a r : Addr) (v : V) (S : HsD) (us : List (List Nat)) (o : Ord) (most : Nat), vs = [.ref a, .ref r, v, .int (most : Nat)] ∧ HsAt K H a S ∧ HsOk S ∧ H r = some (.lst (tS us)) ∧ AllW S us ∧ OrdAt K H v o ∧ OrdFit o ∧ isOrd o = true ∧ us.length + 8 * most ≤ 10000 ∧
  ∀ T p ps ws H', H T = none → Same H H' → H' T = some (.tup [.ref p, .ref ps]) → (p = r ∨ H p = none) → H ps = none → ps ≠ p → H' p = some (.lst (tS (runF S o (boundF o most) 0 us).1)) → H' ps = some (.lst ws) → DpAll K H' ws ((runF S o (boundF o most) 0 us).2.map dBt) → Q (.ref T) H'
theorem ok_gone (F : FnP K "gone" s_gone f fd) (hm : mg "gone" = some (.ref f)) (f_len : mg "len" = none) (f_min : mg "min" = none) (f_isinstance : mg "isinstance" = none) (f_str : mg "str" = none) (c_bites_of : Callee P w K mg base CX0 "bites_of" 4 [] (spBitesOf K)) (c_picked : Callee P w K mg base CX0 "picked" 1 [] (spPicked K)) : Callee P w K mg base CX0 "gone" 5 [] (spGone K) := by
  refine ⟨f, fd, _, [], F.ok sc_gone (fun vs H Q E h => ?hl) (fun cdv A outer s H vs Q E hr h => ⟨_, PSs.nox (pss_cons (ps_set (i := 4) sc_gone.nd rfl (by first | exact Or.inl rfl | exact Or.inr rfl) (pv 1))
      (pss_cons (ps_set (i := 5) sc_gone.nd rfl (by first | exact Or.inl rfl | exact Or.inr rfl) (pe_lst pa_nil))
      (pss_cons (ps_set (i := 6) sc_gone.nd rfl (by first | exact Or.inl rfl | exact Or.inr rfl) (pe_ifExp (pt_val (pe_callB (call_isiK K) (by rfl) f_isinstance (by decide +kernel) (pa_cons (pv 2) (pa_cons (pe_bltn (v := .ty "str") (by rfl) f_str (by decide +kernel) rfl) pa_nil)))) (pv 3) (pe_callB call_minK (by rfl) f_min (by decide +kernel) (pa_cons (pv 3) (pa_cons (pe_callB (call_lenK K) (by rfl) f_len PySem.boot_len (pa_cons (pv 2) pa_nil)) pa_nil)))))
      (pss_cons (ps_while PassesOwn.never (pt_cmpR op_lt (pe_callB (call_lenK K) (by rfl) f_len PySem.boot_len (pa_cons (pv 5) pa_nil)) (pv 6) (nomark _)) (pss_cons (ps_set (i := 7) sc_gone.nd rfl (by first | exact Or.inl rfl | exact Or.inr rfl) (pe_cl c_bites_of hr (pa_cons (pv 0) (pa_cons (pv 4) pa_nil)) pass0))
      (pss_cons (ps_if (pt_cmpR (op_eqK K hr.units) (pv 7) (pe_lst pa_nil) (nomark _)) (pss_one (ps_ret (pe_tup (pa_cons (pv 4) (pa_cons (pv 5) pa_nil))))) pss_nil)
      (pss_cons (ps_asg (pe_cl c_picked hr (pa_cons (pv 7) (pa_cons (pv 4) (pa_cons (pv 2) (pa_cons (pe_callB (call_lenK K) (by rfl) f_len PySem.boot_len (pa_cons (pv 5) pa_nil)) pa_nil)))) pass0) (pg_tupK K 2 (by rfl) (pgs_cons (pg_name (i := 8) sc_gone.nd rfl (by first | exact Or.inl rfl | exact Or.inr rfl)) (pgs_cons (pg_name (i := 4) sc_gone.nd rfl (by first | exact Or.inl rfl | exact Or.inr rfl)) pgs_nil))))
      (pss_one (ps_expr (pe_bmK K PySem.F.plainAttrs_list PySem.F.slot_list_append PySem.F.type_list_append mt_append (pv 5) (pa_cons (pv 8) pa_nil))))))))
      (pss_one (ps_ret (pe_tup (pa_cons (pv 4) (pa_cons (pv 5) pa_nil))))))))), ?rd⟩), hm, F.kp, F.bindsN fun _ _ _ _ _ _ us hl => match us, hl with | [_, _, _, _], _ => rfl, .nil⟩
  case hl =>
    obtain ⟨a, r, v, S, us, o, most, rfl, _⟩ := h
    rfl
  case rd =>
    obtain ⟨a, r, v, S, us, o, most, rfl, hs, ok, hx, hw, ho, hf, hg, lu, q⟩ := h
    refine k_start (σ' := [some _, some _, some _, some _, none, none, none, none, none]) rfl ?_
    walk_at "g"
    refine k_nLst (by walk_at "sz") (fun ps H1 n1 s1 e1 => ?_)
    have nrp : r ≠ ps := ne_of_none hx n1
    with_reducible refine k_name ?_
    with_reducible refine k_seq ?_
    with_reducible refine k_asg ?_
    refine k_val (.int (boundF o most : Nat)) (fun Q' hQ => ?_) (fun H2 s2 => ?_)
    · have ho1 := ho.sm s1
      walk_at "g"
      refine k_isiS ho1.dp ?_
      cases o with
      | nm z =>
        cases (show v = .str z from ho1)
        walk_at "g"
        refine (show nIte true _ _ from ?_)
        walk_at "g"
        exact hQ _ (Same.refl _)
      | nums ns =>
        obtain ⟨p, rfl, hp⟩ := ho1
        walk_at "g"
        refine (show nIte false _ _ from ?_)
        have ln : (ns.map V.int).length = ns.length := List.length_map _
        walk_at "g"
        rw [ln]
        walk_at "g"
        have e : (min (most : Int) (ns.length : Int)) = ((boundF (.nums ns) most : Nat) : Int) := by
          show _ = ((min most ns.length : Nat) : Int)
          omega
        rw [e]
        exact hQ _ (Same.refl _)
    have lb : boundF o most ≤ most := by
      cases o with
      | nm z => exact Nat.le_refl _
      | nums ns => exact Nat.min_le_left ..
    have lk : ∀ ns, o = .nums ns → boundF o most ≤ ns.length := fun ns e => by
      subst e
      exact Nat.min_le_right ..
    walk_at "g"
    have s12 := s1.trans s2
    refine k_while (fun mm σ H' => ∃ (p : Addr) (y7 y8 : Option V) (cur : List (List Nat)) (dn : List Bt) (ws : List V), σ = [some (.ref a), some (.ref r), some v, some (.int (most : Nat)), some (.ref p), some (.ref ps), some (.int (boundF o most : Nat)), y7, y8] ∧ Same H H' ∧ (p = r ∨ H p = none) ∧ p ≠ ps ∧ H' p = some (.lst (tS cur)) ∧ AllW S cur ∧ H' ps = some (.lst ws) ∧ DpAll K (del H' ps) ws (dn.map dBt) ∧ dn.length ≤ boundF o most ∧ cur.length ≤ us.length + 8 * dn.length ∧ mm = boundF o most - dn.length ∧ (runF S o (boundF o most) 0 us) = ((runF S o (boundF o most - dn.length) dn.length cur).1, dn ++ (runF S o (boundF o most - dn.length) dn.length cur).2))
      ⟨_, r, _, _, us, [], [], rfl, s12, .inl rfl, nrp, s12 _ _ hx, hw, s2 _ _ e1, .nil, Nat.zero_le _, Nat.le_refl _, rfl, rfl⟩ (fun mm σ H' h => ?hw)
    obtain ⟨p, y7, y8, cur, dn, ws, rfl, sa, pr, npp, ep, hc, es, ds, ld, lc, rfl, hrun⟩ := h
    have lw := dpall_len ds
    rw [List.length_map] at lw
    walk_at "g"
    rw [lw]
    have fin : ∀ Hx, Same H' Hx → Hx p = some (.lst (tS cur)) → (runF S o (boundF o most) 0 us) = (cur, dn) → ∀ T, H' T = none → Hx T = some (.tup [.ref p, .ref ps]) → Q (.ref T) Hx := fun Hx sx ex er T nT eT =>
      q T p ps ws Hx (sa.free nT) (sa.trans sx) eT pr n1 (Ne.symm npp) (by rw [er]; exact ex) (sx _ _ es) (by rw [er]; exact dpall_sm (sm_del.trans sx) ds)
    refine k_turnD (fun d => k_turnT ?_) (fun d => k_turnF ?_)
    · walk_at "g"
      refine ⟨a, p, S, cur, rfl, hs.sm sa, ok, sq_l ep, hc, by omega, fun pf fs H3 n3 s3 e3 d3 => ?_⟩
      have ep3 := s3 _ _ ep
      walk_at "g"
      refine k_nLst (by walk_at "sz") (fun p4 H4 n4 s4 e4 => ?_)
      have ep4 := s4 _ _ ep3
      refine k_bmNil ok hc (by omega) (sq_l (s4 _ _ e3)) (d3.sm s4).dp (sq_l e4) ?_
      walk_at "g"
      have s34 := s3.trans s4
      have e5 : boundF o most - dn.length = (boundF o most - (dn.length + 1)) + 1 := by omega
      refine k_dec (fun dz => ?_) (fun dz => ?_)
      · walk_at "g"
        refine k_nTup (by walk_at "sz") (fun T H5 n5 s5 e5' => ?_)
        refine fin H5 (s34.trans s5) (s5 _ _ ep4) ?_ T (s34.free n5) e5'
        rw [hrun, e5, runF_none (by rw [dz]; exact pick_nil), List.append_nil]
      · obtain ⟨x, hp⟩ := pick_some (us := cur) (k := dn.length) dz hg (fun ns e => by have := lk ns e; omega)
        have hbm := pick_mem hp
        obtain ⟨hb1, hb2⟩ := bitesF_in.mp hbm
        obtain ⟨hw2, lm⟩ := behF_words ok hc hb2
        walk_at "g"
        have lbs : (bitesF S cur).length ≤ 2 * cur.length := flat_len (S := S) (us := cur) cur.length
        have es4 := s34 _ _ es
        refine (show spPicked K ([.ref pf, .ref p, v, .int ((ws.length : Nat) : Int)] ++ []) H4 _ _ from ?_)
        rw [lw]
        refine ⟨pf, p, H', v, o, dn.length, cur, bitesF S cur, fs, x, rfl, sq_l (s4 _ _ e3), d3.sm s4, sq_l ep4, (ho.sm sa).sm s34, hf, by omega, fun y hy => (bitesF_in.mp hy).1, fun u hu => by have := (hc.len ok) u hu; omega, hp, fun vv H5 s5 d5 => ?_⟩
        obtain ⟨t, tb, tr, rfl, t1, t2, t3, t4⟩ := d5
        have s35 := s34.trans s5
        have es5 := s5 _ _ es4
        walk_at "g"
        refine k_append es5 (by omega) ?_
        have ntr : tr ≠ ps := Ne.symm (ne_of_none es t4)
        walk_at "g"
        refine ⟨_, ?_, tr, _, _, x.2, dn ++ [x.1], ws ++ [.ref tb], rfl, sm_mut (sa.trans s35) n1, .inr (sa.free t4), ntr, ?_, hw2, upd_same, ?_, ?_, ?_, rfl, ?_⟩
        · rw [List.length_append, List.length_singleton]
          omega
        · rw [upd_ne ntr]
          exact t3
        · rw [del_upd, List.map_append]
          exact dpall_app (dpall_sm (del_mono s35) ds) (.tup (del_t es5 t2) (.cons (.int _) (.cons (.str _) .nil)))
        · rw [List.length_append, List.length_singleton]
          omega
        · rw [List.length_append, List.length_singleton]
          omega
        · rw [hrun, e5, runF_some hp, List.length_append, List.length_singleton, List.append_assoc]
          rfl
    · walk_at "g"
      refine k_nTup (by walk_at "sz") (fun T H5 n5 s5 e5' => ?_)
      refine fin H5 s5 (s5 _ _ ep) ?_ T n5 e5'
      rw [hrun, show boundF o most - dn.length = 0 by omega]
      show (cur, dn ++ []) = _
      rw [List.append_nil]
end
end Lw
set_option autoImplicit true
set_option pp.maxSteps 1200
set_option Elab.async false
set_option linter.all false
set_option maxRecDepth 100000
set_option maxHeartbeats 1000000
namespace Lw
open PySem PySem.Spec PyProof.Rows L2 Gk
section
variable {K : PySem.W.Frag}
/-! ### bites by what stands ahead and behind -/
theorem biteF_mid {S : HsD} (A C : List (List Nat)) (x y : List Nat) (b : Bool) : biteF S (A ++ x :: y :: C) A.length b = if eatsF S b (if b = true then x else y) (if b = true then y else x) = true then (if madeF S b x y = [x, y] then none else some (A ++ madeF S b x y ++ C)) else none := by
  have g1 : (A ++ x :: y :: C)[A.length]? = some x := by simp
  have g2 : (A ++ x :: y :: C)[A.length + 1]? = some y := by simp
  have t1 : (A ++ x :: y :: C).take A.length = A := by simp
  have t2 : (A ++ x :: y :: C).drop (A.length + 2) = C := by simp
  rw [biteF_some g1 g2, t1, t2]
  have e : (A ++ madeF S b x y ++ C = A ++ x :: y :: C) = (madeF S b x y = [x, y]) := by
    apply propext
    rw [List.append_assoc, List.append_cancel_left_eq, show x :: y :: C = [x, y] ++ C from rfl, List.append_cancel_right_eq]
  simp only [e]
theorem behF_split {S : HsD} {us m : List (List Nat)} {place : Int} {b : Bool} (h : behF S us place b = some m) : ∃ (A : List (List Nat)) (x y : List Nat) (C : List (List Nat)), us = A ++ x :: y :: C ∧ (if b = true then place else place - 1) = (A.length : Int) ∧ eatsF S b (if b = true then x else y) (if b = true then y else x) = true ∧ madeF S b x y ≠ [x, y] ∧ m = A ++ madeF S b x y ++ C := by
  obtain ⟨low, x, y, h1, h2, hl, he, hm, ne⟩ := behF_of h
  have l2 := (List.getElem?_eq_some_iff.mp h2).1
  have e1 : us.drop low = x :: us.drop (low + 1) := by
    rw [List.drop_eq_getElem_cons (by omega)]
    congr 1
    exact Option.some.inj ((List.getElem?_eq_getElem _).symm.trans h1)
  have e2 : us.drop (low + 1) = y :: us.drop (low + 2) := by
    rw [List.drop_eq_getElem_cons l2]
    congr 1
    exact Option.some.inj ((List.getElem?_eq_getElem _).symm.trans h2)
  have e := (List.take_append_drop low us).symm
  rw [e1, e2] at e
  refine ⟨us.take low, x, y, us.drop (low + 2), e, by rw [hl, List.length_take]; omega, he, fun z => ne ?_, hm⟩
  rw [hm, z, List.append_assoc]
  exact e.symm
theorem behF_mid {S : HsD} {A C : List (List Nat)} {x y : List Nat} {place : Int} {b : Bool} (hl : (if b = true then place else place - 1) = (A.length : Int)) (he : eatsF S b (if b = true then x else y) (if b = true then y else x) = true) (hn : madeF S b x y ≠ [x, y]) : behF S (A ++ x :: y :: C) place b = some (A ++ madeF S b x y ++ C) := by
  unfold behF
  rw [hl, if_pos (by omega), show ((A.length : Int)).toNat = A.length from rfl, biteF_mid, if_pos he, if_neg hn]
/-! ### letters -/
/-! ### ends -/
/-! ### runs -/
theorem runF_words {S : HsD} (ok : HsOk S) {o : Ord} : ∀ (n k : Nat) (us : List (List Nat)), AllW S us → AllW S (runF S o n k us).1 ∧ (runF S o n k us).1.length ≤ us.length + 8 * n ∧ (runF S o n k us).2.length ≤ n
  | 0, _, us, h => ⟨h, Nat.le_refl _, Nat.le_refl _⟩
  | n + 1, k, us, h => by
    cases e : pickB us (bitesF S us) o k with
    | none =>
      rw [runF_none e]
      exact ⟨h, Nat.le_add_right .., Nat.zero_le _⟩
    | some x =>
      rw [runF_some e]
      obtain ⟨h1, h2⟩ := behF_words ok h (bitesF_in.mp (pick_mem e)).2
      obtain ⟨a, b, c⟩ := runF_words ok n (k + 1) x.2 h1
      exact ⟨a, by dsimp only; omega, by rw [List.length_cons]; omega⟩
end
end Lw
namespace Lw
open PySem PySem.Spec PyProof.Rows L2 Gk
open PySem.W (AllAlike Sortable dataLe dataLt)
/-! ### meetings, in plain Lean -/
abbrev Rw : Type := List (List Nat)
theorem lv_nodup {ls : List Nat} (h : ls.Nodup) : ∀ n, (lv ls n).Nodup
  | 0 => List.pairwise_singleton _ _
  | n + 1 => by
    show ((lv ls n).flatMap _).Nodup
    refine List.pairwise_flatMap.mpr ⟨fun u _ => List.pairwise_map.mpr (h.imp fun ne e => ne (by simpa using e)), (lv_nodup h n).imp fun {u v} ne x hx y hy e => ne ?_⟩
    obtain ⟨c, _, rfl⟩ := List.mem_map.mp hx
    obtain ⟨d, _, rfl⟩ := List.mem_map.mp hy
    exact (List.append_inj' e rfl).1
theorem words_nodup {S : HsD} (ok : HsOk S) : (wordsF S.ls S.mo.toNat).Nodup := by
  refine List.pairwise_flatMap.mpr ⟨fun i _ => lv_nodup (rise_nodup ok.rise) (i + 1), List.nodup_range.imp fun {i j} ne x hx y hy e => ne ?_⟩
  have h1 := (lv_ok S.ls (i + 1) x hx).1
  have h2 := (lv_ok S.ls (j + 1) y hy).1
  rw [e] at h1
  omega
theorem behF_in {S : HsD} (A C : Rw) {u v : Rw} {i : Nat} {b : Bool} (h : behF S u (i : Nat) b = some v) : behF S (A ++ u ++ C) ((A.length + i : Nat) : Int) b = some (A ++ v ++ C) := by
  obtain ⟨B, x, y, D, rfl, e1, e2, e3, rfl⟩ := behF_split h
  have e4 : (if b = true then ((A.length + i : Nat) : Int) else ((A.length + i : Nat) : Int) - 1) = ((A ++ B).length : Int) := by
    rw [List.length_append]
    cases b <;> simp_all <;> omega
  have := behF_mid (S := S) (A := A ++ B) (C := D ++ C) e4 e2 e3
  rw [show A ++ (B ++ x :: y :: D) ++ C = A ++ B ++ x :: y :: (D ++ C) by simp [List.append_assoc], this]
  simp [List.append_assoc]
abbrev wsF (S : HsD) : Rw := wordsF S.ls S.mo.toNat
theorem wordsF_len (ls : List Nat) (m : Nat) : ((wordsF ls m).length : Int) = (((List.range m).map fun i => ((ls.length ^ (i + 1) : Nat) : Int)).sum) := by
  unfold wordsF
  rw [List.length_flatMap]
  induction List.range m with
  | nil => rfl
  | cons i r ih =>
    rw [List.map_cons, List.map_cons, List.sum_cons, List.sum_cons, Int.natCast_add, ih, lv_len]
theorem ws_len {S : HsD} (ok : HsOk S) : (wsF S).length ≤ 14 := by
  have h := ok.mw
  have e := wordsF_len S.ls S.mo.toNat
  have m1 := ok.m1
  have m3 := ok.m3
  have : S.mo.toNat = 1 ∨ S.mo.toNat = 2 ∨ S.mo.toNat = 3 := by omega
  unfold wcount at h
  rcases this with c | c | c
  all_goals
    rw [c] at h e
    simp [List.range_succ, List.take] at h e
    show (wordsF S.ls S.mo.toNat).length ≤ 14
    rw [c]
    omega
abbrev Mg : Type := Rw × Bt × Bt
def bK (b : Bt) : Int × Str := (((b.1 : Nat) : Int), sdS b.2)
def ltB (x y : Bt) : Bool := dataLt (dBt x) (dBt y)
def minB (x y : Bt) : Bt := if ltB y x = true then y else x
def maxB (x y : Bt) : Bt := if ltB x y = true then y else x
theorem minB_or (x y : Bt) : minB x y = x ∨ minB x y = y := by
  unfold minB
  split
  · exact .inr rfl
  · exact .inl rfl
theorem maxB_or (x y : Bt) : maxB x y = x ∨ maxB x y = y := by
  unfold maxB
  split
  · exact .inr rfl
  · exact .inl rfl
theorem alike_bt (x y : Bt) : PySem.W.AlikeAll [dBt x, dBt y] := by
  have key : ∀ a b : Bt, PySem.W.alike (dBt a) (dBt b) = true := fun a b => PySem.W.DatumOrd.alike (bK a) (bK b)
  refine ⟨fun d hd e he => ?_, fun d hd => ?_⟩
  · rcases List.mem_cons.mp hd with rfl | hd <;> rcases List.mem_cons.mp he with rfl | he
    · exact key _ _
    · rw [List.mem_singleton.mp he]
      exact key _ _
    · rw [List.mem_singleton.mp hd]
      exact key _ _
    · rw [List.mem_singleton.mp hd, List.mem_singleton.mp he]
      exact key _ _
  · rcases List.mem_cons.mp hd with rfl | hd
    · exact fun z => nomatch z
    · rw [List.mem_singleton.mp hd]
      exact fun z => nomatch z
def dRowT (us : Rw) : PyData := .tuple (us.map fun u => PyData.str (tx u))
def dMg (x : Mg) : PyData := .tuple [dRowT x.1, dBt x.2.1, dBt x.2.2]
def mgK (x : Mg) : PySem.W.T3 (PySem.W.Tup Str) (Int × Str) (Int × Str) := ⟨⟨x.1.map tx⟩, bK x.2.1, bK x.2.2⟩
theorem mgK_d (x : Mg) : PySem.W.Datum.toD (mgK x) = dMg x := by
  show PyData.tuple [PyData.tuple ((x.1.map tx).map PyData.str), dBt x.2.1, dBt x.2.2] = _
  rw [List.map_map]
  rfl
theorem alike_mg {β : Type} (g : β → Mg) (L : List β) : AllAlike (L.map fun b => dMg (g b)) := fun d hd e he => by
  obtain ⟨x, _, rfl⟩ := List.mem_map.mp hd
  obtain ⟨y, _, rfl⟩ := List.mem_map.mp he
  rw [← mgK_d, ← mgK_d]
  exact PySem.W.DatumOrd.alike (mgK (g x)) (mgK (g y))
theorem sortable_mg {β : Type} (g : β → Mg) (L : List β) : Sortable (L.map fun b => dMg (g b)) := .inl fun d hd => by
  obtain ⟨x, _, rfl⟩ := List.mem_map.mp hd
  exact ⟨_, _, rfl⟩
theorem depth_mg (x : Mg) : (dMg x).depth ≤ 60 := by
  rw [← mgK_d]
  exact Nat.le_trans (PySem.W.Datum.depth_le (mgK x)) (by decide)
def sortM (L : List Mg) : List Mg := L.mergeSort (dataLe false dMg)
def pairedF (row : Rw) (fs ls : List Bt) : List Mg := sortM (fs.flatMap fun a => ls.map fun b => (row, minB a b, maxB a b))
theorem pairedF_in {row : Rw} {fs ls : List Bt} {x : Mg} (h : x ∈ pairedF row fs ls) : ∃ a ∈ fs, ∃ b ∈ ls, x = (row, minB a b, maxB a b) := by
  obtain ⟨a, ha, hx⟩ := List.mem_flatMap.mp (List.mem_mergeSort.mp h)
  obtain ⟨b, hb, e⟩ := List.mem_map.mp hx
  exact ⟨a, ha, b, hb, e.symm⟩
/-! blocks -/
def btsF (S : HsD) (u v : List Nat) : List Bt := (bitesF S [u, v]).map (·.1)
theorem bites_two (S : HsD) (u v : List Nat) : bitesF S [u, v] = ((behF S [u, v] 0 true).map fun m => (((0, true) : Bt), m)).toList ++ ((behF S [u, v] 1 false).map fun m => (((1, false) : Bt), m)).toList := by
  have e0 : behF S [u, v] 0 false = none := by
    unfold behF
    exact if_neg (by decide)
  have e1 : behF S [u, v] 1 true = none := by
    unfold behF
    rw [if_pos (by decide)]
    exact biteF_out (by show 2 ≤ _; decide)
  show ((List.range 2).flatMap (btAt S [u, v])) = _
  rw [show List.range 2 = [0, 1] from rfl]
  unfold btAt
  simp only [List.flatMap_cons, List.flatMap_nil, List.filterMap_cons, List.filterMap_nil, List.append_nil]
  rw [show (((0 : Nat) : Int)) = 0 from rfl, show (((1 : Nat) : Int)) = 1 from rfl, e0, e1]
  cases behF S [u, v] 0 true <;> cases behF S [u, v] 1 false <;> rfl
theorem btsF_len (S : HsD) (u v : List Nat) : (btsF S u v).length ≤ 2 := by
  unfold btsF
  rw [bites_two, List.length_map]
  cases behF S [u, v] 0 true <;> cases behF S [u, v] 1 false <;> simp
theorem btsF_two {S : HsD} {u v : List Nat} (h : (btsF S u v).length = 2) : btsF S u v = [(0, true), (1, false)] := by
  unfold btsF at *
  rw [bites_two] at *
  cases e1 : behF S [u, v] 0 true <;> cases e2 : behF S [u, v] 1 false <;> rw [e1, e2] at h <;> first | rfl | simp at h
theorem btsF_in {S : HsD} {u v : List Nat} {b : Bt} (h : b ∈ btsF S u v) : b.1 < 2 ∧ ∃ m, behF S [u, v] (b.1 : Nat) b.2 = some m := by
  obtain ⟨x, hx, rfl⟩ := List.mem_map.mp h
  obtain ⟨h1, h2⟩ := bitesF_in.mp hx
  exact ⟨h1, _, h2⟩
def twoF (S : HsD) (u v : List Nat) : List Mg := if (btsF S u v).length = 2 then [([u, v], (0, true), (1, false))] else []
def shB (b : Bt) : Bt := (b.1 + 1, b.2)
def threeF (S : HsD) (u v z : List Nat) : List Mg := if btsF S u v ≠ [] ∧ btsF S v z ≠ [] then pairedF [u, v, z] (btsF S u v) ((btsF S v z).map shB) else []
def twosF (S : HsD) : List Mg := (wsF S).flatMap fun u => (wsF S).flatMap fun v => twoF S u v
def blocksF (S : HsD) : List Mg := twosF S ++ (wsF S).flatMap fun u => (wsF S).flatMap fun v => (wsF S).flatMap fun z => threeF S u v z
structure MgOk (S : HsD) (x : Mg) : Prop where
  w : AllW S x.1
  l : x.1.length = 2 ∨ x.1.length = 3
  p : x.2.1.1 ≤ 2 ∧ x.2.2.1 ≤ 2
  a : ∃ m, behF S x.1 (x.2.1.1 : Nat) x.2.1.2 = some m
  b : ∃ m, behF S x.1 (x.2.2.1 : Nat) x.2.2.2 = some m
theorem two_ok {S : HsD} {u v : List Nat} (hu : u ∈ wsF S) (hv : v ∈ wsF S) : ∀ x ∈ twoF S u v, MgOk S x := fun x hx => by
  unfold twoF at hx
  split at hx
  · rename_i h2
    rw [List.mem_singleton.mp hx]
    have e := btsF_two h2
    have h0 := btsF_in (S := S) (u := u) (v := v) (b := (0, true)) (by rw [e]; exact List.mem_cons_self)
    have h1 := btsF_in (S := S) (u := u) (v := v) (b := (1, false)) (by rw [e]; exact List.mem_cons_of_mem _ List.mem_cons_self)
    refine ⟨fun y hy => ?_, .inl rfl, ⟨by show 0 ≤ 2; decide, by show 1 ≤ 2; decide⟩, h0.2, h1.2⟩
    rcases List.mem_cons.mp hy with rfl | hy
    · exact hu
    · rw [List.mem_singleton.mp hy]
      exact hv
  · cases hx
theorem three_ok {S : HsD} {u v z : List Nat} (hu : u ∈ wsF S) (hv : v ∈ wsF S) (hz : z ∈ wsF S) : ∀ x ∈ threeF S u v z, MgOk S x := fun x hx => by
  unfold threeF at hx
  split at hx
  · obtain ⟨a, ha, b', hb', rfl⟩ := pairedF_in hx
    obtain ⟨b, hb, rfl⟩ := List.mem_map.mp hb'
    obtain ⟨la, ma, ea⟩ := btsF_in ha
    obtain ⟨lb, mb, eb⟩ := btsF_in hb
    have fa : ∃ m, behF S [u, v, z] (a.1 : Nat) a.2 = some m := ⟨_, by
      have := behF_in [] [z] ea
      rw [show (([] : Rw).length + a.1 : Nat) = a.1 from Nat.zero_add _] at this
      exact this⟩
    have fb : ∃ m, behF S [u, v, z] ((shB b).1 : Nat) (shB b).2 = some m := ⟨_, by
      have := behF_in [u] [] eb
      rw [show ([u] : Rw).length + b.1 = (shB b).1 from Nat.add_comm _ _] at this
      exact this⟩
    have lb' : (shB b).1 ≤ 2 := by show b.1 + 1 ≤ 2; omega
    have key : ∀ c : Bt, c = a ∨ c = shB b → c.1 ≤ 2 ∧ ∃ m, behF S [u, v, z] (c.1 : Nat) c.2 = some m := fun c hc => by
      rcases hc with rfl | rfl
      · exact ⟨by omega, fa⟩
      · exact ⟨lb', fb⟩
    have k1 := key _ (minB_or a (shB b))
    have k2 := key _ (maxB_or a (shB b))
    refine ⟨fun y hy => ?_, .inr rfl, ⟨k1.1, k2.1⟩, k1.2, k2.2⟩
    rcases List.mem_cons.mp hy with rfl | hy
    · exact hu
    rcases List.mem_cons.mp hy with rfl | hy
    · exact hv
    · rw [List.mem_singleton.mp hy]
      exact hz
  · cases hx
theorem block_ok {S : HsD} : ∀ x ∈ blocksF S, MgOk S x := fun x hx => by
  rcases List.mem_append.mp hx with hx | hx
  · obtain ⟨u, hu, hx⟩ := List.mem_flatMap.mp hx
    obtain ⟨v, hv, hx⟩ := List.mem_flatMap.mp hx
    exact two_ok hu hv x hx
  · obtain ⟨u, hu, hx⟩ := List.mem_flatMap.mp hx
    obtain ⟨v, hv, hx⟩ := List.mem_flatMap.mp hx
    obtain ⟨z, hz, hx⟩ := List.mem_flatMap.mp hx
    exact three_ok hu hv hz x hx
theorem flat_le {α β : Type} {f : α → List β} {k : Nat} : ∀ {l : List α}, (∀ x ∈ l, (f x).length ≤ k) → (l.flatMap f).length ≤ l.length * k
  | [], _ => by simp
  | x :: l, h => by
    rw [List.flatMap_cons, List.length_append, List.length_cons, Nat.succ_mul]
    have h1 := h x List.mem_cons_self
    have h2 := flat_le (l := l) fun y hy => h y (List.mem_cons_of_mem _ hy)
    omega
theorem pairedF_len (row : Rw) (fs ls : List Bt) : (pairedF row fs ls).length ≤ fs.length * ls.length := by
  unfold pairedF sortM
  rw [List.length_mergeSort]
  exact flat_le fun a _ => Nat.le_of_eq (List.length_map _)
theorem three_len (S : HsD) (u v z : List Nat) : (threeF S u v z).length ≤ 4 := by
  unfold threeF
  split
  · refine Nat.le_trans (pairedF_len _ _ _) ?_
    rw [List.length_map]
    exact Nat.mul_le_mul (btsF_len S u v) (btsF_len S v z)
  · exact Nat.zero_le _
theorem two_len (S : HsD) (u v : List Nat) : (twoF S u v).length ≤ 1 := by
  unfold twoF
  split
  · exact Nat.le_refl _
  · exact Nat.zero_le _
theorem row_three {S : HsD} (ok : HsOk S) (u v : List Nat) (l : Rw) (hl : l.length ≤ 14) : (l.flatMap fun z => threeF S u v z).length ≤ 56 :=
  Nat.le_trans (flat_le fun z _ => three_len S u v z) (Nat.mul_le_mul_right 4 hl)
theorem twos_len {S : HsD} (ok : HsOk S) : (twosF S).length ≤ 196 := by
  have l := ws_len ok
  refine Nat.le_trans (flat_le (k := 14) fun u _ => ?_) (Nat.mul_le_mul_right 14 l)
  exact Nat.le_trans (flat_le (k := 1) fun v _ => two_len S u v) (Nat.mul_le_mul_right 1 l)
theorem blocks_len {S : HsD} (ok : HsOk S) : (blocksF S).length ≤ 12000 := by
  have l := ws_len ok
  unfold blocksF
  rw [List.length_append]
  have h1 := twos_len ok
  have h2 : ((wsF S).flatMap fun u => (wsF S).flatMap fun v => (wsF S).flatMap fun z => threeF S u v z).length ≤ 14 * 784 := by
    refine Nat.le_trans (flat_le (k := 784) fun u _ => ?_) (Nat.mul_le_mul_right 784 l)
    refine Nat.le_trans (flat_le (k := 56) fun v _ => ?_) (Nat.mul_le_mul_right 56 l)
    exact row_three ok u v _ l
  omega
/-! where they part -/
def behD (S : HsD) (row : Rw) (b : Bt) : Rw := (behF S row (b.1 : Nat) b.2).getD row
abbrev ordF : Ord := .nm (Str.ofString "first")
def goneF (S : HsD) (row : Rw) (b : Bt) : Rw × List Bt := runF S ordF 60 0 (behD S row b)
def partsF (S : HsD) (x : Mg) : Bool := !decide ((goneF S x.1 x.2.1).1 = (goneF S x.1 x.2.2).1)
def partF (S : HsD) : Option Mg := (blocksF S).find? (partsF S)
end Lw
set_option autoImplicit true
set_option pp.maxSteps 1200
set_option Elab.async false
set_option linter.all false
set_option maxRecDepth 100000
set_option maxHeartbeats 1000000
namespace Lw
open PySem PySem.Spec PyProof.Rows L2 Gk
open PySem.W (dataLe dataLt)

local macro_rules | `(tactic| walk_at "hp") => `(tactic| first | assumption | exact upd_same | (refine' (upd_ne ?n).trans ?h; (case n => assumption); (case h => walk_at "hp")) | (refine' sm_get ?s ?h; (case s => assumption); (case h => walk_at "hp")))
local macro_rules | `(tactic| walk_at "sq") => `(tactic| first | assumption | (refine' sq_l ?h; (case h => walk_at "hp")) | (refine' sm_l ?s ?h; (case s => assumption); (case h => walk_at "sq")))
local macro_rules | `(tactic| walk_at "st") => `(tactic| first | assumption | (refine' sq_t ?h; (case h => walk_at "hp")) | (refine' sm_t ?s ?h; (case s => assumption); (case h => walk_at "st")))
local macro_rules | `(tactic| walk_at "bg") => `(tactic| first | assumption | (refine' BagOk.sm ?s ?h; (case s => assumption); (case h => walk_at "bg")))
local macro_rules | `(tactic| walk_at "sm") => `(tactic| first | assumption | exact Same.refl _ | (refine' Same.trans ?h ?s; (case s => assumption); (case h => walk_at "sm")))
local macro_rules | `(tactic| walk_at "hs") => `(tactic| first | assumption | (refine' HsAt.sm ?s ?h; (case s => assumption); (case h => walk_at "hs")))
local macro_rules | `(tactic| walk_at "ms") => `(tactic| first | assumption | (refine' MAt.sm ?s ?h; (case s => assumption); (case h => walk_at "ms")))
local macro_rules | `(tactic| walk_at "md") => `(tactic| first | assumption | (refine' MDk.sm ?s ?h; (case s => assumption); (case h => walk_at "md")))
local macro_rules | `(tactic| walk_at "dp") => `(tactic| first | assumption | (refine' dp_sm ?s ?h; (case s => assumption); (case h => walk_at "dp")))
local macro_rules | `(tactic| walk_at "sz") => `(tactic| first | decide | assumption | omega | (simp only [List.length_cons, List.length_nil, List.length_map, List.length_append]; omega))
local macro_rules | `(tactic| walk_at "g1") => `(tactic| first
  | with_reducible refine k_seq ?_
  | with_reducible refine k_itB ?_
  | with_reducible refine k_next ?_
  | with_reducible refine k_asg ?_
  | with_reducible refine k_name ?_
  | with_reducible refine k_ret ?_
  | with_reducible refine k_retN ?_
  | with_reducible refine k_drop ?_
  | with_reducible refine k_ifs ?_
  | with_reducible refine k_brk ?_
  | with_reducible refine k_cont ?_
  | with_reducible refine k_ipI ?_
  | with_reducible refine k_test ?_
  | with_reducible refine k_tB ?_
  | with_reducible refine k_bl ?_
  | with_reducible refine k_not ?_
  | with_reducible refine k_and ?_
  | with_reducible refine k_or ?_
  | with_reducible refine k_yes ?_
  | with_reducible refine k_true ?_
  | with_reducible refine k_false ?_
  | with_reducible refine k_nt ?_
  | with_reducible refine k_c ?_
  | with_reducible refine k_op ?_
  | with_reducible refine k_un ?_
  | with_reducible refine k_if ?_
  | with_reducible refine k_chain ?_
  | with_reducible refine k_nil ?_
  | with_reducible refine k_cons ?_
  | with_reducible refine k_cb ?_
  | with_reducible refine k_call ?_
  | with_reducible refine k_callS ?_
  | with_reducible refine k_andV ?_
  | with_reducible refine k_orV ?_
  | with_reducible refine k_notV ?_
  | with_reducible refine k_lst ?_
  | with_reducible refine k_tup ?_
  | with_reducible refine k_nopart ?_
  | with_reducible refine k_part ?_
  | with_reducible refine k_nInt ?_
  | with_reducible refine k_sl ?_
  | with_reducible refine k_bm ?_
  | with_reducible refine k_bm0 ?_
  | with_reducible refine k_nTyS ?_
  | with_reducible refine k_m1 ?_
  | with_reducible refine k_m0 ?_
  | with_reducible refine k_nStr ?_
  | with_reducible refine k_I0 ?_
  | with_reducible refine k_U ?_
  | with_reducible refine k_add_i ?_
  | with_reducible refine k_eq_i ?_
  | with_reducible refine k_eq_s ?_
  | with_reducible refine k_eq_b ?_
  | with_reducible refine k_ne_i ?_
  | with_reducible refine k_ne_s ?_
  | with_reducible refine k_ne_b ?_
  | with_reducible refine k_le_i ?_
  | with_reducible refine k_le_s ?_
  | with_reducible refine k_gnil ?_
  | with_reducible refine k_gcons ?_
  | with_reducible refine k_gsub ?_
  | with_reducible refine k_for ?_
  | with_reducible refine k_lc ?_
  | with_reducible refine k_rng1 ?_
  | with_reducible refine k_rng2 ?_
  | with_reducible refine k_itl ?_
  | with_reducible refine k_itt ?_
  | with_reducible refine k_its ?_
  | with_reducible refine k_ite ?_
  | with_reducible refine k_iteB ?_
  | with_reducible refine k_lrg2 ?_
  | with_reducible refine k_itz ?_
  | with_reducible refine k_nIts ?_
  | with_reducible refine k_inS ?_
  | with_reducible refine k_niS ?_
  | with_reducible refine k_mk ?_
  | with_reducible refine k_meth ?_
  | with_reducible refine k_fld ?_
  | with_reducible refine k_sfld ?_
  | with_reducible refine k_dg ?_
  | with_reducible refine k_dp ?_
  | with_reducible refine k_pr ?_
  | with_reducible refine k_pr0 ?_
  | with_reducible refine k_sg ?_
  | with_reducible refine k_lc2 ?_
  | with_reducible refine k_callN ?_
  | with_reducible refine k_callNS ?_
  | with_reducible refine k_par ?_
  | with_reducible refine k_nPar ?_
  | with_reducible refine k_isNn ?_
  | with_reducible refine k_isNr ?_
  | with_reducible refine k_ntNn ?_
  | with_reducible refine k_ntNr ?_
  | with_reducible refine k_min2 ?_
  | with_reducible refine k_max2 ?_
  | with_reducible refine k_intB ?_
  | with_reducible refine k_intI ?_
  | with_reducible refine k_isBl ?_
  | with_reducible refine k_ntBl ?_
  | ((with_reducible refine' k_var ?kv ?_); (case kv => exact rfl))
  | ((with_reducible refine' k_aug ?kv ?_); (case kv => exact rfl))
  | ((with_reducible refine' k_ix_l ?ks ?ki ?_); (case ks => walk_at "sq"); (case ki => exact rfl))
  | ((with_reducible refine' k_ix_t ?ks ?ki ?_); (case ks => walk_at "st"); (case ki => exact rfl))
  | ((with_reducible refine' k_len_l ?ks ?_); (case ks => walk_at "sq"))
  | ((with_reducible refine' k_len_t ?ks ?_); (case ks => walk_at "st"))
  | ((with_reducible refine' k_setL ?ks ?ki ?_); (case ks => walk_at "hp"); (case ki => exact rfl))
  | ((with_reducible refine' k_nTyL ?ks ?_); (case ks => walk_at "sq"))
  | ((with_reducible refine' k_nItl ?ks ?_); (case ks => walk_at "sq"))
  | ((with_reducible refine' k_nItt ?ks ?_); (case ks => walk_at "st"))
  | ((with_reducible refine' k_nIte ?ks ?_); (case ks => walk_at "sq"))
  | ((with_reducible refine' k_mul ?km ?_); (case km => first | exact Or.inr ⟨by decide, by decide⟩ | exact Or.inl ⟨by decide, by decide⟩))
  | ((with_reducible refine' k_I ?km ?_); (case km => first | assumption | decide | exact ⟨by decide, by decide +kernel⟩ | exact ⟨by decide, by decide, by decide⟩))
  | ((with_reducible refine' k_nMeth ?kp ?kl ?_); (case kp => walk_at "hp"); (case kl => exact rfl))
  | ((with_reducible refine' k_nFld ?kp ?kc ?kn ?kl ?_); (case kp => walk_at "hp"); (case kc => assumption); (case kn => assumption); (case kl => exact rfl))
  | ((with_reducible refine' k_nSFld ?kp ?kc ?kn ?kl ?_); (case kp => walk_at "hp"); (case kc => assumption); (case kn => assumption); (case kl => exact of_decide_eq_true rfl))
  | ((with_reducible refine' k_nDg ?kp ?kl ?_); (case kp => walk_at "hp"); (case kl => exact rfl))
  | ((with_reducible refine' k_nRng1 ?k1 ?k2 ?_); (case k1 => omega); (case k2 => omega))
  | ((with_reducible refine' k_nKw ?k1 ?k2 ?_); (case k1 => exact rfl); (case k2 => exact rfl))
  | ((with_reducible refine' k_hsm ?kh ?_); (case kh => walk_at "hs"))
  | ((with_reducible refine' k_nMethH ?kh ?kl ?_); (case kh => walk_at "hs"); (case kl => exact fun _ _ => rfl))
  | ((with_reducible refine' k_mLet ?kh ?_); (case kh => walk_at "ms"))
  | ((with_reducible refine' k_mChew ?kh ?_); (case kh => walk_at "ms"))
  | ((with_reducible refine' k_mPut ?kh ?_); (case kh => walk_at "ms"))
  | ((with_reducible refine' k_mMost ?kh ?_); (case kh => walk_at "ms"))
  | ((with_reducible refine' k_mCut ?kh ?_); (case kh => walk_at "ms"))
  | ((with_reducible refine' k_mTab ?kh ?_); (case kh => walk_at "md"))
  | ((with_reducible refine' k_mEats ?kh ?_); (case kh => walk_at "md"))
  | ((with_reducible refine' k_gtup ?ks ?kl ?_); (case ks => walk_at "st"); (case kl => exact rfl)))
local macro_rules | `(tactic| walk_at "g") => `(tactic| repeat (walk_at "g1"))
local macro_rules | `(tactic| walk_at "w1") => `(tactic| first
  | walk_at "g1"
  | ((with_reducible refine' k_decT ?kp ?_); (case kp => omega))
  | ((with_reducible refine' k_decF ?kp ?_); (case kp => omega))
  | ((with_reducible refine' k_decNT ?kp ?_); (case kp => omega))
  | ((with_reducible refine' k_decNF ?kp ?_); (case kp => omega)))
local macro_rules | `(tactic| walk_at "w") => `(tactic| repeat (walk_at "w1"))


section
variable {P : Program} {w : World} {K : PySem.W.Frag} {mg : Str → Option Value} {base : Heap} {f : Addr} {fd : FuncData}
/-! ### pairs of lists -/
theorem pd_app {α β : Type} {R : α → β → Prop} : ∀ {as : List α} {bs : List β} {cs : List α} {ds : List β}, Paired R as bs → Paired R cs ds → Paired R (as ++ cs) (bs ++ ds)
  | _, _, _, _, .nil, h => h
  | _, _, _, _, .cons r t, h => .cons r (pd_app t h)
theorem pd_at {α β : Type} {R : α → β → Prop} : ∀ {as : List α} {bs : List β} {i : Nat} {a : α}, Paired R as bs → as[i]? = some a → ∃ b, bs[i]? = some b ∧ R a b
  | _, _, 0, _, .cons r t, h => by
    cases h
    exact ⟨_, rfl, r⟩
  | _, _, i + 1, _, .cons r t, h => pd_at (i := i) t (by simpa using h)
  | _, _, 0, _, .nil, h => nomatch h
  | _, _, _ + 1, _, .nil, h => nomatch h
theorem pd_imp {α β : Type} {R R' : α → β → Prop} (k : ∀ a b, R a b → R' a b) : ∀ {as : List α} {bs : List β}, Paired R as bs → Paired R' as bs
  | _, _, .nil => .nil
  | _, _, .cons r t => .cons (k _ _ r) (pd_imp k t)
theorem pd_len {α β : Type} {R : α → β → Prop} : ∀ {as : List α} {bs : List β}, Paired R as bs → as.length = bs.length
  | _, _, .nil => rfl
  | _, _, .cons _ t => congrArg (· + 1) (pd_len t)
theorem pd_zip {α β : Type} {R : α → β → Prop} : ∀ {as : List α} {bs : List β}, Paired R as bs → (as.zip bs).map Prod.fst = as ∧ (as.zip bs).map Prod.snd = bs ∧ ∀ q ∈ as.zip bs, R q.1 q.2
  | _, _, .nil => ⟨rfl, rfl, fun q hq => nomatch hq⟩
  | _, _, .cons r t => by
    obtain ⟨h1, h2, h3⟩ := pd_zip t
    refine ⟨by rw [List.zip_cons_cons, List.map_cons, h1], by rw [List.zip_cons_cons, List.map_cons, h2], fun q hq => ?_⟩
    rcases List.mem_cons.mp hq with rfl | hq
    · exact r
    · exact h3 q hq
theorem pd_of {α β : Type} {R : α → β → Prop} : ∀ {B : List (α × β)}, (∀ q ∈ B, R q.1 q.2) → Paired R (B.map Prod.fst) (B.map Prod.snd)
  | [], _ => .nil
  | q :: B, h => .cons (h q List.mem_cons_self) (pd_of fun x hx => h x (List.mem_cons_of_mem _ hx))
/-! ### meetings as they stand -/
def BtT (K : PySem.W.Frag) (H : Hp) (t : Addr) (b : Bt) : Prop := SqT K H t [.int (b.1 : Nat), .str (sdS b.2)]
theorem BtT.dp {H : Hp} {t : Addr} {b : Bt} (h : BtT K H t b) : Dp K H (.ref t) (dBt b) := .tup h (.cons (.int _) (.cons (.str _) .nil))
theorem BtT.sm {H H' : Hp} {t : Addr} {b : Bt} (s : Same H H') (h : BtT K H t b) : BtT K H' t b := sm_t s h
theorem bt_of {H : Hp} {ws : List V} {bs : List Bt} {i : Nat} {v : V} (d : DpAll K H ws (bs.map dBt)) (h : ws[i]? = some v) : ∃ t b, v = .ref t ∧ bs[i]? = some b ∧ BtT K H t b := by
  obtain ⟨dd, h1, h2⟩ := dpall_get d h
  obtain ⟨b, h3, rfl⟩ := map_get h1
  obtain ⟨t, rfl, h4⟩ := dp_btI h2
  exact ⟨t, b, rfl, h3, h4⟩
def MgAt (K : PySem.W.Frag) (H : Hp) (v : V) (x : Mg) : Prop := ∃ T Tr T1 T2, v = .ref T ∧ SqT K H T [.ref Tr, .ref T1, .ref T2] ∧ SqT K H Tr (tS x.1) ∧ BtT K H T1 x.2.1 ∧ BtT K H T2 x.2.2
abbrev MgAll (K : PySem.W.Frag) (H : Hp) : List V → List Mg → Prop := Paired (MgAt K H)
theorem MgAt.to {H H' : Hp} {v : V} {x : Mg} (k : ∀ a xs, SqT K H a xs → SqT K H' a xs) (h : MgAt K H v x) : MgAt K H' v x := by
  obtain ⟨T, Tr, T1, T2, e, h1, h2, h3, h4⟩ := h
  exact ⟨T, Tr, T1, T2, e, k _ _ h1, k _ _ h2, k _ _ h3, k _ _ h4⟩
theorem mg_sm {H H' : Hp} (s : Same H H') {ws : List V} {L : List Mg} (h : MgAll K H ws L) : MgAll K H' ws L := pd_imp (fun _ _ h => h.to fun _ _ h => sm_t s h) h
theorem mg_lst {H : Hp} {p : Addr} {xs : List V} {o : HO} (hp : H p = some (.lst xs)) {ws : List V} {L : List Mg} (h : MgAll K H ws L) : MgAll K (upd H p o) ws L := pd_imp (fun _ _ h => h.to fun _ _ h => t_lst hp h) h
theorem mg_del {H : Hp} {p : Addr} {xs : List V} (hp : H p = some (.lst xs)) {ws : List V} {L : List Mg} (h : MgAll K H ws L) : MgAll K (del H p) ws L := pd_imp (fun _ _ h => h.to fun _ _ h => del_t hp h) h
theorem MgAt.dp {H : Hp} {v : V} {x : Mg} (h : MgAt K H v x) : Dp K H v (dMg x) := by
  obtain ⟨T, Tr, T1, T2, rfl, h1, h2, h3, h4⟩ := h
  exact .tup h1 (.cons (.tup h2 (dp_tS x.1)) (.cons h3.dp (.cons h4.dp .nil)))
theorem mg_dps {H : Hp} : ∀ {ws : List V} {L : List Mg}, MgAll K H ws L → DpAll K H ws (L.map dMg)
  | _, _, .nil => .nil
  | _, _, .cons h t => .cons h.dp (mg_dps t)
section
variable {H : Hp} {Q : VK} {t1 t2 : Addr} {a b : Bt}
theorem dep_bt (b : Bt) : (dBt b).depth ≤ 60 := Nat.le_trans (PySem.W.Datum.depth_le (bK b)) (by decide)
theorem k_minB (h1 : BtT K H t1 a) (h2 : BtT K H t2 b) (q : ∀ t, BtT K H t (minB a b) → Q (.ref t) H) : rMinD K [.ref t1, .ref t2] H Q := by
  refine ⟨_, _, _, _, rfl, h1.dp, h2.dp, alike_bt a b, ⟨dep_bt a, dep_bt b⟩, ?_⟩
  by_cases c : ltB b a = true
  · rw [show (if dataLt (dBt b) (dBt a) = true then V.ref t2 else V.ref t1) = V.ref t2 from if_pos c]
    refine q t2 ?_
    rw [show minB a b = b from if_pos c]
    exact h2
  · rw [show (if dataLt (dBt b) (dBt a) = true then V.ref t2 else V.ref t1) = V.ref t1 from if_neg c]
    refine q t1 ?_
    rw [show minB a b = a from if_neg c]
    exact h1
theorem k_maxB (h1 : BtT K H t1 a) (h2 : BtT K H t2 b) (q : ∀ t, BtT K H t (maxB a b) → Q (.ref t) H) : rMaxD K [.ref t1, .ref t2] H Q := by
  refine ⟨_, _, _, _, rfl, h1.dp, h2.dp, alike_bt a b, ⟨dep_bt a, dep_bt b⟩, ?_⟩
  by_cases c : ltB a b = true
  · rw [show (if dataLt (dBt a) (dBt b) = true then V.ref t2 else V.ref t1) = V.ref t2 from if_pos c]
    refine q t2 ?_
    rw [show maxB a b = b from if_pos c]
    exact h2
  · rw [show (if dataLt (dBt a) (dBt b) = true then V.ref t2 else V.ref t1) = V.ref t1 from if_neg c]
    refine q t1 ?_
    rw [show maxB a b = a from if_neg c]
    exact h1
theorem k_extend {l b : Addr} {xs zs : List V} (h1 : H l = some (.lst xs)) (h2 : H b = some (.lst zs)) (hz : xs.length + zs.length ≤ 100000) (h : Q .non (upd H l (.lst (xs ++ zs)))) : rExtend (.ref l) [.ref b] H Q := ⟨l, b, xs, zs, rfl, rfl, h1, h2, sz_of hz, h⟩
theorem k_sortMg {p : Addr} {ws : List V} {L : List Mg} (hp : H p = some (.lst ws)) (hm : MgAll K H ws L) (hl : L.length ≤ 100000) (h : ∀ p' ws' H', H p' = none → Same H H' → H' p' = some (.lst ws') → MgAll K H' ws' (sortM L) → Q (.ref p') H') : rSortLD K [.ref p] H Q := by
  obtain ⟨z1, z2, z3⟩ := pd_zip hm
  have lw := pd_len hm
  refine k_sortLD (fun q : V × Mg => q.1) (fun q => dMg q.2) (ws.zip L) (sq_l (by rw [z1]; exact hp)) (fun q hq => (z3 q hq).dp) (by rw [List.length_zip]; omega) (alike_mg (fun q : V × Mg => q.2) _) (sortable_mg (fun q : V × Mg => q.2) _) (fun q _ => depth_mg q.2) (fun p' H' n s e => h p' _ H' n s e ?_)
  have es : ((ws.zip L).mergeSort (dataLe false fun q : V × Mg => dMg q.2)).map Prod.snd = sortM L := by
    rw [sortM]
    conv => rhs; rw [← z2]
    rw [List.map_mergeSort (s := dataLe false dMg)]
    intro x _ y _
    rfl
  rw [← es]
  exact mg_sm s (pd_of fun q hq => z3 q (List.mem_mergeSort.mp hq))
end

theorem made_NotLean (F : FunD K "__init__" "NotLean.__init__" (defArgs s_NotLean_init) (defBody s_NotLean_init) (defScope s_NotLean_init) [] [] (He.ma K (He.ga K "NotLean") "__init__") fd) (gC : mg "NotLean" = some (.ref (He.ga K "NotLean"))) (O : Oex K (He.ga K "NotLean") (He.ma K (He.ga K "NotLean") "__init__"))
    (nw : PySem.W.findIn K (.ref (He.ga K "NotLean")) "word" = some none) : XCls0 P w K mg base "NotLean" 1 "NotLean" := by
  refine ⟨gC, O, nw, fd, ["self"], F.ok sc_NotLean_init (fun vs H Q E h => ?_) (fun cdv A outer s H vs Q E hr h => ⟨_, PSs.nox (pss_one (ps_ost (pv 0) pe_str)), x0_read O.T nw h rfl⟩), F.bindsN fun _ _ _ _ _ _ us hl => match us, hl with | [_], _ => rfl⟩
  obtain ⟨a, rfl, _⟩ := h
  rfl


theorem made_NotOne (F : FunD K "__init__" "NotOne.__init__" (defArgs s_NotOne_init) (defBody s_NotOne_init) (defScope s_NotOne_init) [] [] (He.ma K (He.ga K "NotOne") "__init__") fd) (gC : mg "NotOne" = some (.ref (He.ga K "NotOne"))) (O : Oex K (He.ga K "NotOne") (He.ma K (He.ga K "NotOne") "__init__"))
    (nw : PySem.W.findIn K (.ref (He.ga K "NotOne")) "word" = some none) : XCls0 P w K mg base "NotOne" 1 "NotOne" := by
  refine ⟨gC, O, nw, fd, ["self"], F.ok sc_NotOne_init (fun vs H Q E h => ?_) (fun cdv A outer s H vs Q E hr h => ⟨_, PSs.nox (pss_one (ps_ost (pv 0) pe_str)), x0_read O.T nw h rfl⟩), F.bindsN fun _ _ _ _ _ _ us hl => match us, hl with | [_], _ => rfl⟩
  obtain ⟨a, rfl, _⟩ := h
  rfl

/-! ### lean houses alone -/
def spNeedLean (K : PySem.W.Frag) : Sp := fun vs H Q E => ∃ (a : Addr) (S : HsD), vs = [.ref a] ∧ HsAt K H a S ∧ HsOk S ∧ (kindF S = Str.ofString "lean" → Q .non H) ∧ (kindF S ≠ Str.ofString "lean" → ∀ d H', H d = none → Same H H' → H' d = some (.xd [("word", .str "NotLean")]) → E (.ref (He.ga K "NotLean")) (some d) H')
theorem ok_need_lean (F : FnP K "need_lean" s_need_lean f fd) (hm : mg "need_lean" = some (.ref f)) (c_kind : Callee P w K mg base CX0 "kind" 2 [] (fun vs H Q _ => ∃ (a : Addr) (S : HsD), vs = [.ref a] ∧ HsAt K H a S ∧ HsOk S ∧ Q (.str (kindF S)) H)) (c_NotLean : XCls0 P w K mg base "NotLean" 1 "NotLean") : Callee P w K mg base (L2.CX P w) "need_lean" 3 [] (spNeedLean K) := by
  refine ⟨f, fd, _, [], F.ok sc_need_lean (fun vs H Q E h => ?hl) (fun cdv A outer s H vs Q E hr h => ⟨_, (pss_one (ps_if (pt_cmpR (op_neK K hr.units) (pe_cl c_kind hr (pa_cons (pv 0) pa_nil) pass0) pe_str (nomark _)) (pss_one (ps_raise rfl (takes_of rfl rfl rfl rfl) (pmk_x0 c_NotLean hr))) pss_nil)), ?rd⟩), hm, F.kp, F.bindsN fun _ _ _ _ _ _ us hl => match us, hl with | [_], _ => rfl, .nil⟩
  case hl =>
    obtain ⟨a, S, rfl, _⟩ := h
    rfl
  case rd =>
    obtain ⟨a, S, rfl, hs, ok, q1, q2⟩ := h
    refine k_start (σ' := [some _]) rfl ?_
    walk_at "g"
    refine ⟨a, S, rfl, hs, ok, ?_⟩
    walk_at "g"
    refine k_dec (fun d => ?_) (fun d => ?_)
    · walk_at "g"
      exact q1 d
    · walk_at "g"
      exact k_x0 (fun dd H3 n3 s3 e3 => q2 d dd H3 n3 s3 e3)
/-! ### the meetings of a row -/
def spPaired (K : PySem.W.Frag) : Sp := fun vs H Q _ => ∃ (T p1 p2 : Addr) (row : Rw) (bs1 bs2 : List Bt) (ws1 ws2 : List V), vs = [.ref T, .ref p1, .ref p2] ∧ SqT K H T (tS row) ∧ SqL K H p1 ws1 ∧ DpAll K H ws1 (bs1.map dBt) ∧ SqL K H p2 ws2 ∧ DpAll K H ws2 (bs2.map dBt) ∧ bs1.length ≤ 10 ∧ bs2.length ≤ 10 ∧
  ∀ p ws H', H p = none → Same H H' → H' p = some (.lst ws) → MgAll K H' ws (pairedF row bs1 bs2) → Q (.ref p) H'
theorem crossed_len (row : Rw) (bs1 bs2 : List Bt) : (bs1.flatMap fun a => bs2.map fun b => ((row, minB a b, maxB a b) : Mg)).length ≤ bs1.length * bs2.length := flat_le fun _ _ => Nat.le_of_eq (List.length_map _)
theorem take_flat {α β : Type} {l : List α} {i : Nat} {x : α} (g : α → List β) (h : l[i]? = some x) : (l.take (i + 1)).flatMap g = (l.take i).flatMap g ++ g x := by
  rw [take_more h, List.flatMap_append, List.flatMap_cons, List.flatMap_nil, List.append_nil]
theorem ok_paired (F : FnP K "paired" s_paired f fd) (hm : mg "paired" = some (.ref f)) (f_sorted : mg "sorted" = none) (f_min : mg "min" = none) (f_max : mg "max" = none) : Callee P w K mg base CX0 "paired" 1 [] (spPaired K) := by
  refine ⟨f, fd, _, [], F.ok sc_paired (fun vs H Q E h => ?hl) (fun cdv A outer s H vs Q E hr h => ⟨_, PSs.nox (pss_cons (ps_set (i := 3) sc_paired.nd rfl (by first | exact Or.inl rfl | exact Or.inr rfl) (pe_lst pa_nil))
      (pss_cons (ps_for PassesOwn.never rfl (pi_listK K (pv 1)) (pg_name (i := 4) sc_paired.nd rfl (by first | exact Or.inl rfl | exact Or.inr rfl)) (pss_one (ps_for PassesOwn.never rfl (pi_listK K (pv 2)) (pg_name (i := 5) sc_paired.nd rfl (by first | exact Or.inl rfl | exact Or.inr rfl)) (pss_one (ps_expr (pe_bmK K PySem.F.plainAttrs_list PySem.F.slot_list_append PySem.F.type_list_append mt_append (pv 3) (pa_cons (pe_tup (pa_cons (pv 0) (pa_cons (pe_callB (cr_minD K hr.units) (by rfl) f_min (by decide +kernel) (pa_cons (pv 4) (pa_cons (pv 5) pa_nil))) (pa_cons (pe_callB (cr_maxD K hr.units) (by rfl) f_max (by decide +kernel) (pa_cons (pv 4) (pa_cons (pv 5) pa_nil))) pa_nil)))) pa_nil)))))))
      (pss_one (ps_ret (pe_callB (cr_sortLD K hr.units) (by rfl) f_sorted (by decide +kernel) (pa_cons (pv 3) pa_nil)))))), ?rd⟩), hm, F.kp, F.bindsN fun _ _ _ _ _ _ us hl => match us, hl with | [_, _, _], _ => rfl, .nil⟩
  case hl =>
    obtain ⟨T, p1, p2, row, bs1, bs2, ws1, ws2, rfl, _⟩ := h
    rfl
  case rd =>
    obtain ⟨T, p1, p2, row, bs1, bs2, ws1, ws2, rfl, hT, h1, d1, h2, d2, l1, l2, q⟩ := h
    refine k_start (σ' := [some _, some _, some _, none, none, none]) rfl ?_
    have lw1 := dpall_len d1
    have lw2 := dpall_len d2
    rw [List.length_map] at lw1 lw2
    have lmul : ∀ i, i ≤ bs1.length → i * bs2.length ≤ 100 := fun i hi => Nat.mul_le_mul (show i ≤ 10 by omega) l2
    walk_at "g"
    refine k_nLst (by walk_at "sz") (fun pf H1 n1 s1 e1 => ?_)
    have h11 := sm_l s1 h1
    walk_at "g"
    refine k_nFor (walk_list (xs := ws1)) (fun i σ H' => (∃ y4 y5, σ = [some (.ref T), some (.ref p1), some (.ref p2), some (.ref pf), y4, y5]) ∧ Same H H' ∧ ∃ ws, H' pf = some (.lst ws) ∧ MgAll K H' ws ((bs1.take i).flatMap fun a => bs2.map fun b => (row, minB a b, maxB a b))) ⟨⟨_, _, rfl⟩, s1, [], e1, .nil⟩ (fun i σ H' _ h => sm_l h.2.1 h1) (fun i x σ Ha Hb hi h hy => ?ht) (fun σ H' h => ?he)
    case he =>
      obtain ⟨⟨y4, y5, rfl⟩, sa, ws, ep, hmg⟩ := h
      rw [lw1, List.take_length] at hmg
      have ll := crossed_len row bs1 bs2
      have lm := lmul bs1.length (Nat.le_refl _)
      walk_at "g"
      refine k_sortMg ep hmg (by omega) (fun p' ws' H2 n2 s2 e2 h2 => ?_)
      exact q p' ws' H2 (sa.free n2) (sa.trans s2) e2 h2
    case ht =>
      obtain ⟨⟨y4, y5, rfl⟩, sa, ws, ep, hmg⟩ := h
      obtain ⟨rfl, hv⟩ := hy
      obtain ⟨t1, a, rfl, ha, b1⟩ := bt_of (dpall_sm sa d1) hv
      have h2a := sm_l sa h2
      walk_at "g"
      refine k_nFor (walk_list (xs := ws2)) (fun j σ H' => (∃ y5, σ = [some (.ref T), some (.ref p1), some (.ref p2), some (.ref pf), some (.ref t1), y5]) ∧ Same H H' ∧ ∃ ws, H' pf = some (.lst ws) ∧ MgAll K H' ws (((bs1.take i).flatMap fun a => bs2.map fun b => (row, minB a b, maxB a b)) ++ (bs2.take j).map fun b => (row, minB a b, maxB a b))) ⟨⟨_, rfl⟩, sa, ws, ep, by rw [List.take_zero, List.map_nil, List.append_nil]; exact hmg⟩ (fun i σ H' _ h => sm_l h.2.1 h2) (fun j x σ Hc Hd hj h hy => ?ht2) (fun σ H' h => ?he2)
      case he2 =>
        obtain ⟨⟨y5, rfl⟩, sb, ws', ep', hmg'⟩ := h
        rw [lw2, List.take_length] at hmg'
        exact ⟨⟨_, _, rfl⟩, sb, ws', ep', by rw [take_flat _ ha]; exact hmg'⟩
      case ht2 =>
        obtain ⟨⟨y5, rfl⟩, sb, ws', ep', hmg'⟩ := h
        obtain ⟨rfl, hv2⟩ := hy
        obtain ⟨t2, b, rfl, hb, b2⟩ := bt_of (dpall_sm sb d2) hv2
        have b1' : BtT K Hd t1 a := by
          obtain ⟨t1', a', e1', ha', b1'⟩ := bt_of (dpall_sm sb d1) hv
          cases e1'
          cases (Option.some.inj (ha.symm.trans ha'))
          exact b1'
        have lws := pd_len hmg'
        rw [List.length_append, List.length_map, List.length_take] at lws
        have ll := crossed_len row (bs1.take i) bs2
        rw [List.length_take] at ll
        have lm := lmul (min i bs1.length) (Nat.min_le_right _ _)
        have epq := sq_l (K := K) ep'
        walk_at "g"
        refine k_minB b1' b2 (fun t3 h3 => ?_)
        walk_at "g"
        refine k_maxB b1' b2 (fun t4 h4 => ?_)
        walk_at "g"
        refine k_nTup (by walk_at "sz") (fun T5 H5 n5 s5 e5 => ?_)
        have ep5 := s5 _ _ ep'
        walk_at "g"
        refine k_append ep5 (by omega) ?_
        walk_at "g"
        refine ⟨⟨_, rfl⟩, sm_mut (sb.trans s5) n1, _, upd_same, ?_⟩
        rw [take_more hb, List.map_append, ← List.append_assoc]
        refine pd_app (mg_lst ep5 (mg_sm s5 hmg')) (.cons ⟨T5, T, t3, t4, rfl, t_lst ep5 (sq_t e5), t_lst ep5 (sm_t (sb.trans s5) hT), t_lst ep5 (h3.sm s5), t_lst ep5 (h4.sm s5)⟩ .nil)
/-! ### a run that begins with a bite -/
def spEnded (K : PySem.W.Frag) : Sp := fun vs H Q _ => ∃ (a T t : Addr) (S : HsD) (row : Rw) (b : Bt), vs = [.ref a, .ref T, .ref t] ∧ HsAt K H a S ∧ HsOk S ∧ SqT K H T (tS row) ∧ BtT K H t b ∧ AllW S row ∧ row.length ≤ 3 ∧ (∃ m, behF S row (b.1 : Nat) b.2 = some m) ∧
  ∀ T' ps p ws H', Same H H' → H' T' = some (.tup [.ref ps, .ref p]) → H ps = none → H' p = some (.lst (tS (goneF S row b).1)) → H' ps = some (.lst ws) → DpAll K H' ws ((goneF S row b).2.map dBt) → Q (.ref T') H'
theorem ok_ended (F : FnP K "ended" s_ended f fd) (hm : mg "ended" = some (.ref f)) (f_list : mg "list" = none) (c_LONGEST : ∃ t, mg "LONGEST" = some (.int 60 t)) (c_followed : Callee P w K mg base CX0 "followed" 4 [] (spFollowed K)) (c_gone : Callee P w K mg base CX0 "gone" 5 [] (spGone K)) : Callee P w K mg base CX0 "ended" 6 [] (spEnded K) := by
  refine ⟨f, fd, _, [], F.ok sc_ended (fun vs H Q E h => ?hl) (fun cdv A outer s H vs Q E hr h => ⟨_, PSs.nox (pss_cons (ps_asg (pe_cl c_followed hr (pa_cons (pv 0) (pa_cons (pe_callTy (call_listK K) (by rfl) f_list (by decide +kernel) (pa_cons (pv 1) pa_nil)) (pa_cons (pe_lst (pa_cons (pv 2) pa_nil)) pa_nil))) pass0) (pg_tupK K 2 (by rfl) (pgs_cons (pg_name (i := 3) sc_ended.nd rfl (by first | exact Or.inl rfl | exact Or.inr rfl)) (pgs_cons (pg_name (i := 4) sc_ended.nd rfl (by first | exact Or.inl rfl | exact Or.inr rfl)) pgs_nil))))
      (pss_cons (ps_asg (pe_cl c_gone hr (pa_cons (pv 0) (pa_cons (pv 3) (pa_cons pe_str (pa_cons (pe_gi c_LONGEST) pa_nil)))) pass0) (pg_tupK K 2 (by rfl) (pgs_cons (pg_name (i := 5) sc_ended.nd rfl (by first | exact Or.inl rfl | exact Or.inr rfl)) (pgs_cons (pg_name (i := 6) sc_ended.nd rfl (by first | exact Or.inl rfl | exact Or.inr rfl)) pgs_nil))))
      (pss_one (ps_ret (pe_tup (pa_cons (pv 6) (pa_cons (pv 5) pa_nil))))))), ?rd⟩), hm, F.kp, F.bindsN fun _ _ _ _ _ _ us hl => match us, hl with | [_, _, _], _ => rfl, .nil⟩
  case hl =>
    obtain ⟨a, T, t, S, row, b, rfl, _⟩ := h
    rfl
  case rd =>
    obtain ⟨a, T, t, S, row, b, rfl, hs, ok, hT, hb, hw, lr, ⟨m, em⟩, q⟩ := h
    refine k_start (σ' := [some _, some _, some _, none, none, none, none]) rfl ?_
    walk_at "g"
    refine k_list_t hT (fun pl H1 n1 s1 e1 => ?_)
    walk_at "g"
    refine k_nLst (by walk_at "sz") (fun pb H2 n2 s2 e2 => ?_)
    have s12 := s1.trans s2
    have ef : folF S row [(((b.1 : Nat) : Int), sdS b.2)] 0 = (some m, none) := by
      rw [folF_some (x := (((b.1 : Nat) : Int), sdS b.2)) (m := m) (by show behS S row ((b.1 : Nat) : Int) (sdS b.2) = some m; rw [behS_sd]; exact em)]
      rfl
    obtain ⟨wm, lm⟩ := behF_words ok hw em
    walk_at "g"
    refine ⟨a, pl, pb, S, row, [(((b.1 : Nat) : Int), sdS b.2)], [.ref t], rfl, hs.sm s12, ok, s2 _ _ e1, hw, sq_l e2, .cons (hb.sm s12).dp .nil, by show row.length + 8 * 1 ≤ _; omega, fun n hn => absurd (ef.symm.trans hn) (fun z => nomatch z), fun m' hm' T3 pm H3 n3 s3 em3 e3 => ?_⟩
    cases (Option.some.inj (Prod.mk.inj (ef.symm.trans hm')).1)
    have s13 := s12.trans s3
    have eg : goneF S row b = runF S ordF 60 0 m := by
      unfold goneF behD
      rw [em]
      rfl
    rw [eg] at q
    walk_at "g"
    refine ⟨a, pm, .str (Str.ofString "first"), S, m, ordF, 60, rfl, hs.sm s13, ok, em3, wm, rfl, ⟨good_first.1, by decide +kernel⟩, rfl, by omega, fun T4 p ps ws H4 n4 s4 e4 _ nps nep ep eps dps => ?_⟩
    walk_at "g"
    refine k_nTup (by walk_at "sz") (fun T5 H5 n5 s5 e5 => ?_)
    exact q T5 ps p ws H5 (s13.trans (s4.trans s5)) e5 (s13.free nps) (s5 _ _ ep) (s5 _ _ eps) (dpall_sm s5 dps)
end
end Lw
set_option autoImplicit true
set_option pp.maxSteps 1200
set_option Elab.async false
set_option linter.all false
set_option maxRecDepth 100000
set_option maxHeartbeats 1000000
namespace Lw
open PySem PySem.Spec PyProof.Rows L2 Gk
open PySem.W (dataLe dataLt)

local macro_rules | `(tactic| walk_at "hp") => `(tactic| first | assumption | exact upd_same | (refine' (upd_ne ?n).trans ?h; (case n => assumption); (case h => walk_at "hp")) | (refine' sm_get ?s ?h; (case s => assumption); (case h => walk_at "hp")))
local macro_rules | `(tactic| walk_at "sq") => `(tactic| first | assumption | (refine' sq_l ?h; (case h => walk_at "hp")) | (refine' sm_l ?s ?h; (case s => assumption); (case h => walk_at "sq")))
local macro_rules | `(tactic| walk_at "st") => `(tactic| first | assumption | (refine' sq_t ?h; (case h => walk_at "hp")) | (refine' sm_t ?s ?h; (case s => assumption); (case h => walk_at "st")))
local macro_rules | `(tactic| walk_at "bg") => `(tactic| first | assumption | (refine' BagOk.sm ?s ?h; (case s => assumption); (case h => walk_at "bg")))
local macro_rules | `(tactic| walk_at "sm") => `(tactic| first | assumption | exact Same.refl _ | (refine' Same.trans ?h ?s; (case s => assumption); (case h => walk_at "sm")))
local macro_rules | `(tactic| walk_at "hs") => `(tactic| first | assumption | (refine' HsAt.sm ?s ?h; (case s => assumption); (case h => walk_at "hs")))
local macro_rules | `(tactic| walk_at "ms") => `(tactic| first | assumption | (refine' MAt.sm ?s ?h; (case s => assumption); (case h => walk_at "ms")))
local macro_rules | `(tactic| walk_at "md") => `(tactic| first | assumption | (refine' MDk.sm ?s ?h; (case s => assumption); (case h => walk_at "md")))
local macro_rules | `(tactic| walk_at "dp") => `(tactic| first | assumption | (refine' dp_sm ?s ?h; (case s => assumption); (case h => walk_at "dp")))
local macro_rules | `(tactic| walk_at "sz") => `(tactic| first | decide | assumption | omega | (simp only [List.length_cons, List.length_nil, List.length_map, List.length_append]; omega))
local macro_rules | `(tactic| walk_at "g1") => `(tactic| first
  | with_reducible refine k_seq ?_
  | with_reducible refine k_itB ?_
  | with_reducible refine k_next ?_
  | with_reducible refine k_asg ?_
  | with_reducible refine k_name ?_
  | with_reducible refine k_ret ?_
  | with_reducible refine k_retN ?_
  | with_reducible refine k_drop ?_
  | with_reducible refine k_ifs ?_
  | with_reducible refine k_brk ?_
  | with_reducible refine k_cont ?_
  | with_reducible refine k_ipI ?_
  | with_reducible refine k_test ?_
  | with_reducible refine k_tB ?_
  | with_reducible refine k_bl ?_
  | with_reducible refine k_not ?_
  | with_reducible refine k_and ?_
  | with_reducible refine k_or ?_
  | with_reducible refine k_yes ?_
  | with_reducible refine k_true ?_
  | with_reducible refine k_false ?_
  | with_reducible refine k_nt ?_
  | with_reducible refine k_c ?_
  | with_reducible refine k_op ?_
  | with_reducible refine k_un ?_
  | with_reducible refine k_if ?_
  | with_reducible refine k_chain ?_
  | with_reducible refine k_nil ?_
  | with_reducible refine k_cons ?_
  | with_reducible refine k_cb ?_
  | with_reducible refine k_call ?_
  | with_reducible refine k_callS ?_
  | with_reducible refine k_andV ?_
  | with_reducible refine k_orV ?_
  | with_reducible refine k_notV ?_
  | with_reducible refine k_lst ?_
  | with_reducible refine k_tup ?_
  | with_reducible refine k_nopart ?_
  | with_reducible refine k_part ?_
  | with_reducible refine k_nInt ?_
  | with_reducible refine k_sl ?_
  | with_reducible refine k_bm ?_
  | with_reducible refine k_bm0 ?_
  | with_reducible refine k_nTyS ?_
  | with_reducible refine k_m1 ?_
  | with_reducible refine k_m0 ?_
  | with_reducible refine k_nStr ?_
  | with_reducible refine k_I0 ?_
  | with_reducible refine k_U ?_
  | with_reducible refine k_add_i ?_
  | with_reducible refine k_eq_i ?_
  | with_reducible refine k_eq_s ?_
  | with_reducible refine k_eq_b ?_
  | with_reducible refine k_ne_i ?_
  | with_reducible refine k_ne_s ?_
  | with_reducible refine k_ne_b ?_
  | with_reducible refine k_le_i ?_
  | with_reducible refine k_le_s ?_
  | with_reducible refine k_gnil ?_
  | with_reducible refine k_gcons ?_
  | with_reducible refine k_gsub ?_
  | with_reducible refine k_for ?_
  | with_reducible refine k_lc ?_
  | with_reducible refine k_rng1 ?_
  | with_reducible refine k_rng2 ?_
  | with_reducible refine k_itl ?_
  | with_reducible refine k_itt ?_
  | with_reducible refine k_its ?_
  | with_reducible refine k_ite ?_
  | with_reducible refine k_iteB ?_
  | with_reducible refine k_lrg2 ?_
  | with_reducible refine k_itz ?_
  | with_reducible refine k_nIts ?_
  | with_reducible refine k_inS ?_
  | with_reducible refine k_niS ?_
  | with_reducible refine k_mk ?_
  | with_reducible refine k_meth ?_
  | with_reducible refine k_fld ?_
  | with_reducible refine k_sfld ?_
  | with_reducible refine k_dg ?_
  | with_reducible refine k_dp ?_
  | with_reducible refine k_pr ?_
  | with_reducible refine k_pr0 ?_
  | with_reducible refine k_sg ?_
  | with_reducible refine k_lc2 ?_
  | with_reducible refine k_callN ?_
  | with_reducible refine k_callNS ?_
  | with_reducible refine k_par ?_
  | with_reducible refine k_nPar ?_
  | with_reducible refine k_isNn ?_
  | with_reducible refine k_isNr ?_
  | with_reducible refine k_ntNn ?_
  | with_reducible refine k_ntNr ?_
  | with_reducible refine k_min2 ?_
  | with_reducible refine k_max2 ?_
  | with_reducible refine k_intB ?_
  | with_reducible refine k_intI ?_
  | with_reducible refine k_isBl ?_
  | with_reducible refine k_ntBl ?_
  | ((with_reducible refine' k_var ?kv ?_); (case kv => exact rfl))
  | ((with_reducible refine' k_aug ?kv ?_); (case kv => exact rfl))
  | ((with_reducible refine' k_ix_l ?ks ?ki ?_); (case ks => walk_at "sq"); (case ki => exact rfl))
  | ((with_reducible refine' k_ix_t ?ks ?ki ?_); (case ks => walk_at "st"); (case ki => exact rfl))
  | ((with_reducible refine' k_len_l ?ks ?_); (case ks => walk_at "sq"))
  | ((with_reducible refine' k_len_t ?ks ?_); (case ks => walk_at "st"))
  | ((with_reducible refine' k_setL ?ks ?ki ?_); (case ks => walk_at "hp"); (case ki => exact rfl))
  | ((with_reducible refine' k_nTyL ?ks ?_); (case ks => walk_at "sq"))
  | ((with_reducible refine' k_nItl ?ks ?_); (case ks => walk_at "sq"))
  | ((with_reducible refine' k_nItt ?ks ?_); (case ks => walk_at "st"))
  | ((with_reducible refine' k_nIte ?ks ?_); (case ks => walk_at "sq"))
  | ((with_reducible refine' k_mul ?km ?_); (case km => first | exact Or.inr ⟨by decide, by decide⟩ | exact Or.inl ⟨by decide, by decide⟩))
  | ((with_reducible refine' k_I ?km ?_); (case km => first | assumption | decide | exact ⟨by decide, by decide +kernel⟩ | exact ⟨by decide, by decide, by decide⟩))
  | ((with_reducible refine' k_nMeth ?kp ?kl ?_); (case kp => walk_at "hp"); (case kl => exact rfl))
  | ((with_reducible refine' k_nFld ?kp ?kc ?kn ?kl ?_); (case kp => walk_at "hp"); (case kc => assumption); (case kn => assumption); (case kl => exact rfl))
  | ((with_reducible refine' k_nSFld ?kp ?kc ?kn ?kl ?_); (case kp => walk_at "hp"); (case kc => assumption); (case kn => assumption); (case kl => exact of_decide_eq_true rfl))
  | ((with_reducible refine' k_nDg ?kp ?kl ?_); (case kp => walk_at "hp"); (case kl => exact rfl))
  | ((with_reducible refine' k_nRng1 ?k1 ?k2 ?_); (case k1 => omega); (case k2 => omega))
  | ((with_reducible refine' k_nKw ?k1 ?k2 ?_); (case k1 => exact rfl); (case k2 => exact rfl))
  | ((with_reducible refine' k_hsm ?kh ?_); (case kh => walk_at "hs"))
  | ((with_reducible refine' k_nMethH ?kh ?kl ?_); (case kh => walk_at "hs"); (case kl => exact fun _ _ => rfl))
  | ((with_reducible refine' k_mLet ?kh ?_); (case kh => walk_at "ms"))
  | ((with_reducible refine' k_mChew ?kh ?_); (case kh => walk_at "ms"))
  | ((with_reducible refine' k_mPut ?kh ?_); (case kh => walk_at "ms"))
  | ((with_reducible refine' k_mMost ?kh ?_); (case kh => walk_at "ms"))
  | ((with_reducible refine' k_mCut ?kh ?_); (case kh => walk_at "ms"))
  | ((with_reducible refine' k_mTab ?kh ?_); (case kh => walk_at "md"))
  | ((with_reducible refine' k_mEats ?kh ?_); (case kh => walk_at "md"))
  | ((with_reducible refine' k_gtup ?ks ?kl ?_); (case ks => walk_at "st"); (case kl => exact rfl)))
local macro_rules | `(tactic| walk_at "g") => `(tactic| repeat (walk_at "g1"))
local macro_rules | `(tactic| walk_at "w1") => `(tactic| first
  | walk_at "g1"
  | ((with_reducible refine' k_decT ?kp ?_); (case kp => omega))
  | ((with_reducible refine' k_decF ?kp ?_); (case kp => omega))
  | ((with_reducible refine' k_decNT ?kp ?_); (case kp => omega))
  | ((with_reducible refine' k_decNF ?kp ?_); (case kp => omega)))
local macro_rules | `(tactic| walk_at "w") => `(tactic| repeat (walk_at "w1"))

local macro_rules | `(tactic| walk_at "g1") => `(tactic| first
  | with_reducible refine k_mkP ?_
  | with_reducible refine k_din ?_
  | with_reducible refine k_dni ?_
  | with_reducible refine k_sortF ?_
  | with_reducible refine k_sortL ?_
  | with_reducible refine k_itk ?_
  | with_reducible refine k_revL ?_)


section
variable {P : Program} {w : World} {K : PySem.W.Frag} {mg : Str → Option Value} {base : Heap} {f : Addr} {fd : FuncData}
/-! ### the bites of each two words, as a dict -/
def kk2 (q : List Nat × List Nat) : List Key := [.inr (tx q.1), .inr (tx q.2)]
theorem kk2_inj {a b : List Nat × List Nat} (h : kk2 a = kk2 b) : a = b := by
  have h1 := (List.cons.inj h).1
  have h2 := (List.cons.inj (List.cons.inj h).2).1
  have e1 := tx_inj (Sum.inr.inj h1)
  have e2 := tx_inj (Sum.inr.inj h2)
  exact Prod.ext e1 e2
abbrev PrAt (K : PySem.W.Frag) (S : HsD) (H : Hp) : List (List Key × V) → List (List Nat × List Nat) → Prop := Paired fun p q => p.1 = kk2 q ∧ ∃ pl ws, p.2 = .ref pl ∧ H pl = some (.lst ws) ∧ DpAll K H ws ((btsF S q.1 q.2).map dBt)
theorem pr_sm {S : HsD} {H H' : Hp} (s : Same H H') {kv : List (List Key × V)} {L : List (List Nat × List Nat)} (h : PrAt K S H kv L) : PrAt K S H' kv L := pd_imp (fun _ _ ⟨h1, pl, ws, h2, h3, h4⟩ => ⟨h1, pl, ws, h2, s _ _ h3, dpall_sm s h4⟩) h
theorem pr_none {S : HsD} {H : Hp} {q : List Nat × List Nat} : ∀ {kv : List (List Key × V)} {L : List (List Nat × List Nat)}, PrAt K S H kv L → q ∉ L → valV kv (kk2 q) = none
  | _, _, .nil, _ => rfl
  | _, _, .cons (a := p) (b := x) r t, h => by
    have n1 : p.1 ≠ kk2 q := fun e => h (by rw [← kk2_inj (r.1.symm.trans e)]; exact List.mem_cons_self)
    have ih := pr_none t fun z => h (List.mem_cons_of_mem _ z)
    unfold valV at ih ⊢
    rw [List.find?_cons_of_neg (by simpa using n1)]
    exact ih
theorem pr_val {S : HsD} {H : Hp} {q : List Nat × List Nat} : ∀ {kv : List (List Key × V)} {L : List (List Nat × List Nat)}, PrAt K S H kv L → q ∈ L → ∃ pl ws, valV kv (kk2 q) = some (.ref pl) ∧ H pl = some (.lst ws) ∧ DpAll K H ws ((btsF S q.1 q.2).map dBt)
  | _, _, .nil, h => nomatch h
  | _, _, .cons (a := p) (b := x) r t, h => by
    by_cases c : p.1 = kk2 q
    · obtain ⟨pl, ws, e2, e3, e4⟩ := r.2
      have ex : x = q := kk2_inj (r.1.symm.trans c)
      subst ex
      refine ⟨pl, ws, ?_, e3, e4⟩
      unfold valV
      rw [List.find?_cons_of_pos (by simpa using c), ← e2]
      rfl
    · have hq : q ∈ _ := (List.mem_cons.mp h).resolve_left fun e => c (by rw [e]; exact r.1)
      obtain ⟨pl, ws, e1, e2⟩ := pr_val t hq
      refine ⟨pl, ws, ?_, e2⟩
      unfold valV at e1 ⊢
      rw [List.find?_cons_of_neg (by simpa using c)]
      exact e1
def prodF (W : Rw) : List (List Nat × List Nat) := W.flatMap fun u => W.map fun v => (u, v)
def prodTo (W : Rw) (i : Nat) (u : List Nat) (j : Nat) : List (List Nat × List Nat) := ((W.take i).flatMap fun u => W.map fun v => (u, v)) ++ (W.take j).map fun v => (u, v)
theorem not_take {α : Type} {l : List α} (nd : l.Nodup) {n : Nat} {x : α} (h : l[n]? = some x) : x ∉ l.take n := fun z => by
  have e : l = l.take n ++ x :: l.drop (n + 1) := by
    conv => lhs; rw [← List.take_append_drop n l]
    rw [List.drop_eq_getElem_cons (List.getElem?_eq_some_iff.mp h).1]
    congr 2
    exact (List.getElem?_eq_some_iff.mp h).2
  rw [e] at nd
  exact (List.nodup_append.mp nd).2.2 x z x List.mem_cons_self rfl
theorem prod_new {W : Rw} (nd : W.Nodup) {i j : Nat} {u v : List Nat} (hu : W[i]? = some u) (hv : W[j]? = some v) : (u, v) ∉ prodTo W i u j := fun h => by
  rcases List.mem_append.mp h with h | h
  · obtain ⟨u', hu', h⟩ := List.mem_flatMap.mp h
    obtain ⟨v', _, e⟩ := List.mem_map.mp h
    exact not_take nd hu (by rw [← (Prod.mk.inj e).1]; exact hu')
  · obtain ⟨v', hv', e⟩ := List.mem_map.mp h
    exact not_take nd hv (by rw [← (Prod.mk.inj e).2]; exact hv')
theorem prodTo_all (W : Rw) {i : Nat} {u : List Nat} (hu : W[i]? = some u) : prodTo W i u W.length = prodTo W (i + 1) u 0 := by
  unfold prodTo
  rw [take_flat _ hu, List.take_length, List.take_zero, List.map_nil, List.append_nil]
theorem prodTo_end (W : Rw) (u : List Nat) : prodTo W W.length u 0 = prodF W := by
  unfold prodTo prodF
  rw [List.take_length, List.take_zero, List.map_nil, List.append_nil]
theorem prod_mem {W : Rw} {u v : List Nat} (hu : u ∈ W) (hv : v ∈ W) : (u, v) ∈ prodF W := List.mem_flatMap.mpr ⟨u, hu, List.mem_map.mpr ⟨v, hv, rfl⟩⟩
theorem prodTo_len (W : Rw) (hl : W.length ≤ 14) (i : Nat) (u : List Nat) (j : Nat) : (prodTo W i u j).length ≤ 210 := by
  unfold prodTo
  rw [List.length_append, List.length_map]
  have h1 : ((W.take i).flatMap fun u => W.map fun v => (u, v)).length ≤ (W.take i).length * 14 := flat_le fun _ _ => by rw [List.length_map]; exact hl
  rw [List.length_take] at h1 ⊢
  have h2 : min i W.length * 14 ≤ 14 * 14 := Nat.mul_le_mul_right 14 (by omega)
  omega
def twoQ (S : HsD) (q : List Nat × List Nat) : List Mg := twoF S q.1 q.2
theorem twos_prod (S : HsD) : (prodF (wsF S)).flatMap (twoQ S) = twosF S := by
  unfold prodF twosF
  rw [List.flatMap_assoc]
  congr 1
  funext u
  rw [List.flatMap_map]
  rfl
theorem k_nDgTF {H : Hp} {Q : VK} {a b : Addr} {od : Obj} {kvs : List (List Key × V)} {k : List Key} {v : V} (hp : H a = some (.frz od (.dT kvs))) (hb : H b = some (.tup (k.map kV))) (hl : valV kvs k = some v) (h : Q v H) : nDg (.ref a) (.ref b) H Q := ⟨a, v, rfl, by rw [← hl]; exact .inr ⟨kvs, k, b, .inr ⟨od, hp⟩, rfl, hb, rfl⟩, h⟩
theorem k_lockS2 {t : TS} {D : Ends} {σ : L2.St} {H : Hp} {d : Addr} {u : HO} (hd : H d = some u) (mu : Mut (some u)) (h : ∀ od H1, H1 d = some (.frz od u) → (∀ b o, b ≠ d → H b = some o → H1 b = some o) → (∀ p, H1 p = none → H p = none) →
    t ⟨fun σ' H' => H' d = some (.frz od u) ∧ D.nx σ' (upd H' d u), fun v H' => H' d = some (.frz od u) ∧ D.rt v (upd H' d u), fun σ' H' => H' d = some (.frz od u) ∧ D.bk σ' (upd H' d u), fun σ' H' => H' d = some (.frz od u) ∧ D.ct σ' (upd H' d u)⟩ σ H1) : tLock t D σ H :=
  ⟨d, u, hd, mu, fun od => h od _ upd_same (fun b o n e => by rw [upd_ne n]; exact e) fun p e => by
    by_cases c : p = d
    · rw [c, upd_same] at e
      cases e
    · rwa [upd_ne c] at e⟩
theorem unlock_same2 {H H1 H' : Hp} {d : Addr} {u : HO} (hd : H d = some u) (l2 : ∀ b o, b ≠ d → H b = some o → H1 b = some o) (s : Same H1 H') : Same H (upd H' d u) := fun b o e => by
  by_cases c : b = d
  · rw [c] at e ⊢
    rw [upd_same, ← hd]
    exact e
  · rw [upd_ne c]
    exact s _ _ (l2 b o c e)
theorem good_btl {S : HsD} (u v : List Nat) : Good 3 (.list ((btsF S u v).map dBt)) := ⟨by rw [List.length_map]; have := btsF_len S u v; omega, fun e he => by
  obtain ⟨b, hb, rfl⟩ := List.mem_map.mp he
  exact good_bt b (by have := (btsF_in hb).1; omega) 0⟩
theorem k_btNil {S : HsD} {u v : List Nat} {H : Hp} {Q : VK} {p e : Addr} {ws : List V} (h1 : SqL K H p ws) (d1 : DpAll K H ws ((btsF S u v).map dBt)) (h2 : SqL K H e []) (h : Q (.bl (!decide (btsF S u v = []))) H) : rNeU K (.ref p) (.ref e) H Q := by
  refine k_ne_d (.lst h1 d1) (.lst h2 .nil) ((good_btl u v).shaped (by decide)) (by decide) ?_
  rw [eqv_nil, show decide ((btsF S u v).map dBt = []) = decide (btsF S u v = []) by cases btsF S u v <;> rfl]
  exact h
theorem del_tD {H : Hp} {p b : Addr} {kvs : List (List Key × V)} {xs : List V} (hp : H p = some (.dT kvs)) (h : SqT K H b xs) : SqT K (del H p) b xs := by
  rcases h with (h | ⟨v, h⟩) | h
  · exact .inl (.inl (by rw [del_ne (ne_of h hp (fun z => by cases z))]; exact h))
  · exact .inl (.inr ⟨v, by rw [del_ne (ne_of h hp (fun z => by cases z))]; exact h⟩)
  · exact .inr h
theorem lock_tD {H H1 : Hp} {p b : Addr} {kvs : List (List Key × V)} {xs : List V} (hp : H p = some (.dT kvs)) (l2 : ∀ b o, b ≠ p → H b = some o → H1 b = some o) (h : SqT K H b xs) : SqT K H1 b xs := by
  rcases h with (h | ⟨v, h⟩) | h
  · exact .inl (.inl (l2 _ _ (ne_of h hp (fun z => by cases z)) h))
  · exact .inl (.inr ⟨v, l2 _ _ (ne_of h hp (fun z => by cases z)) h⟩)
  · exact .inr h
theorem bts_to {H H' : Hp} (k : ∀ a xs, SqT K H a xs → SqT K H' a xs) : ∀ {ws : List V} {bs : List Bt}, DpAll K H ws (bs.map dBt) → DpAll K H' ws (bs.map dBt)
  | [], [], _ => .nil
  | _, [], .nil => .nil
  | _, b :: bs, .cons h t => by
    obtain ⟨a, rfl, ha⟩ := dp_btI h
    exact .cons (.tup (k _ _ ha) (.cons (.int _) (.cons (.str _) .nil))) (bts_to k t)
def three2 (S : HsD) (u v : List Nat) : List Mg := (wsF S).flatMap (threeF S u v)
def three1 (S : HsD) (u : List Nat) : List Mg := (wsF S).flatMap (three2 S u)
theorem blocks_eq (S : HsD) : blocksF S = twosF S ++ (wsF S).flatMap (three1 S) := rfl
theorem three2_len {S : HsD} (u v : List Nat) (l : Rw) (hl : l.length ≤ 14) : (l.flatMap (threeF S u v)).length ≤ 56 := Nat.le_trans (flat_le fun z _ => three_len S u v z) (Nat.mul_le_mul_right 4 hl)
theorem three1_len {S : HsD} (ok : HsOk S) (u : List Nat) (l : Rw) (hl : l.length ≤ 14) : (l.flatMap (three2 S u)).length ≤ 784 := Nat.le_trans (flat_le (k := 56) fun v _ => three2_len u v _ (ws_len ok)) (Nat.mul_le_mul_right 56 hl)
theorem three0_len {S : HsD} (ok : HsOk S) (l : Rw) (hl : l.length ≤ 14) : (l.flatMap (three1 S)).length ≤ 10976 := Nat.le_trans (flat_le (k := 784) fun u _ => three1_len ok u _ (ws_len ok)) (Nat.mul_le_mul_right 784 hl)
theorem take_le {α : Type} {l : List α} {n : Nat} (h : l.length ≤ n) (i : Nat) : (l.take i).length ≤ n := by
  rw [List.length_take]
  omega
def spBlocks (K : PySem.W.Frag) : Sp := fun vs H Q _ => ∃ (a : Addr) (S : HsD), vs = [.ref a] ∧ HsAt K H a S ∧ HsOk S ∧ ∀ p ws H', H p = none → Same H H' → H' p = some (.lst ws) → MgAll K H' ws (blocksF S) → Q (.ref p) H'
theorem ok_blocks (F : FnP K "blocks" s_blocks f fd) (hm : mg "blocks" = some (.ref f)) (f_len : mg "len" = none) (c_words : Callee P w K mg base CX0 "words" 2 [] (spWords K)) (c_bites_of : Callee P w K mg base CX0 "bites_of" 4 [] (spBitesOf K)) (c_paired : Callee P w K mg base CX0 "paired" 1 [] (spPaired K)) : Callee P w K mg base CX0 "blocks" 5 [] (spBlocks K) := by
  refine ⟨f, fd, _, [], F.ok sc_blocks (fun vs H Q E h => ?hl) (fun cdv A outer s H vs Q E hr h => ⟨_, PSs.nox (pss_cons (ps_set (i := 1) sc_blocks.nd rfl (by first | exact Or.inl rfl | exact Or.inr rfl) (pe_cl c_words hr (pa_cons (pv 0) pa_nil) pass0))
      (pss_cons (ps_set (i := 2) sc_blocks.nd rfl (by first | exact Or.inl rfl | exact Or.inr rfl) (pe_dcT2 (own := [("one", 4), ("other", 6)]) (vs1 := [6]) hr.units sc_blocks.nd (pi_listK K (pv 1)) (blkOk_by (N := ["house", "some", "pairs", "found", "one", "middle", "other", "row", "last", "bite", "made", "ahead", "rest", "at", "side"]) (sc := defScope s_blocks) (by decide +kernel)) (by decide) (fun _ _ _ _ _ => (pg_name (i := 4) sc_blocks.nd rfl (by first | exact Or.inl rfl | exact Or.inr rfl))) (fun _ _ _ _ _ => pts_nil) (fun _ _ _ _ _ => (pi_listK K (pv 1))) (fun _ _ _ _ _ => (pg_name (i := 6) sc_blocks.nd rfl (by first | exact Or.inl rfl | exact Or.inr rfl))) (fun _ _ _ _ _ => pts_nil) (fun _ _ _ _ _ => (pe_tup (pa_cons (pv 4) (pa_cons (pv 6) pa_nil)))) (fun _ _ _ _ _ => (pe_lc (own := [("bite", 9), ("made", 10)]) rfl sc_blocks.nd (pi_listK K (pe_cl c_bites_of hr (pa_cons (pv 0) (pa_cons (pe_lst (pa_cons (pv 4) (pa_cons (pv 6) pa_nil))) pa_nil)) pass0)) (blkOk_by (N := ["house", "some", "pairs", "found", "one", "middle", "other", "row", "last", "bite", "made", "ahead", "rest", "at", "side"]) (sc := rlb _ (defScope s_blocks)) (by decide +kernel)) (fun _ _ _ _ _ => (pg_tupK K 2 (by rfl) (pgs_cons (pg_name (i := 9) sc_blocks.nd rfl (by first | exact Or.inl rfl | exact Or.inr rfl)) (pgs_cons (pg_name (i := 10) sc_blocks.nd rfl (by first | exact Or.inl rfl | exact Or.inr rfl)) pgs_nil)))) (fun _ _ _ _ _ => pts_nil) (fun _ _ _ _ _ => (pv 9))))))
      (pss_cons (ps_lock (ps_setLc (i := 3) (own := [("row", 7)]) rfl sc_blocks.nd rfl rfl (sw_true rfl rfl rfl (by decide +kernel)) (pi_keys (pv 2)) (blkOk_by (N := ["house", "some", "pairs", "found", "one", "middle", "other", "row", "last", "bite", "made", "ahead", "rest", "at", "side"]) (sc := defScope s_blocks) (by decide +kernel)) (fun _ _ _ _ _ => (pg_name (i := 7) sc_blocks.nd rfl (by first | exact Or.inl rfl | exact Or.inr rfl))) (fun _ _ _ _ _ => (pts_one (pt_cmpR (op_eqK K hr.units) (pe_callB (call_lenK K) (by rfl) f_len PySem.boot_len (pa_cons (pe_dget (hu_of hr) (pv 2) (pv 7) (fun _ _ => rfl)) pa_nil)) pe_int (nomark _)))) (fun _ _ _ _ _ => (pe_tup (pa_cons (pv 7) (pa_cons (pe_ix (ix_k K) (pe_dget (hu_of hr) (pv 2) (pv 7) (fun _ _ => rfl)) pe_int (fun _ _ => rfl)) (pa_cons (pe_ix (ix_k K) (pe_dget (hu_of hr) (pv 2) (pv 7) (fun _ _ => rfl)) pe_int (fun _ _ => rfl)) pa_nil)))))))
      (pss_cons (ps_for PassesOwn.never rfl (pi_listK K (pv 1)) (pg_name (i := 4) sc_blocks.nd rfl (by first | exact Or.inl rfl | exact Or.inr rfl)) (pss_one (ps_for PassesOwn.never rfl (pi_listK K (pv 1)) (pg_name (i := 5) sc_blocks.nd rfl (by first | exact Or.inl rfl | exact Or.inr rfl)) (pss_one (ps_for PassesOwn.never rfl (pi_listK K (pv 1)) (pg_name (i := 8) sc_blocks.nd rfl (by first | exact Or.inl rfl | exact Or.inr rfl)) (pss_cons (ps_par (by rfl) sc_blocks.nd (i := 11) (j := 12) rfl rfl (by decide) rfl rfl (pa_cons (pe_dget (hu_of hr) (pv 2) (pe_tup (pa_cons (pv 4) (pa_cons (pv 5) pa_nil))) (fun _ _ => rfl)) (pa_cons (pe_dget (hu_of hr) (pv 2) (pe_tup (pa_cons (pv 5) (pa_cons (pv 8) pa_nil))) (fun _ _ => rfl)) pa_nil)) (by rfl))
      (pss_one (ps_if (PW.pt (pw_and (pt_cmpR (op_neK K hr.units) (pv 11) (pe_lst pa_nil) (nomark _)) (pw_and1 (pt_cmpR (op_neK K hr.units) (pv 12) (pe_lst pa_nil) (nomark _))))) (pss_one (ps_expr (pe_bmK K PySem.F.plainAttrs_list PySem.F.slot_list_extend PySem.F.type_list_extend mt_extend (pv 3) (pa_cons (pe_cl c_paired hr (pa_cons (pe_tup (pa_cons (pv 4) (pa_cons (pv 5) (pa_cons (pv 8) pa_nil)))) (pa_cons (pv 11) (pa_cons (pe_lc (own := [("at", 13), ("side", 14)]) rfl sc_blocks.nd (pi_listK K (pv 12)) (blkOk_by (N := ["house", "some", "pairs", "found", "one", "middle", "other", "row", "last", "bite", "made", "ahead", "rest", "at", "side"]) (sc := defScope s_blocks) (by decide +kernel)) (fun _ _ _ _ _ => (pg_tupK K 2 (by rfl) (pgs_cons (pg_name (i := 13) sc_blocks.nd rfl (by first | exact Or.inl rfl | exact Or.inr rfl)) (pgs_cons (pg_name (i := 14) sc_blocks.nd rfl (by first | exact Or.inl rfl | exact Or.inr rfl)) pgs_nil)))) (fun _ _ _ _ _ => pts_nil) (fun _ _ _ _ _ => (pe_tup (pa_cons (pe_op (op_addK K) (pv 13) pe_int) (pa_cons (pv 14) pa_nil))))) pa_nil))) pass0) pa_nil)))) pss_nil))))))))
      (pss_one (ps_ret (pv 3))))))), ?rd⟩), hm, F.kp, F.bindsN fun _ _ _ _ _ _ us hl => match us, hl with | [_], _ => rfl, .nil⟩
  case hl =>
    obtain ⟨a, S, rfl, _⟩ := h
    rfl
  case rd =>
    obtain ⟨a, S, rfl, hs, ok, q⟩ := h
    have lW := ws_len ok
    have ndW := words_nodup ok
    refine k_start (σ' := [some _, none, none, none, none, none, none, none, none, none, none, none, none, none, none]) rfl ?_
    walk_at "g"
    refine ⟨a, S, rfl, hs, ok, fun ps H1 n1 s1 e1 => ?_⟩
    have hs1 := hs.sm s1
    have e1s := sq_l (K := K) e1
    have lT : (tS (wsF S)).length = (wsF S).length := len_tS _
    walk_at "g"
    refine k_dcT2 ?_
    walk_at "g"
    refine k_nDcT2 (walk_list (xs := tS (wsF S))) (fun H' s => sm_l s e1s) (fun i kv H' => PrAt K S H' kv (prodTo (wsF S) i [] 0)) (fun i kv Ha Hb s h => pr_sm s h) .nil (fun i x D Ha Hb kv Nx hi hD sa eD hkv hy hNx => ?ht) (fun pd H2 kv n2 s2 e2 hkv => ?he)
    case ht =>
      obtain ⟨rfl, hv⟩ := hy
      obtain ⟨u, hu, rfl⟩ := map_get hv
      have e1a := sm_l sa e1s
      walk_at "g"
      refine ⟨rfl, ?_⟩
      walk_at "g"
      refine k_nInD (walk_list (xs := tS (wsF S))) sa hD eD (fun H' s => sm_l s e1s) (fun j kv H' => PrAt K S H' kv (prodTo (wsF S) i u j)) (fun i kv Ha Hb s h => pr_sm s h) hkv (fun j kv H' hj h => ?hz) (fun j x Hc Hd kv' Kp Ks hj sc eD' hkv' hy' hKp hKs => ?ht2) (fun Hc kv' sc eD' hkv' => ?he2)
      case hz =>
        have := pd_len h
        have := prodTo_len (wsF S) lW i u j
        omega
      case he2 =>
        refine hNx _ _ sc eD' ?_
        rw [lT, prodTo_all _ hu] at hkv'
        exact hkv'
      case ht2 =>
        obtain ⟨rfl, hv'⟩ := hy'
        obtain ⟨v, hv2, rfl⟩ := map_get hv'
        walk_at "g"
        refine ⟨rfl, ?_⟩
        walk_at "g"
        refine k_nTup (by walk_at "sz") (fun Tk H5 n5 s5 e5 => ?_)
        walk_at "g"
        refine k_nLst (by walk_at "sz") (fun pq H6 n6 s6 e6 => ?_)
        have s56 := s5.trans s6
        have wuv : AllW S [u, v] := fun y hy => by
          rcases List.mem_cons.mp hy with rfl | hy
          · exact List.mem_of_getElem? hu
          · rw [List.mem_singleton.mp hy]
            exact List.mem_of_getElem? hv2
        walk_at "g"
        refine ⟨a, pq, S, [u, v], rfl, hs1.sm (sc.trans s56), ok, sq_l e6, wuv, by show 2 ≤ 10000; decide, fun pb wb H7 n7 s7 e7 hb => ?_⟩
        have lwb := hb.len
        have l2 : (bitesF S [u, v]).length ≤ 2 := by
          have := btsF_len S u v
          unfold btsF at this
          rwa [List.length_map] at this
        walk_at "g"
        refine k_nLcD (walk_list (xs := wb)) (fun H' s => sq_l (s _ _ e7)) (fun i zs H' => DpAll K H' zs (((bitesF S [u, v]).take i).map dB1)) (fun i zs Ha Hb s h => dpall_sm s h) .nil (fun i zs Ha hi h => ?hz3) (fun i x p He Hf zs Kp' Ks' hi hp se ee hzs hy hKp' hKs' => ?ht3) (fun p8 H8 zs n8 s8 e8 hzs => ?he3)
        case hz3 =>
          have := dpall_len h
          rw [List.length_map, List.length_take] at this
          omega
        case ht3 =>
          obtain ⟨rfl, hw⟩ := hy
          obtain ⟨y, hy1, hy2⟩ := (BmAll.sm se hb).get hw
          obtain ⟨t, tb, tr, rfl, h1, h2, h3, _⟩ := hy2
          walk_at "g"
          refine ⟨rfl, ?_⟩
          walk_at "g"
          refine hKp' _ _ (Same.refl _) ?_
          rw [take_more hy1, List.map_append]
          exact dpall_app hzs (.tup (del_t ee h2) (.cons (.int _) (.cons (.str _) .nil)))
        case he3 =>
          rw [lwb, List.take_length] at hzs
          have s58 := s5.trans (s6.trans (s7.trans s8))
          have eD8 := s58 _ _ eD'
          have np : p8 ≠ D := fun z => by
            rw [z, (s5.trans (s6.trans s7)) _ _ eD'] at n8
            cases n8
          refine hKp Tk (kk2 (u, v)) (.ref p8) H8 s58 (s6.trans (s7.trans s8) _ _ e5) ?_
          have hb8 : DpAll K H8 zs ((btsF S u v).map dBt) := by
            unfold btsF
            rw [List.map_map]
            exact hzs
          rw [putK_new _ (pr_none hkv' (prod_new ndW hu hv2))]
          have et : prodTo (wsF S) i u (j + 1) = prodTo (wsF S) i u j ++ [(u, v)] := by
            unfold prodTo
            rw [take_more hv2, List.map_append, ← List.append_assoc]
            rfl
          rw [et]
          exact pd_app (pr_sm (del_mono s58) hkv') (.cons ⟨rfl, p8, zs, rfl, (del_ne np).trans e8, bts_to (fun _ _ h => del_tD eD8 h) hb8⟩ .nil)
    case he =>
      rw [lT, prodTo_end] at hkv
      have s12 := s1.trans s2
      have e1b := s2 _ _ e1
      have lkv := pd_len hkv
      walk_at "g"
      refine k_lockS2 e2 trivial (fun od H3 l1 l2 l3 => ?_)
      have nps : ps ≠ pd := fun z => by
        rw [z, e2] at e1b
        cases e1b
      have hkv3 : PrAt K S H3 kv (prodF (wsF S)) := pd_imp (fun p q ⟨h1, pl, ws, h2, h3, h4⟩ => ⟨h1, pl, ws, h2, l2 _ _ (fun z => by rw [z, e2] at h3; cases h3) h3, bts_to (fun _ _ h => lock_tD e2 l2 h) h4⟩) hkv
      walk_at "g"
      refine ⟨pd, od, rfl, .inr ⟨_, l1, ?_⟩⟩
      refine k_nLcD walk_keysT (fun H' s => s _ _ l1) (fun i zs H' => MgAll K H' zs (((prodF (wsF S)).take i).flatMap (twoQ S))) (fun i zs Ha Hb s h => mg_sm s h) .nil (fun i zs Ha hi h => ?hz4) (fun i x p Ha Hb zs Kp Ks hi hp sa ea hzs hy hKp hKs => ?ht4) (fun pf Hb zs hp sb eb hzs => ?he4)
      case hz4 =>
        have l := pd_len h
        have := flat_le (k := 1) (l := (prodF (wsF S)).take i) (f := twoQ S) (fun q _ => two_len S q.1 q.2)
        have l3 := prodTo_len (wsF S) lW (wsF S).length [] 0
        rw [prodTo_end] at l3
        rw [List.length_take] at this
        omega
      case ht4 =>
        obtain ⟨rfl, k, v0, qa, hk, rfl, hqa⟩ := hy
        obtain ⟨q0, hq0, ek, _⟩ := pd_at hkv3 hk
        obtain rfl : k = kk2 q0 := ek
        obtain ⟨pl, ws, hval, hpl, hd⟩ := pr_val hkv3 (List.mem_of_getElem? hq0)
        have l1a := sa _ _ l1
        have hpla := sa _ _ hpl
        have hda := dpall_sm sa hd
        have lws := dpall_len hd
        rw [List.length_map] at lws
        walk_at "g"
        refine ⟨rfl, ?_⟩
        walk_at "g"
        refine k_nDgTF l1a hqa hval ?_
        walk_at "g"
        refine k_dec (fun d => ?_) (fun d => ?_)
        · have d2 : (btsF S q0.1 q0.2).length = 2 := by omega
          have eb2 := btsF_two d2
          obtain ⟨w0, w1, rfl⟩ : ∃ w0 w1, ws = [w0, w1] := by
            match ws, (show ws.length = 2 by omega) with
            | [w0, w1], _ => exact ⟨w0, w1, rfl⟩
          rw [eb2] at hda
          obtain ⟨t0, b0, rfl, hb0, ht0⟩ := bt_of hda (i := 0) rfl
          obtain ⟨t1, b1, rfl, hb1, ht1⟩ := bt_of hda (i := 1) rfl
          cases hb0
          cases hb1
          walk_at "g"
          refine k_nDgTF l1a hqa hval ?_
          walk_at "g"
          refine k_nDgTF l1a hqa hval ?_
          walk_at "g"
          refine k_nTup (by walk_at "sz") (fun T5 H5 n5 s5 e5 => ?_)
          have nT : T5 ≠ p := fun z => by rw [z, ea] at n5; cases n5
          refine hKp _ _ s5 ?_
          rw [take_flat _ hq0, show twoQ S q0 = [([q0.1, q0.2], (0, true), (1, false))] from if_pos d2]
          have ea5 := s5 _ _ ea
          refine pd_app (mg_sm (del_mono s5) hzs) (.cons ⟨T5, qa, t0, t1, rfl, sq_t (by rw [del_ne nT]; exact e5), del_t ea5 (sq_t (s5 _ _ hqa)), del_t ea5 (ht0.sm s5), del_t ea5 (ht1.sm s5)⟩ .nil)
        · have d2 : ¬ (btsF S q0.1 q0.2).length = 2 := by omega
          walk_at "g"
          refine hKs _ (Same.refl _) ?_
          rw [take_flat _ hq0, show twoQ S q0 = [] from if_neg d2, List.append_nil]
          exact hzs
      case he4 =>
        rw [show kv.length = (prodF (wsF S)).length from lkv, List.take_length, twos_prod] at hzs
        walk_at "g"
        refine ⟨sb _ _ l1, ?_⟩
        have sU := unlock_same2 e2 l2 sb
        have npf : pf ≠ pd := fun z => by rw [z, sb _ _ l1] at eb; cases eb
        have epf : (upd Hb pd (.dT kv)) pf = some (.lst zs) := by rw [upd_ne npf]; exact eb
        have hzs5 : MgAll K (upd Hb pd (.dT kv)) zs (twosF S) := pd_imp (fun _ _ h => h.to fun b xs h => by
          rcases h with (h | ⟨v, h⟩) | h
          · exact .inl (.inl (by rw [upd_ne (ne_of h (sb _ _ l1) (fun z => by cases z))]; exact h))
          · exact .inl (.inr ⟨v, by rw [upd_ne (fun z => by rw [z, sb _ _ l1] at h; cases h)]; exact h⟩)
          · exact .inr h) hzs
        have n2pf : H2 pf = none := l3 _ hp
        generalize upd Hb pd (.dT kv) = H5 at sU epf hzs5 ⊢
        -- the heap without the list that grows
        have hd2 : Same H2 (del H5 pf) := sm_sep n2pf sU
        have mg0 := mg_del epf hzs5
        have sG : Same (del H5 pf) H5 := fun b o e => by
          unfold del at e
          split at e
          · cases e
          · exact e
        have nd0 : (del H5 pf) pf = none := by
          unfold del
          exact if_pos rfl
        generalize del H5 pf = Hd at hd2 mg0 sG nd0
        have hkvd := pr_sm hd2 hkv
        have epd := hd2 _ _ e2
        have epsd := sq_l (K := K) (hd2 _ _ e1b)
        clear hkv3 l2 l3 l1 hzs eb sb hp
        have sHd : Same H Hd := s12.trans hd2
        walk_at "g"
        refine k_nFor (walk_list (xs := tS (wsF S))) (fun i σ H' => (∃ y4 y5 y6 y7 y8 y9 y10 y11 y12 y13 y14, σ = [some (.ref a), some (.ref ps), some (.ref pd), some (.ref pf), y4, y5, y6, y7, y8, y9, y10, y11, y12, y13, y14]) ∧ Same Hd H' ∧ ∃ ws, H' pf = some (.lst ws) ∧ MgAll K H' ws (twosF S ++ ((wsF S).take i).flatMap (three1 S))) ⟨⟨_, _, _, _, _, _, _, _, _, _, _, rfl⟩, sG, zs, epf, by rw [List.take_zero, List.flatMap_nil, List.append_nil]; exact hzs5⟩ (fun i σ H' _ h => sm_l h.2.1 epsd) (fun i x σ Ha Hb hi h hy => ?hu) (fun σ H' h => ?hue)
        case hue =>
          obtain ⟨⟨y4, y5, y6, y7, y8, y9, y10, y11, y12, y13, y14, rfl⟩, sa, ws, ep, hmg⟩ := h
          rw [lT, List.take_length, ← blocks_eq] at hmg
          walk_at "g"
          exact q pf ws H' (s12.free n2pf) (sHd.trans sa) ep hmg
        case hu =>
          obtain ⟨⟨y4, y5, y6, y7, y8, y9, y10, y11, y12, y13, y14, rfl⟩, sa, ws, ep, hmg⟩ := h
          obtain ⟨rfl, hv⟩ := hy
          obtain ⟨u, hu, rfl⟩ := map_get hv
          have mu := List.mem_of_getElem? hu
          have epa := sm_l sa epsd
          walk_at "g"
          refine k_nFor (walk_list (xs := tS (wsF S))) (fun j σ H' => (∃ y5 y6 y7 y8 y9 y10 y11 y12 y13 y14, σ = [some (.ref a), some (.ref ps), some (.ref pd), some (.ref pf), some (.str (tx u)), y5, y6, y7, y8, y9, y10, y11, y12, y13, y14]) ∧ Same Hd H' ∧ ∃ ws, H' pf = some (.lst ws) ∧ MgAll K H' ws ((twosF S ++ ((wsF S).take i).flatMap (three1 S)) ++ ((wsF S).take j).flatMap (three2 S u))) ⟨⟨_, _, _, _, _, _, _, _, _, _, rfl⟩, sa, ws, ep, by rw [List.take_zero, List.flatMap_nil, List.append_nil]; exact hmg⟩ (fun i σ H' _ h => sm_l h.2.1 epsd) (fun j x σ Hc He hj h hy => ?hv) (fun σ H' h => ?hve)
          case hve =>
            obtain ⟨⟨y5, y6, y7, y8, y9, y10, y11, y12, y13, y14, rfl⟩, sb, ws', ep', hmg'⟩ := h
            rw [lT, List.take_length, List.append_assoc] at hmg'
            refine ⟨⟨_, _, _, _, _, _, _, _, _, _, _, rfl⟩, sb, ws', ep', ?_⟩
            rw [take_flat _ hu]
            exact hmg'
          case hv =>
            obtain ⟨⟨y5, y6, y7, y8, y9, y10, y11, y12, y13, y14, rfl⟩, sb, ws', ep', hmg'⟩ := h
            obtain ⟨rfl, hv2⟩ := hy
            obtain ⟨v, hv, rfl⟩ := map_get hv2
            have mv := List.mem_of_getElem? hv
            have epb := sm_l sb epsd
            walk_at "g"
            refine k_nFor (walk_list (xs := tS (wsF S))) (fun k σ H' => (∃ y6 y7 y8 y9 y10 y11 y12 y13 y14, σ = [some (.ref a), some (.ref ps), some (.ref pd), some (.ref pf), some (.str (tx u)), some (.str (tx v)), y6, y7, y8, y9, y10, y11, y12, y13, y14]) ∧ Same Hd H' ∧ ∃ ws, H' pf = some (.lst ws) ∧ MgAll K H' ws (((twosF S ++ ((wsF S).take i).flatMap (three1 S)) ++ ((wsF S).take j).flatMap (three2 S u)) ++ ((wsF S).take k).flatMap (threeF S u v))) ⟨⟨_, _, _, _, _, _, _, _, _, rfl⟩, sb, ws', ep', by rw [List.take_zero, List.flatMap_nil, List.append_nil]; exact hmg'⟩ (fun i σ H' _ h => sm_l h.2.1 epsd) (fun k x σ Hg Hh hk h hy => ?hz) (fun σ H' h => ?hze)
            case hze =>
              obtain ⟨⟨y6, y7, y8, y9, y10, y11, y12, y13, y14, rfl⟩, sc, ws'', ep'', hmg''⟩ := h
              rw [lT, List.take_length, List.append_assoc] at hmg''
              refine ⟨⟨_, _, _, _, _, _, _, _, _, _, rfl⟩, sc, ws'', ep'', ?_⟩
              rw [take_flat _ hv]
              exact hmg''
            case hz =>
              obtain ⟨⟨y6, y7, y8, y9, y10, y11, y12, y13, y14, rfl⟩, sc, ws'', ep'', hmg''⟩ := h
              obtain ⟨rfl, hz2⟩ := hy
              obtain ⟨z, hz, rfl⟩ := map_get hz2
              have mz := List.mem_of_getElem? hz
              have lws := pd_len hmg''
              have l1 := twos_len ok
              have l2 := three0_len ok _ (take_le lW i)
              have l3 := three1_len ok u _ (take_le lW j)
              have l4 := three2_len (S := S) u v _ (take_le lW k)
              rw [List.length_append, List.length_append, List.length_append] at lws
              obtain ⟨pl1, wa, ev1, ea1, da1⟩ := pr_val (pr_sm sc hkvd) (prod_mem mu mv)
              obtain ⟨pl2, wb, ev2, ea2, da2⟩ := pr_val (pr_sm sc hkvd) (prod_mem mv mz)
              have epc := sc _ _ epd
              walk_at "g"
              refine k_nTup (by walk_at "sz") (fun T5 H5 n5 s5 e5 => ?_)
              walk_at "g"
              refine k_nDgT (k := kk2 (u, v)) (s5 _ _ epc) e5 ev1 ?_
              walk_at "g"
              refine k_nTup (by walk_at "sz") (fun T6 H6 n6 s6 e6 => ?_)
              have s56 := s5.trans s6
              walk_at "g"
              refine k_nDgT (k := kk2 (v, z)) (s56 _ _ epc) e6 ev2 ?_
              walk_at "g"
              refine k_nLst (by walk_at "sz") (fun p7 H7 n7 s7 e7 => ?_)
              have s57 := s56.trans s7
              refine k_btNil (sq_l (s57 _ _ ea1)) (dpall_sm s57 da1) (sq_l e7) ?_
              walk_at "g"
              refine k_dec (fun d1 => ?_) (fun d1 => ?_)
              · walk_at "g"
                refine ⟨⟨_, _, _, _, _, _, _, _, _, rfl⟩, sc.trans s57, ws'', s57 _ _ ep'', ?_⟩
                rw [take_flat _ hz, show threeF S u v z = [] from if_neg fun c => c.1 d1, List.append_nil]
                exact mg_sm s57 hmg''
              · walk_at "g"
                refine k_nLst (by walk_at "sz") (fun p8 H8 n8 s8 e8 => ?_)
                have s58 := s57.trans s8
                refine k_btNil (sq_l (s58 _ _ ea2)) (dpall_sm s58 da2) (sq_l e8) ?_
                walk_at "g"
                refine k_dec (fun d2 => ?_) (fun d2 => ?_)
                · walk_at "g"
                  refine ⟨⟨_, _, _, _, _, _, _, _, _, rfl⟩, sc.trans s58, ws'', s58 _ _ ep'', ?_⟩
                  rw [take_flat _ hz, show threeF S u v z = [] from if_neg fun c => c.2 d2, List.append_nil]
                  exact mg_sm s58 hmg''
                · have ep8 := s58 _ _ ep''
                  have ea28 := s58 _ _ ea2
                  have ea18 := s58 _ _ ea1
                  have da28 := dpall_sm s58 da2
                  have lwb := dpall_len da2
                  rw [List.length_map] at lwb
                  have lb1 := btsF_len S u v
                  have lb2 := btsF_len S v z
                  walk_at "g"
                  refine k_nTup (by walk_at "sz") (fun T9 H9 n9 s9 e9 => ?_)
                  have ea29 := s9 _ _ ea28
                  walk_at "g"
                  refine k_nLcD (walk_list (xs := wb)) (fun H' s => sq_l (s _ _ ea29)) (fun i zs H' => DpAll K H' zs (((btsF S v z).take i).map fun b => dBt (shB b))) (fun i zs Ha Hb s h => dpall_sm s h) .nil (fun i zs Ha hi h => ?hz6) (fun i x p Hi Hj zs Kp Ks hi hp sd epx hzs hy hKp hKs => ?ht6) (fun p10 H10 zs n10 s10 e10 hzs => ?he6)
                  case hz6 =>
                    have := dpall_len h
                    rw [List.length_map, List.length_take] at this
                    omega
                  case ht6 =>
                    obtain ⟨rfl, hw⟩ := hy
                    obtain ⟨tb, b, rfl, hb, hbt⟩ := bt_of (dpall_sm (s9.trans sd) da28) hw
                    have hbt2 : SqT K _ tb [.int (b.1 : Nat), .str (sdS b.2)] := hbt
                    walk_at "g"
                    refine ⟨rfl, ?_⟩
                    walk_at "g"
                    refine k_nTup (by walk_at "sz") (fun T2 H11 n11 s11 e11 => ?_)
                    have nT : T2 ≠ p := fun z => by rw [z, epx] at n11; cases n11
                    refine hKp _ _ s11 ?_
                    rw [take_more hb, List.map_append]
                    refine dpall_app (dpall_sm (del_mono s11) hzs) (.tup (sq_t (by rw [del_ne nT]; exact e11)) (.cons ?_ (.cons (.str _) .nil)))
                    exact .int _
                  case he6 =>
                    rw [lwb, List.take_length] at hzs
                    have s910 := s9.trans s10
                    walk_at "g"
                    refine ⟨T9, pl1, p10, [u, v, z], btsF S u v, (btsF S v z).map shB, wa, zs, rfl, sq_t (s10 _ _ e9), sq_l (s910 _ _ ea18), dpall_sm (s58.trans s910) da1, sq_l e10, by rw [List.map_map]; exact hzs, by omega, by rw [List.length_map]; omega, fun p11 w11 H11 n11 s11 e11 hm11 => ?_⟩
                    have ll := pd_len hm11
                    have lp := pairedF_len [u, v, z] (btsF S u v) ((btsF S v z).map shB)
                    rw [List.length_map] at lp
                    have lq : (btsF S u v).length * (btsF S v z).length ≤ 2 * 2 := Nat.mul_le_mul lb1 lb2
                    have ep11 := (s910.trans s11) _ _ ep8
                    walk_at "g"
                    refine k_extend ep11 e11 (by omega) ?_
                    walk_at "g"
                    have sd := sc.trans (s58.trans (s910.trans s11))
                    refine ⟨⟨_, _, _, _, _, _, _, _, _, rfl⟩, sm_mut sd nd0, _, upd_same, ?_⟩
                    rw [take_flat _ hz, show threeF S u v z = pairedF [u, v, z] (btsF S u v) ((btsF S v z).map shB) from if_pos ⟨d1, d2⟩, ← List.append_assoc]
                    exact pd_app (mg_lst ep11 (mg_sm (s58.trans (s910.trans s11)) hmg'')) (mg_lst ep11 hm11)
end
end Lw
set_option autoImplicit true
set_option pp.maxSteps 1200
set_option Elab.async false
set_option linter.all false
set_option maxRecDepth 100000
set_option maxHeartbeats 1000000
namespace Lw
open PySem PySem.Spec PyProof.Rows L2 Gk
open PySem.W (dataLe dataLt)

local macro_rules | `(tactic| walk_at "hp") => `(tactic| first | assumption | exact upd_same | (refine' (upd_ne ?n).trans ?h; (case n => assumption); (case h => walk_at "hp")) | (refine' sm_get ?s ?h; (case s => assumption); (case h => walk_at "hp")))
local macro_rules | `(tactic| walk_at "sq") => `(tactic| first | assumption | (refine' sq_l ?h; (case h => walk_at "hp")) | (refine' sm_l ?s ?h; (case s => assumption); (case h => walk_at "sq")))
local macro_rules | `(tactic| walk_at "st") => `(tactic| first | assumption | (refine' sq_t ?h; (case h => walk_at "hp")) | (refine' sm_t ?s ?h; (case s => assumption); (case h => walk_at "st")))
local macro_rules | `(tactic| walk_at "bg") => `(tactic| first | assumption | (refine' BagOk.sm ?s ?h; (case s => assumption); (case h => walk_at "bg")))
local macro_rules | `(tactic| walk_at "sm") => `(tactic| first | assumption | exact Same.refl _ | (refine' Same.trans ?h ?s; (case s => assumption); (case h => walk_at "sm")))
local macro_rules | `(tactic| walk_at "hs") => `(tactic| first | assumption | (refine' HsAt.sm ?s ?h; (case s => assumption); (case h => walk_at "hs")))
local macro_rules | `(tactic| walk_at "ms") => `(tactic| first | assumption | (refine' MAt.sm ?s ?h; (case s => assumption); (case h => walk_at "ms")))
local macro_rules | `(tactic| walk_at "md") => `(tactic| first | assumption | (refine' MDk.sm ?s ?h; (case s => assumption); (case h => walk_at "md")))
local macro_rules | `(tactic| walk_at "dp") => `(tactic| first | assumption | (refine' dp_sm ?s ?h; (case s => assumption); (case h => walk_at "dp")))
local macro_rules | `(tactic| walk_at "sz") => `(tactic| first | decide | assumption | omega | (simp only [List.length_cons, List.length_nil, List.length_map, List.length_append]; omega))
local macro_rules | `(tactic| walk_at "g1") => `(tactic| first
  | with_reducible refine k_seq ?_
  | with_reducible refine k_itB ?_
  | with_reducible refine k_next ?_
  | with_reducible refine k_asg ?_
  | with_reducible refine k_name ?_
  | with_reducible refine k_ret ?_
  | with_reducible refine k_retN ?_
  | with_reducible refine k_drop ?_
  | with_reducible refine k_ifs ?_
  | with_reducible refine k_brk ?_
  | with_reducible refine k_cont ?_
  | with_reducible refine k_ipI ?_
  | with_reducible refine k_test ?_
  | with_reducible refine k_tB ?_
  | with_reducible refine k_bl ?_
  | with_reducible refine k_not ?_
  | with_reducible refine k_and ?_
  | with_reducible refine k_or ?_
  | with_reducible refine k_yes ?_
  | with_reducible refine k_true ?_
  | with_reducible refine k_false ?_
  | with_reducible refine k_nt ?_
  | with_reducible refine k_c ?_
  | with_reducible refine k_op ?_
  | with_reducible refine k_un ?_
  | with_reducible refine k_if ?_
  | with_reducible refine k_chain ?_
  | with_reducible refine k_nil ?_
  | with_reducible refine k_cons ?_
  | with_reducible refine k_cb ?_
  | with_reducible refine k_call ?_
  | with_reducible refine k_callS ?_
  | with_reducible refine k_andV ?_
  | with_reducible refine k_orV ?_
  | with_reducible refine k_notV ?_
  | with_reducible refine k_lst ?_
  | with_reducible refine k_tup ?_
  | with_reducible refine k_nopart ?_
  | with_reducible refine k_part ?_
  | with_reducible refine k_nInt ?_
  | with_reducible refine k_sl ?_
  | with_reducible refine k_bm ?_
  | with_reducible refine k_bm0 ?_
  | with_reducible refine k_nTyS ?_
  | with_reducible refine k_m1 ?_
  | with_reducible refine k_m0 ?_
  | with_reducible refine k_nStr ?_
  | with_reducible refine k_I0 ?_
  | with_reducible refine k_U ?_
  | with_reducible refine k_add_i ?_
  | with_reducible refine k_eq_i ?_
  | with_reducible refine k_eq_s ?_
  | with_reducible refine k_eq_b ?_
  | with_reducible refine k_ne_i ?_
  | with_reducible refine k_ne_s ?_
  | with_reducible refine k_ne_b ?_
  | with_reducible refine k_le_i ?_
  | with_reducible refine k_le_s ?_
  | with_reducible refine k_gnil ?_
  | with_reducible refine k_gcons ?_
  | with_reducible refine k_gsub ?_
  | with_reducible refine k_for ?_
  | with_reducible refine k_lc ?_
  | with_reducible refine k_rng1 ?_
  | with_reducible refine k_rng2 ?_
  | with_reducible refine k_itl ?_
  | with_reducible refine k_itt ?_
  | with_reducible refine k_its ?_
  | with_reducible refine k_ite ?_
  | with_reducible refine k_iteB ?_
  | with_reducible refine k_lrg2 ?_
  | with_reducible refine k_itz ?_
  | with_reducible refine k_nIts ?_
  | with_reducible refine k_inS ?_
  | with_reducible refine k_niS ?_
  | with_reducible refine k_mk ?_
  | with_reducible refine k_meth ?_
  | with_reducible refine k_fld ?_
  | with_reducible refine k_sfld ?_
  | with_reducible refine k_dg ?_
  | with_reducible refine k_dp ?_
  | with_reducible refine k_pr ?_
  | with_reducible refine k_pr0 ?_
  | with_reducible refine k_sg ?_
  | with_reducible refine k_lc2 ?_
  | with_reducible refine k_callN ?_
  | with_reducible refine k_callNS ?_
  | with_reducible refine k_par ?_
  | with_reducible refine k_nPar ?_
  | with_reducible refine k_isNn ?_
  | with_reducible refine k_isNr ?_
  | with_reducible refine k_ntNn ?_
  | with_reducible refine k_ntNr ?_
  | with_reducible refine k_min2 ?_
  | with_reducible refine k_max2 ?_
  | with_reducible refine k_intB ?_
  | with_reducible refine k_intI ?_
  | with_reducible refine k_isBl ?_
  | with_reducible refine k_ntBl ?_
  | ((with_reducible refine' k_var ?kv ?_); (case kv => exact rfl))
  | ((with_reducible refine' k_aug ?kv ?_); (case kv => exact rfl))
  | ((with_reducible refine' k_ix_l ?ks ?ki ?_); (case ks => walk_at "sq"); (case ki => exact rfl))
  | ((with_reducible refine' k_ix_t ?ks ?ki ?_); (case ks => walk_at "st"); (case ki => exact rfl))
  | ((with_reducible refine' k_len_l ?ks ?_); (case ks => walk_at "sq"))
  | ((with_reducible refine' k_len_t ?ks ?_); (case ks => walk_at "st"))
  | ((with_reducible refine' k_setL ?ks ?ki ?_); (case ks => walk_at "hp"); (case ki => exact rfl))
  | ((with_reducible refine' k_nTyL ?ks ?_); (case ks => walk_at "sq"))
  | ((with_reducible refine' k_nItl ?ks ?_); (case ks => walk_at "sq"))
  | ((with_reducible refine' k_nItt ?ks ?_); (case ks => walk_at "st"))
  | ((with_reducible refine' k_nIte ?ks ?_); (case ks => walk_at "sq"))
  | ((with_reducible refine' k_mul ?km ?_); (case km => first | exact Or.inr ⟨by decide, by decide⟩ | exact Or.inl ⟨by decide, by decide⟩))
  | ((with_reducible refine' k_I ?km ?_); (case km => first | assumption | decide | exact ⟨by decide, by decide +kernel⟩ | exact ⟨by decide, by decide, by decide⟩))
  | ((with_reducible refine' k_nMeth ?kp ?kl ?_); (case kp => walk_at "hp"); (case kl => exact rfl))
  | ((with_reducible refine' k_nFld ?kp ?kc ?kn ?kl ?_); (case kp => walk_at "hp"); (case kc => assumption); (case kn => assumption); (case kl => exact rfl))
  | ((with_reducible refine' k_nSFld ?kp ?kc ?kn ?kl ?_); (case kp => walk_at "hp"); (case kc => assumption); (case kn => assumption); (case kl => exact of_decide_eq_true rfl))
  | ((with_reducible refine' k_nDg ?kp ?kl ?_); (case kp => walk_at "hp"); (case kl => exact rfl))
  | ((with_reducible refine' k_nRng1 ?k1 ?k2 ?_); (case k1 => omega); (case k2 => omega))
  | ((with_reducible refine' k_nKw ?k1 ?k2 ?_); (case k1 => exact rfl); (case k2 => exact rfl))
  | ((with_reducible refine' k_hsm ?kh ?_); (case kh => walk_at "hs"))
  | ((with_reducible refine' k_nMethH ?kh ?kl ?_); (case kh => walk_at "hs"); (case kl => exact fun _ _ => rfl))
  | ((with_reducible refine' k_mLet ?kh ?_); (case kh => walk_at "ms"))
  | ((with_reducible refine' k_mChew ?kh ?_); (case kh => walk_at "ms"))
  | ((with_reducible refine' k_mPut ?kh ?_); (case kh => walk_at "ms"))
  | ((with_reducible refine' k_mMost ?kh ?_); (case kh => walk_at "ms"))
  | ((with_reducible refine' k_mCut ?kh ?_); (case kh => walk_at "ms"))
  | ((with_reducible refine' k_mTab ?kh ?_); (case kh => walk_at "md"))
  | ((with_reducible refine' k_mEats ?kh ?_); (case kh => walk_at "md"))
  | ((with_reducible refine' k_gtup ?ks ?kl ?_); (case ks => walk_at "st"); (case kl => exact rfl)))
local macro_rules | `(tactic| walk_at "g") => `(tactic| repeat (walk_at "g1"))
local macro_rules | `(tactic| walk_at "w1") => `(tactic| first
  | walk_at "g1"
  | ((with_reducible refine' k_decT ?kp ?_); (case kp => omega))
  | ((with_reducible refine' k_decF ?kp ?_); (case kp => omega))
  | ((with_reducible refine' k_decNT ?kp ?_); (case kp => omega))
  | ((with_reducible refine' k_decNF ?kp ?_); (case kp => omega)))
local macro_rules | `(tactic| walk_at "w") => `(tactic| repeat (walk_at "w1"))


section
variable {P : Program} {w : World} {K : PySem.W.Frag} {mg : Str → Option Value} {base : Heap} {f : Addr} {fd : FuncData}
/-! ### where two bites part -/
abbrev MtB : Type := Mg × Addr × Addr
/-- a meeting as it is told; pf is the list that holds it, H0 the heap ahead -/
def MtAt (K : PySem.W.Frag) (S : HsD) (H0 : Hp) (pf : Addr) (H : Hp) (v : V) (y : MtB) : Prop := ∃ T Tr T1 T2 ws1 ws2, v = .ref T ∧ SqT K H T [.ref Tr, .ref T1, .ref T2, .ref y.2.1, .ref y.2.2] ∧ SqT K H Tr (tS y.1.1) ∧ BtT K H T1 y.1.2.1 ∧ BtT K H T2 y.1.2.2 ∧
  (H y.2.1 = some (.lst ws1) ∧ DpAll K H ws1 ((goneF S y.1.1 y.1.2.1).2.map dBt)) ∧ (H y.2.2 = some (.lst ws2) ∧ DpAll K H ws2 ((goneF S y.1.1 y.1.2.2).2.map dBt)) ∧ (y.2.1 ≠ pf ∧ y.2.2 ≠ pf) ∧ H0 y.2.1 = none ∧ H0 y.2.2 = none
theorem MtAt.sm {S : HsD} {H0 H H' : Hp} {pf : Addr} {v : V} {y : MtB} (s : Same H H') (h : MtAt K S H0 pf H v y) : MtAt K S H0 pf H' v y := by
  obtain ⟨T, Tr, T1, T2, ws1, ws2, e, h1, h2, h3, h4, ⟨h5, h6⟩, ⟨h7, h8⟩, h9⟩ := h
  exact ⟨T, Tr, T1, T2, ws1, ws2, e, sm_t s h1, sm_t s h2, h3.sm s, h4.sm s, ⟨s _ _ h5, dpall_sm s h6⟩, ⟨s _ _ h7, dpall_sm s h8⟩, h9⟩
theorem MtAt.upd {S : HsD} {H0 H : Hp} {pf : Addr} {xs : List V} {o : HO} {v : V} {y : MtB} (hp : H pf = some (.lst xs)) (h : MtAt K S H0 pf H v y) : MtAt K S H0 pf (upd H pf o) v y := by
  obtain ⟨T, Tr, T1, T2, ws1, ws2, e, h1, h2, h3, h4, ⟨h5, h6⟩, ⟨h7, h8⟩, ⟨n1, n2⟩, h9⟩ := h
  exact ⟨T, Tr, T1, T2, ws1, ws2, e, t_lst hp h1, t_lst hp h2, t_lst hp h3, t_lst hp h4, ⟨(upd_ne n1).trans h5, bts_to (fun _ _ h => t_lst hp h) h6⟩, ⟨(upd_ne n2).trans h7, bts_to (fun _ _ h => t_lst hp h) h8⟩, ⟨n1, n2⟩, h9⟩
/-- all meetings as they are told: each list stands alone -/
structure PaperAt (K : PySem.W.Frag) (S : HsD) (H0 : Hp) (pf : Addr) (H : Hp) (L : List Mg) : Prop where
  ex : ∃ ws B, H pf = some (.lst ws) ∧ Paired (MtAt K S H0 pf H) ws B ∧ B.map Prod.fst = L ∧ (B.flatMap fun y => [y.2.1, y.2.2]).Nodup
/-- a parting as it is told -/
def PtAt (K : PySem.W.Frag) (S : HsD) (H0 H : Hp) (v : V) : Option Mg → Prop
  | none => v = .non
  | some x => ∃ T Tr p1 p2 ws1 ws2, v = .ref T ∧ SqT K H T [.ref Tr, .ref p1, .ref p2] ∧ SqT K H Tr (tS x.1) ∧ (H p1 = some (.lst ws1) ∧ DpAll K H ws1 ((x.2.1 :: (goneF S x.1 x.2.1).2).map dBt)) ∧ (H p2 = some (.lst ws2) ∧ DpAll K H ws2 ((x.2.2 :: (goneF S x.1 x.2.2).2).map dBt)) ∧ (H0 p1 = none ∧ H0 p2 = none ∧ p1 ≠ p2)
theorem find_at {α : Type} {p : α → Bool} : ∀ {l : List α} {i : Nat} {x : α}, l[i]? = some x → p x = true → (∀ k y, k < i → l[k]? = some y → p y = false) → l.find? p = some x
  | [], _, _, h, _, _ => by simp at h
  | y :: l, 0, x, h, hp, _ => by
    cases h
    exact List.find?_cons_of_pos hp
  | y :: l, i + 1, x, h, hp, hb => by
    have h0 := hb 0 y (Nat.succ_pos _) rfl
    rw [List.find?_cons_of_neg (by rw [h0]; exact Bool.false_ne_true)]
    exact find_at (i := i) (by simpa using h) hp fun k z hk hz => hb (k + 1) z (Nat.succ_lt_succ hk) (by simpa using hz)
theorem find_not {α : Type} {p : α → Bool} {l : List α} (h : ∀ (k : Nat) (y : α), l[k]? = some y → p y = false) : l.find? p = none := List.find?_eq_none.mpr fun y hy => by
  obtain ⟨k, hk⟩ := List.getElem?_of_mem hy
  rw [h k y hk]
  exact Bool.false_ne_true
def spParted (K : PySem.W.Frag) : Sp := fun vs H Q _ => ∃ (a : Addr) (S : HsD), vs = [.ref a] ∧ HsAt K H a S ∧ HsOk S ∧
  ∀ T v pf H', Same H H' → H' T = some (.tup [v, .ref pf]) → PtAt K S H H' v (partF S) → (partF S = none → H pf = none ∧ PaperAt K S H pf H' (blocksF S)) → Q (.ref T) H'
theorem gone_small {S : HsD} (ok : HsOk S) {x : Mg} (hx : MgOk S x) (b : Bt) (hb : ∃ m, behF S x.1 ((b.1 : Nat) : Int) b.2 = some m) : AllW S (goneF S x.1 b).1 ∧ (goneF S x.1 b).1.length ≤ 500 ∧ (goneF S x.1 b).2.length ≤ 60 := by
  obtain ⟨m, em⟩ := hb
  obtain ⟨wm, lm⟩ := behF_words ok hx.w em
  have l := hx.l
  obtain ⟨h1, h2, h3⟩ := runF_words (o := ordF) ok 60 0 m wm
  have eg : goneF S x.1 b = runF S ordF 60 0 m := by
    unfold goneF behD
    rw [em]
    rfl
  rw [eg]
  exact ⟨h1, by omega, h3⟩
theorem ok_parted (F : FnP K "parted" s_parted f fd) (hm : mg "parted" = some (.ref f)) (c_blocks : Callee P w K mg base CX0 "blocks" 5 [] (spBlocks K)) (c_ended : Callee P w K mg base CX0 "ended" 6 [] (spEnded K)) : Callee P w K mg base CX0 "parted" 7 [] (spParted K) := by
  refine ⟨f, fd, _, [], F.ok sc_parted (fun vs H Q E h => ?hl) (fun cdv A outer s H vs Q E hr h => ⟨_, PSs.nox (pss_cons (ps_set (i := 1) sc_parted.nd rfl (by first | exact Or.inl rfl | exact Or.inr rfl) (pe_lst pa_nil))
      (pss_cons (ps_for PassesOwn.never rfl (pi_listK K (pe_cl c_blocks hr (pa_cons (pv 0) pa_nil) pass0)) (pg_tupK K 3 (by rfl) (pgs_cons (pg_name (i := 2) sc_parted.nd rfl (by first | exact Or.inl rfl | exact Or.inr rfl)) (pgs_cons (pg_name (i := 3) sc_parted.nd rfl (by first | exact Or.inl rfl | exact Or.inr rfl)) (pgs_cons (pg_name (i := 4) sc_parted.nd rfl (by first | exact Or.inl rfl | exact Or.inr rfl)) pgs_nil)))) (pss_cons (ps_asg (pe_cl c_ended hr (pa_cons (pv 0) (pa_cons (pv 2) (pa_cons (pv 3) pa_nil))) pass0) (pg_tupK K 2 (by rfl) (pgs_cons (pg_name (i := 5) sc_parted.nd rfl (by first | exact Or.inl rfl | exact Or.inr rfl)) (pgs_cons (pg_name (i := 6) sc_parted.nd rfl (by first | exact Or.inl rfl | exact Or.inr rfl)) pgs_nil))))
      (pss_cons (ps_asg (pe_cl c_ended hr (pa_cons (pv 0) (pa_cons (pv 2) (pa_cons (pv 4) pa_nil))) pass0) (pg_tupK K 2 (by rfl) (pgs_cons (pg_name (i := 7) sc_parted.nd rfl (by first | exact Or.inl rfl | exact Or.inr rfl)) (pgs_cons (pg_name (i := 8) sc_parted.nd rfl (by first | exact Or.inl rfl | exact Or.inr rfl)) pgs_nil))))
      (pss_cons (ps_if (pt_cmpR (op_neK K hr.units) (pv 6) (pv 8) (nomark _)) (pss_one (ps_ret (pe_tup (pa_cons (pe_tup (pa_cons (pv 2) (pa_cons (pe_op (op_addK K) (pe_lst (pa_cons (pv 3) pa_nil)) (pv 5)) (pa_cons (pe_op (op_addK K) (pe_lst (pa_cons (pv 4) pa_nil)) (pv 7)) pa_nil)))) (pa_cons (pv 1) pa_nil))))) pss_nil)
      (pss_one (ps_expr (pe_bmK K PySem.F.plainAttrs_list PySem.F.slot_list_append PySem.F.type_list_append mt_append (pv 1) (pa_cons (pe_tup (pa_cons (pv 2) (pa_cons (pv 3) (pa_cons (pv 4) (pa_cons (pv 5) (pa_cons (pv 7) pa_nil)))))) pa_nil))))))))
      (pss_one (ps_ret (pe_tup (pa_cons pe_non (pa_cons (pv 1) pa_nil))))))), ?rd⟩), hm, F.kp, F.bindsN fun _ _ _ _ _ _ us hl => match us, hl with | [_], _ => rfl, .nil⟩
  case hl =>
    obtain ⟨a, S, rfl, _⟩ := h
    rfl
  case rd =>
    obtain ⟨a, S, rfl, hs, ok, q⟩ := h
    refine k_start (σ' := [some _, none, none, none, none, none, none, none, none]) rfl ?_
    walk_at "g"
    refine k_nLst (by walk_at "sz") (fun pf H1 n1 s1 e1 => ?_)
    walk_at "g"
    refine ⟨a, S, rfl, hs.sm s1, ok, fun pb wb H2 n2 s2 e2 hmg => ?_⟩
    have s12 := s1.trans s2
    have e12 := s2 _ _ e1
    have lb := pd_len hmg
    have lB := blocks_len ok
    have npb : pb ≠ pf := fun z => by rw [z, e1] at n2; cases n2
    -- the heap without the list that grows
    have sHd : Same H (del H2 pf) := sm_sep n1 s12
    have mg0 := mg_del e12 hmg
    have epb : (del H2 pf) pb = some (.lst wb) := (del_ne npb).trans e2
    have sG : Same (del H2 pf) H2 := fun b o e => by
      unfold del at e
      split at e
      · cases e
      · exact e
    have nd0 : (del H2 pf) pf = none := by
      unfold del
      exact if_pos rfl
    have e2s := sq_l (K := K) e2
    generalize del H2 pf = Hd at sHd mg0 epb sG nd0
    have epbs := sq_l (K := K) epb
    walk_at "g"
    refine k_nFor (walk_list (xs := wb)) (fun i σ H' => (∃ y2 y3 y4 y5 y6 y7 y8, σ = [some (.ref a), some (.ref pf), y2, y3, y4, y5, y6, y7, y8]) ∧ Same Hd H' ∧ (∀ k y, k < i → (blocksF S)[k]? = some y → partsF S y = false) ∧ ∃ ws B, H' pf = some (.lst ws) ∧ Paired (MtAt K S H pf H') ws B ∧ B.map Prod.fst = (blocksF S).take i ∧ (B.flatMap fun y => [y.2.1, y.2.2]).Nodup) ⟨⟨_, _, _, _, _, _, _, rfl⟩, sG, (fun k y hk _ => absurd hk (Nat.not_lt_zero _)), [], [], e12, .nil, rfl, List.nodup_nil⟩ (fun i σ H' _ h => sm_l h.2.1 epbs) (fun i x σ Ha Hb hi h hy => ?ht) (fun σ H' h => ?he)
    case he =>
      obtain ⟨⟨y2, y3, y4, y5, y6, y7, y8, rfl⟩, sa, hno, ws, B, ep, hB, eB, nB⟩ := h
      rw [lb, List.take_length] at eB
      have en : partF S = none := find_not fun k y hk => hno k y (by rw [lb]; exact (List.getElem?_eq_some_iff.mp hk).1) hk
      walk_at "g"
      refine k_nTup (by walk_at "sz") (fun T3 H3 n3 s3 e3 => ?_)
      refine q T3 .non pf H3 (sHd.trans (sa.trans s3)) e3 (by rw [en]; rfl) fun _ => ⟨n1, ⟨ws, B, s3 _ _ ep, pd_imp (fun _ _ h => h.sm s3) hB, eB, nB⟩⟩
    case ht =>
      obtain ⟨⟨y2, y3, y4, y5, y6, y7, y8, rfl⟩, sa, hno, ws, B, ep, hB, eB, nB⟩ := h
      obtain ⟨rfl, hv⟩ := hy
      obtain ⟨x, hx, T, Tr, T1, T2, rfl, hT, hTr, hb1, hb2⟩ := pd_at (mg_sm sa mg0) hv
      have hok := block_ok x (List.mem_of_getElem? hx)
      have l3 : x.1.length ≤ 3 := by have := hok.l; omega
      have lws := pd_len hB
      have lB2 : B.length ≤ 12000 := by
        have : B.length = (B.map Prod.fst).length := (List.length_map _).symm
        rw [eB, List.length_take] at this
        omega
      have sHa := sHd.trans sa
      walk_at "g"
      refine ⟨a, Tr, T1, S, x.1, x.2.1, rfl, hs.sm sHa, ok, hTr, hb1, hok.w, l3, hok.a, fun R1 q1 z1 w1 H3 s3 e3 m1 f1 g1 d1 => ?_⟩
      have sH3 := sHa.trans s3
      walk_at "g"
      refine ⟨a, Tr, T2, S, x.1, x.2.2, rfl, hs.sm sH3, ok, sm_t s3 hTr, hb2.sm s3, hok.w, l3, hok.b, fun R2 q2 z2 w2 H4 s4 e4 m2 f2 g2 d2 => ?_⟩
      have s34 := s3.trans s4
      have sH4 := sH3.trans s4
      have f14 := s4 _ _ f1
      obtain ⟨wg1, lg1, lr1⟩ := gone_small ok hok x.2.1 hok.a
      obtain ⟨wg2, lg2, lr2⟩ := gone_small ok hok x.2.2 hok.b
      have g14 := s4 _ _ g1
      have d14 := dpall_sm s4 d1
      have lw1 := dpall_len d1
      have lw2 := dpall_len d2
      rw [List.length_map] at lw1 lw2
      walk_at "g"
      refine k_ne_d (.lst (sq_l f14) (dp_tS _)) (.lst (sq_l f2) (dp_tS _)) ((good_allW ok wg1 (by omega) 1).shaped (by decide)) ((good_allW ok wg2 (by omega) 1).shaped (by decide)) ?_
      rw [eqv_rows]
      have hTr4 := sm_t s34 hTr
      have ep4 := s34 _ _ ep
      have hb14 := hb1.sm s34
      have hb24 := hb2.sm s34
      walk_at "g"
      refine k_dec (fun d => ?_) (fun d => ?_)
      · have hno' : partsF S x = false := by
          unfold partsF
          rw [decide_eq_true d]
          rfl
        walk_at "g"
        refine k_nTup (by walk_at "sz") (fun T5 H5 n5 s5 e5 => ?_)
        have ep5 := s5 _ _ ep4
        walk_at "g"
        refine k_append ep5 (by omega) ?_
        walk_at "g"
        have nq1 : q1 ≠ pf := fun z => by rw [z, ep] at m1; cases m1
        have nq2 : q2 ≠ pf := fun z => by rw [z, s3 _ _ ep] at m2; cases m2
        have nq : q1 ≠ q2 := fun z => by rw [← z, g1] at m2; cases m2
        refine ⟨⟨_, _, _, _, _, _, _, rfl⟩, sm_mut (sa.trans (s34.trans s5)) nd0, fun k y hk hy => ?_, _, B ++ [(x, q1, q2)], upd_same, pd_app (pd_imp (fun _ _ h => (h.sm (s34.trans s5)).upd ep5) hB) (.cons (MtAt.upd ep5 ⟨T5, Tr, T1, T2, w1, w2, rfl, sq_t e5, sm_t s5 hTr4, hb14.sm s5, hb24.sm s5, ⟨s5 _ _ g14, dpall_sm s5 d14⟩, ⟨s5 _ _ g2, dpall_sm s5 d2⟩, ⟨nq1, nq2⟩, sHa.free m1, sH3.free m2⟩) .nil), ?_, ?_⟩
        · rcases Nat.lt_succ_iff_lt_or_eq.mp hk with hk | rfl
          · exact hno k y hk hy
          · rw [hx] at hy
            cases hy
            exact hno'
        · rw [take_more hx, List.map_append, eB]
          rfl
        · rw [List.flatMap_append]
          refine List.nodup_append.mpr ⟨nB, ?_, fun p hp p' hp' => ?_⟩
          · show [q1, q2].Nodup
            exact List.nodup_cons.mpr ⟨fun z => nq (List.mem_singleton.mp z), List.pairwise_singleton _ _⟩
          · obtain ⟨y, hy, hp⟩ := List.mem_flatMap.mp hp
            obtain ⟨i0, hi0⟩ := List.getElem?_of_mem hy
            have hil : i0 < ws.length := by rw [lws]; exact (List.getElem?_eq_some_iff.mp hi0).1
            obtain ⟨y', hy', ht⟩ := pd_at hB (List.getElem?_eq_getElem hil)
            rw [hi0] at hy'
            cases hy'
            obtain ⟨_, _, _, _, u1, u2, _, _, _, _, _, ⟨t1, _⟩, ⟨t2, _⟩, _⟩ := ht
            have hp'' : p' = q1 ∨ p' = q2 := by
              rcases List.mem_cons.mp hp' with h | h
              · exact .inl h
              · exact .inr (List.mem_singleton.mp h)
            have there : ∃ o, Hb p = some o := by
              rcases List.mem_cons.mp hp with h | h
              · exact ⟨_, by rw [h]; exact t1⟩
              · exact ⟨_, by rw [List.mem_singleton.mp h]; exact t2⟩
            obtain ⟨o, ho⟩ := there
            rcases hp'' with rfl | rfl
            · exact fun z => by rw [z, m1] at ho; cases ho
            · exact fun z => by
                have ho3 := s3 _ _ ho
                rw [z, m2] at ho3
                cases ho3
      · have hyes : partsF S x = true := by
          unfold partsF
          rw [decide_eq_false d]
          rfl
        have en : partF S = some x := find_at hx hyes hno
        walk_at "g"
        refine k_nLst (by walk_at "sz") (fun p5 H5 n5 s5 e5 => ?_)
        walk_at "g"
        refine k_add_l e5 (s5 _ _ g14) (by show 1 + _ ≤ _; omega) (fun p6 H6 n6 s6 e6 => ?_)
        walk_at "g"
        refine k_nLst (by walk_at "sz") (fun p7 H7 n7 s7 e7 => ?_)
        have s57 := s5.trans (s6.trans s7)
        walk_at "g"
        refine k_add_l e7 (s57 _ _ g2) (by show 1 + _ ≤ _; omega) (fun p8 H8 n8 s8 e8 => ?_)
        have s58 := s57.trans s8
        walk_at "g"
        refine k_nTup (by walk_at "sz") (fun T9 H9 n9 s9 e9 => ?_)
        walk_at "g"
        refine k_nTup (by walk_at "sz") (fun T10 H10 n10 s10 e10 => ?_)
        have s510 := s58.trans (s9.trans s10)
        have s610 := s7.trans (s8.trans (s9.trans s10))
        have s810 := s9.trans s10
        have z6 := (sH4.trans s5).free n6
        have z8 := (sH4.trans s57).free n8
        refine q T10 (.ref T9) pf H10 (sH4.trans s510) e10 ?_ (fun h => by rw [en] at h; cases h)
        rw [en]
        refine ⟨T9, Tr, p6, p8, _, _, rfl, sq_t (s10 _ _ e9), sm_t s510 hTr4, ⟨s610 _ _ e6, ?_⟩, ⟨s810 _ _ e8, ?_⟩, z6, z8, fun z => by rw [← z, s7 _ _ e6] at n8; cases n8⟩
        · exact .cons (hb14.sm s510).dp (dpall_sm s510 d14)
        · exact .cons (hb24.sm s510).dp (dpall_sm s510 d2)
end
end Lw
set_option autoImplicit true
set_option pp.maxSteps 1200
set_option Elab.async false
set_option linter.all false
set_option maxRecDepth 100000
set_option maxHeartbeats 1000000
namespace Lw
open PySem PySem.Spec PyProof.Rows L2 Gk
open PySem.W (dataLe dataLt)

local macro_rules | `(tactic| walk_at "hp") => `(tactic| first | assumption | exact upd_same | (refine' (upd_ne ?n).trans ?h; (case n => assumption); (case h => walk_at "hp")) | (refine' sm_get ?s ?h; (case s => assumption); (case h => walk_at "hp")))
local macro_rules | `(tactic| walk_at "sq") => `(tactic| first | assumption | (refine' sq_l ?h; (case h => walk_at "hp")) | (refine' sm_l ?s ?h; (case s => assumption); (case h => walk_at "sq")))
local macro_rules | `(tactic| walk_at "st") => `(tactic| first | assumption | (refine' sq_t ?h; (case h => walk_at "hp")) | (refine' sm_t ?s ?h; (case s => assumption); (case h => walk_at "st")))
local macro_rules | `(tactic| walk_at "bg") => `(tactic| first | assumption | (refine' BagOk.sm ?s ?h; (case s => assumption); (case h => walk_at "bg")))
local macro_rules | `(tactic| walk_at "sm") => `(tactic| first | assumption | exact Same.refl _ | (refine' Same.trans ?h ?s; (case s => assumption); (case h => walk_at "sm")))
local macro_rules | `(tactic| walk_at "hs") => `(tactic| first | assumption | (refine' HsAt.sm ?s ?h; (case s => assumption); (case h => walk_at "hs")))
local macro_rules | `(tactic| walk_at "ms") => `(tactic| first | assumption | (refine' MAt.sm ?s ?h; (case s => assumption); (case h => walk_at "ms")))
local macro_rules | `(tactic| walk_at "md") => `(tactic| first | assumption | (refine' MDk.sm ?s ?h; (case s => assumption); (case h => walk_at "md")))
local macro_rules | `(tactic| walk_at "dp") => `(tactic| first | assumption | (refine' dp_sm ?s ?h; (case s => assumption); (case h => walk_at "dp")))
local macro_rules | `(tactic| walk_at "sz") => `(tactic| first | decide | assumption | omega | (simp only [List.length_cons, List.length_nil, List.length_map, List.length_append]; omega))
local macro_rules | `(tactic| walk_at "g1") => `(tactic| first
  | with_reducible refine k_seq ?_
  | with_reducible refine k_itB ?_
  | with_reducible refine k_next ?_
  | with_reducible refine k_asg ?_
  | with_reducible refine k_name ?_
  | with_reducible refine k_ret ?_
  | with_reducible refine k_retN ?_
  | with_reducible refine k_drop ?_
  | with_reducible refine k_ifs ?_
  | with_reducible refine k_brk ?_
  | with_reducible refine k_cont ?_
  | with_reducible refine k_ipI ?_
  | with_reducible refine k_test ?_
  | with_reducible refine k_tB ?_
  | with_reducible refine k_bl ?_
  | with_reducible refine k_not ?_
  | with_reducible refine k_and ?_
  | with_reducible refine k_or ?_
  | with_reducible refine k_yes ?_
  | with_reducible refine k_true ?_
  | with_reducible refine k_false ?_
  | with_reducible refine k_nt ?_
  | with_reducible refine k_c ?_
  | with_reducible refine k_op ?_
  | with_reducible refine k_un ?_
  | with_reducible refine k_if ?_
  | with_reducible refine k_chain ?_
  | with_reducible refine k_nil ?_
  | with_reducible refine k_cons ?_
  | with_reducible refine k_cb ?_
  | with_reducible refine k_call ?_
  | with_reducible refine k_callS ?_
  | with_reducible refine k_andV ?_
  | with_reducible refine k_orV ?_
  | with_reducible refine k_notV ?_
  | with_reducible refine k_lst ?_
  | with_reducible refine k_tup ?_
  | with_reducible refine k_nopart ?_
  | with_reducible refine k_part ?_
  | with_reducible refine k_nInt ?_
  | with_reducible refine k_sl ?_
  | with_reducible refine k_bm ?_
  | with_reducible refine k_bm0 ?_
  | with_reducible refine k_nTyS ?_
  | with_reducible refine k_m1 ?_
  | with_reducible refine k_m0 ?_
  | with_reducible refine k_nStr ?_
  | with_reducible refine k_I0 ?_
  | with_reducible refine k_U ?_
  | with_reducible refine k_add_i ?_
  | with_reducible refine k_eq_i ?_
  | with_reducible refine k_eq_s ?_
  | with_reducible refine k_eq_b ?_
  | with_reducible refine k_ne_i ?_
  | with_reducible refine k_ne_s ?_
  | with_reducible refine k_ne_b ?_
  | with_reducible refine k_le_i ?_
  | with_reducible refine k_le_s ?_
  | with_reducible refine k_gnil ?_
  | with_reducible refine k_gcons ?_
  | with_reducible refine k_gsub ?_
  | with_reducible refine k_for ?_
  | with_reducible refine k_lc ?_
  | with_reducible refine k_rng1 ?_
  | with_reducible refine k_rng2 ?_
  | with_reducible refine k_itl ?_
  | with_reducible refine k_itt ?_
  | with_reducible refine k_its ?_
  | with_reducible refine k_ite ?_
  | with_reducible refine k_iteB ?_
  | with_reducible refine k_lrg2 ?_
  | with_reducible refine k_itz ?_
  | with_reducible refine k_nIts ?_
  | with_reducible refine k_inS ?_
  | with_reducible refine k_niS ?_
  | with_reducible refine k_mk ?_
  | with_reducible refine k_meth ?_
  | with_reducible refine k_fld ?_
  | with_reducible refine k_sfld ?_
  | with_reducible refine k_dg ?_
  | with_reducible refine k_dp ?_
  | with_reducible refine k_pr ?_
  | with_reducible refine k_pr0 ?_
  | with_reducible refine k_sg ?_
  | with_reducible refine k_lc2 ?_
  | with_reducible refine k_callN ?_
  | with_reducible refine k_callNS ?_
  | with_reducible refine k_par ?_
  | with_reducible refine k_nPar ?_
  | with_reducible refine k_isNn ?_
  | with_reducible refine k_isNr ?_
  | with_reducible refine k_ntNn ?_
  | with_reducible refine k_ntNr ?_
  | with_reducible refine k_min2 ?_
  | with_reducible refine k_max2 ?_
  | with_reducible refine k_intB ?_
  | with_reducible refine k_intI ?_
  | with_reducible refine k_isBl ?_
  | with_reducible refine k_ntBl ?_
  | ((with_reducible refine' k_var ?kv ?_); (case kv => exact rfl))
  | ((with_reducible refine' k_aug ?kv ?_); (case kv => exact rfl))
  | ((with_reducible refine' k_ix_l ?ks ?ki ?_); (case ks => walk_at "sq"); (case ki => exact rfl))
  | ((with_reducible refine' k_ix_t ?ks ?ki ?_); (case ks => walk_at "st"); (case ki => exact rfl))
  | ((with_reducible refine' k_len_l ?ks ?_); (case ks => walk_at "sq"))
  | ((with_reducible refine' k_len_t ?ks ?_); (case ks => walk_at "st"))
  | ((with_reducible refine' k_setL ?ks ?ki ?_); (case ks => walk_at "hp"); (case ki => exact rfl))
  | ((with_reducible refine' k_nTyL ?ks ?_); (case ks => walk_at "sq"))
  | ((with_reducible refine' k_nItl ?ks ?_); (case ks => walk_at "sq"))
  | ((with_reducible refine' k_nItt ?ks ?_); (case ks => walk_at "st"))
  | ((with_reducible refine' k_nIte ?ks ?_); (case ks => walk_at "sq"))
  | ((with_reducible refine' k_mul ?km ?_); (case km => first | exact Or.inr ⟨by decide, by decide⟩ | exact Or.inl ⟨by decide, by decide⟩))
  | ((with_reducible refine' k_I ?km ?_); (case km => first | assumption | decide | exact ⟨by decide, by decide +kernel⟩ | exact ⟨by decide, by decide, by decide⟩))
  | ((with_reducible refine' k_nMeth ?kp ?kl ?_); (case kp => walk_at "hp"); (case kl => exact rfl))
  | ((with_reducible refine' k_nFld ?kp ?kc ?kn ?kl ?_); (case kp => walk_at "hp"); (case kc => assumption); (case kn => assumption); (case kl => exact rfl))
  | ((with_reducible refine' k_nSFld ?kp ?kc ?kn ?kl ?_); (case kp => walk_at "hp"); (case kc => assumption); (case kn => assumption); (case kl => exact of_decide_eq_true rfl))
  | ((with_reducible refine' k_nDg ?kp ?kl ?_); (case kp => walk_at "hp"); (case kl => exact rfl))
  | ((with_reducible refine' k_nRng1 ?k1 ?k2 ?_); (case k1 => omega); (case k2 => omega))
  | ((with_reducible refine' k_nKw ?k1 ?k2 ?_); (case k1 => exact rfl); (case k2 => exact rfl))
  | ((with_reducible refine' k_hsm ?kh ?_); (case kh => walk_at "hs"))
  | ((with_reducible refine' k_nMethH ?kh ?kl ?_); (case kh => walk_at "hs"); (case kl => exact fun _ _ => rfl))
  | ((with_reducible refine' k_mLet ?kh ?_); (case kh => walk_at "ms"))
  | ((with_reducible refine' k_mChew ?kh ?_); (case kh => walk_at "ms"))
  | ((with_reducible refine' k_mPut ?kh ?_); (case kh => walk_at "ms"))
  | ((with_reducible refine' k_mMost ?kh ?_); (case kh => walk_at "ms"))
  | ((with_reducible refine' k_mCut ?kh ?_); (case kh => walk_at "ms"))
  | ((with_reducible refine' k_mTab ?kh ?_); (case kh => walk_at "md"))
  | ((with_reducible refine' k_mEats ?kh ?_); (case kh => walk_at "md"))
  | ((with_reducible refine' k_gtup ?ks ?kl ?_); (case ks => walk_at "st"); (case kl => exact rfl)))
local macro_rules | `(tactic| walk_at "g") => `(tactic| repeat (walk_at "g1"))
local macro_rules | `(tactic| walk_at "w1") => `(tactic| first
  | walk_at "g1"
  | ((with_reducible refine' k_decT ?kp ?_); (case kp => omega))
  | ((with_reducible refine' k_decF ?kp ?_); (case kp => omega))
  | ((with_reducible refine' k_decNT ?kp ?_); (case kp => omega))
  | ((with_reducible refine' k_decNF ?kp ?_); (case kp => omega)))
local macro_rules | `(tactic| walk_at "w") => `(tactic| repeat (walk_at "w1"))


section
variable {P : Program} {w : World} {K : PySem.W.Frag} {mg : Str → Option Value} {base : Heap} {f : Addr} {fd : FuncData}
/-- the refusal of a house that isn't lean -/
abbrev NoLean (K : PySem.W.Frag) (S : HsD) (H : Hp) (E : XK) : Prop := kindF S ≠ Str.ofString "lean" → ∀ d H', H d = none → Same H H' → H' d = some (.xd [("word", .str "NotLean")]) → E (.ref (He.ga K "NotLean")) (some d) H'
abbrev NoOne (K : PySem.W.Frag) (S : HsD) (H : Hp) (E : XK) : Prop := partF S ≠ none → ∀ d H', H d = none → Same H H' → H' d = some (.xd [("word", .str "NotOne")]) → E (.ref (He.ga K "NotOne")) (some d) H'
def spMeetings (K : PySem.W.Frag) : Sp := fun vs H Q E => ∃ (a : Addr) (S : HsD), vs = [.ref a] ∧ HsAt K H a S ∧ HsOk S ∧ (kindF S = Str.ofString "lean" → (partF S = none → ∀ pf H', H pf = none → Same H H' → PaperAt K S H pf H' (blocksF S) → Q (.ref pf) H') ∧ NoOne K S H E) ∧ NoLean K S H E
theorem ok_meetings (F : FnP K "meetings" s_meetings f fd) (hm : mg "meetings" = some (.ref f)) (c_need_lean : Callee P w K mg base (L2.CX P w) "need_lean" 3 [] (spNeedLean K)) (c_parted : Callee P w K mg base CX0 "parted" 7 [] (spParted K)) (c_NotOne : XCls0 P w K mg base "NotOne" 1 "NotOne") : Callee P w K mg base (L2.CX P w) "meetings" 8 [] (spMeetings K) := by
  refine ⟨f, fd, _, [], F.ok sc_meetings (fun vs H Q E h => ?hl) (fun cdv A outer s H vs Q E hr h => ⟨_, (pss_cons (ps_expr (pe_cl c_need_lean hr (pa_cons (pv 0) pa_nil) (passE (takes_of rfl rfl rfl rfl))))
      (pss_cons (ps_asg (pe_cl c_parted hr (pa_cons (pv 0) pa_nil) pass0) (pg_tupK K 2 (by rfl) (pgs_cons (pg_name (i := 1) sc_meetings.nd rfl (by first | exact Or.inl rfl | exact Or.inr rfl)) (pgs_cons (pg_name (i := 2) sc_meetings.nd rfl (by first | exact Or.inl rfl | exact Or.inr rfl)) pgs_nil))))
      (pss_cons (ps_if (pt_cmpR op_notN1 (pv 1) pe_non (nomark _)) (pss_one (ps_raise rfl (takes_of rfl rfl rfl rfl) (pmk_x0 c_NotOne hr))) pss_nil)
      (pss_one (ps_ret (pv 2)))))), ?rd⟩), hm, F.kp, F.bindsN fun _ _ _ _ _ _ us hl => match us, hl with | [_], _ => rfl, .nil⟩
  case hl =>
    obtain ⟨a, S, rfl, _⟩ := h
    rfl
  case rd =>
    obtain ⟨a, S, rfl, hs, ok, q1, q2⟩ := h
    refine k_start (σ' := [some _, none, none]) rfl ?_
    walk_at "g"
    refine ⟨a, S, rfl, hs, ok, fun hl => ?_, q2⟩
    obtain ⟨q3, q4⟩ := q1 hl
    walk_at "g"
    refine ⟨a, S, rfl, hs, ok, fun T v pf H1 s1 e1 hp hpp => ?_⟩
    walk_at "g"
    cases en : partF S with
    | none =>
      rw [en] at hp
      cases (show v = .non from hp)
      obtain ⟨n1, hpa⟩ := hpp en
      walk_at "g"
      exact q3 en pf H1 n1 s1 hpa
    | some x =>
      rw [en] at hp
      obtain ⟨T2, _, _, _, _, _, rfl, _⟩ := hp
      walk_at "g"
      exact k_x0 (fun d H3 n3 s3 e3 => q4 (by rw [en]; exact fun z => nomatch z) d H3 (s1.free n3) (s1.trans s3) e3)
/-! a paper of no meetings -/
theorem good_mg {S : HsD} (ok : HsOk S) {x : Mg} (h : MgOk S x) : Good 4 (dMg x) := ⟨by show 3 ≤ 50000; decide, fun e he => by
  have l := h.l
  rcases List.mem_cons.mp he with rfl | he
  · exact good_allW ok h.w (by omega) 1
  rcases List.mem_cons.mp he with rfl | he
  · exact (good_bt x.2.1 (by have := h.p.1; omega) 1)
  · rw [List.mem_singleton.mp he]
    exact (good_bt x.2.2 (by have := h.p.2; omega) 1)⟩
theorem good_blocks {S : HsD} (ok : HsOk S) : Good 5 (.list ((blocksF S).map dMg)) := ⟨by rw [List.length_map]; have := blocks_len ok; omega, fun e he => by
  obtain ⟨x, hx, rfl⟩ := List.mem_map.mp he
  exact good_mg ok (block_ok x hx)⟩
end
end Lw
set_option autoImplicit true
set_option pp.maxSteps 1200
set_option Elab.async false
set_option linter.all false
set_option maxRecDepth 100000
set_option maxHeartbeats 1000000
namespace Lw
open PySem PySem.Spec PyProof.Rows L2 Gk

local macro_rules | `(tactic| walk_at "hp") => `(tactic| first | assumption | exact upd_same | (refine' (upd_ne ?n).trans ?h; (case n => assumption); (case h => walk_at "hp")) | (refine' sm_get ?s ?h; (case s => assumption); (case h => walk_at "hp")))
local macro_rules | `(tactic| walk_at "sq") => `(tactic| first | assumption | (refine' sq_l ?h; (case h => walk_at "hp")) | (refine' sm_l ?s ?h; (case s => assumption); (case h => walk_at "sq")))
local macro_rules | `(tactic| walk_at "st") => `(tactic| first | assumption | (refine' sq_t ?h; (case h => walk_at "hp")) | (refine' sm_t ?s ?h; (case s => assumption); (case h => walk_at "st")))
local macro_rules | `(tactic| walk_at "bg") => `(tactic| first | assumption | (refine' BagOk.sm ?s ?h; (case s => assumption); (case h => walk_at "bg")))
local macro_rules | `(tactic| walk_at "sm") => `(tactic| first | assumption | exact Same.refl _ | (refine' Same.trans ?h ?s; (case s => assumption); (case h => walk_at "sm")))
local macro_rules | `(tactic| walk_at "hs") => `(tactic| first | assumption | (refine' HsAt.sm ?s ?h; (case s => assumption); (case h => walk_at "hs")))
local macro_rules | `(tactic| walk_at "ms") => `(tactic| first | assumption | (refine' MAt.sm ?s ?h; (case s => assumption); (case h => walk_at "ms")))
local macro_rules | `(tactic| walk_at "md") => `(tactic| first | assumption | (refine' MDk.sm ?s ?h; (case s => assumption); (case h => walk_at "md")))
local macro_rules | `(tactic| walk_at "dp") => `(tactic| first | assumption | (refine' dp_sm ?s ?h; (case s => assumption); (case h => walk_at "dp")))
local macro_rules | `(tactic| walk_at "sz") => `(tactic| first | decide | assumption | omega | (simp only [List.length_cons, List.length_nil, List.length_map, List.length_append]; omega))
local macro_rules | `(tactic| walk_at "g1") => `(tactic| first
  | with_reducible refine k_seq ?_
  | with_reducible refine k_itB ?_
  | with_reducible refine k_next ?_
  | with_reducible refine k_asg ?_
  | with_reducible refine k_name ?_
  | with_reducible refine k_ret ?_
  | with_reducible refine k_retN ?_
  | with_reducible refine k_drop ?_
  | with_reducible refine k_ifs ?_
  | with_reducible refine k_brk ?_
  | with_reducible refine k_cont ?_
  | with_reducible refine k_ipI ?_
  | with_reducible refine k_test ?_
  | with_reducible refine k_tB ?_
  | with_reducible refine k_bl ?_
  | with_reducible refine k_not ?_
  | with_reducible refine k_and ?_
  | with_reducible refine k_or ?_
  | with_reducible refine k_yes ?_
  | with_reducible refine k_true ?_
  | with_reducible refine k_false ?_
  | with_reducible refine k_nt ?_
  | with_reducible refine k_c ?_
  | with_reducible refine k_op ?_
  | with_reducible refine k_un ?_
  | with_reducible refine k_if ?_
  | with_reducible refine k_chain ?_
  | with_reducible refine k_nil ?_
  | with_reducible refine k_cons ?_
  | with_reducible refine k_cb ?_
  | with_reducible refine k_call ?_
  | with_reducible refine k_callS ?_
  | with_reducible refine k_andV ?_
  | with_reducible refine k_orV ?_
  | with_reducible refine k_notV ?_
  | with_reducible refine k_lst ?_
  | with_reducible refine k_tup ?_
  | with_reducible refine k_nopart ?_
  | with_reducible refine k_part ?_
  | with_reducible refine k_nInt ?_
  | with_reducible refine k_sl ?_
  | with_reducible refine k_bm ?_
  | with_reducible refine k_bm0 ?_
  | with_reducible refine k_nTyS ?_
  | with_reducible refine k_m1 ?_
  | with_reducible refine k_m0 ?_
  | with_reducible refine k_nStr ?_
  | with_reducible refine k_I0 ?_
  | with_reducible refine k_U ?_
  | with_reducible refine k_add_i ?_
  | with_reducible refine k_eq_i ?_
  | with_reducible refine k_eq_s ?_
  | with_reducible refine k_eq_b ?_
  | with_reducible refine k_ne_i ?_
  | with_reducible refine k_ne_s ?_
  | with_reducible refine k_ne_b ?_
  | with_reducible refine k_le_i ?_
  | with_reducible refine k_le_s ?_
  | with_reducible refine k_gnil ?_
  | with_reducible refine k_gcons ?_
  | with_reducible refine k_gsub ?_
  | with_reducible refine k_for ?_
  | with_reducible refine k_lc ?_
  | with_reducible refine k_rng1 ?_
  | with_reducible refine k_rng2 ?_
  | with_reducible refine k_itl ?_
  | with_reducible refine k_itt ?_
  | with_reducible refine k_its ?_
  | with_reducible refine k_ite ?_
  | with_reducible refine k_iteB ?_
  | with_reducible refine k_lrg2 ?_
  | with_reducible refine k_itz ?_
  | with_reducible refine k_nIts ?_
  | with_reducible refine k_inS ?_
  | with_reducible refine k_niS ?_
  | with_reducible refine k_mk ?_
  | with_reducible refine k_meth ?_
  | with_reducible refine k_fld ?_
  | with_reducible refine k_sfld ?_
  | with_reducible refine k_dg ?_
  | with_reducible refine k_dp ?_
  | with_reducible refine k_pr ?_
  | with_reducible refine k_pr0 ?_
  | with_reducible refine k_sg ?_
  | with_reducible refine k_lc2 ?_
  | with_reducible refine k_callN ?_
  | with_reducible refine k_callNS ?_
  | with_reducible refine k_par ?_
  | with_reducible refine k_nPar ?_
  | with_reducible refine k_isNn ?_
  | with_reducible refine k_isNr ?_
  | with_reducible refine k_ntNn ?_
  | with_reducible refine k_ntNr ?_
  | with_reducible refine k_min2 ?_
  | with_reducible refine k_max2 ?_
  | with_reducible refine k_intB ?_
  | with_reducible refine k_intI ?_
  | with_reducible refine k_isBl ?_
  | with_reducible refine k_ntBl ?_
  | ((with_reducible refine' k_var ?kv ?_); (case kv => exact rfl))
  | ((with_reducible refine' k_aug ?kv ?_); (case kv => exact rfl))
  | ((with_reducible refine' k_ix_l ?ks ?ki ?_); (case ks => walk_at "sq"); (case ki => exact rfl))
  | ((with_reducible refine' k_ix_t ?ks ?ki ?_); (case ks => walk_at "st"); (case ki => exact rfl))
  | ((with_reducible refine' k_len_l ?ks ?_); (case ks => walk_at "sq"))
  | ((with_reducible refine' k_len_t ?ks ?_); (case ks => walk_at "st"))
  | ((with_reducible refine' k_setL ?ks ?ki ?_); (case ks => walk_at "hp"); (case ki => exact rfl))
  | ((with_reducible refine' k_nTyL ?ks ?_); (case ks => walk_at "sq"))
  | ((with_reducible refine' k_nItl ?ks ?_); (case ks => walk_at "sq"))
  | ((with_reducible refine' k_nItt ?ks ?_); (case ks => walk_at "st"))
  | ((with_reducible refine' k_nIte ?ks ?_); (case ks => walk_at "sq"))
  | ((with_reducible refine' k_mul ?km ?_); (case km => first | exact Or.inr ⟨by decide, by decide⟩ | exact Or.inl ⟨by decide, by decide⟩))
  | ((with_reducible refine' k_I ?km ?_); (case km => first | assumption | decide | exact ⟨by decide, by decide +kernel⟩ | exact ⟨by decide, by decide, by decide⟩))
  | ((with_reducible refine' k_nMeth ?kp ?kl ?_); (case kp => walk_at "hp"); (case kl => exact rfl))
  | ((with_reducible refine' k_nFld ?kp ?kc ?kn ?kl ?_); (case kp => walk_at "hp"); (case kc => assumption); (case kn => assumption); (case kl => exact rfl))
  | ((with_reducible refine' k_nSFld ?kp ?kc ?kn ?kl ?_); (case kp => walk_at "hp"); (case kc => assumption); (case kn => assumption); (case kl => exact of_decide_eq_true rfl))
  | ((with_reducible refine' k_nDg ?kp ?kl ?_); (case kp => walk_at "hp"); (case kl => exact rfl))
  | ((with_reducible refine' k_nRng1 ?k1 ?k2 ?_); (case k1 => omega); (case k2 => omega))
  | ((with_reducible refine' k_nKw ?k1 ?k2 ?_); (case k1 => exact rfl); (case k2 => exact rfl))
  | ((with_reducible refine' k_hsm ?kh ?_); (case kh => walk_at "hs"))
  | ((with_reducible refine' k_nMethH ?kh ?kl ?_); (case kh => walk_at "hs"); (case kl => exact fun _ _ => rfl))
  | ((with_reducible refine' k_mLet ?kh ?_); (case kh => walk_at "ms"))
  | ((with_reducible refine' k_mChew ?kh ?_); (case kh => walk_at "ms"))
  | ((with_reducible refine' k_mPut ?kh ?_); (case kh => walk_at "ms"))
  | ((with_reducible refine' k_mMost ?kh ?_); (case kh => walk_at "ms"))
  | ((with_reducible refine' k_mCut ?kh ?_); (case kh => walk_at "ms"))
  | ((with_reducible refine' k_mTab ?kh ?_); (case kh => walk_at "md"))
  | ((with_reducible refine' k_mEats ?kh ?_); (case kh => walk_at "md"))
  | ((with_reducible refine' k_gtup ?ks ?kl ?_); (case ks => walk_at "st"); (case kl => exact rfl)))
local macro_rules | `(tactic| walk_at "g") => `(tactic| repeat (walk_at "g1"))
local macro_rules | `(tactic| walk_at "w1") => `(tactic| first
  | walk_at "g1"
  | ((with_reducible refine' k_decT ?kp ?_); (case kp => omega))
  | ((with_reducible refine' k_decF ?kp ?_); (case kp => omega))
  | ((with_reducible refine' k_decNT ?kp ?_); (case kp => omega))
  | ((with_reducible refine' k_decNF ?kp ?_); (case kp => omega)))
local macro_rules | `(tactic| walk_at "w") => `(tactic| repeat (walk_at "w1"))


section
variable {P : Program} {w : World} {K : PySem.W.Frag} {mg : Str → Option Value} {base : Heap} {f : Addr} {fd : FuncData}
/-! ### what is drawn for a house -/
structure MsOk (z : Str) (c k : Int) : Prop where
  c0 : 0 ≤ c
  c2 : c ≤ 2
  k0 : 0 ≤ k
  k2 : k ≤ 2
  lean : z = Str.ofString "lean" → 1 ≤ c ∧ k = 0
  even : z = Str.ofString "even" → c = k ∧ c ≤ 1
  fat : z = Str.ofString "fat" → c < k
def spMs : Sp := fun vs H Q _ => ∃ (b : Addr) (z : Str), vs = [.ref b, .str z] ∧ BagOk H b ∧ ∀ (T : Addr) (c k : Int) H', MsOk z c k → Same H H' → H' T = some (.tup [.int c, .int k]) → Q (.ref T) H'
theorem ok_Lmeasures (F : FnP K "_law_measures" s_Lmeasures f fd) (hm : mg "_law_measures" = some (.ref f)) (c_Lone : Callee P w K mg base CX0 "_law_one" 2 [] (spOne K)) : Callee P w K mg base CX0 "_law_measures" 3 [] spMs := by
  refine ⟨f, fd, _, [], F.ok sc_Lmeasures (fun vs H Q E h => ?hl) (fun cdv A outer s H vs Q E hr h => ⟨_, PSs.nox (pss_cons (ps_set (i := 2) sc_Lmeasures.nd rfl (by first | exact Or.inl rfl | exact Or.inr rfl) (pe_disp (pps_cons pe_str (pe_lst (pa_cons (pe_tup (pa_cons pe_int (pa_cons pe_int pa_nil))) (pa_cons (pe_tup (pa_cons pe_int (pa_cons pe_int pa_nil))) (pa_cons (pe_tup (pa_cons pe_int (pa_cons pe_int pa_nil))) pa_nil)))) (pps_cons pe_str (pe_lst (pa_cons (pe_tup (pa_cons pe_int (pa_cons pe_int pa_nil))) (pa_cons (pe_tup (pa_cons pe_int (pa_cons pe_int pa_nil))) pa_nil))) (pps_cons pe_str (pe_lst (pa_cons (pe_tup (pa_cons pe_int (pa_cons pe_int pa_nil))) (pa_cons (pe_tup (pa_cons pe_int (pa_cons pe_int pa_nil))) (pa_cons (pe_tup (pa_cons pe_int (pa_cons pe_int pa_nil))) pa_nil)))) pps_nil))) (by rfl) (by rfl) (fun z => by cases z) (by decide)))
      (pss_one (ps_ret (pe_cl c_Lone hr (pa_cons (pv 0) (pa_cons (pe_dget2 (hu_of hr) (pv 2) (pv 1) (pe_lst (pa_cons (pe_tup (pa_cons pe_int (pa_cons pe_int pa_nil))) (pa_cons (pe_tup (pa_cons pe_int (pa_cons pe_int pa_nil))) (pa_cons (pe_tup (pa_cons pe_int (pa_cons pe_int pa_nil))) (pa_cons (pe_tup (pa_cons pe_int (pa_cons pe_int pa_nil))) (pa_cons (pe_tup (pa_cons pe_int (pa_cons pe_int pa_nil))) (pa_cons (pe_tup (pa_cons pe_int (pa_cons pe_int pa_nil))) (pa_cons (pe_tup (pa_cons pe_int (pa_cons pe_int pa_nil))) (pa_cons (pe_tup (pa_cons pe_int (pa_cons pe_int pa_nil))) (pa_cons (pe_tup (pa_cons pe_int (pa_cons pe_int pa_nil))) pa_nil)))))))))) ⟨rfl, rfl, by rfl, rfl⟩) pa_nil)) pass0)))), ?rd⟩), hm, F.kp, F.bindsN fun _ _ _ _ _ _ us hl => match us, hl with | [_, _], _ => rfl, .nil⟩
  case hl =>
    obtain ⟨b, z, rfl, _⟩ := h
    rfl
  case rd =>
    obtain ⟨b, z, rfl, hb, q⟩ := h
    refine k_start (σ' := [some _, some _, none]) rfl ?_
    walk_at "g"
    refine k_disp fun p np => ?_
    with_reducible refine k_pr ?_
    with_reducible refine k_c ?_
    refine (show tLst (tPrs [(1, 0), (2, 0), (1, 0)]) _ _ _ from k_lprs _ (by decide) fun Z1 p1 H1 n1 s1 z1 q1 e1 => ?_)
    with_reducible refine k_pr ?_
    with_reducible refine k_c ?_
    refine (show tLst (tPrs [(0, 0), (1, 1)]) _ _ _ from k_lprs _ (by decide) fun Z2 p2 H2 n2 s2 z2 q2 e2 => ?_)
    with_reducible refine k_pr ?_
    with_reducible refine k_c ?_
    refine (show tLst (tPrs [(0, 1), (0, 2), (1, 2)]) _ _ _ from k_lprs _ (by decide) fun Z3 p3 H3 n3 s3 z3 q3 e3 => ?_)
    walk_at "g"
    have ep : H3 p = some (.dK []) := s3 _ _ (s2 _ _ (s1 _ _ upd_same))
    refine ⟨ep, [(.inr "lean", .ref p1), (.inr "even", .ref p2), (.inr "fat", .ref p3)], rfl, by show 3 ≤ 15; decide, ?_⟩
    have sm3 : Same H (upd H3 p (.dK (mergeK [] [(.inr "lean", .ref p1), (.inr "even", .ref p2), (.inr "fat", .ref p3)]))) := sm_mut (((sm_new np).trans s1).trans (s2.trans s3)) np
    have a1 : (upd H3 p (.dK (mergeK [] [(.inr "lean", .ref p1), (.inr "even", .ref p2), (.inr "fat", .ref p3)]))) p1 = some (.lst (Z1.map fun q => V.ref q.1)) := by
      have h := s3 _ _ (s2 _ _ e1)
      rw [upd_ne (ne_of h ep (fun z => by cases z))]
      exact h
    have a2 : (upd H3 p (.dK (mergeK [] [(.inr "lean", .ref p1), (.inr "even", .ref p2), (.inr "fat", .ref p3)]))) p2 = some (.lst (Z2.map fun q => V.ref q.1)) := by
      have h := s3 _ _ e2
      rw [upd_ne (ne_of h ep (fun z => by cases z))]
      exact h
    have a3 : (upd H3 p (.dK (mergeK [] [(.inr "lean", .ref p1), (.inr "even", .ref p2), (.inr "fat", .ref p3)]))) p3 = some (.lst (Z3.map fun q => V.ref q.1)) := by
      rw [upd_ne (ne_of e3 ep (fun z => by cases z))]
      exact e3
    have tt : ∀ (Z : List (Addr × Int × Int)), (∀ q ∈ Z, H3 q.1 = some (.tup [.int q.2.1, .int q.2.2])) → ∀ q ∈ Z, (upd H3 p (.dK (mergeK [] [(.inr "lean", .ref p1), (.inr "even", .ref p2), (.inr "fat", .ref p3)]))) q.1 = some (.tup [.int q.2.1, .int q.2.2]) := fun Z h q hq => by
      rw [upd_ne (ne_of (h q hq) ep (fun z => by cases z))]
      exact h q hq
    have t1 := tt Z1 fun q hq => s3 _ _ (s2 _ _ (q1 q hq))
    have t2 := tt Z2 fun q hq => s3 _ _ (q2 q hq)
    have t3 := tt Z3 q3
    have a0 : (upd H3 p (.dK (mergeK [] [(.inr "lean", .ref p1), (.inr "even", .ref p2), (.inr "fat", .ref p3)]))) p = some (.dK [(.inr "lean", .ref p1), (.inr "even", .ref p2), (.inr "fat", .ref p3)]) := upd_same
    generalize upd H3 p (.dK (mergeK [] [(.inr "lean", .ref p1), (.inr "even", .ref p2), (.inr "fat", .ref p3)])) = G at *
    walk_at "g"
    refine k_dg2 ?_
    walk_at "g"
    refine ⟨p, rfl, .inl ⟨_, .inl a0⟩, ?_⟩
    with_reducible refine k_var (v := .str z) rfl ?_
    refine (show tLst (tPrs [(2, 1), (2, 2), (1, 0), (0, 0), (0, 1), (1, 1), (1, 2), (2, 0), (0, 2)]) _ _ _ from k_lprs _ (by decide) fun Z4 p4 H4 n4 s4 z4 q4 e4 => ?_)
    have sAll := sm3.trans s4
    have hb4 := hb.sm sAll
    have done : ∀ (ps : List (Int × Int)) (Z : List (Addr × Int × Int)) (pz : Addr), 0 < ps.length → ps.length ≤ 9 → Z.map (·.2) = ps → (∀ q ∈ Z, H4 q.1 = some (.tup [.int q.2.1, .int q.2.2])) → H4 pz = some (.lst (Z.map fun q => V.ref q.1)) → (∀ u ∈ ps, MsOk z u.1 u.2) → spOne K [.ref b, .ref pz] H4 Q E0 := by
      intro ps Z pz l0 l9 ez hz hp hms
      have lz : (Z.map fun q => V.ref q.1).length = ps.length := by rw [← ez, List.length_map, List.length_map]
      refine ⟨b, .ref pz, rfl, hb4, .inl ⟨pz, _, rfl, sq_l hp, by omega, by omega, fun x hx => ?_⟩⟩
      obtain ⟨u, hu, rfl⟩ := List.mem_map.mp hx
      exact q u.1 u.2.1 u.2.2 H4 (hms u.2 (by rw [← ez]; exact List.mem_map.mpr ⟨u, hu, rfl⟩)) sAll (hz u hu)
    have big : ∀ u ∈ [((2 : Int), (1 : Int)), (2, 2), (1, 0), (0, 0), (0, 1), (1, 1), (1, 2), (2, 0), (0, 2)], 0 ≤ u.1 ∧ u.1 ≤ 2 ∧ 0 ≤ u.2 ∧ u.2 ≤ 2 := by decide
    have ne1 : ¬ (Str.ofString "lean" : Str) = Str.ofString "even" := by decide +kernel
    have ne2 : ¬ (Str.ofString "lean" : Str) = Str.ofString "fat" := by decide +kernel
    have ne3 : ¬ (Str.ofString "even" : Str) = Str.ofString "fat" := by decide +kernel
    by_cases d1 : z = Str.ofString "lean"
    · refine ⟨some (.ref p1), by rw [d1]; exact DGet.k (k := .inr "lean") (s4 _ _ a0), ?_⟩
      walk_at "g"
      refine done _ Z1 p1 (by decide) (by decide) z1 (fun q hq => s4 _ _ (t1 q hq)) (s4 _ _ a1) fun u hu => ?_
      rcases List.mem_cons.mp hu with rfl | hu
      · exact ⟨by decide, by decide, by decide, by decide, fun _ => by decide, fun e => absurd (d1.symm.trans e) ne1, fun e => absurd (d1.symm.trans e) ne2⟩
      rcases List.mem_cons.mp hu with rfl | hu
      · exact ⟨by decide, by decide, by decide, by decide, fun _ => by decide, fun e => absurd (d1.symm.trans e) ne1, fun e => absurd (d1.symm.trans e) ne2⟩
      rcases List.mem_cons.mp hu with rfl | hu
      · exact ⟨by decide, by decide, by decide, by decide, fun _ => by decide, fun e => absurd (d1.symm.trans e) ne1, fun e => absurd (d1.symm.trans e) ne2⟩
      cases hu
    by_cases d2 : z = Str.ofString "even"
    · refine ⟨some (.ref p2), by rw [d2]; exact DGet.k (k := .inr "even") (s4 _ _ a0), ?_⟩
      walk_at "g"
      refine done _ Z2 p2 (by decide) (by decide) z2 (fun q hq => s4 _ _ (t2 q hq)) (s4 _ _ a2) fun u hu => ?_
      rcases List.mem_cons.mp hu with rfl | hu
      · exact ⟨by decide, by decide, by decide, by decide, fun e => absurd e d1, fun _ => by decide, fun e => absurd (d2.symm.trans e) ne3⟩
      rcases List.mem_cons.mp hu with rfl | hu
      · exact ⟨by decide, by decide, by decide, by decide, fun e => absurd e d1, fun _ => by decide, fun e => absurd (d2.symm.trans e) ne3⟩
      cases hu
    by_cases d3 : z = Str.ofString "fat"
    · refine ⟨some (.ref p3), by rw [d3]; exact DGet.k (k := .inr "fat") (s4 _ _ a0), ?_⟩
      walk_at "g"
      refine done _ Z3 p3 (by decide) (by decide) z3 (fun q hq => s4 _ _ (t3 q hq)) (s4 _ _ a3) fun u hu => ?_
      rcases List.mem_cons.mp hu with rfl | hu
      · exact ⟨by decide, by decide, by decide, by decide, fun e => absurd e d1, fun e => absurd e d2, fun _ => by decide⟩
      rcases List.mem_cons.mp hu with rfl | hu
      · exact ⟨by decide, by decide, by decide, by decide, fun e => absurd e d1, fun e => absurd e d2, fun _ => by decide⟩
      rcases List.mem_cons.mp hu with rfl | hu
      · exact ⟨by decide, by decide, by decide, by decide, fun e => absurd e d1, fun e => absurd e d2, fun _ => by decide⟩
      cases hu
    · refine ⟨valV [((.inr "lean" : Key), V.ref p1), (.inr "even", .ref p2), (.inr "fat", .ref p3)] (.inr z), DGet.k (k := .inr z) (s4 _ _ a0), ?_⟩
      have en : valV [((.inr "lean" : Key), V.ref p1), (.inr "even", .ref p2), (.inr "fat", .ref p3)] (.inr z) = none := by
        rw [valV_neg (fun e => d1 (by injection e with e; exact e.symm)), valV_neg (fun e => d2 (by injection e with e; exact e.symm)), valV_neg (fun e => d3 (by injection e with e; exact e.symm))]
        rfl
      rw [en]
      walk_at "g"
      refine done _ Z4 p4 (by decide) (by decide) z4 q4 e4 fun u hu => ?_
      obtain ⟨b1, b2, b3, b4⟩ := big u hu
      exact ⟨b1, b2, b3, b4, fun e => absurd e d1, fun e => absurd e d2, fun e => absurd e d3⟩
theorem k_letters {H : Hp} {Q : VK} {E : XK} {b : Addr} {n : Int} (hb : BagOk H b) (h0 : 0 ≤ n) (h3 : n ≤ 3) (q : ∀ (cs : List Nat) H', Rise cs → cs.length = n.toNat → Same H H' → Q (.str (tx cs)) H') : spLetters ([.ref b, .int n] ++ []) H Q E :=
  ⟨b, n.toNat, by rw [Int.toNat_of_nonneg h0]; rfl, hb, by omega, q⟩
/-! ### a house drawn -/
/-- the dict of a house, whatever the order of its entries -/
structure MDk (H : Hp) (m : Addr) (S : HsD) (tb ev : Addr) : Prop where
  ex : ∃ kvs : List (Key × V), H m = some (.dK kvs) ∧ kvs.length ≤ 7 ∧ (valV kvs (.inr "letters") = some (.str (tx S.ls)) ∧ valV kvs (.inr "table") = some (.ref tb) ∧ valV kvs (.inr "eats") = some (.ref ev)) ∧ valV kvs (.inr "chew") = some (.int S.ch) ∧ valV kvs (.inr "put") = some (.str (tx S.pt)) ∧ valV kvs (.inr "most") = some (.int S.mo) ∧ valV kvs (.inr "cut") = some (.int S.cu)
theorem MDk.sm {H H' : Hp} {m : Addr} {S : HsD} {tb ev : Addr} (s : Same H H') (h : MDk H m S tb ev) : MDk H' m S tb ev := by
  obtain ⟨kvs, h1, h2⟩ := h.ex
  exact ⟨kvs, s _ _ h1, h2⟩
def MAt (K : PySem.W.Frag) (H : Hp) (m : Addr) (S : HsD) : Prop := ∃ (tb ev : Addr) (R : List RwI) (L : List RwM), MDk H m S tb ev ∧
  SqL K H tb (R.map fun q => V.ref q.1) ∧ (∀ q ∈ R, SqT K H q.1 (q.2.map V.int)) ∧ R.map (·.2) = S.tb ∧ SqL K H ev (L.map fun q => V.ref q.1) ∧ (∀ q ∈ L, SqT K H q.1 (q.2.map kV)) ∧ L.map (·.2) = S.tr
theorem MAt.sm {H H' : Hp} {m : Addr} {S : HsD} (s : Same H H') (h : MAt K H m S) : MAt K H' m S := by
  obtain ⟨tb, ev, R, L, h1, h2, h3, h4, h5, h6, h7⟩ := h
  exact ⟨tb, ev, R, L, h1.sm s, sm_l s h2, fun q hq => sm_t s (h3 q hq), h4, sm_l s h5, fun q hq => sm_t s (h6 q hq), h7⟩
section
variable {H : Hp} {Q : VK} {m : Addr} {S : HsD}
theorem k_mLet (hM : MAt K H m S) (h : Q (.str (tx S.ls)) H) : nDg (.ref m) (.str "letters") H Q := by
  obtain ⟨tb, ev, R, L, h1, _⟩ := hM
  obtain ⟨kvs, k0, _, k1, k2, k3, k4, k5⟩ := h1.ex
  exact k_nDg k0 k1.1 h
theorem k_mChew (hM : MAt K H m S) (h : Q (.int S.ch) H) : nDg (.ref m) (.str "chew") H Q := by
  obtain ⟨tb, ev, R, L, h1, _⟩ := hM
  obtain ⟨kvs, k0, _, k1, k2, k3, k4, k5⟩ := h1.ex
  exact k_nDg k0 k2 h
theorem k_mPut (hM : MAt K H m S) (h : Q (.str (tx S.pt)) H) : nDg (.ref m) (.str "put") H Q := by
  obtain ⟨tb, ev, R, L, h1, _⟩ := hM
  obtain ⟨kvs, k0, _, k1, k2, k3, k4, k5⟩ := h1.ex
  exact k_nDg k0 k3 h
theorem k_mMost (hM : MAt K H m S) (h : Q (.int S.mo) H) : nDg (.ref m) (.str "most") H Q := by
  obtain ⟨tb, ev, R, L, h1, _⟩ := hM
  obtain ⟨kvs, k0, _, k1, k2, k3, k4, k5⟩ := h1.ex
  exact k_nDg k0 k4 h
theorem k_mCut (hM : MAt K H m S) (h : Q (.int S.cu) H) : nDg (.ref m) (.str "cut") H Q := by
  obtain ⟨tb, ev, R, L, h1, _⟩ := hM
  obtain ⟨kvs, k0, _, k1, k2, k3, k4, k5⟩ := h1.ex
  exact k_nDg k0 k5 h
theorem k_mTab {tb ev : Addr} (hM : MDk H m S tb ev) (h : Q (.ref tb) H) : nDg (.ref m) (.str "table") H Q := by
  obtain ⟨kvs, k0, _, k1, k2, k3, k4, k5⟩ := hM.ex
  exact k_nDg k0 k1.2.1 h
theorem k_mEats {tb ev : Addr} (hM : MDk H m S tb ev) (h : Q (.ref ev) H) : nDg (.ref m) (.str "eats") H Q := by
  obtain ⟨kvs, k0, _, k1, k2, k3, k4, k5⟩ := hM.ex
  exact k_nDg k0 k1.2.2 h
end
/-- what is new of it: the dict and its list of eats -/
structure HdOk (K : PySem.W.Frag) (H H' : Hp) (m : Addr) (z : Str) (S : HsD) : Prop extends MsOk z S.ch S.pt.length where
  n0 : H m = none
  n1 : ∃ (tb ev : Addr) (R : List RwI) (L : List RwM), H' m = some (.dK [(.inr "letters", .str (tx S.ls)), (.inr "table", .ref tb), (.inr "eats", .ref ev), (.inr "chew", .int S.ch), (.inr "put", .str (tx S.pt)), (.inr "most", .int S.mo), (.inr "cut", .int S.cu)]) ∧
    H' tb = some (.lst (R.map fun q => V.ref q.1)) ∧ (∀ q ∈ R, SqT K H' q.1 (q.2.map V.int)) ∧ R.map (·.2) = S.tb ∧ H' ev = some (.lst (L.map fun q => V.ref q.1)) ∧ (∀ q ∈ L, SqT K H' q.1 (q.2.map kV)) ∧ L.map (·.2) = S.tr ∧ H ev = none ∧ tb ≠ ev ∧ S.tr.length ≤ 7
def spLHouse (K : PySem.W.Frag) : Sp := fun vs H Q _ => ∃ (b : Addr) (z : Str) (n : Int), vs = [.ref b, .str z, .int n] ∧ BagOk H b ∧ n ≤ 14 ∧ ∀ (S : HsD) (m : Addr) H', HsOk S → HdOk K H H' m z S → Same H H' → MAt K H' m S → Q (.ref m) H'
theorem ok_Lhouse (F : FnP K "_law_house" s_Lhouse f fd) (hm : mg "_law_house" = some (.ref f)) (f_range : mg "range" = none) (f_tuple : mg "tuple" = none) (f_sum : mg "sum" = none) (c_Lpull : Callee P w K mg base CX0 "_law_pull" 1 [] spPull) (c_Lone : Callee P w K mg base CX0 "_law_one" 2 [] (spOne K))
    (c_Lmeasures : Callee P w K mg base CX0 "_law_measures" 3 [] spMs) (c_Lletters : Callee P w K mg base CX0 "_law_letters" 2 [] spLetters) : Callee P w K mg base CX0 "_law_house" 4 [] (spLHouse K) := by
  refine ⟨f, fd, _, [], F.ok sc_Lhouse (fun vs H Q E h => ?hl) (fun cdv A outer s H vs Q E hr h => ⟨_, PSs.nox (pss_cons (ps_set (i := 3) sc_Lhouse.nd rfl (by first | exact Or.inl rfl | exact Or.inr rfl) (pe_op (op_addK K) pe_int (pe_cl c_Lpull hr (pa_cons (pv 0) (pa_cons pe_int pa_nil)) pass0)))
      (pss_cons (ps_setLc (i := 4) (own := [("_law_size", 14)]) rfl sc_Lhouse.nd rfl rfl (sw_true rfl rfl rfl (by decide +kernel)) (pi_tupK K (pe_tup (pa_cons pe_int (pa_cons pe_int (pa_cons pe_int pa_nil))))) (blkOk_by (N := ["_law_bag_here", "_law_sort", "_law_most_words", "_law_many", "_law_sizes", "_law_letters_here", "_law_longest", "_law_rooms", "_law_table", "_law_triples", "_law_k", "_law_chewing", "_law_plus", "_law_m", "_law_size", "_law_row", "_law_sign"]) (sc := defScope s_Lhouse) (by decide +kernel)) (fun _ _ _ _ _ => (pg_name (i := 14) sc_Lhouse.nd rfl (by first | exact Or.inl rfl | exact Or.inr rfl))) (fun _ _ _ _ _ => (pts_one (pt_cmpR op_leU (pe_callB (cr_sumK K) (by rfl) f_sum (by decide +kernel) (pa_cons (pe_slice (sl_k K) (pe_lst (pa_cons (pv 3) (pa_cons (pe_op op_pow (pv 3) pe_int) (pa_cons (pe_op op_pow (pv 3) pe_int) pa_nil)))) po_none (po_some (pv 14))) pa_nil)) (pv 2) (nomark _)))) (fun _ _ _ _ _ => (pv 14)))
      (pss_cons (ps_set (i := 5) sc_Lhouse.nd rfl (by first | exact Or.inl rfl | exact Or.inr rfl) (pe_cl c_Lletters hr (pa_cons (pv 0) (pa_cons (pe_ifExp (pt_cmpR (op_neK K hr.units) (pv 4) (pe_lst pa_nil) (nomark _)) (pv 3) pe_int) pa_nil)) pass0))
      (pss_cons (ps_set (i := 6) sc_Lhouse.nd rfl (by first | exact Or.inl rfl | exact Or.inr rfl) (pe_cl c_Lone hr (pa_cons (pv 0) (pa_cons (pe_ifExp (pt_cmpR (op_neK K hr.units) (pv 4) (pe_lst pa_nil) (nomark _)) (pv 4) (pe_lst (pa_cons pe_int pa_nil))) pa_nil)) pass0))
      (pss_cons (ps_set (i := 7) sc_Lhouse.nd rfl (by first | exact Or.inl rfl | exact Or.inr rfl) (pe_op (op_addK K) pe_int (pe_cl c_Lpull hr (pa_cons (pv 0) (pa_cons pe_int pa_nil)) pass0)))
      (pss_cons (ps_setLc (i := 8) (own := [("_law_row", 15)]) rfl sc_Lhouse.nd rfl rfl (sw_true rfl rfl rfl (by decide +kernel)) (pi_range1 (by rfl) f_range (pa_cons (pv 7) pa_nil)) (blkOk_by (N := ["_law_bag_here", "_law_sort", "_law_most_words", "_law_many", "_law_sizes", "_law_letters_here", "_law_longest", "_law_rooms", "_law_table", "_law_triples", "_law_k", "_law_chewing", "_law_plus", "_law_m", "_law_size", "_law_row", "_law_sign"]) (sc := defScope s_Lhouse) (by decide +kernel)) (fun _ _ _ _ _ => (pg_name (i := 15) sc_Lhouse.nd rfl (by first | exact Or.inl rfl | exact Or.inr rfl))) (fun _ _ _ _ _ => pts_nil) (fun _ _ _ _ _ => (pe_callTy (call_tupK K) (by rfl) f_tuple (by decide +kernel) (pa_cons (pe_lc (own := [("_law_sign", 16)]) rfl sc_Lhouse.nd (pi_str (pv 5)) (blkOk_by (N := ["_law_bag_here", "_law_sort", "_law_most_words", "_law_many", "_law_sizes", "_law_letters_here", "_law_longest", "_law_rooms", "_law_table", "_law_triples", "_law_k", "_law_chewing", "_law_plus", "_law_m", "_law_size", "_law_row", "_law_sign"]) (sc := rlb _ (defScope s_Lhouse)) (by decide +kernel)) (fun _ _ _ _ _ => (pg_name (i := 16) sc_Lhouse.nd rfl (by first | exact Or.inl rfl | exact Or.inr rfl))) (fun _ _ _ _ _ => pts_nil) (fun _ _ _ _ _ => (pe_cl c_Lpull hr (pa_cons (pv 0) (pa_cons (pv 7) pa_nil)) pass0))) pa_nil))))
      (pss_cons (ps_set (i := 9) sc_Lhouse.nd rfl (by first | exact Or.inl rfl | exact Or.inr rfl) (pe_lst (pa_cons (pe_tup (pa_cons pe_str (pa_cons pe_int (pa_cons (pe_cl c_Lpull hr (pa_cons (pv 0) (pa_cons (pv 7) pa_nil)) pass0) pa_nil)))) pa_nil)))
      (pss_cons (ps_for PassesOwn.never rfl (pi_range1 (by rfl) f_range (pa_cons (pe_cl c_Lpull hr (pa_cons (pv 0) (pa_cons pe_int pa_nil)) pass0) pa_nil)) (pg_name (i := 10) sc_Lhouse.nd rfl (by first | exact Or.inl rfl | exact Or.inr rfl)) (pss_one (ps_expr (pe_bmK K PySem.F.plainAttrs_list PySem.F.slot_list_append PySem.F.type_list_append mt_append (pv 9) (pa_cons (pe_tup (pa_cons (pe_cl c_Lone hr (pa_cons (pv 0) (pa_cons (pe_lst (pa_cons pe_str (pa_cons pe_str pa_nil))) pa_nil)) pass0) (pa_cons (pe_cl c_Lpull hr (pa_cons (pv 0) (pa_cons (pv 7) pa_nil)) pass0) (pa_cons (pe_cl c_Lpull hr (pa_cons (pv 0) (pa_cons (pv 7) pa_nil)) pass0) pa_nil)))) pa_nil)))))
      (pss_cons (ps_asg (pe_cl c_Lmeasures hr (pa_cons (pv 0) (pa_cons (pv 1) pa_nil)) pass0) (pg_tupK K 2 (by rfl) (pgs_cons (pg_name (i := 11) sc_Lhouse.nd rfl (by first | exact Or.inl rfl | exact Or.inr rfl)) (pgs_cons (pg_name (i := 3) sc_Lhouse.nd rfl (by first | exact Or.inl rfl | exact Or.inr rfl)) pgs_nil))))
      (pss_cons (ps_set (i := 12) sc_Lhouse.nd rfl (by first | exact Or.inl rfl | exact Or.inr rfl) (pe_joinK K pe_str (pe_lc (own := [("_law_k", 10)]) rfl sc_Lhouse.nd (pi_range1 (by rfl) f_range (pa_cons (pv 3) pa_nil)) (blkOk_by (N := ["_law_bag_here", "_law_sort", "_law_most_words", "_law_many", "_law_sizes", "_law_letters_here", "_law_longest", "_law_rooms", "_law_table", "_law_triples", "_law_k", "_law_chewing", "_law_plus", "_law_m", "_law_size", "_law_row", "_law_sign"]) (sc := defScope s_Lhouse) (by decide +kernel)) (fun _ _ _ _ _ => (pg_name (i := 10) sc_Lhouse.nd rfl (by first | exact Or.inl rfl | exact Or.inr rfl))) (fun _ _ _ _ _ => pts_nil) (fun _ _ _ _ _ => (pe_cl c_Lone hr (pa_cons (pv 0) (pa_cons (pv 5) pa_nil)) pass0)))))
      (pss_cons (ps_set (i := 13) sc_Lhouse.nd rfl (by first | exact Or.inl rfl | exact Or.inr rfl) (pe_disp (pps_cons pe_str (pv 5) (pps_cons pe_str (pv 8) (pps_cons pe_str (pv 9) (pps_cons pe_str (pv 11) (pps_cons pe_str (pv 12) (pps_cons pe_str (pv 6) pps_nil)))))) (by rfl) (by rfl) (fun z => by cases z) (by decide)))
      (pss_cons (ps_dput (hu_of hr) (pv 13) pe_str (pe_op (op_addK K) pe_int (pe_cl c_Lpull hr (pa_cons (pv 0) (pa_cons (pv 6) pa_nil)) pass0)) rfl)
      (pss_one (ps_ret (pv 13))))))))))))))), ?rd⟩), hm, F.kp, F.bindsN fun _ _ _ _ _ _ us hl => match us, hl with | [_, _, _], _ => rfl, .nil⟩
  case hl =>
    obtain ⟨b, z, n, rfl, _⟩ := h
    rfl
  case rd =>
    obtain ⟨b, z, n, rfl, hb, hn, q⟩ := h
    refine k_start (σ' := [some _, some _, some _, none, none, none, none, none, none, none, none, none, none, none, none, none, none]) rfl ?_
    have hpw : ∀ (i j : Int), 0 ≤ j → j ≤ 3 → 0 ≤ i → i ≤ 3 → CPow i j := fun i j a b c d => ⟨a, by omega, by omega⟩
    walk_at "g"
    refine k_pull hb (by omega) (by omega) (fun m0 m1 m2 => ?_)
    obtain ⟨M, hM⟩ : ∃ M : Nat, (1 + m0 : Int) = (M : Int) := ⟨(1 + m0).toNat, by omega⟩
    walk_at "g"
    rw [hM]
    refine k_nTup (by walk_at "sz") (fun p1 H1 n1 s1 e1 => ?_)
    walk_at "g"
    refine k_nLc (walk_tup (xs := [.int 1, .int 2, .int 3])) (fun H' s2 => sm_t s2 (sq_t e1)) (fun i ws => ∃ ks : List Nat, ws = ks.map (fun k => V.int (k : Nat)) ∧ ks.length ≤ i ∧ ∀ k ∈ ks, 1 ≤ k ∧ k ≤ 3 ∧ wcount M k ≤ n) ⟨[], rfl, Nat.le_refl _, fun k hk => nomatch hk⟩ (fun i ws hi hw => ?hz) (fun i v Hc Hd ws Kp Ks hi sa hws hy2 hKp hKs => ?ht) (fun p2 H2 ws n2 s2 e2 hws => ?he)
    case hz =>
      obtain ⟨ks, rfl, lk, _⟩ := hw
      have : i ≤ 3 := hi
      rw [List.length_map]
      omega
    case ht =>
      obtain ⟨rfl, hv⟩ := hy2
      obtain ⟨k, hk, rfl⟩ : ∃ k : Nat, (1 ≤ k ∧ k ≤ 3) ∧ v = .int (k : Nat) := by
        have : i = 0 ∨ i = 1 ∨ i = 2 := by
          have : i < 3 := hi
          omega
        rcases this with rfl | rfl | rfl <;> cases hv
        · exact ⟨1, by decide, rfl⟩
        · exact ⟨2, by decide, rfl⟩
        · exact ⟨3, by decide, rfl⟩
      walk_at "g"
      refine ⟨rfl, ?_⟩
      walk_at "g"
      refine k_I (hpw _ 2 (by decide) (by decide) (by omega) (by omega)) ?_
      walk_at "g"
      refine k_I (hpw _ 3 (by decide) (by decide) (by omega) (by omega)) ?_
      walk_at "g"
      refine k_nLst (by walk_at "sz") (fun p3 H3 n3 s3 e3 => ?_)
      walk_at "g"
      refine k_sl_l (sq_l e3) (fun p4 H4 n4 s4 e4 => ?_)
      rw [cutV_to] at e4
      walk_at "g"
      refine k_sum (ns := [(M : Int) ^ 1, (M : Int) ^ 2, (M : Int) ^ 3].take k) (sq_l (by rw [e4, List.map_take]; show _ = some (HO.lst (List.take k [V.int ((M : Int) ^ 1), V.int ((M : Int) ^ 2), V.int ((M : Int) ^ 3)])); rw [show ((M : Int) ^ 1) = M from (show (M : Int) ^ (0 + 1) = M by rw [Int.pow_succ, Int.pow_zero, Int.one_mul])]; rfl)) ?_
      walk_at "g"
      obtain ⟨ks, hw, lk, hks⟩ := hws
      refine k_dec (fun d => ?_) (fun d => ?_)
      · walk_at "g"
        refine hKp _ _ (s3.trans s4) ⟨ks ++ [k], by rw [hw, List.map_append]; rfl, by rw [List.length_append]; exact Nat.succ_le_succ lk, fun j hj => ?_⟩
        rcases List.mem_append.mp hj with hj | hj
        · exact hks j hj
        · rw [List.mem_singleton.mp hj]
          exact ⟨hk.1, hk.2, d⟩
      · walk_at "g"
        exact hKs _ (s3.trans s4) ⟨ks, hw, Nat.le_succ_of_le lk, hks⟩
    case he =>
      obtain ⟨ks, hw, lk, hks⟩ := hws
      have lk3 : ks.length ≤ 3 := lk
      subst hw
      have eI : ks.map (fun k => V.int ((k : Nat) : Int)) = (ks.map fun k => ((k : Nat) : Int)).map V.int := by rw [List.map_map]; rfl
      have hsz : SqL K H2 p2 ((ks.map fun k => ((k : Nat) : Int)).map V.int) := by rw [← eI]; exact sq_l e2
      have hbd : ∀ x ∈ ks.map (fun k => ((k : Nat) : Int)), x.natAbs ≤ 2 ^ 63 := fun x hx => by
        obtain ⟨k, hk, rfl⟩ := List.mem_map.mp hx
        have := (hks k hk).2.1
        omega
      have enil : decide (ks.map (fun k => ((k : Nat) : Int)) = []) = decide (ks = []) := by cases ks <;> rfl
      have s02 := s1.trans s2
      have hb2 := hb.sm s02
      with_reducible refine k_name ?_
      with_reducible refine k_seq ?_
      with_reducible refine k_asg ?_
      with_reducible refine k_call ?_
      with_reducible refine k_cons ?_
      with_reducible refine k_var rfl ?_
      with_reducible refine k_cons ?_
      refine k_post (fun v H' => v = .int (if ks = [] then 1 else (M : Int)) ∧ Same H2 H') (fun Q' hQ => ?_) (fun v H3 hv => ?_)
      · walk_at "g"
        refine k_nLst (by walk_at "sz") (fun p3 H3 n3 s3 e3 => ?_)
        refine k_neNil (sm_l s3 hsz) (sq_l e3) hbd (by rw [List.length_map]; omega) ?_
        rw [enil]
        walk_at "g"
        refine k_dec (fun d => ?_) (fun d => ?_)
        · walk_at "g"
          exact hQ _ _ ⟨by rw [if_pos d], s3⟩
        · walk_at "g"
          exact hQ _ _ ⟨by rw [if_neg d], s3⟩
      obtain ⟨rfl, s3⟩ := hv
      have hb3 := hb2.sm s3
      have hsz3 := sm_l s3 hsz
      walk_at "g"
      refine k_letters (n := if ks = [] then 1 else (M : Int)) hb3 (by split <;> omega) (by split <;> omega) (fun cs H4 hr0 hc s4 => ?_)
      have hb4 := hb3.sm s4
      have hsz4 := sm_l s4 hsz3
      with_reducible refine k_name ?_
      with_reducible refine k_seq ?_
      with_reducible refine k_asg ?_
      with_reducible refine k_call ?_
      with_reducible refine k_cons ?_
      with_reducible refine k_var rfl ?_
      with_reducible refine k_cons ?_
      refine k_post (fun v H' => Same H4 H' ∧ ∃ (pl : Addr) (js : List Nat), v = .ref pl ∧ SqL K H' pl (js.map fun k => V.int (k : Nat)) ∧ 0 < js.length ∧ js.length ≤ 3 ∧ ∀ k ∈ js, 1 ≤ k ∧ k ≤ 3 ∧ wcount cs.length k ≤ 14) (fun Q' hQ => ?_) (fun v H5 hv => ?_)
      · walk_at "g"
        refine k_nLst (by walk_at "sz") (fun p5 H5 n5 s5 e5 => ?_)
        refine k_neNil (sm_l s5 hsz4) (sq_l e5) hbd (by rw [List.length_map]; omega) ?_
        rw [enil]
        walk_at "g"
        refine k_dec (fun d => ?_) (fun d => ?_)
        · walk_at "g"
          refine k_nLst (by walk_at "sz") (fun p6 H6 n6 s6 e6 => ?_)
          refine hQ _ _ ⟨s5.trans s6, p6, [1], rfl, sq_l e6, by decide, by decide, fun k hk => ?_⟩
          rw [List.mem_singleton.mp hk]
          have : cs.length = 1 := by rw [hc, if_pos d]; rfl
          rw [this]
          exact ⟨by decide, by decide, by decide⟩
        · walk_at "g"
          refine hQ _ _ ⟨s5, p2, ks, rfl, by rw [eI]; exact sm_l s5 hsz4, List.length_pos_iff.mpr d, lk3, fun k hk => ?_⟩
          obtain ⟨k1, k2, k3⟩ := hks k hk
          have : cs.length = M := by rw [hc, if_neg d]; rfl
          rw [this]
          exact ⟨k1, k2, by omega⟩
      obtain ⟨s5, pl, js, rfl, hjs, j0, j3, hj⟩ := hv
      have hb5 := hb4.sm s5
      have lcs : 1 ≤ cs.length ∧ cs.length ≤ 3 := by
        rw [hc]
        split <;> omega
      walk_at "g"
      refine ⟨b, .ref pl, rfl, hb5, .inl ⟨pl, _, rfl, hjs, by rw [List.length_map]; exact j0, by rw [List.length_map]; omega, fun x hx => ?_⟩⟩
      obtain ⟨lo, hlo, rfl⟩ := List.mem_map.mp hx
      obtain ⟨lo1, lo3, low⟩ := hj lo hlo
      walk_at "g"
      refine k_pull hb5 (by omega) (by omega) (fun r0 r1 r2 => ?_)
      walk_at "g"
      obtain ⟨rm, hrm⟩ : ∃ rm : Nat, (1 + r0 : Int) = (rm : Int) := ⟨(1 + r0).toNat, by omega⟩
      rw [hrm]
      have szc : (tx cs).cps.size = cs.length := len_tx cs
      refine k_nLcD walk_range (fun _ _ => trivial) (fun i ws H' => ∃ R : List RwI, ws = R.map (fun q => V.ref q.1) ∧ R.length = i ∧ ∀ q ∈ R, SqT K H' q.1 (q.2.map V.int) ∧ q.2.length = cs.length ∧ ∀ x ∈ q.2, 0 ≤ x ∧ x < rm) (fun i ws H1 H2 s h => ?hm1) ⟨[], rfl, rfl, fun q hq => nomatch hq⟩ (fun i ws H1 hi h => ?hz1) (fun i v p H6 H7 ws Kp Ks hi hp s6 e6 hws hy hKp hKs => ?ht1) (fun pt H6 ws nt s6 e6 hws => ?he1)
      case hm1 =>
        obtain ⟨R, h1, h2, h3⟩ := h
        exact ⟨R, h1, h2, fun q hq => ⟨sm_t s (h3 q hq).1, (h3 q hq).2⟩⟩
      case hz1 =>
        obtain ⟨R, h1, h2, h3⟩ := h
        rw [h1, List.length_map, h2]
        omega
      case ht1 =>
        obtain ⟨rfl, rfl⟩ := hy
        obtain ⟨R, h1, h2, h3⟩ := hws
        have hb6 := hb5.sm s6
        walk_at "g"
        refine ⟨rfl, ?_⟩
        walk_at "g"
        refine k_nLc (walk_str (z := tx cs)) (fun _ _ => trivial) (fun i ws => ∃ xs : List Int, ws = xs.map V.int ∧ xs.length = i ∧ ∀ x ∈ xs, 0 ≤ x ∧ x < rm) ⟨[], rfl, rfl, fun q hq => nomatch hq⟩ (fun i ws hi h => ?hz3) (fun i v H8 H9 ws Kp2 Ks2 hi s8 hws hy hKp2 hKs2 => ?ht3) (fun p8 H8 ws n8 s8 e8 hws => ?he3)
        case hz3 =>
          obtain ⟨xs, h1, h2, _⟩ := h
          rw [h1, List.length_map, h2]
          omega
        case ht3 =>
          obtain ⟨rfl, c, hc', rfl⟩ := hy
          obtain ⟨xs, h1, h2, h3⟩ := hws
          walk_at "g"
          refine ⟨rfl, ?_⟩
          walk_at "g"
          refine k_pull (hb6.sm s8) (by omega) (by omega) (fun x x0 x1 => hKp2 _ _ (Same.refl _) ⟨xs ++ [x], by rw [h1, List.map_append]; rfl, by rw [List.length_append, h2]; rfl, fun y hy => ?_⟩)
          rcases List.mem_append.mp hy with hy | hy
          · exact h3 y hy
          · rw [List.mem_singleton.mp hy]
            exact ⟨x0, by omega⟩
        case he3 =>
          obtain ⟨xs, hx1, hx2, hx3⟩ := hws
          subst hx1
          walk_at "g"
          refine k_tup_l (sq_l e8) (fun T H9 n9 s9 e9 => ?_)
          have s79 := s8.trans s9
          refine hKp _ _ s79 ⟨R ++ [(T, xs)], by rw [h1, List.map_append]; rfl, by rw [List.length_append, h2]; rfl, fun q hq => ?_⟩
          rcases List.mem_append.mp hq with hq | hq
          · exact ⟨sm_t (del_mono s79) (h3 q hq).1, (h3 q hq).2⟩
          · cases List.mem_singleton.mp hq
            exact ⟨del_t (s79 _ _ e6) (sq_t e9), by rw [hx2]; exact szc, hx3⟩
      case he1 =>
        obtain ⟨R, hR1, hR2, hR3⟩ := hws
        subst hR1
        have hb6 := hb5.sm s6
        have rm4 : 1 ≤ rm ∧ rm ≤ 4 := by omega
        have lR : R.length = rm := by rw [hR2]; omega
        walk_at "g"
        refine k_pull hb6 (by omega) (by omega) (fun x x0 x1 => ?_)
        walk_at "g"
        refine k_nTup (by walk_at "sz") (fun T7 H7 n7 s7 e7 => ?_)
        walk_at "g"
        refine k_nLst (by walk_at "sz") (fun p8 H8 n8 s8 e8 => ?_)
        have hb8 := hb6.sm (s7.trans s8)
        walk_at "g"
        refine k_pull hb8 (by omega) (by omega) (fun k k0 k1 => ?_)
        walk_at "g"
        have s68 := s6.trans (s7.trans s8)
        have nb8 : H6 p8 = none := s7.free n8
        refine k_nFor walk_range (fun i σ H' => (∃ y10, σ = [some (.ref b), some (.str z), some (.int n), some (.int M), some (.ref p2), some (.str (tx cs)), some (.int lo), some (.int rm), some (.ref pt), some (.ref p8), y10, none, none, none, none, none, none]) ∧ Same H6 H' ∧ ∃ L : List RwM, H' p8 = some (.lst (L.map fun q => V.ref q.1)) ∧ L.length = i + 1 ∧ ∀ q ∈ L, SqT K H' q.1 (q.2.map kV) ∧ ∃ s a c, q.2 = kEat s a c ∧ 0 ≤ a ∧ a < rm ∧ 0 ≤ c ∧ c < rm)
          ⟨⟨_, rfl⟩, s7.trans s8, [(T7, kEat true 0 x)], e8, rfl, fun q hq => ?h0⟩ (fun _ _ _ _ _ => trivial) (fun i v σ H9 H10 hi h hy => ?ht2) (fun σ H9 h => ?he2)
        case h0 =>
          rw [List.mem_singleton.mp hq]
          exact ⟨sm_t s8 (sq_t e7), true, 0, x, rfl, by omega, by omega, x0, by omega⟩
        case ht2 =>
          obtain ⟨⟨y10, rfl⟩, s9, L, eL, lL, hL⟩ := h
          obtain ⟨rfl, rfl⟩ := hy
          have hb9 := hb6.sm s9
          walk_at "g"
          refine k_nLst (by walk_at "sz") (fun p10 H10 n10 s10 e10 => ?_)
          have hb10 := hb9.sm s10
          walk_at "g"
          refine ⟨b, .ref p10, rfl, hb10, .inl ⟨p10, _, rfl, sq_l e10, by show 0 < 2; decide, by show 2 ≤ 100000; decide, fun v hv => ?_⟩⟩
          obtain ⟨sd, rfl⟩ : ∃ sd : Bool, v = .str (if sd = true then Str.ofString "right" else Str.ofString "left") := by
            rcases List.mem_cons.mp hv with rfl | hv
            · exact ⟨false, rfl⟩
            rcases List.mem_cons.mp hv with rfl | hv
            · exact ⟨true, rfl⟩
            cases hv
          walk_at "g"
          refine k_pull hb10 (by omega) (by omega) (fun a a0 a1 => ?_)
          walk_at "g"
          refine k_pull hb10 (by omega) (by omega) (fun c c0 c1 => ?_)
          walk_at "g"
          refine k_nTup (by walk_at "sz") (fun T11 H11 n11 s11 e11 => ?_)
          have eL11 := (s10.trans s11) _ _ eL
          walk_at "g"
          refine k_append eL11 (by rw [List.length_map]; omega) ?_
          walk_at "g"
          refine ⟨⟨_, rfl⟩, sm_mut ((s9.trans s10).trans s11) nb8, L ++ [(T11, kEat sd a c)], by rw [upd_same, List.map_append]; rfl, by rw [List.length_append, lL]; rfl, fun q hq => ?_⟩
          rcases List.mem_append.mp hq with hq | hq
          · exact ⟨t_lst eL11 (sm_t (s10.trans s11) (hL q hq).1), (hL q hq).2⟩
          · rw [List.mem_singleton.mp hq]
            exact ⟨t_lst eL11 (sq_t e11), sd, a, c, rfl, a0, by omega, c0, by omega⟩
        case he2 =>
          obtain ⟨⟨y10, rfl⟩, s9, L, eL, lL, hL⟩ := h
          have hb9 := hb6.sm s9
          walk_at "g"
          refine ⟨b, z, rfl, hb9, fun T ch pk H10 ms s10 e10 => ?_⟩
          have hb10 := hb9.sm s10
          have lcx := len_tx cs
          have mk0 := ms.k0
          have mk2 := ms.k2
          walk_at "g"
          refine k_nLc walk_range (fun _ _ => trivial) (fun i ws => ∃ ds : List Nat, ws = (ds.map sg).map V.str ∧ ds.length = i ∧ ∀ c ∈ ds, c ∈ cs) ⟨[], rfl, rfl, fun c hc => nomatch hc⟩ (fun i ws hi h => ?hz5) (fun i v H11 H12 ws Kp Ks hi s11 hws hy hKp hKs => ?ht5) (fun p11 H11 ws n11 s11 e11 hws => ?he5)
          case hz5 =>
            obtain ⟨ds, h1, h2, _⟩ := h
            rw [h1, List.length_map, List.length_map, h2]
            omega
          case ht5 =>
            obtain ⟨rfl, rfl⟩ := hy
            obtain ⟨ds, h1, h2, h3⟩ := hws
            walk_at "g"
            refine ⟨rfl, ?_⟩
            walk_at "g"
            refine ⟨b, .str (tx cs), rfl, hb10.sm s11, .inr ⟨tx cs, rfl, by omega, by omega, fun c hc => hKp _ _ (Same.refl _) ⟨ds ++ [c], by rw [h1, List.map_append, List.map_append]; rfl, by rw [List.length_append, h2]; rfl, fun d hd => ?_⟩⟩⟩
            rcases List.mem_append.mp hd with hd | hd
            · exact h3 d hd
            · rw [List.mem_singleton.mp hd]
              exact hc
          case he5 =>
            obtain ⟨ds, hd1, hd2, hd3⟩ := hws
            subst hd1
            have hb11 := hb10.sm s11
            walk_at "g"
            refine k_join (ys := ds.map sg) (sq_l e11) ?_ ?_
            · rw [show (Str.ofString "").length = 0 by decide +kernel, List.map_map, show (Str.length ∘ sg) = fun _ => 1 from rfl, List.length_map, sum_one, hd2]
              omega
            rw [join_sgs]
            walk_at "g"
            refine k_disp fun pm npm => ?_
            walk_at "g"
            refine ⟨upd_same, [(.inr "letters", .str (tx cs)), (.inr "table", .ref pt), (.inr "eats", .ref p8), (.inr "chew", .int ch), (.inr "put", .str (tx ds)), (.inr "most", .int lo)], rfl, by show 6 ≤ 15; decide, ?_⟩
            simp only [upd_upd]
            have em : mergeK [] [((.inr "letters" : Key), V.str (tx cs)), (.inr "table", .ref pt), (.inr "eats", .ref p8), (.inr "chew", .int ch), (.inr "put", .str (tx ds)), (.inr "most", .int lo)] = [((.inr "letters" : Key), V.str (tx cs)), (.inr "table", .ref pt), (.inr "eats", .ref p8), (.inr "chew", .int ch), (.inr "put", .str (tx ds)), (.inr "most", .int lo)] := rfl
            rw [em]
            have s12 := sm_new (o := .dK [((.inr "letters" : Key), V.str (tx cs)), (.inr "table", .ref pt), (.inr "eats", .ref p8), (.inr "chew", .int ch), (.inr "put", .str (tx ds)), (.inr "most", .int lo)]) npm
            have e12 : (upd H11 pm (.dK [((.inr "letters" : Key), V.str (tx cs)), (.inr "table", .ref pt), (.inr "eats", .ref p8), (.inr "chew", .int ch), (.inr "put", .str (tx ds)), (.inr "most", .int lo)])) pm = some (.dK [((.inr "letters" : Key), V.str (tx cs)), (.inr "table", .ref pt), (.inr "eats", .ref p8), (.inr "chew", .int ch), (.inr "put", .str (tx ds)), (.inr "most", .int lo)]) := upd_same
            generalize upd H11 pm (.dK [((.inr "letters" : Key), V.str (tx cs)), (.inr "table", .ref pt), (.inr "eats", .ref p8), (.inr "chew", .int ch), (.inr "put", .str (tx ds)), (.inr "most", .int lo)]) = H12 at s12 e12 ⊢
            have hb12 := hb11.sm s12
            walk_at "g"
            refine k_pull hb12 (by omega) (by omega) (fun u u0 u1 => ?_)
            walk_at "g"
            refine k_nDp e12 (by show 6 < 1000; decide) ?_
            have np0 : H pm = none := ((((((s02.trans s3).trans s4).trans s5).trans s6).trans s9).trans (s10.trans s11)).free npm
            have sAll : Same H (upd H12 pm (.dK (putK [((.inr "letters" : Key), V.str (tx cs)), (.inr "table", .ref pt), (.inr "eats", .ref p8), (.inr "chew", .int ch), (.inr "put", .str (tx ds)), (.inr "most", .int lo)] (.inr "cut") (.int (1 + u))))) :=
              sm_mut (((((((s02.trans s3).trans s4).trans s5).trans s6).trans s9).trans (s10.trans s11)).trans s12) np0
            have eF : (upd H12 pm (.dK (putK [((.inr "letters" : Key), V.str (tx cs)), (.inr "table", .ref pt), (.inr "eats", .ref p8), (.inr "chew", .int ch), (.inr "put", .str (tx ds)), (.inr "most", .int lo)] (.inr "cut") (.int (1 + u))))) pm = some (.dK [((.inr "letters" : Key), V.str (tx cs)), (.inr "table", .ref pt), (.inr "eats", .ref p8), (.inr "chew", .int ch), (.inr "put", .str (tx ds)), (.inr "most", .int lo), (.inr "cut", .int (1 + u))]) := upd_same
            have s612 := (s9.trans (s10.trans s11)).trans s12
            have s912 := (s10.trans s11).trans s12
            have kT : ∀ {a : Addr} {xs : List V}, SqT K H12 a xs → SqT K (upd H12 pm (.dK (putK [((.inr "letters" : Key), V.str (tx cs)), (.inr "table", .ref pt), (.inr "eats", .ref p8), (.inr "chew", .int ch), (.inr "put", .str (tx ds)), (.inr "most", .int lo)] (.inr "cut") (.int (1 + u))))) a xs := fun h => t_dk e12 h
            have kL0 : ∀ {a : Addr} {xs : List V}, H12 a = some (.lst xs) → (upd H12 pm (.dK (putK [((.inr "letters" : Key), V.str (tx cs)), (.inr "table", .ref pt), (.inr "eats", .ref p8), (.inr "chew", .int ch), (.inr "put", .str (tx ds)), (.inr "most", .int lo)] (.inr "cut") (.int (1 + u))))) a = some (.lst xs) := fun h => by rw [upd_ne (ne_of h e12 (fun z => by cases z))]; exact h
            have kL : ∀ {a : Addr} {xs : List V}, H12 a = some (.lst xs) → SqL K (upd H12 pm (.dK (putK [((.inr "letters" : Key), V.str (tx cs)), (.inr "table", .ref pt), (.inr "eats", .ref p8), (.inr "chew", .int ch), (.inr "put", .str (tx ds)), (.inr "most", .int lo)] (.inr "cut") (.int (1 + u))))) a xs := fun h => sq_l (kL0 h)
            generalize upd H12 pm (.dK (putK [((.inr "letters" : Key), V.str (tx cs)), (.inr "table", .ref pt), (.inr "eats", .ref p8), (.inr "chew", .int ch), (.inr "put", .str (tx ds)), (.inr "most", .int lo)] (.inr "cut") (.int (1 + u)))) = H13 at *
            walk_at "g"
            have tbl : (R.map (·.2)).length = rm := by rw [List.length_map, lR]
            have mc0 := ms.c0
            have mc2 := ms.c2
            have ldk : (ds.length : Int) = pk := by rw [hd2]; omega
            refine q ⟨cs, R.map (·.2), L.map (·.2), ch, ds, lo, 1 + u⟩ pm H13 ⟨hr0, lcs.1, lcs.2, by rw [tbl]; exact rm4.1, by rw [tbl]; exact rm4.2, fun r hr => ?_, by rw [List.length_map, lL]; omega, fun kk hk => ?_, mc0, mc2, by show ds.length ≤ 2; omega, hd3, by show (1 : Int) ≤ lo; omega, by show (lo : Int) ≤ 3; omega, low, by show (1 : Int) ≤ 1 + u; omega, by show 1 + u ≤ (lo : Int); omega⟩ ⟨by rw [ldk]; exact ms, np0, pt, p8, R, L, eF, kL0 (s612 _ _ e6), fun q hq => kT (sm_t s612 (hR3 q hq).1), rfl, kL0 (s912 _ _ eL), fun q hq => kT (sm_t s912 (hL q hq).1), rfl, ((((s02.trans s3).trans s4).trans s5).trans s6).free nb8, (fun z => by
                rw [← z, e6] at nb8
                cases nb8), by show (L.map (·.2)).length ≤ 7; rw [List.length_map, lL]; omega⟩ sAll
              ⟨pt, p8, R, L, ⟨_, eF, by show 7 ≤ 7; decide, ⟨rfl, rfl, rfl⟩, rfl, rfl, rfl, rfl⟩, kL (s612 _ _ e6), fun q hq => kT (sm_t s612 (hR3 q hq).1), rfl, kL (s912 _ _ eL), fun q hq => kT (sm_t s912 (hL q hq).1), rfl⟩
            · obtain ⟨q, hq, rfl⟩ := List.mem_map.mp hr
              obtain ⟨_, w1, w2⟩ := hR3 q hq
              exact ⟨w1, fun x hx => by rw [tbl]; exact w2 x hx⟩
            · obtain ⟨q, hq, rfl⟩ := List.mem_map.mp hk
              obtain ⟨_, s, a, c, e, b1, b2, b3, b4⟩ := hL q hq
              exact ⟨s, a, c, e, b1, by rw [tbl]; exact b2, b3, by rw [tbl]; exact b4⟩

local macro_rules | `(tactic| walk_at "hp") => `(tactic| first | assumption | exact upd_same | (refine' (upd_ne ?n).trans ?h; (case n => assumption); (case h => walk_at "hp")) | (refine' sm_get ?s ?h; (case s => assumption); (case h => walk_at "hp")))
local macro_rules | `(tactic| walk_at "sq") => `(tactic| first | assumption | (refine' sq_l ?h; (case h => walk_at "hp")) | (refine' sm_l ?s ?h; (case s => assumption); (case h => walk_at "sq")))
local macro_rules | `(tactic| walk_at "st") => `(tactic| first | assumption | (refine' sq_t ?h; (case h => walk_at "hp")) | (refine' sm_t ?s ?h; (case s => assumption); (case h => walk_at "st")))
local macro_rules | `(tactic| walk_at "bg") => `(tactic| first | assumption | (refine' BagOk.sm ?s ?h; (case s => assumption); (case h => walk_at "bg")))
local macro_rules | `(tactic| walk_at "sm") => `(tactic| first | assumption | exact Same.refl _ | (refine' Same.trans ?h ?s; (case s => assumption); (case h => walk_at "sm")))
local macro_rules | `(tactic| walk_at "hs") => `(tactic| first | assumption | (refine' HsAt.sm ?s ?h; (case s => assumption); (case h => walk_at "hs")))
local macro_rules | `(tactic| walk_at "ms") => `(tactic| first | assumption | (refine' MAt.sm ?s ?h; (case s => assumption); (case h => walk_at "ms")))
local macro_rules | `(tactic| walk_at "md") => `(tactic| first | assumption | (refine' MDk.sm ?s ?h; (case s => assumption); (case h => walk_at "md")))
local macro_rules | `(tactic| walk_at "dp") => `(tactic| first | assumption | (refine' dp_sm ?s ?h; (case s => assumption); (case h => walk_at "dp")))
local macro_rules | `(tactic| walk_at "sz") => `(tactic| first | decide | assumption | omega | (simp only [List.length_cons, List.length_nil, List.length_map, List.length_append]; omega))
local macro_rules | `(tactic| walk_at "g1") => `(tactic| first
  | with_reducible refine k_seq ?_
  | with_reducible refine k_itB ?_
  | with_reducible refine k_next ?_
  | with_reducible refine k_asg ?_
  | with_reducible refine k_name ?_
  | with_reducible refine k_ret ?_
  | with_reducible refine k_retN ?_
  | with_reducible refine k_drop ?_
  | with_reducible refine k_ifs ?_
  | with_reducible refine k_brk ?_
  | with_reducible refine k_cont ?_
  | with_reducible refine k_ipI ?_
  | with_reducible refine k_test ?_
  | with_reducible refine k_tB ?_
  | with_reducible refine k_bl ?_
  | with_reducible refine k_not ?_
  | with_reducible refine k_and ?_
  | with_reducible refine k_or ?_
  | with_reducible refine k_yes ?_
  | with_reducible refine k_true ?_
  | with_reducible refine k_false ?_
  | with_reducible refine k_nt ?_
  | with_reducible refine k_c ?_
  | with_reducible refine k_op ?_
  | with_reducible refine k_un ?_
  | with_reducible refine k_if ?_
  | with_reducible refine k_chain ?_
  | with_reducible refine k_nil ?_
  | with_reducible refine k_cons ?_
  | with_reducible refine k_cb ?_
  | with_reducible refine k_call ?_
  | with_reducible refine k_callS ?_
  | with_reducible refine k_andV ?_
  | with_reducible refine k_orV ?_
  | with_reducible refine k_notV ?_
  | with_reducible refine k_lst ?_
  | with_reducible refine k_tup ?_
  | with_reducible refine k_nopart ?_
  | with_reducible refine k_part ?_
  | with_reducible refine k_nInt ?_
  | with_reducible refine k_sl ?_
  | with_reducible refine k_bm ?_
  | with_reducible refine k_bm0 ?_
  | with_reducible refine k_nTyS ?_
  | with_reducible refine k_m1 ?_
  | with_reducible refine k_m0 ?_
  | with_reducible refine k_nStr ?_
  | with_reducible refine k_I0 ?_
  | with_reducible refine k_U ?_
  | with_reducible refine k_add_i ?_
  | with_reducible refine k_eq_i ?_
  | with_reducible refine k_eq_s ?_
  | with_reducible refine k_eq_b ?_
  | with_reducible refine k_ne_i ?_
  | with_reducible refine k_ne_s ?_
  | with_reducible refine k_ne_b ?_
  | with_reducible refine k_le_i ?_
  | with_reducible refine k_le_s ?_
  | with_reducible refine k_gnil ?_
  | with_reducible refine k_gcons ?_
  | with_reducible refine k_gsub ?_
  | with_reducible refine k_for ?_
  | with_reducible refine k_lc ?_
  | with_reducible refine k_rng1 ?_
  | with_reducible refine k_rng2 ?_
  | with_reducible refine k_itl ?_
  | with_reducible refine k_itt ?_
  | with_reducible refine k_its ?_
  | with_reducible refine k_ite ?_
  | with_reducible refine k_iteB ?_
  | with_reducible refine k_lrg2 ?_
  | with_reducible refine k_itz ?_
  | with_reducible refine k_nIts ?_
  | with_reducible refine k_inS ?_
  | with_reducible refine k_niS ?_
  | with_reducible refine k_mk ?_
  | with_reducible refine k_meth ?_
  | with_reducible refine k_fld ?_
  | with_reducible refine k_sfld ?_
  | with_reducible refine k_dg ?_
  | with_reducible refine k_dp ?_
  | with_reducible refine k_pr ?_
  | with_reducible refine k_pr0 ?_
  | with_reducible refine k_sg ?_
  | with_reducible refine k_lc2 ?_
  | with_reducible refine k_callN ?_
  | with_reducible refine k_callNS ?_
  | with_reducible refine k_par ?_
  | with_reducible refine k_nPar ?_
  | with_reducible refine k_isNn ?_
  | with_reducible refine k_isNr ?_
  | with_reducible refine k_ntNn ?_
  | with_reducible refine k_ntNr ?_
  | with_reducible refine k_min2 ?_
  | with_reducible refine k_max2 ?_
  | with_reducible refine k_intB ?_
  | with_reducible refine k_intI ?_
  | with_reducible refine k_isBl ?_
  | with_reducible refine k_ntBl ?_
  | ((with_reducible refine' k_var ?kv ?_); (case kv => exact rfl))
  | ((with_reducible refine' k_aug ?kv ?_); (case kv => exact rfl))
  | ((with_reducible refine' k_ix_l ?ks ?ki ?_); (case ks => walk_at "sq"); (case ki => exact rfl))
  | ((with_reducible refine' k_ix_t ?ks ?ki ?_); (case ks => walk_at "st"); (case ki => exact rfl))
  | ((with_reducible refine' k_len_l ?ks ?_); (case ks => walk_at "sq"))
  | ((with_reducible refine' k_len_t ?ks ?_); (case ks => walk_at "st"))
  | ((with_reducible refine' k_setL ?ks ?ki ?_); (case ks => walk_at "hp"); (case ki => exact rfl))
  | ((with_reducible refine' k_nTyL ?ks ?_); (case ks => walk_at "sq"))
  | ((with_reducible refine' k_nItl ?ks ?_); (case ks => walk_at "sq"))
  | ((with_reducible refine' k_nItt ?ks ?_); (case ks => walk_at "st"))
  | ((with_reducible refine' k_nIte ?ks ?_); (case ks => walk_at "sq"))
  | ((with_reducible refine' k_mul ?km ?_); (case km => first | exact Or.inr ⟨by decide, by decide⟩ | exact Or.inl ⟨by decide, by decide⟩))
  | ((with_reducible refine' k_I ?km ?_); (case km => first | assumption | decide | exact ⟨by decide, by decide +kernel⟩ | exact ⟨by decide, by decide, by decide⟩))
  | ((with_reducible refine' k_nMeth ?kp ?kl ?_); (case kp => walk_at "hp"); (case kl => exact rfl))
  | ((with_reducible refine' k_nFld ?kp ?kc ?kn ?kl ?_); (case kp => walk_at "hp"); (case kc => assumption); (case kn => assumption); (case kl => exact rfl))
  | ((with_reducible refine' k_nSFld ?kp ?kc ?kn ?kl ?_); (case kp => walk_at "hp"); (case kc => assumption); (case kn => assumption); (case kl => exact of_decide_eq_true rfl))
  | ((with_reducible refine' k_nDg ?kp ?kl ?_); (case kp => walk_at "hp"); (case kl => exact rfl))
  | ((with_reducible refine' k_nRng1 ?k1 ?k2 ?_); (case k1 => omega); (case k2 => omega))
  | ((with_reducible refine' k_nKw ?k1 ?k2 ?_); (case k1 => exact rfl); (case k2 => exact rfl))
  | ((with_reducible refine' k_hsm ?kh ?_); (case kh => walk_at "hs"))
  | ((with_reducible refine' k_nMethH ?kh ?kl ?_); (case kh => walk_at "hs"); (case kl => exact fun _ _ => rfl))
  | ((with_reducible refine' k_mLet ?kh ?_); (case kh => walk_at "ms"))
  | ((with_reducible refine' k_mChew ?kh ?_); (case kh => walk_at "ms"))
  | ((with_reducible refine' k_mPut ?kh ?_); (case kh => walk_at "ms"))
  | ((with_reducible refine' k_mMost ?kh ?_); (case kh => walk_at "ms"))
  | ((with_reducible refine' k_mCut ?kh ?_); (case kh => walk_at "ms"))
  | ((with_reducible refine' k_mTab ?kh ?_); (case kh => walk_at "md"))
  | ((with_reducible refine' k_mEats ?kh ?_); (case kh => walk_at "md"))
  | ((with_reducible refine' k_gtup ?ks ?kl ?_); (case ks => walk_at "st"); (case kl => exact rfl)))
local macro_rules | `(tactic| walk_at "g") => `(tactic| repeat (walk_at "g1"))
local macro_rules | `(tactic| walk_at "w1") => `(tactic| first
  | walk_at "g1"
  | ((with_reducible refine' k_decT ?kp ?_); (case kp => omega))
  | ((with_reducible refine' k_decF ?kp ?_); (case kp => omega))
  | ((with_reducible refine' k_decNT ?kp ?_); (case kp => omega))
  | ((with_reducible refine' k_decNF ?kp ?_); (case kp => omega)))
local macro_rules | `(tactic| walk_at "w") => `(tactic| repeat (walk_at "w1"))

/-! ### a house made -/
def gHouse : List V → List V → List V := fun vs zs => vs ++ zs
theorem House_made (F : FunD K "__init__" "House.__init__" (defArgs s_House_init) (defBody s_House_init) (defScope s_House_init) [] [("chew", .int 0)] (He.ma K (He.ga K "House") "__init__") fd) (gC : mg "House" = some (.ref (He.ga K "House"))) (mk0 : Mk K (He.ga K "House") (He.ma K (He.ga K "House") "__init__"))
    (ok : FnOk P w K mg base CX0 2 (He.ma K (He.ga K "House") "__init__") fd ["self", "letters", "table", "eats", "chew", "put", "most", "cut"] (spInit K)) : OwnMk P w K mg base CX0 "House" 2 2 ["eats", "chew", "put", "most", "cut"] gHouse (spInit K) := by
  refine ⟨gC, mk0, fd, _, ok, fun us ws => us ++ ws, ?_⟩
  have key := FunD.kbinds0 (ps := ["self", "letters", "table", "eats", "chew", "put", "most", "cut"]) F 3 ["eats", "chew", "put", "most", "cut"] [] (fun {α} us _ ws => us ++ ws) (by simp) (fun q hq => nomatch hq) (fun r1 _ r3 => r1.append r3) (fun D doc pm an cdv ct us mv ws l1 l2 l3 => by
    match us, mv, ws, l1, l2, l3 with
    | [_, _, _], [], [_, _, _, _, _], _, _, _ => rfl)
  exact key.elim fun mv h => h
--! have c_House := House_made $F(House.__init__) g_House (He.mkr_ok a_mk) c_House_init
def spMade (K : PySem.W.Frag) : Sp := fun vs H Q _ => ∃ (m : Addr) (S : HsD), vs = [.ref m] ∧ MAt K H m S ∧ HsOk S ∧ ∀ a H', H a = none → Same H H' → HsAt K H' a S → Q (.ref a) H'
theorem ok_Lmade (F : FnP K "_law_made" s_Lmade f fd) (hm : mg "_law_made" = some (.ref f)) (f_list : mg "list" = none) (c_House : OwnMk P w K mg base CX0 "House" 2 2 ["eats", "chew", "put", "most", "cut"] gHouse (spInit K)) : Callee P w K mg base CX0 "_law_made" 4 [] (spMade K) := by
  refine ⟨f, fd, _, [], F.ok sc_Lmade (fun vs H Q E h => ?hl) (fun cdv A outer s H vs Q E hr h => ⟨_, PSs.nox (pss_cons (ps_setLc (i := 1) (own := [("_law_row", 3)]) rfl sc_Lmade.nd rfl rfl (sw_true rfl rfl rfl (by decide +kernel)) (pi_listK K (pe_dget (hu_of hr) (pv 0) pe_str (fun _ _ => rfl))) (blkOk_by (N := ["_law_m", "_law_table", "_law_triples", "_law_row"]) (sc := defScope s_Lmade) (by decide +kernel)) (fun _ _ _ _ _ => (pg_name (i := 3) sc_Lmade.nd rfl (by first | exact Or.inl rfl | exact Or.inr rfl))) (fun _ _ _ _ _ => pts_nil) (fun _ _ _ _ _ => (pe_callTy (call_listK K) (by rfl) f_list (by decide +kernel) (pa_cons (pv 3) pa_nil))))
      (pss_cons (ps_set (i := 2) sc_Lmade.nd rfl (by first | exact Or.inl rfl | exact Or.inr rfl) (pe_callTy (call_listK K) (by rfl) f_list (by decide +kernel) (pa_cons (pe_dget (hu_of hr) (pv 0) pe_str (fun _ _ => rfl)) pa_nil)))
      (pss_one (ps_ret (pe_mkK c_House hr (pa_cons (pe_dget (hu_of hr) (pv 0) pe_str (fun _ _ => rfl)) (pa_cons (pv 1) pa_nil)) (pk_cons (pv 2) (pk_cons (pe_dget (hu_of hr) (pv 0) pe_str (fun _ _ => rfl)) (pk_cons (pe_dget (hu_of hr) (pv 0) pe_str (fun _ _ => rfl)) (pk_cons (pe_dget (hu_of hr) (pv 0) pe_str (fun _ _ => rfl)) (pk_cons (pe_dget (hu_of hr) (pv 0) pe_str (fun _ _ => rfl)) pk_nil))))) pass0))))), ?rd⟩), hm, F.kp, F.bindsN fun _ _ _ _ _ _ us hl => match us, hl with | [_], _ => rfl, .nil⟩
  case hl =>
    obtain ⟨m, S, rfl, _⟩ := h
    rfl
  case rd =>
    obtain ⟨m, S, rfl, hM, ok, q⟩ := h
    have hM0 := hM
    obtain ⟨tb, ev, R, L, h1, h2, h3, h4, h5, h6, h7⟩ := hM
    refine k_start (σ' := [some _, none, none, none]) rfl ?_
    have lR : R.length = S.tb.length := by rw [← h4, List.length_map]
    have t4 := ok.t4
    walk_at "g"
    refine k_nLcD (walk_list (xs := R.map fun q => V.ref q.1)) (fun H' s2 => sm_l s2 h2) (fun i ws H1 => ∃ R' : List RwI, ws = R'.map (fun q => V.ref q.1) ∧ R'.map (·.2) = (R.take i).map (·.2) ∧ ∀ q ∈ R', SqL K H1 q.1 (q.2.map V.int)) (fun i ws H1 H2 s h => ?hm) ⟨[], rfl, rfl, fun q hq => nomatch hq⟩ (fun i ws H1 hi h => ?hz) (fun i v p H1 H2 ws Kp Ks hi hp s1 e1 hws hy hKp hKs => ?ht2) (fun pr Hr ws nr sr er hws => ?he2)
    case hm =>
      obtain ⟨R', e1, e2, h3⟩ := h
      exact ⟨R', e1, e2, fun q hq => sm_l s (h3 q hq)⟩
    case hz =>
      obtain ⟨R', e1, e2, h3⟩ := h
      have := congrArg List.length e2
      rw [List.length_map, List.length_map, List.length_take] at this
      rw [e1, List.length_map]
      omega
    case ht2 =>
      obtain ⟨rfl, hv⟩ := hy
      obtain ⟨r, hr0, rfl⟩ := map_get hv
      obtain ⟨R', e2, e3, h3'⟩ := hws
      have hr1 := sm_t s1 (h3 r (List.mem_of_getElem? hr0))
      walk_at "g"
      refine ⟨rfl, ?_⟩
      walk_at "g"
      refine k_list_t hr1 (fun t H6 n6 s6 e6 => hKp _ _ s6 ⟨R' ++ [(t, r.2)], by rw [e2, List.map_append]; rfl, by rw [List.map_append, e3, take_more hr0, List.map_append]; rfl, fun q hq => ?_⟩)
      rcases List.mem_append.mp hq with hq | hq
      · exact sm_l (del_mono s6) (h3' q hq)
      · cases List.mem_singleton.mp hq
        exact del_l (fun z => by have z : t = p := z; rw [z, e1] at n6; cases n6) (sq_l e6)
    case he2 =>
      obtain ⟨R', e2, e3, h3'⟩ := hws
      subst e2
      have lRm : (R.map fun q => V.ref q.1).length = R.length := List.length_map _
      rw [lRm, List.take_length, h4] at e3
      have h5r := sm_l sr h5
      have h1r := h1.sm sr
      walk_at "g"
      refine k_list_l h5r (fun p5 H5 n5 s5 e5 => ?_)
      have h15 := h1r.sm s5
      have hM5 : MAt K H5 m S := hM0.sm (sr.trans s5)
      walk_at "g"
      refine k_makeK ?_
      walk_at "g"
      refine ⟨rfl, rfl, fun x dx nx ndx nex => ?_⟩
      have sG : Same H5 (upd (upd H5 dx (.own x)) x (.ins (He.ga K "House") dx [])) := (sm_new ndx).trans (sm_new (by rw [upd_ne (Ne.symm nex)]; exact nx))
      have sR5 := sr.trans s5
      refine ⟨S, x, dx, pr, p5, R', L, false, rfl, ok, upd_same, sm_l (s5.trans sG) (sq_l er), fun q hq => sm_l (s5.trans sG) (h3' q hq), e3, sm_l sG (sq_l e5), fun q hq => sm_t (sR5.trans sG) (h6 q hq), h7, fun H' keep hs => ⟨rfl, q x H' (sR5.free nx) (fun b u hb => ?_) hs⟩⟩
      have hb5 := sR5 b u hb
      exact keep b u (ne_of_none hb5 nx) (sG b u hb5)
end
end Lw
set_option autoImplicit true
set_option pp.maxSteps 1200
set_option Elab.async false
set_option linter.all false
set_option maxRecDepth 100000
set_option maxHeartbeats 1000000
namespace Lw
open PySem PySem.Spec PyProof.Rows L2 Gk

local macro_rules | `(tactic| walk_at "hp") => `(tactic| first | assumption | exact upd_same | (refine' (upd_ne ?n).trans ?h; (case n => assumption); (case h => walk_at "hp")) | (refine' sm_get ?s ?h; (case s => assumption); (case h => walk_at "hp")))
local macro_rules | `(tactic| walk_at "sq") => `(tactic| first | assumption | (refine' sq_l ?h; (case h => walk_at "hp")) | (refine' sm_l ?s ?h; (case s => assumption); (case h => walk_at "sq")))
local macro_rules | `(tactic| walk_at "st") => `(tactic| first | assumption | (refine' sq_t ?h; (case h => walk_at "hp")) | (refine' sm_t ?s ?h; (case s => assumption); (case h => walk_at "st")))
local macro_rules | `(tactic| walk_at "bg") => `(tactic| first | assumption | (refine' BagOk.sm ?s ?h; (case s => assumption); (case h => walk_at "bg")))
local macro_rules | `(tactic| walk_at "sm") => `(tactic| first | assumption | exact Same.refl _ | (refine' Same.trans ?h ?s; (case s => assumption); (case h => walk_at "sm")))
local macro_rules | `(tactic| walk_at "hs") => `(tactic| first | assumption | (refine' HsAt.sm ?s ?h; (case s => assumption); (case h => walk_at "hs")))
local macro_rules | `(tactic| walk_at "ms") => `(tactic| first | assumption | (refine' MAt.sm ?s ?h; (case s => assumption); (case h => walk_at "ms")))
local macro_rules | `(tactic| walk_at "md") => `(tactic| first | assumption | (refine' MDk.sm ?s ?h; (case s => assumption); (case h => walk_at "md")))
local macro_rules | `(tactic| walk_at "dp") => `(tactic| first | assumption | (refine' dp_sm ?s ?h; (case s => assumption); (case h => walk_at "dp")))
local macro_rules | `(tactic| walk_at "sz") => `(tactic| first | decide | assumption | omega | (simp only [List.length_cons, List.length_nil, List.length_map, List.length_append]; omega))
local macro_rules | `(tactic| walk_at "g1") => `(tactic| first
  | with_reducible refine k_seq ?_
  | with_reducible refine k_itB ?_
  | with_reducible refine k_next ?_
  | with_reducible refine k_asg ?_
  | with_reducible refine k_name ?_
  | with_reducible refine k_ret ?_
  | with_reducible refine k_retN ?_
  | with_reducible refine k_drop ?_
  | with_reducible refine k_ifs ?_
  | with_reducible refine k_brk ?_
  | with_reducible refine k_cont ?_
  | with_reducible refine k_ipI ?_
  | with_reducible refine k_test ?_
  | with_reducible refine k_tB ?_
  | with_reducible refine k_bl ?_
  | with_reducible refine k_not ?_
  | with_reducible refine k_and ?_
  | with_reducible refine k_or ?_
  | with_reducible refine k_yes ?_
  | with_reducible refine k_true ?_
  | with_reducible refine k_false ?_
  | with_reducible refine k_nt ?_
  | with_reducible refine k_c ?_
  | with_reducible refine k_op ?_
  | with_reducible refine k_un ?_
  | with_reducible refine k_if ?_
  | with_reducible refine k_chain ?_
  | with_reducible refine k_nil ?_
  | with_reducible refine k_cons ?_
  | with_reducible refine k_cb ?_
  | with_reducible refine k_call ?_
  | with_reducible refine k_callS ?_
  | with_reducible refine k_andV ?_
  | with_reducible refine k_orV ?_
  | with_reducible refine k_notV ?_
  | with_reducible refine k_lst ?_
  | with_reducible refine k_tup ?_
  | with_reducible refine k_nopart ?_
  | with_reducible refine k_part ?_
  | with_reducible refine k_nInt ?_
  | with_reducible refine k_sl ?_
  | with_reducible refine k_bm ?_
  | with_reducible refine k_bm0 ?_
  | with_reducible refine k_nTyS ?_
  | with_reducible refine k_m1 ?_
  | with_reducible refine k_m0 ?_
  | with_reducible refine k_nStr ?_
  | with_reducible refine k_I0 ?_
  | with_reducible refine k_U ?_
  | with_reducible refine k_add_i ?_
  | with_reducible refine k_eq_i ?_
  | with_reducible refine k_eq_s ?_
  | with_reducible refine k_eq_b ?_
  | with_reducible refine k_ne_i ?_
  | with_reducible refine k_ne_s ?_
  | with_reducible refine k_ne_b ?_
  | with_reducible refine k_le_i ?_
  | with_reducible refine k_le_s ?_
  | with_reducible refine k_gnil ?_
  | with_reducible refine k_gcons ?_
  | with_reducible refine k_gsub ?_
  | with_reducible refine k_for ?_
  | with_reducible refine k_lc ?_
  | with_reducible refine k_rng1 ?_
  | with_reducible refine k_rng2 ?_
  | with_reducible refine k_itl ?_
  | with_reducible refine k_itt ?_
  | with_reducible refine k_its ?_
  | with_reducible refine k_ite ?_
  | with_reducible refine k_iteB ?_
  | with_reducible refine k_lrg2 ?_
  | with_reducible refine k_itz ?_
  | with_reducible refine k_nIts ?_
  | with_reducible refine k_inS ?_
  | with_reducible refine k_niS ?_
  | with_reducible refine k_mk ?_
  | with_reducible refine k_meth ?_
  | with_reducible refine k_fld ?_
  | with_reducible refine k_sfld ?_
  | with_reducible refine k_dg ?_
  | with_reducible refine k_dp ?_
  | with_reducible refine k_pr ?_
  | with_reducible refine k_pr0 ?_
  | with_reducible refine k_sg ?_
  | with_reducible refine k_lc2 ?_
  | with_reducible refine k_callN ?_
  | with_reducible refine k_callNS ?_
  | with_reducible refine k_par ?_
  | with_reducible refine k_nPar ?_
  | with_reducible refine k_isNn ?_
  | with_reducible refine k_isNr ?_
  | with_reducible refine k_ntNn ?_
  | with_reducible refine k_ntNr ?_
  | with_reducible refine k_min2 ?_
  | with_reducible refine k_max2 ?_
  | with_reducible refine k_intB ?_
  | with_reducible refine k_intI ?_
  | with_reducible refine k_isBl ?_
  | with_reducible refine k_ntBl ?_
  | ((with_reducible refine' k_var ?kv ?_); (case kv => exact rfl))
  | ((with_reducible refine' k_aug ?kv ?_); (case kv => exact rfl))
  | ((with_reducible refine' k_ix_l ?ks ?ki ?_); (case ks => walk_at "sq"); (case ki => exact rfl))
  | ((with_reducible refine' k_ix_t ?ks ?ki ?_); (case ks => walk_at "st"); (case ki => exact rfl))
  | ((with_reducible refine' k_len_l ?ks ?_); (case ks => walk_at "sq"))
  | ((with_reducible refine' k_len_t ?ks ?_); (case ks => walk_at "st"))
  | ((with_reducible refine' k_setL ?ks ?ki ?_); (case ks => walk_at "hp"); (case ki => exact rfl))
  | ((with_reducible refine' k_nTyL ?ks ?_); (case ks => walk_at "sq"))
  | ((with_reducible refine' k_nItl ?ks ?_); (case ks => walk_at "sq"))
  | ((with_reducible refine' k_nItt ?ks ?_); (case ks => walk_at "st"))
  | ((with_reducible refine' k_nIte ?ks ?_); (case ks => walk_at "sq"))
  | ((with_reducible refine' k_mul ?km ?_); (case km => first | exact Or.inr ⟨by decide, by decide⟩ | exact Or.inl ⟨by decide, by decide⟩))
  | ((with_reducible refine' k_I ?km ?_); (case km => first | assumption | decide | exact ⟨by decide, by decide +kernel⟩ | exact ⟨by decide, by decide, by decide⟩))
  | ((with_reducible refine' k_nMeth ?kp ?kl ?_); (case kp => walk_at "hp"); (case kl => exact rfl))
  | ((with_reducible refine' k_nFld ?kp ?kc ?kn ?kl ?_); (case kp => walk_at "hp"); (case kc => assumption); (case kn => assumption); (case kl => exact rfl))
  | ((with_reducible refine' k_nSFld ?kp ?kc ?kn ?kl ?_); (case kp => walk_at "hp"); (case kc => assumption); (case kn => assumption); (case kl => exact of_decide_eq_true rfl))
  | ((with_reducible refine' k_nDg ?kp ?kl ?_); (case kp => walk_at "hp"); (case kl => exact rfl))
  | ((with_reducible refine' k_nRng1 ?k1 ?k2 ?_); (case k1 => omega); (case k2 => omega))
  | ((with_reducible refine' k_nKw ?k1 ?k2 ?_); (case k1 => exact rfl); (case k2 => exact rfl))
  | ((with_reducible refine' k_hsm ?kh ?_); (case kh => walk_at "hs"))
  | ((with_reducible refine' k_nMethH ?kh ?kl ?_); (case kh => walk_at "hs"); (case kl => exact fun _ _ => rfl))
  | ((with_reducible refine' k_mLet ?kh ?_); (case kh => walk_at "ms"))
  | ((with_reducible refine' k_mChew ?kh ?_); (case kh => walk_at "ms"))
  | ((with_reducible refine' k_mPut ?kh ?_); (case kh => walk_at "ms"))
  | ((with_reducible refine' k_mMost ?kh ?_); (case kh => walk_at "ms"))
  | ((with_reducible refine' k_mCut ?kh ?_); (case kh => walk_at "ms"))
  | ((with_reducible refine' k_mTab ?kh ?_); (case kh => walk_at "md"))
  | ((with_reducible refine' k_mEats ?kh ?_); (case kh => walk_at "md"))
  | ((with_reducible refine' k_gtup ?ks ?kl ?_); (case ks => walk_at "st"); (case kl => exact rfl)))
local macro_rules | `(tactic| walk_at "g") => `(tactic| repeat (walk_at "g1"))
local macro_rules | `(tactic| walk_at "w1") => `(tactic| first
  | walk_at "g1"
  | ((with_reducible refine' k_decT ?kp ?_); (case kp => omega))
  | ((with_reducible refine' k_decF ?kp ?_); (case kp => omega))
  | ((with_reducible refine' k_decNT ?kp ?_); (case kp => omega))
  | ((with_reducible refine' k_decNF ?kp ?_); (case kp => omega)))
local macro_rules | `(tactic| walk_at "w") => `(tactic| repeat (walk_at "w1"))


section
variable {P : Program} {w : World} {K : PySem.W.Frag} {mg : Str → Option Value} {base : Heap} {f : Addr} {fd : FuncData}
def spLWords (K : PySem.W.Frag) : Sp := fun vs H Q _ => ∃ (m : Addr) (S : HsD), vs = [.ref m] ∧ MAt K H m S ∧ HsOk S ∧ ∀ p H', H p = none → Same H H' → H' p = some (.lst (tS (wordsF S.ls S.mo.toNat))) → Q (.ref p) H'
theorem ok_Lwords (F : FnP K "_law_words" s_Lwords f fd) (hm : mg "_law_words" = some (.ref f)) (f_range : mg "range" = none) : Callee P w K mg base CX0 "_law_words" 1 [] (spLWords K) := by
  refine ⟨f, fd, _, [], F.ok sc_Lwords (fun vs H Q E h => ?hl) (fun cdv A outer s H vs Q E hr h => ⟨_, PSs.nox (pss_cons (ps_set (i := 1) sc_Lwords.nd rfl (by first | exact Or.inl rfl | exact Or.inr rfl) (pe_lst pa_nil))
      (pss_cons (ps_set (i := 2) sc_Lwords.nd rfl (by first | exact Or.inl rfl | exact Or.inr rfl) (pe_lst (pa_cons pe_str pa_nil)))
      (pss_cons (ps_for PassesOwn.never rfl (pi_range1 (by rfl) f_range (pa_cons (pe_dget (hu_of hr) (pv 0) pe_str (fun _ _ => rfl)) pa_nil)) (pg_name (i := 3) sc_Lwords.nd rfl (by first | exact Or.inl rfl | exact Or.inr rfl)) (pss_cons (ps_set (i := 4) sc_Lwords.nd rfl (by first | exact Or.inl rfl | exact Or.inr rfl) (pe_lst pa_nil))
      (pss_cons (ps_for PassesOwn.never rfl (pi_listK K (pv 2)) (pg_name (i := 5) sc_Lwords.nd rfl (by first | exact Or.inl rfl | exact Or.inr rfl)) (pss_one (ps_set (i := 4) sc_Lwords.nd rfl (by first | exact Or.inl rfl | exact Or.inr rfl) (pe_op (op_addK K) (pv 4) (pe_lc (own := [("_law_sign", 6)]) rfl sc_Lwords.nd (pi_str (pe_dget (hu_of hr) (pv 0) pe_str (fun _ _ => rfl))) (blkOk_by (N := ["_law_m", "_law_found", "_law_last", "_law_size", "_law_longer", "_law_word", "_law_sign"]) (sc := defScope s_Lwords) (by decide +kernel)) (fun _ _ _ _ _ => (pg_name (i := 6) sc_Lwords.nd rfl (by first | exact Or.inl rfl | exact Or.inr rfl))) (fun _ _ _ _ _ => pts_nil) (fun _ _ _ _ _ => (pe_op (op_addK K) (pv 5) (pv 6))))))))
      (pss_cons (ps_set (i := 1) sc_Lwords.nd rfl (by first | exact Or.inl rfl | exact Or.inr rfl) (pe_op (op_addK K) (pv 1) (pv 4)))
      (pss_one (ps_set (i := 2) sc_Lwords.nd rfl (by first | exact Or.inl rfl | exact Or.inr rfl) (pv 4)))))))
      (pss_one (ps_ret (pv 1)))))), ?rd⟩), hm, F.kp, F.bindsN fun _ _ _ _ _ _ us hl => match us, hl with | [_], _ => rfl, .nil⟩
  case hl =>
    obtain ⟨m, S, rfl, _⟩ := h
    rfl
  case rd =>
    obtain ⟨m, S, rfl, hM0, ok, q⟩ := h
    refine k_start (σ' := [some _, none, none, none, none, none, none]) rfl ?_
    have m1 := ok.m1
    have m3 := ok.m3
    walk_at "g"
    refine k_nLst (by walk_at "sz") (fun p1 H1 n1 s1 e1 => ?_)
    walk_at "g"
    refine k_nLst (by walk_at "sz") (fun p2 H2 n2 s2 e2 => ?_)
    have h12 := hM0.sm (s1.trans s2)
    walk_at "g"
    have e12 := s2 _ _ e1
    refine k_nFor walk_range (fun i σ H' => ∃ pf pl y3 y4 y5, σ = [some (.ref m), some (.ref pf), some (.ref pl), y3, y4, y5, none] ∧ Same H H' ∧ (H pf = none ∧ H' pf = some (.lst (tS (wordsF S.ls i)))) ∧ H' pl = some (.lst (tS (lv S.ls i)))) ⟨p1, p2, none, none, none, rfl, s1.trans s2, ⟨n1, e12⟩, e2⟩ (fun _ _ _ _ _ => trivial) (fun i x σ Ha Hb hi h hy => ?ht) (fun σ H' h => ?he)
    case he =>
      obtain ⟨pf, pl, y3, y4, y5, rfl, sa, ⟨na, ea⟩, _⟩ := h
      walk_at "g"
      exact q _ _ na sa ea
    case ht =>
      obtain ⟨pf, pl, y3, y4, y5, rfl, sa, ⟨na, ea⟩, eb⟩ := h
      obtain ⟨rfl, rfl⟩ := hy
      have l1 := lv_small ok (i := i) (by omega)
      have l2 := lv_small ok (i := i + 1) (by omega)
      have ltS : (tS (lv S.ls i)).length = (lv S.ls i).length := List.length_map _
      walk_at "g"
      refine k_nLst (by walk_at "sz") (fun p3 H3 n3 s3 e3 => ?_)
      have eb3 := s3 _ _ eb
      walk_at "g"
      refine k_nFor (walk_list (xs := tS (lv S.ls i))) (fun j σ H' => ∃ pg y5, σ = [some (.ref m), some (.ref pf), some (.ref pl), some (.int (0 + i)), some (.ref pg), y5, none] ∧ Same H3 H' ∧ H' pg = some (.lst (tS (((lv S.ls i).take j).flatMap fun u => S.ls.map fun c => u ++ [c])))) ⟨p3, _, rfl, Same.refl _, e3⟩ (fun j σ H' _ h => by obtain ⟨pg, y5, _, s, _⟩ := h; exact sq_l (s _ _ eb3)) (fun j v σ H4 H5 hj h hy => ?ht2) (fun σ H4 h => ?he2)
      case ht2 =>
        obtain ⟨pg, y5, rfl, s4, e4⟩ := h
        obtain ⟨rfl, hv⟩ := hy
        obtain ⟨u, hu, rfl⟩ := map_get hv
        obtain ⟨lu, _⟩ := lv_ok S.ls i u (List.mem_of_getElem? hu)
        have hm4 := hM0.sm (sa.trans (s3.trans s4))
        walk_at "g"
        have sz : (tx S.ls).cps.size = S.ls.length := len_tx S.ls
        have l3 := ok.l3
        refine k_nLc (walk_str (z := tx S.ls)) (fun _ _ => trivial) (fun k ws => ws = tS ((S.ls.take k).map fun c => u ++ [c])) rfl (fun k ws hk hw => ?hz) (fun k v H6 H7 ws Kp Ks hk s6 hw hy hKp hKs => ?ht3) (fun p6 H6 ws n6 s6 e6 hw => ?he3)
        case hz =>
          rw [hw]
          unfold tS
          rw [List.length_map, List.length_map, List.length_take]
          omega
        case ht3 =>
          obtain ⟨rfl, c, hc, rfl⟩ := hy
          have hci : S.ls[k]? = some c := by rw [← hc]; exact Array.getElem?_toList (xs := S.ls.toArray)
          walk_at "g"
          refine ⟨rfl, ?_⟩
          walk_at "g"
          refine k_add_s (by rw [len_tx, lu]; show i + 1 ≤ 100000; omega) ?_
          rw [tx_one]
          exact hKp _ _ (Same.refl _) (by rw [hw, take_more hci, List.map_append]; simp [tS])
        case he3 =>
          have el : S.ls.take (tx S.ls).cps.size = S.ls := List.take_of_length_le (by omega)
          rw [el] at hw
          subst hw
          have e46 := s6 _ _ e4
          have a1 : (tS (((lv S.ls i).take j).flatMap fun u => S.ls.map fun c => u ++ [c])).length ≤ 14 * 3 := by
            unfold tS
            rw [List.length_map, List.length_flatMap, show (((lv S.ls i).take j).map fun u => (S.ls.map fun c => u ++ [c]).length) = ((lv S.ls i).take j).map fun _ => S.ls.length by simp, List.map_const', List.sum_replicate_nat, List.length_take]
            exact Nat.mul_le_mul (Nat.le_trans (Nat.min_le_right ..) l1) ok.l3
          have a2 : (tS (S.ls.map fun c => u ++ [c])).length ≤ 3 := by
            unfold tS
            rw [List.length_map, List.length_map]
            exact ok.l3
          refine k_add_l e46 e6 (by omega) (fun p7 H7 n7 s7 e7 => ?_)
          walk_at "g"
          refine ⟨p7, _, rfl, s4.trans (s6.trans s7), ?_⟩
          rw [e7, longer S.ls (lv S.ls i) j u hu]
          simp [tS]
      case he2 =>
        obtain ⟨pg, y5, rfl, s4, e4⟩ := h
        rw [ltS, List.take_length] at e4
        have ea4 := (s3.trans s4) _ _ ea
        walk_at "g"
        have w1 := words_small ok i (by omega)
        have t1 : (tS (wordsF S.ls i)).length = (wordsF S.ls i).length := List.length_map _
        have t2 : (tS ((lv S.ls i).flatMap fun u => S.ls.map fun c => u ++ [c])).length = (lv S.ls (i + 1)).length := List.length_map _
        refine k_add_l ea4 e4 (by omega) (fun p5 H5 n5 s5 e5 => ?_)
        walk_at "g"
        refine ⟨p5, pg, _, _, _, rfl, sa.trans (s3.trans (s4.trans s5)), ⟨(sa.trans (s3.trans s4)).free n5, ?_⟩, ?_⟩
        · rw [e5]
          unfold wordsF tS
          rw [List.range_succ, List.flatMap_append, List.map_append]
          simp [lv]
        · rw [s5 _ _ e4]
          rfl
def spLTaste (K : PySem.W.Frag) : Sp := fun vs H Q _ => ∃ (m : Addr) (S : HsD) (cs : List Nat), vs = [.ref m, .str (tx cs)] ∧ MAt K H m S ∧ HsOk S ∧ (∀ c ∈ cs, c ∈ S.ls) ∧ Q (.int (tasteF S cs)) H
theorem ok_Ltaste (F : FnP K "_law_taste" s_Ltaste f fd) (hm : mg "_law_taste" = some (.ref f)) : Callee P w K mg base CX0 "_law_taste" 1 [] (spLTaste K) := by
  refine ⟨f, fd, _, [], F.ok sc_Ltaste (fun vs H Q E h => ?hl) (fun cdv A outer s H vs Q E hr h => ⟨_, PSs.nox (pss_cons (ps_set (i := 2) sc_Ltaste.nd rfl (by first | exact Or.inl rfl | exact Or.inr rfl) pe_int)
      (pss_cons (ps_for PassesOwn.never rfl (pi_str (pv 1)) (pg_name (i := 3) sc_Ltaste.nd rfl (by first | exact Or.inl rfl | exact Or.inr rfl)) (pss_one (ps_set (i := 2) sc_Ltaste.nd rfl (by first | exact Or.inl rfl | exact Or.inr rfl) (pe_ix (ix_k K) (pe_ix (ix_k K) (pe_dget (hu_of hr) (pv 0) pe_str (fun _ _ => rfl)) (pv 2) (fun _ _ => rfl)) (pe_bmK K PySem.F.plainAttrs_str PySem.F.slot_str_index PySem.F.type_str_index mt_sindex (pe_dget (hu_of hr) (pv 0) pe_str (fun _ _ => rfl)) (pa_cons (pv 3) pa_nil)) (fun _ _ => rfl)))))
      (pss_one (ps_ret (pv 2))))), ?rd⟩), hm, F.kp, F.bindsN fun _ _ _ _ _ _ us hl => match us, hl with | [_, _], _ => rfl, .nil⟩
  case hl =>
    obtain ⟨m, S, cs, rfl, _⟩ := h
    rfl
  case rd =>
    obtain ⟨m, S, cs, rfl, hM0, ok, hcs, q⟩ := h
    obtain ⟨tb, ev, R, L, h1, h2, h3, h4, h5, h6, h7⟩ := id hM0
    refine k_start (σ' := [some _, some _, none, none]) rfl ?_
    have t1 := ok.t1
    walk_at "g"
    refine k_nFor (walk_str (z := tx cs)) (fun i σ H' => (∃ y3, σ = [some (.ref m), some (.str (tx cs)), some (.int ((cs.take i).foldl (stepT S) 0)), y3]) ∧ H' = H) ⟨⟨_, rfl⟩, rfl⟩ (fun _ _ _ _ _ => trivial) (fun i x σ Ha Hb hi h hy => ?ht) (fun σ H' h => ?he)
    case he =>
      obtain ⟨⟨y3, rfl⟩, rfl⟩ := h
      have e : (tx cs).cps.size = cs.length := len_tx cs
      rw [e, List.take_length]
      walk_at "g"
      exact q
    case ht =>
      obtain ⟨⟨y3, rfl⟩, rfl⟩ := h
      obtain ⟨rfl, c, hc', rfl⟩ := hy
      have hci : cs[i]? = some c := by rw [← hc']; exact Array.getElem?_toList (xs := cs.toArray)
      have hcl := hcs c (List.mem_of_getElem? hci)
      obtain ⟨b0, b1⟩ := taste_in ok (cs.take i) 0 (Int.le_refl _) (by omega) fun d hd => hcs d (List.mem_of_mem_take hd)
      obtain ⟨row, er, es, _, _⟩ := stepT_ok ok b0 b1 hcl
      rw [take_more hci, List.foldl_append]
      generalize (cs.take i).foldl (stepT S) 0 = here at *
      have er2 := er
      rw [← h4, List.getElem?_map] at er2
      obtain ⟨q0, hq0, rfl⟩ := Option.map_eq_some_iff.mp er2
      walk_at "g"
      refine k_ix_l h2 (v := .ref q0.1) (at_pos b0 (by rw [List.getElem?_map, hq0]; rfl)) ?_
      walk_at "g"
      obtain ⟨rest, eo⟩ := occ_one (pos_ok hcl).1 (pos_ok hcl).2
      refine ⟨tx S.ls, ⟨#[c]⟩, pos c S.ls, rest, rfl, rfl, eo, ?_⟩
      refine k_ix_t (h3 q0 (List.mem_of_getElem? hq0)) (v := .int (stepT S here c)) (at_n (j := pos c S.ls) rfl (by rw [List.getElem?_map, es]; rfl)) ?_
      walk_at "g"
      exact ⟨⟨_, rfl⟩, rfl⟩
def spLCut (K : PySem.W.Frag) : Sp := fun vs H Q _ => ∃ (m : Addr) (S : HsD) (u : List Nat), vs = [.ref m, .str (tx u)] ∧ MAt K H m S ∧ HsOk S ∧ u.length ≤ 1000 ∧ ∀ p H', H p = none → Same H H' → H' p = some (.lst (tS (cutW S u))) → Q (.ref p) H'
theorem ok_Lcut (F : FnP K "_law_cut" s_Lcut f fd) (hm : mg "_law_cut" = some (.ref f)) (f_len : mg "len" = none) : Callee P w K mg base CX0 "_law_cut" 1 [] (spLCut K) := by
  refine ⟨f, fd, _, [], F.ok sc_Lcut (fun vs H Q E h => ?hl) (fun cdv A outer s H vs Q E hr h => ⟨_, PSs.nox (pss_cons (ps_set (i := 2) sc_Lcut.nd rfl (by first | exact Or.inl rfl | exact Or.inr rfl) (pe_lst pa_nil))
      (pss_cons (ps_set (i := 3) sc_Lcut.nd rfl (by first | exact Or.inl rfl | exact Or.inr rfl) (pv 1))
      (pss_cons (ps_while PassesOwn.never (pt_cmpR op_gt (pe_callB (call_lenK K) (by rfl) f_len PySem.boot_len (pa_cons (pv 3) pa_nil)) (pe_dget (hu_of hr) (pv 0) pe_str (fun _ _ => rfl)) (nomark _)) (pss_cons (ps_expr (pe_bmK K PySem.F.plainAttrs_list PySem.F.slot_list_append PySem.F.type_list_append mt_append (pv 2) (pa_cons (pe_slice (sl_k K) (pv 3) po_none (po_some (pe_dget (hu_of hr) (pv 0) pe_str (fun _ _ => rfl)))) pa_nil)))
      (pss_one (ps_set (i := 3) sc_Lcut.nd rfl (by first | exact Or.inl rfl | exact Or.inr rfl) (pe_slice (sl_k K) (pv 3) (po_some (pe_dget (hu_of hr) (pv 0) pe_str (fun _ _ => rfl))) po_none)))))
      (pss_one (ps_ret (pe_op (op_addK K) (pv 2) (pe_lst (pa_cons (pv 3) pa_nil)))))))), ?rd⟩), hm, F.kp, F.bindsN fun _ _ _ _ _ _ us hl => match us, hl with | [_, _], _ => rfl, .nil⟩
  case hl =>
    obtain ⟨m, S, u, rfl, _⟩ := h
    rfl
  case rd =>
    obtain ⟨m, S, u, rfl, hM, ok, lu, q⟩ := h
    refine k_start (σ' := [some _, some _, none, none]) rfl ?_
    have m1 := ok.m1
    have k1 := ok.k1
    have km := ok.km
    walk_at "g"
    refine k_nLst (by walk_at "sz") (fun p1 H1 n1 s1 e1 => ?_)
    walk_at "g"
    refine k_while (fun mm σ H' => ∃ (v : List Nat) (acc : List (List Nat)), σ = [some (.ref m), some (.str (tx u)), some (.ref p1), some (.str (tx v))] ∧ Same H H' ∧ H' p1 = some (.lst (tS acc)) ∧ acc ++ cutW S v = cutW S u ∧ mm = v.length ∧ acc.length + v.length ≤ u.length) ⟨_, u, [], rfl, s1, e1, rfl, rfl, by simp⟩ (fun mm σ H' h => ?hw)
    obtain ⟨v, acc, rfl, sa, ea, hcut, rfl, hl⟩ := h
    have lv := len_tx v
    walk_at "g"
    refine k_len_s (by omega) ?_
    walk_at "g"
    rw [lv]
    refine k_turnD (fun d => k_turnT ?_) (fun d => k_turnF ?_)
    · walk_at "g"
      refine k_sl_s (by omega) ?_
      rw [cutS_to _ _ (by omega)]
      walk_at "g"
      refine k_append ea (by rw [len_tS]; omega) ?_
      have sb : Same H (upd H' p1 (.lst (tS acc ++ [V.str (tx (v.take S.cu.toNat))]))) := sm_mut sa n1
      have eb : (upd H' p1 (.lst (tS acc ++ [V.str (tx (v.take S.cu.toNat))]))) p1 = some (.lst (tS acc ++ [V.str (tx (v.take S.cu.toNat))])) := upd_same
      generalize upd H' p1 (.lst (tS acc ++ [V.str (tx (v.take S.cu.toNat))])) = Hb at sb eb ⊢
      walk_at "g"
      refine k_sl_s (by omega) ?_
      rw [cutS_from _ _ (by omega)]
      walk_at "g"
      have ld : (v.drop S.cu.toNat).length = v.length - S.cu.toNat := List.length_drop
      refine ⟨_, ?_, v.drop S.cu.toNat, acc ++ [v.take S.cu.toNat], rfl, sb, by rw [eb, tS_app]; rfl, by rw [← hcut, cutW_more (u := v) ok (by omega), List.append_assoc]; rfl, rfl, by rw [List.length_append, ld]; show acc.length + 1 + _ ≤ _; omega⟩
      omega
    · walk_at "g"
      refine k_nLst (by walk_at "sz") (fun p2 H2 n2 s2 e2 => ?_)
      refine k_add_l (s2 _ _ ea) e2 (by rw [len_tS]; show _ + 1 ≤ _; omega) (fun p3 H3 n3 s3 e3 => ?_)
      refine q p3 H3 ((sa.trans s2).free n3) ((sa.trans s2).trans s3) ?_
      rw [e3, ← hcut, cutW_last (by omega), tS_app]
      rfl
def restF (b : Bool) (en : List Nat) (i : Nat) : List Nat := if b = true then en.drop i else en.take (en.length - i)
theorem restF_le (b : Bool) (en : List Nat) (i : Nat) : (restF b en i).length = en.length - i := by
  unfold restF
  split
  · rw [List.length_drop]
  · rw [List.length_take]
    omega
def spLGrown (K : PySem.W.Frag) : Sp := fun vs H Q _ => ∃ (m : Addr) (S : HsD) (er en : List Nat) (b : Bool), vs = [.ref m, .str (tx er), .str (tx en), .str (sdS b)] ∧ MAt K H m S ∧ HsOk S ∧ er.length ≤ 1000 ∧ en.length ≤ 1000 ∧ Q (.str (tx (growF S b er en))) H
theorem ok_Lgrown (F : FnP K "_law_grown" s_Lgrown f fd) (hm : mg "_law_grown" = some (.ref f)) (f_len : mg "len" = none) (f_range : mg "range" = none) : Callee P w K mg base CX0 "_law_grown" 1 [] (spLGrown K) := by
  refine ⟨f, fd, _, [], F.ok sc_Lgrown (fun vs H Q E h => ?hl) (fun cdv A outer s H vs Q E hr h => ⟨_, PSs.nox (pss_cons (ps_set (i := 4) sc_Lgrown.nd rfl (by first | exact Or.inl rfl | exact Or.inr rfl) (pv 2))
      (pss_cons (ps_for PassesOwn.never rfl (pi_range1 (by rfl) f_range (pa_cons (pe_dget (hu_of hr) (pv 0) pe_str (fun _ _ => rfl)) pa_nil)) (pg_name (i := 5) sc_Lgrown.nd rfl (by first | exact Or.inl rfl | exact Or.inr rfl)) (pss_one (ps_set (i := 4) sc_Lgrown.nd rfl (by first | exact Or.inl rfl | exact Or.inr rfl) (pe_ifExp (pt_cmpR (op_eqK K hr.units) (pv 3) pe_str (nomark _)) (pe_slice (sl_k K) (pv 4) (po_some pe_int) po_none) (pe_ifExp (pt_cmpR (op_neK K hr.units) (pv 4) pe_str (nomark _)) (pe_slice (sl_k K) (pv 4) po_none (po_some (pe_op op_sub (pe_callB (call_lenK K) (by rfl) f_len PySem.boot_len (pa_cons (pv 4) pa_nil)) pe_int))) pe_str)))))
      (pss_one (ps_ret (pe_ifExp (pt_cmpR (op_eqK K hr.units) (pv 3) pe_str (nomark _)) (pe_op (op_addK K) (pe_op (op_addK K) (pe_dget (hu_of hr) (pv 0) pe_str (fun _ _ => rfl)) (pv 1)) (pv 4)) (pe_op (op_addK K) (pe_op (op_addK K) (pv 4) (pv 1)) (pe_dget (hu_of hr) (pv 0) pe_str (fun _ _ => rfl)))))))), ?rd⟩), hm, F.kp, F.bindsN fun _ _ _ _ _ _ us hl => match us, hl with | [_, _, _, _], _ => rfl, .nil⟩
  case hl =>
    obtain ⟨m, S, er, en, b, rfl, _⟩ := h
    rfl
  case rd =>
    obtain ⟨m, S, er, en, b, rfl, hM, ok, l1, l2, q⟩ := h
    refine k_start (σ' := [some _, some _, some _, some _, none, none]) rfl ?_
    have c0 := ok.c0
    have c2 := ok.c2
    have p2 := ok.p2
    have lp := len_tx S.pt
    have lr := len_tx er
    walk_at "g"
    refine k_nFor walk_range (fun i σ H' => (∃ y5, σ = [some (.ref m), some (.str (tx er)), some (.str (tx en)), some (.str (sdS b)), some (.str (tx (restF b en i))), y5]) ∧ H' = H) ⟨⟨none, by unfold restF; cases b <;> simp⟩, rfl⟩ (fun _ _ _ _ _ => trivial) (fun i x σ Ha Hb hi h hy => ?ht) (fun σ H' h => ?he)
    case ht =>
      obtain ⟨⟨y5, rfl⟩, rfl⟩ := h
      obtain ⟨rfl, rfl⟩ := y_rng hy
      have lf := restF_le b en i
      have lf2 := len_tx (restF b en i)
      walk_at "g"
      rw [sdS_right]
      cases b with
      | true =>
        walk_at "g"
        refine k_sl_s (by omega) ?_
        rw [cutS_from _ _ (by decide)]
        walk_at "g"
        refine ⟨⟨some (.int (i : Nat)), ?_⟩, rfl⟩
        unfold restF
        rw [if_pos rfl, if_pos rfl, List.drop_drop]
        rfl
      | false =>
        walk_at "g"
        rw [tx_nil, tx_eq]
        refine k_dec (fun d => ?_) (fun d => ?_)
        rotate_left
        · have l0 : 0 < (restF false en i).length := List.length_pos_iff.mpr d
          walk_at "g"
          refine k_len_s (by omega) ?_
          walk_at "g"
          refine k_sl_s (by omega) ?_
          rw [lf2, cutS_to _ _ (by omega)]
          walk_at "g"
          refine ⟨⟨some (.int (i : Nat)), ?_⟩, rfl⟩
          have e : ((restF false en i).take (((restF false en i).length : Int) - 1).toNat) = restF false en (i + 1) := by
            rw [lf]
            unfold restF
            rw [if_neg (by decide), if_neg (by decide), List.take_take]
            congr 1
            omega
          rw [e]
          rfl
        · walk_at "g"
          refine ⟨⟨some (.int (i : Nat)), ?_⟩, rfl⟩
          have e : restF false en (i + 1) = [] := List.length_eq_zero_iff.mp (by rw [restF_le]; rw [d] at lf; simp at lf; omega)
          rw [e]
          rfl
    case he =>
      obtain ⟨⟨y5, rfl⟩, rfl⟩ := h
      have lf := restF_le b en S.ch.toNat
      have lf2 := len_tx (restF b en S.ch.toNat)
      walk_at "g"
      rw [sdS_right]
      unfold growF at q
      cases b with
      | true =>
        rw [if_pos rfl] at q
        walk_at "g"
        refine k_add_s (by omega) ?_
        rw [tx_app]
        walk_at "g"
        refine k_add_s (by rw [len_tx, len_tx, List.length_append]; omega) ?_
        rw [tx_app]
        unfold restF
        rw [if_pos rfl]
        exact q
      | false =>
        rw [if_neg (by decide)] at q
        walk_at "g"
        refine k_add_s (by omega) ?_
        rw [tx_app]
        walk_at "g"
        refine k_add_s (by rw [len_tx, len_tx, List.length_append]; omega) ?_
        rw [tx_app]
        unfold restF
        rw [if_neg (by decide)]
        exact q
theorem deep_trL {S : HsD} (ok : HsOk S) {ks : List (List Key)} (h : ks = S.tr) : SeqAt.shaped (.list (ks.map dKeys)) = true := by
  have e7 := ok.e7
  subst h
  refine Good.shaped (j := 3) ⟨by rw [List.length_map]; omega, fun e he => ?_⟩ (by decide)
  obtain ⟨k, hk, rfl⟩ := List.mem_map.mp he
  obtain ⟨s, a, b, rfl, h1, h2, h3, h4⟩ := ok.ev k hk
  have t4 := ok.t4
  have g : ∀ x : Int, 0 ≤ x → x < S.tb.length → x.natAbs.log2 < 1920 := fun x h0 h1 => by
    have := log_nat (k := x.toNat) (by omega)
    rwa [Int.toNat_of_nonneg h0] at this
  refine ⟨by show 3 ≤ 50000; decide, fun e he => ?_⟩
  rcases List.mem_cons.mp he with rfl | he
  · refine ⟨?_, ?_⟩ <;> cases s <;> first | exact pl_B (by decide +kernel) | decide +kernel
  rcases List.mem_cons.mp he with rfl | he
  · exact g a h1 h2
  rcases List.mem_cons.mp he with rfl | he
  · exact g b h3 h4
  cases he
def spLBehind (K : PySem.W.Frag) : Sp := fun vs H Q _ => ∃ (m r : Addr) (S : HsD) (us : List (List Nat)) (place : Int) (z : Str), vs = [.ref m, .ref r, .int place, .str z] ∧ MAt K H m S ∧ HsOk S ∧ SqL K H r (tS us) ∧ AllW S us ∧ us.length ≤ 10000 ∧ ∀ v H', Same H H' → IsOpt H H' v (behS S us place z) → Q v H'
theorem ok_Lbehind (F : FnP K "_law_behind" s_Lbehind f fd) (hm : mg "_law_behind" = some (.ref f)) (f_len : mg "len" = none) (f_min : mg "min" = none) (c_Ltaste : Callee P w K mg base CX0 "_law_taste" 1 [] (spLTaste K)) (c_Lcut : Callee P w K mg base CX0 "_law_cut" 1 [] (spLCut K)) (c_Lgrown : Callee P w K mg base CX0 "_law_grown" 1 [] (spLGrown K)) : Callee P w K mg base CX0 "_law_behind" 2 [] (spLBehind K) := by
  refine ⟨f, fd, _, [], F.ok sc_Lbehind (fun vs H Q E h => ?hl) (fun cdv A outer s H vs Q E hr h => ⟨_, PSs.nox (pss_cons (ps_set (i := 4) sc_Lbehind.nd rfl (by first | exact Or.inl rfl | exact Or.inr rfl) (pe_ifExp (pt_cmpR (op_eqK K hr.units) (pv 3) pe_str (nomark _)) (pe_op (op_addK K) (pv 2) pe_int) (pe_op op_sub (pv 2) pe_int)))
      (pss_cons (ps_if (PW.pt (pw_or (pt_not (pt_chain op_leU op_lt pe_int (pv 2) (pe_callB (call_lenK K) (by rfl) f_len PySem.boot_len (pa_cons (pv 1) pa_nil)))) (pw_or (pt_not (pt_chain op_leU op_lt pe_int (pv 4) (pe_callB (call_lenK K) (by rfl) f_len PySem.boot_len (pa_cons (pv 1) pa_nil)))) (pw_or1 (pt_cmpR (op_niK K) (pv 3) (pe_tup (pa_cons pe_str (pa_cons pe_str pa_nil))) (by rfl)))))) (pss_one (ps_ret pe_non)) pss_nil)
      (pss_cons (ps_if (pt_cmpR (op_niLD K (u65 hr)) (pe_tup (pa_cons (pv 3) (pa_cons (pe_cl c_Ltaste hr (pa_cons (pv 0) (pa_cons (pe_ix (ix_k K) (pv 1) (pv 2) (fun _ _ => rfl)) pa_nil)) pass0) (pa_cons (pe_cl c_Ltaste hr (pa_cons (pv 0) (pa_cons (pe_ix (ix_k K) (pv 1) (pv 4) (fun _ _ => rfl)) pa_nil)) pass0) pa_nil)))) (pe_dget (hu_of hr) (pv 0) pe_str (fun _ _ => rfl)) (by rfl)) (pss_one (ps_ret pe_non)) pss_nil)
      (pss_cons (ps_set (i := 5) sc_Lbehind.nd rfl (by first | exact Or.inl rfl | exact Or.inr rfl) (pe_callB call_minK (by rfl) f_min (by decide +kernel) (pa_cons (pv 2) (pa_cons (pv 4) pa_nil))))
      (pss_cons (ps_set (i := 6) sc_Lbehind.nd rfl (by first | exact Or.inl rfl | exact Or.inr rfl) (pe_op (op_addK K) (pe_op (op_addK K) (pe_slice (sl_k K) (pv 1) po_none (po_some (pv 5))) (pe_cl c_Lcut hr (pa_cons (pv 0) (pa_cons (pe_cl c_Lgrown hr (pa_cons (pv 0) (pa_cons (pe_ix (ix_k K) (pv 1) (pv 2) (fun _ _ => rfl)) (pa_cons (pe_ix (ix_k K) (pv 1) (pv 4) (fun _ _ => rfl)) (pa_cons (pv 3) pa_nil)))) pass0) pa_nil)) pass0)) (pe_slice (sl_k K) (pv 1) (po_some (pe_op (op_addK K) (pv 5) pe_int)) po_none)))
      (pss_one (ps_ret (pe_ifExp (pt_cmpR (op_eqK K hr.units) (pv 6) (pv 1) (nomark _)) pe_non (pv 6))))))))), ?rd⟩), hm, F.kp, F.bindsN fun _ _ _ _ _ _ us hl => match us, hl with | [_, _, _, _], _ => rfl, .nil⟩
  case hl =>
    obtain ⟨m, r, S, us, place, z, rfl, _⟩ := h
    rfl
  case rd =>
    obtain ⟨m, r, S, us, place, z, rfl, hM, ok, hx, hw, lu, q⟩ := h
    refine k_start (σ' := [some _, some _, some _, some _, none, none, none]) rfl ?_
    have lx := len_tS us
    have no : ∀ H', Same H H' → behS S us place z = none → Q .non H' := fun H' s e => q .non H' s (by rw [e]; exact rfl)
    rcases side_of z with ⟨sd, rfl⟩ | hz
    · rw [behS_sd] at no
      simp only [behS_sd] at q
      walk_at "g"
      rw [sdS_right]
      cases sd with
      | false =>
        have out : ¬ (0 ≤ place - 1 ∧ place - 1 + 1 < us.length) → behF S us place false = none := fun h => by
          unfold behF
          by_cases h0 : (0 : Int) ≤ place - 1
          · rw [if_pos (by exact h0)]
            exact biteF_out (by show us.length ≤ (place - 1).toNat + 1; omega)
          · rw [if_neg (by exact h0)]
        walk_at "g"
        refine k_dec (fun d1 => ?_) (fun d1 => ?_)
        rotate_left
        · walk_at "g"
          exact no _ (Same.refl _) (out (by omega))
        walk_at "g"
        rw [lx]
        refine k_dec (fun d2 => ?_) (fun d2 => ?_)
        rotate_left
        · walk_at "g"
          exact no _ (Same.refl _) (out (by omega))
        walk_at "g"
        refine k_dec (fun d3 => ?_) (fun d3 => ?_)
        rotate_left
        · walk_at "g"
          exact no _ (Same.refl _) (out (by omega))
        walk_at "g"
        rw [lx]
        refine k_dec (fun d4 => ?_) (fun d4 => ?_)
        rotate_left
        · walk_at "g"
          exact no _ (Same.refl _) (out (by omega))
        walk_at "g"
        refine k_nTup (by walk_at "sz") (fun p2 H2 n2 s2 e2 => ?_)
        walk_at "g"
        refine k_niT (sq_t e2) rfl rfl (b := false) (by rw [inV_sides]; decide +kernel) ?_
        walk_at "g"
        obtain ⟨low, hlow⟩ : ∃ low : Nat, place - 1 = (low : Int) := ⟨(place - 1).toNat, by omega⟩
        have g1 : us[low]? = some us[low] := List.getElem?_eq_getElem (by omega)
        have g2 : us[low + 1]? = some us[low + 1] := List.getElem?_eq_getElem (by omega)
        have b1 := (hw.len ok) _ (List.getElem_mem (show low < us.length by omega))
        have b2 := (hw.len ok) _ (List.getElem_mem (show low + 1 < us.length by omega))
        generalize us[low] = x at g1 b1
        generalize us[low + 1] = y at g2 b2
        have eF : behF S us place false = if eatsF S false y x = true then (if us.take low ++ madeF S false x y ++ us.drop (low + 2) = us then none else some (us.take low ++ madeF S false x y ++ us.drop (low + 2))) else none := by
          unfold behF
          rw [show (if false = true then place else place - 1) = place - 1 from rfl, if_pos (by omega), show (place - 1).toNat = low by omega, biteF_some g1 g2]
          rfl
        have ix1 : atI (tS us) place = some (.str (tx y)) := at_n (show place = ((low + 1 : Nat) : Int) by omega) (getS g2)
        have ix2 : atI (tS us) (place - 1) = some (.str (tx x)) := at_n (show place - 1 = ((low : Nat) : Int) by omega) (getS g1)
        have hm2 := hM.sm s2
        refine k_ix_l (sm_l s2 hx) ix1 ?_
        walk_at "g"
        refine ⟨m, S, y, rfl, hm2, ok, b2.2.2, ?_⟩
        walk_at "g"
        refine k_ix_l (sm_l s2 hx) ix2 ?_
        walk_at "g"
        refine ⟨m, S, x, rfl, hm2, ok, b1.2.2, ?_⟩
        walk_at "g"
        refine k_nTup (by walk_at "sz") (fun p3 H3 n3 s3 e3 => ?_)
        obtain ⟨tb, ev, R, L, h1, h2, h3, h4, h5, h6, h7⟩ := id (hm2.sm s3)
        walk_at "g"
        have tp := tasteF_in ok (u := y) b2.2.2
        have tq := tasteF_in ok (u := x) b1.2.2
        refine ⟨_, _, dp_keys (k := kEat false (tasteF S y) (tasteF S x)) (sq_t e3), .lst h5 (dp_trs h6), shaped_eat false tp.1 tp.2 tq.1 tq.2, deep_trL ok (by rw [h7]), ?_⟩
        rw [any_keys, h7]
        have hr3 : ∀ (Hx : Hp), Same H3 Hx → SqL K Hx r (tS us) := fun Hx s => sm_l s (sm_l s3 (sm_l s2 hx))
        cases he : eatsF S false y x with
        | false =>
          unfold eatsF at he
          rw [he]
          walk_at "g"
          refine no _ (s2.trans s3) ?_
          rw [eF]
          unfold eatsF
          rw [he]
          rfl
        | true =>
          rw [he, if_pos rfl] at eF
          unfold eatsF at he
          rw [he]
          walk_at "g"
          rw [show min place (place - 1) = (low : Int) by omega]
          walk_at "g"
          refine k_sl_l (hr3 _ (Same.refl _)) (fun p4 H4 n4 s4 e4 => ?_)
          rw [cutV_to, tS_take] at e4
          walk_at "g"
          refine k_ix_l (hr3 _ s4) ix1 ?_
          walk_at "g"
          refine k_ix_l (hr3 _ s4) ix2 ?_
          walk_at "g"
          refine ⟨m, S, y, x, false, rfl, hm2.sm (s3.trans s4), ok, by omega, by omega, ?_⟩
          walk_at "g"
          have lg := growF_len S false y x
          have p2 := ok.p2
          refine ⟨m, S, growF S false y x, rfl, hm2.sm (s3.trans s4), ok, by omega, fun p5 H5 n5 s5 e5 => ?_⟩
          have cw := cutW_words ok _ (growF S false y x) (Nat.le_refl _) (by omega) (growF_in ok b2.2.2 b1.2.2)
          refine k_add_l (s5 _ _ e4) e5 (by rw [len_tS, len_tS, List.length_take]; omega) (fun p6 H6 n6 s6 e6 => ?_)
          walk_at "g"
          refine k_sl_l (hr3 _ (s4.trans (s5.trans s6))) (fun p7 H7 n7 s7 e7 => ?_)
          rw [cutV_fromI _ _ (by omega), show ((low : Int) + 2).toNat = low + 2 by omega, tS_drop] at e7
          refine k_add_l (s7 _ _ e6) e7 (by rw [List.length_append, len_tS, len_tS, len_tS, List.length_take, List.length_drop]; omega) (fun p8 H8 n8 s8 e8 => ?_)
          rw [← tS_app, ← tS_app, show cutW S (growF S false y x) = madeF S false x y from rfl] at e8
          have s38 := s4.trans (s5.trans (s6.trans (s7.trans s8)))
          have sH8 : Same H H8 := (s2.trans s3).trans s38
          have n8' : H p8 = none := (s2.trans (s3.trans (s4.trans (s5.trans (s6.trans s7))))).free n8
          walk_at "g"
          refine row_eq ok hw (by omega) (made_in ok hw (by omega) cw.1) (by rw [List.length_append, List.length_append, List.length_take, List.length_drop]; have := cw.2; show _ + (cutW S (growF S false y x)).length + _ ≤ 20000; omega) (sq_l e8) (hr3 _ s38) ?_
          walk_at "g"
          refine k_dec (fun d => ?_) (fun d => ?_)
          · rw [if_pos (show us.take low ++ madeF S false x y ++ us.drop (low + 2) = us from d)] at eF
            walk_at "g"
            exact no _ sH8 eF
          · rw [if_neg (show ¬ us.take low ++ madeF S false x y ++ us.drop (low + 2) = us from d)] at eF
            walk_at "g"
            exact q _ _ sH8 (by rw [eF]; exact ⟨p8, rfl, n8', e8⟩)
      | true =>
        have out : ¬ (0 ≤ place ∧ place + 1 < us.length) → behF S us place true = none := fun h => by
          unfold behF
          by_cases h0 : (0 : Int) ≤ place
          · rw [if_pos (by exact h0)]
            exact biteF_out (by show us.length ≤ (place).toNat + 1; omega)
          · rw [if_neg (by exact h0)]
        walk_at "g"
        refine k_dec (fun d1 => ?_) (fun d1 => ?_)
        rotate_left
        · walk_at "g"
          exact no _ (Same.refl _) (out (by omega))
        walk_at "g"
        rw [lx]
        refine k_dec (fun d2 => ?_) (fun d2 => ?_)
        rotate_left
        · walk_at "g"
          exact no _ (Same.refl _) (out (by omega))
        walk_at "g"
        refine k_dec (fun d3 => ?_) (fun d3 => ?_)
        rotate_left
        · walk_at "g"
          exact no _ (Same.refl _) (out (by omega))
        walk_at "g"
        rw [lx]
        refine k_dec (fun d4 => ?_) (fun d4 => ?_)
        rotate_left
        · walk_at "g"
          exact no _ (Same.refl _) (out (by omega))
        walk_at "g"
        refine k_nTup (by walk_at "sz") (fun p2 H2 n2 s2 e2 => ?_)
        walk_at "g"
        refine k_niT (sq_t e2) rfl rfl (b := false) (by rw [inV_sides]; decide +kernel) ?_
        walk_at "g"
        obtain ⟨low, hlow⟩ : ∃ low : Nat, place = (low : Int) := ⟨(place).toNat, by omega⟩
        have g1 : us[low]? = some us[low] := List.getElem?_eq_getElem (by omega)
        have g2 : us[low + 1]? = some us[low + 1] := List.getElem?_eq_getElem (by omega)
        have b1 := (hw.len ok) _ (List.getElem_mem (show low < us.length by omega))
        have b2 := (hw.len ok) _ (List.getElem_mem (show low + 1 < us.length by omega))
        generalize us[low] = x at g1 b1
        generalize us[low + 1] = y at g2 b2
        have eF : behF S us place true = if eatsF S true x y = true then (if us.take low ++ madeF S true x y ++ us.drop (low + 2) = us then none else some (us.take low ++ madeF S true x y ++ us.drop (low + 2))) else none := by
          unfold behF
          rw [show (if true = true then place else place - 1) = place from rfl, if_pos (by omega), show (place).toNat = low by omega, biteF_some g1 g2]
          rfl
        have ix1 : atI (tS us) place = some (.str (tx x)) := at_n (show place = ((low : Nat) : Int) by omega) (getS g1)
        have ix2 : atI (tS us) (place + 1) = some (.str (tx y)) := at_n (show place + 1 = ((low + 1 : Nat) : Int) by omega) (getS g2)
        have hm2 := hM.sm s2
        refine k_ix_l (sm_l s2 hx) ix1 ?_
        walk_at "g"
        refine ⟨m, S, x, rfl, hm2, ok, b1.2.2, ?_⟩
        walk_at "g"
        refine k_ix_l (sm_l s2 hx) ix2 ?_
        walk_at "g"
        refine ⟨m, S, y, rfl, hm2, ok, b2.2.2, ?_⟩
        walk_at "g"
        refine k_nTup (by walk_at "sz") (fun p3 H3 n3 s3 e3 => ?_)
        obtain ⟨tb, ev, R, L, h1, h2, h3, h4, h5, h6, h7⟩ := id (hm2.sm s3)
        walk_at "g"
        have tp := tasteF_in ok (u := x) b1.2.2
        have tq := tasteF_in ok (u := y) b2.2.2
        refine ⟨_, _, dp_keys (k := kEat true (tasteF S x) (tasteF S y)) (sq_t e3), .lst h5 (dp_trs h6), shaped_eat true tp.1 tp.2 tq.1 tq.2, deep_trL ok (by rw [h7]), ?_⟩
        rw [any_keys, h7]
        have hr3 : ∀ (Hx : Hp), Same H3 Hx → SqL K Hx r (tS us) := fun Hx s => sm_l s (sm_l s3 (sm_l s2 hx))
        cases he : eatsF S true x y with
        | false =>
          unfold eatsF at he
          rw [he]
          walk_at "g"
          refine no _ (s2.trans s3) ?_
          rw [eF]
          unfold eatsF
          rw [he]
          rfl
        | true =>
          rw [he, if_pos rfl] at eF
          unfold eatsF at he
          rw [he]
          walk_at "g"
          rw [show min place (place + 1) = (low : Int) by omega]
          walk_at "g"
          refine k_sl_l (hr3 _ (Same.refl _)) (fun p4 H4 n4 s4 e4 => ?_)
          rw [cutV_to, tS_take] at e4
          walk_at "g"
          refine k_ix_l (hr3 _ s4) ix1 ?_
          walk_at "g"
          refine k_ix_l (hr3 _ s4) ix2 ?_
          walk_at "g"
          refine ⟨m, S, x, y, true, rfl, hm2.sm (s3.trans s4), ok, by omega, by omega, ?_⟩
          walk_at "g"
          have lg := growF_len S true x y
          have p2 := ok.p2
          refine ⟨m, S, growF S true x y, rfl, hm2.sm (s3.trans s4), ok, by omega, fun p5 H5 n5 s5 e5 => ?_⟩
          have cw := cutW_words ok _ (growF S true x y) (Nat.le_refl _) (by omega) (growF_in ok b1.2.2 b2.2.2)
          refine k_add_l (s5 _ _ e4) e5 (by rw [len_tS, len_tS, List.length_take]; omega) (fun p6 H6 n6 s6 e6 => ?_)
          walk_at "g"
          refine k_sl_l (hr3 _ (s4.trans (s5.trans s6))) (fun p7 H7 n7 s7 e7 => ?_)
          rw [cutV_fromI _ _ (by omega), show ((low : Int) + 2).toNat = low + 2 by omega, tS_drop] at e7
          refine k_add_l (s7 _ _ e6) e7 (by rw [List.length_append, len_tS, len_tS, len_tS, List.length_take, List.length_drop]; omega) (fun p8 H8 n8 s8 e8 => ?_)
          rw [← tS_app, ← tS_app, show cutW S (growF S true x y) = madeF S true x y from rfl] at e8
          have s38 := s4.trans (s5.trans (s6.trans (s7.trans s8)))
          have sH8 : Same H H8 := (s2.trans s3).trans s38
          have n8' : H p8 = none := (s2.trans (s3.trans (s4.trans (s5.trans (s6.trans s7))))).free n8
          walk_at "g"
          refine row_eq ok hw (by omega) (made_in ok hw (by omega) cw.1) (by rw [List.length_append, List.length_append, List.length_take, List.length_drop]; have := cw.2; show _ + (cutW S (growF S true x y)).length + _ ≤ 20000; omega) (sq_l e8) (hr3 _ s38) ?_
          walk_at "g"
          refine k_dec (fun d => ?_) (fun d => ?_)
          · rw [if_pos (show us.take low ++ madeF S true x y ++ us.drop (low + 2) = us from d)] at eF
            walk_at "g"
            exact no _ sH8 eF
          · rw [if_neg (show ¬ us.take low ++ madeF S true x y ++ us.drop (low + 2) = us from d)] at eF
            walk_at "g"
            exact q _ _ sH8 (by rw [eF]; exact ⟨p8, rfl, n8', e8⟩)
    · have no := fun H' s => no H' s (behS_no hz)
      walk_at "g"
      rw [decide_eq_false hz.2]
      walk_at "g"
      refine k_dec (fun d1 => ?_) (fun d1 => ?_)
      rotate_left
      · walk_at "g"
        exact no _ (Same.refl _)
      walk_at "g"
      rw [lx]
      refine k_dec (fun d2 => ?_) (fun d2 => ?_)
      rotate_left
      · walk_at "g"
        exact no _ (Same.refl _)
      walk_at "g"
      refine k_dec (fun d3 => ?_) (fun d3 => ?_)
      rotate_left
      · walk_at "g"
        exact no _ (Same.refl _)
      walk_at "g"
      rw [lx]
      refine k_dec (fun d4 => ?_) (fun d4 => ?_)
      rotate_left
      · walk_at "g"
        exact no _ (Same.refl _)
      walk_at "g"
      refine k_nTup (by walk_at "sz") (fun p2 H2 n2 s2 e2 => ?_)
      walk_at "g"
      refine k_niT (sq_t e2) rfl rfl (b := true) (by rw [inV_sides, decide_eq_false hz.1, decide_eq_false hz.2]; rfl) ?_
      walk_at "g"
      exact no _ s2
def spLBites (K : PySem.W.Frag) : Sp := fun vs H Q _ => ∃ (m r : Addr) (S : HsD) (us : List (List Nat)), vs = [.ref m, .ref r] ∧ MAt K H m S ∧ HsOk S ∧ SqL K H r (tS us) ∧ AllW S us ∧ us.length ≤ 10000 ∧ ∀ p ws H', H p = none → Same H H' → H' p = some (.lst ws) → DpAll K H' ws ((bitesF S us).map dB1) → Q (.ref p) H'
theorem ok_Lbites (F : FnP K "_law_bites" s_Lbites f fd) (hm : mg "_law_bites" = some (.ref f)) (f_len : mg "len" = none) (f_range : mg "range" = none) (c_Lbehind : Callee P w K mg base CX0 "_law_behind" 2 [] (spLBehind K)) : Callee P w K mg base CX0 "_law_bites" 3 [] (spLBites K) := by
  refine ⟨f, fd, _, [], F.ok sc_Lbites (fun vs H Q E h => ?hl) (fun cdv A outer s H vs Q E hr h => ⟨_, PSs.nox (pss_cons (ps_set (i := 2) sc_Lbites.nd rfl (by first | exact Or.inl rfl | exact Or.inr rfl) (pe_lst pa_nil))
      (pss_cons (ps_for PassesOwn.never rfl (pi_range1 (by rfl) f_range (pa_cons (pe_callB (call_lenK K) (by rfl) f_len PySem.boot_len (pa_cons (pv 1) pa_nil)) pa_nil)) (pg_name (i := 3) sc_Lbites.nd rfl (by first | exact Or.inl rfl | exact Or.inr rfl)) (pss_one (ps_set (i := 2) sc_Lbites.nd rfl (by first | exact Or.inl rfl | exact Or.inr rfl) (pe_op (op_addK K) (pv 2) (pe_lc (own := [("_law_edge", 4)]) rfl sc_Lbites.nd (pi_tupK K (pe_tup (pa_cons pe_str (pa_cons pe_str pa_nil)))) (blkOk_by (N := ["_law_m", "_law_row", "_law_found", "_law_place", "_law_edge"]) (sc := defScope s_Lbites) (by decide +kernel)) (fun _ _ _ _ _ => (pg_name (i := 4) sc_Lbites.nd rfl (by first | exact Or.inl rfl | exact Or.inr rfl))) (fun _ _ _ _ _ => (pts_one (pt_cmpR op_notN1 (pe_cl c_Lbehind hr (pa_cons (pv 0) (pa_cons (pv 1) (pa_cons (pv 3) (pa_cons (pv 4) pa_nil)))) pass0) pe_non (nomark _)))) (fun _ _ _ _ _ => (pe_tup (pa_cons (pv 3) (pa_cons (pv 4) pa_nil)))))))))
      (pss_one (ps_ret (pv 2))))), ?rd⟩), hm, F.kp, F.bindsN fun _ _ _ _ _ _ us hl => match us, hl with | [_, _], _ => rfl, .nil⟩
  case hl =>
    obtain ⟨m, r, S, us, rfl, _⟩ := h
    rfl
  case rd =>
    obtain ⟨m, r, S, us, rfl, hM, ok, hx, hw, lu, q⟩ := h
    refine k_start (σ' := [some _, some _, none, none, none]) rfl ?_
    have lx := len_tS us
    walk_at "g"
    refine k_nLst (by walk_at "sz") (fun p1 H1 n1 s1 e1 => ?_)
    walk_at "g"
    rw [lx]
    walk_at "g"
    refine k_nFor walk_range (fun i σ H' => (∃ p3 y3 ws, σ = [some (.ref m), some (.ref r), some (.ref p3), y3, none] ∧ H p3 = none ∧ H' p3 = some (.lst ws) ∧ DpAll K H' ws ((bitesTo S us i 0).map dB1)) ∧ Same H H') ⟨⟨p1, _, [], rfl, n1, e1, .nil⟩, s1⟩ (fun _ _ _ _ _ => trivial) (fun i x σ Ha Hb hi h hy => ?ht) (fun σ H' h => ?he)
    case he =>
      obtain ⟨⟨p3, y3, ws, rfl, np, ea, da⟩, sa⟩ := h
      walk_at "g"
      exact q p3 ws _ np sa ea (by rw [← bitesTo_all]; simpa using da)
    case ht =>
      obtain ⟨⟨p3, y3, ws, rfl, np, ea, da⟩, sa⟩ := h
      obtain ⟨rfl, rfl⟩ := y_rng hy
      have lw := dpall_len da
      rw [List.length_map] at lw
      have bl := bitesTo_len S us i 0
      walk_at "g"
      refine k_nTup (by walk_at "sz") (fun p2 H2 n2 s2 e2 => ?_)
      walk_at "g"
      refine k_nLcD (walk_tup (xs := [V.str (Str.ofString "left"), V.str (Str.ofString "right")])) (fun H' s => sq_t (s _ _ e2)) (fun j zs H1 => ∃ xs : List (Bt × List (List Nat)), DpAll K H1 zs (xs.map dB1) ∧ bitesTo S us i 0 ++ xs = bitesTo S us i j ∧ xs.length ≤ j) (fun j zs Ha Hb s h => ?hm) ⟨[], .nil, by simp, Nat.le_refl _⟩ (fun j zs H1 hj h => ?hz) (fun j x p Hc Hd zs Kp Ks hj hp sc ec hzs hy hKp hKs => ?ht2) (fun p Hc zs hp sc ec hzs => ?he2)
      case hm =>
        obtain ⟨xs, h1, h2⟩ := h
        exact ⟨xs, dpall_sm s h1, h2⟩
      case hz =>
        obtain ⟨xs, h1, h2, h3⟩ := h
        have := dpall_len h1
        rw [List.length_map] at this
        have : j ≤ 2 := hj
        omega
      case ht2 =>
        obtain ⟨rfl, hv⟩ := hy
        obtain ⟨b, hb, rfl⟩ : ∃ b, [false, true][j]? = some b ∧ x = .str (sdS b) := by
          have : j = 0 ∨ j = 1 := by
            have : j < 2 := hj
            omega
          rcases this with rfl | rfl <;> cases hv
          · exact ⟨false, rfl, rfl⟩
          · exact ⟨true, rfl, rfl⟩
        obtain ⟨xs, hx1, hx2, hx3⟩ := hzs
        have hn := bitesTo_next (S := S) (us := us) (i := i) hb
        walk_at "g"
        refine ⟨rfl, ?_⟩
        walk_at "g"
        refine ⟨m, r, S, us, (i : Nat), sdS b, rfl, by walk_at "ms", ok, by walk_at "sq", hw, lu, fun v H3 s3 hv3 => ?_⟩
        rw [behS_sd] at hv3
        cases eb : behF S us (i : Nat) b with
        | none =>
          rw [eb] at hv3 hn
          cases (show v = .non from hv3)
          walk_at "g"
          exact hKs _ s3 ⟨xs, dpall_sm (del_mono s3) hx1, by rw [hn]; exact hx2, by omega⟩
        | some mm =>
          rw [eb] at hv3 hn
          obtain ⟨pm, rfl, nm, em⟩ := hv3
          walk_at "g"
          refine k_nTup (by walk_at "sz") (fun p4 H4 n4 s4 e4 => ?_)
          refine hKp _ _ (s3.trans s4) ⟨xs ++ [((i, b), mm)], ?_, ?_, by rw [List.length_append]; exact Nat.succ_le_succ hx3⟩
          · rw [List.map_append]
            exact dpall_app (dpall_sm (del_mono (s3.trans s4)) hx1) (.tup (del_t ((s3.trans s4) _ _ ec) (sq_t e4)) (.cons (.int _) (.cons (.str _) .nil)))
          · rw [hn, ← hx2]
            exact (List.append_assoc ..).symm
      case he2 =>
        obtain ⟨xs, hx1, hx2, hx3⟩ := hzs
        have hx3 : xs.length ≤ 2 := hx3
        have hx2 : bitesTo S us i 0 ++ xs = bitesTo S us i 2 := hx2
        have lz := dpall_len hx1
        rw [List.length_map] at lz
        have eac := (s2.trans sc) _ _ ea
        refine k_add_l eac ec (by omega) (fun p5 H5 n5 s5 e5 => ?_)
        walk_at "g"
        refine ⟨⟨p5, _, ws ++ zs, rfl, (sa.trans (s2.trans sc)).free n5, e5, ?_⟩, sa.trans (s2.trans (sc.trans s5))⟩
        rw [← bitesTo_two, ← hx2, List.map_append]
        exact dpall_apps (dpall_sm (s2.trans (sc.trans s5)) da) (dpall_sm s5 hx1)
end
end Lw
set_option autoImplicit true
set_option pp.maxSteps 1200
set_option Elab.async false
set_option linter.all false
set_option maxRecDepth 100000
set_option maxHeartbeats 1000000
namespace Lw
open PySem PySem.Spec PyProof.Rows L2 Gk

local macro_rules | `(tactic| walk_at "hp") => `(tactic| first | assumption | exact upd_same | (refine' (upd_ne ?n).trans ?h; (case n => assumption); (case h => walk_at "hp")) | (refine' sm_get ?s ?h; (case s => assumption); (case h => walk_at "hp")))
local macro_rules | `(tactic| walk_at "sq") => `(tactic| first | assumption | (refine' sq_l ?h; (case h => walk_at "hp")) | (refine' sm_l ?s ?h; (case s => assumption); (case h => walk_at "sq")))
local macro_rules | `(tactic| walk_at "st") => `(tactic| first | assumption | (refine' sq_t ?h; (case h => walk_at "hp")) | (refine' sm_t ?s ?h; (case s => assumption); (case h => walk_at "st")))
local macro_rules | `(tactic| walk_at "bg") => `(tactic| first | assumption | (refine' BagOk.sm ?s ?h; (case s => assumption); (case h => walk_at "bg")))
local macro_rules | `(tactic| walk_at "sm") => `(tactic| first | assumption | exact Same.refl _ | (refine' Same.trans ?h ?s; (case s => assumption); (case h => walk_at "sm")))
local macro_rules | `(tactic| walk_at "hs") => `(tactic| first | assumption | (refine' HsAt.sm ?s ?h; (case s => assumption); (case h => walk_at "hs")))
local macro_rules | `(tactic| walk_at "ms") => `(tactic| first | assumption | (refine' MAt.sm ?s ?h; (case s => assumption); (case h => walk_at "ms")))
local macro_rules | `(tactic| walk_at "md") => `(tactic| first | assumption | (refine' MDk.sm ?s ?h; (case s => assumption); (case h => walk_at "md")))
local macro_rules | `(tactic| walk_at "dp") => `(tactic| first | assumption | (refine' dp_sm ?s ?h; (case s => assumption); (case h => walk_at "dp")))
local macro_rules | `(tactic| walk_at "sz") => `(tactic| first | decide | assumption | omega | (simp only [List.length_cons, List.length_nil, List.length_map, List.length_append]; omega))
local macro_rules | `(tactic| walk_at "g1") => `(tactic| first
  | with_reducible refine k_seq ?_
  | with_reducible refine k_itB ?_
  | with_reducible refine k_next ?_
  | with_reducible refine k_asg ?_
  | with_reducible refine k_name ?_
  | with_reducible refine k_ret ?_
  | with_reducible refine k_retN ?_
  | with_reducible refine k_drop ?_
  | with_reducible refine k_ifs ?_
  | with_reducible refine k_brk ?_
  | with_reducible refine k_cont ?_
  | with_reducible refine k_ipI ?_
  | with_reducible refine k_test ?_
  | with_reducible refine k_tB ?_
  | with_reducible refine k_bl ?_
  | with_reducible refine k_not ?_
  | with_reducible refine k_and ?_
  | with_reducible refine k_or ?_
  | with_reducible refine k_yes ?_
  | with_reducible refine k_true ?_
  | with_reducible refine k_false ?_
  | with_reducible refine k_nt ?_
  | with_reducible refine k_c ?_
  | with_reducible refine k_op ?_
  | with_reducible refine k_un ?_
  | with_reducible refine k_if ?_
  | with_reducible refine k_chain ?_
  | with_reducible refine k_nil ?_
  | with_reducible refine k_cons ?_
  | with_reducible refine k_cb ?_
  | with_reducible refine k_call ?_
  | with_reducible refine k_callS ?_
  | with_reducible refine k_andV ?_
  | with_reducible refine k_orV ?_
  | with_reducible refine k_notV ?_
  | with_reducible refine k_lst ?_
  | with_reducible refine k_tup ?_
  | with_reducible refine k_nopart ?_
  | with_reducible refine k_part ?_
  | with_reducible refine k_nInt ?_
  | with_reducible refine k_sl ?_
  | with_reducible refine k_bm ?_
  | with_reducible refine k_bm0 ?_
  | with_reducible refine k_nTyS ?_
  | with_reducible refine k_m1 ?_
  | with_reducible refine k_m0 ?_
  | with_reducible refine k_nStr ?_
  | with_reducible refine k_I0 ?_
  | with_reducible refine k_U ?_
  | with_reducible refine k_add_i ?_
  | with_reducible refine k_eq_i ?_
  | with_reducible refine k_eq_s ?_
  | with_reducible refine k_eq_b ?_
  | with_reducible refine k_ne_i ?_
  | with_reducible refine k_ne_s ?_
  | with_reducible refine k_ne_b ?_
  | with_reducible refine k_le_i ?_
  | with_reducible refine k_le_s ?_
  | with_reducible refine k_gnil ?_
  | with_reducible refine k_gcons ?_
  | with_reducible refine k_gsub ?_
  | with_reducible refine k_for ?_
  | with_reducible refine k_lc ?_
  | with_reducible refine k_rng1 ?_
  | with_reducible refine k_rng2 ?_
  | with_reducible refine k_itl ?_
  | with_reducible refine k_itt ?_
  | with_reducible refine k_its ?_
  | with_reducible refine k_ite ?_
  | with_reducible refine k_iteB ?_
  | with_reducible refine k_lrg2 ?_
  | with_reducible refine k_itz ?_
  | with_reducible refine k_nIts ?_
  | with_reducible refine k_inS ?_
  | with_reducible refine k_niS ?_
  | with_reducible refine k_mk ?_
  | with_reducible refine k_meth ?_
  | with_reducible refine k_fld ?_
  | with_reducible refine k_sfld ?_
  | with_reducible refine k_dg ?_
  | with_reducible refine k_dp ?_
  | with_reducible refine k_pr ?_
  | with_reducible refine k_pr0 ?_
  | with_reducible refine k_sg ?_
  | with_reducible refine k_lc2 ?_
  | with_reducible refine k_callN ?_
  | with_reducible refine k_callNS ?_
  | with_reducible refine k_par ?_
  | with_reducible refine k_nPar ?_
  | with_reducible refine k_isNn ?_
  | with_reducible refine k_isNr ?_
  | with_reducible refine k_ntNn ?_
  | with_reducible refine k_ntNr ?_
  | with_reducible refine k_min2 ?_
  | with_reducible refine k_max2 ?_
  | with_reducible refine k_intB ?_
  | with_reducible refine k_intI ?_
  | with_reducible refine k_isBl ?_
  | with_reducible refine k_ntBl ?_
  | ((with_reducible refine' k_var ?kv ?_); (case kv => exact rfl))
  | ((with_reducible refine' k_aug ?kv ?_); (case kv => exact rfl))
  | ((with_reducible refine' k_ix_l ?ks ?ki ?_); (case ks => walk_at "sq"); (case ki => exact rfl))
  | ((with_reducible refine' k_ix_t ?ks ?ki ?_); (case ks => walk_at "st"); (case ki => exact rfl))
  | ((with_reducible refine' k_len_l ?ks ?_); (case ks => walk_at "sq"))
  | ((with_reducible refine' k_len_t ?ks ?_); (case ks => walk_at "st"))
  | ((with_reducible refine' k_setL ?ks ?ki ?_); (case ks => walk_at "hp"); (case ki => exact rfl))
  | ((with_reducible refine' k_nTyL ?ks ?_); (case ks => walk_at "sq"))
  | ((with_reducible refine' k_nItl ?ks ?_); (case ks => walk_at "sq"))
  | ((with_reducible refine' k_nItt ?ks ?_); (case ks => walk_at "st"))
  | ((with_reducible refine' k_nIte ?ks ?_); (case ks => walk_at "sq"))
  | ((with_reducible refine' k_mul ?km ?_); (case km => first | exact Or.inr ⟨by decide, by decide⟩ | exact Or.inl ⟨by decide, by decide⟩))
  | ((with_reducible refine' k_I ?km ?_); (case km => first | assumption | decide | exact ⟨by decide, by decide +kernel⟩ | exact ⟨by decide, by decide, by decide⟩))
  | ((with_reducible refine' k_nMeth ?kp ?kl ?_); (case kp => walk_at "hp"); (case kl => exact rfl))
  | ((with_reducible refine' k_nFld ?kp ?kc ?kn ?kl ?_); (case kp => walk_at "hp"); (case kc => assumption); (case kn => assumption); (case kl => exact rfl))
  | ((with_reducible refine' k_nSFld ?kp ?kc ?kn ?kl ?_); (case kp => walk_at "hp"); (case kc => assumption); (case kn => assumption); (case kl => exact of_decide_eq_true rfl))
  | ((with_reducible refine' k_nDg ?kp ?kl ?_); (case kp => walk_at "hp"); (case kl => exact rfl))
  | ((with_reducible refine' k_nRng1 ?k1 ?k2 ?_); (case k1 => omega); (case k2 => omega))
  | ((with_reducible refine' k_nKw ?k1 ?k2 ?_); (case k1 => exact rfl); (case k2 => exact rfl))
  | ((with_reducible refine' k_hsm ?kh ?_); (case kh => walk_at "hs"))
  | ((with_reducible refine' k_nMethH ?kh ?kl ?_); (case kh => walk_at "hs"); (case kl => exact fun _ _ => rfl))
  | ((with_reducible refine' k_mLet ?kh ?_); (case kh => walk_at "ms"))
  | ((with_reducible refine' k_mChew ?kh ?_); (case kh => walk_at "ms"))
  | ((with_reducible refine' k_mPut ?kh ?_); (case kh => walk_at "ms"))
  | ((with_reducible refine' k_mMost ?kh ?_); (case kh => walk_at "ms"))
  | ((with_reducible refine' k_mCut ?kh ?_); (case kh => walk_at "ms"))
  | ((with_reducible refine' k_mTab ?kh ?_); (case kh => walk_at "md"))
  | ((with_reducible refine' k_mEats ?kh ?_); (case kh => walk_at "md"))
  | ((with_reducible refine' k_gtup ?ks ?kl ?_); (case ks => walk_at "st"); (case kl => exact rfl)))
local macro_rules | `(tactic| walk_at "g") => `(tactic| repeat (walk_at "g1"))
local macro_rules | `(tactic| walk_at "w1") => `(tactic| first
  | walk_at "g1"
  | ((with_reducible refine' k_decT ?kp ?_); (case kp => omega))
  | ((with_reducible refine' k_decF ?kp ?_); (case kp => omega))
  | ((with_reducible refine' k_decNT ?kp ?_); (case kp => omega))
  | ((with_reducible refine' k_decNF ?kp ?_); (case kp => omega)))
local macro_rules | `(tactic| walk_at "w") => `(tactic| repeat (walk_at "w1"))


section
variable {P : Program} {w : World} {K : PySem.W.Frag} {mg : Str → Option Value} {base : Heap} {f : Addr} {fd : FuncData}
/-! ### the law's own runs -/
def isLstO : Ord → Bool
  | .nm _ => false
  | .nums _ => true
theorem k_isiOL {H : Hp} {Q : VK} {v : V} {o : Ord} (h : OrdAt K H v o) (q : Q (.bl (isLstO o)) H) : rIsiU K [v, .ty "list"] H Q := k_isiL h.dp (by cases o <;> exact q)
def spLGone (K : PySem.W.Frag) : Sp := fun vs H Q _ => ∃ (m r : Addr) (v : V) (S : HsD) (us : List (List Nat)) (o : Ord) (most : Nat), vs = [.ref m, .ref r, v, .int (most : Nat)] ∧ MAt K H m S ∧ HsOk S ∧ SqL K H r (tS us) ∧ AllW S us ∧ OrdAt K H v o ∧ OrdFit o ∧ isOrd o = true ∧ us.length + 8 * most ≤ 10000 ∧
  ∀ T p ps ws H', H T = none → Same H H' → H' T = some (.tup [.ref p, .ref ps]) → H p = none → H ps = none → ps ≠ p → H' p = some (.lst (tS (runF S o (boundF o most) 0 us).1)) → H' ps = some (.lst ws) → DpAll K H' ws ((runF S o (boundF o most) 0 us).2.map dBt) → Q (.ref T) H'
theorem k_b1Nil {S : HsD} {us : List (List Nat)} {H : Hp} {Q : VK} {p b : Addr} {ws : List V} (lu : us.length ≤ 10000) (h1 : SqL K H p ws) (d1 : DpAll K H ws ((bitesF S us).map dB1)) (h2 : SqL K H b []) (h : Q (.bl (decide (bitesF S us = []))) H) : rEqU K (.ref p) (.ref b) H Q := by
  refine k_eq_d (.lst h1 d1) (.lst h2 .nil) ((good_bts lu 0).shaped (by decide)) (by decide) ?_
  rw [eqv_nil, show decide ((bitesF S us).map dB1 = []) = decide (bitesF S us = []) by cases bitesF S us <;> rfl]
  exact h
theorem ok_Lgone (F : FnP K "_law_gone" s_Lgone f fd) (hm : mg "_law_gone" = some (.ref f)) (f_len : mg "len" = none) (f_min : mg "min" = none) (f_max : mg "max" = none) (f_isinstance : mg "isinstance" = none) (f_list : mg "list" = none) (f_range : mg "range" = none) (f_int : mg "int" = none) (c_Lbites : Callee P w K mg base CX0 "_law_bites" 3 [] (spLBites K)) (c_Lbehind : Callee P w K mg base CX0 "_law_behind" 2 [] (spLBehind K)) : Callee P w K mg base CX0 "_law_gone" 4 [] (spLGone K) := by
  refine ⟨f, fd, _, [], F.ok sc_Lgone (fun vs H Q E h => ?hl) (fun cdv A outer s H vs Q E hr h => ⟨_, PSs.nox (pss_cons (ps_set (i := 4) sc_Lgone.nd rfl (by first | exact Or.inl rfl | exact Or.inr rfl) (pe_callTy (call_listK K) (by rfl) f_list (by decide +kernel) (pa_cons (pv 1) pa_nil)))
      (pss_cons (ps_set (i := 5) sc_Lgone.nd rfl (by first | exact Or.inl rfl | exact Or.inr rfl) (pe_lst pa_nil))
      (pss_cons (ps_set (i := 6) sc_Lgone.nd rfl (by first | exact Or.inl rfl | exact Or.inr rfl) (pe_ifExp (pt_val (pe_callB (call_isiK K) (by rfl) f_isinstance (by decide +kernel) (pa_cons (pv 2) (pa_cons (pe_bltn (v := .ty "list") (by rfl) f_list (by decide +kernel) rfl) pa_nil)))) (pe_callB call_minK (by rfl) f_min (by decide +kernel) (pa_cons (pv 3) (pa_cons (pe_callB (call_lenK K) (by rfl) f_len PySem.boot_len (pa_cons (pv 2) pa_nil)) pa_nil))) (pv 3)))
      (pss_cons (ps_for PassesOwn.never rfl (pi_range1 (by rfl) f_range (pa_cons (pv 6) pa_nil)) (pg_name (i := 7) sc_Lgone.nd rfl (by first | exact Or.inl rfl | exact Or.inr rfl)) (pss_cons (ps_set (i := 8) sc_Lgone.nd rfl (by first | exact Or.inl rfl | exact Or.inr rfl) (pe_cl c_Lbites hr (pa_cons (pv 0) (pa_cons (pv 4) pa_nil)) pass0))
      (pss_cons (ps_if (pt_cmpR (op_eqK K hr.units) (pv 8) (pe_lst pa_nil) (nomark _)) (pss_one (ps_ret (pe_tup (pa_cons (pv 4) (pa_cons (pv 5) pa_nil))))) pss_nil)
      (Evl.pss_cut (ps_set (i := 9) sc_Lgone.nd rfl (by first | exact Or.inl rfl | exact Or.inr rfl) (pe_ix (ix_k K) (pv 8) (pe_op op_sub pe_int (pe_callTy call_intU (by rfl) f_int (by decide +kernel) (pa_cons (pe_cmpR (op_eqK K hr.units) (pv 2) pe_str (nomark _)) pa_nil))) (fun _ _ => rfl)))
      (Evl.pss_cut (ps_if (pt_cmpR (op_eqK K hr.units) (pv 2) pe_str (nomark _)) (pss_cons (ps_set (i := 10) sc_Lgone.nd rfl (by first | exact Or.inl rfl | exact Or.inr rfl) (pe_callB (cr_maxK K) (by rfl) f_max (by decide +kernel) (pa_cons (pe_lc (own := [("_law_at", 11), ("_law_edge", 12)]) rfl sc_Lgone.nd (pi_listK K (pv 8)) (blkOk_by (N := ["_law_m", "_law_row", "_law_rule", "_law_bound", "_law_here", "_law_found", "_law_many", "_law_k", "_law_some", "_law_bite", "_law_top", "_law_at", "_law_edge", "_law_one_here"]) (sc := defScope s_Lgone) (by decide +kernel)) (fun _ _ _ _ _ => (pg_tupK K 2 (by rfl) (pgs_cons (pg_name (i := 11) sc_Lgone.nd rfl (by first | exact Or.inl rfl | exact Or.inr rfl)) (pgs_cons (pg_name (i := 12) sc_Lgone.nd rfl (by first | exact Or.inl rfl | exact Or.inr rfl)) pgs_nil)))) (fun _ _ _ _ _ => pts_nil) (fun _ _ _ _ _ => (pe_callB (call_lenK K) (by rfl) f_len PySem.boot_len (pa_cons (pe_ix (ix_k K) (pv 4) (pv 11) (fun _ _ => rfl)) pa_nil)))) pa_nil)))
      (pss_one (ps_set (i := 9) sc_Lgone.nd rfl (by first | exact Or.inl rfl | exact Or.inr rfl) (pe_ix (ix_k K) (pe_lc (own := [("_law_one_here", 13)]) rfl sc_Lgone.nd (pi_listK K (pv 8)) (blkOk_by (N := ["_law_m", "_law_row", "_law_rule", "_law_bound", "_law_here", "_law_found", "_law_many", "_law_k", "_law_some", "_law_bite", "_law_top", "_law_at", "_law_edge", "_law_one_here"]) (sc := defScope s_Lgone) (by decide +kernel)) (fun _ _ _ _ _ => (pg_name (i := 13) sc_Lgone.nd rfl (by first | exact Or.inl rfl | exact Or.inr rfl))) (fun _ _ _ _ _ => (pts_one (pt_cmpR (op_eqK K hr.units) (pe_callB (call_lenK K) (by rfl) f_len PySem.boot_len (pa_cons (pe_ix (ix_k K) (pv 4) (pe_ix (ix_k K) (pv 13) pe_int (fun _ _ => rfl)) (fun _ _ => rfl)) pa_nil)) (pv 10) (nomark _)))) (fun _ _ _ _ _ => (pv 13))) pe_int (fun _ _ => rfl))))) pss_nil)
      (Evl.pss_cut (ps_if (pt_val (pe_callB (call_isiK K) (by rfl) f_isinstance (by decide +kernel) (pa_cons (pv 2) (pa_cons (pe_bltn (v := .ty "list") (by rfl) f_list (by decide +kernel) rfl) pa_nil)))) (pss_one (ps_set (i := 9) sc_Lgone.nd rfl (by first | exact Or.inl rfl | exact Or.inr rfl) (pe_ix (ix_k K) (pv 8) (pe_op op_mod (pe_ix (ix_k K) (pv 2) (pv 7) (fun _ _ => rfl)) (pe_callB (call_lenK K) (by rfl) f_len PySem.boot_len (pa_cons (pv 8) pa_nil))) (fun _ _ => rfl)))) pss_nil)
      (pss_cons (ps_expr (pe_bmK K PySem.F.plainAttrs_list PySem.F.slot_list_append PySem.F.type_list_append mt_append (pv 5) (pa_cons (pv 9) pa_nil)))
      (pss_one (ps_set (i := 4) sc_Lgone.nd rfl (by first | exact Or.inl rfl | exact Or.inr rfl) (pe_cl c_Lbehind hr (pa_cons (pv 0) (pa_cons (pv 4) (pa_cons (pe_ix (ix_k K) (pv 9) pe_int (fun _ _ => rfl)) (pa_cons (pe_ix (ix_k K) (pv 9) pe_int (fun _ _ => rfl)) pa_nil)))) pass0))))))))))
      (pss_one (ps_ret (pe_tup (pa_cons (pv 4) (pa_cons (pv 5) pa_nil))))))))), ?rd⟩), hm, F.kp, F.bindsN fun _ _ _ _ _ _ us hl => match us, hl with | [_, _, _, _], _ => rfl, .nil⟩
  case hl =>
    obtain ⟨m, r, v, S, us, o, most, rfl, _⟩ := h
    rfl
  case rd =>
    obtain ⟨m, r, v, S, us, o, most, rfl, hM, ok, hx, hw, ho, hf, hg, lu, q⟩ := h
    refine k_start (σ' := [some _, some _, some _, some _, none, none, none, none, none, none, none, none, none, none]) rfl ?_
    walk_at "g"
    refine k_list_l hx (fun p1 H1 n1 s1 e1 => ?_)
    walk_at "g"
    refine k_nLst (by walk_at "sz") (fun ps H2 n2 s2 e2 => ?_)
    have np1 : p1 ≠ ps := ne_of_none e1 n2
    have s12 := s1.trans s2
    have nps : H ps = none := s1.free n2
    with_reducible refine k_name ?_
    with_reducible refine k_seq ?_
    with_reducible refine k_asg ?_
    refine k_val (.int (boundF o most : Nat)) (fun Q' hQ => ?_) (fun H3 s3 => ?_)
    · have ho2 := ho.sm s12
      walk_at "g"
      refine k_isiOL ho2 ?_
      cases o with
      | nm z =>
        cases (show v = .str z from ho2)
        walk_at "g"
        refine (show nIte false _ _ from ?_)
        walk_at "g"
        exact hQ _ (Same.refl _)
      | nums ns =>
        obtain ⟨p, rfl, hp⟩ := ho2
        walk_at "g"
        refine (show nIte true _ _ from ?_)
        have ln : (ns.map V.int).length = ns.length := List.length_map _
        walk_at "g"
        rw [ln]
        walk_at "g"
        have e : (min (most : Int) (ns.length : Int)) = ((boundF (.nums ns) most : Nat) : Int) := by
          show _ = ((min most ns.length : Nat) : Int)
          omega
        rw [e]
        exact hQ _ (Same.refl _)
    have lb : boundF o most ≤ most := by
      cases o with
      | nm z => exact Nat.le_refl _
      | nums ns => exact Nat.min_le_left ..
    have lk : ∀ ns, o = .nums ns → boundF o most ≤ ns.length := fun ns e => by
      subst e
      exact Nat.min_le_right ..
    have s13 := s12.trans s3
    have fin : ∀ (Hx : Hp) (p : Addr) (ws : List V) (cur : List (List Nat)) (dn : List Bt), Same H Hx → H p = none → ps ≠ p → Hx p = some (.lst (tS cur)) → Hx ps = some (.lst ws) → DpAll K Hx ws (dn.map dBt) → (runF S o (boundF o most) 0 us) = (cur, dn) → ∀ T H0, Same H H0 → H0 T = none → Hx T = some (.tup [.ref p, .ref ps]) → Q (.ref T) Hx := fun Hx p ws cur dn sx np ne ep es ds er T H0 s0 nT eT =>
      q T p ps ws Hx (s0.free nT) sx eT np nps ne (by rw [er]; exact ep) es (by rw [er]; exact ds)
    walk_at "g"
    refine k_nFor walk_range (fun i σ H' => (∃ (p : Addr) (cur : List (List Nat)) (dn : List Bt) (ws : List V) (y7 y8 y9 y10 y11 y12 : Option V), σ = [some (.ref m), some (.ref r), some v, some (.int (most : Nat)), some (.ref p), some (.ref ps), some (.int (boundF o most : Nat)), y7, y8, y9, y10, y11, y12, none] ∧ H p = none ∧ ps ≠ p ∧ H' p = some (.lst (tS cur)) ∧ AllW S cur ∧ H' ps = some (.lst ws) ∧ DpAll K (del H' ps) ws (dn.map dBt) ∧ dn.length = i ∧ cur.length ≤ us.length + 8 * i ∧ (runF S o (boundF o most) 0 us) = ((runF S o (boundF o most - i) i cur).1, dn ++ (runF S o (boundF o most - i) i cur).2)) ∧ Same H H')
      ⟨⟨p1, us, [], [], _, _, _, _, _, _, rfl, n1, Ne.symm np1, (s2.trans s3) _ _ e1, hw, s3 _ _ e2, .nil, rfl, Nat.le_refl _, rfl⟩, s13⟩ (fun _ _ _ _ _ => trivial) (fun i x σ Ha Hb hi h hy => ?ht) (fun σ H' h => ?he)
    case he =>
      obtain ⟨⟨p, cur, dn, ws, y7, y8, y9, y10, y11, y12, rfl, np, nep, ep, hc, es, ds, ld, lc, hrun⟩, sa⟩ := h
      rw [Int.toNat_natCast, Nat.sub_self] at hrun
      walk_at "g"
      refine k_nTup (by walk_at "sz") (fun T H5 n5 s5 e5' => ?_)
      refine fin H5 p ws cur dn (sa.trans s5) np nep (s5 _ _ ep) (s5 _ _ es) (dpall_sm (sm_del.trans s5) ds) ?_ T H' sa n5 e5'
      rw [hrun]
      show (cur, dn ++ []) = _
      rw [List.append_nil]
    case ht =>
      obtain ⟨⟨p, cur, dn, ws, y7, y8, y9, y10, y11, y12, rfl, np, nep, ep, hc, es, ds, ld, lc, hrun⟩, sa⟩ := h
      obtain ⟨rfl, rfl⟩ := y_rng hy
      have hi : i < boundF o most := by omega
      have lw := dpall_len ds
      rw [List.length_map] at lw
      walk_at "g"
      refine ⟨m, p, S, cur, rfl, hM.sm sa, ok, sq_l ep, hc, by omega, fun pb wb H4 n4 s4 e4 d4 => ?_⟩
      walk_at "g"
      refine k_nLst (by walk_at "sz") (fun p5 H5 n5 s5 e5 => ?_)
      have e45 := s5 _ _ e4
      have d5 := dpall_sm s5 d4
      have s45 := s4.trans s5
      refine k_b1Nil (by omega) (sq_l e45) d5 (sq_l e5) ?_
      have e5b : boundF o most - i = (boundF o most - (i + 1)) + 1 := by omega
      have ep5 := s45 _ _ ep
      have es5 := s45 _ _ es
      have ds5 := dpall_sm (del_mono (p := ps) s45) ds
      walk_at "g"
      refine k_dec (fun dz => ?_) (fun dz => ?_)
      · walk_at "g"
        refine k_nTup (by walk_at "sz") (fun T H6 n6 s6 e6 => ?_)
        refine fin H6 p ws cur dn ((sa.trans s45).trans s6) np nep (s6 _ _ ep5) (s6 _ _ es5) (dpall_sm (sm_del.trans s6) ds5) ?_ T H5 (sa.trans s45) n6 e6
        rw [hrun, e5b, runF_none (by rw [dz]; exact pick_nil), List.append_nil]
      · obtain ⟨x, hp⟩ := pick_some (us := cur) (k := i) dz hg (fun ns e => by have := lk ns e; omega)
        have hbm := pick_mem hp
        obtain ⟨hb1, hb2⟩ := bitesF_in.mp hbm
        obtain ⟨hw2, lm⟩ := behF_words ok hc hb2
        have lbs : (bitesF S cur).length ≤ 2 * cur.length := flat_len (S := S) (us := cur) cur.length
        have l0 : 0 < (bitesF S cur).length := List.length_pos_of_mem hbm
        have lwb := dpall_len d5
        rw [List.length_map] at lwb
        have give : ∀ (l : Nat), (bitesF S cur)[l]? = some x → ∃ t, wb[l]? = some (.ref t) ∧ SqT K H5 t [.int (x.1.1 : Nat), .str (sdS x.1.2)] := fun l e => by
          obtain ⟨v, h1, h2⟩ := dpall_at d5 (show ((bitesF S cur).map dB1)[l]? = some (dB1 x) by rw [List.getElem?_map, e]; rfl)
          obtain ⟨t, rfl, ht⟩ := dp_btI h2
          exact ⟨t, h1, ht⟩
        have hoA := (ho.sm sa).sm s45
        have first_or : ∃ z : Int, (z = 0 ∨ z = -1) ∧ True := ⟨0, .inl rfl, trivial⟩
        walk_at "g"
        refine k_cut (fun σ' H' => Same H5 H' ∧ ∃ (t : Addr), σ' = [some (.ref m), some (.ref r), some v, some (.int (most : Nat)), some (.ref p), some (.ref ps), some (.int (boundF o most : Nat)), some (.int (i : Nat)), some (.ref pb), some (.ref t), y10, y11, y12, none] ∧ (o = .nm (Str.ofString "first") ∨ o = .nm (Str.ofString "last") → SqT K H5 t [.int (x.1.1 : Nat), .str (sdS x.1.2)])) ?_ (fun σ' H6 h => ?_)
        · walk_at "g"
          refine k_ordEq hoA hf good_last ?_
          walk_at "g"
          by_cases hl : o = .nm (Str.ofString "last")
          · subst hl
            have e0 : (bitesF S cur)[(bitesF S cur).length - 1]? = some x := by
              refine getLast_at ?_
              have hp2 : (if Str.ofString "last" = Str.ofString "first" then (bitesF S cur).head? else if Str.ofString "last" = Str.ofString "last" then (bitesF S cur).getLast? else if Str.ofString "last" = Str.ofString "longest" then (bitesF S cur).find? (fun x => (bitesF S cur).all fun y => decide (eaterLen cur y ≤ eaterLen cur x)) else none) = some x := hp
              rw [if_neg (by decide +kernel), if_pos rfl] at hp2
              exact hp2
            obtain ⟨t, t1, t2⟩ := give _ e0
            rw [decide_eq_true rfl]
            refine k_ix_l (sq_l e45) (v := .ref t) (at_last (by rw [lwb]; exact t1) (by omega)) ?_
            walk_at "g"
            exact ⟨Same.refl _, t, rfl, fun _ => t2⟩
          · rw [decide_eq_false hl]
            obtain ⟨d0, hd0⟩ : ∃ d0, (bitesF S cur)[0]? = some d0 := ⟨_, List.getElem?_eq_getElem l0⟩
            obtain ⟨v0, v1, v2⟩ := dpall_at d5 (show ((bitesF S cur).map dB1)[0]? = some (dB1 d0) by rw [List.getElem?_map, hd0]; rfl)
            obtain ⟨t, rfl, ht⟩ := dp_btI v2
            refine k_ix_l (sq_l e45) (v := .ref t) (at_n (j := 0) rfl v1) ?_
            walk_at "g"
            refine ⟨Same.refl _, t, rfl, fun z => ?_⟩
            rcases z with z | z
            · subst z
              have hp2 : (bitesF S cur).head? = some x := hp
              rw [List.head?_eq_getElem?, hd0] at hp2
              cases hp2
              exact ht
            · exact absurd z hl
        obtain ⟨s6, t, rfl, hfl⟩ := h
        refine k_cut (fun σ' H' => Same H5 H' ∧ ∃ (t : Addr) (y10 y11 y12 : Option V), σ' = [some (.ref m), some (.ref r), some v, some (.int (most : Nat)), some (.ref p), some (.ref ps), some (.int (boundF o most : Nat)), some (.int (i : Nat)), some (.ref pb), some (.ref t), y10, y11, y12, none] ∧ ((∃ z, o = .nm z) → SqT K H' t [.int (x.1.1 : Nat), .str (sdS x.1.2)])) ?_ (fun σ' H7 h => ?_)
        · walk_at "g"
          refine k_ordEq (hoA.sm s6) hf good_longest ?_
          walk_at "g"
          refine k_dec (fun d3 => ?_) (fun d3 => ?_)
          · subst d3
            have hp3 : (bitesF S cur).find? (fun x => (bitesF S cur).all fun y => decide (eaterLen cur y ≤ eaterLen cur x)) = some x := by
              have hp2 : (if Str.ofString "longest" = Str.ofString "first" then (bitesF S cur).head? else if Str.ofString "longest" = Str.ofString "last" then (bitesF S cur).getLast? else if Str.ofString "longest" = Str.ofString "longest" then (bitesF S cur).find? (fun x => (bitesF S cur).all fun y => decide (eaterLen cur y ≤ eaterLen cur x)) else none) = some x := hp
              rw [if_neg (by decide +kernel), if_neg (by decide +kernel), if_pos rfl] at hp2
              exact hp2
            have word_at : ∀ y ∈ bitesF S cur, ∃ u, cur[y.1.1]? = some u ∧ u.length ≤ 1000 ∧ eaterLen cur y = (u.length : Nat) := fun y hy => by
              have h1 := (bitesF_in.mp hy).1
              refine ⟨cur[y.1.1], List.getElem?_eq_getElem h1, by have := (hc.len ok) _ (List.getElem_mem h1); omega, ?_⟩
              unfold eaterLen
              rw [List.getD_eq_getElem?_getD, List.getElem?_eq_getElem h1]
              rfl
            have e46 := s6 _ _ e45
            have ep6 := s6 _ _ ep5
            walk_at "g"
            refine k_nLc (walk_list (xs := wb)) (fun H' s => sq_l (s _ _ e46)) (fun i zs => zs = (((bitesF S cur).take i).map (eaterLen cur)).map V.int) rfl (fun i zs hi h => ?hz) (fun j y Hc Hd zs Kp Ks hj sc hzs hy hKp hKs => ?ht2) (fun p8 H8 zs n8 s8 e8 hzs => ?he2)
            case hz =>
              rw [h, List.length_map, List.length_map, List.length_take]
              omega
            case ht2 =>
              obtain ⟨rfl, hv⟩ := hy
              obtain ⟨d, hd1, hd2⟩ := dpall_get d5 hv
              obtain ⟨z, hz1, rfl⟩ := map_get hd1
              obtain ⟨tz, rfl, t1⟩ := dp_btI hd2
              obtain ⟨u, u1, u2, u3⟩ := word_at z (List.mem_of_getElem? hz1)
              have t1a := sm_t (s6.trans sc) t1
              have lu := len_tx u
              walk_at "g"
              refine ⟨rfl, ?_⟩
              walk_at "g"
              refine k_ix_l (sq_l (sc _ _ ep6)) (at_n rfl (getS u1)) ?_
              walk_at "g"
              refine k_len_s (by omega) ?_
              rw [lu, ← u3]
              exact hKp _ _ (Same.refl _) (by rw [hzs, take_more hz1, List.map_append, List.map_append]; rfl)
            case he2 =>
              rw [lwb, List.take_length] at hzs
              subst hzs
              walk_at "g"
              refine k_max (sq_l e8) (by rw [List.length_map]; exact l0) (fun mx m1 m2 => ?_)
              have e48 := s8 _ _ e46
              have ep8 := s8 _ _ ep6
              walk_at "g"
              refine k_nLcD (walk_list (xs := wb)) (fun H' s => sq_l (s _ _ e48)) (fun i zs H1 => DpAll K H1 zs ((((bitesF S cur).take i).filter fun x => decide (eaterLen cur x = mx)).map dB1)) (fun i zs Ha Hb s h => dpall_sm s h) .nil (fun i zs Ha hi h => ?hz2) (fun j y pp Hc Hd zs Kp Ks hj hp2 sc ec hzs hy hKp hKs => ?ht3) (fun p9 H9 zs n9 s9 e9 hzs => ?he3)
              case hz2 =>
                have := dpall_len h
                rw [List.length_map] at this
                have h2 := List.length_filter_le (fun x => decide (eaterLen cur x = mx)) ((bitesF S cur).take i)
                rw [List.length_take] at h2
                omega
              case ht3 =>
                obtain ⟨rfl, hv⟩ := hy
                obtain ⟨d, hd1, hd2⟩ := dpall_get d5 hv
                obtain ⟨z, hz1, rfl⟩ := map_get hd1
                obtain ⟨tz, rfl, t1⟩ := dp_btI hd2
                obtain ⟨u, u1, u2, u3⟩ := word_at z (List.mem_of_getElem? hz1)
                have t1a := sm_t (s6.trans (s8.trans sc)) t1
                have lu := len_tx u
                walk_at "g"
                refine ⟨rfl, ?_⟩
                walk_at "g"
                refine k_ix_l (sq_l (sc _ _ ep8)) (at_n rfl (getS u1)) ?_
                walk_at "g"
                refine k_len_s (by omega) ?_
                rw [lu, ← u3]
                walk_at "g"
                refine k_dec (fun d => ?_) (fun d => ?_)
                · walk_at "g"
                  refine hKp _ _ (Same.refl _) ?_
                  rw [take_more hz1, List.filter_append, List.map_append, show [z].filter (fun x => decide (eaterLen cur x = mx)) = [z] by simp [d]]
                  exact dpall_app hzs (dp_sm (sm_sep hp2 sc) (dp_sm (s6.trans s8) hd2))
                · walk_at "g"
                  refine hKs _ (Same.refl _) ?_
                  rw [take_more hz1, List.filter_append, List.map_append, show [z].filter (fun x => decide (eaterLen cur x = mx)) = [] by simp [d]]
                  simpa using hzs
              case he3 =>
                rw [lwb, List.take_length] at hzs
                have e0 : ((bitesF S cur).filter fun x => decide (eaterLen cur x = mx))[0]? = some x := by
                  rw [← List.head?_eq_getElem?, find_filter, top_eq m1 m2]
                  exact hp3
                obtain ⟨y, h1, h2⟩ := dpall_at hzs (show (((bitesF S cur).filter fun x => decide (eaterLen cur x = mx)).map dB1)[0]? = some (dB1 x) by rw [List.getElem?_map, e0]; rfl)
                obtain ⟨tx', rfl, htx⟩ := dp_btI h2
                walk_at "g"
                refine k_ix_l (sq_l e9) (at_n (j := 0) rfl h1) ?_
                walk_at "g"
                exact ⟨s6.trans (s8.trans s9), tx', _, _, _, rfl, fun _ => htx⟩
          · walk_at "g"
            refine ⟨s6, t, _, _, _, rfl, fun z => ?_⟩
            obtain ⟨z, rfl⟩ := z
            have hz : z = Str.ofString "first" ∨ z = Str.ofString "last" := by
              have hg2 : (decide (z = Str.ofString "first") || (decide (z = Str.ofString "last") || decide (z = Str.ofString "longest"))) = true := hg
              rw [Bool.or_eq_true, Bool.or_eq_true, decide_eq_true_eq, decide_eq_true_eq, decide_eq_true_eq] at hg2
              rcases hg2 with h | h | h
              · exact .inl h
              · exact .inr h
              · exact absurd (by rw [h]) d3
            refine sm_t s6 (hfl ?_)
            rcases hz with rfl | rfl
            · exact .inl rfl
            · exact .inr rfl
        obtain ⟨s7, t2, z10, z11, z12, rfl, hst⟩ := h
        refine k_cut (fun σ' H' => Same H5 H' ∧ ∃ (t : Addr), σ' = [some (.ref m), some (.ref r), some v, some (.int (most : Nat)), some (.ref p), some (.ref ps), some (.int (boundF o most : Nat)), some (.int (i : Nat)), some (.ref pb), some (.ref t), z10, z11, z12, none] ∧ SqT K H' t [.int (x.1.1 : Nat), .str (sdS x.1.2)]) ?_ (fun σ' H8 h => ?_)
        · walk_at "g"
          have ho7 := hoA.sm s7
          refine k_isiOL ho7 ?_
          cases o with
          | nm z =>
            walk_at "g"
            refine (show nIte false _ _ from ?_)
            walk_at "g"
            exact ⟨s7, t2, rfl, hst ⟨z, rfl⟩⟩
          | nums ns =>
            obtain ⟨pn, rfl, hpn⟩ := ho7
            walk_at "g"
            refine (show nIte true _ _ from ?_)
            have hp2 : (match ns[i]? with | some n => (bitesF S cur)[(n % ((bitesF S cur).length : Int)).toNat]? | none => none) = some x := hp
            cases e : ns[i]? with
            | none => rw [e] at hp2; cases hp2
            | some n =>
              rw [e] at hp2
              dsimp only at hp2
              have m1 := Int.emod_lt_of_pos n (show (0 : Int) < (bitesF S cur).length by omega)
              have m0 := Int.emod_nonneg n (show ((bitesF S cur).length : Int) ≠ 0 by omega)
              obtain ⟨y, h1, h2⟩ := give _ hp2
              have e47 := s7 _ _ e45
              walk_at "g"
              refine k_ix_l hpn (at_n (j := i) rfl (by rw [List.getElem?_map, e]; rfl)) ?_
              walk_at "g"
              refine k_I (show (0 : Int) < (wb.length : Nat) by omega) ?_
              rw [lwb]
              refine k_ix_l (sq_l e47) (at_pos m0 h1) ?_
              walk_at "g"
              exact ⟨s7, y, rfl, sm_t s7 h2⟩
        obtain ⟨s8, t3, rfl, ht3⟩ := h
        have s58 := s45.trans s8
        have es8 := s8 _ _ es5
        have ep8 := s8 _ _ ep5
        walk_at "g"
        refine k_append es8 (by omega) ?_
        have sm9 : Same H (upd H8 ps (.lst (ws ++ [V.ref t3]))) := sm_mut (sa.trans s58) nps
        have ep9 : (upd H8 ps (.lst (ws ++ [V.ref t3]))) p = some (.lst (tS cur)) := by
          rw [upd_ne (Ne.symm nep)]
          exact ep8
        have es9 : (upd H8 ps (.lst (ws ++ [V.ref t3]))) ps = some (.lst (ws ++ [V.ref t3])) := upd_same
        have ds9 : DpAll K (del (upd H8 ps (.lst (ws ++ [V.ref t3]))) ps) (ws ++ [V.ref t3]) ((dn ++ [x.1]).map dBt) := by
          rw [del_upd, List.map_append]
          exact dpall_app (dpall_sm (del_mono s8) ds5) (.tup (del_t es8 ht3) (.cons (.int _) (.cons (.str _) .nil)))
        have ht9 : SqT K (upd H8 ps (.lst (ws ++ [V.ref t3]))) t3 [.int (x.1.1 : Nat), .str (sdS x.1.2)] := t_lst es8 ht3
        generalize upd H8 ps (.lst (ws ++ [V.ref t3])) = H9 at sm9 ep9 es9 ds9 ht9 ⊢
        walk_at "g"
        refine ⟨m, p, S, cur, (x.1.1 : Nat), sdS x.1.2, rfl, hM.sm sm9, ok, sq_l ep9, hc, by omega, fun vv H10 s10 hv => ?_⟩
        rw [behS_sd, hb2] at hv
        obtain ⟨pn, rfl, nn, en⟩ := hv
        walk_at "g"
        refine ⟨⟨pn, x.2, dn ++ [x.1], ws ++ [.ref t3], _, _, _, _, _, _, rfl, sm9.free nn, ne_of_none es9 nn, en, hw2, s10 _ _ es9, dpall_sm (del_mono s10) ds9, by rw [List.length_append, ld]; rfl, by omega, ?_⟩, sm9.trans s10⟩
        rw [hrun, e5b, runF_some hp, List.append_assoc]
        rfl
end
end Lw
set_option autoImplicit true
set_option pp.maxSteps 1200
set_option Elab.async false
set_option linter.all false
set_option maxRecDepth 100000
set_option maxHeartbeats 1000000
namespace Lw
open PySem PySem.Spec PyProof.Rows L2 Gk
open PySem.W (dataLe dataLt)

local macro_rules | `(tactic| walk_at "hp") => `(tactic| first | assumption | exact upd_same | (refine' (upd_ne ?n).trans ?h; (case n => assumption); (case h => walk_at "hp")) | (refine' sm_get ?s ?h; (case s => assumption); (case h => walk_at "hp")))
local macro_rules | `(tactic| walk_at "sq") => `(tactic| first | assumption | (refine' sq_l ?h; (case h => walk_at "hp")) | (refine' sm_l ?s ?h; (case s => assumption); (case h => walk_at "sq")))
local macro_rules | `(tactic| walk_at "st") => `(tactic| first | assumption | (refine' sq_t ?h; (case h => walk_at "hp")) | (refine' sm_t ?s ?h; (case s => assumption); (case h => walk_at "st")))
local macro_rules | `(tactic| walk_at "bg") => `(tactic| first | assumption | (refine' BagOk.sm ?s ?h; (case s => assumption); (case h => walk_at "bg")))
local macro_rules | `(tactic| walk_at "sm") => `(tactic| first | assumption | exact Same.refl _ | (refine' Same.trans ?h ?s; (case s => assumption); (case h => walk_at "sm")))
local macro_rules | `(tactic| walk_at "hs") => `(tactic| first | assumption | (refine' HsAt.sm ?s ?h; (case s => assumption); (case h => walk_at "hs")))
local macro_rules | `(tactic| walk_at "ms") => `(tactic| first | assumption | (refine' MAt.sm ?s ?h; (case s => assumption); (case h => walk_at "ms")))
local macro_rules | `(tactic| walk_at "md") => `(tactic| first | assumption | (refine' MDk.sm ?s ?h; (case s => assumption); (case h => walk_at "md")))
local macro_rules | `(tactic| walk_at "dp") => `(tactic| first | assumption | (refine' dp_sm ?s ?h; (case s => assumption); (case h => walk_at "dp")))
local macro_rules | `(tactic| walk_at "sz") => `(tactic| first | decide | assumption | omega | (simp only [List.length_cons, List.length_nil, List.length_map, List.length_append]; omega))
local macro_rules | `(tactic| walk_at "g1") => `(tactic| first
  | with_reducible refine k_seq ?_
  | with_reducible refine k_itB ?_
  | with_reducible refine k_next ?_
  | with_reducible refine k_asg ?_
  | with_reducible refine k_name ?_
  | with_reducible refine k_ret ?_
  | with_reducible refine k_retN ?_
  | with_reducible refine k_drop ?_
  | with_reducible refine k_ifs ?_
  | with_reducible refine k_brk ?_
  | with_reducible refine k_cont ?_
  | with_reducible refine k_ipI ?_
  | with_reducible refine k_test ?_
  | with_reducible refine k_tB ?_
  | with_reducible refine k_bl ?_
  | with_reducible refine k_not ?_
  | with_reducible refine k_and ?_
  | with_reducible refine k_or ?_
  | with_reducible refine k_yes ?_
  | with_reducible refine k_true ?_
  | with_reducible refine k_false ?_
  | with_reducible refine k_nt ?_
  | with_reducible refine k_c ?_
  | with_reducible refine k_op ?_
  | with_reducible refine k_un ?_
  | with_reducible refine k_if ?_
  | with_reducible refine k_chain ?_
  | with_reducible refine k_nil ?_
  | with_reducible refine k_cons ?_
  | with_reducible refine k_cb ?_
  | with_reducible refine k_call ?_
  | with_reducible refine k_callS ?_
  | with_reducible refine k_andV ?_
  | with_reducible refine k_orV ?_
  | with_reducible refine k_notV ?_
  | with_reducible refine k_lst ?_
  | with_reducible refine k_tup ?_
  | with_reducible refine k_nopart ?_
  | with_reducible refine k_part ?_
  | with_reducible refine k_nInt ?_
  | with_reducible refine k_sl ?_
  | with_reducible refine k_bm ?_
  | with_reducible refine k_bm0 ?_
  | with_reducible refine k_nTyS ?_
  | with_reducible refine k_m1 ?_
  | with_reducible refine k_m0 ?_
  | with_reducible refine k_nStr ?_
  | with_reducible refine k_I0 ?_
  | with_reducible refine k_U ?_
  | with_reducible refine k_add_i ?_
  | with_reducible refine k_eq_i ?_
  | with_reducible refine k_eq_s ?_
  | with_reducible refine k_eq_b ?_
  | with_reducible refine k_ne_i ?_
  | with_reducible refine k_ne_s ?_
  | with_reducible refine k_ne_b ?_
  | with_reducible refine k_le_i ?_
  | with_reducible refine k_le_s ?_
  | with_reducible refine k_gnil ?_
  | with_reducible refine k_gcons ?_
  | with_reducible refine k_gsub ?_
  | with_reducible refine k_for ?_
  | with_reducible refine k_lc ?_
  | with_reducible refine k_rng1 ?_
  | with_reducible refine k_rng2 ?_
  | with_reducible refine k_itl ?_
  | with_reducible refine k_itt ?_
  | with_reducible refine k_its ?_
  | with_reducible refine k_ite ?_
  | with_reducible refine k_iteB ?_
  | with_reducible refine k_lrg2 ?_
  | with_reducible refine k_itz ?_
  | with_reducible refine k_nIts ?_
  | with_reducible refine k_inS ?_
  | with_reducible refine k_niS ?_
  | with_reducible refine k_mk ?_
  | with_reducible refine k_meth ?_
  | with_reducible refine k_fld ?_
  | with_reducible refine k_sfld ?_
  | with_reducible refine k_dg ?_
  | with_reducible refine k_dp ?_
  | with_reducible refine k_pr ?_
  | with_reducible refine k_pr0 ?_
  | with_reducible refine k_sg ?_
  | with_reducible refine k_lc2 ?_
  | with_reducible refine k_callN ?_
  | with_reducible refine k_callNS ?_
  | with_reducible refine k_par ?_
  | with_reducible refine k_nPar ?_
  | with_reducible refine k_isNn ?_
  | with_reducible refine k_isNr ?_
  | with_reducible refine k_ntNn ?_
  | with_reducible refine k_ntNr ?_
  | with_reducible refine k_min2 ?_
  | with_reducible refine k_max2 ?_
  | with_reducible refine k_intB ?_
  | with_reducible refine k_intI ?_
  | with_reducible refine k_isBl ?_
  | with_reducible refine k_ntBl ?_
  | ((with_reducible refine' k_var ?kv ?_); (case kv => exact rfl))
  | ((with_reducible refine' k_aug ?kv ?_); (case kv => exact rfl))
  | ((with_reducible refine' k_ix_l ?ks ?ki ?_); (case ks => walk_at "sq"); (case ki => exact rfl))
  | ((with_reducible refine' k_ix_t ?ks ?ki ?_); (case ks => walk_at "st"); (case ki => exact rfl))
  | ((with_reducible refine' k_len_l ?ks ?_); (case ks => walk_at "sq"))
  | ((with_reducible refine' k_len_t ?ks ?_); (case ks => walk_at "st"))
  | ((with_reducible refine' k_setL ?ks ?ki ?_); (case ks => walk_at "hp"); (case ki => exact rfl))
  | ((with_reducible refine' k_nTyL ?ks ?_); (case ks => walk_at "sq"))
  | ((with_reducible refine' k_nItl ?ks ?_); (case ks => walk_at "sq"))
  | ((with_reducible refine' k_nItt ?ks ?_); (case ks => walk_at "st"))
  | ((with_reducible refine' k_nIte ?ks ?_); (case ks => walk_at "sq"))
  | ((with_reducible refine' k_mul ?km ?_); (case km => first | exact Or.inr ⟨by decide, by decide⟩ | exact Or.inl ⟨by decide, by decide⟩))
  | ((with_reducible refine' k_I ?km ?_); (case km => first | assumption | decide | exact ⟨by decide, by decide +kernel⟩ | exact ⟨by decide, by decide, by decide⟩))
  | ((with_reducible refine' k_nMeth ?kp ?kl ?_); (case kp => walk_at "hp"); (case kl => exact rfl))
  | ((with_reducible refine' k_nFld ?kp ?kc ?kn ?kl ?_); (case kp => walk_at "hp"); (case kc => assumption); (case kn => assumption); (case kl => exact rfl))
  | ((with_reducible refine' k_nSFld ?kp ?kc ?kn ?kl ?_); (case kp => walk_at "hp"); (case kc => assumption); (case kn => assumption); (case kl => exact of_decide_eq_true rfl))
  | ((with_reducible refine' k_nDg ?kp ?kl ?_); (case kp => walk_at "hp"); (case kl => exact rfl))
  | ((with_reducible refine' k_nRng1 ?k1 ?k2 ?_); (case k1 => omega); (case k2 => omega))
  | ((with_reducible refine' k_nKw ?k1 ?k2 ?_); (case k1 => exact rfl); (case k2 => exact rfl))
  | ((with_reducible refine' k_hsm ?kh ?_); (case kh => walk_at "hs"))
  | ((with_reducible refine' k_nMethH ?kh ?kl ?_); (case kh => walk_at "hs"); (case kl => exact fun _ _ => rfl))
  | ((with_reducible refine' k_mLet ?kh ?_); (case kh => walk_at "ms"))
  | ((with_reducible refine' k_mChew ?kh ?_); (case kh => walk_at "ms"))
  | ((with_reducible refine' k_mPut ?kh ?_); (case kh => walk_at "ms"))
  | ((with_reducible refine' k_mMost ?kh ?_); (case kh => walk_at "ms"))
  | ((with_reducible refine' k_mCut ?kh ?_); (case kh => walk_at "ms"))
  | ((with_reducible refine' k_mTab ?kh ?_); (case kh => walk_at "md"))
  | ((with_reducible refine' k_mEats ?kh ?_); (case kh => walk_at "md"))
  | ((with_reducible refine' k_gtup ?ks ?kl ?_); (case ks => walk_at "st"); (case kl => exact rfl)))
local macro_rules | `(tactic| walk_at "g") => `(tactic| repeat (walk_at "g1"))
local macro_rules | `(tactic| walk_at "w1") => `(tactic| first
  | walk_at "g1"
  | ((with_reducible refine' k_decT ?kp ?_); (case kp => omega))
  | ((with_reducible refine' k_decF ?kp ?_); (case kp => omega))
  | ((with_reducible refine' k_decNT ?kp ?_); (case kp => omega))
  | ((with_reducible refine' k_decNF ?kp ?_); (case kp => omega)))
local macro_rules | `(tactic| walk_at "w") => `(tactic| repeat (walk_at "w1"))


section
variable {P : Program} {w : World} {K : PySem.W.Frag} {mg : Str → Option Value} {base : Heap} {f : Addr} {fd : FuncData}
/-! ### the law's own meetings of a row -/
theorem ok_Lcrossed (F : FnP K "_law_crossed" s_Lcrossed f fd) (hm : mg "_law_crossed" = some (.ref f)) (f_sorted : mg "sorted" = none) (f_min : mg "min" = none) (f_max : mg "max" = none) : Callee P w K mg base CX0 "_law_crossed" 1 [] (spPaired K) := by
  refine ⟨f, fd, _, [], F.ok sc_Lcrossed (fun vs H Q E h => ?hl) (fun cdv A outer s H vs Q E hr h => ⟨_, PSs.nox (pss_cons (ps_set (i := 3) sc_Lcrossed.nd rfl (by first | exact Or.inl rfl | exact Or.inr rfl) (pe_lst pa_nil))
      (pss_cons (ps_for PassesOwn.never rfl (pi_listK K (pv 1)) (pg_name (i := 4) sc_Lcrossed.nd rfl (by first | exact Or.inl rfl | exact Or.inr rfl)) (pss_one (ps_set (i := 3) sc_Lcrossed.nd rfl (by first | exact Or.inl rfl | exact Or.inr rfl) (pe_op (op_addK K) (pv 3) (pe_lc (own := [("_law_other", 5)]) rfl sc_Lcrossed.nd (pi_listK K (pv 2)) (blkOk_by (N := ["_law_row", "_law_some", "_law_more", "_law_found", "_law_one_here", "_law_other"]) (sc := defScope s_Lcrossed) (by decide +kernel)) (fun _ _ _ _ _ => (pg_name (i := 5) sc_Lcrossed.nd rfl (by first | exact Or.inl rfl | exact Or.inr rfl))) (fun _ _ _ _ _ => pts_nil) (fun _ _ _ _ _ => (pe_tup (pa_cons (pv 0) (pa_cons (pe_callB (cr_minD K hr.units) (by rfl) f_min (by decide +kernel) (pa_cons (pv 4) (pa_cons (pv 5) pa_nil))) (pa_cons (pe_callB (cr_maxD K hr.units) (by rfl) f_max (by decide +kernel) (pa_cons (pv 4) (pa_cons (pv 5) pa_nil))) pa_nil))))))))))
      (pss_one (ps_ret (pe_callB (cr_sortLD K hr.units) (by rfl) f_sorted (by decide +kernel) (pa_cons (pv 3) pa_nil)))))), ?rd⟩), hm, F.kp, F.bindsN fun _ _ _ _ _ _ us hl => match us, hl with | [_, _, _], _ => rfl, .nil⟩
  case hl =>
    obtain ⟨T, p1, p2, row, bs1, bs2, ws1, ws2, rfl, _⟩ := h
    rfl
  case rd =>
    obtain ⟨T, p1, p2, row, bs1, bs2, ws1, ws2, rfl, hT, h1, d1, h2, d2, l1, l2, q⟩ := h
    refine k_start (σ' := [some _, some _, some _, none, none, none]) rfl ?_
    have lw1 := dpall_len d1
    have lw2 := dpall_len d2
    rw [List.length_map] at lw1 lw2
    have lmul : ∀ i, i ≤ bs1.length → i * bs2.length ≤ 100 := fun i hi => Nat.mul_le_mul (show i ≤ 10 by omega) l2
    walk_at "g"
    refine k_nLst (by walk_at "sz") (fun pf0 H1 n1 s1 e1 => ?_)
    have h11 := sm_l s1 h1
    walk_at "g"
    refine k_nFor (walk_list (xs := ws1)) (fun i σ H' => Same H H' ∧ ∃ pf y4 y5 ws, σ = [some (.ref T), some (.ref p1), some (.ref p2), some (.ref pf), y4, y5] ∧ H' pf = some (.lst ws) ∧ MgAll K H' ws ((bs1.take i).flatMap fun a => bs2.map fun b => (row, minB a b, maxB a b))) ⟨s1, pf0, _, _, [], rfl, e1, .nil⟩ (fun i σ H' _ h => sm_l h.1 h1) (fun i x σ Ha Hb hi h hy => ?ht) (fun σ H' h => ?he)
    case he =>
      obtain ⟨sa, pf, y4, y5, ws, rfl, ep, hmg⟩ := h
      rw [lw1, List.take_length] at hmg
      have ll := crossed_len row bs1 bs2
      have lm := lmul bs1.length (Nat.le_refl _)
      walk_at "g"
      refine k_sortMg ep hmg (by omega) (fun p' ws' H2 n2 s2 e2 h2 => ?_)
      exact q p' ws' H2 (sa.free n2) (sa.trans s2) e2 h2
    case ht =>
      obtain ⟨sa, pf, y4, y5, ws, rfl, ep, hmg⟩ := h
      obtain ⟨rfl, hv⟩ := hy
      obtain ⟨t1, a, rfl, ha, b1⟩ := bt_of (dpall_sm sa d1) hv
      have h2a := sm_l sa h2
      have lws := pd_len hmg
      have ll := crossed_len row (bs1.take i) bs2
      rw [List.length_take] at ll
      have lm := lmul (min i bs1.length) (Nat.min_le_right _ _)
      walk_at "g"
      refine k_nLcD (walk_list (xs := ws2)) (fun H' s => sm_l s h2a) (fun j zs H' => MgAll K H' zs ((bs2.take j).map fun b => (row, minB a b, maxB a b))) (fun i zs Ha Hb s h => mg_sm s h) .nil (fun j zs Hc hj h => ?hz) (fun j x p Hc Hd zs Kp Ks hj hp sb eb hzs hy hKp hKs => ?ht2) (fun p Hc zs np sb eb hzs => ?he2)
      case hz =>
        have := pd_len h
        rw [List.length_map, List.length_take] at this
        omega
      case ht2 =>
        obtain ⟨rfl, hv2⟩ := hy
        obtain ⟨t2, b, rfl, hb, b2⟩ := bt_of (dpall_sm (sa.trans sb) d2) hv2
        have b1' := b1.sm sb
        walk_at "g"
        refine ⟨rfl, ?_⟩
        walk_at "g"
        refine k_minB b1' b2 (fun t3 h3 => ?_)
        walk_at "g"
        refine k_maxB b1' b2 (fun t4 h4 => ?_)
        walk_at "g"
        refine k_nTup (by walk_at "sz") (fun T5 H5 n5 s5 e5 => ?_)
        have nT : T5 ≠ p := fun z => by rw [z, eb] at n5; cases n5
        have eb5 := s5 _ _ eb
        refine hKp _ _ s5 ?_
        rw [take_more hb, List.map_append]
        exact pd_app (mg_sm (del_mono s5) hzs) (.cons ⟨T5, T, t3, t4, rfl, sq_t (by rw [del_ne nT]; exact e5), del_t eb5 (sm_t (sa.trans (sb.trans s5)) hT), del_t eb5 (h3.sm s5), del_t eb5 (h4.sm s5)⟩ .nil)
      case he2 =>
        rw [lw2, List.take_length] at hzs
        have lz := pd_len hzs
        rw [List.length_map] at lz
        walk_at "g"
        refine k_add_l (sb _ _ ep) eb (by omega) (fun p6 H6 n6 s6 e6 => ?_)
        walk_at "g"
        refine ⟨sa.trans (sb.trans s6), p6, _, _, _, rfl, e6, ?_⟩
        rw [take_flat _ ha]
        exact pd_app (mg_sm (sb.trans s6) hmg) (mg_sm s6 hzs)
/-! ### the law's own blocks -/
def nzF (S : HsD) (u v : List Nat) : Bool := !decide (btsF S u v = [])
def law3 (S : HsD) (u v z : List Nat) : List Mg := pairedF [u, v, z] (btsF S u v) ((btsF S v z).map shB)
def law2 (S : HsD) (u v : List Nat) : List Mg := ((wsF S).filter (nzF S v)).flatMap (law3 S u v)
theorem flat_filter {α β : Type} {p : α → Bool} {g h : α → List β} : ∀ {l : List α}, (∀ x ∈ l, p x = true → g x = h x) → (∀ x ∈ l, p x = false → h x = []) → (l.filter p).flatMap g = l.flatMap h
  | [], _, _ => rfl
  | x :: l, h1, h2 => by
    have ih := flat_filter (l := l) (fun y hy => h1 y (List.mem_cons_of_mem _ hy)) (fun y hy => h2 y (List.mem_cons_of_mem _ hy))
    cases c : p x with
    | true => rw [List.filter_cons_of_pos c, List.flatMap_cons, List.flatMap_cons, ih, h1 x List.mem_cons_self c]
    | false => rw [List.filter_cons_of_neg (by rw [c]; exact Bool.false_ne_true), List.flatMap_cons, ih, h2 x List.mem_cons_self c, List.nil_append]
theorem nz_true {S : HsD} {u v : List Nat} (h : nzF S u v = true) : btsF S u v ≠ [] := fun z => by
  unfold nzF at h
  rw [decide_eq_true z] at h
  cases h
theorem nz_false {S : HsD} {u v : List Nat} (h : nzF S u v = false) : btsF S u v = [] := Decidable.byContradiction fun z => by
  unfold nzF at h
  rw [decide_eq_false z] at h
  cases h
theorem law2_eq {S : HsD} {u v : List Nat} (h : nzF S u v = true) : law2 S u v = three2 S u v := flat_filter (fun z _ hz => by
  show _ = threeF S u v z
  unfold threeF
  rw [if_pos ⟨nz_true h, nz_true hz⟩]
  rfl) fun z _ hz => if_neg fun c => c.2 (nz_false hz)
theorem law1_eq (S : HsD) (u : List Nat) : ((wsF S).filter (nzF S u)).flatMap (law2 S u) = three1 S u := flat_filter (fun v _ hv => law2_eq hv) fun v _ hv => List.flatMap_eq_nil_iff.mpr fun z _ => if_neg fun c => c.1 (nz_false hv)
theorem law2_len {S : HsD} (u v : List Nat) (l : Rw) (hl : l.length ≤ 14) : (l.flatMap (law3 S u v)).length ≤ 56 := by
  refine Nat.le_trans (flat_le (k := 4) fun z _ => ?_) (Nat.mul_le_mul_right 4 hl)
  refine Nat.le_trans (pairedF_len _ _ _) ?_
  rw [List.length_map]
  exact Nat.mul_le_mul (btsF_len S u v) (btsF_len S v z)
theorem law1_len {S : HsD} (ok : HsOk S) (u : List Nat) (l : Rw) (hl : l.length ≤ 14) : (l.flatMap (law2 S u)).length ≤ 784 := by
  refine Nat.le_trans (flat_le (k := 56) fun v _ => ?_) (Nat.mul_le_mul_right 56 hl)
  exact law2_len u v _ (Nat.le_trans (List.length_filter_le ..) (ws_len ok))
theorem two1_len {S : HsD} (u : List Nat) (l : Rw) (hl : l.length ≤ 14) : (l.flatMap (twoF S u)).length ≤ 14 := Nat.le_trans (flat_le (k := 1) fun v _ => two_len S u v) (by omega)
def two1 (S : HsD) (u : List Nat) : List Mg := (wsF S).flatMap (twoF S u)
theorem two0_len {S : HsD} (ok : HsOk S) (l : Rw) (hl : l.length ≤ 14) : (l.flatMap (two1 S)).length ≤ 196 := Nat.le_trans (flat_le (k := 14) fun u _ => two1_len u _ (ws_len ok)) (Nat.mul_le_mul_right 14 hl)
/-- what stands apart from a list, when a dict is put to -/
theorem del_updD {H : Hp} {pd pf : Addr} {kv : List (List Key × V)} {o : HO} (hp : H pd = some (.dT kv)) : (∀ b xs, (del H pf) b = some (.lst xs) → (del (upd H pd o) pf) b = some (.lst xs)) ∧ ∀ b xs, SqT K (del H pf) b xs → SqT K (del (upd H pd o) pf) b xs := by
  have key : ∀ b u, (∀ kvs, u ≠ .dT kvs) → (del H pf) b = some u → (del (upd H pd o) pf) b = some u := fun b u hu hb => by
    unfold del at hb ⊢
    split at hb
    · cases hb
    · rename_i c
      rw [if_neg c]
      have : b ≠ pd := fun z => by
        rw [z, hp] at hb
        cases hb
        exact hu _ rfl
      rw [upd_ne this]
      exact hb
  refine ⟨fun b xs h => key b _ (fun _ z => nomatch z) h, fun b xs h => ?_⟩
  rcases h with (h | ⟨v, h⟩) | h
  · exact .inl (.inl (key b _ (fun _ z => nomatch z) h))
  · exact .inl (.inr ⟨v, key b _ (fun _ z => nomatch z) h⟩)
  · exact .inr h
theorem pr_updD {S : HsD} {H : Hp} {pd pf : Addr} {kv0 : List (List Key × V)} {o : HO} (hp : H pd = some (.dT kv0)) {kv : List (List Key × V)} {L : List (List Nat × List Nat)} (h : PrAt K S (del H pf) kv L) : PrAt K S (del (upd H pd o) pf) kv L := pd_imp (fun p q ⟨h1, pl, ws, h2, h3, h4⟩ => ⟨h1, pl, ws, h2, (del_updD (K := K) (o := o) hp).1 _ _ h3, bts_to (del_updD (K := K) (o := o) hp).2 h4⟩) h
def spLBlocks (K : PySem.W.Frag) : Sp := fun vs H Q _ => ∃ (m : Addr) (S : HsD), vs = [.ref m] ∧ MAt K H m S ∧ HsOk S ∧ ∀ p ws H', Same H H' → H' p = some (.lst ws) → MgAll K H' ws (blocksF S) → Q (.ref p) H'
theorem ok_Lblocks (F : FnP K "_law_blocks" s_Lblocks f fd) (hm : mg "_law_blocks" = some (.ref f)) (f_len : mg "len" = none) (c_Lwords : Callee P w K mg base CX0 "_law_words" 1 [] (spLWords K)) (c_Lbites : Callee P w K mg base CX0 "_law_bites" 3 [] (spLBites K)) (c_Lcrossed : Callee P w K mg base CX0 "_law_crossed" 1 [] (spPaired K)) : Callee P w K mg base CX0 "_law_blocks" 4 [] (spLBlocks K) := by
  refine ⟨f, fd, _, [], F.ok sc_Lblocks (fun vs H Q E h => ?hl) (fun cdv A outer s H vs Q E hr h => ⟨_, PSs.nox (pss_cons (ps_set (i := 1) sc_Lblocks.nd rfl (by first | exact Or.inl rfl | exact Or.inr rfl) (pe_cl c_Lwords hr (pa_cons (pv 0) pa_nil) pass0))
      (pss_cons (ps_set (i := 2) sc_Lblocks.nd rfl (by first | exact Or.inl rfl | exact Or.inr rfl) (pe_lst pa_nil))
      (pss_cons (ps_set (i := 3) sc_Lblocks.nd rfl (by first | exact Or.inl rfl | exact Or.inr rfl) pe_dnewT)
      (pss_cons (ps_for PassesOwn.never rfl (pi_listK K (pv 1)) (pg_name (i := 4) sc_Lblocks.nd rfl (by first | exact Or.inl rfl | exact Or.inr rfl)) (pss_one (ps_for PassesOwn.never rfl (pi_listK K (pv 1)) (pg_name (i := 5) sc_Lblocks.nd rfl (by first | exact Or.inl rfl | exact Or.inr rfl)) (pss_cons (ps_dput (hu_of hr) (pv 3) (pe_tup (pa_cons (pv 4) (pa_cons (pv 5) pa_nil))) (pe_cl c_Lbites hr (pa_cons (pv 0) (pa_cons (pe_lst (pa_cons (pv 4) (pa_cons (pv 5) pa_nil))) pa_nil)) pass0) rfl)
      (pss_one (ps_if (pt_cmpR (op_eqK K hr.units) (pe_callB (call_lenK K) (by rfl) f_len PySem.boot_len (pa_cons (pe_dget (hu_of hr) (pv 3) (pe_tup (pa_cons (pv 4) (pa_cons (pv 5) pa_nil))) (fun _ _ => rfl)) pa_nil)) pe_int (nomark _)) (pss_one (ps_expr (pe_bmK K PySem.F.plainAttrs_list PySem.F.slot_list_append PySem.F.type_list_append mt_append (pv 2) (pa_cons (pe_tup (pa_cons (pe_tup (pa_cons (pv 4) (pa_cons (pv 5) pa_nil))) (pa_cons (pe_tup (pa_cons pe_int (pa_cons pe_str pa_nil))) (pa_cons (pe_tup (pa_cons pe_int (pa_cons pe_str pa_nil))) pa_nil)))) pa_nil)))) pss_nil))))))
      (pss_cons (ps_for PassesOwn.never rfl (pi_listK K (pv 1)) (pg_name (i := 4) sc_Lblocks.nd rfl (by first | exact Or.inl rfl | exact Or.inr rfl)) (pss_one (ps_for PassesOwn.never rfl (pi_listK K (pe_lc (own := [("_law_word", 8)]) rfl sc_Lblocks.nd (pi_listK K (pv 1)) (blkOk_by (N := ["_law_m", "_law_shelf", "_law_found", "_law_pairs", "_law_one_here", "_law_other", "_law_middle", "_law_last", "_law_word", "_law_more", "_law_at", "_law_edge"]) (sc := defScope s_Lblocks) (by decide +kernel)) (fun _ _ _ _ _ => (pg_name (i := 8) sc_Lblocks.nd rfl (by first | exact Or.inl rfl | exact Or.inr rfl))) (fun _ _ _ _ _ => (pts_one (pt_cmpR (op_neK K hr.units) (pe_dget (hu_of hr) (pv 3) (pe_tup (pa_cons (pv 4) (pa_cons (pv 8) pa_nil))) (fun _ _ => rfl)) (pe_lst pa_nil) (nomark _)))) (fun _ _ _ _ _ => (pv 8)))) (pg_name (i := 6) sc_Lblocks.nd rfl (by first | exact Or.inl rfl | exact Or.inr rfl)) (pss_one (ps_for PassesOwn.never rfl (pi_listK K (pe_lc (own := [("_law_word", 8)]) rfl sc_Lblocks.nd (pi_listK K (pv 1)) (blkOk_by (N := ["_law_m", "_law_shelf", "_law_found", "_law_pairs", "_law_one_here", "_law_other", "_law_middle", "_law_last", "_law_word", "_law_more", "_law_at", "_law_edge"]) (sc := defScope s_Lblocks) (by decide +kernel)) (fun _ _ _ _ _ => (pg_name (i := 8) sc_Lblocks.nd rfl (by first | exact Or.inl rfl | exact Or.inr rfl))) (fun _ _ _ _ _ => (pts_one (pt_cmpR (op_neK K hr.units) (pe_dget (hu_of hr) (pv 3) (pe_tup (pa_cons (pv 6) (pa_cons (pv 8) pa_nil))) (fun _ _ => rfl)) (pe_lst pa_nil) (nomark _)))) (fun _ _ _ _ _ => (pv 8)))) (pg_name (i := 7) sc_Lblocks.nd rfl (by first | exact Or.inl rfl | exact Or.inr rfl)) (pss_cons (ps_setLc (i := 9) (own := [("_law_at", 10), ("_law_edge", 11)]) rfl sc_Lblocks.nd rfl rfl (sw_true rfl rfl rfl (by decide +kernel)) (pi_listK K (pe_dget (hu_of hr) (pv 3) (pe_tup (pa_cons (pv 6) (pa_cons (pv 7) pa_nil))) (fun _ _ => rfl))) (blkOk_by (N := ["_law_m", "_law_shelf", "_law_found", "_law_pairs", "_law_one_here", "_law_other", "_law_middle", "_law_last", "_law_word", "_law_more", "_law_at", "_law_edge"]) (sc := defScope s_Lblocks) (by decide +kernel)) (fun _ _ _ _ _ => (pg_tupK K 2 (by rfl) (pgs_cons (pg_name (i := 10) sc_Lblocks.nd rfl (by first | exact Or.inl rfl | exact Or.inr rfl)) (pgs_cons (pg_name (i := 11) sc_Lblocks.nd rfl (by first | exact Or.inl rfl | exact Or.inr rfl)) pgs_nil)))) (fun _ _ _ _ _ => pts_nil) (fun _ _ _ _ _ => (pe_tup (pa_cons (pe_op (op_addK K) (pv 10) pe_int) (pa_cons (pv 11) pa_nil)))))
      (pss_one (ps_set (i := 2) sc_Lblocks.nd rfl (by first | exact Or.inl rfl | exact Or.inr rfl) (pe_op (op_addK K) (pv 2) (pe_cl c_Lcrossed hr (pa_cons (pe_tup (pa_cons (pv 4) (pa_cons (pv 6) (pa_cons (pv 7) pa_nil)))) (pa_cons (pe_dget (hu_of hr) (pv 3) (pe_tup (pa_cons (pv 4) (pa_cons (pv 6) pa_nil))) (fun _ _ => rfl)) (pa_cons (pv 9) pa_nil))) pass0))))))))))
      (pss_one (ps_ret (pv 2)))))))), ?rd⟩), hm, F.kp, F.bindsN fun _ _ _ _ _ _ us hl => match us, hl with | [_], _ => rfl, .nil⟩
  case hl =>
    obtain ⟨m, S, rfl, _⟩ := h
    rfl
  case rd =>
    obtain ⟨m, S, rfl, hM, ok, q⟩ := h
    have lW := ws_len ok
    have ndW := words_nodup ok
    have lT : (tS (wsF S)).length = (wsF S).length := len_tS _
    refine k_start (σ' := [some _, none, none, none, none, none, none, none, none, none, none, none]) rfl ?_
    walk_at "g"
    refine ⟨m, S, rfl, hM, ok, fun ps H1 n1 s1 e1 => ?_⟩
    have hM1 := hM.sm s1
    have e1s := sq_l (K := K) e1
    walk_at "g"
    refine k_nLst (by walk_at "sz") (fun pf H2 n2 s2 e2 => ?_)
    walk_at "g"
    refine k_dnewT (fun pd H3 n3 s3 e3 => ?_)
    have nfd : pf ≠ pd := fun z => by rw [← z, e2] at n3; cases n3
    have n13 : H1 pd = none := s2.free n3
    have s13 := s2.trans s3
    have e13s := sm_l s13 e1s
    walk_at "g"
    refine k_nFor (walk_list (xs := tS (wsF S))) (fun i σ H' => (∃ y4 y5 y6 y7 y8 y9 y10 y11, σ = [some (.ref m), some (.ref ps), some (.ref pf), some (.ref pd), y4, y5, y6, y7, y8, y9, y10, y11]) ∧ Same H1 H' ∧ ∃ ws kv, H' pf = some (.lst ws) ∧ MgAll K H' ws (((wsF S).take i).flatMap (two1 S)) ∧ H' pd = some (.dT kv) ∧ PrAt K S (del H' pf) kv (prodTo (wsF S) i [] 0)) ⟨⟨_, _, _, _, _, _, _, _, rfl⟩, s13, [], [], s3 _ _ e2, .nil, e3, .nil⟩ (fun i σ H' _ h => sm_l h.2.1 e1s) (fun i x σ Ha Hb hi h hy => ?hu) (fun σ H' h => ?hue)
    case hu =>
      obtain ⟨⟨y4, y5, y6, y7, y8, y9, y10, y11, rfl⟩, sa, ws, kv, ep, hmg, ed, hpr⟩ := h
      obtain ⟨rfl, hv⟩ := hy
      obtain ⟨u, hu, rfl⟩ := map_get hv
      have mu := List.mem_of_getElem? hu
      have e1a := sm_l sa e1s
      walk_at "g"
      refine k_nFor (walk_list (xs := tS (wsF S))) (fun j σ H' => (∃ y5 y6 y7 y8 y9 y10 y11, σ = [some (.ref m), some (.ref ps), some (.ref pf), some (.ref pd), some (.str (tx u)), y5, y6, y7, y8, y9, y10, y11]) ∧ Same H1 H' ∧ ∃ ws kv, H' pf = some (.lst ws) ∧ MgAll K H' ws (((wsF S).take i).flatMap (two1 S) ++ ((wsF S).take j).flatMap (twoF S u)) ∧ H' pd = some (.dT kv) ∧ PrAt K S (del H' pf) kv (prodTo (wsF S) i u j)) ⟨⟨_, _, _, _, _, _, _, rfl⟩, sa, ws, kv, ep, by rw [List.take_zero, List.flatMap_nil, List.append_nil]; exact hmg, ed, hpr⟩ (fun i σ H' _ h => sm_l h.2.1 e1s) (fun j x σ Hc Hd hj h hy => ?hv) (fun σ H' h => ?hve)
      case hve =>
        obtain ⟨⟨y5, y6, y7, y8, y9, y10, y11, rfl⟩, sb, ws', kv', ep', hmg', ed', hpr'⟩ := h
        rw [lT, List.take_length] at hmg'
        rw [lT, prodTo_all _ hu] at hpr'
        refine ⟨⟨_, _, _, _, _, _, _, _, rfl⟩, sb, ws', kv', ep', ?_, ed', hpr'⟩
        rw [take_flat _ hu]
        exact hmg'
      case hv =>
        obtain ⟨⟨y5, y6, y7, y8, y9, y10, y11, rfl⟩, sb, ws', kv', ep', hmg', ed', hpr'⟩ := h
        obtain ⟨rfl, hv2⟩ := hy
        obtain ⟨v, hv, rfl⟩ := map_get hv2
        have mv := List.mem_of_getElem? hv
        have lws := pd_len hmg'
        have l1 := two0_len ok _ (take_le lW i)
        have l2 := two1_len (S := S) u _ (take_le lW j)
        rw [List.length_append] at lws
        have lkv := pd_len hpr'
        have lpr := prodTo_len (wsF S) lW i u j
        have wuv : AllW S [u, v] := fun y hy => by
          rcases List.mem_cons.mp hy with rfl | hy
          · exact mu
          · rw [List.mem_singleton.mp hy]
            exact mv
        walk_at "g"
        refine k_nLst (by walk_at "sz") (fun p5 H5 n5 s5 e5 => ?_)
        walk_at "g"
        refine ⟨m, p5, S, [u, v], rfl, hM1.sm (sb.trans s5), ok, sq_l e5, wuv, by show 2 ≤ 10000; decide, fun pw ww H6 n6 s6 e6 dw => ?_⟩
        walk_at "g"
        refine k_nTup (by walk_at "sz") (fun T7 H7 n7 s7 e7 => ?_)
        have s57 := s5.trans (s6.trans s7)
        have ed7 := s57 _ _ ed'
        have ep7 := s57 _ _ ep'
        have ew7 := s7 _ _ e6
        have npw : pw ≠ pf := fun z => by rw [z, s5 _ _ ep'] at n6; cases n6
        have npd : pw ≠ pd := fun z => by rw [z, s5 _ _ ed'] at n6; cases n6
        walk_at "g"
        refine k_nDpT (k := kk2 (u, v)) ed7 e7 (by omega) ?_
        have s1x := sm_mut (o := .dT (putK kv' (kk2 (u, v)) (.ref pw))) (sb.trans s57) n13
        have hbw : DpAll K H7 ww ((btsF S u v).map dBt) := by
          unfold btsF
          rw [List.map_map]
          exact dpall_sm s7 dw
        have hprx : PrAt K S (del (upd H7 pd (.dT (putK kv' (kk2 (u, v)) (.ref pw)))) pf) (putK kv' (kk2 (u, v)) (.ref pw)) (prodTo (wsF S) i u (j + 1)) := by
          rw [putK_new _ (pr_none hpr' (prod_new ndW hu hv))]
          have et : prodTo (wsF S) i u (j + 1) = prodTo (wsF S) i u j ++ [(u, v)] := by
            unfold prodTo
            rw [take_more hv, List.map_append, ← List.append_assoc]
            rfl
          rw [et]
          refine pd_app (pr_updD ed7 (pr_sm (del_mono s57) hpr')) (.cons ⟨rfl, pw, ww, rfl, ?_, ?_⟩ .nil)
          · exact (del_updD (K := K) ed7).1 _ _ (by rw [del_ne npw]; exact ew7)
          · exact bts_to (fun _ _ h => (del_updD (K := K) ed7).2 _ _ (del_t ep7 h)) hbw
        have epx : (upd H7 pd (.dT (putK kv' (kk2 (u, v)) (.ref pw)))) pf = some (.lst ws') := (upd_ne nfd).trans ep7
        have ewx : (upd H7 pd (.dT (putK kv' (kk2 (u, v)) (.ref pw)))) pw = some (.lst ww) := (upd_ne npd).trans ew7
        have hmgx : MgAll K (upd H7 pd (.dT (putK kv' (kk2 (u, v)) (.ref pw)))) ws' (((wsF S).take i).flatMap (two1 S) ++ ((wsF S).take j).flatMap (twoF S u)) := pd_imp (fun _ _ h => h.to fun b xs h => by
          rcases h with (h | ⟨v, h⟩) | h
          · exact .inl (.inl (by rw [upd_ne (ne_of h ed7 (fun z => by cases z))]; exact h))
          · exact .inl (.inr ⟨v, by rw [upd_ne (ne_of h ed7 (fun z => by cases z))]; exact h⟩)
          · exact .inr h) (mg_sm s57 hmg')
        have edx : (upd H7 pd (.dT (putK kv' (kk2 (u, v)) (.ref pw)))) pd = some (.dT (putK kv' (kk2 (u, v)) (.ref pw))) := upd_same
        have lww := dpall_len hbw
        rw [List.length_map] at lww
        have hval : valV (putK kv' (kk2 (u, v)) (.ref pw)) (kk2 (u, v)) = some (.ref pw) := by rw [valV_put, if_pos rfl]
        generalize putK kv' (kk2 (u, v)) (.ref pw) = kx at hprx epx ewx hmgx edx s1x hval ⊢
        generalize upd H7 pd (.dT kx) = H8 at hprx epx ewx hmgx edx s1x ⊢
        walk_at "g"
        refine k_nTup (by walk_at "sz") (fun T9 H9 n9 s9 e9 => ?_)
        walk_at "g"
        refine k_nDgT (k := kk2 (u, v)) (s9 _ _ edx) e9 hval ?_
        have ew9 := s9 _ _ ewx
        walk_at "g"
        refine k_dec (fun d => ?_) (fun d => ?_)
        · have d2 : (btsF S u v).length = 2 := by omega
          have ep9 := s9 _ _ epx
          walk_at "g"
          refine k_nTup (by walk_at "sz") (fun T10 H10 n10 s10 e10 => ?_)
          walk_at "g"
          refine k_nTup (by walk_at "sz") (fun T11 H11 n11 s11 e11 => ?_)
          walk_at "g"
          refine k_nTup (by walk_at "sz") (fun T12 H12 n12 s12 e12 => ?_)
          walk_at "g"
          refine k_nTup (by walk_at "sz") (fun T13 H13 n13' s13' e13 => ?_)
          have s913 := s10.trans (s11.trans (s12.trans s13'))
          have ep13 := s913 _ _ ep9
          walk_at "g"
          refine k_append ep13 (by omega) ?_
          walk_at "g"
          refine ⟨⟨_, _, _, _, _, _, _, rfl⟩, sm_mut (s1x.trans (s9.trans s913)) n2, _, kx, upd_same, ?_, ?_, ?_⟩
          · rw [take_flat _ hv, show twoF S u v = [([u, v], (0, true), (1, false))] from if_pos d2, ← List.append_assoc]
            exact pd_app (mg_lst ep13 (mg_sm (s9.trans s913) hmgx)) (.cons ⟨T13, T10, T11, T12, rfl, t_lst ep13 (sq_t e13), t_lst ep13 (sq_t ((s11.trans (s12.trans s13')) _ _ e10)), t_lst ep13 (sq_t ((s12.trans s13') _ _ e11)), t_lst ep13 (sq_t (s13' _ _ e12))⟩ .nil)
          · rw [upd_ne (Ne.symm nfd)]
            exact (s9.trans s913) _ _ edx
          · rw [del_upd]
            exact pr_sm (del_mono (s9.trans s913)) hprx
        · have d2 : ¬ (btsF S u v).length = 2 := by omega
          walk_at "g"
          refine ⟨⟨_, _, _, _, _, _, _, rfl⟩, s1x.trans s9, _, kx, s9 _ _ epx, ?_, s9 _ _ edx, pr_sm (del_mono s9) hprx⟩
          rw [take_flat _ hv, show twoF S u v = [] from if_neg d2, List.append_nil]
          exact mg_sm s9 hmgx
    case hue =>
      obtain ⟨⟨y4, y5, y6, y7, y8, y9, y10, y11, rfl⟩, sa, ws, kv, ep, hmg, ed, hpr⟩ := h
      rw [lT, prodTo_end] at hpr
      rw [lT, List.take_length] at hmg
      have sG : Same (del H' pf) H' := fun b o e => by
        unfold del at e
        split at e
        · cases e
        · exact e
      have hpr4 := pr_sm sG hpr
      have e4s := sm_l sa e1s
      have sH4 := s1.trans sa
      clear hpr sG
      generalize hH4 : H' = H4 at *
      clear hH4
      walk_at "g"
      refine k_nFor (walk_list (xs := tS (wsF S))) (fun i σ H' => (∃ pf' y4 y5 y6 y7 y8 y9 y10 y11 ws, σ = [some (.ref m), some (.ref ps), some (.ref pf'), some (.ref pd), y4, y5, y6, y7, y8, y9, y10, y11] ∧ H' pf' = some (.lst ws) ∧ MgAll K H' ws (twosF S ++ ((wsF S).take i).flatMap (three1 S))) ∧ Same H4 H') ⟨⟨pf, _, _, _, _, _, _, _, _, ws, rfl, ep, by rw [List.take_zero, List.flatMap_nil, List.append_nil]; exact hmg⟩, Same.refl _⟩ (fun i σ H' _ h => sm_l h.2 e4s) (fun i x σ Ha Hb hi h hy => ?h1) (fun σ H' h => ?h1e)
      case h1e =>
        obtain ⟨⟨pf', y4, y5, y6, y7, y8, y9, y10, y11, ws', rfl, ep', hmg'⟩, sb⟩ := h
        rw [lT, List.take_length, ← blocks_eq] at hmg'
        walk_at "g"
        exact q pf' ws' H' (sH4.trans sb) ep' hmg'
      case h1 =>
        obtain ⟨⟨pf1, y4, y5, y6, y7, y8, y9, y10, y11, ws1, rfl, ep1, hmg1⟩, sb⟩ := h
        obtain ⟨rfl, hv⟩ := hy
        obtain ⟨u, hu, rfl⟩ := map_get hv
        have mu := List.mem_of_getElem? hu
        have edb := sb _ _ ed
        have hprb := pr_sm sb hpr4
        have e4b := sm_l sb e4s
        walk_at "g"
        refine k_nLc (walk_list (xs := tS (wsF S))) (fun H' s => sm_l s e4b) (fun i zs => zs = tS (((wsF S).take i).filter (nzF S u))) rfl (fun i zs hi h => ?hz1) (fun i x Hc Hd zs Kp Ks hi sc hzs hy hKp hKs => ?ht1) (fun p5 H5 zs n5 s5 e5 hzs => ?he1)
        case hz1 =>
          rw [h, len_tS]
          have := List.length_filter_le (nzF S u) ((wsF S).take i)
          have := take_le lW i
          omega
        case ht1 =>
          obtain ⟨rfl, hv2⟩ := hy
          obtain ⟨v, hv, rfl⟩ := map_get hv2
          have mv := List.mem_of_getElem? hv
          obtain ⟨pl, wl, ev, el, dl⟩ := pr_val (pr_sm sc hprb) (prod_mem mu mv)
          have edc := sc _ _ edb
          walk_at "g"
          refine ⟨rfl, ?_⟩
          walk_at "g"
          refine k_nTup (by walk_at "sz") (fun T6 H6 n6 s6 e6 => ?_)
          walk_at "g"
          refine k_nDgT (k := kk2 (u, v)) (s6 _ _ edc) e6 ev ?_
          walk_at "g"
          refine k_nLst (by walk_at "sz") (fun p7 H7 n7 s7 e7 => ?_)
          have s67 := s6.trans s7
          refine k_btNil (sq_l (s67 _ _ el)) (dpall_sm s67 dl) (sq_l e7) ?_
          walk_at "g"
          refine k_dec (fun d => ?_) (fun d => ?_)
          · walk_at "g"
            refine hKs _ s67 ?_
            rw [hzs, take_more hv, List.filter_append, List.filter_cons_of_neg (by unfold nzF; rw [decide_eq_true d]; exact Bool.false_ne_true), List.filter_nil, List.append_nil]
          · walk_at "g"
            refine hKp _ _ s67 ?_
            rw [hzs, take_more hv, List.filter_append, List.filter_cons_of_pos (by unfold nzF; rw [decide_eq_false d]; rfl), List.filter_nil, tS_app]
            rfl
        case he1 =>
          rw [lT, List.take_length] at hzs
          subst hzs
          have sb5 := sb.trans s5
          have e5s := sq_l (K := K) e5
          have lW1 : ((wsF S).filter (nzF S u)).length ≤ 14 := Nat.le_trans (List.length_filter_le ..) lW
          have lT1 : (tS ((wsF S).filter (nzF S u))).length = ((wsF S).filter (nzF S u)).length := len_tS _
          walk_at "g"
          refine k_nFor (walk_list (xs := tS ((wsF S).filter (nzF S u)))) (fun j σ H' => (∃ pf' y5 y6 y7 y8 y9 y10 y11 ws, σ = [some (.ref m), some (.ref ps), some (.ref pf'), some (.ref pd), some (.str (tx u)), y5, y6, y7, y8, y9, y10, y11] ∧ H' pf' = some (.lst ws) ∧ MgAll K H' ws ((twosF S ++ ((wsF S).take i).flatMap (three1 S)) ++ (((wsF S).filter (nzF S u)).take j).flatMap (law2 S u))) ∧ Same H5 H') ⟨⟨pf1, _, _, _, _, _, _, _, ws1, rfl, s5 _ _ ep1, by rw [List.take_zero, List.flatMap_nil, List.append_nil]; exact mg_sm s5 hmg1⟩, Same.refl _⟩ (fun i σ H' _ h => sm_l h.2 e5s) (fun j x σ Hc Hd hj h hy => ?h2) (fun σ H' h => ?h2e)
          case h2e =>
            obtain ⟨⟨pf2, y5, y6, y7, y8, y9, y10, y11, ws2, rfl, ep2, hmg2⟩, sc⟩ := h
            rw [lT1, List.take_length, law1_eq, List.append_assoc] at hmg2
            refine ⟨⟨pf2, _, _, _, _, _, _, _, _, ws2, rfl, ep2, ?_⟩, sb5.trans sc⟩
            rw [take_flat _ hu]
            exact hmg2
          case h2 =>
            obtain ⟨⟨pf2, y5, y6, y7, y8, y9, y10, y11, ws2, rfl, ep2, hmg2⟩, sc⟩ := h
            obtain ⟨rfl, hv2⟩ := hy
            obtain ⟨v, hv, rfl⟩ := map_get hv2
            obtain ⟨mv, nzv⟩ := List.mem_filter.mp (List.mem_of_getElem? hv)
            have sbc := sb5.trans sc
            have edc := sbc _ _ ed
            have hprc := pr_sm sbc hpr4
            have e4c := sm_l sbc e4s
            walk_at "g"
            refine k_nLc (walk_list (xs := tS (wsF S))) (fun H' s => sm_l s e4c) (fun i zs => zs = tS (((wsF S).take i).filter (nzF S v))) rfl (fun i zs hi h => ?hz2) (fun i x He Hf zs Kp Ks hi sd hzs hy hKp hKs => ?ht2) (fun p6 H6 zs n6 s6 e6 hzs => ?he2)
            case hz2 =>
              rw [h, len_tS]
              have := List.length_filter_le (nzF S v) ((wsF S).take i)
              have := take_le lW i
              omega
            case ht2 =>
              obtain ⟨rfl, hv3⟩ := hy
              obtain ⟨z, hz, rfl⟩ := map_get hv3
              have mz := List.mem_of_getElem? hz
              obtain ⟨pl, wl, ev, el, dl⟩ := pr_val (pr_sm sd hprc) (prod_mem mv mz)
              have edd := sd _ _ edc
              walk_at "g"
              refine ⟨rfl, ?_⟩
              walk_at "g"
              refine k_nTup (by walk_at "sz") (fun T7 H7 n7 s7 e7 => ?_)
              walk_at "g"
              refine k_nDgT (k := kk2 (v, z)) (s7 _ _ edd) e7 ev ?_
              walk_at "g"
              refine k_nLst (by walk_at "sz") (fun p8 H8 n8 s8 e8 => ?_)
              have s78 := s7.trans s8
              refine k_btNil (sq_l (s78 _ _ el)) (dpall_sm s78 dl) (sq_l e8) ?_
              walk_at "g"
              refine k_dec (fun d => ?_) (fun d => ?_)
              · walk_at "g"
                refine hKs _ s78 ?_
                rw [hzs, take_more hz, List.filter_append, List.filter_cons_of_neg (by unfold nzF; rw [decide_eq_true d]; exact Bool.false_ne_true), List.filter_nil, List.append_nil]
              · walk_at "g"
                refine hKp _ _ s78 ?_
                rw [hzs, take_more hz, List.filter_append, List.filter_cons_of_pos (by unfold nzF; rw [decide_eq_false d]; rfl), List.filter_nil, tS_app]
                rfl
            case he2 =>
              rw [lT, List.take_length] at hzs
              subst hzs
              have sb6 := sbc.trans s6
              have e6s := sq_l (K := K) e6
              have lW2 : ((wsF S).filter (nzF S v)).length ≤ 14 := Nat.le_trans (List.length_filter_le ..) lW
              have lT2 : (tS ((wsF S).filter (nzF S v))).length = ((wsF S).filter (nzF S v)).length := len_tS _
              walk_at "g"
              refine k_nFor (walk_list (xs := tS ((wsF S).filter (nzF S v)))) (fun k σ H' => (∃ pf' y7 y8 y9 y10 y11 ws, σ = [some (.ref m), some (.ref ps), some (.ref pf'), some (.ref pd), some (.str (tx u)), y5, some (.str (tx v)), y7, y8, y9, y10, y11] ∧ H' pf' = some (.lst ws) ∧ MgAll K H' ws (((twosF S ++ ((wsF S).take i).flatMap (three1 S)) ++ (((wsF S).filter (nzF S u)).take j).flatMap (law2 S u)) ++ (((wsF S).filter (nzF S v)).take k).flatMap (law3 S u v))) ∧ Same H6 H') ⟨⟨pf2, _, _, _, _, _, ws2, rfl, s6 _ _ ep2, by rw [List.take_zero, List.flatMap_nil, List.append_nil]; exact mg_sm s6 hmg2⟩, Same.refl _⟩ (fun i σ H' _ h => sm_l h.2 e6s) (fun k x σ Hg Hh hk h hy => ?h3) (fun σ H' h => ?h3e)
              case h3e =>
                obtain ⟨⟨pf3, y7, y8, y9, y10, y11, ws3, rfl, ep3, hmg3⟩, sd⟩ := h
                rw [lT2, List.take_length, List.append_assoc] at hmg3
                refine ⟨⟨pf3, _, _, _, _, _, _, _, ws3, rfl, ep3, ?_⟩, sc.trans (s6.trans sd)⟩
                rw [take_flat _ hv]
                exact hmg3
              case h3 =>
                obtain ⟨⟨pf3, y7, y8, y9, y10, y11, ws3, rfl, ep3, hmg3⟩, sd⟩ := h
                obtain ⟨rfl, hv3⟩ := hy
                obtain ⟨z, hz, rfl⟩ := map_get hv3
                obtain ⟨mz, nzz⟩ := List.mem_filter.mp (List.mem_of_getElem? hz)
                have sbd := sb6.trans sd
                have edd := sbd _ _ ed
                have lws := pd_len hmg3
                have l1 := twos_len ok
                have l2 := three0_len ok _ (take_le lW i)
                have l3 := law1_len ok u _ (take_le lW1 j)
                have l4 := law2_len (S := S) u v _ (take_le lW2 k)
                rw [List.length_append, List.length_append, List.length_append] at lws
                obtain ⟨pl1, wa, ev1, ea1, da1⟩ := pr_val (pr_sm sbd hpr4) (prod_mem mu mv)
                obtain ⟨pl2, wb, ev2, ea2, da2⟩ := pr_val (pr_sm sbd hpr4) (prod_mem mv mz)
                have lwb := dpall_len da2
                rw [List.length_map] at lwb
                have lb1 := btsF_len S u v
                have lb2 := btsF_len S v z
                walk_at "g"
                refine k_nTup (by walk_at "sz") (fun T7 H7 n7 s7 e7 => ?_)
                have ea27 := s7 _ _ ea2
                walk_at "g"
                refine k_nDgT (k := kk2 (v, z)) (s7 _ _ edd) e7 ev2 ?_
                walk_at "g"
                refine k_nLcD (walk_list (xs := wb)) (fun H' s => sq_l (s _ _ ea27)) (fun i zs H' => DpAll K H' zs (((btsF S v z).take i).map fun b => dBt (shB b))) (fun i zs Ha Hb s h => dpall_sm s h) .nil (fun i zs Ha hi h => ?hz6) (fun i x p Hi Hj zs Kp Ks hi hp se epx hzs hy hKp hKs => ?ht6) (fun p10 H10 zs n10 s10 e10 hzs => ?he6)
                case hz6 =>
                  have := dpall_len h
                  rw [List.length_map, List.length_take] at this
                  omega
                case ht6 =>
                  obtain ⟨rfl, hw⟩ := hy
                  obtain ⟨tb, b, rfl, hb, hbt⟩ := bt_of (dpall_sm (s7.trans se) da2) hw
                  have hbt2 : SqT K _ tb [.int (b.1 : Nat), .str (sdS b.2)] := hbt
                  walk_at "g"
                  refine ⟨rfl, ?_⟩
                  walk_at "g"
                  refine k_nTup (by walk_at "sz") (fun T2 H11 n11 s11 e11 => ?_)
                  have nT : T2 ≠ p := fun z => by rw [z, epx] at n11; cases n11
                  refine hKp _ _ s11 ?_
                  rw [take_more hb, List.map_append]
                  refine dpall_app (dpall_sm (del_mono s11) hzs) (.tup (sq_t (by rw [del_ne nT]; exact e11)) (.cons ?_ (.cons (.str _) .nil)))
                  exact .int _
                case he6 =>
                  rw [lwb, List.take_length] at hzs
                  have s710 := s7.trans s10
                  walk_at "g"
                  refine k_nTup (by walk_at "sz") (fun T11 H11 n11 s11 e11 => ?_)
                  walk_at "g"
                  refine k_nTup (by walk_at "sz") (fun T12 H12 n12 s12 e12 => ?_)
                  have s712 := s710.trans (s11.trans s12)
                  walk_at "g"
                  refine k_nDgT (k := kk2 (u, v)) (s712 _ _ edd) e12 ev1 ?_
                  walk_at "g"
                  refine ⟨T11, pl1, p10, [u, v, z], btsF S u v, (btsF S v z).map shB, wa, zs, rfl, sq_t (s12 _ _ e11), sq_l (s712 _ _ ea1), dpall_sm s712 da1, sq_l ((s11.trans s12) _ _ e10), by rw [List.map_map]; exact dpall_sm (s11.trans s12) hzs, by omega, by rw [List.length_map]; omega, fun p13 w13 H13 n13' s13' e13' hm13 => ?_⟩
                  have ll := pd_len hm13
                  have lp := pairedF_len [u, v, z] (btsF S u v) ((btsF S v z).map shB)
                  rw [List.length_map] at lp
                  have lq : (btsF S u v).length * (btsF S v z).length ≤ 2 * 2 := Nat.mul_le_mul lb1 lb2
                  have s713 := s712.trans s13'
                  walk_at "g"
                  refine k_add_l (s713 _ _ ep3) e13' (by omega) (fun p14 H14 n14 s14 e14 => ?_)
                  walk_at "g"
                  refine ⟨⟨p14, _, _, _, _, _, _, rfl, e14, ?_⟩, sd.trans (s713.trans s14)⟩
                  rw [take_flat _ hz, ← List.append_assoc]
                  exact pd_app (mg_sm (s713.trans s14) hmg3) (mg_sm s14 hm13)
/-! ### the law's own ends; where two part -/
def spLEnd (K : PySem.W.Frag) : Sp := fun vs H Q _ => ∃ (m r : Addr) (S : HsD) (us : Rw), vs = [.ref m, .ref r] ∧ MAt K H m S ∧ HsOk S ∧ SqL K H r (tS us) ∧ AllW S us ∧ us.length ≤ 1000 ∧ ∀ p H', H p = none → Same H H' → H' p = some (.lst (tS (runF S ordF 60 0 us).1)) → Q (.ref p) H'
theorem ok_Lend (F : FnP K "_law_end" s_Lend f fd) (hm : mg "_law_end" = some (.ref f)) (c_Lgone : Callee P w K mg base CX0 "_law_gone" 4 [] (spLGone K)) : Callee P w K mg base CX0 "_law_end" 5 [] (spLEnd K) := by
  refine ⟨f, fd, _, [], F.ok sc_Lend (fun vs H Q E h => ?hl) (fun cdv A outer s H vs Q E hr h => ⟨_, PSs.nox (pss_one (ps_ret (pe_ix (ix_k K) (pe_cl c_Lgone hr (pa_cons (pv 0) (pa_cons (pv 1) (pa_cons pe_str (pa_cons pe_int pa_nil)))) pass0) pe_int (fun _ _ => rfl)))), ?rd⟩), hm, F.kp, F.bindsN fun _ _ _ _ _ _ us hl => match us, hl with | [_, _], _ => rfl, .nil⟩
  case hl =>
    obtain ⟨m, r, S, us, rfl, _⟩ := h
    rfl
  case rd =>
    obtain ⟨m, r, S, us, rfl, hM, ok, hr, hw, lu, q⟩ := h
    refine k_start (σ' := [some _, some _]) rfl ?_
    walk_at "g"
    refine ⟨m, r, .str (Str.ofString "first"), S, us, ordF, 60, rfl, hM, ok, hr, hw, rfl, ⟨good_first.1, by decide +kernel⟩, rfl, by omega, fun T p ps ws H1 _ s1 e1 np nps ne ep eps dps => ?_⟩
    walk_at "g"
    exact q p H1 np s1 ep
def spLParted (K : PySem.W.Frag) : Sp := fun vs H Q _ => ∃ (m : Addr) (S : HsD), vs = [.ref m] ∧ MAt K H m S ∧ HsOk S ∧ ∀ H', Same H H' → Q (.bl (partF S).isSome) H'
theorem ok_Lis_parted (F : FnP K "_law_is_parted" s_Lis_parted f fd) (hm : mg "_law_is_parted" = some (.ref f)) (f_list : mg "list" = none) (c_Lblocks : Callee P w K mg base CX0 "_law_blocks" 4 [] (spLBlocks K)) (c_Lend : Callee P w K mg base CX0 "_law_end" 5 [] (spLEnd K)) (c_Lbehind : Callee P w K mg base CX0 "_law_behind" 2 [] (spLBehind K)) : Callee P w K mg base CX0 "_law_is_parted" 6 [] (spLParted K) := by
  refine ⟨f, fd, _, [], F.ok sc_Lis_parted (fun vs H Q E h => ?hl) (fun cdv A outer s H vs Q E hr h => ⟨_, PSs.nox (pss_cons (ps_for PassesOwn.never rfl (pi_listK K (pe_cl c_Lblocks hr (pa_cons (pv 0) pa_nil) pass0)) (pg_tupK K 3 (by rfl) (pgs_cons (pg_name (i := 1) sc_Lis_parted.nd rfl (by first | exact Or.inl rfl | exact Or.inr rfl)) (pgs_cons (pg_name (i := 2) sc_Lis_parted.nd rfl (by first | exact Or.inl rfl | exact Or.inr rfl)) (pgs_cons (pg_name (i := 3) sc_Lis_parted.nd rfl (by first | exact Or.inl rfl | exact Or.inr rfl)) pgs_nil)))) (pss_cons (ps_setLc (i := 4) (own := [("_law_bite", 5)]) rfl sc_Lis_parted.nd rfl rfl (sw_true rfl rfl rfl (by decide +kernel)) (pi_tupK K (pe_tup (pa_cons (pv 2) (pa_cons (pv 3) pa_nil)))) (blkOk_by (N := ["_law_m", "_law_row", "_law_one_here", "_law_other", "_law_ends_of", "_law_bite"]) (sc := defScope s_Lis_parted) (by decide +kernel)) (fun _ _ _ _ _ => (pg_name (i := 5) sc_Lis_parted.nd rfl (by first | exact Or.inl rfl | exact Or.inr rfl))) (fun _ _ _ _ _ => pts_nil) (fun _ _ _ _ _ => (pe_cl c_Lend hr (pa_cons (pv 0) (pa_cons (pe_cl c_Lbehind hr (pa_cons (pv 0) (pa_cons (pe_callTy (call_listK K) (by rfl) f_list (by decide +kernel) (pa_cons (pv 1) pa_nil)) (pa_cons (pe_ix (ix_k K) (pv 5) pe_int (fun _ _ => rfl)) (pa_cons (pe_ix (ix_k K) (pv 5) pe_int (fun _ _ => rfl)) pa_nil)))) pass0) pa_nil)) pass0)))
      (pss_one (ps_if (pt_cmpR (op_neK K hr.units) (pe_ix (ix_k K) (pv 4) pe_int (fun _ _ => rfl)) (pe_ix (ix_k K) (pv 4) pe_int (fun _ _ => rfl)) (nomark _)) (pss_one (ps_ret pe_bl)) pss_nil))))
      (pss_one (ps_ret pe_bl))), ?rd⟩), hm, F.kp, F.bindsN fun _ _ _ _ _ _ us hl => match us, hl with | [_], _ => rfl, .nil⟩
  case hl =>
    obtain ⟨m, S, rfl, _⟩ := h
    rfl
  case rd =>
    obtain ⟨m, S, rfl, hM, ok, q⟩ := h
    refine k_start (σ' := [some _, none, none, none, none, none]) rfl ?_
    walk_at "g"
    refine ⟨m, S, rfl, hM, ok, fun pb wb H1 s1 e1 hmg => ?_⟩
    have e1s := sq_l (K := K) e1
    have hM1 := hM.sm s1
    have lb := pd_len hmg
    walk_at "g"
    refine k_nFor (walk_list (xs := wb)) (fun i σ H' => (∃ y1 y2 y3 y4 y5, σ = [some (.ref m), y1, y2, y3, y4, y5]) ∧ Same H1 H' ∧ (∀ k y, k < i → (blocksF S)[k]? = some y → partsF S y = false)) ⟨⟨_, _, _, _, _, rfl⟩, Same.refl _, fun k y hk _ => absurd hk (Nat.not_lt_zero _)⟩ (fun i σ H' _ h => sm_l h.2.1 e1s) (fun i x σ Ha Hb hi h hy => ?ht) (fun σ H' h => ?he)
    case he =>
      obtain ⟨⟨y1, y2, y3, y4, y5, rfl⟩, sa, hno⟩ := h
      have en : partF S = none := find_not fun k y hk => hno k y (by rw [lb]; exact (List.getElem?_eq_some_iff.mp hk).1) hk
      rw [en] at q
      walk_at "g"
      exact q _ (s1.trans sa)
    case ht =>
      obtain ⟨⟨y1, y2, y3, y4, y5, rfl⟩, sa, hno⟩ := h
      obtain ⟨rfl, hv⟩ := hy
      obtain ⟨x, hx, T, Tr, T1, T2, rfl, hT, hTr, hb1, hb2⟩ := pd_at (mg_sm sa hmg) hv
      have hok := block_ok x (List.mem_of_getElem? hx)
      have hMa := hM1.sm sa
      walk_at "g"
      refine k_nTup (by walk_at "sz") (fun T5 H5 n5 s5 e5 => ?_)
      have e5s := sq_t (K := K) e5
      walk_at "g"
      refine k_nLcD (walk_tup (xs := [V.ref T1, V.ref T2])) (fun H' s => sm_t s e5s) (fun i zs H' => Paired (fun v u => ∃ p, v = .ref p ∧ H' p = some (.lst (tS u))) zs (([x.2.1, x.2.2].take i).map fun b => (goneF S x.1 b).1)) (fun i zs Hc Hd s h => pd_imp (fun _ _ ⟨p, h1, h2⟩ => ⟨p, h1, s _ _ h2⟩) h) .nil (fun i zs Hc hi h => ?hz2) (fun i v p Hc Hd zs Kp Ks hi hp sc ec hzs hy hKp hKs => ?ht2) (fun p6 H6 zs n6 s6 e6 hzs => ?he2)
      case hz2 =>
        have := pd_len h
        rw [List.length_map, List.length_take] at this
        have : [x.2.1, x.2.2].length = 2 := rfl
        omega
      case ht2 =>
        obtain ⟨rfl, hv2⟩ := hy
        have s5c := s5.trans sc
        obtain ⟨t, b, rfl, hb, hbt, hbm⟩ : ∃ t b, v = .ref t ∧ [x.2.1, x.2.2][i]? = some b ∧ BtT K Hd t b ∧ ∃ mm, behF S x.1 (b.1 : Nat) b.2 = some mm := by
          have hi2 : i < 2 := hi
          have : i = 0 ∨ i = 1 := by omega
          rcases this with rfl | rfl
          · cases hv2
            exact ⟨T1, x.2.1, rfl, rfl, hb1.sm s5c, hok.a⟩
          · cases hv2
            exact ⟨T2, x.2.2, rfl, rfl, hb2.sm s5c, hok.b⟩
        obtain ⟨mm, em⟩ := hbm
        have hbt' : SqT K Hd t [.int (b.1 : Nat), .str (sdS b.2)] := hbt
        have hTrc := sm_t s5c hTr
        have l3 := hok.l
        walk_at "g"
        refine ⟨rfl, ?_⟩
        walk_at "g"
        refine k_list_t hTrc (fun pl H7 n7 s7 e7 => ?_)
        have hbt7 := sm_t s7 hbt'
        walk_at "g"
        refine ⟨m, pl, S, x.1, (b.1 : Nat), sdS b.2, rfl, hMa.sm (s5c.trans s7), ok, sq_l e7, hok.w, by omega, fun v8 H8 s8 hv8 => ?_⟩
        rw [behS_sd, em] at hv8
        obtain ⟨p8, rfl, np8, ep8⟩ := hv8
        obtain ⟨wm, lm⟩ := behF_words ok hok.w em
        walk_at "g"
        refine ⟨m, p8, S, mm, rfl, hMa.sm (s5c.trans (s7.trans s8)), ok, sq_l ep8, wm, by omega, fun p9 H9 n9 s9 e9 => ?_⟩
        have s79 := s7.trans (s8.trans s9)
        have np9 : p9 ≠ p := fun z => by rw [z, (s7.trans s8) _ _ ec] at n9; cases n9
        have eg : goneF S x.1 b = runF S ordF 60 0 mm := by
          unfold goneF behD
          rw [em]
          rfl
        refine hKp _ _ s79 ?_
        rw [take_more hb, List.map_append]
        refine pd_app (pd_imp (fun _ _ ⟨p, h1, h2⟩ => ⟨p, h1, del_mono s79 _ _ h2⟩) hzs) (.cons ⟨p9, rfl, ?_⟩ .nil)
        rw [del_ne np9]
        show H9 p9 = some (.lst (tS (goneF S x.1 b).1))
        rw [eg]
        exact e9
      case he2 =>
        obtain ⟨z1, z2, rfl⟩ : ∃ z1 z2, zs = [z1, z2] := by
          have := pd_len hzs
          match zs, (show zs.length = 2 from this) with
          | [z1, z2], _ => exact ⟨z1, z2, rfl⟩
        obtain ⟨_, hq1, q1, rfl, eq1⟩ := pd_at (i := 0) hzs rfl
        obtain ⟨_, hq2, q2, rfl, eq2⟩ := pd_at (i := 1) hzs rfl
        cases hq1
        cases hq2
        obtain ⟨wg1, lg1, _⟩ := gone_small ok hok x.2.1 hok.a
        obtain ⟨wg2, lg2, _⟩ := gone_small ok hok x.2.2 hok.b
        have s56 := s5.trans s6
        walk_at "g"
        refine k_ne_d (.lst (sq_l eq1) (dp_tS _)) (.lst (sq_l eq2) (dp_tS _)) ((good_allW ok wg1 (by omega) 1).shaped (by decide)) ((good_allW ok wg2 (by omega) 1).shaped (by decide)) ?_
        rw [eqv_rows]
        walk_at "g"
        refine k_dec (fun d => ?_) (fun d => ?_)
        · have hno' : partsF S x = false := by
            unfold partsF
            rw [decide_eq_true d]
            rfl
          walk_at "g"
          refine ⟨⟨_, _, _, _, _, rfl⟩, sa.trans s56, fun k y hk hy => ?_⟩
          rcases Nat.lt_succ_iff_lt_or_eq.mp hk with hk | rfl
          · exact hno k y hk hy
          · rw [hx] at hy
            cases hy
            exact hno'
        · have hyes : partsF S x = true := by
            unfold partsF
            rw [decide_eq_false d]
            rfl
          have en : partF S = some x := find_at hx hyes hno
          rw [en] at q
          walk_at "g"
          exact q _ (s1.trans (sa.trans s56))
end
end Lw
set_option autoImplicit true
set_option pp.maxSteps 1200
set_option Elab.async false
set_option linter.all false
set_option maxRecDepth 100000
set_option maxHeartbeats 1000000
namespace Lw
open PySem PySem.Spec PyProof.Rows L2 Gk
open LamX hiding takes0

local macro_rules | `(tactic| walk_at "hp") => `(tactic| first | assumption | exact upd_same | (refine' (upd_ne ?n).trans ?h; (case n => assumption); (case h => walk_at "hp")) | (refine' sm_get ?s ?h; (case s => assumption); (case h => walk_at "hp")))
local macro_rules | `(tactic| walk_at "sq") => `(tactic| first | assumption | (refine' sq_l ?h; (case h => walk_at "hp")) | (refine' sm_l ?s ?h; (case s => assumption); (case h => walk_at "sq")))
local macro_rules | `(tactic| walk_at "st") => `(tactic| first | assumption | (refine' sq_t ?h; (case h => walk_at "hp")) | (refine' sm_t ?s ?h; (case s => assumption); (case h => walk_at "st")))
local macro_rules | `(tactic| walk_at "bg") => `(tactic| first | assumption | (refine' BagOk.sm ?s ?h; (case s => assumption); (case h => walk_at "bg")))
local macro_rules | `(tactic| walk_at "sm") => `(tactic| first | assumption | exact Same.refl _ | (refine' Same.trans ?h ?s; (case s => assumption); (case h => walk_at "sm")))
local macro_rules | `(tactic| walk_at "hs") => `(tactic| first | assumption | (refine' HsAt.sm ?s ?h; (case s => assumption); (case h => walk_at "hs")))
local macro_rules | `(tactic| walk_at "ms") => `(tactic| first | assumption | (refine' MAt.sm ?s ?h; (case s => assumption); (case h => walk_at "ms")))
local macro_rules | `(tactic| walk_at "md") => `(tactic| first | assumption | (refine' MDk.sm ?s ?h; (case s => assumption); (case h => walk_at "md")))
local macro_rules | `(tactic| walk_at "dp") => `(tactic| first | assumption | (refine' dp_sm ?s ?h; (case s => assumption); (case h => walk_at "dp")))
local macro_rules | `(tactic| walk_at "sz") => `(tactic| first | decide | assumption | omega | (simp only [List.length_cons, List.length_nil, List.length_map, List.length_append]; omega))
local macro_rules | `(tactic| walk_at "g1") => `(tactic| first
  | with_reducible refine k_seq ?_
  | with_reducible refine k_itB ?_
  | with_reducible refine k_next ?_
  | with_reducible refine k_asg ?_
  | with_reducible refine k_name ?_
  | with_reducible refine k_ret ?_
  | with_reducible refine k_retN ?_
  | with_reducible refine k_drop ?_
  | with_reducible refine k_ifs ?_
  | with_reducible refine k_brk ?_
  | with_reducible refine k_cont ?_
  | with_reducible refine k_ipI ?_
  | with_reducible refine k_test ?_
  | with_reducible refine k_tB ?_
  | with_reducible refine k_bl ?_
  | with_reducible refine k_not ?_
  | with_reducible refine k_and ?_
  | with_reducible refine k_or ?_
  | with_reducible refine k_yes ?_
  | with_reducible refine k_true ?_
  | with_reducible refine k_false ?_
  | with_reducible refine k_nt ?_
  | with_reducible refine k_c ?_
  | with_reducible refine k_op ?_
  | with_reducible refine k_un ?_
  | with_reducible refine k_if ?_
  | with_reducible refine k_chain ?_
  | with_reducible refine k_nil ?_
  | with_reducible refine k_cons ?_
  | with_reducible refine k_cb ?_
  | with_reducible refine k_call ?_
  | with_reducible refine k_callS ?_
  | with_reducible refine k_andV ?_
  | with_reducible refine k_orV ?_
  | with_reducible refine k_notV ?_
  | with_reducible refine k_lst ?_
  | with_reducible refine k_tup ?_
  | with_reducible refine k_nopart ?_
  | with_reducible refine k_part ?_
  | with_reducible refine k_nInt ?_
  | with_reducible refine k_sl ?_
  | with_reducible refine k_bm ?_
  | with_reducible refine k_bm0 ?_
  | with_reducible refine k_nTyS ?_
  | with_reducible refine k_m1 ?_
  | with_reducible refine k_m0 ?_
  | with_reducible refine k_nStr ?_
  | with_reducible refine k_I0 ?_
  | with_reducible refine k_U ?_
  | with_reducible refine k_add_i ?_
  | with_reducible refine k_eq_i ?_
  | with_reducible refine k_eq_s ?_
  | with_reducible refine k_eq_b ?_
  | with_reducible refine k_ne_i ?_
  | with_reducible refine k_ne_s ?_
  | with_reducible refine k_ne_b ?_
  | with_reducible refine k_le_i ?_
  | with_reducible refine k_le_s ?_
  | with_reducible refine k_gnil ?_
  | with_reducible refine k_gcons ?_
  | with_reducible refine k_gsub ?_
  | with_reducible refine k_for ?_
  | with_reducible refine k_lc ?_
  | with_reducible refine k_rng1 ?_
  | with_reducible refine k_rng2 ?_
  | with_reducible refine k_itl ?_
  | with_reducible refine k_itt ?_
  | with_reducible refine k_its ?_
  | with_reducible refine k_ite ?_
  | with_reducible refine k_iteB ?_
  | with_reducible refine k_lrg2 ?_
  | with_reducible refine k_itz ?_
  | with_reducible refine k_nIts ?_
  | with_reducible refine k_inS ?_
  | with_reducible refine k_niS ?_
  | with_reducible refine k_mk ?_
  | with_reducible refine k_meth ?_
  | with_reducible refine k_fld ?_
  | with_reducible refine k_sfld ?_
  | with_reducible refine k_dg ?_
  | with_reducible refine k_dp ?_
  | with_reducible refine k_pr ?_
  | with_reducible refine k_pr0 ?_
  | with_reducible refine k_sg ?_
  | with_reducible refine k_lc2 ?_
  | with_reducible refine k_callN ?_
  | with_reducible refine k_callNS ?_
  | with_reducible refine k_par ?_
  | with_reducible refine k_nPar ?_
  | with_reducible refine k_isNn ?_
  | with_reducible refine k_isNr ?_
  | with_reducible refine k_ntNn ?_
  | with_reducible refine k_ntNr ?_
  | with_reducible refine k_min2 ?_
  | with_reducible refine k_max2 ?_
  | with_reducible refine k_intB ?_
  | with_reducible refine k_intI ?_
  | with_reducible refine k_isBl ?_
  | with_reducible refine k_ntBl ?_
  | ((with_reducible refine' k_var ?kv ?_); (case kv => exact rfl))
  | ((with_reducible refine' k_aug ?kv ?_); (case kv => exact rfl))
  | ((with_reducible refine' k_ix_l ?ks ?ki ?_); (case ks => walk_at "sq"); (case ki => exact rfl))
  | ((with_reducible refine' k_ix_t ?ks ?ki ?_); (case ks => walk_at "st"); (case ki => exact rfl))
  | ((with_reducible refine' k_len_l ?ks ?_); (case ks => walk_at "sq"))
  | ((with_reducible refine' k_len_t ?ks ?_); (case ks => walk_at "st"))
  | ((with_reducible refine' k_setL ?ks ?ki ?_); (case ks => walk_at "hp"); (case ki => exact rfl))
  | ((with_reducible refine' k_nTyL ?ks ?_); (case ks => walk_at "sq"))
  | ((with_reducible refine' k_nItl ?ks ?_); (case ks => walk_at "sq"))
  | ((with_reducible refine' k_nItt ?ks ?_); (case ks => walk_at "st"))
  | ((with_reducible refine' k_nIte ?ks ?_); (case ks => walk_at "sq"))
  | ((with_reducible refine' k_mul ?km ?_); (case km => first | exact Or.inr ⟨by decide, by decide⟩ | exact Or.inl ⟨by decide, by decide⟩))
  | ((with_reducible refine' k_I ?km ?_); (case km => first | assumption | decide | exact ⟨by decide, by decide +kernel⟩ | exact ⟨by decide, by decide, by decide⟩))
  | ((with_reducible refine' k_nMeth ?kp ?kl ?_); (case kp => walk_at "hp"); (case kl => exact rfl))
  | ((with_reducible refine' k_nFld ?kp ?kc ?kn ?kl ?_); (case kp => walk_at "hp"); (case kc => assumption); (case kn => assumption); (case kl => exact rfl))
  | ((with_reducible refine' k_nSFld ?kp ?kc ?kn ?kl ?_); (case kp => walk_at "hp"); (case kc => assumption); (case kn => assumption); (case kl => exact of_decide_eq_true rfl))
  | ((with_reducible refine' k_nDg ?kp ?kl ?_); (case kp => walk_at "hp"); (case kl => exact rfl))
  | ((with_reducible refine' k_nRng1 ?k1 ?k2 ?_); (case k1 => omega); (case k2 => omega))
  | ((with_reducible refine' k_nKw ?k1 ?k2 ?_); (case k1 => exact rfl); (case k2 => exact rfl))
  | ((with_reducible refine' k_hsm ?kh ?_); (case kh => walk_at "hs"))
  | ((with_reducible refine' k_nMethH ?kh ?kl ?_); (case kh => walk_at "hs"); (case kl => exact fun _ _ => rfl))
  | ((with_reducible refine' k_mLet ?kh ?_); (case kh => walk_at "ms"))
  | ((with_reducible refine' k_mChew ?kh ?_); (case kh => walk_at "ms"))
  | ((with_reducible refine' k_mPut ?kh ?_); (case kh => walk_at "ms"))
  | ((with_reducible refine' k_mMost ?kh ?_); (case kh => walk_at "ms"))
  | ((with_reducible refine' k_mCut ?kh ?_); (case kh => walk_at "ms"))
  | ((with_reducible refine' k_mTab ?kh ?_); (case kh => walk_at "md"))
  | ((with_reducible refine' k_mEats ?kh ?_); (case kh => walk_at "md"))
  | ((with_reducible refine' k_gtup ?ks ?kl ?_); (case ks => walk_at "st"); (case kl => exact rfl)))
local macro_rules | `(tactic| walk_at "g") => `(tactic| repeat (walk_at "g1"))
local macro_rules | `(tactic| walk_at "w1") => `(tactic| first
  | walk_at "g1"
  | ((with_reducible refine' k_decT ?kp ?_); (case kp => omega))
  | ((with_reducible refine' k_decF ?kp ?_); (case kp => omega))
  | ((with_reducible refine' k_decNT ?kp ?_); (case kp => omega))
  | ((with_reducible refine' k_decNF ?kp ?_); (case kp => omega)))
local macro_rules | `(tactic| walk_at "w") => `(tactic| repeat (walk_at "w1"))


section
variable {P : Program} {w : World} {K : PySem.W.Frag} {mg : Str → Option Value} {base : Heap} {f : Addr} {fd : FuncData}
/-! ### behind a lambda -/
theorem HsAt.ext {H H' : Hp} {a : Addr} {S : HsD} (s : ExtN H H') (h : HsAt K H a S) : HsAt K H' a S := by
  obtain ⟨dx, r, t, R, L, h1, h2, h3, h4, h5, h6, h7, h8, h9⟩ := h
  exact ⟨dx, r, t, R, L, s _ _ h1 (fun ps z => by cases z), ext_t s h2, fun q hq => ext_t s (h3 q hq), h4, ext_t s h5, fun q hq => ext_t s (h6 q hq), h7, h8, h9⟩
theorem MAt.ext {H H' : Hp} {m : Addr} {S : HsD} (s : ExtN H H') (h : MAt K H m S) : MAt K H' m S := by
  obtain ⟨tb, ev, R, L, h1, h2, h3, h4, h5, h6, h7⟩ := h
  obtain ⟨kvs, k0, k1⟩ := h1.ex
  exact ⟨tb, ev, R, L, ⟨kvs, s _ _ k0 (fun ps z => by cases z), k1⟩, ext_l s h2, fun q hq => ext_t s (h3 q hq), h4, ext_l s h5, fun q hq => ext_t s (h6 q hq), h7⟩
/-- the law's table of code objects -/
abbrev PtL (K : PySem.W.Frag) : Addr := (He.cT K ("law", none)).2
abbrev TbL (K : PySem.W.Frag) (H : Hp) : Prop := Tabs [(PtL K, (envOfC "law" (defScope s_law) 0 0 .none).qual ++ "<lambda>")] H
def spLawT (K : PySem.W.Frag) : Sp := fun vs H Q _ => ∃ (a : Addr) (ns : List Int), vs = [.ref a] ∧ SqL K H a (ns.map V.int) ∧ ns.length ≤ 63 ∧ H (PtL K) = some (.tbl #[]) ∧ ∀ H', Q (.bl true) H'
/-! ### the answer and the word of a refusal -/
structure WhyC (K : PySem.W.Frag) (C : Addr) : Prop where
  F : XfC K C
  nw : PySem.W.findIn K (.ref C) "word" = some none
  ca : PySem.W.exmOne K (.ref C) (.ref (He.ga K "GulpError")) = some true ∨ (PySem.W.exmOne K (.ref C) (.ref (He.ga K "GulpError")) = some false ∧ PySem.W.exmOne K (.ref C) (.ref (He.ga K "MissError")) = some true)
def EWhy (K : PySem.W.Frag) (Q : VK) : XK := fun cls dd H' => ∃ (C d : Addr) (fs : List (Str × V)) (z : Str), cls = .ref C ∧ WhyC K C ∧ dd = some d ∧ H' d = some (.xd fs) ∧ fs.lookup ("word" : Str) = some (.str z) ∧ ∀ T H2, H' T = none → Same H' H2 → H2 T = some (.tup [.non, .str z]) → Q (.ref T) H2
def TWhy (K : PySem.W.Frag) : (XK → Hp → VK → Prop) → Hp → VK → Prop := fun tl H Q => tl (EWhy K Q) H (fun v H' => ∀ T H2, H' T = none → Same H' H2 → H2 T = some (.tup [v, .str (Str.ofString "")]) → Q (.ref T) H2)
theorem k_why {t : XK → TE} {σ : L2.St} {H : Hp} {Q : VK} (h : t (EWhy K Q) σ H (fun v H' => ∀ T H2, H' T = none → Same H' H2 → H2 T = some (.tup [v, .str (Str.ofString "")]) → Q (.ref T) H2)) : TWhy K (fun E H' Q' => t E σ H' Q') H Q := h
theorem whyC0 {x : Str} {k : Nat} {nm : Str} (c : XCls0 P w K mg base x k nm) (h : PySem.W.exmOne K (.ref (He.ga K x)) (.ref (He.ga K "GulpError")) = some true) : WhyC K (He.ga K x) := ⟨c.O.F, c.nw, .inl h⟩
theorem why_x0 {x : Str} {Q : VK} {H' : Hp} {d : Addr} {nm : Str} (c : WhyC K (He.ga K x)) (ed : H' d = some (.xd [("word", .str nm)])) (q : ∀ T H2, H' T = none → Same H' H2 → H2 T = some (.tup [.non, .str nm]) → Q (.ref T) H2) : EWhy K Q (.ref (He.ga K x)) (some d) H' := ⟨_, d, _, nm, rfl, c, rfl, ed, rfl, q⟩
theorem ok_Lwhy (F : FnP K "_law_why" s_Lwhy f fd) (hm : mg "_law_why" = some (.ref f)) (g_GulpError : mg "GulpError" = some (.ref (He.ga K "GulpError"))) (g_MissError : mg "MissError" = some (.ref (He.ga K "MissError"))) (g_NothingLeft : mg "NothingLeft" = some (.ref (He.ga K "NothingLeft"))) : CalleeA P w K mg base "_law_why" (TWhy K) := by
  refine CalleeA.of F hm sc_Lwhy (fun _ _ _ _ _ _ us hl => match us, hl with | [_], _ => rfl) rfl (.inl rfl) (fun cdv A outer q => fun f c' s H Q tl act hc h => ⟨_, PSs.nox (pss_cons (ps_set (i := 1) sc_Lwhy.nd rfl (by first | exact Or.inl rfl | exact Or.inr rfl) pe_non)
      (pss_cons (ps_set (i := 2) sc_Lwhy.nd rfl (by first | exact Or.inl rfl | exact Or.inr rfl) pe_str)
      (Evl.pss_cut (ps_try_manyAs (Wout := fun _ _ _ _ => False) rfl rfl sc_Lwhy.nd takes0
      (fun W pn xe tk po => (pss_one (ps_set (i := 1) sc_Lwhy.nd rfl (by first | exact Or.inl rfl | exact Or.inr rfl) (act W pn xe _ _ tk))))
      (.cons (i := 3) rfl rfl ⟨by rfl, by decide, Or.inl g_GulpError⟩ (fun a oe cls d pn hz hf => (pss_one (ps_set (i := 2) sc_Lwhy.nd rfl (by first | exact Or.inl rfl | exact Or.inr rfl) (pe_xfU K hz hf (pv 3)))))
      (.cons (i := 3) rfl rfl ⟨by rfl, by decide, Or.inl g_MissError⟩ (fun a oe cls d pn hz hf => (pss_one (ps_set (i := 2) sc_Lwhy.nd rfl (by first | exact Or.inl rfl | exact Or.inr rfl) (pe_xfU K hz hf (pv 3)))))
      (.cons (i := 3) rfl rfl ⟨by rfl, by decide, Or.inl g_NothingLeft⟩ (fun a oe cls d pn hz hf => (pss_one (ps_set (i := 2) sc_Lwhy.nd rfl (by first | exact Or.inl rfl | exact Or.inr rfl) (pe_xfU K hz hf (pv 3)))))
      .nil))))
      (pss_one (ps_ret (pe_tup (pa_cons (pv 1) (pa_cons (pv 2) pa_nil)))))))), ?rd⟩)
  case rd =>
    refine k_start (σ' := [some _, none, none, none]) rfl ?_
    walk_at "g"
    with_reducible refine k_cut (fun σ' H' => ∃ (v : V) (z : Str), σ' = [some (.ref f), some v, some (.str z), none] ∧ ∀ T H2, H' T = none → Same H' H2 → H2 T = some (.tup [v, .str z]) → Q (.ref T) H2) ?_ (fun σ' H' hq => ?_)
    · walk_at "g"
      refine ⟨rfl, hc, _, _, fun cls dd H' hE => ?_, fun v H' hQ => ?_, h⟩
      · obtain ⟨C, d, fs, z, rfl, wc, rfl, ed, el, hq⟩ := hE
        rcases wc.ca with h1 | ⟨h1, h2⟩
        · refine ⟨true, h1, fun _ a0 h0 => ?_, fun q => Bool.noConfusion q⟩
          walk_at "g"
          refine ⟨_, d, _, _, rfl, rfl, wc.F, wc.nw, rfl, ed, el, ?_⟩
          walk_at "g"
          exact ⟨_, _, rfl, hq⟩
        · refine ⟨false, h1, fun q => Bool.noConfusion q, fun _ => ⟨true, h2, fun _ a0 h0 => ?_, fun q => Bool.noConfusion q⟩⟩
          walk_at "g"
          refine ⟨_, d, _, _, rfl, rfl, wc.F, wc.nw, rfl, ed, el, ?_⟩
          walk_at "g"
          exact ⟨_, _, rfl, hq⟩
      · walk_at "g"
        exact ⟨_, _, rfl, hQ⟩
    · obtain ⟨v, z, rfl, hq⟩ := hq
      walk_at "g"
      refine k_nTup (by walk_at "sz") (fun T H2 n2 s2 e2 => ?_)
      exact hq T H2 n2 s2 e2
end
end Lw
namespace Lw
open PySem PySem.Spec PyProof.Rows L2 Gk
open LamX hiding takes0
section
variable {K : PySem.W.Frag}
/-! ### a house's dict told anew -/
theorem l_dk {H : Hp} {a b : Addr} {xs : List V} {kvs : List (Key × V)} {o : HO} (hp : H a = some (.dK kvs)) (h : SqL K H b xs) : SqL K (upd H a o) b xs := h.elim (fun h => .inl (rd_upd hp (fun _ z => by cases z) (fun z => by cases z) h)) .inr
theorem putK_old {kvs : List (Key × V)} {k : Key} {v x : V} (h : valV kvs k = some x) : (putK kvs k v).length = kvs.length := by
  unfold putK
  rw [if_pos (by rw [valV_any, h]; rfl), List.length_map]
theorem MAt.chew {H : Hp} {m : Addr} {S : HsD} (h : MAt K H m S) (c : Int) : ∃ kvs, H m = some (.dK kvs) ∧ kvs.length ≤ 7 ∧ MAt K (upd H m (.dK (putK kvs (.inr "chew") (.int c)))) m { S with ch := c } := by
  obtain ⟨tb, ev, R, L, h1, h2, h3, h4, h5, h6, h7⟩ := h
  obtain ⟨kvs, k0, kl, ⟨k1, k1', k1''⟩, k2, k3, k4, k5⟩ := h1.ex
  exact ⟨kvs, k0, kl, tb, ev, R, L, ⟨_, upd_same, by rw [putK_old k2]; exact kl, ⟨by rw [valV_put, if_neg (by decide +kernel)]; exact k1, by rw [valV_put, if_neg (by decide +kernel)]; exact k1', by rw [valV_put, if_neg (by decide +kernel)]; exact k1''⟩, by rw [valV_put, if_pos rfl], by rw [valV_put, if_neg (by decide +kernel)]; exact k3, by rw [valV_put, if_neg (by decide +kernel)]; exact k4, by rw [valV_put, if_neg (by decide +kernel)]; exact k5⟩, l_dk k0 h2, fun q hq => t_dk k0 (h3 q hq), h4, l_dk k0 h5, fun q hq => t_dk k0 (h6 q hq), h7⟩
theorem MAt.most {H : Hp} {m : Addr} {S : HsD} (h : MAt K H m S) (c : Int) : ∃ kvs, H m = some (.dK kvs) ∧ kvs.length ≤ 7 ∧ MAt K (upd H m (.dK (putK kvs (.inr "most") (.int c)))) m { S with mo := c } := by
  obtain ⟨tb, ev, R, L, h1, h2, h3, h4, h5, h6, h7⟩ := h
  obtain ⟨kvs, k0, kl, ⟨k1, k1', k1''⟩, k2, k3, k4, k5⟩ := h1.ex
  exact ⟨kvs, k0, kl, tb, ev, R, L, ⟨_, upd_same, by rw [putK_old k4]; exact kl, ⟨by rw [valV_put, if_neg (by decide +kernel)]; exact k1, by rw [valV_put, if_neg (by decide +kernel)]; exact k1', by rw [valV_put, if_neg (by decide +kernel)]; exact k1''⟩, by rw [valV_put, if_neg (by decide +kernel)]; exact k2, by rw [valV_put, if_neg (by decide +kernel)]; exact k3, by rw [valV_put, if_pos rfl], by rw [valV_put, if_neg (by decide +kernel)]; exact k5⟩, l_dk k0 h2, fun q hq => t_dk k0 (h3 q hq), h4, l_dk k0 h5, fun q hq => t_dk k0 (h6 q hq), h7⟩
theorem MAt.cut {H : Hp} {m : Addr} {S : HsD} (h : MAt K H m S) (c : Int) : ∃ kvs, H m = some (.dK kvs) ∧ kvs.length ≤ 7 ∧ MAt K (upd H m (.dK (putK kvs (.inr "cut") (.int c)))) m { S with cu := c } := by
  obtain ⟨tb, ev, R, L, h1, h2, h3, h4, h5, h6, h7⟩ := h
  obtain ⟨kvs, k0, kl, ⟨k1, k1', k1''⟩, k2, k3, k4, k5⟩ := h1.ex
  exact ⟨kvs, k0, kl, tb, ev, R, L, ⟨_, upd_same, by rw [putK_old k5]; exact kl, ⟨by rw [valV_put, if_neg (by decide +kernel)]; exact k1, by rw [valV_put, if_neg (by decide +kernel)]; exact k1', by rw [valV_put, if_neg (by decide +kernel)]; exact k1''⟩, by rw [valV_put, if_neg (by decide +kernel)]; exact k2, by rw [valV_put, if_neg (by decide +kernel)]; exact k3, by rw [valV_put, if_neg (by decide +kernel)]; exact k4, by rw [valV_put, if_pos rfl]⟩, l_dk k0 h2, fun q hq => t_dk k0 (h3 q hq), h4, l_dk k0 h5, fun q hq => t_dk k0 (h6 q hq), h7⟩
end
end Lw
set_option autoImplicit true
set_option pp.maxSteps 1200
set_option Elab.async false
set_option linter.all false
set_option maxRecDepth 100000
set_option maxHeartbeats 1000000
namespace Lw
open PySem PySem.Spec PyProof.Rows L2 Gk
open LamX hiding takes0

local macro_rules | `(tactic| walk_at "hp") => `(tactic| first | assumption | exact upd_same | (refine' (upd_ne ?n).trans ?h; (case n => assumption); (case h => walk_at "hp")) | (refine' sm_get ?s ?h; (case s => assumption); (case h => walk_at "hp")))
local macro_rules | `(tactic| walk_at "sq") => `(tactic| first | assumption | (refine' sq_l ?h; (case h => walk_at "hp")) | (refine' sm_l ?s ?h; (case s => assumption); (case h => walk_at "sq")))
local macro_rules | `(tactic| walk_at "st") => `(tactic| first | assumption | (refine' sq_t ?h; (case h => walk_at "hp")) | (refine' sm_t ?s ?h; (case s => assumption); (case h => walk_at "st")))
local macro_rules | `(tactic| walk_at "bg") => `(tactic| first | assumption | (refine' BagOk.sm ?s ?h; (case s => assumption); (case h => walk_at "bg")))
local macro_rules | `(tactic| walk_at "sm") => `(tactic| first | assumption | exact Same.refl _ | (refine' Same.trans ?h ?s; (case s => assumption); (case h => walk_at "sm")))
local macro_rules | `(tactic| walk_at "hs") => `(tactic| first | assumption | (refine' HsAt.sm ?s ?h; (case s => assumption); (case h => walk_at "hs")))
local macro_rules | `(tactic| walk_at "ms") => `(tactic| first | assumption | (refine' MAt.sm ?s ?h; (case s => assumption); (case h => walk_at "ms")))
local macro_rules | `(tactic| walk_at "md") => `(tactic| first | assumption | (refine' MDk.sm ?s ?h; (case s => assumption); (case h => walk_at "md")))
local macro_rules | `(tactic| walk_at "dp") => `(tactic| first | assumption | (refine' dp_sm ?s ?h; (case s => assumption); (case h => walk_at "dp")))
local macro_rules | `(tactic| walk_at "sz") => `(tactic| first | decide | assumption | omega | (simp only [List.length_cons, List.length_nil, List.length_map, List.length_append]; omega))
local macro_rules | `(tactic| walk_at "g1") => `(tactic| first
  | with_reducible refine k_seq ?_
  | with_reducible refine k_itB ?_
  | with_reducible refine k_next ?_
  | with_reducible refine k_asg ?_
  | with_reducible refine k_name ?_
  | with_reducible refine k_ret ?_
  | with_reducible refine k_retN ?_
  | with_reducible refine k_drop ?_
  | with_reducible refine k_ifs ?_
  | with_reducible refine k_brk ?_
  | with_reducible refine k_cont ?_
  | with_reducible refine k_ipI ?_
  | with_reducible refine k_test ?_
  | with_reducible refine k_tB ?_
  | with_reducible refine k_bl ?_
  | with_reducible refine k_not ?_
  | with_reducible refine k_and ?_
  | with_reducible refine k_or ?_
  | with_reducible refine k_yes ?_
  | with_reducible refine k_true ?_
  | with_reducible refine k_false ?_
  | with_reducible refine k_nt ?_
  | with_reducible refine k_c ?_
  | with_reducible refine k_op ?_
  | with_reducible refine k_un ?_
  | with_reducible refine k_if ?_
  | with_reducible refine k_chain ?_
  | with_reducible refine k_nil ?_
  | with_reducible refine k_cons ?_
  | with_reducible refine k_cb ?_
  | with_reducible refine k_call ?_
  | with_reducible refine k_callS ?_
  | with_reducible refine k_andV ?_
  | with_reducible refine k_orV ?_
  | with_reducible refine k_notV ?_
  | with_reducible refine k_lst ?_
  | with_reducible refine k_tup ?_
  | with_reducible refine k_nopart ?_
  | with_reducible refine k_part ?_
  | with_reducible refine k_nInt ?_
  | with_reducible refine k_sl ?_
  | with_reducible refine k_bm ?_
  | with_reducible refine k_bm0 ?_
  | with_reducible refine k_nTyS ?_
  | with_reducible refine k_m1 ?_
  | with_reducible refine k_m0 ?_
  | with_reducible refine k_nStr ?_
  | with_reducible refine k_I0 ?_
  | with_reducible refine k_U ?_
  | with_reducible refine k_add_i ?_
  | with_reducible refine k_eq_i ?_
  | with_reducible refine k_eq_s ?_
  | with_reducible refine k_eq_b ?_
  | with_reducible refine k_ne_i ?_
  | with_reducible refine k_ne_s ?_
  | with_reducible refine k_ne_b ?_
  | with_reducible refine k_le_i ?_
  | with_reducible refine k_le_s ?_
  | with_reducible refine k_gnil ?_
  | with_reducible refine k_gcons ?_
  | with_reducible refine k_gsub ?_
  | with_reducible refine k_for ?_
  | with_reducible refine k_lc ?_
  | with_reducible refine k_rng1 ?_
  | with_reducible refine k_rng2 ?_
  | with_reducible refine k_itl ?_
  | with_reducible refine k_itt ?_
  | with_reducible refine k_its ?_
  | with_reducible refine k_ite ?_
  | with_reducible refine k_iteB ?_
  | with_reducible refine k_lrg2 ?_
  | with_reducible refine k_itz ?_
  | with_reducible refine k_nIts ?_
  | with_reducible refine k_inS ?_
  | with_reducible refine k_niS ?_
  | with_reducible refine k_mk ?_
  | with_reducible refine k_meth ?_
  | with_reducible refine k_fld ?_
  | with_reducible refine k_sfld ?_
  | with_reducible refine k_dg ?_
  | with_reducible refine k_dp ?_
  | with_reducible refine k_pr ?_
  | with_reducible refine k_pr0 ?_
  | with_reducible refine k_sg ?_
  | with_reducible refine k_lc2 ?_
  | with_reducible refine k_callN ?_
  | with_reducible refine k_callNS ?_
  | with_reducible refine k_par ?_
  | with_reducible refine k_nPar ?_
  | with_reducible refine k_isNn ?_
  | with_reducible refine k_isNr ?_
  | with_reducible refine k_ntNn ?_
  | with_reducible refine k_ntNr ?_
  | with_reducible refine k_min2 ?_
  | with_reducible refine k_max2 ?_
  | with_reducible refine k_intB ?_
  | with_reducible refine k_intI ?_
  | with_reducible refine k_isBl ?_
  | with_reducible refine k_ntBl ?_
  | ((with_reducible refine' k_var ?kv ?_); (case kv => exact rfl))
  | ((with_reducible refine' k_aug ?kv ?_); (case kv => exact rfl))
  | ((with_reducible refine' k_ix_l ?ks ?ki ?_); (case ks => walk_at "sq"); (case ki => exact rfl))
  | ((with_reducible refine' k_ix_t ?ks ?ki ?_); (case ks => walk_at "st"); (case ki => exact rfl))
  | ((with_reducible refine' k_len_l ?ks ?_); (case ks => walk_at "sq"))
  | ((with_reducible refine' k_len_t ?ks ?_); (case ks => walk_at "st"))
  | ((with_reducible refine' k_setL ?ks ?ki ?_); (case ks => walk_at "hp"); (case ki => exact rfl))
  | ((with_reducible refine' k_nTyL ?ks ?_); (case ks => walk_at "sq"))
  | ((with_reducible refine' k_nItl ?ks ?_); (case ks => walk_at "sq"))
  | ((with_reducible refine' k_nItt ?ks ?_); (case ks => walk_at "st"))
  | ((with_reducible refine' k_nIte ?ks ?_); (case ks => walk_at "sq"))
  | ((with_reducible refine' k_mul ?km ?_); (case km => first | exact Or.inr ⟨by decide, by decide⟩ | exact Or.inl ⟨by decide, by decide⟩))
  | ((with_reducible refine' k_I ?km ?_); (case km => first | assumption | decide | exact ⟨by decide, by decide +kernel⟩ | exact ⟨by decide, by decide, by decide⟩))
  | ((with_reducible refine' k_nMeth ?kp ?kl ?_); (case kp => walk_at "hp"); (case kl => exact rfl))
  | ((with_reducible refine' k_nFld ?kp ?kc ?kn ?kl ?_); (case kp => walk_at "hp"); (case kc => assumption); (case kn => assumption); (case kl => exact rfl))
  | ((with_reducible refine' k_nSFld ?kp ?kc ?kn ?kl ?_); (case kp => walk_at "hp"); (case kc => assumption); (case kn => assumption); (case kl => exact of_decide_eq_true rfl))
  | ((with_reducible refine' k_nDg ?kp ?kl ?_); (case kp => walk_at "hp"); (case kl => exact rfl))
  | ((with_reducible refine' k_nRng1 ?k1 ?k2 ?_); (case k1 => omega); (case k2 => omega))
  | ((with_reducible refine' k_nKw ?k1 ?k2 ?_); (case k1 => exact rfl); (case k2 => exact rfl))
  | ((with_reducible refine' k_hsm ?kh ?_); (case kh => walk_at "hs"))
  | ((with_reducible refine' k_nMethH ?kh ?kl ?_); (case kh => walk_at "hs"); (case kl => exact fun _ _ => rfl))
  | ((with_reducible refine' k_mLet ?kh ?_); (case kh => walk_at "ms"))
  | ((with_reducible refine' k_mChew ?kh ?_); (case kh => walk_at "ms"))
  | ((with_reducible refine' k_mPut ?kh ?_); (case kh => walk_at "ms"))
  | ((with_reducible refine' k_mMost ?kh ?_); (case kh => walk_at "ms"))
  | ((with_reducible refine' k_mCut ?kh ?_); (case kh => walk_at "ms"))
  | ((with_reducible refine' k_mTab ?kh ?_); (case kh => walk_at "md"))
  | ((with_reducible refine' k_mEats ?kh ?_); (case kh => walk_at "md"))
  | ((with_reducible refine' k_gtup ?ks ?kl ?_); (case ks => walk_at "st"); (case kl => exact rfl)))
local macro_rules | `(tactic| walk_at "g") => `(tactic| repeat (walk_at "g1"))
local macro_rules | `(tactic| walk_at "w1") => `(tactic| first
  | walk_at "g1"
  | ((with_reducible refine' k_decT ?kp ?_); (case kp => omega))
  | ((with_reducible refine' k_decF ?kp ?_); (case kp => omega))
  | ((with_reducible refine' k_decNT ?kp ?_); (case kp => omega))
  | ((with_reducible refine' k_decNF ?kp ?_); (case kp => omega)))
local macro_rules | `(tactic| walk_at "w") => `(tactic| repeat (walk_at "w1"))


section
variable {P : Program} {w : World} {K : PySem.W.Frag} {mg : Str → Option Value} {base : Heap} {f : Addr} {fd : FuncData}
/-! ### a lean house -/
theorem MAt.eats {H : Hp} {m p : Addr} {S : HsD} {L : List RwM} (h : MAt K H m S) (hp : SqL K H p (L.map fun q => V.ref q.1)) (hL : ∀ q ∈ L, SqT K H q.1 (q.2.map kV)) : ∃ kvs, H m = some (.dK kvs) ∧ kvs.length ≤ 7 ∧ MAt K (upd H m (.dK (putK kvs (.inr "eats") (.ref p)))) m { S with tr := L.map (·.2) } := by
  obtain ⟨tb, ev, R, L0, h1, h2, h3, h4, h5, h6, h7⟩ := h
  obtain ⟨kvs, k0, kl, ⟨k1, k1', k1''⟩, k2, k3, k4, k5⟩ := h1.ex
  exact ⟨kvs, k0, kl, tb, p, R, L, ⟨_, upd_same, by rw [putK_old k1'']; exact kl, ⟨by rw [valV_put, if_neg (by decide +kernel)]; exact k1, by rw [valV_put, if_neg (by decide +kernel)]; exact k1', by rw [valV_put, if_pos rfl]⟩, by rw [valV_put, if_neg (by decide +kernel)]; exact k2, by rw [valV_put, if_neg (by decide +kernel)]; exact k3, by rw [valV_put, if_neg (by decide +kernel)]; exact k4, by rw [valV_put, if_neg (by decide +kernel)]; exact k5⟩, l_dk k0 h2, fun q hq => t_dk k0 (h3 q hq), h4, l_dk k0 hp, fun q hq => t_dk k0 (hL q hq), rfl⟩
theorem MAt.table {H : Hp} {m p : Addr} {S : HsD} {R : List RwI} (h : MAt K H m S) (hp : SqL K H p (R.map fun q => V.ref q.1)) (hR : ∀ q ∈ R, SqT K H q.1 (q.2.map V.int)) : ∃ kvs, H m = some (.dK kvs) ∧ kvs.length ≤ 7 ∧ MAt K (upd H m (.dK (putK kvs (.inr "table") (.ref p)))) m { S with tb := R.map (·.2) } := by
  obtain ⟨tb, ev, R0, L, h1, h2, h3, h4, h5, h6, h7⟩ := h
  obtain ⟨kvs, k0, kl, ⟨k1, k1', k1''⟩, k2, k3, k4, k5⟩ := h1.ex
  exact ⟨kvs, k0, kl, p, ev, R, L, ⟨_, upd_same, by rw [putK_old k1']; exact kl, ⟨by rw [valV_put, if_neg (by decide +kernel)]; exact k1, by rw [valV_put, if_pos rfl], by rw [valV_put, if_neg (by decide +kernel)]; exact k1''⟩, by rw [valV_put, if_neg (by decide +kernel)]; exact k2, by rw [valV_put, if_neg (by decide +kernel)]; exact k3, by rw [valV_put, if_neg (by decide +kernel)]; exact k4, by rw [valV_put, if_neg (by decide +kernel)]; exact k5⟩, l_dk k0 hp, fun q hq => t_dk k0 (hR q hq), rfl, l_dk k0 h5, fun q hq => t_dk k0 (h6 q hq), h7⟩
/-- its table stands there plainly -/
def MAX (K : PySem.W.Frag) (H : Hp) (m : Addr) (S : HsD) : Prop := ∃ (tb ev : Addr) (R : List RwI) (L : List RwM), MDk H m S tb ev ∧
  H tb = some (.lst (R.map fun q => V.ref q.1)) ∧ (∀ q ∈ R, SqT K H q.1 (q.2.map V.int)) ∧ R.map (·.2) = S.tb ∧ SqL K H ev (L.map fun q => V.ref q.1) ∧ (∀ q ∈ L, SqT K H q.1 (q.2.map kV)) ∧ L.map (·.2) = S.tr
theorem MAX.mat {H : Hp} {m : Addr} {S : HsD} (h : MAX K H m S) : MAt K H m S := by
  obtain ⟨tb, ev, R, L, h1, h2, h3⟩ := h
  exact ⟨tb, ev, R, L, h1, sq_l h2, h3⟩
theorem MAX.sm {H H' : Hp} {m : Addr} {S : HsD} (s : Same H H') (h : MAX K H m S) : MAX K H' m S := by
  obtain ⟨tb, ev, R, L, h1, h2, h3, h4, h5, h6, h7⟩ := h
  exact ⟨tb, ev, R, L, h1.sm s, s _ _ h2, fun q hq => sm_t s (h3 q hq), h4, sm_l s h5, fun q hq => sm_t s (h6 q hq), h7⟩
theorem MAX.eatsX {H : Hp} {m p : Addr} {S : HsD} {L : List RwM} (h : MAX K H m S) (hp : H p = some (.lst (L.map fun q => V.ref q.1))) (hL : ∀ q ∈ L, SqT K H q.1 (q.2.map kV)) : ∃ kvs, H m = some (.dK kvs) ∧ kvs.length ≤ 7 ∧ ∃ (tb : Addr) (R : List RwI), MDk (upd H m (.dK (putK kvs (.inr "eats") (.ref p)))) m { S with tr := L.map (·.2) } tb p ∧ (upd H m (.dK (putK kvs (.inr "eats") (.ref p)))) tb = some (.lst (R.map fun q => V.ref q.1)) ∧ (∀ q ∈ R, SqT K (upd H m (.dK (putK kvs (.inr "eats") (.ref p)))) q.1 (q.2.map V.int)) ∧ R.map (·.2) = S.tb ∧ (upd H m (.dK (putK kvs (.inr "eats") (.ref p)))) p = some (.lst (L.map fun q => V.ref q.1)) ∧ ∀ q ∈ L, SqT K (upd H m (.dK (putK kvs (.inr "eats") (.ref p)))) q.1 (q.2.map kV) := by
  obtain ⟨tb, ev, R, L0, h1, h2, h3, h4, h5, h6, h7⟩ := h
  obtain ⟨kvs, k0, kl, ⟨k1, k1', k1''⟩, k2, k3, k4, k5⟩ := h1.ex
  exact ⟨kvs, k0, kl, tb, R, ⟨_, upd_same, by rw [putK_old k1'']; exact kl, ⟨by rw [valV_put, if_neg (by decide +kernel)]; exact k1, by rw [valV_put, if_neg (by decide +kernel)]; exact k1', by rw [valV_put, if_pos rfl]⟩, by rw [valV_put, if_neg (by decide +kernel)]; exact k2, by rw [valV_put, if_neg (by decide +kernel)]; exact k3, by rw [valV_put, if_neg (by decide +kernel)]; exact k4, by rw [valV_put, if_neg (by decide +kernel)]; exact k5⟩, by rw [upd_ne (ne_of h2 k0 (fun z => nomatch z))]; exact h2, fun q hq => t_dk k0 (h3 q hq), h4, by rw [upd_ne (ne_of hp k0 (fun z => nomatch z))]; exact hp, fun q hq => t_dk k0 (hL q hq)⟩
theorem MAX.table {H : Hp} {m p : Addr} {S : HsD} {R : List RwI} (h : MAX K H m S) (hp : H p = some (.lst (R.map fun q => V.ref q.1))) (hR : ∀ q ∈ R, SqT K H q.1 (q.2.map V.int)) : ∃ kvs, H m = some (.dK kvs) ∧ kvs.length ≤ 7 ∧ MAX K (upd H m (.dK (putK kvs (.inr "table") (.ref p)))) m { S with tb := R.map (·.2) } := by
  obtain ⟨tb, ev, R0, L, h1, h2, h3, h4, h5, h6, h7⟩ := h
  obtain ⟨kvs, k0, kl, ⟨k1, k1', k1''⟩, k2, k3, k4, k5⟩ := h1.ex
  exact ⟨kvs, k0, kl, p, ev, R, L, ⟨_, upd_same, by rw [putK_old k1']; exact kl, ⟨by rw [valV_put, if_neg (by decide +kernel)]; exact k1, by rw [valV_put, if_pos rfl], by rw [valV_put, if_neg (by decide +kernel)]; exact k1''⟩, by rw [valV_put, if_neg (by decide +kernel)]; exact k2, by rw [valV_put, if_neg (by decide +kernel)]; exact k3, by rw [valV_put, if_neg (by decide +kernel)]; exact k4, by rw [valV_put, if_neg (by decide +kernel)]; exact k5⟩, by rw [upd_ne (ne_of hp k0 (fun z => nomatch z))]; exact hp, fun q hq => t_dk k0 (hR q hq), rfl, l_dk k0 h5, fun q hq => t_dk k0 (h6 q hq), h7⟩
theorem MAX.eats {H : Hp} {m p : Addr} {S : HsD} {L : List RwM} (h : MAX K H m S) (hp : H p = some (.lst (L.map fun q => V.ref q.1))) (hL : ∀ q ∈ L, SqT K H q.1 (q.2.map kV)) : ∃ kvs, H m = some (.dK kvs) ∧ kvs.length ≤ 7 ∧ MAX K (upd H m (.dK (putK kvs (.inr "eats") (.ref p)))) m { S with tr := L.map (·.2) } := by
  obtain ⟨kvs, k0, kl, tb, R, h1, h2, h3, h4, h5, h6⟩ := h.eatsX hp hL
  exact ⟨kvs, k0, kl, tb, p, R, L, h1, h2, h3, h4, sq_l h5, h6, rfl⟩
theorem HdOk.max {H H' : Hp} {m : Addr} {z : Str} {S : HsD} (h : HdOk K H H' m z S) : MAX K H' m S := by
  obtain ⟨tb, ev, R, L, e, e1, e2, e3, e4, e5, e6, _⟩ := h.n1
  exact ⟨tb, ev, R, L, ⟨_, e, by show 7 ≤ 7; decide, ⟨rfl, rfl, rfl⟩, rfl, rfl, rfl, rfl⟩, e1, e2, e3, sq_l e4, e5, e6⟩
structure LeanD (S : HsD) : Prop where
  c1 : 1 ≤ S.ch
  p0 : S.pt = []
theorem LeanD.kind {S : HsD} (h : LeanD S) : kindF S = Str.ofString "lean" := by
  unfold kindF
  exact if_pos ⟨by have := h.c1; omega, h.p0⟩
def spLeanN (K : PySem.W.Frag) (n : Nat) : Sp := fun vs H Q _ => ∃ (b : Addr) (ws : List V), vs = .ref b :: ws ∧ ws.length = n ∧ (∀ v ∈ ws, ∃ k : Int, v = .int k ∧ k ≤ 14) ∧ BagOk H b ∧ ∀ (S : HsD) (m : Addr) H', HsOk S → LeanD S → H m = none → Same H H' → MAX K H' m S → Q (.ref m) H'
theorem ok_Lby_length (F : FnP K "_law_by_length" s_Lby_length f fd) (hm : mg "_law_by_length" = some (.ref f)) (f_range : mg "range" = none) (c_Lpull : Callee P w K mg base CX0 "_law_pull" 1 [] spPull) (c_Lone : Callee P w K mg base CX0 "_law_one" 2 [] (spOne K)) (c_Lletters : Callee P w K mg base CX0 "_law_letters" 2 [] spLetters) : Callee P w K mg base CX0 "_law_by_length" 3 [] (spLeanN K 0) := by
  refine ⟨f, fd, _, [], F.ok sc_Lby_length (fun vs H Q E h => ?hl) (fun cdv A outer s H vs Q E hr h => ⟨_, PSs.nox (pss_cons (ps_asg (pe_tup (pa_cons (pe_cl c_Lletters hr (pa_cons (pv 0) (pa_cons pe_int pa_nil)) pass0) (pa_cons (pe_cl c_Lone hr (pa_cons (pv 0) (pa_cons (pe_lst (pa_cons pe_str (pa_cons pe_str pa_nil))) pa_nil)) pass0) pa_nil))) (pg_tupK K 2 (by rfl) (pgs_cons (pg_name (i := 1) sc_Lby_length.nd rfl (by first | exact Or.inl rfl | exact Or.inr rfl)) (pgs_cons (pg_name (i := 2) sc_Lby_length.nd rfl (by first | exact Or.inl rfl | exact Or.inr rfl)) pgs_nil))))
      (pss_cons (ps_set (i := 3) sc_Lby_length.nd rfl (by first | exact Or.inl rfl | exact Or.inr rfl) (pe_disp (pps_cons pe_str (pv 1) (pps_cons pe_str (pe_lst (pa_cons (pe_tup (pa_cons pe_int (pa_cons pe_int pa_nil))) (pa_cons (pe_tup (pa_cons pe_int (pa_cons pe_int pa_nil))) (pa_cons (pe_tup (pa_cons pe_int (pa_cons pe_int pa_nil))) (pa_cons (pe_tup (pa_cons pe_int (pa_cons pe_int pa_nil))) pa_nil))))) (pps_cons pe_str pe_str (pps_cons pe_str pe_int pps_nil)))) (by rfl) (by rfl) (fun z => by cases z) (by decide)))
      (pss_cons (ps_dput (hu_of hr) (pv 3) pe_str (pe_lc (own := [("_law_k", 4)]) rfl sc_Lby_length.nd (pi_range1 (by rfl) f_range (pa_cons pe_int pa_nil)) (blkOk_by (N := ["_law_bag_here", "_law_letters_here", "_law_edge", "_law_m", "_law_k"]) (sc := defScope s_Lby_length) (by decide +kernel)) (fun _ _ _ _ _ => (pg_name (i := 4) sc_Lby_length.nd rfl (by first | exact Or.inl rfl | exact Or.inr rfl))) (fun _ _ _ _ _ => pts_nil) (fun _ _ _ _ _ => (pe_tup (pa_cons (pv 2) (pa_cons (pe_op (op_addK K) pe_int (pe_cl c_Lpull hr (pa_cons (pv 0) (pa_cons pe_int pa_nil)) pass0)) (pa_cons (pe_op (op_addK K) pe_int (pe_cl c_Lpull hr (pa_cons (pv 0) (pa_cons pe_int pa_nil)) pass0)) pa_nil)))))) rfl)
      (pss_cons (ps_asg (pe_tup (pa_cons (pe_op (op_addK K) pe_int (pe_cl c_Lpull hr (pa_cons (pv 0) (pa_cons pe_int pa_nil)) pass0)) (pa_cons (pe_op (op_addK K) pe_int (pe_cl c_Lpull hr (pa_cons (pv 0) (pa_cons pe_int pa_nil)) pass0)) pa_nil))) (pg_tupK K 2 (by rfl) (pgs_cons (pg_sub (pv 3) pe_str (set_dict (Nat.lt_of_le_of_lt (Nat.add_le_add_left (by decide) _) hr.units))) (pgs_cons (pg_sub (pv 3) pe_str (set_dict (Nat.lt_of_le_of_lt (Nat.add_le_add_left (by decide) _) hr.units))) pgs_nil))))
      (pss_one (ps_ret (pv 3))))))), ?rd⟩), hm, F.kp, F.bindsN fun _ _ _ _ _ _ us hl => match us, hl with | [_], _ => rfl, .nil⟩
  case hl =>
    obtain ⟨b, ws, rfl, lw, _⟩ := h
    rw [List.length_cons, lw]
    rfl
  case rd =>
    obtain ⟨b, ws, rfl, lw, _, hb, q⟩ := h
    have ew : ws = [] := List.length_eq_zero_iff.mp lw
    subst ew
    refine k_start (σ' := [some _, none, none, none, none]) rfl ?_
    walk_at "g"
    refine k_letters hb (by decide) (by decide) (fun cs H1 rise lcs s1 => ?_)
    have hb1 := hb.sm s1
    walk_at "g"
    refine k_nLst (by walk_at "sz") (fun p2 H2 n2 s2 e2 => ?_)
    have hb2 := hb1.sm s2
    walk_at "g"
    refine ⟨b, .ref p2, rfl, hb2, .inl ⟨p2, _, rfl, sq_l e2, by show 0 < 2; decide, by show 2 ≤ 100000; decide, fun v hv => ?_⟩⟩
    obtain ⟨sd, rfl⟩ : ∃ sd : Bool, v = .str (if sd = true then Str.ofString "right" else Str.ofString "left") := by
      rcases List.mem_cons.mp hv with rfl | hv
      · exact ⟨false, rfl⟩
      rcases List.mem_cons.mp hv with rfl | hv
      · exact ⟨true, rfl⟩
      cases hv
    clear hv
    walk_at "g"
    refine k_nTup (by walk_at "sz") (fun T3 H3 n3 s3 e3 => ?_)
    walk_at "g"
    refine k_disp fun pm npm => ?_
    have s13 := s1.trans (s2.trans s3)
    have nm0 : H pm = none := s13.free npm
    have sD := sm_new (o := .dK []) npm
    have eD : (upd H3 pm (.dK [])) pm = some (.dK []) := upd_same
    have hbD := (hb2.sm s3).sm sD
    generalize upd H3 pm (.dK []) = HD at sD eD hbD ⊢
    walk_at "g"
    refine k_nTup (by walk_at "sz") (fun T4 H4 n4 s4 e4 => ?_)
    walk_at "g"
    refine k_nTup (by walk_at "sz") (fun T5 H5 n5 s5 e5 => ?_)
    walk_at "g"
    refine k_nTup (by walk_at "sz") (fun T6 H6 n6 s6 e6 => ?_)
    walk_at "g"
    refine k_nTup (by walk_at "sz") (fun T7 H7 n7 s7 e7 => ?_)
    walk_at "g"
    refine k_nLst (by walk_at "sz") (fun p8 H8 n8 s8 e8 => ?_)
    walk_at "g"
    have sD8 := s4.trans (s5.trans (s6.trans (s7.trans s8)))
    refine ⟨sD8 _ _ eD, [(.inr "letters", .str (tx cs)), (.inr "table", .ref p8), (.inr "put", .str (Str.ofString "")), (.inr "most", .int 3)], rfl, by show 4 ≤ 15; decide, ?_⟩
    rw [show mergeK [] [((.inr "letters" : Key), V.str (tx cs)), (.inr "table", .ref p8), (.inr "put", .str (Str.ofString "")), (.inr "most", .int 3)] = [((.inr "letters" : Key), V.str (tx cs)), (.inr "table", .ref p8), (.inr "put", .str (Str.ofString "")), (.inr "most", .int 3)] from rfl]
    have em8 := sD8 _ _ eD
    have s38 : Same H (upd H8 pm (.dK [((.inr "letters" : Key), V.str (tx cs)), (.inr "table", .ref p8), (.inr "put", .str (Str.ofString "")), (.inr "most", .int 3)])) := sm_mut (s13.trans (sD.trans sD8)) nm0
    have e9 : (upd H8 pm (.dK [((.inr "letters" : Key), V.str (tx cs)), (.inr "table", .ref p8), (.inr "put", .str (Str.ofString "")), (.inr "most", .int 3)])) pm = some (.dK [((.inr "letters" : Key), V.str (tx cs)), (.inr "table", .ref p8), (.inr "put", .str (Str.ofString "")), (.inr "most", .int 3)]) := upd_same
    have hb9 : BagOk (upd H8 pm (.dK [((.inr "letters" : Key), V.str (tx cs)), (.inr "table", .ref p8), (.inr "put", .str (Str.ofString "")), (.inr "most", .int 3)])) b := hb.sm s38
    have l9 : (upd H8 pm (.dK [((.inr "letters" : Key), V.str (tx cs)), (.inr "table", .ref p8), (.inr "put", .str (Str.ofString "")), (.inr "most", .int 3)])) p8 = some (.lst (([(T4, [1, 1]), (T5, [2, 2]), (T6, [3, 3]), (T7, [3, 3])] : List RwI).map fun q => V.ref q.1)) := by rw [upd_ne (ne_of e8 em8 (fun z => nomatch z))]; exact e8
    have r9 : ∀ q ∈ ([(T4, [1, 1]), (T5, [2, 2]), (T6, [3, 3]), (T7, [3, 3])] : List RwI), SqT K (upd H8 pm (.dK [((.inr "letters" : Key), V.str (tx cs)), (.inr "table", .ref p8), (.inr "put", .str (Str.ofString "")), (.inr "most", .int 3)])) q.1 (q.2.map V.int) := fun q hq => by
      rcases List.mem_cons.mp hq with rfl | hq
      · exact t_dk em8 (sm_t (s5.trans (s6.trans (s7.trans s8))) (sq_t e4))
      rcases List.mem_cons.mp hq with rfl | hq
      · exact t_dk em8 (sm_t (s6.trans (s7.trans s8)) (sq_t e5))
      rcases List.mem_cons.mp hq with rfl | hq
      · exact t_dk em8 (sm_t (s7.trans s8) (sq_t e6))
      · rw [List.mem_singleton.mp hq]
        exact t_dk em8 (sm_t s8 (sq_t e7))
    generalize upd H8 pm (.dK [((.inr "letters" : Key), V.str (tx cs)), (.inr "table", .ref p8), (.inr "put", .str (Str.ofString "")), (.inr "most", .int 3)]) = H9 at s38 e9 hb9 l9 r9 ⊢
    generalize hR : ([(T4, [1, 1]), (T5, [2, 2]), (T6, [3, 3]), (T7, [3, 3])] : List RwI) = R at l9 r9
    walk_at "g"
    refine k_nLcD walk_range (fun _ _ => trivial) (fun i ws H1 => ∃ L : List RwM, ws = L.map (fun q => V.ref q.1) ∧ L.length = i ∧ ∀ q ∈ L, SqT K H1 q.1 (q.2.map kV) ∧ ∃ s a c, q.2 = kEat s a c ∧ 0 ≤ a ∧ a < 4 ∧ 0 ≤ c ∧ c < 4) (fun i ws H1 H2 s h => ?hm) ⟨[], rfl, rfl, fun q hq => nomatch hq⟩ (fun i ws H1 hi h => ?hz) (fun i v p H1 H2 ws Kp Ks hi hp sA eA hws hy hKp hKs => ?ht2) (fun pE HE ws nE sE eE hws => ?he2)
    case hm =>
      obtain ⟨L, h1, h2, h3⟩ := h
      exact ⟨L, h1, h2, fun q hq => ⟨sm_t s (h3 q hq).1, (h3 q hq).2⟩⟩
    case hz =>
      obtain ⟨L, h1, h2, _⟩ := h
      rw [h1, List.length_map]
      omega
    case ht2 =>
      obtain ⟨rfl, rfl⟩ := hy
      obtain ⟨L, h1, h2, h3⟩ := hws
      have hbA := hb9.sm sA
      walk_at "g"
      refine ⟨rfl, ?_⟩
      walk_at "g"
      refine k_pull hbA (by omega) (by omega) (fun x x0 x1 => ?_)
      walk_at "g"
      refine k_pull hbA (by omega) (by omega) (fun y y0 y1 => ?_)
      walk_at "g"
      refine k_nTup (by walk_at "sz") (fun TA HA nA sB eB => hKp _ _ sB ⟨L ++ [(TA, kEat sd (1 + x) (1 + y))], by rw [h1, List.map_append]; rfl, by rw [List.length_append, h2]; rfl, fun q hq => ?_⟩)
      rcases List.mem_append.mp hq with hq | hq
      · exact ⟨sm_t (del_mono sB) (h3 q hq).1, (h3 q hq).2⟩
      · rw [List.mem_singleton.mp hq]
        exact ⟨del_t (sB _ _ eA) (sq_t eB), sd, _, _, rfl, by omega, by omega, by omega, by omega⟩
    case he2 =>
      obtain ⟨L, h1, h2, h3⟩ := hws
      subst h1
      have e9E := sE _ _ e9
      walk_at "g"
      refine k_nDp e9E (by show 4 < 1000; decide) ?_
      have s0E := sm_mut (o := .dK (putK [((.inr "letters" : Key), V.str (tx cs)), (.inr "table", .ref p8), (.inr "put", .str (Str.ofString "")), (.inr "most", .int 3)] (.inr "eats") (.ref pE))) (s38.trans sE) nm0
      have eM : (upd HE pm (.dK (putK [((.inr "letters" : Key), V.str (tx cs)), (.inr "table", .ref p8), (.inr "put", .str (Str.ofString "")), (.inr "most", .int 3)] (.inr "eats") (.ref pE)))) pm = some (.dK [((.inr "letters" : Key), V.str (tx cs)), (.inr "table", .ref p8), (.inr "put", .str (Str.ofString "")), (.inr "most", .int 3), (.inr "eats", .ref pE)]) := upd_same
      have lM : (upd HE pm (.dK (putK [((.inr "letters" : Key), V.str (tx cs)), (.inr "table", .ref p8), (.inr "put", .str (Str.ofString "")), (.inr "most", .int 3)] (.inr "eats") (.ref pE)))) p8 = some (.lst (R.map fun q => V.ref q.1)) := by rw [upd_ne (ne_of (sE _ _ l9) e9E (fun z => nomatch z))]; exact sE _ _ l9
      have rM := fun q hq => t_dk (o := .dK (putK [((.inr "letters" : Key), V.str (tx cs)), (.inr "table", .ref p8), (.inr "put", .str (Str.ofString "")), (.inr "most", .int 3)] (.inr "eats") (.ref pE))) e9E (sm_t sE (r9 q hq))
      have vM := l_dk (K := K) (o := .dK (putK [((.inr "letters" : Key), V.str (tx cs)), (.inr "table", .ref p8), (.inr "put", .str (Str.ofString "")), (.inr "most", .int 3)] (.inr "eats") (.ref pE))) e9E (sq_l eE)
      have uM := fun q hq => t_dk (o := .dK (putK [((.inr "letters" : Key), V.str (tx cs)), (.inr "table", .ref p8), (.inr "put", .str (Str.ofString "")), (.inr "most", .int 3)] (.inr "eats") (.ref pE))) e9E (h3 q hq).1
      generalize upd HE pm (.dK (putK [((.inr "letters" : Key), V.str (tx cs)), (.inr "table", .ref p8), (.inr "put", .str (Str.ofString "")), (.inr "most", .int 3)] (.inr "eats") (.ref pE))) = HM at s0E eM lM rM vM uM ⊢
      have hbM := hb.sm s0E
      walk_at "g"
      refine k_pull hbM (by omega) (by omega) (fun x x0 x1 => ?_)
      walk_at "g"
      refine k_pull hbM (by omega) (by omega) (fun y y0 y1 => ?_)
      walk_at "g"
      refine k_nTup (by walk_at "sz") (fun TN HN nN sN eN => ?_)
      walk_at "g"
      refine k_setD (sN _ _ eM) (by show 5 < 1000; decide) ?_
      walk_at "g"
      refine k_setD upd_same (by show 6 < 1000; decide) ?_
      walk_at "g"
      simp only [upd_upd]
      have emN := sN _ _ eM
      refine q ⟨cs, R.map (·.2), L.map (·.2), 1 + x, [], 3, 1 + y⟩ pm _ ?_ ⟨by show 1 ≤ 1 + x; omega, rfl⟩ nm0 (sm_mut (s0E.trans sN) nm0) ⟨p8, pE, R, L, ⟨_, upd_same, by show 7 ≤ 7; decide, ⟨rfl, rfl, rfl⟩, rfl, by rw [tx_nil]; rfl, rfl, rfl⟩, by rw [upd_ne (ne_of (sN _ _ lM) emN (fun z => nomatch z))]; exact sN _ _ lM, fun q hq => t_dk emN (sm_t sN (rM q hq)), rfl, l_dk emN (sm_l sN vM), fun q hq => t_dk emN (sm_t sN (uM q hq)), rfl⟩
      have lcs2 : cs.length = 2 := lcs
      subst hR
      refine ⟨rise, by show 1 ≤ cs.length; omega, by show cs.length ≤ 3; omega, by show 1 ≤ 4; decide, by show 4 ≤ 4; decide, fun r hr => ?_, by rw [List.length_map, h2]; decide, fun k hk => ?_, by show 0 ≤ 1 + x; omega, by show 1 + x ≤ 2; omega, by show 0 ≤ 2; decide, fun c hc => (nomatch hc), by show (1 : Int) ≤ 3; decide, by show (3 : Int) ≤ 3; decide, by show wcount cs.length 3 ≤ 14; rw [lcs2]; decide, by show 1 ≤ 1 + y; omega, by show 1 + y ≤ 3; omega⟩
      · have hr' : r ∈ ([[1, 1], [2, 2], [3, 3], [3, 3]] : List (List Int)) := hr
        show r.length = cs.length ∧ ∀ x ∈ r, 0 ≤ x ∧ x < 4
        rw [lcs2]
        have all : ∀ r ∈ ([[1, 1], [2, 2], [3, 3], [3, 3]] : List (List Int)), r.length = 2 ∧ ∀ x ∈ r, 0 ≤ x ∧ x < 4 := by decide
        exact all r hr'
      · obtain ⟨q, hq, rfl⟩ := List.mem_map.mp hk
        exact (h3 q hq).2
theorem ok_Llean (F : FnP K "_law_lean" s_Llean f fd) (hm : mg "_law_lean" = some (.ref f)) (f_range : mg "range" = none) (f_len : mg "len" = none) (c_Lpull : Callee P w K mg base CX0 "_law_pull" 1 [] spPull) (c_Lone : Callee P w K mg base CX0 "_law_one" 2 [] (spOne K)) (c_Lhouse : Callee P w K mg base CX0 "_law_house" 4 [] (spLHouse K)) (c_Lby_length : Callee P w K mg base CX0 "_law_by_length" 3 [] (spLeanN K 0)) : Callee P w K mg base CX0 "_law_lean" 5 [] (spLeanN K 1) := by
  refine ⟨f, fd, _, [], F.ok sc_Llean (fun vs H Q E h => ?hl) (fun cdv A outer s H vs Q E hr h => ⟨_, PSs.nox (pss_cons (ps_set (i := 2) sc_Llean.nd rfl (by first | exact Or.inl rfl | exact Or.inr rfl) (pe_cl c_Lhouse hr (pa_cons (pv 0) (pa_cons pe_str (pa_cons (pv 1) pa_nil))) pass0))
      (pss_cons (ps_set (i := 3) sc_Llean.nd rfl (by first | exact Or.inl rfl | exact Or.inr rfl) (pe_cl c_Lpull hr (pa_cons (pv 0) (pa_cons pe_int pa_nil)) pass0))
      (Evl.pss_cut (ps_if (PW.pt (pw_and (pt_cmpR (op_eqK K hr.units) (pv 3) pe_int (nomark _)) (pw_and1 (pt_cmpR op_gt (pv 1) pe_int (nomark _))))) (pss_one (ps_ret (pe_cl c_Lby_length hr (pa_cons (pv 0) pa_nil) pass0))) pss_nil)
      (Evl.pss_cut (ps_if (PW.pt (pw_and (pt_cmpR op_lt (pv 3) pe_int (nomark _)) (pw_and1 (pt_cmpR op_gt (pe_callB (call_lenK K) (by rfl) f_len PySem.boot_len (pa_cons (pe_dget (hu_of hr) (pv 2) pe_str (fun _ _ => rfl)) pa_nil)) pe_int (nomark _))))) (pss_cons (ps_set (i := 4) sc_Llean.nd rfl (by first | exact Or.inl rfl | exact Or.inr rfl) (pe_op (op_addK K) pe_int (pe_cl c_Lpull hr (pa_cons (pv 0) (pa_cons (pe_op op_sub (pe_callB (call_lenK K) (by rfl) f_len PySem.boot_len (pa_cons (pe_dget (hu_of hr) (pv 2) pe_str (fun _ _ => rfl)) pa_nil)) pe_int) pa_nil)) pass0)))
      (pss_cons (ps_set (i := 5) sc_Llean.nd rfl (by first | exact Or.inl rfl | exact Or.inr rfl) (pe_cl c_Lone hr (pa_cons (pv 0) (pa_cons (pe_lst (pa_cons pe_str (pa_cons pe_str pa_nil))) pa_nil)) pass0))
      (pss_cons (ps_dput (hu_of hr) (pv 2) pe_str (pe_lst pa_nil) rfl)
      (pss_one (ps_for PassesOwn.never rfl (pi_range1 (by rfl) f_range (pa_cons (pv 4) pa_nil)) (pg_name (i := 6) sc_Llean.nd rfl (by first | exact Or.inl rfl | exact Or.inr rfl)) (pss_cons (ps_setLc (i := 7) (own := [("_law_other", 8)]) rfl sc_Llean.nd rfl rfl (sw_true rfl rfl rfl (by decide +kernel)) (pi_range2 (by rfl) f_range (pa_cons (pv 4) (pa_cons (pe_callB (call_lenK K) (by rfl) f_len PySem.boot_len (pa_cons (pe_dget (hu_of hr) (pv 2) pe_str (fun _ _ => rfl)) pa_nil)) pa_nil))) (blkOk_by (N := ["_law_bag_here", "_law_most_words", "_law_m", "_law_fork", "_law_half", "_law_edge", "_law_one_here", "_law_some", "_law_other"]) (sc := defScope s_Llean) (by decide +kernel)) (fun _ _ _ _ _ => (pg_name (i := 8) sc_Llean.nd rfl (by first | exact Or.inl rfl | exact Or.inr rfl))) (fun _ _ _ _ _ => (pts_one (pt_cmpR op_gt (pe_cl c_Lpull hr (pa_cons (pv 0) (pa_cons pe_int pa_nil)) pass0) pe_int (nomark _)))) (fun _ _ _ _ _ => (pv 8)))
      (pss_one (ps_dput (hu_of hr) (pv 2) pe_str (pe_op (op_addK K) (pe_dget (hu_of hr) (pv 2) pe_str (fun _ _ => rfl)) (pe_lc (own := [("_law_other", 8)]) rfl sc_Llean.nd (pi_listK K (pv 7)) (blkOk_by (N := ["_law_bag_here", "_law_most_words", "_law_m", "_law_fork", "_law_half", "_law_edge", "_law_one_here", "_law_some", "_law_other"]) (sc := defScope s_Llean) (by decide +kernel)) (fun _ _ _ _ _ => (pg_name (i := 8) sc_Llean.nd rfl (by first | exact Or.inl rfl | exact Or.inr rfl))) (fun _ _ _ _ _ => pts_nil) (fun _ _ _ _ _ => (pe_tup (pa_cons (pv 5) (pa_cons (pv 6) (pa_cons (pv 8) pa_nil))))))) rfl)))))))) pss_nil)
      (Evl.pss_cut (ps_if (pt_cmpR (op_eqK K hr.units) (pv 3) pe_int (nomark _)) (pss_cons (ps_dput (hu_of hr) (pv 2) pe_str (pe_lst (pa_cons (pe_op (op_repTU K) (pe_tup (pa_cons pe_int pa_nil)) (pe_callB (call_lenK K) (by rfl) f_len PySem.boot_len (pa_cons (pe_dget (hu_of hr) (pv 2) pe_str (fun _ _ => rfl)) pa_nil))) pa_nil)) rfl)
      (pss_one (ps_dput (hu_of hr) (pv 2) pe_str (pe_lst (pa_cons (pe_tup (pa_cons (pe_cl c_Lone hr (pa_cons (pv 0) (pa_cons (pe_lst (pa_cons pe_str (pa_cons pe_str pa_nil))) pa_nil)) pass0) (pa_cons pe_int (pa_cons pe_int pa_nil)))) pa_nil)) rfl))) pss_nil)
      (pss_one (ps_ret (pv 2)))))))), ?rd⟩), hm, F.kp, F.bindsN fun _ _ _ _ _ _ us hl => match us, hl with | [_, _], _ => rfl, .nil⟩
  case hl =>
    obtain ⟨b, ws, rfl, lw, _⟩ := h
    rw [List.length_cons, lw]
    rfl
  case rd =>
    obtain ⟨b, ws, rfl, lw, hws, hb, q⟩ := h
    obtain ⟨v, ew⟩ : ∃ v, ws = [v] := List.length_eq_one_iff.mp lw
    subst ew
    obtain ⟨mw, rfl, mw14⟩ := hws v List.mem_cons_self
    clear hws lw
    refine k_start (σ' := [some _, some _, none, none, none, none, none, none, none]) rfl ?_
    walk_at "g"
    refine ⟨b, _, mw, rfl, hb, mw14, fun S m H4 ok hd s4 hM => ?_⟩
    have hb4 := hb.sm s4
    have nm0 := hd.n0
    have hX := hd.max
    obtain ⟨lc1, lp0⟩ := hd.lean rfl
    have len0 : LeanD S := ⟨lc1, List.length_eq_zero_iff.mp (by omega)⟩
    walk_at "g"
    refine k_pull hb4 (by omega) (by omega) (fun x x0 x1 => ?_)
    walk_at "g"
    with_reducible refine k_cut (fun σ' H' => σ' = [some (.ref b), some (.int mw), some (.ref m), some (.int x), none, none, none, none, none] ∧ H4 = H') ?_ (fun σ' H' h => ?_)
    · walk_at "g"
      refine k_dec (fun d => ?_) (fun d => ?_)
      · walk_at "g"
        refine k_dec (fun d2 => ?_) (fun d2 => ?_)
        · walk_at "g"
          refine ⟨b, [], rfl, rfl, (fun v hv => nomatch hv), hb4, fun S' m' H' ok' l' n' s' hM' => ?_⟩
          walk_at "g"
          exact q S' m' H' ok' l' (s4.free n') (s4.trans s') hM'
        · walk_at "g"
          exact ⟨rfl, rfl⟩
      · walk_at "g"
        exact ⟨rfl, rfl⟩
    obtain ⟨rfl, rfl⟩ := h
    with_reducible refine k_cut (fun σ' H' => ∃ (T : HsD) (y4 y5 y6 y7 y8 : Option V), σ' = [some (.ref b), some (.int mw), some (.ref m), some (.int x), y4, y5, y6, y7, y8] ∧ Same H H' ∧ MAX K H' m T ∧ HsOk T ∧ LeanD T) ?_ (fun σ' H' h => ?_)
    · walk_at "g"
      refine k_dec (fun d => ?_) (fun d => ?_)
      · obtain ⟨tb, ev, R, L, h1, h2, h3, h4, h5, h6, h7⟩ := id hM
        have lR : R.length = S.tb.length := by rw [← h4, List.length_map]
        have t4 := ok.t4
        walk_at "g"
        refine k_dec (fun d2 => ?_) (fun d2 => ?_)
        · have lR2 : (R.map fun q => V.ref q.1).length = S.tb.length := by rw [List.length_map, lR]
          rw [lR2] at d2
          walk_at "g"
          rw [lR2]
          refine k_pull hb4 (by omega) (by omega) (fun hf hf0 hf1 => ?_)
          walk_at "g"
          refine k_nLst (by walk_at "sz") (fun p5 H5 n5 s5 e5 => ?_)
          have hb5 := hb4.sm s5
          walk_at "g"
          refine ⟨b, .ref p5, rfl, hb5, .inl ⟨p5, _, rfl, sq_l e5, by show 0 < 2; decide, by show 2 ≤ 100000; decide, fun v hv => ?_⟩⟩
          obtain ⟨sd, rfl⟩ : ∃ sd : Bool, v = .str (if sd = true then Str.ofString "right" else Str.ofString "left") := by
            rcases List.mem_cons.mp hv with rfl | hv
            · exact ⟨false, rfl⟩
            rcases List.mem_cons.mp hv with rfl | hv
            · exact ⟨true, rfl⟩
            cases hv
          clear hv
          walk_at "g"
          refine k_nLst (by walk_at "sz") (fun p6 H6 n6 s6 e6 => ?_)
          walk_at "g"
          have s46 := s5.trans s6
          obtain ⟨kv, ek, kl, tb0, R0, a1, a2, a3, a4, a5, a6⟩ := (hX.sm s46).eatsX (L := []) e6 (fun q hq => nomatch hq)
          refine k_nDp ek (by omega) ?_
          have s07 : Same H (upd H6 m (.dK (putK kv (.inr "eats") (.ref p6)))) := sm_mut (s4.trans s46) nm0
          generalize upd H6 m (.dK (putK kv (.inr "eats") (.ref p6))) = H7 at s07 a1 a2 a3 a5 a6 ⊢
          walk_at "g"
          refine k_nFor walk_range (fun i σ H' => (∃ y6 y7, σ = [some (.ref b), some (.int mw), some (.ref m), some (.int x), some (.int (1 + hf)), some (.str (if sd = true then Str.ofString "right" else Str.ofString "left")), y6, y7, none]) ∧ Same H H' ∧ ∃ (tb ev : Addr) (R : List RwI) (L : List RwM), MDk H' m { S with tr := L.map (·.2) } tb ev ∧ H' tb = some (.lst (R.map fun q => V.ref q.1)) ∧ (∀ q ∈ R, SqT K H' q.1 (q.2.map V.int)) ∧ R.map (·.2) = S.tb ∧ H' ev = some (.lst (L.map fun q => V.ref q.1)) ∧ (∀ q ∈ L, SqT K H' q.1 (q.2.map kV)) ∧ L.length ≤ 3 * i ∧ ∀ q ∈ L, ∃ s a c, q.2 = kEat s a c ∧ 0 ≤ a ∧ a < S.tb.length ∧ 0 ≤ c ∧ c < S.tb.length) ⟨⟨_, _, rfl⟩, s07, tb0, p6, R0, [], a1, a2, a3, a4, a5, a6, Nat.zero_le _, fun q hq => nomatch hq⟩ (fun _ _ _ _ _ => trivial) (fun i v σ Ha Hb hi h hy => ?ht) (fun σ H' h => ?he)
          case he =>
            obtain ⟨⟨y6, y7, rfl⟩, sA, tb', ev', R', L', g1, g2, g3, g4, g5, g6, g7, g8⟩ := h
            walk_at "g"
            refine ⟨{ S with tr := L'.map (·.2) }, _, _, _, _, _, rfl, sA, ⟨tb', ev', R', L', g1, g2, g3, g4, sq_l g5, g6, rfl⟩, { ok with e7 := by show (L'.map (·.2)).length ≤ 12; rw [List.length_map]; omega, ev := fun k hk => ?_ }, ⟨len0.c1, len0.p0⟩⟩
            obtain ⟨q0, hq, rfl⟩ := List.mem_map.mp hk
            exact g8 q0 hq
          case ht =>
            obtain ⟨⟨y6, y7, rfl⟩, sA, tb', ev', R', L', g1, g2, g3, g4, g5, g6, g7, g8⟩ := h
            obtain ⟨rfl, rfl⟩ := y_rng hy
            have g2s := sq_l (K := K) g2
            have lR3 : (R'.map fun q => V.ref q.1).length = S.tb.length := by rw [← g4, List.length_map, List.length_map]
            walk_at "g"
            rw [lR3]
            refine k_nRng2 (by omega) ?_
            walk_at "g"
            refine k_nLc walk_range (fun _ _ => trivial) (fun j ws => ∃ xs : List Int, ws = xs.map V.int ∧ xs.length ≤ j ∧ ∀ x ∈ xs, 0 ≤ x ∧ x < S.tb.length) ⟨[], rfl, Nat.le_refl _, fun q hq => nomatch hq⟩ (fun j ws hj h => ?hz) (fun j v Hc Hd ws Kp Ks hj s8 hws hy hKp hKs => ?ht2) (fun p8 H8 ws n8 s8 e8 hws => ?he2)
            case hz =>
              obtain ⟨xs, h1, h2, _⟩ := h
              rw [h1, List.length_map]
              omega
            case ht2 =>
              obtain ⟨rfl, rfl⟩ := hy
              obtain ⟨xs, h1, h2, h3⟩ := hws
              walk_at "g"
              refine ⟨rfl, ?_⟩
              walk_at "g"
              refine k_pull ((hb.sm sA).sm s8) (by omega) (by omega) (fun u u0 u1 => ?_)
              walk_at "g"
              refine k_dec (fun d3 => ?_) (fun d3 => ?_)
              · walk_at "g"
                refine hKp _ _ (Same.refl _) ⟨xs ++ [1 + hf + j], by rw [h1, List.map_append]; rfl, by rw [List.length_append]; exact Nat.succ_le_succ h2, fun y hy => ?_⟩
                rcases List.mem_append.mp hy with hy | hy
                · exact h3 y hy
                · rw [List.mem_singleton.mp hy]
                  omega
              · walk_at "g"
                exact hKs _ (Same.refl _) ⟨xs, h1, by omega, h3⟩
            case he2 =>
              obtain ⟨xs, hx1, hx2, hx3⟩ := hws
              subst hx1
              have g18 := g1.sm s8
              walk_at "g"
              have lX : (xs.map V.int).length = xs.length := List.length_map _
              refine k_nLcD (walk_list (xs := xs.map V.int)) (fun H' s => sm_l s (sq_l e8)) (fun j ws H1 => ∃ M : List RwM, ws = M.map (fun q => V.ref q.1) ∧ M.length = j ∧ ∀ q ∈ M, SqT K H1 q.1 (q.2.map kV) ∧ ∃ s a c, q.2 = kEat s a c ∧ 0 ≤ a ∧ a < S.tb.length ∧ 0 ≤ c ∧ c < S.tb.length) (fun j ws H1 H2 s h => ?hm) ⟨[], rfl, rfl, fun q hq => nomatch hq⟩ (fun j ws H1 hj h => ?hz4) (fun j v p H1 H2 ws Kp Ks hj hp s9 e9 hws hy hKp hKs => ?ht4) (fun pE HE ws nE sE eE hws => ?he4)
              case hm =>
                obtain ⟨M, h1, h2, h3⟩ := h
                exact ⟨M, h1, h2, fun q hq => ⟨sm_t s (h3 q hq).1, (h3 q hq).2⟩⟩
              case hz4 =>
                obtain ⟨M, h1, h2, _⟩ := h
                rw [h1, List.length_map]
                omega
              case ht4 =>
                obtain ⟨rfl, hv⟩ := hy
                obtain ⟨y, hy0, rfl⟩ := map_get hv
                obtain ⟨y0, y1⟩ := hx3 y (List.mem_of_getElem? hy0)
                obtain ⟨M, h1, h2, h3⟩ := hws
                walk_at "g"
                refine ⟨rfl, ?_⟩
                walk_at "g"
                refine k_nTup (by walk_at "sz") (fun TA HA nA sB eB => hKp _ _ sB ⟨M ++ [(TA, kEat sd i y)], by rw [h1, List.map_append]; rfl, by rw [List.length_append, h2]; rfl, fun q hq => ?_⟩)
                rcases List.mem_append.mp hq with hq | hq
                · exact ⟨sm_t (del_mono sB) (h3 q hq).1, (h3 q hq).2⟩
                · rw [List.mem_singleton.mp hq]
                  exact ⟨del_t (sB _ _ e9) (sq_t eB), sd, _, _, rfl, by omega, by omega, by omega, by omega⟩
              case he4 =>
                obtain ⟨M, h1, h2, h3⟩ := hws
                subst h1
                have s8E := s8.trans sE
                walk_at "g"
                refine k_add_l (s8E _ _ g5) eE (by rw [List.length_map, List.length_map]; omega) (fun pN HN nN sN eN => ?_)
                walk_at "g"
                have s8N := s8E.trans sN
                have hMi : MAX K Hb m { S with tr := L'.map (·.2) } := ⟨tb', ev', R', L', g1, g2, g3, g4, sq_l g5, g6, rfl⟩
                obtain ⟨kv2, ek2, kl2, tb2, R2, c1, c2, c3, c4, c5, c6⟩ := (hMi.sm s8N).eatsX (p := pN) (L := L' ++ M) (by rw [eN, List.map_append]) (fun q hq => by
                  rcases List.mem_append.mp hq with hq | hq
                  · exact sm_t s8N (g6 q hq)
                  · exact sm_t sN (h3 q hq).1)
                refine k_nDp ek2 (by omega) ?_
                refine ⟨⟨_, _, rfl⟩, sm_mut (sA.trans s8N) nm0, tb2, pN, R2, L' ++ M, c1, c2, c3, c4, c5, c6, ?_, fun q hq => ?_⟩
                · rw [List.length_append, h2, lX]
                  omega
                · rcases List.mem_append.mp hq with hq | hq
                  · exact g8 q hq
                  · exact (h3 q hq).2
        · walk_at "g"
          exact ⟨S, _, _, _, _, _, rfl, s4, hX, ok, len0⟩
      · walk_at "g"
        exact ⟨S, _, _, _, _, _, rfl, s4, hX, ok, len0⟩
    obtain ⟨T, y4, y5, y6, y7, y8, rfl, sT, hT, okT, lnT⟩ := h
    with_reducible refine k_cut (fun σ' H' => ∃ (T : HsD), σ' = [some (.ref b), some (.int mw), some (.ref m), some (.int x), y4, y5, y6, y7, y8] ∧ Same H H' ∧ MAX K H' m T ∧ HsOk T ∧ LeanD T) ?_ (fun σ' H' h => ?_)
    · walk_at "g"
      refine k_dec (fun d => ?_) (fun d => ?_)
      · walk_at "g"
        refine k_nTup (by walk_at "sz") (fun T5 H5 n5 s5 e5 => ?_)
        have hT5 := (hT.sm s5).mat
        have l1 := okT.l1
        have l3 := okT.l3
        walk_at "g"
        have lx : (tx T.ls).length = T.ls.length := len_tx T.ls
        refine k_len_s (by omega) ?_
        rw [lx]
        refine k_repT (sq_t e5) (List.cons_ne_nil _ _) (by omega) (by show 1 ≤ 1000; decide) (fun p H6 s6 hp => ?_)
        rw [Int.toNat_natCast, rep_one] at hp
        walk_at "g"
        refine k_nLst (by walk_at "sz") (fun p7 H7 n7 s7 e7 => ?_)
        walk_at "g"
        have s57 := s5.trans (s6.trans s7)
        obtain ⟨kv, ek, kl, hMb⟩ := (hT.sm s57).table (R := [(p, List.replicate T.ls.length 0)]) e7 (fun q hq => by
          rw [List.mem_singleton.mp hq, List.map_replicate]
          exact sm_t s7 hp)
        refine k_nDp ek (by omega) ?_
        have s08 : Same H (upd H7 m (.dK (putK kv (.inr "table") (.ref p7)))) := sm_mut (sT.trans s57) nm0
        generalize upd H7 m (.dK (putK kv (.inr "table") (.ref p7))) = H8 at s08 hMb ⊢
        walk_at "g"
        refine k_nLst (by walk_at "sz") (fun p9 H9 n9 s9 e9 => ?_)
        have hb9 := (hb.sm s08).sm s9
        walk_at "g"
        refine ⟨b, .ref p9, rfl, hb9, .inl ⟨p9, _, rfl, sq_l e9, by show 0 < 2; decide, by show 2 ≤ 100000; decide, fun v hv => ?_⟩⟩
        obtain ⟨sd, rfl⟩ : ∃ sd : Bool, v = .str (if sd = true then Str.ofString "right" else Str.ofString "left") := by
          rcases List.mem_cons.mp hv with rfl | hv
          · exact ⟨false, rfl⟩
          rcases List.mem_cons.mp hv with rfl | hv
          · exact ⟨true, rfl⟩
          cases hv
        clear hv
        walk_at "g"
        refine k_nTup (by walk_at "sz") (fun TA HA nA sA eA => ?_)
        walk_at "g"
        refine k_nLst (by walk_at "sz") (fun pB HB nB sB eB => ?_)
        walk_at "g"
        have s9B := s9.trans (sA.trans sB)
        obtain ⟨kv2, ek2, kl2, hMc⟩ := (hMb.sm s9B).eats (L := [(TA, kEat sd 0 0)]) eB (fun q hq => by
          rw [List.mem_singleton.mp hq]
          exact sm_t sB (sq_t eA))
        refine k_nDp ek2 (by omega) ?_
        walk_at "g"
        refine ⟨_, rfl, sm_mut (s08.trans s9B) nm0, hMc, { okT with t1 := by show 1 ≤ 1; decide, t4 := by show 1 ≤ 4; decide, tw := fun r hr => ?_, e7 := by show 1 ≤ 12; decide, ev := fun k hk => ?_ }, ⟨lnT.c1, lnT.p0⟩⟩
        · rw [List.mem_singleton.mp hr]
          exact ⟨List.length_replicate, fun x hx => by rw [(List.mem_replicate.mp hx).2]; exact ⟨Int.le_refl _, by show (0 : Int) < ((1 : Nat) : Int); decide⟩⟩
        · rw [List.mem_singleton.mp hk]
          exact ⟨sd, 0, 0, rfl, Int.le_refl _, by show (0 : Int) < ((1 : Nat) : Int); decide, Int.le_refl _, by show (0 : Int) < ((1 : Nat) : Int); decide⟩
      · walk_at "g"
        exact ⟨T, rfl, sT, hT, okT, lnT⟩
    obtain ⟨T2, rfl, s2, hM2, ok2, ln2⟩ := h
    walk_at "g"
    exact q T2 m _ ok2 ln2 nm0 s2 hM2
end
end Lw
set_option autoImplicit true
set_option pp.maxSteps 1200
set_option Elab.async false
set_option linter.all false
set_option maxRecDepth 100000
set_option maxHeartbeats 1000000
namespace Lw
open PySem PySem.Spec PyProof.Rows L2 Gk
/-! ### the way told is one -/
def walkF (S : HsD) : List (List Nat) → List Bt → Option (List (List Nat))
  | u, [] => some u
  | u, b :: bs => match behF S u (b.1 : Nat) b.2 with
    | none => none
    | some m => walkF S m bs
/-! ### a run is a walk, and a lean one comes to an end -/
theorem run_walk {S : HsD} {o : Ord} : ∀ (n k : Nat) (us : Rw), walkF S us (runF S o n k us).2 = some (runF S o n k us).1
  | 0, _, us => rfl
  | n + 1, k, us => by
    cases e : pickB us (bitesF S us) o k with
    | none =>
      rw [runF_none e]
      rfl
    | some x =>
      rw [runF_some e]
      have h2 := (bitesF_in.mp (pick_mem e)).2
      show (match behF S us (x.1.1 : Nat) x.1.2 with | none => none | some m => walkF S m (runF S o n (k + 1) x.2).2) = _
      rw [h2]
      exact run_walk n (k + 1) x.2
end Lw
namespace Lw
open PySem PySem.Spec PyProof.Rows L2 Gk

local macro_rules | `(tactic| walk_at "hp") => `(tactic| first | assumption | exact upd_same | (refine' (upd_ne ?n).trans ?h; (case n => assumption); (case h => walk_at "hp")) | (refine' sm_get ?s ?h; (case s => assumption); (case h => walk_at "hp")))
local macro_rules | `(tactic| walk_at "sq") => `(tactic| first | assumption | (refine' sq_l ?h; (case h => walk_at "hp")) | (refine' sm_l ?s ?h; (case s => assumption); (case h => walk_at "sq")))
local macro_rules | `(tactic| walk_at "st") => `(tactic| first | assumption | (refine' sq_t ?h; (case h => walk_at "hp")) | (refine' sm_t ?s ?h; (case s => assumption); (case h => walk_at "st")))
local macro_rules | `(tactic| walk_at "bg") => `(tactic| first | assumption | (refine' BagOk.sm ?s ?h; (case s => assumption); (case h => walk_at "bg")))
local macro_rules | `(tactic| walk_at "sm") => `(tactic| first | assumption | exact Same.refl _ | (refine' Same.trans ?h ?s; (case s => assumption); (case h => walk_at "sm")))
local macro_rules | `(tactic| walk_at "hs") => `(tactic| first | assumption | (refine' HsAt.sm ?s ?h; (case s => assumption); (case h => walk_at "hs")))
local macro_rules | `(tactic| walk_at "ms") => `(tactic| first | assumption | (refine' MAt.sm ?s ?h; (case s => assumption); (case h => walk_at "ms")))
local macro_rules | `(tactic| walk_at "md") => `(tactic| first | assumption | (refine' MDk.sm ?s ?h; (case s => assumption); (case h => walk_at "md")))
local macro_rules | `(tactic| walk_at "dp") => `(tactic| first | assumption | (refine' dp_sm ?s ?h; (case s => assumption); (case h => walk_at "dp")))
local macro_rules | `(tactic| walk_at "sz") => `(tactic| first | decide | assumption | omega | (simp only [List.length_cons, List.length_nil, List.length_map, List.length_append]; omega))
local macro_rules | `(tactic| walk_at "g1") => `(tactic| first
  | with_reducible refine k_seq ?_
  | with_reducible refine k_itB ?_
  | with_reducible refine k_next ?_
  | with_reducible refine k_asg ?_
  | with_reducible refine k_name ?_
  | with_reducible refine k_ret ?_
  | with_reducible refine k_retN ?_
  | with_reducible refine k_drop ?_
  | with_reducible refine k_ifs ?_
  | with_reducible refine k_brk ?_
  | with_reducible refine k_cont ?_
  | with_reducible refine k_ipI ?_
  | with_reducible refine k_test ?_
  | with_reducible refine k_tB ?_
  | with_reducible refine k_bl ?_
  | with_reducible refine k_not ?_
  | with_reducible refine k_and ?_
  | with_reducible refine k_or ?_
  | with_reducible refine k_yes ?_
  | with_reducible refine k_true ?_
  | with_reducible refine k_false ?_
  | with_reducible refine k_nt ?_
  | with_reducible refine k_c ?_
  | with_reducible refine k_op ?_
  | with_reducible refine k_un ?_
  | with_reducible refine k_if ?_
  | with_reducible refine k_chain ?_
  | with_reducible refine k_nil ?_
  | with_reducible refine k_cons ?_
  | with_reducible refine k_cb ?_
  | with_reducible refine k_call ?_
  | with_reducible refine k_callS ?_
  | with_reducible refine k_andV ?_
  | with_reducible refine k_orV ?_
  | with_reducible refine k_notV ?_
  | with_reducible refine k_lst ?_
  | with_reducible refine k_tup ?_
  | with_reducible refine k_nopart ?_
  | with_reducible refine k_part ?_
  | with_reducible refine k_nInt ?_
  | with_reducible refine k_sl ?_
  | with_reducible refine k_bm ?_
  | with_reducible refine k_bm0 ?_
  | with_reducible refine k_nTyS ?_
  | with_reducible refine k_m1 ?_
  | with_reducible refine k_m0 ?_
  | with_reducible refine k_nStr ?_
  | with_reducible refine k_I0 ?_
  | with_reducible refine k_U ?_
  | with_reducible refine k_add_i ?_
  | with_reducible refine k_eq_i ?_
  | with_reducible refine k_eq_s ?_
  | with_reducible refine k_eq_b ?_
  | with_reducible refine k_ne_i ?_
  | with_reducible refine k_ne_s ?_
  | with_reducible refine k_ne_b ?_
  | with_reducible refine k_le_i ?_
  | with_reducible refine k_le_s ?_
  | with_reducible refine k_gnil ?_
  | with_reducible refine k_gcons ?_
  | with_reducible refine k_gsub ?_
  | with_reducible refine k_for ?_
  | with_reducible refine k_lc ?_
  | with_reducible refine k_rng1 ?_
  | with_reducible refine k_rng2 ?_
  | with_reducible refine k_itl ?_
  | with_reducible refine k_itt ?_
  | with_reducible refine k_its ?_
  | with_reducible refine k_ite ?_
  | with_reducible refine k_iteB ?_
  | with_reducible refine k_lrg2 ?_
  | with_reducible refine k_itz ?_
  | with_reducible refine k_nIts ?_
  | with_reducible refine k_inS ?_
  | with_reducible refine k_niS ?_
  | with_reducible refine k_mk ?_
  | with_reducible refine k_meth ?_
  | with_reducible refine k_fld ?_
  | with_reducible refine k_sfld ?_
  | with_reducible refine k_dg ?_
  | with_reducible refine k_dp ?_
  | with_reducible refine k_pr ?_
  | with_reducible refine k_pr0 ?_
  | with_reducible refine k_sg ?_
  | with_reducible refine k_lc2 ?_
  | with_reducible refine k_callN ?_
  | with_reducible refine k_callNS ?_
  | with_reducible refine k_par ?_
  | with_reducible refine k_nPar ?_
  | with_reducible refine k_isNn ?_
  | with_reducible refine k_isNr ?_
  | with_reducible refine k_ntNn ?_
  | with_reducible refine k_ntNr ?_
  | with_reducible refine k_min2 ?_
  | with_reducible refine k_max2 ?_
  | with_reducible refine k_intB ?_
  | with_reducible refine k_intI ?_
  | with_reducible refine k_isBl ?_
  | with_reducible refine k_ntBl ?_
  | ((with_reducible refine' k_var ?kv ?_); (case kv => exact rfl))
  | ((with_reducible refine' k_aug ?kv ?_); (case kv => exact rfl))
  | ((with_reducible refine' k_ix_l ?ks ?ki ?_); (case ks => walk_at "sq"); (case ki => exact rfl))
  | ((with_reducible refine' k_ix_t ?ks ?ki ?_); (case ks => walk_at "st"); (case ki => exact rfl))
  | ((with_reducible refine' k_len_l ?ks ?_); (case ks => walk_at "sq"))
  | ((with_reducible refine' k_len_t ?ks ?_); (case ks => walk_at "st"))
  | ((with_reducible refine' k_setL ?ks ?ki ?_); (case ks => walk_at "hp"); (case ki => exact rfl))
  | ((with_reducible refine' k_nTyL ?ks ?_); (case ks => walk_at "sq"))
  | ((with_reducible refine' k_nItl ?ks ?_); (case ks => walk_at "sq"))
  | ((with_reducible refine' k_nItt ?ks ?_); (case ks => walk_at "st"))
  | ((with_reducible refine' k_nIte ?ks ?_); (case ks => walk_at "sq"))
  | ((with_reducible refine' k_mul ?km ?_); (case km => first | exact Or.inr ⟨by decide, by decide⟩ | exact Or.inl ⟨by decide, by decide⟩))
  | ((with_reducible refine' k_I ?km ?_); (case km => first | assumption | decide | exact ⟨by decide, by decide +kernel⟩ | exact ⟨by decide, by decide, by decide⟩))
  | ((with_reducible refine' k_nMeth ?kp ?kl ?_); (case kp => walk_at "hp"); (case kl => exact rfl))
  | ((with_reducible refine' k_nFld ?kp ?kc ?kn ?kl ?_); (case kp => walk_at "hp"); (case kc => assumption); (case kn => assumption); (case kl => exact rfl))
  | ((with_reducible refine' k_nSFld ?kp ?kc ?kn ?kl ?_); (case kp => walk_at "hp"); (case kc => assumption); (case kn => assumption); (case kl => exact of_decide_eq_true rfl))
  | ((with_reducible refine' k_nDg ?kp ?kl ?_); (case kp => walk_at "hp"); (case kl => exact rfl))
  | ((with_reducible refine' k_nRng1 ?k1 ?k2 ?_); (case k1 => omega); (case k2 => omega))
  | ((with_reducible refine' k_nKw ?k1 ?k2 ?_); (case k1 => exact rfl); (case k2 => exact rfl))
  | ((with_reducible refine' k_hsm ?kh ?_); (case kh => walk_at "hs"))
  | ((with_reducible refine' k_nMethH ?kh ?kl ?_); (case kh => walk_at "hs"); (case kl => exact fun _ _ => rfl))
  | ((with_reducible refine' k_mLet ?kh ?_); (case kh => walk_at "ms"))
  | ((with_reducible refine' k_mChew ?kh ?_); (case kh => walk_at "ms"))
  | ((with_reducible refine' k_mPut ?kh ?_); (case kh => walk_at "ms"))
  | ((with_reducible refine' k_mMost ?kh ?_); (case kh => walk_at "ms"))
  | ((with_reducible refine' k_mCut ?kh ?_); (case kh => walk_at "ms"))
  | ((with_reducible refine' k_mTab ?kh ?_); (case kh => walk_at "md"))
  | ((with_reducible refine' k_mEats ?kh ?_); (case kh => walk_at "md"))
  | ((with_reducible refine' k_gtup ?ks ?kl ?_); (case ks => walk_at "st"); (case kl => exact rfl)))
local macro_rules | `(tactic| walk_at "g") => `(tactic| repeat (walk_at "g1"))
local macro_rules | `(tactic| walk_at "w1") => `(tactic| first
  | walk_at "g1"
  | ((with_reducible refine' k_decT ?kp ?_); (case kp => omega))
  | ((with_reducible refine' k_decF ?kp ?_); (case kp => omega))
  | ((with_reducible refine' k_decNT ?kp ?_); (case kp => omega))
  | ((with_reducible refine' k_decNF ?kp ?_); (case kp => omega)))
local macro_rules | `(tactic| walk_at "w") => `(tactic| repeat (walk_at "w1"))


section
variable {P : Program} {w : World} {K : PySem.W.Frag} {mg : Str → Option Value} {base : Heap} {f : Addr} {fd : FuncData}
/-! ### the law's own walking -/
def WkIs (K : PySem.W.Frag) (H : Hp) (v : V) : Option (List (List Nat)) → Prop
  | none => v = .non
  | some m => ∃ p, v = .ref p ∧ H p = some (.lst (tS m))
theorem walkF_words {S : HsD} (ok : HsOk S) : ∀ (bs : List Bt) {us m : List (List Nat)}, AllW S us → walkF S us bs = some m → AllW S m ∧ m.length ≤ us.length + 8 * bs.length
  | [], us, m, hw, h => by
    cases (Option.some.inj h)
    exact ⟨hw, by omega⟩
  | b :: bs, us, m, hw, h => by
    have h' : (match behF S us (b.1 : Nat) b.2 with | none => none | some m => walkF S m bs) = some m := h
    cases e : behF S us (b.1 : Nat) b.2 with
    | none =>
      rw [e] at h'
      cases h'
    | some m2 =>
      rw [e] at h'
      obtain ⟨h2, h3⟩ := behF_words ok hw e
      obtain ⟨h4, h5⟩ := walkF_words ok bs h2 h'
      refine ⟨h4, ?_⟩
      rw [List.length_cons]
      omega
def spLWalk (K : PySem.W.Frag) : Sp := fun vs H Q _ => ∃ (m r st : Addr) (S : HsD) (us : List (List Nat)) (ws : List V) (bs : List Bt), vs = [.ref m, .ref r, .ref st] ∧ MAt K H m S ∧ HsOk S ∧ H r = some (.lst (tS us)) ∧ AllW S us ∧ SqL K H st ws ∧ DpAll K H ws (bs.map dBt) ∧ us.length + 8 * bs.length ≤ 10000 ∧
  ∀ v H', Same H H' → WkIs K H' v (walkF S us bs) → Q v H'
theorem ok_Lwalk (F : FnP K "_law_walk" s_Lwalk f fd) (hm : mg "_law_walk" = some (.ref f)) (c_Lbehind : Callee P w K mg base CX0 "_law_behind" 2 [] (spLBehind K)) : Callee P w K mg base CX0 "_law_walk" 3 [] (spLWalk K) := by
  refine ⟨f, fd, _, [], F.ok sc_Lwalk (fun vs H Q E h => ?hl) (fun cdv A outer s H vs Q E hr h => ⟨_, PSs.nox (pss_cons (ps_set (i := 3) sc_Lwalk.nd rfl (by first | exact Or.inl rfl | exact Or.inr rfl) (pv 1))
      (pss_cons (ps_for PassesOwn.never rfl (pi_listK K (pv 2)) (pg_tupK K 2 (by rfl) (pgs_cons (pg_name (i := 4) sc_Lwalk.nd rfl (by first | exact Or.inl rfl | exact Or.inr rfl)) (pgs_cons (pg_name (i := 5) sc_Lwalk.nd rfl (by first | exact Or.inl rfl | exact Or.inr rfl)) pgs_nil))) (pss_cons (ps_set (i := 3) sc_Lwalk.nd rfl (by first | exact Or.inl rfl | exact Or.inr rfl) (pe_cl c_Lbehind hr (pa_cons (pv 0) (pa_cons (pv 3) (pa_cons (pv 4) (pa_cons (pv 5) pa_nil)))) pass0))
      (pss_one (ps_if (pt_cmpR op_isN1 (pv 3) pe_non (nomark _)) (pss_one (ps_ret pe_non)) pss_nil))))
      (pss_one (ps_ret (pv 3))))), ?rd⟩), hm, F.kp, F.bindsN fun _ _ _ _ _ _ us hl => match us, hl with | [_, _, _], _ => rfl, .nil⟩
  case hl =>
    obtain ⟨m, r, st, S, us, ws, bs, rfl, _⟩ := h
    rfl
  case rd =>
    obtain ⟨m, r, st, S, us, ws, bs, rfl, hM, ok, hr, hw, hst, hbs, hl, q⟩ := h
    refine k_start (σ' := [some _, some _, some _, none, none, none]) rfl ?_
    have lws : ws.length = bs.length := by
      have := dpall_len hbs
      rwa [List.length_map] at this
    walk_at "g"
    refine k_nFor (walk_list (xs := ws)) (fun j σ H' => (∃ pc cur y4 y5, σ = [some (.ref m), some (.ref r), some (.ref st), some (.ref pc), y4, y5] ∧ H' pc = some (.lst (tS cur)) ∧ AllW S cur ∧ cur.length ≤ us.length + 8 * j ∧ walkF S us bs = walkF S cur (bs.drop j)) ∧ Same H H') ⟨⟨r, us, _, _, rfl, hr, hw, by omega, rfl⟩, Same.refl _⟩ (fun j σ H' _ h => sm_l h.2 hst) (fun j x σ Ha Hb hj h hy => ?ht) (fun σ H' h => ?he)
    case he =>
      obtain ⟨⟨pc, cur, y4, y5, rfl, hpc, hcw, lc, hwk⟩, sa⟩ := h
      walk_at "g"
      refine q _ _ sa ?_
      rw [hwk, lws, List.drop_length]
      exact ⟨pc, rfl, hpc⟩
    case ht =>
      obtain ⟨⟨pc, cur, y4, y5, rfl, hpc, hcw, lc, hwk⟩, sa⟩ := h
      obtain ⟨rfl, hv⟩ := hy
      obtain ⟨d, hd1, hd2⟩ := dpall_get (dpall_sm sa hbs) hv
      obtain ⟨x, hx1, rfl⟩ := map_get hd1
      obtain ⟨t, rfl, ht1⟩ := dp_btI hd2
      have hlx : j < bs.length := (List.getElem?_eq_some_iff.mp hx1).1
      have dr : bs.drop j = x :: bs.drop (j + 1) := by
        rw [List.drop_eq_getElem_cons hlx]
        congr 1
        exact Option.some.inj ((List.getElem?_eq_getElem hlx).symm.trans hx1)
      rw [dr] at hwk
      walk_at "g"
      refine ⟨m, pc, S, cur, (x.1 : Nat), sdS x.2, rfl, hM.sm sa, ok, sq_l hpc, hcw, by omega, fun v2 H2 s2 hv2 => ?_⟩
      rw [behS_sd] at hv2
      have hwk' : walkF S us bs = (match behF S cur (x.1 : Nat) x.2 with | none => none | some m => walkF S m (bs.drop (j + 1))) := hwk
      cases eb : behF S cur (x.1 : Nat) x.2 with
      | none =>
        rw [eb] at hv2 hwk'
        cases (show v2 = .non from hv2)
        walk_at "g"
        refine q _ _ (sa.trans s2) ?_
        rw [hwk']
        rfl
      | some m2 =>
        rw [eb] at hv2 hwk'
        obtain ⟨p2, rfl, np2, ep2⟩ := hv2
        obtain ⟨h2, h3⟩ := behF_words ok hcw eb
        walk_at "g"
        exact ⟨⟨p2, m2, _, _, rfl, ep2, h2, by omega, hwk'⟩, sa.trans s2⟩
end
end Lw
namespace Lw
open PySem PySem.Spec PyProof.Rows L2 Gk

local macro_rules | `(tactic| walk_at "hp") => `(tactic| first | assumption | exact upd_same | (refine' (upd_ne ?n).trans ?h; (case n => assumption); (case h => walk_at "hp")) | (refine' sm_get ?s ?h; (case s => assumption); (case h => walk_at "hp")))
local macro_rules | `(tactic| walk_at "sq") => `(tactic| first | assumption | (refine' sq_l ?h; (case h => walk_at "hp")) | (refine' sm_l ?s ?h; (case s => assumption); (case h => walk_at "sq")))
local macro_rules | `(tactic| walk_at "st") => `(tactic| first | assumption | (refine' sq_t ?h; (case h => walk_at "hp")) | (refine' sm_t ?s ?h; (case s => assumption); (case h => walk_at "st")))
local macro_rules | `(tactic| walk_at "bg") => `(tactic| first | assumption | (refine' BagOk.sm ?s ?h; (case s => assumption); (case h => walk_at "bg")))
local macro_rules | `(tactic| walk_at "sm") => `(tactic| first | assumption | exact Same.refl _ | (refine' Same.trans ?h ?s; (case s => assumption); (case h => walk_at "sm")))
local macro_rules | `(tactic| walk_at "hs") => `(tactic| first | assumption | (refine' HsAt.sm ?s ?h; (case s => assumption); (case h => walk_at "hs")))
local macro_rules | `(tactic| walk_at "ms") => `(tactic| first | assumption | (refine' MAt.sm ?s ?h; (case s => assumption); (case h => walk_at "ms")))
local macro_rules | `(tactic| walk_at "md") => `(tactic| first | assumption | (refine' MDk.sm ?s ?h; (case s => assumption); (case h => walk_at "md")))
local macro_rules | `(tactic| walk_at "dp") => `(tactic| first | assumption | (refine' dp_sm ?s ?h; (case s => assumption); (case h => walk_at "dp")))
local macro_rules | `(tactic| walk_at "sz") => `(tactic| first | decide | assumption | omega | (simp only [List.length_cons, List.length_nil, List.length_map, List.length_append]; omega))
local macro_rules | `(tactic| walk_at "g1") => `(tactic| first
  | with_reducible refine k_seq ?_
  | with_reducible refine k_itB ?_
  | with_reducible refine k_next ?_
  | with_reducible refine k_asg ?_
  | with_reducible refine k_name ?_
  | with_reducible refine k_ret ?_
  | with_reducible refine k_retN ?_
  | with_reducible refine k_drop ?_
  | with_reducible refine k_ifs ?_
  | with_reducible refine k_brk ?_
  | with_reducible refine k_cont ?_
  | with_reducible refine k_ipI ?_
  | with_reducible refine k_test ?_
  | with_reducible refine k_tB ?_
  | with_reducible refine k_bl ?_
  | with_reducible refine k_not ?_
  | with_reducible refine k_and ?_
  | with_reducible refine k_or ?_
  | with_reducible refine k_yes ?_
  | with_reducible refine k_true ?_
  | with_reducible refine k_false ?_
  | with_reducible refine k_nt ?_
  | with_reducible refine k_c ?_
  | with_reducible refine k_op ?_
  | with_reducible refine k_un ?_
  | with_reducible refine k_if ?_
  | with_reducible refine k_chain ?_
  | with_reducible refine k_nil ?_
  | with_reducible refine k_cons ?_
  | with_reducible refine k_cb ?_
  | with_reducible refine k_call ?_
  | with_reducible refine k_callS ?_
  | with_reducible refine k_andV ?_
  | with_reducible refine k_orV ?_
  | with_reducible refine k_notV ?_
  | with_reducible refine k_lst ?_
  | with_reducible refine k_tup ?_
  | with_reducible refine k_nopart ?_
  | with_reducible refine k_part ?_
  | with_reducible refine k_nInt ?_
  | with_reducible refine k_sl ?_
  | with_reducible refine k_bm ?_
  | with_reducible refine k_bm0 ?_
  | with_reducible refine k_nTyS ?_
  | with_reducible refine k_m1 ?_
  | with_reducible refine k_m0 ?_
  | with_reducible refine k_nStr ?_
  | with_reducible refine k_I0 ?_
  | with_reducible refine k_U ?_
  | with_reducible refine k_add_i ?_
  | with_reducible refine k_eq_i ?_
  | with_reducible refine k_eq_s ?_
  | with_reducible refine k_eq_b ?_
  | with_reducible refine k_ne_i ?_
  | with_reducible refine k_ne_s ?_
  | with_reducible refine k_ne_b ?_
  | with_reducible refine k_le_i ?_
  | with_reducible refine k_le_s ?_
  | with_reducible refine k_gnil ?_
  | with_reducible refine k_gcons ?_
  | with_reducible refine k_gsub ?_
  | with_reducible refine k_for ?_
  | with_reducible refine k_lc ?_
  | with_reducible refine k_rng1 ?_
  | with_reducible refine k_rng2 ?_
  | with_reducible refine k_itl ?_
  | with_reducible refine k_itt ?_
  | with_reducible refine k_its ?_
  | with_reducible refine k_ite ?_
  | with_reducible refine k_iteB ?_
  | with_reducible refine k_lrg2 ?_
  | with_reducible refine k_itz ?_
  | with_reducible refine k_nIts ?_
  | with_reducible refine k_inS ?_
  | with_reducible refine k_niS ?_
  | with_reducible refine k_mk ?_
  | with_reducible refine k_meth ?_
  | with_reducible refine k_fld ?_
  | with_reducible refine k_sfld ?_
  | with_reducible refine k_dg ?_
  | with_reducible refine k_dp ?_
  | with_reducible refine k_pr ?_
  | with_reducible refine k_pr0 ?_
  | with_reducible refine k_sg ?_
  | with_reducible refine k_lc2 ?_
  | with_reducible refine k_callN ?_
  | with_reducible refine k_callNS ?_
  | with_reducible refine k_par ?_
  | with_reducible refine k_nPar ?_
  | with_reducible refine k_isNn ?_
  | with_reducible refine k_isNr ?_
  | with_reducible refine k_ntNn ?_
  | with_reducible refine k_ntNr ?_
  | with_reducible refine k_min2 ?_
  | with_reducible refine k_max2 ?_
  | with_reducible refine k_intB ?_
  | with_reducible refine k_intI ?_
  | with_reducible refine k_isBl ?_
  | with_reducible refine k_ntBl ?_
  | ((with_reducible refine' k_var ?kv ?_); (case kv => exact rfl))
  | ((with_reducible refine' k_aug ?kv ?_); (case kv => exact rfl))
  | ((with_reducible refine' k_ix_l ?ks ?ki ?_); (case ks => walk_at "sq"); (case ki => exact rfl))
  | ((with_reducible refine' k_ix_t ?ks ?ki ?_); (case ks => walk_at "st"); (case ki => exact rfl))
  | ((with_reducible refine' k_len_l ?ks ?_); (case ks => walk_at "sq"))
  | ((with_reducible refine' k_len_t ?ks ?_); (case ks => walk_at "st"))
  | ((with_reducible refine' k_setL ?ks ?ki ?_); (case ks => walk_at "hp"); (case ki => exact rfl))
  | ((with_reducible refine' k_nTyL ?ks ?_); (case ks => walk_at "sq"))
  | ((with_reducible refine' k_nItl ?ks ?_); (case ks => walk_at "sq"))
  | ((with_reducible refine' k_nItt ?ks ?_); (case ks => walk_at "st"))
  | ((with_reducible refine' k_nIte ?ks ?_); (case ks => walk_at "sq"))
  | ((with_reducible refine' k_mul ?km ?_); (case km => first | exact Or.inr ⟨by decide, by decide⟩ | exact Or.inl ⟨by decide, by decide⟩))
  | ((with_reducible refine' k_I ?km ?_); (case km => first | assumption | decide | exact ⟨by decide, by decide +kernel⟩ | exact ⟨by decide, by decide, by decide⟩))
  | ((with_reducible refine' k_nMeth ?kp ?kl ?_); (case kp => walk_at "hp"); (case kl => exact rfl))
  | ((with_reducible refine' k_nFld ?kp ?kc ?kn ?kl ?_); (case kp => walk_at "hp"); (case kc => assumption); (case kn => assumption); (case kl => exact rfl))
  | ((with_reducible refine' k_nSFld ?kp ?kc ?kn ?kl ?_); (case kp => walk_at "hp"); (case kc => assumption); (case kn => assumption); (case kl => exact of_decide_eq_true rfl))
  | ((with_reducible refine' k_nDg ?kp ?kl ?_); (case kp => walk_at "hp"); (case kl => exact rfl))
  | ((with_reducible refine' k_nRng1 ?k1 ?k2 ?_); (case k1 => omega); (case k2 => omega))
  | ((with_reducible refine' k_nKw ?k1 ?k2 ?_); (case k1 => exact rfl); (case k2 => exact rfl))
  | ((with_reducible refine' k_hsm ?kh ?_); (case kh => walk_at "hs"))
  | ((with_reducible refine' k_nMethH ?kh ?kl ?_); (case kh => walk_at "hs"); (case kl => exact fun _ _ => rfl))
  | ((with_reducible refine' k_mLet ?kh ?_); (case kh => walk_at "ms"))
  | ((with_reducible refine' k_mChew ?kh ?_); (case kh => walk_at "ms"))
  | ((with_reducible refine' k_mPut ?kh ?_); (case kh => walk_at "ms"))
  | ((with_reducible refine' k_mMost ?kh ?_); (case kh => walk_at "ms"))
  | ((with_reducible refine' k_mCut ?kh ?_); (case kh => walk_at "ms"))
  | ((with_reducible refine' k_mTab ?kh ?_); (case kh => walk_at "md"))
  | ((with_reducible refine' k_mEats ?kh ?_); (case kh => walk_at "md"))
  | ((with_reducible refine' k_gtup ?ks ?kl ?_); (case ks => walk_at "st"); (case kl => exact rfl)))
local macro_rules | `(tactic| walk_at "g") => `(tactic| repeat (walk_at "g1"))
local macro_rules | `(tactic| walk_at "w1") => `(tactic| first
  | walk_at "g1"
  | ((with_reducible refine' k_decT ?kp ?_); (case kp => omega))
  | ((with_reducible refine' k_decF ?kp ?_); (case kp => omega))
  | ((with_reducible refine' k_decNT ?kp ?_); (case kp => omega))
  | ((with_reducible refine' k_decNF ?kp ?_); (case kp => omega)))
local macro_rules | `(tactic| walk_at "w") => `(tactic| repeat (walk_at "w1"))

section
variable {P : Program} {w : World} {K : PySem.W.Frag} {mg : Str → Option Value} {base : Heap} {f : Addr} {fd : FuncData}
/-! ### a paper of meetings judged -/
abbrev PpE : Type := Mg × List Bt × List Bt
/-- a meeting with its two ways, as it stands in a paper -/
def PpAt (K : PySem.W.Frag) (H : Hp) (v : V) (e : PpE) : Prop := ∃ T Tr T1 T2 p1 p2 ws1 ws2, v = .ref T ∧ SqT K H T [.ref Tr, .ref T1, .ref T2, .ref p1, .ref p2] ∧ SqT K H Tr (tS e.1.1) ∧ BtT K H T1 e.1.2.1 ∧ BtT K H T2 e.1.2.2 ∧ (H p1 = some (.lst ws1) ∧ DpAll K H ws1 (e.2.1.map dBt)) ∧ (H p2 = some (.lst ws2) ∧ DpAll K H ws2 (e.2.2.map dBt))
theorem PpAt.sm {H H' : Hp} {v : V} {e : PpE} (s : Same H H') (h : PpAt K H v e) : PpAt K H' v e := by
  obtain ⟨T, Tr, T1, T2, p1, p2, ws1, ws2, ev, h1, h2, h3, h4, ⟨h5, h6⟩, ⟨h7, h8⟩⟩ := h
  exact ⟨T, Tr, T1, T2, p1, p2, ws1, ws2, ev, sm_t s h1, sm_t s h2, h3.sm s, h4.sm s, ⟨s _ _ h5, dpall_sm s h6⟩, ⟨s _ _ h7, dpall_sm s h8⟩⟩
def wayOk (S : HsD) (e : PpE) : Bool := match walkF S e.1.1 (e.1.2.1 :: e.2.1), walkF S e.1.1 (e.1.2.2 :: e.2.2) with
  | some m, some n => decide (m = n)
  | _, _ => false
def holdF (S : HsD) (es : List PpE) : Bool := decide (es.map (·.1) = blocksF S) && es.all (wayOk S)
def stpB (b : Bt) : Stp := (((b.1 : Nat) : Int), sdS b.2)
theorem stp_d (bs : List Bt) : (bs.map stpB).map dStp = bs.map dBt := by
  rw [List.map_map]
  rfl
theorem fol_walk {S : HsD} : ∀ (bs : List Bt) (us : Rw) (n : Nat), (folF S us (bs.map stpB) n).1 = walkF S us bs
  | [], us, n => rfl
  | b :: bs, us, n => by
    have e : behS S us (stpB b).1 (stpB b).2 = behF S us (b.1 : Nat) b.2 := behS_sd _ _ _ _
    show (folF S us (stpB b :: bs.map stpB) n).1 = (match behF S us (b.1 : Nat) b.2 with | none => none | some m => walkF S m bs)
    cases h : behF S us (b.1 : Nat) b.2 with
    | none =>
      rw [folF_none (e.trans h)]
    | some m =>
      rw [folF_some (e.trans h)]
      exact fol_walk bs m (n + 1)
theorem mgK_inj {x y : Mg} (h : mgK x = mgK y) : x = y := by
  obtain ⟨r, a, b⟩ := x
  obtain ⟨r', a', b'⟩ := y
  have h1 : (⟨r.map tx⟩ : PySem.W.Tup Str) = ⟨r'.map tx⟩ := congrArg PySem.W.T3.a h
  have h2 : bK a = bK a' := congrArg PySem.W.T3.b h
  have h3 : bK b = bK b' := congrArg PySem.W.T3.c h
  have e1 : r = r' := (List.map_inj_right (fun _ _ => tx_inj)).mp (PySem.W.Tup.mk.inj h1)
  have bk : ∀ {u v : Bt}, bK u = bK v → u = v := fun {u v} e => by
    have e1 : ((u.1 : Nat) : Int) = v.1 := (Prod.mk.inj e).1
    have e2 : sdS u.2 = sdS v.2 := (Prod.mk.inj e).2
    refine Prod.ext (by omega) ?_
    cases hu : u.2 <;> cases hv : v.2 <;> rw [hu, hv] at e2 <;> first | rfl | exact absurd e2 (by decide +kernel)
  rw [e1, bk h2, bk h3]
theorem eqv_mgs (L M : List Mg) : PyData.eqv (.list (L.map dMg)) (.list (M.map dMg)) = decide (L = M) := by
  have h := PySem.W.Datum.eqv (L.map mgK) (M.map mgK)
  have e : ∀ L : List Mg, PySem.W.Datum.toD (L.map mgK) = .list (L.map dMg) := fun L => by
    show PyData.list ((L.map mgK).map PySem.W.Datum.toD) = _
    rw [List.map_map]
    congr 1
    exact List.map_congr_left fun x _ => mgK_d x
  rw [e, e] at h
  rw [h]
  exact decide_eq_decide.mpr ⟨fun z => (List.map_inj_right (fun _ _ => mgK_inj)).mp z, fun z => by rw [z]⟩
structure PpFit (es : List PpE) : Prop where
  l : es.length ≤ 20000
  g : ∀ e ∈ es, Good 4 (dMg e.1)
  w : ∀ e ∈ es, e.2.1.length ≤ 200 ∧ e.2.2.length ≤ 200
theorem PpFit.good {es : List PpE} (h : PpFit es) (i : Nat) : Good 5 (.list (((es.take i).map (·.1)).map dMg)) := ⟨by rw [List.length_map, List.length_map, List.length_take]; have := h.l; omega, fun e he => by
  obtain ⟨x, hx, rfl⟩ := List.mem_map.mp he
  obtain ⟨y, hy, rfl⟩ := List.mem_map.mp hx
  exact h.g y (List.mem_of_mem_take hy)⟩
theorem hold_no {S : HsD} {es : List PpE} (h : es.map (·.1) ≠ blocksF S) : holdF S es = false := by
  unfold holdF
  rw [decide_eq_false h]
  rfl
theorem hold_bad {S : HsD} {es : List PpE} {i : Nat} {e : PpE} (h : es[i]? = some e) (hb : wayOk S e = false) : holdF S es = false := by
  unfold holdF
  rw [Bool.and_eq_false_iff]
  right
  rw [List.all_eq_false]
  exact ⟨e, List.mem_of_getElem? h, by rw [hb]; exact Bool.false_ne_true⟩
theorem hold_yes {S : HsD} {es : List PpE} (h : es.map (·.1) = blocksF S) (ha : ∀ (k : Nat) (e : PpE), es[k]? = some e → wayOk S e = true) : holdF S es = true := by
  unfold holdF
  rw [decide_eq_true h, Bool.true_and, List.all_eq_true]
  intro e he
  obtain ⟨k, hk⟩ := List.getElem?_of_mem he
  exact ha k e hk
theorem way_none1 {S : HsD} {e : PpE} (h : walkF S e.1.1 (e.1.2.1 :: e.2.1) = none) : wayOk S e = false := by
  unfold wayOk
  rw [h]
theorem way_none2 {S : HsD} {e : PpE} (h : walkF S e.1.1 (e.1.2.2 :: e.2.2) = none) : wayOk S e = false := by
  unfold wayOk
  rw [h]
  cases walkF S e.1.1 (e.1.2.1 :: e.2.1) <;> rfl
theorem way_some {S : HsD} {e : PpE} {m n : Rw} (h1 : walkF S e.1.1 (e.1.2.1 :: e.2.1) = some m) (h2 : walkF S e.1.1 (e.1.2.2 :: e.2.2) = some n) : wayOk S e = decide (m = n) := by
  unfold wayOk
  rw [h1, h2]
theorem fol_w {S : HsD} {row : Rw} {b : Bt} {bs : List Bt} {m : Option Rw} {k : Option Nat} (h : folF S row ((b :: bs).map stpB) 0 = (m, k)) : walkF S row (b :: bs) = m := by
  rw [← fol_walk (b :: bs) row 0, h]
theorem eqv_rowNon (us : Rw) : PyData.eqv (.list (us.map fun u => PyData.str (tx u))) .none = false := by simp [PyData.eqv]
def spHold (K : PySem.W.Frag) : Sp := fun vs H Q E => ∃ (a p : Addr) (S : HsD) (ws : List V) (es : List PpE), vs = [.ref a, .ref p] ∧ HsAt K H a S ∧ HsOk S ∧ SqL K H p ws ∧ Paired (PpAt K H) ws es ∧ PpFit es ∧ (kindF S = Str.ofString "lean" → ∀ H', Same H H' → Q (.bl (holdF S es)) H') ∧ NoLean K S H E
theorem ok_meetings_hold (F : FnP K "meetings_hold" s_meetings_hold f fd) (hm : mg "meetings_hold" = some (.ref f)) (f_list : mg "list" = none) (c_need_lean : Callee P w K mg base (L2.CX P w) "need_lean" 3 [] (spNeedLean K)) (c_blocks : Callee P w K mg base CX0 "blocks" 5 [] (spBlocks K)) (c_followed : Callee P w K mg base CX0 "followed" 4 [] (spFollowed K)) : Callee P w K mg base (L2.CX P w) "meetings_hold" 6 [] (spHold K) := by
  refine ⟨f, fd, _, [], F.ok sc_meetings_hold (fun vs H Q E h => ?hl) (fun cdv A outer s H vs Q E hr h => ⟨_, (pss_cons (ps_expr (pe_cl c_need_lean hr (pa_cons (pv 0) pa_nil) (passE (takes_of rfl rfl rfl rfl))))
      (pss_cons (ps_set (i := 2) sc_meetings_hold.nd rfl (by first | exact Or.inl rfl | exact Or.inr rfl) (pe_cl c_blocks hr (pa_cons (pv 0) pa_nil) pass0))
      (pss_cons (ps_if (pt_cmpR (op_neK K hr.units) (pe_lc (own := [("one", 4)]) rfl sc_meetings_hold.nd (pi_listK K (pv 1)) (blkOk_by (N := ["house", "paper", "due", "row", "one", "other", "ways", "others", "first", "number", "last"]) (sc := defScope s_meetings_hold) (by decide +kernel)) (fun _ _ _ _ _ => (pg_name (i := 4) sc_meetings_hold.nd rfl (by first | exact Or.inl rfl | exact Or.inr rfl))) (fun _ _ _ _ _ => pts_nil) (fun _ _ _ _ _ => (pe_slice (sl_k K) (pv 4) po_none (po_some pe_int)))) (pv 2) (nomark _)) (pss_one (ps_ret pe_bl)) pss_nil)
      (pss_cons (ps_for (passes_of rfl) rfl (pi_listK K (pv 1)) (pg_tupK K 5 (by rfl) (pgs_cons (pg_name (i := 3) sc_meetings_hold.nd rfl (by first | exact Or.inl rfl | exact Or.inr rfl)) (pgs_cons (pg_name (i := 4) sc_meetings_hold.nd rfl (by first | exact Or.inl rfl | exact Or.inr rfl)) (pgs_cons (pg_name (i := 5) sc_meetings_hold.nd rfl (by first | exact Or.inl rfl | exact Or.inr rfl)) (pgs_cons (pg_name (i := 6) sc_meetings_hold.nd rfl (by first | exact Or.inl rfl | exact Or.inr rfl)) (pgs_cons (pg_name (i := 7) sc_meetings_hold.nd rfl (by first | exact Or.inl rfl | exact Or.inr rfl)) pgs_nil)))))) (pss_cons (ps_asg (pe_cl c_followed hr (pa_cons (pv 0) (pa_cons (pe_callTy (call_listK K) (by rfl) f_list (by decide +kernel) (pa_cons (pv 3) pa_nil)) (pa_cons (pe_op (op_addK K) (pe_lst (pa_cons (pv 4) pa_nil)) (pe_callTy (call_listK K) (by rfl) f_list (by decide +kernel) (pa_cons (pv 6) pa_nil))) pa_nil))) pass0) (pg_tupK K 2 (by rfl) (pgs_cons (pg_name (i := 8) sc_meetings_hold.nd rfl (by first | exact Or.inl rfl | exact Or.inr rfl)) (pgs_cons (pg_name (i := 9) sc_meetings_hold.nd rfl (by first | exact Or.inl rfl | exact Or.inr rfl)) pgs_nil))))
      (pss_cons (ps_asg (pe_cl c_followed hr (pa_cons (pv 0) (pa_cons (pe_callTy (call_listK K) (by rfl) f_list (by decide +kernel) (pa_cons (pv 3) pa_nil)) (pa_cons (pe_op (op_addK K) (pe_lst (pa_cons (pv 5) pa_nil)) (pe_callTy (call_listK K) (by rfl) f_list (by decide +kernel) (pa_cons (pv 7) pa_nil))) pa_nil))) pass0) (pg_tupK K 2 (by rfl) (pgs_cons (pg_name (i := 10) sc_meetings_hold.nd rfl (by first | exact Or.inl rfl | exact Or.inr rfl)) (pgs_cons (pg_name (i := 9) sc_meetings_hold.nd rfl (by first | exact Or.inl rfl | exact Or.inr rfl)) pgs_nil))))
      (pss_one (ps_if (PW.pt (pw_or (pt_cmpR op_isN1 (pv 8) pe_non (nomark _)) (pw_or1 (pt_cmpR (op_neK K hr.units) (pv 8) (pv 10) (nomark _))))) (pss_one (ps_ret pe_bl)) pss_nil)))))
      (pss_one (ps_ret pe_bl)))))), ?rd⟩), hm, F.kp, F.bindsN fun _ _ _ _ _ _ us hl => match us, hl with | [_, _], _ => rfl, .nil⟩
  case hl =>
    obtain ⟨a, p, S, ws, es, rfl, _⟩ := h
    rfl
  case rd =>
    obtain ⟨a, p, S, ws, es, rfl, hs, ok, hp, he, fit, q1, q2⟩ := h
    have lws := pd_len he
    have lfit := fit.l
    refine k_start (σ' := [some _, some _, none, none, none, none, none, none, none, none, none]) rfl ?_
    walk_at "g"
    refine ⟨a, S, rfl, hs, ok, fun hl => ?_, q2⟩
    walk_at "g"
    refine ⟨a, S, rfl, hs, ok, fun pb wb H1 n1 s1 e1 hmg => ?_⟩
    have hp1 := sm_l s1 hp
    have he1 := pd_imp (fun _ _ h => PpAt.sm s1 h) he
    walk_at "g"
    refine k_nLcD (walk_list (xs := ws)) (fun H' s => sm_l s hp1) (fun i zs H' => MgAll K H' zs ((es.take i).map fun e : PpE => e.1)) (fun i zs Ha Hb s h => mg_sm s h) .nil (fun i zs Ha hi h => ?hz) (fun i x p Ha Hb zs Kp Ks hi hp sa epx hzs hy hKp hKs => ?ht) (fun p2 H2 zs n2 s2 e2 hzs => ?he)
    case hz =>
      have := pd_len h
      rw [List.length_map, List.length_take] at this
      omega
    case ht =>
      obtain ⟨rfl, hv⟩ := hy
      obtain ⟨e, hx, T, Tr, T1, T2, p1, p2, ws1, ws2, rfl, h1, h2, h3, h4, _⟩ := pd_at (pd_imp (fun _ _ h => PpAt.sm sa h) he1) hv
      walk_at "g"
      refine ⟨rfl, ?_⟩
      walk_at "g"
      refine k_sl_t h1 (fun p3 H3 s3 e3 => ?_)
      refine hKp _ _ s3 ?_
      rw [take_more hx, List.map_append]
      have s3' := del_mono (p := p) s3
      refine pd_app (mg_sm s3' hzs) (.cons ⟨p3, Tr, T1, T2, rfl, del_t (s3 _ _ epx) e3, del_t (s3 _ _ epx) (sm_t s3 h2), del_t (s3 _ _ epx) (sm_t s3 h3), del_t (s3 _ _ epx) (sm_t s3 h4)⟩ .nil)
    case he =>
      rw [lws, List.take_length] at hzs
      have e12 := s2 _ _ e1
      have g1 := fit.good es.length
      rw [List.take_length] at g1
      walk_at "g"
      refine k_ne_d (.lst (sq_l e2) (mg_dps hzs)) (.lst (sq_l e12) (mg_dps (mg_sm s2 hmg))) (g1.shaped (by decide)) ((good_blocks ok).shaped (by decide)) ?_
      rw [eqv_mgs]
      have s12 := s1.trans s2
      have hp2 := sm_l s12 hp
      have he2 := pd_imp (fun _ _ h => PpAt.sm s12 h) he
      walk_at "g"
      refine k_dec (fun d => ?_) (fun d => ?_)
      rotate_left
      · walk_at "g"
        rw [hold_no d] at q1
        exact q1 hl _ s12
      walk_at "g"
      refine k_nFor (walk_list (xs := ws)) (fun i σ H' => (∃ y3 y4 y5 y6 y7 y8 y9 y10, σ = [some (.ref a), some (.ref p), some (.ref pb), y3, y4, y5, y6, y7, y8, y9, y10]) ∧ Same H2 H' ∧ ∀ (k : Nat) (e : PpE), k < i → es[k]? = some e → wayOk S e = true) ⟨⟨_, _, _, _, _, _, _, _, rfl⟩, Same.refl _, fun k e hk _ => absurd hk (Nat.not_lt_zero _)⟩ (fun i σ H' _ h => sm_l h.2.1 hp2) (fun i x σ Ha Hb hi h hy => ?ht2) (fun σ H' h => ?he2)
      case he2 =>
        obtain ⟨⟨y3, y4, y5, y6, y7, y8, y9, y10, rfl⟩, sa, hall⟩ := h
        walk_at "g"
        rw [hold_yes d fun k e hk => hall k e (by rw [lws]; exact (List.getElem?_eq_some_iff.mp hk).1) hk] at q1
        exact q1 hl _ (s12.trans sa)
      case ht2 =>
        obtain ⟨⟨y3, y4, y5, y6, y7, y8, y9, y10, rfl⟩, sa, hall⟩ := h
        obtain ⟨rfl, hv⟩ := hy
        obtain ⟨e, hx, T, Tr, T1, T2, p1, p2, ws1, ws2, rfl, h1, h2, h3, h4, ⟨h5, h6⟩, ⟨h7, h8⟩⟩ := pd_at (pd_imp (fun _ _ h => PpAt.sm sa h) he2) hv
        have hmem := List.mem_of_getElem? hx
        have hok := block_ok e.1 (by rw [← d]; exact List.mem_map.mpr ⟨e, hmem, rfl⟩)
        obtain ⟨lw1, lw2⟩ := fit.w e hmem
        have l3 : e.1.1.length ≤ 3 := by have := hok.l; omega
        have ld1 := dpall_len h6
        have ld2 := dpall_len h8
        rw [List.length_map] at ld1 ld2
        have sHa := s12.trans sa
        walk_at "g"
        refine k_list_t h2 (fun u1 H3 n3 s3 e3 => ?_)
        walk_at "g"
        refine k_nLst (by walk_at "sz") (fun u2 H4 n4 s4 e4 => ?_)
        have s34 := s3.trans s4
        walk_at "g"
        refine k_list_l (sq_l (s34 _ _ h5)) (fun u3 H5 n5 s5 e5 => ?_)
        walk_at "g"
        refine k_add_l (s5 _ _ e4) e5 (by show 1 + _ ≤ _; omega) (fun u4 H6 n6 s6 e6 => ?_)
        have s46 := s4.trans (s5.trans s6)
        have s36 := s3.trans s46
        walk_at "g"
        refine ⟨a, u1, u4, S, e.1.1, (e.1.2.1 :: e.2.1).map stpB, _, rfl, hs.sm (sHa.trans s36), ok, s46 _ _ e3, hok.w, sq_l e6, by rw [stp_d]; exact .cons (h3.sm s36).dp (dpall_sm s36 h6), by rw [List.length_map, List.length_cons]; omega, fun n hn T7 H7 n7 s7 e7 => ?hA, fun m hmm T7 pm H7 n7 s7 em7 e7 => ?hB⟩
        case hA =>
          have s37 := s36.trans s7
          walk_at "g"
          refine k_list_t (sm_t s37 h2) (fun r1 H8 n8 s8 e8 => ?_)
          walk_at "g"
          refine k_nLst (by walk_at "sz") (fun r2 H9 n9 s9 e9 => ?_)
          have s39 := s37.trans (s8.trans s9)
          walk_at "g"
          refine k_list_l (sq_l (s39 _ _ h7)) (fun r3 H10 n10 s10 e10 => ?_)
          walk_at "g"
          refine k_add_l (s10 _ _ e9) e10 (by show 1 + _ ≤ _; omega) (fun r4 H11 n11 s11 e11 => ?_)
          have s3x := s39.trans (s10.trans s11)
          have bad := way_none1 (S := S) (e := e) (fol_w hn)
          walk_at "g"
          refine ⟨a, r1, r4, S, e.1.1, (e.1.2.2 :: e.2.2).map stpB, _, rfl, hs.sm (sHa.trans s3x), ok, (s9.trans (s10.trans s11)) _ _ e8, hok.w, sq_l e11, by rw [stp_d]; exact .cons (h4.sm s3x).dp (dpall_sm s3x h8), by rw [List.length_map, List.length_cons]; omega, fun n2 hn2 T12 H12 n12 s12' e12' => ?_, fun m2 hm2 T12 pm2 H12 n12 s12' em12 e12' => ?_⟩
          · walk_at "g"
            rw [hold_bad hx bad] at q1
            exact q1 hl _ (sHa.trans (s3x.trans s12'))
          · walk_at "g"
            rw [hold_bad hx bad] at q1
            exact q1 hl _ (sHa.trans (s3x.trans s12'))
        case hB =>
          have s37 := s36.trans s7
          walk_at "g"
          refine k_list_t (sm_t s37 h2) (fun r1 H8 n8 s8 e8 => ?_)
          walk_at "g"
          refine k_nLst (by walk_at "sz") (fun r2 H9 n9 s9 e9 => ?_)
          have s39 := s37.trans (s8.trans s9)
          walk_at "g"
          refine k_list_l (sq_l (s39 _ _ h7)) (fun r3 H10 n10 s10 e10 => ?_)
          walk_at "g"
          refine k_add_l (s10 _ _ e9) e10 (by show 1 + _ ≤ _; omega) (fun r4 H11 n11 s11 e11 => ?_)
          have s3x := s39.trans (s10.trans s11)
          have s7x := s8.trans (s9.trans (s10.trans s11))
          have w1 := fol_w hmm
          obtain ⟨ww1, wl1⟩ := walkF_words ok _ hok.w w1
          rw [List.length_cons] at wl1
          walk_at "g"
          refine ⟨a, r1, r4, S, e.1.1, (e.1.2.2 :: e.2.2).map stpB, _, rfl, hs.sm (sHa.trans s3x), ok, (s9.trans (s10.trans s11)) _ _ e8, hok.w, sq_l e11, by rw [stp_d]; exact .cons (h4.sm s3x).dp (dpall_sm s3x h8), by rw [List.length_map, List.length_cons]; omega, fun n2 hn2 T12 H12 n12 s12' e12' => ?_, fun m2 hm2 T12 pm2 H12 n12 s12' em12 e12' => ?_⟩
          · have bad := way_none2 (S := S) (e := e) (fol_w hn2)
            have epm := s12' _ _ (s7x _ _ em7)
            walk_at "g"
            refine k_ne_d (.lst (sq_l epm) (dp_tS _)) .non ((good_allW ok ww1 (by omega) 1).shaped (by decide)) (by decide) ?_
            rw [eqv_rowNon]
            walk_at "g"
            rw [hold_bad hx bad] at q1
            exact q1 hl _ (sHa.trans (s3x.trans s12'))
          · have w2 := fol_w hm2
            obtain ⟨ww2, wl2⟩ := walkF_words ok _ hok.w w2
            rw [List.length_cons] at wl2
            have hway := way_some w1 w2
            have epm := s12' _ _ (s7x _ _ em7)
            walk_at "g"
            refine k_ne_d (.lst (sq_l epm) (dp_tS _)) (.lst (sq_l em12) (dp_tS _)) ((good_allW ok ww1 (by omega) 1).shaped (by decide)) ((good_allW ok ww2 (by omega) 1).shaped (by decide)) ?_
            rw [eqv_rows]
            walk_at "g"
            refine k_dec (fun dd => ?_) (fun dd => ?_)
            rotate_left
            · rw [decide_eq_false dd] at hway
              walk_at "g"
              rw [hold_bad hx hway] at q1
              exact q1 hl _ (sHa.trans (s3x.trans s12'))
            · rw [decide_eq_true dd] at hway
              walk_at "g"
              refine ⟨⟨_, _, _, _, _, _, _, _, rfl⟩, sa.trans (s3x.trans s12'), fun k e' hk hke => ?_⟩
              rcases Nat.lt_succ_iff_lt_or_eq.mp hk with hk | rfl
              · exact hall k e' hk hke
              · rw [hx] at hke
                cases hke
                exact hway
end
end Lw
set_option autoImplicit true
set_option pp.maxSteps 1200
set_option Elab.async false
set_option linter.all false
set_option maxRecDepth 100000
set_option maxHeartbeats 1000000
namespace Lw
open PySem PySem.Spec PyProof.Rows L2 Gk NdefX
open LamX hiding takes0
section
variable {K : PySem.W.Frag}
/-! ### while a dict is gone through: what else stands in the heap -/
section
variable {H H1 : Hp} {d : Addr} {od : Obj} {kvs : List (List Key × V)}
end
mutual
theorem dp_ext {H H' : Hp} (e : ExtN H H') : ∀ {v : V} {d : PyData}, Dp K H v d → Dp K H' v d
  | _, _, .non => .non
  | _, _, .bl b => .bl b
  | _, _, .int i => .int i
  | _, _, .str x => .str x
  | _, _, .lst h r => .lst (ext_l e h) (dpall_ext e r)
  | _, _, .tup h r => .tup (ext_t e h) (dpall_ext e r)
theorem dpall_ext {H H' : Hp} (e : ExtN H H') : ∀ {vs : List V} {ds : List PyData}, DpAll K H vs ds → DpAll K H' vs ds
  | _, _, .nil => .nil
  | _, _, .cons h r => .cons (dp_ext e h) (dpall_ext e r)
end
end
end Lw
namespace Lw
open PySem PySem.Spec PyProof.Rows L2 Gk
open LamX hiding takes0

local macro_rules | `(tactic| walk_at "hp") => `(tactic| first | assumption | exact upd_same | (refine' (upd_ne ?n).trans ?h; (case n => assumption); (case h => walk_at "hp")) | (refine' sm_get ?s ?h; (case s => assumption); (case h => walk_at "hp")))
local macro_rules | `(tactic| walk_at "sq") => `(tactic| first | assumption | (refine' sq_l ?h; (case h => walk_at "hp")) | (refine' sm_l ?s ?h; (case s => assumption); (case h => walk_at "sq")))
local macro_rules | `(tactic| walk_at "st") => `(tactic| first | assumption | (refine' sq_t ?h; (case h => walk_at "hp")) | (refine' sm_t ?s ?h; (case s => assumption); (case h => walk_at "st")))
local macro_rules | `(tactic| walk_at "bg") => `(tactic| first | assumption | (refine' BagOk.sm ?s ?h; (case s => assumption); (case h => walk_at "bg")))
local macro_rules | `(tactic| walk_at "sm") => `(tactic| first | assumption | exact Same.refl _ | (refine' Same.trans ?h ?s; (case s => assumption); (case h => walk_at "sm")))
local macro_rules | `(tactic| walk_at "hs") => `(tactic| first | assumption | (refine' HsAt.sm ?s ?h; (case s => assumption); (case h => walk_at "hs")))
local macro_rules | `(tactic| walk_at "ms") => `(tactic| first | assumption | (refine' MAt.sm ?s ?h; (case s => assumption); (case h => walk_at "ms")))
local macro_rules | `(tactic| walk_at "md") => `(tactic| first | assumption | (refine' MDk.sm ?s ?h; (case s => assumption); (case h => walk_at "md")))
local macro_rules | `(tactic| walk_at "dp") => `(tactic| first | assumption | (refine' dp_sm ?s ?h; (case s => assumption); (case h => walk_at "dp")))
local macro_rules | `(tactic| walk_at "sz") => `(tactic| first | decide | assumption | omega | (simp only [List.length_cons, List.length_nil, List.length_map, List.length_append]; omega))
local macro_rules | `(tactic| walk_at "g1") => `(tactic| first
  | with_reducible refine k_seq ?_
  | with_reducible refine k_itB ?_
  | with_reducible refine k_next ?_
  | with_reducible refine k_asg ?_
  | with_reducible refine k_name ?_
  | with_reducible refine k_ret ?_
  | with_reducible refine k_retN ?_
  | with_reducible refine k_drop ?_
  | with_reducible refine k_ifs ?_
  | with_reducible refine k_brk ?_
  | with_reducible refine k_cont ?_
  | with_reducible refine k_ipI ?_
  | with_reducible refine k_test ?_
  | with_reducible refine k_tB ?_
  | with_reducible refine k_bl ?_
  | with_reducible refine k_not ?_
  | with_reducible refine k_and ?_
  | with_reducible refine k_or ?_
  | with_reducible refine k_yes ?_
  | with_reducible refine k_true ?_
  | with_reducible refine k_false ?_
  | with_reducible refine k_nt ?_
  | with_reducible refine k_c ?_
  | with_reducible refine k_op ?_
  | with_reducible refine k_un ?_
  | with_reducible refine k_if ?_
  | with_reducible refine k_chain ?_
  | with_reducible refine k_nil ?_
  | with_reducible refine k_cons ?_
  | with_reducible refine k_cb ?_
  | with_reducible refine k_call ?_
  | with_reducible refine k_callS ?_
  | with_reducible refine k_andV ?_
  | with_reducible refine k_orV ?_
  | with_reducible refine k_notV ?_
  | with_reducible refine k_lst ?_
  | with_reducible refine k_tup ?_
  | with_reducible refine k_nopart ?_
  | with_reducible refine k_part ?_
  | with_reducible refine k_nInt ?_
  | with_reducible refine k_sl ?_
  | with_reducible refine k_bm ?_
  | with_reducible refine k_bm0 ?_
  | with_reducible refine k_nTyS ?_
  | with_reducible refine k_m1 ?_
  | with_reducible refine k_m0 ?_
  | with_reducible refine k_nStr ?_
  | with_reducible refine k_I0 ?_
  | with_reducible refine k_U ?_
  | with_reducible refine k_add_i ?_
  | with_reducible refine k_eq_i ?_
  | with_reducible refine k_eq_s ?_
  | with_reducible refine k_eq_b ?_
  | with_reducible refine k_ne_i ?_
  | with_reducible refine k_ne_s ?_
  | with_reducible refine k_ne_b ?_
  | with_reducible refine k_le_i ?_
  | with_reducible refine k_le_s ?_
  | with_reducible refine k_gnil ?_
  | with_reducible refine k_gcons ?_
  | with_reducible refine k_gsub ?_
  | with_reducible refine k_for ?_
  | with_reducible refine k_lc ?_
  | with_reducible refine k_rng1 ?_
  | with_reducible refine k_rng2 ?_
  | with_reducible refine k_itl ?_
  | with_reducible refine k_itt ?_
  | with_reducible refine k_its ?_
  | with_reducible refine k_ite ?_
  | with_reducible refine k_iteB ?_
  | with_reducible refine k_lrg2 ?_
  | with_reducible refine k_itz ?_
  | with_reducible refine k_nIts ?_
  | with_reducible refine k_inS ?_
  | with_reducible refine k_niS ?_
  | with_reducible refine k_mk ?_
  | with_reducible refine k_meth ?_
  | with_reducible refine k_fld ?_
  | with_reducible refine k_sfld ?_
  | with_reducible refine k_dg ?_
  | with_reducible refine k_dp ?_
  | with_reducible refine k_pr ?_
  | with_reducible refine k_pr0 ?_
  | with_reducible refine k_sg ?_
  | with_reducible refine k_lc2 ?_
  | with_reducible refine k_callN ?_
  | with_reducible refine k_callNS ?_
  | with_reducible refine k_par ?_
  | with_reducible refine k_nPar ?_
  | with_reducible refine k_isNn ?_
  | with_reducible refine k_isNr ?_
  | with_reducible refine k_ntNn ?_
  | with_reducible refine k_ntNr ?_
  | with_reducible refine k_min2 ?_
  | with_reducible refine k_max2 ?_
  | with_reducible refine k_intB ?_
  | with_reducible refine k_intI ?_
  | with_reducible refine k_isBl ?_
  | with_reducible refine k_ntBl ?_
  | ((with_reducible refine' k_var ?kv ?_); (case kv => exact rfl))
  | ((with_reducible refine' k_aug ?kv ?_); (case kv => exact rfl))
  | ((with_reducible refine' k_ix_l ?ks ?ki ?_); (case ks => walk_at "sq"); (case ki => exact rfl))
  | ((with_reducible refine' k_ix_t ?ks ?ki ?_); (case ks => walk_at "st"); (case ki => exact rfl))
  | ((with_reducible refine' k_len_l ?ks ?_); (case ks => walk_at "sq"))
  | ((with_reducible refine' k_len_t ?ks ?_); (case ks => walk_at "st"))
  | ((with_reducible refine' k_setL ?ks ?ki ?_); (case ks => walk_at "hp"); (case ki => exact rfl))
  | ((with_reducible refine' k_nTyL ?ks ?_); (case ks => walk_at "sq"))
  | ((with_reducible refine' k_nItl ?ks ?_); (case ks => walk_at "sq"))
  | ((with_reducible refine' k_nItt ?ks ?_); (case ks => walk_at "st"))
  | ((with_reducible refine' k_nIte ?ks ?_); (case ks => walk_at "sq"))
  | ((with_reducible refine' k_mul ?km ?_); (case km => first | exact Or.inr ⟨by decide, by decide⟩ | exact Or.inl ⟨by decide, by decide⟩))
  | ((with_reducible refine' k_I ?km ?_); (case km => first | assumption | decide | exact ⟨by decide, by decide +kernel⟩ | exact ⟨by decide, by decide, by decide⟩))
  | ((with_reducible refine' k_nMeth ?kp ?kl ?_); (case kp => walk_at "hp"); (case kl => exact rfl))
  | ((with_reducible refine' k_nFld ?kp ?kc ?kn ?kl ?_); (case kp => walk_at "hp"); (case kc => assumption); (case kn => assumption); (case kl => exact rfl))
  | ((with_reducible refine' k_nSFld ?kp ?kc ?kn ?kl ?_); (case kp => walk_at "hp"); (case kc => assumption); (case kn => assumption); (case kl => exact of_decide_eq_true rfl))
  | ((with_reducible refine' k_nDg ?kp ?kl ?_); (case kp => walk_at "hp"); (case kl => exact rfl))
  | ((with_reducible refine' k_nRng1 ?k1 ?k2 ?_); (case k1 => omega); (case k2 => omega))
  | ((with_reducible refine' k_nKw ?k1 ?k2 ?_); (case k1 => exact rfl); (case k2 => exact rfl))
  | ((with_reducible refine' k_hsm ?kh ?_); (case kh => walk_at "hs"))
  | ((with_reducible refine' k_nMethH ?kh ?kl ?_); (case kh => walk_at "hs"); (case kl => exact fun _ _ => rfl))
  | ((with_reducible refine' k_mLet ?kh ?_); (case kh => walk_at "ms"))
  | ((with_reducible refine' k_mChew ?kh ?_); (case kh => walk_at "ms"))
  | ((with_reducible refine' k_mPut ?kh ?_); (case kh => walk_at "ms"))
  | ((with_reducible refine' k_mMost ?kh ?_); (case kh => walk_at "ms"))
  | ((with_reducible refine' k_mCut ?kh ?_); (case kh => walk_at "ms"))
  | ((with_reducible refine' k_mTab ?kh ?_); (case kh => walk_at "md"))
  | ((with_reducible refine' k_mEats ?kh ?_); (case kh => walk_at "md"))
  | ((with_reducible refine' k_gtup ?ks ?kl ?_); (case ks => walk_at "st"); (case kl => exact rfl)))
local macro_rules | `(tactic| walk_at "g") => `(tactic| repeat (walk_at "g1"))
local macro_rules | `(tactic| walk_at "w1") => `(tactic| first
  | walk_at "g1"
  | ((with_reducible refine' k_decT ?kp ?_); (case kp => omega))
  | ((with_reducible refine' k_decF ?kp ?_); (case kp => omega))
  | ((with_reducible refine' k_decNT ?kp ?_); (case kp => omega))
  | ((with_reducible refine' k_decNF ?kp ?_); (case kp => omega)))
local macro_rules | `(tactic| walk_at "w") => `(tactic| repeat (walk_at "w1"))

section
variable {P : Program} {w : World} {K : PySem.W.Frag} {mg : Str → Option Value} {base : Heap} {f : Addr} {fd : FuncData}
theorem walk_gone {S : HsD} {row : Rw} {b : Bt} (h : ∃ m, behF S row (b.1 : Nat) b.2 = some m) : walkF S row (b :: (goneF S row b).2) = some (goneF S row b).1 := by
  obtain ⟨m, e⟩ := h
  have e2 : behD S row b = m := by
    unfold behD
    rw [e]
    rfl
  show (match behF S row (b.1 : Nat) b.2 with | none => none | some m => walkF S m (goneF S row b).2) = _
  rw [e]
  unfold goneF
  rw [e2]
  exact run_walk 60 0 m
/-- a told meeting as it stands in a paper -/
def mtE (S : HsD) (x : Mg) : PpE := (x, (goneF S x.1 x.2.1).2, (goneF S x.1 x.2.2).2)
theorem MtAt.pp {S : HsD} {H0 H : Hp} {pf : Addr} {v : V} {y : MtB} (h : MtAt K S H0 pf H v y) : PpAt K H v (mtE S y.1) := by
  obtain ⟨T, Tr, T1, T2, ws1, ws2, e, h1, h2, h3, h4, ⟨h5, h6⟩, ⟨h7, h8⟩, _⟩ := h
  exact ⟨T, Tr, T1, T2, _, _, ws1, ws2, e, h1, h2, h3, h4, ⟨h5, h6⟩, ⟨h7, h8⟩⟩
theorem mts_pp {S : HsD} {H0 H : Hp} {pf : Addr} : ∀ {ws : List V} {B : List MtB}, Paired (MtAt K S H0 pf H) ws B → Paired (PpAt K H) ws ((B.map Prod.fst).map (mtE S))
  | _, _, .nil => .nil
  | _, _, .cons h t => .cons h.pp (mts_pp t)
theorem mts_mg {S : HsD} {H0 H : Hp} {pf : Addr} : ∀ {ws : List V} {B : List MtB}, Paired (MtAt K S H0 pf H) ws B → ∃ ds, DpAll K H ws ds
  | _, _, .nil => ⟨[], .nil⟩
  | _, _, .cons h t => by
    obtain ⟨ds, hd⟩ := mts_mg t
    obtain ⟨T, Tr, T1, T2, ws1, ws2, e, h1, h2, h3, h4, ⟨h5, h6⟩, ⟨h7, h8⟩, _⟩ := h
    rw [e]
    exact ⟨_ :: ds, .cons (.tup h1 (.cons (.tup h2 (dp_tS _)) (.cons h3.dp (.cons h4.dp (.cons (.lst (sq_l h5) h6) (.cons (.lst (sq_l h7) h8) .nil)))))) hd⟩
theorem mt_e1 (S : HsD) (L : List Mg) : (L.map (mtE S)).map (·.1) = L := by
  rw [List.map_map]
  exact List.map_id _
theorem hold_told {S : HsD} (hp : partF S = none) : holdF S ((blocksF S).map (mtE S)) = true := by
  refine hold_yes (mt_e1 S _) fun (k : Nat) (e : PpE) hk => ?_
  obtain ⟨x, hx, rfl⟩ := map_get hk
  have hm := List.mem_of_getElem? hx
  have ok := block_ok x hm
  have h := List.find?_eq_none.mp hp x hm
  unfold partsF at h
  rw [way_some (walk_gone ok.a) (walk_gone ok.b)]
  simpa using h
theorem fit_told {S : HsD} (ok : HsOk S) : PpFit ((blocksF S).map (mtE S)) := by
  refine ⟨by rw [List.length_map]; have := blocks_len ok; omega, fun e he => ?_, fun e he => ?_⟩
  all_goals
    obtain ⟨x, hx, rfl⟩ := List.mem_map.mp he
    have hk := block_ok x hx
  · exact good_mg ok hk
  · exact ⟨Nat.le_trans (gone_small ok hk x.2.1 hk.a).2.2 (by decide), Nat.le_trans (gone_small ok hk x.2.2 hk.b).2.2 (by decide)⟩
theorem good_blocks4 {S : HsD} (ok : HsOk S) : Good 4 (.list ((blocksF S).map dMg)) := ⟨by rw [List.length_map]; have := blocks_len ok; omega, fun e he => by
  obtain ⟨x, hx, rfl⟩ := List.mem_map.mp he
  have h := block_ok x hx
  have l := h.l
  refine ⟨by show 3 ≤ 50000; decide, fun e he => ?_⟩
  rcases List.mem_cons.mp he with rfl | he
  · exact good_allW ok h.w (by omega) 0
  rcases List.mem_cons.mp he with rfl | he
  · exact (good_bt x.2.1 (by have := h.p.1; omega) 0)
  · rw [List.mem_singleton.mp he]
    exact (good_bt x.2.2 (by have := h.p.2; omega) 0)⟩
theorem nodup_rest {B : List MtB} (nd : (B.flatMap fun y => [y.2.1, y.2.2]).Nodup) {i : Nat} {y : MtB} (h : B[i]? = some y) : ∀ z ∈ B.drop (i + 1), z.2.1 ≠ y.2.1 ∧ z.2.2 ≠ y.2.1 := fun z hz => by
  have hl : i < B.length := (List.getElem?_eq_some_iff.mp h).1
  have e : B = B.take i ++ y :: B.drop (i + 1) := by
    conv => lhs; rw [← List.take_append_drop i B]
    rw [List.drop_eq_getElem_cons hl]
    congr 2
    exact (List.getElem?_eq_some_iff.mp h).2
  rw [e, List.flatMap_append, List.flatMap_cons] at nd
  have n2 := (List.nodup_append.mp nd).2.1
  have n3 := (List.nodup_append.mp n2).2.2 y.2.1 List.mem_cons_self
  exact ⟨fun q => n3 z.2.1 (List.mem_flatMap.mpr ⟨z, hz, List.mem_cons_self⟩) q.symm, fun q => n3 z.2.2 (List.mem_flatMap.mpr ⟨z, hz, List.mem_cons_of_mem _ List.mem_cons_self⟩) q.symm⟩
theorem MtAt.other {S : HsD} {H0 H : Hp} {pf q : Addr} {xs : List V} {o : HO} {v : V} {y : MtB} (hp : H q = some (.lst xs)) (n1 : y.2.1 ≠ q) (n2 : y.2.2 ≠ q) (h : MtAt K S H0 pf H v y) : MtAt K S H0 pf (L2.upd H q o) v y := by
  obtain ⟨T, Tr, T1, T2, ws1, ws2, e, h1, h2, h3, h4, ⟨h5, h6⟩, ⟨h7, h8⟩, h9⟩ := h
  exact ⟨T, Tr, T1, T2, ws1, ws2, e, t_lst hp h1, t_lst hp h2, t_lst hp h3, t_lst hp h4, ⟨(upd_ne n1).trans h5, bts_to (fun _ _ h => t_lst hp h) h6⟩, ⟨(upd_ne n2).trans h7, bts_to (fun _ _ h => t_lst hp h) h8⟩, h9⟩
theorem pd_mem {α β : Type} {R R' : α → β → Prop} : ∀ {as : List α} {bs : List β}, (∀ a, ∀ b ∈ bs, R a b → R' a b) → Paired R as bs → Paired R' as bs
  | _, _, _, .nil => .nil
  | _, _, k, .cons r t => .cons (k _ _ List.mem_cons_self r) (pd_mem (fun a b hb => k a b (List.mem_cons_of_mem _ hb)) t)
theorem pd_drop {α β : Type} {R : α → β → Prop} : ∀ {as : List α} {bs : List β} {i : Nat} {v : α}, Paired R (as.drop i) (bs.drop i) → as[i]? = some v → ∃ y, bs[i]? = some y ∧ R v y ∧ Paired R (as.drop (i + 1)) (bs.drop (i + 1)) := fun {as bs i v} h hv => by
  have hl : i < as.length := (List.getElem?_eq_some_iff.mp hv).1
  have el := pd_len h
  rw [List.length_drop, List.length_drop] at el
  have hl2 : i < bs.length := by omega
  rw [List.drop_eq_getElem_cons hl, List.drop_eq_getElem_cons hl2] at h
  rw [(List.getElem?_eq_some_iff.mp hv).2] at h
  cases h with
  | cons r t => exact ⟨bs[i], List.getElem?_eq_getElem hl2, r, t⟩
def wordD (S : HsD) : Str := if (partF S).isSome = true then Str.ofString "NotOne" else Str.ofString ""
theorem ok_law (F : FnP K "law" s_law (He.fAd K ("law", none)) fd) (tb : TabB base mg (He.cT K ("law", none)).1 (PtL K)) (f_range : mg "range" = none) (f_list : mg "list" = none) (f_isinstance : mg "isinstance" = none) (xm_NotOne_GulpError : PySem.W.exmOne K (.ref (He.ga K "NotOne")) (.ref (He.ga K "GulpError")) = some true)
    (c_NotOne : XCls0 P w K mg base "NotOne" 1 "NotOne")
    (c_Lbag : Callee P w K mg base CX0 "_law_bag" 1 [] (spBag K)) (c_Lone : Callee P w K mg base CX0 "_law_one" 2 [] (spOne K)) (c_Lsame : Callee P w K mg base CX0 "_law_same" 4 [] (spSame K 4)) (c_Llean : Callee P w K mg base CX0 "_law_lean" 5 [] (spLeanN K 1)) (c_Lmade : Callee P w K mg base CX0 "_law_made" 4 [] (spMade K)) (c_Lblocks : Callee P w K mg base CX0 "_law_blocks" 4 [] (spLBlocks K)) (c_Lis_parted : Callee P w K mg base CX0 "_law_is_parted" 6 [] (spLParted K)) (c_Lwalk : Callee P w K mg base CX0 "_law_walk" 3 [] (spLWalk K))
    (c_meetings : Callee P w K mg base (L2.CX P w) "meetings" 8 [] (spMeetings K)) (c_meetings_hold : Callee P w K mg base (L2.CX P w) "meetings_hold" 6 [] (spHold K)) (c_Lwhy : CalleeA P w K mg base "_law_why" (TWhy K)) : FnOk P w K mg base CX0 12 (He.fAd K ("law", none)) fd ["_law_script"] (spLawT K) := by
  refine okC F sc_law (fun vs H Q E h => ?hl) (fun A outer s H vs Q E hr h => ⟨_, PSs.nox (pss_cons (ps_set (i := 1) sc_law.nd rfl (by first | exact Or.inl rfl | exact Or.inr rfl) (pe_cl c_Lbag hr (pa_cons (pv 0) pa_nil) pass0))
      (pss_cons (ps_for PassesOwn.never rfl (pi_range1 (by rfl) f_range (pa_cons pe_int pa_nil)) (pg_name (i := 2) sc_law.nd rfl (by first | exact Or.inl rfl | exact Or.inr rfl)) (pss_cons (ps_set (i := 3) sc_law.nd rfl (by first | exact Or.inl rfl | exact Or.inr rfl) (pe_cl c_Llean hr (pa_cons (pv 1) (pa_cons (pe_cl c_Lone hr (pa_cons (pv 1) (pa_cons (pe_lst (pa_cons pe_int (pa_cons pe_int pa_nil))) pa_nil)) pass0) pa_nil)) pass0))
      (pss_cons (ps_set (i := 4) sc_law.nd rfl (by first | exact Or.inl rfl | exact Or.inr rfl) (pe_cl c_Lmade hr (pa_cons (pv 3) pa_nil) pass0))
      (pss_cons (ps_set (i := 5) sc_law.nd rfl (by first | exact Or.inl rfl | exact Or.inr rfl) (pe_cl c_Lblocks hr (pa_cons (pv 3) pa_nil) pass0))
      (pss_cons (ps_set (i := 6) sc_law.nd rfl (by first | exact Or.inl rfl | exact Or.inr rfl) (pe_cl c_Lis_parted hr (pa_cons (pv 3) pa_nil) pass0))
      (pss_one (ps_for PassesOwn.never rfl (pi_range1 (by rfl) f_range (pa_cons pe_int pa_nil)) (pg_name (i := 7) sc_law.nd rfl (by first | exact Or.inl rfl | exact Or.inr rfl)) (Evl.pss_cut (ps_asg (pe_lamS (k := 9) c_Lwhy ⟨tb, rfl⟩ hr (by rfl) (lamS_by (sc := defScope s_law) (by decide +kernel)) rfl (fun _ _ _ _ _ => rfl) (fun E A outer s H f c' hr => (pe_cl c_meetings hr (pa_cons (pv 4) pa_nil) (passE (takes_of rfl rfl rfl rfl))))) (pg_tupK K 2 (by rfl) (pgs_cons (pg_name (i := 8) sc_law.nd rfl (by first | exact Or.inl rfl | exact Or.inr rfl)) (pgs_cons (pg_name (i := 9) sc_law.nd rfl (by first | exact Or.inl rfl | exact Or.inr rfl)) pgs_nil))))
      (pss_cons (ps_if (PW.pt (pw_or (pt_val (pv 6)) (pw_or1 (pt_cmpR (op_neK K hr.units) (pv 9) pe_str (nomark _))))) (pss_cons (ps_if (PW.pt (pw_or (pt_not (pt_val (pv 6))) (pw_or1 (pt_cmpR (op_neK K hr.units) (pv 9) pe_str (nomark _))))) (pss_one (ps_ret pe_bl)) pss_nil)
      (pss_one ps_continue)) pss_nil)
      (pss_cons (ps_if (PW.pt (pw_or (pt_not (pt_val (pe_callB (call_isiK K) (by rfl) f_isinstance (by decide +kernel) (pa_cons (pv 8) (pa_cons (pe_bltn (v := .ty "list") (by rfl) f_list (by decide +kernel) rfl) pa_nil))))) (pw_or1 (pt_not (pt_val (pe_cl c_Lsame hr (pa_cons (pe_lc (own := [("_law_one_here", 11)]) rfl sc_law.nd (pi_listK K (pv 8)) (blkOk_by (N := ["_law_script", "_law_bag_here", "_law_k", "_law_m", "_law_house_here", "_law_due", "_law_bad", "_law_again", "_law_found", "_law_word", "_law_row", "_law_one_here", "_law_other", "_law_ways", "_law_others", "_law_there"]) (sc := defScope s_law) (by decide +kernel)) (fun _ _ _ _ _ => (pg_name (i := 11) sc_law.nd rfl (by first | exact Or.inl rfl | exact Or.inr rfl))) (fun _ _ _ _ _ => pts_nil) (fun _ _ _ _ _ => (pe_slice (sl_k K) (pv 11) po_none (po_some pe_int)))) (pa_cons (pv 5) pa_nil)) pass0)))))) (pss_one (ps_ret pe_bl)) pss_nil)
      (pss_cons (ps_if (pt_cmpR op_notBl (pe_cl c_meetings_hold hr (pa_cons (pv 4) (pa_cons (pv 8) pa_nil)) passX) pe_bl (nomark _)) (pss_one (ps_ret pe_bl)) pss_nil)
      (pss_cons (ps_for PassesOwn.never rfl (pi_listK K (pv 8)) (pg_tupK K 5 (by rfl) (pgs_cons (pg_name (i := 10) sc_law.nd rfl (by first | exact Or.inl rfl | exact Or.inr rfl)) (pgs_cons (pg_name (i := 11) sc_law.nd rfl (by first | exact Or.inl rfl | exact Or.inr rfl)) (pgs_cons (pg_name (i := 12) sc_law.nd rfl (by first | exact Or.inl rfl | exact Or.inr rfl)) (pgs_cons (pg_name (i := 13) sc_law.nd rfl (by first | exact Or.inl rfl | exact Or.inr rfl)) (pgs_cons (pg_name (i := 14) sc_law.nd rfl (by first | exact Or.inl rfl | exact Or.inr rfl)) pgs_nil)))))) (pss_cons (ps_set (i := 15) sc_law.nd rfl (by first | exact Or.inl rfl | exact Or.inr rfl) (pe_cl c_Lwalk hr (pa_cons (pv 3) (pa_cons (pe_callTy (call_listK K) (by rfl) f_list (by decide +kernel) (pa_cons (pv 10) pa_nil)) (pa_cons (pe_op (op_addK K) (pe_lst (pa_cons (pv 11) pa_nil)) (pv 13)) pa_nil))) pass0))
      (pss_cons (ps_if (PW.pt (pw_or (pt_cmpR op_isN1 (pv 15) pe_non (nomark _)) (pw_or1 (pt_cmpR (op_neK K hr.units) (pv 15) (pe_cl c_Lwalk hr (pa_cons (pv 3) (pa_cons (pe_callTy (call_listK K) (by rfl) f_list (by decide +kernel) (pa_cons (pv 10) pa_nil)) (pa_cons (pe_op (op_addK K) (pe_lst (pa_cons (pv 12) pa_nil)) (pv 14)) pa_nil))) pass0) (nomark _))))) (pss_one (ps_ret pe_bl)) pss_nil)
      (pss_one (ps_expr (pe_bmK K PySem.F.plainAttrs_list PySem.F.slot_list_append PySem.F.type_list_append mt_append (pv 13) (pa_cons (pv 11) pa_nil)))))))
      (pss_one (ps_expr (pe_bmK K PySem.F.plainAttrs_list PySem.F.slot_list_append PySem.F.type_list_append mt_append (pv 8) (pa_cons (pe_tup pa_nil) pa_nil))))))))))))))))
      (pss_one (ps_ret pe_bl)))), ?rd⟩)
  case hl =>
    obtain ⟨b, u, rfl, _⟩ := h
    rfl
  case rd =>
    have wc3 := whyC0 c_NotOne xm_NotOne_GulpError
    obtain ⟨a, ns, rfl, hS, hn, hPt, q⟩ := h
    have hT0 : TbL K H := fun p hp => by rw [List.mem_singleton.mp hp]; exact TabS.nil hPt
    refine k_start (σ' := [some _, none, none, none, none, none, none, none, none, none, none, none, none, none, none, none]) rfl ?_
    walk_at "g"
    refine ⟨a, ns, rfl, hS, hn, fun b H1 s1 hb => ?_⟩
    walk_at "g"
    refine k_nFor walk_range (fun i σ H' => (∃ y2 y3 y4 y5 y6 y7 y8 y9 y10 y11 y12 y13 y14 y15, σ = [some (.ref a), some (.ref b), y2, y3, y4, y5, y6, y7, y8, y9, y10, y11, y12, y13, y14, y15]) ∧ BagOk H' b ∧ TbL K H') ⟨⟨_, _, _, _, _, _, _, _, _, _, _, _, _, _, rfl⟩, hb, tabs_sm s1 hT0⟩ (fun _ _ _ _ _ => trivial) (fun i x σ Ha Hb hi h hy => ?ht) (fun σ H' h => ?he)
    case he =>
      obtain ⟨⟨y2, y3, y4, y5, y6, y7, y8, y9, y10, y11, y12, y13, y14, y15, rfl⟩, _⟩ := h
      walk_at "g"
      exact q _
    case ht =>
      obtain ⟨⟨y2, y3, y4, y5, y6, y7, y8, y9, y10, y11, y12, y13, y14, y15, rfl⟩, hbA, hTA⟩ := h
      obtain ⟨rfl, rfl⟩ := y_rng hy
      walk_at "g"
      refine k_nLst (by walk_at "sz") (fun p3 H3 n3 s3 e3 => ?_)
      walk_at "g"
      refine ⟨b, .ref p3, rfl, hbA.sm s3, .inl ⟨p3, _, rfl, sq_l e3, by show 0 < 2; decide, by show 2 ≤ 100000; decide, fun v hv => ?_⟩⟩
      obtain ⟨z0, rfl, hz0⟩ : ∃ z : Int, v = .int z ∧ z ≤ 14 := by
        rcases List.mem_cons.mp hv with rfl | hv
        · exact ⟨_, rfl, by decide⟩
        rcases List.mem_cons.mp hv with rfl | hv
        · exact ⟨_, rfl, by decide⟩
        cases hv
      clear hv
      walk_at "g"
      refine ⟨b, [.int z0], rfl, rfl, fun v hv => ⟨z0, List.mem_singleton.mp hv, hz0⟩, hbA.sm s3, fun S m H4 ok ln nm s4 hX => ?_⟩
      have hb4 := (hbA.sm s3).sm s4
      have hT4 := tabs_sm s4 (tabs_sm s3 hTA)
      have hM4 := hX.mat
      have kS := ln.kind
      walk_at "g"
      refine ⟨m, S, rfl, hM4, ok, fun ah H5 n5 s5 hs => ?_⟩
      have hM5 := hM4.sm s5
      walk_at "g"
      refine ⟨m, S, rfl, hM5, ok, fun pd wd H6 s6 e6 hd6 => ?_⟩
      have hM6 := hM5.sm s6
      walk_at "g"
      refine ⟨m, S, rfl, hM6, ok, fun H7 s7 => ?_⟩
      have hM7 := hM6.sm s7
      have s47 := s5.trans (s6.trans s7)
      have hb7 := hb4.sm s47
      have hT7 := tabs_sm s47 hT4
      have hs7 := hs.sm (s6.trans s7)
      have e7 := s7 _ _ e6
      have hd7 := mg_sm s7 hd6
      walk_at "g"
      refine k_nFor walk_range (fun j σ H' => (∃ y7 y8 y9 y10 y11 y12 y13 y14 y15, σ = [some (.ref a), some (.ref b), some (.int (i : Nat)), some (.ref m), some (.ref ah), some (.ref pd), some (.bl (partF S).isSome), y7, y8, y9, y10, y11, y12, y13, y14, y15]) ∧ ExtN H7 H' ∧ TbL K H') ⟨⟨_, _, _, _, _, _, _, _, _, rfl⟩, same_ext (Same.refl _), hT7⟩ (fun _ _ _ _ _ => trivial) (fun j x σ Hc Hd hj h hy => ?ht2) (fun σ H' h => ?he2)
      case he2 =>
        obtain ⟨⟨y7, y8, y9, y10, y11, y12, y13, y14, y15, rfl⟩, xa, ta⟩ := h
        exact ⟨⟨_, _, _, _, _, _, _, _, _, _, _, _, _, _, rfl⟩, hb7.ext xa, ta⟩
      case ht2 =>
        obtain ⟨⟨y7, y8, y9, y10, y11, y12, y13, y14, y15, rfl⟩, xa, ta⟩ := h
        obtain ⟨rfl, rfl⟩ := y_rng hy
        have hsD := hs7.ext xa
        walk_at "g"
        with_reducible refine k_cut (fun σ' H' => ∃ (v8 : V) (z9 : Str) (HB : Hp), σ' = [some (.ref a), some (.ref b), some (.int (i : Nat)), some (.ref m), some (.ref ah), some (.ref pd), some (.bl (partF S).isSome), some (.int (j : Nat)), some v8, some (.str z9), y10, y11, y12, y13, y14, y15] ∧ ExtN Hd HB ∧ TbL K HB ∧ Same HB H' ∧ z9 = wordD S ∧ (partF S = none → ∃ p, v8 = .ref p ∧ HB p = none ∧ PaperAt K S HB p H' (blocksF S))) ?_ (fun σ' H' h => ?_)
        · walk_at "g"
          refine k_lam ta (fun H8 x8 hT8 => ?_)
          refine k_why ?_
          walk_at "g"
          refine ⟨ah, S, rfl, hsD.ext x8, ok, fun _ => ⟨fun hp pf H9 n9 s9 hpa T H10 n10 s10 e10 => ?_, fun hp d H9 n9 s9 e9 => why_x0 wc3 e9 (fun T H10 n10 s10 e10 => ?_)⟩, fun z => absurd kS z⟩
          · walk_at "g"
            obtain ⟨ws, B, h1, h2, h3, h4⟩ := hpa.ex
            exact ⟨_, _, H8, rfl, x8, hT8, s9.trans s10, by unfold wordD; rw [hp]; rfl, fun _ => ⟨pf, rfl, n9, ⟨ws, B, s10 _ _ h1, pd_imp (fun _ _ h => h.sm s10) h2, h3, h4⟩⟩⟩
          · walk_at "g"
            refine ⟨_, _, H8, rfl, x8, hT8, s9.trans s10, ?_, fun z => absurd z hp⟩
            unfold wordD
            cases e : partF S with
            | none => exact absurd e hp
            | some x => rfl
        obtain ⟨v8, z9, HB, rfl, xB, tB, sB, rfl, hv8⟩ := h
        have xC := xa.trans xB
        cases e : partF S with
        | some x =>
          have e2 : wordD S = Str.ofString "NotOne" := by unfold wordD; rw [e]; rfl
          rw [e2, show (some x : Option Mg).isSome = true from rfl]
          walk_at "g"
          rw [decide_eq_true rfl]
          walk_at "g"
          exact ⟨⟨_, _, _, _, _, _, _, _, _, rfl⟩, xC.trans (same_ext sB), tabs_sm sB tB⟩
        | none =>
          have e2 : wordD S = Str.ofString "" := by unfold wordD; rw [e]; rfl
          rw [e2, show (none : Option Mg).isSome = false from rfl]
          obtain ⟨pf, rfl, npf, hpa⟩ := hv8 e
          obtain ⟨ws, B, hpf, hB, eB, nB⟩ := hpa.ex
          obtain ⟨ds, hds⟩ := mts_mg hB
          have lB := pd_len hB
          have lB2 : B.length ≤ 12000 := by
            have : B.length = (B.map Prod.fst).length := (List.length_map _).symm
            rw [eB] at this
            have := blocks_len ok
            omega
          have hsB := (hs7.ext xC)
          have hMB := (hM7.ext xC)
          have hdB := dpall_ext xC (mg_dps hd7)
          have edB := ext_lst xC e7
          have hsH := hsB.sm sB
          have hpp := mts_pp hB
          rw [eB] at hpp
          have hdH := dpall_sm sB hdB
          have edH := sB _ _ edB
          have lpp : ((blocksF S).map (mtE S)).length = ws.length := (pd_len hpp).symm
          walk_at "g"
          rw [decide_eq_true rfl]
          walk_at "g"
          refine k_isiL (.lst (sq_l hpf) hds) ?_
          show nBl (.bl true) _ _
          walk_at "g"
          refine k_nLcD (walk_list (xs := ws)) (fun H2 s => sq_l (s _ _ hpf)) (fun i zs H2 => MgAll K H2 zs ((((blocksF S).map (mtE S)).take i).map fun e : PpE => e.1)) (fun i zs Ha Hb s h => mg_sm s h) .nil (fun i zs Ha hi h => ?hz) (fun k x p Ha Hb zs Kp Ks hi hp sa epx hzs hy hKp hKs => ?ht3) (fun p2 H2 zs n2 s2 e2 hzs => ?he3)
          case hz =>
            have := pd_len h
            rw [List.length_map, List.length_take] at this
            omega
          case ht3 =>
            obtain ⟨rfl, hv⟩ := hy
            obtain ⟨e, hx, T, Tr, T1, T2, p1, p2, ws1, ws2, rfl, h1, h2, h3, h4, _⟩ := pd_at (pd_imp (fun _ _ h => PpAt.sm sa h) hpp) hv
            walk_at "g"
            refine ⟨rfl, ?_⟩
            walk_at "g"
            refine k_sl_t h1 (fun p3 H3 s3 e3 => ?_)
            refine hKp _ _ s3 ?_
            rw [take_more hx, List.map_append]
            have s3' := del_mono (p := p) s3
            refine pd_app (mg_sm s3' hzs) (.cons ⟨p3, Tr, T1, T2, rfl, del_t (s3 _ _ epx) e3, del_t (s3 _ _ epx) (sm_t s3 h2), del_t (s3 _ _ epx) (sm_t s3 h3), del_t (s3 _ _ epx) (sm_t s3 h4)⟩ .nil)
          case he3 =>
            rw [← lpp, List.take_length, mt_e1] at hzs
            walk_at "g"
            refine ⟨.ref p2, .ref pd, .list ((blocksF S).map dMg), rfl, .lst (sq_l e2) (mg_dps hzs), .lst (sq_l (s2 _ _ edH)) (dpall_sm s2 hdH), (good_blocks4 ok).fit, fun H3 s3 => ?_⟩
            have s23 := s2.trans s3
            have hpp3 := pd_imp (fun _ _ h => PpAt.sm s23 h) hpp
            walk_at "g"
            refine ⟨ah, pf, S, ws, _, rfl, hsH.sm s23, ok, sq_l (s23 _ _ hpf), hpp3, fit_told ok, fun _ H4' s4' => ?_, fun z => absurd kS z⟩
            rw [hold_told e]
            have s24 := s23.trans s4'
            have sB4 := sB.trans s24
            walk_at "g"
            refine k_decT rfl ?_
            have hpf4 := sq_l (K := K) (s24 _ _ hpf)
            walk_at "g"
            refine k_nFor (walk_list (xs := ws)) (fun k σ H2 => (∃ y10 y11 y12 y13 y14 y15, σ = [some (.ref a), some (.ref b), some (.int (i : Nat)), some (.ref m), some (.ref ah), some (.ref pd), some (.bl false), some (.int (j : Nat)), some (.ref pf), some (.str (Str.ofString "")), y10, y11, y12, y13, y14, y15]) ∧ Same HB H2 ∧ H2 pf = some (.lst ws) ∧ Paired (MtAt K S HB pf H2) (ws.drop k) (B.drop k)) ⟨⟨_, _, _, _, _, _, rfl⟩, sB4, s24 _ _ hpf, pd_imp (fun _ _ h => h.sm s24) hB⟩ (fun k σ H2 _ h => sq_l h.2.2.1) (fun k x σ He Hf hk h hy => ?ht4) (fun σ H2 h => ?he4)
            case he4 =>
              obtain ⟨⟨y10, y11, y12, y13, y14, y15, rfl⟩, sc, epf, _⟩ := h
              have epfs := sq_l (K := K) epf
              walk_at "g"
              refine k_nTup (by walk_at "sz") (fun T5 H5' n5' s5' e5' => ?_)
              have epf5 := s5' _ _ epf
              walk_at "g"
              refine k_append epf5 (by omega) ?_
              walk_at "g"
              have sE := sm_mut (sc.trans s5') npf (o := .lst (ws ++ [.ref T5]))
              exact ⟨⟨_, _, _, _, _, _, _, _, _, rfl⟩, xC.trans (same_ext sE), tabs_sm sE tB⟩
            case ht4 =>
              obtain ⟨⟨y10, y11, y12, y13, y14, y15, rfl⟩, sc, epf, hR⟩ := h
              obtain ⟨rfl, hv⟩ := hy
              obtain ⟨y, hy1, hmt, hrest⟩ := pd_drop hR hv
              obtain ⟨T, Tr, T1, T2, ws1, ws2, rfl, h1, h2, h3, h4, ⟨h5, h6⟩, ⟨h7, h8⟩, ⟨nq1, nq2⟩, z1, z2⟩ := id hmt
              have hxm : y.1 ∈ blocksF S := by
                rw [← eB]
                exact List.mem_map.mpr ⟨y, List.mem_of_getElem? hy1, rfl⟩
              have hok := block_ok y.1 hxm
              have l3 : y.1.1.length ≤ 3 := by have := hok.l; omega
              have lr1 := (gone_small ok hok y.1.2.1 hok.a).2.2
              have lr2 := (gone_small ok hok y.1.2.2 hok.b).2.2
              obtain ⟨wg, lg, _⟩ := gone_small ok hok y.1.2.1 hok.a
              have ld1 := dpall_len h6
              have ld2 := dpall_len h8
              rw [List.length_map] at ld1 ld2
              have hME := hMB.sm sc
              walk_at "g"
              refine k_list_t h2 (fun q1 G1 m1 t1 f1 => ?_)
              walk_at "g"
              refine k_nLst (by walk_at "sz") (fun q2 G2 m2 t2 f2 => ?_)
              have t12 := t1.trans t2
              walk_at "g"
              refine k_add_l f2 (t12 _ _ h5) (by show 1 + _ ≤ _; omega) (fun q3 G3 m3 t3 f3 => ?_)
              have t23 := t2.trans t3
              have t13 := t1.trans t23
              walk_at "g"
              refine ⟨m, q1, q3, S, y.1.1, _, y.1.2.1 :: (goneF S y.1.1 y.1.2.1).2, rfl, hME.sm t13, ok, t23 _ _ f1, hok.w, sq_l f3, .cons (h3.sm t13).dp (dpall_sm t13 h6), by rw [List.length_cons]; omega, fun v4 G4 t4 hv4 => ?_⟩
              rw [walk_gone hok.a] at hv4
              obtain ⟨r1, rfl, er1⟩ := hv4
              have t14 := t13.trans t4
              walk_at "g"
              refine k_list_t (sm_t t14 h2) (fun q5 G5 m5 t5 f5 => ?_)
              walk_at "g"
              refine k_nLst (by walk_at "sz") (fun q6 G6 m6 t6 f6 => ?_)
              have t56 := t5.trans t6
              walk_at "g"
              refine k_add_l f6 ((t14.trans t56) _ _ h7) (by show 1 + _ ≤ _; omega) (fun q7 G7 m7 t7 f7 => ?_)
              have t67 := t6.trans t7
              have t57 := t5.trans t67
              have t17 := t14.trans t57
              walk_at "g"
              refine ⟨m, q5, q7, S, y.1.1, _, y.1.2.2 :: (goneF S y.1.1 y.1.2.2).2, rfl, hME.sm t17, ok, t67 _ _ f5, hok.w, sq_l f7, .cons (h4.sm t17).dp (dpall_sm t17 h8), by rw [List.length_cons]; omega, fun v8 G8 t8 hv8 => ?_⟩
              have hno := List.find?_eq_none.mp e y.1 hxm
              unfold partsF at hno
              have hgo : (goneF S y.1.1 y.1.2.1).1 = (goneF S y.1.1 y.1.2.2).1 := by simpa using hno
              rw [walk_gone hok.b, ← hgo] at hv8
              obtain ⟨r2, rfl, er2⟩ := hv8
              have er1' := (t57.trans t8) _ _ er1
              walk_at "g"
              refine k_ne_d (.lst (sq_l er1') (dp_tS _)) (.lst (sq_l er2) (dp_tS _)) ((good_allW ok wg (by omega) 1).shaped (by decide)) ((good_allW ok wg (by omega) 1).shaped (by decide)) ?_
              rw [eqv_rows, decide_eq_true rfl]
              have t18 := t17.trans t8
              have h5' := t18 _ _ h5
              have h5q := sq_l (K := K) h5'
              walk_at "g"
              refine k_append h5' (by omega) ?_
              walk_at "g"
              refine ⟨⟨_, _, _, _, _, _, rfl⟩, sm_mut (sc.trans t18) z1, (upd_ne nq1.symm).trans (t18 _ _ epf), pd_mem (fun v z hz hh => ?_) hrest⟩
              obtain ⟨g1, g2⟩ := nodup_rest nB hy1 z hz
              exact (hh.sm t18).other h5' g1 g2
end
end Lw
set_option autoImplicit true
set_option pp.maxSteps 1200
set_option Elab.async false
set_option linter.all false
set_option maxRecDepth 100000
set_option maxHeartbeats 1000000

namespace Lw
open PySem PySem.Spec PyProof.Rows L2 Gk
theorem facts {P : Program} {w : World} {K : PySem.W.Frag} {h : Heap} {mg : Str → Option Value} {f : Addr} (X : K.In h) (G : h.Ns mainGlobals mg) (hfa : mg ("law" : Str) = some (.ref f)) (c : SaysX fa fx fn K) :
    ∃ fd : FuncData, (∀ (s : Shared) (v : Value), BindsTo s fd ⟨[v], []⟩ [("_law_script", v)]) ∧ ∀ base : Heap, K.In base → base.Ns mainGlobals mg → LamX.TabB base mg (He.cT K ("law", none)).1 (He.cT K ("law", none)).2 → FnOk P w K mg base CX0 12 f fd ["_law_script"] (spLawT K) := by
  obtain ⟨fd0, F0⟩ := c.def_ 0 (d := dd0) rfl
  obtain ⟨fd1, F1⟩ := c.def_ 1 (d := dd1) rfl
  obtain ⟨fd2, F2⟩ := c.def_ 2 (d := dd2) rfl
  obtain ⟨fd3, F3⟩ := c.def_ 3 (d := dd3) rfl
  obtain ⟨fd4, F4⟩ := c.def_ 4 (d := dd4) rfl
  obtain ⟨fd5, F5⟩ := c.def_ 5 (d := dd5) rfl
  obtain ⟨fd6, F6⟩ := c.def_ 6 (d := dd6) rfl
  obtain ⟨fd7, F7⟩ := c.def_ 7 (d := dd7) rfl
  obtain ⟨fd8, F8⟩ := c.def_ 8 (d := dd8) rfl
  obtain ⟨fd9, F9⟩ := c.def_ 9 (d := dd9) rfl
  obtain ⟨fd10, F10⟩ := c.def_ 10 (d := dd10) rfl
  obtain ⟨fd11, F11⟩ := c.def_ 11 (d := dd11) rfl
  obtain ⟨fd12, F12⟩ := c.def_ 12 (d := dd12) rfl
  obtain ⟨fd13, F13⟩ := c.def_ 13 (d := dd13) rfl
  obtain ⟨fd14, F14⟩ := c.def_ 14 (d := dd14) rfl
  obtain ⟨fd15, F15⟩ := c.def_ 15 (d := dd15) rfl
  obtain ⟨fd16, F16⟩ := c.def_ 16 (d := dd16) rfl
  obtain ⟨fd17, F17⟩ := c.def_ 17 (d := dd17) rfl
  obtain ⟨fd18, F18⟩ := c.def_ 18 (d := dd18) rfl
  obtain ⟨fd19, F19⟩ := c.def_ 19 (d := dd19) rfl
  obtain ⟨fd20, F20⟩ := c.def_ 20 (d := dd20) rfl
  obtain ⟨fd21, F21⟩ := c.def_ 21 (d := dd21) rfl
  obtain ⟨fd22, F22⟩ := c.def_ 22 (d := dd22) rfl
  obtain ⟨fd23, F23⟩ := c.def_ 23 (d := dd23) rfl
  obtain ⟨fd24, F24⟩ := c.def_ 24 (d := dd24) rfl
  obtain ⟨fd25, F25⟩ := c.def_ 25 (d := dd25) rfl
  obtain ⟨fd26, F26⟩ := c.def_ 26 (d := dd26) rfl
  obtain ⟨fd27, F27⟩ := c.def_ 27 (d := dd27) rfl
  obtain ⟨fd28, F28⟩ := c.def_ 28 (d := dd28) rfl
  obtain ⟨fd29, F29⟩ := c.def_ 29 (d := dd29) rfl
  obtain ⟨fd30, F30⟩ := c.def_ 30 (d := dd30) rfl
  obtain ⟨fd31, F31⟩ := c.def_ 31 (d := dd31) rfl
  obtain ⟨fd32, F32⟩ := c.def_ 32 (d := dd32) rfl
  obtain ⟨fd33, F33⟩ := c.def_ 33 (d := dd33) rfl
  obtain ⟨fd34, F34⟩ := c.def_ 34 (d := dd34) rfl
  obtain ⟨fd35, F35⟩ := c.def_ 35 (d := dd35) rfl
  obtain ⟨fd36, F36⟩ := c.def_ 36 (d := dd36) rfl
  obtain ⟨fd37, F37⟩ := c.def_ 37 (d := dd37) rfl
  obtain ⟨fd38, F38⟩ := c.def_ 38 (d := dd38) rfl
  obtain ⟨fd39, F39⟩ := c.def_ 39 (d := dd39) rfl
  obtain ⟨fd40, F40⟩ := c.def_ 40 (d := dd40) rfl
  obtain ⟨fd41, F41⟩ := c.def_ 41 (d := dd41) rfl
  obtain ⟨fd42, F42⟩ := c.def_ 42 (d := dd42) rfl
  obtain ⟨fd43, F43⟩ := c.def_ 43 (d := dd43) rfl
  obtain ⟨fd44, F44⟩ := c.def_ 44 (d := dd44) rfl
  obtain ⟨fd45, F45⟩ := c.def_ 45 (d := dd45) rfl
  obtain ⟨fd46, F46⟩ := c.def_ 46 (d := dd46) rfl
  obtain ⟨fd47, F47⟩ := c.def_ 47 (d := dd47) rfl
  obtain ⟨fd48, F48⟩ := c.def_ 48 (d := dd48) rfl
  obtain ⟨fd49, F49⟩ := c.def_ 49 (d := dd49) rfl
  obtain ⟨fd50, F50⟩ := c.def_ 50 (d := dd50) rfl
  obtain ⟨fd51, F51⟩ := c.def_ 51 (d := dd51) rfl
  obtain ⟨fd52, F52⟩ := c.def_ 52 (d := dd52) rfl
  have g_GulpError := He.glo_ok X G (c.fact 0 (f := .glo "GulpError") rfl)
  have g_House := He.glo_ok X G (c.fact 1 (f := .glo "House") rfl)
  have g_MissError := He.glo_ok X G (c.fact 2 (f := .glo "MissError") rfl)
  have g_NotLean := He.glo_ok X G (c.fact 3 (f := .glo "NotLean") rfl)
  have g_NotOne := He.glo_ok X G (c.fact 4 (f := .glo "NotOne") rfl)
  have g_NothingLeft := He.glo_ok X G (c.fact 5 (f := .glo "NothingLeft") rfl)
  have g_SIDES := He.glo_ok X G (c.fact 6 (f := .glo "SIDES") rfl)
  have g_Lbag := He.glo_ok X G (c.fact 7 (f := .glo "_law_bag") rfl)
  have g_Lbehind := He.glo_ok X G (c.fact 8 (f := .glo "_law_behind") rfl)
  have g_Lbites := He.glo_ok X G (c.fact 9 (f := .glo "_law_bites") rfl)
  have g_Lblocks := He.glo_ok X G (c.fact 10 (f := .glo "_law_blocks") rfl)
  have g_Lby_length := He.glo_ok X G (c.fact 11 (f := .glo "_law_by_length") rfl)
  have g_Lcrossed := He.glo_ok X G (c.fact 12 (f := .glo "_law_crossed") rfl)
  have g_Lcut := He.glo_ok X G (c.fact 13 (f := .glo "_law_cut") rfl)
  have g_Lend := He.glo_ok X G (c.fact 14 (f := .glo "_law_end") rfl)
  have g_Lgone := He.glo_ok X G (c.fact 15 (f := .glo "_law_gone") rfl)
  have g_Lgrown := He.glo_ok X G (c.fact 16 (f := .glo "_law_grown") rfl)
  have g_Lhouse := He.glo_ok X G (c.fact 17 (f := .glo "_law_house") rfl)
  have g_Lis_parted := He.glo_ok X G (c.fact 18 (f := .glo "_law_is_parted") rfl)
  have g_Llean := He.glo_ok X G (c.fact 19 (f := .glo "_law_lean") rfl)
  have g_Lletters := He.glo_ok X G (c.fact 20 (f := .glo "_law_letters") rfl)
  have g_Lmade := He.glo_ok X G (c.fact 21 (f := .glo "_law_made") rfl)
  have g_Lmeasures := He.glo_ok X G (c.fact 22 (f := .glo "_law_measures") rfl)
  have g_Lone := He.glo_ok X G (c.fact 23 (f := .glo "_law_one") rfl)
  have g_Lpull := He.glo_ok X G (c.fact 24 (f := .glo "_law_pull") rfl)
  have g_Lsame := He.glo_ok X G (c.fact 25 (f := .glo "_law_same") rfl)
  have g_Ltaste := He.glo_ok X G (c.fact 26 (f := .glo "_law_taste") rfl)
  have g_Lwalk := He.glo_ok X G (c.fact 27 (f := .glo "_law_walk") rfl)
  have g_Lwhy := He.glo_ok X G (c.fact 28 (f := .glo "_law_why") rfl)
  have g_Lwords := He.glo_ok X G (c.fact 29 (f := .glo "_law_words") rfl)
  have g_behind := He.glo_ok X G (c.fact 30 (f := .glo "behind") rfl)
  have g_bites_of := He.glo_ok X G (c.fact 31 (f := .glo "bites_of") rfl)
  have g_blocks := He.glo_ok X G (c.fact 32 (f := .glo "blocks") rfl)
  have g_cut_long := He.glo_ok X G (c.fact 33 (f := .glo "cut_long") rfl)
  have g_ended := He.glo_ok X G (c.fact 34 (f := .glo "ended") rfl)
  have g_followed := He.glo_ok X G (c.fact 35 (f := .glo "followed") rfl)
  have g_gone := He.glo_ok X G (c.fact 36 (f := .glo "gone") rfl)
  have g_grown := He.glo_ok X G (c.fact 37 (f := .glo "grown") rfl)
  have g_kind := He.glo_ok X G (c.fact 38 (f := .glo "kind") rfl)
  have g_law := He.glo_ok X G (c.fact 39 (f := .glo "law") rfl)
  have g_meetings := He.glo_ok X G (c.fact 40 (f := .glo "meetings") rfl)
  have g_meetings_hold := He.glo_ok X G (c.fact 41 (f := .glo "meetings_hold") rfl)
  have g_need_eats := He.glo_ok X G (c.fact 42 (f := .glo "need_eats") rfl)
  have g_need_lean := He.glo_ok X G (c.fact 43 (f := .glo "need_lean") rfl)
  have g_need_letters := He.glo_ok X G (c.fact 44 (f := .glo "need_letters") rfl)
  have g_need_table := He.glo_ok X G (c.fact 45 (f := .glo "need_table") rfl)
  have g_paired := He.glo_ok X G (c.fact 46 (f := .glo "paired") rfl)
  have g_parted := He.glo_ok X G (c.fact 47 (f := .glo "parted") rfl)
  have g_picked := He.glo_ok X G (c.fact 48 (f := .glo "picked") rfl)
  have g_word_count := He.glo_ok X G (c.fact 49 (f := .glo "word_count") rfl)
  have g_words := He.glo_ok X G (c.fact 50 (f := .glo "words") rfl)
  have f_all := He.free_ok X G (c.fact 51 (f := .free "all") rfl)
  have f_enumerate := He.free_ok X G (c.fact 52 (f := .free "enumerate") rfl)
  have f_int := He.free_ok X G (c.fact 53 (f := .free "int") rfl)
  have f_isinstance := He.free_ok X G (c.fact 54 (f := .free "isinstance") rfl)
  have f_len := He.free_ok X G (c.fact 55 (f := .free "len") rfl)
  have f_list := He.free_ok X G (c.fact 56 (f := .free "list") rfl)
  have f_max := He.free_ok X G (c.fact 57 (f := .free "max") rfl)
  have f_min := He.free_ok X G (c.fact 58 (f := .free "min") rfl)
  have f_range := He.free_ok X G (c.fact 59 (f := .free "range") rfl)
  have f_repr := He.free_ok X G (c.fact 60 (f := .free "repr") rfl)
  have f_set := He.free_ok X G (c.fact 61 (f := .free "set") rfl)
  have f_sorted := He.free_ok X G (c.fact 62 (f := .free "sorted") rfl)
  have f_str := He.free_ok X G (c.fact 63 (f := .free "str") rfl)
  have f_sum := He.free_ok X G (c.fact 64 (f := .free "sum") rfl)
  have f_tuple := He.free_ok X G (c.fact 65 (f := .free "tuple") rfl)
  have f_zip := He.free_ok X G (c.fact 66 (f := .free "zip") rfl)
  have c_LONGEST := He.int_ok X G (c.fact 67 (f := .int "LONGEST" 60) rfl)
  have c_MOST_TASTES := He.int_ok X G (c.fact 68 (f := .int "MOST_TASTES" 4) rfl)
  have c_MOST_WORDS := He.int_ok X G (c.fact 69 (f := .int "MOST_WORDS" 14) rfl)
  have c_SMALL := He.str_ok X G (c.fact 70 (f := .str "SMALL" "abcdefghijklmnopqrstuvwxyz") rfl)
  have a_House := c.fact 71 (f := .cls "House") rfl
  have a_mk := c.fact 72 (f := .mkr "House") rfl
  have n1 := c.fact 73 (f := .noat "House" "signs") rfl
  have n2 := c.fact 74 (f := .noat "House" "rooms") rfl
  have n3 := c.fact 75 (f := .noat "House" "triples") rfl
  have n4 := c.fact 76 (f := .noat "House" "chewed") rfl
  have n5 := c.fact 77 (f := .noat "House" "putting") rfl
  have n6 := c.fact 78 (f := .noat "House" "span") rfl
  have n7 := c.fact 79 (f := .noat "House" "cutting") rfl
  have m_House_letters := c.fact 80 (f := .meth "House" "letters") rfl
  have m_House_most := c.fact 81 (f := .meth "House" "most") rfl
  have m_House_tasted := c.fact 82 (f := .meth "House" "tasted") rfl
  have m_House_chew := c.fact 83 (f := .meth "House" "chew") rfl
  have m_House_put := c.fact 84 (f := .meth "House" "put") rfl
  have m_House_cut := c.fact 85 (f := .meth "House" "cut") rfl
  have x0 := c.more 0 (f := .tup "SIDES" [.str "left", .str "right"]) rfl
  have x1 := c.more 1 (f := .oex "NotLean") rfl
  have x2 := c.more 2 (f := .field "NotLean" "word") rfl
  have x3 := c.more 3 (f := .oex "NotOne") rfl
  have x4 := c.more 4 (f := .field "NotOne" "word") rfl
  have x5 := c.more 5 (f := .exm "NotOne" "GulpError" true) rfl
  have e := hfa.symm.trans g_law
  cases e
  have b := FunD.bindsA (ps := ["_law_script"]) F52 fun _ _ _ _ _ _ us hl => match us, hl with | [_], _ => rfl
  refine ⟨fd52, fun s v => b s [v] rfl, fun base Kb Gb tb => ?_⟩
  have c_SIDES : GloT K mg "SIDES" [V.str (Str.ofString "left"), V.str (Str.ofString "right")] := ⟨g_SIDES, fun H => He.tupB_ok (vs := [.str "left", .str "right"]) x0 H⟩
  have c_Lbag := ok_Lbag (P := P) (w := w) (K := K) (mg := mg) (base := base) F0 g_Lbag f_len f_list
  have c_Lpull := ok_Lpull (P := P) (w := w) (K := K) (mg := mg) (base := base) F1 g_Lpull f_len
  have c_Lone := ok_Lone (P := P) (w := w) (K := K) (mg := mg) (base := base) F2 g_Lone f_len c_Lpull
  have c_Lsame := ok_Lsame (P := P) (w := w) (K := K) (mg := mg) (base := base) F3 g_Lsame f_len f_isinstance f_list f_tuple f_repr f_zip f_all 4
  have c_Lletters := ok_Lletters (P := P) (w := w) (K := K) (mg := mg) (base := base) F4 g_Lletters f_range f_sorted c_Lpull
  have hC : HsC K := ⟨He.cls_ok a_House, He.noat_ok n1, He.noat_ok n2, He.noat_ok n3, He.noat_ok n4, He.noat_ok n5, He.noat_ok n6, He.noat_ok n7⟩
  have c_word_count := ok_word_count (P := P) (w := w) (K := K) (mg := mg) (base := base) F5 g_word_count f_sum
  have c_need_letters := ok_need_letters (P := P) (w := w) (K := K) (mg := mg) (base := base) F6 g_need_letters f_len f_all f_sorted f_set c_SMALL
  have c_need_table := ok_need_table (P := P) (w := w) (K := K) (mg := mg) (base := base) F7 g_need_table f_len f_all f_enumerate c_MOST_TASTES
  have c_need_eats := ok_need_eats (P := P) (w := w) (K := K) (mg := mg) (base := base) F8 g_need_eats f_enumerate c_SIDES
  have c_House_init := ok_House_init (P := P) (w := w) (K := K) (mg := mg) (base := base) F9 hC f_tuple f_sorted f_all f_len c_MOST_WORDS c_need_eats c_need_table c_word_count c_need_letters
  have c_House_letters := ok_House_letters (P := P) (w := w) (K := K) (mg := mg) (base := base) F10 hC (He.meth_ok m_House_letters)
  have c_House_most := ok_House_most (P := P) (w := w) (K := K) (mg := mg) (base := base) F11 hC (He.meth_ok m_House_most)
  have c_House_tasted := ok_House_tasted (P := P) (w := w) (K := K) (mg := mg) (base := base) F12 hC (He.meth_ok m_House_tasted)
  have c_House_chew := ok_House_chew (P := P) (w := w) (K := K) (mg := mg) (base := base) F13 hC (He.meth_ok m_House_chew)
  have c_House_put := ok_House_put (P := P) (w := w) (K := K) (mg := mg) (base := base) F14 hC (He.meth_ok m_House_put)
  have c_House_cut := ok_House_cut (P := P) (w := w) (K := K) (mg := mg) (base := base) F15 hC (He.meth_ok m_House_cut)
  have c_words := ok_words (P := P) (w := w) (K := K) (mg := mg) (base := base) F16 g_words f_range c_House_letters c_House_most
  have c_cut_long := ok_cut_long (P := P) (w := w) (K := K) (mg := mg) (base := base) F17 g_cut_long f_len c_House_most c_House_cut
  have c_grown := ok_grown (P := P) (w := w) (K := K) (mg := mg) (base := base) F18 g_grown f_len f_max c_House_put c_House_chew
  have c_behind := ok_behind (P := P) (w := w) (K := K) (mg := mg) (base := base) F19 g_behind hC f_len f_min c_House_tasted c_cut_long c_grown
  have c_bites_of := ok_bites_of (P := P) (w := w) (K := K) (mg := mg) (base := base) F20 g_bites_of f_len f_range c_behind
  have c_followed := ok_followed (P := P) (w := w) (K := K) (mg := mg) (base := base) F21 g_followed f_enumerate c_behind
  have c_kind := ok_kind (P := P) (w := w) (K := K) (mg := mg) (base := base) F22 g_kind f_len c_House_put c_House_chew
  have c_picked := ok_picked (P := P) (w := w) (K := K) (mg := mg) (base := base) F23 g_picked f_len f_max
  have c_gone := ok_gone (P := P) (w := w) (K := K) (mg := mg) (base := base) F24 g_gone f_len f_min f_isinstance f_str c_bites_of c_picked
  have c_NotLean := made_NotLean (P := P) (w := w) (K := K) (mg := mg) (base := base) F25 g_NotLean (oex_ok x1) (of_decide_eq_true x2)
  have c_NotOne := made_NotOne (P := P) (w := w) (K := K) (mg := mg) (base := base) F26 g_NotOne (oex_ok x3) (of_decide_eq_true x4)
  have c_need_lean := ok_need_lean (P := P) (w := w) (K := K) (mg := mg) (base := base) F27 g_need_lean c_kind c_NotLean
  have c_paired := ok_paired (P := P) (w := w) (K := K) (mg := mg) (base := base) F28 g_paired f_sorted f_min f_max
  have c_ended := ok_ended (P := P) (w := w) (K := K) (mg := mg) (base := base) F29 g_ended f_list c_LONGEST c_followed c_gone
  have c_blocks := ok_blocks (P := P) (w := w) (K := K) (mg := mg) (base := base) F30 g_blocks f_len c_words c_bites_of c_paired
  have c_parted := ok_parted (P := P) (w := w) (K := K) (mg := mg) (base := base) F31 g_parted c_blocks c_ended
  have c_meetings := ok_meetings (P := P) (w := w) (K := K) (mg := mg) (base := base) F32 g_meetings c_need_lean c_parted c_NotOne
  have c_Lmeasures := ok_Lmeasures (P := P) (w := w) (K := K) (mg := mg) (base := base) F33 g_Lmeasures c_Lone
  have c_Lhouse := ok_Lhouse (P := P) (w := w) (K := K) (mg := mg) (base := base) F34 g_Lhouse f_range f_tuple f_sum c_Lpull c_Lone c_Lmeasures c_Lletters
  have c_House := House_made F9 g_House (He.mkr_ok a_mk) c_House_init
  have c_Lmade := ok_Lmade (P := P) (w := w) (K := K) (mg := mg) (base := base) F35 g_Lmade f_list c_House
  have c_Lwords := ok_Lwords (P := P) (w := w) (K := K) (mg := mg) (base := base) F36 g_Lwords f_range
  have c_Ltaste := ok_Ltaste (P := P) (w := w) (K := K) (mg := mg) (base := base) F37 g_Ltaste
  have c_Lcut := ok_Lcut (P := P) (w := w) (K := K) (mg := mg) (base := base) F38 g_Lcut f_len
  have c_Lgrown := ok_Lgrown (P := P) (w := w) (K := K) (mg := mg) (base := base) F39 g_Lgrown f_len f_range
  have c_Lbehind := ok_Lbehind (P := P) (w := w) (K := K) (mg := mg) (base := base) F40 g_Lbehind f_len f_min c_Ltaste c_Lcut c_Lgrown
  have c_Lbites := ok_Lbites (P := P) (w := w) (K := K) (mg := mg) (base := base) F41 g_Lbites f_len f_range c_Lbehind
  have c_Lgone := ok_Lgone (P := P) (w := w) (K := K) (mg := mg) (base := base) F42 g_Lgone f_len f_min f_max f_isinstance f_list f_range f_int c_Lbites c_Lbehind
  have c_Lcrossed := ok_Lcrossed (P := P) (w := w) (K := K) (mg := mg) (base := base) F43 g_Lcrossed f_sorted f_min f_max
  have c_Lblocks := ok_Lblocks (P := P) (w := w) (K := K) (mg := mg) (base := base) F44 g_Lblocks f_len c_Lwords c_Lbites c_Lcrossed
  have c_Lend := ok_Lend (P := P) (w := w) (K := K) (mg := mg) (base := base) F45 g_Lend c_Lgone
  have c_Lis_parted := ok_Lis_parted (P := P) (w := w) (K := K) (mg := mg) (base := base) F46 g_Lis_parted f_list c_Lblocks c_Lend c_Lbehind
  have c_Lwhy := ok_Lwhy (P := P) (w := w) (K := K) (mg := mg) (base := base) F47 g_Lwhy g_GulpError g_MissError g_NothingLeft
  have c_Lby_length := ok_Lby_length (P := P) (w := w) (K := K) (mg := mg) (base := base) F48 g_Lby_length f_range c_Lpull c_Lone c_Lletters
  have c_Llean := ok_Llean (P := P) (w := w) (K := K) (mg := mg) (base := base) F49 g_Llean f_range f_len c_Lpull c_Lone c_Lhouse c_Lby_length
  have c_Lwalk := ok_Lwalk (P := P) (w := w) (K := K) (mg := mg) (base := base) F50 g_Lwalk c_Lbehind
  have c_meetings_hold := ok_meetings_hold (P := P) (w := w) (K := K) (mg := mg) (base := base) F51 g_meetings_hold f_list c_need_lean c_blocks c_followed
  exact ok_law (P := P) (w := w) (K := K) (mg := mg) (base := base) F52 tb f_range f_list f_isinstance (of_decide_eq_true x5) c_NotOne c_Lbag c_Lone c_Lsame c_Llean c_Lmade c_Lblocks c_Lis_parted c_Lwalk c_meetings c_meetings_hold c_Lwhy
end Lw
open PySem PySem.W PySem.Calls PyProof.Rows
theorem PySem.Challenge.cw_gulprow_k25_meetings_listed_holds : PySem.Challenge.rw_gulprow_k25_meetings_listed.Holds := by
  refine Lw.pre ?hc
  case hc =>
    refine LamX.walk_ofTsE (l := PySem.Challenge.rw_gulprow_k25_meetings_listed) (n := 63) (k := 12) (x := "_law_script") (CX := fun _ => L2.CX0) rfl (by decide) (by kernel_rfl) ⟨rfl, by decide, by decide⟩ ?F (fun _ _ _ _ _ z => z)
    intro w mg fa h Y G hmg0
    obtain ⟨K, KX, c⟩ := Y
    have hmg : mg ("law" : PySem.Str) = some (.ref fa) := by
      have e : (HandSHeadRun.topDef (OpenLaw.row PySem.Challenge.rw_gulprow_k25_meetings_listed).prog 73).name = ("law" : PySem.Str) := by kernel_rfl
      rw [← e]
      exact hmg0
    obtain ⟨fd, hb, hF⟩ := Lw.facts (P := (PySem.Challenge.rw_gulprow_k25_meetings_listed).prog) (w := w) KX G hmg c.x
    have m1 : (("law" : Str), (none : Option Str)) ∈ [(("law" : Str), (none : Option Str))] := List.mem_singleton.mpr rfl
    exact ⟨K, KX, fd, [He.cT K ("law", none)], Lw.spLawT K, fun p hp => by rw [List.mem_singleton.mp hp]; exact c.empty _ m1, fun p hp => by rw [List.mem_singleton.mp hp]; exact c.out _ m1, fun p hp => by rw [List.mem_singleton.mp hp]; exact PySem.W.codeHd_of_K KX (c.hd _ m1), hb, fun H a ns hl _ ht hS => ⟨a, ns, rfl, hS, hl, ht _ (List.mem_singleton.mpr rfl), fun _ => rfl⟩, fun base Kb Gb hT => hF base Kb Gb (hT _ (List.mem_singleton.mpr rfl))⟩
