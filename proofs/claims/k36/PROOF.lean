import PyProof.Rows.All
import HandS.ExcInit
import HandS.ExcField
import KE.KExcInit
import Wide.All
import OpenK.AllK
import Wide.FinOn
import KE.KStateDown
import HandS.ForMost
import HandS.Exc
import HandS.ExcOwn
import HandS.TryOnly
import HandS.TryMany
import HandS.WordsExc
import HandS.Flow
import HandS.Walk
import HandS.Steps
import HandS.Evl
import HandS.Zip
import HandS.IsInst
import HandS.Wide
import HandS.TupAny
import HandS.RaiseMore
import HandS.Defaults
import HandS.More
import HandS.Head0
import HandS.Head1
import HandS.Head2
import HandS.HeadEnd
import HandS.HeadHook1
import HandS.HeadHook2
import HandS.HeadHook4
import HandS.Set
import HandS.Strs
import HandS.SetBool
import HandS.TupSets
import HandS.SetTxt0
import HandS.SetFor
import HandS.SetTxtIn
import PyProof.EnumMake
import KE.SortData
import HandS.MakeKwOnly
import HandS.Replace
import HandS.Dict
import HandS.Deep
import HandS.CallSlots
import HandS.Style
import KE.GoesEnum
import KE.GoesMore
import HandS.Conv
import HandS.Lambda
import HandS.EndTab
import HandS.HeadWalk
import HandS.NestedK
import HandS.DictComp
import HandS.DictTup
import HandS.Iter
import KE.KDictSum
import KE.DatumOrd
import KE.KUnpackStar
import HandS.OwnEq
import HandS.Codes
import HandS.HeadHook3
import KE.KDictDisplayH
import KE.KSortKey
import KE.SortKeyHeap
import HandS.SortKw
import HandS.Nested
import HandS.TupLen
import KE.DataMinMax
import KE.DatumMoreOrd
import HandS.Small
import PyProof.NeKinds
import HandS.TupMul
import KE.DatumIndex
import KE.KeyNested
import Wide.Once
import Lean
import HandS.Base
import HandS.Call
import HandS.Ends
import HandS.Words
import PySem.Challenge.RW_gulprow_k36_rows_that_stood_ahead
set_option autoImplicit true
set_option Elab.async false
set_option linter.all false
set_option maxRecDepth 100000
set_option maxHeartbeats 4000000
/-! # Exception classes over any of the built-in bases, made by their own __init__ -/
namespace Gk
open PySem PySem.Spec PyProof.Rows L2
open Builtin Builtin.ObjectAttr
/-- own classes, then the base's line -/
def ownT (tl : List Value) : List Value → Bool
  | .ref _ :: r => ownT tl r
  | l => l == tl
/-! ### rules -/
/-! ### what the head tells of such a class -/
def oexGB (K : PySem.W.Frag) (newId : String) (tl : List Value) (C : Addr) : Bool := match K.lookup C with
  | some ⟨.type t, _, .cls cd, sl⟩ => (match cd.mro, sl.toList with
    | .ref C' :: bm, [_, _, _, _, some (.builtin n), _] => decide (t = "type") && (decide (C' = C) && (decide (n = newId) && (!cd.hasDel && (cd.hasDict && ownT tl bm))))
    | _, _ => false)
  | _ => false
abbrev leT : List Value := [.type "LookupError", .type "Exception", .type "BaseException", .type "object"]
end Gk
set_option autoImplicit true
set_option Elab.async false
set_option linter.all false
set_option maxRecDepth 100000
set_option maxHeartbeats 4000000
/-! # The common part: facts of the top, callees, steps of readings -/
namespace Gk
open PySem PySem.Spec PyProof.Rows L2

/-! ## 1. Facts of the top beyond those of the modules -/
/-- an own exception class under ValueError, as ExcInit wants it -/
def oexB (K : PySem.W.Frag) (C : Addr) : Bool := match K.lookup C with
  | some ⟨.type t, _, .cls cd, sl⟩ => (match cd.mro, sl.toList with
    | .ref C' :: bm, [_, _, _, _, some (.builtin n), _] => decide (t = "type") && (decide (C' = C) && (decide (n = "ValueError.__new__") && (!cd.hasDel && (cd.hasDict && PySem.HandSPX.refsVE bm))))
    | _, _ => false)
  | _ => false
inductive Fx where
  /-- an exception class with an __init__ of its own -/
  | oex (x : Str)
  /-- .. over LookupError -/
  | oexL (x : Str)
  /-- the class is an exception's (what a clause names) -/
  | exc (x : Str)
  | field (x f : Str)
  | exm (x y : Str) (b : Bool)
  | str (x z : Str)
  | tup (x : Str) (vs : List He.Dv)
  /-- what isinstance asks of an own class -/
  | isC (x : Str)
  /-- two defs' tables of code objects stand apart -/
  | ptn (x y : Str)
def Fx.ok (K : PySem.W.Frag) : Fx → Bool
  | .oex x => oexB K (He.ga K x) && (decide (PySem.W.findIn K (.ref (He.ga K x)) "__setattr__" = some (some (.builtin "object.__setattr__"))) && (decide (PySem.W.subIn K (.ref (He.ga K x)) (.type "BaseException") = some true) && (decide (PySem.W.typeIn K (.ref (He.ga K x)) = some (.type "type")) &&
      (PySem.W.keepIn K (.ref (He.ga K x)) && (decide (PySem.W.findIn K (.ref (He.ga K x)) "__init__" = some (some (.ref (He.ma K (He.ga K x) "__init__")))) && (decide (PySem.W.typeIn K (.ref (He.ma K (He.ga K x) "__init__")) = some (.type "function")) && xfB K (He.ga K x)))))))
  | .oexL x => oexGB K "LookupError.__new__" leT (He.ga K x) && (decide (PySem.W.findIn K (.ref (He.ga K x)) "__setattr__" = some (some (.builtin "object.__setattr__"))) && (decide (PySem.W.subIn K (.ref (He.ga K x)) (.type "BaseException") = some true) && (decide (PySem.W.typeIn K (.ref (He.ga K x)) = some (.type "type")) &&
      (PySem.W.keepIn K (.ref (He.ga K x)) && (decide (PySem.W.findIn K (.ref (He.ga K x)) "__init__" = some (some (.ref (He.ma K (He.ga K x) "__init__")))) && (decide (PySem.W.typeIn K (.ref (He.ma K (He.ga K x) "__init__")) = some (.type "function")) && xfB K (He.ga K x)))))))
  | .exc x => decide (PySem.W.subIn K (.ref (He.ga K x)) (.type "BaseException") = some true) && decide (PySem.W.typeIn K (.ref (He.ga K x)) = some (.type "type"))
  | .field x f => decide (PySem.W.findIn K (.ref (He.ga K x)) f = some none)
  | .exm x y b => decide (PySem.W.exmOne K (.ref (He.ga K x)) (.ref (He.ga K y)) = some b)
  | .str x z => (match PySem.W.nsIn K mainGlobals x with
    | some (some (.str y _)) => decide (y = z)
    | _ => false)
  | .tup x vs => He.tupB K x vs
  | .ptn x y => decide ((He.cT K (x, none)).2 ≠ (He.cT K (y, none)).2)
  | .isC x => decide (PySem.W.findIn K (.ref (He.ga K x)) "__class__" = some (some (.builtin "object.__class__"))) && (decide (PySem.W.specialIn K (.builtin "object.__class__") "__get__" = some (some (.builtin "getset_descriptor.__get__"))) && (decide (PySem.W.takesIn K (.builtin "object.__class__") = some true) && (decide (PySem.W.mroIn K (He.ga K x) (.type "object") = some true) && decide (PySem.W.kitOne K (.ref (He.ga K x)) (.ref (He.ga K x)) = some true))))
/-! ## 2. The head's Hook -/
abbrev AlX : Type := Bool × List He.FnW
def obsX (fa : List He.Fa) (fx : List Fx) (fn : List He.DefD) (K : PySem.W.Frag) : AlX := ((fa.all fun f => f.ok K) && ((fx.all fun f => f.ok K) && fn.all fun d => d.ok K), fn.map fun d => He.fnW K d.at_)
def valX (fn : List He.DefD) : AlX := (true, fn.map He.DefD.val)
def SaysX (fa : List He.Fa) (fx : List Fx) (fn : List He.DefD) (K : PySem.W.Frag) : Prop := obsX fa fx fn K = valX fn
/-- the addresses that the top leads to, each once: by a mask of bits (eraseDups costs 5 GB of the run) -/
def dedB : List Addr → Nat → List Addr
  | [], _ => []
  | a :: r, m => match Nat.beq (Nat.land (Nat.shiftRight m a) 1) 1 with
    | true => dedB r m
    | false => a :: HandSHeadRun.frNat (Nat.lor m (Nat.shiftLeft 1 a)) fun m2 => dedB r m2
def growB (g : Addr → Option Obj) (as : List Addr) : List Addr := dedB (as ++ as.flatMap fun a => match g a with
  | some o => He.refsD o
  | none => []) 0
def asB (g : Addr → Option Obj) : Nat → List Addr
  | 0 => [mainGlobals]
  | n + 1 => growB g (asB g n)
end Gk
set_option Elab.async false
set_option autoImplicit false
set_option linter.all false
set_option maxRecDepth 100000
set_option maxHeartbeats 4000000
/-! # Sets of tuples whose items are ints and texts: adding, gathering, sorting; the set comprehension over any kind of set -/
set_option Elab.async false
set_option autoImplicit false
set_option linter.all false
set_option maxRecDepth 100000
set_option maxHeartbeats 4000000
set_option Elab.async false
set_option autoImplicit false
set_option linter.all false
set_option maxRecDepth 100000
set_option maxHeartbeats 4000000
/-! # Sets as things of the layer: rules and steps -/
set_option Elab.async false
set_option autoImplicit false
set_option linter.all false
set_option maxRecDepth 100000
set_option maxHeartbeats 4000000
/-! # Own classes, dicts, lists that grow: rules by name, steps -/
set_option Elab.async false
set_option autoImplicit false
set_option linter.all false
set_option maxRecDepth 100000
set_option maxHeartbeats 4000000
/-! # LookupErrors with a field, deep membership in tuples, while, slices by codes -/
set_option Elab.async false
set_option autoImplicit false
set_option linter.all false
set_option maxRecDepth 100000
set_option maxHeartbeats 4000000
/-! # enumerate over tuples, rows that are lists or tuples -/
set_option Elab.async false
set_option autoImplicit false
set_option linter.all false
set_option maxRecDepth 100000
set_option maxHeartbeats 4000000
/-! # lambdas without parameters, handed to a def that calls them; a Hook that tells empty tables -/
namespace Gk
open PySem PySem.Spec PyProof.Rows L2 LamX
/-! ## the Hook -/
structure SaysL (fa : List He.Fa) (fx : List Fx) (fn : List He.DefD) (tf : List He.Defn) (h : Heap) (K : PySem.W.Frag) : Prop where
  x : SaysX fa fx fn K
  hd : ∀ p ∈ tf, PySem.W.codeHdIn K (He.cT K p).1 (He.cT K p).2 = true
  out : ∀ p ∈ tf, K.lookup (He.cT K p).2 = none
  empty : ∀ p ∈ tf, h.get? (He.cT K p).2 = some { cls := .none, data := .fields #[] }
abbrev AlL : Type := AlX × Bool
def obsLG (n : Nat) (fa : List He.Fa) (fx : List Fx) (fn : List He.DefD) (tf : List He.Defn) (g : Addr → Option Obj) : AlL := (obsX fa fx fn (He.frT g (asB g n)), He.tabsB g tf (He.frT g (asB g n)))
theorem saysL_of {n : Nat} {fa : List He.Fa} {fx : List Fx} {fn : List He.DefD} {tf : List He.Defn} {h : Heap} (e : obsLG n fa fx fn tf h.get? = (valX fn, true)) : SaysL fa fx fn tf h (He.frT h.get? (asB h.get? n)) := by
  have e1 : obsX fa fx fn (He.frT h.get? (asB h.get? n)) = valX fn := congrArg (fun z : AlL => z.1) e
  have e2 : He.tabsB h.get? tf (He.frT h.get? (asB h.get? n)) = true := congrArg (fun z : AlL => z.2) e
  have key : ∀ p ∈ tf, PySem.W.codeHdIn (He.frT h.get? (asB h.get? n)) (He.cT (He.frT h.get? (asB h.get? n)) p).1 (He.cT (He.frT h.get? (asB h.get? n)) p).2 = true ∧ ∃ o, h.get? (He.cT (He.frT h.get? (asB h.get? n)) p).2 = some o ∧ He.emptyTab o = true := fun p hp => by
    obtain ⟨h3, h4⟩ := He.ba (List.all_eq_true.mp e2 p hp)
    refine ⟨h3, ?_⟩
    cases q : h.get? (He.cT (He.frT h.get? (asB h.get? n)) p).2 with
    | none =>
      rw [q] at h4
      cases h4
    | some o =>
      rw [q] at h4
      exact ⟨o, rfl, h4⟩
  exact ⟨e1, fun p hp => (key p hp).1, fun p hp => by
    obtain ⟨_, o, q, z⟩ := key p hp
    exact He.frT_none q z, fun p hp => by
    obtain ⟨_, o, q, z⟩ := key p hp
    rw [q, He.emptyTab_eq z]⟩
def hookL (n : Nat) (fa : List He.Fa) (fx : List Fx) (fn : List He.DefD) (tf : List He.Defn) : PySem.W.Hook where
  α := AlL
  obs := fun s => obsLG n fa fx fn tf s.heap.get?
  val := fun _ => (valX fn, true)
  says := fun _ h => ∃ K : PySem.W.Frag, K.In h ∧ SaysL fa fx fn tf h K
  of := fun _ _ e => ⟨_, He.frT_in, saysL_of e⟩
  keeps := fun _ _ _ ⟨K, hK, c⟩ k => ⟨K, PySem.W.Frag.In.keeps hK k, ⟨c.x, c.hd, c.out, fun p hp => k _ _ (c.empty p hp)⟩⟩
theorem obsLG_eq {n : Nat} {fa : List He.Fa} {fx : List Fx} {fn : List He.DefD} {tf : List He.Defn} {g : Addr → Option Obj} {s : Shared} (h : ∀ a, g a = s.heap.get? a) : obsLG n fa fx fn tf g = (hookL n fa fx fn tf).obs s := by
  have e : g = s.heap.get? := funext h
  rw [e] <;> rfl
end Gk
set_option autoImplicit true
set_option pp.maxSteps 1200
set_option Elab.async false
set_option linter.all false
set_option maxRecDepth 100000
set_option maxHeartbeats 1000000

namespace Lw
open PySem PySem.Spec PyProof.Rows L2 Gk
def top (i : Nat) : Stmt := PySem.Challenge.pw_gulprow_k36_rows_that_stood_ahead.main.body.getD i (.Pass ⟨0, 0, 0, 0⟩)
abbrev s_Lbag : Stmt := (top 42)
theorem sc_Lbag : FnScope ["_law_script", "_law_cells", "_law_knot", "_law_cell"] ["_law_script"] (defScope s_Lbag) := ⟨rfl, rfl, rfl, by decide +kernel, rfl, by decide +kernel, by decide +kernel⟩
abbrev s_Lpull : Stmt := (top 43)
theorem sc_Lpull : FnScope ["_law_bag_here", "_law_upto", "_law_drawn", "_law_seed", "_law_fold", "_law_twist"] ["_law_bag_here", "_law_upto"] (defScope s_Lpull) := ⟨rfl, rfl, rfl, by decide +kernel, rfl, by decide +kernel, by decide +kernel⟩
abbrev s_Lone : Stmt := (top 44)
theorem sc_Lone : FnScope ["_law_bag_here", "_law_row_here"] ["_law_bag_here", "_law_row_here"] (defScope s_Lone) := ⟨rfl, rfl, rfl, by decide +kernel, rfl, by decide +kernel, by decide +kernel⟩
abbrev s_Lsame : Stmt := (top 45)
theorem sc_Lsame : FnScope ["_law_found", "_law_due", "_law_same_here", "_law_one_here", "_law_other"] ["_law_found", "_law_due"] (defScope s_Lsame) := ⟨rfl, rfl, rfl, by decide +kernel, rfl, by decide +kernel, by decide +kernel⟩
abbrev s_Lletters : Stmt := (top 46)
theorem sc_Lletters : FnScope ["_law_bag_here", "_law_many", "_law_spot", "_law_step", "_law_k"] ["_law_bag_here", "_law_many"] (defScope s_Lletters) := ⟨rfl, rfl, rfl, by decide +kernel, rfl, by decide +kernel, by decide +kernel⟩
abbrev s_word_count : Stmt := (top 18)
theorem sc_word_count : FnScope ["letters", "most"] ["letters", "most"] (defScope s_word_count) := ⟨rfl, rfl, rfl, by decide +kernel, rfl, by decide +kernel, by decide +kernel⟩
abbrev s_need_letters : Stmt := (top 19)
theorem sc_need_letters : FnScope ["letters", "sign"] ["letters"] (defScope s_need_letters) := ⟨rfl, rfl, rfl, by decide +kernel, rfl, by decide +kernel, by decide +kernel⟩
abbrev s_need_table : Stmt := (top 20)
theorem sc_need_table : FnScope ["table", "many", "at", "row", "to"] ["table", "many"] (defScope s_need_table) := ⟨rfl, rfl, rfl, by decide +kernel, rfl, by decide +kernel, by decide +kernel⟩
abbrev s_need_eats : Stmt := (top 21)
theorem sc_need_eats : FnScope ["eats", "tastes", "at", "side", "one", "other"] ["eats", "tastes"] (defScope s_need_eats) := ⟨rfl, rfl, rfl, by decide +kernel, rfl, by decide +kernel, by decide +kernel⟩
abbrev s_House_init : Stmt := (inClass (top 22) 0)
theorem sc_House_init : FnScope ["self", "letters", "table", "eats", "chew", "put", "most", "cut", "row", "side", "one", "other", "sign"] ["self", "letters", "table", "eats", "chew", "put", "most", "cut"] (defScope s_House_init) := ⟨rfl, rfl, rfl, by decide +kernel, rfl, by decide +kernel, by decide +kernel⟩
abbrev s_House_letters : Stmt := (inClass (top 22) 6)
theorem sc_House_letters : FnScope ["self"] ["self"] (defScope s_House_letters) := ⟨rfl, rfl, rfl, by decide +kernel, rfl, by decide +kernel, by decide +kernel⟩
abbrev s_House_most : Stmt := (inClass (top 22) 11)
theorem sc_House_most : FnScope ["self"] ["self"] (defScope s_House_most) := ⟨rfl, rfl, rfl, by decide +kernel, rfl, by decide +kernel, by decide +kernel⟩
abbrev s_House_tasted : Stmt := (inClass (top 22) 13)
theorem sc_House_tasted : FnScope ["self", "word", "here", "sign"] ["self", "word"] (defScope s_House_tasted) := ⟨rfl, rfl, rfl, by decide +kernel, rfl, by decide +kernel, by decide +kernel⟩
abbrev s_House_chew : Stmt := (inClass (top 22) 9)
theorem sc_House_chew : FnScope ["self"] ["self"] (defScope s_House_chew) := ⟨rfl, rfl, rfl, by decide +kernel, rfl, by decide +kernel, by decide +kernel⟩
abbrev s_House_put : Stmt := (inClass (top 22) 10)
theorem sc_House_put : FnScope ["self"] ["self"] (defScope s_House_put) := ⟨rfl, rfl, rfl, by decide +kernel, rfl, by decide +kernel, by decide +kernel⟩
abbrev s_House_cut : Stmt := (inClass (top 22) 12)
theorem sc_House_cut : FnScope ["self"] ["self"] (defScope s_House_cut) := ⟨rfl, rfl, rfl, by decide +kernel, rfl, by decide +kernel, by decide +kernel⟩
abbrev s_is_word : Stmt := (top 27)
theorem sc_is_word : FnScope ["house", "text", "sign"] ["house", "text"] (defScope s_is_word) := ⟨rfl, rfl, rfl, by decide +kernel, rfl, by decide +kernel, by decide +kernel⟩
abbrev s_words : Stmt := (top 30)
theorem sc_words : FnScope ["house", "found", "last", "size", "word", "sign"] ["house"] (defScope s_words) := ⟨rfl, rfl, rfl, by decide +kernel, rfl, by decide +kernel, by decide +kernel⟩
abbrev s_BadWord_init : Stmt := (inClass (top 9) 0)
theorem sc_BadWord_init : FnScope ["self", "at"] ["self", "at"] (defScope s_BadWord_init) := ⟨rfl, rfl, rfl, by decide +kernel, rfl, by decide +kernel, by decide +kernel⟩
abbrev s_need_row : Stmt := (top 31)
theorem sc_need_row : FnScope ["house", "row", "at", "word"] ["house", "row"] (defScope s_need_row) := ⟨rfl, rfl, rfl, by decide +kernel, rfl, by decide +kernel, by decide +kernel⟩
abbrev s_cut_long : Stmt := (top 33)
theorem sc_cut_long : FnScope ["house", "long", "found", "left"] ["house", "long"] (defScope s_cut_long) := ⟨rfl, rfl, rfl, by decide +kernel, rfl, by decide +kernel, by decide +kernel⟩
abbrev s_grown : Stmt := (top 34)
theorem sc_grown : FnScope ["house", "eater", "eaten", "side"] ["house", "eater", "eaten", "side"] (defScope s_grown) := ⟨rfl, rfl, rfl, by decide +kernel, rfl, by decide +kernel, by decide +kernel⟩
abbrev s_behind : Stmt := (top 35)
theorem sc_behind : FnScope ["house", "row", "place", "side", "other", "eater", "eaten", "low", "made"] ["house", "row", "place", "side"] (defScope s_behind) := ⟨rfl, rfl, rfl, by decide +kernel, rfl, by decide +kernel, by decide +kernel⟩
abbrev s_word_rank : Stmt := (top 28)
theorem sc_word_rank : FnScope ["word"] ["word"] (defScope s_word_rank) := ⟨rfl, rfl, rfl, by decide +kernel, rfl, by decide +kernel, by decide +kernel⟩
abbrev s_row_rank : Stmt := (top 29)
theorem sc_row_rank : FnScope ["row", "word"] ["row"] (defScope s_row_rank) := ⟨rfl, rfl, rfl, by decide +kernel, rfl, by decide +kernel, by decide +kernel⟩
abbrev s_eaten_of : Stmt := (top 37)
theorem sc_eaten_of : FnScope ["house", "rest", "side", "many", "word"] ["house", "rest", "side"] (defScope s_eaten_of) := ⟨rfl, rfl, rfl, by decide +kernel, rfl, by decide +kernel, by decide +kernel⟩
abbrev s_parted_long : Stmt := (top 38)
theorem sc_parted_long : FnScope ["house", "long", "side", "put", "found", "size", "low", "eater", "rest", "edge", "high", "word"] ["house", "long", "side"] (defScope s_parted_long) := ⟨rfl, rfl, rfl, by decide +kernel, rfl, by decide +kernel, by decide +kernel⟩
abbrev s_ahead_of : Stmt := (top 39)
theorem sc_ahead_of : FnScope ["house", "row", "found", "low", "high", "some", "long", "side", "eater", "eaten", "pair", "place", "elder"] ["house", "row"] (defScope s_ahead_of) := ⟨rfl, rfl, rfl, by decide +kernel, rfl, by decide +kernel, by decide +kernel⟩
abbrev s_ahead : Stmt := (top 40)
theorem sc_ahead : FnScope ["house", "row", "elder", "place", "side"] ["house", "row"] (defScope s_ahead) := ⟨rfl, rfl, rfl, by decide +kernel, rfl, by decide +kernel, by decide +kernel⟩
abbrev s_Lmeasures : Stmt := (top 47)
theorem sc_Lmeasures : FnScope ["_law_bag_here", "_law_sort", "_law_some"] ["_law_bag_here", "_law_sort"] (defScope s_Lmeasures) := ⟨rfl, rfl, rfl, by decide +kernel, rfl, by decide +kernel, by decide +kernel⟩
abbrev s_Lhouse : Stmt := (top 48)
theorem sc_Lhouse : FnScope ["_law_bag_here", "_law_sort", "_law_most_words", "_law_many", "_law_sizes", "_law_letters_here", "_law_longest", "_law_rooms", "_law_table", "_law_triples", "_law_k", "_law_chewing", "_law_plus", "_law_m", "_law_size", "_law_row_here", "_law_sign"] ["_law_bag_here", "_law_sort", "_law_most_words"] (defScope s_Lhouse) := ⟨rfl, rfl, rfl, by decide +kernel, rfl, by decide +kernel, by decide +kernel⟩
abbrev s_Lmade : Stmt := (top 49)
theorem sc_Lmade : FnScope ["_law_m", "_law_table", "_law_triples", "_law_row_here"] ["_law_m"] (defScope s_Lmade) := ⟨rfl, rfl, rfl, by decide +kernel, rfl, by decide +kernel, by decide +kernel⟩
abbrev s_Lwords : Stmt := (top 50)
theorem sc_Lwords : FnScope ["_law_m", "_law_found", "_law_last", "_law_size", "_law_longer", "_law_word", "_law_sign"] ["_law_m"] (defScope s_Lwords) := ⟨rfl, rfl, rfl, by decide +kernel, rfl, by decide +kernel, by decide +kernel⟩
abbrev s_Ltaste : Stmt := (top 51)
theorem sc_Ltaste : FnScope ["_law_m", "_law_word", "_law_here", "_law_sign"] ["_law_m", "_law_word"] (defScope s_Ltaste) := ⟨rfl, rfl, rfl, by decide +kernel, rfl, by decide +kernel, by decide +kernel⟩
abbrev s_Lcut : Stmt := (top 52)
theorem sc_Lcut : FnScope ["_law_m", "_law_long", "_law_found", "_law_left"] ["_law_m", "_law_long"] (defScope s_Lcut) := ⟨rfl, rfl, rfl, by decide +kernel, rfl, by decide +kernel, by decide +kernel⟩
abbrev s_Lgrown : Stmt := (top 53)
theorem sc_Lgrown : FnScope ["_law_m", "_law_eater", "_law_eaten", "_law_edge", "_law_rest", "_law_k"] ["_law_m", "_law_eater", "_law_eaten", "_law_edge"] (defScope s_Lgrown) := ⟨rfl, rfl, rfl, by decide +kernel, rfl, by decide +kernel, by decide +kernel⟩
abbrev s_Lbehind : Stmt := (top 54)
theorem sc_Lbehind : FnScope ["_law_m", "_law_row_here", "_law_place", "_law_edge", "_law_other", "_law_low", "_law_made_here"] ["_law_m", "_law_row_here", "_law_place", "_law_edge"] (defScope s_Lbehind) := ⟨rfl, rfl, rfl, by decide +kernel, rfl, by decide +kernel, by decide +kernel⟩
abbrev s_Lbites : Stmt := (top 55)
theorem sc_Lbites : FnScope ["_law_m", "_law_row_here", "_law_found", "_law_place", "_law_edge"] ["_law_m", "_law_row_here"] (defScope s_Lbites) := ⟨rfl, rfl, rfl, by decide +kernel, rfl, by decide +kernel, by decide +kernel⟩
abbrev s_Lrow : Stmt := (top 56)
theorem sc_Lrow : FnScope ["_law_bag_here", "_law_m", "_law_most_words", "_law_shelf", "_law_k"] ["_law_bag_here", "_law_m", "_law_most_words"] (defScope s_Lrow) := ⟨rfl, rfl, rfl, by decide +kernel, rfl, by decide +kernel, by decide +kernel⟩
abbrev s_Lrank : Stmt := (top 57)
theorem sc_Lrank : FnScope ["_law_row_here", "_law_word"] ["_law_row_here"] (defScope s_Lrank) := ⟨rfl, rfl, rfl, by decide +kernel, rfl, by decide +kernel, by decide +kernel⟩
abbrev s_law : Stmt := (top 58)
theorem sc_law : FnScope ["_law_script", "_law_bag_here", "_law_m", "_law_house_here", "_law_shelf", "_law_rows", "_law_known", "_law_many", "_law_k", "_law_row_here", "_law_longer", "_law_handed", "_law_due", "_law_again", "_law_place", "_law_edge", "_law_found", "_law_one_here", "_law_there", "_law_word"] ["_law_script"] (defScope s_law) := ⟨rfl, rfl, rfl, by decide +kernel, rfl, by decide +kernel, by decide +kernel⟩
def dd0 : He.DefD := ⟨("_law_bag", none), "_law_bag", "_law_bag", defArgs s_Lbag, defBody s_Lbag, defScope s_Lbag, [], []⟩
def dd1 : He.DefD := ⟨("_law_pull", none), "_law_pull", "_law_pull", defArgs s_Lpull, defBody s_Lpull, defScope s_Lpull, [], []⟩
def dd2 : He.DefD := ⟨("_law_one", none), "_law_one", "_law_one", defArgs s_Lone, defBody s_Lone, defScope s_Lone, [], []⟩
def dd3 : He.DefD := ⟨("_law_same", none), "_law_same", "_law_same", defArgs s_Lsame, defBody s_Lsame, defScope s_Lsame, [], []⟩
def dd4 : He.DefD := ⟨("_law_letters", none), "_law_letters", "_law_letters", defArgs s_Lletters, defBody s_Lletters, defScope s_Lletters, [], []⟩
def dd5 : He.DefD := ⟨("word_count", none), "word_count", "word_count", defArgs s_word_count, defBody s_word_count, defScope s_word_count, [], []⟩
def dd6 : He.DefD := ⟨("need_letters", none), "need_letters", "need_letters", defArgs s_need_letters, defBody s_need_letters, defScope s_need_letters, [], []⟩
def dd7 : He.DefD := ⟨("need_table", none), "need_table", "need_table", defArgs s_need_table, defBody s_need_table, defScope s_need_table, [], []⟩
def dd8 : He.DefD := ⟨("need_eats", none), "need_eats", "need_eats", defArgs s_need_eats, defBody s_need_eats, defScope s_need_eats, [], []⟩
def dd9 : He.DefD := ⟨("House", some "__init__"), "__init__", "House.__init__", defArgs s_House_init, defBody s_House_init, defScope s_House_init, [], [("chew", .int 0)]⟩
def dd10 : He.DefD := ⟨("House", some "letters"), "letters", "House.letters", defArgs s_House_letters, defBody s_House_letters, defScope s_House_letters, [], []⟩
def dd11 : He.DefD := ⟨("House", some "most"), "most", "House.most", defArgs s_House_most, defBody s_House_most, defScope s_House_most, [], []⟩
def dd12 : He.DefD := ⟨("House", some "tasted"), "tasted", "House.tasted", defArgs s_House_tasted, defBody s_House_tasted, defScope s_House_tasted, [], []⟩
def dd13 : He.DefD := ⟨("House", some "chew"), "chew", "House.chew", defArgs s_House_chew, defBody s_House_chew, defScope s_House_chew, [], []⟩
def dd14 : He.DefD := ⟨("House", some "put"), "put", "House.put", defArgs s_House_put, defBody s_House_put, defScope s_House_put, [], []⟩
def dd15 : He.DefD := ⟨("House", some "cut"), "cut", "House.cut", defArgs s_House_cut, defBody s_House_cut, defScope s_House_cut, [], []⟩
def dd16 : He.DefD := ⟨("is_word", none), "is_word", "is_word", defArgs s_is_word, defBody s_is_word, defScope s_is_word, [], []⟩
def dd17 : He.DefD := ⟨("words", none), "words", "words", defArgs s_words, defBody s_words, defScope s_words, [], []⟩
def dd18 : He.DefD := ⟨("BadWord", some "__init__"), "__init__", "BadWord.__init__", defArgs s_BadWord_init, defBody s_BadWord_init, defScope s_BadWord_init, [], []⟩
def dd19 : He.DefD := ⟨("need_row", none), "need_row", "need_row", defArgs s_need_row, defBody s_need_row, defScope s_need_row, [], []⟩
def dd20 : He.DefD := ⟨("cut_long", none), "cut_long", "cut_long", defArgs s_cut_long, defBody s_cut_long, defScope s_cut_long, [], []⟩
def dd21 : He.DefD := ⟨("grown", none), "grown", "grown", defArgs s_grown, defBody s_grown, defScope s_grown, [], []⟩
def dd22 : He.DefD := ⟨("behind", none), "behind", "behind", defArgs s_behind, defBody s_behind, defScope s_behind, [], []⟩
def dd23 : He.DefD := ⟨("word_rank", none), "word_rank", "word_rank", defArgs s_word_rank, defBody s_word_rank, defScope s_word_rank, [], []⟩
def dd24 : He.DefD := ⟨("row_rank", none), "row_rank", "row_rank", defArgs s_row_rank, defBody s_row_rank, defScope s_row_rank, [], []⟩
def dd25 : He.DefD := ⟨("eaten_of", none), "eaten_of", "eaten_of", defArgs s_eaten_of, defBody s_eaten_of, defScope s_eaten_of, [], []⟩
def dd26 : He.DefD := ⟨("parted_long", none), "parted_long", "parted_long", defArgs s_parted_long, defBody s_parted_long, defScope s_parted_long, [], []⟩
def dd27 : He.DefD := ⟨("ahead_of", none), "ahead_of", "ahead_of", defArgs s_ahead_of, defBody s_ahead_of, defScope s_ahead_of, [], []⟩
def dd28 : He.DefD := ⟨("ahead", none), "ahead", "ahead", defArgs s_ahead, defBody s_ahead, defScope s_ahead, [], []⟩
def dd29 : He.DefD := ⟨("_law_measures", none), "_law_measures", "_law_measures", defArgs s_Lmeasures, defBody s_Lmeasures, defScope s_Lmeasures, [], []⟩
def dd30 : He.DefD := ⟨("_law_house", none), "_law_house", "_law_house", defArgs s_Lhouse, defBody s_Lhouse, defScope s_Lhouse, [], []⟩
def dd31 : He.DefD := ⟨("_law_made", none), "_law_made", "_law_made", defArgs s_Lmade, defBody s_Lmade, defScope s_Lmade, [], []⟩
def dd32 : He.DefD := ⟨("_law_words", none), "_law_words", "_law_words", defArgs s_Lwords, defBody s_Lwords, defScope s_Lwords, [], []⟩
def dd33 : He.DefD := ⟨("_law_taste", none), "_law_taste", "_law_taste", defArgs s_Ltaste, defBody s_Ltaste, defScope s_Ltaste, [], []⟩
def dd34 : He.DefD := ⟨("_law_cut", none), "_law_cut", "_law_cut", defArgs s_Lcut, defBody s_Lcut, defScope s_Lcut, [], []⟩
def dd35 : He.DefD := ⟨("_law_grown", none), "_law_grown", "_law_grown", defArgs s_Lgrown, defBody s_Lgrown, defScope s_Lgrown, [], []⟩
def dd36 : He.DefD := ⟨("_law_behind", none), "_law_behind", "_law_behind", defArgs s_Lbehind, defBody s_Lbehind, defScope s_Lbehind, [], []⟩
def dd37 : He.DefD := ⟨("_law_bites", none), "_law_bites", "_law_bites", defArgs s_Lbites, defBody s_Lbites, defScope s_Lbites, [], []⟩
def dd38 : He.DefD := ⟨("_law_row", none), "_law_row", "_law_row", defArgs s_Lrow, defBody s_Lrow, defScope s_Lrow, [], []⟩
def dd39 : He.DefD := ⟨("_law_rank", none), "_law_rank", "_law_rank", defArgs s_Lrank, defBody s_Lrank, defScope s_Lrank, [], []⟩
def dd40 : He.DefD := ⟨("law", none), "law", "law", defArgs s_law, defBody s_law, defScope s_law, [], []⟩
def fn : List He.DefD := [dd0, dd1, dd2, dd3, dd4, dd5, dd6, dd7, dd8, dd9, dd10, dd11, dd12, dd13, dd14, dd15, dd16, dd17, dd18, dd19, dd20, dd21, dd22, dd23, dd24, dd25, dd26, dd27, dd28, dd29, dd30, dd31, dd32, dd33, dd34, dd35, dd36, dd37, dd38, dd39, dd40]
def fa : List He.Fa := [.glo "BadWord", .glo "House", .glo "SIDES", .glo "_law_bag", .glo "_law_behind", .glo "_law_bites", .glo "_law_cut", .glo "_law_grown", .glo "_law_house", .glo "_law_letters", .glo "_law_made", .glo "_law_measures", .glo "_law_one", .glo "_law_pull", .glo "_law_rank", .glo "_law_row", .glo "_law_same", .glo "_law_taste", .glo "_law_words", .glo "ahead", .glo "ahead_of", .glo "behind", .glo "cut_long", .glo "eaten_of", .glo "grown", .glo "is_word", .glo "law", .glo "need_eats", .glo "need_letters", .glo "need_row", .glo "need_table", .glo "parted_long", .glo "row_rank", .glo "word_count", .glo "word_rank", .glo "words", .free "all", .free "enumerate", .free "isinstance", .free "len", .free "list", .free "max", .free "min", .free "range", .free "repr", .free "set", .free "sorted", .free "sum", .free "tuple", .free "zip", .int "MOST_ROW" 12, .int "MOST_TASTES" 4, .int "MOST_WORDS" 14, .str "SMALL" "abcdefghijklmnopqrstuvwxyz", .cls "House", .mkr "House", .noat "House" "signs", .noat "House" "rooms", .noat "House" "triples", .noat "House" "chewed", .noat "House" "putting", .noat "House" "span", .noat "House" "cutting", .meth "House" "letters", .meth "House" "most", .meth "House" "tasted", .meth "House" "chew", .meth "House" "put", .meth "House" "cut"]
def fx : List Fx := [.tup "SIDES" [.str "left", .str "right"], .oex "BadWord", .field "BadWord" "word", .field "BadWord" "at", .ptn "ahead_of" "law", .ptn "law" "ahead_of"]
abbrev R : PySem.W.OpenRow := PySem.W.OpenLaw.row PySem.Challenge.rw_gulprow_k36_rows_that_stood_ahead
abbrev hk : PySem.W.Hook := hookL 6 fa fx fn [(("ahead_of" : Str), (none : Option Str)), (("law" : Str), (none : Option Str))]
def ob (s : PySem.W.SharedT) : AlL := obsLG 6 fa fx fn [(("ahead_of" : Str), (none : Option Str)), (("law" : Str), (none : Option Str))] (HandSHeadRun.getT s)
theorem ob_eq (s : PySem.W.SharedT) : ob s = hk.obs s.abs := obsLG_eq (HandSHeadRun.getT_eq s)
abbrev loose : List PySem.Str := ("GulpError" : PySem.Str) :: ("BadLetters" : PySem.Str) :: ("BadTable" : PySem.Str) :: ("BadEat" : PySem.Str) :: ("BadChew" : PySem.Str) :: ("BadPut" : PySem.Str) :: ("BadMost" : PySem.Str) :: ("BadCut" : PySem.Str) :: ("BadWord" : PySem.Str) :: ("MOST" : PySem.Str) :: ("CUT" : PySem.Str) :: ("MOST_WORDS" : PySem.Str) :: ("MOST_TASTES" : PySem.Str) :: ("SMALL" : PySem.Str) :: ("SIDES" : PySem.Str) :: ("MARKS" : PySem.Str) :: ("word_count" : PySem.Str) :: ("need_letters" : PySem.Str) :: ("need_table" : PySem.Str) :: ("need_eats" : PySem.Str) :: ("House" : PySem.Str) :: ("table_text" : PySem.Str) :: ("eats_text" : PySem.Str) :: ("MOST_ROW" : PySem.Str) :: ("is_word" : PySem.Str) :: ("word_rank" : PySem.Str) :: ("row_rank" : PySem.Str) :: ("words" : PySem.Str) :: ("need_row" : PySem.Str) :: ("cut_long" : PySem.Str) :: ("grown" : PySem.Str) :: ("behind" : PySem.Str) :: ("eaten_of" : PySem.Str) :: ("parted_long" : PySem.Str) :: ("ahead_of" : PySem.Str) :: ("ahead" : PySem.Str) :: ("_law_bag" : PySem.Str) :: ("_law_pull" : PySem.Str) :: ("_law_one" : PySem.Str) :: ("_law_same" : PySem.Str) :: ("_law_letters" : PySem.Str) :: ("_law_measures" : PySem.Str) :: ("_law_house" : PySem.Str) :: ("_law_made" : PySem.Str) :: ("_law_words" : PySem.Str) :: ("_law_taste" : PySem.Str) :: ("_law_cut" : PySem.Str) :: ("_law_grown" : PySem.Str) :: ("_law_behind" : PySem.Str) :: ("_law_bites" : PySem.Str) :: ("_law_row" : PySem.Str) :: ("_law_rank" : PySem.Str) :: []
theorem run0 (w : World) : HandSHeadRun.RunEq R (PySem.W.view R.prog [58]) hk ob 30000 Lw.loose (w.withFollow "special-get-raises" false) := by
  intro os
  kernel_rfl
theorem run1 (w : World) : HandSHeadRun.RunEq R (PySem.W.view R.prog [58]) hk ob 30000 Lw.loose (w.withFollow "special-get-raises" true) := by
  intro os
  kernel_rfl
theorem run (w : World) : HandSHeadRun.RunEq R (PySem.W.view R.prog [58]) hk ob 30000 Lw.loose w := PySem.W.byRow2 "special-get-raises" (P := fun w => HandSHeadRun.RunEq R (PySem.W.view R.prog [58]) hk ob 30000 Lw.loose w) run0 run1 w
end Lw
section
open PySem PySem.W PySem.Calls PyProof.Rows HandSHeadRun
theorem Lw.pre (call : PySem.W.WalkO (view (OpenLaw.row PySem.Challenge.rw_gulprow_k36_rows_that_stood_ahead).prog [58]) Lw.loose (XL (view (OpenLaw.row PySem.Challenge.rw_gulprow_k36_rows_that_stood_ahead).prog [58]) []) Lw.hk.says (OpenLaw.row PySem.Challenge.rw_gulprow_k36_rows_that_stood_ahead).toRowW (HandSHeadRun.topDef (OpenLaw.row PySem.Challenge.rw_gulprow_k36_rows_that_stood_ahead).prog 58) [] fun f vs => PySem.call f vs) : PySem.Challenge.rw_gulprow_k36_rows_that_stood_ahead.Holds := by
  w_on; o_law
  refine HandSHeadRun.head_any (r := OpenLaw.row PySem.Challenge.rw_gulprow_k36_rows_that_stood_ahead) (q := view (OpenLaw.row PySem.Challenge.rw_gulprow_k36_rows_that_stood_ahead).prog [58]) (H := Lw.hk) (ob := Lw.ob) (M := 30000) (loose := Lw.loose) (d := HandSHeadRun.topDef (OpenLaw.row PySem.Challenge.rw_gulprow_k36_rows_that_stood_ahead).prog 58) (kwd := []) Lw.ob_eq
    (by kernel_rfl) (fun s => by kernel_rfl) Lw.run (by kernel_rfl) (by kernel_rfl) (by kernel_rfl) (by rfl) (by first | assumption | decide +kernel) (by decide +kernel) ⟨rfl, rfl, rfl, rfl, rfl, by decide +kernel⟩ ?hw ?hc
  case hw => w_witness2
  case hc => exact call
end
set_option autoImplicit true
set_option Elab.async false
set_option linter.all false
set_option maxRecDepth 100000
set_option maxHeartbeats 4000000
/-! # Exception classes over any of the built-in bases, made by their own __init__ -/
namespace Gk
open PySem PySem.Spec PyProof.Rows L2
open Builtin Builtin.ObjectAttr
section
variable {tl : List Value} {B newId initId : String}
end
section
open PySem.W PySem.Calls PySem.HandSPX
variable {tl : List Value} {B newId initId : String} {prog : Program} {w : World} {A : Around} {R : Result → Shared → Prop} {hp : Heap} {g : Array GenState} {d : Drawn} {t : Nat} {os : OsState} {K : W.Frag} {fn : Str} {tk : Tok} {v : Value} {x C : Addr} {fv : Array Value} {nm q : Str} {bs sub : List Value} {N : Addr} {sn : List Str} {ab : Bool} {col : Option Bool} {cs : List Addr}
end
section
variable {X : Cx} {pins : List (Addr × Obj)} {σ : L2.St} {H : Hp} {s : Shared} {a C dx : Addr} {f : Str} {y : V} {u : Value} {fs : List (Str × V)} {A : Around} {tl : List Value} {B newId initId : String}
end
/-! ### rules -/
section
variable {X : Cx} {o e : Expr} {es : List Expr} {to te : TE} {ta : TA} {f : Str} {p p' pos : Pos} {tl : List Value} {B newId initId : String}
end
/-! ### what the head tells of such a class -/
end Gk
set_option autoImplicit true
set_option Elab.async false
set_option linter.all false
set_option maxRecDepth 100000
set_option maxHeartbeats 4000000
/-! # The common part: facts of the top, callees, steps of readings -/
namespace Gk
open PySem PySem.Spec PyProof.Rows L2

/-! ## 1. Facts of the top beyond those of the modules -/
theorem oexB_ok {K : PySem.W.Frag} {C : Addr} (q : oexB K C = true) :
    ∃ nm q N bs bm sn sub ab col dd k0 k1 k2 k3 k5, K.lookup C = some (excClassObj nm q C N bs bm true sn sub ab col dd k0 k1 k2 k3 k5 "ValueError.__new__") ∧ PySem.HandSPX.refsVE bm = true := by
  unfold oexB at q
  split at q
  · rename_i t dd cd sl ho
    split at q
    · rename_i C' bm k0 k1 k2 k3 n k5 hm hs
      simp only [Bool.and_eq_true, decide_eq_true_eq, Bool.not_eq_true'] at q
      obtain ⟨rfl, rfl, rfl, hdel, hdct, ht⟩ := q
      obtain ⟨nm, bs, mro, ns, qn, hd, sn, sub, ab, col, del⟩ := cd
      dsimp only at hm hdel hdct
      subst hm hdel hdct
      have hsl : sl = #[k0, k1, k2, k3, some (.builtin "ValueError.__new__"), k5] := by
        obtain ⟨l⟩ := sl
        simp only at hs
        rw [hs]
      subst hsl
      exact ⟨nm, qn, ns, bs, bm, sn, sub, ab, col, dd, k0, k1, k2, k3, k5, ho, ht⟩
    · cases q
  · cases q
/-- an exception class of the text, made by its own __init__ -/
structure Oex (K : PySem.W.Frag) (C fI : Addr) : Prop where
  T : OexC K C
  iC : PySem.W.findIn K (.ref C) "__init__" = some (some (.ref fI))
  tI : PySem.W.typeIn K (.ref fI) = some (.type "function")
  F : XfC K C
theorem ba {a b : Bool} (h : (a && b) = true) : a = true ∧ b = true := Bool.and_eq_true_iff.mp h
theorem oex_ok {K : PySem.W.Frag} {x : Str} (h : (Fx.oex x).ok K = true) : Oex K (He.ga K x) (He.ma K (He.ga K x) "__init__") := by
  obtain ⟨h1, h⟩ := ba h
  obtain ⟨h2, h⟩ := ba h
  obtain ⟨h3, h⟩ := ba h
  obtain ⟨h4, h⟩ := ba h
  obtain ⟨h5, h⟩ := ba h
  obtain ⟨h6, h⟩ := ba h
  obtain ⟨h7, h8⟩ := ba h
  exact ⟨⟨oexB_ok h1, of_decide_eq_true h2, of_decide_eq_true h3, of_decide_eq_true h4, h5⟩, of_decide_eq_true h6, of_decide_eq_true h7, xfB_ok h8⟩
/-! ## 2. The head's Hook -/
section
variable {fa : List He.Fa} {fx : List Fx} {fn : List He.DefD} {K : PySem.W.Frag}
theorem SaysX.fact (c : SaysX fa fx fn K) (i : Nat) {f : He.Fa} (h : fa[i]? = some f := by rfl) : f.ok K = true := by
  have c1 := (ba (show ((fa.all fun f => f.ok K) && ((fx.all fun f => f.ok K) && fn.all fun d => d.ok K)) = true from congrArg (fun z : AlX => z.1) c)).1
  exact List.all_eq_true.mp c1 f (List.mem_of_getElem? h)
theorem SaysX.more (c : SaysX fa fx fn K) (i : Nat) {f : Fx} (h : fx[i]? = some f := by rfl) : f.ok K = true := by
  have c1 := (ba (ba (show ((fa.all fun f => f.ok K) && ((fx.all fun f => f.ok K) && fn.all fun d => d.ok K)) = true from congrArg (fun z : AlX => z.1) c)).2).1
  exact List.all_eq_true.mp c1 f (List.mem_of_getElem? h)
theorem SaysX.def_ (c : SaysX fa fx fn K) (i : Nat) {d : He.DefD} (h : fn[i]? = some d := by rfl) : ∃ fd, FunD K d.name d.qual d.params d.body d.scope (d.dvs K) (d.kws K) (He.fAd K d.at_) fd := by
  have c2 := (ba (ba (show ((fa.all fun f => f.ok K) && ((fx.all fun f => f.ok K) && fn.all fun d => d.ok K)) = true from congrArg (fun z : AlX => z.1) c)).2).2
  have e : fn.map (fun d => He.fnW K d.at_) = fn.map He.DefD.val := congrArg (fun z : AlX => z.2) c
  have e2 : (fn.map fun d => He.fnW K d.at_)[i]? = (fn.map He.DefD.val)[i]? := by rw [e]
  rw [List.getElem?_map, List.getElem?_map, h] at e2
  exact He.DefD.funD (Option.some.inj e2) (List.all_eq_true.mp c2 d (List.mem_of_getElem? h))
end

/-! ## 3. Callees -/
/-- the module's name x stands for a def that keeps sp, called with its last arguments dvs left out -/
structure Callee (P : Program) (w : World) (K : PySem.W.Frag) (mg : Str → Option Value) (base : Heap) (CX : CXT) (x : Str) (k : Nat) (dvs : List V) (sp : Sp) : Prop where
  ex : ∃ f fd ps ds, FnOk P w K mg base CX k f fd ps sp ∧ mg x = some (.ref f) ∧ PySem.W.keepIn K (.ref f) = true ∧ Binds K fd ps ds ∧ Vals dvs ds
section
variable {X : Cx} {CX : CXT} {k j : Nat} {sp : Sp} {dvs : List V} {E : XK} {x : Str} {p pos : Pos} {e : Expr} {es : List Expr} {t : TA}
theorem pe_cl (C : Callee X.prog X.w X.K X.mg X.base CX x k dvs sp) (hr : Room j X.A) (ha : PA X (e :: es) t) (hx : Passes CX X E) (hj : k ≤ j := by first | decide | omega) (hg : Gl X x := by rfl) (hdb : (x == ("__debug__" : Str)) = false := by decide)
    (he : starEach (e :: es) X.env = (false, eval e X.env) :: starEach es X.env := by rfl) (hpl : (backTo pos (starEach es X.env)).any (·.1) = false := by rfl) : PE X (.Call (.Name x p) (e :: es) [] pos) (tCall sp dvs E t) := by
  obtain ⟨f, fd, ps, ds, F, hm, hk, hb, hd⟩ := C.ex
  exact pe_call F (hr.mono hj) hg hm hk hb hd hx ha hdb he hpl
end

/-! ## 4. Heaps -/
theorem sm_new {H : Hp} {p : Addr} {o : HO} (h : H p = none) : Same H (upd H p o) := fun a u e => by
  rw [upd_ne (ne_of_none e h)]
  exact e
theorem sm_mut {H H' : Hp} {p : Addr} {o : HO} (e : Same H H') (h : H p = none) : Same H (upd H' p o) := fun a u ha => by
  rw [upd_ne (ne_of_none ha h)]
  exact e a u ha
theorem sm_rd {H H' : Hp} {a : Addr} {u : HO} (e : Same H H') (h : Rd H a u) : Rd H' a u := by
  rcases h with h | ⟨o, h⟩
  · exact Or.inl (e a _ h)
  · exact Or.inr ⟨o, e a _ h⟩
theorem sm_l {K : PySem.W.Frag} {H H' : Hp} {a : Addr} {xs : List V} (e : Same H H') (h : SqL K H a xs) : SqL K H' a xs := by
  rcases h with h | h
  · exact Or.inl (sm_rd e h)
  · exact Or.inr h
theorem sm_t {K : PySem.W.Frag} {H H' : Hp} {a : Addr} {xs : List V} (e : Same H H') (h : SqT K H a xs) : SqT K H' a xs := by
  rcases h with h | h
  · exact Or.inl (sm_rd e h)
  · exact Or.inr h
theorem sq_l {K : PySem.W.Frag} {H : Hp} {a : Addr} {xs : List V} (h : H a = some (.lst xs)) : SqL K H a xs := Or.inl (Or.inl h)
theorem sq_t {K : PySem.W.Frag} {H : Hp} {a : Addr} {xs : List V} (h : H a = some (.tup xs)) : SqT K H a xs := Or.inl (Or.inl h)
mutual
theorem dp_sm {K : PySem.W.Frag} {H H' : Hp} (e : Same H H') : ∀ {v : V} {d : PyData}, Dp K H v d → Dp K H' v d
  | _, _, .non => .non
  | _, _, .bl b => .bl b
  | _, _, .int i => .int i
  | _, _, .str x => .str x
  | _, _, .lst h r => .lst (sm_l e h) (dpall_sm e r)
  | _, _, .tup h r => .tup (sm_t e h) (dpall_sm e r)
theorem dpall_sm {K : PySem.W.Frag} {H H' : Hp} (e : Same H H') : ∀ {vs : List V} {ds : List PyData}, DpAll K H vs ds → DpAll K H' vs ds
  | _, _, .nil => .nil
  | _, _, .cons h r => .cons (dp_sm e h) (dpall_sm e r)
end
theorem sz_of {n : Nat} (h : n ≤ 100000) : n ≤ sizeLine := Nat.le_trans h (by decide)
theorem sz_lt {n : Nat} (h : n < 100000) : n < sizeLine := Nat.lt_of_lt_of_le h (by decide)
theorem upd_id {H : Hp} {a : Addr} {o : HO} (h : H a = some o) : upd H a o = H := by
  funext b
  by_cases e : b = a
  · rw [e, upd_same, h]
  · rw [upd_ne e]

/-! ## 5. Operators for values of several kinds -/
def rAddS : R2 := fun x y H Q => ∃ i j, x = .str i ∧ y = .str j ∧ i.length + j.length ≤ sizeLine ∧ Q (.str (i ++ j)) H
def rAddU (K : PySem.W.Frag) : R2 := fun x y H Q => (rI0 (fun i j => .int (i + j)) x y H Q ∨ rAddS x y H Q) ∨ (rCat x y H Q ∨ rCatT K x y H Q)
def rEqU (K : PySem.W.Frag) : R2 := fun x y H Q => rEq x y H Q ∨ rEqD K x y H Q
def rNeU (K : PySem.W.Frag) : R2 := fun x y H Q => rNe x y H Q ∨ rNeD K x y H Q
def rSlU (K : PySem.W.Frag) : V → Option Int → Option Int → Hp → VK → Prop := fun x lo hi H Q => rSlL K x lo hi H Q ∨ (rSlS x lo hi H Q ∨ rSlA K x lo hi H Q)
def rLeU : R2 := fun x y H Q => rI0 (fun i j => .bl (decide (i ≤ j))) x y H Q ∨ ∃ i j, x = .str i ∧ y = .str j ∧ Q (.bl (!decide (j.cps.toList < i.cps.toList))) H
def rLenU (K : PySem.W.Frag) : List V → Hp → VK → Prop := fun xs H Q => ∃ x n, xs = [x] ∧ LenV K x H n ∧ Q (.int n) H
def rListU (K : PySem.W.Frag) : List V → Hp → VK → Prop := fun xs H Q => ∃ p ys, xs = [.ref p] ∧ (SqL K H p ys ∨ SqT K H p ys) ∧ ∀ l, H l = none → Q (.ref l) (upd H l (.lst ys))
def rTupU (K : PySem.W.Frag) : List V → Hp → VK → Prop := fun xs H Q => ∃ p ys, xs = [.ref p] ∧ ((SqL K H p ys ∧ ∀ l, H l = none → Q (.ref l) (upd H l (.tup ys))) ∨ (SqT K H p ys ∧ Q (.ref p) H))
/-- the text that repr tells -/
inductive ReprV : V → Str → Prop where
  | non : ReprV .non "None"
  | bl (b : Bool) : ReprV (.bl b) (if b then "True" else "False")
  | int (i : Int) (h : i.natAbs.log2 < 1920) : ReprV (.int i) (toString i)
  | str (x : Str) (h : (reprText x).length ≤ sizeLine) : ReprV (.str x) (reprText x)
def rReprU : List V → Hp → VK → Prop := fun xs H Q => ∃ x z, xs = [x] ∧ ReprV x z ∧ Q (.str z) H
section
variable {X : Cx}
theorem op_addU : OpR X (binaryOp .Add) (rAddU X.K) := OpR.or (OpR.or op_add op_add_str) (OpR.or op_cat op_catT)
theorem op_eqU (hu : X.A.units + 64 < cLine) : OpR X (compareOp .Eq) (rEqU X.K) := OpR.or op_eq (op_eqD hu)
theorem op_neU (hu : X.A.units + 64 < cLine) : OpR X (compareOp .NotEq) (rNeU X.K) := OpR.or op_ne (op_neD hu)
theorem op_leU : OpR X (compareOp .LtE) rLeU := OpR.or op_le op_le_str
theorem sl_u : SlR X (rSlU X.K) := SlR.or sl_list (SlR.or sl_str sl_tupA)
theorem call_lenU : CallR X (.builtin "len") (rLenU X.K) := call_len
theorem call_listU : CallR X (.type "list") (rListU X.K) := call_list_of
theorem call_tupU : CallR X (.type "tuple") (rTupU X.K) := call_tuple_of
theorem call_reprU : CallR X (.builtin "repr") rReprU := by
  intro pins s σ H xs us Q I r h
  obtain ⟨x, z, rfl, hz, q⟩ := h
  obtain ⟨u, rfl, ru⟩ := vals1 r
  cases hz with
  | non =>
    cases ru
    exact PySem.P.repr_of_none ⟨.str _, H, I.tok _, ⟨_, rfl⟩, q⟩
  | bl b =>
    cases ru
    exact PySem.P.repr_of_bool ⟨.str _, H, I.tok _, ⟨_, rfl⟩, q⟩
  | int i hi =>
    obtain ⟨t, rfl⟩ := ru
    exact PySem.P.repr_of_int hi ⟨.str _, H, I.tok _, ⟨_, rfl⟩, q⟩
  | str y hy =>
    obtain ⟨t, rfl⟩ := ru
    exact PySem.P.repr_of_str ⟨.str _, H, I.tok _, ⟨_, rfl⟩, q⟩ hy
end

/-! ## 6. Steps of readings. Leaves bear names, so that a step is found by the goal's head -/
def nBl (x : V) (R : Bool → Hp → Prop) (H : Hp) : Prop := ∃ k, x = .bl k ∧ R k H
def nInt (x : V) (R : Option Int → Hp → Prop) (H : Hp) : Prop := ∃ i, x = .int i ∧ R (some i) H
def nLst (xs : List V) (H : Hp) (Q : VK) : Prop := xs.length ≤ sizeLine ∧ ∀ p, H p = none → Q (.ref p) (upd H p (.lst xs))
def nTup (xs : List V) (H : Hp) (Q : VK) : Prop := xs.length ≤ sizeLine ∧ ∀ p, H p = none → Q (.ref p) (upd H p (.tup xs))
def nTy (K : PySem.W.Frag) (T : String) (x : V) (H : Hp) (A : Prop) : Prop := tyV K T x H ∧ A
def nStr (x : V) (A : Prop) : Prop := (∃ a, x = .str a) ∧ A
def nIte (b : Bool) (A B : Prop) : Prop := if b = true then A else B
section
variable {K : PySem.W.Frag} {σ : L2.St} {H : Hp} {Q : VK} {D : Ends} {te ta tb tc tx : TE} {t u : TS} {c c2 : TT} {tA tB2 : TA} {x y v : V} {i j n m : Int} {a b l p q : Addr} {xs ys zs : List V} {z z2 : Str} {k : Nat} {A B : Prop} {r r2 : R2}
-- statements
theorem k_seq (h : t { D with nx := u D } σ H) : tSeq t u D σ H := h
theorem k_next (h : D.nx σ H) : tNext D σ H := h
theorem k_asg {g : TG} (h : te σ H fun x H1 => g x σ H1 D.nx) : tAsg te g D σ H := h
theorem k_name {R : L2.St → Hp → Prop} (h : R (σ.set k (some v)) H) : gName k v σ H R := h
theorem k_ret (h : te σ H D.rt) : tRet te D σ H := h
theorem k_drop (h : te σ H fun _ H1 => D.nx σ H1) : tDrop te D σ H := h
theorem k_ifs (h : c σ H fun b H1 => nIte b (t D σ H1) (u D σ H1)) : tIfS c t u D σ H := h
theorem k_gtup {R : L2.St → Hp → Prop} {w : TGs} (hx : SqT K H a xs) (hl : xs.length = k) (h : w xs σ H R) : gTup K k w (.ref a) σ H R := ⟨a, xs, rfl, hx, hl, h⟩
theorem k_gcons {R : L2.St → Hp → Prop} {g : TG} {w : TGs} (h : g x σ H fun σ' H' => w xs σ' H' R) : gCons g w (x :: xs) σ H R := ⟨x, xs, rfl, h⟩
theorem k_gnil {R : L2.St → Hp → Prop} (h : R σ H) : gNil [] σ H R := ⟨rfl, h⟩
theorem k_gsub {R : L2.St → Hp → Prop} {w : TSet} (h : ta σ H fun o H1 => tb σ H1 fun i H2 => w o i v H2 fun H3 => R σ H3) : gSub ta tb w v σ H R := h
-- tests
theorem k_test {R : Bool → Hp → Prop} (h : te σ H fun x H' => nBl x R H') : tTest te σ H R := h
theorem k_tB {R : Bool → Hp → Prop} (h : te σ H fun x H' => nBl x R H') : tB te σ H R := h
theorem k_bl {R : Bool → Hp → Prop} {b : Bool} (h : R b H) : nBl (.bl b) R H := ⟨b, rfl, h⟩
theorem k_not {R : Bool → Hp → Prop} (h : c σ H fun b H1 => R (!b) H1) : tNot c σ H R := h
theorem k_and {R : Bool → Hp → Prop} (h : c σ H fun b H1 => nIte b (c2 σ H1 R) (R false H1)) : tAnd c c2 σ H R := h
theorem k_or {R : Bool → Hp → Prop} (h : c σ H fun b H1 => nIte b (R true H1) (c2 σ H1 R)) : tOr c c2 σ H R := h
theorem k_yes {R : Bool → Hp → Prop} (h : R true H) : tYes σ H R := h
theorem k_dec {P : Prop} [Decidable P] (h1 : P → A) (h2 : ¬ P → B) : nIte (decide P) A B := ite2 (c := decide P = true) (fun e => h1 (of_decide_eq_true e)) fun e => h2 fun z => e (decide_eq_true z)
theorem k_true (h : A) : nIte true A B := iteT h
theorem k_false (h : B) : nIte false A B := iteF h
theorem k_nt {b : Bool} (h : nIte b B A) : nIte (!b) A B := by
  cases b with
  | true => exact h
  | false => exact h
-- expressions
theorem k_var (hs : σ[k]? = some (some v)) (h : Q v H) : tVar k σ H Q := ⟨v, hs, h⟩
theorem k_c (h : Q v H) : tC v σ H Q := h
theorem k_op (h : ta σ H fun x H1 => tb σ H1 fun y H2 => r x y H2 Q) : tOp r ta tb σ H Q := h
theorem k_if (h : c σ H fun b H1 => nIte b (ta σ H1 Q) (tb σ H1 Q)) : tIf c ta tb σ H Q := h
theorem k_chain (h : ta σ H fun x H1 => tb σ H1 fun y H2 => r x y H2 fun z H3 => nBl z (fun k H3 => nIte k (tc σ H3 fun w H4 => r2 y w H4 Q) (Q (.bl false) H3)) H3) : tChain r r2 ta tb tc σ H Q := h
theorem k_nil {R : List V → Hp → Prop} (h : R [] H) : tNil σ H R := h
theorem k_cons {R : List V → Hp → Prop} (h : ta σ H fun x H1 => tA σ H1 fun xs H2 => R (x :: xs) H2) : tCons ta tA σ H R := h
theorem k_cb {r : List V → Hp → VK → Prop} (h : tA σ H fun vs H1 => r vs H1 Q) : tCB r tA σ H Q := h
theorem k_call {sp : Sp} {dvs : List V} {E : XK} (h : tA σ H fun vs H1 => sp (vs ++ dvs) H1 Q E) : tCall sp dvs E tA σ H Q := h
theorem k_andV (h : ta σ H fun x H1 => nBl x (fun c H1 => nIte c (tb σ H1 Q) (Q (.bl false) H1)) H1) : tAndV ta tb σ H Q := h
theorem k_lst (h : tA σ H fun xs H1 => nLst xs H1 Q) : tLst tA σ H Q := h
theorem k_tup (h : tA σ H fun xs H1 => nTup xs H1 Q) : tTup tA σ H Q := h
theorem k_nLst (hz : xs.length ≤ 100000) (h : ∀ p H2, H p = none → Same H H2 → H2 p = some (.lst xs) → Q (.ref p) H2) : nLst xs H Q := ⟨sz_of hz, fun p hp => h p _ hp (sm_new hp) upd_same⟩
theorem k_nTup (hz : xs.length ≤ 100000) (h : ∀ p H2, H p = none → Same H H2 → H2 p = some (.tup xs) → Q (.ref p) H2) : nTup xs H Q := ⟨sz_of hz, fun p hp => h p _ hp (sm_new hp) upd_same⟩
theorem k_nopart {R : Option Int → Hp → Prop} (h : R none H) : tNoPart σ H R := h
theorem k_part {R : Option Int → Hp → Prop} (h : te σ H fun x H1 => nInt x R H1) : tPart te σ H R := h
theorem k_nInt {R : Option Int → Hp → Prop} (h : R (some i) H) : nInt (.int i) R H := ⟨i, rfl, h⟩
theorem k_sl {r : V → Option Int → Option Int → Hp → VK → Prop} {tl th : TO} (h : te σ H fun x H1 => tl σ H1 fun l H2 => th σ H2 fun u H3 => r x l u H3 Q) : tSl r te tl th σ H Q := h
theorem k_bm {T : String} {r : V → List V → Hp → VK → Prop} (h : te σ H fun x H1 => nTy K T x H1 (tA σ H1 fun xs H2 => r x xs H2 Q)) : tBM K T r te tA σ H Q := h
theorem k_nTyL (hx : SqL K H a xs) (h : A) : nTy K "list" (.ref a) H A := ⟨Or.inl ⟨rfl, xs, hx⟩, h⟩
theorem k_nTyS (h : A) : nTy K "str" (.str z) H A := ⟨rfl, h⟩
theorem k_m1 {r : V → List V → Hp → VK → Prop} (h : te σ H fun x H1 => nStr x (tx σ H1 fun y H2 => r x [y] H2 Q)) : tM1 r te tx σ H Q := h
theorem k_nStr (h : A) : nStr (.str z) A := ⟨⟨z, rfl⟩, h⟩
-- operators
theorem k_I0 {g : Int → Int → V} (h : Q (g i j) H) : rI0 g (.int i) (.int j) H Q := ⟨i, j, rfl, rfl, h⟩
theorem k_I {C : Int → Int → Prop} {g : Int → Int → V} (hc : C i j) (h : Q (g i j) H) : rI C g (.int i) (.int j) H Q := ⟨i, j, rfl, rfl, hc, h⟩
theorem k_add_i (h : Q (.int (i + j)) H) : rAddU K (.int i) (.int j) H Q := .inl (.inl ⟨i, j, rfl, rfl, h⟩)
theorem k_add_s (hz : z.length + z2.length ≤ 100000) (h : Q (.str (z ++ z2)) H) : rAddU K (.str z) (.str z2) H Q := .inl (.inr ⟨z, z2, rfl, rfl, sz_of hz, h⟩)
theorem k_add_l (h1 : H a = some (.lst xs)) (h2 : H b = some (.lst ys)) (hz : xs.length + ys.length ≤ 100000) (h : ∀ p H2, H p = none → Same H H2 → H2 p = some (.lst (xs ++ ys)) → Q (.ref p) H2) : rAddU K (.ref a) (.ref b) H Q :=
  .inr (.inl ⟨a, b, xs, ys, rfl, rfl, h1, h2, sz_of hz, fun p hp => h p _ hp (sm_new hp) upd_same⟩)
theorem k_mul (hc : (-(2 ^ 64) < i ∧ i < 2 ^ 64) ∨ (-(2 ^ 64) < j ∧ j < 2 ^ 64)) (h : Q (.int (i * j)) H) : rI CMul (fun i j => .int (i * j)) (.int i) (.int j) H Q := ⟨i, j, rfl, rfl, hc, h⟩
theorem k_eq_i (h : Q (.bl (decide (i = j))) H) : rEqU K (.int i) (.int j) H Q := .inl ⟨rfl, by
  rw [show decide (V.int i = V.int j) = decide (i = j) by
    by_cases e : i = j
    · rw [e, decide_eq_true rfl, decide_eq_true rfl]
    · rw [decide_eq_false e, decide_eq_false fun z => e (V.int.inj z)]]
  exact h⟩
theorem k_eq_s (h : Q (.bl (decide (z = z2))) H) : rEqU K (.str z) (.str z2) H Q := .inl ⟨rfl, by
  rw [show decide (V.str z = V.str z2) = decide (z = z2) by
    by_cases e : z = z2
    · rw [e, decide_eq_true rfl, decide_eq_true rfl]
    · rw [decide_eq_false e, decide_eq_false fun w => e (V.str.inj w)]]
  exact h⟩
theorem k_ne_i (h : Q (.bl (!decide (i = j))) H) : rNeU K (.int i) (.int j) H Q := .inl ⟨rfl, by
  rw [show decide (V.int i = V.int j) = decide (i = j) by
    by_cases e : i = j
    · rw [e, decide_eq_true rfl, decide_eq_true rfl]
    · rw [decide_eq_false e, decide_eq_false fun z => e (V.int.inj z)]]
  exact h⟩
theorem k_ne_s (h : Q (.bl (!decide (z = z2))) H) : rNeU K (.str z) (.str z2) H Q := .inl ⟨rfl, by
  rw [show decide (V.str z = V.str z2) = decide (z = z2) by
    by_cases e : z = z2
    · rw [e, decide_eq_true rfl, decide_eq_true rfl]
    · rw [decide_eq_false e, decide_eq_false fun w => e (V.str.inj w)]]
  exact h⟩
theorem k_ne_b {b c : Bool} (h : Q (.bl (!decide (b = c))) H) : rNeU K (.bl b) (.bl c) H Q := .inl ⟨rfl, by
  rw [show decide (V.bl b = V.bl c) = decide (b = c) by
    by_cases e : b = c
    · rw [e, decide_eq_true rfl, decide_eq_true rfl]
    · rw [decide_eq_false e, decide_eq_false fun w => e (V.bl.inj w)]]
  exact h⟩
theorem k_eq_d {d e : PyData} (h1 : Dp K H x d) (h2 : Dp K H y e) (s1 : SeqAt.shaped d = true) (s2 : SeqAt.shaped e = true) (h : Q (.bl (PyData.eqv d e)) H) : rEqU K x y H Q := .inr ⟨d, e, h1, h2, s1, s2, h⟩
theorem k_ne_d {d e : PyData} (h1 : Dp K H x d) (h2 : Dp K H y e) (s1 : SeqAt.shaped d = true) (s2 : SeqAt.shaped e = true) (h : Q (.bl (!PyData.eqv d e)) H) : rNeU K x y H Q := .inr ⟨d, e, h1, h2, s1, s2, h⟩
theorem k_le_i (h : Q (.bl (decide (i ≤ j))) H) : rLeU (.int i) (.int j) H Q := .inl ⟨i, j, rfl, rfl, h⟩
theorem k_ix_l (hx : SqL K H a xs) (hi : atI xs i = some v) (h : Q v H) : rIx K (.ref a) (.int i) H Q := .inl ⟨a, xs, i, v, rfl, rfl, hx, hi, h⟩
theorem k_ix_t (hx : SqT K H a xs) (hi : atI xs i = some v) (h : Q v H) : rIx K (.ref a) (.int i) H Q := .inr (.inl ⟨a, xs, i, v, rfl, rfl, hx, hi, h⟩)
theorem k_ix_s {c : Nat} (hz : z.length ≤ 100000) (hi : atI z.cps.toList i = some c) (h : Q (.str ⟨#[c]⟩) H) : rIx K (.str z) (.int i) H Q := .inr (.inr ⟨z, i, c, rfl, rfl, sz_of hz, hi, h⟩)
theorem k_sl_l {lo hi : Option Int} (hx : SqL K H a xs) (h : ∀ p H2, H p = none → Same H H2 → H2 p = some (.lst (cutV xs lo hi)) → Q (.ref p) H2) : rSlU K (.ref a) lo hi H Q := .inl ⟨a, xs, rfl, hx, fun p hp => h p _ hp (sm_new hp) upd_same⟩
theorem k_sl_s {lo hi : Option Int} (hz : z.length ≤ 100000) (h : Q (.str (cutS z lo hi)) H) : rSlU K (.str z) lo hi H Q := .inr (.inl ⟨z, rfl, sz_of hz, h⟩)
theorem k_len_s (hz : z.length ≤ 100000) (h : Q (.int z.length) H) : rLenU K [.str z] H Q := ⟨.str z, z.length, rfl, ⟨sz_of hz, rfl⟩, h⟩
theorem k_len_l (hx : SqL K H a xs) (h : Q (.int xs.length) H) : rLenU K [.ref a] H Q := ⟨.ref a, xs.length, rfl, .inl ⟨xs, hx, rfl⟩, h⟩
theorem k_len_t (hx : SqT K H a xs) (h : Q (.int xs.length) H) : rLenU K [.ref a] H Q := ⟨.ref a, xs.length, rfl, .inr ⟨xs, hx, rfl⟩, h⟩
theorem k_list_l (hx : SqL K H a xs) (h : ∀ p H2, H p = none → Same H H2 → H2 p = some (.lst xs) → Q (.ref p) H2) : rListU K [.ref a] H Q := ⟨a, xs, rfl, .inl hx, fun p hp => h p _ hp (sm_new hp) upd_same⟩
theorem k_list_t (hx : SqT K H a xs) (h : ∀ p H2, H p = none → Same H H2 → H2 p = some (.lst xs) → Q (.ref p) H2) : rListU K [.ref a] H Q := ⟨a, xs, rfl, .inr hx, fun p hp => h p _ hp (sm_new hp) upd_same⟩
theorem k_tup_l (hx : SqL K H a xs) (h : ∀ p H2, H p = none → Same H H2 → H2 p = some (.tup xs) → Q (.ref p) H2) : rTupU K [.ref a] H Q := ⟨a, xs, rfl, .inl ⟨hx, fun p hp => h p _ hp (sm_new hp) upd_same⟩⟩
theorem k_tup_t (hx : SqT K H a xs) (h : Q (.ref a) H) : rTupU K [.ref a] H Q := ⟨a, xs, rfl, .inr ⟨hx, h⟩⟩
theorem k_repr (hr : ReprV x z) (h : Q (.str z) H) : rReprU [x] H Q := ⟨x, z, rfl, hr, h⟩
theorem k_setL {R : Hp → Prop} (h0 : H a = some (.lst xs)) (hi : ixN xs.length i = some k) (h : R (upd H a (.lst (xs.set k v)))) : rSetL (.ref a) (.int i) v H R := ⟨a, xs, i, k, rfl, rfl, h0, hi, h⟩
theorem k_sum {ns : List Int} (hx : SqL K H a (ns.map V.int)) (h : Q (.int ns.sum) H) : rSum K [.ref a] H Q := ⟨a, ns, rfl, hx, h⟩
theorem k_all {bs : List Bool} (hx : SqL K H a (bs.map V.bl)) (h : Q (.bl (bs.all id)) H) : rAll K [.ref a] H Q := ⟨a, bs, rfl, hx, h⟩
end

theorem k_start {t : TS} {D : Ends} {σ σ' : L2.St} {H : Hp} (e : σ = σ') (h : t D σ' H) : t D σ H := by
  rw [e]
  exact h
/-! ## 7. Loops and comprehensions -/
def nRng1 (vs : List V) (R : It → Hp → Prop) (H : Hp) : Prop := ∃ j : Int, vs = [.int j] ∧ -(2 ^ 62) ≤ j ∧ j < 2 ^ 62 ∧ R (Itr 0 j.toNat) H
def nRng2 (vs : List V) (R : It → Hp → Prop) (H : Hp) : Prop := ∃ i j : Int, vs = [.int i, .int j] ∧ (-(2 ^ 62) ≤ i ∧ i < 2 ^ 62 ∧ -(2 ^ 62) ≤ j ∧ j < 2 ^ 62) ∧ R (Itr i (j - i).toNat) H
def nItl (K : PySem.W.Frag) (x : V) (R : It → Hp → Prop) (H : Hp) : Prop := ∃ a, x = .ref a ∧ (∃ xs, SqL K H a xs) ∧ R (Itl K a) H
def nItt (K : PySem.W.Frag) (x : V) (R : It → Hp → Prop) (H : Hp) : Prop := ∃ a, x = .ref a ∧ (∃ xs, SqT K H a xs) ∧ R (Itt K a) H
def nIts (x : V) (R : It → Hp → Prop) (H : Hp) : Prop := ∃ z, x = .str z ∧ R (Its z) H
def nIte2 (K : PySem.W.Frag) (vs : List V) (R : It → Hp → Prop) (H : Hp) : Prop := ∃ a xs, vs = [.ref a] ∧ SqL K H a xs ∧ R (Ite K a) H
def nItz (K : PySem.W.Frag) (vs : List V) (R : It → Hp → Prop) (H : Hp) : Prop := ∃ a b xs ys, vs = [.ref a, .ref b] ∧ ((SqL K H a xs ∧ SqL K H b ys ∧ R (Itz K a b) H) ∨ (SqT K H a xs ∧ SqT K H b ys ∧ R (RZ.ItzT K a b) H))
def nFor (J : It) (g : TG) (tb : TS) (D : Ends) (σ : L2.St) (H : Hp) : Prop := ∃ W : Nat → Nat → L2.St → Hp → Prop, (∃ m, W 0 m σ H) ∧ ∀ i m σ H, W i m σ H →
  (J.stop i H ∧ D.nx σ H) ∨ (J.go i H ∧ ∃ N : L2.St → Hp → Prop, (∀ σ' H', N σ' H' → ∃ m', m' < m ∧ W (i + 1) m' σ' H') ∧ ∀ x H', J.yld i H x H' → g x σ H' fun σ2 H2 => tb { D with nx := N, ct := N, bk := D.nx } σ2 H2)
def nLc (J : It) (g : TG) (tt : TT) (te : TE) (vs : List Nat) (σ : L2.St) (H1 : Hp) (Q : VK) : Prop := ∀ D, H1 D = none → ∃ W : Nat → Nat → Hp → Prop, (∃ m, W 0 m (upd H1 D (.lst []))) ∧ ∀ i m H, W i m H →
  (J.stop i H ∧ Q (.ref D) H) ∨ (J.go i H ∧ ∃ Nx : Hp → Prop, (∀ H', Nx H' → ∃ m', m' < m ∧ W (i + 1) m' H') ∧ ∀ x H', J.yld i H x H' → g x (wipe σ vs) H' fun σ2 H2 => wipe σ2 vs = wipe σ vs ∧ tt σ2 H2 fun b H3 =>
    if b = true then te σ2 H3 fun y H4 => ∃ acc, H4 D = some (.lst acc) ∧ acc.length < sizeLine ∧ Nx (upd H4 D (.lst (acc ++ [y]))) else Nx H3)
section
variable {K : PySem.W.Frag} {σ : L2.St} {H : Hp} {Q : VK} {D : Ends} {te : TE} {tt : TT} {tb : TS} {tA : TA} {wi : TI} {g : TG} {R : It → Hp → Prop} {i j : Int} {n : Nat} {a b : Addr} {xs ys : List V} {z : Str} {vs : List Nat} {J : It} {G : Hp → Prop} {Y : Nat → Hp → V → Hp → Prop}
theorem k_for (h : wi σ H fun J H1 => nFor J g tb D σ H1) : tFor wi g tb D σ H := h
theorem k_lc (h : wi σ H fun J H1 => nLc J g tt te vs σ H1 Q) : tLc wi g tt te vs σ H Q := h
theorem k_rng1 (h : tA σ H fun vs H1 => nRng1 vs R H1) : iRng1 tA σ H R := h
theorem k_rng2 (h : tA σ H fun vs H1 => nRng2 vs R H1) : iRng2 tA σ H R := h
theorem k_itl (h : te σ H fun x H1 => nItl K x R H1) : iList K te σ H R := h
theorem k_itt (h : te σ H fun x H1 => nItt K x R H1) : iTup K te σ H R := h
theorem k_its (h : te σ H fun x H1 => nIts x R H1) : iStr te σ H R := h
theorem k_ite (h : tA σ H fun vs H1 => nIte2 K vs R H1) : iEnum K tA σ H R := h
theorem k_itz (h : tA σ H fun vs H1 => nItz K vs R H1) : RZ.iZipA K tA σ H R := h
theorem k_nRng1 (h1 : -(2 ^ 62) ≤ j) (h2 : j < 2 ^ 62) (h : R (Itr 0 j.toNat) H) : nRng1 [.int j] R H := ⟨j, rfl, h1, h2, h⟩
theorem k_nRng2 (h : (-(2 ^ 62) ≤ i ∧ i < 2 ^ 62 ∧ -(2 ^ 62) ≤ j ∧ j < 2 ^ 62)) (q : R (Itr i (j - i).toNat) H) : nRng2 [.int i, .int j] R H := ⟨i, j, rfl, h, q⟩
theorem k_nItl (hx : SqL K H a xs) (h : R (Itl K a) H) : nItl K (.ref a) R H := ⟨a, rfl, ⟨xs, hx⟩, h⟩
theorem k_nItt (hx : SqT K H a xs) (h : R (Itt K a) H) : nItt K (.ref a) R H := ⟨a, rfl, ⟨xs, hx⟩, h⟩
theorem k_nIts (h : R (Its z) H) : nIts (.str z) R H := ⟨z, rfl, h⟩
theorem k_nIte (hx : SqL K H a xs) (h : R (Ite K a) H) : nIte2 K [.ref a] R H := ⟨a, xs, rfl, hx, h⟩
theorem k_nItzL (hx : SqL K H a xs) (hy : SqL K H b ys) (h : R (Itz K a b) H) : nItz K [.ref a, .ref b] R H := ⟨a, b, xs, ys, rfl, .inl ⟨hx, hy, h⟩⟩
theorem k_nItzT (hx : SqT K H a xs) (hy : SqT K H b ys) (h : R (RZ.ItzT K a b) H) : nItz K [.ref a, .ref b] R H := ⟨a, b, xs, ys, rfl, .inr ⟨hx, hy, h⟩⟩
theorem k_nFor (w : Walk J n G Y) (Pv : Nat → L2.St → Hp → Prop) (h0 : Pv 0 σ H) (hG : ∀ i σ H, i ≤ n → Pv i σ H → G H)
    (hs : ∀ i x σ H H', i < n → Pv i σ H → Y i H x H' → g x σ H' fun σ2 H2 => tb { D with nx := Pv (i + 1), ct := Pv (i + 1), bk := D.nx } σ2 H2) (hd : ∀ σ H, Pv n σ H → D.nx σ H) : nFor J g tb D σ H := for_it w Pv h0 hG hs hd
/-- over zip of two tuples -/
theorem walk_zipT {n : Nat} (hn : n = min xs.length ys.length) : Walk (RZ.ItzT K a b) n (fun H => SqT K H a xs ∧ SqT K H b ys) (YPair (fun i => xs[i]?) (fun i => ys[i]?)) := by
  subst hn
  refine ⟨fun i _ hi q => ?_, fun _ q => ⟨xs, ys, q.1, q.2, by omega⟩, fun i H v H' _ q y => ?_⟩
  · have h1 : i < xs.length := by omega
    have h2 : i < ys.length := by omega
    exact ⟨xs, ys, xs[i], ys[i], q.1, q.2, by simp [h1], by simp [h2]⟩
  · obtain ⟨T, x, z, h1, h2, h3, h4, h5⟩ := y
    exact ⟨T, x, z, h1, h2, h3, h4 xs q.1, h5 ys q.2⟩
/-- a comprehension; Pv: what holds of the turn and of the values so far, told without the heap -/
theorem k_nLc {tg : TG} (w : Walk J n G Y) (hG : ∀ H', Same H H' → G H') (Pv : Nat → List V → Prop) (h0 : Pv 0 []) (hz : ∀ i ws, i ≤ n → Pv i ws → ws.length ≤ 50000)
    (hs : ∀ (i : Nat) (x : V) (H1 H2 : Hp) (ws : List V) (Kp : VK) (Ks : Hp → Prop), i < n → Same H H1 → Pv i ws → Y i H1 x H2 → (∀ y H5, Same H1 H5 → Pv (i + 1) (ws ++ [y]) → Kp y H5) → (∀ H5, Same H1 H5 → Pv (i + 1) ws → Ks H5) →
      tg x (wipe σ vs) H2 fun σ2 H3 => wipe σ2 vs = wipe σ vs ∧ tt σ2 H3 fun b H4 => nIte b (te σ2 H4 Kp) (Ks H4))
    (hd : ∀ (p : Addr) (H' : Hp) (ws : List V), H p = none → Same H H' → H' p = some (.lst ws) → Pv n ws → Q (.ref p) H') : nLc J tg tt te vs σ H Q := by
  intro p hp
  refine lc_it w (fun i H' => ∃ ws : List V, Same H H' ∧ H' p = some (.lst ws) ∧ Pv i ws) ⟨[], sm_new hp, upd_same, h0⟩ (fun i H' _ h => ?_) (fun i x H1 H2 hi h hy => ?_) (fun H' h => ?_)
  · obtain ⟨ws, s1, _⟩ := h
    exact hG H' s1
  · obtain ⟨ws, s1, e1, q1⟩ := h
    exact hs i x H1 H2 ws _ _ hi s1 q1 hy (fun y H5 s5 q5 => ⟨ws, s5 p _ e1, sz_lt (by have := hz i ws (by omega) q1; omega), ws ++ [y], sm_mut (s1.trans s5) hp, upd_same, q5⟩) (fun H5 s5 q5 => ⟨ws, s1.trans s5, s5 p _ e1, q5⟩)
  · obtain ⟨ws, s1, e1, q1⟩ := h
    exact hd p H' ws hp s1 e1 q1
end

/-! ## 8. The bag of draws: its list is told by a word that never changes, so that a draw leaves the heap as it is -/
/-- at b: the list of the cells (at c), a place from 0 on, a held number, a knot -/
def bagO (b c : Addr) : HO := .ext fun h => ∃ (i1 i2 i3 : Int) (t1 t2 t3 : Tok) (n : Nat), 0 ≤ i1 ∧ h.get? b = some { cls := .type "list", data := .seq #[.ref c, .int i1 t1, .int i2 t2, .int i3 t3] n }
def BagOk (H : Hp) (b : Addr) : Prop := ∃ (c : Addr) (ns : List Int), H b = some (bagO b c) ∧ H c = some (.lst (ns.map V.int))
theorem BagOk.sm {H H' : Hp} {b : Addr} (e : Same H H') (h : BagOk H b) : BagOk H' b := by
  obtain ⟨c, ns, h1, h2⟩ := h
  exact ⟨c, ns, e _ _ h1, e _ _ h2⟩
def bagL (c : Addr) (i1 i2 i3 : Int) : List V := [.ref c, .int i1, .int i2, .int i3]
section
variable {X : Cx} {pins : List (Addr × Obj)} {σ : L2.St} {H : Hp} {s : Shared} {b c : Addr}
/-- the bag is opened -/
theorem bag_open (I : Inv X pins σ H s) (h : H b = some (bagO b c)) : ∃ i1 i2 i3 : Int, 0 ≤ i1 ∧ Inv X pins σ (upd H b (.lst (bagL c i1 i2 i3))) s := by
  obtain ⟨⟨i1, i2, i3, t1, t2, t3, n, hi, hg⟩, _, _⟩ := (show ObjOk X.prog X.w H s.heap b (bagO b c) from I.hok b _ h)
  refine ⟨i1, i2, i3, hi, ?_⟩
  have J := I.write (t' := s.toks) (h' := s.heap) (x := b) (e := b) (o := .lst (bagL c i1 i2 i3)) (by rw [h]; exact True.intro) (.inl rfl) (fun _ _ _ q => q) ⟨_, hg⟩
    ⟨sz_of (by show 4 ≤ 100000; decide), [.ref c, .int i1 t1, .int i2 t2, .int i3 t3], n, .cons rfl (.cons ⟨_, rfl⟩ (.cons ⟨_, rfl⟩ (.cons ⟨_, rfl⟩ .nil))), hg⟩
  exact J
/-- .. and closed -/
theorem bag_shut {i1 i2 i3 : Int} (I : Inv X pins σ H s) (h : H b = some (.lst (bagL c i1 i2 i3))) (hi : 0 ≤ i1) : Inv X pins σ (upd H b (bagO b c)) s := by
  obtain ⟨_, its, n, r, hg⟩ := (show ObjOk X.prog X.w H s.heap b (.lst (bagL c i1 i2 i3)) from I.hok b _ h)
  cases r with
  | cons r0 r =>
    cases r with
    | cons r1 r =>
      cases r with
      | cons r2 r =>
        cases r with
        | cons r3 r =>
          cases r
          cases r0
          obtain ⟨t1, rfl⟩ := r1
          obtain ⟨t2, rfl⟩ := r2
          obtain ⟨t3, rfl⟩ := r3
          have J := I.write (t' := s.toks) (h' := s.heap) (x := b) (e := b) (o := bagO b c) (by rw [h]; exact True.intro) (.inl rfl) (fun _ _ _ q => q) ⟨_, hg⟩
            ⟨⟨i1, i2, i3, t1, t2, t3, n, hi, hg⟩, ⟨_, hg⟩, fun h1 h2 z k => by
              obtain ⟨j1, j2, j3, u1, u2, u3, m, hj, e⟩ := z
              exact ⟨j1, j2, j3, u1, u2, u3, m, hj, k _ e⟩⟩
          exact J
/-- a block between the opening and the closing -/
def tBag (t : TS) : TS := fun D σ H => ∃ b c, H b = some (bagO b c) ∧ ∀ i1 i2 i3 : Int, 0 ≤ i1 →
  t { nx := fun σ' H' => ∃ j1 j2 j3, 0 ≤ j1 ∧ H' b = some (.lst (bagL c j1 j2 j3)) ∧ D.nx σ' (upd H' b (bagO b c)), rt := fun v H' => ∃ j1 j2 j3, 0 ≤ j1 ∧ H' b = some (.lst (bagL c j1 j2 j3)) ∧ D.rt v (upd H' b (bagO b c)),
      bk := fun σ' H' => ∃ j1 j2 j3, 0 ≤ j1 ∧ H' b = some (.lst (bagL c j1 j2 j3)) ∧ D.bk σ' (upd H' b (bagO b c)), ct := fun σ' H' => ∃ j1 j2 j3, 0 ≤ j1 ∧ H' b = some (.lst (bagL c j1 j2 j3)) ∧ D.ct σ' (upd H' b (bagO b c)) } σ (upd H b (.lst (bagL c i1 i2 i3)))
theorem pss_bag {st : List Stmt} {t : TS} (h : PSs X st t) : PSs X st (tBag t) := by
  refine ⟨fun pins s σ H D I hw => ?_⟩
  obtain ⟨b, c, hb, hw⟩ := hw
  obtain ⟨i1, i2, i3, hi, I1⟩ := bag_open I hb
  refine thn (h.run pins s σ _ _ I1 (hw i1 i2 i3 hi)) fun f s1 q => ?_
  cases f with
  | next => obtain ⟨σ', H', I2, j1, j2, j3, hj, e, q⟩ := q; exact ⟨σ', _, bag_shut I2 e hj, q⟩
  | brk => obtain ⟨σ', H', I2, j1, j2, j3, hj, e, q⟩ := q; exact ⟨σ', _, bag_shut I2 e hj, q⟩
  | cont => obtain ⟨σ', H', I2, j1, j2, j3, hj, e, q⟩ := q; exact ⟨σ', _, bag_shut I2 e hj, q⟩
  | ret v => obtain ⟨x, σ', H', I2, r, j1, j2, j3, hj, e, q⟩ := q; exact ⟨x, σ', _, bag_shut I2 e hj, r, q⟩
/-- a block that makes a bag and hands it back -/
def tSeal (t : TS) : TS := fun D σ H => t { nx := D.nx, rt := fun v H' => ∃ b c i1 i2 i3, v = .ref b ∧ 0 ≤ i1 ∧ H' b = some (.lst (bagL c i1 i2 i3)) ∧ D.rt (.ref b) (upd H' b (bagO b c)), bk := D.bk, ct := D.ct } σ H
theorem pss_seal {st : List Stmt} {t : TS} (h : PSs X st t) : PSs X st (tSeal t) := by
  refine ⟨fun pins s σ H D I hw => ?_⟩
  refine thn (h.run pins s σ _ _ I hw) fun f s1 q => ?_
  cases f with
  | next => exact q
  | brk => exact q
  | cont => exact q
  | ret v =>
    obtain ⟨x, σ', H', I2, r, b, c, i1, i2, i3, rfl, hi, e, q⟩ := q
    exact ⟨_, σ', _, bag_shut I2 e hi, r, q⟩
end

/-! ## 9. isinstance against built-in classes; data that repr tells -/
def tyD : PyData → String
  | .none => "NoneType"
  | .bool _ => "bool"
  | .int _ => "int"
  | .str _ => "str"
  | .list _ => "list"
  | .tuple _ => "tuple"
  | .dict _ => "dict"
def isSeqD : PyData → Bool
  | .list _ => true
  | .tuple _ => true
  | _ => false
def isLstD : PyData → Bool
  | .list _ => true
  | _ => false
def isTupD : PyData → Bool
  | .tuple _ => true
  | _ => false
theorem dp_ty {K : PySem.W.Frag} {H : Hp} {x : V} {d : PyData} (h : Dp K H x d) : TyX K H x (.type (tyD d)) := by
  cases h with
  | non => exact .base .non
  | bl b => exact .base (.bl b)
  | int i => exact .base (.int i)
  | str z => exact .base (.str z)
  | lst h _ =>
    rcases h with (h | ⟨o, h⟩) | ⟨o, its, n, hk, hc, _⟩
    · exact .base (.lst h)
    · exact .base (.frz h)
    · exact .kList hk hc
  | tup h _ =>
    rcases h with (h | ⟨o, h⟩) | ⟨o, its, n, hk, hc, _⟩
    · exact .base (.tup h)
    · exact .fTuple h
    · exact .kTuple hk hc
def rIsiU (K : PySem.W.Frag) : List V → Hp → VK → Prop := fun xs H Q => rIsiT K xs H Q ∨ rIsi K xs H Q
theorem call_isiU {X : Cx} : CallR X (.builtin "isinstance") (rIsiU X.K) := by
  intro pins s σ H xs us Q I r h
  rcases h with h | h
  · exact call_isiT pins s σ H xs us Q I r h
  · exact call_isi pins s σ H xs us Q I r h
section
variable {K : PySem.W.Frag} {H : Hp} {Q : VK} {x : V} {d : PyData} {tp : Addr}
theorem isi_seq (nd : ∀ kvs, d ≠ .dict kvs) : PySem.W.kitAny K (.type (tyD d)) [.type "list", .type "tuple"] = some (isSeqD d) := by
  have no : ∀ T : String, kitB T "list" = some false → kitB T "tuple" = some false → PySem.W.kitAny K (.type T) [.type "list", .type "tuple"] = some false := fun T h1 h2 =>
    kitAny_cons (b := false) (kit_ty h1) (fun _ => kitAny_cons (b := false) (kit_ty h2) (fun _ => kitAny_nil) (fun z => by cases z)) (fun z => by cases z)
  cases d with
  | none => exact no "NoneType" (by decide +kernel) (by decide +kernel)
  | bool b => exact no "bool" (by decide +kernel) (by decide +kernel)
  | int b => exact no "int" (by decide +kernel) (by decide +kernel)
  | str b => exact no "str" (by decide +kernel) (by decide +kernel)
  | list b => exact kitAny_cons (b := true) (kit_ty (show kitB "list" "list" = some true by decide +kernel)) (fun z => by cases z) (fun _ => rfl)
  | tuple b => exact kitAny_cons (b := false) (kit_ty (show kitB "tuple" "list" = some false by decide +kernel)) (fun _ => kitAny_cons (b := true) (kit_ty (show kitB "tuple" "tuple" = some true by decide +kernel)) (fun z => by cases z) (fun _ => rfl)) (fun z => by cases z)
  | dict kvs => exact absurd rfl (nd kvs)
theorem isi_lst (nd : ∀ kvs, d ≠ .dict kvs) : PySem.W.kitOne K (.type (tyD d)) (.type "list") = some (isLstD d) := by
  cases d with
  | none => exact kit_ty (show kitB "NoneType" "list" = some false by decide +kernel)
  | bool b => exact kit_ty (show kitB "bool" "list" = some false by decide +kernel)
  | int b => exact kit_ty (show kitB "int" "list" = some false by decide +kernel)
  | str b => exact kit_ty (show kitB "str" "list" = some false by decide +kernel)
  | list b => exact kit_ty (show kitB "list" "list" = some true by decide +kernel)
  | tuple b => exact kit_ty (show kitB "tuple" "list" = some false by decide +kernel)
  | dict kvs => exact absurd rfl (nd kvs)
theorem isi_tup (nd : ∀ kvs, d ≠ .dict kvs) : PySem.W.kitOne K (.type (tyD d)) (.type "tuple") = some (isTupD d) := by
  cases d with
  | none => exact kit_ty (show kitB "NoneType" "tuple" = some false by decide +kernel)
  | bool b => exact kit_ty (show kitB "bool" "tuple" = some false by decide +kernel)
  | int b => exact kit_ty (show kitB "int" "tuple" = some false by decide +kernel)
  | str b => exact kit_ty (show kitB "str" "tuple" = some false by decide +kernel)
  | list b => exact kit_ty (show kitB "list" "tuple" = some false by decide +kernel)
  | tuple b => exact kit_ty (show kitB "tuple" "tuple" = some true by decide +kernel)
  | dict kvs => exact absurd rfl (nd kvs)
theorem dp_nd (h : Dp K H x d) : ∀ kvs, d ≠ .dict kvs := by
  intro kvs e
  subst e
  cases h
theorem k_isiLT (h : Dp K H x d) (ht : H tp = some (.tup [.ty "list", .ty "tuple"])) (q : Q (.bl (isSeqD d)) H) : rIsiU K [x, .ref tp] H Q :=
  .inl ⟨x, tp, _, _, _, _, rfl, ht, .cons (.ty _) (.cons (.ty _) .nil), dp_ty h, isi_seq (dp_nd h), q⟩
theorem k_isiL (h : Dp K H x d) (q : Q (.bl (isLstD d)) H) : rIsiU K [x, .ty "list"] H Q := .inr ⟨x, _, _, _, _, rfl, .ty _, dp_ty h, isi_lst (dp_nd h), q⟩
theorem k_isiTu (h : Dp K H x d) (q : Q (.bl (isTupD d)) H) : rIsiU K [x, .ty "tuple"] H Q := .inr ⟨x, _, _, _, _, rfl, .ty _, dp_ty h, isi_tup (dp_nd h), q⟩
end
/-- data nested less than so deep, all of whose parts repr tells -/
def Fit : Nat → PyData → Prop
  | 0, _ => False
  | j + 1, d => match d with
    | .none => True
    | .bool _ => True
    | .int i => i.natAbs.log2 < 1920
    | .str x => (reprText x).length ≤ sizeLine
    | .list ds => ds.length ≤ 50000 ∧ ∀ e ∈ ds, Fit j e
    | .tuple ds => ds.length ≤ 50000 ∧ ∀ e ∈ ds, Fit j e
    | .dict _ => False
theorem dpall_len {K : PySem.W.Frag} {H : Hp} : ∀ {xs : List V} {ds : List PyData}, DpAll K H xs ds → xs.length = ds.length
  | _, _, .nil => rfl
  | _, _, .cons _ r => by rw [List.length_cons, List.length_cons, dpall_len r]
theorem dpall_get {K : PySem.W.Frag} {H : Hp} : ∀ {xs : List V} {ds : List PyData} {i : Nat} {x : V}, DpAll K H xs ds → xs[i]? = some x → ∃ d, ds[i]? = some d ∧ Dp K H x d
  | _, _, _, _, .nil, h => by simp at h
  | _, _, 0, x, .cons h r, e => by
    simp at e
    subst e
    exact ⟨_, rfl, h⟩
  | _, _, i + 1, x, .cons h r, e => by
    obtain ⟨d, h1, h2⟩ := dpall_get (i := i) (x := x) r (by simpa using e)
    exact ⟨d, by simpa using h1, h2⟩
/-- a scalar's text -/
theorem repr_of_dp {K : PySem.W.Frag} {H : Hp} {x : V} {d : PyData} {j : Nat} (h : Dp K H x d) (f : Fit (j + 1) d) (hs : isSeqD d = false) : ∃ z, ReprV x z := by
  cases h with
  | non => exact ⟨_, .non⟩
  | bl b => exact ⟨_, .bl b⟩
  | int i => exact ⟨_, .int i f⟩
  | str z => exact ⟨_, .str z f⟩
  | lst _ _ => cases hs
  | tup _ _ => cases hs
theorem dp_scal {K : PySem.W.Frag} {H : Hp} {x y : V} {d : PyData} (h1 : Dp K H x d) (h2 : Dp K H y d) (hs : isSeqD d = false) : x = y := by
  cases h1 <;> cases h2 <;> first | rfl | cases hs

/-! ## 10. The rules with the written part as a letter of its own (a comprehension's block has its own context) -/
section
variable {X : Cx} (K : PySem.W.Frag)
theorem op_addK (hK : X.K = K := by rfl) : OpR X (binaryOp .Add) (rAddU K) := by subst hK; exact op_addU
theorem op_eqK (hu : X.A.units + 64 < cLine) (hK : X.K = K := by rfl) : OpR X (compareOp .Eq) (rEqU K) := by subst hK; exact op_eqU hu
theorem op_neK (hu : X.A.units + 64 < cLine) (hK : X.K = K := by rfl) : OpR X (compareOp .NotEq) (rNeU K) := by subst hK; exact op_neU hu
theorem op_niK (hK : X.K = K := by rfl) : OpR X (compareOp .NotIn) (rIn K true) := by subst hK; exact op_notIn_seq
theorem sl_k (hK : X.K = K := by rfl) : SlR X (rSlU K) := by subst hK; exact sl_u
theorem ix_k (hK : X.K = K := by rfl) : IxR X (rIx K) := by subst hK; exact ix_seq
theorem call_lenK (hK : X.K = K := by rfl) : CallR X (.builtin "len") (rLenU K) := by subst hK; exact call_lenU
theorem call_listK (hK : X.K = K := by rfl) : CallR X (.type "list") (rListU K) := by subst hK; exact call_listU
theorem call_tupK (hK : X.K = K := by rfl) : CallR X (.type "tuple") (rTupU K) := by subst hK; exact call_tupU
theorem call_isiK (hK : X.K = K := by rfl) : CallR X (.builtin "isinstance") (rIsiU K) := by subst hK; exact call_isiU
theorem cr_allK (hc : X.calm = true := by rfl) (hK : X.K = K := by rfl) : CallR X (.builtin "all") (rAll K) := by subst hK; exact cr_all hc
theorem cr_sumK (hc : X.calm = true := by rfl) (hK : X.K = K := by rfl) : CallR X (.builtin "sum") (rSum K) := by subst hK; exact cr_sum hc
theorem cr_sortedSK (hK : X.K = K := by rfl) : CallR X (.builtin "sorted") (rSortedS K) := by subst hK; exact cr_sortedS
theorem pi_listK {tg l : Expr} {tl : TE} (hl : PE X l tl) (hK : X.K = K := by rfl) : PI X tg l (iList K tl) := by subst hK; exact pi_list hl
theorem pi_tupK {tg l : Expr} {tl : TE} (hl : PE X l tl) (hK : X.K = K := by rfl) : PI X tg l (iTup K tl) := by subst hK; exact pi_tup hl
theorem pg_tupK (n : Nat) {es : List Expr} {k : Nat} {t : TGs} {pos : Pos} (hc : X.calm = true) (h : PGs X es t) (hK : X.K = K := by rfl) (hn : (assignEach es X.env).length = n := by rfl) (hst : (assignEach es X.env).findIdx? (·.1) = none := by rfl) : PG X (.Tuple es k pos) (gTup K n t) := by subst hK; exact pg_tup hc h hn hst
theorem pi_enumK {e : Expr} {ta : TA} {p pos tpos : Pos} {elts : List Expr} {kk : Nat} (hg : Gl X "enumerate") (hm : X.mg "enumerate" = none) (ha : PA X [e] ta) (hK : X.K = K := by rfl) (hs : starEach [e] X.env = [(false, eval e X.env)] := by rfl) : PI X (.Tuple elts kk tpos) (.Call (.Name "enumerate" p) [e] [] pos) (iEnum K ta) := by subst hK; exact pi_enum hg hm ha hs
theorem pi_zipK {e e2 : Expr} {ta : TA} {p pos tpos : Pos} {elts : List Expr} {kk : Nat} (hg : Gl X "zip") (hm : X.mg "zip" = none) (ha : PA X [e, e2] ta) (hK : X.K = K := by rfl)
    (hs : starEach [e, e2] X.env = (false, eval e X.env) :: starEach [e2] X.env := by rfl) (hpl : (backTo pos (starEach [e2] X.env)).any (·.1) = false := by rfl) : PI X (.Tuple elts kk tpos) (.Call (.Name "zip" p) [e, e2] [] pos) (RZ.iZipA K ta) := by subst hK; exact RZ.pi_zipA hg hm ha hs hpl
def rJoin (K : PySem.W.Frag) : V → List V → Hp → VK → Prop := fun x xs H Q => ∃ a p, ∃ ys : List Str, x = .str a ∧ xs = [.ref p] ∧ (SqL K H p (ys.map V.str) ∨ SqT K H p (ys.map V.str)) ∧ (ys.map (·.length)).sum + ys.length * a.length ≤ 16777216 ∧ Q (.str (Txt.join a ys)) H
theorem pe_joinK {o e : Expr} {to te : TE} {apos pos : Pos} (ho : PE X o to) (he : PE X e te) (hK : X.K = K := by rfl) (hs : starEach [e] X.env = [(false, eval e X.env)] := by rfl) (hbase : attributeBase o "join" X.env (eval o X.env) = eval o X.env := by rfl) (hline : (apos.endLine == pos.line) = true := by rfl) :
    PE X (.Call (.Attribute o "join" apos) [e] [] pos) (tM1 (rJoin K) to te) := by subst hK; exact pe_join ho he hs hbase hline
theorem pe_bmK {T id : String} {name : Str} {r : V → List V → Hp → VK → Prop} {o e : Expr} {es : List Expr} {to : TE} {t : TA} {apos cpos : Pos} (pa : PlainAttrs T) (slot : Slot T name id) (hty : typeOf (.builtin id) = pure (.type "method_descriptor")) (hm : MtR X id r) (ho : PE X o to) (ha : PA X (e :: es) t) (hK : X.K = K := by rfl)
    (hbase : attributeBase o name X.env (eval o X.env) = eval o X.env := by rfl)
    (hfew : ((backTo cpos (starEach (e :: es) X.env)).all (fun x => !x.1) && (backToKw cpos (keywordEach [] X.env)).all (fun x => x.1.isSome)
      && decide ((e :: es).length + ([] : List Keyword).length + (if ([] : List Keyword).isEmpty then 0 else 1) < 30)) = true := by rfl)
    (hline : (apos.endLine == cpos.line) = true := by rfl) (hs : starEach (e :: es) X.env = (false, eval e X.env) :: starEach es X.env := by rfl) (hplain : (backTo cpos (starEach es X.env)).any (·.1) = false := by rfl) :
    PE X (.Call (.Attribute o name apos) (e :: es) [] cpos) (tBM K T r to t) := by subst hK; exact pe_bm pa slot hty hm ho ha hbase hfew hline hs hplain
end
section
variable {X : Cx}
theorem pe_gs {x z : Str} {pos : Pos} (h : ∃ t, X.mg x = some (.str z t)) (hg : Gl X x := by rfl) (hd : (x == ("__debug__" : Str)) = false := by decide) : PE X (.Name x pos) (tC (.str z)) := by
  obtain ⟨t, h⟩ := h
  exact pe_glob hg h ⟨t, rfl⟩ hd
theorem pe_gi {x : Str} {i : Int} {pos : Pos} (h : ∃ t, X.mg x = some (.int i t)) (hg : Gl X x := by rfl) (hd : (x == ("__debug__" : Str)) = false := by decide) : PE X (.Name x pos) (tC (.int i)) := by
  obtain ⟨t, h⟩ := h
  exact pe_glob hg h ⟨t, rfl⟩ hd
theorem pe_gr {x : Str} {a : Addr} {pos : Pos} (h : X.mg x = some (.ref a)) (hg : Gl X x := by rfl) (hd : (x == ("__debug__" : Str)) = false := by decide) : PE X (.Name x pos) (tC (.ref a)) := pe_glob hg h rfl hd
end
section
variable {K : PySem.W.Frag} {H : Hp} {Q : VK} {a : Addr} {z z2 : Str}
theorem k_join {ys : List Str} (h : SqL K H a (ys.map V.str)) (hz : (ys.map (·.length)).sum + ys.length * z.length ≤ 100000) (q : Q (.str (Txt.join z ys)) H) : rJoin K (.str z) [.ref a] H Q := ⟨z, a, ys, rfl, rfl, .inl h, Nat.le_trans hz (by decide), q⟩
theorem k_sortedS {xs : List Str} (h : SqL K H a (xs.map V.str)) (hz : xs.length < 64) (q : ∀ ys p H2, ys.Perm xs → sortedS ys = true → H p = none → Same H H2 → H2 p = some (.lst (ys.map V.str)) → Q (.ref p) H2) : rSortedS K [.ref a] H Q := ⟨a, xs, rfl, h, hz, fun ys p h1 h2 h3 => q ys p _ h1 h2 h3 (sm_new h3) upd_same⟩
theorem k_inS {c : Nat} (q : Q (.bl (decide (c ∈ z.cps.toList))) H) : rInS (.str ⟨#[c]⟩) (.str z) H Q := ⟨c, z, rfl, rfl, q⟩
end

theorem at_n {α : Type} {xs : List α} {z : Int} {j : Nat} {v : α} (e : z = (j : Int)) (h : xs[j]? = some v) : atI xs z = some v := by
  have hj : j < xs.length := (List.getElem?_eq_some_iff.mp h).1
  subst e
  unfold atI ixN
  rw [if_pos (by omega), if_pos (by omega), Option.bind_some, Int.toNat_natCast]
  exact h
theorem map_get {α β : Type} {g : α → β} {xs : List α} {i : Nat} {y : β} (h : (xs.map g)[i]? = some y) : ∃ x, xs[i]? = some x ∧ y = g x := by
  rw [List.getElem?_map] at h
  cases e : xs[i]? with
  | none => rw [e] at h; cases h
  | some x => rw [e] at h; exact ⟨x, rfl, (Option.some.inj h).symm⟩
theorem take_more {α : Type} {l : List α} {i : Nat} {x : α} (h : l[i]? = some x) : l.take (i + 1) = l.take i ++ [x] := by
  rw [List.take_add_one, h]
  rfl
theorem fidx_some {α : Type} {p : α → Bool} : ∀ {ws : List α} {i : Nat} {u : α}, ws[i]? = some u → p u = true → (∀ k, k < i → ∀ v, ws[k]? = some v → p v = false) → ws.findIdx? p = some i
  | [], _, _, h, _, _ => by simp at h
  | w :: r, 0, u, h, hp, _ => by
    have e : w = u := Option.some.inj h
    subst e
    rw [List.findIdx?_cons, hp]
    rfl
  | w :: r, i + 1, u, h, hp, hk => by
    have h0 := hk 0 (by omega) w rfl
    have ih := fidx_some (ws := r) (i := i) h hp fun k hk' v hv => hk (k + 1) (by omega) v hv
    rw [List.findIdx?_cons, h0, ih]
    rfl
theorem fidx_none {α : Type} {p : α → Bool} {ws : List α} (h : ∀ (k : Nat) v, ws[k]? = some v → p v = false) : ws.findIdx? p = none := by
  rw [List.findIdx?_eq_none_iff]
  intro x hx
  obtain ⟨k, hk⟩ := List.mem_iff_getElem?.mp hx
  exact h k x hk
/-! ## 11. Texts by their codes -/
/-- the text of one sign -/
def sg (c : Nat) : Str := ⟨#[c]⟩
/-- the text of such codes -/
def tx (cs : List Nat) : Str := ⟨cs.toArray⟩
theorem tl_tx (cs : List Nat) : TL.tl (tx cs) = cs := rfl
theorem len_tx (cs : List Nat) : (tx cs).length = cs.length := TL.len_tl (tx cs)
theorem tx_inj {a b : List Nat} (h : tx a = tx b) : a = b := by
  rw [← tl_tx a, ← tl_tx b, h]
theorem joinL_nil : ∀ ps : List (List Nat), TL.joinL [] ps = ps.flatten
  | [] => rfl
  | [p] => by simp [TL.joinL]
  | p :: q :: r => by
    show p ++ ([] ++ TL.joinL [] (q :: r)) = _
    rw [joinL_nil (q :: r)]
    rfl
/-- single signs put together -/
theorem join_sgs (cs : List Nat) : Txt.join (Str.ofString "") (cs.map sg) = tx cs := by
  refine TL.ext_tl ?_
  rw [TL.join_eq, TL.tl_join, tl_tx, show TL.tl (Str.ofString "") = [] from rfl, joinL_nil, List.map_map]
  have e : (TL.tl ∘ sg) = fun c => [c] := by
    funext c
    rfl
  rw [e]
  induction cs with
  | nil => rfl
  | cons c r ih =>
    show [c] ++ (r.map fun c => [c]).flatten = c :: r
    rw [ih]
    rfl
theorem ltCps_1 (a b : Nat) : PySem.Spec.ltCps [a] [b] = decide (a < b) := by
  show (decide (a < b) || (a == b && false)) = _
  rw [Bool.and_false, Bool.or_false]
theorem risingS_sgs : ∀ (c : Nat) (cs : List Nat), risingS (sg c) (cs.map sg) = true → (c :: cs).Pairwise (· ≤ ·)
  | c, [], _ => by simp
  | c, d :: r, h => by
    have h1 : (!PySem.Spec.ltCps [d] [c] && risingS (sg d) (r.map sg)) = true := h
    obtain ⟨h2, h3⟩ := ba h1
    rw [ltCps_1] at h2
    have h4 : c ≤ d := by simpa using h2
    have ih := risingS_sgs d r h3
    have ih' := List.pairwise_cons.mp ih
    refine List.pairwise_cons.mpr ⟨fun x hx => ?_, ih⟩
    rcases List.mem_cons.mp hx with e | hx
    · rw [e]
      exact h4
    · exact Nat.le_trans h4 (ih'.1 x hx)
theorem sortedS_sgs {cs : List Nat} (h : sortedS (cs.map sg) = true) : cs.Pairwise (· ≤ ·) := by
  cases cs with
  | nil => simp
  | cons c r => exact risingS_sgs c r h
theorem lt_of_le_nodup : ∀ {cs : List Nat}, cs.Pairwise (· ≤ ·) → cs.Nodup → cs.Pairwise (· < ·)
  | [], _, _ => .nil
  | c :: r, h, n => by
    have h' := List.pairwise_cons.mp h
    have n' := List.nodup_cons.mp n
    refine List.pairwise_cons.mpr ⟨fun x hx => ?_, lt_of_le_nodup h'.2 n'.2⟩
    have := h'.1 x hx
    have ne : c ≠ x := fun e => n'.1 (by rw [e]; exact hx)
    omega
/-- a permutation of single signs is one of the codes -/
theorem perm_sgs {ys : List Str} {cs : List Nat} (h : ys.Perm (cs.map sg)) : ∃ ds : List Nat, ys = ds.map sg ∧ ds.Perm cs := by
  refine ⟨ys.map fun y => (TL.tl y).headD 0, ?_, ?_⟩
  · rw [List.map_map]
    have e : ∀ y ∈ ys, (sg ∘ fun y => (TL.tl y).headD 0) y = y := by
      intro y hy
      obtain ⟨c, _, e⟩ := List.mem_map.mp (h.mem_iff.mp hy)
      rw [← e]
      rfl
    rw [List.map_congr_left e, List.map_id']
  · have h2 := h.map fun y => (TL.tl y).headD 0
    rw [List.map_map] at h2
    have e : ((fun y => (TL.tl y).headD 0) ∘ sg) = id := by
      funext c
      rfl
    rw [e, List.map_id] at h2
    exact h2

/-! ## 12. Exceptions of the text with one field besides their word -/
/-- __init__(self, v): self.word = nm; self.fl = v -/
def spX1 (C : Addr) (nm fl : Str) : Sp := fun vs H Q _ => ∃ (a : Addr) (v : V), vs = [.ref a, v] ∧ H a = some (exo a C none) ∧
  ∀ d H', H d = none → d ≠ a → H' = upd (upd (upd H d (exd d [("word", .str nm)])) a (exo a C (some d))) d (exd d [(fl, v), ("word", .str nm)]) → Q .non H'
/-- the class under the module's name x, made with one value -/
structure XCls (P : Program) (w : World) (K : PySem.W.Frag) (mg : Str → Option Value) (base : Heap) (x : Str) (k : Nat) (nm fl : Str) : Prop where
  gC : mg x = some (.ref (He.ga K x))
  O : Oex K (He.ga K x) (He.ma K (He.ga K x) "__init__")
  nw : PySem.W.findIn K (.ref (He.ga K x)) "word" = some none
  nf : PySem.W.findIn K (.ref (He.ga K x)) fl = some none
  F : ∃ fd ps, FnOk P w K mg base CX0 k (He.ma K (He.ga K x) "__init__") fd ps (spX1 (He.ga K x) nm fl) ∧ Binds K fd ps []
def xfs (nm fl : Str) (v : V) : List (Str × V) := [(fl, v), ("word", .str nm)]
def nMk (C : Addr) (sp : Sp) (dvs : List V) (vs : List V) (H1 : Hp) (Q : XK) : Prop := vs.length ≤ 1000 ∧ ∀ a, H1 a = none → sp (.ref a :: (vs ++ dvs)) (upd H1 a (exo a C none))
  (fun v H2 => v = .non ∧ ∃ (d : Addr) (fs : List (Str × V)), H2 a = some (exo a C (some d)) ∧ H2 d = some (exd d fs) ∧ H1 d = none ∧ Q (.ref C) (some d) (upd (del H2 a) d (.xd fs))) (fun _ _ _ => False)
theorem k_mk {C : Addr} {sp : Sp} {dvs : List V} {ta : TA} {σ : L2.St} {H : Hp} {Q : XK} (h : ta σ H fun vs H1 => nMk C sp dvs vs H1 Q) : tMkO C sp dvs ta σ H Q := h
theorem made_x1 {C a : Addr} {nm fl : Str} {v : V} {H1 : Hp} (hk : H1 a = none) {Q : XK} (h : ∀ d H', H1 d = none → Same H1 H' → H' d = some (.xd (xfs nm fl v)) → Q (.ref C) (some d) H') :
    spX1 C nm fl (.ref a :: ([v] ++ [])) (upd H1 a (exo a C none)) (fun u H2 => u = .non ∧ ∃ (d : Addr) (fs : List (Str × V)), H2 a = some (exo a C (some d)) ∧ H2 d = some (exd d fs) ∧ H1 d = none ∧ Q (.ref C) (some d) (upd (del H2 a) d (.xd fs))) (fun _ _ _ => False) := by
  refine ⟨a, v, rfl, upd_same, fun d H' hd ne e => ⟨rfl, d, [(fl, v), ("word", .str nm)], ?_, ?_, ?_, h d _ ?_ (fun b o hb => ?_) upd_same⟩⟩
  · rw [e, upd_ne (Ne.symm ne), upd_same]
  · rw [e, upd_same]
  · rw [upd_ne ne] at hd
    exact hd
  · rw [upd_ne ne] at hd
    exact hd
  · have hba : b ≠ a := ne_of_none hb hk
    have hd1 : H1 d = none := by
      rw [upd_ne ne] at hd
      exact hd
    have hbd : b ≠ d := ne_of_none hb hd1
    rw [upd_ne hbd, del_ne hba, e, upd_ne hbd, upd_ne hba, upd_ne hbd, upd_ne hba]
    exact hb
theorem k_x1 {C : Addr} {nm fl : Str} {v : V} {H1 : Hp} {Q : XK} (h : ∀ d H', H1 d = none → Same H1 H' → H' d = some (.xd (xfs nm fl v)) → Q (.ref C) (some d) H') : nMk C (spX1 C nm fl) [] [v] H1 Q := ⟨by show 1 ≤ 1000; decide, fun a ha => made_x1 ha h⟩
theorem pmk_x1 {X : Cx} {x nm fl : Str} {k j : Nat} {p pos : Pos} {e : Expr} {ta : TA} {K : PySem.W.Frag} (c : XCls X.prog X.w K X.mg X.base x k nm fl) (hr : Room j X.A) (ha : PA X [e] ta) (hx : ∀ E, Passes CX0 X E := by exact fun _ => fun _ _ _ _ _ _ _ h => h.elim) (hK : X.K = K := by rfl) (hj : k + 1 ≤ j := by first | decide | omega) (hg : Gl X x := by rfl) (hdb : (x == ("__debug__" : Str)) = false := by decide)
    (he : starEach [e] X.env = (false, eval e X.env) :: starEach [] X.env := by rfl) (hpl : (backTo pos (starEach [] X.env)).any (·.1) = false := by rfl) :
    PMk X (.Call (.Name x p) [e] [] pos) (tMkO (He.ga K x) (spX1 (He.ga K x) nm fl) [] ta) := by
  subst hK
  obtain ⟨fd, ps, F1, hb⟩ := c.F
  exact pmk_oex c.O.T c.O.iC c.O.tI F1 (hr.mono hj) hb .nil (hx _) hg c.gC ha hdb he hpl
/-- a class's __init__ keeps that -/
theorem x1_read {K : PySem.W.Frag} {C : Addr} {nm fl : Str} (T : OexC K C) (nw : PySem.W.findIn K (.ref C) "word" = some none) (nf : PySem.W.findIn K (.ref C) fl = some none) {vs : List V} {H : Hp} {Q : VK} {E : XK} (h : spX1 C nm fl vs H Q E) {N : List Str} (hN : N.length = 2) :
    tSeq (tOst K "word" (tVar 0) (tC (.str nm))) (tOst K fl (tVar 0) (tVar 1)) { nx := fun _ H' => Q .non H', rt := Q } (L2.start N vs) H := by
  obtain ⟨a, v, rfl, ha, q⟩ := h
  have es : L2.start N [.ref a, v] = [some (.ref a), some v] := by
    unfold L2.start
    rw [hN]
    rfl
  rw [es]
  refine ⟨_, rfl, a, C, rfl, T, nw, .inl ⟨ha, fun d hd ne => ?_⟩⟩
  refine ⟨_, rfl, _, rfl, a, C, rfl, T, nf, .inr ⟨d, [("word", .str nm)], upd_same, ?_, by show 1 ≤ 900; decide, ?_⟩⟩
  · rw [upd_ne ne, upd_same]
  · exact q d _ hd ne rfl

/-! ## 13. Plain texts, good data -/
/-- all signs below 128 -/
def Pl (z : Str) : Prop := ∀ c ∈ TL.tl z, c < 128
theorem pl_ok {z : Str} (h : Pl z) : PyData.strOk z = true := by
  show z.cps.all (· < 0x110000) = true
  rw [Array.all_eq_true']
  intro c hc
  have := h c (by simpa using hc)
  exact decide_eq_true (Nat.lt_of_lt_of_le this (by decide))
theorem pl_repr {z : Str} (h : Pl z) (hz : z.length ≤ 100000) : (reprText z).length ≤ sizeLine := by
  have h1 := PySem.StrLaws.reprText_len z fun c hc => Nat.lt_of_lt_of_le (h c hc) (by decide)
  exact Nat.le_trans h1 (Nat.le_trans (show 10 * z.length + 2 ≤ 1000002 by omega) (by decide))
/-- nested less than j deep; texts plain and short, no dicts -/
def Good : Nat → PyData → Prop
  | 0, _ => False
  | j + 1, d => match d with
    | .none => True
    | .bool _ => True
    | .int i => i.natAbs.log2 < 1920
    | .str x => Pl x ∧ x.length ≤ 100000
    | .list ds => ds.length ≤ 50000 ∧ ∀ e ∈ ds, Good j e
    | .tuple ds => ds.length ≤ 50000 ∧ ∀ e ∈ ds, Good j e
    | .dict _ => False
theorem Good.fit : ∀ {j : Nat} {d : PyData}, Good j d → Fit j d
  | 0, _, h => h.elim
  | j + 1, .none, _ => trivial
  | j + 1, .bool _, _ => trivial
  | j + 1, .int _, h => h
  | j + 1, .str _, h => pl_repr h.1 h.2
  | j + 1, .list _, h => ⟨h.1, fun e he => Good.fit (h.2 e he)⟩
  | j + 1, .tuple _, h => ⟨h.1, fun e he => Good.fit (h.2 e he)⟩
  | j + 1, .dict _, h => h.elim
theorem lay_all : ∀ {ds : List PyData}, (∀ e ∈ ds, PyData.canLay0 e = true) → PyData.canLayAll0 ds = true
  | [], _ => by simp [PyData.canLayAll0]
  | d :: r, h => by
    simp only [PyData.canLayAll0, Bool.and_eq_true]
    exact ⟨h d (List.mem_cons_self ..), lay_all fun e he => h e (List.mem_cons_of_mem _ he)⟩
theorem depth_all {j : Nat} : ∀ {ds : List PyData}, (∀ e ∈ ds, PyData.depth e ≤ j) → PyData.depthAll ds ≤ j
  | [], _ => by simp [PyData.depthAll]
  | d :: r, h => by
    simp only [PyData.depthAll]
    exact Nat.max_le.mpr ⟨h d (List.mem_cons_self ..), depth_all fun e he => h e (List.mem_cons_of_mem _ he)⟩
theorem Good.lay : ∀ {j : Nat} {d : PyData}, Good j d → PyData.canLay0 d = true
  | 0, _, h => h.elim
  | j + 1, .none, _ => by simp [PyData.canLay0]
  | j + 1, .bool _, _ => by simp [PyData.canLay0]
  | j + 1, .int _, _ => by simp [PyData.canLay0]
  | j + 1, .str _, h => by simp only [PyData.canLay0]; exact pl_ok h.1
  | j + 1, .list _, h => by simp only [PyData.canLay0]; exact lay_all fun e he => Good.lay (h.2 e he)
  | j + 1, .tuple _, h => by simp only [PyData.canLay0]; exact lay_all fun e he => Good.lay (h.2 e he)
  | j + 1, .dict _, h => h.elim
theorem Good.dep : ∀ {j : Nat} {d : PyData}, Good j d → PyData.depth d ≤ j
  | 0, _, h => h.elim
  | j + 1, .none, _ => by simp [PyData.depth]
  | j + 1, .bool _, _ => by simp [PyData.depth]
  | j + 1, .int _, _ => by simp [PyData.depth]
  | j + 1, .str _, h => by simp [PyData.depth]
  | j + 1, .list _, h => by simp only [PyData.depth]; exact Nat.succ_le_succ (depth_all fun e he => Good.dep (h.2 e he))
  | j + 1, .tuple _, h => by simp only [PyData.depth]; exact Nat.succ_le_succ (depth_all fun e he => Good.dep (h.2 e he))
  | j + 1, .dict _, h => h.elim
theorem Good.shaped {j : Nat} {d : PyData} (h : Good j d) (hj : j ≤ 64) : SeqAt.shaped d = true := Bool.and_eq_true_iff.mpr ⟨h.lay, decide_eq_true (Nat.le_trans h.dep hj)⟩
/-! lists of texts -/
def dStrs (ws : List Str) : PyData := .list (ws.map .str)
theorem eqvAll_strs : ∀ ws vs : List Str, PyData.eqvAll (ws.map .str) (vs.map .str) = decide (ws = vs)
  | [], [] => by simp [PyData.eqvAll]
  | [], v :: vs => by simp [PyData.eqvAll]
  | w :: ws, [] => by simp [PyData.eqvAll]
  | w :: ws, v :: vs => by
    rw [List.map_cons, List.map_cons]
    simp only [PyData.eqvAll, PyData.eqv, eqvAll_strs ws vs]
    by_cases h1 : w = v
    · subst h1
      simp
    · simp [h1]
theorem eqv_strs (ws vs : List Str) : PyData.eqv (dStrs ws) (dStrs vs) = decide (ws = vs) := by
  unfold dStrs
  simp only [PyData.eqv]
  exact eqvAll_strs ws vs
/-! split: the words' signs stand in the text -/
/-! ## 14. A field of the exception that a suite holds, whatever its class -/
/-! ## 15. A value, a word between two statements -/
section
variable {σ : L2.St} {H : Hp} {Q : VK} {te : TE} {D : Ends} {t u : TS}
theorem k_cut (Mid : L2.St → Hp → Prop) (h1 : t { D with nx := Mid } σ H) (h2 : ∀ σ' H', Mid σ' H' → u D σ' H') : Evl.tCut t u D σ H := ⟨Mid, h1, h2⟩
end
theorem tl_cutS (z : Str) (lo hi : Option Int) : TL.tl (cutS z lo hi) = ((TL.tl z).drop (HT.sIx z.length 0 lo)).take (HT.sIx z.length z.length hi - HT.sIx z.length 0 lo) := rfl
theorem pl_B {z : Str} (h : (TL.tl z).all (fun c => decide (c < 128)) = true) : Pl z := fun c hc => of_decide_eq_true (List.all_eq_true.mp h c hc)
theorem log_nat {k : Nat} (h : k ≤ 2 ^ 63) : ((k : Nat) : Int).natAbs.log2 < 1920 := by
  rw [Int.natAbs_natCast]
  by_cases h0 : k = 0
  · rw [h0]
    decide
  · exact (Nat.log2_lt h0).mpr (Nat.lt_of_le_of_lt h (Nat.pow_lt_pow_right (by decide) (by decide)))
end Gk
set_option Elab.async false
set_option autoImplicit false
set_option linter.all false
set_option maxRecDepth 100000
set_option maxHeartbeats 4000000
/-! # Sets of tuples whose items are ints and texts: adding, gathering, sorting; the set comprehension over any kind of set -/
namespace Gk
open PySem PySem.Spec PyProof.Rows L2
abbrev mh (P : Program) (w : World) (k : List Key) : Int := tupleKeyHash (mixKind P w) k
abbrev IsM (P : Program) (w : World) (h : Heap) (k : List Key) (b : Addr) : Prop := IsTupleKey (mixKind P w) h k b
/-- a probe's c-th step on the way of the hash g -/
abbrev stp (m : Nat) (g : Int) (c : Nat) : SetTable.Probe := nth m (runAt m (SetTable.bits g % (m + 1)) (SetTable.bits g)) c
section
variable {P : Program} {w : World} {A : Around} {E : Value → Shared → Prop} {s : Shared}
/-- of no class statement; by its value it is known how it is hashed -/
def Tame (v : Value) : Prop := ∀ n, ofAClassStatement n v = pure false ∧ ∃ b, hashByValue n v = pure b
theorem tames {k : List Key} {vs : List Value} (h : ItemsAre (mixKind P w) k vs) : ∀ v ∈ vs, Tame v := by
  induction h with
  | nil => exact fun v hv => nomatch hv
  | cons q _ ih =>
    intro v hv
    rcases List.mem_cons.mp hv with rfl | hv
    · rcases keyIs_shape q with ⟨i, u, rfl, rfl⟩ | ⟨z, u, rfl, rfl⟩ <;> exact fun n => by cases n <;> exact ⟨rfl, _, rfl⟩
    · exact ih v hv
theorem m_cls {k : List Key} {b : Addr} {Q : Bool → Shared → Prop} (kb : IsM P w s.heap k b) (q : Q false s) : wpAny (model P w) A (ofAClassStatement 8 (.ref b)) Q E s := by
  have ty := kb.typeIs
  obtain ⟨o, its, n, ho, _, hd, hi⟩ := kb
  unfold ofAClassStatement
  refine wpAny_bind (wpAny_typeOf ty ?_)
  dsimp only
  simp only [show (("tuple" : String) == "tuple") = true by decide, if_true, Bool.not_true, Bool.false_eq_true, if_false]
  show wpAny _ _ (seqItems? (.ref b) >>= _) _ _ s
  refine wpAny_bind (wpAny_seqItems ho hd (wpAny_bind ?_))
  show wpAny _ _ (forIn its _ _) _ _ s
  rw [← Array.forIn_toList]
  refine wpAny_forIn_list _ (fun l r z => (r.1 = none ∧ z = s) ∧ ∀ v ∈ l, Tame v) _ (fun v l r z hz => ?_) (fun r z hz => ?_) _ _ ⟨⟨rfl, rfl⟩, tames hi⟩
  · obtain ⟨⟨h1, rfl⟩, h2⟩ := hz
    rw [(h2 v List.mem_cons_self _).1]
    refine wpAny_bind (wpAny_pure ?_)
    simp only [Bool.false_eq_true, if_false]
    exact wpAny_pure ⟨⟨rfl, rfl⟩, fun u hu => h2 u (List.mem_cons_of_mem _ hu)⟩
  · obtain ⟨r1, r2⟩ := r
    obtain ⟨⟨h1, rfl⟩, _⟩ := hz
    cases h1
    exact wpAny_pure q
theorem m_hsh {k : List Key} {b : Addr} {Q : Bool → Shared → Prop} (kb : IsM P w s.heap k b) (q : ∀ h, Q h s) : wpAny (model P w) A (hashByValue 8 (.ref b)) Q E s := by
  have ty := kb.typeIs
  obtain ⟨o, its, n, ho, _, hd, hi⟩ := kb
  unfold hashByValue
  refine wpAny_bind (wpAny_specialOf ty F.slot_tuple_hash.lookup ?_)
  show wpAny _ _ (seqItems? (.ref b) >>= _) _ _ s
  refine wpAny_bind (wpAny_seqItems ho hd (wpAny_bind ?_))
  show wpAny _ _ (forIn its _ _) _ _ s
  rw [← Array.forIn_toList]
  refine wpAny_forIn_list _ (fun l r z => (r.1 = none ∧ z = s) ∧ ∀ v ∈ l, Tame v) _ (fun v l r z hz => ?_) (fun r z hz => ?_) _ _ ⟨⟨rfl, rfl⟩, tames hi⟩
  · obtain ⟨⟨h1, rfl⟩, h2⟩ := hz
    obtain ⟨h, eh⟩ := (h2 v List.mem_cons_self 7).2
    rw [eh]
    refine wpAny_bind (wpAny_pure ?_)
    cases h with
    | true =>
      simp only [Bool.not_true, Bool.false_eq_true, if_false]
      exact wpAny_pure ⟨⟨rfl, rfl⟩, fun u hu => h2 u (List.mem_cons_of_mem _ hu)⟩
    | false =>
      simp only [Bool.not_false, if_true]
      exact wpAny_pure (wpAny_pure (q false))
  · obtain ⟨r1, r2⟩ := r
    obtain ⟨⟨h1, rfl⟩, _⟩ := hz
    cases h1
    exact wpAny_pure (q true)
/-- a value that is such a tuple -/
def MemM (P : Program) (w : World) (h : Heap) (y : Value) : Prop := ∃ k c, y = Value.ref c ∧ IsM P w h k c
theorem m_seen {b : Addr} {Q : Bool → Shared → Prop} (kb : MemM P w s.heap (.ref b)) {ys : List Value} (hy : ∀ y ∈ ys, MemM P w s.heap y) (q : Q false s) :
    wpAny (model P w) A (searchCouldBeSeen (.ref b) ys) Q E s := by
  obtain ⟨k, b', eb, kb⟩ := kb
  cases eb
  unfold searchCouldBeSeen
  refine wpAny_bind (wpAny_forIn_list _ (fun l r z => (r.1 = none ∧ z = s) ∧ ∀ y ∈ l, MemM P w z.heap y) _ (fun v l r z hz => ?_) (fun r z hz => ?_) _ _ ⟨⟨rfl, rfl⟩, hy⟩)
  · obtain ⟨⟨h1, rfl⟩, h2⟩ := hz
    obtain ⟨k', c, rfl, kc⟩ := h2 v List.mem_cons_self
    have nxt : ∀ y ∈ l, MemM P w z.heap y := fun u hu => h2 u (List.mem_cons_of_mem _ hu)
    dsimp only
    by_cases hv : (b == c || (carriedByValue (.ref b) && carriedByValue (.ref c))) = true
    · exact wp_if_pos hv (wpAny_pure ⟨⟨rfl, rfl⟩, nxt⟩)
    · refine wp_if_neg hv (wpAny_bind (wpAny_eqIsQuiet_tuple kb ?_))
      simp only [Bool.not_true, Bool.false_eq_true, if_false]
      refine wpAny_bind (wpAny_eqIsQuiet_tuple kc ?_)
      simp only [Bool.not_true, Bool.false_eq_true, if_false]
      refine wpAny_bind (m_cls kb ?_)
      simp only [Bool.false_eq_true, if_false]
      refine wpAny_bind (m_cls kc ?_)
      simp only [Bool.false_eq_true, if_false]
      exact wpAny_pure ⟨⟨rfl, rfl⟩, nxt⟩
  · obtain ⟨r1, r2⟩ := r
    obtain ⟨⟨h1, rfl⟩, _⟩ := hz
    cases h1
    exact wpAny_pure q
/-! ### the set -/
abbrev RwM : Type := Addr × List Key
def rwM (P : Program) (w : World) (p : RwM) : Int × Value := (mh P w p.2, Value.ref p.1)
/-- all of the set but its members' own objects -/
structure SetM0 (P : Program) (w : World) (h : Heap) (a : Addr) (L : List RwM) (es : Array (Int × Value)) (ep : Nat) (t : SetTable) : Prop where
  ob : ∃ o, h.get? a = some o ∧ o.ExactSet ∧ o.data = .set es ep t
  rw_ : es.toList = L.map (rwM P w)
  tab : TabOk t (L.map fun p => mh P w p.2)
  one : (L.map (·.2)).Nodup
  ld : w.params.followText "set-order" = true ∨ t.led = true
  big : L.length * 5 < t.mask * 3
  few : L.length < 64
def AllM (P : Program) (w : World) (h : Heap) (L : List RwM) : Prop := ∀ p ∈ L, IsM P w h p.2 p.1
variable {a : Addr} {L : List RwM} {es : Array (Int × Value)} {ep : Nat} {t : SetTable}
theorem size_rw (h : es.toList = L.map (rwM P w)) : es.size = L.length := by
  rw [← Array.length_toList, h, List.length_map]
theorem fit_of {n : Nat} (h1 : t.place.size = n) (h2 : t.dummies = #[]) (h3 : n ≤ t.mask) : t.fits n = true := by
  unfold SetTable.fits SetTable.fill
  rw [h2, Bool.and_eq_true, beq_iff_eq, decide_eq_true_eq]
  exact ⟨h1, by show t.place.size + 0 ≤ t.mask; omega⟩
theorem SetM0.sz (R : SetM0 P w s.heap a L es ep t) : t.place.size = es.size := by
  rw [R.tab.sz, List.length_map, size_rw R.rw_]
theorem SetM0.fits (R : SetM0 P w s.heap a L es ep t) : t.fits es.size = true := by
  have h3 := size_rw R.rw_
  have h4 := R.big
  exact fit_of R.sz R.tab.dm (by omega)
theorem get_rw (h : es.toList = L.map (rwM P w)) (i : Nat) : es[i]? = (L[i]?).map (rwM P w) := by
  rw [← Array.getElem?_toList, h, List.getElem?_map]
theorem nth_dm (m : Nat) : ∀ (n : Nat) (p : SetTable.Probe), p.dummy = none → (nth m p n).dummy = none
  | 0, _, h => h
  | n + 1, p, h => nth_dm m n (adv m p) (by unfold adv; split <;> exact h)
theorem m_from (R : SetM0 P w s.heap a L es ep t) (M : AllM P w s.heap L) {x : Addr} {k : List Key} (kx : IsM P w s.heap k x) (hu : A.units < cLine) {g : Int} (eg : g = mh P w k) {N : Nat} (b1 : N < 10 * SetTable.turns t.mask)
    (b2 : way t.mask g N ∉ t.place.toList) (b3 : ∀ c, c < N → way t.mask g c ∈ t.place.toList) {Q : SetFound → Shared → Prop} (qi : k ∈ L.map (·.2) → Q (.there none) s) (qo : k ∉ L.map (·.2) → Q (.free (way t.mask g N) false) s) :
    ∀ (f c : Nat) (st : Option SetTable.Probe), st.getD (t.probeStart g) = stp t.mask g c → c ≤ N → N - c < f → (∀ (i : Nat) p, L[i]? = some p → p.2 = k → ∃ d, c ≤ d ∧ d < N ∧ t.place.toList[i]? = some (way t.mask g d)) →
      wpAny (model P w) A (setSearchFrom a (.ref x) g true f st) Q E s
  | 0, _, _, _, _, hf, _ => absurd hf (Nat.not_lt_zero _)
  | f + 1, c, st, e0, hc, hf, hre => by
    obtain ⟨o, ho, _, hd⟩ := R.ob
    rw [setSearchFrom_succ]
    refine wpAny_bind (wpAny_setState_of ho hd R.fits ?_)
    dsimp only
    refine wp_if_neg (by unfold SetTable.gaveWay; rw [mask_odd R.tab.mok]; decide) ?_
    have sh : ∀ q, nth t.mask (stp t.mask g c) q = stp t.mask g (c + q) := fun q => (nth_add t.mask c _ q).symm
    have sj : ∀ q, (nth t.mask (stp t.mask g c) q).j = way t.mask g (c + q) := fun q => congrArg SetTable.Probe.j (sh q)
    have hA : ∀ (i : Nat) p, L[i]? = some p → (es[i]?.map (·.1)).getD 0 = mh P w p.2 := fun i p hp => by
      rw [get_rw R.rw_, hp]
      rfl
    rcases go_spec t R.tab.ris R.tab.dm (fun i => (es[i]?.map (·.1)).getD 0) g (10 * SetTable.turns t.mask) (N - c) (stp t.mask g c) (nth_dm _ _ _ rfl) (by omega) (fun q hq => by rw [sj]; exact b3 (c + q) (by omega)) (by rw [sj, show c + (N - c) = N by omega]; exact b2) with ⟨q, i, hq, hi, hh, hno, hpr⟩ | ⟨hno, hpr⟩
    · have hp1 : t.probe (fun i => (es[i]?.map (·.1)).getD 0) g (st.getD (t.probeStart g)) = some (.candidate (way t.mask g (c + q)) i (stp t.mask g (c + (q + 1)))) := by
        rw [e0, ← sj, ← sh]
        exact hpr
      rw [hp1]
      dsimp only
      rw [sj] at hi
      have il : i < L.length := by
        have h1 := (List.getElem?_eq_some_iff.mp hi).1
        have h2 := R.tab.sz
        rw [List.length_map] at h2
        rw [Array.length_toList] at h1
        omega
      obtain ⟨p, hp⟩ : ∃ p, L[i]? = some p := ⟨_, List.getElem?_eq_getElem il⟩
      have pm : p ∈ L := List.mem_of_getElem? hp
      have ee : es[i]? = some (mh P w p.2, Value.ref p.1) := by
        rw [get_rw R.rw_, hp]
        rfl
      have more : wpAny (model P w) A (searchRest a (.ref x) g true f es t (way t.mask g (c + q)) i (stp t.mask g (c + (q + 1)))) Q E s := by
        unfold searchRest
        rw [ee]
        dsimp only
        refine wpAny_bind (wpAny_holding (wpAny_eqBool_tuple hu (M p pm) kx (wpAny_bind (wpAny_setState_of ho hd R.fits ?_))))
        dsimp only
        by_cases hk : p.2 = k
        · refine wp_if_pos (by simp [hk]) (wpAny_pure (qi (List.mem_map.mpr ⟨p, pm, hk⟩)))
        · refine wp_if_neg (by simp [hk]) ?_
          have hl : t.slot (way t.mask g (c + q)) = .live i := slot_live R.tab.ris hi
          rw [sameMem]
          dsimp only
          simp only [if_true, hl, ee]
          refine wpAny_bind (wpAny_isSame_ref_self (wpAny_bind (wpAny_pure ?_)))
          simp only [if_true]
          refine wp_if_neg (by simp [hk]) ?_
          refine m_from R M kx hu eg b1 b2 b3 qi qo f (c + (q + 1)) _ rfl (by omega) (by omega) fun j p' h0 hk' => ?_
          obtain ⟨d, a1, a2, a3⟩ := hre j p' h0 hk'
          refine ⟨d, ?_, a2, a3⟩
          have hg : (es[j]?.map (·.1)).getD 0 = g := by rw [hA j p' h0, hk', eg]
          by_cases y : d < c + q
          · exact absurd hg (hno (d - c) j (by omega) (by rw [sj, show c + (d - c) = d by omega]; exact a3))
          · by_cases y2 : d = c + q
            · rw [y2] at a3
              have h5 := slot_live R.tab.ris a3
              rw [hl] at h5
              injection h5 with h5
              rw [← h5, hp] at h0
              cases h0
              exact absurd hk' hk
            · omega
      by_cases ht : t.led = true
      · exact wp_if_neg (by simp [ht]) more
      · refine wp_if_pos (by simp [ht]) (wpAny_bind (m_seen ⟨k, x, rfl, kx⟩ (fun y hy => ?_) (wp_if_neg (by decide) more)))
        obtain ⟨u, hu1, rfl⟩ := List.mem_map.mp hy
        have hu2 : u ∈ es.toList := by
          have : u ∈ es ∧ u.1 = g := by simpa using hu1
          simpa using this.1
        rw [R.rw_] at hu2
        obtain ⟨p2, hp2, rfl⟩ := List.mem_map.mp hu2
        exact ⟨p2.2, p2.1, rfl, M p2 hp2⟩
    · have hp1 : t.probe (fun i => (es[i]?.map (·.1)).getD 0) g (st.getD (t.probeStart g)) = some (.empty (way t.mask g N) none) := by
        have e2 : way t.mask g N = (nth t.mask (stp t.mask g c) (N - c)).j := by rw [sj, show c + (N - c) = N by omega]
        rw [e0, e2]
        exact hpr
      rw [hp1]
      refine wpAny_pure (qo fun hm => ?_)
      obtain ⟨p', h0, hk'⟩ := List.mem_map.mp hm
      obtain ⟨j, hj⟩ := List.mem_iff_getElem?.mp h0
      obtain ⟨d, a1, a2, a3⟩ := hre j p' hj hk'
      exact hno (d - c) j (by omega) (by rw [sj, show c + (d - c) = d by omega]; exact a3) (by show (es[j]?.map (·.1)).getD 0 = g; rw [hA j p' hj, hk', eg])
theorem m_search (R : SetM0 P w s.heap a L es ep t) (M : AllM P w s.heap L) {x : Addr} {k : List Key} (kx : IsM P w s.heap k x) (hu : A.units < cLine) {Q : SetFound → Shared → Prop} (qi : k ∈ L.map (·.2) → Q (.there none) s)
    (qo : ∀ N, k ∉ L.map (·.2) → way t.mask (mh P w k) N ∉ t.place.toList → (∀ c, c < N → way t.mask (mh P w k) c ∈ t.place.toList) → Q (.free (way t.mask (mh P w k) N) false) s) : wpAny (model P w) A (setSearch a (.ref x) (mh P w k) true) Q E s := by
  have hb := R.big
  obtain ⟨N, b1, b2, b3⟩ := R.tab.first (by rw [List.length_map]; omega) (mh P w k)
  have lim : 10 * SetTable.turns t.mask ≤ 1420 := by
    unfold SetTable.turns
    rcases R.tab.mok with e | e | e <;> omega
  refine m_from R M kx hu rfl b1 b2 b3 qi (fun hn => qo N hn b2 b3) 100000 0 none rfl (Nat.zero_le _) (by omega) fun i p hp hk => ?_
  have il : i < t.place.toList.length := by
    have h1 := (List.getElem?_eq_some_iff.mp hp).1
    have h2 := R.tab.sz
    rw [List.length_map] at h2
    rw [Array.length_toList]
    omega
  have hj := List.getElem?_eq_getElem il
  obtain ⟨c, hc, e⟩ := R.tab.before b2 (by rw [List.getElem?_map, hp, ← hk]; rfl) hj
  exact ⟨c, Nat.zero_le _, hc, by rw [hj, e]⟩
theorem range_get (L : List RwM) : (List.range L.length).filterMap (fun i => L[i]?) = L := by
  have h : ∀ n, n ≤ L.length → (List.range n).filterMap (fun i => L[i]?) = L.take n := by
    intro n
    induction n with
    | zero => exact fun _ => rfl
    | succ n ih =>
      intro hn
      have e : L[n]? = some (L[n]'hn) := List.getElem?_eq_getElem hn
      rw [List.range_succ, List.filterMap_append, ih (by omega), List.filterMap_cons_some e, List.take_succ, e]
      rfl
  rw [h _ (Nat.le_refl _), List.take_length]
theorem order_map {order : Array Nat} (hr : es.toList = L.map (rwM P w)) (hp : order.toList.Perm (List.range L.length)) :
    ∃ L2 : List RwM, (order.filterMap (es[·]?)).toList = L2.map (rwM P w) ∧ L2.Perm L ∧ (L2.map fun p => mh P w p.2) = order.toList.map fun i => (es.map (·.1)).getD i 0 := by
  refine ⟨order.toList.filterMap fun i => L[i]?, ?_, ?_, ?_⟩
  · rw [Array.toList_filterMap, List.map_filterMap]
    congr 1
    funext i
    exact get_rw hr i
  · have h := hp.filterMap fun i => L[i]?
    rw [range_get] at h
    exact h
  · have hl : ∀ i ∈ order.toList, i < L.length := fun i hi => List.mem_range.mp (hp.mem_iff.mp hi)
    generalize order.toList = l at hl
    induction l with
    | nil => rfl
    | cons i l ih =>
      have hi := hl i (List.mem_cons_self ..)
      have e : L[i]? = some L[i] := List.getElem?_eq_getElem hi
      have e2 : es[i]? = some (rwM P w L[i]) := by rw [get_rw hr, e]; rfl
      rw [List.filterMap_cons_some e, List.map_cons, List.map_cons, ih fun j hj => hl j (List.mem_cons_of_mem _ hj)]
      congr 1
      simp [Array.getD_eq_getD_getElem?, e2, rwM]
theorem tab_pl {t : SetTable} {hs : List Int} (T : TabOk t hs) (b : Bool) : TabOk { t with plain := b } hs := ⟨T.ris, T.dm, T.sz, T.mok, T.bd, T.reach⟩
theorem m_relay {o : Obj} (ho : s.heap.get? a = some o) (hex : o.ExactSet) (hd : o.data = .set es ep t) (hr : es.toList = L.map (rwM P w)) (hz : t.place.size = es.size) (hdm : t.dummies = #[]) (hm : es.size ≤ t.mask)
    (nd : (L.map (·.2)).Nodup) (ld : w.params.followText "set-order" = true ∨ t.led = true) (few : L.length < 64) {n M : Nat} (h1 : SetTable.sizeAbove n - 1 = M) (hM : MaskOk M) (h2 : SetTable.sizeAbove n ≤ 128) (h3 : L.length * 5 < M * 3) {Q : Unit → Shared → Prop}
    (q : ∀ h' L' es' ep' t', Heap.SameBut a s.heap h' → SetM0 P w h' a L' es' ep' t' → L'.Perm L → Q () { s with heap := h' }) : wpAny (model P w) A (setRelay a n) Q E s := by
  have sl := size_rw hr
  obtain ⟨t', order, e, hp, T, em, el, _, _⟩ := relaid_ok t (hs := es.map (·.1)) (wanted := n) h1 hM (by rw [Array.size_map, sl]; omega)
  rw [Array.size_map, sl] at hp
  obtain ⟨L2, r1, r2, r3⟩ := order_map hr hp
  rw [← r3] at T
  have s2 : (order.filterMap (es[·]?)).size = es.size := by rw [size_rw r1, r2.length_eq, sl]
  rw [setRelay_eq]
  refine wpAny_bind (wpAny_setState_of ho hd (fit_of hz hdm hm) ?_)
  dsimp only
  refine wp_if_neg (by rw [sizeLine_eq]; omega) ?_
  rw [e]
  dsimp only
  refine wpAny_bind (wp_if_neg (by rw [s2]; simp) (wpAny_pure ?_))
  dsimp only
  refine wpAny_storeSet_of ho hd ?_ (by rw [s2, sl, sizeLine_eq]; omega)
  refine q _ L2 _ (ep + 1) t' (Heap.SameBut.update ..) ⟨⟨_, _root_.L2.store_at ho hd, ⟨hex.1, hex.2.1, hex.2.2⟩, rfl⟩, r1, T, (r2.map (·.2)).nodup_iff.mpr nd, by rw [el]; exact ld, by rw [r2.length_eq, em]; exact h3, by rw [r2.length_eq]; exact few⟩ r2
theorem ins_perm {α : Type} (l : List α) (p : Nat) (x : α) : (l.take p ++ x :: l.drop p).Perm (x :: l) := by
  refine List.perm_middle.trans ?_
  rw [List.take_append_drop]
theorem m_add (R : SetM0 P w s.heap a L es ep t) (M : AllM P w s.heap L) {x : Addr} {k : List Key} (kx : IsM P w s.heap k x) (hu : A.units < cLine) (hl : L.length + 1 < 64) {Q : Bool → Shared → Prop}
    (q : ∀ b h' L' es' ep' t', Heap.SameBut a s.heap h' → SetM0 P w h' a L' es' ep' t' → ((k ∈ L.map (·.2) ∧ L' = L) ∨ (k ∉ L.map (·.2) ∧ L'.Perm ((x, k) :: L))) → Q b { s with heap := h' }) : wpAny (model P w) A (setAddHashed a (.ref x) (mh P w k)) Q E s := by
  obtain ⟨o, ho, hex, hd⟩ := R.ob
  have sl := size_rw R.rw_
  have big := R.big
  unfold setAddHashed
  refine wpAny_holding ?_
  rw [show (100000 : Nat) = 99999 + 1 from rfl, setAddHashedIn_succ]
  refine wpAny_bind (wpAny_setState_of ho hd R.fits ?_)
  dsimp only
  refine wp_if_neg (by simp [byScan, Value.scannable]) ?_
  refine wpAny_bind (m_search R M kx hu (fun hm => ?_) fun N hm b2 b3 => ?_)
  · dsimp only
    exact wpAny_pure (q false s.heap L es ep t (Heap.SameBut.refl a s.heap) R (.inl ⟨hm, rfl⟩))
  dsimp only
  refine wpAny_bind (wpAny_setState_of ho hd R.fits ?_)
  dsimp only
  obtain ⟨c1, c2, c3, c4, c5, c6, c7, c8, c9⟩ := R.tab.put b2 b3
  rw [List.length_map] at c2 c9
  generalize way t.mask (mh P w k) N = j at *
  generalize hpt : t.put j = pt at *
  obtain ⟨t1, p⟩ := pt
  dsimp only at c1 c3 c4 c5 c9 ⊢
  subst c1
  generalize hp : SetTable.below t.place j = p at *
  have in1 : (SetTable.insertAt es p (mh P w k, Value.ref x)).toList = (L.take p ++ (x, k) :: L.drop p).map (rwM P w) := by
    rw [SetTable.toList_insertAt, R.rw_, List.map_append, List.map_cons, List.map_take, List.map_drop]
    rfl
  have in2 : (L.map fun p => mh P w p.2).take p ++ mh P w k :: (L.map fun p => mh P w p.2).drop p = (L.take p ++ (x, k) :: L.drop p).map fun p => mh P w p.2 := by
    rw [List.map_append, List.map_cons, List.map_take, List.map_drop]
  rw [in2] at c3
  have pm := ins_perm L p (x, k)
  have nd1 : ((L.take p ++ (x, k) :: L.drop p).map (·.2)).Nodup := (pm.map (·.2)).nodup_iff.mpr (List.nodup_cons.mpr ⟨hm, R.one⟩)
  have ln := pm.length_eq
  generalize L.take p ++ (x, k) :: L.drop p = L1 at *
  have e1 := size_rw in1
  generalize SetTable.insertAt es p (mh P w k, Value.ref x) = es1 at *
  rw [List.length_cons] at ln
  have tail : ∀ t2 : SetTable, TabOk t2 (L1.map fun p => mh P w p.2) → t2.mask = t.mask → t2.led = t.led → t2.fill = L.length + 1 →
      wpAny (model P w) A (do
        storeSet a es1 t2
        if (!false && t2.tooFull) = true then do
            setRelay a (SetTable.grown (es.size + 1))
            pure true
          else pure true) Q E s := by
    intro t2 T em el ef
    refine wpAny_bind (wpAny_storeSet_of ho hd ?_ (by rw [e1, ln, sizeLine_eq]; omega))
    have sb : Heap.SameBut a s.heap (s.heap.update a (Obj.putSet es1 t2)) := Heap.SameBut.update ..
    have o1 := _root_.L2.store_at (es' := es1) (t' := t2) ho hd
    generalize s.heap.update a (Obj.putSet es1 t2) = h1 at sb o1 ⊢
    have x1 : Obj.ExactSet { o with data := .set es1 (ep + 1) t2 } := ⟨hex.1, hex.2.1, hex.2.2⟩
    have l1 : w.params.followText "set-order" = true ∨ t2.led = true := by rw [el]; exact R.ld
    have z1 : t2.place.size = es1.size := by rw [T.sz, List.length_map, e1]
    by_cases hf : t2.tooFull = true
    · refine wp_if_pos (by simp [hf]) (wpAny_bind ?_)
      have full : (L.length + 1) * 5 ≥ t.mask * 3 := by
        unfold SetTable.tooFull at hf
        rw [decide_eq_true_eq, ef, em] at hf
        exact hf
      rw [sl]
      have hm8 : es1.size ≤ t2.mask := by
        rw [e1, ln, em]
        rcases R.tab.mok with e | e | e <;> rw [e] at big full ⊢ <;> omega
      have go : ∀ M, SetTable.sizeAbove (SetTable.grown (L.length + 1)) - 1 = M → MaskOk M → SetTable.sizeAbove (SetTable.grown (L.length + 1)) ≤ 128 → L1.length * 5 < M * 3 →
          wpAny (model P w) A (setRelay a (SetTable.grown (L.length + 1))) (fun _ z => wpAny (model P w) A (pure true) Q E z) E { s with heap := h1 } := fun M a1 a2 a3 a4 =>
        m_relay (s := { s with heap := h1 }) o1 x1 rfl in1 z1 T.dm hm8 nd1 l1 (by omega) a1 a2 a3 a4 fun h2 L2 es2 ep2 t2 sb2 R2 pm2 => wpAny_pure (q true h2 L2 es2 ep2 t2 (sb.trans sb2) R2 (.inr ⟨hm, pm2.trans pm⟩))
      rcases R.tab.mok with e | e | e
      · have e4 : L.length = 4 := by rw [e] at big full; omega
        exact go 31 (by rw [e4, size_20]) (.inr (.inl rfl)) (by rw [e4, size_20]; decide) (by omega)
      · have e4 : L.length = 18 := by rw [e] at big full; omega
        exact go 127 (by rw [e4, size_76]) (.inr (.inr rfl)) (by rw [e4, size_76]; decide) (by omega)
      · rw [e] at full
        omega
    · refine wp_if_neg (by simp [hf]) (wpAny_pure (q true h1 L1 es1 (ep + 1) t2 sb ⟨⟨_, o1, x1, rfl⟩, in1, T, nd1, l1, ?_, by omega⟩ (.inr ⟨hm, pm⟩)))
      unfold SetTable.tooFull at hf
      rw [decide_eq_true_eq, ef] at hf
      rw [ln]
      omega
  by_cases hp : t1.plain = true
  · refine wp_if_pos hp (wpAny_bind (m_hsh kx fun b => ?_))
    cases b
    · exact tail _ (tab_pl c3 false) c4 c5 c9
    · exact tail _ c3 c4 c5 c9
  · exact wp_if_neg hp (wpAny_bind (wpAny_pure (tail _ c3 c4 c5 c9)))
end
/-! ### the set comprehension, whatever set.add does to the new set -/
abbrev setO0 (w : World) : Obj := { cls := .type "set", dict := none, data := .set #[] 0 (.fresh 0 0 (!w.params.followText "set-order")) }
section
variable {X : Cx}
/-- {elt for target in iter if ..}: O D a new set at D, r what set.add does -/
def tSg (O : Addr → HO) (r : V → List V → Hp → VK → Prop) (wi : TI) (g : TG) (tt : TT) (te : TE) (vs : List Nat) : TE := fun σ H Q => wi σ H fun J H1 => ∀ D, H1 D = none → ∃ W : Nat → Nat → Hp → Prop, (∃ m, W 0 m (upd H1 D (O D))) ∧ ∀ i m H, W i m H →
  (J.stop i H ∧ Q (.ref D) H) ∨ (J.go i H ∧ ∃ Nx : Hp → Prop, (∀ H', Nx H' → ∃ m', m' < m ∧ W (i + 1) m' H') ∧ ∀ x H', J.yld i H x H' → g x (wipe σ vs) H' fun σ2 H2 => wipe σ2 vs = wipe σ vs ∧ tt σ2 H2 fun b H3 => if b = true then te σ2 H3 fun y H4 => r (.ref D) [y] H4 fun _ H5 => Nx H5 else Nx H3)
/-- the context of the block whose scope's locals are at C -/
abbrev bx (X : Cx) (sc : Scope) (s : Shared) (H : Hp) (C : Addr) (cl : List (PySem.Str × Addr)) (fp : List Addr) : Cx := X.blk s H sc (compEnvC sc cl C X.env) fp
theorem pe_sg {elt tg it0 : Expr} {ifs : List Expr} {sc : Scope} {own : List (PySem.Str × Nat)} {pos : Pos} {wi : TI} {g : TG} {tt : TT} {te : TE} {O : Addr → HO} {r : V → List V → Hp → VK → Prop}
    (hO : ∀ (h : Heap) (H : Hp), ObjOk X.prog X.w H (h.push (setO0 X.w)) h.objs.size (O h.objs.size)) (hr : ∀ s H C cl fp, MtR (bx X sc s H C cl fp) "set.add" r) (hc : X.calm = true) (hN : X.N.Nodup) (hi : PI X tg it0 wi) (ok : BlkOk X.N X.env.scope sc own)
    (hg : ∀ s H C cl fp, PG (bx X sc s H C cl fp) tg g) (ht : ∀ s H C cl fp, PTs (bx X sc s H C cl fp) ifs tt) (he : ∀ s H C cl fp, PE (bx X sc s H C cl fp) elt te) (hs : ∀ x, foldedSetIterable it0 X.env x = pure x := by intro _; rfl) :
    PE X (.SetComp elt [⟨tg, it0, ifs, 0⟩] sc pos) (tSg O r wi g tt te (own.map (·.2))) := by
  refine ⟨fun pins s σ H Q I h => ?_⟩
  rw [PpSet.eval_SetComp]
  have frees : ∀ y ∈ sc.names, y.2 = .free → ∃ c, X.env.cells.lookup y.1 = some c := fun y hy e => (ok.free y hy e).elim (fun k => I.ok.has _ (.inl k)) fun k => I.ok.has _ (.inr k)
  refine wpAny_comprehension_free (use := none) rfl hs (closure_ok frees) ok.kind (fun y hy e => by rw [ok.uniq y hy, e]) (thn (hi.run pins s σ H _ I h) fun xv s1 h1 => thn h1 fun iv s2 h2 => ?_)
  obtain ⟨it, fp, tn, J, H2, rfl, I2, T, u2, f2, q⟩ := h2
  refine PpSet.newSet_ok (newEnv_comp ?_)
  generalize eD : s2.heap.objs.size = D
  obtain ⟨W, ⟨m0, w0⟩, turn⟩ := q D (I2.hok.fresh (Nat.le_of_eq eD))
  obtain ⟨s3, es3⟩ : ∃ s3 : Shared, s3 = { s2 with heap := s2.heap.push (setO0 X.w) } := ⟨_, rfl⟩
  obtain ⟨H3, eH3⟩ : ∃ H3, H3 = upd H2 D (O D) := ⟨_, rfl⟩
  have hp3 : s3.heap = s2.heap.push (setO0 X.w) := by rw [es3]
  have I3 : Inv X pins σ H3 s3 := by
    rw [es3, eH3]
    refine I2.laid (t' := s2.toks) (fun b o e => Heap.get?_push_of_some _ e) (Nat.le_of_eq eD) ?_
    rw [← eD]
    exact hO _ _
  have old3 : ∀ b o, s2.heap.get? b = some o → s3.heap.get? b = some o := fun b o e => by rw [hp3]; exact Heap.get?_push_of_some _ e
  have f3 : ∀ b ∈ fp, FpOk X pins H3 b ∧ b < s3.heap.objs.size := fun b hb => by
    obtain ⟨o, e, _⟩ := T.obj _ _ u2 b hb
    have lt : b < s2.heap.objs.size := Heap.lt_size e
    refine ⟨⟨?_, (f2 b hb).2⟩, by rw [hp3, Heap.size_push]; exact Nat.lt_succ_of_lt lt⟩
    rw [eH3, upd_ne (by rw [← eD]; exact Nat.ne_of_lt lt)]
    exact (f2 b hb).1
  have I4 := block_start I3 ok hN f3
  rw [← eH3] at w0
  rw [← es3]
  show codeAny _ _ (.compStart (.SetComp elt [⟨tg, it0, ifs, 0⟩] sc pos) 0 (.ref it) (.ref D) (compEnvC sc (cellsFrom (s3.heap.objs.size + 1) sc.names (cloFrom X.env.cells sc.names [])) s3.heap.objs.size X.env))
    (compPost (model X.prog X.w) X.A X.xe none (EP X pins σ Q) (.ref D) s3.heap.objs.size) { s3 with heap := pushCells (s3.heap.push { cls := .type "dict", data := .dict #[] }) sc.names }
  have pg := hg s3 H3 s3.heap.objs.size (cellsFrom (s3.heap.objs.size + 1) sc.names (cloFrom X.env.cells sc.names [])) fp
  have pt := ht s3 H3 s3.heap.objs.size (cellsFrom (s3.heap.objs.size + 1) sc.names (cloFrom X.env.cells sc.names [])) fp
  have pe := he s3 H3 s3.heap.objs.size (cellsFrom (s3.heap.objs.size + 1) sc.names (cloFrom X.env.cells sc.names [])) fp
  have pr := hr s3 H3 s3.heap.objs.size (cellsFrom (s3.heap.objs.size + 1) sc.names (cloFrom X.env.cells sc.names [])) fp
  generalize ece : compEnvC sc (cellsFrom (s3.heap.objs.size + 1) sc.names (cloFrom X.env.cells sc.names [])) s3.heap.objs.size X.env = ce at I4 ⊢
  have lce : ce.locals = s3.heap.objs.size := by rw [← ece]; rfl
  obtain ⟨s4, es4⟩ : ∃ s4 : Shared, s4 = { s3 with heap := pushCells (s3.heap.push { cls := .type "dict", data := .dict #[] }) sc.names } := ⟨_, rfl⟩
  rw [← es4] at I4 ⊢
  have u3 : tn 0 s3.heap := T.keep _ _ _ u2 fun b _ o e => old3 b o e
  have u4 : tn 0 s4.heap := T.keep _ _ _ u3 fun b _ o e => by rw [es4]; exact pushCells_keeps _ _ _ _ (Heap.get?_push_of_some _ e)
  unfold bx at pg pt pe pr
  rw [ece] at pg pt pe pr
  have out : ∀ {σ' : L2.St} {H' : Hp} {z : Shared}, Inv (X.blk s3 H3 sc ce fp) [] σ' H' z → (∀ b ∈ fp, H' b = none) → ∀ b ∈ fp, FpOk (X.blk s3 H3 sc ce fp) [] H' b := fun Iz hn b hb =>
    ⟨hn b hb, (Iz.ok.exf b hb).1, Iz.ok.exfs b hb, .inl hb, fun x c e => (Iz.ok.exf b hb).2 x c e, fun p hp => by simp [show p ∈ ([] : List (Addr × Obj)) ++ [] ↔ False by simp] at hp⟩
  have lp : codeAny (model X.prog X.w) X.A (.compLoop (.SetComp elt [⟨tg, it0, ifs, 0⟩] sc pos) 0 (.ref it) (.ref D) ce) (compPost (model X.prog X.w) X.A X.xe none (EP X pins σ Q) (.ref D) s3.heap.objs.size) s4 := by
    refine PpSet.compLoopS_any (fun n z => ∃ i H', Inv (X.blk s3 H3 sc ce fp) [] (wipe σ (own.map (·.2))) H' z ∧ tn i z.heap ∧ (∀ b ∈ fp, H' b = none) ∧ W i n H') (fun n z hz => ?_) m0 ⟨0, H3, I4, u4, fun b hb => (f3 b hb).1.1, w0⟩
    obtain ⟨i, Hz, Iz, uz, nz, wz⟩ := hz
    rcases turn i n Hz wz with ⟨st, qe⟩ | ⟨go, Nx, hNx, step⟩
    · refine thnF (T.done (X.blk s3 H3 sc ce fp) rfl rfl rfl hc i [] z _ Hz (fun _ _ => False) Iz (out Iz nz) uz st) fun rr z2 ⟨er, I6⟩ => ?_
      subst er
      have I7 : Inv X pins σ Hz z2 := I3.call' (ch := fp) I6.os I6.base I6.hok I6.bare fun b hb => ⟨(f3 b hb).1.2.2.2.1, (f3 b hb).1.2.1, (f3 b hb).1.2.2.2.2.1, (f3 b hb).1.2.2.2.2.2⟩
      have nC : Hz s3.heap.objs.size = none := by
        have h0 : Hz ce.locals = none := I6.free
        rw [lce] at h0
        exact h0
      obtain ⟨mm, hm, _⟩ := I6.loc
      have hm : z2.heap.Ns ce.locals mm := hm
      rw [lce] at hm
      obtain ⟨g0, g1, g2, g3, g4, g5⟩ := I3.fpOk (Nat.le_refl _) nC
      exact ⟨mm, hm, fun h'' sb => ⟨.ref D, Hz, I7.turned (t' := z2.toks) (fun b o hb e => (sb.2 b hb).trans e) g0 g1 g3 g4 g5, rfl, qe⟩⟩
    · refine thnF (T.item (X.blk s3 H3 sc ce fp) rfl rfl rfl hc i [] z _ Hz (fun _ _ => False) Iz (out Iz nz) uz go) fun rr z6 ⟨u, er, h6⟩ => ?_
      subst er
      refine thnF h6 fun _ z7 ⟨x, H7, I7, r7, y7, u7, n7⟩ => ?_
      refine thnF (pg.run _ z7 _ H7 x u _ (I7.pinned (out I7 n7) (T.obj _ _ u7)) r7 (step x H7 y7)) fun _ z8 ⟨σ8, H8, I8, ew, q8⟩ => ?_
      refine thnF (pt.run _ z8 σ8 H8 _ I8 q8) fun b z9 ⟨H9, I9, q9⟩ => ?_
      have fin : ∀ {z' : Shared} {H' : Hp}, Inv (X.blk s3 H3 sc ce fp) ([] ++ pinsAt fp z7.heap) σ8 H' z' → Nx H' → ∃ m, m < n ∧ ∃ i H', Inv (X.blk s3 H3 sc ce fp) [] (wipe σ (own.map (·.2))) H' z' ∧ tn i z'.heap ∧ (∀ b ∈ fp, H' b = none) ∧ W i m H' := fun {z' H'} I' nx => by
        obtain ⟨m', lt, w'⟩ := hNx H' nx
        have pin : ∀ b ∈ fp, ∀ o, z7.heap.get? b = some o → z'.heap.get? b = some o ∧ H' b = none := fun b hb o e =>
          ⟨(I'.pin (b, o) (List.mem_append_right _ (List.mem_append_right _ (mem_pinsAt hb e)))).1, (I'.pin (b, o) (List.mem_append_right _ (List.mem_append_right _ (mem_pinsAt hb e)))).2.1⟩
        refine ⟨m', lt, i + 1, H', (I'.unpinned (pins := [])).weak (by rw [← ew, wipe_length]) (fun j v e => ?_), T.keep _ _ _ u7 fun b hb o e => (pin b hb o e).1, fun b hb => ?_, w'⟩
        · rw [← ew] at e
          exact (wipe_some e).1
        · obtain ⟨o, e, _⟩ := T.obj _ _ u7 b hb
          exact (pin b hb o e).2
      cases b with
      | false =>
        simp only [Bool.false_eq_true, if_false] at q9 ⊢
        exact fin I9 q9
      | true =>
        simp only [if_true] at q9 ⊢
        refine thnF (pe.run _ z9 σ8 H9 _ I9 q9) fun v z10 ⟨y, H10, I10, r10, q10⟩ => ?_
        exact thnF (pr _ z10 σ8 H10 (.ref D) [y] (.ref D) [v] _ I10 rfl (.cons r10 .nil) q10) fun _ z11 ⟨_, H11, I11, _, nx⟩ => fin I11 nx
  exact PpSet.codeAny_compStart_set lp (T.self X.A 0 _ _ _ u4 lp)
end
/-! ### sorted of a set whose members are data without lists -/
open PySem.W (EachIs AllAlike Sortable dataLe dataLt alike keyToks sort_pairwise sortLe_total list_sort_data)
theorem perm_back {α β : Type} (f : β → α) {l l' : List α} (h : l.Perm l') : ∀ B : List β, l' = B.map f → ∃ B' : List β, l = B'.map f ∧ B'.Perm B := by
  induction h with
  | nil => exact fun B e => ⟨[], rfl, by rw [List.map_eq_nil_iff.mp e.symm]⟩
  | cons x _ ih =>
    intro B e
    cases B with
    | nil => cases e
    | cons b B =>
      rw [List.map_cons] at e
      injection e with e1 e2
      obtain ⟨B', e3, p⟩ := ih B e2
      exact ⟨b :: B', by rw [List.map_cons, ← e3, e1], p.cons b⟩
  | swap x y l =>
    intro B e
    cases B with
    | nil => cases e
    | cons b B =>
      cases B with
      | nil => cases e
      | cons c B =>
        rw [List.map_cons, List.map_cons] at e
        injection e with e1 e2
        injection e2 with e2 e3
        exact ⟨c :: b :: B, by rw [List.map_cons, List.map_cons, ← e3, e1, e2], .swap b c B⟩
  | trans _ _ i1 i2 =>
    intro B e
    obtain ⟨B1, e1, p1⟩ := i2 B e
    obtain ⟨B2, e2, p2⟩ := i1 B1 e1
    exact ⟨B2, e2, p2.trans p1⟩
section
variable {P : Program} {w : World} {A : Around} {E : Value → Shared → Prop} {s : Shared} {a : Addr} {es : Array (Int × Value)} {ep : Nat} {t : SetTable}
theorem each_eq {β : Type} {f : β → Value} : ∀ {vs : List Value} {B : List β}, EachIs (fun v b => v = f b) vs B → vs = B.map f
  | _, _, .nil => rfl
  | _, _, .cons e r => by rw [List.map_cons, ← each_eq r, e]
theorem each_of {β : Type} {R : Value → β → Prop} (f : β → Value) : ∀ B : List β, (∀ b ∈ B, R (f b) b) → EachIs R (B.map f) B
  | [], _ => .nil
  | b :: B, h => .cons (h b (List.mem_cons_self ..)) (each_of f B fun c hc => h c (List.mem_cons_of_mem _ hc))
theorem sorted_gen {β : Type} (f : β → Value) (enc : β → PyData) (B : List β) {Q : Value → Shared → Prop} (ha : SetAt s.heap a es ep t) (hf : t.fits es.size = true) (hz : es.size < scanBound) (ris : Ris t.place.toList) (hl : w.params.followText "set-order" = true ∨ t.led = true) (hh : A.handled = none) (hu : A.units + 64 < cLine)
    (hv : es.toList.map (·.2) = B.map f) (rd : ∀ b ∈ B, ∀ h' : Heap, (∀ c o, s.heap.get? c = some o → h'.get? c = some o) → Reads h' (f b) (enc b) []) (hal : AllAlike (B.map enc)) (hk : Sortable (B.map enc)) (hd : ∀ b ∈ B, (enc b).depth ≤ 8)
    (q : ∀ s' p (out : Array Value) (c : Nat) (B' : List β), (∀ b o, s.heap.get? b = some o → s'.heap.get? b = some o) → s'.gens = s.gens → s'.os = s.os → s.heap.objs.size ≤ p → s'.heap.get? p = some (seqObj "list" out c) → out.toList = B'.map f → B'.Perm B →
      B'.Pairwise (fun x y => dataLe false enc x y = true) → Q (.ref p) s') : wpAny (model P w) A (call (.builtin "sorted") [.ref a]) Q E s := by
  refine Calls.call_function_entry kind_sorted plain_sorted entry_sorted (args_sorted1 _) ?_
  unfold Builtin.«sorted»
  refine wpAny_bind (m := checkCount "sorted" 1 1 _) (wpAny_pure ?_)
  refine wpAny_bind (collect_set (A := A.in1) hh ha hf hz ris hl fun s1 vs k1 z1 g1 o1 pm => ?_)
  rw [hv] at pm
  obtain ⟨B1, rfl, p1⟩ := perm_back f pm B rfl
  have n1 : B1.length ≤ sizeLine := by
    have h1 := congrArg List.length hv
    rw [List.length_map, List.length_map, Array.length_toList] at h1
    rw [p1.length_eq, ← h1]
    exact fits_of_scanBound hz
  refine wpAny_bind (wpAny_newList ?_ (by rw [List.length_map]; exact n1))
  generalize hh2 : s1.heap.push { cls := .type "list", data := .seq (B1.map f).toArray } = h2
  have hoL : h2.get? s1.heap.objs.size = some (seqObj "list" (B1.map f).toArray 0) := by rw [← hh2]; exact Heap.get?_push_size _ rfl
  have k2 : ∀ c o, s.heap.get? c = some o → h2.get? c = some o := fun c o e => by rw [← hh2]; exact Heap.get?_push_of_some _ (k1 c o e)
  have z2 : h2.objs.size = s1.heap.objs.size + 1 := by rw [← hh2]; exact size_push' _ _
  have rd2 : EachIs (fun v b => ∃ as, Reads h2 v (enc b) as ∧ s1.heap.objs.size ∉ as) (B1.map f) B1 := each_of f B1 fun b hb => ⟨[], rd b (p1.mem_iff.mp hb) h2 k2, List.not_mem_nil⟩
  have pe : (B1.map enc).Perm (B.map enc) := p1.map enc
  refine wpAny_bind (wpAny_holding (list_sort_data (s := { s1 with heap := h2 }) (R := fun v b => v = f b) hoL (each_of f B1 fun _ _ => rfl) rd2 (fun d hd1 d' hd2 => hal d (pe.mem_iff.mp hd1) d' (pe.mem_iff.mp hd2))
    (hk.elim (fun z => .inl fun d hd1 => z d (pe.mem_iff.mp hd1)) fun z => .inr fun d hd1 => z d (pe.mem_iff.mp hd1)) n1 (fun b hb => ?_) fun out _ ho => ?_))
  · have h8 := hd b (p1.mem_iff.mp hb)
    have hA : A.in1.units ≤ A.units + 1 := by first | exact Nat.le_refl _ | exact Nat.le_succ _ | simp
    omega
  · obtain ⟨c, hc⟩ := sortedHeap_at (vs := B1.map f) (out := out.toArray) hoL
    have pw := sort_pairwise (sortLe_total (listOrd itemOrd) false fun b => keyToks (enc b)) B1
    refine wpAny_pure ⟨_, rfl, q _ s1.heap.objs.size out.toArray c (B1.mergeSort (dataLe false enc)) (fun b u e => ?_) g1 o1 z1 hc (by rw [each_eq ho]) ((List.mergeSort_perm _ _).trans p1) pw⟩
    have lt := Heap.lt_size (k1 b u e)
    show (sortedHeap h2 s1.heap.objs.size (B1.map f) out.toArray).get? b = some u
    rw [sortedHeap_old (Nat.ne_of_lt lt) (by rw [z2]; exact Nat.lt_succ_of_lt lt)]
    exact k2 b u e
end
end Gk
set_option Elab.async false
set_option autoImplicit false
set_option linter.all false
set_option maxRecDepth 100000
set_option maxHeartbeats 4000000
namespace Gk
open PySem PySem.Spec PyProof.Rows L2
open PySem.W (EachIs AllAlike Sortable dataLe dataLt alike keyToks sort_pairwise sortLe_total list_sort_data)
/-! ### set of a text -/
section
open PySem.Froz (SD TxOk addTx runD sObj finU itObj itEnd sing endHeap two tupObj stopObj)
variable {P : Program} {w : World} {A : Around} {E : Value → Shared → Prop} {s : Shared}
theorem add_ris {D : SD} {h : Int} {v : Value} (r : Ris D.2.2.place.toList) : Ris (addTx h v D).2.2.place.toList ∧ (addTx h v D).2.2.led = D.2.2.led := by
  have r1 := layNew_ris D.2.2 D.1 h v r
  have l1 := layNew_led D.2.2 D.1 h v
  unfold addTx PySem.Froz.tailTx
  have e1 : Ris (if (layNew D.2.2 D.1 h v).2.1.plain = true then { (layNew D.2.2 D.1 h v).2.1 with plain := false } else (layNew D.2.2 D.1 h v).2.1).place.toList ∧ (if (layNew D.2.2 D.1 h v).2.1.plain = true then { (layNew D.2.2 D.1 h v).2.1 with plain := false } else (layNew D.2.2 D.1 h v).2.1).led = D.2.2.led := by
    split
    · exact ⟨r1, l1⟩
    · exact ⟨r1, l1⟩
  generalize (if (layNew D.2.2 D.1 h v).2.1.plain = true then { (layNew D.2.2 D.1 h v).2.1 with plain := false } else (layNew D.2.2 D.1 h v).2.1) = t2 at e1 ⊢
  split
  · exact ⟨relayAll_ris t2 _ _, (relayAll_led t2 _ _).trans e1.2⟩
  · exact e1
theorem run_ris : ∀ (cs : List Nat) (tk : Tok) (D : SD), Ris D.2.2.place.toList → Ris (runD w cs tk D).2.2.place.toList ∧ (runD w cs tk D).2.2.led = D.2.2.led
  | [], _, _, r => ⟨r, rfl⟩
  | c :: cs, tk, D, r => by
    obtain ⟨r1, l1⟩ := add_ris (h := hashStr w (sing c)) (v := .str (sing c) tk) r
    obtain ⟨r2, l2⟩ := run_ris cs (tk + 2) _ r1
    exact ⟨r2, l2.trans l1⟩
theorem run_ok : ∀ (cs : List Nat) (tk : Tok) (D : SD) (l : List Str), TxOk P w D l → TxOk P w (runD w cs tk D) ((cs.map sing).reverse ++ l)
  | [], _, _, _, F => F
  | c :: cs, tk, D, l, F => by
    rw [List.map_cons, List.reverse_cons, List.append_assoc]
    exact run_ok cs (tk + 2) _ (sing c :: l) (PySem.Froz.add_ok tk F)
/-- set(v): a new set, then what v gives -/
theorem call_set_by {v : Value} {Po : Heap → Prop} {Q : Value → Shared → Prop}
    (up : ∀ (A' : Around) (E' : Value → Shared → Prop) (Q' : Unit → Shared → Prop), A' = A.in1.in1 → (∀ (h' : Heap) (tk : Nat), Po h' → (∀ b o, s.heap.get? b = some o → h'.get? b = some o) → Q' () { s with heap := h', toks := tk }) →
      wpAny (model P w) A' (Builtin.Frozenset.updateFrom "set.__init__" s.heap.objs.size v) Q' E' { s with heap := s.heap.push (setO0 w) })
    (q : ∀ (h' : Heap) (tk : Nat), Po h' → (∀ b o, s.heap.get? b = some o → h'.get? b = some o) → Q (.ref s.heap.objs.size) { s with heap := h', toks := tk }) : wpAny (model P w) A (call (.type "set") [v]) Q E s := by
  obtain ⟨c, tl, hmro⟩ := F.called_set.mro
  have hmade := F.called_set.made
  have hsub := F.called_set.sub
  refine wpAny_call (codeAny_of_tree ?_)
  show wpAny _ _ (callAny (.type "set") _) _ _ _
  refine wpAny_pure ⟨Code.quiet_builtin _ (by decide +kernel), codeAny_builtin F.entry_type_call ?_⟩
  rw [Around.under_plain (weight_type_call_type "set" [v] []) rfl]
  have h1 := F.called_set.notType
  have h2 := F.called_set.canCreate
  have hct := F.typeCall_set_1 v
  repeat (any_goals (first | assumption | wp_step))
  refine codeAny_mono (code_set_led1 v (E := E) (Q₁ := fun ob s1 => ob = .ref s.heap.objs.size ∧ s1 = { s with heap := s.heap.push (setO0 w) }) ⟨rfl, rfl⟩) fun r s1 hr => ?_
  cases r with
  | error e => exact hr
  | ok fl =>
    cases fl with
    | ret ob =>
      obtain ⟨rfl, rfl⟩ := hr
      have hS : (s.heap.push (setO0 w)).get? s.heap.objs.size = some (setO0 w) := Heap.get?_push_size _ rfl
      have hT : Shared.TypeIs { s with heap := s.heap.push (setO0 w) } (.ref s.heap.objs.size) "set" := ⟨_, hS, rfl⟩
      have hli := F.called_set.init.lookup
      have hbi := F.called_set.init.bind (.ref s.heap.objs.size)
      repeat (any_goals (first | assumption | wp_step))
      refine codeAny_mono (codeAny_call_builtin (R := wants (fun r z => r = .none ∧ ∃ (h' : Heap) (tk : Nat), z = { s with heap := h', toks := tk } ∧ Po h' ∧ ∀ b o, s.heap.get? b = some o → h'.get? b = some o) E) F.called_set.init.plain F.entry_set_init (check_set_init_1 hT ?_)) fun r2 s2 hr2 => ?_
      · unfold Builtin.«set.__init__» noKeywords
        generalize hU : Builtin.Frozenset.updateFrom = U
        wp_walk
        subst hU
        refine up _ _ _ rfl fun h' tk po k => ?_
        show wpAny _ _ (ret Value.none) _ _ _
        exact wpAny_pure ⟨rfl, h', tk, rfl, po, k⟩
      · cases r2 with
        | error e => exact hr2
        | ok fl2 =>
          cases fl2 with
          | ret r =>
            obtain ⟨rfl, h', tk, rfl, po, k⟩ := hr2
            repeat (any_goals (first | assumption | wp_step))
            exact q _ _ po k
          | _ => exact hr2.elim
    | _ => exact hr.elim
/-- at a: a set of the texts l -/
def PoX (P : Program) (w : World) (a : Addr) (l : List Str) (h : Heap) : Prop := ∃ D : SD, h.get? a = some (sObj "set" D) ∧ TxOk P w D l ∧ Ris D.2.2.place.toList ∧ (w.params.followText "set-order" = true ∨ D.2.2.led = true)
theorem set_text {x : Str} {u : Tok} (hx : x.cps.all (· < 128) = true) (nd : x.cps.toList.Nodup) (hl : x.cps.toList.length + 1 < scanBound) (hh : A.handled = none) {Q : Value → Shared → Prop}
    (q : ∀ (h' : Heap) (tk : Nat), PoX P w s.heap.objs.size (x.cps.toList.map sing).reverse h' → (∀ b o, s.heap.get? b = some o → h'.get? b = some o) → Q (.ref s.heap.objs.size) { s with heap := h', toks := tk }) : wpAny (model P w) A (call (.type "set") [.str x u]) Q E s := by
  refine call_set_by (fun A' E' Q' eA up => ?_) q
  have hh' : A'.in1.handled = none := by rw [eA]; simp [hh]
  have hS : (s.heap.push (setO0 w)).get? s.heap.objs.size = some (setO0 w) := Heap.get?_push_size _ rfl
  unfold Builtin.Frozenset.updateFrom
  refine wpAny_bind (Fz.anySet (wp_if_neg (by decide) (wpAny_bind (wpAny_typeOf (PySem.typeIs_str _ _ _) (wp_if_neg (by decide) (wpAny_bind (wpAny_pyIter_ascii hx ?_)))))))
  refine wpAny_bind (wpAny_runValue ?_)
  have z1 : (s.heap.push (setO0 w)).objs.size = s.heap.objs.size + 1 := Heap.size_push ..
  have ga : ((s.heap.push (setO0 w)).push (itObj x u 0)).get? s.heap.objs.size = some (sObj "set" (#[], 0, .fresh 0 0 (!w.params.followText "set-order"))) := Heap.get?_push_of_some _ hS
  have gi : ((s.heap.push (setO0 w)).push (itObj x u 0)).get? (s.heap.push (setO0 w)).objs.size = some (itObj x u 0) := Heap.get?_push_size _ rfl
  have hne : s.heap.objs.size ≠ (s.heap.push (setO0 w)).objs.size := by rw [z1]; exact Nat.ne_of_lt (Nat.lt_succ_self _)
  refine PySem.Froz.code_update (P := P) (w := w) (u := u) (T := "set") hne (by first | exact hh' | simp [eA, hh]) x.cps.toList 0 _ [] _ rfl ga gi (TxOk.nil rfl) (fun _ _ => List.not_mem_nil) nd (by simpa using Nat.lt_of_succ_lt hl) ?_
  obtain ⟨h2, eh2⟩ : ∃ h2, h2 = (s.heap.push (setO0 w)).push (itObj x u 0) := ⟨_, rfl⟩
  obtain ⟨D, eD⟩ : ∃ D : SD, D = runD w x.cps.toList s.toks (#[], 0, .fresh 0 0 (!w.params.followText "set-order")) := ⟨_, rfl⟩
  show wpAny _ _ (pure ()) _ _ (finU { s with heap := (s.heap.push (setO0 w)).push (itObj x u 0) } s.heap.objs.size "set" (s.heap.push (setO0 w)).objs.size (runD w x.cps.toList s.toks (#[], 0, .fresh 0 0 (!w.params.followText "set-order"))) (0 + x.cps.toList.length) x.cps.toList.length)
  rw [← eD]
  rw [← eh2] at ga gi ⊢
  refine wpAny_pure ?_
  have old2 : ∀ b o, s.heap.get? b = some o → h2.get? b = some o := fun b o e => by rw [eh2]; exact Heap.get?_push_of_some _ (Heap.get?_push_of_some _ e)
  have rr : Ris D.2.2.place.toList ∧ D.2.2.led = (!w.params.followText "set-order") := by
    rw [eD]
    exact run_ris x.cps.toList s.toks _ List.Pairwise.nil
  have tx : TxOk P w D (x.cps.toList.map sing).reverse := by
    have h := run_ok (P := P) (w := w) x.cps.toList s.toks (#[], 0, .fresh 0 0 (!w.params.followText "set-order")) [] (TxOk.nil rfl)
    rw [List.append_nil, ← eD] at h
    exact h
  have two1 : (two h2 s.heap.objs.size (sObj "set" D) (s.heap.push (setO0 w)).objs.size (itEnd (0 + x.cps.toList.length))).get? s.heap.objs.size = some (sObj "set" D) :=
    PySem.Heap.get?_update_of_ne _ (Ne.symm hne) (PySem.Froz.get_upd _ ga rfl)
  have two2 : ∀ b o, s.heap.get? b = some o → (two h2 s.heap.objs.size (sObj "set" D) (s.heap.push (setO0 w)).objs.size (itEnd (0 + x.cps.toList.length))).get? b = some o := fun b o e => by
    have lt := Heap.lt_size e
    exact PySem.Heap.get?_update_of_ne _ (by rw [z1]; exact Nat.ne_of_gt (Nat.lt_succ_of_lt lt)) (PySem.Heap.get?_update_of_ne _ (Nat.ne_of_gt lt) (old2 b o e))
  refine up _ _ ⟨D, Heap.get?_push_of_some _ (Heap.get?_push_of_some _ two1), tx, rr.1, ?_⟩ fun b o e => Heap.get?_push_of_some _ (Heap.get?_push_of_some _ (two2 b o e))
  rw [rr.2]
  cases w.params.followText "set-order"
  · exact .inr rfl
  · exact .inl rfl
/-- set of a list of ints -/
theorem set_ints {l : Addr} {its : Array Value} (ns : List Int) (hh : A.handled = none) (hl : s.heap.IsList l its) (hi : IntsAre its.toList ns) (hb : ns.length + 1 < scanBound) {Q : Value → Shared → Prop}
    (q : ∀ (h' : Heap) (tk : Nat), (∃ c, c ≤ ns.length ∧ SetR w h' s.heap.objs.size (fun j => decide (j ∈ ns)) c) → (∀ b o, s.heap.get? b = some o → h'.get? b = some o) → Q (.ref s.heap.objs.size) { s with heap := h', toks := tk }) : wpAny (model P w) A (call (.type "set") [.ref l]) Q E s := by
  have sz : its.size = ns.length := by rw [← Array.length_toList, IntsAre.length hi]
  refine call_set_by (fun A' E' Q' eA up => ?_) q
  have hS : (s.heap.push (setO0 w)).get? s.heap.objs.size = some (setO0 w) := Heap.get?_push_size _ rfl
  have z1 : (s.heap.push (setO0 w)).objs.size = s.heap.objs.size + 1 := Heap.size_push ..
  obtain ⟨ol, ho, hc, n, hd⟩ := hl
  have lt : l < s.heap.objs.size := Heap.lt_size ho
  have ho' : (s.heap.push (setO0 w)).get? l = some ol := Heap.get?_push_of_some _ ho
  have hl' : (s.heap.push (setO0 w)).IsList l its := ⟨ol, ho', hc, n, hd⟩
  have hT : Shared.TypeIs { s with heap := s.heap.push (setO0 w) } (.ref l) "list" := ⟨ol, ho', hc⟩
  unfold Builtin.Frozenset.updateFrom
  refine wpAny_bind ?_
  unfold Builtin.Frozenset.isAnySet orM
  refine wpAny_bind (wpAny_isInstance hT F.sub_list_set ?_)
  show wpAny _ _ (isInstance (.ref l) (.type "frozenset")) _ _ _
  refine wpAny_isInstance hT F.sub_list_frozenset ?_
  refine wp_if_neg (by decide) (wpAny_bind (wpAny_typeOf hT ?_))
  refine wp_if_neg (by decide) ?_
  refine wpAny_bind (wpAny_pyIter_list hl' ?_)
  refine wpAny_bind (wpAny_runValue ?_)
  have n1 : l ≠ (s.heap.push (setO0 w)).objs.size := by rw [z1]; exact Nat.ne_of_lt (Nat.lt_succ_of_lt lt)
  have n2 : s.heap.objs.size ∉ [(s.heap.push (setO0 w)).objs.size, l] := by
    rw [z1]
    intro h
    rcases List.mem_cons.mp h with h | h
    · exact absurd h (Nat.ne_of_lt (Nat.lt_succ_self _))
    · exact absurd (List.mem_singleton.mp h) (Nat.ne_of_gt lt)
  have hv : ∀ (i : Nat) (v : Value), its[i]? = some v → ∃ k t, ns[i]? = some k ∧ v = .int k t := fun i v hv => by
    have hi2 : i < ns.length := by rw [← sz]; exact (Array.getElem?_eq_some_iff.mp hv).1
    obtain ⟨t, e⟩ := PyProof.Rows.IntsAre.int_at hi i v (by rw [Array.getElem?_toList]; exact hv)
    refine ⟨ns[i], t, List.getElem?_eq_getElem hi2, e.trans ?_⟩
    rw [List.getD_eq_getElem?_getD, List.getElem?_eq_getElem hi2]
    rfl
  have hh3 : A'.in1.handled = none := by rw [eA]; simp [hh]
  refine set_update_ints ((Walks.list hh3 _ l n1 its).toS) s.heap.objs.size n2 ns sz hb hv (its.size - 0) 0 _ (by omega) (Nat.zero_le _) ⟨⟨_, Heap.get?_push_size _ rfl, rfl, rfl⟩, (hl'.push _)⟩ ?h0 fun s' c hm hc' hS' => ?h1
  case h0 =>
    refine ⟨0, Nat.le_refl 0, setR_new_at (w := w) ?_⟩
    exact Heap.get?_push_of_some _ hS
  obtain ⟨h', g2, d', tk', os'⟩ := s'
  obtain rfl : g2 = s.gens := hm.gens
  obtain rfl : d' = s.drawn := hm.drawn
  obtain rfl : os' = s.os := hm.os
  show wpAny _ _ (pure ()) _ _ _
  refine wpAny_pure (up h' tk' ⟨c, by rw [← sz]; exact hc', hS'⟩ fun b o e => ?_)
  have lb : b < s.heap.objs.size := Heap.lt_size e
  refine hm.heap b o (fun h => ?_) (Heap.get?_push_of_some _ (Heap.get?_push_of_some _ e))
  rcases List.mem_cons.mp h with h | h
  · exact absurd h (Nat.ne_of_lt lb)
  · have h2 := List.mem_singleton.mp h
    rw [z1] at h2
    exact absurd h2 (Nat.ne_of_lt (Nat.lt_succ_of_lt lb))
end
end Gk
set_option Elab.async false
set_option autoImplicit false
set_option linter.all false
set_option maxRecDepth 100000
set_option maxHeartbeats 4000000
/-! # Sets as things of the layer: rules and steps -/
namespace Gk
open PySem PySem.Spec PyProof.Rows L2
open PySem.W (EachIs AllAlike Sortable dataLe dataLt alike keyToks)
section
variable {P : Program} {w : World} {H : Hp} {h : Heap} {a : Addr}
def SetXO (P : Program) (w : World) (a : Addr) (l : List Str) : HO := .ext (PoX P w a l)
theorem setXO_new {l : List Str} (R : PoX P w a l h) : ObjOk P w H h a (SetXO P w a l) := by
  have ⟨D, ho, r⟩ := R
  exact ⟨R, ⟨_, ho⟩, fun h1 h2 p k => by
    obtain ⟨D, ho, r⟩ := p
    exact ⟨D, k _ ho, r⟩⟩
def PoM (P : Program) (w : World) (a : Addr) (L : List RwM) (h : Heap) : Prop := ∃ es ep t, SetM0 P w h a L es ep t
def SetMO (P : Program) (w : World) (a : Addr) (L : List RwM) : HO := .ext (PoM P w a L)
theorem SetM0.keep {L : List RwM} {es : Array (Int × Value)} {ep : Nat} {t : SetTable} {h2 : Heap} (R : SetM0 P w h a L es ep t) (k : ∀ o, h.get? a = some o → h2.get? a = some o) : SetM0 P w h2 a L es ep t := by
  obtain ⟨⟨o, ho, r⟩, q1, q2, q3, q4, q5, q6⟩ := R
  exact ⟨⟨o, k o ho, r⟩, q1, q2, q3, q4, q5, q6⟩
theorem setMO_new {L : List RwM} (R : PoM P w a L h) : ObjOk P w H h a (SetMO P w a L) := by
  have ⟨es, ep, t, R'⟩ := R
  obtain ⟨o, ho, _⟩ := R'.ob
  exact ⟨R, ⟨o, ho⟩, fun h1 h2 p k => by
    obtain ⟨es, ep, t, p⟩ := p
    exact ⟨es, ep, t, p.keep k⟩⟩
theorem setM0_fresh (h : Heap) : PoM P w h.objs.size [] (h.push (setO0 w)) := ⟨#[], 0, .fresh 0 0 (!w.params.followText "set-order"), ⟨_, Heap.get?_push_size _ rfl, ⟨rfl, rfl, rfl⟩, rfl⟩, rfl, ⟨List.Pairwise.nil, rfl, rfl, .inl rfl, fun x hx => (by cases hx), fun i h j hi => (by simp at hi)⟩, List.nodup_nil, by
  cases w.params.followText "set-order"
  · exact .inr rfl
  · exact .inl rfl, by show 0 * 5 < 7 * 3; decide, by show 0 < 64; decide⟩
end
/-! ### what is asked of a callee: sets made, added to, sorted -/
/-- set(text), its signs all unlike -/
def rSetX (P : Program) (w : World) : List V → Hp → VK → Prop := fun xs H Q => ∃ z : Str, xs = [.str z] ∧ Pl z ∧ (TL.tl z).Nodup ∧ z.length ≤ 1000 ∧ ∀ p H', H p = none → Same H H' → H' p = some (SetXO P w p ((TL.tl z).map sg).reverse) → Q (.ref p) H'
/-- set(list of ints) -/
def rSetI (K : PySem.W.Frag) (w : World) : List V → Hp → VK → Prop := fun xs H Q => ∃ (l : Addr) (ns : List Int), xs = [.ref l] ∧ SqL K H l (ns.map V.int) ∧ ns.length ≤ 1000 ∧ ∀ p c H', H p = none → c ≤ ns.length → Same H H' → H' p = some (SetO w p (fun j => decide (j ∈ ns)) c) → Q (.ref p) H'
def rSetA (K : PySem.W.Frag) (P : Program) (w : World) : List V → Hp → VK → Prop := fun xs H Q => rSetX P w xs H Q ∨ rSetI K w xs H Q
def rMAdd (K : PySem.W.Frag) (P : Program) (w : World) : V → List V → Hp → VK → Prop := fun x xs H Q => ∃ (a : Addr) (L : List RwM) (y : Addr) (k : List Key), x = .ref a ∧ xs = [.ref y] ∧ H a = some (SetMO P w a L) ∧ (∀ p ∈ L, SqT K H p.1 (p.2.map kV)) ∧ SqT K H y (k.map kV) ∧ L.length + 1 < 64 ∧
  ∀ L', ((k ∈ L.map (·.2) ∧ L' = L) ∨ (k ∉ L.map (·.2) ∧ L'.Perm ((y, k) :: L))) → Q .non (upd H a (SetMO P w a L'))
def kD : Key → PyData
  | .inl i => .int i
  | .inr z => .str z
def encM (p : RwM) : PyData := .tuple (p.2.map kD)
def rSortX (P : Program) (w : World) : List V → Hp → VK → Prop := fun vs H Q => ∃ (a : Addr) (l : List Str), vs = [.ref a] ∧ H a = some (SetXO P w a l) ∧ l.Nodup ∧ l.length ≤ 1000 ∧
  ∀ (ys : List Str) p H', ys.Perm l → ys.Pairwise (fun x y => x.cps.toList ≤ y.cps.toList) → H p = none → Same H H' → H' p = some (.lst (ys.map V.str)) → Q (.ref p) H'
def rSortM (K : PySem.W.Frag) (P : Program) (w : World) : List V → Hp → VK → Prop := fun vs H Q => ∃ (a : Addr) (L : List RwM), vs = [.ref a] ∧ H a = some (SetMO P w a L) ∧ (∀ p ∈ L, SqT K H p.1 (p.2.map kV)) ∧ AllAlike (L.map encM) ∧ (∀ p ∈ L, p.2 ≠ []) ∧
  ∀ (L' : List RwM) p H', L'.Perm L → (L.map (·.2)).Nodup → L'.Pairwise (fun x y => dataLe false encM x y = true) → H p = none → Same H H' → H' p = some (.lst (L'.map fun q => V.ref q.1)) → Q (.ref p) H'
def rSortedA (K : PySem.W.Frag) (P : Program) (w : World) : List V → Hp → VK → Prop := fun vs H Q => (rSortedS K vs H Q ∨ rSortX P w vs H Q) ∨ (rSortedSet w vs H Q ∨ rSortM K P w vs H Q)
section
variable {X : Cx}
theorem all128 {z : Str} (h : Pl z) : z.cps.all (· < 128) = true := by
  rw [Array.all_eq_true']
  intro c hc
  exact decide_eq_true (h c (by simpa using hc))
theorem cr_setX (hc : X.calm = true) : CallR X (.type "set") (rSetX X.prog X.w) := by
  intro pins s σ H xs us Q I r h
  obtain ⟨z, rfl, pz, nd, lz, q⟩ := h
  cases r with
  | cons r1 r2 =>
    cases r2
    obtain ⟨u, rfl⟩ := r1
    have hn : H s.heap.objs.size = none := I.hok.fresh (Nat.le_refl _)
    refine set_text (P := X.prog) (w := X.w) (all128 pz) nd (by have : z.length = z.cps.toList.length := by simp [Str.length]
                                                                unfold scanBound; omega) (I.ok.hd hc) fun h' tk po k => ?_
    exact ⟨.ref _, upd H s.heap.objs.size (SetXO X.prog X.w s.heap.objs.size _), I.laid (t' := tk) k (Nat.le_refl _) (setXO_new po), rfl, q _ _ hn (sm_new hn) upd_same⟩
theorem cr_setI (hc : X.calm = true) : CallR X (.type "set") (rSetI X.K X.w) := by
  intro pins s σ H xs us Q I r h
  obtain ⟨l, ns, rfl, hl, lz, q⟩ := h
  rw [Vals.ref1 r]
  obtain ⟨its, rv, pl, hz⟩ := I.list hl
  have hn : H s.heap.objs.size = none := I.hok.fresh (Nat.le_refl _)
  refine set_ints (P := X.prog) (w := X.w) ns (I.ok.hd hc) pl.isList (by simpa using rv.ints) (by unfold scanBound; omega) fun h' tk ⟨c, hc', R⟩ k => ?_
  exact ⟨.ref _, upd H s.heap.objs.size (SetO X.w s.heap.objs.size _ c), I.laid (t' := tk) k (Nat.le_refl _) (setO_new R), rfl, q _ c _ hn hc' (sm_new hn) upd_same⟩
theorem cr_setA (K : PySem.W.Frag) (P : Program) (w : World) (hc : X.calm = true := by rfl) (hK : X.K = K := by rfl) (hP : X.prog = P := by rfl) (hw : X.w = w := by rfl) : CallR X (.type "set") (rSetA K P w) := by
  subst hK
  subst hP
  subst hw
  intro pins s σ H xs us Q I r h
  rcases h with h | h
  · exact cr_setX hc pins s σ H xs us Q I r h
  · exact cr_setI hc pins s σ H xs us Q I r h
theorem mem_of_vals {P : Program} {w : World} : ∀ {k : List Key} {us : List Value}, Vals (k.map kV) us → ItemsAre (mixKind P w) k us
  | [], _, .nil => .nil
  | .inl i :: k, _, .cons r t => by
    obtain ⟨tk, rfl⟩ := r
    exact .cons (by show keyIs (.inl i) (.int i tk) = true; simp [keyIs, Value.isInt]) (mem_of_vals t)
  | .inr z :: k, _, .cons r t => by
    obtain ⟨tk, rfl⟩ := r
    exact .cons (by show keyIs (.inr z) (.str z tk) = true; simp [keyIs, Value.isStrOf]) (mem_of_vals t)
theorem isM_of {pins : List (Addr × Obj)} {σ : L2.St} {H : Hp} {s : Shared} {b : Addr} {k : List Key} (I : Inv X pins σ H s) (h : SqT X.K H b (k.map kV)) : IsM X.prog X.w s.heap k b := by
  obtain ⟨its, r, ⟨o, ho, hc, n, hd⟩, _⟩ := I.tuple h
  exact ⟨o, its.toArray, n, ho, hc, hd, by simpa using mem_of_vals r⟩
theorem mt_madd (hu : X.A.units + 64 < cLine) : MtR X "set.add" (rMAdd X.K X.prog X.w) := by
  intro pins s σ H x xs v us Q I rx rxs h
  obtain ⟨a, L, y, k, rfl, rfl, ha, hL, hy, few, q⟩ := h
  cases rx
  rw [Vals.ref1 rxs]
  obtain ⟨es, ep, t, R⟩ : PoM X.prog X.w a L s.heap := (I.hok a _ ha).1
  obtain ⟨o, ho, hex, hd⟩ := R.ob
  refine wpAny_call_entry F.slot_set_add ⟨o, ho, hex.1⟩ F.entry_set_add ?_ (F.args_set_add_2 _ _)
  unfold Builtin.«set.add» Builtin.Frozenset.oneOther
  simp only [List.isEmpty_nil, bind_assoc]
  unfold Builtin.Frozenset.addrOf setAdd
  refine wpAny_bind (wpAny_pure ?_)
  try dsimp only
  refine wpAny_bind (wpAny_pure ?_)
  try dsimp only
  refine wpAny_bind (wpAny_holding (wpAny_bind ?_))
  have kx := isM_of I hy
  have hM : AllM X.prog X.w s.heap L := fun p hp => isM_of I (hL p hp)
  have ux : X.A.in1.units ≤ X.A.units + 1 := by first | exact Nat.le_refl _ | exact Nat.le_succ _ | simp
  refine wpAny_pyHash_tuple (by omega) kx ?_
  refine m_add (s := { s with toks := s.toks + (k.length + 1) }) R hM kx (by omega) few fun b h' L' es' ep' t' sb R' cs => ?_
  show wpAny _ _ (ret Value.none) _ _ _
  have he : ∃ u, h'.get? a = some u := by
    obtain ⟨u, hu, _⟩ := R'.ob
    exact ⟨u, hu⟩
  exact wpAny_pure ⟨_, rfl, .non, _, I.write (e := a) (t' := s.toks + (k.length + 1)) (by rw [ha]; trivial) (.inl rfl) (fun b u hb e => (sb.2 b hb).trans e) he (setMO_new ⟨es', ep', t', R'⟩), rfl, q L' cs⟩
theorem vals_refs : ∀ L : List RwM, Vals (L.map fun q => V.ref q.1) (L.map fun q => Value.ref q.1)
  | [] => .nil
  | _ :: L => .cons rfl (vals_refs L)
theorem vals_toks : ∀ B : List (Str × Tok), Vals (B.map fun q => V.str q.1) (B.map fun q => Value.str q.1 q.2)
  | [] => .nil
  | b :: B => .cons ⟨b.2, rfl⟩ (vals_toks B)
/-- a new list was laid, nothing else -/
theorem laid_list {pins : List (Addr × Obj)} {σ : L2.St} {H : Hp} {s s' : Shared} {p : Addr} {out : Array Value} {c : Nat} {ys : List V} {Q : VK} (I : Inv X pins σ H s) (k : ∀ b o, s.heap.get? b = some o → s'.heap.get? b = some o) (g : s'.gens = s.gens) (o : s'.os = s.os)
    (hp : s.heap.objs.size ≤ p) (hg : s'.heap.get? p = some (seqObj "list" out c)) (hv : Vals ys out.toList) (hl : ys.length ≤ 100000) (q : ∀ H', H p = none → Same H H' → H' p = some (.lst ys) → Q (.ref p) H') : EP X pins σ Q (.ref p) s' := by
  have hn : H p = none := I.hok.fresh hp
  have J : Inv X pins σ (upd H p (.lst ys)) { s with heap := s'.heap, gens := s'.gens, drawn := s'.drawn, toks := s'.toks } := I.call (ch := []) (Un.laid k hp hn) (I.hok.laid k hp ⟨sz_of hl, out.toList, c, hv, hg⟩) (by rw [g]; exact I.bare) (fun _ z => nomatch z)
  have e : s' = { s with heap := s'.heap, gens := s'.gens, drawn := s'.drawn, toks := s'.toks } := by
    cases s'
    cases s
    cases o
    rfl
  rw [e]
  exact ⟨.ref p, _, J, rfl, q _ hn (sm_new hn) upd_same⟩
theorem is_str_shape {P : Program} {w : World} {es : List (Int × Value)} (h : ElemsOf (strKind P w) es) : ∃ B : List (Str × Tok), es.map (·.2) = B.map fun q => Value.str q.1 q.2 := by
  induction es with
  | nil => exact ⟨[], rfl⟩
  | cons e es ih =>
    obtain ⟨B, hB⟩ := ih fun x hx => h x (List.mem_cons_of_mem _ hx)
    obtain ⟨⟨k, hk, _⟩, _⟩ := h e (List.mem_cons_self ..)
    obtain ⟨t, ht⟩ := Value.isStrOf_shape (show Value.isStrOf k e.2 = true from hk)
    exact ⟨(k, t) :: B, by rw [List.map_cons, List.map_cons, hB, ht]⟩
theorem perm_of_sub {α : Type} [DecidableEq α] : ∀ (l m : List α), l.Nodup → (∀ x ∈ l, x ∈ m) → m.length ≤ l.length → l.Perm m
  | [], m, _, _, hl => by
    rw [List.eq_nil_of_length_eq_zero (Nat.le_zero.mp hl)]
  | x :: l, m, nd, hs, hl => by
    have hx := hs x (List.mem_cons_self ..)
    have pm : m.Perm (x :: m.erase x) := List.perm_cons_erase hx
    obtain ⟨n1, n2⟩ := List.nodup_cons.mp nd
    have ll := pm.length_eq
    rw [List.length_cons] at ll hl
    refine ((perm_of_sub l (m.erase x) n2 (fun y hy => ?_) (by omega)).cons x).trans pm.symm
    exact (List.mem_erase_of_ne (fun e => n1 (by rw [← e]; exact hy))).mpr (hs y (List.mem_cons_of_mem _ hy))
theorem cr_sortX (hc : X.calm = true) (hu : X.A.units + 64 < cLine) : CallR X (.builtin "sorted") (rSortX X.prog X.w) := by
  intro pins s σ H vs us Q I r h
  obtain ⟨a, l, rfl, ha, nd, ll, q⟩ := h
  rw [Vals.ref1 r]
  obtain ⟨D, ho, tx, ri, ld⟩ : PoX X.prog X.w a l s.heap := (I.hok a _ ha).1
  obtain ⟨es, ep, t⟩ := D
  obtain ⟨B, hB⟩ := is_str_shape tx.el
  have lB : B.length = l.length := by
    have h1 := congrArg List.length hB
    rw [List.length_map, List.length_map, Array.length_toList] at h1
    rw [← h1]
    exact tx.sz
  have pB : (B.map (·.1)).Perm l := by
    refine (perm_of_sub l (B.map (·.1)) nd (fun x hx => ?_) (by rw [List.length_map]; omega)).symm
    obtain ⟨e, he, hk⟩ := (tx.mem x).mp hx
    have h2 : e.2 ∈ B.map fun q => Value.str q.1 q.2 := by
      rw [← hB]
      exact List.mem_map.mpr ⟨e, he, rfl⟩
    obtain ⟨b, hb, eb⟩ := List.mem_map.mp h2
    obtain ⟨t, ht⟩ := Value.isStrOf_shape (show Value.isStrOf x e.2 = true from hk)
    rw [ht] at eb
    injection eb with e1 e2
    exact List.mem_map.mpr ⟨b, hb, e1⟩
  have sz : es.size = l.length := tx.sz
  refine sorted_gen (fun q : Str × Tok => Value.str q.1 q.2) (fun q => .str q.1) B ⟨_, ho, rfl, rfl⟩ tx.fit (by rw [sz]; unfold scanBound; omega) ri ld (I.ok.hd hc) hu hB (fun b _ _ _ => .str b.1 b.2) (AllAlike.of fun _ _ => rfl) (Sortable.others fun _ => ⟨(by intro z; cases z), (by intro _ z; cases z)⟩)
    (fun _ _ => by simp [PyData.depth]) fun s' p out c B' k g o hp hg hv pm pw => ?_
  refine laid_list I k g o hp hg (ys := (B'.map (·.1)).map V.str) (by rw [hv, List.map_map]; exact vals_toks B') (by rw [List.length_map, List.length_map, pm.length_eq, lB]; omega) fun H' hn sp ep => q (B'.map (·.1)) p H' ((pm.map _).trans pB) ?_ hn sp ep
  rw [List.pairwise_map]
  refine pw.imp fun {x y} hxy => ?_
  rw [PySem.W.dataLe_str] at hxy
  exact of_decide_eq_true hxy
theorem reads_keys {h : Heap} : ∀ {k : List Key} {vs : List Value}, ItemsAre (mixKind X.prog X.w) k vs → ReadsAll h vs (k.map kD) []
  | _, _, .nil => .nil
  | _, _, .cons (k := k) q r => by
    have t := reads_keys (h := h) r
    rcases keyIs_shape q with ⟨i, u, rfl, rfl⟩ | ⟨z, u, rfl, rfl⟩
    · exact .cons (as := []) (.int i u) t
    · exact .cons (as := []) (.str z u) t
theorem dep_keys : ∀ k : List Key, PyData.depthAll (k.map kD) = 0
  | [] => by simp [PyData.depthAll]
  | .inl i :: k => by simp [PyData.depthAll, kD, PyData.depth, dep_keys k]
  | .inr z :: k => by simp [PyData.depthAll, kD, PyData.depth, dep_keys k]
theorem cr_sortM (hc : X.calm = true) (hu : X.A.units + 64 < cLine) : CallR X (.builtin "sorted") (rSortM X.K X.prog X.w) := by
  intro pins s σ H vs us Q I r h
  obtain ⟨a, L, rfl, ha, hL, al, ne, q⟩ := h
  rw [Vals.ref1 r]
  obtain ⟨es, ep, t, R⟩ : PoM X.prog X.w a L s.heap := (I.hok a _ ha).1
  obtain ⟨o, ho, hex, hd⟩ := R.ob
  have sz := size_rw R.rw_
  have few := R.few
  refine sorted_gen (fun q : RwM => Value.ref q.1) encM L ⟨o, ho, hex.1, hd⟩ R.fits (by unfold scanBound; omega) R.tab.ris R.ld (I.ok.hd hc) hu (by rw [R.rw_, List.map_map]; rfl) (fun b hb h' kk => ?_) al (.inl fun d hd => ?_) (fun b _ => ?_) fun s' p out c L' k g o hp hg hv pm pw => ?_
  · obtain ⟨u, its, n, hu1, hc1, hd1, hi⟩ := isM_of I (hL b hb)
    exact .tuple (kk _ _ hu1) hc1 hd1 (reads_keys hi)
  · obtain ⟨b, hb, rfl⟩ := List.mem_map.mp hd
    have h1 := ne b hb
    unfold encM
    cases hk : b.2 with
    | nil => exact absurd hk h1
    | cons x r => exact ⟨_, _, rfl⟩
  · unfold encM
    simp only [PyData.depth, dep_keys]
    decide
  · exact laid_list I k g o hp hg (ys := L'.map fun q => V.ref q.1) (by rw [hv]; exact vals_refs L') (by rw [List.length_map, pm.length_eq]; omega) fun H' hn sp ep => q L' p H' pm R.one pw hn sp ep
theorem cr_sortedA (K : PySem.W.Frag) (P : Program) (w : World) (hu : X.A.units + 64 < cLine) (hc : X.calm = true := by rfl) (hK : X.K = K := by rfl) (hP : X.prog = P := by rfl) (hw : X.w = w := by rfl) : CallR X (.builtin "sorted") (rSortedA K P w) := by
  subst hK
  subst hP
  subst hw
  intro pins s σ H xs us Q I r h
  rcases h with (h | h) | (h | h)
  · exact cr_sortedS pins s σ H xs us Q I r h
  · exact cr_sortX hc hu pins s σ H xs us Q I r h
  · exact cr_sortedSet hc pins s σ H xs us Q I r h
  · exact cr_sortM hc hu pins s σ H xs us Q I r h
end
/-! ### set comprehensions -/
def nSg (O : Addr → HO) (r : V → List V → Hp → VK → Prop) (J : It) (g : TG) (tt : TT) (te : TE) (vs : List Nat) (σ : L2.St) (H1 : Hp) (Q : VK) : Prop := ∀ D, H1 D = none → ∃ W : Nat → Nat → Hp → Prop, (∃ m, W 0 m (upd H1 D (O D))) ∧ ∀ i m H, W i m H →
  (J.stop i H ∧ Q (.ref D) H) ∨ (J.go i H ∧ ∃ Nx : Hp → Prop, (∀ H', Nx H' → ∃ m', m' < m ∧ W (i + 1) m' H') ∧ ∀ x H', J.yld i H x H' → g x (wipe σ vs) H' fun σ2 H2 => wipe σ2 vs = wipe σ vs ∧ tt σ2 H2 fun b H3 => if b = true then te σ2 H3 fun y H4 => r (.ref D) [y] H4 fun _ H5 => Nx H5 else Nx H3)
section
variable {σ : L2.St} {H : Hp} {Q : VK} {te : TE} {tt : TT} {wi : TI} {g : TG} {n : Nat} {vs : List Nat} {J : It} {G : Hp → Prop} {Y : Nat → Hp → V → Hp → Prop} {O : Addr → HO} {r : V → List V → Hp → VK → Prop} {K : PySem.W.Frag} {P : Program} {w : World}
theorem k_sg (h : wi σ H fun J H1 => nSg O r J g tt te vs σ H1 Q) : tSg O r wi g tt te vs σ H Q := h
theorem sg_it (wk : Walk J n G Y) {D : Addr} (Pv : Nat → Hp → Prop) (h0 : Pv 0 (upd H D (O D))) (hG : ∀ i H', i ≤ n → Pv i H' → G H')
    (hs : ∀ i x H1 H2, i < n → Pv i H1 → Y i H1 x H2 → g x (wipe σ vs) H2 fun σ2 H3 => wipe σ2 vs = wipe σ vs ∧ tt σ2 H3 fun b H4 => nIte b (te σ2 H4 fun y H5 => r (.ref D) [y] H5 fun _ H6 => Pv (i + 1) H6) (Pv (i + 1) H4))
    (hd : ∀ H', Pv n H' → Q (.ref D) H') : ∃ W : Nat → Nat → Hp → Prop, (∃ m, W 0 m (upd H D (O D))) ∧ ∀ i m H, W i m H →
      (J.stop i H ∧ Q (.ref D) H) ∨ (J.go i H ∧ ∃ Nx : Hp → Prop, (∀ H', Nx H' → ∃ m', m' < m ∧ W (i + 1) m' H') ∧ ∀ x H', J.yld i H x H' → g x (wipe σ vs) H' fun σ2 H2 => wipe σ2 vs = wipe σ vs ∧ tt σ2 H2 fun b H3 => if b = true then te σ2 H3 fun y H4 => r (.ref D) [y] H4 fun _ H5 => Nx H5 else Nx H3) := by
  refine ⟨fun i m H' => m = n - i ∧ i ≤ n ∧ Pv i H', ⟨n, by simp, Nat.zero_le _, h0⟩, fun i m H' hW => ?_⟩
  obtain ⟨rfl, hi, p⟩ := hW
  have gg := hG i H' hi p
  by_cases lt : i < n
  · exact .inr ⟨wk.goes i H' lt gg, Pv (i + 1), fun H2 p2 => ⟨n - (i + 1), by omega, rfl, lt, p2⟩, fun x H2 y => hs i x H' H2 lt p (wk.yields i H' x H2 lt gg y)⟩
  · obtain rfl : i = n := by omega
    exact .inl ⟨wk.stops H' gg, hd H' p⟩
/-- one of tuples of ints and texts -/
theorem k_nSgM (wk : Walk J n G Y) (hG : ∀ H', Same H H' → G H') (hn : n ≤ 62) (Pv : Nat → List (List Key) → Prop) (h0 : Pv 0 [])
    (hs : ∀ (i : Nat) (x : V) (H1 H2 : Hp) (ms : List (List Key)) (Kp : VK) (Ks : Hp → Prop), i < n → Same H H1 → Pv i ms → Y i H1 x H2 → (∀ k T H5, Same H1 H5 → SqT K H5 T (k.map kV) → Pv (i + 1) (ms ++ [k]) → Kp (.ref T) H5) → (∀ H5, Same H1 H5 → Pv (i + 1) ms → Ks H5) →
      g x (wipe σ vs) H2 fun σ2 H3 => wipe σ2 vs = wipe σ vs ∧ tt σ2 H3 fun b H4 => nIte b (te σ2 H4 Kp) (Ks H4))
    (hd : ∀ (p : Addr) (H' : Hp) (ms : List (List Key)) (L : List RwM), H p = none → Same H H' → H' p = some (SetMO P w p L) → (∀ q ∈ L, SqT K H' q.1 (q.2.map kV)) → (∀ k, k ∈ L.map (·.2) ↔ k ∈ ms) → L.length ≤ n → Pv n ms → Q (.ref p) H') : nSg (fun D => SetMO P w D []) (rMAdd K P w) J g tt te vs σ H Q := by
  intro p hp
  refine sg_it (O := fun D => SetMO P w D []) wk (fun i H' => ∃ (ms : List (List Key)) (L : List RwM), L.length ≤ i ∧ Same H H' ∧ H' p = some (SetMO P w p L) ∧ (∀ q ∈ L, SqT K H' q.1 (q.2.map kV)) ∧ (∀ k, k ∈ L.map (·.2) ↔ k ∈ ms) ∧ Pv i ms) ⟨[], [], Nat.le_refl _, sm_new hp, upd_same, fun q hq => (nomatch hq), fun k => Iff.rfl, h0⟩ (fun i H' _ h => ?_) (fun i x H1 H2 hi h hy => ?_) fun H' h => ?_
  · obtain ⟨ms, L, _, s1, _⟩ := h
    exact hG H' s1
  · obtain ⟨ms, L, hl, s1, e1, t1, m1, q1⟩ := h
    refine hs i x H1 H2 ms _ _ hi s1 q1 hy (fun k T H5 s5 hT q5 => ⟨p, L, T, k, rfl, rfl, s5 p _ e1, fun q hq => sm_t s5 (t1 q hq), hT, by omega, fun L' cs => ?_⟩) fun H5 s5 q5 => ⟨ms, L, by omega, s1.trans s5, s5 p _ e1, fun q hq => sm_t s5 (t1 q hq), m1, q5⟩
    have keepT : ∀ {b : Addr} {xs : List V}, SqT K H5 b xs → SqT K (upd H5 p (SetMO P w p L')) b xs := fun {b xs} hb => by
      rcases hb with hb | hb
      · refine .inl ?_
        have hp5 := s5 p _ e1
        rcases hb with hb | ⟨o, hb⟩
        · exact .inl (by rw [upd_ne (ne_of hb hp5 (fun z => by cases z))]; exact hb)
        · exact .inr ⟨o, by rw [upd_ne (ne_of hb hp5 (fun z => by cases z))]; exact hb⟩
      · exact .inr hb
    have t5 : ∀ q ∈ L, SqT K (upd H5 p (SetMO P w p L')) q.1 (q.2.map kV) := fun q hq => keepT (sm_t s5 (t1 q hq))
    rcases cs with ⟨hk, rfl⟩ | ⟨hk, pm⟩
    · refine ⟨ms ++ [k], L', by omega, sm_mut (s1.trans s5) hp, upd_same, t5, fun j => ?_, q5⟩
      rw [m1, List.mem_append, List.mem_singleton]
      exact ⟨.inl, fun z => z.elim id fun e => by rw [e]; exact (m1 k).mp hk⟩
    · refine ⟨ms ++ [k], L', by rw [pm.length_eq, List.length_cons]; omega, sm_mut (s1.trans s5) hp, upd_same, fun q hq => ?_, fun j => ?_, q5⟩
      · rcases List.mem_cons.mp (pm.mem_iff.mp hq) with rfl | hq
        · exact keepT hT
        · exact t5 q hq
      · rw [(pm.map (·.2)).mem_iff, List.map_cons, List.mem_cons, m1, List.mem_append, List.mem_singleton]
        exact Or.comm
  · obtain ⟨ms, L, hl, s1, e1, t1, m1, q1⟩ := h
    exact hd p H' ms L hp s1 e1 t1 m1 hl q1
end
section
variable {X : Cx} {elt tg it0 : Expr} {ifs : List Expr} {sc : Scope} {own : List (PySem.Str × Nat)} {pos : Pos} {wi : TI} {g : TG} {tt : TT} {te : TE}
theorem pe_sgM (K : PySem.W.Frag) (P : Program) (w : World) (hu : X.A.units + 64 < cLine) (hN : X.N.Nodup) (hi : PI X tg it0 wi) (ok : BlkOk X.N X.env.scope sc own)
    (hg : ∀ s H C cl fp, PG (bx X sc s H C cl fp) tg g) (ht : ∀ s H C cl fp, PTs (bx X sc s H C cl fp) ifs tt) (he : ∀ s H C cl fp, PE (bx X sc s H C cl fp) elt te) (hc : X.calm = true := by rfl) (hK : X.K = K := by rfl) (hP : X.prog = P := by rfl) (hw : X.w = w := by rfl) (hs : ∀ x, foldedSetIterable it0 X.env x = pure x := by intro _; rfl) :
    PE X (.SetComp elt [⟨tg, it0, ifs, 0⟩] sc pos) (tSg (fun D => SetMO P w D []) (rMAdd K P w) wi g tt te (own.map (·.2))) := by
  subst hw
  subst hK
  subst hP
  exact pe_sg (fun h H => setMO_new (setM0_fresh h)) (fun _ _ _ _ _ => mt_madd hu) hc hN hi ok hg ht he hs
end
end Gk
set_option Elab.async false
set_option autoImplicit false
set_option linter.all false
set_option maxRecDepth 100000
set_option maxHeartbeats 4000000
/-! # Own classes, dicts, lists that grow: rules by name, steps -/
namespace Gk
open PySem PySem.Spec PyProof.Rows L2
open PySem.W (EachIs AllAlike Sortable dataLe dataLt alike keyToks)
/-- a callee that may raise, asked where it does not -/
theorem passX {P : Program} {w : World} {X : Cx} : Passes (L2.CX P w) X E0 := fun _ _ _ _ _ _ _ h => by
  obtain ⟨_, _, _, _, _, _, _, _, _, _, _, _, z⟩ := h
  exact z.elim
/-- .. and its exceptions are this def's -/
theorem passE {X : Cx} {E : XK} (tk : Takes X (fun cls d _ H => E cls d H)) : Passes (L2.CX X.prog X.w) X E := fun _ _ _ _ e s' I c => tk e s' (XE.of_call I (fun _ _ _ h => h) c)
/-- a tuple that stands in the written part under the module's name x -/
structure GloT (K : PySem.W.Frag) (mg : Str → Option Value) (x : Str) (xs : List V) : Prop where
  g : mg x = some (.ref (He.ga K x))
  t : ∀ H, SqT K H (He.ga K x) xs
theorem pe_gt {X : Cx} {K : PySem.W.Frag} {x : Str} {xs : List V} {pos : Pos} (h : GloT K X.mg x xs) (hg : Gl X x := by rfl) (hd : (x == ("__debug__" : Str)) = false := by decide) : PE X (.Name x pos) (tC (.ref (He.ga K x))) := pe_gr h.g hg hd
/-- the names of a comprehension's block within another's -/
def rlb (s1 s0 : Scope) : Scope := { s1 with names := s1.names.map fun (n, k) => if (k == .free && s0.kind == .function && s0.names.lookup n == some .cell) then (n, .cell) else (n, k) }
/-! ### methods, instances -/
/-- the method m of the class under the module's name C keeps sp -/
structure CalleeM (P : Program) (w : World) (K : PySem.W.Frag) (mg : Str → Option Value) (base : Heap) (CX : CXT) (C m : Str) (k : Nat) (sp : Sp) : Prop where
  cls : Cls K (He.ga K C)
  me : Meth K (He.ga K C) m (He.ma K (He.ga K C) m)
  ex : ∃ fd ps, FnOk P w K mg base CX k (He.ma K (He.ga K C) m) fd ps sp ∧ Binds K fd ps []
/-- the class under the module's name C, made with n values and the keywords ks -/
structure OwnMk (P : Program) (w : World) (K : PySem.W.Frag) (mg : Str → Option Value) (base : Heap) (CX : CXT) (C : Str) (k n : Nat) (ks : List Str) (gV : List V → List V → List V) (sp : Sp) : Prop where
  gC : mg C = some (.ref (He.ga K C))
  mkr : Mk K (He.ga K C) (He.ma K (He.ga K C) "__init__")
  ex : ∃ fd ps, FnOk P w K mg base CX k (He.ma K (He.ga K C) "__init__") fd ps sp ∧ ∃ g : List Value → List Value → List Value, KBn K fd ps (n + 1) ks g gV
section
variable {X : Cx} {K : PySem.W.Frag} {CX : CXT} {k j n : Nat} {sp : Sp} {C m x : Str} {p pos apos : Pos} {o e : Expr} {es : List Expr} {ta : TE} {t tk : TA} {ks : List Str} {gV : List V → List V → List V} {kws : List Keyword} {pl : Sem Bool}
theorem pe_mt0 (c : CalleeM X.prog X.w K X.mg X.base CX C m k sp) (hr : Room j X.A) (he : PE X o ta) (hx : Passes CX X E0) (hK : X.K = K := by rfl) (hj : k ≤ j := by first | decide | omega)
    (ht : eval (.Call (.Attribute o m apos) [] [] pos) X.env = (do
      let ov ← eval o X.env
      standAt apos.atName
      let (f, first) ← holding [ov] (getMethod ov m pl)
      callWith pos f first (backTo pos (starEach [] X.env)) (backToKw pos (keywordEach [] X.env))) := by rfl) : PE X (.Call (.Attribute o m apos) [] [] pos) (tMeth (He.ga K C) m sp [] E0 ta tNil) := by
  subst hK
  obtain ⟨fd, ps, F, hb⟩ := c.ex
  exact pe_meth0 he c.cls c.me F (hr.mono hj) hb .nil hx ht
theorem pe_mt1 (c : CalleeM X.prog X.w K X.mg X.base CX C m k sp) (hr : Room j X.A) (he : PE X o ta) (ha : PA X (e :: es) t) (hx : Passes CX X E0) (hK : X.K = K := by rfl) (hj : k ≤ j := by first | decide | omega) (hst : starEach (e :: es) X.env = (false, eval e X.env) :: starEach es X.env := by rfl) (hpl : (backTo pos (starEach es X.env)).any (·.1) = false := by rfl)
    (ht : eval (.Call (.Attribute o m apos) (e :: es) [] pos) X.env = (do
      let ov ← eval o X.env
      standAt apos.atName
      let (f, first) ← holding [ov] (getMethod ov m pl)
      callWith pos f first (backTo pos (starEach (e :: es) X.env)) (backToKw pos (keywordEach [] X.env))) := by rfl) : PE X (.Call (.Attribute o m apos) (e :: es) [] pos) (tMeth (He.ga K C) m sp [] E0 ta t) := by
  subst hK
  obtain ⟨fd, ps, F, hb⟩ := c.ex
  exact pe_meth he c.cls c.me F (hr.mono hj) hb .nil hx ha hst hpl ht
theorem pe_mkK (c : OwnMk X.prog X.w K X.mg X.base CX x k n ks gV sp) (hr : Room j X.A) (ha : PA X (e :: es) t) (hkw : PK X kws tk) (hx : Passes CX X E0) (hK : X.K = K := by rfl) (hj : k + 1 ≤ j := by first | decide | omega) (hg : Gl X x := by rfl)
    (hall : (backToKw pos (keywordEach kws X.env)).all (·.1.isSome) = true := by rfl) (hks : (backToKw pos (keywordEach kws X.env)).filterMap (·.1) = ks := by rfl) (hdb : (x == ("__debug__" : Str)) = false := by decide)
    (he : starEach (e :: es) X.env = (false, eval e X.env) :: starEach es X.env := by rfl) (hpl : ((backTo pos (starEach (e :: es) X.env)).any (·.1) || (backToKw pos (keywordEach kws X.env)).any (·.1.isNone)) = false := by rfl) :
    PE X (.Call (.Name x p) (e :: es) kws pos) (tMakeK (He.ga K x) n ks.length sp gV E0 t tk) := by
  subst hK
  obtain ⟨fd, ps, F, g, hb⟩ := c.ex
  exact pe_makeK c.mkr F (hr.mono hj) hg c.gC hb hx ha hkw hall hks hdb he hpl
end
/-! ### steps -/
def nMeth (C : Addr) (m : Str) (x : V) (H : Hp) (A : Prop) : Prop := ∃ a dx fs, x = .ref a ∧ H a = some (.ins C dx fs) ∧ fs.lookup m = none ∧ A
def nFld (K : PySem.W.Frag) (f : Str) (x : V) (H : Hp) (Q : VK) : Prop := ∃ a C dx fs v, x = .ref a ∧ H a = some (.ins C dx fs) ∧ Cls K C ∧ NoAttr K C f ∧ fs.lookup f = some v ∧ Q v H
def nSFld (K : PySem.W.Frag) (f : Str) (y x : V) (H : Hp) (R : Hp → Prop) : Prop := ∃ a C dx fs, x = .ref a ∧ H a = some (.ins C dx fs) ∧ Cls K C ∧ NoAttr K C f ∧ fs.length < 1000 ∧ R (upd H a (.ins C dx (putF f y fs)))
def nDg (x y : V) (H : Hp) (Q : VK) : Prop := ∃ a v, x = .ref a ∧ DGet H a y (some v) ∧ Q v H
def nDp (x y v : V) (H : Hp) (R : Hp → Prop) : Prop := ∃ a H4, x = .ref a ∧ DPut H a y v H4 ∧ R H4
def nPairs (trs : List (TE × TE)) (σ : L2.St) (H : Hp) (R : List (V × V) → Hp → Prop) : Prop := tPairs trs σ H R
section
variable {K : PySem.W.Frag} {σ : L2.St} {H : Hp} {Q : VK} {D : Ends} {ta tv td ty tx : TE} {t tk : TA} {a C dx : Addr} {fs : List (Str × V)} {m f : Str} {x y v : V} {A : Prop} {sp : Sp} {dvs : List V} {E : XK} {R : Hp → Prop} {kvs : List (Key × V)} {k : Key} {trs : List (TE × TE)} {xs : List V} {n j : Nat} {gV : List V → List V → List V}
theorem k_meth (h : ta σ H fun x H1 => nMeth C m x H1 (t σ H1 fun vs H2 => sp (x :: (vs ++ dvs)) H2 Q E)) : tMeth C m sp dvs E ta t σ H Q := h
theorem k_nMeth (hp : H a = some (.ins C dx fs)) (hl : fs.lookup m = none) (h : A) : nMeth C m (.ref a) H A := ⟨a, dx, fs, rfl, hp, hl, h⟩
theorem k_fld (h : ta σ H fun x H1 => nFld K f x H1 Q) : tFld K ta f σ H Q := h
theorem k_nFld (hp : H a = some (.ins C dx fs)) (c : Cls K C) (n : NoAttr K C f) (hl : fs.lookup f = some v) (h : Q v H) : nFld K f (.ref a) H Q := ⟨a, C, dx, fs, v, rfl, hp, c, n, hl, h⟩
theorem k_sfld (h : tv σ H fun y H1 => ta σ H1 fun x H2 => nSFld K f y x H2 fun H3 => D.nx σ H3) : sFld K ta tv f D σ H := h
theorem k_nSFld (hp : H a = some (.ins C dx fs)) (c : Cls K C) (n : NoAttr K C f) (hl : fs.length < 1000) (h : R (upd H a (.ins C dx (putF f y fs)))) : nSFld K f y (.ref a) H R := ⟨a, C, dx, fs, rfl, hp, c, n, hl, h⟩
theorem k_dg (h : td σ H fun x H1 => ty σ H1 fun y H2 => nDg x y H2 Q) : tDGet td ty σ H Q := h
theorem k_nDg (hp : H a = some (.dK kvs)) (hl : valV kvs (.inr m) = some v) (h : Q v H) : nDg (.ref a) (.str m) H Q := ⟨a, v, rfl, by rw [← hl]; exact DGet.k (k := .inr m) hp, h⟩
theorem k_dg2 (h : td σ H fun x H1 => ∃ a, x = .ref a ∧ IsD H1 a ∧ ty σ H1 fun y H2 => tx σ H2 fun z H3 => ∃ o, DGet H3 a y o ∧ Q (o.getD z) H3) : tDGet2 td ty tx σ H Q := h
theorem k_dp (h : tv σ H fun v H1 => td σ H1 fun x H2 => ty σ H2 fun y H3 => nDp x y v H3 fun H4 => D.nx σ H4) : sDPut td ty tv D σ H := h
theorem k_nDp (hp : H a = some (.dK kvs)) (hl : kvs.length < 1000) (h : R (upd H a (.dK (putK kvs (.inr m) v)))) : nDp (.ref a) (.str m) v H R := ⟨a, _, rfl, DPut.k (k := .inr m) hp (sz_lt (by omega)), h⟩
theorem k_disp (h : ∀ p, H p = none → nPairs trs σ (upd H p (.dK [])) fun ps H2 => H2 p = some (.dK []) ∧ ∃ kvs : List (Key × V), ps = kvs.map (fun kv => (kV kv.1, kv.2)) ∧ kvs.length ≤ 15 ∧ Q (.ref p) (upd H2 p (.dK (mergeK [] kvs)))) : tDisp trs σ H Q := h
theorem k_pr0 {R : List (V × V) → Hp → Prop} (h : R [] H) : nPairs [] σ H R := h
theorem k_pr {R : List (V × V) → Hp → Prop} (h : ta σ H fun x H1 => tv σ H1 fun y H2 => nPairs trs σ H2 fun ps H3 => R ((x, y) :: ps) H3) : nPairs ((ta, tv) :: trs) σ H R := h
theorem k_append (hp : H a = some (.lst xs)) (hl : xs.length < 100000) (h : Q .non (upd H a (.lst (xs ++ [y])))) : rAppend (.ref a) [y] H Q := ⟨a, xs, y, rfl, rfl, hp, sz_lt (by omega), h⟩
theorem k_makeK (h : t σ H fun vs H1 => tk σ H1 fun zs H2 => vs.length = n ∧ zs.length = j ∧ ∀ x dx, H2 x = none → H2 dx = none → dx ≠ x → sp (gV (.ref x :: vs) zs) (upd (upd H2 dx (.own x)) x (.ins C dx [])) (fun v H3 => v = .non ∧ Q (.ref x) H3) E) : tMakeK C n j sp gV E t tk σ H Q := h
end
/-! ### a comprehension of two fors -/
def nIn (D : Addr) (J : It) (g : TG) (tt : TT) (te : TE) (vs : List Nat) (σ : L2.St) (H0 : Hp) (Nx : Hp → Prop) : Prop := ∃ W1 : Nat → Nat → Hp → Prop, (∃ m, W1 0 m H0) ∧ ∀ j k H, W1 j k H →
  (J.stop j H ∧ Nx H) ∨ (J.go j H ∧ ∃ Nx1 : Hp → Prop, (∀ H', Nx1 H' → ∃ k', k' < k ∧ W1 (j + 1) k' H') ∧ ∀ x H', J.yld j H x H' → g x (wipe σ vs) H' fun σ3 H5 => wipe σ3 vs = wipe σ vs ∧ tt σ3 H5 fun b H6 =>
    if b = true then te σ3 H6 fun y H7 => ∃ acc, H7 D = some (.lst acc) ∧ acc.length < sizeLine ∧ Nx1 (upd H7 D (.lst (acc ++ [y]))) else Nx1 H6)
def nLc2 (J : It) (g : TG) (tt : TT) (wi1 : TI) (g1 : TG) (tt1 : TT) (te : TE) (vs vs1 : List Nat) (σ : L2.St) (H1 : Hp) (Q : VK) : Prop := ∀ D, H1 D = none → ∃ W : Nat → Nat → Hp → Prop, (∃ m, W 0 m (upd H1 D (.lst []))) ∧ ∀ i m H, W i m H →
  (J.stop i H ∧ Q (.ref D) H) ∨ (J.go i H ∧ ∃ Nx : Hp → Prop, (∀ H', Nx H' → ∃ m', m' < m ∧ W (i + 1) m' H') ∧ ∀ x H', J.yld i H x H' → g x (wipe σ vs) H' fun σ2 H2 => wipe σ2 vs = wipe σ vs ∧ tt σ2 H2 fun b H3 =>
    if b = true then wi1 σ2 H3 fun J1 H4 => nIn D J1 g1 tt1 te vs1 σ2 H4 Nx else Nx H3)
section
variable {σ : L2.St} {H Hb : Hp} {Q : VK} {te : TE} {tt tt1 : TT} {wi wi1 : TI} {g g1 : TG} {n : Nat} {vs vs1 : List Nat} {J : It} {G : Hp → Prop} {Y : Nat → Hp → V → Hp → Prop} {D : Addr} {Nx : Hp → Prop} {ws0 : List V}
theorem k_lc2 (h : wi σ H fun J H1 => nLc2 J g tt wi1 g1 tt1 te vs vs1 σ H1 Q) : tLc2 wi g tt wi1 g1 tt1 te vs vs1 σ H Q := h
theorem k_nIn (wk : Walk J n G Y) (sb : Same Hb H) (hD : Hb D = none) (e0 : H D = some (.lst ws0)) (hG : ∀ H', Same Hb H' → G H') (Pv : Nat → List V → Prop) (h0 : Pv 0 ws0) (hz : ∀ i ws, i ≤ n → Pv i ws → ws.length ≤ 50000)
    (hs : ∀ (i : Nat) (x : V) (H1 H2 : Hp) (ws : List V) (Kp : VK) (Ks : Hp → Prop), i < n → Same Hb H1 → Pv i ws → Y i H1 x H2 → (∀ y H5, Same H1 H5 → Pv (i + 1) (ws ++ [y]) → Kp y H5) → (∀ H5, Same H1 H5 → Pv (i + 1) ws → Ks H5) →
      g x (wipe σ vs) H2 fun σ2 H3 => wipe σ2 vs = wipe σ vs ∧ tt σ2 H3 fun b H4 => nIte b (te σ2 H4 Kp) (Ks H4))
    (hd : ∀ H' ws, Same Hb H' → H' D = some (.lst ws) → Pv n ws → Nx H') : nIn D J g tt te vs σ H Nx := by
  refine ⟨fun i m H' => m = n - i ∧ i ≤ n ∧ ∃ ws, Same Hb H' ∧ H' D = some (.lst ws) ∧ Pv i ws, ⟨n, by simp, Nat.zero_le _, ws0, sb, e0, h0⟩, fun i m H' hW => ?_⟩
  obtain ⟨rfl, hi, ws, s1, e1, q1⟩ := hW
  by_cases lt : i < n
  · refine .inr ⟨wk.goes i H' lt (hG H' s1), fun H2 => ∃ ws, Same Hb H2 ∧ H2 D = some (.lst ws) ∧ Pv (i + 1) ws, fun H2 p2 => ⟨n - (i + 1), by omega, rfl, lt, p2⟩, fun x H2 y => ?_⟩
    exact hs i x H' H2 ws _ _ lt s1 q1 (wk.yields i H' x H2 lt (hG H' s1) y) (fun y H5 s5 q5 => ⟨ws, s5 D _ e1, sz_lt (by have := hz i ws (by omega) q1; omega), ws ++ [y], sm_mut (s1.trans s5) hD, upd_same, q5⟩) (fun H5 s5 q5 => ⟨ws, s1.trans s5, s5 D _ e1, q5⟩)
  · obtain rfl : i = n := by omega
    exact .inl ⟨wk.stops H' (hG H' s1), hd H' ws s1 e1 q1⟩
theorem k_nLc2 (wk : Walk J n G Y) (hG : ∀ H', Same H H' → G H') (Pv : Nat → List V → Prop) (h0 : Pv 0 [])
    (hs : ∀ (i : Nat) (x : V) (D : Addr) (H1 H2 : Hp) (ws : List V) (Nx : Hp → Prop), i < n → H D = none → Same H H1 → H1 D = some (.lst ws) → Pv i ws → Y i H1 x H2 → (∀ H5 ws', Same H H5 → H5 D = some (.lst ws') → Pv (i + 1) ws' → Nx H5) →
      g x (wipe σ vs) H2 fun σ2 H3 => wipe σ2 vs = wipe σ vs ∧ tt σ2 H3 fun b H4 => nIte b (wi1 σ2 H4 fun J1 H5 => nIn D J1 g1 tt1 te vs1 σ2 H5 Nx) (Nx H4))
    (hd : ∀ (p : Addr) (H' : Hp) (ws : List V), H p = none → Same H H' → H' p = some (.lst ws) → Pv n ws → Q (.ref p) H') : nLc2 J g tt wi1 g1 tt1 te vs vs1 σ H Q := by
  intro p hp
  refine ⟨fun i m H' => m = n - i ∧ i ≤ n ∧ ∃ ws, Same H H' ∧ H' p = some (.lst ws) ∧ Pv i ws, ⟨n, by simp, Nat.zero_le _, [], sm_new hp, upd_same, h0⟩, fun i m H' hW => ?_⟩
  obtain ⟨rfl, hi, ws, s1, e1, q1⟩ := hW
  by_cases lt : i < n
  · exact .inr ⟨wk.goes i H' lt (hG H' s1), fun H2 => ∃ ws, Same H H2 ∧ H2 p = some (.lst ws) ∧ Pv (i + 1) ws, fun H2 p2 => ⟨n - (i + 1), by omega, rfl, lt, p2⟩, fun x H2 y => hs i x p H' H2 ws _ lt hp s1 e1 q1 (wk.yields i H' x H2 lt (hG H' s1) y) fun H5 ws' s5 e5 q5 => ⟨ws', s5, e5, q5⟩⟩
  · obtain rfl : i = n := by omega
    exact .inl ⟨wk.stops H' (hG H' s1), hd p H' ws hp s1 e1 q1⟩
end
/-! ### slices, places -/
theorem cutV_to (xs : List V) (n : Nat) : cutV xs none (some (n : Int)) = xs.take n := by
  unfold cutV
  rw [HT.sIx_nat]
  show ((xs.drop 0).take (min n xs.length - 0)) = xs.take n
  rw [List.drop_zero, Nat.sub_zero, ← List.take_eq_take_min]
/-- the first place of a sign -/
theorem occ_one {cs : List Nat} {c i : Nat} (h : cs[i]? = some c) (hf : ∀ j, j < i → cs[j]? ≠ some c) : ∃ rest, Builtin.Str.occurrences (tx cs) ⟨#[c]⟩ 0 (tx cs).length 1 = i :: rest := by
  have h1 := StrLaws.occ_head (tx cs) ⟨#[c]⟩ 1 (Nat.le_refl _)
  have at_ : ∀ j, StrLaws.At (tx cs) ⟨#[c]⟩ (tx cs).length j ↔ cs[j]? = some c := fun j => StrLaws.subAt_one (tx cs) c j
  rcases h1 with ⟨_, h1⟩ | ⟨j, r, e, hj, hk⟩
  · exact absurd ((at_ i).mpr h) (h1 i)
  · rw [at_] at hj
    have : i = j := by
      rcases Nat.lt_trichotomy i j with z | z | z
      · exact absurd ((at_ i).mpr h) (hk i z)
      · exact z
      · exact absurd hj (hf j z)
    exact ⟨r, by rw [e, this]⟩
/-! ### fields that are laid -/
section
variable {P : Prop} [Decidable P] {A B : Prop}
theorem k_decT (hp : P) (h : A) : nIte (decide P) A B := k_dec (fun _ => h) fun z => absurd hp z
theorem k_decF (hp : ¬ P) (h : B) : nIte (decide P) A B := k_dec (fun z => absurd z hp) fun _ => h
end
theorem k_allT {K : PySem.W.Frag} {H : Hp} {Q : VK} {a : Addr} {xs : List V} (n : Nat) (e : xs = List.replicate n (.bl true)) (hx : H a = some (.lst xs)) (h : Q (.bl true) H) : rAll K [.ref a] H Q := by
  refine k_all (bs := List.replicate n true) (sq_l (by rw [hx, e, List.map_replicate])) ?_
  rw [show (List.replicate n true).all id = true by simp]
  exact h
/-- all tests of a comprehension are true -/
theorem k_nLcT {σ : L2.St} {H : Hp} {Q : VK} {te : TE} {g : TG} {n : Nat} {vs : List Nat} {J : It} {G : Hp → Prop} {Y : Nat → Hp → V → Hp → Prop} (wk : Walk J n G Y) (hn : n ≤ 50000) (hG : ∀ H', Same H H' → G H')
    (hs : ∀ (i : Nat) (x : V) (H1 H2 : Hp) (Kp : VK), i < n → Same H H1 → Y i H1 x H2 → (∀ H5, Same H1 H5 → Kp (.bl true) H5) → g x (wipe σ vs) H2 fun σ2 H3 => wipe σ2 vs = wipe σ vs ∧ te σ2 H3 Kp)
    (hd : ∀ (p : Addr) (H' : Hp), H p = none → Same H H' → H' p = some (.lst (List.replicate n (.bl true))) → Q (.ref p) H') : nLc J g tYes te vs σ H Q := by
  refine k_nLc wk hG (fun i ws => ws = List.replicate i (.bl true)) rfl (fun i ws hi e => by rw [e, List.length_replicate]; omega) (fun i x H1 H2 ws Kp Ks hi s1 e hy h1 _ => ?_) (fun p H' ws hp s1 e1 e => hd p H' hp s1 (by rw [e1, e]))
  exact hs i x H1 H2 Kp hi s1 hy fun H5 s5 => h1 _ H5 s5 (by rw [e, List.replicate_succ'])
/-! ### sets, steps -/
section
variable {K : PySem.W.Frag} {P : Program} {w : World} {H : Hp} {Q : VK} {a : Addr} {z : Str}
theorem k_setX (pz : Pl z) (nd : (TL.tl z).Nodup) (lz : z.length ≤ 1000) (h : ∀ p H', H p = none → Same H H' → H' p = some (SetXO P w p ((TL.tl z).map sg).reverse) → Q (.ref p) H') : rSetA K P w [.str z] H Q := .inl ⟨z, rfl, pz, nd, lz, h⟩
theorem k_sortX {l : List Str} (ha : H a = some (SetXO P w a l)) (nd : l.Nodup) (hl : l.length ≤ 1000) (h : ∀ (ys : List Str) p H', ys.Perm l → ys.Pairwise (fun x y => x.cps.toList ≤ y.cps.toList) → H p = none → Same H H' → H' p = some (.lst (ys.map V.str)) → Q (.ref p) H') : rSortedA K P w [.ref a] H Q := .inl (.inr ⟨a, l, rfl, ha, nd, hl, h⟩)
theorem k_sortM {L : List RwM} (ha : H a = some (SetMO P w a L)) (hL : ∀ p ∈ L, SqT K H p.1 (p.2.map kV)) (al : AllAlike (L.map encM)) (ne : ∀ p ∈ L, p.2 ≠ [])
    (h : ∀ (L' : List RwM) p H', L'.Perm L → (L.map (·.2)).Nodup → L'.Pairwise (fun x y => dataLe false encM x y = true) → H p = none → Same H H' → H' p = some (.lst (L'.map fun q => V.ref q.1)) → Q (.ref p) H') : rSortedA K P w [.ref a] H Q := .inr (.inr ⟨a, L, rfl, ha, hL, al, ne, h⟩)
end
theorem eq_le {a : List Nat} : ∀ {b : List Nat}, a.Pairwise (· ≤ ·) → b.Pairwise (· ≤ ·) → a.Perm b → a = b := by
  induction a with
  | nil => exact fun _ _ p => (List.nil_perm.mp p).symm
  | cons x a ih =>
    intro b ha hb p
    cases b with
    | nil => exact absurd p.length_eq (by simp)
    | cons y b =>
      obtain ⟨a1, a2⟩ := List.pairwise_cons.mp ha
      obtain ⟨b1, b2⟩ := List.pairwise_cons.mp hb
      have e : x = y := by
        rcases List.mem_cons.mp (p.mem_iff.mp (List.mem_cons_self (a := x) (l := a))) with e | h1
        · exact e
        rcases List.mem_cons.mp (p.mem_iff.mpr (List.mem_cons_self (a := y) (l := b))) with e | h2
        · exact e.symm
        have := b1 _ h1
        have := a1 _ h2
        omega
      subst e
      rw [ih a2 b2 (List.Perm.cons_inv p)]
theorem le1 (a b : Nat) (h : ([a] : List Nat) ≤ [b]) : a ≤ b := by
  rcases Nat.lt_or_ge b a with z | z
  · exact absurd (show ([b] : List Nat) < [a] from List.Lex.rel z) h
  · exact z
theorem sorted_sgs {ys : List Str} {cs : List Nat} (hp : ys.Perm (cs.map sg).reverse) (hs : ys.Pairwise (fun x y => x.cps.toList ≤ y.cps.toList)) (hc : cs.Pairwise (· < ·)) : ys = cs.map sg := by
  have p2 : ys.Perm (cs.map sg) := hp.trans (List.reverse_perm _)
  obtain ⟨ds, rfl, pd⟩ := perm_back sg p2 cs rfl
  rw [List.pairwise_map] at hs
  rw [eq_le (hs.imp fun h => le1 _ _ h) (hc.imp fun h => Nat.le_of_lt h) pd]
/-! ### what stands apart from an object that changes -/
section
variable {K : PySem.W.Frag} {H H' : Hp} {a b p C dx : Addr} {xs ws : List V} {o u : HO} {fs : List (Str × V)}
theorem rd_upd (hp : H p = some u) (hu : ∀ v, u ≠ .frz v o) (hn : u ≠ o) (h : Rd H b o) {o2 : HO} : Rd (upd H p o2) b o := by
  rcases h with h | ⟨v, h⟩
  · exact .inl (by rw [upd_ne (ne_of h hp (Ne.symm hn))]; exact h)
  · exact .inr ⟨v, by rw [upd_ne (ne_of h hp (Ne.symm (hu v)))]; exact h⟩
/-- tuples beside a list, an instance -/
theorem t_lst (hp : H p = some (.lst ws)) (h : SqT K H b xs) : SqT K (upd H p o) b xs := h.elim (fun h => .inl (rd_upd hp (fun _ z => by cases z) (fun z => by cases z) h)) .inr
theorem t_ins (hp : H p = some (.ins C dx fs)) (h : SqT K H b xs) : SqT K (upd H p o) b xs := h.elim (fun h => .inl (rd_upd hp (fun _ z => by cases z) (fun z => by cases z) h)) .inr
theorem l_ins (hp : H p = some (.ins C dx fs)) (h : SqL K H b xs) : SqL K (upd H p o) b xs := h.elim (fun h => .inl (rd_upd hp (fun _ z => by cases z) (fun z => by cases z) h)) .inr
theorem t_dk {kvs : List (Key × V)} (hp : H p = some (.dK kvs)) (h : SqT K H b xs) : SqT K (upd H p o) b xs := h.elim (fun h => .inl (rd_upd hp (fun _ z => by cases z) (fun z => by cases z) h)) .inr
theorem sm_del : Same (del H p) H := fun b u h => by
  by_cases e : b = p
  · rw [e, del_same] at h
    cases h
  · rw [del_ne e] at h
    exact h
theorem del_mono (s : Same H H') : Same (del H p) (del H' p) := fun b u h => by
  by_cases e : b = p
  · rw [e, del_same] at h
    cases h
  · rw [del_ne e] at h ⊢
    exact s b u h
theorem del_upd : del (upd H p o) p = del H p := by
  funext b
  by_cases e : b = p
  · rw [e, del_same, del_same]
  · rw [del_ne e, del_ne e, upd_ne e]
theorem del_none (h : H p = none) : del H p = H := by
  funext b
  by_cases e : b = p
  · rw [e, del_same, h]
  · rw [del_ne e]
theorem del_t (hp : H p = some (.lst ws)) (h : SqT K H b xs) : SqT K (del H p) b xs := by
  rcases h with (h | ⟨v, h⟩) | h
  · exact .inl (.inl (by rw [del_ne (ne_of h hp (fun z => by cases z))]; exact h))
  · exact .inl (.inr ⟨v, by rw [del_ne (ne_of h hp (fun z => by cases z))]; exact h⟩)
  · exact .inr h
theorem del_l (hb : b ≠ p) (h : SqL K H b xs) : SqL K (del H p) b xs := by
  rcases h with (h | ⟨v, h⟩) | h
  · exact .inl (.inl (by rw [del_ne hb]; exact h))
  · exact .inl (.inr ⟨v, by rw [del_ne hb]; exact h⟩)
  · exact .inr h
end
section
variable {σ : L2.St} {H : Hp} {Q : VK} {te : TE} {tt : TT} {g : TG} {n : Nat} {vs : List Nat} {J : It} {G : Hp → Prop} {Y : Nat → Hp → V → Hp → Prop}
/-- a comprehension whose values are told with the heap (beside the new list) -/
theorem k_nLcD (wk : Walk J n G Y) (hG : ∀ H', Same H H' → G H') (Pv : Nat → List V → Hp → Prop) (hm : ∀ i ws H1 H2, Same H1 H2 → Pv i ws H1 → Pv i ws H2) (h0 : Pv 0 [] H) (hz : ∀ i ws H1, i ≤ n → Pv i ws H1 → ws.length ≤ 50000)
    (hs : ∀ (i : Nat) (x : V) (p : Addr) (H1 H2 : Hp) (ws : List V) (Kp : VK) (Ks : Hp → Prop), i < n → H p = none → Same H H1 → H1 p = some (.lst ws) → Pv i ws (del H1 p) → Y i H1 x H2 → (∀ y H5, Same H1 H5 → Pv (i + 1) (ws ++ [y]) (del H5 p) → Kp y H5) → (∀ H5, Same H1 H5 → Pv (i + 1) ws (del H5 p) → Ks H5) →
      g x (wipe σ vs) H2 fun σ2 H3 => wipe σ2 vs = wipe σ vs ∧ tt σ2 H3 fun b H4 => nIte b (te σ2 H4 Kp) (Ks H4))
    (hd : ∀ (p : Addr) (H' : Hp) (ws : List V), H p = none → Same H H' → H' p = some (.lst ws) → Pv n ws H' → Q (.ref p) H') : nLc J g tt te vs σ H Q := by
  intro p hp
  refine lc_it wk (fun i H' => ∃ ws : List V, Same H H' ∧ H' p = some (.lst ws) ∧ Pv i ws (del H' p)) ⟨[], sm_new hp, upd_same, by rw [del_upd, del_none hp]; exact h0⟩ (fun i H' _ h => ?_) (fun i x H1 H2 hi h hy => ?_) (fun H' h => ?_)
  · obtain ⟨ws, s1, _⟩ := h
    exact hG H' s1
  · obtain ⟨ws, s1, e1, q1⟩ := h
    exact hs i x p H1 H2 ws _ _ hi hp s1 e1 q1 hy (fun y H5 s5 q5 => ⟨ws, s5 p _ e1, sz_lt (by have := hz i ws _ (by omega) q1; omega), ws ++ [y], sm_mut (s1.trans s5) hp, upd_same, by rw [del_upd]; exact q5⟩) (fun H5 s5 q5 => ⟨ws, s1.trans s5, s5 p _ e1, q5⟩)
  · obtain ⟨ws, s1, e1, q1⟩ := h
    exact hd p H' ws hp s1 e1 (hm _ _ _ _ sm_del q1)
end
theorem k_niT {K : PySem.W.Frag} {H : Hp} {Q : VK} {x : V} {p : Addr} {xs : List V} {b : Bool} (hx : SqT K H p xs) (fx : flatV x = true) (fs : xs.all flatV = true) (hi : (!inV x xs) = b) (h : Q (.bl b) H) : rIn K true x (.ref p) H Q := ⟨p, xs, rfl, .inr hx, fx, fs, by
  show Q (.bl (!inV x xs)) H
  rw [hi]
  exact h⟩
/-! ### lists of pairs of numbers, written -/
def tPrs : List (Int × Int) → TA
  | [] => tNil
  | q :: r => tCons (tTup (tCons (tC (.int q.1)) (tCons (tC (.int q.2)) tNil))) (tPrs r)
theorem k_prs {σ : L2.St} : ∀ (ps : List (Int × Int)) {H : Hp} {R : List V → Hp → Prop}, (∀ (Z : List (Addr × Int × Int)) H', Same H H' → Z.map (·.2) = ps → (∀ q ∈ Z, H' q.1 = some (.tup [.int q.2.1, .int q.2.2])) → R (Z.map fun q => V.ref q.1) H') → tPrs ps σ H R
  | [], H, R, h => h [] H (Same.refl _) rfl fun q hq => nomatch hq
  | p :: r, H, R, h => by
    show nTup [.int p.1, .int p.2] H fun y H1 => tPrs r σ H1 fun xs H2 => R (y :: xs) H2
    refine k_nTup (Q := fun y H1 => tPrs r σ H1 fun xs H2 => R (y :: xs) H2) (xs := [.int p.1, .int p.2]) (by show 2 ≤ 100000; decide) (fun T H1 n1 s1 e1 => k_prs r fun Z H2 s2 hz hq => ?_)
    refine h ((T, p) :: Z) H2 (s1.trans s2) (by rw [List.map_cons, hz]) fun q hq2 => ?_
    rcases List.mem_cons.mp hq2 with rfl | hq2
    · exact s2 _ _ e1
    · exact hq q hq2
theorem k_lprs {σ : L2.St} (ps : List (Int × Int)) (hl : ps.length ≤ 100000) {H : Hp} {Q : VK} (h : ∀ (Z : List (Addr × Int × Int)) p H', H p = none → Same H H' → Z.map (·.2) = ps → (∀ q ∈ Z, H' q.1 = some (.tup [.int q.2.1, .int q.2.2])) → H' p = some (.lst (Z.map fun q => V.ref q.1)) → Q (.ref p) H') : tLst (tPrs ps) σ H Q := by
  refine k_lst (k_prs ps fun Z H1 s1 hz hq => ?_)
  have lz : Z.length = ps.length := by rw [← hz, List.length_map]
  refine k_nLst (by rw [List.length_map]; omega) (fun p H2 n2 s2 e2 => h Z p H2 (s1.free n2) (s1.trans s2) hz (fun q hq' => s2 _ _ (hq q hq')) e2)
/-- whatever way it goes, Po holds -/
theorem k_post {σ : L2.St} {H : Hp} {Q : VK} {te : TE} (Po : V → Hp → Prop) (h1 : ∀ Q' : VK, (∀ v H', Po v H' → Q' v H') → te σ H Q') (h2 : ∀ v H', Po v H' → Q v H') : te σ H Q := h1 Q h2
theorem dp_is {K : PySem.W.Frag} {H : Hp} : ∀ ns : List Int, DpAll K H (ns.map V.int) (ns.map PyData.int)
  | [] => .nil
  | n :: r => .cons (.int n) (dp_is r)
theorem dp_ints {K : PySem.W.Frag} {H : Hp} {a : Addr} {ns : List Int} (h : SqL K H a (ns.map V.int)) : Dp K H (.ref a) (.list (ns.map .int)) := .lst h (dp_is ns)
theorem good_ints {ns : List Int} (h : ∀ n ∈ ns, n.natAbs ≤ 2 ^ 63) (hl : ns.length ≤ 50000) (j : Nat) : Good (j + 2) (.list (ns.map .int)) := ⟨by rw [List.length_map]; exact hl, fun e he => by
  obtain ⟨n, hn, rfl⟩ := List.mem_map.mp he
  have := log_nat (h n hn)
  rwa [Int.natAbs_natCast] at this⟩
theorem eqv_nil (ds : List PyData) : PyData.eqv (.list ds) (.list []) = decide (ds = []) := by
  cases ds with
  | nil => simp [PyData.eqv, PyData.eqvAll]
  | cons d r => simp [PyData.eqv, PyData.eqvAll]
/-- a list of ints, is it empty -/
theorem k_neNil {K : PySem.W.Frag} {H : Hp} {Q : VK} {a b : Addr} {ns : List Int} (h1 : SqL K H a (ns.map V.int)) (h2 : SqL K H b []) (hn : ∀ n ∈ ns, n.natAbs ≤ 2 ^ 63) (hl : ns.length ≤ 50000) (h : Q (.bl (!decide (ns = []))) H) : rNeU K (.ref a) (.ref b) H Q := by
  refine k_ne_d (dp_ints h1) (.lst h2 .nil) ((good_ints hn hl 0).shaped (by decide)) (by decide) ?_
  rw [eqv_nil, show decide (ns.map PyData.int = []) = decide (ns = []) by cases ns <;> rfl]
  exact h
end Gk
set_option Elab.async false
set_option autoImplicit false
set_option linter.all false
set_option maxRecDepth 100000
set_option maxHeartbeats 4000000
/-! # LookupErrors with a field, deep membership in tuples, while, slices by codes -/
namespace Gk
open PySem PySem.Spec PyProof.Rows L2
/-! ### the class under the module's name x, over LookupError, made with one value -/
/-! ### deep membership -/
def rNiTD (K : PySem.W.Frag) : R2 := fun x y H Q => ∃ d ds, Dp K H x d ∧ Dp K H y (.tuple ds) ∧ SeqAt.shaped d = true ∧ SeqAt.shaped (.tuple ds) = true ∧ Q (.bl (!(ds.any fun z => PyData.eqv z d))) H
theorem op_niTD {X : Cx} (K : PySem.W.Frag) (hu : X.A.units + 65 < cLine) (hK : X.K = K := by rfl) : OpR X (compareOp .NotIn) (rNiTD K) := by
  subst hK
  intro pins s σ H x y v u Q I rx ry h
  obtain ⟨d, ds, hd, he, sd, se, q⟩ := h
  obtain ⟨as, r1⟩ := Dp.reads I d x v hd rx
  obtain ⟨bs, r2⟩ := Dp.reads I (.tuple ds) y u he ry
  have le := SeqAt.canLay_of_shaped se
  simp only [PyData.canLay0] at le
  exact SeqAt.notIn_tuple_reads r2 r1 le (SeqAt.canLay_of_shaped sd) (room_in_shaped sd hu) ⟨.bl _, H, I, rfl, q⟩
def rNiLD (K : PySem.W.Frag) : R2 := fun x y H Q => ∃ d ds, Dp K H x d ∧ Dp K H y (.list ds) ∧ SeqAt.shaped d = true ∧ SeqAt.shaped (.list ds) = true ∧ Q (.bl (!(ds.any fun z => PyData.eqv z d))) H
theorem op_niLD {X : Cx} (K : PySem.W.Frag) (hu : X.A.units + 65 < cLine) (hK : X.K = K := by rfl) : OpR X (compareOp .NotIn) (rNiLD K) := by
  subst hK
  exact op_notInD hu
/-! ### keys as data -/
def dKey : Key → PyData
  | .inl n => .int n
  | .inr z => .str z
def dKeys (k : List Key) : PyData := .tuple (k.map dKey)
theorem dp_key {K : PySem.W.Frag} {H : Hp} : ∀ k : Key, Dp K H (kV k) (dKey k)
  | .inl n => .int n
  | .inr z => .str z
theorem dpall_keys {K : PySem.W.Frag} {H : Hp} : ∀ k : List Key, DpAll K H (k.map kV) (k.map dKey)
  | [] => .nil
  | x :: r => .cons (dp_key x) (dpall_keys r)
theorem dp_keys {K : PySem.W.Frag} {H : Hp} {T : Addr} {k : List Key} (h : SqT K H T (k.map kV)) : Dp K H (.ref T) (dKeys k) := .tup h (dpall_keys k)
theorem eqv_key (a b : Key) : PyData.eqv (dKey a) (dKey b) = decide (a = b) := by
  cases a with
  | inl n =>
    cases b with
    | inl m =>
      simp only [dKey, PyData.eqv]
      rw [Bool.eq_iff_iff]
      simp
    | inr z => simp [dKey, PyData.eqv]
  | inr n =>
    cases b with
    | inl m => simp [dKey, PyData.eqv]
    | inr z =>
      simp only [dKey, PyData.eqv]
      rw [Bool.eq_iff_iff]
      simp
theorem eqvAll_keys : ∀ a b : List Key, PyData.eqvAll (a.map dKey) (b.map dKey) = decide (a = b)
  | [], [] => by simp [PyData.eqvAll]
  | [], b :: bs => by simp [PyData.eqvAll]
  | a :: as, [] => by simp [PyData.eqvAll]
  | a :: as, b :: bs => by
    rw [List.map_cons, List.map_cons]
    simp only [PyData.eqvAll, eqv_key, eqvAll_keys as bs]
    by_cases h : a = b
    · subst h
      simp
    · simp [h]
theorem eqv_keys (a b : List Key) : PyData.eqv (dKeys a) (dKeys b) = decide (a = b) := by
  unfold dKeys
  simp only [PyData.eqv]
  exact eqvAll_keys a b
theorem any_keys (ks : List (List Key)) (k : List Key) : (ks.map dKeys).any (fun z => PyData.eqv z (dKeys k)) = ks.any fun x => decide (x = k) := by
  rw [List.any_map]
  congr 1
  funext x
  exact eqv_keys x k
/-! ### while -/
def nTurn (W : Nat → L2.St → Hp → Prop) (m : Nat) (tb : TS) (D : Ends) (b : Bool) (σ : L2.St) (H : Hp) : Prop :=
  if b = true then ∃ N : L2.St → Hp → Prop, (∀ σ' H', N σ' H' → ∃ m', m' < m ∧ W m' σ' H') ∧ tb { D with nx := N, ct := N, bk := D.nx } σ H else D.nx σ H
section
variable {c : TT} {tb : TS} {D : Ends} {σ : L2.St} {H : Hp} {W : Nat → L2.St → Hp → Prop} {m : Nat}
theorem k_while (W : Nat → L2.St → Hp → Prop) (h0 : ∃ m, W m σ H) (hs : ∀ m σ H, W m σ H → c σ H fun b H1 => nTurn W m tb D b σ H1) : tWhile c tb D σ H := ⟨W, h0, hs⟩
theorem k_turnT (h : tb { D with nx := fun σ' H' => ∃ m', m' < m ∧ W m' σ' H', ct := fun σ' H' => ∃ m', m' < m ∧ W m' σ' H', bk := D.nx } σ H) : nTurn W m tb D true σ H := by
  unfold nTurn
  rw [if_pos rfl]
  exact ⟨_, fun _ _ h => h, h⟩
theorem k_turnF (h : D.nx σ H) : nTurn W m tb D false σ H := h
theorem k_turnD {P : Prop} [Decidable P] (h1 : P → nTurn W m tb D true σ H) (h2 : ¬ P → nTurn W m tb D false σ H) : nTurn W m tb D (decide P) σ H := by
  by_cases e : P
  · rw [decide_eq_true e]
    exact h1 e
  · rw [decide_eq_false e]
    exact h2 e
end
/-! ### slices by codes, of lists -/
theorem cutS_to (u : List Nat) (n : Int) (h : 0 ≤ n) : cutS (tx u) none (some n) = tx (u.take n.toNat) := by
  refine TL.ext_tl ?_
  obtain ⟨k, rfl⟩ : ∃ k : Nat, n = (k : Int) := ⟨n.toNat, by omega⟩
  rw [tl_cutS, HT.sIx_nat, tl_tx, tl_tx, len_tx]
  show (u.drop 0).take (min k u.length - 0) = _
  rw [List.drop_zero, Nat.sub_zero, Int.toNat_natCast, ← List.take_eq_take_min]
theorem cutS_from (u : List Nat) (n : Int) (h : 0 ≤ n) : cutS (tx u) (some n) none = tx (u.drop n.toNat) := by
  refine TL.ext_tl ?_
  obtain ⟨k, rfl⟩ : ∃ k : Nat, n = (k : Int) := ⟨n.toNat, by omega⟩
  rw [tl_cutS, HT.sIx_nat, tl_tx, tl_tx, len_tx]
  show (u.drop (min k u.length)).take (u.length - min k u.length) = _
  rw [Int.toNat_natCast, List.take_of_length_le (by rw [List.length_drop]; omega)]
  by_cases e : k ≤ u.length
  · rw [Nat.min_eq_left e]
  · rw [Nat.min_eq_right (by omega), List.drop_length, List.drop_of_length_le (by omega)]
theorem cutV_toI (xs : List V) (n : Int) (h : 0 ≤ n) : cutV xs none (some n) = xs.take n.toNat := by
  obtain ⟨k, rfl⟩ : ∃ k : Nat, n = (k : Int) := ⟨n.toNat, by omega⟩
  rw [cutV_to, Int.toNat_natCast]
theorem cutV_fromI (xs : List V) (n : Int) (h : 0 ≤ n) : cutV xs (some n) none = xs.drop n.toNat := by
  obtain ⟨k, rfl⟩ : ∃ k : Nat, n = (k : Int) := ⟨n.toNat, by omega⟩
  unfold cutV
  rw [HT.sIx_nat]
  show (xs.drop (min k xs.length)).take (xs.length - min k xs.length) = _
  rw [Int.toNat_natCast, List.take_of_length_le (by rw [List.length_drop]; omega)]
  by_cases e : k ≤ xs.length
  · rw [Nat.min_eq_left e]
  · rw [Nat.min_eq_right (by omega), List.drop_length, List.drop_of_length_le (by omega)]
theorem cutV_mid (xs : List V) (m n : Int) (h : 0 ≤ m) (h2 : m ≤ n) : cutV xs (some m) (some n) = (xs.drop m.toNat).take (n.toNat - m.toNat) := by
  obtain ⟨k, rfl⟩ : ∃ k : Nat, m = (k : Int) := ⟨m.toNat, by omega⟩
  obtain ⟨j, rfl⟩ : ∃ j : Nat, n = (j : Int) := ⟨n.toNat, by omega⟩
  unfold cutV
  rw [HT.sIx_nat, HT.sIx_nat, Int.toNat_natCast, Int.toNat_natCast]
  by_cases e : k ≤ xs.length
  · rw [Nat.min_eq_left e, List.take_eq_take_iff, List.length_drop]
    omega
  · rw [List.drop_of_length_le (i := min k xs.length) (by omega), List.drop_of_length_le (i := k) (by omega), List.take_nil, List.take_nil]
theorem tx_app (u v : List Nat) : tx u ++ tx v = tx (u ++ v) := by
  show (⟨u.toArray ++ v.toArray⟩ : Str) = ⟨(u ++ v).toArray⟩
  congr 1
  simp
theorem tx_nil : (Str.ofString "" : Str) = tx [] := by decide +kernel
theorem tx_eq (u v : List Nat) : decide (tx u = tx v) = decide (u = v) := by
  by_cases h : u = v
  · rw [h, decide_eq_true rfl, decide_eq_true rfl]
  · rw [decide_eq_false h, decide_eq_false fun z => h (tx_inj z)]
/-! ### min, max of two -/
def rMax2 : List V → Hp → VK → Prop := fun xs H Q => ∃ i j, xs = [.int i, .int j] ∧ Q (.int (max i j)) H
def rMin2 : List V → Hp → VK → Prop := fun xs H Q => ∃ i j, xs = [.int i, .int j] ∧ Q (.int (min i j)) H
section
variable {X : Cx} {H : Hp} {Q : VK} {i j : Int}
theorem call_maxK (hc : X.calm = true := by rfl) : CallR X (.builtin "max") rMax2 := fun pins s σ H xs us Q I r h => call_max2 hc pins s σ H xs us Q I r (by
  obtain ⟨i, j, e, q⟩ := h
  refine ⟨i, j, e, ?_⟩
  rw [show (if j > i then j else i) = max i j by split <;> omega]
  exact q)
theorem call_minK (hc : X.calm = true := by rfl) : CallR X (.builtin "min") rMin2 := fun pins s σ H xs us Q I r h => call_min2 hc pins s σ H xs us Q I r (by
  obtain ⟨i, j, e, q⟩ := h
  refine ⟨i, j, e, ?_⟩
  rw [show (if j < i then j else i) = min i j by split <;> omega]
  exact q)
theorem k_min2 (h : Q (.int (min i j)) H) : rMin2 [.int i, .int j] H Q := ⟨i, j, rfl, h⟩
theorem k_max2 (h : Q (.int (max i j)) H) : rMax2 [.int i, .int j] H Q := ⟨i, j, rfl, h⟩
end
theorem u65 {k : Nat} {A : Around} (r : Room k A) : A.units + 65 < cLine := by
  have := r.un
  omega
/-! ### defs called with keywords -/
section
variable {X : Cx} {CX : CXT} {k j n m : Nat} {sp : Sp} {E : XK} {x : Str} {p pos : Pos} {e : Expr} {es : List Expr} {kws : List Keyword} {t tk : TA} {ks : List Str} {gV : List V → List V → List V} {σ : L2.St} {H : Hp} {Q : VK}
end
/-! ### two names at once; None -/
def nPar (i j : Nat) (vs : List V) (σ : L2.St) (H : Hp) (R : L2.St → Hp → Prop) : Prop := ∃ v w, vs = [v, w] ∧ R ((σ.set i (some v)).set j (some w)) H
section
variable {σ : L2.St} {H : Hp} {Q : VK} {D : Ends} {ta : TA} {i j : Nat} {v w : V} {R : L2.St → Hp → Prop} {p : Addr}
theorem k_par (h : ta σ H fun vs H1 => nPar i j vs σ H1 D.nx) : tPar i j ta D σ H := h
theorem k_nPar (h : R ((σ.set i (some v)).set j (some w)) H) : nPar i j [v, w] σ H R := ⟨v, w, rfl, h⟩
theorem k_ntNn (h : Q (.bl false) H) : rNotN .non .non H Q := ⟨rfl, h⟩
theorem k_ntNr (h : Q (.bl true) H) : rNotN (.ref p) .non H Q := ⟨rfl, h⟩
end
/-! ### data, in and out -/
section
variable {K : PySem.W.Frag} {H : Hp} {v : V} {d : PyData}
theorem dpall_app : ∀ {vs : List V} {ds : List PyData}, DpAll K H vs ds → Dp K H v d → DpAll K H (vs ++ [v]) (ds ++ [d])
  | _, _, .nil, h => .cons h .nil
  | _, _, .cons a r, h => .cons a (dpall_app r h)
theorem dpall_apps {ws : List V} {es : List PyData} : ∀ {vs : List V} {ds : List PyData}, DpAll K H vs ds → DpAll K H ws es → DpAll K H (vs ++ ws) (ds ++ es)
  | _, _, .nil, h => h
  | _, _, .cons a r, h => .cons a (dpall_apps r h)
theorem dp_tupI {ds : List PyData} (h : Dp K H v (.tuple ds)) : ∃ t ws, v = .ref t ∧ SqT K H t ws ∧ DpAll K H ws ds := by
  cases h with
  | tup h r => exact ⟨_, _, rfl, h, r⟩
theorem dp_strI {z : Str} (h : Dp K H v (.str z)) : v = .str z := by cases h; rfl
theorem dp_intI {n : Int} (h : Dp K H v (.int n)) : v = .int n := by cases h; rfl
theorem dp_tup2I {d1 d2 : PyData} (h : Dp K H v (.tuple [d1, d2])) : ∃ t x y, v = .ref t ∧ SqT K H t [x, y] ∧ Dp K H x d1 ∧ Dp K H y d2 := by
  obtain ⟨t, ws, e, h1, h2⟩ := dp_tupI h
  cases h2 with
  | cons a r =>
    cases r with
    | cons b r =>
      cases r
      exact ⟨t, _, _, e, h1, a, b⟩
end
/-! ### int of a bool, an int, a text -/
/-! ### exceptions of the text with their word alone -/
/-! ### isinstance(x, str) -/
section
variable {X : Cx} (K : PySem.W.Frag)
end
end Gk
set_option Elab.async false
set_option autoImplicit false
set_option linter.all false
set_option maxRecDepth 100000
set_option maxHeartbeats 4000000
/-! # enumerate over tuples, rows that are lists or tuples -/
namespace PySem
set_option maxHeartbeats 4000000 in
theorem meets_enumB {v : Value} {o : Obj} {H : Heap → Prop} (B : Begins v o H) :
    Meets (Builtin.«enumerate.__new__» ⟨[.type "enumerate", v], []⟩) (fun _ R s => H s.heap ∧
      R (.ok (.ret (.ref (s.heap.push o).objs.size))) { s with heap := (s.heap.push o).push { cls := .type "enumerate", data := .fields #[.none, .bool false, .ref s.heap.objs.size, rawInt 0, .none, .none] } }) :=
  .of_wp fun prog w A R s hh => by
    obtain ⟨hp, g, d, tk, os⟩ := s
    obtain ⟨h1, h2⟩ := hh
    have hs := sub_enumerate
    have qq : ∀ {A' : Around} {E : Value → Shared → Prop} {Q : Value → Shared → Prop}, Q (.ref hp.objs.size) ⟨hp.push o, g, d, tk, os⟩ → wpAny (model prog w) A' (pyIter v) Q E ⟨hp, g, d, tk, os⟩ := fun q => B.iter prog w _ _ ⟨hp, g, d, tk, os⟩ _ h1 q
    wp_walk using qq
    refine wpAny_stack_any fun sk => wpAny_pure ?_
    split
    · rename_i c _ _ _ _ _
      cases (c == Value.type "enumerate") <;> (wp_walk using qq; exact ⟨_, rfl, h2⟩)
    · wp_walk using qq
      exact ⟨_, rfl, h2⟩
theorem call_enumB {prog : Program} {w : World} {A : Around} {E : Value → Shared → Prop} {s : Shared} {v : Value} {o : Obj} {H : Heap → Prop} {Q : Value → Shared → Prop} (B : Begins v o H) (h1 : H s.heap)
    (h : ∀ h', IsEnum h' (s.heap.objs.size + 1) s.heap.objs.size 0 .none → h'.get? s.heap.objs.size = some o → h'.objs.size = s.heap.objs.size + 2 → (∀ b o, s.heap.get? b = some o → h'.get? b = some o) → Q (.ref (s.heap.objs.size + 1)) { s with heap := h' }) :
    wpAny (model prog w) A (call (.type "enumerate") [v]) Q E s := by
  refine callType_new F.called_enumerate (by decide) (F.typeCall_enumerate_1 _) (F.newCall_enumerate_1 _) (fun obj => F.args_object_init_2 obj _) F.entry_enumerate_new (meets_enumB B) ⟨h1, ?_⟩
  have z1 : (s.heap.push o).objs.size = s.heap.objs.size + 1 := Heap.size_push ..
  show _ ∧ _
  rw [z1]
  have z2 := Heap.get?_push_size (s.heap.push o) (o := { cls := .type "enumerate", data := .fields #[.none, .bool false, .ref s.heap.objs.size, rawInt 0, .none, .none] }) rfl
  rw [z1] at z2
  exact ⟨⟨_, z2, rfl⟩, h _ z2 (Heap.get?_push_of_some _ (Heap.get?_push_size _ B.free)) (by rw [Heap.size_push, z1]) fun b o x => Heap.get?_push_of_some _ (Heap.get?_push_of_some _ x)⟩
end PySem
namespace Gk
open PySem PySem.Spec PyProof.Rows L2
def IteT (K : PySem.W.Frag) (a : Addr) : It :=
  ⟨fun i H => ∃ (xs : List V) (x : V), SqT K H a xs ∧ xs[i]? = some x, fun i H v H' => ∃ T x, v = .ref T ∧ H T = none ∧ H' = upd H T (.tup [.int (i : Nat), x]) ∧ ∀ xs, SqT K H a xs → xs[i]? = some x, fun i H => ∃ xs : List V, SqT K H a xs ∧ xs.length ≤ i⟩
theorem turn_enumT {P : Program} {w : World} {K : PySem.W.Frag} {elts : List Expr} {kk : Nat} {tpos : Pos} (a e it : Addr) :
    Turn P w K (.Tuple elts kk tpos) (IteT K a) [e, it] e (fun i h => (∃ old, IsEnum h e it ((i : Nat) : Int) old) ∧ h.IsTupleIter it a i ∧ e ≠ it ∧ e ≠ a ∧ a ≠ it) where
  mem := by simp
  obj := fun i h st b hb => by
    obtain ⟨⟨old, he⟩, ⟨o, ho, hc, hd⟩, _⟩ := st
    rcases (show b = e ∨ b = it by simpa using hb) with z | z
    · exact z ▸ ⟨_, he, fun v q => nomatch q⟩
    · exact z ▸ ⟨o, ho, fun v q => by rw [hd] at q; cases q⟩
  keep := fun i h h' st k => let ⟨⟨old, he⟩, hi, hne⟩ := st; ⟨⟨old, k e (by simp) _ he⟩, hi.at fun o q => k it (by simp) o q, hne⟩
  item := by
    intro X hP hw hK hc i pins s σ H E I hf st hg
    subst hP hw hK
    obtain ⟨⟨old, he⟩, hit, hne, hea, hai⟩ := st
    obtain ⟨xs, x, hq, hx⟩ := hg
    obtain ⟨its, rv, p, hz⟩ := I.tuple hq
    obtain ⟨u, hu, ru⟩ := rv.get hx
    have hel : e < s.heap.objs.size := Heap.lt_size he
    have hil : it < s.heap.objs.size := by obtain ⟨_, q, _⟩ := hit; exact Heap.lt_size q
    have hi : i < its.toArray.size := by
      have := (List.getElem?_eq_some_iff.mp hu).1
      simpa using this
    refine wpAny_pyNext_enum_itemD (Draws.tuple (A := X.A.in1) (I.ok.hd hc) it a hai its.toArray) he ⟨hit, p⟩ hi hne (fun m => by rcases List.mem_cons.mp m with m | m; exact hne m; exact hea (List.mem_singleton.mp m)) fun x' h' tk hx' ho hst' hT hsz hk => ?_
    have ex : x' = u := by
      have h1 : its[i]? = some x' := by simpa using hx'
      rw [hu] at h1
      exact (Option.some.inj h1).symm
    subst ex
    refine ⟨_, rfl, wpAny_letOwnedTupleGo_enum (s := { s with heap := h', toks := tk + 1 }) ho fun h2 he' sb => ?_⟩
    have hT2 : h2.get? s.heap.objs.size = some { cls := .type "tuple", data := .seq #[.int i tk, x'] } := (sb.2 _ (Nat.ne_of_gt hel)).trans hT
    have new : ObjOk X.prog X.w (upd H s.heap.objs.size (.tup [.int (i : Nat), x])) h2 s.heap.objs.size (.tup [.int (i : Nat), x]) :=
      ⟨by show 2 ≤ sizeLine; decide, [.int i tk, x'], .cons ⟨_, rfl⟩ (.cons ru .nil), ⟨_, hT2, rfl, _, rfl⟩⟩
    have I1 : Inv X pins σ (upd H s.heap.objs.size (.tup [.int (i : Nat), x])) { s with heap := h2, toks := tk + 1 } :=
      I.turnedNew (ch := [e, it]) (fun b ob hb q => (sb.2 b (fun z => hb (by simp [z]))).trans (hk b ob (fun z => hb (by simp [z])) (fun z => hb (by simp [z])) q)) hf (Nat.le_refl _) new
    refine ⟨.ref s.heap.objs.size, _, I1, rfl, ⟨_, x, rfl, I.hok.fresh (Nat.le_refl _), rfl, fun ys hy => by rw [I.tuple_inj hy hq]; exact hx⟩, ⟨⟨x', ?_⟩, hst'.1.at fun o q => (sb.2 it (Ne.symm hne)).trans q, hne, hea, hai⟩, fun b hb => ?_⟩
    · rw [show ((i + 1 : Nat) : Int) = (i : Int) + 1 by omega]
      exact he'
    · have hb' : b < s.heap.objs.size := by
        rcases (show b = e ∨ b = it by simpa using hb) with z | z
        · exact z ▸ hel
        · exact z ▸ hil
      rw [upd_ne (Nat.ne_of_lt hb')]
      exact (hf b hb).1
  done := by
    intro X hP hw hK hc i pins s σ H E I hf st hg
    subst hP hw hK
    obtain ⟨⟨old, he⟩, hit, hne, hea, hai⟩ := st
    obtain ⟨xs, hq, hx⟩ := hg
    obtain ⟨its, rv, p, hz⟩ := I.tuple hq
    obtain ⟨f0, f1, f2, f3, f4, f5⟩ := hf it (by simp)
    have hl := rv.length
    have D : Draws X.prog X.w X.A.in1 it [it, a] i (fun _ _ => True) (fun j h => j = i ∧ h.IsTupleIter it a i ∧ h.IsTuple a its.toArray) :=
      { live := fun _ _ st => let ⟨o, ho, _⟩ := st.2.1; ⟨o, ho⟩
        frame := fun _ _ _ st hk => ⟨st.1, st.2.1.at fun o e => hk it (by simp) o e, st.2.2.at fun o e => hk a (by simp) o e⟩
        item := fun j s' Q' E' hj st' _ => absurd st'.1 (Nat.ne_of_lt hj)
        done := fun s' Q' E' st' hE => wpAny_nextOf_tuple_end (I.ok.hd hc) st'.2.1 st'.2.2 (by simp; omega) hE }
    exact wpAny_pyNext_enum_endD D he ⟨rfl, hit, p⟩ fun h' eb => ⟨rfl, I.turned (t' := s.toks) (fun b o hb q => eb b o hb q) f0 f1 f3 f4 f5⟩
  self := fun A i s Q E st h => let ⟨⟨_, he⟩, _⟩ := st; wpAny_pyIter_enum he h
end Gk
namespace Gk
open PySem PySem.Spec PyProof.Rows L2
/-! ## lists and tuples alike -/
def SqB (K : PySem.W.Frag) (t : Bool) (H : Hp) (a : Addr) (xs : List V) : Prop := match t with
  | true => SqT K H a xs
  | false => SqL K H a xs
theorem sm_b {K : PySem.W.Frag} {t : Bool} {H H' : Hp} {a : Addr} {xs : List V} (e : Same H H') (h : SqB K t H a xs) : SqB K t H' a xs := match t, h with
  | true, h => sm_t e h
  | false, h => sm_l e h
def IteB (K : PySem.W.Frag) (t : Bool) (a : Addr) : It := match t with
  | true => IteT K a
  | false => Ite K a
theorem walk_enumB {K : PySem.W.Frag} {t : Bool} {a : Addr} {xs : List V} : Walk (IteB K t a) xs.length (fun H => SqB K t H a xs) (YPair (fun i => some (.int (i : Nat))) (fun i => xs[i]?)) := by
  cases t with
  | false => exact walk_enum
  | true =>
    refine ⟨fun i _ hi q => ⟨xs, xs[i], q, by simp [hi]⟩, fun _ q => ⟨xs, q, Nat.le_refl _⟩, fun i H v H' _ q y => ?_⟩
    obtain ⟨T, x, h1, h2, h3, h4⟩ := y
    exact ⟨T, .int (i : Nat), x, h1, h2, h3, rfl, h4 xs q⟩
def nIteB (K : PySem.W.Frag) (vs : List V) (R : It → Hp → Prop) (H : Hp) : Prop := ∃ t a xs, vs = [.ref a] ∧ SqB K t H a xs ∧ R (IteB K t a) H
def iEnumB (K : PySem.W.Frag) (ta : TA) : TI := fun σ H R => ta σ H fun vs H1 => nIteB K vs R H1
theorem pi_enumB {X : Cx} {K : PySem.W.Frag} {e : Expr} {ta : TA} {p pos tpos : Pos} {elts : List Expr} {kk : Nat} (hg : Gl X "enumerate") (hm : X.mg "enumerate" = none) (ha : PA X [e] ta) (hK : X.K = K := by rfl) (hs : starEach [e] X.env = [(false, eval e X.env)] := by rfl) :
    PI X (.Tuple elts kk tpos) (.Call (.Name "enumerate" p) [e] [] pos) (iEnumB K ta) := by
  subst hK
  refine ⟨fun pins s σ H R I h => ?_⟩
  refine Call_ (ld_blt I hg hm boot_enumerate (PyProof.Rows.callWith_type1 (thn (ha.run pos pins s σ H _ I h) fun us s1 ⟨vs, H1, I1, r1, q1⟩ => ?_) hs rfl))
  obtain ⟨t, a, xs, ex, hq, q⟩ := q1
  subst ex
  have far : ∀ b, b ∈ [s1.heap.objs.size + 1, s1.heap.objs.size] → s1.heap.objs.size ≤ b := fun b hb => by
    have e' : b = s1.heap.objs.size + 1 ∨ b = s1.heap.objs.size := by simpa using hb
    rcases e' with z | z
    · rw [z]; exact Nat.le_add_right _ _
    · rw [z]; exact Nat.le_refl _
  cases r1 with
  | cons r rr =>
    cases rr
    cases r
    cases t with
    | false =>
      obtain ⟨its, rv, p', hz⟩ := I1.list hq
      refine call_enumerate_list p'.isList fun h' he hit hsz hk => wpAny_pyIter_enum he ?_
      have I2 : Inv X pins σ H1 { s1 with heap := h' } := I1.kept (t' := s1.toks) hk
      exact ⟨s1.heap.objs.size + 1, [s1.heap.objs.size + 1, s1.heap.objs.size], _, _, H1, rfl, I2, turn_enum a (s1.heap.objs.size + 1) s1.heap.objs.size, ⟨⟨.none, he⟩, hit, Nat.succ_ne_self _⟩, fun b hb => I1.fpOk (far b hb) (I1.hok.fresh (far b hb)), q⟩
    | true =>
      obtain ⟨its, rv, p', hz⟩ := I1.tuple hq
      have al : a < s1.heap.objs.size := by obtain ⟨_, q, _⟩ := id p'; exact Heap.lt_size q
      refine call_enumB (begins_tuple a its.toArray) p' fun h' he hit hsz hk => wpAny_pyIter_enum he ?_
      have I2 : Inv X pins σ H1 { s1 with heap := h' } := I1.kept (t' := s1.toks) hk
      exact ⟨s1.heap.objs.size + 1, [s1.heap.objs.size + 1, s1.heap.objs.size], _, _, H1, rfl, I2, turn_enumT a (s1.heap.objs.size + 1) s1.heap.objs.size, ⟨⟨.none, he⟩, ⟨_, hit, rfl, rfl⟩, Nat.succ_ne_self _, Nat.ne_of_gt (Nat.lt_succ_of_lt al), Nat.ne_of_lt al⟩, fun b hb => I1.fpOk (far b hb) (I1.hok.fresh (far b hb)), q⟩
section
variable {K : PySem.W.Frag} {σ : L2.St} {H : Hp} {Q : VK} {tA : TA} {R : It → Hp → Prop} {t : Bool} {a : Addr} {xs : List V}
theorem k_iteB (h : tA σ H fun vs H1 => nIteB K vs R H1) : iEnumB K tA σ H R := h
theorem k_nIteB (hx : SqB K t H a xs) (h : R (IteB K t a) H) : nIteB K [.ref a] R H := ⟨t, a, xs, rfl, hx, h⟩
theorem k_sl_t {lo hi : Option Int} (hx : SqT K H a xs) (h : ∀ p H2, Same H H2 → SqT K H2 p (cutV xs lo hi) → Q (.ref p) H2) : rSlU K (.ref a) lo hi H Q := by
  refine .inr (.inr ⟨a, xs, rfl, hx, fun hw => ?_, fun _ p hp => h p _ (sm_new hp) (sq_t upd_same)⟩)
  refine h a H (Same.refl _) ?_
  have e : cutV xs lo hi = xs := by
    unfold cutV
    rw [hw.1, hw.2, List.drop_zero, Nat.sub_zero, List.take_length]
  rw [e]
  exact hx
theorem k_sl_b {lo hi : Option Int} (hx : SqB K t H a xs) (h : ∀ p H2, Same H H2 → SqB K t H2 p (cutV xs lo hi) → Q (.ref p) H2) : rSlU K (.ref a) lo hi H Q := match t, hx, h with
  | true, hx, h => k_sl_t hx h
  | false, hx, h => k_sl_l hx fun p H2 _ s e => h p H2 s (sq_l e)
theorem k_len_b (hx : SqB K t H a xs) (h : Q (.int xs.length) H) : rLenU K [.ref a] H Q := match t, hx with
  | true, hx => k_len_t hx h
  | false, hx => k_len_l hx h
theorem k_list_b (hx : SqB K t H a xs) (h : ∀ p H2, H p = none → Same H H2 → H2 p = some (.lst xs) → Q (.ref p) H2) : rListU K [.ref a] H Q := match t, hx with
  | true, hx => k_list_t hx h
  | false, hx => k_list_l hx h
end
end Gk
namespace Gk
open PySem PySem.Spec PyProof.Rows L2
/-! ## l.clear(), text * int, list * int -/
section
variable {X : Cx} {K : PySem.W.Frag}
end
end Gk
namespace Gk
open PySem PySem.Spec PyProof.Rows L2
/-! ## list(range(a, b)) -/
end Gk
set_option Elab.async false
set_option autoImplicit false
set_option linter.all false
set_option maxRecDepth 100000
set_option maxHeartbeats 4000000
/-! # lambdas without parameters, handed to a def that calls them; a Hook that tells empty tables -/
namespace Gk
open PySem PySem.Spec PyProof.Rows L2 LamX
/-! ## the Hook -/
end Gk
namespace Gk
open PySem PySem.Spec PyProof.Rows L2 LamX
section
variable {X : Cx} {pins : List (Addr × Obj)} {σ : L2.St} {H : Hp} {s : Shared}
end
/-- a def's table of code objects: c, the def's code object -/
structure TabC (X : Cx) (c Pt : Addr) : Prop where
  tb : TabB X.base X.mg c Pt
  code : X.env.code = .ref c
/-- as FunD.ok; the code object is told -/
theorem okC {P : Program} {w : World} {K : PySem.W.Frag} {mg : Str → Option Value} {base : Heap} {x qual : Str} {params : Arguments} {body : List Stmt} {scope : Scope} {dvs : List V} {kws : List (Str × V)} {p : He.Defn} {fd : FuncData} {CX : CXT} {N ps : List Str} {k : Nat} {sp : Sp} (F : FunD K x qual params body scope dvs kws (He.fAd K p) fd) (S : FnScope N ps scope) (len : ∀ vs H Q E, sp vs H Q E → vs.length = ps.length)
    (hbody : ∀ (A : Around) (outer : List Env) (s : Shared) (H : Hp) (vs : List V) (Q : VK) (E : XK), Room k (A.deeper (envOfC qual scope s.heap.objs.size (He.fAd K p) (.ref (He.cT K p).1))) → sp vs H Q E →
      ∃ t, PSs (cxOf CX P w K mg base N qual scope (He.fAd K p) (.ref (He.cT K p).1) A outer s H E) body t ∧ t { nx := fun _ H' => Q .non H', rt := Q } (start N vs) H) : FnOk P w K mg base CX (k + 1) (He.fAd K p) fd ps sp := by
  obtain ⟨oc, od, dV, kV, doc, pm, an, cdv, ct, osl, rfl, lk, hcd, _, _⟩ := F.ex
  obtain ⟨c, rfl⟩ := He.codeIn_ref hcd
  have e : He.codeOf K p = c := He.codeOf_eq lk rfl
  subst e
  exact fn_of lk hcd S len fun A outer s H vs Q E hr hsp => hbody A outer s H vs Q E hr hsp
/-! ## heaps behind a lambda -/
section
variable {K : PySem.W.Frag} {H H' : Hp} {a : Addr} {xs : List V} {T : List (Addr × Str)}
theorem tabs_sm (s : Same H H') (t : Tabs T H) : Tabs T H' := t.ext s
theorem ext_rd {u : HO} (e : ExtN H H') (n : ∀ ps, u ≠ .tbl ps) (n2 : ∀ o, (HO.frz o u) = (HO.frz o u)) (h : Rd H a u) : Rd H' a u := by
  rcases h with h | ⟨o, h⟩
  · exact Or.inl (e a _ h n)
  · exact Or.inr ⟨o, e a _ h fun ps z => by cases z⟩
theorem ext_l (e : ExtN H H') (h : SqL K H a xs) : SqL K H' a xs := h.elim (fun h => .inl (ext_rd e (fun _ z => by cases z) (fun _ => rfl) h)) .inr
theorem ext_t (e : ExtN H H') (h : SqT K H a xs) : SqT K H' a xs := h.elim (fun h => .inl (ext_rd e (fun _ z => by cases z) (fun _ => rfl) h)) .inr
theorem same_ext (s : Same H H') : ExtN H H' := fun b o h _ => s b o h
end
end Gk
namespace Gk
open PySem PySem.Spec PyProof.Rows L2 LamX
theorem BagOk.ext {H H' : Hp} {b : Addr} (e : ExtN H H') (h : BagOk H b) : BagOk H' b := by
  obtain ⟨c, ns, h1, h2⟩ := h
  exact ⟨c, ns, e _ _ h1 (fun ps z => by unfold bagO at z; cases z), e _ _ h2 fun ps z => by cases z⟩
theorem ext_lst {H H' : Hp} {a : Addr} {xs : List V} (e : ExtN H H') (h : H a = some (.lst xs)) : H' a = some (.lst xs) := e _ _ h fun ps z => by cases z
end Gk
set_option Elab.async false
set_option autoImplicit false
set_option linter.all false
set_option maxRecDepth 100000
set_option maxHeartbeats 4000000
/-! # several clauses `except x as n` -/
namespace Gk
open PySem PySem.Spec PyProof.Rows L2
section
variable {X : Cx} {body : List Stmt} {h₀ : ExceptHandler} {hds : List ExceptHandler} {l : List (Value × Nat × (Addr → Value → Option Addr → TS))} {pos : Pos} {tb : WX → TS} {Wout : WX}
end
end Gk
set_option Elab.async false
set_option autoImplicit false
set_option linter.all false
set_option maxRecDepth 100000
set_option maxHeartbeats 4000000
/-! # dicts: their values summed, comprehensions that make them -/
namespace Gk
open PySem PySem.Spec PyProof.Rows L2
section
variable {X : Cx}
end
section
variable {prog : Program} {w : World} {A : Around} {E : Value → Shared → Prop} {s : Shared} {T : String} {r d : Addr} {n : Nat} {P : Nat → Value → Prop} {OK : Heap → Prop} {Q : Value → Shared → Prop}
end
section
variable {X : Cx}
end
section
variable {X : Cx} {K : PySem.W.Frag} {H : Hp} {Q : VK} {σ : L2.St}
theorem k_dnewT (h : ∀ p H', H p = none → Same H H' → H' p = some (.dT []) → Q (.ref p) H') : tDNewT σ H Q := fun p hp => h p _ hp (sm_new hp) upd_same
end
/-! ## an own class made by place alone -/
section
variable {X : Cx} {K : PySem.W.Frag} {CX : CXT} {k j : Nat} {sp : Sp} {x : Str} {p pos : Pos} {e : Expr} {es : List Expr} {t : TA} {E : XK}
end
/-! ## dict(pairs); walks over a dict's keys, the dict held meanwhile -/
section
variable {κ : Type} [DecidableEq κ]
end
section
variable {K : PySem.W.Frag} {H : Hp} {Q : VK} {σ : L2.St} {a d : Addr}
end
/-! ## range with a step -/
end Gk
set_option Elab.async false
set_option autoImplicit false
set_option linter.all false
set_option maxRecDepth 100000
set_option maxHeartbeats 4000000
/-! # the order of data; list.index -/
namespace Gk
open PySem PySem.Spec PyProof.Rows L2
open PySem.W (dataLt alike)
end Gk
set_option Elab.async false
set_option autoImplicit false
set_option linter.all false
set_option maxRecDepth 100000
set_option maxHeartbeats 4000000
/-! # x, *xs = tuple -/
namespace Gk
open PySem PySem.Spec PyProof.Rows L2 PySem.W
section
variable {prog : Program} {w : World} {A : Around} {E : Value → Shared → Prop} {s : Shared} {env : Env}
end
end Gk
set_option Elab.async false
set_option autoImplicit false
set_option linter.all false
set_option maxRecDepth 100000
set_option maxHeartbeats 4000000
/-! # list.pop(i); set(list of tuples); sorted(text); == by an own __eq__ -/
namespace Gk
open PySem PySem.Spec PyProof.Rows L2
open PySem.W (EachIs AllAlike Sortable dataLe dataLt alike keyToks sort_pairwise sortLe_total list_sort_data)
/-! ### l.pop(i), i from the front -/
/-! ### set(list of tuples of ints and texts) -/
section
variable {P : Program} {w : World} {A : Around} {E : Value → Shared → Prop} {s : Shared}
end
end Gk
namespace Gk
open PySem PySem.Spec PyProof.Rows L2
open PySem.W (EachIs AllAlike Sortable dataLe dataLt alike keyToks sort_pairwise sortLe_total list_sort_data)
/-! ### sorted(text) -/
section
variable {P : Program} {w : World} {A : Around} {E : Value → Shared → Prop} {s : Shared}
end
/-! ### == by the class's own __eq__, the answer True -/
end Gk
set_option Elab.async false
set_option autoImplicit false
set_option linter.all false
set_option maxRecDepth 100000
set_option maxHeartbeats 4000000
/-! # a dict of the module, texts to ints: the Hook that tells it, `in`, `[]` -/
namespace Gk
open PySem PySem.Spec PyProof.Rows L2 LamX
/-! ## the Hook -/
/-! ## the dict told -/
/-! ## rules -/
section
variable {X : Cx} {K : PySem.W.Frag} {w : World} {mg : Str → Option Value} {x : Str} {kvs : List (Str × Int)}
end
end Gk
namespace Gk
open PySem PySem.Spec PyProof.Rows L2 LamX
/-! ## isinstance(x, int), isinstance(x, bool) of data -/
section
variable {K : PySem.W.Frag} {H : Hp} {Q : VK} {x : V} {d : PyData}
end
/-! ## for over a list or a tuple -/
def ItB (K : PySem.W.Frag) (t : Bool) (a : Addr) : It := match t with
  | true => Itt K a
  | false => Itl K a
def nItB (K : PySem.W.Frag) (v : V) (R : It → Hp → Prop) (H : Hp) : Prop := ∃ t a xs, v = .ref a ∧ SqB K t H a xs ∧ R (ItB K t a) H
def iSqB (K : PySem.W.Frag) (tl : TE) : TI := fun σ H R => tl σ H fun v H1 => nItB K v R H1
theorem pi_anyK {X : Cx} (K : PySem.W.Frag) {tg l : Expr} {tl : TE} (hl : PE X l tl) (hK : X.K = K := by rfl) : PI X tg l (iSqB K tl) := by
  subst hK
  refine ⟨fun pins s σ H R I h => ?_⟩
  refine thn (hl.run pins s σ H _ I h) fun v s1 ⟨x, H1, I1, r1, q1⟩ => ?_
  obtain ⟨t, a, xs, e, hq, q⟩ := q1
  subst e
  cases r1
  cases t with
  | false =>
    obtain ⟨its, rv, p, hz⟩ := I1.list hq
    refine wpAny_pyIter_list p.isList ?_
    refine ⟨s1.heap.objs.size, [s1.heap.objs.size], _, _, H1, rfl, I1.kept (t' := s1.toks) fun b o e => Heap.get?_push_of_some _ e, turn_list a _, ⟨_, Heap.get?_push_size _ rfl, rfl, rfl⟩, fun b hb => ?_, q⟩
    have e : b = s1.heap.objs.size := by simpa using hb
    subst e
    exact I1.fpOk (Nat.le_refl _) (I1.hok.fresh (Nat.le_refl _))
  | true =>
    obtain ⟨its, rv, p, hz⟩ := I1.tuple hq
    refine wpAny_pyIter_tuple (show s1.heap.IsTuple a its.toArray from p) ?_
    refine ⟨s1.heap.objs.size, [s1.heap.objs.size], _, _, H1, rfl, I1.kept (t' := s1.toks) fun b o e => Heap.get?_push_of_some _ e, turn_tuple a _, ⟨_, Heap.get?_push_size _ rfl, rfl, rfl⟩, fun b hb => ?_, q⟩
    have e : b = s1.heap.objs.size := by simpa using hb
    subst e
    exact I1.fpOk (Nat.le_refl _) (I1.hok.fresh (Nat.le_refl _))
theorem k_itB {K : PySem.W.Frag} {tl : TE} {σ : L2.St} {H : Hp} {R : It → Hp → Prop} (h : tl σ H fun v H1 => nItB K v R H1) : iSqB K tl σ H R := h
theorem k_nItB {K : PySem.W.Frag} {t : Bool} {a : Addr} {xs : List V} {R : It → Hp → Prop} {H : Hp} (hx : SqB K t H a xs) (h : R (ItB K t a) H) : nItB K (.ref a) R H := ⟨t, a, xs, rfl, hx, h⟩
theorem walk_listB {K : PySem.W.Frag} {t : Bool} {a : Addr} {xs : List V} : Walk (ItB K t a) xs.length (fun H => SqB K t H a xs) (YAt xs) := match t with
  | true => walk_tup
  | false => walk_list
end Gk
set_option Elab.async false
set_option autoImplicit false
set_option linter.all false
set_option maxRecDepth 100000
set_option maxHeartbeats 4000000
/-! # dicts with tuple keys: a display of one pair, steps; list(text) -/
namespace Gk
open PySem PySem.Spec PyProof.Rows L2
end Gk
namespace Gk
open PySem PySem.Spec PyProof.Rows L2
section
variable {K : PySem.W.Frag} {σ : L2.St} {H : Hp} {Q : VK} {td ty te : TE} {a b : Addr} {kvs : List (List Key × V)} {k : List Key} {v : V} {R : Hp → Prop}
end
/-! ### list(text) -/
end Gk
set_option Elab.async false
set_option autoImplicit false
set_option linter.all false
set_option maxRecDepth 100000
set_option maxHeartbeats 4000000
/-! # sorted(xs, key=f), f a def of the module or a lambda, over the reading layer; keys may hold lists -/
namespace Gk
open PySem PySem.Spec PyProof.Rows L2 LamX NdefX
open PySem.W (EachIs AllAlike Sortable dataLe KeyedOut KeepsBut sortVals dataKind SortsAt)
section
variable {X : Cx} {pins : List (Addr × Obj)} {σ : L2.St} {H H' : Hp} {s : Shared} {a : Addr}
/-- an address that the built-in made for itself -/
structure Mine (X : Cx) (pins : List (Addr × Obj)) (a : Addr) : Prop where
  L : a ≠ X.env.locals
  o : a ∉ X.fs
  z : a ∈ X.ex ∨ X.s_0.heap.objs.size ≤ a
  c : ∀ x c, X.env.cells.lookup x = some c → c ≠ a
  p : ∀ p ∈ X.pn ++ pins, p.1 ≠ a
theorem Mine.new (I : Inv X pins σ H s) (h : s.heap.objs.size ≤ a) : Mine X pins a := by
  obtain ⟨_, h1, h2, h3, h4, h5⟩ := I.fpOk h (I.hok.fresh h)
  exact ⟨h1, h2, h3, h4, h5⟩
theorem Mine.stk (m : Mine X pins a) (I : Inv X pins σ H s) : a ∉ frs X.stack := fun z => (List.mem_cons.mp (I.stkSub a z)).elim m.L m.o
/-- records of ours, not tracked, have turned -/
theorem inv_mine {t' : Nat} {h' : Heap} {ch : List Addr} (I : Inv X pins σ H s) (hm : ∀ b ∈ ch, Mine X pins b ∧ H b = none) (k : ∀ b u, b ∉ ch → s.heap.get? b = some u → h'.get? b = some u) : Inv X pins σ H { s with heap := h', toks := t' } := by
  have nt : ∀ b u, H b = some u → b ∉ ch := fun b u e z => by rw [(hm b z).2] at e; cases e
  have nL : X.env.locals ∉ ch := fun z => (hm _ z).1.L rfl
  refine I.step (g' := s.gens) (d' := s.drawn) (ch := ch) (fun b hb => ⟨(hm b hb).1.z, (hm b hb).1.L, (hm b hb).1.c, (hm b hb).1.p⟩) (fun b u _ _ hc e _ => k b u hc e) (fun b u _ _ hc e _ => ⟨u.slots, k b u hc e⟩) (fun _ _ _ _ n => n)
    (fun b u hc e => ⟨u, k b u hc e⟩) (fun _ _ e => e) (fun _ _ _ e => e) (fun b ps e => ⟨#[], by rw [e]; simp⟩) (fun m hn => ?_) (fun b u e => ?_) I.bare
  · obtain ⟨ob, es, ep, ho, r⟩ := hn
    exact ⟨ob, es, ep, k _ ob nL ho, r⟩
  · refine (I.hok b u e).stay (fun d v hd q => k d v ?_ q) (fun _ q => q) fun _ _ q => q
    rcases hd with z | z
    · rw [z]
      exact nt b u e
    · exact nt d _ z
/-- a record of ours is tracked from now on -/
theorem inv_adopt {o : HO} (I : Inv X pins σ H s) (m : Mine X pins a) (n : H a = none) (new : ObjOk X.prog X.w (upd H a o) s.heap a o) : Inv X pins σ (upd H a o) s := by
  have sm : ∀ b u, H b = some u → b ≠ a := fun b u e => ne_of_none e n
  have I2 := I.step (h' := s.heap) (H' := upd H a o) (t' := s.toks) (g' := s.gens) (d' := s.drawn) (ch := [a]) (fun b hb => by
      have e : b = a := by simpa using hb
      subst e
      exact ⟨m.z, m.L, m.c, m.p⟩) (fun b u _ _ _ e _ => e) (fun b u _ _ _ e _ => ⟨u.slots, e⟩) (fun b u hc e n2 => by rw [upd_ne (fun z => hc (by simp [z]))]; exact n2)
    (fun b u _ e => ⟨u, e⟩) (fun b xs e => by rw [upd_ne (sm b _ e)]; exact e) (fun b u x e => by rw [upd_ne (sm b _ e)]; exact e) (fun b ps e => ⟨#[], by rw [upd_ne (sm b _ e), e]; simp⟩) (fun _ hn => hn) (fun b u e => ?_) I.bare
  · exact I2
  · by_cases hb : b = a
    · subst hb
      rw [upd_same] at e
      cases e
      exact new
    · rw [upd_ne hb] at e
      exact (I.hok b u e).stay (fun _ _ _ q => q) (fun d q => by rw [upd_ne (sm d _ q)]; exact q) fun d xs q => by rw [upd_ne (sm d _ q)]; exact q
theorem reads_each (I : Inv X pins σ H s) : ∀ {ws : List V} {ds : List PyData} {us : List Value}, DpAll X.K H ws ds → Vals ws us → EachIs (fun v d => ∃ as, Reads s.heap v d as) us ds
  | _, _, _, .nil, .nil => .nil
  | _, _, _, .cons h t, .cons r q => .cons (Dp.reads I _ _ _ h r) (reads_each I t q)
end
/-- f, called with one value from within two built-ins -/
def KeyFn (X : Cx) (f : Value) (C : Hp → Shared → Prop) (sp : V → Hp → VK → Prop) : Prop :=
  ∀ (pins : List (Addr × Obj)) (σ : L2.St) (H : Hp) (s : Shared) (x : V) (u : Value) (Q : VK), Inv X pins σ H s → C H s → RelV x u → sp x H Q → codeAny (model X.prog X.w) X.A.in1.in1 (.call f ⟨[u], []⟩) (CR CX0 X.stack X.prog X.w H s Q E0) s
/-- what is known of f stays while the objects below n that nobody tracks stay -/
def Stays (X : Cx) (n : Nat) (C : Hp → Shared → Prop) : Prop := ∀ (H H' : Hp) (s s' : Shared), C H s → Same H H' → (∀ b o, b < n → s.heap.get? b = some o → H b = none → H' b = none ∧ (∃ sl, s'.heap.get? b = some { o with slots := sl }) ∧ (b ∉ frs X.stack → s'.heap.get? b = some o)) → C H' s'
section
variable {X : Cx} {pins : List (Addr × Obj)} {σ : L2.St} {H : Hp} {s : Shared} {a kS : Addr} {f : Value} {n : Nat} {C : Hp → Shared → Prop} {sp : V → Hp → VK → Prop} {xs : List V} {vs : List Value} {kz : List PyData} {E : Value → Shared → Prop}
abbrev KeyTurn (K : PySem.W.Frag) (H : Hp) (xs : List V) (kz : List PyData) (sp : V → Hp → VK → Prop) : Prop := ∀ (i : Nat) (x : V) (d : PyData), xs[i]? = some x → kz[i]? = some d → ∀ H', Same H H' → ∀ Q : VK, (∀ v H'', Same H' H'' → Dp K H'' v d → Q v H'') → sp x H' Q
structure KIn (X : Cx) (pins : List (Addr × Obj)) (σ : L2.St) (H : Hp) (C : Hp → Shared → Prop) (a kS : Addr) (e1 : Nat) (kz : List PyData) (i : Nat) (s' : Shared) : Prop where
  ex : ∃ (H' : Hp) (ks : List Value) (e : Nat) (ws : List V), Inv X pins σ H' s' ∧ Same H H' ∧ C H' s' ∧ H' a = none ∧ H' kS = none ∧ s'.heap.get? kS = some (seqObj "list" ks.toArray e) ∧ s'.heap.get? a = some (seqObj "list" #[] e1) ∧ Vals ws ks ∧ DpAll X.K H' ws (kz.take i)
theorem sort_rest {P : PySem.Fin → Shared → Prop} {e1 : Nat} (hk : KeyFn X f C sp) (st : Stays X n C) (I : Inv X pins σ H s) (hC : C H s) (oa : Mine X pins a) (ok : Mine X pins kS) (an : n ≤ a) (kn : n ≤ kS) (na : H a = none) (nk : H kS = none) (ha : s.heap.get? a = some (seqObj "list" #[] e1))
    (hs : s.heap.get? kS = some (seqObj "list" #[] 0)) (ne : kS ≠ a) (rv : Vals xs vs) (hl : kz.length = vs.length) (hZ : vs.length ≤ sizeLine) (hal : AllAlike kz) (hsk : Sortable kz) (hu : ∀ d ∈ kz, X.A.in1.in1.units + d.depth < cLine) (turn : KeyTurn X.K H xs kz sp)
    (h : ∀ s' H' out c, Inv X pins σ H' s' → Same H H' → H' a = none → s'.heap.get? a = some (seqObj "list" (List.toArray out) c) → KeyedOut false kz vs out → P (.done (.ret .none)) s') :
    wpAny (model X.prog X.w) X.A.in1.in1 (ksk_rest a f false vs.toArray e1 (.ref kS)) P E s := by
  have lx : xs.length = vs.length := rv.length
  unfold ksk_rest
  refine wpAny_bind (wpAny_rule ?_)
  first
    | rw [List.forIn_toArray]
    | (rw [← Array.forIn_toList]; simp only [List.toList_toArray])
    | rw [← Array.forIn_toList]
  refine wpAny_bind (ksk_fold (fun i s' => KIn X pins σ H C a kS e1 kz i s') vs 0 s ⟨H, [], 0, [], I, Same.refl _, hC, na, nk, hs, ha, .nil, by rw [List.take_zero]; exact .nil⟩ (fun j u s1 hj hin => ?stp) (fun s1 hin => ?dn))
  case stp =>
    rw [Nat.zero_add] at hin ⊢
    obtain ⟨H1, ks, e, ws, I1, s01, C1, na1, nk1, g1, g2, rw1, dp⟩ := hin
    have lj : j < vs.length := (List.getElem?_eq_some_iff.mp hj).1
    obtain ⟨x, hx⟩ : ∃ x, xs[j]? = some x := ⟨_, List.getElem?_eq_getElem (by omega)⟩
    obtain ⟨d, hd⟩ : ∃ d, kz[j]? = some d := ⟨_, List.getElem?_eq_getElem (by omega)⟩
    obtain ⟨u', hu', ru⟩ := rv.get hx
    rw [hj] at hu'
    cases hu'
    have lk : ks.length ≤ vs.length := by
      have h1 := rw1.length
      have h2 := dpall_len dp
      rw [List.length_take] at h2
      omega
    refine wpAny_bind (wpAny_attempt (wpAny_call (codeAny_mono (hk pins σ H1 s1 x u (fun v H2 => Same H1 H2 ∧ Dp X.K H2 v d) I1 C1 ru (turn j x d hx hd H1 s01 _ fun v H2 s2 q => ⟨s2, q⟩)) fun r s2 hq => ?_)))
    cases r with
    | error _ =>
      exact (show False from hq).elim
    | ok fl =>
      cases fl with
      | next => exact False.elim hq
      | brk => exact False.elim hq
      | cont => exact False.elim hq
      | ret w =>
        obtain ⟨v, H2, os, bare, un, hok, r, s12, q⟩ := hq
        have I2 : Inv X pins σ H2 s2 := I1.call' os un hok bare (ch := []) (fun b z => absurd z (by simp))
        have ka := un.keep a _ g2 na1 (oa.stk I1) (by simp)
        have kk := un.keep kS _ g1 nk1 (ok.stk I1) (by simp)
        have na2 := un.free a _ g2 na1 (by simp)
        have nk2 := un.free kS _ g1 nk1 (by simp)
        have C2 := st _ _ _ _ C1 s12 fun b o _ e n => ⟨un.free b o e n (by simp), un.any e n (by simp), fun hb => un.keep b o e n hb (by simp)⟩
        try dsimp only
        have sb := Heap.SameBut.update s2.heap kS (Obj.mapSeq (·.push w))
        obtain ⟨c2, hc2⟩ : ∃ c2, (s2.heap.update kS (Obj.mapSeq (·.push w))).get? kS = some (seqObj "list" (ks ++ [w]).toArray c2) := ⟨_, by rw [get?_update_seq kk (·.push w)]; simp; rfl⟩
        refine wpAny_bind (listUpdate_at kk rfl ?_ (by rw [List.size_toArray]; omega) (by rw [Array.size_push, List.size_toArray]; omega))
        have I3 : Inv X pins σ H2 { s2 with heap := s2.heap.update kS (Obj.mapSeq (·.push w)), toks := s2.toks } := inv_mine (ch := [kS]) I2 (fun b hb => by
          have e : b = kS := by simpa using hb
          subst e
          exact ⟨ok, nk2⟩) fun b u hb e => (sb.2 b (fun z => hb (by simp [z]))).trans e
        refine wpAny_pure ⟨rfl, ⟨H2, ks ++ [w], c2, ws ++ [v], I3, s01.trans s12, ?_, na2, nk2, hc2, (sb.2 a ne.symm).trans ka, rw1.append (.cons r .nil), ?_⟩⟩
        · exact st _ _ _ _ C2 (Same.refl _) fun b o lb e n => ⟨n, ⟨o.slots, (sb.2 b (Nat.ne_of_lt (Nat.lt_of_lt_of_le lb kn))).trans e⟩, fun _ => (sb.2 b (Nat.ne_of_lt (Nat.lt_of_lt_of_le lb kn))).trans e⟩
        · rw [take_more hd]
          exact dpall_app (dpall_sm s12 dp) q
  case dn =>
    rw [Nat.zero_add] at hin
    obtain ⟨H1, ks, e, ws, I1, s01, C1, na1, nk1, g1, g2, rw1, dp⟩ := hin
    rw [List.take_of_length_le (by omega)] at dp
    have hz : ks.length = vs.length := by
      have h1 := rw1.length
      have h2 := dpall_len dp
      omega
    have rd := reads_each I1 dp rw1
    try dsimp only
    refine wpAny_bind (listItems_at g1 rfl ?_)
    have hid : (PySem.W.hideAll s1.heap [kS]).get? kS = none := PySem.W.hideAll_none [kS] (by simp)
    refine PySem.W.keyH_end (κ := dataKind s1.heap kz) (h₁ := PySem.W.hideAll s1.heap [kS]) (fun b o _ q => PySem.W.of_hideAll [kS] q) hid g1 g2 ne (SortsAt.data (s := s1) (by rw [List.toList_toArray]; exact rd) hal hsk hu) (by rw [List.size_toArray]; exact hz) hZ (fun h3 tk3 c k3 n3 => ?_)
    have I3 : Inv X pins σ H1 { s1 with heap := h3, toks := tk3 } := inv_mine (ch := [a, kS]) I1 (fun b hb => by
      rcases List.mem_cons.mp hb with z | z
      · rw [z]
        exact ⟨oa, na1⟩
      · rw [List.mem_singleton.mp z]
        exact ⟨ok, nk1⟩) fun b u hb q => k3 b u (fun z => hb (by simp [z])) (PySem.W.hideAll_get [kS] q (fun z => hb (by simp [List.mem_singleton.mp z])))
    exact h _ H1 _ c I3 s01 na1 n3 ⟨s1.heap, ks, hal, by rw [List.toList_toArray], rd⟩
theorem each_vals : ∀ {xs : List V} {vs : List Value} {kz : List PyData}, Vals xs vs → xs.length = kz.length → EachIs (fun v (p : V × PyData) => RelV p.1 v) vs (xs.zip kz)
  | _, _, _, .nil, _ => .nil
  | _, _, [], .cons _ _, h => by simp at h
  | _, _, d :: kz, .cons r t, h => .cons r (each_vals t (by simpa using h))
theorem vals_each : ∀ {vs : List Value} {bs : List (V × PyData)}, EachIs (fun v (p : V × PyData) => RelV p.1 v) vs bs → Vals (bs.map Prod.fst) vs
  | _, _, .nil => .nil
  | _, _, .cons r t => .cons r (vals_each t)
/-- list.sort(key=f) of a list of the built-in's own -/
theorem sort_tree {q : Addr} {n0 : Nat} (hk : KeyFn X (.ref q) C sp) (st : Stays X n0 C) (I : Inv X pins σ H s) (hC : C H s) (ma : Mine X pins a) (na : H a = none) (an : n0 ≤ a) {c0 : Nat} (ho : s.heap.get? a = some (seqObj "list" vs.toArray c0)) (rv : Vals xs vs) (hl : kz.length = xs.length) (hZ : xs.length ≤ 1000000)
    (hal : AllAlike kz) (hsk : Sortable kz) (hd : ∀ d ∈ kz, d.depth ≤ 60) (hu : X.A.units + 66 < cLine) (turn : KeyTurn X.K H xs kz sp) {Q : VK}
    (h : ∀ H', Same H H' → H' a = some (.lst (((xs.zip kz).mergeSort (dataLe false Prod.snd)).map Prod.fst)) → Q (.ref a) H') :
    wpAny (model X.prog X.w) X.A.in1.in1 (ksk_tree a (.ref q) false) (fun f s' => f = .done (.ret .none) ∧ EP X pins σ Q (.ref a) s') E s := by
  have lv : xs.length = vs.length := rv.length
  have hz2 : vs.length ≤ sizeLine := Nat.le_trans (by omega : vs.length ≤ 1000000) (by decide)
  have la := Heap.lt_size ho
  have mk : Mine X pins (s.heap.objs.size + 1) := Mine.new I (Nat.le_succ _)
  have nk : H (s.heap.objs.size + 1) = none := I.hok.fresh (Nat.le_succ _)
  have mt : Mine X pins s.heap.objs.size := Mine.new I (Nat.le_refl _)
  obtain ⟨e1, ho1⟩ : ∃ e1, (s.heap.update a (Obj.mapSeq fun _ => (#[] : Array Value))).get? a = some (seqObj "list" #[] e1) := ⟨_, get?_update_seq ho fun _ => #[]⟩
  have sb := Heap.SameBut.update s.heap a (Obj.mapSeq fun _ => (#[] : Array Value))
  unfold ksk_tree
  refine wpAny_bind (listItems_at ho rfl (wpAny_bind (listUpdate_at ho rfl ?_ (by rw [List.size_toArray]; exact hz2) (Nat.zero_le _))))
  refine wpAny_bind (seqEpoch_at ho1 rfl (wpAny_bind (wpAny_newTuple ?_ (by show vs.length ≤ _; exact hz2))))
  refine wpAny_bind (wpAny_newList (wpAny_holding ?_) (Nat.zero_le _))
  try dsimp only
  have z3 : ((s.heap.update a (Obj.mapSeq fun _ => (#[] : Array Value))).push (seqObj "tuple" vs.toArray 0)).objs.size = s.heap.objs.size + 1 := by rw [size_push', Heap.size_update]
  have g2 : (((s.heap.update a (Obj.mapSeq fun _ => (#[] : Array Value))).push (seqObj "tuple" vs.toArray 0)).push (seqObj "list" #[] 0)).get? (s.heap.objs.size + 1) = some (seqObj "list" #[] 0) := by
    rw [← z3]
    exact Heap.get?_push_size _ rfl
  have old : ∀ b o, b ≠ a → s.heap.get? b = some o → (((s.heap.update a (Obj.mapSeq fun _ => (#[] : Array Value))).push (seqObj "tuple" vs.toArray 0)).push (seqObj "list" #[] 0)).get? b = some o := fun b o hb e =>
    Heap.get?_push_of_some _ (Heap.get?_push_of_some _ ((sb.2 b hb).trans e))
  have I1 : Inv X pins σ H { s with heap := ((s.heap.update a (Obj.mapSeq fun _ => (#[] : Array Value))).push (seqObj "tuple" vs.toArray 0)).push (seqObj "list" #[] 0), toks := s.toks } := inv_mine (ch := [a]) I (fun b hb => by
    rw [List.mem_singleton.mp hb]
    exact ⟨ma, na⟩) fun b u hb e => old b u (fun z => hb (by simp [z])) e
  rw [show (Value.ref ((s.heap.update a (Obj.mapSeq fun _ => (#[] : Array Value))).push (seqObj "tuple" vs.toArray 0)).objs.size) = Value.ref (s.heap.objs.size + 1) by rw [z3]]
  refine sort_rest (C := C) (n := n0) (H := H) (xs := xs) (kz := kz) hk st I1 (st _ _ _ _ hC (Same.refl _) fun b o lb e n => ?_) ma mk an (Nat.le_trans an (Nat.le_of_lt (Nat.lt_succ_of_lt la))) na nk (Heap.get?_push_of_some _ (Heap.get?_push_of_some _ ho1)) g2 (Nat.ne_of_gt (Nat.lt_succ_of_lt la)) rv (by omega) hz2 hal hsk (fun d hd' => ?_) turn (fun s' H' out c I2 s2 na' g ko => ⟨rfl, ?_⟩)
  · have hb : b ≠ a := Nat.ne_of_lt (Nat.lt_of_lt_of_le lb an)
    exact ⟨n, ⟨o.slots, old b o hb e⟩, fun _ => old b o hb e⟩
  · have := hd d hd'
    show X.A.units + 1 + 1 + d.depth < cLine
    omega
  · have eo := PySem.W.keyedOut_each (bs := xs.zip kz) (k := Prod.snd) (R := fun v (p : V × PyData) => RelV p.1 v) (by rw [List.map_snd_zip (by omega)]; exact ko) (each_vals rv (by omega))
    have rv2 := vals_each eo
    have I3 := inv_adopt (o := .lst (((xs.zip kz).mergeSort (dataLe false Prod.snd)).map Prod.fst)) I2 ma na' ⟨by rw [rv2.length, ko.length (by omega)]; exact hz2, out, c, rv2, g⟩
    exact ⟨.ref _, _, I3, rfl, h _ (fun b u e => by rw [upd_ne (ne_of_none e na)]; exact s2 b u e) upd_same⟩
/-- sorted(xs, key=f) -/
theorem sort_key {l q : Addr} (hk : KeyFn X (.ref q) C sp) (st : Stays X s.heap.objs.size C) (I : Inv X pins σ H s) (hC : C H s) (hx : SqL X.K H l xs) (hl : kz.length = xs.length) (hZ : xs.length ≤ 1000000) (hal : AllAlike kz) (hsk : Sortable kz) (hd : ∀ d ∈ kz, d.depth ≤ 60) (hu : X.A.units + 66 < cLine) (turn : KeyTurn X.K H xs kz sp)
    {Q : VK} (h : ∀ p H', H p = none → Same H H' → H' p = some (.lst (((xs.zip kz).mergeSort (dataLe false Prod.snd)).map Prod.fst)) → Q (.ref p) H') :
    wpAny (model X.prog X.w) X.A (call (.builtin "sorted") [.ref l] [(Str.ofString "key", .ref q)]) (EP X pins σ Q) E s := by
  obtain ⟨vs, rv, ⟨ob, nb, hob, hcb, _, hdb⟩, _⟩ := I.list hx
  have il : s.heap.IsList l vs.toArray := ⟨ob, hob, hcb, nb, hdb⟩
  have lv : xs.length = vs.length := rv.length
  have hz2 : vs.length ≤ sizeLine := Nat.le_trans (by omega : vs.length ≤ 1000000) (by decide)
  have ka1 : argsOk "sorted" ⟨[.ref l], [(Str.ofString "key", .ref q)]⟩ := by
    first | exact PySem.args_kw rfl | rfl | decide
  refine PySem.W.sorted_of_sort il hz2 ka1 (fun x => by first | exact PySem.args_kw rfl | rfl | decide) fun E' => ?_
  rw [ksk_t1]
  have n1 : H (s.heap.objs.size + 1) = none := I.hok.fresh (Nat.le_succ _)
  have I1 : Inv X pins σ H { s with heap := PySem.W.copyHeap s.heap vs, toks := s.toks } := I.kept fun b o e => PySem.W.copyHeap_old e
  exact sort_tree (s := { s with heap := PySem.W.copyHeap s.heap vs }) hk st I1 (st _ _ _ _ hC (Same.refl _) fun b o _ e n => ⟨n, ⟨o.slots, PySem.W.copyHeap_old e⟩, fun _ => PySem.W.copyHeap_old e⟩) (Mine.new I (Nat.le_succ _)) n1 (Nat.le_succ _) (PySem.W.copyHeap_at s.heap vs) rv hl hZ hal hsk hd hu turn fun H' s2 e => h _ H' n1 s2 e
theorem collect_kdl {prog : Program} {w : World} {A : Around} {T : String} {r d : Addr} {n : Nat} {Pr : Nat → Value → Prop} {OK : Heap → Prop} {Q : List Value → Shared → Prop} (Kd : PySem.W.KdlSrc prog w T r d n Pr OK) (hh : A.handled = none) (hok : OK s.heap) (hn : n ≤ sizeLine)
    (hQ : ∀ h' tk acc, (∀ b o, s.heap.get? b = some o → h'.get? b = some o) → s.heap.objs.size < h'.objs.size → ItemsOf Pr acc n → Q acc.toList { s with heap := h', toks := tk }) : wpAny (model prog w) A (collect (.ref r)) Q E s := by
  unfold collect
  refine wpAny_bind (wpAny_runValue (codeAny_builtin PySem.F.entry_proto_collect ?_)); rw [Around.under_plainId PySem.F.plain_proto_collect _]
  show wpAny _ A.in1 (newList [] >>= fun l => again (.builtin "list.__iadd__" ⟨[l, .ref r], []⟩)) _ _ s
  refine wpAny_bind (wpAny_newObj_type (wpAny_pure ⟨plainId_quiet PySem.F.plain_list_iadd _, codeAny_builtin PySem.F.entry_list_iadd ?_⟩)); rw [Around.under_plainId PySem.F.plain_list_iadd _]
  show wpAny _ A.in1 (Builtin.List.listExtendWith (.ref s.heap.objs.size) (.ref r) (.ref s.heap.objs.size)) _ _ _
  have hS : (s.heap.push { cls := .type "list", data := .seq #[] }).get? s.heap.objs.size = some { cls := .type "list", data := .seq #[] } := Heap.get?_push_size _ rfl
  have kp : ∀ b o, s.heap.get? b = some o → (s.heap.push { cls := .type "list", data := .seq #[] }).get? b = some o := fun b o e => Heap.get?_push_of_some _ e
  have hlt := Kd.there _ hok
  refine PySem.W.kdl_extend (R := fun r s' => match r with | Except.ok (Flow.ret v) => wpAny (model prog w) A (match v with | Value.ref a => (do match (← load a).data with | .seq xs _ => pure xs.toList | _ => unsupported "internal:collect") | _ => unsupported "internal:collect") Q E s' | Except.ok _ => False | Except.error e => E e s') (s := { s with heap := s.heap.push { cls := .type "list", data := .seq #[] } }) Kd hh (Kd.keep _ _ hok fun b _ o e => kp b o e) _ (Nat.ne_of_gt hlt.1) (Nat.ne_of_gt hlt.2) (.ref s.heap.objs.size) 0 hS (fun h' tk acc c hk hS' hacc => ?_) hn
  show wpAny _ A (load s.heap.objs.size >>= _) _ _ _
  exact wpAny_bind (wpAny_load hS' (wpAny_pure (hQ h' tk acc (fun b o e => hk b o (Nat.ne_of_lt (Heap.lt_size e)) (kp b o e)) (Heap.lt_size hS') hacc)))
/-- sorted(d, key=f), d a dict with tuple keys -/
theorem sort_keyD {l q : Addr} {kvs : List (List Key × V)} (hk : KeyFn X (.ref q) C sp) (st : Stays X s.heap.objs.size C) (I : Inv X pins σ H s) (hC : C H s) (hx : H l = some (.dT kvs)) (hh : X.A.handled = none) (hZ : kvs.length ≤ 1000000) (hu : X.A.units + 66 < cLine)
    {Q : VK} (h : ∀ bs, IsKeys H kvs bs → ∃ kz : List PyData, kz.length = bs.length ∧ AllAlike kz ∧ Sortable kz ∧ (∀ d ∈ kz, d.depth ≤ 60) ∧ KeyTurn X.K H (bs.map V.ref) kz sp ∧
      ∀ p H', H p = none → Same H H' → H' p = some (.lst ((((bs.map V.ref).zip kz).mergeSort (dataLe false Prod.snd)).map Prod.fst)) → Q (.ref p) H') :
    wpAny (model X.prog X.w) X.A (call (.builtin "sorted") [.ref l] [(Str.ofString "key", .ref q)]) (EP X pins σ Q) E s := by
  have ka1 : argsOk "sorted" ⟨[.ref l], [(Str.ofString "key", .ref q)]⟩ := by
    first | exact PySem.args_kw rfl | rfl | decide
  obtain ⟨z, lo, ks, pr, ob, es, ep, hob, hex, hda, hes, nd⟩ := (show ObjOk X.prog X.w H s.heap l (.dT kvs) from I.hok l _ hx)
  have lk : kvs.length = ks.length := Paired.length pr
  have lz : es.size = ks.length := by
    rw [← Array.length_toList, hes, List.length_map]
  refine call_function_entry_kw kind_sorted plain_sorted entry_sorted ka1 ?_; unfold Builtin.«sorted»
  refine wpAny_bind (m := checkCount "sorted" 1 1 _) (wpAny_pure (wpAny_bind (collect_kdl (kdl_raw lo hex hda) hh hob (by rw [lz, ← lk]; exact Nat.le_trans hZ (by decide)) fun h1 tk1 acc kp1 hsz0 hacc => ?_)))
  have ea : acc.toList = (ks.map fun x => x.2.1).map Value.ref := by
    have hl2 : acc.toList.length = ks.length := by rw [Array.length_toList, hacc.1, lz]
    refine List.ext_getElem? fun j => ?_
    by_cases hj : j < ks.length
    · have hja : j < acc.size := by rw [hacc.1, lz]; exact hj
      obtain ⟨en, hen, hv⟩ := hacc.2 j acc[j] (Array.getElem?_eq_getElem hja)
      have e2 : en = entryOfKey (tupleKind (mixKind X.prog X.w)) ks[j] := by
        have q1 : es.toList[j]? = some en := by rw [Array.getElem?_toList]; exact hen
        rw [hes, List.getElem?_map, List.getElem?_eq_getElem hj] at q1
        exact (Option.some.inj q1).symm
      rw [Array.getElem?_toList, Array.getElem?_eq_getElem hja, hv, e2, List.getElem?_map, List.getElem?_map, List.getElem?_eq_getElem hj]
      rfl
    · rw [List.getElem?_eq_none (by omega), List.getElem?_eq_none (by rw [List.length_map, List.length_map]; omega)]
  have ik : IsKeys H kvs (ks.map fun x => x.2.1) := isKeys_of pr
  obtain ⟨kz, kl, hal, hsk, hd, turn, qq⟩ := h _ ik
  have rv : Vals ((ks.map fun x => x.2.1).map V.ref) acc.toList := by rw [ea]; exact L2.vals_refs _
  have lb : (ks.map fun x => x.2.1).length ≤ 1000000 := by rw [List.length_map]; omega
  have lv : acc.toList.length ≤ sizeLine := by
    rw [← rv.length, List.length_map]
    exact Nat.le_trans lb (by decide)
  have I1 : Inv X pins σ H { s with heap := h1, toks := tk1 } := I.kept kp1
  have hsz : s.heap.objs.size ≤ h1.objs.size := Nat.le_of_lt hsz0
  refine wpAny_bind (wpAny_newList ?_ lv)
  have hoL : (h1.push (seqObj "list" acc.toList.toArray 0)).get? h1.objs.size = some (seqObj "list" acc.toList.toArray 0) := Heap.get?_push_size _ rfl
  have I2 : Inv X pins σ H { s with heap := h1.push (seqObj "list" acc.toList.toArray 0), toks := tk1 } := I1.kept fun b o e => Heap.get?_push_of_some _ e
  have n1 : H h1.objs.size = none := I1.hok.fresh (Nat.le_refl _)
  refine wpAny_bind (wpAny_holding (wpAny_call_entry_kw slot_list_sort ⟨_, hoL, rfl⟩ entry_list_sort ?body (by first | exact PySem.args_kw rfl | rfl | decide)))
  show wpAny (model X.prog X.w) X.A.in1.in1 (Builtin.«list.sort» ⟨[.ref h1.objs.size], [(Str.ofString "key", .ref q)]⟩) _ _ _; rw [ksk_t1]
  refine wpAny_mono (sort_tree (s := { s with heap := h1.push (seqObj "list" acc.toList.toArray 0), toks := tk1 }) hk st I2 (st _ _ _ _ hC (Same.refl _) fun b o _ e n => ⟨n, ⟨o.slots, Heap.get?_push_of_some _ (kp1 b o e)⟩, fun _ => Heap.get?_push_of_some _ (kp1 b o e)⟩) (Mine.new I1 (Nat.le_refl _)) n1 hsz hoL rv (by rw [List.length_map]; exact kl) (by rw [List.length_map]; exact lb) hal hsk hd hu turn fun H' s2 e => qq _ H' n1 s2 e) (fun f s' hf => ?_) fun _ _ e => e
  obtain ⟨rfl, hq⟩ := hf
  exact ⟨_, rfl, wpAny_pure ⟨_, rfl, hq⟩⟩
end
/-! ## x(lambda: ..) where several tables are known -/
/-! ## the rules -/
/-- sorted(x, key=f); sp: what f's call with one thing is -/
def nSortL (K : PySem.W.Frag) (sp : V → Hp → VK → Prop) (x : V) (H : Hp) (Q : VK) : Prop := ∃ (l : Addr) (xs : List V) (kz : List PyData), x = .ref l ∧ SqL K H l xs ∧ kz.length = xs.length ∧ xs.length ≤ 1000000 ∧ AllAlike kz ∧ Sortable kz ∧ (∀ d ∈ kz, d.depth ≤ 60) ∧ KeyTurn K H xs kz sp ∧
  ∀ p H', H p = none → Same H H' → H' p = some (.lst (((xs.zip kz).mergeSort (dataLe false Prod.snd)).map Prod.fst)) → Q (.ref p) H'
/-- .. x a dict with tuple keys -/
def nSortD (K : PySem.W.Frag) (sp : V → Hp → VK → Prop) (x : V) (H : Hp) (Q : VK) : Prop := ∃ (l : Addr) (kvs : List (List Key × V)), x = .ref l ∧ H l = some (.dT kvs) ∧ kvs.length ≤ 1000000 ∧ ∀ bs, IsKeys H kvs bs → ∃ kz : List PyData, kz.length = bs.length ∧ AllAlike kz ∧ Sortable kz ∧ (∀ d ∈ kz, d.depth ≤ 60) ∧ KeyTurn K H (bs.map V.ref) kz sp ∧
  ∀ p H', H p = none → Same H H' → H' p = some (.lst ((((bs.map V.ref).zip kz).mergeSort (dataLe false Prod.snd)).map Prod.fst)) → Q (.ref p) H'
def nSortK (K : PySem.W.Frag) (sp : V → Hp → VK → Prop) (x : V) (H : Hp) (Q : VK) : Prop := nSortL K sp x H Q ∨ nSortD K sp x H Q
def tSortF (K : PySem.W.Frag) (sp : Sp) (te : TE) : TE := fun σ H Q => te σ H fun x H1 => nSortK K (fun v H2 Q2 => sp [v] H2 Q2 E0) x H1 Q
section
variable {X : Cx} {k j : Nat} {sp : Sp} {x : Str} {e : Expr} {te : TE} {p p2 p3 pos : Pos}
theorem keyfn_def {f : Addr} {fd : FuncData} {ps : List Str} (F : FnOk X.prog X.w X.K X.mg X.base CX0 k f fd ps sp) (hb : Binds X.K fd ps []) (hr : Room (k + 2) X.A) : KeyFn X (.ref f) (fun _ _ => True) (fun v H Q => sp [v] H Q E0) :=
  fun pins σ H s v u Q I _ r h => F.run X.A.in1.in1 X.stack s H ⟨[u], []⟩ [u] [v] Q E0 hr.in1.in1 I.env0.in1.in1 (hb s [u] I.kIn (F.len _ _ _ _ h)) (.cons r .nil) h
theorem pe_sortF (K : PySem.W.Frag) (C : Callee X.prog X.w X.K X.mg X.base CX0 x k [] sp) (hr : Room j X.A) (hm : X.mg "sorted" = none) (he : PE X e te) (hK : X.K = K := by rfl) (hj : k + 2 ≤ j := by first | decide | omega) (hg : Gl X "sorted" := by rfl) (hgx : Gl X x := by rfl) (hdb : (x == ("__debug__" : Str)) = false := by decide)
    (hs : starEach [e] X.env = [(false, eval e X.env)] := by rfl) : PE X (.Call (.Name "sorted" p) [e] [⟨some "key", .Name x p2, p3⟩] pos) (tSortF K sp te) := by
  subst hK
  obtain ⟨f, fd, ps, ds, F, hmx, hkp, hb, hd⟩ := C.ex
  cases hd
  have hr2 : Room (k + 2) X.A := hr.mono hj
  refine ⟨fun pins s σ H Q I h => ?_⟩
  refine wpAny_Call_Name_kw (ld_blt I hg hm (by rfl) ?_)
  refine PyProof.Rows.callWith_kw (thn ((pa_cons he pa_nil hs).run pos pins s σ H (fun vs H1 => match vs with
    | [v] => nSortK X.K (fun v H2 Q2 => sp [v] H2 Q2 E0) v H1 Q
    | _ => False) I h) fun us s1 ⟨vs, H1, I1, r1, q1⟩ => thn ((pk_cons (nm := some "key") (kpos := p3) (pe_gr (pos := p2) hmx hgx hdb) pk_nil).run pos pins s1 σ H1 (fun zs H2 => zs = [.ref f] ∧ H2 = H1) I1 ⟨rfl, rfl⟩) fun ws s2 ⟨zs, H2, I2, r2, e2⟩ => ?_) (by rw [hs]; rfl) (by rw [hs]; rfl)
  obtain ⟨rfl, rfl⟩ := e2
  cases vs with
  | nil => exact False.elim q1
  | cons v vs =>
    cases vs with
    | cons _ _ => exact False.elim q1
    | nil =>
      obtain ⟨u, rfl, ru⟩ := vals1 r1
      obtain ⟨w, rfl, rw'⟩ := vals1 r2
      cases rw'
      rcases q1 with ⟨l, xs, kz, rfl, hx, hl, hZ, hal, hsk, hd, turn, q⟩ | ⟨l, kvs, rfl, hx, hZ, q⟩
      · cases ru
        exact sort_key (C := fun _ _ => True) (keyfn_def F hb hr2) (fun _ _ _ _ _ _ _ => trivial) I2 trivial hx hl hZ hal hsk hd (by have := hr2.un; omega) turn q
      · cases ru
        exact sort_keyD (C := fun _ _ => True) (keyfn_def F hb hr2) (fun _ _ _ _ _ _ _ => trivial) I2 trivial hx hr2.hd hZ (by have := hr2.un; omega) q
end
/-! ### a lambda with one parameter as the key -/
def tSortL (K : PySem.W.Frag) (T : List (Addr × Str)) (N : List Str) (js : List Nat) (te tb : TE) : TE := fun σ H Q => te σ H fun x H1 => Tabs T H1 ∧ ∀ H2, ExtN H1 H2 → Tabs T H2 → nSortK K (fun v H3 Q3 => tb (startF N [v] (js.map (slotAt σ))) H3 Q3) x H2 Q
structure LamAt (X : Cx) (n : Nat) (f c' : Addr) (q : Str) (params : Arguments) (body : Expr) (scope : Scope) (cl : List (Str × Addr)) (pm ctv : Value) (fr : List Str) (ws : List (Option V)) (H : Hp) (s : Shared) : Prop where
  lt : f < n
  nf : f ∉ frs X.stack
  o : s.heap.get? f = some (PySem.W.kla_obj "<lambda>" q params body scope cl pm c' ctv)
  h : H f = none
  c : H c' = some (CodeO c' q)
  cs : CellsAt cl fr ws s.heap H
  cn : ∀ y c, cl.lookup y = some c → c < n
theorem lamAt_stays {X : Cx} {n : Nat} {f c' : Addr} {q : Str} {params : Arguments} {body : Expr} {scope : Scope} {cl : List (Str × Addr)} {pm ctv : Value} {fr : List Str} {ws : List (Option V)} : Stays X n (LamAt X n f c' q params body scope cl pm ctv fr ws) := by
  intro H H' s s' L sm k
  obtain ⟨h1, h2, h3⟩ := k f _ L.lt L.o L.h
  have cell : ∀ y c, cl.lookup y = some c → ∀ v, s.heap.IsCell c v → s'.heap.IsCell c v ∧ H' c = none := fun y c e v ⟨o, ho, hd⟩ => by
    obtain ⟨a1, ⟨sl, a2⟩, _⟩ := k c o (L.cn y c e) ho (L.cs.all y c e).1
    exact ⟨⟨_, a2, hd⟩, a1⟩
  refine ⟨L.lt, L.nf, h3 L.nf, h1, sm _ _ L.c, ⟨L.cs.len, fun y c e => ?_, L.cs.inj, fun i y e => ?_⟩, L.cn⟩
  · obtain ⟨_, v, z⟩ := L.cs.all y c e
    obtain ⟨z1, z2⟩ := cell y c e v z
    exact ⟨z2, v, z1⟩
  · obtain ⟨c, hc, hv⟩ := L.cs.has i y e
    refine ⟨c, hc, fun v ev => ?_⟩
    obtain ⟨u, r, z⟩ := hv v ev
    exact ⟨u, r, (cell y c hc _ z).1⟩
section
variable {X : Cx} {k j n : Nat} {e body : Expr} {te tb : TE} {p p3 lpos pos : Pos} {c Pt : Addr} {T : List (Addr × Str)} {params : Arguments} {scope : Scope} {a : Str} {N fr : List Str} {js : List Nat}
abbrev lamF (X : Cx) (params : Arguments) (scope : Scope) (c' : Addr) : NF := ⟨"<lambda>", X.env.qual ++ "<lambda>", params, [], scope, cloFrom X.env.cells scope.names [], c'⟩
theorem keyfn_lam {f c' : Addr} {pm ctv : Value} {ws : List (Option V)} (S : NScope N [a] fr scope) (hr : Room (k + 3) X.A) (hbind : ∀ (q : Str) (cl : List (Str × Addr)) (pm cv ctv u : Value), bindArgs (PySem.W.kla_fn "<lambda>" q params body scope cl pm cv ctv) ⟨[u], []⟩ = pure [(a, u)])
    (hbody : ∀ (E : XK) (A : Around) (outer : List Env) (s : Shared) (H : Hp) (f c' : Addr), Room k (A.deeper (envF (lamF X params scope c') f s.heap.objs.size)) → PE (ncx CX0 X.prog X.w X.K X.mg X.base N (lamF X params scope c') f A outer s H E) body tb) :
    KeyFn X (.ref f) (LamAt X n f c' (X.env.qual ++ "<lambda>") params body scope (cloFrom X.env.cells scope.names []) pm ctv fr ws) (fun v H Q => tb (startF N [v] ws) H Q) := by
  intro pins σ H s v u Q I L r h
  have e0 : Env0 X.prog X.w X.K X.mg X.base X.A.in1.in1 X.stack s H := I.env0.in1.in1
  have hr1 : Room (k + 1) X.A.in1.in1 := hr.in1.in1
  obtain ⟨⟨oc, vs, t, hoc, hdc, hvc⟩, _, _⟩ := I.hok c' _ L.c
  refine PySem.W.kla_callFunE hr1.depth L.o rfl S.co S.gen rfl ⟨c', oc, vs, t, rfl, hoc, hdc, hvc⟩ ?_
  rw [hbind]
  refine wpAny_pure (wpAny_newFunctionEnv S.nocell (fun y hy => ?_) (fun h₁ hns hsb => ⟨I.nolimit.fresh _ hsb, ?_⟩) S.kind)
  · have : y = (a, u) := by simpa using hy
    rw [this]
    exact S.par a (by simp)
  · show codeAny _ _ (.expr body (envF (lamF X params scope c') f s.heap.objs.size)) _ _
    have kp : ∀ b o, s.heap.get? b = some o → h₁.get? b = some o := fun b o e => hsb.extBut b o (Nat.ne_of_lt (Heap.lt_size e)) (Heap.get?_push_of_some _ e)
    have J : Inv (ncx CX0 X.prog X.w X.K X.mg X.base N (lamF X params scope c') f X.A.in1.in1 X.stack s H E0) [] (startF N [v] ws) H { s with heap := h₁, toks := s.toks + ([(a, u)] : List (Str × Value)).length } :=
      inv_startN (F := lamF X params scope c') (ps := [a]) (us := [u]) S hr1.hd e0 rfl (.cons r .nil) L.cs hns kp
    refine PySem.W.kla_codeExpr (wpAny_mono ((hbody E0 X.A.in1.in1 X.stack s H f c' (hr1.deeper _)).run [] _ _ H Q J h) (fun w s' hq => ?_) fun e s' hq => hq)
    obtain ⟨w', H', J', rv, q⟩ := hq
    exact ⟨w', H', J'.os, J'.bare, J'.base, J'.hok, rv, q⟩
theorem pe_sortL (K : PySem.W.Frag) (T : List (Addr × Str)) (TC : TabC X c Pt) (hmT : (Pt, X.env.qual ++ "<lambda>") ∈ T) (huT : ∀ p ∈ T, p.1 = Pt → p.2 = X.env.qual ++ "<lambda>") (hr : Room j X.A) (hm : X.mg "sorted" = none) (he : PE X e te) (S : NScope N [a] fr scope) (sc : Scope) (nd : ndefB sc scope fr = true) (hjs : js.map (fun i => X.N[i]?) = fr.map some) (hdef : defaultsOf params X.env = ([], []))
    (hbind : ∀ (q : Str) (cl : List (Str × Addr)) (pm cv ctv u : Value), bindArgs (PySem.W.kla_fn "<lambda>" q params body scope cl pm cv ctv) ⟨[u], []⟩ = pure [(a, u)])
    (hbody : ∀ (E : XK) (A : Around) (outer : List Env) (s : Shared) (H : Hp) (f c' : Addr), Room k (A.deeper (envF (lamF X params scope c') f s.heap.objs.size)) → PE (ncx CX0 X.prog X.w X.K X.mg X.base N (lamF X params scope c') f A outer s H E) body tb)
    (hK : X.K = K := by rfl) (hsc : X.env.scope = sc := by rfl) (hj : k + 3 ≤ j := by first | decide | omega) (hg : Gl X "sorted" := by rfl) (hs : starEach [e] X.env = [(false, eval e X.env)] := by rfl) :
    PE X (.Call (.Name "sorted" p) [e] [⟨some "key", .Lambda params body scope lpos, p3⟩] pos) (tSortL K T N js te tb) := by
  subst hK
  have hr2 : Room (k + 3) X.A := hr.mono hj
  subst hsc
  have hfree := ndef_free nd
  refine ⟨fun pins s σ H Q I h => ?_⟩
  have hfr : ∀ y ∈ scope.names, y.2 = .free → ∃ c, X.env.cells.lookup y.1 = some c := fun y hy e => (hfree y hy e).elim (fun z => I.ok.has _ (.inl z)) fun z => I.ok.has _ (.inr z)
  have cp : Caps X (cloFrom X.env.cells scope.names []) fr js := Caps.made I.ok hfree (ndef_fr nd) hjs
  refine wpAny_Call_Name_kw (ld_blt I hg hm (by rfl) ?_)
  refine PyProof.Rows.callWith_kw (thn ((pa_cons he pa_nil hs).run pos pins s σ H (fun vs H1 => match vs with
    | [x] => Tabs T H1 ∧ ∀ H2, ExtN H1 H2 → Tabs T H2 → nSortK X.K (fun v H3 Q3 => tb (startF N [v] (js.map (slotAt σ))) H3 Q3) x H2 Q
    | _ => False) I h) fun us s1 ⟨vs, H1, I1, r1, q1⟩ => ?_) (by rw [hs]; rfl) (by rw [hs]; rfl)
  cases vs with
  | nil => exact False.elim q1
  | cons v vs =>
    cases vs with
    | cons _ _ => exact False.elim q1
    | nil =>
      obtain ⟨hT, q1⟩ := q1
      obtain ⟨u, rfl, ru⟩ := vals1 r1
      show wpAny _ _ (evalAll [(do let v ← eval (.Lambda params body scope lpos) X.env; standAt pos; pure v)]) _ _ s1
      refine wpAny_evalAll_cons (wpAny_bind (lam_make2 I1 TC.tb TC.code hmT huT hT hdef hfr fun f c' pm ctv H2 s2 I2 eN T2 hf hfn hfs hco => wpAny_bind (wpAny_standAt (wpAny_pure (wpAny_evalAll_nil ?_)))))
      have L : LamAt X s2.heap.objs.size f c' (X.env.qual ++ "<lambda>") params body scope (cloFrom X.env.cells scope.names []) pm ctv fr (js.map (slotAt σ)) H2 s2 := ⟨Heap.lt_size hf, hfs, hf, hfn, hco, cells_of I2 cp, fun y c e => by
        obtain ⟨v, z⟩ := I2.cell y c (cp.sub y c e)
        exact z.lt⟩
      rcases q1 H2 eN T2 with ⟨l, xs, kz, rfl, hx, hl, hZ, hal, hsk, hd, turn, q⟩ | ⟨l, kvs, rfl, hx, hZ, q⟩
      · cases ru
        exact sort_key (keyfn_lam S hr2 hbind hbody) lamAt_stays I2 L hx hl hZ hal hsk hd (by have := hr2.un; omega) turn q
      · cases ru
        exact sort_keyD (keyfn_lam S hr2 hbind hbody) lamAt_stays I2 L hx hr2.hd hZ (by have := hr2.un; omega) q
end
/-! ## steps -/
section
variable {K : PySem.W.Frag} {T : List (Addr × Str)} {σ : L2.St} {H : Hp} {Q : VK} {te tb : TE} {sp : Sp} {spk : V → Hp → VK → Prop} {N : List Str} {js : List Nat}
theorem k_sortL (h : te σ H fun x H1 => Tabs T H1 ∧ ∀ H2, ExtN H1 H2 → Tabs T H2 → nSortK K (fun v H3 Q3 => tb (startF N [v] (js.map (slotAt σ))) H3 Q3) x H2 Q) : tSortL K T N js te tb σ H Q := h
/-- the things as β, each with its key -/
theorem k_sorted {β : Type} {l : Addr} (g : β → V) (kd : β → PyData) (B : List β) (hx : SqL K H l (B.map g)) (hl : B.length ≤ 1000000) (hal : AllAlike (B.map kd)) (hsk : Sortable (B.map kd)) (hd : ∀ b ∈ B, (kd b).depth ≤ 60)
    (turn : ∀ b ∈ B, ∀ H', Same H H' → ∀ Q' : VK, (∀ v H'', Same H' H'' → Dp K H'' v (kd b) → Q' v H'') → spk (g b) H' Q')
    (h : ∀ p H', H p = none → Same H H' → H' p = some (.lst ((B.mergeSort (dataLe false kd)).map g)) → Q (.ref p) H') : nSortK K spk (.ref l) H Q := by
  refine .inl ⟨l, B.map g, B.map kd, rfl, hx, by rw [List.length_map, List.length_map], by rw [List.length_map]; exact hl, hal, hsk, fun d hd' => ?_, fun i x d h1 h2 H' s Q' q => ?_, fun p H' n s e => h p H' n s ?_⟩
  · obtain ⟨b, hb, rfl⟩ := List.mem_map.mp hd'
    exact hd b hb
  · obtain ⟨b, hb, rfl⟩ := map_get h1
    rw [List.getElem?_map, hb] at h2
    cases h2
    exact turn b (List.mem_of_getElem? hb) H' s Q' q
  · have ez : (B.map g).zip (B.map kd) = B.map fun b => (g b, kd b) := by
      rw [List.zip_map']
    rw [e, ez]
    have em : ∀ L : List β, (L.map fun b => (g b, kd b)).mergeSort (dataLe false Prod.snd) = (L.mergeSort (dataLe false kd)).map fun b => (g b, kd b) := fun L => by
      rw [List.map_mergeSort (r := dataLe false kd) (s := dataLe false Prod.snd)]
      intro a _ b _
      rfl
    rw [em, List.map_map]
    rfl
end
/-! ## dicts with tuple keys: len, list; long lists and dicts -/
section
variable {K : PySem.W.Frag} {H : Hp} {Q : VK} {a b : Addr} {kvs : List (List Key × V)} {k : List Key} {v : V} {R : Hp → Prop} {xs : List V}
theorem k_nDpTz (hp : H a = some (.dT kvs)) (hb : H b = some (.tup (k.map kV))) (hl : kvs.length < 16000000) (h : R (upd H a (.dT (putK kvs k v)))) : nDp (.ref a) (.ref b) v H R := ⟨a, _, rfl, DPut.t hp hb (Nat.lt_trans hl (by decide)), h⟩
end
end Gk
set_option Elab.async false
set_option autoImplicit false
set_option linter.all false
set_option maxRecDepth 100000
set_option maxHeartbeats 4000000
/-! # {k: v for ..} whose keys are tuples of ints and texts -/
namespace Gk
open PySem PySem.Spec PyProof.Rows L2
section
variable {X : Cx}
end
section
variable {K : PySem.W.Frag} {σ : L2.St} {H : Hp} {Q : VK}
end
/-! ## a new dict sealed for good: gone through where it was made -/
section
variable {K : PySem.W.Frag} {σ : L2.St} {H : Hp} {Q : VK}
end
end Gk
set_option Elab.async false
set_option autoImplicit false
set_option linter.all false
set_option maxRecDepth 100000
set_option maxHeartbeats 4000000
/-! # max(list of ints, default=d) -/
namespace Gk
open PySem PySem.Spec PyProof.Rows L2
section
variable {X : Cx} {e d : Expr} {te td : TE} {p p3 pos : Pos}
end
end Gk
set_option Elab.async false
set_option autoImplicit false
set_option linter.all false
set_option maxRecDepth 100000
set_option maxHeartbeats 4000000
/-! # sorted(list of data), min and max of two data, a dict comprehension of two fors with tuple keys -/
namespace Gk
open PySem PySem.Spec PyProof.Rows L2
open PySem.W (EachIs AllAlike Sortable dataLe dataLt alike SortsAt dataKind sortingHeap copyHeap)
/-! ## sorted(l), the items data -/
section
variable {X : Cx} {pins : List (Addr × Obj)} {σ : L2.St} {H : Hp} {s : Shared}
end
section
variable {K : PySem.W.Frag} {H : Hp} {Q : VK} {l : Addr}
end
/-! ## min, max of two data -/
section
variable {prog : Program} {w : World} {A : Around} {E : Value → Shared → Prop} {s : Shared}
end
end Gk
namespace Gk
open PySem PySem.Spec PyProof.Rows L2
/-! ## {k: v for .. for ..} whose keys are tuples of ints and texts -/
section
variable {prog : Program} {w : World} {A : Around} {R : Result → Shared → Prop} {s : Shared} {kx vx t0 i0 t1 i1 : Expr} {fs0 fs1 : List Expr} {sc : Scope} {ps : Pos} {x : Value} {D : Addr} {e : Env}
end
section
variable {X : Cx}
end
section
variable {σ : L2.St} {H Hb : Hp} {Q : VK}
end
end Gk
set_option Elab.async false
set_option autoImplicit false
set_option linter.all false
set_option maxRecDepth 100000
set_option maxHeartbeats 4000000
/-! # dict(d), d[k] = v as a target, lists of unlike lengths by != -/
namespace Gk
open PySem PySem.Spec PyProof.Rows L2
section
variable {K : PySem.W.Frag} {H : Hp} {Q : VK} {a b : Addr} {xs ys : List V}
end
end Gk
set_option Elab.async false
set_option autoImplicit false
set_option linter.all false
set_option maxRecDepth 100000
set_option maxHeartbeats 4000000
/-! # a tuple * int, once or more often -/
namespace Gk
open PySem PySem.Spec PyProof.Rows L2
end Gk
set_option Elab.async false
set_option autoImplicit false
set_option linter.all false
set_option maxRecDepth 100000
set_option maxHeartbeats 4000000
/-! # t[::-1] of a tuple; list.index of data; list.pop() -/
namespace Gk
open PySem PySem.Spec PyProof.Rows L2
section
variable {prog : Program} {w : World} {A : Around} {E : Value → Shared → Prop} {s : Shared}
end
section
variable {X : Cx}
end
/-! ### list.pop() -/
end Gk
set_option Elab.async false
set_option autoImplicit false
set_option linter.all false
set_option maxRecDepth 100000
set_option maxHeartbeats 4000000
/-! # a dict whose keys are (tuple of texts, int, text), each value True: d = {}, d[k] = True, list(d) -/
namespace Gk
open PySem PySem.Spec PyProof.Rows L2
abbrev K3 : Type := List Str × Int × Str
def k3 (x : K3) : NestedKey := .tup [.tup (x.1.map .text), .num x.2.1, .text x.2.2]
def K3At (H : Hp) (b : Addr) (x : K3) : Prop := ∃ e, H b = some (.tup [.ref e, .int x.2.1, .str x.2.2]) ∧ H e = some (.tup (x.1.map V.str))
def nd3 (xs : List (K3 × Addr)) : List (NestedKey × Addr × Value) := xs.map fun x => (k3 x.1, x.2, Value.bool true)
def ndE (P : Program) (w : World) (D : Addr) (xs : List (K3 × Addr)) (h : Heap) : Prop := (D == sysModules) = false ∧ xs.length ≤ sizeLine ∧
  ∃ o es ep, h.get? D = some o ∧ o.ExactDict ∧ o.data = .dict es ep ∧ es.toList = (nd3 xs).map (entryOfKey (nestedKind P w)) ∧ (xs.map (·.1)).Nodup
def ndO (P : Program) (w : World) (D : Addr) (xs : List (K3 × Addr)) : HO := .ext (ndE P w D xs)
/-- a key is put: where it stands already the dict stays -/
def put3 (xs : List (K3 × Addr)) (k : K3) (b : Addr) : List (K3 × Addr) := if xs.any (fun x => decide (x.1 = k)) then xs else xs ++ [(k, b)]
theorem k3_inj {x y : K3} (h : k3 x = k3 y) : x = y := by
  obtain ⟨a, i, z⟩ := x
  obtain ⟨b, j, u⟩ := y
  unfold k3 at h
  injection h with h
  injection h with h1 h
  injection h with h2 h
  injection h with h3 _
  injection h1 with h1
  injection h2 with h2
  injection h3 with h3
  have e1 : a = b := (List.map_inj_right (fun p q (e : NestedKey.text p = NestedKey.text q) => by injection e)).mp h1
  have e2 : i = j := h2
  have e3 : z = u := h3
  rw [e1, e2, e3]
theorem k3_texts : ∀ zs : List Str, NestedKey.depthAll (zs.map .text) = 0
  | [] => rfl
  | z :: zs => by
    rw [List.map_cons, NestedKey.depthAll, k3_texts zs]
    rfl
theorem k3_depth (x : K3) : (k3 x).depth ≤ 8 := by
  unfold k3
  simp [NestedKey.depth, NestedKey.depthAll, k3_texts]
theorem nested_texts {h : Heap} : ∀ {zs : List Str} {vs : List Value}, Vals (zs.map V.str) vs → NestedAll h (zs.map .text) vs
  | [], _, .nil => .nil
  | z :: zs, _, .cons r t => by
    obtain ⟨u, rfl⟩ := r
    exact .cons (.text _ _) (nested_texts t)
theorem nd3_nodup {xs : List (K3 × Addr)} (h : (xs.map (·.1)).Nodup) : ((nd3 xs).map (·.1)).Nodup := by
  unfold nd3
  rw [List.map_map]
  have e : xs.map (Prod.fst ∘ fun x : K3 × Addr => (k3 x.1, x.2, Value.bool true)) = (xs.map (·.1)).map k3 := by rw [List.map_map]; rfl
  rw [e]
  exact List.pairwise_map.mpr (h.imp fun n e => n (k3_inj e))
theorem nd3_at {xs : List (K3 × Addr)} (k : K3) : (atKey (nd3 xs) (k3 k)).isSome = xs.any fun x => decide (x.1 = k) := by
  unfold atKey nd3
  rw [Option.isSome_map]
  induction xs with
  | nil => rfl
  | cons x xs ih =>
    rw [List.map_cons, List.find?_cons, List.any_cons]
    by_cases e : x.1 = k
    · rw [show decide (k3 x.1 = k3 k) = true from decide_eq_true (by rw [e]), decide_eq_true e]
      rfl
    · rw [show decide (k3 x.1 = k3 k) = false from decide_eq_false fun z => e (k3_inj z), decide_eq_false e, Bool.false_or]
      exact ih
theorem nd3_put {xs : List (K3 × Addr)} (k : K3) (b : Addr) : storedH (nd3 xs) (k3 k) b (.bool true) = nd3 (put3 xs k b) := by
  unfold storedH put3
  rw [nd3_at]
  split
  · refine (List.map_congr_left fun x hx => ?_).trans (List.map_id _)
    obtain ⟨y, _, rfl⟩ := List.mem_map.mp hx
    unfold putAt
    split <;> rfl
  · unfold nd3
    rw [List.map_append]
    rfl
theorem put3_len (xs : List (K3 × Addr)) (k : K3) (b : Addr) : (put3 xs k b).length ≤ xs.length + 1 := by
  unfold put3
  split
  · omega
  · rw [List.length_append]
    exact Nat.le_refl _
theorem put3_nodup {xs : List (K3 × Addr)} {k : K3} {b : Addr} (h : (xs.map (·.1)).Nodup) : ((put3 xs k b).map (·.1)).Nodup := by
  unfold put3
  split
  · exact h
  · rename_i n
    rw [List.map_append]
    refine List.nodup_append.mpr ⟨h, by simp, fun a ha c hc => ?_⟩
    obtain rfl : c = k := by simpa using hc
    obtain ⟨y, hy, rfl⟩ := List.mem_map.mp ha
    exact fun e => n (List.any_eq_true.mpr ⟨y, hy, decide_eq_true e⟩)
section
variable {P : Program} {w : World} {H : Hp} {h : Heap} {D b : Addr} {k : K3} {xs : List (K3 × Addr)}
theorem k3_of (ok : HOk P w H h) (e : K3At H b k) : (nestedKind P w).is h (k3 k) b := by
  obtain ⟨t, e1, e2⟩ := e
  obtain ⟨_, its, r, o, h1, h2, n, h3⟩ := (show ObjOk P w H h b (.tup _) from ok b _ e1)
  obtain ⟨_, its2, r2, o2, g1, g2, n2, g3⟩ := (show ObjOk P w H h t (.tup _) from ok t _ e2)
  refine ⟨NestedIs.tup h1 h2 h3 ?_, k3_depth k⟩
  match its, r with
  | [v1, v2, v3], .cons r1 (.cons r2' (.cons r3 .nil)) =>
    cases (show v1 = Value.ref t from r1)
    obtain ⟨u2, rfl⟩ := r2'
    obtain ⟨u3, rfl⟩ := r3
    exact .cons (NestedIs.tup g1 g2 g3 (by simpa using nested_texts r2)) (.cons (.int _ _) (.cons (.text _ _) .nil))
theorem nd_ok (hs : (D == sysModules) = false) (z : xs.length ≤ sizeLine) (nd : (xs.map (·.1)).Nodup) {o : Obj} {es : Array DictEntry} {ep : Nat} (h1 : h.get? D = some o) (h2 : o.ExactDict) (h3 : o.data = .dict es ep) (h4 : es.toList = (nd3 xs).map (entryOfKey (nestedKind P w))) : ObjOk P w H h D (ndO P w D xs) :=
  ⟨⟨hs, z, o, es, ep, h1, h2, h3, h4, nd⟩, ⟨o, h1⟩, fun a c ⟨k1, k2, o', es', ep', k3, k4⟩ st => ⟨k1, k2, o', es', ep', st _ k3, k4⟩⟩
theorem nd_of (ok : HOk P w H h) (e : H D = some (ndO P w D xs)) : ndE P w D xs h := (show ObjOk P w H h D (ndO P w D xs) from ok D _ e).1
theorem nd_dict (ok : HOk P w H h) (e : H D = some (ndO P w D xs)) (hk : ∀ x ∈ xs, K3At H x.2 x.1) : h.DictOfH (nestedKind P w) D (nd3 xs) := by
  obtain ⟨_, _, o, es, ep, h1, h2, h3, h4, h5⟩ := nd_of ok e
  refine ⟨o, es, ep, h1, h2, h3, h4, fun x hx => ?_, nd3_nodup h5⟩
  obtain ⟨y, hy, rfl⟩ := List.mem_map.mp hx
  exact k3_of ok (hk y hy)
end
/-! ### {} -/
def tDNewN (P : Program) (w : World) : TE := fun _ H Q => ∀ p, H p = none → Q (.ref p) (upd H p (ndO P w p []))
theorem pe_dnewN {X : Cx} {pos : Pos} (P : Program) (w : World) (hP : X.prog = P := by rfl) (hw : X.w = w := by rfl) : PE X (.Dict [] [] pos) (tDNewN P w) := by
  subst hP hw
  exact ⟨fun pins s σ H Q I h => wpAny_Dict_empty ⟨.ref s.heap.objs.size, _, I.laid (a := s.heap.objs.size) (o := ndO X.prog X.w s.heap.objs.size []) (t' := s.toks) (fun _ _ q => Heap.get?_push_of_some _ q) (Nat.le_refl _)
    (nd_ok (beq_eq_false_iff_ne.mpr (Ne.symm (Nat.ne_of_lt I.big))) (Nat.zero_le _) List.nodup_nil (Heap.get?_push_size _ rfl) ⟨rfl, rfl, rfl⟩ rfl rfl), rfl, h _ (I.hok.fresh (Nat.le_refl _))⟩⟩
theorem k_dnewN {P : Program} {w : World} {σ : L2.St} {H : Hp} {Q : VK} (h : ∀ p H', H p = none → Same H H' → H' p = some (ndO P w p []) → Q (.ref p) H') : tDNewN P w σ H Q := fun p hp => h p _ hp (sm_new hp) upd_same
/-! ### d[k] = True -/
def nNPut (P : Program) (w : World) (x y v : V) (H : Hp) (R : Hp → Prop) : Prop := ∃ (D b : Addr) (k : K3) (xs : List (K3 × Addr)), x = .ref D ∧ y = .ref b ∧ v = .bl true ∧ H D = some (ndO P w D xs) ∧ (∀ x ∈ xs, K3At H x.2 x.1) ∧ K3At H b k ∧ xs.length < sizeLine ∧ R (upd H D (ndO P w D (put3 xs k b)))
def sNPut (P : Program) (w : World) (td ty tv : TE) : TS := fun D σ H => tv σ H fun v H1 => td σ H1 fun x H2 => ty σ H2 fun y H3 => nNPut P w x y v H3 fun H4 => D.nx σ H4
theorem ps_nput {X : Cx} {o i value : Expr} {td ty tv : TE} {pos' pos : Pos} (P : Program) (w : World) (hu : X.A.units + 64 < cLine) (ho : PE X o td) (hi : PE X i ty) (hv : PE X value tv) (hs : swapsWith value (some (.Subscript o i pos')) pos.line X.env = pure false) (hP : X.prog = P := by rfl) (hw : X.w = w := by rfl) :
    PS X (.Assign [.Subscript o i pos'] value pos) (sNPut P w td ty tv) := by
  subst hP hw
  refine ⟨fun pins s σ H D I h => ?_⟩
  refine wpAny_Assign_Subscript (thn (hv.run pins s σ H _ I h) fun r s1 ⟨v, H1, I1, rv, q1⟩ => thn (ho.run pins s1 σ H1 _ I1 q1) fun u s2 ⟨x, H2, I2, rx, q2⟩ => thn (hi.run pins s2 σ H2 _ I2 q2) fun iv s3 ⟨y, H3, I3, ry, a, b, k, xs, ex, ey, ev, g, hk, hb, z, q3⟩ => ?_) hs
  subst ex ey ev
  obtain rfl : u = Value.ref a := rx
  obtain rfl : iv = Value.ref b := ry
  obtain rfl : r = Value.bool true := rv
  obtain ⟨hsy, _, _, _, _, _, _, _, _, nd⟩ := nd_of I3.hok g
  have hz : (nd3 xs).length ≤ sizeLine := by unfold nd3; rw [List.length_map]; omega
  refine wpAny_setItem_heap (hsz := hz) (knd := nestedKind X.prog X.w) (show X.A.units + 1 + 8 < cLine by omega) (k3_of I3.hok hb) (nd_dict I3.hok g hk) fun h' dd' hs' => ?_
  rw [nd3_put] at dd'
  obtain ⟨q, es, ep, hq, h2, h3, h4, _, h5⟩ := dd'
  refine ⟨σ, _, d_write I3 (by rw [g]; exact True.intro) hs' ⟨q, hq⟩ (nd_ok hsy (Nat.le_trans (put3_len xs k b) z) (put3_nodup nd) hq h2 h3 h4), q3⟩
theorem k_nput {P : Program} {w : World} {H : Hp} {D b : Addr} {k : K3} {xs : List (K3 × Addr)} {R : Hp → Prop} (g : H D = some (ndO P w D xs)) (hk : ∀ x ∈ xs, K3At H x.2 x.1) (hb : K3At H b k) (z : xs.length < 16000000) (h : R (upd H D (ndO P w D (put3 xs k b)))) : nNPut P w (.ref D) (.ref b) (.bl true) H R :=
  ⟨D, b, k, xs, rfl, rfl, rfl, g, hk, hb, Nat.lt_trans z (by decide), h⟩
theorem K3At.sm {H H' : Hp} {b : Addr} {k : K3} (s : Same H H') (h : K3At H b k) : K3At H' b k := h.imp fun _ ⟨a, c⟩ => ⟨s _ _ a, s _ _ c⟩
theorem K3At.upd {P : Program} {w : World} {H : Hp} {D b : Addr} {k : K3} {xs ys : List (K3 × Addr)} (g : H D = some (ndO P w D xs)) (h : K3At H b k) : K3At (L2.upd H D (ndO P w D ys)) b k := by
  obtain ⟨e, h1, h2⟩ := h
  refine ⟨e, ?_, ?_⟩
  · rw [upd_ne (ne_of h1 g (fun z => nomatch z))]
    exact h1
  · rw [upd_ne (ne_of h2 g (fun z => nomatch z))]
    exact h2
/-! ### list(d) -/
def rListN (P : Program) (w : World) : List V → Hp → VK → Prop := fun vs H Q => ∃ D xs, vs = [V.ref D] ∧ H D = some (ndO P w D xs) ∧ ∀ p H', H p = none → Same H H' → H' p = some (.lst (xs.map fun x => V.ref x.2)) → Q (.ref p) H'
theorem cr_listN {X : Cx} (P : Program) (w : World) (hc : X.calm = true := by rfl) (hP : X.prog = P := by rfl) (hw : X.w = w := by rfl) : CallR X (.type "list") (rListN P w) := by
  subst hP hw
  intro pins s σ H vs us Q I r h
  obtain ⟨D, xs, rfl, hd, q⟩ := h
  obtain ⟨u, rfl, rx⟩ := r.one
  cases rx
  obtain ⟨hs, z, o, es, ep, ho, hx, hdt, he, hn⟩ := nd_of I.hok hd
  have l1 : es.size = (nd3 xs).length := size_of_entries he
  have l2 : (nd3 xs).length = xs.length := by unfold nd3; rw [List.length_map]
  refine PySem.W.kdl_call (kdl_raw hs hx hdt) (I.ok.hd hc) ho (by omega) fun h' tk acc' c' kp e it => ?_
  have ea : acc'.toList = (nd3 xs).map fun x => Value.ref x.2.1 := by
    have hl : acc'.toList.length = (nd3 xs).length := by rw [Array.length_toList, it.1]; exact l1
    apply List.ext_getElem?
    intro j
    rw [List.getElem?_map]
    cases hj : acc'.toList[j]? with
    | none =>
      have h1 := List.getElem?_eq_none_iff.mp hj
      rw [List.getElem?_eq_none (by omega)]
      all_goals rfl
    | some v =>
      obtain ⟨en, hen, hv⟩ := it.2 j v (by rw [← Array.getElem?_toList]; exact hj)
      have qe := entry_at he j
      rw [hen] at qe
      cases hb : (nd3 xs)[j]? with
      | none =>
        rw [hb] at qe
        exact nomatch (show some en = none from qe)
      | some b =>
        rw [hb] at qe
        have e2 : en = entryOfKey (nestedKind X.prog X.w) b := Option.some.inj qe
        rw [hv, e2]
        all_goals rfl
  have eb : acc'.toList = (xs.map fun x => x.2).map Value.ref := by rw [ea]; unfold nd3; rw [List.map_map, List.map_map]; rfl
  have ec : (xs.map fun x => V.ref x.2) = (xs.map fun x => x.2).map V.ref := by rw [List.map_map]; rfl
  have rv : Vals (xs.map fun x => V.ref x.2) acc'.toList := by rw [eb, ec]; exact L2.vals_refs _
  have hz : (xs.map fun x => V.ref x.2).length ≤ sizeLine := by rw [List.length_map]; omega
  have hn := I.hok.fresh (Nat.le_refl s.heap.objs.size)
  refine ⟨.ref s.heap.objs.size, _, I.laid (t' := tk) (o := .lst (xs.map fun x => V.ref x.2)) kp (Nat.le_refl _) ?_, rfl, q _ _ hn (sm_new hn) upd_same⟩
  exact ⟨hz, acc'.toList, c', rv, by rw [Array.toArray_toList]; exact e⟩
theorem k_listN {P : Program} {w : World} {H : Hp} {Q : VK} {D : Addr} {xs : List (K3 × Addr)} (g : H D = some (ndO P w D xs)) (q : ∀ p H', H p = none → Same H H' → H' p = some (.lst (xs.map fun x => V.ref x.2)) → Q (.ref p) H') : rListN P w [.ref D] H Q := ⟨D, xs, rfl, g, q⟩
end Gk
set_option autoImplicit true
set_option pp.maxSteps 1200
set_option Elab.async false
set_option linter.all false
set_option maxRecDepth 100000
set_option maxHeartbeats 1000000
namespace Lw
open PySem PySem.Spec PyProof.Rows L2 Gk

abbrev FnP (K : PySem.W.Frag) (x : Str) (st : Stmt) (f : Addr) (fd : FuncData) : Prop := FunD K x x (defArgs st) (defBody st) (defScope st) [] [] f fd

local macro_rules | `(tactic| walk_at "hp") => `(tactic| first | assumption | exact upd_same | (refine' (upd_ne ?n).trans ?h; (case n => assumption); (case h => walk_at "hp")) | (refine' sm_get ?s ?h; (case s => assumption); (case h => walk_at "hp")))
local macro_rules | `(tactic| walk_at "sq") => `(tactic| first | assumption | (refine' sq_l ?h; (case h => walk_at "hp")) | (refine' sm_l ?s ?h; (case s => assumption); (case h => walk_at "sq")))
local macro_rules | `(tactic| walk_at "st") => `(tactic| first | assumption | (refine' sq_t ?h; (case h => walk_at "hp")) | (refine' sm_t ?s ?h; (case s => assumption); (case h => walk_at "st")))
local macro_rules | `(tactic| walk_at "bg") => `(tactic| first | assumption | (refine' BagOk.sm ?s ?h; (case s => assumption); (case h => walk_at "bg")))
local macro_rules | `(tactic| walk_at "sm") => `(tactic| first | assumption | exact Same.refl _ | (refine' Same.trans ?h ?s; (case s => assumption); (case h => walk_at "sm")))
local macro_rules | `(tactic| walk_at "hs") => `(tactic| first | assumption | (refine' HsAt.sm ?s ?h; (case s => assumption); (case h => walk_at "hs")))
local macro_rules | `(tactic| walk_at "ms") => `(tactic| first | assumption | (refine' MAt.sm ?s ?h; (case s => assumption); (case h => walk_at "ms")))
local macro_rules | `(tactic| walk_at "md") => `(tactic| first | assumption | (refine' MDk.sm ?s ?h; (case s => assumption); (case h => walk_at "md")))
local macro_rules | `(tactic| walk_at "dp") => `(tactic| first | assumption | (refine' dp_sm ?s ?h; (case s => assumption); (case h => walk_at "dp")))
local macro_rules | `(tactic| walk_at "sz") => `(tactic| first | decide | assumption | omega | (simp only [List.length_cons, List.length_nil, List.length_map, List.length_append]; omega))
local macro_rules | `(tactic| walk_at "g1") => `(tactic| first
  | with_reducible refine k_seq ?_
  | with_reducible refine k_itB ?_
  | with_reducible refine k_next ?_
  | with_reducible refine k_asg ?_
  | with_reducible refine k_name ?_
  | with_reducible refine k_ret ?_
  | with_reducible refine k_retN ?_
  | with_reducible refine k_drop ?_
  | with_reducible refine k_ifs ?_
  | with_reducible refine k_brk ?_
  | with_reducible refine k_cont ?_
  | with_reducible refine k_ipI ?_
  | with_reducible refine k_test ?_
  | with_reducible refine k_tB ?_
  | with_reducible refine k_bl ?_
  | with_reducible refine k_not ?_
  | with_reducible refine k_and ?_
  | with_reducible refine k_or ?_
  | with_reducible refine k_yes ?_
  | with_reducible refine k_true ?_
  | with_reducible refine k_false ?_
  | with_reducible refine k_nt ?_
  | with_reducible refine k_c ?_
  | with_reducible refine k_op ?_
  | with_reducible refine k_un ?_
  | with_reducible refine k_if ?_
  | with_reducible refine k_chain ?_
  | with_reducible refine k_nil ?_
  | with_reducible refine k_cons ?_
  | with_reducible refine k_cb ?_
  | with_reducible refine k_call ?_
  | with_reducible refine k_callS ?_
  | with_reducible refine k_andV ?_
  | with_reducible refine k_orV ?_
  | with_reducible refine k_notV ?_
  | with_reducible refine k_lst ?_
  | with_reducible refine k_tup ?_
  | with_reducible refine k_nopart ?_
  | with_reducible refine k_part ?_
  | with_reducible refine k_nInt ?_
  | with_reducible refine k_sl ?_
  | with_reducible refine k_bm ?_
  | with_reducible refine k_bm0 ?_
  | with_reducible refine k_nTyS ?_
  | with_reducible refine k_m1 ?_
  | with_reducible refine k_m0 ?_
  | with_reducible refine k_nStr ?_
  | with_reducible refine k_I0 ?_
  | with_reducible refine k_U ?_
  | with_reducible refine k_add_i ?_
  | with_reducible refine k_eq_i ?_
  | with_reducible refine k_eq_s ?_
  | with_reducible refine k_eq_b ?_
  | with_reducible refine k_ne_i ?_
  | with_reducible refine k_ne_s ?_
  | with_reducible refine k_ne_b ?_
  | with_reducible refine k_le_i ?_
  | with_reducible refine k_le_s ?_
  | with_reducible refine k_gnil ?_
  | with_reducible refine k_gcons ?_
  | with_reducible refine k_gsub ?_
  | with_reducible refine k_for ?_
  | with_reducible refine k_lc ?_
  | with_reducible refine k_rng1 ?_
  | with_reducible refine k_rng2 ?_
  | with_reducible refine k_itl ?_
  | with_reducible refine k_itt ?_
  | with_reducible refine k_its ?_
  | with_reducible refine k_ite ?_
  | with_reducible refine k_iteB ?_
  | with_reducible refine k_lrg2 ?_
  | with_reducible refine k_itz ?_
  | with_reducible refine k_nIts ?_
  | with_reducible refine k_inS ?_
  | with_reducible refine k_niS ?_
  | with_reducible refine k_mk ?_
  | with_reducible refine k_meth ?_
  | with_reducible refine k_fld ?_
  | with_reducible refine k_sfld ?_
  | with_reducible refine k_dg ?_
  | with_reducible refine k_dp ?_
  | with_reducible refine k_pr ?_
  | with_reducible refine k_pr0 ?_
  | with_reducible refine k_sg ?_
  | with_reducible refine k_lc2 ?_
  | with_reducible refine k_callN ?_
  | with_reducible refine k_callNS ?_
  | with_reducible refine k_par ?_
  | with_reducible refine k_nPar ?_
  | with_reducible refine k_isNn ?_
  | with_reducible refine k_isNr ?_
  | with_reducible refine k_ntNn ?_
  | with_reducible refine k_ntNr ?_
  | with_reducible refine k_min2 ?_
  | with_reducible refine k_max2 ?_
  | with_reducible refine k_intB ?_
  | with_reducible refine k_intI ?_
  | with_reducible refine k_isBl ?_
  | with_reducible refine k_ntBl ?_
  | ((with_reducible refine' k_var ?kv ?_); (case kv => exact rfl))
  | ((with_reducible refine' k_aug ?kv ?_); (case kv => exact rfl))
  | ((with_reducible refine' k_ix_l ?ks ?ki ?_); (case ks => walk_at "sq"); (case ki => exact rfl))
  | ((with_reducible refine' k_ix_t ?ks ?ki ?_); (case ks => walk_at "st"); (case ki => exact rfl))
  | ((with_reducible refine' k_len_l ?ks ?_); (case ks => walk_at "sq"))
  | ((with_reducible refine' k_len_t ?ks ?_); (case ks => walk_at "st"))
  | ((with_reducible refine' k_setL ?ks ?ki ?_); (case ks => walk_at "hp"); (case ki => exact rfl))
  | ((with_reducible refine' k_nTyL ?ks ?_); (case ks => walk_at "sq"))
  | ((with_reducible refine' k_nItl ?ks ?_); (case ks => walk_at "sq"))
  | ((with_reducible refine' k_nItt ?ks ?_); (case ks => walk_at "st"))
  | ((with_reducible refine' k_nIte ?ks ?_); (case ks => walk_at "sq"))
  | ((with_reducible refine' k_mul ?km ?_); (case km => first | exact Or.inr ⟨by decide, by decide⟩ | exact Or.inl ⟨by decide, by decide⟩))
  | ((with_reducible refine' k_I ?km ?_); (case km => first | assumption | decide | exact ⟨by decide, by decide +kernel⟩ | exact ⟨by decide, by decide, by decide⟩))
  | ((with_reducible refine' k_nMeth ?kp ?kl ?_); (case kp => walk_at "hp"); (case kl => exact rfl))
  | ((with_reducible refine' k_nFld ?kp ?kc ?kn ?kl ?_); (case kp => walk_at "hp"); (case kc => assumption); (case kn => assumption); (case kl => exact rfl))
  | ((with_reducible refine' k_nSFld ?kp ?kc ?kn ?kl ?_); (case kp => walk_at "hp"); (case kc => assumption); (case kn => assumption); (case kl => exact of_decide_eq_true rfl))
  | ((with_reducible refine' k_nDg ?kp ?kl ?_); (case kp => walk_at "hp"); (case kl => exact rfl))
  | ((with_reducible refine' k_nRng1 ?k1 ?k2 ?_); (case k1 => omega); (case k2 => omega))
  | ((with_reducible refine' k_nKw ?k1 ?k2 ?_); (case k1 => exact rfl); (case k2 => exact rfl))
  | ((with_reducible refine' k_hsm ?kh ?_); (case kh => walk_at "hs"))
  | ((with_reducible refine' k_nMethH ?kh ?kl ?_); (case kh => walk_at "hs"); (case kl => exact fun _ _ => rfl))
  | ((with_reducible refine' k_mLet ?kh ?_); (case kh => walk_at "ms"))
  | ((with_reducible refine' k_mChew ?kh ?_); (case kh => walk_at "ms"))
  | ((with_reducible refine' k_mPut ?kh ?_); (case kh => walk_at "ms"))
  | ((with_reducible refine' k_mMost ?kh ?_); (case kh => walk_at "ms"))
  | ((with_reducible refine' k_mCut ?kh ?_); (case kh => walk_at "ms"))
  | ((with_reducible refine' k_mTab ?kh ?_); (case kh => walk_at "md"))
  | ((with_reducible refine' k_mEats ?kh ?_); (case kh => walk_at "md"))
  | ((with_reducible refine' k_gtup ?ks ?kl ?_); (case ks => walk_at "st"); (case kl => exact rfl)))
local macro_rules | `(tactic| walk_at "g") => `(tactic| repeat (walk_at "g1"))
local macro_rules | `(tactic| walk_at "w1") => `(tactic| first
  | walk_at "g1"
  | ((with_reducible refine' k_decT ?kp ?_); (case kp => omega))
  | ((with_reducible refine' k_decF ?kp ?_); (case kp => omega))
  | ((with_reducible refine' k_decNT ?kp ?_); (case kp => omega))
  | ((with_reducible refine' k_decNF ?kp ?_); (case kp => omega)))
local macro_rules | `(tactic| walk_at "w") => `(tactic| repeat (walk_at "w1"))


section
variable {P : Program} {w : World} {K : PySem.W.Frag} {mg : Str → Option Value} {base : Heap} {f : Addr} {fd : FuncData}
/-! ### the bag is made -/
def spBag (K : PySem.W.Frag) : Sp := fun vs H Q _ => ∃ (a : Addr) (ns : List Int), vs = [.ref a] ∧ SqL K H a (ns.map V.int) ∧ ns.length ≤ 63 ∧ ∀ b H', Same H H' → BagOk H' b → Q (.ref b) H'
theorem cut_int (ns : List Int) (lo hi : Option Int) : ∃ ms : List Int, cutV (ns.map V.int) lo hi = ms.map V.int ∧ ms.length ≤ ns.length := by
  refine ⟨(ns.drop (HT.sIx (ns.map V.int).length 0 lo)).take (HT.sIx (ns.map V.int).length (ns.map V.int).length hi - HT.sIx (ns.map V.int).length 0 lo), ?_, ?_⟩
  · unfold cutV
    rw [List.map_take, List.map_drop]
  · rw [List.length_take, List.length_drop]
    omega
theorem ok_Lbag (F : FnP K "_law_bag" s_Lbag f fd) (hm : mg "_law_bag" = some (.ref f)) (f_len : mg "len" = none) (f_list : mg "list" = none) : Callee P w K mg base CX0 "_law_bag" 1 [] (spBag K) := by
  refine ⟨f, fd, _, [], F.ok sc_Lbag (fun vs H Q E h => ?hl) (fun cdv A outer s H vs Q E hr h => ⟨_, PSs.nox (pss_seal (pss_cons (ps_set (i := 1) sc_Lbag.nd rfl (by first | exact Or.inl rfl | exact Or.inr rfl) (pe_callTy (call_listK K) (by rfl) f_list (by decide +kernel) (pa_cons (pe_slice (sl_k K) (pv 0) po_none (po_some pe_int)) pa_nil)))
      (pss_cons (ps_set (i := 2) sc_Lbag.nd rfl (by first | exact Or.inl rfl | exact Or.inr rfl) (pe_op (op_addK K) pe_int (pe_callB (call_lenK K) (by rfl) f_len PySem.boot_len (pa_cons (pv 1) pa_nil))))
      (pss_cons (ps_for PassesOwn.never rfl (pi_listK K (pv 1)) (pg_name (i := 3) sc_Lbag.nd rfl (by first | exact Or.inl rfl | exact Or.inr rfl)) (pss_one (ps_set (i := 2) sc_Lbag.nd rfl (by first | exact Or.inl rfl | exact Or.inr rfl) (pe_op op_mod (pe_op (op_addK K) (pe_op op_mul (pv 2) pe_int) (pv 3)) pe_int))))
      (pss_one (ps_ret (pe_lst (pa_cons (pv 1) (pa_cons pe_int (pa_cons pe_int (pa_cons (pv 2) pa_nil))))))))))), ?rd⟩), hm, F.kp, F.bindsN fun _ _ _ _ _ _ us hl => match us, hl with | [_], _ => rfl, .nil⟩
  case hl =>
    obtain ⟨b, u, rfl, _⟩ := h
    rfl
  case rd =>
    obtain ⟨a, ns, rfl, hS, hn, q⟩ := h
    refine k_start (σ' := [some _, none, none, none]) rfl ?_
    unfold tSeal
    walk_at "g"
    obtain ⟨ms, em, lm⟩ := cut_int ns none (some 63)
    refine k_sl_l hS (fun p1 H1 n1 s1 e1 => ?_)
    rw [em] at e1
    walk_at "g"
    refine k_list_l (sq_l e1) (fun p2 H2 n2 s2 e2 => ?_)
    walk_at "g"
    refine k_nFor (walk_list (xs := ms.map V.int)) (fun i σ H' => ∃ (k : Int) (y : Option V), σ = [some (.ref a), some (.ref p2), some (.int k), y] ∧ H' = H2) ⟨_, none, rfl, rfl⟩ (fun i σ H' _ h => ?_) (fun i x σ Ha Hb hi h hy => ?_) (fun σ H' h => ?_)
    · obtain ⟨k, y, rfl, rfl⟩ := h
      exact sq_l e2
    · obtain ⟨k, y, rfl, rfl⟩ := h
      obtain ⟨rfl, hx⟩ := hy
      obtain ⟨m, rfl⟩ : ∃ m, x = V.int m := by
        rw [List.getElem?_map] at hx
        cases e : ms[i]? with
        | none => rw [e] at hx; cases hx
        | some m => rw [e] at hx; exact ⟨m, (Option.some.inj hx).symm⟩
      walk_at "g"
      exact ⟨_, _, rfl, rfl⟩
    · obtain ⟨k, y, rfl, rfl⟩ := h
      walk_at "g"
      refine k_nLst (by walk_at "sz") (fun p3 H3 n3 s3 e3 => ?_)
      refine ⟨p3, p2, 0, 0, k, rfl, by decide, e3, q p3 _ (sm_mut (s1.trans (s2.trans s3)) ((s1.trans s2).free n3)) ⟨p2, ms, upd_same, ?_⟩⟩
      rw [upd_ne (ne_of_none e2 n3)]
      exact s3 _ _ e2
/-! ### a draw -/
def spPull : Sp := fun vs H Q _ => ∃ (b : Addr) (u : Int), vs = [.ref b, .int u] ∧ BagOk H b ∧ 0 < u ∧ u.natAbs.log2 < 9000 ∧ ∀ n, 0 ≤ n → n < u → Q (.int n) H
theorem ok_Lpull (F : FnP K "_law_pull" s_Lpull f fd) (hm : mg "_law_pull" = some (.ref f)) (f_len : mg "len" = none) : Callee P w K mg base CX0 "_law_pull" 1 [] spPull := by
  refine ⟨f, fd, _, [], F.ok sc_Lpull (fun vs H Q E h => ?hl) (fun cdv A outer s H vs Q E hr h => ⟨_, PSs.nox (pss_bag (pss_cons (ps_if (pt_cmpR op_lt (pe_ix (ix_k K) (pv 0) pe_int (fun _ _ => rfl)) pe_int (nomark _)) (pss_cons (ps_asg (pe_op (op_addK K) (pe_ix (ix_k K) (pv 0) pe_int (fun _ _ => rfl)) pe_int) (pg_sub (pv 0) pe_int set_list))
      (pss_cons (ps_set (i := 3) sc_Lpull.nd rfl (by first | exact Or.inl rfl | exact Or.inr rfl) (pe_op (op_addK K) (pe_ix (ix_k K) (pv 0) pe_int (fun _ _ => rfl)) (pe_op op_mul (pe_ix (ix_k K) (pv 0) pe_int (fun _ _ => rfl)) pe_int)))
      (pss_cons (ps_if (pt_cmpR op_leU (pe_ix (ix_k K) (pv 0) pe_int (fun _ _ => rfl)) (pe_callB (call_lenK K) (by rfl) f_len PySem.boot_len (pa_cons (pe_ix (ix_k K) (pv 0) pe_int (fun _ _ => rfl)) pa_nil)) (nomark _)) (pss_one (ps_set (i := 3) sc_Lpull.nd rfl (by first | exact Or.inl rfl | exact Or.inr rfl) (pe_ix (ix_k K) (pe_ix (ix_k K) (pv 0) pe_int (fun _ _ => rfl)) (pe_op op_sub (pe_ix (ix_k K) (pv 0) pe_int (fun _ _ => rfl)) pe_int) (fun _ _ => rfl)))) pss_nil)
      (pss_cons (ps_if (PW.pt (pw_or (pt_cmpR op_gt (pe_ix (ix_k K) (pv 0) pe_int (fun _ _ => rfl)) (pe_callB (call_lenK K) (by rfl) f_len PySem.boot_len (pa_cons (pe_ix (ix_k K) (pv 0) pe_int (fun _ _ => rfl)) pa_nil)) (nomark _)) (pw_or1 (pt_cmpR op_lt (pv 3) (pe_op op_pow pe_int pe_int) (nomark _))))) (pss_cons (ps_set (i := 4) sc_Lpull.nd rfl (by first | exact Or.inl rfl | exact Or.inr rfl) (pe_op op_mod (pe_op (op_addK K) (pe_op (op_addK K) (pe_op op_mul (pv 3) pe_int) (pe_op op_mul (pe_ix (ix_k K) (pv 0) pe_int (fun _ _ => rfl)) pe_int)) (pe_ix (ix_k K) (pv 0) pe_int (fun _ _ => rfl))) pe_int))
      (pss_cons (ps_set (i := 5) sc_Lpull.nd rfl (by first | exact Or.inl rfl | exact Or.inr rfl) (pe_op op_mod (pe_op (op_addK K) (pe_op op_mul (pv 4) (pv 4)) (pe_ix (ix_k K) (pv 0) pe_int (fun _ _ => rfl))) pe_int))
      (pss_one (ps_ret (pe_op op_mod (pe_op op_fdivW (pe_op op_mod (pe_op (op_addK K) (pe_op op_mul (pv 5) pe_int) (pv 4)) pe_int) pe_int) (pv 1)))))) pss_nil)
      (pss_one (ps_asg (pv 3) (pg_sub (pv 0) pe_int set_list))))))) pss_nil)
      (pss_cons (ps_set (i := 2) sc_Lpull.nd rfl (by first | exact Or.inl rfl | exact Or.inr rfl) (pe_op op_mod (pe_ix (ix_k K) (pv 0) pe_int (fun _ _ => rfl)) (pv 1)))
      (pss_cons (ps_asg (pe_op op_fdivW (pe_ix (ix_k K) (pv 0) pe_int (fun _ _ => rfl)) (pv 1)) (pg_sub (pv 0) pe_int set_list))
      (pss_one (ps_ret (pv 2))))))), ?rd⟩), hm, F.kp, F.bindsN fun _ _ _ _ _ _ us hl => match us, hl with | [_, _], _ => rfl, .nil⟩
  case hl =>
    obtain ⟨b, u, rfl, _⟩ := h
    rfl
  case rd =>
    obtain ⟨b, u, rfl, ⟨c, ns, hb, hc⟩, hu, hu2, q⟩ := h
    refine ⟨b, c, hb, fun i1 i2 i3 hi => ?_⟩
    have hcb : c ≠ b := ne_of hc hb (fun z => by cases z)
    refine k_start (σ' := [some _, some _, none, none, none, none]) rfl ?_
    walk_at "g"
    have m0 : ∀ n : Int, 0 ≤ n % u := fun n => Int.emod_nonneg n (by omega)
    have m1 : ∀ n : Int, n % u < u := fun n => Int.emod_lt_of_pos n hu
    have hdv : ∀ n : Int, CDivW n u := fun n => ⟨hu, hu2⟩
    have fin : ∀ (j1 j2 j3 n : Int) (Hx : Hp), 0 ≤ j1 → 0 ≤ n → n < u → Hx b = some (.lst (bagL c j1 j2 j3)) → upd Hx b (bagO b c) = H → ∃ j1 j2 j3, 0 ≤ j1 ∧ Hx b = some (.lst (bagL c j1 j2 j3)) ∧ Q (.int n) (upd Hx b (bagO b c)) := by
      intro j1 j2 j3 n Hx hj hn0 hn1 hx hh
      refine ⟨j1, j2, j3, hj, hx, ?_⟩
      rw [hh]
      exact q n hn0 hn1
    refine k_dec (fun h2 => ?_) (fun h2 => ?_)
    · walk_at "g"
      refine k_dec (fun h3 => ?_) (fun h3 => ?_)
      · walk_at "g"
        have hl : (ns.map V.int).length = ns.length := List.length_map _
        rw [hl] at h3
        have hk : (i1 + 1 - 1).toNat < ns.length := by omega
        refine k_ix_l (xs := ns.map V.int) (v := .int (ns[(i1 + 1 - 1).toNat])) (by walk_at "sq") (at_of (j := (i1 + 1 - 1).toNat) (by omega) (by rw [List.getElem?_map, List.getElem?_eq_getElem hk]; rfl)) ?_
        walk_at "g"
        refine k_dec (fun h4 => absurd h4 (by rw [hl]; omega)) (fun h4 => ?_)
        walk_at "g"
        refine k_dec (fun h5 => ?_) (fun h5 => ?_)
        · walk_at "g"
          refine k_mul (.inl ⟨by omega, by omega⟩) ?_
          walk_at "g"
          exact fin (i1 + 1) i2 i3 _ _ (by omega) (m0 _) (m1 _) upd_same (by simp only [upd_upd, upd_id hb])
        · walk_at "g"
          refine k_I (hdv _) ?_
          walk_at "g"
          exact fin (i1 + 1) _ i3 _ _ (by omega) (m0 _) (m1 _) upd_same (by simp only [upd_upd, upd_id hb])
      · walk_at "g"
        refine k_dec (fun h4 => ?_) (fun h4 => absurd h4 (by omega))
        walk_at "g"
        refine k_mul (.inl ⟨by omega, by omega⟩) ?_
        walk_at "g"
        exact fin (i1 + 1) i2 i3 _ _ (by omega) (m0 _) (m1 _) upd_same (by simp only [upd_upd, upd_id hb])
    · walk_at "g"
      refine k_I (hdv _) ?_
      walk_at "g"
      exact fin i1 _ i3 _ _ hi (m0 _) (m1 _) upd_same (by simp only [upd_upd, upd_id hb])
theorem log_lt {u : Int} (h : u < 2 ^ 250) (h0 : 0 < u) : u.natAbs.log2 < 9000 := by
  have h1 : u.natAbs < 2 ^ 250 := by
    have e : ((u.natAbs : Nat) : Int) = u := Int.natAbs_of_nonneg (by omega)
    have h2 : ((u.natAbs : Nat) : Int) < ((2 ^ 250 : Nat) : Int) := by
      rw [e]
      exact h
    exact Int.ofNat_lt.mp h2
  exact Nat.lt_of_lt_of_le ((Nat.log2_lt (by omega)).mpr h1) (by decide)
theorem k_pull {H : Hp} {Q : VK} {E : XK} {b : Addr} {u : Int} (hb : BagOk H b) (h0 : 0 < u) (h1 : u < 2 ^ 250) (q : ∀ n, 0 ≤ n → n < u → Q (.int n) H) : spPull ([.ref b, .int u] ++ []) H Q E := ⟨b, u, rfl, hb, h0, log_lt h1 h0, q⟩
/-! ### one of a row -/
def spOne (K : PySem.W.Frag) : Sp := fun vs H Q _ => ∃ (b : Addr) (r : V), vs = [.ref b, r] ∧ BagOk H b ∧
  ((∃ a xs, r = .ref a ∧ SqL K H a xs ∧ 0 < xs.length ∧ xs.length ≤ 100000 ∧ ∀ x ∈ xs, Q x H) ∨ (∃ z : Str, r = .str z ∧ 0 < z.length ∧ z.length ≤ 100000 ∧ ∀ c ∈ z.cps.toList, Q (.str ⟨#[c]⟩) H))
theorem ok_Lone (F : FnP K "_law_one" s_Lone f fd) (hm : mg "_law_one" = some (.ref f)) (f_len : mg "len" = none) (c_Lpull : Callee P w K mg base CX0 "_law_pull" 1 [] spPull) : Callee P w K mg base CX0 "_law_one" 2 [] (spOne K) := by
  refine ⟨f, fd, _, [], F.ok sc_Lone (fun vs H Q E h => ?hl) (fun cdv A outer s H vs Q E hr h => ⟨_, PSs.nox (pss_one (ps_ret (pe_ix (ix_k K) (pv 1) (pe_cl c_Lpull hr (pa_cons (pv 0) (pa_cons (pe_callB (call_lenK K) (by rfl) f_len PySem.boot_len (pa_cons (pv 1) pa_nil)) pa_nil)) pass0) (fun _ _ => rfl)))), ?rd⟩), hm, F.kp, F.bindsN fun _ _ _ _ _ _ us hl => match us, hl with | [_, _], _ => rfl, .nil⟩
  case hl =>
    obtain ⟨b, u, rfl, _⟩ := h
    rfl
  case rd =>
    obtain ⟨b, r, rfl, hb, h⟩ := h
    refine k_start (σ' := [some _, some _]) rfl ?_
    rcases h with ⟨a, xs, rfl, hx, h0, h1, q⟩ | ⟨z, rfl, h0, h1, q⟩
    · walk_at "g"
      refine k_pull hb (by omega) (by omega) (fun n n0 n1 => ?_)
      have hk : n.toNat < xs.length := by omega
      exact k_ix_l hx (at_of (j := n.toNat) (by omega) (List.getElem?_eq_getElem hk)) (q _ (List.getElem_mem hk))
    · walk_at "g"
      refine k_len_s h1 ?_
      walk_at "g"
      have hz : z.length = z.cps.toList.length := by
        show z.cps.size = _
        simp
      refine k_pull hb (by omega) (by omega) (fun n n0 n1 => ?_)
      have hk : n.toNat < z.cps.toList.length := by omega
      refine k_ix_s h1 (c := z.cps.toList[n.toNat]) ?_ (q _ (List.getElem_mem hk))
      unfold atI ixN
      rw [if_pos n0, if_pos (by omega)]
      exact List.getElem?_eq_getElem hk
/-! ### told alike -/
def spSame (K : PySem.W.Frag) (j : Nat) : Sp := fun vs H Q _ => ∃ (x y : V) (d : PyData), vs = [x, y] ∧ Dp K H x d ∧ Dp K H y d ∧ Fit j d ∧ ∀ H', Same H H' → Q (.bl true) H'
theorem step_Lsame {j : Nat} (F : FnP K "_law_same" s_Lsame f fd) (hm : mg "_law_same" = some (.ref f)) (f_len : mg "len" = none) (f_isinstance : mg "isinstance" = none) (f_list : mg "list" = none) (f_tuple : mg "tuple" = none) (f_repr : mg "repr" = none) (f_zip : mg "zip" = none) (f_all : mg "all" = none)
    (c_Lsame : Callee P w K mg base CX0 "_law_same" j [] (spSame K j)) : Callee P w K mg base CX0 "_law_same" (j + 1) [] (spSame K (j + 1)) := by
  refine ⟨f, fd, _, [], F.ok sc_Lsame (fun vs H Q E h => ?hl) (fun cdv A outer s H vs Q E hr h => ⟨_, PSs.nox (pss_cons (ps_if (pt_not (pt_val (pe_callB (call_isiK K) (by rfl) f_isinstance (by decide +kernel) (pa_cons (pv 1) (pa_cons (pe_tup (pa_cons (pe_bltn (v := .ty "list") (by rfl) f_list (by decide +kernel) rfl) (pa_cons (pe_bltn (v := .ty "tuple") (by rfl) f_tuple (by decide +kernel) rfl) pa_nil))) pa_nil))))) (pss_one (ps_ret (pe_cmpR (op_eqK K hr.units) (pe_callB call_reprU (by rfl) f_repr (by decide +kernel) (pa_cons (pv 0) pa_nil)) (pe_callB call_reprU (by rfl) f_repr (by decide +kernel) (pa_cons (pv 1) pa_nil)) (nomark _)))) pss_nil)
      (pss_cons (ps_if (PW.pt (pw_or (pt_cmpR (op_neK K hr.units) (pe_callB (call_isiK K) (by rfl) f_isinstance (by decide +kernel) (pa_cons (pv 1) (pa_cons (pe_bltn (v := .ty "list") (by rfl) f_list (by decide +kernel) rfl) pa_nil))) (pe_callB (call_isiK K) (by rfl) f_isinstance (by decide +kernel) (pa_cons (pv 0) (pa_cons (pe_bltn (v := .ty "list") (by rfl) f_list (by decide +kernel) rfl) pa_nil))) (nomark _)) (pw_or1 (pt_cmpR (op_neK K hr.units) (pe_callB (call_isiK K) (by rfl) f_isinstance (by decide +kernel) (pa_cons (pv 1) (pa_cons (pe_bltn (v := .ty "tuple") (by rfl) f_tuple (by decide +kernel) rfl) pa_nil))) (pe_callB (call_isiK K) (by rfl) f_isinstance (by decide +kernel) (pa_cons (pv 0) (pa_cons (pe_bltn (v := .ty "tuple") (by rfl) f_tuple (by decide +kernel) rfl) pa_nil))) (nomark _))))) (pss_one (ps_ret pe_bl)) pss_nil)
      (pss_cons (ps_setLc (i := 2) (own := [("_law_one_here", 3), ("_law_other", 4)]) rfl sc_Lsame.nd rfl rfl (sw_true rfl rfl rfl (by decide +kernel)) (pi_zipK K (by rfl) f_zip (pa_cons (pv 0) (pa_cons (pv 1) pa_nil))) (blkOk_by (N := ["_law_found", "_law_due", "_law_same_here", "_law_one_here", "_law_other"]) (sc := defScope s_Lsame) (by decide +kernel)) (fun _ _ _ _ _ => (pg_tupK K 2 (by rfl) (pgs_cons (pg_name (i := 3) sc_Lsame.nd rfl (by first | exact Or.inl rfl | exact Or.inr rfl)) (pgs_cons (pg_name (i := 4) sc_Lsame.nd rfl (by first | exact Or.inl rfl | exact Or.inr rfl)) pgs_nil)))) (fun _ _ _ _ _ => pts_nil) (fun _ _ _ _ _ => (pe_cl c_Lsame hr (pa_cons (pv 3) (pa_cons (pv 4) pa_nil)) pass0)))
      (pss_one (ps_ret (pe_and (pe_cmpR (op_eqK K hr.units) (pe_callB (call_lenK K) (by rfl) f_len PySem.boot_len (pa_cons (pv 0) pa_nil)) (pe_callB (call_lenK K) (by rfl) f_len PySem.boot_len (pa_cons (pv 1) pa_nil)) (nomark _)) (pe_one (pe_callB (cr_allK K) (by rfl) f_all (by decide +kernel) (pa_cons (pv 2) pa_nil))))))))), ?rd⟩), hm, F.kp, F.bindsN fun _ _ _ _ _ _ us hl => match us, hl with | [_, _], _ => rfl, .nil⟩
  case hl =>
    obtain ⟨b, u, d, rfl, _⟩ := h
    rfl
  case rd =>
    obtain ⟨x, y, d, rfl, hx, hy, fit, q⟩ := h
    refine k_start (σ' := [some _, some _, none, none, none]) rfl ?_
    walk_at "g"
    refine k_nTup (by walk_at "sz") (fun p1 H1 n1 s1 e1 => ?_)
    refine k_isiLT (dp_sm s1 hy) e1 ?_
    walk_at "g"
    cases hs : isSeqD d with
    | false =>
      refine k_false ?_
      obtain ⟨z, hz⟩ := repr_of_dp hx fit hs
      have exy := dp_scal hx hy hs
      subst exy
      walk_at "g"
      refine k_repr hz ?_
      walk_at "g"
      refine k_repr hz ?_
      walk_at "g"
      rw [decide_eq_true rfl]
      exact q _ s1
    | true =>
      refine k_true ?_
      walk_at "g"
      refine k_isiL (dp_sm s1 hy) ?_
      walk_at "g"
      refine k_isiL (dp_sm s1 hx) ?_
      walk_at "g"
      rw [decide_eq_true rfl]
      refine k_true ?_
      walk_at "g"
      refine k_isiTu (dp_sm s1 hy) ?_
      walk_at "g"
      refine k_isiTu (dp_sm s1 hx) ?_
      walk_at "g"
      rw [decide_eq_true rfl]
      refine k_true ?_
      walk_at "g"
      cases hx with
      | non => cases hs
      | bl b => cases hs
      | int i => cases hs
      | str z => cases hs
      | @lst a xs ds hxs rx =>
        cases hy with
        | @lst b ys _ hys ry =>
        refine k_nItzL (sm_l s1 hxs) (sm_l s1 hys) ?_
        refine k_nLc (walk_zip (xs := xs) (ys := ys) rfl) (fun H' s2 => ⟨sm_l (s1.trans s2) hxs, sm_l (s1.trans s2) hys⟩) (fun i ws => ws = List.replicate i (.bl true)) rfl (fun i ws hi hw => ?hz) (fun i v Ha Hb ws Kp Ks hi sa hws hy2 hKp hKs => ?ht) (fun p Hp ws np sp ep hws => ?he)
        case hz =>
          rw [hw, List.length_replicate]
          have := dpall_len rx
          have := fit.1
          omega
        case ht =>
          obtain ⟨T, xi, yi, rfl, nT, rfl, ex, ey⟩ := hy2
          have sT : Same Ha (upd Ha T (.tup [xi, yi])) := sm_new nT
          have eT : (upd Ha T (.tup [xi, yi])) T = some (.tup [xi, yi]) := upd_same
          generalize upd Ha T (.tup [xi, yi]) = Hb at sT eT
          obtain ⟨di, e1, h1⟩ := dpall_get rx ex
          obtain ⟨dj, e2, h2⟩ := dpall_get ry ey
          rw [e1] at e2
          cases e2
          walk_at "g"
          refine ⟨rfl, ?_⟩
          walk_at "g"
          exact ⟨xi, yi, di, rfl, dp_sm ((s1.trans sa).trans sT) h1, dp_sm ((s1.trans sa).trans sT) h2, fit.2 _ (List.mem_of_getElem? e1), fun H' s' => hKp _ _ (sT.trans s') (by rw [hws, List.replicate_succ'])⟩
        case he =>
          walk_at "g"
          rw [dpall_len rx, dpall_len ry, decide_eq_true rfl]
          walk_at "g"
          rw [hws] at ep
          refine k_all (bs := List.replicate (min xs.length ys.length) true) (sq_l (by rw [ep, List.map_replicate])) ?_
          have et : (List.replicate (min xs.length ys.length) true).all id = true := by simp
          rw [et]
          walk_at "g"
          exact q _ (s1.trans sp)
      | @tup a xs ds hxs rx =>
        cases hy with
        | @tup b ys _ hys ry =>
        refine k_nItzT (sm_t s1 hxs) (sm_t s1 hys) ?_
        refine k_nLc (walk_zipT (xs := xs) (ys := ys) rfl) (fun H' s2 => ⟨sm_t (s1.trans s2) hxs, sm_t (s1.trans s2) hys⟩) (fun i ws => ws = List.replicate i (.bl true)) rfl (fun i ws hi hw => ?hz) (fun i v Ha Hb ws Kp Ks hi sa hws hy2 hKp hKs => ?ht) (fun p Hp ws np sp ep hws => ?he)
        case hz =>
          rw [hw, List.length_replicate]
          have := dpall_len rx
          have := fit.1
          omega
        case ht =>
          obtain ⟨T, xi, yi, rfl, nT, rfl, ex, ey⟩ := hy2
          have sT : Same Ha (upd Ha T (.tup [xi, yi])) := sm_new nT
          have eT : (upd Ha T (.tup [xi, yi])) T = some (.tup [xi, yi]) := upd_same
          generalize upd Ha T (.tup [xi, yi]) = Hb at sT eT
          obtain ⟨di, e1, h1⟩ := dpall_get rx ex
          obtain ⟨dj, e2, h2⟩ := dpall_get ry ey
          rw [e1] at e2
          cases e2
          walk_at "g"
          refine ⟨rfl, ?_⟩
          walk_at "g"
          exact ⟨xi, yi, di, rfl, dp_sm ((s1.trans sa).trans sT) h1, dp_sm ((s1.trans sa).trans sT) h2, fit.2 _ (List.mem_of_getElem? e1), fun H' s' => hKp _ _ (sT.trans s') (by rw [hws, List.replicate_succ'])⟩
        case he =>
          walk_at "g"
          rw [dpall_len rx, dpall_len ry, decide_eq_true rfl]
          walk_at "g"
          rw [hws] at ep
          refine k_all (bs := List.replicate (min xs.length ys.length) true) (sq_l (by rw [ep, List.map_replicate])) ?_
          have et : (List.replicate (min xs.length ys.length) true).all id = true := by simp
          rw [et]
          walk_at "g"
          exact q _ (s1.trans sp)
theorem base_Lsame (F : FnP K "_law_same" s_Lsame f fd) (hm : mg "_law_same" = some (.ref f)) : Callee P w K mg base CX0 "_law_same" 0 [] (spSame K 0) := by
  refine ⟨f, fd, ["_law_found", "_law_due"], [], ⟨fun vs H Q E h => ?_, fun A outer s H args us vs Q E hr e0 hb r h => ?_⟩, hm, F.kp, F.bindsN fun _ _ _ _ _ _ us hl => match us, hl with | [_, _], _ => rfl, .nil⟩
  · obtain ⟨x, y, d, _, _, _, fit, _⟩ := h
    exact fit.elim
  · obtain ⟨x, y, d, _, _, _, fit, _⟩ := h
    exact fit.elim
theorem ok_Lsame (F : FnP K "_law_same" s_Lsame f fd) (hm : mg "_law_same" = some (.ref f)) (f_len : mg "len" = none) (f_isinstance : mg "isinstance" = none) (f_list : mg "list" = none) (f_tuple : mg "tuple" = none) (f_repr : mg "repr" = none) (f_zip : mg "zip" = none) (f_all : mg "all" = none) :
    ∀ j, Callee P w K mg base CX0 "_law_same" j [] (spSame K j)
  | 0 => base_Lsame F hm
  | j + 1 => step_Lsame F hm f_len f_isinstance f_list f_tuple f_repr f_zip f_all (ok_Lsame F hm f_len f_isinstance f_list f_tuple f_repr f_zip f_all j)
/-! ### letters -/
def small (c : Nat) : Prop := 97 ≤ c ∧ c ≤ 122
/-- a rising text of small letters -/
def Rise (cs : List Nat) : Prop := cs.Pairwise (· < ·) ∧ ∀ c ∈ cs, small c
def spLetters : Sp := fun vs H Q _ => ∃ (b : Addr) (m : Nat), vs = [.ref b, .int (m : Nat)] ∧ BagOk H b ∧ m ≤ 3 ∧ ∀ (cs : List Nat) H', Rise cs → cs.length = m → Same H H' → Q (.str (tx cs)) H'
theorem abc_at : ∀ n : Fin 26, (Str.ofString "abcdefghijklmnopqrstuvwxyz").cps.toList[n.val]? = some (97 + n.val) := by decide +kernel
theorem abc_len : (Str.ofString "abcdefghijklmnopqrstuvwxyz").length = 26 := by decide +kernel
def lcode (sp st : Int) (k : Nat) : Nat := 97 + ((sp + st * (k : Int)) % 26).toNat
theorem lcode_inj {sp st : Int} {i j : Nat} (h0 : 1 ≤ st) (h1 : st ≤ 8) (hi : i < j) (hj : j < 3) : lcode sp st i ≠ lcode sp st j := by
  unfold lcode
  have : (i = 0 ∧ j = 1) ∨ (i = 0 ∧ j = 2) ∨ (i = 1 ∧ j = 2) := by omega
  rcases this with ⟨rfl, rfl⟩ | ⟨rfl, rfl⟩ | ⟨rfl, rfl⟩ <;> omega
theorem lcodes_nodup {sp st : Int} {m : Nat} (h0 : 1 ≤ st) (h1 : st ≤ 8) (hm : m ≤ 3) : ((List.range m).map (lcode sp st)).Nodup := by
  have : m = 0 ∨ m = 1 ∨ m = 2 ∨ m = 3 := by omega
  have e01 := lcode_inj (sp := sp) h0 h1 (i := 0) (j := 1) (by omega) (by omega)
  have e02 := lcode_inj (sp := sp) h0 h1 (i := 0) (j := 2) (by omega) (by omega)
  have e12 := lcode_inj (sp := sp) h0 h1 (i := 1) (j := 2) (by omega) (by omega)
  rcases this with rfl | rfl | rfl | rfl
  · simp
  · simp [List.range_succ]
  · simp [List.range_succ, e01]
  · simp [List.range_succ, e01, e02, e12]
theorem ok_Lletters (F : FnP K "_law_letters" s_Lletters f fd) (hm : mg "_law_letters" = some (.ref f)) (f_range : mg "range" = none) (f_sorted : mg "sorted" = none) (c_Lpull : Callee P w K mg base CX0 "_law_pull" 1 [] spPull) : Callee P w K mg base CX0 "_law_letters" 2 [] spLetters := by
  refine ⟨f, fd, _, [], F.ok sc_Lletters (fun vs H Q E h => ?hl) (fun cdv A outer s H vs Q E hr h => ⟨_, PSs.nox (pss_cons (ps_set (i := 2) sc_Lletters.nd rfl (by first | exact Or.inl rfl | exact Or.inr rfl) (pe_cl c_Lpull hr (pa_cons (pv 0) (pa_cons pe_int pa_nil)) pass0))
      (pss_cons (ps_set (i := 3) sc_Lletters.nd rfl (by first | exact Or.inl rfl | exact Or.inr rfl) (pe_op (op_addK K) pe_int (pe_cl c_Lpull hr (pa_cons (pv 0) (pa_cons pe_int pa_nil)) pass0)))
      (pss_one (ps_ret (pe_joinK K pe_str (pe_callB (cr_sortedSK K) (by rfl) f_sorted (by decide +kernel) (pa_cons (pe_lc (own := [("_law_k", 4)]) rfl sc_Lletters.nd (pi_range1 (by rfl) f_range (pa_cons (pv 1) pa_nil)) (blkOk_by (N := ["_law_bag_here", "_law_many", "_law_spot", "_law_step", "_law_k"]) (sc := defScope s_Lletters) (by decide +kernel)) (fun _ _ _ _ _ => (pg_name (i := 4) sc_Lletters.nd rfl (by first | exact Or.inl rfl | exact Or.inr rfl))) (fun _ _ _ _ _ => pts_nil) (fun _ _ _ _ _ => (pe_ix (ix_k K) pe_str (pe_op op_mod (pe_op (op_addK K) (pv 2) (pe_op op_mul (pv 3) (pv 4))) pe_int) (fun _ _ => rfl)))) pa_nil))))))), ?rd⟩), hm, F.kp, F.bindsN fun _ _ _ _ _ _ us hl => match us, hl with | [_, _], _ => rfl, .nil⟩
  case hl =>
    obtain ⟨b, u, rfl, _⟩ := h
    rfl
  case rd =>
    obtain ⟨b, m, rfl, hb, hm3, q⟩ := h
    refine k_start (σ' := [some _, some _, none, none, none]) rfl ?_
    walk_at "g"
    refine k_pull hb (by omega) (by omega) (fun s0 p0 p1 => ?_)
    walk_at "g"
    refine k_pull hb (by omega) (by omega) (fun st q0 q1 => ?_)
    walk_at "g"
    refine k_nLc walk_range (fun _ _ => trivial) (fun i ws => ws = (List.range i).map fun k => V.str (sg (lcode s0 (1 + st) k))) rfl (fun i ws hi hw => ?hz) (fun i v Ha Hb ws Kp Ks hi sa hws hy2 hKp hKs => ?ht) (fun p Hp ws np sp ep hws => ?he)
    case hz =>
      rw [hw, List.length_map, List.length_range]
      omega
    case ht =>
      obtain ⟨rfl, rfl⟩ := hy2
      walk_at "g"
      refine ⟨rfl, ?_⟩
      walk_at "g"
      refine k_mul (.inl ⟨by omega, by omega⟩) ?_
      walk_at "g"
      have m0 : 0 ≤ (s0 + (1 + st) * (0 + (i : Int))) % 26 := Int.emod_nonneg _ (by decide)
      have m1 : (s0 + (1 + st) * (0 + (i : Int))) % 26 < 26 := Int.emod_lt_of_pos _ (by decide)
      refine k_ix_s (c := lcode s0 (1 + st) i) (by rw [abc_len]; decide) ?_ (hKp _ _ (Same.refl _) ?_)
      · have h26 := abc_at ⟨((s0 + (1 + st) * (0 + (i : Int))) % 26).toNat, by omega⟩
        refine at_n (j := ((s0 + (1 + st) * (0 + (i : Int))) % 26).toNat) (by omega) ?_
        rw [h26]
        show some (97 + ((s0 + (1 + st) * (0 + (i : Int))) % 26).toNat) = some (97 + ((s0 + (1 + st) * (i : Int)) % 26).toNat)
        rw [Int.zero_add]
      · rw [hws, List.range_succ, List.map_append]
        rfl
    case he =>
      walk_at "g"
      refine k_sortedS (xs := (List.range m).map fun k => sg (lcode s0 (1 + st) k)) (sq_l (by rw [ep, hws, List.map_map]; rfl)) (by rw [List.length_map, List.length_range]; omega) (fun ys p2 H2 pe so n2 s2 e2 => ?_)
      have pe2 : ys.Perm (((List.range m).map (lcode s0 (1 + st))).map sg) := by
        rw [List.map_map]
        exact pe
      obtain ⟨ds, rfl, pd⟩ := perm_sgs pe2
      have le := pd.length_eq
      rw [List.length_map, List.length_range] at le
      have nd := pd.nodup_iff.mpr (lcodes_nodup (sp := s0) (st := 1 + st) (by omega) (by omega) hm3)
      walk_at "g"
      refine k_join (ys := ds.map sg) (sq_l e2) ?_ ?_
      · rw [List.map_map, List.length_map, show (Str.length ∘ sg) = fun _ => 1 from rfl, show (Str.ofString "").length = 0 by decide +kernel]
        have : (ds.map fun _ => 1).sum = ds.length := by
          clear pd nd so e2 pe pe2 le
          induction ds with
          | nil => rfl
          | cons c r ih => rw [List.map_cons, List.sum_cons, ih, List.length_cons]; omega
        rw [this]
        omega
      · rw [join_sgs]
        refine q ds _ ⟨lt_of_le_nodup (sortedS_sgs so) nd, fun c hc => ?_⟩ le (sp.trans s2)
        obtain ⟨k, _, rfl⟩ := List.mem_map.mp (pd.mem_iff.mp hc)
        unfold small lcode
        omega
end
end Lw
set_option autoImplicit true
set_option pp.maxSteps 1200
set_option Elab.async false
set_option linter.all false
set_option maxRecDepth 100000
set_option maxHeartbeats 1000000
namespace Lw
open PySem PySem.Spec PyProof.Rows L2 Gk
open PySem.W (EachIs AllAlike Sortable dataLe dataLt alike keyToks)

local macro_rules | `(tactic| walk_at "hp") => `(tactic| first | assumption | exact upd_same | (refine' (upd_ne ?n).trans ?h; (case n => assumption); (case h => walk_at "hp")) | (refine' sm_get ?s ?h; (case s => assumption); (case h => walk_at "hp")))
local macro_rules | `(tactic| walk_at "sq") => `(tactic| first | assumption | (refine' sq_l ?h; (case h => walk_at "hp")) | (refine' sm_l ?s ?h; (case s => assumption); (case h => walk_at "sq")))
local macro_rules | `(tactic| walk_at "st") => `(tactic| first | assumption | (refine' sq_t ?h; (case h => walk_at "hp")) | (refine' sm_t ?s ?h; (case s => assumption); (case h => walk_at "st")))
local macro_rules | `(tactic| walk_at "bg") => `(tactic| first | assumption | (refine' BagOk.sm ?s ?h; (case s => assumption); (case h => walk_at "bg")))
local macro_rules | `(tactic| walk_at "sm") => `(tactic| first | assumption | exact Same.refl _ | (refine' Same.trans ?h ?s; (case s => assumption); (case h => walk_at "sm")))
local macro_rules | `(tactic| walk_at "hs") => `(tactic| first | assumption | (refine' HsAt.sm ?s ?h; (case s => assumption); (case h => walk_at "hs")))
local macro_rules | `(tactic| walk_at "ms") => `(tactic| first | assumption | (refine' MAt.sm ?s ?h; (case s => assumption); (case h => walk_at "ms")))
local macro_rules | `(tactic| walk_at "md") => `(tactic| first | assumption | (refine' MDk.sm ?s ?h; (case s => assumption); (case h => walk_at "md")))
local macro_rules | `(tactic| walk_at "dp") => `(tactic| first | assumption | (refine' dp_sm ?s ?h; (case s => assumption); (case h => walk_at "dp")))
local macro_rules | `(tactic| walk_at "sz") => `(tactic| first | decide | assumption | omega | (simp only [List.length_cons, List.length_nil, List.length_map, List.length_append]; omega))
local macro_rules | `(tactic| walk_at "g1") => `(tactic| first
  | with_reducible refine k_seq ?_
  | with_reducible refine k_itB ?_
  | with_reducible refine k_next ?_
  | with_reducible refine k_asg ?_
  | with_reducible refine k_name ?_
  | with_reducible refine k_ret ?_
  | with_reducible refine k_retN ?_
  | with_reducible refine k_drop ?_
  | with_reducible refine k_ifs ?_
  | with_reducible refine k_brk ?_
  | with_reducible refine k_cont ?_
  | with_reducible refine k_ipI ?_
  | with_reducible refine k_test ?_
  | with_reducible refine k_tB ?_
  | with_reducible refine k_bl ?_
  | with_reducible refine k_not ?_
  | with_reducible refine k_and ?_
  | with_reducible refine k_or ?_
  | with_reducible refine k_yes ?_
  | with_reducible refine k_true ?_
  | with_reducible refine k_false ?_
  | with_reducible refine k_nt ?_
  | with_reducible refine k_c ?_
  | with_reducible refine k_op ?_
  | with_reducible refine k_un ?_
  | with_reducible refine k_if ?_
  | with_reducible refine k_chain ?_
  | with_reducible refine k_nil ?_
  | with_reducible refine k_cons ?_
  | with_reducible refine k_cb ?_
  | with_reducible refine k_call ?_
  | with_reducible refine k_callS ?_
  | with_reducible refine k_andV ?_
  | with_reducible refine k_orV ?_
  | with_reducible refine k_notV ?_
  | with_reducible refine k_lst ?_
  | with_reducible refine k_tup ?_
  | with_reducible refine k_nopart ?_
  | with_reducible refine k_part ?_
  | with_reducible refine k_nInt ?_
  | with_reducible refine k_sl ?_
  | with_reducible refine k_bm ?_
  | with_reducible refine k_bm0 ?_
  | with_reducible refine k_nTyS ?_
  | with_reducible refine k_m1 ?_
  | with_reducible refine k_m0 ?_
  | with_reducible refine k_nStr ?_
  | with_reducible refine k_I0 ?_
  | with_reducible refine k_U ?_
  | with_reducible refine k_add_i ?_
  | with_reducible refine k_eq_i ?_
  | with_reducible refine k_eq_s ?_
  | with_reducible refine k_eq_b ?_
  | with_reducible refine k_ne_i ?_
  | with_reducible refine k_ne_s ?_
  | with_reducible refine k_ne_b ?_
  | with_reducible refine k_le_i ?_
  | with_reducible refine k_le_s ?_
  | with_reducible refine k_gnil ?_
  | with_reducible refine k_gcons ?_
  | with_reducible refine k_gsub ?_
  | with_reducible refine k_for ?_
  | with_reducible refine k_lc ?_
  | with_reducible refine k_rng1 ?_
  | with_reducible refine k_rng2 ?_
  | with_reducible refine k_itl ?_
  | with_reducible refine k_itt ?_
  | with_reducible refine k_its ?_
  | with_reducible refine k_ite ?_
  | with_reducible refine k_iteB ?_
  | with_reducible refine k_lrg2 ?_
  | with_reducible refine k_itz ?_
  | with_reducible refine k_nIts ?_
  | with_reducible refine k_inS ?_
  | with_reducible refine k_niS ?_
  | with_reducible refine k_mk ?_
  | with_reducible refine k_meth ?_
  | with_reducible refine k_fld ?_
  | with_reducible refine k_sfld ?_
  | with_reducible refine k_dg ?_
  | with_reducible refine k_dp ?_
  | with_reducible refine k_pr ?_
  | with_reducible refine k_pr0 ?_
  | with_reducible refine k_sg ?_
  | with_reducible refine k_lc2 ?_
  | with_reducible refine k_callN ?_
  | with_reducible refine k_callNS ?_
  | with_reducible refine k_par ?_
  | with_reducible refine k_nPar ?_
  | with_reducible refine k_isNn ?_
  | with_reducible refine k_isNr ?_
  | with_reducible refine k_ntNn ?_
  | with_reducible refine k_ntNr ?_
  | with_reducible refine k_min2 ?_
  | with_reducible refine k_max2 ?_
  | with_reducible refine k_intB ?_
  | with_reducible refine k_intI ?_
  | with_reducible refine k_isBl ?_
  | with_reducible refine k_ntBl ?_
  | ((with_reducible refine' k_var ?kv ?_); (case kv => exact rfl))
  | ((with_reducible refine' k_aug ?kv ?_); (case kv => exact rfl))
  | ((with_reducible refine' k_ix_l ?ks ?ki ?_); (case ks => walk_at "sq"); (case ki => exact rfl))
  | ((with_reducible refine' k_ix_t ?ks ?ki ?_); (case ks => walk_at "st"); (case ki => exact rfl))
  | ((with_reducible refine' k_len_l ?ks ?_); (case ks => walk_at "sq"))
  | ((with_reducible refine' k_len_t ?ks ?_); (case ks => walk_at "st"))
  | ((with_reducible refine' k_setL ?ks ?ki ?_); (case ks => walk_at "hp"); (case ki => exact rfl))
  | ((with_reducible refine' k_nTyL ?ks ?_); (case ks => walk_at "sq"))
  | ((with_reducible refine' k_nItl ?ks ?_); (case ks => walk_at "sq"))
  | ((with_reducible refine' k_nItt ?ks ?_); (case ks => walk_at "st"))
  | ((with_reducible refine' k_nIte ?ks ?_); (case ks => walk_at "sq"))
  | ((with_reducible refine' k_mul ?km ?_); (case km => first | exact Or.inr ⟨by decide, by decide⟩ | exact Or.inl ⟨by decide, by decide⟩))
  | ((with_reducible refine' k_I ?km ?_); (case km => first | assumption | decide | exact ⟨by decide, by decide +kernel⟩ | exact ⟨by decide, by decide, by decide⟩))
  | ((with_reducible refine' k_nMeth ?kp ?kl ?_); (case kp => walk_at "hp"); (case kl => exact rfl))
  | ((with_reducible refine' k_nFld ?kp ?kc ?kn ?kl ?_); (case kp => walk_at "hp"); (case kc => assumption); (case kn => assumption); (case kl => exact rfl))
  | ((with_reducible refine' k_nSFld ?kp ?kc ?kn ?kl ?_); (case kp => walk_at "hp"); (case kc => assumption); (case kn => assumption); (case kl => exact of_decide_eq_true rfl))
  | ((with_reducible refine' k_nDg ?kp ?kl ?_); (case kp => walk_at "hp"); (case kl => exact rfl))
  | ((with_reducible refine' k_nRng1 ?k1 ?k2 ?_); (case k1 => omega); (case k2 => omega))
  | ((with_reducible refine' k_nKw ?k1 ?k2 ?_); (case k1 => exact rfl); (case k2 => exact rfl))
  | ((with_reducible refine' k_hsm ?kh ?_); (case kh => walk_at "hs"))
  | ((with_reducible refine' k_nMethH ?kh ?kl ?_); (case kh => walk_at "hs"); (case kl => exact fun _ _ => rfl))
  | ((with_reducible refine' k_mLet ?kh ?_); (case kh => walk_at "ms"))
  | ((with_reducible refine' k_mChew ?kh ?_); (case kh => walk_at "ms"))
  | ((with_reducible refine' k_mPut ?kh ?_); (case kh => walk_at "ms"))
  | ((with_reducible refine' k_mMost ?kh ?_); (case kh => walk_at "ms"))
  | ((with_reducible refine' k_mCut ?kh ?_); (case kh => walk_at "ms"))
  | ((with_reducible refine' k_mTab ?kh ?_); (case kh => walk_at "md"))
  | ((with_reducible refine' k_mEats ?kh ?_); (case kh => walk_at "md"))
  | ((with_reducible refine' k_gtup ?ks ?kl ?_); (case ks => walk_at "st"); (case kl => exact rfl)))
local macro_rules | `(tactic| walk_at "g") => `(tactic| repeat (walk_at "g1"))
local macro_rules | `(tactic| walk_at "w1") => `(tactic| first
  | walk_at "g1"
  | ((with_reducible refine' k_decT ?kp ?_); (case kp => omega))
  | ((with_reducible refine' k_decF ?kp ?_); (case kp => omega))
  | ((with_reducible refine' k_decNT ?kp ?_); (case kp => omega))
  | ((with_reducible refine' k_decNF ?kp ?_); (case kp => omega)))
local macro_rules | `(tactic| walk_at "w") => `(tactic| repeat (walk_at "w1"))

--! have hC : HsC K := ⟨He.cls_ok a_House, He.noat_ok n1, He.noat_ok n2, He.noat_ok n3, He.noat_ok n4, He.noat_ok n5, He.noat_ok n6, He.noat_ok n7⟩

abbrev FnM (K : PySem.W.Frag) (x q : Str) (st : Stmt) (f : Addr) (fd : FuncData) : Prop := FunD K x q (defArgs st) (defBody st) (defScope st) [] [] f fd
section
variable {P : Program} {w : World} {K : PySem.W.Frag} {mg : Str → Option Value} {base : Heap} {f : Addr} {fd : FuncData}
/-! ### houses as data -/
structure HsD where
  ls : List Nat
  tb : List (List Int)
  tr : List (List Key)
  ch : Int
  pt : List Nat
  mo : Int
  cu : Int
def kEat (side : Bool) (a b : Int) : List Key := [.inr (if side = true then Str.ofString "right" else Str.ofString "left"), .inl a, .inl b]
def wcount (n m : Nat) : Int := (([(n : Int) ^ 1, (n : Int) ^ 2, (n : Int) ^ 3].take m)).sum
structure HsOk (S : HsD) : Prop where
  rise : Rise S.ls
  l1 : 1 ≤ S.ls.length
  l3 : S.ls.length ≤ 3
  t1 : 1 ≤ S.tb.length
  t4 : S.tb.length ≤ 4
  tw : ∀ r ∈ S.tb, r.length = S.ls.length ∧ ∀ x ∈ r, 0 ≤ x ∧ x < S.tb.length
  e7 : S.tr.length ≤ 12
  ev : ∀ k ∈ S.tr, ∃ s a b, k = kEat s a b ∧ 0 ≤ a ∧ a < S.tb.length ∧ 0 ≤ b ∧ b < S.tb.length
  c0 : 0 ≤ S.ch
  c2 : S.ch ≤ 2
  p2 : S.pt.length ≤ 2
  pl : ∀ c ∈ S.pt, c ∈ S.ls
  m1 : 1 ≤ S.mo
  m3 : S.mo ≤ 3
  mw : wcount S.ls.length S.mo.toNat ≤ 14
  k1 : 1 ≤ S.cu
  km : S.cu ≤ S.mo
/-! ### what a house must be -/
def spWc : Sp := fun vs H Q _ => ∃ (n m : Nat), vs = [.int n, .int m] ∧ 1 ≤ n ∧ n ≤ 3 ∧ 1 ≤ m ∧ m ≤ 3 ∧ ∀ H', Same H H' → Q (.int (wcount n m)) H'
theorem ok_word_count (F : FnP K "word_count" s_word_count f fd) (hm : mg "word_count" = some (.ref f)) (f_sum : mg "sum" = none) : Callee P w K mg base CX0 "word_count" 1 [] spWc := by
  refine ⟨f, fd, _, [], F.ok sc_word_count (fun vs H Q E h => ?hl) (fun cdv A outer s H vs Q E hr h => ⟨_, PSs.nox (pss_one (ps_ret (pe_callB (cr_sumK K) (by rfl) f_sum (by decide +kernel) (pa_cons (pe_slice (sl_k K) (pe_lst (pa_cons (pe_op op_pow (pv 0) pe_int) (pa_cons (pe_op op_pow (pv 0) pe_int) (pa_cons (pe_op op_pow (pv 0) pe_int) pa_nil)))) po_none (po_some (pv 1))) pa_nil)))), ?rd⟩), hm, F.kp, F.bindsN fun _ _ _ _ _ _ us hl => match us, hl with | [_, _], _ => rfl, .nil⟩
  case hl =>
    obtain ⟨n, m, rfl, _⟩ := h
    rfl
  case rd =>
    obtain ⟨n, m, rfl, h1, h2, h3, h4, q⟩ := h
    refine k_start (σ' := [some _, some _]) rfl ?_
    have hb : ∀ j : Int, 0 ≤ j → j ≤ 3 → CPow n j := fun j a b => ⟨a, by omega, by omega⟩
    walk_at "g"
    refine k_I (hb 1 (by decide) (by decide)) ?_
    walk_at "g"
    refine k_I (hb 2 (by decide) (by decide)) ?_
    walk_at "g"
    refine k_I (hb 3 (by decide) (by decide)) ?_
    walk_at "g"
    refine k_nLst (by walk_at "sz") (fun p1 H1 n1 s1 e1 => ?_)
    walk_at "g"
    refine k_sl_l (sq_l e1) (fun p2 H2 n2 s2 e2 => ?_)
    rw [cutV_to] at e2
    walk_at "g"
    refine k_sum (ns := [(n : Int) ^ 1, (n : Int) ^ 2, (n : Int) ^ 3].take m) (sq_l (by rw [e2, List.map_take]; rfl)) (q _ (s1.trans s2))
theorem mem_abc (c : Nat) (h : small c) : decide (c ∈ (Str.ofString "abcdefghijklmnopqrstuvwxyz").cps.toList) = true := by
  have e : (Str.ofString "abcdefghijklmnopqrstuvwxyz").cps.toList = (List.range 26).map (97 + ·) := by decide +kernel
  rw [e, decide_eq_true_eq]
  unfold small at h
  exact List.mem_map.mpr ⟨c - 97, List.mem_range.mpr (by omega), by omega⟩
/-- all([test of each sign]), the tests all true -/
theorem rise_pl2 {cs : List Nat} (h : Rise cs) : Pl (tx cs) := fun c hc => by
  have := h.2 c hc
  unfold small at this
  omega
theorem sum_one : ∀ cs : List Nat, (cs.map fun _ => 1).sum = cs.length
  | [] => rfl
  | c :: r => by rw [List.map_cons, List.sum_cons, sum_one r, List.length_cons]; omega
def spNl : Sp := fun vs H Q _ => ∃ cs : List Nat, vs = [.str (tx cs)] ∧ Rise cs ∧ 1 ≤ cs.length ∧ cs.length ≤ 3 ∧ ∀ H', Same H H' → Q .non H'
theorem ok_need_letters (F : FnP K "need_letters" s_need_letters f fd) (hm : mg "need_letters" = some (.ref f)) (f_len : mg "len" = none) (f_all : mg "all" = none) (f_sorted : mg "sorted" = none) (f_set : mg "set" = none) (c_SMALL : ∃ t, mg "SMALL" = some (.str (Str.ofString "abcdefghijklmnopqrstuvwxyz") t)) : Callee P w K mg base CX0 "need_letters" 1 [] spNl := by
  refine ⟨f, fd, _, [], F.ok sc_need_letters (fun vs H Q E h => ?hl) (fun cdv A outer s H vs Q E hr h => ⟨_, PSs.nox (pss_cons (ps_if (PW.pt (pw_or (pt_not (pt_chain op_leU op_leU pe_int (pe_callB (call_lenK K) (by rfl) f_len PySem.boot_len (pa_cons (pv 0) pa_nil)) pe_int)) (pw_or1 (pt_not (pt_val (pe_callB (cr_allK K) (by rfl) f_all (by decide +kernel) (pa_cons (pe_lc (own := [("sign", 1)]) rfl sc_need_letters.nd (pi_str (pv 0)) (blkOk_by (N := ["letters", "sign"]) (sc := defScope s_need_letters) (by decide +kernel)) (fun _ _ _ _ _ => (pg_name (i := 1) sc_need_letters.nd rfl (by first | exact Or.inl rfl | exact Or.inr rfl))) (fun _ _ _ _ _ => pts_nil) (fun _ _ _ _ _ => (pe_cmpR op_inS (pv 1) (pe_gs c_SMALL) (by rfl)))) pa_nil))))))) (pss_one ps_never) pss_nil)
      (pss_one (ps_if (pt_cmpR (op_neK K hr.units) (pv 0) (pe_joinK K pe_str (pe_callB (cr_sortedA K P w hr.units) (by rfl) f_sorted (by decide +kernel) (pa_cons (pe_callTy (cr_setA K P w) (by rfl) f_set (by decide +kernel) (pa_cons (pv 0) pa_nil)) pa_nil))) (nomark _)) (pss_one ps_never) pss_nil))), ?rd⟩), hm, F.kp, F.bindsN fun _ _ _ _ _ _ us hl => match us, hl with | [_], _ => rfl, .nil⟩
  case hl =>
    obtain ⟨n, rfl, _⟩ := h
    rfl
  case rd =>
    obtain ⟨cs, rfl, rise, h1, h3, q⟩ := h
    refine k_start (σ' := [some _, none]) rfl ?_
    have ll := len_tx cs
    walk_at "g"
    refine k_len_s (by omega) ?_
    rw [ll]
    walk_at "w"
    have sz : (tx cs).cps.size = cs.length := ll
    refine k_nLcT (walk_str (z := tx cs)) (by omega) (fun _ _ => trivial) (fun i v Ha Hb Kp hi sa hy hKp => ?ht) (fun p Hp np sp ep => ?he)
    case ht =>
      obtain ⟨rfl, c, hc, rfl⟩ := hy
      walk_at "g"
      refine ⟨rfl, ?_⟩
      walk_at "g"
      rw [mem_abc c (rise.2 c (by
        have h : cs[i]? = some c := by
          rw [← hc]
          exact Array.getElem?_toList (xs := cs.toArray)
        exact List.mem_of_getElem? h))]
      exact hKp _ (Same.refl _)
    case he =>
      walk_at "g"
      refine k_allT _ rfl ep ?_
      walk_at "g"
      have nd : cs.Nodup := rise.1.imp fun h => Nat.ne_of_lt h
      refine k_setX (rise_pl2 rise) nd (by omega) (fun p2 H2 n2 s2 e2 => ?_)
      walk_at "g"
      refine k_sortX e2 ?_ ?_ (fun ys p3 H3 pm so n3 s3 e3 => ?_)
      · exact (List.reverse_perm _).nodup_iff.mpr (List.pairwise_map.mpr (nd.imp fun h e => h (by injection e with e; injection e with e; injection e)))
      · rw [List.length_reverse, List.length_map]
        exact Nat.le_trans h3 (by decide)
      have ey := sorted_sgs pm so rise.1
      subst ey
      walk_at "g"
      refine k_join (ys := cs.map sg) (sq_l e3) ?_ ?_
      · rw [show (Str.ofString "").length = 0 by decide +kernel, List.map_map, show (Str.length ∘ sg) = fun _ => 1 from rfl, List.length_map, sum_one]
        omega
      rw [join_sgs]
      walk_at "g"
      rw [decide_eq_true rfl]
      walk_at "g"
      exact q _ ((sp.trans s2).trans s3)
abbrev RwI : Type := Addr × List Int
def spNt (K : PySem.W.Frag) : Sp := fun vs H Q _ => ∃ (a : Addr) (n : Nat) (R : List RwI) (tr : Bool), vs = [.ref a, .int n] ∧ SqL K H a (R.map fun r => V.ref r.1) ∧ (∀ r ∈ R, SqB K tr H r.1 (r.2.map V.int) ∧ r.2.length = n ∧ ∀ x ∈ r.2, 0 ≤ x ∧ x < R.length) ∧ n ≤ 3 ∧ 1 ≤ R.length ∧ R.length ≤ 4 ∧ ∀ H', Same H H' → Q .non H'
theorem ok_need_table (F : FnP K "need_table" s_need_table f fd) (hm : mg "need_table" = some (.ref f)) (f_len : mg "len" = none) (f_all : mg "all" = none) (f_enumerate : mg "enumerate" = none) (c_MOST_TASTES : ∃ t, mg "MOST_TASTES" = some (.int 4 t)) : Callee P w K mg base CX0 "need_table" 1 [] (spNt K) := by
  refine ⟨f, fd, _, [], F.ok sc_need_table (fun vs H Q E h => ?hl) (fun cdv A outer s H vs Q E hr h => ⟨_, PSs.nox (pss_cons (ps_if (pt_not (pt_chain op_leU op_leU pe_int (pe_callB (call_lenK K) (by rfl) f_len PySem.boot_len (pa_cons (pv 0) pa_nil)) (pe_gi c_MOST_TASTES))) (pss_one ps_never) pss_nil)
      (pss_one (ps_for PassesOwn.never rfl (pi_enumK K (by rfl) f_enumerate (pa_cons (pv 0) pa_nil)) (pg_tupK K 2 (by rfl) (pgs_cons (pg_name (i := 2) sc_need_table.nd rfl (by first | exact Or.inl rfl | exact Or.inr rfl)) (pgs_cons (pg_name (i := 3) sc_need_table.nd rfl (by first | exact Or.inl rfl | exact Or.inr rfl)) pgs_nil))) (pss_one (ps_if (PW.pt (pw_or (pt_cmpR (op_neK K hr.units) (pe_callB (call_lenK K) (by rfl) f_len PySem.boot_len (pa_cons (pv 3) pa_nil)) (pv 1) (nomark _)) (pw_or1 (pt_not (pt_val (pe_callB (cr_allK K) (by rfl) f_all (by decide +kernel) (pa_cons (pe_lc (own := [("to", 4)]) rfl sc_need_table.nd (pi_anyK K (pv 3)) (blkOk_by (N := ["table", "many", "at", "row", "to"]) (sc := defScope s_need_table) (by decide +kernel)) (fun _ _ _ _ _ => (pg_name (i := 4) sc_need_table.nd rfl (by first | exact Or.inl rfl | exact Or.inr rfl))) (fun _ _ _ _ _ => pts_nil) (fun _ _ _ _ _ => (pe_chain op_leU op_lt pe_int (pv 4) (pe_callB (call_lenK K) (by rfl) f_len PySem.boot_len (pa_cons (pv 0) pa_nil))))) pa_nil))))))) (pss_one ps_never) pss_nil))))), ?rd⟩), hm, F.kp, F.bindsN fun _ _ _ _ _ _ us hl => match us, hl with | [_, _], _ => rfl, .nil⟩
  case hl =>
    obtain ⟨a, n, R, tr, rfl, _⟩ := h
    rfl
  case rd =>
    obtain ⟨a, n, R, tr, rfl, hx, hR, h3, l1, l4, q⟩ := h
    refine k_start (σ' := [some _, some _, none, none, none]) rfl ?_
    have lR : (R.map fun r => V.ref r.1).length = R.length := List.length_map _
    walk_at "g"
    rw [lR]
    walk_at "w"
    refine k_nFor (walk_enum (xs := R.map fun r => V.ref r.1)) (fun i σ H' => (∃ y2 y3, σ = [some (.ref a), some (.int n), y2, y3, none]) ∧ Same H H') ⟨⟨_, _, rfl⟩, Same.refl _⟩ (fun i σ H' _ h => sm_l h.2 hx) (fun i x σ Ha Hb hi h hy => ?ht) (fun σ H' h => ?he)
    case he =>
      obtain ⟨⟨y2, y3, rfl⟩, sa⟩ := h
      walk_at "g"
      exact q _ sa
    case ht =>
      obtain ⟨⟨y2, y3, rfl⟩, sa⟩ := h
      obtain ⟨T, xi, yi, rfl, nT, rfl, ex, ey⟩ := hy
      have sT : Same Ha (upd Ha T (.tup [xi, yi])) := sm_new nT
      have eT : (upd Ha T (.tup [xi, yi])) T = some (.tup [xi, yi]) := upd_same
      generalize upd Ha T (.tup [xi, yi]) = Hb at sT eT
      cases ex
      obtain ⟨r, hr0, rfl⟩ := map_get ey
      obtain ⟨hr1, hr2, hr3⟩ := hR r (List.mem_of_getElem? hr0)
      have sx := sa.trans sT
      have hrL := sm_b sx hr1
      have hxL := sm_l sx hx
      have lr : (r.2.map V.int).length = r.2.length := List.length_map _
      walk_at "g"
      refine k_len_b hrL ?_
      walk_at "g"
      rw [lr]
      walk_at "w"
      refine k_nItB hrL ?_
      refine k_nLcT (walk_listB (xs := r.2.map V.int)) (by rw [lr]; omega) (fun H' s2 => sm_b s2 hrL) (fun j v Hc Hd Kp hj sc hy hKp => ?ht2) (fun p Hp np sp ep => ?he2)
      case ht2 =>
        obtain ⟨rfl, hv⟩ := hy
        obtain ⟨x, hx0, rfl⟩ := map_get hv
        obtain ⟨b1, b2⟩ := hr3 x (List.mem_of_getElem? hx0)
        have hxM := sm_l sc hxL
        walk_at "g"
        refine ⟨rfl, ?_⟩
        walk_at "w"
        rw [lR]
        walk_at "w"
        rw [decide_eq_true b2]
        exact hKp _ (Same.refl _)
      case he2 =>
        walk_at "g"
        refine k_allT _ rfl ep ?_
        walk_at "g"
        exact ⟨⟨_, _, rfl⟩, sx.trans sp⟩
theorem sides_in (s : Bool) : inV (V.str (if s = true then Str.ofString "right" else Str.ofString "left")) [V.str (Str.ofString "left"), V.str (Str.ofString "right")] = true := by
  cases s <;> decide +kernel
/-- three in a tuple: side, eater, eaten -/
def spNe (K : PySem.W.Frag) : Sp := fun vs H Q _ => ∃ (a : Addr) (n : Nat) (R : List RwM), vs = [.ref a, .int n] ∧ SqL K H a (R.map fun r => V.ref r.1) ∧ (∀ r ∈ R, SqT K H r.1 (r.2.map kV) ∧ ∃ s x y, r.2 = kEat s x y ∧ 0 ≤ x ∧ x < n ∧ 0 ≤ y ∧ y < n) ∧ R.length ≤ 100 ∧ ∀ H', Same H H' → Q .non H'
theorem ok_need_eats (F : FnP K "need_eats" s_need_eats f fd) (hm : mg "need_eats" = some (.ref f)) (f_enumerate : mg "enumerate" = none) (c_SIDES : GloT K mg "SIDES" [V.str (Str.ofString "left"), V.str (Str.ofString "right")]) : Callee P w K mg base CX0 "need_eats" 1 [] (spNe K) := by
  refine ⟨f, fd, _, [], F.ok sc_need_eats (fun vs H Q E h => ?hl) (fun cdv A outer s H vs Q E hr h => ⟨_, PSs.nox (pss_one (ps_for PassesOwn.never rfl (pi_enumK K (by rfl) f_enumerate (pa_cons (pv 0) pa_nil)) (pg_tupK K 2 (by rfl) (pgs_cons (pg_name (i := 2) sc_need_eats.nd rfl (by first | exact Or.inl rfl | exact Or.inr rfl)) (pgs_cons (pg_tupK K 3 (by rfl) (pgs_cons (pg_name (i := 3) sc_need_eats.nd rfl (by first | exact Or.inl rfl | exact Or.inr rfl)) (pgs_cons (pg_name (i := 4) sc_need_eats.nd rfl (by first | exact Or.inl rfl | exact Or.inr rfl)) (pgs_cons (pg_name (i := 5) sc_need_eats.nd rfl (by first | exact Or.inl rfl | exact Or.inr rfl)) pgs_nil)))) pgs_nil))) (pss_one (ps_if (PW.pt (pw_or (pt_cmpR (op_niK K) (pv 3) (pe_gt c_SIDES) (by rfl)) (pw_or (pt_not (pt_chain op_leU op_lt pe_int (pv 4) (pv 1))) (pw_or1 (pt_not (pt_chain op_leU op_lt pe_int (pv 5) (pv 1))))))) (pss_one ps_never) pss_nil)))), ?rd⟩), hm, F.kp, F.bindsN fun _ _ _ _ _ _ us hl => match us, hl with | [_, _], _ => rfl, .nil⟩
  case hl =>
    obtain ⟨a, n, R, rfl, _⟩ := h
    rfl
  case rd =>
    obtain ⟨a, n, R, rfl, hx, hR, h3, q⟩ := h
    refine k_start (σ' := [some _, some _, none, none, none, none]) rfl ?_
    walk_at "g"
    refine k_nFor (walk_enum (xs := R.map fun r => V.ref r.1)) (fun i σ H' => (∃ y2 y3 y4 y5, σ = [some (.ref a), some (.int n), y2, y3, y4, y5]) ∧ Same H H') ⟨⟨_, _, _, _, rfl⟩, Same.refl _⟩ (fun i σ H' _ h => sm_l h.2 hx) (fun i x σ Ha Hb hi h hy => ?ht) (fun σ H' h => ?he)
    case he =>
      obtain ⟨⟨y2, y3, y4, y5, rfl⟩, sa⟩ := h
      walk_at "g"
      exact q _ sa
    case ht =>
      obtain ⟨⟨y2, y3, y4, y5, rfl⟩, sa⟩ := h
      obtain ⟨T, xi, yi, rfl, nT, rfl, ex, ey⟩ := hy
      have sT : Same Ha (upd Ha T (.tup [xi, yi])) := sm_new nT
      have eT : (upd Ha T (.tup [xi, yi])) T = some (.tup [xi, yi]) := upd_same
      generalize upd Ha T (.tup [xi, yi]) = Hb at sT eT
      cases ex
      obtain ⟨r, hr0, rfl⟩ := map_get ey
      obtain ⟨hr1, s, x, y, er, b1, b2, b3, b4⟩ := hR r (List.mem_of_getElem? hr0)
      have sx := sa.trans sT
      have hrT : SqT K Hb r.1 [V.str (if s = true then Str.ofString "right" else Str.ofString "left"), .int x, .int y] := by
        have h := sm_t sx hr1
        rw [er] at h
        exact h
      walk_at "g"
      refine k_niT (c_SIDES.t _) rfl rfl (b := false) (by rw [sides_in]; rfl) ?_
      walk_at "w"
      exact ⟨⟨_, _, _, _, rfl⟩, sx⟩
/-! ### a house as it stands -/
def HsAt (K : PySem.W.Frag) (H : Hp) (a : Addr) (S : HsD) : Prop := ∃ (dx r t : Addr) (R : List RwI) (L : List RwM),
  H a = some (.ins (He.ga K "House") dx [("signs", .str (tx S.ls)), ("rooms", .ref r), ("triples", .ref t), ("chewed", .int S.ch), ("putting", .str (tx S.pt)), ("span", .int S.mo), ("cutting", .int S.cu)]) ∧
  SqT K H r (R.map fun q => V.ref q.1) ∧ (∀ q ∈ R, SqT K H q.1 (q.2.map V.int)) ∧ R.map (·.2) = S.tb ∧
  SqT K H t (L.map fun q => V.ref q.1) ∧ (∀ q ∈ L, SqT K H q.1 (q.2.map kV)) ∧ (L.map (·.2)).Nodup ∧ (∀ k, k ∈ L.map (·.2) ↔ k ∈ S.tr) ∧ L.Pairwise fun x y => dataLe false encM x y = true
theorem HsAt.sm {H H' : Hp} {a : Addr} {S : HsD} (s : Same H H') (h : HsAt K H a S) : HsAt K H' a S := by
  obtain ⟨dx, r, t, R, L, h1, h2, h3, h4, h5, h6, h7, h8, h9⟩ := h
  exact ⟨dx, r, t, R, L, s _ _ h1, sm_t s h2, fun q hq => sm_t s (h3 q hq), h4, sm_t s h5, fun q hq => sm_t s (h6 q hq), h7, h8, h9⟩
def spInit (K : PySem.W.Frag) : Sp := fun vs H Q _ => ∃ (S : HsD) (a dx tb ev : Addr) (R : List RwI) (L : List RwM) (tr : Bool), vs = [.ref a, .str (tx S.ls), .ref tb, .ref ev, .int S.ch, .str (tx S.pt), .int S.mo, .int S.cu] ∧ HsOk S ∧
  H a = some (.ins (He.ga K "House") dx []) ∧ SqL K H tb (R.map fun q => V.ref q.1) ∧ (∀ q ∈ R, SqB K tr H q.1 (q.2.map V.int)) ∧ R.map (·.2) = S.tb ∧ SqL K H ev (L.map fun q => V.ref q.1) ∧ (∀ q ∈ L, SqT K H q.1 (q.2.map kV)) ∧ L.map (·.2) = S.tr ∧
  ∀ H', (∀ b u, b ≠ a → H b = some u → H' b = some u) → HsAt K H' a S → Q .non H'
structure HsC (K : PySem.W.Frag) : Prop where
  c : Cls K (He.ga K "House")
  n1 : NoAttr K (He.ga K "House") "signs"
  n2 : NoAttr K (He.ga K "House") "rooms"
  n3 : NoAttr K (He.ga K "House") "triples"
  n4 : NoAttr K (He.ga K "House") "chewed"
  n5 : NoAttr K (He.ga K "House") "putting"
  n6 : NoAttr K (He.ga K "House") "span"
  n7 : NoAttr K (He.ga K "House") "cutting"
theorem b_ins {tr : Bool} {H : Hp} {p b C dx : Addr} {fs : List (Str × V)} {o : HO} {xs : List V} (hp : H p = some (.ins C dx fs)) (h : SqB K tr H b xs) : SqB K tr (upd H p o) b xs := match tr, h with
  | true, h => t_ins hp h
  | false, h => l_ins hp h
theorem k_tup_sb {tr : Bool} {H : Hp} {Q : VK} {a : Addr} {xs : List V} (hx : SqB K tr H a xs) (h : ∀ p H2, Same H H2 → SqT K H2 p xs → Q (.ref p) H2) : rTupU K [.ref a] H Q := match tr, hx with
  | false, hx => k_tup_l hx fun p H2 _ s e => h p H2 s (sq_t e)
  | true, hx => k_tup_t hx (h a H (Same.refl _) hx)
theorem ok_House_init {f : Addr} (F : FunD K "__init__" "House.__init__" (defArgs s_House_init) (defBody s_House_init) (defScope s_House_init) [] [("chew", .int 0)] f fd) (hC : HsC K) (f_tuple : mg "tuple" = none) (f_sorted : mg "sorted" = none) (f_all : mg "all" = none) (f_len : mg "len" = none) (c_MOST_WORDS : ∃ t, mg "MOST_WORDS" = some (.int 14 t))
    (c_need_eats : Callee P w K mg base CX0 "need_eats" 1 [] (spNe K)) (c_need_table : Callee P w K mg base CX0 "need_table" 1 [] (spNt K)) (c_word_count : Callee P w K mg base CX0 "word_count" 1 [] spWc) (c_need_letters : Callee P w K mg base CX0 "need_letters" 1 [] spNl) :
    FnOk P w K mg base CX0 2 f fd ["self", "letters", "table", "eats", "chew", "put", "most", "cut"] (spInit K) := by
  refine F.ok sc_House_init (fun vs H Q E h => ?hl) (fun cdv A outer s H vs Q E hr h => ⟨_, PSs.nox (pss_cons (ps_expr (pe_cl c_need_letters hr (pa_cons (pv 1) pa_nil) pass0))
      (pss_cons (ps_if (PW.pt (pw_or (pt_not (pt_chain op_leU op_leU pe_int (pv 6) pe_int)) (pw_or1 (pt_cmpR op_gt (pe_cl c_word_count hr (pa_cons (pe_callB (call_lenK K) (by rfl) f_len PySem.boot_len (pa_cons (pv 1) pa_nil)) (pa_cons (pv 6) pa_nil)) pass0) (pe_gi c_MOST_WORDS) (nomark _))))) (pss_one ps_never) pss_nil)
      (pss_cons (ps_expr (pe_cl c_need_table hr (pa_cons (pv 2) (pa_cons (pe_callB (call_lenK K) (by rfl) f_len PySem.boot_len (pa_cons (pv 1) pa_nil)) pa_nil)) pass0))
      (pss_cons (ps_expr (pe_cl c_need_eats hr (pa_cons (pv 3) (pa_cons (pe_callB (call_lenK K) (by rfl) f_len PySem.boot_len (pa_cons (pv 2) pa_nil)) pa_nil)) pass0))
      (pss_cons (ps_if (pt_not (pt_chain op_leU op_leU pe_int (pv 4) pe_int)) (pss_one ps_never) pss_nil)
      (pss_cons (ps_if (PW.pt (pw_or (pt_cmpR op_gt (pe_callB (call_lenK K) (by rfl) f_len PySem.boot_len (pa_cons (pv 5) pa_nil)) pe_int (nomark _)) (pw_or1 (pt_not (pt_val (pe_callB (cr_allK K) (by rfl) f_all (by decide +kernel) (pa_cons (pe_lc (own := [("sign", 12)]) rfl sc_House_init.nd (pi_str (pv 5)) (blkOk_by (N := ["self", "letters", "table", "eats", "chew", "put", "most", "cut", "row", "side", "one", "other", "sign"]) (sc := defScope s_House_init) (by decide +kernel)) (fun _ _ _ _ _ => (pg_name (i := 12) sc_House_init.nd rfl (by first | exact Or.inl rfl | exact Or.inr rfl))) (fun _ _ _ _ _ => pts_nil) (fun _ _ _ _ _ => (pe_cmpR op_inS (pv 12) (pv 1) (by rfl)))) pa_nil))))))) (pss_one ps_never) pss_nil)
      (pss_cons (ps_if (pt_not (pt_chain op_leU op_leU pe_int (pv 7) (pv 6))) (pss_one ps_never) pss_nil)
      (pss_cons (ps_fld (pv 0) (pv 1) rfl)
      (pss_cons (ps_fld (pv 0) (pe_callTy (call_tupK K) (by rfl) f_tuple (by decide +kernel) (pa_cons (pe_lc (own := [("row", 8)]) rfl sc_House_init.nd (pi_listK K (pv 2)) (blkOk_by (N := ["self", "letters", "table", "eats", "chew", "put", "most", "cut", "row", "side", "one", "other", "sign"]) (sc := defScope s_House_init) (by decide +kernel)) (fun _ _ _ _ _ => (pg_name (i := 8) sc_House_init.nd rfl (by first | exact Or.inl rfl | exact Or.inr rfl))) (fun _ _ _ _ _ => pts_nil) (fun _ _ _ _ _ => (pe_callTy (call_tupK K) (by rfl) f_tuple (by decide +kernel) (pa_cons (pv 8) pa_nil)))) pa_nil)) rfl)
      (pss_cons (ps_fld (pv 0) (pe_callTy (call_tupK K) (by rfl) f_tuple (by decide +kernel) (pa_cons (pe_callB (cr_sortedA K P w hr.units) (by rfl) f_sorted (by decide +kernel) (pa_cons (pe_sgM K P w hr.units (own := [("side", 9), ("one", 10), ("other", 11)]) sc_House_init.nd (pi_listK K (pv 3)) (blkOk_by (N := ["self", "letters", "table", "eats", "chew", "put", "most", "cut", "row", "side", "one", "other", "sign"]) (sc := defScope s_House_init) (by decide +kernel)) (fun _ _ _ _ _ => (pg_tupK K 3 (by rfl) (pgs_cons (pg_name (i := 9) sc_House_init.nd rfl (by first | exact Or.inl rfl | exact Or.inr rfl)) (pgs_cons (pg_name (i := 10) sc_House_init.nd rfl (by first | exact Or.inl rfl | exact Or.inr rfl)) (pgs_cons (pg_name (i := 11) sc_House_init.nd rfl (by first | exact Or.inl rfl | exact Or.inr rfl)) pgs_nil))))) (fun _ _ _ _ _ => pts_nil) (fun _ _ _ _ _ => (pe_tup (pa_cons (pv 9) (pa_cons (pv 10) (pa_cons (pv 11) pa_nil)))))) pa_nil)) pa_nil)) rfl)
      (pss_cons (ps_fld (pv 0) (pv 4) rfl)
      (pss_cons (ps_fld (pv 0) (pv 5) rfl)
      (pss_cons (ps_fld (pv 0) (pv 6) rfl)
      (pss_one (ps_fld (pv 0) (pv 7) rfl))))))))))))))), ?rd⟩)
  case hl =>
    obtain ⟨S, a, dx, tb, ev, R, L, tr, rfl, _⟩ := h
    rfl
  case rd =>
    obtain ⟨S, a, dx, tb, ev, R, L, tq, rfl, ok, ha, hT, hR, eR, hE, hL, eL, q⟩ := h
    obtain ⟨hc, n1, n2, n3, n4, n5, n6, n7⟩ := hC
    refine k_start (σ' := [some _, some _, some _, some _, some _, some _, some _, some _, none, none, none, none, none]) rfl ?_
    have l1 := ok.l1
    have l3 := ok.l3
    have t1 := ok.t1
    have t4 := ok.t4
    have m1 := ok.m1
    have m3 := ok.m3
    have c0 := ok.c0
    have c2 := ok.c2
    have p2 := ok.p2
    have k1 := ok.k1
    have km := ok.km
    have lls := len_tx S.ls
    have lpt := len_tx S.pt
    walk_at "w"
    refine ⟨S.ls, rfl, ok.rise, l1, l3, fun H1 s1 => ?_⟩
    walk_at "w"
    refine k_len_s (by omega) ?_
    walk_at "g"
    have hmo : S.mo = ((S.mo.toNat : Nat) : Int) := by omega
    refine ⟨S.ls.length, S.mo.toNat, by rw [lls, ← hmo]; rfl, l1, l3, by omega, by omega, fun H2 s2 => ?_⟩
    have mw := ok.mw
    walk_at "w"
    refine k_len_s (by omega) ?_
    rw [lls]
    walk_at "g"
    have lR : R.length = S.tb.length := by rw [← eR, List.length_map]
    refine ⟨tb, S.ls.length, R, tq, rfl, sm_l (s1.trans s2) hT, fun r hr0 => ?_, l3, by omega, by omega, fun H3 s3 => ?_⟩
    · obtain ⟨w1, w2⟩ := ok.tw r.2 (by rw [← eR]; exact List.mem_map.mpr ⟨r, hr0, rfl⟩)
      exact ⟨sm_b (s1.trans s2) (hR r hr0), w1, fun x hx => by rw [lR]; exact w2 x hx⟩
    have s03 := (s1.trans s2).trans s3
    have hT3 := sm_l s03 hT
    have lRV : (R.map fun q => V.ref q.1).length = S.tb.length := by rw [List.length_map, lR]
    walk_at "g"
    rw [lRV]
    have e7 := ok.e7
    have lL : L.length = S.tr.length := by rw [← eL, List.length_map]
    refine ⟨ev, S.tb.length, L, rfl, sm_l s03 hE, fun r hr0 => ?_, by omega, fun H4 s4 => ?_⟩
    · obtain ⟨s, x, y, e, b1, b2, b3, b4⟩ := ok.ev r.2 (by rw [← eL]; exact List.mem_map.mpr ⟨r, hr0, rfl⟩)
      exact ⟨sm_t s03 (hL r hr0), s, x, y, e, b1, b2, b3, b4⟩
    walk_at "w"
    refine k_len_s (by omega) ?_
    rw [lpt]
    walk_at "w"
    have szp : (tx S.pt).cps.size = S.pt.length := lpt
    refine k_nLcT (walk_str (z := tx S.pt)) (by omega) (fun _ _ => trivial) (fun i v Ha Hb Kp hi sa hy hKp => ?ht) (fun p Hp np sp ep => ?he)
    case ht =>
      obtain ⟨rfl, c, hc', rfl⟩ := hy
      walk_at "g"
      refine ⟨rfl, ?_⟩
      walk_at "g"
      have hm : c ∈ S.pt := List.mem_of_getElem? (show S.pt[i]? = some c by rw [← hc']; exact Array.getElem?_toList (xs := S.pt.toArray))
      rw [show decide (c ∈ (tx S.ls).cps.toList) = true from decide_eq_true (ok.pl c hm)]
      exact hKp _ (Same.refl _)
    case he =>
      walk_at "g"
      refine k_allT _ rfl ep ?_
      have s05 := (s03.trans s4).trans sp
      have ha5 := s05 _ _ ha
      walk_at "w"
      -- the rooms
      have hT5 := l_ins (o := .ins (He.ga K "House") dx (putF "signs" (.str (tx S.ls)) [])) ha5 (sm_l ((s4.trans sp)) hT3)
      have hR5 : ∀ r ∈ R, SqB K tq (upd Hp a (.ins (He.ga K "House") dx (putF "signs" (.str (tx S.ls)) []))) r.1 (r.2.map V.int) := fun r hr0 => b_ins ha5 (sm_b s05 (hR r hr0))
      have hE5 := l_ins (o := .ins (He.ga K "House") dx (putF "signs" (.str (tx S.ls)) [])) ha5 (sm_l s05 hE)
      have hL5 : ∀ r ∈ L, SqT K (upd Hp a (.ins (He.ga K "House") dx (putF "signs" (.str (tx S.ls)) []))) r.1 (r.2.map kV) := fun r hr0 => t_ins ha5 (sm_t s05 (hL r hr0))
      have hb5 : ∀ b u, b ≠ a → H b = some u → (upd Hp a (.ins (He.ga K "House") dx (putF "signs" (.str (tx S.ls)) []))) b = some u := fun b u hb e => by rw [upd_ne hb]; exact s05 b u e
      have haA : (upd Hp a (.ins (He.ga K "House") dx (putF "signs" (.str (tx S.ls)) []))) a = some (.ins (He.ga K "House") dx (putF "signs" (.str (tx S.ls)) [])) := upd_same
      generalize upd Hp a (.ins (He.ga K "House") dx (putF "signs" (.str (tx S.ls)) [])) = G at *
      walk_at "g"
      refine k_nLcD (walk_list (xs := R.map fun q => V.ref q.1)) (fun H' s2 => sm_l s2 hT5) (fun i ws H1 => ∃ R' : List RwI, ws = R'.map (fun q => V.ref q.1) ∧ R'.map (·.2) = (R.take i).map (·.2) ∧ ∀ q ∈ R', SqT K H1 q.1 (q.2.map V.int)) (fun i ws H1 H2 s h => ?hm) ⟨[], rfl, rfl, fun q hq => nomatch hq⟩ (fun i ws H1 hi h => ?hz) (fun i v p H1 H2 ws Kp Ks hi hp s1 e1 hws hy hKp hKs => ?ht2) (fun pr Hr ws nr sr er hws => ?he2)
      case hm =>
        obtain ⟨R', e1, e2, h3⟩ := h
        exact ⟨R', e1, e2, fun q hq => sm_t s (h3 q hq)⟩
      case hz =>
        obtain ⟨R', e1, e2, h3⟩ := h
        have := congrArg List.length e2
        rw [List.length_map, List.length_map, List.length_take] at this
        rw [e1, List.length_map]
        omega
      case ht2 =>
        obtain ⟨rfl, hv⟩ := hy
        obtain ⟨r, hr0, rfl⟩ := map_get hv
        obtain ⟨R', e2, e3, h3⟩ := hws
        have hr1 := sm_b s1 (hR5 r (List.mem_of_getElem? hr0))
        walk_at "g"
        refine ⟨rfl, ?_⟩
        walk_at "g"
        refine k_tup_sb hr1 (fun t H6 s6 e6 => hKp _ _ s6 ⟨R' ++ [(t, r.2)], by rw [e2, List.map_append]; rfl, by rw [List.map_append, e3, take_more hr0, List.map_append]; rfl, fun q hq => ?_⟩)
        rcases List.mem_append.mp hq with hq | hq
        · exact sm_t (del_mono s6) (h3 q hq)
        · cases List.mem_singleton.mp hq
          exact del_t (s6 _ _ e1) e6
      case he2 =>
        obtain ⟨R', e2, e3, h3⟩ := hws
        subst e2
        have lRm : (R.map fun q => V.ref q.1).length = R.length := List.length_map _
        rw [lRm, List.take_length, eR] at e3
        have haR := sr _ _ haA
        walk_at "g"
        refine k_tup_l (sq_l er) (fun tr H6 n6 s6 e6 => ?_)
        have ha6 := s6 _ _ haR
        walk_at "g"
        have sR6 := sr.trans s6
        have hE6 := l_ins (o := .ins (He.ga K "House") dx (putF "rooms" (.ref tr) (putF "signs" (.str (tx S.ls)) []))) ha6 (sm_l sR6 hE5)
        have hL6 : ∀ r ∈ L, SqT K (upd H6 a (.ins (He.ga K "House") dx (putF "rooms" (.ref tr) (putF "signs" (.str (tx S.ls)) [])))) r.1 (r.2.map kV) := fun r hr0 => t_ins ha6 (sm_t sR6 (hL5 r hr0))
        have hb6 : ∀ b u, b ≠ a → H b = some u → (upd H6 a (.ins (He.ga K "House") dx (putF "rooms" (.ref tr) (putF "signs" (.str (tx S.ls)) [])))) b = some u := fun b u hb e => by rw [upd_ne hb]; exact sR6 b u (hb5 b u hb e)
        have hA6 : (upd H6 a (.ins (He.ga K "House") dx (putF "rooms" (.ref tr) (putF "signs" (.str (tx S.ls)) [])))) a = some (.ins (He.ga K "House") dx (putF "rooms" (.ref tr) (putF "signs" (.str (tx S.ls)) []))) := upd_same
        have hr6 : SqT K (upd H6 a (.ins (He.ga K "House") dx (putF "rooms" (.ref tr) (putF "signs" (.str (tx S.ls)) [])))) tr (R'.map fun q => V.ref q.1) := t_ins ha6 (sq_t e6)
        have hq6 : ∀ q ∈ R', SqT K (upd H6 a (.ins (He.ga K "House") dx (putF "rooms" (.ref tr) (putF "signs" (.str (tx S.ls)) [])))) q.1 (q.2.map V.int) := fun q hq => t_ins ha6 (sm_t s6 (h3 q hq))
        generalize upd H6 a (.ins (He.ga K "House") dx (putF "rooms" (.ref tr) (putF "signs" (.str (tx S.ls)) []))) = G2 at *
        walk_at "g"
        refine k_nSgM (walk_list (xs := L.map fun q => V.ref q.1)) (fun H' s2 => sm_l s2 hE6) (by rw [List.length_map]; omega) (fun i ms => ms = (L.take i).map (·.2)) rfl (fun i v H1 H2 ms Kp Ks hi s1 hms hy hKp hKs => ?ht3) (fun ps Hs ms L' ns ss es tL iL lL' hms => ?he3)
        case ht3 =>
          obtain ⟨rfl, hv⟩ := hy
          obtain ⟨r, hr0, rfl⟩ := map_get hv
          have hm0 := List.mem_of_getElem? hr0
          obtain ⟨s, x, y, ek, b1, b2, b3, b4⟩ := ok.ev r.2 (by rw [← eL]; exact List.mem_map.mpr ⟨r, hm0, rfl⟩)
          have hrT : SqT K H2 r.1 [V.str (if s = true then Str.ofString "right" else Str.ofString "left"), .int x, .int y] := by
            have h := sm_t s1 (hL6 r hm0)
            rw [ek] at h
            exact h
          walk_at "g"
          refine ⟨rfl, ?_⟩
          walk_at "g"
          refine k_nTup (by walk_at "sz") (fun T H5 n5 s5 e5 => hKp (kEat s x y) T H5 s5 (sq_t e5) ?_)
          rw [hms, take_more hr0, List.map_append, ← ek]
          rfl
        case he3 =>
          have lLm : (L.map fun q => V.ref q.1).length = L.length := List.length_map _
          rw [lLm, List.take_length, eL] at hms
          subst hms
          have kn : ∀ q ∈ L', ∃ s x y, q.2 = kEat s x y := fun q hq => by
            obtain ⟨s, x, y, e, _⟩ := ok.ev q.2 ((iL q.2).mp (List.mem_map.mpr ⟨q, hq, rfl⟩))
            exact ⟨s, x, y, e⟩
          walk_at "g"
          refine k_sortM es tL (fun d hd d' hd' => ?_) (fun q hq => ?_) (fun L2 p2 H7 pm nd pw n7 s7 e7' => ?_)
          · obtain ⟨q, hq, rfl⟩ := List.mem_map.mp hd
            obtain ⟨q', hq', rfl⟩ := List.mem_map.mp hd'
            obtain ⟨s, x, y, e⟩ := kn q hq
            obtain ⟨s', x', y', e'⟩ := kn q' hq'
            unfold Gk.encM
            rw [e, e']
            rfl
          · obtain ⟨s, x, y, e⟩ := kn q hq
            rw [e]
            exact fun z => by cases z
          walk_at "g"
          refine k_tup_l (sq_l e7') (fun p8 H8 n8 s8 e8 => ?_)
          have s68 := (ss.trans s7).trans s8
          have ha8 := s68 _ _ hA6
          have hr8 := sm_t s68 hr6
          have hq8 : ∀ q ∈ R', SqT K H8 q.1 (q.2.map V.int) := fun q hq => sm_t s68 (hq6 q hq)
          have hL8 : ∀ q ∈ L2, SqT K H8 q.1 (q.2.map kV) := fun q hq => sm_t (s7.trans s8) (tL q (pm.mem_iff.mp hq))
          walk_at "g"
          simp only [upd_upd]
          refine q _ (fun b u hb e => by rw [upd_ne hb]; exact s68 b u (hb6 b u hb e)) ⟨dx, tr, p8, R', L2, upd_same, t_ins ha8 hr8, fun q hq => t_ins ha8 (hq8 q hq), e3, t_ins ha8 (sq_t e8), fun q hq => t_ins ha8 (hL8 q hq), (pm.map _).nodup_iff.mpr nd, fun k => ?_, pw⟩
          rw [(pm.map (·.2)).mem_iff]
          exact iL k
/-! ### what a house tells -/
def spHsM (K : PySem.W.Frag) (g : HsD → V) : Sp := fun vs H Q _ => ∃ (a : Addr) (S : HsD), vs = [.ref a] ∧ HsAt K H a S ∧ Q (g S) H
theorem ok_House_letters (F : FnM K "letters" "House.letters" s_House_letters (He.ma K (He.ga K "House") "letters") fd) (hC : HsC K) (me : Meth K (He.ga K "House") "letters" (He.ma K (He.ga K "House") "letters")) : CalleeM P w K mg base CX0 "House" "letters" 1 (spHsM K fun S => .str (tx S.ls)) := by
  refine ⟨hC.c, me, fd, ["self"], F.ok sc_House_letters (fun vs H Q E h => ?hl) (fun cdv A outer s H vs Q E hr h => ⟨_, PSs.nox (pss_one (ps_ret (pe_fld (pv 0) rfl))), ?rd⟩), F.bindsN fun _ _ _ _ _ _ us hl => match us, hl with | [_], _ => rfl⟩
  case hl =>
    obtain ⟨a, S, rfl, _⟩ := h
    rfl
  case rd =>
    obtain ⟨a, S, rfl, ⟨dx, r, t, R, L, h1, h2⟩, q⟩ := h
    obtain ⟨hc, n1, n2, n3, n4, n5, n6, n7⟩ := hC
    refine k_start (σ' := [some _]) rfl ?_
    walk_at "g"
    exact q
theorem ok_House_most (F : FnM K "most" "House.most" s_House_most (He.ma K (He.ga K "House") "most") fd) (hC : HsC K) (me : Meth K (He.ga K "House") "most" (He.ma K (He.ga K "House") "most")) : CalleeM P w K mg base CX0 "House" "most" 1 (spHsM K fun S => .int S.mo) := by
  refine ⟨hC.c, me, fd, ["self"], F.ok sc_House_most (fun vs H Q E h => ?hl) (fun cdv A outer s H vs Q E hr h => ⟨_, PSs.nox (pss_one (ps_ret (pe_fld (pv 0) rfl))), ?rd⟩), F.bindsN fun _ _ _ _ _ _ us hl => match us, hl with | [_], _ => rfl⟩
  case hl =>
    obtain ⟨a, S, rfl, _⟩ := h
    rfl
  case rd =>
    obtain ⟨a, S, rfl, ⟨dx, r, t, R, L, h1, h2⟩, q⟩ := h
    obtain ⟨hc, n1, n2, n3, n4, n5, n6, n7⟩ := hC
    refine k_start (σ' := [some _]) rfl ?_
    walk_at "g"
    exact q
/-! ### tastes -/
def pos (c : Nat) : List Nat → Nat
  | [] => 0
  | x :: r => if x = c then 0 else pos c r + 1
theorem pos_ok {c : Nat} : ∀ {l : List Nat}, c ∈ l → l[pos c l]? = some c ∧ ∀ j, j < pos c l → l[j]? ≠ some c
  | x :: r, h => by
    unfold pos
    by_cases e : x = c
    · rw [if_pos e]
      exact ⟨by rw [e]; rfl, fun j hj => absurd hj (Nat.not_lt_zero j)⟩
    · rw [if_neg e]
      obtain ⟨h1, h2⟩ := pos_ok (c := c) (l := r) ((List.mem_cons.mp h).resolve_left fun z => e z.symm)
      refine ⟨h1, fun j hj => ?_⟩
      cases j with
      | zero => exact fun z => e (Option.some.inj z)
      | succ j => exact h2 j (by omega)
def stepT (S : HsD) (here : Int) (c : Nat) : Int := (S.tb.getD here.toNat []).getD (pos c S.ls) 0
def tasteF (S : HsD) (cs : List Nat) : Int := cs.foldl (stepT S) 0
theorem stepT_ok {S : HsD} (ok : HsOk S) {here : Int} {c : Nat} (h0 : 0 ≤ here) (h1 : here < S.tb.length) (hc : c ∈ S.ls) :
    ∃ r, S.tb[here.toNat]? = some r ∧ r[pos c S.ls]? = some (stepT S here c) ∧ 0 ≤ stepT S here c ∧ stepT S here c < S.tb.length := by
  have hk : here.toNat < S.tb.length := by omega
  have e : S.tb[here.toNat]? = some S.tb[here.toNat] := List.getElem?_eq_getElem hk
  obtain ⟨w1, w2⟩ := ok.tw S.tb[here.toNat] (List.getElem_mem hk)
  have hp : pos c S.ls < S.tb[here.toNat].length := by
    rw [w1]
    exact (List.getElem?_eq_some_iff.mp (pos_ok hc).1).1
  have g : S.tb.getD here.toNat [] = S.tb[here.toNat] := by
    rw [List.getD_eq_getElem?_getD, e]
    rfl
  have e2 : stepT S here c = S.tb[here.toNat][pos c S.ls] := by
    unfold stepT
    rw [g, List.getD_eq_getElem?_getD, List.getElem?_eq_getElem hp]
    rfl
  refine ⟨_, e, by rw [e2, List.getElem?_eq_getElem hp], ?_⟩
  rw [e2]
  exact w2 _ (List.getElem_mem hp)
theorem taste_in {S : HsD} (ok : HsOk S) : ∀ (cs : List Nat) (here : Int), 0 ≤ here → here < S.tb.length → (∀ c ∈ cs, c ∈ S.ls) → 0 ≤ cs.foldl (stepT S) here ∧ cs.foldl (stepT S) here < S.tb.length
  | [], _, h0, h1, _ => ⟨h0, h1⟩
  | c :: cs, here, h0, h1, hc => by
    obtain ⟨r, _, _, a, b⟩ := stepT_ok ok h0 h1 (hc c (List.mem_cons_self ..))
    exact taste_in ok cs _ a b fun d hd => hc d (List.mem_cons_of_mem _ hd)
theorem at_pos {α : Type} {xs : List α} {z : Int} {v : α} (h0 : 0 ≤ z) (h : xs[z.toNat]? = some v) : atI xs z = some v := at_n (j := z.toNat) (by omega) h
def spTasted (K : PySem.W.Frag) : Sp := fun vs H Q _ => ∃ (a : Addr) (S : HsD) (cs : List Nat), vs = [.ref a, .str (tx cs)] ∧ HsAt K H a S ∧ HsOk S ∧ (∀ c ∈ cs, c ∈ S.ls) ∧ Q (.int (tasteF S cs)) H
theorem ok_House_tasted (F : FnM K "tasted" "House.tasted" s_House_tasted (He.ma K (He.ga K "House") "tasted") fd) (hC : HsC K) (me : Meth K (He.ga K "House") "tasted" (He.ma K (He.ga K "House") "tasted")) : CalleeM P w K mg base CX0 "House" "tasted" 1 (spTasted K) := by
  refine ⟨hC.c, me, fd, ["self", "word"], F.ok sc_House_tasted (fun vs H Q E h => ?hl) (fun cdv A outer s H vs Q E hr h => ⟨_, PSs.nox (pss_cons (ps_set (i := 2) sc_House_tasted.nd rfl (by first | exact Or.inl rfl | exact Or.inr rfl) pe_int)
      (pss_cons (ps_for PassesOwn.never rfl (pi_str (pv 1)) (pg_name (i := 3) sc_House_tasted.nd rfl (by first | exact Or.inl rfl | exact Or.inr rfl)) (pss_one (ps_set (i := 2) sc_House_tasted.nd rfl (by first | exact Or.inl rfl | exact Or.inr rfl) (pe_ix (ix_k K) (pe_ix (ix_k K) (pe_fld (pv 0) rfl) (pv 2) (fun _ _ => rfl)) (pe_bmK K PySem.F.plainAttrs_str PySem.F.slot_str_index PySem.F.type_str_index mt_sindex (pe_fld (pv 0) rfl) (pa_cons (pv 3) pa_nil)) (fun _ _ => rfl)))))
      (pss_one (ps_ret (pv 2))))), ?rd⟩), F.bindsN fun _ _ _ _ _ _ us hl => match us, hl with | [_, _], _ => rfl⟩
  case hl =>
    obtain ⟨a, S, cs, rfl, _⟩ := h
    rfl
  case rd =>
    obtain ⟨a, S, cs, rfl, ⟨dx, r, t, R, L, h1, h2, h3, h4, _⟩, ok, hcs, q⟩ := h
    obtain ⟨hc, n1, n2, n3, n4, n5, n6, n7⟩ := hC
    refine k_start (σ' := [some _, some _, none, none]) rfl ?_
    have t1 := ok.t1
    walk_at "g"
    refine k_nFor (walk_str (z := tx cs)) (fun i σ H' => (∃ y3, σ = [some (.ref a), some (.str (tx cs)), some (.int ((cs.take i).foldl (stepT S) 0)), y3]) ∧ H' = H) ⟨⟨_, rfl⟩, rfl⟩ (fun _ _ _ _ _ => trivial) (fun i x σ Ha Hb hi h hy => ?ht) (fun σ H' h => ?he)
    case he =>
      obtain ⟨⟨y3, rfl⟩, rfl⟩ := h
      have e : (tx cs).cps.size = cs.length := len_tx cs
      rw [e, List.take_length]
      walk_at "g"
      exact q
    case ht =>
      obtain ⟨⟨y3, rfl⟩, rfl⟩ := h
      obtain ⟨rfl, c, hc', rfl⟩ := hy
      have hci : cs[i]? = some c := by rw [← hc']; exact Array.getElem?_toList (xs := cs.toArray)
      have hcl := hcs c (List.mem_of_getElem? hci)
      obtain ⟨b0, b1⟩ := taste_in ok (cs.take i) 0 (Int.le_refl _) (by omega) fun d hd => hcs d (List.mem_of_mem_take hd)
      obtain ⟨row, er, es, _, _⟩ := stepT_ok ok b0 b1 hcl
      rw [take_more hci, List.foldl_append]
      generalize (cs.take i).foldl (stepT S) 0 = here at *
      have er2 := er
      rw [← h4, List.getElem?_map] at er2
      obtain ⟨q0, hq0, rfl⟩ := Option.map_eq_some_iff.mp er2
      walk_at "g"
      refine k_ix_t h2 (v := .ref q0.1) (at_pos b0 (by rw [List.getElem?_map, hq0]; rfl)) ?_
      walk_at "g"
      obtain ⟨rest, eo⟩ := occ_one (pos_ok hcl).1 (pos_ok hcl).2
      refine ⟨tx S.ls, ⟨#[c]⟩, pos c S.ls, rest, rfl, rfl, eo, ?_⟩
      refine k_ix_t (h3 q0 (List.mem_of_getElem? hq0)) (v := .int (stepT S here c)) (at_n (j := pos c S.ls) rfl (by rw [List.getElem?_map, es]; rfl)) ?_
      walk_at "g"
      exact ⟨⟨_, rfl⟩, rfl⟩
theorem ok_House_chew (F : FnM K "chew" "House.chew" s_House_chew (He.ma K (He.ga K "House") "chew") fd) (hC : HsC K) (me : Meth K (He.ga K "House") "chew" (He.ma K (He.ga K "House") "chew")) : CalleeM P w K mg base CX0 "House" "chew" 1 (spHsM K fun S => .int S.ch) := by
  refine ⟨hC.c, me, fd, ["self"], F.ok sc_House_chew (fun vs H Q E h => ?hl) (fun cdv A outer s H vs Q E hr h => ⟨_, PSs.nox (pss_one (ps_ret (pe_fld (pv 0) rfl))), ?rd⟩), F.bindsN fun _ _ _ _ _ _ us hl => match us, hl with | [_], _ => rfl⟩
  case hl =>
    obtain ⟨a, S, rfl, _⟩ := h
    rfl
  case rd =>
    obtain ⟨a, S, rfl, ⟨dx, r, t, R, L, h1, h2⟩, q⟩ := h
    obtain ⟨hc, n1, n2, n3, n4, n5, n6, n7⟩ := hC
    refine k_start (σ' := [some _]) rfl ?_
    walk_at "g"
    exact q
theorem ok_House_put (F : FnM K "put" "House.put" s_House_put (He.ma K (He.ga K "House") "put") fd) (hC : HsC K) (me : Meth K (He.ga K "House") "put" (He.ma K (He.ga K "House") "put")) : CalleeM P w K mg base CX0 "House" "put" 1 (spHsM K fun S => .str (tx S.pt)) := by
  refine ⟨hC.c, me, fd, ["self"], F.ok sc_House_put (fun vs H Q E h => ?hl) (fun cdv A outer s H vs Q E hr h => ⟨_, PSs.nox (pss_one (ps_ret (pe_fld (pv 0) rfl))), ?rd⟩), F.bindsN fun _ _ _ _ _ _ us hl => match us, hl with | [_], _ => rfl⟩
  case hl =>
    obtain ⟨a, S, rfl, _⟩ := h
    rfl
  case rd =>
    obtain ⟨a, S, rfl, ⟨dx, r, t, R, L, h1, h2⟩, q⟩ := h
    obtain ⟨hc, n1, n2, n3, n4, n5, n6, n7⟩ := hC
    refine k_start (σ' := [some _]) rfl ?_
    walk_at "g"
    exact q
theorem ok_House_cut (F : FnM K "cut" "House.cut" s_House_cut (He.ma K (He.ga K "House") "cut") fd) (hC : HsC K) (me : Meth K (He.ga K "House") "cut" (He.ma K (He.ga K "House") "cut")) : CalleeM P w K mg base CX0 "House" "cut" 1 (spHsM K fun S => .int S.cu) := by
  refine ⟨hC.c, me, fd, ["self"], F.ok sc_House_cut (fun vs H Q E h => ?hl) (fun cdv A outer s H vs Q E hr h => ⟨_, PSs.nox (pss_one (ps_ret (pe_fld (pv 0) rfl))), ?rd⟩), F.bindsN fun _ _ _ _ _ _ us hl => match us, hl with | [_], _ => rfl⟩
  case hl =>
    obtain ⟨a, S, rfl, _⟩ := h
    rfl
  case rd =>
    obtain ⟨a, S, rfl, ⟨dx, r, t, R, L, h1, h2⟩, q⟩ := h
    obtain ⟨hc, n1, n2, n3, n4, n5, n6, n7⟩ := hC
    refine k_start (σ' := [some _]) rfl ?_
    walk_at "g"
    exact q
/-! ### steps over a house -/
section
variable {H : Hp} {Q : VK} {a : Addr} {S : HsD} {m : Str} {A : Prop} {E : XK}
def hFs (S : HsD) (r t : Addr) : List (Str × V) := [("signs", .str (tx S.ls)), ("rooms", .ref r), ("triples", .ref t), ("chewed", .int S.ch), ("putting", .str (tx S.pt)), ("span", .int S.mo), ("cutting", .int S.cu)]
theorem k_hsm {g : HsD → V} (hs : HsAt K H a S) (h : Q (g S) H) : spHsM K g (.ref a :: ([] ++ [])) H Q E := ⟨a, S, rfl, hs, h⟩
theorem k_nMethH (hs : HsAt K H a S) (hl : ∀ r t, (hFs S r t).lookup m = none) (h : A) : nMeth (He.ga K "House") m (.ref a) H A := by
  obtain ⟨dx, r, t, R, L, h1, _⟩ := hs
  exact ⟨a, dx, hFs S r t, rfl, h1, hl r t, h⟩
end
end
end Lw
set_option autoImplicit true
set_option pp.maxSteps 1200
set_option Elab.async false
set_option linter.all false
set_option maxRecDepth 100000
set_option maxHeartbeats 1000000
namespace Lw
open PySem PySem.Spec PyProof.Rows L2 Gk

local macro_rules | `(tactic| walk_at "hp") => `(tactic| first | assumption | exact upd_same | (refine' (upd_ne ?n).trans ?h; (case n => assumption); (case h => walk_at "hp")) | (refine' sm_get ?s ?h; (case s => assumption); (case h => walk_at "hp")))
local macro_rules | `(tactic| walk_at "sq") => `(tactic| first | assumption | (refine' sq_l ?h; (case h => walk_at "hp")) | (refine' sm_l ?s ?h; (case s => assumption); (case h => walk_at "sq")))
local macro_rules | `(tactic| walk_at "st") => `(tactic| first | assumption | (refine' sq_t ?h; (case h => walk_at "hp")) | (refine' sm_t ?s ?h; (case s => assumption); (case h => walk_at "st")))
local macro_rules | `(tactic| walk_at "bg") => `(tactic| first | assumption | (refine' BagOk.sm ?s ?h; (case s => assumption); (case h => walk_at "bg")))
local macro_rules | `(tactic| walk_at "sm") => `(tactic| first | assumption | exact Same.refl _ | (refine' Same.trans ?h ?s; (case s => assumption); (case h => walk_at "sm")))
local macro_rules | `(tactic| walk_at "hs") => `(tactic| first | assumption | (refine' HsAt.sm ?s ?h; (case s => assumption); (case h => walk_at "hs")))
local macro_rules | `(tactic| walk_at "ms") => `(tactic| first | assumption | (refine' MAt.sm ?s ?h; (case s => assumption); (case h => walk_at "ms")))
local macro_rules | `(tactic| walk_at "md") => `(tactic| first | assumption | (refine' MDk.sm ?s ?h; (case s => assumption); (case h => walk_at "md")))
local macro_rules | `(tactic| walk_at "dp") => `(tactic| first | assumption | (refine' dp_sm ?s ?h; (case s => assumption); (case h => walk_at "dp")))
local macro_rules | `(tactic| walk_at "sz") => `(tactic| first | decide | assumption | omega | (simp only [List.length_cons, List.length_nil, List.length_map, List.length_append]; omega))
local macro_rules | `(tactic| walk_at "g1") => `(tactic| first
  | with_reducible refine k_seq ?_
  | with_reducible refine k_itB ?_
  | with_reducible refine k_next ?_
  | with_reducible refine k_asg ?_
  | with_reducible refine k_name ?_
  | with_reducible refine k_ret ?_
  | with_reducible refine k_retN ?_
  | with_reducible refine k_drop ?_
  | with_reducible refine k_ifs ?_
  | with_reducible refine k_brk ?_
  | with_reducible refine k_cont ?_
  | with_reducible refine k_ipI ?_
  | with_reducible refine k_test ?_
  | with_reducible refine k_tB ?_
  | with_reducible refine k_bl ?_
  | with_reducible refine k_not ?_
  | with_reducible refine k_and ?_
  | with_reducible refine k_or ?_
  | with_reducible refine k_yes ?_
  | with_reducible refine k_true ?_
  | with_reducible refine k_false ?_
  | with_reducible refine k_nt ?_
  | with_reducible refine k_c ?_
  | with_reducible refine k_op ?_
  | with_reducible refine k_un ?_
  | with_reducible refine k_if ?_
  | with_reducible refine k_chain ?_
  | with_reducible refine k_nil ?_
  | with_reducible refine k_cons ?_
  | with_reducible refine k_cb ?_
  | with_reducible refine k_call ?_
  | with_reducible refine k_callS ?_
  | with_reducible refine k_andV ?_
  | with_reducible refine k_orV ?_
  | with_reducible refine k_notV ?_
  | with_reducible refine k_lst ?_
  | with_reducible refine k_tup ?_
  | with_reducible refine k_nopart ?_
  | with_reducible refine k_part ?_
  | with_reducible refine k_nInt ?_
  | with_reducible refine k_sl ?_
  | with_reducible refine k_bm ?_
  | with_reducible refine k_bm0 ?_
  | with_reducible refine k_nTyS ?_
  | with_reducible refine k_m1 ?_
  | with_reducible refine k_m0 ?_
  | with_reducible refine k_nStr ?_
  | with_reducible refine k_I0 ?_
  | with_reducible refine k_U ?_
  | with_reducible refine k_add_i ?_
  | with_reducible refine k_eq_i ?_
  | with_reducible refine k_eq_s ?_
  | with_reducible refine k_eq_b ?_
  | with_reducible refine k_ne_i ?_
  | with_reducible refine k_ne_s ?_
  | with_reducible refine k_ne_b ?_
  | with_reducible refine k_le_i ?_
  | with_reducible refine k_le_s ?_
  | with_reducible refine k_gnil ?_
  | with_reducible refine k_gcons ?_
  | with_reducible refine k_gsub ?_
  | with_reducible refine k_for ?_
  | with_reducible refine k_lc ?_
  | with_reducible refine k_rng1 ?_
  | with_reducible refine k_rng2 ?_
  | with_reducible refine k_itl ?_
  | with_reducible refine k_itt ?_
  | with_reducible refine k_its ?_
  | with_reducible refine k_ite ?_
  | with_reducible refine k_iteB ?_
  | with_reducible refine k_lrg2 ?_
  | with_reducible refine k_itz ?_
  | with_reducible refine k_nIts ?_
  | with_reducible refine k_inS ?_
  | with_reducible refine k_niS ?_
  | with_reducible refine k_mk ?_
  | with_reducible refine k_meth ?_
  | with_reducible refine k_fld ?_
  | with_reducible refine k_sfld ?_
  | with_reducible refine k_dg ?_
  | with_reducible refine k_dp ?_
  | with_reducible refine k_pr ?_
  | with_reducible refine k_pr0 ?_
  | with_reducible refine k_sg ?_
  | with_reducible refine k_lc2 ?_
  | with_reducible refine k_callN ?_
  | with_reducible refine k_callNS ?_
  | with_reducible refine k_par ?_
  | with_reducible refine k_nPar ?_
  | with_reducible refine k_isNn ?_
  | with_reducible refine k_isNr ?_
  | with_reducible refine k_ntNn ?_
  | with_reducible refine k_ntNr ?_
  | with_reducible refine k_min2 ?_
  | with_reducible refine k_max2 ?_
  | with_reducible refine k_intB ?_
  | with_reducible refine k_intI ?_
  | with_reducible refine k_isBl ?_
  | with_reducible refine k_ntBl ?_
  | ((with_reducible refine' k_var ?kv ?_); (case kv => exact rfl))
  | ((with_reducible refine' k_aug ?kv ?_); (case kv => exact rfl))
  | ((with_reducible refine' k_ix_l ?ks ?ki ?_); (case ks => walk_at "sq"); (case ki => exact rfl))
  | ((with_reducible refine' k_ix_t ?ks ?ki ?_); (case ks => walk_at "st"); (case ki => exact rfl))
  | ((with_reducible refine' k_len_l ?ks ?_); (case ks => walk_at "sq"))
  | ((with_reducible refine' k_len_t ?ks ?_); (case ks => walk_at "st"))
  | ((with_reducible refine' k_setL ?ks ?ki ?_); (case ks => walk_at "hp"); (case ki => exact rfl))
  | ((with_reducible refine' k_nTyL ?ks ?_); (case ks => walk_at "sq"))
  | ((with_reducible refine' k_nItl ?ks ?_); (case ks => walk_at "sq"))
  | ((with_reducible refine' k_nItt ?ks ?_); (case ks => walk_at "st"))
  | ((with_reducible refine' k_nIte ?ks ?_); (case ks => walk_at "sq"))
  | ((with_reducible refine' k_mul ?km ?_); (case km => first | exact Or.inr ⟨by decide, by decide⟩ | exact Or.inl ⟨by decide, by decide⟩))
  | ((with_reducible refine' k_I ?km ?_); (case km => first | assumption | decide | exact ⟨by decide, by decide +kernel⟩ | exact ⟨by decide, by decide, by decide⟩))
  | ((with_reducible refine' k_nMeth ?kp ?kl ?_); (case kp => walk_at "hp"); (case kl => exact rfl))
  | ((with_reducible refine' k_nFld ?kp ?kc ?kn ?kl ?_); (case kp => walk_at "hp"); (case kc => assumption); (case kn => assumption); (case kl => exact rfl))
  | ((with_reducible refine' k_nSFld ?kp ?kc ?kn ?kl ?_); (case kp => walk_at "hp"); (case kc => assumption); (case kn => assumption); (case kl => exact of_decide_eq_true rfl))
  | ((with_reducible refine' k_nDg ?kp ?kl ?_); (case kp => walk_at "hp"); (case kl => exact rfl))
  | ((with_reducible refine' k_nRng1 ?k1 ?k2 ?_); (case k1 => omega); (case k2 => omega))
  | ((with_reducible refine' k_nKw ?k1 ?k2 ?_); (case k1 => exact rfl); (case k2 => exact rfl))
  | ((with_reducible refine' k_hsm ?kh ?_); (case kh => walk_at "hs"))
  | ((with_reducible refine' k_nMethH ?kh ?kl ?_); (case kh => walk_at "hs"); (case kl => exact fun _ _ => rfl))
  | ((with_reducible refine' k_mLet ?kh ?_); (case kh => walk_at "ms"))
  | ((with_reducible refine' k_mChew ?kh ?_); (case kh => walk_at "ms"))
  | ((with_reducible refine' k_mPut ?kh ?_); (case kh => walk_at "ms"))
  | ((with_reducible refine' k_mMost ?kh ?_); (case kh => walk_at "ms"))
  | ((with_reducible refine' k_mCut ?kh ?_); (case kh => walk_at "ms"))
  | ((with_reducible refine' k_mTab ?kh ?_); (case kh => walk_at "md"))
  | ((with_reducible refine' k_mEats ?kh ?_); (case kh => walk_at "md"))
  | ((with_reducible refine' k_gtup ?ks ?kl ?_); (case ks => walk_at "st"); (case kl => exact rfl)))
local macro_rules | `(tactic| walk_at "g") => `(tactic| repeat (walk_at "g1"))
local macro_rules | `(tactic| walk_at "w1") => `(tactic| first
  | walk_at "g1"
  | ((with_reducible refine' k_decT ?kp ?_); (case kp => omega))
  | ((with_reducible refine' k_decF ?kp ?_); (case kp => omega))
  | ((with_reducible refine' k_decNT ?kp ?_); (case kp => omega))
  | ((with_reducible refine' k_decNF ?kp ?_); (case kp => omega)))
local macro_rules | `(tactic| walk_at "w") => `(tactic| repeat (walk_at "w1"))


section
variable {P : Program} {w : World} {K : PySem.W.Frag} {mg : Str → Option Value} {base : Heap} {f : Addr} {fd : FuncData}
/-! ### words of a house -/
def isW (S : HsD) (z : Str) : Bool := decide (1 ≤ z.length) && (decide ((z.length : Int) ≤ S.mo) && (TL.tl z).all fun c => decide (c ∈ S.ls))
def spIsWord (K : PySem.W.Frag) : Sp := fun vs H Q _ => ∃ (a : Addr) (S : HsD) (z : Str), vs = [.ref a, .str z] ∧ HsAt K H a S ∧ z.length ≤ 1000 ∧ ∀ H', Same H H' → Q (.bl (isW S z)) H'
theorem ok_is_word (F : FnP K "is_word" s_is_word f fd) (hm : mg "is_word" = some (.ref f)) (f_len : mg "len" = none) (f_all : mg "all" = none) (c_House_letters : CalleeM P w K mg base CX0 "House" "letters" 1 (spHsM K fun S => .str (tx S.ls))) (c_House_most : CalleeM P w K mg base CX0 "House" "most" 1 (spHsM K fun S => .int S.mo)) : Callee P w K mg base CX0 "is_word" 2 [] (spIsWord K) := by
  refine ⟨f, fd, _, [], F.ok sc_is_word (fun vs H Q E h => ?hl) (fun cdv A outer s H vs Q E hr h => ⟨_, PSs.nox (pss_one (ps_ret (pe_and (pe_chain op_leU op_leU pe_int (pe_callB (call_lenK K) (by rfl) f_len PySem.boot_len (pa_cons (pv 1) pa_nil)) (pe_mt0 c_House_most hr (pv 0) pass0)) (pe_one (pe_callB (cr_allK K) (by rfl) f_all (by decide +kernel) (pa_cons (pe_lc (own := [("sign", 2)]) rfl sc_is_word.nd (pi_str (pv 1)) (blkOk_by (N := ["house", "text", "sign"]) (sc := defScope s_is_word) (by decide +kernel)) (fun _ _ _ _ _ => (pg_name (i := 2) sc_is_word.nd rfl (by first | exact Or.inl rfl | exact Or.inr rfl))) (fun _ _ _ _ _ => pts_nil) (fun _ _ _ _ _ => (pe_cmpR op_inS (pv 2) (pe_mt0 c_House_letters hr (pv 0) pass0) (by rfl)))) pa_nil)))))), ?rd⟩), hm, F.kp, F.bindsN fun _ _ _ _ _ _ us hl => match us, hl with | [_, _], _ => rfl, .nil⟩
  case hl =>
    obtain ⟨a, S, z, rfl, _⟩ := h
    rfl
  case rd =>
    obtain ⟨a, S, z, rfl, hs, lz, q⟩ := h
    have hs0 := hs
    obtain ⟨dx, r, t, R, L, h1, _⟩ := hs0
    refine k_start (σ' := [some _, some _, none]) rfl ?_
    unfold isW at q
    walk_at "g"
    refine k_len_s (by omega) ?_
    walk_at "g"
    refine k_dec (fun d1 => ?_) (fun d1 => ?_)
    · walk_at "g"
      rw [decide_eq_true (show 1 ≤ z.length by omega), Bool.true_and] at q
      refine k_dec (fun d2 => ?_) (fun d2 => ?_)
      · walk_at "g"
        rw [decide_eq_true d2, Bool.true_and] at q
        have sz : z.cps.size = z.length := rfl
        refine k_nLc (walk_str (z := z)) (fun _ _ => trivial) (fun i ws => ws = ((TL.tl z).take i).map fun c => V.bl (decide (c ∈ S.ls))) rfl (fun i vs hi hw => ?hz2) (fun i v Hc Hd vs Kp Ks hi sa2 hvs hy2 hKp hKs => ?ht2) (fun p Hp vs np sp ep hvs => ?he2)
        case hz2 =>
          rw [hw, List.length_map, List.length_take]
          omega
        case ht2 =>
          obtain ⟨rfl, c, hc, rfl⟩ := hy2
          have hsD := hs.sm sa2
          obtain ⟨dx2, r2, t2, R2, L2, h12, _⟩ := id hsD
          walk_at "g"
          refine ⟨rfl, ?_⟩
          walk_at "g"
          have hc' : (TL.tl z)[i]? = some c := by
            rw [← hc]
            exact Array.getElem?_toList
          exact hKp _ _ (Same.refl _) (by rw [hvs, take_more hc', List.map_append]; rfl)
        case he2 =>
          walk_at "g"
          have eu : (TL.tl z).take z.cps.size = TL.tl z := List.take_of_length_le (by simp)
          rw [hvs, eu] at ep
          refine k_all (bs := (TL.tl z).map fun c => decide (c ∈ S.ls)) (sq_l (by rw [ep, List.map_map]; rfl)) ?_
          rw [show ((TL.tl z).map fun c => decide (c ∈ S.ls)).all id = (TL.tl z).all fun c => decide (c ∈ S.ls) by rw [List.all_map]; rfl]
          walk_at "g"
          exact q _ sp
      · walk_at "g"
        rw [decide_eq_false d2, Bool.false_and] at q
        exact q _ (Same.refl _)
    · walk_at "g"
      rw [decide_eq_false (show ¬ 1 ≤ z.length by omega), Bool.false_and] at q
      exact q _ (Same.refl _)
/-! ### all words -/
def lv (ls : List Nat) : Nat → List (List Nat)
  | 0 => [[]]
  | n + 1 => (lv ls n).flatMap fun u => ls.map fun c => u ++ [c]
def wordsF (ls : List Nat) (m : Nat) : List (List Nat) := (List.range m).flatMap fun i => lv ls (i + 1)
theorem lv_len (ls : List Nat) : ∀ n, (lv ls n).length = ls.length ^ n
  | 0 => rfl
  | n + 1 => by
    show ((lv ls n).flatMap _).length = _
    rw [List.length_flatMap, show ((lv ls n).map fun u => (ls.map fun c => u ++ [c]).length) = (lv ls n).map fun _ => ls.length by simp, List.map_const', List.sum_replicate_nat, lv_len ls n, Nat.pow_succ]
theorem lv_ok (ls : List Nat) : ∀ n, ∀ u ∈ lv ls n, u.length = n ∧ ∀ c ∈ u, c ∈ ls
  | 0, u, h => by
    cases List.mem_singleton.mp h
    exact ⟨rfl, fun c hc => nomatch hc⟩
  | n + 1, u, h => by
    obtain ⟨v, hv, h2⟩ := List.mem_flatMap.mp h
    obtain ⟨c, hc, rfl⟩ := List.mem_map.mp h2
    obtain ⟨l1, l2⟩ := lv_ok ls n v hv
    refine ⟨by rw [List.length_append, l1]; rfl, fun d hd => ?_⟩
    rcases List.mem_append.mp hd with hd | hd
    · exact l2 d hd
    · rw [List.mem_singleton.mp hd]
      exact hc
def tS (us : List (List Nat)) : List V := us.map fun u => V.str (tx u)
theorem tx_one (u : List Nat) (c : Nat) : tx u ++ (⟨#[c]⟩ : Str) = tx (u ++ [c]) := by
  show (⟨u.toArray ++ #[c]⟩ : Str) = ⟨(u ++ [c]).toArray⟩
  congr 1
  simp
def spWords (K : PySem.W.Frag) : Sp := fun vs H Q _ => ∃ (a : Addr) (S : HsD), vs = [.ref a] ∧ HsAt K H a S ∧ HsOk S ∧ ∀ p H', H p = none → Same H H' → H' p = some (.lst (tS (wordsF S.ls S.mo.toNat))) → Q (.ref p) H'
theorem rise_nodup {cs : List Nat} (h : Rise cs) : cs.Nodup := h.1.imp fun h => Nat.ne_of_lt h
theorem wcount_le {n m : Nat} (hm : m ≤ 3) (hn : 1 ≤ n) (h : wcount n m ≤ 14) : ∀ i, i < m → n ^ (i + 1) ≤ 14 := by
  intro i hi
  have e : ∀ k : Nat, ((n : Int) ^ k) = ((n ^ k : Nat) : Int) := fun k => by rw [Int.natCast_pow]
  have p1 : 0 ≤ ((n : Int) ^ 1) := by rw [e]; omega
  have p2 : 0 ≤ ((n : Int) ^ 2) := by rw [e]; omega
  have p3 : 0 ≤ ((n : Int) ^ 3) := by rw [e]; omega
  have e1 := e 1
  have e2 := e 2
  have e3 := e 3
  unfold wcount at h
  have : m = 1 ∨ m = 2 ∨ m = 3 := by omega
  rcases this with rfl | rfl | rfl
  · have : i = 0 := by omega
    subst this
    simp only [List.take, List.sum_cons, List.sum_nil] at h
    show n ^ 1 ≤ 14
    omega
  · have : i = 0 ∨ i = 1 := by omega
    simp only [List.take, List.sum_cons, List.sum_nil] at h
    rcases this with rfl | rfl
    · show n ^ 1 ≤ 14
      omega
    · show n ^ 2 ≤ 14
      omega
  · have : i = 0 ∨ i = 1 ∨ i = 2 := by omega
    simp only [List.take, List.sum_cons, List.sum_nil] at h
    rcases this with rfl | rfl | rfl
    · show n ^ 1 ≤ 14
      omega
    · show n ^ 2 ≤ 14
      omega
    · show n ^ 3 ≤ 14
      omega
theorem lv_small {S : HsD} (ok : HsOk S) {i : Nat} (hi : i ≤ S.mo.toNat) : (lv S.ls i).length ≤ 14 := by
  rw [lv_len]
  cases i with
  | zero => show 1 ≤ 14; decide
  | succ i => exact wcount_le (by have := ok.m3; omega) ok.l1 ok.mw i (by omega)
theorem words_small {S : HsD} (ok : HsOk S) : ∀ m, m ≤ S.mo.toNat → (wordsF S.ls m).length ≤ 14 * m
  | 0, _ => by show 0 ≤ 0; decide
  | m + 1, h => by
    unfold wordsF
    rw [List.range_succ, List.flatMap_append, List.length_append]
    have h1 := words_small ok m (by omega)
    unfold wordsF at h1
    have h2 := lv_small ok h
    simp only [List.flatMap_cons, List.flatMap_nil, List.append_nil]
    omega
theorem words_ok {ls : List Nat} {m : Nat} : ∀ u ∈ wordsF ls m, 1 ≤ u.length ∧ u.length ≤ m ∧ ∀ c ∈ u, c ∈ ls := by
  intro u hu
  obtain ⟨i, hi, h⟩ := List.mem_flatMap.mp hu
  have := List.mem_range.mp hi
  obtain ⟨l1, l2⟩ := lv_ok ls (i + 1) u h
  exact ⟨by omega, by omega, l2⟩
/-- the words of the next length, two fors at once -/
theorem longer (ls : List Nat) (us : List (List Nat)) (i : Nat) (u : List Nat) (hu : us[i]? = some u) : (us.take (i + 1)).flatMap (fun u => ls.map fun c => u ++ [c]) = (us.take i).flatMap (fun u => ls.map fun c => u ++ [c]) ++ ls.map fun c => u ++ [c] := by
  rw [take_more hu, List.flatMap_append]
  simp
theorem ok_words (F : FnP K "words" s_words f fd) (hm : mg "words" = some (.ref f)) (f_range : mg "range" = none) (c_House_letters : CalleeM P w K mg base CX0 "House" "letters" 1 (spHsM K fun S => .str (tx S.ls))) (c_House_most : CalleeM P w K mg base CX0 "House" "most" 1 (spHsM K fun S => .int S.mo)) : Callee P w K mg base CX0 "words" 2 [] (spWords K) := by
  refine ⟨f, fd, _, [], F.ok sc_words (fun vs H Q E h => ?hl) (fun cdv A outer s H vs Q E hr h => ⟨_, PSs.nox (pss_cons (ps_set (i := 1) sc_words.nd rfl (by first | exact Or.inl rfl | exact Or.inr rfl) (pe_lst pa_nil))
      (pss_cons (ps_set (i := 2) sc_words.nd rfl (by first | exact Or.inl rfl | exact Or.inr rfl) (pe_lst (pa_cons pe_str pa_nil)))
      (pss_cons (ps_for PassesOwn.never rfl (pi_range1 (by rfl) f_range (pa_cons (pe_mt0 c_House_most hr (pv 0) pass0) pa_nil)) (pg_name (i := 3) sc_words.nd rfl (by first | exact Or.inl rfl | exact Or.inr rfl)) (pss_cons (ps_setLc2 (i := 2) (own := [("word", 4), ("sign", 5)]) (vs1 := [5]) rfl sc_words.nd rfl rfl (by first | exact sw_true rfl rfl rfl (by decide +kernel) | rfl) (pi_listK K (pv 2)) (blkOk_by (N := ["house", "found", "last", "size", "word", "sign"]) (sc := defScope s_words) (by decide +kernel)) (by decide) (fun _ _ _ _ _ => (pg_name (i := 4) sc_words.nd rfl (by first | exact Or.inl rfl | exact Or.inr rfl))) (fun _ _ _ _ _ => pts_nil) (fun _ _ _ _ _ => (pi_str (pe_mt0 c_House_letters hr (pv 0) pass0))) (fun _ _ _ _ _ => (pg_name (i := 5) sc_words.nd rfl (by first | exact Or.inl rfl | exact Or.inr rfl))) (fun _ _ _ _ _ => pts_nil) (fun _ _ _ _ _ => (pe_op (op_addK K) (pv 4) (pv 5))))
      (pss_one (ps_expr (pe_bmK K PySem.F.plainAttrs_list PySem.F.slot_list_extend PySem.F.type_list_extend mt_extend (pv 1) (pa_cons (pv 2) pa_nil))))))
      (pss_one (ps_ret (pv 1)))))), ?rd⟩), hm, F.kp, F.bindsN fun _ _ _ _ _ _ us hl => match us, hl with | [_], _ => rfl, .nil⟩
  case hl =>
    obtain ⟨a, S, rfl, _⟩ := h
    rfl
  case rd =>
    obtain ⟨a, S, rfl, hs, ok, q⟩ := h
    refine k_start (σ' := [some _, none, none, none, none, none]) rfl ?_
    have m1 := ok.m1
    have m3 := ok.m3
    walk_at "g"
    refine k_nLst (by walk_at "sz") (fun p1 H1 n1 s1 e1 => ?_)
    walk_at "g"
    refine k_nLst (by walk_at "sz") (fun p2 H2 n2 s2 e2 => ?_)
    have hs2 := hs.sm (s1.trans s2)
    obtain ⟨dx, r, t, R, L, h1, _⟩ := id hs2
    walk_at "g"
    have e12 := s2 _ _ e1
    refine k_nFor walk_range (fun i σ H' => ∃ pl y3, σ = [some (.ref a), some (.ref p1), some (.ref pl), y3, none, none] ∧ Same H H' ∧ H' p1 = some (.lst (tS (wordsF S.ls i))) ∧ H' pl = some (.lst (tS (lv S.ls i))) ∧ pl ≠ p1) ⟨p2, none, rfl, s1.trans s2, e12, e2, fun z => by rw [z, e1] at n2; cases n2⟩ (fun _ _ _ _ _ => trivial) (fun i x σ Ha Hb hi h hy => ?ht) (fun σ H' h => ?he)
    case he =>
      obtain ⟨pl, y3, rfl, sa, ea, _⟩ := h
      walk_at "g"
      exact q _ _ n1 sa ea
    case ht =>
      obtain ⟨pl, y3, rfl, sa, ea, eb, ne⟩ := h
      obtain ⟨rfl, rfl⟩ := hy
      have l1 := lv_small ok (i := i) (by omega)
      have l2 := lv_small ok (i := i + 1) (by omega)
      have ltS : (tS (lv S.ls i)).length = (lv S.ls i).length := List.length_map _
      walk_at "g"
      refine k_nLc2 (walk_list (xs := tS (lv S.ls i))) (fun H' s2 => sq_l (s2 _ _ eb)) (fun j ws => ws = tS (((lv S.ls i).take j).flatMap fun u => S.ls.map fun c => u ++ [c])) rfl (fun j v D H3 H4 ws Nx hj hD s3 e3 hws hy hN => ?hs1) (fun p H5 ws np s5 e5 hws => ?hd1)
      case hs1 =>
        obtain ⟨rfl, hv⟩ := hy
        obtain ⟨u, hu, rfl⟩ := map_get hv
        obtain ⟨lu, _⟩ := lv_ok S.ls i u (List.mem_of_getElem? hu)
        have hs3 := hs.sm (sa.trans s3)
        obtain ⟨dx, r, t, R, L, h1, _⟩ := id hs3
        walk_at "g"
        refine ⟨rfl, ?_⟩
        walk_at "g"
        have sz : (tx S.ls).cps.size = S.ls.length := len_tx S.ls
        refine k_nIn (walk_str (z := tx S.ls)) s3 hD e3 (fun _ _ => trivial) (fun k ws' => ws' = ws ++ tS ((S.ls.take k).map fun c => u ++ [c])) (by simp [tS]) (fun k ws' hk hw => ?hz) (fun k v H6 H7 ws' Kp Ks hk s6 hw hy hKp hKs => ?hs2) (fun H8 ws' s8 e8 hw => ?hd2)
        case hz =>
          rw [hw, hws, List.length_append]
          have a1 : (tS (((lv S.ls i).take j).flatMap fun u => S.ls.map fun c => u ++ [c])).length ≤ 14 * 3 := by
            unfold tS
            rw [List.length_map, List.length_flatMap, show (((lv S.ls i).take j).map fun u => (S.ls.map fun c => u ++ [c]).length) = ((lv S.ls i).take j).map fun _ => S.ls.length by simp, List.map_const', List.sum_replicate_nat, List.length_take]
            exact Nat.mul_le_mul (Nat.le_trans (Nat.min_le_right ..) l1) ok.l3
          have a2 : (tS ((S.ls.take k).map fun c => u ++ [c])).length ≤ 3 := by
            unfold tS
            rw [List.length_map, List.length_map, List.length_take]
            exact Nat.le_trans (Nat.min_le_right ..) ok.l3
          omega
        case hs2 =>
          obtain ⟨rfl, c, hc, rfl⟩ := hy
          have hci : S.ls[k]? = some c := by rw [← hc]; exact Array.getElem?_toList (xs := S.ls.toArray)
          walk_at "g"
          refine ⟨rfl, ?_⟩
          walk_at "g"
          refine k_add_s (by rw [len_tx, lu]; show i + 1 ≤ 100000; omega) ?_
          rw [tx_one]
          exact hKp _ _ (Same.refl _) (by rw [hw, take_more hci, List.map_append]; simp [tS])
        case hd2 =>
          have el : S.ls.take (tx S.ls).cps.size = S.ls := List.take_of_length_le (by omega)
          rw [el] at hw
          refine hN _ _ s8 e8 ?_
          rw [hw, hws, longer S.ls (lv S.ls i) j u hu]
          simp [tS]
      case hd1 =>
        rw [ltS, List.take_length] at hws
        subst hws
        have eaH := s5 _ _ ea
        have pp : p ≠ p1 := fun z => by rw [z, ea] at np; cases np
        walk_at "g"
        refine ⟨p1, p, _, _, rfl, rfl, eaH, e5, sz_of ?_, ?_⟩
        · have w1 := words_small ok i (by omega)
          have t1 : (tS (wordsF S.ls i)).length = (wordsF S.ls i).length := List.length_map _
          have t2 : (tS ((lv S.ls i).flatMap fun u => S.ls.map fun c => u ++ [c])).length = (lv S.ls (i + 1)).length := List.length_map _
          rw [t1, t2]
          omega
        walk_at "g"
        refine ⟨p, _, rfl, sm_mut (sa.trans s5) n1, ?_, ?_, pp⟩
        · rw [upd_same]
          unfold wordsF tS
          rw [List.range_succ, List.flatMap_append, List.map_append]
          simp [lv]
        · rw [upd_ne pp, e5]
          rfl
theorem made_BadWord (F : FunD K "__init__" "BadWord.__init__" (defArgs s_BadWord_init) (defBody s_BadWord_init) (defScope s_BadWord_init) [] [] (He.ma K (He.ga K "BadWord") "__init__") fd) (gC : mg "BadWord" = some (.ref (He.ga K "BadWord"))) (O : Oex K (He.ga K "BadWord") (He.ma K (He.ga K "BadWord") "__init__"))
    (nw : PySem.W.findIn K (.ref (He.ga K "BadWord")) "word" = some none) (nf : PySem.W.findIn K (.ref (He.ga K "BadWord")) "at" = some none) : XCls P w K mg base "BadWord" 1 "BadWord" "at" := by
  refine ⟨gC, O, nw, nf, fd, ["self", "at"], F.ok sc_BadWord_init (fun vs H Q E h => ?_) (fun cdv A outer s H vs Q E hr h => ⟨_, PSs.nox (pss_cons (ps_ost (pv 0) pe_str) (pss_one (ps_ost (pv 0) (pv 1)))), x1_read O.T nw nf h rfl⟩), F.bindsN fun _ _ _ _ _ _ us hl => match us, hl with | [_, _], _ => rfl⟩
  obtain ⟨a, v, rfl, _⟩ := h
  rfl

/-! ### all tastes -/
/-! ### word by word -/
theorem mem_lv (ls : List Nat) : ∀ n (u : List Nat), u.length = n → (∀ c ∈ u, c ∈ ls) → u ∈ lv ls n
  | 0, u, h, _ => by
    rw [List.length_eq_zero_iff.mp h]
    exact List.mem_singleton.mpr rfl
  | n + 1, u, h, hc => by
    have ne : u ≠ [] := fun e => by rw [e] at h; cases h
    have e := List.dropLast_concat_getLast ne
    refine List.mem_flatMap.mpr ⟨u.dropLast, mem_lv ls n _ (by rw [List.length_dropLast]; omega) fun c hc' => hc c (List.dropLast_subset u hc'), List.mem_map.mpr ⟨u.getLast ne, hc _ (List.getLast_mem ne), e⟩⟩
theorem isW_mem {S : HsD} (m0 : 0 ≤ S.mo) (z : Str) : isW S z = decide (TL.tl z ∈ wordsF S.ls S.mo.toNat) := by
  have lz : z.length = (TL.tl z).length := TL.len_tl z
  unfold isW
  rw [Bool.eq_iff_iff]
  simp only [Bool.and_eq_true, decide_eq_true_eq, List.all_eq_true]
  constructor
  · rintro ⟨a, b, c⟩
    exact List.mem_flatMap.mpr ⟨z.length - 1, List.mem_range.mpr (by omega), mem_lv _ _ _ (by omega) c⟩
  · intro h
    obtain ⟨a, b, c⟩ := words_ok _ h
    exact ⟨by omega, by omega, c⟩
theorem len_le_of_nodup {α : Type} [DecidableEq α] : ∀ {l m : List α}, l.Nodup → (∀ x ∈ l, x ∈ m) → l.length ≤ m.length
  | [], m, _, _ => Nat.zero_le _
  | x :: l, m, nd, hs => by
    obtain ⟨n1, n2⟩ := List.nodup_cons.mp nd
    have pm : m.Perm (x :: m.erase x) := List.perm_cons_erase (hs x (List.mem_cons_self ..))
    have h := len_le_of_nodup (l := l) (m := m.erase x) n2 fun y hy => (List.mem_erase_of_ne (fun e => n1 (by rw [← e]; exact hy))).mpr (hs y (List.mem_cons_of_mem _ hy))
    rw [pm.length_eq, List.length_cons, List.length_cons]
    omega
theorem dp_tS {K : PySem.W.Frag} {H : Hp} : ∀ us : List (List Nat), DpAll K H (tS us) (us.map fun u => PyData.str (tx u))
  | [] => .nil
  | u :: us => .cons (.str _) (dp_tS us)
/-! ### rows -/
def firstBad (S : HsD) (us : List (List Nat)) : Option Nat := us.findIdx? fun u => !isW S (tx u)
def badAt (S : HsD) (us : List (List Nat)) : Option Nat := match firstBad S (us.take 12) with
  | some i => some i
  | none => if 12 < us.length then some 12 else none
theorem firstBad_none {S : HsD} {us : List (List Nat)} (h : ∀ u ∈ us, isW S (tx u) = true) : firstBad S us = none := by
  unfold firstBad
  rw [List.findIdx?_eq_none_iff]
  intro u hu
  rw [h u hu]
  rfl
theorem badAt_good {S : HsD} {us : List (List Nat)} (h : ∀ u ∈ us, isW S (tx u) = true) (hl : us.length ≤ 12) : badAt S us = none := by
  unfold badAt
  rw [firstBad_none fun u hu => h u (List.mem_of_mem_take hu)]
  exact if_neg (by omega)
theorem isW_word {S : HsD} (ok : HsOk S) {u : List Nat} (h : u ∈ wordsF S.ls S.mo.toNat) : isW S (tx u) = true := by
  rw [isW_mem (by have := ok.m1; omega), tl_tx]
  exact decide_eq_true h
theorem word_isW {S : HsD} (ok : HsOk S) {u : List Nat} (h : isW S (tx u) = true) : u ∈ wordsF S.ls S.mo.toNat := by
  rw [isW_mem (by have := ok.m1; omega), tl_tx] at h
  exact of_decide_eq_true h
/-- words of the house -/
def AllW (S : HsD) (us : List (List Nat)) : Prop := ∀ u ∈ us, u ∈ wordsF S.ls S.mo.toNat
theorem AllW.bad {S : HsD} (ok : HsOk S) {us : List (List Nat)} (h : AllW S us) (hl : us.length ≤ 12) : badAt S us = none := badAt_good (fun u hu => isW_word ok (h u hu)) hl
theorem AllW.len {S : HsD} (ok : HsOk S) {us : List (List Nat)} (h : AllW S us) : ∀ u ∈ us, 1 ≤ u.length ∧ u.length ≤ 3 ∧ ∀ c ∈ u, c ∈ S.ls := fun u hu => by
  obtain ⟨a, b, c⟩ := words_ok u (h u hu)
  have := ok.m3
  exact ⟨a, by omega, c⟩
theorem getS {us : List (List Nat)} {i : Nat} {u : List Nat} (h : us[i]? = some u) : (tS us)[i]? = some (.str (tx u)) := by
  unfold tS
  rw [List.getElem?_map, h]
  rfl
theorem len_tS (us : List (List Nat)) : (tS us).length = us.length := List.length_map _
theorem tS_app (us vs : List (List Nat)) : tS (us ++ vs) = tS us ++ tS vs := List.map_append
theorem tS_take (us : List (List Nat)) (n : Nat) : (tS us).take n = tS (us.take n) := by
  unfold tS
  rw [List.map_take]
theorem tS_drop (us : List (List Nat)) (n : Nat) : (tS us).drop n = tS (us.drop n) := by
  unfold tS
  rw [List.map_drop]
def spNeedRow (K : PySem.W.Frag) : Sp := fun vs H Q E => ∃ (a r : Addr) (S : HsD) (us : List (List Nat)) (t : Bool), vs = [.ref a, .ref r] ∧ HsAt K H a S ∧ SqB K t H r (tS us) ∧ us.length ≤ 10000 ∧ (∀ u ∈ us, u.length ≤ 1000) ∧
  (badAt S us = none → ∀ H', Same H H' → Q .non H') ∧ (∀ i, badAt S us = some i → ∀ d H', H d = none → Same H H' → H' d = some (.xd (xfs "BadWord" "at" (.int (i : Nat)))) → E (.ref (He.ga K "BadWord")) (some d) H')
theorem ok_need_row (F : FnP K "need_row" s_need_row f fd) (hm : mg "need_row" = some (.ref f)) (f_len : mg "len" = none) (f_enumerate : mg "enumerate" = none) (c_MOST_ROW : ∃ t, mg "MOST_ROW" = some (.int 12 t)) (c_is_word : Callee P w K mg base CX0 "is_word" 2 [] (spIsWord K)) (c_BadWord : XCls P w K mg base "BadWord" 1 "BadWord" "at") : Callee P w K mg base (L2.CX P w) "need_row" 3 [] (spNeedRow K) := by
  refine ⟨f, fd, _, [], F.ok sc_need_row (fun vs H Q E h => ?hl) (fun cdv A outer s H vs Q E hr h => ⟨_, (pss_cons (ps_for (passes_of rfl) rfl (pi_enumB (K := K) (by rfl) f_enumerate (pa_cons (pe_slice (sl_k K) (pv 1) po_none (po_some (pe_gi c_MOST_ROW))) pa_nil)) (pg_tupK K 2 (by rfl) (pgs_cons (pg_name (i := 2) sc_need_row.nd rfl (by first | exact Or.inl rfl | exact Or.inr rfl)) (pgs_cons (pg_name (i := 3) sc_need_row.nd rfl (by first | exact Or.inl rfl | exact Or.inr rfl)) pgs_nil))) (pss_one (ps_if (pt_not (pt_val (pe_cl c_is_word hr (pa_cons (pv 0) (pa_cons (pv 3) pa_nil)) pass0))) (pss_one (ps_raise rfl (takes_of rfl rfl rfl rfl) (pmk_x1 c_BadWord hr (pa_cons (pv 2) pa_nil)))) pss_nil)))
      (pss_one (ps_if (pt_cmpR op_gt (pe_callB (call_lenK K) (by rfl) f_len PySem.boot_len (pa_cons (pv 1) pa_nil)) (pe_gi c_MOST_ROW) (nomark _)) (pss_one (ps_raise rfl (takes_of rfl rfl rfl rfl) (pmk_x1 c_BadWord hr (pa_cons (pe_gi c_MOST_ROW) pa_nil)))) pss_nil))), ?rd⟩), hm, F.kp, F.bindsN fun _ _ _ _ _ _ us hl => match us, hl with | [_, _], _ => rfl, .nil⟩
  case hl =>
    obtain ⟨a, r, S, us, t, rfl, _⟩ := h
    rfl
  case rd =>
    obtain ⟨a, r, S, us, t, rfl, hs, hx, lu, lw, q1, q2⟩ := h
    refine k_start (σ' := [some _, some _, none, none]) rfl ?_
    walk_at "g"
    refine k_sl_b hx (fun p1 H1 s1 e1 => ?_)
    rw [cutV_toI _ _ (by decide), tS_take] at e1
    have l12 : (us.take 12).length ≤ 12 := by
      rw [List.length_take]
      omega
    walk_at "g"
    refine k_nIteB e1 ?_
    refine k_nFor (walk_enumB (xs := tS (us.take 12))) (fun i σ H' => (∃ y2 y3, σ = [some (.ref a), some (.ref r), y2, y3]) ∧ Same H1 H' ∧ ∀ j, j < i → ∀ u, (us.take 12)[j]? = some u → isW S (tx u) = true) ⟨⟨_, _, rfl⟩, Same.refl _, fun j hj => absurd hj (Nat.not_lt_zero j)⟩ (fun i σ H' _ h => sm_b h.2.1 e1) (fun i x σ Ha Hb hi h hy => ?ht) (fun σ H' h => ?he)
    case he =>
      obtain ⟨⟨y2, y3, rfl⟩, sa, al⟩ := h
      have fb : firstBad S (us.take 12) = none := fidx_none fun k v hv => by
        rw [al k (by rw [len_tS]; exact (List.getElem?_eq_some_iff.mp hv).1) v hv]
        rfl
      have lx : (tS us).length = us.length := len_tS us
      walk_at "g"
      refine k_len_b (sm_b (s1.trans sa) hx) ?_
      walk_at "g"
      rw [lx]
      refine k_dec (fun d => ?_) (fun d => ?_)
      · walk_at "g"
        refine k_x1 fun d' H' nd sd ed => q2 12 ?_ d' H' ((s1.trans sa).free nd) ((s1.trans sa).trans sd) ed
        unfold badAt
        rw [fb]
        exact if_pos (by omega)
      · walk_at "g"
        refine q1 ?_ _ (s1.trans sa)
        unfold badAt
        rw [fb]
        exact if_neg (by omega)
    case ht =>
      obtain ⟨⟨y2, y3, rfl⟩, sa, al⟩ := h
      obtain ⟨T, xi, yi, rfl, nT, rfl, ex, ey⟩ := hy
      have sT : Same Ha (upd Ha T (.tup [xi, yi])) := sm_new nT
      have eT : (upd Ha T (.tup [xi, yi])) T = some (.tup [xi, yi]) := upd_same
      generalize upd Ha T (.tup [xi, yi]) = Hb at sT eT
      cases ex
      obtain ⟨u, hu, rfl⟩ := map_get ey
      have hm : u ∈ us := List.mem_of_mem_take (List.mem_of_getElem? hu)
      have sx := s1.trans (sa.trans sT)
      walk_at "g"
      refine ⟨a, S, tx u, rfl, hs.sm sx, by rw [len_tx]; exact lw u hm, fun H2 s2 => ?_⟩
      have hlt : i < (us.take 12).length := (List.getElem?_eq_some_iff.mp hu).1
      walk_at "g"
      cases hw : isW S (tx u) with
      | false =>
        walk_at "g"
        refine k_x1 fun d' H' nd sd ed => q2 i ?_ d' H' ((sx.trans s2).free nd) ((sx.trans s2).trans sd) ed
        have fb : firstBad S (us.take 12) = some i := fidx_some hu (by rw [hw]; rfl) fun k hk v hv => by
          rw [al k hk v hv]
          rfl
        unfold badAt
        rw [fb]
      | true =>
        walk_at "g"
        refine ⟨⟨_, _, rfl⟩, sa.trans (sT.trans s2), fun j hj v hv => ?_⟩
        rcases Nat.lt_succ_iff_lt_or_eq.mp hj with hj | rfl
        · exact al j hj v hv
        · rw [hu] at hv
          cases hv
          exact hw
end
end Lw
set_option autoImplicit true
set_option pp.maxSteps 1200
set_option Elab.async false
set_option linter.all false
set_option maxRecDepth 100000
set_option maxHeartbeats 1000000
namespace Lw
open PySem PySem.Spec PyProof.Rows L2 Gk
open PySem.W (EachIs AllAlike Sortable dataLe dataLt alike keyToks)

local macro_rules | `(tactic| walk_at "hp") => `(tactic| first | assumption | exact upd_same | (refine' (upd_ne ?n).trans ?h; (case n => assumption); (case h => walk_at "hp")) | (refine' sm_get ?s ?h; (case s => assumption); (case h => walk_at "hp")))
local macro_rules | `(tactic| walk_at "sq") => `(tactic| first | assumption | (refine' sq_l ?h; (case h => walk_at "hp")) | (refine' sm_l ?s ?h; (case s => assumption); (case h => walk_at "sq")))
local macro_rules | `(tactic| walk_at "st") => `(tactic| first | assumption | (refine' sq_t ?h; (case h => walk_at "hp")) | (refine' sm_t ?s ?h; (case s => assumption); (case h => walk_at "st")))
local macro_rules | `(tactic| walk_at "bg") => `(tactic| first | assumption | (refine' BagOk.sm ?s ?h; (case s => assumption); (case h => walk_at "bg")))
local macro_rules | `(tactic| walk_at "sm") => `(tactic| first | assumption | exact Same.refl _ | (refine' Same.trans ?h ?s; (case s => assumption); (case h => walk_at "sm")))
local macro_rules | `(tactic| walk_at "hs") => `(tactic| first | assumption | (refine' HsAt.sm ?s ?h; (case s => assumption); (case h => walk_at "hs")))
local macro_rules | `(tactic| walk_at "ms") => `(tactic| first | assumption | (refine' MAt.sm ?s ?h; (case s => assumption); (case h => walk_at "ms")))
local macro_rules | `(tactic| walk_at "md") => `(tactic| first | assumption | (refine' MDk.sm ?s ?h; (case s => assumption); (case h => walk_at "md")))
local macro_rules | `(tactic| walk_at "dp") => `(tactic| first | assumption | (refine' dp_sm ?s ?h; (case s => assumption); (case h => walk_at "dp")))
local macro_rules | `(tactic| walk_at "sz") => `(tactic| first | decide | assumption | omega | (simp only [List.length_cons, List.length_nil, List.length_map, List.length_append]; omega))
local macro_rules | `(tactic| walk_at "g1") => `(tactic| first
  | with_reducible refine k_seq ?_
  | with_reducible refine k_itB ?_
  | with_reducible refine k_next ?_
  | with_reducible refine k_asg ?_
  | with_reducible refine k_name ?_
  | with_reducible refine k_ret ?_
  | with_reducible refine k_retN ?_
  | with_reducible refine k_drop ?_
  | with_reducible refine k_ifs ?_
  | with_reducible refine k_brk ?_
  | with_reducible refine k_cont ?_
  | with_reducible refine k_ipI ?_
  | with_reducible refine k_test ?_
  | with_reducible refine k_tB ?_
  | with_reducible refine k_bl ?_
  | with_reducible refine k_not ?_
  | with_reducible refine k_and ?_
  | with_reducible refine k_or ?_
  | with_reducible refine k_yes ?_
  | with_reducible refine k_true ?_
  | with_reducible refine k_false ?_
  | with_reducible refine k_nt ?_
  | with_reducible refine k_c ?_
  | with_reducible refine k_op ?_
  | with_reducible refine k_un ?_
  | with_reducible refine k_if ?_
  | with_reducible refine k_chain ?_
  | with_reducible refine k_nil ?_
  | with_reducible refine k_cons ?_
  | with_reducible refine k_cb ?_
  | with_reducible refine k_call ?_
  | with_reducible refine k_callS ?_
  | with_reducible refine k_andV ?_
  | with_reducible refine k_orV ?_
  | with_reducible refine k_notV ?_
  | with_reducible refine k_lst ?_
  | with_reducible refine k_tup ?_
  | with_reducible refine k_nopart ?_
  | with_reducible refine k_part ?_
  | with_reducible refine k_nInt ?_
  | with_reducible refine k_sl ?_
  | with_reducible refine k_bm ?_
  | with_reducible refine k_bm0 ?_
  | with_reducible refine k_nTyS ?_
  | with_reducible refine k_m1 ?_
  | with_reducible refine k_m0 ?_
  | with_reducible refine k_nStr ?_
  | with_reducible refine k_I0 ?_
  | with_reducible refine k_U ?_
  | with_reducible refine k_add_i ?_
  | with_reducible refine k_eq_i ?_
  | with_reducible refine k_eq_s ?_
  | with_reducible refine k_eq_b ?_
  | with_reducible refine k_ne_i ?_
  | with_reducible refine k_ne_s ?_
  | with_reducible refine k_ne_b ?_
  | with_reducible refine k_le_i ?_
  | with_reducible refine k_le_s ?_
  | with_reducible refine k_gnil ?_
  | with_reducible refine k_gcons ?_
  | with_reducible refine k_gsub ?_
  | with_reducible refine k_for ?_
  | with_reducible refine k_lc ?_
  | with_reducible refine k_rng1 ?_
  | with_reducible refine k_rng2 ?_
  | with_reducible refine k_itl ?_
  | with_reducible refine k_itt ?_
  | with_reducible refine k_its ?_
  | with_reducible refine k_ite ?_
  | with_reducible refine k_iteB ?_
  | with_reducible refine k_lrg2 ?_
  | with_reducible refine k_itz ?_
  | with_reducible refine k_nIts ?_
  | with_reducible refine k_inS ?_
  | with_reducible refine k_niS ?_
  | with_reducible refine k_mk ?_
  | with_reducible refine k_meth ?_
  | with_reducible refine k_fld ?_
  | with_reducible refine k_sfld ?_
  | with_reducible refine k_dg ?_
  | with_reducible refine k_dp ?_
  | with_reducible refine k_pr ?_
  | with_reducible refine k_pr0 ?_
  | with_reducible refine k_sg ?_
  | with_reducible refine k_lc2 ?_
  | with_reducible refine k_callN ?_
  | with_reducible refine k_callNS ?_
  | with_reducible refine k_par ?_
  | with_reducible refine k_nPar ?_
  | with_reducible refine k_isNn ?_
  | with_reducible refine k_isNr ?_
  | with_reducible refine k_ntNn ?_
  | with_reducible refine k_ntNr ?_
  | with_reducible refine k_min2 ?_
  | with_reducible refine k_max2 ?_
  | with_reducible refine k_intB ?_
  | with_reducible refine k_intI ?_
  | with_reducible refine k_isBl ?_
  | with_reducible refine k_ntBl ?_
  | ((with_reducible refine' k_var ?kv ?_); (case kv => exact rfl))
  | ((with_reducible refine' k_aug ?kv ?_); (case kv => exact rfl))
  | ((with_reducible refine' k_ix_l ?ks ?ki ?_); (case ks => walk_at "sq"); (case ki => exact rfl))
  | ((with_reducible refine' k_ix_t ?ks ?ki ?_); (case ks => walk_at "st"); (case ki => exact rfl))
  | ((with_reducible refine' k_len_l ?ks ?_); (case ks => walk_at "sq"))
  | ((with_reducible refine' k_len_t ?ks ?_); (case ks => walk_at "st"))
  | ((with_reducible refine' k_setL ?ks ?ki ?_); (case ks => walk_at "hp"); (case ki => exact rfl))
  | ((with_reducible refine' k_nTyL ?ks ?_); (case ks => walk_at "sq"))
  | ((with_reducible refine' k_nItl ?ks ?_); (case ks => walk_at "sq"))
  | ((with_reducible refine' k_nItt ?ks ?_); (case ks => walk_at "st"))
  | ((with_reducible refine' k_nIte ?ks ?_); (case ks => walk_at "sq"))
  | ((with_reducible refine' k_mul ?km ?_); (case km => first | exact Or.inr ⟨by decide, by decide⟩ | exact Or.inl ⟨by decide, by decide⟩))
  | ((with_reducible refine' k_I ?km ?_); (case km => first | assumption | decide | exact ⟨by decide, by decide +kernel⟩ | exact ⟨by decide, by decide, by decide⟩))
  | ((with_reducible refine' k_nMeth ?kp ?kl ?_); (case kp => walk_at "hp"); (case kl => exact rfl))
  | ((with_reducible refine' k_nFld ?kp ?kc ?kn ?kl ?_); (case kp => walk_at "hp"); (case kc => assumption); (case kn => assumption); (case kl => exact rfl))
  | ((with_reducible refine' k_nSFld ?kp ?kc ?kn ?kl ?_); (case kp => walk_at "hp"); (case kc => assumption); (case kn => assumption); (case kl => exact of_decide_eq_true rfl))
  | ((with_reducible refine' k_nDg ?kp ?kl ?_); (case kp => walk_at "hp"); (case kl => exact rfl))
  | ((with_reducible refine' k_nRng1 ?k1 ?k2 ?_); (case k1 => omega); (case k2 => omega))
  | ((with_reducible refine' k_nKw ?k1 ?k2 ?_); (case k1 => exact rfl); (case k2 => exact rfl))
  | ((with_reducible refine' k_hsm ?kh ?_); (case kh => walk_at "hs"))
  | ((with_reducible refine' k_nMethH ?kh ?kl ?_); (case kh => walk_at "hs"); (case kl => exact fun _ _ => rfl))
  | ((with_reducible refine' k_mLet ?kh ?_); (case kh => walk_at "ms"))
  | ((with_reducible refine' k_mChew ?kh ?_); (case kh => walk_at "ms"))
  | ((with_reducible refine' k_mPut ?kh ?_); (case kh => walk_at "ms"))
  | ((with_reducible refine' k_mMost ?kh ?_); (case kh => walk_at "ms"))
  | ((with_reducible refine' k_mCut ?kh ?_); (case kh => walk_at "ms"))
  | ((with_reducible refine' k_mTab ?kh ?_); (case kh => walk_at "md"))
  | ((with_reducible refine' k_mEats ?kh ?_); (case kh => walk_at "md"))
  | ((with_reducible refine' k_gtup ?ks ?kl ?_); (case ks => walk_at "st"); (case kl => exact rfl)))
local macro_rules | `(tactic| walk_at "g") => `(tactic| repeat (walk_at "g1"))
local macro_rules | `(tactic| walk_at "w1") => `(tactic| first
  | walk_at "g1"
  | ((with_reducible refine' k_decT ?kp ?_); (case kp => omega))
  | ((with_reducible refine' k_decF ?kp ?_); (case kp => omega))
  | ((with_reducible refine' k_decNT ?kp ?_); (case kp => omega))
  | ((with_reducible refine' k_decNF ?kp ?_); (case kp => omega)))
local macro_rules | `(tactic| walk_at "w") => `(tactic| repeat (walk_at "w1"))


section
variable {P : Program} {w : World} {K : PySem.W.Frag} {mg : Str → Option Value} {base : Heap} {f : Addr} {fd : FuncData}
/-! ### a long word cut -/
def cutW (S : HsD) (u : List Nat) : List (List Nat) :=
  if h : S.mo < u.length ∧ 1 ≤ S.cu ∧ 0 < u.length then u.take S.cu.toNat :: cutW S (u.drop S.cu.toNat) else [u]
termination_by u.length
decreasing_by
  rw [List.length_drop]
  omega
theorem cutW_more {S : HsD} (ok : HsOk S) {u : List Nat} (h : S.mo < u.length) : cutW S u = u.take S.cu.toNat :: cutW S (u.drop S.cu.toNat) := by
  have := ok.k1
  have := ok.m1
  rw [cutW, dif_pos ⟨h, by omega, by omega⟩]
theorem cutW_last {S : HsD} {u : List Nat} (h : ¬ S.mo < u.length) : cutW S u = [u] := by
  rw [cutW, dif_neg fun z => h z.1]
theorem cutW_flat {S : HsD} (ok : HsOk S) : ∀ (n : Nat) (u : List Nat), u.length ≤ n → (cutW S u).flatten = u
  | n, u, hn => by
    by_cases h : S.mo < u.length
    · rw [cutW_more ok h, List.flatten_cons]
      have := ok.k1
      have := ok.m1
      cases n with
      | zero => omega
      | succ n => rw [cutW_flat ok n _ (by rw [List.length_drop]; omega), List.take_append_drop]
    · rw [cutW_last h]
      simp
theorem cutW_words {S : HsD} (ok : HsOk S) : ∀ (n : Nat) (u : List Nat), u.length ≤ n → 1 ≤ u.length → (∀ c ∈ u, c ∈ S.ls) → (∀ v ∈ cutW S u, v ∈ wordsF S.ls S.mo.toNat) ∧ (cutW S u).length ≤ u.length
  | n, u, hn, h1, hc => by
    have k1 := ok.k1
    have km := ok.km
    have m1 := ok.m1
    have mem : ∀ v : List Nat, 1 ≤ v.length → (v.length : Int) ≤ S.mo → (∀ c ∈ v, c ∈ S.ls) → v ∈ wordsF S.ls S.mo.toNat := fun v a b c => List.mem_flatMap.mpr ⟨v.length - 1, List.mem_range.mpr (by omega), mem_lv _ _ _ (by omega) c⟩
    by_cases h : S.mo < u.length
    · cases n with
      | zero => omega
      | succ n =>
        have ld : (u.drop S.cu.toNat).length = u.length - S.cu.toNat := List.length_drop
        obtain ⟨a, b⟩ := cutW_words ok n (u.drop S.cu.toNat) (by omega) (by omega) fun c h => hc c (List.mem_of_mem_drop h)
        rw [cutW_more ok h]
        refine ⟨fun v hv => ?_, by rw [List.length_cons]; omega⟩
        rcases List.mem_cons.mp hv with rfl | hv
        · exact mem _ (by rw [List.length_take]; omega) (by rw [List.length_take]; omega) fun c h => hc c (List.mem_of_mem_take h)
        · exact a v hv
    · rw [cutW_last h]
      refine ⟨fun v hv => ?_, by show 1 ≤ _; exact h1⟩
      rw [List.mem_singleton.mp hv]
      exact mem u h1 (by omega) hc
def spCut (K : PySem.W.Frag) : Sp := fun vs H Q _ => ∃ (a : Addr) (S : HsD) (u : List Nat), vs = [.ref a, .str (tx u)] ∧ HsAt K H a S ∧ HsOk S ∧ u.length ≤ 1000 ∧ ∀ p H', H p = none → Same H H' → H' p = some (.lst (tS (cutW S u))) → Q (.ref p) H'
theorem ok_cut_long (F : FnP K "cut_long" s_cut_long f fd) (hm : mg "cut_long" = some (.ref f)) (f_len : mg "len" = none) (c_House_most : CalleeM P w K mg base CX0 "House" "most" 1 (spHsM K fun S => .int S.mo)) (c_House_cut : CalleeM P w K mg base CX0 "House" "cut" 1 (spHsM K fun S => .int S.cu)) : Callee P w K mg base CX0 "cut_long" 2 [] (spCut K) := by
  refine ⟨f, fd, _, [], F.ok sc_cut_long (fun vs H Q E h => ?hl) (fun cdv A outer s H vs Q E hr h => ⟨_, PSs.nox (pss_cons (ps_set (i := 2) sc_cut_long.nd rfl (by first | exact Or.inl rfl | exact Or.inr rfl) (pe_lst pa_nil))
      (pss_cons (ps_set (i := 3) sc_cut_long.nd rfl (by first | exact Or.inl rfl | exact Or.inr rfl) (pv 1))
      (pss_cons (ps_while PassesOwn.never (pt_cmpR op_gt (pe_callB (call_lenK K) (by rfl) f_len PySem.boot_len (pa_cons (pv 3) pa_nil)) (pe_mt0 c_House_most hr (pv 0) pass0) (nomark _)) (pss_cons (ps_expr (pe_bmK K PySem.F.plainAttrs_list PySem.F.slot_list_append PySem.F.type_list_append mt_append (pv 2) (pa_cons (pe_slice (sl_k K) (pv 3) po_none (po_some (pe_mt0 c_House_cut hr (pv 0) pass0))) pa_nil)))
      (pss_one (ps_set (i := 3) sc_cut_long.nd rfl (by first | exact Or.inl rfl | exact Or.inr rfl) (pe_slice (sl_k K) (pv 3) (po_some (pe_mt0 c_House_cut hr (pv 0) pass0)) po_none)))))
      (pss_one (ps_ret (pe_op (op_addK K) (pv 2) (pe_lst (pa_cons (pv 3) pa_nil)))))))), ?rd⟩), hm, F.kp, F.bindsN fun _ _ _ _ _ _ us hl => match us, hl with | [_, _], _ => rfl, .nil⟩
  case hl =>
    obtain ⟨a, S, u, rfl, _⟩ := h
    rfl
  case rd =>
    obtain ⟨a, S, u, rfl, hs, ok, lu, q⟩ := h
    refine k_start (σ' := [some _, some _, none, none]) rfl ?_
    have m1 := ok.m1
    have k1 := ok.k1
    have km := ok.km
    walk_at "g"
    refine k_nLst (by walk_at "sz") (fun p1 H1 n1 s1 e1 => ?_)
    walk_at "g"
    refine k_while (fun m σ H' => ∃ (v : List Nat) (acc : List (List Nat)), σ = [some (.ref a), some (.str (tx u)), some (.ref p1), some (.str (tx v))] ∧ Same H H' ∧ H' p1 = some (.lst (tS acc)) ∧ acc ++ cutW S v = cutW S u ∧ m = v.length ∧ acc.length + v.length ≤ u.length) ⟨_, u, [], rfl, s1, e1, rfl, rfl, by simp⟩ (fun m σ H' h => ?hw)
    obtain ⟨v, acc, rfl, sa, ea, hcut, rfl, hl⟩ := h
    have lv := len_tx v
    walk_at "g"
    refine k_len_s (by omega) ?_
    walk_at "g"
    rw [lv]
    refine k_turnD (fun d => k_turnT ?_) (fun d => k_turnF ?_)
    · walk_at "g"
      refine k_sl_s (by omega) ?_
      rw [cutS_to _ _ (by omega)]
      walk_at "g"
      refine k_append ea (by rw [len_tS]; omega) ?_
      have sb : Same H (upd H' p1 (.lst (tS acc ++ [V.str (tx (v.take S.cu.toNat))]))) := sm_mut sa n1
      have eb : (upd H' p1 (.lst (tS acc ++ [V.str (tx (v.take S.cu.toNat))]))) p1 = some (.lst (tS acc ++ [V.str (tx (v.take S.cu.toNat))])) := upd_same
      generalize upd H' p1 (.lst (tS acc ++ [V.str (tx (v.take S.cu.toNat))])) = Hb at sb eb ⊢
      walk_at "g"
      refine k_sl_s (by omega) ?_
      rw [cutS_from _ _ (by omega)]
      walk_at "g"
      have ld : (v.drop S.cu.toNat).length = v.length - S.cu.toNat := List.length_drop
      refine ⟨_, ?_, v.drop S.cu.toNat, acc ++ [v.take S.cu.toNat], rfl, sb, by rw [eb, tS_app]; rfl, by rw [← hcut, cutW_more (u := v) ok (by omega), List.append_assoc]; rfl, rfl, by rw [List.length_append, ld]; show acc.length + 1 + _ ≤ _; omega⟩
      omega
    · walk_at "g"
      refine k_nLst (by walk_at "sz") (fun p2 H2 n2 s2 e2 => ?_)
      refine k_add_l (s2 _ _ ea) e2 (by rw [len_tS]; show _ + 1 ≤ _; omega) (fun p3 H3 n3 s3 e3 => ?_)
      refine q p3 H3 ((sa.trans s2).free n3) ((sa.trans s2).trans s3) ?_
      rw [e3, ← hcut, cutW_last (by omega), tS_app]
      rfl
/-! ### what comes of a bite -/
def growF (S : HsD) (right : Bool) (er en : List Nat) : List Nat := if right = true then (S.pt ++ er) ++ en.drop S.ch.toNat else (en.take (en.length - S.ch.toNat) ++ er) ++ S.pt
theorem growF_len (S : HsD) (right : Bool) (er en : List Nat) : (growF S right er en).length = S.pt.length + er.length + (en.length - S.ch.toNat) := by
  unfold growF
  split
  · rw [List.length_append, List.length_append, List.length_drop]
  · rw [List.length_append, List.length_append, List.length_take]
    omega
theorem growF_in {S : HsD} (ok : HsOk S) {right : Bool} {er en : List Nat} (h1 : ∀ c ∈ er, c ∈ S.ls) (h2 : ∀ c ∈ en, c ∈ S.ls) : ∀ c ∈ growF S right er en, c ∈ S.ls := fun c hc => by
  unfold growF at hc
  split at hc
  · rcases List.mem_append.mp hc with hc | hc
    · exact (List.mem_append.mp hc).elim (ok.pl c) (h1 c)
    · exact h2 c (List.mem_of_mem_drop hc)
  · rcases List.mem_append.mp hc with hc | hc
    · exact (List.mem_append.mp hc).elim (fun h => h2 c (List.mem_of_mem_take h)) (h1 c)
    · exact ok.pl c hc
def sdS (right : Bool) : Str := if right = true then Str.ofString "right" else Str.ofString "left"
theorem sdS_right (b : Bool) : decide (sdS b = Str.ofString "right") = b := by cases b <;> decide +kernel
theorem sdS_left (b : Bool) : decide (sdS b = Str.ofString "left") = !b := by cases b <;> decide +kernel
def spGrown (K : PySem.W.Frag) : Sp := fun vs H Q _ => ∃ (a : Addr) (S : HsD) (er en : List Nat) (b : Bool), vs = [.ref a, .str (tx er), .str (tx en), .str (sdS b)] ∧ HsAt K H a S ∧ HsOk S ∧ er.length ≤ 1000 ∧ en.length ≤ 1000 ∧ Q (.str (tx (growF S b er en))) H
theorem ok_grown (F : FnP K "grown" s_grown f fd) (hm : mg "grown" = some (.ref f)) (f_len : mg "len" = none) (f_max : mg "max" = none) (c_House_put : CalleeM P w K mg base CX0 "House" "put" 1 (spHsM K fun S => .str (tx S.pt))) (c_House_chew : CalleeM P w K mg base CX0 "House" "chew" 1 (spHsM K fun S => .int S.ch)) : Callee P w K mg base CX0 "grown" 2 [] (spGrown K) := by
  refine ⟨f, fd, _, [], F.ok sc_grown (fun vs H Q E h => ?hl) (fun cdv A outer s H vs Q E hr h => ⟨_, PSs.nox (pss_cons (ps_if (pt_cmpR (op_eqK K hr.units) (pv 3) pe_str (nomark _)) (pss_one (ps_ret (pe_op (op_addK K) (pe_op (op_addK K) (pe_mt0 c_House_put hr (pv 0) pass0) (pv 1)) (pe_slice (sl_k K) (pv 2) (po_some (pe_mt0 c_House_chew hr (pv 0) pass0)) po_none)))) pss_nil)
      (pss_one (ps_ret (pe_op (op_addK K) (pe_op (op_addK K) (pe_slice (sl_k K) (pv 2) po_none (po_some (pe_callB call_maxK (by rfl) f_max (by decide +kernel) (pa_cons pe_int (pa_cons (pe_op op_sub (pe_callB (call_lenK K) (by rfl) f_len PySem.boot_len (pa_cons (pv 2) pa_nil)) (pe_mt0 c_House_chew hr (pv 0) pass0)) pa_nil))))) (pv 1)) (pe_mt0 c_House_put hr (pv 0) pass0))))), ?rd⟩), hm, F.kp, F.bindsN fun _ _ _ _ _ _ us hl => match us, hl with | [_, _, _, _], _ => rfl, .nil⟩
  case hl =>
    obtain ⟨a, S, er, en, b, rfl, _⟩ := h
    rfl
  case rd =>
    obtain ⟨a, S, er, en, b, rfl, hs, ok, l1, l2, q⟩ := h
    refine k_start (σ' := [some _, some _, some _, some _]) rfl ?_
    have c0 := ok.c0
    have p2 := ok.p2
    have lp := len_tx S.pt
    have lr := len_tx er
    have ln := len_tx en
    walk_at "g"
    rw [sdS_right]
    unfold growF at q
    cases b with
    | true =>
      rw [if_pos rfl] at q
      walk_at "g"
      refine k_add_s (by omega) ?_
      rw [tx_app]
      walk_at "g"
      refine k_sl_s (by omega) ?_
      rw [cutS_from _ _ c0]
      refine k_add_s (by rw [len_tx, len_tx, List.length_append, List.length_drop]; omega) ?_
      rw [tx_app]
      exact q
    | false =>
      rw [if_neg (by decide)] at q
      walk_at "g"
      refine k_len_s (by omega) ?_
      rw [ln]
      walk_at "g"
      refine k_sl_s (by omega) ?_
      rw [cutS_to _ _ (by omega), show (max (0 : Int) ((en.length : Int) - S.ch)).toNat = en.length - S.ch.toNat by omega]
      walk_at "g"
      refine k_add_s (by rw [len_tx, len_tx, List.length_take]; omega) ?_
      rw [tx_app]
      walk_at "g"
      refine k_add_s (by rw [len_tx, len_tx, List.length_append, List.length_take]; omega) ?_
      rw [tx_app]
      exact q
/-! ### the row behind a bite -/
def eatsF (S : HsD) (b : Bool) (er en : List Nat) : Bool := S.tr.any fun k => decide (k = kEat b (tasteF S er) (tasteF S en))
/-- what stands in the place of two words -/
def madeF (S : HsD) (b : Bool) (x y : List Nat) : List (List Nat) := cutW S (growF S b (if b = true then x else y) (if b = true then y else x))
/-- the bite of the two words from low on; b: the left one eats the right one -/
def biteF (S : HsD) (us : List (List Nat)) (low : Nat) (b : Bool) : Option (List (List Nat)) := match us[low]?, us[low + 1]? with
  | some x, some y => if eatsF S b (if b = true then x else y) (if b = true then y else x) = true then
      (if us.take low ++ madeF S b x y ++ us.drop (low + 2) = us then none else some (us.take low ++ madeF S b x y ++ us.drop (low + 2))) else none
  | _, _ => none
def behF (S : HsD) (us : List (List Nat)) (place : Int) (b : Bool) : Option (List (List Nat)) := if 0 ≤ (if b = true then place else place - 1) then biteF S us (if b = true then place else place - 1).toNat b else none
/-- a side by its word -/
def behS (S : HsD) (us : List (List Nat)) (place : Int) (z : Str) : Option (List (List Nat)) := if z = Str.ofString "left" then behF S us place false else if z = Str.ofString "right" then behF S us place true else none
theorem behS_sd (S : HsD) (us : List (List Nat)) (place : Int) (b : Bool) : behS S us place (sdS b) = behF S us place b := by
  unfold behS
  cases b with
  | false => exact if_pos rfl
  | true => rw [if_neg (by decide +kernel)]; exact if_pos rfl
/-- a row, or None -/
def IsOpt (H H' : Hp) (v : V) : Option (List (List Nat)) → Prop
  | none => v = .non
  | some m => ∃ p, v = .ref p ∧ H p = none ∧ H' p = some (.lst (tS m))
theorem any_perm {α : Type} {l m : List α} {g : α → Bool} (h : ∀ x, x ∈ l ↔ x ∈ m) : l.any g = m.any g := by
  rw [Bool.eq_iff_iff, List.any_eq_true, List.any_eq_true]
  exact ⟨fun ⟨x, a, b⟩ => ⟨x, (h x).mp a, b⟩, fun ⟨x, a, b⟩ => ⟨x, (h x).mpr a, b⟩⟩
theorem good_row {us : List (List Nat)} (hp : ∀ u ∈ us, Pl (tx u) ∧ u.length ≤ 100000) (hl : us.length ≤ 50000) (j : Nat) : Good (j + 2) (.list (us.map fun u => PyData.str (tx u))) := ⟨by rw [List.length_map]; exact hl, fun e he => by
  obtain ⟨u, hu, rfl⟩ := List.mem_map.mp he
  exact ⟨(hp u hu).1, by rw [len_tx]; exact (hp u hu).2⟩⟩
theorem pl_in {S : HsD} (ok : HsOk S) {u : List Nat} (h : ∀ c ∈ u, c ∈ S.ls) : Pl (tx u) := fun c hc => by
  have := ok.rise.2 c (h c hc)
  unfold small at this
  omega
theorem eqv_rows (us vs : List (List Nat)) : PyData.eqv (.list (us.map fun u => PyData.str (tx u))) (.list (vs.map fun u => PyData.str (tx u))) = decide (us = vs) := by
  have h := eqv_strs (us.map tx) (vs.map tx)
  unfold dStrs at h
  rw [List.map_map, List.map_map] at h
  rw [show (fun u => PyData.str (tx u)) = PyData.str ∘ tx from rfl, h]
  by_cases e : us = vs
  · rw [e, decide_eq_true rfl, decide_eq_true rfl]
  · rw [decide_eq_false e, decide_eq_false fun z => e (List.map_inj_right (fun a b => tx_inj) |>.mp z)]
theorem deep_tr {S : HsD} (ok : HsOk S) {L : List RwM} (hL : ∀ k, k ∈ L.map (·.2) ↔ k ∈ S.tr) (nd : (L.map (·.2)).Nodup) : SeqAt.shaped (.tuple ((L.map (·.2)).map dKeys)) = true := by
  have e7 := ok.e7
  have ll : (L.map (·.2)).length ≤ S.tr.length := len_le_of_nodup nd fun k hk => (hL k).mp hk
  refine Good.shaped (j := 3) ⟨by rw [List.length_map]; omega, fun e he => ?_⟩ (by decide)
  obtain ⟨k, hk, rfl⟩ := List.mem_map.mp he
  obtain ⟨s, a, b, rfl, h1, h2, h3, h4⟩ := ok.ev k ((hL k).mp hk)
  have t4 := ok.t4
  have g : ∀ x : Int, 0 ≤ x → x < S.tb.length → x.natAbs.log2 < 1920 := fun x h0 h1 => by
    have := log_nat (k := x.toNat) (by omega)
    rwa [Int.toNat_of_nonneg h0] at this
  refine ⟨by show 3 ≤ 50000; decide, fun e he => ?_⟩
  rcases List.mem_cons.mp he with rfl | he
  · refine ⟨?_, ?_⟩ <;> cases s <;> first | exact pl_B (by decide +kernel) | decide +kernel
  rcases List.mem_cons.mp he with rfl | he
  · exact g a h1 h2
  rcases List.mem_cons.mp he with rfl | he
  · exact g b h3 h4
  cases he
theorem shaped_eat (b : Bool) {x y : Int} (h0 : 0 ≤ x) (h1 : x ≤ 100) (h2 : 0 ≤ y) (h3 : y ≤ 100) : SeqAt.shaped (dKeys (kEat b x y)) = true := by
  have g : ∀ x : Int, 0 ≤ x → x ≤ 100 → x.natAbs.log2 < 1920 := fun x h0 h1 => by
    have := log_nat (k := x.toNat) (by omega)
    rwa [Int.toNat_of_nonneg h0] at this
  refine Good.shaped (j := 2) ⟨by show 3 ≤ 50000; decide, fun e he => ?_⟩ (by decide)
  rcases List.mem_cons.mp he with rfl | he
  · refine ⟨?_, ?_⟩ <;> cases b <;> first | exact pl_B (by decide +kernel) | decide +kernel
  rcases List.mem_cons.mp he with rfl | he
  · exact g x h0 h1
  rcases List.mem_cons.mp he with rfl | he
  · exact g y h2 h3
  cases he
def spBehind (K : PySem.W.Frag) : Sp := fun vs H Q _ => ∃ (a r : Addr) (S : HsD) (us : List (List Nat)) (place : Int) (z : Str), vs = [.ref a, .ref r, .int place, .str z] ∧ HsAt K H a S ∧ HsOk S ∧ SqL K H r (tS us) ∧ AllW S us ∧ us.length ≤ 10000 ∧ ∀ v H', Same H H' → IsOpt H H' v (behS S us place z) → Q v H'
theorem tasteF_in {S : HsD} (ok : HsOk S) {u : List Nat} (h : ∀ c ∈ u, c ∈ S.ls) : 0 ≤ tasteF S u ∧ tasteF S u ≤ 100 := by
  have t1 := ok.t1
  have t4 := ok.t4
  obtain ⟨a, b⟩ := taste_in ok u 0 (Int.le_refl _) (by omega) h
  have b' : tasteF S u < S.tb.length := b
  exact ⟨a, by omega⟩
theorem dp_trs {H : Hp} : ∀ {L : List RwM}, (∀ q ∈ L, SqT K H q.1 (q.2.map kV)) → DpAll K H (L.map fun q => V.ref q.1) ((L.map (·.2)).map dKeys)
  | [], _ => .nil
  | q :: L, h => .cons (dp_keys (h q (List.mem_cons_self ..))) (dp_trs fun p hp => h p (List.mem_cons_of_mem _ hp))
theorem made_in {S : HsD} (ok : HsOk S) {us ms : List (List Nat)} {low : Nat} (hw : AllW S us) (hl : low + 1 < us.length) (hm : ∀ v ∈ ms, v ∈ wordsF S.ls S.mo.toNat) : AllW S (us.take low ++ ms ++ us.drop (low + 2)) := fun u hu => by
  rcases List.mem_append.mp hu with hu | hu
  · rcases List.mem_append.mp hu with hu | hu
    · exact hw u (List.mem_of_mem_take hu)
    · exact hm u hu
  · exact hw u (List.mem_of_mem_drop hu)
theorem good_allW {S : HsD} (ok : HsOk S) {us : List (List Nat)} (h : AllW S us) (hl : us.length ≤ 50000) (j : Nat) : Good (j + 2) (.list (us.map fun u => PyData.str (tx u))) := good_row (fun u hu => ⟨pl_in ok ((h.len ok) u hu).2.2, by have := ((h.len ok) u hu).2.1; omega⟩) hl j
/-- two rows, alike or not -/
theorem row_eq {S : HsD} {H : Hp} {Q : VK} {p r : Addr} {us vs : List (List Nat)} (ok : HsOk S) (hw : AllW S us) (lu : us.length ≤ 20000) (hv : AllW S vs) (lv : vs.length ≤ 20000) (h1 : SqL K H p (tS vs)) (h2 : SqL K H r (tS us)) (h : Q (.bl (decide (vs = us))) H) : rEqU K (.ref p) (.ref r) H Q := by
  refine k_eq_d (.lst h1 (dp_tS vs)) (.lst h2 (dp_tS us)) ((good_allW ok hv (by omega) 0).shaped (by decide)) ((good_allW ok hw (by omega) 0).shaped (by decide)) ?_
  rw [eqv_rows]
  exact h
theorem inV_sides (z : Str) : inV (V.str z) [V.str (Str.ofString "left"), V.str (Str.ofString "right")] = (decide (z = Str.ofString "left") || decide (z = Str.ofString "right")) := by
  show ((Str.ofString "left" == z) || ((Str.ofString "right" == z) || false)) = _
  rw [Bool.or_false]
  congr 1 <;> (rw [Bool.eq_iff_iff, beq_iff_eq, decide_eq_true_eq]; exact eq_comm)
theorem side_of (z : Str) : (∃ b, z = sdS b) ∨ (z ≠ Str.ofString "left" ∧ z ≠ Str.ofString "right") := by
  by_cases h1 : z = Str.ofString "left"
  · exact .inl ⟨false, h1⟩
  by_cases h2 : z = Str.ofString "right"
  · exact .inl ⟨true, h2⟩
  · exact .inr ⟨h1, h2⟩
theorem behS_no {S : HsD} {us : List (List Nat)} {place : Int} {z : Str} (h : z ≠ Str.ofString "left" ∧ z ≠ Str.ofString "right") : behS S us place z = none := by
  unfold behS
  rw [if_neg h.1, if_neg h.2]
theorem biteF_some {S : HsD} {us : List (List Nat)} {low : Nat} {b : Bool} {x y : List Nat} (h1 : us[low]? = some x) (h2 : us[low + 1]? = some y) : biteF S us low b = if eatsF S b (if b = true then x else y) (if b = true then y else x) = true then
      (if us.take low ++ madeF S b x y ++ us.drop (low + 2) = us then none else some (us.take low ++ madeF S b x y ++ us.drop (low + 2))) else none := by
  unfold biteF
  rw [h1, h2]
theorem biteF_out {S : HsD} {us : List (List Nat)} {low : Nat} {b : Bool} (h : us.length ≤ low + 1) : biteF S us low b = none := by
  unfold biteF
  rw [List.getElem?_eq_none h]
  cases us[low]? <;> rfl
theorem ok_behind (F : FnP K "behind" s_behind f fd) (hm : mg "behind" = some (.ref f)) (hC : HsC K) (f_len : mg "len" = none) (f_min : mg "min" = none) (c_House_tasted : CalleeM P w K mg base CX0 "House" "tasted" 1 (spTasted K)) (c_cut_long : Callee P w K mg base CX0 "cut_long" 2 [] (spCut K)) (c_grown : Callee P w K mg base CX0 "grown" 2 [] (spGrown K)) : Callee P w K mg base CX0 "behind" 3 [] (spBehind K) := by
  refine ⟨f, fd, _, [], F.ok sc_behind (fun vs H Q E h => ?hl) (fun cdv A outer s H vs Q E hr h => ⟨_, PSs.nox (pss_cons (ps_set (i := 4) sc_behind.nd rfl (by first | exact Or.inl rfl | exact Or.inr rfl) (pe_ifExp (pt_cmpR (op_eqK K hr.units) (pv 3) pe_str (nomark _)) (pe_op op_sub (pv 2) pe_int) (pe_op (op_addK K) (pv 2) pe_int)))
      (pss_cons (ps_if (PW.pt (pw_or (pt_cmpR (op_niK K) (pv 3) (pe_tup (pa_cons pe_str (pa_cons pe_str pa_nil))) (by rfl)) (pw_or (pt_not (pt_chain op_leU op_lt pe_int (pv 2) (pe_callB (call_lenK K) (by rfl) f_len PySem.boot_len (pa_cons (pv 1) pa_nil)))) (pw_or1 (pt_not (pt_chain op_leU op_lt pe_int (pv 4) (pe_callB (call_lenK K) (by rfl) f_len PySem.boot_len (pa_cons (pv 1) pa_nil)))))))) (pss_one (ps_ret pe_non)) pss_nil)
      (pss_cons (ps_par (by rfl) sc_behind.nd (i := 5) (j := 6) rfl rfl (by decide) rfl rfl (pa_cons (pe_ix (ix_k K) (pv 1) (pv 2) (fun _ _ => rfl)) (pa_cons (pe_ix (ix_k K) (pv 1) (pv 4) (fun _ _ => rfl)) pa_nil)) (by rfl))
      (pss_cons (ps_if (pt_cmpR (op_niTD K (u65 hr)) (pe_tup (pa_cons (pv 3) (pa_cons (pe_mt1 c_House_tasted hr (pv 0) (pa_cons (pv 5) pa_nil) pass0) (pa_cons (pe_mt1 c_House_tasted hr (pv 0) (pa_cons (pv 6) pa_nil) pass0) pa_nil)))) (pe_fld (pv 0) rfl) (by rfl)) (pss_one (ps_ret pe_non)) pss_nil)
      (pss_cons (ps_set (i := 7) sc_behind.nd rfl (by first | exact Or.inl rfl | exact Or.inr rfl) (pe_callB call_minK (by rfl) f_min (by decide +kernel) (pa_cons (pv 2) (pa_cons (pv 4) pa_nil))))
      (pss_cons (ps_set (i := 8) sc_behind.nd rfl (by first | exact Or.inl rfl | exact Or.inr rfl) (pe_op (op_addK K) (pe_op (op_addK K) (pe_slice (sl_k K) (pv 1) po_none (po_some (pv 7))) (pe_cl c_cut_long hr (pa_cons (pv 0) (pa_cons (pe_cl c_grown hr (pa_cons (pv 0) (pa_cons (pv 5) (pa_cons (pv 6) (pa_cons (pv 3) pa_nil)))) pass0) pa_nil)) pass0)) (pe_slice (sl_k K) (pv 1) (po_some (pe_op (op_addK K) (pv 7) pe_int)) po_none)))
      (pss_one (ps_ret (pe_ifExp (pt_cmpR (op_eqK K hr.units) (pv 8) (pv 1) (nomark _)) pe_non (pv 8)))))))))), ?rd⟩), hm, F.kp, F.bindsN fun _ _ _ _ _ _ us hl => match us, hl with | [_, _, _, _], _ => rfl, .nil⟩
  case hl =>
    obtain ⟨a, r, S, us, place, z, rfl, _⟩ := h
    rfl
  case rd =>
    obtain ⟨a, r, S, us, place, z, rfl, hs, ok, hx, hw, lu, q⟩ := h
    refine k_start (σ' := [some _, some _, some _, some _, none, none, none, none, none]) rfl ?_
    have lx := len_tS us
    have no : ∀ H', Same H H' → behS S us place z = none → Q .non H' := fun H' s e => q .non H' s (by rw [e]; exact rfl)
    rcases side_of z with ⟨sd, rfl⟩ | hz
    · rw [behS_sd] at no
      simp only [behS_sd] at q
      walk_at "g"
      rw [sdS_left]
      refine (show nIte (!sd) _ _ from ?_)
      cases sd with
      | false =>
        walk_at "g"
        refine k_nTup (by walk_at "sz") (fun p2 H2 n2 s2 e2 => ?_)
        walk_at "g"
        refine k_niT (sq_t e2) rfl rfl (b := false) (by rw [inV_sides]; decide +kernel) ?_
        walk_at "g"
        have out : ¬ (1 ≤ place ∧ place < us.length) → behF S us place false = none := fun h => by
          unfold behF
          by_cases h0 : (0 : Int) ≤ place - 1
          · rw [if_pos (by exact h0)]
            exact biteF_out (by show us.length ≤ (place - 1).toNat + 1; omega)
          · rw [if_neg (by exact h0)]
        refine k_dec (fun d1 => ?_) (fun d1 => ?_)
        rotate_left
        · walk_at "g"
          exact no _ s2 (out (by omega))
        walk_at "g"
        rw [lx]
        refine k_dec (fun d2 => ?_) (fun d2 => ?_)
        rotate_left
        · walk_at "g"
          exact no _ s2 (out (by omega))
        walk_at "g"
        refine k_dec (fun d3 => ?_) (fun d3 => ?_)
        rotate_left
        · walk_at "g"
          exact no _ s2 (out (by omega))
        walk_at "g"
        rw [lx]
        walk_at "w"
        obtain ⟨low, hlow⟩ : ∃ low : Nat, place - 1 = (low : Int) := ⟨(place - 1).toNat, by omega⟩
        have hp : place = ((low + 1 : Nat) : Int) := by omega
        have g1 : us[low]? = some us[low] := List.getElem?_eq_getElem (by omega)
        have g2 : us[low + 1]? = some us[low + 1] := List.getElem?_eq_getElem (by omega)
        have b1 := (hw.len ok) _ (List.getElem_mem (show low < us.length by omega))
        have b2 := (hw.len ok) _ (List.getElem_mem (show low + 1 < us.length by omega))
        generalize us[low] = x at g1 b1
        generalize us[low + 1] = y at g2 b2
        have eF : behF S us place false = if eatsF S false y x = true then (if us.take low ++ madeF S false x y ++ us.drop (low + 2) = us then none else some (us.take low ++ madeF S false x y ++ us.drop (low + 2))) else none := by
          unfold behF
          rw [show (if false = true then place else place - 1) = place - 1 from rfl, if_pos (by omega), show (place - 1).toNat = low by omega, biteF_some g1 g2]
          rfl
        refine k_ix_l (sm_l s2 hx) (at_n hp (getS g2)) ?_
        walk_at "g"
        refine k_ix_l (sm_l s2 hx) (at_n hlow (getS g1)) ?_
        walk_at "g"
        have hs2 := hs.sm s2
        obtain ⟨dx, r0, t0, R, L, h1, h2, h3, h4, h5, h6, h7, h8, h9⟩ := id hs2
        walk_at "g"
        refine ⟨a, S, y, rfl, hs2, ok, b2.2.2, ?_⟩
        walk_at "g"
        refine ⟨a, S, x, rfl, hs2, ok, b1.2.2, ?_⟩
        walk_at "g"
        refine k_nTup (by walk_at "sz") (fun p3 H3 n3 s3 e3 => ?_)
        have h13 := s3 _ _ h1
        walk_at "g"
        refine k_nFld h13 hC.c hC.n3 rfl ?_
        have tp := tasteF_in ok (u := y) b2.2.2
        have tq := tasteF_in ok (u := x) b1.2.2
        refine ⟨_, _, dp_keys (k := kEat false (tasteF S y) (tasteF S x)) (sq_t e3), .tup (sm_t s3 h5) (dp_trs fun q hq => sm_t s3 (h6 q hq)), shaped_eat false tp.1 tp.2 tq.1 tq.2, deep_tr ok h8 h7, ?_⟩
        rw [any_keys, any_perm h8]
        have hr3 : ∀ (Hx : Hp), Same H3 Hx → SqL K Hx r (tS us) := fun Hx s => sm_l s (sm_l s3 (sm_l s2 hx))
        cases he : eatsF S false y x with
        | false =>
          unfold eatsF at he
          rw [he]
          walk_at "g"
          refine no _ (s2.trans s3) ?_
          rw [eF]
          unfold eatsF
          rw [he]
          rfl
        | true =>
          rw [he, if_pos rfl] at eF
          unfold eatsF at he
          rw [he]
          walk_at "g"
          rw [show min place (place - 1) = (low : Int) by omega]
          walk_at "g"
          refine k_sl_l (hr3 _ (Same.refl _)) (fun p4 H4 n4 s4 e4 => ?_)
          rw [cutV_to, tS_take] at e4
          walk_at "g"
          refine ⟨a, S, y, x, false, rfl, hs2.sm (s3.trans s4), ok, by omega, by omega, ?_⟩
          walk_at "g"
          have lg := growF_len S false y x
          have p2 := ok.p2
          refine ⟨a, S, growF S false y x, rfl, hs2.sm (s3.trans s4), ok, by omega, fun p5 H5 n5 s5 e5 => ?_⟩
          have cw := cutW_words ok _ (growF S false y x) (Nat.le_refl _) (by omega) (growF_in ok b2.2.2 b1.2.2)
          refine k_add_l (s5 _ _ e4) e5 (by rw [len_tS, len_tS, List.length_take]; omega) (fun p6 H6 n6 s6 e6 => ?_)
          walk_at "g"
          refine k_sl_l (hr3 _ (s4.trans (s5.trans s6))) (fun p7 H7 n7 s7 e7 => ?_)
          rw [cutV_fromI _ _ (by omega), show ((low : Int) + 2).toNat = low + 2 by omega, tS_drop] at e7
          refine k_add_l (s7 _ _ e6) e7 (by rw [List.length_append, len_tS, len_tS, len_tS, List.length_take, List.length_drop]; omega) (fun p8 H8 n8 s8 e8 => ?_)
          rw [← tS_app, ← tS_app, show cutW S (growF S false y x) = madeF S false x y from rfl] at e8
          have s38 := s4.trans (s5.trans (s6.trans (s7.trans s8)))
          have sH8 : Same H H8 := (s2.trans s3).trans s38
          have n8' : H p8 = none := (s2.trans (s3.trans (s4.trans (s5.trans (s6.trans s7))))).free n8
          walk_at "g"
          refine row_eq ok hw (by omega) (made_in ok hw (by omega) (fun v hv => (cutW_words ok _ (growF S false y x) (Nat.le_refl _) (by omega) (growF_in ok b2.2.2 b1.2.2)).1 v hv)) (by rw [List.length_append, List.length_append, List.length_take, List.length_drop]; have := cw.2; show _ + (cutW S (growF S false y x)).length + _ ≤ 20000; omega) (sq_l e8) (hr3 _ s38) ?_
          walk_at "g"
          refine k_dec (fun d => ?_) (fun d => ?_)
          · rw [if_pos (show us.take low ++ madeF S false x y ++ us.drop (low + 2) = us from d)] at eF
            walk_at "g"
            exact no _ sH8 eF
          · rw [if_neg (show ¬ us.take low ++ madeF S false x y ++ us.drop (low + 2) = us from d)] at eF
            walk_at "g"
            exact q _ _ sH8 (by rw [eF]; exact ⟨p8, rfl, n8', e8⟩)
      | true =>
        walk_at "g"
        refine k_nTup (by walk_at "sz") (fun p2 H2 n2 s2 e2 => ?_)
        walk_at "g"
        refine k_niT (sq_t e2) rfl rfl (b := false) (by rw [inV_sides]; decide +kernel) ?_
        walk_at "g"
        have out : ¬ (0 ≤ place ∧ place + 1 < us.length) → behF S us place true = none := fun h => by
          unfold behF
          by_cases h0 : (0 : Int) ≤ place
          · rw [if_pos (by exact h0)]
            exact biteF_out (by show us.length ≤ place.toNat + 1; omega)
          · rw [if_neg (by exact h0)]
        refine k_dec (fun d1 => ?_) (fun d1 => ?_)
        rotate_left
        · walk_at "g"
          exact no _ s2 (out (by omega))
        walk_at "g"
        rw [lx]
        refine k_dec (fun d2 => ?_) (fun d2 => ?_)
        rotate_left
        · walk_at "g"
          exact no _ s2 (out (by omega))
        walk_at "g"
        walk_at "w"
        rw [lx]
        refine k_dec (fun d3 => ?_) (fun d3 => ?_)
        rotate_left
        · walk_at "g"
          exact no _ s2 (out (by omega))
        walk_at "g"
        obtain ⟨low, hlow⟩ : ∃ low : Nat, place = (low : Int) := ⟨place.toNat, by omega⟩
        have hp : place + 1 = ((low + 1 : Nat) : Int) := by omega
        have g1 : us[low]? = some us[low] := List.getElem?_eq_getElem (by omega)
        have g2 : us[low + 1]? = some us[low + 1] := List.getElem?_eq_getElem (by omega)
        have b1 := (hw.len ok) _ (List.getElem_mem (show low < us.length by omega))
        have b2 := (hw.len ok) _ (List.getElem_mem (show low + 1 < us.length by omega))
        generalize us[low] = x at g1 b1
        generalize us[low + 1] = y at g2 b2
        have eF : behF S us place true = if eatsF S true x y = true then (if us.take low ++ madeF S true x y ++ us.drop (low + 2) = us then none else some (us.take low ++ madeF S true x y ++ us.drop (low + 2))) else none := by
          unfold behF
          rw [show (if true = true then place else place - 1) = place from rfl, if_pos (by omega), show place.toNat = low by omega, biteF_some g1 g2]
          rfl
        refine k_ix_l (sm_l s2 hx) (at_n hlow (getS g1)) ?_
        walk_at "g"
        refine k_ix_l (sm_l s2 hx) (at_n hp (getS g2)) ?_
        walk_at "g"
        have hs2 := hs.sm s2
        obtain ⟨dx, r0, t0, R, L, h1, h2, h3, h4, h5, h6, h7, h8, h9⟩ := id hs2
        walk_at "g"
        refine ⟨a, S, x, rfl, hs2, ok, b1.2.2, ?_⟩
        walk_at "g"
        refine ⟨a, S, y, rfl, hs2, ok, b2.2.2, ?_⟩
        walk_at "g"
        refine k_nTup (by walk_at "sz") (fun p3 H3 n3 s3 e3 => ?_)
        have h13 := s3 _ _ h1
        walk_at "g"
        refine k_nFld h13 hC.c hC.n3 rfl ?_
        have tp := tasteF_in ok (u := y) b2.2.2
        have tq := tasteF_in ok (u := x) b1.2.2
        refine ⟨_, _, dp_keys (k := kEat true (tasteF S x) (tasteF S y)) (sq_t e3), .tup (sm_t s3 h5) (dp_trs fun q hq => sm_t s3 (h6 q hq)), shaped_eat true tq.1 tq.2 tp.1 tp.2, deep_tr ok h8 h7, ?_⟩
        rw [any_keys, any_perm h8]
        have hr3 : ∀ (Hx : Hp), Same H3 Hx → SqL K Hx r (tS us) := fun Hx s => sm_l s (sm_l s3 (sm_l s2 hx))
        cases he : eatsF S true x y with
        | false =>
          unfold eatsF at he
          rw [he]
          walk_at "g"
          refine no _ (s2.trans s3) ?_
          rw [eF]
          unfold eatsF
          rw [he]
          rfl
        | true =>
          rw [he, if_pos rfl] at eF
          unfold eatsF at he
          rw [he]
          walk_at "g"
          rw [show min place (place + 1) = (low : Int) by omega]
          walk_at "g"
          refine k_sl_l (hr3 _ (Same.refl _)) (fun p4 H4 n4 s4 e4 => ?_)
          rw [cutV_to, tS_take] at e4
          walk_at "g"
          refine ⟨a, S, x, y, true, rfl, hs2.sm (s3.trans s4), ok, by omega, by omega, ?_⟩
          walk_at "g"
          have lg := growF_len S true x y
          have p2 := ok.p2
          refine ⟨a, S, growF S true x y, rfl, hs2.sm (s3.trans s4), ok, by omega, fun p5 H5 n5 s5 e5 => ?_⟩
          have cw := cutW_words ok _ (growF S true x y) (Nat.le_refl _) (by omega) (growF_in ok b1.2.2 b2.2.2)
          refine k_add_l (s5 _ _ e4) e5 (by rw [len_tS, len_tS, List.length_take]; omega) (fun p6 H6 n6 s6 e6 => ?_)
          walk_at "g"
          refine k_sl_l (hr3 _ (s4.trans (s5.trans s6))) (fun p7 H7 n7 s7 e7 => ?_)
          rw [cutV_fromI _ _ (by omega), show ((low : Int) + 2).toNat = low + 2 by omega, tS_drop] at e7
          refine k_add_l (s7 _ _ e6) e7 (by rw [List.length_append, len_tS, len_tS, len_tS, List.length_take, List.length_drop]; omega) (fun p8 H8 n8 s8 e8 => ?_)
          rw [← tS_app, ← tS_app, show cutW S (growF S true x y) = madeF S true x y from rfl] at e8
          have s38 := s4.trans (s5.trans (s6.trans (s7.trans s8)))
          have sH8 : Same H H8 := (s2.trans s3).trans s38
          have n8' : H p8 = none := (s2.trans (s3.trans (s4.trans (s5.trans (s6.trans s7))))).free n8
          walk_at "g"
          refine row_eq ok hw (by omega) (made_in ok hw (by omega) (fun v hv => (cutW_words ok _ (growF S true x y) (Nat.le_refl _) (by omega) (growF_in ok b1.2.2 b2.2.2)).1 v hv)) (by rw [List.length_append, List.length_append, List.length_take, List.length_drop]; have := cw.2; show _ + (cutW S (growF S true x y)).length + _ ≤ 20000; omega) (sq_l e8) (hr3 _ s38) ?_
          walk_at "g"
          refine k_dec (fun d => ?_) (fun d => ?_)
          · rw [if_pos (show us.take low ++ madeF S true x y ++ us.drop (low + 2) = us from d)] at eF
            walk_at "g"
            exact no _ sH8 eF
          · rw [if_neg (show ¬ us.take low ++ madeF S true x y ++ us.drop (low + 2) = us from d)] at eF
            walk_at "g"
            exact q _ _ sH8 (by rw [eF]; exact ⟨p8, rfl, n8', e8⟩)
    · walk_at "g"
      rw [decide_eq_false hz.1]
      walk_at "g"
      refine k_nTup (by walk_at "sz") (fun p2 H2 n2 s2 e2 => ?_)
      walk_at "g"
      refine k_niT (sq_t e2) rfl rfl (b := true) (by rw [inV_sides, decide_eq_false hz.1, decide_eq_false hz.2]; rfl) ?_
      walk_at "g"
      exact no _ s2 (behS_no hz)
end
end Lw
set_option autoImplicit true
set_option pp.maxSteps 1200
set_option Elab.async false
set_option linter.all false
set_option maxRecDepth 100000
set_option maxHeartbeats 1000000
namespace Lw
open PySem PySem.Spec PyProof.Rows L2 Gk

local macro_rules | `(tactic| walk_at "hp") => `(tactic| first | assumption | exact upd_same | (refine' (upd_ne ?n).trans ?h; (case n => assumption); (case h => walk_at "hp")) | (refine' sm_get ?s ?h; (case s => assumption); (case h => walk_at "hp")))
local macro_rules | `(tactic| walk_at "sq") => `(tactic| first | assumption | (refine' sq_l ?h; (case h => walk_at "hp")) | (refine' sm_l ?s ?h; (case s => assumption); (case h => walk_at "sq")))
local macro_rules | `(tactic| walk_at "st") => `(tactic| first | assumption | (refine' sq_t ?h; (case h => walk_at "hp")) | (refine' sm_t ?s ?h; (case s => assumption); (case h => walk_at "st")))
local macro_rules | `(tactic| walk_at "bg") => `(tactic| first | assumption | (refine' BagOk.sm ?s ?h; (case s => assumption); (case h => walk_at "bg")))
local macro_rules | `(tactic| walk_at "sm") => `(tactic| first | assumption | exact Same.refl _ | (refine' Same.trans ?h ?s; (case s => assumption); (case h => walk_at "sm")))
local macro_rules | `(tactic| walk_at "hs") => `(tactic| first | assumption | (refine' HsAt.sm ?s ?h; (case s => assumption); (case h => walk_at "hs")))
local macro_rules | `(tactic| walk_at "ms") => `(tactic| first | assumption | (refine' MAt.sm ?s ?h; (case s => assumption); (case h => walk_at "ms")))
local macro_rules | `(tactic| walk_at "md") => `(tactic| first | assumption | (refine' MDk.sm ?s ?h; (case s => assumption); (case h => walk_at "md")))
local macro_rules | `(tactic| walk_at "dp") => `(tactic| first | assumption | (refine' dp_sm ?s ?h; (case s => assumption); (case h => walk_at "dp")))
local macro_rules | `(tactic| walk_at "sz") => `(tactic| first | decide | assumption | omega | (simp only [List.length_cons, List.length_nil, List.length_map, List.length_append]; omega))
local macro_rules | `(tactic| walk_at "g1") => `(tactic| first
  | with_reducible refine k_seq ?_
  | with_reducible refine k_itB ?_
  | with_reducible refine k_next ?_
  | with_reducible refine k_asg ?_
  | with_reducible refine k_name ?_
  | with_reducible refine k_ret ?_
  | with_reducible refine k_retN ?_
  | with_reducible refine k_drop ?_
  | with_reducible refine k_ifs ?_
  | with_reducible refine k_brk ?_
  | with_reducible refine k_cont ?_
  | with_reducible refine k_ipI ?_
  | with_reducible refine k_test ?_
  | with_reducible refine k_tB ?_
  | with_reducible refine k_bl ?_
  | with_reducible refine k_not ?_
  | with_reducible refine k_and ?_
  | with_reducible refine k_or ?_
  | with_reducible refine k_yes ?_
  | with_reducible refine k_true ?_
  | with_reducible refine k_false ?_
  | with_reducible refine k_nt ?_
  | with_reducible refine k_c ?_
  | with_reducible refine k_op ?_
  | with_reducible refine k_un ?_
  | with_reducible refine k_if ?_
  | with_reducible refine k_chain ?_
  | with_reducible refine k_nil ?_
  | with_reducible refine k_cons ?_
  | with_reducible refine k_cb ?_
  | with_reducible refine k_call ?_
  | with_reducible refine k_callS ?_
  | with_reducible refine k_andV ?_
  | with_reducible refine k_orV ?_
  | with_reducible refine k_notV ?_
  | with_reducible refine k_lst ?_
  | with_reducible refine k_tup ?_
  | with_reducible refine k_nopart ?_
  | with_reducible refine k_part ?_
  | with_reducible refine k_nInt ?_
  | with_reducible refine k_sl ?_
  | with_reducible refine k_bm ?_
  | with_reducible refine k_bm0 ?_
  | with_reducible refine k_nTyS ?_
  | with_reducible refine k_m1 ?_
  | with_reducible refine k_m0 ?_
  | with_reducible refine k_nStr ?_
  | with_reducible refine k_I0 ?_
  | with_reducible refine k_U ?_
  | with_reducible refine k_add_i ?_
  | with_reducible refine k_eq_i ?_
  | with_reducible refine k_eq_s ?_
  | with_reducible refine k_eq_b ?_
  | with_reducible refine k_ne_i ?_
  | with_reducible refine k_ne_s ?_
  | with_reducible refine k_ne_b ?_
  | with_reducible refine k_le_i ?_
  | with_reducible refine k_le_s ?_
  | with_reducible refine k_gnil ?_
  | with_reducible refine k_gcons ?_
  | with_reducible refine k_gsub ?_
  | with_reducible refine k_for ?_
  | with_reducible refine k_lc ?_
  | with_reducible refine k_rng1 ?_
  | with_reducible refine k_rng2 ?_
  | with_reducible refine k_itl ?_
  | with_reducible refine k_itt ?_
  | with_reducible refine k_its ?_
  | with_reducible refine k_ite ?_
  | with_reducible refine k_iteB ?_
  | with_reducible refine k_lrg2 ?_
  | with_reducible refine k_itz ?_
  | with_reducible refine k_nIts ?_
  | with_reducible refine k_inS ?_
  | with_reducible refine k_niS ?_
  | with_reducible refine k_mk ?_
  | with_reducible refine k_meth ?_
  | with_reducible refine k_fld ?_
  | with_reducible refine k_sfld ?_
  | with_reducible refine k_dg ?_
  | with_reducible refine k_dp ?_
  | with_reducible refine k_pr ?_
  | with_reducible refine k_pr0 ?_
  | with_reducible refine k_sg ?_
  | with_reducible refine k_lc2 ?_
  | with_reducible refine k_callN ?_
  | with_reducible refine k_callNS ?_
  | with_reducible refine k_par ?_
  | with_reducible refine k_nPar ?_
  | with_reducible refine k_isNn ?_
  | with_reducible refine k_isNr ?_
  | with_reducible refine k_ntNn ?_
  | with_reducible refine k_ntNr ?_
  | with_reducible refine k_min2 ?_
  | with_reducible refine k_max2 ?_
  | with_reducible refine k_intB ?_
  | with_reducible refine k_intI ?_
  | with_reducible refine k_isBl ?_
  | with_reducible refine k_ntBl ?_
  | ((with_reducible refine' k_var ?kv ?_); (case kv => exact rfl))
  | ((with_reducible refine' k_aug ?kv ?_); (case kv => exact rfl))
  | ((with_reducible refine' k_ix_l ?ks ?ki ?_); (case ks => walk_at "sq"); (case ki => exact rfl))
  | ((with_reducible refine' k_ix_t ?ks ?ki ?_); (case ks => walk_at "st"); (case ki => exact rfl))
  | ((with_reducible refine' k_len_l ?ks ?_); (case ks => walk_at "sq"))
  | ((with_reducible refine' k_len_t ?ks ?_); (case ks => walk_at "st"))
  | ((with_reducible refine' k_setL ?ks ?ki ?_); (case ks => walk_at "hp"); (case ki => exact rfl))
  | ((with_reducible refine' k_nTyL ?ks ?_); (case ks => walk_at "sq"))
  | ((with_reducible refine' k_nItl ?ks ?_); (case ks => walk_at "sq"))
  | ((with_reducible refine' k_nItt ?ks ?_); (case ks => walk_at "st"))
  | ((with_reducible refine' k_nIte ?ks ?_); (case ks => walk_at "sq"))
  | ((with_reducible refine' k_mul ?km ?_); (case km => first | exact Or.inr ⟨by decide, by decide⟩ | exact Or.inl ⟨by decide, by decide⟩))
  | ((with_reducible refine' k_I ?km ?_); (case km => first | assumption | decide | exact ⟨by decide, by decide +kernel⟩ | exact ⟨by decide, by decide, by decide⟩))
  | ((with_reducible refine' k_nMeth ?kp ?kl ?_); (case kp => walk_at "hp"); (case kl => exact rfl))
  | ((with_reducible refine' k_nFld ?kp ?kc ?kn ?kl ?_); (case kp => walk_at "hp"); (case kc => assumption); (case kn => assumption); (case kl => exact rfl))
  | ((with_reducible refine' k_nSFld ?kp ?kc ?kn ?kl ?_); (case kp => walk_at "hp"); (case kc => assumption); (case kn => assumption); (case kl => exact of_decide_eq_true rfl))
  | ((with_reducible refine' k_nDg ?kp ?kl ?_); (case kp => walk_at "hp"); (case kl => exact rfl))
  | ((with_reducible refine' k_nRng1 ?k1 ?k2 ?_); (case k1 => omega); (case k2 => omega))
  | ((with_reducible refine' k_nKw ?k1 ?k2 ?_); (case k1 => exact rfl); (case k2 => exact rfl))
  | ((with_reducible refine' k_hsm ?kh ?_); (case kh => walk_at "hs"))
  | ((with_reducible refine' k_nMethH ?kh ?kl ?_); (case kh => walk_at "hs"); (case kl => exact fun _ _ => rfl))
  | ((with_reducible refine' k_mLet ?kh ?_); (case kh => walk_at "ms"))
  | ((with_reducible refine' k_mChew ?kh ?_); (case kh => walk_at "ms"))
  | ((with_reducible refine' k_mPut ?kh ?_); (case kh => walk_at "ms"))
  | ((with_reducible refine' k_mMost ?kh ?_); (case kh => walk_at "ms"))
  | ((with_reducible refine' k_mCut ?kh ?_); (case kh => walk_at "ms"))
  | ((with_reducible refine' k_mTab ?kh ?_); (case kh => walk_at "md"))
  | ((with_reducible refine' k_mEats ?kh ?_); (case kh => walk_at "md"))
  | ((with_reducible refine' k_gtup ?ks ?kl ?_); (case ks => walk_at "st"); (case kl => exact rfl)))
local macro_rules | `(tactic| walk_at "g") => `(tactic| repeat (walk_at "g1"))
local macro_rules | `(tactic| walk_at "w1") => `(tactic| first
  | walk_at "g1"
  | ((with_reducible refine' k_decT ?kp ?_); (case kp => omega))
  | ((with_reducible refine' k_decF ?kp ?_); (case kp => omega))
  | ((with_reducible refine' k_decNT ?kp ?_); (case kp => omega))
  | ((with_reducible refine' k_decNF ?kp ?_); (case kp => omega)))
local macro_rules | `(tactic| walk_at "w") => `(tactic| repeat (walk_at "w1"))

section
variable {P : Program} {w : World} {K : PySem.W.Frag} {mg : Str → Option Value} {base : Heap} {f : Addr} {fd : FuncData}
/-! ### all bites -/
abbrev Bt : Type := Nat × Bool
def btAt (S : HsD) (us : List (List Nat)) (i : Nat) : List (Bt × List (List Nat)) := [false, true].filterMap fun b => (behF S us (i : Nat) b).map fun m => ((i, b), m)
def bitesF (S : HsD) (us : List (List Nat)) : List (Bt × List (List Nat)) := (List.range us.length).flatMap (btAt S us)
def dBt (x : Bt) : PyData := .tuple [.int (x.1 : Nat), .str (sdS x.2)]
def dRow (us : List (List Nat)) : PyData := .list (us.map fun u => PyData.str (tx u))
def dB1 (x : Bt × List (List Nat)) : PyData := dBt x.1
theorem btAt_len (S : HsD) (us : List (List Nat)) (i : Nat) : (btAt S us i).length ≤ 2 := List.length_filterMap_le ..
theorem flat_len {S : HsD} {us : List (List Nat)} : ∀ n, ((List.range n).flatMap (btAt S us)).length ≤ 2 * n
  | 0 => Nat.le_refl _
  | n + 1 => by
    rw [List.range_succ, List.flatMap_append, List.length_append]
    have h1 := flat_len (S := S) (us := us) n
    have h2 := btAt_len S us n
    simp only [List.flatMap_cons, List.flatMap_nil, List.append_nil]
    omega
/-- all bites up to (i, the first j sides) -/
def bitesTo (S : HsD) (us : List (List Nat)) (i j : Nat) : List (Bt × List (List Nat)) := (List.range i).flatMap (btAt S us) ++ ([false, true].take j).filterMap fun b => (behF S us (i : Nat) b).map fun m => ((i, b), m)
theorem bitesTo_len (S : HsD) (us : List (List Nat)) (i j : Nat) : (bitesTo S us i j).length ≤ 2 * i + 2 := by
  unfold bitesTo
  rw [List.length_append]
  have h1 := flat_len (S := S) (us := us) i
  have h2 : (([false, true].take j).filterMap fun b => (behF S us (i : Nat) b).map fun m => ((i, b), m)).length ≤ ([false, true].take j).length := List.length_filterMap_le ..
  rw [List.length_take] at h2
  have : [false, true].length = 2 := rfl
  omega
theorem bitesTo_two (S : HsD) (us : List (List Nat)) (i : Nat) : bitesTo S us i 2 = bitesTo S us (i + 1) 0 := by
  unfold bitesTo
  rw [List.range_succ, List.flatMap_append]
  simp [btAt]
theorem bitesTo_next {S : HsD} {us : List (List Nat)} {i j : Nat} {b : Bool} (h : [false, true][j]? = some b) : bitesTo S us i (j + 1) = match behF S us (i : Nat) b with
    | none => bitesTo S us i j
    | some m => bitesTo S us i j ++ [((i, b), m)] := by
  unfold bitesTo
  rw [take_more h, List.filterMap_append, ← List.append_assoc]
  cases e : behF S us (i : Nat) b with
  | none => simp [e]
  | some m => simp [e]
theorem bitesTo_all (S : HsD) (us : List (List Nat)) : bitesTo S us us.length 0 = bitesF S us := by
  unfold bitesTo bitesF
  simp
theorem behF_of {S : HsD} {us m : List (List Nat)} {place : Int} {b : Bool} (h : behF S us place b = some m) : ∃ (low : Nat) (x y : List Nat), us[low]? = some x ∧ us[low + 1]? = some y ∧ (if b = true then place else place - 1) = (low : Int) ∧ eatsF S b (if b = true then x else y) (if b = true then y else x) = true ∧ m = us.take low ++ madeF S b x y ++ us.drop (low + 2) ∧ m ≠ us := by
  unfold behF at h
  generalize (if b = true then place else place - 1) = q at h ⊢
  by_cases h0 : 0 ≤ q
  · rw [if_pos h0] at h
    unfold biteF at h
    cases e1 : us[q.toNat]? with
    | none => rw [e1] at h; cases h
    | some x =>
      cases e2 : us[q.toNat + 1]? with
      | none => rw [e1, e2] at h; cases h
      | some y =>
        rw [e1, e2] at h
        dsimp only at h
        by_cases h3 : eatsF S b (if b = true then x else y) (if b = true then y else x) = true
        · rw [if_pos h3] at h
          by_cases h4 : us.take q.toNat ++ madeF S b x y ++ us.drop (q.toNat + 2) = us
          · rw [if_pos h4] at h
            cases h
          · rw [if_neg h4] at h
            have e := Option.some.inj h
            exact ⟨q.toNat, x, y, e1, e2, by omega, h3, e.symm, fun z => h4 (by rw [e, z])⟩
        · rw [if_neg h3] at h
          cases h
  · rw [if_neg h0] at h
    cases h
theorem behF_words {S : HsD} (ok : HsOk S) {us m : List (List Nat)} {place : Int} {b : Bool} (hw : AllW S us) (h : behF S us place b = some m) : AllW S m ∧ m.length ≤ us.length + 8 := by
  obtain ⟨low, x, y, h1, h2, _, _, rfl, _⟩ := behF_of h
  have lx := hw.len ok x (List.mem_of_getElem? h1)
  have ly := hw.len ok y (List.mem_of_getElem? h2)
  have hl := (List.getElem?_eq_some_iff.mp h2).1
  have p2 := ok.p2
  have lg := growF_len S b (if b = true then x else y) (if b = true then y else x)
  have in1 : ∀ c ∈ (if b = true then x else y), c ∈ S.ls := by split <;> simp_all
  have in2 : ∀ c ∈ (if b = true then y else x), c ∈ S.ls := by split <;> simp_all
  have l1 : 1 ≤ (if b = true then x else y).length ∧ (if b = true then x else y).length ≤ 3 := by split <;> simp_all
  have l2 : (if b = true then y else x).length ≤ 3 := by split <;> simp_all
  have cw := cutW_words ok _ _ (Nat.le_refl _) (by rw [lg]; omega) (growF_in ok in1 in2)
  refine ⟨made_in ok hw hl cw.1, ?_⟩
  rw [List.length_append, List.length_append, List.length_take, List.length_drop]
  have e : (madeF S b x y).length ≤ (growF S b (if b = true then x else y) (if b = true then y else x)).length := cw.2
  omega
theorem y_rng {i : Nat} {H : Hp} {x : V} {H' : Hp} (h : YFn (fun i => V.int (0 + ((i : Nat) : Int))) i H x H') : H' = H ∧ x = .int (i : Nat) := ⟨h.1, by rw [h.2]; show V.int (0 + ((i : Nat) : Int)) = _; rw [Int.zero_add]⟩
theorem bitesF_in {S : HsD} {us : List (List Nat)} {x : Bt × List (List Nat)} : x ∈ bitesF S us ↔ x.1.1 < us.length ∧ behF S us (x.1.1 : Nat) x.1.2 = some x.2 := by
  obtain ⟨⟨i, b⟩, m⟩ := x
  unfold bitesF btAt
  rw [List.mem_flatMap]
  constructor
  · rintro ⟨k, hk, h⟩
    obtain ⟨b', _, h⟩ := List.mem_filterMap.mp h
    obtain ⟨m', h1, h2⟩ := Option.map_eq_some_iff.mp h
    cases h2
    exact ⟨List.mem_range.mp hk, h1⟩
  · rintro ⟨h1, h2⟩
    refine ⟨i, List.mem_range.mpr h1, List.mem_filterMap.mpr ⟨b, by cases b <;> simp, ?_⟩⟩
    dsimp only at h2 ⊢
    rw [h2]
    rfl
theorem dp_btI {H : Hp} {v : V} {x : Bt} (h : Dp K H v (dBt x)) : ∃ t, v = .ref t ∧ SqT K H t [.int (x.1 : Nat), .str (sdS x.2)] := by
  obtain ⟨t, a, b, e, h1, h2, h3⟩ := dp_tup2I h
  rw [dp_intI h2, dp_strI h3] at h1
  exact ⟨t, e, h1⟩
/-- an entry: a tuple of a bite and the row behind it, which is a list of its own -/
def BmAt (K : PySem.W.Frag) (H0 H : Hp) (v : V) (x : Bt × List (List Nat)) : Prop := ∃ t tb tr, v = .ref t ∧ SqT K H t [.ref tb, .ref tr] ∧ SqT K H tb [.int (x.1.1 : Nat), .str (sdS x.1.2)] ∧ H tr = some (.lst (tS x.2)) ∧ H0 tr = none
def BmAll (K : PySem.W.Frag) (H0 H : Hp) : List V → List (Bt × List (List Nat)) → Prop
  | [], [] => True
  | v :: vs, x :: xs => BmAt K H0 H v x ∧ BmAll K H0 H vs xs
  | _, _ => False
theorem BmAll.len {H0 H : Hp} : ∀ {vs : List V} {xs : List (Bt × List (List Nat))}, BmAll K H0 H vs xs → vs.length = xs.length
  | [], [], _ => rfl
  | v :: vs, x :: xs, h => by rw [List.length_cons, List.length_cons, BmAll.len h.2]
  | [], x :: xs, h => h.elim
  | v :: vs, [], h => h.elim
theorem badAt_none {S : HsD} (ok : HsOk S) {us : List (List Nat)} (h : badAt S us = none) : AllW S us ∧ us.length ≤ 12 := by
  unfold badAt at h
  split at h
  · cases h
  · rename_i hf
    split at h
    · cases h
    · rename_i hl
      unfold firstBad at hf
      rw [List.findIdx?_eq_none_iff] at hf
      rw [List.take_of_length_le (by omega)] at hf
      exact ⟨fun u hu => word_isW ok (by have := hf u hu; simpa using this), by omega⟩
/-! ### one bite done -/
/-! ### an end -/
/-! ### bites one behind the other -/
/-! ### kinds -/
end
end Lw
set_option autoImplicit true
set_option pp.maxSteps 1200
set_option Elab.async false
set_option linter.all false
set_option maxRecDepth 100000
set_option maxHeartbeats 1000000
namespace Lw
open PySem PySem.Spec PyProof.Rows L2 Gk
section
/-! ### rows that stood ahead, in plain Lean -/
def ctL (u : List Nat) (lo hi : Option Int) : List Nat := (u.drop (HT.sIx u.length 0 lo)).take (HT.sIx u.length u.length hi - HT.sIx u.length 0 lo)
theorem cutS_tx (u : List Nat) (lo hi : Option Int) : cutS (tx u) lo hi = tx (ctL u lo hi) := by
  refine TL.ext_tl ?_
  rw [tl_cutS, tl_tx, tl_tx, len_tx]
  rfl
theorem ctL_in {u : List Nat} {lo hi : Option Int} {c : Nat} (h : c ∈ ctL u lo hi) : c ∈ u := List.mem_of_mem_drop (List.mem_of_mem_take h)
theorem ctL_len (u : List Nat) (lo hi : Option Int) : (ctL u lo hi).length ≤ u.length := by
  unfold ctL
  rw [List.length_take, List.length_drop]
  omega
theorem ctL_to (u : List Nat) (n : Nat) : ctL u none (some (n : Int)) = u.take n := by
  unfold ctL
  rw [HT.sIx_nat]
  show (u.drop 0).take (min n u.length - 0) = _
  rw [List.drop_zero, Nat.sub_zero, ← List.take_eq_take_min]
theorem ctL_from (u : List Nat) (n : Nat) : ctL u (some (n : Int)) none = u.drop n := by
  unfold ctL
  rw [HT.sIx_nat]
  show (u.drop (min n u.length)).take (u.length - min n u.length) = _
  rw [List.take_of_length_le (by rw [List.length_drop]; omega)]
  by_cases e : n ≤ u.length
  · rw [Nat.min_eq_left e]
  · rw [Nat.min_eq_right (by omega), List.drop_length, List.drop_of_length_le (by omega)]
theorem ctL_mid (u : List Nat) (m n : Nat) (h2 : m ≤ n) : ctL u (some (m : Int)) (some (n : Int)) = (u.drop m).take (n - m) := by
  unfold ctL
  rw [HT.sIx_nat, HT.sIx_nat]
  by_cases e : m ≤ u.length
  · rw [Nat.min_eq_left e, List.take_eq_take_iff, List.length_drop]
    omega
  · rw [List.drop_of_length_le (i := min m u.length) (by omega), List.drop_of_length_le (i := m) (by omega), List.take_nil, List.take_nil]
/-- whether of a word a rest is left when it is eaten on a side -/
def leftF (S : HsD) (rest : List Nat) (b : Bool) (u : List Nat) : Bool := if rest = [] then decide ((u.length : Int) ≤ S.ch) else decide ((u.length : Int) = (rest.length : Int) + S.ch) && (if b = true then decide (u.drop S.ch.toNat = rest) else decide (u.take rest.length = rest))
def eatF (S : HsD) (rest : List Nat) (b : Bool) : List (List Nat) := (wordsF S.ls S.mo.toNat).filter (leftF S rest b)
/-- the eater, the rest, the edge of a long word by the eater's size -/
def parQ (S : HsD) (long : List Nat) (b : Bool) (z : Int) : List Nat × List Nat × List Nat :=
  if b = true then (ctL long (some (S.pt.length : Int)) (some ((S.pt.length : Int) + z)), ctL long (some ((S.pt.length : Int) + z)) none, ctL long none (some (S.pt.length : Int)))
  else (ctL long (some (max 0 ((long.length : Int) - (S.pt.length : Int) - z))) (some ((long.length : Int) - (S.pt.length : Int))), ctL long none (some (max 0 ((long.length : Int) - (S.pt.length : Int) - z))), ctL long (some ((long.length : Int) - (S.pt.length : Int))) none)
def parF (S : HsD) (long : List Nat) (b : Bool) (z : Int) : List (List Nat × List Nat) :=
  if ((parQ S long b z).1.length : Int) = z ∧ (parQ S long b z).2.2 = S.pt then (eatF S (parQ S long b z).2.1 b).map fun u => ((parQ S long b z).1, u) else []
def partF (S : HsD) (long : List Nat) (b : Bool) : List (List Nat × List Nat) := (List.range S.mo.toNat).flatMap fun i => parF S long b (1 + (i : Nat))
theorem in_words {S : HsD} {u : List Nat} (h1 : 1 ≤ u.length) (h2 : (u.length : Int) ≤ S.mo) (hc : ∀ c ∈ u, c ∈ S.ls) : u ∈ wordsF S.ls S.mo.toNat := List.mem_flatMap.mpr ⟨u.length - 1, List.mem_range.mpr (by omega), mem_lv _ _ _ (by omega) hc⟩
theorem words_14 {S : HsD} (ok : HsOk S) : (wordsF S.ls S.mo.toNat).length ≤ 14 := by
  have m1 := ok.m1
  have m3 := ok.m3
  have mw := ok.mw
  have e : ∀ k : Nat, ((S.ls.length : Int) ^ k) = ((S.ls.length ^ k : Nat) : Int) := fun k => by rw [Int.natCast_pow]
  have e1 := e 1
  have e2 := e 2
  have e3 := e 3
  have l1 := lv_len S.ls 1
  have l2 := lv_len S.ls 2
  have l3 := lv_len S.ls 3
  have : S.mo.toNat = 1 ∨ S.mo.toNat = 2 ∨ S.mo.toNat = 3 := by omega
  unfold wcount at mw
  rcases this with h | h | h
  · rw [h] at mw ⊢
    simp only [List.take, List.sum_cons, List.sum_nil] at mw
    show (lv S.ls 1 ++ []).length ≤ 14
    rw [List.append_nil]
    omega
  · rw [h] at mw ⊢
    simp only [List.take, List.sum_cons, List.sum_nil] at mw
    show (lv S.ls 1 ++ (lv S.ls 2 ++ [])).length ≤ 14
    rw [List.append_nil, List.length_append]
    omega
  · rw [h] at mw ⊢
    simp only [List.take, List.sum_cons, List.sum_nil] at mw
    show (lv S.ls 1 ++ (lv S.ls 2 ++ (lv S.ls 3 ++ []))).length ≤ 14
    rw [List.append_nil, List.length_append, List.length_append]
    omega
theorem eatF_len {S : HsD} (ok : HsOk S) (rest : List Nat) (b : Bool) : (eatF S rest b).length ≤ 14 := Nat.le_trans (List.length_filter_le _ _) (words_14 ok)
theorem partF_in {S : HsD} {long : List Nat} {b : Bool} {x : List Nat × List Nat} (hc : ∀ c ∈ long, c ∈ S.ls) (h : x ∈ partF S long b) : x.1 ∈ wordsF S.ls S.mo.toNat ∧ x.2 ∈ wordsF S.ls S.mo.toNat := by
  obtain ⟨i, hi, hx⟩ := List.mem_flatMap.mp h
  have hi' := List.mem_range.mp hi
  unfold parF at hx
  split at hx
  · rename_i g
    obtain ⟨u, hu, rfl⟩ := List.mem_map.mp hx
    have g1 : ((parQ S long b (1 + (i : Nat))).1.length : Int) = 1 + (i : Nat) := g.1
    refine ⟨in_words (u := (parQ S long b (1 + (i : Nat))).1) (by omega) (by omega) fun c h => hc c ?_, (List.mem_filter.mp hu).1⟩
    unfold parQ at h
    split at h
    · exact ctL_in h
    · exact ctL_in h
  · cases hx
theorem drop_app {α : Type} (a c : List α) {n : Nat} (h : n = a.length) : (a ++ c).drop n = c := by subst h; simp
theorem take_app {α : Type} (a c : List α) {n : Nat} (h : n = a.length) : (a ++ c).take n = a := by subst h; simp
theorem partF_all {S : HsD} (ok : HsOk S) {er en : List Nat} (b : Bool) (h1 : er ∈ wordsF S.ls S.mo.toNat) (h2 : en ∈ wordsF S.ls S.mo.toNat) : (er, en) ∈ partF S (growF S b er en) b := by
  obtain ⟨l1, m1, _⟩ := words_ok er h1
  obtain ⟨l2, m2, _⟩ := words_ok en h2
  have c0 := ok.c0
  refine List.mem_flatMap.mpr ⟨er.length - 1, List.mem_range.mpr (by omega), ?_⟩
  have ez : (1 : Int) + ((er.length - 1 : Nat) : Int) = (er.length : Int) := by omega
  rw [ez]
  have q : parQ S (growF S b er en) b (er.length : Int) = (er, (if b = true then en.drop S.ch.toNat else en.take (en.length - S.ch.toNat)), S.pt) := by
    unfold parQ growF
    cases b with
    | true =>
      simp only [if_true]
      rw [show (S.pt.length : Int) + (er.length : Int) = ((S.pt.length + er.length : Nat) : Int) from (Int.natCast_add ..).symm, ctL_mid _ _ _ (by omega), ctL_from, ctL_to]
      rw [List.append_assoc, drop_app S.pt _ rfl, take_app S.pt _ rfl, ← List.append_assoc, drop_app (S.pt ++ er) _ (by rw [List.length_append]), take_app er _ (by omega)]
    | false =>
      simp only [Bool.false_eq_true, if_false]
      have el : ((en.take (en.length - S.ch.toNat) ++ er) ++ S.pt).length = (en.length - S.ch.toNat) + er.length + S.pt.length := by
        rw [List.length_append, List.length_append, List.length_take]
        omega
      have tl : (en.take (en.length - S.ch.toNat)).length = en.length - S.ch.toNat := by rw [List.length_take]; omega
      rw [el, show (((en.length - S.ch.toNat + er.length + S.pt.length : Nat) : Int) - (S.pt.length : Int)) = ((en.length - S.ch.toNat + er.length : Nat) : Int) by omega,
        show max 0 (((en.length - S.ch.toNat + er.length : Nat) : Int) - (er.length : Int)) = ((en.length - S.ch.toNat : Nat) : Int) by omega, ctL_mid _ _ _ (by omega), ctL_from, ctL_to]
      refine Prod.ext ?_ (Prod.ext ?_ ?_)
      · show List.take _ (List.drop (en.length - S.ch.toNat) ((en.take (en.length - S.ch.toNat) ++ er) ++ S.pt)) = er
        rw [List.append_assoc, drop_app (en.take (en.length - S.ch.toNat)) _ tl.symm, take_app er _ (by omega)]
      · show List.take (en.length - S.ch.toNat) ((en.take (en.length - S.ch.toNat) ++ er) ++ S.pt) = _
        rw [List.append_assoc, take_app (en.take (en.length - S.ch.toNat)) _ tl.symm]
      · show List.drop (en.length - S.ch.toNat + er.length) ((en.take (en.length - S.ch.toNat) ++ er) ++ S.pt) = _
        rw [drop_app (en.take (en.length - S.ch.toNat) ++ er) S.pt (by rw [List.length_append, tl])]
  unfold parF
  rw [q]
  rw [if_pos ⟨rfl, rfl⟩]
  refine List.mem_map.mpr ⟨en, List.mem_filter.mpr ⟨h2, ?_⟩, rfl⟩
  unfold leftF
  cases b with
  | true =>
    simp only [if_true]
    split
    · rename_i e
      have := congrArg List.length e
      rw [List.length_drop] at this
      exact decide_eq_true (by have : en.length - S.ch.toNat = 0 := this; omega)
    · rename_i e
      have : S.ch.toNat < en.length := Nat.lt_of_not_le fun z => e (List.drop_of_length_le z)
      rw [Bool.and_eq_true]
      exact ⟨decide_eq_true (by rw [List.length_drop]; omega), by simp⟩
  | false =>
    simp only [Bool.false_eq_true, if_false]
    have tl : (en.take (en.length - S.ch.toNat)).length = en.length - S.ch.toNat := by rw [List.length_take]; omega
    split
    · rename_i e
      rw [e] at tl
      exact decide_eq_true (by have : 0 = en.length - S.ch.toNat := tl; omega)
    · rename_i e
      have : S.ch.toNat < en.length := Nat.lt_of_not_le fun z => e (by rw [show en.length - S.ch.toNat = 0 by omega, List.take_zero])
      rw [Bool.and_eq_true]
      exact ⟨decide_eq_true (by rw [tl]; omega), decide_eq_true (by rw [tl])⟩
/-! ### all bites that lead to a row -/
abbrev Cnd : Type := List (List Nat) × Nat × Bool
def eldF (row : List (List Nat)) (low high : Nat) (b : Bool) (x : List Nat × List Nat) : Cnd := (row.take low ++ (if b = true then [x.1, x.2] else [x.2, x.1]) ++ row.drop high, (if b = true then low else low + 1), b)
def longF (row : List (List Nat)) (low high : Nat) : List Nat := ((row.drop low).take (high - low)).flatten
def leadsF (S : HsD) (row : List (List Nat)) (c : Cnd) : Prop := behF S c.1 (c.2.1 : Nat) c.2.2 = some row
/-- what is tried for a stretch of the row, and leads to it -/
def HitP (S : HsD) (row : List (List Nat)) (low high : Nat) (b : Bool) (xs : List (List Nat × List Nat)) (c : Cnd) : Prop :=
  ((((longF row low high).length : Int) ≤ 2 * S.mo + 2) ∧ cutW S (longF row low high) = (row.drop low).take (high - low)) ∧ (∃ x ∈ xs, c = eldF row low high b x) ∧ leadsF S row c
theorem beh_split {S : HsD} {us m : List (List Nat)} {place : Int} {b : Bool} (h : behF S us place b = some m) : ∃ (A : List (List Nat)) (x y : List Nat) (C : List (List Nat)), us = A ++ x :: y :: C ∧ (if b = true then place else place - 1) = (A.length : Int) ∧ m = A ++ madeF S b x y ++ C := by
  obtain ⟨low, x, y, h1, h2, hl, he, hm, ne⟩ := behF_of h
  have l2 := (List.getElem?_eq_some_iff.mp h2).1
  have e1 : us.drop low = x :: us.drop (low + 1) := by
    rw [List.drop_eq_getElem_cons (by omega)]
    congr 1
    exact Option.some.inj ((List.getElem?_eq_getElem _).symm.trans h1)
  have e2 : us.drop (low + 1) = y :: us.drop (low + 2) := by
    rw [List.drop_eq_getElem_cons l2]
    congr 1
    exact Option.some.inj ((List.getElem?_eq_getElem _).symm.trans h2)
  have e := (List.take_append_drop low us).symm
  rw [e1, e2] at e
  exact ⟨us.take low, x, y, us.drop (low + 2), e, by rw [hl, List.length_take]; omega, hm⟩
theorem cut_one (S : HsD) (u : List Nat) : 1 ≤ (cutW S u).length := by
  rw [cutW]
  split
  · rw [List.length_cons]; omega
  · exact Nat.le_refl _
theorem made_len {S : HsD} (b : Bool) (x y : List Nat) : 1 ≤ (madeF S b x y).length := cut_one S _
theorem flat_in {ls : List Nat} {us : List (List Nat)} (h : ∀ u ∈ us, ∀ c ∈ u, c ∈ ls) : ∀ c ∈ us.flatten, c ∈ ls := fun c hc => by
  obtain ⟨u, hu, hcu⟩ := List.mem_flatten.mp hc
  exact h u hu c hcu
theorem long_in {S : HsD} {row : List (List Nat)} (hw : AllW S row) (low high : Nat) : ∀ c ∈ longF row low high, c ∈ S.ls := flat_in fun u hu => (words_ok u (hw u (List.mem_of_mem_drop (List.mem_of_mem_take hu)))).2.2
theorem eld_words {S : HsD} {row : List (List Nat)} (hw : AllW S row) {low high : Nat} {b : Bool} {x : List Nat × List Nat} (hx : x.1 ∈ wordsF S.ls S.mo.toNat ∧ x.2 ∈ wordsF S.ls S.mo.toNat) : AllW S (eldF row low high b x).1 := fun u hu => by
  rcases List.mem_append.mp hu with hu | hu
  · rcases List.mem_append.mp hu with hu | hu
    · exact hw u (List.mem_of_mem_take hu)
    · cases b with
      | true =>
        rcases List.mem_cons.mp hu with rfl | hu
        · exact hx.1
        · rw [List.mem_singleton.mp hu]; exact hx.2
      | false =>
        rcases List.mem_cons.mp hu with rfl | hu
        · exact hx.2
        · rw [List.mem_singleton.mp hu]; exact hx.1
  · exact hw u (List.mem_of_mem_drop hu)
theorem hit_iff {S : HsD} (ok : HsOk S) {row : List (List Nat)} (hw : AllW S row) (c : Cnd) : (∃ low high b, low < high ∧ high ≤ row.length ∧ HitP S row low high b (partF S (longF row low high) b) c) ↔ AllW S c.1 ∧ leadsF S row c := by
  constructor
  · rintro ⟨low, high, b, h1, h2, _, ⟨x, hx, rfl⟩, h3⟩
    exact ⟨eld_words hw (partF_in (long_in hw low high) hx), h3⟩
  · rintro ⟨ha, hl⟩
    obtain ⟨us, place, b⟩ := c
    obtain ⟨A, x, y, C, e, el, em⟩ := beh_split hl
    have e' : us = A ++ x :: y :: C := e
    subst e'
    have em : row = A ++ madeF S b x y ++ C := em
    have el : (if b = true then ((place : Nat) : Int) else ((place : Nat) : Int) - 1) = (A.length : Int) := el
    have hxw : x ∈ wordsF S.ls S.mo.toNat := ha x (by simp)
    have hyw : y ∈ wordsF S.ls S.mo.toNat := ha y (by simp)
    have hl1 := made_len (S := S) b x y
    have elong : longF row A.length (A.length + (madeF S b x y).length) = growF S b (if b = true then x else y) (if b = true then y else x) := by
      unfold longF
      rw [em, List.append_assoc, drop_app A _ rfl, take_app (madeF S b x y) _ (by omega)]
      exact cutW_flat ok _ _ (Nat.le_refl _)
    have estr : (row.drop A.length).take (A.length + (madeF S b x y).length - A.length) = madeF S b x y := by
      rw [em, List.append_assoc, drop_app A _ rfl, take_app (madeF S b x y) _ (by omega)]
    have herw : (if b = true then x else y) ∈ wordsF S.ls S.mo.toNat := by cases b <;> assumption
    have henw : (if b = true then y else x) ∈ wordsF S.ls S.mo.toNat := by cases b <;> assumption
    refine ⟨A.length, A.length + (madeF S b x y).length, b, by omega, by rw [em, List.length_append, List.length_append]; omega, ⟨?_, ?_⟩, ⟨((if b = true then x else y), (if b = true then y else x)), ?_, ?_⟩, hl⟩
    · rw [elong, growF_len]
      have k1 := (words_ok _ herw).2.1
      have k2 := (words_ok _ henw).2.1
      have p2 := ok.p2
      have := ok.m1
      omega
    · rw [elong, estr]
      rfl
    · rw [elong]
      exact partF_all ok b herw henw
    · unfold eldF
      have t1 : row.take A.length = A := by rw [em, List.append_assoc, take_app A _ rfl]
      have t2 : row.drop (A.length + (madeF S b x y).length) = C := by rw [em, drop_app (A ++ madeF S b x y) C (by rw [List.length_append])]
      rw [t1, t2]
      have hp : place = if b = true then A.length else A.length + 1 := by
        cases b with
        | true =>
          have : (place : Int) = (A.length : Int) := el
          show place = A.length
          omega
        | false =>
          have : (place : Int) - 1 = (A.length : Int) := el
          show place = A.length + 1
          omega
      rw [hp]
      cases b <;> simp
end
end Lw
set_option autoImplicit true
set_option pp.maxSteps 1200
set_option Elab.async false
set_option linter.all false
set_option maxRecDepth 100000
set_option maxHeartbeats 1000000
namespace Lw
open PySem PySem.Spec PyProof.Rows L2 Gk NdefX
open LamX hiding takes0

local macro_rules | `(tactic| walk_at "hp") => `(tactic| first | assumption | exact upd_same | (refine' (upd_ne ?n).trans ?h; (case n => assumption); (case h => walk_at "hp")) | (refine' sm_get ?s ?h; (case s => assumption); (case h => walk_at "hp")))
local macro_rules | `(tactic| walk_at "sq") => `(tactic| first | assumption | (refine' sq_l ?h; (case h => walk_at "hp")) | (refine' sm_l ?s ?h; (case s => assumption); (case h => walk_at "sq")))
local macro_rules | `(tactic| walk_at "st") => `(tactic| first | assumption | (refine' sq_t ?h; (case h => walk_at "hp")) | (refine' sm_t ?s ?h; (case s => assumption); (case h => walk_at "st")))
local macro_rules | `(tactic| walk_at "bg") => `(tactic| first | assumption | (refine' BagOk.sm ?s ?h; (case s => assumption); (case h => walk_at "bg")))
local macro_rules | `(tactic| walk_at "sm") => `(tactic| first | assumption | exact Same.refl _ | (refine' Same.trans ?h ?s; (case s => assumption); (case h => walk_at "sm")))
local macro_rules | `(tactic| walk_at "hs") => `(tactic| first | assumption | (refine' HsAt.sm ?s ?h; (case s => assumption); (case h => walk_at "hs")))
local macro_rules | `(tactic| walk_at "ms") => `(tactic| first | assumption | (refine' MAt.sm ?s ?h; (case s => assumption); (case h => walk_at "ms")))
local macro_rules | `(tactic| walk_at "md") => `(tactic| first | assumption | (refine' MDk.sm ?s ?h; (case s => assumption); (case h => walk_at "md")))
local macro_rules | `(tactic| walk_at "dp") => `(tactic| first | assumption | (refine' dp_sm ?s ?h; (case s => assumption); (case h => walk_at "dp")))
local macro_rules | `(tactic| walk_at "sz") => `(tactic| first | decide | assumption | omega | (simp only [List.length_cons, List.length_nil, List.length_map, List.length_append]; omega))
local macro_rules | `(tactic| walk_at "g1") => `(tactic| first
  | with_reducible refine k_seq ?_
  | with_reducible refine k_itB ?_
  | with_reducible refine k_next ?_
  | with_reducible refine k_asg ?_
  | with_reducible refine k_name ?_
  | with_reducible refine k_ret ?_
  | with_reducible refine k_retN ?_
  | with_reducible refine k_drop ?_
  | with_reducible refine k_ifs ?_
  | with_reducible refine k_brk ?_
  | with_reducible refine k_cont ?_
  | with_reducible refine k_ipI ?_
  | with_reducible refine k_test ?_
  | with_reducible refine k_tB ?_
  | with_reducible refine k_bl ?_
  | with_reducible refine k_not ?_
  | with_reducible refine k_and ?_
  | with_reducible refine k_or ?_
  | with_reducible refine k_yes ?_
  | with_reducible refine k_true ?_
  | with_reducible refine k_false ?_
  | with_reducible refine k_nt ?_
  | with_reducible refine k_c ?_
  | with_reducible refine k_op ?_
  | with_reducible refine k_un ?_
  | with_reducible refine k_if ?_
  | with_reducible refine k_chain ?_
  | with_reducible refine k_nil ?_
  | with_reducible refine k_cons ?_
  | with_reducible refine k_cb ?_
  | with_reducible refine k_call ?_
  | with_reducible refine k_callS ?_
  | with_reducible refine k_andV ?_
  | with_reducible refine k_orV ?_
  | with_reducible refine k_notV ?_
  | with_reducible refine k_lst ?_
  | with_reducible refine k_tup ?_
  | with_reducible refine k_nopart ?_
  | with_reducible refine k_part ?_
  | with_reducible refine k_nInt ?_
  | with_reducible refine k_sl ?_
  | with_reducible refine k_bm ?_
  | with_reducible refine k_bm0 ?_
  | with_reducible refine k_nTyS ?_
  | with_reducible refine k_m1 ?_
  | with_reducible refine k_m0 ?_
  | with_reducible refine k_nStr ?_
  | with_reducible refine k_I0 ?_
  | with_reducible refine k_U ?_
  | with_reducible refine k_add_i ?_
  | with_reducible refine k_eq_i ?_
  | with_reducible refine k_eq_s ?_
  | with_reducible refine k_eq_b ?_
  | with_reducible refine k_ne_i ?_
  | with_reducible refine k_ne_s ?_
  | with_reducible refine k_ne_b ?_
  | with_reducible refine k_le_i ?_
  | with_reducible refine k_le_s ?_
  | with_reducible refine k_gnil ?_
  | with_reducible refine k_gcons ?_
  | with_reducible refine k_gsub ?_
  | with_reducible refine k_for ?_
  | with_reducible refine k_lc ?_
  | with_reducible refine k_rng1 ?_
  | with_reducible refine k_rng2 ?_
  | with_reducible refine k_itl ?_
  | with_reducible refine k_itt ?_
  | with_reducible refine k_its ?_
  | with_reducible refine k_ite ?_
  | with_reducible refine k_iteB ?_
  | with_reducible refine k_lrg2 ?_
  | with_reducible refine k_itz ?_
  | with_reducible refine k_nIts ?_
  | with_reducible refine k_inS ?_
  | with_reducible refine k_niS ?_
  | with_reducible refine k_mk ?_
  | with_reducible refine k_meth ?_
  | with_reducible refine k_fld ?_
  | with_reducible refine k_sfld ?_
  | with_reducible refine k_dg ?_
  | with_reducible refine k_dp ?_
  | with_reducible refine k_pr ?_
  | with_reducible refine k_pr0 ?_
  | with_reducible refine k_sg ?_
  | with_reducible refine k_lc2 ?_
  | with_reducible refine k_callN ?_
  | with_reducible refine k_callNS ?_
  | with_reducible refine k_par ?_
  | with_reducible refine k_nPar ?_
  | with_reducible refine k_isNn ?_
  | with_reducible refine k_isNr ?_
  | with_reducible refine k_ntNn ?_
  | with_reducible refine k_ntNr ?_
  | with_reducible refine k_min2 ?_
  | with_reducible refine k_max2 ?_
  | with_reducible refine k_intB ?_
  | with_reducible refine k_intI ?_
  | with_reducible refine k_isBl ?_
  | with_reducible refine k_ntBl ?_
  | ((with_reducible refine' k_var ?kv ?_); (case kv => exact rfl))
  | ((with_reducible refine' k_aug ?kv ?_); (case kv => exact rfl))
  | ((with_reducible refine' k_ix_l ?ks ?ki ?_); (case ks => walk_at "sq"); (case ki => exact rfl))
  | ((with_reducible refine' k_ix_t ?ks ?ki ?_); (case ks => walk_at "st"); (case ki => exact rfl))
  | ((with_reducible refine' k_len_l ?ks ?_); (case ks => walk_at "sq"))
  | ((with_reducible refine' k_len_t ?ks ?_); (case ks => walk_at "st"))
  | ((with_reducible refine' k_setL ?ks ?ki ?_); (case ks => walk_at "hp"); (case ki => exact rfl))
  | ((with_reducible refine' k_nTyL ?ks ?_); (case ks => walk_at "sq"))
  | ((with_reducible refine' k_nItl ?ks ?_); (case ks => walk_at "sq"))
  | ((with_reducible refine' k_nItt ?ks ?_); (case ks => walk_at "st"))
  | ((with_reducible refine' k_nIte ?ks ?_); (case ks => walk_at "sq"))
  | ((with_reducible refine' k_mul ?km ?_); (case km => first | exact Or.inr ⟨by decide, by decide⟩ | exact Or.inl ⟨by decide, by decide⟩))
  | ((with_reducible refine' k_I ?km ?_); (case km => first | assumption | decide | exact ⟨by decide, by decide +kernel⟩ | exact ⟨by decide, by decide, by decide⟩))
  | ((with_reducible refine' k_nMeth ?kp ?kl ?_); (case kp => walk_at "hp"); (case kl => exact rfl))
  | ((with_reducible refine' k_nFld ?kp ?kc ?kn ?kl ?_); (case kp => walk_at "hp"); (case kc => assumption); (case kn => assumption); (case kl => exact rfl))
  | ((with_reducible refine' k_nSFld ?kp ?kc ?kn ?kl ?_); (case kp => walk_at "hp"); (case kc => assumption); (case kn => assumption); (case kl => exact of_decide_eq_true rfl))
  | ((with_reducible refine' k_nDg ?kp ?kl ?_); (case kp => walk_at "hp"); (case kl => exact rfl))
  | ((with_reducible refine' k_nRng1 ?k1 ?k2 ?_); (case k1 => omega); (case k2 => omega))
  | ((with_reducible refine' k_nKw ?k1 ?k2 ?_); (case k1 => exact rfl); (case k2 => exact rfl))
  | ((with_reducible refine' k_hsm ?kh ?_); (case kh => walk_at "hs"))
  | ((with_reducible refine' k_nMethH ?kh ?kl ?_); (case kh => walk_at "hs"); (case kl => exact fun _ _ => rfl))
  | ((with_reducible refine' k_mLet ?kh ?_); (case kh => walk_at "ms"))
  | ((with_reducible refine' k_mChew ?kh ?_); (case kh => walk_at "ms"))
  | ((with_reducible refine' k_mPut ?kh ?_); (case kh => walk_at "ms"))
  | ((with_reducible refine' k_mMost ?kh ?_); (case kh => walk_at "ms"))
  | ((with_reducible refine' k_mCut ?kh ?_); (case kh => walk_at "ms"))
  | ((with_reducible refine' k_mTab ?kh ?_); (case kh => walk_at "md"))
  | ((with_reducible refine' k_mEats ?kh ?_); (case kh => walk_at "md"))
  | ((with_reducible refine' k_gtup ?ks ?kl ?_); (case ks => walk_at "st"); (case kl => exact rfl)))
local macro_rules | `(tactic| walk_at "g") => `(tactic| repeat (walk_at "g1"))
local macro_rules | `(tactic| walk_at "w1") => `(tactic| first
  | walk_at "g1"
  | ((with_reducible refine' k_decT ?kp ?_); (case kp => omega))
  | ((with_reducible refine' k_decF ?kp ?_); (case kp => omega))
  | ((with_reducible refine' k_decNT ?kp ?_); (case kp => omega))
  | ((with_reducible refine' k_decNF ?kp ?_); (case kp => omega)))
local macro_rules | `(tactic| walk_at "w") => `(tactic| repeat (walk_at "w1"))

local macro_rules | `(tactic| walk_at "g1") => `(tactic| first
  | with_reducible refine k_mkP ?_
  | with_reducible refine k_din ?_
  | with_reducible refine k_dni ?_
  | with_reducible refine k_sortF ?_
  | with_reducible refine k_sortL ?_
  | with_reducible refine k_itk ?_
  | with_reducible refine k_revL ?_)

section
variable {P : Program} {w : World} {K : PySem.W.Frag} {mg : Str → Option Value} {base : Heap} {f : Addr} {fd : FuncData}
/-! ### ranks -/
abbrev RkT : Type := Int × PySem.W.Tup (Int × Str)
def wrkO (u : List Nat) : Int × Str := ((u.length : Int), tx u)
def rkO (us : List (List Nat)) : RkT := ((us.length : Int), ⟨us.map wrkO⟩)
def spWRank (K : PySem.W.Frag) : Sp := fun vs H Q _ => ∃ u : List Nat, vs = [.str (tx u)] ∧ u.length ≤ 1000 ∧ ∀ v H', Same H H' → Dp K H' v (PySem.W.Datum.toD (wrkO u)) → Q v H'
theorem ok_word_rank (F : FnP K "word_rank" s_word_rank f fd) (hm : mg "word_rank" = some (.ref f)) (f_len : mg "len" = none) : Callee P w K mg base CX0 "word_rank" 1 [] (spWRank K) := by
  refine ⟨f, fd, _, [], F.ok sc_word_rank (fun vs H Q E h => ?hl) (fun cdv A outer s H vs Q E hr h => ⟨_, PSs.nox (pss_one (ps_ret (pe_tup (pa_cons (pe_callB (call_lenK K) (by rfl) f_len PySem.boot_len (pa_cons (pv 0) pa_nil)) (pa_cons (pv 0) pa_nil))))), ?rd⟩), hm, F.kp, F.bindsN fun _ _ _ _ _ _ us hl => match us, hl with | [_], _ => rfl, .nil⟩
  case hl =>
    obtain ⟨u, rfl, _⟩ := h
    rfl
  case rd =>
    obtain ⟨u, rfl, lu, q⟩ := h
    refine k_start (σ' := [some _]) rfl ?_
    walk_at "g"
    refine k_len_s (by rw [len_tx]; omega) ?_
    walk_at "g"
    refine k_nTup (by walk_at "sz") (fun T H1 n1 s1 e1 => ?_)
    rw [len_tx] at e1
    exact q _ _ s1 (.tup (sq_t e1) (.cons (.int _) (.cons (.str _) .nil)))
def spRank (K : PySem.W.Frag) : Sp := fun vs H Q _ => ∃ (r : Addr) (us : List (List Nat)), vs = [.ref r] ∧ SqT K H r (tS us) ∧ us.length ≤ 20000 ∧ (∀ u ∈ us, u.length ≤ 1000) ∧ ∀ v H', Same H H' → Dp K H' v (PySem.W.Datum.toD (rkO us)) → Q v H'
theorem ok_row_rank (F : FnP K "row_rank" s_row_rank f fd) (hm : mg "row_rank" = some (.ref f)) (f_len : mg "len" = none) (f_tuple : mg "tuple" = none) (c_word_rank : Callee P w K mg base CX0 "word_rank" 1 [] (spWRank K)) : Callee P w K mg base CX0 "row_rank" 2 [] (spRank K) := by
  refine ⟨f, fd, _, [], F.ok sc_row_rank (fun vs H Q E h => ?hl) (fun cdv A outer s H vs Q E hr h => ⟨_, PSs.nox (pss_one (ps_ret (pe_tup (pa_cons (pe_callB (call_lenK K) (by rfl) f_len PySem.boot_len (pa_cons (pv 0) pa_nil)) (pa_cons (pe_callTy (call_tupK K) (by rfl) f_tuple (by decide +kernel) (pa_cons (pe_lc (own := [("word", 1)]) rfl sc_row_rank.nd (pi_tupK K (pv 0)) (blkOk_by (N := ["row", "word"]) (sc := defScope s_row_rank) (by decide +kernel)) (fun _ _ _ _ _ => (pg_name (i := 1) sc_row_rank.nd rfl (by first | exact Or.inl rfl | exact Or.inr rfl))) (fun _ _ _ _ _ => pts_nil) (fun _ _ _ _ _ => (pe_cl c_word_rank hr (pa_cons (pv 1) pa_nil) pass0))) pa_nil)) pa_nil))))), ?rd⟩), hm, F.kp, F.bindsN fun _ _ _ _ _ _ us hl => match us, hl with | [_], _ => rfl, .nil⟩
  case hl =>
    obtain ⟨r, us, rfl, _⟩ := h
    rfl
  case rd =>
    obtain ⟨r, us, rfl, hx, lu, lw, q⟩ := h
    refine k_start (σ' := [some _, none]) rfl ?_
    walk_at "g"
    refine k_nLcD (walk_tup (xs := tS us)) (fun H' s => sm_t s hx) (fun i zs H1 => DpAll K H1 zs ((us.take i).map fun u => PySem.W.Datum.toD (wrkO u))) (fun i zs Ha Hb s h => dpall_sm s h) .nil (fun i zs Ha hi h => ?hz) (fun i x p Ha Hb zs Kp Ks hi hp sa ea hzs hy hKp hKs => ?ht) (fun p Hb zs hp sb eb hzs => ?he)
    case hz =>
      have := dpall_len h
      rw [List.length_map, List.length_take] at this
      omega
    case ht =>
      obtain ⟨rfl, hv⟩ := hy
      obtain ⟨u, hu, rfl⟩ := map_get hv
      walk_at "g"
      refine ⟨rfl, ?_⟩
      walk_at "g"
      refine ⟨u, rfl, lw u (List.mem_of_getElem? hu), fun v H5 s5 d5 => ?_⟩
      refine hKp _ _ s5 ?_
      rw [take_more hu, List.map_append]
      refine dpall_app (dpall_sm (del_mono s5) hzs) ?_
      obtain ⟨t, x, y, rfl, h1, h2, h3⟩ := dp_tup2I d5
      cases dp_intI h2
      cases dp_strI h3
      exact .tup (del_t (s5 _ _ ea) h1) (.cons (.int _) (.cons (.str _) .nil))
    case he =>
      rw [len_tS, List.take_length] at hzs
      walk_at "g"
      refine k_tup_l (sq_l eb) (fun p2 H2 n2 s2 e2 => ?_)
      walk_at "g"
      refine k_nTup (by walk_at "sz") (fun T H3 n3 s3 e3 => ?_)
      have d3 := dpall_sm (s2.trans s3) hzs
      have e2' := s3 _ _ e2
      rw [len_tS] at e3
      refine q _ _ (sb.trans (s2.trans s3)) (.tup (sq_t e3) (.cons (.int _) (.cons (.tup (sq_t e2') ?_) .nil)))
      show DpAll K H3 zs ((us.map wrkO).map PySem.W.Datum.toD)
      rw [List.map_map]
      exact d3
/-! ### sorted by ranks -/
/-- the tables of code objects, each with its lambda's name -/
abbrev lq (x : Str) : Str := (envOfC x ⟨.function, [], false, false, []⟩ 0 0 .none).qual ++ "<lambda>"
abbrev TT (K : PySem.W.Frag) : List (Addr × Str) := [((He.cT K ("ahead_of", none)).2, lq "ahead_of"), ((He.cT K ("law", none)).2, lq "law")]

open PySem.W (AllAlike Sortable dataLe)
theorem alike_toD {α β : Type} [DecidableEq α] [PySem.W.DatumOrd α] (g : β → α) (B : List β) : AllAlike (B.map fun b => PySem.W.Datum.toD (g b)) := fun d hd d' hd' => by
  obtain ⟨b, _, rfl⟩ := List.mem_map.mp hd
  obtain ⟨b', _, rfl⟩ := List.mem_map.mp hd'
  exact PySem.W.DatumOrd.alike _ _
theorem sortable_pair {α β γ : Type} [DecidableEq α] [PySem.W.Datum α] [DecidableEq γ] [PySem.W.Datum γ] (g : β → α × γ) (B : List β) : Sortable (B.map fun b => PySem.W.Datum.toD (g b)) := .inl fun d hd => by
  obtain ⟨b, _, rfl⟩ := List.mem_map.mp hd
  exact ⟨_, _, rfl⟩
/-- nothing stands there but, perhaps, a table -/
def FreeN (H : Hp) (a : Addr) : Prop := ∀ o, H a = some o → ∃ ps, o = .tbl ps
theorem freeN {H H' : Hp} {a : Addr} (e : ExtN H H') (n : H' a = none) : FreeN H a := fun o h => Classical.byContradiction fun z => by
  have := e a o h fun ps hp => z ⟨ps, hp⟩
  rw [n] at this
  cases this
theorem FreeN.ne {H : Hp} {a b : Addr} {o : HO} (h : FreeN H a) (hb : H b = some o) (ho : ∀ ps, o ≠ .tbl ps) : b ≠ a := fun z => by
  obtain ⟨ps, e⟩ := h o (by rw [← z]; exact hb)
  exact ho ps e
theorem ext_mut {H H' : Hp} {a : Addr} {o : HO} (e : ExtN H H') (h : FreeN H a) : ExtN H (upd H' a o) := fun b u hb n => by
  rw [upd_ne (h.ne hb n)]
  exact e b u hb n
end
end Lw
set_option autoImplicit true
set_option pp.maxSteps 1200
set_option Elab.async false
set_option linter.all false
set_option maxRecDepth 100000
set_option maxHeartbeats 1000000
namespace Lw
open PySem PySem.Spec PyProof.Rows L2 Gk NdefX
open LamX hiding takes0

local macro_rules | `(tactic| walk_at "hp") => `(tactic| first | assumption | exact upd_same | (refine' (upd_ne ?n).trans ?h; (case n => assumption); (case h => walk_at "hp")) | (refine' sm_get ?s ?h; (case s => assumption); (case h => walk_at "hp")))
local macro_rules | `(tactic| walk_at "sq") => `(tactic| first | assumption | (refine' sq_l ?h; (case h => walk_at "hp")) | (refine' sm_l ?s ?h; (case s => assumption); (case h => walk_at "sq")))
local macro_rules | `(tactic| walk_at "st") => `(tactic| first | assumption | (refine' sq_t ?h; (case h => walk_at "hp")) | (refine' sm_t ?s ?h; (case s => assumption); (case h => walk_at "st")))
local macro_rules | `(tactic| walk_at "bg") => `(tactic| first | assumption | (refine' BagOk.sm ?s ?h; (case s => assumption); (case h => walk_at "bg")))
local macro_rules | `(tactic| walk_at "sm") => `(tactic| first | assumption | exact Same.refl _ | (refine' Same.trans ?h ?s; (case s => assumption); (case h => walk_at "sm")))
local macro_rules | `(tactic| walk_at "hs") => `(tactic| first | assumption | (refine' HsAt.sm ?s ?h; (case s => assumption); (case h => walk_at "hs")))
local macro_rules | `(tactic| walk_at "ms") => `(tactic| first | assumption | (refine' MAt.sm ?s ?h; (case s => assumption); (case h => walk_at "ms")))
local macro_rules | `(tactic| walk_at "md") => `(tactic| first | assumption | (refine' MDk.sm ?s ?h; (case s => assumption); (case h => walk_at "md")))
local macro_rules | `(tactic| walk_at "dp") => `(tactic| first | assumption | (refine' dp_sm ?s ?h; (case s => assumption); (case h => walk_at "dp")))
local macro_rules | `(tactic| walk_at "sz") => `(tactic| first | decide | assumption | omega | (simp only [List.length_cons, List.length_nil, List.length_map, List.length_append]; omega))
local macro_rules | `(tactic| walk_at "g1") => `(tactic| first
  | with_reducible refine k_seq ?_
  | with_reducible refine k_itB ?_
  | with_reducible refine k_next ?_
  | with_reducible refine k_asg ?_
  | with_reducible refine k_name ?_
  | with_reducible refine k_ret ?_
  | with_reducible refine k_retN ?_
  | with_reducible refine k_drop ?_
  | with_reducible refine k_ifs ?_
  | with_reducible refine k_brk ?_
  | with_reducible refine k_cont ?_
  | with_reducible refine k_ipI ?_
  | with_reducible refine k_test ?_
  | with_reducible refine k_tB ?_
  | with_reducible refine k_bl ?_
  | with_reducible refine k_not ?_
  | with_reducible refine k_and ?_
  | with_reducible refine k_or ?_
  | with_reducible refine k_yes ?_
  | with_reducible refine k_true ?_
  | with_reducible refine k_false ?_
  | with_reducible refine k_nt ?_
  | with_reducible refine k_c ?_
  | with_reducible refine k_op ?_
  | with_reducible refine k_un ?_
  | with_reducible refine k_if ?_
  | with_reducible refine k_chain ?_
  | with_reducible refine k_nil ?_
  | with_reducible refine k_cons ?_
  | with_reducible refine k_cb ?_
  | with_reducible refine k_call ?_
  | with_reducible refine k_callS ?_
  | with_reducible refine k_andV ?_
  | with_reducible refine k_orV ?_
  | with_reducible refine k_notV ?_
  | with_reducible refine k_lst ?_
  | with_reducible refine k_tup ?_
  | with_reducible refine k_nopart ?_
  | with_reducible refine k_part ?_
  | with_reducible refine k_nInt ?_
  | with_reducible refine k_sl ?_
  | with_reducible refine k_bm ?_
  | with_reducible refine k_bm0 ?_
  | with_reducible refine k_nTyS ?_
  | with_reducible refine k_m1 ?_
  | with_reducible refine k_m0 ?_
  | with_reducible refine k_nStr ?_
  | with_reducible refine k_I0 ?_
  | with_reducible refine k_U ?_
  | with_reducible refine k_add_i ?_
  | with_reducible refine k_eq_i ?_
  | with_reducible refine k_eq_s ?_
  | with_reducible refine k_eq_b ?_
  | with_reducible refine k_ne_i ?_
  | with_reducible refine k_ne_s ?_
  | with_reducible refine k_ne_b ?_
  | with_reducible refine k_le_i ?_
  | with_reducible refine k_le_s ?_
  | with_reducible refine k_gnil ?_
  | with_reducible refine k_gcons ?_
  | with_reducible refine k_gsub ?_
  | with_reducible refine k_for ?_
  | with_reducible refine k_lc ?_
  | with_reducible refine k_rng1 ?_
  | with_reducible refine k_rng2 ?_
  | with_reducible refine k_itl ?_
  | with_reducible refine k_itt ?_
  | with_reducible refine k_its ?_
  | with_reducible refine k_ite ?_
  | with_reducible refine k_iteB ?_
  | with_reducible refine k_lrg2 ?_
  | with_reducible refine k_itz ?_
  | with_reducible refine k_nIts ?_
  | with_reducible refine k_inS ?_
  | with_reducible refine k_niS ?_
  | with_reducible refine k_mk ?_
  | with_reducible refine k_meth ?_
  | with_reducible refine k_fld ?_
  | with_reducible refine k_sfld ?_
  | with_reducible refine k_dg ?_
  | with_reducible refine k_dp ?_
  | with_reducible refine k_pr ?_
  | with_reducible refine k_pr0 ?_
  | with_reducible refine k_sg ?_
  | with_reducible refine k_lc2 ?_
  | with_reducible refine k_callN ?_
  | with_reducible refine k_callNS ?_
  | with_reducible refine k_par ?_
  | with_reducible refine k_nPar ?_
  | with_reducible refine k_isNn ?_
  | with_reducible refine k_isNr ?_
  | with_reducible refine k_ntNn ?_
  | with_reducible refine k_ntNr ?_
  | with_reducible refine k_min2 ?_
  | with_reducible refine k_max2 ?_
  | with_reducible refine k_intB ?_
  | with_reducible refine k_intI ?_
  | with_reducible refine k_isBl ?_
  | with_reducible refine k_ntBl ?_
  | ((with_reducible refine' k_var ?kv ?_); (case kv => exact rfl))
  | ((with_reducible refine' k_aug ?kv ?_); (case kv => exact rfl))
  | ((with_reducible refine' k_ix_l ?ks ?ki ?_); (case ks => walk_at "sq"); (case ki => exact rfl))
  | ((with_reducible refine' k_ix_t ?ks ?ki ?_); (case ks => walk_at "st"); (case ki => exact rfl))
  | ((with_reducible refine' k_len_l ?ks ?_); (case ks => walk_at "sq"))
  | ((with_reducible refine' k_len_t ?ks ?_); (case ks => walk_at "st"))
  | ((with_reducible refine' k_setL ?ks ?ki ?_); (case ks => walk_at "hp"); (case ki => exact rfl))
  | ((with_reducible refine' k_nTyL ?ks ?_); (case ks => walk_at "sq"))
  | ((with_reducible refine' k_nItl ?ks ?_); (case ks => walk_at "sq"))
  | ((with_reducible refine' k_nItt ?ks ?_); (case ks => walk_at "st"))
  | ((with_reducible refine' k_nIte ?ks ?_); (case ks => walk_at "sq"))
  | ((with_reducible refine' k_mul ?km ?_); (case km => first | exact Or.inr ⟨by decide, by decide⟩ | exact Or.inl ⟨by decide, by decide⟩))
  | ((with_reducible refine' k_I ?km ?_); (case km => first | assumption | decide | exact ⟨by decide, by decide +kernel⟩ | exact ⟨by decide, by decide, by decide⟩))
  | ((with_reducible refine' k_nMeth ?kp ?kl ?_); (case kp => walk_at "hp"); (case kl => exact rfl))
  | ((with_reducible refine' k_nFld ?kp ?kc ?kn ?kl ?_); (case kp => walk_at "hp"); (case kc => assumption); (case kn => assumption); (case kl => exact rfl))
  | ((with_reducible refine' k_nSFld ?kp ?kc ?kn ?kl ?_); (case kp => walk_at "hp"); (case kc => assumption); (case kn => assumption); (case kl => exact of_decide_eq_true rfl))
  | ((with_reducible refine' k_nDg ?kp ?kl ?_); (case kp => walk_at "hp"); (case kl => exact rfl))
  | ((with_reducible refine' k_nRng1 ?k1 ?k2 ?_); (case k1 => omega); (case k2 => omega))
  | ((with_reducible refine' k_nKw ?k1 ?k2 ?_); (case k1 => exact rfl); (case k2 => exact rfl))
  | ((with_reducible refine' k_hsm ?kh ?_); (case kh => walk_at "hs"))
  | ((with_reducible refine' k_nMethH ?kh ?kl ?_); (case kh => walk_at "hs"); (case kl => exact fun _ _ => rfl))
  | ((with_reducible refine' k_mLet ?kh ?_); (case kh => walk_at "ms"))
  | ((with_reducible refine' k_mChew ?kh ?_); (case kh => walk_at "ms"))
  | ((with_reducible refine' k_mPut ?kh ?_); (case kh => walk_at "ms"))
  | ((with_reducible refine' k_mMost ?kh ?_); (case kh => walk_at "ms"))
  | ((with_reducible refine' k_mCut ?kh ?_); (case kh => walk_at "ms"))
  | ((with_reducible refine' k_mTab ?kh ?_); (case kh => walk_at "md"))
  | ((with_reducible refine' k_mEats ?kh ?_); (case kh => walk_at "md"))
  | ((with_reducible refine' k_gtup ?ks ?kl ?_); (case ks => walk_at "st"); (case kl => exact rfl)))
local macro_rules | `(tactic| walk_at "g") => `(tactic| repeat (walk_at "g1"))
local macro_rules | `(tactic| walk_at "w1") => `(tactic| first
  | walk_at "g1"
  | ((with_reducible refine' k_decT ?kp ?_); (case kp => omega))
  | ((with_reducible refine' k_decF ?kp ?_); (case kp => omega))
  | ((with_reducible refine' k_decNT ?kp ?_); (case kp => omega))
  | ((with_reducible refine' k_decNF ?kp ?_); (case kp => omega)))
local macro_rules | `(tactic| walk_at "w") => `(tactic| repeat (walk_at "w1"))

local macro_rules | `(tactic| walk_at "g1") => `(tactic| first
  | with_reducible refine k_mkP ?_
  | with_reducible refine k_din ?_
  | with_reducible refine k_dni ?_
  | with_reducible refine k_sortF ?_
  | with_reducible refine k_sortL ?_
  | with_reducible refine k_itk ?_
  | with_reducible refine k_revL ?_)


section
variable {P : Program} {w : World} {K : PySem.W.Frag} {mg : Str → Option Value} {base : Heap} {f : Addr} {fd : FuncData}
theorem filt_yes {α : Type} {xs : List α} {p : α → Bool} {i : Nat} {u : α} (hu : xs[i]? = some u) (h : p u = true) : (xs.take (i + 1)).filter p = (xs.take i).filter p ++ [u] := by
  rw [take_more hu, List.filter_append, List.filter_cons, if_pos h]
  rfl
theorem filt_no {α : Type} {xs : List α} {p : α → Bool} {i : Nat} {u : α} (hu : xs[i]? = some u) (h : ¬ p u = true) : (xs.take (i + 1)).filter p = (xs.take i).filter p := by
  rw [take_more hu, List.filter_append, List.filter_cons, if_neg h]
  exact List.append_nil _
theorem k_extendB {H : Hp} {Q : VK} {l b : Addr} {xs zs : List V} (h1 : H l = some (.lst xs)) (h2 : H b = some (.lst zs)) (hz : xs.length + zs.length ≤ 100000) (h : Q .non (upd H l (.lst (xs ++ zs)))) : rExtend (.ref l) [.ref b] H Q := ⟨l, b, xs, zs, rfl, rfl, h1, h2, sz_of hz, h⟩
def spEaten (K : PySem.W.Frag) : Sp := fun vs H Q _ => ∃ (a : Addr) (S : HsD) (rest : List Nat) (b : Bool), vs = [.ref a, .str (tx rest), .str (sdS b)] ∧ HsAt K H a S ∧ HsOk S ∧ rest.length ≤ 1000 ∧ ∀ p H', H p = none → Same H H' → H' p = some (.lst (tS (eatF S rest b))) → Q (.ref p) H'
theorem ok_eaten_of (F : FnP K "eaten_of" s_eaten_of f fd) (hm : mg "eaten_of" = some (.ref f)) (f_len : mg "len" = none) (c_words : Callee P w K mg base CX0 "words" 2 [] (spWords K)) (c_House_chew : CalleeM P w K mg base CX0 "House" "chew" 1 (spHsM K fun S => .int S.ch)) : Callee P w K mg base CX0 "eaten_of" 3 [] (spEaten K) := by
  refine ⟨f, fd, _, [], F.ok sc_eaten_of (fun vs H Q E h => ?hl) (fun cdv A outer s H vs Q E hr h => ⟨_, PSs.nox (pss_cons (ps_if (pt_cmpR (op_eqK K hr.units) (pv 1) pe_str (nomark _)) (pss_one (ps_ret (pe_lc (own := [("word", 4)]) rfl sc_eaten_of.nd (pi_listK K (pe_cl c_words hr (pa_cons (pv 0) pa_nil) pass0)) (blkOk_by (N := ["house", "rest", "side", "many", "word"]) (sc := defScope s_eaten_of) (by decide +kernel)) (fun _ _ _ _ _ => (pg_name (i := 4) sc_eaten_of.nd rfl (by first | exact Or.inl rfl | exact Or.inr rfl))) (fun _ _ _ _ _ => (pts_one (pt_cmpR op_leU (pe_callB (call_lenK K) (by rfl) f_len PySem.boot_len (pa_cons (pv 4) pa_nil)) (pe_mt0 c_House_chew hr (pv 0) pass0) (nomark _)))) (fun _ _ _ _ _ => (pv 4))))) pss_nil)
      (pss_cons (ps_set (i := 3) sc_eaten_of.nd rfl (by first | exact Or.inl rfl | exact Or.inr rfl) (pe_op (op_addK K) (pe_callB (call_lenK K) (by rfl) f_len PySem.boot_len (pa_cons (pv 1) pa_nil)) (pe_mt0 c_House_chew hr (pv 0) pass0)))
      (pss_cons (ps_if (pt_cmpR (op_eqK K hr.units) (pv 2) pe_str (nomark _)) (pss_one (ps_ret (pe_lc (own := [("word", 4)]) rfl sc_eaten_of.nd (pi_listK K (pe_cl c_words hr (pa_cons (pv 0) pa_nil) pass0)) (blkOk_by (N := ["house", "rest", "side", "many", "word"]) (sc := defScope s_eaten_of) (by decide +kernel)) (fun _ _ _ _ _ => (pg_name (i := 4) sc_eaten_of.nd rfl (by first | exact Or.inl rfl | exact Or.inr rfl))) (fun _ _ _ _ _ => (pts_one (PW.pt (pw_and (pt_cmpR (op_eqK K hr.units) (pe_callB (call_lenK K) (by rfl) f_len PySem.boot_len (pa_cons (pv 4) pa_nil)) (pv 3) (nomark _)) (pw_and1 (pt_cmpR (op_eqK K hr.units) (pe_slice (sl_k K) (pv 4) (po_some (pe_mt0 c_House_chew hr (pv 0) pass0)) po_none) (pv 1) (nomark _))))))) (fun _ _ _ _ _ => (pv 4))))) pss_nil)
      (pss_one (ps_ret (pe_lc (own := [("word", 4)]) rfl sc_eaten_of.nd (pi_listK K (pe_cl c_words hr (pa_cons (pv 0) pa_nil) pass0)) (blkOk_by (N := ["house", "rest", "side", "many", "word"]) (sc := defScope s_eaten_of) (by decide +kernel)) (fun _ _ _ _ _ => (pg_name (i := 4) sc_eaten_of.nd rfl (by first | exact Or.inl rfl | exact Or.inr rfl))) (fun _ _ _ _ _ => (pts_one (PW.pt (pw_and (pt_cmpR (op_eqK K hr.units) (pe_callB (call_lenK K) (by rfl) f_len PySem.boot_len (pa_cons (pv 4) pa_nil)) (pv 3) (nomark _)) (pw_and1 (pt_cmpR (op_eqK K hr.units) (pe_slice (sl_k K) (pv 4) po_none (po_some (pe_callB (call_lenK K) (by rfl) f_len PySem.boot_len (pa_cons (pv 1) pa_nil)))) (pv 1) (nomark _))))))) (fun _ _ _ _ _ => (pv 4)))))))), ?rd⟩), hm, F.kp, F.bindsN fun _ _ _ _ _ _ us hl => match us, hl with | [_, _, _], _ => rfl, .nil⟩
  case hl =>
    obtain ⟨a, S, rest, b, rfl, _⟩ := h
    rfl
  case rd =>
    obtain ⟨a, S, rest, b, rfl, hs, ok, lr, q⟩ := h
    refine k_start (σ' := [some _, some _, some _, none, none]) rfl ?_
    have lt := len_tx rest
    have wl := words_small ok S.mo.toNat (Nat.le_refl _)
    have m3 := ok.m3
    have c0 := ok.c0
    walk_at "g"
    rw [tx_nil, tx_eq]
    refine k_dec (fun d => ?_) (fun d => ?_)
    · have lf : ∀ u, leftF S rest b u = decide ((u.length : Int) ≤ S.ch) := fun u => by unfold leftF; rw [if_pos d]
      walk_at "g"
      refine ⟨a, S, rfl, hs, ok, fun p1 H1 n1 s1 e1 => ?_⟩
      walk_at "g"
      refine k_nLc (walk_list (xs := tS (wordsF S.ls S.mo.toNat))) (fun H' s => sq_l (s _ _ e1)) (fun i ws => ws = tS (((wordsF S.ls S.mo.toNat).take i).filter (leftF S rest b))) rfl (fun i ws hi hw => ?hz) (fun i v Ha Hb ws Kp Ks hi sa hws hy hKp hKs => ?ht) (fun p2 H2 ws n2 s2 e2 hws => ?he)
      case hz =>
        rw [hw, len_tS]
        have := List.length_filter_le (leftF S rest b) ((wordsF S.ls S.mo.toNat).take i)
        rw [List.length_take] at this
        omega
      case ht =>
        obtain ⟨rfl, hv⟩ := hy
        obtain ⟨u, hu, rfl⟩ := map_get hv
        have hsa := hs.sm (s1.trans sa)
        have lu := len_tx u
        have l2 := (words_ok u (List.mem_of_getElem? hu)).2.1
        walk_at "g"
        refine ⟨rfl, ?_⟩
        walk_at "g"
        refine k_len_s (by omega) ?_
        walk_at "g"
        rw [lu]
        refine k_dec (fun d2 => ?_) (fun d2 => ?_)
        · walk_at "g"
          refine hKp _ _ (Same.refl _) ?_
          rw [hws, filt_yes hu (by rw [lf]; exact decide_eq_true d2), tS_app]
          rfl
        · refine hKs _ (Same.refl _) ?_
          rw [hws, filt_no hu (by rw [lf]; exact fun z => d2 (of_decide_eq_true z))]
      case he =>
        walk_at "g"
        refine q p2 H2 (s1.free n2) (s1.trans s2) ?_
        rw [e2, hws, len_tS, List.take_length]
        rfl
    · have lf : ∀ u, leftF S rest b u = (decide ((u.length : Int) = (rest.length : Int) + S.ch) && (if b = true then decide (u.drop S.ch.toNat = rest) else decide (u.take rest.length = rest))) := fun u => by unfold leftF; rw [if_neg d]
      walk_at "g"
      refine k_len_s (by omega) ?_
      walk_at "g"
      rw [lt]
      walk_at "g"
      rw [sdS_right]
      refine (show nIte b _ _ from ?_)
      cases b with
      | true =>
        simp only [if_true] at lf
        walk_at "g"
        refine ⟨a, S, rfl, hs, ok, fun p1 H1 n1 s1 e1 => ?_⟩
        walk_at "g"
        refine k_nLc (walk_list (xs := tS (wordsF S.ls S.mo.toNat))) (fun H' s => sq_l (s _ _ e1)) (fun i ws => ws = tS (((wordsF S.ls S.mo.toNat).take i).filter (leftF S rest true))) rfl (fun i ws hi hw => ?hz) (fun i v Ha Hb ws Kp Ks hi sa hws hy hKp hKs => ?ht) (fun p2 H2 ws n2 s2 e2 hws => ?he)
        case hz =>
          rw [hw, len_tS]
          have := List.length_filter_le (leftF S rest true) ((wordsF S.ls S.mo.toNat).take i)
          rw [List.length_take] at this
          omega
        case ht =>
          obtain ⟨rfl, hv⟩ := hy
          obtain ⟨u, hu, rfl⟩ := map_get hv
          have hsa := hs.sm (s1.trans sa)
          have lu := len_tx u
          have l2 := (words_ok u (List.mem_of_getElem? hu)).2.1
          walk_at "g"
          refine ⟨rfl, ?_⟩
          walk_at "g"
          refine k_len_s (by omega) ?_
          walk_at "g"
          rw [lu]
          refine k_dec (fun d2 => ?_) (fun d2 => ?_)
          · walk_at "g"
            refine k_sl_s (by omega) ?_
            rw [cutS_from _ _ c0]
            walk_at "g"
            rw [tx_eq]
            refine k_dec (fun d3 => ?_) (fun d3 => ?_)
            · walk_at "g"
              refine hKp _ _ (Same.refl _) ?_
              rw [hws, filt_yes hu (by rw [lf, decide_eq_true d2, decide_eq_true d3]; rfl), tS_app]
              rfl
            · refine hKs _ (Same.refl _) ?_
              rw [hws, filt_no hu (by rw [lf, decide_eq_false d3, Bool.and_false]; exact Bool.false_ne_true)]
          · refine hKs _ (Same.refl _) ?_
            rw [hws, filt_no hu (by rw [lf, decide_eq_false d2, Bool.false_and]; exact Bool.false_ne_true)]
        case he =>
          walk_at "g"
          refine q p2 H2 (s1.free n2) (s1.trans s2) ?_
          rw [e2, hws, len_tS, List.take_length]
          rfl
      | false =>
        simp only [Bool.false_eq_true, if_false] at lf
        walk_at "g"
        refine ⟨a, S, rfl, hs, ok, fun p1 H1 n1 s1 e1 => ?_⟩
        walk_at "g"
        refine k_nLc (walk_list (xs := tS (wordsF S.ls S.mo.toNat))) (fun H' s => sq_l (s _ _ e1)) (fun i ws => ws = tS (((wordsF S.ls S.mo.toNat).take i).filter (leftF S rest false))) rfl (fun i ws hi hw => ?hz) (fun i v Ha Hb ws Kp Ks hi sa hws hy hKp hKs => ?ht) (fun p2 H2 ws n2 s2 e2 hws => ?he)
        case hz =>
          rw [hw, len_tS]
          have := List.length_filter_le (leftF S rest false) ((wordsF S.ls S.mo.toNat).take i)
          rw [List.length_take] at this
          omega
        case ht =>
          obtain ⟨rfl, hv⟩ := hy
          obtain ⟨u, hu, rfl⟩ := map_get hv
          have hsa := hs.sm (s1.trans sa)
          have lu := len_tx u
          have l2 := (words_ok u (List.mem_of_getElem? hu)).2.1
          walk_at "g"
          refine ⟨rfl, ?_⟩
          walk_at "g"
          refine k_len_s (by omega) ?_
          walk_at "g"
          rw [lu]
          refine k_dec (fun d2 => ?_) (fun d2 => ?_)
          · walk_at "g"
            refine k_len_s (by omega) ?_
            walk_at "g"
            refine k_sl_s (by omega) ?_
            rw [lt, cutS_to _ _ (by omega), Int.toNat_natCast]
            walk_at "g"
            rw [tx_eq]
            refine k_dec (fun d3 => ?_) (fun d3 => ?_)
            · walk_at "g"
              refine hKp _ _ (Same.refl _) ?_
              rw [hws, filt_yes hu (by rw [lf, decide_eq_true d2, decide_eq_true d3]; rfl), tS_app]
              rfl
            · refine hKs _ (Same.refl _) ?_
              rw [hws, filt_no hu (by rw [lf, decide_eq_false d3, Bool.and_false]; exact Bool.false_ne_true)]
          · refine hKs _ (Same.refl _) ?_
            rw [hws, filt_no hu (by rw [lf, decide_eq_false d2, Bool.false_and]; exact Bool.false_ne_true)]
        case he =>
          walk_at "g"
          refine q p2 H2 (s1.free n2) (s1.trans s2) ?_
          rw [e2, hws, len_tS, List.take_length]
          rfl
def dPr (x : List Nat × List Nat) : PyData := .tuple [.str (tx x.1), .str (tx x.2)]
theorem dpr_del {H : Hp} {p : Addr} {ys : List V} (hp : H p = some (.lst ys)) : ∀ {L : List (List Nat × List Nat)} {ws : List V}, DpAll K H ws (L.map dPr) → DpAll K (del H p) ws (L.map dPr)
  | [], _, .nil => .nil
  | x :: L, _, .cons h t => by
    obtain ⟨t', a, b, rfl, h1, h2, h3⟩ := dp_tup2I h
    cases dp_strI h2
    cases dp_strI h3
    exact .cons (.tup (del_t hp h1) (.cons (.str _) (.cons (.str _) .nil))) (dpr_del hp t)
def spParted (K : PySem.W.Frag) : Sp := fun vs H Q _ => ∃ (a : Addr) (S : HsD) (long : List Nat) (b : Bool), vs = [.ref a, .str (tx long), .str (sdS b)] ∧ HsAt K H a S ∧ HsOk S ∧ long.length ≤ 900 ∧ ∀ p ws H', H p = none → Same H H' → H' p = some (.lst ws) → DpAll K H' ws ((partF S long b).map dPr) → Q (.ref p) H'
def partTo (S : HsD) (long : List Nat) (b : Bool) (i : Nat) : List (List Nat × List Nat) := (List.range i).flatMap fun i => parF S long b (1 + (i : Nat))
theorem parF_len {S : HsD} (ok : HsOk S) (long : List Nat) (b : Bool) (z : Int) : (parF S long b z).length ≤ 14 := by
  unfold parF
  split
  · rw [List.length_map]
    exact eatF_len ok _ _
  · exact Nat.zero_le _
theorem partTo_len {S : HsD} (ok : HsOk S) (long : List Nat) (b : Bool) : ∀ i, (partTo S long b i).length ≤ 14 * i
  | 0 => Nat.le_refl _
  | i + 1 => by
    have h1 := partTo_len ok long b i
    have h2 := parF_len ok long b (1 + (i : Nat))
    unfold partTo at h1 ⊢
    rw [List.range_succ, List.flatMap_append, List.length_append]
    simp only [List.flatMap_cons, List.flatMap_nil, List.append_nil]
    omega
theorem partTo_next (S : HsD) (long : List Nat) (b : Bool) (i : Nat) : partTo S long b (i + 1) = partTo S long b i ++ parF S long b (1 + (i : Nat)) := by
  unfold partTo
  rw [List.range_succ, List.flatMap_append]
  simp only [List.flatMap_cons, List.flatMap_nil, List.append_nil]
theorem ok_parted_long (F : FnP K "parted_long" s_parted_long f fd) (hm : mg "parted_long" = some (.ref f)) (f_len : mg "len" = none) (f_max : mg "max" = none) (f_range : mg "range" = none) (c_House_put : CalleeM P w K mg base CX0 "House" "put" 1 (spHsM K fun S => .str (tx S.pt))) (c_House_most : CalleeM P w K mg base CX0 "House" "most" 1 (spHsM K fun S => .int S.mo)) (c_eaten_of : Callee P w K mg base CX0 "eaten_of" 3 [] (spEaten K)) : Callee P w K mg base CX0 "parted_long" 4 [] (spParted K) := by
  refine ⟨f, fd, _, [], F.ok sc_parted_long (fun vs H Q E h => ?hl) (fun cdv A outer s H vs Q E hr h => ⟨_, PSs.nox (pss_cons (ps_set (i := 3) sc_parted_long.nd rfl (by first | exact Or.inl rfl | exact Or.inr rfl) (pe_mt0 c_House_put hr (pv 0) pass0))
      (pss_cons (ps_set (i := 4) sc_parted_long.nd rfl (by first | exact Or.inl rfl | exact Or.inr rfl) (pe_lst pa_nil))
      (pss_cons (ps_for PassesOwn.never rfl (pi_range2 (by rfl) f_range (pa_cons pe_int (pa_cons (pe_op (op_addK K) (pe_mt0 c_House_most hr (pv 0) pass0) pe_int) pa_nil))) (pg_name (i := 5) sc_parted_long.nd rfl (by first | exact Or.inl rfl | exact Or.inr rfl)) (Evl.pss_cut (ps_if (pt_cmpR (op_eqK K hr.units) (pv 2) pe_str (nomark _)) (pss_cons (ps_set (i := 6) sc_parted_long.nd rfl (by first | exact Or.inl rfl | exact Or.inr rfl) (pe_callB (call_lenK K) (by rfl) f_len PySem.boot_len (pa_cons (pv 3) pa_nil)))
      (pss_one (ps_asg (pe_tup (pa_cons (pe_slice (sl_k K) (pv 1) (po_some (pv 6)) (po_some (pe_op (op_addK K) (pv 6) (pv 5)))) (pa_cons (pe_slice (sl_k K) (pv 1) (po_some (pe_op (op_addK K) (pv 6) (pv 5))) po_none) (pa_cons (pe_slice (sl_k K) (pv 1) po_none (po_some (pv 6))) pa_nil)))) (pg_tupK K 3 (by rfl) (pgs_cons (pg_name (i := 7) sc_parted_long.nd rfl (by first | exact Or.inl rfl | exact Or.inr rfl)) (pgs_cons (pg_name (i := 8) sc_parted_long.nd rfl (by first | exact Or.inl rfl | exact Or.inr rfl)) (pgs_cons (pg_name (i := 9) sc_parted_long.nd rfl (by first | exact Or.inl rfl | exact Or.inr rfl)) pgs_nil))))))) (pss_cons (ps_set (i := 10) sc_parted_long.nd rfl (by first | exact Or.inl rfl | exact Or.inr rfl) (pe_op op_sub (pe_callB (call_lenK K) (by rfl) f_len PySem.boot_len (pa_cons (pv 1) pa_nil)) (pe_callB (call_lenK K) (by rfl) f_len PySem.boot_len (pa_cons (pv 3) pa_nil))))
      (pss_cons (ps_set (i := 6) sc_parted_long.nd rfl (by first | exact Or.inl rfl | exact Or.inr rfl) (pe_callB call_maxK (by rfl) f_max (by decide +kernel) (pa_cons pe_int (pa_cons (pe_op op_sub (pv 10) (pv 5)) pa_nil))))
      (pss_one (ps_asg (pe_tup (pa_cons (pe_slice (sl_k K) (pv 1) (po_some (pv 6)) (po_some (pv 10))) (pa_cons (pe_slice (sl_k K) (pv 1) po_none (po_some (pv 6))) (pa_cons (pe_slice (sl_k K) (pv 1) (po_some (pv 10)) po_none) pa_nil)))) (pg_tupK K 3 (by rfl) (pgs_cons (pg_name (i := 7) sc_parted_long.nd rfl (by first | exact Or.inl rfl | exact Or.inr rfl)) (pgs_cons (pg_name (i := 8) sc_parted_long.nd rfl (by first | exact Or.inl rfl | exact Or.inr rfl)) (pgs_cons (pg_name (i := 9) sc_parted_long.nd rfl (by first | exact Or.inl rfl | exact Or.inr rfl)) pgs_nil)))))))))
      (pss_one (ps_if (PW.pt (pw_and (pt_cmpR (op_eqK K hr.units) (pe_callB (call_lenK K) (by rfl) f_len PySem.boot_len (pa_cons (pv 7) pa_nil)) (pv 5) (nomark _)) (pw_and1 (pt_cmpR (op_eqK K hr.units) (pv 9) (pv 3) (nomark _))))) (pss_one (ps_expr (pe_bmK K PySem.F.plainAttrs_list PySem.F.slot_list_extend PySem.F.type_list_extend mt_extend (pv 4) (pa_cons (pe_lc (own := [("word", 11)]) rfl sc_parted_long.nd (pi_listK K (pe_cl c_eaten_of hr (pa_cons (pv 0) (pa_cons (pv 8) (pa_cons (pv 2) pa_nil))) pass0)) (blkOk_by (N := ["house", "long", "side", "put", "found", "size", "low", "eater", "rest", "edge", "high", "word"]) (sc := defScope s_parted_long) (by decide +kernel)) (fun _ _ _ _ _ => (pg_name (i := 11) sc_parted_long.nd rfl (by first | exact Or.inl rfl | exact Or.inr rfl))) (fun _ _ _ _ _ => pts_nil) (fun _ _ _ _ _ => (pe_tup (pa_cons (pv 7) (pa_cons (pv 11) pa_nil))))) pa_nil)))) pss_nil))))
      (pss_one (ps_ret (pv 4)))))), ?rd⟩), hm, F.kp, F.bindsN fun _ _ _ _ _ _ us hl => match us, hl with | [_, _, _], _ => rfl, .nil⟩
  case hl =>
    obtain ⟨a, S, long, b, rfl, _⟩ := h
    rfl
  case rd =>
    obtain ⟨a, S, long, b, rfl, hs, ok, ll, q⟩ := h
    refine k_start (σ' := [some _, some _, some _, none, none, none, none, none, none, none, none, none]) rfl ?_
    have lt := len_tx long
    have lp := len_tx S.pt
    have m3 := ok.m3
    have m1 := ok.m1
    have p2 := ok.p2
    walk_at "g"
    refine k_nLst (by walk_at "sz") (fun p1 H1 n1 s1 e1 => ?_)
    have hs1 := hs.sm s1
    walk_at "g"
    refine k_nRng2 (by omega) ?_
    rw [show (S.mo + 1 - 1).toNat = S.mo.toNat by omega]
    refine k_nFor walk_range (fun i σ H' => ∃ (y5 y6 y7 y8 y9 y10 y11 : Option V) (ws : List V), σ = [some (.ref a), some (.str (tx long)), some (.str (sdS b)), some (.str (tx S.pt)), some (.ref p1), y5, y6, y7, y8, y9, y10, y11] ∧ Same H H' ∧ H' p1 = some (.lst ws) ∧ DpAll K (del H' p1) ws ((partTo S long b i).map dPr)) ⟨_, _, _, _, _, _, _, [], rfl, s1, e1, .nil⟩ (fun _ _ _ _ _ => trivial) (fun i x σ Ha Hb hi h hy => ?ht) (fun σ H' h => ?he)
    case he =>
      obtain ⟨y5, y6, y7, y8, y9, y10, y11, ws, rfl, sa, ea, da⟩ := h
      walk_at "g"
      exact q p1 ws H' n1 sa ea (dpall_sm sm_del da)
    case ht =>
      obtain ⟨y5, y6, y7, y8, y9, y10, y11, ws, rfl, sa, ea, da⟩ := h
      obtain ⟨rfl, rfl⟩ := hy
      have hsa := hs.sm sa
      have lws := dpall_len da
      rw [List.length_map] at lws
      have lpt := partTo_len ok long b i
      walk_at "g"
      refine k_cut (fun σ' H' => ∃ (y6 y10 y11 : Option V), σ' = [some (.ref a), some (.str (tx long)), some (.str (sdS b)), some (.str (tx S.pt)), some (.ref p1), some (.int (1 + (i : Nat))), y6, some (.str (tx (parQ S long b (1 + (i : Nat))).1)), some (.str (tx (parQ S long b (1 + (i : Nat))).2.1)), some (.str (tx (parQ S long b (1 + (i : Nat))).2.2)), y10, y11] ∧ Same Hb H') ?_ (fun σ' H2 h => ?_)
      · walk_at "g"
        rw [sdS_right]
        refine (show nIte b _ _ from ?_)
        unfold parQ
        cases b with
        | true =>
          simp only [if_true]
          walk_at "g"
          refine k_len_s (by omega) ?_
          rw [lp]
          walk_at "g"
          refine k_sl_s (by omega) ?_
          rw [cutS_tx]
          walk_at "g"
          refine k_sl_s (by omega) ?_
          rw [cutS_tx]
          walk_at "g"
          refine k_sl_s (by omega) ?_
          rw [cutS_tx]
          walk_at "g"
          refine k_nTup (by walk_at "sz") (fun t2 H2 n2 s2 e2 => ?_)
          walk_at "g"
          exact ⟨_, _, _, rfl, s2⟩
        | false =>
          simp only [Bool.false_eq_true, if_false]
          walk_at "g"
          refine k_len_s (by omega) ?_
          rw [lt]
          walk_at "g"
          refine k_len_s (by omega) ?_
          rw [lp]
          walk_at "g"
          refine k_sl_s (by omega) ?_
          rw [cutS_tx]
          walk_at "g"
          refine k_sl_s (by omega) ?_
          rw [cutS_tx]
          walk_at "g"
          refine k_sl_s (by omega) ?_
          rw [cutS_tx]
          walk_at "g"
          refine k_nTup (by walk_at "sz") (fun t2 H2 n2 s2 e2 => ?_)
          walk_at "g"
          exact ⟨_, _, _, rfl, s2⟩
      · obtain ⟨z6, z10, z11, rfl, s2⟩ := h
        have lq : (parQ S long b (1 + (i : Nat))).1.length ≤ long.length ∧ (parQ S long b (1 + (i : Nat))).2.1.length ≤ long.length ∧ (parQ S long b (1 + (i : Nat))).2.2.length ≤ long.length := by
          unfold parQ
          split <;> exact ⟨ctL_len _ _ _, ctL_len _ _ _, ctL_len _ _ _⟩
        have eP : parF S long b (1 + (i : Nat)) = if ((parQ S long b (1 + (i : Nat))).1.length : Int) = (1 + (i : Nat)) ∧ (parQ S long b (1 + (i : Nat))).2.2 = S.pt then (eatF S (parQ S long b (1 + (i : Nat))).2.1 b).map fun u => ((parQ S long b (1 + (i : Nat))).1, u) else [] := rfl
        have hN := partTo_next S long b i
        generalize parQ S long b (1 + (i : Nat)) = qq at lq eP ⊢
        obtain ⟨er, rs, ed⟩ := qq
        have l1 := len_tx er
        have l2 := len_tx rs
        have l3 := len_tx ed
        dsimp only at lq eP ⊢
        have ea2 := s2 _ _ ea
        walk_at "g"
        refine k_len_s (by omega) ?_
        walk_at "g"
        rw [l1]
        have no : ¬ ((er.length : Int) = (1 + (i : Nat)) ∧ ed = S.pt) → DpAll K (del H2 p1) ws ((partTo S long b (i + 1)).map dPr) := fun h => by
          rw [hN, eP, if_neg h, List.append_nil]
          exact dpall_sm (del_mono s2) da
        refine k_dec (fun d1 => ?_) (fun d1 => ?_)
        rotate_left
        · walk_at "g"
          exact ⟨_, _, _, _, _, _, _, ws, rfl, sa.trans s2, s2 _ _ ea, no fun z => d1 z.1⟩
        walk_at "g"
        rw [tx_eq]
        refine k_dec (fun d2 => ?_) (fun d2 => ?_)
        rotate_left
        · walk_at "g"
          exact ⟨_, _, _, _, _, _, _, ws, rfl, sa.trans s2, s2 _ _ ea, no fun z => d2 z.2⟩
        walk_at "g"
        refine ⟨a, S, rs, b, rfl, hsa.sm s2, ok, by omega, fun p3 H3 n3 s3 e3 => ?_⟩
        have le := eatF_len ok rs b
        have en := len_tS (eatF S rs b)
        walk_at "g"
        refine k_nLcD (walk_list (xs := tS (eatF S rs b))) (fun H' s => sq_l (s _ _ e3)) (fun k zs H1 => DpAll K H1 zs ((((eatF S rs b).take k).map fun u => (er, u)).map dPr)) (fun k zs Ha Hb s h => dpall_sm s h) .nil (fun k zs Ha hk h => ?hz) (fun k x p Hc Hd zs Kp Ks hk hp sc ec hzs hy hKp hKs => ?ht2) (fun p4 H4 zs n4 s4 e4 hzs => ?he2)
        case hz =>
          have := dpall_len h
          rw [List.length_map, List.length_map, List.length_take] at this
          omega
        case ht2 =>
          obtain ⟨rfl, hv⟩ := hy
          obtain ⟨u, hu, rfl⟩ := map_get hv
          walk_at "g"
          refine ⟨rfl, ?_⟩
          walk_at "g"
          refine k_nTup (by walk_at "sz") (fun t5 H5 n5 s5 e5 => ?_)
          refine hKp _ _ s5 ?_
          rw [take_more hu, List.map_append, List.map_append]
          exact dpall_app (dpall_sm (del_mono s5) hzs) (.tup (del_t (s5 _ _ ec) (sq_t e5)) (.cons (.str _) (.cons (.str _) .nil)))
        case he2 =>
          rw [en, List.take_length] at hzs
          have lz := dpall_len hzs
          rw [List.length_map, List.length_map] at lz
          have ea4 := s4 _ _ (s3 _ _ (s2 _ _ ea))
          walk_at "g"
          refine k_extendB ea4 e4 (by omega) ?_
          walk_at "g"
          have np4 : p4 ≠ p1 := fun z => by rw [z, s3 _ _ (s2 _ _ ea)] at n4; cases n4
          refine ⟨_, _, _, _, _, _, _, ws ++ zs, rfl, sm_mut (sa.trans (s2.trans (s3.trans s4))) n1, upd_same, ?_⟩
          rw [hN, eP, if_pos ⟨d1, d2⟩, del_upd, List.map_append]
          exact dpall_apps (dpall_sm (del_mono (s2.trans (s3.trans s4))) da) (dpr_del ea4 hzs)
end
end Lw
set_option autoImplicit true
set_option pp.maxSteps 1200
set_option Elab.async false
set_option linter.all false
set_option maxRecDepth 100000
set_option maxHeartbeats 1000000
namespace Lw
open PySem PySem.Spec PyProof.Rows L2 Gk NdefX
open LamX hiding takes0
open PySem.W (AllAlike Sortable dataLe)

local macro_rules | `(tactic| walk_at "hp") => `(tactic| first | assumption | exact upd_same | (refine' (upd_ne ?n).trans ?h; (case n => assumption); (case h => walk_at "hp")) | (refine' sm_get ?s ?h; (case s => assumption); (case h => walk_at "hp")))
local macro_rules | `(tactic| walk_at "sq") => `(tactic| first | assumption | (refine' sq_l ?h; (case h => walk_at "hp")) | (refine' sm_l ?s ?h; (case s => assumption); (case h => walk_at "sq")))
local macro_rules | `(tactic| walk_at "st") => `(tactic| first | assumption | (refine' sq_t ?h; (case h => walk_at "hp")) | (refine' sm_t ?s ?h; (case s => assumption); (case h => walk_at "st")))
local macro_rules | `(tactic| walk_at "bg") => `(tactic| first | assumption | (refine' BagOk.sm ?s ?h; (case s => assumption); (case h => walk_at "bg")))
local macro_rules | `(tactic| walk_at "sm") => `(tactic| first | assumption | exact Same.refl _ | (refine' Same.trans ?h ?s; (case s => assumption); (case h => walk_at "sm")))
local macro_rules | `(tactic| walk_at "hs") => `(tactic| first | assumption | (refine' HsAt.sm ?s ?h; (case s => assumption); (case h => walk_at "hs")))
local macro_rules | `(tactic| walk_at "ms") => `(tactic| first | assumption | (refine' MAt.sm ?s ?h; (case s => assumption); (case h => walk_at "ms")))
local macro_rules | `(tactic| walk_at "md") => `(tactic| first | assumption | (refine' MDk.sm ?s ?h; (case s => assumption); (case h => walk_at "md")))
local macro_rules | `(tactic| walk_at "dp") => `(tactic| first | assumption | (refine' dp_sm ?s ?h; (case s => assumption); (case h => walk_at "dp")))
local macro_rules | `(tactic| walk_at "sz") => `(tactic| first | decide | assumption | omega | (simp only [List.length_cons, List.length_nil, List.length_map, List.length_append]; omega))
local macro_rules | `(tactic| walk_at "g1") => `(tactic| first
  | with_reducible refine k_seq ?_
  | with_reducible refine k_itB ?_
  | with_reducible refine k_next ?_
  | with_reducible refine k_asg ?_
  | with_reducible refine k_name ?_
  | with_reducible refine k_ret ?_
  | with_reducible refine k_retN ?_
  | with_reducible refine k_drop ?_
  | with_reducible refine k_ifs ?_
  | with_reducible refine k_brk ?_
  | with_reducible refine k_cont ?_
  | with_reducible refine k_ipI ?_
  | with_reducible refine k_test ?_
  | with_reducible refine k_tB ?_
  | with_reducible refine k_bl ?_
  | with_reducible refine k_not ?_
  | with_reducible refine k_and ?_
  | with_reducible refine k_or ?_
  | with_reducible refine k_yes ?_
  | with_reducible refine k_true ?_
  | with_reducible refine k_false ?_
  | with_reducible refine k_nt ?_
  | with_reducible refine k_c ?_
  | with_reducible refine k_op ?_
  | with_reducible refine k_un ?_
  | with_reducible refine k_if ?_
  | with_reducible refine k_chain ?_
  | with_reducible refine k_nil ?_
  | with_reducible refine k_cons ?_
  | with_reducible refine k_cb ?_
  | with_reducible refine k_call ?_
  | with_reducible refine k_callS ?_
  | with_reducible refine k_andV ?_
  | with_reducible refine k_orV ?_
  | with_reducible refine k_notV ?_
  | with_reducible refine k_lst ?_
  | with_reducible refine k_tup ?_
  | with_reducible refine k_nopart ?_
  | with_reducible refine k_part ?_
  | with_reducible refine k_nInt ?_
  | with_reducible refine k_sl ?_
  | with_reducible refine k_bm ?_
  | with_reducible refine k_bm0 ?_
  | with_reducible refine k_nTyS ?_
  | with_reducible refine k_m1 ?_
  | with_reducible refine k_m0 ?_
  | with_reducible refine k_nStr ?_
  | with_reducible refine k_I0 ?_
  | with_reducible refine k_U ?_
  | with_reducible refine k_add_i ?_
  | with_reducible refine k_eq_i ?_
  | with_reducible refine k_eq_s ?_
  | with_reducible refine k_eq_b ?_
  | with_reducible refine k_ne_i ?_
  | with_reducible refine k_ne_s ?_
  | with_reducible refine k_ne_b ?_
  | with_reducible refine k_le_i ?_
  | with_reducible refine k_le_s ?_
  | with_reducible refine k_gnil ?_
  | with_reducible refine k_gcons ?_
  | with_reducible refine k_gsub ?_
  | with_reducible refine k_for ?_
  | with_reducible refine k_lc ?_
  | with_reducible refine k_rng1 ?_
  | with_reducible refine k_rng2 ?_
  | with_reducible refine k_itl ?_
  | with_reducible refine k_itt ?_
  | with_reducible refine k_its ?_
  | with_reducible refine k_ite ?_
  | with_reducible refine k_iteB ?_
  | with_reducible refine k_lrg2 ?_
  | with_reducible refine k_itz ?_
  | with_reducible refine k_nIts ?_
  | with_reducible refine k_inS ?_
  | with_reducible refine k_niS ?_
  | with_reducible refine k_mk ?_
  | with_reducible refine k_meth ?_
  | with_reducible refine k_fld ?_
  | with_reducible refine k_sfld ?_
  | with_reducible refine k_dg ?_
  | with_reducible refine k_dp ?_
  | with_reducible refine k_pr ?_
  | with_reducible refine k_pr0 ?_
  | with_reducible refine k_sg ?_
  | with_reducible refine k_lc2 ?_
  | with_reducible refine k_callN ?_
  | with_reducible refine k_callNS ?_
  | with_reducible refine k_par ?_
  | with_reducible refine k_nPar ?_
  | with_reducible refine k_isNn ?_
  | with_reducible refine k_isNr ?_
  | with_reducible refine k_ntNn ?_
  | with_reducible refine k_ntNr ?_
  | with_reducible refine k_min2 ?_
  | with_reducible refine k_max2 ?_
  | with_reducible refine k_intB ?_
  | with_reducible refine k_intI ?_
  | with_reducible refine k_isBl ?_
  | with_reducible refine k_ntBl ?_
  | ((with_reducible refine' k_var ?kv ?_); (case kv => exact rfl))
  | ((with_reducible refine' k_aug ?kv ?_); (case kv => exact rfl))
  | ((with_reducible refine' k_ix_l ?ks ?ki ?_); (case ks => walk_at "sq"); (case ki => exact rfl))
  | ((with_reducible refine' k_ix_t ?ks ?ki ?_); (case ks => walk_at "st"); (case ki => exact rfl))
  | ((with_reducible refine' k_len_l ?ks ?_); (case ks => walk_at "sq"))
  | ((with_reducible refine' k_len_t ?ks ?_); (case ks => walk_at "st"))
  | ((with_reducible refine' k_setL ?ks ?ki ?_); (case ks => walk_at "hp"); (case ki => exact rfl))
  | ((with_reducible refine' k_nTyL ?ks ?_); (case ks => walk_at "sq"))
  | ((with_reducible refine' k_nItl ?ks ?_); (case ks => walk_at "sq"))
  | ((with_reducible refine' k_nItt ?ks ?_); (case ks => walk_at "st"))
  | ((with_reducible refine' k_nIte ?ks ?_); (case ks => walk_at "sq"))
  | ((with_reducible refine' k_mul ?km ?_); (case km => first | exact Or.inr ⟨by decide, by decide⟩ | exact Or.inl ⟨by decide, by decide⟩))
  | ((with_reducible refine' k_I ?km ?_); (case km => first | assumption | decide | exact ⟨by decide, by decide +kernel⟩ | exact ⟨by decide, by decide, by decide⟩))
  | ((with_reducible refine' k_nMeth ?kp ?kl ?_); (case kp => walk_at "hp"); (case kl => exact rfl))
  | ((with_reducible refine' k_nFld ?kp ?kc ?kn ?kl ?_); (case kp => walk_at "hp"); (case kc => assumption); (case kn => assumption); (case kl => exact rfl))
  | ((with_reducible refine' k_nSFld ?kp ?kc ?kn ?kl ?_); (case kp => walk_at "hp"); (case kc => assumption); (case kn => assumption); (case kl => exact of_decide_eq_true rfl))
  | ((with_reducible refine' k_nDg ?kp ?kl ?_); (case kp => walk_at "hp"); (case kl => exact rfl))
  | ((with_reducible refine' k_nRng1 ?k1 ?k2 ?_); (case k1 => omega); (case k2 => omega))
  | ((with_reducible refine' k_nKw ?k1 ?k2 ?_); (case k1 => exact rfl); (case k2 => exact rfl))
  | ((with_reducible refine' k_hsm ?kh ?_); (case kh => walk_at "hs"))
  | ((with_reducible refine' k_nMethH ?kh ?kl ?_); (case kh => walk_at "hs"); (case kl => exact fun _ _ => rfl))
  | ((with_reducible refine' k_mLet ?kh ?_); (case kh => walk_at "ms"))
  | ((with_reducible refine' k_mChew ?kh ?_); (case kh => walk_at "ms"))
  | ((with_reducible refine' k_mPut ?kh ?_); (case kh => walk_at "ms"))
  | ((with_reducible refine' k_mMost ?kh ?_); (case kh => walk_at "ms"))
  | ((with_reducible refine' k_mCut ?kh ?_); (case kh => walk_at "ms"))
  | ((with_reducible refine' k_mTab ?kh ?_); (case kh => walk_at "md"))
  | ((with_reducible refine' k_mEats ?kh ?_); (case kh => walk_at "md"))
  | ((with_reducible refine' k_gtup ?ks ?kl ?_); (case ks => walk_at "st"); (case kl => exact rfl)))
local macro_rules | `(tactic| walk_at "g") => `(tactic| repeat (walk_at "g1"))
local macro_rules | `(tactic| walk_at "w1") => `(tactic| first
  | walk_at "g1"
  | ((with_reducible refine' k_decT ?kp ?_); (case kp => omega))
  | ((with_reducible refine' k_decF ?kp ?_); (case kp => omega))
  | ((with_reducible refine' k_decNT ?kp ?_); (case kp => omega))
  | ((with_reducible refine' k_decNF ?kp ?_); (case kp => omega)))
local macro_rules | `(tactic| walk_at "w") => `(tactic| repeat (walk_at "w1"))

local macro_rules | `(tactic| walk_at "g1") => `(tactic| first
  | with_reducible refine k_mkP ?_
  | with_reducible refine k_din ?_
  | with_reducible refine k_dni ?_
  | with_reducible refine k_sortF ?_
  | with_reducible refine k_sortL ?_
  | with_reducible refine k_itk ?_
  | with_reducible refine k_revL ?_)


section
variable {P : Program} {w : World} {K : PySem.W.Frag} {mg : Str → Option Value} {base : Heap} {f : Addr} {fd : FuncData}
theorem k_snput {td ty tv : TE} {D : Ends} {σ : L2.St} {H : Hp} (h : tv σ H fun v H1 => td σ H1 fun x H2 => ty σ H2 fun y H3 => nNPut P w x y v H3 fun H4 => D.nx σ H4) : sNPut P w td ty tv D σ H := h
local macro_rules | `(tactic| walk_at "g1") => `(tactic| with_reducible refine k_snput ?_)
/-! ### orders: what no test tells apart is the same -/
def Tri (α : Type) [DecidableEq α] [PySem.W.DatumOrd α] : Prop := ∀ a b : α, PySem.W.DatumOrd.lt a b = false → PySem.W.DatumOrd.lt b a = false → a = b
theorem tri_int : Tri Int := fun a b h1 h2 => by
  have h1 : decide (a < b) = false := h1
  have h2 : decide (b < a) = false := h2
  simp only [decide_eq_false_iff_not] at h1 h2
  omega
theorem tri_str : Tri Str := fun a b h1 h2 => by
  have h1 : decide (a.cps.toList < b.cps.toList) = false := h1
  have h2 : decide (b.cps.toList < a.cps.toList) = false := h2
  simp only [decide_eq_false_iff_not, List.not_lt] at h1 h2
  obtain ⟨⟨a⟩⟩ := a
  obtain ⟨⟨b⟩⟩ := b
  have : a = b := List.le_antisymm h2 h1
  rw [this]
theorem tri_pair {α β : Type} [DecidableEq α] [PySem.W.DatumOrd α] [DecidableEq β] [PySem.W.DatumOrd β] (h1 : Tri α) (h2 : Tri β) : Tri (α × β) := fun ⟨a, b⟩ ⟨c, d⟩ e1 e2 => by
  have e1 : (if a = c then PySem.W.DatumOrd.lt b d else PySem.W.DatumOrd.lt a c) = false := e1
  have e2 : (if c = a then PySem.W.DatumOrd.lt d b else PySem.W.DatumOrd.lt c a) = false := e2
  by_cases h : a = c
  · rw [if_pos h] at e1
    rw [if_pos h.symm] at e2
    rw [h, h2 b d e1 e2]
  · rw [if_neg h] at e1
    rw [if_neg fun z => h z.symm] at e2
    exact absurd (h1 a c e1 e2) h
theorem tri_list {α : Type} [DecidableEq α] [PySem.W.DatumOrd α] (h1 : Tri α) : ∀ a b : List α, PySem.W.listLt a b = false → PySem.W.listLt b a = false → a = b
  | [], [], _, _ => rfl
  | [], y :: ys, e1, _ => by cases e1
  | x :: xs, [], _, e2 => by cases e2
  | x :: xs, y :: ys, e1, e2 => by
    rw [PySem.W.listLt] at e1 e2
    by_cases h : x = y
    · rw [if_pos h] at e1
      rw [if_pos h.symm] at e2
      rw [h, tri_list h1 xs ys e1 e2]
    · rw [if_neg h] at e1
      rw [if_neg fun z => h z.symm] at e2
      exact absurd (h1 x y e1 e2) h
theorem tri_tup {α : Type} [DecidableEq α] [PySem.W.DatumOrd α] (h1 : Tri α) : Tri (PySem.W.Tup α) := fun ⟨a⟩ ⟨b⟩ e1 e2 => by
  rw [tri_list h1 a b e1 e2]
abbrev CkT : Type := RkT × (Int × Str)
def ckO (c : Cnd) : CkT := (rkO c.1, ((c.2.1 : Nat) : Int), sdS c.2.2)
def ck3 (c : Cnd) : K3 := (c.1.map tx, ((c.2.1 : Nat) : Int), sdS c.2.2)
theorem tri_ck : Tri CkT := tri_pair (tri_pair tri_int (tri_tup (tri_pair tri_int tri_str))) (tri_pair tri_int tri_str)
theorem sdS_inj {a b : Bool} (h : sdS a = sdS b) : a = b := by
  have h1 := sdS_right a
  rw [h, sdS_right b] at h1
  exact h1.symm
theorem ck3_inj {a b : Cnd} (h : ck3 a = ck3 b) : a = b := by
  obtain ⟨a1, a2, a3⟩ := a
  obtain ⟨b1, b2, b3⟩ := b
  unfold ck3 at h
  injection h with h1 h
  injection h with h2 h3
  have h1 : a1.map tx = b1.map tx := h1
  have h2 : ((a2 : Nat) : Int) = ((b2 : Nat) : Int) := h2
  have h3 : sdS a3 = sdS b3 := h3
  rw [(List.map_inj_right (fun _ _ => tx_inj)).mp h1, Int.ofNat.inj h2, sdS_inj h3]
theorem rkO_inj {a b : List (List Nat)} (h : rkO a = rkO b) : a = b := by
  unfold rkO at h
  injection h with _ h
  injection h with h
  exact (List.map_inj_right (fun x y e => by
    unfold wrkO at e
    injection e with _ e
    exact tx_inj e)).mp h
theorem ckO_inj {a b : Cnd} (h : ckO a = ckO b) : a = b := by
  obtain ⟨a1, a2, a3⟩ := a
  obtain ⟨b1, b2, b3⟩ := b
  unfold ckO at h
  injection h with h1 h
  injection h with h2 h3
  have h1 : rkO a1 = rkO b1 := h1
  have h2 : ((a2 : Nat) : Int) = ((b2 : Nat) : Int) := h2
  have h3 : sdS a3 = sdS b3 := h3
  rw [rkO_inj h1, Int.ofNat.inj h2, sdS_inj h3]
/-- all rows ahead of a row, each once, rising -/
structure Aheads (S : HsD) (row : List (List Nat)) (L : List Cnd) : Prop where
  mem : ∀ c, c ∈ L ↔ AllW S c.1 ∧ leadsF S row c
  rise : L.Pairwise fun a b => PySem.W.DatumOrd.lt (ckO a) (ckO b) = true
theorem le_trans' {α : Type} (k : α → PyData) (a b c : α) (h1 : dataLe false k a b = true) (h2 : dataLe false k b c = true) : dataLe false k a c = true := by
  rw [PySem.W.dataLe_eq] at h1 h2 ⊢
  have h1 : (!PySem.W.dataLt (k b) (k a)) = true := h1
  have h2 : (!PySem.W.dataLt (k c) (k b)) = true := h2
  show (!PySem.W.dataLt (k c) (k a)) = true
  rw [Bool.not_eq_true'] at h1 h2 ⊢
  cases e : PySem.W.dataLt (k c) (k a) with
  | false => rfl
  | true =>
    rcases lex_negTrans (O := itemOrd) (PySem.W.keyToks (k c)) (PySem.W.keyToks (k b)) (PySem.W.keyToks (k a)) e with z | z
    · exact absurd (show PySem.W.dataLt (k c) (k b) = true from z) (by rw [h2]; exact Bool.false_ne_true)
    · exact absurd (show PySem.W.dataLt (k b) (k a) = true from z) (by rw [h1]; exact Bool.false_ne_true)
theorem le_total' {α : Type} (k : α → PyData) (a b : α) : (dataLe false k a b || dataLe false k b a) = true := by
  rw [PySem.W.dataLe_eq]
  show ((!PySem.W.dataLt (k b) (k a)) || (!PySem.W.dataLt (k a) (k b))) = true
  cases e : PySem.W.dataLt (k b) (k a) with
  | false => rfl
  | true =>
    cases e2 : PySem.W.dataLt (k a) (k b) with
    | false => rfl
    | true =>
      have := lex_trans (O := itemOrd) (PySem.W.keyToks (k a)) (PySem.W.keyToks (k b)) (PySem.W.keyToks (k a)) e2 e
      exact absurd (show PySem.W.dataLt (k a) (k a) = true from this) (by rw [PySem.W.dataLt_self]; exact Bool.false_ne_true)
theorem rise_sort {α β : Type} [DecidableEq β] [PySem.W.DatumOrd β] (tri : Tri β) (g : α → β) (gi : ∀ a b, g a = g b → a = b) {L : List α} (nd : L.Nodup) : (L.mergeSort (dataLe false fun a => PySem.W.Datum.toD (g a))).Pairwise fun a b => PySem.W.DatumOrd.lt (g a) (g b) = true := by
  have h1 := List.pairwise_mergeSort (le := dataLe false fun a => PySem.W.Datum.toD (g a)) (le_trans' _) (le_total' _) L
  have h2 : (L.mergeSort (dataLe false fun a => PySem.W.Datum.toD (g a))).Nodup := (List.mergeSort_perm L _).nodup_iff.mpr nd
  refine (h1.and h2).imp fun {a b} h => ?_
  obtain ⟨h3, h4⟩ := h
  rw [PySem.W.dataLe_eq] at h3
  have h3 : (!PySem.W.dataLt (PySem.W.Datum.toD (g b)) (PySem.W.Datum.toD (g a))) = true := h3
  rw [PySem.W.DatumOrd.lt_eq, Bool.not_eq_true'] at h3
  cases e : PySem.W.DatumOrd.lt (g a) (g b) with
  | true => rfl
  | false => exact absurd (gi a b (tri _ _ e h3)) h4
/-! ### the dict while it grows -/
structure NdInv (P : Program) (w : World) (H0 H : Hp) (D : Addr) (Done : Cnd → Prop) (n : Nat) (xs : List (K3 × Addr)) : Prop where
  d : H D = some (ndO P w D xs)
  k : ∀ x ∈ xs, K3At H x.2 x.1
  m : ∀ c, ck3 c ∈ xs.map (·.1) ↔ Done c
  c : ∀ x ∈ xs, ∃ c, x.1 = ck3 c
  l : xs.length ≤ n
  nd : (xs.map (·.1)).Nodup
  s : Same H0 H
theorem NdInv.sm {H0 H H' : Hp} {D : Addr} {Done : Cnd → Prop} {n : Nat} {xs : List (K3 × Addr)} (s : Same H H') (h : NdInv P w H0 H D Done n xs) : NdInv P w H0 H' D Done n xs := ⟨s _ _ h.d, fun x hx => (h.k x hx).sm s, h.m, h.c, h.l, h.nd, h.s.trans s⟩
theorem NdInv.to {H0 H : Hp} {D : Addr} {Done Done' : Cnd → Prop} {n n' : Nat} {xs : List (K3 × Addr)} (h : NdInv P w H0 H D Done n xs) (e : ∀ c, Done c ↔ Done' c) (hn : n ≤ n') : NdInv P w H0 H D Done' n' xs := ⟨h.d, h.k, fun c => (h.m c).trans (e c), h.c, Nat.le_trans h.l hn, h.nd, h.s⟩
theorem put3_mem {xs : List (K3 × Addr)} {k : K3} {b : Addr} {z : K3} : z ∈ (put3 xs k b).map (·.1) ↔ z ∈ xs.map (·.1) ∨ z = k := by
  unfold put3
  split
  · rename_i h
    obtain ⟨y, hy, e⟩ := List.any_eq_true.mp h
    refine ⟨.inl, fun h => h.elim id fun z => ?_⟩
    rw [z, ← of_decide_eq_true e]
    exact List.mem_map_of_mem hy
  · rw [List.map_append, List.mem_append]
    simp
theorem NdInv.put {H0 H : Hp} {D b : Addr} {Done Done' : Cnd → Prop} {n : Nat} {xs : List (K3 × Addr)} {c : Cnd} (h : NdInv P w H0 H D Done n xs) (n0 : H0 D = none) (hb : K3At H b (ck3 c)) (e : ∀ z, Done' z ↔ Done z ∨ z = c) : NdInv P w H0 (upd H D (ndO P w D (put3 xs (ck3 c) b))) D Done' (n + 1) (put3 xs (ck3 c) b) := by
  have hm : ∀ x ∈ put3 xs (ck3 c) b, x ∈ xs ∨ x = (ck3 c, b) := fun x hx => by
    unfold put3 at hx
    split at hx
    · exact .inl hx
    · exact (List.mem_append.mp hx).imp id fun z => List.mem_singleton.mp z
  refine ⟨upd_same, fun x hx => ?_, fun z => ?_, fun x hx => ?_, Nat.le_trans (put3_len xs _ b) (Nat.succ_le_succ h.l), put3_nodup h.nd, sm_mut h.s n0⟩
  · rcases hm x hx with hx | rfl
    · exact (h.k x hx).upd h.d
    · exact hb.upd h.d
  · rw [put3_mem, e, h.m]
    exact or_congr Iff.rfl ⟨fun z => ck3_inj z, fun z => by rw [z]⟩
  · rcases hm x hx with hx | rfl
    · exact h.c x hx
    · exact ⟨c, rfl⟩
def D1 (S : HsD) (us : List (List Nat)) (i : Nat) (c : Cnd) : Prop := ∃ low high b, low < i ∧ low < high ∧ high ≤ us.length ∧ HitP S us low high b (partF S (longF us low high) b) c
def D2 (S : HsD) (us : List (List Nat)) (i h : Nat) (c : Cnd) : Prop := D1 S us i c ∨ ∃ high b, i < high ∧ high < h ∧ HitP S us i high b (partF S (longF us i high) b) c
def D3 (S : HsD) (us : List (List Nat)) (i h k : Nat) (c : Cnd) : Prop := D2 S us i h c ∨ ∃ b, b ∈ [false, true].take k ∧ HitP S us i h b (partF S (longF us i h) b) c
def D4 (S : HsD) (us : List (List Nat)) (i h k : Nat) (b : Bool) (m : Nat) (c : Cnd) : Prop := D3 S us i h k c ∨ HitP S us i h b ((partF S (longF us i h) b).take m) c
theorem D2_zero {S : HsD} {us : List (List Nat)} {i : Nat} (c : Cnd) : D1 S us i c ↔ D2 S us i (i + 1) c := ⟨.inl, fun h => h.elim id fun ⟨high, b, h1, h2, _⟩ => by omega⟩
theorem D2_all {S : HsD} {us : List (List Nat)} {i : Nat} (c : Cnd) : D2 S us i (us.length + 1) c ↔ D1 S us (i + 1) c := by
  constructor
  · rintro (⟨low, high, b, h1, h2⟩ | ⟨high, b, h1, h2, h3⟩)
    · exact ⟨low, high, b, by omega, h2⟩
    · exact ⟨i, high, b, by omega, h1, by omega, h3⟩
  · rintro ⟨low, high, b, h1, h2, h3, h4⟩
    by_cases e : low = i
    · subst e
      exact .inr ⟨high, b, h2, by omega, h4⟩
    · exact .inl ⟨low, high, b, by omega, h2, h3, h4⟩
theorem D3_zero {S : HsD} {us : List (List Nat)} {i h : Nat} (c : Cnd) : D2 S us i h c ↔ D3 S us i h 0 c := ⟨.inl, fun z => z.elim id fun ⟨b, h1, _⟩ => nomatch h1⟩
theorem D3_all {S : HsD} {us : List (List Nat)} {i h : Nat} (hi : i < h) (c : Cnd) : D3 S us i h 2 c ↔ D2 S us i (h + 1) c := by
  constructor
  · rintro ((z | ⟨high, b, h1, h2, h3⟩) | ⟨b, _, h2⟩)
    · exact .inl z
    · exact .inr ⟨high, b, h1, by omega, h3⟩
    · exact .inr ⟨h, b, hi, by omega, h2⟩
  · rintro (z | ⟨high, b, h1, h2, h3⟩)
    · exact .inl (.inl z)
    · by_cases e : high = h
      · subst e
        exact .inr ⟨b, by cases b <;> decide, h3⟩
      · exact .inl (.inr ⟨high, b, h1, by omega, h3⟩)
theorem D4_zero {S : HsD} {us : List (List Nat)} {i h k : Nat} {b : Bool} (c : Cnd) : D3 S us i h k c ↔ D4 S us i h k b 0 c := ⟨.inl, fun z => z.elim id fun ⟨_, ⟨x, h1, _⟩, _⟩ => nomatch h1⟩
theorem D4_all {S : HsD} {us : List (List Nat)} {i h k : Nat} {b : Bool} (hb : [false, true][k]? = some b) (c : Cnd) : D4 S us i h k b (partF S (longF us i h) b).length c ↔ D3 S us i h (k + 1) c := by
  unfold D4 D3
  rw [List.take_length, take_more hb]
  constructor
  · rintro ((z | ⟨b', h1, h2⟩) | z)
    · exact .inl z
    · exact .inr ⟨b', List.mem_append_left _ h1, h2⟩
    · exact .inr ⟨b, by simp, z⟩
  · rintro (z | ⟨b', h1, h2⟩)
    · exact .inl (.inl z)
    · rcases List.mem_append.mp h1 with h1 | h1
      · exact .inl (.inr ⟨b', h1, h2⟩)
      · rw [List.mem_singleton.mp h1] at h2
        exact .inr h2
theorem D4_skip {S : HsD} {us : List (List Nat)} {i h k : Nat} {b : Bool} (hb : [false, true][k]? = some b) (hn : ¬ ((((longF us i h).length : Int) ≤ 2 * S.mo + 2) ∧ cutW S (longF us i h) = (us.drop i).take (h - i))) (c : Cnd) : D3 S us i h k c ↔ D3 S us i h (k + 1) c := by
  unfold D3
  rw [take_more hb]
  constructor
  · rintro (z | ⟨b', h1, h2⟩)
    · exact .inl z
    · exact .inr ⟨b', List.mem_append_left _ h1, h2⟩
  · rintro (z | ⟨b', h1, h2⟩)
    · exact .inl z
    · exact absurd h2.1 hn
theorem D4_next {S : HsD} {us : List (List Nat)} {i h k m : Nat} {b : Bool} {x : List Nat × List Nat} (hx : (partF S (longF us i h) b)[m]? = some x) (hc : (((longF us i h).length : Int) ≤ 2 * S.mo + 2) ∧ cutW S (longF us i h) = (us.drop i).take (h - i)) (c : Cnd) : D4 S us i h k b (m + 1) c ↔ D4 S us i h k b m c ∨ (c = eldF us i h b x ∧ leadsF S us (eldF us i h b x)) := by
  unfold D4 HitP
  rw [take_more hx]
  constructor
  · rintro (z | ⟨_, ⟨y, h1, h2⟩, h3⟩)
    · exact .inl (.inl z)
    · rcases List.mem_append.mp h1 with h1 | h1
      · exact .inl (.inr ⟨hc, ⟨y, h1, h2⟩, h3⟩)
      · rw [List.mem_singleton.mp h1] at h2
        exact .inr ⟨h2, h2 ▸ h3⟩
  · rintro ((z | ⟨_, ⟨y, h1, h2⟩, h3⟩) | ⟨h1, h2⟩)
    · exact .inl z
    · exact .inr ⟨hc, ⟨y, List.mem_append_left _ h1, h2⟩, h3⟩
    · exact .inr ⟨hc, ⟨x, by simp, h1⟩, h1 ▸ h2⟩
/-- a told row with its bite -/
def CnAt (H : Hp) (v : V) (c : Cnd) : Prop := ∃ t e, v = .ref t ∧ H t = some (.tup [.ref e, .int (c.2.1 : Nat), .str (sdS c.2.2)]) ∧ H e = some (.tup (tS c.1))
theorem CnAt.sm {H H' : Hp} {v : V} {c : Cnd} (s : Same H H') (h : CnAt H v c) : CnAt H' v c := by
  obtain ⟨t, e, h0, h1, h2⟩ := h
  exact ⟨t, e, h0, s _ _ h1, s _ _ h2⟩
theorem map_tx (us : List (List Nat)) : (us.map tx).map V.str = tS us := by
  rw [List.map_map]
  rfl
theorem join_tx3 (us : List (List Nat)) : (Txt.join (Str.ofString "") (us.map tx)) = tx us.flatten := by
  refine TL.ext_tl ?_
  rw [TL.join_eq, TL.tl_join, tl_tx, show TL.tl (Str.ofString "") = [] from rfl, joinL_nil, List.map_map]
  congr 1
  rw [show (TL.tl ∘ tx) = id from rfl, List.map_id]
theorem sum_tx3 {n : Nat} : ∀ {us : List (List Nat)}, (∀ u ∈ us, u.length ≤ n) → ((us.map tx).map (·.length)).sum ≤ n * us.length
  | [], _ => Nat.zero_le _
  | u :: us, h => by
    have h1 := h u List.mem_cons_self
    have h2 := sum_tx3 (us := us) fun v hv => h v (List.mem_cons_of_mem _ hv)
    rw [List.map_cons, List.map_cons, List.sum_cons, List.length_cons, len_tx, Nat.mul_add]
    omega
theorem flat_len3 {n : Nat} : ∀ {us : List (List Nat)}, (∀ u ∈ us, u.length ≤ n) → us.flatten.length ≤ n * us.length
  | [], _ => Nat.zero_le _
  | u :: us, h => by
    have h1 := h u List.mem_cons_self
    have h2 := flat_len3 (us := us) fun v hv => h v (List.mem_cons_of_mem _ hv)
    rw [List.flatten_cons, List.length_append, List.length_cons, Nat.mul_add]
    omega
theorem sqt_updN {H : Hp} {D b : Addr} {xs ys : List (K3 × Addr)} {vs : List V} (g : H D = some (ndO P w D xs)) (h : SqT K H b vs) : SqT K (L2.upd H D (ndO P w D ys)) b vs := by
  rcases h with (h | ⟨x, h⟩) | h
  · refine .inl (.inl ?_)
    rw [upd_ne (ne_of h g (fun z => nomatch z))]
    exact h
  · refine .inl (.inr ⟨x, ?_⟩)
    rw [upd_ne (ne_of h g (fun z => nomatch z))]
    exact h
  · exact .inr h
theorem dpr_updN {H : Hp} {D : Addr} {xs ys : List (K3 × Addr)} (g : H D = some (ndO P w D xs)) : ∀ {L : List (List Nat × List Nat)} {ws : List V}, DpAll K H ws (L.map dPr) → DpAll K (L2.upd H D (ndO P w D ys)) ws (L.map dPr)
  | [], _, .nil => .nil
  | x :: L, _, .cons h t => by
    obtain ⟨t', a, b, rfl, h1, h2, h3⟩ := dp_tup2I h
    cases dp_strI h2
    cases dp_strI h3
    exact .cons (.tup (sqt_updN g h1) (.cons (.str _) (.cons (.str _) .nil))) (dpr_updN g t)
def spAheadOf (K : PySem.W.Frag) : Sp := fun vs H Q _ => ∃ (a r : Addr) (S : HsD) (us : List (List Nat)), vs = [.ref a, .ref r] ∧ HsAt K H a S ∧ HsOk S ∧ SqL K H r (tS us) ∧ AllW S us ∧ us.length ≤ 20 ∧ Tabs (TT K) H ∧
  ∀ (L : List Cnd) p ws H', Aheads S us L → L.length ≤ 33600 → FreeN H p → ExtN H H' → Tabs (TT K) H' → H' p = some (.lst ws) → Paired (CnAt H') ws L → Q (.ref p) H'
theorem ok_ahead_of (F : FnP K "ahead_of" s_ahead_of (He.fAd K ("ahead_of", none)) fd) (hm : mg "ahead_of" = some (.ref (He.fAd K ("ahead_of", none)))) (tb_ahead_of : TabB base mg (He.cT K ("ahead_of", none)).1 (He.cT K ("ahead_of", none)).2) (huT_ahead_of : ∀ p ∈ TT K, p.1 = (He.cT K ("ahead_of", none)).2 → p.2 = lq "ahead_of") (f_len : mg "len" = none) (f_range : mg "range" = none) (f_list : mg "list" = none) (f_tuple : mg "tuple" = none) (f_sorted : mg "sorted" = none)
    (c_House_most : CalleeM P w K mg base CX0 "House" "most" 1 (spHsM K fun S => .int S.mo)) (c_cut_long : Callee P w K mg base CX0 "cut_long" 2 [] (spCut K)) (c_parted_long : Callee P w K mg base CX0 "parted_long" 4 [] (spParted K)) (c_behind : Callee P w K mg base CX0 "behind" 3 [] (spBehind K)) (c_row_rank : Callee P w K mg base CX0 "row_rank" 2 [] (spRank K)) : Callee P w K mg base CX0 "ahead_of" 7 [] (spAheadOf K) := by
  refine ⟨_, fd, _, [], okC F sc_ahead_of (fun vs H Q E h => ?hl) (fun A outer s H vs Q E hr h => ⟨_, PSs.nox (pss_cons (ps_set (i := 2) sc_ahead_of.nd rfl (by first | exact Or.inl rfl | exact Or.inr rfl) (pe_dnewN P w))
      (pss_cons (ps_for PassesOwn.never rfl (pi_range1 (by rfl) f_range (pa_cons (pe_callB (call_lenK K) (by rfl) f_len PySem.boot_len (pa_cons (pv 1) pa_nil)) pa_nil)) (pg_name (i := 3) sc_ahead_of.nd rfl (by first | exact Or.inl rfl | exact Or.inr rfl)) (pss_one (ps_for PassesOwn.never rfl (pi_range2 (by rfl) f_range (pa_cons (pe_op (op_addK K) (pv 3) pe_int) (pa_cons (pe_op (op_addK K) (pe_callB (call_lenK K) (by rfl) f_len PySem.boot_len (pa_cons (pv 1) pa_nil)) pe_int) pa_nil))) (pg_name (i := 4) sc_ahead_of.nd rfl (by first | exact Or.inl rfl | exact Or.inr rfl)) (pss_cons (ps_set (i := 5) sc_ahead_of.nd rfl (by first | exact Or.inl rfl | exact Or.inr rfl) (pe_slice (sl_k K) (pv 1) (po_some (pv 3)) (po_some (pv 4))))
      (pss_cons (ps_set (i := 6) sc_ahead_of.nd rfl (by first | exact Or.inl rfl | exact Or.inr rfl) (pe_joinK K pe_str (pv 5)))
      (pss_one (ps_if (PW.pt (pw_and (pt_cmpR op_leU (pe_callB (call_lenK K) (by rfl) f_len PySem.boot_len (pa_cons (pv 6) pa_nil)) (pe_op (op_addK K) (pe_op op_mul pe_int (pe_mt0 c_House_most hr (pv 0) pass0)) pe_int) (nomark _)) (pw_and1 (pt_cmpR (op_eqK K hr.units) (pe_cl c_cut_long hr (pa_cons (pv 0) (pa_cons (pv 6) pa_nil)) pass0) (pv 5) (nomark _))))) (pss_one (ps_for PassesOwn.never rfl (pi_tupK K (pe_tup (pa_cons pe_str (pa_cons pe_str pa_nil)))) (pg_name (i := 7) sc_ahead_of.nd rfl (by first | exact Or.inl rfl | exact Or.inr rfl)) (pss_one (ps_for PassesOwn.never rfl (pi_listK K (pe_cl c_parted_long hr (pa_cons (pv 0) (pa_cons (pv 6) (pa_cons (pv 7) pa_nil))) pass0)) (pg_tupK K 2 (by rfl) (pgs_cons (pg_name (i := 8) sc_ahead_of.nd rfl (by first | exact Or.inl rfl | exact Or.inr rfl)) (pgs_cons (pg_name (i := 9) sc_ahead_of.nd rfl (by first | exact Or.inl rfl | exact Or.inr rfl)) pgs_nil))) (Evl.pss_cut (ps_set (i := 10) sc_ahead_of.nd rfl (by first | exact Or.inl rfl | exact Or.inr rfl) (pe_ifExp (pt_cmpR (op_eqK K hr.units) (pv 7) pe_str (nomark _)) (pe_lst (pa_cons (pv 8) (pa_cons (pv 9) pa_nil))) (pe_lst (pa_cons (pv 9) (pa_cons (pv 8) pa_nil)))))
      (Evl.pss_cut (ps_set (i := 11) sc_ahead_of.nd rfl (by first | exact Or.inl rfl | exact Or.inr rfl) (pe_ifExp (pt_cmpR (op_eqK K hr.units) (pv 7) pe_str (nomark _)) (pv 3) (pe_op (op_addK K) (pv 3) pe_int)))
      (pss_cons (ps_set (i := 12) sc_ahead_of.nd rfl (by first | exact Or.inl rfl | exact Or.inr rfl) (pe_op (op_addK K) (pe_op (op_addK K) (pe_slice (sl_k K) (pv 1) po_none (po_some (pv 3))) (pv 10)) (pe_slice (sl_k K) (pv 1) (po_some (pv 4)) po_none)))
      (pss_one (ps_if (pt_cmpR (op_eqK K hr.units) (pe_cl c_behind hr (pa_cons (pv 0) (pa_cons (pv 12) (pa_cons (pv 11) (pa_cons (pv 7) pa_nil)))) pass0) (pv 1) (nomark _)) (pss_one (ps_nput P w hr.units (pv 2) (pe_tup (pa_cons (pe_callTy (call_tupK K) (by rfl) f_tuple (by decide +kernel) (pa_cons (pv 12) pa_nil)) (pa_cons (pv 11) (pa_cons (pv 7) pa_nil)))) pe_bl rfl)) pss_nil))))))))) pss_nil)))))))
      (pss_one (ps_ret (pe_sortL (k := 3) (N := ["one"]) (a := "one") (fr := []) (js := []) K (TT K) ⟨tb_ahead_of, rfl⟩ (by first | exact List.mem_cons_self | exact List.mem_cons_of_mem _ List.mem_cons_self | exact List.mem_cons_of_mem _ (List.mem_cons_of_mem _ List.mem_cons_self)) huT_ahead_of hr f_sorted (pe_callTy (cr_listN P w) (by rfl) f_list (by decide +kernel) (pa_cons (pv 2) pa_nil)) (nscope_by (by decide +kernel)) (defScope s_ahead_of) (by decide +kernel) rfl rfl (fun _ _ _ _ _ _ => rfl) (fun E A outer s H f c' hr => (pe_tup (pa_cons (pe_cl c_row_rank hr (pa_cons (pe_ix (ix_k K) (pv 0) pe_int (fun _ _ => rfl)) pa_nil) pass0) (pa_cons (pe_slice (sl_k K) (pv 0) (po_some pe_int) po_none) pa_nil))))))))), ?rd⟩), hm, F.kp, F.bindsN fun _ _ _ _ _ _ us hl => match us, hl with | [_, _], _ => rfl, .nil⟩
  case hl =>
    obtain ⟨a, r, S, us, rfl, _⟩ := h
    rfl
  case rd =>
    obtain ⟨a, r, S, us, rfl, hs, ok, hx, hw, lu, hT, q⟩ := h
    refine k_start (σ' := [some _, some _, none, none, none, none, none, none, none, none, none, none, none]) rfl ?_
    have lx := len_tS us
    have m3 := ok.m3
    have m1 := ok.m1
    walk_at "g"
    refine k_dnewN (fun D H1 n1 s1 e1 => ?_)
    have I0 : NdInv P w H H1 D (D1 S us 0) 0 [] := ⟨e1, (fun _ h => nomatch h), fun c => ⟨(fun h => nomatch h), fun ⟨low, _, _, h, _⟩ => absurd h (Nat.not_lt_zero _)⟩, (fun _ h => nomatch h), Nat.le_refl _, List.nodup_nil, s1⟩
    have hx1 := sm_l s1 hx
    walk_at "g"
    rw [lx]
    walk_at "g"
    refine k_nFor walk_range (fun i σ H' => ∃ (y3 y4 y5 y6 y7 y8 y9 y10 y11 y12 : Option V) (xs : List (K3 × Addr)), σ = [some (.ref a), some (.ref r), some (.ref D), y3, y4, y5, y6, y7, y8, y9, y10, y11, y12] ∧ NdInv P w H H' D (D1 S us i) (1680 * i) xs) ⟨_, _, _, _, _, _, _, _, _, _, _, rfl, I0⟩ (fun _ _ _ _ _ => trivial) (fun i x σ Ha Hb hi h hy => ?ht) (fun σ H' h => ?he)
    case ht =>
      obtain ⟨y3, y4, y5, y6, y7, y8, y9, y10, y11, y12, xs0, rfl, N0⟩ := h
      obtain ⟨rfl, rfl⟩ := y_rng hy
      have hxa := sm_l N0.s hx
      walk_at "g"
      rw [lx]
      walk_at "g"
      refine k_nRng2 (by omega) ?_
      rw [show ((us.length : Int) + 1 - ((i : Nat) + 1)).toNat = us.length - i by omega]
      refine k_nFor walk_range (fun j σ H' => ∃ (y4 y5 y6 y7 y8 y9 y10 y11 y12 : Option V) (xs : List (K3 × Addr)), σ = [some (.ref a), some (.ref r), some (.ref D), some (.int (i : Nat)), y4, y5, y6, y7, y8, y9, y10, y11, y12] ∧ NdInv P w H H' D (D2 S us i (i + 1 + j)) (1680 * i + 84 * j) xs) ⟨_, _, _, _, _, _, _, _, _, _, rfl, N0.to D2_zero (by omega)⟩ (fun _ _ _ _ _ => trivial) (fun j x σ Ha Hb hj h hy => ?ht2) (fun σ H' h => ?he2)
      case he2 =>
        obtain ⟨y4, y5, y6, y7, y8, y9, y10, y11, y12, xs, rfl, N⟩ := h
        rw [show i + 1 + (us.length - i) = us.length + 1 by omega] at N
        exact ⟨_, _, _, _, _, _, _, _, _, _, xs, rfl, N.to D2_all (by omega)⟩
      case ht2 =>
        obtain ⟨y4, y5, y6, y7, y8, y9, y10, y11, y12, xs1, rfl, N1⟩ := h
        obtain ⟨rfl, rfl⟩ := hy
        obtain ⟨hg, ehg⟩ : ∃ hg : Nat, hg = i + 1 + j := ⟨_, rfl⟩
        dsimp only
        rw [show ((i : Nat) : Int) + 1 + (j : Int) = ((hg : Nat) : Int) by omega]
        rw [← ehg] at N1
        have hnx : i + 1 + (j + 1) = hg + 1 := by omega
        have hxb := sm_l N1.s hx
        have hsb := hs.sm N1.s
        walk_at "g"
        refine k_sl_l hxb (fun p3 H3 n3 s3 e3 => ?_)
        rw [cutV_mid _ _ _ (by omega) (by omega), Int.toNat_natCast, Int.toNat_natCast, tS_drop, tS_take] at e3
        have hst : ∀ u ∈ (us.drop i).take (hg - i), u ∈ wordsF S.ls S.mo.toNat := fun u hu => hw u (List.mem_of_mem_drop (List.mem_of_mem_take hu))
        have hst3 : ∀ u ∈ (us.drop i).take (hg - i), u.length ≤ 3 := fun u hu => by have := (words_ok u (hst u hu)).2.1; omega
        have lst : ((us.drop i).take (hg - i)).length ≤ 20 := by rw [List.length_take, List.length_drop]; omega
        have llong : (longF us i hg).length ≤ 60 := by
          have := flat_len3 hst3
          show (((us.drop i).take (hg - i)).flatten).length ≤ 60
          omega
        have hlw := long_in hw i hg
        have l1long : 1 ≤ (longF us i hg).length := by
          show 1 ≤ (((us.drop i).take (hg - i)).flatten).length
          rw [List.drop_eq_getElem_cons (by omega), show hg - i = (hg - i - 1) + 1 by omega, List.take_succ_cons, List.flatten_cons, List.length_append]
          have := (words_ok _ (hw _ (List.getElem_mem (show i < us.length by omega)))).1
          omega
        walk_at "g"
        refine k_join (ys := ((us.drop i).take (hg - i)).map tx) (by rw [map_tx]; exact sq_l e3) (by
          have := sum_tx3 hst3
          rw [show (Str.ofString "").length = 0 from rfl, Nat.mul_zero]
          omega) ?_
        rw [join_tx3, show ((us.drop i).take (hg - i)).flatten = longF us i hg from rfl]
        have ll := len_tx (longF us i hg)
        have hsc := hsb.sm s3
        walk_at "g"
        refine k_len_s (by omega) ?_
        walk_at "g"
        rw [ll]
        have N3 := N1.sm s3
        have skip : ¬ ((((longF us i hg).length : Int) ≤ 2 * S.mo + 2) ∧ cutW S (longF us i hg) = (us.drop i).take (hg - i)) → ∀ c, D2 S us i hg c ↔ D2 S us i (hg + 1) c := fun hn c => (D3_zero c).trans ((D4_skip (b := false) rfl hn c).trans ((D4_skip (b := true) rfl hn c).trans (D3_all (by omega) c)))
        refine k_dec (fun d1 => ?_) (fun d1 => ?_)
        rotate_left
        · walk_at "g"
          exact ⟨_, _, _, _, _, _, _, _, _, xs1, rfl, by rw [hnx]; exact N3.to (skip fun z => d1 z.1) (by omega)⟩
        walk_at "g"
        refine ⟨a, S, longF us i hg, rfl, hsc, ok, by omega, fun p4 H4 n4 s4 e4 => ?_⟩
        have cw := cutW_words ok _ (longF us i hg) (Nat.le_refl _) l1long hlw
        have N4 := N3.sm s4
        walk_at "g"
        refine row_eq ok hst (by omega) cw.1 (by omega) (sq_l e4) (sq_l (s4 _ _ e3)) ?_
        walk_at "g"
        refine k_dec (fun d2 => ?_) (fun d2 => ?_)
        rotate_left
        · walk_at "g"
          exact ⟨_, _, _, _, _, _, _, _, _, xs1, rfl, by rw [hnx]; exact N4.to (skip fun z => d2 z.2) (by omega)⟩
        walk_at "g"
        refine k_nTup (by walk_at "sz") (fun p5 H5 n5 s5 e5 => ?_)
        have N5 := N4.sm s5
        walk_at "g"
        refine k_nFor (walk_tup (xs := [V.str (Str.ofString "left"), V.str (Str.ofString "right")])) (fun k σ H' => ∃ (y7 y8 y9 y10 y11 y12 : Option V) (xs : List (K3 × Addr)), (σ = [some (.ref a), some (.ref r), some (.ref D), some (.int (i : Nat)), some (.int (hg : Nat)), some (.ref p3), some (.str (tx (longF us i hg))), y7, y8, y9, y10, y11, y12] ∧ NdInv P w H H' D (D3 S us i hg k) (1680 * i + 84 * j + 42 * k) xs) ∧ H' p5 = some (.tup [V.str (Str.ofString "left"), V.str (Str.ofString "right")])) ⟨_, _, _, _, _, _, _, ⟨rfl, N5.to D3_zero (by omega)⟩, e5⟩ (fun k σ H' _ h => by obtain ⟨_, _, _, _, _, _, _, _, h⟩ := h; exact sq_t h) (fun k x σ Ha Hb hk h hy => ?ht3) (fun σ H' h => ?he3)
        case he3 =>
          obtain ⟨y7, y8, y9, y10, y11, y12, xs, ⟨rfl, N⟩, _⟩ := h
          exact ⟨_, _, _, _, _, _, _, _, _, xs, rfl, by rw [hnx]; exact N.to (D3_all (by omega)) (by show 1680 * i + 84 * j + 42 * 2 ≤ _; omega)⟩
        case ht3 =>
          obtain ⟨y7, y8, y9, y10, y11, y12, xs2, ⟨rfl, N6⟩, e6⟩ := h
          obtain ⟨rfl, hv⟩ := hy
          obtain ⟨b, hb, rfl⟩ : ∃ b, [false, true][k]? = some b ∧ x = .str (sdS b) := by
            have : k = 0 ∨ k = 1 := by
              have : k < 2 := hk
              omega
            rcases this with rfl | rfl <;> cases hv
            · exact ⟨false, rfl, rfl⟩
            · exact ⟨true, rfl, rfl⟩
          have hk2 : k < 2 := hk
          have hs6 := hs.sm N6.s
          walk_at "g"
          refine ⟨a, S, longF us i hg, b, rfl, hs6, ok, by omega, fun p7 ws H7 n7 s7 e7 d7 => ?_⟩
          have lws := dpall_len d7
          rw [List.length_map] at lws
          have lpt := partTo_len ok (longF us i hg) b S.mo.toNat
          have lpt' : (partF S (longF us i hg) b).length ≤ 14 * S.mo.toNat := lpt
          have N7 := N6.sm s7
          walk_at "g"
          refine k_nFor (walk_list (xs := ws)) (fun m σ H' => ∃ (y8 y9 y10 y11 y12 : Option V) (xs : List (K3 × Addr)), (σ = [some (.ref a), some (.ref r), some (.ref D), some (.int (i : Nat)), some (.int (hg : Nat)), some (.ref p3), some (.str (tx (longF us i hg))), some (.str (sdS b)), y8, y9, y10, y11, y12] ∧ NdInv P w H H' D (D4 S us i hg k b m) (1680 * i + 84 * j + 42 * k + m) xs) ∧ H' p5 = some (.tup [V.str (Str.ofString "left"), V.str (Str.ofString "right")]) ∧ H' p7 = some (.lst ws) ∧ DpAll K H' ws ((partF S (longF us i hg) b).map dPr)) ⟨_, _, _, _, _, _, ⟨rfl, N7.to D4_zero (by omega)⟩, s7 _ _ e6, e7, d7⟩ (fun m σ H' _ h => by obtain ⟨_, _, _, _, _, _, _, _, h, _⟩ := h; exact sq_l h) (fun m x σ Ha Hb hm h hy => ?ht4) (fun σ H' h => ?he4)
          case he4 =>
            obtain ⟨y8, y9, y10, y11, y12, xs, ⟨rfl, N⟩, h5, _, _⟩ := h
            rw [lws] at N
            exact ⟨_, _, _, _, _, _, xs, ⟨rfl, N.to (D4_all hb) (by omega)⟩, h5⟩
          case ht4 =>
            obtain ⟨y8, y9, y10, y11, y12, xs3, ⟨rfl, N8⟩, h5, h7, d8⟩ := h
            obtain ⟨rfl, hv⟩ := hy
            obtain ⟨dz, hdz, dx⟩ := dpall_get d8 hv
            obtain ⟨⟨er, en⟩, hxp, rfl⟩ := map_get hdz
            obtain ⟨t, v1, v2, rfl, ht1, ht2, ht3⟩ := dp_tup2I dx
            cases dp_strI ht2
            cases dp_strI ht3
            have hpw := partF_in hlw (List.mem_of_getElem? hxp)
            have hx8 := sm_l N8.s hx
            walk_at "g"
            refine k_cut (fun σ' H' => ∃ (pp : Addr) (y11 y12 : Option V), σ' = [some (.ref a), some (.ref r), some (.ref D), some (.int (i : Nat)), some (.int (hg : Nat)), some (.ref p3), some (.str (tx (longF us i hg))), some (.str (sdS b)), some (.str (tx er)), some (.str (tx en)), some (.ref pp), y11, y12] ∧ Same Hb H' ∧ H' pp = some (.lst (tS (if b = true then [er, en] else [en, er])))) ?_ (fun σ' H9 h => ?_)
            · walk_at "g"
              rw [sdS_right]
              refine (show nIte b _ _ from ?_)
              cases b with
              | true =>
                walk_at "g"
                refine k_nLst (by walk_at "sz") (fun p9 H9 n9 s9 e9 => ?_)
                walk_at "g"
                exact ⟨_, _, _, rfl, s9, e9⟩
              | false =>
                walk_at "g"
                refine k_nLst (by walk_at "sz") (fun p9 H9 n9 s9 e9 => ?_)
                walk_at "g"
                exact ⟨_, _, _, rfl, s9, e9⟩
            obtain ⟨pp, z11, z12, rfl, s9, e9⟩ := h
            refine k_cut (fun σ' H' => ∃ (y12 : Option V), σ' = [some (.ref a), some (.ref r), some (.ref D), some (.int (i : Nat)), some (.int (hg : Nat)), some (.ref p3), some (.str (tx (longF us i hg))), some (.str (sdS b)), some (.str (tx er)), some (.str (tx en)), some (.ref pp), some (.int ((if b = true then i else i + 1 : Nat) : Nat)), y12] ∧ H' = H9) ?_ (fun σ' Hx h => ?_)
            · walk_at "g"
              rw [sdS_right]
              refine (show nIte b _ _ from ?_)
              cases b with
              | true =>
                walk_at "g"
                exact ⟨_, rfl, rfl⟩
              | false =>
                walk_at "g"
                exact ⟨_, rfl, rfl⟩
            obtain ⟨z12, rfl, rfl⟩ := h
            have hx9 := sm_l s9 hx8
            walk_at "g"
            refine k_sl_l hx9 (fun p10 H10 n10 s10 e10 => ?_)
            rw [cutV_to, tS_take] at e10
            walk_at "g"
            refine k_add_l e10 (s10 _ _ e9) (by rw [len_tS, len_tS, List.length_take]; split <;> (show _ + 2 ≤ _; omega)) (fun p11 H11 n11 s11 e11 => ?_)
            walk_at "g"
            refine k_sl_l (sm_l (s10.trans s11) hx9) (fun p12 H12 n12 s12 e12 => ?_)
            rw [cutV_fromI _ _ (by omega), Int.toNat_natCast, tS_drop] at e12
            refine k_add_l (s12 _ _ e11) e12 (by rw [List.length_append, len_tS, len_tS, len_tS, List.length_take, List.length_drop]; split <;> (show _ + 2 + _ ≤ _; omega)) (fun p13 H13 n13 s13 e13 => ?_)
            rw [← tS_app, ← tS_app] at e13
            have s913 := s9.trans (s10.trans (s11.trans (s12.trans s13)))
            have N9 := N8.sm s913
            obtain ⟨c, hc⟩ : ∃ c, c = eldF us i hg b (er, en) := ⟨_, rfl⟩
            have ec1 : c.1 = us.take i ++ (if b = true then [er, en] else [en, er]) ++ us.drop hg := by rw [hc]; rfl
            have ec2 : c.2.1 = if b = true then i else i + 1 := by rw [hc]; rfl
            have ec3 : c.2.2 = b := by rw [hc]; rfl
            rw [← ec1] at e13
            rw [← ec2]
            have hcw : AllW S c.1 := by rw [hc]; exact eld_words hw hpw
            have lc : c.1.length ≤ 22 := by
              rw [ec1, List.length_append, List.length_append, List.length_take, List.length_drop]
              split <;> (show _ + 2 + _ ≤ _; omega)
            have nxt : ∀ z, D4 S us i hg k b (m + 1) z ↔ D4 S us i hg k b m z ∨ (z = c ∧ leadsF S us c) := fun z => by rw [hc]; exact D4_next hxp ⟨d1, d2⟩ z
            have d9 : DpAll K H13 ws ((partF S (longF us i hg) b).map dPr) := dpall_sm s913 d8
            have h59 := s913 _ _ h5
            have h79 := s913 _ _ h7
            walk_at "g"
            refine ⟨a, p13, S, c.1, (c.2.1 : Nat), sdS b, rfl, hs.sm N9.s, ok, sq_l e13, hcw, by omega, fun v H14 s14 hv14 => ?_⟩
            rw [behS_sd] at hv14
            have N14 := N9.sm s14
            have d14 := dpall_sm s14 d9
            have no : ¬ leadsF S us c → ∀ z, D4 S us i hg k b m z ↔ D4 S us i hg k b (m + 1) z := fun hn z => by
              rw [nxt z]
              exact ⟨.inl, fun h => h.elim id fun h => absurd h.2 hn⟩
            have eL : leadsF S us c = (behF S c.1 (c.2.1 : Nat) b = some us) := by unfold leadsF; rw [ec3]
            cases eb : behF S c.1 (c.2.1 : Nat) b with
            | none =>
              rw [eb] at hv14 eL
              cases (show v = .non from hv14)
              walk_at "g"
              refine k_eq_d .non (.lst (sm_l N14.s hx) (dp_tS us)) rfl ((good_allW ok hw (by omega) 0).shaped (by decide)) ?_
              rw [show PyData.eqv .none (.list (us.map fun u => PyData.str (tx u))) = false by simp only [PyData.eqv]]
              walk_at "g"
              exact ⟨_, _, _, _, _, xs3, ⟨rfl, N14.to (no (by rw [eL]; exact fun z => nomatch z)) (by omega)⟩, s14 _ _ h59, s14 _ _ h79, d14⟩
            | some mm =>
              rw [eb] at hv14 eL
              obtain ⟨pm, rfl, nm, em⟩ := hv14
              obtain ⟨hmw, hml⟩ := behF_words ok hcw eb
              walk_at "g"
              refine row_eq ok hw (by omega) hmw (by omega) (sq_l em) (sm_l N14.s hx) ?_
              walk_at "g"
              refine k_dec (fun d3 => ?_) (fun d3 => ?_)
              rotate_left
              · walk_at "g"
                exact ⟨_, _, _, _, _, xs3, ⟨rfl, N14.to (no (by rw [eL]; exact fun z => d3 (Option.some.inj z))) (by omega)⟩, s14 _ _ h59, s14 _ _ h79, d14⟩
              have e14 := s14 _ _ e13
              walk_at "g"
              refine k_tup_l (sq_l e14) (fun p15 H15 n15 s15 e15 => ?_)
              walk_at "g"
              refine k_nTup (by walk_at "sz") (fun p16 H16 n16 s16 e16 => ?_)
              have N16 := N14.sm (s15.trans s16)
              have lxs := N16.l
              have hkb : K3At H16 p16 (ck3 c) := ⟨p15, by rw [e16]; unfold ck3; rw [ec3], by unfold ck3; rw [map_tx]; exact s16 _ _ e15⟩
              walk_at "g"
              refine k_nput N16.d N16.k hkb (by omega) ?_
              walk_at "g"
              refine ⟨_, _, _, _, _, _, ⟨rfl, (N16.put n1 hkb (Done' := D4 S us i hg k b (m + 1)) fun z => by rw [nxt z, eL, d3]; simp).to (fun _ => Iff.rfl) (by omega)⟩, ?_, ?_, dpr_updN N16.d (dpall_sm (s15.trans s16) d14)⟩
              · rw [upd_ne (ne_of ((s15.trans s16) _ _ (s14 _ _ h59)) N16.d (fun z => nomatch z))]
                exact (s15.trans s16) _ _ (s14 _ _ h59)
              · rw [upd_ne (ne_of ((s15.trans s16) _ _ (s14 _ _ h79)) N16.d (fun z => nomatch z))]
                exact (s15.trans s16) _ _ (s14 _ _ h79)
    case he =>
      obtain ⟨y3, y4, y5, y6, y7, y8, y9, y10, y11, y12, xs, rfl, N⟩ := h
      rw [Int.toNat_natCast] at N
      have lxs := N.l
      walk_at "g"
      refine k_listN N.d (fun pl H2 n2 s2 e2 => ?_)
      obtain ⟨B, hB⟩ : ∃ B : List (Cnd × Addr), xs = B.map fun q => (ck3 q.1, q.2) := by
        have hc := N.c
        clear N e2 lxs
        induction xs with
        | nil => exact ⟨[], rfl⟩
        | cons x xs ih =>
          obtain ⟨B, h1⟩ := ih fun y hy => hc y (List.mem_cons_of_mem _ hy)
          obtain ⟨c, h2⟩ := hc x List.mem_cons_self
          exact ⟨(c, x.2) :: B, by rw [List.map_cons, ← h1, ← h2]⟩
      subst hB
      have lB : B.length ≤ 33600 := by
        rw [List.length_map] at lxs
        omega
      have hmem : ∀ c, c ∈ B.map (·.1) ↔ AllW S c.1 ∧ leadsF S us c := fun c => by
        rw [← hit_iff ok hw c]
        have h1 : c ∈ B.map (·.1) ↔ D1 S us us.length c := by
          rw [← N.m c, List.map_map]
          constructor
          · intro h
            obtain ⟨q, hq, rfl⟩ := List.mem_map.mp h
            exact List.mem_map.mpr ⟨q, hq, rfl⟩
          · intro h
            obtain ⟨q, hq, e⟩ := List.mem_map.mp h
            exact List.mem_map.mpr ⟨q, hq, ck3_inj e⟩
        rw [h1]
        exact ⟨fun ⟨low, high, b, _, h3, h4, h5⟩ => ⟨low, high, b, h3, h4, h5⟩, fun ⟨low, high, b, h3, h4, h5⟩ => ⟨low, high, b, by omega, h3, h4, h5⟩⟩
      have hnd : (B.map (·.1)).Nodup := by
        have := N.nd
        rw [List.map_map] at this
        exact List.pairwise_map.mpr ((List.pairwise_map.mp this).imp fun n e => n (by show ck3 _ = ck3 _; rw [e]))
      have hk4 : ∀ q ∈ B, K3At H' q.2 (ck3 q.1) := fun q hq => N.k (ck3 q.1, q.2) (List.mem_map.mpr ⟨q, hq, rfl⟩)
      rw [List.map_map] at e2
      refine ⟨tabs_sm (N.s.trans s2) hT, fun H4 x4 T4 => ?_⟩
      have x04 : ExtN H H4 := (same_ext (N.s.trans s2)).trans x4
      have B4 : ∀ q ∈ B, ∃ e, H4 q.2 = some (.tup [.ref e, .int (q.1.2.1 : Nat), .str (sdS q.1.2.2)]) ∧ H4 e = some (.tup (tS q.1.1)) := fun q hq => by
        obtain ⟨e, h1, h2⟩ := (hk4 q hq).sm s2
        exact ⟨e, x4 _ _ h1 (fun ps z => nomatch z), by rw [← map_tx]; exact x4 _ _ h2 (fun ps z => nomatch z)⟩
      have le : ∀ q ∈ B, q.1.1.length ≤ 20000 ∧ ∀ u ∈ q.1.1, u.length ≤ 1000 := fun q hq => by
        obtain ⟨h1, h2⟩ := (hmem q.1).mp (List.mem_map_of_mem hq)
        refine ⟨?_, fun u hu => by have := (words_ok u (h1 u hu)).2.1; omega⟩
        obtain ⟨A, x, y, C, e, _, em⟩ := beh_split h2
        have := made_len (S := S) q.1.2.2 x y
        have e2 := congrArg List.length em
        rw [List.length_append, List.length_append] at e2
        rw [e, List.length_append, List.length_cons, List.length_cons]
        omega
      refine k_sorted (fun q : Cnd × Addr => V.ref q.2) (fun q => PySem.W.Datum.toD (ckO q.1)) B (sq_l (by
        rw [ext_lst x4 e2]
        rfl)) (by omega) (alike_toD (fun q : Cnd × Addr => ckO q.1) B) (sortable_pair (fun q : Cnd × Addr => ckO q.1) B) (fun q _ => Nat.le_trans (PySem.W.Datum.depth_le (ckO q.1)) (by decide)) (fun q hq H5 s5 Q5 hQ5 => ?hturn) (fun p5 H5 n5 s5 e5 => ?hdone)
      case hturn =>
        obtain ⟨e, h1, h2⟩ := B4 q hq
        have h15 := sq_t (K := K) (s5 _ _ h1)
        have h25 := s5 _ _ h2
        obtain ⟨z1, z2⟩ := le q hq
        walk_at "g"
        refine ⟨e, q.1.1, rfl, sq_t h25, z1, z2, fun v H6 s6 d6 => ?_⟩
        walk_at "g"
        refine k_sl_t (sm_t s6 h15) (fun p7 H7 s7 h7 => ?_)
        walk_at "g"
        refine k_nTup (by walk_at "sz") (fun T H8 n8 s8 e8 => ?_)
        exact hQ5 _ _ (s6.trans (s7.trans s8)) (.tup (sq_t e8) (.cons (dp_sm (s7.trans s8) d6) (.cons (.tup (sm_t s8 h7) (.cons (.int _) (.cons (.str _) .nil))) .nil)))
      case hdone =>
        generalize hBS : B.mergeSort (dataLe false fun q => PySem.W.Datum.toD (ckO q.1)) = BS at e5
        have eL : BS.map (·.1) = (B.map (·.1)).mergeSort (dataLe false fun c => PySem.W.Datum.toD (ckO c)) := by
          rw [← hBS, List.map_mergeSort (s := dataLe false fun c => PySem.W.Datum.toD (ckO c))]
          intro x _ y _
          rfl
        have mB : ∀ q ∈ BS, q ∈ B := fun q hq => by
          rw [← hBS] at hq
          exact List.mem_mergeSort.mp hq
        have lBS : BS.length = B.length := by rw [← hBS, List.length_mergeSort]
        have hA : Aheads S us (BS.map (·.1)) := ⟨fun c => by rw [eL, List.mem_mergeSort]; exact hmem c, by rw [eL]; exact rise_sort tri_ck ckO (fun a b => ckO_inj) hnd⟩
        walk_at "g"
        refine q (BS.map (·.1)) p5 _ H5 hA (by rw [List.length_map, lBS]; exact lB) (freeN x04 n5) (x04.trans (same_ext s5)) (tabs_sm s5 T4) e5 ?_
        clear hBS eL lBS hA e5
        induction BS with
        | nil => exact .nil
        | cons q BS ih =>
          refine .cons ?_ (ih fun q' hq' => mB q' (List.mem_cons_of_mem _ hq'))
          obtain ⟨e, h1, h2⟩ := B4 q (mB q List.mem_cons_self)
          exact ⟨q.2, e, rfl, s5 _ _ h1, s5 _ _ h2⟩
/-- a told row with its bite, handed out -/
def AhAt (K : PySem.W.Frag) (H0 H : Hp) (v : V) (c : Cnd) : Prop := ∃ t tr, v = .ref t ∧ SqT K H t [.ref tr, .int (c.2.1 : Nat), .str (sdS c.2.2)] ∧ H tr = some (.lst (tS c.1)) ∧ FreeN H0 tr
theorem AhAt.sm {H0 H H' : Hp} {v : V} {c : Cnd} (s : Same H H') (h : AhAt K H0 H v c) : AhAt K H0 H' v c := by
  obtain ⟨t, tr, h0, h1, h2, h3⟩ := h
  exact ⟨t, tr, h0, sm_t s h1, s _ _ h2, h3⟩
theorem AhAt.all {H0 H H' : Hp} (s : Same H H') {ws : List V} {L : List Cnd} (h : Paired (AhAt K H0 H) ws L) : Paired (AhAt K H0 H') ws L := Paired.mapP h fun _ _ z => z.sm s
theorem pr_get {α β : Type} {R : α → β → Prop} : ∀ {l : List α} {m : List β} {i : Nat} {x : α}, Paired R l m → l[i]? = some x → ∃ y, m[i]? = some y ∧ R x y
  | _, _, _, _, .nil, h => by cases h
  | _, _, 0, _, .cons r _, h => by cases h; exact ⟨_, rfl, r⟩
  | _, _, i + 1, _, .cons _ t, h => pr_get (i := i) t h
theorem pr_app {α β : Type} {R : α → β → Prop} {x : α} {y : β} (h : R x y) : ∀ {l : List α} {m : List β}, Paired R l m → Paired R (l ++ [x]) (m ++ [y])
  | _, _, .nil => .cons h .nil
  | _, _, .cons r t => .cons r (pr_app h t)
def spAhead (K : PySem.W.Frag) : Sp := fun vs H Q E => ∃ (a r : Addr) (S : HsD) (us : List (List Nat)) (tq : Bool), vs = [.ref a, .ref r] ∧ HsAt K H a S ∧ HsOk S ∧ SqB K tq H r (tS us) ∧ us.length ≤ 1000 ∧ (∀ u ∈ us, u.length ≤ 1000) ∧ Tabs (TT K) H ∧
  (badAt S us = none → ∀ (L : List Cnd) p ws H', Aheads S us L → L.length ≤ 33600 → FreeN H p → ExtN H H' → Tabs (TT K) H' → H' p = some (.lst ws) → Paired (AhAt K H H') ws L → Q (.ref p) H') ∧
  (∀ i, badAt S us = some i → ∀ d H', H d = none → Same H H' → H' d = some (.xd (xfs "BadWord" "at" (.int (i : Nat)))) → E (.ref (He.ga K "BadWord")) (some d) H')
theorem ok_ahead (F : FnP K "ahead" s_ahead f fd) (hm : mg "ahead" = some (.ref f)) (f_list : mg "list" = none) (c_need_row : Callee P w K mg base (L2.CX P w) "need_row" 3 [] (spNeedRow K)) (c_ahead_of : Callee P w K mg base CX0 "ahead_of" 7 [] (spAheadOf K)) : Callee P w K mg base (L2.CX P w) "ahead" 8 [] (spAhead K) := by
  refine ⟨f, fd, _, [], F.ok sc_ahead (fun vs H Q E h => ?hl) (fun cdv A outer s H vs Q E hr h => ⟨_, (pss_cons (ps_expr (pe_cl c_need_row hr (pa_cons (pv 0) (pa_cons (pv 1) pa_nil)) (passE (takes_of rfl rfl rfl rfl))))
      (pss_one (ps_ret (pe_lc (own := [("elder", 2), ("place", 3), ("side", 4)]) rfl sc_ahead.nd (pi_listK K (pe_cl c_ahead_of hr (pa_cons (pv 0) (pa_cons (pe_callTy (call_listK K) (by rfl) f_list (by decide +kernel) (pa_cons (pv 1) pa_nil)) pa_nil)) pass0)) (blkOk_by (N := ["house", "row", "elder", "place", "side"]) (sc := defScope s_ahead) (by decide +kernel)) (fun _ _ _ _ _ => (pg_tupK K 3 (by rfl) (pgs_cons (pg_name (i := 2) sc_ahead.nd rfl (by first | exact Or.inl rfl | exact Or.inr rfl)) (pgs_cons (pg_name (i := 3) sc_ahead.nd rfl (by first | exact Or.inl rfl | exact Or.inr rfl)) (pgs_cons (pg_name (i := 4) sc_ahead.nd rfl (by first | exact Or.inl rfl | exact Or.inr rfl)) pgs_nil))))) (fun _ _ _ _ _ => pts_nil) (fun _ _ _ _ _ => (pe_tup (pa_cons (pe_callTy (call_listK K) (by rfl) f_list (by decide +kernel) (pa_cons (pv 2) pa_nil)) (pa_cons (pv 3) (pa_cons (pv 4) pa_nil))))))))), ?rd⟩), hm, F.kp, F.bindsN fun _ _ _ _ _ _ us hl => match us, hl with | [_, _], _ => rfl, .nil⟩
  case hl =>
    obtain ⟨a, r, S, us, tq, rfl, _⟩ := h
    rfl
  case rd =>
    obtain ⟨a, r, S, us, tq, rfl, hs, ok, hx, lu, lw, hT, q1, q2⟩ := h
    refine k_start (σ' := [some _, some _, none, none, none]) rfl ?_
    walk_at "g"
    refine ⟨a, r, S, us, tq, rfl, hs, hx, by omega, lw, fun hb H1 s1 => ?_, fun i hb d H1 n1 s1 e1 => q2 i hb d H1 n1 s1 e1⟩
    obtain ⟨hw, l12⟩ := badAt_none ok hb
    walk_at "g"
    refine k_list_b (sm_b s1 hx) (fun p2 H2 n2 s2 e2 => ?_)
    walk_at "g"
    refine ⟨a, p2, S, us, rfl, hs.sm (s1.trans s2), ok, sq_l e2, hw, by omega, tabs_sm (s1.trans s2) hT, fun L p3 ws H3 hA hL f3 x3 T3 e3 hp3 => ?_⟩
    have x03 : ExtN H H3 := (same_ext (s1.trans s2)).trans x3
    have lws := Paired.length hp3
    walk_at "g"
    refine k_nLcD (walk_list (xs := ws)) (fun H' s => sq_l (s _ _ e3)) (fun i zs H1 => Paired (AhAt K H H1) zs (L.take i)) (fun i zs Ha Hb s h => AhAt.all s h) .nil (fun i zs Ha hi h => ?hz) (fun i x p Ha Hb zs Kp Ks hi hp sa ea hzs hy hKp hKs => ?ht) (fun p Hb zs hp sb eb hzs => ?he)
    case hz =>
      have := Paired.length h
      rw [List.length_take] at this
      omega
    case ht =>
      obtain ⟨rfl, hv⟩ := hy
      obtain ⟨c, hc, hcn⟩ := pr_get hp3 hv
      obtain ⟨t, e, rfl, ht1, ht2⟩ := hcn.sm sa
      have h1 := sq_t (K := K) ht1
      walk_at "g"
      refine ⟨rfl, ?_⟩
      walk_at "g"
      refine k_list_t (sq_t ht2) (fun tr H7 n7 s7 e7 => ?_)
      walk_at "g"
      refine k_nTup (by walk_at "sz") (fun T H8 n8 s8 e8 => ?_)
      refine hKp _ _ (s7.trans s8) ?_
      rw [take_more hc]
      have ntp : tr ≠ p := fun z => by rw [z, ea] at n7; cases n7
      have ntT : T ≠ p := fun z => by rw [z, s7 _ _ ea] at n8; cases n8
      exact pr_app ⟨T, tr, rfl, sq_t (by rw [del_ne ntT]; exact e8), by rw [del_ne ntp]; exact s8 _ _ e7, freeN (x03.trans (same_ext sa)) n7⟩ (AhAt.all (del_mono (s7.trans s8)) hzs)
    case he =>
      rw [lws, List.take_length] at hzs
      exact q1 hb L p zs Hb hA hL (freeN x03 hp) (x03.trans (same_ext sb)) (tabs_sm sb T3) eb hzs
end
end Lw
set_option autoImplicit true
set_option pp.maxSteps 1200
set_option Elab.async false
set_option linter.all false
set_option maxRecDepth 100000
set_option maxHeartbeats 1000000
namespace Lw
open PySem PySem.Spec PyProof.Rows L2 Gk

local macro_rules | `(tactic| walk_at "hp") => `(tactic| first | assumption | exact upd_same | (refine' (upd_ne ?n).trans ?h; (case n => assumption); (case h => walk_at "hp")) | (refine' sm_get ?s ?h; (case s => assumption); (case h => walk_at "hp")))
local macro_rules | `(tactic| walk_at "sq") => `(tactic| first | assumption | (refine' sq_l ?h; (case h => walk_at "hp")) | (refine' sm_l ?s ?h; (case s => assumption); (case h => walk_at "sq")))
local macro_rules | `(tactic| walk_at "st") => `(tactic| first | assumption | (refine' sq_t ?h; (case h => walk_at "hp")) | (refine' sm_t ?s ?h; (case s => assumption); (case h => walk_at "st")))
local macro_rules | `(tactic| walk_at "bg") => `(tactic| first | assumption | (refine' BagOk.sm ?s ?h; (case s => assumption); (case h => walk_at "bg")))
local macro_rules | `(tactic| walk_at "sm") => `(tactic| first | assumption | exact Same.refl _ | (refine' Same.trans ?h ?s; (case s => assumption); (case h => walk_at "sm")))
local macro_rules | `(tactic| walk_at "hs") => `(tactic| first | assumption | (refine' HsAt.sm ?s ?h; (case s => assumption); (case h => walk_at "hs")))
local macro_rules | `(tactic| walk_at "ms") => `(tactic| first | assumption | (refine' MAt.sm ?s ?h; (case s => assumption); (case h => walk_at "ms")))
local macro_rules | `(tactic| walk_at "md") => `(tactic| first | assumption | (refine' MDk.sm ?s ?h; (case s => assumption); (case h => walk_at "md")))
local macro_rules | `(tactic| walk_at "dp") => `(tactic| first | assumption | (refine' dp_sm ?s ?h; (case s => assumption); (case h => walk_at "dp")))
local macro_rules | `(tactic| walk_at "sz") => `(tactic| first | decide | assumption | omega | (simp only [List.length_cons, List.length_nil, List.length_map, List.length_append]; omega))
local macro_rules | `(tactic| walk_at "g1") => `(tactic| first
  | with_reducible refine k_seq ?_
  | with_reducible refine k_itB ?_
  | with_reducible refine k_next ?_
  | with_reducible refine k_asg ?_
  | with_reducible refine k_name ?_
  | with_reducible refine k_ret ?_
  | with_reducible refine k_retN ?_
  | with_reducible refine k_drop ?_
  | with_reducible refine k_ifs ?_
  | with_reducible refine k_brk ?_
  | with_reducible refine k_cont ?_
  | with_reducible refine k_ipI ?_
  | with_reducible refine k_test ?_
  | with_reducible refine k_tB ?_
  | with_reducible refine k_bl ?_
  | with_reducible refine k_not ?_
  | with_reducible refine k_and ?_
  | with_reducible refine k_or ?_
  | with_reducible refine k_yes ?_
  | with_reducible refine k_true ?_
  | with_reducible refine k_false ?_
  | with_reducible refine k_nt ?_
  | with_reducible refine k_c ?_
  | with_reducible refine k_op ?_
  | with_reducible refine k_un ?_
  | with_reducible refine k_if ?_
  | with_reducible refine k_chain ?_
  | with_reducible refine k_nil ?_
  | with_reducible refine k_cons ?_
  | with_reducible refine k_cb ?_
  | with_reducible refine k_call ?_
  | with_reducible refine k_callS ?_
  | with_reducible refine k_andV ?_
  | with_reducible refine k_orV ?_
  | with_reducible refine k_notV ?_
  | with_reducible refine k_lst ?_
  | with_reducible refine k_tup ?_
  | with_reducible refine k_nopart ?_
  | with_reducible refine k_part ?_
  | with_reducible refine k_nInt ?_
  | with_reducible refine k_sl ?_
  | with_reducible refine k_bm ?_
  | with_reducible refine k_bm0 ?_
  | with_reducible refine k_nTyS ?_
  | with_reducible refine k_m1 ?_
  | with_reducible refine k_m0 ?_
  | with_reducible refine k_nStr ?_
  | with_reducible refine k_I0 ?_
  | with_reducible refine k_U ?_
  | with_reducible refine k_add_i ?_
  | with_reducible refine k_eq_i ?_
  | with_reducible refine k_eq_s ?_
  | with_reducible refine k_eq_b ?_
  | with_reducible refine k_ne_i ?_
  | with_reducible refine k_ne_s ?_
  | with_reducible refine k_ne_b ?_
  | with_reducible refine k_le_i ?_
  | with_reducible refine k_le_s ?_
  | with_reducible refine k_gnil ?_
  | with_reducible refine k_gcons ?_
  | with_reducible refine k_gsub ?_
  | with_reducible refine k_for ?_
  | with_reducible refine k_lc ?_
  | with_reducible refine k_rng1 ?_
  | with_reducible refine k_rng2 ?_
  | with_reducible refine k_itl ?_
  | with_reducible refine k_itt ?_
  | with_reducible refine k_its ?_
  | with_reducible refine k_ite ?_
  | with_reducible refine k_iteB ?_
  | with_reducible refine k_lrg2 ?_
  | with_reducible refine k_itz ?_
  | with_reducible refine k_nIts ?_
  | with_reducible refine k_inS ?_
  | with_reducible refine k_niS ?_
  | with_reducible refine k_mk ?_
  | with_reducible refine k_meth ?_
  | with_reducible refine k_fld ?_
  | with_reducible refine k_sfld ?_
  | with_reducible refine k_dg ?_
  | with_reducible refine k_dp ?_
  | with_reducible refine k_pr ?_
  | with_reducible refine k_pr0 ?_
  | with_reducible refine k_sg ?_
  | with_reducible refine k_lc2 ?_
  | with_reducible refine k_callN ?_
  | with_reducible refine k_callNS ?_
  | with_reducible refine k_par ?_
  | with_reducible refine k_nPar ?_
  | with_reducible refine k_isNn ?_
  | with_reducible refine k_isNr ?_
  | with_reducible refine k_ntNn ?_
  | with_reducible refine k_ntNr ?_
  | with_reducible refine k_min2 ?_
  | with_reducible refine k_max2 ?_
  | with_reducible refine k_intB ?_
  | with_reducible refine k_intI ?_
  | with_reducible refine k_isBl ?_
  | with_reducible refine k_ntBl ?_
  | ((with_reducible refine' k_var ?kv ?_); (case kv => exact rfl))
  | ((with_reducible refine' k_aug ?kv ?_); (case kv => exact rfl))
  | ((with_reducible refine' k_ix_l ?ks ?ki ?_); (case ks => walk_at "sq"); (case ki => exact rfl))
  | ((with_reducible refine' k_ix_t ?ks ?ki ?_); (case ks => walk_at "st"); (case ki => exact rfl))
  | ((with_reducible refine' k_len_l ?ks ?_); (case ks => walk_at "sq"))
  | ((with_reducible refine' k_len_t ?ks ?_); (case ks => walk_at "st"))
  | ((with_reducible refine' k_setL ?ks ?ki ?_); (case ks => walk_at "hp"); (case ki => exact rfl))
  | ((with_reducible refine' k_nTyL ?ks ?_); (case ks => walk_at "sq"))
  | ((with_reducible refine' k_nItl ?ks ?_); (case ks => walk_at "sq"))
  | ((with_reducible refine' k_nItt ?ks ?_); (case ks => walk_at "st"))
  | ((with_reducible refine' k_nIte ?ks ?_); (case ks => walk_at "sq"))
  | ((with_reducible refine' k_mul ?km ?_); (case km => first | exact Or.inr ⟨by decide, by decide⟩ | exact Or.inl ⟨by decide, by decide⟩))
  | ((with_reducible refine' k_I ?km ?_); (case km => first | assumption | decide | exact ⟨by decide, by decide +kernel⟩ | exact ⟨by decide, by decide, by decide⟩))
  | ((with_reducible refine' k_nMeth ?kp ?kl ?_); (case kp => walk_at "hp"); (case kl => exact rfl))
  | ((with_reducible refine' k_nFld ?kp ?kc ?kn ?kl ?_); (case kp => walk_at "hp"); (case kc => assumption); (case kn => assumption); (case kl => exact rfl))
  | ((with_reducible refine' k_nSFld ?kp ?kc ?kn ?kl ?_); (case kp => walk_at "hp"); (case kc => assumption); (case kn => assumption); (case kl => exact of_decide_eq_true rfl))
  | ((with_reducible refine' k_nDg ?kp ?kl ?_); (case kp => walk_at "hp"); (case kl => exact rfl))
  | ((with_reducible refine' k_nRng1 ?k1 ?k2 ?_); (case k1 => omega); (case k2 => omega))
  | ((with_reducible refine' k_nKw ?k1 ?k2 ?_); (case k1 => exact rfl); (case k2 => exact rfl))
  | ((with_reducible refine' k_hsm ?kh ?_); (case kh => walk_at "hs"))
  | ((with_reducible refine' k_nMethH ?kh ?kl ?_); (case kh => walk_at "hs"); (case kl => exact fun _ _ => rfl))
  | ((with_reducible refine' k_mLet ?kh ?_); (case kh => walk_at "ms"))
  | ((with_reducible refine' k_mChew ?kh ?_); (case kh => walk_at "ms"))
  | ((with_reducible refine' k_mPut ?kh ?_); (case kh => walk_at "ms"))
  | ((with_reducible refine' k_mMost ?kh ?_); (case kh => walk_at "ms"))
  | ((with_reducible refine' k_mCut ?kh ?_); (case kh => walk_at "ms"))
  | ((with_reducible refine' k_mTab ?kh ?_); (case kh => walk_at "md"))
  | ((with_reducible refine' k_mEats ?kh ?_); (case kh => walk_at "md"))
  | ((with_reducible refine' k_gtup ?ks ?kl ?_); (case ks => walk_at "st"); (case kl => exact rfl)))
local macro_rules | `(tactic| walk_at "g") => `(tactic| repeat (walk_at "g1"))
local macro_rules | `(tactic| walk_at "w1") => `(tactic| first
  | walk_at "g1"
  | ((with_reducible refine' k_decT ?kp ?_); (case kp => omega))
  | ((with_reducible refine' k_decF ?kp ?_); (case kp => omega))
  | ((with_reducible refine' k_decNT ?kp ?_); (case kp => omega))
  | ((with_reducible refine' k_decNF ?kp ?_); (case kp => omega)))
local macro_rules | `(tactic| walk_at "w") => `(tactic| repeat (walk_at "w1"))


section
variable {P : Program} {w : World} {K : PySem.W.Frag} {mg : Str → Option Value} {base : Heap} {f : Addr} {fd : FuncData}
/-! ### what is drawn for a house -/
structure MsOk (z : Str) (c k : Int) : Prop where
  c0 : 0 ≤ c
  c2 : c ≤ 2
  k0 : 0 ≤ k
  k2 : k ≤ 2
  lean : z = Str.ofString "lean" → 1 ≤ c ∧ k = 0
  even : z = Str.ofString "even" → c = k ∧ c ≤ 1
  fat : z = Str.ofString "fat" → c < k
def spMs : Sp := fun vs H Q _ => ∃ (b : Addr) (z : Str), vs = [.ref b, .str z] ∧ BagOk H b ∧ ∀ (T : Addr) (c k : Int) H', MsOk z c k → Same H H' → H' T = some (.tup [.int c, .int k]) → Q (.ref T) H'
theorem ok_Lmeasures (F : FnP K "_law_measures" s_Lmeasures f fd) (hm : mg "_law_measures" = some (.ref f)) (c_Lone : Callee P w K mg base CX0 "_law_one" 2 [] (spOne K)) : Callee P w K mg base CX0 "_law_measures" 3 [] spMs := by
  refine ⟨f, fd, _, [], F.ok sc_Lmeasures (fun vs H Q E h => ?hl) (fun cdv A outer s H vs Q E hr h => ⟨_, PSs.nox (pss_cons (ps_set (i := 2) sc_Lmeasures.nd rfl (by first | exact Or.inl rfl | exact Or.inr rfl) (pe_disp (pps_cons pe_str (pe_lst (pa_cons (pe_tup (pa_cons pe_int (pa_cons pe_int pa_nil))) (pa_cons (pe_tup (pa_cons pe_int (pa_cons pe_int pa_nil))) (pa_cons (pe_tup (pa_cons pe_int (pa_cons pe_int pa_nil))) pa_nil)))) (pps_cons pe_str (pe_lst (pa_cons (pe_tup (pa_cons pe_int (pa_cons pe_int pa_nil))) (pa_cons (pe_tup (pa_cons pe_int (pa_cons pe_int pa_nil))) pa_nil))) (pps_cons pe_str (pe_lst (pa_cons (pe_tup (pa_cons pe_int (pa_cons pe_int pa_nil))) (pa_cons (pe_tup (pa_cons pe_int (pa_cons pe_int pa_nil))) (pa_cons (pe_tup (pa_cons pe_int (pa_cons pe_int pa_nil))) pa_nil)))) pps_nil))) (by rfl) (by rfl) (fun z => by cases z) (by decide)))
      (pss_one (ps_ret (pe_cl c_Lone hr (pa_cons (pv 0) (pa_cons (pe_dget2 (hu_of hr) (pv 2) (pv 1) (pe_lst (pa_cons (pe_tup (pa_cons pe_int (pa_cons pe_int pa_nil))) (pa_cons (pe_tup (pa_cons pe_int (pa_cons pe_int pa_nil))) (pa_cons (pe_tup (pa_cons pe_int (pa_cons pe_int pa_nil))) (pa_cons (pe_tup (pa_cons pe_int (pa_cons pe_int pa_nil))) (pa_cons (pe_tup (pa_cons pe_int (pa_cons pe_int pa_nil))) (pa_cons (pe_tup (pa_cons pe_int (pa_cons pe_int pa_nil))) (pa_cons (pe_tup (pa_cons pe_int (pa_cons pe_int pa_nil))) (pa_cons (pe_tup (pa_cons pe_int (pa_cons pe_int pa_nil))) (pa_cons (pe_tup (pa_cons pe_int (pa_cons pe_int pa_nil))) pa_nil)))))))))) ⟨rfl, rfl, by rfl, rfl⟩) pa_nil)) pass0)))), ?rd⟩), hm, F.kp, F.bindsN fun _ _ _ _ _ _ us hl => match us, hl with | [_, _], _ => rfl, .nil⟩
  case hl =>
    obtain ⟨b, z, rfl, _⟩ := h
    rfl
  case rd =>
    obtain ⟨b, z, rfl, hb, q⟩ := h
    refine k_start (σ' := [some _, some _, none]) rfl ?_
    walk_at "g"
    refine k_disp fun p np => ?_
    with_reducible refine k_pr ?_
    with_reducible refine k_c ?_
    refine (show tLst (tPrs [(1, 0), (2, 0), (1, 0)]) _ _ _ from k_lprs _ (by decide) fun Z1 p1 H1 n1 s1 z1 q1 e1 => ?_)
    with_reducible refine k_pr ?_
    with_reducible refine k_c ?_
    refine (show tLst (tPrs [(0, 0), (1, 1)]) _ _ _ from k_lprs _ (by decide) fun Z2 p2 H2 n2 s2 z2 q2 e2 => ?_)
    with_reducible refine k_pr ?_
    with_reducible refine k_c ?_
    refine (show tLst (tPrs [(0, 1), (0, 2), (1, 2)]) _ _ _ from k_lprs _ (by decide) fun Z3 p3 H3 n3 s3 z3 q3 e3 => ?_)
    walk_at "g"
    have ep : H3 p = some (.dK []) := s3 _ _ (s2 _ _ (s1 _ _ upd_same))
    refine ⟨ep, [(.inr "lean", .ref p1), (.inr "even", .ref p2), (.inr "fat", .ref p3)], rfl, by show 3 ≤ 15; decide, ?_⟩
    have sm3 : Same H (upd H3 p (.dK (mergeK [] [(.inr "lean", .ref p1), (.inr "even", .ref p2), (.inr "fat", .ref p3)]))) := sm_mut (((sm_new np).trans s1).trans (s2.trans s3)) np
    have a1 : (upd H3 p (.dK (mergeK [] [(.inr "lean", .ref p1), (.inr "even", .ref p2), (.inr "fat", .ref p3)]))) p1 = some (.lst (Z1.map fun q => V.ref q.1)) := by
      have h := s3 _ _ (s2 _ _ e1)
      rw [upd_ne (ne_of h ep (fun z => by cases z))]
      exact h
    have a2 : (upd H3 p (.dK (mergeK [] [(.inr "lean", .ref p1), (.inr "even", .ref p2), (.inr "fat", .ref p3)]))) p2 = some (.lst (Z2.map fun q => V.ref q.1)) := by
      have h := s3 _ _ e2
      rw [upd_ne (ne_of h ep (fun z => by cases z))]
      exact h
    have a3 : (upd H3 p (.dK (mergeK [] [(.inr "lean", .ref p1), (.inr "even", .ref p2), (.inr "fat", .ref p3)]))) p3 = some (.lst (Z3.map fun q => V.ref q.1)) := by
      rw [upd_ne (ne_of e3 ep (fun z => by cases z))]
      exact e3
    have tt : ∀ (Z : List (Addr × Int × Int)), (∀ q ∈ Z, H3 q.1 = some (.tup [.int q.2.1, .int q.2.2])) → ∀ q ∈ Z, (upd H3 p (.dK (mergeK [] [(.inr "lean", .ref p1), (.inr "even", .ref p2), (.inr "fat", .ref p3)]))) q.1 = some (.tup [.int q.2.1, .int q.2.2]) := fun Z h q hq => by
      rw [upd_ne (ne_of (h q hq) ep (fun z => by cases z))]
      exact h q hq
    have t1 := tt Z1 fun q hq => s3 _ _ (s2 _ _ (q1 q hq))
    have t2 := tt Z2 fun q hq => s3 _ _ (q2 q hq)
    have t3 := tt Z3 q3
    have a0 : (upd H3 p (.dK (mergeK [] [(.inr "lean", .ref p1), (.inr "even", .ref p2), (.inr "fat", .ref p3)]))) p = some (.dK [(.inr "lean", .ref p1), (.inr "even", .ref p2), (.inr "fat", .ref p3)]) := upd_same
    generalize upd H3 p (.dK (mergeK [] [(.inr "lean", .ref p1), (.inr "even", .ref p2), (.inr "fat", .ref p3)])) = G at *
    walk_at "g"
    refine k_dg2 ?_
    walk_at "g"
    refine ⟨p, rfl, .inl ⟨_, .inl a0⟩, ?_⟩
    with_reducible refine k_var (v := .str z) rfl ?_
    refine (show tLst (tPrs [(2, 1), (2, 2), (1, 0), (0, 0), (0, 1), (1, 1), (1, 2), (2, 0), (0, 2)]) _ _ _ from k_lprs _ (by decide) fun Z4 p4 H4 n4 s4 z4 q4 e4 => ?_)
    have sAll := sm3.trans s4
    have hb4 := hb.sm sAll
    have done : ∀ (ps : List (Int × Int)) (Z : List (Addr × Int × Int)) (pz : Addr), 0 < ps.length → ps.length ≤ 9 → Z.map (·.2) = ps → (∀ q ∈ Z, H4 q.1 = some (.tup [.int q.2.1, .int q.2.2])) → H4 pz = some (.lst (Z.map fun q => V.ref q.1)) → (∀ u ∈ ps, MsOk z u.1 u.2) → spOne K [.ref b, .ref pz] H4 Q E0 := by
      intro ps Z pz l0 l9 ez hz hp hms
      have lz : (Z.map fun q => V.ref q.1).length = ps.length := by rw [← ez, List.length_map, List.length_map]
      refine ⟨b, .ref pz, rfl, hb4, .inl ⟨pz, _, rfl, sq_l hp, by omega, by omega, fun x hx => ?_⟩⟩
      obtain ⟨u, hu, rfl⟩ := List.mem_map.mp hx
      exact q u.1 u.2.1 u.2.2 H4 (hms u.2 (by rw [← ez]; exact List.mem_map.mpr ⟨u, hu, rfl⟩)) sAll (hz u hu)
    have big : ∀ u ∈ [((2 : Int), (1 : Int)), (2, 2), (1, 0), (0, 0), (0, 1), (1, 1), (1, 2), (2, 0), (0, 2)], 0 ≤ u.1 ∧ u.1 ≤ 2 ∧ 0 ≤ u.2 ∧ u.2 ≤ 2 := by decide
    have ne1 : ¬ (Str.ofString "lean" : Str) = Str.ofString "even" := by decide +kernel
    have ne2 : ¬ (Str.ofString "lean" : Str) = Str.ofString "fat" := by decide +kernel
    have ne3 : ¬ (Str.ofString "even" : Str) = Str.ofString "fat" := by decide +kernel
    by_cases d1 : z = Str.ofString "lean"
    · refine ⟨some (.ref p1), by rw [d1]; exact DGet.k (k := .inr "lean") (s4 _ _ a0), ?_⟩
      walk_at "g"
      refine done _ Z1 p1 (by decide) (by decide) z1 (fun q hq => s4 _ _ (t1 q hq)) (s4 _ _ a1) fun u hu => ?_
      rcases List.mem_cons.mp hu with rfl | hu
      · exact ⟨by decide, by decide, by decide, by decide, fun _ => by decide, fun e => absurd (d1.symm.trans e) ne1, fun e => absurd (d1.symm.trans e) ne2⟩
      rcases List.mem_cons.mp hu with rfl | hu
      · exact ⟨by decide, by decide, by decide, by decide, fun _ => by decide, fun e => absurd (d1.symm.trans e) ne1, fun e => absurd (d1.symm.trans e) ne2⟩
      rcases List.mem_cons.mp hu with rfl | hu
      · exact ⟨by decide, by decide, by decide, by decide, fun _ => by decide, fun e => absurd (d1.symm.trans e) ne1, fun e => absurd (d1.symm.trans e) ne2⟩
      cases hu
    by_cases d2 : z = Str.ofString "even"
    · refine ⟨some (.ref p2), by rw [d2]; exact DGet.k (k := .inr "even") (s4 _ _ a0), ?_⟩
      walk_at "g"
      refine done _ Z2 p2 (by decide) (by decide) z2 (fun q hq => s4 _ _ (t2 q hq)) (s4 _ _ a2) fun u hu => ?_
      rcases List.mem_cons.mp hu with rfl | hu
      · exact ⟨by decide, by decide, by decide, by decide, fun e => absurd e d1, fun _ => by decide, fun e => absurd (d2.symm.trans e) ne3⟩
      rcases List.mem_cons.mp hu with rfl | hu
      · exact ⟨by decide, by decide, by decide, by decide, fun e => absurd e d1, fun _ => by decide, fun e => absurd (d2.symm.trans e) ne3⟩
      cases hu
    by_cases d3 : z = Str.ofString "fat"
    · refine ⟨some (.ref p3), by rw [d3]; exact DGet.k (k := .inr "fat") (s4 _ _ a0), ?_⟩
      walk_at "g"
      refine done _ Z3 p3 (by decide) (by decide) z3 (fun q hq => s4 _ _ (t3 q hq)) (s4 _ _ a3) fun u hu => ?_
      rcases List.mem_cons.mp hu with rfl | hu
      · exact ⟨by decide, by decide, by decide, by decide, fun e => absurd e d1, fun e => absurd e d2, fun _ => by decide⟩
      rcases List.mem_cons.mp hu with rfl | hu
      · exact ⟨by decide, by decide, by decide, by decide, fun e => absurd e d1, fun e => absurd e d2, fun _ => by decide⟩
      rcases List.mem_cons.mp hu with rfl | hu
      · exact ⟨by decide, by decide, by decide, by decide, fun e => absurd e d1, fun e => absurd e d2, fun _ => by decide⟩
      cases hu
    · refine ⟨valV [((.inr "lean" : Key), V.ref p1), (.inr "even", .ref p2), (.inr "fat", .ref p3)] (.inr z), DGet.k (k := .inr z) (s4 _ _ a0), ?_⟩
      have en : valV [((.inr "lean" : Key), V.ref p1), (.inr "even", .ref p2), (.inr "fat", .ref p3)] (.inr z) = none := by
        rw [valV_neg (fun e => d1 (by injection e with e; exact e.symm)), valV_neg (fun e => d2 (by injection e with e; exact e.symm)), valV_neg (fun e => d3 (by injection e with e; exact e.symm))]
        rfl
      rw [en]
      walk_at "g"
      refine done _ Z4 p4 (by decide) (by decide) z4 q4 e4 fun u hu => ?_
      obtain ⟨b1, b2, b3, b4⟩ := big u hu
      exact ⟨b1, b2, b3, b4, fun e => absurd e d1, fun e => absurd e d2, fun e => absurd e d3⟩
theorem k_letters {H : Hp} {Q : VK} {E : XK} {b : Addr} {n : Int} (hb : BagOk H b) (h0 : 0 ≤ n) (h3 : n ≤ 3) (q : ∀ (cs : List Nat) H', Rise cs → cs.length = n.toNat → Same H H' → Q (.str (tx cs)) H') : spLetters ([.ref b, .int n] ++ []) H Q E :=
  ⟨b, n.toNat, by rw [Int.toNat_of_nonneg h0]; rfl, hb, by omega, q⟩
/-! ### a house drawn -/
/-- the dict of a house, whatever the order of its entries -/
structure MDk (H : Hp) (m : Addr) (S : HsD) (tb ev : Addr) : Prop where
  ex : ∃ kvs : List (Key × V), H m = some (.dK kvs) ∧ kvs.length ≤ 7 ∧ (valV kvs (.inr "letters") = some (.str (tx S.ls)) ∧ valV kvs (.inr "table") = some (.ref tb) ∧ valV kvs (.inr "eats") = some (.ref ev)) ∧ valV kvs (.inr "chew") = some (.int S.ch) ∧ valV kvs (.inr "put") = some (.str (tx S.pt)) ∧ valV kvs (.inr "most") = some (.int S.mo) ∧ valV kvs (.inr "cut") = some (.int S.cu)
theorem MDk.sm {H H' : Hp} {m : Addr} {S : HsD} {tb ev : Addr} (s : Same H H') (h : MDk H m S tb ev) : MDk H' m S tb ev := by
  obtain ⟨kvs, h1, h2⟩ := h.ex
  exact ⟨kvs, s _ _ h1, h2⟩
def MAt (K : PySem.W.Frag) (H : Hp) (m : Addr) (S : HsD) : Prop := ∃ (tb ev : Addr) (R : List RwI) (L : List RwM), MDk H m S tb ev ∧
  SqL K H tb (R.map fun q => V.ref q.1) ∧ (∀ q ∈ R, SqT K H q.1 (q.2.map V.int)) ∧ R.map (·.2) = S.tb ∧ SqL K H ev (L.map fun q => V.ref q.1) ∧ (∀ q ∈ L, SqT K H q.1 (q.2.map kV)) ∧ L.map (·.2) = S.tr
theorem MAt.sm {H H' : Hp} {m : Addr} {S : HsD} (s : Same H H') (h : MAt K H m S) : MAt K H' m S := by
  obtain ⟨tb, ev, R, L, h1, h2, h3, h4, h5, h6, h7⟩ := h
  exact ⟨tb, ev, R, L, h1.sm s, sm_l s h2, fun q hq => sm_t s (h3 q hq), h4, sm_l s h5, fun q hq => sm_t s (h6 q hq), h7⟩
section
variable {H : Hp} {Q : VK} {m : Addr} {S : HsD}
theorem k_mLet (hM : MAt K H m S) (h : Q (.str (tx S.ls)) H) : nDg (.ref m) (.str "letters") H Q := by
  obtain ⟨tb, ev, R, L, h1, _⟩ := hM
  obtain ⟨kvs, k0, _, k1, k2, k3, k4, k5⟩ := h1.ex
  exact k_nDg k0 k1.1 h
theorem k_mChew (hM : MAt K H m S) (h : Q (.int S.ch) H) : nDg (.ref m) (.str "chew") H Q := by
  obtain ⟨tb, ev, R, L, h1, _⟩ := hM
  obtain ⟨kvs, k0, _, k1, k2, k3, k4, k5⟩ := h1.ex
  exact k_nDg k0 k2 h
theorem k_mPut (hM : MAt K H m S) (h : Q (.str (tx S.pt)) H) : nDg (.ref m) (.str "put") H Q := by
  obtain ⟨tb, ev, R, L, h1, _⟩ := hM
  obtain ⟨kvs, k0, _, k1, k2, k3, k4, k5⟩ := h1.ex
  exact k_nDg k0 k3 h
theorem k_mMost (hM : MAt K H m S) (h : Q (.int S.mo) H) : nDg (.ref m) (.str "most") H Q := by
  obtain ⟨tb, ev, R, L, h1, _⟩ := hM
  obtain ⟨kvs, k0, _, k1, k2, k3, k4, k5⟩ := h1.ex
  exact k_nDg k0 k4 h
theorem k_mCut (hM : MAt K H m S) (h : Q (.int S.cu) H) : nDg (.ref m) (.str "cut") H Q := by
  obtain ⟨tb, ev, R, L, h1, _⟩ := hM
  obtain ⟨kvs, k0, _, k1, k2, k3, k4, k5⟩ := h1.ex
  exact k_nDg k0 k5 h
theorem k_mTab {tb ev : Addr} (hM : MDk H m S tb ev) (h : Q (.ref tb) H) : nDg (.ref m) (.str "table") H Q := by
  obtain ⟨kvs, k0, _, k1, k2, k3, k4, k5⟩ := hM.ex
  exact k_nDg k0 k1.2.1 h
theorem k_mEats {tb ev : Addr} (hM : MDk H m S tb ev) (h : Q (.ref ev) H) : nDg (.ref m) (.str "eats") H Q := by
  obtain ⟨kvs, k0, _, k1, k2, k3, k4, k5⟩ := hM.ex
  exact k_nDg k0 k1.2.2 h
end
/-- what is new of it: the dict and its list of eats -/
structure HdOk (K : PySem.W.Frag) (H H' : Hp) (m : Addr) (z : Str) (S : HsD) : Prop extends MsOk z S.ch S.pt.length where
  n0 : H m = none
  n1 : ∃ (tb ev : Addr) (R : List RwI) (L : List RwM), H' m = some (.dK [(.inr "letters", .str (tx S.ls)), (.inr "table", .ref tb), (.inr "eats", .ref ev), (.inr "chew", .int S.ch), (.inr "put", .str (tx S.pt)), (.inr "most", .int S.mo), (.inr "cut", .int S.cu)]) ∧
    H' tb = some (.lst (R.map fun q => V.ref q.1)) ∧ (∀ q ∈ R, SqT K H' q.1 (q.2.map V.int)) ∧ R.map (·.2) = S.tb ∧ H' ev = some (.lst (L.map fun q => V.ref q.1)) ∧ (∀ q ∈ L, SqT K H' q.1 (q.2.map kV)) ∧ L.map (·.2) = S.tr ∧ H ev = none ∧ tb ≠ ev ∧ S.tr.length ≤ 7
def spLHouse (K : PySem.W.Frag) : Sp := fun vs H Q _ => ∃ (b : Addr) (z : Str) (n : Int), vs = [.ref b, .str z, .int n] ∧ BagOk H b ∧ n ≤ 14 ∧ ∀ (S : HsD) (m : Addr) H', HsOk S → HdOk K H H' m z S → Same H H' → MAt K H' m S → Q (.ref m) H'
theorem ok_Lhouse (F : FnP K "_law_house" s_Lhouse f fd) (hm : mg "_law_house" = some (.ref f)) (f_range : mg "range" = none) (f_tuple : mg "tuple" = none) (f_sum : mg "sum" = none) (c_Lpull : Callee P w K mg base CX0 "_law_pull" 1 [] spPull) (c_Lone : Callee P w K mg base CX0 "_law_one" 2 [] (spOne K))
    (c_Lmeasures : Callee P w K mg base CX0 "_law_measures" 3 [] spMs) (c_Lletters : Callee P w K mg base CX0 "_law_letters" 2 [] spLetters) : Callee P w K mg base CX0 "_law_house" 4 [] (spLHouse K) := by
  refine ⟨f, fd, _, [], F.ok sc_Lhouse (fun vs H Q E h => ?hl) (fun cdv A outer s H vs Q E hr h => ⟨_, PSs.nox (pss_cons (ps_set (i := 3) sc_Lhouse.nd rfl (by first | exact Or.inl rfl | exact Or.inr rfl) (pe_op (op_addK K) pe_int (pe_cl c_Lpull hr (pa_cons (pv 0) (pa_cons pe_int pa_nil)) pass0)))
      (pss_cons (ps_setLc (i := 4) (own := [("_law_size", 14)]) rfl sc_Lhouse.nd rfl rfl (sw_true rfl rfl rfl (by decide +kernel)) (pi_tupK K (pe_tup (pa_cons pe_int (pa_cons pe_int (pa_cons pe_int pa_nil))))) (blkOk_by (N := ["_law_bag_here", "_law_sort", "_law_most_words", "_law_many", "_law_sizes", "_law_letters_here", "_law_longest", "_law_rooms", "_law_table", "_law_triples", "_law_k", "_law_chewing", "_law_plus", "_law_m", "_law_size", "_law_row_here", "_law_sign"]) (sc := defScope s_Lhouse) (by decide +kernel)) (fun _ _ _ _ _ => (pg_name (i := 14) sc_Lhouse.nd rfl (by first | exact Or.inl rfl | exact Or.inr rfl))) (fun _ _ _ _ _ => (pts_one (pt_cmpR op_leU (pe_callB (cr_sumK K) (by rfl) f_sum (by decide +kernel) (pa_cons (pe_slice (sl_k K) (pe_lst (pa_cons (pv 3) (pa_cons (pe_op op_pow (pv 3) pe_int) (pa_cons (pe_op op_pow (pv 3) pe_int) pa_nil)))) po_none (po_some (pv 14))) pa_nil)) (pv 2) (nomark _)))) (fun _ _ _ _ _ => (pv 14)))
      (pss_cons (ps_set (i := 5) sc_Lhouse.nd rfl (by first | exact Or.inl rfl | exact Or.inr rfl) (pe_cl c_Lletters hr (pa_cons (pv 0) (pa_cons (pe_ifExp (pt_cmpR (op_neK K hr.units) (pv 4) (pe_lst pa_nil) (nomark _)) (pv 3) pe_int) pa_nil)) pass0))
      (pss_cons (ps_set (i := 6) sc_Lhouse.nd rfl (by first | exact Or.inl rfl | exact Or.inr rfl) (pe_cl c_Lone hr (pa_cons (pv 0) (pa_cons (pe_ifExp (pt_cmpR (op_neK K hr.units) (pv 4) (pe_lst pa_nil) (nomark _)) (pv 4) (pe_lst (pa_cons pe_int pa_nil))) pa_nil)) pass0))
      (pss_cons (ps_set (i := 7) sc_Lhouse.nd rfl (by first | exact Or.inl rfl | exact Or.inr rfl) (pe_op (op_addK K) pe_int (pe_cl c_Lpull hr (pa_cons (pv 0) (pa_cons pe_int pa_nil)) pass0)))
      (pss_cons (ps_setLc (i := 8) (own := [("_law_row_here", 15)]) rfl sc_Lhouse.nd rfl rfl (sw_true rfl rfl rfl (by decide +kernel)) (pi_range1 (by rfl) f_range (pa_cons (pv 7) pa_nil)) (blkOk_by (N := ["_law_bag_here", "_law_sort", "_law_most_words", "_law_many", "_law_sizes", "_law_letters_here", "_law_longest", "_law_rooms", "_law_table", "_law_triples", "_law_k", "_law_chewing", "_law_plus", "_law_m", "_law_size", "_law_row_here", "_law_sign"]) (sc := defScope s_Lhouse) (by decide +kernel)) (fun _ _ _ _ _ => (pg_name (i := 15) sc_Lhouse.nd rfl (by first | exact Or.inl rfl | exact Or.inr rfl))) (fun _ _ _ _ _ => pts_nil) (fun _ _ _ _ _ => (pe_callTy (call_tupK K) (by rfl) f_tuple (by decide +kernel) (pa_cons (pe_lc (own := [("_law_sign", 16)]) rfl sc_Lhouse.nd (pi_str (pv 5)) (blkOk_by (N := ["_law_bag_here", "_law_sort", "_law_most_words", "_law_many", "_law_sizes", "_law_letters_here", "_law_longest", "_law_rooms", "_law_table", "_law_triples", "_law_k", "_law_chewing", "_law_plus", "_law_m", "_law_size", "_law_row_here", "_law_sign"]) (sc := rlb _ (defScope s_Lhouse)) (by decide +kernel)) (fun _ _ _ _ _ => (pg_name (i := 16) sc_Lhouse.nd rfl (by first | exact Or.inl rfl | exact Or.inr rfl))) (fun _ _ _ _ _ => pts_nil) (fun _ _ _ _ _ => (pe_cl c_Lpull hr (pa_cons (pv 0) (pa_cons (pv 7) pa_nil)) pass0))) pa_nil))))
      (pss_cons (ps_set (i := 9) sc_Lhouse.nd rfl (by first | exact Or.inl rfl | exact Or.inr rfl) (pe_lst (pa_cons (pe_tup (pa_cons pe_str (pa_cons pe_int (pa_cons (pe_cl c_Lpull hr (pa_cons (pv 0) (pa_cons (pv 7) pa_nil)) pass0) pa_nil)))) pa_nil)))
      (pss_cons (ps_for PassesOwn.never rfl (pi_range1 (by rfl) f_range (pa_cons (pe_cl c_Lpull hr (pa_cons (pv 0) (pa_cons pe_int pa_nil)) pass0) pa_nil)) (pg_name (i := 10) sc_Lhouse.nd rfl (by first | exact Or.inl rfl | exact Or.inr rfl)) (pss_one (ps_expr (pe_bmK K PySem.F.plainAttrs_list PySem.F.slot_list_append PySem.F.type_list_append mt_append (pv 9) (pa_cons (pe_tup (pa_cons (pe_cl c_Lone hr (pa_cons (pv 0) (pa_cons (pe_lst (pa_cons pe_str (pa_cons pe_str pa_nil))) pa_nil)) pass0) (pa_cons (pe_cl c_Lpull hr (pa_cons (pv 0) (pa_cons (pv 7) pa_nil)) pass0) (pa_cons (pe_cl c_Lpull hr (pa_cons (pv 0) (pa_cons (pv 7) pa_nil)) pass0) pa_nil)))) pa_nil)))))
      (pss_cons (ps_asg (pe_cl c_Lmeasures hr (pa_cons (pv 0) (pa_cons (pv 1) pa_nil)) pass0) (pg_tupK K 2 (by rfl) (pgs_cons (pg_name (i := 11) sc_Lhouse.nd rfl (by first | exact Or.inl rfl | exact Or.inr rfl)) (pgs_cons (pg_name (i := 3) sc_Lhouse.nd rfl (by first | exact Or.inl rfl | exact Or.inr rfl)) pgs_nil))))
      (pss_cons (ps_set (i := 12) sc_Lhouse.nd rfl (by first | exact Or.inl rfl | exact Or.inr rfl) (pe_joinK K pe_str (pe_lc (own := [("_law_k", 10)]) rfl sc_Lhouse.nd (pi_range1 (by rfl) f_range (pa_cons (pv 3) pa_nil)) (blkOk_by (N := ["_law_bag_here", "_law_sort", "_law_most_words", "_law_many", "_law_sizes", "_law_letters_here", "_law_longest", "_law_rooms", "_law_table", "_law_triples", "_law_k", "_law_chewing", "_law_plus", "_law_m", "_law_size", "_law_row_here", "_law_sign"]) (sc := defScope s_Lhouse) (by decide +kernel)) (fun _ _ _ _ _ => (pg_name (i := 10) sc_Lhouse.nd rfl (by first | exact Or.inl rfl | exact Or.inr rfl))) (fun _ _ _ _ _ => pts_nil) (fun _ _ _ _ _ => (pe_cl c_Lone hr (pa_cons (pv 0) (pa_cons (pv 5) pa_nil)) pass0)))))
      (pss_cons (ps_set (i := 13) sc_Lhouse.nd rfl (by first | exact Or.inl rfl | exact Or.inr rfl) (pe_disp (pps_cons pe_str (pv 5) (pps_cons pe_str (pv 8) (pps_cons pe_str (pv 9) (pps_cons pe_str (pv 11) (pps_cons pe_str (pv 12) (pps_cons pe_str (pv 6) pps_nil)))))) (by rfl) (by rfl) (fun z => by cases z) (by decide)))
      (pss_cons (ps_dput (hu_of hr) (pv 13) pe_str (pe_op (op_addK K) pe_int (pe_cl c_Lpull hr (pa_cons (pv 0) (pa_cons (pv 6) pa_nil)) pass0)) rfl)
      (pss_one (ps_ret (pv 13))))))))))))))), ?rd⟩), hm, F.kp, F.bindsN fun _ _ _ _ _ _ us hl => match us, hl with | [_, _, _], _ => rfl, .nil⟩
  case hl =>
    obtain ⟨b, z, n, rfl, _⟩ := h
    rfl
  case rd =>
    obtain ⟨b, z, n, rfl, hb, hn, q⟩ := h
    refine k_start (σ' := [some _, some _, some _, none, none, none, none, none, none, none, none, none, none, none, none, none, none]) rfl ?_
    have hpw : ∀ (i j : Int), 0 ≤ j → j ≤ 3 → 0 ≤ i → i ≤ 3 → CPow i j := fun i j a b c d => ⟨a, by omega, by omega⟩
    walk_at "g"
    refine k_pull hb (by omega) (by omega) (fun m0 m1 m2 => ?_)
    obtain ⟨M, hM⟩ : ∃ M : Nat, (1 + m0 : Int) = (M : Int) := ⟨(1 + m0).toNat, by omega⟩
    walk_at "g"
    rw [hM]
    refine k_nTup (by walk_at "sz") (fun p1 H1 n1 s1 e1 => ?_)
    walk_at "g"
    refine k_nLc (walk_tup (xs := [.int 1, .int 2, .int 3])) (fun H' s2 => sm_t s2 (sq_t e1)) (fun i ws => ∃ ks : List Nat, ws = ks.map (fun k => V.int (k : Nat)) ∧ ks.length ≤ i ∧ ∀ k ∈ ks, 1 ≤ k ∧ k ≤ 3 ∧ wcount M k ≤ n) ⟨[], rfl, Nat.le_refl _, fun k hk => nomatch hk⟩ (fun i ws hi hw => ?hz) (fun i v Hc Hd ws Kp Ks hi sa hws hy2 hKp hKs => ?ht) (fun p2 H2 ws n2 s2 e2 hws => ?he)
    case hz =>
      obtain ⟨ks, rfl, lk, _⟩ := hw
      have : i ≤ 3 := hi
      rw [List.length_map]
      omega
    case ht =>
      obtain ⟨rfl, hv⟩ := hy2
      obtain ⟨k, hk, rfl⟩ : ∃ k : Nat, (1 ≤ k ∧ k ≤ 3) ∧ v = .int (k : Nat) := by
        have : i = 0 ∨ i = 1 ∨ i = 2 := by
          have : i < 3 := hi
          omega
        rcases this with rfl | rfl | rfl <;> cases hv
        · exact ⟨1, by decide, rfl⟩
        · exact ⟨2, by decide, rfl⟩
        · exact ⟨3, by decide, rfl⟩
      walk_at "g"
      refine ⟨rfl, ?_⟩
      walk_at "g"
      refine k_I (hpw _ 2 (by decide) (by decide) (by omega) (by omega)) ?_
      walk_at "g"
      refine k_I (hpw _ 3 (by decide) (by decide) (by omega) (by omega)) ?_
      walk_at "g"
      refine k_nLst (by walk_at "sz") (fun p3 H3 n3 s3 e3 => ?_)
      walk_at "g"
      refine k_sl_l (sq_l e3) (fun p4 H4 n4 s4 e4 => ?_)
      rw [cutV_to] at e4
      walk_at "g"
      refine k_sum (ns := [(M : Int) ^ 1, (M : Int) ^ 2, (M : Int) ^ 3].take k) (sq_l (by rw [e4, List.map_take]; show _ = some (HO.lst (List.take k [V.int ((M : Int) ^ 1), V.int ((M : Int) ^ 2), V.int ((M : Int) ^ 3)])); rw [show ((M : Int) ^ 1) = M from (show (M : Int) ^ (0 + 1) = M by rw [Int.pow_succ, Int.pow_zero, Int.one_mul])]; rfl)) ?_
      walk_at "g"
      obtain ⟨ks, hw, lk, hks⟩ := hws
      refine k_dec (fun d => ?_) (fun d => ?_)
      · walk_at "g"
        refine hKp _ _ (s3.trans s4) ⟨ks ++ [k], by rw [hw, List.map_append]; rfl, by rw [List.length_append]; exact Nat.succ_le_succ lk, fun j hj => ?_⟩
        rcases List.mem_append.mp hj with hj | hj
        · exact hks j hj
        · rw [List.mem_singleton.mp hj]
          exact ⟨hk.1, hk.2, d⟩
      · walk_at "g"
        exact hKs _ (s3.trans s4) ⟨ks, hw, Nat.le_succ_of_le lk, hks⟩
    case he =>
      obtain ⟨ks, hw, lk, hks⟩ := hws
      have lk3 : ks.length ≤ 3 := lk
      subst hw
      have eI : ks.map (fun k => V.int ((k : Nat) : Int)) = (ks.map fun k => ((k : Nat) : Int)).map V.int := by rw [List.map_map]; rfl
      have hsz : SqL K H2 p2 ((ks.map fun k => ((k : Nat) : Int)).map V.int) := by rw [← eI]; exact sq_l e2
      have hbd : ∀ x ∈ ks.map (fun k => ((k : Nat) : Int)), x.natAbs ≤ 2 ^ 63 := fun x hx => by
        obtain ⟨k, hk, rfl⟩ := List.mem_map.mp hx
        have := (hks k hk).2.1
        omega
      have enil : decide (ks.map (fun k => ((k : Nat) : Int)) = []) = decide (ks = []) := by cases ks <;> rfl
      have s02 := s1.trans s2
      have hb2 := hb.sm s02
      with_reducible refine k_name ?_
      with_reducible refine k_seq ?_
      with_reducible refine k_asg ?_
      with_reducible refine k_call ?_
      with_reducible refine k_cons ?_
      with_reducible refine k_var rfl ?_
      with_reducible refine k_cons ?_
      refine k_post (fun v H' => v = .int (if ks = [] then 1 else (M : Int)) ∧ Same H2 H') (fun Q' hQ => ?_) (fun v H3 hv => ?_)
      · walk_at "g"
        refine k_nLst (by walk_at "sz") (fun p3 H3 n3 s3 e3 => ?_)
        refine k_neNil (sm_l s3 hsz) (sq_l e3) hbd (by rw [List.length_map]; omega) ?_
        rw [enil]
        walk_at "g"
        refine k_dec (fun d => ?_) (fun d => ?_)
        · walk_at "g"
          exact hQ _ _ ⟨by rw [if_pos d], s3⟩
        · walk_at "g"
          exact hQ _ _ ⟨by rw [if_neg d], s3⟩
      obtain ⟨rfl, s3⟩ := hv
      have hb3 := hb2.sm s3
      have hsz3 := sm_l s3 hsz
      walk_at "g"
      refine k_letters (n := if ks = [] then 1 else (M : Int)) hb3 (by split <;> omega) (by split <;> omega) (fun cs H4 hr0 hc s4 => ?_)
      have hb4 := hb3.sm s4
      have hsz4 := sm_l s4 hsz3
      with_reducible refine k_name ?_
      with_reducible refine k_seq ?_
      with_reducible refine k_asg ?_
      with_reducible refine k_call ?_
      with_reducible refine k_cons ?_
      with_reducible refine k_var rfl ?_
      with_reducible refine k_cons ?_
      refine k_post (fun v H' => Same H4 H' ∧ ∃ (pl : Addr) (js : List Nat), v = .ref pl ∧ SqL K H' pl (js.map fun k => V.int (k : Nat)) ∧ 0 < js.length ∧ js.length ≤ 3 ∧ ∀ k ∈ js, 1 ≤ k ∧ k ≤ 3 ∧ wcount cs.length k ≤ 14) (fun Q' hQ => ?_) (fun v H5 hv => ?_)
      · walk_at "g"
        refine k_nLst (by walk_at "sz") (fun p5 H5 n5 s5 e5 => ?_)
        refine k_neNil (sm_l s5 hsz4) (sq_l e5) hbd (by rw [List.length_map]; omega) ?_
        rw [enil]
        walk_at "g"
        refine k_dec (fun d => ?_) (fun d => ?_)
        · walk_at "g"
          refine k_nLst (by walk_at "sz") (fun p6 H6 n6 s6 e6 => ?_)
          refine hQ _ _ ⟨s5.trans s6, p6, [1], rfl, sq_l e6, by decide, by decide, fun k hk => ?_⟩
          rw [List.mem_singleton.mp hk]
          have : cs.length = 1 := by rw [hc, if_pos d]; rfl
          rw [this]
          exact ⟨by decide, by decide, by decide⟩
        · walk_at "g"
          refine hQ _ _ ⟨s5, p2, ks, rfl, by rw [eI]; exact sm_l s5 hsz4, List.length_pos_iff.mpr d, lk3, fun k hk => ?_⟩
          obtain ⟨k1, k2, k3⟩ := hks k hk
          have : cs.length = M := by rw [hc, if_neg d]; rfl
          rw [this]
          exact ⟨k1, k2, by omega⟩
      obtain ⟨s5, pl, js, rfl, hjs, j0, j3, hj⟩ := hv
      have hb5 := hb4.sm s5
      have lcs : 1 ≤ cs.length ∧ cs.length ≤ 3 := by
        rw [hc]
        split <;> omega
      walk_at "g"
      refine ⟨b, .ref pl, rfl, hb5, .inl ⟨pl, _, rfl, hjs, by rw [List.length_map]; exact j0, by rw [List.length_map]; omega, fun x hx => ?_⟩⟩
      obtain ⟨lo, hlo, rfl⟩ := List.mem_map.mp hx
      obtain ⟨lo1, lo3, low⟩ := hj lo hlo
      walk_at "g"
      refine k_pull hb5 (by omega) (by omega) (fun r0 r1 r2 => ?_)
      walk_at "g"
      obtain ⟨rm, hrm⟩ : ∃ rm : Nat, (1 + r0 : Int) = (rm : Int) := ⟨(1 + r0).toNat, by omega⟩
      rw [hrm]
      have szc : (tx cs).cps.size = cs.length := len_tx cs
      refine k_nLcD walk_range (fun _ _ => trivial) (fun i ws H' => ∃ R : List RwI, ws = R.map (fun q => V.ref q.1) ∧ R.length = i ∧ ∀ q ∈ R, SqT K H' q.1 (q.2.map V.int) ∧ q.2.length = cs.length ∧ ∀ x ∈ q.2, 0 ≤ x ∧ x < rm) (fun i ws H1 H2 s h => ?hm1) ⟨[], rfl, rfl, fun q hq => nomatch hq⟩ (fun i ws H1 hi h => ?hz1) (fun i v p H6 H7 ws Kp Ks hi hp s6 e6 hws hy hKp hKs => ?ht1) (fun pt H6 ws nt s6 e6 hws => ?he1)
      case hm1 =>
        obtain ⟨R, h1, h2, h3⟩ := h
        exact ⟨R, h1, h2, fun q hq => ⟨sm_t s (h3 q hq).1, (h3 q hq).2⟩⟩
      case hz1 =>
        obtain ⟨R, h1, h2, h3⟩ := h
        rw [h1, List.length_map, h2]
        omega
      case ht1 =>
        obtain ⟨rfl, rfl⟩ := hy
        obtain ⟨R, h1, h2, h3⟩ := hws
        have hb6 := hb5.sm s6
        walk_at "g"
        refine ⟨rfl, ?_⟩
        walk_at "g"
        refine k_nLc (walk_str (z := tx cs)) (fun _ _ => trivial) (fun i ws => ∃ xs : List Int, ws = xs.map V.int ∧ xs.length = i ∧ ∀ x ∈ xs, 0 ≤ x ∧ x < rm) ⟨[], rfl, rfl, fun q hq => nomatch hq⟩ (fun i ws hi h => ?hz3) (fun i v H8 H9 ws Kp2 Ks2 hi s8 hws hy hKp2 hKs2 => ?ht3) (fun p8 H8 ws n8 s8 e8 hws => ?he3)
        case hz3 =>
          obtain ⟨xs, h1, h2, _⟩ := h
          rw [h1, List.length_map, h2]
          omega
        case ht3 =>
          obtain ⟨rfl, c, hc', rfl⟩ := hy
          obtain ⟨xs, h1, h2, h3⟩ := hws
          walk_at "g"
          refine ⟨rfl, ?_⟩
          walk_at "g"
          refine k_pull (hb6.sm s8) (by omega) (by omega) (fun x x0 x1 => hKp2 _ _ (Same.refl _) ⟨xs ++ [x], by rw [h1, List.map_append]; rfl, by rw [List.length_append, h2]; rfl, fun y hy => ?_⟩)
          rcases List.mem_append.mp hy with hy | hy
          · exact h3 y hy
          · rw [List.mem_singleton.mp hy]
            exact ⟨x0, by omega⟩
        case he3 =>
          obtain ⟨xs, hx1, hx2, hx3⟩ := hws
          subst hx1
          walk_at "g"
          refine k_tup_l (sq_l e8) (fun T H9 n9 s9 e9 => ?_)
          have s79 := s8.trans s9
          refine hKp _ _ s79 ⟨R ++ [(T, xs)], by rw [h1, List.map_append]; rfl, by rw [List.length_append, h2]; rfl, fun q hq => ?_⟩
          rcases List.mem_append.mp hq with hq | hq
          · exact ⟨sm_t (del_mono s79) (h3 q hq).1, (h3 q hq).2⟩
          · cases List.mem_singleton.mp hq
            exact ⟨del_t (s79 _ _ e6) (sq_t e9), by rw [hx2]; exact szc, hx3⟩
      case he1 =>
        obtain ⟨R, hR1, hR2, hR3⟩ := hws
        subst hR1
        have hb6 := hb5.sm s6
        have rm4 : 1 ≤ rm ∧ rm ≤ 4 := by omega
        have lR : R.length = rm := by rw [hR2]; omega
        walk_at "g"
        refine k_pull hb6 (by omega) (by omega) (fun x x0 x1 => ?_)
        walk_at "g"
        refine k_nTup (by walk_at "sz") (fun T7 H7 n7 s7 e7 => ?_)
        walk_at "g"
        refine k_nLst (by walk_at "sz") (fun p8 H8 n8 s8 e8 => ?_)
        have hb8 := hb6.sm (s7.trans s8)
        walk_at "g"
        refine k_pull hb8 (by omega) (by omega) (fun k k0 k1 => ?_)
        walk_at "g"
        have s68 := s6.trans (s7.trans s8)
        have nb8 : H6 p8 = none := s7.free n8
        refine k_nFor walk_range (fun i σ H' => (∃ y10, σ = [some (.ref b), some (.str z), some (.int n), some (.int M), some (.ref p2), some (.str (tx cs)), some (.int lo), some (.int rm), some (.ref pt), some (.ref p8), y10, none, none, none, none, none, none]) ∧ Same H6 H' ∧ ∃ L : List RwM, H' p8 = some (.lst (L.map fun q => V.ref q.1)) ∧ L.length = i + 1 ∧ ∀ q ∈ L, SqT K H' q.1 (q.2.map kV) ∧ ∃ s a c, q.2 = kEat s a c ∧ 0 ≤ a ∧ a < rm ∧ 0 ≤ c ∧ c < rm)
          ⟨⟨_, rfl⟩, s7.trans s8, [(T7, kEat true 0 x)], e8, rfl, fun q hq => ?h0⟩ (fun _ _ _ _ _ => trivial) (fun i v σ H9 H10 hi h hy => ?ht2) (fun σ H9 h => ?he2)
        case h0 =>
          rw [List.mem_singleton.mp hq]
          exact ⟨sm_t s8 (sq_t e7), true, 0, x, rfl, by omega, by omega, x0, by omega⟩
        case ht2 =>
          obtain ⟨⟨y10, rfl⟩, s9, L, eL, lL, hL⟩ := h
          obtain ⟨rfl, rfl⟩ := hy
          have hb9 := hb6.sm s9
          walk_at "g"
          refine k_nLst (by walk_at "sz") (fun p10 H10 n10 s10 e10 => ?_)
          have hb10 := hb9.sm s10
          walk_at "g"
          refine ⟨b, .ref p10, rfl, hb10, .inl ⟨p10, _, rfl, sq_l e10, by show 0 < 2; decide, by show 2 ≤ 100000; decide, fun v hv => ?_⟩⟩
          obtain ⟨sd, rfl⟩ : ∃ sd : Bool, v = .str (if sd = true then Str.ofString "right" else Str.ofString "left") := by
            rcases List.mem_cons.mp hv with rfl | hv
            · exact ⟨false, rfl⟩
            rcases List.mem_cons.mp hv with rfl | hv
            · exact ⟨true, rfl⟩
            cases hv
          walk_at "g"
          refine k_pull hb10 (by omega) (by omega) (fun a a0 a1 => ?_)
          walk_at "g"
          refine k_pull hb10 (by omega) (by omega) (fun c c0 c1 => ?_)
          walk_at "g"
          refine k_nTup (by walk_at "sz") (fun T11 H11 n11 s11 e11 => ?_)
          have eL11 := (s10.trans s11) _ _ eL
          walk_at "g"
          refine k_append eL11 (by rw [List.length_map]; omega) ?_
          walk_at "g"
          refine ⟨⟨_, rfl⟩, sm_mut ((s9.trans s10).trans s11) nb8, L ++ [(T11, kEat sd a c)], by rw [upd_same, List.map_append]; rfl, by rw [List.length_append, lL]; rfl, fun q hq => ?_⟩
          rcases List.mem_append.mp hq with hq | hq
          · exact ⟨t_lst eL11 (sm_t (s10.trans s11) (hL q hq).1), (hL q hq).2⟩
          · rw [List.mem_singleton.mp hq]
            exact ⟨t_lst eL11 (sq_t e11), sd, a, c, rfl, a0, by omega, c0, by omega⟩
        case he2 =>
          obtain ⟨⟨y10, rfl⟩, s9, L, eL, lL, hL⟩ := h
          have hb9 := hb6.sm s9
          walk_at "g"
          refine ⟨b, z, rfl, hb9, fun T ch pk H10 ms s10 e10 => ?_⟩
          have hb10 := hb9.sm s10
          have lcx := len_tx cs
          have mk0 := ms.k0
          have mk2 := ms.k2
          walk_at "g"
          refine k_nLc walk_range (fun _ _ => trivial) (fun i ws => ∃ ds : List Nat, ws = (ds.map sg).map V.str ∧ ds.length = i ∧ ∀ c ∈ ds, c ∈ cs) ⟨[], rfl, rfl, fun c hc => nomatch hc⟩ (fun i ws hi h => ?hz5) (fun i v H11 H12 ws Kp Ks hi s11 hws hy hKp hKs => ?ht5) (fun p11 H11 ws n11 s11 e11 hws => ?he5)
          case hz5 =>
            obtain ⟨ds, h1, h2, _⟩ := h
            rw [h1, List.length_map, List.length_map, h2]
            omega
          case ht5 =>
            obtain ⟨rfl, rfl⟩ := hy
            obtain ⟨ds, h1, h2, h3⟩ := hws
            walk_at "g"
            refine ⟨rfl, ?_⟩
            walk_at "g"
            refine ⟨b, .str (tx cs), rfl, hb10.sm s11, .inr ⟨tx cs, rfl, by omega, by omega, fun c hc => hKp _ _ (Same.refl _) ⟨ds ++ [c], by rw [h1, List.map_append, List.map_append]; rfl, by rw [List.length_append, h2]; rfl, fun d hd => ?_⟩⟩⟩
            rcases List.mem_append.mp hd with hd | hd
            · exact h3 d hd
            · rw [List.mem_singleton.mp hd]
              exact hc
          case he5 =>
            obtain ⟨ds, hd1, hd2, hd3⟩ := hws
            subst hd1
            have hb11 := hb10.sm s11
            walk_at "g"
            refine k_join (ys := ds.map sg) (sq_l e11) ?_ ?_
            · rw [show (Str.ofString "").length = 0 by decide +kernel, List.map_map, show (Str.length ∘ sg) = fun _ => 1 from rfl, List.length_map, sum_one, hd2]
              omega
            rw [join_sgs]
            walk_at "g"
            refine k_disp fun pm npm => ?_
            walk_at "g"
            refine ⟨upd_same, [(.inr "letters", .str (tx cs)), (.inr "table", .ref pt), (.inr "eats", .ref p8), (.inr "chew", .int ch), (.inr "put", .str (tx ds)), (.inr "most", .int lo)], rfl, by show 6 ≤ 15; decide, ?_⟩
            simp only [upd_upd]
            have em : mergeK [] [((.inr "letters" : Key), V.str (tx cs)), (.inr "table", .ref pt), (.inr "eats", .ref p8), (.inr "chew", .int ch), (.inr "put", .str (tx ds)), (.inr "most", .int lo)] = [((.inr "letters" : Key), V.str (tx cs)), (.inr "table", .ref pt), (.inr "eats", .ref p8), (.inr "chew", .int ch), (.inr "put", .str (tx ds)), (.inr "most", .int lo)] := rfl
            rw [em]
            have s12 := sm_new (o := .dK [((.inr "letters" : Key), V.str (tx cs)), (.inr "table", .ref pt), (.inr "eats", .ref p8), (.inr "chew", .int ch), (.inr "put", .str (tx ds)), (.inr "most", .int lo)]) npm
            have e12 : (upd H11 pm (.dK [((.inr "letters" : Key), V.str (tx cs)), (.inr "table", .ref pt), (.inr "eats", .ref p8), (.inr "chew", .int ch), (.inr "put", .str (tx ds)), (.inr "most", .int lo)])) pm = some (.dK [((.inr "letters" : Key), V.str (tx cs)), (.inr "table", .ref pt), (.inr "eats", .ref p8), (.inr "chew", .int ch), (.inr "put", .str (tx ds)), (.inr "most", .int lo)]) := upd_same
            generalize upd H11 pm (.dK [((.inr "letters" : Key), V.str (tx cs)), (.inr "table", .ref pt), (.inr "eats", .ref p8), (.inr "chew", .int ch), (.inr "put", .str (tx ds)), (.inr "most", .int lo)]) = H12 at s12 e12 ⊢
            have hb12 := hb11.sm s12
            walk_at "g"
            refine k_pull hb12 (by omega) (by omega) (fun u u0 u1 => ?_)
            walk_at "g"
            refine k_nDp e12 (by show 6 < 1000; decide) ?_
            have np0 : H pm = none := ((((((s02.trans s3).trans s4).trans s5).trans s6).trans s9).trans (s10.trans s11)).free npm
            have sAll : Same H (upd H12 pm (.dK (putK [((.inr "letters" : Key), V.str (tx cs)), (.inr "table", .ref pt), (.inr "eats", .ref p8), (.inr "chew", .int ch), (.inr "put", .str (tx ds)), (.inr "most", .int lo)] (.inr "cut") (.int (1 + u))))) :=
              sm_mut (((((((s02.trans s3).trans s4).trans s5).trans s6).trans s9).trans (s10.trans s11)).trans s12) np0
            have eF : (upd H12 pm (.dK (putK [((.inr "letters" : Key), V.str (tx cs)), (.inr "table", .ref pt), (.inr "eats", .ref p8), (.inr "chew", .int ch), (.inr "put", .str (tx ds)), (.inr "most", .int lo)] (.inr "cut") (.int (1 + u))))) pm = some (.dK [((.inr "letters" : Key), V.str (tx cs)), (.inr "table", .ref pt), (.inr "eats", .ref p8), (.inr "chew", .int ch), (.inr "put", .str (tx ds)), (.inr "most", .int lo), (.inr "cut", .int (1 + u))]) := upd_same
            have s612 := (s9.trans (s10.trans s11)).trans s12
            have s912 := (s10.trans s11).trans s12
            have kT : ∀ {a : Addr} {xs : List V}, SqT K H12 a xs → SqT K (upd H12 pm (.dK (putK [((.inr "letters" : Key), V.str (tx cs)), (.inr "table", .ref pt), (.inr "eats", .ref p8), (.inr "chew", .int ch), (.inr "put", .str (tx ds)), (.inr "most", .int lo)] (.inr "cut") (.int (1 + u))))) a xs := fun h => t_dk e12 h
            have kL0 : ∀ {a : Addr} {xs : List V}, H12 a = some (.lst xs) → (upd H12 pm (.dK (putK [((.inr "letters" : Key), V.str (tx cs)), (.inr "table", .ref pt), (.inr "eats", .ref p8), (.inr "chew", .int ch), (.inr "put", .str (tx ds)), (.inr "most", .int lo)] (.inr "cut") (.int (1 + u))))) a = some (.lst xs) := fun h => by rw [upd_ne (ne_of h e12 (fun z => by cases z))]; exact h
            have kL : ∀ {a : Addr} {xs : List V}, H12 a = some (.lst xs) → SqL K (upd H12 pm (.dK (putK [((.inr "letters" : Key), V.str (tx cs)), (.inr "table", .ref pt), (.inr "eats", .ref p8), (.inr "chew", .int ch), (.inr "put", .str (tx ds)), (.inr "most", .int lo)] (.inr "cut") (.int (1 + u))))) a xs := fun h => sq_l (kL0 h)
            generalize upd H12 pm (.dK (putK [((.inr "letters" : Key), V.str (tx cs)), (.inr "table", .ref pt), (.inr "eats", .ref p8), (.inr "chew", .int ch), (.inr "put", .str (tx ds)), (.inr "most", .int lo)] (.inr "cut") (.int (1 + u)))) = H13 at *
            walk_at "g"
            have tbl : (R.map (·.2)).length = rm := by rw [List.length_map, lR]
            have mc0 := ms.c0
            have mc2 := ms.c2
            have ldk : (ds.length : Int) = pk := by rw [hd2]; omega
            refine q ⟨cs, R.map (·.2), L.map (·.2), ch, ds, lo, 1 + u⟩ pm H13 ⟨hr0, lcs.1, lcs.2, by rw [tbl]; exact rm4.1, by rw [tbl]; exact rm4.2, fun r hr => ?_, by rw [List.length_map, lL]; omega, fun kk hk => ?_, mc0, mc2, by show ds.length ≤ 2; omega, hd3, by show (1 : Int) ≤ lo; omega, by show (lo : Int) ≤ 3; omega, low, by show (1 : Int) ≤ 1 + u; omega, by show 1 + u ≤ (lo : Int); omega⟩ ⟨by rw [ldk]; exact ms, np0, pt, p8, R, L, eF, kL0 (s612 _ _ e6), fun q hq => kT (sm_t s612 (hR3 q hq).1), rfl, kL0 (s912 _ _ eL), fun q hq => kT (sm_t s912 (hL q hq).1), rfl, ((((s02.trans s3).trans s4).trans s5).trans s6).free nb8, (fun z => by
                rw [← z, e6] at nb8
                cases nb8), by show (L.map (·.2)).length ≤ 7; rw [List.length_map, lL]; omega⟩ sAll
              ⟨pt, p8, R, L, ⟨_, eF, by show 7 ≤ 7; decide, ⟨rfl, rfl, rfl⟩, rfl, rfl, rfl, rfl⟩, kL (s612 _ _ e6), fun q hq => kT (sm_t s612 (hR3 q hq).1), rfl, kL (s912 _ _ eL), fun q hq => kT (sm_t s912 (hL q hq).1), rfl⟩
            · obtain ⟨q, hq, rfl⟩ := List.mem_map.mp hr
              obtain ⟨_, w1, w2⟩ := hR3 q hq
              exact ⟨w1, fun x hx => by rw [tbl]; exact w2 x hx⟩
            · obtain ⟨q, hq, rfl⟩ := List.mem_map.mp hk
              obtain ⟨_, s, a, c, e, b1, b2, b3, b4⟩ := hL q hq
              exact ⟨s, a, c, e, b1, by rw [tbl]; exact b2, b3, by rw [tbl]; exact b4⟩

local macro_rules | `(tactic| walk_at "hp") => `(tactic| first | assumption | exact upd_same | (refine' (upd_ne ?n).trans ?h; (case n => assumption); (case h => walk_at "hp")) | (refine' sm_get ?s ?h; (case s => assumption); (case h => walk_at "hp")))
local macro_rules | `(tactic| walk_at "sq") => `(tactic| first | assumption | (refine' sq_l ?h; (case h => walk_at "hp")) | (refine' sm_l ?s ?h; (case s => assumption); (case h => walk_at "sq")))
local macro_rules | `(tactic| walk_at "st") => `(tactic| first | assumption | (refine' sq_t ?h; (case h => walk_at "hp")) | (refine' sm_t ?s ?h; (case s => assumption); (case h => walk_at "st")))
local macro_rules | `(tactic| walk_at "bg") => `(tactic| first | assumption | (refine' BagOk.sm ?s ?h; (case s => assumption); (case h => walk_at "bg")))
local macro_rules | `(tactic| walk_at "sm") => `(tactic| first | assumption | exact Same.refl _ | (refine' Same.trans ?h ?s; (case s => assumption); (case h => walk_at "sm")))
local macro_rules | `(tactic| walk_at "hs") => `(tactic| first | assumption | (refine' HsAt.sm ?s ?h; (case s => assumption); (case h => walk_at "hs")))
local macro_rules | `(tactic| walk_at "ms") => `(tactic| first | assumption | (refine' MAt.sm ?s ?h; (case s => assumption); (case h => walk_at "ms")))
local macro_rules | `(tactic| walk_at "md") => `(tactic| first | assumption | (refine' MDk.sm ?s ?h; (case s => assumption); (case h => walk_at "md")))
local macro_rules | `(tactic| walk_at "dp") => `(tactic| first | assumption | (refine' dp_sm ?s ?h; (case s => assumption); (case h => walk_at "dp")))
local macro_rules | `(tactic| walk_at "sz") => `(tactic| first | decide | assumption | omega | (simp only [List.length_cons, List.length_nil, List.length_map, List.length_append]; omega))
local macro_rules | `(tactic| walk_at "g1") => `(tactic| first
  | with_reducible refine k_seq ?_
  | with_reducible refine k_itB ?_
  | with_reducible refine k_next ?_
  | with_reducible refine k_asg ?_
  | with_reducible refine k_name ?_
  | with_reducible refine k_ret ?_
  | with_reducible refine k_retN ?_
  | with_reducible refine k_drop ?_
  | with_reducible refine k_ifs ?_
  | with_reducible refine k_brk ?_
  | with_reducible refine k_cont ?_
  | with_reducible refine k_ipI ?_
  | with_reducible refine k_test ?_
  | with_reducible refine k_tB ?_
  | with_reducible refine k_bl ?_
  | with_reducible refine k_not ?_
  | with_reducible refine k_and ?_
  | with_reducible refine k_or ?_
  | with_reducible refine k_yes ?_
  | with_reducible refine k_true ?_
  | with_reducible refine k_false ?_
  | with_reducible refine k_nt ?_
  | with_reducible refine k_c ?_
  | with_reducible refine k_op ?_
  | with_reducible refine k_un ?_
  | with_reducible refine k_if ?_
  | with_reducible refine k_chain ?_
  | with_reducible refine k_nil ?_
  | with_reducible refine k_cons ?_
  | with_reducible refine k_cb ?_
  | with_reducible refine k_call ?_
  | with_reducible refine k_callS ?_
  | with_reducible refine k_andV ?_
  | with_reducible refine k_orV ?_
  | with_reducible refine k_notV ?_
  | with_reducible refine k_lst ?_
  | with_reducible refine k_tup ?_
  | with_reducible refine k_nopart ?_
  | with_reducible refine k_part ?_
  | with_reducible refine k_nInt ?_
  | with_reducible refine k_sl ?_
  | with_reducible refine k_bm ?_
  | with_reducible refine k_bm0 ?_
  | with_reducible refine k_nTyS ?_
  | with_reducible refine k_m1 ?_
  | with_reducible refine k_m0 ?_
  | with_reducible refine k_nStr ?_
  | with_reducible refine k_I0 ?_
  | with_reducible refine k_U ?_
  | with_reducible refine k_add_i ?_
  | with_reducible refine k_eq_i ?_
  | with_reducible refine k_eq_s ?_
  | with_reducible refine k_eq_b ?_
  | with_reducible refine k_ne_i ?_
  | with_reducible refine k_ne_s ?_
  | with_reducible refine k_ne_b ?_
  | with_reducible refine k_le_i ?_
  | with_reducible refine k_le_s ?_
  | with_reducible refine k_gnil ?_
  | with_reducible refine k_gcons ?_
  | with_reducible refine k_gsub ?_
  | with_reducible refine k_for ?_
  | with_reducible refine k_lc ?_
  | with_reducible refine k_rng1 ?_
  | with_reducible refine k_rng2 ?_
  | with_reducible refine k_itl ?_
  | with_reducible refine k_itt ?_
  | with_reducible refine k_its ?_
  | with_reducible refine k_ite ?_
  | with_reducible refine k_iteB ?_
  | with_reducible refine k_lrg2 ?_
  | with_reducible refine k_itz ?_
  | with_reducible refine k_nIts ?_
  | with_reducible refine k_inS ?_
  | with_reducible refine k_niS ?_
  | with_reducible refine k_mk ?_
  | with_reducible refine k_meth ?_
  | with_reducible refine k_fld ?_
  | with_reducible refine k_sfld ?_
  | with_reducible refine k_dg ?_
  | with_reducible refine k_dp ?_
  | with_reducible refine k_pr ?_
  | with_reducible refine k_pr0 ?_
  | with_reducible refine k_sg ?_
  | with_reducible refine k_lc2 ?_
  | with_reducible refine k_callN ?_
  | with_reducible refine k_callNS ?_
  | with_reducible refine k_par ?_
  | with_reducible refine k_nPar ?_
  | with_reducible refine k_isNn ?_
  | with_reducible refine k_isNr ?_
  | with_reducible refine k_ntNn ?_
  | with_reducible refine k_ntNr ?_
  | with_reducible refine k_min2 ?_
  | with_reducible refine k_max2 ?_
  | with_reducible refine k_intB ?_
  | with_reducible refine k_intI ?_
  | with_reducible refine k_isBl ?_
  | with_reducible refine k_ntBl ?_
  | ((with_reducible refine' k_var ?kv ?_); (case kv => exact rfl))
  | ((with_reducible refine' k_aug ?kv ?_); (case kv => exact rfl))
  | ((with_reducible refine' k_ix_l ?ks ?ki ?_); (case ks => walk_at "sq"); (case ki => exact rfl))
  | ((with_reducible refine' k_ix_t ?ks ?ki ?_); (case ks => walk_at "st"); (case ki => exact rfl))
  | ((with_reducible refine' k_len_l ?ks ?_); (case ks => walk_at "sq"))
  | ((with_reducible refine' k_len_t ?ks ?_); (case ks => walk_at "st"))
  | ((with_reducible refine' k_setL ?ks ?ki ?_); (case ks => walk_at "hp"); (case ki => exact rfl))
  | ((with_reducible refine' k_nTyL ?ks ?_); (case ks => walk_at "sq"))
  | ((with_reducible refine' k_nItl ?ks ?_); (case ks => walk_at "sq"))
  | ((with_reducible refine' k_nItt ?ks ?_); (case ks => walk_at "st"))
  | ((with_reducible refine' k_nIte ?ks ?_); (case ks => walk_at "sq"))
  | ((with_reducible refine' k_mul ?km ?_); (case km => first | exact Or.inr ⟨by decide, by decide⟩ | exact Or.inl ⟨by decide, by decide⟩))
  | ((with_reducible refine' k_I ?km ?_); (case km => first | assumption | decide | exact ⟨by decide, by decide +kernel⟩ | exact ⟨by decide, by decide, by decide⟩))
  | ((with_reducible refine' k_nMeth ?kp ?kl ?_); (case kp => walk_at "hp"); (case kl => exact rfl))
  | ((with_reducible refine' k_nFld ?kp ?kc ?kn ?kl ?_); (case kp => walk_at "hp"); (case kc => assumption); (case kn => assumption); (case kl => exact rfl))
  | ((with_reducible refine' k_nSFld ?kp ?kc ?kn ?kl ?_); (case kp => walk_at "hp"); (case kc => assumption); (case kn => assumption); (case kl => exact of_decide_eq_true rfl))
  | ((with_reducible refine' k_nDg ?kp ?kl ?_); (case kp => walk_at "hp"); (case kl => exact rfl))
  | ((with_reducible refine' k_nRng1 ?k1 ?k2 ?_); (case k1 => omega); (case k2 => omega))
  | ((with_reducible refine' k_nKw ?k1 ?k2 ?_); (case k1 => exact rfl); (case k2 => exact rfl))
  | ((with_reducible refine' k_hsm ?kh ?_); (case kh => walk_at "hs"))
  | ((with_reducible refine' k_nMethH ?kh ?kl ?_); (case kh => walk_at "hs"); (case kl => exact fun _ _ => rfl))
  | ((with_reducible refine' k_mLet ?kh ?_); (case kh => walk_at "ms"))
  | ((with_reducible refine' k_mChew ?kh ?_); (case kh => walk_at "ms"))
  | ((with_reducible refine' k_mPut ?kh ?_); (case kh => walk_at "ms"))
  | ((with_reducible refine' k_mMost ?kh ?_); (case kh => walk_at "ms"))
  | ((with_reducible refine' k_mCut ?kh ?_); (case kh => walk_at "ms"))
  | ((with_reducible refine' k_mTab ?kh ?_); (case kh => walk_at "md"))
  | ((with_reducible refine' k_mEats ?kh ?_); (case kh => walk_at "md"))
  | ((with_reducible refine' k_gtup ?ks ?kl ?_); (case ks => walk_at "st"); (case kl => exact rfl)))
local macro_rules | `(tactic| walk_at "g") => `(tactic| repeat (walk_at "g1"))
local macro_rules | `(tactic| walk_at "w1") => `(tactic| first
  | walk_at "g1"
  | ((with_reducible refine' k_decT ?kp ?_); (case kp => omega))
  | ((with_reducible refine' k_decF ?kp ?_); (case kp => omega))
  | ((with_reducible refine' k_decNT ?kp ?_); (case kp => omega))
  | ((with_reducible refine' k_decNF ?kp ?_); (case kp => omega)))
local macro_rules | `(tactic| walk_at "w") => `(tactic| repeat (walk_at "w1"))

/-! ### a house made -/
def gHouse : List V → List V → List V := fun vs zs => vs ++ zs
theorem House_made (F : FunD K "__init__" "House.__init__" (defArgs s_House_init) (defBody s_House_init) (defScope s_House_init) [] [("chew", .int 0)] (He.ma K (He.ga K "House") "__init__") fd) (gC : mg "House" = some (.ref (He.ga K "House"))) (mk0 : Mk K (He.ga K "House") (He.ma K (He.ga K "House") "__init__"))
    (ok : FnOk P w K mg base CX0 2 (He.ma K (He.ga K "House") "__init__") fd ["self", "letters", "table", "eats", "chew", "put", "most", "cut"] (spInit K)) : OwnMk P w K mg base CX0 "House" 2 2 ["eats", "chew", "put", "most", "cut"] gHouse (spInit K) := by
  refine ⟨gC, mk0, fd, _, ok, fun us ws => us ++ ws, ?_⟩
  have key := FunD.kbinds0 (ps := ["self", "letters", "table", "eats", "chew", "put", "most", "cut"]) F 3 ["eats", "chew", "put", "most", "cut"] [] (fun {α} us _ ws => us ++ ws) (by simp) (fun q hq => nomatch hq) (fun r1 _ r3 => r1.append r3) (fun D doc pm an cdv ct us mv ws l1 l2 l3 => by
    match us, mv, ws, l1, l2, l3 with
    | [_, _, _], [], [_, _, _, _, _], _, _, _ => rfl)
  exact key.elim fun mv h => h
--! have c_House := House_made $F(House.__init__) g_House (He.mkr_ok a_mk) c_House_init
def spMade (K : PySem.W.Frag) : Sp := fun vs H Q _ => ∃ (m : Addr) (S : HsD), vs = [.ref m] ∧ MAt K H m S ∧ HsOk S ∧ ∀ a H', H a = none → Same H H' → HsAt K H' a S → Q (.ref a) H'
theorem ok_Lmade (F : FnP K "_law_made" s_Lmade f fd) (hm : mg "_law_made" = some (.ref f)) (f_list : mg "list" = none) (c_House : OwnMk P w K mg base CX0 "House" 2 2 ["eats", "chew", "put", "most", "cut"] gHouse (spInit K)) : Callee P w K mg base CX0 "_law_made" 4 [] (spMade K) := by
  refine ⟨f, fd, _, [], F.ok sc_Lmade (fun vs H Q E h => ?hl) (fun cdv A outer s H vs Q E hr h => ⟨_, PSs.nox (pss_cons (ps_setLc (i := 1) (own := [("_law_row_here", 3)]) rfl sc_Lmade.nd rfl rfl (sw_true rfl rfl rfl (by decide +kernel)) (pi_listK K (pe_dget (hu_of hr) (pv 0) pe_str (fun _ _ => rfl))) (blkOk_by (N := ["_law_m", "_law_table", "_law_triples", "_law_row_here"]) (sc := defScope s_Lmade) (by decide +kernel)) (fun _ _ _ _ _ => (pg_name (i := 3) sc_Lmade.nd rfl (by first | exact Or.inl rfl | exact Or.inr rfl))) (fun _ _ _ _ _ => pts_nil) (fun _ _ _ _ _ => (pe_callTy (call_listK K) (by rfl) f_list (by decide +kernel) (pa_cons (pv 3) pa_nil))))
      (pss_cons (ps_set (i := 2) sc_Lmade.nd rfl (by first | exact Or.inl rfl | exact Or.inr rfl) (pe_callTy (call_listK K) (by rfl) f_list (by decide +kernel) (pa_cons (pe_dget (hu_of hr) (pv 0) pe_str (fun _ _ => rfl)) pa_nil)))
      (pss_one (ps_ret (pe_mkK c_House hr (pa_cons (pe_dget (hu_of hr) (pv 0) pe_str (fun _ _ => rfl)) (pa_cons (pv 1) pa_nil)) (pk_cons (pv 2) (pk_cons (pe_dget (hu_of hr) (pv 0) pe_str (fun _ _ => rfl)) (pk_cons (pe_dget (hu_of hr) (pv 0) pe_str (fun _ _ => rfl)) (pk_cons (pe_dget (hu_of hr) (pv 0) pe_str (fun _ _ => rfl)) (pk_cons (pe_dget (hu_of hr) (pv 0) pe_str (fun _ _ => rfl)) pk_nil))))) pass0))))), ?rd⟩), hm, F.kp, F.bindsN fun _ _ _ _ _ _ us hl => match us, hl with | [_], _ => rfl, .nil⟩
  case hl =>
    obtain ⟨m, S, rfl, _⟩ := h
    rfl
  case rd =>
    obtain ⟨m, S, rfl, hM, ok, q⟩ := h
    have hM0 := hM
    obtain ⟨tb, ev, R, L, h1, h2, h3, h4, h5, h6, h7⟩ := hM
    refine k_start (σ' := [some _, none, none, none]) rfl ?_
    have lR : R.length = S.tb.length := by rw [← h4, List.length_map]
    have t4 := ok.t4
    walk_at "g"
    refine k_nLcD (walk_list (xs := R.map fun q => V.ref q.1)) (fun H' s2 => sm_l s2 h2) (fun i ws H1 => ∃ R' : List RwI, ws = R'.map (fun q => V.ref q.1) ∧ R'.map (·.2) = (R.take i).map (·.2) ∧ ∀ q ∈ R', SqL K H1 q.1 (q.2.map V.int)) (fun i ws H1 H2 s h => ?hm) ⟨[], rfl, rfl, fun q hq => nomatch hq⟩ (fun i ws H1 hi h => ?hz) (fun i v p H1 H2 ws Kp Ks hi hp s1 e1 hws hy hKp hKs => ?ht2) (fun pr Hr ws nr sr er hws => ?he2)
    case hm =>
      obtain ⟨R', e1, e2, h3⟩ := h
      exact ⟨R', e1, e2, fun q hq => sm_l s (h3 q hq)⟩
    case hz =>
      obtain ⟨R', e1, e2, h3⟩ := h
      have := congrArg List.length e2
      rw [List.length_map, List.length_map, List.length_take] at this
      rw [e1, List.length_map]
      omega
    case ht2 =>
      obtain ⟨rfl, hv⟩ := hy
      obtain ⟨r, hr0, rfl⟩ := map_get hv
      obtain ⟨R', e2, e3, h3'⟩ := hws
      have hr1 := sm_t s1 (h3 r (List.mem_of_getElem? hr0))
      walk_at "g"
      refine ⟨rfl, ?_⟩
      walk_at "g"
      refine k_list_t hr1 (fun t H6 n6 s6 e6 => hKp _ _ s6 ⟨R' ++ [(t, r.2)], by rw [e2, List.map_append]; rfl, by rw [List.map_append, e3, take_more hr0, List.map_append]; rfl, fun q hq => ?_⟩)
      rcases List.mem_append.mp hq with hq | hq
      · exact sm_l (del_mono s6) (h3' q hq)
      · cases List.mem_singleton.mp hq
        exact del_l (fun z => by have z : t = p := z; rw [z, e1] at n6; cases n6) (sq_l e6)
    case he2 =>
      obtain ⟨R', e2, e3, h3'⟩ := hws
      subst e2
      have lRm : (R.map fun q => V.ref q.1).length = R.length := List.length_map _
      rw [lRm, List.take_length, h4] at e3
      have h5r := sm_l sr h5
      have h1r := h1.sm sr
      walk_at "g"
      refine k_list_l h5r (fun p5 H5 n5 s5 e5 => ?_)
      have h15 := h1r.sm s5
      have hM5 : MAt K H5 m S := hM0.sm (sr.trans s5)
      walk_at "g"
      refine k_makeK ?_
      walk_at "g"
      refine ⟨rfl, rfl, fun x dx nx ndx nex => ?_⟩
      have sG : Same H5 (upd (upd H5 dx (.own x)) x (.ins (He.ga K "House") dx [])) := (sm_new ndx).trans (sm_new (by rw [upd_ne (Ne.symm nex)]; exact nx))
      have sR5 := sr.trans s5
      refine ⟨S, x, dx, pr, p5, R', L, false, rfl, ok, upd_same, sm_l (s5.trans sG) (sq_l er), fun q hq => sm_l (s5.trans sG) (h3' q hq), e3, sm_l sG (sq_l e5), fun q hq => sm_t (sR5.trans sG) (h6 q hq), h7, fun H' keep hs => ⟨rfl, q x H' (sR5.free nx) (fun b u hb => ?_) hs⟩⟩
      have hb5 := sR5 b u hb
      exact keep b u (ne_of_none hb5 nx) (sG b u hb5)
end
end Lw
set_option autoImplicit true
set_option pp.maxSteps 1200
set_option Elab.async false
set_option linter.all false
set_option maxRecDepth 100000
set_option maxHeartbeats 1000000
namespace Lw
open PySem PySem.Spec PyProof.Rows L2 Gk

local macro_rules | `(tactic| walk_at "hp") => `(tactic| first | assumption | exact upd_same | (refine' (upd_ne ?n).trans ?h; (case n => assumption); (case h => walk_at "hp")) | (refine' sm_get ?s ?h; (case s => assumption); (case h => walk_at "hp")))
local macro_rules | `(tactic| walk_at "sq") => `(tactic| first | assumption | (refine' sq_l ?h; (case h => walk_at "hp")) | (refine' sm_l ?s ?h; (case s => assumption); (case h => walk_at "sq")))
local macro_rules | `(tactic| walk_at "st") => `(tactic| first | assumption | (refine' sq_t ?h; (case h => walk_at "hp")) | (refine' sm_t ?s ?h; (case s => assumption); (case h => walk_at "st")))
local macro_rules | `(tactic| walk_at "bg") => `(tactic| first | assumption | (refine' BagOk.sm ?s ?h; (case s => assumption); (case h => walk_at "bg")))
local macro_rules | `(tactic| walk_at "sm") => `(tactic| first | assumption | exact Same.refl _ | (refine' Same.trans ?h ?s; (case s => assumption); (case h => walk_at "sm")))
local macro_rules | `(tactic| walk_at "hs") => `(tactic| first | assumption | (refine' HsAt.sm ?s ?h; (case s => assumption); (case h => walk_at "hs")))
local macro_rules | `(tactic| walk_at "ms") => `(tactic| first | assumption | (refine' MAt.sm ?s ?h; (case s => assumption); (case h => walk_at "ms")))
local macro_rules | `(tactic| walk_at "md") => `(tactic| first | assumption | (refine' MDk.sm ?s ?h; (case s => assumption); (case h => walk_at "md")))
local macro_rules | `(tactic| walk_at "dp") => `(tactic| first | assumption | (refine' dp_sm ?s ?h; (case s => assumption); (case h => walk_at "dp")))
local macro_rules | `(tactic| walk_at "sz") => `(tactic| first | decide | assumption | omega | (simp only [List.length_cons, List.length_nil, List.length_map, List.length_append]; omega))
local macro_rules | `(tactic| walk_at "g1") => `(tactic| first
  | with_reducible refine k_seq ?_
  | with_reducible refine k_itB ?_
  | with_reducible refine k_next ?_
  | with_reducible refine k_asg ?_
  | with_reducible refine k_name ?_
  | with_reducible refine k_ret ?_
  | with_reducible refine k_retN ?_
  | with_reducible refine k_drop ?_
  | with_reducible refine k_ifs ?_
  | with_reducible refine k_brk ?_
  | with_reducible refine k_cont ?_
  | with_reducible refine k_ipI ?_
  | with_reducible refine k_test ?_
  | with_reducible refine k_tB ?_
  | with_reducible refine k_bl ?_
  | with_reducible refine k_not ?_
  | with_reducible refine k_and ?_
  | with_reducible refine k_or ?_
  | with_reducible refine k_yes ?_
  | with_reducible refine k_true ?_
  | with_reducible refine k_false ?_
  | with_reducible refine k_nt ?_
  | with_reducible refine k_c ?_
  | with_reducible refine k_op ?_
  | with_reducible refine k_un ?_
  | with_reducible refine k_if ?_
  | with_reducible refine k_chain ?_
  | with_reducible refine k_nil ?_
  | with_reducible refine k_cons ?_
  | with_reducible refine k_cb ?_
  | with_reducible refine k_call ?_
  | with_reducible refine k_callS ?_
  | with_reducible refine k_andV ?_
  | with_reducible refine k_orV ?_
  | with_reducible refine k_notV ?_
  | with_reducible refine k_lst ?_
  | with_reducible refine k_tup ?_
  | with_reducible refine k_nopart ?_
  | with_reducible refine k_part ?_
  | with_reducible refine k_nInt ?_
  | with_reducible refine k_sl ?_
  | with_reducible refine k_bm ?_
  | with_reducible refine k_bm0 ?_
  | with_reducible refine k_nTyS ?_
  | with_reducible refine k_m1 ?_
  | with_reducible refine k_m0 ?_
  | with_reducible refine k_nStr ?_
  | with_reducible refine k_I0 ?_
  | with_reducible refine k_U ?_
  | with_reducible refine k_add_i ?_
  | with_reducible refine k_eq_i ?_
  | with_reducible refine k_eq_s ?_
  | with_reducible refine k_eq_b ?_
  | with_reducible refine k_ne_i ?_
  | with_reducible refine k_ne_s ?_
  | with_reducible refine k_ne_b ?_
  | with_reducible refine k_le_i ?_
  | with_reducible refine k_le_s ?_
  | with_reducible refine k_gnil ?_
  | with_reducible refine k_gcons ?_
  | with_reducible refine k_gsub ?_
  | with_reducible refine k_for ?_
  | with_reducible refine k_lc ?_
  | with_reducible refine k_rng1 ?_
  | with_reducible refine k_rng2 ?_
  | with_reducible refine k_itl ?_
  | with_reducible refine k_itt ?_
  | with_reducible refine k_its ?_
  | with_reducible refine k_ite ?_
  | with_reducible refine k_iteB ?_
  | with_reducible refine k_lrg2 ?_
  | with_reducible refine k_itz ?_
  | with_reducible refine k_nIts ?_
  | with_reducible refine k_inS ?_
  | with_reducible refine k_niS ?_
  | with_reducible refine k_mk ?_
  | with_reducible refine k_meth ?_
  | with_reducible refine k_fld ?_
  | with_reducible refine k_sfld ?_
  | with_reducible refine k_dg ?_
  | with_reducible refine k_dp ?_
  | with_reducible refine k_pr ?_
  | with_reducible refine k_pr0 ?_
  | with_reducible refine k_sg ?_
  | with_reducible refine k_lc2 ?_
  | with_reducible refine k_callN ?_
  | with_reducible refine k_callNS ?_
  | with_reducible refine k_par ?_
  | with_reducible refine k_nPar ?_
  | with_reducible refine k_isNn ?_
  | with_reducible refine k_isNr ?_
  | with_reducible refine k_ntNn ?_
  | with_reducible refine k_ntNr ?_
  | with_reducible refine k_min2 ?_
  | with_reducible refine k_max2 ?_
  | with_reducible refine k_intB ?_
  | with_reducible refine k_intI ?_
  | with_reducible refine k_isBl ?_
  | with_reducible refine k_ntBl ?_
  | ((with_reducible refine' k_var ?kv ?_); (case kv => exact rfl))
  | ((with_reducible refine' k_aug ?kv ?_); (case kv => exact rfl))
  | ((with_reducible refine' k_ix_l ?ks ?ki ?_); (case ks => walk_at "sq"); (case ki => exact rfl))
  | ((with_reducible refine' k_ix_t ?ks ?ki ?_); (case ks => walk_at "st"); (case ki => exact rfl))
  | ((with_reducible refine' k_len_l ?ks ?_); (case ks => walk_at "sq"))
  | ((with_reducible refine' k_len_t ?ks ?_); (case ks => walk_at "st"))
  | ((with_reducible refine' k_setL ?ks ?ki ?_); (case ks => walk_at "hp"); (case ki => exact rfl))
  | ((with_reducible refine' k_nTyL ?ks ?_); (case ks => walk_at "sq"))
  | ((with_reducible refine' k_nItl ?ks ?_); (case ks => walk_at "sq"))
  | ((with_reducible refine' k_nItt ?ks ?_); (case ks => walk_at "st"))
  | ((with_reducible refine' k_nIte ?ks ?_); (case ks => walk_at "sq"))
  | ((with_reducible refine' k_mul ?km ?_); (case km => first | exact Or.inr ⟨by decide, by decide⟩ | exact Or.inl ⟨by decide, by decide⟩))
  | ((with_reducible refine' k_I ?km ?_); (case km => first | assumption | decide | exact ⟨by decide, by decide +kernel⟩ | exact ⟨by decide, by decide, by decide⟩))
  | ((with_reducible refine' k_nMeth ?kp ?kl ?_); (case kp => walk_at "hp"); (case kl => exact rfl))
  | ((with_reducible refine' k_nFld ?kp ?kc ?kn ?kl ?_); (case kp => walk_at "hp"); (case kc => assumption); (case kn => assumption); (case kl => exact rfl))
  | ((with_reducible refine' k_nSFld ?kp ?kc ?kn ?kl ?_); (case kp => walk_at "hp"); (case kc => assumption); (case kn => assumption); (case kl => exact of_decide_eq_true rfl))
  | ((with_reducible refine' k_nDg ?kp ?kl ?_); (case kp => walk_at "hp"); (case kl => exact rfl))
  | ((with_reducible refine' k_nRng1 ?k1 ?k2 ?_); (case k1 => omega); (case k2 => omega))
  | ((with_reducible refine' k_nKw ?k1 ?k2 ?_); (case k1 => exact rfl); (case k2 => exact rfl))
  | ((with_reducible refine' k_hsm ?kh ?_); (case kh => walk_at "hs"))
  | ((with_reducible refine' k_nMethH ?kh ?kl ?_); (case kh => walk_at "hs"); (case kl => exact fun _ _ => rfl))
  | ((with_reducible refine' k_mLet ?kh ?_); (case kh => walk_at "ms"))
  | ((with_reducible refine' k_mChew ?kh ?_); (case kh => walk_at "ms"))
  | ((with_reducible refine' k_mPut ?kh ?_); (case kh => walk_at "ms"))
  | ((with_reducible refine' k_mMost ?kh ?_); (case kh => walk_at "ms"))
  | ((with_reducible refine' k_mCut ?kh ?_); (case kh => walk_at "ms"))
  | ((with_reducible refine' k_mTab ?kh ?_); (case kh => walk_at "md"))
  | ((with_reducible refine' k_mEats ?kh ?_); (case kh => walk_at "md"))
  | ((with_reducible refine' k_gtup ?ks ?kl ?_); (case ks => walk_at "st"); (case kl => exact rfl)))
local macro_rules | `(tactic| walk_at "g") => `(tactic| repeat (walk_at "g1"))
local macro_rules | `(tactic| walk_at "w1") => `(tactic| first
  | walk_at "g1"
  | ((with_reducible refine' k_decT ?kp ?_); (case kp => omega))
  | ((with_reducible refine' k_decF ?kp ?_); (case kp => omega))
  | ((with_reducible refine' k_decNT ?kp ?_); (case kp => omega))
  | ((with_reducible refine' k_decNF ?kp ?_); (case kp => omega)))
local macro_rules | `(tactic| walk_at "w") => `(tactic| repeat (walk_at "w1"))


section
variable {P : Program} {w : World} {K : PySem.W.Frag} {mg : Str → Option Value} {base : Heap} {f : Addr} {fd : FuncData}
def spLWords (K : PySem.W.Frag) : Sp := fun vs H Q _ => ∃ (m : Addr) (S : HsD), vs = [.ref m] ∧ MAt K H m S ∧ HsOk S ∧ ∀ p H', H p = none → Same H H' → H' p = some (.lst (tS (wordsF S.ls S.mo.toNat))) → Q (.ref p) H'
theorem ok_Lwords (F : FnP K "_law_words" s_Lwords f fd) (hm : mg "_law_words" = some (.ref f)) (f_range : mg "range" = none) : Callee P w K mg base CX0 "_law_words" 1 [] (spLWords K) := by
  refine ⟨f, fd, _, [], F.ok sc_Lwords (fun vs H Q E h => ?hl) (fun cdv A outer s H vs Q E hr h => ⟨_, PSs.nox (pss_cons (ps_set (i := 1) sc_Lwords.nd rfl (by first | exact Or.inl rfl | exact Or.inr rfl) (pe_lst pa_nil))
      (pss_cons (ps_set (i := 2) sc_Lwords.nd rfl (by first | exact Or.inl rfl | exact Or.inr rfl) (pe_lst (pa_cons pe_str pa_nil)))
      (pss_cons (ps_for PassesOwn.never rfl (pi_range1 (by rfl) f_range (pa_cons (pe_dget (hu_of hr) (pv 0) pe_str (fun _ _ => rfl)) pa_nil)) (pg_name (i := 3) sc_Lwords.nd rfl (by first | exact Or.inl rfl | exact Or.inr rfl)) (pss_cons (ps_set (i := 4) sc_Lwords.nd rfl (by first | exact Or.inl rfl | exact Or.inr rfl) (pe_lst pa_nil))
      (pss_cons (ps_for PassesOwn.never rfl (pi_listK K (pv 2)) (pg_name (i := 5) sc_Lwords.nd rfl (by first | exact Or.inl rfl | exact Or.inr rfl)) (pss_one (ps_set (i := 4) sc_Lwords.nd rfl (by first | exact Or.inl rfl | exact Or.inr rfl) (pe_op (op_addK K) (pv 4) (pe_lc (own := [("_law_sign", 6)]) rfl sc_Lwords.nd (pi_str (pe_dget (hu_of hr) (pv 0) pe_str (fun _ _ => rfl))) (blkOk_by (N := ["_law_m", "_law_found", "_law_last", "_law_size", "_law_longer", "_law_word", "_law_sign"]) (sc := defScope s_Lwords) (by decide +kernel)) (fun _ _ _ _ _ => (pg_name (i := 6) sc_Lwords.nd rfl (by first | exact Or.inl rfl | exact Or.inr rfl))) (fun _ _ _ _ _ => pts_nil) (fun _ _ _ _ _ => (pe_op (op_addK K) (pv 5) (pv 6))))))))
      (pss_cons (ps_set (i := 1) sc_Lwords.nd rfl (by first | exact Or.inl rfl | exact Or.inr rfl) (pe_op (op_addK K) (pv 1) (pv 4)))
      (pss_one (ps_set (i := 2) sc_Lwords.nd rfl (by first | exact Or.inl rfl | exact Or.inr rfl) (pv 4)))))))
      (pss_one (ps_ret (pv 1)))))), ?rd⟩), hm, F.kp, F.bindsN fun _ _ _ _ _ _ us hl => match us, hl with | [_], _ => rfl, .nil⟩
  case hl =>
    obtain ⟨m, S, rfl, _⟩ := h
    rfl
  case rd =>
    obtain ⟨m, S, rfl, hM0, ok, q⟩ := h
    refine k_start (σ' := [some _, none, none, none, none, none, none]) rfl ?_
    have m1 := ok.m1
    have m3 := ok.m3
    walk_at "g"
    refine k_nLst (by walk_at "sz") (fun p1 H1 n1 s1 e1 => ?_)
    walk_at "g"
    refine k_nLst (by walk_at "sz") (fun p2 H2 n2 s2 e2 => ?_)
    have h12 := hM0.sm (s1.trans s2)
    walk_at "g"
    have e12 := s2 _ _ e1
    refine k_nFor walk_range (fun i σ H' => ∃ pf pl y3 y4 y5, σ = [some (.ref m), some (.ref pf), some (.ref pl), y3, y4, y5, none] ∧ Same H H' ∧ (H pf = none ∧ H' pf = some (.lst (tS (wordsF S.ls i)))) ∧ H' pl = some (.lst (tS (lv S.ls i)))) ⟨p1, p2, none, none, none, rfl, s1.trans s2, ⟨n1, e12⟩, e2⟩ (fun _ _ _ _ _ => trivial) (fun i x σ Ha Hb hi h hy => ?ht) (fun σ H' h => ?he)
    case he =>
      obtain ⟨pf, pl, y3, y4, y5, rfl, sa, ⟨na, ea⟩, _⟩ := h
      walk_at "g"
      exact q _ _ na sa ea
    case ht =>
      obtain ⟨pf, pl, y3, y4, y5, rfl, sa, ⟨na, ea⟩, eb⟩ := h
      obtain ⟨rfl, rfl⟩ := hy
      have l1 := lv_small ok (i := i) (by omega)
      have l2 := lv_small ok (i := i + 1) (by omega)
      have ltS : (tS (lv S.ls i)).length = (lv S.ls i).length := List.length_map _
      walk_at "g"
      refine k_nLst (by walk_at "sz") (fun p3 H3 n3 s3 e3 => ?_)
      have eb3 := s3 _ _ eb
      walk_at "g"
      refine k_nFor (walk_list (xs := tS (lv S.ls i))) (fun j σ H' => ∃ pg y5, σ = [some (.ref m), some (.ref pf), some (.ref pl), some (.int (0 + i)), some (.ref pg), y5, none] ∧ Same H3 H' ∧ H' pg = some (.lst (tS (((lv S.ls i).take j).flatMap fun u => S.ls.map fun c => u ++ [c])))) ⟨p3, _, rfl, Same.refl _, e3⟩ (fun j σ H' _ h => by obtain ⟨pg, y5, _, s, _⟩ := h; exact sq_l (s _ _ eb3)) (fun j v σ H4 H5 hj h hy => ?ht2) (fun σ H4 h => ?he2)
      case ht2 =>
        obtain ⟨pg, y5, rfl, s4, e4⟩ := h
        obtain ⟨rfl, hv⟩ := hy
        obtain ⟨u, hu, rfl⟩ := map_get hv
        obtain ⟨lu, _⟩ := lv_ok S.ls i u (List.mem_of_getElem? hu)
        have hm4 := hM0.sm (sa.trans (s3.trans s4))
        walk_at "g"
        have sz : (tx S.ls).cps.size = S.ls.length := len_tx S.ls
        have l3 := ok.l3
        refine k_nLc (walk_str (z := tx S.ls)) (fun _ _ => trivial) (fun k ws => ws = tS ((S.ls.take k).map fun c => u ++ [c])) rfl (fun k ws hk hw => ?hz) (fun k v H6 H7 ws Kp Ks hk s6 hw hy hKp hKs => ?ht3) (fun p6 H6 ws n6 s6 e6 hw => ?he3)
        case hz =>
          rw [hw]
          unfold tS
          rw [List.length_map, List.length_map, List.length_take]
          omega
        case ht3 =>
          obtain ⟨rfl, c, hc, rfl⟩ := hy
          have hci : S.ls[k]? = some c := by rw [← hc]; exact Array.getElem?_toList (xs := S.ls.toArray)
          walk_at "g"
          refine ⟨rfl, ?_⟩
          walk_at "g"
          refine k_add_s (by rw [len_tx, lu]; show i + 1 ≤ 100000; omega) ?_
          rw [tx_one]
          exact hKp _ _ (Same.refl _) (by rw [hw, take_more hci, List.map_append]; simp [tS])
        case he3 =>
          have el : S.ls.take (tx S.ls).cps.size = S.ls := List.take_of_length_le (by omega)
          rw [el] at hw
          subst hw
          have e46 := s6 _ _ e4
          have a1 : (tS (((lv S.ls i).take j).flatMap fun u => S.ls.map fun c => u ++ [c])).length ≤ 14 * 3 := by
            unfold tS
            rw [List.length_map, List.length_flatMap, show (((lv S.ls i).take j).map fun u => (S.ls.map fun c => u ++ [c]).length) = ((lv S.ls i).take j).map fun _ => S.ls.length by simp, List.map_const', List.sum_replicate_nat, List.length_take]
            exact Nat.mul_le_mul (Nat.le_trans (Nat.min_le_right ..) l1) ok.l3
          have a2 : (tS (S.ls.map fun c => u ++ [c])).length ≤ 3 := by
            unfold tS
            rw [List.length_map, List.length_map]
            exact ok.l3
          refine k_add_l e46 e6 (by omega) (fun p7 H7 n7 s7 e7 => ?_)
          walk_at "g"
          refine ⟨p7, _, rfl, s4.trans (s6.trans s7), ?_⟩
          rw [e7, longer S.ls (lv S.ls i) j u hu]
          simp [tS]
      case he2 =>
        obtain ⟨pg, y5, rfl, s4, e4⟩ := h
        rw [ltS, List.take_length] at e4
        have ea4 := (s3.trans s4) _ _ ea
        walk_at "g"
        have w1 := words_small ok i (by omega)
        have t1 : (tS (wordsF S.ls i)).length = (wordsF S.ls i).length := List.length_map _
        have t2 : (tS ((lv S.ls i).flatMap fun u => S.ls.map fun c => u ++ [c])).length = (lv S.ls (i + 1)).length := List.length_map _
        refine k_add_l ea4 e4 (by omega) (fun p5 H5 n5 s5 e5 => ?_)
        walk_at "g"
        refine ⟨p5, pg, _, _, _, rfl, sa.trans (s3.trans (s4.trans s5)), ⟨(sa.trans (s3.trans s4)).free n5, ?_⟩, ?_⟩
        · rw [e5]
          unfold wordsF tS
          rw [List.range_succ, List.flatMap_append, List.map_append]
          simp [lv]
        · rw [s5 _ _ e4]
          rfl
def spLTaste (K : PySem.W.Frag) : Sp := fun vs H Q _ => ∃ (m : Addr) (S : HsD) (cs : List Nat), vs = [.ref m, .str (tx cs)] ∧ MAt K H m S ∧ HsOk S ∧ (∀ c ∈ cs, c ∈ S.ls) ∧ Q (.int (tasteF S cs)) H
theorem ok_Ltaste (F : FnP K "_law_taste" s_Ltaste f fd) (hm : mg "_law_taste" = some (.ref f)) : Callee P w K mg base CX0 "_law_taste" 1 [] (spLTaste K) := by
  refine ⟨f, fd, _, [], F.ok sc_Ltaste (fun vs H Q E h => ?hl) (fun cdv A outer s H vs Q E hr h => ⟨_, PSs.nox (pss_cons (ps_set (i := 2) sc_Ltaste.nd rfl (by first | exact Or.inl rfl | exact Or.inr rfl) pe_int)
      (pss_cons (ps_for PassesOwn.never rfl (pi_str (pv 1)) (pg_name (i := 3) sc_Ltaste.nd rfl (by first | exact Or.inl rfl | exact Or.inr rfl)) (pss_one (ps_set (i := 2) sc_Ltaste.nd rfl (by first | exact Or.inl rfl | exact Or.inr rfl) (pe_ix (ix_k K) (pe_ix (ix_k K) (pe_dget (hu_of hr) (pv 0) pe_str (fun _ _ => rfl)) (pv 2) (fun _ _ => rfl)) (pe_bmK K PySem.F.plainAttrs_str PySem.F.slot_str_index PySem.F.type_str_index mt_sindex (pe_dget (hu_of hr) (pv 0) pe_str (fun _ _ => rfl)) (pa_cons (pv 3) pa_nil)) (fun _ _ => rfl)))))
      (pss_one (ps_ret (pv 2))))), ?rd⟩), hm, F.kp, F.bindsN fun _ _ _ _ _ _ us hl => match us, hl with | [_, _], _ => rfl, .nil⟩
  case hl =>
    obtain ⟨m, S, cs, rfl, _⟩ := h
    rfl
  case rd =>
    obtain ⟨m, S, cs, rfl, hM0, ok, hcs, q⟩ := h
    obtain ⟨tb, ev, R, L, h1, h2, h3, h4, h5, h6, h7⟩ := id hM0
    refine k_start (σ' := [some _, some _, none, none]) rfl ?_
    have t1 := ok.t1
    walk_at "g"
    refine k_nFor (walk_str (z := tx cs)) (fun i σ H' => (∃ y3, σ = [some (.ref m), some (.str (tx cs)), some (.int ((cs.take i).foldl (stepT S) 0)), y3]) ∧ H' = H) ⟨⟨_, rfl⟩, rfl⟩ (fun _ _ _ _ _ => trivial) (fun i x σ Ha Hb hi h hy => ?ht) (fun σ H' h => ?he)
    case he =>
      obtain ⟨⟨y3, rfl⟩, rfl⟩ := h
      have e : (tx cs).cps.size = cs.length := len_tx cs
      rw [e, List.take_length]
      walk_at "g"
      exact q
    case ht =>
      obtain ⟨⟨y3, rfl⟩, rfl⟩ := h
      obtain ⟨rfl, c, hc', rfl⟩ := hy
      have hci : cs[i]? = some c := by rw [← hc']; exact Array.getElem?_toList (xs := cs.toArray)
      have hcl := hcs c (List.mem_of_getElem? hci)
      obtain ⟨b0, b1⟩ := taste_in ok (cs.take i) 0 (Int.le_refl _) (by omega) fun d hd => hcs d (List.mem_of_mem_take hd)
      obtain ⟨row, er, es, _, _⟩ := stepT_ok ok b0 b1 hcl
      rw [take_more hci, List.foldl_append]
      generalize (cs.take i).foldl (stepT S) 0 = here at *
      have er2 := er
      rw [← h4, List.getElem?_map] at er2
      obtain ⟨q0, hq0, rfl⟩ := Option.map_eq_some_iff.mp er2
      walk_at "g"
      refine k_ix_l h2 (v := .ref q0.1) (at_pos b0 (by rw [List.getElem?_map, hq0]; rfl)) ?_
      walk_at "g"
      obtain ⟨rest, eo⟩ := occ_one (pos_ok hcl).1 (pos_ok hcl).2
      refine ⟨tx S.ls, ⟨#[c]⟩, pos c S.ls, rest, rfl, rfl, eo, ?_⟩
      refine k_ix_t (h3 q0 (List.mem_of_getElem? hq0)) (v := .int (stepT S here c)) (at_n (j := pos c S.ls) rfl (by rw [List.getElem?_map, es]; rfl)) ?_
      walk_at "g"
      exact ⟨⟨_, rfl⟩, rfl⟩
def spLCut (K : PySem.W.Frag) : Sp := fun vs H Q _ => ∃ (m : Addr) (S : HsD) (u : List Nat), vs = [.ref m, .str (tx u)] ∧ MAt K H m S ∧ HsOk S ∧ u.length ≤ 1000 ∧ ∀ p H', H p = none → Same H H' → H' p = some (.lst (tS (cutW S u))) → Q (.ref p) H'
theorem ok_Lcut (F : FnP K "_law_cut" s_Lcut f fd) (hm : mg "_law_cut" = some (.ref f)) (f_len : mg "len" = none) : Callee P w K mg base CX0 "_law_cut" 1 [] (spLCut K) := by
  refine ⟨f, fd, _, [], F.ok sc_Lcut (fun vs H Q E h => ?hl) (fun cdv A outer s H vs Q E hr h => ⟨_, PSs.nox (pss_cons (ps_set (i := 2) sc_Lcut.nd rfl (by first | exact Or.inl rfl | exact Or.inr rfl) (pe_lst pa_nil))
      (pss_cons (ps_set (i := 3) sc_Lcut.nd rfl (by first | exact Or.inl rfl | exact Or.inr rfl) (pv 1))
      (pss_cons (ps_while PassesOwn.never (pt_cmpR op_gt (pe_callB (call_lenK K) (by rfl) f_len PySem.boot_len (pa_cons (pv 3) pa_nil)) (pe_dget (hu_of hr) (pv 0) pe_str (fun _ _ => rfl)) (nomark _)) (pss_cons (ps_expr (pe_bmK K PySem.F.plainAttrs_list PySem.F.slot_list_append PySem.F.type_list_append mt_append (pv 2) (pa_cons (pe_slice (sl_k K) (pv 3) po_none (po_some (pe_dget (hu_of hr) (pv 0) pe_str (fun _ _ => rfl)))) pa_nil)))
      (pss_one (ps_set (i := 3) sc_Lcut.nd rfl (by first | exact Or.inl rfl | exact Or.inr rfl) (pe_slice (sl_k K) (pv 3) (po_some (pe_dget (hu_of hr) (pv 0) pe_str (fun _ _ => rfl))) po_none)))))
      (pss_one (ps_ret (pe_op (op_addK K) (pv 2) (pe_lst (pa_cons (pv 3) pa_nil)))))))), ?rd⟩), hm, F.kp, F.bindsN fun _ _ _ _ _ _ us hl => match us, hl with | [_, _], _ => rfl, .nil⟩
  case hl =>
    obtain ⟨m, S, u, rfl, _⟩ := h
    rfl
  case rd =>
    obtain ⟨m, S, u, rfl, hM, ok, lu, q⟩ := h
    refine k_start (σ' := [some _, some _, none, none]) rfl ?_
    have m1 := ok.m1
    have k1 := ok.k1
    have km := ok.km
    walk_at "g"
    refine k_nLst (by walk_at "sz") (fun p1 H1 n1 s1 e1 => ?_)
    walk_at "g"
    refine k_while (fun mm σ H' => ∃ (v : List Nat) (acc : List (List Nat)), σ = [some (.ref m), some (.str (tx u)), some (.ref p1), some (.str (tx v))] ∧ Same H H' ∧ H' p1 = some (.lst (tS acc)) ∧ acc ++ cutW S v = cutW S u ∧ mm = v.length ∧ acc.length + v.length ≤ u.length) ⟨_, u, [], rfl, s1, e1, rfl, rfl, by simp⟩ (fun mm σ H' h => ?hw)
    obtain ⟨v, acc, rfl, sa, ea, hcut, rfl, hl⟩ := h
    have lv := len_tx v
    walk_at "g"
    refine k_len_s (by omega) ?_
    walk_at "g"
    rw [lv]
    refine k_turnD (fun d => k_turnT ?_) (fun d => k_turnF ?_)
    · walk_at "g"
      refine k_sl_s (by omega) ?_
      rw [cutS_to _ _ (by omega)]
      walk_at "g"
      refine k_append ea (by rw [len_tS]; omega) ?_
      have sb : Same H (upd H' p1 (.lst (tS acc ++ [V.str (tx (v.take S.cu.toNat))]))) := sm_mut sa n1
      have eb : (upd H' p1 (.lst (tS acc ++ [V.str (tx (v.take S.cu.toNat))]))) p1 = some (.lst (tS acc ++ [V.str (tx (v.take S.cu.toNat))])) := upd_same
      generalize upd H' p1 (.lst (tS acc ++ [V.str (tx (v.take S.cu.toNat))])) = Hb at sb eb ⊢
      walk_at "g"
      refine k_sl_s (by omega) ?_
      rw [cutS_from _ _ (by omega)]
      walk_at "g"
      have ld : (v.drop S.cu.toNat).length = v.length - S.cu.toNat := List.length_drop
      refine ⟨_, ?_, v.drop S.cu.toNat, acc ++ [v.take S.cu.toNat], rfl, sb, by rw [eb, tS_app]; rfl, by rw [← hcut, cutW_more (u := v) ok (by omega), List.append_assoc]; rfl, rfl, by rw [List.length_append, ld]; show acc.length + 1 + _ ≤ _; omega⟩
      omega
    · walk_at "g"
      refine k_nLst (by walk_at "sz") (fun p2 H2 n2 s2 e2 => ?_)
      refine k_add_l (s2 _ _ ea) e2 (by rw [len_tS]; show _ + 1 ≤ _; omega) (fun p3 H3 n3 s3 e3 => ?_)
      refine q p3 H3 ((sa.trans s2).free n3) ((sa.trans s2).trans s3) ?_
      rw [e3, ← hcut, cutW_last (by omega), tS_app]
      rfl
def restF (b : Bool) (en : List Nat) (i : Nat) : List Nat := if b = true then en.drop i else en.take (en.length - i)
theorem restF_le (b : Bool) (en : List Nat) (i : Nat) : (restF b en i).length = en.length - i := by
  unfold restF
  split
  · rw [List.length_drop]
  · rw [List.length_take]
    omega
def spLGrown (K : PySem.W.Frag) : Sp := fun vs H Q _ => ∃ (m : Addr) (S : HsD) (er en : List Nat) (b : Bool), vs = [.ref m, .str (tx er), .str (tx en), .str (sdS b)] ∧ MAt K H m S ∧ HsOk S ∧ er.length ≤ 1000 ∧ en.length ≤ 1000 ∧ Q (.str (tx (growF S b er en))) H
theorem ok_Lgrown (F : FnP K "_law_grown" s_Lgrown f fd) (hm : mg "_law_grown" = some (.ref f)) (f_len : mg "len" = none) (f_range : mg "range" = none) : Callee P w K mg base CX0 "_law_grown" 1 [] (spLGrown K) := by
  refine ⟨f, fd, _, [], F.ok sc_Lgrown (fun vs H Q E h => ?hl) (fun cdv A outer s H vs Q E hr h => ⟨_, PSs.nox (pss_cons (ps_set (i := 4) sc_Lgrown.nd rfl (by first | exact Or.inl rfl | exact Or.inr rfl) (pv 2))
      (pss_cons (ps_for PassesOwn.never rfl (pi_range1 (by rfl) f_range (pa_cons (pe_dget (hu_of hr) (pv 0) pe_str (fun _ _ => rfl)) pa_nil)) (pg_name (i := 5) sc_Lgrown.nd rfl (by first | exact Or.inl rfl | exact Or.inr rfl)) (pss_one (ps_set (i := 4) sc_Lgrown.nd rfl (by first | exact Or.inl rfl | exact Or.inr rfl) (pe_ifExp (pt_cmpR (op_eqK K hr.units) (pv 3) pe_str (nomark _)) (pe_slice (sl_k K) (pv 4) (po_some pe_int) po_none) (pe_ifExp (pt_cmpR (op_neK K hr.units) (pv 4) pe_str (nomark _)) (pe_slice (sl_k K) (pv 4) po_none (po_some (pe_op op_sub (pe_callB (call_lenK K) (by rfl) f_len PySem.boot_len (pa_cons (pv 4) pa_nil)) pe_int))) pe_str)))))
      (pss_one (ps_ret (pe_ifExp (pt_cmpR (op_eqK K hr.units) (pv 3) pe_str (nomark _)) (pe_op (op_addK K) (pe_op (op_addK K) (pe_dget (hu_of hr) (pv 0) pe_str (fun _ _ => rfl)) (pv 1)) (pv 4)) (pe_op (op_addK K) (pe_op (op_addK K) (pv 4) (pv 1)) (pe_dget (hu_of hr) (pv 0) pe_str (fun _ _ => rfl)))))))), ?rd⟩), hm, F.kp, F.bindsN fun _ _ _ _ _ _ us hl => match us, hl with | [_, _, _, _], _ => rfl, .nil⟩
  case hl =>
    obtain ⟨m, S, er, en, b, rfl, _⟩ := h
    rfl
  case rd =>
    obtain ⟨m, S, er, en, b, rfl, hM, ok, l1, l2, q⟩ := h
    refine k_start (σ' := [some _, some _, some _, some _, none, none]) rfl ?_
    have c0 := ok.c0
    have c2 := ok.c2
    have p2 := ok.p2
    have lp := len_tx S.pt
    have lr := len_tx er
    walk_at "g"
    refine k_nFor walk_range (fun i σ H' => (∃ y5, σ = [some (.ref m), some (.str (tx er)), some (.str (tx en)), some (.str (sdS b)), some (.str (tx (restF b en i))), y5]) ∧ H' = H) ⟨⟨none, by unfold restF; cases b <;> simp⟩, rfl⟩ (fun _ _ _ _ _ => trivial) (fun i x σ Ha Hb hi h hy => ?ht) (fun σ H' h => ?he)
    case ht =>
      obtain ⟨⟨y5, rfl⟩, rfl⟩ := h
      obtain ⟨rfl, rfl⟩ := y_rng hy
      have lf := restF_le b en i
      have lf2 := len_tx (restF b en i)
      walk_at "g"
      rw [sdS_right]
      cases b with
      | true =>
        walk_at "g"
        refine k_sl_s (by omega) ?_
        rw [cutS_from _ _ (by decide)]
        walk_at "g"
        refine ⟨⟨some (.int (i : Nat)), ?_⟩, rfl⟩
        unfold restF
        rw [if_pos rfl, if_pos rfl, List.drop_drop]
        rfl
      | false =>
        walk_at "g"
        rw [tx_nil, tx_eq]
        refine k_dec (fun d => ?_) (fun d => ?_)
        rotate_left
        · have l0 : 0 < (restF false en i).length := List.length_pos_iff.mpr d
          walk_at "g"
          refine k_len_s (by omega) ?_
          walk_at "g"
          refine k_sl_s (by omega) ?_
          rw [lf2, cutS_to _ _ (by omega)]
          walk_at "g"
          refine ⟨⟨some (.int (i : Nat)), ?_⟩, rfl⟩
          have e : ((restF false en i).take (((restF false en i).length : Int) - 1).toNat) = restF false en (i + 1) := by
            rw [lf]
            unfold restF
            rw [if_neg (by decide), if_neg (by decide), List.take_take]
            congr 1
            omega
          rw [e]
          rfl
        · walk_at "g"
          refine ⟨⟨some (.int (i : Nat)), ?_⟩, rfl⟩
          have e : restF false en (i + 1) = [] := List.length_eq_zero_iff.mp (by rw [restF_le]; rw [d] at lf; simp at lf; omega)
          rw [e]
          rfl
    case he =>
      obtain ⟨⟨y5, rfl⟩, rfl⟩ := h
      have lf := restF_le b en S.ch.toNat
      have lf2 := len_tx (restF b en S.ch.toNat)
      walk_at "g"
      rw [sdS_right]
      unfold growF at q
      cases b with
      | true =>
        rw [if_pos rfl] at q
        walk_at "g"
        refine k_add_s (by omega) ?_
        rw [tx_app]
        walk_at "g"
        refine k_add_s (by rw [len_tx, len_tx, List.length_append]; omega) ?_
        rw [tx_app]
        unfold restF
        rw [if_pos rfl]
        exact q
      | false =>
        rw [if_neg (by decide)] at q
        walk_at "g"
        refine k_add_s (by omega) ?_
        rw [tx_app]
        walk_at "g"
        refine k_add_s (by rw [len_tx, len_tx, List.length_append]; omega) ?_
        rw [tx_app]
        unfold restF
        rw [if_neg (by decide)]
        exact q
theorem deep_trL {S : HsD} (ok : HsOk S) {ks : List (List Key)} (h : ks = S.tr) : SeqAt.shaped (.list (ks.map dKeys)) = true := by
  have e7 := ok.e7
  subst h
  refine Good.shaped (j := 3) ⟨by rw [List.length_map]; omega, fun e he => ?_⟩ (by decide)
  obtain ⟨k, hk, rfl⟩ := List.mem_map.mp he
  obtain ⟨s, a, b, rfl, h1, h2, h3, h4⟩ := ok.ev k hk
  have t4 := ok.t4
  have g : ∀ x : Int, 0 ≤ x → x < S.tb.length → x.natAbs.log2 < 1920 := fun x h0 h1 => by
    have := log_nat (k := x.toNat) (by omega)
    rwa [Int.toNat_of_nonneg h0] at this
  refine ⟨by show 3 ≤ 50000; decide, fun e he => ?_⟩
  rcases List.mem_cons.mp he with rfl | he
  · refine ⟨?_, ?_⟩ <;> cases s <;> first | exact pl_B (by decide +kernel) | decide +kernel
  rcases List.mem_cons.mp he with rfl | he
  · exact g a h1 h2
  rcases List.mem_cons.mp he with rfl | he
  · exact g b h3 h4
  cases he
def spLBehind (K : PySem.W.Frag) : Sp := fun vs H Q _ => ∃ (m r : Addr) (S : HsD) (us : List (List Nat)) (place : Int) (z : Str), vs = [.ref m, .ref r, .int place, .str z] ∧ MAt K H m S ∧ HsOk S ∧ SqL K H r (tS us) ∧ AllW S us ∧ us.length ≤ 10000 ∧ ∀ v H', Same H H' → IsOpt H H' v (behS S us place z) → Q v H'
theorem ok_Lbehind (F : FnP K "_law_behind" s_Lbehind f fd) (hm : mg "_law_behind" = some (.ref f)) (f_len : mg "len" = none) (f_min : mg "min" = none) (c_Ltaste : Callee P w K mg base CX0 "_law_taste" 1 [] (spLTaste K)) (c_Lcut : Callee P w K mg base CX0 "_law_cut" 1 [] (spLCut K)) (c_Lgrown : Callee P w K mg base CX0 "_law_grown" 1 [] (spLGrown K)) : Callee P w K mg base CX0 "_law_behind" 2 [] (spLBehind K) := by
  refine ⟨f, fd, _, [], F.ok sc_Lbehind (fun vs H Q E h => ?hl) (fun cdv A outer s H vs Q E hr h => ⟨_, PSs.nox (pss_cons (ps_set (i := 4) sc_Lbehind.nd rfl (by first | exact Or.inl rfl | exact Or.inr rfl) (pe_ifExp (pt_cmpR (op_eqK K hr.units) (pv 3) pe_str (nomark _)) (pe_op (op_addK K) (pv 2) pe_int) (pe_op op_sub (pv 2) pe_int)))
      (pss_cons (ps_if (PW.pt (pw_or (pt_not (pt_chain op_leU op_lt pe_int (pv 2) (pe_callB (call_lenK K) (by rfl) f_len PySem.boot_len (pa_cons (pv 1) pa_nil)))) (pw_or (pt_not (pt_chain op_leU op_lt pe_int (pv 4) (pe_callB (call_lenK K) (by rfl) f_len PySem.boot_len (pa_cons (pv 1) pa_nil)))) (pw_or1 (pt_cmpR (op_niK K) (pv 3) (pe_tup (pa_cons pe_str (pa_cons pe_str pa_nil))) (by rfl)))))) (pss_one (ps_ret pe_non)) pss_nil)
      (pss_cons (ps_if (pt_cmpR (op_niLD K (u65 hr)) (pe_tup (pa_cons (pv 3) (pa_cons (pe_cl c_Ltaste hr (pa_cons (pv 0) (pa_cons (pe_ix (ix_k K) (pv 1) (pv 2) (fun _ _ => rfl)) pa_nil)) pass0) (pa_cons (pe_cl c_Ltaste hr (pa_cons (pv 0) (pa_cons (pe_ix (ix_k K) (pv 1) (pv 4) (fun _ _ => rfl)) pa_nil)) pass0) pa_nil)))) (pe_dget (hu_of hr) (pv 0) pe_str (fun _ _ => rfl)) (by rfl)) (pss_one (ps_ret pe_non)) pss_nil)
      (pss_cons (ps_set (i := 5) sc_Lbehind.nd rfl (by first | exact Or.inl rfl | exact Or.inr rfl) (pe_callB call_minK (by rfl) f_min (by decide +kernel) (pa_cons (pv 2) (pa_cons (pv 4) pa_nil))))
      (pss_cons (ps_set (i := 6) sc_Lbehind.nd rfl (by first | exact Or.inl rfl | exact Or.inr rfl) (pe_op (op_addK K) (pe_op (op_addK K) (pe_slice (sl_k K) (pv 1) po_none (po_some (pv 5))) (pe_cl c_Lcut hr (pa_cons (pv 0) (pa_cons (pe_cl c_Lgrown hr (pa_cons (pv 0) (pa_cons (pe_ix (ix_k K) (pv 1) (pv 2) (fun _ _ => rfl)) (pa_cons (pe_ix (ix_k K) (pv 1) (pv 4) (fun _ _ => rfl)) (pa_cons (pv 3) pa_nil)))) pass0) pa_nil)) pass0)) (pe_slice (sl_k K) (pv 1) (po_some (pe_op (op_addK K) (pv 5) pe_int)) po_none)))
      (pss_one (ps_ret (pe_ifExp (pt_cmpR (op_eqK K hr.units) (pv 6) (pv 1) (nomark _)) pe_non (pv 6))))))))), ?rd⟩), hm, F.kp, F.bindsN fun _ _ _ _ _ _ us hl => match us, hl with | [_, _, _, _], _ => rfl, .nil⟩
  case hl =>
    obtain ⟨m, r, S, us, place, z, rfl, _⟩ := h
    rfl
  case rd =>
    obtain ⟨m, r, S, us, place, z, rfl, hM, ok, hx, hw, lu, q⟩ := h
    refine k_start (σ' := [some _, some _, some _, some _, none, none, none]) rfl ?_
    have lx := len_tS us
    have no : ∀ H', Same H H' → behS S us place z = none → Q .non H' := fun H' s e => q .non H' s (by rw [e]; exact rfl)
    rcases side_of z with ⟨sd, rfl⟩ | hz
    · rw [behS_sd] at no
      simp only [behS_sd] at q
      walk_at "g"
      rw [sdS_right]
      cases sd with
      | false =>
        have out : ¬ (0 ≤ place - 1 ∧ place - 1 + 1 < us.length) → behF S us place false = none := fun h => by
          unfold behF
          by_cases h0 : (0 : Int) ≤ place - 1
          · rw [if_pos (by exact h0)]
            exact biteF_out (by show us.length ≤ (place - 1).toNat + 1; omega)
          · rw [if_neg (by exact h0)]
        walk_at "g"
        refine k_dec (fun d1 => ?_) (fun d1 => ?_)
        rotate_left
        · walk_at "g"
          exact no _ (Same.refl _) (out (by omega))
        walk_at "g"
        rw [lx]
        refine k_dec (fun d2 => ?_) (fun d2 => ?_)
        rotate_left
        · walk_at "g"
          exact no _ (Same.refl _) (out (by omega))
        walk_at "g"
        refine k_dec (fun d3 => ?_) (fun d3 => ?_)
        rotate_left
        · walk_at "g"
          exact no _ (Same.refl _) (out (by omega))
        walk_at "g"
        rw [lx]
        refine k_dec (fun d4 => ?_) (fun d4 => ?_)
        rotate_left
        · walk_at "g"
          exact no _ (Same.refl _) (out (by omega))
        walk_at "g"
        refine k_nTup (by walk_at "sz") (fun p2 H2 n2 s2 e2 => ?_)
        walk_at "g"
        refine k_niT (sq_t e2) rfl rfl (b := false) (by rw [inV_sides]; decide +kernel) ?_
        walk_at "g"
        obtain ⟨low, hlow⟩ : ∃ low : Nat, place - 1 = (low : Int) := ⟨(place - 1).toNat, by omega⟩
        have g1 : us[low]? = some us[low] := List.getElem?_eq_getElem (by omega)
        have g2 : us[low + 1]? = some us[low + 1] := List.getElem?_eq_getElem (by omega)
        have b1 := (hw.len ok) _ (List.getElem_mem (show low < us.length by omega))
        have b2 := (hw.len ok) _ (List.getElem_mem (show low + 1 < us.length by omega))
        generalize us[low] = x at g1 b1
        generalize us[low + 1] = y at g2 b2
        have eF : behF S us place false = if eatsF S false y x = true then (if us.take low ++ madeF S false x y ++ us.drop (low + 2) = us then none else some (us.take low ++ madeF S false x y ++ us.drop (low + 2))) else none := by
          unfold behF
          rw [show (if false = true then place else place - 1) = place - 1 from rfl, if_pos (by omega), show (place - 1).toNat = low by omega, biteF_some g1 g2]
          rfl
        have ix1 : atI (tS us) place = some (.str (tx y)) := at_n (show place = ((low + 1 : Nat) : Int) by omega) (getS g2)
        have ix2 : atI (tS us) (place - 1) = some (.str (tx x)) := at_n (show place - 1 = ((low : Nat) : Int) by omega) (getS g1)
        have hm2 := hM.sm s2
        refine k_ix_l (sm_l s2 hx) ix1 ?_
        walk_at "g"
        refine ⟨m, S, y, rfl, hm2, ok, b2.2.2, ?_⟩
        walk_at "g"
        refine k_ix_l (sm_l s2 hx) ix2 ?_
        walk_at "g"
        refine ⟨m, S, x, rfl, hm2, ok, b1.2.2, ?_⟩
        walk_at "g"
        refine k_nTup (by walk_at "sz") (fun p3 H3 n3 s3 e3 => ?_)
        obtain ⟨tb, ev, R, L, h1, h2, h3, h4, h5, h6, h7⟩ := id (hm2.sm s3)
        walk_at "g"
        have tp := tasteF_in ok (u := y) b2.2.2
        have tq := tasteF_in ok (u := x) b1.2.2
        refine ⟨_, _, dp_keys (k := kEat false (tasteF S y) (tasteF S x)) (sq_t e3), .lst h5 (dp_trs h6), shaped_eat false tp.1 tp.2 tq.1 tq.2, deep_trL ok (by rw [h7]), ?_⟩
        rw [any_keys, h7]
        have hr3 : ∀ (Hx : Hp), Same H3 Hx → SqL K Hx r (tS us) := fun Hx s => sm_l s (sm_l s3 (sm_l s2 hx))
        cases he : eatsF S false y x with
        | false =>
          unfold eatsF at he
          rw [he]
          walk_at "g"
          refine no _ (s2.trans s3) ?_
          rw [eF]
          unfold eatsF
          rw [he]
          rfl
        | true =>
          rw [he, if_pos rfl] at eF
          unfold eatsF at he
          rw [he]
          walk_at "g"
          rw [show min place (place - 1) = (low : Int) by omega]
          walk_at "g"
          refine k_sl_l (hr3 _ (Same.refl _)) (fun p4 H4 n4 s4 e4 => ?_)
          rw [cutV_to, tS_take] at e4
          walk_at "g"
          refine k_ix_l (hr3 _ s4) ix1 ?_
          walk_at "g"
          refine k_ix_l (hr3 _ s4) ix2 ?_
          walk_at "g"
          refine ⟨m, S, y, x, false, rfl, hm2.sm (s3.trans s4), ok, by omega, by omega, ?_⟩
          walk_at "g"
          have lg := growF_len S false y x
          have p2 := ok.p2
          refine ⟨m, S, growF S false y x, rfl, hm2.sm (s3.trans s4), ok, by omega, fun p5 H5 n5 s5 e5 => ?_⟩
          have cw := cutW_words ok _ (growF S false y x) (Nat.le_refl _) (by omega) (growF_in ok b2.2.2 b1.2.2)
          refine k_add_l (s5 _ _ e4) e5 (by rw [len_tS, len_tS, List.length_take]; omega) (fun p6 H6 n6 s6 e6 => ?_)
          walk_at "g"
          refine k_sl_l (hr3 _ (s4.trans (s5.trans s6))) (fun p7 H7 n7 s7 e7 => ?_)
          rw [cutV_fromI _ _ (by omega), show ((low : Int) + 2).toNat = low + 2 by omega, tS_drop] at e7
          refine k_add_l (s7 _ _ e6) e7 (by rw [List.length_append, len_tS, len_tS, len_tS, List.length_take, List.length_drop]; omega) (fun p8 H8 n8 s8 e8 => ?_)
          rw [← tS_app, ← tS_app, show cutW S (growF S false y x) = madeF S false x y from rfl] at e8
          have s38 := s4.trans (s5.trans (s6.trans (s7.trans s8)))
          have sH8 : Same H H8 := (s2.trans s3).trans s38
          have n8' : H p8 = none := (s2.trans (s3.trans (s4.trans (s5.trans (s6.trans s7))))).free n8
          walk_at "g"
          refine row_eq ok hw (by omega) (made_in ok hw (by omega) cw.1) (by rw [List.length_append, List.length_append, List.length_take, List.length_drop]; have := cw.2; show _ + (cutW S (growF S false y x)).length + _ ≤ 20000; omega) (sq_l e8) (hr3 _ s38) ?_
          walk_at "g"
          refine k_dec (fun d => ?_) (fun d => ?_)
          · rw [if_pos (show us.take low ++ madeF S false x y ++ us.drop (low + 2) = us from d)] at eF
            walk_at "g"
            exact no _ sH8 eF
          · rw [if_neg (show ¬ us.take low ++ madeF S false x y ++ us.drop (low + 2) = us from d)] at eF
            walk_at "g"
            exact q _ _ sH8 (by rw [eF]; exact ⟨p8, rfl, n8', e8⟩)
      | true =>
        have out : ¬ (0 ≤ place ∧ place + 1 < us.length) → behF S us place true = none := fun h => by
          unfold behF
          by_cases h0 : (0 : Int) ≤ place
          · rw [if_pos (by exact h0)]
            exact biteF_out (by show us.length ≤ (place).toNat + 1; omega)
          · rw [if_neg (by exact h0)]
        walk_at "g"
        refine k_dec (fun d1 => ?_) (fun d1 => ?_)
        rotate_left
        · walk_at "g"
          exact no _ (Same.refl _) (out (by omega))
        walk_at "g"
        rw [lx]
        refine k_dec (fun d2 => ?_) (fun d2 => ?_)
        rotate_left
        · walk_at "g"
          exact no _ (Same.refl _) (out (by omega))
        walk_at "g"
        refine k_dec (fun d3 => ?_) (fun d3 => ?_)
        rotate_left
        · walk_at "g"
          exact no _ (Same.refl _) (out (by omega))
        walk_at "g"
        rw [lx]
        refine k_dec (fun d4 => ?_) (fun d4 => ?_)
        rotate_left
        · walk_at "g"
          exact no _ (Same.refl _) (out (by omega))
        walk_at "g"
        refine k_nTup (by walk_at "sz") (fun p2 H2 n2 s2 e2 => ?_)
        walk_at "g"
        refine k_niT (sq_t e2) rfl rfl (b := false) (by rw [inV_sides]; decide +kernel) ?_
        walk_at "g"
        obtain ⟨low, hlow⟩ : ∃ low : Nat, place = (low : Int) := ⟨(place).toNat, by omega⟩
        have g1 : us[low]? = some us[low] := List.getElem?_eq_getElem (by omega)
        have g2 : us[low + 1]? = some us[low + 1] := List.getElem?_eq_getElem (by omega)
        have b1 := (hw.len ok) _ (List.getElem_mem (show low < us.length by omega))
        have b2 := (hw.len ok) _ (List.getElem_mem (show low + 1 < us.length by omega))
        generalize us[low] = x at g1 b1
        generalize us[low + 1] = y at g2 b2
        have eF : behF S us place true = if eatsF S true x y = true then (if us.take low ++ madeF S true x y ++ us.drop (low + 2) = us then none else some (us.take low ++ madeF S true x y ++ us.drop (low + 2))) else none := by
          unfold behF
          rw [show (if true = true then place else place - 1) = place from rfl, if_pos (by omega), show (place).toNat = low by omega, biteF_some g1 g2]
          rfl
        have ix1 : atI (tS us) place = some (.str (tx x)) := at_n (show place = ((low : Nat) : Int) by omega) (getS g1)
        have ix2 : atI (tS us) (place + 1) = some (.str (tx y)) := at_n (show place + 1 = ((low + 1 : Nat) : Int) by omega) (getS g2)
        have hm2 := hM.sm s2
        refine k_ix_l (sm_l s2 hx) ix1 ?_
        walk_at "g"
        refine ⟨m, S, x, rfl, hm2, ok, b1.2.2, ?_⟩
        walk_at "g"
        refine k_ix_l (sm_l s2 hx) ix2 ?_
        walk_at "g"
        refine ⟨m, S, y, rfl, hm2, ok, b2.2.2, ?_⟩
        walk_at "g"
        refine k_nTup (by walk_at "sz") (fun p3 H3 n3 s3 e3 => ?_)
        obtain ⟨tb, ev, R, L, h1, h2, h3, h4, h5, h6, h7⟩ := id (hm2.sm s3)
        walk_at "g"
        have tp := tasteF_in ok (u := x) b1.2.2
        have tq := tasteF_in ok (u := y) b2.2.2
        refine ⟨_, _, dp_keys (k := kEat true (tasteF S x) (tasteF S y)) (sq_t e3), .lst h5 (dp_trs h6), shaped_eat true tp.1 tp.2 tq.1 tq.2, deep_trL ok (by rw [h7]), ?_⟩
        rw [any_keys, h7]
        have hr3 : ∀ (Hx : Hp), Same H3 Hx → SqL K Hx r (tS us) := fun Hx s => sm_l s (sm_l s3 (sm_l s2 hx))
        cases he : eatsF S true x y with
        | false =>
          unfold eatsF at he
          rw [he]
          walk_at "g"
          refine no _ (s2.trans s3) ?_
          rw [eF]
          unfold eatsF
          rw [he]
          rfl
        | true =>
          rw [he, if_pos rfl] at eF
          unfold eatsF at he
          rw [he]
          walk_at "g"
          rw [show min place (place + 1) = (low : Int) by omega]
          walk_at "g"
          refine k_sl_l (hr3 _ (Same.refl _)) (fun p4 H4 n4 s4 e4 => ?_)
          rw [cutV_to, tS_take] at e4
          walk_at "g"
          refine k_ix_l (hr3 _ s4) ix1 ?_
          walk_at "g"
          refine k_ix_l (hr3 _ s4) ix2 ?_
          walk_at "g"
          refine ⟨m, S, x, y, true, rfl, hm2.sm (s3.trans s4), ok, by omega, by omega, ?_⟩
          walk_at "g"
          have lg := growF_len S true x y
          have p2 := ok.p2
          refine ⟨m, S, growF S true x y, rfl, hm2.sm (s3.trans s4), ok, by omega, fun p5 H5 n5 s5 e5 => ?_⟩
          have cw := cutW_words ok _ (growF S true x y) (Nat.le_refl _) (by omega) (growF_in ok b1.2.2 b2.2.2)
          refine k_add_l (s5 _ _ e4) e5 (by rw [len_tS, len_tS, List.length_take]; omega) (fun p6 H6 n6 s6 e6 => ?_)
          walk_at "g"
          refine k_sl_l (hr3 _ (s4.trans (s5.trans s6))) (fun p7 H7 n7 s7 e7 => ?_)
          rw [cutV_fromI _ _ (by omega), show ((low : Int) + 2).toNat = low + 2 by omega, tS_drop] at e7
          refine k_add_l (s7 _ _ e6) e7 (by rw [List.length_append, len_tS, len_tS, len_tS, List.length_take, List.length_drop]; omega) (fun p8 H8 n8 s8 e8 => ?_)
          rw [← tS_app, ← tS_app, show cutW S (growF S true x y) = madeF S true x y from rfl] at e8
          have s38 := s4.trans (s5.trans (s6.trans (s7.trans s8)))
          have sH8 : Same H H8 := (s2.trans s3).trans s38
          have n8' : H p8 = none := (s2.trans (s3.trans (s4.trans (s5.trans (s6.trans s7))))).free n8
          walk_at "g"
          refine row_eq ok hw (by omega) (made_in ok hw (by omega) cw.1) (by rw [List.length_append, List.length_append, List.length_take, List.length_drop]; have := cw.2; show _ + (cutW S (growF S true x y)).length + _ ≤ 20000; omega) (sq_l e8) (hr3 _ s38) ?_
          walk_at "g"
          refine k_dec (fun d => ?_) (fun d => ?_)
          · rw [if_pos (show us.take low ++ madeF S true x y ++ us.drop (low + 2) = us from d)] at eF
            walk_at "g"
            exact no _ sH8 eF
          · rw [if_neg (show ¬ us.take low ++ madeF S true x y ++ us.drop (low + 2) = us from d)] at eF
            walk_at "g"
            exact q _ _ sH8 (by rw [eF]; exact ⟨p8, rfl, n8', e8⟩)
    · have no := fun H' s => no H' s (behS_no hz)
      walk_at "g"
      rw [decide_eq_false hz.2]
      walk_at "g"
      refine k_dec (fun d1 => ?_) (fun d1 => ?_)
      rotate_left
      · walk_at "g"
        exact no _ (Same.refl _)
      walk_at "g"
      rw [lx]
      refine k_dec (fun d2 => ?_) (fun d2 => ?_)
      rotate_left
      · walk_at "g"
        exact no _ (Same.refl _)
      walk_at "g"
      refine k_dec (fun d3 => ?_) (fun d3 => ?_)
      rotate_left
      · walk_at "g"
        exact no _ (Same.refl _)
      walk_at "g"
      rw [lx]
      refine k_dec (fun d4 => ?_) (fun d4 => ?_)
      rotate_left
      · walk_at "g"
        exact no _ (Same.refl _)
      walk_at "g"
      refine k_nTup (by walk_at "sz") (fun p2 H2 n2 s2 e2 => ?_)
      walk_at "g"
      refine k_niT (sq_t e2) rfl rfl (b := true) (by rw [inV_sides, decide_eq_false hz.1, decide_eq_false hz.2]; rfl) ?_
      walk_at "g"
      exact no _ s2
def spLBites (K : PySem.W.Frag) : Sp := fun vs H Q _ => ∃ (m r : Addr) (S : HsD) (us : List (List Nat)), vs = [.ref m, .ref r] ∧ MAt K H m S ∧ HsOk S ∧ SqL K H r (tS us) ∧ AllW S us ∧ us.length ≤ 10000 ∧ ∀ p ws H', H p = none → Same H H' → H' p = some (.lst ws) → DpAll K H' ws ((bitesF S us).map dB1) → Q (.ref p) H'
theorem ok_Lbites (F : FnP K "_law_bites" s_Lbites f fd) (hm : mg "_law_bites" = some (.ref f)) (f_len : mg "len" = none) (f_range : mg "range" = none) (c_Lbehind : Callee P w K mg base CX0 "_law_behind" 2 [] (spLBehind K)) : Callee P w K mg base CX0 "_law_bites" 3 [] (spLBites K) := by
  refine ⟨f, fd, _, [], F.ok sc_Lbites (fun vs H Q E h => ?hl) (fun cdv A outer s H vs Q E hr h => ⟨_, PSs.nox (pss_cons (ps_set (i := 2) sc_Lbites.nd rfl (by first | exact Or.inl rfl | exact Or.inr rfl) (pe_lst pa_nil))
      (pss_cons (ps_for PassesOwn.never rfl (pi_range1 (by rfl) f_range (pa_cons (pe_callB (call_lenK K) (by rfl) f_len PySem.boot_len (pa_cons (pv 1) pa_nil)) pa_nil)) (pg_name (i := 3) sc_Lbites.nd rfl (by first | exact Or.inl rfl | exact Or.inr rfl)) (pss_one (ps_set (i := 2) sc_Lbites.nd rfl (by first | exact Or.inl rfl | exact Or.inr rfl) (pe_op (op_addK K) (pv 2) (pe_lc (own := [("_law_edge", 4)]) rfl sc_Lbites.nd (pi_tupK K (pe_tup (pa_cons pe_str (pa_cons pe_str pa_nil)))) (blkOk_by (N := ["_law_m", "_law_row_here", "_law_found", "_law_place", "_law_edge"]) (sc := defScope s_Lbites) (by decide +kernel)) (fun _ _ _ _ _ => (pg_name (i := 4) sc_Lbites.nd rfl (by first | exact Or.inl rfl | exact Or.inr rfl))) (fun _ _ _ _ _ => (pts_one (pt_cmpR op_notN1 (pe_cl c_Lbehind hr (pa_cons (pv 0) (pa_cons (pv 1) (pa_cons (pv 3) (pa_cons (pv 4) pa_nil)))) pass0) pe_non (nomark _)))) (fun _ _ _ _ _ => (pe_tup (pa_cons (pv 3) (pa_cons (pv 4) pa_nil)))))))))
      (pss_one (ps_ret (pv 2))))), ?rd⟩), hm, F.kp, F.bindsN fun _ _ _ _ _ _ us hl => match us, hl with | [_, _], _ => rfl, .nil⟩
  case hl =>
    obtain ⟨m, r, S, us, rfl, _⟩ := h
    rfl
  case rd =>
    obtain ⟨m, r, S, us, rfl, hM, ok, hx, hw, lu, q⟩ := h
    refine k_start (σ' := [some _, some _, none, none, none]) rfl ?_
    have lx := len_tS us
    walk_at "g"
    refine k_nLst (by walk_at "sz") (fun p1 H1 n1 s1 e1 => ?_)
    walk_at "g"
    rw [lx]
    walk_at "g"
    refine k_nFor walk_range (fun i σ H' => (∃ p3 y3 ws, σ = [some (.ref m), some (.ref r), some (.ref p3), y3, none] ∧ H p3 = none ∧ H' p3 = some (.lst ws) ∧ DpAll K H' ws ((bitesTo S us i 0).map dB1)) ∧ Same H H') ⟨⟨p1, _, [], rfl, n1, e1, .nil⟩, s1⟩ (fun _ _ _ _ _ => trivial) (fun i x σ Ha Hb hi h hy => ?ht) (fun σ H' h => ?he)
    case he =>
      obtain ⟨⟨p3, y3, ws, rfl, np, ea, da⟩, sa⟩ := h
      walk_at "g"
      exact q p3 ws _ np sa ea (by rw [← bitesTo_all]; simpa using da)
    case ht =>
      obtain ⟨⟨p3, y3, ws, rfl, np, ea, da⟩, sa⟩ := h
      obtain ⟨rfl, rfl⟩ := y_rng hy
      have lw := dpall_len da
      rw [List.length_map] at lw
      have bl := bitesTo_len S us i 0
      walk_at "g"
      refine k_nTup (by walk_at "sz") (fun p2 H2 n2 s2 e2 => ?_)
      walk_at "g"
      refine k_nLcD (walk_tup (xs := [V.str (Str.ofString "left"), V.str (Str.ofString "right")])) (fun H' s => sq_t (s _ _ e2)) (fun j zs H1 => ∃ xs : List (Bt × List (List Nat)), DpAll K H1 zs (xs.map dB1) ∧ bitesTo S us i 0 ++ xs = bitesTo S us i j ∧ xs.length ≤ j) (fun j zs Ha Hb s h => ?hm) ⟨[], .nil, by simp, Nat.le_refl _⟩ (fun j zs H1 hj h => ?hz) (fun j x p Hc Hd zs Kp Ks hj hp sc ec hzs hy hKp hKs => ?ht2) (fun p Hc zs hp sc ec hzs => ?he2)
      case hm =>
        obtain ⟨xs, h1, h2⟩ := h
        exact ⟨xs, dpall_sm s h1, h2⟩
      case hz =>
        obtain ⟨xs, h1, h2, h3⟩ := h
        have := dpall_len h1
        rw [List.length_map] at this
        have : j ≤ 2 := hj
        omega
      case ht2 =>
        obtain ⟨rfl, hv⟩ := hy
        obtain ⟨b, hb, rfl⟩ : ∃ b, [false, true][j]? = some b ∧ x = .str (sdS b) := by
          have : j = 0 ∨ j = 1 := by
            have : j < 2 := hj
            omega
          rcases this with rfl | rfl <;> cases hv
          · exact ⟨false, rfl, rfl⟩
          · exact ⟨true, rfl, rfl⟩
        obtain ⟨xs, hx1, hx2, hx3⟩ := hzs
        have hn := bitesTo_next (S := S) (us := us) (i := i) hb
        walk_at "g"
        refine ⟨rfl, ?_⟩
        walk_at "g"
        refine ⟨m, r, S, us, (i : Nat), sdS b, rfl, by walk_at "ms", ok, by walk_at "sq", hw, lu, fun v H3 s3 hv3 => ?_⟩
        rw [behS_sd] at hv3
        cases eb : behF S us (i : Nat) b with
        | none =>
          rw [eb] at hv3 hn
          cases (show v = .non from hv3)
          walk_at "g"
          exact hKs _ s3 ⟨xs, dpall_sm (del_mono s3) hx1, by rw [hn]; exact hx2, by omega⟩
        | some mm =>
          rw [eb] at hv3 hn
          obtain ⟨pm, rfl, nm, em⟩ := hv3
          walk_at "g"
          refine k_nTup (by walk_at "sz") (fun p4 H4 n4 s4 e4 => ?_)
          refine hKp _ _ (s3.trans s4) ⟨xs ++ [((i, b), mm)], ?_, ?_, by rw [List.length_append]; exact Nat.succ_le_succ hx3⟩
          · rw [List.map_append]
            exact dpall_app (dpall_sm (del_mono (s3.trans s4)) hx1) (.tup (del_t ((s3.trans s4) _ _ ec) (sq_t e4)) (.cons (.int _) (.cons (.str _) .nil)))
          · rw [hn, ← hx2]
            exact (List.append_assoc ..).symm
      case he2 =>
        obtain ⟨xs, hx1, hx2, hx3⟩ := hzs
        have hx3 : xs.length ≤ 2 := hx3
        have hx2 : bitesTo S us i 0 ++ xs = bitesTo S us i 2 := hx2
        have lz := dpall_len hx1
        rw [List.length_map] at lz
        have eac := (s2.trans sc) _ _ ea
        refine k_add_l eac ec (by omega) (fun p5 H5 n5 s5 e5 => ?_)
        walk_at "g"
        refine ⟨⟨p5, _, ws ++ zs, rfl, (sa.trans (s2.trans sc)).free n5, e5, ?_⟩, sa.trans (s2.trans (sc.trans s5))⟩
        rw [← bitesTo_two, ← hx2, List.map_append]
        exact dpall_apps (dpall_sm (s2.trans (sc.trans s5)) da) (dpall_sm s5 hx1)
theorem words_pos {S : HsD} (ok : HsOk S) : 0 < (wordsF S.ls S.mo.toNat).length := by
  have m1 := ok.m1
  have l1 := ok.l1
  obtain ⟨c, hc⟩ : ∃ c, c ∈ S.ls := ⟨S.ls[0], List.getElem_mem (by omega)⟩
  have h : [c] ∈ wordsF S.ls S.mo.toNat := List.mem_flatMap.mpr ⟨0, List.mem_range.mpr (by omega), mem_lv _ _ _ rfl fun d hd => by rw [List.mem_singleton.mp hd]; exact hc⟩
  exact List.length_pos_of_mem h
def spLRow (K : PySem.W.Frag) : Sp := fun vs H Q _ => ∃ (b m : Addr) (S : HsD) (n : Nat), vs = [.ref b, .ref m, .int (n : Nat)] ∧ BagOk H b ∧ MAt K H m S ∧ HsOk S ∧ n ≤ 1000 ∧ ∀ us p H', AllW S us → us.length ≤ n → H p = none → Same H H' → H' p = some (.lst (tS us)) → Q (.ref p) H'
theorem ok_Lrow (F : FnP K "_law_row" s_Lrow f fd) (hm : mg "_law_row" = some (.ref f)) (f_range : mg "range" = none) (c_Lpull : Callee P w K mg base CX0 "_law_pull" 1 [] spPull) (c_Lone : Callee P w K mg base CX0 "_law_one" 2 [] (spOne K)) (c_Lwords : Callee P w K mg base CX0 "_law_words" 1 [] (spLWords K)) : Callee P w K mg base CX0 "_law_row" 3 [] (spLRow K) := by
  refine ⟨f, fd, _, [], F.ok sc_Lrow (fun vs H Q E h => ?hl) (fun cdv A outer s H vs Q E hr h => ⟨_, PSs.nox (pss_cons (ps_set (i := 3) sc_Lrow.nd rfl (by first | exact Or.inl rfl | exact Or.inr rfl) (pe_cl c_Lwords hr (pa_cons (pv 1) pa_nil) pass0))
      (pss_one (ps_ret (pe_lc (own := [("_law_k", 4)]) rfl sc_Lrow.nd (pi_range1 (by rfl) f_range (pa_cons (pe_cl c_Lpull hr (pa_cons (pv 0) (pa_cons (pe_op (op_addK K) (pv 2) pe_int) pa_nil)) pass0) pa_nil)) (blkOk_by (N := ["_law_bag_here", "_law_m", "_law_most_words", "_law_shelf", "_law_k"]) (sc := defScope s_Lrow) (by decide +kernel)) (fun _ _ _ _ _ => (pg_name (i := 4) sc_Lrow.nd rfl (by first | exact Or.inl rfl | exact Or.inr rfl))) (fun _ _ _ _ _ => pts_nil) (fun _ _ _ _ _ => (pe_cl c_Lone hr (pa_cons (pv 0) (pa_cons (pv 3) pa_nil)) pass0)))))), ?rd⟩), hm, F.kp, F.bindsN fun _ _ _ _ _ _ us hl => match us, hl with | [_, _, _], _ => rfl, .nil⟩
  case hl =>
    obtain ⟨b, m, S, n, rfl, _⟩ := h
    rfl
  case rd =>
    obtain ⟨b, m, S, n, rfl, hb, hM, ok, ln, q⟩ := h
    refine k_start (σ' := [some _, some _, some _, none, none]) rfl ?_
    have lw := words_small ok S.mo.toNat (Nat.le_refl _)
    have m3 := ok.m3
    have wp := words_pos ok
    have ltw := len_tS (wordsF S.ls S.mo.toNat)
    walk_at "g"
    refine ⟨m, S, rfl, hM, ok, fun p1 H1 n1 s1 e1 => ?_⟩
    walk_at "g"
    refine k_pull (hb.sm s1) (by omega) (by omega) (fun x x0 x1 => ?_)
    walk_at "g"
    refine k_nLc walk_range (fun _ _ => trivial) (fun i ws => ∃ us : List (List Nat), ws = tS us ∧ us.length = i ∧ AllW S us) ⟨[], rfl, rfl, fun u hu => nomatch hu⟩ (fun i ws hi h => ?hz) (fun i v Hc Hd ws Kp Ks hi sa hws hy hKp hKs => ?ht) (fun p2 H2 ws n2 s2 e2 hws => ?he)
    case hz =>
      obtain ⟨us, rfl, h2, _⟩ := h
      rw [len_tS]
      omega
    case ht =>
      obtain ⟨rfl, rfl⟩ := y_rng hy
      obtain ⟨us, rfl, h2, h3⟩ := hws
      have e1a := sa _ _ e1
      walk_at "g"
      refine ⟨rfl, ?_⟩
      walk_at "g"
      refine ⟨b, .ref p1, rfl, (hb.sm s1).sm sa, .inl ⟨p1, _, rfl, sq_l e1a, by omega, by omega, fun v hv => ?_⟩⟩
      obtain ⟨u, hu, rfl⟩ := List.mem_map.mp hv
      refine hKp _ _ (Same.refl _) ⟨us ++ [u], by rw [tS_app]; rfl, by rw [List.length_append, h2]; rfl, fun z hz => ?_⟩
      rcases List.mem_append.mp hz with hz | hz
      · exact h3 z hz
      · rw [List.mem_singleton.mp hz]
        exact hu
    case he =>
      obtain ⟨us, rfl, h2, h3⟩ := hws
      exact q us p2 H2 h3 (by omega) (s1.free n2) (s1.trans s2) e2
end
end Lw
set_option autoImplicit true
set_option pp.maxSteps 1200
set_option Elab.async false
set_option linter.all false
set_option maxRecDepth 100000
set_option maxHeartbeats 1000000
namespace Lw
open PySem PySem.Spec PyProof.Rows L2 Gk NdefX
open LamX hiding takes0

local macro_rules | `(tactic| walk_at "hp") => `(tactic| first | assumption | exact upd_same | (refine' (upd_ne ?n).trans ?h; (case n => assumption); (case h => walk_at "hp")) | (refine' sm_get ?s ?h; (case s => assumption); (case h => walk_at "hp")))
local macro_rules | `(tactic| walk_at "sq") => `(tactic| first | assumption | (refine' sq_l ?h; (case h => walk_at "hp")) | (refine' sm_l ?s ?h; (case s => assumption); (case h => walk_at "sq")))
local macro_rules | `(tactic| walk_at "st") => `(tactic| first | assumption | (refine' sq_t ?h; (case h => walk_at "hp")) | (refine' sm_t ?s ?h; (case s => assumption); (case h => walk_at "st")))
local macro_rules | `(tactic| walk_at "bg") => `(tactic| first | assumption | (refine' BagOk.sm ?s ?h; (case s => assumption); (case h => walk_at "bg")))
local macro_rules | `(tactic| walk_at "sm") => `(tactic| first | assumption | exact Same.refl _ | (refine' Same.trans ?h ?s; (case s => assumption); (case h => walk_at "sm")))
local macro_rules | `(tactic| walk_at "hs") => `(tactic| first | assumption | (refine' HsAt.sm ?s ?h; (case s => assumption); (case h => walk_at "hs")))
local macro_rules | `(tactic| walk_at "ms") => `(tactic| first | assumption | (refine' MAt.sm ?s ?h; (case s => assumption); (case h => walk_at "ms")))
local macro_rules | `(tactic| walk_at "md") => `(tactic| first | assumption | (refine' MDk.sm ?s ?h; (case s => assumption); (case h => walk_at "md")))
local macro_rules | `(tactic| walk_at "dp") => `(tactic| first | assumption | (refine' dp_sm ?s ?h; (case s => assumption); (case h => walk_at "dp")))
local macro_rules | `(tactic| walk_at "sz") => `(tactic| first | decide | assumption | omega | (simp only [List.length_cons, List.length_nil, List.length_map, List.length_append]; omega))
local macro_rules | `(tactic| walk_at "g1") => `(tactic| first
  | with_reducible refine k_seq ?_
  | with_reducible refine k_itB ?_
  | with_reducible refine k_next ?_
  | with_reducible refine k_asg ?_
  | with_reducible refine k_name ?_
  | with_reducible refine k_ret ?_
  | with_reducible refine k_retN ?_
  | with_reducible refine k_drop ?_
  | with_reducible refine k_ifs ?_
  | with_reducible refine k_brk ?_
  | with_reducible refine k_cont ?_
  | with_reducible refine k_ipI ?_
  | with_reducible refine k_test ?_
  | with_reducible refine k_tB ?_
  | with_reducible refine k_bl ?_
  | with_reducible refine k_not ?_
  | with_reducible refine k_and ?_
  | with_reducible refine k_or ?_
  | with_reducible refine k_yes ?_
  | with_reducible refine k_true ?_
  | with_reducible refine k_false ?_
  | with_reducible refine k_nt ?_
  | with_reducible refine k_c ?_
  | with_reducible refine k_op ?_
  | with_reducible refine k_un ?_
  | with_reducible refine k_if ?_
  | with_reducible refine k_chain ?_
  | with_reducible refine k_nil ?_
  | with_reducible refine k_cons ?_
  | with_reducible refine k_cb ?_
  | with_reducible refine k_call ?_
  | with_reducible refine k_callS ?_
  | with_reducible refine k_andV ?_
  | with_reducible refine k_orV ?_
  | with_reducible refine k_notV ?_
  | with_reducible refine k_lst ?_
  | with_reducible refine k_tup ?_
  | with_reducible refine k_nopart ?_
  | with_reducible refine k_part ?_
  | with_reducible refine k_nInt ?_
  | with_reducible refine k_sl ?_
  | with_reducible refine k_bm ?_
  | with_reducible refine k_bm0 ?_
  | with_reducible refine k_nTyS ?_
  | with_reducible refine k_m1 ?_
  | with_reducible refine k_m0 ?_
  | with_reducible refine k_nStr ?_
  | with_reducible refine k_I0 ?_
  | with_reducible refine k_U ?_
  | with_reducible refine k_add_i ?_
  | with_reducible refine k_eq_i ?_
  | with_reducible refine k_eq_s ?_
  | with_reducible refine k_eq_b ?_
  | with_reducible refine k_ne_i ?_
  | with_reducible refine k_ne_s ?_
  | with_reducible refine k_ne_b ?_
  | with_reducible refine k_le_i ?_
  | with_reducible refine k_le_s ?_
  | with_reducible refine k_gnil ?_
  | with_reducible refine k_gcons ?_
  | with_reducible refine k_gsub ?_
  | with_reducible refine k_for ?_
  | with_reducible refine k_lc ?_
  | with_reducible refine k_rng1 ?_
  | with_reducible refine k_rng2 ?_
  | with_reducible refine k_itl ?_
  | with_reducible refine k_itt ?_
  | with_reducible refine k_its ?_
  | with_reducible refine k_ite ?_
  | with_reducible refine k_iteB ?_
  | with_reducible refine k_lrg2 ?_
  | with_reducible refine k_itz ?_
  | with_reducible refine k_nIts ?_
  | with_reducible refine k_inS ?_
  | with_reducible refine k_niS ?_
  | with_reducible refine k_mk ?_
  | with_reducible refine k_meth ?_
  | with_reducible refine k_fld ?_
  | with_reducible refine k_sfld ?_
  | with_reducible refine k_dg ?_
  | with_reducible refine k_dp ?_
  | with_reducible refine k_pr ?_
  | with_reducible refine k_pr0 ?_
  | with_reducible refine k_sg ?_
  | with_reducible refine k_lc2 ?_
  | with_reducible refine k_callN ?_
  | with_reducible refine k_callNS ?_
  | with_reducible refine k_par ?_
  | with_reducible refine k_nPar ?_
  | with_reducible refine k_isNn ?_
  | with_reducible refine k_isNr ?_
  | with_reducible refine k_ntNn ?_
  | with_reducible refine k_ntNr ?_
  | with_reducible refine k_min2 ?_
  | with_reducible refine k_max2 ?_
  | with_reducible refine k_intB ?_
  | with_reducible refine k_intI ?_
  | with_reducible refine k_isBl ?_
  | with_reducible refine k_ntBl ?_
  | ((with_reducible refine' k_var ?kv ?_); (case kv => exact rfl))
  | ((with_reducible refine' k_aug ?kv ?_); (case kv => exact rfl))
  | ((with_reducible refine' k_ix_l ?ks ?ki ?_); (case ks => walk_at "sq"); (case ki => exact rfl))
  | ((with_reducible refine' k_ix_t ?ks ?ki ?_); (case ks => walk_at "st"); (case ki => exact rfl))
  | ((with_reducible refine' k_len_l ?ks ?_); (case ks => walk_at "sq"))
  | ((with_reducible refine' k_len_t ?ks ?_); (case ks => walk_at "st"))
  | ((with_reducible refine' k_setL ?ks ?ki ?_); (case ks => walk_at "hp"); (case ki => exact rfl))
  | ((with_reducible refine' k_nTyL ?ks ?_); (case ks => walk_at "sq"))
  | ((with_reducible refine' k_nItl ?ks ?_); (case ks => walk_at "sq"))
  | ((with_reducible refine' k_nItt ?ks ?_); (case ks => walk_at "st"))
  | ((with_reducible refine' k_nIte ?ks ?_); (case ks => walk_at "sq"))
  | ((with_reducible refine' k_mul ?km ?_); (case km => first | exact Or.inr ⟨by decide, by decide⟩ | exact Or.inl ⟨by decide, by decide⟩))
  | ((with_reducible refine' k_I ?km ?_); (case km => first | assumption | decide | exact ⟨by decide, by decide +kernel⟩ | exact ⟨by decide, by decide, by decide⟩))
  | ((with_reducible refine' k_nMeth ?kp ?kl ?_); (case kp => walk_at "hp"); (case kl => exact rfl))
  | ((with_reducible refine' k_nFld ?kp ?kc ?kn ?kl ?_); (case kp => walk_at "hp"); (case kc => assumption); (case kn => assumption); (case kl => exact rfl))
  | ((with_reducible refine' k_nSFld ?kp ?kc ?kn ?kl ?_); (case kp => walk_at "hp"); (case kc => assumption); (case kn => assumption); (case kl => exact of_decide_eq_true rfl))
  | ((with_reducible refine' k_nDg ?kp ?kl ?_); (case kp => walk_at "hp"); (case kl => exact rfl))
  | ((with_reducible refine' k_nRng1 ?k1 ?k2 ?_); (case k1 => omega); (case k2 => omega))
  | ((with_reducible refine' k_nKw ?k1 ?k2 ?_); (case k1 => exact rfl); (case k2 => exact rfl))
  | ((with_reducible refine' k_hsm ?kh ?_); (case kh => walk_at "hs"))
  | ((with_reducible refine' k_nMethH ?kh ?kl ?_); (case kh => walk_at "hs"); (case kl => exact fun _ _ => rfl))
  | ((with_reducible refine' k_mLet ?kh ?_); (case kh => walk_at "ms"))
  | ((with_reducible refine' k_mChew ?kh ?_); (case kh => walk_at "ms"))
  | ((with_reducible refine' k_mPut ?kh ?_); (case kh => walk_at "ms"))
  | ((with_reducible refine' k_mMost ?kh ?_); (case kh => walk_at "ms"))
  | ((with_reducible refine' k_mCut ?kh ?_); (case kh => walk_at "ms"))
  | ((with_reducible refine' k_mTab ?kh ?_); (case kh => walk_at "md"))
  | ((with_reducible refine' k_mEats ?kh ?_); (case kh => walk_at "md"))
  | ((with_reducible refine' k_gtup ?ks ?kl ?_); (case ks => walk_at "st"); (case kl => exact rfl)))
local macro_rules | `(tactic| walk_at "g") => `(tactic| repeat (walk_at "g1"))
local macro_rules | `(tactic| walk_at "w1") => `(tactic| first
  | walk_at "g1"
  | ((with_reducible refine' k_decT ?kp ?_); (case kp => omega))
  | ((with_reducible refine' k_decF ?kp ?_); (case kp => omega))
  | ((with_reducible refine' k_decNT ?kp ?_); (case kp => omega))
  | ((with_reducible refine' k_decNF ?kp ?_); (case kp => omega)))
local macro_rules | `(tactic| walk_at "w") => `(tactic| repeat (walk_at "w1"))

local macro_rules | `(tactic| walk_at "g1") => `(tactic| first
  | with_reducible refine k_mkP ?_
  | with_reducible refine k_din ?_
  | with_reducible refine k_dni ?_
  | with_reducible refine k_sortF ?_
  | with_reducible refine k_sortL ?_
  | with_reducible refine k_itk ?_
  | with_reducible refine k_revL ?_)


section
variable {P : Program} {w : World} {K : PySem.W.Frag} {mg : Str → Option Value} {base : Heap} {f : Addr} {fd : FuncData}
abbrev TbA (K : PySem.W.Frag) (H : Hp) : Prop := Tabs (TT K) H
def spLawU (K : PySem.W.Frag) : Sp := fun vs H Q _ => ∃ (a : Addr) (ns : List Int), vs = [.ref a] ∧ SqL K H a (ns.map V.int) ∧ ns.length ≤ 63 ∧ (∀ p ∈ TT K, H p.1 = some (.tbl #[])) ∧ ∀ H', Q (.bl true) H'
theorem tbA0 {H : Hp} (h : ∀ p ∈ TT K, H p.1 = some (.tbl #[])) : TbA K H := fun p hp => TabS.nil (h p hp)
/-! ### the law's ranks -/
abbrev RlT : Type := Int × List (Int × Str)
def rlO (us : List (List Nat)) : RlT := ((us.length : Int), us.map wrkO)
theorem rk_same (a b : List (List Nat)) : PySem.W.DatumOrd.lt (rkO a) (rkO b) = PySem.W.DatumOrd.lt (rlO a) (rlO b) := by
  show (if ((a.length : Int)) = (b.length : Int) then PySem.W.listLt (a.map wrkO) (b.map wrkO) else decide ((a.length : Int) < (b.length : Int))) = (if ((a.length : Int)) = (b.length : Int) then PySem.W.listLt (a.map wrkO) (b.map wrkO) else decide ((a.length : Int) < (b.length : Int)))
  rfl
def spLRank (K : PySem.W.Frag) : Sp := fun vs H Q _ => ∃ (r : Addr) (us : List (List Nat)) (tq : Bool), vs = [.ref r] ∧ SqB K tq H r (tS us) ∧ us.length ≤ 20000 ∧ (∀ u ∈ us, u.length ≤ 1000) ∧ ∀ v H', Same H H' → (∀ p xs, H p = some (.lst xs) → Dp K (del H' p) v (PySem.W.Datum.toD (rlO us))) → Dp K H' v (PySem.W.Datum.toD (rlO us)) → Q v H'
theorem dwr_del {H : Hp} {p : Addr} {ys : List V} (hp : H p = some (.lst ys)) : ∀ {L : List (List Nat)} {ws : List V}, DpAll K H ws (L.map fun u => PySem.W.Datum.toD (wrkO u)) → DpAll K (del H p) ws (L.map fun u => PySem.W.Datum.toD (wrkO u))
  | [], _, .nil => .nil
  | x :: L, _, .cons h t => by
    obtain ⟨t', a, b, rfl, h1, h2, h3⟩ := dp_tup2I h
    cases dp_intI h2
    cases dp_strI h3
    exact .cons (.tup (del_t hp h1) (.cons (.int _) (.cons (.str _) .nil))) (dwr_del hp t)
theorem ok_Lrank (F : FnP K "_law_rank" s_Lrank f fd) (hm : mg "_law_rank" = some (.ref f)) (f_len : mg "len" = none) : Callee P w K mg base CX0 "_law_rank" 1 [] (spLRank K) := by
  refine ⟨f, fd, _, [], F.ok sc_Lrank (fun vs H Q E h => ?hl) (fun cdv A outer s H vs Q E hr h => ⟨_, PSs.nox (pss_one (ps_ret (pe_tup (pa_cons (pe_callB (call_lenK K) (by rfl) f_len PySem.boot_len (pa_cons (pv 0) pa_nil)) (pa_cons (pe_lc (own := [("_law_word", 1)]) rfl sc_Lrank.nd (pi_anyK K (pv 0)) (blkOk_by (N := ["_law_row_here", "_law_word"]) (sc := defScope s_Lrank) (by decide +kernel)) (fun _ _ _ _ _ => (pg_name (i := 1) sc_Lrank.nd rfl (by first | exact Or.inl rfl | exact Or.inr rfl))) (fun _ _ _ _ _ => pts_nil) (fun _ _ _ _ _ => (pe_tup (pa_cons (pe_callB (call_lenK K) (by rfl) f_len PySem.boot_len (pa_cons (pv 1) pa_nil)) (pa_cons (pv 1) pa_nil))))) pa_nil))))), ?rd⟩), hm, F.kp, F.bindsN fun _ _ _ _ _ _ us hl => match us, hl with | [_], _ => rfl, .nil⟩
  case hl =>
    obtain ⟨r, us, tq, rfl, _⟩ := h
    rfl
  case rd =>
    obtain ⟨r, us, tq, rfl, hx, lu, lw, q⟩ := h
    refine k_start (σ' := [some _, none]) rfl ?_
    walk_at "g"
    refine k_len_b hx ?_
    walk_at "g"
    refine k_nItB hx ?_
    refine k_nLcD (walk_listB (xs := tS us)) (fun H' s => sm_b s hx) (fun i zs H1 => DpAll K H1 zs ((us.take i).map fun u => PySem.W.Datum.toD (wrkO u))) (fun i zs Ha Hb s h => dpall_sm s h) .nil (fun i zs Ha hi h => ?hz) (fun i x p Ha Hb zs Kp Ks hi hp sa ea hzs hy hKp hKs => ?ht) (fun p Hb zs hp sb eb hzs => ?he)
    case hz =>
      have := dpall_len h
      rw [List.length_map, List.length_take] at this
      omega
    case ht =>
      obtain ⟨rfl, hv⟩ := hy
      obtain ⟨u, hu, rfl⟩ := map_get hv
      have lu2 := lw u (List.mem_of_getElem? hu)
      walk_at "g"
      refine ⟨rfl, ?_⟩
      walk_at "g"
      refine k_len_s (by rw [len_tx]; omega) ?_
      walk_at "g"
      refine k_nTup (by walk_at "sz") (fun T H5 n5 s5 e5 => ?_)
      rw [len_tx] at e5
      refine hKp _ _ s5 ?_
      rw [take_more hu, List.map_append]
      have nTp : T ≠ p := fun z => by rw [z, ea] at n5; cases n5
      refine dpall_app (dpall_sm (del_mono s5) hzs) (.tup (sq_t (by rw [del_ne nTp]; exact e5)) (.cons (.int _) (.cons (.str _) .nil)))
    case he =>
      rw [len_tS, List.take_length] at hzs
      walk_at "g"
      refine k_nTup (by walk_at "sz") (fun T H3 n3 s3 e3 => ?_)
      rw [len_tS] at e3
      have el : ∀ Hx : Hp, DpAll K Hx zs (us.map fun u => PySem.W.Datum.toD (wrkO u)) → DpAll K Hx zs ((us.map wrkO).map PySem.W.Datum.toD) := fun Hx h => by
        rw [List.map_map]
        exact h
      refine q _ _ (sb.trans s3) (fun pq xs hpq => .tup (del_t ((sb.trans s3) _ _ hpq) (sq_t e3)) (.cons (.int _) (.cons (.lst (sq_l (by rw [del_ne (fun z => by rw [z] at hp; rw [hp] at hpq; cases hpq)]; exact s3 _ _ eb)) (el _ (dwr_del ((sb.trans s3) _ _ hpq) (dpall_sm s3 hzs)))) .nil))) (.tup (sq_t e3) (.cons (.int _) (.cons (.lst (sq_l (s3 _ _ eb)) ?_) .nil)))
      show DpAll K H3 zs ((us.map wrkO).map PySem.W.Datum.toD)
      rw [List.map_map]
      exact dpall_sm s3 hzs
end
end Lw
namespace Lw
open PySem PySem.Spec PyProof.Rows L2 Gk
open LamX hiding takes0

local macro_rules | `(tactic| walk_at "hp") => `(tactic| first | assumption | exact upd_same | (refine' (upd_ne ?n).trans ?h; (case n => assumption); (case h => walk_at "hp")) | (refine' sm_get ?s ?h; (case s => assumption); (case h => walk_at "hp")))
local macro_rules | `(tactic| walk_at "sq") => `(tactic| first | assumption | (refine' sq_l ?h; (case h => walk_at "hp")) | (refine' sm_l ?s ?h; (case s => assumption); (case h => walk_at "sq")))
local macro_rules | `(tactic| walk_at "st") => `(tactic| first | assumption | (refine' sq_t ?h; (case h => walk_at "hp")) | (refine' sm_t ?s ?h; (case s => assumption); (case h => walk_at "st")))
local macro_rules | `(tactic| walk_at "bg") => `(tactic| first | assumption | (refine' BagOk.sm ?s ?h; (case s => assumption); (case h => walk_at "bg")))
local macro_rules | `(tactic| walk_at "sm") => `(tactic| first | assumption | exact Same.refl _ | (refine' Same.trans ?h ?s; (case s => assumption); (case h => walk_at "sm")))
local macro_rules | `(tactic| walk_at "hs") => `(tactic| first | assumption | (refine' HsAt.sm ?s ?h; (case s => assumption); (case h => walk_at "hs")))
local macro_rules | `(tactic| walk_at "ms") => `(tactic| first | assumption | (refine' MAt.sm ?s ?h; (case s => assumption); (case h => walk_at "ms")))
local macro_rules | `(tactic| walk_at "md") => `(tactic| first | assumption | (refine' MDk.sm ?s ?h; (case s => assumption); (case h => walk_at "md")))
local macro_rules | `(tactic| walk_at "dp") => `(tactic| first | assumption | (refine' dp_sm ?s ?h; (case s => assumption); (case h => walk_at "dp")))
local macro_rules | `(tactic| walk_at "sz") => `(tactic| first | decide | assumption | omega | (simp only [List.length_cons, List.length_nil, List.length_map, List.length_append]; omega))
local macro_rules | `(tactic| walk_at "g1") => `(tactic| first
  | with_reducible refine k_seq ?_
  | with_reducible refine k_itB ?_
  | with_reducible refine k_next ?_
  | with_reducible refine k_asg ?_
  | with_reducible refine k_name ?_
  | with_reducible refine k_ret ?_
  | with_reducible refine k_retN ?_
  | with_reducible refine k_drop ?_
  | with_reducible refine k_ifs ?_
  | with_reducible refine k_brk ?_
  | with_reducible refine k_cont ?_
  | with_reducible refine k_ipI ?_
  | with_reducible refine k_test ?_
  | with_reducible refine k_tB ?_
  | with_reducible refine k_bl ?_
  | with_reducible refine k_not ?_
  | with_reducible refine k_and ?_
  | with_reducible refine k_or ?_
  | with_reducible refine k_yes ?_
  | with_reducible refine k_true ?_
  | with_reducible refine k_false ?_
  | with_reducible refine k_nt ?_
  | with_reducible refine k_c ?_
  | with_reducible refine k_op ?_
  | with_reducible refine k_un ?_
  | with_reducible refine k_if ?_
  | with_reducible refine k_chain ?_
  | with_reducible refine k_nil ?_
  | with_reducible refine k_cons ?_
  | with_reducible refine k_cb ?_
  | with_reducible refine k_call ?_
  | with_reducible refine k_callS ?_
  | with_reducible refine k_andV ?_
  | with_reducible refine k_orV ?_
  | with_reducible refine k_notV ?_
  | with_reducible refine k_lst ?_
  | with_reducible refine k_tup ?_
  | with_reducible refine k_nopart ?_
  | with_reducible refine k_part ?_
  | with_reducible refine k_nInt ?_
  | with_reducible refine k_sl ?_
  | with_reducible refine k_bm ?_
  | with_reducible refine k_bm0 ?_
  | with_reducible refine k_nTyS ?_
  | with_reducible refine k_m1 ?_
  | with_reducible refine k_m0 ?_
  | with_reducible refine k_nStr ?_
  | with_reducible refine k_I0 ?_
  | with_reducible refine k_U ?_
  | with_reducible refine k_add_i ?_
  | with_reducible refine k_eq_i ?_
  | with_reducible refine k_eq_s ?_
  | with_reducible refine k_eq_b ?_
  | with_reducible refine k_ne_i ?_
  | with_reducible refine k_ne_s ?_
  | with_reducible refine k_ne_b ?_
  | with_reducible refine k_le_i ?_
  | with_reducible refine k_le_s ?_
  | with_reducible refine k_gnil ?_
  | with_reducible refine k_gcons ?_
  | with_reducible refine k_gsub ?_
  | with_reducible refine k_for ?_
  | with_reducible refine k_lc ?_
  | with_reducible refine k_rng1 ?_
  | with_reducible refine k_rng2 ?_
  | with_reducible refine k_itl ?_
  | with_reducible refine k_itt ?_
  | with_reducible refine k_its ?_
  | with_reducible refine k_ite ?_
  | with_reducible refine k_iteB ?_
  | with_reducible refine k_lrg2 ?_
  | with_reducible refine k_itz ?_
  | with_reducible refine k_nIts ?_
  | with_reducible refine k_inS ?_
  | with_reducible refine k_niS ?_
  | with_reducible refine k_mk ?_
  | with_reducible refine k_meth ?_
  | with_reducible refine k_fld ?_
  | with_reducible refine k_sfld ?_
  | with_reducible refine k_dg ?_
  | with_reducible refine k_dp ?_
  | with_reducible refine k_pr ?_
  | with_reducible refine k_pr0 ?_
  | with_reducible refine k_sg ?_
  | with_reducible refine k_lc2 ?_
  | with_reducible refine k_callN ?_
  | with_reducible refine k_callNS ?_
  | with_reducible refine k_par ?_
  | with_reducible refine k_nPar ?_
  | with_reducible refine k_isNn ?_
  | with_reducible refine k_isNr ?_
  | with_reducible refine k_ntNn ?_
  | with_reducible refine k_ntNr ?_
  | with_reducible refine k_min2 ?_
  | with_reducible refine k_max2 ?_
  | with_reducible refine k_intB ?_
  | with_reducible refine k_intI ?_
  | with_reducible refine k_isBl ?_
  | with_reducible refine k_ntBl ?_
  | ((with_reducible refine' k_var ?kv ?_); (case kv => exact rfl))
  | ((with_reducible refine' k_aug ?kv ?_); (case kv => exact rfl))
  | ((with_reducible refine' k_ix_l ?ks ?ki ?_); (case ks => walk_at "sq"); (case ki => exact rfl))
  | ((with_reducible refine' k_ix_t ?ks ?ki ?_); (case ks => walk_at "st"); (case ki => exact rfl))
  | ((with_reducible refine' k_len_l ?ks ?_); (case ks => walk_at "sq"))
  | ((with_reducible refine' k_len_t ?ks ?_); (case ks => walk_at "st"))
  | ((with_reducible refine' k_setL ?ks ?ki ?_); (case ks => walk_at "hp"); (case ki => exact rfl))
  | ((with_reducible refine' k_nTyL ?ks ?_); (case ks => walk_at "sq"))
  | ((with_reducible refine' k_nItl ?ks ?_); (case ks => walk_at "sq"))
  | ((with_reducible refine' k_nItt ?ks ?_); (case ks => walk_at "st"))
  | ((with_reducible refine' k_nIte ?ks ?_); (case ks => walk_at "sq"))
  | ((with_reducible refine' k_mul ?km ?_); (case km => first | exact Or.inr ⟨by decide, by decide⟩ | exact Or.inl ⟨by decide, by decide⟩))
  | ((with_reducible refine' k_I ?km ?_); (case km => first | assumption | decide | exact ⟨by decide, by decide +kernel⟩ | exact ⟨by decide, by decide, by decide⟩))
  | ((with_reducible refine' k_nMeth ?kp ?kl ?_); (case kp => walk_at "hp"); (case kl => exact rfl))
  | ((with_reducible refine' k_nFld ?kp ?kc ?kn ?kl ?_); (case kp => walk_at "hp"); (case kc => assumption); (case kn => assumption); (case kl => exact rfl))
  | ((with_reducible refine' k_nSFld ?kp ?kc ?kn ?kl ?_); (case kp => walk_at "hp"); (case kc => assumption); (case kn => assumption); (case kl => exact of_decide_eq_true rfl))
  | ((with_reducible refine' k_nDg ?kp ?kl ?_); (case kp => walk_at "hp"); (case kl => exact rfl))
  | ((with_reducible refine' k_nRng1 ?k1 ?k2 ?_); (case k1 => omega); (case k2 => omega))
  | ((with_reducible refine' k_nKw ?k1 ?k2 ?_); (case k1 => exact rfl); (case k2 => exact rfl))
  | ((with_reducible refine' k_hsm ?kh ?_); (case kh => walk_at "hs"))
  | ((with_reducible refine' k_nMethH ?kh ?kl ?_); (case kh => walk_at "hs"); (case kl => exact fun _ _ => rfl))
  | ((with_reducible refine' k_mLet ?kh ?_); (case kh => walk_at "ms"))
  | ((with_reducible refine' k_mChew ?kh ?_); (case kh => walk_at "ms"))
  | ((with_reducible refine' k_mPut ?kh ?_); (case kh => walk_at "ms"))
  | ((with_reducible refine' k_mMost ?kh ?_); (case kh => walk_at "ms"))
  | ((with_reducible refine' k_mCut ?kh ?_); (case kh => walk_at "ms"))
  | ((with_reducible refine' k_mTab ?kh ?_); (case kh => walk_at "md"))
  | ((with_reducible refine' k_mEats ?kh ?_); (case kh => walk_at "md"))
  | ((with_reducible refine' k_gtup ?ks ?kl ?_); (case ks => walk_at "st"); (case kl => exact rfl)))
local macro_rules | `(tactic| walk_at "g") => `(tactic| repeat (walk_at "g1"))
local macro_rules | `(tactic| walk_at "w1") => `(tactic| first
  | walk_at "g1"
  | ((with_reducible refine' k_decT ?kp ?_); (case kp => omega))
  | ((with_reducible refine' k_decF ?kp ?_); (case kp => omega))
  | ((with_reducible refine' k_decNT ?kp ?_); (case kp => omega))
  | ((with_reducible refine' k_decNF ?kp ?_); (case kp => omega)))
local macro_rules | `(tactic| walk_at "w") => `(tactic| repeat (walk_at "w1"))


section
variable {P : Program} {w : World} {K : PySem.W.Frag} {mg : Str → Option Value} {base : Heap} {f : Addr} {fd : FuncData}
/-! ### behind a lambda -/
theorem HsAt.ext {H H' : Hp} {a : Addr} {S : HsD} (s : ExtN H H') (h : HsAt K H a S) : HsAt K H' a S := by
  obtain ⟨dx, r, t, R, L, h1, h2, h3, h4, h5, h6, h7, h8, h9⟩ := h
  exact ⟨dx, r, t, R, L, s _ _ h1 (fun ps z => by cases z), ext_t s h2, fun q hq => ext_t s (h3 q hq), h4, ext_t s h5, fun q hq => ext_t s (h6 q hq), h7, h8, h9⟩
theorem MAt.ext {H H' : Hp} {m : Addr} {S : HsD} (s : ExtN H H') (h : MAt K H m S) : MAt K H' m S := by
  obtain ⟨tb, ev, R, L, h1, h2, h3, h4, h5, h6, h7⟩ := h
  obtain ⟨kvs, k0, k1⟩ := h1.ex
  exact ⟨tb, ev, R, L, ⟨kvs, s _ _ k0 (fun ps z => by cases z), k1⟩, ext_l s h2, fun q hq => ext_t s (h3 q hq), h4, ext_l s h5, fun q hq => ext_t s (h6 q hq), h7⟩
end
end Lw
namespace Lw
open PySem PySem.Spec PyProof.Rows L2 Gk NdefX
open LamX hiding takes0
section
variable {K : PySem.W.Frag}
/-! ### while a dict is gone through: what else stands in the heap -/
section
variable {H H1 : Hp} {d : Addr} {od : Obj} {kvs : List (List Key × V)}
end
mutual
theorem dp_ext {H H' : Hp} (e : ExtN H H') : ∀ {v : V} {d : PyData}, Dp K H v d → Dp K H' v d
  | _, _, .non => .non
  | _, _, .bl b => .bl b
  | _, _, .int i => .int i
  | _, _, .str x => .str x
  | _, _, .lst h r => .lst (ext_l e h) (dpall_ext e r)
  | _, _, .tup h r => .tup (ext_t e h) (dpall_ext e r)
theorem dpall_ext {H H' : Hp} (e : ExtN H H') : ∀ {vs : List V} {ds : List PyData}, DpAll K H vs ds → DpAll K H' vs ds
  | _, _, .nil => .nil
  | _, _, .cons h r => .cons (dp_ext e h) (dpall_ext e r)
end
theorem tabs_mut {T : List (Addr × Str)} {H : Hp} {a : Addr} {u o : HO} (ha : H a = some u) (n1 : ∀ ps, u ≠ .tbl ps) (n2 : ∀ φ, u ≠ .ext φ) (t : Tabs T H) : Tabs T (upd H a o) := fun p hp => by
  obtain ⟨ps, h1, h2, h3⟩ := t p hp
  refine ⟨ps, by rw [upd_ne (ne_of h1 ha (fun z => n1 ps z.symm))]; exact h1, h2, fun pos cv hc => ?_⟩
  obtain ⟨c, e1, e2⟩ := h3 pos cv hc
  exact ⟨c, e1, by rw [upd_ne (ne_of e2 ha (fun z => n2 _ (by unfold CodeO at z; exact z.symm)))]; exact e2⟩
end
end Lw
namespace Lw
open PySem PySem.Spec PyProof.Rows L2 Gk NdefX
open LamX hiding takes0
section
variable {P : Program} {w : World} {K : PySem.W.Frag} {mg : Str → Option Value} {base : Heap} {f : Addr} {fd : FuncData}
/-! ### told rows as data -/
def dCn (c : Cnd) : PyData := .tuple [dRow c.1, .int (c.2.1 : Nat), .str (sdS c.2.2)]
theorem lead_len {S : HsD} {row : List (List Nat)} {c : Cnd} (h : leadsF S row c) : c.1.length ≤ row.length + 1 ∧ c.2.1 < c.1.length := by
  obtain ⟨A, x, y, C, e, el, em⟩ := beh_split h
  have := made_len (S := S) c.2.2 x y
  have e2 := congrArg List.length em
  rw [List.length_append, List.length_append] at e2
  rw [e, List.length_append, List.length_cons, List.length_cons]
  refine ⟨by omega, ?_⟩
  revert el
  cases c.2.2 with
  | true =>
    intro el
    have : ((c.2.1 : Nat) : Int) = (A.length : Int) := el
    omega
  | false =>
    intro el
    have : ((c.2.1 : Nat) : Int) - 1 = (A.length : Int) := el
    omega
theorem good_cn {S : HsD} (ok : HsOk S) {row : List (List Nat)} (lr : row.length ≤ 1000) {c : Cnd} (h : AllW S c.1 ∧ leadsF S row c) : Good 3 (dCn c) := by
  obtain ⟨l1, l2⟩ := lead_len h.2
  refine ⟨by show 3 ≤ 50000; decide, fun e he => ?_⟩
  rcases List.mem_cons.mp he with rfl | he
  · exact (good_allW ok h.1 (by omega) 0)
  rcases List.mem_cons.mp he with rfl | he
  · exact log_nat (k := c.2.1) (by omega)
  rcases List.mem_cons.mp he with rfl | he
  · refine ⟨?_, ?_⟩ <;> cases c.2.2 <;> first | exact pl_B (by decide +kernel) | decide +kernel
  cases he
theorem good_cns {S : HsD} (ok : HsOk S) {row : List (List Nat)} (lr : row.length ≤ 1000) {L : List Cnd} (hA : Aheads S row L) (hL : L.length ≤ 33600) : Good 4 (.list (L.map dCn)) := ⟨by rw [List.length_map]; omega, fun e he => by
  obtain ⟨c, hc, rfl⟩ := List.mem_map.mp he
  exact good_cn ok lr ((hA.mem c).mp hc)⟩
theorem AhAt.dp {H0 H : Hp} {v : V} {c : Cnd} (h : AhAt K H0 H v c) : Dp K H v (dCn c) := by
  obtain ⟨t, tr, rfl, h1, h2, _⟩ := h
  exact .tup h1 (.cons (.lst (sq_l h2) (dp_tS _)) (.cons (.int _) (.cons (.str _) .nil)))
theorem ah_dps {H0 H : Hp} : ∀ {ws : List V} {L : List Cnd}, Paired (AhAt K H0 H) ws L → DpAll K H ws (L.map dCn)
  | _, _, .nil => .nil
  | _, _, .cons r t => .cons r.dp (ah_dps t)
/-! ### all rows of so many words -/
theorem lv_nodup {ls : List Nat} (h : ls.Nodup) : ∀ n, (lv ls n).Nodup
  | 0 => List.pairwise_singleton _ _
  | n + 1 => by
    show ((lv ls n).flatMap _).Nodup
    refine List.pairwise_flatMap.mpr ⟨fun u _ => List.pairwise_map.mpr (h.imp fun ne e => ne (by simpa using e)), (lv_nodup h n).imp fun {u v} ne x hx y hy e => ne ?_⟩
    obtain ⟨c, _, rfl⟩ := List.mem_map.mp hx
    obtain ⟨d, _, rfl⟩ := List.mem_map.mp hy
    exact (List.append_inj' e rfl).1
theorem words_nodup {S : HsD} (ok : HsOk S) : (wordsF S.ls S.mo.toNat).Nodup := by
  refine List.pairwise_flatMap.mpr ⟨fun i _ => lv_nodup (rise_nodup ok.rise) (i + 1), List.nodup_range.imp fun {i j} ne x hx y hy e => ne ?_⟩
  have h1 := (lv_ok S.ls (i + 1) x hx).1
  have h2 := (lv_ok S.ls (j + 1) y hy).1
  rw [e] at h1
  omega
def rwN (W : List (List Nat)) : Nat → List (List (List Nat))
  | 0 => [[]]
  | n + 1 => (rwN W n).flatMap fun r => W.map fun u => r ++ [u]
theorem rwN_mem (W : List (List Nat)) : ∀ (n : Nat) (r : List (List Nat)), r ∈ rwN W n ↔ r.length = n ∧ ∀ u ∈ r, u ∈ W
  | 0, r => by
    show r ∈ [[]] ↔ _
    rw [List.mem_singleton]
    exact ⟨fun e => by rw [e]; exact ⟨rfl, fun u h => nomatch h⟩, fun h => List.length_eq_zero_iff.mp h.1⟩
  | n + 1, r => by
    show r ∈ (rwN W n).flatMap _ ↔ _
    rw [List.mem_flatMap]
    constructor
    · rintro ⟨s, hs, h⟩
      obtain ⟨u, hu, rfl⟩ := List.mem_map.mp h
      obtain ⟨h1, h2⟩ := (rwN_mem W n s).mp hs
      refine ⟨by rw [List.length_append, h1]; rfl, fun v hv => ?_⟩
      rcases List.mem_append.mp hv with hv | hv
      · exact h2 v hv
      · rw [List.mem_singleton.mp hv]; exact hu
    · rintro ⟨h1, h2⟩
      have hne : r ≠ [] := fun e => by rw [e] at h1; cases h1
      refine ⟨r.dropLast, (rwN_mem W n _).mpr ⟨by rw [List.length_dropLast, h1]; rfl, fun u hu => h2 u (List.dropLast_subset r hu)⟩, List.mem_map.mpr ⟨r.getLast hne, h2 _ (List.getLast_mem hne), List.dropLast_concat_getLast hne⟩⟩
theorem rwN_nodup {W : List (List Nat)} (h : W.Nodup) : ∀ n, (rwN W n).Nodup
  | 0 => List.pairwise_singleton _ _
  | n + 1 => by
    show ((rwN W n).flatMap _).Nodup
    refine List.pairwise_flatMap.mpr ⟨fun u _ => List.pairwise_map.mpr (h.imp fun ne e => ne (by simpa using e)), (rwN_nodup h n).imp fun {u v} ne x hx y hy e => ne ?_⟩
    obtain ⟨c, _, rfl⟩ := List.mem_map.mp hx
    obtain ⟨d, _, rfl⟩ := List.mem_map.mp hy
    exact (List.append_inj' e rfl).1
theorem rwN_len (W : List (List Nat)) : ∀ n, (rwN W n).length = W.length ^ n
  | 0 => rfl
  | n + 1 => by
    show ((rwN W n).flatMap fun r => W.map fun u => r ++ [u]).length = _
    rw [List.length_flatMap]
    have : (rwN W n).map (fun r => (W.map fun u => r ++ [u]).length) = (rwN W n).map fun _ => W.length := List.map_congr_left fun r _ => List.length_map _
    rw [this, List.map_const', List.sum_replicate_nat, rwN_len W n, Nat.pow_succ]
theorem rwN_small {W : List (List Nat)} (h : W.length ≤ 14) {n : Nat} (hn : n ≤ 4) : (rwN W n).length ≤ 38416 := by
  rw [rwN_len]
  calc W.length ^ n ≤ 14 ^ n := Nat.pow_le_pow_left h n
    _ ≤ 14 ^ 4 := Nat.pow_le_pow_right (by decide) hn
    _ = 38416 := by decide
theorem btAt_fst (S : HsD) (us : List (List Nat)) (i : Nat) : ((btAt S us i).map (·.1)).Nodup ∧ ∀ x ∈ (btAt S us i).map (·.1), x.1 = i := by
  have hs : ∀ l : List Bool, l.Nodup → ((l.filterMap fun b => (behF S us (i : Nat) b).map fun m => ((i, b), m)).map (·.1)).Nodup ∧ ∀ x ∈ (l.filterMap fun b => (behF S us (i : Nat) b).map fun m => ((i, b), m)).map (·.1), x.1 = i ∧ x.2 ∈ l := by
    intro l
    induction l with
    | nil => exact fun _ => ⟨List.nodup_nil, fun x h => nomatch h⟩
    | cons b l ih =>
      intro nd
      obtain ⟨n1, n2⟩ := List.nodup_cons.mp nd
      obtain ⟨h1, h2⟩ := ih n2
      cases e : behF S us (i : Nat) b with
      | none =>
        rw [List.filterMap_cons, e]
        exact ⟨h1, fun x hx => ⟨(h2 x hx).1, List.mem_cons_of_mem _ (h2 x hx).2⟩⟩
      | some m =>
        rw [List.filterMap_cons, e]
        refine ⟨List.nodup_cons.mpr ⟨fun h => n1 (h2 _ h).2, h1⟩, fun x hx => ?_⟩
        rcases List.mem_cons.mp hx with rfl | hx
        · exact ⟨rfl, List.mem_cons_self⟩
        · exact ⟨(h2 x hx).1, List.mem_cons_of_mem _ (h2 x hx).2⟩
  obtain ⟨h1, h2⟩ := hs [false, true] (by decide)
  exact ⟨h1, fun x hx => (h2 x hx).1⟩
theorem bites_fst (S : HsD) (us : List (List Nat)) : ((bitesF S us).map (·.1)).Nodup := by
  have h : ∀ n, (((List.range n).flatMap (btAt S us)).map (·.1)).Nodup ∧ ∀ x ∈ ((List.range n).flatMap (btAt S us)).map (·.1), x.1 < n := by
    intro n
    induction n with
    | zero => exact ⟨List.nodup_nil, fun x h => nomatch h⟩
    | succ n ih =>
      obtain ⟨h1, h2⟩ := ih
      obtain ⟨h3, h4⟩ := btAt_fst S us n
      rw [List.range_succ, List.flatMap_append, List.map_append]
      simp only [List.flatMap_cons, List.flatMap_nil, List.append_nil]
      refine ⟨List.nodup_append.mpr ⟨h1, h3, fun a ha b hb e => ?_⟩, fun x hx => ?_⟩
      · have := h2 a ha
        rw [e, h4 b hb] at this
        exact Nat.lt_irrefl _ this
      · rcases List.mem_append.mp hx with hx | hx
        · exact Nat.lt_succ_of_lt (h2 x hx)
        · rw [h4 x hx]; exact Nat.lt_succ_self n
  exact (h us.length).1
/-! ### all that may lead to a row: not many -/
def canF (S : HsD) (us : List (List Nat)) : List Cnd := (List.range us.length).flatMap fun low => (List.range (us.length + 1)).flatMap fun high => [false, true].flatMap fun b => (partF S (longF us low high) b).map fun x => eldF us low high b x
theorem canF_in {S : HsD} (ok : HsOk S) {us : List (List Nat)} (hw : AllW S us) {c : Cnd} (h : AllW S c.1 ∧ leadsF S us c) : c ∈ canF S us := by
  obtain ⟨low, high, b, h1, h2, _, ⟨x, hx, e⟩, _⟩ := (hit_iff ok hw c).mpr h
  exact List.mem_flatMap.mpr ⟨low, List.mem_range.mpr (by omega), List.mem_flatMap.mpr ⟨high, List.mem_range.mpr (by omega), List.mem_flatMap.mpr ⟨b, by cases b <;> decide, List.mem_map.mpr ⟨x, hx, e.symm⟩⟩⟩⟩
theorem fm_len {α β : Type} {g : α → List β} {k : Nat} : ∀ {l : List α}, (∀ x ∈ l, (g x).length ≤ k) → (l.flatMap g).length ≤ l.length * k
  | [], _ => Nat.zero_le _
  | x :: l, h => by
    have h1 := h x List.mem_cons_self
    have h2 := fm_len (l := l) fun y hy => h y (List.mem_cons_of_mem _ hy)
    rw [List.flatMap_cons, List.length_append, List.length_cons, Nat.add_mul]
    omega
theorem canF_len {S : HsD} (ok : HsOk S) {us : List (List Nat)} (hl : us.length ≤ 20) : (canF S us).length ≤ 40000 := by
  have m3 := ok.m3
  have h1 : ∀ low, ((List.range (us.length + 1)).flatMap fun high => [false, true].flatMap fun b => (partF S (longF us low high) b).map fun x => eldF us low high b x).length ≤ (us.length + 1) * 84 := fun low => by
    have := fm_len (g := fun high => [false, true].flatMap fun b => (partF S (longF us low high) b).map fun x => eldF us low high b x) (k := 84) (l := List.range (us.length + 1)) fun high _ => by
      have := fm_len (g := fun b => (partF S (longF us low high) b).map fun x => eldF us low high b x) (k := 42) (l := [false, true]) fun b _ => by
        rw [List.length_map]
        have := partTo_len ok (longF us low high) b S.mo.toNat
        have : (partF S (longF us low high) b).length ≤ 14 * S.mo.toNat := this
        omega
      exact this
    rw [List.length_range] at this
    exact this
  have h2 := fm_len (g := fun low => (List.range (us.length + 1)).flatMap fun high => [false, true].flatMap fun b => (partF S (longF us low high) b).map fun x => eldF us low high b x) (l := List.range us.length) fun low _ => h1 low
  rw [List.length_range] at h2
  have h3 : us.length * ((us.length + 1) * 84) ≤ 20 * (21 * 84) := Nat.mul_le_mul hl (Nat.mul_le_mul (by omega) (Nat.le_refl _))
  exact Nat.le_trans h2 (Nat.le_trans h3 (by decide))
/-! ### rising lists of the same members are one -/
theorem rise_eq {α : Type} {r : α → α → Prop} (asym : ∀ a b, r a b → r b a → False) : ∀ {l m : List α}, l.Pairwise r → m.Pairwise r → (∀ x, x ∈ l ↔ x ∈ m) → l = m
  | [], [], _, _, _ => rfl
  | [], y :: m, _, _, h => by cases (h y).mpr List.mem_cons_self
  | x :: l, [], _, _, h => by cases (h x).mp List.mem_cons_self
  | x :: l, y :: m, hl, hm, h => by
    obtain ⟨l1, l2⟩ := List.pairwise_cons.mp hl
    obtain ⟨m1, m2⟩ := List.pairwise_cons.mp hm
    have exy : x = y := by
      rcases List.mem_cons.mp ((h x).mp List.mem_cons_self) with e | e
      · exact e
      rcases List.mem_cons.mp ((h y).mpr List.mem_cons_self) with e2 | e2
      · exact e2.symm
      exact (asym _ _ (l1 y e2) (m1 x e)).elim
    subst exy
    rw [rise_eq asym l2 m2 fun z => ⟨fun hz => ?_, fun hz => ?_⟩]
    · rcases List.mem_cons.mp ((h z).mp (List.mem_cons_of_mem _ hz)) with rfl | e
      · exact (asym _ _ (l1 z hz) (l1 z hz)).elim
      · exact e
    · rcases List.mem_cons.mp ((h z).mpr (List.mem_cons_of_mem _ hz)) with rfl | e
      · exact (asym _ _ (m1 z hz) (m1 z hz)).elim
      · exact e
theorem lt_asym {α : Type} [DecidableEq α] [PySem.W.DatumOrd α] (a b : α) (h1 : PySem.W.DatumOrd.lt a b = true) (h2 : PySem.W.DatumOrd.lt b a = true) : False := by
  rw [← PySem.W.DatumOrd.lt_eq] at h1 h2
  have := lex_trans (O := itemOrd) (PySem.W.keyToks (PySem.W.Datum.toD a)) (PySem.W.keyToks (PySem.W.Datum.toD b)) (PySem.W.keyToks (PySem.W.Datum.toD a)) h1 h2
  exact absurd (show PySem.W.dataLt (PySem.W.Datum.toD a) (PySem.W.Datum.toD a) = true from this) (by rw [PySem.W.dataLt_self]; exact Bool.false_ne_true)
abbrev ClT : Type := RlT × (Int × Str)
def clO (c : Cnd) : ClT := (rlO c.1, ((c.2.1 : Nat) : Int), sdS c.2.2)
theorem tri_cl : Tri ClT := tri_pair (tri_pair tri_int (tri_list (tri_pair tri_int tri_str))) (tri_pair tri_int tri_str)
theorem rlO_inj {a b : List (List Nat)} (h : rlO a = rlO b) : a = b := by
  unfold rlO at h
  injection h with _ h
  exact (List.map_inj_right (fun x y e => by
    unfold wrkO at e
    injection e with _ e
    exact tx_inj e)).mp h
theorem clO_inj {a b : Cnd} (h : clO a = clO b) : a = b := by
  obtain ⟨a1, a2, a3⟩ := a
  obtain ⟨b1, b2, b3⟩ := b
  unfold clO at h
  injection h with h1 h
  injection h with h2 h3
  have h1 : rlO a1 = rlO b1 := h1
  have h2 : ((a2 : Nat) : Int) = ((b2 : Nat) : Int) := h2
  have h3 : sdS a3 = sdS b3 := h3
  rw [rlO_inj h1, Int.ofNat.inj h2, sdS_inj h3]
theorem cl_lt (a b : Cnd) : PySem.W.DatumOrd.lt (clO a) (clO b) = PySem.W.DatumOrd.lt (ckO a) (ckO b) := by
  show (if rlO a.1 = rlO b.1 then PySem.W.DatumOrd.lt (α := Int × Str) (((a.2.1 : Nat) : Int), sdS a.2.2) (((b.2.1 : Nat) : Int), sdS b.2.2) else PySem.W.DatumOrd.lt (rlO a.1) (rlO b.1)) = (if rkO a.1 = rkO b.1 then PySem.W.DatumOrd.lt (α := Int × Str) (((a.2.1 : Nat) : Int), sdS a.2.2) (((b.2.1 : Nat) : Int), sdS b.2.2) else PySem.W.DatumOrd.lt (rkO a.1) (rkO b.1))
  rw [rk_same]
  by_cases e : a.1 = b.1
  · rw [if_pos (by rw [e]), if_pos (by rw [e])]
  · rw [if_neg fun z => e (rlO_inj z), if_neg fun z => e (rkO_inj z)]
/-! ### the law's book of what leads where -/
def CdAt (K : PySem.W.Frag) (H : Hp) (v : V) (c : Cnd) : Prop := ∃ t tr, v = .ref t ∧ SqT K H t [.ref tr, .int (c.2.1 : Nat), .str (sdS c.2.2)] ∧ H tr = some (.lst (tS c.1))
theorem CdAt.sm {H H' : Hp} {v : V} {c : Cnd} (s : Same H H') (h : CdAt K H v c) : CdAt K H' v c := by
  obtain ⟨t, tr, h0, h1, h2⟩ := h
  exact ⟨t, tr, h0, sm_t s h1, s _ _ h2⟩
theorem sqt_updT {H : Hp} {D b : Addr} {k : List (List Key × V)} {o : HO} {vs : List V} (g : H D = some (.dT k)) (h : SqT K H b vs) : SqT K (upd H D o) b vs := by
  rcases h with (h | ⟨x, h⟩) | h
  · refine .inl (.inl ?_)
    rw [upd_ne (ne_of h g (fun z => nomatch z))]
    exact h
  · refine .inl (.inr ⟨x, ?_⟩)
    rw [upd_ne (ne_of h g (fun z => nomatch z))]
    exact h
  · exact .inr h
theorem CdAt.upd {H : Hp} {D : Addr} {k : List (List Key × V)} {o : HO} {v : V} {c : Cnd} (g : H D = some (.dT k)) (h : CdAt K H v c) : CdAt K (L2.upd H D o) v c := by
  obtain ⟨t, tr, h0, h1, h2⟩ := h
  exact ⟨t, tr, h0, sqt_updT g h1, by rw [upd_ne (ne_of h2 g (fun z => nomatch z))]; exact h2⟩
def rk3 (us : List (List Nat)) : List Key := us.map fun u => .inr (tx u)
theorem rk3_kV (us : List (List Nat)) : (rk3 us).map kV = tS us := by
  unfold rk3 tS
  rw [List.map_map]
  rfl
theorem rk3_inj {us vs : List (List Nat)} (h : rk3 us = rk3 vs) : us = vs := by
  unfold rk3 at h
  exact (List.map_inj_right (fun a b e => tx_inj (by injection e))).mp h
/-- what stands in the book for a row -/
def BkV (K : PySem.W.Frag) (S : HsD) (H : Hp) (Done : Cnd → Prop) (us : List (List Nat)) (o : Option V) : Prop :=
  (∃ l ws L, o = some (.ref l) ∧ H l = some (.lst ws) ∧ Paired (CdAt K H) ws L ∧ L.Nodup ∧ ∀ c, c ∈ L ↔ Done c ∧ leadsF S us c) ∨ (o = none ∧ ∀ c, ¬ (Done c ∧ leadsF S us c))
structure BkInv (K : PySem.W.Frag) (S : HsD) (H0 H : Hp) (D : Addr) (Done : Cnd → Prop) (n : Nat) (kvs : List (List Key × V)) : Prop where
  d : H D = some (.dT kvs)
  v : ∀ us, BkV K S H Done us (valV kvs (rk3 us))
  l : kvs.length ≤ n
  s : Same H0 H
theorem BkV.sm {S : HsD} {H H' : Hp} {Done : Cnd → Prop} {us : List (List Nat)} {o : Option V} (s : Same H H') (h : BkV K S H Done us o) : BkV K S H' Done us o := by
  rcases h with ⟨l, ws, L, h1, h2, h3, h4⟩ | h
  · exact .inl ⟨l, ws, L, h1, s _ _ h2, Paired.mapP h3 fun _ _ z => z.sm s, h4⟩
  · exact .inr h
theorem BkV.to {S : HsD} {H : Hp} {Done Done' : Cnd → Prop} {us : List (List Nat)} {o : Option V} (h : BkV K S H Done us o) (e : ∀ c, leadsF S us c → (Done c ↔ Done' c)) : BkV K S H Done' us o := by
  rcases h with ⟨l, ws, L, h1, h2, h3, h4, h5⟩ | ⟨h, h2⟩
  · exact .inl ⟨l, ws, L, h1, h2, h3, h4, fun c => (h5 c).trans ⟨fun z => ⟨(e c z.2).mp z.1, z.2⟩, fun z => ⟨(e c z.2).mpr z.1, z.2⟩⟩⟩
  · exact .inr ⟨h, fun c z => h2 c ⟨(e c z.2).mpr z.1, z.2⟩⟩
theorem BkInv.sm {S : HsD} {H0 H H' : Hp} {D : Addr} {Done : Cnd → Prop} {n : Nat} {kvs : List (List Key × V)} (s : Same H H') (h : BkInv K S H0 H D Done n kvs) : BkInv K S H0 H' D Done n kvs := ⟨s _ _ h.d, fun us => (h.v us).sm s, h.l, h.s.trans s⟩
theorem BkInv.to {S : HsD} {H0 H : Hp} {D : Addr} {Done Done' : Cnd → Prop} {n n' : Nat} {kvs : List (List Key × V)} (h : BkInv K S H0 H D Done n kvs) (e : ∀ us c, leadsF S us c → (Done c ↔ Done' c)) (hn : n ≤ n') : BkInv K S H0 H D Done' n' kvs := ⟨h.d, fun us => (h.v us).to (e us), Nat.le_trans h.l hn, h.s⟩
theorem BkInv.put {S : HsD} {H0 H : Hp} {D l2 : Addr} {Done Done' : Cnd → Prop} {n : Nat} {kvs : List (List Key × V)} {vs : List (List Nat)} {c : Cnd} {ws : List V} {L : List Cnd} (h : BkInv K S H0 H D Done n kvs) (n0 : H0 D = none) (hl : leadsF S vs c) (nd : ¬ Done c) (e2 : H l2 = some (.lst ws)) (hp : Paired (CdAt K H) ws (L ++ [c])) (nL : L.Nodup) (hL : ∀ z, z ∈ L ↔ Done z ∧ leadsF S vs z) (e : ∀ z, Done' z ↔ Done z ∨ z = c) :
    BkInv K S H0 (upd H D (.dT (putK kvs (rk3 vs) (.ref l2)))) D Done' (n + 1) (putK kvs (rk3 vs) (.ref l2)) := by
  refine ⟨upd_same, fun us => ?_, Nat.le_trans (length_putK _ _ _) (Nat.succ_le_succ h.l), sm_mut h.s n0⟩
  rw [valV_put]
  by_cases q : us = vs
  · subst q
    rw [if_pos rfl]
    refine .inl ⟨l2, ws, L ++ [c], rfl, by rw [upd_ne (ne_of e2 h.d (fun z => nomatch z))]; exact e2, Paired.mapP hp fun _ _ z => z.upd h.d, List.nodup_append.mpr ⟨nL, by simp, fun a ha b hb e => nd ?_⟩, fun z => ?_⟩
    · rw [List.mem_singleton.mp hb] at e
      rw [← e]
      exact ((hL a).mp ha).1
    · rw [List.mem_append, hL, e, List.mem_singleton]
      constructor
      · rintro (z | rfl)
        · exact ⟨.inl z.1, z.2⟩
        · exact ⟨.inr rfl, hl⟩
      · rintro ⟨z | z, g⟩
        · exact .inl ⟨z, g⟩
        · exact .inr z
  · rw [if_neg fun z => q (rk3_inj z)]
    have hv := (h.v us).to (Done' := Done') fun z hz => by
      rw [e]
      exact ⟨.inl, fun g => g.elim id fun g => by
        rw [g] at hz
        have a : behF S c.1 (c.2.1 : Nat) c.2.2 = some us := hz
        have b : behF S c.1 (c.2.1 : Nat) c.2.2 = some vs := hl
        rw [a] at b
        exact absurd (Option.some.inj b) q⟩
    rcases hv with ⟨l, ws', L', h1, h2, h3, h4⟩ | hv
    · exact .inl ⟨l, ws', L', h1, by rw [upd_ne (ne_of h2 h.d (fun z => nomatch z))]; exact h2, Paired.mapP h3 fun _ _ z => z.upd h.d, h4⟩
    · exact .inr hv
theorem CdAt.ext {H H' : Hp} {v : V} {c : Cnd} (e : ExtN H H') (h : CdAt K H v c) : CdAt K H' v c := by
  obtain ⟨t, tr, h0, h1, h2⟩ := h
  exact ⟨t, tr, h0, ext_t e h1, ext_lst e h2⟩
theorem CdAt.dp {H : Hp} {v : V} {c : Cnd} (h : CdAt K H v c) : Dp K H v (dCn c) := by
  obtain ⟨t, tr, rfl, h1, h2⟩ := h
  exact .tup h1 (.cons (.lst (sq_l h2) (dp_tS _)) (.cons (.int _) (.cons (.str _) .nil)))
theorem BkV.ext {S : HsD} {H H' : Hp} {Done : Cnd → Prop} {us : List (List Nat)} {o : Option V} (e : ExtN H H') (h : BkV K S H Done us o) : BkV K S H' Done us o := by
  rcases h with ⟨l, ws, L, h1, h2, h3, h4⟩ | h
  · exact .inl ⟨l, ws, L, h1, ext_lst e h2, Paired.mapP h3 fun _ _ z => z.ext e, h4⟩
  · exact .inr h
/-- a told row while its list is changed -/
def MuAt (K : PySem.W.Frag) (H0 H : Hp) (n : Nat) (v : V) : Prop := ∃ t tr x y zs, v = .ref t ∧ SqT K H t [.ref tr, x, y] ∧ H tr = some (.lst zs) ∧ zs.length ≤ n ∧ (∀ z ∈ zs, ∃ s : Str, z = V.str s) ∧ FreeN H0 tr
theorem sqt_updL {H : Hp} {D b : Addr} {ys : List V} {o : HO} {vs : List V} (g : H D = some (.lst ys)) (h : SqT K H b vs) : SqT K (upd H D o) b vs := by
  rcases h with (h | ⟨x, h⟩) | h
  · refine .inl (.inl ?_)
    rw [upd_ne (ne_of h g (fun z => nomatch z))]
    exact h
  · refine .inl (.inr ⟨x, ?_⟩)
    rw [upd_ne (ne_of h g (fun z => nomatch z))]
    exact h
  · exact .inr h
theorem MuAt.add {H0 H : Hp} {n : Nat} {v : V} {a : Addr} {ys : List V} {s : Str} (g : H a = some (.lst ys)) (hl : ys.length ≤ n) (hs : ∀ z ∈ ys, ∃ s : Str, z = V.str s) (h : MuAt K H0 H n v) : MuAt K H0 (upd H a (.lst (ys ++ [.str s]))) (n + 1) v := by
  obtain ⟨t, tr, x, y, zs, h0, h1, h2, h3, h4, h5⟩ := h
  by_cases e : tr = a
  · subst e
    refine ⟨t, tr, x, y, ys ++ [.str s], h0, sqt_updL g h1, upd_same, by rw [List.length_append]; exact Nat.succ_le_succ hl, fun z hz => ?_, h5⟩
    rcases List.mem_append.mp hz with hz | hz
    · exact hs z hz
    · exact ⟨s, List.mem_singleton.mp hz⟩
  · exact ⟨t, tr, x, y, zs, h0, sqt_updL g h1, by rw [upd_ne e]; exact h2, Nat.le_succ_of_le h3, h4, h5⟩
def E1 (S : HsD) (i : Nat) (c : Cnd) : Prop := AllW S c.1 ∧ c.1.length < i
def E2 (S : HsD) (i j : Nat) (c : Cnd) : Prop := E1 S i c ∨ c.1 ∈ (rwN (wordsF S.ls S.mo.toNat) i).take j
def E3 (S : HsD) (i j : Nat) (r : List (List Nat)) (k : Nat) (c : Cnd) : Prop := E2 S i j c ∨ (c.1 = r ∧ c.2 ∈ ((bitesF S r).take k).map (·.1))
end
end Lw
set_option autoImplicit true
set_option pp.maxSteps 1200
set_option Elab.async false
set_option linter.all false
set_option maxRecDepth 100000
set_option maxHeartbeats 1000000
namespace Lw
open PySem PySem.Spec PyProof.Rows L2 Gk NdefX
open LamX hiding takes0
open PySem.W (AllAlike Sortable dataLe)

local macro_rules | `(tactic| walk_at "hp") => `(tactic| first | assumption | exact upd_same | (refine' (upd_ne ?n).trans ?h; (case n => assumption); (case h => walk_at "hp")) | (refine' sm_get ?s ?h; (case s => assumption); (case h => walk_at "hp")))
local macro_rules | `(tactic| walk_at "sq") => `(tactic| first | assumption | (refine' sq_l ?h; (case h => walk_at "hp")) | (refine' sm_l ?s ?h; (case s => assumption); (case h => walk_at "sq")))
local macro_rules | `(tactic| walk_at "st") => `(tactic| first | assumption | (refine' sq_t ?h; (case h => walk_at "hp")) | (refine' sm_t ?s ?h; (case s => assumption); (case h => walk_at "st")))
local macro_rules | `(tactic| walk_at "bg") => `(tactic| first | assumption | (refine' BagOk.sm ?s ?h; (case s => assumption); (case h => walk_at "bg")))
local macro_rules | `(tactic| walk_at "sm") => `(tactic| first | assumption | exact Same.refl _ | (refine' Same.trans ?h ?s; (case s => assumption); (case h => walk_at "sm")))
local macro_rules | `(tactic| walk_at "hs") => `(tactic| first | assumption | (refine' HsAt.sm ?s ?h; (case s => assumption); (case h => walk_at "hs")))
local macro_rules | `(tactic| walk_at "ms") => `(tactic| first | assumption | (refine' MAt.sm ?s ?h; (case s => assumption); (case h => walk_at "ms")))
local macro_rules | `(tactic| walk_at "md") => `(tactic| first | assumption | (refine' MDk.sm ?s ?h; (case s => assumption); (case h => walk_at "md")))
local macro_rules | `(tactic| walk_at "dp") => `(tactic| first | assumption | (refine' dp_sm ?s ?h; (case s => assumption); (case h => walk_at "dp")))
local macro_rules | `(tactic| walk_at "sz") => `(tactic| first | decide | assumption | omega | (simp only [List.length_cons, List.length_nil, List.length_map, List.length_append]; omega))
local macro_rules | `(tactic| walk_at "g1") => `(tactic| first
  | with_reducible refine k_seq ?_
  | with_reducible refine k_itB ?_
  | with_reducible refine k_next ?_
  | with_reducible refine k_asg ?_
  | with_reducible refine k_name ?_
  | with_reducible refine k_ret ?_
  | with_reducible refine k_retN ?_
  | with_reducible refine k_drop ?_
  | with_reducible refine k_ifs ?_
  | with_reducible refine k_brk ?_
  | with_reducible refine k_cont ?_
  | with_reducible refine k_ipI ?_
  | with_reducible refine k_test ?_
  | with_reducible refine k_tB ?_
  | with_reducible refine k_bl ?_
  | with_reducible refine k_not ?_
  | with_reducible refine k_and ?_
  | with_reducible refine k_or ?_
  | with_reducible refine k_yes ?_
  | with_reducible refine k_true ?_
  | with_reducible refine k_false ?_
  | with_reducible refine k_nt ?_
  | with_reducible refine k_c ?_
  | with_reducible refine k_op ?_
  | with_reducible refine k_un ?_
  | with_reducible refine k_if ?_
  | with_reducible refine k_chain ?_
  | with_reducible refine k_nil ?_
  | with_reducible refine k_cons ?_
  | with_reducible refine k_cb ?_
  | with_reducible refine k_call ?_
  | with_reducible refine k_callS ?_
  | with_reducible refine k_andV ?_
  | with_reducible refine k_orV ?_
  | with_reducible refine k_notV ?_
  | with_reducible refine k_lst ?_
  | with_reducible refine k_tup ?_
  | with_reducible refine k_nopart ?_
  | with_reducible refine k_part ?_
  | with_reducible refine k_nInt ?_
  | with_reducible refine k_sl ?_
  | with_reducible refine k_bm ?_
  | with_reducible refine k_bm0 ?_
  | with_reducible refine k_nTyS ?_
  | with_reducible refine k_m1 ?_
  | with_reducible refine k_m0 ?_
  | with_reducible refine k_nStr ?_
  | with_reducible refine k_I0 ?_
  | with_reducible refine k_U ?_
  | with_reducible refine k_add_i ?_
  | with_reducible refine k_eq_i ?_
  | with_reducible refine k_eq_s ?_
  | with_reducible refine k_eq_b ?_
  | with_reducible refine k_ne_i ?_
  | with_reducible refine k_ne_s ?_
  | with_reducible refine k_ne_b ?_
  | with_reducible refine k_le_i ?_
  | with_reducible refine k_le_s ?_
  | with_reducible refine k_gnil ?_
  | with_reducible refine k_gcons ?_
  | with_reducible refine k_gsub ?_
  | with_reducible refine k_for ?_
  | with_reducible refine k_lc ?_
  | with_reducible refine k_rng1 ?_
  | with_reducible refine k_rng2 ?_
  | with_reducible refine k_itl ?_
  | with_reducible refine k_itt ?_
  | with_reducible refine k_its ?_
  | with_reducible refine k_ite ?_
  | with_reducible refine k_iteB ?_
  | with_reducible refine k_lrg2 ?_
  | with_reducible refine k_itz ?_
  | with_reducible refine k_nIts ?_
  | with_reducible refine k_inS ?_
  | with_reducible refine k_niS ?_
  | with_reducible refine k_mk ?_
  | with_reducible refine k_meth ?_
  | with_reducible refine k_fld ?_
  | with_reducible refine k_sfld ?_
  | with_reducible refine k_dg ?_
  | with_reducible refine k_dp ?_
  | with_reducible refine k_pr ?_
  | with_reducible refine k_pr0 ?_
  | with_reducible refine k_sg ?_
  | with_reducible refine k_lc2 ?_
  | with_reducible refine k_callN ?_
  | with_reducible refine k_callNS ?_
  | with_reducible refine k_par ?_
  | with_reducible refine k_nPar ?_
  | with_reducible refine k_isNn ?_
  | with_reducible refine k_isNr ?_
  | with_reducible refine k_ntNn ?_
  | with_reducible refine k_ntNr ?_
  | with_reducible refine k_min2 ?_
  | with_reducible refine k_max2 ?_
  | with_reducible refine k_intB ?_
  | with_reducible refine k_intI ?_
  | with_reducible refine k_isBl ?_
  | with_reducible refine k_ntBl ?_
  | ((with_reducible refine' k_var ?kv ?_); (case kv => exact rfl))
  | ((with_reducible refine' k_aug ?kv ?_); (case kv => exact rfl))
  | ((with_reducible refine' k_ix_l ?ks ?ki ?_); (case ks => walk_at "sq"); (case ki => exact rfl))
  | ((with_reducible refine' k_ix_t ?ks ?ki ?_); (case ks => walk_at "st"); (case ki => exact rfl))
  | ((with_reducible refine' k_len_l ?ks ?_); (case ks => walk_at "sq"))
  | ((with_reducible refine' k_len_t ?ks ?_); (case ks => walk_at "st"))
  | ((with_reducible refine' k_setL ?ks ?ki ?_); (case ks => walk_at "hp"); (case ki => exact rfl))
  | ((with_reducible refine' k_nTyL ?ks ?_); (case ks => walk_at "sq"))
  | ((with_reducible refine' k_nItl ?ks ?_); (case ks => walk_at "sq"))
  | ((with_reducible refine' k_nItt ?ks ?_); (case ks => walk_at "st"))
  | ((with_reducible refine' k_nIte ?ks ?_); (case ks => walk_at "sq"))
  | ((with_reducible refine' k_mul ?km ?_); (case km => first | exact Or.inr ⟨by decide, by decide⟩ | exact Or.inl ⟨by decide, by decide⟩))
  | ((with_reducible refine' k_I ?km ?_); (case km => first | assumption | decide | exact ⟨by decide, by decide +kernel⟩ | exact ⟨by decide, by decide, by decide⟩))
  | ((with_reducible refine' k_nMeth ?kp ?kl ?_); (case kp => walk_at "hp"); (case kl => exact rfl))
  | ((with_reducible refine' k_nFld ?kp ?kc ?kn ?kl ?_); (case kp => walk_at "hp"); (case kc => assumption); (case kn => assumption); (case kl => exact rfl))
  | ((with_reducible refine' k_nSFld ?kp ?kc ?kn ?kl ?_); (case kp => walk_at "hp"); (case kc => assumption); (case kn => assumption); (case kl => exact of_decide_eq_true rfl))
  | ((with_reducible refine' k_nDg ?kp ?kl ?_); (case kp => walk_at "hp"); (case kl => exact rfl))
  | ((with_reducible refine' k_nRng1 ?k1 ?k2 ?_); (case k1 => omega); (case k2 => omega))
  | ((with_reducible refine' k_nKw ?k1 ?k2 ?_); (case k1 => exact rfl); (case k2 => exact rfl))
  | ((with_reducible refine' k_hsm ?kh ?_); (case kh => walk_at "hs"))
  | ((with_reducible refine' k_nMethH ?kh ?kl ?_); (case kh => walk_at "hs"); (case kl => exact fun _ _ => rfl))
  | ((with_reducible refine' k_mLet ?kh ?_); (case kh => walk_at "ms"))
  | ((with_reducible refine' k_mChew ?kh ?_); (case kh => walk_at "ms"))
  | ((with_reducible refine' k_mPut ?kh ?_); (case kh => walk_at "ms"))
  | ((with_reducible refine' k_mMost ?kh ?_); (case kh => walk_at "ms"))
  | ((with_reducible refine' k_mCut ?kh ?_); (case kh => walk_at "ms"))
  | ((with_reducible refine' k_mTab ?kh ?_); (case kh => walk_at "md"))
  | ((with_reducible refine' k_mEats ?kh ?_); (case kh => walk_at "md"))
  | ((with_reducible refine' k_gtup ?ks ?kl ?_); (case ks => walk_at "st"); (case kl => exact rfl)))
local macro_rules | `(tactic| walk_at "g") => `(tactic| repeat (walk_at "g1"))
local macro_rules | `(tactic| walk_at "w1") => `(tactic| first
  | walk_at "g1"
  | ((with_reducible refine' k_decT ?kp ?_); (case kp => omega))
  | ((with_reducible refine' k_decF ?kp ?_); (case kp => omega))
  | ((with_reducible refine' k_decNT ?kp ?_); (case kp => omega))
  | ((with_reducible refine' k_decNF ?kp ?_); (case kp => omega)))
local macro_rules | `(tactic| walk_at "w") => `(tactic| repeat (walk_at "w1"))

local macro_rules | `(tactic| walk_at "g1") => `(tactic| first
  | with_reducible refine k_mkP ?_
  | with_reducible refine k_din ?_
  | with_reducible refine k_dni ?_
  | with_reducible refine k_sortF ?_
  | with_reducible refine k_sortL ?_
  | with_reducible refine k_itk ?_
  | with_reducible refine k_revL ?_)


section
variable {P : Program} {w : World} {K : PySem.W.Frag} {mg : Str → Option Value} {base : Heap} {f : Addr} {fd : FuncData}
def RwL (H : Hp) (v : V) (us : List (List Nat)) : Prop := ∃ r, v = .ref r ∧ H r = some (.lst (tS us))
theorem rwL_sm {H H' : Hp} (s : Same H H') {ws : List V} {L : List (List (List Nat))} (h : Paired (RwL H) ws L) : Paired (RwL H') ws L := Paired.mapP h fun _ _ ⟨r, e, g⟩ => ⟨r, e, s _ _ g⟩
theorem rwL_upd {H : Hp} {D : Addr} {k : List (List Key × V)} {o : HO} (g : H D = some (.dT k)) {ws : List V} {L : List (List (List Nat))} (h : Paired (RwL H) ws L) : Paired (RwL (upd H D o)) ws L := Paired.mapP h fun _ _ ⟨r, e, q⟩ => ⟨r, e, by rw [upd_ne (ne_of q g (fun z => nomatch z))]; exact q⟩
theorem pr_apps {α β : Type} {R : α → β → Prop} {ys : List α} {zs : List β} (h : Paired R ys zs) : ∀ {l : List α} {m : List β}, Paired R l m → Paired R (l ++ ys) (m ++ zs)
  | _, _, .nil => h
  | _, _, .cons r t => .cons r (pr_apps h t)
theorem k_extendC {H : Hp} {Q : VK} {l b : Addr} {xs zs : List V} (h1 : H l = some (.lst xs)) (h2 : H b = some (.lst zs)) (hz : xs.length + zs.length ≤ 10000000) (h : Q .non (upd H l (.lst (xs ++ zs)))) : rExtend (.ref l) [.ref b] H Q := ⟨l, b, xs, zs, rfl, rfl, h1, h2, Nat.le_trans hz (by decide), h⟩
theorem not_take {α : Type} {l : List α} (nd : l.Nodup) {k : Nat} {x : α} (h : l[k]? = some x) : x ∉ l.take k := fun hx => by
  have e := List.take_append_drop k l
  rw [← e] at nd
  have h2 : x ∈ l.drop k := by
    have := (List.getElem?_eq_some_iff.mp h)
    obtain ⟨hk, rfl⟩ := this
    rw [List.drop_eq_getElem_cons hk]
    exact List.mem_cons_self
  exact (List.nodup_append.mp nd).2.2 x hx x h2 rfl
theorem dbt_upd {H : Hp} {D : Addr} {k : List (List Key × V)} {o : HO} (g : H D = some (.dT k)) : ∀ {L : List (Bt × List (List Nat))} {ws : List V}, DpAll K H ws (L.map dB1) → DpAll K (upd H D o) ws (L.map dB1)
  | [], _, .nil => .nil
  | x :: L, _, .cons h t => by
    obtain ⟨t', rfl, h1⟩ := dp_btI (x := x.1) h
    exact .cons (.tup (sqt_updT g h1) (.cons (.int _) (.cons (.str _) .nil))) (dbt_upd g t)
theorem ok_law (F : FnP K "law" s_law (He.fAd K ("law", none)) fd) (tb : TabB base mg (He.cT K ("law", none)).1 (He.cT K ("law", none)).2) (huT_law : ∀ p ∈ TT K, p.1 = (He.cT K ("law", none)).2 → p.2 = lq "law") (f_range : mg "range" = none) (f_tuple : mg "tuple" = none) (f_list : mg "list" = none) (f_sorted : mg "sorted" = none)
    (c_Lbag : Callee P w K mg base CX0 "_law_bag" 1 [] (spBag K)) (c_Lone : Callee P w K mg base CX0 "_law_one" 2 [] (spOne K)) (c_Lsame : Callee P w K mg base CX0 "_law_same" 4 [] (spSame K 4)) (c_Lhouse : Callee P w K mg base CX0 "_law_house" 4 [] (spLHouse K)) (c_Lmade : Callee P w K mg base CX0 "_law_made" 4 [] (spMade K)) (c_Lwords : Callee P w K mg base CX0 "_law_words" 1 [] (spLWords K)) (c_Lrow : Callee P w K mg base CX0 "_law_row" 3 [] (spLRow K))
    (c_Lrank : Callee P w K mg base CX0 "_law_rank" 1 [] (spLRank K)) (c_Lbehind : Callee P w K mg base CX0 "_law_behind" 2 [] (spLBehind K)) (c_Lbites : Callee P w K mg base CX0 "_law_bites" 3 [] (spLBites K)) (c_ahead : Callee P w K mg base (L2.CX P w) "ahead" 8 [] (spAhead K)) : FnOk P w K mg base CX0 12 (He.fAd K ("law", none)) fd ["_law_script"] (spLawU K) := by
  refine okC F sc_law (fun vs H Q E h => ?hl) (fun A outer s H vs Q E hr h => ⟨_, PSs.nox (pss_cons (ps_set (i := 1) sc_law.nd rfl (by first | exact Or.inl rfl | exact Or.inr rfl) (pe_cl c_Lbag hr (pa_cons (pv 0) pa_nil) pass0))
      (pss_cons (ps_set (i := 2) sc_law.nd rfl (by first | exact Or.inl rfl | exact Or.inr rfl) (pe_cl c_Lhouse hr (pa_cons (pv 1) (pa_cons pe_str (pa_cons (pe_cl c_Lone hr (pa_cons (pv 1) (pa_cons (pe_lst (pa_cons pe_int (pa_cons pe_int pa_nil))) pa_nil)) pass0) pa_nil))) pass0))
      (pss_cons (ps_set (i := 3) sc_law.nd rfl (by first | exact Or.inl rfl | exact Or.inr rfl) (pe_cl c_Lmade hr (pa_cons (pv 2) pa_nil) pass0))
      (pss_cons (ps_set (i := 4) sc_law.nd rfl (by first | exact Or.inl rfl | exact Or.inr rfl) (pe_cl c_Lwords hr (pa_cons (pv 2) pa_nil) pass0))
      (pss_cons (ps_set (i := 5) sc_law.nd rfl (by first | exact Or.inl rfl | exact Or.inr rfl) (pe_lst (pa_cons (pe_lst pa_nil) pa_nil)))
      (pss_cons (ps_set (i := 6) sc_law.nd rfl (by first | exact Or.inl rfl | exact Or.inr rfl) pe_dnewT)
      (pss_cons (ps_for PassesOwn.never rfl (pi_range1 (by rfl) f_range (pa_cons pe_int pa_nil)) (pg_name (i := 7) sc_law.nd rfl (by first | exact Or.inl rfl | exact Or.inr rfl)) (pss_cons (ps_for PassesOwn.never rfl (pi_listK K (pv 5)) (pg_name (i := 9) sc_law.nd rfl (by first | exact Or.inl rfl | exact Or.inr rfl)) (pss_one (ps_for PassesOwn.never rfl (pi_listK K (pe_cl c_Lbites hr (pa_cons (pv 2) (pa_cons (pv 9) pa_nil)) pass0)) (pg_tupK K 2 (by rfl) (pgs_cons (pg_name (i := 14) sc_law.nd rfl (by first | exact Or.inl rfl | exact Or.inr rfl)) (pgs_cons (pg_name (i := 15) sc_law.nd rfl (by first | exact Or.inl rfl | exact Or.inr rfl)) pgs_nil))) (pss_cons (ps_set (i := 18) sc_law.nd rfl (by first | exact Or.inl rfl | exact Or.inr rfl) (pe_callTy (call_tupK K) (by rfl) f_tuple (by decide +kernel) (pa_cons (pe_cl c_Lbehind hr (pa_cons (pv 2) (pa_cons (pv 9) (pa_cons (pv 14) (pa_cons (pv 15) pa_nil)))) pass0) pa_nil)))
      (pss_one (ps_dput (hu_of hr) (pv 6) (pv 18) (pe_op (op_addK K) (pe_dget2 (hu_of hr) (pv 6) (pv 18) (pe_lst pa_nil) ⟨rfl, rfl, by rfl, rfl⟩) (pe_lst (pa_cons (pe_tup (pa_cons (pe_callTy (call_listK K) (by rfl) f_list (by decide +kernel) (pa_cons (pv 9) pa_nil)) (pa_cons (pv 14) (pa_cons (pv 15) pa_nil)))) pa_nil))) rfl))))))
      (pss_cons (ps_set (i := 10) sc_law.nd rfl (by first | exact Or.inl rfl | exact Or.inr rfl) (pe_lst pa_nil))
      (pss_cons (ps_for PassesOwn.never rfl (pi_listK K (pe_ifExp (pt_cmpR op_lt (pv 7) pe_int (nomark _)) (pv 5) (pe_lst pa_nil))) (pg_name (i := 9) sc_law.nd rfl (by first | exact Or.inl rfl | exact Or.inr rfl)) (pss_one (ps_expr (pe_bmK K PySem.F.plainAttrs_list PySem.F.slot_list_extend PySem.F.type_list_extend mt_extend (pv 10) (pa_cons (pe_lc (own := [("_law_word", 19)]) rfl sc_law.nd (pi_listK K (pv 4)) (blkOk_by (N := ["_law_script", "_law_bag_here", "_law_m", "_law_house_here", "_law_shelf", "_law_rows", "_law_known", "_law_many", "_law_k", "_law_row_here", "_law_longer", "_law_handed", "_law_due", "_law_again", "_law_place", "_law_edge", "_law_found", "_law_one_here", "_law_there", "_law_word"]) (sc := defScope s_law) (by decide +kernel)) (fun _ _ _ _ _ => (pg_name (i := 19) sc_law.nd rfl (by first | exact Or.inl rfl | exact Or.inr rfl))) (fun _ _ _ _ _ => pts_nil) (fun _ _ _ _ _ => (pe_op (op_addK K) (pv 9) (pe_lst (pa_cons (pv 19) pa_nil))))) pa_nil)))))
      (pss_one (ps_set (i := 5) sc_law.nd rfl (by first | exact Or.inl rfl | exact Or.inr rfl) (pv 10)))))))
      (pss_cons (ps_for PassesOwn.never rfl (pi_range1 (by rfl) f_range (pa_cons pe_int pa_nil)) (pg_name (i := 8) sc_law.nd rfl (by first | exact Or.inl rfl | exact Or.inr rfl)) (pss_cons (ps_set (i := 9) sc_law.nd rfl (by first | exact Or.inl rfl | exact Or.inr rfl) (pe_cl c_Lrow hr (pa_cons (pv 1) (pa_cons (pv 2) (pa_cons pe_int pa_nil))) pass0))
      (pss_cons (ps_set (i := 11) sc_law.nd rfl (by first | exact Or.inl rfl | exact Or.inr rfl) (pe_callTy (call_listK K) (by rfl) f_list (by decide +kernel) (pa_cons (pv 9) pa_nil)))
      (pss_cons (ps_set (i := 12) sc_law.nd rfl (by first | exact Or.inl rfl | exact Or.inr rfl) (pe_sortL (k := 3) (N := ["_law_one_here"]) (a := "_law_one_here") (fr := []) (js := []) K (TT K) ⟨tb, rfl⟩ (by first | exact List.mem_cons_self | exact List.mem_cons_of_mem _ List.mem_cons_self | exact List.mem_cons_of_mem _ (List.mem_cons_of_mem _ List.mem_cons_self)) huT_law hr f_sorted (pe_dget2 (hu_of hr) (pv 6) (pe_callTy (call_tupK K) (by rfl) f_tuple (by decide +kernel) (pa_cons (pv 9) pa_nil)) (pe_lst pa_nil) ⟨rfl, rfl, by rfl, rfl⟩) (nscope_by (by decide +kernel)) (defScope s_law) (by decide +kernel) rfl rfl (fun _ _ _ _ _ _ => rfl) (fun E A outer s H f c' hr => (pe_tup (pa_cons (pe_cl c_Lrank hr (pa_cons (pe_ix (ix_k K) (pv 0) pe_int (fun _ _ => rfl)) pa_nil) pass0) (pa_cons (pe_slice (sl_k K) (pv 0) (po_some pe_int) po_none) pa_nil))))))
      (pss_one (ps_for PassesOwn.never rfl (pi_range1 (by rfl) f_range (pa_cons pe_int pa_nil)) (pg_name (i := 13) sc_law.nd rfl (by first | exact Or.inl rfl | exact Or.inr rfl)) (pss_cons (ps_set (i := 16) sc_law.nd rfl (by first | exact Or.inl rfl | exact Or.inr rfl) (pe_cl c_ahead hr (pa_cons (pv 3) (pa_cons (pv 11) pa_nil)) passX))
      (pss_cons (ps_if (PW.pt (pw_or (pt_not (pt_val (pe_cl c_Lsame hr (pa_cons (pv 16) (pa_cons (pv 12) pa_nil)) pass0))) (pw_or1 (pt_cmpR (op_neK K hr.units) (pv 11) (pv 9) (nomark _))))) (pss_one (ps_ret pe_bl)) pss_nil)
      (pss_one (ps_for PassesOwn.never rfl (pi_listK K (pv 16)) (pg_name (i := 17) sc_law.nd rfl (by first | exact Or.inl rfl | exact Or.inr rfl)) (pss_one (ps_expr (pe_bmK K PySem.F.plainAttrs_list PySem.F.slot_list_append PySem.F.type_list_append mt_append (pe_ix (ix_k K) (pv 17) pe_int (fun _ _ => rfl)) (pa_cons pe_str pa_nil))))))))))))))
      (pss_one (ps_ret pe_bl)))))))))), ?rd⟩)
  case hl =>
    obtain ⟨b, u, rfl, _⟩ := h
    rfl
  case rd =>
    obtain ⟨a, ns, rfl, hS, hn, hP, q⟩ := h
    have hT0 : TbA K H := tbA0 hP
    refine k_start (σ' := [some _, none, none, none, none, none, none, none, none, none, none, none, none, none, none, none, none, none, none, none]) rfl ?_
    walk_at "g"
    refine ⟨a, ns, rfl, hS, hn, fun b H1 s1 hb => ?_⟩
    have hT1 : TbA K H1 := tabs_sm s1 hT0
    walk_at "g"
    refine k_nLst (by walk_at "sz") (fun p4 H4 n4 s4 e4 => ?_)
    walk_at "g"
    refine ⟨b, .ref p4, rfl, hb.sm s4, .inl ⟨p4, _, rfl, sq_l e4, by show 0 < 2; decide, by show 2 ≤ 100000; decide, fun v hv => ?_⟩⟩
    obtain ⟨mw, rfl, hmw⟩ : ∃ mw : Int, v = .int mw ∧ mw ≤ 14 := by
      rcases List.mem_cons.mp hv with rfl | hv
      · exact ⟨3, rfl, by decide⟩
      rcases List.mem_cons.mp hv with rfl | hv
      · exact ⟨6, rfl, by decide⟩
      cases hv
    walk_at "g"
    refine ⟨b, _, mw, rfl, hb.sm s4, hmw, fun S m H2 ok ms s2 hM => ?_⟩
    have hb2 := (hb.sm s4).sm s2
    walk_at "g"
    refine ⟨m, S, rfl, hM, ok, fun ah H3 n3 s3 hs => ?_⟩
    have hM3 := hM.sm s3
    have hb3 := hb2.sm s3
    walk_at "g"
    refine ⟨m, S, rfl, hM3, ok, fun pw H5 n5 s5 e5 => ?_⟩
    walk_at "g"
    refine k_nLst (by walk_at "sz") (fun p6 H6 n6 s6 e6 => ?_)
    walk_at "g"
    refine k_nLst (by walk_at "sz") (fun p7 H7 n7 s7 e7 => ?_)
    walk_at "g"
    refine k_dnewT (fun D H8 n8 s8 e8 => ?_)
    have s57 := s6.trans s7
    have hM7 := hM3.sm (s5.trans s57)
    have hs7 := hs.sm (s5.trans s57)
    have hb7 := hb3.sm (s5.trans s57)
    have e57 := s57 _ _ e5
    have hT7 : TbA K H7 := tabs_sm (s4.trans (s2.trans (s3.trans (s5.trans s57)))) hT1
    have lW := words_14 ok
    have ndW := words_nodup ok
    have hWm : ∀ us : List (List Nat), AllW S us ↔ ∀ u ∈ us, u ∈ wordsF S.ls S.mo.toNat := fun us => Iff.rfl
    have B0 : BkInv K S H7 H8 D (E1 S 0) 0 [] := ⟨e8, fun us => .inr ⟨rfl, fun c z => absurd z.1.2 (Nat.not_lt_zero _)⟩, Nat.le_refl _, s8⟩
    have R0 : Paired (RwL H8) [V.ref p6] (rwN (wordsF S.ls S.mo.toNat) 0) := .cons ⟨p6, rfl, s8 _ _ (s7 _ _ e6)⟩ .nil
    walk_at "g"
    refine k_nFor walk_range (fun i σ H' => ∃ (y7 y8 y9 y10 y11 y12 y13 y14 y15 y16 y17 y18 y19 : Option V) (pr : Addr) (kvs : List (List Key × V)), σ = [some (.ref a), some (.ref b), some (.ref m), some (.ref ah), some (.ref pw), some (.ref pr), some (.ref D), y7, y8, y9, y10, y11, y12, y13, y14, y15, y16, y17, y18, y19] ∧ BkInv K S H7 H' D (E1 S i) (400000 * i) kvs ∧ (i ≤ 4 → ∃ ws, H' pr = some (.lst ws) ∧ Paired (RwL H') ws (rwN (wordsF S.ls S.mo.toNat) i))) ⟨_, _, _, _, _, _, _, _, _, _, _, _, _, p7, [], rfl, B0, fun _ => ⟨_, s8 _ _ e7, R0⟩⟩ (fun _ _ _ _ _ => trivial) (fun i x σ Ha Hb hi h hy => ?ht) (fun σ H' h => ?he)
    case ht =>
      obtain ⟨y7, y8, y9, y10, y11, y12, y13, y14, y15, y16, y17, y18, y19, pr, kvs, rfl, BI, hr4⟩ := h
      obtain ⟨rfl, rfl⟩ := y_rng hy
      have hi4 : i ≤ 4 := by have : i < 5 := hi; omega
      obtain ⟨ws, er, hrw⟩ := hr4 hi4
      have lws := Paired.length hrw
      have lR := rwN_small lW hi4
      walk_at "g"
      refine k_nFor (walk_list (xs := ws)) (fun j σ H' => ∃ (y8 y9 y10 y11 y12 y13 y14 y15 y16 y17 y18 y19 : Option V) (kvs : List (List Key × V)), (σ = [some (.ref a), some (.ref b), some (.ref m), some (.ref ah), some (.ref pw), some (.ref pr), some (.ref D), some (.int (i : Nat)), y8, y9, y10, y11, y12, y13, y14, y15, y16, y17, y18, y19] ∧ BkInv K S H7 H' D (E2 S i j) (400000 * i + 8 * j) kvs) ∧ H' pr = some (.lst ws) ∧ Paired (RwL H') ws (rwN (wordsF S.ls S.mo.toNat) i)) ⟨_, _, _, _, _, _, _, _, _, _, _, _, _, ⟨rfl, BI.to (fun us c _ => ⟨.inl, fun z => z.elim id fun z => nomatch z⟩) (by omega)⟩, er, hrw⟩ (fun j σ H' _ h => by obtain ⟨_, _, _, _, _, _, _, _, _, _, _, _, _, _, h, _⟩ := h; exact sq_l h) (fun j x σ Ha Hb hj h hy => ?ht2) (fun σ H' h => ?he2)
      case ht2 =>
        obtain ⟨z8, z9, z10, z11, z12, z13, z14, z15, z16, z17, z18, z19, kvs1, ⟨rfl, BJ⟩, er1, hrw1⟩ := h
        obtain ⟨rfl, hv⟩ := hy
        obtain ⟨us, hus, ra, rfl, era⟩ := pr_get hrw1 hv
        obtain ⟨hul, huw⟩ := (rwN_mem _ _ _).mp (List.mem_of_getElem? hus)
        have huW : AllW S us := huw
        have hM1 := hM7.sm BJ.s
        walk_at "g"
        refine ⟨m, ra, S, us, rfl, hM1, ok, sq_l era, huW, by omega, fun pb wb H9 n9 s9 e9 d9 => ?_⟩
        have lwb := dpall_len d9
        rw [List.length_map] at lwb
        have lbt : (bitesF S us).length ≤ 8 := by
          have := flat_len (S := S) (us := us) us.length
          unfold bitesF
          omega
        walk_at "g"
        refine k_nFor (walk_list (xs := wb)) (fun k σ H' => ∃ (y8 y10 y11 y12 y13 y14 y15 y16 y17 y18 y19 : Option V) (kvs : List (List Key × V)), (σ = [some (.ref a), some (.ref b), some (.ref m), some (.ref ah), some (.ref pw), some (.ref pr), some (.ref D), some (.int (i : Nat)), y8, some (.ref ra), y10, y11, y12, y13, y14, y15, y16, y17, y18, y19] ∧ BkInv K S H7 H' D (E3 S i j us k) (400000 * i + 8 * j + k) kvs) ∧ (H' pr = some (.lst ws) ∧ Paired (RwL H') ws (rwN (wordsF S.ls S.mo.toNat) i)) ∧ H' ra = some (.lst (tS us)) ∧ H' pb = some (.lst wb) ∧ DpAll K H' wb ((bitesF S us).map dB1)) ⟨_, _, _, _, _, _, _, _, _, _, _, _, ⟨rfl, (BJ.sm s9).to (fun us c _ => ⟨.inl, fun z => z.elim id fun z => nomatch z.2⟩) (by omega)⟩, ⟨s9 _ _ er1, rwL_sm s9 hrw1⟩, s9 _ _ era, e9, d9⟩ (fun k σ H' _ h => by obtain ⟨_, _, _, _, _, _, _, _, _, _, _, _, _, _, _, h, _⟩ := h; exact sq_l h) (fun k x σ Ha Hb hk h hy => ?ht3) (fun σ H' h => ?he3)
        case he3 =>
          obtain ⟨z8, z10, z11, z12, z13, z14, z15, z16, z17, z18, z19, kvs2, ⟨rfl, BK⟩, ⟨er2, hrw2⟩, _, _, _⟩ := h
          rw [lwb] at BK
          unfold E3 at BK
          rw [List.take_length] at BK
          exact ⟨_, _, _, _, _, _, _, _, _, _, _, _, kvs2, ⟨rfl, BK.to (fun us' c hl => by
            unfold E2
            rw [take_more hus, List.mem_append, List.mem_singleton, ← or_assoc]
            refine or_congr Iff.rfl ⟨fun z => z.1, fun z => ⟨z, ?_⟩⟩
            obtain ⟨_, l2⟩ := lead_len hl
            rw [z] at l2
            refine List.mem_map.mpr ⟨(c.2, us'), bitesF_in.mpr ⟨l2, ?_⟩, rfl⟩
            rw [← z]
            exact hl) (by omega)⟩, er2, hrw2⟩
        case ht3 =>
          obtain ⟨z8, z10, z11, z12, z13, z14, z15, z16, z17, z18, z19, kvs2, ⟨rfl, BK⟩, ⟨er2, hrw2⟩, era2, epb, d10⟩ := h
          obtain ⟨rfl, hv⟩ := hy
          obtain ⟨d, hd, dd⟩ := dpall_get d10 hv
          obtain ⟨⟨⟨pl, bs⟩, mm⟩, hxb, rfl⟩ := map_get hd
          obtain ⟨hpl, hbf⟩ := bitesF_in.mp (List.mem_of_getElem? hxb)
          have hpl : pl < us.length := hpl
          have hbf : behF S us (pl : Nat) bs = some mm := hbf
          obtain ⟨tb', rfl, htb⟩ := dp_btI (x := (pl, bs)) dd
          obtain ⟨hmw, lmw⟩ := behF_words ok huW hbf
          walk_at "g"
          refine ⟨m, ra, S, us, (pl : Nat), sdS bs, rfl, hM7.sm BK.s, ok, sq_l era2, huW, by omega, fun v H11 s11 hv11 => ?_⟩
          rw [behS_sd, hbf] at hv11
          obtain ⟨pv, rfl, nv, ev⟩ := hv11
          walk_at "g"
          refine k_tup_l (sq_l ev) (fun pt H12 n12 s12 e12 => ?_)
          have BK12 := (BK.sm s11).sm s12
          have era12 := s12 _ _ (s11 _ _ era2)
          walk_at "g"
          with_reducible refine k_dg2 ?_
          walk_at "g"
          refine ⟨D, rfl, .inr ⟨kvs2, .inl BK12.d⟩, ?_⟩
          walk_at "g"
          refine k_nLst (by walk_at "sz") (fun pe H13 n13 s13 e13 => ?_)
          have BK13 := BK12.sm s13
          refine ⟨_, DGet.t BK13.d (k := rk3 mm) (by rw [rk3_kV]; exact s13 _ _ e12), ?_⟩
          obtain ⟨l, ws0, L, hl0, hl1, hl2, hl3, hl4⟩ : ∃ l ws0 L, (valV kvs2 (rk3 mm)).getD (.ref pe) = .ref l ∧ H13 l = some (.lst ws0) ∧ Paired (CdAt K H13) ws0 L ∧ L.Nodup ∧ ∀ c, c ∈ L ↔ E3 S i j us k c ∧ leadsF S mm c := by
            rcases BK13.v mm with ⟨l, ws0, L, h1, h2, h3, h4, h5⟩ | ⟨h1, h2⟩
            · exact ⟨l, ws0, L, by rw [h1]; rfl, h2, h3, h4, h5⟩
            · exact ⟨pe, [], [], by rw [h1]; rfl, e13, .nil, List.nodup_nil, fun c => ⟨(fun z => nomatch z), fun z => absurd z (h2 c)⟩⟩
          have lL : L.length ≤ 40000 := Nat.le_trans (len_le_of_nodup hl3 fun c hc => by
            obtain ⟨g1, g2⟩ := (hl4 c).mp hc
            refine canF_in ok hmw ⟨?_, g2⟩
            rcases g1 with (g1 | g1) | g1
            · exact g1.1
            · exact ((rwN_mem _ _ _).mp (List.mem_of_mem_take g1)).2
            · rw [g1.1]; exact huW) (canF_len ok (by omega))
          have lw0 := Paired.length hl2
          rw [hl0]
          walk_at "g"
          refine k_list_l (sq_l (s13 _ _ era12)) (fun pq H14 n14 s14 e14 => ?_)
          walk_at "g"
          refine k_nTup (by walk_at "sz") (fun pT H15 n15 s15 e15 => ?_)
          walk_at "g"
          refine k_nLst (by walk_at "sz") (fun p16 H16 n16 s16 e16 => ?_)
          have s1316 := s14.trans (s15.trans s16)
          refine k_add_l (s1316 _ _ hl1) e16 (by rw [lw0]; show _ + 1 ≤ _; omega) (fun p17 H17 n17 s17 e17 => ?_)
          have s1317 := s1316.trans s17
          have BK17 := BK13.sm s1317
          have lkv := BK17.l
          have hcd : CdAt K H17 (.ref pT) ((us, pl, bs) : Cnd) := ⟨pT, pq, rfl, sq_t (s17 _ _ (s16 _ _ e15)), s17 _ _ (s16 _ _ (s15 _ _ e14))⟩
          walk_at "g"
          refine k_nDpTz BK17.d (k := rk3 mm) (by rw [rk3_kV]; exact s1317 _ _ (s13 _ _ e12)) (by omega) ?_
          have d17 := BK17.d
          have s1217 : Same Hb H17 := s11.trans (s12.trans (s13.trans s1317))
          have hnd : ¬ E3 S i j us k ((us, pl, bs) : Cnd) := by
            rintro ((z | z) | z)
            · have : us.length < i := z.2
              omega
            · exact not_take (rwN_nodup ndW i) hus z
            · have z2 : (pl, bs) ∈ ((bitesF S us).take k).map (·.1) := z.2
              rw [List.map_take] at z2
              exact not_take (bites_fst S us) (show ((bitesF S us).map (·.1))[k]? = some (pl, bs) by rw [List.getElem?_map, hxb]; rfl) z2
          have BN := BK17.put (Done' := E3 S i j us (k + 1)) (c := (us, pl, bs)) n8 hbf hnd e17 (pr_app hcd (Paired.mapP hl2 fun _ _ z => z.sm s1317)) hl3 hl4 fun z => by
            unfold E3
            rw [take_more hxb, List.map_append, List.mem_append, or_assoc]
            refine or_congr Iff.rfl ?_
            constructor
            · rintro ⟨g1, g2 | g2⟩
              · exact .inl ⟨g1, g2⟩
              · refine .inr ?_
                have g3 : z.2 = (pl, bs) := by simpa using g2
                rw [← g1, ← g3]
            · rintro (g | rfl)
              · exact ⟨g.1, .inl g.2⟩
              · exact ⟨rfl, .inr (by simp)⟩
          walk_at "g"
          refine ⟨_, _, _, _, _, _, _, _, _, _, _, _, ⟨rfl, BN⟩, ⟨?_, rwL_upd d17 (rwL_sm s1217 hrw2)⟩, ?_, ?_, dbt_upd d17 (dpall_sm s1217 d10)⟩
          · rw [upd_ne (ne_of (s1217 _ _ er2) d17 (fun z => nomatch z))]
            exact s1217 _ _ er2
          · rw [upd_ne (ne_of (s1217 _ _ era2) d17 (fun z => nomatch z))]
            exact s1217 _ _ era2
          · rw [upd_ne (ne_of (s1217 _ _ epb) d17 (fun z => nomatch z))]
            exact s1217 _ _ epb
      case he2 =>
        obtain ⟨z8, z9, z10, z11, z12, z13, z14, z15, z16, z17, z18, z19, kvs1, ⟨rfl, BJ⟩, er1, hrw1⟩ := h
        obtain ⟨HQ, hHQ⟩ : ∃ HQ, HQ = H' := ⟨_, rfl⟩
        subst hHQ
        have BJ' : BkInv K S H7 HQ D (E1 S (i + 1)) (400000 * (i + 1)) kvs1 := BJ.to (fun us c _ => by
          unfold E2 E1
          rw [lws, List.take_length, rwN_mem]
          constructor
          · rintro (z | z)
            · exact ⟨z.1, by omega⟩
            · exact ⟨z.2, by omega⟩
          · intro z
            by_cases e : c.1.length = i
            · exact .inr ⟨e, z.1⟩
            · exact .inl ⟨z.1, by omega⟩) (by omega)
        walk_at "g"
        refine k_nLst (by walk_at "sz") (fun pl H9 n9 s9 e9 => ?_)
        have er9 := s9 _ _ er1
        have e59 := (BJ.s.trans s9) _ _ e57
        have hrw9 := rwL_sm s9 hrw1
        walk_at "g"
        refine k_dec (fun d1 => ?_) (fun d1 => ?_)
        rotate_left
        · walk_at "g"
          refine k_nLst (by walk_at "sz") (fun p10 H10 n10 s10 e10 => ?_)
          walk_at "g"
          refine k_nFor (walk_list (xs := [])) (fun j σ H' => σ = _ ∧ H' = H10) ⟨rfl, rfl⟩ (fun j σ H' _ h => by rw [h.2]; exact sq_l e10) (fun j x σ Ha Hb hj h hy => absurd hj (Nat.not_lt_zero _)) (fun σ H' h => ?_)
          obtain ⟨rfl, rfl⟩ := h
          walk_at "g"
          exact ⟨_, _, _, _, _, _, _, _, _, _, _, _, _, _, _, rfl, (BJ'.sm s9).sm s10, fun z => absurd z (by omega)⟩
        walk_at "g"
        refine k_nFor (walk_list (xs := ws)) (fun j σ H' => ∃ (y8 y9 y11 y12 y13 y14 y15 y16 y17 y18 y19 : Option V) (zs : List V), (σ = [some (.ref a), some (.ref b), some (.ref m), some (.ref ah), some (.ref pw), some (.ref pr), some (.ref D), some (.int (i : Nat)), y8, y9, some (.ref pl), y11, y12, y13, y14, y15, y16, y17, y18, y19]) ∧ Same HQ H' ∧ H' pl = some (.lst zs) ∧ Paired (RwL (del H' pl)) zs (((rwN (wordsF S.ls S.mo.toNat) i).take j).flatMap fun r => (wordsF S.ls S.mo.toNat).map fun u => r ++ [u])) ⟨_, _, _, _, _, _, _, _, _, _, _, [], rfl, s9, e9, .nil⟩ (fun j σ H' _ h => by obtain ⟨_, _, _, _, _, _, _, _, _, _, _, _, _, h, _⟩ := h; exact sq_l (h _ _ er1)) (fun j x σ Ha Hb hj h hy => ?ht4) (fun σ H' h => ?he4)
        case he4 =>
          obtain ⟨y8, y9, y11, y12, y13, y14, y15, y16, y17, y18, y19, zs, rfl, sa, ez, hz⟩ := h
          rw [lws, List.take_length] at hz
          walk_at "g"
          exact ⟨_, _, _, _, _, _, _, _, _, _, _, _, _, pl, kvs1, rfl, BJ'.sm sa, fun _ => ⟨zs, ez, rwL_sm sm_del hz⟩⟩
        case ht4 =>
          obtain ⟨y8, y9, y11, y12, y13, y14, y15, y16, y17, y18, y19, zs, rfl, sa, ez, hz⟩ := h
          obtain ⟨rfl, hv⟩ := hy
          obtain ⟨us, hus, ra, rfl, era⟩ := pr_get (rwL_sm sa hrw1) hv
          obtain ⟨hul, huw⟩ := (rwN_mem _ _ _).mp (List.mem_of_getElem? hus)
          have e5b := (BJ.s.trans sa) _ _ e57
          have lzs := Paired.length hz
          have lz2 : zs.length ≤ 38416 * 14 := by
            rw [lzs]
            refine Nat.le_trans (fm_len (k := 14) fun r _ => by rw [List.length_map]; exact lW) (Nat.mul_le_mul ?_ (Nat.le_refl _))
            rw [List.length_take]
            omega
          have lWS := len_tS (wordsF S.ls S.mo.toNat)
          walk_at "g"
          refine k_nLcD (walk_list (xs := tS (wordsF S.ls S.mo.toNat))) (fun H' s => sq_l (s _ _ e5b)) (fun k zs2 H1 => Paired (fun v vs => ∃ r, v = .ref r ∧ H1 r = some (.lst (tS vs)) ∧ Hb r = none) zs2 (((wordsF S.ls S.mo.toNat).take k).map fun u => us ++ [u])) (fun k zs2 Ha Hb2 s h => Paired.mapP h fun _ _ ⟨r, g1, g2, g3⟩ => ⟨r, g1, s _ _ g2, g3⟩) .nil (fun k zs2 Ha hk h => ?hz) (fun k x p Hc Hd zs2 Kp Ks hk hp sc ec hzs hy hKp hKs => ?ht5) (fun p H10 zs2 hp s10 e10 hzs => ?he5)
          case hz =>
            have := Paired.length h
            rw [List.length_map, List.length_take] at this
            omega
          case ht5 =>
            obtain ⟨rfl, hv⟩ := hy
            obtain ⟨u, hu, rfl⟩ := map_get hv
            walk_at "g"
            refine ⟨rfl, ?_⟩
            walk_at "g"
            refine k_nLst (by walk_at "sz") (fun p11 H11 n11 s11 e11 => ?_)
            refine k_add_l (s11 _ _ (sc _ _ era)) e11 (by rw [len_tS]; show _ + 1 ≤ _; omega) (fun p12 H12 n12 s12 e12 => ?_)
            rw [show tS us ++ [V.str (tx u)] = tS (us ++ [u]) by rw [tS_app]; rfl] at e12
            refine hKp _ _ (s11.trans s12) ?_
            rw [take_more hu, List.map_append]
            have np : p12 ≠ p := fun z => by rw [z, s11 _ _ ec] at n12; cases n12
            exact pr_app ⟨p12, rfl, by rw [del_ne np]; exact e12, (sc.trans s11).free n12⟩ (Paired.mapP hzs fun _ _ ⟨r, g1, g2, g3⟩ => ⟨r, g1, del_mono (s11.trans s12) _ _ g2, g3⟩)
          case he5 =>
            rw [lWS, List.take_length] at hzs
            have lz3 := Paired.length hzs
            rw [List.length_map] at lz3
            have ez10 := s10 _ _ ez
            walk_at "g"
            refine k_extendC ez10 e10 (by omega) ?_
            walk_at "g"
            refine ⟨_, _, _, _, _, _, _, _, _, _, _, zs ++ zs2, rfl, sm_mut (sa.trans s10) n9, upd_same, ?_⟩
            rw [take_more hus, List.flatMap_append, del_upd]
            simp only [List.flatMap_cons, List.flatMap_nil, List.append_nil]
            exact pr_apps (Paired.mapP hzs fun _ _ ⟨r, g1, g2, g3⟩ => ⟨r, g1, by rw [del_ne (fun z => by rw [z, ez] at g3; cases g3)]; exact g2⟩) (rwL_sm (del_mono s10) hz)
    case he =>
      obtain ⟨y7, y8, y9, y10, y11, y12, y13, y14, y15, y16, y17, y18, y19, pr0, kvs, rfl, BI, _⟩ := h
      obtain ⟨HB, hHB⟩ : ∃ HB, HB = H' := ⟨_, rfl⟩
      subst hHB
      have hsB := hs7.sm BI.s
      have hMB := hM7.sm BI.s
      have hbB := hb7.sm BI.s
      have hTB : TbA K HB := tabs_sm BI.s hT7
      walk_at "g"
      refine k_nFor walk_range (fun k σ H' => (∃ (y7 y8 y9 y11 y12 y13 y16 y17 y5 y10 y14 y15 y18 y19 : Option V), σ = [some (.ref a), some (.ref b), some (.ref m), some (.ref ah), some (.ref pw), y5, some (.ref D), y7, y8, y9, y10, y11, y12, y13, y14, y15, y16, y17, y18, y19]) ∧ ExtN HB H' ∧ TbA K H') ⟨⟨_, _, _, _, _, _, _, _, _, _, _, _, _, _, rfl⟩, ExtN.refl _, hTB⟩ (fun _ _ _ _ _ => trivial) (fun k x σ Ha Hb hk h hy => ?ht6) (fun σ H' h => ?he6)
      case he6 =>
        obtain ⟨⟨y7, y8, y9, y11, y12, y13, y16, y17, y5, y10, y14, y15, y18, y19, rfl⟩, _, _⟩ := h
        walk_at "g"
        exact q _
      case ht6 =>
        obtain ⟨⟨y7, y8, y9, y11, y12, y13, y16, y17, y5, y10, y14, y15, y18, y19, rfl⟩, xa, ta⟩ := h
        obtain ⟨rfl, rfl⟩ := y_rng hy
        walk_at "g"
        refine ⟨b, m, S, 3, rfl, hbB.ext xa, hMB.ext xa, ok, by decide, fun us pr H9 hw lu n9 s9 e9 => ?_⟩
        have wl := fun u hu => ((hw.len ok) u hu)
        have bad := hw.bad ok (by omega)
        have x9 := xa.trans (same_ext s9)
        walk_at "g"
        refine k_list_l (sq_l e9) (fun ph H10 n10 s10 e10 => ?_)
        have x10 := x9.trans (same_ext s10)
        have eD10 : H10 D = some (.dT kvs) := x10 _ _ BI.d (fun ps z => nomatch z)
        walk_at "g"
        with_reducible refine k_dg2 ?_
        walk_at "g"
        refine ⟨D, rfl, .inr ⟨kvs, .inl eD10⟩, ?_⟩
        walk_at "g"
        refine k_tup_l (sq_l (s10 _ _ e9)) (fun pt H11 n11 s11 e11 => ?_)
        walk_at "g"
        refine k_nLst (by walk_at "sz") (fun pe H12 n12 s12 e12 => ?_)
        have x12 := x10.trans (same_ext (s11.trans s12))
        refine ⟨_, DGet.t ((s11.trans s12) _ _ eD10) (k := rk3 us) (by rw [rk3_kV]; exact s12 _ _ e11), ?_⟩
        obtain ⟨l, ws0, L, hl0, hl1, hl2, hl3, hl4⟩ : ∃ l ws0 L, (valV kvs (rk3 us)).getD (.ref pe) = .ref l ∧ H12 l = some (.lst ws0) ∧ Paired (CdAt K H12) ws0 L ∧ L.Nodup ∧ ∀ c, c ∈ L ↔ E1 S 5 c ∧ leadsF S us c := by
          rcases (BI.v us).ext x12 with ⟨l, ws0, L, h1, h2, h3, h4, h5⟩ | ⟨h1, h2⟩
          · exact ⟨l, ws0, L, by rw [h1]; rfl, h2, h3, h4, h5⟩
          · exact ⟨pe, [], [], by rw [h1]; rfl, e12, .nil, List.nodup_nil, fun c => ⟨(fun z => nomatch z), fun z => absurd z (h2 c)⟩⟩
        rw [hl0]
        have hLm : ∀ c, c ∈ L ↔ AllW S c.1 ∧ leadsF S us c := fun c => by
          rw [hl4]
          exact ⟨fun z => ⟨z.1.1, z.2⟩, fun z => ⟨⟨z.1, by have := (lead_len z.2).1; omega⟩, z.2⟩⟩
        have lL : L.length ≤ 40000 := Nat.le_trans (len_le_of_nodup hl3 fun c hc => canF_in ok hw ((hLm c).mp hc)) (canF_len ok (by omega))
        have s912 := s10.trans (s11.trans s12)
        refine ⟨tabs_sm (s9.trans s912) ta, fun H13 x13 T13 => ?_⟩
        have hl2' := Paired.mapP hl2 fun _ _ z => CdAt.ext x13 z
        obtain ⟨B, hB1, hB2, hB3⟩ : ∃ B : List (V × Cnd), B.map Prod.fst = ws0 ∧ B.map Prod.snd = L ∧ ∀ q ∈ B, CdAt K H13 q.1 q.2 := by
          clear hl1 hl2 hl3 hl4 hLm lL
          induction hl2' with
          | nil => exact ⟨[], rfl, rfl, fun _ h => nomatch h⟩
          | cons h t ih =>
            obtain ⟨B, h1, h2, h3⟩ := ih
            exact ⟨(_, _) :: B, by rw [List.map_cons, h1], by rw [List.map_cons, h2], fun q hq => by
              rcases List.mem_cons.mp hq with rfl | hq
              · exact h
              · exact h3 q hq⟩
        have lB : B.length = L.length := by rw [← hB2, List.length_map]
        refine k_sorted (fun q : V × Cnd => q.1) (fun q => PySem.W.Datum.toD (clO q.2)) B (by rw [hB1]; exact sq_l (ext_lst x13 hl1)) (by omega) (alike_toD (fun q : V × Cnd => clO q.2) B) (sortable_pair (fun q : V × Cnd => clO q.2) B) (fun q _ => Nat.le_trans (PySem.W.Datum.depth_le (clO q.2)) (by decide)) (fun q hq H14 s14 Q14 hQ14 => ?hturn) (fun p14 H14 n14 s14 e14 => ?hdone)
        case hturn =>
          obtain ⟨t, tr, h0, h1, h2⟩ := (hB3 q hq).sm s14
          obtain ⟨g1, g2⟩ := (hLm q.2).mp (by rw [← hB2]; exact List.mem_map_of_mem hq)
          have gl := (lead_len g2).1
          rw [h0]
          walk_at "g"
          refine ⟨tr, q.2.1, false, rfl, sq_l h2, by omega, fun u hu => by have := ((g1.len ok) u hu).2.1; omega, fun v H15 s15 _ d15 => ?_⟩
          walk_at "g"
          refine k_sl_t (sm_t s15 h1) (fun p16 H16 s16 h16 => ?_)
          walk_at "g"
          refine k_nTup (by walk_at "sz") (fun T H17 n17 s17 e17 => ?_)
          exact hQ14 _ _ (s15.trans (s16.trans s17)) (.tup (sq_t e17) (.cons (dp_sm (s16.trans s17) d15) (.cons (.tup (sm_t s17 h16) (.cons (.int _) (.cons (.str _) .nil))) .nil)))
        case hdone =>
          generalize hBS : B.mergeSort (dataLe false fun q => PySem.W.Datum.toD (clO q.2)) = BS at e14
          have eLS : BS.map (·.2) = L.mergeSort (dataLe false fun c => PySem.W.Datum.toD (clO c)) := by
            rw [← hBS, ← hB2, List.map_mergeSort (s := dataLe false fun c => PySem.W.Datum.toD (clO c))]
            intro x _ y _
            rfl
          have mB : ∀ q ∈ BS, q ∈ B := fun q hq => by
            rw [← hBS] at hq
            exact List.mem_mergeSort.mp hq
          have hA : Aheads S us (BS.map (·.2)) := ⟨fun c => by rw [eLS, List.mem_mergeSort]; exact hLm c, by
            rw [eLS]
            exact (rise_sort tri_cl clO (fun a b => clO_inj) hl3).imp fun h => by rw [← cl_lt]; exact h⟩
          have lS : (BS.map (·.2)).length ≤ 40000 := by rw [eLS, List.length_mergeSort]; exact lL
          have hdue : Dp K H14 (.ref p14) (.list ((BS.map (·.2)).map dCn)) := .lst (sq_l e14) (by
            clear hBS eLS hA lS e14
            induction BS with
            | nil => exact .nil
            | cons q BS ih => exact .cons ((hB3 q (mB q List.mem_cons_self)).sm s14).dp (ih fun q' h' => mB q' (List.mem_cons_of_mem _ h')))
          generalize BS.map (·.2) = LS at hA lS hdue
          have x914 : ExtN H9 H14 := (same_ext s912).trans (x13.trans (same_ext s14))
          have T14 : TbA K H14 := tabs_sm s14 T13
          have e914 := ext_lst x914 e9
          have e1014 := ext_lst ((same_ext (s11.trans s12)).trans (x13.trans (same_ext s14))) e10
          have xB14 := x9.trans x914
          walk_at "g"
          refine k_nFor walk_range (fun j σ H' => (∃ (y13 y16 y17 : Option V), σ = [some (.ref a), some (.ref b), some (.ref m), some (.ref ah), some (.ref pw), y5, some (.ref D), y7, some (.int (k : Nat)), some (.ref pr), y10, some (.ref ph), some (.ref p14), y13, y14, y15, y16, y17, y18, y19]) ∧ ExtN H14 H' ∧ TbA K H') ⟨⟨_, _, _, rfl⟩, ExtN.refl _, T14⟩ (fun _ _ _ _ _ => trivial) (fun j x σ Ha Hb hj h hy => ?ht7) (fun σ H' h => ?he7)
          case he7 =>
            obtain ⟨⟨y13, y16, y17, rfl⟩, xb, tb'⟩ := h
            exact ⟨⟨_, _, _, _, _, _, _, _, _, _, _, _, _, _, rfl⟩, xB14.trans xb, tb'⟩
          case ht7 =>
            obtain ⟨⟨y13, y16, y17, rfl⟩, xb, tb'⟩ := h
            obtain ⟨rfl, rfl⟩ := y_rng hy
            walk_at "g"
            refine ⟨ah, ph, S, us, false, rfl, (hsB.ext xB14).ext xb, ok, sq_l (ext_lst xb e1014), by omega, fun u hu => by have := wl u hu; omega, tb', fun _ L2 p ws H15 hA2 hL2 fp x15 T15 ep hah => ?_, fun j hj => absurd hj (by rw [bad]; exact fun z => nomatch z)⟩
            have eL : L2 = LS := rise_eq (fun a b => lt_asym (ckO a) (ckO b)) hA2.rise hA.rise fun c => by rw [hA2.mem, hA.mem]
            subst eL
            walk_at "g"
            refine ⟨_, _, _, rfl, .lst (sq_l ep) (ah_dps hah), dp_ext (xb.trans x15) hdue, (good_cns ok (by omega) hA2 hL2).fit, fun H16 s16 => ?_⟩
            have ep16 := s16 _ _ ep
            have hah16 := AhAt.all s16 hah
            have T16 : TbA K H16 := tabs_sm s16 T15
            have x16 : ExtN Hb H16 := x15.trans (same_ext s16)
            have eh16 := ext_lst (xb.trans x16) e1014
            have er16 := ext_lst (xb.trans x16) e914
            walk_at "g"
            refine k_ne_d (.lst (sq_l eh16) (dp_tS us)) (.lst (sq_l er16) (dp_tS us)) ((good_allW ok hw (by omega) 0).shaped (by decide)) ((good_allW ok hw (by omega) 0).shaped (by decide)) ?_
            rw [eqv_rows, decide_eq_true rfl]
            have lws := Paired.length hah16
            have hmu : ∀ v ∈ ws, MuAt K Hb H16 20 v := fun v hv => by
              obtain ⟨i0, hi0⟩ := List.mem_iff_getElem?.mp hv
              obtain ⟨c, hc, t, tr, h0, h1, h2, h3⟩ := pr_get hah16 hi0
              obtain ⟨g1, g2⟩ := (hA2.mem c).mp (List.mem_of_getElem? hc)
              have gl := (lead_len g2).1
              refine ⟨t, tr, _, _, _, h0, h1, h2, by rw [len_tS]; omega, fun z hz => ?_, h3⟩
              obtain ⟨u, _, rfl⟩ := List.mem_map.mp hz
              exact ⟨_, rfl⟩
            walk_at "g"
            refine k_nFor (walk_list (xs := ws)) (fun i σ H' => (∃ (y17 : Option V), σ = [some (.ref a), some (.ref b), some (.ref m), some (.ref ah), some (.ref pw), y5, some (.ref D), y7, some (.int (k : Nat)), some (.ref pr), y10, some (.ref ph), some (.ref p14), some (.int (j : Nat)), y14, y15, some (.ref p), y17, y18, y19]) ∧ H' p = some (.lst ws) ∧ (∀ v ∈ ws, MuAt K Hb H' (20 + i) v) ∧ ExtN Hb H' ∧ TbA K H') ⟨⟨_, rfl⟩, ep16, hmu, x16, T16⟩ (fun i σ H' _ h => sq_l h.2.1) (fun i x σ Hc Hd hi h hy => ?ht8) (fun σ H' h => ?he8)
            case he8 =>
              obtain ⟨⟨y17, rfl⟩, _, _, xc, tc⟩ := h
              exact ⟨⟨_, _, _, rfl⟩, xb.trans xc, tc⟩
            case ht8 =>
              obtain ⟨⟨y17, rfl⟩, epc, hmc, xc, tc⟩ := h
              obtain ⟨rfl, hv⟩ := hy
              obtain ⟨t, tr, vx, vy, zs, rfl, h1, h2, h3, h4, h5⟩ := hmc x (List.mem_of_getElem? hv)
              have hi' : i < ws.length := hi
              walk_at "g"
              refine k_append h2 (by omega) ?_
              have npt : p ≠ tr := fun z => by
                rw [z, h2] at epc
                have e := HO.lst.inj (Option.some.inj epc)
                rw [← e] at hv
                obtain ⟨s', hs'⟩ := h4 _ (List.mem_of_getElem? hv)
                cases hs'
              walk_at "g"
              exact ⟨⟨_, rfl⟩, by rw [upd_ne npt]; exact epc, fun v hv2 => (hmc v hv2).add h2 h3 h4, ext_mut xc h5, tabs_mut h2 (fun _ z => nomatch z) (fun _ z => nomatch z) tc⟩
end
end Lw
set_option autoImplicit true
set_option pp.maxSteps 1200
set_option Elab.async false
set_option linter.all false
set_option maxRecDepth 100000
set_option maxHeartbeats 1000000

namespace Lw
open PySem PySem.Spec PyProof.Rows L2 Gk
theorem facts {P : Program} {w : World} {K : PySem.W.Frag} {h : Heap} {mg : Str → Option Value} {f : Addr} (X : K.In h) (G : h.Ns mainGlobals mg) (hfa : mg ("law" : Str) = some (.ref f)) (c : SaysX fa fx fn K) :
    ∃ fd : FuncData, (∀ (s : Shared) (v : Value), BindsTo s fd ⟨[v], []⟩ [("_law_script", v)]) ∧ ∀ base : Heap, K.In base → base.Ns mainGlobals mg → LamX.TabB base mg (He.cT K ("ahead_of", none)).1 (He.cT K ("ahead_of", none)).2 → LamX.TabB base mg (He.cT K ("law", none)).1 (He.cT K ("law", none)).2 → FnOk P w K mg base CX0 12 f fd ["_law_script"] (spLawU K) := by
  obtain ⟨fd0, F0⟩ := c.def_ 0 (d := dd0) rfl
  obtain ⟨fd1, F1⟩ := c.def_ 1 (d := dd1) rfl
  obtain ⟨fd2, F2⟩ := c.def_ 2 (d := dd2) rfl
  obtain ⟨fd3, F3⟩ := c.def_ 3 (d := dd3) rfl
  obtain ⟨fd4, F4⟩ := c.def_ 4 (d := dd4) rfl
  obtain ⟨fd5, F5⟩ := c.def_ 5 (d := dd5) rfl
  obtain ⟨fd6, F6⟩ := c.def_ 6 (d := dd6) rfl
  obtain ⟨fd7, F7⟩ := c.def_ 7 (d := dd7) rfl
  obtain ⟨fd8, F8⟩ := c.def_ 8 (d := dd8) rfl
  obtain ⟨fd9, F9⟩ := c.def_ 9 (d := dd9) rfl
  obtain ⟨fd10, F10⟩ := c.def_ 10 (d := dd10) rfl
  obtain ⟨fd11, F11⟩ := c.def_ 11 (d := dd11) rfl
  obtain ⟨fd12, F12⟩ := c.def_ 12 (d := dd12) rfl
  obtain ⟨fd13, F13⟩ := c.def_ 13 (d := dd13) rfl
  obtain ⟨fd14, F14⟩ := c.def_ 14 (d := dd14) rfl
  obtain ⟨fd15, F15⟩ := c.def_ 15 (d := dd15) rfl
  obtain ⟨fd16, F16⟩ := c.def_ 16 (d := dd16) rfl
  obtain ⟨fd17, F17⟩ := c.def_ 17 (d := dd17) rfl
  obtain ⟨fd18, F18⟩ := c.def_ 18 (d := dd18) rfl
  obtain ⟨fd19, F19⟩ := c.def_ 19 (d := dd19) rfl
  obtain ⟨fd20, F20⟩ := c.def_ 20 (d := dd20) rfl
  obtain ⟨fd21, F21⟩ := c.def_ 21 (d := dd21) rfl
  obtain ⟨fd22, F22⟩ := c.def_ 22 (d := dd22) rfl
  obtain ⟨fd23, F23⟩ := c.def_ 23 (d := dd23) rfl
  obtain ⟨fd24, F24⟩ := c.def_ 24 (d := dd24) rfl
  obtain ⟨fd25, F25⟩ := c.def_ 25 (d := dd25) rfl
  obtain ⟨fd26, F26⟩ := c.def_ 26 (d := dd26) rfl
  obtain ⟨fd27, F27⟩ := c.def_ 27 (d := dd27) rfl
  obtain ⟨fd28, F28⟩ := c.def_ 28 (d := dd28) rfl
  obtain ⟨fd29, F29⟩ := c.def_ 29 (d := dd29) rfl
  obtain ⟨fd30, F30⟩ := c.def_ 30 (d := dd30) rfl
  obtain ⟨fd31, F31⟩ := c.def_ 31 (d := dd31) rfl
  obtain ⟨fd32, F32⟩ := c.def_ 32 (d := dd32) rfl
  obtain ⟨fd33, F33⟩ := c.def_ 33 (d := dd33) rfl
  obtain ⟨fd34, F34⟩ := c.def_ 34 (d := dd34) rfl
  obtain ⟨fd35, F35⟩ := c.def_ 35 (d := dd35) rfl
  obtain ⟨fd36, F36⟩ := c.def_ 36 (d := dd36) rfl
  obtain ⟨fd37, F37⟩ := c.def_ 37 (d := dd37) rfl
  obtain ⟨fd38, F38⟩ := c.def_ 38 (d := dd38) rfl
  obtain ⟨fd39, F39⟩ := c.def_ 39 (d := dd39) rfl
  obtain ⟨fd40, F40⟩ := c.def_ 40 (d := dd40) rfl
  have g_BadWord := He.glo_ok X G (c.fact 0 (f := .glo "BadWord") rfl)
  have g_House := He.glo_ok X G (c.fact 1 (f := .glo "House") rfl)
  have g_SIDES := He.glo_ok X G (c.fact 2 (f := .glo "SIDES") rfl)
  have g_Lbag := He.glo_ok X G (c.fact 3 (f := .glo "_law_bag") rfl)
  have g_Lbehind := He.glo_ok X G (c.fact 4 (f := .glo "_law_behind") rfl)
  have g_Lbites := He.glo_ok X G (c.fact 5 (f := .glo "_law_bites") rfl)
  have g_Lcut := He.glo_ok X G (c.fact 6 (f := .glo "_law_cut") rfl)
  have g_Lgrown := He.glo_ok X G (c.fact 7 (f := .glo "_law_grown") rfl)
  have g_Lhouse := He.glo_ok X G (c.fact 8 (f := .glo "_law_house") rfl)
  have g_Lletters := He.glo_ok X G (c.fact 9 (f := .glo "_law_letters") rfl)
  have g_Lmade := He.glo_ok X G (c.fact 10 (f := .glo "_law_made") rfl)
  have g_Lmeasures := He.glo_ok X G (c.fact 11 (f := .glo "_law_measures") rfl)
  have g_Lone := He.glo_ok X G (c.fact 12 (f := .glo "_law_one") rfl)
  have g_Lpull := He.glo_ok X G (c.fact 13 (f := .glo "_law_pull") rfl)
  have g_Lrank := He.glo_ok X G (c.fact 14 (f := .glo "_law_rank") rfl)
  have g_Lrow := He.glo_ok X G (c.fact 15 (f := .glo "_law_row") rfl)
  have g_Lsame := He.glo_ok X G (c.fact 16 (f := .glo "_law_same") rfl)
  have g_Ltaste := He.glo_ok X G (c.fact 17 (f := .glo "_law_taste") rfl)
  have g_Lwords := He.glo_ok X G (c.fact 18 (f := .glo "_law_words") rfl)
  have g_ahead := He.glo_ok X G (c.fact 19 (f := .glo "ahead") rfl)
  have g_ahead_of := He.glo_ok X G (c.fact 20 (f := .glo "ahead_of") rfl)
  have g_behind := He.glo_ok X G (c.fact 21 (f := .glo "behind") rfl)
  have g_cut_long := He.glo_ok X G (c.fact 22 (f := .glo "cut_long") rfl)
  have g_eaten_of := He.glo_ok X G (c.fact 23 (f := .glo "eaten_of") rfl)
  have g_grown := He.glo_ok X G (c.fact 24 (f := .glo "grown") rfl)
  have g_is_word := He.glo_ok X G (c.fact 25 (f := .glo "is_word") rfl)
  have g_law := He.glo_ok X G (c.fact 26 (f := .glo "law") rfl)
  have g_need_eats := He.glo_ok X G (c.fact 27 (f := .glo "need_eats") rfl)
  have g_need_letters := He.glo_ok X G (c.fact 28 (f := .glo "need_letters") rfl)
  have g_need_row := He.glo_ok X G (c.fact 29 (f := .glo "need_row") rfl)
  have g_need_table := He.glo_ok X G (c.fact 30 (f := .glo "need_table") rfl)
  have g_parted_long := He.glo_ok X G (c.fact 31 (f := .glo "parted_long") rfl)
  have g_row_rank := He.glo_ok X G (c.fact 32 (f := .glo "row_rank") rfl)
  have g_word_count := He.glo_ok X G (c.fact 33 (f := .glo "word_count") rfl)
  have g_word_rank := He.glo_ok X G (c.fact 34 (f := .glo "word_rank") rfl)
  have g_words := He.glo_ok X G (c.fact 35 (f := .glo "words") rfl)
  have f_all := He.free_ok X G (c.fact 36 (f := .free "all") rfl)
  have f_enumerate := He.free_ok X G (c.fact 37 (f := .free "enumerate") rfl)
  have f_isinstance := He.free_ok X G (c.fact 38 (f := .free "isinstance") rfl)
  have f_len := He.free_ok X G (c.fact 39 (f := .free "len") rfl)
  have f_list := He.free_ok X G (c.fact 40 (f := .free "list") rfl)
  have f_max := He.free_ok X G (c.fact 41 (f := .free "max") rfl)
  have f_min := He.free_ok X G (c.fact 42 (f := .free "min") rfl)
  have f_range := He.free_ok X G (c.fact 43 (f := .free "range") rfl)
  have f_repr := He.free_ok X G (c.fact 44 (f := .free "repr") rfl)
  have f_set := He.free_ok X G (c.fact 45 (f := .free "set") rfl)
  have f_sorted := He.free_ok X G (c.fact 46 (f := .free "sorted") rfl)
  have f_sum := He.free_ok X G (c.fact 47 (f := .free "sum") rfl)
  have f_tuple := He.free_ok X G (c.fact 48 (f := .free "tuple") rfl)
  have f_zip := He.free_ok X G (c.fact 49 (f := .free "zip") rfl)
  have c_MOST_ROW := He.int_ok X G (c.fact 50 (f := .int "MOST_ROW" 12) rfl)
  have c_MOST_TASTES := He.int_ok X G (c.fact 51 (f := .int "MOST_TASTES" 4) rfl)
  have c_MOST_WORDS := He.int_ok X G (c.fact 52 (f := .int "MOST_WORDS" 14) rfl)
  have c_SMALL := He.str_ok X G (c.fact 53 (f := .str "SMALL" "abcdefghijklmnopqrstuvwxyz") rfl)
  have a_House := c.fact 54 (f := .cls "House") rfl
  have a_mk := c.fact 55 (f := .mkr "House") rfl
  have n1 := c.fact 56 (f := .noat "House" "signs") rfl
  have n2 := c.fact 57 (f := .noat "House" "rooms") rfl
  have n3 := c.fact 58 (f := .noat "House" "triples") rfl
  have n4 := c.fact 59 (f := .noat "House" "chewed") rfl
  have n5 := c.fact 60 (f := .noat "House" "putting") rfl
  have n6 := c.fact 61 (f := .noat "House" "span") rfl
  have n7 := c.fact 62 (f := .noat "House" "cutting") rfl
  have m_House_letters := c.fact 63 (f := .meth "House" "letters") rfl
  have m_House_most := c.fact 64 (f := .meth "House" "most") rfl
  have m_House_tasted := c.fact 65 (f := .meth "House" "tasted") rfl
  have m_House_chew := c.fact 66 (f := .meth "House" "chew") rfl
  have m_House_put := c.fact 67 (f := .meth "House" "put") rfl
  have m_House_cut := c.fact 68 (f := .meth "House" "cut") rfl
  have x0 := c.more 0 (f := .tup "SIDES" [.str "left", .str "right"]) rfl
  have x1 := c.more 1 (f := .oex "BadWord") rfl
  have x2 := c.more 2 (f := .field "BadWord" "word") rfl
  have x3 := c.more 3 (f := .field "BadWord" "at") rfl
  have x4 := c.more 4 (f := .ptn "ahead_of" "law") rfl
  have x5 := c.more 5 (f := .ptn "law" "ahead_of") rfl
  have huT_ahead_of : ∀ p ∈ TT K, p.1 = (He.cT K ("ahead_of", none)).2 → p.2 = lq "ahead_of" := fun p hp e => by
    rcases List.mem_cons.mp hp with rfl | hp
    · rfl
    rcases List.mem_cons.mp hp with rfl | hp
    · exact absurd e (of_decide_eq_true x5)
    cases hp
  have huT_law : ∀ p ∈ TT K, p.1 = (He.cT K ("law", none)).2 → p.2 = lq "law" := fun p hp e => by
    rcases List.mem_cons.mp hp with rfl | hp
    · exact absurd e (of_decide_eq_true x4)
    rcases List.mem_cons.mp hp with rfl | hp
    · rfl
    cases hp
  have e := hfa.symm.trans g_law
  cases e
  have b := FunD.bindsA (ps := ["_law_script"]) F40 fun _ _ _ _ _ _ us hl => match us, hl with | [_], _ => rfl
  refine ⟨fd40, fun s v => b s [v] rfl, fun base Kb Gb tb_ahead_of tb => ?_⟩
  have c_SIDES : GloT K mg "SIDES" [V.str (Str.ofString "left"), V.str (Str.ofString "right")] := ⟨g_SIDES, fun H => He.tupB_ok (vs := [.str "left", .str "right"]) x0 H⟩
  have c_Lbag := ok_Lbag (P := P) (w := w) (K := K) (mg := mg) (base := base) F0 g_Lbag f_len f_list
  have c_Lpull := ok_Lpull (P := P) (w := w) (K := K) (mg := mg) (base := base) F1 g_Lpull f_len
  have c_Lone := ok_Lone (P := P) (w := w) (K := K) (mg := mg) (base := base) F2 g_Lone f_len c_Lpull
  have c_Lsame := ok_Lsame (P := P) (w := w) (K := K) (mg := mg) (base := base) F3 g_Lsame f_len f_isinstance f_list f_tuple f_repr f_zip f_all 4
  have c_Lletters := ok_Lletters (P := P) (w := w) (K := K) (mg := mg) (base := base) F4 g_Lletters f_range f_sorted c_Lpull
  have hC : HsC K := ⟨He.cls_ok a_House, He.noat_ok n1, He.noat_ok n2, He.noat_ok n3, He.noat_ok n4, He.noat_ok n5, He.noat_ok n6, He.noat_ok n7⟩
  have c_word_count := ok_word_count (P := P) (w := w) (K := K) (mg := mg) (base := base) F5 g_word_count f_sum
  have c_need_letters := ok_need_letters (P := P) (w := w) (K := K) (mg := mg) (base := base) F6 g_need_letters f_len f_all f_sorted f_set c_SMALL
  have c_need_table := ok_need_table (P := P) (w := w) (K := K) (mg := mg) (base := base) F7 g_need_table f_len f_all f_enumerate c_MOST_TASTES
  have c_need_eats := ok_need_eats (P := P) (w := w) (K := K) (mg := mg) (base := base) F8 g_need_eats f_enumerate c_SIDES
  have c_House_init := ok_House_init (P := P) (w := w) (K := K) (mg := mg) (base := base) F9 hC f_tuple f_sorted f_all f_len c_MOST_WORDS c_need_eats c_need_table c_word_count c_need_letters
  have c_House_letters := ok_House_letters (P := P) (w := w) (K := K) (mg := mg) (base := base) F10 hC (He.meth_ok m_House_letters)
  have c_House_most := ok_House_most (P := P) (w := w) (K := K) (mg := mg) (base := base) F11 hC (He.meth_ok m_House_most)
  have c_House_tasted := ok_House_tasted (P := P) (w := w) (K := K) (mg := mg) (base := base) F12 hC (He.meth_ok m_House_tasted)
  have c_House_chew := ok_House_chew (P := P) (w := w) (K := K) (mg := mg) (base := base) F13 hC (He.meth_ok m_House_chew)
  have c_House_put := ok_House_put (P := P) (w := w) (K := K) (mg := mg) (base := base) F14 hC (He.meth_ok m_House_put)
  have c_House_cut := ok_House_cut (P := P) (w := w) (K := K) (mg := mg) (base := base) F15 hC (He.meth_ok m_House_cut)
  have c_is_word := ok_is_word (P := P) (w := w) (K := K) (mg := mg) (base := base) F16 g_is_word f_len f_all c_House_letters c_House_most
  have c_words := ok_words (P := P) (w := w) (K := K) (mg := mg) (base := base) F17 g_words f_range c_House_letters c_House_most
  have c_BadWord := made_BadWord (P := P) (w := w) (K := K) (mg := mg) (base := base) F18 g_BadWord (oex_ok x1) (of_decide_eq_true x2) (of_decide_eq_true x3)
  have c_need_row := ok_need_row (P := P) (w := w) (K := K) (mg := mg) (base := base) F19 g_need_row f_len f_enumerate c_MOST_ROW c_is_word c_BadWord
  have c_cut_long := ok_cut_long (P := P) (w := w) (K := K) (mg := mg) (base := base) F20 g_cut_long f_len c_House_most c_House_cut
  have c_grown := ok_grown (P := P) (w := w) (K := K) (mg := mg) (base := base) F21 g_grown f_len f_max c_House_put c_House_chew
  have c_behind := ok_behind (P := P) (w := w) (K := K) (mg := mg) (base := base) F22 g_behind hC f_len f_min c_House_tasted c_cut_long c_grown
  have c_word_rank := ok_word_rank (P := P) (w := w) (K := K) (mg := mg) (base := base) F23 g_word_rank f_len
  have c_row_rank := ok_row_rank (P := P) (w := w) (K := K) (mg := mg) (base := base) F24 g_row_rank f_len f_tuple c_word_rank
  have c_eaten_of := ok_eaten_of (P := P) (w := w) (K := K) (mg := mg) (base := base) F25 g_eaten_of f_len c_words c_House_chew
  have c_parted_long := ok_parted_long (P := P) (w := w) (K := K) (mg := mg) (base := base) F26 g_parted_long f_len f_max f_range c_House_put c_House_most c_eaten_of
  have c_ahead_of := ok_ahead_of (P := P) (w := w) (K := K) (mg := mg) (base := base) F27 g_ahead_of tb_ahead_of huT_ahead_of f_len f_range f_list f_tuple f_sorted c_House_most c_cut_long c_parted_long c_behind c_row_rank
  have c_ahead := ok_ahead (P := P) (w := w) (K := K) (mg := mg) (base := base) F28 g_ahead f_list c_need_row c_ahead_of
  have c_Lmeasures := ok_Lmeasures (P := P) (w := w) (K := K) (mg := mg) (base := base) F29 g_Lmeasures c_Lone
  have c_Lhouse := ok_Lhouse (P := P) (w := w) (K := K) (mg := mg) (base := base) F30 g_Lhouse f_range f_tuple f_sum c_Lpull c_Lone c_Lmeasures c_Lletters
  have c_House := House_made F9 g_House (He.mkr_ok a_mk) c_House_init
  have c_Lmade := ok_Lmade (P := P) (w := w) (K := K) (mg := mg) (base := base) F31 g_Lmade f_list c_House
  have c_Lwords := ok_Lwords (P := P) (w := w) (K := K) (mg := mg) (base := base) F32 g_Lwords f_range
  have c_Ltaste := ok_Ltaste (P := P) (w := w) (K := K) (mg := mg) (base := base) F33 g_Ltaste
  have c_Lcut := ok_Lcut (P := P) (w := w) (K := K) (mg := mg) (base := base) F34 g_Lcut f_len
  have c_Lgrown := ok_Lgrown (P := P) (w := w) (K := K) (mg := mg) (base := base) F35 g_Lgrown f_len f_range
  have c_Lbehind := ok_Lbehind (P := P) (w := w) (K := K) (mg := mg) (base := base) F36 g_Lbehind f_len f_min c_Ltaste c_Lcut c_Lgrown
  have c_Lbites := ok_Lbites (P := P) (w := w) (K := K) (mg := mg) (base := base) F37 g_Lbites f_len f_range c_Lbehind
  have c_Lrow := ok_Lrow (P := P) (w := w) (K := K) (mg := mg) (base := base) F38 g_Lrow f_range c_Lpull c_Lone c_Lwords
  have c_Lrank := ok_Lrank (P := P) (w := w) (K := K) (mg := mg) (base := base) F39 g_Lrank f_len
  exact ok_law (P := P) (w := w) (K := K) (mg := mg) (base := base) F40 tb huT_law f_range f_tuple f_list f_sorted c_Lbag c_Lone c_Lsame c_Lhouse c_Lmade c_Lwords c_Lrow c_Lrank c_Lbehind c_Lbites c_ahead
end Lw
open PySem PySem.W PySem.Calls PyProof.Rows
theorem PySem.Challenge.cw_gulprow_k36_rows_that_stood_ahead_holds : PySem.Challenge.rw_gulprow_k36_rows_that_stood_ahead.Holds := by
  refine Lw.pre ?hc
  case hc =>
    refine LamX.walk_ofTsE (l := PySem.Challenge.rw_gulprow_k36_rows_that_stood_ahead) (n := 63) (k := 12) (x := "_law_script") (CX := fun _ => L2.CX0) rfl (by decide) (by kernel_rfl) ⟨rfl, by decide, by decide⟩ ?F (fun _ _ _ _ _ z => z)
    intro w mg fa h Y G hmg0
    obtain ⟨K, KX, c⟩ := Y
    have hmg : mg ("law" : PySem.Str) = some (.ref fa) := by
      have e : (HandSHeadRun.topDef (OpenLaw.row PySem.Challenge.rw_gulprow_k36_rows_that_stood_ahead).prog 58).name = ("law" : PySem.Str) := by kernel_rfl
      rw [← e]
      exact hmg0
    obtain ⟨fd, hb, hF⟩ := Lw.facts (P := (PySem.Challenge.rw_gulprow_k36_rows_that_stood_ahead).prog) (w := w) KX G hmg c.x
    have em : ∀ p ∈ [He.cT K ("ahead_of", none), He.cT K ("law", none)], h.get? p.2 = some { cls := .none, data := .fields #[] } := fun p hp => by
      rcases List.mem_cons.mp hp with rfl | hp
      · exact c.empty _ List.mem_cons_self
      rcases List.mem_cons.mp hp with rfl | hp
      · exact c.empty _ (List.mem_cons_of_mem _ List.mem_cons_self)
      cases hp
    have ou : ∀ p ∈ [He.cT K ("ahead_of", none), He.cT K ("law", none)], K.lookup p.2 = none := fun p hp => by
      rcases List.mem_cons.mp hp with rfl | hp
      · exact c.out _ List.mem_cons_self
      rcases List.mem_cons.mp hp with rfl | hp
      · exact c.out _ (List.mem_cons_of_mem _ List.mem_cons_self)
      cases hp
    have hd : ∀ p ∈ [He.cT K ("ahead_of", none), He.cT K ("law", none)], PySem.W.CodeHd h p.1 p.2 := fun p hp => by
      rcases List.mem_cons.mp hp with rfl | hp
      · exact PySem.W.codeHd_of_K KX (c.hd _ List.mem_cons_self)
      rcases List.mem_cons.mp hp with rfl | hp
      · exact PySem.W.codeHd_of_K KX (c.hd _ (List.mem_cons_of_mem _ List.mem_cons_self))
      cases hp
    exact ⟨K, KX, fd, [He.cT K ("ahead_of", none), He.cT K ("law", none)], Lw.spLawU K, em, ou, hd, hb, fun H a ns hl _ ht hS => ⟨a, ns, rfl, hS, hl, List.forall_mem_cons.mpr ⟨ht _ List.mem_cons_self, List.forall_mem_cons.mpr ⟨ht _ (List.mem_cons_of_mem _ List.mem_cons_self), fun _ h => nomatch h⟩⟩, fun _ => rfl⟩, fun base Kb Gb hT => hF base Kb Gb (hT _ List.mem_cons_self) (hT _ (List.mem_cons_of_mem _ List.mem_cons_self))⟩
